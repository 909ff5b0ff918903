import PyProof.Rows.All
import Wide.All
import OpenK.AllK
import Wide.FinOn
import HandS.ForMost
import HandS.Wide
import HandS.Walk
import HandS.IsInst
import HandS.Sort
import HandS.Deep
import HandS.ListItems
import HandS.DictComp
import KE.SortData
import PyProof.ListStr
import HandS.RaiseMore
import HandS.Codes
import HandS.Defaults
import HandS.HeadHook2
import HandS.WideMore
import HandS.TupAny
import HandS.Zip
import HandS.Style
import HandS.Conv
import KE.KDictSum
import PyProof.LongRange
import PyProof.ListRange
import HandS.ListEq
import HandS.DictEq
import KE.KEqDict
import PyProof.MeetsIn
import PyProof.EqAt
import HandS.TupMul
import HandS.SetFor
import PySem.Challenge.RW_lastcopy_k02_prefixes_and_splits
set_option Elab.async false
set_option linter.all false
set_option maxRecDepth 100000
namespace Ev
open PySem L2

/-! ### data, slots -/
abbrev D := PyData
/-- a value's mark: frozen, or owned to a depth (0: its own node alone) -/
inductive Fg where
  | f
  | o (n : Nat)
  deriving DecidableEq
abbrev Sl := Option (D × Fg)
abbrev En := List Sl
abbrev Fp := Addr → Prop
def Fp.no : Fp := fun _ => False
def Fp.or (A B : Fp) : Fp := fun a => A a ∨ B a
def kD : Key → D
  | .inl i => .int i
  | .inr s => .str s

/-! ### frozen data -/
mutual
inductive Fz (K : PySem.W.Frag) (F : Hp) : V → D → Prop
  | non : Fz K F .non .none
  | bl (b : Bool) : Fz K F (.bl b) (.bool b)
  | int (i : Int) : Fz K F (.int i) (.int i)
  | str (x : Str) : Fz K F (.str x) (.str x)
  | lst {a : Addr} {xs : List V} {ds : List D} : SqL K F a xs → FzAll K F xs ds → Fz K F (.ref a) (.list ds)
  | tup {a : Addr} {xs : List V} {ds : List D} : SqT K F a xs → FzAll K F xs ds → Fz K F (.ref a) (.tuple ds)
  | dct {a : Addr} {kvs : List (Key × V)} {ds : List (D × D)} : Rd F a (.dK kvs) → FzKV K F kvs ds → Fz K F (.ref a) (.dict ds)
inductive FzAll (K : PySem.W.Frag) (F : Hp) : List V → List D → Prop
  | nil : FzAll K F [] []
  | cons {v : V} {d : D} {vs : List V} {ds : List D} : Fz K F v d → FzAll K F vs ds → FzAll K F (v :: vs) (d :: ds)
inductive FzKV (K : PySem.W.Frag) (F : Hp) : List (Key × V) → List (D × D) → Prop
  | nil : FzKV K F [] []
  | cons {k : Key} {v : V} {d : D} {vs : List (Key × V)} {ds : List (D × D)} : Fz K F v d → FzKV K F vs ds → FzKV K F ((k, v) :: vs) ((kD k, d) :: ds)
end
mutual
def still : D → Bool
  | .none | .bool _ | .int _ | .str _ => true
  | .tuple ds => stillAll ds
  | _ => false
def stillAll : List D → Bool
  | [] => true
  | d :: ds => still d && stillAll ds
end
mutual
inductive Ow (K : PySem.W.Frag) (F H : Hp) : Nat → V → D → Fp → Prop
  | fz {v : V} {d : D} : Fz K F v d → Ow K F H 0 v d Fp.no
  | sc {n : Nat} {v : V} {d : D} : Fz K F v d → still d = true → Ow K F H n v d Fp.no
  | lst {n : Nat} {p : Addr} {xs : List V} {ds : List D} {B : Fp} : H p = some (.lst xs) → OwAll K F H n xs ds B → ¬ B p → Ow K F H (n + 1) (.ref p) (.list ds) (fun a => a = p ∨ B a)
  | tup {n : Nat} {p : Addr} {xs : List V} {ds : List D} {B : Fp} : H p = some (.tup xs) → OwAll K F H n xs ds B → ¬ B p → Ow K F H (n + 1) (.ref p) (.tuple ds) (fun a => a = p ∨ B a)
  | dct {n : Nat} {p : Addr} {kvs : List (Key × V)} {ds : List (D × D)} {B : Fp} : H p = some (.dK kvs) → OwKV K F H n kvs ds B → ¬ B p → Ow K F H (n + 1) (.ref p) (.dict ds) (fun a => a = p ∨ B a)
inductive OwAll (K : PySem.W.Frag) (F H : Hp) : Nat → List V → List D → Fp → Prop
  | nil {n : Nat} : OwAll K F H n [] [] Fp.no
  | cons {n : Nat} {v : V} {d : D} {vs : List V} {ds : List D} {A B : Fp} : Ow K F H n v d A → OwAll K F H n vs ds B → (∀ a, A a → ¬ B a) → OwAll K F H n (v :: vs) (d :: ds) (Fp.or A B)
inductive OwKV (K : PySem.W.Frag) (F H : Hp) : Nat → List (Key × V) → List (D × D) → Fp → Prop
  | nil {n : Nat} : OwKV K F H n [] [] Fp.no
  | cons {n : Nat} {k : Key} {v : V} {d : D} {vs : List (Key × V)} {ds : List (D × D)} {A B : Fp} : Ow K F H n v d A → OwKV K F H n vs ds B → (∀ a, A a → ¬ B a) → OwKV K F H n ((k, v) :: vs) ((kD k, d) :: ds) (Fp.or A B)
end

section
variable {K : PySem.W.Frag} {F F' H H' : Hp}
theorem sqL_mono {a : Addr} {xs : List V} (e : Same F F') (h : SqL K F a xs) : SqL K F' a xs := e.seq h
theorem rd_mono {a : Addr} {u : HO} (e : Same F F') (h : Rd F a u) : Rd F' a u := by
  rcases h with h | ⟨o, h⟩
  · exact .inl (e _ _ h)
  · exact .inr ⟨o, e _ _ h⟩
theorem sqT_mono {a : Addr} {xs : List V} (e : Same F F') (h : SqT K F a xs) : SqT K F' a xs := by
  rcases h with h | h
  · exact .inl (rd_mono e h)
  · exact .inr h
mutual
theorem Fz.mono (e : Same F F') : ∀ {v : V} {d : D}, Fz K F v d → Fz K F' v d
  | _, _, .non => .non
  | _, _, .bl b => .bl b
  | _, _, .int i => .int i
  | _, _, .str x => .str x
  | _, _, .lst h a => .lst (sqL_mono e h) (FzAll.mono e a)
  | _, _, .tup h a => .tup (sqT_mono e h) (FzAll.mono e a)
  | _, _, .dct h a => .dct (rd_mono e h) (FzKV.mono e a)
theorem FzAll.mono (e : Same F F') : ∀ {v : List V} {d : List D}, FzAll K F v d → FzAll K F' v d
  | _, _, .nil => .nil
  | _, _, .cons h a => .cons (Fz.mono e h) (FzAll.mono e a)
theorem FzKV.mono (e : Same F F') : ∀ {v : List (Key × V)} {d : List (D × D)}, FzKV K F v d → FzKV K F' v d
  | _, _, .nil => .nil
  | _, _, .cons h a => .cons (Fz.mono e h) (FzKV.mono e a)
end
mutual
theorem Ow.mono (e : Same F F') : ∀ {n : Nat} {v : V} {d : D} {A : Fp}, (∀ a, A a → H' a = H a) → Ow K F H n v d A → Ow K F' H' n v d A
  | _, _, _, _, _, .fz h => .fz (h.mono e)
  | _, _, _, _, _, .sc h q => .sc (h.mono e) q
  | _, _, _, _, k, .lst h a n => .lst ((k _ (.inl rfl)).trans h) (OwAll.mono e (fun a q => k a (.inr q)) a) n
  | _, _, _, _, k, .tup h a n => .tup ((k _ (.inl rfl)).trans h) (OwAll.mono e (fun a q => k a (.inr q)) a) n
  | _, _, _, _, k, .dct h a n => .dct ((k _ (.inl rfl)).trans h) (OwKV.mono e (fun a q => k a (.inr q)) a) n
theorem OwAll.mono (e : Same F F') : ∀ {n : Nat} {v : List V} {d : List D} {A : Fp}, (∀ a, A a → H' a = H a) → OwAll K F H n v d A → OwAll K F' H' n v d A
  | _, _, _, _, _, .nil => .nil
  | _, _, _, _, k, .cons h a n => .cons (Ow.mono e (fun a q => k a (.inl q)) h) (OwAll.mono e (fun a q => k a (.inr q)) a) n
theorem OwKV.mono (e : Same F F') : ∀ {n : Nat} {v : List (Key × V)} {d : List (D × D)} {A : Fp}, (∀ a, A a → H' a = H a) → OwKV K F H n v d A → OwKV K F' H' n v d A
  | _, _, _, _, _, .nil => .nil
  | _, _, _, _, k, .cons h a n => .cons (Ow.mono e (fun a q => k a (.inl q)) h) (OwKV.mono e (fun a q => k a (.inr q)) a) n
end
mutual
theorem Ow.tr : ∀ {n : Nat} {v : V} {d : D} {A : Fp}, Ow K F H n v d A → ∀ a, A a → H a ≠ none
  | _, _, _, _, .fz h, _, q => q.elim
  | _, _, _, _, .sc h _, _, q => q.elim
  | _, _, _, _, .lst h a n, b, q => by
    rcases q with rfl | q
    · rw [h]; exact fun z => nomatch z
    · exact OwAll.tr a b q
  | _, _, _, _, .tup h a n, b, q => by
    rcases q with rfl | q
    · rw [h]; exact fun z => nomatch z
    · exact OwAll.tr a b q
  | _, _, _, _, .dct h a n, b, q => by
    rcases q with rfl | q
    · rw [h]; exact fun z => nomatch z
    · exact OwKV.tr a b q
theorem OwAll.tr : ∀ {n : Nat} {v : List V} {d : List D} {A : Fp}, OwAll K F H n v d A → ∀ a, A a → H a ≠ none
  | _, _, _, _, .nil, _, q => q.elim
  | _, _, _, _, .cons h a n, b, q => q.elim (Ow.tr h b) (OwAll.tr a b)
theorem OwKV.tr : ∀ {n : Nat} {v : List (Key × V)} {d : List (D × D)} {A : Fp}, OwKV K F H n v d A → ∀ a, A a → H a ≠ none
  | _, _, _, _, .nil, _, q => q.elim
  | _, _, _, _, .cons h a n, b, q => q.elim (Ow.tr h b) (OwKV.tr a b)
end
mutual
theorem Ow.freeze (e : Same F F') : ∀ {n : Nat} {v : V} {d : D} {A : Fp}, (∀ a, A a → F' a = H a) → Ow K F H n v d A → Fz K F' v d
  | _, _, _, _, _, .fz h => h.mono e
  | _, _, _, _, _, .sc h _ => h.mono e
  | _, _, _, _, k, .lst h a n => .lst (SqL.of ((k _ (.inl rfl)).trans h)) (OwAll.freeze e (fun a q => k a (.inr q)) a)
  | _, _, _, _, k, .tup h a n => .tup (SqT.of ((k _ (.inl rfl)).trans h)) (OwAll.freeze e (fun a q => k a (.inr q)) a)
  | _, _, _, _, k, .dct h a n => .dct (.inl ((k _ (.inl rfl)).trans h)) (OwKV.freeze e (fun a q => k a (.inr q)) a)
theorem OwAll.freeze (e : Same F F') : ∀ {n : Nat} {v : List V} {d : List D} {A : Fp}, (∀ a, A a → F' a = H a) → OwAll K F H n v d A → FzAll K F' v d
  | _, _, _, _, _, .nil => .nil
  | _, _, _, _, k, .cons h a n => .cons (Ow.freeze e (fun a q => k a (.inl q)) h) (OwAll.freeze e (fun a q => k a (.inr q)) a)
theorem OwKV.freeze (e : Same F F') : ∀ {n : Nat} {v : List (Key × V)} {d : List (D × D)} {A : Fp}, (∀ a, A a → F' a = H a) → OwKV K F H n v d A → FzKV K F' v d
  | _, _, _, _, _, .nil => .nil
  | _, _, _, _, k, .cons h a n => .cons (Ow.freeze e (fun a q => k a (.inl q)) h) (OwKV.freeze e (fun a q => k a (.inr q)) a)
end
theorem fp_ext {A B : Fp} (h : ∀ a, A a ↔ B a) : A = B := funext fun a => propext (h a)
theorem Ow.cast {n : Nat} {v : V} {d : D} {A B : Fp} (h : Ow K F H n v d A) (e : ∀ a, A a ↔ B a) : Ow K F H n v d B := by rw [← fp_ext e]; exact h
theorem OwAll.cast {n : Nat} {v : List V} {d : List D} {A B : Fp} (h : OwAll K F H n v d A) (e : ∀ a, A a ↔ B a) : OwAll K F H n v d B := by rw [← fp_ext e]; exact h
theorem OwKV.cast {n : Nat} {v : List (Key × V)} {d : List (D × D)} {A B : Fp} (h : OwKV K F H n v d A) (e : ∀ a, A a ↔ B a) : OwKV K F H n v d B := by rw [← fp_ext e]; exact h
theorem OwAll.of_fz : ∀ {vs : List V} {ds : List D}, FzAll K F vs ds → OwAll K F H 0 vs ds Fp.no
  | _, _, .nil => .nil
  | _, _, .cons h a => (OwAll.cons (.fz h) (OwAll.of_fz a) (fun _ z => z.elim)).cast fun a => ⟨fun z => z.elim id id, fun z => z.elim⟩
theorem OwKV.of_fz : ∀ {vs : List (Key × V)} {ds : List (D × D)}, FzKV K F vs ds → OwKV K F H 0 vs ds Fp.no
  | _, _, .nil => .nil
  | _, _, .cons h a => (OwKV.cons (.fz h) (OwKV.of_fz a) (fun _ z => z.elim)).cast fun a => ⟨fun z => z.elim id id, fun z => z.elim⟩
theorem FzAll.length : ∀ {vs : List V} {ds : List D}, FzAll K F vs ds → vs.length = ds.length
  | _, _, .nil => rfl
  | _, _, .cons _ a => by rw [List.length_cons, List.length_cons, FzAll.length a]
theorem OwAll.length : ∀ {n : Nat} {vs : List V} {ds : List D} {A : Fp}, OwAll K F H n vs ds A → vs.length = ds.length
  | _, _, _, _, .nil => rfl
  | _, _, _, _, .cons _ a _ => by rw [List.length_cons, List.length_cons, OwAll.length a]
theorem FzKV.length : ∀ {vs : List (Key × V)} {ds : List (D × D)}, FzKV K F vs ds → vs.length = ds.length
  | _, _, .nil => rfl
  | _, _, .cons _ a => by rw [List.length_cons, List.length_cons, FzKV.length a]
theorem FzAll.get : ∀ {vs : List V} {ds : List D} {i : Nat} {d : D}, FzAll K F vs ds → ds[i]? = some d → ∃ v, vs[i]? = some v ∧ Fz K F v d
  | _, _, _, _, .nil, h => by simp at h
  | _, _, 0, _, .cons h a, e => by simp at e; subst e; exact ⟨_, rfl, h⟩
  | _, _, i + 1, _, .cons h a, e => by
    obtain ⟨v, h1, h2⟩ := FzAll.get (i := i) a (by simpa using e)
    exact ⟨v, by simpa using h1, h2⟩
theorem FzAll.at_ : ∀ {vs : List V} {ds : List D} {i : Nat} {v : V}, FzAll K F vs ds → vs[i]? = some v → ∃ d, ds[i]? = some d ∧ Fz K F v d
  | _, _, _, _, .nil, h => by simp at h
  | _, _, 0, _, .cons h a, e => by simp at e; subst e; exact ⟨_, rfl, h⟩
  | _, _, i + 1, _, .cons h a, e => by
    obtain ⟨v, h1, h2⟩ := FzAll.at_ (i := i) a (by simpa using e)
    exact ⟨v, by simpa using h1, h2⟩
theorem FzAll.append : ∀ {vs : List V} {ds : List D} {ws : List V} {es : List D}, FzAll K F vs ds → FzAll K F ws es → FzAll K F (vs ++ ws) (ds ++ es)
  | _, _, _, _, .nil, h => h
  | _, _, _, _, .cons h a, g => .cons h (FzAll.append a g)

/-! ### a value with its mark -/
def VD (K : PySem.W.Frag) (F H : Hp) (v : V) (d : D) : Fg → Fp → Prop
  | .o n, R => Ow K F H (n + 1) v d R
  | .f, R => Fz K F v d ∧ R = Fp.no
theorem VD.ow {v : V} {d : D} {o : Fg} {R : Fp} (h : VD K F H v d o R) : ∃ n, Ow K F H n v d R := by
  cases o with
  | o n => exact ⟨_, h⟩
  | f => obtain ⟨h, rfl⟩ := h; exact ⟨0, .fz h⟩
theorem VD.freeze {v : V} {d : D} {o : Fg} {R : Fp} (h : VD K F H v d o R) (hn : ∀ a, R a → F a = none) : Fz K (fun a => open Classical in if R a then H a else F a) v d := by
  obtain ⟨n, h⟩ := h.ow
  exact Ow.freeze (fun a o e => by
    show (open Classical in if R a then H a else F a) = some o
    rw [if_neg (fun z => by rw [hn a z] at e; cases e)]; exact e) (fun a ha => if_pos ha) h
theorem VD.mono {v : V} {d : D} {o : Fg} {R : Fp} (e : Same F F') (k : ∀ a, R a → H' a = H a) (h : VD K F H v d o R) : VD K F' H' v d o R := by
  cases o with
  | o n => exact Ow.mono e k h
  | f => exact ⟨h.1.mono e, h.2⟩
theorem VD.tr {v : V} {d : D} {o : Fg} {R : Fp} (h : VD K F H v d o R) : ∀ a, R a → H a ≠ none := let ⟨_, q⟩ := h.ow; q.tr

/-! ### the state -/
structure EnvOk (K : PySem.W.Frag) (F H : Hp) (σ : L2.St) (e : En) (A : Nat → Fp) : Prop where
  len : e.length = σ.length
  at_ : ∀ i d o, e[i]? = some (some (d, o)) → ∃ v, σ[i]? = some (some v) ∧ VD K F H v d o (A i)
  un : ∀ i, (∀ d n, e[i]? ≠ some (some (d, .o n))) → ∀ a, ¬ A i a
  dis : ∀ i j a, A i a → A j a → i = j
  nf : ∀ i a, A i a → F a = none
  sub : Same F H
def U (A : Nat → Fp) : Fp := fun a => ∃ i, A i a
theorem EnvOk.tr {σ : L2.St} {e : En} {A : Nat → Fp} (E : EnvOk K F H σ e A) : ∀ a, U A a → H a ≠ none := by
  rintro a ⟨i, ha⟩
  by_cases h : ∃ d n, e[i]? = some (some (d, Fg.o n))
  · obtain ⟨d, n, h⟩ := h
    obtain ⟨v, _, q⟩ := E.at_ i d _ h
    exact q.tr a ha
  · exact (E.un i (fun d n z => h ⟨d, n, z⟩) a ha).elim
structure Step (F : Hp) (A : Fp) (H : Hp) (F' : Hp) (A' : Fp) (H' : Hp) : Prop where
  ff : Same F F'
  keep : ∀ a, H a ≠ none → H' a ≠ none
  fr : ∀ a, H a ≠ none → F a = none → ¬ A a → H' a = H a ∧ F' a = none ∧ ¬ A' a
theorem Step.trans {A A1 A2 : Fp} {F1 F2 H1 H2 : Hp} (a : Step F A H F1 A1 H1) (b : Step F1 A1 H1 F2 A2 H2) : Step F A H F2 A2 H2 :=
  ⟨a.ff.trans b.ff, fun x h => b.keep x (a.keep x h), fun x h1 h2 h3 => by
    obtain ⟨q1, q2, q3⟩ := a.fr x h1 h2 h3
    obtain ⟨r1, r2, r3⟩ := b.fr x (a.keep x h1) q2 q3
    exact ⟨r1.trans q1, r2, r3⟩⟩
theorem Step.refl {A : Fp} : Step F A H F A H := ⟨Same.refl _, fun _ h => h, fun _ _ h2 h3 => ⟨rfl, h2, h3⟩⟩
/-- a temp value R is held while the step goes on beside it -/
theorem Step.hold {A A1 A2 R : Fp} {F1 F2 H1 H2 : Hp} (a : Step F A H F1 (Fp.or A1 R) H1) (b : Step F1 A1 H1 F2 A2 H2) (hn : ∀ x, R x → F1 x = none) (hd : ∀ x, R x → ¬ A1 x) (ht : ∀ x, R x → H1 x ≠ none) :
    Step F A H F2 (Fp.or A2 R) H2 ∧ (∀ x, R x → H2 x = H1 x ∧ F2 x = none ∧ ¬ A2 x) :=
  ⟨⟨a.ff.trans b.ff, fun x h => b.keep x (a.keep x h), fun x h1 h2 h3 => by
    obtain ⟨q1, q2, q3⟩ := a.fr x h1 h2 h3
    obtain ⟨r1, r2, r3⟩ := b.fr x (a.keep x h1) q2 (fun z => q3 (.inl z))
    exact ⟨r1.trans q1, r2, fun z => z.elim r3 (fun y => q3 (.inr y))⟩⟩, fun x hx => b.fr x (ht x hx) (hn x hx) (hd x hx)⟩
/-- a fresh piece of heap, known or not -/
structure Fresh (F H F' H' : Hp) : Prop where
  ff : Same F F'
  hh : Same H H'
  sub : Same F' H'
  new : ∀ a, F' a ≠ none → F a ≠ none ∨ H a = none
theorem Fresh.refl (s : Same F H) : Fresh F H F H := ⟨Same.refl _, Same.refl _, s, fun _ h => .inl h⟩
theorem same_ne {a : Addr} (e : Same H H') (h : H a ≠ none) : H' a = H a := by
  cases q : H a with
  | none => exact absurd q h
  | some o => exact e a o q
theorem Fresh.nf {a : Addr} (e : Fresh F H F' H') (h : F a = none) (t : H a ≠ none) : F' a = none := by
  cases q : F' a with
  | none => rfl
  | some o => rcases e.new a (by rw [q]; exact fun z => nomatch z) with z | z
              · exact absurd h z
              · exact absurd z t
theorem EnvOk.fresh {σ : L2.St} {e : En} {A : Nat → Fp} (E : EnvOk K F H σ e A) (f : Fresh F H F' H') : EnvOk K F' H' σ e A :=
  ⟨E.len, fun i d o h => by
    obtain ⟨v, h1, h2⟩ := E.at_ i d o h
    exact ⟨v, h1, h2.mono f.ff fun a ha => same_ne f.hh (h2.tr a ha)⟩, E.un, E.dis, fun i a ha => f.nf (E.nf i a ha) (E.tr a ⟨i, ha⟩), f.sub⟩
theorem Fresh.step {A R : Fp} (f : Fresh F H F' H') (hR : ∀ a, R a → H a = none) : Step F A H F' (Fp.or A R) H' :=
  ⟨f.ff, fun a h => by rw [same_ne f.hh h]; exact h, fun a h1 h2 h3 => ⟨same_ne f.hh h1, f.nf h2 h1, fun z => z.elim h3 fun r => h1 (hR a r)⟩⟩
theorem Fresh.trans {F1 F2 H1 H2 : Hp} (a : Fresh F H F1 H1) (b : Fresh F1 H1 F2 H2) : Fresh F H F2 H2 :=
  ⟨a.ff.trans b.ff, a.hh.trans b.hh, b.sub, fun x h => by
    rcases b.new x h with z | z
    · exact a.new x z
    · refine .inr ?_
      cases q : H x with
      | none => rfl
      | some o => rw [a.hh x o q] at z; cases z⟩
theorem or_no {A : Fp} : Fp.or A Fp.no = A := fp_ext fun a => ⟨fun h => h.elim id fun z => z.elim, .inl⟩
/-- the frozen part, with what A holds of H -/
noncomputable def cup (F : Hp) (A : Fp) (H : Hp) : Hp := fun a => open Classical in if A a then H a else F a
theorem cup_in {A : Fp} {a : Addr} (h : A a) : cup F A H a = H a := by unfold cup; rw [if_pos h]
theorem cup_out {A : Fp} {a : Addr} (h : ¬ A a) : cup F A H a = F a := by unfold cup; rw [if_neg h]
theorem cup_same {A : Fp} (hn : ∀ a, A a → F a = none) : Same F (cup F A H) := fun a o e => by
  rw [cup_out (fun z => by rw [hn a z] at e; cases e)]; exact e
theorem cup_sub {A : Fp} (s : Same F H) : Same (cup F A H) H := fun a o e => by
  by_cases h : A a
  · rw [cup_in h] at e; exact e
  · rw [cup_out h] at e; exact s a o e
theorem VD.fzc {v : V} {d : D} {o : Fg} {R : Fp} (h : VD K F H v d o R) (hn : ∀ a, R a → F a = none) : Fz K (cup F R H) v d := h.freeze hn
end
end Ev
namespace Ev
open PySem L2
abbrev Ex := En → Option (D × Fg × En)
abbrev Tx := En → Option (Bool × En)
abbrev Ax := En → Option (List D × En)

section
variable (K : PySem.W.Frag)
def cE (f : Ex) : TE := fun σ H Q => ∃ (F : Hp) (e : En) (A : Nat → Fp) (d : D) (o : Fg) (e' : En), EnvOk K F H σ e A ∧ f e = some (d, o, e') ∧
  ∀ (v : V) (H' F' : Hp) (A' : Nat → Fp) (R : Fp), EnvOk K F' H' σ e' A' → VD K F' H' v d o R → (∀ a, R a → F' a = none) → (∀ a, R a → ¬ U A' a) → Step F (U A) H F' (Fp.or (U A') R) H' → Q v H'
def cT (f : Tx) : TT := fun σ H Q => ∃ (F : Hp) (e : En) (A : Nat → Fp) (b : Bool) (e' : En), EnvOk K F H σ e A ∧ f e = some (b, e') ∧
  ∀ (H' F' : Hp) (A' : Nat → Fp), EnvOk K F' H' σ e' A' → Step F (U A) H F' (U A') H' → Q b H'
def cA (f : Ax) : TA := fun σ H Q => ∃ (F : Hp) (e : En) (A : Nat → Fp) (ds : List D) (e' : En), EnvOk K F H σ e A ∧ f e = some (ds, e') ∧
  ∀ (vs : List V) (H' F' : Hp) (A' : Nat → Fp), EnvOk K F' H' σ e' A' → FzAll K F' vs ds → Step F (U A) H F' (U A') H' → Q vs H'
/-- owned items -/
def cO (n : Nat) (f : Ax) : TA := fun σ H Q => ∃ (F : Hp) (e : En) (A : Nat → Fp) (ds : List D) (e' : En), EnvOk K F H σ e A ∧ f e = some (ds, e') ∧
  ∀ (vs : List V) (H' F' : Hp) (A' : Nat → Fp) (R : Fp), EnvOk K F' H' σ e' A' → OwAll K F' H' n vs ds R → (∀ a, R a → F' a = none) → (∀ a, R a → ¬ U A' a) → Step F (U A) H F' (Fp.or (U A') R) H' → Q vs H'
end
abbrev E (X : Cx) (e : Expr) (f : Ex) : Prop := PE X e (cE X.K f)
abbrev T (X : Cx) (e : Expr) (f : Tx) : Prop := PT X e (cT X.K f)
abbrev W (X : Cx) (e : Expr) (f : Tx) : Prop := PW X e (cT X.K f)
abbrev As (X : Cx) (es : List Expr) (f : Ax) : Prop := PA X es (cA X.K f)
abbrev Os (X : Cx) (n : Nat) (es : List Expr) (f : Ax) : Prop := PA X es (cO X.K n f)

section
variable {X : Cx} {e : Expr} {es : List Expr}
theorem pe_imp {t t' : TE} (h : PE X e t) (i : ∀ σ H Q, t' σ H Q → t σ H Q) : PE X e t' := ⟨fun pins s σ H Q I q => h.run pins s σ H Q I (i σ H Q q)⟩
theorem pt_imp {t t' : TT} (h : PT X e t) (i : ∀ σ H Q, t' σ H Q → t σ H Q) : PT X e t' := ⟨fun pins s σ H Q I q => h.run pins s σ H Q I (i σ H Q q)⟩
theorem pw_imp {t t' : TT} (h : PW X e t) (i : ∀ σ H Q, t' σ H Q → t σ H Q) : PW X e t' := ⟨fun wh pins s σ H Q I q => h.run wh pins s σ H Q I (i σ H Q q)⟩
theorem pa_imp {t t' : TA} (h : PA X es t) (i : ∀ σ H Q, t' σ H Q → t σ H Q) : PA X es t' := ⟨fun pos pins s σ H Q I q => h.run pos pins s σ H Q I (i σ H Q q)⟩
end

/-! ### moves of the state -/
section
variable {K : PySem.W.Frag} {F F' H H' : Hp} {σ : L2.St} {e : En} {A : Nat → Fp}
theorem len_of {i : Nat} {v : Sl} (h : e[i]? = some v) : i < e.length := (List.getElem?_eq_some_iff.mp h).1
/-- a piece known so far to nobody but us becomes known -/
theorem EnvOk.cup (E : EnvOk K F H σ e A) {R : Fp} (hn : ∀ a, R a → F a = none) (hd : ∀ a, R a → ¬ U A a) : EnvOk K (cup F R H) H σ e A :=
  ⟨E.len, fun i d o h => by
    obtain ⟨v, h1, h2⟩ := E.at_ i d o h
    exact ⟨v, h1, h2.mono (cup_same hn) fun _ _ => rfl⟩, E.un, E.dis, fun i a ha => by
    rw [cup_out (fun z => hd a z ⟨i, ha⟩)]; exact E.nf i a ha, cup_sub E.sub⟩
theorem cup_step {R B : Fp} (hn : ∀ a, R a → F a = none) : Step F (Fp.or B R) H (Ev.cup F R H) B H :=
  ⟨cup_same hn, fun _ h => h, fun a h1 h2 h3 => ⟨rfl, by rw [cup_out (fun z => h3 (.inr z))]; exact h2, fun z => h3 (.inl z)⟩⟩
/-- slot i gets a value that we hold -/
theorem EnvOk.put (E : EnvOk K F H σ e A) {i : Nat} {v : V} {d : D} {o : Fg} {R : Fp} (hi : i < e.length) (hv : VD K F H v d o R) (hn : ∀ a, R a → F a = none) (hd : ∀ a, R a → ¬ U A a) :
    EnvOk K F H (σ.set i (some v)) (e.set i (some (d, o))) (fun j => if j = i then R else A j) := by
  refine ⟨by rw [List.length_set, List.length_set, E.len], fun j d' o' h => ?_, fun j h a ha => ?_, fun j k a h1 h2 => ?_, fun j a h => ?_, E.sub⟩
  · by_cases hj : j = i
    · subst hj
      rw [List.getElem?_set_self hi] at h
      cases h
      exact ⟨v, by rw [List.getElem?_set_self (by rw [← E.len]; exact hi)], by rw [if_pos rfl]; exact hv⟩
    · rw [List.getElem?_set_ne (Ne.symm hj)] at h
      obtain ⟨v', h1, h2⟩ := E.at_ j d' o' h
      exact ⟨v', by rw [List.getElem?_set_ne (Ne.symm hj)]; exact h1, by rw [if_neg hj]; exact h2⟩
  · by_cases hj : j = i
    · subst hj
      rw [if_pos rfl] at ha
      cases o with
      | o n => exact h d n (List.getElem?_set_self hi)
      | f => rw [hv.2] at ha; exact ha
    · rw [if_neg hj] at ha
      exact E.un j (fun d' n z => h d' n (by rw [List.getElem?_set_ne (Ne.symm hj)]; exact z)) a ha
  · by_cases hj : j = i
    · by_cases hk : k = i
      · rw [hj, hk]
      · rw [if_pos hj] at h1
        rw [if_neg hk] at h2
        exact (hd a h1 ⟨k, h2⟩).elim
    · by_cases hk : k = i
      · rw [if_neg hj] at h1
        rw [if_pos hk] at h2
        exact (hd a h2 ⟨j, h1⟩).elim
      · rw [if_neg hj] at h1
        rw [if_neg hk] at h2
        exact E.dis j k a h1 h2
  · by_cases hj : j = i
    · rw [if_pos hj] at h; exact hn a h
    · rw [if_neg hj] at h; exact E.nf j a h
theorem put_step {i : Nat} {R : Fp} : Step F (Fp.or (U A) R) H F (U fun j => if j = i then R else A j) H :=
  ⟨Same.refl _, fun _ h => h, fun a _ h2 h3 => ⟨rfl, h2, fun ⟨j, z⟩ => by
    dsimp only at z
    by_cases hj : j = i
    · rw [if_pos hj] at z; exact h3 (.inr z)
    · rw [if_neg hj] at z; exact h3 (.inl ⟨j, z⟩)⟩⟩
/-- a slot is emptied -/
theorem EnvOk.drop (E : EnvOk K F H σ e A) (i : Nat) : EnvOk K F H σ (e.set i none) (fun j => if j = i then Fp.no else A j) := by
  refine ⟨by rw [List.length_set, E.len], fun j d' o' h => ?_, fun j h a ha => ?_, fun j k a h1 h2 => ?_, fun j a h => ?_, E.sub⟩
  · by_cases hj : j = i
    · subst hj
      by_cases hl : j < e.length
      · rw [List.getElem?_set_self hl] at h; cases h
      · rw [List.getElem?_eq_none (by rw [List.length_set]; omega)] at h; cases h
    · rw [List.getElem?_set_ne (Ne.symm hj)] at h
      obtain ⟨v', h1, h2⟩ := E.at_ j d' o' h
      exact ⟨v', h1, by rw [if_neg hj]; exact h2⟩
  · by_cases hj : j = i
    · rw [if_pos hj] at ha; exact ha
    · rw [if_neg hj] at ha
      exact E.un j (fun d' n z => h d' n (by rw [List.getElem?_set_ne (Ne.symm hj)]; exact z)) a ha
  · by_cases hj : j = i
    · rw [if_pos hj] at h1; exact h1.elim
    · by_cases hk : k = i
      · rw [if_pos hk] at h2; exact h2.elim
      · rw [if_neg hj] at h1
        rw [if_neg hk] at h2
        exact E.dis j k a h1 h2
  · by_cases hj : j = i
    · rw [if_pos hj] at h; exact h.elim
    · rw [if_neg hj] at h; exact E.nf j a h
/-- a slot's footprint is taken out of the rest -/
theorem take_step {i : Nat} : Step F (U A) H F (Fp.or (U fun j => if j = i then Fp.no else A j) (A i)) H :=
  ⟨Same.refl _, fun _ h => h, fun a _ h2 h3 => ⟨rfl, h2, fun z => h3 (by
    rcases z with ⟨j, z⟩ | z
    · by_cases hj : j = i
      · rw [if_pos hj] at z; exact z.elim
      · rw [if_neg hj] at z; exact ⟨j, z⟩
    · exact ⟨i, z⟩)⟩⟩
theorem EnvOk.take_dis (E : EnvOk K F H σ e A) (i : Nat) : ∀ a, A i a → ¬ U (fun j => if j = i then Fp.no else A j) a := fun a h ⟨j, z⟩ => by
  dsimp only at z
  by_cases hj : j = i
  · rw [if_pos hj] at z; exact z
  · rw [if_neg hj] at z; exact hj (E.dis j i a z h)
theorem drop_step {i : Nat} : Step F (U A) H F (U fun j => if j = i then Fp.no else A j) H :=
  ⟨Same.refl _, fun _ h => h, fun a _ h2 h3 => ⟨rfl, h2, fun ⟨j, z⟩ => h3 (by
    dsimp only at z
    by_cases hj : j = i
    · rw [if_pos hj] at z; exact z.elim
    · rw [if_neg hj] at z; exact ⟨j, z⟩)⟩⟩
/-- a slot is frozen -/
theorem EnvOk.freeze (E : EnvOk K F H σ e A) {i n : Nat} {d : D} (h : e[i]? = some (some (d, .o n))) :
    EnvOk K (Ev.cup F (A i) H) H σ (e.set i (some (d, .f))) (fun j => if j = i then Fp.no else A j) := by
  obtain ⟨v, h1, h2⟩ := E.at_ i d _ h
  have hi := len_of h
  have E1 := (E.drop i).cup (R := A i) (fun a ha => E.nf i a ha) (E.take_dis i)
  have hv : Fz K (Ev.cup F (A i) H) v d := Ow.freeze (cup_same fun a ha => E.nf i a ha) (fun a ha => cup_in ha) h2
  have E2 := E1.put (i := i) (v := v) (d := d) (o := .f) (R := Fp.no) (by rw [List.length_set]; exact hi) ⟨hv, rfl⟩ (fun _ z => z.elim) (fun _ z => z.elim)
  have es : σ.set i (some v) = σ := by
    apply List.ext_getElem?
    intro j
    by_cases hj : j = i
    · subst hj; rw [List.getElem?_set_self (List.getElem?_eq_some_iff.mp h1).1, h1]
    · rw [List.getElem?_set_ne (Ne.symm hj)]
  have ee : (e.set i none).set i (some (d, .f)) = e.set i (some (d, .f)) := List.set_set ..
  have eA : (fun j => if j = i then Fp.no else (fun j => if j = i then Fp.no else A j) j) = (fun j => if j = i then Fp.no else A j) := by
    funext j; by_cases hj : j = i
    · rw [if_pos hj, if_pos hj]
    · rw [if_neg hj]
  rw [es, ee, eA] at E2
  exact E2
theorem EnvOk.freeze_step (E : EnvOk K F H σ e A) {i : Nat} : Step F (U A) H (Ev.cup F (A i) H) (U fun j => if j = i then Fp.no else A j) H :=
  take_step.trans (cup_step fun a ha => E.nf i a ha)
end

/-! ### expressions -/
def bnd {β : Type} (r : Option (D × Fg × En)) (k : D → En → Option β) : Option β := match r with
  | some (d, _, e) => k d e
  | none => none
@[simp] theorem bnd_some {β : Type} {d : D} {o : Fg} {e : En} {k : D → En → Option β} : bnd (some (d, o, e)) k = k d e := rfl
@[simp] theorem bnd_none {β : Type} {k : D → En → Option β} : bnd none k = none := rfl
theorem bnd_eq {β : Type} {r : Option (D × Fg × En)} {k : D → En → Option β} {x : β} (h : bnd r k = some x) : ∃ d o e, r = some (d, o, e) ∧ k d e = some x := by
  cases r with
  | none => cases h
  | some p => exact ⟨p.1, p.2.1, p.2.2, rfl, h⟩
def xCst (d : D) : Ex := fun e => some (d, .f, e)
def xUse (i : Nat) : Ex := fun e => match e[i]? with
  | some (some (d, .o _)) => some (d, .f, e.set i (some (d, .f)))
  | some (some (d, .f)) => some (d, .f, e)
  | _ => none
def xMov (i : Nat) : Ex := fun e => match e[i]? with
  | some (some (d, .o n)) => some (d, .o n, e.set i none)
  | some (some (d, .f)) => some (d, .f, e)
  | _ => none
def xFz (f : Ex) : Ex := fun e => bnd (f e) fun d e1 => some (d, .f, e1)
def scalD : D → Bool
  | .none | .bool _ | .int _ | .str _ => true
  | _ => false
def fzS : Sl → Sl
  | some (d, _) => some (d, .f)
  | none => none
def xBrw (f : Ex) : Ex := fun e => bnd (f (e.map fzS)) fun d _ => if scalD d = true then some (d, .f, e) else none
section
variable {X : Cx} {e : Expr} {f g h : Ex} {pos : Pos}
theorem fz_scal {K : PySem.W.Frag} {F F' : Hp} {v : V} {d : D} (h : Fz K F v d) (hs : scalD d = true) : Fz K F' v d := by
  cases h with
  | non => exact .non
  | bl b => exact .bl b
  | int i => exact .int i
  | str x => exact .str x
  | lst _ _ => cases hs
  | tup _ _ => cases hs
  | dct _ _ => cases hs
theorem E.cst {v : V} {d : D} (h : PE X e (tC v)) (r : ∀ F, Fz X.K F v d) : E X e (xCst d) := pe_imp h fun σ H Q => by
  rintro ⟨F, en, A, d', o', e', E0, hf, post⟩
  cases hf
  exact post v H F A Fp.no E0 ⟨r F, rfl⟩ (fun _ z => z.elim) (fun _ z => z.elim) (by rw [or_no]; exact Step.refl)
theorem E.int {i : Int} {j : Nat} : E X (.Constant (.int i) j pos) (xCst (.int i)) := E.cst pe_int fun _ => .int i
theorem E.str {i : Str} {j : Nat} : E X (.Constant (.str i) j pos) (xCst (.str i)) := E.cst pe_str fun _ => .str i
theorem E.bool {i : Bool} {j : Nat} : E X (.Constant (.bool i) j pos) (xCst (.bool i)) := E.cst pe_bl fun _ => .bl i
theorem E.non {j : Nat} : E X (.Constant .none j pos) (xCst .none) := E.cst pe_non fun _ => .non
theorem E.use {i : Nat} (h : PE X e (tVar i)) : E X e (xUse i) := pe_imp h fun σ H Q => by
  rintro ⟨F, en, A, d, o, e', E0, hf, post⟩
  unfold xUse at hf
  split at hf
  · rename_i d1 n1 he
    cases hf
    obtain ⟨v, h1, h2⟩ := E0.at_ i d _ he
    exact ⟨v, h1, post v H _ _ Fp.no (E0.freeze he) ⟨VD.fzc h2 (fun a ha => E0.nf i a ha), rfl⟩ (fun _ z => z.elim) (fun _ z => z.elim) (by rw [or_no]; exact E0.freeze_step)⟩
  · rename_i d1 he
    cases hf
    obtain ⟨v, h1, h2⟩ := E0.at_ i d _ he
    exact ⟨v, h1, post v H F A Fp.no E0 ⟨h2.1, rfl⟩ (fun _ z => z.elim) (fun _ z => z.elim) (by rw [or_no]; exact Step.refl)⟩
  · cases hf
theorem E.mov {i : Nat} (h : PE X e (tVar i)) : E X e (xMov i) := pe_imp h fun σ H Q => by
  rintro ⟨F, en, A, d, o, e', E0, hf, post⟩
  unfold xMov at hf
  split at hf
  · rename_i d1 he
    cases hf
    obtain ⟨v, h1, h2⟩ := E0.at_ i d _ he
    exact ⟨v, h1, post v H F _ (A i) (E0.drop i) h2 (fun a ha => E0.nf i a ha) (E0.take_dis i) take_step⟩
  · rename_i d1 he
    cases hf
    obtain ⟨v, h1, h2⟩ := E0.at_ i d _ he
    exact ⟨v, h1, post v H F A Fp.no E0 ⟨h2.1, rfl⟩ (fun _ z => z.elim) (fun _ z => z.elim) (by rw [or_no]; exact Step.refl)⟩
  · cases hf
theorem E.fz (hf : E X e f) : E X e (xFz f) := pe_imp hf fun σ H Q => by
  rintro ⟨F, en, A, d, o, e', E0, hx, post⟩
  unfold xFz at hx
  obtain ⟨d1, o1, e1, h1, h2⟩ := bnd_eq hx
  cases h2
  refine ⟨F, en, A, d, o1, e', E0, h1, fun v H' F' A' R E1 hv hn hd st => ?_⟩
  refine post v H' (cup F' R H') A' Fp.no (E1.cup hn hd) ⟨hv.fzc hn, rfl⟩ (fun _ z => z.elim) (fun _ z => z.elim) ?_
  rw [or_no]
  exact st.trans (cup_step hn)
/-- all slots are frozen for a while: only a flat value comes out -/
theorem E.brw (hf : E X e f) : E X e (xBrw f) := pe_imp hf fun σ H Q => by
  rintro ⟨F, en, A, d, o, e', E0, hx, post⟩
  unfold xBrw at hx
  obtain ⟨d1, o1, e1, h1, h2⟩ := bnd_eq hx
  by_cases hs : scalD d1 = true
  · rw [if_pos hs] at h2
    cases h2
    have hn : ∀ a, U A a → F a = none := fun a ⟨i, ha⟩ => E0.nf i a ha
    have E1 : EnvOk X.K (cup F (U A) H) H σ (en.map fzS) (fun _ => Fp.no) := by
      refine ⟨by rw [List.length_map, E0.len], fun i d' o' hi => ?_, fun _ _ _ z => z.elim, fun _ _ _ z => z.elim, fun _ _ z => z.elim, cup_sub E0.sub⟩
      rw [List.getElem?_map] at hi
      cases q : en[i]? with
      | none => rw [q] at hi; cases hi
      | some s =>
        rw [q] at hi
        cases s with
        | none => cases hi
        | some p =>
          obtain ⟨d2, o2⟩ := p
          cases hi
          obtain ⟨v, g1, g2⟩ := E0.at_ i _ o2 q
          obtain ⟨n9, g3⟩ := g2.ow
          exact ⟨v, g1, Ow.freeze (cup_same hn) (fun a ha => cup_in ⟨i, ha⟩) g3, rfl⟩
    refine ⟨_, _, _, d, o1, e1, E1, h1, fun v H' F' A' R E2 hv hn' hd st => ?_⟩
    have hv' : Fz X.K (cup F' R H') v d := hv.fzc hn'
    have kA : ∀ a, U A a → H' a = H a := fun a ha => by
      have t := E0.tr a ha
      cases q : H a with
      | none => exact absurd q t
      | some u => exact E2.sub a u (st.ff a u (by rw [cup_in ha]; exact q))
    have kF : Same F H' := fun a u q => E2.sub a u (st.ff a u (cup_same hn a u q))
    refine post v H' F A Fp.no ⟨E0.len, fun i d' o' hi => ?_, E0.un, E0.dis, E0.nf, kF⟩ ⟨fz_scal hv' hs, rfl⟩ (fun _ z => z.elim) (fun _ z => z.elim) ?_
    · obtain ⟨v', g1, g2⟩ := E0.at_ i d' o' hi
      exact ⟨v', g1, g2.mono (Same.refl _) fun a ha => kA a ⟨i, ha⟩⟩
    · rw [or_no]
      refine ⟨Same.refl _, st.keep, fun a g1 g2 g3 => ⟨?_, g2, g3⟩⟩
      exact (st.fr a g1 (by rw [cup_out g3]; exact g2) (fun z => z.elim fun _ z => z.elim)).1
  · rw [if_neg hs] at h2; cases h2

/-! operations on known values -/
def OpD (K : PySem.W.Frag) (r : R2) (op : D → D → Option (D × Fg)) : Prop := ∀ (F H : Hp) (x y : V) (d1 d2 res : D) (o : Fg) (Q : VK), Same F H → Fz K F x d1 → Fz K F y d2 → op d1 d2 = some (res, o) →
  (∀ (v : V) (H' F' : Hp) (R : Fp), VD K F' H' v res o R → Fresh F H F' H' → (∀ a, R a → H a = none ∧ F' a = none) → Q v H') → r x y H Q
def UnD (K : PySem.W.Frag) (r : V → Hp → VK → Prop) (op : D → Option (D × Fg)) : Prop := ∀ (F H : Hp) (x : V) (d1 res : D) (o : Fg) (Q : VK), Same F H → Fz K F x d1 → op d1 = some (res, o) →
  (∀ (v : V) (H' F' : Hp) (R : Fp), VD K F' H' v res o R → Fresh F H F' H' → (∀ a, R a → H a = none ∧ F' a = none) → Q v H') → r x H Q
def CallD (K : PySem.W.Frag) (r : List V → Hp → VK → Prop) (op : List D → Option (D × Fg)) : Prop := ∀ (F H : Hp) (xs : List V) (ds : List D) (res : D) (o : Fg) (Q : VK), Same F H → FzAll K F xs ds → op ds = some (res, o) →
  (∀ (v : V) (H' F' : Hp) (R : Fp), VD K F' H' v res o R → Fresh F H F' H' → (∀ a, R a → H a = none ∧ F' a = none) → Q v H') → r xs H Q
def ap2 (op : D → D → Option (D × Fg)) (d1 d2 : D) (e : En) : Option (D × Fg × En) := match op d1 d2 with
  | some (r, o) => some (r, o, e)
  | none => none
def xOp (op : D → D → Option (D × Fg)) (f g : Ex) : Ex := fun e => bnd (f e) fun d1 e1 => bnd (g e1) fun d2 e2 => ap2 op d1 d2 e2
def ap1 (op : D → Option (D × Fg)) (d1 : D) (e : En) : Option (D × Fg × En) := match op d1 with
  | some (r, o) => some (r, o, e)
  | none => none
def xUn (op : D → Option (D × Fg)) (f : Ex) : Ex := fun e => bnd (f e) fun d1 e1 => ap1 op d1 e1
theorem fz_out {K : PySem.W.Frag} {F H F' H' : Hp} {σ : L2.St} {e' : En} {A' : Nat → Fp} {R : Fp} (E1 : EnvOk K F H σ e' A') (f : Fresh F H F' H') (hR : ∀ a, R a → H a = none ∧ F' a = none) :
    EnvOk K F' H' σ e' A' ∧ (∀ a, R a → F' a = none) ∧ (∀ a, R a → ¬ U A' a) ∧ Step F (U A') H F' (Fp.or (U A') R) H' :=
  ⟨E1.fresh f, fun a h => (hR a h).2, fun a h z => E1.tr a z (hR a h).1, f.step fun a h => (hR a h).1⟩
theorem E.fz_run {K : PySem.W.Frag} {f : Ex} {σ : L2.St} {H F : Hp} {en e1 : En} {A : Nat → Fp} {d : D} {o : Fg} {Q : VK} (E0 : EnvOk K F H σ en A) (h : f en = some (d, o, e1))
    (k : ∀ (v : V) (H' F' : Hp) (A' : Nat → Fp), EnvOk K F' H' σ e1 A' → Fz K F' v d → Step F (U A) H F' (U A') H' → Q v H') : cE K (xFz f) σ H Q :=
  ⟨F, en, A, d, .f, e1, E0, by unfold xFz; rw [h]; rfl, fun v H' F' A' R E1 hv _ _ st => k v H' F' A' E1 hv.1 (by have := hv.2; subst this; rw [or_no] at st; exact st)⟩
theorem step_or {F H F' H' F2 H2 : Hp} {A A1 A2 : Fp} (a : Step F A H F' A1 H') (b : Step F' A1 H' F2 A2 H2) : Step F A H F2 A2 H2 := a.trans b
theorem op_imp {K : PySem.W.Frag} {r : R2} {op : D → D → Option (D × Fg)} (hr : OpD K r op) {f g : Ex} : ∀ σ H Q, cE K (xOp op f g) σ H Q → tOp r (cE K (xFz f)) (cE K (xFz g)) σ H Q := fun σ H Q => by
  rintro ⟨F, en, A, d, o, e', E0, hx, post⟩
  obtain ⟨d1, o1, e1, h1, hx⟩ := bnd_eq hx
  obtain ⟨d2, o2, e2, h2, hx⟩ := bnd_eq hx
  unfold ap2 at hx
  split at hx
  · rename_i res o' hop
    cases hx
    refine E.fz_run E0 h1 fun x H1 F1 A1 E1 hx1 st1 => ?_
    refine E.fz_run E1 h2 fun y H2 F2 A2 E2 hy st2 => ?_
    refine hr F2 H2 x y d1 d2 d o Q E2.sub (hx1.mono st2.ff) hy hop fun v H3 F3 R hv fr hR => ?_
    obtain ⟨q1, q2, q3, q4⟩ := fz_out E2 fr hR
    exact post v H3 F3 A2 R q1 hv q2 q3 ((st1.trans st2).trans q4)
  · cases hx
theorem E.op {a b : Expr} {op : Operator} {r : R2} {opD : D → D → Option (D × Fg)} (ho : OpR X (binaryOp op) r) (hr : OpD X.K r opD) (ha : E X a f) (hb : E X b g) : E X (.BinOp a op b pos) (xOp opD f g) :=
  pe_imp (pe_op ho ha.fz hb.fz) (op_imp hr)
theorem E.cmp {a b : Expr} {op : CmpOp} {r : R2} {opD : D → D → Option (D × Fg)} (ho : OpR X (compareOp op) r) (hr : OpD X.K r opD) (ha : E X a f) (hb : E X b g) (hm : behindInMarks op b = false) : E X (.Compare a [op] [b] pos) (xOp opD f g) :=
  pe_imp (pe_cmpR ho ha.fz hb.fz hm) (op_imp hr)
theorem un_imp {K : PySem.W.Frag} {r : V → Hp → VK → Prop} {op : D → Option (D × Fg)} (hr : UnD K r op) {f : Ex} : ∀ σ H Q, cE K (xUn op f) σ H Q → tUn r (cE K (xFz f)) σ H Q := fun σ H Q => by
  rintro ⟨F, en, A, d, o, e', E0, hx, post⟩
  obtain ⟨d1, o1, e1, h1, hx⟩ := bnd_eq hx
  unfold ap1 at hx
  split at hx
  · rename_i res o' hop
    cases hx
    refine E.fz_run E0 h1 fun x H1 F1 A1 E1 hx1 st1 => ?_
    refine hr F1 H1 x d1 d o Q E1.sub hx1 hop fun v H3 F3 R hv fr hR => ?_
    obtain ⟨q1, q2, q3, q4⟩ := fz_out E1 fr hR
    exact post v H3 F3 A1 R q1 hv q2 q3 (st1.trans q4)
  · cases hx
theorem E.un {a : Expr} {op : UnaryOp} {r : V → Hp → VK → Prop} {opD : D → Option (D × Fg)} (ho : UnR X (unaryOp op) r) (hr : UnD X.K r opD) (ha : E X a f) : E X (.UnaryOp op a pos) (xUn opD f) :=
  pe_imp (pe_un ho ha.fz) (un_imp hr)

/-! arguments -/
def aNil : Ax := fun e => some ([], e)
def aCons (f : Ex) (g : Ax) : Ax := fun e => bnd (f e) fun d e1 => match g e1 with
  | some (ds, e2) => some (d :: ds, e2)
  | none => none
theorem As.nil : As X [] aNil := pa_imp pa_nil fun σ H Q => by
  rintro ⟨F, en, A, ds, e', E0, hx, post⟩
  cases hx
  exact post [] H F A E0 .nil Step.refl
theorem As.cons {es : List Expr} {g : Ax} (ha : E X e f) (hs : As X es g) (hst : starEach (e :: es) X.env = (false, eval e X.env) :: starEach es X.env := by rfl) : As X (e :: es) (aCons f g) := pa_imp (pa_cons ha.fz hs hst) fun σ H Q => by
  rintro ⟨F, en, A, ds, e', E0, hx, post⟩
  obtain ⟨d1, o1, e1, h1, hx⟩ := bnd_eq hx
  split at hx
  · rename_i ds2 e2 hg
    cases hx
    refine E.fz_run E0 h1 fun x H1 F1 A1 E1 hx1 st1 => ?_
    refine ⟨F1, e1, A1, ds2, e', E1, hg, fun vs H2 F2 A2 E2 hv st2 => ?_⟩
    exact post (x :: vs) H2 F2 A2 E2 (.cons (hx1.mono st2.ff) hv) (st1.trans st2)
  · cases hx
/-- does a value fit among things owned to depth n -/
def fits (n : Nat) (d : D) (o : Fg) : Bool := match n, o with
  | 0, .f => true
  | _, .f => still d
  | n + 1, .o m => n == m
  | 0, .o _ => false
def oCons (n : Nat) (f : Ex) (g : Ax) : Ax := fun e => match f e with
  | some (d, o, e1) => if fits n d o = true then (match g e1 with
    | some (ds, e2) => some (d :: ds, e2)
    | none => none) else none
  | none => none
theorem fits_ow {K : PySem.W.Frag} {F H : Hp} {n : Nat} {v : V} {d : D} {o : Fg} {R : Fp} (h : fits n d o = true) (hv : VD K F H v d o R) : Ow K F H n v d R := by
  cases n with
  | zero =>
    cases o with
    | f => obtain ⟨h1, rfl⟩ := hv; exact .fz h1
    | o m => cases h
  | succ n =>
    cases o with
    | f => obtain ⟨h1, rfl⟩ := hv; exact .sc h1 h
    | o m =>
      have : n = m := by simpa [fits] using h
      subst this
      exact hv
theorem Os.nil {n : Nat} : Os X n [] aNil := pa_imp pa_nil fun σ H Q => by
  rintro ⟨F, en, A, ds, e', E0, hx, post⟩
  cases hx
  exact post [] H F A Fp.no E0 .nil (fun _ z => z.elim) (fun _ z => z.elim) (by rw [or_no]; exact Step.refl)
theorem or_assoc' {A B C : Fp} : Fp.or (Fp.or A B) C = Fp.or A (Fp.or C B) := fp_ext fun a => ⟨fun h => h.elim (fun h => h.elim .inl fun z => .inr (.inr z)) fun z => .inr (.inl z), fun h => h.elim (fun z => .inl (.inl z)) fun z => z.elim .inr fun z => .inl (.inr z)⟩
theorem Os.cons {n : Nat} {es : List Expr} {g : Ax} (ha : E X e f) (hs : Os X n es g) (hst : starEach (e :: es) X.env = (false, eval e X.env) :: starEach es X.env := by rfl) : Os X n (e :: es) (oCons n f g) := pa_imp (pa_cons ha hs hst) fun σ H Q => by
  rintro ⟨F, en, A, ds, e', E0, hx, post⟩
  unfold oCons at hx
  split at hx
  · rename_i d1 o1 e1 h1
    by_cases hf : fits n d1 o1 = true
    · rw [if_pos hf] at hx
      split at hx
      · rename_i ds2 e2 hg
        cases hx
        refine ⟨F, en, A, d1, o1, e1, E0, h1, fun x H1 F1 A1 R1 E1 hv1 hn1 hd1 st1 => ?_⟩
        refine ⟨F1, e1, A1, ds2, e', E1, hg, fun vs H2 F2 A2 R2 E2 hv2 hn2 hd2 st2 => ?_⟩
        obtain ⟨st3, hh⟩ := Step.hold (A := U A) (R := R1) st1 st2 hn1 hd1 hv1.tr
        have dis : ∀ a, R1 a → ¬ R2 a := fun a z y => (hh a z).2.2 (.inr y)
        refine post (x :: vs) H2 F2 A2 (Fp.or R1 R2) E2 (.cons (Ow.mono st2.ff (fun a ha => (hh a ha).1) (fits_ow hf hv1)) hv2 dis) (fun a z => z.elim (fun z => (hh a z).2.1) (hn2 a)) (fun a z => z.elim (fun z y => (hh a z).2.2 (.inl y)) (hd2 a)) ?_
        rw [or_assoc'] at st3
        exact st3
      · cases hx
    · rw [if_neg hf] at hx; cases hx
  · cases hx
def lstD (n : Nat) (f : Ax) : Ex := fun e => match f e with
  | some (ds, e1) => if ds.length ≤ sizeLine then some (.list ds, .o n, e1) else none
  | none => none
def tupD (f : Ax) : Ex := fun e => match f e with
  | some (ds, e1) => if ds.length ≤ sizeLine then some (.tuple ds, .f, e1) else none
  | none => none
def tupO (n : Nat) (f : Ax) : Ex := fun e => match f e with
  | some (ds, e1) => if ds.length ≤ sizeLine then some (.tuple ds, .o n, e1) else none
  | none => none
section
variable {K : PySem.W.Frag} {F H : Hp} {σ : L2.St} {en : En} {A : Nat → Fp} {p : Addr} {R : Fp} {u : HO}
theorem same_new (h : H p = none) : Same H (upd H p u) := fun a o e => by rw [upd_ne (ne_of_none e h)]; exact e
theorem fresh_new (s : Same F H) (h : H p = none) : Fresh F H F (upd H p u) := ⟨Same.refl _, same_new h, s.trans (same_new h), fun _ z => .inl z⟩
/-- a new object, known at once -/
theorem fresh_know (s : Same F H) (h : H p = none) : Fresh F H (upd F p u) (upd H p u) :=
  ⟨same_new (s.free h), same_new h, fun a o e => by
    by_cases z : a = p
    · subst z; rw [upd_same] at e; rw [upd_same]; exact e
    · rw [upd_ne z] at e; rw [upd_ne z]; exact s a o e, fun a z => by
    by_cases y : a = p
    · rw [y]; exact .inr h
    · rw [upd_ne y] at z; exact .inl z⟩
end
theorem E.lst {n : Nat} {es : List Expr} {g : Ax} (hs : Os X n es g) : E X (.List es pos) (lstD n g) := pe_imp (pe_lst hs) fun σ H Q => by
  rintro ⟨F, en, A, d, o, e', E0, hx, post⟩
  unfold lstD at hx
  split at hx
  · rename_i ds e1 hg
    by_cases hl : ds.length ≤ sizeLine
    · rw [if_pos hl] at hx
      cases hx
      refine ⟨F, en, A, ds, e', E0, hg, fun vs H1 F1 A1 R E1 hv hn hd st => ⟨by rw [hv.length]; exact hl, fun p hp => ?_⟩⟩
      have fr := fresh_new (u := .lst vs) E1.sub hp
      have np : ¬ R p := fun z => hv.tr p z hp
      refine post _ _ F1 A1 (fun a => a = p ∨ R a) (E1.fresh fr) (Ow.lst upd_same (OwAll.mono (Same.refl _) (fun a ha => upd_ne (fun z => np (z ▸ ha))) hv) np) ?_ ?_ ?_
      · rintro a (rfl | ha)
        · exact E1.sub.free hp
        · exact hn a ha
      · rintro a (rfl | ha) z
        · exact E1.tr _ z hp
        · exact hd a ha z
      · refine ⟨st.ff, fun a z => by rw [same_ne fr.hh (st.keep a z)]; exact st.keep a z, fun a h1 h2 h3 => ?_⟩
        obtain ⟨q1, q2, q3⟩ := st.fr a h1 h2 h3
        have na : a ≠ p := fun z => st.keep a h1 (z ▸ hp)
        exact ⟨(upd_ne na).trans q1, q2, fun z => z.elim (fun y => q3 (.inl y)) fun y => y.elim na fun y => q3 (.inr y)⟩
    · rw [if_neg hl] at hx; cases hx
  · cases hx
theorem E.tupO {n : Nat} {es : List Expr} {g : Ax} {x1 : _} (hs : Os X n es g) : E X (.Tuple es x1 pos) (tupO n g) := pe_imp (pe_tup hs) fun σ H Q => by
  rintro ⟨F, en, A, d, o, e', E0, hx, post⟩
  unfold Ev.tupO at hx
  split at hx
  · rename_i ds e1 hg
    by_cases hl : ds.length ≤ sizeLine
    · rw [if_pos hl] at hx
      cases hx
      refine ⟨F, en, A, ds, e', E0, hg, fun vs H1 F1 A1 R E1 hv hn hd st => ⟨by rw [hv.length]; exact hl, fun p hp => ?_⟩⟩
      have fr := fresh_new (u := .tup vs) E1.sub hp
      have np : ¬ R p := fun z => hv.tr p z hp
      refine post _ _ F1 A1 (fun a => a = p ∨ R a) (E1.fresh fr) (Ow.tup upd_same (OwAll.mono (Same.refl _) (fun a ha => upd_ne (fun z => np (z ▸ ha))) hv) np) ?_ ?_ ?_
      · rintro a (rfl | ha)
        · exact E1.sub.free hp
        · exact hn a ha
      · rintro a (rfl | ha) z
        · exact E1.tr _ z hp
        · exact hd a ha z
      · refine ⟨st.ff, fun a z => by rw [same_ne fr.hh (st.keep a z)]; exact st.keep a z, fun a h1 h2 h3 => ?_⟩
        obtain ⟨q1, q2, q3⟩ := st.fr a h1 h2 h3
        have na : a ≠ p := fun z => st.keep a h1 (z ▸ hp)
        exact ⟨(upd_ne na).trans q1, q2, fun z => z.elim (fun y => q3 (.inl y)) fun y => y.elim na fun y => q3 (.inr y)⟩
    · rw [if_neg hl] at hx; cases hx
  · cases hx
theorem E.tup {es : List Expr} {g : Ax} {x1 : _} (hs : As X es g) : E X (.Tuple es x1 pos) (tupD g) := pe_imp (pe_tup hs) fun σ H Q => by
  rintro ⟨F, en, A, d, o, e', E0, hx, post⟩
  unfold tupD at hx
  split at hx
  · rename_i ds e1 hg
    by_cases hl : ds.length ≤ sizeLine
    · rw [if_pos hl] at hx
      cases hx
      refine ⟨F, en, A, ds, e', E0, hg, fun vs H1 F1 A1 E1 hv st => ⟨by rw [hv.length]; exact hl, fun p hp => ?_⟩⟩
      have fr := fresh_know (u := .tup vs) E1.sub hp
      refine post _ _ _ A1 Fp.no (E1.fresh fr) ⟨.tup (SqT.of upd_same) (hv.mono fr.ff), rfl⟩ (fun _ z => z.elim) (fun _ z => z.elim) ?_
      exact st.trans (fr.step (R := Fp.no) fun _ z => z.elim)
    · rw [if_neg hl] at hx; cases hx
  · cases hx

/-! calls of built-ins by their name -/
def apN (op : List D → Option (D × Fg)) (ds : List D) (e : En) : Option (D × Fg × En) := match op ds with
  | some (r, o) => some (r, o, e)
  | none => none
def xCall (op : List D → Option (D × Fg)) (g : Ax) : Ex := fun e => match g e with
  | some (ds, e1) => apN op ds e1
  | none => none
theorem call_imp {K : PySem.W.Frag} {r : List V → Hp → VK → Prop} {op : List D → Option (D × Fg)} (hr : CallD K r op) {g : Ax} : ∀ σ H Q, cE K (xCall op g) σ H Q → tCB r (cA K g) σ H Q := fun σ H Q => by
  rintro ⟨F, en, A, d, o, e', E0, hx, post⟩
  unfold xCall at hx
  split at hx
  · rename_i ds e1 hg
    unfold apN at hx
    split at hx
    · rename_i res o' hop
      cases hx
      refine ⟨F, en, A, ds, e', E0, hg, fun vs H1 F1 A1 E1 hv st => ?_⟩
      refine hr F1 H1 vs ds d o Q E1.sub hv hop fun v H3 F3 R hv' fr hR => ?_
      obtain ⟨q1, q2, q3, q4⟩ := fz_out E1 fr hR
      exact post v H3 F3 A1 R q1 hv' q2 q3 (st.trans q4)
    · cases hx
  · cases hx
end
end Ev
namespace Ev
open PySem L2

/-! ### tests -/
def tVal (f : Ex) : Tx := fun e => bnd (f e) fun d e1 => match d with
  | .bool b => some (b, e1)
  | _ => none
def tNo (f : Tx) : Tx := fun e => match f e with
  | some (b, e1) => some (!b, e1)
  | none => none
def tAn (f g : Tx) : Tx := fun e => match f e with
  | some (true, e1) => g e1
  | some (false, e1) => some (false, e1)
  | none => none
def tOrr (f g : Tx) : Tx := fun e => match f e with
  | some (true, e1) => some (true, e1)
  | some (false, e1) => g e1
  | none => none
def tBrw (f : Tx) : Tx := fun e => match f (e.map fzS) with
  | some (b, _) => some (b, e)
  | none => none
def xAn (f g : Ex) : Ex := fun e => bnd (f e) fun d e1 => match d with
  | .bool true => g e1
  | .bool false => some (.bool false, .f, e1)
  | _ => none
def xOrr (f g : Ex) : Ex := fun e => bnd (f e) fun d e1 => match d with
  | .bool true => some (.bool true, .f, e1)
  | .bool false => g e1
  | _ => none
def xNo (f : Ex) : Ex := fun e => bnd (f e) fun d e1 => match d with
  | .bool b => some (.bool !b, .f, e1)
  | _ => none
def xIf (c : Tx) (f g : Ex) : Ex := fun e => match c e with
  | some (true, e1) => f e1
  | some (false, e1) => g e1
  | none => none
def xChain (op op' : D → D → Option (D × Fg)) (f g h : Ex) : Ex := fun e => bnd (f e) fun d1 e1 => bnd (g e1) fun d2 e2 => match op d1 d2 with
  | some (.bool true, _) => bnd (h e2) fun d3 e3 => ap2 op' d2 d3 e3
  | some (.bool false, _) => some (.bool false, .f, e2)
  | _ => none
section
variable {X : Cx} {e : Expr} {f g h : Ex} {c c' : Tx} {pos : Pos} {K : PySem.W.Frag}
theorem T.of_run {f : Ex} {σ : L2.St} {H F : Hp} {en e1 : En} {A : Nat → Fp} {b : Bool} {o : Fg} {Q : VK} (E0 : EnvOk K F H σ en A) (h : f en = some (.bool b, o, e1))
    (k : ∀ (H' F' : Hp) (A' : Nat → Fp), EnvOk K F' H' σ e1 A' → Step F (U A) H F' (U A') H' → Q (.bl b) H') : cE K (xFz f) σ H Q :=
  E.fz_run E0 h fun v H' F' A' E1 hv st => by
    cases hv
    exact k H' F' A' E1 st
theorem val_imp : ∀ σ H Q, cT K (tVal f) σ H Q → tB (cE K (xFz f)) σ H Q := fun σ H Q => by
  rintro ⟨F, en, A, b, e', E0, hx, post⟩
  obtain ⟨d1, o1, e1, h1, hx⟩ := bnd_eq hx
  split at hx
  · cases hx
    exact T.of_run E0 h1 fun H' F' A' E1 st => ⟨_, rfl, post H' F' A' E1 st⟩
  · cases hx
theorem T.val (hf : E X e f) (he : ∀ whole, isTrue e X.env whole = (do let v ← whole; standAt e.pos; holding [v] (truthy v)) := by intro _; rfl) : T X e (tVal f) := pt_imp (pt_val hf.fz he) val_imp
theorem op_imp' {r : R2} {op : D → D → Option (D × Fg)} (hr : OpD K r op) {f g : Ex} : ∀ σ H Q, cT K (tVal (xOp op f g)) σ H Q → tTest (tOp r (cE K (xFz f)) (cE K (xFz g))) σ H Q := fun σ H Q => by
  rintro ⟨F, en, A, b, e', E0, hx, post⟩
  obtain ⟨d1, o1, e1, h1, hx⟩ := bnd_eq hx
  split at hx
  · cases hx
    refine op_imp hr σ H _ ⟨F, en, A, _, _, _, E0, h1, fun v H' F' A' R E1 hv hn hd st => ?_⟩
    have hv' : Fz K (cup F' R H') v (.bool _) := hv.fzc hn
    cases hv'
    exact ⟨_, rfl, post H' _ A' (E1.cup hn hd) (st.trans (cup_step hn))⟩
  · cases hx
theorem T.cmp {a b : Expr} {op : CmpOp} {r : R2} {opD : D → D → Option (D × Fg)} (ho : OpR X (compareOp op) r) (hr : OpD X.K r opD) (ha : E X a f) (hb : E X b g) (hm : behindInMarks op b = false) : T X (.Compare a [op] [b] pos) (tVal (xOp opD f g)) :=
  pt_imp (pt_cmpR ho ha.fz hb.fz hm) (op_imp' hr)
theorem chain_imp {r r' : R2} {op op' : D → D → Option (D × Fg)} (hr : OpD K r op) (hr' : OpD K r' op') {f g h : Ex} : ∀ σ H Q, cE K (xChain op op' f g h) σ H Q → tChain r r' (cE K (xFz f)) (cE K (xFz g)) (cE K (xFz h)) σ H Q := fun σ H Q => by
  rintro ⟨F, en, A, d, o, e', E0, hx, post⟩
  obtain ⟨d1, o1, e1, h1, hx⟩ := bnd_eq hx
  obtain ⟨d2, o2, e2, h2, hx⟩ := bnd_eq hx
  refine E.fz_run E0 h1 fun x H1 F1 A1 E1 hx1 st1 => ?_
  refine E.fz_run E1 h2 fun y H2 F2 A2 E2 hy st2 => ?_
  split at hx
  · rename_i ob hop
    obtain ⟨d3, o3, e3, h3, hx⟩ := bnd_eq hx
    refine hr F2 H2 x y d1 d2 _ _ _ E2.sub (hx1.mono st2.ff) hy hop fun v H3 F3 R hv fr hR => ?_
    obtain ⟨q1, q2, q3, q4⟩ := fz_out E2 fr hR
    have hv' : Fz K (cup F3 R H3) v (.bool true) := hv.fzc q2
    cases hv'
    refine ⟨true, rfl, iteT ?_⟩
    have q4' := q4.trans (cup_step q2)
    refine E.fz_run (q1.cup q2 q3) h3 fun z H4 F4 A4 E4 hz st4 => ?_
    unfold ap2 at hx
    split at hx
    · rename_i res o' hop'
      cases hx
      refine hr' F4 H4 y z d2 d3 _ _ _ E4.sub ((hy.mono q4'.ff).mono st4.ff) hz hop' fun v H5 F5 R5 hv5 fr5 hR5 => ?_
      obtain ⟨p1, p2, p3, p4⟩ := fz_out E4 fr5 hR5
      exact post v H5 F5 A4 R5 p1 hv5 p2 p3 ((((st1.trans st2).trans q4').trans st4).trans p4)
    · cases hx
  · rename_i ob hop
    cases hx
    refine hr F2 H2 x y d1 d2 _ _ _ E2.sub (hx1.mono st2.ff) hy hop fun v H3 F3 R hv fr hR => ?_
    obtain ⟨q1, q2, q3, q4⟩ := fz_out E2 fr hR
    have hv' : Fz K (cup F3 R H3) v (.bool false) := hv.fzc q2
    cases hv'
    refine ⟨false, rfl, iteF ?_⟩
    refine post _ H3 _ A2 Fp.no (q1.cup q2 q3) ⟨.bl false, rfl⟩ (fun _ z => z.elim) (fun _ z => z.elim) ?_
    rw [or_no]
    exact ((st1.trans st2).trans q4).trans (cup_step q2)
  · cases hx
theorem E.chain {a b c : Expr} {op op' : CmpOp} {r r' : R2} {opD opD' : D → D → Option (D × Fg)} (ho : OpR X (compareOp op) r) (ho' : OpR X (compareOp op') r') (hr : OpD X.K r opD) (hr' : OpD X.K r' opD') (ha : E X a f) (hb : E X b g) (hc : E X c h)
    (hm : lastMarks [op, op'] [b, c] = false := by with_unfolding_all rfl) : E X (.Compare a [op, op'] [b, c] pos) (xChain opD opD' f g h) := pe_imp (pe_chain ho ho' ha.fz hb.fz hc.fz hm) (chain_imp hr hr')
theorem T.chain {a b c : Expr} {op op' : CmpOp} {r r' : R2} {opD opD' : D → D → Option (D × Fg)} (ho : OpR X (compareOp op) r) (ho' : OpR X (compareOp op') r') (hr : OpD X.K r opD) (hr' : OpD X.K r' opD') (ha : E X a f) (hb : E X b g) (hc : E X c h)
    (hm : lastMarks [op, op'] [b, c] = false := by with_unfolding_all rfl) : T X (.Compare a [op, op'] [b, c] pos) (tVal (xChain opD opD' f g h)) := pt_imp (pt_chain ho ho' ha.fz hb.fz hc.fz hm) fun σ H Q => by
  rintro ⟨F, en, A, b, e', E0, hx, post⟩
  obtain ⟨d1, o1, e1, h1, hx⟩ := bnd_eq hx
  split at hx
  · cases hx
    refine chain_imp hr hr' σ H _ ⟨F, en, A, _, _, _, E0, h1, fun v H' F' A' R E1 hv hn hd st => ?_⟩
    have hv' : Fz X.K (cup F' R H') v (.bool _) := hv.fzc hn
    cases hv'
    exact ⟨_, rfl, post H' _ A' (E1.cup hn hd) (st.trans (cup_step hn))⟩
  · cases hx
theorem T.not {e : Expr} (hc : T X e c) : T X (.UnaryOp .Not e pos) (tNo c) := pt_imp (pt_not hc) fun σ H Q => by
  rintro ⟨F, en, A, b, e', E0, hx, post⟩
  unfold tNo at hx
  split at hx
  · rename_i b1 e1 hc1
    cases hx
    exact ⟨F, en, A, b1, e', E0, hc1, post⟩
  · cases hx
theorem W.and1 {a : Expr} (ha : T X a c) : W X (.BoolOp .And [a] pos) c := pw_and1 ha
theorem W.or1 {a : Expr} (ha : T X a c) : W X (.BoolOp .Or [a] pos) c := pw_or1 ha
theorem W.and {a b : Expr} {rest : List Expr} (ha : T X a c) (hb : W X (.BoolOp .And (b :: rest) pos) c') : W X (.BoolOp .And (a :: b :: rest) pos) (tAn c c') := pw_imp (pw_and ha hb) fun σ H Q => by
  rintro ⟨F, en, A, b, e', E0, hx, post⟩
  unfold tAn at hx
  split at hx
  · rename_i e1 hc1
    exact ⟨F, en, A, true, e1, E0, hc1, fun H' F' A' E1 st => iteT ⟨F', e1, A', b, e', E1, hx, fun H2 F2 A2 E2 st2 => post H2 F2 A2 E2 (st.trans st2)⟩⟩
  · rename_i e1 hc1
    cases hx
    exact ⟨F, en, A, false, e', E0, hc1, fun H' F' A' E1 st => iteF (post H' F' A' E1 st)⟩
  · cases hx
theorem W.or {a b : Expr} {rest : List Expr} (ha : T X a c) (hb : W X (.BoolOp .Or (b :: rest) pos) c') : W X (.BoolOp .Or (a :: b :: rest) pos) (tOrr c c') := pw_imp (pw_or ha hb) fun σ H Q => by
  rintro ⟨F, en, A, b, e', E0, hx, post⟩
  unfold tOrr at hx
  split at hx
  · rename_i e1 hc1
    cases hx
    exact ⟨F, en, A, true, e', E0, hc1, fun H' F' A' E1 st => iteT (post H' F' A' E1 st)⟩
  · rename_i e1 hc1
    exact ⟨F, en, A, false, e1, E0, hc1, fun H' F' A' E1 st => iteF ⟨F', e1, A', b, e', E1, hx, fun H2 F2 A2 E2 st2 => post H2 F2 A2 E2 (st.trans st2)⟩⟩
  · cases hx
theorem W.t {e : Expr} (h : W X e c) : T X e c := h.pt
theorem brw_env {F H : Hp} {σ : L2.St} {en : En} {A : Nat → Fp} (E0 : EnvOk K F H σ en A) : EnvOk K (cup F (U A) H) H σ (en.map fzS) (fun _ => Fp.no) := by
  have hn : ∀ a, U A a → F a = none := fun a ⟨i, ha⟩ => E0.nf i a ha
  refine ⟨by rw [List.length_map, E0.len], fun i d' o' hi => ?_, fun _ _ _ z => z.elim, fun _ _ _ z => z.elim, fun _ _ z => z.elim, cup_sub E0.sub⟩
  rw [List.getElem?_map] at hi
  cases q : en[i]? with
  | none => rw [q] at hi; cases hi
  | some s =>
    rw [q] at hi
    cases s with
    | none => cases hi
    | some p =>
      obtain ⟨d2, o2⟩ := p
      cases hi
      obtain ⟨v, g1, g2⟩ := E0.at_ i _ o2 q
      obtain ⟨n9, g3⟩ := g2.ow
      exact ⟨v, g1, Ow.freeze (cup_same hn) (fun a ha => cup_in ⟨i, ha⟩) g3, rfl⟩
theorem brw_back {F H F' H' : Hp} {σ : L2.St} {en e1 : En} {A A' : Nat → Fp} (E0 : EnvOk K F H σ en A) (E2 : EnvOk K F' H' σ e1 A') {B : Fp} (st : Step (cup F (U A) H) (U fun _ => Fp.no) H F' B H') : EnvOk K F H' σ en A ∧ Step F (U A) H F (U A) H' := by
  have hn : ∀ a, U A a → F a = none := fun a ⟨i, ha⟩ => E0.nf i a ha
  have kA : ∀ a, U A a → H' a = H a := fun a ha => by
    have t := E0.tr a ha
    cases q : H a with
    | none => exact absurd q t
    | some u => exact E2.sub a u (st.ff a u (by rw [cup_in ha]; exact q))
  refine ⟨⟨E0.len, fun i d' o' hi => ?_, E0.un, E0.dis, E0.nf, fun a u q => E2.sub a u (st.ff a u (cup_same hn a u q))⟩, Same.refl _, st.keep, fun a g1 g2 g3 => ⟨?_, g2, g3⟩⟩
  · obtain ⟨v', g1, g2⟩ := E0.at_ i d' o' hi
    exact ⟨v', g1, g2.mono (Same.refl _) fun a ha => kA a ⟨i, ha⟩⟩
  · exact (st.fr a g1 (by rw [cup_out g3]; exact g2) (fun z => z.elim fun _ z => z.elim)).1
theorem T.brw {e : Expr} (hc : T X e c) : T X e (tBrw c) := pt_imp hc fun σ H Q => by
  rintro ⟨F, en, A, b, e', E0, hx, post⟩
  unfold tBrw at hx
  split at hx
  · rename_i b1 e1 hc1
    cases hx
    refine ⟨_, _, _, b, e1, brw_env E0, hc1, fun H' F' A' E1 st => ?_⟩
    obtain ⟨q1, q2⟩ := brw_back E0 E1 st
    exact post H' F A q1 q2
  · cases hx
theorem bool_fz {F H : Hp} {v : V} {b : Bool} {o : Fg} {R : Fp} (h : VD K F H v (.bool b) o R) (hn : ∀ a, R a → F a = none) : v = .bl b := by
  have hv' : Fz K (cup F R H) v (.bool b) := h.fzc hn
  cases hv'; rfl
theorem E.and {a b : Expr} {rest : List Expr} (ha : E X a f) (hb : E X (.BoolOp .And (b :: rest) pos) g) : E X (.BoolOp .And (a :: b :: rest) pos) (xAn f g) := pe_imp (pe_and ha.fz hb) fun σ H Q => by
  rintro ⟨F, en, A, d, o, e', E0, hx, post⟩
  obtain ⟨d1, o1, e1, h1, hx⟩ := bnd_eq hx
  split at hx
  · exact T.of_run E0 h1 fun H' F' A' E1 st => ⟨_, rfl, iteT ⟨F', e1, A', d, o, e', E1, hx, fun v H2 F2 A2 R E2 hv hn hd st2 => post v H2 F2 A2 R E2 hv hn hd (st.trans st2)⟩⟩
  · cases hx
    exact T.of_run E0 h1 fun H' F' A' E1 st => ⟨_, rfl, iteF (post _ H' F' A' Fp.no E1 ⟨.bl false, rfl⟩ (fun _ z => z.elim) (fun _ z => z.elim) (by rw [or_no]; exact st))⟩
  · cases hx
theorem E.or {a b : Expr} {rest : List Expr} (ha : E X a f) (hb : E X (.BoolOp .Or (b :: rest) pos) g) : E X (.BoolOp .Or (a :: b :: rest) pos) (xOrr f g) := pe_imp (pe_or ha.fz hb) fun σ H Q => by
  rintro ⟨F, en, A, d, o, e', E0, hx, post⟩
  obtain ⟨d1, o1, e1, h1, hx⟩ := bnd_eq hx
  split at hx
  · cases hx
    exact T.of_run E0 h1 fun H' F' A' E1 st => ⟨_, rfl, iteT (post _ H' F' A' Fp.no E1 ⟨.bl true, rfl⟩ (fun _ z => z.elim) (fun _ z => z.elim) (by rw [or_no]; exact st))⟩
  · exact T.of_run E0 h1 fun H' F' A' E1 st => ⟨_, rfl, iteF ⟨F', e1, A', d, o, e', E1, hx, fun v H2 F2 A2 R E2 hv hn hd st2 => post v H2 F2 A2 R E2 hv hn hd (st.trans st2)⟩⟩
  · cases hx
theorem E.one {op : _} {a : Expr} (ha : E X a f) : E X (.BoolOp op [a] pos) f := pe_one ha
theorem E.not {a : Expr} (ha : E X a f) : E X (.UnaryOp .Not a pos) (xNo f) := pe_imp (pe_not ha.fz) fun σ H Q => by
  rintro ⟨F, en, A, d, o, e', E0, hx, post⟩
  obtain ⟨d1, o1, e1, h1, hx⟩ := bnd_eq hx
  split at hx
  · cases hx
    exact T.of_run E0 h1 fun H' F' A' E1 st => ⟨_, rfl, post _ H' F' A' Fp.no E1 ⟨.bl _, rfl⟩ (fun _ z => z.elim) (fun _ z => z.elim) (by rw [or_no]; exact st)⟩
  · cases hx
theorem E.ifE {t a b : Expr} (ht : T X t c) (ha : E X a f) (hb : E X b g) : E X (.IfExp t a b pos) (xIf c f g) := pe_imp (pe_ifExp ht ha hb) fun σ H Q => by
  rintro ⟨F, en, A, d, o, e', E0, hx, post⟩
  unfold xIf at hx
  split at hx
  · rename_i e1 h1
    exact ⟨F, en, A, true, e1, E0, h1, fun H' F' A' E1 st => iteT ⟨F', e1, A', d, o, e', E1, hx, fun v H2 F2 A2 R E2 hv hn hd st2 => post v H2 F2 A2 R E2 hv hn hd (st.trans st2)⟩⟩
  · rename_i e1 h1
    exact ⟨F, en, A, false, e1, E0, h1, fun H' F' A' E1 st => iteF ⟨F', e1, A', d, o, e', E1, hx, fun v H2 F2 A2 R E2 hv hn hd st2 => post v H2 F2 A2 R E2 hv hn hd (st.trans st2)⟩⟩
  · cases hx
end

/-! ### statements -/
inductive Fl where
  | nx | bk | ct
  | rt (d : D) (o : Fg)
abbrev Sx := En → Option (Fl × En)
def Mo (ms : List Nat) (σ σ' : L2.St) : Prop := σ'.length = σ.length ∧ ∀ j, j ∉ ms → σ'[j]? = σ[j]?
theorem Mo.refl {ms : List Nat} {σ : L2.St} : Mo ms σ σ := ⟨rfl, fun _ _ => rfl⟩
theorem Mo.trans {ms : List Nat} {σ σ1 σ2 : L2.St} (a : Mo ms σ σ1) (b : Mo ms σ1 σ2) : Mo ms σ σ2 := ⟨b.1.trans a.1, fun j h => (b.2 j h).trans (a.2 j h)⟩
theorem Mo.mono {ms ms' : List Nat} {σ σ1 : L2.St} (h : ∀ i ∈ ms, i ∈ ms') (a : Mo ms σ σ1) : Mo ms' σ σ1 := ⟨a.1, fun j z => a.2 j fun y => z (h j y)⟩
theorem Mo.set {ms : List Nat} {σ : L2.St} {i : Nat} {v : Option V} (h : i ∈ ms) : Mo ms σ (σ.set i v) := ⟨List.length_set .., fun j hj => List.getElem?_set_ne (fun z => hj (by rw [← z]; exact h))⟩
def PostS (K : PySem.W.Frag) (ms : List Nat) (σ : L2.St) (F : Hp) (A : Nat → Fp) (H : Hp) (Dd : Ends) (fl : Fl) (e' : En) : Prop :=
  ∀ (σ' : L2.St) (H' F' : Hp) (A' : Nat → Fp), EnvOk K F' H' σ' e' A' → Mo ms σ σ' → match fl with
    | .nx => Step F (U A) H F' (U A') H' → Dd.nx σ' H'
    | .bk => Step F (U A) H F' (U A') H' → Dd.bk σ' H'
    | .ct => Step F (U A) H F' (U A') H' → Dd.ct σ' H'
    | .rt d o => ∀ (v : V) (R : Fp), VD K F' H' v d o R → (∀ a, R a → F' a = none) → (∀ a, R a → ¬ U A' a) → Step F (U A) H F' (Fp.or (U A') R) H' → Dd.rt v H'
def cS (K : PySem.W.Frag) (ms : List Nat) (f : Sx) : TS := fun Dd σ H => ∃ (F : Hp) (e : En) (A : Nat → Fp) (fl : Fl) (e' : En), EnvOk K F H σ e A ∧ f e = some (fl, e') ∧ PostS K ms σ F A H Dd fl e'
abbrev S (X : Cx) (ms : List Nat) (st : Stmt) (f : Sx) : Prop := PS X st (cS X.K ms f)
abbrev Ss (X : Cx) (ms : List Nat) (st : List Stmt) (f : Sx) : Prop := PSs X st (cS X.K ms f)
section
variable {X : Cx} {st : Stmt} {sts : List Stmt}
theorem ps_imp {t t' : TS} (h : PS X st t) (i : ∀ D σ H, t' D σ H → t D σ H) : PS X st t' := ⟨fun pins s σ H D I q => h.run pins s σ H D I (i D σ H q)⟩
theorem pss_imp {t t' : TS} (h : PSs X sts t) (i : ∀ D σ H, t' D σ H → t D σ H) : PSs X sts t' := ⟨fun pins s σ H D I q => h.run pins s σ H D I (i D σ H q)⟩
end
def sNx : Sx := fun e => some (.nx, e)
def sSeq (f g : Sx) : Sx := fun e => match f e with
  | some (.nx, e1) => g e1
  | some (fl, e1) => some (fl, e1)
  | none => none
def sBk : Sx := fun e => some (.bk, e)
def sCt : Sx := fun e => some (.ct, e)
def sNev : Sx := fun _ => none
def sRet (f : Ex) : Sx := fun e => match f e with
  | some (d, o, e1) => some (.rt d o, e1)
  | none => none
def sRetN : Sx := fun e => some (.rt .none .f, e)
def sExp (f : Ex) : Sx := fun e => bnd (f e) fun _ e1 => some (.nx, e1)
def sIf (c : Tx) (f g : Sx) : Sx := fun e => match c e with
  | some (true, e1) => f e1
  | some (false, e1) => g e1
  | none => none
def sSet (i : Nat) (f : Ex) : Sx := fun e => match f e with
  | some (d, o, e1) => if i < e1.length then some (.nx, e1.set i (some (d, o))) else none
  | none => none
section
variable {K : PySem.W.Frag} {F F1 H H1 : Hp} {A A1 : Nat → Fp} {Dd : Ends} {fl : Fl} {e' : En}
theorem PostS.shift {ms : List Nat} {σ σ1 : L2.St} (p : PostS K ms σ F A H Dd fl e') (mo : Mo ms σ σ1) (st : Step F (U A) H F1 (U A1) H1) : PostS K ms σ1 F1 A1 H1 Dd fl e' := fun σ' H' F' A' E' mo' => by
  have q := p σ' H' F' A' E' (mo.trans mo')
  cases fl with
  | nx => exact fun s => q (st.trans s)
  | bk => exact fun s => q (st.trans s)
  | ct => exact fun s => q (st.trans s)
  | rt d o => exact fun v R h1 h2 h3 s => q v R h1 h2 h3 (st.trans s)
end
section
variable {X : Cx} {e : Expr} {st : Stmt} {sts a b : List Stmt} {f g : Sx} {x : Ex} {c : Tx} {pos : Pos} {ms : List Nat}
theorem Ss.nil : Ss X ms [] sNx := pss_imp pss_nil fun D σ H => by
  rintro ⟨F, en, A, fl, e', E0, hx, post⟩
  cases hx
  exact post σ H F A E0 Mo.refl Step.refl
theorem seq_imp {K : PySem.W.Frag} : ∀ D σ H, cS K ms (sSeq f g) D σ H → tSeq (cS K ms f) (cS K ms g) D σ H := fun D σ H => by
  rintro ⟨F, en, A, fl, e', E0, hx, post⟩
  unfold sSeq at hx
  split at hx
  · rename_i e1 h1
    exact ⟨F, en, A, .nx, e1, E0, h1, fun σ1 H1 F1 A1 E1 mo st => ⟨F1, e1, A1, fl, e', E1, hx, post.shift mo st⟩⟩
  · rename_i fl1 e1 hne h1
    cases hx
    refine ⟨F, en, A, fl, e', E0, h1, fun σ1 H1 F1 A1 E1 mo => ?_⟩
    have q := post σ1 H1 F1 A1 E1 mo
    cases fl with
    | nx => exact (hne rfl).elim
    | bk => exact q
    | ct => exact q
    | rt d o => exact q
  · cases hx
theorem Ss.cons (h1 : S X ms st f) (h2 : Ss X ms sts g) : Ss X ms (st :: sts) (sSeq f g) := pss_imp (pss_cons h1 h2) seq_imp
theorem Ss.one (h1 : S X ms st f) : Ss X ms [st] f := pss_one h1
theorem Ss.never : Ss X ms sts sNev := pss_imp pss_never fun D σ H => by
  rintro ⟨F, en, A, fl, e', E0, hx, post⟩
  cases hx
theorem S.never : S X ms st sNev := ps_imp ps_never fun D σ H => by
  rintro ⟨F, en, A, fl, e', E0, hx, post⟩
  cases hx
theorem S.pass : S X ms (.Pass pos) sNx := ps_imp ps_pass fun D σ H => by
  rintro ⟨F, en, A, fl, e', E0, hx, post⟩
  cases hx
  exact post σ H F A E0 Mo.refl Step.refl
theorem S.brk : S X ms (.Break pos) sBk := ps_imp ps_break fun D σ H => by
  rintro ⟨F, en, A, fl, e', E0, hx, post⟩
  cases hx
  exact post σ H F A E0 Mo.refl Step.refl
theorem S.cnt : S X ms (.Continue pos) sCt := ps_imp ps_continue fun D σ H => by
  rintro ⟨F, en, A, fl, e', E0, hx, post⟩
  cases hx
  exact post σ H F A E0 Mo.refl Step.refl
theorem S.exp (he : E X e x) (hs : swapsWith e none pos.line X.env = pure false := by rfl) : S X ms (.Expr e pos) (sExp x) := ps_imp (ps_expr he.fz hs) fun D σ H => by
  rintro ⟨F, en, A, fl, e', E0, hx, post⟩
  obtain ⟨d1, o1, e1, h1, hx⟩ := bnd_eq hx
  cases hx
  exact E.fz_run E0 h1 fun v H1 F1 A1 E1 _ st => post σ H1 F1 A1 E1 Mo.refl st
theorem S.ret (he : E X e x) : S X ms (.Return (some e) pos) (sRet x) := ps_imp (ps_ret he) fun D σ H => by
  rintro ⟨F, en, A, fl, e', E0, hx, post⟩
  unfold sRet at hx
  split at hx
  · rename_i d o e1 h1
    cases hx
    exact ⟨F, en, A, d, o, e', E0, h1, fun v H' F' A' R E1 hv hn hd st => post σ H' F' A' E1 Mo.refl v R hv hn hd st⟩
  · cases hx
theorem S.retN : S X ms (.Return none pos) sRetN := ps_imp ps_retN fun D σ H => by
  rintro ⟨F, en, A, fl, e', E0, hx, post⟩
  cases hx
  exact post σ H F A E0 Mo.refl .non Fp.no ⟨.non, rfl⟩ (fun _ z => z.elim) (fun _ z => z.elim) (by rw [or_no]; exact Step.refl)
theorem S.if_ {t : Expr} (ht : T X t c) (ha : Ss X ms a f) (hb : Ss X ms b g) : S X ms (.If t a b pos) (sIf c f g) := ps_imp (ps_if ht ha hb) fun D σ H => by
  rintro ⟨F, en, A, fl, e', E0, hx, post⟩
  unfold sIf at hx
  split at hx
  · rename_i e1 h1
    exact ⟨F, en, A, true, e1, E0, h1, fun H' F' A' E1 st => iteT ⟨F', e1, A', fl, e', E1, hx, post.shift Mo.refl st⟩⟩
  · rename_i e1 h1
    exact ⟨F, en, A, false, e1, E0, h1, fun H' F' A' E1 st => iteF ⟨F', e1, A', fl, e', E1, hx, post.shift Mo.refl st⟩⟩
  · cases hx
theorem set_imp {K : PySem.W.Frag} {i : Nat} (him : i ∈ ms) : ∀ D σ H, cS K ms (sSet i x) D σ H → tAsg (cE K x) (gName i) D σ H := fun D σ H => by
  rintro ⟨F, en, A, fl, e', E0, hx, post⟩
  unfold sSet at hx
  split at hx
  · rename_i d o e1 h1
    by_cases hi : i < e1.length
    · rw [if_pos hi] at hx
      cases hx
      exact ⟨F, en, A, d, o, e1, E0, h1, fun v H' F' A' R E1 hv hn hd st => post _ H' F' _ (E1.put hi hv hn hd) (Mo.set him) (st.trans put_step)⟩
    · rw [if_neg hi] at hx; cases hx
  · cases hx
theorem S.set {i : Nat} {y : Str} {pos' : Pos} (him : i ∈ ms) (hN : X.N.Nodup) (hi : X.N[i]? = some y) (hx : Loc X.env.scope y) (he : E X e x) (hs : swapsWith e (some (.Name y pos')) pos.line X.env = pure false := by rfl)
    (hf : X.fn y = true ∨ X.env.scope.names.lookup y = some .local := by first | exact .inl rfl | exact .inr rfl | assumption) : S X ms (.Assign [.Name y pos'] e pos) (sSet i x) := ps_imp (ps_set hN hi hx he hs hf) (set_imp him)
/-- a, b = x, y -/
def sPar (i j : Nat) (g : Ax) : Sx := fun e => match g e with
  | some ([d1, d2], e1) => if i < e1.length ∧ j < e1.length then some (.nx, (e1.set i (some (d1, .o 0))).set j (some (d2, .o 0))) else none
  | _ => none
end

/-! ### targets -/
abbrev Gx := D → En → Option En
def cG (K : PySem.W.Frag) (ms : List Nat) (g : Gx) : TG := fun v σ H Q => ∃ (F : Hp) (e : En) (A : Nat → Fp) (d : D) (e' : En), EnvOk K F H σ e A ∧ Fz K F v d ∧ g d e = some e' ∧
  ∀ (σ' : L2.St) (A' : Nat → Fp), EnvOk K F H σ' e' A' → (∀ a, U A' a → U A a) → Mo ms σ σ' → Q σ' H
def cGs (K : PySem.W.Frag) (ms : List Nat) (g : List D → En → Option En) : TGs := fun vs σ H Q => ∃ (F : Hp) (e : En) (A : Nat → Fp) (ds : List D) (e' : En), EnvOk K F H σ e A ∧ FzAll K F vs ds ∧ g ds e = some e' ∧
  ∀ (σ' : L2.St) (A' : Nat → Fp), EnvOk K F H σ' e' A' → (∀ a, U A' a → U A a) → Mo ms σ σ' → Q σ' H
abbrev G (X : Cx) (e : Expr) (ms : List Nat) (g : Gx) : Prop := PG X e (cG X.K ms g)
abbrev Gs (X : Cx) (es : List Expr) (ms : List Nat) (g : List D → En → Option En) : Prop := PGs X es (cGs X.K ms g)
def gNm (i : Nat) : Gx := fun d e => if i < e.length then some (e.set i (some (d, .f))) else none
def gsNil : List D → En → Option En := fun ds e => match ds with
  | [] => some e
  | _ => none
def gsCons (g : Gx) (h : List D → En → Option En) : List D → En → Option En := fun ds e => match ds with
  | d :: ds => match g d e with
    | some e1 => h ds e1
    | none => none
  | [] => none
def gTp (n : Nat) (h : List D → En → Option En) : Gx := fun d e => match d with
  | .tuple ds => if ds.length = n then h ds e else none
  | _ => none
section
variable {X : Cx} {e : Expr} {es : List Expr} {pos : Pos}
theorem pg_imp {t t' : TG} (h : PG X e t) (i : ∀ v σ H Q, t' v σ H Q → t v σ H Q) : PG X e t' := ⟨fun pins s σ H v u Q I r q => h.run pins s σ H v u Q I r (i v σ H Q q)⟩
theorem pgs_imp {t t' : TGs} (h : PGs X es t) (i : ∀ v σ H Q, t' v σ H Q → t v σ H Q) : PGs X es t' := ⟨fun pins s σ H v u Q I r q => h.run pins s σ H v u Q I r (i v σ H Q q)⟩
theorem gnm_imp {K : PySem.W.Frag} {i : Nat} : ∀ v σ H Q, cG K [i] (gNm i) v σ H Q → L2.gName i v σ H Q := fun v σ H Q => by
  rintro ⟨F, en, A, d, e', E0, hv, hg, post⟩
  unfold gNm at hg
  by_cases hi : i < en.length
  · rw [if_pos hi] at hg
    cases hg
    refine post _ _ (E0.put hi (R := Fp.no) ⟨hv, rfl⟩ (fun _ z => z.elim) (fun _ z => z.elim)) ?_ ⟨List.length_set .., fun j hj => List.getElem?_set_ne (fun z => hj (by rw [z]; exact List.mem_cons_self))⟩
    rintro a ⟨j, z⟩
    by_cases hj : j = i
    · rw [if_pos hj] at z; exact z.elim
    · rw [if_neg hj] at z; exact ⟨j, z⟩
  · rw [if_neg hi] at hg; cases hg
theorem G.nm {i : Nat} {x : Str} (hN : X.N.Nodup) (hi : X.N[i]? = some x) (hx : Loc X.env.scope x) (hf : X.fn x = true ∨ X.env.scope.names.lookup x = some .local := by first | exact .inl rfl | exact .inr rfl | assumption) : G X (.Name x pos) [i] (gNm i) :=
  pg_imp (pg_name hN hi hx hf) gnm_imp
theorem Gs.nil : Gs X [] [] gsNil := pgs_imp pgs_nil fun v σ H Q => by
  rintro ⟨F, en, A, d, e', E0, hv, hg, post⟩
  unfold gsNil at hg
  split at hg
  · cases hg
    cases hv
    exact ⟨rfl, post σ A E0 (fun _ z => z) ⟨rfl, fun _ _ => rfl⟩⟩
  · cases hg
theorem Gs.cons {m1 m2 : List Nat} {g : Gx} {h : List D → En → Option En} (h1 : G X e m1 g) (h2 : Gs X es m2 h) (hs : (assignEach (e :: es) X.env).map (·.2) = assign e X.env :: (assignEach es X.env).map (·.2) := by rfl) : Gs X (e :: es) (m1 ++ m2) (gsCons g h) := pgs_imp (pgs_cons h1 h2 hs) fun v σ H Q => by
  rintro ⟨F, en, A, d, e', E0, hv, hg, post⟩
  unfold gsCons at hg
  split at hg
  · rename_i d1 ds
    split at hg
    · rename_i e1 hg1
      cases hv with
      | cons hv1 hv2 =>
        refine ⟨_, _, rfl, F, en, A, d1, e1, E0, hv1, hg1, fun σ1 A1 E1 s1 o1 => ?_⟩
        exact ⟨F, e1, A1, ds, e', E1, hv2, hg, fun σ2 A2 E2 s2 o2 => post σ2 A2 E2 (fun a z => s1 a (s2 a z)) ⟨o2.1.trans o1.1, fun j hj => (o2.2 j (fun z => hj (List.mem_append_right _ z))).trans (o1.2 j fun z => hj (List.mem_append_left _ z))⟩⟩
    · cases hg
  · cases hg
theorem G.tp {k n : Nat} {ms : List Nat} {h : List D → En → Option En} (hc : X.calm = true) (h1 : Gs X es ms h) (hn : (assignEach es X.env).length = n := by rfl) (hst : (assignEach es X.env).findIdx? (·.1) = none := by rfl) :
    G X (.Tuple es k pos) ms (gTp n h) := pg_imp (pg_tup hc h1 hn hst) fun v σ H Q => by
  rintro ⟨F, en, A, d, e', E0, hv, hg, post⟩
  unfold gTp at hg
  split at hg
  · rename_i ds
    by_cases hl : ds.length = n
    · rw [if_pos hl] at hg
      cases hv with
      | tup hs ha => exact ⟨_, _, rfl, sqT_mono E0.sub hs, by rw [ha.length]; exact hl, F, en, A, ds, e', E0, ha, hg, post⟩
    · rw [if_neg hl] at hg; cases hg
  · cases hg
end

/-! ### what is walked -/
structure WalkD (K : PySem.W.Frag) (J : It) (F : Hp) (ds : List D) : Prop where
  goes : ∀ i H, i < ds.length → Same F H → J.go i H
  stops : ∀ H, Same F H → J.stop ds.length H
  yields : ∀ i H x H' d F1, ds[i]? = some d → Same F F1 → Same F1 H → J.yld i H x H' → ∃ F1', Fz K F1' x d ∧ Fresh F1 H F1' H'
abbrev Ix := En → Option (List D × En)
def cI (K : PySem.W.Frag) (it : Ix) : TI := fun σ H R => ∃ (F : Hp) (e : En) (A : Nat → Fp) (ds : List D) (e' : En), EnvOk K F H σ e A ∧ it e = some (ds, e') ∧
  ∀ (J : It) (H' F' : Hp) (A' : Nat → Fp), EnvOk K F' H' σ e' A' → WalkD K J F' ds → Step F (U A) H F' (U A') H' → R J H'
abbrev I (X : Cx) (tg e : Expr) (it : Ix) : Prop := PI X tg e (cI X.K it)
theorem pi_imp {X : Cx} {tg e : Expr} {t t' : TI} (h : PI X tg e t) (i : ∀ σ H R, t' σ H R → t σ H R) : PI X tg e t' := ⟨fun pins s σ H R I q => h.run pins s σ H R I (i σ H R q)⟩

def loopD (g : Gx) (body : Sx) : List D → En → Option (Fl × En)
  | [], e => some (.nx, e)
  | d :: ds, e => match g d e with
    | none => none
    | some e1 => match body e1 with
      | some (.nx, e2) => loopD g body ds e2
      | some (.ct, e2) => loopD g body ds e2
      | some (.bk, e2) => some (.nx, e2)
      | some (.rt d o, e2) => some (.rt d o, e2)
      | none => none
def sFor (it : Ix) (g : Gx) (body : Sx) : Sx := fun e => match it e with
  | some (ds, e1) => loopD g body ds e1
  | none => none
section
variable {K : PySem.W.Frag}
theorem sub_step {F H : Hp} {A B : Fp} (h : ∀ a, B a → A a) : Step F A H F B H := ⟨Same.refl _, fun _ h => h, fun a _ h2 h3 => ⟨rfl, h2, fun z => h3 (h a z)⟩⟩
theorem for_core {F H : Hp} {σ : L2.St} {A : Nat → Fp} {ms mt : List Nat} {g : Gx} {body : Sx} {ds : List D} {e1 e' : En} {fl : Fl} {Dd : Ends} {wi : TI} (hmt : ∀ i ∈ mt, i ∈ ms) (hx : loopD g body ds e1 = some (fl, e')) (post : PostS K ms σ F A H Dd fl e')
    (hwi : ∀ R : It → Hp → Prop, (∀ (J : It) (H' F' : Hp) (A' : Nat → Fp), EnvOk K F' H' σ e1 A' → WalkD K J F' ds → Step F (U A) H F' (U A') H' → R J H') → wi σ H R) : tFor wi (cG K mt g) (cS K ms body) Dd σ H := by
  · refine hwi _ fun J H1 F1 A1 E1 wk st1 => ?_
    refine ⟨fun i m σ2 H2 => m = ds.length - i ∧ i ≤ ds.length ∧ ∃ F2 e2 A2, EnvOk K F2 H2 σ2 e2 A2 ∧ Mo ms σ σ2 ∧ Step F1 (U A1) H1 F2 (U A2) H2 ∧ loopD g body (ds.drop i) e2 = some (fl, e'),
      ⟨ds.length, by simp, Nat.zero_le _, F1, e1, A1, E1, Mo.refl, Step.refl, by rw [List.drop_zero]; exact hx⟩, ?_⟩
    rintro i m σ2 H2 ⟨rfl, hi, F2, e2, A2, E2, mo2, st2, hl⟩
    have s12 : Same F1 H2 := fun a o z => E2.sub a o (st2.ff a o z)
    by_cases hlt : i < ds.length
    · obtain ⟨d, hd⟩ : ∃ d, ds[i]? = some d := ⟨ds[i], by simp [hlt]⟩
      have hdr : ds.drop i = d :: ds.drop (i + 1) := by
        rw [List.drop_eq_getElem_cons hlt]
        rw [List.getElem?_eq_getElem hlt] at hd
        rw [Option.some.inj hd]
      rw [hdr] at hl
      unfold loopD at hl
      refine .inr ⟨wk.goes i H2 hlt s12, fun σ' H' => ∃ F3 e3 A3, EnvOk K F3 H' σ' e3 A3 ∧ Mo ms σ σ' ∧ Step F1 (U A1) H1 F3 (U A3) H' ∧ loopD g body (ds.drop (i + 1)) e3 = some (fl, e'),
        fun σ' H' q => ⟨ds.length - (i + 1), by omega, rfl, hlt, q⟩, fun x H' y => ?_⟩
      obtain ⟨F3, hv, fr⟩ := wk.yields i H2 x H' d F2 hd st2.ff E2.sub y
      have E3 := E2.fresh fr
      have st3 : Step F1 (U A1) H1 F3 (U A2) H' := by
        have := fr.step (A := U A2) (R := Fp.no) fun _ z => z.elim
        rw [or_no] at this
        exact st2.trans this
      split at hl
      · cases hl
      · rename_i e3 hg
        refine ⟨F3, e2, A2, d, e3, E3, hv, hg, fun σ4 A4 E4 s4 mo => ?_⟩
        have mo4 := mo2.trans (mo.mono hmt)
        have st4 : Step F1 (U A1) H1 F3 (U A4) H' := st3.trans (sub_step s4)
        split at hl
        · rename_i e5 hb
          exact ⟨F3, e3, A4, .nx, e5, E4, hb, fun σ5 H5 F5 A5 E5 mo5 st5 => ⟨F5, e5, A5, E5, mo4.trans mo5, st4.trans st5, hl⟩⟩
        · rename_i e5 hb
          exact ⟨F3, e3, A4, .ct, e5, E4, hb, fun σ5 H5 F5 A5 E5 mo5 st5 => ⟨F5, e5, A5, E5, mo4.trans mo5, st4.trans st5, hl⟩⟩
        · rename_i e5 hb
          cases hl
          exact ⟨F3, e3, A4, .bk, e', E4, hb, fun σ5 H5 F5 A5 E5 mo5 st5 => post σ5 H5 F5 A5 E5 (mo4.trans mo5) ((st1.trans st4).trans st5)⟩
        · rename_i d5 o5 e5 hb
          cases hl
          exact ⟨F3, e3, A4, .rt d5 o5, e', E4, hb, fun σ5 H5 F5 A5 E5 mo5 v R hv hn hd st5 => post σ5 H5 F5 A5 E5 (mo4.trans mo5) v R hv hn hd ((st1.trans st4).trans st5)⟩
        · cases hl
    · have e0 : i = ds.length := by omega
      subst e0
      rw [List.drop_length] at hl
      cases hl
      exact .inl ⟨wk.stops H2 s12, post σ2 H2 F2 A2 E2 mo2 (st1.trans st2)⟩
theorem for_imp {it : Ix} {ms mt : List Nat} {g : Gx} {body : Sx} (hmt : ∀ i ∈ mt, i ∈ ms) : ∀ D σ H, cS K ms (sFor it g body) D σ H → tFor (cI K it) (cG K mt g) (cS K ms body) D σ H := fun Dd σ H => by
  rintro ⟨F, en, A, fl, e', E0, hx, post⟩
  unfold sFor at hx
  split at hx
  · rename_i ds e1 h1
    exact for_core hmt hx post fun R q => ⟨F, en, A, ds, e1, E0, h1, q⟩
  · cases hx
end
section
variable {X : Cx} {st : Stmt} {sts body : List Stmt} {iter tg : Expr} {it : Ix} {g : Gx} {b : Sx} {c : Tx} {pos : Pos}
theorem S.for_ {ms mt : List Nat} (hmt : ∀ i ∈ mt, i ∈ ms) (hp : PassesOwn (model X.prog X.w) X.A X.env X.xe) (hc : X.calm = true) (hi : I X tg iter it) (hg : G X tg mt g) (hb : Ss X ms body b) (hs : ∀ x, foldedSetIterable iter X.env x = pure x := by intro _; rfl) :
    S X ms (.For tg iter body [] pos) (sFor it g b) := ps_imp (ps_for hp hc hi hg hb hs) (for_imp hmt)
/-! while -/
def loopW (c : Tx) (body : Sx) : Nat → En → Option (Fl × En)
  | 0, _ => none
  | n + 1, e => match c e with
    | some (false, e1) => some (.nx, e1)
    | some (true, e1) => match body e1 with
      | some (.nx, e2) => loopW c body n e2
      | some (.ct, e2) => loopW c body n e2
      | some (.bk, e2) => some (.nx, e2)
      | some (.rt d o, e2) => some (.rt d o, e2)
      | none => none
    | none => none
theorem loopW_succ {c : Tx} {body : Sx} : ∀ {n : Nat} {e : En} {r : Fl × En}, loopW c body n e = some r → loopW c body (n + 1) e = some r
  | 0, _, _, h => by cases h
  | n + 1, e, r, h => by
    rw [loopW.eq_2] at h
    rw [loopW.eq_2]
    split at h
    · exact h
    · split at h
      · exact loopW_succ h
      · exact loopW_succ h
      · exact h
      · exact h
      · cases h
    · cases h
theorem loopW_mono {c : Tx} {body : Sx} {n m : Nat} (hm : n ≤ m) {e : En} {r : Fl × En} (h : loopW c body n e = some r) : loopW c body m e = some r := by
  induction hm with
  | refl => exact h
  | step _ ih => exact loopW_succ ih
noncomputable def sWhile (c : Tx) (body : Sx) : Sx := fun e => open Classical in if h : ∃ r n, loopW c body n e = some r then some (Classical.choose h) else none
theorem sWhile_eq {c : Tx} {body : Sx} {n : Nat} {e : En} {r : Fl × En} (h : loopW c body n e = some r) : sWhile c body e = some r := by
  have hx : ∃ r n, loopW c body n e = some r := ⟨r, n, h⟩
  unfold sWhile
  rw [dif_pos hx]
  obtain ⟨m, hm⟩ := Classical.choose_spec hx
  have h1 := loopW_mono (Nat.le_max_left n m) h
  have h2 := loopW_mono (Nat.le_max_right n m) hm
  exact h2.symm.trans h1
theorem while_imp {K : PySem.W.Frag} {ms : List Nat} : ∀ D σ H, cS K ms (sWhile c b) D σ H → tWhile (cT K c) (cS K ms b) D σ H := fun Dd σ H => by
  rintro ⟨F, en, A, fl, e', E0, hx, post⟩
  unfold sWhile at hx
  split at hx
  · rename_i h
    have hc := Option.some.inj hx
    obtain ⟨n, hn⟩ := Classical.choose_spec h
    rw [hc] at hn
    refine ⟨fun m σ2 H2 => ∃ F2 e2 A2, EnvOk K F2 H2 σ2 e2 A2 ∧ Mo ms σ σ2 ∧ Step F (U A) H F2 (U A2) H2 ∧ loopW c b m e2 = some (fl, e'), ⟨n, F, en, A, E0, Mo.refl, Step.refl, hn⟩, ?_⟩
    rintro m σ2 H2 ⟨F2, e2, A2, E2, mo2, st2, hl⟩
    cases m with
    | zero => cases hl
    | succ m =>
      rw [loopW.eq_2] at hl
      split at hl
      · rename_i e3 h3
        cases hl
        exact ⟨F2, e2, A2, false, e', E2, h3, fun H3 F3 A3 E3 st3 => iteF (post σ2 H3 F3 A3 E3 mo2 (st2.trans st3))⟩
      · rename_i e3 h3
        refine ⟨F2, e2, A2, true, e3, E2, h3, fun H3 F3 A3 E3 st3 => iteT ⟨fun σ' H' => ∃ F2 e2 A2, EnvOk K F2 H' σ' e2 A2 ∧ Mo ms σ σ' ∧ Step F (U A) H F2 (U A2) H' ∧ loopW c b m e2 = some (fl, e'), fun σ' H' q => ⟨m, Nat.lt_succ_self m, q⟩, ?_⟩⟩
        have st4 := st2.trans st3
        split at hl
        · rename_i e5 hb
          exact ⟨F3, e3, A3, .nx, e5, E3, hb, fun σ5 H5 F5 A5 E5 mo5 st5 => ⟨F5, e5, A5, E5, mo2.trans mo5, st4.trans st5, hl⟩⟩
        · rename_i e5 hb
          exact ⟨F3, e3, A3, .ct, e5, E3, hb, fun σ5 H5 F5 A5 E5 mo5 st5 => ⟨F5, e5, A5, E5, mo2.trans mo5, st4.trans st5, hl⟩⟩
        · rename_i e5 hb
          cases hl
          exact ⟨F3, e3, A3, .bk, e', E3, hb, fun σ5 H5 F5 A5 E5 mo5 st5 => post σ5 H5 F5 A5 E5 (mo2.trans mo5) (st4.trans st5)⟩
        · rename_i d5 o5 e5 hb
          cases hl
          exact ⟨F3, e3, A3, .rt d5 o5, e', E3, hb, fun σ5 H5 F5 A5 E5 mo5 v R hv hn hd st5 => post σ5 H5 F5 A5 E5 (mo2.trans mo5) v R hv hn hd (st4.trans st5)⟩
        · cases hl
      · cases hl
  · cases hx
theorem S.while_ {ms : List Nat} {t : Expr} (hp : PassesOwn (model X.prog X.w) X.A X.env X.xe) (hc : T X t c) (hb : Ss X ms body b) : S X ms (.While t body [] pos) (sWhile c b) := ps_imp (ps_while hp hc hb) while_imp
end

/-! ### what is walked: lists, tuples, ranges -/
def iSeq (f : Ex) : Ix := fun e => bnd (f e) fun d e1 => match d with
  | .list ds => some (ds, e1)
  | _ => none
def iTupl (f : Ex) : Ix := fun e => bnd (f e) fun d e1 => match d with
  | .tuple ds => some (ds, e1)
  | _ => none
def rangeD (lo : Int) (n : Nat) : List D := (List.range n).map fun i => .int (lo + (i : Nat))
def iRg1 (g : Ax) : Ix := fun e => match g e with
  | some ([.int j], e1) => if -(2 ^ 62) ≤ j ∧ j < 2 ^ 62 then some (rangeD 0 j.toNat, e1) else none
  | _ => none
def iRg2 (g : Ax) : Ix := fun e => match g e with
  | some ([.int i, .int j], e1) => if -(2 ^ 62) ≤ i ∧ i < 2 ^ 62 ∧ -(2 ^ 62) ≤ j ∧ j < 2 ^ 62 then some (rangeD i (j - i).toNat, e1) else none
  | _ => none
section
variable {X : Cx} {tg e : Expr} {f : Ex} {K : PySem.W.Frag}
theorem walkd_list {F : Hp} {a : Addr} {xs : List V} {ds : List D} (hs : SqL K F a xs) (ha : FzAll K F xs ds) : WalkD K (Itl K a) F ds :=
  ⟨fun i H hi s => walk_list.goes i H (by rw [ha.length]; exact hi) (sqL_mono s hs), fun H s => by rw [← ha.length]; exact walk_list.stops H (sqL_mono s hs), fun i H x H' d F1 hd s1 s2 y => by
    obtain ⟨rfl, hx⟩ := walk_list.yields i H x H' (by rw [ha.length]; exact (List.getElem?_eq_some_iff.mp hd).1) (sqL_mono s2 (sqL_mono s1 hs)) y
    obtain ⟨v, h1, h2⟩ := ha.get hd
    rw [hx] at h1
    cases h1
    exact ⟨F1, h2.mono s1, Fresh.refl s2⟩⟩
theorem walkd_tup {F : Hp} {a : Addr} {xs : List V} {ds : List D} (hs : SqT K F a xs) (ha : FzAll K F xs ds) : WalkD K (Itt K a) F ds :=
  ⟨fun i H hi s => walk_tup.goes i H (by rw [ha.length]; exact hi) (sqT_mono s hs), fun H s => by rw [← ha.length]; exact walk_tup.stops H (sqT_mono s hs), fun i H x H' d F1 hd s1 s2 y => by
    obtain ⟨rfl, hx⟩ := walk_tup.yields i H x H' (by rw [ha.length]; exact (List.getElem?_eq_some_iff.mp hd).1) (sqT_mono s2 (sqT_mono s1 hs)) y
    obtain ⟨v, h1, h2⟩ := ha.get hd
    rw [hx] at h1
    cases h1
    exact ⟨F1, h2.mono s1, Fresh.refl s2⟩⟩
theorem walkd_range {F : Hp} {lo : Int} {n : Nat} : WalkD K (Itr lo n) F (rangeD lo n) := by
  have hl : (rangeD lo n).length = n := by unfold rangeD; simp
  refine ⟨fun i H hi s => by rw [hl] at hi; exact hi, fun H s => by rw [hl]; exact Nat.le_refl _, fun i H x H' d F1 hd s1 s2 y => ?_⟩
  obtain ⟨rfl, rfl⟩ := y
  have hi : i < n := by rw [← hl]; exact (List.getElem?_eq_some_iff.mp hd).1
  have : d = .int (lo + (i : Nat)) := by
    unfold rangeD at hd
    rw [List.getElem?_map, List.getElem?_range hi] at hd
    exact (Option.some.inj hd).symm
  subst this
  exact ⟨F1, .int _, Fresh.refl s2⟩
theorem I.lst (he : E X e f) : I X tg e (iSeq f) := pi_imp (pi_list he.fz) fun σ H R => by
  rintro ⟨F, en, A, ds, e', E0, hx, post⟩
  obtain ⟨d1, o1, e1, h1, hx⟩ := bnd_eq hx
  split at hx
  · cases hx
    refine E.fz_run E0 h1 fun v H1 F1 A1 E1 hv st => ?_
    cases hv with
    | lst hs ha => exact ⟨_, rfl, ⟨_, sqL_mono E1.sub hs⟩, post _ H1 F1 A1 E1 (walkd_list hs ha) st⟩
  · cases hx
theorem I.tup (he : E X e f) : I X tg e (iTupl f) := pi_imp (pi_tup he.fz) fun σ H R => by
  rintro ⟨F, en, A, ds, e', E0, hx, post⟩
  obtain ⟨d1, o1, e1, h1, hx⟩ := bnd_eq hx
  split at hx
  · cases hx
    refine E.fz_run E0 h1 fun v H1 F1 A1 E1 hv st => ?_
    cases hv with
    | tup hs ha => exact ⟨_, rfl, ⟨_, sqT_mono E1.sub hs⟩, post _ H1 F1 A1 E1 (walkd_tup hs ha) st⟩
  · cases hx
theorem I.rg1 {a : Expr} {g : Ax} {p pos : Pos} (hg : Gl X "range") (hm : X.mg "range" = none) (ha : As X [a] g) (hs : starEach [a] X.env = [(false, eval a X.env)] := by rfl) : I X tg (.Call (.Name "range" p) [a] [] pos) (iRg1 g) := pi_imp (pi_range1 hg hm ha hs) fun σ H R => by
  rintro ⟨F, en, A, ds, e', E0, hx, post⟩
  unfold iRg1 at hx
  split at hx
  · rename_i j e1 h1
    split at hx
    · rename_i hj
      cases hx
      refine ⟨F, en, A, _, e', E0, h1, fun vs H1 F1 A1 E1 hv st => ?_⟩
      cases hv with
      | cons h hr =>
        cases h
        cases hr
        exact ⟨j, rfl, hj.1, hj.2, post _ H1 F1 A1 E1 walkd_range st⟩
    · cases hx
  · cases hx
theorem I.rg2 {a b : Expr} {g : Ax} {p pos : Pos} (hg : Gl X "range") (hm : X.mg "range" = none) (ha : As X [a, b] g) (hs : starEach [a, b] X.env = [(false, eval a X.env), (false, eval b X.env)] := by rfl) (hs2 : starEach [b] X.env = [(false, eval b X.env)] := by rfl) :
    I X tg (.Call (.Name "range" p) [a, b] [] pos) (iRg2 g) := pi_imp (pi_range2 hg hm ha hs hs2) fun σ H R => by
  rintro ⟨F, en, A, ds, e', E0, hx, post⟩
  unfold iRg2 at hx
  split at hx
  · rename_i i j e1 h1
    split at hx
    · rename_i hj
      cases hx
      refine ⟨F, en, A, _, e', E0, h1, fun vs H1 F1 A1 E1 hv st => ?_⟩
      cases hv with
      | cons h hr =>
        cases h
        cases hr with
        | cons h hr =>
          cases h
          cases hr
          exact ⟨i, j, rfl, hj, post _ H1 F1 A1 E1 walkd_range st⟩
    · cases hx
  · cases hx
end
end Ev
namespace Ev
open PySem L2
/-! ### comprehensions -/
def wipeE (e : En) : List Nat → En
  | [] => e
  | v :: vs => (wipeE e vs).set v none
def backE (e1 e : En) : List Nat → En
  | [] => e
  | v :: vs => (backE e1 e vs).set v (e1.getD v none)
def calmE (e : En) (vs : List Nat) : Bool := vs.all fun v => match e[v]? with
  | some (some (_, .o _)) => false
  | _ => true
def loopC (vs : List Nat) (g : Gx) (c : Tx) (f : Ex) : List D → List D → En → Option (List D × En)
  | [], acc, e => some (acc, e)
  | d :: ds, acc, e => match g d e with
    | some e2 => match c e2 with
      | some (true, e3) => bnd (f e3) fun y e4 => if acc.length < sizeLine then loopC vs g c f ds (acc ++ [y]) (wipeE e4 vs) else none
      | some (false, e3) => loopC vs g c f ds acc (wipeE e3 vs)
      | none => none
    | none => none
def xLc (it : Ix) (vs : List Nat) (g : Gx) (c : Tx) (f : Ex) : Ex := fun e => match it e with
  | some (ds, e1) => if calmE e1 vs = true then (match loopC vs g c f ds [] (wipeE e1 vs) with
    | some (acc, e2) => some (.list acc, .o 0, backE e1 e2 vs)
    | none => none) else none
  | none => none
section
variable {K : PySem.W.Frag} {F H : Hp} {σ : L2.St} {e : En} {A : Nat → Fp}
/-- a slot emptied, whatever the frame holds there -/
theorem EnvOk.drop2 (E : EnvOk K F H σ e A) (i : Nat) (x : Option V) : EnvOk K F H (σ.set i x) (e.set i none) (fun j => if j = i then Fp.no else A j) := by
  have E1 := E.drop i
  refine ⟨by rw [List.length_set, List.length_set, E.len], fun j d o h => ?_, E1.un, E1.dis, E1.nf, E1.sub⟩
  obtain ⟨v, h1, h2⟩ := E1.at_ j d o h
  refine ⟨v, ?_, h2⟩
  by_cases hj : i = j
  · subst hj
    by_cases hl : i < e.length
    · rw [List.getElem?_set_self hl] at h; cases h
    · rw [List.getElem?_eq_none (by rw [List.length_set]; omega)] at h; cases h
  · rw [List.getElem?_set_ne hj]; exact h1
theorem EnvOk.wipe (E : EnvOk K F H σ e A) : ∀ vs : List Nat, ∃ A', EnvOk K F H (wipe σ vs) (wipeE e vs) A' ∧ ∀ a, U A' a → U A a
  | [] => ⟨A, E, fun _ h => h⟩
  | v :: vs => by
    obtain ⟨A', E', s⟩ := E.wipe vs
    exact ⟨_, E'.drop2 v none, fun a ⟨j, z⟩ => s a (by
      dsimp only at z
      by_cases hj : j = v
      · rw [if_pos hj] at z; exact z.elim
      · rw [if_neg hj] at z; exact ⟨j, z⟩)⟩
theorem wipe_get {σ : L2.St} {j : Nat} : ∀ {vs : List Nat}, (wipe σ vs)[j]? = if j ∈ vs ∧ j < σ.length then some none else σ[j]?
  | [] => by simp [wipe]
  | v :: vs => by
    unfold wipe
    by_cases hj : v = j
    · subst hj
      by_cases hl : v < σ.length
      · rw [List.getElem?_set_self (by rw [wipe_length]; exact hl), if_pos ⟨List.mem_cons_self, hl⟩]
      · rw [List.getElem?_eq_none (by rw [List.length_set, wipe_length]; omega), if_neg (fun z => hl z.2), List.getElem?_eq_none (by omega)]
    · rw [List.getElem?_set_ne hj, wipe_get]
      by_cases h : j ∈ vs ∧ j < σ.length
      · rw [if_pos h, if_pos ⟨List.mem_cons_of_mem _ h.1, h.2⟩]
      · rw [if_neg h, if_neg]
        rintro ⟨h1, h2⟩
        rcases List.mem_cons.mp h1 with z | z
        · exact hj z.symm
        · exact h ⟨z, h2⟩
theorem wipe_mo {σ σ' : L2.St} {ms vs : List Nat} (h : Mo ms σ σ') (hm : ∀ i ∈ ms, i ∈ vs) : L2.wipe σ' vs = L2.wipe σ vs := by
  apply List.ext_getElem?
  intro j
  rw [wipe_get, wipe_get, h.1]
  by_cases hj : j ∈ vs ∧ j < σ.length
  · rw [if_pos hj, if_pos hj]
  · rw [if_neg hj, if_neg hj]
    by_cases hv : j ∈ vs
    · have hl : ¬ j < σ.length := fun z => hj ⟨hv, z⟩
      rw [List.getElem?_eq_none (by have := h.1; omega), List.getElem?_eq_none (by omega)]
    · exact h.2 j fun z => hv (hm j z)
theorem wipe_wipe {σ : L2.St} {vs : List Nat} : L2.wipe (L2.wipe σ vs) vs = L2.wipe σ vs := by
  apply List.ext_getElem?
  intro j
  rw [wipe_get, wipe_length, wipe_get]
  by_cases hj : j ∈ vs ∧ j < σ.length
  · rw [if_pos hj, if_pos hj]
  · rw [if_neg hj, if_neg hj]
theorem back_len {e1 e : En} : ∀ vs : List Nat, (backE e1 e vs).length = e.length
  | [] => rfl
  | v :: vs => by unfold backE; rw [List.length_set, back_len]
theorem back_get {e1 e : En} {j : Nat} : ∀ {vs : List Nat}, (backE e1 e vs)[j]? = if j ∈ vs ∧ j < e.length then some (e1.getD j none) else e[j]?
  | [] => by simp [backE]
  | v :: vs => by
    unfold backE
    by_cases hj : v = j
    · subst hj
      by_cases hl : v < e.length
      · rw [List.getElem?_set_self (by rw [back_len]; exact hl), if_pos ⟨List.mem_cons_self, hl⟩]
      · rw [List.getElem?_eq_none (by rw [List.length_set, back_len]; omega), if_neg (fun z => hl z.2), List.getElem?_eq_none (by omega)]
    · rw [List.getElem?_set_ne hj, back_get]
      by_cases h : j ∈ vs ∧ j < e.length
      · rw [if_pos h, if_pos ⟨List.mem_cons_of_mem _ h.1, h.2⟩]
      · rw [if_neg h, if_neg]
        rintro ⟨h1, h2⟩
        rcases List.mem_cons.mp h1 with z | z
        · exact hj z.symm
        · exact h ⟨z, h2⟩
/-- behind a comprehension its own names are as they were -/
theorem EnvOk.back {F1 H1 : Hp} {e1 : En} {A1 : Nat → Fp} (E1 : EnvOk K F1 H1 σ e1 A1) {vs : List Nat} (hc : calmE e1 vs = true) (ff : Same F1 F) (E2 : EnvOk K F H (L2.wipe σ vs) e A) :
    ∃ A', EnvOk K F H σ (backE e1 e vs) A' ∧ ∀ a, U A' a → U A a := by
  have hlen : e.length = σ.length := by rw [E2.len, wipe_length]
  refine ⟨fun j => if j ∈ vs then Fp.no else A j, ⟨by rw [back_len, hlen], fun j d o h => ?_, fun j h a ha => ?_, fun i j a h1 h2 => ?_, fun j a h => ?_, E2.sub⟩, fun a ⟨j, z⟩ => ?_⟩
  · rw [back_get] at h
    by_cases hj : j ∈ vs ∧ j < e.length
    · rw [if_pos hj] at h
      rw [if_pos hj.1]
      have h' : e1[j]? = some (some (d, o)) := by
        rw [List.getD_eq_getElem?_getD] at h
        cases q : e1[j]? with
        | none => rw [q] at h; cases h
        | some s => rw [q] at h; exact h
      have ho : o = .f := by
        have hq := List.all_eq_true.mp hc j hj.1
        rw [h'] at hq
        cases o with
        | f => rfl
        | o n => cases hq
      subst ho
      obtain ⟨v, q1, q2⟩ := E1.at_ j d _ h'
      exact ⟨v, q1, q2.1.mono ff, rfl⟩
    · rw [if_neg hj] at h
      obtain ⟨v, q1, q2⟩ := E2.at_ j d o h
      have hjv : j ∉ vs := fun z => hj ⟨z, len_of h⟩
      rw [if_neg hjv]
      rw [wipe_get, if_neg (fun z => hjv z.1)] at q1
      exact ⟨v, q1, q2⟩
  · by_cases hj : j ∈ vs
    · rw [if_pos hj] at ha; exact ha
    · rw [if_neg hj] at ha
      refine E2.un j (fun d n z => h d n ?_) a ha
      rw [back_get, if_neg (fun y => hj y.1)]; exact z
  · by_cases hi : i ∈ vs
    · rw [if_pos hi] at h1; exact h1.elim
    · by_cases hj : j ∈ vs
      · rw [if_pos hj] at h2; exact h2.elim
      · rw [if_neg hi] at h1; rw [if_neg hj] at h2; exact E2.dis i j a h1 h2
  · by_cases hj : j ∈ vs
    · rw [if_pos hj] at h; exact h.elim
    · rw [if_neg hj] at h; exact E2.nf j a h
  · dsimp only at z
    by_cases hj : j ∈ vs
    · rw [if_pos hj] at z; exact z.elim
    · rw [if_neg hj] at z; exact ⟨j, z⟩
theorem lc_core1 {F H : Hp} {σ : L2.St} {A : Nat → Fp} {vs ms : List Nat} {g : Gx} {c : Tx} {f : Ex} {ds res : List D} {e1 e2 : En} {wi : TI} {Q : VK} (hms : ∀ i ∈ ms, i ∈ vs) (hcal : calmE e1 vs = true) (hl : loopC vs g c f ds [] (wipeE e1 vs) = some (res, e2))
    (post : ∀ (v : V) (H' F' : Hp) (A' : Nat → Fp) (R : Fp), EnvOk K F' H' σ (backE e1 e2 vs) A' → VD K F' H' v (.list res) (.o 0) R → (∀ a, R a → F' a = none) → (∀ a, R a → ¬ U A' a) → Step F (U A) H F' (Fp.or (U A') R) H' → Q v H')
    (hwi : ∀ R : It → Hp → Prop, (∀ (J : It) (H' F' : Hp) (A' : Nat → Fp), EnvOk K F' H' σ e1 A' → WalkD K J F' ds → Step F (U A) H F' (U A') H' → R J H') → wi σ H R) : tLc wi (cG K ms g) (cT K c) (cE K (xFz f)) vs σ H Q := by
  · · · refine hwi _ fun J H1 F1 A1 E1 wk st1 Dl hD => ?_
        obtain ⟨Aw, Ew, sw⟩ := E1.wipe vs
        refine ⟨fun i m H2 => m = ds.length - i ∧ i ≤ ds.length ∧ ∃ F2 e2' A2 acc accV, EnvOk K F2 H2 (L2.wipe σ vs) e2' A2 ∧ H2 Dl = some (.lst accV) ∧ FzAll K F2 accV acc ∧ F2 Dl = none ∧ ¬ U A2 Dl ∧
          Step F1 (U A1) H1 F2 (Fp.or (U A2) (fun a => a = Dl)) H2 ∧ loopC vs g c f (ds.drop i) acc e2' = some (res, e2), ⟨ds.length, by simp, Nat.zero_le _, F1, _, Aw, [], [], ?_, upd_same, .nil, E1.sub.free hD, fun z => Ew.tr _ z hD, ?_, by rw [List.drop_zero]; exact hl⟩, ?_⟩
        · exact Ew.fresh (fresh_new E1.sub hD)
        · refine ⟨Same.refl _, fun a z => by rw [upd_ne (fun y => z (by rw [y]; exact hD))]; exact z, fun a z1 z2 z3 => ⟨upd_ne fun y => z1 (by rw [y]; exact hD), z2, fun y => y.elim (fun y => z3 (sw a y)) fun y => z1 (by rw [y]; exact hD)⟩⟩
        rintro i m H2 ⟨rfl, hi, F2, e3, A2, acc, accV, E2, hDl, hacc, hF, hA, st2, hl2⟩
        have s12 : Same F1 H2 := fun a o z => E2.sub a o (st2.ff a o z)
        by_cases hlt : i < ds.length
        · obtain ⟨d, hd⟩ : ∃ d, ds[i]? = some d := ⟨ds[i], by simp [hlt]⟩
          have hdr : ds.drop i = d :: ds.drop (i + 1) := by
            rw [List.drop_eq_getElem_cons hlt]
            rw [List.getElem?_eq_getElem hlt] at hd
            rw [Option.some.inj hd]
          rw [hdr] at hl2
          unfold loopC at hl2
          refine .inr ⟨wk.goes i H2 hlt s12, fun H' => ∃ F2 e2' A2 acc accV, EnvOk K F2 H' (L2.wipe σ vs) e2' A2 ∧ H' Dl = some (.lst accV) ∧ FzAll K F2 accV acc ∧ F2 Dl = none ∧ ¬ U A2 Dl ∧
            Step F1 (U A1) H1 F2 (Fp.or (U A2) (fun a => a = Dl)) H' ∧ loopC vs g c f (ds.drop (i + 1)) acc e2' = some (res, e2), fun H' q => ⟨ds.length - (i + 1), by omega, rfl, hlt, q⟩, fun x H' y => ?_⟩
          obtain ⟨F3, hv, fr⟩ := wk.yields i H2 x H' d F2 hd st2.ff E2.sub y
          have E3 := E2.fresh fr
          have tD : H2 Dl ≠ none := by rw [hDl]; exact fun z => nomatch z
          have hD3 : H' Dl = some (.lst accV) := by rw [same_ne fr.hh tD]; exact hDl
          have hF3 : F3 Dl = none := fr.nf hF tD
          have st3 : Step F1 (U A1) H1 F3 (Fp.or (U A2) (fun a => a = Dl)) H' := by
            have := fr.step (A := Fp.or (U A2) (fun a => a = Dl)) (R := Fp.no) fun _ z => z.elim
            rw [or_no] at this
            exact st2.trans this
          have hD3n : H' Dl ≠ none := by rw [hD3]; exact fun z => nomatch z
          split at hl2
          · rename_i e4 hg
            refine ⟨F3, e3, A2, d, e4, E3, hv, hg, fun σ4 A4 E4 s4 mo => ?_⟩
            have hw : L2.wipe σ4 vs = L2.wipe σ vs := by rw [wipe_mo (vs := vs) mo hms]; exact wipe_wipe
            refine ⟨hw, ?_⟩
            have st4 : Step F1 (U A1) H1 F3 (Fp.or (U A4) (fun a => a = Dl)) H' := st3.trans (sub_step fun a z => z.elim (fun z => .inl (s4 a z)) .inr)
            have hA4 : ¬ U A4 Dl := fun z => hA (s4 _ z)
            -- behind a further step the list at Dl stands
            have next : ∀ {F5 H5 : Hp} {A5 : Nat → Fp}, Step F3 (U A4) H' F5 (U A5) H5 → Step F1 (U A1) H1 F5 (Fp.or (U A5) (fun a => a = Dl)) H5 ∧ H5 Dl = some (.lst accV) ∧ F5 Dl = none ∧ ¬ U A5 Dl := fun {F5 H5 A5} st => by
              obtain ⟨q1, q2⟩ := Step.hold (R := fun a => a = Dl) st4 st (fun a z => by rw [z]; exact hF3) (fun a z => by rw [z]; exact hA4) (fun a z => by rw [z]; exact hD3n)
              obtain ⟨r1, r2, r3⟩ := q2 Dl rfl
              exact ⟨q1, r1.trans hD3, r2, r3⟩
            split at hl2
            · rename_i e5 hc
              obtain ⟨y5, o5, e6, h6, hl3⟩ := bnd_eq hl2
              refine ⟨F3, e4, A4, true, e5, E4, hc, fun H5 F5 A5 E5 st5 => iteT ?_⟩
              refine E.fz_run E5 h6 fun yv H6 F6 A6 E6 hy st6 => ?_
              obtain ⟨n1, n2, n3, n4⟩ := next (st5.trans st6)
              by_cases hz : acc.length < sizeLine
              · rw [if_pos hz] at hl3
                have fa : FzAll K F6 accV acc := (hacc.mono fr.ff).mono (st5.trans st6).ff
                obtain ⟨A7, E7, s7⟩ := E6.wipe vs
                rw [hw] at E7
                refine ⟨accV, n2, by rw [fa.length]; exact hz, F6, _, A7, acc ++ [y5], accV ++ [yv], ?_, upd_same, fa.append (.cons hy .nil), n3, fun z => n4 (s7 _ z), ?_, hl3⟩
                · refine ⟨E7.len, fun j d o h => ?_, E7.un, E7.dis, E7.nf, fun a o z => ?_⟩
                  · obtain ⟨v, q1, q2⟩ := E7.at_ j d o h
                    refine ⟨v, q1, q2.mono (Same.refl _) fun a ha => upd_ne fun z => n4 (s7 _ ⟨j, ?_⟩)⟩
                    rw [← z]; exact ha
                  · rw [upd_ne (ne_of_none z n3)]; exact E7.sub a o z
                · refine ⟨n1.ff, fun a z => ?_, fun a z1 z2 z3 => ?_⟩
                  · by_cases ha : a = Dl
                    · rw [ha, upd_same]; exact fun z => nomatch z
                    · rw [upd_ne ha]; exact n1.keep a z
                  · obtain ⟨w1, w2, w3⟩ := n1.fr a z1 z2 z3
                    exact ⟨(upd_ne fun z => w3 (.inr z)).trans w1, w2, fun z => w3 (z.elim (fun z => .inl (s7 a z)) .inr)⟩
              · rw [if_neg hz] at hl3; cases hl3
            · rename_i e5 hc
              refine ⟨F3, e4, A4, false, e5, E4, hc, fun H5 F5 A5 E5 st5 => iteF ?_⟩
              obtain ⟨n1, n2, n3, n4⟩ := next st5
              obtain ⟨A7, E7, s7⟩ := E5.wipe vs
              rw [hw] at E7
              exact ⟨F5, _, A7, acc, accV, E7, n2, (hacc.mono fr.ff).mono st5.ff, n3, fun z => n4 (s7 _ z), n1.trans (sub_step fun a z => z.elim (fun z => .inl (s7 a z)) .inr), hl2⟩
            · cases hl2
          · cases hl2
        · have e0 : i = ds.length := by omega
          subst e0
          rw [List.drop_length] at hl2
          cases hl2
          obtain ⟨A5, E5, s5⟩ := E1.back hcal st2.ff E2
          refine .inl ⟨wk.stops H2 s12, post (.ref Dl) H2 F2 A5 (fun a => a = Dl) E5 ?_ (fun a z => by rw [z]; exact hF) (fun a z y => hA (s5 _ (by rw [← z]; exact y))) ?_⟩
          · exact (Ow.lst hDl (OwAll.of_fz hacc) (fun z => z)).cast fun a => ⟨fun z => z.elim id fun z => z.elim, .inl⟩
          · exact (st1.trans st2).trans (sub_step fun a z => z.elim (fun z => .inl (s5 a z)) .inr)
theorem lc_imp {it : Ix} {vs ms : List Nat} {g : Gx} {c : Tx} {f : Ex} (hms : ∀ i ∈ ms, i ∈ vs) : ∀ σ H Q, cE K (xLc it vs g c f) σ H Q → tLc (cI K it) (cG K ms g) (cT K c) (cE K (xFz f)) vs σ H Q := fun σ H Q => by
  rintro ⟨F, en, A, d, o, e', E0, hx, post⟩
  unfold xLc at hx
  split at hx
  · rename_i ds e1 h1
    by_cases hcal : calmE e1 vs = true
    · rw [if_pos hcal] at hx
      split at hx
      · rename_i res e2 hl
        cases hx
        exact lc_core1 hms hcal hl post fun R q => ⟨F, en, A, ds, e1, E0, h1, q⟩
      · cases hx
    · rw [if_neg hcal] at hx; cases hx
  · cases hx
end
def cYes : Tx := fun e => some (true, e)
abbrev Ts (X : Cx) (ifs : List Expr) (c : Tx) : Prop := PTs X ifs (cT X.K c)
section
variable {X : Cx}
theorem Ts.nil : Ts X [] cYes := ⟨fun pins s σ H Q I h => pts_nil.run pins s σ H Q I (by
  obtain ⟨F, en, A, b, e', E0, hx, post⟩ := h
  cases hx
  exact post H F A E0 Step.refl)⟩
theorem Ts.one {c : Expr} {f : Tx} (h : T X c f) : Ts X [c] f := pts_one h
theorem E.lc {elt tg iter : Expr} {ifs : List Expr} {scope : Scope} {own : List (Str × Nat)} {ms : List Nat} {pos : Pos} {it : Ix} {g : Gx} {c : Tx} {f : Ex} (hc : X.calm = true) (hN : X.N.Nodup) (hi : I X tg iter it) (ok : BlkOk X.N X.env.scope scope own)
    (hg : ∀ (s : Shared) (H : Hp) (C : Addr) (cl : List (Str × Addr)) (fp : List Addr), G (X.blk s H scope (compEnvC scope cl C X.env) fp) tg ms g) (hms : ∀ i ∈ ms, i ∈ own.map (·.2)) (ht : ∀ (s : Shared) (H : Hp) (C : Addr) (cl : List (Str × Addr)) (fp : List Addr), Ts (X.blk s H scope (compEnvC scope cl C X.env) fp) ifs c)
    (he : ∀ (s : Shared) (H : Hp) (C : Addr) (cl : List (Str × Addr)) (fp : List Addr), E (X.blk s H scope (compEnvC scope cl C X.env) fp) elt f) (hs : ∀ x, foldedSetIterable iter X.env x = pure x := by intro _; rfl) :
    E X (.ListComp elt [⟨tg, iter, ifs, 0⟩] scope pos) (xLc it (own.map (·.2)) g c f) :=
  pe_imp (pe_lc hc hN hi ok hg ht (fun s H C cl fp => (he s H C cl fp).fz) hs) (lc_imp hms)
theorem S.setLc {mz : List Nat} {i : Nat} {y : Str} {py : Pos} {elt tg iter : Expr} {ifs : List Expr} {scope : Scope} {own : List (Str × Nat)} {ms : List Nat} {pos spos : Pos} {it : Ix} {g : Gx} {c : Tx} {f : Ex} (him : i ∈ mz) (hc : X.calm = true) (hN : X.N.Nodup) (hy : X.N[i]? = some y) (hyl : X.env.scope.names.lookup y = some .local)
    (hsw : swapsWith (.ListComp elt [⟨tg, iter, ifs, 0⟩] scope pos) (some (.Name y py)) spos.line X.env = pure true) (hi : I X tg iter it) (ok : BlkOk X.N X.env.scope scope own)
    (hg : ∀ (s : Shared) (H : Hp) (C : Addr) (cl : List (Str × Addr)) (fp : List Addr), G (X.blk s H scope (compEnvC scope cl C X.env) fp) tg ms g) (hms : ∀ i ∈ ms, i ∈ own.map (·.2)) (ht : ∀ (s : Shared) (H : Hp) (C : Addr) (cl : List (Str × Addr)) (fp : List Addr), Ts (X.blk s H scope (compEnvC scope cl C X.env) fp) ifs c)
    (he : ∀ (s : Shared) (H : Hp) (C : Addr) (cl : List (Str × Addr)) (fp : List Addr), E (X.blk s H scope (compEnvC scope cl C X.env) fp) elt f) (hs : ∀ x, foldedSetIterable iter X.env x = pure x := by intro _; rfl) :
    S X mz (.Assign [.Name y py] (.ListComp elt [⟨tg, iter, ifs, 0⟩] scope pos) spos) (sSet i (xLc it (own.map (·.2)) g c f)) :=
  ps_imp (ps_setLc hc hN hy hyl hsw hi ok hg ht (fun s H C cl fp => (he s H C cl fp).fz) hs) fun Dd σ H h => by
    have := set_imp him Dd σ H h
    exact lc_imp hms σ H _ this
end
end Ev
namespace Ev
open PySem PySem.Spec PyProof.Rows L2
/-! ### defs -/
/-- a def's promise: it does on its arguments what m says -/
def spD (K : PySem.W.Frag) (n : Nat) (m : Ex) : Sp := fun vs H Q _ => vs.length = n ∧ cE K m (vs.map some) H Q
/-- what a body says of its arguments: ios are handed back changed -/
def keepE (ios : List Nat) (n : Nat) (e : En) : En := (List.range n).map fun i => if i ∈ ios then e.getD i none else none
def mB (n l : Nat) (ios : List Nat) (b : Sx) : Ex := fun e => match b (e ++ List.replicate l none) with
  | some (.rt d o, e') => some (d, o, keepE ios n e')
  | some (.nx, e') => some (.none, .f, keepE ios n e')
  | _ => none
theorem keepE_get {ios : List Nat} {n : Nat} {e : En} {i : Nat} : (keepE ios n e)[i]? = if i < n then some (if i ∈ ios then e.getD i none else none) else none := by
  unfold keepE
  rw [List.getElem?_map]
  by_cases h : i < n
  · rw [List.getElem?_range h, if_pos h]; rfl
  · rw [List.getElem?_eq_none (by simp; omega), if_neg h]; rfl
section
variable {P : Program} {w : World} {K : PySem.W.Frag} {mg : Str → Option Value} {base : Heap}
theorem env_start {F H : Hp} {vs : List V} {e : En} {A : Nat → Fp} (E0 : EnvOk K F H (vs.map some) e A) (l : Nat) : EnvOk K F H (vs.map some ++ List.replicate l none) (e ++ List.replicate l none) A := by
  have hl := E0.len
  refine ⟨by simp [hl], fun i d o h => ?_, fun i h a ha => ?_, E0.dis, E0.nf, E0.sub⟩
  · by_cases hi : i < e.length
    · rw [List.getElem?_append_left hi] at h
      obtain ⟨v, q1, q2⟩ := E0.at_ i d o h
      exact ⟨v, by rw [List.getElem?_append_left (by rw [← hl]; exact hi)]; exact q1, q2⟩
    · rw [List.getElem?_append_right (by omega), List.getElem?_replicate] at h
      split at h <;> cases h
  · by_cases hi : i < e.length
    · exact E0.un i (fun d n z => h d n (by rw [List.getElem?_append_left hi]; exact z)) a ha
    · exact E0.un i (fun d n z => hi (len_of z)) a ha
theorem env_end {F H : Hp} {σ : L2.St} {vs : List V} {l : Nat} {e : En} {A : Nat → Fp} {ios ms : List Nat} (E1 : EnvOk K F H σ e A) (mo : Mo ms (vs.map some ++ List.replicate l none) σ) (hio : ∀ i ∈ ios, i ∉ ms) :
    EnvOk K F H (vs.map some) (keepE ios vs.length e) (fun i => if i ∈ ios ∧ i < vs.length then A i else Fp.no) := by
  refine ⟨by unfold keepE; simp, fun i d o h => ?_, fun i h a ha => ?_, fun i j a h1 h2 => ?_, fun i a h => ?_, E1.sub⟩
  · rw [keepE_get] at h
    by_cases hn : i < vs.length
    · rw [if_pos hn] at h
      by_cases hi : i ∈ ios
      · rw [if_pos hi] at h
        rw [if_pos ⟨hi, hn⟩]
        have h' : e[i]? = some (some (d, o)) := by
          rw [List.getD_eq_getElem?_getD] at h
          cases q : e[i]? with
          | none => rw [q] at h; cases h
          | some s => rw [q] at h; exact h
        obtain ⟨v, q1, q2⟩ := E1.at_ i d o h'
        refine ⟨v, ?_, q2⟩
        rw [mo.2 i (hio i hi), List.getElem?_append_left (by simp; exact hn)] at q1
        exact q1
      · rw [if_neg hi] at h; cases h
    · rw [if_neg hn] at h; cases h
  · by_cases hi : i ∈ ios ∧ i < vs.length
    · rw [if_pos hi] at ha
      refine E1.un i (fun d n z => h d n ?_) a ha
      rw [keepE_get, if_pos hi.2, if_pos hi.1, List.getD_eq_getElem?_getD, z]; rfl
    · rw [if_neg hi] at ha; exact ha
  · by_cases hi : i ∈ ios ∧ i < vs.length
    · by_cases hj : j ∈ ios ∧ j < vs.length
      · rw [if_pos hi] at h1; rw [if_pos hj] at h2; exact E1.dis i j a h1 h2
      · rw [if_neg hj] at h2; exact h2.elim
    · rw [if_neg hi] at h1; exact h1.elim
  · by_cases hi : i ∈ ios ∧ i < vs.length
    · rw [if_pos hi] at h; exact E1.nf i a h
    · rw [if_neg hi] at h; exact h.elim
theorem u_keep {A : Nat → Fp} {ios : List Nat} {n : Nat} : ∀ a, U (fun i => if i ∈ ios ∧ i < n then A i else Fp.no) a → U A a := fun a ⟨i, z⟩ => by
  dsimp only at z
  by_cases hi : i ∈ ios ∧ i < n
  · rw [if_pos hi] at z; exact ⟨i, z⟩
  · rw [if_neg hi] at z; exact z.elim
/-- a def's promise where no repr is under way -/
structure FnG (P : Program) (w : World) (K : PySem.W.Frag) (mg : Str → Option Value) (base : Heap) (k : Nat) (f : Addr) (fd : FuncData) (ps : List Str) (sp : Sp) : Prop where
  len : ∀ vs H Q E, sp vs H Q E → vs.length = ps.length
  run : ∀ (A : Around) (outer : List Env) (s : Shared) (H : Hp) (args : Args) (us : List Value) (vs : List V) (Q : VK) (E : XK), A.guards = some [] → Room k A →
    Env0 P w K mg base A outer s H → BindsTo s fd args (ps.zip us) → Vals vs us → sp vs H Q E → codeAny (model P w) A (.call (.ref f) args) (CR CX0 outer P w H s Q E) s
theorem FnG.mono {j k : Nat} {f : Addr} {fd : FuncData} {ps : List Str} {sp : Sp} (F : FnG P w K mg base j f fd ps sp) (h : j ≤ k) : FnG P w K mg base k f fd ps sp :=
  ⟨F.len, fun A o s H a us vs Q E g hr => F.run A o s H a us vs Q E g (hr.mono h)⟩
theorem FnG.imp {k : Nat} {f : Addr} {fd : FuncData} {ps : List Str} {sp sp' : Sp} (F : FnG P w K mg base k f fd ps sp) (h : ∀ vs H Q E, sp' vs H Q E → sp vs H Q E) : FnG P w K mg base k f fd ps sp' :=
  ⟨fun vs H Q E q => F.len vs H Q E (h _ _ _ _ q), fun A o s H a us vs Q E g hr e b r q => F.run A o s H a us vs Q E g hr e b r (h _ _ _ _ q)⟩
/-- a def as it stands behind the top, whatever its defaults -/
structure FunA (K : PySem.W.Frag) (x qual : Str) (st : Stmt) (f : Addr) (fd : FuncData) : Prop where
  ex : ∃ (oc : Value) (od : Option Addr) (dV kV doc pm : Value) (an : Option Addr) (cdv ct : Value) (osl : Array (Option Value)),
    fd = PySem.W.fnOf x qual (defArgs st) (defBody st) (defScope st) dV kV doc pm an cdv ct ∧ K.lookup f = some ⟨oc, od, .func fd, osl⟩ ∧ PySem.W.codeIn K cdv qual = true
/-- the rule: by the body -/
theorem fng_of {x qual : Str} {st : Stmt} {f : Addr} {fd : FuncData} {N ps : List Str} {k : Nat} {sp : Sp} (F : FunA K x qual st f fd) (S : FnScope N ps (defScope st)) (len : ∀ vs H Q E, sp vs H Q E → vs.length = ps.length)
    (hbody : ∀ (cdv : Value) (A : Around) (outer : List Env) (s : Shared) (H : Hp) (vs : List V) (Q : VK) (E : XK), A.guards = some [] → Room k (A.deeper (envOfC qual (defScope st) s.heap.objs.size f cdv)) → sp vs H Q E →
      ∃ t, PSs (cxOf CX0 P w K mg base N qual (defScope st) f cdv A outer s H E).nox (defBody st) t ∧ t { nx := fun _ H' => Q .non H', rt := Q } (L2.start N vs) H) : FnG P w K mg base (k + 1) f fd ps sp := by
  obtain ⟨oc, od, dV, kV, doc, pm, an, cdv, ct, osl, hfd, lk, hcd⟩ := F.ex
  subst hfd
  refine ⟨len, fun A outer s H args us vs Q E hg hr e0 hb r hsp => ?_⟩
  have old : ∀ b o, base.get? b = some o → s.heap.get? b = some o := fun b o e => (e0.bs b o e).1
  have kinds : ∀ y ∈ ps.zip us, (defScope st).names.lookup y.1 = some .local ∨ ((defScope st).names.lookup y.1 = some .cell ∧ ((cellsFrom (s.heap.objs.size + 1) (defScope st).names []).lookup y.1).isSome = true) := by
    rintro ⟨n, v⟩ hy
    rcases S.par n (List.of_mem_zip hy).1 with q | q
    · exact Or.inl q
    · exact Or.inr ⟨q, PySem.W.cellsFrom_some _ _ _ (Or.inl q)⟩
  have KX : K.In s.heap := e0.mod.kin.keeps old
  refine codeAny_call_function hr.depth (KX _ _ lk) rfl S.co S.gen rfl (PySem.W.codeRec_of KX hcd) (hb _ _ _ _ (wpAny_newFunctionEnv_cells S.kind kinds fun env he s1 xc => ?_))
  subst he
  refine ⟨(e0.mod.nolimit.keeps old).keeps xc.toInCall.keep, codeAny_func ?_⟩
  obtain ⟨t, ht, hq⟩ := hbody cdv A outer s H vs Q E hg (hr.deeper _) hsp
  have J0 : Inv (cxOf CX0 P w K mg base N qual (defScope st) f cdv A outer s H E) [] (L2.start N vs) H s1 := inv_start S hr.hd e0 (len _ _ _ _ hsp) r xc
  refine wpAny_mono (ht.nox.run [] s1 (L2.start N vs) H _ J0 hq) (fun fl s' hs => ?_) fun e s' hs => hs
  have done : ∀ {σ' : L2.St} {H' : Hp} {v : V} {u : Value}, Inv (cxOf CX0 P w K mg base N qual (defScope st) f cdv A outer s H E) [] σ' H' s' → RelV v u → Q v H' → CE outer P w H s Q u s' :=
    fun {σ' H' v u} J rv q => ⟨v, H', J.os, J.bare, J.base, J.hok, rv, q⟩
  cases fl with
  | ret u => obtain ⟨v, σ', H', J, rv, q⟩ := hs; exact done J rv q
  | next => obtain ⟨σ', H', J, q⟩ := hs; exact done (v := V.non) (u := Value.none) J rfl q
  | brk => obtain ⟨_, _, _, q⟩ := hs; exact q.elim
  | cont => obtain ⟨_, _, _, q⟩ := hs; exact q.elim
/-- THE RULE for a def -/
theorem fn_ev {x qual : Str} {st : Stmt} {f : Addr} {fd : FuncData} {N ps : List Str} {k n l : Nat} {ios ms : List Nat} {b : Sx} (F : FunA K x qual st f fd) (S : FnScope N ps (defScope st)) (hn : ps.length = n) (hN : N.length = n + l) (hio : ∀ i ∈ ios, i ∉ ms)
    (hbody : ∀ (cdv : Value) (A : Around) (outer : List Env) (s : Shared) (H : Hp) (E : XK), A.guards = some [] → Room k (A.deeper (envOfC qual (defScope st) s.heap.objs.size f cdv)) →
      Ss (cxOf CX0 P w K mg base N qual (defScope st) f cdv A outer s H E).nox ms (defBody st) b) : FnG P w K mg base (k + 1) f fd ps (spD K n (mB n l ios b)) := by
  refine fng_of F S (fun vs H Q E h => h.1.trans hn.symm) (fun cdv A outer s H vs Q E hgd hr h => ⟨_, hbody cdv A outer s H E hgd hr, ?_⟩)
  obtain ⟨hvl, F, e, A, d, o, e', E0, hx, post⟩ := h
  have hst : L2.start N vs = vs.map some ++ List.replicate l none := by
    unfold L2.start
    rw [hN, hvl]
    congr 2
    omega
  rw [hst]
  have he : e.length = n := by rw [E0.len, List.length_map, hvl]
  unfold mB at hx
  split at hx
  · rename_i d1 o1 e1 hb
    cases hx
    refine ⟨F, _, A, .rt d o, e1, env_start E0 l, hb, fun σ' H' F' A' E1 mo v R hv hn1 hd st => ?_⟩
    have E2 := env_end (vs := vs) E1 mo hio
    rw [hvl] at E2
    refine post v H' F' _ R E2 hv hn1 (fun a z y => hd a z (u_keep a y)) ?_
    exact st.trans (sub_step fun a z => z.elim (fun z => .inl (u_keep a z)) .inr)
  · rename_i e1 hb
    cases hx
    refine ⟨F, _, A, .nx, e1, env_start E0 l, hb, fun σ' H' F' A' E1 mo st => ?_⟩
    have E2 := env_end (vs := vs) E1 mo hio
    rw [hvl] at E2
    refine post .non H' F' _ Fp.no E2 ⟨.non, rfl⟩ (fun _ z => z.elim) (fun _ z => z.elim) ?_
    rw [or_no]
    exact st.trans (sub_step u_keep)
  · cases hx
/-- a def as its callers see it -/
structure Df (P : Program) (w : World) (K : PySem.W.Frag) (mg : Str → Option Value) (base : Heap) (k : Nat) (x : Str) (n : Nat) (m : Ex) : Prop where
  ex : ∃ (f : Addr) (fd : FuncData) (ps : List Str), FnG P w K mg base k f fd ps (spD K n m) ∧ mg x = some (.ref f) ∧ PySem.W.keepIn K (.ref f) = true ∧ Binds K fd ps []
theorem Df.imp {k n : Nat} {x : Str} {m m' : Ex} (h : Df P w K mg base k x n m) (i : ∀ e r, m' e = some r → m e = some r) : Df P w K mg base k x n m' := by
  obtain ⟨f, fd, ps, h1, h2, h3, h4⟩ := h.ex
  exact ⟨f, fd, ps, h1.imp fun vs H Q E ⟨q1, F, e, A, d, o, e', E0, hx, post⟩ => ⟨q1, F, e, A, d, o, e', E0, i _ _ hx, post⟩, h2, h3, h4⟩
theorem Df.mono {j k n : Nat} {x : Str} {m : Ex} (h : Df P w K mg base j x n m) (hk : j ≤ k) : Df P w K mg base k x n m := by
  obtain ⟨f, fd, ps, h1, h2⟩ := h.ex
  exact ⟨f, fd, ps, h1.mono hk, h2⟩
end
/-! ### arguments of a def -/
inductive Ar where
  | io (i : Nat)
  | ex (f : Ex)
def arE : List Ar → En → Option (List (Option D) × En)
  | [], e => some ([], e)
  | .io i :: as, e => match e[i]? with
    | some (some _) => (match arE as e with
      | some (ds, e1) => some (none :: ds, e1)
      | none => none)
    | _ => none
  | .ex f :: as, e => bnd (f e) fun d e1 => match arE as e1 with
    | some (ds, e2) => some (some d :: ds, e2)
    | none => none
def arEnv : List Ar → List (Option D) → En → En
  | .io i :: as, _ :: ds, e => e.getD i none :: arEnv as ds e
  | .ex _ :: as, some d :: ds, e => some (d, .f) :: arEnv as ds e
  | .ex _ :: as, none :: ds, e => none :: arEnv as ds e
  | _, _, _ => []
def arOut : List Ar → En → En → En
  | .io i :: as, s :: eo, e => arOut as eo (e.set i s)
  | .ex _ :: as, _ :: eo, e => arOut as eo e
  | _, _, e => e
def arIos : List Ar → List Nat
  | [] => []
  | .io i :: as => i :: arIos as
  | .ex _ :: as => arIos as
def arLive (e : En) (ios : List Nat) : Bool := ios.all fun i => match e[i]? with
  | some (some _) => true
  | _ => false
def xApp (m : Ex) (as : List Ar) : Ex := fun e => match arE as e with
  | some (ds, e1) => if arLive e1 (arIos as) = true then (match m (arEnv as ds e1) with
    | some (r, o, eo) => some (r, o, arOut as eo e1)
    | none => none) else none
  | none => none
/-- values as arguments -/
inductive ArOk (K : PySem.W.Frag) (F : Hp) (σ : L2.St) : List Ar → List (Option D) → List V → Prop
  | nil : ArOk K F σ [] [] []
  | io {i : Nat} {as : List Ar} {ds : List (Option D)} {v : V} {vs : List V} : σ[i]? = some (some v) → ArOk K F σ as ds vs → ArOk K F σ (.io i :: as) (none :: ds) (v :: vs)
  | ex {f : Ex} {d : D} {as : List Ar} {ds : List (Option D)} {v : V} {vs : List V} : Fz K F v d → ArOk K F σ as ds vs → ArOk K F σ (.ex f :: as) (some d :: ds) (v :: vs)
theorem ArOk.mono {K : PySem.W.Frag} {F F' : Hp} {σ : L2.St} (e : Same F F') : ∀ {as : List Ar} {ds : List (Option D)} {vs : List V}, ArOk K F σ as ds vs → ArOk K F' σ as ds vs
  | _, _, _, .nil => .nil
  | _, _, _, .io h r => .io h (r.mono e)
  | _, _, _, .ex h r => .ex (h.mono e) (r.mono e)
def cAr (K : PySem.W.Frag) (as : List Ar) : TA := fun σ H Q => ∃ (F : Hp) (e : En) (A : Nat → Fp) (ds : List (Option D)) (e' : En), EnvOk K F H σ e A ∧ arE as e = some (ds, e') ∧ arLive e' (arIos as) = true ∧
  ∀ (vs : List V) (H' F' : Hp) (A' : Nat → Fp), EnvOk K F' H' σ e' A' → ArOk K F' σ as ds vs → Step F (U A) H F' (U A') H' → Q vs H'
abbrev Arg (X : Cx) (es : List Expr) (as : List Ar) : Prop := PA X es (cAr X.K as)
section
variable {X : Cx} {e : Expr} {es : List Expr} {f : Ex} {as : List Ar}
theorem arLive_get {e : En} {ios : List Nat} (h : arLive e ios = true) {i : Nat} (hi : i ∈ ios) : ∃ d o, e[i]? = some (some (d, o)) := by
  have := List.all_eq_true.mp h i hi
  cases q : e[i]? with
  | none => rw [q] at this; cases this
  | some s =>
    cases s with
    | none => rw [q] at this; cases this
    | some p => exact ⟨p.1, p.2, rfl⟩
theorem Arg.nil : Arg X [] [] := pa_imp pa_nil fun σ H Q => by
  rintro ⟨F, en, A, ds, e', E0, hx, _, post⟩
  cases hx
  exact post [] H F A E0 .nil Step.refl
theorem Arg.ex (ha : E X e f) (hs : Arg X es as) (hst : starEach (e :: es) X.env = (false, eval e X.env) :: starEach es X.env := by rfl) : Arg X (e :: es) (.ex f :: as) := pa_imp (pa_cons ha.fz hs hst) fun σ H Q => by
  rintro ⟨F, en, A, ds, e', E0, hx, hl, post⟩
  unfold arE at hx
  obtain ⟨d1, o1, e1, h1, hx⟩ := bnd_eq hx
  split at hx
  · rename_i ds2 e2 hg
    cases hx
    refine E.fz_run E0 h1 fun x H1 F1 A1 E1 hx1 st1 => ?_
    refine ⟨F1, e1, A1, ds2, e', E1, hg, hl, fun vs H2 F2 A2 E2 hv st2 => ?_⟩
    exact post (x :: vs) H2 F2 A2 E2 (.ex (hx1.mono st2.ff) hv) (st1.trans st2)
  · cases hx
theorem Arg.io {i : Nat} (ha : PE X e (tVar i)) (hs : Arg X es as) (hst : starEach (e :: es) X.env = (false, eval e X.env) :: starEach es X.env := by rfl) : Arg X (e :: es) (.io i :: as) := pa_imp (pa_cons ha hs hst) fun σ H Q => by
  rintro ⟨F, en, A, ds, e', E0, hx, hl, post⟩
  unfold arE at hx
  split at hx
  · rename_i p hp
    split at hx
    · rename_i ds2 e2 hg
      cases hx
      obtain ⟨v, hv, _⟩ := E0.at_ i p.1 p.2 hp
      refine ⟨v, hv, F, en, A, ds2, e', E0, hg, ?_, fun vs H2 F2 A2 E2 hw st2 => post (v :: vs) H2 F2 A2 E2 (.io hv hw) st2⟩
      exact List.all_eq_true.mpr fun j hj => List.all_eq_true.mp hl j (List.mem_cons_of_mem _ hj)
    · cases hx
  · cases hx
end

/-! the callee's state, and back -/
def arFp (A : Nat → Fp) : List Ar → Nat → Fp
  | .io i :: _, 0 => A i
  | .ex _ :: _, 0 => Fp.no
  | _ :: as, j + 1 => arFp A as j
  | [], _ => Fp.no
section
variable {K : PySem.W.Frag} {F H : Hp} {σ : L2.St}
theorem arFp_get {A : Nat → Fp} : ∀ {as : List Ar} {j : Nat} {a : Addr}, arFp A as j a → ∃ i, as[j]? = some (.io i) ∧ A i a
  | .io i :: _, 0, a, h => ⟨i, rfl, h⟩
  | .ex _ :: _, 0, a, h => h.elim
  | .io _ :: as, j + 1, a, h => by
    obtain ⟨i, q1, q2⟩ := arFp_get (as := as) (j := j) (a := a) h
    exact ⟨i, by rw [List.getElem?_cons_succ]; exact q1, q2⟩
  | .ex _ :: as, j + 1, a, h => by
    obtain ⟨i, q1, q2⟩ := arFp_get (as := as) (j := j) (a := a) h
    exact ⟨i, by rw [List.getElem?_cons_succ]; exact q1, q2⟩
  | [], _, a, h => h.elim
theorem ios_get : ∀ {as : List Ar} {j i : Nat}, as[j]? = some (.io i) → i ∈ arIos as
  | .io k :: as, 0, i, h => by cases h; exact List.mem_cons_self
  | .ex _ :: as, 0, i, h => by cases h
  | .io k :: as, j + 1, i, h => List.mem_cons_of_mem _ (ios_get (j := j) (by rw [List.getElem?_cons_succ] at h; exact h))
  | .ex _ :: as, j + 1, i, h => ios_get (as := as) (j := j) (by rw [List.getElem?_cons_succ] at h; exact h)
  | [], _, _, h => by cases h
theorem ios_inj : ∀ {as : List Ar} {j k i : Nat}, (arIos as).Nodup → as[j]? = some (.io i) → as[k]? = some (.io i) → j = k
  | [], _, _, _, _, h, _ => by cases h
  | .ex _ :: as, 0, _, _, _, h, _ => by cases h
  | .ex _ :: as, _ + 1, 0, _, _, _, h => by cases h
  | .ex _ :: as, j + 1, k + 1, i, nd, h1, h2 => by
    rw [List.getElem?_cons_succ] at h1 h2
    rw [ios_inj (as := as) nd h1 h2]
  | .io _ :: as, 0, 0, _, _, _, _ => rfl
  | .io m :: as, 0, k + 1, i, nd, h1, h2 => by
    cases h1
    rw [List.getElem?_cons_succ] at h2
    exact ((List.nodup_cons.mp nd).1 (ios_get h2)).elim
  | .io m :: as, j + 1, 0, i, nd, h1, h2 => by
    cases h2
    rw [List.getElem?_cons_succ] at h1
    exact ((List.nodup_cons.mp nd).1 (ios_get h1)).elim
  | .io m :: as, j + 1, k + 1, i, nd, h1, h2 => by
    rw [List.getElem?_cons_succ] at h1 h2
    rw [ios_inj (as := as) (List.nodup_cons.mp nd).2 h1 h2]
theorem ArOk.length : ∀ {as : List Ar} {ds : List (Option D)} {vs : List V}, ArOk K F σ as ds vs → vs.length = as.length
  | _, _, _, .nil => rfl
  | _, _, _, .io _ r => by rw [List.length_cons, List.length_cons, r.length]
  | _, _, _, .ex _ r => by rw [List.length_cons, List.length_cons, r.length]
theorem arEnv_len {e : En} : ∀ {as : List Ar} {ds : List (Option D)} {vs : List V}, ArOk K F σ as ds vs → (arEnv as ds e).length = as.length
  | _, _, _, .nil => rfl
  | _, _, _, .io _ r => by unfold arEnv; rw [List.length_cons, List.length_cons, arEnv_len r]
  | _, _, _, .ex _ r => by unfold arEnv; rw [List.length_cons, List.length_cons, arEnv_len r]
theorem arEnv_at {e : En} {A : Nat → Fp} (E0 : EnvOk K F H σ e A) : ∀ {as : List Ar} {ds : List (Option D)} {vs : List V} {j : Nat} {d : D} {o : Fg}, ArOk K F σ as ds vs → (arEnv as ds e)[j]? = some (some (d, o)) →
    ∃ v, vs[j]? = some v ∧ VD K F H v d o (arFp A as j) ∧ ∀ i, as[j]? = some (.io i) → e[i]? = some (some (d, o))
  | _, _, _, _, _, _, .nil, h => by cases h
  | .io i :: as, _, _, 0, d, o, .io hv r, h => by
    have h' : e[i]? = some (some (d, o)) := by
      have h2 : some (e.getD i none) = some (some (d, o)) := h
      have := Option.some.inj h2
      rw [List.getD_eq_getElem?_getD] at this
      cases q : e[i]? with
      | none => rw [q] at this; cases this
      | some s => rw [q] at this; exact congrArg some this
    obtain ⟨v, q1, q2⟩ := E0.at_ i d o h'
    rw [hv] at q1
    cases q1
    exact ⟨_, rfl, q2, fun i' h3 => by cases h3; exact h'⟩
  | _, _, _, 0, d, o, .ex hv r, h => by
    cases h
    exact ⟨_, rfl, ⟨hv, rfl⟩, fun i' h3 => by cases h3⟩
  | .io i :: as, _ :: _, _, j + 1, d, o, .io hv r, h => by
    obtain ⟨v, q1, q2, q3⟩ := arEnv_at E0 (j := j) (d := d) (o := o) r (by unfold arEnv at h; rw [List.getElem?_cons_succ] at h; exact h)
    exact ⟨v, by rw [List.getElem?_cons_succ]; exact q1, q2, fun i' h3 => q3 i' (by rw [List.getElem?_cons_succ] at h3; exact h3)⟩
  | .ex _ :: as, _ :: _, _, j + 1, d, o, .ex hv r, h => by
    obtain ⟨v, q1, q2, q3⟩ := arEnv_at E0 (j := j) (d := d) (o := o) r (by unfold arEnv at h; rw [List.getElem?_cons_succ] at h; exact h)
    exact ⟨v, by rw [List.getElem?_cons_succ]; exact q1, q2, fun i' h3 => q3 i' (by rw [List.getElem?_cons_succ] at h3; exact h3)⟩
theorem arEnv_ok {e : En} {A : Nat → Fp} (E0 : EnvOk K F H σ e A) {as : List Ar} {ds : List (Option D)} {vs : List V} (ha : ArOk K F σ as ds vs) (nd : (arIos as).Nodup) (hl : arLive e (arIos as) = true) :
    EnvOk K F H (vs.map some) (arEnv as ds e) (arFp A as) := by
  refine ⟨by rw [arEnv_len ha, List.length_map, ha.length], fun j d o h => ?_, fun j h a hja => ?_, fun j k a h1 h2 => ?_, fun j a h => ?_, E0.sub⟩
  · obtain ⟨v, q1, q2, _⟩ := arEnv_at E0 ha h
    exact ⟨v, by rw [List.getElem?_map, q1]; rfl, q2⟩
  · obtain ⟨i, q1, q2⟩ := arFp_get hja
    obtain ⟨d, o, q3⟩ := arLive_get hl (ios_get q1)
    have q4 : (arEnv as ds e)[j]? = some (some (d, o)) := by
      clear h hja q2 E0 hl nd
      induction ha generalizing j with
      | nil => cases q1
      | io hv r ih =>
        cases j with
        | zero => cases q1; unfold arEnv; rw [List.getElem?_cons_zero, List.getD_eq_getElem?_getD, q3]; rfl
        | succ j => unfold arEnv; rw [List.getElem?_cons_succ]; exact ih _ (by rw [List.getElem?_cons_succ] at q1; exact q1)
      | ex hv r ih =>
        cases j with
        | zero => cases q1
        | succ j => unfold arEnv; rw [List.getElem?_cons_succ]; exact ih _ (by rw [List.getElem?_cons_succ] at q1; exact q1)
    cases o with
    | o n => exact h d n q4
    | f =>
      refine E0.un i (fun d' n z => ?_) a q2
      rw [q3] at z; cases z
  · obtain ⟨i1, q1, q2⟩ := arFp_get h1
    obtain ⟨i2, q3, q4⟩ := arFp_get h2
    have := E0.dis i1 i2 a q2 q4
    subst this
    exact ios_inj nd q1 q3
  · obtain ⟨i1, q1, q2⟩ := arFp_get h
    exact E0.nf i1 a q2
/-- slots of the caller behind the call -/
def backFp (as : List Ar) (A A2 : Nat → Fp) : Nat → Fp := fun i => open Classical in if h : ∃ j : Nat, as[j]? = some (Ar.io i) then A2 (Classical.choose h) else A i
theorem backFp_io {as : List Ar} {A A2 : Nat → Fp} {i j : Nat} (nd : (arIos as).Nodup) (h : as[j]? = some (.io i)) : backFp as A A2 i = A2 j := by
  have hx : ∃ j : Nat, as[j]? = some (Ar.io i) := ⟨j, h⟩
  unfold backFp
  rw [dif_pos hx, ios_inj nd (Classical.choose_spec hx) h]
theorem backFp_out {as : List Ar} {A A2 : Nat → Fp} {i : Nat} (h : i ∉ arIos as) : backFp as A A2 i = A i := by
  unfold backFp
  rw [dif_neg (fun ⟨j, q⟩ => h (ios_get q))]
theorem ios_of_mem : ∀ {as : List Ar} {i : Nat}, i ∈ arIos as → ∃ j : Nat, as[j]? = some (Ar.io i)
  | .io k :: as, i, h => by
    rcases List.mem_cons.mp h with rfl | h
    · exact ⟨0, rfl⟩
    · obtain ⟨j, q⟩ := ios_of_mem h
      exact ⟨j + 1, by rw [List.getElem?_cons_succ]; exact q⟩
  | .ex _ :: as, i, h => by
    obtain ⟨j, q⟩ := ios_of_mem (as := as) h
    exact ⟨j + 1, by rw [List.getElem?_cons_succ]; exact q⟩
  | [], i, h => by cases h
theorem arOut_len : ∀ {as : List Ar} {eo e : En}, (arOut as eo e).length = e.length
  | .io i :: as, s :: eo, e => by unfold arOut; rw [arOut_len, List.length_set]
  | .ex _ :: as, _ :: eo, e => by unfold arOut; exact arOut_len
  | [], _, _ => rfl
  | .io _ :: _, [], _ => rfl
  | .ex _ :: _, [], _ => rfl
theorem arOut_out : ∀ {as : List Ar} {eo e : En} {i : Nat}, i ∉ arIos as → (arOut as eo e)[i]? = e[i]?
  | .io k :: as, s :: eo, e, i, h => by
    unfold arOut
    rw [arOut_out (fun z => h (List.mem_cons_of_mem _ z)), List.getElem?_set_ne (fun z => h (by rw [z]; exact List.mem_cons_self))]
  | .ex _ :: as, _ :: eo, e, i, h => by unfold arOut; exact arOut_out (as := as) h
  | [], _, _, _, _ => rfl
  | .io _ :: _, [], _, _, _ => rfl
  | .ex _ :: _, [], _, _, _ => rfl
theorem arOut_io : ∀ {as : List Ar} {eo e : En} {i j : Nat}, (arIos as).Nodup → as[j]? = some (.io i) → eo.length = as.length → i < e.length → (arOut as eo e)[i]? = eo[j]?
  | .io k :: as, s :: eo, e, i, 0, nd, h, hl, hi => by
    cases h
    unfold arOut
    rw [arOut_out (List.nodup_cons.mp nd).1, List.getElem?_set_self hi]; rfl
  | .io k :: as, s :: eo, e, i, j + 1, nd, h, hl, hi => by
    unfold arOut
    rw [arOut_io (List.nodup_cons.mp nd).2 (by rw [List.getElem?_cons_succ] at h; exact h) (by simpa using hl) (by rw [List.length_set]; exact hi), List.getElem?_cons_succ]
  | .ex _ :: as, s :: eo, e, i, 0, nd, h, hl, hi => by cases h
  | .ex _ :: as, s :: eo, e, i, j + 1, nd, h, hl, hi => by
    unfold arOut
    rw [arOut_io (as := as) nd (by rw [List.getElem?_cons_succ] at h; exact h) (by simpa using hl) hi, List.getElem?_cons_succ]
  | [], _, _, _, _, _, h, _, _ => by cases h
  | .io _ :: _, [], _, _, _, _, _, hl, _ => by cases hl
  | .ex _ :: _, [], _, _, _, _, _, hl, _ => by cases hl
theorem ArOk.io_at : ∀ {as : List Ar} {ds : List (Option D)} {vs : List V} {i j : Nat}, ArOk K F σ as ds vs → as[j]? = some (.io i) → ∃ v, vs[j]? = some v ∧ σ[i]? = some (some v)
  | _, _, _, _, _, .nil, h => by cases h
  | _, _, _, i, 0, .io hv r, h => by cases h; exact ⟨_, rfl, hv⟩
  | _, _, _, i, j + 1, .io hv r, h => by
    obtain ⟨v, q1, q2⟩ := r.io_at (j := j) (by rw [List.getElem?_cons_succ] at h; exact h)
    exact ⟨v, by rw [List.getElem?_cons_succ]; exact q1, q2⟩
  | _, _, _, i, 0, .ex hv r, h => by cases h
  | _, _, _, i, j + 1, .ex hv r, h => by
    obtain ⟨v, q1, q2⟩ := r.io_at (j := j) (by rw [List.getElem?_cons_succ] at h; exact h)
    exact ⟨v, by rw [List.getElem?_cons_succ]; exact q1, q2⟩
theorem env_after {F2 H2 : Hp} {e eo : En} {A A2 : Nat → Fp} {R : Fp} (E0 : EnvOk K F H σ e A) {as : List Ar} {ds : List (Option D)} {vs : List V} (ha : ArOk K F σ as ds vs) (nd : (arIos as).Nodup) (hl : arLive e (arIos as) = true)
    (E2 : EnvOk K F2 H2 (vs.map some) eo A2) (hR : ∀ a, R a → ¬ U A2 a) (st : Step F (U (arFp A as)) H F2 (Fp.or (U A2) R) H2) :
    EnvOk K F2 H2 σ (arOut as eo e) (backFp as A A2) ∧ Step F (U A) H F2 (Fp.or (U (backFp as A A2)) R) H2 ∧ ∀ a, R a → ¬ U (backFp as A A2) a := by
  have hlen : eo.length = as.length := by rw [E2.len, List.length_map, ha.length]
  -- an untouched slot's piece of heap
  have out : ∀ i, i ∉ arIos as → ∀ a, A i a → H2 a = H a ∧ F2 a = none ∧ ¬ U A2 a ∧ ¬ R a := fun i hi a h => by
    obtain ⟨q1, q2, q3⟩ := st.fr a (E0.tr a ⟨i, h⟩) (E0.nf i a h) (fun ⟨j, z⟩ => by
      obtain ⟨k, z1, z2⟩ := arFp_get z
      have := E0.dis i k a h z2
      subst this
      exact hi (ios_get z1))
    exact ⟨q1, q2, fun z => q3 (.inl z), fun z => q3 (.inr z)⟩
  have lt : ∀ i, i ∈ arIos as → i < e.length := fun i hi => by
    obtain ⟨d, o, q⟩ := arLive_get hl hi
    exact len_of q
  refine ⟨⟨by rw [arOut_len, E0.len], fun i d o h => ?_, fun i h a hia => ?_, fun i j a h1 h2 => ?_, fun i a h => ?_, E2.sub⟩, ⟨st.ff, st.keep, fun a h1 h2 h3 => ?_⟩, fun a hr ⟨i, z⟩ => ?_⟩
  · by_cases hi : i ∈ arIos as
    · obtain ⟨j, hj⟩ := ios_of_mem hi
      rw [arOut_io nd hj hlen (lt i hi)] at h
      rw [backFp_io nd hj]
      obtain ⟨v, q1, q2⟩ := E2.at_ j d o h
      obtain ⟨v', q3, q4⟩ := ha.io_at hj
      rw [List.getElem?_map, q3] at q1
      cases q1
      exact ⟨_, q4, q2⟩
    · rw [arOut_out hi] at h
      rw [backFp_out hi]
      obtain ⟨v, q1, q2⟩ := E0.at_ i d o h
      exact ⟨v, q1, q2.mono st.ff fun a z => (out i hi a z).1⟩
  · by_cases hi : i ∈ arIos as
    · obtain ⟨j, hj⟩ := ios_of_mem hi
      rw [backFp_io nd hj] at hia
      refine E2.un j (fun d n z => h d n ?_) a hia
      rw [arOut_io nd hj hlen (lt i hi)]; exact z
    · rw [backFp_out hi] at hia
      refine E0.un i (fun d n z => h d n ?_) a hia
      rw [arOut_out hi]; exact z
  · by_cases hi : i ∈ arIos as
    · obtain ⟨ji, hji⟩ := ios_of_mem hi
      rw [backFp_io nd hji] at h1
      by_cases hj : j ∈ arIos as
      · obtain ⟨jj, hjj⟩ := ios_of_mem hj
        rw [backFp_io nd hjj] at h2
        have := E2.dis ji jj a h1 h2
        subst this
        rw [hji] at hjj
        cases hjj
        rfl
      · rw [backFp_out hj] at h2
        exact ((out j hj a h2).2.2.1 ⟨ji, h1⟩).elim
    · rw [backFp_out hi] at h1
      by_cases hj : j ∈ arIos as
      · obtain ⟨jj, hjj⟩ := ios_of_mem hj
        rw [backFp_io nd hjj] at h2
        exact ((out i hi a h1).2.2.1 ⟨jj, h2⟩).elim
      · rw [backFp_out hj] at h2
        exact E0.dis i j a h1 h2
  · by_cases hi : i ∈ arIos as
    · obtain ⟨ji, hji⟩ := ios_of_mem hi
      rw [backFp_io nd hji] at h
      exact E2.nf ji a h
    · rw [backFp_out hi] at h
      exact (out i hi a h).2.1
  · obtain ⟨q1, q2, q3⟩ := st.fr a h1 h2 (fun ⟨j, z⟩ => by
      obtain ⟨k, _, z2⟩ := arFp_get z
      exact h3 ⟨k, z2⟩)
    refine ⟨q1, q2, fun z => ?_⟩
    rcases z with ⟨i, z⟩ | z
    · by_cases hi : i ∈ arIos as
      · obtain ⟨ji, hji⟩ := ios_of_mem hi
        rw [backFp_io nd hji] at z
        exact q3 (.inl ⟨ji, z⟩)
      · rw [backFp_out hi] at z
        exact h3 ⟨i, z⟩
    · exact q3 (.inr z)
  · by_cases hi : i ∈ arIos as
    · obtain ⟨ji, hji⟩ := ios_of_mem hi
      rw [backFp_io nd hji] at z
      exact hR a hr ⟨ji, z⟩
    · rw [backFp_out hi] at z
      exact (out i hi a z).2.2.2 hr
end
/-! ### the call -/
section
variable {X : Cx} {k n : Nat} {x : Str} {m : Ex} {as : List Ar} {e : Expr} {es : List Expr} {p pos : Pos}
theorem app_imp {K : PySem.W.Frag} {E : XK} (nd : (arIos as).Nodup) (hn : as.length = n) : ∀ σ H Q, cE K (xApp m as) σ H Q → tCall (spD K n m) [] E (cAr K as) σ H Q := fun σ H Q => by
  rintro ⟨F, en, A, d, o, e', E0, hx, post⟩
  unfold xApp at hx
  split at hx
  · rename_i ds e1 h1
    by_cases hl : arLive e1 (arIos as) = true
    · rw [if_pos hl] at hx
      split at hx
      · rename_i r o' eo hm
        cases hx
        refine ⟨F, en, A, ds, e1, E0, h1, hl, fun vs H1 F1 A1 E1 ha st => ⟨by rw [List.append_nil, ha.length]; exact hn, ?_⟩⟩
        rw [List.append_nil]
        refine ⟨F1, _, _, d, o, eo, arEnv_ok E1 ha nd hl, hm, fun v H2 F2 A2 R E2 hv hn2 hd st2 => ?_⟩
        obtain ⟨q1, q2, q3⟩ := env_after E1 ha nd hl E2 hd st2
        exact post v H2 F2 _ R q1 hv hn2 q3 (st.trans q2)
      · cases hx
    · rw [if_neg hl] at hx; cases hx
  · cases hx
theorem run_g {f : Addr} {fd : FuncData} {ps : List Str} {sp : Sp} {pins : List (Addr × Obj)} {σ : L2.St} {H : Hp} {s : Shared} {Q : VK} {us ds : List Value} {vs dvs : List V} (F : FnG X.prog X.w X.K X.mg X.base k f fd ps sp) (hgd : X.A.guards = some []) (hr : Room k X.A) (hb : Binds X.K fd ps ds)
    (hd : Vals dvs ds) (J : Inv X pins σ H s) (r : Vals vs us) (h : sp (vs ++ dvs) H Q fun _ _ _ => False) : wpAny (model X.prog X.w) X.A (call (.ref f) us) (EP X pins σ Q) X.xe s := by
  have rr : Vals (vs ++ dvs) (us ++ ds) := r.append hd
  have hl : (us ++ ds).length = ps.length := rr.length.symm.trans (F.len _ _ _ _ h)
  refine wpAny_call (codeAny_mono (F.run X.A X.stack s H ⟨us, []⟩ (us ++ ds) (vs ++ dvs) Q (fun _ _ _ => False) hgd hr J.env0 (hb s us J.kIn hl) rr h) fun res s' hq => ?_)
  cases res with
  | error e => exact False.elim hq
  | ok fl =>
    cases fl with
    | ret u => exact J.after hq
    | next => exact hq.elim
    | brk => exact hq.elim
    | cont => exact hq.elim
theorem pe_callG {f : Addr} {fd : FuncData} {ps : List Str} {sp : Sp} {ds : List Value} {dvs : List V} {t : TA} (F : FnG X.prog X.w X.K X.mg X.base k f fd ps sp) (hgd : X.A.guards = some []) (hr : Room k X.A) (hg : Gl X x) (hm : X.mg x = some (.ref f)) (hk : PySem.W.keepIn X.K (.ref f) = true) (hb : Binds X.K fd ps ds) (hd : Vals dvs ds)
    (ha : PA X (e :: es) t) (hdb : (x == ("__debug__" : Str)) = false := by decide) (he : starEach (e :: es) X.env = (false, eval e X.env) :: starEach es X.env := by rfl) (hpl : (backTo pos (starEach es X.env)).any (·.1) = false := by rfl) :
    PE X (.Call (.Name x p) (e :: es) [] pos) (tCall sp dvs (fun _ _ _ => False) t) :=
  ⟨fun pins s σ H Q J h => wpAny_Call_Name_kw (ld_glob J hg hm (PySem.W.callWith_K (h₀ := X.base) J.ok.mod.kin hk (thn (ha.run pos pins s σ H _ J h) fun us s1 ⟨vs, H1, I1, r, q⟩ => ⟨I1.kIn, run_g F hgd hr hb hd I1 r q⟩) he hpl) hdb)⟩
theorem pe_callG0 {f : Addr} {fd : FuncData} {ps : List Str} {sp : Sp} {ds : List Value} {dvs : List V} (F : FnG X.prog X.w X.K X.mg X.base k f fd ps sp) (hgd : X.A.guards = some []) (hr : Room k X.A) (hg : Gl X x) (hm : X.mg x = some (.ref f)) (hk : PySem.W.keepIn X.K (.ref f) = true) (hb : Binds X.K fd ps ds) (hd : Vals dvs ds)
    (hdb : (x == ("__debug__" : Str)) = false := by decide) : PE X (.Call (.Name x p) [] [] pos) (tCall sp dvs (fun _ _ _ => False) tNil) :=
  ⟨fun pins s σ H Q J h => wpAny_Call_Name_kw (ld_glob J hg hm (PySem.W.callWith_K0 J.kIn hk (run_g (us := []) F hgd hr hb hd J .nil h)) hdb)⟩
theorem E.app (D : Df X.prog X.w X.K X.mg X.base k x n m) (hgd : X.A.guards = some []) (hr : Room k X.A) (hg : Gl X x) (ha : Arg X (e :: es) as) (nd : (arIos as).Nodup := by decide) (hn : as.length = n := by rfl)
    (hdb : (x == ("__debug__" : Str)) = false := by decide) (he : starEach (e :: es) X.env = (false, eval e X.env) :: starEach es X.env := by rfl) (hpl : (backTo pos (starEach es X.env)).any (·.1) = false := by rfl) :
    E X (.Call (.Name x p) (e :: es) [] pos) (xApp m as) := by
  obtain ⟨f, fd, ps, h1, h2, h3, h4⟩ := D.ex
  exact pe_imp (pe_callG h1 hgd hr hg h2 h3 h4 .nil ha hdb he hpl) (app_imp nd hn)
theorem E.app0 (D : Df X.prog X.w X.K X.mg X.base k x 0 m) (hgd : X.A.guards = some []) (hr : Room k X.A) (hg : Gl X x) (hdb : (x == ("__debug__" : Str)) = false := by decide) : E X (.Call (.Name x p) [] [] pos) (xApp m []) := by
  obtain ⟨f, fd, ps, h1, h2, h3, h4⟩ := D.ex
  refine pe_imp (pe_callG0 h1 hgd hr hg h2 h3 h4 .nil hdb) fun σ H Q h => ?_
  obtain ⟨F, en, A, ds, e', E0, hx, _, post⟩ := app_imp (n := 0) (E := fun _ _ _ => False) (by decide) rfl σ H Q h
  cases hx
  exact post [] H F A E0 .nil Step.refl
end
end Ev
namespace Ev
open PySem PySem.Spec PyProof.Rows L2
/-! ### the law's own call, at the caller's place (no repr is under way there) -/
section
variable {P : Program} {w : World} {K : PySem.W.Frag} {mg mb : Str → Option Value} {k : Nat} {fa a : Addr} {fd : FuncData} {x : Str} {sp : Sp} {s₁ : Shared} {vs : List Value} {ns : List Int}
def EndOk (s : Shared) (r : Result) (s' : Shared) : Prop := r = .ok (.ret (.bool true)) ∧ OldK s.heap s'.heap ∧ s'.os = s.os ∧ AllBare s'.gens
/-- from an abstract heap that tracks the script at most -/
theorem call_at (KX : K.In s₁.heap) (hns : s₁.heap.Ns mainGlobals mg) (hb : s₁.heap.Ns builtinsNs mb) (hbb : ∀ y : Str, y ≠ "__name__" → mb y = bootBuiltins y) (hlim : s₁.heap.NoLimit) (hg : s₁.gens = #[])
    (ha : s₁.heap.get? a = some { cls := .type "list", data := .seq vs.toArray }) (hr : Room k callerA)
    (F : ∀ base : Heap, K.In base → base.Ns mainGlobals mg → FnG P w K mg base k fa fd [x] sp) (hbind : ∀ (s : Shared) (u : Value), BindsTo s fd ⟨[u], []⟩ [(x, u)])
    (H : Hp) (hO : Only H) (hsp : sp [.ref a] H (fun v _ => v = .bl true) fun _ _ _ => False) (hok : HOk P w H s₁.heap) (hA : ∀ b, H b ≠ none → b = a) (hK : H a ≠ none → K.lookup a = none) :
    codeAny (model P w) callerA (.call (.ref fa) ⟨[.ref a], []⟩) (EndOk s₁) s₁ := by
  have low : ∀ {b : Addr} {o : Obj}, s₁.heap.get? b = some o → (∀ u, H b = some u → False) → (hidT s₁.heap H).get? b = some o := fun {b o} e n => hidT_get e (by
    cases q : H b with
    | none => rfl
    | some u => exact (n u q).elim)
  have is_a : ∀ {b : Addr} {u : HO}, H b = some u → b = a := fun {b u} q => hA b (by rw [q]; exact fun z => nomatch z)
  have ns : ∀ {b : Addr} {m : Str → Option Value}, s₁.heap.Ns b m → (hidT s₁.heap H).Ns b m := by
    rintro b m ⟨o, es, ep, e, d, r⟩
    refine ⟨o, es, ep, low e fun u q => ?_, d, r⟩
    have z := is_a q
    subst z
    rw [ha] at e
    cases e
    cases d
  have inK : K.In (hidT s₁.heap H) := fun b o e => low (KX b o e) fun u q => by
    have z := is_a q
    subst z
    rw [hK (by rw [q]; exact fun z => nomatch z)] at e
    cases e
  obtain ⟨mc, l1, l2⟩ := hlim
  have md : Mod K mg (hidT s₁.heap H) := { kin := inK, glob := ns hns, blt := ⟨mb, ns hb, hbb⟩, nolimit := ⟨mc, ns l1, l2⟩ }
  have e0 : Env0 P w K mg (hidT s₁.heap H) callerA [] s₁ H :=
    { frames := rfl, mod := md, bs := fun b o e => of_hidT e, bsz := Nat.le_of_eq (hidT_size _ _), funs := trivial, frf := fun b hb => (List.not_mem_nil hb).elim, hok := hok, bare := .of_eq hg }
  refine codeAny_mono ((F _ inK (ns hns)).run callerA [] s₁ H ⟨[.ref a], []⟩ [.ref a] [.ref a] _ _ rfl hr e0 (hbind s₁ (.ref a)) (.cons rfl .nil) hsp) fun res s' h => ?_
  cases res with
  | error e => exact False.elim h
  | ok fl =>
    cases fl with
    | next => exact h.elim
    | brk => exact h.elim
    | cont => exact h.elim
    | ret u =>
      obtain ⟨v, H', os, bare, un, hok', r', q⟩ := h
      subst q
      cases r'
      refine ⟨rfl, OldK.of_keep fun b o e => ?_, os, bare⟩
      cases q : H b with
      | none => exact un.keep b o e q (fun z => List.not_mem_nil z) (fun z => List.not_mem_nil z)
      | some u =>
        rcases hO b with z | ⟨ob, xs, z⟩
        · rw [q] at z; cases z
        · have g1 := (hok b _ z).1
          have g2 := (hok' b _ (un.frzs b ob _ z)).1
          rw [e] at g1
          cases g1
          exact g2
theorem call_law (KX : K.In s₁.heap) (hns : s₁.heap.Ns mainGlobals mg) (hb : s₁.heap.Ns builtinsNs mb) (hbb : ∀ y : Str, y ≠ "__name__" → mb y = bootBuiltins y) (hlim : s₁.heap.NoLimit) (hg : s₁.gens = #[])
    (ha : s₁.heap.get? a = some { cls := .type "list", data := .seq vs.toArray }) (hi : IntsAre vs ns) (hl : ns.length ≤ sizeLine) (hr : Room k callerA)
    (F : ∀ base : Heap, K.In base → base.Ns mainGlobals mg → FnG P w K mg base k fa fd [x] sp) (hbind : ∀ (s : Shared) (u : Value), BindsTo s fd ⟨[u], []⟩ [(x, u)])
    (hsp : ∀ H : Hp, SqL K H a (ns.map V.int) → sp [.ref a] H (fun v _ => v = .bl true) fun _ _ _ => False) :
    codeAny (model P w) callerA (.call (.ref fa) ⟨[.ref a], []⟩) (EndOk s₁) s₁ := by
  have rv := vals_ints hi
  have lv := hi.length
  have go := call_at (sp := sp) KX hns hb hbb hlim hg ha hr F hbind
  cases hk : K.lookup a with
  | some o =>
    have e := KX a o hk
    rw [ha] at e
    cases e
    have hS : SqL K (fun _ => none) a (ns.map V.int) := Or.inr ⟨_, vs.toArray, _, hk, rfl, rfl, rfl, by rw [List.size_toArray, lv]; exact hl, by simpa using rv⟩
    exact go (fun _ => none) (fun _ => Or.inl rfl) (hsp _ hS) (fun b u z => nomatch z) (fun b z => absurd rfl z) (fun z => absurd rfl z)
  | none =>
    let o0 : Obj := { cls := .type "list", data := .seq vs.toArray }
    let H0 : Hp := fun b => if b = a then some (.frz o0 (.lst (ns.map V.int))) else none
    have at_a : H0 a = some (.frz o0 (.lst (ns.map V.int))) := if_pos rfl
    have off : ∀ {b : Addr}, b ≠ a → H0 b = none := fun h => if_neg h
    have only_a : ∀ b, H0 b ≠ none → b = a := fun b z => Classical.byContradiction fun h => z (off h)
    refine go H0 (fun b => ?_) (hsp H0 (Or.inl (Or.inr ⟨o0, at_a⟩))) (fun b u z => ?_) only_a (fun _ => hk)
    · by_cases h : b = a
      · subst h; exact Or.inr ⟨_, _, at_a⟩
      · exact Or.inl (off h)
    · have h := only_a b (by rw [z]; exact fun y => nomatch y)
      subst h
      rw [at_a] at z
      cases z
      exact ⟨ha, by rw [List.length_map]; exact hl, vs, _, rv, ha⟩
end
/-- the goal behind k_head -/
theorem walk_ev {l : PySem.W.OpenLaw} {n k : Nat} {q : Program} {loose : List Str} {XP : (Str → Option Value) → Heap → Prop} {YP : World → Heap → Prop} {d : DefRec} {K : Params → PySem.W.Frag} {m : World → Ex} {x : Str}
    (hn : l.most = some n) (hn2 : n ≤ sizeLine) (hdf : d.params.defaults = []) (hr : Room k callerA) (hY : ∀ (w : World) (h : Heap), YP w h → (K w.params).In h)
    (F : ∀ (w : World) (mg : Str → Option Value) (fa : Addr) (h : Heap), (K w.params).In h → h.Ns mainGlobals mg → mg d.name = some (.ref fa) →
      ∃ fd : FuncData, (∀ (s : Shared) (u : Value), BindsTo s fd ⟨[u], []⟩ [(x, u)]) ∧
        ∀ base : Heap, (K w.params).In base → base.Ns mainGlobals mg → FnG l.prog w (K w.params) mg base k fa fd [x] (spD (K w.params) 1 (m w)))
    (hm : ∀ (w : World) (ns : List Int), ns.length ≤ n → ∃ e, m w [some (.list (ns.map .int), .f)] = some (.bool true, .f, e)) :
    PySem.W.WalkO q loose XP YP l.row.toRowW d [] (fun f vs => PySem.call f vs) := by
  refine Att.attach_call hn hdf fun w s₀ s₁ mg mb fa o pm cd doc a vs ns G Y ho hd hcd hmg hobj hints hlen hg => ?_
  have KX := hY w _ Y
  obtain ⟨fd, hb, hF⟩ := F w mg fa _ KX G.T.g hmg
  obtain ⟨e', he'⟩ := hm w ns hlen
  refine call_law KX G.T.g G.T.b G.T.builtins G.T.nolimit hg hobj hints (Nat.le_trans hlen hn2) hr hF hb fun H hS => ⟨rfl, ?_⟩
  -- nothing is known but the script
  have fz : Fz (K w.params) H (.ref a) (.list (ns.map .int)) := .lst hS (by
    clear hS he' hlen hints
    induction ns with
    | nil => exact .nil
    | cons i r ih => exact .cons (.int i) ih)
  refine ⟨H, _, fun _ => Fp.no, _, _, e', ⟨rfl, fun i d' o' h => ?_, fun _ _ _ z => z.elim, fun _ _ _ z => z.elim, fun _ _ z => z.elim, Same.refl _⟩, he', fun v H' F' A' R E1 hv _ _ _ => ?_⟩
  · cases i with
    | zero => cases h; exact ⟨_, rfl, fz, rfl⟩
    | succ i => cases h
  · cases hv.1
    rfl
end Ev
namespace Ev
open PySem PySem.Spec PyProof.Rows L2
/-! ### arithmetic -/
def big : Nat := 2 ^ 100000
def mulOk (i j : Int) : Prop := i.natAbs < 2 ^ 64 ∨ j.natAbs < 2 ^ 64 ∨ (i.natAbs < big ∧ j.natAbs < big)
def divOk (j : Int) : Prop := 0 < j ∧ j.natAbs < 2 ^ 8000
def powOk (i j : Int) : Prop := 0 ≤ j ∧ j ≤ 1000 ∧ i.natAbs < big
section
open Classical
noncomputable def dMul : D → D → Option (D × Fg)
  | .int i, .int j => if mulOk i j then some (.int (i * j), .f) else none
  | _, _ => none
noncomputable def dDiv : D → D → Option (D × Fg)
  | .int i, .int j => if divOk j then some (.int (i / j), .f) else none
  | _, _ => none
noncomputable def dPow : D → D → Option (D × Fg)
  | .int i, .int j => if powOk i j then some (.int (i ^ j.toNat), .f) else none
  | _, _ => none
end
def dSub : D → D → Option (D × Fg)
  | .int i, .int j => some (.int (i - j), .f)
  | _, _ => none
def dMod : D → D → Option (D × Fg)
  | .int i, .int j => if 0 < j then some (.int (i % j), .f) else none
  | _, _ => none
def dAdd : D → D → Option (D × Fg)
  | .int i, .int j => some (.int (i + j), .f)
  | .str a, .str b => if a.length + b.length ≤ sizeLine then some (.str (a ++ b), .f) else none
  | .list a, .list b => if a.length + b.length ≤ sizeLine then some (.list (a ++ b), .o 0) else none
  | _, _ => none
def dNeg : D → Option (D × Fg)
  | .int i => some (.int (-i), .f)
  | _ => none
section
variable {K : PySem.W.Frag} {X : Cx}
theorem vd_int {F H : Hp} {i : Int} : VD K F H (.int i) (.int i) .f Fp.no := ⟨.int i, rfl⟩
theorem vd_bl {F H : Hp} {i : Bool} : VD K F H (.bl i) (.bool i) .f Fp.no := ⟨.bl i, rfl⟩
theorem vd_str {F H : Hp} {i : Str} : VD K F H (.str i) (.str i) .f Fp.no := ⟨.str i, rfl⟩
theorem no_fresh {H F : Hp} : ∀ a, Fp.no a → H a = none ∧ F a = none := fun _ z => z.elim
theorem bits_lt {i : Int} {b : Nat} (h : i.natAbs < 2 ^ b) : Builtin.Int.intBits i ≤ b := by
  unfold Builtin.Int.intBits
  by_cases h0 : i.natAbs = 0
  · rw [if_pos (by simp; omega)]; exact Nat.zero_le _
  · rw [if_neg (by simp; omega)]
    exact (Nat.log2_lt h0).mpr h
theorem mulOk_ok {i j : Int} (h : mulOk i j) : IntMulOk i j := by
  rcases h with h | h | ⟨h1, h2⟩
  · exact CMul.ok (.inl (by omega))
  · exact CMul.ok (.inr (by omega))
  · refine CMulW.ok (wide_mul (a := 100000) (b := 100000) h1 h2 (by decide) (by decide) (by decide))
theorem od_sub : OpD K (rI0 fun i j => .int (i - j)) dSub := fun F H x y d1 d2 res o Q s h1 h2 he q => by
  cases h1 <;> cases h2 <;> try cases he
  exact ⟨_, _, rfl, rfl, q _ H F Fp.no vd_int (Fresh.refl s) no_fresh⟩
theorem od_mod : OpD K (rI (fun _ j => 0 < j) fun i j => .int (i % j)) dMod := fun F H x y d1 d2 res o Q s h1 h2 he q => by
  cases h1 <;> cases h2 <;> try cases he
  rename_i i j
  by_cases hj : 0 < j
  · simp only [dMod, if_pos hj] at he
    cases he
    exact ⟨_, _, rfl, rfl, hj, q _ H F Fp.no vd_int (Fresh.refl s) no_fresh⟩
  · simp only [dMod, if_neg hj] at he; cases he
theorem op_mulA : OpR X (binaryOp .Mult) (rI IntMulOk fun i j => .int (i * j)) := opI fun _ _ _ _ _ _ _ hc q => mul_int q hc
theorem od_mul : OpD K (rI IntMulOk fun i j => .int (i * j)) dMul := fun F H x y d1 d2 res o Q s h1 h2 he q => by
  cases h1 <;> cases h2 <;> try cases he
  rename_i i j
  by_cases hj : mulOk i j
  · simp only [dMul, if_pos hj] at he
    cases he
    exact ⟨_, _, rfl, rfl, mulOk_ok hj, q _ H F Fp.no vd_int (Fresh.refl s) no_fresh⟩
  · simp only [dMul, if_neg hj] at he; cases he
theorem od_div : OpD K (rI CDivW fun i j => .int (i / j)) dDiv := fun F H x y d1 d2 res o Q s h1 h2 he q => by
  cases h1 <;> cases h2 <;> try cases he
  rename_i i j
  by_cases hj : divOk j
  · simp only [dDiv, if_pos hj] at he
    cases he
    exact ⟨_, _, rfl, rfl, wide_div hj.1 hj.2 (by decide) (by decide), q _ H F Fp.no vd_int (Fresh.refl s) no_fresh⟩
  · simp only [dDiv, if_neg hj] at he; cases he
def CPowA (i j : Int) : Prop := 0 ≤ j ∧ (Builtin.Int.intBits i : Int) * j ≤ 2 ^ 27
theorem op_powA : OpR X (binaryOp .Pow) (rI CPowA fun i j => .int (i ^ j.toNat)) := opI fun _ _ _ _ _ _ _ hc q => PyProof.Rows.pow_int hc.1 hc.2 q
theorem od_pow : OpD K (rI CPowA fun i j => .int (i ^ j.toNat)) dPow := fun F H x y d1 d2 res o Q s h1 h2 he q => by
  cases h1 <;> cases h2 <;> try cases he
  rename_i i j
  by_cases hj : powOk i j
  · simp only [dPow, if_pos hj] at he
    cases he
    refine ⟨_, _, rfl, rfl, ⟨hj.1, ?_⟩, q _ H F Fp.no vd_int (Fresh.refl s) no_fresh⟩
    have h3 : Builtin.Int.intBits i ≤ 100000 := bits_lt hj.2.2
    have h4 : (Builtin.Int.intBits i : Int) * j ≤ 100000 * 1000 := Int.mul_le_mul (by omega) hj.2.1 hj.1 (by decide)
    exact Int.le_trans h4 (by decide)
  · simp only [dPow, if_neg hj] at he; cases he
theorem un_negD : UnD K (rU fun i => .int (-i)) dNeg := fun F H x d1 res o Q s h1 he q => by
  cases h1 <;> try cases he
  exact ⟨_, rfl, q _ H F Fp.no vd_int (Fresh.refl s) no_fresh⟩
/-- list + list, wherever they stand -/
def rCatS (K : PySem.W.Frag) : R2 := fun x y H Q => ∃ l b xs zs, x = .ref l ∧ y = .ref b ∧ SqL K H l xs ∧ SqL K H b zs ∧ xs.length + zs.length ≤ sizeLine ∧ ∀ p, H p = none → Q (.ref p) (upd H p (.lst (xs ++ zs)))
theorem op_catS : OpR X (binaryOp .Add) (rCatS X.K) := by
  intro pins s σ H x y v u Q I rx ry h
  obtain ⟨l, b, xs, zs, hx, hy, hl, hb, hz, q⟩ := h
  subst hx hy
  cases rx
  cases ry
  obtain ⟨i1, r1, ⟨⟨c1, e1, t1, w1⟩, n1, ho1, hc1, hd1, hs1⟩, _⟩ := I.list hl
  obtain ⟨i2, r2, ⟨⟨c2, e2, t2, w2⟩, n2, ho2, hc2, hd2, hs2⟩, _⟩ := I.list hb
  simp only at hc1 hd1 hs1 hc2 hd2 hs2
  subst hc1 hd1 hs1 hc2 hd2 hs2
  have hlen : i1.length + i2.length ≤ sizeLine := by rw [← r1.length, ← r2.length]; exact hz
  have ea : i1.toArray ++ i2.toArray = (i1 ++ i2).toArray := by simp
  refine concat_meets ⟨_, ho1, rfl⟩ ⟨_, ho2, rfl⟩ noFill_list_add seq_list_add PySem.F.slot_list_add PySem.F.entry_list_add (PySem.F.args_list_add_2 _ _)
    (list_addW l b i1.toArray i2.toArray n1 n2 _ _ w1 w2 (by simpa using hlen)) ⟨ho1, ho2, ?_⟩
  rw [ea]
  exact ⟨.ref _, _, I.lnew (t' := s.toks) (r1.append r2) (by rw [List.length_append]; exact hz), rfl, q _ I.fresh⟩
/-- a new list of known things -/
theorem vd_new {F H : Hp} {p : Addr} {vs : List V} {ds : List D} (hp : H p = none) (hv : FzAll K F vs ds) : VD K F (upd H p (.lst vs)) (.ref p) (.list ds) (.o 0) (fun a => a = p) :=
  (Ow.lst upd_same (OwAll.of_fz hv) (fun z => z)).cast fun a => ⟨fun z => z.elim id fun z => z.elim, .inl⟩
theorem new_R {F H : Hp} {p : Addr} (s : Same F H) (hp : H p = none) : ∀ a, (fun a => a = p) a → H a = none ∧ F a = none := fun a z => by rw [z]; exact ⟨hp, s.free hp⟩
def rAddA (K : PySem.W.Frag) : R2 := fun x y H Q => rI0 (fun i j => .int (i + j)) x y H Q ∨ ((∃ i j, x = .str i ∧ y = .str j ∧ i.length + j.length ≤ sizeLine ∧ Q (.str (i ++ j)) H) ∨ rCatS K x y H Q)
theorem op_addA : OpR X (binaryOp .Add) (rAddA X.K) := op_add.or (op_add_str.or op_catS)
theorem od_add : OpD K (rAddA K) dAdd := fun F H x y d1 d2 res o Q s h1 h2 he q => by
  cases h1 <;> cases h2 <;> try cases he
  · exact .inl ⟨_, _, rfl, rfl, q _ H F Fp.no vd_int (Fresh.refl s) no_fresh⟩
  · rename_i a b
    by_cases hz : a.length + b.length ≤ sizeLine
    · simp only [dAdd, if_pos hz] at he
      cases he
      exact .inr (.inl ⟨_, _, rfl, rfl, hz, q _ H F Fp.no vd_str (Fresh.refl s) no_fresh⟩)
    · simp only [dAdd, if_neg hz] at he; cases he
  · rename_i a xs ds ha hx b ys es hb hy
    by_cases hz : ds.length + es.length ≤ sizeLine
    · simp only [dAdd, if_pos hz] at he
      cases he
      refine .inr (.inr ⟨_, _, _, _, rfl, rfl, sqL_mono s ha, sqL_mono s hb, by rw [hx.length, hy.length]; exact hz, fun p hp => ?_⟩)
      exact q _ _ F _ (vd_new hp (hx.append hy)) (fresh_new s hp) (new_R s hp)
    · simp only [dAdd, if_neg hz] at he; cases he

/-! ### comparisons -/
def dLt : D → D → Option (D × Fg)
  | .int i, .int j => some (.bool (decide (i < j)), .f)
  | _, _ => none
def dLe : D → D → Option (D × Fg)
  | .int i, .int j => some (.bool (decide (i ≤ j)), .f)
  | _, _ => none
def dGt : D → D → Option (D × Fg)
  | .int i, .int j => some (.bool (decide (j < i)), .f)
  | _, _ => none
def dGe : D → D → Option (D × Fg)
  | .int i, .int j => some (.bool (decide (j ≤ i)), .f)
  | _, _ => none
theorem od_lt : OpD K (rI0 fun i j => .bl (decide (i < j))) dLt := fun F H x y d1 d2 res o Q s h1 h2 he q => by
  cases h1 <;> cases h2 <;> try cases he
  exact ⟨_, _, rfl, rfl, q _ H F Fp.no vd_bl (Fresh.refl s) no_fresh⟩
theorem od_le : OpD K (rI0 fun i j => .bl (decide (i ≤ j))) dLe := fun F H x y d1 d2 res o Q s h1 h2 he q => by
  cases h1 <;> cases h2 <;> try cases he
  exact ⟨_, _, rfl, rfl, q _ H F Fp.no vd_bl (Fresh.refl s) no_fresh⟩
theorem od_gt : OpD K (rI0 fun i j => .bl (decide (j < i))) dGt := fun F H x y d1 d2 res o Q s h1 h2 he q => by
  cases h1 <;> cases h2 <;> try cases he
  exact ⟨_, _, rfl, rfl, q _ H F Fp.no vd_bl (Fresh.refl s) no_fresh⟩
theorem od_ge : OpD K (rI0 fun i j => .bl (decide (j ≤ i))) dGe := fun F H x y d1 d2 res o Q s h1 h2 he q => by
  cases h1 <;> cases h2 <;> try cases he
  exact ⟨_, _, rfl, rfl, q _ H F Fp.no vd_bl (Fresh.refl s) no_fresh⟩

mutual
theorem Fz.dp {F : Hp} : ∀ {v : V} {d : D}, d.hasDict = false → Fz K F v d → Dp K F v d
  | _, _, _, .non => .non
  | _, _, _, .bl b => .bl b
  | _, _, _, .int i => .int i
  | _, _, _, .str x => .str x
  | _, _, h, .lst hs ha => .lst hs (FzAll.dp (by simpa [PyData.hasDict] using h) ha)
  | _, _, h, .tup hs ha => .tup hs (FzAll.dp (by simpa [PyData.hasDict] using h) ha)
  | _, _, h, .dct _ _ => by simp [PyData.hasDict] at h
theorem FzAll.dp {F : Hp} : ∀ {v : List V} {d : List D}, PyData.hasDictAll d = false → FzAll K F v d → DpAll K F v d
  | _, _, _, .nil => .nil
  | _, _, h, .cons h1 h2 => by
    simp only [PyData.hasDictAll, Bool.or_eq_false_iff] at h
    exact .cons (Fz.dp h.1 h1) (FzAll.dp h.2 h2)
end
end
end Ev
namespace Ev
open PySem PySem.Spec PyProof.Rows L2
/-! ### == and in -/
def eqOk (d : D) : Bool := SeqAt.shaped d && !d.hasDict
def dEq (a b : D) : Option (D × Fg) := if eqOk a = true ∧ eqOk b = true then some (.bool (PyData.eqv a b), .f) else none
def dNe (a b : D) : Option (D × Fg) := if eqOk a = true ∧ eqOk b = true then some (.bool (!PyData.eqv a b), .f) else none
def dIsN (a b : D) : Option (D × Fg) := match b with
  | .none => some (.bool (match a with | .none => true | _ => false), .f)
  | _ => none
def dNotN (a b : D) : Option (D × Fg) := match b with
  | .none => some (.bool (match a with | .none => false | _ => true), .f)
  | _ => none
def sgn1 (z : Str) : Bool := z.cps.size == 1
def dInS (a b : D) : Option (D × Fg) := match a, b with
  | .str c, .str z => if sgn1 c = true then some (.bool (decide (c.cps.getD 0 0 ∈ z.cps.toList)), .f) else none
  | _, _ => none
def dNotInS (a b : D) : Option (D × Fg) := match a, b with
  | .str c, .str z => if sgn1 c = true then some (.bool (!decide (c.cps.getD 0 0 ∈ z.cps.toList)), .f) else none
  | _, _ => none
def dInL (a b : D) : Option (D × Fg) := match b with
  | .list ds => if eqOk a = true ∧ eqOk (.list ds) = true then some (.bool (ds.any fun z => PyData.eqv z a), .f) else none
  | _ => none
def dNotInL (a b : D) : Option (D × Fg) := match b with
  | .list ds => if eqOk a = true ∧ eqOk (.list ds) = true then some (.bool (!ds.any fun z => PyData.eqv z a), .f) else none
  | _ => none
section
variable {K : PySem.W.Frag} {X : Cx}
theorem eqOk_sh {d : D} (h : eqOk d = true) : SeqAt.shaped d = true ∧ d.hasDict = false := by
  unfold eqOk at h
  rw [Bool.and_eq_true] at h
  exact ⟨h.1, by simpa using h.2⟩
theorem od_eq : OpD K (rEqD K) dEq := fun F H x y d1 d2 res o Q s h1 h2 he q => by
  unfold dEq at he
  by_cases h : eqOk d1 = true ∧ eqOk d2 = true
  · rw [if_pos h] at he
    cases he
    exact ⟨d1, d2, Fz.dp (eqOk_sh h.1).2 (h1.mono s), Fz.dp (eqOk_sh h.2).2 (h2.mono s), (eqOk_sh h.1).1, (eqOk_sh h.2).1, q _ H F Fp.no vd_bl (Fresh.refl s) no_fresh⟩
  · rw [if_neg h] at he; cases he
theorem od_ne : OpD K (rNeD K) dNe := fun F H x y d1 d2 res o Q s h1 h2 he q => by
  unfold dNe at he
  by_cases h : eqOk d1 = true ∧ eqOk d2 = true
  · rw [if_pos h] at he
    cases he
    exact ⟨d1, d2, Fz.dp (eqOk_sh h.1).2 (h1.mono s), Fz.dp (eqOk_sh h.2).2 (h2.mono s), (eqOk_sh h.1).1, (eqOk_sh h.2).1, q _ H F Fp.no vd_bl (Fresh.refl s) no_fresh⟩
  · rw [if_neg h] at he; cases he
theorem od_isN : OpD K (fun x y H Q => y = .non ∧ Q (.bl (decide (x = .non))) H) dIsN := fun F H x y d1 d2 res o Q s h1 h2 he q => by
  cases h2 <;> try cases he
  refine ⟨rfl, ?_⟩
  cases h1 <;> exact q _ H F Fp.no vd_bl (Fresh.refl s) no_fresh
theorem od_notN : OpD K (fun x y H Q => y = .non ∧ Q (.bl (!decide (x = .non))) H) dNotN := fun F H x y d1 d2 res o Q s h1 h2 he q => by
  cases h2 <;> try cases he
  refine ⟨rfl, ?_⟩
  cases h1 <;> exact q _ H F Fp.no vd_bl (Fresh.refl s) no_fresh
theorem sgn1_eq {c : Str} (h : sgn1 c = true) : c = ⟨#[c.cps.getD 0 0]⟩ := by
  obtain ⟨⟨l⟩⟩ := c
  unfold sgn1 at h
  match l, h with
  | [x], _ => rfl
def rInS1 : R2 := fun x y H Q => ∃ (c : Nat) (z : Str), x = .str ⟨#[c]⟩ ∧ y = .str z ∧ Q (.bl (decide (c ∈ z.cps.toList))) H
def rNotInS1 : R2 := fun x y H Q => ∃ (c : Nat) (z : Str), x = .str ⟨#[c]⟩ ∧ y = .str z ∧ Q (.bl (!decide (c ∈ z.cps.toList))) H
theorem op_inS1 : OpR X (compareOp .In) rInS1 := op_in_sign
theorem op_notInS1 : OpR X (compareOp .NotIn) rNotInS1 := op_notIn_sign
theorem od_inS : OpD K rInS1 dInS := fun F H x y d1 d2 res o Q s h1 h2 he q => by
  cases h1 <;> cases h2 <;> try cases he
  rename_i c z
  by_cases h : sgn1 c = true
  · simp only [dInS, if_pos h] at he
    cases he
    exact ⟨_, z, by rw [← sgn1_eq h], rfl, q _ H F Fp.no vd_bl (Fresh.refl s) no_fresh⟩
  · simp only [dInS, if_neg h] at he; cases he
theorem od_notInS : OpD K rNotInS1 dNotInS := fun F H x y d1 d2 res o Q s h1 h2 he q => by
  cases h1 <;> cases h2 <;> try cases he
  rename_i c z
  by_cases h : sgn1 c = true
  · simp only [dNotInS, if_pos h] at he
    cases he
    exact ⟨_, z, by rw [← sgn1_eq h], rfl, q _ H F Fp.no vd_bl (Fresh.refl s) no_fresh⟩
  · simp only [dNotInS, if_neg h] at he; cases he
theorem od_inL : OpD K (rInD K) dInL := fun F H x y d1 d2 res o Q s h1 h2 he q => by
  unfold dInL at he
  split at he
  · rename_i ds
    by_cases h : eqOk d1 = true ∧ eqOk (.list ds) = true
    · rw [if_pos h] at he
      cases he
      exact ⟨d1, ds, Fz.dp (eqOk_sh h.1).2 (h1.mono s), Fz.dp (eqOk_sh h.2).2 (h2.mono s), (eqOk_sh h.1).1, (eqOk_sh h.2).1, q _ H F Fp.no vd_bl (Fresh.refl s) no_fresh⟩
    · rw [if_neg h] at he; cases he
  · cases he
theorem od_notInL : OpD K (rNotInD K) dNotInL := fun F H x y d1 d2 res o Q s h1 h2 he q => by
  unfold dNotInL at he
  split at he
  · rename_i ds
    by_cases h : eqOk d1 = true ∧ eqOk (.list ds) = true
    · rw [if_pos h] at he
      cases he
      exact ⟨d1, ds, Fz.dp (eqOk_sh h.1).2 (h1.mono s), Fz.dp (eqOk_sh h.2).2 (h2.mono s), (eqOk_sh h.1).1, (eqOk_sh h.2).1, q _ H F Fp.no vd_bl (Fresh.refl s) no_fresh⟩
    · rw [if_neg h] at he; cases he
  · cases he

/-! ### items -/
def dIx (a b : D) : Option (D × Fg) := match a, b with
  | .list ds, .int i => (atI ds i).map fun d => (d, .f)
  | .tuple ds, .int i => (atI ds i).map fun d => (d, .f)
  | .str z, .int i => if z.length ≤ sizeLine then (atI z.cps.toList i).map fun c => (.str ⟨#[c]⟩, .f) else none
  | _, _ => none
theorem atI_all {F : Hp} {vs : List V} {ds : List D} {i : Int} {d : D} (h : FzAll K F vs ds) (e : atI ds i = some d) : ∃ v, atI vs i = some v ∧ Fz K F v d := by
  unfold atI at e ⊢
  rw [h.length]
  cases q : ixN ds.length i with
  | none => rw [q] at e; cases e
  | some j =>
    rw [q] at e
    exact h.get e
theorem od_ix : OpD K (rIx K) dIx := fun F H x y d1 d2 res o Q s h1 h2 he q => by
  unfold dIx at he
  split at he
  · rename_i ds i
    cases h2
    cases h1 with
    | lst hs ha =>
      cases e : atI ds i with
      | none => rw [e] at he; cases he
      | some d =>
        rw [e] at he
        cases he
        obtain ⟨v, e1, e2⟩ := atI_all ha e
        exact .inl ⟨_, _, _, v, rfl, rfl, sqL_mono s hs, e1, q v H F Fp.no ⟨e2, rfl⟩ (Fresh.refl s) no_fresh⟩
  · rename_i ds i
    cases h2
    cases h1 with
    | tup hs ha =>
      cases e : atI ds i with
      | none => rw [e] at he; cases he
      | some d =>
        rw [e] at he
        cases he
        obtain ⟨v, e1, e2⟩ := atI_all ha e
        exact .inr (.inl ⟨_, _, _, v, rfl, rfl, sqT_mono s hs, e1, q v H F Fp.no ⟨e2, rfl⟩ (Fresh.refl s) no_fresh⟩)
  · rename_i z i
    cases h2
    cases h1
    by_cases hz : z.length ≤ sizeLine
    · rw [if_pos hz] at he
      cases e : atI z.cps.toList i with
      | none => rw [e] at he; cases he
      | some c =>
        rw [e] at he
        cases he
        exact .inr (.inr ⟨z, i, c, rfl, rfl, hz, e, q _ H F Fp.no vd_str (Fresh.refl s) no_fresh⟩)
    · rw [if_neg hz] at he; cases he
  · cases he
theorem E.ix {a b : Expr} {f g : Ex} {pos : Pos} (ha : E X a f) (hb : E X b g) (hs : PlainIx b := by exact fun _ _ => rfl) : E X (.Subscript a b pos) (xOp dIx f g) :=
  pe_imp (pe_ix ix_seq ha.fz hb.fz hs) (op_imp od_ix)
/-! slices of lists -/
abbrev Px := En → Option (Option Int × En)
def cP (K : PySem.W.Frag) (f : Px) : TO := fun σ H Q => ∃ (F : Hp) (e : En) (A : Nat → Fp) (o : Option Int) (e' : En), EnvOk K F H σ e A ∧ f e = some (o, e') ∧
  ∀ (H' F' : Hp) (A' : Nat → Fp), EnvOk K F' H' σ e' A' → Step F (U A) H F' (U A') H' → Q o H'
abbrev Pt (X : Cx) (e : Option Expr) (f : Px) : Prop := PO X e (cP X.K f)
def pNo : Px := fun e => some (none, e)
def pSm (f : Ex) : Px := fun e => bnd (f e) fun d e1 => match d with
  | .int i => some (some i, e1)
  | _ => none
theorem po_imp {e : Option Expr} {t t' : TO} (h : PO X e t) (i : ∀ σ H Q, t' σ H Q → t σ H Q) : PO X e t' := ⟨fun pins s σ H Q I q => h.run pins s σ H Q I (i σ H Q q)⟩
theorem Pt.no : Pt X none pNo := po_imp po_none fun σ H Q => by
  rintro ⟨F, en, A, o, e', E0, hx, post⟩
  cases hx
  exact post H F A E0 Step.refl
theorem Pt.sm {e : Expr} {f : Ex} (h : E X e f) : Pt X (some e) (pSm f) := po_imp (po_some h.fz) fun σ H Q => by
  rintro ⟨F, en, A, o, e', E0, hx, post⟩
  obtain ⟨d1, o1, e1, h1, hx⟩ := bnd_eq hx
  split at hx
  · cases hx
    refine E.fz_run E0 h1 fun v H1 F1 A1 E1 hv st => ?_
    cases hv
    exact ⟨_, rfl, post H1 F1 A1 E1 st⟩
  · cases hx
def cutD (ds : List D) (lo hi : Option Int) : List D := (ds.drop (HT.sIx ds.length 0 lo)).take (HT.sIx ds.length ds.length hi - HT.sIx ds.length 0 lo)
def xSl (f : Ex) (a b : Px) : Ex := fun e => bnd (f e) fun d e1 => match a e1 with
  | some (lo, e2) => (match b e2 with
    | some (hi, e3) => (match d with
      | .list ds => some (.list (cutD ds lo hi), .o 0, e3)
      | _ => none)
    | none => none)
  | none => none
theorem FzAll.take {F : Hp} : ∀ {vs : List V} {ds : List D} (n : Nat), FzAll K F vs ds → FzAll K F (vs.take n) (ds.take n)
  | _, _, 0, _ => .nil
  | _, _, _ + 1, .nil => .nil
  | _, _, n + 1, .cons h a => .cons h (FzAll.take n a)
theorem FzAll.drop {F : Hp} : ∀ {vs : List V} {ds : List D} (n : Nat), FzAll K F vs ds → FzAll K F (vs.drop n) (ds.drop n)
  | _, _, 0, h => h
  | _, _, _ + 1, .nil => .nil
  | _, _, n + 1, .cons h a => FzAll.drop n a
theorem FzAll.cut {F : Hp} {vs : List V} {ds : List D} {lo hi : Option Int} (h : FzAll K F vs ds) : FzAll K F (cutV vs lo hi) (cutD ds lo hi) := by
  unfold cutV cutD
  rw [h.length]
  exact (h.drop _).take _
theorem E.sl {e : Expr} {lo hi : Option Expr} {f : Ex} {a b : Px} {pos p2 : Pos} (he : E X e f) (hl : Pt X lo a) (hh : Pt X hi b) : E X (.Subscript e (.Slice lo hi none p2) pos) (xSl f a b) := pe_imp (pe_slice sl_list he.fz hl hh) fun σ H Q => by
  rintro ⟨F, en, A, d, o, e', E0, hx, post⟩
  obtain ⟨d1, o1, e1, h1, hx⟩ := bnd_eq hx
  split at hx
  · rename_i lo1 e2 h2
    split at hx
    · rename_i hi1 e3 h3
      split at hx
      · rename_i ds
        cases hx
        refine E.fz_run E0 h1 fun v H1 F1 A1 E1 hv st1 => ?_
        refine ⟨F1, e1, A1, lo1, e2, E1, h2, fun H2 F2 A2 E2 st2 => ?_⟩
        refine ⟨F2, e2, A2, hi1, e', E2, h3, fun H3 F3 A3 E3 st3 => ?_⟩
        have hv3 := (hv.mono st2.ff).mono st3.ff
        cases hv3 with
        | lst hs ha =>
          refine ⟨_, _, rfl, sqL_mono E3.sub hs, fun p hp => ?_⟩
          obtain ⟨q1, q2, q3, q4⟩ := fz_out E3 (fresh_new (u := .lst (cutV _ lo1 hi1)) E3.sub hp) (new_R E3.sub hp)
          exact post _ _ F3 A3 _ q1 (vd_new hp ha.cut) q2 q3 (((st1.trans st2).trans st3).trans q4)
      · cases hx
    · cases hx
  · cases hx

/-! ### built-ins by value -/
theorem CallR.or {f : Value} {r r' : List V → Hp → VK → Prop} (h : CallR X f r) (h' : CallR X f r') : CallR X f (fun xs H Q => r xs H Q ∨ r' xs H Q) := by
  intro pins s σ H xs us Q I rr q
  rcases q with q | q
  · exact h pins s σ H xs us Q I rr q
  · exact h' pins s σ H xs us Q I rr q
def kLen : List D → Option (D × Fg)
  | [.str z] => if z.length ≤ sizeLine then some (.int z.length, .f) else none
  | [.list ds] => some (.int ds.length, .f)
  | [.tuple ds] => some (.int ds.length, .f)
  | _ => none
theorem FzAll.one {F : Hp} {xs : List V} {d : D} (h : FzAll K F xs [d]) : ∃ x, xs = [x] ∧ Fz K F x d := by
  cases h with
  | cons h1 h2 => cases h2; exact ⟨_, rfl, h1⟩
theorem FzAll.two {F : Hp} {xs : List V} {d e : D} (h : FzAll K F xs [d, e]) : ∃ x y, xs = [x, y] ∧ Fz K F x d ∧ Fz K F y e := by
  cases h with
  | cons h1 h2 => obtain ⟨y, rfl, h3⟩ := FzAll.one h2; exact ⟨_, y, rfl, h1, h3⟩
theorem cd_len : CallD K (fun xs H Q => ∃ x n, xs = [x] ∧ LenV K x H n ∧ Q (.int n) H) kLen := fun F H xs ds res o Q s hv he q => by
  unfold kLen at he
  split at he
  · rename_i z
    obtain ⟨x, rfl, h⟩ := hv.one
    cases h
    by_cases hz : z.length ≤ sizeLine
    · rw [if_pos hz] at he
      cases he
      exact ⟨_, _, rfl, ⟨hz, rfl⟩, q _ H F Fp.no vd_int (Fresh.refl s) no_fresh⟩
    · rw [if_neg hz] at he; cases he
  · rename_i es
    obtain ⟨x, rfl, h⟩ := hv.one
    cases he
    cases h with
    | lst hs ha =>
      refine ⟨_, es.length, rfl, .inl ⟨_, sqL_mono s hs, ha.length.symm⟩, q _ H F Fp.no vd_int (Fresh.refl s) no_fresh⟩
  · rename_i es
    obtain ⟨x, rfl, h⟩ := hv.one
    cases he
    cases h with
    | tup hs ha =>
      refine ⟨_, es.length, rfl, .inr ⟨_, sqT_mono s hs, ha.length.symm⟩, q _ H F Fp.no vd_int (Fresh.refl s) no_fresh⟩
  · cases he
def kAbs : List D → Option (D × Fg)
  | [.int i] => some (.int (if i < 0 then -i else i), .f)
  | _ => none
theorem cd_abs : CallD K (fun xs H Q => ∃ i, xs = [.int i] ∧ Q (.int (if i < 0 then -i else i)) H) kAbs := fun F H xs ds res o Q s hv he q => by
  unfold kAbs at he
  split at he
  · obtain ⟨x, rfl, h⟩ := hv.one
    cases h
    cases he
    exact ⟨_, rfl, q _ H F Fp.no vd_int (Fresh.refl s) no_fresh⟩
  · cases he
def kMax2 : List D → Option (D × Fg)
  | [.int i, .int j] => some (.int (if j > i then j else i), .f)
  | _ => none
def kMin2 : List D → Option (D × Fg)
  | [.int i, .int j] => some (.int (if j < i then j else i), .f)
  | _ => none
theorem cd_max2 : CallD K (fun xs H Q => ∃ i j, xs = [.int i, .int j] ∧ Q (.int (if j > i then j else i)) H) kMax2 := fun F H xs ds res o Q s hv he q => by
  unfold kMax2 at he
  split at he
  · obtain ⟨x, y, rfl, h, h'⟩ := hv.two
    cases h
    cases h'
    cases he
    exact ⟨_, _, rfl, q _ H F Fp.no vd_int (Fresh.refl s) no_fresh⟩
  · cases he
theorem cd_min2 : CallD K (fun xs H Q => ∃ i j, xs = [.int i, .int j] ∧ Q (.int (if j < i then j else i)) H) kMin2 := fun F H xs ds res o Q s hv he q => by
  unfold kMin2 at he
  split at he
  · obtain ⟨x, y, rfl, h, h'⟩ := hv.two
    cases h
    cases h'
    cases he
    exact ⟨_, _, rfl, q _ H F Fp.no vd_int (Fresh.refl s) no_fresh⟩
  · cases he
def kInt : List D → Option (D × Fg)
  | [.int i] => some (.int i, .f)
  | [.bool b] => some (.int (if b then 1 else 0), .f)
  | _ => none
theorem cd_int : CallD K (fun xs H Q => (∃ i, xs = [.int i] ∧ Q (.int i) H) ∨ ∃ k, xs = [.bl k] ∧ Q (.int (if k then 1 else 0)) H) kInt := fun F H xs ds res o Q s hv he q => by
  unfold kInt at he
  split at he
  · obtain ⟨x, rfl, h⟩ := hv.one
    cases h
    cases he
    exact .inl ⟨_, rfl, q _ H F Fp.no vd_int (Fresh.refl s) no_fresh⟩
  · obtain ⟨x, rfl, h⟩ := hv.one
    cases h
    cases he
    exact .inr ⟨_, rfl, q _ H F Fp.no vd_int (Fresh.refl s) no_fresh⟩
  · cases he
def kList : List D → Option (D × Fg)
  | [.list ds] => some (.list ds, .o 0)
  | [.tuple ds] => some (.list ds, .o 0)
  | _ => none
theorem cd_list : CallD K (fun xs H Q => ∃ p ys, xs = [.ref p] ∧ (SqL K H p ys ∨ SqT K H p ys) ∧ ∀ l, H l = none → Q (.ref l) (upd H l (.lst ys))) kList := fun F H xs ds res o Q s hv he q => by
  unfold kList at he
  split at he
  · obtain ⟨x, rfl, h⟩ := hv.one
    cases he
    cases h with
    | lst hs ha => exact ⟨_, _, rfl, .inl (sqL_mono s hs), fun p hp => q _ _ F _ (vd_new hp ha) (fresh_new s hp) (new_R s hp)⟩
  · obtain ⟨x, rfl, h⟩ := hv.one
    cases he
    cases h with
    | tup hs ha => exact ⟨_, _, rfl, .inr (sqT_mono s hs), fun p hp => q _ _ F _ (vd_new hp ha) (fresh_new s hp) (new_R s hp)⟩
  · cases he
def kTuple : List D → Option (D × Fg)
  | [.list ds] => some (.tuple ds, .f)
  | [.tuple ds] => some (.tuple ds, .f)
  | _ => none
theorem cd_tuple : CallD K (fun xs H Q => ∃ p ys, xs = [.ref p] ∧ ((SqL K H p ys ∧ ∀ l, H l = none → Q (.ref l) (upd H l (.tup ys))) ∨ (SqT K H p ys ∧ Q (.ref p) H))) kTuple := fun F H xs ds res o Q s hv he q => by
  unfold kTuple at he
  split at he
  · obtain ⟨x, rfl, h⟩ := hv.one
    cases he
    cases h with
    | @lst _ ys _ hs ha =>
      refine ⟨_, _, rfl, .inl ⟨sqL_mono s hs, fun p hp => ?_⟩⟩
      have fr := fresh_know (u := .tup ys) s hp
      exact q _ _ _ Fp.no ⟨.tup (SqT.of upd_same) (ha.mono fr.ff), rfl⟩ fr no_fresh
  · obtain ⟨x, rfl, h⟩ := hv.one
    cases he
    cases h with
    | tup hs ha => exact ⟨_, _, rfl, .inr ⟨sqT_mono s hs, q _ H F Fp.no ⟨.tup hs ha, rfl⟩ (Fresh.refl s) no_fresh⟩⟩
  · cases he
/-! sums, all, any, min, max: lists of one kind -/
def intsD : List D → Option (List Int)
  | [] => some []
  | .int i :: r => (intsD r).map (i :: ·)
  | _ => none
def boolsD : List D → Option (List Bool)
  | [] => some []
  | .bool i :: r => (boolsD r).map (i :: ·)
  | _ => none
def strsD : List D → Option (List Str)
  | [] => some []
  | .str i :: r => (strsD r).map (i :: ·)
  | _ => none
@[simp] theorem intsD_map (ns : List Int) : intsD (ns.map .int) = some ns := by
  induction ns with
  | nil => rfl
  | cons i r ih => rw [List.map_cons, intsD, ih]; rfl
@[simp] theorem boolsD_map (ns : List Bool) : boolsD (ns.map .bool) = some ns := by
  induction ns with
  | nil => rfl
  | cons i r ih => rw [List.map_cons, boolsD, ih]; rfl
@[simp] theorem strsD_map (ns : List Str) : strsD (ns.map .str) = some ns := by
  induction ns with
  | nil => rfl
  | cons i r ih => rw [List.map_cons, strsD, ih]; rfl
theorem ints_fz {F : Hp} : ∀ {vs : List V} {ds : List D} {ns : List Int}, FzAll K F vs ds → intsD ds = some ns → vs = ns.map V.int
  | _, _, _, .nil, h => by cases h; rfl
  | _, .int i :: r, ns, .cons h a, e => by
    cases q : intsD r with
    | none => rw [intsD, q] at e; cases e
    | some ms =>
      rw [intsD, q] at e
      cases e
      cases h
      rw [ints_fz a q]; rfl
  | _, .none :: r, ns, .cons h a, e => by cases e
  | _, .bool _ :: r, ns, .cons h a, e => by cases e
  | _, .str _ :: r, ns, .cons h a, e => by cases e
  | _, .list _ :: r, ns, .cons h a, e => by cases e
  | _, .tuple _ :: r, ns, .cons h a, e => by cases e
  | _, .dict _ :: r, ns, .cons h a, e => by cases e
theorem bools_fz {F : Hp} : ∀ {vs : List V} {ds : List D} {ns : List Bool}, FzAll K F vs ds → boolsD ds = some ns → vs = ns.map V.bl
  | _, _, _, .nil, h => by cases h; rfl
  | _, .bool i :: r, ns, .cons h a, e => by
    cases q : boolsD r with
    | none => rw [boolsD, q] at e; cases e
    | some ms =>
      rw [boolsD, q] at e
      cases e
      cases h
      rw [bools_fz a q]; rfl
  | _, .none :: r, ns, .cons h a, e => by cases e
  | _, .int _ :: r, ns, .cons h a, e => by cases e
  | _, .str _ :: r, ns, .cons h a, e => by cases e
  | _, .list _ :: r, ns, .cons h a, e => by cases e
  | _, .tuple _ :: r, ns, .cons h a, e => by cases e
  | _, .dict _ :: r, ns, .cons h a, e => by cases e
theorem strs_fz {F : Hp} : ∀ {vs : List V} {ds : List D} {ns : List Str}, FzAll K F vs ds → strsD ds = some ns → vs = ns.map V.str
  | _, _, _, .nil, h => by cases h; rfl
  | _, .str i :: r, ns, .cons h a, e => by
    cases q : strsD r with
    | none => rw [strsD, q] at e; cases e
    | some ms =>
      rw [strsD, q] at e
      cases e
      cases h
      rw [strs_fz a q]; rfl
  | _, .none :: r, ns, .cons h a, e => by cases e
  | _, .int _ :: r, ns, .cons h a, e => by cases e
  | _, .bool _ :: r, ns, .cons h a, e => by cases e
  | _, .list _ :: r, ns, .cons h a, e => by cases e
  | _, .tuple _ :: r, ns, .cons h a, e => by cases e
  | _, .dict _ :: r, ns, .cons h a, e => by cases e
def kSum : List D → Option (D × Fg)
  | [.list ds] => (intsD ds).map fun ns => (.int ns.sum, .f)
  | _ => none
def kAll : List D → Option (D × Fg)
  | [.list ds] => (boolsD ds).map fun ns => (.bool (ns.all id), .f)
  | _ => none
def kAny : List D → Option (D × Fg)
  | [.list ds] => (boolsD ds).map fun ns => (.bool (ns.any id), .f)
  | _ => none
theorem cd_sum : CallD K (rSum K) kSum := fun F H xs ds res o Q s hv he q => by
  unfold kSum at he
  split at he
  · rename_i es
    obtain ⟨x, rfl, h⟩ := hv.one
    cases e : intsD es with
    | none => rw [e] at he; cases he
    | some ns =>
      rw [e] at he
      cases he
      cases h with
      | lst hs ha => exact ⟨_, ns, rfl, by rw [← ints_fz ha e]; exact sqL_mono s hs, q _ H F Fp.no vd_int (Fresh.refl s) no_fresh⟩
  · cases he
theorem cd_all : CallD K (rAll K) kAll := fun F H xs ds res o Q s hv he q => by
  unfold kAll at he
  split at he
  · rename_i es
    obtain ⟨x, rfl, h⟩ := hv.one
    cases e : boolsD es with
    | none => rw [e] at he; cases he
    | some ns =>
      rw [e] at he
      cases he
      cases h with
      | lst hs ha => exact ⟨_, ns, rfl, by rw [← bools_fz ha e]; exact sqL_mono s hs, q _ H F Fp.no vd_bl (Fresh.refl s) no_fresh⟩
  · cases he
theorem cd_any : CallD K (rAny K) kAny := fun F H xs ds res o Q s hv he q => by
  unfold kAny at he
  split at he
  · rename_i es
    obtain ⟨x, rfl, h⟩ := hv.one
    cases e : boolsD es with
    | none => rw [e] at he; cases he
    | some ns =>
      rw [e] at he
      cases he
      cases h with
      | lst hs ha => exact ⟨_, ns, rfl, by rw [← bools_fz ha e]; exact sqL_mono s hs, q _ H F Fp.no vd_bl (Fresh.refl s) no_fresh⟩
  · cases he
def leastI : Int → List Int → Int
  | x, [] => x
  | x, y :: r => leastI (if y < x then y else x) r
def mostI : Int → List Int → Int
  | x, [] => x
  | x, y :: r => mostI (if x < y then y else x) r
theorem leastI_ok : ∀ (r : List Int) (x : Int), leastI x r ∈ x :: r ∧ ∀ y ∈ x :: r, leastI x r ≤ y
  | [], x => ⟨List.mem_cons_self, fun y h => by rcases List.mem_cons.mp h with rfl | h; exact Int.le_refl _; cases h⟩
  | z :: r, x => by
    obtain ⟨h1, h2⟩ := leastI_ok r (if z < x then z else x)
    unfold leastI
    refine ⟨?_, fun y hy => ?_⟩
    · rcases List.mem_cons.mp h1 with e | h
      · rw [e]; split <;> simp
      · exact List.mem_cons_of_mem _ (List.mem_cons_of_mem _ h)
    · have h0 := h2 _ List.mem_cons_self
      rcases List.mem_cons.mp hy with rfl | hy
      · split at h0 <;> split <;> omega
      · rcases List.mem_cons.mp hy with rfl | hy
        · split at h0 <;> split <;> omega
        · exact h2 y (List.mem_cons_of_mem _ hy)
theorem mostI_ok : ∀ (r : List Int) (x : Int), mostI x r ∈ x :: r ∧ ∀ y ∈ x :: r, y ≤ mostI x r
  | [], x => ⟨List.mem_cons_self, fun y h => by rcases List.mem_cons.mp h with rfl | h; exact Int.le_refl _; cases h⟩
  | z :: r, x => by
    obtain ⟨h1, h2⟩ := mostI_ok r (if x < z then z else x)
    unfold mostI
    refine ⟨?_, fun y hy => ?_⟩
    · rcases List.mem_cons.mp h1 with e | h
      · rw [e]; split <;> simp
      · exact List.mem_cons_of_mem _ (List.mem_cons_of_mem _ h)
    · have h0 := h2 _ List.mem_cons_self
      rcases List.mem_cons.mp hy with rfl | hy
      · split at h0 <;> split <;> omega
      · rcases List.mem_cons.mp hy with rfl | hy
        · split at h0 <;> split <;> omega
        · exact h2 y (List.mem_cons_of_mem _ hy)
def kMin1 : List D → Option (D × Fg)
  | [.list ds] => match intsD ds with
    | some (x :: r) => some (.int (leastI x r), .f)
    | _ => none
  | _ => none
def kMax1 : List D → Option (D × Fg)
  | [.list ds] => match intsD ds with
    | some (x :: r) => some (.int (mostI x r), .f)
    | _ => none
  | _ => none
theorem cd_min1 : CallD K (rMin K) kMin1 := fun F H xs ds res o Q s hv he q => by
  unfold kMin1 at he
  split at he
  · rename_i es
    obtain ⟨x, rfl, h⟩ := hv.one
    split at he
    · rename_i y r e
      cases he
      cases h with
      | lst hs ha =>
        refine ⟨_, y :: r, rfl, by rw [← ints_fz ha e]; exact sqL_mono s hs, Nat.succ_pos _, fun m h1 h2 => ?_⟩
        obtain ⟨g1, g2⟩ := leastI_ok r y
        have : m = leastI y r := Int.le_antisymm (h2 _ g1) (g2 _ h1)
        rw [this]
        exact q _ H F Fp.no vd_int (Fresh.refl s) no_fresh
    · cases he
  · cases he
theorem cd_max1 : CallD K (rMax K) kMax1 := fun F H xs ds res o Q s hv he q => by
  unfold kMax1 at he
  split at he
  · rename_i es
    obtain ⟨x, rfl, h⟩ := hv.one
    split at he
    · rename_i y r e
      cases he
      cases h with
      | lst hs ha =>
        refine ⟨_, y :: r, rfl, by rw [← ints_fz ha e]; exact sqL_mono s hs, Nat.succ_pos _, fun m h1 h2 => ?_⟩
        obtain ⟨g1, g2⟩ := mostI_ok r y
        have : m = mostI y r := Int.le_antisymm (g2 _ h1) (h2 _ g1)
        rw [this]
        exact q _ H F Fp.no vd_int (Fresh.refl s) no_fresh
    · cases he
  · cases he
/-- a built-in by its name -/
theorem E.callB {e : Expr} {es : List Expr} {x : Str} {id : String} {r : List V → Hp → VK → Prop} {op : List D → Option (D × Fg)} {g : Ax} {p pos : Pos} (hc : CallR X (.builtin id) r) (hd : CallD X.K r op) (hg : Gl X x) (hm : X.mg x = none) (hv : bootBuiltins x = some (.builtin id))
    (ha : As X (e :: es) g) (hn : x ≠ "__name__" := by decide) (hdb : (x == ("__debug__" : Str)) = false := by decide) (he : starEach (e :: es) X.env = (false, eval e X.env) :: starEach es X.env := by rfl) (hpl : (backTo pos (starEach es X.env)).any (·.1) = false := by rfl) :
    E X (.Call (.Name x p) (e :: es) [] pos) (xCall op g) := pe_imp (pe_callB hc hg hm hv ha hn hdb he hpl) (call_imp hd)
theorem E.callTy {e : Expr} {es : List Expr} {x : Str} {T : String} {r : List V → Hp → VK → Prop} {op : List D → Option (D × Fg)} {g : Ax} {p pos : Pos} (hc : CallR X (.type T) r) (hd : CallD X.K r op) (hg : Gl X x) (hm : X.mg x = none) (hv : bootBuiltins x = some (.type T))
    (ha : As X (e :: es) g) (hn : x ≠ "__name__" := by decide) (hdb : (x == ("__debug__" : Str)) = false := by decide) (he : starEach (e :: es) X.env = (false, eval e X.env) :: starEach es X.env := by rfl) (hpl : (backTo pos (starEach es X.env)).any (·.1) = false := by rfl) :
    E X (.Call (.Name x p) (e :: es) [] pos) (xCall op g) := pe_imp (pe_callTy hc hg hm hv ha hn hdb he hpl) (call_imp hd)
end
end Ev
namespace Ev
open PySem PySem.Spec PyProof.Rows L2
/-! ### a slot's own list is changed in place -/
section
variable {K : PySem.W.Frag} {F H : Hp} {σ : L2.St} {e : En} {A : Nat → Fp}
theorem ow_list {n : Nat} {v : V} {ds : List D} {R : Fp} (h : Ow K F H (n + 1) v (.list ds) R) : ∃ p xs B, v = .ref p ∧ H p = some (.lst xs) ∧ OwAll K F H n xs ds B ∧ ¬ B p ∧ ∀ a, R a ↔ (a = p ∨ B a) := by
  cases h with
  | sc _ h => cases h
  | lst h1 h2 h3 => exact ⟨_, _, _, rfl, h1, h2, h3, fun _ => Iff.rfl⟩
theorem ow_dict {n : Nat} {v : V} {ds : List (D × D)} {R : Fp} (h : Ow K F H (n + 1) v (.dict ds) R) : ∃ p kvs B, v = .ref p ∧ H p = some (.dK kvs) ∧ OwKV K F H n kvs ds B ∧ ¬ B p ∧ ∀ a, R a ↔ (a = p ∨ B a) := by
  cases h with
  | sc _ h => cases h
  | dct h1 h2 h3 => exact ⟨_, _, _, rfl, h1, h2, h3, fun _ => Iff.rfl⟩
/-- the object at p, known as slot i's, is rewritten; the slot's data is then d' -/
theorem EnvOk.mut (E : EnvOk K F H σ e A) {i m : Nat} {d d' : D} {o' : Fg} {p : Addr} {u : HO} {v : V} {R' : Fp} (he : e[i]? = some (some (d, .o m))) (hv : σ[i]? = some (some v)) (hp : A i p)
    (hR : ∀ a, R' a → A i a) (new : VD K F (upd H p u) v d' o' R') :
    EnvOk K F (upd H p u) σ (e.set i (some (d', o'))) (fun j => if j = i then R' else A j) ∧ Step F (U A) H F (U fun j => if j = i then R' else A j) (upd H p u) := by
  have hi := len_of he
  have hF : F p = none := E.nf i p hp
  have hsub : Same F (upd H p u) := fun a o q => by rw [upd_ne (ne_of_none q hF)]; exact E.sub a o q
  refine ⟨⟨by rw [List.length_set, E.len], fun j dj oj h => ?_, fun j h a ha => ?_, fun j k a h1 h2 => ?_, fun j a h => ?_, hsub⟩, ⟨Same.refl _, fun a z => ?_, fun a z1 z2 z3 => ⟨upd_ne fun y => z3 ⟨i, by rw [y]; exact hp⟩, z2, fun ⟨j, z⟩ => ?_⟩⟩⟩
  · by_cases hj : j = i
    · subst hj
      rw [List.getElem?_set_self hi] at h
      cases h
      exact ⟨v, hv, by rw [if_pos rfl]; exact new⟩
    · rw [List.getElem?_set_ne (Ne.symm hj)] at h
      obtain ⟨w, q1, q2⟩ := E.at_ j dj oj h
      exact ⟨w, q1, by rw [if_neg hj]; exact q2.mono (Same.refl _) fun a ha => upd_ne fun z => hj (E.dis j i a ha (by rw [z]; exact hp))⟩
  · by_cases hj : j = i
    · subst hj
      rw [if_pos rfl] at ha
      cases o' with
      | o n => exact h _ n (List.getElem?_set_self hi)
      | f => rw [new.2] at ha; exact ha
    · rw [if_neg hj] at ha
      exact E.un j (fun d n z => h d n (by rw [List.getElem?_set_ne (Ne.symm hj)]; exact z)) a ha
  · by_cases hj : j = i
    · by_cases hk : k = i
      · rw [hj, hk]
      · rw [if_pos hj] at h1
        rw [if_neg hk] at h2
        rw [hj]
        exact E.dis i k a (hR a h1) h2
    · by_cases hk : k = i
      · rw [if_neg hj] at h1
        rw [if_pos hk] at h2
        rw [hk]
        exact E.dis j i a h1 (hR a h2)
      · rw [if_neg hj] at h1
        rw [if_neg hk] at h2
        exact E.dis j k a h1 h2
  · by_cases hj : j = i
    · rw [if_pos hj] at h; exact E.nf i a (hR a h)
    · rw [if_neg hj] at h; exact E.nf j a h
  · by_cases hap : a = p
    · rw [hap, upd_same]; exact fun y => nomatch y
    · rw [upd_ne hap]; exact z
  · dsimp only at z
    by_cases hj : j = i
    · rw [if_pos hj] at z; exact z3 ⟨i, hR a z⟩
    · rw [if_neg hj] at z; exact z3 ⟨j, z⟩
/-- a slot's list, told -/
theorem EnvOk.lst (E : EnvOk K F H σ e A) {i n : Nat} {ds : List D} (he : e[i]? = some (some (.list ds, .o n))) : ∃ p xs B, σ[i]? = some (some (.ref p)) ∧ H p = some (.lst xs) ∧ OwAll K F H n xs ds B ∧ A i p ∧ ¬ B p ∧
    (∀ a, A i a ↔ (a = p ∨ B a)) ∧ ∀ (xs' : List V) (ds' : List D) (B' : Fp), OwAll K F H n xs' ds' B' → (∀ a, B' a → B a) →
      EnvOk K F (upd H p (.lst xs')) σ (e.set i (some (.list ds', .o n))) (fun j => if j = i then (fun a => a = p ∨ B' a) else A j) ∧ Step F (U A) H F (U fun j => if j = i then (fun a => a = p ∨ B' a) else A j) (upd H p (.lst xs')) := by
  obtain ⟨v, h1, h2⟩ := E.at_ i _ _ he
  obtain ⟨p, xs, B, rfl, h3, h4, h5, h6⟩ := ow_list h2
  refine ⟨p, xs, B, h1, h3, h4, (h6 p).mpr (.inl rfl), h5, h6, fun xs' ds' B' ha hb => ?_⟩
  have nb : ¬ B' p := fun z => h5 (hb p z)
  exact E.mut (R' := fun a => a = p ∨ B' a) he h1 ((h6 p).mpr (.inl rfl)) (fun a z => (h6 a).mpr (z.elim .inl fun z => .inr (hb a z))) (Ow.lst upd_same (OwAll.mono (Same.refl _) (fun a z => upd_ne fun y => nb (y ▸ z)) ha) nb)
theorem EnvOk.dct (E : EnvOk K F H σ e A) {i n : Nat} {ds : List (D × D)} (he : e[i]? = some (some (.dict ds, .o n))) : ∃ p kvs B, σ[i]? = some (some (.ref p)) ∧ H p = some (.dK kvs) ∧ OwKV K F H n kvs ds B ∧ A i p ∧ ¬ B p ∧
    (∀ a, A i a ↔ (a = p ∨ B a)) ∧ ∀ (kvs' : List (Key × V)) (ds' : List (D × D)) (B' : Fp), OwKV K F H n kvs' ds' B' → (∀ a, B' a → B a) →
      EnvOk K F (upd H p (.dK kvs')) σ (e.set i (some (.dict ds', .o n))) (fun j => if j = i then (fun a => a = p ∨ B' a) else A j) ∧ Step F (U A) H F (U fun j => if j = i then (fun a => a = p ∨ B' a) else A j) (upd H p (.dK kvs')) := by
  obtain ⟨v, h1, h2⟩ := E.at_ i _ _ he
  obtain ⟨p, xs, B, rfl, h3, h4, h5, h6⟩ := ow_dict h2
  refine ⟨p, xs, B, h1, h3, h4, (h6 p).mpr (.inl rfl), h5, h6, fun xs' ds' B' ha hb => ?_⟩
  have nb : ¬ B' p := fun z => h5 (hb p z)
  exact E.mut (R' := fun a => a = p ∨ B' a) he h1 ((h6 p).mpr (.inl rfl)) (fun a z => (h6 a).mpr (z.elim .inl fun z => .inr (hb a z))) (Ow.dct upd_same (OwKV.mono (Same.refl _) (fun a z => upd_ne fun y => nb (y ▸ z)) ha) nb)
/-! items of an owned list -/
theorem fit0 {n : Nat} {v : V} {d : D} (h : Fz K F v d) (hf : n = 0 ∨ still d = true) : Ow K F H n v d Fp.no := by
  rcases hf with rfl | hf
  · exact .fz h
  · exact .sc h hf
theorem OwAll.snoc {n : Nat} : ∀ {vs : List V} {ds : List D} {B R : Fp} {v : V} {d : D}, OwAll K F H n vs ds B → Ow K F H n v d R → (∀ a, B a → ¬ R a) → OwAll K F H n (vs ++ [v]) (ds ++ [d]) (Fp.or B R)
  | _, _, _, R, _, _, .nil, h, _ => (OwAll.cons h .nil (fun _ _ z => z)).cast fun a => ⟨fun z => z.elim .inr fun z => z.elim, fun z => z.elim (fun z => z.elim) .inl⟩
  | _, _, _, R, _, _, .cons (A := A1) (B := B1) h0 hr hd, h, hR =>
    (OwAll.cons h0 (OwAll.snoc hr h fun a z => hR a (.inr z)) (fun a z y => y.elim (hd a z) (hR a (.inl z)))).cast fun a => ⟨fun z => z.elim (fun z => .inl (.inl z)) fun z => z.elim (fun z => .inl (.inr z)) .inr, fun z => z.elim (fun z => z.elim .inl fun z => .inr (.inl z)) fun z => .inr (.inr z)⟩
theorem OwAll.to_fz : ∀ {vs : List V} {ds : List D} {B : Fp}, OwAll K F H 0 vs ds B → FzAll K F vs ds ∧ ∀ a, ¬ B a
  | _, _, _, .nil => ⟨.nil, fun _ z => z⟩
  | _, _, _, .cons h hr hd => by
    obtain ⟨q1, q2⟩ := OwAll.to_fz hr
    cases h with
    | fz h => exact ⟨.cons h q1, fun a z => z.elim (fun z => z) (q2 a)⟩
    | sc h _ => exact ⟨.cons h q1, fun a z => z.elim (fun z => z) (q2 a)⟩
theorem OwKV.to_fz : ∀ {vs : List (Key × V)} {ds : List (D × D)} {B : Fp}, OwKV K F H 0 vs ds B → FzKV K F vs ds ∧ ∀ a, ¬ B a
  | _, _, _, .nil => ⟨.nil, fun _ z => z⟩
  | _, _, _, .cons h hr hd => by
    obtain ⟨q1, q2⟩ := OwKV.to_fz hr
    cases h with
    | fz h => exact ⟨.cons h q1, fun a z => z.elim (fun z => z) (q2 a)⟩
    | sc h _ => exact ⟨.cons h q1, fun a z => z.elim (fun z => z) (q2 a)⟩
/-- taking an item out -/
theorem OwAll.take1 {n : Nat} : ∀ {vs : List V} {ds : List D} {B : Fp} {k : Nat} {d : D}, OwAll K F H n vs ds B → ds[k]? = some d →
    ∃ v R B', vs[k]? = some v ∧ Ow K F H n v d R ∧ OwAll K F H n (vs.eraseIdx k) (ds.eraseIdx k) B' ∧ (∀ a, R a → ¬ B' a) ∧ ∀ a, B a ↔ (R a ∨ B' a)
  | _, _, _, _, _, .nil, h => by cases h
  | _, _, _, 0, _, .cons h hr hd, e => by cases e; exact ⟨_, _, _, rfl, h, hr, hd, fun _ => Iff.rfl⟩
  | _, _, _, k + 1, _, .cons (A := A1) h hr hd, e => by
    obtain ⟨v, R, B', q1, q2, q3, q4, q5⟩ := OwAll.take1 (k := k) hr (by rw [List.getElem?_cons_succ] at e; exact e)
    refine ⟨v, R, Fp.or A1 B', by rw [List.getElem?_cons_succ]; exact q1, q2, .cons h q3 (fun a z y => hd a z ((q5 a).mpr (.inr y))), fun a z y => ?_, fun a => ⟨fun z => ?_, fun z => ?_⟩⟩
    · rcases y with y | y
      · exact hd a y ((q5 a).mpr (.inl z))
      · exact q4 a z y
    · rcases z with z | z
      · exact .inr (.inl z)
      · rcases (q5 a).mp z with z | z
        · exact .inl z
        · exact .inr (.inr z)
    · rcases z with z | z | z
      · exact .inr ((q5 a).mpr (.inl z))
      · exact .inl z
      · exact .inr ((q5 a).mpr (.inr z))
/-- an item replaced by a flat or frozen one -/
theorem OwAll.set1 {n : Nat} {w : V} {d' : D} (hw : Ow K F H n w d' Fp.no) : ∀ {vs : List V} {ds : List D} {B : Fp} {k : Nat}, OwAll K F H n vs ds B → ∃ B', OwAll K F H n (vs.set k w) (ds.set k d') B' ∧ ∀ a, B' a → B a
  | _, _, _, _, .nil => ⟨_, .nil, fun _ z => z⟩
  | _, _, _, 0, .cons h hr hd => ⟨_, .cons hw hr (fun _ z => z.elim), fun a z => z.elim (fun z => z.elim) .inr⟩
  | _, _, _, k + 1, .cons (A := A1) h hr hd => by
    obtain ⟨B', q1, q2⟩ := OwAll.set1 hw (k := k) hr
    exact ⟨_, .cons h q1 (fun a z y => hd a z (q2 a y)), fun a z => z.elim .inl fun z => .inr (q2 a z)⟩
end

section
variable {X : Cx} {i : Nat} {o : Expr} {e : Expr} {es : List Expr} {f : Ex} {g : Ax} {pos apos cpos : Pos} {ms : List Nat}
/-- the marks of the list in a slot -/
def slotL (e : En) (i : Nat) : Option (List D × Nat) := match e[i]? with
  | some (some (.list ds, .o n)) => some (ds, n)
  | _ => none
def slotD (e : En) (i : Nat) : Option (List (D × D) × Nat) := match e[i]? with
  | some (some (.dict ds, .o n)) => some (ds, n)
  | _ => none
theorem slotL_eq {e : En} {i : Nat} {ds : List D} {n : Nat} (h : slotL e i = some (ds, n)) : e[i]? = some (some (.list ds, .o n)) := by
  unfold slotL at h
  split at h
  · rename_i q; cases h; exact q
  · cases h
theorem slotD_eq {e : En} {i : Nat} {ds : List (D × D)} {n : Nat} (h : slotD e i = some (ds, n)) : e[i]? = some (some (.dict ds, .o n)) := by
  unfold slotD at h
  split at h
  · rename_i q; cases h; exact q
  · cases h
/-- methods of a slot's list: what is handed back, the new items (n: how deep the items are owned) -/
abbrev Mop := Nat → List D → List D → Option (D × Fg × List D)
def MutD (K : PySem.W.Frag) (r : V → List V → Hp → VK → Prop) (op : Mop) : Prop := ∀ (F H : Hp) (p : Addr) (xs ys : List V) (as ds ds' : List D) (n : Nat) (B : Fp) (res : D) (o : Fg) (Q : VK), Same F H → H p = some (.lst xs) → OwAll K F H n xs ds B → ¬ B p → FzAll K F ys as →
  op n as ds = some (res, o, ds') → (∀ (v : V) (xs' : List V) (B' R : Fp), OwAll K F H n xs' ds' B' → (∀ a, B' a → B a) → VD K F H v res o R → (∀ a, R a → B a) → (∀ a, R a → ¬ B' a) → Q v (upd H p (.lst xs'))) → r (.ref p) ys H Q
def xMut (i : Nat) (op : Mop) (g : Ax) : Ex := fun e => match slotL e i with
  | some _ => (match g e with
    | some (as, e1) => (match slotL e1 i with
      | some (ds, n) => (match op n as ds with
        | some (res, o, ds') => some (res, o, e1.set i (some (.list ds', .o n)))
        | none => none)
      | none => none)
    | none => none)
  | none => none
theorem mut_imp {K : PySem.W.Frag} {r : V → List V → Hp → VK → Prop} {op : Mop} (hr : MutD K r op) : ∀ σ H Q, cE K (xMut i op g) σ H Q → tBM K "list" r (tVar i) (cA K g) σ H Q := fun σ H Q => by
  rintro ⟨F, en, A, d, o, e', E0, hx, post⟩
  unfold xMut at hx
  split at hx
  · rename_i s0 h0
    obtain ⟨ds0, n0⟩ := s0
    split at hx
    · rename_i as e1 hg
      split at hx
      · rename_i ds n h1
        split at hx
        · rename_i res o' ds' hop
          cases hx
          obtain ⟨p, xs, B, hσ, hp, _⟩ := E0.lst (slotL_eq h0)
          refine ⟨_, hσ, .inl ⟨rfl, xs, SqL.of hp⟩, F, en, A, as, e1, E0, hg, fun vs H1 F1 A1 E1 hv st => ?_⟩
          obtain ⟨p1, xs1, B1, hσ1, hp1, hB1, hA1, nB1, hAi, put⟩ := E1.lst (slotL_eq h1)
          rw [hσ] at hσ1
          cases hσ1
          refine hr F1 H1 p xs1 vs as ds ds' n B1 d o Q E1.sub hp1 hB1 nB1 hv hop fun v xs' B' R ha hb hw hRB hRB' => ?_
          obtain ⟨E2, st2⟩ := put xs' ds' B' ha hb
          have up : ∀ a, R a → upd H1 p (.lst xs') a = H1 a := fun a z => upd_ne fun y => nB1 (hRB p (y ▸ z))
          refine post v _ F1 _ R E2 (hw.mono (Same.refl _) up) (fun a z => E1.nf i a ((hAi a).mpr (.inr (hRB a z)))) ?_ ?_
          · rintro a z ⟨j, y⟩
            by_cases hj : j = i
            · rw [if_pos hj] at y
              rcases y with y | y
              · subst y; exact nB1 (hRB a z)
              · exact hRB' a z y
            · rw [if_neg hj] at y
              exact hj (E1.dis j i a y ((hAi a).mpr (.inr (hRB a z))))
          · refine st.trans ⟨st2.ff, st2.keep, fun a z1 z2 z3 => ?_⟩
            obtain ⟨w1, w2, w3⟩ := st2.fr a z1 z2 z3
            exact ⟨w1, w2, fun z => z.elim w3 fun z => z3 ⟨i, (hAi a).mpr (.inr (hRB a z))⟩⟩
        · cases hx
      · cases hx
    · cases hx
  · cases hx
theorem E.mut {name : Str} {id : String} {r : V → List V → Hp → VK → Prop} {op : Mop} (slot : Slot "list" name id) (hty : typeOf (.builtin id) = pure (.type "method_descriptor")) (hm : MtR X id r) (hr : MutD X.K r op) (ho : PE X o (tVar i)) (ha : As X (e :: es) g)
    (hbase : attributeBase o name X.env (eval o X.env) = eval o X.env := by rfl)
    (hfew : ((backTo cpos (starEach (e :: es) X.env)).all (fun x => !x.1) && (backToKw cpos (keywordEach [] X.env)).all (fun x => x.1.isSome)
      && decide ((e :: es).length + ([] : List Keyword).length + (if ([] : List Keyword).isEmpty then 0 else 1) < 30)) = true := by rfl)
    (hline : (apos.endLine == cpos.line) = true := by rfl) (hs : starEach (e :: es) X.env = (false, eval e X.env) :: starEach es X.env := by rfl) (hplain : (backTo cpos (starEach es X.env)).any (·.1) = false := by rfl) :
    E X (.Call (.Attribute o name apos) (e :: es) [] cpos) (xMut i op g) := pe_imp (pe_bm PySem.F.plainAttrs_list slot hty hm ho ha hbase hfew hline hs hplain) (mut_imp hr)
theorem E.mut0 {name : Str} {id : String} {r : V → List V → Hp → VK → Prop} {op : Mop} (slot : Slot "list" name id) (hty : typeOf (.builtin id) = pure (.type "method_descriptor")) (hm : MtR X id r) (hr : MutD X.K r op) (ho : PE X o (tVar i))
    (hbase : attributeBase o name X.env (eval o X.env) = eval o X.env := by rfl) (hline : (apos.endLine == cpos.line) = true := by rfl) : E X (.Call (.Attribute o name apos) [] [] cpos) (xMut i op aNil) :=
  pe_imp (pe_bm0 PySem.F.plainAttrs_list slot hty hm ho hbase hline) fun σ H Q h => by
    obtain ⟨v, h1, h2, F, en, A, ds, e', E0, hx, post⟩ := mut_imp hr σ H Q h
    cases hx
    exact ⟨v, h1, h2, post [] H F A E0 .nil Step.refl⟩
def mApp : Mop := fun n as ds => match as with
  | [d] => if ds.length < sizeLine ∧ (n = 0 ∨ still d = true) then some (.none, .f, ds ++ [d]) else none
  | _ => none
theorem md_app {K : PySem.W.Frag} : MutD K rAppend mApp := fun F H p xs ys as ds ds' n B res o Q s hp ha nb hv hop q => by
  unfold mApp at hop
  split at hop
  · rename_i d
    obtain ⟨y, rfl, h⟩ := hv.one
    by_cases hz : ds.length < sizeLine ∧ (n = 0 ∨ still d = true)
    · rw [if_pos hz] at hop
      cases hop
      refine ⟨p, xs, y, rfl, rfl, hp, by rw [ha.length]; exact hz.1, q .non _ _ Fp.no (OwAll.snoc ha (fit0 h hz.2) fun _ _ z => z) (fun a z => z.elim id fun z => z.elim) ⟨.non, rfl⟩ (fun _ z => z.elim) fun _ z => z.elim⟩
    · rw [if_neg hz] at hop; cases hop
  · cases hop
def fgOf : Nat → Fg
  | 0 => .f
  | m + 1 => .o m
def mPop : Mop := fun n as ds => match as with
  | [] => match ds.getLast? with
    | some d => some (d, fgOf n, ds.dropLast)
    | none => none
  | _ => none
theorem ow_vd {K : PySem.W.Frag} {F H : Hp} {n : Nat} {v : V} {d : D} {R : Fp} (h : Ow K F H n v d R) : VD K F H v d (fgOf n) R := by
  cases n with
  | zero =>
    cases h with
    | fz h => exact ⟨h, rfl⟩
    | sc h _ => exact ⟨h, rfl⟩
  | succ n => exact h
theorem md_pop {K : PySem.W.Frag} : MutD K rPop mPop := fun F H p xs ys as ds ds' n B res o Q s hp ha nb hv hop q => by
  unfold mPop at hop
  split at hop
  · cases hv
    split at hop
    · rename_i d hd
      cases hop
      have hl := ha.length
      have hk : ds[ds.length - 1]? = some res := by rw [← List.getLast?_eq_getElem?]; exact hd
      obtain ⟨v, R, B', q1, q2, q3, q4, q5⟩ := ha.take1 hk
      have e1 : ds.eraseIdx (ds.length - 1) = ds.dropLast := by rw [List.eraseIdx_length_sub_one]
      have e2 : xs.eraseIdx (ds.length - 1) = xs.dropLast := by rw [← hl, List.eraseIdx_length_sub_one]
      rw [e1, e2] at q3
      exact ⟨p, xs, v, rfl, rfl, hp, by rw [hl]; exact q1, q v _ B' R q3 (fun a z => (q5 a).mpr (.inr z)) (ow_vd q2) (fun a z => (q5 a).mpr (.inl z)) q4⟩
    · cases hop
  · cases hop
def mPopAt : Mop := fun n as ds => match as with
  | [.int i] => if 0 ≤ i ∧ i < 2 ^ 62 then (match ds[i.toNat]? with
    | some d => some (d, fgOf n, ds.eraseIdx i.toNat)
    | none => none) else none
  | _ => none
theorem seqIx_nat {i : Int} {n : Nat} (h0 : 0 ≤ i) (h : i.toNat < n) : seqIndex? i n = some i.toNat := by
  unfold seqIndex?
  have h1 : ¬ i < 0 := by omega
  have h2 : i < (n : Int) := by omega
  simp [h1, h0, h2]
theorem md_popAt {K : PySem.W.Frag} : MutD K rPopAt mPopAt := fun F H p xs ys as ds ds' n B res o Q s hp ha nb hv hop q => by
  unfold mPopAt at hop
  split at hop
  · rename_i i
    obtain ⟨y, rfl, h⟩ := hv.one
    cases h
    by_cases hz : 0 ≤ i ∧ i < 2 ^ 62
    · rw [if_pos hz] at hop
      split at hop
      · rename_i d hd
        cases hop
        obtain ⟨v, R, B', q1, q2, q3, q4, q5⟩ := ha.take1 hd
        have hl : i.toNat < xs.length := (List.getElem?_eq_some_iff.mp q1).1
        exact ⟨p, xs, i, i.toNat, v, rfl, rfl, hp, by omega, by omega, seqIx_nat hz.1 hl, q1, q v _ B' R q3 (fun a z => (q5 a).mpr (.inr z)) (ow_vd q2) (fun a z => (q5 a).mpr (.inl z)) q4⟩
      · cases hop
    · rw [if_neg hz] at hop; cases hop
  · cases hop
/-- x.extend(y): y a list known from tracked places -/
def mClear : Mop := fun n as _ => match as with
  | [] => some (.none, .f, [])
  | _ => none
theorem md_clear {K : PySem.W.Frag} : MutD K rClear mClear := fun F H p xs ys as ds ds' n B res o Q s hp ha nb hv hop q => by
  unfold mClear at hop
  split at hop
  · cases hv
    cases hop
    exact ⟨p, xs, rfl, rfl, hp, q .non [] Fp.no Fp.no .nil (fun _ z => z.elim) ⟨.non, rfl⟩ (fun _ z => z.elim) fun _ z => z.elim⟩
  · cases hop
/-! xs[k] = v on a slot's list -/
def sSetI (i : Nat) (fv fk : Ex) : Sx := fun e => bnd (fv e) fun d e1 => match slotL e1 i with
  | some _ => bnd (fk e1) fun k e2 => (match slotL e2 i, k with
    | some (ds, n), .int j => if n = 0 ∨ still d = true then (match ixN ds.length j with
      | some m => some (.nx, e2.set i (some (.list (ds.set m d), .o n)))
      | none => none) else none
    | _, _ => none)
  | none => none
theorem S.setI {ev ek : Expr} {fv fk : Ex} {tpos : Pos} (hv : E X ev fv) (ho : PE X o (tVar i)) (hk : E X ek fk)
    (hs : swapsWithSole [.Subscript o ek tpos] ev pos.line X.env = pure false := by rfl) (hw : swappedStores [.Subscript o ek tpos] ev X.env = pure none := by rfl)
    (h1 : (assignEach [.Subscript o ek tpos] X.env).map (·.2) = [assign (.Subscript o ek tpos) X.env] := by rfl)
    (hg : ∀ v, assign (.Subscript o ek tpos) X.env v = (do
      let a ← holding [v] (eval o X.env); let b ← holding [v, a] (eval ek X.env); standAt tpos; holding [v, a, b] (setItem a b v); release [v, a, b] []) := by intro _; rfl) :
    S X ms (.Assign [.Subscript o ek tpos] ev pos) (sSetI i fv fk) := ps_imp (ps_asg hv.fz (pg_sub ho hk.fz set_list hg) hs hw h1) fun D σ H => by
  rintro ⟨F, en, A, fl, e', E0, hx, post⟩
  obtain ⟨d, o1, e1, g1, hx⟩ := bnd_eq hx
  split at hx
  · rename_i s0 g2
    obtain ⟨ds0, n0⟩ := s0
    obtain ⟨k, o2, e2, g3, hx⟩ := bnd_eq hx
    split at hx
    · rename_i ds n j g4
      by_cases hf : n = 0 ∨ still d = true
      · rw [if_pos hf] at hx
        split at hx
        · rename_i m g5
          cases hx
          refine E.fz_run E0 g1 fun v H1 F1 A1 E1 hw st1 => ?_
          obtain ⟨p, xs, B, hσ, hp, _⟩ := E1.lst (slotL_eq g2)
          refine ⟨_, hσ, E.fz_run E1 g3 fun kv H2 F2 A2 E2 hkv st2 => ?_⟩
          cases hkv
          obtain ⟨p2, xs2, B2, hσ2, hp2, hB2, hA2, nB2, hAi, put⟩ := E2.lst (slotL_eq g4)
          rw [hσ] at hσ2
          cases hσ2
          obtain ⟨B', q1, q2⟩ := OwAll.set1 (k := m) (fit0 (H := H2) (hw.mono st2.ff) hf) hB2
          obtain ⟨E3, st3⟩ := put _ _ B' q1 q2
          exact ⟨p, xs2, j, m, rfl, rfl, hp2, by rw [hB2.length]; exact g5, post σ _ F2 _ E3 Mo.refl ((st1.trans st2).trans st3)⟩
        · cases hx
      · rw [if_neg hf] at hx; cases hx
    · cases hx
  · cases hx
end
end Ev
namespace Ev
open PySem PySem.Spec PyProof.Rows L2
/-! ### dicts -/
def keyD : D → Option Key
  | .int i => some (.inl i)
  | .str s => some (.inr s)
  | _ => none
def keyIs (k : Key) : D → Bool
  | .int i => match k with | .inl j => i == j | .inr _ => false
  | .str s => match k with | .inr z => decide (s = z) | .inl _ => false
  | _ => false
def lookD (ds : List (D × D)) (k : Key) : Option D := (ds.find? fun p => keyIs k p.1).map (·.2)
def putD (ds : List (D × D)) (k : Key) (d : D) : List (D × D) :=
  if (ds.any fun p => keyIs k p.1) = true then ds.map (fun p => if keyIs k p.1 = true then (p.1, d) else p) else ds ++ [(kD k, d)]
theorem keyIs_kD (k j : Key) : keyIs k (kD j) = decide (j = k) := by
  cases k <;> cases j <;> simp [keyIs, kD]
  rename_i a b
  by_cases h : b = a
  · subst h; simp
  · rw [beq_eq_false_iff_ne.mpr h]; exact (decide_eq_false h).symm
section
variable {K : PySem.W.Frag} {F H : Hp}
theorem fzKV_look {k : Key} : ∀ {kvs : List (Key × V)} {ds : List (D × D)}, FzKV K F kvs ds → (∀ d, lookD ds k = some d → ∃ v, valV kvs k = some v ∧ Fz K F v d) ∧ (lookD ds k = none → valV kvs k = none)
  | _, _, .nil => ⟨fun d h => (nomatch h), fun _ => rfl⟩
  | (j, v) :: kvs, (_, d) :: ds, .cons h a => by
    obtain ⟨q1, q2⟩ := fzKV_look (k := k) a
    unfold lookD valV at *
    rw [List.find?_cons, List.find?_cons]
    dsimp only
    rw [keyIs_kD]
    by_cases hj : j = k
    · subst hj
      simp only [decide_true]
      exact ⟨fun d' e => by cases e; exact ⟨v, rfl, h⟩, fun e => by cases e⟩
    · rw [decide_eq_false hj]
      exact ⟨q1, q2⟩
theorem fzKV_any {k : Key} : ∀ {kvs : List (Key × V)} {ds : List (D × D)}, FzKV K F kvs ds → (ds.any fun p => keyIs k p.1) = (kvs.any fun p => decide (p.1 = k))
  | _, _, .nil => rfl
  | (j, v) :: kvs, (_, d) :: ds, .cons h a => by
    rw [List.any_cons, List.any_cons, keyIs_kD, fzKV_any a]
theorem owKV_any {n : Nat} {k : Key} : ∀ {kvs : List (Key × V)} {ds : List (D × D)} {B : Fp}, OwKV K F H n kvs ds B → (ds.any fun p => keyIs k p.1) = (kvs.any fun p => decide (p.1 = k))
  | _, _, _, .nil => rfl
  | (j, v) :: kvs, (_, d) :: ds, _, .cons h a _ => by
    rw [List.any_cons, List.any_cons, keyIs_kD, owKV_any a]
theorem OwKV.length : ∀ {n : Nat} {vs : List (Key × V)} {ds : List (D × D)} {A : Fp}, OwKV K F H n vs ds A → vs.length = ds.length
  | _, _, _, _, .nil => rfl
  | _, _, _, _, .cons _ a _ => by rw [List.length_cons, List.length_cons, OwKV.length a]
theorem owKV_map {n : Nat} {k : Key} {w : V} {d' : D} (hw : Ow K F H n w d' Fp.no) : ∀ {kvs : List (Key × V)} {ds : List (D × D)} {B : Fp}, OwKV K F H n kvs ds B →
    ∃ B', OwKV K F H n (kvs.map fun kv => if kv.1 = k then (kv.1, w) else kv) (ds.map fun p => if keyIs k p.1 = true then (p.1, d') else p) B' ∧ ∀ a, B' a → B a
  | _, _, _, .nil => ⟨_, .nil, fun _ z => z⟩
  | (j, v) :: kvs, (_, d) :: ds, _, .cons (A := A1) h a hd => by
    obtain ⟨B', q1, q2⟩ := owKV_map (k := k) hw a
    rw [List.map_cons, List.map_cons]
    dsimp only
    rw [keyIs_kD]
    by_cases hj : j = k
    · subst hj
      rw [if_pos rfl, if_pos (by simp)]
      exact ⟨_, .cons hw q1 (fun _ z => z.elim), fun a z => z.elim (fun z => z.elim) fun z => .inr (q2 a z)⟩
    · rw [if_neg hj, if_neg (by rw [decide_eq_false hj]; exact Bool.false_ne_true)]
      exact ⟨_, .cons h q1 (fun a z y => hd a z (q2 a y)), fun a z => z.elim .inl fun z => .inr (q2 a z)⟩
theorem OwKV.snoc {n : Nat} {k : Key} {v : V} {d : D} (h : Ow K F H n v d Fp.no) : ∀ {kvs : List (Key × V)} {ds : List (D × D)} {B : Fp}, OwKV K F H n kvs ds B → OwKV K F H n (kvs ++ [(k, v)]) (ds ++ [(kD k, d)]) B
  | _, _, _, .nil => (OwKV.cons h .nil (fun _ _ z => z)).cast fun a => ⟨fun z => z.elim id id, fun z => .inl z⟩
  | _, _, _, .cons h0 a hd => .cons h0 (OwKV.snoc h a) hd
theorem owKV_put {n : Nat} {k : Key} {w : V} {d' : D} (hw : Ow K F H n w d' Fp.no) {kvs : List (Key × V)} {ds : List (D × D)} {B : Fp} (h : OwKV K F H n kvs ds B) : ∃ B', OwKV K F H n (putK kvs k w) (putD ds k d') B' ∧ ∀ a, B' a → B a := by
  unfold putK putD
  rw [owKV_any (k := k) h]
  by_cases hk : (kvs.any fun kv => decide (kv.1 = k)) = true
  · rw [if_pos hk, if_pos hk]; exact owKV_map hw h
  · rw [if_neg hk, if_neg hk]; exact ⟨B, .snoc hw h, fun _ z => z⟩
theorem keyD_fz {v : V} {d : D} {k : Key} (h : Fz K F v d) (hk : keyD d = some k) : v = kV k := by
  cases h <;> cases hk <;> rfl
end

section
variable {X : Cx} {e o : Expr} {es : List Expr} {f g : Ex} {pos apos cpos : Pos} {ms : List Nat} {i : Nat}
/-! reading a known dict -/
def dGet (a b : D) : Option (D × Fg) := match a, keyD b with
  | .dict ds, some k => (lookD ds k).map fun d => (d, .f)
  | _, _ => none
theorem E.dget {ek : Expr} (hu : X.A.units + 1 < cLine) (ho : E X o f) (hk : E X ek g) (hs : NoSl ek := by exact fun _ _ => rfl) : E X (.Subscript o ek pos) (xOp dGet f g) := pe_imp (pe_dget hu ho.fz hk.fz hs) fun σ H Q => by
  rintro ⟨F, en, A, d, o', e', E0, hx, post⟩
  obtain ⟨d1, o1, e1, h1, hx⟩ := bnd_eq hx
  obtain ⟨d2, o2, e2, h2, hx⟩ := bnd_eq hx
  unfold ap2 dGet at hx
  refine E.fz_run E0 h1 fun x H1 F1 A1 E1 hx1 st1 => ?_
  refine E.fz_run E1 h2 fun y H2 F2 A2 E2 hy st2 => ?_
  split at hx
  · rename_i hq
    split at hq
    · rename_i ds k hk1
      have hx2 := hx1.mono st2.ff
      cases hx2 with
      | dct hr hkv =>
        cases hl : lookD ds k with
        | none => rw [hl] at hq; cases hq
        | some d3 =>
          rw [hl] at hq
          cases hq
          cases hx
          obtain ⟨v, q1, q2⟩ := (fzKV_look (k := k) hkv).1 d hl
          rw [keyD_fz hy hk1]
          exact ⟨_, v, rfl, .inl ⟨_, k, rd_mono E2.sub hr, rfl, q1.symm⟩, post v H2 F2 A2 Fp.no E2 ⟨q2, rfl⟩ (fun _ z => z.elim) (fun _ z => z.elim) (by rw [or_no]; exact st1.trans st2)⟩
    · cases hq
  · cases hx
def dHas (b a : D) : Option (D × Fg) := match a, keyD b with
  | .dict ds, some k => some (.bool (lookD ds k).isSome, .f)
  | _, _ => none
def dHasNot (b a : D) : Option (D × Fg) := match a, keyD b with
  | .dict ds, some k => some (.bool (!(lookD ds k).isSome), .f)
  | _, _ => none
theorem din_imp {K : PySem.W.Frag} : ∀ σ H Q, cE K (xOp dHas g f) σ H Q → tDIn (cE K (xFz g)) (cE K (xFz f)) σ H Q := fun σ H Q => by
  rintro ⟨F, en, A, d, o', e', E0, hx, post⟩
  obtain ⟨d1, o1, e1, h1, hx⟩ := bnd_eq hx
  obtain ⟨d2, o2, e2, h2, hx⟩ := bnd_eq hx
  unfold ap2 dHas at hx
  refine E.fz_run E0 h1 fun x H1 F1 A1 E1 hx1 st1 => ?_
  refine E.fz_run E1 h2 fun y H2 F2 A2 E2 hy st2 => ?_
  split at hx
  · rename_i hq
    split at hq
    · rename_i ds k hk1
      have hx2 := hx1.mono st2.ff
      cases hq
      cases hx
      cases hy with
      | @dct _ kvs0 _ hr hkv =>
        rw [keyD_fz hx2 hk1]
        obtain ⟨q1, q2⟩ := fzKV_look (k := k) hkv
        refine ⟨_, valV kvs0 k, rfl, .inl ⟨_, k, rd_mono E2.sub hr, rfl, rfl⟩, ?_⟩
        have : (valV kvs0 k).isSome = (lookD ds k).isSome := by
          cases hl : lookD ds k with
          | none => rw [q2 hl]; rfl
          | some d3 => obtain ⟨v, r1, _⟩ := q1 d3 hl; rw [r1]; rfl
        rw [this]
        exact post _ H2 F2 A2 Fp.no E2 ⟨.bl _, rfl⟩ (fun _ z => z.elim) (fun _ z => z.elim) (by rw [or_no]; exact st1.trans st2)
    · cases hq
  · cases hx
theorem dnin_imp {K : PySem.W.Frag} : ∀ σ H Q, cE K (xOp dHasNot g f) σ H Q → tDNotIn (cE K (xFz g)) (cE K (xFz f)) σ H Q := fun σ H Q => by
  rintro ⟨F, en, A, d, o', e', E0, hx, post⟩
  obtain ⟨d1, o1, e1, h1, hx⟩ := bnd_eq hx
  obtain ⟨d2, o2, e2, h2, hx⟩ := bnd_eq hx
  unfold ap2 dHasNot at hx
  refine E.fz_run E0 h1 fun x H1 F1 A1 E1 hx1 st1 => ?_
  refine E.fz_run E1 h2 fun y H2 F2 A2 E2 hy st2 => ?_
  split at hx
  · rename_i hq
    split at hq
    · rename_i ds k hk1
      have hx2 := hx1.mono st2.ff
      cases hq
      cases hx
      cases hy with
      | @dct _ kvs0 _ hr hkv =>
        rw [keyD_fz hx2 hk1]
        obtain ⟨q1, q2⟩ := fzKV_look (k := k) hkv
        refine ⟨_, valV kvs0 k, rfl, .inl ⟨_, k, rd_mono E2.sub hr, rfl, rfl⟩, ?_⟩
        have : (valV kvs0 k).isSome = (lookD ds k).isSome := by
          cases hl : lookD ds k with
          | none => rw [q2 hl]; rfl
          | some d3 => obtain ⟨v, r1, _⟩ := q1 d3 hl; rw [r1]; rfl
        rw [this]
        exact post _ H2 F2 A2 Fp.no E2 ⟨.bl _, rfl⟩ (fun _ z => z.elim) (fun _ z => z.elim) (by rw [or_no]; exact st1.trans st2)
    · cases hq
  · cases hx
theorem E.din {a b : Expr} (hu : X.A.units + 1 < cLine) (ha : E X a g) (hb : E X b f) (hm : behindInMarks .In b = false := by rfl) : E X (.Compare a [.In] [b] pos) (xOp dHas g f) := pe_imp (pe_cmp (pc_din hu ha.fz hb.fz) hm) din_imp
theorem E.dnin {a b : Expr} (hu : X.A.units + 1 < cLine) (ha : E X a g) (hb : E X b f) (hm : behindInMarks .NotIn b = false := by rfl) : E X (.Compare a [.NotIn] [b] pos) (xOp dHasNot g f) := pe_imp (pe_cmp (pc_dnotin hu ha.fz hb.fz) hm) dnin_imp
theorem tb_of {K : PySem.W.Frag} {t : TE} {x : Ex} (h : ∀ σ H Q, cE K x σ H Q → t σ H Q) : ∀ σ H Q, cT K (tVal x) σ H Q → tB t σ H Q := fun σ H Q => by
  rintro ⟨F, en, A, b, e', E0, hx, post⟩
  obtain ⟨d1, o1, e1, h1, hx⟩ := bnd_eq hx
  split at hx
  · cases hx
    refine h σ H _ ⟨F, en, A, _, _, _, E0, h1, fun v H' F' A' R E1 hv hn hd st => ?_⟩
    rw [bool_fz hv hn]
    exact ⟨_, rfl, post H' _ A' (E1.cup hn hd) (st.trans (cup_step hn))⟩
  · cases hx
theorem T.din {a b : Expr} (hu : X.A.units + 1 < cLine) (ha : E X a g) (hb : E X b f) (hm : behindInMarks .In b = false := by rfl) : T X (.Compare a [.In] [b] pos) (tVal (xOp dHas g f)) := pt_imp (pt_cmp (pc_din hu ha.fz hb.fz) hm) (tb_of din_imp)
theorem T.dnin {a b : Expr} (hu : X.A.units + 1 < cLine) (ha : E X a g) (hb : E X b f) (hm : behindInMarks .NotIn b = false := by rfl) : T X (.Compare a [.NotIn] [b] pos) (tVal (xOp dHasNot g f)) := pt_imp (pt_cmp (pc_dnotin hu ha.fz hb.fz) hm) (tb_of dnin_imp)
/-! a new dict -/
def xDnew : Ex := fun e => some (.dict [], .o 0, e)
theorem E.dnew : E X (.Dict [] [] pos) xDnew := pe_imp pe_dnewK fun σ H Q => by
  rintro ⟨F, en, A, d, o', e', E0, hx, post⟩
  cases hx
  intro p hp
  obtain ⟨q1, q2, q3, q4⟩ := fz_out E0 (fresh_new (u := .dK []) E0.sub hp) (new_R E0.sub hp)
  exact post _ _ F A (fun a => a = p) q1 ((Ow.dct upd_same .nil (fun z => z)).cast fun a => ⟨fun z => z.elim id fun z => z.elim, .inl⟩) q2 q3 q4
/-! d[k] = v on a slot's dict -/
def sPutD (i : Nat) (fv fk : Ex) : Sx := fun e => bnd (fv e) fun d e1 => match slotD e1 i with
  | some _ => bnd (fk e1) fun k e2 => (match slotD e2 i, keyD k with
    | some (ds, n), some key => if (n = 0 ∨ still d = true) ∧ ds.length < sizeLine then some (.nx, e2.set i (some (.dict (putD ds key d), .o n))) else none
    | _, _ => none)
  | none => none
theorem S.putD {ev ek : Expr} {fv fk : Ex} {pos' : Pos} (hu : X.A.units + 1 < cLine) (hv : E X ev fv) (ho : PE X o (tVar i)) (hk : E X ek fk) (hs : swapsWith ev (some (.Subscript o ek pos')) pos.line X.env = pure false := by rfl) : S X ms (.Assign [.Subscript o ek pos'] ev pos) (sPutD i fv fk) :=
  ps_imp (ps_dput hu ho hk.fz hv.fz hs) fun D σ H => by
  rintro ⟨F, en, A, fl, e', E0, hx, post⟩
  obtain ⟨d, o1, e1, g1, hx⟩ := bnd_eq hx
  split at hx
  · rename_i s0 g2
    obtain ⟨ds0, n0⟩ := s0
    obtain ⟨k, o2, e2, g3, hx⟩ := bnd_eq hx
    split at hx
    · rename_i ds n key g4 g5
      by_cases hf : (n = 0 ∨ still d = true) ∧ ds.length < sizeLine
      · rw [if_pos hf] at hx
        cases hx
        refine E.fz_run E0 g1 fun v H1 F1 A1 E1 hw st1 => ?_
        obtain ⟨p, xs, B, hσ, hp, _⟩ := E1.dct (slotD_eq g2)
        refine ⟨_, hσ, E.fz_run E1 g3 fun kv H2 F2 A2 E2 hkv st2 => ?_⟩
        obtain ⟨p2, xs2, B2, hσ2, hp2, hB2, hA2, nB2, hAi, put⟩ := E2.dct (slotD_eq g4)
        rw [hσ] at hσ2
        cases hσ2
        obtain ⟨B', q1, q2⟩ := owKV_put (k := key) (fit0 (H := H2) (hw.mono st2.ff) hf.1) hB2
        obtain ⟨E3, st3⟩ := put _ _ B' q1 q2
        rw [keyD_fz hkv g5]
        exact ⟨p, _, rfl, DPut.k hp2 (by rw [hB2.length]; exact hf.2), post σ _ F2 _ E3 Mo.refl ((st1.trans st2).trans st3)⟩
      · rw [if_neg hf] at hx; cases hx
    · cases hx
  · cases hx
end

/-! ### a dict is locked while it is walked -/
section
variable {K : PySem.W.Frag} {F F' H : Hp}
mutual
theorem Fz.rd (hl : ∀ a xs, Rd F a (.lst xs) → Rd F' a (.lst xs)) (ht : ∀ a xs, Rd F a (.tup xs) → Rd F' a (.tup xs)) (hd : ∀ a xs, Rd F a (.dK xs) → Rd F' a (.dK xs)) : ∀ {v : V} {d : D}, Fz K F v d → Fz K F' v d
  | _, _, .non => .non
  | _, _, .bl b => .bl b
  | _, _, .int i => .int i
  | _, _, .str x => .str x
  | _, _, .lst h a => .lst (h.elim (fun h => .inl (hl _ _ h)) .inr) (FzAll.rd hl ht hd a)
  | _, _, .tup h a => .tup (h.elim (fun h => .inl (ht _ _ h)) .inr) (FzAll.rd hl ht hd a)
  | _, _, .dct h a => .dct (hd _ _ h) (FzKV.rd hl ht hd a)
theorem FzAll.rd (hl : ∀ a xs, Rd F a (.lst xs) → Rd F' a (.lst xs)) (ht : ∀ a xs, Rd F a (.tup xs) → Rd F' a (.tup xs)) (hd : ∀ a xs, Rd F a (.dK xs) → Rd F' a (.dK xs)) : ∀ {v : List V} {d : List D}, FzAll K F v d → FzAll K F' v d
  | _, _, .nil => .nil
  | _, _, .cons h a => .cons (Fz.rd hl ht hd h) (FzAll.rd hl ht hd a)
theorem FzKV.rd (hl : ∀ a xs, Rd F a (.lst xs) → Rd F' a (.lst xs)) (ht : ∀ a xs, Rd F a (.tup xs) → Rd F' a (.tup xs)) (hd : ∀ a xs, Rd F a (.dK xs) → Rd F' a (.dK xs)) : ∀ {v : List (Key × V)} {d : List (D × D)}, FzKV K F v d → FzKV K F' v d
  | _, _, .nil => .nil
  | _, _, .cons h a => .cons (Fz.rd hl ht hd h) (FzKV.rd hl ht hd a)
end
mutual
theorem Ow.map {H' : Hp} (m : ∀ v d, Fz K F v d → Fz K F' v d) : ∀ {n : Nat} {v : V} {d : D} {A : Fp}, (∀ a, A a → H' a = H a) → Ow K F H n v d A → Ow K F' H' n v d A
  | _, _, _, _, _, .fz h => .fz (m _ _ h)
  | _, _, _, _, _, .sc h q => .sc (m _ _ h) q
  | _, _, _, _, k, .lst h a n => .lst ((k _ (.inl rfl)).trans h) (OwAll.map m (fun a q => k a (.inr q)) a) n
  | _, _, _, _, k, .tup h a n => .tup ((k _ (.inl rfl)).trans h) (OwAll.map m (fun a q => k a (.inr q)) a) n
  | _, _, _, _, k, .dct h a n => .dct ((k _ (.inl rfl)).trans h) (OwKV.map m (fun a q => k a (.inr q)) a) n
theorem OwAll.map {H' : Hp} (m : ∀ v d, Fz K F v d → Fz K F' v d) : ∀ {n : Nat} {v : List V} {d : List D} {A : Fp}, (∀ a, A a → H' a = H a) → OwAll K F H n v d A → OwAll K F' H' n v d A
  | _, _, _, _, _, .nil => .nil
  | _, _, _, _, k, .cons h a n => .cons (Ow.map m (fun a q => k a (.inl q)) h) (OwAll.map m (fun a q => k a (.inr q)) a) n
theorem OwKV.map {H' : Hp} (m : ∀ v d, Fz K F v d → Fz K F' v d) : ∀ {n : Nat} {v : List (Key × V)} {d : List (D × D)} {A : Fp}, (∀ a, A a → H' a = H a) → OwKV K F H n v d A → OwKV K F' H' n v d A
  | _, _, _, _, _, .nil => .nil
  | _, _, _, _, k, .cons h a n => .cons (Ow.map m (fun a q => k a (.inl q)) h) (OwKV.map m (fun a q => k a (.inr q)) a) n
end
theorem fz_lock {p : Addr} {kvs : List (Key × V)} {od : Obj} (hp : F p = some (.dK kvs)) : ∀ v d, Fz K F v d → Fz K (upd F p (.frz od (.dK kvs))) v d := fun v d h => by
  have go : ∀ (a : Addr) (u : HO), (∀ o w, u ≠ .frz o w) → Rd F a u → Rd (upd F p (.frz od (.dK kvs))) a u := fun a u nu r => by
    by_cases ha : a = p
    · subst ha
      rcases r with r | ⟨o, r⟩
      · rw [hp] at r; cases r; exact .inr ⟨od, upd_same⟩
      · rw [hp] at r; cases r
    · rcases r with r | ⟨o, r⟩
      · exact .inl (by rw [upd_ne ha]; exact r)
      · exact .inr ⟨o, by rw [upd_ne ha]; exact r⟩
  exact h.rd (fun a xs => go a _ fun _ _ z => by cases z) (fun a xs => go a _ fun _ _ z => by cases z) (fun a xs => go a _ fun _ _ z => by cases z)
theorem fz_unlock {p : Addr} {kvs : List (Key × V)} {od : Obj} (hp : F p = some (.frz od (.dK kvs))) : ∀ v d, Fz K F v d → Fz K (upd F p (.dK kvs)) v d := fun v d h => by
  have go : ∀ (a : Addr) (u : HO), (∀ o w, u ≠ .frz o w) → Rd F a u → Rd (upd F p (.dK kvs)) a u := fun a u nu r => by
    by_cases ha : a = p
    · subst ha
      rcases r with r | ⟨o, r⟩
      · rw [hp] at r; cases r; exact absurd rfl (nu _ _)
      · rw [hp] at r; cases r; exact .inl upd_same
    · rcases r with r | ⟨o, r⟩
      · exact .inl (by rw [upd_ne ha]; exact r)
      · exact .inr ⟨o, by rw [upd_ne ha]; exact r⟩
  exact h.rd (fun a xs => go a _ fun _ _ z => by cases z) (fun a xs => go a _ fun _ _ z => by cases z) (fun a xs => go a _ fun _ _ z => by cases z)
theorem EnvOk.swap {σ : L2.St} {e : En} {A : Nat → Fp} (E : EnvOk K F H σ e A) {p : Addr} {u : HO} (hp : F p ≠ none) (m : ∀ v d, Fz K F v d → Fz K (upd F p u) v d) : EnvOk K (upd F p u) (upd H p u) σ e A := by
  have np : ∀ i a, A i a → a ≠ p := fun i a ha z => hp (by rw [← z]; exact E.nf i a ha)
  refine ⟨E.len, fun i d o h => ?_, E.un, E.dis, fun i a ha => by rw [upd_ne (np i a ha)]; exact E.nf i a ha, fun a o z => ?_⟩
  · obtain ⟨v, q1, q2⟩ := E.at_ i d o h
    refine ⟨v, q1, ?_⟩
    cases o with
    | f => exact ⟨m _ _ q2.1, q2.2⟩
    | o n => exact Ow.map m (fun a ha => upd_ne (np i a ha)) q2
  · by_cases ha : a = p
    · rw [ha, upd_same] at z; rw [ha, upd_same]; exact z
    · rw [upd_ne ha] at z; rw [upd_ne ha]; exact E.sub a o z
theorem lock_step {p : Addr} {u l : HO} {A A' : Fp} {F2 H2 : Hp} (hp : F p = some u) (hH : H p = some u) (st : Step (upd F p l) A (upd H p l) F2 A' H2) : Step F A H (upd F2 p u) A' (upd H2 p u) := by
  refine ⟨fun a o z => ?_, fun a z => ?_, fun a z1 z2 z3 => ?_⟩
  · by_cases ha : a = p
    · subst ha; rw [hp] at z; cases z; exact upd_same
    · rw [upd_ne ha]; exact st.ff a o (by rw [upd_ne ha]; exact z)
  · by_cases ha : a = p
    · rw [ha, upd_same]; exact fun y => nomatch y
    · rw [upd_ne ha]; exact st.keep a (by rw [upd_ne ha]; exact z)
  · have ha : a ≠ p := fun y => by rw [y, hp] at z2; cases z2
    obtain ⟨q1, q2, q3⟩ := st.fr a (by rw [upd_ne ha]; exact z1) (by rw [upd_ne ha]; exact z2) z3
    exact ⟨by rw [upd_ne ha, q1, upd_ne ha], by rw [upd_ne ha]; exact q2, q3⟩
end
end Ev
namespace Ev
open PySem PySem.Spec PyProof.Rows L2
section
variable {K : PySem.W.Frag} {F H : Hp}
theorem VD.swap {v : V} {d : D} {o : Fg} {R : Fp} (h : VD K F H v d o R) {p : Addr} {u : HO} (np : ¬ R p) (m : ∀ v d, Fz K F v d → Fz K (upd F p u) v d) : VD K (upd F p u) (upd H p u) v d o R := by
  cases o with
  | f => exact ⟨m _ _ h.1, h.2⟩
  | o n => exact Ow.map m (fun a ha => upd_ne fun z => np (z ▸ ha)) h
/-- a way of walking a locked dict -/
structure View (X : Cx) (tg iter : Expr) (i : Nat) (view : List (D × D) → List D) where
  wi : TI
  J : Addr → Obj → List (Key × V) → It
  pi : PI X tg iter wi
  go : ∀ (p : Addr) (od : Obj) (kvs : List (Key × V)) (σ : L2.St) (H : Hp) (R : It → Hp → Prop), σ[i]? = some (some (.ref p)) → H p = some (.frz od (.dK kvs)) → R (J p od kvs) H → wi σ H R
  walk : ∀ (p : Addr) (od : Obj) (kvs : List (Key × V)) (ds : List (D × D)) (F : Hp), F p = some (.frz od (.dK kvs)) → FzKV X.K F kvs ds → WalkD X.K (J p od kvs) F (view ds)
theorem fzKV_get : ∀ {kvs : List (Key × V)} {ds : List (D × D)} {i : Nat} {d : D × D}, FzKV K F kvs ds → ds[i]? = some d → ∃ k v, kvs[i]? = some (k, v) ∧ d.1 = kD k ∧ Fz K F v d.2
  | _, _, _, _, .nil, h => by cases h
  | _, _, 0, _, .cons h a, e => by cases e; exact ⟨_, _, rfl, rfl, h⟩
  | _, _, i + 1, d, .cons h a, e => by
    obtain ⟨k, v, q1, q2⟩ := fzKV_get (i := i) a (by rw [List.getElem?_cons_succ] at e; exact e)
    exact ⟨k, v, by rw [List.getElem?_cons_succ]; exact q1, q2⟩
theorem fz_key (k : Key) : Fz K F (kV k) (kD k) := by
  cases k with
  | inl i => exact .int i
  | inr s => exact .str s
def vKeys (ds : List (D × D)) : List D := ds.map (·.1)
def vVals (ds : List (D × D)) : List D := ds.map (·.2)
def vItems (ds : List (D × D)) : List D := ds.map fun p => .tuple [p.1, p.2]
variable {X : Cx} {tg e iter : Expr} {i : Nat} {apos cpos : Pos}
/-- yields of a new pair -/
theorem pair_fresh {x y : V} {d1 d2 : D} {T : Addr} (hs : Same F H) (hT : H T = none) (h1 : Fz K F x d1) (h2 : Fz K F y d2) : ∃ F', Fz K F' (.ref T) (.tuple [d1, d2]) ∧ Fresh F H F' (upd H T (.tup [x, y])) := by
  have fr := fresh_know (u := .tup [x, y]) hs hT
  exact ⟨_, .tup (SqT.of upd_same) (.cons (h1.mono fr.ff) (.cons (h2.mono fr.ff) .nil)), fr⟩
def View.keys (he : PE X e (tVar i)) : View X tg e i vKeys where
  wi := iKeys (tVar i)
  J := Itk
  pi := pi_keys he
  go := fun p od kvs σ H R hσ hp hR => ⟨_, hσ, p, od, rfl, .inl ⟨kvs, hp, hR⟩⟩
  walk := fun p od kvs ds F hp ha => by
    have hl : (vKeys ds).length = kvs.length := by unfold vKeys; rw [List.length_map, ha.length]
    refine ⟨fun j H hj s => walk_keys.goes j H (by rw [← hl]; exact hj) (s _ _ hp), fun H s => by rw [hl]; exact walk_keys.stops H (s _ _ hp), fun j H x H' d F1 hd s1 s2 y => ?_⟩
    obtain ⟨rfl, k, v, q1, q2⟩ := walk_keys.yields j H x H' (by rw [← hl]; exact len_of' hd) (s2 _ _ (s1 _ _ hp)) y
    unfold vKeys at hd
    rw [List.getElem?_map] at hd
    cases e1 : ds[j]? with
    | none => rw [e1] at hd; cases hd
    | some dd =>
      rw [e1] at hd
      cases hd
      obtain ⟨k', v', r1, r2, r3⟩ := fzKV_get ha e1
      rw [q1] at r1
      cases r1
      rw [q2]
      dsimp only
      rw [r2]
      exact ⟨F1, fz_key k, Fresh.refl s2⟩
where
  len_of' {j : Nat} {l : List D} {d : D} (h : l[j]? = some d) : j < l.length := (List.getElem?_eq_some_iff.mp h).1
def View.vals (he : PE X e (tVar i)) (hbase : attributeBase e "values" X.env (eval e X.env) = eval e X.env := by rfl) (hline : (apos.endLine == cpos.line) = true := by rfl) : View X tg (.Call (.Attribute e "values" apos) [] [] cpos) i vVals where
  wi := iVals (tVar i)
  J := Itd
  pi := pi_values he hbase hline
  go := fun p od kvs σ H R hσ hp hR => ⟨_, hσ, p, od, kvs, rfl, hp, hR⟩
  walk := fun p od kvs ds F hp ha => by
    have hl : (vVals ds).length = kvs.length := by unfold vVals; rw [List.length_map, ha.length]
    refine ⟨fun j H hj s => walk_values.goes j H (by rw [← hl]; exact hj) (s _ _ hp), fun H s => by rw [hl]; exact walk_values.stops H (s _ _ hp), fun j H x H' d F1 hd s1 s2 y => ?_⟩
    obtain ⟨rfl, k, q1⟩ := walk_values.yields j H x H' (by rw [← hl]; exact (List.getElem?_eq_some_iff.mp hd).1) (s2 _ _ (s1 _ _ hp)) y
    unfold vVals at hd
    rw [List.getElem?_map] at hd
    cases e1 : ds[j]? with
    | none => rw [e1] at hd; cases hd
    | some dd =>
      rw [e1] at hd
      cases hd
      obtain ⟨k', v', r1, r2, r3⟩ := fzKV_get ha e1
      rw [q1] at r1
      cases r1
      exact ⟨F1, r3.mono s1, Fresh.refl s2⟩
def View.items {elts : List Expr} {kk : Nat} {tpos : Pos} (he : PE X e (tVar i)) (hbase : attributeBase e "items" X.env (eval e X.env) = eval e X.env := by rfl) (hline : (apos.endLine == cpos.line) = true := by rfl) : View X (.Tuple elts kk tpos) (.Call (.Attribute e "items" apos) [] [] cpos) i vItems where
  wi := iItems (tVar i)
  J := Iti
  pi := pi_items he hbase hline
  go := fun p od kvs σ H R hσ hp hR => ⟨_, hσ, p, od, kvs, rfl, hp, hR⟩
  walk := fun p od kvs ds F hp ha => by
    have hl : (vItems ds).length = kvs.length := by unfold vItems; rw [List.length_map, ha.length]
    refine ⟨fun j H hj s => walk_items.goes j H (by rw [← hl]; exact hj) (s _ _ hp), fun H s => by rw [hl]; exact walk_items.stops H (s _ _ hp), fun j H x H' d F1 hd s1 s2 y => ?_⟩
    obtain ⟨T, x1, y1, rfl, hT, rfl, q1, q2⟩ := walk_items.yields j H x H' (by rw [← hl]; exact (List.getElem?_eq_some_iff.mp hd).1) (s2 _ _ (s1 _ _ hp)) y
    unfold vItems at hd
    rw [List.getElem?_map] at hd
    cases e1 : ds[j]? with
    | none => rw [e1] at hd; cases hd
    | some dd =>
      rw [e1] at hd
      cases hd
      obtain ⟨k', v', r1, r2, r3⟩ := fzKV_get ha e1
      dsimp only at q1 q2
      rw [r1] at q1 q2
      cases q1
      cases q2
      dsimp only
      rw [r2]
      exact pair_fresh s2 hT (fz_key k') (r3.mono s1)
/-- slot i is frozen, a dict stands there -/
theorem use_dict {σ : L2.St} {en e1 : En} {A : Nat → Fp} {ds : List (D × D)} {o : Fg} (E0 : EnvOk K F H σ en A) (h : xUse i en = some (.dict ds, o, e1)) :
    ∃ F1 A1 p kvs, EnvOk K F1 H σ e1 A1 ∧ Step F (U A) H F1 (U A1) H ∧ σ[i]? = some (some (.ref p)) ∧ Rd F1 p (.dK kvs) ∧ FzKV K F1 kvs ds := by
  unfold xUse at h
  split at h
  · rename_i d n he
    cases h
    obtain ⟨v, h1, h2⟩ := E0.at_ i _ _ he
    have hz := VD.fzc h2 (fun a ha => E0.nf i a ha)
    cases hz with
    | dct hr ha => exact ⟨_, _, _, _, E0.freeze he, E0.freeze_step, h1, hr, ha⟩
  · rename_i d he
    cases h
    obtain ⟨v, h1, h2⟩ := E0.at_ i _ _ he
    cases h2.1 with
    | dct hr ha => exact ⟨F, A, _, _, E0, Step.refl, h1, hr, ha⟩
  · cases h
def sForD (i : Nat) (view : List (D × D) → List D) (g : Gx) (body : Sx) : Sx := fun e => match xUse i e with
  | some (.dict ds, _, e1) => loopD g body (view ds) e1
  | _ => none
theorem PS.or {st : Stmt} {t t' : TS} (h : PS X st t) (h' : PS X st t') : PS X st (fun D σ H => t D σ H ∨ t' D σ H) := ⟨fun pins s σ H D I q => q.elim (h.run pins s σ H D I) (h'.run pins s σ H D I)⟩
theorem PE.or' {t t' : TE} (h : PE X e t) (h' : PE X e t') : PE X e (fun σ H Q => t σ H Q ∨ t' σ H Q) := ⟨fun pins s σ H Q I q => q.elim (h.run pins s σ H Q I) (h'.run pins s σ H Q I)⟩
theorem S.forD {ms mt : List Nat} {view : List (D × D) → List D} {g : Gx} {body : List Stmt} {b : Sx} {pos : Pos} (hmt : ∀ i ∈ mt, i ∈ ms) (hp : PassesOwn (model X.prog X.w) X.A X.env X.xe) (hc : X.calm = true) (vw : View X tg iter i view) (hg : G X tg mt g) (hb : Ss X ms body b)
    (hs : ∀ x, foldedSetIterable iter X.env x = pure x := by intro _; rfl) : S X ms (.For tg iter body [] pos) (sForD i view g b) := by
  have base := ps_for (pos := pos) hp hc vw.pi hg hb hs
  refine ps_imp (PS.or (ps_lock base) base) fun Dd σ H => ?_
  rintro ⟨F, en, A, fl, e', E0, hx, post⟩
  unfold sForD at hx
  split at hx
  · rename_i ds o e1 hu
    obtain ⟨F1, A1, p, kvs, E1, st1, hσ, hr, ha⟩ := use_dict E0 hu
    have post1 := post.shift Mo.refl st1
    rcases hr with hr | ⟨od, hr⟩
    · refine .inl ⟨p, .dK kvs, E1.sub _ _ hr, trivial, fun od => ?_⟩
      have E2 := E1.swap (u := .frz od (.dK kvs)) (by rw [hr]; exact fun z => nomatch z) (fz_lock hr)
      refine for_core (F := upd F1 p (.frz od (.dK kvs))) (A := A1) (ds := view ds) (e1 := e1) hmt hx ?_ fun R q => ?_
      · intro σ' H2 F2 A2 E3 mo
        have back : ∀ {B : Fp}, Step (upd F1 p (.frz od (.dK kvs))) (U A1) (upd H p (.frz od (.dK kvs))) F2 B H2 → F2 p = some (.frz od (.dK kvs)) ∧ H2 p = some (.frz od (.dK kvs)) ∧ EnvOk X.K (upd F2 p (.dK kvs)) (upd H2 p (.dK kvs)) σ' e' A2 ∧ Step F1 (U A1) H (upd F2 p (.dK kvs)) B (upd H2 p (.dK kvs)) := fun {B} st => by
          have f2 := st.ff p _ upd_same
          exact ⟨f2, E3.sub _ _ f2, E3.swap (by rw [f2]; exact fun z => nomatch z) (fz_unlock f2), lock_step hr (E1.sub _ _ hr) st⟩
        have q := post1 σ'
        cases fl with
        | nx => exact fun st => let ⟨_, h2, e3, s3⟩ := back st; ⟨h2, q _ _ _ e3 mo s3⟩
        | bk => exact fun st => let ⟨_, h2, e3, s3⟩ := back st; ⟨h2, q _ _ _ e3 mo s3⟩
        | ct => exact fun st => let ⟨_, h2, e3, s3⟩ := back st; ⟨h2, q _ _ _ e3 mo s3⟩
        | rt d o =>
          intro v R hv hn hd st
          obtain ⟨f2, h2, e3, s3⟩ := back st
          have np : ¬ R p := fun z => by rw [hn p z] at f2; cases f2
          exact ⟨h2, q _ _ _ e3 mo v R (hv.swap np (fz_unlock f2)) (fun a z => by rw [upd_ne (show a ≠ p from fun y => np (by rw [← y]; exact z))]; exact hn a z) hd s3⟩
      · exact vw.go p od kvs σ _ R hσ upd_same (q _ _ _ A1 E2 (vw.walk p od kvs ds _ upd_same (by
          have fk : Fz X.K F1 (.ref p) (.dict ds) := .dct (.inl hr) ha
          have fk2 := fz_lock (od := od) hr _ _ fk
          cases fk2 with
          | dct h1 h2 =>
            rcases h1 with h1 | ⟨o2, h1⟩
            · rw [upd_same] at h1; cases h1
            · rw [upd_same] at h1; cases h1; exact h2)) Step.refl)
    · exact .inr (for_core (A := A1) hmt hx post1 fun R q => vw.go p od kvs σ _ R hσ (E1.sub _ _ hr) (q _ _ _ A1 E1 (vw.walk p od kvs ds _ hr ha) Step.refl))
  · cases hx
/-! comprehensions over a dict -/
def xLcD (i : Nat) (view : List (D × D) → List D) (vs : List Nat) (g : Gx) (c : Tx) (f : Ex) : Ex := fun e => match xUse i e with
  | some (.dict ds, _, e1) => if calmE e1 vs = true then (match loopC vs g c f (view ds) [] (wipeE e1 vs) with
    | some (acc, e2) => some (.list acc, .o 0, backE e1 e2 vs)
    | none => none) else none
  | _ => none
theorem lcD_imp {view : List (D × D) → List D} {vs ms : List Nat} {g : Gx} {c : Tx} {f : Ex} (vw : View X tg iter i view) (hms : ∀ i ∈ ms, i ∈ vs) : ∀ σ H Q, cE X.K (xLcD i view vs g c f) σ H Q →
    tLockE (tLc vw.wi (cG X.K ms g) (cT X.K c) (cE X.K (xFz f)) vs) σ H Q ∨ tLc vw.wi (cG X.K ms g) (cT X.K c) (cE X.K (xFz f)) vs σ H Q := fun σ H Q => by
  rintro ⟨F, en, A, d, o, e', E0, hx, post⟩
  unfold xLcD at hx
  split at hx
  · rename_i ds o e1 hu
    by_cases hcal : calmE e1 vs = true
    · rw [if_pos hcal] at hx
      split at hx
      · rename_i res e2 hl
        cases hx
        obtain ⟨F1, A1, p, kvs, E1, st1, hσ, hr, ha⟩ := use_dict E0 hu
        rcases hr with hr | ⟨od, hr⟩
        · refine .inl ⟨p, .dK kvs, E1.sub _ _ hr, trivial, fun od => ?_⟩
          have E2 := E1.swap (u := .frz od (.dK kvs)) (by rw [hr]; exact fun z => nomatch z) (fz_lock hr)
          refine lc_core1 (F := upd F1 p (.frz od (.dK kvs))) (A := A1) (ds := view ds) (e1 := e1) hms hcal hl (fun v H2 F2 A2 R E3 hv hn hd st => ?_) fun R q => ?_
          · have f2 := st.ff p _ upd_same
            have np : ¬ R p := fun z => by rw [hn p z] at f2; cases f2
            refine ⟨E3.sub _ _ f2, post v _ _ A2 R (E3.swap (by rw [f2]; exact fun z => nomatch z) (fz_unlock f2)) (hv.swap np (fz_unlock f2)) (fun a z => by rw [upd_ne (show a ≠ p from fun y => np (by rw [← y]; exact z))]; exact hn a z) hd (st1.trans (lock_step hr (E1.sub _ _ hr) st))⟩
          · exact vw.go p od kvs σ _ R hσ upd_same (q _ _ _ A1 E2 (vw.walk p od kvs ds _ upd_same (by
              have fk : Fz X.K F1 (.ref p) (.dict ds) := .dct (.inl hr) ha
              have fk2 := fz_lock (od := od) hr _ _ fk
              cases fk2 with
              | dct h1 h2 =>
                rcases h1 with h1 | ⟨o2, h1⟩
                · rw [upd_same] at h1; cases h1
                · rw [upd_same] at h1; cases h1; exact h2)) Step.refl)
        · refine .inr (lc_core1 (A := A1) hms hcal hl (fun v H2 F2 A2 R E3 hv hn hd st => post v H2 F2 A2 R E3 hv hn hd (st1.trans st)) fun R q => vw.go p od kvs σ _ R hσ (E1.sub _ _ hr) (q _ _ _ A1 E1 (vw.walk p od kvs ds _ hr ha) Step.refl))
      · cases hx
    · rw [if_neg hcal] at hx; cases hx
  · cases hx
theorem E.lcD {elt : Expr} {ifs : List Expr} {scope : Scope} {own : List (Str × Nat)} {ms : List Nat} {pos : Pos} {view : List (D × D) → List D} {g : Gx} {c : Tx} {f : Ex} (hc : X.calm = true) (hN : X.N.Nodup) (vw : View X tg iter i view) (ok : BlkOk X.N X.env.scope scope own)
    (hg : ∀ (s : Shared) (H : Hp) (C : Addr) (cl : List (Str × Addr)) (fp : List Addr), G (X.blk s H scope (compEnvC scope cl C X.env) fp) tg ms g) (hms : ∀ i ∈ ms, i ∈ own.map (·.2)) (ht : ∀ (s : Shared) (H : Hp) (C : Addr) (cl : List (Str × Addr)) (fp : List Addr), Ts (X.blk s H scope (compEnvC scope cl C X.env) fp) ifs c)
    (he : ∀ (s : Shared) (H : Hp) (C : Addr) (cl : List (Str × Addr)) (fp : List Addr), E (X.blk s H scope (compEnvC scope cl C X.env) fp) elt f) (hs : ∀ x, foldedSetIterable iter X.env x = pure x := by intro _; rfl) :
    E X (.ListComp elt [⟨tg, iter, ifs, 0⟩] scope pos) (xLcD i view (own.map (·.2)) g c f) := by
  have base := pe_lc (pos := pos) (elt := elt) (g := cG X.K ms g) (tt := cT X.K c) (te := cE X.K (xFz f)) hc hN vw.pi ok hg ht (fun s H C cl fp => (he s H C cl fp).fz) hs
  exact pe_imp (PE.or' (pe_lock base) base) (lcD_imp vw hms)
theorem S.setLcD {mz : List Nat} {j : Nat} {y : Str} {py : Pos} {elt : Expr} {ifs : List Expr} {scope : Scope} {own : List (Str × Nat)} {ms : List Nat} {pos spos : Pos} {view : List (D × D) → List D} {g : Gx} {c : Tx} {f : Ex} (him : j ∈ mz) (hc : X.calm = true) (hN : X.N.Nodup) (hy : X.N[j]? = some y) (hyl : X.env.scope.names.lookup y = some .local)
    (hsw : swapsWith (.ListComp elt [⟨tg, iter, ifs, 0⟩] scope pos) (some (.Name y py)) spos.line X.env = pure true) (vw : View X tg iter i view) (ok : BlkOk X.N X.env.scope scope own)
    (hg : ∀ (s : Shared) (H : Hp) (C : Addr) (cl : List (Str × Addr)) (fp : List Addr), G (X.blk s H scope (compEnvC scope cl C X.env) fp) tg ms g) (hms : ∀ i ∈ ms, i ∈ own.map (·.2)) (ht : ∀ (s : Shared) (H : Hp) (C : Addr) (cl : List (Str × Addr)) (fp : List Addr), Ts (X.blk s H scope (compEnvC scope cl C X.env) fp) ifs c)
    (he : ∀ (s : Shared) (H : Hp) (C : Addr) (cl : List (Str × Addr)) (fp : List Addr), E (X.blk s H scope (compEnvC scope cl C X.env) fp) elt f) (hs : ∀ x, foldedSetIterable iter X.env x = pure x := by intro _; rfl) :
    S X mz (.Assign [.Name y py] (.ListComp elt [⟨tg, iter, ifs, 0⟩] scope pos) spos) (sSet j (xLcD i view (own.map (·.2)) g c f)) := by
  have base := ps_setLc (pos := pos) (spos := spos) (elt := elt) (g := cG X.K ms g) (tt := cT X.K c) (te := cE X.K (xFz f)) hc hN hy hyl hsw vw.pi ok hg ht (fun s H C cl fp => (he s H C cl fp).fz) hs
  refine ps_imp (PS.or (ps_lock base) base) fun Dd σ H h => ?_
  have q := set_imp him Dd σ H h
  rcases lcD_imp vw hms σ H _ q with q | q
  · refine .inl ?_
    obtain ⟨p, u, h1, h2, h3⟩ := q
    exact ⟨p, u, h1, h2, fun od => h3 od⟩
  · exact .inr q

/-! ### texts, enumerate, zip -/
def strD (z : Str) : List D := z.cps.toList.map fun c => .str ⟨#[c]⟩
def iStrD (f : Ex) : Ix := fun e => bnd (f e) fun d e1 => match d with
  | .str z => some (strD z, e1)
  | _ => none
theorem I.str {f : Ex} (he : E X e f) : I X tg e (iStrD f) := pi_imp (pi_str he.fz) fun σ H R => by
  rintro ⟨F, en, A, ds, e', E0, hx, post⟩
  obtain ⟨d1, o1, e1, h1, hx⟩ := bnd_eq hx
  split at hx
  · rename_i z
    cases hx
    refine E.fz_run E0 h1 fun v H1 F1 A1 E1 hv st => ?_
    cases hv
    refine ⟨z, rfl, post _ H1 F1 A1 E1 ?_ st⟩
    have hl : (strD z).length = z.cps.size := by unfold strD; simp
    refine ⟨fun j H hj s => walk_str.goes j H (by rw [← hl]; exact hj) trivial, fun H s => by rw [hl]; exact walk_str.stops H trivial, fun j H x H' d F1 hd s1 s2 y => ?_⟩
    obtain ⟨rfl, c, q1, rfl⟩ := walk_str.yields j H x H' (by rw [← hl]; exact (List.getElem?_eq_some_iff.mp hd).1) trivial y
    unfold strD at hd
    rw [List.getElem?_map, Array.getElem?_toList, q1] at hd
    cases hd
    exact ⟨F1, .str _, Fresh.refl s2⟩
  · cases hx
def enumD (ds : List D) : List D := (List.range ds.length).zipWith (fun i d => .tuple [.int (i : Nat), d]) ds
def iEnumD (g : Ax) : Ix := fun e => match g e with
  | some ([.list ds], e1) => some (enumD ds, e1)
  | _ => none
theorem enumD_get {ds : List D} {j : Nat} {d : D} (h : (enumD ds)[j]? = some d) : ∃ d1, ds[j]? = some d1 ∧ d = .tuple [.int (j : Nat), d1] := by
  unfold enumD at h
  rw [List.getElem?_zipWith] at h
  cases e1 : ds[j]? with
  | none => rw [e1] at h; cases q : (List.range ds.length)[j]? <;> rw [q] at h <;> cases h
  | some d1 =>
    rw [e1, List.getElem?_range (List.getElem?_eq_some_iff.mp e1).1] at h
    exact ⟨d1, rfl, (Option.some.inj h).symm⟩
theorem I.enum {e : Expr} {g : Ax} {p pos tpos : Pos} {elts : List Expr} {kk : Nat} (hg : Gl X "enumerate") (hm : X.mg "enumerate" = none) (ha : As X [e] g) (hs : starEach [e] X.env = [(false, eval e X.env)] := by rfl) :
    I X (.Tuple elts kk tpos) (.Call (.Name "enumerate" p) [e] [] pos) (iEnumD g) := pi_imp (pi_enum hg hm ha hs) fun σ H R => by
  rintro ⟨F, en, A, ds, e', E0, hx, post⟩
  unfold iEnumD at hx
  split at hx
  · rename_i es e1 h1
    cases hx
    refine ⟨F, en, A, _, e', E0, h1, fun vs H1 F1 A1 E1 hv st => ?_⟩
    obtain ⟨x, rfl, hx⟩ := hv.one
    cases hx with
    | @lst _ xs _ hq ha =>
      refine ⟨_, xs, rfl, sqL_mono E1.sub hq, post _ H1 F1 A1 E1 ?_ st⟩
      have hl : (enumD es).length = xs.length := by unfold enumD; simp [ha.length]
      refine ⟨fun j H hj s => walk_enum.goes j H (by rw [← hl]; exact hj) (sqL_mono s hq), fun H s => by rw [hl]; exact walk_enum.stops H (sqL_mono s hq), fun j H x H' d F2 hd s1 s2 y => ?_⟩
      obtain ⟨T, x1, y1, rfl, hT, rfl, q1, q2⟩ := walk_enum.yields j H x H' (by rw [← hl]; exact (List.getElem?_eq_some_iff.mp hd).1) (sqL_mono s2 (sqL_mono s1 hq)) y
      obtain ⟨d1, r1, rfl⟩ := enumD_get hd
      obtain ⟨v, w1, w2⟩ := ha.get r1
      dsimp only at q1 q2
      rw [w1] at q2
      cases q2
      cases q1
      exact pair_fresh s2 hT (.int _) (w2.mono s1)
  · cases hx
def zipD (ds es : List D) : List D := ds.zipWith (fun a b => .tuple [a, b]) es
def iZipD (g : Ax) : Ix := fun e => match g e with
  | some ([.list ds, .list es], e1) => some (zipD ds es, e1)
  | _ => none
theorem zipD_get {ds es : List D} {j : Nat} {d : D} (h : (zipD ds es)[j]? = some d) : ∃ d1 d2, ds[j]? = some d1 ∧ es[j]? = some d2 ∧ d = .tuple [d1, d2] := by
  unfold zipD at h
  rw [List.getElem?_zipWith] at h
  cases e1 : ds[j]? with
  | none => rw [e1] at h; cases h
  | some d1 =>
    cases e2 : es[j]? with
    | none => rw [e1, e2] at h; cases h
    | some d2 =>
      rw [e1, e2] at h
      exact ⟨d1, d2, rfl, rfl, (Option.some.inj h).symm⟩
theorem I.zip {e e2 : Expr} {g : Ax} {p pos tpos : Pos} {elts : List Expr} {kk : Nat} (hg : Gl X "zip") (hm : X.mg "zip" = none) (ha : As X [e, e2] g) (hs : starEach [e, e2] X.env = (false, eval e X.env) :: starEach [e2] X.env := by rfl) (hpl : (backTo pos (starEach [e2] X.env)).any (·.1) = false := by rfl) :
    I X (.Tuple elts kk tpos) (.Call (.Name "zip" p) [e, e2] [] pos) (iZipD g) := pi_imp (pi_zip hg hm ha hs hpl) fun σ H R => by
  rintro ⟨F, en, A, ds, e', E0, hx, post⟩
  unfold iZipD at hx
  split at hx
  · rename_i es1 es2 e1 h1
    cases hx
    refine ⟨F, en, A, _, e', E0, h1, fun vs H1 F1 A1 E1 hv st => ?_⟩
    obtain ⟨x, y, rfl, hx, hy⟩ := hv.two
    cases hx with
    | @lst _ xs _ hq ha =>
      cases hy with
      | @lst _ ys _ hq2 ha2 =>
        refine ⟨_, _, xs, ys, rfl, sqL_mono E1.sub hq, sqL_mono E1.sub hq2, post _ H1 F1 A1 E1 ?_ st⟩
        have hl : (zipD es1 es2).length = min xs.length ys.length := by unfold zipD; simp [ha.length, ha2.length]
        refine ⟨fun j H hj s => (walk_zip rfl).goes j H (by rw [← hl]; exact hj) ⟨sqL_mono s hq, sqL_mono s hq2⟩, fun H s => by rw [hl]; exact (walk_zip rfl).stops H ⟨sqL_mono s hq, sqL_mono s hq2⟩, fun j H x H' d F2 hd s1 s2 y => ?_⟩
        obtain ⟨T, x1, y1, rfl, hT, rfl, q1, q2⟩ := (walk_zip rfl).yields j H x H' (by rw [← hl]; exact (List.getElem?_eq_some_iff.mp hd).1) ⟨sqL_mono s2 (sqL_mono s1 hq), sqL_mono s2 (sqL_mono s1 hq2)⟩ y
        obtain ⟨d1, d2, r1, r2, rfl⟩ := zipD_get hd
        obtain ⟨v, w1, w2⟩ := ha.get r1
        obtain ⟨v2, w3, w4⟩ := ha2.get r2
        dsimp only at q1 q2
        rw [w1] at q1
        rw [w3] at q2
        cases q1
        cases q2
        exact pair_fresh s2 hT (w2.mono s1) (w4.mono s1)
  · cases hx
end
end Ev
namespace Ev
open PySem PySem.Spec PyProof.Rows L2
/-! ### isinstance -/
def tyD : D → String
  | .none => "NoneType"
  | .bool _ => "bool"
  | .int _ => "int"
  | .str _ => "str"
  | .list _ => "list"
  | .tuple _ => "tuple"
  | .dict _ => "dict"
def isiB (T : String) (d : D) : Bool := match T with
  | "int" => match d with | .int _ | .bool _ => true | _ => false
  | "bool" => match d with | .bool _ => true | _ => false
  | "str" => match d with | .str _ => true | _ => false
  | "list" => match d with | .list _ => true | _ => false
  | "tuple" => match d with | .tuple _ => true | _ => false
  | "dict" => match d with | .dict _ => true | _ => false
  | _ => false
def isiT (T : String) : Bool := ["int", "bool", "str", "list", "tuple", "dict"].contains T
def isiS (T a : String) : Bool := T == a || (T == "int" && a == "bool")
theorem isi_tab : (["NoneType", "bool", "int", "str", "list", "tuple", "dict"].all fun a => ["int", "bool", "str", "list", "tuple", "dict"].all fun T => kitB a T == some (isiS T a)) = true := by decide +kernel
theorem isi_ok {T : String} (h : isiT T = true) (d : D) : kitB (tyD d) T = some (isiB T d) := by
  have h' : T ∈ ["int", "bool", "str", "list", "tuple", "dict"] := by simpa [isiT] using h
  have ha : tyD d ∈ ["NoneType", "bool", "int", "str", "list", "tuple", "dict"] := by cases d <;> simp [tyD]
  have q := List.all_eq_true.mp (List.all_eq_true.mp isi_tab _ ha) _ h'
  rw [beq_iff_eq] at q
  rw [q]
  simp only [List.mem_cons, List.not_mem_nil, or_false] at h'
  rcases h' with rfl | rfl | rfl | rfl | rfl | rfl <;> cases d <;> rfl
section
variable {K : PySem.W.Frag} {F H : Hp} {X : Cx} {e : Expr} {f g : Ex} {pos p p2 p3 q : Pos}
theorem fz_ty {v : V} {d : D} (s : Same F H) (h : Fz K F v d) : TyX K H v (.type (tyD d)) := by
  cases h with
  | non => exact .base .non
  | bl b => exact .base (.bl b)
  | int i => exact .base (.int i)
  | str x => exact .base (.str x)
  | lst hs _ =>
    rcases hs with (h | ⟨o, h⟩) | ⟨o, its, n, hk, hc, _⟩
    · exact .base (.lst (s _ _ h))
    · exact .base (.frz (s _ _ h))
    · exact .kList hk hc
  | tup hs _ =>
    rcases hs with (h | ⟨o, h⟩) | ⟨o, its, n, hk, hc, _⟩
    · exact .base (.tup (s _ _ h))
    · exact .fTuple (s _ _ h)
    · exact .kTuple hk hc
  | dct hr _ =>
    rcases hr with h | ⟨o, h⟩
    · exact .base (.dK (s _ _ h))
    · exact .fDict (s _ _ h)
def xIsi (T : String) (f : Ex) : Ex := fun e => bnd (f e) fun d e1 => if isiT T = true then some (.bool (isiB T d), .f, e1) else none
def xIsi2 (T U : String) (f : Ex) : Ex := fun e => bnd (f e) fun d e1 => if isiT T = true ∧ isiT U = true then some (.bool (isiB T d || isiB U d), .f, e1) else none
theorem ty_pe {x : Str} {T : String} {pos : Pos} (hg : Gl X x) (hm : X.mg x = none) (hv : bootBuiltins x = some (.type T)) (hn : x ≠ "__name__" := by decide) (hd : (x == ("__debug__" : Str)) = false := by decide) : PE X (.Name x pos) (tC (.ty T)) :=
  pe_bltn hg hm hv rfl hn hd
theorem E.isi {x : Str} {T : String} (hg : Gl X "isinstance") (hm : X.mg "isinstance" = none) (he : E X e f) (ht : PE X (.Name x q) (tC (.ty T)))
    (hs : starEach [e, .Name x q] X.env = (false, eval e X.env) :: starEach [.Name x q] X.env := by rfl) (hs2 : starEach [.Name x q] X.env = (false, eval (.Name x q) X.env) :: starEach [] X.env := by rfl) (hpl : (backTo pos (starEach [.Name x q] X.env)).any (·.1) = false := by rfl) :
    E X (.Call (.Name "isinstance" p) [e, .Name x q] [] pos) (xIsi T f) := pe_imp (pe_callB call_isi hg hm (by decide +kernel) (pa_cons he.fz (pa_cons ht pa_nil hs2) hs) (by decide) (by decide) hs hpl) fun σ H Q => by
  rintro ⟨F, en, A, d, o, e', E0, hx, post⟩
  obtain ⟨d1, o1, e1, h1, hx⟩ := bnd_eq hx
  by_cases hT : isiT T = true
  · rw [if_pos hT] at hx
    cases hx
    refine E.fz_run E0 h1 fun v H1 F1 A1 E1 hv st => ?_
    exact ⟨v, .ty T, _, .type T, _, rfl, .ty T, fz_ty E1.sub hv, kit_ty (isi_ok hT d1), post _ H1 F1 A1 Fp.no E1 ⟨.bl _, rfl⟩ (fun _ z => z.elim) (fun _ z => z.elim) (by rw [or_no]; exact st)⟩
  · rw [if_neg hT] at hx; cases hx
theorem E.isi2 {x y : Str} {T U : String} {k : Nat} {tp : Pos} {q2 : Pos} (hg : Gl X "isinstance") (hm : X.mg "isinstance" = none) (he : E X e f) (ht : PE X (.Name x q) (tC (.ty T))) (hu : PE X (.Name y q2) (tC (.ty U)))
    (hs : starEach [e, .Tuple [.Name x q, .Name y q2] k tp] X.env = (false, eval e X.env) :: starEach [.Tuple [.Name x q, .Name y q2] k tp] X.env := by rfl)
    (hs2 : starEach [.Tuple [.Name x q, .Name y q2] k tp] X.env = (false, eval (.Tuple [.Name x q, .Name y q2] k tp) X.env) :: starEach [] X.env := by rfl)
    (hs3 : starEach [.Name x q, .Name y q2] X.env = (false, eval (.Name x q) X.env) :: starEach [.Name y q2] X.env := by rfl) (hs4 : starEach [.Name y q2] X.env = (false, eval (.Name y q2) X.env) :: starEach [] X.env := by rfl)
    (hpl : (backTo pos (starEach [.Tuple [.Name x q, .Name y q2] k tp] X.env)).any (·.1) = false := by rfl) :
    E X (.Call (.Name "isinstance" p) [e, .Tuple [.Name x q, .Name y q2] k tp] [] pos) (xIsi2 T U f) :=
  pe_imp (pe_callB call_isiT hg hm (by decide +kernel) (pa_cons he.fz (pa_cons (pe_tup (pa_cons ht (pa_cons hu pa_nil hs4) hs3)) pa_nil hs2) hs) (by decide) (by decide) hs hpl) fun σ H Q => by
  rintro ⟨F, en, A, d, o, e', E0, hx, post⟩
  obtain ⟨d1, o1, e1, h1, hx⟩ := bnd_eq hx
  by_cases hT : isiT T = true ∧ isiT U = true
  · rw [if_pos hT] at hx
    cases hx
    refine E.fz_run E0 h1 fun v H1 F1 A1 E1 hv st => ⟨show 2 ≤ sizeLine by decide, fun tpa htp => ?_⟩
    have fr := fresh_new (u := .tup [.ty T, .ty U]) E1.sub htp
    have k1 := kit_ty (K := X.K) (isi_ok hT.1 d1)
    have k2 := kit_ty (K := X.K) (isi_ok hT.2 d1)
    refine ⟨v, tpa, [.ty T, .ty U], _, [.type T, .type U], isiB T d1 || isiB U d1, rfl, upd_same, .cons (.ty T) (.cons (.ty U) .nil), fz_ty (E1.fresh fr).sub hv, ?_, ?_⟩
    · refine kitAny_cons (b := isiB T d1) k1 (fun hb => ?_) (fun hb => by rw [hb]; rfl)
      rw [hb]
      exact kitAny_cons (b := isiB U d1) k2 (fun hb2 => by rw [hb2]; exact kitAny_nil) (fun hb2 => by rw [hb2]; rfl)
    · obtain ⟨w1, w2, w3, w4⟩ := fz_out (R := Fp.no) E1 fr no_fresh
      exact post _ _ F1 A1 Fp.no w1 ⟨.bl _, rfl⟩ w2 w3 (st.trans w4)
  · rw [if_neg hT] at hx; cases hx

/-! ### len of a dict -/
def kLenD : List D → Option (D × Fg)
  | [.dict ds] => some (.int ds.length, .f)
  | _ => none
theorem call_lenR : CallR X (.builtin "len") (fun xs H Q => ∃ a kvs, xs = [V.ref a] ∧ Rd H a (.dK kvs) ∧ Q (.int kvs.length) H) := by
  intro pins s σ H xs us Q I r h
  obtain ⟨a, kvs, rfl, ha, q⟩ := h
  obtain ⟨u, rfl, ru⟩ := vals1 r
  cases ru
  exact d_len I ha fun t s' I' => ⟨.int kvs.length, H, I', ⟨t, rfl⟩, q⟩
theorem cd_lenD : CallD K (fun xs H Q => ∃ a kvs, xs = [V.ref a] ∧ Rd H a (.dK kvs) ∧ Q (.int kvs.length) H) kLenD := fun F H xs ds res o Q s hv he q => by
  unfold kLenD at he
  split at he
  · rename_i es
    obtain ⟨x, rfl, h⟩ := hv.one
    cases he
    cases h with
    | dct hr ha => exact ⟨_, _, rfl, rd_mono s hr, by rw [ha.length]; exact q _ H F Fp.no vd_int (Fresh.refl s) no_fresh⟩
  · cases he

/-! ### repr -/
mutual
theorem still_reads {pins : List (Addr × Obj)} {σ : L2.St} {s : Shared} (I : Inv X pins σ H s) : ∀ (d : D) (v : V) (u : Value), still d = true → Fz X.K H v d → RelV v u → Reads s.heap u d []
  | .none, _, _, _, h, r => by cases h; cases r; exact .none
  | .bool b, _, _, _, h, r => by cases h; cases r; exact .bool b
  | .int i, _, _, _, h, r => by cases h; obtain ⟨t, rfl⟩ := r; exact .int i t
  | .str x, _, _, _, h, r => by cases h; obtain ⟨t, rfl⟩ := r; exact .str x t
  | .list _, _, _, hs, _, _ => by cases hs
  | .dict _, _, _, hs, _, _ => by cases hs
  | .tuple ds, _, _, hs, h, r => by
    cases h with
    | tup hq ha =>
      cases r
      obtain ⟨its, rv, ⟨o, ho, hc, n, hd⟩, _⟩ := I.tuple hq
      exact .tuple ho hc hd (still_readsAll I ds _ its (by simpa [still] using hs) ha rv)
theorem still_readsAll {pins : List (Addr × Obj)} {σ : L2.St} {s : Shared} (I : Inv X pins σ H s) : ∀ (ds : List D) (vs : List V) (us : List Value), stillAll ds = true → FzAll X.K H vs ds → Vals vs us → ReadsAll s.heap us ds []
  | [], _, _, _, h, r => by cases h; cases r; exact .nil
  | d :: ds, _, _, hs, h, r => by
    simp only [stillAll, Bool.and_eq_true] at hs
    cases h with
    | cons h1 h2 =>
      cases r with
      | cons r1 r2 =>
        have := ReadsAll.cons (still_reads I d _ _ hs.1 h1 r1) (still_readsAll I ds _ _ hs.2 h2 r2)
        exact this
end
def stillKV : List (D × D) → Bool
  | [] => true
  | (_, d) :: ds => still d && stillKV ds
/-- what repr may be asked of -/
def reprOk (d : D) : Bool := (match d with
  | .int i => decide (i.natAbs.log2 < 1920)
  | _ => true) && d.showable && decide (d.depth ≤ 60) && decide (d.shown.length ≤ sizeLine)
def reprD (d : D) : Str := match d with
  | .int i => toString i
  | _ => d.shown
def kRepr : List D → Option (D × Fg)
  | [d] => if reprOk d = true then some (.str (reprD d), .f) else none
  | _ => none
def rRepr (K : PySem.W.Frag) : List V → Hp → VK → Prop := fun xs H Q => ∃ x d, xs = [x] ∧ Fz K H x d ∧ reprOk d = true ∧ Q (.str (reprD d)) H
mutual
theorem fz_read {pins : List (Addr × Obj)} {σ : L2.St} {s : Shared} (I : Inv X pins σ H s) : ∀ {v : V} {d : D}, Fz X.K H v d → ∀ u, RelV v u → ∃ as, Reads s.heap u d as
  | _, _, .non, _, r => by cases r; exact ⟨_, .none⟩
  | _, _, .bl b, _, r => by cases r; exact ⟨_, .bool b⟩
  | _, _, .int i, _, r => by obtain ⟨t, rfl⟩ := r; exact ⟨_, .int i t⟩
  | _, _, .str x, _, r => by obtain ⟨t, rfl⟩ := r; exact ⟨_, .str x t⟩
  | _, _, .lst hs ha, _, r => by
    cases r
    obtain ⟨its, rv, ⟨o, n, ho, hc, _, hd⟩, _⟩ := I.list hs
    obtain ⟨as, hr⟩ := fz_readAll I ha its rv
    exact ⟨_, Reads.list ho hc hd hr⟩
  | _, _, .tup hs ha, _, r => by
    cases r
    obtain ⟨its, rv, ⟨o, ho, hc, n, hd⟩, _⟩ := I.tuple hs
    obtain ⟨as, hr⟩ := fz_readAll I ha its rv
    exact ⟨_, Reads.tuple ho hc hd hr⟩
  | _, _, .dct hq ha, _, r => by
    cases r
    obtain ⟨z, lo, vs, rel, o, es, ep, e1, e2, e3, e4, e5, e6⟩ := dk_rd I.hok hq
    obtain ⟨⟨as, q1⟩, bs, q2⟩ := fz_readKV I ha e5 rel
    exact ⟨_, Reads.dict e1 e2.1 e3 q1 q2⟩
theorem fz_readAll {pins : List (Addr × Obj)} {σ : L2.St} {s : Shared} (I : Inv X pins σ H s) : ∀ {vs : List V} {ds : List D}, FzAll X.K H vs ds → ∀ us, Vals vs us → ∃ as, ReadsAll s.heap us ds as
  | _, _, .nil, _, r => by cases r; exact ⟨_, .nil⟩
  | _, _, .cons h1 h2, _, r => by
    cases r with
    | cons r1 r2 =>
      obtain ⟨as, q1⟩ := fz_read I h1 _ r1
      obtain ⟨bs, q2⟩ := fz_readAll I h2 _ r2
      exact ⟨_, ReadsAll.cons q1 q2⟩
theorem fz_readKV {pins : List (Addr × Obj)} {σ : L2.St} {s : Shared} (I : Inv X pins σ H s) : ∀ {kvs : List (Key × V)} {ds : List (D × D)}, FzKV X.K H kvs ds → ∀ {es : List DictEntry} {vs : List (Key × Value)}, Pairs (mixKind X.prog X.w) es vs → KV kvs vs →
    (∃ as, ReadsAll s.heap (es.map (·.key)) (ds.map (·.1)) as) ∧ ∃ bs, ReadsAll s.heap (es.map (·.val)) (ds.map (·.2)) bs
  | _, _, .nil, _, _, p, r => by cases r; cases p; exact ⟨⟨_, .nil⟩, _, .nil⟩
  | (k, _) :: _, _, .cons h1 h2, _, _, p, r => by
    cases r with
    | cons r1 r2 =>
      cases p with
      | cons hk hv hr =>
        obtain ⟨⟨as, q1⟩, bs, q2⟩ := fz_readKV I h2 hr r2
        rename_i kv _ e _
        have e1 : k = kv.1 := r1.1
        obtain ⟨bs1, q3⟩ := fz_read I h1 e.val (by have z : RelV _ kv.2 := r1.2; rw [← hv] at z; exact z)
        refine ⟨⟨[] ++ as, ?_⟩, bs1 ++ bs, ReadsAll.cons q3 q2⟩
        have kk : Reads s.heap e.key (kD k) [] := by
          rw [e1]
          rcases keyIs_shape (show L2.keyIs kv.1 e.key = true from hk) with ⟨i, t, z1, z2⟩ | ⟨x, t, z1, z2⟩
          · rw [z1, z2]; exact .int i t
          · rw [z1, z2]; exact .str x t
        exact ReadsAll.cons kk q1
end
theorem key_show {h : Heap} {prog : Program} {w : World} {k : Key} {u : Value} (hk : L2.keyIs k u = true) (hs : (kD k).showable = true) (hz : (kD k).shown.length ≤ sizeLine) : ReprK prog w [] h (kD k).depth u (kD k).shown := by
  rcases keyIs_shape hk with ⟨i, t, z1, z2⟩ | ⟨x, t, z1, z2⟩
  · rw [z1] at hs ⊢; rw [z2]; unfold kD at hs ⊢; simp only [PyData.shown]; exact .of_is (ReprIs.int t (by simpa [PyData.showable] using hs)) _ _ _
  · rw [z1] at hz ⊢; rw [z2]; unfold kD at hz ⊢; simp only [PyData.shown]; exact .of_is (ReprIs.str x t (by simpa only [PyData.shown] using hz)) _ _ _
mutual
theorem fz_show {pins : List (Addr × Obj)} {σ : L2.St} {s : Shared} (I : Inv X pins σ H s) : ∀ {v : V} {d : D}, Fz X.K H v d → ∀ u, RelV v u → d.showable = true → d.shown.length ≤ sizeLine → ∃ bs, ReadAtMost s.heap d.depth bs ∧ ReprK X.prog X.w bs s.heap d.depth u d.shown
  | _, _, .non, _, r, _, _ => by cases r; exact ⟨[], (fun _ h => nomatch h), by simp only [PyData.shown]; exact .of_is ReprIs.none _ _ _⟩
  | _, _, .bl b, _, r, _, _ => by cases r; exact ⟨[], (fun _ h => nomatch h), by simp only [PyData.shown]; exact .of_is (ReprIs.bool b) _ _ _⟩
  | _, _, .int i, _, r, hs, _ => by obtain ⟨t, rfl⟩ := r; exact ⟨[], (fun _ h => nomatch h), by simp only [PyData.shown]; exact .of_is (ReprIs.int t (by simpa [PyData.showable] using hs)) _ _ _⟩
  | _, _, .str x, _, r, _, hz => by obtain ⟨t, rfl⟩ := r; exact ⟨[], (fun _ h => nomatch h), by simp only [PyData.shown]; exact .of_is (ReprIs.str x t (by simpa only [PyData.shown] using hz)) _ _ _⟩
  | _, _, .lst (ds := xs) hl ha, _, r, hs, hz => by
    cases r
    obtain ⟨its, rv, ⟨o, n, h1, h2, _, h3⟩, _⟩ := I.list hl
    have hz' : (listText (PyData.shownAll xs)).length ≤ sizeLine := by simpa only [PyData.shown] using hz
    obtain ⟨bs, hb, hk⟩ := fz_showAll I ha its rv (by simpa [PyData.showable] using hs) (fun t ht => Nat.le_trans (listText_mem_le ht) hz')
    obtain ⟨as, h4⟩ := fz_readAll I ha its rv
    have r := Reads.list h1 h2 h3 h4
    have hna := not_mem_of_deeper r (by simp only [PyData.depth]; omega) hb
    refine ⟨_ :: bs, ReadAtMost.cons r (by simp only [PyData.depth]; omega) hb, ?_⟩
    simp only [PyData.depth, PyData.shown]
    cases its with
    | nil =>
      cases h4
      simp only [PyData.shownAll, listText_nil]
      exact ReprK.listEmpty h1 h2 h3
    | cons x l => exact ReprK.list h1 h2 h3 hna (by simpa using hk.length_eq) (fun i y e => hk.item i y (by simpa using e))
  | _, _, .tup (ds := xs) hl ha, _, r, hs, hz => by
    cases r
    obtain ⟨its, rv, ⟨o, h1, h2, n, h3⟩, _⟩ := I.tuple hl
    have hz' : (tupleText (PyData.shownAll xs)).length ≤ sizeLine := by simpa only [PyData.shown] using hz
    obtain ⟨bs, hb, hk⟩ := fz_showAll I ha its rv (by simpa [PyData.showable] using hs) (fun t ht => Nat.le_trans (tupleText_mem_le ht) hz')
    obtain ⟨as, h4⟩ := fz_readAll I ha its rv
    have r := Reads.tuple h1 h2 h3 h4
    have hna := not_mem_of_deeper r (by simp only [PyData.depth]; omega) hb
    refine ⟨_ :: bs, ReadAtMost.cons r (by simp only [PyData.depth]; omega) hb, ?_⟩
    simp only [PyData.depth, PyData.shown]
    exact ReprK.tuple h1 h2 h3 hna hk
  | _, _, .dct (ds := kvs) hq ha, _, r, hs, hz => by
    cases r
    obtain ⟨z, lo, vs, rel, o, es, ep, h1, h2, h3, e4, e5, e6⟩ := dk_rd I.hok hq
    have hz' : (dictText (PyData.shownKv kvs)).length ≤ sizeLine := by simpa only [PyData.shown] using hz
    obtain ⟨hs1, hs2⟩ := PyData.showableKv_split kvs (by simpa [PyData.showable] using hs)
    obtain ⟨b1, hb1, b2, hb2, k1, k2⟩ := fz_showKV I ha e5 rel hs1 hs2 (fun t ht => let ⟨p, hp, hl⟩ := PyData.shownKv_key_le kvs t ht; Nat.le_trans hl (Nat.le_trans (dictText_mem_le hp) hz')) (fun t ht => let ⟨p, hp, hl⟩ := PyData.shownKv_val_le kvs t ht; Nat.le_trans hl (Nat.le_trans (dictText_mem_le hp) hz'))
    obtain ⟨⟨as, q1⟩, bs, q2⟩ := fz_readKV I ha e5 rel
    have r := Reads.dict h1 h2.1 h3 q1 q2
    have hb : ReadAtMost s.heap (PyData.depthKv kvs) (b1 ++ b2) := (hb1.mono (PyData.depthAll_keys_le kvs)).append (hb2.mono (PyData.depthAll_vals_le kvs))
    have hna := not_mem_of_deeper r (by simp only [PyData.depth]; omega) hb
    refine ⟨_ :: (b1 ++ b2), ReadAtMost.cons r (by simp only [PyData.depth]; omega) hb, ?_⟩
    simp only [PyData.depth, PyData.shown, PyData.shownKv_eq]
    exact ReprK.dict h1 h2.1 h3 lo hna (ReprEntriesK.of_two es.toList _ _
      (k1.more_le (fun b hb => List.mem_append_left _ hb) (PyData.depthAll_keys_le kvs)) (k2.more_le (fun b hb => List.mem_append_right _ hb) (PyData.depthAll_vals_le kvs)))
theorem fz_showAll {pins : List (Addr × Obj)} {σ : L2.St} {s : Shared} (I : Inv X pins σ H s) : ∀ {vs : List V} {ds : List D}, FzAll X.K H vs ds → ∀ us, Vals vs us → PyData.showableAll ds = true → (∀ t ∈ PyData.shownAll ds, t.length ≤ sizeLine) →
    ∃ bs, ReadAtMost s.heap (PyData.depthAll ds) bs ∧ ReprAllK X.prog X.w bs s.heap (PyData.depthAll ds) us (PyData.shownAll ds)
  | _, _, .nil, _, r, _, _ => by cases r; exact ⟨[], (fun _ h => nomatch h), by simp only [PyData.shownAll]; exact .nil⟩
  | _, _, .cons (d := d) (ds := ds) h1 h2, _, r, hs, hz => by
    cases r with
    | cons r1 r2 =>
      have hs' : d.showable = true ∧ PyData.showableAll ds = true := by simpa [PyData.showableAll] using hs
      obtain ⟨b1, hb1, k1⟩ := fz_show I h1 _ r1 hs'.1 (hz _ (by simp only [PyData.shownAll]; exact List.mem_cons_self ..))
      obtain ⟨b2, hb2, k2⟩ := fz_showAll I h2 _ r2 hs'.2 (fun t ht => hz t (by simp only [PyData.shownAll]; exact List.mem_cons_of_mem _ ht))
      refine ⟨b1 ++ b2, ?_, ?_⟩
      · intro b hm
        simp only [PyData.depthAll]
        rcases List.mem_append.mp hm with hm | hm
        · obtain ⟨d', as', r', hd'⟩ := hb1 b hm
          exact ⟨d', as', r', Nat.le_trans hd' (Nat.le_max_left _ _)⟩
        · obtain ⟨d', as', r', hd'⟩ := hb2 b hm
          exact ⟨d', as', r', Nat.le_trans hd' (Nat.le_max_right _ _)⟩
      · simp only [PyData.depthAll, PyData.shownAll]
        exact .cons ((k1.more fun b hb => List.mem_append_left _ hb).level_le (Nat.le_max_left _ _)) (k2.more_le (fun b hb => List.mem_append_right _ hb) (Nat.le_max_right _ _))
theorem fz_showKV {pins : List (Addr × Obj)} {σ : L2.St} {s : Shared} (I : Inv X pins σ H s) : ∀ {kvs : List (Key × V)} {ds : List (D × D)}, FzKV X.K H kvs ds → ∀ {es : List DictEntry} {vs : List (Key × Value)}, Pairs (mixKind X.prog X.w) es vs → KV kvs vs →
    PyData.showableAll (ds.map (·.1)) = true → PyData.showableAll (ds.map (·.2)) = true → (∀ t ∈ PyData.shownAll (ds.map (·.1)), t.length ≤ sizeLine) → (∀ t ∈ PyData.shownAll (ds.map (·.2)), t.length ≤ sizeLine) →
    ∃ b1, ReadAtMost s.heap (PyData.depthAll (ds.map (·.1))) b1 ∧ ∃ b2, ReadAtMost s.heap (PyData.depthAll (ds.map (·.2))) b2 ∧ ReprAllK X.prog X.w b1 s.heap (PyData.depthAll (ds.map (·.1))) (es.map (·.key)) (PyData.shownAll (ds.map (·.1))) ∧ ReprAllK X.prog X.w b2 s.heap (PyData.depthAll (ds.map (·.2))) (es.map (·.val)) (PyData.shownAll (ds.map (·.2)))
  | _, _, .nil, _, _, p, r, _, _, _, _ => by cases r; cases p; exact ⟨[], (fun _ h => nomatch h), [], (fun _ h => nomatch h), by simp only [List.map_nil, PyData.shownAll]; exact .nil, by simp only [List.map_nil, PyData.shownAll]; exact .nil⟩
  | (k, _) :: _, (_, d) :: ds, .cons h1 h2, _, _, p, r, s1, s2, z1, z2 => by
    cases r with
    | cons r1 r2 =>
      cases p with
      | cons hk hv hr =>
        rename_i kv _ e _
        have e1 : k = kv.1 := r1.1
        simp only [List.map_cons, PyData.showableAll, Bool.and_eq_true] at s1 s2
        simp only [List.map_cons, PyData.shownAll] at z1 z2
        obtain ⟨b1, hb1, b2, hb2, k1, k2⟩ := fz_showKV I h2 hr r2 s1.2 s2.2 (fun t ht => z1 t (List.mem_cons_of_mem _ ht)) (fun t ht => z2 t (List.mem_cons_of_mem _ ht))
        obtain ⟨c2, hc2, kv2⟩ := fz_show I h1 e.val (by have z : RelV _ kv.2 := r1.2; rw [← hv] at z; exact z) s2.1 (z2 _ List.mem_cons_self)
        have kk := key_show (h := s.heap) (prog := X.prog) (w := X.w) (k := k) (u := e.key) (by rw [e1]; exact hk) s1.1 (z1 _ List.mem_cons_self)
        refine ⟨b1, hb1.mono ?_, c2 ++ b2, ?_, ?_, ?_⟩
        · simp only [List.map_cons, PyData.depthAll]; exact Nat.le_max_right _ _
        · intro b hm
          simp only [List.map_cons, PyData.depthAll]
          rcases List.mem_append.mp hm with hm | hm
          · obtain ⟨d', as', r', hd'⟩ := hc2 b hm
            exact ⟨d', as', r', Nat.le_trans hd' (Nat.le_max_left _ _)⟩
          · obtain ⟨d', as', r', hd'⟩ := hb2 b hm
            exact ⟨d', as', r', Nat.le_trans hd' (Nat.le_max_right _ _)⟩
        · simp only [List.map_cons, PyData.depthAll, PyData.shownAll]
          exact .cons ((kk.more fun b hb => nomatch hb).level_le (Nat.le_max_left _ _)) (k1.more_le (fun _ h => h) (Nat.le_max_right _ _))
        · simp only [List.map_cons, PyData.depthAll, PyData.shownAll]
          exact .cons ((kv2.more fun b hb => List.mem_append_left _ hb).level_le (Nat.le_max_left _ _)) (k2.more_le (fun b hb => List.mem_append_right _ hb) (Nat.le_max_right _ _))
end
theorem fz_shows {pins : List (Addr × Obj)} {σ : L2.St} {s : Shared} (I : Inv X pins σ H s) {a : Addr} {d : D} (h : Fz X.K H (.ref a) d) (hs : d.showable = true) (hsz : d.shown.length ≤ sizeLine) : ∃ T idr, ShowsBy X.prog X.w s.heap a d T idr := by
  cases h with
  | lst hl ha =>
    rename_i xs
    obtain ⟨its, rv, ⟨o, n, h1, h2, _, h3⟩, _⟩ := I.list hl
    have hz' : (listText (PyData.shownAll xs)).length ≤ sizeLine := by simpa only [PyData.shown] using hsz
    obtain ⟨bs, hb, hk⟩ := fz_showAll I ha its rv (by simpa [PyData.showable] using hs) (fun t ht => Nat.le_trans (listText_mem_le ht) hz')
    obtain ⟨as, h4⟩ := fz_readAll I ha its rv
    have hna := not_mem_of_deeper (.list h1 h2 h3 h4) (by simp only [PyData.depth]; omega) hb
    refine ⟨"list", "list.__repr__", F.slot_list_repr.toG, F.slot_list_str, F.slot_list_format, fun s hk0 => ⟨o, hk0 _ _ h1, h2⟩, fun A E s Q hg hu hk0 hQ => ?_⟩
    simp only [PyData.depth] at hu
    simp only [PyData.shown] at hQ
    cases its with
    | nil =>
      cases h4
      simp only [PyData.shownAll, listText_nil] at hQ
      exact call_list_repr_empty ⟨o, hk0 _ _ h1, h2⟩ (hk0 _ _ h1) h3 (hQ s.heap _ _ fun _ _ e => e)
    | cons x l =>
      exact call_list_reprK h1 h2 h3 hna (by simpa using hk.length_eq) (fun i y e => hk.item i y (by simpa using e)) hg (fun b _ => Clear.nil b) hu hk0 hQ hz'
  | tup hl ha =>
    rename_i xs
    obtain ⟨its, rv, ⟨o, h1, h2, n, h3⟩, _⟩ := I.tuple hl
    have hz' : (tupleText (PyData.shownAll xs)).length ≤ sizeLine := by simpa only [PyData.shown] using hsz
    obtain ⟨bs, hb, hk⟩ := fz_showAll I ha its rv (by simpa [PyData.showable] using hs) (fun t ht => Nat.le_trans (tupleText_mem_le ht) hz')
    obtain ⟨as, h4⟩ := fz_readAll I ha its rv
    have hna := not_mem_of_deeper (.tuple h1 h2 h3 h4) (by simp only [PyData.depth]; omega) hb
    refine ⟨"tuple", "tuple.__repr__", F.slot_tuple_repr, F.slot_tuple_str, F.slot_tuple_format, fun s hk0 => ⟨o, hk0 _ _ h1, h2⟩, fun A E s Q hg hu hk0 hQ => ?_⟩
    simp only [PyData.depth] at hu
    simp only [PyData.shown] at hQ
    exact call_tuple_reprK h1 h2 h3 hna hk hg (fun b _ => Clear.nil b) hu hk0 hQ hz'
  | dct hq ha =>
    rename_i kvs
    obtain ⟨z, lo, vs, rel, o, es, ep, h1, h2, h3, e4, e5, e6⟩ := dk_rd I.hok hq
    have hz' : (dictText (PyData.shownKv kvs)).length ≤ sizeLine := by simpa only [PyData.shown] using hsz
    obtain ⟨hs1, hs2⟩ := PyData.showableKv_split kvs (by simpa [PyData.showable] using hs)
    obtain ⟨b1, hb1, b2, hb2, k1, k2⟩ := fz_showKV I ha e5 rel hs1 hs2 (fun t ht => let ⟨p, hp, hl⟩ := PyData.shownKv_key_le kvs t ht; Nat.le_trans hl (Nat.le_trans (dictText_mem_le hp) hz')) (fun t ht => let ⟨p, hp, hl⟩ := PyData.shownKv_val_le kvs t ht; Nat.le_trans hl (Nat.le_trans (dictText_mem_le hp) hz'))
    obtain ⟨⟨as, q1⟩, bs, q2⟩ := fz_readKV I ha e5 rel
    have hb : ReadAtMost s.heap (PyData.depthKv kvs) (b1 ++ b2) := (hb1.mono (PyData.depthAll_keys_le kvs)).append (hb2.mono (PyData.depthAll_vals_le kvs))
    have hna := not_mem_of_deeper (.dict h1 h2.1 h3 q1 q2) (by simp only [PyData.depth]; omega) hb
    refine ⟨"dict", "dict.__repr__", F.slot_dict_repr, F.slot_dict_str, F.slot_dict_format, fun s hk0 => ⟨o, hk0 _ _ h1, h2.1⟩, fun A E s Q hg hu hk0 hQ => ?_⟩
    simp only [PyData.depth] at hu
    simp only [PyData.shown, PyData.shownKv_eq] at hQ
    exact call_dict_reprK h1 h2.1 h3 lo hna (ReprEntriesK.of_two es.toList _ _
      (k1.more_le (fun b hb => List.mem_append_left _ hb) (PyData.depthAll_keys_le kvs)) (k2.more_le (fun b hb => List.mem_append_right _ hb) (PyData.depthAll_vals_le kvs))) hg (fun b _ => Clear.nil b) hu hk0 hQ (by rw [← PyData.shownKv_eq]; exact hz')
theorem call_reprA (hg : X.A.guards = some []) (hu : X.A.units + 64 < cLine) : CallR X (.builtin "repr") (rRepr X.K) := by
  intro pins s σ H xs us Q I r h
  obtain ⟨x, d, rfl, hx, hok, q⟩ := h
  obtain ⟨u, rfl, ru⟩ := vals1 r
  have hok' := hok
  unfold reprOk at hok'
  simp only [Bool.and_eq_true, decide_eq_true_eq] at hok'
  obtain ⟨⟨⟨h1, h2⟩, h3⟩, h4⟩ := hok'
  have box : ∀ a, x = .ref a → reprD d = d.shown → wpAny (model X.prog X.w) X.A (call (.builtin "repr") [u]) (EP X pins σ Q) X.xe s := fun a ha hd => by
    subst ha
    cases ru
    obtain ⟨T, idr, S⟩ := fz_shows I hx h2 h4
    refine call_repr_slot (by omega) (S.typeIs s fun _ _ e => e) S.slotRepr (S.call X.A.in1 X.xe s _ hg (by show X.A.units + 1 + d.depth < cLine; omega) (fun _ _ e => e) fun h' t tk hk => ⟨_, _, rfl, ?_⟩)
    refine ⟨.str d.shown, H, I.kept hk, ⟨_, rfl⟩, ?_⟩
    rw [← hd]; exact q
  cases hx with
  | int i => exact SkE.call_repr_int pins s σ H [.int i] [u] Q I r ⟨i, rfl, of_decide_eq_true h1, q⟩
  | lst _ _ => exact box _ rfl rfl
  | tup _ _ => exact box _ rfl rfl
  | dct _ _ => exact box _ rfl rfl
  | non =>
    cases ru
    refine PySem.P.repr_of_none ⟨.str _, H, I.kept fun _ _ e => e, ⟨_, rfl⟩, ?_⟩
    have e : reprD .none = "None" := by unfold reprD; simp only [PyData.shown]
    rw [← e]; exact q
  | bl b =>
    cases ru
    refine PySem.P.repr_of_bool ⟨.str _, H, I.kept fun _ _ e => e, ⟨_, rfl⟩, ?_⟩
    have e : reprD (.bool b) = (if b = true then Str.ofString "True" else Str.ofString "False") := by unfold reprD; simp only [PyData.shown]
    rw [← e]; exact q
  | str x =>
    obtain ⟨t, rfl⟩ := ru
    refine PySem.P.repr_of_str ⟨.str _, H, I.kept fun _ _ e => e, ⟨_, rfl⟩, ?_⟩ (by simpa only [PyData.shown] using h4)
    have e : reprD (.str x) = reprText x := by unfold reprD; simp only [PyData.shown]
    rw [← e]; exact q
theorem cd_repr : CallD K (rRepr K) kRepr := fun F H xs ds res o Q s hv he q => by
  unfold kRepr at he
  split at he
  · rename_i d
    obtain ⟨x, rfl, h⟩ := hv.one
    by_cases hr : reprOk d = true
    · rw [if_pos hr] at he
      cases he
      exact ⟨x, d, rfl, h.mono s, hr, q _ H F Fp.no vd_str (Fresh.refl s) no_fresh⟩
    · rw [if_neg hr] at he; cases he
  · cases he
end
end Ev
namespace Ev
open PySem PySem.Spec PyProof.Rows L2
/-! ### sorted -/
/-- one kind of items, so that they can be sorted -/
def sortOk (ds : List D) : Bool := (ds.all fun a => ds.all fun b => PySem.W.alike a b) && ((ds.all fun a => match a with | .tuple (_ :: _) => true | _ => false) || ds.all fun a => match a with | .none => false | .tuple _ => false | _ => true) && (ds.all fun a => decide (a.depth ≤ 60) && !a.hasDict) && decide (ds.length ≤ sizeLine)
def sortDs (ds : List D) : List D := ds.mergeSort (PySem.W.dataLe false fun d => d)
def kSorted : List D → Option (D × Fg)
  | [.list ds] => if sortOk ds = true then some (.list (sortDs ds), .o 0) else none
  | _ => none
section
variable {K : PySem.W.Frag} {F H : Hp} {X : Cx}
def rSortedA (K : PySem.W.Frag) : List V → Hp → VK → Prop := fun vs H Q => ∃ (F : Hp) (a : Addr) (xs : List V) (ds : List D), vs = [.ref a] ∧ Same F H ∧ SqL K H a xs ∧ FzAll K F xs ds ∧ sortOk ds = true ∧ ∀ (p : Addr) (ys : List V), H p = none → FzAll K F ys (sortDs ds) → Q (.ref p) (upd H p (.lst ys))
/-- a value with the layer's own value for it -/
def Stand (K : PySem.W.Frag) (H : Hp) (u : Value) (d : D) : Prop := ∃ v, RelV v u ∧ Fz K H v d
theorem each_stand : ∀ {xs : List V} {ds : List D} {us : List Value}, FzAll K H xs ds → Vals xs us → PySem.W.EachIs (Stand K H) us ds
  | _, _, _, .nil, .nil => .nil
  | _, _, _, .cons h1 h2, .cons r1 r2 => .cons ⟨_, r1, h1⟩ (each_stand h2 r2)
theorem stand_each : ∀ {us : List Value} {ds : List D}, PySem.W.EachIs (Stand K H) us ds → ∃ xs, FzAll K H xs ds ∧ Vals xs us
  | _, _, .nil => ⟨[], .nil, .nil⟩
  | _, _, .cons ⟨v, r, h⟩ t => by
    obtain ⟨xs, q1, q2⟩ := stand_each t
    exact ⟨v :: xs, .cons h q1, .cons r q2⟩
theorem each_mono {α β : Type} {R S : α → β → Prop} : ∀ {as : List α} {bs : List β}, PySem.W.EachIs R as bs → (∀ a b, b ∈ bs → R a b → S a b) → PySem.W.EachIs S as bs
  | _, _, .nil, _ => .nil
  | _, _, .cons h t, f => .cons (f _ _ List.mem_cons_self h) (each_mono t fun a b hb => f a b (List.mem_cons_of_mem _ hb))
theorem cr_sortedA (hu : X.A.units + 64 < cLine) : CallR X (.builtin "sorted") (rSortedA X.K) := by
  intro pins s σ H vs us Q I r h
  obtain ⟨F, a, xs, ds, rfl, sub, hs, ha, hok, q⟩ := h
  obtain ⟨its, rv, hl, hz⟩ := I.list hs
  rw [Vals.ref1 r]
  unfold sortOk at hok
  simp only [Bool.and_eq_true, Bool.or_eq_true, List.all_eq_true, decide_eq_true_eq] at hok
  obtain ⟨⟨⟨h1, h2⟩, h3⟩, h4⟩ := hok
  have e := each_stand ha rv
  have er : PySem.W.EachIs (fun v b => ∃ as, Reads s.heap v b as) its ds := each_mono e fun u d hd ⟨v, r1, hv⟩ => Dp.reads I d v u (Fz.dp (by have := (h3 d hd).2; simpa using this) (hv.mono sub)) r1
  have hal : PySem.W.AllAlike (ds.map fun d => d) := by rw [List.map_id']; exact fun d hd d' hd' => h1 d hd d' hd'
  have hk : PySem.W.Sortable (ds.map fun d => d) := by
    rw [List.map_id']
    rcases h2 with h2 | h2
    · refine .inl fun d hd => ?_
      have := h2 d hd
      split at this
      · exact ⟨_, _, rfl⟩
      · cases this
    · refine .inr fun d hd => ?_
      have := h2 d hd
      split at this
      · cases this
      · cases this
      · rename_i n1 n2; exact ⟨n1, n2⟩
  refine PySem.W.sorted_data (R := Stand X.K F) (enc := fun d => d) (bs := ds) hl.isList e er hal hk h4 (fun b hb => by have := (h3 b hb).1; omega) fun out hlen hout => ?_
  obtain ⟨ys, q1, q2⟩ := stand_each hout
  obtain ⟨ep, he'⟩ := PyProof.Rows.sortedAll_at s.heap its out.toArray
  have hly : ys.length ≤ sizeLine := by rw [q2.length, hlen]; exact h4
  refine ⟨.ref _, upd H (s.heap.objs.size + 1) (.lst ys), I.laid (t' := s.toks) (fun _ _ => PyProof.Rows.sortedAll_old) (Nat.le_succ _) ⟨hly, out, ep, q2, he'⟩, rfl, q _ ys (I.hok.fresh (Nat.le_succ _)) q1⟩
theorem cd_sorted : CallD K (rSortedA K) kSorted := fun F H xs ds res o Q s hv he q => by
  unfold kSorted at he
  split at he
  · rename_i es
    obtain ⟨x, rfl, h⟩ := hv.one
    by_cases hr : sortOk es = true
    · rw [if_pos hr] at he
      cases he
      cases h with
      | lst hs ha =>
        exact ⟨F, _, _, es, rfl, s, sqL_mono s hs, ha, hr, fun p ys hp hy => q _ _ F _ (vd_new hp hy) (fresh_new s hp) (new_R s hp)⟩
    · rw [if_neg hr] at he; cases he
  · cases he
end
end Ev
namespace Ev
open PySem PySem.Spec PyProof.Rows L2
section
variable {K : PySem.W.Frag} {F H : Hp} {X : Cx} {e o : Expr} {es : List Expr} {f g : Ex} {pos p apos cpos : Pos}
/-! ### methods of known texts and lists by value -/
def MetD (K : PySem.W.Frag) (r : V → List V → Hp → VK → Prop) (op : D → List D → Option (D × Fg)) : Prop := ∀ (F H : Hp) (x : V) (d : D) (ys : List V) (as : List D) (res : D) (o : Fg) (Q : VK), Same F H → Fz K F x d → FzAll K F ys as → op d as = some (res, o) →
  (∀ (v : V) (H' F' : Hp) (R : Fp), VD K F' H' v res o R → Fresh F H F' H' → (∀ a, R a → H a = none ∧ F' a = none) → Q v H') → r x ys H Q
def isKind (T : String) (d : D) : Bool := match d with
  | .str _ => T == "str"
  | .int _ => T == "int"
  | .list _ => T == "list"
  | _ => false
def xMet (T : String) (op : D → List D → Option (D × Fg)) (f : Ex) (g : Ax) : Ex := fun e => bnd (f e) fun d e1 => if isKind T d = true then (match g e1 with
  | some (as, e2) => (match op d as with
    | some (r, o) => some (r, o, e2)
    | none => none)
  | none => none) else none
theorem kind_ty {T : String} {v : V} {d : D} (s : Same F H) (h : Fz K F v d) (hk : isKind T d = true) : tyV K T v H := by
  cases h with
  | str x => exact (beq_iff_eq.mp hk)
  | int i => exact (beq_iff_eq.mp hk)
  | lst hs ha => exact .inl ⟨beq_iff_eq.mp hk, _, sqL_mono s hs⟩
  | non => cases hk
  | bl b => cases hk
  | tup _ _ => cases hk
  | dct _ _ => cases hk
theorem met_imp {T : String} {r : V → List V → Hp → VK → Prop} {op : D → List D → Option (D × Fg)} (hr : MetD K r op) {g : Ax} : ∀ σ H Q, cE K (xMet T op f g) σ H Q → tBM K T r (cE K (xFz f)) (cA K g) σ H Q := fun σ H Q => by
  rintro ⟨F, en, A, d, o, e', E0, hx, post⟩
  obtain ⟨d1, o1, e1, h1, hx⟩ := bnd_eq hx
  by_cases hk : isKind T d1 = true
  · rw [if_pos hk] at hx
    split at hx
    · rename_i as e2 hg
      split at hx
      · rename_i r0 o0 hop
        cases hx
        refine E.fz_run E0 h1 fun v H1 F1 A1 E1 hv st1 => ⟨kind_ty E1.sub hv hk, F1, e1, A1, as, e', E1, hg, fun vs H2 F2 A2 E2 hvs st2 => ?_⟩
        refine hr F2 H2 v d1 vs as d o Q E2.sub (hv.mono st2.ff) hvs hop fun w H3 F3 R hw fr hR => ?_
        obtain ⟨q1, q2, q3, q4⟩ := fz_out E2 fr hR
        exact post w H3 F3 A2 R q1 hw q2 q3 ((st1.trans st2).trans q4)
      · cases hx
    · cases hx
  · rw [if_neg hk] at hx; cases hx
theorem E.met {T : String} {name : Str} {id : String} {r : V → List V → Hp → VK → Prop} {op : D → List D → Option (D × Fg)} {g : Ax} (pa : PlainAttrs T) (slot : Slot T name id) (hty : typeOf (.builtin id) = pure (.type "method_descriptor")) (hm : MtR X id r) (hr : MetD X.K r op) (ho : E X o f) (ha : As X (e :: es) g)
    (hbase : attributeBase o name X.env (eval o X.env) = eval o X.env := by rfl)
    (hfew : ((backTo cpos (starEach (e :: es) X.env)).all (fun x => !x.1) && (backToKw cpos (keywordEach [] X.env)).all (fun x => x.1.isSome)
      && decide ((e :: es).length + ([] : List Keyword).length + (if ([] : List Keyword).isEmpty then 0 else 1) < 30)) = true := by rfl)
    (hline : (apos.endLine == cpos.line) = true := by rfl) (hs : starEach (e :: es) X.env = (false, eval e X.env) :: starEach es X.env := by rfl) (hplain : (backTo cpos (starEach es X.env)).any (·.1) = false := by rfl) :
    E X (.Call (.Attribute o name apos) (e :: es) [] cpos) (xMet T op f g) := pe_imp (pe_bm pa slot hty hm ho.fz ha hbase hfew hline hs hplain) (met_imp hr)
/-- sep.join(texts) -/
def tJoin (a : D) (as : List D) : Option (D × Fg) := match a, as with
  | .str z, [.list ds] => match strsD ds with
    | some ys => if (ys.map (·.length)).sum + ys.length * z.length ≤ 16777216 then some (.str (Txt.join z ys), .f) else none
    | none => none
  | _, _ => none
def rJoin (K : PySem.W.Frag) : V → List V → Hp → VK → Prop := fun x xs H Q => ∃ a p, ∃ ys : List Str, x = .str a ∧ xs = [.ref p] ∧ (SqL K H p (ys.map V.str) ∨ SqT K H p (ys.map V.str)) ∧
    (ys.map (·.length)).sum + ys.length * a.length ≤ 16777216 ∧ Q (.str (Txt.join a ys)) H
theorem mt_joinA : MtR X "str.join" (rJoin X.K) := mt_join
theorem me_join : MetD K (rJoin K) tJoin := fun F H x d ys as res o Q s hx hv hop q => by
  unfold tJoin at hop
  split at hop
  · rename_i z ds
    obtain ⟨y, rfl, h⟩ := hv.one
    cases hx
    split at hop
    · rename_i ts hts
      by_cases hz : (ts.map (·.length)).sum + ts.length * z.length ≤ 16777216
      · rw [if_pos hz] at hop
        cases hop
        cases h with
        | lst hs ha => exact ⟨z, _, ts, rfl, rfl, .inl (by rw [← strs_fz ha hts]; exact sqL_mono s hs), hz, q _ H F Fp.no vd_str (Fresh.refl s) no_fresh⟩
      · rw [if_neg hz] at hop; cases hop
    · cases hop
  · cases hop

/-! ### list(text) -/
def kListS : List D → Option (D × Fg)
  | [.str z] => if z.cps.size ≤ sizeLine then some (.list (strD z), .o 0) else none
  | _ => none
def rListS (_ : PySem.W.Frag) : List V → Hp → VK → Prop := fun xs H Q => ∃ z, xs = [.str z] ∧ z.cps.size ≤ sizeLine ∧ ∀ p, H p = none → Q (.ref p) (upd H p (.lst (z.cps.toList.map fun c => .str ⟨#[c]⟩)))
theorem vals_ext : ∀ {xs : List V} {us : List Value}, xs.length = us.length → (∀ (j : Nat) (u : Value), us[j]? = some u → ∃ x, xs[j]? = some x ∧ RelV x u) → Vals xs us
  | [], [], _, _ => .nil
  | [], _ :: _, h, _ => by cases h
  | _ :: _, [], h, _ => by cases h
  | x :: xs, u :: us, h, k => by
    obtain ⟨y, q1, q2⟩ := k 0 u rfl
    cases q1
    exact .cons q2 (vals_ext (Nat.succ.inj h) fun j v e => by
      obtain ⟨y, q1, q2⟩ := k (j + 1) v (by rw [List.getElem?_cons_succ]; exact e)
      exact ⟨y, by rw [List.getElem?_cons_succ] at q1; exact q1, q2⟩)
theorem signs_vals {z : Str} {acc : Array Value} (h : ItemsOf (SignAt z) acc z.cps.size) : Vals (z.cps.toList.map fun c => V.str ⟨#[c]⟩) acc.toList := by
  refine vals_ext (by rw [List.length_map, Array.length_toList, Array.length_toList, h.1]) fun j u e => ?_
  obtain ⟨c, t, q1, q2⟩ := h.2 j u (by rw [← Array.getElem?_toList]; exact e)
  refine ⟨.str ⟨#[c]⟩, ?_, t, q2⟩
  rw [List.getElem?_map, Array.getElem?_toList, q1]; rfl
theorem call_listS (hc : X.calm = true) : CallR X (.type "list") (rListS X.K) := by
  intro pins s σ H xs us Q I r h
  obtain ⟨z, rfl, hz, q⟩ := h
  obtain ⟨u, rfl, ru⟩ := vals1 r
  obtain ⟨t, rfl⟩ := ru
  refine call_list_str (I.ok.hd hc) z t (fun h' tk acc c' hk hD hacc => ?_) hz
  refine ⟨.ref _, _, I.laid (t' := tk) (o := .lst (z.cps.toList.map fun c => V.str ⟨#[c]⟩)) hk (Nat.le_refl _) ⟨?_, acc.toList, c', signs_vals hacc, by rw [Array.toArray_toList]; exact hD⟩, rfl, q _ (I.hok.fresh (Nat.le_refl _))⟩
  rw [List.length_map, Array.length_toList]; exact hz
theorem strs_known : ∀ cs : List Nat, FzAll K F (cs.map fun c => V.str ⟨#[c]⟩) (cs.map fun c => PyData.str ⟨#[c]⟩)
  | [] => .nil
  | c :: cs => .cons (.str _) (strs_known cs)
theorem cd_listS : CallD K (rListS K) kListS := fun F H xs ds res o Q s hv he q => by
  unfold kListS at he
  split at he
  · rename_i z
    obtain ⟨x, rfl, h⟩ := hv.one
    cases h
    by_cases hz : z.cps.size ≤ sizeLine
    · rw [if_pos hz] at he
      cases he
      exact ⟨z, rfl, hz, fun p hp => q _ _ F _ (vd_new hp (strs_known _)) (fresh_new s hp) (new_R s hp)⟩
    · rw [if_neg hz] at he; cases he
  · cases he

/-! ### list(d.values()), list(d.items()) -/
def kVals (view : List (D × D) → List D) : D → Option (D × Fg)
  | .dict ds => some (.list (view ds), .o 0)
  | _ => none
theorem kv_back : ∀ {kvs : List (Key × V)} {vs : List (Key × Value)} {j : Nat} {k : Key} {u : Value}, KV kvs vs → vs[j]? = some (k, u) → ∃ pk, kvs[j]? = some pk ∧ pk.1 = k ∧ RelV pk.2 u
  | _, _, _, _, _, .nil, h => by cases h
  | _, _, 0, _, _, .cons r t, h => by cases h; exact ⟨_, rfl, r.1, r.2⟩
  | _, _, j + 1, k, u, .cons r t, h => by
    obtain ⟨pk, q1, q2⟩ := kv_back (j := j) (k := k) (u := u) t (by rw [List.getElem?_cons_succ] at h; exact h)
    exact ⟨pk, by rw [List.getElem?_cons_succ]; exact q1, q2⟩
def rValsL : V → Hp → VK → Prop := fun x H Q => ∃ (d : Addr) (kvs : List (Key × V)), x = .ref d ∧ Rd H d (.dK kvs) ∧ ∀ p, H p = none → Q (.ref p) (upd H p (.lst (kvs.map (·.2))))
theorem pe_listVals {te : TE} (hc : X.calm = true) (he : PE X e te) (hg : Gl X "list") (hm : X.mg "list" = none) (hv : bootBuiltins "list" = some (.type "list")) (hbase : attributeBase e "values" X.env (eval e X.env) = eval e X.env := by rfl) (hline : (apos.endLine == cpos.line) = true := by rfl)
    (hs : starEach [.Call (.Attribute e "values" apos) [] [] cpos] X.env = (false, eval (.Call (.Attribute e "values" apos) [] [] cpos) X.env) :: starEach [] X.env := by rfl) :
    PE X (.Call (.Name "list" p) [.Call (.Attribute e "values" apos) [] [] cpos] [] pos) (fun σ H Q => te σ H fun x H1 => rValsL x H1 Q) := by
  refine ⟨fun pins s σ H Q I hq => wpAny_Call_Name_kw (ld_blt I hg hm hv (PyProof.Rows.callWith_type1 ?_ hs rfl))⟩
  rw [hs]
  show wpAny _ _ (spliced ((false, eval (.Call (.Attribute e "values" apos) [] [] cpos) X.env) :: backTo pos (starEach [] X.env))) _ _ s
  refine Calls.spliced_cons (wpAny_Call_method (T := "dict") (id := "dict.values") hbase rfl hline PySem.F.plainAttrs_dict PySem.F.slot_dict_values PySem.F.type_dict_values (thn (he.run pins s σ H _ I hq) fun u s1 ⟨x, H1, I1, rx, d, kvs, ex, hd, q⟩ => ?_))
  subst ex
  cases rx
  obtain ⟨hz, hs0, vs, kv, hdo⟩ := dk_rd I1.hok hd
  obtain ⟨ep, hat⟩ := hdo.dictAt
  have lk : kvs.length = vs.length := Paired.length kv
  have I2 : L2.Inv X pins σ H1 { s1 with heap := s1.heap.push { cls := .type "dict_values", data := .fields #[.ref d] } } := I1.kept (t' := s1.toks) fun b ob q => Heap.get?_push_of_some _ q
  refine ⟨hdo.typeIs, hdo.mapOf.noDict, ?_⟩
  show wpAny _ _ (callWith cpos (.builtin "dict.values") [.ref d] [] []) _ X.xe s1
  refine method_meetsIn PySem.F.slot_dict_values PySem.F.entry_dict_values rfl (PySem.evalArgs_none ⟨rfl, hdo.typeIs, PySem.F.args_dict_values_1 _, _, meets_dict_values (mixKind X.prog X.w) d hs0, ⟨vs, hdo⟩, Calls.spliced_nil ?_⟩)
  refine PySem.W.kdl_call (PySem.W.kdl_values (knd := mixKind X.prog X.w) (kvs := vs) (ep := ep)) (I1.ok.hd hc) ⟨⟨_, Heap.get?_push_size _ rfl, rfl, rfl⟩, hat.push _⟩ (by rw [← lk]; exact hz) fun h' tk acc c' hk hD hacc => ?_
  have hvals : Vals (kvs.map (·.2)) acc.toList := by
    refine vals_ext (by have := hacc.1; rw [List.length_map]; show _ = acc.size; omega) fun j u ej => ?_
    obtain ⟨k, q1⟩ := hacc.2 j u (by rw [← Array.getElem?_toList]; exact ej)
    obtain ⟨pk, g1, g2, g3⟩ := kv_back kv q1
    exact ⟨pk.2, by rw [List.getElem?_map, g1]; rfl, g3⟩
  exact ⟨.ref _, _, I2.laid (t' := tk) (o := .lst (kvs.map (·.2))) hk (Nat.le_refl _) ⟨by rw [List.length_map]; exact hz, acc.toList, c', hvals, by rw [Array.toArray_toList]; exact hD⟩, rfl, q _ (I2.hok.fresh (Nat.le_refl _))⟩
theorem fzKV_vals : ∀ {kvs : List (Key × V)} {ds : List (D × D)}, FzKV K F kvs ds → FzAll K F (kvs.map (·.2)) (ds.map (·.2))
  | _, _, .nil => .nil
  | _, _, .cons h a => .cons h (fzKV_vals a)
theorem E.listVals (hc : X.calm = true) (he : E X e f) (hg : Gl X "list") (hm : X.mg "list" = none) (hbase : attributeBase e "values" X.env (eval e X.env) = eval e X.env := by rfl) (hline : (apos.endLine == cpos.line) = true := by rfl)
    (hs : starEach [.Call (.Attribute e "values" apos) [] [] cpos] X.env = (false, eval (.Call (.Attribute e "values" apos) [] [] cpos) X.env) :: starEach [] X.env := by rfl) :
    E X (.Call (.Name "list" p) [.Call (.Attribute e "values" apos) [] [] cpos] [] pos) (xUn (kVals vVals) f) := pe_imp (pe_listVals hc he.fz hg hm (by decide +kernel) hbase hline hs) fun σ H Q => by
  rintro ⟨F, en, A, d, o, e', E0, hx, post⟩
  obtain ⟨d1, o1, e1, h1, hx⟩ := bnd_eq hx
  unfold ap1 kVals at hx
  split at hx
  · rename_i hq
    split at hq
    · rename_i ds
      cases hq
      cases hx
      refine E.fz_run E0 h1 fun v H1 F1 A1 E1 hv st => ?_
      cases hv with
      | dct hr ha =>
        refine ⟨_, _, rfl, rd_mono E1.sub hr, fun p hp => ?_⟩
        obtain ⟨q1, q2, q3, q4⟩ := fz_out E1 (fresh_new (u := .lst _) E1.sub hp) (new_R E1.sub hp)
        exact post _ _ F1 A1 _ q1 (vd_new hp (fzKV_vals ha)) q2 q3 (st.trans q4)
    · cases hq
  · cases hx
/-- list(d.items()), wherever d stands -/
theorem pe_listItemsR {te : TE} (hc : X.calm = true) (he : PE X e te) (hg : Gl X "list") (hm : X.mg "list" = none) (hv : bootBuiltins "list" = some (.type "list")) (hbase : attributeBase e "items" X.env (eval e X.env) = eval e X.env := by rfl) (hline : (apos.endLine == cpos.line) = true := by rfl)
    (hs : starEach [.Call (.Attribute e "items" apos) [] [] cpos] X.env = (false, eval (.Call (.Attribute e "items" apos) [] [] cpos) X.env) :: starEach [] X.env := by rfl) :
    PE X (.Call (.Name "list" p) [.Call (.Attribute e "items" apos) [] [] cpos] [] pos) (fun σ H Q => te σ H fun x H1 => ∃ (d : Addr) (kvs : List (Key × V)), x = .ref d ∧ Rd H1 d (.dK kvs) ∧
      ∀ (H' : Hp) (q : Addr) (ts : List Addr), Same H1 H' → H1 q = none → (∀ t ∈ ts, H1 t = none) → q ∉ ts → H' q = some (.lst (ts.map V.ref)) → Paired (fun (t : Addr) (r : Key × V) => H' t = some (.tup [kV r.1, r.2])) ts kvs → Q (.ref q) H') := by
  refine ⟨fun pins s σ H Q I hq => wpAny_Call_Name_kw (ld_blt I hg hm hv (PyProof.Rows.callWith_type1 ?_ hs rfl))⟩
  rw [hs]
  show wpAny _ _ (spliced ((false, eval (.Call (.Attribute e "items" apos) [] [] cpos) X.env) :: backTo pos (starEach [] X.env))) _ _ s
  refine Calls.spliced_cons (wpAny_Call_method (T := "dict") (id := "dict.items") hbase rfl hline PySem.F.plainAttrs_dict PySem.F.slot_dict_items PySem.F.type_dict_items (thn (he.run pins s σ H _ I hq) fun u s1 ⟨x, H1, I1, rx, d, kvs, ex, hd, q⟩ => ?_))
  subst ex
  cases rx
  obtain ⟨hz, hs0, vs, kv, hdo⟩ := dk_rd I1.hok hd
  obtain ⟨ep, hat⟩ := hdo.dictAt
  have lk : kvs.length = vs.length := Paired.length kv
  have I2 : L2.Inv X pins σ H1 { s1 with heap := s1.heap.push { cls := .type "dict_items", data := .fields #[.ref d] } } := I1.kept (t' := s1.toks) fun b ob q => Heap.get?_push_of_some _ q
  refine ⟨hdo.typeIs, hdo.mapOf.noDict, ?_⟩
  show wpAny _ _ (callWith cpos (.builtin "dict.items") [.ref d] [] []) _ X.xe s1
  refine method_meetsIn PySem.F.slot_dict_items PySem.F.entry_dict_items rfl (PySem.evalArgs_none ⟨rfl, hdo.typeIs, PySem.F.args_dict_items_1 _, _, meets_dict_items (mixKind X.prog X.w) d hs0, ⟨vs, hdo⟩, Calls.spliced_nil ?_⟩)
  refine PySem.W.kdx_call (knd := mixKind X.prog X.w) (kvs := vs) (ep := ep) (I1.ok.hd hc) ⟨_, Heap.get?_push_size _ rfl, rfl, rfl⟩ (hat.push _) (by omega) fun h' tk acc c as hk hS hl hG hacc => ?_
  obtain ⟨H', k1, k2, k3, k4, k5, k6, J⟩ := LiI.items_laid (tk := tk) I2 hz kv hk hS hl hG hacc
  exact ⟨.ref _, H', J, rfl, q H' _ as k1 k2 k3 k4 k5 k6⟩
theorem fz_pairs {K : PySem.W.Frag} {G : Hp} : ∀ {ts : List Addr} {kvs : List (Key × V)} {ds : List (D × D)}, Paired (fun (t : Addr) (r : Key × V) => G t = some (.tup [kV r.1, r.2])) ts kvs → FzKV K G kvs ds → FzAll K G (ts.map V.ref) (vItems ds) := by
  intro ts kvs ds h
  induction h generalizing ds with
  | nil => intro a; cases a; exact .nil
  | cons r t ih =>
    intro a
    cases a with
    | cons h a => exact .cons (.tup (SqT.of r) (.cons (fz_key _) (.cons h .nil))) (ih a)
/-- new tuples of known things are known -/
noncomputable def addT (F H' : Hp) (ts : List Addr) : Hp := fun a => open Classical in if a ∈ ts then H' a else F a
theorem E.listItems (hc : X.calm = true) (he : E X e f) (hg : Gl X "list") (hm : X.mg "list" = none) (hbase : attributeBase e "items" X.env (eval e X.env) = eval e X.env := by rfl) (hline : (apos.endLine == cpos.line) = true := by rfl)
    (hs : starEach [.Call (.Attribute e "items" apos) [] [] cpos] X.env = (false, eval (.Call (.Attribute e "items" apos) [] [] cpos) X.env) :: starEach [] X.env := by rfl) :
    E X (.Call (.Name "list" p) [.Call (.Attribute e "items" apos) [] [] cpos] [] pos) (xUn (kVals vItems) f) := pe_imp (pe_listItemsR hc he.fz hg hm (by decide +kernel) hbase hline hs) fun σ H Q => by
  rintro ⟨F, en, A, d, o, e', E0, hx, post⟩
  obtain ⟨d1, o1, e1, h1, hx⟩ := bnd_eq hx
  unfold ap1 kVals at hx
  split at hx
  · rename_i hq
    split at hq
    · rename_i ds
      cases hq
      cases hx
      refine E.fz_run E0 h1 fun v H1 F1 A1 E1 hv st => ?_
      cases hv with
      | @dct _ kvs _ hr ha =>
        refine ⟨_, kvs, rfl, rd_mono E1.sub hr, fun H2 q ts hsame hqn hts hq2 hp hpp => ?_⟩
        have e0 : ∀ a, a ∉ ts → addT F1 H2 ts a = F1 a := fun a h => if_neg h
        have e2 : ∀ a, a ∈ ts → addT F1 H2 ts a = H2 a := fun a h => if_pos h
        have tsF : ∀ t ∈ ts, F1 t = none := fun t ht => E1.sub.free (hts t ht)
        have ff : Same F1 (addT F1 H2 ts) := fun a u z => by
          rw [e0 a (fun y => by rw [tsF a y] at z; cases z)]; exact z
        have fr : Fresh F1 H1 (addT F1 H2 ts) H2 := ⟨ff, hsame, fun a u z => by
          by_cases ht : a ∈ ts
          · rw [e2 a ht] at z; exact z
          · rw [e0 a ht] at z; exact hsame a u (E1.sub a u z), fun a z => by
          by_cases ht : a ∈ ts
          · exact .inr (hts a ht)
          · rw [e0 a ht] at z; exact .inl z⟩
        have items : FzAll X.K (addT F1 H2 ts) (ts.map V.ref) (vItems ds) := by
          have hp' : Paired (fun (t : Addr) (r : Key × V) => addT F1 H2 ts t = some (.tup [kV r.1, r.2])) ts kvs := by
            have : ∀ {us : List Addr} {ks : List (Key × V)}, (∀ t ∈ us, t ∈ ts) → Paired (fun (t : Addr) (r : Key × V) => H2 t = some (.tup [kV r.1, r.2])) us ks → Paired (fun (t : Addr) (r : Key × V) => addT F1 H2 ts t = some (.tup [kV r.1, r.2])) us ks := by
              intro us ks hsub hpp
              induction hpp with
              | nil => exact .nil
              | cons r t ih => exact .cons (by rw [e2 _ (hsub _ List.mem_cons_self)]; exact r) (ih fun t ht => hsub t (List.mem_cons_of_mem _ ht))
            exact this (fun _ h => h) hpp
          exact fz_pairs hp' (ha.mono ff)
        have qF : F1 q = none := E1.sub.free hqn
        refine post (.ref q) H2 _ A1 (fun a => a = q) (E1.fresh fr) ?_ ?_ ?_ ?_
        · exact (Ow.lst hp (OwAll.of_fz items) (fun z => z)).cast fun a => ⟨fun z => z.elim id (fun y => y.elim), .inl⟩
        · intro a ha
          subst ha
          rw [e0 _ hq2]; exact qF
        · intro a ha z
          subst ha
          exact E1.tr _ z hqn
        · exact st.trans (fr.step (R := fun a => a = q) fun a ha => by subst ha; exact hqn)
    · cases hq
  · cases hx
end
end Ev
namespace Ev
open PySem PySem.Spec PyProof.Rows L2
section
variable {X : Cx} {e o : Expr} {tg : Expr} {f f1 f2 g : Ex} {pos : Pos}
/-! ### one mirror for two rules -/
theorem E.alt (h1 : E X e f1) (h2 : E X e f2) (h : ∀ en r, f en = some r → f1 en = some r ∨ f2 en = some r) : E X e f := pe_imp (PE.or' h1 h2) fun σ H Q => by
  rintro ⟨F, en, A, d, o, e', E0, hx, post⟩
  rcases h _ _ hx with q | q
  · exact .inl ⟨F, en, A, d, o, e', E0, q, post⟩
  · exact .inr ⟨F, en, A, d, o, e', E0, q, post⟩
theorem T.alt {c c1 c2 : Tx} (h1 : T X e c1) (h2 : T X e c2) (h : ∀ en r, c en = some r → c1 en = some r ∨ c2 en = some r) : T X e c :=
  ⟨fun pins s σ H Q I => by
    rintro ⟨F, en, A, d, e', E0, hx, post⟩
    rcases h _ _ hx with q | q
    · exact h1.run pins s σ H Q I ⟨F, en, A, d, e', E0, q, post⟩
    · exact h2.run pins s σ H Q I ⟨F, en, A, d, e', E0, q, post⟩⟩
theorem I.alt {c c1 c2 : Ix} (h1 : I X tg e c1) (h2 : I X tg e c2) (h : ∀ en r, c en = some r → c1 en = some r ∨ c2 en = some r) : I X tg e c :=
  ⟨fun pins s σ H Q I => by
    rintro ⟨F, en, A, d, e', E0, hx, post⟩
    rcases h _ _ hx with q | q
    · exact h1.run pins s σ H Q I ⟨F, en, A, d, e', E0, q, post⟩
    · exact h2.run pins s σ H Q I ⟨F, en, A, d, e', E0, q, post⟩⟩
theorem S.alt {ms : List Nat} {st : Stmt} {c c1 c2 : Sx} (h1 : S X ms st c1) (h2 : S X ms st c2) (h : ∀ en r, c en = some r → c1 en = some r ∨ c2 en = some r) : S X ms st c :=
  ⟨fun pins s σ H D I => by
    rintro ⟨F, en, A, d, e', E0, hx, post⟩
    rcases h _ _ hx with q | q
    · exact h1.run pins s σ H D I ⟨F, en, A, d, e', E0, q, post⟩
    · exact h2.run pins s σ H D I ⟨F, en, A, d, e', E0, q, post⟩⟩
theorem op_alt {op op1 op2 : D → D → Option (D × Fg)} (h : ∀ a b r, op a b = some r → op1 a b = some r ∨ op2 a b = some r) : ∀ en r, xOp op f g en = some r → xOp op1 f g en = some r ∨ xOp op2 f g en = some r := fun en r hx => by
  obtain ⟨d1, o1, e1, h1, hx⟩ := bnd_eq hx
  obtain ⟨d2, o2, e2, h2, hx⟩ := bnd_eq hx
  simp only [xOp, h1, h2, bnd_some]
  unfold ap2 at hx ⊢
  split at hx
  · rename_i r o hq
    rcases h _ _ _ hq with q | q
    · exact .inl (by rw [q]; exact hx)
    · exact .inr (by rw [q]; exact hx)
  · cases hx
theorem tv_alt {f f1 f2 : Ex} (h : ∀ en r, f en = some r → f1 en = some r ∨ f2 en = some r) : ∀ en r, tVal f en = some r → tVal f1 en = some r ∨ tVal f2 en = some r := fun en r hx => by
  obtain ⟨d1, o1, e1, h1, hx⟩ := bnd_eq hx
  unfold tVal
  rcases h _ _ h1 with q | q
  · exact .inl (by rw [q]; exact hx)
  · exact .inr (by rw [q]; exact hx)
theorem call_alt {op op1 op2 : List D → Option (D × Fg)} {g : Ax} (h : ∀ a r, op a = some r → op1 a = some r ∨ op2 a = some r) : ∀ en r, xCall op g en = some r → xCall op1 g en = some r ∨ xCall op2 g en = some r := fun en r hx => by
  unfold xCall at hx ⊢
  split at hx
  · rename_i ds e1 h1
    unfold apN at hx ⊢
    split at hx
    · rename_i r o hq
      rcases h _ _ hq with q | q
      · exact .inl (by rw [q]; exact hx)
      · exact .inr (by rw [q]; exact hx)
    · cases hx
  · cases hx
/-! ### a[b] -/
def dIxA (a b : D) : Option (D × Fg) := match a with
  | .dict _ => dGet a b
  | _ => dIx a b
theorem E.ixA {a b : Expr} (hu : X.A.units + 1 < cLine) (ha : E X a f) (hb : E X b g) (hs : PlainIx b := by exact fun _ _ => rfl) (hs2 : NoSl b := by exact fun _ _ => rfl) : E X (.Subscript a b pos) (xOp dIxA f g) :=
  E.alt (E.ix ha hb hs) (E.dget hu ha hb hs2) (op_alt fun a b r h => by
    unfold dIxA at h
    split at h
    · exact .inr h
    · exact .inl h)
/-! ### a in b -/
def dInA (a b : D) : Option (D × Fg) := match b with
  | .dict _ => dHas a b
  | .str _ => dInS a b
  | _ => dInL a b
def dNotInA (a b : D) : Option (D × Fg) := match b with
  | .dict _ => dHasNot a b
  | .str _ => dNotInS a b
  | _ => dNotInL a b
theorem inA_h : ∀ (a b : D) (r : D × Fg), dInA a b = some r → (dHas a b = some r) ∨ (match b with | .str _ => dInS a b | _ => dInL a b) = some r := fun a b r h => by
  unfold dInA at h
  split at h
  · exact .inl h
  · exact .inr h
  · rename_i h1 h2
    right
    split
    · rename_i z
      exact absurd rfl (h2 z)
    · exact h
theorem inA_h2 : ∀ (a b : D) (r : D × Fg), (match b with | .str _ => dInS a b | _ => dInL a b) = some r → dInS a b = some r ∨ dInL a b = some r := fun a b r h => by
  split at h
  · exact .inl h
  · exact .inr h
theorem ninA_h : ∀ (a b : D) (r : D × Fg), dNotInA a b = some r → (dHasNot a b = some r) ∨ (match b with | .str _ => dNotInS a b | _ => dNotInL a b) = some r := fun a b r h => by
  unfold dNotInA at h
  split at h
  · exact .inl h
  · exact .inr h
  · rename_i h1 h2
    right
    split
    · rename_i z
      exact absurd rfl (h2 z)
    · exact h
theorem ninA_h2 : ∀ (a b : D) (r : D × Fg), (match b with | .str _ => dNotInS a b | _ => dNotInL a b) = some r → dNotInS a b = some r ∨ dNotInL a b = some r := fun a b r h => by
  split at h
  · exact .inl h
  · exact .inr h
theorem E.inA {a b : Expr} (hu : X.A.units + 65 < cLine) (ha : E X a g) (hb : E X b f) (hm : behindInMarks .In b = false := by rfl) : E X (.Compare a [.In] [b] pos) (xOp dInA g f) :=
  E.alt (E.din (Nat.lt_of_le_of_lt (Nat.add_le_add_left (by decide) _) hu) ha hb hm) (E.alt (E.cmp op_inS1 od_inS ha hb hm) (E.cmp (op_inD hu) od_inL ha hb hm) (op_alt inA_h2)) (op_alt inA_h)
theorem T.inA {a b : Expr} (hu : X.A.units + 65 < cLine) (ha : E X a g) (hb : E X b f) (hm : behindInMarks .In b = false := by rfl) : T X (.Compare a [.In] [b] pos) (tVal (xOp dInA g f)) :=
  T.alt (T.din (Nat.lt_of_le_of_lt (Nat.add_le_add_left (by decide) _) hu) ha hb hm) (T.alt (T.cmp op_inS1 od_inS ha hb hm) (T.cmp (op_inD hu) od_inL ha hb hm) (tv_alt (op_alt inA_h2))) (tv_alt (op_alt inA_h))
theorem E.ninA {a b : Expr} (hu : X.A.units + 65 < cLine) (ha : E X a g) (hb : E X b f) (hm : behindInMarks .NotIn b = false := by rfl) : E X (.Compare a [.NotIn] [b] pos) (xOp dNotInA g f) :=
  E.alt (E.dnin (Nat.lt_of_le_of_lt (Nat.add_le_add_left (by decide) _) hu) ha hb hm) (E.alt (E.cmp op_notInS1 od_notInS ha hb hm) (E.cmp (op_notInD hu) od_notInL ha hb hm) (op_alt ninA_h2)) (op_alt ninA_h)
theorem T.ninA {a b : Expr} (hu : X.A.units + 65 < cLine) (ha : E X a g) (hb : E X b f) (hm : behindInMarks .NotIn b = false := by rfl) : T X (.Compare a [.NotIn] [b] pos) (tVal (xOp dNotInA g f)) :=
  T.alt (T.dnin (Nat.lt_of_le_of_lt (Nat.add_le_add_left (by decide) _) hu) ha hb hm) (T.alt (T.cmp op_notInS1 od_notInS ha hb hm) (T.cmp (op_notInD hu) od_notInL ha hb hm) (tv_alt (op_alt ninA_h2))) (tv_alt (op_alt ninA_h))
/-! ### a == b -/
theorem OpR.or {op : Value → Value → Sem Value} {r r' : R2} (h : OpR X op r) (h' : OpR X op r') : OpR X op (fun x y H Q => r x y H Q ∨ r' x y H Q) := fun pins s σ H x y v u Q I rx ry q => q.elim (h pins s σ H x y v u Q I rx ry) (h' pins s σ H x y v u Q I rx ry)
def scD : D → D → Option Bool
  | .none, .none => some true
  | .int i, .int j => some (decide (i = j))
  | .str i, .str j => some (decide (i = j))
  | .bool i, .bool j => some (decide (i = j))
  | .none, .int _ | .int _, .none | .none, .bool _ | .bool _, .none | .none, .str _ | .str _, .none | .int _, .str _ | .str _, .int _ | .bool _, .str _ | .str _, .bool _ => some false
  | _, _ => none
def dEqA (a b : D) : Option (D × Fg) := match scD a b with
  | some r => some (.bool r, .f)
  | none => dEq a b
def dNeA (a b : D) : Option (D × Fg) := match scD a b with
  | some r => some (.bool (!r), .f)
  | none => dNe a b
theorem op_eqA (hu : X.A.units + 64 < cLine) : OpR X (compareOp .Eq) (fun x y H Q => rEq x y H Q ∨ rEqD X.K x y H Q) := .or op_eq (op_eqD hu)
theorem op_neA (hu : X.A.units + 64 < cLine) : OpR X (compareOp .NotEq) (fun x y H Q => rNe x y H Q ∨ rNeD X.K x y H Q) := .or op_ne (op_neD hu)
theorem sc_ok {K : PySem.W.Frag} {F : Hp} {x y : V} {a b : D} {r : Bool} (h1 : Fz K F x a) (h2 : Fz K F y b) (h : scD a b = some r) : scal x y = true ∧ decide (x = y) = r := by
  cases h1 <;> cases h2 <;> cases h <;> refine ⟨rfl, ?_⟩ <;> simp
theorem od_eqA {K : PySem.W.Frag} : OpD K (fun x y H Q => rEq x y H Q ∨ rEqD K x y H Q) dEqA := fun F H x y d1 d2 res o Q s h1 h2 he q => by
  unfold dEqA at he
  split at he
  · rename_i r hr
    cases he
    obtain ⟨q1, q2⟩ := sc_ok h1 h2 hr
    exact .inl ⟨q1, by rw [q2]; exact q _ H F Fp.no vd_bl (Fresh.refl s) no_fresh⟩
  · exact .inr (od_eq F H x y d1 d2 res o Q s h1 h2 he q)
theorem od_neA {K : PySem.W.Frag} : OpD K (fun x y H Q => rNe x y H Q ∨ rNeD K x y H Q) dNeA := fun F H x y d1 d2 res o Q s h1 h2 he q => by
  unfold dNeA at he
  split at he
  · rename_i r hr
    cases he
    obtain ⟨q1, q2⟩ := sc_ok h1 h2 hr
    exact .inl ⟨q1, by rw [q2]; exact q _ H F Fp.no vd_bl (Fresh.refl s) no_fresh⟩
  · exact .inr (od_ne F H x y d1 d2 res o Q s h1 h2 he q)
/-! ### len -/
theorem CallD.or {K : PySem.W.Frag} {r r' : List V → Hp → VK → Prop} {op op1 op2 : List D → Option (D × Fg)} (h : CallD K r op1) (h' : CallD K r' op2) (ho : ∀ a r, op a = some r → op1 a = some r ∨ op2 a = some r) : CallD K (fun xs H Q => r xs H Q ∨ r' xs H Q) op :=
  fun F H xs ds res o Q s hv he q => (ho _ _ he).elim (fun z => .inl (h F H xs ds res o Q s hv z q)) fun z => .inr (h' F H xs ds res o Q s hv z q)
def kLenA : List D → Option (D × Fg)
  | [.str z] => if z.length ≤ sizeLine then some (.int z.length, .f) else none
  | [.list ds] => some (.int ds.length, .f)
  | [.tuple ds] => some (.int ds.length, .f)
  | [.dict ds] => some (.int ds.length, .f)
  | _ => none
def rLenA (K : PySem.W.Frag) : List V → Hp → VK → Prop := fun xs H Q => (∃ x n, xs = [x] ∧ LenV K x H n ∧ Q (.int n) H) ∨ (∃ a kvs, xs = [V.ref a] ∧ Rd H a (.dK kvs) ∧ Q (.int kvs.length) H)
theorem call_lenA : CallR X (.builtin "len") (rLenA X.K) := CallR.or call_len call_lenR
theorem cd_lenA {K : PySem.W.Frag} : CallD K (rLenA K) kLenA := CallD.or (K := K) cd_len cd_lenD fun a r h => by
  unfold kLenA at h
  split at h
  · exact .inl h
  · exact .inl h
  · exact .inl h
  · exact .inr h
  · cases h
/-! ### list(xs) -/
def kListA : List D → Option (D × Fg)
  | [.list ds] => some (.list ds, .o 0)
  | [.tuple ds] => some (.list ds, .o 0)
  | [.str z] => if z.cps.size ≤ sizeLine then some (.list (strD z), .o 0) else none
  | [.dict ds] => some (.list (vKeys ds), .o 0)
  | _ => none
def kListK : List D → Option (D × Fg)
  | [.dict ds] => some (.list (vKeys ds), .o 0)
  | _ => none
def rListK : List V → Hp → VK → Prop := fun xs H Q => ∃ (a : Addr) (kvs : List (Key × V)), xs = [.ref a] ∧ Rd H a (.dK kvs) ∧ ∀ p, H p = none → Q (.ref p) (upd H p (.lst (kvs.map fun kv => kV kv.1)))
theorem fzKV_keys {K : PySem.W.Frag} {F : Hp} : ∀ {kvs : List (Key × V)} {ds : List (D × D)}, FzKV K F kvs ds → FzAll K F (kvs.map fun kv => kV kv.1) (vKeys ds)
  | _, _, .nil => .nil
  | _, _, .cons h a => .cons (fz_key _) (fzKV_keys a)
theorem cd_listK {K : PySem.W.Frag} : CallD K rListK kListK := fun F H xs ds res o Q s hv he q => by
  unfold kListK at he
  split at he
  · rename_i es
    obtain ⟨x, rfl, h⟩ := hv.one
    cases he
    cases h with
    | dct hr ha =>
      refine ⟨_, _, rfl, rd_mono s hr, fun p hp => ?_⟩
      exact q _ _ F _ (vd_new hp (fzKV_keys ha)) (fresh_new (u := .lst _) s hp) (new_R s hp)
  · cases he
def rListA (K : PySem.W.Frag) : List V → Hp → VK → Prop := fun xs H Q => (∃ p ys, xs = [.ref p] ∧ (SqL K H p ys ∨ SqT K H p ys) ∧ ∀ l, H l = none → Q (.ref l) (upd H l (.lst ys))) ∨ (rListS K xs H Q ∨ rListK xs H Q)
theorem call_listA (hc : X.calm = true) : CallR X (.type "list") (rListA X.K) := CallR.or call_list_of (CallR.or (call_listS hc) (call_listD hc))
def kListSK : List D → Option (D × Fg)
  | [.str z] => if z.cps.size ≤ sizeLine then some (.list (strD z), .o 0) else none
  | [.dict ds] => some (.list (vKeys ds), .o 0)
  | _ => none
theorem cd_listA {K : PySem.W.Frag} : CallD K (rListA K) kListA := CallD.or (K := K) (op2 := kListSK) cd_list (CallD.or (K := K) cd_listS cd_listK fun a r h => by
  unfold kListSK at h
  split at h
  · exact .inl h
  · exact .inr h
  · cases h) fun a r h => by
  unfold kListA at h
  split at h
  · exact .inl h
  · exact .inl h
  · exact .inr h
  · exact .inr h
  · cases h
/-! ### what a loop goes over -/
def iAny (f : Ex) : Ix := fun e => bnd (f e) fun d e1 => match d with
  | .list ds => some (ds, e1)
  | .tuple ds => some (ds, e1)
  | .str z => some (strD z, e1)
  | _ => none
theorem any_alt {f : Ex} (en : En) (r : List D × En) (h : iAny f en = some r) : iSeq f en = some r ∨ iTupl f en = some r ∨ iStrD f en = some r := by
  obtain ⟨d, o, e1, h1, h⟩ := bnd_eq h
  unfold iSeq iTupl iStrD
  rw [h1]
  split at h
  · exact .inl h
  · exact .inr (.inl h)
  · exact .inr (.inr h)
  · cases h
theorem I.any (he : E X e f) : I X tg e (iAny f) := ⟨fun pins s σ H Q Iv => by
    rintro ⟨F, en, A, d, e', E0, hx, post⟩
    rcases any_alt _ _ hx with q | q | q
    · exact (I.lst he).run pins s σ H Q Iv ⟨F, en, A, d, e', E0, q, post⟩
    · exact (I.tup he).run pins s σ H Q Iv ⟨F, en, A, d, e', E0, q, post⟩
    · exact (I.str he).run pins s σ H Q Iv ⟨F, en, A, d, e', E0, q, post⟩⟩
/-- what stands in a slot: a dict's keys too -/
def iSlot (i : Nat) : Ix := fun e => match xUse i e with
  | some (.list ds, _, e1) => some (ds, e1)
  | some (.tuple ds, _, e1) => some (ds, e1)
  | some (.str z, _, e1) => some (strD z, e1)
  | some (.dict ds, _, e1) => some (vKeys ds, e1)
  | _ => none
theorem S.forA {ms mt : List Nat} {iter : Expr} {i : Nat} {g : Gx} {body : List Stmt} {b : Sx} {pos : Pos} (hmt : ∀ i ∈ mt, i ∈ ms) (hp : PassesOwn (model X.prog X.w) X.A X.env X.xe) (hc : X.calm = true) (he : PE X iter (tVar i)) (hg : G X tg mt g) (hb : Ss X ms body b)
    (hs : ∀ x, foldedSetIterable iter X.env x = pure x := by intro _; rfl) : S X ms (.For tg iter body [] pos) (sFor (iSlot i) g b) :=
  S.alt (S.for_ hmt hp hc (I.any (E.use he)) hg hb hs) (S.forD hmt hp hc (View.keys he) hg hb hs) fun en r h => by
    unfold sFor iSlot at h
    unfold sFor sForD iAny
    split at h
    · rename_i ds e1 h1
      split at h1
      · rename_i h2; cases h1; left; rw [h2]; exact h
      · rename_i h2; cases h1; left; rw [h2]; exact h
      · rename_i h2; cases h1; left; rw [h2]; exact h
      · rename_i h2; cases h1; right; rw [h2]; exact h
      · cases h1
    · cases h
theorem lc_alt {i : Nat} {vs : List Nat} {g : Gx} {c : Tx} {f : Ex} : ∀ en r, xLc (iSlot i) vs g c f en = some r → xLc (iAny (xUse i)) vs g c f en = some r ∨ xLcD i vKeys vs g c f en = some r := fun en r h => by
  unfold xLc iSlot at h
  unfold xLc xLcD iAny
  split at h
  · rename_i ds e1 h1
    split at h1
    · rename_i h2; cases h1; left; rw [h2]; exact h
    · rename_i h2; cases h1; left; rw [h2]; exact h
    · rename_i h2; cases h1; left; rw [h2]; exact h
    · rename_i h2; cases h1; right; rw [h2]; exact h
    · cases h1
  · cases h
theorem set_alt {i : Nat} {f f1 f2 : Ex} (h : ∀ en r, f en = some r → f1 en = some r ∨ f2 en = some r) : ∀ en r, sSet i f en = some r → sSet i f1 en = some r ∨ sSet i f2 en = some r := fun en r hx => by
  unfold sSet at hx ⊢
  split at hx
  · rename_i d o e1 h1
    rcases h _ _ h1 with q | q
    · left; rw [q]; exact hx
    · right; rw [q]; exact hx
  · cases hx
theorem E.lcA {i : Nat} {elt tg iter : Expr} {ifs : List Expr} {scope : Scope} {own : List (Str × Nat)} {ms : List Nat} {pos : Pos} {g : Gx} {c : Tx} {f : Ex} (hc : X.calm = true) (hN : X.N.Nodup) (hv : PE X iter (tVar i)) (ok : BlkOk X.N X.env.scope scope own)
    (hg : ∀ (s : Shared) (H : Hp) (C : Addr) (cl : List (Str × Addr)) (fp : List Addr), G (X.blk s H scope (compEnvC scope cl C X.env) fp) tg ms g) (hms : ∀ i ∈ ms, i ∈ own.map (·.2)) (ht : ∀ (s : Shared) (H : Hp) (C : Addr) (cl : List (Str × Addr)) (fp : List Addr), Ts (X.blk s H scope (compEnvC scope cl C X.env) fp) ifs c)
    (he : ∀ (s : Shared) (H : Hp) (C : Addr) (cl : List (Str × Addr)) (fp : List Addr), E (X.blk s H scope (compEnvC scope cl C X.env) fp) elt f) (hs : ∀ x, foldedSetIterable iter X.env x = pure x := by intro _; rfl) :
    E X (.ListComp elt [⟨tg, iter, ifs, 0⟩] scope pos) (xLc (iSlot i) (own.map (·.2)) g c f) :=
  E.alt (E.lc hc hN (I.any (E.use hv)) ok hg hms ht he hs) (E.lcD hc hN (View.keys hv) ok hg hms ht he hs) lc_alt
theorem S.setLcA {mz : List Nat} {j i : Nat} {y : Str} {py : Pos} {elt tg iter : Expr} {ifs : List Expr} {scope : Scope} {own : List (Str × Nat)} {ms : List Nat} {pos spos : Pos} {g : Gx} {c : Tx} {f : Ex} (him : j ∈ mz) (hc : X.calm = true) (hN : X.N.Nodup) (hy : X.N[j]? = some y) (hyl : X.env.scope.names.lookup y = some .local)
    (hsw : swapsWith (.ListComp elt [⟨tg, iter, ifs, 0⟩] scope pos) (some (.Name y py)) spos.line X.env = pure true) (hv : PE X iter (tVar i)) (ok : BlkOk X.N X.env.scope scope own)
    (hg : ∀ (s : Shared) (H : Hp) (C : Addr) (cl : List (Str × Addr)) (fp : List Addr), G (X.blk s H scope (compEnvC scope cl C X.env) fp) tg ms g) (hms : ∀ i ∈ ms, i ∈ own.map (·.2)) (ht : ∀ (s : Shared) (H : Hp) (C : Addr) (cl : List (Str × Addr)) (fp : List Addr), Ts (X.blk s H scope (compEnvC scope cl C X.env) fp) ifs c)
    (he : ∀ (s : Shared) (H : Hp) (C : Addr) (cl : List (Str × Addr)) (fp : List Addr), E (X.blk s H scope (compEnvC scope cl C X.env) fp) elt f) (hs : ∀ x, foldedSetIterable iter X.env x = pure x := by intro _; rfl) :
    S X mz (.Assign [.Name y py] (.ListComp elt [⟨tg, iter, ifs, 0⟩] scope pos) spos) (sSet j (xLc (iSlot i) (own.map (·.2)) g c f)) :=
  S.alt (S.setLc him hc hN hy hyl hsw (I.any (E.use hv)) ok hg hms ht he hs) (S.setLcD him hc hN hy hyl hsw (View.keys hv) ok hg hms ht he hs) (set_alt lc_alt)
/-! ### xs[k] = v -/
def sPutA (i : Nat) (fv fk : Ex) : Sx := fun e => match e[i]? with
  | some (some (.dict _, _)) => sPutD i fv fk e
  | _ => sSetI i fv fk e
theorem S.putA {ev ek : Expr} {fv fk : Ex} {tpos : Pos} {ms : List Nat} {i : Nat} (hu : X.A.units + 1 < cLine) (hv : E X ev fv) (ho : PE X o (tVar i)) (hk : E X ek fk)
    (hs : swapsWithSole [.Subscript o ek tpos] ev pos.line X.env = pure false := by rfl) (hw : swappedStores [.Subscript o ek tpos] ev X.env = pure none := by rfl)
    (h1 : (assignEach [.Subscript o ek tpos] X.env).map (·.2) = [assign (.Subscript o ek tpos) X.env] := by rfl)
    (hg : ∀ v, assign (.Subscript o ek tpos) X.env v = (do
      let a ← holding [v] (eval o X.env); let b ← holding [v, a] (eval ek X.env); standAt tpos; holding [v, a, b] (setItem a b v); release [v, a, b] []) := by intro _; rfl)
    (hs2 : swapsWith ev (some (.Subscript o ek tpos)) pos.line X.env = pure false := by rfl) :
    S X ms (.Assign [.Subscript o ek tpos] ev pos) (sPutA i fv fk) := S.alt (S.putD hu hv ho hk hs2) (S.setI hv ho hk hs hw h1 hg) fun en r h => by
  unfold sPutA at h
  split at h
  · exact .inl h
  · exact .inr h
end
end Ev
namespace Ev
open PySem PySem.Spec PyProof.Rows L2
section
variable {X : Cx} {e o : Expr} {tg : Expr} {f f1 f2 g : Ex} {pos : Pos} {K : PySem.W.Frag} {F H : Hp}
/-! ### xs.extend(ys) -/
theorem ext_meets (l : Addr) (xs : Array Value) (n : Nat) (b : Addr) (ys : Array Value) (m : Nat) (sl : Array (Option Value)) (h0 : ¬(!xs.isEmpty && Builtin.List.listTooLong (xs.size + ys.size)) = true) (h1 : xs.size ≤ sizeLine) (h2 : xs.size + ys.size ≤ sizeLine + 1) :
    Meets (Builtin.«list.extend» ⟨[.ref l, .ref b], []⟩) (fun _ R s => s.heap.get? l = some { cls := .type "list", dict := none, data := .seq xs n, slots := #[] } ∧ s.heap.get? b = some { cls := .type "list", dict := none, data := .seq ys m, slots := sl } ∧
      R (.ok (.ret Value.none)) { s with heap := s.heap.update l (Obj.mapSeq fun x => x ++ ys), toks := s.toks }) :=
  .of_wp fun prog w A R s h => by
    obtain ⟨hp, g, d, tk, os⟩ := s
    obtain ⟨hl, hb, h⟩ := h
    have f1 := AutoSeq1.idx_int
    have f2 := AutoSeq1.sub_tuple_tuple
    have f3 := AutoSeq1.sub_list_list
    have f4 := AutoSeq1.sub_tuple_list
    have f5 := AutoSeq1.sub_list_tuple
    have hz' : (xs ++ ys).size ≤ sizeLine + 1 := by rw [Array.size_append]; exact h2
    wp_walk using (wpAny_updateSeq hl rfl (hz := h1) (_hz' := hz')), AutoSeq1.wpAny_loadPart' hl, AutoSeq1.wpAny_loadPart' hb
    exact ⟨_, rfl, h⟩
def rExtL (K : PySem.W.Frag) : V → List V → Hp → VK → Prop := fun x vs H Q => ∃ l b xs zs, x = .ref l ∧ vs = [.ref b] ∧ H l = some (.lst xs) ∧ SqL K H b zs ∧ xs.length + zs.length ≤ sizeLine ∧ Q .non (upd H l (.lst (xs ++ zs)))
theorem mt_extL : MtR X "list.extend" (rExtL X.K) := by
  intro pins s σ H x vs v us Q I rx rv h
  obtain ⟨l, b, xs, zs, ex, ev, hH, hB, hz, q⟩ := h
  subst ex
  subst ev
  cases rx
  obtain ⟨u, eu, ru⟩ := vals1 rv
  subst eu
  cases ru
  obtain ⟨z, its, n, r, hl, e⟩ := I.lstM hH
  obtain ⟨its2, r2, pl2, hz2⟩ := I.list hB
  obtain ⟨⟨oc, od, odt, osl⟩, n2, hob, hoc, hdd, hod⟩ := pl2
  dsimp only at hoc hdd hod
  subst hoc hdd hod
  have hl2 := r2.length
  have hsz : its.toArray.size + its2.toArray.size ≤ sizeLine := by rw [List.size_toArray, List.size_toArray]; omega
  have hlong : ¬ (!its.toArray.isEmpty && Builtin.List.listTooLong (its.toArray.size + its2.toArray.size)) = true := by
    rw [notLongL hsz, Bool.and_false]
    exact Bool.false_ne_true
  refine call_meets PySem.F.slot_list_extend ⟨_, e, rfl⟩ PySem.F.entry_list_extend (PySem.F.args_list_extend_2 _ _)
    (ext_meets l its.toArray n b its2.toArray n2 osl hlong (by rw [List.size_toArray]; omega) (by omega)) ⟨e, hob, ?_⟩
  refine ⟨.non, _, I.lset (its' := its ++ its2) hH e (by simp) (r.append r2) ?_, rfl, q⟩
  rw [List.length_append]
  omega
theorem OwAll.fit {n : Nat} : ∀ {zs : List V} {es : List D}, FzAll K F zs es → (n = 0 ∨ es.all still = true) → OwAll K F H n zs es Fp.no
  | _, _, .nil, _ => .nil
  | _, _, .cons (d := d) (ds := ds) h a, hn => by
    have h1 : n = 0 ∨ still d = true := hn.imp id fun z => by rw [List.all_cons, Bool.and_eq_true] at z; exact z.1
    have h2 : n = 0 ∨ ds.all still = true := hn.imp id fun z => by rw [List.all_cons, Bool.and_eq_true] at z; exact z.2
    exact (OwAll.cons (fit0 h h1) (OwAll.fit a h2) fun _ z => z.elim).cast fun a => ⟨fun z => z.elim id id, fun z => z.elim⟩
theorem OwAll.more {n : Nat} {zs : List V} {es : List D} (hz : FzAll K F zs es) (hn : n = 0 ∨ es.all still = true) : ∀ {xs : List V} {ds : List D} {B : Fp}, OwAll K F H n xs ds B → OwAll K F H n (xs ++ zs) (ds ++ es) B
  | _, _, _, .nil => OwAll.fit hz hn
  | _, _, _, .cons h a d => .cons h (OwAll.more hz hn a) d
def mExt : Mop := fun n as ds => match as with
  | [.list es] => if ds.length + es.length ≤ sizeLine ∧ (n = 0 ∨ es.all still = true) then some (.none, .f, ds ++ es) else none
  | _ => none
theorem md_ext : MutD K (rExtL K) mExt := fun F H p xs ys as ds ds' n B res o Q s hp ha nb hv hop q => by
  unfold mExt at hop
  split at hop
  · rename_i es
    obtain ⟨y, rfl, h⟩ := hv.one
    split at hop
    · rename_i hz
      cases hop
      cases h with
      | lst hs hl =>
        exact ⟨p, _, xs, _, rfl, rfl, hp, sqL_mono s hs, by rw [ha.length, hl.length]; exact hz.1, q .non _ _ Fp.no (OwAll.more hl hz.2 ha) (fun a z => z) ⟨.non, rfl⟩ (fun _ z => z.elim) fun _ z => z.elim⟩
    · cases hop
  · cases hop
/-! ### {k: v, ..} -/
theorem fzKV_map {k : Key} {w : V} {d' : D} (hw : Fz K F w d') : ∀ {kvs : List (Key × V)} {ds : List (D × D)}, FzKV K F kvs ds →
    FzKV K F (kvs.map fun kv => if kv.1 = k then (kv.1, w) else kv) (ds.map fun p => if keyIs k p.1 = true then (p.1, d') else p)
  | _, _, .nil => .nil
  | (j, v) :: kvs, (_, d) :: ds, .cons h a => by
    rw [List.map_cons, List.map_cons]
    dsimp only
    rw [keyIs_kD]
    by_cases hj : j = k
    · rw [if_pos hj, if_pos (decide_eq_true hj)]
      exact .cons hw (fzKV_map hw a)
    · rw [if_neg hj, if_neg (by rw [decide_eq_false hj]; exact Bool.false_ne_true)]
      exact .cons h (fzKV_map hw a)
theorem fzKV_snoc {k : Key} {v : V} {d : D} (h : Fz K F v d) : ∀ {kvs : List (Key × V)} {ds : List (D × D)}, FzKV K F kvs ds → FzKV K F (kvs ++ [(k, v)]) (ds ++ [(kD k, d)])
  | _, _, .nil => .cons h .nil
  | _, _, .cons h0 a => .cons h0 (fzKV_snoc h a)
theorem fzKV_put {k : Key} {w : V} {d' : D} (hw : Fz K F w d') {kvs : List (Key × V)} {ds : List (D × D)} (h : FzKV K F kvs ds) : FzKV K F (putK kvs k w) (putD ds k d') := by
  unfold putK putD
  rw [fzKV_any (k := k) h]
  split
  · exact fzKV_map hw h
  · exact fzKV_snoc hw h
def mergeD (ds : List (D × D)) : List (D × D) → Option (List (D × D))
  | [] => some ds
  | (k, v) :: r => match keyD k with
    | some key => mergeD (putD ds key v) r
    | none => none
abbrev PFz (K : PySem.W.Frag) (F : Hp) (xs : List (V × V)) (ds : List (D × D)) : Prop := Paired (fun p q => Fz K F p.1 q.1 ∧ Fz K F p.2 q.2) xs ds
theorem merge_ok : ∀ {ds : List (D × D)} {xs : List (V × V)} {acc r : List (D × D)} {kvs : List (Key × V)}, PFz K F xs ds → FzKV K F kvs acc → mergeD acc ds = some r →
    ∃ ks : List (Key × V), xs = ks.map (fun kv => (kV kv.1, kv.2)) ∧ FzKV K F (mergeK kvs ks) r
  | [], _, acc, r, kvs, h, a, e => by
    cases h
    cases e
    exact ⟨[], rfl, a⟩
  | (k, v) :: ds, _, acc, r, kvs, h, a, e => by
    cases h with
    | @cons x _ xs _ h t =>
      unfold mergeD at e
      split at e
      · rename_i key hk
        obtain ⟨ks, q1, q2⟩ := merge_ok t (fzKV_put (k := key) h.2 a) e
        refine ⟨(key, x.2) :: ks, ?_, q2⟩
        rw [List.map_cons, ← q1]
        have := keyD_fz h.1 hk
        obtain ⟨x1, x2⟩ := x
        dsimp only at this
        rw [this]
      · cases e
def kvE : List (Ex × Ex) → En → Option (List (D × D) × En)
  | [], e => some ([], e)
  | (fk, fv) :: r, e => bnd (fk e) fun k e1 => bnd (fv e1) fun v e2 => match kvE r e2 with
    | some (ps, e3) => some ((k, v) :: ps, e3)
    | none => none
def xDisp (ps : List (Ex × Ex)) : Ex := fun e => match kvE ps e with
  | some (kvs, e1) => (match mergeD [] kvs with
    | some ds => some (.dict ds, .o 0, e1)
    | none => none)
  | none => none
def Ps (X : Cx) (pos : Pos) (keys : List (Option Expr)) (values : List Expr) (ps : List (Ex × Ex)) : Prop := PPs X pos keys values (ps.map fun p => (cE X.K (xFz p.1), cE X.K (xFz p.2)))
theorem Ps.nil : Ps X pos [] [] [] := pps_nil
theorem Ps.cons {k v : Expr} {ks : List (Option Expr)} {vs : List Expr} {fk fv : Ex} {ps : List (Ex × Ex)} (hk : E X k fk) (hv : E X v fv) (hr : Ps X pos ks vs ps) : Ps X pos (some k :: ks) (v :: vs) ((fk, fv) :: ps) := pps_cons hk.fz hv.fz hr
theorem kvE_len : ∀ {ps : List (Ex × Ex)} {e e1 : En} {kvs : List (D × D)}, kvE ps e = some (kvs, e1) → kvs.length = ps.length
  | [], _, _, _, h => by cases h; rfl
  | (fk, fv) :: r, e, e1, kvs, h => by
    obtain ⟨k, _, e2, h1, h⟩ := bnd_eq h
    obtain ⟨v, _, e3, h2, h⟩ := bnd_eq h
    split at h
    · rename_i ps e4 h3
      cases h
      rw [List.length_cons, List.length_cons, kvE_len h3]
    · cases h
theorem pairs_core {σ : L2.St} : ∀ {ps : List (Ex × Ex)} {H F : Hp} {en e1 : En} {A : Nat → Fp} {kvs : List (D × D)} {Q : List (V × V) → Hp → Prop}, EnvOk K F H σ en A → kvE ps en = some (kvs, e1) →
    (∀ (xs : List (V × V)) (H' F' : Hp) (A' : Nat → Fp), EnvOk K F' H' σ e1 A' → PFz K F' xs kvs → Step F (U A) H F' (U A') H' → Q xs H') → tPairs (ps.map fun p => (cE K (xFz p.1), cE K (xFz p.2))) σ H Q
  | [], H, F, en, e1, A, kvs, Q, E0, h, k => by
    cases h
    exact k [] H F A E0 .nil Step.refl
  | (fk, fv) :: r, H, F, en, e1, A, kvs, Q, E0, h, k => by
    obtain ⟨dk, o1, e2, h1, h⟩ := bnd_eq h
    obtain ⟨dv, o2, e3, h2, h⟩ := bnd_eq h
    split at h
    · rename_i ps e4 h3
      cases h
      refine E.fz_run E0 h1 fun x H1 F1 A1 E1 hx st1 => ?_
      refine E.fz_run E1 h2 fun y H2 F2 A2 E2 hy st2 => ?_
      refine pairs_core E2 h3 fun xs H3 F3 A3 E3 hp st3 => ?_
      exact k ((x, y) :: xs) H3 F3 A3 E3 (.cons ⟨(hx.mono st2.ff).mono st3.ff, hy.mono st3.ff⟩ hp) ((st1.trans st2).trans st3)
    · cases h
theorem EnvOk.upd {σ : L2.St} {e : En} {A : Nat → Fp} {p : Addr} {u : HO} (E : EnvOk K F H σ e A) (hp : F p = none) (ha : ¬ U A p) : EnvOk K F (upd H p u) σ e A :=
  ⟨E.len, fun i d o h => by
    obtain ⟨v, h1, h2⟩ := E.at_ i d o h
    exact ⟨v, h1, h2.mono (Same.refl _) fun a z => upd_ne fun y => ha ⟨i, y ▸ z⟩⟩, E.un, E.dis, E.nf, fun a o z => by
    rw [upd_ne (fun y => by rw [y, hp] at z; cases z)]; exact E.sub a o z⟩
theorem E.disp {keys : List (Option Expr)} {values : List Expr} {ps : List (Ex × Ex)} (h : Ps X pos keys values ps) (hall : keys.all (·.isSome) = true := by rfl) (hl : keys.length = values.length := by rfl) (h0 : keys ≠ [] := by exact fun h => nomatch h)
    (h15 : keys.length ≤ 15 := by decide) (hlp : keys.length = ps.length := by rfl) : E X (.Dict keys values pos) (xDisp ps) := pe_imp (pe_disp h hall hl h0 h15) fun σ H Q => by
  rintro ⟨F, en, A, d, o, e', E0, hx, post⟩
  unfold xDisp at hx
  split at hx
  · rename_i kvs e1 h1
    split at hx
    · rename_i ds hm
      cases hx
      intro p hp
      have fr := fresh_new (u := .dK []) E0.sub hp
      have E1 := E0.fresh fr
      have hF : F p = none := E0.sub.free hp
      have hA : ¬ U A p := fun z => E0.tr p z hp
      have st0 : Step F (U A) H F (Fp.or (U A) (fun a => a = p)) (upd H p (.dK [])) := fr.step fun a z => by subst z; exact hp
      refine pairs_core E1 h1 fun xs H2 F2 A2 E2 hxs st => ?_
      obtain ⟨st3, hh⟩ := Step.hold (A := U A) (R := fun a => a = p) st0 st (fun a z => by subst z; exact hF) (fun a z => by subst z; exact hA) (fun a z => by subst z; rw [upd_same]; exact fun z => nomatch z)
      obtain ⟨g1, g2, g3⟩ := hh p rfl
      obtain ⟨ks, q1, q2⟩ := merge_ok hxs .nil hm
      refine ⟨by rw [g1, upd_same], ks, q1, ?_, ?_⟩
      · have l1 : xs.length = ks.length := by rw [q1, List.length_map]
        have l2 : xs.length = kvs.length := Paired.length hxs
        have l3 := kvE_len h1
        omega
      · refine post _ _ F2 A2 (fun a => a = p) (E2.upd g2 g3) ?_ (fun a z => by subst z; exact g2) (fun a z => by subst z; exact g3) ?_
        · exact (Ow.dct upd_same (OwKV.of_fz q2) (fun z => z)).cast fun a => ⟨fun z => z.elim id fun y => y.elim, .inl⟩
        · refine ⟨st3.ff, fun a z => ?_, fun a z1 z2 z3 => ?_⟩
          · by_cases y : a = p
            · subst y; rw [upd_same]; exact fun z => nomatch z
            · rw [upd_ne y]; exact st3.keep a z
          · have y : a ≠ p := fun y => z1 (y ▸ hp)
            rw [upd_ne y]
            exact st3.fr a z1 z2 z3
    · cases hx
  · cases hx
/-! ### dict(pairs) -/
def pairD : D → Option (D × D)
  | .tuple [k, v] => some (k, v)
  | _ => none
def kDictP : List D → Option (D × Fg)
  | [.list ds] => (match ds.mapM pairD with
    | some kvs => (match mergeD [] kvs with
      | some r => some (.dict r, .o 0)
      | none => none)
    | none => none)
  | _ => none
def rDictP (K : PySem.W.Frag) : List V → Hp → VK → Prop := fun xs H Q => ∃ (a : Addr) (ps : List Addr) (kvs : List (Key × V)), xs = [.ref a] ∧ SqL K H a (ps.map V.ref) ∧ Paired (fun p kv => SqT K H p [kV kv.1, kv.2]) ps kvs ∧ ∀ p, H p = none → Q (.ref p) (upd H p (.dK (mergeK [] kvs)))
theorem pairs_fz : ∀ {xs : List V} {ds : List D} {kvs : List (D × D)}, FzAll K F xs ds → ds.mapM pairD = some kvs → ∃ (ps : List Addr) (ys : List (V × V)), xs = ps.map V.ref ∧ PFz K F ys kvs ∧ Paired (fun p (y : V × V) => SqT K F p [y.1, y.2]) ps ys
  | _, _, kvs, .nil, h => by
    rw [List.mapM_nil] at h
    cases h
    exact ⟨[], [], rfl, .nil, .nil⟩
  | _, _, kvs, .cons (d := d) (ds := ds) h a, e => by
    rw [List.mapM_cons] at e
    cases hd : pairD d with
    | none => rw [hd] at e; cases e
    | some q =>
      cases hr : ds.mapM pairD with
      | none => rw [hd, hr] at e; cases e
      | some r =>
        rw [hd, hr] at e
        cases e
        obtain ⟨ps, ys, q1, q2, q3⟩ := pairs_fz a hr
        unfold pairD at hd
        split at hd
        · cases hd
          cases h with
          | tup ht hv =>
            obtain ⟨x, y, ex, hx, hy⟩ := hv.two
            subst ex
            exact ⟨_ :: ps, (x, y) :: ys, by rw [q1]; rfl, .cons ⟨hx, hy⟩ q2, .cons ht q3⟩
        · cases hd
theorem cd_dictP : CallD K (rDictP K) kDictP := fun F H xs ds res o Q s hv he q => by
  unfold kDictP at he
  split at he
  · rename_i es
    obtain ⟨x, rfl, h⟩ := hv.one
    split at he
    · rename_i kvs h1
      split at he
      · rename_i r h2
        cases he
        cases h with
        | lst hs hl =>
          obtain ⟨ps, ys, q1, q2, q3⟩ := pairs_fz hl h1
          obtain ⟨ks, g1, g2⟩ := merge_ok q2 .nil h2
          subst q1 g1
          refine ⟨_, ps, ks, rfl, sqL_mono s hs, ?_, fun p hp => ?_⟩
          · clear hs hl q2 h1 g2 h2
            generalize hz : ks.map (fun kv => (kV kv.1, kv.2)) = zs at q3
            induction q3 generalizing ks with
            | nil =>
              cases ks with
              | nil => exact .nil
              | cons a b => cases hz
            | cons r t ih =>
              cases ks with
              | nil => cases hz
              | cons a b =>
                cases hz
                exact .cons (sqT_mono s r) (ih b rfl)
          · obtain ⟨z1, z2⟩ := And.intro (fresh_new (u := .dK (mergeK [] ks)) s hp) (new_R (F := F) s hp)
            refine q _ _ F (fun a => a = p) ?_ z1 z2
            exact (Ow.dct upd_same (OwKV.of_fz g2) (fun z => z)).cast fun a => ⟨fun z => z.elim id fun y => y.elim, .inl⟩
      · cases he
    · cases he
  · cases he
theorem call_dictPR (hc : X.calm = true) : CallR X (.type "dict") (rDictP X.K) := call_dictP hc
theorem E.glob {x : Str} {v : V} {d : D} {p : Pos} (hg : Gl X x) (h : ∃ u, X.mg x = some u ∧ RelV v u) (r : ∀ F, Fz X.K F v d) (hd : (x == ("__debug__" : Str)) = false := by decide) : E X (.Name x p) (xCst d) := by
  obtain ⟨u, hm, hr⟩ := h
  exact E.cst (pe_glob hg hm hr hd) r
theorem hu65_of {A : Around} {k : Nat} (hr : Room k A) : A.units + 65 < cLine := Nat.lt_of_le_of_lt (Nat.add_le_add_left (by decide : 65 ≤ 16 * 0 + 200) _) (Nat.lt_of_le_of_lt (Nat.add_le_add_left (Nat.add_le_add_right (Nat.mul_le_mul_left 16 (Nat.zero_le k)) 200) _) (by have := hr.un; omega))
/-- a def with defaults, every parameter written -/
theorem binds_full {x qual : Str} {params : Arguments} {body : List Stmt} {scope : Scope} {oc dV kV dc pm cd ct : Value} {od an : Option Addr} {sl : Array (Option Value)} {fa : Addr} {dvs : List V} {ps : List Str} (hd : DflV K dV dvs) (hne : dvs ≠ [])
    (l : K.lookup fa = some ⟨oc, od, .func (PySem.W.fnOf x qual params body scope dV kV dc pm an cd ct), sl⟩) (c : PySem.W.codeIn K cd qual = true) (k : PySem.W.keepIn K (.ref fa) = true)
    (h : ∀ (T : Addr) (kV doc pm : Value) (an : Option Addr) (cdv ct : Value) (us its : List Value), us.length = ps.length → its.length = dvs.length →
      ∃ k, bindArgs (PySem.W.fnOf x qual params body scope (.ref T) kV doc pm an cdv ct) ⟨us, []⟩ = seqItems? (.ref T) >>= k ∧ k (some its.toArray) = pure (ps.zip us)) : Binds K (PySem.W.fnOf x qual params body scope dV kV dc pm an cd ct) ps [] := by
  have F : FunD K x qual params body scope dvs [] fa (PySem.W.fnOf x qual params body scope dV kV dc pm an cd ct) := ⟨⟨oc, od, dV, kV, dc, pm, an, cd, ct, sl, rfl, l, c, hd, .inl rfl⟩, k⟩
  obtain ⟨ds, h1, h2⟩ := F.binds1 (ps := ps) ps.length dvs.length hne (by omega) fun T kV doc pm an cdv ct us its h1 h2 => by
    obtain ⟨q, e1, e2⟩ := h T kV doc pm an cdv ct us its h1 h2
    refine ⟨q, e1, ?_⟩
    rw [e2, ← h2, List.drop_length, List.append_nil]
  rw [List.drop_length] at h1
  cases h1
  exact h2
end
end Ev
/-! a list that stands in a slot's list, changed in place -/
namespace Ev
open PySem PySem.Spec PyProof.Rows L2
section
variable {X : Cx} {e o ix : Expr} {es : List Expr} {f g : Ex} {pos tpos apos cpos : Pos} {K : PySem.W.Frag} {F H : Hp} {i j : Nat} {ms : List Nat}
/-- an owned item, and the whole when it is rewritten -/
theorem OwAll.upd1 {n : Nat} : ∀ {vs : List V} {ds : List D} {B : Fp} {k : Nat} {d : D}, OwAll K F H n vs ds B → ds[k]? = some d →
    ∃ v R, vs[k]? = some v ∧ Ow K F H n v d R ∧ (∀ a, R a → B a) ∧ ∀ (H' : Hp) (d' : D) (R' : Fp), Ow K F H' n v d' R' → (∀ a, R' a → R a) → (∀ a, ¬ R a → H' a = H a) → ∃ B', OwAll K F H' n vs (ds.set k d') B' ∧ ∀ a, B' a → (R' a ∨ (B a ∧ ¬ R a))
  | _, _, _, _, _, .nil, h => by cases h
  | _, _, _, 0, _, .cons (A := A1) (B := B1) h hr hd, e => by
    cases e
    exact ⟨_, A1, rfl, h, fun a z => .inl z, fun H' d' R' h' hR hH => ⟨Fp.or R' B1, .cons h' (hr.mono (Same.refl _) fun a z => hH a fun y => hd a y z) (fun a z y => hd a (hR a z) y), fun a z => z.elim .inl fun z => .inr ⟨.inr z, fun y => hd a y z⟩⟩⟩
  | _, _, _, k + 1, _, .cons (A := A1) h hr hd, e => by
    obtain ⟨v, R, q1, q2, q3, q4⟩ := OwAll.upd1 (k := k) hr (by rw [List.getElem?_cons_succ] at e; exact e)
    refine ⟨v, R, by rw [List.getElem?_cons_succ]; exact q1, q2, fun a z => .inr (q3 a z), fun H' d' R' h' hR hH => ?_⟩
    obtain ⟨B', g1, g2⟩ := q4 H' d' R' h' hR hH
    exact ⟨Fp.or A1 B', .cons (h.mono (Same.refl _) fun a z => hH a fun y => hd a z (q3 a y)) g1 (fun a z y => hd a z ((g2 a y).elim (fun w => q3 a (hR a w)) fun w => w.1)), fun a z => z.elim (fun z => .inr ⟨.inl z, fun y => hd a z (q3 a y)⟩) fun z => (g2 a z).imp id fun w => ⟨.inr w.1, w.2⟩⟩
/-- the place: item j of the list in slot i -/
def slotN (e : En) (i j : Nat) : Option (List D × List D × Nat) := match slotL e i with
  | some (ds, n + 1) => (match ds[j]? with
    | some (.list es) => some (ds, es, n)
    | _ => none)
  | _ => none
theorem slotN_eq {e : En} {ds es : List D} {n : Nat} (h : slotN e i j = some (ds, es, n)) : e[i]? = some (some (.list ds, .o (n + 1))) ∧ ds[j]? = some (.list es) := by
  unfold slotN at h
  split at h
  · rename_i ds1 n1 h1
    split at h
    · rename_i es1 h2
      cases h
      exact ⟨slotL_eq h1, h2⟩
    · cases h
  · cases h
/-- a list in the list of a slot, told -/
theorem EnvOk.nst {σ : L2.St} {e : En} {A : Nat → Fp} (E : EnvOk K F H σ e A) {n : Nat} {ds es : List D} (h : slotN e i j = some (ds, es, n)) : ∃ p xs q ys B, σ[i]? = some (some (.ref p)) ∧ H p = some (.lst xs) ∧ xs[j]? = some (.ref q) ∧ H q = some (.lst ys) ∧
    OwAll K F H n ys es B ∧ A i q ∧ ¬ B q ∧ (∀ a, B a → A i a) ∧ ∀ (ys' : List V) (es' : List D) (B' : Fp), OwAll K F H n ys' es' B' → (∀ a, B' a → B a) →
      ∃ A' : Nat → Fp, EnvOk K F (L2.upd H q (.lst ys')) σ (e.set i (some (.list (ds.set j (.list es')), .o (n + 1)))) A' ∧ Step F (U A) H F (U A') (L2.upd H q (.lst ys')) ∧ (∀ k a, A' k a → A k a) ∧ (∀ a, A' i a → B a → B' a) := by
  obtain ⟨he, hj⟩ := slotN_eq h
  obtain ⟨v, h1, h2⟩ := E.at_ i _ _ he
  obtain ⟨p, xs, C, rfl, h3, h4, h5, h6⟩ := ow_list h2
  obtain ⟨w, R, q1, q2, q3, q4⟩ := h4.upd1 hj
  obtain ⟨q, ys, B, rfl, g1, g2, g3, g4⟩ := ow_list q2
  have hq : A i q := (h6 q).mpr (.inr (q3 q ((g4 q).mpr (.inl rfl))))
  have hpq : p ≠ q := fun z => h5 (q3 p ((g4 p).mpr (.inl z)))
  refine ⟨p, xs, q, ys, B, h1, h3, q1, g1, g2, hq, g3, fun a z => (h6 a).mpr (.inr (q3 a ((g4 a).mpr (.inr z)))), fun ys' es' B' ha hb => ?_⟩
  have nb : ¬ B' q := fun z => g3 (hb q z)
  have hup : ∀ a, ¬ R a → L2.upd H q (.lst ys') a = H a := fun a z => upd_ne fun y => z ((g4 a).mpr (.inl y))
  have hin : Ow K F (L2.upd H q (.lst ys')) (n + 1) (.ref q) (.list es') (fun a => a = q ∨ B' a) := Ow.lst upd_same (OwAll.mono (Same.refl _) (fun a z => upd_ne fun y => nb (y ▸ z)) ha) nb
  obtain ⟨C', k1, k2⟩ := q4 (L2.upd H q (.lst ys')) (.list es') (fun a => a = q ∨ B' a) hin (fun a z => (g4 a).mpr (z.imp id (hb a))) hup
  have hnew : VD K F (L2.upd H q (.lst ys')) (.ref p) (.list (ds.set j (.list es'))) (.o (n + 1)) (fun a => a = p ∨ C' a) := Ow.lst (by rw [upd_ne hpq]; exact h3) k1 fun z => (k2 p z).elim (fun w => w.elim hpq fun w => h5 (q3 p ((g4 p).mpr (.inr (hb p w))))) fun w => h5 w.1
  have hR : ∀ a, (a = p ∨ C' a) → A i a := fun a z => (h6 a).mpr (z.imp id fun z => (k2 a z).elim (fun w => q3 a ((g4 a).mpr (w.imp id (hb a)))) fun w => w.1)
  obtain ⟨E2, st⟩ := E.mut (R' := fun a => a = p ∨ C' a) he h1 hq hR hnew
  refine ⟨_, E2, st, fun k a z => ?_, fun a z hB => ?_⟩
  · by_cases hk : k = i
    · rw [if_pos hk] at z; rw [hk]; exact hR a z
    · rw [if_neg hk] at z; exact z
  · rw [if_pos rfl] at z
    rcases z with z | z
    · exact absurd (q3 p ((g4 p).mpr (.inr (z ▸ hB)))) h5
    · rcases k2 a z with w | w
      · rcases w with w | w
        · exact absurd (w ▸ hB) g3
        · exact w
      · exact absurd ((g4 a).mpr (.inr hB)) w.2
/-- the place as a value -/
def tPl (K : PySem.W.Frag) (i j : Nat) : TE := fun σ H Q => ∃ p xs v, σ[i]? = some (some (.ref p)) ∧ SqL K H p xs ∧ xs[j]? = some v ∧ Q v H
theorem pl_nat {α : Type} {l : List α} {k : Nat} {x : α} (h : l[k]? = some x) : atI l (k : Int) = some x := by
  have hk := (List.getElem?_eq_some_iff.mp h).1
  unfold atI ixN
  rw [if_pos (by omega), if_pos (by omega)]
  simpa using h
theorem pe_pl (ho : PE X o (tVar i)) (hj : PE X ix (tC (.int (j : Nat)))) (hs : PlainIx ix := by exact fun _ _ => rfl) : PE X (.Subscript o ix pos) (tPl X.K i j) := pe_imp (pe_ix ix_list ho hj hs) fun σ H Q => by
  rintro ⟨p, xs, v, h1, h2, h3, q⟩
  exact ⟨_, h1, p, xs, (j : Nat), v, rfl, rfl, h2, pl_nat h3, q⟩
def xMutN (i j : Nat) (op : Mop) (as : List D) : Ex := fun e => match slotN e i j with
  | some (ds, es, n) => (match op n as es with
    | some (res, o, es') => some (res, o, e.set i (some (.list (ds.set j (.list es')), .o (n + 1))))
    | none => none)
  | none => none
theorem mutN_imp {r : V → List V → Hp → VK → Prop} {op : Mop} {vs : List V} {as : List D} (hr : MutD K r op) (hv : ∀ F, FzAll K F vs as) : ∀ σ H Q, cE K (xMutN i j op as) σ H Q → tPl K i j σ H fun x H1 => tyV K "list" x H1 ∧ r x vs H1 Q := fun σ H Q => by
  rintro ⟨F, en, A, d, o, e', E0, hx, post⟩
  unfold xMutN at hx
  split at hx
  · rename_i ds es n h0
    split at hx
    · rename_i res o' es' hop
      cases hx
      obtain ⟨p, xs, q, ys, B, hσ, hp, hxj, hq, hB, hAq, nB, hBA, put⟩ := E0.nst h0
      refine ⟨p, xs, _, hσ, SqL.of hp, hxj, .inl ⟨rfl, ys, SqL.of hq⟩, ?_⟩
      refine hr F H q ys vs as es es' n B d o Q E0.sub hq hB nB (hv F) hop fun v ys' B' R ha hb hw hRB hRB' => ?_
      obtain ⟨A', E2, st, hA', hAB⟩ := put ys' es' B' ha hb
      have up : ∀ a, R a → L2.upd H q (.lst ys') a = H a := fun a z => upd_ne fun y => nB (hRB q (y ▸ z))
      refine post v _ F A' R E2 (hw.mono (Same.refl _) up) (fun a z => E0.nf i a (hBA a (hRB a z))) ?_ ?_
      · rintro a z ⟨k, y⟩
        have hk : k = i := E0.dis k i a (hA' k a y) (hBA a (hRB a z))
        rw [hk] at y
        exact hRB' a z (hAB a y (hRB a z))
      · refine ⟨st.ff, st.keep, fun a z1 z2 z3 => ?_⟩
        obtain ⟨w1, w2, w3⟩ := st.fr a z1 z2 z3
        exact ⟨w1, w2, fun z => z.elim w3 fun z => z3 ⟨i, hBA a (hRB a z)⟩⟩
    · cases hx
  · cases hx
/-- xs[j].m(constants) -/
theorem E.mutN {name : Str} {id : String} {r : V → List V → Hp → VK → Prop} {op : Mop} {vs : List V} {as : List D} (slot : Slot "list" name id) (hty : typeOf (.builtin id) = pure (.type "method_descriptor")) (hm : MtR X id r) (hr : MutD X.K r op) (ho : PE X o (tVar i)) (hj : PE X ix (tC (.int (j : Nat))))
    (ha : PA X (e :: es) fun _ H Q => Q vs H) (hv : ∀ F, FzAll X.K F vs as) (hs0 : PlainIx ix := by exact fun _ _ => rfl)
    (hbase : attributeBase (.Subscript o ix tpos) name X.env (eval (.Subscript o ix tpos) X.env) = eval (.Subscript o ix tpos) X.env := by rfl)
    (hfew : ((backTo cpos (starEach (e :: es) X.env)).all (fun x => !x.1) && (backToKw cpos (keywordEach [] X.env)).all (fun x => x.1.isSome)
      && decide ((e :: es).length + ([] : List Keyword).length + (if ([] : List Keyword).isEmpty then 0 else 1) < 30)) = true := by rfl)
    (hline : (apos.endLine == cpos.line) = true := by rfl) (hs : starEach (e :: es) X.env = (false, eval e X.env) :: starEach es X.env := by rfl) (hplain : (backTo cpos (starEach es X.env)).any (·.1) = false := by rfl) :
    E X (.Call (.Attribute (.Subscript o ix tpos) name apos) (e :: es) [] cpos) (xMutN i j op as) := pe_imp (pe_bm PySem.F.plainAttrs_list slot hty hm (pe_pl ho hj hs0) ha hbase hfew hline hs hplain) (mutN_imp hr hv)
/-! xs[j][k] = v -/
def sSetN (i j : Nat) (k : Int) (fv : Ex) : Sx := fun e => bnd (fv e) fun d e1 => match slotN e1 i j with
  | some (ds, es, n) => if n = 0 ∨ still d = true then (match ixN es.length k with
      | some m => some (.nx, e1.set i (some (.list (ds.set j (.list (es.set m d))), .o (n + 1))))
      | none => none) else none
  | none => none
theorem S.setN {ev ek : Expr} {fv : Ex} {k : Int} {pos2 : Pos} (hv : E X ev fv) (ho : PE X o (tVar i)) (hj : PE X ix (tC (.int (j : Nat)))) (hk : PE X ek (tC (.int k))) (hs0 : PlainIx ix := by exact fun _ _ => rfl)
    (hs : swapsWithSole [.Subscript (.Subscript o ix pos2) ek tpos] ev pos.line X.env = pure false := by rfl) (hw : swappedStores [.Subscript (.Subscript o ix pos2) ek tpos] ev X.env = pure none := by rfl)
    (h1 : (assignEach [.Subscript (.Subscript o ix pos2) ek tpos] X.env).map (·.2) = [assign (.Subscript (.Subscript o ix pos2) ek tpos) X.env] := by rfl)
    (hg : ∀ v, assign (.Subscript (.Subscript o ix pos2) ek tpos) X.env v = (do
      let a ← holding [v] (eval (.Subscript o ix pos2) X.env); let b ← holding [v, a] (eval ek X.env); standAt tpos; holding [v, a, b] (setItem a b v); release [v, a, b] []) := by intro _; rfl) :
    S X ms (.Assign [.Subscript (.Subscript o ix pos2) ek tpos] ev pos) (sSetN i j k fv) := ps_imp (ps_asg hv.fz (pg_sub (pe_pl ho hj hs0) hk set_list hg) hs hw h1) fun D σ H => by
  rintro ⟨F, en, A, fl, e', E0, hx, post⟩
  obtain ⟨d, o1, e1, g1, hx⟩ := bnd_eq hx
  split at hx
  · rename_i ds es n g2
    split at hx
    · rename_i hf
      split at hx
      · rename_i m g5
        cases hx
        refine E.fz_run E0 g1 fun v H1 F1 A1 E1 hw st1 => ?_
        obtain ⟨p, xs, q, ys, B, hσ, hp, hxj, hq, hB, hAq, nB, hBA, put⟩ := E1.nst g2
        refine ⟨p, xs, _, hσ, SqL.of hp, hxj, ?_⟩
        obtain ⟨B', q1, q2⟩ := OwAll.set1 (k := m) (fit0 (H := H1) hw hf) hB
        obtain ⟨A', E3, st3, _, _⟩ := put _ _ B' q1 q2
        exact ⟨q, ys, k, m, rfl, rfl, hq, by rw [hB.length]; exact g5, post σ _ F1 _ E3 Mo.refl (st1.trans st3)⟩
      · cases hx
    · cases hx
  · cases hx
end
end Ev
/-! more statements and calls -/
namespace Ev
open PySem PySem.Spec PyProof.Rows L2
section
variable {X : Cx} {e o ix a b : Expr} {es : List Expr} {f g : Ex} {pos tpos apos cpos : Pos} {K : PySem.W.Frag} {F H : Hp} {i j : Nat} {ms : List Nat}
/-! ### x += e, x a known value -/
def sAug (i : Nat) (op : D → D → Option (D × Fg)) (f : Ex) : Sx := fun e => match e[i]? with
  | some (some (d1, .f)) => bnd (f e) fun d2 e2 => match op d1 d2 with
    | some (r, o) => if i < e2.length then some (.nx, e2.set i (some (r, o))) else none
    | none => none
  | _ => none
theorem S.aug {x : Str} {op : Operator} {r : R2} {opD : D → D → Option (D × Fg)} {pos' : Pos} (him : i ∈ ms) (hN : X.N.Nodup) (hi : X.N[i]? = some x) (hx : Loc X.env.scope x) (ho : OpR X (inplaceOp op) r) (hr : OpD X.K r opD) (he : E X e f)
    (hf : X.fn x = true ∨ X.env.scope.names.lookup x = some .local := by first | exact .inl rfl | exact .inr rfl | assumption) : S X ms (.AugAssign (.Name x pos') op e pos) (sAug i opD f) :=
  ps_imp (ps_aug hN hi hx he.fz (ti := r) (fun pins s σ H x y v u Q I rx ry q => ho pins s σ H x y v u Q I rx ry q) hf) fun Dd σ H => by
    rintro ⟨F, en, A, fl, e', E0, hx, post⟩
    unfold sAug at hx
    split at hx
    · rename_i d1 h0
      obtain ⟨d2, o2, e2, h1, hx⟩ := bnd_eq hx
      split at hx
      · rename_i res o3 hop
        split at hx
        · rename_i hi2
          cases hx
          obtain ⟨v, q1, q2⟩ := E0.at_ i _ _ h0
          refine ⟨v, q1, E.fz_run E0 h1 fun y H1 F1 A1 E1 hy st1 => ?_⟩
          refine hr F1 H1 v y d1 d2 res o3 _ E1.sub (q2.1.mono st1.ff) hy hop fun w H2 F2 R hw fr hR => ?_
          obtain ⟨g1, g2, g3, g4⟩ := fz_out E1 fr hR
          exact post _ H2 F2 _ (g1.put hi2 hw g2 g3) (Mo.set him) ((st1.trans g4).trans put_step)
        · cases hx
      · cases hx
    · cases hx
/-! ### a, b = e1, e2 -/
def sPar2 (i j : Nat) (f g : Ex) : Sx := fun e => match f e with
  | some (d1, o1, e1) => (match g e1 with
    | some (d2, o2, e2) => if i < e2.length ∧ j < e2.length then some (.nx, (e2.set i (some (d1, o1))).set j (some (d2, o2))) else none
    | none => none)
  | none => none
theorem S.par {x y : Str} {px py pt : Pos} {kt k2 : _} {pt2 : Pos} (him : i ∈ ms) (hjm : j ∈ ms) (hc : X.calm = true) (hN : X.N.Nodup) (hi : X.N[i]? = some x) (hj : X.N[j]? = some y) (hij : i ≠ j)
    (hx : X.env.scope.names.lookup x = some .local) (hy : X.env.scope.names.lookup y = some .local) (ha : E X a f) (hb : E X b g)
    (hw : swappedStores [.Tuple [.Name x px, .Name y py] kt pt] (.Tuple [a, b] k2 pt2) X.env = pure (some [x, y]) := by rfl)
    (hs : swapsWithSole [.Tuple [.Name x px, .Name y py] kt pt] (.Tuple [a, b] k2 pt2) pos.line X.env = pure false := by rfl)
    (hst : starEach [a, b] X.env = (false, eval a X.env) :: starEach [b] X.env := by rfl) (hst2 : starEach [b] X.env = (false, eval b X.env) :: starEach [] X.env := by rfl) :
    S X ms (.Assign [.Tuple [.Name x px, .Name y py] kt pt] (.Tuple [a, b] k2 pt2) pos) (sPar2 i j f g) := ps_imp (ps_par hc hN hi hj hij hx hy (pa_cons ha (pa_cons hb pa_nil hst2) hst) hw hs) fun Dd σ H => by
  rintro ⟨F, en, A, fl, e', E0, hx, post⟩
  unfold sPar2 at hx
  split at hx
  · rename_i d1 o1 e1 h1
    split at hx
    · rename_i d2 o2 e2 h2
      split at hx
      · rename_i hl
        cases hx
        refine ⟨F, en, A, d1, o1, e1, E0, h1, fun v H1 F1 A1 R1 E1 hv1 hn1 hd1 st1 => ?_⟩
        refine ⟨F1, e1, A1, d2, o2, e2, E1, h2, fun w H2 F2 A2 R2 E2 hv2 hn2 hd2 st2 => ?_⟩
        obtain ⟨st3, hh⟩ := Step.hold (A := U A) (R := R1) st1 st2 hn1 hd1 hv1.tr
        have E3 := E2.put (v := v) (d := d1) (o := o1) (R := R1) hl.1 (hv1.mono st2.ff fun a z => (hh a z).1) (fun a z => (hh a z).2.1) fun a z y => (hh a z).2.2 (.inl y)
        have E4 := E3.put (i := j) (v := w) (d := d2) (o := o2) (R := R2) (by rw [List.length_set]; exact hl.2) hv2 hn2 fun a z ⟨k, y⟩ => by
          dsimp only at y
          by_cases hk : k = i
          · rw [if_pos hk] at y; exact (hh a y).2.2 (.inr z)
          · rw [if_neg hk] at y; exact hd2 a z ⟨k, y⟩
        refine ⟨v, w, rfl, post _ H2 F2 _ E4 ((Mo.set him).trans (Mo.set hjm)) ?_⟩
        rw [or_assoc'] at st3
        refine ⟨st3.ff, st3.keep, fun a z1 z2 z3 => ?_⟩
        obtain ⟨w1, w2, w3⟩ := st3.fr a z1 z2 z3
        refine ⟨w1, w2, fun ⟨k, y⟩ => w3 ?_⟩
        dsimp only at y
        by_cases hk : k = j
        · rw [if_pos hk] at y; exact .inr (.inr y)
        · rw [if_neg hk] at y
          by_cases hk2 : k = i
          · rw [if_pos hk2] at y; exact .inr (.inl y)
          · rw [if_neg hk2] at y; exact .inl ⟨k, y⟩
      · cases hx
    · cases hx
  · cases hx
/-! ### a, b = e -/
def sUnp (g : Gx) (f : Ex) : Sx := fun e => bnd (f e) fun d e1 => match g d e1 with
  | some e2 => some (.nx, e2)
  | none => none
theorem S.unp {tg : Expr} {mt : List Nat} {g : Gx} (hmt : ∀ i ∈ mt, i ∈ ms) (he : E X e f) (hg : G X tg mt g) (hs : swapsWithSole [tg] e pos.line X.env = pure false := by rfl) (hw : swappedStores [tg] e X.env = pure none := by rfl)
    (h1 : (assignEach [tg] X.env).map (·.2) = [assign tg X.env] := by rfl) : S X ms (.Assign [tg] e pos) (sUnp g f) := ps_imp (ps_asg he.fz hg hs hw h1) fun Dd σ H => by
  rintro ⟨F, en, A, fl, e', E0, hx, post⟩
  obtain ⟨d, o1, e1, h1, hx⟩ := bnd_eq hx
  split at hx
  · rename_i e2 h2
    cases hx
    refine E.fz_run E0 h1 fun v H1 F1 A1 E1 hv st1 => ?_
    refine ⟨F1, e1, A1, d, e', E1, hv, h2, fun σ' A' E2 hU mo => ?_⟩
    exact post σ' H1 F1 A' E2 (mo.mono hmt) (st1.trans (sub_step hU))
  · cases hx
/-! ### slices of lists, tuples, texts -/
def dCut (d : D) (lo hi : Option Int) : Option (D × Fg) := match d with
  | .list ds => some (.list (Ev.cutD ds lo hi), .o 0)
  | .tuple ds => some (.tuple (Ev.cutD ds lo hi), .f)
  | .str z => if z.length ≤ sizeLine then some (.str (cutS z lo hi), .f) else none
  | _ => none
def xSlA (f : Ex) (a b : Px) : Ex := fun e => bnd (f e) fun d e1 => match a e1 with
  | some (lo, e2) => (match b e2 with
    | some (hi, e3) => (match dCut d lo hi with
      | some (r, o) => some (r, o, e3)
      | none => none)
    | none => none)
  | none => none
theorem cut_all {ds : List D} {lo hi : Option Int} (h : HT.sIx ds.length 0 lo = 0 ∧ HT.sIx ds.length ds.length hi = ds.length) : Ev.cutD ds lo hi = ds := by
  unfold Ev.cutD; rw [h.1, h.2]; simp
theorem E.slA {lo hi : Option Expr} {pa pb : Px} {p2 : Pos} (he : E X e f) (hl : Pt X lo pa) (hh : Pt X hi pb) : E X (.Subscript e (.Slice lo hi none p2) pos) (xSlA f pa pb) := pe_imp (pe_slice (SlR.or sl_list (SlR.or sl_tupA sl_str)) he.fz hl hh) fun σ H Q => by
  rintro ⟨F, en, A, d, o, e', E0, hx, post⟩
  obtain ⟨d1, o1, e1, h1, hx⟩ := bnd_eq hx
  split at hx
  · rename_i lo1 e2 h2
    split at hx
    · rename_i hi1 e3 h3
      split at hx
      · rename_i r o2 hc
        cases hx
        refine E.fz_run E0 h1 fun v H1 F1 A1 E1 hv st1 => ?_
        refine ⟨F1, e1, A1, lo1, e2, E1, h2, fun H2 F2 A2 E2 st2 => ?_⟩
        refine ⟨F2, e2, A2, hi1, e', E2, h3, fun H3 F3 A3 E3 st3 => ?_⟩
        have hv3 := (hv.mono st2.ff).mono st3.ff
        have st := (st1.trans st2).trans st3
        unfold dCut at hc
        split at hc
        · cases hc
          cases hv3 with
          | lst hs ha =>
            refine .inl ⟨_, _, rfl, sqL_mono E3.sub hs, fun p hp => ?_⟩
            obtain ⟨q1, q2, q3, q4⟩ := fz_out E3 (fresh_new (u := .lst (cutV _ lo1 hi1)) E3.sub hp) (new_R E3.sub hp)
            exact post _ _ F3 A3 _ q1 (vd_new hp ha.cut) q2 q3 (st.trans q4)
        · cases hc
          cases hv3 with
          | @tup _ xs _ hs ha =>
            refine .inr (.inl ⟨_, _, rfl, sqT_mono E3.sub hs, fun hw => ?_, fun hw p hp => ?_⟩)
            · rw [ha.length] at hw
              refine post _ _ F3 A3 Fp.no E3 ⟨?_, rfl⟩ (fun _ z => z.elim) (fun _ z => z.elim) (by rw [or_no]; exact st)
              rw [cut_all hw]
              exact .tup hs ha
            · have fr := fresh_know (u := .tup (cutV xs lo1 hi1)) E3.sub hp
              have hcut := FzAll.mono fr.ff (ha.cut (lo := lo1) (hi := hi1))
              refine post _ _ _ A3 Fp.no (E3.fresh fr) ⟨.tup (SqT.of upd_same) hcut, rfl⟩ (fun _ z => z.elim) (fun _ z => z.elim) (st.trans (fr.step (R := Fp.no) fun _ z => z.elim))
        · split at hc
          · rename_i hz
            cases hc
            cases hv3
            exact .inr (.inr ⟨_, rfl, hz, post _ _ F3 A3 Fp.no E3 vd_str (fun _ z => z.elim) (fun _ z => z.elim) (by rw [or_no]; exact st)⟩)
          · cases hc
        · cases hc
      · cases hx
    · cases hx
  · cases hx
end
/-! ### a call that leaves the last arguments to their defaults -/
section
variable {K : PySem.W.Frag} {F H : Hp} {m : Ex}
def mD (dds : List D) (m : Ex) : Ex := fun e => match m (e ++ dds.map fun d => some (d, .f)) with
  | some (r, o, eo) => some (r, o, eo.take e.length)
  | none => none
theorem env_more {vs dvs : List V} {e : En} {A : Nat → Fp} {dds : List D} (E0 : EnvOk K F H (vs.map some) e A) (h : FzAll K F dvs dds) : EnvOk K F H ((vs ++ dvs).map some) (e ++ dds.map fun d => some (d, .f)) A := by
  have hl := E0.len
  rw [List.length_map] at hl
  rw [List.map_append]
  refine ⟨by rw [List.length_append, List.length_append, List.length_map, List.length_map, List.length_map, hl, h.length], fun i d o q => ?_, fun i q a ha => ?_, E0.dis, E0.nf, E0.sub⟩
  · by_cases hi : i < e.length
    · rw [List.getElem?_append_left hi] at q
      obtain ⟨v, q1, q2⟩ := E0.at_ i d o q
      exact ⟨v, by rw [List.getElem?_append_left (by rw [List.length_map]; omega)]; exact q1, q2⟩
    · rw [List.getElem?_append_right (by omega), List.getElem?_map] at q
      cases hd : dds[i - e.length]? with
      | none => rw [hd] at q; cases q
      | some d1 =>
        rw [hd] at q
        cases q
        obtain ⟨v, w1, w2⟩ := h.get hd
        refine ⟨v, by rw [List.getElem?_append_right (by rw [List.length_map]; omega), List.length_map, List.getElem?_map, ← hl, w1]; rfl, w2, ?_⟩
        refine fp_ext fun a => ⟨fun z => E0.un i (fun d n y => ?_) a z, fun z => z.elim⟩
        rw [List.getElem?_eq_none (by omega)] at y
        cases y
  · refine E0.un i (fun d n z => q d n ?_) a ha
    rw [List.getElem?_append_left (len_of z)]; exact z
theorem env_less {vs dvs : List V} {eo : En} {A : Nat → Fp} (E2 : EnvOk K F H ((vs ++ dvs).map some) eo A) : EnvOk K F H (vs.map some) (eo.take vs.length) (fun i => if i < vs.length then A i else Fp.no) := by
  have hl := E2.len
  rw [List.length_map, List.length_append] at hl
  refine ⟨by rw [List.length_take, List.length_map]; omega, fun i d o q => ?_, fun i q a ha => ?_, fun i j a h1 h2 => ?_, fun i a h => ?_, E2.sub⟩
  · have hi : i < vs.length := by have := len_of q; rw [List.length_take] at this; omega
    rw [List.getElem?_take_of_lt hi] at q
    obtain ⟨v, w1, w2⟩ := E2.at_ i d o q
    rw [List.map_append, List.getElem?_append_left (by rw [List.length_map]; exact hi)] at w1
    exact ⟨v, w1, by rw [if_pos hi]; exact w2⟩
  · by_cases hi : i < vs.length
    · rw [if_pos hi] at ha
      exact E2.un i (fun d n z => q d n (by rw [List.getElem?_take_of_lt hi]; exact z)) a ha
    · rw [if_neg hi] at ha; exact ha
  · by_cases hi : i < vs.length
    · by_cases hj : j < vs.length
      · rw [if_pos hi] at h1; rw [if_pos hj] at h2; exact E2.dis i j a h1 h2
      · rw [if_neg hj] at h2; exact h2.elim
    · rw [if_neg hi] at h1; exact h1.elim
  · by_cases hi : i < vs.length
    · rw [if_pos hi] at h; exact E2.nf i a h
    · rw [if_neg hi] at h; exact h.elim
theorem app_impD {E : XK} {as : List Ar} {dds : List D} {dvs : List V} {n : Nat} (nd : (arIos as).Nodup) (hn : as.length + dds.length = n) (hd : ∀ F, FzAll K F dvs dds) : ∀ σ H Q, cE K (xApp (mD dds m) as) σ H Q → tCall (spD K n m) dvs E (cAr K as) σ H Q := fun σ H Q => by
  rintro ⟨F, en, A, d, o, e', E0, hx, post⟩
  unfold xApp at hx
  split at hx
  · rename_i ds e1 h1
    by_cases hl : arLive e1 (arIos as) = true
    · rw [if_pos hl] at hx
      split at hx
      · rename_i r o' eo hm
        cases hx
        unfold mD at hm
        split at hm
        · rename_i r2 o2 eo2 hm2
          cases hm
          refine ⟨F, en, A, ds, e1, E0, h1, hl, fun vs H1 F1 A1 E1 ha st => ⟨by rw [List.length_append, ha.length, (hd F1).length]; exact hn, ?_⟩⟩
          have EA := arEnv_ok E1 ha nd hl
          have hle : (arEnv as ds e1).length = vs.length := by rw [EA.len, List.length_map]
          refine ⟨F1, _, _, d, o, eo2, env_more EA (hd F1), hm2, fun v H2 F2 A2 R E2 hv hn2 hd2 st2 => ?_⟩
          have sub : ∀ a, U (fun i => if i < vs.length then A2 i else Fp.no) a → U A2 a := fun a ⟨i, z⟩ => by
            dsimp only at z
            by_cases hi : i < vs.length
            · rw [if_pos hi] at z; exact ⟨i, z⟩
            · rw [if_neg hi] at z; exact z.elim
          have E3 := env_less E2
          rw [hle] at post
          obtain ⟨q1, q2, q3⟩ := env_after E1 ha nd hl E3 (fun a z y => hd2 a z (sub a y)) (st2.trans (sub_step fun a z => z.imp (sub a) id))
          exact post v H2 F2 _ R q1 hv hn2 q3 (st.trans q2)
        · cases hm
      · cases hx
    · rw [if_neg hl] at hx; cases hx
  · cases hx
end
/-- a def as callers see it that leave the last arguments out -/
structure DfD (P : Program) (w : World) (K : PySem.W.Frag) (mg : Str → Option Value) (base : Heap) (k : Nat) (x : Str) (n : Nat) (dds : List D) (m : Ex) : Prop where
  ex : ∃ (f : Addr) (fd : FuncData) (ps : List Str) (ds : List Value) (dvs : List V), FnG P w K mg base k f fd ps (spD K n m) ∧ mg x = some (.ref f) ∧ PySem.W.keepIn K (.ref f) = true ∧ Binds K fd ps ds ∧ Vals dvs ds ∧ ∀ F, FzAll K F dvs dds
section
variable {X : Cx} {k n : Nat} {x : Str} {m : Ex} {as : List Ar} {e : Expr} {es : List Expr} {p pos : Pos} {dds : List D}
theorem E.appD (D : DfD X.prog X.w X.K X.mg X.base k x n dds m) (hgd : X.A.guards = some []) (hr : Room k X.A) (hg : Gl X x) (ha : Arg X (e :: es) as) (nd : (arIos as).Nodup := by decide) (hn : as.length + dds.length = n := by rfl)
    (hdb : (x == ("__debug__" : Str)) = false := by decide) (he : starEach (e :: es) X.env = (false, eval e X.env) :: starEach es X.env := by rfl) (hpl : (backTo pos (starEach es X.env)).any (·.1) = false := by rfl) :
    E X (.Call (.Name x p) (e :: es) [] pos) (xApp (mD dds m) as) := by
  obtain ⟨f, fd, ps, ds, dvs, h1, h2, h3, h4, h5, h6⟩ := D.ex
  exact pe_imp (pe_callG h1 hgd hr hg h2 h3 h4 h5 ha hdb he hpl) (app_impD nd hn h6)
end
/-! ### recursion by fuel -/
section
variable {P : Program} {w : World} {K : PySem.W.Frag} {mg : Str → Option Value} {base : Heap}
theorem FnG.none {k n : Nat} {f : Addr} {fd : FuncData} {ps : List Str} (h : ps.length = n) : FnG P w K mg base k f fd ps (spD K n fun _ => Option.none) :=
  ⟨fun vs H Q E q => q.1.trans h.symm, fun A outer s H args us vs Q E g hr e0 b r q => by obtain ⟨_, F, e, A, d, o, e', _, hx, _⟩ := q; cases hx⟩
theorem Df.none {k n : Nat} {x : Str} {f : Addr} {fd : FuncData} {ps : List Str} (h : ps.length = n) (hm : mg x = some (.ref f)) (kp : PySem.W.keepIn K (.ref f) = true) (hb : Binds K fd ps []) : Df P w K mg base k x n fun _ => Option.none := ⟨f, fd, ps, FnG.none h, hm, kp, hb⟩
/-- n turns deep -/
def fuel (step : Ex → Ex) : Nat → Ex
  | 0 => fun _ => Option.none
  | n + 1 => step (fuel step n)
end
end Ev
/-! zip of lists or tuples, list.index -/
namespace Ev
open PySem PySem.Spec PyProof.Rows L2 RZ
theorem walk_zipT {K : PySem.W.Frag} {a b : Addr} {xs ys : List V} {n : Nat} (hn : n = min xs.length ys.length) : Walk (ItzT K a b) n (fun H => SqT K H a xs ∧ SqT K H b ys) (YPair (fun i => xs[i]?) (fun i => ys[i]?)) := by
  subst hn
  refine ⟨fun i _ hi q => ?_, fun _ q => ⟨xs, ys, q.1, q.2, by omega⟩, fun i H v H' _ q y => ?_⟩
  · have h1 : i < xs.length := by omega
    have h2 : i < ys.length := by omega
    exact ⟨xs, ys, xs[i], ys[i], q.1, q.2, by simp [h1], by simp [h2]⟩
  · obtain ⟨T, x, z, h1, h2, h3, h4, h5⟩ := y
    exact ⟨T, x, z, h1, h2, h3, h4 xs q.1, h5 ys q.2⟩
def iZipE (g : Ax) : Ix := fun e => match g e with
  | some ([.list ds, .list es], e1) => some (zipD ds es, e1)
  | some ([.tuple ds, .tuple es], e1) => some (zipD ds es, e1)
  | _ => none
section
variable {X : Cx} {K : PySem.W.Frag}
theorem I.zipA {e e2 : Expr} {g : Ax} {p pos tpos : Pos} {elts : List Expr} {kk : Nat} (hg : Gl X "zip") (hm : X.mg "zip" = none) (ha : As X [e, e2] g) (hs : starEach [e, e2] X.env = (false, eval e X.env) :: starEach [e2] X.env := by rfl) (hpl : (backTo pos (starEach [e2] X.env)).any (·.1) = false := by rfl) :
    I X (.Tuple elts kk tpos) (.Call (.Name "zip" p) [e, e2] [] pos) (iZipE g) := pi_imp (pi_zipA hg hm ha hs hpl) fun σ H R => by
  rintro ⟨F, en, A, ds, e', E0, hx, post⟩
  unfold iZipE at hx
  split at hx
  · rename_i es1 es2 e1 h1
    cases hx
    refine ⟨F, en, A, _, e', E0, h1, fun vs H1 F1 A1 E1 hv st => ?_⟩
    obtain ⟨x, y, rfl, hx, hy⟩ := hv.two
    cases hx with
    | @lst _ xs _ hq ha =>
      cases hy with
      | @lst _ ys _ hq2 ha2 =>
        refine ⟨_, _, xs, ys, rfl, .inl ⟨sqL_mono E1.sub hq, sqL_mono E1.sub hq2, post _ H1 F1 A1 E1 ?_ st⟩⟩
        have hl : (zipD es1 es2).length = min xs.length ys.length := by unfold zipD; simp [ha.length, ha2.length]
        refine ⟨fun j H hj s => (walk_zip rfl).goes j H (by rw [← hl]; exact hj) ⟨sqL_mono s hq, sqL_mono s hq2⟩, fun H s => by rw [hl]; exact (walk_zip rfl).stops H ⟨sqL_mono s hq, sqL_mono s hq2⟩, fun j H x H' d F2 hd s1 s2 y => ?_⟩
        obtain ⟨T, x1, y1, rfl, hT, rfl, q1, q2⟩ := (walk_zip rfl).yields j H x H' (by rw [← hl]; exact (List.getElem?_eq_some_iff.mp hd).1) ⟨sqL_mono s2 (sqL_mono s1 hq), sqL_mono s2 (sqL_mono s1 hq2)⟩ y
        obtain ⟨d1, d2, r1, r2, rfl⟩ := zipD_get hd
        obtain ⟨v, w1, w2⟩ := ha.get r1
        obtain ⟨v2, w3, w4⟩ := ha2.get r2
        dsimp only at q1 q2
        rw [w1] at q1
        rw [w3] at q2
        cases q1
        cases q2
        exact pair_fresh s2 hT (w2.mono s1) (w4.mono s1)
  · rename_i es1 es2 e1 h1
    cases hx
    refine ⟨F, en, A, _, e', E0, h1, fun vs H1 F1 A1 E1 hv st => ?_⟩
    obtain ⟨x, y, rfl, hx, hy⟩ := hv.two
    cases hx with
    | @tup _ xs _ hq ha =>
      cases hy with
      | @tup _ ys _ hq2 ha2 =>
        refine ⟨_, _, xs, ys, rfl, .inr ⟨sqT_mono E1.sub hq, sqT_mono E1.sub hq2, post _ H1 F1 A1 E1 ?_ st⟩⟩
        have hl : (zipD es1 es2).length = min xs.length ys.length := by unfold zipD; simp [ha.length, ha2.length]
        refine ⟨fun j H hj s => (walk_zipT rfl).goes j H (by rw [← hl]; exact hj) ⟨sqT_mono s hq, sqT_mono s hq2⟩, fun H s => by rw [hl]; exact (walk_zipT rfl).stops H ⟨sqT_mono s hq, sqT_mono s hq2⟩, fun j H x H' d F2 hd s1 s2 y => ?_⟩
        obtain ⟨T, x1, y1, rfl, hT, rfl, q1, q2⟩ := (walk_zipT rfl).yields j H x H' (by rw [← hl]; exact (List.getElem?_eq_some_iff.mp hd).1) ⟨sqT_mono s2 (sqT_mono s1 hq), sqT_mono s2 (sqT_mono s1 hq2)⟩ y
        obtain ⟨d1, d2, r1, r2, rfl⟩ := zipD_get hd
        obtain ⟨v, w1, w2⟩ := ha.get r1
        obtain ⟨v2, w3, w4⟩ := ha2.get r2
        dsimp only at q1 q2
        rw [w1] at q1
        rw [w3] at q2
        cases q1
        cases q2
        exact pair_fresh s2 hT (w2.mono s1) (w4.mono s1)
  · cases hx
/-- xs.index(x) -/
def tIndex (a : D) (as : List D) : Option (D × Fg) := match a, as with
  | .list ds, [d] => if eqOk (.list ds) = true ∧ eqOk d = true then (ds.findIdx? fun z => PyData.eqv z d).map fun j => (.int (j : Nat), .f) else none
  | _, _ => none
theorem me_index : MetD K (rIndexD K) tIndex := fun F H x d ys as res o Q s hx hv hop q => by
  unfold tIndex at hop
  split at hop
  · rename_i ds d2
    split at hop
    · rename_i hk
      obtain ⟨y, rfl, hy⟩ := hv.one
      cases hj : ds.findIdx? fun z => PyData.eqv z d2 with
      | none => rw [hj] at hop; cases hop
      | some j =>
        rw [hj] at hop
        cases hop
        obtain ⟨h1, h2, h3⟩ := List.findIdx?_eq_some_iff_getElem.mp hj
        have hdx := Fz.dp (eqOk_sh hk.1).2 (hx.mono s)
        have hdy := Fz.dp (eqOk_sh hk.2).2 (hy.mono s)
        cases hx with
        | lst hs ha =>
          refine ⟨_, y, d2, ds, j, ds[j], rfl, rfl, hdx, hdy, (eqOk_sh hk.1).1, (eqOk_sh hk.2).1, List.getElem?_eq_getElem h1, h2, fun m z hm hz => ?_, q _ H F Fp.no vd_int (Fresh.refl s) no_fresh⟩
          have hml : m < ds.length := by omega
          have := h3 m hm
          rw [List.getElem?_eq_getElem hml] at hz
          cases hz
          simpa using this
    · cases hop
  · cases hop
/-! ### sorted(d) of a dict whose keys are texts -/
def leS (a b : Str) : Bool := !ltCps b.cps.toList a.cps.toList
theorem leS_eq (a b : Str) : leS a b = decide (a.cps.toList ≤ b.cps.toList) := by
  unfold leS
  rw [ltCps_eq]
  by_cases h : b.cps.toList < a.cps.toList
  · rw [decide_eq_true h, decide_eq_false (fun z : a.cps.toList ≤ b.cps.toList => z h)]; rfl
  · rw [decide_eq_false h, decide_eq_true (show a.cps.toList ≤ b.cps.toList from h)]; rfl
theorem leS_trans {a b c : Str} (h1 : leS a b = true) (h2 : leS b c = true) : leS a c = true := by
  rw [leS_eq, decide_eq_true_eq] at *
  exact List.le_trans h1 h2
theorem leS_total (a b : Str) : (leS a b || leS b a) = true := by
  rw [leS_eq, leS_eq, Bool.or_eq_true, decide_eq_true_eq, decide_eq_true_eq]
  exact List.le_total _ _
theorem leS_anti {a b : Str} (h1 : leS a b = true) (h2 : leS b a = true) : a = b := by
  rw [leS_eq, decide_eq_true_eq] at *
  have := List.le_antisymm h1 h2
  obtain ⟨⟨x⟩⟩ := a
  obtain ⟨⟨y⟩⟩ := b
  have e : x = y := this
  rw [e]
def sortS (ks : List Str) : List Str := ks.mergeSort leS
theorem rising_pw : ∀ (ys : List Str) (y : Str), risingS y ys = true → (y :: ys).Pairwise fun a b => leS a b = true
  | [], y, _ => List.pairwise_singleton ..
  | z :: ys, y, h => by
    have h' : (leS y z && risingS z ys) = true := h
    rw [Bool.and_eq_true] at h'
    have ih := rising_pw ys z h'.2
    refine List.pairwise_cons.mpr ⟨fun w hw => ?_, ih⟩
    rcases List.mem_cons.mp hw with rfl | hw
    · exact h'.1
    · exact leS_trans h'.1 ((List.pairwise_cons.mp ih).1 w hw)
theorem sortS_uniq {ys ks : List Str} (hp : ys.Perm ks) (hs : sortedS ys = true) : ys = sortS ks := by
  have h1 : ys.Pairwise fun a b => leS a b = true := by
    cases ys with
    | nil => exact .nil
    | cons y ys => exact rising_pw ys y hs
  have h2 : (sortS ks).Pairwise fun a b => leS a b = true := List.pairwise_mergeSort (le := leS) (fun a b c => leS_trans) leS_total ks
  exact List.Perm.eq_of_pairwise (fun a b _ _ => leS_anti) h1 h2 (hp.trans (List.mergeSort_perm ks leS).symm)
def kSortedK : List D → Option (D × Fg)
  | [.dict ds] => (match strsD (vKeys ds) with
    | some ks => if ks.length < 64 then some (.list ((sortS ks).map .str), .o 0) else none
    | none => none)
  | _ => none
def rSortedK : List V → Hp → VK → Prop := fun xs H Q => ∃ (a : Addr) (kvs : List (Key × V)) (ks : List Str), xs = [.ref a] ∧ Rd H a (.dK kvs) ∧ kvs.map (·.1) = ks.map Sum.inr ∧ ks.length < 64 ∧
    ∀ ys p, ys.Perm ks → sortedS ys = true → H p = none → Q (.ref p) (upd H p (.lst (ys.map V.str)))
theorem fz_strs {F : Hp} : ∀ l : List Str, FzAll K F (l.map V.str) (l.map .str)
  | [] => .nil
  | z :: l => .cons (.str z) (fz_strs l)
theorem keys_strs {F : Hp} : ∀ {kvs : List (Key × V)} {ds : List (D × D)} {ks : List Str}, FzKV K F kvs ds → strsD (vKeys ds) = some ks → kvs.map (·.1) = ks.map Sum.inr
  | _, _, ks, .nil, h => by cases h; rfl
  | (k, v) :: kvs, _, ks, .cons h a, e => by
    unfold vKeys at e
    rw [List.map_cons] at e
    cases k with
    | inl i => cases e
    | inr z =>
      unfold kD strsD at e
      rename_i vs ds
      cases hr : strsD (ds.map (·.1)) with
      | none => rw [hr] at e; cases e
      | some r =>
        rw [hr] at e
        cases e
        have ih := keys_strs (ks := r) a hr
        rw [List.map_cons, List.map_cons, ih]
theorem cd_sortedK : CallD K rSortedK kSortedK := fun F H xs ds res o Q s hv he q => by
  unfold kSortedK at he
  split at he
  · rename_i es
    obtain ⟨x, rfl, h⟩ := hv.one
    split at he
    · rename_i ks hk
      split at he
      · rename_i hl
        cases he
        cases h with
        | dct hr ha =>
          refine ⟨_, _, ks, rfl, rd_mono s hr, keys_strs ha hk, hl, fun ys p hp hs hn => ?_⟩
          rw [sortS_uniq hp hs]
          exact q _ _ F _ (vd_new hn (fz_strs _)) (fresh_new (u := .lst _) s hn) (new_R s hn)
      · cases he
    · cases he
  · cases he
def kSortedA : List D → Option (D × Fg)
  | [.list ds] => if sortOk ds = true then some (.list (sortDs ds), .o 0) else none
  | [.dict ds] => (match strsD (vKeys ds) with
    | some ks => if ks.length < 64 then some (.list ((sortS ks).map .str), .o 0) else none
    | none => none)
  | _ => none
theorem call_sortedB (hc : X.calm = true) (hu : X.A.units + 64 < cLine) : CallR X (.builtin "sorted") (fun xs H Q => rSortedA X.K xs H Q ∨ rSortedK xs H Q) := CallR.or (cr_sortedA hu) (call_sortedD hc)
theorem cd_sortedB : CallD K (fun xs H Q => rSortedA K xs H Q ∨ rSortedK xs H Q) kSortedA := CallD.or (K := K) cd_sorted cd_sortedK fun a r h => by
  unfold kSortedA at h
  split at h
  · exact .inl h
  · exact .inr h
  · cases h
end
end Ev
namespace Ev
open PySem PySem.Spec PyProof.Rows L2
section
variable {X : Cx} {K : PySem.W.Frag} {i : Nat} {o b e : Expr} {g f : Ex} {pos : Pos}
/-! ### an item of a slot's own list or dict, the slot left as it is -/
def xIxL (i : Nat) (g : Ex) : Ex := fun e => match slotL e i with
  | some (_, 0) => bnd (g e) fun k e1 => match slotL e1 i, k with
    | some (ds, 0), .int j => (match atI ds j with
      | some d => some (d, .f, e1)
      | none => none)
    | _, _ => none
  | _ => none
theorem E.ixL (ho : PE X o (tVar i)) (hb : E X b g) (hs : PlainIx b := by exact fun _ _ => rfl) : E X (.Subscript o b pos) (xIxL i g) := pe_imp (pe_ix ix_list ho hb.fz hs) fun σ H Q => by
  rintro ⟨F, en, A, d, o, e', E0, hx, post⟩
  unfold xIxL at hx
  split at hx
  · rename_i ds0 h0
    obtain ⟨k, o2, e1, h1, hx⟩ := bnd_eq hx
    split at hx
    · rename_i ds j h2
      split at hx
      · rename_i d1 h3
        cases hx
        obtain ⟨p, xs, B, hσ, hp, _⟩ := E0.lst (slotL_eq h0)
        refine ⟨_, hσ, E.fz_run E0 h1 fun kv H1 F1 A1 E1 hk st => ?_⟩
        obtain ⟨p1, xs1, B1, hσ1, hp1, hB1, _⟩ := E1.lst (slotL_eq h2)
        rw [hσ] at hσ1
        cases hσ1
        cases hk
        obtain ⟨v, q1, q2⟩ := atI_all hB1.to_fz.1 h3
        exact ⟨p, xs1, j, v, rfl, rfl, SqL.of hp1, q1, post v H1 F1 A1 Fp.no E1 ⟨q2, rfl⟩ (fun _ z => z.elim) (fun _ z => z.elim) (by rw [or_no]; exact st)⟩
      · cases hx
    · cases hx
  · cases hx
def xIxD (i : Nat) (g : Ex) : Ex := fun e => match slotD e i with
  | some (_, 0) => bnd (g e) fun k e1 => match slotD e1 i, keyD k with
    | some (ds, 0), some j => (match lookD ds j with
      | some d => some (d, .f, e1)
      | none => none)
    | _, _ => none
  | _ => none
theorem E.ixD (hu : X.A.units + 1 < cLine) (ho : PE X o (tVar i)) (hb : E X b g) (hs : NoSl b := by exact fun _ _ => rfl) : E X (.Subscript o b pos) (xIxD i g) := pe_imp (pe_dget hu ho hb.fz hs) fun σ H Q => by
  rintro ⟨F, en, A, d, o, e', E0, hx, post⟩
  unfold xIxD at hx
  split at hx
  · rename_i ds0 h0
    obtain ⟨k, o2, e1, h1, hx⟩ := bnd_eq hx
    split at hx
    · rename_i ds j h2 hkd
      split at hx
      · rename_i d1 h3
        cases hx
        obtain ⟨p, xs, B, hσ, hp, _⟩ := E0.dct (slotD_eq h0)
        refine ⟨_, hσ, E.fz_run E0 h1 fun kv H1 F1 A1 E1 hk st => ?_⟩
        obtain ⟨p1, xs1, B1, hσ1, hp1, hB1, _⟩ := E1.dct (slotD_eq h2)
        rw [hσ] at hσ1
        cases hσ1
        obtain ⟨v, q1, q2⟩ := (fzKV_look (k := j) hB1.to_fz.1).1 d h3
        rw [keyD_fz hk hkd]
        exact ⟨p, v, rfl, .inl ⟨xs1, j, .inl hp1, rfl, q1.symm⟩, post v H1 F1 A1 Fp.no E1 ⟨q2, rfl⟩ (fun _ z => z.elim) (fun _ z => z.elim) (by rw [or_no]; exact st)⟩
      · cases hx
    · cases hx
  · cases hx
def xIxO (i : Nat) (g : Ex) : Ex := fun e => match e[i]? with
  | some (some (.list _, .o 0)) => xIxL i g e
  | some (some (.dict _, .o 0)) => xIxD i g e
  | _ => xOp dIxA (xUse i) g e
theorem E.ixO (hu : X.A.units + 1 < cLine) (ho : PE X o (tVar i)) (hb : E X b g) (hs : PlainIx b := by exact fun _ _ => rfl) (hs2 : NoSl b := by exact fun _ _ => rfl) : E X (.Subscript o b pos) (xIxO i g) :=
  E.alt (E.ixL ho hb hs) (E.alt (E.ixD hu ho hb hs2) (E.ixA hu (E.use ho) hb hs hs2) fun en r (h : (match en[i]? with | some (some (.dict _, .o 0)) => xIxD i g en | _ => xOp dIxA (xUse i) g en) = some r) => by
    split at h
    · exact .inl h
    · exact .inr h) (f2 := fun en => match en[i]? with | some (some (.dict _, .o 0)) => xIxD i g en | _ => xOp dIxA (xUse i) g en) fun en r h => by
    unfold xIxO at h
    split at h
    · exact .inl h
    · rename_i h1; right; rw [h1]; exact h
    · rename_i h1 h2
      right
      split
      · rename_i ds h3; exact absurd h3 (h2 ds)
      · exact h
/-! ### x += e for whole numbers and texts -/
def dAddI : D → D → Option (D × Fg)
  | .int i, .int j => some (.int (i + j), .f)
  | .str a, .str b => if a.length + b.length ≤ sizeLine then some (.str (a ++ b), .f) else none
  | _, _ => none
def rAddI : R2 := fun x y H Q => (∃ i j, x = .int i ∧ y = .int j ∧ Q (.int (i + j)) H) ∨ (∃ i j, x = .str i ∧ y = .str j ∧ i.length + j.length ≤ sizeLine ∧ Q (.str (i ++ j)) H)
theorem iop_addI : OpR X (inplaceOp .Add) rAddI := fun pins s σ H x y v u Q I rx ry q => by
  rcases q with ⟨i, j, h1, h2, q⟩ | q
  · exact iop_add pins s σ H x y v u Q I rx ry ⟨i, j, h1, h2, q⟩
  · exact iop_add_str pins s σ H x y v u Q I rx ry q
theorem od_addI : OpD K rAddI dAddI := fun F H x y d1 d2 res o Q s h1 h2 he q => by
  unfold dAddI at he
  split at he
  · cases he
    cases h1
    cases h2
    exact .inl ⟨_, _, rfl, rfl, q _ H F Fp.no vd_int (Fresh.refl s) no_fresh⟩
  · split at he
    · rename_i hz
      cases he
      cases h1
      cases h2
      exact .inr ⟨_, _, rfl, rfl, hz, q _ H F Fp.no vd_str (Fresh.refl s) no_fresh⟩
    · cases he
  · cases he
/-! ### the binding of a def that is called without its last arguments -/
theorem binds_part {x qual : Str} {params : Arguments} {body : List Stmt} {scope : Scope} {oc dV kV dc pm cd ct : Value} {od an : Option Addr} {sl : Array (Option Value)} {fa : Addr} {dvs : List V} {ps : List Str} (n j : Nat) (hd : DflV K dV dvs) (hne : dvs ≠ [])
    (l : K.lookup fa = some ⟨oc, od, .func (PySem.W.fnOf x qual params body scope dV kV dc pm an cd ct), sl⟩) (c : PySem.W.codeIn K cd qual = true) (k : PySem.W.keepIn K (.ref fa) = true) (hn : n + (dvs.length - j) = ps.length)
    (h : ∀ (T : Addr) (kV doc pm : Value) (an : Option Addr) (cdv ct : Value) (us its : List Value), us.length = n → its.length = dvs.length →
      ∃ k, bindArgs (PySem.W.fnOf x qual params body scope (.ref T) kV doc pm an cdv ct) ⟨us, []⟩ = seqItems? (.ref T) >>= k ∧ k (some its.toArray) = pure (ps.zip (us ++ its.drop j))) : ∃ ds, Vals (dvs.drop j) ds ∧ Binds K (PySem.W.fnOf x qual params body scope dV kV dc pm an cd ct) ps ds := by
  have F : FunD K x qual params body scope dvs [] fa (PySem.W.fnOf x qual params body scope dV kV dc pm an cd ct) := ⟨⟨oc, od, dV, kV, dc, pm, an, cd, ct, sl, rfl, l, c, hd, .inl rfl⟩, k⟩
  exact F.binds1 (ps := ps) n j hne hn h
end
end Ev
namespace Ev
open PySem PySem.Spec PyProof.Rows L2
section
variable {X : Cx} {K : PySem.W.Frag} {i : Nat} {o b e : Expr} {g f : Ex} {pos : Pos}
/-! ### list(x): a copy of a slot's own list, the slot left as it is -/
def xCpL (i : Nat) : Ex := fun e => match slotL e i with
  | some (ds, 0) => some (.list ds, .o 0, e)
  | _ => none
theorem ow0_fz {F H : Hp} : ∀ {vs : List V} {ds : List D} {B : Fp}, OwAll K F H 0 vs ds B → FzAll K F vs ds
  | _, _, _, .nil => .nil
  | _, _, _, .cons (.fz h) a _ => .cons h (ow0_fz a)
  | _, _, _, .cons (.sc h _) a _ => .cons h (ow0_fz a)
theorem E.cpL {x : Str} {p pos : Pos} {e : Expr} (hc : X.calm = true) (hg : Gl X x) (hm : X.mg x = none) (hv : bootBuiltins x = some (.type "list")) (ho : PE X e (tVar i))
    (hn : x ≠ "__name__" := by decide) (hdb : (x == ("__debug__" : Str)) = false := by decide) (he : starEach [e] X.env = (false, eval e X.env) :: starEach [] X.env := by rfl) (hpl : (backTo pos (starEach [] X.env)).any (·.1) = false := by rfl) :
    E X (.Call (.Name x p) [e] [] pos) (xCpL i) := pe_imp (pe_callTy call_list_of hg hm hv (pa_cons ho pa_nil he) hn hdb he hpl) fun σ H Q => by
  rintro ⟨F, en, A, d, o, e', E0, hx, post⟩
  unfold xCpL at hx
  split at hx
  · rename_i ds h0
    cases hx
    obtain ⟨p, xs, B, hσ, hp, hB, _⟩ := E0.lst (slotL_eq h0)
    refine ⟨_, hσ, ?_⟩
    refine ⟨p, xs, rfl, .inl (SqL.of hp), fun l hl => ?_⟩
    have hR := new_R (F := F) E0.sub hl
    obtain ⟨q1, q2, q3, q4⟩ := fz_out (R := fun a => a = l) E0 (fresh_new (u := .lst xs) E0.sub hl) hR
    exact post _ _ F A (fun a => a = l) q1 (vd_new hl (ow0_fz hB)) q2 q3 q4
  · cases hx
def xCpO (i : Nat) : Ex := fun e => match e[i]? with
  | some (some (.list _, .o 0)) => xCpL i e
  | _ => xCall kListA (aCons (xUse i) aNil) e
theorem E.cpO {x : Str} {p pos : Pos} {e : Expr} (hc : X.calm = true) (hg : Gl X x) (hm : X.mg x = none) (hv : bootBuiltins x = some (.type "list")) (ho : PE X e (tVar i))
    (hn : x ≠ "__name__" := by decide) (hdb : (x == ("__debug__" : Str)) = false := by decide) (he : starEach [e] X.env = (false, eval e X.env) :: starEach [] X.env := by rfl) (hpl : (backTo pos (starEach [] X.env)).any (·.1) = false := by rfl) :
    E X (.Call (.Name x p) [e] [] pos) (xCpO i) :=
  E.alt (E.cpL hc hg hm hv ho hn hdb he hpl) (E.callTy (call_listA hc) cd_listA hg hm hv (As.cons (E.use ho) As.nil he) hn hdb he hpl) fun en r h => by
    unfold xCpO at h
    split at h
    · exact .inl h
    · exact .inr h
end
end Ev
namespace Ev
open PySem PySem.Spec PyProof.Rows L2
section
variable {X : Cx} {K : PySem.W.Frag} {F H : Hp} {i : Nat} {o b e ed tg iter : Expr} {f g h : Ex} {pos apos cpos p : Pos}
/-! ### d.get(k, x), d.get(k) -/
def xGet2 (f g h : Ex) : Ex := fun e => bnd (f e) fun d1 e1 => bnd (g e1) fun d2 e2 => bnd (h e2) fun d3 e3 => match d1, keyD d2 with
  | .dict ds, some k => some ((lookD ds k).getD d3, .f, e3)
  | _, _ => none
theorem E.get2 (hu : X.A.units + 1 < cLine) (ho : E X o f) (hk : E X e g) (hd : E X ed h) (m : M2 X o "get" apos e ed cpos) : E X (.Call (.Attribute o "get" apos) [e, ed] [] cpos) (xGet2 f g h) := pe_imp (pe_dget2 hu ho.fz hk.fz hd.fz m) fun σ H Q => by
  rintro ⟨F, en, A, d, o', e', E0, hx, post⟩
  obtain ⟨d1, o1, e1, h1, hx1⟩ := bnd_eq hx
  obtain ⟨d2, o2, e2, h2, hx2⟩ := bnd_eq hx1
  obtain ⟨d3, o3, e3, h3, hx3⟩ := bnd_eq hx2
  clear hx hx1 hx2
  have hx := hx3; clear hx3
  refine E.fz_run E0 h1 fun x H1 F1 A1 E1 hx1 st1 => ?_
  split at hx
  · rename_i ds k hk1
    cases hx
    cases hx1 with
    | dct hr hkv =>
      refine ⟨_, rfl, .inl ⟨_, rd_mono E1.sub hr⟩, ?_⟩
      refine E.fz_run E1 h2 fun y H2 F2 A2 E2 hy st2 => ?_
      refine E.fz_run E2 h3 fun z H3 F3 A3 E3 hz st3 => ?_
      rw [keyD_fz hy hk1]
      have ff := st2.ff.trans st3.ff
      obtain ⟨q1, q2⟩ := fzKV_look (k := k) (FzKV.mono ff hkv)
      refine ⟨_, .inl ⟨_, k, rd_mono E3.sub (rd_mono ff hr), rfl, rfl⟩, ?_⟩
      cases hl : lookD ds k with
      | none =>
        rw [hl] at post
        rw [q2 hl]
        exact post z H3 F3 A3 Fp.no E3 ⟨hz, rfl⟩ (fun _ z => z.elim) (fun _ z => z.elim) (by rw [or_no]; exact (st1.trans st2).trans st3)
      | some d4 =>
        rw [hl] at post
        obtain ⟨v, r1, r2⟩ := q1 d4 hl
        rw [r1]
        exact post v H3 F3 A3 Fp.no E3 ⟨r2, rfl⟩ (fun _ z => z.elim) (fun _ z => z.elim) (by rw [or_no]; exact (st1.trans st2).trans st3)
  · cases hx
def xGet1 (f g : Ex) : Ex := fun e => bnd (f e) fun d1 e1 => bnd (g e1) fun d2 e2 => match d1, keyD d2 with
  | .dict ds, some k => some ((lookD ds k).getD .none, .f, e2)
  | _, _ => none
theorem E.get1 (hu : X.A.units + 1 < cLine) (ho : E X o f) (hk : E X e g) (m : M1 X o "get" apos e cpos) : E X (.Call (.Attribute o "get" apos) [e] [] cpos) (xGet1 f g) := pe_imp (pe_dget1 hu ho.fz hk.fz m) fun σ H Q => by
  rintro ⟨F, en, A, d, o', e', E0, hx, post⟩
  obtain ⟨d1, o1, e1, h1, hx1⟩ := bnd_eq hx
  obtain ⟨d2, o2, e2, h2, hx2⟩ := bnd_eq hx1
  clear hx hx1
  have hx := hx2; clear hx2
  refine E.fz_run E0 h1 fun x H1 F1 A1 E1 hx1 st1 => ?_
  split at hx
  · rename_i ds k hk1
    cases hx
    cases hx1 with
    | dct hr hkv =>
      refine ⟨_, rfl, .inl ⟨_, rd_mono E1.sub hr⟩, ?_⟩
      refine E.fz_run E1 h2 fun y H2 F2 A2 E2 hy st2 => ?_
      rw [keyD_fz hy hk1]
      obtain ⟨q1, q2⟩ := fzKV_look (k := k) (FzKV.mono st2.ff hkv)
      refine ⟨_, .inl ⟨_, k, rd_mono E2.sub (rd_mono st2.ff hr), rfl, rfl⟩, ?_⟩
      cases hl : lookD ds k with
      | none =>
        rw [hl] at post
        rw [q2 hl]
        exact post .non H2 F2 A2 Fp.no E2 ⟨.non, rfl⟩ (fun _ z => z.elim) (fun _ z => z.elim) (by rw [or_no]; exact st1.trans st2)
      | some d4 =>
        rw [hl] at post
        obtain ⟨v, r1, r2⟩ := q1 d4 hl
        rw [r1]
        exact post v H2 F2 A2 Fp.no E2 ⟨r2, rfl⟩ (fun _ z => z.elim) (fun _ z => z.elim) (by rw [or_no]; exact st1.trans st2)
  · cases hx
/-! the same on a slot's own dict, which is left as it is -/
def xGetL (i : Nat) (g h : Ex) : Ex := fun e => match slotD e i with
  | some (_, 0) => bnd (g e) fun d2 e2 => bnd (h e2) fun d3 e3 => match slotD e3 i, keyD d2 with
    | some (ds, 0), some k => some ((lookD ds k).getD d3, .f, e3)
    | _, _ => none
  | _ => none
theorem E.getL (hu : X.A.units + 1 < cLine) (ho : PE X o (tVar i)) (hk : E X e g) (hd : E X ed h) (m : M2 X o "get" apos e ed cpos) : E X (.Call (.Attribute o "get" apos) [e, ed] [] cpos) (xGetL i g h) := pe_imp (pe_dget2 hu ho hk.fz hd.fz m) fun σ H Q => by
  rintro ⟨F, en, A, d, o', e', E0, hx, post⟩
  unfold xGetL at hx
  split at hx
  · rename_i ds0 h0
    obtain ⟨d2, o2, e2, h2, hx⟩ := bnd_eq hx
    obtain ⟨d3, o3, e3, h3, hx⟩ := bnd_eq hx
    split at hx
    · rename_i ds k h4 hk1
      cases hx
      obtain ⟨p, xs, B, hσ, hp, _⟩ := E0.dct (slotD_eq h0)
      refine ⟨_, hσ, _, rfl, .inl ⟨_, .inl hp⟩, ?_⟩
      refine E.fz_run E0 h2 fun y H2 F2 A2 E2 hy st2 => ?_
      refine E.fz_run E2 h3 fun z H3 F3 A3 E3 hz st3 => ?_
      rw [keyD_fz hy hk1]
      obtain ⟨p1, xs1, B1, hσ1, hp1, hB1, _⟩ := E3.dct (slotD_eq h4)
      rw [hσ] at hσ1
      cases hσ1
      obtain ⟨q1, q2⟩ := fzKV_look (k := k) hB1.to_fz.1
      refine ⟨_, .inl ⟨_, k, .inl hp1, rfl, rfl⟩, ?_⟩
      cases hl : lookD ds k with
      | none =>
        rw [hl] at post
        rw [q2 hl]
        exact post z H3 F3 A3 Fp.no E3 ⟨hz, rfl⟩ (fun _ z => z.elim) (fun _ z => z.elim) (by rw [or_no]; exact st2.trans st3)
      | some d4 =>
        rw [hl] at post
        obtain ⟨v, r1, r2⟩ := q1 d4 hl
        rw [r1]
        exact post v H3 F3 A3 Fp.no E3 ⟨r2, rfl⟩ (fun _ z => z.elim) (fun _ z => z.elim) (by rw [or_no]; exact st2.trans st3)
    · cases hx
  · cases hx
def xGetO (i : Nat) (g h : Ex) : Ex := fun e => match e[i]? with
  | some (some (.dict _, .o 0)) => xGetL i g h e
  | _ => xGet2 (xUse i) g h e
theorem E.getO (hu : X.A.units + 1 < cLine) (ho : PE X o (tVar i)) (hk : E X e g) (hd : E X ed h) (m : M2 X o "get" apos e ed cpos) : E X (.Call (.Attribute o "get" apos) [e, ed] [] cpos) (xGetO i g h) :=
  E.alt (E.getL hu ho hk hd m) (E.get2 hu (E.use ho) hk hd m) fun en r hh => by
    unfold xGetO at hh
    split at hh
    · exact .inl hh
    · exact .inr hh
/-! ### xs[::-1] -/
def dRev : D → Option (D × Fg)
  | .list ds => some (.list ds.reverse, .o 0)
  | _ => none
theorem FzAll.reverse {vs : List V} {ds : List D} (h : FzAll K F vs ds) : FzAll K F vs.reverse ds.reverse := by
  induction vs generalizing ds with
  | nil => cases h; exact .nil
  | cons v vs ih =>
    cases h with
    | cons h a =>
      rw [List.reverse_cons, List.reverse_cons]
      exact (ih a).append (.cons h .nil)
theorem E.rev {k : Nat} {p1 p2 p3 : Pos} (he : E X e f) : E X (.Subscript e (.Slice none none (some (.UnaryOp .USub (.Constant (.int 1) k p1) p2)) p3) pos) (xUn dRev f) := pe_imp (pe_revL he.fz) fun σ H Q => by
  rintro ⟨F, en, A, d, o', e', E0, hx, post⟩
  obtain ⟨d1, o1, e1, h1, hx⟩ := bnd_eq hx
  unfold ap1 dRev at hx
  split at hx
  · rename_i hq
    split at hq
    · cases hq
      cases hx
      refine E.fz_run E0 h1 fun v H1 F1 A1 E1 hv st => ?_
      cases hv with
      | lst hs ha =>
        refine ⟨_, _, rfl, sqL_mono E1.sub hs, fun p hp => ?_⟩
        obtain ⟨q1, q2, q3, q4⟩ := fz_out E1 (fresh_new (u := .lst _) E1.sub hp) (new_R E1.sub hp)
        exact post _ _ F1 A1 _ q1 (vd_new hp ha.reverse) q2 q3 (st.trans q4)
    · cases hq
  · cases hx
/-! ### list(range(a, b)) -/
def xLrg2 (f g : Ex) : Ex := fun e => bnd (f e) fun d1 e1 => bnd (g e1) fun d2 e2 => match d1, d2 with
  | .int i, .int j => if (-(2 ^ 62) ≤ i ∧ i < 2 ^ 62 ∧ -(2 ^ 62) ≤ j ∧ j < 2 ^ 62 ∧ (j - i).toNat ≤ 2 ^ 24) then some (.list (rangeD i (j - i).toNat), .o 0, e2) else none
  | _, _ => none
theorem fz_rg {F : Hp} (a b : Int) : FzAll K F (rgV a b) (rangeD a (b - a).toNat) := by
  unfold rgV rangeD
  generalize (b - a).toNat = n
  generalize List.range n = l
  induction l with
  | nil => exact .nil
  | cons x l ih => exact .cons (.int _) ih
theorem E.lrg2 {q2 q3 : Pos} {a : Expr} (hc : X.calm = true) (hg : Gl X "list") (hm : X.mg "list" = none) (hg2 : Gl X "range") (hm2 : X.mg "range" = none) (ha : E X a f) (hb : E X b g) (na : starEach [a, b] X.env = (false, eval a X.env) :: starEach [b] X.env := by rfl) (nb : starEach [b] X.env = (false, eval b X.env) :: starEach [] X.env := by rfl) (hp : (backTo q3 (starEach [b] X.env)).any (·.1) = false := by rfl)
    (ne : starEach [.Call (.Name "range" q2) [a, b] [] q3] X.env = (false, eval (.Call (.Name "range" q2) [a, b] [] q3) X.env) :: starEach [] X.env := by rfl) :
    E X (.Call (.Name "list" p) [.Call (.Name "range" q2) [a, b] [] q3] [] pos) (xLrg2 f g) := pe_imp (pe_listRg hc hg hm (prg_2 hg2 hm2 ha.fz hb.fz na nb hp) ne) fun σ H Q => by
  rintro ⟨F, en, A, d, o', e', E0, hx, post⟩
  obtain ⟨d1, o1, e1, h1, hx1⟩ := bnd_eq hx
  obtain ⟨d2, o2, e2, h2, hx2⟩ := bnd_eq hx1
  clear hx hx1
  have hx := hx2; clear hx2
  refine E.fz_run E0 h1 fun x H1 F1 A1 E1 hx1 st1 => ?_
  refine E.fz_run E1 h2 fun y H2 F2 A2 E2 hy st2 => ?_
  split at hx
  · rename_i i j
    split at hx
    · rename_i hb
      cases hx
      cases hx1
      cases hy
      refine ⟨_, _, rfl, rfl, ⟨hb.1, hb.2.1, hb.2.2.1, hb.2.2.2.1, hb.2.2.2.2⟩, fun q hq => ?_⟩
      obtain ⟨q1, q2, q3, q4⟩ := fz_out E2 (fresh_new (u := .lst (rgV i j)) E2.sub hq) (new_R E2.sub hq)
      exact post _ _ F2 A2 _ q1 (vd_new hq (fz_rg i j)) q2 q3 ((st1.trans st2).trans q4)
    · cases hx
  · cases hx
def xLrg1 (g : Ex) : Ex := fun e => bnd (g e) fun d2 e2 => match d2 with
  | .int j => if (-(2 ^ 62) ≤ j ∧ j < 2 ^ 62 ∧ j.toNat ≤ 2 ^ 24) then some (.list (rangeD 0 j.toNat), .o 0, e2) else none
  | _ => none
theorem E.lrg1 {q2 q3 : Pos} (hc : X.calm = true) (hg : Gl X "list") (hm : X.mg "list" = none) (hg2 : Gl X "range") (hm2 : X.mg "range" = none) (hb : E X b g) (nb : starEach [b] X.env = (false, eval b X.env) :: starEach [] X.env := by rfl)
    (ne : starEach [.Call (.Name "range" q2) [b] [] q3] X.env = (false, eval (.Call (.Name "range" q2) [b] [] q3) X.env) :: starEach [] X.env := by rfl) :
    E X (.Call (.Name "list" p) [.Call (.Name "range" q2) [b] [] q3] [] pos) (xLrg1 g) := pe_imp (pe_listRg hc hg hm (prg_1 hg2 hm2 hb.fz nb) ne) fun σ H Q => by
  rintro ⟨F, en, A, d, o', e', E0, hx, post⟩
  obtain ⟨d2, o2, e2, h2, hx1⟩ := bnd_eq hx
  clear hx
  have hx := hx1; clear hx1
  refine E.fz_run E0 h2 fun y H2 F2 A2 E2 hy st2 => ?_
  split at hx
  · rename_i j
    split at hx
    · rename_i hb
      cases hx
      cases hy
      refine ⟨_, rfl, ⟨by decide, by decide, hb.1, hb.2.1, by rw [Int.sub_zero]; exact hb.2.2⟩, fun q hq => ?_⟩
      obtain ⟨q1, q2, q3, q4⟩ := fz_out E2 (fresh_new (u := .lst (rgV 0 j)) E2.sub hq) (new_R E2.sub hq)
      have hz : FzAll X.K F2 (rgV 0 j) (rangeD 0 j.toNat) := by
        have := fz_rg (K := X.K) (F := F2) 0 j
        rw [Int.sub_zero] at this
        exact this
      exact post _ _ F2 A2 _ q1 (vd_new hq hz) q2 q3 (st2.trans q4)
    · cases hx
  · cases hx
/-! ### sum(d.values()) -/
def tSumVals (td : TE) : TE := fun σ H Q => td σ H fun x H1 => ∃ (a : Addr) (kvs : List (Key × V)) (is : List Int), x = V.ref a ∧ Rd H1 a (.dK kvs) ∧ kvs.map (·.2) = is.map V.int ∧ Q (.int is.sum) H1
theorem preSum_get : ∀ (is : List Int), preSum (fun i => is.getD i 0) is.length = is.sum := by
  intro is
  induction is with
  | nil => rfl
  | cons a r ih =>
    rw [List.length_cons, PySem.W.kdu_shift, List.sum_cons, ← ih]
    rfl
theorem sum_walk {prog : Program} {w : World} {A : Around} {E : Value → Shared → Prop} {s : Shared} {T : String} {r d : Addr} {n : Nat} {P : Nat → Value → Prop} {OK : Heap → Prop} {Q : Value → Shared → Prop} (K : PySem.W.KdlSrc prog w T r d n P OK) (hh : A.handled = none) (hok : OK s.heap) (val : Nat → Int) (hval : ∀ (i : Nat) (v : Value), P i v → ∃ t : Tok, v = Value.int (val i) t)
    (h : ∀ (h' : Heap) (tk : Nat) (t' : Tok), (∀ b o, s.heap.get? b = some o → h'.get? b = some o) → Q (.int (preSum val n) t') { s with heap := h', toks := tk }) :
    wpAny (model prog w) A (call (.builtin "sum") [.ref r]) Q E s := by
  refine call_sum_walkAnyS ?_
  obtain ⟨oI, St, hit, W, st⟩ := K.iter A.in1 s hh hok
  refine hit _ _ ⟨s.heap.objs.size, _, _, _, n, P, _, val, rfl, W.toS, st, fun b hb => ?_, hval, fun s' t' hm => ?_⟩
  · show b < (s.heap.push oI).objs.size
    rw [size_push']
    rcases List.mem_cons.mp hb with e | hb
    · rw [e]; exact Nat.lt_succ_self _
    · rw [List.mem_singleton.mp hb]; exact Nat.lt_succ_of_lt (K.there _ hok).2
  · have hk : ∀ b o, s.heap.get? b = some o → s'.heap.get? b = some o := fun b o e =>
      hm.heap b o (fun hI => absurd (Heap.lt_size e) (by rw [List.mem_singleton.mp hI]; exact Nat.lt_irrefl _)) (Heap.get?_push_of_some _ e)
    rw [Moved.eq_with hm]
    exact h s'.heap s'.toks t' hk
theorem pe_sumVals {apos mpos : Pos} {td : TE} (hc : X.calm = true) (hg : Gl X "sum") (hm : X.mg "sum" = none) (hd : PE X o td) (hbase : attributeBase o "values" X.env (eval o X.env) = eval o X.env := by rfl) (hline : (apos.endLine == mpos.line) = true := by rfl)
    (hse : starEach [Expr.Call (.Attribute o "values" apos) [] [] mpos] X.env = [(false, eval (Expr.Call (.Attribute o "values" apos) [] [] mpos) X.env)] := by rfl) :
    PE X (.Call (.Name "sum" p) [.Call (.Attribute o "values" apos) [] [] mpos] [] pos) (tSumVals td) := by
  refine ⟨fun pins s σ H Q I h => ?_⟩
  refine wpAny_Call_Name_kw (ld_blt I hg hm (u := .builtin "sum") (by first | rfl | decide +kernel) ?_ (by first | decide +kernel | decide) (by first | decide +kernel | decide))
  rw [hse]
  refine PySem.callWith_builtin1 (wpAny_Call_method0_late hbase hline (thn (hd.run pins s σ H _ I h) fun v s1 ⟨x, H1, I1, r1, a, kvs, is, ex, ha, hv, q⟩ => ?_))
  subst ex
  obtain rfl : v = Value.ref a := r1
  obtain ⟨hz, hsys, vs, rel, dof⟩ := dk_rd I1.hok ha
  obtain ⟨ep, dat⟩ := dof.dictAt
  have dat' := dat
  obtain ⟨ob, es, ho, ex, hdat, hko, hpr, hnd⟩ := dat'
  refine ⟨"dict", "dict.values", F.plainAttrs_dict, F.slot_dict_values, F.type_dict_values, ⟨ob, ho, ex.1⟩, fun b e => ?_, Calls.callWith_builtin rfl (PySem.evalArgs_none ?_)⟩
  · cases e
    exact ⟨ob, ho, ex.2.1⟩
  refine call_meetsIn F.slot_dict_values ⟨ob, ho, ex.1⟩ F.entry_dict_values (F.args_dict_values_1 _) (meets_dict_values (mixKind X.prog X.w) a hsys) ⟨⟨vs, dof⟩, ?_⟩
  have lk : kvs.length = vs.length := Paired.length rel
  have hln : vs.length = is.length := by
    rw [← lk]
    have := congrArg List.length hv
    rw [List.length_map, List.length_map] at this
    exact this
  have hval : ∀ (i : Nat) (v : Value), (∃ k, vs[i]? = some (k, v)) → ∃ t : Tok, v = Value.int (is.getD i 0) t := fun i v ⟨k, hk⟩ => by
    obtain ⟨pk, g1, g2, g3⟩ := kv_back rel hk
    have e1 : (kvs.map (·.2))[i]? = some pk.2 := by rw [List.getElem?_map, g1]; rfl
    rw [hv, List.getElem?_map] at e1
    obtain ⟨j, hj, e2⟩ := Option.map_eq_some_iff.mp e1
    rw [← e2] at g3
    obtain ⟨t, e3⟩ := g3
    exact ⟨t, by rw [e3, List.getD_eq_getElem?_getD, hj]; rfl⟩
  have dat1 : (s1.heap.push { cls := .type "dict_values", data := .fields #[.ref a] }).DictAt (mixKind X.prog X.w) a vs ep := dat.keep fun b u e => Heap.get?_push_of_some _ e
  refine sum_walk (PySem.W.kdl_values (knd := mixKind X.prog X.w) (kvs := vs) (ep := ep)) (I1.ok.hd hc) ⟨⟨_, Heap.get?_push_size _ rfl, rfl, rfl⟩, dat1⟩ (fun i => is.getD i 0) hval fun h' tk t' hk => ?_
  rw [hln, preSum_get]
  exact ⟨.int is.sum, H1, I1.kept (t' := tk) fun b ob q => hk _ _ (Heap.get?_push_of_some _ q), ⟨_, rfl⟩, q⟩
def kSumV : D → Option (D × Fg)
  | .dict ds => (intsD (ds.map (·.2))).map fun ns => (.int ns.sum, .f)
  | _ => none
theorem E.sumVals {apos mpos : Pos} (hc : X.calm = true) (hg : Gl X "sum") (hm : X.mg "sum" = none) (he : E X o f) (hbase : attributeBase o "values" X.env (eval o X.env) = eval o X.env := by rfl) (hline : (apos.endLine == mpos.line) = true := by rfl)
    (hse : starEach [Expr.Call (.Attribute o "values" apos) [] [] mpos] X.env = [(false, eval (Expr.Call (.Attribute o "values" apos) [] [] mpos) X.env)] := by rfl) :
    E X (.Call (.Name "sum" p) [.Call (.Attribute o "values" apos) [] [] mpos] [] pos) (xUn kSumV f) := pe_imp (pe_sumVals hc hg hm he.fz hbase hline hse) fun σ H Q => by
  rintro ⟨F, en, A, d, o', e', E0, hx, post⟩
  obtain ⟨d1, o1, e1, h1, hx⟩ := bnd_eq hx
  unfold ap1 kSumV at hx
  split at hx
  · rename_i hq
    split at hq
    · rename_i ds
      cases hi : intsD (ds.map (·.2)) with
      | none => rw [hi] at hq; cases hq
      | some ns =>
        rw [hi] at hq
        cases hq
        cases hx
        refine E.fz_run E0 h1 fun v H1 F1 A1 E1 hv st => ?_
        cases hv with
        | dct hr ha =>
          exact ⟨_, _, ns, rfl, rd_mono E1.sub hr, ints_fz (fzKV_vals ha) hi, post _ H1 F1 A1 Fp.no E1 vd_int (fun _ z => z.elim) (fun _ z => z.elim) (by rw [or_no]; exact st)⟩
    · cases hq
  · cases hx
/-! ### dict comprehensions -/
def loopK (vs : List Nat) (g : Gx) (c : Tx) (fk fv : Ex) : List D → List (D × D) → En → Option (List (D × D) × En)
  | [], acc, e => some (acc, e)
  | d :: ds, acc, e => match g d e with
    | some e2 => match c e2 with
      | some (true, e3) => bnd (fk e3) fun k e4 => bnd (fv e4) fun y e5 => (match keyD k with
        | some key => if acc.length < sizeLine then loopK vs g c fk fv ds (putD acc key y) (wipeE e5 vs) else none
        | none => none)
      | some (false, e3) => loopK vs g c fk fv ds acc (wipeE e3 vs)
      | none => none
    | none => none
def xDc (it : Ix) (vs : List Nat) (g : Gx) (c : Tx) (fk fv : Ex) : Ex := fun e => match it e with
  | some (ds, e1) => if calmE e1 vs = true then (match loopK vs g c fk fv ds [] (wipeE e1 vs) with
    | some (acc, e2) => some (.dict acc, .o 0, backE e1 e2 vs)
    | none => none) else none
  | none => none
def xDcD (i : Nat) (view : List (D × D) → List D) (vs : List Nat) (g : Gx) (c : Tx) (fk fv : Ex) : Ex := fun e => match xUse i e with
  | some (.dict ds, _, e1) => if calmE e1 vs = true then (match loopK vs g c fk fv (view ds) [] (wipeE e1 vs) with
    | some (acc, e2) => some (.dict acc, .o 0, backE e1 e2 vs)
    | none => none) else none
  | _ => none
theorem dc_core1 {F H : Hp} {σ : L2.St} {A : Nat → Fp} {vs ms : List Nat} {g : Gx} {c : Tx} {fk fv : Ex} {ds : List D} {res : List (D × D)} {e1 e2 : En} {wi : TI} {Q : VK} (hms : ∀ i ∈ ms, i ∈ vs) (hcal : calmE e1 vs = true) (hl : loopK vs g c fk fv ds [] (wipeE e1 vs) = some (res, e2))
    (post : ∀ (v : V) (H' F' : Hp) (A' : Nat → Fp) (R : Fp), EnvOk K F' H' σ (backE e1 e2 vs) A' → VD K F' H' v (.dict res) (.o 0) R → (∀ a, R a → F' a = none) → (∀ a, R a → ¬ U A' a) → Step F (U A) H F' (Fp.or (U A') R) H' → Q v H')
    (hwi : ∀ R : It → Hp → Prop, (∀ (J : It) (H' F' : Hp) (A' : Nat → Fp), EnvOk K F' H' σ e1 A' → WalkD K J F' ds → Step F (U A) H F' (U A') H' → R J H') → wi σ H R) : tDc wi (cG K ms g) (cT K c) (cE K (xFz fk)) (cE K (xFz fv)) vs σ H Q := by
  · · · refine hwi _ fun J H1 F1 A1 E1 wk st1 Dl hD => ?_
        obtain ⟨Aw, Ew, sw⟩ := E1.wipe vs
        refine ⟨fun i m H2 => m = ds.length - i ∧ i ≤ ds.length ∧ ∃ F2 e2' A2 acc accV, EnvOk K F2 H2 (L2.wipe σ vs) e2' A2 ∧ H2 Dl = some (.dK accV) ∧ FzKV K F2 accV acc ∧ F2 Dl = none ∧ ¬ U A2 Dl ∧
          Step F1 (U A1) H1 F2 (Fp.or (U A2) (fun a => a = Dl)) H2 ∧ loopK vs g c fk fv (ds.drop i) acc e2' = some (res, e2), ⟨ds.length, by simp, Nat.zero_le _, F1, _, Aw, [], [], ?_, upd_same, .nil, E1.sub.free hD, fun z => Ew.tr _ z hD, ?_, by rw [List.drop_zero]; exact hl⟩, ?_⟩
        · exact Ew.fresh (fresh_new E1.sub hD)
        · refine ⟨Same.refl _, fun a z => by rw [upd_ne (fun y => z (by rw [y]; exact hD))]; exact z, fun a z1 z2 z3 => ⟨upd_ne fun y => z1 (by rw [y]; exact hD), z2, fun y => y.elim (fun y => z3 (sw a y)) fun y => z1 (by rw [y]; exact hD)⟩⟩
        rintro i m H2 ⟨rfl, hi, F2, e3, A2, acc, accV, E2, hDl, hacc, hF, hA, st2, hl2⟩
        have s12 : Same F1 H2 := fun a o z => E2.sub a o (st2.ff a o z)
        by_cases hlt : i < ds.length
        · obtain ⟨d, hd⟩ : ∃ d, ds[i]? = some d := ⟨ds[i], by simp [hlt]⟩
          have hdr : ds.drop i = d :: ds.drop (i + 1) := by
            rw [List.drop_eq_getElem_cons hlt]
            rw [List.getElem?_eq_getElem hlt] at hd
            rw [Option.some.inj hd]
          rw [hdr] at hl2
          unfold loopK at hl2
          refine .inr ⟨wk.goes i H2 hlt s12, fun H' => ∃ F2 e2' A2 acc accV, EnvOk K F2 H' (L2.wipe σ vs) e2' A2 ∧ H' Dl = some (.dK accV) ∧ FzKV K F2 accV acc ∧ F2 Dl = none ∧ ¬ U A2 Dl ∧
            Step F1 (U A1) H1 F2 (Fp.or (U A2) (fun a => a = Dl)) H' ∧ loopK vs g c fk fv (ds.drop (i + 1)) acc e2' = some (res, e2), fun H' q => ⟨ds.length - (i + 1), by omega, rfl, hlt, q⟩, fun x H' y => ?_⟩
          obtain ⟨F3, hv, fr⟩ := wk.yields i H2 x H' d F2 hd st2.ff E2.sub y
          have E3 := E2.fresh fr
          have tD : H2 Dl ≠ none := by rw [hDl]; exact fun z => nomatch z
          have hD3 : H' Dl = some (.dK accV) := by rw [same_ne fr.hh tD]; exact hDl
          have hF3 : F3 Dl = none := fr.nf hF tD
          have st3 : Step F1 (U A1) H1 F3 (Fp.or (U A2) (fun a => a = Dl)) H' := by
            have := fr.step (A := Fp.or (U A2) (fun a => a = Dl)) (R := Fp.no) fun _ z => z.elim
            rw [or_no] at this
            exact st2.trans this
          have hD3n : H' Dl ≠ none := by rw [hD3]; exact fun z => nomatch z
          split at hl2
          · rename_i e4 hg
            refine ⟨F3, e3, A2, d, e4, E3, hv, hg, fun σ4 A4 E4 s4 mo => ?_⟩
            have hw : L2.wipe σ4 vs = L2.wipe σ vs := by rw [wipe_mo (vs := vs) mo hms]; exact wipe_wipe
            refine ⟨hw, ?_⟩
            have st4 : Step F1 (U A1) H1 F3 (Fp.or (U A4) (fun a => a = Dl)) H' := st3.trans (sub_step fun a z => z.elim (fun z => .inl (s4 a z)) .inr)
            have hA4 : ¬ U A4 Dl := fun z => hA (s4 _ z)
            -- behind a further step the dict at Dl stands
            have next : ∀ {F5 H5 : Hp} {A5 : Nat → Fp}, Step F3 (U A4) H' F5 (U A5) H5 → Step F1 (U A1) H1 F5 (Fp.or (U A5) (fun a => a = Dl)) H5 ∧ H5 Dl = some (.dK accV) ∧ F5 Dl = none ∧ ¬ U A5 Dl := fun {F5 H5 A5} st => by
              obtain ⟨q1, q2⟩ := Step.hold (R := fun a => a = Dl) st4 st (fun a z => by rw [z]; exact hF3) (fun a z => by rw [z]; exact hA4) (fun a z => by rw [z]; exact hD3n)
              obtain ⟨r1, r2, r3⟩ := q2 Dl rfl
              exact ⟨q1, r1.trans hD3, r2, r3⟩
            split at hl2
            · rename_i e5 hc
              obtain ⟨k5, o5, e6, h6, hl3⟩ := bnd_eq hl2
              obtain ⟨y5, o6, e7, h7, hl3⟩ := bnd_eq hl3
              refine ⟨F3, e4, A4, true, e5, E4, hc, fun H5 F5 A5 E5 st5 => iteT ?_⟩
              refine E.fz_run E5 h6 fun kv H6 F6 A6 E6 hk st6 => ?_
              refine E.fz_run E6 h7 fun yv H7 F7 A7 E7 hy st7 => ?_
              obtain ⟨n1, n2, n3, n4⟩ := next ((st5.trans st6).trans st7)
              split at hl3
              · rename_i key hkey
                by_cases hz : acc.length < sizeLine
                · rw [if_pos hz] at hl3
                  have fa : FzKV K F7 accV acc := (hacc.mono fr.ff).mono ((st5.trans st6).trans st7).ff
                  obtain ⟨A8, E8, s8⟩ := E7.wipe vs
                  rw [hw] at E8
                  refine ⟨accV, key, keyD_fz hk hkey, n2, by rw [fa.length]; exact hz, F7, _, A8, putD acc key y5, putK accV key yv, ?_, upd_same, fzKV_put hy fa, n3, fun z => n4 (s8 _ z), ?_, hl3⟩
                  · refine ⟨E8.len, fun j d o h => ?_, E8.un, E8.dis, E8.nf, fun a o z => ?_⟩
                    · obtain ⟨v, q1, q2⟩ := E8.at_ j d o h
                      refine ⟨v, q1, q2.mono (Same.refl _) fun a ha => upd_ne fun z => n4 (s8 _ ⟨j, ?_⟩)⟩
                      rw [← z]; exact ha
                    · rw [upd_ne (ne_of_none z n3)]; exact E8.sub a o z
                  · refine ⟨n1.ff, fun a z => ?_, fun a z1 z2 z3 => ?_⟩
                    · by_cases ha : a = Dl
                      · rw [ha, upd_same]; exact fun z => nomatch z
                      · rw [upd_ne ha]; exact n1.keep a z
                    · obtain ⟨w1, w2, w3⟩ := n1.fr a z1 z2 z3
                      exact ⟨(upd_ne fun z => w3 (.inr z)).trans w1, w2, fun z => w3 (z.elim (fun z => .inl (s8 a z)) .inr)⟩
                · rw [if_neg hz] at hl3; cases hl3
              · cases hl3
            · rename_i e5 hc
              refine ⟨F3, e4, A4, false, e5, E4, hc, fun H5 F5 A5 E5 st5 => iteF ?_⟩
              obtain ⟨n1, n2, n3, n4⟩ := next st5
              obtain ⟨A7, E7, s7⟩ := E5.wipe vs
              rw [hw] at E7
              exact ⟨F5, _, A7, acc, accV, E7, n2, (hacc.mono fr.ff).mono st5.ff, n3, fun z => n4 (s7 _ z), n1.trans (sub_step fun a z => z.elim (fun z => .inl (s7 a z)) .inr), hl2⟩
            · cases hl2
          · cases hl2
        · have e0 : i = ds.length := by omega
          subst e0
          rw [List.drop_length] at hl2
          cases hl2
          obtain ⟨A5, E5, s5⟩ := E1.back hcal st2.ff E2
          refine .inl ⟨wk.stops H2 s12, post (.ref Dl) H2 F2 A5 (fun a => a = Dl) E5 ?_ (fun a z => by rw [z]; exact hF) (fun a z y => hA (s5 _ (by rw [← z]; exact y))) ?_⟩
          · exact (Ow.dct hDl (OwKV.of_fz hacc) (fun z => z)).cast fun a => ⟨fun z => z.elim id fun z => z.elim, .inl⟩
          · exact (st1.trans st2).trans (sub_step fun a z => z.elim (fun z => .inl (s5 a z)) .inr)
theorem dc_imp {it : Ix} {vs ms : List Nat} {g : Gx} {c : Tx} {fk fv : Ex} (hms : ∀ i ∈ ms, i ∈ vs) : ∀ σ H Q, cE K (xDc it vs g c fk fv) σ H Q → tDc (cI K it) (cG K ms g) (cT K c) (cE K (xFz fk)) (cE K (xFz fv)) vs σ H Q := fun σ H Q => by
  rintro ⟨F, en, A, d, o, e', E0, hx, post⟩
  unfold xDc at hx
  split at hx
  · rename_i ds e1 h1
    by_cases hcal : calmE e1 vs = true
    · rw [if_pos hcal] at hx
      split at hx
      · rename_i res e2 hl
        cases hx
        exact dc_core1 hms hcal hl post fun R q => ⟨F, en, A, ds, e1, E0, h1, q⟩
      · cases hx
    · rw [if_neg hcal] at hx; cases hx
  · cases hx
theorem dcD_imp {view : List (D × D) → List D} {vs ms : List Nat} {g : Gx} {c : Tx} {fk fv : Ex} (vw : View X tg iter i view) (hms : ∀ i ∈ ms, i ∈ vs) : ∀ σ H Q, cE X.K (xDcD i view vs g c fk fv) σ H Q →
    tLockE (tDc vw.wi (cG X.K ms g) (cT X.K c) (cE X.K (xFz fk)) (cE X.K (xFz fv)) vs) σ H Q ∨ tDc vw.wi (cG X.K ms g) (cT X.K c) (cE X.K (xFz fk)) (cE X.K (xFz fv)) vs σ H Q := fun σ H Q => by
  rintro ⟨F, en, A, d, o, e', E0, hx, post⟩
  unfold xDcD at hx
  split at hx
  · rename_i ds o e1 hu
    by_cases hcal : calmE e1 vs = true
    · rw [if_pos hcal] at hx
      split at hx
      · rename_i res e2 hl
        cases hx
        obtain ⟨F1, A1, p, kvs, E1, st1, hσ, hr, ha⟩ := use_dict E0 hu
        rcases hr with hr | ⟨od, hr⟩
        · refine .inl ⟨p, .dK kvs, E1.sub _ _ hr, trivial, fun od => ?_⟩
          have E2 := E1.swap (u := .frz od (.dK kvs)) (by rw [hr]; exact fun z => nomatch z) (fz_lock hr)
          refine dc_core1 (F := upd F1 p (.frz od (.dK kvs))) (A := A1) (ds := view ds) (e1 := e1) hms hcal hl (fun v H2 F2 A2 R E3 hv hn hd st => ?_) fun R q => ?_
          · have f2 := st.ff p _ upd_same
            have np : ¬ R p := fun z => by rw [hn p z] at f2; cases f2
            refine ⟨E3.sub _ _ f2, post v _ _ A2 R (E3.swap (by rw [f2]; exact fun z => nomatch z) (fz_unlock f2)) (hv.swap np (fz_unlock f2)) (fun a z => by rw [upd_ne (show a ≠ p from fun y => np (by rw [← y]; exact z))]; exact hn a z) hd (st1.trans (lock_step hr (E1.sub _ _ hr) st))⟩
          · exact vw.go p od kvs σ _ R hσ upd_same (q _ _ _ A1 E2 (vw.walk p od kvs ds _ upd_same (by
              have fk : Fz X.K F1 (.ref p) (.dict ds) := .dct (.inl hr) ha
              have fk2 := fz_lock (od := od) hr _ _ fk
              cases fk2 with
              | dct h1 h2 =>
                rcases h1 with h1 | ⟨o2, h1⟩
                · rw [upd_same] at h1; cases h1
                · rw [upd_same] at h1; cases h1; exact h2)) Step.refl)
        · refine .inr (dc_core1 (A := A1) hms hcal hl (fun v H2 F2 A2 R E3 hv hn hd st => post v H2 F2 A2 R E3 hv hn hd (st1.trans st)) fun R q => vw.go p od kvs σ _ R hσ (E1.sub _ _ hr) (q _ _ _ A1 E1 (vw.walk p od kvs ds _ hr ha) Step.refl))
      · cases hx
    · rw [if_neg hcal] at hx; cases hx
  · cases hx
theorem E.dc {kx vx : Expr} {ifs : List Expr} {scope : Scope} {own : List (Str × Nat)} {ms : List Nat} {g : Gx} {c : Tx} {fk fv : Ex} {it : Ix} (hc : X.calm = true) (hN : X.N.Nodup) (hi : I X tg iter it) (ok : BlkOk X.N X.env.scope scope own)
    (hg : ∀ (s : Shared) (H : Hp) (C : Addr) (cl : List (Str × Addr)) (fp : List Addr), G (X.blk s H scope (compEnvC scope cl C X.env) fp) tg ms g) (hms : ∀ i ∈ ms, i ∈ own.map (·.2)) (ht : ∀ (s : Shared) (H : Hp) (C : Addr) (cl : List (Str × Addr)) (fp : List Addr), Ts (X.blk s H scope (compEnvC scope cl C X.env) fp) ifs c)
    (hk : ∀ (s : Shared) (H : Hp) (C : Addr) (cl : List (Str × Addr)) (fp : List Addr), E (X.blk s H scope (compEnvC scope cl C X.env) fp) kx fk) (he : ∀ (s : Shared) (H : Hp) (C : Addr) (cl : List (Str × Addr)) (fp : List Addr), E (X.blk s H scope (compEnvC scope cl C X.env) fp) vx fv) (hs : ∀ x, foldedSetIterable iter X.env x = pure x := by intro _; rfl) :
    E X (.DictComp kx vx [⟨tg, iter, ifs, 0⟩] scope pos) (xDc it (own.map (·.2)) g c fk fv) :=
  pe_imp (pe_dc hc hN hi ok hg ht (fun s H C cl fp => (hk s H C cl fp).fz) (fun s H C cl fp => (he s H C cl fp).fz) hs) (dc_imp hms)
theorem E.dcD {kx vx : Expr} {ifs : List Expr} {scope : Scope} {own : List (Str × Nat)} {ms : List Nat} {g : Gx} {c : Tx} {fk fv : Ex} {view : List (D × D) → List D} (hc : X.calm = true) (hN : X.N.Nodup) (vw : View X tg iter i view) (ok : BlkOk X.N X.env.scope scope own)
    (hg : ∀ (s : Shared) (H : Hp) (C : Addr) (cl : List (Str × Addr)) (fp : List Addr), G (X.blk s H scope (compEnvC scope cl C X.env) fp) tg ms g) (hms : ∀ i ∈ ms, i ∈ own.map (·.2)) (ht : ∀ (s : Shared) (H : Hp) (C : Addr) (cl : List (Str × Addr)) (fp : List Addr), Ts (X.blk s H scope (compEnvC scope cl C X.env) fp) ifs c)
    (hk : ∀ (s : Shared) (H : Hp) (C : Addr) (cl : List (Str × Addr)) (fp : List Addr), E (X.blk s H scope (compEnvC scope cl C X.env) fp) kx fk) (he : ∀ (s : Shared) (H : Hp) (C : Addr) (cl : List (Str × Addr)) (fp : List Addr), E (X.blk s H scope (compEnvC scope cl C X.env) fp) vx fv) (hs : ∀ x, foldedSetIterable iter X.env x = pure x := by intro _; rfl) :
    E X (.DictComp kx vx [⟨tg, iter, ifs, 0⟩] scope pos) (xDcD i view (own.map (·.2)) g c fk fv) := by
  have base := pe_dc (pos := pos) (kx := kx) (vx := vx) (g := cG X.K ms g) (tt := cT X.K c) (tk := cE X.K (xFz fk)) (tv := cE X.K (xFz fv)) hc hN vw.pi ok hg ht (fun s H C cl fp => (hk s H C cl fp).fz) (fun s H C cl fp => (he s H C cl fp).fz) hs
  exact pe_imp (PE.or' (pe_lock base) base) (dcD_imp vw hms)
theorem dc_alt {i : Nat} {vs : List Nat} {g : Gx} {c : Tx} {fk fv : Ex} : ∀ en r, xDc (iSlot i) vs g c fk fv en = some r → xDc (iAny (xUse i)) vs g c fk fv en = some r ∨ xDcD i vKeys vs g c fk fv en = some r := fun en r h => by
  unfold xDc iSlot at h
  unfold xDc xDcD iAny
  split at h
  · rename_i ds e1 h1
    split at h1
    · rename_i h2; cases h1; left; rw [h2]; exact h
    · rename_i h2; cases h1; left; rw [h2]; exact h
    · rename_i h2; cases h1; left; rw [h2]; exact h
    · rename_i h2; cases h1; right; rw [h2]; exact h
    · cases h1
  · cases h
theorem E.dcA {kx vx : Expr} {ifs : List Expr} {scope : Scope} {own : List (Str × Nat)} {ms : List Nat} {g : Gx} {c : Tx} {fk fv : Ex} (hc : X.calm = true) (hN : X.N.Nodup) (hv : PE X iter (tVar i)) (ok : BlkOk X.N X.env.scope scope own)
    (hg : ∀ (s : Shared) (H : Hp) (C : Addr) (cl : List (Str × Addr)) (fp : List Addr), G (X.blk s H scope (compEnvC scope cl C X.env) fp) tg ms g) (hms : ∀ i ∈ ms, i ∈ own.map (·.2)) (ht : ∀ (s : Shared) (H : Hp) (C : Addr) (cl : List (Str × Addr)) (fp : List Addr), Ts (X.blk s H scope (compEnvC scope cl C X.env) fp) ifs c)
    (hk : ∀ (s : Shared) (H : Hp) (C : Addr) (cl : List (Str × Addr)) (fp : List Addr), E (X.blk s H scope (compEnvC scope cl C X.env) fp) kx fk) (he : ∀ (s : Shared) (H : Hp) (C : Addr) (cl : List (Str × Addr)) (fp : List Addr), E (X.blk s H scope (compEnvC scope cl C X.env) fp) vx fv) (hs : ∀ x, foldedSetIterable iter X.env x = pure x := by intro _; rfl) :
    E X (.DictComp kx vx [⟨tg, iter, ifs, 0⟩] scope pos) (xDc (iSlot i) (own.map (·.2)) g c fk fv) :=
  E.alt (E.dc hc hN (I.any (E.use hv)) ok hg hms ht hk he hs) (E.dcD hc hN (View.keys hv) ok hg hms ht hk he hs) dc_alt
theorem ps_setDc {kx vx : Expr} {y : Str} {py spos : Pos} {ifs : List Expr} {scope : Scope} {own : List (Str × Nat)} {wi : TI} {g : TG} {tt : TT} {tk tv : TE} (hc : X.calm = true) (hN : X.N.Nodup) (hy : X.N[i]? = some y) (hyl : X.env.scope.names.lookup y = some .local)
    (hsw : swapsWith (.DictComp kx vx [⟨tg, iter, ifs, 0⟩] scope pos) (some (.Name y py)) spos.line X.env = pure true) (hi : PI X tg iter wi) (ok : BlkOk X.N X.env.scope scope own)
    (hg : ∀ (s : Shared) (H : Hp) (C : Addr) (cl : List (Str × Addr)) (fp : List Addr), PG (X.blk s H scope (compEnvC scope cl C X.env) fp) tg g) (ht : ∀ (s : Shared) (H : Hp) (C : Addr) (cl : List (Str × Addr)) (fp : List Addr), PTs (X.blk s H scope (compEnvC scope cl C X.env) fp) ifs tt)
    (hk : ∀ (s : Shared) (H : Hp) (C : Addr) (cl : List (Str × Addr)) (fp : List Addr), PE (X.blk s H scope (compEnvC scope cl C X.env) fp) kx tk)
    (he : ∀ (s : Shared) (H : Hp) (C : Addr) (cl : List (Str × Addr)) (fp : List Addr), PE (X.blk s H scope (compEnvC scope cl C X.env) fp) vx tv) (hs : ∀ x, foldedSetIterable iter X.env x = pure x := by intro _; rfl) :
    PS X (.Assign [.Name y py] (.DictComp kx vx [⟨tg, iter, ifs, 0⟩] scope pos) spos) (tAsg (tDc wi g tt tk tv (own.map (·.2))) (gName i)) := by
  refine ⟨fun pins s σ H D I h => ?_⟩
  rw [exec_Assign_Name_used _ _ _ _ hsw]
  refine wpAny_bind (wpAny_standAt (wpAny_bind ?_))
  show wpAny _ X.A (do let _ ← comprehension (.DictComp kx vx [⟨tg, iter, ifs, 0⟩] scope pos) scope X.env (firstIterPos [⟨tg, iter, ifs, 0⟩] pos) newDict false (eval iter X.env) (some (assign (.Name y py) X.env))) _ _ s
  have h : tDc wi g tt tk tv (own.map (·.2)) σ H (fun x H1 => gName i x σ H1 D.nx) := h
  refine wpAny_bind (thn (dc_core (Qf := fun _ s' => SP X pins D .next s') hc hN I hi ok hg ht hk he hs h fun L C s' m H' I' q hn f => ?_) fun _ s' hq => wpAny_pure (wpAny_pure hq))
  show wpAny _ _ (assign (.Name y py) X.env (.ref L)) _ _ _
  refine wpAny_assign_Name (store_ok2 (v := V.ref L) I' hN hy (.inl hyl) rfl (fun s2 I2 ⟨a, sb, ha⟩ => ?_) (.inr hyl))
  obtain ⟨f0, f1, f2, f3, f4, f5⟩ := f
  have haC : C ≠ a := by
    rcases ha with z | z
    · rw [z]; exact f1
    · exact fun e => f4 y a z e.symm
  refine ⟨m, hn.sameBut sb haC, fun h3 sb3 => ?_⟩
  exact ⟨_, H', I2.turned (t' := s2.toks) (fun b o hb e => (sb3.2 b hb).trans e) f0 f1 f3 f4 f5, q⟩
theorem swD_true {kx vx : Expr} {gs : List Comprehension} {scope : Scope} {pos py : Pos} {y : Str} {l : Nat} {env : Env} (hk : env.scope.kind = .function) (hy : env.scope.names.lookup y = some .local) (hl : (py.line == pos.line) = true)
    (ha : (scope.names.any fun (n, k) => n == y && (k == .local || k == .cell)) = false) : swapsWith (.DictComp kx vx gs scope pos) (some (.Name y py)) l env = pure true := by
  have ky : env.kindOf y = some .local := hy
  have hb : env.blockKind = .function := by unfold Env.blockKind; rw [hk]; rfl
  unfold swapsWith
  simp only [hb, ky, ha, Expr.pos, hl]
  rfl
theorem S.setDc {mz : List Nat} {j : Nat} {y : Str} {py spos : Pos} {kx vx : Expr} {ifs : List Expr} {scope : Scope} {own : List (Str × Nat)} {ms : List Nat} {g : Gx} {c : Tx} {fk fv : Ex} {it : Ix} (him : j ∈ mz) (hc : X.calm = true) (hN : X.N.Nodup) (hy : X.N[j]? = some y) (hyl : X.env.scope.names.lookup y = some .local)
    (hsw : swapsWith (.DictComp kx vx [⟨tg, iter, ifs, 0⟩] scope pos) (some (.Name y py)) spos.line X.env = pure true) (hi : I X tg iter it) (ok : BlkOk X.N X.env.scope scope own)
    (hg : ∀ (s : Shared) (H : Hp) (C : Addr) (cl : List (Str × Addr)) (fp : List Addr), G (X.blk s H scope (compEnvC scope cl C X.env) fp) tg ms g) (hms : ∀ i ∈ ms, i ∈ own.map (·.2)) (ht : ∀ (s : Shared) (H : Hp) (C : Addr) (cl : List (Str × Addr)) (fp : List Addr), Ts (X.blk s H scope (compEnvC scope cl C X.env) fp) ifs c)
    (hk : ∀ (s : Shared) (H : Hp) (C : Addr) (cl : List (Str × Addr)) (fp : List Addr), E (X.blk s H scope (compEnvC scope cl C X.env) fp) kx fk) (he : ∀ (s : Shared) (H : Hp) (C : Addr) (cl : List (Str × Addr)) (fp : List Addr), E (X.blk s H scope (compEnvC scope cl C X.env) fp) vx fv) (hs : ∀ x, foldedSetIterable iter X.env x = pure x := by intro _; rfl) :
    S X mz (.Assign [.Name y py] (.DictComp kx vx [⟨tg, iter, ifs, 0⟩] scope pos) spos) (sSet j (xDc it (own.map (·.2)) g c fk fv)) :=
  ps_imp (ps_setDc hc hN hy hyl hsw hi ok hg ht (fun s H C cl fp => (hk s H C cl fp).fz) (fun s H C cl fp => (he s H C cl fp).fz) hs) fun Dd σ H h => by
    have := set_imp him Dd σ H h
    exact dc_imp hms σ H _ this
theorem S.setDcD {mz : List Nat} {j : Nat} {y : Str} {py spos : Pos} {kx vx : Expr} {ifs : List Expr} {scope : Scope} {own : List (Str × Nat)} {ms : List Nat} {g : Gx} {c : Tx} {fk fv : Ex} {view : List (D × D) → List D} (him : j ∈ mz) (hc : X.calm = true) (hN : X.N.Nodup) (hy : X.N[j]? = some y) (hyl : X.env.scope.names.lookup y = some .local)
    (hsw : swapsWith (.DictComp kx vx [⟨tg, iter, ifs, 0⟩] scope pos) (some (.Name y py)) spos.line X.env = pure true) (vw : View X tg iter i view) (ok : BlkOk X.N X.env.scope scope own)
    (hg : ∀ (s : Shared) (H : Hp) (C : Addr) (cl : List (Str × Addr)) (fp : List Addr), G (X.blk s H scope (compEnvC scope cl C X.env) fp) tg ms g) (hms : ∀ i ∈ ms, i ∈ own.map (·.2)) (ht : ∀ (s : Shared) (H : Hp) (C : Addr) (cl : List (Str × Addr)) (fp : List Addr), Ts (X.blk s H scope (compEnvC scope cl C X.env) fp) ifs c)
    (hk : ∀ (s : Shared) (H : Hp) (C : Addr) (cl : List (Str × Addr)) (fp : List Addr), E (X.blk s H scope (compEnvC scope cl C X.env) fp) kx fk) (he : ∀ (s : Shared) (H : Hp) (C : Addr) (cl : List (Str × Addr)) (fp : List Addr), E (X.blk s H scope (compEnvC scope cl C X.env) fp) vx fv) (hs : ∀ x, foldedSetIterable iter X.env x = pure x := by intro _; rfl) :
    S X mz (.Assign [.Name y py] (.DictComp kx vx [⟨tg, iter, ifs, 0⟩] scope pos) spos) (sSet j (xDcD i view (own.map (·.2)) g c fk fv)) := by
  have base := ps_setDc (pos := pos) (spos := spos) (kx := kx) (vx := vx) (g := cG X.K ms g) (tt := cT X.K c) (tk := cE X.K (xFz fk)) (tv := cE X.K (xFz fv)) hc hN hy hyl hsw vw.pi ok hg ht (fun s H C cl fp => (hk s H C cl fp).fz) (fun s H C cl fp => (he s H C cl fp).fz) hs
  refine ps_imp (PS.or (ps_lock base) base) fun Dd σ H h => ?_
  have q := set_imp him Dd σ H h
  rcases dcD_imp vw hms σ H _ q with q | q
  · refine .inl ?_
    obtain ⟨p, u, h1, h2, h3⟩ := q
    exact ⟨p, u, h1, h2, fun od => h3 od⟩
  · exact .inr q
theorem S.setDcA {mz : List Nat} {j : Nat} {y : Str} {py spos : Pos} {kx vx : Expr} {ifs : List Expr} {scope : Scope} {own : List (Str × Nat)} {ms : List Nat} {g : Gx} {c : Tx} {fk fv : Ex} (him : j ∈ mz) (hc : X.calm = true) (hN : X.N.Nodup) (hy : X.N[j]? = some y) (hyl : X.env.scope.names.lookup y = some .local)
    (hsw : swapsWith (.DictComp kx vx [⟨tg, iter, ifs, 0⟩] scope pos) (some (.Name y py)) spos.line X.env = pure true) (hv : PE X iter (tVar i)) (ok : BlkOk X.N X.env.scope scope own)
    (hg : ∀ (s : Shared) (H : Hp) (C : Addr) (cl : List (Str × Addr)) (fp : List Addr), G (X.blk s H scope (compEnvC scope cl C X.env) fp) tg ms g) (hms : ∀ i ∈ ms, i ∈ own.map (·.2)) (ht : ∀ (s : Shared) (H : Hp) (C : Addr) (cl : List (Str × Addr)) (fp : List Addr), Ts (X.blk s H scope (compEnvC scope cl C X.env) fp) ifs c)
    (hk : ∀ (s : Shared) (H : Hp) (C : Addr) (cl : List (Str × Addr)) (fp : List Addr), E (X.blk s H scope (compEnvC scope cl C X.env) fp) kx fk) (he : ∀ (s : Shared) (H : Hp) (C : Addr) (cl : List (Str × Addr)) (fp : List Addr), E (X.blk s H scope (compEnvC scope cl C X.env) fp) vx fv) (hs : ∀ x, foldedSetIterable iter X.env x = pure x := by intro _; rfl) :
    S X mz (.Assign [.Name y py] (.DictComp kx vx [⟨tg, iter, ifs, 0⟩] scope pos) spos) (sSet j (xDc (iSlot i) (own.map (·.2)) g c fk fv)) :=
  S.alt (S.setDc him hc hN hy hyl hsw (I.any (E.use hv)) ok hg hms ht hk he hs) (S.setDcD him hc hN hy hyl hsw (View.keys hv) ok hg hms ht hk he hs) (set_alt dc_alt)
/-! ### a, b, c = e1, e2, e3 -/
def sPar3 (i j l : Nat) (f g h : Ex) : Sx := fun e => match f e with
  | some (d1, o1, e1) => (match g e1 with
    | some (d2, o2, e2) => (match h e2 with
      | some (d3, o3, e3) => if i < e3.length ∧ j < e3.length ∧ l < e3.length then some (.nx, ((e3.set i (some (d1, o1))).set j (some (d2, o2))).set l (some (d3, o3))) else none
      | none => none)
    | none => none)
  | none => none
theorem S.par3 {ms : List Nat} {j l : Nat} {a b c : Expr} {x y z : Str} {px py pz pt : Pos} {kt k2 : _} {pt2 : Pos} (him : i ∈ ms) (hjm : j ∈ ms) (hlm : l ∈ ms) (hc : X.calm = true) (hN : X.N.Nodup) (hi : X.N[i]? = some x) (hj : X.N[j]? = some y) (hl : X.N[l]? = some z) (hij : i ≠ j) (hil : i ≠ l) (hjl : j ≠ l)
    (hx : X.env.scope.names.lookup x = some .local) (hy : X.env.scope.names.lookup y = some .local) (hz : X.env.scope.names.lookup z = some .local) (ha : E X a f) (hb : E X b g) (hcc : E X c h)
    (hw : swappedStores [.Tuple [.Name x px, .Name y py, .Name z pz] kt pt] (.Tuple [a, b, c] k2 pt2) X.env = pure (some [x, y, z]) := by rfl)
    (hs : swapsWithSole [.Tuple [.Name x px, .Name y py, .Name z pz] kt pt] (.Tuple [a, b, c] k2 pt2) pos.line X.env = pure false := by rfl)
    (hst : starEach [a, b, c] X.env = (false, eval a X.env) :: starEach [b, c] X.env := by rfl) (hst2 : starEach [b, c] X.env = (false, eval b X.env) :: starEach [c] X.env := by rfl) (hst3 : starEach [c] X.env = (false, eval c X.env) :: starEach [] X.env := by rfl) :
    S X ms (.Assign [.Tuple [.Name x px, .Name y py, .Name z pz] kt pt] (.Tuple [a, b, c] k2 pt2) pos) (sPar3 i j l f g h) := ps_imp (ps_par3 hc hN hi hj hl hij hil hjl hx hy hz (pa_cons ha (pa_cons hb (pa_cons hcc pa_nil hst3) hst2) hst) hw hs) fun Dd σ H => by
  rintro ⟨F, en, A, fl, e', E0, hx, post⟩
  unfold sPar3 at hx
  split at hx
  · rename_i d1 o1 e1 h1
    split at hx
    · rename_i d2 o2 e2 h2
      split at hx
      · rename_i d3 o3 e3 h3
        split at hx
        · rename_i hl
          cases hx
          refine ⟨F, en, A, d1, o1, e1, E0, h1, fun v H1 F1 A1 R1 E1 hv1 hn1 hd1 st1 => ?_⟩
          refine ⟨F1, e1, A1, d2, o2, e2, E1, h2, fun w H2 F2 A2 R2 E2 hv2 hn2 hd2 st2 => ?_⟩
          refine ⟨F2, e2, A2, d3, o3, e3, E2, h3, fun u H3 F3 A3 R3 E3 hv3 hn3 hd3 st3 => ?_⟩
          obtain ⟨st4, hh2⟩ := Step.hold (A := U A1) (R := R2) st2 st3 hn2 hd2 hv2.tr
          obtain ⟨st5, hh1⟩ := Step.hold (A := U A) (R := R1) st1 st4 hn1 hd1 hv1.tr
          have E4 := E3.put (i := i) (v := v) (d := d1) (o := o1) (R := R1) hl.1 (hv1.mono (st2.ff.trans st3.ff) fun a z => (hh1 a z).1) (fun a z => (hh1 a z).2.1) fun a z y => (hh1 a z).2.2 (.inl (.inl y))
          have E5 := E4.put (i := j) (v := w) (d := d2) (o := o2) (R := R2) (by rw [List.length_set]; exact hl.2.1) (hv2.mono st3.ff fun a z => (hh2 a z).1) (fun a z => (hh2 a z).2.1) fun a z ⟨k, y⟩ => by
            dsimp only at y
            by_cases hk : k = i
            · rw [if_pos hk] at y; exact (hh1 a y).2.2 (.inr z)
            · rw [if_neg hk] at y; exact (hh2 a z).2.2 (.inl ⟨k, y⟩)
          have E6 := E5.put (i := l) (v := u) (d := d3) (o := o3) (R := R3) (by rw [List.length_set, List.length_set]; exact hl.2.2) hv3 hn3 fun a z ⟨k, y⟩ => by
            dsimp only at y
            by_cases hk : k = j
            · rw [if_pos hk] at y; exact (hh2 a y).2.2 (.inr z)
            · rw [if_neg hk] at y
              by_cases hk2 : k = i
              · rw [if_pos hk2] at y; exact (hh1 a y).2.2 (.inl (.inr z))
              · rw [if_neg hk2] at y; exact hd3 a z ⟨k, y⟩
          refine ⟨v, w, u, rfl, post _ H3 F3 _ E6 (((Mo.set him).trans (Mo.set hjm)).trans (Mo.set hlm)) ?_⟩
          refine ⟨st5.ff, st5.keep, fun a z1 z2 z3 => ?_⟩
          obtain ⟨w1, w2, w3⟩ := st5.fr a z1 z2 z3
          refine ⟨w1, w2, fun ⟨k, y⟩ => w3 ?_⟩
          dsimp only at y
          by_cases hk : k = l
          · rw [if_pos hk] at y; exact .inl (.inl (.inr y))
          · rw [if_neg hk] at y
            by_cases hk2 : k = j
            · rw [if_pos hk2] at y; exact .inl (.inr y)
            · rw [if_neg hk2] at y
              by_cases hk3 : k = i
              · rw [if_pos hk3] at y; exact .inr y
              · rw [if_neg hk3] at y; exact .inl (.inl (.inl ⟨k, y⟩))
        · cases hx
      · cases hx
    · cases hx
  · cases hx
/-! ### is, is not: of None, of bools -/
def dIsA (a b : D) : Option (D × Fg) := match a, b with
  | .bool p, .bool q => some (.bool (decide (p = q)), .f)
  | a, b => dIsN a b
def dNotA (a b : D) : Option (D × Fg) := match a, b with
  | .bool p, .bool q => some (.bool (!decide (p = q)), .f)
  | a, b => dNotN a b
def rIsA : R2 := fun x y H Q => (y = .non ∧ Q (.bl (decide (x = .non))) H) ∨ rIsB x y H Q
def rNotA : R2 := fun x y H Q => (y = .non ∧ Q (.bl (!decide (x = .non))) H) ∨ rNotB x y H Q
theorem op_isA : OpR X (compareOp .Is) rIsA := op_isN.or op_isBl
theorem op_notA : OpR X (compareOp .IsNot) rNotA := op_notN.or op_notBl
theorem od_isA : OpD K rIsA dIsA := fun F H x y d1 d2 res o Q s h1 h2 he q => by
  unfold dIsA at he
  split at he
  · cases he
    cases h1
    cases h2
    exact .inr ⟨_, _, rfl, rfl, q _ H F Fp.no vd_bl (Fresh.refl s) no_fresh⟩
  · exact .inl (od_isN F H x y _ _ res o Q s h1 h2 he q)
theorem od_notA : OpD K rNotA dNotA := fun F H x y d1 d2 res o Q s h1 h2 he q => by
  unfold dNotA at he
  split at he
  · cases he
    cases h1
    cases h2
    exact .inr ⟨_, _, rfl, rfl, q _ H F Fp.no vd_bl (Fresh.refl s) no_fresh⟩
  · exact .inl (od_notN F H x y _ _ res o Q s h1 h2 he q)
/-! ### a comprehension within a comprehension -/
def relS (scope sc : Scope) : Scope := { scope with names := scope.names.map fun (n, k) => if (k == .free && sc.kind == .function && sc.names.lookup n == some .cell) then (n, .cell) else (n, k) }
theorem blkOk_nest {N : List Str} {scO scope sc0 : Scope} {own : List (Str × Nat)} {env : Env} {cl : List (Str × Addr)} {C : Addr} (he : env.scope = sc0) (h : blkC N (relS scO sc0) scope own = true) : BlkOk N (compEnvC scO cl C env).scope scope own := by
  subst he
  exact blkOk_by h
end
end Ev
namespace Ev
open PySem PySem.Spec PyProof.Rows L2
/-! ### a slot's own value is lent for a while -/
def lsOnly : Nat → D → Bool
  | 0, _ => true
  | n + 1, .list ds => ds.all (lsOnly n)
  | n + 1, .dict kvs => kvs.all fun p => lsOnly n p.2
  | _ + 1, .tuple _ => false
  | _ + 1, _ => true
def clean : Nat → D → Bool
  | 0, d => still d
  | n + 1, .list ds => ds.all (clean n)
  | n + 1, .dict kvs => kvs.all fun p => clean n p.2
  | _ + 1, d => still d
theorem still_clean {d : D} (h : still d = true) : ∀ n, clean n d = true
  | 0 => h
  | n + 1 => by
    cases d with
    | list _ => cases h
    | dict _ => cases h
    | _ => exact h
section
variable {K : PySem.W.Frag} {F H : Hp} {B : Fp}
/-- without what B holds -/
noncomputable def off (F : Hp) (B : Fp) : Hp := fun a => open Classical in if B a then none else F a
theorem off_in {a : Addr} (h : B a) : off F B a = none := by unfold off; rw [if_pos h]
theorem off_out {a : Addr} (h : ¬ B a) : off F B a = F a := by unfold off; rw [if_neg h]
/-- only lists and dicts stand at B -/
def LsAt (F : Hp) (B : Fp) : Prop := ∀ a, B a → ∀ u, F a = some u → (∃ xs, u = .lst xs) ∨ ∃ kvs, u = .dK kvs
theorem sqT_off {a : Addr} {xs : List V} (hB : LsAt F B) (h : SqT K F a xs) : SqT K (off F B) a xs := by
  rcases h with h | h
  · left
    have nb : ¬ B a := fun z => by
      rcases h with h | ⟨o, h⟩
      · rcases hB a z _ h with ⟨_, q⟩ | ⟨_, q⟩ <;> cases q
      · rcases hB a z _ h with ⟨_, q⟩ | ⟨_, q⟩ <;> cases q
    unfold Rd
    rw [off_out nb]
    exact h
  · exact .inr h
mutual
theorem fz_off (hB : LsAt F B) : ∀ {v : V} {d : D}, Fz K F v d → still d = true → Fz K (off F B) v d
  | _, _, .non, _ => .non
  | _, _, .bl b, _ => .bl b
  | _, _, .int i, _ => .int i
  | _, _, .str x, _ => .str x
  | _, _, .lst _ _, h => by cases h
  | _, _, .tup h a, q => .tup (sqT_off hB h) (fzAll_off hB a q)
  | _, _, .dct _ _, h => by cases h
theorem fzAll_off (hB : LsAt F B) : ∀ {v : List V} {d : List D}, FzAll K F v d → stillAll d = true → FzAll K (off F B) v d
  | _, _, .nil, _ => .nil
  | _, _, .cons h a, q => .cons (fz_off hB h ((Bool.and_eq_true _ _).mp q).1) (fzAll_off hB a ((Bool.and_eq_true _ _).mp q).2)
end
theorem stillAll_all : ∀ {ds : List D}, stillAll ds = true → ds.all still = true
  | [], _ => rfl
  | d :: ds, h => by
    have h := (Bool.and_eq_true _ _).mp h
    rw [List.all_cons, h.1, stillAll_all h.2]; rfl
mutual
theorem ow_off (hB : LsAt F B) : ∀ {n : Nat} {v : V} {d : D} {R : Fp}, Ow K F H n v d R → clean n d = true → Ow K (off F B) H n v d R
  | _, _, _, _, .fz h, q => .fz (fz_off hB h q)
  | _, _, _, _, .sc h s, _ => .sc (fz_off hB h s) s
  | _, _, _, _, .lst h a nb, q => .lst h (owAll_off hB a q) nb
  | n + 1, _, .tuple ds, _, .tup h a nb, q => .tup h (owAll_off hB a (by
      have q : still (.tuple ds) = true := q
      have := stillAll_all (ds := ds) q
      rw [List.all_eq_true] at this ⊢
      exact fun d hd => still_clean (this d hd) n)) nb
  | _, _, _, _, .dct h a nb, q => .dct h (owKV_off hB a q) nb
theorem owAll_off (hB : LsAt F B) : ∀ {n : Nat} {v : List V} {d : List D} {R : Fp}, OwAll K F H n v d R → d.all (clean n) = true → OwAll K (off F B) H n v d R
  | _, _, _, _, .nil, _ => .nil
  | _, _, _, _, .cons h a nb, q => .cons (ow_off hB h ((Bool.and_eq_true _ _).mp (List.all_cons ▸ q)).1) (owAll_off hB a ((Bool.and_eq_true _ _).mp (List.all_cons ▸ q)).2) nb
theorem owKV_off (hB : LsAt F B) : ∀ {n : Nat} {v : List (Key × V)} {d : List (D × D)} {R : Fp}, OwKV K F H n v d R → (d.all fun p => clean n p.2) = true → OwKV K (off F B) H n v d R
  | _, _, _, _, .nil, _ => .nil
  | _, _, _, _, .cons h a nb, q => .cons (ow_off hB h ((Bool.and_eq_true _ _).mp (List.all_cons ▸ q)).1) (owKV_off hB a ((Bool.and_eq_true _ _).mp (List.all_cons ▸ q)).2) nb
end
mutual
theorem ow_ls : ∀ {n : Nat} {v : V} {d : D} {R : Fp}, Ow K F H n v d R → lsOnly n d = true → LsAt H R
  | _, _, _, _, .fz h, _ => fun _ z => z.elim
  | _, _, _, _, .sc h s, _ => fun _ z => z.elim
  | _, _, _, _, .lst h a nb, q => fun b z u e => by
    rcases z with rfl | z
    · rw [h] at e; cases e; exact .inl ⟨_, rfl⟩
    · exact owAll_ls a q b z u e
  | _, _, _, _, .tup h a nb, q => by cases q
  | _, _, _, _, .dct h a nb, q => fun b z u e => by
    rcases z with rfl | z
    · rw [h] at e; cases e; exact .inr ⟨_, rfl⟩
    · exact owKV_ls a q b z u e
theorem owAll_ls : ∀ {n : Nat} {v : List V} {d : List D} {R : Fp}, OwAll K F H n v d R → d.all (lsOnly n) = true → LsAt H R
  | _, _, _, _, .nil, _ => fun _ z => z.elim
  | _, _, _, _, .cons h a nb, q => fun b z u e => z.elim (fun z => ow_ls h ((Bool.and_eq_true _ _).mp (List.all_cons ▸ q)).1 b z u e) fun z => owAll_ls a ((Bool.and_eq_true _ _).mp (List.all_cons ▸ q)).2 b z u e
theorem owKV_ls : ∀ {n : Nat} {v : List (Key × V)} {d : List (D × D)} {R : Fp}, OwKV K F H n v d R → (d.all fun p => lsOnly n p.2) = true → LsAt H R
  | _, _, _, _, .nil, _ => fun _ z => z.elim
  | _, _, _, _, .cons h a nb, q => fun b z u e => z.elim (fun z => ow_ls h ((Bool.and_eq_true _ _).mp (List.all_cons ▸ q)).1 b z u e) fun z => owKV_ls a ((Bool.and_eq_true _ _).mp (List.all_cons ▸ q)).2 b z u e
end
end
def okS (a b : Sl) : Prop := match b with
  | none => True
  | some (d, .f) => a = b ∨ still d = true
  | some (d, .o n) => clean (n + 1) d = true
def okT : En → En → Prop
  | a :: e, b :: e1 => okS a b ∧ okT e e1
  | [], [] => True
  | _, _ => False
def okE : Nat → En → En → Prop
  | 0, _ :: e, _ :: e1 => okT e e1
  | k + 1, a :: e, b :: e1 => okS a b ∧ okE k e e1
  | _, _, _ => False
theorem okT_get : ∀ {e e1 : En} {j : Nat} {b : Sl}, okT e e1 → e1[j]? = some b → ∃ a, e[j]? = some a ∧ okS a b
  | [], [], _, _, _, h => by cases h
  | a :: e, b :: e1, 0, _, q, h => by cases h; exact ⟨a, rfl, q.1⟩
  | a :: e, b :: e1, j + 1, _, q, h => okT_get (e := e) (e1 := e1) (j := j) q.2 h
  | [], _ :: _, _, _, q, _ => q.elim
  | _ :: _, [], _, _, q, _ => q.elim
theorem okE_get : ∀ {i : Nat} {e e1 : En} {j : Nat} {b : Sl}, okE i e e1 → j ≠ i → e1[j]? = some b → ∃ a, e[j]? = some a ∧ okS a b
  | 0, _ :: e, _ :: e1, 0, _, _, n, _ => absurd rfl n
  | 0, _ :: e, _ :: e1, j + 1, _, q, _, h => okT_get (e := e) (e1 := e1) (j := j) q h
  | k + 1, a :: e, b :: e1, 0, _, q, _, h => by cases h; exact ⟨a, rfl, q.1⟩
  | k + 1, a :: e, b :: e1, j + 1, _, q, n, h => okE_get (i := k) (e := e) (e1 := e1) (j := j) q.2 (fun z => n (by rw [z])) h
  | 0, [], [], _, _, q, _, _ => q.elim
  | 0, [], _ :: _, _, _, q, _, _ => q.elim
  | 0, _ :: _, [], _, _, q, _, _ => q.elim
  | _ + 1, [], [], _, _, q, _, _ => q.elim
  | _ + 1, [], _ :: _, _, _, q, _, _ => q.elim
  | _ + 1, _ :: _, [], _, _, q, _, _ => q.elim
def cleanV (d : D) : Fg → Bool
  | .f => still d
  | .o n => clean (n + 1) d
noncomputable def xBor (i : Nat) (f : Ex) : Ex := fun e => match e[i]? with
  | some (some (d0, .o n0)) => if lsOnly (n0 + 1) d0 = true then (match f (e.set i (some (d0, .f))) with
    | some (d, o, e1) => open Classical in if cleanV d o = true ∧ okE i e e1 then some (d, o, e1.set i (some (d0, .o n0))) else none
    | none => none) else none
  | _ => f e
section
variable {X : Cx} {e : Expr} {f : Ex} {i : Nat}
theorem E.bor (hf : E X e f) : E X e (xBor i f) := pe_imp (PE.or' hf hf) fun σ H Q => by
  rintro ⟨F, en, A, d, o, e', E0, hx, post⟩
  unfold xBor at hx
  split at hx
  · rename_i d0 n0 h0
    left
    split at hx
    · rename_i hls
      split at hx
      · rename_i d1 o1 e1 h1
        split at hx
        · rename_i hc
          cases hx
          obtain ⟨hcv, hok⟩ := hc
          obtain ⟨v0, hσ, hv0⟩ := E0.at_ i d0 _ h0
          have hv0 : Ow X.K F H (n0 + 1) v0 d0 (A i) := hv0
          have hi := len_of h0
          have nB : ∀ a, A i a → F a = none := fun a z => E0.nf i a z
          refine ⟨_, _, _, d, o, e1, E0.freeze h0, h1, fun v H' F' A' R E2 hv hn hd st => ?_⟩
          have inF : ∀ a, A i a → F' a = H a := fun a z => by
            have t := E0.tr a ⟨i, z⟩
            cases q : H a with
            | none => exact absurd q t
            | some u => exact st.ff a u (by rw [cup_in z]; exact q)
          have kA : ∀ a, A i a → H' a = H a := fun a z => by
            have t := E0.tr a ⟨i, z⟩
            cases q : H a with
            | none => exact absurd q t
            | some u => exact E2.sub a u (by rw [inF a z]; exact q)
          have hLs : LsAt F' (A i) := fun a z u q => ow_ls hv0 hls a z u (by rw [← inF a z]; exact q)
          have kF : Same F (off F' (A i)) := fun a u q => by
            have nb : ¬ A i a := fun z => by rw [nB a z] at q; cases q
            rw [off_out nb]
            exact st.ff a u (cup_same nB a u q)
          have nA : ∀ j a, A' j a → ¬ A i a := fun j a z y => by
            have t := E0.tr a ⟨i, y⟩
            have := E2.nf j a z
            rw [inF a y] at this
            exact t this
          have E3 : EnvOk X.K (off F' (A i)) H' σ (e1.set i (some (d0, .o n0))) (fun j => if j = i then A i else A' j) := by
            have hlen : e1.length = en.length := by rw [E2.len, E0.len]
            refine ⟨by rw [List.length_set, E2.len], fun j dj oj hj => ?_, fun j hj a ha => ?_, fun j k a g1 g2 => ?_, fun j a g => ?_, fun a u q => ?_⟩
            · by_cases hji : j = i
              · subst hji
                rw [List.getElem?_set_self (by omega)] at hj
                cases hj
                exact ⟨v0, hσ, by rw [if_pos rfl]; exact Ow.mono kF kA hv0⟩
              · rw [List.getElem?_set_ne (Ne.symm hji)] at hj
                obtain ⟨w, q1, q2⟩ := E2.at_ j dj oj hj
                refine ⟨w, q1, ?_⟩
                rw [if_neg hji]
                obtain ⟨s, q3, q4⟩ := okE_get hok hji hj
                cases oj with
                | o n => exact ow_off hLs q2 q4
                | f =>
                  refine ⟨?_, q2.2⟩
                  rcases q4 with q4 | q4
                  · rw [q4] at q3
                    obtain ⟨w2, q5, q6⟩ := E0.at_ j dj .f q3
                    rw [q1] at q5
                    cases q5
                    exact q6.1.mono kF
                  · exact fz_off hLs q2.1 q4
            · by_cases hji : j = i
              · subst hji
                exact (hj d0 n0 (List.getElem?_set_self (by omega))).elim
              · rw [if_neg hji] at ha
                exact E2.un j (fun dj n z => hj dj n (by rw [List.getElem?_set_ne (Ne.symm hji)]; exact z)) a ha
            · by_cases hji : j = i
              · rw [if_pos hji] at g1
                by_cases hki : k = i
                · rw [hji, hki]
                · rw [if_neg hki] at g2; exact (nA k a g2 g1).elim
              · rw [if_neg hji] at g1
                by_cases hki : k = i
                · rw [if_pos hki] at g2; exact (nA j a g1 g2).elim
                · rw [if_neg hki] at g2; exact E2.dis j k a g1 g2
            · by_cases hji : j = i
              · rw [if_pos hji] at g; exact off_in g
              · rw [if_neg hji] at g; rw [off_out (nA j a g)]; exact E2.nf j a g
            · by_cases nb : A i a
              · rw [off_in nb] at q; cases q
              · rw [off_out nb] at q; exact E2.sub a u q
          have hR : ∀ a, R a → ¬ A i a := fun a z y => by
            have t := E0.tr a ⟨i, y⟩
            have := hn a z
            rw [inF a y] at this
            exact t this
          refine post v H' (off F' (A i)) _ R E3 ?_ (fun a z => by rw [off_out (hR a z)]; exact hn a z) (fun a z ⟨j, y⟩ => ?_) ⟨kF, st.keep, fun a g1 g2 g3 => ?_⟩
          · cases o with
            | o n => exact ow_off hLs hv hcv
            | f => exact ⟨fz_off hLs hv.1 hcv, hv.2⟩
          · dsimp only at y
            by_cases hji : j = i
            · rw [if_pos hji] at y; exact hR a z y
            · rw [if_neg hji] at y; exact hd a z ⟨j, y⟩
          · have nb : ¬ A i a := fun z => g3 ⟨i, z⟩
            obtain ⟨w1, w2, w3⟩ := st.fr a g1 (by rw [cup_out nb]; exact g2) (fun ⟨j, y⟩ => by
              dsimp only at y
              by_cases hji : j = i
              · rw [if_pos hji] at y; exact y
              · rw [if_neg hji] at y; exact g3 ⟨j, y⟩)
            refine ⟨w1, by rw [off_out nb]; exact w2, fun y => ?_⟩
            rcases y with ⟨j, y⟩ | y
            · have y : (if j = i then A i else A' j) a := y
              by_cases hji : j = i
              · rw [if_pos hji] at y; exact nb y
              · rw [if_neg hji] at y; exact w3 (.inl ⟨j, y⟩)
            · exact w3 (.inr y)
        · cases hx
      · cases hx
    · cases hx
  · right
    exact ⟨F, en, A, d, o, e', E0, hx, post⟩
end
end Ev
/-! list(range(a, b)) whose numbers may be great -/
namespace Ev
open PySem PySem.Spec PyProof.Rows L2
section
variable {prog : Program} {w : World} {A : Around} {E : Value → Shared → Prop} {s : Shared}
theorem walk_wide {I d : Addr} {n : Nat} {P : Nat → Value → Prop} {St : Nat → Heap → Prop} (W : Walks prog w A I [I] [I] n P St) : Walks prog w A I [I, d] [I] n P St where
  sub := fun b hb => by rw [List.mem_singleton.mp hb]; exact List.mem_cons_self
  frame := fun i h h' st k => W.frame i h h' st fun b hb o e => k b (by rw [List.mem_singleton.mp hb]; exact List.mem_cons_self) o e
  item := W.item
  done := W.done
  self := W.self
/-- how a range is gone over, small or great -/
theorem range_walk {r : Addr} {a b : Int} {t u v : Tok} (hh : A.handled = none) (hr : IsRange s.heap r a b 1 t u v) : ∃ (oI : Obj) (St : Nat → Heap → Prop),
    (∀ (E : Value → Shared → Prop) (Q : Value → Shared → Prop), Q (.ref s.heap.objs.size) { s with heap := s.heap.push oI } → wpAny (model prog w) A (pyIter (.ref r)) Q E s) ∧
    Walks prog w A s.heap.objs.size [s.heap.objs.size] [s.heap.objs.size] (b - a).toNat (fun i v => ∃ t, v = .int (a + i * 1) t) St ∧ St 0 (s.heap.push oI) := by
  have hn := rangeSize_nat a b
  have e0 : a + ((0 : Nat) : Int) * 1 = a := by omega
  have e1 : (((b - a).toNat : Nat) : Int) - ((0 : Nat) : Int) = Builtin.Range.rangeSize a b 1 := by rw [hn]; omega
  cases hsm : Builtin.Range.small a b 1 with
  | true =>
    refine ⟨_, _, fun E Q q => wpAny_pyIter_range hr hsm q, Walks.range hh _ a 1 _, ?_⟩
    show IsRangeIter _ _ _ _ _
    rw [e0, e1]
    exact Heap.get?_push_size _ rfl
  | false =>
    refine ⟨_, _, fun E Q q => wpAny_pyIter_longrange hr hsm q, Walks.longrange hh _ a 1 _, ?_⟩
    show IsLongIter _ _ _ _ _
    rw [e0, e1]
    exact Heap.get?_push_size _ rfl
theorem extend_anyrange {R : Result → Shared → Prop} {r : Addr} {a b : Int} {t u v : Tok} (hh : A.handled = none) (hr : IsRange s.heap r a b 1 t u v) (hlen : (b - a).toNat ≤ 2 ^ 24) (S : Addr) (res : Value) (c0 : Nat) (hS : s.heap.get? S = some { cls := .type "list", data := .seq #[] c0 })
    (hR : ∀ (h' : Heap) (tk : Nat) (acc : Array Value) (c' : Nat), (∀ x o, x ≠ S → s.heap.get? x = some o → h'.get? x = some o) → h'.get? S = some { cls := .type "list", dict := none, data := .seq acc c', slots := #[] } → ItemsOf (fun i v => ∃ t, v = .int (a + i * 1) t) acc (b - a).toNat → R (.ok (.ret res)) { s with heap := h', toks := tk }) :
    wpAny (model prog w) A.in1 (Builtin.List.listExtendWith (.ref S) (.ref r) res)
      (fun fin s' => match fin with | .done f => R (.ok f) s' | .again c' => c'.quiet = true ∧ codeAny (model prog w) A c' R s') (fun e s' => R (.error e) s') s := by
  have nSr : S ≠ r := fun e => by rw [e, hr] at hS; simp at hS
  have nSI : S ≠ s.heap.objs.size := Nat.ne_of_lt (Heap.lt_size hS)
  obtain ⟨oI, St, hit, W, st⟩ := range_walk (A := A.in1) (prog := prog) (w := w) hh hr
  have go : ∀ (h : Heap) (c1 tk : Nat), St 0 h → (∀ x o, x ≠ S → s.heap.get? x = some o → h.get? x = some o) → h.get? S = some { cls := .type "list", data := .seq #[] c1 } →
      codeAny (model prog w) A (.builtin "list.extend.loop" ⟨[.ref S, .ref s.heap.objs.size, res], []⟩) R { s with heap := h, toks := tk } := fun h c1 tk q hk q2 => by
    refine codeAny_extend_loopS W.toS (by rw [sizeLine_eq]; omega) S (fun z => nSI (List.mem_singleton.mp z)) res _ 0 _ #[] c1 rfl (Nat.zero_le _) q q2 (ItemsOf.nil _) fun s' acc c' hm q3 q4 => ?_
    rw [Moved.eq_with hm]
    refine hR s'.heap s'.toks acc c' (fun x o hx e => hm.heap x o (fun z => ?_) (hk x o hx e)) q3 q4
    rcases List.mem_cons.mp z with z | z
    · exact hx z
    · exact absurd (Heap.lt_size e) (by rw [List.mem_singleton.mp z]; exact Nat.lt_irrefl _)
  unfold Builtin.List.listExtendWith
  refine wpAny_bind (wpAny_typeOf (T := "range") ⟨_, hr, rfl⟩ ?_)
  rw [show Builtin.List.listSameRef (.ref S) (.ref r) = false by simp [Builtin.List.listSameRef, nSr]]
  rw [show (Value.type "range" == Value.type "list") = false by decide, show (Value.type "range" == Value.type "tuple") = false by decide]
  simp only [Bool.or_false, Bool.false_eq_true, if_false]
  refine wpAny_bind (hit _ _ ?_)
  have q1 := Heap.get?_push_of_some oI hS
  refine wpAny_bind (wpAny_holding (wpAny_hint_range (Heap.get?_push_of_some _ hr) (rangeSize_nat a b) hlen ?_))
  refine wpAny_ite_split (fun _ => ?_) (fun _ => wpAny_pure ⟨plainId_quiet PySem.F.plain_extend_loop _, go _ c0 _ st (fun x o _ e => Heap.get?_push_of_some _ e) q1⟩)
  refine wpAny_bind (wpAny_rule (wpAny_bind ?_))
  show wpAny _ _ (updateSeq S (·.push .none) >>= fun _ => updateSeq S (·.pop)) _ _ _
  have q2 := Heap.get?_update_self (Obj.mapSeq (·.push Value.none)) q1 rfl
  have q3 := Heap.get?_update_self (Obj.mapSeq (·.pop)) q2 rfl
  have oth : ∀ x o, x ≠ S → (s.heap.push oI).get? x = some o → (((s.heap.push oI).update S (Obj.mapSeq (·.push Value.none))).update S (Obj.mapSeq (·.pop))).get? x = some o :=
    fun x o hx e => (Heap.get?_update_other _ _ (Ne.symm hx)).trans ((Heap.get?_update_other _ _ (Ne.symm hx)).trans e)
  refine wpAny_bind (wpAny_updateSeq q1 rfl (wpAny_updateSeq (hz := by seq_fits) q2 rfl (wpAny_pure ⟨plainId_quiet PySem.F.plain_extend_loop _, go _ _ _ (W.frame 0 _ _ st fun x hx o e => oth x o (fun z => nSI (by rw [← z]; exact List.mem_singleton.mp hx)) e) (fun x o hx e => oth x o hx (Heap.get?_push_of_some _ e)) q3⟩)))
theorem list_anyrange {Q : Value → Shared → Prop} {r : Addr} {a b : Int} {t u v : Tok} (hh : A.handled = none) (hr : IsRange s.heap r a b 1 t u v) (hlen : (b - a).toNat ≤ 2 ^ 24)
    (hQ : ∀ (h' : Heap) (tk : Nat) (acc : Array Value) (c' : Nat), (∀ x o, s.heap.get? x = some o → h'.get? x = some o) → h'.get? s.heap.objs.size = some { cls := .type "list", dict := none, data := .seq acc c', slots := #[] } → ItemsOf (fun i v => ∃ t, v = .int (a + i * 1) t) acc (b - a).toNat → Q (.ref s.heap.objs.size) { s with heap := h', toks := tk }) :
    wpAny (model prog w) A (call (.type "list") [.ref r]) Q E s := by
  refine callType_codes (Q₁ := fun x s1 => x = .ref s.heap.objs.size ∧ s1 = { s with heap := s.heap.push { cls := .type "list", data := .seq #[] } }) PySem.F.called_list (PySem.F.typeCall_list_1 _) PySem.F.entry_list_init (code_list_new _ ⟨rfl, rfl⟩) fun x s1 ⟨e1, e2⟩ => ?_
  subst e1 e2
  generalize hS0 : s.heap.objs.size = S
  have hS : (s.heap.push { cls := .type "list", data := .seq #[] }).get? S = some { cls := .type "list", data := .seq #[] } := by rw [← hS0]; exact Heap.get?_push_size _ rfl
  have hr2 := Heap.get?_push_of_some { cls := .type "list", data := .seq #[] } hr
  have nSr : S ≠ r := fun e => by rw [e, hr2] at hS; simp at hS
  refine ⟨⟨_, hS, rfl⟩, PySem.F.args_list_init_2 _ _, ?_⟩
  show wpAny _ _ (do let old ← Builtin.List.listItems (.ref S); Builtin.List.listUpdate (.ref S) (fun _ => #[]); letGo old.toList.reverse; Builtin.List.listExtendWith (.ref S) (.ref r) .none) _ _ _
  have oth : ∀ x o, x ≠ S → (s.heap.push { cls := .type "list", data := .seq #[] }).get? x = some o → ((s.heap.push { cls := .type "list", data := .seq #[] }).update S (Obj.mapSeq (fun _ => (#[] : Array Value)))).get? x = some o :=
    fun x o hx e => (Heap.get?_update_other _ _ (Ne.symm hx)).trans e
  refine wpAny_bind ?_
  unfold Builtin.List.listItems
  refine wpAny_bind (wpAny_seqItems hS rfl (wpAny_pure ?_))
  show wpAny _ _ (updateSeq S (fun _ => #[]) >>= fun _ => letGo (#[] : Array Value).toList.reverse >>= fun _ => Builtin.List.listExtendWith (.ref S) (.ref r) .none) _ _ _
  refine wpAny_bind (wpAny_updateSeq hS rfl (wpAny_bind (wpAny_letGo ?_)))
  refine extend_anyrange (A := A.in1) hh (oth r _ (Ne.symm nSr) hr2) hlen S .none _ (Heap.get?_update_self (Obj.mapSeq (fun _ => (#[] : Array Value))) hS rfl) fun h' tk acc c' hk q1 q2 => ?_
  refine ⟨rfl, ?_⟩
  refine hQ h' tk acc c' (fun x o e => ?_) (by rw [hS0]; exact q1) q2 |> fun z => by rw [← hS0]; exact z
  have hx : x ≠ S := by rw [← hS0]; exact Nat.ne_of_lt (Heap.lt_size e)
  exact hk x o hx (oth x o hx (Heap.get?_push_of_some _ e))
end
section
variable {X : Cx} {K : PySem.W.Frag} {a b e : Expr} {f g : Ex} {pos p : Pos} {te : L2.St → Hp → (Int → Int → Hp → Prop) → Prop}
theorem pe_listRgA (hc : X.calm = true) (hg : Gl X "list") (hm : X.mg "list" = none) (he : PRg X e te) (na : starEach [e] X.env = (false, eval e X.env) :: starEach [] X.env := by rfl) :
    PE X (.Call (.Name "list" p) [e] [] pos) (fun σ H Q => te σ H fun a b H1 => (b - a).toNat ≤ 2 ^ 24 ∧ ∀ q, H1 q = none → Q (.ref q) (upd H1 q (.lst (rgV a b)))) := by
  refine ⟨fun pins s σ H Q I h => ?_⟩
  refine Call_ (ld_blt I hg hm boot_list (PyProof.Rows.callWith_type1 (args_cons (thn (he pins s σ H _ I h) fun x s1 ⟨r, a, b, t, u, v, H1, ex, hr, I1, b5, q⟩ => args_nil ?_) na) na))
  subst ex
  refine list_anyrange (I1.ok.hd hc) hr b5 fun h' tk acc c' hk e' hi => ?_
  refine ⟨.ref s1.heap.objs.size, upd H1 s1.heap.objs.size (.lst (rgV a b)), I1.laid hk (Nat.le_refl _) (show ObjOk X.prog X.w _ _ _ (.lst (rgV a b)) from ⟨?_, acc.toList, c', vals_rg hi, ?_⟩), rfl, q _ (I1.hok.fresh (Nat.le_refl _))⟩
  · rw [rgV_length, sizeLine_eq]; omega
  · rw [Array.toArray_toList]; exact e'
def xLrgA (f g : Ex) : Ex := fun e => bnd (f e) fun d1 e1 => bnd (g e1) fun d2 e2 => match d1, d2 with
  | .int i, .int j => if (j - i).toNat ≤ 2 ^ 24 then some (.list (rangeD i (j - i).toNat), .o 0, e2) else none
  | _, _ => none
theorem E.lrgA {q2 q3 : Pos} (hc : X.calm = true) (hg : Gl X "list") (hm : X.mg "list" = none) (hg2 : Gl X "range") (hm2 : X.mg "range" = none) (ha : E X a f) (hb : E X b g) (na : starEach [a, b] X.env = (false, eval a X.env) :: starEach [b] X.env := by rfl) (nb : starEach [b] X.env = (false, eval b X.env) :: starEach [] X.env := by rfl) (hp : (backTo q3 (starEach [b] X.env)).any (·.1) = false := by rfl)
    (ne : starEach [.Call (.Name "range" q2) [a, b] [] q3] X.env = (false, eval (.Call (.Name "range" q2) [a, b] [] q3) X.env) :: starEach [] X.env := by rfl) :
    E X (.Call (.Name "list" p) [.Call (.Name "range" q2) [a, b] [] q3] [] pos) (xLrgA f g) := pe_imp (pe_listRgA hc hg hm (prg_2 hg2 hm2 ha.fz hb.fz na nb hp) ne) fun σ H Q => by
  rintro ⟨F, en, A, d, o', e', E0, hx, post⟩
  obtain ⟨d1, o1, e1, h1, hx1⟩ := bnd_eq hx
  obtain ⟨d2, o2, e2, h2, hx2⟩ := bnd_eq hx1
  clear hx hx1
  refine E.fz_run E0 h1 fun x H1 F1 A1 E1 hz1 st1 => ?_
  refine E.fz_run E1 h2 fun y H2 F2 A2 E2 hy st2 => ?_
  split at hx2
  · rename_i i j
    split at hx2
    · rename_i hb
      cases hx2
      cases hz1
      cases hy
      refine ⟨_, _, rfl, rfl, hb, fun q hq => ?_⟩
      obtain ⟨q1, q2, q3, q4⟩ := fz_out E2 (fresh_new (u := .lst (rgV i j)) E2.sub hq) (new_R E2.sub hq)
      exact post _ _ F2 A2 _ q1 (vd_new hq (fz_rg i j)) q2 q3 ((st1.trans st2).trans q4)
    · cases hx2
  · cases hx2
end
end Ev
/-! ### == of dicts whose values hold no dict; such a dict in a list of such -/
namespace Ev
open PySem PySem.Spec PyProof.Rows L2
def okV (ds : List (D × D)) : Bool := ds.all fun p => eqOk p.2
def eqP1 (b : List (D × D)) (p : D × D) : Bool := match keyD p.1 with
  | some k => (match lookD b k with | some w => PyData.eqv p.2 w | none => false)
  | none => false
def eqDD (a b : List (D × D)) : Bool := a.length == b.length && a.all (eqP1 b)
def dEqK (a b : D) : Option (D × Fg) := match a, b with
  | .dict x, .dict y => if okV x = true ∧ okV y = true then some (.bool (eqDD x y), .f) else none
  | _, _ => none
def dNeK (a b : D) : Option (D × Fg) := match a, b with
  | .dict x, .dict y => if okV x = true ∧ okV y = true then some (.bool (!eqDD x y), .f) else none
  | _, _ => none
def okDs (d : D) : Bool := match d with
  | .dict z => okV z
  | _ => false
def eqDs (x : List (D × D)) (d : D) : Bool := match d with
  | .dict z => eqDD z x
  | _ => false
def dInK (a b : D) : Option (D × Fg) := match a, b with
  | .dict x, .list ys => if okV x = true ∧ ys.all okDs = true then some (.bool (ys.any (eqDs x)), .f) else none
  | _, _ => none
section
variable {X : Cx} {pins : List (Addr × Obj)} {σ : L2.St} {H : Hp} {s : Shared}
theorem keyD_kD (k : Key) : keyD (kD k) = some k := by cases k <;> rfl
theorem okV_cons {p : D × D} {l : List (D × D)} (h : okV (p :: l) = true) : eqOk p.2 = true ∧ okV l = true := by
  unfold okV at h ⊢
  rw [List.all_cons, Bool.and_eq_true] at h
  exact h
theorem okV_look {l : List (D × D)} {k : Key} {d : D} (h : okV l = true) (e : lookD l k = some d) : eqOk d = true := by
  unfold lookD at e
  obtain ⟨p, hp, rfl⟩ := Option.map_eq_some_iff.mp e
  exact List.all_eq_true.mp h p (List.mem_of_find?_eq_some hp)
theorem hitsK (I : Inv X pins σ H s) {A : Around} (hu : A.in1.units + 64 < cLine) {ls : List (Key × V)} {db : List (D × D)} {vb : List (Key × Value)} (fb : FzKV X.K H ls db) (rb : KV ls vb) (ob : okV db = true) :
    ∀ {ks : List (Key × V)} {da : List (D × D)} {va : List (Key × Value)}, FzKV X.K H ks da → KV ks va → okV da = true → PySem.W.KeqHits A.in1 s vb va (da.all (eqP1 db))
  | _, _, _, .nil, .nil, _ => .nil
  | (k, v) :: ks, (_, d) :: da, (k', u) :: va, .cons f fs, .cons h t, oa => by
    obtain ⟨h1, h2⟩ := h
    have h1 : k = k' := h1
    have h2 : RelV v u := h2
    subst h1
    obtain ⟨o1, o2⟩ := okV_cons oa
    have o1 : eqOk d = true := o1
    have ih := hitsK I hu fb rb ob fs t o2
    have rr : RelO (valV ls k) (valueAt vb k) := rb.val k
    rw [List.all_cons]
    have e1 : eqP1 db (kD k, d) = (match lookD db k with | some w => PyData.eqv d w | none => false) := by
      unfold eqP1
      show (match keyD (kD k) with | some k => _ | none => _) = _
      rw [keyD_kD]
    rw [e1]
    obtain ⟨q1, q2⟩ := fzKV_look (k := k) fb
    cases hl : lookD db k with
    | none =>
      rw [q2 hl] at rr
      rw [Bool.false_and]
      exact .miss rr.none_of
    | some w =>
      obtain ⟨x, hx, hf⟩ := q1 w hl
      rw [hx] at rr
      obtain ⟨y, hy, ry⟩ := rr.some_of
      obtain ⟨s1, n1⟩ := eqOk_sh o1
      obtain ⟨s2, n2⟩ := eqOk_sh (okV_look ob hl)
      obtain ⟨as, r1⟩ := Dp.reads I d v u (Fz.dp n1 f) h2
      obtain ⟨bs, r2⟩ := Dp.reads I w x y (Fz.dp n2 hf) ry
      exact .hit hy (PySem.W.keq_at r1 r2 s1 s2 hu) ih
def rEqK (K : PySem.W.Frag) (neg : Bool) : R2 := fun x y H Q => ∃ a b ks ls da db, x = V.ref a ∧ y = V.ref b ∧ Rd H a (.dK ks) ∧ Rd H b (.dK ls) ∧ FzKV K H ks da ∧ FzKV K H ls db ∧ okV da = true ∧ okV db = true ∧ Q (.bl (neg ^^ eqDD da db)) H
theorem FzKV.len {K : PySem.W.Frag} : ∀ {ks : List (Key × V)} {da : List (D × D)}, FzKV K H ks da → ks.length = da.length
  | _, _, .nil => rfl
  | _, _, .cons _ t => by rw [List.length_cons, List.length_cons, FzKV.len t]
theorem op_eqK (hu : X.A.units + 65 < cLine) : OpR X (compareOp .Eq) (rEqK X.K false) := by
  intro pins s σ H x y v u Q I rx ry h
  obtain ⟨a, b, ks, ls, da, db, rfl, rfl, ea, eb, fa, fb, oa, ob, q⟩ := h
  obtain rfl : v = Value.ref a := rx
  obtain rfl : u = Value.ref b := ry
  obtain ⟨_, ya, va, ra, xa⟩ := (show ObjOk X.prog X.w H s.heap a (.dK ks) from ea.ok I.hok)
  obtain ⟨_, yb, vb, rb, xb⟩ := (show ObjOk X.prog X.w H s.heap b (.dK ls) from eb.ok I.hok)
  have l1 : va.length = da.length := by rw [← ra.length, ← fa.len]
  have l2 : vb.length = db.length := by rw [← rb.length, ← fb.len]
  refine PySem.W.keq_eq (knd := mixKind X.prog X.w) (r := da.all (eqP1 db)) ya yb xa xb (by omega) (fun _ => hitsK I (by show X.A.units + 1 + 64 < cLine; omega) fb rb ob fa ra oa) (fin_bl I q ?_)
  rw [l1, l2, Bool.false_xor]
  rfl
theorem op_neK (hu : X.A.units + 65 < cLine) : OpR X (compareOp .NotEq) (rEqK X.K true) := by
  intro pins s σ H x y v u Q I rx ry h
  obtain ⟨a, b, ks, ls, da, db, rfl, rfl, ea, eb, fa, fb, oa, ob, q⟩ := h
  obtain rfl : v = Value.ref a := rx
  obtain rfl : u = Value.ref b := ry
  obtain ⟨_, ya, va, ra, xa⟩ := (show ObjOk X.prog X.w H s.heap a (.dK ks) from ea.ok I.hok)
  obtain ⟨_, yb, vb, rb, xb⟩ := (show ObjOk X.prog X.w H s.heap b (.dK ls) from eb.ok I.hok)
  have l1 : va.length = da.length := by rw [← ra.length, ← fa.len]
  have l2 : vb.length = db.length := by rw [← rb.length, ← fb.len]
  refine PySem.W.keq_ne (knd := mixKind X.prog X.w) (r := da.all (eqP1 db)) ya yb xa xb (by omega) (fun _ => hitsK I (by show X.A.units + 1 + 64 < cLine; omega) fb rb ob fa ra oa) (fin_bl I q ?_)
  rw [l1, l2, Bool.true_xor]
  rfl
theorem od_eqK {K : PySem.W.Frag} : OpD K (rEqK K false) dEqK := fun F H x y d1 d2 res o Q s h1 h2 he q => by
  unfold dEqK at he
  split at he
  · rename_i a b
    by_cases h : okV a = true ∧ okV b = true
    · rw [if_pos h] at he
      cases he
      cases h1.mono s with
      | dct ra fa => cases h2.mono s with
        | dct rb fb => exact ⟨_, _, _, _, _, _, rfl, rfl, ra, rb, fa, fb, h.1, h.2, by rw [Bool.false_xor]; exact q _ H F Fp.no vd_bl (Fresh.refl s) no_fresh⟩
    · rw [if_neg h] at he; cases he
  · cases he
theorem od_neK {K : PySem.W.Frag} : OpD K (rEqK K true) dNeK := fun F H x y d1 d2 res o Q s h1 h2 he q => by
  unfold dNeK at he
  split at he
  · rename_i a b
    by_cases h : okV a = true ∧ okV b = true
    · rw [if_pos h] at he
      cases he
      cases h1.mono s with
      | dct ra fa => cases h2.mono s with
        | dct rb fb => exact ⟨_, _, _, _, _, _, rfl, rfl, ra, rb, fa, fb, h.1, h.2, by rw [Bool.true_xor]; exact q _ H F Fp.no vd_bl (Fresh.refl s) no_fresh⟩
    · rw [if_neg h] at he; cases he
  · cases he
/-! ### in -/
theorem hitsP {A : Around} {s : Shared} {kb : List (Key × Value)} : ∀ {ka : List (Key × Value)} {r : Bool}, PySem.W.KeqHits A s kb ka r → PySem.W.KeqHitsP X.prog X.w A s kb ka r
  | _, _, .nil => .nil
  | _, _, .miss h => .miss h
  | _, _, .hit h e r => .hit h e.eqP (hitsP r)
theorem Rd.fn {H : Hp} {a : Addr} {u w : HO} (h1 : Rd H a u) (h2 : Rd H a w) (hu : ∀ o z, u ≠ .frz o z) (hw : ∀ o z, w ≠ .frz o z) : u = w := by
  rcases h1 with h1 | ⟨o, h1⟩ <;> rcases h2 with h2 | ⟨o2, h2⟩ <;> rw [h1] at h2
  · exact Option.some.inj h2
  · exact absurd (Option.some.inj h2) (hu _ _)
  · exact absurd (Option.some.inj h2).symm (hw _ _)
  · have := Option.some.inj h2
    injection this
theorem fzKV_fn (I : Inv X pins σ H s) : ∀ {ks : List (Key × V)} {da db : List (D × D)} {va : List (Key × Value)}, KV ks va → FzKV X.K H ks da → FzKV X.K H ks db → okV da = true → okV db = true → da = db
  | _, _, _, _, .nil, .nil, .nil, _, _ => rfl
  | (k, v) :: ks, (_, d) :: da, (_, e) :: db, (k', u) :: va, .cons h t, .cons f fs, .cons g gs, oa, ob => by
    obtain ⟨_, h2⟩ := h
    have h2 : RelV v u := h2
    obtain ⟨a1, a2⟩ := okV_cons oa
    obtain ⟨b1, b2⟩ := okV_cons ob
    obtain ⟨s1, n1⟩ := eqOk_sh (show eqOk d = true from a1)
    obtain ⟨s2, n2⟩ := eqOk_sh (show eqOk e = true from b1)
    obtain ⟨as, r1⟩ := Dp.reads I d v u (Fz.dp n1 f) h2
    obtain ⟨bs, r2⟩ := Dp.reads I e v u (Fz.dp n2 g) h2
    have e1 := SeqAt.readOf_eq (SeqAt.canLay_of_shaped s1) r1
    have e2 := SeqAt.readOf_eq (SeqAt.canLay_of_shaped s2) r2
    rw [fzKV_fn I t fs gs a2 b2, ← e1, e2]
theorem kv_keys : ∀ {ks : List (Key × V)} {va : List (Key × Value)}, KV ks va → ks.map (·.1) = va.map (·.1)
  | _, _, .nil => rfl
  | _, _, .cons h t => by rw [List.map_cons, List.map_cons, kv_keys t, h.1]
theorem fzKV_self {K : PySem.W.Frag} : ∀ {ks : List (Key × V)} {da : List (D × D)}, FzKV K H ks da → (ks.map (·.1)).Nodup → ∀ p ∈ da, ∃ k, p.1 = kD k ∧ lookD da k = some p.2
  | _, _, .nil, _, _, hp => (by cases hp)
  | (k, v) :: vs, (_, d) :: ds, .cons f fs, nd, p, hp => by
    rw [List.map_cons, List.nodup_cons] at nd
    rcases List.mem_cons.mp hp with rfl | hp
    · refine ⟨k, rfl, ?_⟩
      unfold lookD
      rw [List.find?_cons]
      dsimp only
      rw [keyIs_kD, decide_eq_true rfl]
      rfl
    · obtain ⟨j, j1, j2⟩ := fzKV_self fs nd.2 p hp
      refine ⟨j, j1, ?_⟩
      obtain ⟨x, hx, _⟩ := (fzKV_look (k := j) fs).1 _ j2
      unfold lookD at j2 ⊢
      rw [List.find?_cons]
      dsimp only
      rw [keyIs_kD, decide_eq_false]
      · exact j2
      · intro e
        refine nd.1 ?_
        have e : k = j := e
        rw [e]
        unfold valV at hx
        obtain ⟨q, hq, _⟩ := Option.map_eq_some_iff.mp hx
        have hqk := List.find?_some hq
        exact List.mem_map.mpr ⟨q, List.mem_of_find?_eq_some hq, of_decide_eq_true hqk⟩
theorem eqDD_self {da : List (D × D)} {K : PySem.W.Frag} {ks : List (Key × V)} (f : FzKV K H ks da) (nd : (ks.map (·.1)).Nodup) (o : okV da = true) : eqDD da da = true := by
  unfold eqDD
  rw [beq_self_eq_true, Bool.true_and, List.all_eq_true]
  intro p hp
  have hk := fzKV_self f nd p hp
  obtain ⟨k, k1, k2⟩ := hk
  unfold eqP1
  rw [k1, keyD_kD]
  dsimp only
  rw [k2]
  obtain ⟨s1, _⟩ := eqOk_sh (List.all_eq_true.mp o p hp)
  exact SeqAt.eqv_refl p.2 (SeqAt.canLay_of_shaped s1)
theorem eqP_dicts (I : Inv X pins σ H s) {A : Around} (hu : A.units + 65 < cLine) {a b : Addr} {da db : List (D × D)} (fa : Fz X.K H (.ref a) (.dict da)) (fb : Fz X.K H (.ref b) (.dict db)) (oa : okV da = true) (ob : okV db = true) :
    SeqAt.EqP X.prog X.w A s (.ref a) (.ref b) (eqDD da db) := by
  cases fa with
  | @dct _ ks _ ea fa =>
  cases fb with
  | @dct _ ls _ eb fb =>
  obtain ⟨_, ya, va, ra, xa⟩ := (show ObjOk X.prog X.w H s.heap a (.dK ks) from ea.ok I.hok)
  obtain ⟨_, yb, vb, rb, xb⟩ := (show ObjOk X.prog X.w H s.heap b (.dK ls) from eb.ok I.hok)
  by_cases e : a = b
  · subst e
    have hkl := Rd.fn ea eb (fun o z h => by cases h) (fun o z h => by cases h)
    cases hkl
    have hd := fzKV_fn I ra fa fb oa ob
    subst hd
    have nd : (ks.map (·.1)).Nodup := by
      obtain ⟨_, _, _, _, _, _, _, _, nd⟩ := xa
      have e1 := kv_keys ra
      rw [e1]
      exact nd
    rw [eqDD_self fa nd oa]
    exact (SeqAt.EqAt.same _).eqP
  · refine SeqAt.eqP_refs e fun E Q hq => ?_
    have l1 : va.length = da.length := by rw [← ra.length, ← fa.len]
    have l2 : vb.length = db.length := by rw [← rb.length, ← fb.len]
    refine PySem.W.rcP_dicts (knd := mixKind X.prog X.w) (r := da.all (eqP1 db)) ya yb xa xb (by omega) (fun _ => hitsP (hitsK I (by show A.units + 1 + 64 < cLine; omega) fb rb ob fa ra oa)) E Q ?_
    rw [l1, l2]
    exact hq
theorem hu66_of {A : Around} {k : Nat} (hr : Room k A) : A.units + 66 < cLine := Nat.lt_of_le_of_lt (Nat.add_le_add_left (by decide : 66 ≤ 16 * 0 + 200) _) (Nat.lt_of_le_of_lt (Nat.add_le_add_left (Nat.add_le_add_right (Nat.mul_le_mul_left 16 (Nat.zero_le k)) 200) _) (by have := hr.un; omega))
end
end Ev
namespace PySem.SeqAt
open AutoSeq1 (wpAny_loadPart')
open MeetsSeq MeetsSeq2 MeetsSeq3 SeqRoads2
section
variable {prog : Program} {w : World}
/-- x in a list, item by item, in one model -/
theorem ev_in_loop (l : Addr) (items : Array Value) (n : Nat) (dd : Option Addr) (sl : Array (Option Value)) (x : Value) (e : Nat → Bool) (k : Nat) :
    ∀ i : Nat, items.size - i = k → MeetsIn prog w (Builtin.«list.__contains__.loop» ⟨[.ref l, x, rawInt i], []⟩)
      (fun A R s => s.heap.get? l = some { cls := .type "list", dict := dd, data := .seq items n, slots := sl } ∧ (∀ j (h : j < items.size), EqP prog w A.in1 s items[j] x (e j)) ∧ R (.ok (.ret (.bool (((List.range items.size).drop i).any e)))) s) := by
  induction k with
  | zero =>
    intro i hk A R s h
    obtain ⟨hp, g, d, tk, os⟩ := s; obtain ⟨hl, he, h⟩ := h
    wp_walk using wpAny_loadPart' hl
    have hi : items[((i : Nat) : Int).toNat]? = none := by simp; omega
    have hd : (List.range items.size).drop i = [] := by simp; omega
    rw [hd] at h
    rw [hi]
    wp_walk
    exact h
  | succ k ih =>
    intro i hk A R s h
    obtain ⟨hp, g, d, tk, os⟩ := s; obtain ⟨hl, he, h⟩ := h
    wp_walk using wpAny_loadPart' hl
    have hlt : i < items.size := by omega
    have hi : items[((i : Nat) : Int).toNat]? = some items[i] := by simp [hlt]
    have hd : (List.range items.size).drop i = i :: (List.range items.size).drop (i + 1) := by simp [List.drop_eq_getElem_cons, hlt]
    rw [hd, List.any_cons] at h
    rw [hi]
    refine wpAny_bind (he i hlt _ _ ?_)
    cases hb : e i with
    | true =>
      rw [hb] at h
      wp_walk
      exact h
    | false =>
      rw [hb] at h
      have hc : ((i : Int) + 1) = ((i + 1 : Nat) : Int) := by push_cast; rfl
      wp_walk
      rw [hc]
      exact ⟨plainId_quiet plain_contains_loop _, codeAny_builtin entry_contains_loop (by
        rw [Around.under_plainId plain_contains_loop _]
        exact ih (i + 1) (by omega) A R _ ⟨hl, he, by simpa using h⟩)⟩
theorem ev_in_list (l : Addr) (items : Array Value) (n : Nat) (dd : Option Addr) (sl : Array (Option Value)) (x : Value) (e : Nat → Bool) :
    MeetsIn prog w (Builtin.«list.__contains__» ⟨[.ref l, x], []⟩)
      (fun A R s => s.heap.get? l = some { cls := .type "list", dict := dd, data := .seq items n, slots := sl } ∧ (∀ j (h : j < items.size), EqP prog w A.in1 s items[j] x (e j)) ∧ R (.ok (.ret (.bool ((List.range items.size).any e)))) s) := by
  intro A R s h
  obtain ⟨hp, g, d, tk, os⟩ := s; obtain ⟨hl, he, h⟩ := h
  wp_walk using wpAny_loadPart' hl
  exact ⟨plainId_quiet plain_contains_loop _, codeAny_builtin entry_contains_loop (by
    rw [Around.under_plainId plain_contains_loop _]
    exact ev_in_loop l items n dd sl x e _ 0 rfl A R _ ⟨hl, he, by simpa using h⟩)⟩
theorem ev_in {A : Around} {E : Value → Shared → Prop} {s : Shared} {l : Addr} {items : Array Value} {x : Value} {Q : Value → Shared → Prop} (e : Nat → Bool) (hl : s.heap.IsList l items) (he : ∀ j (h : j < items.size), EqP prog w A.in1 s items[j] x (e j))
    (h : Q (.bool ((List.range items.size).any e)) s) : wpAny (model prog w) A (compareOp .In x (.ref l)) Q E s := by
  obtain ⟨⟨cls, dd, data, sl⟩, ho, hc, n, hd⟩ := id hl
  simp only at hc hd
  subst hc hd
  show wpAny _ A (do return .bool (← contains (.ref l) x)) Q E s
  refine wpAny_bind (wpAny_contains_slot ⟨_, ho, rfl⟩ F.slot_list_contains (wpAny_mono (call_meetsIn (Q := fun v s' => ∃ b, v = .bool b ∧ Q (.bool b) s') F.slot_list_contains ⟨_, ho, rfl⟩ F.entry_list_contains (F.args_list_contains_2 _ _) (ev_in_list l items n dd sl x e) ⟨ho, he, ⟨_, rfl, h⟩⟩) (fun v s' hv => ?_) fun _ _ e => e))
  obtain ⟨b, rfl, hq⟩ := hv
  exact wpAny_truthy_bool (wpAny_pure hq)
end
end PySem.SeqAt
namespace Ev
open PySem PySem.Spec PyProof.Rows L2
section
variable {X : Cx}
def rInK (K : PySem.W.Frag) : R2 := fun x y H Q => ∃ a l xs da ds, x = V.ref a ∧ y = V.ref l ∧ Fz K H (.ref a) (.dict da) ∧ SqL K H l xs ∧ FzAll K H xs ds ∧ okV da = true ∧ ds.all okDs = true ∧ Q (.bl (ds.any (eqDs da))) H
theorem FzAll.at {K : PySem.W.Frag} {H : Hp} : ∀ {xs : List V} {ds : List D}, FzAll K H xs ds → xs.length = ds.length ∧ ∀ j (h : j < xs.length) (h' : j < ds.length), Fz K H xs[j] ds[j]
  | _, _, .nil => ⟨rfl, fun j h => (by cases h)⟩
  | _, _, .cons f fs => by
    obtain ⟨h1, h2⟩ := FzAll.at fs
    refine ⟨by rw [List.length_cons, List.length_cons, h1], fun j h h' => ?_⟩
    cases j with
    | zero => exact f
    | succ j => exact h2 j (Nat.lt_of_succ_lt_succ h) (Nat.lt_of_succ_lt_succ h')
def atP (p : D → Bool) (l : List D) (j : Nat) : Bool := match l[j]? with
  | some d => p d
  | none => false
theorem atP_lt {p : D → Bool} {l : List D} {j : Nat} (h : j < l.length) : atP p l j = p l[j] := by
  unfold atP
  rw [List.getElem?_eq_getElem h]
theorem any_range {l : List D} {p : D → Bool} : (List.range l.length).any (atP p l) = l.any p := by
  rw [Bool.eq_iff_iff, List.any_eq_true, List.any_eq_true]
  constructor
  · rintro ⟨j, hj, h⟩
    have hj := List.mem_range.mp hj
    rw [atP_lt hj] at h
    exact ⟨_, List.getElem_mem hj, h⟩
  · rintro ⟨d, hd, h⟩
    obtain ⟨j, hj, rfl⟩ := List.mem_iff_getElem.mp hd
    exact ⟨j, List.mem_range.mpr hj, by rw [atP_lt hj]; exact h⟩
theorem Vals.at : ∀ {xs : List V} {its : List Value}, Vals xs its → ∀ j (h : j < xs.length) (h' : j < its.length), RelV xs[j] its[j]
  | _, _, .nil => fun j h => (by cases h)
  | _, _, .cons f fs => fun j h h' => by
    cases j with
    | zero => exact f
    | succ j => exact Vals.at fs j (Nat.lt_of_succ_lt_succ h) (Nat.lt_of_succ_lt_succ h')
theorem op_inK (hu : X.A.units + 66 < cLine) : OpR X (compareOp .In) (rInK X.K) := by
  intro pins s σ H x y v u Q I rx ry h
  obtain ⟨a, l, xs, da, ds, rfl, rfl, fa, hl, fx, oa, od, q⟩ := h
  obtain rfl : v = Value.ref a := rx
  obtain rfl : u = Value.ref l := ry
  obtain ⟨its, rv, pl, hz⟩ := I.list hl
  have hl' : s.heap.IsList l its.toArray := by
    obtain ⟨o, m, e, c, d, q⟩ := pl
    exact ⟨o, e, c, m, q⟩
  obtain ⟨l1, h1⟩ := fx.at
  have l2 : xs.length = its.length := rv.length
  have l3 : its.toArray.size = ds.length := by rw [← l1, l2]; simp
  refine SeqAt.ev_in (atP (eqDs da) ds) hl' (fun j hj => ?_) ⟨.bl _, H, I, rfl, ?_⟩
  · have hj1 : j < ds.length := by omega
    have hj2 : j < xs.length := by omega
    have hj3 : j < its.length := by omega
    have hf := h1 j hj2 hj1
    have hr := Vals.at rv j hj2 hj3
    have ho := List.all_eq_true.mp od _ (List.getElem_mem hj1)
    rw [atP_lt hj1]
    show SeqAt.EqP X.prog X.w X.A.in1 s its.toArray[j] (.ref a) (eqDs da ds[j])
    rw [show its.toArray[j] = its[j] from rfl]
    generalize ds[j] = d at hf ho ⊢
    generalize xs[j] = xv at hf hr
    generalize its[j] = yv at hr ⊢
    cases d with
    | dict z =>
      cases hf with
      | dct rr ff =>
        obtain rfl : yv = Value.ref _ := hr
        exact eqP_dicts I (by show X.A.units + 1 + 65 < cLine; omega) (.dct rr ff) fa ho oa
    | _ => cases ho
  · rw [l3, any_range]
    exact q
theorem od_inK {K : PySem.W.Frag} : OpD K (rInK K) dInK := fun F H x y d1 d2 res o Q s h1 h2 he q => by
  unfold dInK at he
  split at he
  · rename_i a ds
    by_cases h : okV a = true ∧ ds.all okDs = true
    · rw [if_pos h] at he
      cases he
      have g1 := h1.mono s
      cases h2.mono s with
      | lst rb fb =>
        cases g1 with
        | dct ra fa => exact ⟨_, _, _, _, _, rfl, rfl, .dct ra fa, rb, fb, h.1, h.2, q _ H F Fp.no vd_bl (Fresh.refl s) no_fresh⟩
    · rw [if_neg h] at he; cases he
  · cases he
end
end Ev
namespace Ev
open PySem PySem.Spec PyProof.Rows L2
open MeetsSeq MeetsSeq2 MeetsSeq3 SeqRoads2 AutoSeq1 SeqAt
/-! ### list * int, wherever it stands -/
theorem ev_rmul (a : Int) (t : Tok) (l : Addr) (items : Array Value) (n : Nat) (d : Option Addr) (sl : Array (Option Value)) :
    Meets (Builtin.«int.__rmul__» ⟨[.int a t, .ref l], []⟩) (fun _ R s => s.heap.get? l = some { cls := .type "list", dict := d, data := .seq items n, slots := sl } ∧ R (.ok (.ret Value.notImplemented)) s) :=
  .of_wp fun prog w A R s h => by obtain ⟨hp, g, d, tk, os⟩ := s; obtain ⟨hl, h⟩ := h; wp_walk; exact ⟨_, rfl, h⟩
theorem ev_mul (l : Addr) (items : Array Value) (n : Nat) (d : Option Addr) (sl : Array (Option Value)) (x : Int) (u : Tok) (hc0 : ¬(!Builtin.List.listFitsIndex x) = true)
    (hc1 : ¬items.size * x.toNat > (2 ^ 63 - 1) / 8) (hc2 : ¬Builtin.List.listTooLong (items.size * x.toNat) = true) :
    Meets (Builtin.«list.__mul__» ⟨[.ref l, .int x u], []⟩) (fun _ R s => s.heap.get? l = some { cls := .type "list", dict := d, data := .seq items n, slots := sl } ∧ R (.ok (.ret (Value.ref s.heap.objs.size))) { s with heap := s.heap.push { cls := Value.type "list", data := Data.seq (List.foldl (fun x1 x2 => x1 ++ x2) #[] (List.replicate (if items.isEmpty = true then 0 else x.toNat) items)) }, toks := s.toks }) :=
  .of_wp fun prog w A R s h => by
    obtain ⟨hp, g, d, tk, os⟩ := s; obtain ⟨hl, h⟩ := h
    have hsz := AutoListH.joined_fits hc2
    wp_walk; refine wpAny_ite_false (decide_eq_false (Nat.not_lt.mpr hsz)) ?_; wp_walk; exact ⟨_, rfl, h⟩
section
variable {X : Cx}
def rRepS (K : PySem.W.Frag) : R2 := fun x y H Q => ∃ l k xs, x = .ref l ∧ y = .int k ∧ SqL K H l xs ∧ -(2 ^ 63) ≤ k ∧ k < 2 ^ 63 ∧ xs.length * k.toNat ≤ sizeLine ∧ ∀ p, H p = none → Q (.ref p) (upd H p (.lst (List.replicate k.toNat xs).flatten))
theorem op_repS : OpR X (binaryOp .Mult) (rRepS X.K) := by
  intro pins s σ H x y v u Q I rx ry h
  obtain ⟨a, k, xs, rfl, rfl, hs, h1, h2, hz, q⟩ := h
  obtain rfl : v = Value.ref a := rx
  obtain ⟨t, rfl⟩ := ry
  obtain ⟨its, rv, ⟨⟨cls, dd, data, sl⟩, n, ho, hc, hdn, hd⟩, hlen⟩ := I.list hs
  have hc1 : cls = Value.type "list" := hc
  have hd1 : data = Data.seq its.toArray n := hd
  subst hc1 hd1
  have hm : its.toArray.size * k.toNat ≤ sizeLine := by rw [List.size_toArray, ← rv.length]; exact hz
  have hcap : ¬ its.toArray.size * k.toNat > (2 ^ 63 - 1) / 8 := by
    have : (sizeLine : Nat) ≤ (2 ^ 63 - 1) / 8 := by decide
    omega
  have hfit : ¬ (!Builtin.List.listFitsIndex k) = true := by
    rw [fitsIndex_both h1 h2]
    exact Bool.false_ne_true
  have hlong : ¬ Builtin.List.listTooLong (its.toArray.size * k.toNat) = true := by
    rw [notLongL hm]
    exact Bool.false_ne_true
  have hnew : List.foldl (fun x1 x2 => x1 ++ x2) #[] (List.replicate (if its.toArray.isEmpty = true then 0 else k.toNat) its.toArray) = (List.replicate k.toNat its).flatten.toArray := by
    have f0 : ∀ m : Nat, List.foldl (fun x1 x2 => x1 ++ x2) #[] (List.replicate m its.toArray) = (List.replicate m its).flatten.toArray := fun m => by
      have := foldl_rep its m []
      rw [List.nil_append] at this
      exact this
    rw [f0]
    cases its with
    | nil => simp
    | cons a r' => rw [if_neg (by simp)]
  refine wpAny_binaryOp_repeat_ref (T := "list") (U := "int") (by decide) ⟨_, ho, rfl⟩ (fun s' => typeIs_int s' k t) noFill_list_mul F.fills_int_mul F.slot_int_rmul repeat_list F.slot_int_index.lookup
    (call_meets F.slot_int_rmul (typeIs_int s k t) F.entry_int_rmul (F.args_int_rmul_2 _ _) (ev_rmul k t a its.toArray n dd sl)
      ⟨ho, rfl, ⟨_, ho, rfl⟩, call_meets F.slot_list_mul ⟨_, ho, rfl⟩ F.entry_list_mul (F.args_list_mul_2 _ _) (ev_mul a its.toArray n dd sl k t hfit hcap hlong) ⟨ho, ?_⟩⟩)
  rw [hnew]
  exact ⟨.ref _, _, I.lnew (t' := s.toks) (rv.rep k.toNat) (by rw [PyProof.Rows.lm_len_rep_flat, Nat.mul_comm]; exact hz), rfl, q _ I.fresh⟩
def dMulR (a b : D) : Option (D × Fg) := match a, b with
  | .list ds, .int k => if 0 ≤ k ∧ k ≤ 1000 ∧ ds.length * k.toNat ≤ 100000 then some (.list (List.replicate k.toNat ds).flatten, .o 0) else none
  | _, _ => none
theorem FzAll.rep {K : PySem.W.Frag} {H : Hp} {xs : List V} {ds : List D} (h : FzAll K H xs ds) : ∀ k : Nat, FzAll K H (List.replicate k xs).flatten (List.replicate k ds).flatten
  | 0 => .nil
  | k + 1 => by
    rw [List.replicate_succ, List.replicate_succ, List.flatten_cons, List.flatten_cons]
    exact h.append (FzAll.rep h k)
theorem od_repS {K : PySem.W.Frag} : OpD K (rRepS K) dMulR := fun F H x y d1 d2 res o Q s h1 h2 he q => by
  unfold dMulR at he
  split at he
  · rename_i ds k
    have hsz := sizeLine_eq
    split at he
    · rename_i hk
      cases he
      cases h2
      cases h1 with
      | lst ha hx =>
        refine ⟨_, _, _, rfl, rfl, sqL_mono s ha, by omega, by omega, by rw [hx.length]; omega, fun p hp => ?_⟩
        exact q _ _ F _ (vd_new hp (hx.rep _)) (fresh_new s hp) (new_R s hp)
    · cases he
  · cases he
end
end Ev
/-! ### a, b = e1, e2 where a name is held by a cell -/
namespace Ev
open PySem PySem.Spec PyProof.Rows L2
section
variable {X : Cx} {a b c : Expr} {f g h : Ex} {pos : Pos} {i j l : Nat} {ms : List Nat}
theorem ps_parC {x y : Str} {ta : TA} {px py pt : Pos} {kt k2 pt2} (hc : X.calm = true) (hN : X.N.Nodup) (hi : X.N[i]? = some x) (hj : X.N[j]? = some y)
    (hx : Loc X.env.scope x) (hy : Loc X.env.scope y) (hfx : X.fn x = true ∨ X.env.scope.names.lookup x = some .local) (hfy : X.fn y = true ∨ X.env.scope.names.lookup y = some .local) (ha : PA X [a, b] ta)
    (hw : swappedStores [.Tuple [.Name x px, .Name y py] kt pt] (.Tuple [a, b] k2 pt2) X.env = pure none)
    (hs : swapsWithSole [.Tuple [.Name x px, .Name y py] kt pt] (.Tuple [a, b] k2 pt2) pos.line X.env = pure false)
    (hn : (assignEach [.Name x px, .Name y py] X.env).length = 2) (hst : (assignEach [.Name x px, .Name y py] X.env).findIdx? (·.1) = none)
    (h1 : (assignEach [.Tuple [.Name x px, .Name y py] kt pt] X.env).map (·.2) = [assign (.Tuple [.Name x px, .Name y py] kt pt) X.env])
    (h2 : (assignEach [.Name x px, .Name y py] X.env).map (·.2) = [assign (.Name x px) X.env, assign (.Name y py) X.env]) :
    PS X (.Assign [.Tuple [.Name x px, .Name y py] kt pt] (.Tuple [a, b] k2 pt2) pos) (tPar i j ta) := by
  refine ⟨fun pins s σ H D I h => ?_⟩
  refine wpAny_Assign_stores (Tuple_ (thn (ha.run _ pins s σ H _ I h) fun us s1 ⟨vs, H1, I1, r1, q1⟩ => ?_)) hs hw
  obtain ⟨v, w, e1, q1⟩ := q1
  subst e1
  obtain ⟨u1, u2, rfl, rv, rw'⟩ : ∃ u1 u2, us = [u1, u2] ∧ RelV v u1 ∧ RelV w u2 := by
    cases r1 with
    | cons p q =>
      cases q with
      | cons p' q' =>
        cases q'
        exact ⟨_, _, rfl, p, p'⟩
  refine wpAny_newObj_type ?_ (by show 2 ≤ sizeLine; decide)
  have I2 : L2.Inv X pins σ H1 { s1 with heap := s1.heap.push { cls := .type "tuple", data := .seq [u1, u2].toArray } } := I1.kept (t' := s1.toks) fun b o e => Heap.get?_push_of_some _ e
  rw [h1]
  show wpAny _ _ (assign (.Tuple [.Name x px, .Name y py] kt pt) X.env (.ref s1.heap.objs.size)) _ _ _
  refine assign_Tuple_tuple (I.ok.hd hc) (IsTup.new s1.heap _) (by rw [hn]; rfl) hst fun h' hx' => ?_
  have I3 := I2.kept (h' := h') (t' := s1.toks) fun b o e => hx' b o (Nat.ne_of_lt (Heap.lt_size e)) e
  rw [h2]
  refine assignInOrder_cons (wpAny_assign_Name (store_ok I3 hN hi hx rv (fun s2 I4 => ?_) hfx))
  refine assignInOrder_cons (wpAny_assign_Name (store_ok I4 hN hj hy rw' (fun s3 I5 => assignInOrder_nil ?_) hfy))
  exact ⟨_, H1, I5, q1⟩
theorem S.parC {x y : Str} {px py pt : Pos} {kt k2 : _} {pt2 : Pos} (him : i ∈ ms) (hjm : j ∈ ms) (hc : X.calm = true) (hN : X.N.Nodup) (hi : X.N[i]? = some x) (hj : X.N[j]? = some y)
    (hx : Loc X.env.scope x) (hy : Loc X.env.scope y) (ha : E X a f) (hb : E X b g)
    (hfx : X.fn x = true ∨ X.env.scope.names.lookup x = some .local := by first | exact .inl rfl | exact .inr rfl | assumption) (hfy : X.fn y = true ∨ X.env.scope.names.lookup y = some .local := by first | exact .inl rfl | exact .inr rfl | assumption)
    (hw : swappedStores [.Tuple [.Name x px, .Name y py] kt pt] (.Tuple [a, b] k2 pt2) X.env = pure none := by rfl)
    (hs : swapsWithSole [.Tuple [.Name x px, .Name y py] kt pt] (.Tuple [a, b] k2 pt2) pos.line X.env = pure false := by rfl)
    (hst : starEach [a, b] X.env = (false, eval a X.env) :: starEach [b] X.env := by rfl) (hst2 : starEach [b] X.env = (false, eval b X.env) :: starEach [] X.env := by rfl)
    (hn : (assignEach [.Name x px, .Name y py] X.env).length = 2 := by rfl) (hst3 : (assignEach [.Name x px, .Name y py] X.env).findIdx? (·.1) = none := by rfl)
    (h1 : (assignEach [.Tuple [.Name x px, .Name y py] kt pt] X.env).map (·.2) = [assign (.Tuple [.Name x px, .Name y py] kt pt) X.env] := by rfl)
    (h2 : (assignEach [.Name x px, .Name y py] X.env).map (·.2) = [assign (.Name x px) X.env, assign (.Name y py) X.env] := by rfl) :
    S X ms (.Assign [.Tuple [.Name x px, .Name y py] kt pt] (.Tuple [a, b] k2 pt2) pos) (sPar2 i j f g) := ps_imp (ps_parC hc hN hi hj hx hy hfx hfy (pa_cons ha (pa_cons hb pa_nil hst2) hst) hw hs hn hst3 h1 h2) fun Dd σ H => by
  rintro ⟨F, en, A, fl, e', E0, hx, post⟩
  unfold sPar2 at hx
  split at hx
  · rename_i d1 o1 e1 h1
    split at hx
    · rename_i d2 o2 e2 h2
      split at hx
      · rename_i hl
        cases hx
        refine ⟨F, en, A, d1, o1, e1, E0, h1, fun v H1 F1 A1 R1 E1 hv1 hn1 hd1 st1 => ?_⟩
        refine ⟨F1, e1, A1, d2, o2, e2, E1, h2, fun w H2 F2 A2 R2 E2 hv2 hn2 hd2 st2 => ?_⟩
        obtain ⟨st3, hh⟩ := Step.hold (A := U A) (R := R1) st1 st2 hn1 hd1 hv1.tr
        have E3 := E2.put (v := v) (d := d1) (o := o1) (R := R1) hl.1 (hv1.mono st2.ff fun a z => (hh a z).1) (fun a z => (hh a z).2.1) fun a z y => (hh a z).2.2 (.inl y)
        have E4 := E3.put (i := j) (v := w) (d := d2) (o := o2) (R := R2) (by rw [List.length_set]; exact hl.2) hv2 hn2 fun a z ⟨k, y⟩ => by
          dsimp only at y
          by_cases hk : k = i
          · rw [if_pos hk] at y; exact (hh a y).2.2 (.inr z)
          · rw [if_neg hk] at y; exact hd2 a z ⟨k, y⟩
        refine ⟨v, w, rfl, post _ H2 F2 _ E4 ((Mo.set him).trans (Mo.set hjm)) ?_⟩
        rw [or_assoc'] at st3
        refine ⟨st3.ff, st3.keep, fun a z1 z2 z3 => ?_⟩
        obtain ⟨w1, w2, w3⟩ := st3.fr a z1 z2 z3
        refine ⟨w1, w2, fun ⟨k, y⟩ => w3 ?_⟩
        dsimp only at y
        by_cases hk : k = j
        · rw [if_pos hk] at y; exact .inr (.inr y)
        · rw [if_neg hk] at y
          by_cases hk2 : k = i
          · rw [if_pos hk2] at y; exact .inr (.inl y)
          · rw [if_neg hk2] at y; exact .inl ⟨k, y⟩
      · cases hx
    · cases hx
  · cases hx
end
end Ev
/-! what a mirror gives, told by what follows: one law a combinator -/
namespace Ev
open PySem PySem.Spec PyProof.Rows L2
def wx (f : Ex) (e : En) (Q : D → Fg → En → Prop) : Prop := match f e with
  | some (d, o, e1) => Q d o e1
  | none => False
def wt (c : Tx) (e : En) (Q : Bool → En → Prop) : Prop := match c e with
  | some (b, e1) => Q b e1
  | none => False
def wa (g : Ax) (e : En) (Q : List D → En → Prop) : Prop := match g e with
  | some (ds, e1) => Q ds e1
  | none => False
def wi (g : Ix) (e : En) (Q : List D → En → Prop) : Prop := match g e with
  | some (ds, e1) => Q ds e1
  | none => False
def ws (s : Sx) (e : En) (Q : Fl → En → Prop) : Prop := match s e with
  | some (fl, e1) => Q fl e1
  | none => False
def wg (r : Option En) (Q : En → Prop) : Prop := match r with
  | some e => Q e
  | none => False
def wo (r : Option (D × Fg)) (Q : D → Fg → Prop) : Prop := match r with
  | some (d, o) => Q d o
  | none => False
def wq {α : Type} (r : Option α) (Q : α → Prop) : Prop := match r with
  | some d => Q d
  | none => False
def wbl (d : D) (Q : Bool → Prop) : Prop := match d with
  | .bool b => Q b
  | _ => False
def wnx (fl : Fl) (A : Prop) (B : Fl → Prop) : Prop := match fl with
  | .nx => A
  | fl => B fl
def wU (s : Option Sl) (i : Nat) (e : En) (Q : D → Fg → En → Prop) : Prop := match s with
  | some (some (d, .o _)) => Q d .f (e.set i (some (d, .f)))
  | some (some (d, .f)) => Q d .f e
  | _ => False
def wM (s : Option Sl) (i : Nat) (e : En) (Q : D → Fg → En → Prop) : Prop := match s with
  | some (some (d, .o n)) => Q d (.o n) (e.set i none)
  | some (some (d, .f)) => Q d .f e
  | _ => False
section
variable {f g h : Ex} {c c' : Tx} {a : Ax} {e : En} {Q : D → Fg → En → Prop} {R : Bool → En → Prop} {L : List D → En → Prop} {Z : Fl → En → Prop} {s s' : Sx} {i n : Nat}
theorem wx_eq {d : D} {o : Fg} {e1 : En} (q : f e = some (d, o, e1)) : wx f e Q ↔ Q d o e1 := by unfold wx; rw [q]
theorem wx_get (q : wx f e Q) : ∃ d o e1, f e = some (d, o, e1) ∧ Q d o e1 := by
  unfold wx at q
  split at q
  · rename_i d o e1 he; exact ⟨d, o, e1, he, q⟩
  · exact q.elim
theorem wx_mono {Q' : D → Fg → En → Prop} (q : wx f e Q) (k : ∀ d o e1, Q d o e1 → Q' d o e1) : wx f e Q' := by
  unfold wx at q ⊢
  split at q
  · exact k _ _ _ q
  · exact q.elim
theorem wt_mono {Q' : Bool → En → Prop} (q : wt c e R) (k : ∀ b e1, R b e1 → Q' b e1) : wt c e Q' := by
  unfold wt at q ⊢
  split at q
  · exact k _ _ q
  · exact q.elim
theorem ws_mono {Q' : Fl → En → Prop} (q : ws s e Z) (k : ∀ b e1, Z b e1 → Q' b e1) : ws s e Q' := by
  unfold ws at q ⊢
  split at q
  · exact k _ _ q
  · exact q.elim
/-! values -/
theorem wo_some {d : D} {o : Fg} {P : D → Fg → Prop} : wo (some (d, o)) P ↔ P d o := Iff.rfl
theorem wo_if {p : Prop} [Decidable p] {d : D} {o : Fg} {P : D → Fg → Prop} : wo (if p then some (d, o) else none) P ↔ p ∧ P d o := by
  by_cases hp : p
  · rw [if_pos hp]; exact ⟨fun z => ⟨hp, z⟩, fun z => z.2⟩
  · rw [if_neg hp]; exact ⟨fun z => z.elim, fun z => hp z.1⟩
theorem wbl_bool {b : Bool} {P : Bool → Prop} : wbl (.bool b) P ↔ P b := Iff.rfl
theorem wnx_nx {A : Prop} {B : Fl → Prop} : wnx .nx A B ↔ A := Iff.rfl
theorem wnx_rt {A : Prop} {B : Fl → Prop} {d : D} {o : Fg} : wnx (.rt d o) A B ↔ B (.rt d o) := Iff.rfl
theorem wnx_bk {A : Prop} {B : Fl → Prop} : wnx .bk A B ↔ B .bk := Iff.rfl
theorem wnx_ct {A : Prop} {B : Fl → Prop} : wnx .ct A B ↔ B .ct := Iff.rfl
theorem wU_f {d : D} : wU (some (some (d, .f))) i e Q ↔ Q d .f e := Iff.rfl
theorem wU_o {d : D} : wU (some (some (d, .o n))) i e Q ↔ Q d .f (e.set i (some (d, .f))) := Iff.rfl
theorem wM_f {d : D} : wM (some (some (d, .f))) i e Q ↔ Q d .f e := Iff.rfl
theorem wM_o {d : D} : wM (some (some (d, .o n))) i e Q ↔ Q d (.o n) (e.set i none) := Iff.rfl
theorem wq_some {α : Type} {d : α} {P : α → Prop} : wq (some d) P ↔ P d := Iff.rfl
theorem wg_some {P : En → Prop} : wg (some e) P ↔ P e := Iff.rfl
/-! expressions -/
theorem wx_cst {d : D} : wx (xCst d) e Q ↔ Q d .f e := Iff.rfl
theorem wx_use : wx (xUse i) e Q ↔ wU e[i]? i e Q := by
  unfold wx xUse wU
  generalize e[i]? = s
  match s with
  | some (some (d, .o _)) => exact Iff.rfl
  | some (some (d, .f)) => exact Iff.rfl
  | some none => exact Iff.rfl
  | none => exact Iff.rfl
theorem wx_mov : wx (xMov i) e Q ↔ wM e[i]? i e Q := by
  unfold wx xMov wM
  generalize e[i]? = s
  match s with
  | some (some (d, .o _)) => exact Iff.rfl
  | some (some (d, .f)) => exact Iff.rfl
  | some none => exact Iff.rfl
  | none => exact Iff.rfl
theorem wx_fz : wx (xFz f) e Q ↔ wx f e fun d _ e1 => Q d .f e1 := by
  unfold wx xFz
  cases f e <;> exact Iff.rfl
theorem wx_brw : wx (xBrw f) e Q ↔ wx f (e.map fzS) fun d _ _ => scalD d = true ∧ Q d .f e := by
  unfold wx xBrw
  cases f (e.map fzS) with
  | none => exact Iff.rfl
  | some q =>
    rw [show q = (q.1, q.2.1, q.2.2) from rfl, bnd_some]
    by_cases h : scalD q.1 = true
    · rw [if_pos h]; exact ⟨fun z => ⟨h, z⟩, fun z => z.2⟩
    · rw [if_neg h]; exact ⟨fun z => z.elim, fun z => h z.1⟩
theorem wx_op {op : D → D → Option (D × Fg)} : wx (xOp op f g) e Q ↔ wx f e fun d1 _ e1 => wx g e1 fun d2 _ e2 => wo (op d1 d2) fun r o => Q r o e2 := by
  unfold wx xOp
  cases f e with
  | none => exact Iff.rfl
  | some q =>
    rw [show q = (q.1, q.2.1, q.2.2) from rfl, bnd_some]
    dsimp only
    cases g q.2.2 with
    | none => exact Iff.rfl
    | some r =>
      rw [show r = (r.1, r.2.1, r.2.2) from rfl, bnd_some]
      unfold ap2 wo
      dsimp only
      cases op q.1 r.1 <;> exact Iff.rfl
theorem wx_un {op : D → Option (D × Fg)} : wx (xUn op f) e Q ↔ wx f e fun d1 _ e1 => wo (op d1) fun r o => Q r o e1 := by
  unfold wx xUn
  cases f e with
  | none => exact Iff.rfl
  | some q =>
    rw [show q = (q.1, q.2.1, q.2.2) from rfl, bnd_some]
    unfold ap1 wo
    dsimp only
    cases op q.1 <;> exact Iff.rfl
theorem wx_call {op : List D → Option (D × Fg)} : wx (xCall op a) e Q ↔ wa a e fun ds e1 => wo (op ds) fun r o => Q r o e1 := by
  unfold wx xCall wa
  cases a e with
  | none => exact Iff.rfl
  | some q =>
    unfold apN wo
    dsimp only
    cases op q.1 <;> exact Iff.rfl
theorem wa_nil : wa aNil e L ↔ L [] e := Iff.rfl
theorem wa_cons : wa (aCons f a) e L ↔ wx f e fun d _ e1 => wa a e1 fun ds e2 => L (d :: ds) e2 := by
  unfold wa wx aCons
  cases f e with
  | none => exact Iff.rfl
  | some q =>
    rw [show q = (q.1, q.2.1, q.2.2) from rfl, bnd_some]
    dsimp only
    cases a q.2.2 <;> exact Iff.rfl
theorem wa_oCons : wa (oCons n f a) e L ↔ wx f e fun d o e1 => fits n d o = true ∧ wa a e1 fun ds e2 => L (d :: ds) e2 := by
  unfold wa wx oCons
  cases f e with
  | none => exact Iff.rfl
  | some q =>
    rw [show q = (q.1, q.2.1, q.2.2) from rfl]
    dsimp only
    by_cases h : fits n q.1 q.2.1 = true
    · rw [if_pos h]
      cases a q.2.2 with
      | none => exact ⟨fun z => ⟨h, z⟩, fun z => z.2⟩
      | some q => exact ⟨fun z => ⟨h, z⟩, fun z => z.2⟩
    · rw [if_neg h]; exact ⟨fun z => z.elim, fun z => h z.1⟩
theorem wx_lst : wx (lstD n a) e Q ↔ wa a e fun ds e1 => ds.length ≤ sizeLine ∧ Q (.list ds) (.o n) e1 := by
  unfold wx wa lstD
  cases a e with
  | none => exact Iff.rfl
  | some q =>
    dsimp only
    by_cases h : q.1.length ≤ sizeLine
    · rw [if_pos h]; exact ⟨fun z => ⟨h, z⟩, fun z => z.2⟩
    · rw [if_neg h]; exact ⟨fun z => z.elim, fun z => h z.1⟩
theorem wx_tup : wx (tupD a) e Q ↔ wa a e fun ds e1 => ds.length ≤ sizeLine ∧ Q (.tuple ds) .f e1 := by
  unfold wx wa tupD
  cases a e with
  | none => exact Iff.rfl
  | some q =>
    dsimp only
    by_cases h : q.1.length ≤ sizeLine
    · rw [if_pos h]; exact ⟨fun z => ⟨h, z⟩, fun z => z.2⟩
    · rw [if_neg h]; exact ⟨fun z => z.elim, fun z => h z.1⟩
theorem wx_and : wx (xAn f g) e Q ↔ wx f e fun d _ e1 => wbl d fun b => (b = true → wx g e1 Q) ∧ (b = false → Q (.bool false) .f e1) := by
  unfold wx xAn
  cases f e with
  | none => exact Iff.rfl
  | some q =>
    rw [show q = (q.1, q.2.1, q.2.2) from rfl, bnd_some]
    dsimp only
    cases q.1 with
    | bool b => cases b <;> simp [wbl]
    | _ => exact Iff.rfl
theorem wx_or : wx (xOrr f g) e Q ↔ wx f e fun d _ e1 => wbl d fun b => (b = false → wx g e1 Q) ∧ (b = true → Q (.bool true) .f e1) := by
  unfold wx xOrr
  cases f e with
  | none => exact Iff.rfl
  | some q =>
    rw [show q = (q.1, q.2.1, q.2.2) from rfl, bnd_some]
    dsimp only
    cases q.1 with
    | bool b => cases b <;> simp [wbl]
    | _ => exact Iff.rfl
theorem wx_not : wx (xNo f) e Q ↔ wx f e fun d _ e1 => wbl d fun b => Q (.bool (!b)) .f e1 := by
  unfold wx xNo
  cases f e with
  | none => exact Iff.rfl
  | some q =>
    rw [show q = (q.1, q.2.1, q.2.2) from rfl, bnd_some]
    dsimp only
    cases q.1 <;> exact Iff.rfl
theorem wx_if : wx (xIf c f g) e Q ↔ wt c e fun b e1 => (b = true → wx f e1 Q) ∧ (b = false → wx g e1 Q) := by
  unfold wx wt xIf
  cases c e with
  | none => exact Iff.rfl
  | some q =>
    rw [show q = (q.1, q.2) from rfl]
    cases q.1 <;> simp
theorem wx_chain {op op' : D → D → Option (D × Fg)} : wx (xChain op op' f g h) e Q ↔ wx f e fun d1 _ e1 => wx g e1 fun d2 _ e2 => wo (op d1 d2) fun r _ => wbl r fun b => (b = true → wx h e2 fun d3 _ e3 => wo (op' d2 d3) fun r o => Q r o e3) ∧ (b = false → Q (.bool false) .f e2) := by
  unfold wx xChain
  cases f e with
  | none => exact Iff.rfl
  | some q =>
    rw [show q = (q.1, q.2.1, q.2.2) from rfl, bnd_some]
    dsimp only
    cases g q.2.2 with
    | none => exact Iff.rfl
    | some r =>
      rw [show r = (r.1, r.2.1, r.2.2) from rfl, bnd_some]
      dsimp only
      cases op q.1 r.1 with
      | none => exact Iff.rfl
      | some t =>
        rw [show t = (t.1, t.2) from rfl]
        dsimp only [wo]
        cases t.1 with
        | bool b =>
          cases b with
          | false => simp [wbl]
          | true =>
            simp only [wbl, true_implies, Bool.true_eq_false, false_implies, and_true]
            cases h r.2.2 with
            | none => exact Iff.rfl
            | some u =>
              rw [show u = (u.1, u.2.1, u.2.2) from rfl, bnd_some]
              unfold ap2
              dsimp only
              cases op' r.1 u.1 <;> exact Iff.rfl
        | _ => exact Iff.rfl
theorem wx_isi {T : String} : wx (xIsi T f) e Q ↔ wx f e fun d _ e1 => isiT T = true ∧ Q (.bool (isiB T d)) .f e1 := by
  unfold wx xIsi
  cases f e with
  | none => exact Iff.rfl
  | some q =>
    rw [show q = (q.1, q.2.1, q.2.2) from rfl, bnd_some]
    by_cases h : isiT T = true
    · rw [if_pos h]; exact ⟨fun z => ⟨h, z⟩, fun z => z.2⟩
    · rw [if_neg h]; exact ⟨fun z => z.elim, fun z => h z.1⟩
theorem wx_isi2 {T U : String} : wx (xIsi2 T U f) e Q ↔ wx f e fun d _ e1 => (isiT T = true ∧ isiT U = true) ∧ Q (.bool (isiB T d || isiB U d)) .f e1 := by
  unfold wx xIsi2
  cases f e with
  | none => exact Iff.rfl
  | some q =>
    rw [show q = (q.1, q.2.1, q.2.2) from rfl, bnd_some]
    by_cases h : isiT T = true ∧ isiT U = true
    · rw [if_pos h]; exact ⟨fun z => ⟨h, z⟩, fun z => z.2⟩
    · rw [if_neg h]; exact ⟨fun z => z.elim, fun z => h z.1⟩
theorem wx_met {T : String} {op : D → List D → Option (D × Fg)} : wx (xMet T op f a) e Q ↔ wx f e fun d _ e1 => isKind T d = true ∧ wa a e1 fun as e2 => wo (op d as) fun r o => Q r o e2 := by
  unfold wx xMet wa
  cases f e with
  | none => exact Iff.rfl
  | some q =>
    rw [show q = (q.1, q.2.1, q.2.2) from rfl, bnd_some]
    dsimp only
    by_cases h : isKind T q.1 = true
    · rw [if_pos h]
      cases a q.2.2 with
      | none => exact ⟨fun z => ⟨h, z⟩, fun z => z.2⟩
      | some r =>
        dsimp only [wo]
        cases op q.1 r.1 <;> exact ⟨fun z => ⟨h, z⟩, fun z => z.2⟩
    · rw [if_neg h]; exact ⟨fun z => z.elim, fun z => h z.1⟩
def wm (r : Option (D × Fg × List D)) (P : D → Fg → List D → Prop) : Prop := match r with
  | some (d, o, ds) => P d o ds
  | none => False
theorem wm_some {d : D} {o : Fg} {ds : List D} {P : D → Fg → List D → Prop} : wm (some (d, o, ds)) P ↔ P d o ds := Iff.rfl
theorem wm_if {p : Prop} [Decidable p] {d : D} {o : Fg} {ds : List D} {P : D → Fg → List D → Prop} : wm (if p then some (d, o, ds) else none) P ↔ p ∧ P d o ds := by
  by_cases hp : p
  · rw [if_pos hp]; exact ⟨fun z => ⟨hp, z⟩, fun z => z.2⟩
  · rw [if_neg hp]; exact ⟨fun z => z.elim, fun z => hp z.1⟩
def wL (s : Option Sl) (P : List D → Nat → Prop) : Prop := match s with
  | some (some (.list ds, .o n)) => P ds n
  | _ => False
theorem wL_o {ds : List D} {P : List D → Nat → Prop} : wL (some (some (.list ds, .o n))) P ↔ P ds n := Iff.rfl
theorem wx_mut {op : Mop} : wx (xMut i op a) e Q ↔ wL e[i]? fun _ _ => wa a e fun as e1 => wL e1[i]? fun ds n => wm (op n as ds) fun r o ds' => Q r o (e1.set i (some (.list ds', .o n))) := by
  have key : ∀ (e : En) (P : List D → Nat → Prop), wL e[i]? P ↔ (match slotL e i with | some (ds, n) => P ds n | none => False) := fun e P => by
    unfold wL slotL
    generalize e[i]? = s
    match s with
    | some (some (.list ds, .o n)) => exact Iff.rfl
    | some (some (.list ds, .f)) => exact Iff.rfl
    | some (some (.none, _)) | some (some (.bool _, _)) | some (some (.int _, _)) | some (some (.str _, _)) | some (some (.tuple _, _)) | some (some (.dict _, _)) => exact Iff.rfl
    | some none => exact Iff.rfl
    | none => exact Iff.rfl
  unfold wx xMut wa
  rw [key]
  cases slotL e i with
  | none => exact Iff.rfl
  | some q =>
    dsimp only
    cases a e with
    | none => exact Iff.rfl
    | some r =>
      dsimp only
      rw [key]
      cases slotL r.2 i with
      | none => exact Iff.rfl
      | some t =>
        dsimp only [wm]
        cases op t.2 r.1 t.1 <;> exact Iff.rfl
/-! tests -/
theorem wt_val : wt (tVal f) e R ↔ wx f e fun d _ e1 => wbl d fun b => R b e1 := by
  unfold wx wt tVal
  cases f e with
  | none => exact Iff.rfl
  | some q =>
    rw [show q = (q.1, q.2.1, q.2.2) from rfl, bnd_some]
    dsimp only
    cases q.1 <;> exact Iff.rfl
theorem wt_no : wt (tNo c) e R ↔ wt c e fun b e1 => R (!b) e1 := by
  unfold wt tNo
  cases c e <;> exact Iff.rfl
theorem wt_and : wt (tAn c c') e R ↔ wt c e fun b e1 => (b = true → wt c' e1 R) ∧ (b = false → R false e1) := by
  unfold wt tAn
  cases c e with
  | none => exact Iff.rfl
  | some q =>
    rw [show q = (q.1, q.2) from rfl]
    cases q.1 <;> simp
theorem wt_or : wt (tOrr c c') e R ↔ wt c e fun b e1 => (b = false → wt c' e1 R) ∧ (b = true → R true e1) := by
  unfold wt tOrr
  cases c e with
  | none => exact Iff.rfl
  | some q =>
    rw [show q = (q.1, q.2) from rfl]
    cases q.1 <;> simp
theorem wt_brw : wt (tBrw c) e R ↔ wt c (e.map fzS) fun b _ => R b e := by
  unfold wt tBrw
  cases c (e.map fzS) <;> exact Iff.rfl
theorem wt_yes : wt cYes e R ↔ R true e := Iff.rfl
/-! statements -/
theorem ws_nx : ws sNx e Z ↔ Z .nx e := Iff.rfl
theorem ws_bk : ws sBk e Z ↔ Z .bk e := Iff.rfl
theorem ws_ct : ws sCt e Z ↔ Z .ct e := Iff.rfl
theorem ws_nev : ws sNev e Z ↔ False := Iff.rfl
theorem ws_retN : ws sRetN e Z ↔ Z (.rt .none .f) e := Iff.rfl
theorem ws_ret : ws (sRet f) e Z ↔ wx f e fun d o e1 => Z (.rt d o) e1 := by
  unfold ws wx sRet
  cases f e <;> exact Iff.rfl
theorem ws_exp : ws (sExp f) e Z ↔ wx f e fun _ _ e1 => Z .nx e1 := by
  unfold ws wx sExp
  cases f e <;> exact Iff.rfl
theorem ws_seq : ws (sSeq s s') e Z ↔ ws s e fun fl e1 => wnx fl (ws s' e1 Z) fun fl => Z fl e1 := by
  unfold ws sSeq
  cases s e with
  | none => exact Iff.rfl
  | some q =>
    rw [show q = (q.1, q.2) from rfl]
    cases q.1 <;> exact Iff.rfl
theorem ws_if : ws (sIf c s s') e Z ↔ wt c e fun b e1 => (b = true → ws s e1 Z) ∧ (b = false → ws s' e1 Z) := by
  unfold ws wt sIf
  cases c e with
  | none => exact Iff.rfl
  | some q =>
    rw [show q = (q.1, q.2) from rfl]
    cases q.1 <;> simp
theorem ws_set : ws (sSet i f) e Z ↔ wx f e fun d o e1 => i < e1.length ∧ Z .nx (e1.set i (some (d, o))) := by
  unfold ws wx sSet
  cases f e with
  | none => exact Iff.rfl
  | some q =>
    rw [show q = (q.1, q.2.1, q.2.2) from rfl]
    dsimp only
    by_cases h : i < q.2.2.length
    · rw [if_pos h]; exact ⟨fun z => ⟨h, z⟩, fun z => z.2⟩
    · rw [if_neg h]; exact ⟨fun z => z.elim, fun z => h z.1⟩
/-- xs[k] = v -/
def wP (s : Option Sl) (A B : Prop) : Prop := match s with
  | some (some (.dict _, _)) => A
  | _ => B
theorem wP_d {A B : Prop} {ds : List (D × D)} {o : Fg} : wP (some (some (.dict ds, o))) A B ↔ A := Iff.rfl
theorem wP_l {A B : Prop} {ds : List D} {o : Fg} : wP (some (some (.list ds, o))) A B ↔ B := Iff.rfl
def wD (s : Option Sl) (P : List (D × D) → Nat → Prop) : Prop := match s with
  | some (some (.dict ds, .o n)) => P ds n
  | _ => False
theorem wD_o {ds : List (D × D)} {P : List (D × D) → Nat → Prop} : wD (some (some (.dict ds, .o n))) P ↔ P ds n := Iff.rfl
theorem wL_key (e : En) (i : Nat) (P : List D → Nat → Prop) : wL e[i]? P ↔ (match slotL e i with | some (ds, n) => P ds n | none => False) := by
  unfold wL slotL
  generalize e[i]? = s
  match s with
  | some (some (.list ds, .o n)) => exact Iff.rfl
  | some (some (.list ds, .f)) => exact Iff.rfl
  | some (some (.none, _)) | some (some (.bool _, _)) | some (some (.int _, _)) | some (some (.str _, _)) | some (some (.tuple _, _)) | some (some (.dict _, _)) => exact Iff.rfl
  | some none => exact Iff.rfl
  | none => exact Iff.rfl
theorem wD_key (e : En) (i : Nat) (P : List (D × D) → Nat → Prop) : wD e[i]? P ↔ (match slotD e i with | some (ds, n) => P ds n | none => False) := by
  unfold wD slotD
  generalize e[i]? = s
  match s with
  | some (some (.dict ds, .o n)) => exact Iff.rfl
  | some (some (.dict ds, .f)) => exact Iff.rfl
  | some (some (.none, _)) | some (some (.bool _, _)) | some (some (.int _, _)) | some (some (.str _, _)) | some (some (.tuple _, _)) | some (some (.list _, _)) => exact Iff.rfl
  | some none => exact Iff.rfl
  | none => exact Iff.rfl
theorem ws_putD : ws (sPutD i f g) e Z ↔ wx f e fun d _ e1 => wD e1[i]? fun _ _ => wx g e1 fun k _ e2 => wD e2[i]? fun ds n => wq (keyD k) fun key => ((n = 0 ∨ still d = true) ∧ ds.length < sizeLine) ∧ Z .nx (e2.set i (some (.dict (putD ds key d), .o n))) := by
  unfold ws wx sPutD
  cases f e with
  | none => exact Iff.rfl
  | some q =>
    rw [show q = (q.1, q.2.1, q.2.2) from rfl, bnd_some]
    dsimp only
    rw [wD_key]
    cases slotD q.2.2 i with
    | none => exact Iff.rfl
    | some t =>
      dsimp only
      cases g q.2.2 with
      | none => exact Iff.rfl
      | some r =>
        rw [show r = (r.1, r.2.1, r.2.2) from rfl, bnd_some]
        dsimp only
        rw [wD_key]
        cases slotD r.2.2 i with
        | none => exact Iff.rfl
        | some u =>
          cases keyD r.1 with
          | none => exact Iff.rfl
          | some key =>
            dsimp only [wq]
            by_cases h : (u.2 = 0 ∨ still q.1 = true) ∧ u.1.length < sizeLine
            · rw [if_pos h]; exact ⟨fun z => ⟨h, z⟩, fun z => z.2⟩
            · rw [if_neg h]; exact ⟨fun z => z.elim, fun z => h z.1⟩
def wint (d : D) (P : Int → Prop) : Prop := match d with
  | .int i => P i
  | _ => False
theorem wint_int {j : Int} {P : Int → Prop} : wint (.int j) P ↔ P j := Iff.rfl
theorem ws_setI : ws (sSetI i f g) e Z ↔ wx f e fun d _ e1 => wL e1[i]? fun _ _ => wx g e1 fun k _ e2 => wL e2[i]? fun ds n => wint k fun j => (n = 0 ∨ still d = true) ∧ wq (ixN ds.length j) fun m => Z .nx (e2.set i (some (.list (ds.set m d), .o n))) := by
  unfold ws wx sSetI
  cases f e with
  | none => exact Iff.rfl
  | some q =>
    rw [show q = (q.1, q.2.1, q.2.2) from rfl, bnd_some]
    dsimp only
    rw [wL_key]
    cases slotL q.2.2 i with
    | none => exact Iff.rfl
    | some t =>
      dsimp only
      cases g q.2.2 with
      | none => exact Iff.rfl
      | some r =>
        rw [show r = (r.1, r.2.1, r.2.2) from rfl, bnd_some]
        dsimp only
        rw [wL_key]
        cases slotL r.2.2 i with
        | none => exact Iff.rfl
        | some u =>
          cases r.1 with
          | int j =>
            dsimp only [wint]
            by_cases h : u.2 = 0 ∨ still q.1 = true
            · rw [if_pos h]
              cases ixN u.1.length j <;> exact ⟨fun z => ⟨h, z⟩, fun z => z.2⟩
            · rw [if_neg h]; exact ⟨fun z => z.elim, fun z => h z.1⟩
          | _ => exact Iff.rfl
theorem ws_putA : ws (sPutA i f g) e Z ↔ wP e[i]? (ws (sPutD i f g) e Z) (ws (sSetI i f g) e Z) := by
  unfold sPutA wP ws
  dsimp only
  generalize e[i]? = s
  match s with
  | some (some (.dict ds, o)) => exact Iff.rfl
  | some (some (.none, _)) | some (some (.bool _, _)) | some (some (.int _, _)) | some (some (.str _, _)) | some (some (.tuple _, _)) | some (some (.list _, _)) => exact Iff.rfl
  | some none => exact Iff.rfl
  | none => exact Iff.rfl
/-! loops -/
def wdc (d : D) (P : List (D × D) → Prop) : Prop := match d with
  | .dict ds => P ds
  | _ => False
theorem wdc_dict {ds : List (D × D)} {P : List (D × D) → Prop} : wdc (.dict ds) P ↔ P ds := Iff.rfl
theorem wx_dnew : wx xDnew e Q ↔ Q (.dict []) (.o 0) e := Iff.rfl
/-- a dict display's pairs -/
def wkv (ps : List (Ex × Ex)) (e : En) (P : List (D × D) → En → Prop) : Prop := match kvE ps e with
  | some (kvs, e1) => P kvs e1
  | none => False
theorem wkv_nil {P : List (D × D) → En → Prop} : wkv [] e P ↔ P [] e := Iff.rfl
theorem wkv_cons {ps : List (Ex × Ex)} {P : List (D × D) → En → Prop} : wkv ((f, g) :: ps) e P ↔ wx f e fun k _ e1 => wx g e1 fun v _ e2 => wkv ps e2 fun kvs e3 => P ((k, v) :: kvs) e3 := by
  unfold wkv wx
  rw [kvE]
  cases f e with
  | none => exact Iff.rfl
  | some q =>
    rw [show q = (q.1, q.2.1, q.2.2) from rfl, bnd_some]
    dsimp only
    cases g q.2.2 with
    | none => exact Iff.rfl
    | some r =>
      rw [show r = (r.1, r.2.1, r.2.2) from rfl, bnd_some]
      dsimp only
      cases kvE ps r.2.2 <;> exact Iff.rfl
theorem wx_disp {ps : List (Ex × Ex)} : wx (xDisp ps) e Q ↔ wkv ps e fun kvs e1 => wq (mergeD [] kvs) fun ds => Q (.dict ds) (.o 0) e1 := by
  unfold wx wkv xDisp
  cases kvE ps e with
  | none => exact Iff.rfl
  | some q =>
    dsimp only [wq]
    cases mergeD [] q.1 <;> exact Iff.rfl
def wl (g : Gx) (b : Sx) (ds : List D) (e : En) (Z : Fl → En → Prop) : Prop := match loopD g b ds e with
  | some (fl, e1) => Z fl e1
  | none => False
theorem ws_for {it : Ix} {g : Gx} {b : Sx} : ws (sFor it g b) e Z ↔ wi it e fun ds e1 => wl g b ds e1 Z := by
  unfold ws wi wl sFor
  cases it e <;> exact Iff.rfl
theorem ws_forD {view : List (D × D) → List D} {g : Gx} {b : Sx} : ws (sForD i view g b) e Z ↔ wx (xUse i) e fun d _ e1 => wdc d fun ds => wl g b (view ds) e1 Z := by
  unfold ws wx wl sForD
  cases xUse i e with
  | none => exact Iff.rfl
  | some q =>
    rw [show q = (q.1, q.2.1, q.2.2) from rfl]
    dsimp only
    cases q.1 <;> exact Iff.rfl
theorem wl_nil {g : Gx} {b : Sx} : wl g b [] e Z ↔ Z .nx e := Iff.rfl
def wlp (g : Gx) (b : Sx) (ds : List D) (Z : Fl → En → Prop) (fl : Fl) (e : En) : Prop := match fl with
  | .nx => wl g b ds e Z
  | .ct => wl g b ds e Z
  | .bk => Z .nx e
  | .rt d o => Z (.rt d o) e
theorem wl_cons {g : Gx} {b : Sx} {d : D} {ds : List D} : wl g b (d :: ds) e Z ↔ wg (g d e) fun e1 => ws b e1 (wlp g b ds Z) := by
  unfold wl wg ws loopD
  cases g d e with
  | none => exact Iff.rfl
  | some e1 =>
    dsimp only
    cases b e1 with
    | none => exact Iff.rfl
    | some q =>
      rw [show q = (q.1, q.2) from rfl]
      cases q.1 <;> exact Iff.rfl
/-- what a turn must give: what holds ahead of the next turn (I), or a way out -/
def turn (I : En → Prop) (Z : Fl → En → Prop) (fl : Fl) (e : En) : Prop := match fl with
  | .nx => I e
  | .ct => I e
  | .bk => Z .nx e
  | .rt d o => Z (.rt d o) e
theorem turn_nx {I : En → Prop} : turn I Z .nx e ↔ I e := Iff.rfl
theorem turn_ct {I : En → Prop} : turn I Z .ct e ↔ I e := Iff.rfl
theorem turn_bk {I : En → Prop} : turn I Z .bk e ↔ Z .nx e := Iff.rfl
theorem turn_rt {I : En → Prop} {d : D} {o : Fg} : turn I Z (.rt d o) e ↔ Z (.rt d o) e := Iff.rfl
theorem wg_mono {r : Option En} {P P' : En → Prop} (h : wg r P) (k : ∀ e, P e → P' e) : wg r P' := by
  unfold wg at h ⊢
  split at h
  · exact k _ h
  · exact h.elim
/-- a loop by an invariant; k turns are done -/
theorem wl_inv {g : Gx} {b : Sx} {ds : List D} (I : Nat → En → Prop) (h0 : I 0 e) (step : ∀ k d e, ds[k]? = some d → I k e → wg (g d e) fun e1 => ws b e1 (turn (I (k + 1)) Z)) (fin : ∀ e, I ds.length e → Z .nx e) : wl g b ds e Z := by
  have gen : ∀ (rest : List D) (k : Nat) (e : En), k + rest.length = ds.length → (∀ j, rest[j]? = ds[k + j]?) → I k e → wl g b rest e Z := by
    intro rest
    induction rest with
    | nil => intro k e hl _ hi; rw [List.length_nil, Nat.add_zero] at hl; subst hl; exact fin e hi
    | cons d rest ih =>
      intro k e hl hr hi
      rw [wl_cons]
      have h1 : ds[k]? = some d := by have := hr 0; simpa using this.symm
      refine wg_mono (step k d e h1 hi) fun e1 h => ws_mono h fun fl e2 q => ?_
      have nxt : I (k + 1) e2 → wl g b rest e2 Z := ih (k + 1) e2 (by rw [List.length_cons] at hl; omega) (fun j => by have := hr (j + 1); rw [List.getElem?_cons_succ] at this; rw [this]; congr 1; omega)
      cases fl with
      | nx => exact nxt q
      | ct => exact nxt q
      | bk => exact q
      | rt d o => exact q
  exact gen ds 0 e (by omega) (fun j => by rw [Nat.zero_add]) h0
theorem ws_while {c : Tx} {b : Sx} (I : En → Prop) (μ : En → Nat) (h0 : I e) (step : ∀ e, I e → wt c e fun t e1 => (t = true → ws b e1 (turn (fun e2 => I e2 ∧ μ e2 < μ e) Z)) ∧ (t = false → Z .nx e1)) : ws (sWhile c b) e Z := by
  have gen : ∀ (n : Nat) (e : En), μ e ≤ n → I e → ∃ r, loopW c b (n + 1) e = some r ∧ Z r.1 r.2 := by
    intro n
    induction n with
    | zero =>
      intro e hn hi
      have := step e hi
      unfold wt at this
      split at this
      · rename_i t e1 hc
        cases t with
        | false =>
          refine ⟨(.nx, e1), ?_, this.2 rfl⟩
          unfold loopW; rw [hc]
        | true =>
          have q := this.1 rfl
          unfold ws at q
          split at q
          · rename_i fl e2 hb
            cases fl with
            | nx => have q' : I e2 ∧ μ e2 < μ e := q; exact absurd q'.2 (by omega)
            | ct => have q' : I e2 ∧ μ e2 < μ e := q; exact absurd q'.2 (by omega)
            | bk => refine ⟨(.nx, e2), ?_, q⟩; unfold loopW; rw [hc]; dsimp only; rw [hb]
            | rt d o => refine ⟨(.rt d o, e2), ?_, q⟩; unfold loopW; rw [hc]; dsimp only; rw [hb]
          · exact q.elim
      · exact this.elim
    | succ n ih =>
      intro e hn hi
      have := step e hi
      unfold wt at this
      split at this
      · rename_i t e1 hc
        cases t with
        | false =>
          refine ⟨(.nx, e1), ?_, this.2 rfl⟩
          unfold loopW; rw [hc]
        | true =>
          have q := this.1 rfl
          unfold ws at q
          split at q
          · rename_i fl e2 hb
            cases fl with
            | nx =>
              have q' : I e2 ∧ μ e2 < μ e := q
              obtain ⟨r, h1, h2⟩ := ih e2 (by omega) q'.1
              exact ⟨r, by unfold loopW; rw [hc]; dsimp only; rw [hb]; exact h1, h2⟩
            | ct =>
              have q' : I e2 ∧ μ e2 < μ e := q
              obtain ⟨r, h1, h2⟩ := ih e2 (by omega) q'.1
              exact ⟨r, by unfold loopW; rw [hc]; dsimp only; rw [hb]; exact h1, h2⟩
            | bk => refine ⟨(.nx, e2), ?_, q⟩; unfold loopW; rw [hc]; dsimp only; rw [hb]
            | rt d o => refine ⟨(.rt d o, e2), ?_, q⟩; unfold loopW; rw [hc]; dsimp only; rw [hb]
          · exact q.elim
      · exact this.elim
  obtain ⟨r, h1, h2⟩ := gen (μ e) e (Nat.le_refl _) h0
  unfold ws
  rw [sWhile_eq h1]
  exact h2
/-! comprehensions -/
def wc (vs : List Nat) (g : Gx) (c : Tx) (f : Ex) (ds acc : List D) (e : En) (P : List D → En → Prop) : Prop := match loopC vs g c f ds acc e with
  | some (acc, e1) => P acc e1
  | none => False
theorem wx_lc {it : Ix} {vs : List Nat} {g : Gx} : wx (xLc it vs g c f) e Q ↔ wi it e fun ds e1 => calmE e1 vs = true ∧ wc vs g c f ds [] (wipeE e1 vs) fun acc e2 => Q (.list acc) (.o 0) (backE e1 e2 vs) := by
  unfold wx wi wc xLc
  cases it e with
  | none => exact Iff.rfl
  | some q =>
    dsimp only
    by_cases h : calmE q.2 vs = true
    · rw [if_pos h]
      cases loopC vs g c f q.1 [] (wipeE q.2 vs) <;> exact ⟨fun z => ⟨h, z⟩, fun z => z.2⟩
    · rw [if_neg h]; exact ⟨fun z => z.elim, fun z => h z.1⟩
theorem wx_lcD {view : List (D × D) → List D} {vs : List Nat} {g : Gx} : wx (xLcD i view vs g c f) e Q ↔ wx (xUse i) e fun d _ e1 => wdc d fun ds => calmE e1 vs = true ∧ wc vs g c f (view ds) [] (wipeE e1 vs) fun acc e2 => Q (.list acc) (.o 0) (backE e1 e2 vs) := by
  unfold wx wc xLcD
  cases xUse i e with
  | none => exact Iff.rfl
  | some q =>
    rw [show q = (q.1, q.2.1, q.2.2) from rfl]
    dsimp only
    cases q.1 with
    | dict ds =>
      dsimp only [wdc]
      by_cases h : calmE q.2.2 vs = true
      · rw [if_pos h]
        cases loopC vs g c f (view ds) [] (wipeE q.2.2 vs) <;> exact ⟨fun z => ⟨h, z⟩, fun z => z.2⟩
      · rw [if_neg h]; exact ⟨fun z => z.elim, fun z => h z.1⟩
    | _ => exact Iff.rfl
theorem wc_nil {vs : List Nat} {g : Gx} {acc : List D} {P : List D → En → Prop} : wc vs g c f [] acc e P ↔ P acc e := Iff.rfl
theorem wc_cons {vs : List Nat} {g : Gx} {d : D} {ds acc : List D} {P : List D → En → Prop} : wc vs g c f (d :: ds) acc e P ↔
    wg (g d e) fun e1 => wt c e1 fun b e2 => (b = true → wx f e2 fun y _ e3 => acc.length < sizeLine ∧ wc vs g c f ds (acc ++ [y]) (wipeE e3 vs) P) ∧ (b = false → wc vs g c f ds acc (wipeE e2 vs) P) := by
  unfold wc wg wt wx
  rw [loopC]
  cases g d e with
  | none => exact Iff.rfl
  | some e1 =>
    dsimp only
    cases c e1 with
    | none => exact Iff.rfl
    | some q =>
      rw [show q = (q.1, q.2) from rfl]
      cases q.1 with
      | false => simp
      | true =>
        simp only [true_implies, Bool.true_eq_false, false_implies, and_true]
        cases f q.2 with
        | none => exact Iff.rfl
        | some r =>
          rw [show r = (r.1, r.2.1, r.2.2) from rfl, bnd_some]
          dsimp only
          by_cases h : acc.length < sizeLine
          · rw [if_pos h]; exact ⟨fun z => ⟨h, z⟩, fun z => z.2⟩
          · rw [if_neg h]; exact ⟨fun z => z.elim, fun z => h z.1⟩
/-- a comprehension by an invariant -/
theorem wc_inv {vs : List Nat} {g : Gx} {ds acc : List D} {P : List D → En → Prop} (I : Nat → List D → En → Prop) (h0 : I 0 acc e)
    (step : ∀ k d acc e, ds[k]? = some d → I k acc e → wg (g d e) fun e1 => wt c e1 fun b e2 => (b = true → wx f e2 fun y _ e3 => acc.length < sizeLine ∧ I (k + 1) (acc ++ [y]) (wipeE e3 vs)) ∧ (b = false → I (k + 1) acc (wipeE e2 vs)))
    (fin : ∀ acc e, I ds.length acc e → P acc e) : wc vs g c f ds acc e P := by
  have gen : ∀ (rest : List D) (k : Nat) (acc : List D) (e : En), k + rest.length = ds.length → (∀ j, rest[j]? = ds[k + j]?) → I k acc e → wc vs g c f rest acc e P := by
    intro rest
    induction rest with
    | nil => intro k acc e hl _ hi; rw [List.length_nil, Nat.add_zero] at hl; subst hl; exact fin acc e hi
    | cons d rest ih =>
      intro k acc e hl hr hi
      rw [wc_cons]
      have h1 : ds[k]? = some d := by have := hr 0; simpa using this.symm
      have nxt : ∀ acc e2, I (k + 1) acc e2 → wc vs g c f rest acc e2 P := fun acc e2 => ih (k + 1) acc e2 (by rw [List.length_cons] at hl; omega) (fun j => by have := hr (j + 1); rw [List.getElem?_cons_succ] at this; rw [this]; congr 1; omega)
      refine wg_mono (step k d acc e h1 hi) fun e1 h => wt_mono h fun b e2 q => ⟨fun hb => wx_mono (q.1 hb) fun y o e3 z => ⟨z.1, nxt _ _ z.2⟩, fun hb => nxt _ _ (q.2 hb)⟩
  exact gen ds 0 acc e (by omega) (fun j => by rw [Nat.zero_add]) h0
/-- a comprehension that changes nothing -/
theorem wc_pure {vs : List Nat} {g : Gx} {ds acc : List D} {P : List D → En → Prop} (p : D → Bool) (y : D → D) (hl : acc.length + ds.length ≤ sizeLine)
    (step : ∀ d ∈ ds, wg (g d e) fun e1 => wt c e1 fun b e2 => b = p d ∧ (p d = true → wx f e2 fun z _ e3 => z = y d ∧ wipeE e3 vs = e) ∧ (p d = false → wipeE e2 vs = e))
    (fin : P (acc ++ (ds.filter p).map y) e) : wc vs g c f ds acc e P := by
  induction ds generalizing acc with
  | nil => rw [wc_nil]; simpa using fin
  | cons d ds ih =>
    rw [wc_cons]
    rw [List.length_cons] at hl
    refine wg_mono (step d List.mem_cons_self) fun e1 h => wt_mono h fun b e2 q => ⟨fun hb => ?_, fun hb => ?_⟩
    · have hp : p d = true := by rw [← q.1]; exact hb
      refine wx_mono (q.2.1 hp) fun z o e3 w => ⟨by omega, ?_⟩
      rw [w.1, w.2]
      refine ih (acc := acc ++ [y d]) (by simp; omega) (fun d hd => step d (List.mem_cons_of_mem _ hd)) ?_
      rw [List.filter_cons, if_pos hp, List.map_cons] at fin
      simpa using fin
    · have hp : p d = false := by rw [← q.1]; exact hb
      rw [q.2.2 hp]
      refine ih (by omega) (fun d hd => step d (List.mem_cons_of_mem _ hd)) ?_
      rw [List.filter_cons, if_neg (by rw [hp]; exact Bool.false_ne_true)] at fin
      exact fin
/-! what is gone over -/
/-- the items that a loop sees -/
def wit (d : D) (P : List D → Prop) : Prop := match d with
  | .list ds => P ds
  | .tuple ds => P ds
  | .str z => P (strD z)
  | _ => False
def witD (d : D) (P : List D → Prop) : Prop := match d with
  | .list ds => P ds
  | .tuple ds => P ds
  | .str z => P (strD z)
  | .dict ds => P (vKeys ds)
  | _ => False
theorem wit_list {ds : List D} {P : List D → Prop} : wit (.list ds) P ↔ P ds := Iff.rfl
theorem wit_tup {ds : List D} {P : List D → Prop} : wit (.tuple ds) P ↔ P ds := Iff.rfl
theorem wit_str {z : Str} {P : List D → Prop} : wit (.str z) P ↔ P (strD z) := Iff.rfl
theorem witD_list {ds : List D} {P : List D → Prop} : witD (.list ds) P ↔ P ds := Iff.rfl
theorem witD_tup {ds : List D} {P : List D → Prop} : witD (.tuple ds) P ↔ P ds := Iff.rfl
theorem witD_str {z : Str} {P : List D → Prop} : witD (.str z) P ↔ P (strD z) := Iff.rfl
theorem witD_dict {ds : List (D × D)} {P : List D → Prop} : witD (.dict ds) P ↔ P (vKeys ds) := Iff.rfl
theorem wi_any : wi (iAny f) e L ↔ wx f e fun d _ e1 => wit d fun ds => L ds e1 := by
  unfold wi wx iAny
  cases f e with
  | none => exact Iff.rfl
  | some q =>
    rw [show q = (q.1, q.2.1, q.2.2) from rfl, bnd_some]
    dsimp only
    cases q.1 <;> exact Iff.rfl
theorem wi_slot : wi (iSlot i) e L ↔ wx (xUse i) e fun d _ e1 => witD d fun ds => L ds e1 := by
  unfold wi wx iSlot
  cases xUse i e with
  | none => exact Iff.rfl
  | some q =>
    rw [show q = (q.1, q.2.1, q.2.2) from rfl]
    dsimp only
    cases q.1 <;> exact Iff.rfl
def w1 (ds : List D) (P : D → Prop) : Prop := match ds with
  | [d] => P d
  | _ => False
def w2 (ds : List D) (P : D → D → Prop) : Prop := match ds with
  | [d, d'] => P d d'
  | _ => False
theorem w1_one {d : D} {P : D → Prop} : w1 [d] P ↔ P d := Iff.rfl
theorem w2_two {d d' : D} {P : D → D → Prop} : w2 [d, d'] P ↔ P d d' := Iff.rfl
theorem wi_rg1 : wi (iRg1 a) e L ↔ wa a e fun ds e1 => w1 ds fun d => wint d fun j => (-(2 ^ 62) ≤ j ∧ j < 2 ^ 62) ∧ L (rangeD 0 j.toNat) e1 := by
  unfold wi wa iRg1
  cases a e with
  | none => exact Iff.rfl
  | some q =>
    rw [show q = (q.1, q.2) from rfl]
    match q.1 with
    | [] => exact Iff.rfl
    | [.int j] =>
      dsimp only [w1, wint]
      by_cases h : -(2 ^ 62) ≤ j ∧ j < 2 ^ 62
      · rw [if_pos h]; exact ⟨fun z => ⟨h, z⟩, fun z => z.2⟩
      · rw [if_neg h]; exact ⟨fun z => z.elim, fun z => h z.1⟩
    | [.none] | [.bool _] | [.str _] | [.list _] | [.tuple _] | [.dict _] => exact Iff.rfl
    | d :: _ :: _ => cases d <;> exact Iff.rfl
theorem wi_rg2 : wi (iRg2 a) e L ↔ wa a e fun ds e1 => w2 ds fun d d' => wint d fun i => wint d' fun j => (-(2 ^ 62) ≤ i ∧ i < 2 ^ 62 ∧ -(2 ^ 62) ≤ j ∧ j < 2 ^ 62) ∧ L (rangeD i (j - i).toNat) e1 := by
  unfold wi wa iRg2
  cases a e with
  | none => exact Iff.rfl
  | some q =>
    rw [show q = (q.1, q.2) from rfl]
    match q.1 with
    | [] => exact Iff.rfl
    | [d] => cases d <;> exact Iff.rfl
    | [.int i, .int j] =>
      dsimp only [w2, wint]
      by_cases h : -(2 ^ 62) ≤ i ∧ i < 2 ^ 62 ∧ -(2 ^ 62) ≤ j ∧ j < 2 ^ 62
      · rw [if_pos h]; exact ⟨fun z => ⟨h, z⟩, fun z => z.2⟩
      · rw [if_neg h]; exact ⟨fun z => z.elim, fun z => h z.1⟩
    | [.int _, .none] | [.int _, .bool _] | [.int _, .str _] | [.int _, .list _] | [.int _, .tuple _] | [.int _, .dict _] => exact Iff.rfl
    | [.none, _] | [.bool _, _] | [.str _, _] | [.list _, _] | [.tuple _, _] | [.dict _, _] => exact Iff.rfl
    | d :: d' :: _ :: _ => cases d <;> first | exact Iff.rfl | (cases d' <;> exact Iff.rfl)
theorem rangeD_get {lo : Int} {n k : Nat} {d : D} (h : (rangeD lo n)[k]? = some d) : k < n ∧ d = .int (lo + (k : Nat)) := by
  unfold rangeD at h
  rw [List.getElem?_map] at h
  cases q : (List.range n)[k]? with
  | none => rw [q] at h; cases h
  | some m =>
    rw [q] at h
    obtain ⟨q1, q2⟩ := List.getElem?_eq_some_iff.mp q
    rw [List.getElem_range] at q2
    subst q2
    rw [List.length_range] at q1
    exact ⟨q1, (Option.some.inj h).symm⟩
theorem rangeD_len {lo : Int} {n : Nat} : (rangeD lo n).length = n := by unfold rangeD; simp
/-! targets -/
theorem wg_nm {d : D} {P : En → Prop} : wg (gNm i d e) P ↔ i < e.length ∧ P (e.set i (some (d, .f))) := by
  unfold gNm
  by_cases h : i < e.length
  · rw [if_pos h]; exact ⟨fun z => ⟨h, z⟩, fun z => z.2⟩
  · rw [if_neg h]; exact ⟨fun z => z.elim, fun z => h z.1⟩
theorem wg_tp2 {d1 d2 : D} {g1 g2 : Gx} {P : En → Prop} : wg (gTp 2 (gsCons g1 (gsCons g2 gsNil)) (.tuple [d1, d2]) e) P ↔ wg (g1 d1 e) fun e1 => wg (g2 d2 e1) P := by
  unfold gTp
  dsimp only [List.length_cons, List.length_nil]
  rw [if_pos rfl]
  unfold gsCons
  dsimp only
  cases g1 d1 e with
  | none => exact Iff.rfl
  | some e1 =>
    dsimp only [gsCons, wg]
    cases g2 d2 e1 <;> exact Iff.rfl
/-! defs -/
def wB (ios : List Nat) (n : Nat) (Q : D → Fg → En → Prop) (fl : Fl) (e : En) : Prop := match fl with
  | .rt d o => Q d o (keepE ios n e)
  | .nx => Q .none .f (keepE ios n e)
  | _ => False
theorem wB_rt {ios : List Nat} {d : D} {o : Fg} : wB ios n Q (.rt d o) e ↔ Q d o (keepE ios n e) := Iff.rfl
theorem wB_nx {ios : List Nat} : wB ios n Q .nx e ↔ Q .none .f (keepE ios n e) := Iff.rfl
theorem wx_mB {l : Nat} {ios : List Nat} {b : Sx} : wx (mB n l ios b) e Q ↔ ws b (e ++ List.replicate l none) (wB ios n Q) := by
  unfold wx ws mB
  cases b (e ++ List.replicate l none) with
  | none => exact Iff.rfl
  | some q =>
    rw [show q = (q.1, q.2) from rfl]
    cases q.1 <;> exact Iff.rfl
def war (as : List Ar) (e : En) (P : List (Option D) → En → Prop) : Prop := match arE as e with
  | some (ds, e1) => P ds e1
  | none => False
theorem war_nil {P : List (Option D) → En → Prop} : war [] e P ↔ P [] e := Iff.rfl
theorem war_io {as : List Ar} {P : List (Option D) → En → Prop} : war (.io i :: as) e P ↔ wq e[i]? fun s => s.isSome = true ∧ war as e fun ds e1 => P (none :: ds) e1 := by
  unfold war
  rw [arE]
  generalize e[i]? = s
  match s with
  | none => exact Iff.rfl
  | some none => exact ⟨fun z => z.elim, fun z => absurd z.1 (by decide)⟩
  | some (some q) =>
    dsimp only [wq]
    cases arE as e with
    | none => exact ⟨fun z => ⟨rfl, z⟩, fun z => z.2⟩
    | some r => exact ⟨fun z => ⟨rfl, z⟩, fun z => z.2⟩
theorem war_ex {as : List Ar} {P : List (Option D) → En → Prop} : war (.ex f :: as) e P ↔ wx f e fun d _ e1 => war as e1 fun ds e2 => P (some d :: ds) e2 := by
  unfold war wx
  rw [arE]
  cases f e with
  | none => exact Iff.rfl
  | some q =>
    rw [show q = (q.1, q.2.1, q.2.2) from rfl, bnd_some]
    dsimp only
    cases arE as q.2.2 <;> exact Iff.rfl
theorem wx_app {m : Ex} {as : List Ar} : wx (xApp m as) e Q ↔ war as e fun ds e1 => arLive e1 (arIos as) = true ∧ wx m (arEnv as ds e1) fun r o eo => Q r o (arOut as eo e1) := by
  unfold wx war xApp
  cases arE as e with
  | none => exact Iff.rfl
  | some q =>
    dsimp only
    by_cases h : arLive q.2 (arIos as) = true
    · rw [if_pos h]
      cases m (arEnv as q.1 q.2) <;> exact ⟨fun z => ⟨h, z⟩, fun z => z.2⟩
    · rw [if_neg h]; exact ⟨fun z => z.elim, fun z => h z.1⟩
/-! slices -/
def wp (p : Px) (e : En) (P : Option Int → En → Prop) : Prop := match p e with
  | some (o, e1) => P o e1
  | none => False
theorem wp_no {P : Option Int → En → Prop} : wp pNo e P ↔ P none e := Iff.rfl
theorem wp_sm {P : Option Int → En → Prop} : wp (pSm f) e P ↔ wx f e fun d _ e1 => wint d fun i => P (some i) e1 := by
  unfold wp wx pSm
  cases f e with
  | none => exact Iff.rfl
  | some q =>
    rw [show q = (q.1, q.2.1, q.2.2) from rfl, bnd_some]
    dsimp only
    cases q.1 <;> exact Iff.rfl
def wlst (d : D) (P : List D → Prop) : Prop := match d with
  | .list ds => P ds
  | _ => False
theorem wlst_list {ds : List D} {P : List D → Prop} : wlst (.list ds) P ↔ P ds := Iff.rfl
theorem wx_sl {p q : Px} : wx (xSl f p q) e Q ↔ wx f e fun d _ e1 => wp p e1 fun lo e2 => wp q e2 fun hi e3 => wlst d fun ds => Q (.list (cutD ds lo hi)) (.o 0) e3 := by
  unfold wx wp xSl
  cases f e with
  | none => exact Iff.rfl
  | some r =>
    rw [show r = (r.1, r.2.1, r.2.2) from rfl, bnd_some]
    dsimp only
    cases p r.2.2 with
    | none => exact Iff.rfl
    | some t =>
      dsimp only
      cases q t.2 with
      | none => exact Iff.rfl
      | some u =>
        dsimp only
        cases r.1 <;> exact Iff.rfl
/-! the later combinators -/
def wF (s : Option Sl) (P : D → Prop) : Prop := match s with
  | some (some (d, .f)) => P d
  | _ => False
theorem wF_f {d : D} {P : D → Prop} : wF (some (some (d, .f))) P ↔ P d := Iff.rfl
theorem ws_aug {op : D → D → Option (D × Fg)} : ws (sAug i op f) e Z ↔ wF e[i]? fun d1 => wx f e fun d2 _ e2 => wo (op d1 d2) fun r o => i < e2.length ∧ Z .nx (e2.set i (some (r, o))) := by
  unfold ws sAug wF wx
  dsimp only
  generalize e[i]? = s
  match s with
  | some (some (d1, .f)) =>
    dsimp only
    cases f e with
    | none => exact Iff.rfl
    | some q =>
      rw [show q = (q.1, q.2.1, q.2.2) from rfl, bnd_some]
      dsimp only [wo]
      cases op d1 q.1 with
      | none => exact Iff.rfl
      | some r =>
        dsimp only
        by_cases h : i < q.2.2.length
        · rw [if_pos h]; exact ⟨fun z => ⟨h, z⟩, fun z => z.2⟩
        · rw [if_neg h]; exact ⟨fun z => z.elim, fun z => h z.1⟩
  | some (some (_, .o _)) => exact Iff.rfl
  | some none => exact Iff.rfl
  | none => exact Iff.rfl
theorem ws_par2 {j : Nat} : ws (sPar2 i j f g) e Z ↔ wx f e fun d1 o1 e1 => wx g e1 fun d2 o2 e2 => (i < e2.length ∧ j < e2.length) ∧ Z .nx ((e2.set i (some (d1, o1))).set j (some (d2, o2))) := by
  unfold ws sPar2 wx
  cases f e with
  | none => exact Iff.rfl
  | some q =>
    dsimp only
    cases g q.2.2 with
    | none => exact Iff.rfl
    | some r =>
      dsimp only
      by_cases h : i < r.2.2.length ∧ j < r.2.2.length
      · rw [if_pos h]; exact ⟨fun z => ⟨h, z⟩, fun z => z.2⟩
      · rw [if_neg h]; exact ⟨fun z => z.elim, fun z => h z.1⟩
theorem ws_unp {t : Gx} : ws (sUnp t f) e Z ↔ wx f e fun d _ e1 => wg (t d e1) fun e2 => Z .nx e2 := by
  unfold ws sUnp wx wg
  cases f e with
  | none => exact Iff.rfl
  | some q =>
    rw [show q = (q.1, q.2.1, q.2.2) from rfl, bnd_some]
    dsimp only
    cases t q.1 q.2.2 <;> exact Iff.rfl
theorem wx_slA {p q : Px} : wx (xSlA f p q) e Q ↔ wx f e fun d _ e1 => wp p e1 fun lo e2 => wp q e2 fun hi e3 => wo (dCut d lo hi) fun r o => Q r o e3 := by
  unfold wx wp xSlA
  cases f e with
  | none => exact Iff.rfl
  | some r =>
    rw [show r = (r.1, r.2.1, r.2.2) from rfl, bnd_some]
    dsimp only
    cases p r.2.2 with
    | none => exact Iff.rfl
    | some t =>
      dsimp only
      cases q t.2 with
      | none => exact Iff.rfl
      | some u =>
        dsimp only [wo]
        cases dCut r.1 t.1 u.1 <;> exact Iff.rfl
def wS (n : Nat) (P : Nat → Prop) : Prop := match n with
  | m + 1 => P m
  | 0 => False
theorem wS_1 {P : Nat → Prop} : wS 1 P ↔ P 0 := Iff.rfl
theorem wS_2 {P : Nat → Prop} : wS 2 P ↔ P 1 := Iff.rfl
theorem wN_key (e : En) (i j : Nat) (P : List D → List D → Nat → Prop) : (wL e[i]? fun ds n1 => wS n1 fun n => wq ds[j]? fun d => wlst d fun es => P ds es n) ↔ (match slotN e i j with | some (ds, es, n) => P ds es n | none => False) := by
  rw [wL_key]
  unfold slotN
  cases slotL e i with
  | none => exact Iff.rfl
  | some q =>
    rw [show q = (q.1, q.2) from rfl]
    dsimp only
    cases q.2 with
    | zero => exact Iff.rfl
    | succ n =>
      dsimp only [wS, wq]
      cases q.1[j]? with
      | none => exact Iff.rfl
      | some d => dsimp only [wlst]; cases d <;> exact Iff.rfl
theorem wx_mutN {j : Nat} {op : Mop} {as : List D} : wx (xMutN i j op as) e Q ↔ wL e[i]? fun ds n1 => wS n1 fun n => wq ds[j]? fun d => wlst d fun es => wm (op n as es) fun r o es' => Q r o (e.set i (some (.list (ds.set j (.list es')), .o (n + 1)))) := by
  rw [wN_key e i j fun ds es n => wm (op n as es) fun r o es' => Q r o (e.set i (some (.list (ds.set j (.list es')), .o (n + 1))))]
  unfold wx xMutN
  cases slotN e i j with
  | none => exact Iff.rfl
  | some q =>
    dsimp only [wm]
    cases op q.2.2 as q.2.1 <;> exact Iff.rfl
theorem ws_setN {j : Nat} {k : Int} : ws (sSetN i j k f) e Z ↔ wx f e fun d _ e1 => wL e1[i]? fun ds n1 => wS n1 fun n => wq ds[j]? fun d0 => wlst d0 fun es => (n = 0 ∨ still d = true) ∧ wq (ixN es.length k) fun m => Z .nx (e1.set i (some (.list (ds.set j (.list (es.set m d))), .o (n + 1)))) := by
  unfold wx ws sSetN
  cases f e with
  | none => exact Iff.rfl
  | some q =>
    rw [show q = (q.1, q.2.1, q.2.2) from rfl, bnd_some]
    dsimp only
    rw [wN_key q.2.2 i j fun ds es n => (n = 0 ∨ still q.1 = true) ∧ wq (ixN es.length k) fun m => Z .nx (q.2.2.set i (some (.list (ds.set j (.list (es.set m q.1))), .o (n + 1))))]
    cases slotN q.2.2 i j with
    | none => exact Iff.rfl
    | some u =>
      dsimp only [wq]
      by_cases h : u.2.2 = 0 ∨ still q.1 = true
      · rw [if_pos h]
        cases ixN u.2.1.length k <;> exact ⟨fun z => ⟨h, z⟩, fun z => z.2⟩
      · rw [if_neg h]; exact ⟨fun z => z.elim, fun z => h z.1⟩
theorem wx_mD {dds : List D} {m : Ex} : wx (mD dds m) e Q ↔ wx m (e ++ dds.map fun d => some (d, .f)) fun d o eo => Q d o (eo.take e.length) := by
  unfold wx mD
  cases m (e ++ dds.map fun d => some (d, .f)) <;> exact Iff.rfl
def wz (ds : List D) (P : List D → List D → Prop) : Prop := match ds with
  | [.list l, .list r] => P l r
  | [.tuple l, .tuple r] => P l r
  | _ => False
theorem wz_list {l r : List D} {P : List D → List D → Prop} : wz [.list l, .list r] P ↔ P l r := Iff.rfl
theorem wz_tup {l r : List D} {P : List D → List D → Prop} : wz [.tuple l, .tuple r] P ↔ P l r := Iff.rfl
theorem wi_zipE : wi (iZipE a) e L ↔ wa a e fun ds e1 => wz ds fun l r => L (zipD l r) e1 := by
  unfold wi wa iZipE
  cases a e with
  | none => exact Iff.rfl
  | some q =>
    rw [show q = (q.1, q.2) from rfl]
    match q.1 with
    | [] => exact Iff.rfl
    | [d] => cases d <;> exact Iff.rfl
    | [d, d'] => cases d <;> cases d' <;> exact Iff.rfl
    | d :: d' :: _ :: _ => cases d <;> first | exact Iff.rfl | (cases d' <;> exact Iff.rfl)
def wI (s : Option Sl) (A B C : Prop) : Prop := match s with
  | some (some (.list _, .o 0)) => A
  | some (some (.dict _, .o 0)) => B
  | _ => C
theorem wI_l {ds : List D} {A B C : Prop} : wI (some (some (.list ds, .o 0))) A B C ↔ A := Iff.rfl
theorem wI_d {ds : List (D × D)} {A B C : Prop} : wI (some (some (.dict ds, .o 0))) A B C ↔ B := Iff.rfl
theorem wI_f {d : D} {A B C : Prop} : wI (some (some (d, .f))) A B C ↔ C := by cases d <;> exact Iff.rfl
theorem wx_ixO : wx (xIxO i g) e Q ↔ wI e[i]? (wx (xIxL i g) e Q) (wx (xIxD i g) e Q) (wx (xOp dIxA (xUse i) g) e Q) := by
  unfold xIxO wI
  have h : ∀ (s : Option Sl), wx (fun e' => match s with | some (some (.list _, .o 0)) => xIxL i g e' | some (some (.dict _, .o 0)) => xIxD i g e' | _ => xOp dIxA (xUse i) g e') e Q ↔
      (match s with | some (some (.list _, .o 0)) => wx (xIxL i g) e Q | some (some (.dict _, .o 0)) => wx (xIxD i g) e Q | _ => wx (xOp dIxA (xUse i) g) e Q) := fun s => by
    split <;> exact Iff.rfl
  exact h e[i]?
def w0 (s : Option Sl) (P : List D → Prop) : Prop := match s with
  | some (some (.list ds, .o 0)) => P ds
  | _ => False
theorem w0_l {ds : List D} {P : List D → Prop} : w0 (some (some (.list ds, .o 0))) P ↔ P ds := Iff.rfl
def w0d (s : Option Sl) (P : List (D × D) → Prop) : Prop := match s with
  | some (some (.dict ds, .o 0)) => P ds
  | _ => False
theorem w0d_d {ds : List (D × D)} {P : List (D × D) → Prop} : w0d (some (some (.dict ds, .o 0))) P ↔ P ds := Iff.rfl
theorem w0_key (e : En) (P : List D → Prop) : w0 e[i]? P ↔ (match slotL e i with | some (ds, 0) => P ds | _ => False) := by
  unfold w0 slotL
  generalize e[i]? = s
  match s with
  | some (some (.list ds, .o 0)) => exact Iff.rfl
  | some (some (.list ds, .o (n + 1))) => exact Iff.rfl
  | some (some (.list ds, .f)) => exact Iff.rfl
  | some (some (.none, _)) | some (some (.bool _, _)) | some (some (.int _, _)) | some (some (.str _, _)) | some (some (.tuple _, _)) | some (some (.dict _, _)) => exact Iff.rfl
  | some none => exact Iff.rfl
  | none => exact Iff.rfl
theorem w0d_key (e : En) (P : List (D × D) → Prop) : w0d e[i]? P ↔ (match slotD e i with | some (ds, 0) => P ds | _ => False) := by
  unfold w0d slotD
  generalize e[i]? = s
  match s with
  | some (some (.dict ds, .o 0)) => exact Iff.rfl
  | some (some (.dict ds, .o (n + 1))) => exact Iff.rfl
  | some (some (.dict ds, .f)) => exact Iff.rfl
  | some (some (.none, _)) | some (some (.bool _, _)) | some (some (.int _, _)) | some (some (.str _, _)) | some (some (.tuple _, _)) | some (some (.list _, _)) => exact Iff.rfl
  | some none => exact Iff.rfl
  | none => exact Iff.rfl
theorem wx_ixL : wx (xIxL i g) e Q ↔ w0 e[i]? fun _ => wx g e fun k _ e1 => w0 e1[i]? fun ds => wint k fun j => wq (atI ds j) fun d => Q d .f e1 := by
  rw [w0_key]
  unfold wx xIxL
  cases slotL e i with
  | none => exact Iff.rfl
  | some q =>
    obtain ⟨ds0, n0⟩ := q
    cases n0 with
    | succ n => exact Iff.rfl
    | zero =>
      dsimp only
      cases g e with
      | none => exact Iff.rfl
      | some r =>
        rw [show r = (r.1, r.2.1, r.2.2) from rfl, bnd_some]
        dsimp only
        rw [w0_key]
        cases slotL r.2.2 i with
        | none => exact Iff.rfl
        | some t =>
          obtain ⟨ds, n⟩ := t
          cases n with
          | succ n => exact Iff.rfl
          | zero =>
            cases r.1 with
            | int j => cases hq : atI ds j <;> simp [wint, wq, hq]
            | _ => exact Iff.rfl
theorem wx_ixD : wx (xIxD i g) e Q ↔ w0d e[i]? fun _ => wx g e fun k _ e1 => w0d e1[i]? fun ds => wq (keyD k) fun j => wq (lookD ds j) fun d => Q d .f e1 := by
  rw [w0d_key]
  unfold wx xIxD
  cases slotD e i with
  | none => exact Iff.rfl
  | some q =>
    obtain ⟨ds0, n0⟩ := q
    cases n0 with
    | succ n => exact Iff.rfl
    | zero =>
      dsimp only
      cases g e with
      | none => exact Iff.rfl
      | some r =>
        rw [show r = (r.1, r.2.1, r.2.2) from rfl, bnd_some]
        dsimp only
        rw [w0d_key]
        cases slotD r.2.2 i with
        | none => exact Iff.rfl
        | some t =>
          obtain ⟨ds, n⟩ := t
          cases n with
          | succ n => exact Iff.rfl
          | zero =>
            cases keyD r.1 with
            | none => exact Iff.rfl
            | some j => cases hq : lookD ds j <;> simp [wq, hq]
def wC (s : Option Sl) (P : List D → Prop) (B : Prop) : Prop := match s with
  | some (some (.list ds, .o 0)) => P ds
  | _ => B
theorem wC_l {ds : List D} {P : List D → Prop} {B : Prop} : wC (some (some (.list ds, .o 0))) P B ↔ P ds := Iff.rfl
theorem wC_f {d : D} {P : List D → Prop} {B : Prop} : wC (some (some (d, .f))) P B ↔ B := by cases d <;> exact Iff.rfl
theorem wC_d {ds : List (D × D)} {o : Fg} {P : List D → Prop} {B : Prop} : wC (some (some (.dict ds, o))) P B ↔ B := Iff.rfl
theorem wx_cpO : wx (xCpO i) e Q ↔ wC e[i]? (fun ds => Q (.list ds) (.o 0) e) (wx (xCall kListA (aCons (xUse i) aNil)) e Q) := by
  have h : ∀ (s : Option Sl), e[i]? = s → (wx (fun e' => match s with | some (some (.list _, .o 0)) => xCpL i e' | _ => xCall kListA (aCons (xUse i) aNil) e') e Q ↔ wC s (fun ds => Q (.list ds) (.o 0) e) (wx (xCall kListA (aCons (xUse i) aNil)) e Q)) := fun s hs => by
    unfold wC
    split
    · rename_i ds
      unfold wx xCpL slotL
      dsimp only
      rw [hs]
      exact Iff.rfl
    · exact Iff.rfl
  exact h e[i]? rfl
theorem wi_enum : wi (iEnumD a) e L ↔ wa a e fun ds e1 => w1 ds fun d => wlst d fun l => L (enumD l) e1 := by
  unfold wi wa iEnumD
  cases a e with
  | none => exact Iff.rfl
  | some q =>
    rw [show q = (q.1, q.2) from rfl]
    match q.1 with
    | [] => exact Iff.rfl
    | [d] => cases d <;> exact Iff.rfl
    | d :: _ :: _ => cases d <;> exact Iff.rfl
theorem wg_tp3 {d1 d2 d3 : D} {g1 g2 g3 : Gx} {P : En → Prop} : wg (gTp 3 (gsCons g1 (gsCons g2 (gsCons g3 gsNil))) (.tuple [d1, d2, d3]) e) P ↔ wg (g1 d1 e) fun e1 => wg (g2 d2 e1) fun e2 => wg (g3 d3 e2) P := by
  unfold gTp
  dsimp only [List.length_cons, List.length_nil]
  rw [if_pos rfl]
  unfold gsCons
  dsimp only
  cases g1 d1 e with
  | none => exact Iff.rfl
  | some e1 =>
    dsimp only [gsCons, wg]
    cases g2 d2 e1 with
    | none => exact Iff.rfl
    | some e2 =>
      dsimp only [gsCons, wg]
      cases g3 d3 e2 <;> exact Iff.rfl
theorem wg_tp4 {d1 d2 d3 d4 : D} {g1 g2 g3 g4 : Gx} {P : En → Prop} : wg (gTp 4 (gsCons g1 (gsCons g2 (gsCons g3 (gsCons g4 gsNil)))) (.tuple [d1, d2, d3, d4]) e) P ↔ wg (g1 d1 e) fun e1 => wg (g2 d2 e1) fun e2 => wg (g3 d3 e2) fun e3 => wg (g4 d4 e3) P := by
  unfold gTp
  dsimp only [List.length_cons, List.length_nil]
  rw [if_pos rfl]
  unfold gsCons
  dsimp only
  cases g1 d1 e with
  | none => exact Iff.rfl
  | some e1 =>
    dsimp only [gsCons, wg]
    cases g2 d2 e1 with
    | none => exact Iff.rfl
    | some e2 =>
      dsimp only [gsCons, wg]
      cases g3 d3 e2 with
      | none => exact Iff.rfl
      | some e3 =>
        dsimp only [gsCons, wg]
        cases g4 d4 e3 <;> exact Iff.rfl
theorem wg_tp5 {d1 d2 d3 d4 d5 : D} {g1 g2 g3 g4 g5 : Gx} {P : En → Prop} : wg (gTp 5 (gsCons g1 (gsCons g2 (gsCons g3 (gsCons g4 (gsCons g5 gsNil))))) (.tuple [d1, d2, d3, d4, d5]) e) P ↔ wg (g1 d1 e) fun e1 => wg (g2 d2 e1) fun e2 => wg (g3 d3 e2) fun e3 => wg (g4 d4 e3) fun e4 => wg (g5 d5 e4) P := by
  unfold gTp
  dsimp only [List.length_cons, List.length_nil]
  rw [if_pos rfl]
  unfold gsCons
  dsimp only
  cases g1 d1 e with
  | none => exact Iff.rfl
  | some e1 =>
    dsimp only [gsCons, wg]
    cases g2 d2 e1 with
    | none => exact Iff.rfl
    | some e2 =>
      dsimp only [gsCons, wg]
      cases g3 d3 e2 with
      | none => exact Iff.rfl
      | some e3 =>
        dsimp only [gsCons, wg]
        cases g4 d4 e3 with
        | none => exact Iff.rfl
        | some e4 =>
          dsimp only [gsCons, wg]
          cases g5 d5 e4 <;> exact Iff.rfl
/-! the combinators of EvPlus5 -/
theorem wx_get2 : wx (xGet2 f g h) e Q ↔ wx f e fun d1 _ e1 => wx g e1 fun d2 _ e2 => wx h e2 fun d3 _ e3 => wdc d1 fun ds => wq (keyD d2) fun k => Q ((lookD ds k).getD d3) .f e3 := by
  unfold wx xGet2
  cases f e with
  | none => exact Iff.rfl
  | some q =>
    rw [show q = (q.1, q.2.1, q.2.2) from rfl, bnd_some]
    dsimp only
    cases g q.2.2 with
    | none => exact Iff.rfl
    | some r =>
      rw [show r = (r.1, r.2.1, r.2.2) from rfl, bnd_some]
      dsimp only
      cases h r.2.2 with
      | none => exact Iff.rfl
      | some t =>
        rw [show t = (t.1, t.2.1, t.2.2) from rfl, bnd_some]
        dsimp only
        cases q.1 with
        | dict ds => dsimp only [wdc]; cases keyD r.1 <;> exact Iff.rfl
        | _ => exact Iff.rfl
theorem wx_get1 : wx (xGet1 f g) e Q ↔ wx f e fun d1 _ e1 => wx g e1 fun d2 _ e2 => wdc d1 fun ds => wq (keyD d2) fun k => Q ((lookD ds k).getD .none) .f e2 := by
  unfold wx xGet1
  cases f e with
  | none => exact Iff.rfl
  | some q =>
    rw [show q = (q.1, q.2.1, q.2.2) from rfl, bnd_some]
    dsimp only
    cases g q.2.2 with
    | none => exact Iff.rfl
    | some r =>
      rw [show r = (r.1, r.2.1, r.2.2) from rfl, bnd_some]
      dsimp only
      cases q.1 with
      | dict ds => dsimp only [wdc]; cases keyD r.1 <;> exact Iff.rfl
      | _ => exact Iff.rfl
theorem wx_getL : wx (xGetL i g h) e Q ↔ w0d e[i]? fun _ => wx g e fun d2 _ e2 => wx h e2 fun d3 _ e3 => w0d e3[i]? fun ds => wq (keyD d2) fun k => Q ((lookD ds k).getD d3) .f e3 := by
  rw [w0d_key]
  unfold wx xGetL
  cases slotD e i with
  | none => exact Iff.rfl
  | some q =>
    obtain ⟨ds0, n0⟩ := q
    cases n0 with
    | succ n => exact Iff.rfl
    | zero =>
      dsimp only
      cases g e with
      | none => exact Iff.rfl
      | some r =>
        rw [show r = (r.1, r.2.1, r.2.2) from rfl, bnd_some]
        dsimp only
        cases h r.2.2 with
        | none => exact Iff.rfl
        | some t =>
          rw [show t = (t.1, t.2.1, t.2.2) from rfl, bnd_some]
          dsimp only
          rw [w0d_key]
          cases slotD t.2.2 i with
          | none => exact Iff.rfl
          | some u =>
            obtain ⟨ds, n⟩ := u
            cases n with
            | succ n => exact Iff.rfl
            | zero => cases keyD r.1 <;> exact Iff.rfl
def wG (s : Option Sl) (A B : Prop) : Prop := match s with
  | some (some (.dict _, .o 0)) => A
  | _ => B
theorem wG_d {ds : List (D × D)} {A B : Prop} : wG (some (some (.dict ds, .o 0))) A B ↔ A := Iff.rfl
theorem wG_f {d : D} {A B : Prop} : wG (some (some (d, .f))) A B ↔ B := by cases d <;> exact Iff.rfl
theorem wx_getO : wx (xGetO i g h) e Q ↔ wG e[i]? (wx (xGetL i g h) e Q) (wx (xGet2 (xUse i) g h) e Q) := by
  have k : ∀ (s : Option Sl), wx (fun e' => match s with | some (some (.dict _, .o 0)) => xGetL i g h e' | _ => xGet2 (xUse i) g h e') e Q ↔ wG s (wx (xGetL i g h) e Q) (wx (xGet2 (xUse i) g h) e Q) := fun s => by
    unfold wG
    split <;> exact Iff.rfl
  exact k e[i]?
theorem wx_lrg2 : wx (xLrg2 f g) e Q ↔ wx f e fun d1 _ e1 => wx g e1 fun d2 _ e2 => wint d1 fun i => wint d2 fun j => (-(2 ^ 62) ≤ i ∧ i < 2 ^ 62 ∧ -(2 ^ 62) ≤ j ∧ j < 2 ^ 62 ∧ (j - i).toNat ≤ 2 ^ 24) ∧ Q (.list (rangeD i (j - i).toNat)) (.o 0) e2 := by
  unfold wx xLrg2
  cases f e with
  | none => exact Iff.rfl
  | some q =>
    rw [show q = (q.1, q.2.1, q.2.2) from rfl, bnd_some]
    dsimp only
    cases g q.2.2 with
    | none => exact Iff.rfl
    | some r =>
      rw [show r = (r.1, r.2.1, r.2.2) from rfl, bnd_some]
      dsimp only
      cases q.1 with
      | int i =>
        cases r.1 with
        | int j =>
          dsimp only [wint]
          by_cases hc : -(2 ^ 62) ≤ i ∧ i < 2 ^ 62 ∧ -(2 ^ 62) ≤ j ∧ j < 2 ^ 62 ∧ (j - i).toNat ≤ 2 ^ 24
          · rw [if_pos hc]; exact ⟨fun z => ⟨hc, z⟩, fun z => z.2⟩
          · rw [if_neg hc]; exact ⟨fun z => z.elim, fun z => hc z.1⟩
        | _ => exact Iff.rfl
      | _ => exact Iff.rfl
theorem wx_lrg1 : wx (xLrg1 g) e Q ↔ wx g e fun d2 _ e2 => wint d2 fun j => (-(2 ^ 62) ≤ j ∧ j < 2 ^ 62 ∧ j.toNat ≤ 2 ^ 24) ∧ Q (.list (rangeD 0 j.toNat)) (.o 0) e2 := by
  unfold wx xLrg1
  cases g e with
  | none => exact Iff.rfl
  | some r =>
    rw [show r = (r.1, r.2.1, r.2.2) from rfl, bnd_some]
    dsimp only
    cases r.1 with
    | int j =>
      dsimp only [wint]
      by_cases hc : -(2 ^ 62) ≤ j ∧ j < 2 ^ 62 ∧ j.toNat ≤ 2 ^ 24
      · rw [if_pos hc]; exact ⟨fun z => ⟨hc, z⟩, fun z => z.2⟩
      · rw [if_neg hc]; exact ⟨fun z => z.elim, fun z => hc z.1⟩
    | _ => exact Iff.rfl
theorem ws_par3 {j l : Nat} : ws (sPar3 i j l f g h) e Z ↔ wx f e fun d1 o1 e1 => wx g e1 fun d2 o2 e2 => wx h e2 fun d3 o3 e3 => (i < e3.length ∧ j < e3.length ∧ l < e3.length) ∧ Z .nx (((e3.set i (some (d1, o1))).set j (some (d2, o2))).set l (some (d3, o3))) := by
  unfold ws sPar3 wx
  cases f e with
  | none => exact Iff.rfl
  | some q =>
    dsimp only
    cases g q.2.2 with
    | none => exact Iff.rfl
    | some r =>
      dsimp only
      cases h r.2.2 with
      | none => exact Iff.rfl
      | some t =>
        dsimp only
        by_cases hc : i < t.2.2.length ∧ j < t.2.2.length ∧ l < t.2.2.length
        · rw [if_pos hc]; exact ⟨fun z => ⟨hc, z⟩, fun z => z.2⟩
        · rw [if_neg hc]; exact ⟨fun z => z.elim, fun z => hc z.1⟩
def wd (vs : List Nat) (g : Gx) (c : Tx) (fk fv : Ex) (ds : List D) (acc : List (D × D)) (e : En) (P : List (D × D) → En → Prop) : Prop := match loopK vs g c fk fv ds acc e with
  | some (acc, e1) => P acc e1
  | none => False
theorem wx_dc {it : Ix} {vs : List Nat} {g : Gx} {fk fv : Ex} : wx (xDc it vs g c fk fv) e Q ↔ wi it e fun ds e1 => calmE e1 vs = true ∧ wd vs g c fk fv ds [] (wipeE e1 vs) fun acc e2 => Q (.dict acc) (.o 0) (backE e1 e2 vs) := by
  unfold wx wi wd xDc
  cases it e with
  | none => exact Iff.rfl
  | some q =>
    dsimp only
    by_cases h : calmE q.2 vs = true
    · rw [if_pos h]
      cases loopK vs g c fk fv q.1 [] (wipeE q.2 vs) <;> exact ⟨fun z => ⟨h, z⟩, fun z => z.2⟩
    · rw [if_neg h]; exact ⟨fun z => z.elim, fun z => h z.1⟩
theorem wx_dcD {view : List (D × D) → List D} {vs : List Nat} {g : Gx} {fk fv : Ex} : wx (xDcD i view vs g c fk fv) e Q ↔ wx (xUse i) e fun d _ e1 => wdc d fun ds => calmE e1 vs = true ∧ wd vs g c fk fv (view ds) [] (wipeE e1 vs) fun acc e2 => Q (.dict acc) (.o 0) (backE e1 e2 vs) := by
  unfold wx wd xDcD
  cases xUse i e with
  | none => exact Iff.rfl
  | some q =>
    rw [show q = (q.1, q.2.1, q.2.2) from rfl]
    dsimp only
    cases q.1 with
    | dict ds =>
      dsimp only [wdc]
      by_cases h : calmE q.2.2 vs = true
      · rw [if_pos h]
        cases loopK vs g c fk fv (view ds) [] (wipeE q.2.2 vs) <;> exact ⟨fun z => ⟨h, z⟩, fun z => z.2⟩
      · rw [if_neg h]; exact ⟨fun z => z.elim, fun z => h z.1⟩
    | _ => exact Iff.rfl
theorem wd_nil {vs : List Nat} {g : Gx} {fk fv : Ex} {acc : List (D × D)} {P : List (D × D) → En → Prop} : wd vs g c fk fv [] acc e P ↔ P acc e := Iff.rfl
theorem wd_cons {vs : List Nat} {g : Gx} {fk fv : Ex} {d : D} {ds : List D} {acc : List (D × D)} {P : List (D × D) → En → Prop} : wd vs g c fk fv (d :: ds) acc e P ↔
    wg (g d e) fun e1 => wt c e1 fun b e2 => (b = true → wx fk e2 fun k _ e3 => wx fv e3 fun y _ e4 => wq (keyD k) fun key => acc.length < sizeLine ∧ wd vs g c fk fv ds (putD acc key y) (wipeE e4 vs) P) ∧ (b = false → wd vs g c fk fv ds acc (wipeE e2 vs) P) := by
  unfold wd wg wt wx
  rw [loopK]
  cases g d e with
  | none => exact Iff.rfl
  | some e1 =>
    dsimp only
    cases c e1 with
    | none => exact Iff.rfl
    | some q =>
      rw [show q = (q.1, q.2) from rfl]
      cases q.1 with
      | false => simp
      | true =>
        simp only [true_implies, Bool.true_eq_false, false_implies, and_true]
        cases fk q.2 with
        | none => exact Iff.rfl
        | some r =>
          rw [show r = (r.1, r.2.1, r.2.2) from rfl, bnd_some]
          dsimp only
          cases fv r.2.2 with
          | none => exact Iff.rfl
          | some t =>
            rw [show t = (t.1, t.2.1, t.2.2) from rfl, bnd_some]
            dsimp only
            cases keyD r.1 with
            | none => exact Iff.rfl
            | some key =>
              dsimp only [wq]
              by_cases h : acc.length < sizeLine
              · rw [if_pos h]; exact ⟨fun z => ⟨h, z⟩, fun z => z.2⟩
              · rw [if_neg h]; exact ⟨fun z => z.elim, fun z => h z.1⟩
/-- a dict comprehension by an invariant -/
theorem wd_inv {vs : List Nat} {g : Gx} {fk fv : Ex} {ds : List D} {acc : List (D × D)} {P : List (D × D) → En → Prop} (I : Nat → List (D × D) → En → Prop) (h0 : I 0 acc e)
    (step : ∀ k d acc e, ds[k]? = some d → I k acc e → wg (g d e) fun e1 => wt c e1 fun b e2 => (b = true → wx fk e2 fun y _ e3 => wx fv e3 fun z _ e4 => wq (keyD y) fun key => acc.length < sizeLine ∧ I (k + 1) (putD acc key z) (wipeE e4 vs)) ∧ (b = false → I (k + 1) acc (wipeE e2 vs)))
    (fin : ∀ acc e, I ds.length acc e → P acc e) : wd vs g c fk fv ds acc e P := by
  have gen : ∀ (rest : List D) (k : Nat) (acc : List (D × D)) (e : En), k + rest.length = ds.length → (∀ j, rest[j]? = ds[k + j]?) → I k acc e → wd vs g c fk fv rest acc e P := by
    intro rest
    induction rest with
    | nil => intro k acc e hl _ hi; rw [List.length_nil, Nat.add_zero] at hl; subst hl; exact fin acc e hi
    | cons d rest ih =>
      intro k acc e hl hr hi
      rw [wd_cons]
      have h1 : ds[k]? = some d := by have := hr 0; simpa using this.symm
      have nxt : ∀ acc e2, I (k + 1) acc e2 → wd vs g c fk fv rest acc e2 P := fun acc e2 => ih (k + 1) acc e2 (by rw [List.length_cons] at hl; omega) (fun j => by have := hr (j + 1); rw [List.getElem?_cons_succ] at this; rw [this]; congr 1; omega)
      refine wg_mono (step k d acc e h1 hi) fun e1 h => wt_mono h fun b e2 q => ⟨fun hb => wx_mono (q.1 hb) fun y o e3 z => wx_mono z fun y2 o2 e4 z2 => ?_, fun hb => nxt _ _ (q.2 hb)⟩
      cases hk : keyD y with
      | none => rw [hk] at z2; exact z2.elim
      | some key => rw [hk] at z2; exact ⟨z2.1, nxt _ _ z2.2⟩
  exact gen ds 0 acc e (by omega) (fun j => by rw [Nat.zero_add]) h0
/-! a slot lent -/
def wBr (s : Option Sl) (P : D → Nat → Prop) (B : Prop) : Prop := match s with
  | some (some (d, .o n)) => P d n
  | _ => B
theorem wBr_o {d : D} {P : D → Nat → Prop} {B : Prop} : wBr (some (some (d, .o n))) P B ↔ P d n := Iff.rfl
theorem wBr_f {d : D} {P : D → Nat → Prop} {B : Prop} : wBr (some (some (d, .f))) P B ↔ B := Iff.rfl
theorem wx_bor : wx (xBor i f) e Q ↔ wBr e[i]? (fun d0 n0 => lsOnly (n0 + 1) d0 = true ∧ wx f (e.set i (some (d0, .f))) fun d o e1 => (cleanV d o = true ∧ okE i e e1) ∧ Q d o (e1.set i (some (d0, .o n0)))) (wx f e Q) := by
  have k : ∀ (s : Option Sl), e[i]? = s → (wx (xBor i f) e Q ↔ wBr s (fun d0 n0 => lsOnly (n0 + 1) d0 = true ∧ wx f (e.set i (some (d0, .f))) fun d o e1 => (cleanV d o = true ∧ okE i e e1) ∧ Q d o (e1.set i (some (d0, .o n0)))) (wx f e Q)) := fun s hs => by
    unfold xBor wBr
    conv => lhs; unfold wx
    dsimp only
    rw [hs]
    match s with
    | some (some (d0, .o n0)) =>
      dsimp only
      by_cases hl : lsOnly (n0 + 1) d0 = true
      · rw [if_pos hl]
        unfold wx
        cases f (e.set i (some (d0, .f))) with
        | none => exact ⟨fun z => ⟨hl, z⟩, fun z => z.2⟩
        | some r =>
          dsimp only
          by_cases hc : cleanV r.1 r.2.1 = true ∧ okE i e r.2.2
          · rw [if_pos hc]; exact ⟨fun z => ⟨hl, hc, z⟩, fun z => z.2.2⟩
          · rw [if_neg hc]; exact ⟨fun z => z.elim, fun z => hc z.2.1⟩
      · rw [if_neg hl]; exact ⟨fun z => z.elim, fun z => hl z.1⟩
    | some (some (d0, .f)) => exact Iff.rfl
    | some none => exact Iff.rfl
    | none => exact Iff.rfl
  exact k _ rfl
theorem wokS_n {a : Sl} : okS a none ↔ True := Iff.rfl
theorem wokS_f {a : Sl} {d : D} : okS a (some (d, .f)) ↔ (a = some (d, .f) ∨ still d = true) := Iff.rfl
theorem wokS_o {a : Sl} {d : D} : okS a (some (d, .o n)) ↔ clean (n + 1) d = true := Iff.rfl
theorem wokT_n : okT [] [] ↔ True := Iff.rfl
theorem wokT_c {a b : Sl} {e e1 : En} : okT (a :: e) (b :: e1) ↔ okS a b ∧ okT e e1 := Iff.rfl
theorem wokE_0 {a b : Sl} {e e1 : En} : okE 0 (a :: e) (b :: e1) ↔ okT e e1 := Iff.rfl
theorem wokE_s {a b : Sl} {e e1 : En} {k : Nat} : okE (k + 1) (a :: e) (b :: e1) ↔ okS a b ∧ okE k e e1 := Iff.rfl
theorem wokE_1 {a b : Sl} {e e1 : En} : okE 1 (a :: e) (b :: e1) ↔ okS a b ∧ okE 0 e e1 := Iff.rfl
theorem wcl_f {d : D} : cleanV d .f = still d := rfl
theorem wcl_o {d : D} : cleanV d (.o n) = clean (n + 1) d := rfl
theorem wls_l {ds : List D} : lsOnly 1 (.list ds) = true ↔ True := by
  refine iff_of_true ?_ trivial
  show ds.all (lsOnly 0) = true
  rw [List.all_eq_true]; exact fun _ _ => rfl
theorem wls_d {ds : List (D × D)} : lsOnly 1 (.dict ds) = true ↔ True := by
  refine iff_of_true ?_ trivial
  show (ds.all fun p => lsOnly 0 p.2) = true
  rw [List.all_eq_true]; exact fun _ _ => rfl
theorem wx_lrgA : wx (xLrgA f g) e Q ↔ wx f e fun d1 _ e1 => wx g e1 fun d2 _ e2 => wint d1 fun i => wint d2 fun j => (j - i).toNat ≤ 2 ^ 24 ∧ Q (.list (rangeD i (j - i).toNat)) (.o 0) e2 := by
  unfold wx xLrgA
  cases f e with
  | none => exact Iff.rfl
  | some q =>
    rw [show q = (q.1, q.2.1, q.2.2) from rfl, bnd_some]
    dsimp only
    cases g q.2.2 with
    | none => exact Iff.rfl
    | some r =>
      rw [show r = (r.1, r.2.1, r.2.2) from rfl, bnd_some]
      dsimp only
      cases q.1 with
      | int i =>
        cases r.1 with
        | int j =>
          dsimp only [wint]
          by_cases hc : (j - i).toNat ≤ 2 ^ 24
          · rw [if_pos hc]; exact ⟨fun z => ⟨hc, z⟩, fun z => z.2⟩
          · rw [if_neg hc]; exact ⟨fun z => z.elim, fun z => hc z.1⟩
        | _ => exact Iff.rfl
      | _ => exact Iff.rfl
end
end Ev
/-! the operations, told by what follows -/
namespace Ev
open PySem PySem.Spec PyProof.Rows L2
section
variable {i j : Int} {x y : Str} {p q : Bool} {l r : List D} {d d1 d2 : D} {kv kw : List (D × D)} {P : D → Fg → Prop} {K1 : Key → Prop} {K2 : D → Prop} {view : List (D × D) → List D} {n : Nat} {M : D → Fg → List D → Prop} {lo hi : Option Int}
theorem o_add_int : wo (dAdd (.int i) (.int j)) P ↔ P (.int (i + j)) .f := Iff.rfl
theorem o_add_str : wo (dAdd (.str x) (.str y)) P ↔ x.length + y.length ≤ sizeLine ∧ P (.str (x ++ y)) .f := wo_if
theorem o_add_list : wo (dAdd (.list l) (.list r)) P ↔ l.length + r.length ≤ sizeLine ∧ P (.list (l ++ r)) (.o 0) := wo_if
theorem o_sub_int : wo (dSub (.int i) (.int j)) P ↔ P (.int (i - j)) .f := Iff.rfl
theorem o_mul_int : wo (dMul (.int i) (.int j)) P ↔ mulOk i j ∧ P (.int (i * j)) .f := by classical exact wo_if
theorem o_div_int : wo (dDiv (.int i) (.int j)) P ↔ divOk j ∧ P (.int (i / j)) .f := by classical exact wo_if
theorem o_pow_int : wo (dPow (.int i) (.int j)) P ↔ powOk i j ∧ P (.int (i ^ j.toNat)) .f := by classical exact wo_if
theorem o_mod_int : wo (dMod (.int i) (.int j)) P ↔ 0 < j ∧ P (.int (i % j)) .f := wo_if
theorem o_neg_int : wo (dNeg (.int i)) P ↔ P (.int (-i)) .f := Iff.rfl
theorem o_lt_int : wo (dLt (.int i) (.int j)) P ↔ P (.bool (decide (i < j))) .f := Iff.rfl
theorem o_le_int : wo (dLe (.int i) (.int j)) P ↔ P (.bool (decide (i ≤ j))) .f := Iff.rfl
theorem o_gt_int : wo (dGt (.int i) (.int j)) P ↔ P (.bool (decide (j < i))) .f := Iff.rfl
theorem o_ge_int : wo (dGe (.int i) (.int j)) P ↔ P (.bool (decide (j ≤ i))) .f := Iff.rfl
theorem o_eq_int : wo (dEqA (.int i) (.int j)) P ↔ P (.bool (decide (i = j))) .f := Iff.rfl
theorem o_ne_int : wo (dNeA (.int i) (.int j)) P ↔ P (.bool (!decide (i = j))) .f := Iff.rfl
theorem o_eq_str : wo (dEqA (.str x) (.str y)) P ↔ P (.bool (decide (x = y))) .f := Iff.rfl
theorem o_ne_str : wo (dNeA (.str x) (.str y)) P ↔ P (.bool (!decide (x = y))) .f := Iff.rfl
theorem o_eq_bool : wo (dEqA (.bool p) (.bool q)) P ↔ P (.bool (decide (p = q))) .f := Iff.rfl
theorem o_ne_bool : wo (dNeA (.bool p) (.bool q)) P ↔ P (.bool (!decide (p = q))) .f := Iff.rfl
theorem o_eq_list : wo (dEqA (.list l) d) P ↔ (eqOk (.list l) = true ∧ eqOk d = true) ∧ P (.bool (PyData.eqv (.list l) d)) .f := wo_if
theorem o_ne_list : wo (dNeA (.list l) d) P ↔ (eqOk (.list l) = true ∧ eqOk d = true) ∧ P (.bool (!PyData.eqv (.list l) d)) .f := wo_if
theorem o_eq_tup : wo (dEqA (.tuple l) d) P ↔ (eqOk (.tuple l) = true ∧ eqOk d = true) ∧ P (.bool (PyData.eqv (.tuple l) d)) .f := wo_if
theorem o_ne_tup : wo (dNeA (.tuple l) d) P ↔ (eqOk (.tuple l) = true ∧ eqOk d = true) ∧ P (.bool (!PyData.eqv (.tuple l) d)) .f := wo_if
theorem o_isN_none : wo (dIsA .none .none) P ↔ P (.bool true) .f := Iff.rfl
theorem o_notN_none : wo (dNotA .none .none) P ↔ P (.bool false) .f := Iff.rfl
theorem o_isN_int : wo (dIsA (.int i) .none) P ↔ P (.bool false) .f := Iff.rfl
theorem o_notN_int : wo (dNotA (.int i) .none) P ↔ P (.bool true) .f := Iff.rfl
theorem o_isN_str : wo (dIsA (.str x) .none) P ↔ P (.bool false) .f := Iff.rfl
theorem o_notN_str : wo (dNotA (.str x) .none) P ↔ P (.bool true) .f := Iff.rfl
theorem o_isN_bool : wo (dIsA (.bool p) .none) P ↔ P (.bool false) .f := Iff.rfl
theorem o_notN_bool : wo (dNotA (.bool p) .none) P ↔ P (.bool true) .f := Iff.rfl
theorem o_isN_list : wo (dIsA (.list l) .none) P ↔ P (.bool false) .f := Iff.rfl
theorem o_notN_list : wo (dNotA (.list l) .none) P ↔ P (.bool true) .f := Iff.rfl
theorem o_isN_tup : wo (dIsA (.tuple l) .none) P ↔ P (.bool false) .f := Iff.rfl
theorem o_notN_tup : wo (dNotA (.tuple l) .none) P ↔ P (.bool true) .f := Iff.rfl
theorem o_isN_dict : wo (dIsA (.dict kv) .none) P ↔ P (.bool false) .f := Iff.rfl
theorem o_notN_dict : wo (dNotA (.dict kv) .none) P ↔ P (.bool true) .f := Iff.rfl
theorem o_ix_list : wo (dIxA (.list l) (.int i)) P ↔ wq (atI l i) fun d => P d .f := by unfold wo wq dIxA dIx; dsimp only; cases atI l i <;> exact Iff.rfl
theorem o_ix_tup : wo (dIxA (.tuple l) (.int i)) P ↔ wq (atI l i) fun d => P d .f := by unfold wo wq dIxA dIx; dsimp only; cases atI l i <;> exact Iff.rfl
theorem o_ix_str : wo (dIxA (.str x) (.int i)) P ↔ x.length ≤ sizeLine ∧ wq (atI x.cps.toList i) fun c => P (.str ⟨#[c]⟩) .f := by
  unfold wo wq dIxA dIx; dsimp only
  by_cases h : x.length ≤ sizeLine
  · rw [if_pos h]
    cases atI x.cps.toList i <;> exact ⟨fun z => ⟨h, z⟩, fun z => z.2⟩
  · rw [if_neg h]; exact ⟨fun z => z.elim, fun z => h z.1⟩
theorem o_ix_dict : wo (dIxA (.dict kv) d) P ↔ wq (keyD d) fun k => wq (lookD kv k) fun d => P d .f := by
  unfold wo wq dIxA dGet; dsimp only
  cases keyD d with
  | none => exact Iff.rfl
  | some k => dsimp only; cases lookD kv k <;> exact Iff.rfl
theorem o_in_str : wo (dInA (.str x) (.str y)) P ↔ sgn1 x = true ∧ P (.bool (decide (x.cps.getD 0 0 ∈ y.cps.toList))) .f := wo_if
theorem o_nin_str : wo (dNotInA (.str x) (.str y)) P ↔ sgn1 x = true ∧ P (.bool (!decide (x.cps.getD 0 0 ∈ y.cps.toList))) .f := wo_if
theorem o_in_list : wo (dInA d (.list l)) P ↔ (eqOk d = true ∧ eqOk (.list l) = true) ∧ P (.bool (l.any fun z => PyData.eqv z d)) .f := wo_if
theorem o_nin_list : wo (dNotInA d (.list l)) P ↔ (eqOk d = true ∧ eqOk (.list l) = true) ∧ P (.bool (!l.any fun z => PyData.eqv z d)) .f := wo_if
theorem o_in_dict : wo (dInA d (.dict kv)) P ↔ wq (keyD d) fun k => P (.bool (lookD kv k).isSome) .f := by unfold wo wq dInA dHas; dsimp only; cases keyD d <;> exact Iff.rfl
theorem o_nin_dict : wo (dNotInA d (.dict kv)) P ↔ wq (keyD d) fun k => P (.bool (!(lookD kv k).isSome)) .f := by unfold wo wq dNotInA dHasNot; dsimp only; cases keyD d <;> exact Iff.rfl
theorem o_is_bool : wo (dIsA (.bool p) (.bool q)) P ↔ P (.bool (decide (p = q))) .f := Iff.rfl
theorem o_not_bool : wo (dNotA (.bool p) (.bool q)) P ↔ P (.bool (!decide (p = q))) .f := Iff.rfl
theorem o_rev_list : wo (dRev (.list l)) P ↔ P (.list l.reverse) (.o 0) := Iff.rfl
theorem o_sumV_dict : wo (kSumV (.dict kv)) P ↔ wq (intsD (kv.map (·.2))) fun ns => P (.int ns.sum) .f := by unfold wo wq kSumV; dsimp only; cases intsD (kv.map (·.2)) <;> exact Iff.rfl
theorem o_key_int : wq (keyD (.int i)) K1 ↔ K1 (.inl i) := Iff.rfl
theorem o_key_str : wq (keyD (.str x)) K1 ↔ K1 (.inr x) := Iff.rfl
theorem o_len_list : wo (kLenA [.list l]) P ↔ P (.int l.length) .f := Iff.rfl
theorem o_len_tup : wo (kLenA [.tuple l]) P ↔ P (.int l.length) .f := Iff.rfl
theorem o_len_dict : wo (kLenA [.dict kv]) P ↔ P (.int kv.length) .f := Iff.rfl
theorem o_len_str : wo (kLenA [.str x]) P ↔ x.length ≤ sizeLine ∧ P (.int x.length) .f := wo_if
theorem o_abs_int : wo (kAbs [.int i]) P ↔ P (.int (if i < 0 then -i else i)) .f := Iff.rfl
theorem o_max2_int : wo (kMax2 [.int i, .int j]) P ↔ P (.int (if j > i then j else i)) .f := Iff.rfl
theorem o_min2_int : wo (kMin2 [.int i, .int j]) P ↔ P (.int (if j < i then j else i)) .f := Iff.rfl
theorem o_int_int : wo (kInt [.int i]) P ↔ P (.int i) .f := Iff.rfl
theorem o_int_bool : wo (kInt [.bool p]) P ↔ P (.int (if p then 1 else 0)) .f := Iff.rfl
theorem o_sum_list : wo (kSum [.list l]) P ↔ wq (intsD l) fun ns => P (.int ns.sum) .f := by unfold wo wq kSum; dsimp only; cases intsD l <;> exact Iff.rfl
theorem o_all_list : wo (kAll [.list l]) P ↔ wq (boolsD l) fun ns => P (.bool (ns.all id)) .f := by unfold wo wq kAll; dsimp only; cases boolsD l <;> exact Iff.rfl
theorem o_any_list : wo (kAny [.list l]) P ↔ wq (boolsD l) fun ns => P (.bool (ns.any id)) .f := by unfold wo wq kAny; dsimp only; cases boolsD l <;> exact Iff.rfl
theorem o_min1_list : wo (kMin1 [.list l]) P ↔ wq (intsD l) fun ns => ns ≠ [] ∧ P (.int (leastI (ns.headD 0) ns.tail)) .f := by
  unfold wo wq kMin1; dsimp only
  cases intsD l with
  | none => exact Iff.rfl
  | some ns => cases ns with
    | nil => exact ⟨fun z => z.elim, fun z => z.1 rfl⟩
    | cons a r => exact ⟨fun z => ⟨List.cons_ne_nil _ _, z⟩, fun z => z.2⟩
theorem o_max1_list : wo (kMax1 [.list l]) P ↔ wq (intsD l) fun ns => ns ≠ [] ∧ P (.int (mostI (ns.headD 0) ns.tail)) .f := by
  unfold wo wq kMax1; dsimp only
  cases intsD l with
  | none => exact Iff.rfl
  | some ns => cases ns with
    | nil => exact ⟨fun z => z.elim, fun z => z.1 rfl⟩
    | cons a r => exact ⟨fun z => ⟨List.cons_ne_nil _ _, z⟩, fun z => z.2⟩
theorem o_sorted_list : wo (kSorted [.list l]) P ↔ sortOk l = true ∧ P (.list (sortDs l)) (.o 0) := wo_if
theorem o_repr_one : wo (kRepr [d]) P ↔ reprOk d = true ∧ P (.str (reprD d)) .f := wo_if
theorem o_list_list : wo (kListA [.list l]) P ↔ P (.list l) (.o 0) := Iff.rfl
theorem o_list_tup : wo (kListA [.tuple l]) P ↔ P (.list l) (.o 0) := Iff.rfl
theorem o_list_str : wo (kListA [.str x]) P ↔ x.cps.size ≤ sizeLine ∧ P (.list (strD x)) (.o 0) := wo_if
theorem o_list_dict : wo (kListA [.dict kv]) P ↔ P (.list (vKeys kv)) (.o 0) := Iff.rfl
theorem o_tup_list : wo (kTuple [.list l]) P ↔ P (.tuple l) .f := Iff.rfl
theorem o_tup_tup : wo (kTuple [.tuple l]) P ↔ P (.tuple l) .f := Iff.rfl
theorem o_vals_dict : wo (kVals view (.dict kv)) P ↔ P (.list (view kv)) (.o 0) := Iff.rfl
theorem o_dictP_list : wo (kDictP [.list l]) P ↔ wq (l.mapM pairD) fun kvs => wq (mergeD [] kvs) fun r => P (.dict r) (.o 0) := by
  unfold wo wq kDictP; dsimp only
  cases l.mapM pairD with
  | none => exact Iff.rfl
  | some kvs => dsimp only; cases mergeD [] kvs <;> exact Iff.rfl
theorem o_join_list : wo (tJoin (.str x) [.list l]) P ↔ wq (strsD l) fun ys => (ys.map (·.length)).sum + ys.length * x.length ≤ 16777216 ∧ P (.str (Txt.join x ys)) .f := by
  unfold wo wq tJoin; dsimp only
  cases strsD l with
  | none => exact Iff.rfl
  | some ys =>
    dsimp only
    by_cases h : (ys.map (·.length)).sum + ys.length * x.length ≤ 16777216
    · rw [if_pos h]; exact ⟨fun z => ⟨h, z⟩, fun z => z.2⟩
    · rw [if_neg h]; exact ⟨fun z => z.elim, fun z => h z.1⟩
theorem o_app_one : wm (mApp n [d] l) M ↔ (l.length < sizeLine ∧ (n = 0 ∨ still d = true)) ∧ M .none .f (l ++ [d]) := wm_if
theorem o_ext_one : wm (mExt n [.list r] l) M ↔ (l.length + r.length ≤ sizeLine ∧ (n = 0 ∨ r.all still = true)) ∧ M .none .f (l ++ r) := wm_if
theorem o_pop_none : wm (mPop n [] l) M ↔ wq l.getLast? fun d => M d (fgOf n) l.dropLast := by unfold wm wq mPop; dsimp only; cases l.getLast? <;> exact Iff.rfl
theorem o_popAt_one : wm (mPopAt n [.int i] l) M ↔ (0 ≤ i ∧ i < 2 ^ 62) ∧ wq l[i.toNat]? fun d => M d (fgOf n) (l.eraseIdx i.toNat) := by
  unfold wm wq mPopAt; dsimp only
  by_cases h : 0 ≤ i ∧ i < 2 ^ 62
  · rw [if_pos h]; cases l[i.toNat]? <;> exact ⟨fun z => ⟨h, z⟩, fun z => z.2⟩
  · rw [if_neg h]; exact ⟨fun z => z.elim, fun z => h z.1⟩
theorem o_clear_none : wm (mClear n [] l) M ↔ M .none .f [] := Iff.rfl
theorem o_addI_int : wo (dAddI (.int i) (.int j)) P ↔ P (.int (i + j)) .f := Iff.rfl
theorem o_addI_str : wo (dAddI (.str x) (.str y)) P ↔ x.length + y.length ≤ sizeLine ∧ P (.str (x ++ y)) .f := wo_if
theorem o_cut_list : wo (dCut (.list l) lo hi) P ↔ P (.list (Ev.cutD l lo hi)) (.o 0) := Iff.rfl
theorem o_cut_tup : wo (dCut (.tuple l) lo hi) P ↔ P (.tuple (Ev.cutD l lo hi)) .f := Iff.rfl
theorem o_cut_str : wo (dCut (.str x) lo hi) P ↔ x.length ≤ sizeLine ∧ P (.str (cutS x lo hi)) .f := wo_if
theorem o_sortedA_list : wo (kSortedA [.list l]) P ↔ sortOk l = true ∧ P (.list (sortDs l)) (.o 0) := wo_if
theorem o_sortedA_dict : wo (kSortedA [.dict kv]) P ↔ wq (strsD (vKeys kv)) fun ks => ks.length < 64 ∧ P (.list ((sortS ks).map .str)) (.o 0) := by
  unfold wo wq kSortedA; dsimp only
  cases strsD (vKeys kv) with
  | none => exact Iff.rfl
  | some ks =>
    dsimp only
    by_cases h : ks.length < 64
    · rw [if_pos h]; exact ⟨fun z => ⟨h, z⟩, fun z => z.2⟩
    · rw [if_neg h]; exact ⟨fun z => z.elim, fun z => h z.1⟩
theorem o_index_list : wo (tIndex (.list l) [d]) P ↔ (eqOk (.list l) = true ∧ eqOk d = true) ∧ wq (l.findIdx? fun z => PyData.eqv z d) fun j => P (.int (j : Nat)) .f := by
  unfold wo wq tIndex; dsimp only
  by_cases h : eqOk (.list l) = true ∧ eqOk d = true
  · rw [if_pos h]; cases l.findIdx? (fun z => PyData.eqv z d) <;> exact ⟨fun z => ⟨h, z⟩, fun z => z.2⟩
  · rw [if_neg h]; exact ⟨fun z => z.elim, fun z => h z.1⟩
theorem o_eqK_dict : wo (dEqK (.dict kv) (.dict kw)) P ↔ (okV kv = true ∧ okV kw = true) ∧ P (.bool (eqDD kv kw)) .f := wo_if
theorem o_neK_dict : wo (dNeK (.dict kv) (.dict kw)) P ↔ (okV kv = true ∧ okV kw = true) ∧ P (.bool (!eqDD kv kw)) .f := wo_if
theorem o_inK_dict : wo (dInK (.dict kv) (.list l)) P ↔ (okV kv = true ∧ l.all okDs = true) ∧ P (.bool (l.any (eqDs kv))) .f := wo_if
theorem o_mulR_list : wo (dMulR (.list l) (.int i)) P ↔ (0 ≤ i ∧ i ≤ 1000 ∧ l.length * i.toNat ≤ 100000) ∧ P (.list (List.replicate i.toNat l).flatten) (.o 0) := wo_if
theorem o_atI_00 : wq (atI (d :: l) 0) K2 ↔ K2 d := by unfold atI ixN; simp only [List.length_cons]; rw [if_pos (by decide), if_pos (by omega)]; exact Iff.rfl
theorem o_atI_01 : wq (atI (d :: d1 :: l) 1) K2 ↔ K2 d1 := by unfold atI ixN; simp only [List.length_cons]; rw [if_pos (by decide), if_pos (by omega)]; exact Iff.rfl
theorem o_atI_02 : wq (atI (d :: d1 :: d2 :: l) 2) K2 ↔ K2 d2 := by unfold atI ixN; simp only [List.length_cons]; rw [if_pos (by decide), if_pos (by omega)]; exact Iff.rfl
theorem scal_none : scalD .none = true := rfl
theorem still_none : still .none = true := rfl
theorem scal_int : scalD (.int i) = true := rfl
theorem still_int : still (.int i) = true := rfl
theorem scal_str : scalD (.str x) = true := rfl
theorem still_str : still (.str x) = true := rfl
theorem scal_bool : scalD (.bool p) = true := rfl
theorem still_bool : still (.bool p) = true := rfl
theorem ixN_10 : ixN 1 0 = some 0 := rfl
theorem ixN_20 : ixN 2 0 = some 0 := rfl
theorem ixN_21 : ixN 2 1 = some 1 := rfl
theorem ixN_30 : ixN 3 0 = some 0 := rfl
theorem ixN_31 : ixN 3 1 = some 1 := rfl
theorem ixN_32 : ixN 3 2 = some 2 := rfl
theorem ixN_40 : ixN 4 0 = some 0 := rfl
theorem ixN_41 : ixN 4 1 = some 1 := rfl
theorem ixN_42 : ixN 4 2 = some 2 := rfl
theorem ixN_43 : ixN 4 3 = some 3 := rfl
theorem ixN_50 : ixN 5 0 = some 0 := rfl
theorem ixN_51 : ixN 5 1 = some 1 := rfl
theorem ixN_52 : ixN 5 2 = some 2 := rfl
theorem ixN_53 : ixN 5 3 = some 3 := rfl
theorem ixN_54 : ixN 5 4 = some 4 := rfl
theorem mulOk_l (h : -18446744073709551616 < i) (h' : i < 18446744073709551616) : mulOk i j ↔ True := iff_of_true (.inl (by omega)) trivial
theorem mulOk_r (h : -18446744073709551616 < j) (h' : j < 18446744073709551616) : mulOk i j ↔ True := iff_of_true (.inr (.inl (by omega))) trivial
theorem divOk_l (h0 : 0 < j) (h : j < 18446744073709551616) : divOk j ↔ True := iff_of_true ⟨h0, Nat.lt_of_lt_of_le (show j.natAbs < 2 ^ 64 by omega) (Nat.pow_le_pow_right (by decide) (by decide))⟩ trivial
theorem lt_big {n : Nat} (h : n < 2 ^ 512) : n < big := Nat.lt_of_lt_of_le h (Nat.pow_le_pow_right (by decide) (by decide))
theorem powOk_l (h0 : 0 ≤ j) (h1 : j ≤ 1000) (h : -18446744073709551616 < i) (h' : i < 18446744073709551616) : powOk i j ↔ True := iff_of_true ⟨h0, h1, lt_big (Nat.lt_of_lt_of_le (show i.natAbs < 2 ^ 64 by omega) (Nat.pow_le_pow_right (by decide) (by decide)))⟩ trivial
section
variable {e eo : En} {a : Nat} {s : Sl} {as : List Ar} {f : Ex} {od : Option D} {ods : List (Option D)} {vs : List Nat}
theorem arEnv_io : arEnv (.io a :: as) (od :: ods) e = e.getD a none :: arEnv as ods e := by rw [arEnv]
theorem arEnv_ex : arEnv (.ex f :: as) (some d :: ods) e = some (d, .f) :: arEnv as ods e := by rw [arEnv]
theorem arEnv_nil : arEnv [] [] e = [] := rfl
theorem aO_io : arOut (.io a :: as) (s :: eo) e = arOut as eo (e.set a s) := by rw [arOut]
theorem aO_ex : arOut (.ex f :: as) (s :: eo) e = arOut as eo e := by rw [arOut]
theorem aO_nil : arOut [] eo e = e := by cases eo <;> rfl
theorem arIos_io : arIos (.io a :: as) = a :: arIos as := rfl
theorem arIos_ex : arIos (.ex f :: as) = arIos as := rfl
theorem arIos_nil : arIos [] = [] := rfl
theorem arLive_nil : arLive e [] = true ↔ True := iff_of_true rfl trivial
theorem arLive_cons : arLive e (a :: vs) = true ↔ (wq e[a]? fun s => s.isSome = true) ∧ arLive e vs = true := by
  unfold arLive wq
  rw [List.all_cons, Bool.and_eq_true]
  refine and_congr ?_ Iff.rfl
  cases e[a]? with
  | none => simp
  | some s => cases s <;> simp
def calmS (s : Option Sl) : Prop := match s with
  | some (some (_, .o _)) => False
  | _ => True
theorem calmS_f : calmS (some (some (d, .f))) ↔ True := Iff.rfl
theorem calmS_n : calmS (some none) ↔ True := Iff.rfl
theorem fzS_s {o : Fg} : fzS (some (d, o)) = some (d, .f) := rfl
theorem fzS_n : fzS none = none := rfl
theorem calmS_z : calmS (some (fzS s)) ↔ True := by
  refine iff_of_true ?_ trivial
  rcases s with _ | ⟨_, _⟩ <;> trivial
theorem okS_same {s : Sl} (h : calmS (some s)) : okS s s := by
  rcases s with _ | ⟨d, o⟩
  · trivial
  · cases o with
    | f => exact .inl rfl
    | o n => exact h.elim
theorem okS_z : okS (fzS s) (fzS s) ↔ True := by
  refine iff_of_true ?_ trivial
  rcases s with _ | ⟨_, _⟩
  · trivial
  · exact .inl rfl
theorem calmE_nil : calmE e [] = true ↔ True := iff_of_true rfl trivial
theorem calmE_cons : calmE e (a :: vs) = true ↔ calmS e[a]? ∧ calmE e vs = true := by
  unfold calmE calmS
  rw [List.all_cons, Bool.and_eq_true]
  refine and_congr ?_ Iff.rfl
  generalize e[a]? = s
  match s with
  | some (some (_, .o _)) => simp
  | some (some (_, .f)) => simp
  | some none => simp
  | none => simp
end
theorem isiT_int : isiT "int" = true := rfl
theorem isiB_int_none : isiB "int" .none = false := rfl
theorem isiB_int_int : isiB "int" (.int i) = true := rfl
theorem isiB_int_str : isiB "int" (.str x) = false := rfl
theorem isiB_int_bool : isiB "int" (.bool p) = true := rfl
theorem isiB_int_list : isiB "int" (.list l) = false := rfl
theorem isiB_int_tuple : isiB "int" (.tuple l) = false := rfl
theorem isiB_int_dict : isiB "int" (.dict kv) = false := rfl
theorem isiT_bool : isiT "bool" = true := rfl
theorem isiB_bool_none : isiB "bool" .none = false := rfl
theorem isiB_bool_int : isiB "bool" (.int i) = false := rfl
theorem isiB_bool_str : isiB "bool" (.str x) = false := rfl
theorem isiB_bool_bool : isiB "bool" (.bool p) = true := rfl
theorem isiB_bool_list : isiB "bool" (.list l) = false := rfl
theorem isiB_bool_tuple : isiB "bool" (.tuple l) = false := rfl
theorem isiB_bool_dict : isiB "bool" (.dict kv) = false := rfl
theorem isiT_str : isiT "str" = true := rfl
theorem isiB_str_none : isiB "str" .none = false := rfl
theorem isiB_str_int : isiB "str" (.int i) = false := rfl
theorem isiB_str_str : isiB "str" (.str x) = true := rfl
theorem isiB_str_bool : isiB "str" (.bool p) = false := rfl
theorem isiB_str_list : isiB "str" (.list l) = false := rfl
theorem isiB_str_tuple : isiB "str" (.tuple l) = false := rfl
theorem isiB_str_dict : isiB "str" (.dict kv) = false := rfl
theorem isiT_list : isiT "list" = true := rfl
theorem isiB_list_none : isiB "list" .none = false := rfl
theorem isiB_list_int : isiB "list" (.int i) = false := rfl
theorem isiB_list_str : isiB "list" (.str x) = false := rfl
theorem isiB_list_bool : isiB "list" (.bool p) = false := rfl
theorem isiB_list_list : isiB "list" (.list l) = true := rfl
theorem isiB_list_tuple : isiB "list" (.tuple l) = false := rfl
theorem isiB_list_dict : isiB "list" (.dict kv) = false := rfl
theorem isiT_tuple : isiT "tuple" = true := rfl
theorem isiB_tuple_none : isiB "tuple" .none = false := rfl
theorem isiB_tuple_int : isiB "tuple" (.int i) = false := rfl
theorem isiB_tuple_str : isiB "tuple" (.str x) = false := rfl
theorem isiB_tuple_bool : isiB "tuple" (.bool p) = false := rfl
theorem isiB_tuple_list : isiB "tuple" (.list l) = false := rfl
theorem isiB_tuple_tuple : isiB "tuple" (.tuple l) = true := rfl
theorem isiB_tuple_dict : isiB "tuple" (.dict kv) = false := rfl
theorem isiT_dict : isiT "dict" = true := rfl
theorem isiB_dict_none : isiB "dict" .none = false := rfl
theorem isiB_dict_int : isiB "dict" (.int i) = false := rfl
theorem isiB_dict_str : isiB "dict" (.str x) = false := rfl
theorem isiB_dict_bool : isiB "dict" (.bool p) = false := rfl
theorem isiB_dict_list : isiB "dict" (.list l) = false := rfl
theorem isiB_dict_tuple : isiB "dict" (.tuple l) = false := rfl
theorem isiB_dict_dict : isiB "dict" (.dict kv) = true := rfl
theorem isKind_str : isKind "str" (.str x) = true := rfl
theorem isKind_int : isKind "int" (.int i) = true := rfl
theorem isKind_list : isKind "list" (.list l) = true := rfl
theorem ixN_zero {n : Nat} : ixN (n + 1) 0 = some 0 := by
  unfold ixN; rw [if_pos (by decide), if_pos (by omega)]; rfl
theorem cast_0 : ((0 : Nat) : Int) = 0 := rfl
theorem cast_1 : ((1 : Nat) : Int) = 1 := rfl
theorem cast_2 : ((2 : Nat) : Int) = 2 := rfl
theorem cast_3 : ((3 : Nat) : Int) = 3 := rfl
theorem cast_4 : ((4 : Nat) : Int) = 4 := rfl
theorem cast_5 : ((5 : Nat) : Int) = 5 := rfl
theorem cast_6 : ((6 : Nat) : Int) = 6 := rfl
theorem cast_7 : ((7 : Nat) : Int) = 7 := rfl
theorem cast_8 : ((8 : Nat) : Int) = 8 := rfl
theorem cast_9 : ((9 : Nat) : Int) = 9 := rfl
theorem cast_10 : ((10 : Nat) : Int) = 10 := rfl
theorem cast_11 : ((11 : Nat) : Int) = 11 := rfl
theorem cast_12 : ((12 : Nat) : Int) = 12 := rfl
theorem fits_f0 : fits 0 d .f = true := rfl
end
end Ev
/-! data: what may be compared -/
namespace Ev
open PySem PySem.Spec PyProof.Rows L2
def lay (k : Nat) (d : D) : Prop := d.canLay0 = true ∧ d.depth ≤ k
theorem lay.mono {k m : Nat} {d : D} (h : lay k d) (hk : k ≤ m) : lay m d := ⟨h.1, Nat.le_trans h.2 hk⟩
theorem lay_int {k : Nat} {i : Int} : lay k (.int i) := ⟨rfl, Nat.zero_le _⟩
theorem lay_bool {k : Nat} {i : Bool} : lay k (.bool i) := ⟨rfl, Nat.zero_le _⟩
theorem lay_none {k : Nat} : lay k .none := ⟨rfl, Nat.zero_le _⟩
theorem lay_str {k : Nat} {x : Str} (h : (PyData.str x).canLay0 = true) : lay k (.str x) := ⟨h, Nat.zero_le _⟩
theorem lay_chars {k : Nat} {x : Str} (h : ∀ c ∈ x.cps.toList, c < 1114112) : lay k (.str x) := lay_str (by
  show x.cps.all (· < 0x110000) = true
  rw [Array.all_eq_true']
  intro c hc
  exact decide_eq_true (h c (by simpa using hc)))
theorem lay_all {k : Nat} : ∀ {l : List D}, (∀ d ∈ l, lay k d) → PyData.canLayAll0 l = true ∧ PyData.depthAll l ≤ k
  | [], _ => ⟨rfl, Nat.zero_le _⟩
  | d :: l, h => by
    obtain ⟨h1, h2⟩ := lay_all (l := l) fun d hd => h d (List.mem_cons_of_mem _ hd)
    obtain ⟨h3, h4⟩ := h d List.mem_cons_self
    refine ⟨?_, ?_⟩
    · show (d.canLay0 && PyData.canLayAll0 l) = true
      rw [h3, h1]; rfl
    · show max d.depth (PyData.depthAll l) ≤ k
      omega
theorem lay_list {k : Nat} {l : List D} (h : ∀ d ∈ l, lay k d) : lay (k + 1) (.list l) := ⟨(lay_all h).1, Nat.succ_le_succ (lay_all h).2⟩
theorem lay_tup {k : Nat} {l : List D} (h : ∀ d ∈ l, lay k d) : lay (k + 1) (.tuple l) := ⟨(lay_all h).1, Nat.succ_le_succ (lay_all h).2⟩
theorem lay.eqOk {k : Nat} {d : D} (h : lay k d) (hk : k ≤ 64 := by decide) : eqOk d = true := by
  unfold Ev.eqOk SeqAt.shaped
  rw [h.1, PyData.hasDict_of_canLay _ h.1, decide_eq_true (Nat.le_trans h.2 hk)]
  rfl
theorem eqv_nil {l : List D} : PyData.eqv (.list l) (.list []) = l.isEmpty := by
  cases l <;> rfl
theorem perm_sum {l r : List Int} (h : l.Perm r) : l.sum = r.sum := by
  induction h with
  | nil => rfl
  | cons a _ ih => rw [List.sum_cons, List.sum_cons, ih]
  | swap a b l => simp only [List.sum_cons]; omega
  | trans _ _ h1 h2 => exact h1.trans h2
/-- a while loop by an invariant with a number that falls -/
theorem ws_whileN {c : Tx} {b : Sx} {e : En} {Z : Fl → En → Prop} (I : Nat → En → Prop) (n : Nat) (h0 : I n e)
    (step : ∀ n e, I n e → wt c e fun t e1 => (t = true → ws b e1 (turn (fun e2 => ∃ m, m < n ∧ I m e2) Z)) ∧ (t = false → Z .nx e1)) : ws (sWhile c b) e Z := by
  have gen : ∀ (k n : Nat) (e : En), n ≤ k → I n e → ∃ r, loopW c b (k + 1) e = some r ∧ Z r.1 r.2 := by
    intro k
    induction k with
    | zero =>
      intro n e hn hi
      have := step n e hi
      unfold wt at this
      split at this
      · rename_i t e1 hc
        cases t with
        | false => exact ⟨(.nx, e1), by unfold loopW; rw [hc], this.2 rfl⟩
        | true =>
          have q := this.1 rfl
          unfold ws at q
          split at q
          · rename_i fl e2 hb
            cases fl with
            | nx => obtain ⟨m, hm, _⟩ := q; omega
            | ct => obtain ⟨m, hm, _⟩ := q; omega
            | bk => exact ⟨(.nx, e2), by unfold loopW; rw [hc]; dsimp only; rw [hb], q⟩
            | rt d o => exact ⟨(.rt d o, e2), by unfold loopW; rw [hc]; dsimp only; rw [hb], q⟩
          · exact q.elim
      · exact this.elim
    | succ k ih =>
      intro n e hn hi
      have := step n e hi
      unfold wt at this
      split at this
      · rename_i t e1 hc
        cases t with
        | false => exact ⟨(.nx, e1), by unfold loopW; rw [hc], this.2 rfl⟩
        | true =>
          have q := this.1 rfl
          unfold ws at q
          split at q
          · rename_i fl e2 hb
            cases fl with
            | nx =>
              obtain ⟨m, hm, q⟩ := q
              obtain ⟨r, h1, h2⟩ := ih m e2 (by omega) q
              exact ⟨r, by unfold loopW; rw [hc]; dsimp only; rw [hb]; exact h1, h2⟩
            | ct =>
              obtain ⟨m, hm, q⟩ := q
              obtain ⟨r, h1, h2⟩ := ih m e2 (by omega) q
              exact ⟨r, by unfold loopW; rw [hc]; dsimp only; rw [hb]; exact h1, h2⟩
            | bk => exact ⟨(.nx, e2), by unfold loopW; rw [hc]; dsimp only; rw [hb], q⟩
            | rt d o => exact ⟨(.rt d o, e2), by unfold loopW; rw [hc]; dsimp only; rw [hb], q⟩
          · exact q.elim
      · exact this.elim
  obtain ⟨r, h1, h2⟩ := gen n n e (Nat.le_refl _) h0
  unfold ws
  rw [sWhile_eq h1]
  exact h2
end Ev
/-! data: what may be shown -/
namespace Ev
open PySem PySem.Spec PyProof.Rows L2
theorem textFrom_le : ∀ (ts : List Str) (k : Nat) (acc : Str), (textFrom k acc ts).length ≤ acc.length + (ts.map fun t => t.length + 2).sum
  | [], k, acc => by show acc.length ≤ _; simp
  | t :: r, k, acc => by
    rw [List.map_cons, List.sum_cons]
    unfold textFrom
    refine Nat.le_trans (textFrom_le r _ _) ?_
    have e2 : (", " : Str).length = 2 := by decide +kernel
    have e3 : ("" : Str).length = 0 := by decide +kernel
    split <;> simp only [strLen_append] <;> omega
theorem listText_le (ts : List Str) : (listText ts).length ≤ 2 + (ts.map fun t => t.length + 2).sum := by
  unfold listText
  rw [strLen_append]
  have h := textFrom_le ts 0 "["
  have e1 : ("[" : Str).length = 1 := by decide +kernel
  have e2 : ("]" : Str).length = 1 := by decide +kernel
  omega
theorem sum_plus (l : List Str) (c : Nat) : (l.map fun t => t.length + c).sum = (l.map (·.length)).sum + l.length * c := by
  induction l with
  | nil => simp
  | cons a l ih => rw [List.map_cons, List.map_cons, List.sum_cons, List.sum_cons, List.length_cons, ih, Nat.succ_mul]; omega
theorem sep_len : (", " : Str).length = 2 := by decide +kernel
theorem tupleText_le (ts : List Str) : (tupleText ts).length ≤ 3 + (ts.map fun t => t.length + 2).sum := by
  unfold tupleText
  rw [strLen_append, strLen_append]
  have h := StrLaws.join_length_le ", " ts
  rw [sep_len] at h
  rw [sum_plus]
  have e1 : ("(" : Str).length = 1 := by decide +kernel
  have e2 : (Str.ofString ",)").length = 2 := by decide +kernel
  have e3 : (Str.ofString ")").length = 1 := by decide +kernel
  split <;> omega
theorem dictText_le (ts : List Str) : (dictText ts).length ≤ 2 + (ts.map fun t => t.length + 2).sum := by
  unfold dictText
  rw [strLen_append, strLen_append]
  have h := StrLaws.join_length_le ", " ts
  rw [sep_len] at h
  rw [sum_plus]
  have e1 : ("{" : Str).length = 1 := by decide +kernel
  have e2 : ("}" : Str).length = 1 := by decide +kernel
  omega
def shw (k : Nat) (d : D) : Prop := d.showable = true ∧ d.shown.length ≤ k
theorem shw.mono {k m : Nat} {d : D} (h : shw k d) (hk : k ≤ m) : shw m d := ⟨h.1, Nat.le_trans h.2 hk⟩
theorem shw_int {i : Int} (h : i.natAbs.log2 < 1920) : shw 1921 (.int i) := ⟨decide_eq_true h, by
  show (Str.ofString (toString i)).length ≤ 1921
  have := int_text_length_le (a := i) (k := 1920) (by decide) h
  rw [PySem.ofString_length]
  exact this⟩
theorem shw_str {x : Str} (h : ∀ c ∈ x.cps.toList, c < 16 ^ 8) : shw (10 * x.length + 2) (.str x) := ⟨rfl, StrLaws.reprText_len x h⟩
theorem shw_bool {b : Bool} : shw 5 (.bool b) := ⟨rfl, by cases b <;> decide +kernel⟩
theorem shw_none : shw 4 .none := ⟨rfl, by decide +kernel⟩
theorem shw_all {k : Nat} : ∀ {l : List D}, (∀ d ∈ l, shw k d) → PyData.showableAll l = true ∧ ((PyData.shownAll l).map fun t => t.length + 2).sum ≤ l.length * (k + 2)
  | [], _ => ⟨rfl, Nat.zero_le _⟩
  | d :: l, h => by
    obtain ⟨h1, h2⟩ := shw_all (l := l) fun d hd => h d (List.mem_cons_of_mem _ hd)
    obtain ⟨h3, h4⟩ := h d List.mem_cons_self
    refine ⟨?_, ?_⟩
    · show (d.showable && PyData.showableAll l) = true
      rw [h3, h1]; rfl
    · show ((d.shown :: PyData.shownAll l).map fun t => t.length + 2).sum ≤ _
      rw [List.map_cons, List.sum_cons, List.length_cons, Nat.succ_mul]
      omega
theorem shw_list {k : Nat} {l : List D} (h : ∀ d ∈ l, shw k d) : shw (2 + l.length * (k + 2)) (.list l) := ⟨(shw_all h).1, Nat.le_trans (listText_le _) (Nat.add_le_add_left (shw_all h).2 _)⟩
theorem shw_tup {k : Nat} {l : List D} (h : ∀ d ∈ l, shw k d) : shw (3 + l.length * (k + 2)) (.tuple l) := ⟨(shw_all h).1, Nat.le_trans (tupleText_le _) (Nat.add_le_add_left (shw_all h).2 _)⟩
theorem shw_kv {k m : Nat} : ∀ {l : List (D × D)}, (∀ p ∈ l, shw k p.1 ∧ shw m p.2) → PyData.showableKv l = true ∧ ((PyData.shownKv l).map fun t => t.length + 2).sum ≤ l.length * (k + m + 4)
  | [], _ => ⟨rfl, Nat.zero_le _⟩
  | (a, b) :: l, h => by
    obtain ⟨h1, h2⟩ := shw_kv (l := l) fun d hd => h d (List.mem_cons_of_mem _ hd)
    obtain ⟨⟨h3, h4⟩, h5, h6⟩ := h (a, b) List.mem_cons_self
    refine ⟨?_, ?_⟩
    · show (a.showable && b.showable && PyData.showableKv l) = true
      rw [h3, h5, h1]; rfl
    · show (((a.shown ++ ": " ++ b.shown) :: PyData.shownKv l).map fun t => t.length + 2).sum ≤ _
      have e1 : (": " : Str).length = 2 := by decide +kernel
      rw [List.map_cons, List.sum_cons, List.length_cons, Nat.succ_mul, strLen_append, strLen_append]
      dsimp only at h4 h6
      omega
theorem shw_dict {k m : Nat} {l : List (D × D)} (h : ∀ p ∈ l, shw k p.1 ∧ shw m p.2) : shw (2 + l.length * (k + m + 4)) (.dict l) := ⟨(shw_kv h).1, Nat.le_trans (dictText_le _) (Nat.add_le_add_left (shw_kv h).2 _)⟩
theorem reprOk_list {k j : Nat} {l : List D} (h : shw k (.list l)) (hk : k ≤ sizeLine) (g : lay j (.list l)) (hj : j ≤ 60 := by decide) : reprOk (.list l) = true := by
  unfold reprOk
  rw [h.1, decide_eq_true (Nat.le_trans g.2 hj), decide_eq_true (Nat.le_trans h.2 hk)]
  rfl
theorem reprOk_tup {k j : Nat} {l : List D} (h : shw k (.tuple l)) (hk : k ≤ sizeLine) (g : lay j (.tuple l)) (hj : j ≤ 60 := by decide) : reprOk (.tuple l) = true := by
  unfold reprOk
  rw [h.1, decide_eq_true (Nat.le_trans g.2 hj), decide_eq_true (Nat.le_trans h.2 hk)]
  rfl
theorem reprOk_int {i : Int} (h : i.natAbs.log2 < 1920) : reprOk (.int i) = true := by
  have h1 := shw_int h
  unfold reprOk
  rw [h1.1, decide_eq_true (Nat.le_trans h1.2 (by decide))]
  dsimp only
  rw [decide_eq_true h]
  rfl
theorem depth_kv {j : Nat} : ∀ {l : List (D × D)}, (∀ p ∈ l, p.1.depth ≤ j ∧ p.2.depth ≤ j) → PyData.depthKv l ≤ j
  | [], _ => Nat.zero_le _
  | (a, b) :: l, h => by
    have h1 := depth_kv (l := l) fun p hp => h p (List.mem_cons_of_mem _ hp)
    have h2 := h (a, b) List.mem_cons_self
    show max (max a.depth b.depth) (PyData.depthKv l) ≤ j
    dsimp only at h2
    omega
theorem still_kv : ∀ {l : List (D × D)}, (∀ p ∈ l, still p.2 = true) → stillKV l = true
  | [], _ => rfl
  | (a, b) :: l, h => by
    show (still b && stillKV l) = true
    rw [h (a, b) List.mem_cons_self, still_kv fun p hp => h p (List.mem_cons_of_mem _ hp)]
    rfl
theorem reprOk_dict {k j : Nat} {l : List (D × D)} (h : shw k (.dict l)) (hk : k ≤ sizeLine) (hs : ∀ p ∈ l, still p.2 = true) (hd : ∀ p ∈ l, p.1.depth ≤ j ∧ p.2.depth ≤ j) (hj : j ≤ 59 := by decide) : reprOk (.dict l) = true := by
  unfold reprOk
  have h1 : (PyData.dict l).depth ≤ 60 := by
    show PyData.depthKv l + 1 ≤ 60
    have := depth_kv hd
    omega
  rw [h.1, decide_eq_true (Nat.le_trans h.2 hk), decide_eq_true h1]
  rfl
theorem log2_lt {n k : Nat} (h : n < 2 ^ k) (hk : 0 < k) : n.log2 < k := by
  rcases Nat.eq_zero_or_pos n with e | e
  · subst e; simpa using hk
  · exact (Nat.log2_lt (by omega)).mpr h
/-- what may be shown, with its size and depth -/
def rp (k j : Nat) (d : D) : Prop := shw k d ∧ d.depth ≤ j
theorem rp.mono {k j m n : Nat} {d : D} (h : rp k j d) (h1 : k ≤ m) (h2 : j ≤ n) : rp m n d := ⟨h.1.mono h1, Nat.le_trans h.2 h2⟩
theorem rp_int {j : Nat} {i : Int} (h : i.natAbs < 2 ^ 1900) : rp 1921 j (.int i) := ⟨shw_int (Nat.lt_trans (log2_lt h (by decide)) (by decide)), Nat.zero_le _⟩
theorem rp_str {j : Nat} {x : Str} (h : ∀ c ∈ x.cps.toList, c < 16 ^ 8) : rp (10 * x.length + 2) j (.str x) := ⟨shw_str h, Nat.zero_le _⟩
theorem rp_bool {j : Nat} {b : Bool} : rp 5 j (.bool b) := ⟨shw_bool, Nat.zero_le _⟩
theorem rp_none {j : Nat} : rp 4 j .none := ⟨shw_none, Nat.zero_le _⟩
theorem rp_dep {j : Nat} : ∀ {l : List D}, (∀ d ∈ l, d.depth ≤ j) → PyData.depthAll l ≤ j
  | [], _ => Nat.zero_le _
  | a :: l, h => by
    have h1 := rp_dep (l := l) fun p hp => h p (List.mem_cons_of_mem _ hp)
    have h2 := h a List.mem_cons_self
    show max a.depth (PyData.depthAll l) ≤ j
    omega
theorem rp_list {k j n : Nat} {l : List D} (h : ∀ d ∈ l, rp k j d) (hn : l.length ≤ n) : rp (2 + n * (k + 2)) (j + 1) (.list l) :=
  ⟨(shw_list fun d hd => (h d hd).1).mono (Nat.add_le_add_left (Nat.mul_le_mul_right _ hn) _), Nat.succ_le_succ (rp_dep fun d hd => (h d hd).2)⟩
theorem rp_tup {k j n : Nat} {l : List D} (h : ∀ d ∈ l, rp k j d) (hn : l.length ≤ n) : rp (3 + n * (k + 2)) (j + 1) (.tuple l) :=
  ⟨(shw_tup fun d hd => (h d hd).1).mono (Nat.add_le_add_left (Nat.mul_le_mul_right _ hn) _), Nat.succ_le_succ (rp_dep fun d hd => (h d hd).2)⟩
theorem rp_dict {k m j n : Nat} {l : List (D × D)} (h : ∀ p ∈ l, rp k j p.1 ∧ rp m j p.2) (hn : l.length ≤ n) : rp (2 + n * (k + m + 4)) (j + 1) (.dict l) :=
  ⟨(shw_dict fun p hp => ⟨(h p hp).1.1, (h p hp).2.1⟩).mono (Nat.add_le_add_left (Nat.mul_le_mul_right _ hn) _), Nat.succ_le_succ (depth_kv fun p hp => ⟨(h p hp).1.2, (h p hp).2.2⟩)⟩
theorem rp_cons {k j : Nat} {d : D} {l : List D} (h : rp k j d) (hl : ∀ x ∈ l, rp k j x) : ∀ x ∈ d :: l, rp k j x := fun x hx => by
  rcases List.mem_cons.mp hx with rfl | hx
  · exact h
  · exact hl x hx
theorem rp_nil {k j : Nat} : ∀ x ∈ ([] : List D), rp k j x := fun x hx => (by cases hx)
theorem rp.ok_list {k j : Nat} {l : List D} (h : rp k j (.list l)) (hk : k ≤ sizeLine) (hj : j ≤ 60 := by decide) : reprOk (.list l) = true := by
  unfold reprOk
  rw [h.1.1, decide_eq_true (Nat.le_trans h.2 hj), decide_eq_true (Nat.le_trans h.1.2 hk)]
  rfl
theorem rp.ok_tup {k j : Nat} {l : List D} (h : rp k j (.tuple l)) (hk : k ≤ sizeLine) (hj : j ≤ 60 := by decide) : reprOk (.tuple l) = true := by
  unfold reprOk
  rw [h.1.1, decide_eq_true (Nat.le_trans h.2 hj), decide_eq_true (Nat.le_trans h.1.2 hk)]
  rfl
theorem rp.ok_dict {k j : Nat} {l : List (D × D)} (h : rp k j (.dict l)) (hk : k ≤ sizeLine) (hj : j ≤ 60 := by decide) : reprOk (.dict l) = true := by
  unfold reprOk
  rw [h.1.1, decide_eq_true (Nat.le_trans h.2 hj), decide_eq_true (Nat.le_trans h.1.2 hk)]
  rfl
end Ev
/-! helpers for the mathematics -/
namespace Ev
open PySem PySem.Spec PyProof.Rows L2
/-- a comprehension without a test that changes nothing, its items told by place -/
theorem wc_idx {vs : List Nat} {g : Gx} {c : Tx} {f : Ex} {e : En} {ds : List D} {P : List D → En → Prop} (ys : List D) (hlen : ys.length = ds.length) (hl : ds.length ≤ sizeLine)
    (step : ∀ (k : Nat) (d y : D), ds[k]? = some d → ys[k]? = some y → wg (g d e) fun e1 => wt c e1 fun b e2 => b = true ∧ wx f e2 fun z _ e3 => z = y ∧ wipeE e3 vs = e) (fin : P ys e) : wc vs g c f ds [] e P := by
  refine wc_inv (fun k acc e' => acc = ys.take k ∧ e' = e) ⟨rfl, rfl⟩ ?_ ?_
  · rintro k d acc e' hk ⟨rfl, rfl⟩
    have hk1 := (List.getElem?_eq_some_iff.mp hk).1
    obtain ⟨y, hy⟩ : ∃ y, ys[k]? = some y := ⟨ys[k], List.getElem?_eq_getElem (by omega)⟩
    refine wg_mono (step k d y hk hy) fun e1 h => wt_mono h fun b e2 q => ⟨fun _ => wx_mono q.2 fun z o e3 w => ⟨by rw [List.length_take]; omega, ?_, w.2⟩, fun hb => ?_⟩
    · rw [List.take_succ, hy, w.1]; rfl
    · rw [q.1] at hb; cases hb
  · rintro acc e' ⟨rfl, rfl⟩
    rw [← hlen, List.take_length]
    exact fin
theorem lay.self {k : Nat} {d : D} (h : lay k d) : PyData.eqv d d = true := PySem.SeqAt.eqv_refl d h.1
end Ev
/-! ### dicts by their lookups -/
namespace Ev
open PySem PySem.Spec PyProof.Rows L2
theorem keyIs_inj {j k : Key} {d : D} (h1 : keyIs j d = true) (h2 : keyIs k d = true) : j = k := by
  cases j <;> cases k <;> cases d <;> simp [keyIs] at h1 h2 ⊢ <;> first | omega | (rw [← h1, ← h2])
theorem look_put {ds : List (D × D)} {k j : Key} {d : D} : lookD (putD ds k d) j = if j = k then some d else lookD ds j := by
  unfold putD
  split
  · rename_i h
    unfold lookD
    induction ds with
    | nil => simp at h
    | cons p ds ih =>
      rw [List.map_cons, List.find?_cons, List.find?_cons]
      by_cases hp : keyIs k p.1 = true
      · rw [if_pos hp]
        dsimp only
        by_cases e : j = k
        · subst e; rw [hp, if_pos rfl]; rfl
        · have hj : keyIs j p.1 = false := Bool.eq_false_iff.mpr fun q => e (keyIs_inj q hp)
          rw [hj, if_neg e]
          dsimp only
          clear ih h
          induction ds with
          | nil => rfl
          | cons q ds ih2 =>
            rw [List.map_cons, List.find?_cons, List.find?_cons]
            by_cases hq : keyIs k q.1 = true
            · have hj2 : keyIs j q.1 = false := Bool.eq_false_iff.mpr fun w => e (keyIs_inj w hq)
              rw [if_pos hq]
              dsimp only
              rw [hj2]
              exact ih2
            · rw [if_neg hq]
              cases keyIs j q.1 with
              | true => rfl
              | false => exact ih2
      · rw [if_neg hp]
        have h2 : (ds.any fun p => keyIs k p.1) = true := by
          rw [List.any_cons, Bool.or_eq_true] at h
          exact h.resolve_left hp
        cases hj : keyIs j p.1 with
        | true =>
          have e : j ≠ k := fun e => hp (e ▸ hj)
          rw [if_neg e]
        | false => exact ih h2
  · rename_i h
    unfold lookD
    rw [List.find?_append]
    by_cases e : j = k
    · subst e
      rw [if_pos rfl]
      have : ds.find? (fun p => keyIs j p.1) = none := List.find?_eq_none.mpr fun p hp q => h (List.any_eq_true.mpr ⟨p, hp, q⟩)
      rw [this, List.find?_cons]
      dsimp only
      rw [keyIs_kD, decide_eq_true rfl]
      rfl
    · rw [if_neg e, List.find?_cons]
      dsimp only
      rw [keyIs_kD, decide_eq_false fun q => e q.symm]
      cases ds.find? (fun p => keyIs j p.1) <;> rfl
theorem put_len {ds : List (D × D)} {k : Key} {d : D} : (putD ds k d).length ≤ ds.length + 1 := by
  unfold putD
  split
  · rw [List.length_map]; omega
  · rw [List.length_append]; exact Nat.le_refl _
end Ev
/-! x.items() of a dict just made -/
namespace Ev
open PySem PySem.Spec PyProof.Rows L2
section
variable {X : Cx} {e : Expr} {f : Ex} {apos cpos : Pos}
/-- what an expression gives is locked for good -/
def tLate (t : TE) : TE := fun σ H Q => t σ H fun v H' => ∃ p kvs, v = V.ref p ∧ H' p = some (.dK kvs) ∧ ∀ od, Q v (upd H' p (.frz od (.dK kvs)))
theorem pe_late {t : TE} (h : PE X e t) : PE X e (tLate t) := by
  refine ⟨fun pins s σ H Q I hw => ?_⟩
  refine thn (h.run pins s σ H _ I hw) fun v s1 ⟨x, H1, I2, r, p, kvs, ex, hp, q⟩ => ?_
  obtain ⟨od, I3⟩ := I2.lock hp trivial
  exact ⟨x, _, I3, r, q od⟩
def iItD (f : Ex) : Ix := fun e => match f e with
  | some (.dict ds, .o _, e1) => some (vItems ds, e1)
  | _ => none
theorem walk_itemsD {K : PySem.W.Frag} {p : Addr} {od : Obj} {kvs : List (Key × V)} {ds : List (D × D)} {F : Hp} (hp : F p = some (.frz od (.dK kvs))) (ha : FzKV K F kvs ds) : WalkD K (Iti p od kvs) F (vItems ds) := by
  have hl : (vItems ds).length = kvs.length := by unfold vItems; rw [List.length_map, ha.length]
  refine ⟨fun j H hj s => walk_items.goes j H (by rw [← hl]; exact hj) (s _ _ hp), fun H s => by rw [hl]; exact walk_items.stops H (s _ _ hp), fun j H x H' d F1 hd s1 s2 y => ?_⟩
  obtain ⟨T, x1, y1, rfl, hT, rfl, q1, q2⟩ := walk_items.yields j H x H' (by rw [← hl]; exact (List.getElem?_eq_some_iff.mp hd).1) (s2 _ _ (s1 _ _ hp)) y
  unfold vItems at hd
  rw [List.getElem?_map] at hd
  cases e1 : ds[j]? with
  | none => rw [e1] at hd; cases hd
  | some dd =>
    rw [e1] at hd
    cases hd
    obtain ⟨k', v', r1, r2, r3⟩ := fzKV_get ha e1
    dsimp only at q1 q2
    rw [r1] at q1 q2
    cases q1
    cases q2
    dsimp only
    rw [r2]
    exact pair_fresh s2 hT (fz_key k') (r3.mono s1)
theorem I.itemsE {elts : List Expr} {kk : Nat} {tpos : Pos} (he : E X e f) (hbase : attributeBase e "items" X.env (eval e X.env) = eval e X.env := by rfl) (hline : (apos.endLine == cpos.line) = true := by rfl) :
    I X (.Tuple elts kk tpos) (.Call (.Attribute e "items" apos) [] [] cpos) (iItD f) := pi_imp (pi_items (pe_late he) hbase hline) fun σ H R => by
  rintro ⟨F, en, A, ds, e', E0, hx, post⟩
  unfold iItD at hx
  split at hx
  · rename_i kvd n e1 h1
    cases hx
    refine ⟨F, en, A, _, _, e', E0, h1, fun v H' F' A' R E1 hv hn hd st => ?_⟩
    have hz := hv.fzc hn
    obtain ⟨p, rfl, hRp⟩ : ∃ p, v = .ref p ∧ R p ∧ ∃ kvs, H' p = some (.dK kvs) := by
      have hv' : Ow X.K F' H' (n + 1) v (.dict kvd) R := hv
      cases hv' with
      | sc _ hs => cases hs
      | dct hp _ _ => exact ⟨_, rfl, .inl rfl, _, hp⟩
    obtain ⟨hRp, kvs', hp'⟩ := hRp
    cases hz with
    | dct hr ha =>
      rename_i kvs
      have hF1 : cup F' R H' p = some (.dK kvs') := by rw [cup_in hRp, hp']
      have hk : kvs = kvs' := by
        rcases hr with hr | ⟨o, hr⟩
        · rw [hF1] at hr; cases hr; rfl
        · rw [hF1] at hr; cases hr
      subst hk
      refine ⟨p, kvs, rfl, hp', fun od => ⟨p, od, kvs, rfl, upd_same, ?_⟩⟩
      have E2 := E1.cup hn hd
      have E3 := E2.swap (u := .frz od (.dK kvs)) (by rw [hF1]; exact fun z => nomatch z) (fz_lock hF1)
      have hap : FzKV X.K (upd (cup F' R H') p (.frz od (.dK kvs))) kvs kvd := by
        have fk2 := fz_lock (K := X.K) (od := od) hF1 _ _ (Fz.dct (.inl hF1) ha)
        cases fk2 with
        | dct h1 h2 =>
          rcases h1 with h1 | ⟨o2, h1⟩
          · rw [upd_same] at h1; cases h1
          · rw [upd_same] at h1; cases h1; exact h2
      refine post (Iti p od kvs) _ _ _ E3 (walk_itemsD upd_same hap) ⟨fun a o z => ?_, fun a z => ?_, fun a h1 h2 h3 => ?_⟩
      · have q := st.ff a o z
        have np : a ≠ p := fun w => by
          rw [w, hn p hRp] at q; cases q
        rw [upd_ne np]
        exact cup_same hn a o q
      · by_cases w : a = p
        · rw [w, upd_same]; exact fun z => nomatch z
        · rw [upd_ne w]; exact st.keep a z
      · obtain ⟨q1, q2, q3⟩ := st.fr a h1 h2 h3
        have nR : ¬ R a := fun w => q3 (.inr w)
        have np : a ≠ p := fun w => nR (by rw [w]; exact hRp)
        rw [upd_ne np, upd_ne np, cup_out nR]
        exact ⟨q1, q2, fun w => q3 (.inl w)⟩
  · cases hx
def wOw (o : Fg) (A : Prop) : Prop := match o with
  | .o _ => A
  | .f => False
theorem wOw_o {n : Nat} {A : Prop} : wOw (.o n) A ↔ A := Iff.rfl
theorem wi_itD {e : En} {L : List D → En → Prop} : wi (iItD f) e L ↔ wx f e fun d o e1 => wOw o (wdc d fun ds => L (vItems ds) e1) := by
  unfold wi wx iItD
  cases f e with
  | none => exact Iff.rfl
  | some q =>
    obtain ⟨d, o, e1⟩ := q
    cases o with
    | f => cases d <;> exact Iff.rfl
    | o n => cases d <;> exact Iff.rfl
end
end Ev
/-! a dict of plain values is lent, what comes back holds no such dict -/
namespace Ev
open PySem PySem.Spec PyProof.Rows L2
mutual
def noDct : D → Bool
  | .list ds => noDctAll ds
  | .tuple ds => noDctAll ds
  | .dict _ => false
  | _ => true
def noDctAll : List D → Bool
  | [] => true
  | d :: ds => noDct d && noDctAll ds
end
def cleanD : Nat → D → Bool
  | 0, d => noDct d
  | n + 1, .list ds => ds.all (cleanD n)
  | n + 1, .tuple ds => ds.all (cleanD n)
  | n + 1, .dict kvs => kvs.all fun p => cleanD n p.2
  | _ + 1, _ => true
def dcOnly : Nat → D → Bool
  | 0, .dict _ => true
  | _, _ => false
mutual
theorem still_noDct : ∀ {d : D}, still d = true → noDct d = true
  | .none, _ => rfl
  | .bool _, _ => rfl
  | .int _, _ => rfl
  | .str _, _ => rfl
  | .list _, h => by cases h
  | .tuple ds, h => stillAll_noDct (ds := ds) h
  | .dict _, h => by cases h
theorem stillAll_noDct : ∀ {ds : List D}, stillAll ds = true → noDctAll ds = true
  | [], _ => rfl
  | d :: ds, h => by
    have h := (Bool.and_eq_true _ _).mp h
    show (noDct d && noDctAll ds) = true
    rw [still_noDct h.1, stillAll_noDct h.2]; rfl
end
section
variable {K : PySem.W.Frag} {F H : Hp} {B : Fp}
/-- only dicts stand at B -/
def DcAt (F : Hp) (B : Fp) : Prop := ∀ a, B a → ∀ u, F a = some u → ∃ kvs, u = .dK kvs
theorem sqT_offD {a : Addr} {xs : List V} (hB : DcAt F B) (h : SqT K F a xs) : SqT K (off F B) a xs := by
  rcases h with h | h
  · left
    have nb : ¬ B a := fun z => by
      rcases h with h | ⟨o, h⟩
      · obtain ⟨_, q⟩ := hB a z _ h; cases q
      · obtain ⟨_, q⟩ := hB a z _ h; cases q
    unfold Rd
    rw [off_out nb]
    exact h
  · exact .inr h
theorem sqL_offD {a : Addr} {xs : List V} (hB : DcAt F B) (h : SqL K F a xs) : SqL K (off F B) a xs := by
  rcases h with h | h
  · left
    have nb : ¬ B a := fun z => by
      rcases h with h | ⟨o, h⟩
      · obtain ⟨_, q⟩ := hB a z _ h; cases q
      · obtain ⟨_, q⟩ := hB a z _ h; cases q
    unfold Rd
    rw [off_out nb]
    exact h
  · exact .inr h
mutual
theorem fz_offD (hB : DcAt F B) : ∀ {v : V} {d : D}, Fz K F v d → noDct d = true → Fz K (off F B) v d
  | _, _, .non, _ => .non
  | _, _, .bl b, _ => .bl b
  | _, _, .int i, _ => .int i
  | _, _, .str x, _ => .str x
  | _, _, .lst h a, q => .lst (sqL_offD hB h) (fzAll_offD hB a q)
  | _, _, .tup h a, q => .tup (sqT_offD hB h) (fzAll_offD hB a q)
  | _, _, .dct _ _, h => by cases h
theorem fzAll_offD (hB : DcAt F B) : ∀ {v : List V} {d : List D}, FzAll K F v d → noDctAll d = true → FzAll K (off F B) v d
  | _, _, .nil, _ => .nil
  | _, _, .cons h a, q => .cons (fz_offD hB h ((Bool.and_eq_true _ _).mp q).1) (fzAll_offD hB a ((Bool.and_eq_true _ _).mp q).2)
end
mutual
theorem ow_offD (hB : DcAt F B) : ∀ {n : Nat} {v : V} {d : D} {R : Fp}, Ow K F H n v d R → cleanD n d = true → Ow K (off F B) H n v d R
  | _, _, _, _, .fz h, q => .fz (fz_offD hB h q)
  | _, _, _, _, .sc h s, _ => .sc (fz_offD hB h (still_noDct s)) s
  | _, _, _, _, .lst h a nb, q => .lst h (owAll_offD hB a q) nb
  | _, _, _, _, .tup h a nb, q => .tup h (owAll_offD hB a q) nb
  | _, _, _, _, .dct h a nb, q => .dct h (owKV_offD hB a q) nb
theorem owAll_offD (hB : DcAt F B) : ∀ {n : Nat} {v : List V} {d : List D} {R : Fp}, OwAll K F H n v d R → d.all (cleanD n) = true → OwAll K (off F B) H n v d R
  | _, _, _, _, .nil, _ => .nil
  | _, _, _, _, .cons h a nb, q => .cons (ow_offD hB h ((Bool.and_eq_true _ _).mp (List.all_cons ▸ q)).1) (owAll_offD hB a ((Bool.and_eq_true _ _).mp (List.all_cons ▸ q)).2) nb
theorem owKV_offD (hB : DcAt F B) : ∀ {n : Nat} {v : List (Key × V)} {d : List (D × D)} {R : Fp}, OwKV K F H n v d R → (d.all fun p => cleanD n p.2) = true → OwKV K (off F B) H n v d R
  | _, _, _, _, .nil, _ => .nil
  | _, _, _, _, .cons h a nb, q => .cons (ow_offD hB h ((Bool.and_eq_true _ _).mp (List.all_cons ▸ q)).1) (owKV_offD hB a ((Bool.and_eq_true _ _).mp (List.all_cons ▸ q)).2) nb
end
theorem ow0_no : ∀ {v : V} {d : D} {R : Fp}, Ow K F H 0 v d R → ∀ a, ¬ R a
  | _, _, _, .fz _, _, z => z.elim
  | _, _, _, .sc _ _, _, z => z.elim
theorem owKV0_no : ∀ {v : List (Key × V)} {d : List (D × D)} {R : Fp}, OwKV K F H 0 v d R → ∀ a, ¬ R a
  | _, _, _, .nil, _, z => z.elim
  | _, _, _, .cons h a _, b, z => z.elim (fun z => ow0_no h b z) (fun z => owKV0_no a b z)
theorem ow_dc {n : Nat} {v : V} {d : D} {R : Fp} (h : Ow K F H (n + 1) v d R) (hd : dcOnly n d = true) : DcAt H R := by
  cases n with
  | succ n => cases d <;> cases hd
  | zero =>
    cases h with
    | sc _ s => cases d with
      | dict _ => cases s
      | _ => cases hd
    | lst _ _ _ => cases hd
    | tup _ _ _ => cases hd
    | dct hp a _ =>
      intro b z u e
      rcases z with rfl | z
      · rw [hp] at e; cases e; exact ⟨_, rfl⟩
      · exact absurd z (owKV0_no a b)
end
def okSD (a b : Sl) : Prop := match b with
  | none => True
  | some (d, .f) => a = b ∨ noDct d = true
  | some (d, .o n) => cleanD (n + 1) d = true
def okTD : En → En → Prop
  | a :: e, b :: e1 => okSD a b ∧ okTD e e1
  | [], [] => True
  | _, _ => False
def okED : Nat → En → En → Prop
  | 0, _ :: e, _ :: e1 => okTD e e1
  | k + 1, a :: e, b :: e1 => okSD a b ∧ okED k e e1
  | _, _, _ => False
theorem okTD_get : ∀ {e e1 : En} {j : Nat} {b : Sl}, okTD e e1 → e1[j]? = some b → ∃ a, e[j]? = some a ∧ okSD a b
  | [], [], _, _, _, h => by cases h
  | a :: e, b :: e1, 0, _, q, h => by cases h; exact ⟨a, rfl, q.1⟩
  | a :: e, b :: e1, j + 1, _, q, h => okTD_get (e := e) (e1 := e1) (j := j) q.2 h
  | [], _ :: _, _, _, q, _ => q.elim
  | _ :: _, [], _, _, q, _ => q.elim
theorem okED_get : ∀ {i : Nat} {e e1 : En} {j : Nat} {b : Sl}, okED i e e1 → j ≠ i → e1[j]? = some b → ∃ a, e[j]? = some a ∧ okSD a b
  | 0, _ :: e, _ :: e1, 0, _, _, n, _ => absurd rfl n
  | 0, _ :: e, _ :: e1, j + 1, _, q, _, h => okTD_get (e := e) (e1 := e1) (j := j) q h
  | k + 1, a :: e, b :: e1, 0, _, q, _, h => by cases h; exact ⟨a, rfl, q.1⟩
  | k + 1, a :: e, b :: e1, j + 1, _, q, n, h => okED_get (i := k) (e := e) (e1 := e1) (j := j) q.2 (fun z => n (by rw [z])) h
  | 0, [], [], _, _, q, _, _ => q.elim
  | 0, [], _ :: _, _, _, q, _, _ => q.elim
  | 0, _ :: _, [], _, _, q, _, _ => q.elim
  | _ + 1, [], [], _, _, q, _, _ => q.elim
  | _ + 1, [], _ :: _, _, _, q, _, _ => q.elim
  | _ + 1, _ :: _, [], _, _, q, _, _ => q.elim
def cleanVD (d : D) : Fg → Bool
  | .f => noDct d
  | .o n => cleanD (n + 1) d
noncomputable def xBorD (i : Nat) (f : Ex) : Ex := fun e => match e[i]? with
  | some (some (d0, .o n0)) => if dcOnly n0 d0 = true then (match f (e.set i (some (d0, .f))) with
    | some (d, o, e1) => open Classical in if cleanVD d o = true ∧ okED i e e1 then some (d, o, e1.set i (some (d0, .o n0))) else none
    | none => none) else none
  | _ => f e
section
variable {X : Cx} {e : Expr} {f : Ex} {i : Nat}
theorem E.borD (hf : E X e f) : E X e (xBorD i f) := pe_imp (PE.or' hf hf) fun σ H Q => by
  rintro ⟨F, en, A, d, o, e', E0, hx, post⟩
  unfold xBorD at hx
  split at hx
  · rename_i d0 n0 h0
    left
    split at hx
    · rename_i hls
      split at hx
      · rename_i d1 o1 e1 h1
        split at hx
        · rename_i hc
          cases hx
          obtain ⟨hcv, hok⟩ := hc
          obtain ⟨v0, hσ, hv0⟩ := E0.at_ i d0 _ h0
          have hv0 : Ow X.K F H (n0 + 1) v0 d0 (A i) := hv0
          have hi := len_of h0
          have nB : ∀ a, A i a → F a = none := fun a z => E0.nf i a z
          refine ⟨_, _, _, d, o, e1, E0.freeze h0, h1, fun v H' F' A' R E2 hv hn hd st => ?_⟩
          have inF : ∀ a, A i a → F' a = H a := fun a z => by
            have t := E0.tr a ⟨i, z⟩
            cases q : H a with
            | none => exact absurd q t
            | some u => exact st.ff a u (by rw [cup_in z]; exact q)
          have kA : ∀ a, A i a → H' a = H a := fun a z => by
            have t := E0.tr a ⟨i, z⟩
            cases q : H a with
            | none => exact absurd q t
            | some u => exact E2.sub a u (by rw [inF a z]; exact q)
          have hLs : DcAt F' (A i) := fun a z u q => ow_dc hv0 hls a z u (by rw [← inF a z]; exact q)
          have kF : Same F (off F' (A i)) := fun a u q => by
            have nb : ¬ A i a := fun z => by rw [nB a z] at q; cases q
            rw [off_out nb]
            exact st.ff a u (cup_same nB a u q)
          have nA : ∀ j a, A' j a → ¬ A i a := fun j a z y => by
            have t := E0.tr a ⟨i, y⟩
            have := E2.nf j a z
            rw [inF a y] at this
            exact t this
          have E3 : EnvOk X.K (off F' (A i)) H' σ (e1.set i (some (d0, .o n0))) (fun j => if j = i then A i else A' j) := by
            have hlen : e1.length = en.length := by rw [E2.len, E0.len]
            refine ⟨by rw [List.length_set, E2.len], fun j dj oj hj => ?_, fun j hj a ha => ?_, fun j k a g1 g2 => ?_, fun j a g => ?_, fun a u q => ?_⟩
            · by_cases hji : j = i
              · subst hji
                rw [List.getElem?_set_self (by omega)] at hj
                cases hj
                exact ⟨v0, hσ, by rw [if_pos rfl]; exact Ow.mono kF kA hv0⟩
              · rw [List.getElem?_set_ne (Ne.symm hji)] at hj
                obtain ⟨w, q1, q2⟩ := E2.at_ j dj oj hj
                refine ⟨w, q1, ?_⟩
                rw [if_neg hji]
                obtain ⟨s, q3, q4⟩ := okED_get hok hji hj
                cases oj with
                | o n => exact ow_offD hLs q2 q4
                | f =>
                  refine ⟨?_, q2.2⟩
                  rcases q4 with q4 | q4
                  · rw [q4] at q3
                    obtain ⟨w2, q5, q6⟩ := E0.at_ j dj .f q3
                    rw [q1] at q5
                    cases q5
                    exact q6.1.mono kF
                  · exact fz_offD hLs q2.1 q4
            · by_cases hji : j = i
              · subst hji
                exact (hj d0 n0 (List.getElem?_set_self (by omega))).elim
              · rw [if_neg hji] at ha
                exact E2.un j (fun dj n z => hj dj n (by rw [List.getElem?_set_ne (Ne.symm hji)]; exact z)) a ha
            · by_cases hji : j = i
              · rw [if_pos hji] at g1
                by_cases hki : k = i
                · rw [hji, hki]
                · rw [if_neg hki] at g2; exact (nA k a g2 g1).elim
              · rw [if_neg hji] at g1
                by_cases hki : k = i
                · rw [if_pos hki] at g2; exact (nA j a g1 g2).elim
                · rw [if_neg hki] at g2; exact E2.dis j k a g1 g2
            · by_cases hji : j = i
              · rw [if_pos hji] at g; exact off_in g
              · rw [if_neg hji] at g; rw [off_out (nA j a g)]; exact E2.nf j a g
            · by_cases nb : A i a
              · rw [off_in nb] at q; cases q
              · rw [off_out nb] at q; exact E2.sub a u q
          have hR : ∀ a, R a → ¬ A i a := fun a z y => by
            have t := E0.tr a ⟨i, y⟩
            have := hn a z
            rw [inF a y] at this
            exact t this
          refine post v H' (off F' (A i)) _ R E3 ?_ (fun a z => by rw [off_out (hR a z)]; exact hn a z) (fun a z ⟨j, y⟩ => ?_) ⟨kF, st.keep, fun a g1 g2 g3 => ?_⟩
          · cases o with
            | o n => exact ow_offD hLs hv hcv
            | f => exact ⟨fz_offD hLs hv.1 hcv, hv.2⟩
          · dsimp only at y
            by_cases hji : j = i
            · rw [if_pos hji] at y; exact hR a z y
            · rw [if_neg hji] at y; exact hd a z ⟨j, y⟩
          · have nb : ¬ A i a := fun z => g3 ⟨i, z⟩
            obtain ⟨w1, w2, w3⟩ := st.fr a g1 (by rw [cup_out nb]; exact g2) (fun ⟨j, y⟩ => by
              dsimp only at y
              by_cases hji : j = i
              · rw [if_pos hji] at y; exact y
              · rw [if_neg hji] at y; exact g3 ⟨j, y⟩)
            refine ⟨w1, by rw [off_out nb]; exact w2, fun y => ?_⟩
            rcases y with ⟨j, y⟩ | y
            · have y : (if j = i then A i else A' j) a := y
              by_cases hji : j = i
              · rw [if_pos hji] at y; exact nb y
              · rw [if_neg hji] at y; exact w3 (.inl ⟨j, y⟩)
            · exact w3 (.inr y)
        · cases hx
      · cases hx
    · cases hx
  · right
    exact ⟨F, en, A, d, o, e', E0, hx, post⟩
end
/-- the same of a statement that goes through -/
def okM (ms : List Nat) (e1 : En) : Bool := ms.all fun j => match e1[j]? with
  | some (some (d, .f)) => noDct d
  | _ => true
noncomputable def sBorD (i : Nat) (ms : List Nat) (f : Sx) : Sx := fun e => match e[i]? with
  | some (some (d0, .o n0)) => if dcOnly n0 d0 = true then (match f (e.set i (some (d0, .f))) with
    | some (.nx, e1) => open Classical in if okM ms e1 = true ∧ okED i e e1 then some (.nx, e1.set i (some (d0, .o n0))) else none
    | _ => none) else none
  | _ => f e
section
variable {X : Cx} {st : Stmt} {f : Sx} {i : Nat} {ms mt : List Nat}
theorem S.borD (him : i ∉ mt) (hmt : ∀ j ∈ mt, j ∈ ms) (hf : S X mt st f) (hf2 : S X ms st f) : S X ms st (sBorD i mt f) := ps_imp (PS.or hf hf2) fun Dd σ H => by
  rintro ⟨F, en, A, fl, e', E0, hx, post⟩
  unfold sBorD at hx
  split at hx
  · rename_i d0 n0 h0
    left
    split at hx
    · rename_i hls
      split at hx
      · rename_i e1 h1
        split at hx
        · rename_i hc
          cases hx
          obtain ⟨hom, hok⟩ := hc
          obtain ⟨v0, hσ, hv0⟩ := E0.at_ i d0 _ h0
          have hv0 : Ow X.K F H (n0 + 1) v0 d0 (A i) := hv0
          have hi := len_of h0
          have nB : ∀ a, A i a → F a = none := fun a z => E0.nf i a z
          refine ⟨_, _, _, .nx, e1, E0.freeze h0, h1, fun σ' H' F' A' E2 mo st => ?_⟩
          have inF : ∀ a, A i a → F' a = H a := fun a z => by
            have t := E0.tr a ⟨i, z⟩
            cases q : H a with
            | none => exact absurd q t
            | some u => exact st.ff a u (by rw [cup_in z]; exact q)
          have kA : ∀ a, A i a → H' a = H a := fun a z => by
            have t := E0.tr a ⟨i, z⟩
            cases q : H a with
            | none => exact absurd q t
            | some u => exact E2.sub a u (by rw [inF a z]; exact q)
          have hLs : DcAt F' (A i) := fun a z u q => ow_dc hv0 hls a z u (by rw [← inF a z]; exact q)
          have kF : Same F (off F' (A i)) := fun a u q => by
            have nb : ¬ A i a := fun z => by rw [nB a z] at q; cases q
            rw [off_out nb]
            exact st.ff a u (cup_same nB a u q)
          have nA : ∀ j a, A' j a → ¬ A i a := fun j a z y => by
            have t := E0.tr a ⟨i, y⟩
            have := E2.nf j a z
            rw [inF a y] at this
            exact t this
          have E3 : EnvOk X.K (off F' (A i)) H' σ' (e1.set i (some (d0, .o n0))) (fun j => if j = i then A i else A' j) := by
            have hlen : e1.length = en.length := by rw [E2.len, E0.len, mo.1]
            refine ⟨by rw [List.length_set, E2.len], fun j dj oj hj => ?_, fun j hj a ha => ?_, fun j k a g1 g2 => ?_, fun j a g => ?_, fun a u q => ?_⟩
            · by_cases hji : j = i
              · subst hji
                rw [List.getElem?_set_self (by omega)] at hj
                cases hj
                exact ⟨v0, by rw [mo.2 _ him]; exact hσ, by rw [if_pos rfl]; exact Ow.mono kF kA hv0⟩
              · rw [List.getElem?_set_ne (Ne.symm hji)] at hj
                obtain ⟨w, q1, q2⟩ := E2.at_ j dj oj hj
                refine ⟨w, q1, ?_⟩
                rw [if_neg hji]
                obtain ⟨s, q3, q4⟩ := okED_get hok hji hj
                cases oj with
                | o n => exact ow_offD hLs q2 q4
                | f =>
                  refine ⟨?_, q2.2⟩
                  by_cases hjm : j ∈ mt
                  · have q5 := List.all_eq_true.mp hom j hjm
                    rw [hj] at q5
                    exact fz_offD hLs q2.1 q5
                  · rcases q4 with q4 | q4
                    · rw [q4] at q3
                      obtain ⟨w2, q5, q6⟩ := E0.at_ j dj .f q3
                      rw [mo.2 j hjm, q5] at q1
                      cases q1
                      exact q6.1.mono kF
                    · exact fz_offD hLs q2.1 q4
            · by_cases hji : j = i
              · subst hji
                exact (hj d0 n0 (List.getElem?_set_self (by omega))).elim
              · rw [if_neg hji] at ha
                exact E2.un j (fun dj n z => hj dj n (by rw [List.getElem?_set_ne (Ne.symm hji)]; exact z)) a ha
            · by_cases hji : j = i
              · rw [if_pos hji] at g1
                by_cases hki : k = i
                · rw [hji, hki]
                · rw [if_neg hki] at g2; exact (nA k a g2 g1).elim
              · rw [if_neg hji] at g1
                by_cases hki : k = i
                · rw [if_pos hki] at g2; exact (nA j a g1 g2).elim
                · rw [if_neg hki] at g2; exact E2.dis j k a g1 g2
            · by_cases hji : j = i
              · rw [if_pos hji] at g; exact off_in g
              · rw [if_neg hji] at g; rw [off_out (nA j a g)]; exact E2.nf j a g
            · by_cases nb : A i a
              · rw [off_in nb] at q; cases q
              · rw [off_out nb] at q; exact E2.sub a u q
          refine post σ' H' (off F' (A i)) _ E3 (mo.mono hmt) ⟨kF, st.keep, fun a g1 g2 g3 => ?_⟩
          have nb : ¬ A i a := fun z => g3 ⟨i, z⟩
          obtain ⟨w1, w2, w3⟩ := st.fr a g1 (by rw [cup_out nb]; exact g2) (fun ⟨j, y⟩ => by
            dsimp only at y
            by_cases hji : j = i
            · rw [if_pos hji] at y; exact y
            · rw [if_neg hji] at y; exact g3 ⟨j, y⟩)
          refine ⟨w1, by rw [off_out nb]; exact w2, fun ⟨j, y⟩ => ?_⟩
          have y : (if j = i then A i else A' j) a := y
          by_cases hji : j = i
          · rw [if_pos hji] at y; exact nb y
          · rw [if_neg hji] at y; exact w3 ⟨j, y⟩
        · cases hx
      · cases hx
    · cases hx
  · right
    exact ⟨F, en, A, fl, e', E0, hx, post⟩
end
section
variable {f : Ex} {a : Ax} {e : En} {i n : Nat} {Q : D → Fg → En → Prop}
theorem wx_tupO : wx (tupO n a) e Q ↔ wa a e fun ds e1 => ds.length ≤ sizeLine ∧ Q (.tuple ds) (.o n) e1 := by
  unfold wx wa tupO
  cases a e with
  | none => exact Iff.rfl
  | some q =>
    dsimp only
    by_cases h : q.1.length ≤ sizeLine
    · rw [if_pos h]; exact ⟨fun z => ⟨h, z⟩, fun z => z.2⟩
    · rw [if_neg h]; exact ⟨fun z => z.elim, fun z => h z.1⟩
theorem wx_borD : wx (xBorD i f) e Q ↔ wBr e[i]? (fun d0 n0 => dcOnly n0 d0 = true ∧ wx f (e.set i (some (d0, .f))) fun d o e1 => (cleanVD d o = true ∧ okED i e e1) ∧ Q d o (e1.set i (some (d0, .o n0)))) (wx f e Q) := by
  have k : ∀ (s : Option Sl), e[i]? = s → (wx (xBorD i f) e Q ↔ wBr s (fun d0 n0 => dcOnly n0 d0 = true ∧ wx f (e.set i (some (d0, .f))) fun d o e1 => (cleanVD d o = true ∧ okED i e e1) ∧ Q d o (e1.set i (some (d0, .o n0)))) (wx f e Q)) := fun s hs => by
    unfold xBorD wBr
    conv => lhs; unfold wx
    dsimp only
    rw [hs]
    match s with
    | some (some (d0, .o n0)) =>
      dsimp only
      by_cases hl : dcOnly n0 d0 = true
      · rw [if_pos hl]
        unfold wx
        cases f (e.set i (some (d0, .f))) with
        | none => exact ⟨fun z => ⟨hl, z⟩, fun z => z.2⟩
        | some r =>
          dsimp only
          by_cases hc : cleanVD r.1 r.2.1 = true ∧ okED i e r.2.2
          · rw [if_pos hc]; exact ⟨fun z => ⟨hl, hc, z⟩, fun z => z.2.2⟩
          · rw [if_neg hc]; exact ⟨fun z => z.elim, fun z => hc z.2.1⟩
      · rw [if_neg hl]; exact ⟨fun z => z.elim, fun z => hl z.1⟩
    | some (some (d0, .f)) => exact Iff.rfl
    | some none => exact Iff.rfl
    | none => exact Iff.rfl
  exact k _ rfl
def wNx (r : Option (Fl × En)) (P : En → Prop) : Prop := match r with
  | some (.nx, e1) => P e1
  | _ => False
theorem ws_borD {f : Sx} {ms : List Nat} {Z : Fl → En → Prop} : ws (sBorD i ms f) e Z ↔ wBr e[i]? (fun d0 n0 => dcOnly n0 d0 = true ∧ ws f (e.set i (some (d0, .f))) fun fl e1 => wnx fl ((okM ms e1 = true ∧ okED i e e1) ∧ Z .nx (e1.set i (some (d0, .o n0)))) fun _ => False) (ws f e Z) := by
  have k : ∀ (s : Option Sl), e[i]? = s → (ws (sBorD i ms f) e Z ↔ wBr s (fun d0 n0 => dcOnly n0 d0 = true ∧ ws f (e.set i (some (d0, .f))) fun fl e1 => wnx fl ((okM ms e1 = true ∧ okED i e e1) ∧ Z .nx (e1.set i (some (d0, .o n0)))) fun _ => False) (ws f e Z)) := fun s hs => by
    unfold sBorD wBr
    conv => lhs; unfold ws
    dsimp only
    rw [hs]
    match s with
    | some (some (d0, .o n0)) =>
      dsimp only
      by_cases hl : dcOnly n0 d0 = true
      · rw [if_pos hl]
        unfold ws wnx
        cases f (e.set i (some (d0, .f))) with
        | none => exact ⟨fun z => ⟨hl, z⟩, fun z => z.2⟩
        | some r =>
          obtain ⟨fl, e1⟩ := r
          cases fl with
          | nx =>
            dsimp only
            by_cases hc : okM ms e1 = true ∧ okED i e e1
            · rw [if_pos hc]; exact ⟨fun z => ⟨hl, hc, z⟩, fun z => z.2.2⟩
            · rw [if_neg hc]; exact ⟨fun z => z.elim, fun z => hc z.2.1⟩
          | _ => exact ⟨fun z => z.elim, fun z => z.2⟩
      · rw [if_neg hl]; exact ⟨fun z => z.elim, fun z => hl z.1⟩
    | some (some (d0, .f)) => exact Iff.rfl
    | some none => exact Iff.rfl
    | none => exact Iff.rfl
  exact k _ rfl
theorem wokSD_n {a : Sl} : okSD a none ↔ True := Iff.rfl
theorem wokSD_f {a : Sl} {d : D} : okSD a (some (d, .f)) ↔ (a = some (d, .f) ∨ noDct d = true) := Iff.rfl
theorem wokSD_o {a : Sl} {d : D} : okSD a (some (d, .o n)) ↔ cleanD (n + 1) d = true := Iff.rfl
theorem wokTD_n : okTD [] [] ↔ True := Iff.rfl
theorem wokTD_c {a b : Sl} {e e1 : En} : okTD (a :: e) (b :: e1) ↔ okSD a b ∧ okTD e e1 := Iff.rfl
theorem wokED_0 {a b : Sl} {e e1 : En} : okED 0 (a :: e) (b :: e1) ↔ okTD e e1 := Iff.rfl
theorem wokED_s {a b : Sl} {e e1 : En} {k : Nat} : okED (k + 1) (a :: e) (b :: e1) ↔ okSD a b ∧ okED k e e1 := Iff.rfl
theorem wclD_o {d : D} : cleanVD d (.o n) = cleanD (n + 1) d := rfl
theorem wdc_d {ds : List (D × D)} : dcOnly 0 (.dict ds) = true ↔ True := iff_of_true rfl trivial
/-- a slot that is as it was, or frozen -/
theorem okSD_same {s : Sl} (h : calmS (some s)) : okSD s s := by
  cases s with
  | none => trivial
  | some p =>
    obtain ⟨d, o⟩ := p
    cases o with
    | f => exact .inl rfl
    | o n => cases h
end
/-! ### dict(d): a copy, or of pairs -/
def kDictA : List D → Option (D × Fg)
  | [.dict ds] => some (.dict ds, .o 0)
  | l => kDictP l
def kDictD : List D → Option (D × Fg)
  | [.dict ds] => some (.dict ds, .o 0)
  | _ => none
def rDictD : List V → Hp → VK → Prop := fun xs H Q => ∃ (a : Addr) (kvs : List (Key × V)), xs = [.ref a] ∧ Rd H a (.dK kvs) ∧ ∀ p, H p = none → Q (.ref p) (upd H p (.dK kvs))
theorem cd_dictD {K : PySem.W.Frag} : CallD K rDictD kDictD := fun F H xs ds res o Q s hv he q => by
  unfold kDictD at he
  split at he
  · obtain ⟨x, rfl, h⟩ := hv.one
    cases he
    cases h with
    | dct hr ha =>
      refine ⟨_, _, rfl, rd_mono s hr, fun p hp => ?_⟩
      obtain ⟨z1, z2⟩ := And.intro (fresh_new (u := .dK _) s hp) (new_R (F := F) s hp)
      refine q _ _ F (fun a => a = p) ?_ z1 z2
      exact (Ow.dct upd_same (OwKV.of_fz ha) (fun z => z)).cast fun a => ⟨fun z => z.elim id fun y => y.elim, .inl⟩
  · cases he
theorem cr_dictA {X : Cx} (hc : X.calm = true) : CallR X (.type "dict") (fun xs H Q => rDictP X.K xs H Q ∨ rDictD xs H Q) := CallR.or (call_dictPR hc) call_dictD
theorem cd_dictA {K : PySem.W.Frag} : CallD K (fun xs H Q => rDictP K xs H Q ∨ rDictD xs H Q) kDictA := CallD.or (K := K) cd_dictP cd_dictD fun a r h => by
  unfold kDictA at h
  split at h
  · exact .inr h
  · exact .inl h
theorem o_dictA_dict {ds : List (D × D)} {P : D → Fg → Prop} : wo (kDictA [.dict ds]) P ↔ P (.dict ds) (.o 0) := Iff.rfl
theorem o_dictA_list {l : List D} {P : D → Fg → Prop} : wo (kDictA [.list l]) P ↔ wo (kDictP [.list l]) P := Iff.rfl
end Ev
/-! a call whose first argument is an expression's own value, which the callee may change -/
namespace Ev
open PySem PySem.Spec PyProof.Rows L2
def xAppO (m : Ex) (f : Ex) (as : List Ar) : Ex := fun e => match f e with
  | some (d, o, e1) => (match arE as e1 with
    | some (ds, e2) => if arIos as = [] then (match m (some (d, o) :: arEnv as ds e2) with
      | some (r, o', _) => some (r, o', e2)
      | none => none) else none
    | none => none)
  | none => none
def cArO (K : PySem.W.Frag) (f : Ex) (as : List Ar) : TA := fun σ H Q => ∃ (F : Hp) (en : En) (A : Nat → Fp) (d : D) (o : Fg) (e1 : En) (ds : List (Option D)) (e2 : En), EnvOk K F H σ en A ∧ f en = some (d, o, e1) ∧ arE as e1 = some (ds, e2) ∧ arIos as = [] ∧
  ∀ (x : V) (vs : List V) (H' F' : Hp) (A' : Nat → Fp) (R : Fp), EnvOk K F' H' σ e2 A' → VD K F' H' x d o R → (∀ a, R a → F' a = none) → (∀ a, R a → ¬ U A' a) → ArOk K F' σ as ds vs → Step F (U A) H F' (Fp.or (U A') R) H' → Q (x :: vs) H'
section
variable {X : Cx} {e : Expr} {es : List Expr} {f : Ex} {as : List Ar}
theorem vd_tr {K : PySem.W.Frag} {F H : Hp} {x : V} {d : D} {o : Fg} {R : Fp} (h : VD K F H x d o R) : ∀ a, R a → H a ≠ none := by
  cases o with
  | f => have := h.2; subst this; exact fun _ z => z.elim
  | o n => exact Ow.tr h
theorem arg_own (ha : E X e f) (hs : Arg X es as) (hst : starEach (e :: es) X.env = (false, eval e X.env) :: starEach es X.env := by rfl) : PA X (e :: es) (cArO X.K f as) := pa_imp (pa_cons ha hs hst) fun σ H Q => by
  rintro ⟨F, en, A, d, o, e1, ds, e2, E0, h1, hg, hi, post⟩
  refine ⟨F, en, A, d, o, e1, E0, h1, fun x H1 F1 A1 R1 E1 hv hn hd st1 => ?_⟩
  refine ⟨F1, e1, A1, ds, e2, E1, hg, by rw [hi]; rfl, fun vs H2 F2 A2 E2 hok st2 => ?_⟩
  have hh : ∀ a, R1 a → H2 a = H1 a ∧ F2 a = none ∧ ¬ U A2 a := fun a z => st2.fr a (vd_tr hv a z) (hn a z) (hd a z)
  refine post x vs H2 F2 A2 R1 E2 (hv.mono st2.ff fun a z => (hh a z).1) (fun a z => (hh a z).2.1) (fun a z => (hh a z).2.2) hok ⟨st1.ff.trans st2.ff, fun a z => st2.keep a (st1.keep a z), fun a g1 g2 g3 => ?_⟩
  obtain ⟨q1, q2, q3⟩ := st1.fr a g1 g2 g3
  obtain ⟨r1, r2, r3⟩ := st2.fr a (st1.keep a g1) q2 (fun z => q3 (.inl z))
  exact ⟨r1.trans q1, r2, fun z => z.elim r3 fun z => q3 (.inr z)⟩
end
section
variable {K : PySem.W.Frag} {F H : Hp} {σ : L2.St} {e : En} {A : Nat → Fp} {x : V} {d : D} {o : Fg} {R : Fp}
theorem EnvOk.front (E0 : EnvOk K F H σ e A) (hv : VD K F H x d o R) (hn : ∀ a, R a → F a = none) (hd : ∀ a, R a → ¬ U A a) : EnvOk K F H (some x :: σ) (some (d, o) :: e) (fun j => match j with | 0 => R | j + 1 => A j) := by
  refine ⟨by rw [List.length_cons, List.length_cons, E0.len], fun i d' o' h => ?_, fun i h a ha => ?_, fun i j a h1 h2 => ?_, fun i a ha => ?_, E0.sub⟩
  · cases i with
    | zero => cases h; exact ⟨x, rfl, hv⟩
    | succ i =>
      rw [List.getElem?_cons_succ] at h
      obtain ⟨v, q1, q2⟩ := E0.at_ i d' o' h
      exact ⟨v, by rw [List.getElem?_cons_succ]; exact q1, q2⟩
  · cases i with
    | zero =>
      cases o with
      | f => have := hv.2; subst this; exact ha
      | o n => exact h d n rfl
    | succ i => exact E0.un i (fun d' n z => h d' n (by rw [List.getElem?_cons_succ]; exact z)) a ha
  · cases i with
    | zero =>
      cases j with
      | zero => rfl
      | succ j => exact (hd a h1 ⟨j, h2⟩).elim
    | succ i =>
      cases j with
      | zero => exact (hd a h2 ⟨i, h1⟩).elim
      | succ j => rw [E0.dis i j a h1 h2]
  · cases i with
    | zero => exact hn a ha
    | succ i => exact E0.nf i a ha
end
section
variable {X : Cx} {k n : Nat} {x : Str} {m f : Ex} {as : List Ar} {e : Expr} {es : List Expr} {p pos : Pos}
theorem appO_imp {K : PySem.W.Frag} {E : XK} (hn : as.length + 1 = n) : ∀ σ H Q, cE K (xAppO m f as) σ H Q → tCall (spD K n m) [] E (cArO K f as) σ H Q := fun σ H Q => by
  rintro ⟨F, en, A, d, o, e', E0, hx, post⟩
  unfold xAppO at hx
  split at hx
  · rename_i d1 o1 e1 h1
    split at hx
    · rename_i ds e2 hg
      by_cases hi : arIos as = []
      · rw [if_pos hi] at hx
        split at hx
        · rename_i r o' eo hm
          cases hx
          refine ⟨F, en, A, d1, o1, e1, ds, e', E0, h1, hg, hi, fun w vs H1 F1 A1 R1 E1 hv hn1 hd1 hok st1 => ⟨by rw [List.append_nil, List.length_cons, hok.length]; exact hn, ?_⟩⟩
          rw [List.append_nil]
          have Ec := arEnv_ok E1 hok (by rw [hi]; exact List.nodup_nil) (by rw [hi]; rfl)
          have hno : ∀ j a, ¬ arFp A1 as j a := fun j a z => by
            obtain ⟨i, q, _⟩ := arFp_get z
            have := ios_get q
            rw [hi] at this
            cases this
          have Ef := Ec.front hv hn1 fun a z ⟨j, y⟩ => hno j a y
          refine ⟨F1, _, _, d, o, eo, Ef, hm, fun v H2 F2 A2 R E2 hv2 hn2 hd2 st2 => ?_⟩
          have out : ∀ a, U A1 a → H2 a = H1 a ∧ F2 a = none ∧ ¬ U A2 a ∧ ¬ R a := fun a z => by
            obtain ⟨i, z⟩ := z
            obtain ⟨q1, q2, q3⟩ := st2.fr a (E1.tr a ⟨i, z⟩) (E1.nf i a z) (fun ⟨j, y⟩ => by
              cases j with
              | zero => exact hd1 a y ⟨i, z⟩
              | succ j => exact hno j a y)
            exact ⟨q1, q2, fun y => q3 (.inl y), fun y => q3 (.inr y)⟩
          have E3 : EnvOk K F2 H2 σ e' A1 := ⟨E1.len, fun i d' o' h => by
            obtain ⟨v', q1, q2⟩ := E1.at_ i d' o' h
            exact ⟨v', q1, q2.mono st2.ff fun a z => (out a ⟨i, z⟩).1⟩, E1.un, E1.dis, fun i a z => (out a ⟨i, z⟩).2.1, E2.sub⟩
          refine post v H2 F2 A1 R E3 hv2 hn2 (fun a z y => (out a y).2.2.2 z) ⟨st1.ff.trans st2.ff, fun a z => st2.keep a (st1.keep a z), fun a g1 g2 g3 => ?_⟩
          obtain ⟨q1, q2, q3⟩ := st1.fr a g1 g2 g3
          obtain ⟨r1, r2, r3⟩ := st2.fr a (st1.keep a g1) q2 (fun ⟨j, y⟩ => by
            cases j with
            | zero => exact q3 (.inr y)
            | succ j => exact hno j a y)
          exact ⟨r1.trans q1, r2, fun z => z.elim (fun z => q3 (.inl z)) fun z => r3 (.inr z)⟩
        · cases hx
      · rw [if_neg hi] at hx; cases hx
    · cases hx
  · cases hx
theorem E.appO (D : Df X.prog X.w X.K X.mg X.base k x n m) (hgd : X.A.guards = some []) (hr : Room k X.A) (hg : Gl X x) (ha : E X e f) (hs : Arg X es as) (hn : as.length + 1 = n := by rfl)
    (hdb : (x == ("__debug__" : Str)) = false := by decide) (he : starEach (e :: es) X.env = (false, eval e X.env) :: starEach es X.env := by rfl) (hpl : (backTo pos (starEach es X.env)).any (·.1) = false := by rfl) :
    E X (.Call (.Name x p) (e :: es) [] pos) (xAppO m f as) := by
  obtain ⟨fa, fd, ps, h1, h2, h3, h4⟩ := D.ex
  exact pe_imp (pe_callG h1 hgd hr hg h2 h3 h4 .nil (arg_own ha hs he) hdb he hpl) (appO_imp hn)
end
section
variable {m f : Ex} {as : List Ar} {e : En} {Q : D → Fg → En → Prop}
theorem wx_appO : wx (xAppO m f as) e Q ↔ wx f e fun d o e1 => war as e1 fun ds e2 => arIos as = [] ∧ wx m (some (d, o) :: arEnv as ds e2) fun r o' _ => Q r o' e2 := by
  unfold wx war xAppO
  dsimp only
  cases f e with
  | none => exact Iff.rfl
  | some q =>
    obtain ⟨d, o, e1⟩ := q
    dsimp only
    cases arE as e1 with
    | none => exact Iff.rfl
    | some q =>
      obtain ⟨ds, e2⟩ := q
      dsimp only
      by_cases hi : arIos as = []
      · rw [if_pos hi]
        cases m (some (d, o) :: arEnv as ds e2) with
        | none => exact ⟨fun z => ⟨hi, z⟩, fun z => z.2⟩
        | some r => exact ⟨fun z => ⟨hi, z⟩, fun z => z.2⟩
      · rw [if_neg hi]; exact ⟨fun z => z.elim, fun z => hi z.1⟩
end
end Ev
namespace Ev
open PySem PySem.Spec PyProof.Rows L2
section
variable {K : PySem.W.Frag} {X : Cx} {F H : Hp} {pos : Pos}
/-! ### tuple + tuple -/
def dAddX : D → D → Option (D × Fg)
  | .tuple a, .tuple b => if a.length + b.length ≤ sizeLine then some (.tuple (a ++ b), .f) else none
  | a, b => dAdd a b
theorem op_addX : OpR X (binaryOp .Add) (fun x y H Q => rAddA X.K x y H Q ∨ rCatA X.K x y H Q) := op_addA.or op_catA
theorem od_addX : OpD K (fun x y H Q => rAddA K x y H Q ∨ rCatA K x y H Q) dAddX := fun F H x y d1 d2 res o Q s h1 h2 he q => by
  unfold dAddX at he
  split at he
  · rename_i a b
    split at he
    · rename_i hz
      cases he
      cases h1 with
      | @tup l xs _ hx ax =>
        cases h2 with
        | @tup r ys _ hy ay =>
          refine .inr ⟨_, _, _, _, rfl, rfl, sqT_mono s hx, sqT_mono s hy, by rw [ax.length, ay.length]; exact hz, fun e0 => ?_, fun _ e0 => ?_, fun _ _ p hp => ?_⟩
          · subst e0
            cases ax
            exact q _ H F Fp.no ⟨.tup hy ay, rfl⟩ (Fresh.refl s) no_fresh
          · subst e0
            cases ay
            rw [List.append_nil] at q
            exact q _ H F Fp.no ⟨.tup hx ax, rfl⟩ (Fresh.refl s) no_fresh
          · have fr := fresh_know (u := .tup (xs ++ ys)) s hp
            exact q _ _ _ Fp.no ⟨.tup (SqT.of upd_same) (FzAll.mono fr.ff (ax.append ay)), rfl⟩ fr (fun _ z => z.elim)
    · cases he
  · exact .inl (od_add F H x y d1 d2 res o Q s h1 h2 he q)
/-! ### str(int) -/
def kStrI : List D → Option (D × Fg)
  | [.int i] => if i.natAbs.log2 < 1920 then some (.str (toString i : String), .f) else none
  | _ => none
theorem cd_strI : CallD K (fun xs H Q => ∃ i : Int, xs = [.int i] ∧ i.natAbs.log2 < 1920 ∧ Q (.str (toString i : String)) H) kStrI := fun F H xs ds res o Q s hv he q => by
  unfold kStrI at he
  split at he
  · rename_i i
    cases hv with
    | cons h a =>
      cases a
      cases h
      split at he
      · rename_i hz
        cases he
        exact ⟨i, rfl, hz, q _ H F Fp.no vd_str (Fresh.refl s) no_fresh⟩
      · cases he
  · cases he
/-! ### xs[lo:hi:-1] -/
/-- the items of xs[lo:hi:-1] -/
def pickR {α : Type} (xs : List α) (lo hi : Option Int) : List α :=
  (sliceRange (sliceBounds lo hi (some (-1)) xs.length).1 (sliceBounds lo hi (some (-1)) xs.length).2.1 (-1)).filterMap (xs[·]?)
theorem vals_pick : ∀ {l : List Nat} {xs : List V} {us : List Value}, Vals xs us → Vals (l.filterMap (xs[·]?)) (l.filterMap (us[·]?))
  | [], _, _, _ => .nil
  | k :: l, xs, us, h => by
    have hl : xs.length = us.length := h.length
    rw [List.filterMap_cons, List.filterMap_cons]
    by_cases hk : k < xs.length
    · rw [List.getElem?_eq_getElem hk, List.getElem?_eq_getElem (show k < us.length by omega)]
      refine .cons ?_ (vals_pick h)
      obtain ⟨u, hu, r⟩ := h.get (List.getElem?_eq_getElem hk)
      rw [List.getElem?_eq_getElem (show k < us.length by omega)] at hu
      cases hu
      exact r
    · rw [List.getElem?_eq_none (by omega), List.getElem?_eq_none (by omega)]
      exact vals_pick h
theorem FzAll.pick : ∀ {l : List Nat} {xs : List V} {us : List D}, FzAll K F xs us → FzAll K F (l.filterMap (xs[·]?)) (l.filterMap (us[·]?))
  | [], _, _, _ => .nil
  | k :: l, xs, us, h => by
    have hl : xs.length = us.length := h.length
    rw [List.filterMap_cons, List.filterMap_cons]
    by_cases hk : k < us.length
    · obtain ⟨v, hv, r⟩ := h.get (List.getElem?_eq_getElem hk)
      rw [hv, List.getElem?_eq_getElem hk]
      exact .cons r (FzAll.pick h)
    · rw [List.getElem?_eq_none (by omega), List.getElem?_eq_none (by omega)]
      exact FzAll.pick h
def tSlR (K : PySem.W.Frag) (te : TE) (tl th : TO) : TE := fun σ H Q => te σ H fun x H1 => tl σ H1 fun l H2 => th σ H2 fun u H3 => ∃ a xs, x = .ref a ∧ SqL K H3 a xs ∧ ∀ p, H3 p = none → Q (.ref p) (upd H3 p (.lst (pickR xs l u)))
theorem pe_slR {e : Expr} {lo hi : Option Expr} {te : TE} {tl th : TO} {k : Nat} {p1 p2 p3 : Pos} (he : PE X e te) (hl : PO X lo tl) (hu : PO X hi th) :
    PE X (.Subscript e (.Slice lo hi (some (.UnaryOp .USub (.Constant (.int 1) k p1) p2)) p3) pos) (tSlR X.K te tl th) := by
  refine ⟨fun pins s σ H Q I h => ?_⟩
  refine Subscript_ (thn (he.run pins s σ H _ I h) fun v s1 ⟨x, H1, I1, r1, q1⟩ => ?_)
  have hst : PO X (some (.UnaryOp .USub (.Constant (.int 1) k p1) p2)) (tPart (tUn (rU fun i => .int (-i)) (tC (.int 1)))) := po_some (pe_un un_neg pe_int)
  refine wpAny_Slice (thn (hl.run pins s1 σ H1 _ I1 q1) fun vl s2 ⟨l, H2, I2, pl, q2⟩ => thn (hu.run pins s2 σ H2 _ I2 q2) fun vu s3 ⟨u, H3, I3, pu, q3⟩ => ?_)
  refine thn (hst.run pins s3 σ H3 (fun o H4 => o = some (-1) ∧ H4 = H3) I3 ⟨1, rfl, -1, rfl, rfl, rfl⟩) fun vs s4 ⟨o, H4, I4, ps, eo, e4⟩ => ?_
  subst eo e4
  obtain ⟨a, xs, ex, hx, q⟩ := q3
  subst ex
  cases r1
  have I5 : Inv X pins σ H4 { s4 with heap := s4.heap.push { cls := .type "slice", data := .fields #[vl, vu, vs] } } := I4.kept (t' := s4.toks) fun b ob q => Heap.get?_push_of_some _ q
  obtain ⟨its, r, ht, hz⟩ := I5.list hx
  have hlen := r.length
  show wpAny (model X.prog X.w) X.A (subscriptTail e (.Slice lo hi (some (.UnaryOp .USub (.Constant (.int 1) k p1) p2)) p3) (.ref a) (.ref s4.heap.objs.size)) (EP X pins σ Q) X.xe { s4 with heap := s4.heap.push { cls := .type "slice", data := .fields #[vl, vu, vs] } }
  refine tail_any (ops := [.ref a, .ref s4.heap.objs.size]) ht.isList.typeIs (PySem.slot_list_getitem.lookup) ?_ (by with_unfolding_all rfl)
  refine wpAny_getItem_list_slice ht.isList (Heap.IsSliceOf.new _ vl vu vs) pl pu ps (by decide) ?_ (by rw [List.size_toArray]; omega)
  have hp : slicePick its.toArray l u (some (-1)) = (pickR its l u).toArray := by
    unfold slicePick pickR
    rw [List.size_toArray]
    show ((sliceRange _ _ (-1)).filterMap (its.toArray[·]?)).toArray = _
    congr 2
    funext i
    simp
  have hps : (pickR its l u).length ≤ its.length := by
    have := slicePick_size_le its.toArray l u (some (-1))
    rw [hp] at this
    simpa using this
  rw [hp]
  refine ⟨.ref _, _, I5.laid (t' := s4.toks) (o := .lst (pickR xs l u)) (fun b ob q => Heap.get?_push_of_some _ q) (Nat.le_refl _) ?_, rfl, q _ (I5.hok.fresh (Nat.le_refl _))⟩
  have hv : Vals (pickR xs l u) (pickR its l u) := by
    unfold pickR
    rw [hlen]
    exact vals_pick r
  exact ⟨by rw [hv.length]; omega, _, 0, hv, Heap.get?_push_size _ rfl⟩
def xSlR (f : Ex) (a b : Px) : Ex := fun e => bnd (f e) fun d e1 => match a e1 with
  | some (lo, e2) => (match b e2 with
    | some (hi, e3) => (match d with
      | .list ds => some (.list (pickR ds lo hi), .o 0, e3)
      | _ => none)
    | none => none)
  | none => none
theorem E.slR {lo hi : Option Expr} {e : Expr} {f : Ex} {pa pb : Px} {k : Nat} {p1 p2 p3 : Pos} (he : E X e f) (hl : Pt X lo pa) (hh : Pt X hi pb) :
    E X (.Subscript e (.Slice lo hi (some (.UnaryOp .USub (.Constant (.int 1) k p1) p2)) p3) pos) (xSlR f pa pb) := pe_imp (pe_slR he.fz hl hh) fun σ H Q => by
  rintro ⟨F, en, A, d, o, e', E0, hx, post⟩
  obtain ⟨d1, o1, e1, h1, hx⟩ := bnd_eq hx
  split at hx
  · rename_i lo1 e2 h2
    split at hx
    · rename_i hi1 e3 h3
      split at hx
      · rename_i ds
        cases hx
        refine E.fz_run E0 h1 fun v H1 F1 A1 E1 hv st1 => ?_
        refine ⟨F1, e1, A1, lo1, e2, E1, h2, fun H2 F2 A2 E2 st2 => ?_⟩
        refine ⟨F2, e2, A2, hi1, e', E2, h3, fun H3 F3 A3 E3 st3 => ?_⟩
        have hv3 := (hv.mono st2.ff).mono st3.ff
        have st := (st1.trans st2).trans st3
        cases hv3 with
        | @lst _ xs _ hs ha =>
          refine ⟨_, _, rfl, sqL_mono E3.sub hs, fun p hp => ?_⟩
          obtain ⟨q1, q2, q3, q4⟩ := fz_out E3 (fresh_new (u := .lst (pickR xs lo1 hi1)) E3.sub hp) (new_R E3.sub hp)
          have hpk : FzAll X.K F3 (pickR xs lo1 hi1) (pickR ds lo1 hi1) := by
            unfold pickR
            rw [ha.length]
            exact FzAll.pick ha
          exact post _ _ F3 A3 _ q1 (vd_new hp hpk) q2 q3 (st.trans q4)
      · cases hx
    · cases hx
  · cases hx
theorem wx_slR {f : Ex} {e : En} {Q : D → Fg → En → Prop} {p q : Px} : wx (xSlR f p q) e Q ↔ wx f e fun d _ e1 => wp p e1 fun lo e2 => wp q e2 fun hi e3 => wlst d fun ds => Q (.list (pickR ds lo hi)) (.o 0) e3 := by
  unfold wx wp xSlR
  cases f e with
  | none => exact Iff.rfl
  | some r =>
    rw [show r = (r.1, r.2.1, r.2.2) from rfl, bnd_some]
    dsimp only
    cases p r.2.2 with
    | none => exact Iff.rfl
    | some t =>
      dsimp only
      cases q t.2 with
      | none => exact Iff.rfl
      | some u =>
        dsimp only
        cases r.1 <;> exact Iff.rfl
end
/-! ### wp laws -/
section
variable {P : D → Fg → Prop} {i j : Int} {x y : Str} {l r : List D} {a b : List D}
theorem ox_int : wo (dAddX (.int i) (.int j)) P ↔ P (.int (i + j)) .f := Iff.rfl
theorem ox_str : wo (dAddX (.str x) (.str y)) P ↔ x.length + y.length ≤ sizeLine ∧ P (.str (x ++ y)) .f := wo_if
theorem ox_list : wo (dAddX (.list l) (.list r)) P ↔ l.length + r.length ≤ sizeLine ∧ P (.list (l ++ r)) (.o 0) := wo_if
theorem ox_tup : wo (dAddX (.tuple a) (.tuple b)) P ↔ a.length + b.length ≤ sizeLine ∧ P (.tuple (a ++ b)) .f := wo_if
theorem ox_strI : wo (kStrI [.int i]) P ↔ i.natAbs.log2 < 1920 ∧ P (.str (toString i : String)) .f := wo_if
end
end Ev
/-! a list that stands in a slot's tuple, changed in place -/
namespace Ev
open PySem PySem.Spec PyProof.Rows L2
section
variable {X : Cx} {e o ix : Expr} {es : List Expr} {f g : Ex} {ax : Ax} {pos tpos apos cpos : Pos} {K : PySem.W.Frag} {F H : Hp} {i j : Nat} {ms : List Nat}
theorem ow_tup {n : Nat} {v : V} {ds : List D} {R : Fp} (h : Ow K F H (n + 1) v (.tuple ds) R) (hs : stillAll ds = false) : ∃ p xs B, v = .ref p ∧ H p = some (.tup xs) ∧ OwAll K F H n xs ds B ∧ ¬ B p ∧ ∀ a, R a ↔ (a = p ∨ B a) := by
  cases h with
  | sc _ h =>
    have h : stillAll ds = true := h
    rw [hs] at h; cases h
  | tup h1 h2 h3 => exact ⟨_, _, _, rfl, h1, h2, h3, fun _ => Iff.rfl⟩
theorem still_lst : ∀ {ds : List D} {j : Nat} {es : List D}, ds[j]? = some (.list es) → stillAll ds = false
  | [], _, _, h => by cases h
  | d :: ds, 0, _, h => by cases h; rfl
  | d :: ds, j + 1, _, h => by
    show (still d && stillAll ds) = false
    rw [still_lst (j := j) (by rw [List.getElem?_cons_succ] at h; exact h), Bool.and_false]
/-- the place: item j of the tuple in slot i -/
def slotT (e : En) (i j : Nat) : Option (List D × List D × Nat) := match e[i]? with
  | some (some (.tuple ds, .o (n + 1))) => (match ds[j]? with
    | some (.list es) => some (ds, es, n)
    | _ => none)
  | _ => none
theorem slotT_eq {e : En} {ds es : List D} {n : Nat} (h : slotT e i j = some (ds, es, n)) : e[i]? = some (some (.tuple ds, .o (n + 1))) ∧ ds[j]? = some (.list es) := by
  unfold slotT at h
  split at h
  · rename_i ds1 n1 h1
    split at h
    · rename_i es1 h2
      cases h
      exact ⟨h1, h2⟩
    · cases h
  · cases h
/-- a list in the tuple of a slot, told -/
theorem EnvOk.nstT {σ : L2.St} {e : En} {A : Nat → Fp} (E : EnvOk K F H σ e A) {n : Nat} {ds es : List D} (h : slotT e i j = some (ds, es, n)) : ∃ p xs q ys B, σ[i]? = some (some (.ref p)) ∧ H p = some (.tup xs) ∧ xs[j]? = some (.ref q) ∧ H q = some (.lst ys) ∧
    OwAll K F H n ys es B ∧ A i q ∧ ¬ B q ∧ (∀ a, B a → A i a) ∧ ∀ (ys' : List V) (es' : List D) (B' : Fp), OwAll K F H n ys' es' B' → (∀ a, B' a → B a) →
      ∃ A' : Nat → Fp, EnvOk K F (L2.upd H q (.lst ys')) σ (e.set i (some (.tuple (ds.set j (.list es')), .o (n + 1)))) A' ∧ Step F (U A) H F (U A') (L2.upd H q (.lst ys')) ∧ (∀ k a, A' k a → A k a) ∧ (∀ a, A' i a → B a → B' a) := by
  obtain ⟨he, hj⟩ := slotT_eq h
  obtain ⟨v, h1, h2⟩ := E.at_ i _ _ he
  obtain ⟨p, xs, C, rfl, h3, h4, h5, h6⟩ := ow_tup h2 (still_lst hj)
  obtain ⟨w, R, q1, q2, q3, q4⟩ := h4.upd1 hj
  obtain ⟨q, ys, B, rfl, g1, g2, g3, g4⟩ := ow_list q2
  have hq : A i q := (h6 q).mpr (.inr (q3 q ((g4 q).mpr (.inl rfl))))
  have hpq : p ≠ q := fun z => h5 (q3 p ((g4 p).mpr (.inl z)))
  refine ⟨p, xs, q, ys, B, h1, h3, q1, g1, g2, hq, g3, fun a z => (h6 a).mpr (.inr (q3 a ((g4 a).mpr (.inr z)))), fun ys' es' B' ha hb => ?_⟩
  have nb : ¬ B' q := fun z => g3 (hb q z)
  have hup : ∀ a, ¬ R a → L2.upd H q (.lst ys') a = H a := fun a z => upd_ne fun y => z ((g4 a).mpr (.inl y))
  have hin : Ow K F (L2.upd H q (.lst ys')) (n + 1) (.ref q) (.list es') (fun a => a = q ∨ B' a) := Ow.lst upd_same (OwAll.mono (Same.refl _) (fun a z => upd_ne fun y => nb (y ▸ z)) ha) nb
  obtain ⟨C', k1, k2⟩ := q4 (L2.upd H q (.lst ys')) (.list es') (fun a => a = q ∨ B' a) hin (fun a z => (g4 a).mpr (z.imp id (hb a))) hup
  have hnew : VD K F (L2.upd H q (.lst ys')) (.ref p) (.tuple (ds.set j (.list es'))) (.o (n + 1)) (fun a => a = p ∨ C' a) := Ow.tup (by rw [upd_ne hpq]; exact h3) k1 fun z => (k2 p z).elim (fun w => w.elim hpq fun w => h5 (q3 p ((g4 p).mpr (.inr (hb p w))))) fun w => h5 w.1
  have hR : ∀ a, (a = p ∨ C' a) → A i a := fun a z => (h6 a).mpr (z.imp id fun z => (k2 a z).elim (fun w => q3 a ((g4 a).mpr (w.imp id (hb a)))) fun w => w.1)
  obtain ⟨E2, st⟩ := E.mut (R' := fun a => a = p ∨ C' a) he h1 hq hR hnew
  refine ⟨_, E2, st, fun k a z => ?_, fun a z hB => ?_⟩
  · by_cases hk : k = i
    · rw [if_pos hk] at z; rw [hk]; exact hR a z
    · rw [if_neg hk] at z; exact z
  · rw [if_pos rfl] at z
    rcases z with z | z
    · exact absurd (q3 p ((g4 p).mpr (.inr (z ▸ hB)))) h5
    · rcases k2 a z with w | w
      · rcases w with w | w
        · exact absurd (w ▸ hB) g3
        · exact w
      · exact absurd ((g4 a).mpr (.inr hB)) w.2
/-- the place as a value -/
def tPlT (K : PySem.W.Frag) (i j : Nat) : TE := fun σ H Q => ∃ p xs v, σ[i]? = some (some (.ref p)) ∧ SqT K H p xs ∧ xs[j]? = some v ∧ Q v H
theorem pe_plT (ho : PE X o (tVar i)) (hj : PE X ix (tC (.int (j : Nat)))) (hs : PlainIx ix := by exact fun _ _ => rfl) : PE X (.Subscript o ix pos) (tPlT X.K i j) := pe_imp (pe_ix ix_tup ho hj hs) fun σ H Q => by
  rintro ⟨p, xs, v, h1, h2, h3, q⟩
  exact ⟨_, h1, p, xs, (j : Nat), v, rfl, rfl, h2, pl_nat h3, q⟩
def xMutT (i j : Nat) (op : Mop) (a : Ax) : Ex := fun e => match slotT e i j with
  | some (ds, es, n) => (match a (e.set i none) with
    | some (as, e1) => (match e1[i]? with
      | some none => (match op n as es with
        | some (res, o, es') => some (res, o, e1.set i (some (.tuple (ds.set j (.list es')), .o (n + 1))))
        | none => none)
      | _ => none)
    | none => none)
  | none => none
theorem mutT_imp {r : V → List V → Hp → VK → Prop} {op : Mop} (hr : MutD K r op) : ∀ σ H Q, cE K (xMutT i j op ax) σ H Q → tPlT K i j σ H fun x H1 => tyV K "list" x H1 ∧ cA K ax σ H1 fun vs H2 => r x vs H2 Q := fun σ H Q => by
  rintro ⟨F, en, A, d, o, e', E0, hx, post⟩
  unfold xMutT at hx
  split at hx
  · rename_i ds es n h0
    split at hx
    · rename_i as e1 hg
      split at hx
      · rename_i hi1
        split at hx
        · rename_i res o' es' hop
          cases hx
          obtain ⟨p, xs, q, ys, B, hσ, hp, hxj, hq, hB, hAq, nB, hBA, put⟩ := E0.nstT h0
          obtain ⟨he, hj⟩ := slotT_eq h0
          obtain ⟨v0, hv0, hvd⟩ := E0.at_ i _ _ he
          rw [hσ] at hv0
          cases hv0
          refine ⟨p, xs, _, hσ, SqT.of hp, hxj, .inl ⟨rfl, ys, SqL.of hq⟩, F, _, _, as, e1, E0.drop i, hg, fun vs H1 F1 A1 E1 hv st => ?_⟩
          have hl1 : i < e1.length := len_of hi1
          have hold : ∀ a, A i a → H1 a = H a ∧ F1 a = none ∧ ¬ U A1 a := fun a z => st.fr a (E0.tr a ⟨i, z⟩) (E0.nf i a z) (E0.take_dis i a z)
          have E1' := E1.put (i := i) (o := .o (n + 1)) (R := A i) hl1 (hvd.mono st.ff fun a z => (hold a z).1) (fun a z => (hold a z).2.1) (fun a z => (hold a z).2.2)
          have eσ : σ.set i (some (V.ref p)) = σ := by
            refine List.ext_getElem? fun k => ?_
            by_cases hk : k = i
            · subst hk; rw [List.getElem?_set_self (by rw [← E1.len]; exact hl1), hσ]
            · rw [List.getElem?_set_ne (Ne.symm hk)]
          rw [eσ] at E1'
          have h0' : slotT (e1.set i (some (.tuple ds, .o (n + 1)))) i j = some (ds, es, n) := by
            unfold slotT
            rw [List.getElem?_set_self hl1]
            dsimp only
            rw [hj]
          obtain ⟨p', xs', q', ys', B', hσ', hp', hxj', hq', hB', hAq', nB', hBA', put'⟩ := E1'.nstT h0'
          rw [hσ] at hσ'
          cases hσ'
          have ep : H1 p = H p := (hold p (by
            obtain ⟨p2, xs2, B2, e2, _, _, _, h6⟩ := ow_tup hvd (still_lst hj)
            cases e2
            exact (h6 p).mpr (.inl rfl))).1
          rw [ep, hp] at hp'
          cases hp'
          rw [hxj] at hxj'
          cases hxj'
          refine hr F1 H1 q ys' vs as es es' n B' d o Q E1.sub hq' hB' nB' hv hop fun v ys2 B2 R ha hb hw hRB hRB' => ?_
          obtain ⟨A', E2, st2, hA', hAB⟩ := put' ys2 es' B2 ha hb
          rw [List.set_set] at E2
          have up : ∀ a, R a → L2.upd H1 q (.lst ys2) a = H1 a := fun a z => upd_ne fun y => nB' (hRB q (y ▸ z))
          refine post v _ F1 A' R E2 (hw.mono (Same.refl _) up) (fun a z => E1'.nf i a (hBA' a (hRB a z))) ?_ ?_
          · rintro a z ⟨k, y⟩
            have hk : k = i := E1'.dis k i a (hA' k a y) (hBA' a (hRB a z))
            rw [hk] at y
            exact hRB' a z (hAB a y (hRB a z))
          · have sub : ∀ a, U A' a → U A1 a ∨ A i a := fun a ⟨k, z⟩ => by
              have z := hA' k a z
              by_cases hk : k = i
              · rw [if_pos hk] at z; exact .inr z
              · rw [if_neg hk] at z; exact .inl ⟨k, z⟩
            refine ⟨st.ff.trans st2.ff, fun a z => st2.keep a (st.keep a z), fun a z1 z2 z3 => ?_⟩
            have n1 : ¬ U (fun k => if k = i then Fp.no else A k) a := fun ⟨k, z⟩ => by
              dsimp only at z
              by_cases hk : k = i
              · rw [if_pos hk] at z; exact z
              · rw [if_neg hk] at z; exact z3 ⟨k, z⟩
            obtain ⟨w1, w2, w3⟩ := st.fr a z1 z2 n1
            have n2 : ¬ U (fun k => if k = i then A i else A1 k) a := fun ⟨k, z⟩ => by
              dsimp only at z
              by_cases hk : k = i
              · rw [if_pos hk] at z; exact z3 ⟨i, z⟩
              · rw [if_neg hk] at z; exact w3 ⟨k, z⟩
            obtain ⟨u1, u2, u3⟩ := st2.fr a (st.keep a z1) w2 n2
            refine ⟨u1.trans w1, u2, fun z => z.elim u3 fun z => ?_⟩
            have hz := hBA' a (hRB a z)
            rw [if_pos rfl] at hz
            exact z3 ⟨i, hz⟩
        · cases hx
      · cases hx
    · cases hx
  · cases hx
/-- t[j].m(..) -/
theorem E.mutT {name : Str} {id : String} {r : V → List V → Hp → VK → Prop} {op : Mop} (slot : Slot "list" name id) (hty : typeOf (.builtin id) = pure (.type "method_descriptor")) (hm : MtR X id r) (hr : MutD X.K r op) (ho : PE X o (tVar i)) (hj : PE X ix (tC (.int (j : Nat))))
    (ha : As X (e :: es) ax) (hs0 : PlainIx ix := by exact fun _ _ => rfl)
    (hbase : attributeBase (.Subscript o ix tpos) name X.env (eval (.Subscript o ix tpos) X.env) = eval (.Subscript o ix tpos) X.env := by rfl)
    (hfew : ((backTo cpos (starEach (e :: es) X.env)).all (fun x => !x.1) && (backToKw cpos (keywordEach [] X.env)).all (fun x => x.1.isSome)
      && decide ((e :: es).length + ([] : List Keyword).length + (if ([] : List Keyword).isEmpty then 0 else 1) < 30)) = true := by rfl)
    (hline : (apos.endLine == cpos.line) = true := by rfl) (hs : starEach (e :: es) X.env = (false, eval e X.env) :: starEach es X.env := by rfl) (hplain : (backTo cpos (starEach es X.env)).any (·.1) = false := by rfl) :
    E X (.Call (.Attribute (.Subscript o ix tpos) name apos) (e :: es) [] cpos) (xMutT i j op ax) := pe_imp (pe_bm PySem.F.plainAttrs_list slot hty hm (pe_plT ho hj hs0) ha hbase hfew hline hs hplain) (mutT_imp hr)
/-- t[j].m() -/
theorem E.mutT0 {name : Str} {id : String} {r : V → List V → Hp → VK → Prop} {op : Mop} (slot : Slot "list" name id) (hty : typeOf (.builtin id) = pure (.type "method_descriptor")) (hm : MtR X id r) (hr : MutD X.K r op) (ho : PE X o (tVar i)) (hj : PE X ix (tC (.int (j : Nat))))
    (hs0 : PlainIx ix := by exact fun _ _ => rfl)
    (hbase : attributeBase (.Subscript o ix tpos) name X.env (eval (.Subscript o ix tpos) X.env) = eval (.Subscript o ix tpos) X.env := by rfl) (hline : (apos.endLine == cpos.line) = true := by rfl) : E X (.Call (.Attribute (.Subscript o ix tpos) name apos) [] [] cpos) (xMutT i j op aNil) :=
  pe_imp (pe_bm0 PySem.F.plainAttrs_list slot hty hm (pe_plT ho hj hs0) hbase hline) fun σ H Q h => by
    obtain ⟨p, xs, v, h1, h2, h3, h4, F, en, A, ds, e', E0, hx, post⟩ := mutT_imp hr σ H Q h
    cases hx
    exact ⟨p, xs, v, h1, h2, h3, h4, post [] H F A E0 .nil Step.refl⟩
def wT (s : Option Sl) (P : List D → Nat → Prop) : Prop := match s with
  | some (some (.tuple ds, .o n)) => P ds n
  | _ => False
theorem wT_o {ds : List D} {n : Nat} {P : List D → Nat → Prop} : wT (some (some (.tuple ds, .o n))) P ↔ P ds n := Iff.rfl
def wNo (s : Option Sl) (P : Prop) : Prop := match s with
  | some none => P
  | _ => False
theorem wNo_n {P : Prop} : wNo (some none) P ↔ P := Iff.rfl
theorem wx_mutT {op : Mop} {e : En} {Q : D → Fg → En → Prop} : wx (xMutT i j op ax) e Q ↔ wT e[i]? fun ds n1 => wS n1 fun n => wq ds[j]? fun d => wlst d fun es => wa ax (e.set i none) fun as e1 => wNo e1[i]? (wm (op n as es) fun r o es' => Q r o (e1.set i (some (.tuple (ds.set j (.list es')), .o (n + 1))))) := by
  have key : ∀ (P : List D → List D → Nat → Prop), (wT e[i]? fun ds n1 => wS n1 fun n => wq ds[j]? fun d => wlst d fun es => P ds es n) ↔ (match slotT e i j with | some (ds, es, n) => P ds es n | none => False) := fun P => by
    unfold wT slotT
    generalize e[i]? = s
    match s with
    | some (some (.tuple ds, .o 0)) => exact Iff.rfl
    | some (some (.tuple ds, .o (n + 1))) =>
      dsimp only [wS, wq]
      cases ds[j]? with
      | none => exact Iff.rfl
      | some d => dsimp only [wlst]; cases d <;> exact Iff.rfl
    | some (some (.tuple ds, .f)) => exact Iff.rfl
    | some (some (.none, _)) | some (some (.bool _, _)) | some (some (.int _, _)) | some (some (.str _, _)) | some (some (.list _, _)) | some (some (.dict _, _)) => exact Iff.rfl
    | some none => exact Iff.rfl
    | none => exact Iff.rfl
  rw [key fun ds es n => wa ax (e.set i none) fun as e1 => wNo e1[i]? (wm (op n as es) fun r o es' => Q r o (e1.set i (some (.tuple (ds.set j (.list es')), .o (n + 1)))))]
  unfold wx wa xMutT
  cases slotT e i j with
  | none => exact Iff.rfl
  | some t =>
    dsimp only
    cases ax (e.set i none) with
    | none => exact Iff.rfl
    | some q =>
      rw [show q = (q.1, q.2) from rfl]
      dsimp only [wNo]
      generalize q.2[i]? = s
      match s with
      | some none =>
        dsimp only [wm]
        cases op t.2.2 q.1 t.2.1 <;> exact Iff.rfl
      | some (some _) => exact Iff.rfl
      | none => exact Iff.rfl
end
end Ev
namespace K02
open PySem PySem.Spec PyProof.Rows L2 Ev
def top (i : Nat) : Stmt := PySem.Challenge.pw_lastcopy_k02_prefixes_and_splits.main.body.getD i (.Pass ⟨0, 0, 0, 0⟩)
/-- the names of the module that the walk asks for -/
structure Gt (mg : Str → Option Value) : Prop where
  n_abs : mg "abs" = none
  n_all : mg "all" = none
  n_any : mg "any" = none
  n_bool : mg "bool" = none
  n_int : mg "int" = none
  n_isinstance : mg "isinstance" = none
  n_len : mg "len" = none
  n_list : mg "list" = none
  n_max : mg "max" = none
  n_min : mg "min" = none
  n_range : mg "range" = none
  n_repr : mg "repr" = none
  n_sorted : mg "sorted" = none
  n_str : mg "str" = none
  n_sum : mg "sum" = none
  n_tuple : mg "tuple" = none
  n_zip : mg "zip" = none
  c_LETTERS : ∃ u, mg "LETTERS" = some u ∧ RelV (.str "abcdefghijklmnopqrstuvwxyz") u
  c_MOST_LETTERS : ∃ u, mg "MOST_LETTERS" = some u ∧ RelV (.int 8) u
  c_MOST_LINES : ∃ u, mg "MOST_LINES" = some u ∧ RelV (.int 1000000000000000000000000000000) u
section
variable {P : Program} {w : World} {K : PySem.W.Frag} {mg : Str → Option Value} {base : Heap}
/-! ### _law_bowl: slots 0 script; 1 mix; 2 cell; -/
noncomputable def l1__law_bowl : Sx := (sSet 1 (xOp dMod (xOp dAddX (xOp dAddX (xOp dMul (xUse 1) (xCst (.int 7368787))) (xUse 2)) (xCst (.int 3))) (xOp dAddX (xOp dPow (xCst (.int 10)) (xCst (.int 31))) (xCst (.int 33)))))
noncomputable def t1__law_bowl : Tx := (tVal (xOp dGe (xCall kAbs (aCons (xUse 2) aNil)) (xOp dPow (xCst (.int 10)) (xCst (.int 18)))))
noncomputable def e1__law_bowl : Ex := (xOp dSub (xCall kAbs (aCons (xUse 2) aNil)) (xOp dPow (xCst (.int 10)) (xCst (.int 18))))
noncomputable def b__law_bowl : Sx := (sSeq (sSet 1 (xCst (.int 9973)))
  (sSeq (sFor (iSlot 0) (gNm 2) l1__law_bowl)
  (sRet (lstD 1 (oCons 1 (xLc (iSlot 0) [2] (gNm 2) t1__law_bowl e1__law_bowl) (oCons 1 (xUse 1) (oCons 1 (xCst (.int 0)) aNil)))))))
noncomputable def m__law_bowl : Ex := mB 1 2 [] b__law_bowl
abbrev N__law_bowl : List Str := ["script", "mix", "cell"]
abbrev P__law_bowl : List Str := ["script"]
abbrev s__law_bowl : Stmt := top 24
theorem sc__law_bowl : FnScope N__law_bowl P__law_bowl (defScope s__law_bowl) := C8.fnScope_by (by decide +kernel)
theorem w__law_bowl (TT : Gt mg) {f : Addr} (cdv : Value) (A : Around) (outer : List Env) (s : Shared) (H : Hp) (EE : XK) (hg : A.guards = some []) (hr : Room 0 (A.deeper (envOfC "_law_bowl" (defScope s__law_bowl) s.heap.objs.size f cdv))) :
    Ss (cxOf CX0 P w K mg base N__law_bowl "_law_bowl" (defScope s__law_bowl) f cdv A outer s H EE).nox [1, 2] (defBody s__law_bowl) b__law_bowl := by
  have nd := sc__law_bowl.nd
  have hu := hr.units
  have hu1 := hu_of hr
  have hu65 := hu65_of hr
  exact (Ss.cons (S.set (by decide) nd rfl (by first | exact .inl rfl | exact .inr rfl) E.int)
  (Ss.cons (S.forA (mt := [2]) (by decide) PassesOwn.never rfl (pv 0) (G.nm nd rfl (by first | exact .inl rfl | exact .inr rfl)) (Ss.one (S.set (by decide) nd rfl (by first | exact .inl rfl | exact .inr rfl) (E.op op_mod od_mod (E.op op_addX od_addX (E.op op_addX od_addX (E.op op_mulA od_mul (E.use (pv 1)) E.int) (E.use (pv 2))) E.int) (E.op op_addX od_addX (E.op op_powA od_pow E.int E.int) E.int)))))
  (Ss.one (S.ret (E.lst (Os.cons (E.lcA (own := [("cell", 2)]) rfl nd (pv 0) (blkOk_by (N := N__law_bowl) (sc := defScope s__law_bowl) (own := [("cell", 2)]) (by decide +kernel)) (fun _ _ _ _ _ => (G.nm nd rfl (by first | exact .inl rfl | exact .inr rfl))) (by decide) (fun _ _ _ _ _ => (Ts.one (T.cmp op_ge od_ge (E.callB call_abs cd_abs (by rfl) TT.n_abs (by decide +kernel) (As.cons (E.use (pv 2)) As.nil)) (E.op op_powA od_pow E.int E.int) rfl))) (fun _ _ _ _ _ => (E.op op_sub od_sub (E.callB call_abs cd_abs (by rfl) TT.n_abs (by decide +kernel) (As.cons (E.use (pv 2)) As.nil)) (E.op op_powA od_pow E.int E.int)))) (Os.cons (E.use (pv 1)) (Os.cons E.int Os.nil))))))))
theorem f__law_bowl (TT : Gt mg) {fa : Addr} {fd : FuncData} (F : FunA K "_law_bowl" "_law_bowl" s__law_bowl fa fd) : FnG P w K mg base 1 fa fd P__law_bowl (spD K 1 m__law_bowl) :=
  fn_ev F sc__law_bowl rfl rfl (by decide) (fun cdv A outer s H EE hg hr => w__law_bowl TT  cdv A outer s H EE hg hr)
theorem d__law_bowl (TT : Gt mg) {fa : Addr} {fd : FuncData} (F : FunA K "_law_bowl" "_law_bowl" s__law_bowl fa fd) (hm : mg "_law_bowl" = some (.ref fa)) (kp : PySem.W.keepIn K (.ref fa) = true) (hb : Binds K fd P__law_bowl []) : Df P w K mg base 1 "_law_bowl" 1 m__law_bowl := ⟨fa, fd, P__law_bowl, f__law_bowl TT  F, hm, kp, hb⟩
/-! ### _law_dip: slots 0 bowl; 1 many; 2 found; 3 stirred; -/
noncomputable def l1__law_dip : Sx := (sExp (xMutN 0 0 mPopAt [.int 0]))
noncomputable def b__law_dip : Sx := (sSeq (sWhile (tBrw (tAn (tVal (xOp dNeA (xOp dIxA (xUse 0) (xCst (.int 0))) (lstD 0 aNil))) (tVal (xOp dLt (xOp dIxA (xOp dIxA (xUse 0) (xCst (.int 0))) (xCst (.int 0))) (xCst (.int 2)))))) l1__law_dip)
  (sSeq (sIf (tBrw (tVal (xOp dNeA (xOp dIxA (xUse 0) (xCst (.int 0))) (lstD 0 aNil)))) (sSeq (sSet 2 (xBrw (xOp dMod (xOp dIxA (xOp dIxA (xUse 0) (xCst (.int 0))) (xCst (.int 0))) (xUse 1))))
  (sSeq (sSetN 0 0 0 (xBrw (xOp dDiv (xOp dIxA (xOp dIxA (xUse 0) (xCst (.int 0))) (xCst (.int 0))) (xUse 1))))
  (sRet (xUse 2)))) sNx)
  (sSeq (sPutA 0 (xBrw (xOp dAddX (xOp dIxA (xUse 0) (xCst (.int 2))) (xCst (.int 1)))) (xCst (.int 2)))
  (sSeq (sSet 3 (xBrw (xOp dMod (xOp dPow (xOp dAddX (xOp dIxA (xUse 0) (xCst (.int 1))) (xOp dMul (xCst (.int 15485867)) (xOp dIxA (xUse 0) (xCst (.int 2))))) (xCst (.int 3))) (xOp dAddX (xOp dPow (xCst (.int 10)) (xCst (.int 41))) (xCst (.int 109))))))
  (sSeq (sSet 3 (xBrw (xOp dMod (xOp dPow (xOp dAddX (xUse 3) (xOp dMul (xCst (.int 32452867)) (xOp dIxA (xUse 0) (xCst (.int 2))))) (xCst (.int 5))) (xOp dAddX (xOp dPow (xCst (.int 10)) (xCst (.int 43))) (xCst (.int 57))))))
  (sRet (xOp dMod (xOp dDiv (xUse 3) (xOp dPow (xCst (.int 2)) (xCst (.int 19)))) (xUse 1))))))))
noncomputable def m__law_dip : Ex := mB 2 2 [0] b__law_dip
abbrev N__law_dip : List Str := ["bowl", "many", "found", "stirred"]
abbrev P__law_dip : List Str := ["bowl", "many"]
abbrev s__law_dip : Stmt := top 25
theorem sc__law_dip : FnScope N__law_dip P__law_dip (defScope s__law_dip) := C8.fnScope_by (by decide +kernel)
theorem w__law_dip (TT : Gt mg) {f : Addr} (cdv : Value) (A : Around) (outer : List Env) (s : Shared) (H : Hp) (EE : XK) (hg : A.guards = some []) (hr : Room 0 (A.deeper (envOfC "_law_dip" (defScope s__law_dip) s.heap.objs.size f cdv))) :
    Ss (cxOf CX0 P w K mg base N__law_dip "_law_dip" (defScope s__law_dip) f cdv A outer s H EE).nox [2, 3] (defBody s__law_dip) b__law_dip := by
  have nd := sc__law_dip.nd
  have hu := hr.units
  have hu1 := hu_of hr
  have hu65 := hu65_of hr
  exact (Ss.cons (S.while_ PassesOwn.never (T.brw (W.t (W.and (T.cmp (op_neA hu) od_neA (E.ixA hu1 (E.use (pv 0)) E.int) (E.lst Os.nil) rfl) (W.and1 (T.cmp op_lt od_lt (E.ixA hu1 (E.ixA hu1 (E.use (pv 0)) E.int) E.int) E.int rfl))))) (Ss.one (S.exp (E.mutN (vs := [.int 0]) (as := [.int 0]) PySem.F.slot_list_pop PySem.F.type_list_pop mt_popAt md_popAt (pv 0) pe_int (pa_cons pe_int pa_nil) (fun _ => (.cons (.int _) .nil))))))
  (Ss.cons (S.if_ (T.brw (T.cmp (op_neA hu) od_neA (E.ixA hu1 (E.use (pv 0)) E.int) (E.lst Os.nil) rfl)) (Ss.cons (S.set (by decide) nd rfl (by first | exact .inl rfl | exact .inr rfl) (E.brw (E.op op_mod od_mod (E.ixA hu1 (E.ixA hu1 (E.use (pv 0)) E.int) E.int) (E.use (pv 1)))))
  (Ss.cons (S.setN (E.brw (E.op op_fdivW od_div (E.ixA hu1 (E.ixA hu1 (E.use (pv 0)) E.int) E.int) (E.use (pv 1)))) (pv 0) pe_int pe_int)
  (Ss.one (S.ret (E.use (pv 2)))))) Ss.nil)
  (Ss.cons (S.putA hu1 (E.brw (E.op op_addX od_addX (E.ixA hu1 (E.use (pv 0)) E.int) E.int)) (pv 0) E.int)
  (Ss.cons (S.set (by decide) nd rfl (by first | exact .inl rfl | exact .inr rfl) (E.brw (E.op op_mod od_mod (E.op op_powA od_pow (E.op op_addX od_addX (E.ixA hu1 (E.use (pv 0)) E.int) (E.op op_mulA od_mul E.int (E.ixA hu1 (E.use (pv 0)) E.int))) E.int) (E.op op_addX od_addX (E.op op_powA od_pow E.int E.int) E.int))))
  (Ss.cons (S.set (by decide) nd rfl (by first | exact .inl rfl | exact .inr rfl) (E.brw (E.op op_mod od_mod (E.op op_powA od_pow (E.op op_addX od_addX (E.use (pv 3)) (E.op op_mulA od_mul E.int (E.ixA hu1 (E.use (pv 0)) E.int))) E.int) (E.op op_addX od_addX (E.op op_powA od_pow E.int E.int) E.int))))
  (Ss.one (S.ret (E.op op_mod od_mod (E.op op_fdivW od_div (E.use (pv 3)) (E.op op_powA od_pow E.int E.int)) (E.use (pv 1))))))))))
theorem f__law_dip (TT : Gt mg) {fa : Addr} {fd : FuncData} (F : FunA K "_law_dip" "_law_dip" s__law_dip fa fd) : FnG P w K mg base 1 fa fd P__law_dip (spD K 2 m__law_dip) :=
  fn_ev F sc__law_dip rfl rfl (by decide) (fun cdv A outer s H EE hg hr => w__law_dip TT  cdv A outer s H EE hg hr)
theorem d__law_dip (TT : Gt mg) {fa : Addr} {fd : FuncData} (F : FunA K "_law_dip" "_law_dip" s__law_dip fa fd) (hm : mg "_law_dip" = some (.ref fa)) (kp : PySem.W.keepIn K (.ref fa) = true) (hb : Binds K fd P__law_dip []) : Df P w K mg base 1 "_law_dip" 2 m__law_dip := ⟨fa, fd, P__law_dip, f__law_dip TT  F, hm, kp, hb⟩
/-! ### _law_rows: slots 0 bowl; 1 most; 2 great; 3 pool; 4 found; 5 k; 6 writer; -/
noncomputable def l1__law_rows : Sx := (sSeq (sSet 6 (xFz (xMut 3 mPopAt (aCons (xApp m__law_dip [(.io 0), (.ex (xBrw (xCall kLenA (aCons (xUse 3) aNil))))]) aNil))))
  (sPutA 4 (xOp dIxA (lstD 0 (oCons 0 (xCst (.int 0)) (oCons 0 (xCst (.int 1)) (oCons 0 (xOp dAddX (xCst (.int 1)) (xApp m__law_dip [(.io 0), (.ex (xCst (.int 5)))])) (oCons 0 (xOp dAddX (xCst (.int 1)) (xApp m__law_dip [(.io 0), (.ex (xUse 2))])) aNil))))) (xApp m__law_dip [(.io 0), (.ex (xCst (.int 4)))])) (xUse 6)))
noncomputable def b__law_rows : Sx := (sSeq (sSet 3 (xOp dAddX (xCall kListA (aCons (xCst (.str "abcdkxyz")) aNil)) (lstD 0 (oCons 0 (xCst (.str "ab")) (oCons 0 (xCst (.str "aba")) (oCons 0 (xCst (.str "read")) (oCons 0 (xCst (.str "save")) (oCons 0 (xCst (.str "append")) (oCons 0 (xCst (.str "zzzzzzzz")) (oCons 0 (xCst (.str "or")) aNil))))))))))
  (sSeq (sSet 4 xDnew)
  (sSeq (sFor (iRg1 (aCons (xOp dAddX (xCst (.int 1)) (xApp m__law_dip [(.io 0), (.ex (xUse 1))])) aNil)) (gNm 5) l1__law_rows)
  (sRet (xMov 4)))))
noncomputable def m__law_rows : Ex := mB 3 4 [0] b__law_rows
abbrev N__law_rows : List Str := ["bowl", "most", "great", "pool", "found", "k", "writer"]
abbrev P__law_rows : List Str := ["bowl", "most", "great"]
abbrev s__law_rows : Stmt := top 26
theorem sc__law_rows : FnScope N__law_rows P__law_rows (defScope s__law_rows) := C8.fnScope_by (by decide +kernel)
theorem w__law_rows (TT : Gt mg) (D__law_dip : Df P w K mg base 1 "_law_dip" 2 m__law_dip) {f : Addr} (cdv : Value) (A : Around) (outer : List Env) (s : Shared) (H : Hp) (EE : XK) (hg : A.guards = some []) (hr : Room 1 (A.deeper (envOfC "_law_rows" (defScope s__law_rows) s.heap.objs.size f cdv))) :
    Ss (cxOf CX0 P w K mg base N__law_rows "_law_rows" (defScope s__law_rows) f cdv A outer s H EE).nox [3, 4, 5, 6] (defBody s__law_rows) b__law_rows := by
  have nd := sc__law_rows.nd
  have hu := hr.units
  have hu1 := hu_of hr
  have hu65 := hu65_of hr
  exact (Ss.cons (S.set (by decide) nd rfl (by first | exact .inl rfl | exact .inr rfl) (E.op op_addX od_addX (E.callTy (call_listA rfl) cd_listA (by rfl) TT.n_list (by decide +kernel) (As.cons E.str As.nil)) (E.lst (Os.cons E.str (Os.cons E.str (Os.cons E.str (Os.cons E.str (Os.cons E.str (Os.cons E.str (Os.cons E.str Os.nil))))))))))
  (Ss.cons (S.set (by decide) nd rfl (by first | exact .inl rfl | exact .inr rfl) E.dnew)
  (Ss.cons (S.for_ (mt := [5]) (by decide) PassesOwn.never rfl (I.rg1 (by rfl) TT.n_range (As.cons (E.op op_addX od_addX E.int (E.app D__law_dip hg (hr.mono (by decide)) (by rfl) (Arg.io (pv 0) (Arg.ex (E.use (pv 1)) Arg.nil)))) As.nil)) (G.nm nd rfl (by first | exact .inl rfl | exact .inr rfl)) (Ss.cons (S.set (by decide) nd rfl (by first | exact .inl rfl | exact .inr rfl) (E.fz (E.mut PySem.F.slot_list_pop PySem.F.type_list_pop mt_popAt md_popAt (pv 3) (As.cons (E.app D__law_dip hg (hr.mono (by decide)) (by rfl) (Arg.io (pv 0) (Arg.ex (E.brw (E.callB call_lenA cd_lenA (by rfl) TT.n_len (by decide +kernel) (As.cons (E.use (pv 3)) As.nil))) Arg.nil))) As.nil))))
  (Ss.one (S.putA hu1 (E.ixA hu1 (E.lst (Os.cons E.int (Os.cons E.int (Os.cons (E.op op_addX od_addX E.int (E.app D__law_dip hg (hr.mono (by decide)) (by rfl) (Arg.io (pv 0) (Arg.ex E.int Arg.nil)))) (Os.cons (E.op op_addX od_addX E.int (E.app D__law_dip hg (hr.mono (by decide)) (by rfl) (Arg.io (pv 0) (Arg.ex (E.use (pv 2)) Arg.nil)))) Os.nil))))) (E.app D__law_dip hg (hr.mono (by decide)) (by rfl) (Arg.io (pv 0) (Arg.ex E.int Arg.nil)))) (pv 4) (E.use (pv 6))))))
  (Ss.one (S.ret (E.mov (pv 4)))))))
theorem f__law_rows (TT : Gt mg) (D__law_dip : Df P w K mg base 1 "_law_dip" 2 m__law_dip) {fa : Addr} {fd : FuncData} (F : FunA K "_law_rows" "_law_rows" s__law_rows fa fd) : FnG P w K mg base 2 fa fd P__law_rows (spD K 3 m__law_rows) :=
  fn_ev F sc__law_rows rfl rfl (by decide) (fun cdv A outer s H EE hg hr => w__law_rows TT D__law_dip cdv A outer s H EE hg hr)
theorem d__law_rows (TT : Gt mg) (D__law_dip : Df P w K mg base 1 "_law_dip" 2 m__law_dip) {fa : Addr} {fd : FuncData} (F : FunA K "_law_rows" "_law_rows" s__law_rows fa fd) (hm : mg "_law_rows" = some (.ref fa)) (kp : PySem.W.keepIn K (.ref fa) = true) (hb : Binds K fd P__law_rows []) : Df P w K mg base 2 "_law_rows" 3 m__law_rows := ⟨fa, fd, P__law_rows, f__law_rows TT D__law_dip F, hm, kp, hb⟩
/-! ### _law_put: slots 0 runs; 1 run; -/
noncomputable def b__law_put : Sx := (sSeq (sIf (tAn (tVal (xOp dNeA (xUse 0) (lstD 0 aNil))) (tAn (tVal (xOp dEqA (xOp dIxA (xOp dIxA (xUse 0) (xUn dNeg (xCst (.int 1)))) (xCst (.int 0))) (xOp dIxA (xUse 1) (xCst (.int 0))))) (tVal (xOp dEqA (xOp dAddX (xOp dIxA (xOp dIxA (xUse 0) (xUn dNeg (xCst (.int 1)))) (xCst (.int 2))) (xCst (.int 1))) (xOp dIxA (xUse 1) (xCst (.int 1))))))) (sRet (xOp dAddX (xSlA (xUse 0) pNo (pSm (xUn dNeg (xCst (.int 1))))) (lstD 0 (oCons 0 (xFz (tupD (aCons (xOp dIxA (xUse 1) (xCst (.int 0))) (aCons (xOp dIxA (xOp dIxA (xUse 0) (xUn dNeg (xCst (.int 1)))) (xCst (.int 1))) (aCons (xOp dIxA (xUse 1) (xCst (.int 2))) aNil))))) aNil)))) sNx)
  (sRet (xOp dAddX (xUse 0) (lstD 0 (oCons 0 (xUse 1) aNil)))))
noncomputable def m__law_put : Ex := mB 2 0 [] b__law_put
abbrev N__law_put : List Str := ["runs", "run"]
abbrev P__law_put : List Str := ["runs", "run"]
abbrev s__law_put : Stmt := top 27
theorem sc__law_put : FnScope N__law_put P__law_put (defScope s__law_put) := C8.fnScope_by (by decide +kernel)
theorem w__law_put (TT : Gt mg) {f : Addr} (cdv : Value) (A : Around) (outer : List Env) (s : Shared) (H : Hp) (EE : XK) (hg : A.guards = some []) (hr : Room 0 (A.deeper (envOfC "_law_put" (defScope s__law_put) s.heap.objs.size f cdv))) :
    Ss (cxOf CX0 P w K mg base N__law_put "_law_put" (defScope s__law_put) f cdv A outer s H EE).nox [] (defBody s__law_put) b__law_put := by
  have nd := sc__law_put.nd
  have hu := hr.units
  have hu1 := hu_of hr
  have hu65 := hu65_of hr
  exact (Ss.cons (S.if_ (W.t (W.and (T.cmp (op_neA hu) od_neA (E.use (pv 0)) (E.lst Os.nil) rfl) (W.and (T.cmp (op_eqA hu) od_eqA (E.ixA hu1 (E.ixA hu1 (E.use (pv 0)) (E.un un_neg un_negD E.int)) E.int) (E.ixA hu1 (E.use (pv 1)) E.int) rfl) (W.and1 (T.cmp (op_eqA hu) od_eqA (E.op op_addX od_addX (E.ixA hu1 (E.ixA hu1 (E.use (pv 0)) (E.un un_neg un_negD E.int)) E.int) E.int) (E.ixA hu1 (E.use (pv 1)) E.int) rfl))))) (Ss.one (S.ret (E.op op_addX od_addX (E.slA (E.use (pv 0)) Pt.no (Pt.sm (E.un un_neg un_negD E.int))) (E.lst (Os.cons (E.fz (E.tup (As.cons (E.ixA hu1 (E.use (pv 1)) E.int) (As.cons (E.ixA hu1 (E.ixA hu1 (E.use (pv 0)) (E.un un_neg un_negD E.int)) E.int) (As.cons (E.ixA hu1 (E.use (pv 1)) E.int) As.nil))))) Os.nil))))) Ss.nil)
  (Ss.one (S.ret (E.op op_addX od_addX (E.use (pv 0)) (E.lst (Os.cons (E.use (pv 1)) Os.nil))))))
theorem f__law_put (TT : Gt mg) {fa : Addr} {fd : FuncData} (F : FunA K "_law_put" "_law_put" s__law_put fa fd) : FnG P w K mg base 1 fa fd P__law_put (spD K 2 m__law_put) :=
  fn_ev F sc__law_put rfl rfl (by decide) (fun cdv A outer s H EE hg hr => w__law_put TT  cdv A outer s H EE hg hr)
theorem d__law_put (TT : Gt mg) {fa : Addr} {fd : FuncData} (F : FunA K "_law_put" "_law_put" s__law_put fa fd) (hm : mg "_law_put" = some (.ref fa)) (kp : PySem.W.keepIn K (.ref fa) = true) (hb : Binds K fd P__law_put []) : Df P w K mg base 1 "_law_put" 2 m__law_put := ⟨fa, fd, P__law_put, f__law_put TT  F, hm, kp, hb⟩
/-! ### extends_run: slots 0 run; 1 following; -/
noncomputable def b_extends_run : Sx := (sRet (xAn (xOp dEqA (xOp dIxA (xUse 0) (xCst (.int 0))) (xOp dIxA (xUse 1) (xCst (.int 0)))) (xOp dEqA (xOp dIxA (xUse 1) (xCst (.int 1))) (xOp dAddX (xOp dIxA (xUse 0) (xCst (.int 2))) (xCst (.int 1))))))
noncomputable def m_extends_run : Ex := mB 2 0 [] b_extends_run
abbrev N_extends_run : List Str := ["run", "following"]
abbrev P_extends_run : List Str := ["run", "following"]
abbrev s_extends_run : Stmt := top 13
theorem sc_extends_run : FnScope N_extends_run P_extends_run (defScope s_extends_run) := C8.fnScope_by (by decide +kernel)
theorem w_extends_run (TT : Gt mg) {f : Addr} (cdv : Value) (A : Around) (outer : List Env) (s : Shared) (H : Hp) (EE : XK) (hg : A.guards = some []) (hr : Room 0 (A.deeper (envOfC "extends_run" (defScope s_extends_run) s.heap.objs.size f cdv))) :
    Ss (cxOf CX0 P w K mg base N_extends_run "extends_run" (defScope s_extends_run) f cdv A outer s H EE).nox [] (defBody s_extends_run) b_extends_run := by
  have nd := sc_extends_run.nd
  have hu := hr.units
  have hu1 := hu_of hr
  have hu65 := hu65_of hr
  exact (Ss.one (S.ret (E.and (E.cmp (op_eqA hu) od_eqA (E.ixA hu1 (E.use (pv 0)) E.int) (E.ixA hu1 (E.use (pv 1)) E.int) rfl) (E.one (E.cmp (op_eqA hu) od_eqA (E.ixA hu1 (E.use (pv 1)) E.int) (E.op op_addX od_addX (E.ixA hu1 (E.use (pv 0)) E.int) E.int) rfl)))))
theorem f_extends_run (TT : Gt mg) {fa : Addr} {fd : FuncData} (F : FunA K "extends_run" "extends_run" s_extends_run fa fd) : FnG P w K mg base 1 fa fd P_extends_run (spD K 2 m_extends_run) :=
  fn_ev F sc_extends_run rfl rfl (by decide) (fun cdv A outer s H EE hg hr => w_extends_run TT  cdv A outer s H EE hg hr)
theorem d_extends_run (TT : Gt mg) {fa : Addr} {fd : FuncData} (F : FunA K "extends_run" "extends_run" s_extends_run fa fd) (hm : mg "extends_run" = some (.ref fa)) (kp : PySem.W.keepIn K (.ref fa) = true) (hb : Binds K fd P_extends_run []) : Df P w K mg base 1 "extends_run" 2 m_extends_run := ⟨fa, fd, P_extends_run, f_extends_run TT  F, hm, kp, hb⟩
/-! ### is_integer: slots 0 value; 1 minimum; 2 maximum; -/
noncomputable def b_is_integer : Sx := (sSeq (sIf (tOrr (tNo (tVal (xIsi "int" (xUse 0)))) (tOrr (tVal (xIsi "bool" (xUse 0))) (tVal (xOp dLt (xUse 0) (xUse 1))))) (sRet (xCst (.bool false))) sNx)
  (sRet (xOrr (xOp dIsA (xUse 2) (xCst .none)) (xOp dLe (xUse 0) (xUse 2)))))
noncomputable def m_is_integer : Ex := mB 3 0 [] b_is_integer
abbrev N_is_integer : List Str := ["value", "minimum", "maximum"]
abbrev P_is_integer : List Str := ["value", "minimum", "maximum"]
abbrev s_is_integer : Stmt := top 9
theorem sc_is_integer : FnScope N_is_integer P_is_integer (defScope s_is_integer) := C8.fnScope_by (by decide +kernel)
theorem w_is_integer (TT : Gt mg) {f : Addr} (cdv : Value) (A : Around) (outer : List Env) (s : Shared) (H : Hp) (EE : XK) (hg : A.guards = some []) (hr : Room 0 (A.deeper (envOfC "is_integer" (defScope s_is_integer) s.heap.objs.size f cdv))) :
    Ss (cxOf CX0 P w K mg base N_is_integer "is_integer" (defScope s_is_integer) f cdv A outer s H EE).nox [] (defBody s_is_integer) b_is_integer := by
  have nd := sc_is_integer.nd
  have hu := hr.units
  have hu1 := hu_of hr
  have hu65 := hu65_of hr
  exact (Ss.cons (S.if_ (W.t (W.or (T.not (T.val (E.isi (by rfl) TT.n_isinstance (E.use (pv 0)) (ty_pe (by rfl) TT.n_int (by decide +kernel))))) (W.or (T.val (E.isi (by rfl) TT.n_isinstance (E.use (pv 0)) (ty_pe (by rfl) TT.n_bool (by decide +kernel)))) (W.or1 (T.cmp op_lt od_lt (E.use (pv 0)) (E.use (pv 1)) rfl))))) (Ss.one (S.ret E.bool)) Ss.nil)
  (Ss.one (S.ret (E.or (E.cmp op_isA od_isA (E.use (pv 2)) E.non rfl) (E.one (E.cmp op_le od_le (E.use (pv 0)) (E.use (pv 2)) rfl))))))
theorem f_is_integer (TT : Gt mg) {fa : Addr} {fd : FuncData} (F : FunA K "is_integer" "is_integer" s_is_integer fa fd) : FnG P w K mg base 1 fa fd P_is_integer (spD K 3 m_is_integer) :=
  fn_ev F sc_is_integer rfl rfl (by decide) (fun cdv A outer s H EE hg hr => w_is_integer TT  cdv A outer s H EE hg hr)
theorem d_is_integer (TT : Gt mg) {fa : Addr} {fd : FuncData} (F : FunA K "is_integer" "is_integer" s_is_integer fa fd) (hm : mg "is_integer" = some (.ref fa)) (kp : PySem.W.keepIn K (.ref fa) = true) (hb : Binds K fd P_is_integer []) : Df P w K mg base 1 "is_integer" 3 m_is_integer := ⟨fa, fd, P_is_integer, f_is_integer TT  F, hm, kp, hb⟩
/-! ### is_writer: slots 0 value; 1 letter; -/
noncomputable def e1_is_writer : Ex := (xOp dInA (xUse 1) (xCst (.str "abcdefghijklmnopqrstuvwxyz")))
noncomputable def b_is_writer : Sx := (sSeq (sIf (tOrr (tNo (tVal (xIsi "str" (xUse 0)))) (tNo (tVal (xChain dLe dLe (xCst (.int 1)) (xCall kLenA (aCons (xUse 0) aNil)) (xCst (.int 8)))))) (sRet (xCst (.bool false))) sNx)
  (sRet (xCall kAll (aCons (xLc (iSlot 0) [1] (gNm 1) cYes e1_is_writer) aNil))))
noncomputable def m_is_writer : Ex := mB 1 1 [] b_is_writer
abbrev N_is_writer : List Str := ["value", "letter"]
abbrev P_is_writer : List Str := ["value"]
abbrev s_is_writer : Stmt := top 10
theorem sc_is_writer : FnScope N_is_writer P_is_writer (defScope s_is_writer) := C8.fnScope_by (by decide +kernel)
theorem w_is_writer (TT : Gt mg) {f : Addr} (cdv : Value) (A : Around) (outer : List Env) (s : Shared) (H : Hp) (EE : XK) (hg : A.guards = some []) (hr : Room 0 (A.deeper (envOfC "is_writer" (defScope s_is_writer) s.heap.objs.size f cdv))) :
    Ss (cxOf CX0 P w K mg base N_is_writer "is_writer" (defScope s_is_writer) f cdv A outer s H EE).nox [] (defBody s_is_writer) b_is_writer := by
  have nd := sc_is_writer.nd
  have hu := hr.units
  have hu1 := hu_of hr
  have hu65 := hu65_of hr
  exact (Ss.cons (S.if_ (W.t (W.or (T.not (T.val (E.isi (by rfl) TT.n_isinstance (E.use (pv 0)) (ty_pe (by rfl) TT.n_str (by decide +kernel))))) (W.or1 (T.not (T.chain op_le op_le od_le od_le E.int (E.callB call_lenA cd_lenA (by rfl) TT.n_len (by decide +kernel) (As.cons (E.use (pv 0)) As.nil)) (E.glob (by rfl) TT.c_MOST_LETTERS (fun _ => .int _))))))) (Ss.one (S.ret E.bool)) Ss.nil)
  (Ss.one (S.ret (E.callB (cr_all rfl) cd_all (by rfl) TT.n_all (by decide +kernel) (As.cons (E.lcA (own := [("letter", 1)]) rfl nd (pv 0) (blkOk_by (N := N_is_writer) (sc := defScope s_is_writer) (own := [("letter", 1)]) (by decide +kernel)) (fun _ _ _ _ _ => (G.nm nd rfl (by first | exact .inl rfl | exact .inr rfl))) (by decide) (fun _ _ _ _ _ => Ts.nil) (fun _ _ _ _ _ => (E.inA hu65 (E.use (pv 1)) (E.glob (by rfl) TT.c_LETTERS (fun _ => .str _))))) As.nil)))))
theorem f_is_writer (TT : Gt mg) {fa : Addr} {fd : FuncData} (F : FunA K "is_writer" "is_writer" s_is_writer fa fd) : FnG P w K mg base 1 fa fd P_is_writer (spD K 1 m_is_writer) :=
  fn_ev F sc_is_writer rfl rfl (by decide) (fun cdv A outer s H EE hg hr => w_is_writer TT  cdv A outer s H EE hg hr)
theorem d_is_writer (TT : Gt mg) {fa : Addr} {fd : FuncData} (F : FunA K "is_writer" "is_writer" s_is_writer fa fd) (hm : mg "is_writer" = some (.ref fa)) (kp : PySem.W.keepIn K (.ref fa) = true) (hb : Binds K fd P_is_writer []) : Df P w K mg base 1 "is_writer" 1 m_is_writer := ⟨fa, fd, P_is_writer, f_is_writer TT  F, hm, kp, hb⟩
/-! ### is_run: slots 0 value; -/
noncomputable def b_is_run : Sx := (sSeq (sIf (tOrr (tNo (tVal (xIsi "tuple" (xUse 0)))) (tOrr (tVal (xOp dNeA (xCall kLenA (aCons (xUse 0) aNil)) (xCst (.int 3)))) (tNo (tVal (xApp m_is_writer [(.ex (xOp dIxA (xUse 0) (xCst (.int 0))))]))))) (sRet (xCst (.bool false))) sNx)
  (sRet (xAn (xApp (mD [.none] m_is_integer) [(.ex (xOp dIxA (xUse 0) (xCst (.int 1)))), (.ex (xCst (.int 1)))]) (xApp m_is_integer [(.ex (xOp dIxA (xUse 0) (xCst (.int 2)))), (.ex (xOp dIxA (xUse 0) (xCst (.int 1)))), (.ex (xCst (.int 1000000000000000000000000000000)))]))))
noncomputable def m_is_run : Ex := mB 1 0 [] b_is_run
abbrev N_is_run : List Str := ["value"]
abbrev P_is_run : List Str := ["value"]
abbrev s_is_run : Stmt := top 12
theorem sc_is_run : FnScope N_is_run P_is_run (defScope s_is_run) := C8.fnScope_by (by decide +kernel)
theorem w_is_run (TT : Gt mg) (D2_is_integer : DfD P w K mg base 1 "is_integer" 3 [.none] m_is_integer) (D_is_integer : Df P w K mg base 1 "is_integer" 3 m_is_integer) (D_is_writer : Df P w K mg base 1 "is_writer" 1 m_is_writer) {f : Addr} (cdv : Value) (A : Around) (outer : List Env) (s : Shared) (H : Hp) (EE : XK) (hg : A.guards = some []) (hr : Room 1 (A.deeper (envOfC "is_run" (defScope s_is_run) s.heap.objs.size f cdv))) :
    Ss (cxOf CX0 P w K mg base N_is_run "is_run" (defScope s_is_run) f cdv A outer s H EE).nox [] (defBody s_is_run) b_is_run := by
  have nd := sc_is_run.nd
  have hu := hr.units
  have hu1 := hu_of hr
  have hu65 := hu65_of hr
  exact (Ss.cons (S.if_ (W.t (W.or (T.not (T.val (E.isi (by rfl) TT.n_isinstance (E.use (pv 0)) (ty_pe (by rfl) TT.n_tuple (by decide +kernel))))) (W.or (T.cmp (op_neA hu) od_neA (E.callB call_lenA cd_lenA (by rfl) TT.n_len (by decide +kernel) (As.cons (E.use (pv 0)) As.nil)) E.int rfl) (W.or1 (T.not (T.val (E.app D_is_writer hg (hr.mono (by decide)) (by rfl) (Arg.ex (E.ixA hu1 (E.use (pv 0)) E.int) Arg.nil)))))))) (Ss.one (S.ret E.bool)) Ss.nil)
  (Ss.one (S.ret (E.and (E.appD D2_is_integer hg (hr.mono (by decide)) (by rfl) (Arg.ex (E.ixA hu1 (E.use (pv 0)) E.int) (Arg.ex E.int Arg.nil))) (E.one (E.app D_is_integer hg (hr.mono (by decide)) (by rfl) (Arg.ex (E.ixA hu1 (E.use (pv 0)) E.int) (Arg.ex (E.ixA hu1 (E.use (pv 0)) E.int) (Arg.ex (E.glob (by rfl) TT.c_MOST_LINES (fun _ => .int _)) Arg.nil)))))))))
theorem f_is_run (TT : Gt mg) (D2_is_integer : DfD P w K mg base 1 "is_integer" 3 [.none] m_is_integer) (D_is_integer : Df P w K mg base 1 "is_integer" 3 m_is_integer) (D_is_writer : Df P w K mg base 1 "is_writer" 1 m_is_writer) {fa : Addr} {fd : FuncData} (F : FunA K "is_run" "is_run" s_is_run fa fd) : FnG P w K mg base 2 fa fd P_is_run (spD K 1 m_is_run) :=
  fn_ev F sc_is_run rfl rfl (by decide) (fun cdv A outer s H EE hg hr => w_is_run TT D2_is_integer D_is_integer D_is_writer cdv A outer s H EE hg hr)
theorem d_is_run (TT : Gt mg) (D2_is_integer : DfD P w K mg base 1 "is_integer" 3 [.none] m_is_integer) (D_is_integer : Df P w K mg base 1 "is_integer" 3 m_is_integer) (D_is_writer : Df P w K mg base 1 "is_writer" 1 m_is_writer) {fa : Addr} {fd : FuncData} (F : FunA K "is_run" "is_run" s_is_run fa fd) (hm : mg "is_run" = some (.ref fa)) (kp : PySem.W.keepIn K (.ref fa) = true) (hb : Binds K fd P_is_run []) : Df P w K mg base 2 "is_run" 1 m_is_run := ⟨fa, fd, P_is_run, f_is_run TT D2_is_integer D_is_integer D_is_writer F, hm, kp, hb⟩
/-! ### is_well_formed: slots 0 value; 1 run; 2 following; -/
noncomputable def e1_is_well_formed : Ex := (xApp m_is_run [(.ex (xUse 1))])
noncomputable def e2_is_well_formed : Ex := (xApp m_extends_run [(.ex (xUse 1)), (.ex (xUse 2))])
noncomputable def b_is_well_formed : Sx := (sSeq (sIf (tOrr (tNo (tVal (xIsi2 "list" "tuple" (xUse 0)))) (tNo (tVal (xCall kAll (aCons (xLc (iSlot 0) [1] (gNm 1) cYes e1_is_well_formed) aNil))))) (sRet (xCst (.bool false))) sNx)
  (sRet (xNo (xCall kAny (aCons (xLc (iZipE (aCons (xUse 0) (aCons (xSlA (xUse 0) (pSm (xCst (.int 1))) pNo) aNil))) [1, 2] (gTp 2 (gsCons (gNm 1) (gsCons (gNm 2) gsNil))) cYes e2_is_well_formed) aNil)))))
noncomputable def m_is_well_formed : Ex := mB 1 2 [] b_is_well_formed
abbrev N_is_well_formed : List Str := ["value", "run", "following"]
abbrev P_is_well_formed : List Str := ["value"]
abbrev s_is_well_formed : Stmt := top 14
theorem sc_is_well_formed : FnScope N_is_well_formed P_is_well_formed (defScope s_is_well_formed) := C8.fnScope_by (by decide +kernel)
theorem w_is_well_formed (TT : Gt mg) (D_extends_run : Df P w K mg base 1 "extends_run" 2 m_extends_run) (D_is_run : Df P w K mg base 2 "is_run" 1 m_is_run) {f : Addr} (cdv : Value) (A : Around) (outer : List Env) (s : Shared) (H : Hp) (EE : XK) (hg : A.guards = some []) (hr : Room 2 (A.deeper (envOfC "is_well_formed" (defScope s_is_well_formed) s.heap.objs.size f cdv))) :
    Ss (cxOf CX0 P w K mg base N_is_well_formed "is_well_formed" (defScope s_is_well_formed) f cdv A outer s H EE).nox [] (defBody s_is_well_formed) b_is_well_formed := by
  have nd := sc_is_well_formed.nd
  have hu := hr.units
  have hu1 := hu_of hr
  have hu65 := hu65_of hr
  exact (Ss.cons (S.if_ (W.t (W.or (T.not (T.val (E.isi2 (by rfl) TT.n_isinstance (E.use (pv 0)) (ty_pe (by rfl) TT.n_list (by decide +kernel)) (ty_pe (by rfl) TT.n_tuple (by decide +kernel))))) (W.or1 (T.not (T.val (E.callB (cr_all rfl) cd_all (by rfl) TT.n_all (by decide +kernel) (As.cons (E.lcA (own := [("run", 1)]) rfl nd (pv 0) (blkOk_by (N := N_is_well_formed) (sc := defScope s_is_well_formed) (own := [("run", 1)]) (by decide +kernel)) (fun _ _ _ _ _ => (G.nm nd rfl (by first | exact .inl rfl | exact .inr rfl))) (by decide) (fun _ _ _ _ _ => Ts.nil) (fun _ _ _ _ _ => (E.app D_is_run hg (hr.mono (by decide)) (by rfl) (Arg.ex (E.use (pv 1)) Arg.nil)))) As.nil))))))) (Ss.one (S.ret E.bool)) Ss.nil)
  (Ss.one (S.ret (E.not (E.callB (cr_any rfl) cd_any (by rfl) TT.n_any (by decide +kernel) (As.cons (E.lc (own := [("run", 1), ("following", 2)]) rfl nd (I.zipA (by rfl) TT.n_zip (As.cons (E.use (pv 0)) (As.cons (E.slA (E.use (pv 0)) (Pt.sm E.int) Pt.no) As.nil))) (blkOk_by (N := N_is_well_formed) (sc := defScope s_is_well_formed) (own := [("run", 1), ("following", 2)]) (by decide +kernel)) (fun _ _ _ _ _ => (G.tp rfl (Gs.cons (G.nm nd rfl (by first | exact .inl rfl | exact .inr rfl)) (Gs.cons (G.nm nd rfl (by first | exact .inl rfl | exact .inr rfl)) Gs.nil)))) (by decide) (fun _ _ _ _ _ => Ts.nil) (fun _ _ _ _ _ => (E.app D_extends_run hg (hr.mono (by decide)) (by rfl) (Arg.ex (E.use (pv 1)) (Arg.ex (E.use (pv 2)) Arg.nil))))) As.nil))))))
theorem f_is_well_formed (TT : Gt mg) (D_extends_run : Df P w K mg base 1 "extends_run" 2 m_extends_run) (D_is_run : Df P w K mg base 2 "is_run" 1 m_is_run) {fa : Addr} {fd : FuncData} (F : FunA K "is_well_formed" "is_well_formed" s_is_well_formed fa fd) : FnG P w K mg base 3 fa fd P_is_well_formed (spD K 1 m_is_well_formed) :=
  fn_ev F sc_is_well_formed rfl rfl (by decide) (fun cdv A outer s H EE hg hr => w_is_well_formed TT D_extends_run D_is_run cdv A outer s H EE hg hr)
theorem d_is_well_formed (TT : Gt mg) (D_extends_run : Df P w K mg base 1 "extends_run" 2 m_extends_run) (D_is_run : Df P w K mg base 2 "is_run" 1 m_is_run) {fa : Addr} {fd : FuncData} (F : FunA K "is_well_formed" "is_well_formed" s_is_well_formed fa fd) (hm : mg "is_well_formed" = some (.ref fa)) (kp : PySem.W.keepIn K (.ref fa) = true) (hb : Binds K fd P_is_well_formed []) : Df P w K mg base 3 "is_well_formed" 1 m_is_well_formed := ⟨fa, fd, P_is_well_formed, f_is_well_formed TT D_extends_run D_is_run F, hm, kp, hb⟩
/-! ### require_well_formed: slots 0 content; -/
noncomputable def b_require_well_formed : Sx := (sSeq (sIf (tNo (tVal (xApp m_is_well_formed [(.ex (xUse 0))]))) sNev sNx)
  (sRet (xCall kListA (aCons (xUse 0) aNil))))
noncomputable def m_require_well_formed : Ex := mB 1 0 [] b_require_well_formed
abbrev N_require_well_formed : List Str := ["content"]
abbrev P_require_well_formed : List Str := ["content"]
abbrev s_require_well_formed : Stmt := top 15
theorem sc_require_well_formed : FnScope N_require_well_formed P_require_well_formed (defScope s_require_well_formed) := C8.fnScope_by (by decide +kernel)
theorem w_require_well_formed (TT : Gt mg) (D_is_well_formed : Df P w K mg base 3 "is_well_formed" 1 m_is_well_formed) {f : Addr} (cdv : Value) (A : Around) (outer : List Env) (s : Shared) (H : Hp) (EE : XK) (hg : A.guards = some []) (hr : Room 3 (A.deeper (envOfC "require_well_formed" (defScope s_require_well_formed) s.heap.objs.size f cdv))) :
    Ss (cxOf CX0 P w K mg base N_require_well_formed "require_well_formed" (defScope s_require_well_formed) f cdv A outer s H EE).nox [] (defBody s_require_well_formed) b_require_well_formed := by
  have nd := sc_require_well_formed.nd
  have hu := hr.units
  have hu1 := hu_of hr
  have hu65 := hu65_of hr
  exact (Ss.cons (S.if_ (T.not (T.val (E.app D_is_well_formed hg (hr.mono (by decide)) (by rfl) (Arg.ex (E.use (pv 0)) Arg.nil)))) (Ss.one S.never) Ss.nil)
  (Ss.one (S.ret (E.callTy (call_listA rfl) cd_listA (by rfl) TT.n_list (by decide +kernel) (As.cons (E.use (pv 0)) As.nil)))))
theorem f_require_well_formed (TT : Gt mg) (D_is_well_formed : Df P w K mg base 3 "is_well_formed" 1 m_is_well_formed) {fa : Addr} {fd : FuncData} (F : FunA K "require_well_formed" "require_well_formed" s_require_well_formed fa fd) : FnG P w K mg base 4 fa fd P_require_well_formed (spD K 1 m_require_well_formed) :=
  fn_ev F sc_require_well_formed rfl rfl (by decide) (fun cdv A outer s H EE hg hr => w_require_well_formed TT D_is_well_formed cdv A outer s H EE hg hr)
theorem d_require_well_formed (TT : Gt mg) (D_is_well_formed : Df P w K mg base 3 "is_well_formed" 1 m_is_well_formed) {fa : Addr} {fd : FuncData} (F : FunA K "require_well_formed" "require_well_formed" s_require_well_formed fa fd) (hm : mg "require_well_formed" = some (.ref fa)) (kp : PySem.W.keepIn K (.ref fa) = true) (hb : Binds K fd P_require_well_formed []) : Df P w K mg base 4 "require_well_formed" 1 m_require_well_formed := ⟨fa, fd, P_require_well_formed, f_require_well_formed TT D_is_well_formed F, hm, kp, hb⟩
/-! ### append_run: slots 0 runs; 1 run; -/
noncomputable def b_append_run : Sx := (sSeq (sIf (tAn (tVal (xOp dNeA (xUse 0) (lstD 0 aNil))) (tVal (xApp m_extends_run [(.ex (xOp dIxA (xUse 0) (xUn dNeg (xCst (.int 1))))), (.ex (xUse 1))]))) (sRet (xOp dAddX (xSlA (xUse 0) pNo (pSm (xUn dNeg (xCst (.int 1))))) (lstD 0 (oCons 0 (xFz (tupD (aCons (xOp dIxA (xUse 1) (xCst (.int 0))) (aCons (xOp dIxA (xOp dIxA (xUse 0) (xUn dNeg (xCst (.int 1)))) (xCst (.int 1))) (aCons (xOp dIxA (xUse 1) (xCst (.int 2))) aNil))))) aNil)))) sNx)
  (sRet (xOp dAddX (xUse 0) (lstD 0 (oCons 0 (xUse 1) aNil)))))
noncomputable def m_append_run : Ex := mB 2 0 [] b_append_run
abbrev N_append_run : List Str := ["runs", "run"]
abbrev P_append_run : List Str := ["runs", "run"]
abbrev s_append_run : Stmt := top 20
theorem sc_append_run : FnScope N_append_run P_append_run (defScope s_append_run) := C8.fnScope_by (by decide +kernel)
theorem w_append_run (TT : Gt mg) (D_extends_run : Df P w K mg base 1 "extends_run" 2 m_extends_run) {f : Addr} (cdv : Value) (A : Around) (outer : List Env) (s : Shared) (H : Hp) (EE : XK) (hg : A.guards = some []) (hr : Room 1 (A.deeper (envOfC "append_run" (defScope s_append_run) s.heap.objs.size f cdv))) :
    Ss (cxOf CX0 P w K mg base N_append_run "append_run" (defScope s_append_run) f cdv A outer s H EE).nox [] (defBody s_append_run) b_append_run := by
  have nd := sc_append_run.nd
  have hu := hr.units
  have hu1 := hu_of hr
  have hu65 := hu65_of hr
  exact (Ss.cons (S.if_ (W.t (W.and (T.cmp (op_neA hu) od_neA (E.use (pv 0)) (E.lst Os.nil) rfl) (W.and1 (T.val (E.app D_extends_run hg (hr.mono (by decide)) (by rfl) (Arg.ex (E.ixA hu1 (E.use (pv 0)) (E.un un_neg un_negD E.int)) (Arg.ex (E.use (pv 1)) Arg.nil))))))) (Ss.one (S.ret (E.op op_addX od_addX (E.slA (E.use (pv 0)) Pt.no (Pt.sm (E.un un_neg un_negD E.int))) (E.lst (Os.cons (E.fz (E.tup (As.cons (E.ixA hu1 (E.use (pv 1)) E.int) (As.cons (E.ixA hu1 (E.ixA hu1 (E.use (pv 0)) (E.un un_neg un_negD E.int)) E.int) (As.cons (E.ixA hu1 (E.use (pv 1)) E.int) As.nil))))) Os.nil))))) Ss.nil)
  (Ss.one (S.ret (E.op op_addX od_addX (E.use (pv 0)) (E.lst (Os.cons (E.use (pv 1)) Os.nil))))))
theorem f_append_run (TT : Gt mg) (D_extends_run : Df P w K mg base 1 "extends_run" 2 m_extends_run) {fa : Addr} {fd : FuncData} (F : FunA K "append_run" "append_run" s_append_run fa fd) : FnG P w K mg base 2 fa fd P_append_run (spD K 2 m_append_run) :=
  fn_ev F sc_append_run rfl rfl (by decide) (fun cdv A outer s H EE hg hr => w_append_run TT D_extends_run cdv A outer s H EE hg hr)
theorem d_append_run (TT : Gt mg) (D_extends_run : Df P w K mg base 1 "extends_run" 2 m_extends_run) {fa : Addr} {fd : FuncData} (F : FunA K "append_run" "append_run" s_append_run fa fd) (hm : mg "append_run" = some (.ref fa)) (kp : PySem.W.keepIn K (.ref fa) = true) (hb : Binds K fd P_append_run []) : Df P w K mg base 2 "append_run" 2 m_append_run := ⟨fa, fd, P_append_run, f_append_run TT D_extends_run F, hm, kp, hb⟩
/-! ### is_any_line: slots 0 value; -/
noncomputable def b_is_any_line : Sx := (sSeq (sIf (tOrr (tNo (tVal (xIsi "tuple" (xUse 0)))) (tVal (xOp dNeA (xCall kLenA (aCons (xUse 0) aNil)) (xCst (.int 2))))) (sRet (xCst (.bool false))) sNx)
  (sRet (xAn (xApp m_is_writer [(.ex (xOp dIxA (xUse 0) (xCst (.int 0))))]) (xApp m_is_integer [(.ex (xOp dIxA (xUse 0) (xCst (.int 1)))), (.ex (xCst (.int 1))), (.ex (xCst (.int 1000000000000000000000000000000)))]))))
noncomputable def m_is_any_line : Ex := mB 1 0 [] b_is_any_line
abbrev N_is_any_line : List Str := ["value"]
abbrev P_is_any_line : List Str := ["value"]
abbrev s_is_any_line : Stmt := top 11
theorem sc_is_any_line : FnScope N_is_any_line P_is_any_line (defScope s_is_any_line) := C8.fnScope_by (by decide +kernel)
theorem w_is_any_line (TT : Gt mg) (D_is_writer : Df P w K mg base 1 "is_writer" 1 m_is_writer) (D_is_integer : Df P w K mg base 1 "is_integer" 3 m_is_integer) {f : Addr} (cdv : Value) (A : Around) (outer : List Env) (s : Shared) (H : Hp) (EE : XK) (hg : A.guards = some []) (hr : Room 1 (A.deeper (envOfC "is_any_line" (defScope s_is_any_line) s.heap.objs.size f cdv))) :
    Ss (cxOf CX0 P w K mg base N_is_any_line "is_any_line" (defScope s_is_any_line) f cdv A outer s H EE).nox [] (defBody s_is_any_line) b_is_any_line := by
  have nd := sc_is_any_line.nd
  have hu := hr.units
  have hu1 := hu_of hr
  have hu65 := hu65_of hr
  exact (Ss.cons (S.if_ (W.t (W.or (T.not (T.val (E.isi (by rfl) TT.n_isinstance (E.use (pv 0)) (ty_pe (by rfl) TT.n_tuple (by decide +kernel))))) (W.or1 (T.cmp (op_neA hu) od_neA (E.callB call_lenA cd_lenA (by rfl) TT.n_len (by decide +kernel) (As.cons (E.use (pv 0)) As.nil)) E.int rfl)))) (Ss.one (S.ret E.bool)) Ss.nil)
  (Ss.one (S.ret (E.and (E.app D_is_writer hg (hr.mono (by decide)) (by rfl) (Arg.ex (E.ixA hu1 (E.use (pv 0)) E.int) Arg.nil)) (E.one (E.app D_is_integer hg (hr.mono (by decide)) (by rfl) (Arg.ex (E.ixA hu1 (E.use (pv 0)) E.int) (Arg.ex E.int (Arg.ex (E.glob (by rfl) TT.c_MOST_LINES (fun _ => .int _)) Arg.nil)))))))))
theorem f_is_any_line (TT : Gt mg) (D_is_writer : Df P w K mg base 1 "is_writer" 1 m_is_writer) (D_is_integer : Df P w K mg base 1 "is_integer" 3 m_is_integer) {fa : Addr} {fd : FuncData} (F : FunA K "is_any_line" "is_any_line" s_is_any_line fa fd) : FnG P w K mg base 2 fa fd P_is_any_line (spD K 1 m_is_any_line) :=
  fn_ev F sc_is_any_line rfl rfl (by decide) (fun cdv A outer s H EE hg hr => w_is_any_line TT D_is_writer D_is_integer cdv A outer s H EE hg hr)
theorem d_is_any_line (TT : Gt mg) (D_is_writer : Df P w K mg base 1 "is_writer" 1 m_is_writer) (D_is_integer : Df P w K mg base 1 "is_integer" 3 m_is_integer) {fa : Addr} {fd : FuncData} (F : FunA K "is_any_line" "is_any_line" s_is_any_line fa fd) (hm : mg "is_any_line" = some (.ref fa)) (kp : PySem.W.keepIn K (.ref fa) = true) (hb : Binds K fd P_is_any_line []) : Df P w K mg base 2 "is_any_line" 1 m_is_any_line := ⟨fa, fd, P_is_any_line, f_is_any_line TT D_is_writer D_is_integer F, hm, kp, hb⟩
/-! ### append_line: slots 0 content; 1 line; 2 runs; -/
noncomputable def b_append_line : Sx := (sSeq (sSet 2 (xFz (xApp m_require_well_formed [(.ex (xUse 0))])))
  (sSeq (sIf (tNo (tVal (xApp m_is_any_line [(.ex (xUse 1))]))) sNev sNx)
  (sRet (xApp m_append_run [(.ex (xUse 2)), (.ex (tupD (aCons (xOp dIxA (xUse 1) (xCst (.int 0))) (aCons (xOp dIxA (xUse 1) (xCst (.int 1))) (aCons (xOp dIxA (xUse 1) (xCst (.int 1))) aNil)))))]))))
noncomputable def m_append_line : Ex := mB 2 1 [] b_append_line
abbrev N_append_line : List Str := ["content", "line", "runs"]
abbrev P_append_line : List Str := ["content", "line"]
abbrev s_append_line : Stmt := top 21
theorem sc_append_line : FnScope N_append_line P_append_line (defScope s_append_line) := C8.fnScope_by (by decide +kernel)
theorem w_append_line (TT : Gt mg) (D_require_well_formed : Df P w K mg base 4 "require_well_formed" 1 m_require_well_formed) (D_append_run : Df P w K mg base 2 "append_run" 2 m_append_run) (D_is_any_line : Df P w K mg base 2 "is_any_line" 1 m_is_any_line) {f : Addr} (cdv : Value) (A : Around) (outer : List Env) (s : Shared) (H : Hp) (EE : XK) (hg : A.guards = some []) (hr : Room 4 (A.deeper (envOfC "append_line" (defScope s_append_line) s.heap.objs.size f cdv))) :
    Ss (cxOf CX0 P w K mg base N_append_line "append_line" (defScope s_append_line) f cdv A outer s H EE).nox [2] (defBody s_append_line) b_append_line := by
  have nd := sc_append_line.nd
  have hu := hr.units
  have hu1 := hu_of hr
  have hu65 := hu65_of hr
  exact (Ss.cons (S.set (by decide) nd rfl (by first | exact .inl rfl | exact .inr rfl) (E.fz (E.app D_require_well_formed hg (hr.mono (by decide)) (by rfl) (Arg.ex (E.use (pv 0)) Arg.nil))))
  (Ss.cons (S.if_ (T.not (T.val (E.app D_is_any_line hg (hr.mono (by decide)) (by rfl) (Arg.ex (E.use (pv 1)) Arg.nil)))) (Ss.one S.never) Ss.nil)
  (Ss.one (S.ret (E.app D_append_run hg (hr.mono (by decide)) (by rfl) (Arg.ex (E.use (pv 2)) (Arg.ex (E.tup (As.cons (E.ixA hu1 (E.use (pv 1)) E.int) (As.cons (E.ixA hu1 (E.use (pv 1)) E.int) (As.cons (E.ixA hu1 (E.use (pv 1)) E.int) As.nil)))) Arg.nil)))))))
theorem f_append_line (TT : Gt mg) (D_require_well_formed : Df P w K mg base 4 "require_well_formed" 1 m_require_well_formed) (D_append_run : Df P w K mg base 2 "append_run" 2 m_append_run) (D_is_any_line : Df P w K mg base 2 "is_any_line" 1 m_is_any_line) {fa : Addr} {fd : FuncData} (F : FunA K "append_line" "append_line" s_append_line fa fd) : FnG P w K mg base 5 fa fd P_append_line (spD K 2 m_append_line) :=
  fn_ev F sc_append_line rfl rfl (by decide) (fun cdv A outer s H EE hg hr => w_append_line TT D_require_well_formed D_append_run D_is_any_line cdv A outer s H EE hg hr)
theorem d_append_line (TT : Gt mg) (D_require_well_formed : Df P w K mg base 4 "require_well_formed" 1 m_require_well_formed) (D_append_run : Df P w K mg base 2 "append_run" 2 m_append_run) (D_is_any_line : Df P w K mg base 2 "is_any_line" 1 m_is_any_line) {fa : Addr} {fd : FuncData} (F : FunA K "append_line" "append_line" s_append_line fa fd) (hm : mg "append_line" = some (.ref fa)) (kp : PySem.W.keepIn K (.ref fa) = true) (hb : Binds K fd P_append_line []) : Df P w K mg base 5 "append_line" 2 m_append_line := ⟨fa, fd, P_append_line, f_append_line TT D_require_well_formed D_append_run D_is_any_line F, hm, kp, hb⟩
/-! ### is_prefix: slots 0 content; 1 other; 2 runs; 3 other_runs; 4 final_run; 5 other_run; -/
noncomputable def b_is_prefix : Sx := (sSeq (sPar2 2 3 (xFz (xApp m_require_well_formed [(.ex (xUse 0))])) (xFz (xApp m_require_well_formed [(.ex (xUse 1))])))
  (sSeq (sIf (tOrr (tVal (xOp dEqA (xUse 2) (lstD 0 aNil))) (tVal (xOp dGt (xCall kLenA (aCons (xUse 2) aNil)) (xCall kLenA (aCons (xUse 3) aNil))))) (sRet (xOp dEqA (xUse 2) (lstD 0 aNil))) sNx)
  (sSeq (sPar2 4 5 (xFz (xOp dIxA (xUse 2) (xUn dNeg (xCst (.int 1))))) (xFz (xOp dIxA (xUse 3) (xOp dSub (xCall kLenA (aCons (xUse 2) aNil)) (xCst (.int 1))))))
  (sSeq (sIf (tVal (xOp dNeA (xSlA (xUse 2) pNo (pSm (xUn dNeg (xCst (.int 1))))) (xSlA (xUse 3) pNo (pSm (xOp dSub (xCall kLenA (aCons (xUse 2) aNil)) (xCst (.int 1))))))) (sRet (xCst (.bool false))) sNx)
  (sRet (xAn (xOp dEqA (xSlA (xUse 4) pNo (pSm (xCst (.int 2)))) (xSlA (xUse 5) pNo (pSm (xCst (.int 2))))) (xOp dLe (xOp dIxA (xUse 4) (xCst (.int 2))) (xOp dIxA (xUse 5) (xCst (.int 2))))))))))
noncomputable def m_is_prefix : Ex := mB 2 4 [] b_is_prefix
abbrev N_is_prefix : List Str := ["content", "other", "runs", "other_runs", "final_run", "other_run"]
abbrev P_is_prefix : List Str := ["content", "other"]
abbrev s_is_prefix : Stmt := top 19
theorem sc_is_prefix : FnScope N_is_prefix P_is_prefix (defScope s_is_prefix) := C8.fnScope_by (by decide +kernel)
theorem w_is_prefix (TT : Gt mg) (D_require_well_formed : Df P w K mg base 4 "require_well_formed" 1 m_require_well_formed) {f : Addr} (cdv : Value) (A : Around) (outer : List Env) (s : Shared) (H : Hp) (EE : XK) (hg : A.guards = some []) (hr : Room 4 (A.deeper (envOfC "is_prefix" (defScope s_is_prefix) s.heap.objs.size f cdv))) :
    Ss (cxOf CX0 P w K mg base N_is_prefix "is_prefix" (defScope s_is_prefix) f cdv A outer s H EE).nox [2, 3, 4, 5] (defBody s_is_prefix) b_is_prefix := by
  have nd := sc_is_prefix.nd
  have hu := hr.units
  have hu1 := hu_of hr
  have hu65 := hu65_of hr
  exact (Ss.cons (S.par (by decide) (by decide) rfl nd rfl rfl (by decide) rfl rfl (E.fz (E.app D_require_well_formed hg (hr.mono (by decide)) (by rfl) (Arg.ex (E.use (pv 0)) Arg.nil))) (E.fz (E.app D_require_well_formed hg (hr.mono (by decide)) (by rfl) (Arg.ex (E.use (pv 1)) Arg.nil))))
  (Ss.cons (S.if_ (W.t (W.or (T.cmp (op_eqA hu) od_eqA (E.use (pv 2)) (E.lst Os.nil) rfl) (W.or1 (T.cmp op_gt od_gt (E.callB call_lenA cd_lenA (by rfl) TT.n_len (by decide +kernel) (As.cons (E.use (pv 2)) As.nil)) (E.callB call_lenA cd_lenA (by rfl) TT.n_len (by decide +kernel) (As.cons (E.use (pv 3)) As.nil)) rfl)))) (Ss.one (S.ret (E.cmp (op_eqA hu) od_eqA (E.use (pv 2)) (E.lst Os.nil) rfl))) Ss.nil)
  (Ss.cons (S.par (by decide) (by decide) rfl nd rfl rfl (by decide) rfl rfl (E.fz (E.ixA hu1 (E.use (pv 2)) (E.un un_neg un_negD E.int))) (E.fz (E.ixA hu1 (E.use (pv 3)) (E.op op_sub od_sub (E.callB call_lenA cd_lenA (by rfl) TT.n_len (by decide +kernel) (As.cons (E.use (pv 2)) As.nil)) E.int))))
  (Ss.cons (S.if_ (T.cmp (op_neA hu) od_neA (E.slA (E.use (pv 2)) Pt.no (Pt.sm (E.un un_neg un_negD E.int))) (E.slA (E.use (pv 3)) Pt.no (Pt.sm (E.op op_sub od_sub (E.callB call_lenA cd_lenA (by rfl) TT.n_len (by decide +kernel) (As.cons (E.use (pv 2)) As.nil)) E.int))) rfl) (Ss.one (S.ret E.bool)) Ss.nil)
  (Ss.one (S.ret (E.and (E.cmp (op_eqA hu) od_eqA (E.slA (E.use (pv 4)) Pt.no (Pt.sm E.int)) (E.slA (E.use (pv 5)) Pt.no (Pt.sm E.int)) rfl) (E.one (E.cmp op_le od_le (E.ixA hu1 (E.use (pv 4)) E.int) (E.ixA hu1 (E.use (pv 5)) E.int) rfl)))))))))
theorem f_is_prefix (TT : Gt mg) (D_require_well_formed : Df P w K mg base 4 "require_well_formed" 1 m_require_well_formed) {fa : Addr} {fd : FuncData} (F : FunA K "is_prefix" "is_prefix" s_is_prefix fa fd) : FnG P w K mg base 5 fa fd P_is_prefix (spD K 2 m_is_prefix) :=
  fn_ev F sc_is_prefix rfl rfl (by decide) (fun cdv A outer s H EE hg hr => w_is_prefix TT D_require_well_formed cdv A outer s H EE hg hr)
theorem d_is_prefix (TT : Gt mg) (D_require_well_formed : Df P w K mg base 4 "require_well_formed" 1 m_require_well_formed) {fa : Addr} {fd : FuncData} (F : FunA K "is_prefix" "is_prefix" s_is_prefix fa fd) (hm : mg "is_prefix" = some (.ref fa)) (kp : PySem.W.keepIn K (.ref fa) = true) (hb : Binds K fd P_is_prefix []) : Df P w K mg base 5 "is_prefix" 2 m_is_prefix := ⟨fa, fd, P_is_prefix, f_is_prefix TT D_require_well_formed F, hm, kp, hb⟩
/-! ### _law_runs: slots 0 bowl; 1 rows; 2 most; 3 found; 4 some; 5 k; 6 writer; 7 first; 8 last; -/
noncomputable def t1__law_runs : Tx := (tVal (xOp dGt (xOp dIxA (xUse 1) (xUse 6)) (xCst (.int 0))))
noncomputable def e1__law_runs : Ex := (xUse 6)
noncomputable def l1__law_runs : Sx := (sSeq (sSet 6 (xFz (xOp dIxA (xUse 4) (xApp m__law_dip [(.io 0), (.ex (xCall kLenA (aCons (xUse 4) aNil)))]))))
  (sSeq (sSet 7 (xOp dAddX (xCst (.int 1)) (xApp m__law_dip [(.io 0), (.ex (xOp dIxA (xUse 1) (xUse 6)))])))
  (sSeq (sSet 8 (xFz (xOp dAddX (xUse 7) (xApp m__law_dip [(.io 0), (.ex (xCall kMin2 (aCons (xOp dAddX (xOp dSub (xOp dIxA (xUse 1) (xUse 6)) (xUse 7)) (xCst (.int 1))) (aCons (xOp dIxA (lstD 0 (oCons 0 (xCst (.int 1)) (oCons 0 (xCst (.int 4)) (oCons 0 (xOp dPow (xCst (.int 10)) (xCst (.int 30))) aNil)))) (xApp m__law_dip [(.io 0), (.ex (xCst (.int 3)))])) aNil))))]))))
  (sSet 3 (xApp m__law_put [(.ex (xUse 3)), (.ex (tupD (aCons (xUse 6) (aCons (xUse 7) (aCons (xUse 8) aNil)))))])))))
noncomputable def b__law_runs : Sx := (sSeq (sSet 3 (lstD 0 aNil))
  (sSeq (sSet 4 (xLc (iAny (xCall kSortedA (aCons (xUse 1) aNil))) [6] (gNm 6) t1__law_runs e1__law_runs))
  (sSeq (sFor (iRg1 (aCons (xOp dMul (xApp m__law_dip [(.io 0), (.ex (xOp dAddX (xUse 2) (xCst (.int 1))))]) (xCall kInt (aCons (xOp dNeA (xUse 4) (lstD 0 aNil)) aNil))) aNil)) (gNm 5) l1__law_runs)
  (sRet (xMov 3)))))
noncomputable def m__law_runs : Ex := mB 3 6 [0] b__law_runs
abbrev N__law_runs : List Str := ["bowl", "rows", "most", "found", "some", "k", "writer", "first", "last"]
abbrev P__law_runs : List Str := ["bowl", "rows", "most"]
abbrev s__law_runs : Stmt := top 28
theorem sc__law_runs : FnScope N__law_runs P__law_runs (defScope s__law_runs) := C8.fnScope_by (by decide +kernel)
theorem w__law_runs (TT : Gt mg) (D__law_put : Df P w K mg base 1 "_law_put" 2 m__law_put) (D__law_dip : Df P w K mg base 1 "_law_dip" 2 m__law_dip) {f : Addr} (cdv : Value) (A : Around) (outer : List Env) (s : Shared) (H : Hp) (EE : XK) (hg : A.guards = some []) (hr : Room 1 (A.deeper (envOfC "_law_runs" (defScope s__law_runs) s.heap.objs.size f cdv))) :
    Ss (cxOf CX0 P w K mg base N__law_runs "_law_runs" (defScope s__law_runs) f cdv A outer s H EE).nox [3, 4, 5, 6, 7, 8] (defBody s__law_runs) b__law_runs := by
  have nd := sc__law_runs.nd
  have hu := hr.units
  have hu1 := hu_of hr
  have hu65 := hu65_of hr
  exact (Ss.cons (S.set (by decide) nd rfl (by first | exact .inl rfl | exact .inr rfl) (E.lst Os.nil))
  (Ss.cons (S.setLc (own := [("writer", 6)]) (by decide) rfl nd rfl rfl rfl (I.any (E.callB (call_sortedB rfl hu) cd_sortedB (by rfl) TT.n_sorted (by decide +kernel) (As.cons (E.use (pv 1)) As.nil))) (blkOk_by (N := N__law_runs) (sc := defScope s__law_runs) (own := [("writer", 6)]) (by decide +kernel)) (fun _ _ _ _ _ => (G.nm nd rfl (by first | exact .inl rfl | exact .inr rfl))) (by decide) (fun _ _ _ _ _ => (Ts.one (T.cmp op_gt od_gt (E.ixA hu1 (E.use (pv 1)) (E.use (pv 6))) E.int rfl))) (fun _ _ _ _ _ => (E.use (pv 6))))
  (Ss.cons (S.for_ (mt := [5]) (by decide) PassesOwn.never rfl (I.rg1 (by rfl) TT.n_range (As.cons (E.op op_mulA od_mul (E.app D__law_dip hg (hr.mono (by decide)) (by rfl) (Arg.io (pv 0) (Arg.ex (E.op op_addX od_addX (E.use (pv 2)) E.int) Arg.nil))) (E.callTy call_int1 cd_int (by rfl) TT.n_int (by decide +kernel) (As.cons (E.cmp (op_neA hu) od_neA (E.use (pv 4)) (E.lst Os.nil) rfl) As.nil))) As.nil)) (G.nm nd rfl (by first | exact .inl rfl | exact .inr rfl)) (Ss.cons (S.set (by decide) nd rfl (by first | exact .inl rfl | exact .inr rfl) (E.fz (E.ixA hu1 (E.use (pv 4)) (E.app D__law_dip hg (hr.mono (by decide)) (by rfl) (Arg.io (pv 0) (Arg.ex (E.callB call_lenA cd_lenA (by rfl) TT.n_len (by decide +kernel) (As.cons (E.use (pv 4)) As.nil)) Arg.nil))))))
  (Ss.cons (S.set (by decide) nd rfl (by first | exact .inl rfl | exact .inr rfl) (E.op op_addX od_addX E.int (E.app D__law_dip hg (hr.mono (by decide)) (by rfl) (Arg.io (pv 0) (Arg.ex (E.ixA hu1 (E.use (pv 1)) (E.use (pv 6))) Arg.nil)))))
  (Ss.cons (S.set (by decide) nd rfl (by first | exact .inl rfl | exact .inr rfl) (E.fz (E.op op_addX od_addX (E.use (pv 7)) (E.app D__law_dip hg (hr.mono (by decide)) (by rfl) (Arg.io (pv 0) (Arg.ex (E.callB (call_min2 rfl) cd_min2 (by rfl) TT.n_min (by decide +kernel) (As.cons (E.op op_addX od_addX (E.op op_sub od_sub (E.ixA hu1 (E.use (pv 1)) (E.use (pv 6))) (E.use (pv 7))) E.int) (As.cons (E.ixA hu1 (E.lst (Os.cons E.int (Os.cons E.int (Os.cons (E.op op_powA od_pow E.int E.int) Os.nil)))) (E.app D__law_dip hg (hr.mono (by decide)) (by rfl) (Arg.io (pv 0) (Arg.ex E.int Arg.nil)))) As.nil))) Arg.nil))))))
  (Ss.one (S.set (by decide) nd rfl (by first | exact .inl rfl | exact .inr rfl) (E.app D__law_put hg (hr.mono (by decide)) (by rfl) (Arg.ex (E.use (pv 3)) (Arg.ex (E.tup (As.cons (E.use (pv 6)) (As.cons (E.use (pv 7)) (As.cons (E.use (pv 8)) As.nil)))) Arg.nil)))))))))
  (Ss.one (S.ret (E.mov (pv 3)))))))
theorem f__law_runs (TT : Gt mg) (D__law_put : Df P w K mg base 1 "_law_put" 2 m__law_put) (D__law_dip : Df P w K mg base 1 "_law_dip" 2 m__law_dip) {fa : Addr} {fd : FuncData} (F : FunA K "_law_runs" "_law_runs" s__law_runs fa fd) : FnG P w K mg base 2 fa fd P__law_runs (spD K 3 m__law_runs) :=
  fn_ev F sc__law_runs rfl rfl (by decide) (fun cdv A outer s H EE hg hr => w__law_runs TT D__law_put D__law_dip cdv A outer s H EE hg hr)
theorem d__law_runs (TT : Gt mg) (D__law_put : Df P w K mg base 1 "_law_put" 2 m__law_put) (D__law_dip : Df P w K mg base 1 "_law_dip" 2 m__law_dip) {fa : Addr} {fd : FuncData} (F : FunA K "_law_runs" "_law_runs" s__law_runs fa fd) (hm : mg "_law_runs" = some (.ref fa)) (kp : PySem.W.keepIn K (.ref fa) = true) (hb : Binds K fd P__law_runs []) : Df P w K mg base 2 "_law_runs" 3 m__law_runs := ⟨fa, fd, P__law_runs, f__law_runs TT D__law_put D__law_dip F, hm, kp, hb⟩
/-! ### _law_spots: slots 0 bowl; 1 runs; 2 found; 3 writer; 4 first; 5 last; 6 some; 7 k; -/
noncomputable def l1__law_spots : Sx := (sSet 2 (xFz (xOp dAddX (xUse 2) (lstD 0 (oCons 0 (xOp dAddX (xOp dSub (xOp dAddX (xOp dIxA (xUse 2) (xUn dNeg (xCst (.int 1)))) (xUse 5)) (xUse 4)) (xCst (.int 1))) aNil)))))
noncomputable def e1__law_spots : Ex := (xCall kMax2 (aCons (xCst (.int 0)) (aCons (xOp dSub (xOp dIxA (xUse 2) (xApp m__law_dip [(.io 0), (.ex (xCall kLenA (aCons (xUse 2) aNil)))])) (xCst (.int 1))) aNil)))
noncomputable def e2__law_spots : Ex := (xApp m__law_dip [(.io 0), (.ex (xOp dAddX (xOp dIxA (xUse 2) (xUn dNeg (xCst (.int 1)))) (xCst (.int 1))))])
noncomputable def b__law_spots : Sx := (sSeq (sSet 2 (xFz (lstD 0 (oCons 0 (xCst (.int 0)) aNil))))
  (sSeq (sFor (iSlot 1) (gTp 3 (gsCons (gNm 3) (gsCons (gNm 4) (gsCons (gNm 5) gsNil)))) l1__law_spots)
  (sSeq (sSet 6 (xLc (iRg1 (aCons (xCst (.int 3)) aNil)) [7] (gNm 7) cYes e1__law_spots))
  (sRet (xOp dAddX (xOp dAddX (xUse 2) (xUse 6)) (xLc (iRg1 (aCons (xCst (.int 3)) aNil)) [7] (gNm 7) cYes e2__law_spots))))))
noncomputable def m__law_spots : Ex := mB 2 6 [0] b__law_spots
abbrev N__law_spots : List Str := ["bowl", "runs", "found", "writer", "first", "last", "some", "k"]
abbrev P__law_spots : List Str := ["bowl", "runs"]
abbrev s__law_spots : Stmt := top 34
theorem sc__law_spots : FnScope N__law_spots P__law_spots (defScope s__law_spots) := C8.fnScope_by (by decide +kernel)
theorem w__law_spots (TT : Gt mg) (D__law_dip : Df P w K mg base 1 "_law_dip" 2 m__law_dip) {f : Addr} (cdv : Value) (A : Around) (outer : List Env) (s : Shared) (H : Hp) (EE : XK) (hg : A.guards = some []) (hr : Room 1 (A.deeper (envOfC "_law_spots" (defScope s__law_spots) s.heap.objs.size f cdv))) :
    Ss (cxOf CX0 P w K mg base N__law_spots "_law_spots" (defScope s__law_spots) f cdv A outer s H EE).nox [2, 3, 4, 5, 6] (defBody s__law_spots) b__law_spots := by
  have nd := sc__law_spots.nd
  have hu := hr.units
  have hu1 := hu_of hr
  have hu65 := hu65_of hr
  exact (Ss.cons (S.set (by decide) nd rfl (by first | exact .inl rfl | exact .inr rfl) (E.fz (E.lst (Os.cons E.int Os.nil))))
  (Ss.cons (S.forA (mt := [3, 4, 5]) (by decide) PassesOwn.never rfl (pv 1) (G.tp rfl (Gs.cons (G.nm nd rfl (by first | exact .inl rfl | exact .inr rfl)) (Gs.cons (G.nm nd rfl (by first | exact .inl rfl | exact .inr rfl)) (Gs.cons (G.nm nd rfl (by first | exact .inl rfl | exact .inr rfl)) Gs.nil)))) (Ss.one (S.set (by decide) nd rfl (by first | exact .inl rfl | exact .inr rfl) (E.fz (E.op op_addX od_addX (E.use (pv 2)) (E.lst (Os.cons (E.op op_addX od_addX (E.op op_sub od_sub (E.op op_addX od_addX (E.ixA hu1 (E.use (pv 2)) (E.un un_neg un_negD E.int)) (E.use (pv 5))) (E.use (pv 4))) E.int) Os.nil)))))))
  (Ss.cons (S.setLc (own := [("k", 7)]) (by decide) rfl nd rfl rfl rfl (I.rg1 (by rfl) TT.n_range (As.cons E.int As.nil)) (blkOk_by (N := N__law_spots) (sc := defScope s__law_spots) (own := [("k", 7)]) (by decide +kernel)) (fun _ _ _ _ _ => (G.nm nd rfl (by first | exact .inl rfl | exact .inr rfl))) (by decide) (fun _ _ _ _ _ => Ts.nil) (fun _ _ _ _ _ => (E.callB (call_max2 rfl) cd_max2 (by rfl) TT.n_max (by decide +kernel) (As.cons E.int (As.cons (E.op op_sub od_sub (E.ixA hu1 (E.use (pv 2)) (E.app D__law_dip hg (hr.mono (by decide)) (by rfl) (Arg.io (pv 0) (Arg.ex (E.callB call_lenA cd_lenA (by rfl) TT.n_len (by decide +kernel) (As.cons (E.use (pv 2)) As.nil)) Arg.nil)))) E.int) As.nil)))))
  (Ss.one (S.ret (E.op op_addX od_addX (E.op op_addX od_addX (E.use (pv 2)) (E.use (pv 6))) (E.lc (own := [("k", 7)]) rfl nd (I.rg1 (by rfl) TT.n_range (As.cons E.int As.nil)) (blkOk_by (N := N__law_spots) (sc := defScope s__law_spots) (own := [("k", 7)]) (by decide +kernel)) (fun _ _ _ _ _ => (G.nm nd rfl (by first | exact .inl rfl | exact .inr rfl))) (by decide) (fun _ _ _ _ _ => Ts.nil) (fun _ _ _ _ _ => (E.app D__law_dip hg (hr.mono (by decide)) (by rfl) (Arg.io (pv 0) (Arg.ex (E.op op_addX od_addX (E.ixA hu1 (E.use (pv 2)) (E.un un_neg un_negD E.int)) E.int) Arg.nil)))))))))))
theorem f__law_spots (TT : Gt mg) (D__law_dip : Df P w K mg base 1 "_law_dip" 2 m__law_dip) {fa : Addr} {fd : FuncData} (F : FunA K "_law_spots" "_law_spots" s__law_spots fa fd) : FnG P w K mg base 2 fa fd P__law_spots (spD K 2 m__law_spots) :=
  fn_ev F sc__law_spots rfl rfl (by decide) (fun cdv A outer s H EE hg hr => w__law_spots TT D__law_dip cdv A outer s H EE hg hr)
theorem d__law_spots (TT : Gt mg) (D__law_dip : Df P w K mg base 1 "_law_dip" 2 m__law_dip) {fa : Addr} {fd : FuncData} (F : FunA K "_law_spots" "_law_spots" s__law_spots fa fd) (hm : mg "_law_spots" = some (.ref fa)) (kp : PySem.W.keepIn K (.ref fa) = true) (hb : Binds K fd P__law_spots []) : Df P w K mg base 2 "_law_spots" 2 m__law_spots := ⟨fa, fd, P__law_spots, f__law_spots TT D__law_dip F, hm, kp, hb⟩
/-! ### run_length: slots 0 run; -/
noncomputable def b_run_length : Sx := (sRet (xOp dAddX (xOp dSub (xOp dIxA (xUse 0) (xCst (.int 2))) (xOp dIxA (xUse 0) (xCst (.int 1)))) (xCst (.int 1))))
noncomputable def m_run_length : Ex := mB 1 0 [] b_run_length
abbrev N_run_length : List Str := ["run"]
abbrev P_run_length : List Str := ["run"]
abbrev s_run_length : Stmt := top 16
theorem sc_run_length : FnScope N_run_length P_run_length (defScope s_run_length) := C8.fnScope_by (by decide +kernel)
theorem w_run_length (TT : Gt mg) {f : Addr} (cdv : Value) (A : Around) (outer : List Env) (s : Shared) (H : Hp) (EE : XK) (hg : A.guards = some []) (hr : Room 0 (A.deeper (envOfC "run_length" (defScope s_run_length) s.heap.objs.size f cdv))) :
    Ss (cxOf CX0 P w K mg base N_run_length "run_length" (defScope s_run_length) f cdv A outer s H EE).nox [] (defBody s_run_length) b_run_length := by
  have nd := sc_run_length.nd
  have hu := hr.units
  have hu1 := hu_of hr
  have hu65 := hu65_of hr
  exact (Ss.one (S.ret (E.op op_addX od_addX (E.op op_sub od_sub (E.ixA hu1 (E.use (pv 0)) E.int) (E.ixA hu1 (E.use (pv 0)) E.int)) E.int)))
theorem f_run_length (TT : Gt mg) {fa : Addr} {fd : FuncData} (F : FunA K "run_length" "run_length" s_run_length fa fd) : FnG P w K mg base 1 fa fd P_run_length (spD K 1 m_run_length) :=
  fn_ev F sc_run_length rfl rfl (by decide) (fun cdv A outer s H EE hg hr => w_run_length TT  cdv A outer s H EE hg hr)
theorem d_run_length (TT : Gt mg) {fa : Addr} {fd : FuncData} (F : FunA K "run_length" "run_length" s_run_length fa fd) (hm : mg "run_length" = some (.ref fa)) (kp : PySem.W.keepIn K (.ref fa) = true) (hb : Binds K fd P_run_length []) : Df P w K mg base 1 "run_length" 1 m_run_length := ⟨fa, fd, P_run_length, f_run_length TT  F, hm, kp, hb⟩
/-! ### total_length: slots 0 runs; 1 run; -/
noncomputable def e1_total_length : Ex := (xApp m_run_length [(.ex (xUse 1))])
noncomputable def b_total_length : Sx := (sRet (xCall kSum (aCons (xLc (iSlot 0) [1] (gNm 1) cYes e1_total_length) aNil)))
noncomputable def m_total_length : Ex := mB 1 1 [] b_total_length
abbrev N_total_length : List Str := ["runs", "run"]
abbrev P_total_length : List Str := ["runs"]
abbrev s_total_length : Stmt := top 17
theorem sc_total_length : FnScope N_total_length P_total_length (defScope s_total_length) := C8.fnScope_by (by decide +kernel)
theorem w_total_length (TT : Gt mg) (D_run_length : Df P w K mg base 1 "run_length" 1 m_run_length) {f : Addr} (cdv : Value) (A : Around) (outer : List Env) (s : Shared) (H : Hp) (EE : XK) (hg : A.guards = some []) (hr : Room 1 (A.deeper (envOfC "total_length" (defScope s_total_length) s.heap.objs.size f cdv))) :
    Ss (cxOf CX0 P w K mg base N_total_length "total_length" (defScope s_total_length) f cdv A outer s H EE).nox [] (defBody s_total_length) b_total_length := by
  have nd := sc_total_length.nd
  have hu := hr.units
  have hu1 := hu_of hr
  have hu65 := hu65_of hr
  exact (Ss.one (S.ret (E.callB (cr_sum rfl) cd_sum (by rfl) TT.n_sum (by decide +kernel) (As.cons (E.lcA (own := [("run", 1)]) rfl nd (pv 0) (blkOk_by (N := N_total_length) (sc := defScope s_total_length) (own := [("run", 1)]) (by decide +kernel)) (fun _ _ _ _ _ => (G.nm nd rfl (by first | exact .inl rfl | exact .inr rfl))) (by decide) (fun _ _ _ _ _ => Ts.nil) (fun _ _ _ _ _ => (E.app D_run_length hg (hr.mono (by decide)) (by rfl) (Arg.ex (E.use (pv 1)) Arg.nil)))) As.nil))))
theorem f_total_length (TT : Gt mg) (D_run_length : Df P w K mg base 1 "run_length" 1 m_run_length) {fa : Addr} {fd : FuncData} (F : FunA K "total_length" "total_length" s_total_length fa fd) : FnG P w K mg base 2 fa fd P_total_length (spD K 1 m_total_length) :=
  fn_ev F sc_total_length rfl rfl (by decide) (fun cdv A outer s H EE hg hr => w_total_length TT D_run_length cdv A outer s H EE hg hr)
theorem d_total_length (TT : Gt mg) (D_run_length : Df P w K mg base 1 "run_length" 1 m_run_length) {fa : Addr} {fd : FuncData} (F : FunA K "total_length" "total_length" s_total_length fa fd) (hm : mg "total_length" = some (.ref fa)) (kp : PySem.W.keepIn K (.ref fa) = true) (hb : Binds K fd P_total_length []) : Df P w K mg base 2 "total_length" 1 m_total_length := ⟨fa, fd, P_total_length, f_total_length TT D_run_length F, hm, kp, hb⟩
/-! ### split_at: slots 0 content; 1 count; 2 runs; 3 front; 4 back; 5 remaining_count; 6 writer; 7 first; 8 last; 9 length; 10 taken; -/
noncomputable def l1_split_at : Sx := (sSeq (sSet 9 (xOp dAddX (xOp dSub (xUse 8) (xUse 7)) (xCst (.int 1))))
  (sSeq (sSet 10 (xCall kMin2 (aCons (xUse 5) (aCons (xUse 9) aNil))))
  (sSeq (sIf (tVal (xOp dGt (xUse 10) (xCst (.int 0)))) (sExp (xMut 3 mApp (aCons (tupD (aCons (xUse 6) (aCons (xUse 7) (aCons (xOp dSub (xOp dAddX (xUse 7) (xUse 10)) (xCst (.int 1))) aNil)))) aNil))) sNx)
  (sSeq (sIf (tVal (xOp dLt (xUse 10) (xUse 9))) (sExp (xMut 4 mApp (aCons (tupD (aCons (xUse 6) (aCons (xOp dAddX (xUse 7) (xUse 10)) (aCons (xUse 8) aNil)))) aNil))) sNx)
  (sAug 5 dSub (xUse 10))))))
noncomputable def b_split_at : Sx := (sSeq (sSet 2 (xFz (xApp m_require_well_formed [(.ex (xUse 0))])))
  (sSeq (sIf (tNo (tVal (xApp m_is_integer [(.ex (xUse 1)), (.ex (xCst (.int 0))), (.ex (xApp m_total_length [(.ex (xUse 2))]))]))) sNev sNx)
  (sSeq (sPar2 3 4 (lstD 0 aNil) (lstD 0 aNil))
  (sSeq (sSet 5 (xUse 1))
  (sSeq (sFor (iSlot 2) (gTp 3 (gsCons (gNm 6) (gsCons (gNm 7) (gsCons (gNm 8) gsNil)))) l1_split_at)
  (sRet (tupO 1 (oCons 1 (xMov 3) (oCons 1 (xMov 4) aNil)))))))))
noncomputable def m_split_at : Ex := mB 2 9 [] b_split_at
abbrev N_split_at : List Str := ["content", "count", "runs", "front", "back", "remaining_count", "writer", "first", "last", "length", "taken"]
abbrev P_split_at : List Str := ["content", "count"]
abbrev s_split_at : Stmt := top 22
theorem sc_split_at : FnScope N_split_at P_split_at (defScope s_split_at) := C8.fnScope_by (by decide +kernel)
theorem w_split_at (TT : Gt mg) (D_require_well_formed : Df P w K mg base 4 "require_well_formed" 1 m_require_well_formed) (D_is_integer : Df P w K mg base 1 "is_integer" 3 m_is_integer) (D_total_length : Df P w K mg base 2 "total_length" 1 m_total_length) {f : Addr} (cdv : Value) (A : Around) (outer : List Env) (s : Shared) (H : Hp) (EE : XK) (hg : A.guards = some []) (hr : Room 4 (A.deeper (envOfC "split_at" (defScope s_split_at) s.heap.objs.size f cdv))) :
    Ss (cxOf CX0 P w K mg base N_split_at "split_at" (defScope s_split_at) f cdv A outer s H EE).nox [2, 3, 4, 5, 6, 7, 8, 9, 10] (defBody s_split_at) b_split_at := by
  have nd := sc_split_at.nd
  have hu := hr.units
  have hu1 := hu_of hr
  have hu65 := hu65_of hr
  exact (Ss.cons (S.set (by decide) nd rfl (by first | exact .inl rfl | exact .inr rfl) (E.fz (E.app D_require_well_formed hg (hr.mono (by decide)) (by rfl) (Arg.ex (E.use (pv 0)) Arg.nil))))
  (Ss.cons (S.if_ (T.not (T.val (E.app D_is_integer hg (hr.mono (by decide)) (by rfl) (Arg.ex (E.use (pv 1)) (Arg.ex E.int (Arg.ex (E.app D_total_length hg (hr.mono (by decide)) (by rfl) (Arg.ex (E.use (pv 2)) Arg.nil)) Arg.nil)))))) (Ss.one S.never) Ss.nil)
  (Ss.cons (S.par (by decide) (by decide) rfl nd rfl rfl (by decide) rfl rfl (E.lst Os.nil) (E.lst Os.nil))
  (Ss.cons (S.set (by decide) nd rfl (by first | exact .inl rfl | exact .inr rfl) (E.use (pv 1)))
  (Ss.cons (S.forA (mt := [6, 7, 8]) (by decide) PassesOwn.never rfl (pv 2) (G.tp rfl (Gs.cons (G.nm nd rfl (by first | exact .inl rfl | exact .inr rfl)) (Gs.cons (G.nm nd rfl (by first | exact .inl rfl | exact .inr rfl)) (Gs.cons (G.nm nd rfl (by first | exact .inl rfl | exact .inr rfl)) Gs.nil)))) (Ss.cons (S.set (by decide) nd rfl (by first | exact .inl rfl | exact .inr rfl) (E.op op_addX od_addX (E.op op_sub od_sub (E.use (pv 8)) (E.use (pv 7))) E.int))
  (Ss.cons (S.set (by decide) nd rfl (by first | exact .inl rfl | exact .inr rfl) (E.callB (call_min2 rfl) cd_min2 (by rfl) TT.n_min (by decide +kernel) (As.cons (E.use (pv 5)) (As.cons (E.use (pv 9)) As.nil))))
  (Ss.cons (S.if_ (T.cmp op_gt od_gt (E.use (pv 10)) E.int rfl) (Ss.one (S.exp (E.mut PySem.F.slot_list_append PySem.F.type_list_append mt_append md_app (pv 3) (As.cons (E.tup (As.cons (E.use (pv 6)) (As.cons (E.use (pv 7)) (As.cons (E.op op_sub od_sub (E.op op_addX od_addX (E.use (pv 7)) (E.use (pv 10))) E.int) As.nil)))) As.nil)))) Ss.nil)
  (Ss.cons (S.if_ (T.cmp op_lt od_lt (E.use (pv 10)) (E.use (pv 9)) rfl) (Ss.one (S.exp (E.mut PySem.F.slot_list_append PySem.F.type_list_append mt_append md_app (pv 4) (As.cons (E.tup (As.cons (E.use (pv 6)) (As.cons (E.op op_addX od_addX (E.use (pv 7)) (E.use (pv 10))) (As.cons (E.use (pv 8)) As.nil)))) As.nil)))) Ss.nil)
  (Ss.one (S.aug (by decide) nd rfl (by first | exact .inl rfl | exact .inr rfl) iop_sub od_sub (E.use (pv 10)))))))))
  (Ss.one (S.ret (E.tupO (Os.cons (E.mov (pv 3)) (Os.cons (E.mov (pv 4)) Os.nil))))))))))
theorem f_split_at (TT : Gt mg) (D_require_well_formed : Df P w K mg base 4 "require_well_formed" 1 m_require_well_formed) (D_is_integer : Df P w K mg base 1 "is_integer" 3 m_is_integer) (D_total_length : Df P w K mg base 2 "total_length" 1 m_total_length) {fa : Addr} {fd : FuncData} (F : FunA K "split_at" "split_at" s_split_at fa fd) : FnG P w K mg base 5 fa fd P_split_at (spD K 2 m_split_at) :=
  fn_ev F sc_split_at rfl rfl (by decide) (fun cdv A outer s H EE hg hr => w_split_at TT D_require_well_formed D_is_integer D_total_length cdv A outer s H EE hg hr)
theorem d_split_at (TT : Gt mg) (D_require_well_formed : Df P w K mg base 4 "require_well_formed" 1 m_require_well_formed) (D_is_integer : Df P w K mg base 1 "is_integer" 3 m_is_integer) (D_total_length : Df P w K mg base 2 "total_length" 1 m_total_length) {fa : Addr} {fd : FuncData} (F : FunA K "split_at" "split_at" s_split_at fa fd) (hm : mg "split_at" = some (.ref fa)) (kp : PySem.W.keepIn K (.ref fa) = true) (hb : Binds K fd P_split_at []) : Df P w K mg base 5 "split_at" 2 m_split_at := ⟨fa, fd, P_split_at, f_split_at TT D_require_well_formed D_is_integer D_total_length F, hm, kp, hb⟩
/-! ### _law_front: slots 0 runs; 1 many; 2 found; 3 writer; 4 first; 5 last; 6 here; -/
noncomputable def l1__law_front : Sx := (sSeq (sSet 6 (xCall kMin2 (aCons (xUse 1) (aCons (xOp dAddX (xOp dSub (xUse 5) (xUse 4)) (xCst (.int 1))) aNil))))
  (sSeq (sIf (tVal (xOp dGt (xUse 6) (xCst (.int 0)))) (sExp (xMut 2 mApp (aCons (tupD (aCons (xUse 3) (aCons (xUse 4) (aCons (xOp dSub (xOp dAddX (xUse 4) (xUse 6)) (xCst (.int 1))) aNil)))) aNil))) sNx)
  (sSet 1 (xOp dSub (xUse 1) (xUse 6)))))
noncomputable def b__law_front : Sx := (sSeq (sSet 2 (lstD 0 aNil))
  (sSeq (sFor (iSlot 0) (gTp 3 (gsCons (gNm 3) (gsCons (gNm 4) (gsCons (gNm 5) gsNil)))) l1__law_front)
  (sRet (xMov 2))))
noncomputable def m__law_front : Ex := mB 2 5 [] b__law_front
abbrev N__law_front : List Str := ["runs", "many", "found", "writer", "first", "last", "here"]
abbrev P__law_front : List Str := ["runs", "many"]
abbrev s__law_front : Stmt := top 32
theorem sc__law_front : FnScope N__law_front P__law_front (defScope s__law_front) := C8.fnScope_by (by decide +kernel)
theorem w__law_front (TT : Gt mg) {f : Addr} (cdv : Value) (A : Around) (outer : List Env) (s : Shared) (H : Hp) (EE : XK) (hg : A.guards = some []) (hr : Room 0 (A.deeper (envOfC "_law_front" (defScope s__law_front) s.heap.objs.size f cdv))) :
    Ss (cxOf CX0 P w K mg base N__law_front "_law_front" (defScope s__law_front) f cdv A outer s H EE).nox [1, 2, 3, 4, 5, 6] (defBody s__law_front) b__law_front := by
  have nd := sc__law_front.nd
  have hu := hr.units
  have hu1 := hu_of hr
  have hu65 := hu65_of hr
  exact (Ss.cons (S.set (by decide) nd rfl (by first | exact .inl rfl | exact .inr rfl) (E.lst Os.nil))
  (Ss.cons (S.forA (mt := [3, 4, 5]) (by decide) PassesOwn.never rfl (pv 0) (G.tp rfl (Gs.cons (G.nm nd rfl (by first | exact .inl rfl | exact .inr rfl)) (Gs.cons (G.nm nd rfl (by first | exact .inl rfl | exact .inr rfl)) (Gs.cons (G.nm nd rfl (by first | exact .inl rfl | exact .inr rfl)) Gs.nil)))) (Ss.cons (S.set (by decide) nd rfl (by first | exact .inl rfl | exact .inr rfl) (E.callB (call_min2 rfl) cd_min2 (by rfl) TT.n_min (by decide +kernel) (As.cons (E.use (pv 1)) (As.cons (E.op op_addX od_addX (E.op op_sub od_sub (E.use (pv 5)) (E.use (pv 4))) E.int) As.nil))))
  (Ss.cons (S.if_ (T.cmp op_gt od_gt (E.use (pv 6)) E.int rfl) (Ss.one (S.exp (E.mut PySem.F.slot_list_append PySem.F.type_list_append mt_append md_app (pv 2) (As.cons (E.tup (As.cons (E.use (pv 3)) (As.cons (E.use (pv 4)) (As.cons (E.op op_sub od_sub (E.op op_addX od_addX (E.use (pv 4)) (E.use (pv 6))) E.int) As.nil)))) As.nil)))) Ss.nil)
  (Ss.one (S.set (by decide) nd rfl (by first | exact .inl rfl | exact .inr rfl) (E.op op_sub od_sub (E.use (pv 1)) (E.use (pv 6))))))))
  (Ss.one (S.ret (E.mov (pv 2))))))
theorem f__law_front (TT : Gt mg) {fa : Addr} {fd : FuncData} (F : FunA K "_law_front" "_law_front" s__law_front fa fd) : FnG P w K mg base 1 fa fd P__law_front (spD K 2 m__law_front) :=
  fn_ev F sc__law_front rfl rfl (by decide) (fun cdv A outer s H EE hg hr => w__law_front TT  cdv A outer s H EE hg hr)
theorem d__law_front (TT : Gt mg) {fa : Addr} {fd : FuncData} (F : FunA K "_law_front" "_law_front" s__law_front fa fd) (hm : mg "_law_front" = some (.ref fa)) (kp : PySem.W.keepIn K (.ref fa) = true) (hb : Binds K fd P__law_front []) : Df P w K mg base 1 "_law_front" 2 m__law_front := ⟨fa, fd, P__law_front, f__law_front TT  F, hm, kp, hb⟩
/-! ### _law_back: slots 0 runs; 1 many; 2 found; 3 writer; 4 first; 5 last; 6 here; -/
noncomputable def l1__law_back : Sx := (sSeq (sSet 6 (xCall kMin2 (aCons (xUse 1) (aCons (xOp dAddX (xOp dSub (xUse 5) (xUse 4)) (xCst (.int 1))) aNil))))
  (sSeq (sIf (tVal (xOp dLt (xUse 6) (xOp dAddX (xOp dSub (xUse 5) (xUse 4)) (xCst (.int 1))))) (sExp (xMut 2 mApp (aCons (tupD (aCons (xUse 3) (aCons (xOp dAddX (xUse 4) (xUse 6)) (aCons (xUse 5) aNil)))) aNil))) sNx)
  (sSet 1 (xOp dSub (xUse 1) (xUse 6)))))
noncomputable def b__law_back : Sx := (sSeq (sSet 2 (lstD 0 aNil))
  (sSeq (sFor (iSlot 0) (gTp 3 (gsCons (gNm 3) (gsCons (gNm 4) (gsCons (gNm 5) gsNil)))) l1__law_back)
  (sRet (xMov 2))))
noncomputable def m__law_back : Ex := mB 2 5 [] b__law_back
abbrev N__law_back : List Str := ["runs", "many", "found", "writer", "first", "last", "here"]
abbrev P__law_back : List Str := ["runs", "many"]
abbrev s__law_back : Stmt := top 33
theorem sc__law_back : FnScope N__law_back P__law_back (defScope s__law_back) := C8.fnScope_by (by decide +kernel)
theorem w__law_back (TT : Gt mg) {f : Addr} (cdv : Value) (A : Around) (outer : List Env) (s : Shared) (H : Hp) (EE : XK) (hg : A.guards = some []) (hr : Room 0 (A.deeper (envOfC "_law_back" (defScope s__law_back) s.heap.objs.size f cdv))) :
    Ss (cxOf CX0 P w K mg base N__law_back "_law_back" (defScope s__law_back) f cdv A outer s H EE).nox [1, 2, 3, 4, 5, 6] (defBody s__law_back) b__law_back := by
  have nd := sc__law_back.nd
  have hu := hr.units
  have hu1 := hu_of hr
  have hu65 := hu65_of hr
  exact (Ss.cons (S.set (by decide) nd rfl (by first | exact .inl rfl | exact .inr rfl) (E.lst Os.nil))
  (Ss.cons (S.forA (mt := [3, 4, 5]) (by decide) PassesOwn.never rfl (pv 0) (G.tp rfl (Gs.cons (G.nm nd rfl (by first | exact .inl rfl | exact .inr rfl)) (Gs.cons (G.nm nd rfl (by first | exact .inl rfl | exact .inr rfl)) (Gs.cons (G.nm nd rfl (by first | exact .inl rfl | exact .inr rfl)) Gs.nil)))) (Ss.cons (S.set (by decide) nd rfl (by first | exact .inl rfl | exact .inr rfl) (E.callB (call_min2 rfl) cd_min2 (by rfl) TT.n_min (by decide +kernel) (As.cons (E.use (pv 1)) (As.cons (E.op op_addX od_addX (E.op op_sub od_sub (E.use (pv 5)) (E.use (pv 4))) E.int) As.nil))))
  (Ss.cons (S.if_ (T.cmp op_lt od_lt (E.use (pv 6)) (E.op op_addX od_addX (E.op op_sub od_sub (E.use (pv 5)) (E.use (pv 4))) E.int) rfl) (Ss.one (S.exp (E.mut PySem.F.slot_list_append PySem.F.type_list_append mt_append md_app (pv 2) (As.cons (E.tup (As.cons (E.use (pv 3)) (As.cons (E.op op_addX od_addX (E.use (pv 4)) (E.use (pv 6))) (As.cons (E.use (pv 5)) As.nil)))) As.nil)))) Ss.nil)
  (Ss.one (S.set (by decide) nd rfl (by first | exact .inl rfl | exact .inr rfl) (E.op op_sub od_sub (E.use (pv 1)) (E.use (pv 6))))))))
  (Ss.one (S.ret (E.mov (pv 2))))))
theorem f__law_back (TT : Gt mg) {fa : Addr} {fd : FuncData} (F : FunA K "_law_back" "_law_back" s__law_back fa fd) : FnG P w K mg base 1 fa fd P__law_back (spD K 2 m__law_back) :=
  fn_ev F sc__law_back rfl rfl (by decide) (fun cdv A outer s H EE hg hr => w__law_back TT  cdv A outer s H EE hg hr)
theorem d__law_back (TT : Gt mg) {fa : Addr} {fd : FuncData} (F : FunA K "_law_back" "_law_back" s__law_back fa fd) (hm : mg "_law_back" = some (.ref fa)) (kp : PySem.W.keepIn K (.ref fa) = true) (hb : Binds K fd P__law_back []) : Df P w K mg base 1 "_law_back" 2 m__law_back := ⟨fa, fd, P__law_back, f__law_back TT  F, hm, kp, hb⟩
/-! ### _law_same: slots 0 found; 1 due; 2 one; 3 other; -/
noncomputable def e1__law_same (mr : Ex) : Ex := (xApp mr [(.ex (xUse 2)), (.ex (xUse 3))])
noncomputable def b__law_same (mr : Ex) : Sx := (sSeq (sIf (tVal (xIsi2 "list" "tuple" (xUse 1))) (sSeq (sIf (tOrr (tVal (xOp dNeA (xIsi "list" (xUse 0)) (xIsi "list" (xUse 1)))) (tVal (xOp dNeA (xIsi "tuple" (xUse 0)) (xIsi "tuple" (xUse 1))))) (sRet (xCst (.bool false))) sNx)
  (sRet (xAn (xOp dEqA (xCall kLenA (aCons (xUse 0) aNil)) (xCall kLenA (aCons (xUse 1) aNil))) (xCall kAll (aCons (xLc (iZipE (aCons (xUse 0) (aCons (xUse 1) aNil))) [2, 3] (gTp 2 (gsCons (gNm 2) (gsCons (gNm 3) gsNil))) cYes (e1__law_same mr)) aNil))))) sNx)
  (sRet (xAn (xOp dEqA (xIsi "bool" (xUse 0)) (xIsi "bool" (xUse 1))) (xOp dEqA (xUse 0) (xUse 1)))))
noncomputable def r__law_same (mr : Ex) : Ex := mB 2 2 [] (b__law_same mr)
noncomputable def m__law_same : Ex := fuel r__law_same 12
abbrev N__law_same : List Str := ["found", "due", "one", "other"]
abbrev P__law_same : List Str := ["found", "due"]
abbrev s__law_same : Stmt := top 31
theorem sc__law_same : FnScope N__law_same P__law_same (defScope s__law_same) := C8.fnScope_by (by decide +kernel)
theorem w__law_same (TT : Gt mg) {mr : Ex} {k : Nat} (hk : 0 ≤ k) (DR : Df P w K mg base k "_law_same" 2 mr) {f : Addr} (cdv : Value) (A : Around) (outer : List Env) (s : Shared) (H : Hp) (EE : XK) (hg : A.guards = some []) (hr : Room k (A.deeper (envOfC "_law_same" (defScope s__law_same) s.heap.objs.size f cdv))) :
    Ss (cxOf CX0 P w K mg base N__law_same "_law_same" (defScope s__law_same) f cdv A outer s H EE).nox [] (defBody s__law_same) (b__law_same mr) := by
  have nd := sc__law_same.nd
  have hu := hr.units
  have hu1 := hu_of hr
  have hu65 := hu65_of hr
  exact (Ss.cons (S.if_ (T.val (E.isi2 (by rfl) TT.n_isinstance (E.use (pv 1)) (ty_pe (by rfl) TT.n_list (by decide +kernel)) (ty_pe (by rfl) TT.n_tuple (by decide +kernel)))) (Ss.cons (S.if_ (W.t (W.or (T.cmp (op_neA hu) od_neA (E.isi (by rfl) TT.n_isinstance (E.use (pv 0)) (ty_pe (by rfl) TT.n_list (by decide +kernel))) (E.isi (by rfl) TT.n_isinstance (E.use (pv 1)) (ty_pe (by rfl) TT.n_list (by decide +kernel))) rfl) (W.or1 (T.cmp (op_neA hu) od_neA (E.isi (by rfl) TT.n_isinstance (E.use (pv 0)) (ty_pe (by rfl) TT.n_tuple (by decide +kernel))) (E.isi (by rfl) TT.n_isinstance (E.use (pv 1)) (ty_pe (by rfl) TT.n_tuple (by decide +kernel))) rfl)))) (Ss.one (S.ret E.bool)) Ss.nil)
  (Ss.one (S.ret (E.and (E.cmp (op_eqA hu) od_eqA (E.callB call_lenA cd_lenA (by rfl) TT.n_len (by decide +kernel) (As.cons (E.use (pv 0)) As.nil)) (E.callB call_lenA cd_lenA (by rfl) TT.n_len (by decide +kernel) (As.cons (E.use (pv 1)) As.nil)) rfl) (E.one (E.callB (cr_all rfl) cd_all (by rfl) TT.n_all (by decide +kernel) (As.cons (E.lc (own := [("one", 2), ("other", 3)]) rfl nd (I.zipA (by rfl) TT.n_zip (As.cons (E.use (pv 0)) (As.cons (E.use (pv 1)) As.nil))) (blkOk_by (N := N__law_same) (sc := defScope s__law_same) (own := [("one", 2), ("other", 3)]) (by decide +kernel)) (fun _ _ _ _ _ => (G.tp rfl (Gs.cons (G.nm nd rfl (by first | exact .inl rfl | exact .inr rfl)) (Gs.cons (G.nm nd rfl (by first | exact .inl rfl | exact .inr rfl)) Gs.nil)))) (by decide) (fun _ _ _ _ _ => Ts.nil) (fun _ _ _ _ _ => (E.app DR hg hr (by rfl) (Arg.ex (E.use (pv 2)) (Arg.ex (E.use (pv 3)) Arg.nil))))) As.nil))))))) Ss.nil)
  (Ss.one (S.ret (E.and (E.cmp (op_eqA hu) od_eqA (E.isi (by rfl) TT.n_isinstance (E.use (pv 0)) (ty_pe (by rfl) TT.n_bool (by decide +kernel))) (E.isi (by rfl) TT.n_isinstance (E.use (pv 1)) (ty_pe (by rfl) TT.n_bool (by decide +kernel))) rfl) (E.one (E.cmp (op_eqA hu) od_eqA (E.use (pv 0)) (E.use (pv 1)) rfl))))))
theorem d__law_same (TT : Gt mg) {fa : Addr} {fd : FuncData} (F : FunA K "_law_same" "_law_same" s__law_same fa fd) (hm : mg "_law_same" = some (.ref fa)) (kp : PySem.W.keepIn K (.ref fa) = true) (hb : Binds K fd P__law_same []) : Df P w K mg base 12 "_law_same" 2 m__law_same := by
  have key : ∀ j, Df P w K mg base (0 + j) "_law_same" 2 (fuel r__law_same j) := by
    intro j
    induction j with
    | zero => exact ⟨fa, fd, P__law_same, FnG.none rfl, hm, kp, hb⟩
    | succ j ih => exact ⟨fa, fd, P__law_same, fn_ev F sc__law_same rfl rfl (by decide) (fun cdv A outer s H EE hg hr => w__law_same TT  (Nat.le_add_right _ _) ih cdv A outer s H EE hg hr), hm, kp, hb⟩
  exact key 12
/-! ### _law_begun: slots 0 some; 1 runs; 2 many; 3 writer; 4 first; 5 last; -/
noncomputable def e1__law_begun : Ex := (xOp dAddX (xOp dSub (xUse 5) (xUse 4)) (xCst (.int 1)))
noncomputable def b__law_begun : Sx := (sSeq (sSet 2 (xCall kSum (aCons (xLc (iSlot 0) [3, 4, 5] (gTp 3 (gsCons (gNm 3) (gsCons (gNm 4) (gsCons (gNm 5) gsNil)))) cYes e1__law_begun) aNil)))
  (sRet (xOp dEqA (xApp m__law_front [(.ex (xUse 1)), (.ex (xUse 2))]) (xUse 0))))
noncomputable def m__law_begun : Ex := mB 2 4 [] b__law_begun
abbrev N__law_begun : List Str := ["some", "runs", "many", "writer", "first", "last"]
abbrev P__law_begun : List Str := ["some", "runs"]
abbrev s__law_begun : Stmt := top 36
theorem sc__law_begun : FnScope N__law_begun P__law_begun (defScope s__law_begun) := C8.fnScope_by (by decide +kernel)
theorem w__law_begun (TT : Gt mg) (D__law_front : Df P w K mg base 1 "_law_front" 2 m__law_front) {f : Addr} (cdv : Value) (A : Around) (outer : List Env) (s : Shared) (H : Hp) (EE : XK) (hg : A.guards = some []) (hr : Room 1 (A.deeper (envOfC "_law_begun" (defScope s__law_begun) s.heap.objs.size f cdv))) :
    Ss (cxOf CX0 P w K mg base N__law_begun "_law_begun" (defScope s__law_begun) f cdv A outer s H EE).nox [2] (defBody s__law_begun) b__law_begun := by
  have nd := sc__law_begun.nd
  have hu := hr.units
  have hu1 := hu_of hr
  have hu65 := hu65_of hr
  exact (Ss.cons (S.set (by decide) nd rfl (by first | exact .inl rfl | exact .inr rfl) (E.callB (cr_sum rfl) cd_sum (by rfl) TT.n_sum (by decide +kernel) (As.cons (E.lcA (own := [("writer", 3), ("first", 4), ("last", 5)]) rfl nd (pv 0) (blkOk_by (N := N__law_begun) (sc := defScope s__law_begun) (own := [("writer", 3), ("first", 4), ("last", 5)]) (by decide +kernel)) (fun _ _ _ _ _ => (G.tp rfl (Gs.cons (G.nm nd rfl (by first | exact .inl rfl | exact .inr rfl)) (Gs.cons (G.nm nd rfl (by first | exact .inl rfl | exact .inr rfl)) (Gs.cons (G.nm nd rfl (by first | exact .inl rfl | exact .inr rfl)) Gs.nil))))) (by decide) (fun _ _ _ _ _ => Ts.nil) (fun _ _ _ _ _ => (E.op op_addX od_addX (E.op op_sub od_sub (E.use (pv 5)) (E.use (pv 4))) E.int))) As.nil)))
  (Ss.one (S.ret (E.cmp (op_eqA hu) od_eqA (E.app D__law_front hg (hr.mono (by decide)) (by rfl) (Arg.ex (E.use (pv 1)) (Arg.ex (E.use (pv 2)) Arg.nil))) (E.use (pv 0)) rfl))))
theorem f__law_begun (TT : Gt mg) (D__law_front : Df P w K mg base 1 "_law_front" 2 m__law_front) {fa : Addr} {fd : FuncData} (F : FunA K "_law_begun" "_law_begun" s__law_begun fa fd) : FnG P w K mg base 2 fa fd P__law_begun (spD K 2 m__law_begun) :=
  fn_ev F sc__law_begun rfl rfl (by decide) (fun cdv A outer s H EE hg hr => w__law_begun TT D__law_front cdv A outer s H EE hg hr)
theorem d__law_begun (TT : Gt mg) (D__law_front : Df P w K mg base 1 "_law_front" 2 m__law_front) {fa : Addr} {fd : FuncData} (F : FunA K "_law_begun" "_law_begun" s__law_begun fa fd) (hm : mg "_law_begun" = some (.ref fa)) (kp : PySem.W.keepIn K (.ref fa) = true) (hb : Binds K fd P__law_begun []) : Df P w K mg base 2 "_law_begun" 2 m__law_begun := ⟨fa, fd, P__law_begun, f__law_begun TT D__law_front F, hm, kp, hb⟩
/-! ### _law_cuts_right: slots 0 bowl; 1 text; 2 runs; 3 kept; 4 many; 5 front; 6 back; 7 told; -/
noncomputable def l1__law_cuts_right : Sx := (sSeq (sPar2 5 6 (xFz (xApp m__law_front [(.ex (xUse 2)), (.ex (xUse 4))])) (xFz (xApp m__law_back [(.ex (xUse 2)), (.ex (xUse 4))])))
  (sSeq (sSet 7 (xApp m_split_at [(.ex (xUse 1)), (.ex (xUse 4))]))
  (sSeq (sIf (tBrw (tOrr (tNo (tVal (xApp m__law_same [(.ex (xUse 7)), (.ex (tupD (aCons (xUse 5) (aCons (xUse 6) aNil))))]))) (tVal (xOp dNotA (xApp m_is_prefix [(.ex (xOp dIxA (xUse 7) (xCst (.int 0)))), (.ex (xUse 1))]) (xCst (.bool true)))))) (sRet (xCst (.bool false))) sNx)
  (sSeq (sIf (tBrw (tOrr (tVal (xOp dNeA (xApp m_is_prefix [(.ex (xUse 1)), (.ex (xOp dIxA (xUse 7) (xCst (.int 0))))]) (xOp dEqA (xUse 6) (lstD 0 aNil)))) (tVal (xOp dNeA (xApp m_is_prefix [(.ex (xCall kTuple (aCons (xUse 6) aNil))), (.ex (xUse 1))]) (xApp m__law_begun [(.ex (xUse 6)), (.ex (xUse 2))]))))) (sRet (xCst (.bool false))) sNx)
  (sSeq (sExp (xMutT 7 0 mApp (aCons (tupD (aCons (xCst (.str "more")) (aCons (xCst (.int 1)) (aCons (xCst (.int 1)) aNil)))) aNil)))
  (sSeq (sExp (xMutT 7 1 mClear aNil))
  (sIf (tBrw (tAn (tVal (xOp dNeA (xUse 5) (lstD 0 aNil))) (tVal (xApp m_is_prefix [(.ex (xOp dIxA (xUse 7) (xCst (.int 0)))), (.ex (xUse 1))])))) (sRet (xCst (.bool false))) sNx)))))))
noncomputable def b__law_cuts_right : Sx := (sSeq (sSet 3 (xCall kRepr (aCons (xUse 1) aNil)))
  (sSeq (sFor (iAny (xApp m__law_spots [(.io 0), (.ex (xUse 2))])) (gNm 4) l1__law_cuts_right)
  (sRet (xOp dEqA (xCall kRepr (aCons (xUse 1) aNil)) (xUse 3)))))
noncomputable def m__law_cuts_right : Ex := mB 3 5 [0] b__law_cuts_right
abbrev N__law_cuts_right : List Str := ["bowl", "text", "runs", "kept", "many", "front", "back", "told"]
abbrev P__law_cuts_right : List Str := ["bowl", "text", "runs"]
abbrev s__law_cuts_right : Stmt := top 35
theorem sc__law_cuts_right : FnScope N__law_cuts_right P__law_cuts_right (defScope s__law_cuts_right) := C8.fnScope_by (by decide +kernel)
theorem w__law_cuts_right (TT : Gt mg) (D__law_spots : Df P w K mg base 2 "_law_spots" 2 m__law_spots) (D_split_at : Df P w K mg base 5 "split_at" 2 m_split_at) (D__law_front : Df P w K mg base 1 "_law_front" 2 m__law_front) (D__law_back : Df P w K mg base 1 "_law_back" 2 m__law_back) (D_is_prefix : Df P w K mg base 5 "is_prefix" 2 m_is_prefix) (D__law_same : Df P w K mg base 12 "_law_same" 2 m__law_same) (D__law_begun : Df P w K mg base 2 "_law_begun" 2 m__law_begun) {f : Addr} (cdv : Value) (A : Around) (outer : List Env) (s : Shared) (H : Hp) (EE : XK) (hg : A.guards = some []) (hr : Room 12 (A.deeper (envOfC "_law_cuts_right" (defScope s__law_cuts_right) s.heap.objs.size f cdv))) :
    Ss (cxOf CX0 P w K mg base N__law_cuts_right "_law_cuts_right" (defScope s__law_cuts_right) f cdv A outer s H EE).nox [3, 4, 5, 6, 7] (defBody s__law_cuts_right) b__law_cuts_right := by
  have nd := sc__law_cuts_right.nd
  have hu := hr.units
  have hu1 := hu_of hr
  have hu65 := hu65_of hr
  exact (Ss.cons (S.set (by decide) nd rfl (by first | exact .inl rfl | exact .inr rfl) (E.callB (call_reprA hg hu) cd_repr (by rfl) TT.n_repr (by decide +kernel) (As.cons (E.use (pv 1)) As.nil)))
  (Ss.cons (S.for_ (mt := [4]) (by decide) PassesOwn.never rfl (I.any (E.app D__law_spots hg (hr.mono (by decide)) (by rfl) (Arg.io (pv 0) (Arg.ex (E.use (pv 2)) Arg.nil)))) (G.nm nd rfl (by first | exact .inl rfl | exact .inr rfl)) (Ss.cons (S.par (by decide) (by decide) rfl nd rfl rfl (by decide) rfl rfl (E.fz (E.app D__law_front hg (hr.mono (by decide)) (by rfl) (Arg.ex (E.use (pv 2)) (Arg.ex (E.use (pv 4)) Arg.nil)))) (E.fz (E.app D__law_back hg (hr.mono (by decide)) (by rfl) (Arg.ex (E.use (pv 2)) (Arg.ex (E.use (pv 4)) Arg.nil)))))
  (Ss.cons (S.set (by decide) nd rfl (by first | exact .inl rfl | exact .inr rfl) (E.app D_split_at hg (hr.mono (by decide)) (by rfl) (Arg.ex (E.use (pv 1)) (Arg.ex (E.use (pv 4)) Arg.nil))))
  (Ss.cons (S.if_ (T.brw (W.t (W.or (T.not (T.val (E.app D__law_same hg (hr.mono (by decide)) (by rfl) (Arg.ex (E.use (pv 7)) (Arg.ex (E.tup (As.cons (E.use (pv 5)) (As.cons (E.use (pv 6)) As.nil))) Arg.nil))))) (W.or1 (T.cmp op_notA od_notA (E.app D_is_prefix hg (hr.mono (by decide)) (by rfl) (Arg.ex (E.ixA hu1 (E.use (pv 7)) E.int) (Arg.ex (E.use (pv 1)) Arg.nil))) E.bool rfl))))) (Ss.one (S.ret E.bool)) Ss.nil)
  (Ss.cons (S.if_ (T.brw (W.t (W.or (T.cmp (op_neA hu) od_neA (E.app D_is_prefix hg (hr.mono (by decide)) (by rfl) (Arg.ex (E.use (pv 1)) (Arg.ex (E.ixA hu1 (E.use (pv 7)) E.int) Arg.nil))) (E.cmp (op_eqA hu) od_eqA (E.use (pv 6)) (E.lst Os.nil) rfl) rfl) (W.or1 (T.cmp (op_neA hu) od_neA (E.app D_is_prefix hg (hr.mono (by decide)) (by rfl) (Arg.ex (E.callTy call_tuple_of cd_tuple (by rfl) TT.n_tuple (by decide +kernel) (As.cons (E.use (pv 6)) As.nil)) (Arg.ex (E.use (pv 1)) Arg.nil))) (E.app D__law_begun hg (hr.mono (by decide)) (by rfl) (Arg.ex (E.use (pv 6)) (Arg.ex (E.use (pv 2)) Arg.nil))) rfl))))) (Ss.one (S.ret E.bool)) Ss.nil)
  (Ss.cons (S.exp (E.mutT PySem.F.slot_list_append PySem.F.type_list_append mt_append md_app (pv 7) pe_int (As.cons (E.tup (As.cons E.str (As.cons E.int (As.cons E.int As.nil)))) As.nil)))
  (Ss.cons (S.exp (E.mutT0 PySem.F.slot_list_clear PySem.F.type_list_clear mt_clear md_clear (pv 7) pe_int))
  (Ss.one (S.if_ (T.brw (W.t (W.and (T.cmp (op_neA hu) od_neA (E.use (pv 5)) (E.lst Os.nil) rfl) (W.and1 (T.val (E.app D_is_prefix hg (hr.mono (by decide)) (by rfl) (Arg.ex (E.ixA hu1 (E.use (pv 7)) E.int) (Arg.ex (E.use (pv 1)) Arg.nil)))))))) (Ss.one (S.ret E.bool)) Ss.nil)))))))))
  (Ss.one (S.ret (E.cmp (op_eqA hu) od_eqA (E.callB (call_reprA hg hu) cd_repr (by rfl) TT.n_repr (by decide +kernel) (As.cons (E.use (pv 1)) As.nil)) (E.use (pv 3)) rfl)))))
theorem f__law_cuts_right (TT : Gt mg) (D__law_spots : Df P w K mg base 2 "_law_spots" 2 m__law_spots) (D_split_at : Df P w K mg base 5 "split_at" 2 m_split_at) (D__law_front : Df P w K mg base 1 "_law_front" 2 m__law_front) (D__law_back : Df P w K mg base 1 "_law_back" 2 m__law_back) (D_is_prefix : Df P w K mg base 5 "is_prefix" 2 m_is_prefix) (D__law_same : Df P w K mg base 12 "_law_same" 2 m__law_same) (D__law_begun : Df P w K mg base 2 "_law_begun" 2 m__law_begun) {fa : Addr} {fd : FuncData} (F : FunA K "_law_cuts_right" "_law_cuts_right" s__law_cuts_right fa fd) : FnG P w K mg base 13 fa fd P__law_cuts_right (spD K 3 m__law_cuts_right) :=
  fn_ev F sc__law_cuts_right rfl rfl (by decide) (fun cdv A outer s H EE hg hr => w__law_cuts_right TT D__law_spots D_split_at D__law_front D__law_back D_is_prefix D__law_same D__law_begun cdv A outer s H EE hg hr)
theorem d__law_cuts_right (TT : Gt mg) (D__law_spots : Df P w K mg base 2 "_law_spots" 2 m__law_spots) (D_split_at : Df P w K mg base 5 "split_at" 2 m_split_at) (D__law_front : Df P w K mg base 1 "_law_front" 2 m__law_front) (D__law_back : Df P w K mg base 1 "_law_back" 2 m__law_back) (D_is_prefix : Df P w K mg base 5 "is_prefix" 2 m_is_prefix) (D__law_same : Df P w K mg base 12 "_law_same" 2 m__law_same) (D__law_begun : Df P w K mg base 2 "_law_begun" 2 m__law_begun) {fa : Addr} {fd : FuncData} (F : FunA K "_law_cuts_right" "_law_cuts_right" s__law_cuts_right fa fd) (hm : mg "_law_cuts_right" = some (.ref fa)) (kp : PySem.W.keepIn K (.ref fa) = true) (hb : Binds K fd P__law_cuts_right []) : Df P w K mg base 13 "_law_cuts_right" 3 m__law_cuts_right := ⟨fa, fd, P__law_cuts_right, f__law_cuts_right TT D__law_spots D_split_at D__law_front D__law_back D_is_prefix D__law_same D__law_begun F, hm, kp, hb⟩
/-! ### count_lines: slots 0 content; -/
noncomputable def b_count_lines : Sx := (sRet (xApp m_total_length [(.ex (xApp m_require_well_formed [(.ex (xUse 0))]))]))
noncomputable def m_count_lines : Ex := mB 1 0 [] b_count_lines
abbrev N_count_lines : List Str := ["content"]
abbrev P_count_lines : List Str := ["content"]
abbrev s_count_lines : Stmt := top 18
theorem sc_count_lines : FnScope N_count_lines P_count_lines (defScope s_count_lines) := C8.fnScope_by (by decide +kernel)
theorem w_count_lines (TT : Gt mg) (D_total_length : Df P w K mg base 2 "total_length" 1 m_total_length) (D_require_well_formed : Df P w K mg base 4 "require_well_formed" 1 m_require_well_formed) {f : Addr} (cdv : Value) (A : Around) (outer : List Env) (s : Shared) (H : Hp) (EE : XK) (hg : A.guards = some []) (hr : Room 4 (A.deeper (envOfC "count_lines" (defScope s_count_lines) s.heap.objs.size f cdv))) :
    Ss (cxOf CX0 P w K mg base N_count_lines "count_lines" (defScope s_count_lines) f cdv A outer s H EE).nox [] (defBody s_count_lines) b_count_lines := by
  have nd := sc_count_lines.nd
  have hu := hr.units
  have hu1 := hu_of hr
  have hu65 := hu65_of hr
  exact (Ss.one (S.ret (E.app D_total_length hg (hr.mono (by decide)) (by rfl) (Arg.ex (E.app D_require_well_formed hg (hr.mono (by decide)) (by rfl) (Arg.ex (E.use (pv 0)) Arg.nil)) Arg.nil))))
theorem f_count_lines (TT : Gt mg) (D_total_length : Df P w K mg base 2 "total_length" 1 m_total_length) (D_require_well_formed : Df P w K mg base 4 "require_well_formed" 1 m_require_well_formed) {fa : Addr} {fd : FuncData} (F : FunA K "count_lines" "count_lines" s_count_lines fa fd) : FnG P w K mg base 5 fa fd P_count_lines (spD K 1 m_count_lines) :=
  fn_ev F sc_count_lines rfl rfl (by decide) (fun cdv A outer s H EE hg hr => w_count_lines TT D_total_length D_require_well_formed cdv A outer s H EE hg hr)
theorem d_count_lines (TT : Gt mg) (D_total_length : Df P w K mg base 2 "total_length" 1 m_total_length) (D_require_well_formed : Df P w K mg base 4 "require_well_formed" 1 m_require_well_formed) {fa : Addr} {fd : FuncData} (F : FunA K "count_lines" "count_lines" s_count_lines fa fd) (hm : mg "count_lines" = some (.ref fa)) (kp : PySem.W.keepIn K (.ref fa) = true) (hb : Binds K fd P_count_lines []) : Df P w K mg base 5 "count_lines" 1 m_count_lines := ⟨fa, fd, P_count_lines, f_count_lines TT D_total_length D_require_well_formed F, hm, kp, hb⟩
/-! ### law: slots 0 script; 1 bowl; 2 turn; 3 rows; 4 runs; 5 other; 6 text; 7 one; 8 two; 9 writer; 10 number; 11 line; 12 due; 13 told; -/
noncomputable def l2_law : Sx := (sIf (tVal (xOp dNeA (xApp m_is_prefix [(.ex (xUse 7)), (.ex (xUse 8))]) (xApp m__law_begun [(.ex (xUse 7)), (.ex (xUse 8))]))) (sRet (xCst (.bool false))) sNx)
noncomputable def l1_law : Sx := (sSeq (sSet 3 (xFz (xApp m__law_rows [(.io 1), (.ex (xCst (.int 5))), (.ex (xOp dIxA (lstD 0 (oCons 0 (xCst (.int 6)) (oCons 0 (xOp dPow (xCst (.int 10)) (xCst (.int 30))) aNil))) (xApp m__law_dip [(.io 1), (.ex (xCst (.int 2)))])))])))
  (sSeq (sPar2 4 5 (xFz (xApp m__law_runs [(.io 1), (.ex (xUse 3)), (.ex (xCst (.int 12)))])) (xFz (xApp m__law_runs [(.io 1), (.ex (xUse 3)), (.ex (xCst (.int 3)))])))
  (sSeq (sSet 6 (xFz (xOp dIxA (lstD 0 (oCons 0 (xFz (xCall kListA (aCons (xUse 4) aNil))) (oCons 0 (xFz (xCall kTuple (aCons (xUse 4) aNil))) aNil))) (xApp m__law_dip [(.io 1), (.ex (xCst (.int 2)))]))))
  (sSeq (sIf (tNo (tVal (xApp m__law_cuts_right [(.io 1), (.ex (xUse 6)), (.ex (xUse 4))]))) (sRet (xCst (.bool false))) sNx)
  (sSeq (sFor (iAny (lstD 0 (oCons 0 (xFz (tupD (aCons (xUse 4) (aCons (xUse 5) aNil)))) (oCons 0 (xFz (tupD (aCons (xUse 5) (aCons (xUse 4) aNil)))) (oCons 0 (xFz (tupD (aCons (xUse 5) (aCons (xUse 5) aNil)))) aNil))))) (gTp 2 (gsCons (gNm 7) (gsCons (gNm 8) gsNil))) l2_law)
  (sSeq (sSet 9 (xFz (xOp dIxA (xCall kSortedA (aCons (xUse 3) aNil)) (xApp m__law_dip [(.io 1), (.ex (xCall kLenA (aCons (xUse 3) aNil)))]))))
  (sSeq (sSet 10 (xOp dAddX (xCst (.int 1)) (xApp m__law_dip [(.io 1), (.ex (xOp dIxA (lstD 0 (oCons 0 (xCst (.int 3)) (oCons 0 (xOp dPow (xCst (.int 10)) (xCst (.int 30))) aNil))) (xApp m__law_dip [(.io 1), (.ex (xCst (.int 2)))])))])))
  (sSeq (sSet 11 (xFz (tupD (aCons (xUse 9) (aCons (xUse 10) aNil)))))
  (sSeq (sIf (tAn (tVal (xOp dNeA (xUse 4) (lstD 0 aNil))) (tVal (xOp dEqA (xApp m__law_dip [(.io 1), (.ex (xCst (.int 2)))]) (xCst (.int 0))))) (sSet 11 (xFz (tupD (aCons (xOp dIxA (xOp dIxA (xUse 4) (xUn dNeg (xCst (.int 1)))) (xCst (.int 0))) (aCons (xCall kMin2 (aCons (xOp dPow (xCst (.int 10)) (xCst (.int 30))) (aCons (xOp dAddX (xOp dIxA (xOp dIxA (xUse 4) (xUn dNeg (xCst (.int 1)))) (xCst (.int 2))) (xCst (.int 1))) aNil))) aNil))))) sNx)
  (sSeq (sSet 12 (xFz (xApp m__law_put [(.ex (xCall kListA (aCons (xUse 4) aNil))), (.ex (tupD (aCons (xOp dIxA (xUse 11) (xCst (.int 0))) (aCons (xOp dIxA (xUse 11) (xCst (.int 1))) (aCons (xOp dIxA (xUse 11) (xCst (.int 1))) aNil)))))])))
  (sSeq (sSet 13 (xApp m_append_line [(.ex (xUse 6)), (.ex (xUse 11))]))
  (sSeq (sIf (tBrw (tOrr (tNo (tVal (xApp m__law_same [(.ex (xUse 13)), (.ex (xUse 12))]))) (tVal (xOp dNeA (xApp m_count_lines [(.ex (xUse 13))]) (xOp dAddX (xApp m_count_lines [(.ex (xUse 6))]) (xCst (.int 1))))))) (sRet (xCst (.bool false))) sNx)
  (sSeq (sExp (xMut 13 mClear aNil))
  (sIf (tOrr (tNo (tVal (xApp m__law_same [(.ex (xApp m_append_line [(.ex (xUse 6)), (.ex (xUse 11))])), (.ex (xUse 12))]))) (tVal (xOp dNeA (xCall kListA (aCons (xUse 6) aNil)) (xUse 4)))) (sRet (xCst (.bool false))) sNx))))))))))))))
noncomputable def b_law : Sx := (sSeq (sSet 1 (xApp m__law_bowl [(.ex (xUse 0))]))
  (sSeq (sFor (iRg1 (aCons (xOp dAddX (xCst (.int 3)) (xCall kMin2 (aCons (xCst (.int 9)) (aCons (xCall kLenA (aCons (xUse 0) aNil)) aNil)))) aNil)) (gNm 2) l1_law)
  (sRet (xOp dIsA (xApp m_is_prefix [(.ex (lstD 0 aNil)), (.ex (lstD 0 aNil))]) (xCst (.bool true))))))
noncomputable def m_law : Ex := mB 1 13 [] b_law
abbrev N_law : List Str := ["script", "bowl", "turn", "rows", "runs", "other", "text", "one", "two", "writer", "number", "line", "due", "told"]
abbrev P_law : List Str := ["script"]
abbrev s_law : Stmt := top 37
theorem sc_law : FnScope N_law P_law (defScope s_law) := C8.fnScope_by (by decide +kernel)
theorem w_law (TT : Gt mg) (D__law_bowl : Df P w K mg base 1 "_law_bowl" 1 m__law_bowl) (D__law_rows : Df P w K mg base 2 "_law_rows" 3 m__law_rows) (D__law_put : Df P w K mg base 1 "_law_put" 2 m__law_put) (D_append_line : Df P w K mg base 5 "append_line" 2 m_append_line) (D_is_prefix : Df P w K mg base 5 "is_prefix" 2 m_is_prefix) (D__law_runs : Df P w K mg base 2 "_law_runs" 3 m__law_runs) (D__law_dip : Df P w K mg base 1 "_law_dip" 2 m__law_dip) (D__law_cuts_right : Df P w K mg base 13 "_law_cuts_right" 3 m__law_cuts_right) (D__law_begun : Df P w K mg base 2 "_law_begun" 2 m__law_begun) (D__law_same : Df P w K mg base 12 "_law_same" 2 m__law_same) (D_count_lines : Df P w K mg base 5 "count_lines" 1 m_count_lines) {f : Addr} (cdv : Value) (A : Around) (outer : List Env) (s : Shared) (H : Hp) (EE : XK) (hg : A.guards = some []) (hr : Room 13 (A.deeper (envOfC "law" (defScope s_law) s.heap.objs.size f cdv))) :
    Ss (cxOf CX0 P w K mg base N_law "law" (defScope s_law) f cdv A outer s H EE).nox [1, 2, 3, 4, 5, 6, 7, 8, 9, 10, 11, 12, 13] (defBody s_law) b_law := by
  have nd := sc_law.nd
  have hu := hr.units
  have hu1 := hu_of hr
  have hu65 := hu65_of hr
  exact (Ss.cons (S.set (by decide) nd rfl (by first | exact .inl rfl | exact .inr rfl) (E.app D__law_bowl hg (hr.mono (by decide)) (by rfl) (Arg.ex (E.use (pv 0)) Arg.nil)))
  (Ss.cons (S.for_ (mt := [2]) (by decide) PassesOwn.never rfl (I.rg1 (by rfl) TT.n_range (As.cons (E.op op_addX od_addX E.int (E.callB (call_min2 rfl) cd_min2 (by rfl) TT.n_min (by decide +kernel) (As.cons E.int (As.cons (E.callB call_lenA cd_lenA (by rfl) TT.n_len (by decide +kernel) (As.cons (E.use (pv 0)) As.nil)) As.nil)))) As.nil)) (G.nm nd rfl (by first | exact .inl rfl | exact .inr rfl)) (Ss.cons (S.set (by decide) nd rfl (by first | exact .inl rfl | exact .inr rfl) (E.fz (E.app D__law_rows hg (hr.mono (by decide)) (by rfl) (Arg.io (pv 1) (Arg.ex E.int (Arg.ex (E.ixA hu1 (E.lst (Os.cons E.int (Os.cons (E.op op_powA od_pow E.int E.int) Os.nil))) (E.app D__law_dip hg (hr.mono (by decide)) (by rfl) (Arg.io (pv 1) (Arg.ex E.int Arg.nil)))) Arg.nil))))))
  (Ss.cons (S.par (by decide) (by decide) rfl nd rfl rfl (by decide) rfl rfl (E.fz (E.app D__law_runs hg (hr.mono (by decide)) (by rfl) (Arg.io (pv 1) (Arg.ex (E.use (pv 3)) (Arg.ex E.int Arg.nil))))) (E.fz (E.app D__law_runs hg (hr.mono (by decide)) (by rfl) (Arg.io (pv 1) (Arg.ex (E.use (pv 3)) (Arg.ex E.int Arg.nil))))))
  (Ss.cons (S.set (by decide) nd rfl (by first | exact .inl rfl | exact .inr rfl) (E.fz (E.ixA hu1 (E.lst (Os.cons (E.fz (E.callTy (call_listA rfl) cd_listA (by rfl) TT.n_list (by decide +kernel) (As.cons (E.use (pv 4)) As.nil))) (Os.cons (E.fz (E.callTy call_tuple_of cd_tuple (by rfl) TT.n_tuple (by decide +kernel) (As.cons (E.use (pv 4)) As.nil))) Os.nil))) (E.app D__law_dip hg (hr.mono (by decide)) (by rfl) (Arg.io (pv 1) (Arg.ex E.int Arg.nil))))))
  (Ss.cons (S.if_ (T.not (T.val (E.app D__law_cuts_right hg (hr.mono (by decide)) (by rfl) (Arg.io (pv 1) (Arg.ex (E.use (pv 6)) (Arg.ex (E.use (pv 4)) Arg.nil)))))) (Ss.one (S.ret E.bool)) Ss.nil)
  (Ss.cons (S.for_ (mt := [7, 8]) (by decide) PassesOwn.never rfl (I.any (E.lst (Os.cons (E.fz (E.tup (As.cons (E.use (pv 4)) (As.cons (E.use (pv 5)) As.nil)))) (Os.cons (E.fz (E.tup (As.cons (E.use (pv 5)) (As.cons (E.use (pv 4)) As.nil)))) (Os.cons (E.fz (E.tup (As.cons (E.use (pv 5)) (As.cons (E.use (pv 5)) As.nil)))) Os.nil))))) (G.tp rfl (Gs.cons (G.nm nd rfl (by first | exact .inl rfl | exact .inr rfl)) (Gs.cons (G.nm nd rfl (by first | exact .inl rfl | exact .inr rfl)) Gs.nil))) (Ss.one (S.if_ (T.cmp (op_neA hu) od_neA (E.app D_is_prefix hg (hr.mono (by decide)) (by rfl) (Arg.ex (E.use (pv 7)) (Arg.ex (E.use (pv 8)) Arg.nil))) (E.app D__law_begun hg (hr.mono (by decide)) (by rfl) (Arg.ex (E.use (pv 7)) (Arg.ex (E.use (pv 8)) Arg.nil))) rfl) (Ss.one (S.ret E.bool)) Ss.nil)))
  (Ss.cons (S.set (by decide) nd rfl (by first | exact .inl rfl | exact .inr rfl) (E.fz (E.ixA hu1 (E.callB (call_sortedB rfl hu) cd_sortedB (by rfl) TT.n_sorted (by decide +kernel) (As.cons (E.use (pv 3)) As.nil)) (E.app D__law_dip hg (hr.mono (by decide)) (by rfl) (Arg.io (pv 1) (Arg.ex (E.callB call_lenA cd_lenA (by rfl) TT.n_len (by decide +kernel) (As.cons (E.use (pv 3)) As.nil)) Arg.nil))))))
  (Ss.cons (S.set (by decide) nd rfl (by first | exact .inl rfl | exact .inr rfl) (E.op op_addX od_addX E.int (E.app D__law_dip hg (hr.mono (by decide)) (by rfl) (Arg.io (pv 1) (Arg.ex (E.ixA hu1 (E.lst (Os.cons E.int (Os.cons (E.op op_powA od_pow E.int E.int) Os.nil))) (E.app D__law_dip hg (hr.mono (by decide)) (by rfl) (Arg.io (pv 1) (Arg.ex E.int Arg.nil)))) Arg.nil)))))
  (Ss.cons (S.set (by decide) nd rfl (by first | exact .inl rfl | exact .inr rfl) (E.fz (E.tup (As.cons (E.use (pv 9)) (As.cons (E.use (pv 10)) As.nil)))))
  (Ss.cons (S.if_ (W.t (W.and (T.cmp (op_neA hu) od_neA (E.use (pv 4)) (E.lst Os.nil) rfl) (W.and1 (T.cmp (op_eqA hu) od_eqA (E.app D__law_dip hg (hr.mono (by decide)) (by rfl) (Arg.io (pv 1) (Arg.ex E.int Arg.nil))) E.int rfl)))) (Ss.one (S.set (by decide) nd rfl (by first | exact .inl rfl | exact .inr rfl) (E.fz (E.tup (As.cons (E.ixA hu1 (E.ixA hu1 (E.use (pv 4)) (E.un un_neg un_negD E.int)) E.int) (As.cons (E.callB (call_min2 rfl) cd_min2 (by rfl) TT.n_min (by decide +kernel) (As.cons (E.op op_powA od_pow E.int E.int) (As.cons (E.op op_addX od_addX (E.ixA hu1 (E.ixA hu1 (E.use (pv 4)) (E.un un_neg un_negD E.int)) E.int) E.int) As.nil))) As.nil)))))) Ss.nil)
  (Ss.cons (S.set (by decide) nd rfl (by first | exact .inl rfl | exact .inr rfl) (E.fz (E.app D__law_put hg (hr.mono (by decide)) (by rfl) (Arg.ex (E.callTy (call_listA rfl) cd_listA (by rfl) TT.n_list (by decide +kernel) (As.cons (E.use (pv 4)) As.nil)) (Arg.ex (E.tup (As.cons (E.ixA hu1 (E.use (pv 11)) E.int) (As.cons (E.ixA hu1 (E.use (pv 11)) E.int) (As.cons (E.ixA hu1 (E.use (pv 11)) E.int) As.nil)))) Arg.nil)))))
  (Ss.cons (S.set (by decide) nd rfl (by first | exact .inl rfl | exact .inr rfl) (E.app D_append_line hg (hr.mono (by decide)) (by rfl) (Arg.ex (E.use (pv 6)) (Arg.ex (E.use (pv 11)) Arg.nil))))
  (Ss.cons (S.if_ (T.brw (W.t (W.or (T.not (T.val (E.app D__law_same hg (hr.mono (by decide)) (by rfl) (Arg.ex (E.use (pv 13)) (Arg.ex (E.use (pv 12)) Arg.nil))))) (W.or1 (T.cmp (op_neA hu) od_neA (E.app D_count_lines hg (hr.mono (by decide)) (by rfl) (Arg.ex (E.use (pv 13)) Arg.nil)) (E.op op_addX od_addX (E.app D_count_lines hg (hr.mono (by decide)) (by rfl) (Arg.ex (E.use (pv 6)) Arg.nil)) E.int) rfl))))) (Ss.one (S.ret E.bool)) Ss.nil)
  (Ss.cons (S.exp (E.mut0 PySem.F.slot_list_clear PySem.F.type_list_clear mt_clear md_clear (pv 13)))
  (Ss.one (S.if_ (W.t (W.or (T.not (T.val (E.app D__law_same hg (hr.mono (by decide)) (by rfl) (Arg.ex (E.app D_append_line hg (hr.mono (by decide)) (by rfl) (Arg.ex (E.use (pv 6)) (Arg.ex (E.use (pv 11)) Arg.nil))) (Arg.ex (E.use (pv 12)) Arg.nil))))) (W.or1 (T.cmp (op_neA hu) od_neA (E.callTy (call_listA rfl) cd_listA (by rfl) TT.n_list (by decide +kernel) (As.cons (E.use (pv 6)) As.nil)) (E.use (pv 4)) rfl)))) (Ss.one (S.ret E.bool)) Ss.nil))))))))))))))))
  (Ss.one (S.ret (E.cmp op_isA od_isA (E.app D_is_prefix hg (hr.mono (by decide)) (by rfl) (Arg.ex (E.lst Os.nil) (Arg.ex (E.lst Os.nil) Arg.nil))) E.bool rfl)))))
theorem f_law (TT : Gt mg) (D__law_bowl : Df P w K mg base 1 "_law_bowl" 1 m__law_bowl) (D__law_rows : Df P w K mg base 2 "_law_rows" 3 m__law_rows) (D__law_put : Df P w K mg base 1 "_law_put" 2 m__law_put) (D_append_line : Df P w K mg base 5 "append_line" 2 m_append_line) (D_is_prefix : Df P w K mg base 5 "is_prefix" 2 m_is_prefix) (D__law_runs : Df P w K mg base 2 "_law_runs" 3 m__law_runs) (D__law_dip : Df P w K mg base 1 "_law_dip" 2 m__law_dip) (D__law_cuts_right : Df P w K mg base 13 "_law_cuts_right" 3 m__law_cuts_right) (D__law_begun : Df P w K mg base 2 "_law_begun" 2 m__law_begun) (D__law_same : Df P w K mg base 12 "_law_same" 2 m__law_same) (D_count_lines : Df P w K mg base 5 "count_lines" 1 m_count_lines) {fa : Addr} {fd : FuncData} (F : FunA K "law" "law" s_law fa fd) : FnG P w K mg base 14 fa fd P_law (spD K 1 m_law) :=
  fn_ev F sc_law rfl rfl (by decide) (fun cdv A outer s H EE hg hr => w_law TT D__law_bowl D__law_rows D__law_put D_append_line D_is_prefix D__law_runs D__law_dip D__law_cuts_right D__law_begun D__law_same D_count_lines cdv A outer s H EE hg hr)
theorem d_law (TT : Gt mg) (D__law_bowl : Df P w K mg base 1 "_law_bowl" 1 m__law_bowl) (D__law_rows : Df P w K mg base 2 "_law_rows" 3 m__law_rows) (D__law_put : Df P w K mg base 1 "_law_put" 2 m__law_put) (D_append_line : Df P w K mg base 5 "append_line" 2 m_append_line) (D_is_prefix : Df P w K mg base 5 "is_prefix" 2 m_is_prefix) (D__law_runs : Df P w K mg base 2 "_law_runs" 3 m__law_runs) (D__law_dip : Df P w K mg base 1 "_law_dip" 2 m__law_dip) (D__law_cuts_right : Df P w K mg base 13 "_law_cuts_right" 3 m__law_cuts_right) (D__law_begun : Df P w K mg base 2 "_law_begun" 2 m__law_begun) (D__law_same : Df P w K mg base 12 "_law_same" 2 m__law_same) (D_count_lines : Df P w K mg base 5 "count_lines" 1 m_count_lines) {fa : Addr} {fd : FuncData} (F : FunA K "law" "law" s_law fa fd) (hm : mg "law" = some (.ref fa)) (kp : PySem.W.keepIn K (.ref fa) = true) (hb : Binds K fd P_law []) : Df P w K mg base 14 "law" 1 m_law := ⟨fa, fd, P_law, f_law TT D__law_bowl D__law_rows D__law_put D_append_line D_is_prefix D__law_runs D__law_dip D__law_cuts_right D__law_begun D__law_same D_count_lines F, hm, kp, hb⟩
end
end K02
namespace K02
open PySem PySem.Spec PyProof.Rows L2 Ev
local macro_rules | `(tactic| get_elem_tactic_extensible) => `(tactic| simp only [isiT_int, isiB_int_none, isiB_int_int, isiB_int_str, isiB_int_bool, isiB_int_list, isiB_int_tuple, isiB_int_dict, isiT_bool, isiB_bool_none, isiB_bool_int, isiB_bool_str, isiB_bool_bool, isiB_bool_list, isiB_bool_tuple, isiB_bool_dict, isiT_str, isiB_str_none, isiB_str_int, isiB_str_str, isiB_str_bool, isiB_str_list, isiB_str_tuple, isiB_str_dict, isiT_list, isiB_list_none, isiB_list_int, isiB_list_str, isiB_list_bool, isiB_list_list, isiB_list_tuple, isiB_list_dict, isiT_tuple, isiB_tuple_none, isiB_tuple_int, isiB_tuple_str, isiB_tuple_bool, isiB_tuple_list, isiB_tuple_tuple, isiB_tuple_dict, isiT_dict, isiB_dict_none, isiB_dict_int, isiB_dict_str, isiB_dict_bool, isiB_dict_list, isiB_dict_tuple, isiB_dict_dict, isKind_str, isKind_int, isKind_list, ↓wg_some, ↓wx_cst, ↓wx_use, ↓wx_mov, ↓wx_fz, ↓wx_brw, ↓wx_op, ↓wx_un, ↓wx_call, ↓wa_nil, ↓wa_cons, ↓wa_oCons, ↓wx_lst, ↓wx_tup, ↓wx_and, ↓wx_or, ↓wx_not, ↓wx_if, ↓wx_chain, ↓wx_isi, ↓wx_isi2, ↓wx_met, ↓wx_mut, ↓wt_val, ↓wt_no, ↓wt_and, ↓wt_or, ↓wt_brw, ↓wt_yes, ↓ws_nx, ↓ws_bk, ↓ws_ct, ↓ws_nev, ↓ws_retN, ↓ws_ret, ↓ws_exp, ↓ws_seq, ↓ws_if, ↓ws_set, ↓ws_putD, ↓ws_setI, ↓ws_putA, ↓wx_dnew, ↓wkv_nil, ↓wkv_cons, ↓wx_disp, ↓ws_for, ↓ws_forD, ↓wx_lc, ↓wx_lcD, ↓wi_any, ↓wi_slot, ↓wi_rg1, ↓wi_rg2, ↓wg_nm, ↓wg_tp2, ↓wx_mB, ↓war_nil, ↓war_io, ↓war_ex, ↓wx_app, ↓wp_no, ↓wp_sm, ↓wx_sl, ↓ws_aug, ↓ws_par2, ↓ws_unp, ↓wx_slA, ↓wx_mutN, ↓ws_setN, ↓wx_mD, ↓wi_zipE, ↓wx_ixO, ↓wx_ixL, ↓wx_ixD, ↓wx_cpO, ↓wi_enum, ↓wg_tp3, ↓wg_tp4, ↓wg_tp5, ↓wx_get2, ↓wx_get1, ↓wx_getL, ↓wx_getO, ↓wx_lrg2, ↓wx_lrg1, ↓ws_par3, ↓wx_dc, ↓wx_dcD, ↓wx_bor, ↓wx_lrgA, ↓wx_slR, ↓wx_mutT, ↓wi_itD, ↓wx_tupO, ↓wx_borD, ↓ws_borD, ↓wx_appO, wo_some, wbl_bool, wnx_nx, wnx_rt, wnx_bk, wnx_ct, wU_f, wU_o, wM_f, wM_o, wq_some, wm_some, wL_o, wP_d, wP_l, wD_o, wint_int, wdc_dict, wit_list, wit_tup, wit_str, witD_list, witD_tup, witD_str, witD_dict, w1_one, w2_two, wB_rt, wB_nx, wlst_list, wF_f, wS_1, wS_2, wz_list, wz_tup, wI_l, wI_d, wI_f, w0_l, w0d_d, wC_l, wC_f, wC_d, wG_d, wG_f, wBr_o, wBr_f, wokS_n, wokS_f, wokS_o, wokT_n, wokT_c, wokE_0, wokE_s, wokE_1, wcl_f, wcl_o, wls_l, wls_d, wT_o, wNo_n, ox_int, ox_str, ox_list, ox_tup, ox_strI, wOw_o, wokSD_n, wokSD_f, wokSD_o, wokTD_n, wokTD_c, wokED_0, wokED_s, wclD_o, wdc_d, o_dictA_dict, o_dictA_list, o_add_int, o_add_str, o_add_list, o_sub_int, o_mul_int, o_div_int, o_pow_int, o_mod_int, o_neg_int, o_lt_int, o_le_int, o_gt_int, o_ge_int, o_eq_int, o_ne_int, o_eq_str, o_ne_str, o_eq_bool, o_ne_bool, o_eq_list, o_ne_list, o_eq_tup, o_ne_tup, o_isN_none, o_notN_none, o_isN_int, o_notN_int, o_isN_str, o_notN_str, o_isN_bool, o_notN_bool, o_isN_list, o_notN_list, o_isN_tup, o_notN_tup, o_isN_dict, o_notN_dict, o_ix_list, o_ix_tup, o_ix_str, o_ix_dict, o_in_str, o_nin_str, o_in_list, o_nin_list, o_in_dict, o_nin_dict, o_is_bool, o_not_bool, o_rev_list, o_sumV_dict, o_key_int, o_key_str, o_len_list, o_len_tup, o_len_dict, o_len_str, o_abs_int, o_max2_int, o_min2_int, o_int_int, o_int_bool, o_sum_list, o_all_list, o_any_list, o_min1_list, o_max1_list, o_sorted_list, o_repr_one, o_list_list, o_list_tup, o_list_str, o_list_dict, o_tup_list, o_tup_tup, o_vals_dict, o_dictP_list, o_join_list, o_app_one, o_ext_one, o_pop_none, o_popAt_one, o_clear_none, o_addI_int, o_addI_str, o_cut_list, o_cut_tup, o_cut_str, o_sortedA_list, o_sortedA_dict, o_index_list, o_eqK_dict, o_neK_dict, o_inK_dict, o_mulR_list, o_atI_00, o_atI_01, o_atI_02, turn_nx, turn_ct, turn_bk, turn_rt, fits_f0, true_and, and_true, true_implies, false_implies, Bool.true_eq_false, Bool.false_eq_true, Bool.not_true, Bool.not_false, Bool.not_not, decide_eq_true_eq, decide_eq_false_iff_not, Bool.not_eq_true, Bool.not_eq_false, Bool.not_eq_eq_eq_not, List.getElem?_cons_zero, List.getElem?_cons_succ, List.set_cons_zero, List.set_cons_succ, List.map_cons, List.map_nil, fzS_s, fzS_n, calmS_z, okS_z, List.length_cons, List.length_nil, List.cons_append, List.nil_append, List.append_nil, List.replicate_zero, List.replicate_succ, Option.isSome_some, Nat.zero_add, Nat.reduceAdd, Nat.reduceLT, Nat.reduceLeDiff, List.getElem?_nil, arEnv_io, arEnv_ex, arEnv_nil, aO_io, aO_ex, aO_nil, arIos_io, arIos_ex, arIos_nil, arLive_nil, arLive_cons, calmS_f, calmS_n, calmE_nil, calmE_cons, cast_0, cast_1, cast_2, cast_3, cast_4, cast_5, cast_6, cast_7, cast_8, cast_9, cast_10, cast_11, cast_12, Int.reduceEq, Bool.or_false, Bool.or_true, Bool.true_or, Bool.false_or, Bool.and_true, Bool.true_and, Bool.and_false, Bool.false_and, List.take_succ_cons, List.take_zero, Nat.succ_eq_add_one, ixN_zero, scal_none, scal_int, scal_str, scal_bool, still_none, still_int, still_str, still_bool, true_or, or_true, mulOk_l, mulOk_r, divOk_l, powOk_l, Nat.reducePow, Int.reducePow, Int.reduceToNat, Int.reduceAdd, Int.reduceLT, Int.reduceLE, Int.reduceNeg, Int.reduceMul, Int.reduceSub, ge_iff_le, gt_iff_lt, Nat.reduceEqDiff, ixN_10, ixN_20, ixN_21, ixN_30, ixN_31, ixN_32, ixN_40, ixN_41, ixN_42, ixN_43, ixN_50, ixN_51, ixN_52, ixN_53, ixN_54, imp_self, eq_self, not_true_eq_false, not_false_eq_true, forall_const, reduceCtorEq, wipeE, backE, List.getD_cons_zero, List.getD_cons_succ, fgOf])

theorem pow3_ok {x : Int} (h0 : 0 ≤ x) (h : x < 10 ^ 60) : powOk x 3 := ⟨by decide, by decide, lt_big (show x.natAbs < 2 ^ 512 from Nat.lt_of_lt_of_le (show x.natAbs < 10 ^ 60 by omega) (by decide +kernel))⟩
theorem pow5_ok {x : Int} (h0 : 0 ≤ x) (h : x < 10 ^ 60) : powOk x 5 := ⟨by decide, by decide, lt_big (show x.natAbs < 2 ^ 512 from Nat.lt_of_lt_of_le (show x.natAbs < 10 ^ 60 by omega) (by decide +kernel))⟩
theorem divOk_30 {m : Int} (h0 : 0 < m) (h : m ≤ 10 ^ 36) : divOk m := ⟨h0, Nat.lt_of_lt_of_le (show m.natAbs < 2 ^ 200 from Nat.lt_of_le_of_lt (show m.natAbs ≤ 10 ^ 36 by omega) (by decide +kernel)) (Nat.pow_le_pow_right (by decide) (by decide))⟩
theorem atI_nat {α : Type} {l : List α} {k : Nat} {x : α} (h : l[k]? = some x) : atI l (k : Int) = some x := by
  have hk := (List.getElem?_eq_some_iff.mp h).1
  unfold atI ixN
  rw [if_pos (by omega), if_pos (by omega)]
  simpa using h
def sg (c : Nat) : Str := ⟨#[c]⟩
def Lt (c : Nat) : Prop := 97 ≤ c ∧ c ≤ 122
def Name (z : Str) : Prop := 1 ≤ z.length ∧ z.length ≤ 8 ∧ ∀ c ∈ z.cps.toList, Lt c
theorem strs_map (l : List Str) : strsD (l.map .str) = some l := by
  induction l with
  | nil => rfl
  | cons a l ih => rw [List.map_cons, strsD, ih]; rfl
theorem erase_perm {α : Type} : ∀ {l : List α} {i : Nat} (h : i < l.length), (l[i] :: l.eraseIdx i).Perm l
  | a :: l, 0, _ => .refl _
  | a :: l, i + 1, h => by
    have := erase_perm (l := l) (i := i) (by simpa using h)
    rw [List.eraseIdx_cons_succ, List.getElem_cons_succ]
    exact (List.Perm.swap a _ _).trans (this.cons a)
theorem erase_map {α β : Type} (f : α → β) : ∀ (l : List α) (i : Nat), (l.map f).eraseIdx i = (l.eraseIdx i).map f
  | [], _ => rfl
  | a :: l, 0 => rfl
  | a :: l, i + 1 => by rw [List.map_cons, List.eraseIdx_cons_succ, List.eraseIdx_cons_succ, List.map_cons, erase_map f l i]
theorem nodup_map {α β : Type} {f : α → β} (hf : ∀ x y, f x = f y → x = y) {l : List α} (h : l.Nodup) : (l.map f).Nodup := List.pairwise_map.mpr (h.imp fun hne heq => hne (hf _ _ heq))
/-! ### counts -/
abbrev Cs := List (Str × Int)
def encK (cs : Cs) : List (D × D) := cs.map fun p => (.str p.1, .int p.2)
theorem encK_len (cs : Cs) : (encK cs).length = cs.length := List.length_map ..
theorem look_enc {z : Str} : ∀ cs : Cs, lookD (encK cs) (.inr z) = (cs.lookup z).map .int
  | [] => rfl
  | (w, v) :: cs => by
    show (List.find? (fun p : D × D => keyIs (.inr z) p.1) ((.str w, .int v) :: encK cs)).map (·.2) = _
    rw [List.find?_cons, List.lookup_cons]
    have e1 : keyIs (.inr z) (.str w) = decide (w = z) := rfl
    dsimp only
    rw [e1]
    by_cases h : w = z
    · subst h; simp
    · have h2 : (z == w) = false := beq_eq_false_iff_ne.mpr fun q => h q.symm
      rw [decide_eq_false h, h2]
      exact look_enc cs
theorem put_new {z : Str} {v : Int} {cs : Cs} (h : z ∉ cs.map (·.1)) : putD (encK cs) (.inr z) (.int v) = encK (cs ++ [(z, v)]) := by
  unfold putD
  rw [if_neg]
  · unfold encK; rw [List.map_append]; rfl
  · intro q
    obtain ⟨p, hp, hk⟩ := List.any_eq_true.mp q
    obtain ⟨c, hc, rfl⟩ := List.mem_map.mp hp
    have : c.1 = z := by
      have e1 : keyIs (.inr z) (.str c.1) = decide (c.1 = z) := rfl
      rw [e1] at hk
      exact of_decide_eq_true hk
    exact h (this ▸ List.mem_map_of_mem hc)
theorem lookup_end {z : Str} {v : Int} : ∀ {cs : Cs}, z ∉ cs.map (·.1) → (cs ++ [(z, v)]).lookup z = some v
  | [], _ => by rw [List.nil_append, List.lookup_cons, beq_self_eq_true]
  | (w, u) :: cs, h => by
    rw [List.cons_append, List.lookup_cons]
    have h1 : (z == w) = false := beq_eq_false_iff_ne.mpr fun q => h (q ▸ List.mem_cons_self)
    rw [h1]
    exact lookup_end fun q => h (List.mem_cons_of_mem _ q)
/-- counts as they are drawn -/
structure Good (cs : Cs) : Prop where
  nd : (cs.map (·.1)).Nodup
  nm : ∀ p ∈ cs, Name p.1
  ne : cs ≠ []
  pos : ∀ p ∈ cs, 0 ≤ p.2 ∧ p.2 ≤ 10 ^ 30
  len : cs.length ≤ 12
theorem take_snoc {α : Type} {l : List α} {k : Nat} {x : α} (h : l[k]? = some x) : l.take (k + 1) = l.take k ++ [x] := by
  rw [List.take_succ, h]; rfl
theorem az_str : (Str.ofString "abcdefghijklmnopqrstuvwxyz").cps.toList = [97, 98, 99, 100, 101, 102, 103, 104, 105, 106, 107, 108, 109, 110, 111, 112, 113, 114, 115, 116, 117, 118, 119, 120, 121, 122] := by decide +kernel
theorem lt_mem {c : Nat} (h : Lt c) : c ∈ (Str.ofString "abcdefghijklmnopqrstuvwxyz").cps.toList := by
  rw [az_str]
  obtain ⟨h1, h2⟩ := h
  simp only [List.mem_cons, List.mem_nil_iff, or_false]
  omega
theorem bools_true {α : Type} (l : List α) : boolsD (l.map fun _ => .bool true) = some (l.map fun _ => true) := by
  induction l with
  | nil => rfl
  | cons a l ih => rw [List.map_cons, boolsD, ih]; rfl
theorem lookup_mem : ∀ {cs : Cs} {p : Str × Int}, (cs.map (·.1)).Nodup → p ∈ cs → cs.lookup p.1 = some p.2
  | (w, u) :: cs, p, hn, hp => by
    rw [List.map_cons, List.nodup_cons] at hn
    rw [List.lookup_cons]
    rcases List.mem_cons.mp hp with rfl | hp
    · rw [beq_self_eq_true]
    · have h1 : (p.1 == w) = false := beq_eq_false_iff_ne.mpr fun q => hn.1 (by rw [← q]; exact List.mem_map.mpr ⟨p, hp, rfl⟩)
      rw [h1]
      exact lookup_mem hn.2 hp
theorem lay_name {k : Nat} {z : Str} (h : ∀ c ∈ z.cps.toList, Lt c) : lay k (.str z) := lay_chars fun c hc => Nat.lt_of_le_of_lt (h c hc).2 (by decide)
theorem vals_enc (cs : Cs) : vVals (encK cs) = (cs.map (·.2)).map .int := by
  unfold vVals encK
  rw [List.map_map, List.map_map]
  rfl
theorem filt_map {p : Int → Bool} {z : Int → Int} {q : D → Bool} {y : D → D} (hq : ∀ i, q (.int i) = p i) (hy : ∀ i, y (.int i) = .int (z i)) : ∀ l : List Int, ((l.map .int).filter q).map y = ((l.filter p).map z).map .int
  | [] => rfl
  | a :: l => by
    rw [List.map_cons, List.filter_cons, List.filter_cons, hq]
    by_cases h : p a = true
    · rw [if_pos h, if_pos h, List.map_cons, List.map_cons, List.map_cons, hy, filt_map hq hy l]
    · rw [if_neg h, if_neg h]; exact filt_map hq hy l
theorem lay_line {k : Nat} {p : Str × Int} (h : ∀ c ∈ p.1.cps.toList, Lt c) : lay (k + 1) (.tuple [.str p.1, .int p.2]) := lay_tup fun d hd => by
  rcases List.mem_cons.mp hd with rfl | hd
  · exact lay_name h
  · rw [List.mem_singleton.mp hd]; exact lay_int
/-! ### the bowl -/
def Bowl (B : Nat) (s : Sl) : Prop := ∃ (l : List Int) (m c : Int), s = some (.list [.list (l.map .int), .int m, .int c], .o 1) ∧ (∀ v ∈ l, 0 ≤ v) ∧ l.length ≤ 63 ∧ 0 ≤ m ∧ m < 10 ^ 32 ∧ 0 ≤ c ∧ c ≤ B
theorem Bowl.mono {B C : Nat} {s : Sl} (h : Bowl B s) (k : B ≤ C) : Bowl C s := by
  obtain ⟨l, m, c, h1, h2, h3, h4, h5, h6, h7⟩ := h
  exact ⟨l, m, c, h1, h2, h3, h4, h5, h6, by omega⟩
theorem Bowl.some {B : Nat} {s : Sl} (h : Bowl B s) : s.isSome = true := by
  obtain ⟨l, m, c, rfl, _⟩ := h; rfl
theorem lay_ints {k : Nat} (l : List Int) : lay (k + 1) (.list (l.map .int)) := lay_list fun d hd => by
  obtain ⟨i, _, rfl⟩ := List.mem_map.mp hd
  exact lay_int
theorem bowl_ok {ns : List Int} (hn : ns.length ≤ 63) : wx m__law_bowl [some (.list (ns.map .int), .f)] fun d o e => Bowl 0 (some (d, o)) ∧ e = [none] := by
  have hs := sizeLine_eq
  unfold m__law_bowl b__law_bowl
  try get_elem_tactic_extensible
  refine wl_inv (fun _ e => ∃ (m : Int) (x : Sl), e = [some (.list (ns.map .int), .f), some (.int m, .f), x] ∧ calmS (some x) ∧ 0 ≤ m ∧ m < 10 ^ 32) ⟨9973, none, rfl, trivial, by decide, by decide⟩ ?_ ?_
  · rintro k d e hk ⟨m, x, rfl, hx, m0, m1⟩
    rw [List.getElem?_map] at hk
    obtain ⟨i, hi, rfl⟩ := Option.map_eq_some_iff.mp hk
    unfold l1__law_bowl
    try get_elem_tactic_extensible
    exact ⟨_, _, rfl, trivial, Int.emod_nonneg _ (by decide), Int.lt_trans (Int.emod_lt_of_pos _ (by decide)) (by decide)⟩
  · rintro e ⟨m, x, rfl, hx, m0, m1⟩
    try get_elem_tactic_extensible
    refine ⟨hx, ?_⟩
    refine wc_pure (fun d => match d with | .int i => decide (1000000000000000000 ≤ (if i < 0 then -i else i)) | _ => false) (fun d => match d with | .int i => .int ((if i < 0 then -i else i) - 1000000000000000000) | _ => d) (by simp; omega) ?_ ?_
    · intro d hd
      obtain ⟨i, hi, rfl⟩ := List.mem_map.mp hd
      unfold t1__law_bowl e1__law_bowl
      try get_elem_tactic_extensible
      exact ⟨fun _ => trivial, fun _ => trivial⟩
    · rw [List.nil_append]
      rw [filt_map (p := fun i => decide (1000000000000000000 ≤ (if i < 0 then -i else i))) (z := fun i => (if i < 0 then -i else i) - 1000000000000000000) (fun _ => rfl) (fun _ => rfl)]
      try get_elem_tactic_extensible
      refine ⟨rfl, rfl, rfl, by decide, ⟨_, m, 0, rfl, fun v hv => ?_, ?_, m0, m1, by decide, by decide⟩, rfl⟩
      · obtain ⟨i, hi, rfl⟩ := List.mem_map.mp hv
        have := (List.mem_filter.mp hi).2
        rw [decide_eq_true_eq] at this
        omega
      · rw [List.length_map]
        exact Nat.le_trans (List.length_filter_le ..) hn
theorem dip_ok {B : Nat} {s : Sl} {many : Int} (h : Bowl B s) (hB : B ≤ 10 ^ 9) (h0 : 0 < many) (hm : many ≤ 10 ^ 36) :
    wx m__law_dip [s, some (.int many, .f)] fun d o e => ∃ (r : Int) (s' : Sl), d = .int r ∧ o = .f ∧ e = [s', none] ∧ 0 ≤ r ∧ r < many ∧ Bowl (B + 1) s' := by
  obtain ⟨l, m, c, rfl, hl, hll, m0, m1, c0, c1⟩ := h
  unfold m__law_dip b__law_dip
  rw [wx_mB, ws_seq]
  refine ws_whileN (fun n e => ∃ (l : List Int), n = l.length ∧ e = [some (.list [.list (l.map .int), .int m, .int c], .o 1), some (.int many, .f), none, none] ∧ (∀ v ∈ l, 0 ≤ v) ∧ l.length ≤ 63) l.length ⟨l, rfl, rfl, hl, hll⟩ ?_
  rintro n e ⟨l, rfl, rfl, hl, hll⟩
  have hlt : eqOk (.list (l.map .int)) = true := (lay_ints (k := 0) l).eqOk
  cases l with
  | nil =>
    try get_elem_tactic_extensible
    refine ⟨by decide, ⟨rfl, rfl⟩, fun q => (by cases q), fun _ => ?_⟩
    refine ⟨by decide, ⟨rfl, rfl⟩, fun q => (by cases q), fun _ => ?_⟩
    generalize hq : (m + 15485867 * (c + 1)) ^ 3 % 100000000000000000000000000000000000000109 = q
    have q0 : 0 ≤ q := by rw [← hq]; exact Int.emod_nonneg _ (by decide)
    have q1 : q < 100000000000000000000000000000000000000109 := by rw [← hq]; exact Int.emod_lt_of_pos _ (by decide)
    exact ⟨pow3_ok (by omega) (by omega), pow5_ok (by omega) (by omega), h0, _, _, rfl, rfl, Int.emod_nonneg _ (by omega), Int.emod_lt_of_pos _ h0, ⟨[], m, c + 1, rfl, hl, Nat.zero_le _, m0, m1, by omega, by omega⟩⟩
  | cons a l =>
    have ha := hl a List.mem_cons_self
    try get_elem_tactic_extensible
    refine ⟨by decide, ⟨hlt, rfl⟩, fun _ => ⟨fun h2 => ?_, fun h2 => ?_⟩, fun q => (by cases q)⟩
    · unfold l1__law_dip
      try get_elem_tactic_extensible
      exact ⟨l.length, by omega, l, rfl, rfl, fun v hv => hl v (List.mem_cons_of_mem _ hv), by simp at hll; omega⟩
    · refine ⟨by decide, ⟨hlt, rfl⟩, fun _ => ⟨h0, divOk_30 h0 hm, ?_⟩, fun q => (by cases q)⟩
      refine ⟨_, _, rfl, rfl, Int.emod_nonneg _ (by omega), Int.emod_lt_of_pos _ h0, ⟨a / many :: l, m, c, rfl, fun v hv => ?_, hll, m0, m1, c0, by omega⟩⟩
      rcases List.mem_cons.mp hv with rfl | hv
      · exact Int.ediv_nonneg ha (by omega)
      · exact hl v (List.mem_cons_of_mem _ hv)
/-! ### drawn line counts -/
def poolS : List Str := ["a", "b", "c", "d", "k", "x", "y", "z", "ab", "aba", "read", "save", "append", "zzzzzzzz", "or"]
theorem pool_nd : poolS.Nodup := by decide +kernel
theorem pool_nm : ∀ z ∈ poolS, Name z := by unfold Name Lt; decide +kernel
theorem pool_len : poolS.length = 15 := rfl
theorem rows_ok {B : Nat} {s : Sl} {most great : Int} (h : Bowl B s) (hB : B ≤ 10 ^ 8) (h0 : 0 < most) (h1 : most ≤ 12) (g0 : 0 < great) (g1 : great ≤ 10 ^ 30) :
    wx m__law_rows [s, some (.int most, .f), some (.int great, .f)] fun d o e => ∃ (cs : Cs) (s' : Sl), d = .dict (encK cs) ∧ o = .o 0 ∧ e = [s', none, none] ∧ Good cs ∧ (∀ p ∈ cs, p.1 ∈ poolS) ∧ (∀ p ∈ cs, p.2 ≤ 5 ∨ p.2 ≤ great) ∧ Bowl (B + 60) s' := by
  have hs := sizeLine_eq
  unfold m__law_rows b__law_rows
  try get_elem_tactic_extensible
  have e0 : strD "abcdkxyz" ++ [.str "ab", .str "aba", .str "read", .str "save", .str "append", .str "zzzzzzzz", .str "or"] = poolS.map .str := by
    have : (Str.ofString "abcdkxyz").cps.toList = [97, 98, 99, 100, 107, 120, 121, 122] := by decide +kernel
    unfold strD
    rw [this]
    have q : ∀ c : Nat, (⟨#[c]⟩ : Str) = sg c := fun _ => rfl
    have l : [97, 98, 99, 100, 107, 120, 121, 122].map sg ++ (["ab", "aba", "read", "save", "append", "zzzzzzzz", "or"] : List Str) = poolS := by decide +kernel
    rw [← l]
    rfl
  have e2 : (Str.ofString "abcdkxyz").cps.size = 8 := by decide +kernel
  have e3 : (strD "abcdkxyz").length = 8 := by unfold strD; rw [List.length_map, Array.length_toList]; exact e2
  rw [e0, e3, e2]
  refine ⟨by omega, by omega, by omega, h.some, h.some, wx_mono (dip_ok h (by omega) h0 (by omega)) ?_⟩
  rintro _ _ _ ⟨r, s1, rfl, rfl, rfl, r0, r1, h2⟩
  try get_elem_tactic_extensible
  refine ⟨by omega, ?_⟩
  refine wl_inv (fun k e => ∃ (cs : Cs) (fs : List Str) (s2 x y : Sl), cs.length = k ∧ (cs.map (·.1) ++ fs).Perm poolS ∧ (∀ p ∈ cs, (0 ≤ p.2 ∧ p.2 ≤ 10 ^ 30) ∧ (p.2 ≤ 5 ∨ p.2 ≤ great)) ∧
    e = [s2, some (.int most, .f), some (.int great, .f), some (.list (fs.map .str), .o 0), some (.dict (encK cs), .o 0), x, y] ∧ Bowl (B + 1 + 4 * k) s2) ⟨[], poolS, s1, none, none, rfl, .refl _, by simp, rfl, h2⟩ ?_ ?_
  · rintro k d e hk ⟨cs, fs, s2, x, y, hcl, pm, hv, rfl, h3⟩
    obtain ⟨hk1, rfl⟩ := rangeD_get hk
    have hfl : fs.length + k = 15 := by
      have := pm.length_eq
      rw [List.length_append, List.length_map, hcl, pool_len] at this; omega
    unfold l1__law_rows
    try get_elem_tactic_extensible
    rw [List.length_map]
    refine ⟨h3.some, h3.some, wx_mono (dip_ok h3 (by omega) (by omega) (by omega)) ?_⟩
    rintro _ _ _ ⟨i, s3, rfl, rfl, rfl, i0, i1, h4⟩
    try get_elem_tactic_extensible
    have hn : i.toNat < fs.length := by omega
    refine ⟨⟨i0, by omega⟩, ?_⟩
    rw [List.getElem?_map, List.getElem?_eq_getElem hn]
    simp only [Option.map_some]
    try get_elem_tactic_extensible
    refine ⟨h4.some, h4.some, wx_mono (dip_ok h4 (by omega) (by decide) (by decide)) ?_⟩
    rintro _ _ _ ⟨a, s4, rfl, rfl, rfl, a0, a1, h5⟩
    try get_elem_tactic_extensible
    refine ⟨h5.some, h5.some, wx_mono (dip_ok h5 (by omega) g0 (by omega)) ?_⟩
    rintro _ _ _ ⟨b, s5, rfl, rfl, rfl, b0, b1, h6⟩
    try get_elem_tactic_extensible
    refine ⟨by decide, h6.some, h6.some, wx_mono (dip_ok h6 (by omega) (by decide) (by decide)) ?_⟩
    rintro _ _ _ ⟨c, s6, rfl, rfl, rfl, c0, c1, h7⟩
    have hvs : ∀ v ∈ ([0, 1, 1 + a, 1 + b] : List Int), (0 ≤ v ∧ v ≤ 10 ^ 30) ∧ (v ≤ 5 ∨ v ≤ great) := by
      intro v hv
      simp only [List.mem_cons, List.mem_nil_iff, or_false] at hv
      rcases hv with rfl | rfl | rfl | rfl <;> omega
    have hn2 : c.toNat < ([0, 1, 1 + a, 1 + b] : List Int).length := by simp only [List.length_cons, List.length_nil]; omega
    have hx := atI_nat (show (([0, 1, 1 + a, 1 + b] : List Int).map PyData.int)[c.toNat]? = some (.int _) by rw [List.getElem?_map, List.getElem?_eq_getElem hn2]; rfl)
    rw [Int.toNat_of_nonneg c0] at hx
    have hvm := hvs _ (List.getElem_mem hn2)
    generalize ([0, 1, 1 + a, 1 + b] : List Int)[c.toNat] = v at hx hvm
    simp only [List.map_cons, List.map_nil] at hx
    try get_elem_tactic_extensible
    rw [hx]
    try get_elem_tactic_extensible
    have pm2 : (cs.map (·.1) ++ [fs[i.toNat]] ++ fs.eraseIdx i.toNat).Perm poolS := by
      rw [List.append_assoc]
      exact (List.Perm.append_left _ (erase_perm hn)).trans pm
    have hz : fs[i.toNat] ∉ cs.map (·.1) := by
      intro q
      have nd := pm.nodup_iff.mpr pool_nd
      exact (List.nodup_append.mp nd).2.2 _ q _ (List.getElem_mem hn) rfl
    rw [encK_len, put_new hz]
    refine ⟨by omega, cs ++ [(fs[i.toNat], v)], fs.eraseIdx i.toNat, s6, _, _, by simp [hcl], ?_, ?_, by rw [erase_map], h7.mono (by omega)⟩
    · rw [List.map_append]; exact pm2
    · intro p hp
      rcases List.mem_append.mp hp with hp | hp
      · exact hv p hp
      · rw [List.mem_singleton.mp hp]; exact hvm
  · rintro e ⟨cs, fs, s2, x, y, hcl, pm, hv, rfl, h3⟩
    rw [rangeD_len] at hcl h3
    have hmem : ∀ p ∈ cs, p.1 ∈ poolS := fun p hp => pm.mem_iff.mp (List.mem_append_left _ (List.mem_map_of_mem hp))
    try get_elem_tactic_extensible
    refine ⟨cs, s2, rfl, rfl, ⟨(List.nodup_append.mp (pm.nodup_iff.mpr pool_nd)).1, fun p hp => pool_nm _ (hmem p hp), ?_, fun p hp => (hv p hp).1, by omega⟩, hmem, fun p hp => (hv p hp).2, h3.mono (by omega)⟩
    intro q; subst q; simp at hcl; omega
end K02
namespace K02
open PySem PySem.Spec PyProof.Rows L2 Ev
local macro_rules | `(tactic| get_elem_tactic_extensible) => `(tactic| simp only [isiT_int, isiB_int_none, isiB_int_int, isiB_int_str, isiB_int_bool, isiB_int_list, isiB_int_tuple, isiB_int_dict, isiT_bool, isiB_bool_none, isiB_bool_int, isiB_bool_str, isiB_bool_bool, isiB_bool_list, isiB_bool_tuple, isiB_bool_dict, isiT_str, isiB_str_none, isiB_str_int, isiB_str_str, isiB_str_bool, isiB_str_list, isiB_str_tuple, isiB_str_dict, isiT_list, isiB_list_none, isiB_list_int, isiB_list_str, isiB_list_bool, isiB_list_list, isiB_list_tuple, isiB_list_dict, isiT_tuple, isiB_tuple_none, isiB_tuple_int, isiB_tuple_str, isiB_tuple_bool, isiB_tuple_list, isiB_tuple_tuple, isiB_tuple_dict, isiT_dict, isiB_dict_none, isiB_dict_int, isiB_dict_str, isiB_dict_bool, isiB_dict_list, isiB_dict_tuple, isiB_dict_dict, isKind_str, isKind_int, isKind_list, ↓wg_some, ↓wx_cst, ↓wx_use, ↓wx_mov, ↓wx_fz, ↓wx_brw, ↓wx_op, ↓wx_un, ↓wx_call, ↓wa_nil, ↓wa_cons, ↓wa_oCons, ↓wx_lst, ↓wx_tup, ↓wx_and, ↓wx_or, ↓wx_not, ↓wx_if, ↓wx_chain, ↓wx_isi, ↓wx_isi2, ↓wx_met, ↓wx_mut, ↓wt_val, ↓wt_no, ↓wt_and, ↓wt_or, ↓wt_brw, ↓wt_yes, ↓ws_nx, ↓ws_bk, ↓ws_ct, ↓ws_nev, ↓ws_retN, ↓ws_ret, ↓ws_exp, ↓ws_seq, ↓ws_if, ↓ws_set, ↓ws_putD, ↓ws_setI, ↓ws_putA, ↓wx_dnew, ↓wkv_nil, ↓wkv_cons, ↓wx_disp, ↓ws_for, ↓ws_forD, ↓wx_lc, ↓wx_lcD, ↓wi_any, ↓wi_slot, ↓wi_rg1, ↓wi_rg2, ↓wg_nm, ↓wg_tp2, ↓wx_mB, ↓war_nil, ↓war_io, ↓war_ex, ↓wx_app, ↓wp_no, ↓wp_sm, ↓wx_sl, ↓ws_aug, ↓ws_par2, ↓ws_unp, ↓wx_slA, ↓wx_mutN, ↓ws_setN, ↓wx_mD, ↓wi_zipE, ↓wx_ixO, ↓wx_ixL, ↓wx_ixD, ↓wx_cpO, ↓wi_enum, ↓wg_tp3, ↓wg_tp4, ↓wg_tp5, ↓wx_get2, ↓wx_get1, ↓wx_getL, ↓wx_getO, ↓wx_lrg2, ↓wx_lrg1, ↓ws_par3, ↓wx_dc, ↓wx_dcD, ↓wx_bor, ↓wx_lrgA, ↓wx_slR, ↓wx_mutT, ↓wi_itD, ↓wx_tupO, ↓wx_borD, ↓ws_borD, ↓wx_appO, wo_some, wbl_bool, wnx_nx, wnx_rt, wnx_bk, wnx_ct, wU_f, wU_o, wM_f, wM_o, wq_some, wm_some, wL_o, wP_d, wP_l, wD_o, wint_int, wdc_dict, wit_list, wit_tup, wit_str, witD_list, witD_tup, witD_str, witD_dict, w1_one, w2_two, wB_rt, wB_nx, wlst_list, wF_f, wS_1, wS_2, wz_list, wz_tup, wI_l, wI_d, wI_f, w0_l, w0d_d, wC_l, wC_f, wC_d, wG_d, wG_f, wBr_o, wBr_f, wokS_n, wokS_f, wokS_o, wokT_n, wokT_c, wokE_0, wokE_s, wokE_1, wcl_f, wcl_o, wls_l, wls_d, wT_o, wNo_n, ox_int, ox_str, ox_list, ox_tup, ox_strI, wOw_o, wokSD_n, wokSD_f, wokSD_o, wokTD_n, wokTD_c, wokED_0, wokED_s, wclD_o, wdc_d, o_dictA_dict, o_dictA_list, o_add_int, o_add_str, o_add_list, o_sub_int, o_mul_int, o_div_int, o_pow_int, o_mod_int, o_neg_int, o_lt_int, o_le_int, o_gt_int, o_ge_int, o_eq_int, o_ne_int, o_eq_str, o_ne_str, o_eq_bool, o_ne_bool, o_eq_list, o_ne_list, o_eq_tup, o_ne_tup, o_isN_none, o_notN_none, o_isN_int, o_notN_int, o_isN_str, o_notN_str, o_isN_bool, o_notN_bool, o_isN_list, o_notN_list, o_isN_tup, o_notN_tup, o_isN_dict, o_notN_dict, o_ix_list, o_ix_tup, o_ix_str, o_ix_dict, o_in_str, o_nin_str, o_in_list, o_nin_list, o_in_dict, o_nin_dict, o_is_bool, o_not_bool, o_rev_list, o_sumV_dict, o_key_int, o_key_str, o_len_list, o_len_tup, o_len_dict, o_len_str, o_abs_int, o_max2_int, o_min2_int, o_int_int, o_int_bool, o_sum_list, o_all_list, o_any_list, o_min1_list, o_max1_list, o_sorted_list, o_repr_one, o_list_list, o_list_tup, o_list_str, o_list_dict, o_tup_list, o_tup_tup, o_vals_dict, o_dictP_list, o_join_list, o_app_one, o_ext_one, o_pop_none, o_popAt_one, o_clear_none, o_addI_int, o_addI_str, o_cut_list, o_cut_tup, o_cut_str, o_sortedA_list, o_sortedA_dict, o_index_list, o_eqK_dict, o_neK_dict, o_inK_dict, o_mulR_list, o_atI_00, o_atI_01, o_atI_02, turn_nx, turn_ct, turn_bk, turn_rt, fits_f0, true_and, and_true, true_implies, false_implies, Bool.true_eq_false, Bool.false_eq_true, Bool.not_true, Bool.not_false, Bool.not_not, decide_eq_true_eq, decide_eq_false_iff_not, Bool.not_eq_true, Bool.not_eq_false, Bool.not_eq_eq_eq_not, List.getElem?_cons_zero, List.getElem?_cons_succ, List.set_cons_zero, List.set_cons_succ, List.map_cons, List.map_nil, fzS_s, fzS_n, calmS_z, okS_z, List.length_cons, List.length_nil, List.cons_append, List.nil_append, List.append_nil, List.replicate_zero, List.replicate_succ, Option.isSome_some, Nat.zero_add, Nat.reduceAdd, Nat.reduceLT, Nat.reduceLeDiff, List.getElem?_nil, arEnv_io, arEnv_ex, arEnv_nil, aO_io, aO_ex, aO_nil, arIos_io, arIos_ex, arIos_nil, arLive_nil, arLive_cons, calmS_f, calmS_n, calmE_nil, calmE_cons, cast_0, cast_1, cast_2, cast_3, cast_4, cast_5, cast_6, cast_7, cast_8, cast_9, cast_10, cast_11, cast_12, Int.reduceEq, Bool.or_false, Bool.or_true, Bool.true_or, Bool.false_or, Bool.and_true, Bool.true_and, Bool.and_false, Bool.false_and, List.take_succ_cons, List.take_zero, Nat.succ_eq_add_one, ixN_zero, scal_none, scal_int, scal_str, scal_bool, still_none, still_int, still_str, still_bool, true_or, or_true, mulOk_l, mulOk_r, divOk_l, powOk_l, Nat.reducePow, Int.reducePow, Int.reduceToNat, Int.reduceAdd, Int.reduceLT, Int.reduceLE, Int.reduceNeg, Int.reduceMul, Int.reduceSub, ge_iff_le, gt_iff_lt, Nat.reduceEqDiff, ixN_10, ixN_20, ixN_21, ixN_30, ixN_31, ixN_32, ixN_40, ixN_41, ixN_42, ixN_43, ixN_50, ixN_51, ixN_52, ixN_53, ixN_54, imp_self, eq_self, not_true_eq_false, not_false_eq_true, forall_const, reduceCtorEq, wipeE, backE, List.getD_cons_zero, List.getD_cons_succ, fgOf])

theorem writer_ok {z : Str} (h : Name z) : wx m_is_writer [some (.str z, .f)] fun d o e => d = .bool true ∧ e = [none] := by
  obtain ⟨h1, h2, h3⟩ := h
  have hl : z.cps.toList.length = z.length := rfl
  have hs := sizeLine_eq
  unfold m_is_writer b_is_writer
  try get_elem_tactic_extensible
  refine ⟨by omega, fun _ => ⟨fun q => by omega, fun _ => ?_⟩, fun q => by omega⟩
  refine wc_pure (fun _ => true) (fun _ => .bool true) (by unfold strD; simp [hl]; omega) ?_ ?_
  · intro d hd
    obtain ⟨c, hc, rfl⟩ := List.mem_map.mp hd
    unfold e1_is_writer
    try get_elem_tactic_extensible
    refine ⟨rfl, ?_⟩
    have : (⟨#[c]⟩ : Str).cps.getD 0 0 = c := rfl
    rw [this, decide_eq_true (lt_mem (h3 c hc))]
  · rw [List.nil_append]
    rw [List.filter_eq_self.mpr (fun _ _ => rfl)]
    rw [bools_true]
    try get_elem_tactic_extensible
    refine ⟨?_, rfl⟩
    simp
theorem integer_ok {v lo hi : Int} (h1 : lo ≤ v) (h2 : v ≤ hi) : wx m_is_integer [some (.int v, .f), some (.int lo, .f), some (.int hi, .f)] fun d o e => d = .bool true ∧ e = [none, none, none] := by
  unfold m_is_integer b_is_integer
  try get_elem_tactic_extensible
  exact ⟨fun q => by omega, fun _ => ⟨by rw [decide_eq_true h2], rfl⟩⟩
/-! ### runs -/
abbrev Rn := Str × Int × Int
def encN (rs : List Rn) : List D := rs.map fun r => .tuple [.str r.1, .int r.2.1, .int r.2.2]
theorem encN_len (rs : List Rn) : (encN rs).length = rs.length := List.length_map ..
def RunOk (r : Rn) : Prop := Name r.1 ∧ 1 ≤ r.2.1 ∧ r.2.1 ≤ r.2.2 ∧ r.2.2 ≤ 10 ^ 30
def ext (r s : Rn) : Bool := decide (r.1 = s.1) && decide (s.2.1 = r.2.2 + 1)
def noExt : List Rn → Prop
  | r :: s :: t => ext r s = false ∧ noExt (s :: t)
  | _ => True
structure WF (rs : List Rn) : Prop where
  ok : ∀ r ∈ rs, RunOk r
  ne : noExt rs
  len : rs.length ≤ 1000
theorem extends_ok (r s : Rn) : wx m_extends_run [some (.tuple [.str r.1, .int r.2.1, .int r.2.2], .f), some (.tuple [.str s.1, .int s.2.1, .int s.2.2], .f)] fun d o e => d = .bool (ext r s) ∧ o = .f ∧ e = [none, none] := by
  unfold m_extends_run b_extends_run
  try get_elem_tactic_extensible
  unfold ext
  refine ⟨fun h => ⟨?_, rfl⟩, fun h => ⟨?_, rfl⟩⟩
  · rw [decide_eq_true h]; rfl
  · rw [decide_eq_false h]; rfl
theorem integer_ok2 {v lo : Int} (h1 : lo ≤ v) : wx m_is_integer [some (.int v, .f), some (.int lo, .f), some (.none, .f)] fun d o e => d = .bool true ∧ e = [none, none, none] := by
  unfold m_is_integer b_is_integer
  try get_elem_tactic_extensible
  exact ⟨fun q => by omega, fun _ => rfl⟩
theorem run_ok {r : Rn} (h : RunOk r) : wx m_is_run [some (.tuple [.str r.1, .int r.2.1, .int r.2.2], .f)] fun d o e => d = .bool true ∧ e = [none] := by
  obtain ⟨h1, h2, h3, h4⟩ := h
  unfold m_is_run b_is_run
  try get_elem_tactic_extensible
  refine wx_mono (writer_ok h1) ?_
  rintro _ o e ⟨rfl, rfl⟩
  try get_elem_tactic_extensible
  refine wx_mono (integer_ok2 h2) ?_
  rintro _ o e ⟨rfl, rfl⟩
  try get_elem_tactic_extensible
  refine wx_mono (integer_ok h3 h4) ?_
  rintro _ o e ⟨rfl, rfl⟩
  exact ⟨rfl, rfl⟩
theorem bools_false {α : Type} (l : List α) : boolsD (l.map fun _ => .bool false) = some (l.map fun _ => false) := by
  induction l with
  | nil => rfl
  | cons a l ih => rw [List.map_cons, boolsD, ih]; rfl
theorem noExt_get : ∀ {rs : List Rn} {k : Nat} {r s : Rn}, noExt rs → rs[k]? = some r → rs[k + 1]? = some s → ext r s = false
  | [], _, _, _, _, h, _ => by cases h
  | [a], 0, _, _, _, _, h => by cases h
  | [a], k + 1, _, _, _, h, _ => by simp at h
  | a :: b :: t, 0, r, s, hn, h1, h2 => by
    cases h1
    cases h2
    exact hn.1
  | a :: b :: t, k + 1, r, s, hn, h1, h2 => noExt_get (rs := b :: t) (k := k) hn.2 (by simpa using h1) (by simpa using h2)
theorem cut_tail (l : List D) : Ev.cutD l (some 1) none = l.drop 1 := by
  unfold Ev.cutD HT.sIx
  cases l with
  | nil => simp
  | cons a l => simp
/-- a content: a list or a tuple of runs -/
inductive IsT : D → List Rn → Prop
  | l {rs : List Rn} : IsT (.list (encN rs)) rs
  | t {rs : List Rn} : IsT (.tuple (encN rs)) rs
theorem wf_ok {d : D} {rs : List Rn} (ht : IsT d rs) (h : WF rs) : wx m_is_well_formed [some (d, .f)] fun x o e => x = .bool true ∧ e = [none] := by
  have hs := sizeLine_eq
  have hl := h.len
  cases ht
  all_goals
    unfold m_is_well_formed b_is_well_formed
    try get_elem_tactic_extensible
    refine wc_pure (fun _ => true) (fun _ => .bool true) (by rw [encN_len, List.length_nil]; omega) ?_ ?_
    · intro d hd
      obtain ⟨r, hr, rfl⟩ := List.mem_map.mp hd
      unfold e1_is_well_formed
      try get_elem_tactic_extensible
      refine wx_mono (run_ok (h.ok r hr)) ?_
      rintro _ o e ⟨rfl, rfl⟩
      try get_elem_tactic_extensible
    · rw [List.nil_append, List.filter_eq_self.mpr (fun _ _ => rfl), bools_true]
      try get_elem_tactic_extensible
      have e1 : ((encN rs).map fun _ => true).all id = true := by simp
      rw [e1]
      refine ⟨fun q => (by cases q), fun _ => ?_⟩
      rw [cut_tail]
      refine wc_pure (fun _ => true) (fun _ => .bool false) ?_ ?_ ?_
      · unfold zipD; rw [List.length_nil, List.length_zipWith, encN_len]; omega
      · intro d hd
        obtain ⟨k, hk, hd⟩ := List.getElem_of_mem hd
        obtain ⟨d1, d2, q1, q2, rfl⟩ := zipD_get (show (zipD (encN rs) ((encN rs).drop 1))[k]? = some d by rw [List.getElem?_eq_getElem hk, hd])
        rw [List.getElem?_drop] at q2
        unfold encN at q1 q2
        rw [List.getElem?_map] at q1 q2
        obtain ⟨r, r1, rfl⟩ := Option.map_eq_some_iff.mp q1
        obtain ⟨s, s1, rfl⟩ := Option.map_eq_some_iff.mp q2
        have hx := noExt_get h.ne r1 (by rw [Nat.add_comm]; exact s1)
        unfold e2_is_well_formed
        try get_elem_tactic_extensible
        refine wx_mono (extends_ok r s) ?_
        rintro _ o e ⟨rfl, rfl, rfl⟩
        rw [hx]
        try get_elem_tactic_extensible
      · rw [List.nil_append, List.filter_eq_self.mpr (fun _ _ => rfl), bools_false]
        try get_elem_tactic_extensible
        have e2 : ((zipD (encN rs) ((encN rs).drop 1)).map fun _ => false).any id = false := by simp
        rw [e2]
        exact ⟨rfl, rfl⟩
theorem require_wf {d : D} {rs : List Rn} (ht : IsT d rs) (h : WF rs) : wx m_require_well_formed [some (d, .f)] fun x o e => x = .list (encN rs) ∧ e = [none] := by
  unfold m_require_well_formed b_require_well_formed
  try get_elem_tactic_extensible
  refine wx_mono (wf_ok ht h) ?_
  rintro _ o e ⟨rfl, rfl⟩
  cases ht <;> try get_elem_tactic_extensible <;> rfl
/-! ### appending -/
def putR (rs : List Rn) (r : Rn) : List Rn := match rs.getLast? with
  | some l => if ext l r = true then rs.dropLast ++ [(r.1, l.2.1, r.2.2)] else rs ++ [r]
  | none => rs ++ [r]
theorem encN_append (a b : List Rn) : encN (a ++ b) = encN a ++ encN b := by unfold encN; rw [List.map_append]
theorem lay_run {k : Nat} {r : Rn} (h : ∀ c ∈ r.1.cps.toList, Lt c) : lay (k + 1) (.tuple [.str r.1, .int r.2.1, .int r.2.2]) := lay_tup fun d hd => by
  rcases List.mem_cons.mp hd with rfl | hd
  · exact lay_name h
  · rcases List.mem_cons.mp hd with rfl | hd
    · exact lay_int
    · rw [List.mem_singleton.mp hd]; exact lay_int
theorem lay_runs {rs : List Rn} (h : ∀ r ∈ rs, RunOk r) : lay 2 (.list (encN rs)) := lay_list (k := 1) fun d hd => by
  obtain ⟨r, hr, rfl⟩ := List.mem_map.mp hd
  exact lay_run (h r hr).1.2.2
theorem cut_init {a : D} {l : List D} : Ev.cutD (l ++ [a]) none (some (-1)) = l := by
  have h1 : HT.sIx (l ++ [a]).length 0 none = 0 := rfl
  have h2 : HT.sIx (l ++ [a]).length (l ++ [a]).length (some (-1)) = l.length := by
    unfold HT.sIx
    rw [List.length_append, List.length_singleton]
    dsimp only
    rw [if_pos (by decide)]
    omega
  unfold Ev.cutD
  rw [h1, h2]
  simp
theorem append_run_ok {rs : List Rn} {r : Rn} (h : ∀ x ∈ rs, RunOk x) (hl : rs.length ≤ 1000) : wx m_append_run [some (.list (encN rs), .f), some (.tuple [.str r.1, .int r.2.1, .int r.2.2], .f)] fun d o e => d = .list (encN (putR rs r)) ∧ o = .o 0 ∧ e = [none, none] := by
  have hs := sizeLine_eq
  have hlay := (lay_runs h).eqOk
  unfold m_append_run b_append_run
  try get_elem_tactic_extensible
  refine ⟨by omega, ⟨hlay, rfl⟩, ?_⟩
  rw [eqv_nil]
  cases hg : rs.getLast? with
  | none =>
    have := List.getLast?_eq_none_iff.mp hg
    subst this
    refine ⟨fun q => (by cases q), fun _ => ⟨by omega, by rw [encN_len]; simp; omega, ?_, rfl⟩⟩
    unfold putR
    rw [hg, encN_append]; rfl
  | some l =>
    obtain ⟨V, rfl⟩ := List.getLast?_eq_some_iff.mp hg
    have e1 : encN (V ++ [l]) = encN V ++ [.tuple [.str l.1, .int l.2.1, .int l.2.2]] := encN_append ..
    have e2 : atI (encN (V ++ [l])) (-1) = some (.tuple [.str l.1, .int l.2.1, .int l.2.2]) := by rw [e1]; exact atI_last _ _
    rw [e2]
    try get_elem_tactic_extensible
    refine ⟨fun _ => wx_mono (extends_ok l r) ?_, fun q => by rw [e1] at q; simp at q⟩
    rintro _ o e ⟨rfl, rfl, rfl⟩
    try get_elem_tactic_extensible
    rw [e2, e1, cut_init]
    try get_elem_tactic_extensible
    rw [List.length_append, List.length_singleton, encN_len]
    rw [List.length_append, List.length_singleton] at hl
    unfold putR
    rw [hg]
    dsimp only
    refine ⟨fun q => ⟨by omega, by omega, by omega, ?_, rfl⟩, fun q => ⟨by omega, by omega, ?_, rfl⟩⟩
    · rw [if_pos q, List.dropLast_concat, encN_append]; rfl
    · rw [if_neg (by rw [q]; exact Bool.false_ne_true), encN_append, e1]; rfl
theorem line_ok {z : Str} {n : Int} (h : Name z) (h1 : 1 ≤ n) (h2 : n ≤ 10 ^ 30) : wx m_is_any_line [some (.tuple [.str z, .int n], .f)] fun d o e => d = .bool true ∧ e = [none] := by
  unfold m_is_any_line b_is_any_line
  try get_elem_tactic_extensible
  refine wx_mono (writer_ok h) ?_
  rintro _ o e ⟨rfl, rfl⟩
  try get_elem_tactic_extensible
  refine wx_mono (integer_ok h1 h2) ?_
  rintro _ o e ⟨rfl, rfl⟩
  exact ⟨rfl, rfl⟩
theorem append_line_ok {rs : List Rn} {z : Str} {n : Int} {x : D} (hT : IsT x rs) (h : WF rs) (hz : Name z) (h1 : 1 ≤ n) (h2 : n ≤ 10 ^ 30) : wx m_append_line [some (x, .f), some (.tuple [.str z, .int n], .f)] fun d o e => d = .list (encN (putR rs (z, n, n))) ∧ o = .o 0 ∧ e = [none, none] := by
  unfold m_append_line b_append_line
  try get_elem_tactic_extensible
  refine wx_mono (require_wf hT h) ?_
  rintro _ o e ⟨rfl, rfl⟩
  try get_elem_tactic_extensible
  refine wx_mono (line_ok hz h1 h2) ?_
  rintro _ o e ⟨rfl, rfl⟩
  try get_elem_tactic_extensible
  refine ⟨by decide, wx_mono (append_run_ok (r := (z, n, n)) h.ok h.len) ?_⟩
  rintro _ o e ⟨rfl, rfl, rfl⟩
  exact ⟨rfl, rfl, rfl⟩
end K02
namespace K02
open PySem PySem.Spec PyProof.Rows L2 Ev
local macro_rules | `(tactic| get_elem_tactic_extensible) => `(tactic| simp only [isiT_int, isiB_int_none, isiB_int_int, isiB_int_str, isiB_int_bool, isiB_int_list, isiB_int_tuple, isiB_int_dict, isiT_bool, isiB_bool_none, isiB_bool_int, isiB_bool_str, isiB_bool_bool, isiB_bool_list, isiB_bool_tuple, isiB_bool_dict, isiT_str, isiB_str_none, isiB_str_int, isiB_str_str, isiB_str_bool, isiB_str_list, isiB_str_tuple, isiB_str_dict, isiT_list, isiB_list_none, isiB_list_int, isiB_list_str, isiB_list_bool, isiB_list_list, isiB_list_tuple, isiB_list_dict, isiT_tuple, isiB_tuple_none, isiB_tuple_int, isiB_tuple_str, isiB_tuple_bool, isiB_tuple_list, isiB_tuple_tuple, isiB_tuple_dict, isiT_dict, isiB_dict_none, isiB_dict_int, isiB_dict_str, isiB_dict_bool, isiB_dict_list, isiB_dict_tuple, isiB_dict_dict, isKind_str, isKind_int, isKind_list, ↓wg_some, ↓wx_cst, ↓wx_use, ↓wx_mov, ↓wx_fz, ↓wx_brw, ↓wx_op, ↓wx_un, ↓wx_call, ↓wa_nil, ↓wa_cons, ↓wa_oCons, ↓wx_lst, ↓wx_tup, ↓wx_and, ↓wx_or, ↓wx_not, ↓wx_if, ↓wx_chain, ↓wx_isi, ↓wx_isi2, ↓wx_met, ↓wx_mut, ↓wt_val, ↓wt_no, ↓wt_and, ↓wt_or, ↓wt_brw, ↓wt_yes, ↓ws_nx, ↓ws_bk, ↓ws_ct, ↓ws_nev, ↓ws_retN, ↓ws_ret, ↓ws_exp, ↓ws_seq, ↓ws_if, ↓ws_set, ↓ws_putD, ↓ws_setI, ↓ws_putA, ↓wx_dnew, ↓wkv_nil, ↓wkv_cons, ↓wx_disp, ↓ws_for, ↓ws_forD, ↓wx_lc, ↓wx_lcD, ↓wi_any, ↓wi_slot, ↓wi_rg1, ↓wi_rg2, ↓wg_nm, ↓wg_tp2, ↓wx_mB, ↓war_nil, ↓war_io, ↓war_ex, ↓wx_app, ↓wp_no, ↓wp_sm, ↓wx_sl, ↓ws_aug, ↓ws_par2, ↓ws_unp, ↓wx_slA, ↓wx_mutN, ↓ws_setN, ↓wx_mD, ↓wi_zipE, ↓wx_ixO, ↓wx_ixL, ↓wx_ixD, ↓wx_cpO, ↓wi_enum, ↓wg_tp3, ↓wg_tp4, ↓wg_tp5, ↓wx_get2, ↓wx_get1, ↓wx_getL, ↓wx_getO, ↓wx_lrg2, ↓wx_lrg1, ↓ws_par3, ↓wx_dc, ↓wx_dcD, ↓wx_bor, ↓wx_lrgA, ↓wx_slR, ↓wx_mutT, ↓wi_itD, ↓wx_tupO, ↓wx_borD, ↓ws_borD, ↓wx_appO, wo_some, wbl_bool, wnx_nx, wnx_rt, wnx_bk, wnx_ct, wU_f, wU_o, wM_f, wM_o, wq_some, wm_some, wL_o, wP_d, wP_l, wD_o, wint_int, wdc_dict, wit_list, wit_tup, wit_str, witD_list, witD_tup, witD_str, witD_dict, w1_one, w2_two, wB_rt, wB_nx, wlst_list, wF_f, wS_1, wS_2, wz_list, wz_tup, wI_l, wI_d, wI_f, w0_l, w0d_d, wC_l, wC_f, wC_d, wG_d, wG_f, wBr_o, wBr_f, wokS_n, wokS_f, wokS_o, wokT_n, wokT_c, wokE_0, wokE_s, wokE_1, wcl_f, wcl_o, wls_l, wls_d, wT_o, wNo_n, ox_int, ox_str, ox_list, ox_tup, ox_strI, wOw_o, wokSD_n, wokSD_f, wokSD_o, wokTD_n, wokTD_c, wokED_0, wokED_s, wclD_o, wdc_d, o_dictA_dict, o_dictA_list, o_add_int, o_add_str, o_add_list, o_sub_int, o_mul_int, o_div_int, o_pow_int, o_mod_int, o_neg_int, o_lt_int, o_le_int, o_gt_int, o_ge_int, o_eq_int, o_ne_int, o_eq_str, o_ne_str, o_eq_bool, o_ne_bool, o_eq_list, o_ne_list, o_eq_tup, o_ne_tup, o_isN_none, o_notN_none, o_isN_int, o_notN_int, o_isN_str, o_notN_str, o_isN_bool, o_notN_bool, o_isN_list, o_notN_list, o_isN_tup, o_notN_tup, o_isN_dict, o_notN_dict, o_ix_list, o_ix_tup, o_ix_str, o_ix_dict, o_in_str, o_nin_str, o_in_list, o_nin_list, o_in_dict, o_nin_dict, o_is_bool, o_not_bool, o_rev_list, o_sumV_dict, o_key_int, o_key_str, o_len_list, o_len_tup, o_len_dict, o_len_str, o_abs_int, o_max2_int, o_min2_int, o_int_int, o_int_bool, o_sum_list, o_all_list, o_any_list, o_min1_list, o_max1_list, o_sorted_list, o_repr_one, o_list_list, o_list_tup, o_list_str, o_list_dict, o_tup_list, o_tup_tup, o_vals_dict, o_dictP_list, o_join_list, o_app_one, o_ext_one, o_pop_none, o_popAt_one, o_clear_none, o_addI_int, o_addI_str, o_cut_list, o_cut_tup, o_cut_str, o_sortedA_list, o_sortedA_dict, o_index_list, o_eqK_dict, o_neK_dict, o_inK_dict, o_mulR_list, o_atI_00, o_atI_01, o_atI_02, turn_nx, turn_ct, turn_bk, turn_rt, fits_f0, true_and, and_true, true_implies, false_implies, Bool.true_eq_false, Bool.false_eq_true, Bool.not_true, Bool.not_false, Bool.not_not, decide_eq_true_eq, decide_eq_false_iff_not, Bool.not_eq_true, Bool.not_eq_false, Bool.not_eq_eq_eq_not, List.getElem?_cons_zero, List.getElem?_cons_succ, List.set_cons_zero, List.set_cons_succ, List.map_cons, List.map_nil, fzS_s, fzS_n, calmS_z, okS_z, List.length_cons, List.length_nil, List.cons_append, List.nil_append, List.append_nil, List.replicate_zero, List.replicate_succ, Option.isSome_some, Nat.zero_add, Nat.reduceAdd, Nat.reduceLT, Nat.reduceLeDiff, List.getElem?_nil, arEnv_io, arEnv_ex, arEnv_nil, aO_io, aO_ex, aO_nil, arIos_io, arIos_ex, arIos_nil, arLive_nil, arLive_cons, calmS_f, calmS_n, calmE_nil, calmE_cons, cast_0, cast_1, cast_2, cast_3, cast_4, cast_5, cast_6, cast_7, cast_8, cast_9, cast_10, cast_11, cast_12, Int.reduceEq, Bool.or_false, Bool.or_true, Bool.true_or, Bool.false_or, Bool.and_true, Bool.true_and, Bool.and_false, Bool.false_and, List.take_succ_cons, List.take_zero, Nat.succ_eq_add_one, ixN_zero, scal_none, scal_int, scal_str, scal_bool, still_none, still_int, still_str, still_bool, true_or, or_true, mulOk_l, mulOk_r, divOk_l, powOk_l, Nat.reducePow, Int.reducePow, Int.reduceToNat, Int.reduceAdd, Int.reduceLT, Int.reduceLE, Int.reduceNeg, Int.reduceMul, Int.reduceSub, ge_iff_le, gt_iff_lt, Nat.reduceEqDiff, ixN_10, ixN_20, ixN_21, ixN_30, ixN_31, ixN_32, ixN_40, ixN_41, ixN_42, ixN_43, ixN_50, ixN_51, ixN_52, ixN_53, ixN_54, imp_self, eq_self, not_true_eq_false, not_false_eq_true, forall_const, reduceCtorEq, wipeE, backE, List.getD_cons_zero, List.getD_cons_succ, fgOf])

/-! ### contents, as lists of lines -/
def rng (lo : Int) (k : Nat) : List Int := (List.range k).map fun i => lo + (i : Nat)
theorem rangeD_rng (lo : Int) (k : Nat) : rangeD lo k = (rng lo k).map .int := by unfold rangeD rng; rw [List.map_map]; rfl
theorem rng_mem {lo v : Int} {k : Nat} : v ∈ rng lo k ↔ lo ≤ v ∧ v < lo + k := by
  unfold rng
  simp only [List.mem_map, List.mem_range]
  constructor
  · rintro ⟨i, h, rfl⟩; omega
  · rintro ⟨h1, h2⟩; exact ⟨(v - lo).toNat, by omega, by omega⟩
theorem rng_len (lo : Int) (k : Nat) : (rng lo k).length = k := by unfold rng; simp
def encL (ls : Cs) : List D := ls.map fun p => .tuple [.str p.1, .int p.2]
theorem encL_len (ls : Cs) : (encL ls).length = ls.length := List.length_map ..
theorem rng_add (a : Int) (m n : Nat) : rng a (m + n) = rng a m ++ rng (a + m) n := by
  unfold rng
  rw [List.range_add, List.map_append, List.map_map]
  congr 1
  refine List.map_congr_left fun i _ => ?_
  show a + ((m + i : Nat) : Int) = a + m + i
  omega
theorem rng_succ (a : Int) (n : Nat) : rng a (n + 1) = a :: rng (a + 1) n := by
  rw [Nat.add_comm, rng_add]
  show [a + ((0 : Nat) : Int)] ++ rng (a + ((1 : Nat) : Int)) n = _
  rw [show a + ((0 : Nat) : Int) = a by omega]
  rfl
def exr (r : Rn) : Cs := (rng r.2.1 (r.2.2 - r.2.1 + 1).toNat).map fun i => (r.1, i)
def exs (rs : List Rn) : Cs := rs.flatMap exr
def len1 (r : Rn) : Int := r.2.2 - r.2.1 + 1
def tot (rs : List Rn) : Int := (rs.map len1).sum
theorem exr_len (r : Rn) : (exr r).length = (len1 r).toNat := by unfold exr len1; rw [List.length_map, rng_len]
theorem exs_cons (r : Rn) (rs : List Rn) : exs (r :: rs) = exr r ++ exs rs := List.flatMap_cons
theorem exs_append (a b : List Rn) : exs (a ++ b) = exs a ++ exs b := List.flatMap_append
theorem tot_eq {rs : List Rn} (h : ∀ r ∈ rs, r.2.1 ≤ r.2.2) : ((exs rs).length : Int) = tot rs := by
  induction rs with
  | nil => rfl
  | cons r rs ih =>
    have h1 := h r List.mem_cons_self
    have h2 := ih fun x hx => h x (List.mem_cons_of_mem _ hx)
    have h3 : tot (r :: rs) = len1 r + tot rs := by unfold tot; rw [List.map_cons, List.sum_cons]
    rw [exs_cons, List.length_append, exr_len, h3]
    unfold len1 at *
    omega
theorem exr_join {l r : Rn} (hl : l.2.1 ≤ l.2.2) (hr : r.2.1 ≤ r.2.2) (h : ext l r = true) : exr (r.1, l.2.1, r.2.2) = exr l ++ exr r := by
  unfold ext at h
  rw [Bool.and_eq_true, decide_eq_true_eq, decide_eq_true_eq] at h
  obtain ⟨h1, h2⟩ := h
  unfold exr
  dsimp only
  rw [h1, ← List.map_append]
  congr 1
  have e1 : (r.2.2 - l.2.1 + 1).toNat = (l.2.2 - l.2.1 + 1).toNat + (r.2.2 - r.2.1 + 1).toNat := by omega
  rw [e1, rng_add]
  congr 2
  omega
theorem exs_put {rs : List Rn} {r : Rn} (h : ∀ x ∈ rs, x.2.1 ≤ x.2.2) (hr : r.2.1 ≤ r.2.2) : exs (putR rs r) = exs rs ++ exr r := by
  unfold putR
  cases hg : rs.getLast? with
  | none => dsimp only; rw [exs_append]; congr 1; simp [exs]
  | some l =>
    obtain ⟨V, rfl⟩ := List.getLast?_eq_some_iff.mp hg
    dsimp only
    split
    · rename_i hx
      rw [List.dropLast_concat, exs_append, exs_append, List.append_assoc]
      congr 1
      have := exr_join (h l (List.mem_append_right _ (List.mem_singleton.mpr rfl))) hr hx
      simp only [exs, List.flatMap_cons, List.flatMap_nil, List.append_nil]
      exact this
    · rw [exs_append]; congr 1; simp [exs]
theorem noExt_snoc : ∀ {V : List Rn} {x : Rn}, noExt (V ++ [x]) ↔ noExt V ∧ ∀ l, V.getLast? = some l → ext l x = false
  | [], x => ⟨fun _ => ⟨trivial, fun l h => (by cases h)⟩, fun _ => trivial⟩
  | [a], x => ⟨fun h => ⟨trivial, fun l hl => by cases hl; exact h.1⟩, fun h => ⟨h.2 a rfl, trivial⟩⟩
  | a :: b :: t, x => by
    have ih := noExt_snoc (V := b :: t) (x := x)
    have e1 : noExt (a :: b :: t ++ [x]) ↔ ext a b = false ∧ noExt (b :: t ++ [x]) := Iff.rfl
    have e2 : noExt (a :: b :: t) ↔ ext a b = false ∧ noExt (b :: t) := Iff.rfl
    rw [e1, e2, ih, List.getLast?_cons_cons, and_assoc]
theorem put_len (rs : List Rn) (r : Rn) : (putR rs r).length ≤ rs.length + 1 := by
  unfold putR
  split
  · split
    · rw [List.length_append, List.length_dropLast, List.length_singleton]; omega
    · rw [List.length_append, List.length_singleton]; exact Nat.le_refl _
  · rw [List.length_append, List.length_singleton]; exact Nat.le_refl _
theorem put_wf {rs : List Rn} {r : Rn} (h : WF rs) (hr : RunOk r) (hl : rs.length < 1000) : WF (putR rs r) := by
  have hlen := put_len rs r
  unfold putR at hlen ⊢
  cases hg : rs.getLast? with
  | none =>
    have := List.getLast?_eq_none_iff.mp hg
    subst this
    exact ⟨fun x hx => by rw [List.mem_singleton.mp hx]; exact hr, trivial, (by show 1 ≤ 1000; decide)⟩
  | some l =>
    rw [hg] at hlen
    obtain ⟨V, rfl⟩ := List.getLast?_eq_some_iff.mp hg
    dsimp only at hlen ⊢
    have hlm : RunOk l := h.ok l (List.mem_append_right _ (List.mem_singleton.mpr rfl))
    split
    · rename_i hx
      have hx' := hx
      unfold ext at hx'
      rw [Bool.and_eq_true, decide_eq_true_eq, decide_eq_true_eq] at hx'
      rw [if_pos hx] at hlen
      rw [List.dropLast_concat] at hlen ⊢
      obtain ⟨k1, k2⟩ := noExt_snoc.mp h.ne
      refine ⟨fun x hxm => ?_, noExt_snoc.mpr ⟨k1, fun y hy => ?_⟩, by omega⟩
      · rcases List.mem_append.mp hxm with hxm | hxm
        · exact h.ok x (List.mem_append_left _ hxm)
        · rw [List.mem_singleton.mp hxm]
          exact ⟨hr.1, hlm.2.1, by have := hlm.2.2.1; have := hr.2.2.1; show l.2.1 ≤ r.2.2; omega, hr.2.2.2⟩
      · have := k2 y hy
        unfold ext at this ⊢
        rw [← hx'.1]; exact this
    · rename_i hx
      rw [if_neg hx] at hlen
      refine ⟨fun x hxm => ?_, noExt_snoc.mpr ⟨h.ne, fun y hy => ?_⟩, by omega⟩
      · rcases List.mem_append.mp hxm with hxm | hxm
        · exact h.ok x hxm
        · rw [List.mem_singleton.mp hxm]; exact hr
      · rw [hg] at hy; cases hy; exact Bool.eq_false_iff.mpr hx
def runsOf (ls : Cs) : List Rn := ls.foldl (fun rs p => putR rs (p.1, p.2, p.2)) []
theorem runsOf_snoc (ls : Cs) (p : Str × Int) : runsOf (ls ++ [p]) = putR (runsOf ls) (p.1, p.2, p.2) := by unfold runsOf; rw [List.foldl_append]; rfl
theorem exr_one (z : Str) (n : Int) : exr (z, n, n) = [(z, n)] := by
  unfold exr
  have : (n - n + 1).toNat = 1 := by omega
  dsimp only
  rw [this]
  show [(z, n + ((0 : Nat) : Int))] = _
  rw [show n + ((0 : Nat) : Int) = n by omega]
def LineOk (p : Str × Int) : Prop := Name p.1 ∧ 1 ≤ p.2 ∧ p.2 ≤ 10 ^ 30
theorem snoc_ind {α : Type} {P : List α → Prop} (h0 : P []) (h1 : ∀ l a, P l → P (l ++ [a])) (l : List α) : P l := by
  have : ∀ n (l : List α), l.length = n → P l := by
    intro n
    induction n with
    | zero => intro l hl; rw [List.length_eq_zero_iff.mp hl]; exact h0
    | succ n ih =>
      intro l hl
      have hne : l ≠ [] := by intro z; subst z; cases hl
      rw [← List.dropLast_concat_getLast hne]
      exact h1 _ _ (ih _ (by rw [List.length_dropLast]; omega))
  exact this _ l rfl
theorem runsOf_ok (ls : Cs) : (∀ p ∈ ls, LineOk p) → ls.length ≤ 900 → WF (runsOf ls) ∧ exs (runsOf ls) = ls ∧ (runsOf ls).length ≤ ls.length := by
  induction ls using snoc_ind with
  | h0 => intro _ _; exact ⟨⟨fun x hx => (by cases hx), trivial, by decide⟩, rfl, Nat.le_refl _⟩
  | h1 l a ih =>
    intro h hl
    rw [List.length_append, List.length_singleton] at hl
    obtain ⟨i1, i2, i3⟩ := ih (fun p hp => h p (List.mem_append_left _ hp)) (by omega)
    have ha := h a (List.mem_append_right _ (List.mem_singleton.mpr rfl))
    rw [runsOf_snoc]
    have hr : RunOk (a.1, a.2, a.2) := ⟨ha.1, ha.2.1, Int.le_refl _, ha.2.2⟩
    have hpl := put_len (runsOf l) (a.1, a.2, a.2)
    refine ⟨put_wf i1 hr (by omega), ?_, by rw [List.length_append, List.length_singleton]; omega⟩
    rw [exs_put (fun x hx => (i1.ok x hx).2.2.1) (Int.le_refl _), i2, exr_one]
end K02
namespace K02
open PySem PySem.Spec PyProof.Rows L2 Ev
local macro_rules | `(tactic| get_elem_tactic_extensible) => `(tactic| simp only [isiT_int, isiB_int_none, isiB_int_int, isiB_int_str, isiB_int_bool, isiB_int_list, isiB_int_tuple, isiB_int_dict, isiT_bool, isiB_bool_none, isiB_bool_int, isiB_bool_str, isiB_bool_bool, isiB_bool_list, isiB_bool_tuple, isiB_bool_dict, isiT_str, isiB_str_none, isiB_str_int, isiB_str_str, isiB_str_bool, isiB_str_list, isiB_str_tuple, isiB_str_dict, isiT_list, isiB_list_none, isiB_list_int, isiB_list_str, isiB_list_bool, isiB_list_list, isiB_list_tuple, isiB_list_dict, isiT_tuple, isiB_tuple_none, isiB_tuple_int, isiB_tuple_str, isiB_tuple_bool, isiB_tuple_list, isiB_tuple_tuple, isiB_tuple_dict, isiT_dict, isiB_dict_none, isiB_dict_int, isiB_dict_str, isiB_dict_bool, isiB_dict_list, isiB_dict_tuple, isiB_dict_dict, isKind_str, isKind_int, isKind_list, ↓wg_some, ↓wx_cst, ↓wx_use, ↓wx_mov, ↓wx_fz, ↓wx_brw, ↓wx_op, ↓wx_un, ↓wx_call, ↓wa_nil, ↓wa_cons, ↓wa_oCons, ↓wx_lst, ↓wx_tup, ↓wx_and, ↓wx_or, ↓wx_not, ↓wx_if, ↓wx_chain, ↓wx_isi, ↓wx_isi2, ↓wx_met, ↓wx_mut, ↓wt_val, ↓wt_no, ↓wt_and, ↓wt_or, ↓wt_brw, ↓wt_yes, ↓ws_nx, ↓ws_bk, ↓ws_ct, ↓ws_nev, ↓ws_retN, ↓ws_ret, ↓ws_exp, ↓ws_seq, ↓ws_if, ↓ws_set, ↓ws_putD, ↓ws_setI, ↓ws_putA, ↓wx_dnew, ↓wkv_nil, ↓wkv_cons, ↓wx_disp, ↓ws_for, ↓ws_forD, ↓wx_lc, ↓wx_lcD, ↓wi_any, ↓wi_slot, ↓wi_rg1, ↓wi_rg2, ↓wg_nm, ↓wg_tp2, ↓wx_mB, ↓war_nil, ↓war_io, ↓war_ex, ↓wx_app, ↓wp_no, ↓wp_sm, ↓wx_sl, ↓ws_aug, ↓ws_par2, ↓ws_unp, ↓wx_slA, ↓wx_mutN, ↓ws_setN, ↓wx_mD, ↓wi_zipE, ↓wx_ixO, ↓wx_ixL, ↓wx_ixD, ↓wx_cpO, ↓wi_enum, ↓wg_tp3, ↓wg_tp4, ↓wg_tp5, ↓wx_get2, ↓wx_get1, ↓wx_getL, ↓wx_getO, ↓wx_lrg2, ↓wx_lrg1, ↓ws_par3, ↓wx_dc, ↓wx_dcD, ↓wx_bor, ↓wx_lrgA, ↓wx_slR, ↓wx_mutT, ↓wi_itD, ↓wx_tupO, ↓wx_borD, ↓ws_borD, ↓wx_appO, wo_some, wbl_bool, wnx_nx, wnx_rt, wnx_bk, wnx_ct, wU_f, wU_o, wM_f, wM_o, wq_some, wm_some, wL_o, wP_d, wP_l, wD_o, wint_int, wdc_dict, wit_list, wit_tup, wit_str, witD_list, witD_tup, witD_str, witD_dict, w1_one, w2_two, wB_rt, wB_nx, wlst_list, wF_f, wS_1, wS_2, wz_list, wz_tup, wI_l, wI_d, wI_f, w0_l, w0d_d, wC_l, wC_f, wC_d, wG_d, wG_f, wBr_o, wBr_f, wokS_n, wokS_f, wokS_o, wokT_n, wokT_c, wokE_0, wokE_s, wokE_1, wcl_f, wcl_o, wls_l, wls_d, wT_o, wNo_n, ox_int, ox_str, ox_list, ox_tup, ox_strI, wOw_o, wokSD_n, wokSD_f, wokSD_o, wokTD_n, wokTD_c, wokED_0, wokED_s, wclD_o, wdc_d, o_dictA_dict, o_dictA_list, o_add_int, o_add_str, o_add_list, o_sub_int, o_mul_int, o_div_int, o_pow_int, o_mod_int, o_neg_int, o_lt_int, o_le_int, o_gt_int, o_ge_int, o_eq_int, o_ne_int, o_eq_str, o_ne_str, o_eq_bool, o_ne_bool, o_eq_list, o_ne_list, o_eq_tup, o_ne_tup, o_isN_none, o_notN_none, o_isN_int, o_notN_int, o_isN_str, o_notN_str, o_isN_bool, o_notN_bool, o_isN_list, o_notN_list, o_isN_tup, o_notN_tup, o_isN_dict, o_notN_dict, o_ix_list, o_ix_tup, o_ix_str, o_ix_dict, o_in_str, o_nin_str, o_in_list, o_nin_list, o_in_dict, o_nin_dict, o_is_bool, o_not_bool, o_rev_list, o_sumV_dict, o_key_int, o_key_str, o_len_list, o_len_tup, o_len_dict, o_len_str, o_abs_int, o_max2_int, o_min2_int, o_int_int, o_int_bool, o_sum_list, o_all_list, o_any_list, o_min1_list, o_max1_list, o_sorted_list, o_repr_one, o_list_list, o_list_tup, o_list_str, o_list_dict, o_tup_list, o_tup_tup, o_vals_dict, o_dictP_list, o_join_list, o_app_one, o_ext_one, o_pop_none, o_popAt_one, o_clear_none, o_addI_int, o_addI_str, o_cut_list, o_cut_tup, o_cut_str, o_sortedA_list, o_sortedA_dict, o_index_list, o_eqK_dict, o_neK_dict, o_inK_dict, o_mulR_list, o_atI_00, o_atI_01, o_atI_02, turn_nx, turn_ct, turn_bk, turn_rt, fits_f0, true_and, and_true, true_implies, false_implies, Bool.true_eq_false, Bool.false_eq_true, Bool.not_true, Bool.not_false, Bool.not_not, decide_eq_true_eq, decide_eq_false_iff_not, Bool.not_eq_true, Bool.not_eq_false, Bool.not_eq_eq_eq_not, List.getElem?_cons_zero, List.getElem?_cons_succ, List.set_cons_zero, List.set_cons_succ, List.map_cons, List.map_nil, fzS_s, fzS_n, calmS_z, okS_z, List.length_cons, List.length_nil, List.cons_append, List.nil_append, List.append_nil, List.replicate_zero, List.replicate_succ, Option.isSome_some, Nat.zero_add, Nat.reduceAdd, Nat.reduceLT, Nat.reduceLeDiff, List.getElem?_nil, arEnv_io, arEnv_ex, arEnv_nil, aO_io, aO_ex, aO_nil, arIos_io, arIos_ex, arIos_nil, arLive_nil, arLive_cons, calmS_f, calmS_n, calmE_nil, calmE_cons, cast_0, cast_1, cast_2, cast_3, cast_4, cast_5, cast_6, cast_7, cast_8, cast_9, cast_10, cast_11, cast_12, Int.reduceEq, Bool.or_false, Bool.or_true, Bool.true_or, Bool.false_or, Bool.and_true, Bool.true_and, Bool.and_false, Bool.false_and, List.take_succ_cons, List.take_zero, Nat.succ_eq_add_one, ixN_zero, scal_none, scal_int, scal_str, scal_bool, still_none, still_int, still_str, still_bool, true_or, or_true, mulOk_l, mulOk_r, divOk_l, powOk_l, Nat.reducePow, Int.reducePow, Int.reduceToNat, Int.reduceAdd, Int.reduceLT, Int.reduceLE, Int.reduceNeg, Int.reduceMul, Int.reduceSub, ge_iff_le, gt_iff_lt, Nat.reduceEqDiff, ixN_10, ixN_20, ixN_21, ixN_30, ixN_31, ixN_32, ixN_40, ixN_41, ixN_42, ixN_43, ixN_50, ixN_51, ixN_52, ixN_53, ixN_54, imp_self, eq_self, not_true_eq_false, not_false_eq_true, forall_const, reduceCtorEq, wipeE, backE, List.getD_cons_zero, List.getD_cons_succ, fgOf])

/-! ### prefixes -/
def preI : List Rn → List Rn → Bool
  | [], _ => true
  | _ :: _, [] => false
  | [r], s :: _ => decide (r.1 = s.1) && decide (r.2.1 = s.2.1) && decide (r.2.2 ≤ s.2.2)
  | r :: r2 :: t, s :: o => decide (r = s) && preI (r2 :: t) o
theorem exr_split {w : Str} {a m b : Int} (h1 : a ≤ m + 1) (h2 : m ≤ b) : exr (w, a, b) = exr (w, a, m) ++ exr (w, m + 1, b) := by
  unfold exr
  dsimp only
  rw [← List.map_append]
  congr 1
  have e1 : (b - a + 1).toNat = (m - a + 1).toNat + (b - (m + 1) + 1).toNat := by omega
  rw [e1, rng_add]
  congr 2
  omega
theorem exr_head {r : Rn} (h : r.2.1 ≤ r.2.2) : ∃ t, exr r = (r.1, r.2.1) :: t := by
  unfold exr
  have : (r.2.2 - r.2.1 + 1).toNat = (r.2.2 - r.2.1).toNat + 1 := by omega
  rw [this, rng_succ, List.map_cons]
  exact ⟨_, rfl⟩
theorem exs_head {r : Rn} {rs : List Rn} (h : r.2.1 ≤ r.2.2) : ∃ t, exs (r :: rs) = (r.1, r.2.1) :: t := by
  obtain ⟨t, ht⟩ := exr_head h
  rw [exs_cons, ht]
  exact ⟨_, rfl⟩
theorem ext_true {r s : Rn} (h1 : r.1 = s.1) (h2 : s.2.1 = r.2.2 + 1) : ext r s = true := by
  unfold ext; rw [decide_eq_true h1, decide_eq_true h2]; rfl
theorem noExt_tail {r : Rn} {rs : List Rn} (h : noExt (r :: rs)) : noExt rs := by
  cases rs with
  | nil => trivial
  | cons s t => exact h.2
theorem rn_eq {r s : Rn} (h1 : r.1 = s.1) (h2 : r.2.1 = s.2.1) (h3 : r.2.2 = s.2.2) : r = s := by
  obtain ⟨a, b, c⟩ := r
  obtain ⟨x, y, z⟩ := s
  dsimp only at h1 h2 h3
  rw [h1, h2, h3]
theorem pre_iff : ∀ {c o : List Rn}, (∀ r ∈ c, r.2.1 ≤ r.2.2) → (∀ r ∈ o, r.2.1 ≤ r.2.2) → noExt c → noExt o → (preI c o = true ↔ exs c <+: exs o)
  | [], o, _, _, _, _ => ⟨fun _ => List.nil_prefix, fun _ => by cases o <;> rfl⟩
  | r :: c, [], hc, _, _, _ => by
    obtain ⟨t, ht⟩ := exs_head (rs := c) (hc r List.mem_cons_self)
    refine ⟨fun h => (by cases c <;> cases h), fun h => ?_⟩
    rw [ht] at h
    have := h.length_le
    simp [exs] at this
  | r :: c, s :: o, hc, ho, nc, no => by
    have r0 := hc r List.mem_cons_self
    have s0 := ho s List.mem_cons_self
    have hc' : ∀ x ∈ c, x.2.1 ≤ x.2.2 := fun x hx => hc x (List.mem_cons_of_mem _ hx)
    have ho' : ∀ x ∈ o, x.2.1 ≤ x.2.2 := fun x hx => ho x (List.mem_cons_of_mem _ hx)
    have ih := pre_iff hc' ho' (noExt_tail nc) (noExt_tail no)
    have same : r = s → (preI (r :: c) (s :: o) = true ↔ exs (r :: c) <+: exs (s :: o)) := fun e => by
      subst e
      rw [exs_cons, exs_cons, List.prefix_append_right_inj, ← ih]
      cases c with
      | nil => simp [preI]
      | cons r2 t => simp [preI]
    by_cases hrs : r = s
    · exact same hrs
    · constructor
      · intro h
        cases c with
        | nil =>
          simp only [preI, Bool.and_eq_true, decide_eq_true_eq] at h
          obtain ⟨⟨h1, h2⟩, h3⟩ := h
          have e1 : exr s = exr r ++ exr (s.1, r.2.2 + 1, s.2.2) := by
            have := exr_split (w := s.1) (a := s.2.1) (m := r.2.2) (b := s.2.2) (by omega) h3
            have er : (s.1, s.2.1, r.2.2) = r := rn_eq h1.symm h2.symm rfl
            rw [er] at this
            exact this
          rw [exs_cons, exs_cons, e1, List.append_assoc]
          simp only [exs, List.flatMap_nil, List.append_nil]
          exact List.prefix_append ..
        | cons r2 t =>
          simp only [preI, Bool.and_eq_true, decide_eq_true_eq] at h
          exact absurd h.1 hrs
      · intro h
        obtain ⟨t1, ht1⟩ := exs_head (rs := c) r0
        obtain ⟨t2, ht2⟩ := exs_head (rs := o) s0
        have hh := h
        rw [ht1, ht2, List.cons_prefix_cons, Prod.mk.injEq] at hh
        obtain ⟨⟨h1, h2⟩, _⟩ := hh
        rcases Int.lt_trichotomy r.2.2 s.2.2 with h3 | h3 | h3
        · cases c with
          | nil => simp only [preI, Bool.and_eq_true, decide_eq_true_eq]; exact ⟨⟨h1, h2⟩, by omega⟩
          | cons r2 t =>
            exfalso
            have e1 : exr s = exr r ++ exr (s.1, r.2.2 + 1, s.2.2) := by
              have := exr_split (w := s.1) (a := s.2.1) (m := r.2.2) (b := s.2.2) (by omega) (by omega)
              have er : (s.1, s.2.1, r.2.2) = r := rn_eq h1.symm h2.symm rfl
              rw [er] at this
              exact this
            rw [exs_cons, exs_cons (rs := o), e1, List.append_assoc, List.prefix_append_right_inj] at h
            obtain ⟨t3, ht3⟩ := exs_head (r := r2) (rs := t) (hc' r2 List.mem_cons_self)
            obtain ⟨t4, ht4⟩ := exr_head (r := (s.1, r.2.2 + 1, s.2.2)) (by show r.2.2 + 1 ≤ s.2.2; omega)
            rw [ht3, ht4, List.cons_append, List.cons_prefix_cons, Prod.mk.injEq] at h
            have := ext_true (r := r) (s := r2) (by rw [h.1.1]; exact h1) h.1.2
            rw [nc.1] at this
            cases this
        · exact absurd (rn_eq h1 h2 h3) hrs
        · exfalso
          have e1 : exr r = exr s ++ exr (r.1, s.2.2 + 1, r.2.2) := by
            have := exr_split (w := r.1) (a := r.2.1) (m := s.2.2) (b := r.2.2) (by omega) (by omega)
            have er : (r.1, r.2.1, s.2.2) = s := rn_eq h1 h2 rfl
            rw [er] at this
            exact this
          rw [exs_cons, exs_cons (rs := o), e1, List.append_assoc, List.prefix_append_right_inj] at h
          obtain ⟨t4, ht4⟩ := exr_head (r := (r.1, s.2.2 + 1, r.2.2)) (by show s.2.2 + 1 ≤ r.2.2; omega)
          rw [ht4] at h
          cases o with
          | nil => have := h.length_le; simp [exs] at this
          | cons s2 o2 =>
            obtain ⟨t3, ht3⟩ := exs_head (r := s2) (rs := o2) (ho' s2 List.mem_cons_self)
            rw [ht3, List.cons_append, List.cons_prefix_cons, Prod.mk.injEq] at h
            have := ext_true (r := s) (s := s2) (by rw [← h.1.1]; exact h1.symm) h.1.2.symm
            rw [no.1] at this
            cases this
theorem pre_anti : ∀ {a b : List Rn}, preI a b = true → preI b a = true → a = b
  | [], [], _, _ => rfl
  | [], s :: b, _, h => by cases b <;> cases h
  | r :: a, [], h, _ => by cases a <;> cases h
  | [r], [s], h1, h2 => by
    simp only [preI, Bool.and_eq_true, decide_eq_true_eq] at h1 h2
    rw [rn_eq h1.1.1 h1.1.2 (by omega)]
  | [r], s :: s2 :: b, _, h => by
    simp only [preI, Bool.and_eq_true] at h
    cases b <;> cases h.2
  | r :: r2 :: a, [s], h, _ => by
    simp only [preI, Bool.and_eq_true] at h
    cases a <;> cases h.2
  | r :: r2 :: a, s :: s2 :: b, h1, h2 => by
    simp only [preI, Bool.and_eq_true, decide_eq_true_eq] at h1 h2
    rw [h1.1, pre_anti h1.2 h2.2]
theorem exs_inj {a b : List Rn} (ha : ∀ r ∈ a, r.2.1 ≤ r.2.2) (hb : ∀ r ∈ b, r.2.1 ≤ r.2.2) (na : noExt a) (nb : noExt b) (h : exs a = exs b) : a = b :=
  pre_anti ((pre_iff ha hb na nb).mpr (by rw [h]; exact List.prefix_refl _)) ((pre_iff hb ha nb na).mpr (by rw [h]; exact List.prefix_refl _))
/-! ### counting and finding lines -/
theorem length_ok (r : Rn) : wx m_run_length [some (.tuple [.str r.1, .int r.2.1, .int r.2.2], .f)] fun d o e => d = .int (len1 r) ∧ o = .f ∧ e = [none] := by
  unfold m_run_length b_run_length
  try get_elem_tactic_extensible
  exact ⟨rfl, rfl⟩
theorem total_ok {rs : List Rn} (hl : rs.length ≤ 1000) : wx m_total_length [some (.list (encN rs), .f)] fun d o e => d = .int (tot rs) ∧ o = .f ∧ e = [none] := by
  have hs := sizeLine_eq
  unfold m_total_length b_total_length
  try get_elem_tactic_extensible
  refine wc_pure (fun _ => true) (fun d => match d with | .tuple [_, .int a, .int b] => .int (b - a + 1) | _ => d) (by rw [encN_len, List.length_nil]; omega) ?_ ?_
  · intro d hd
    obtain ⟨r, hr, rfl⟩ := List.mem_map.mp hd
    unfold e1_total_length
    try get_elem_tactic_extensible
    refine wx_mono (length_ok r) ?_
    rintro _ o e ⟨rfl, rfl, rfl⟩
    try get_elem_tactic_extensible
    rfl
  · rw [List.nil_append, List.filter_eq_self.mpr (fun _ _ => rfl)]
    have e1 : (encN rs).map (fun d => match d with | .tuple [_, .int a, .int b] => PyData.int (b - a + 1) | _ => d) = (rs.map len1).map .int := by
      unfold encN; rw [List.map_map, List.map_map]; rfl
    rw [e1, intsD_map]
    try get_elem_tactic_extensible
    exact ⟨rfl, rfl⟩
theorem count_ok {rs : List Rn} {x : D} (hT : IsT x rs) (h : WF rs) : wx m_count_lines [some (x, .f)] fun d o e => d = .int (tot rs) ∧ o = .f ∧ e = [none] := by
  unfold m_count_lines b_count_lines
  try get_elem_tactic_extensible
  refine wx_mono (require_wf hT h) ?_
  rintro _ o e ⟨rfl, rfl⟩
  try get_elem_tactic_extensible
  refine wx_mono (total_ok h.len) ?_
  rintro _ o e ⟨rfl, rfl, rfl⟩
  exact ⟨rfl, rfl, rfl⟩
theorem encN_cons (r : Rn) (rs : List Rn) : encN (r :: rs) = .tuple [.str r.1, .int r.2.1, .int r.2.2] :: encN rs := rfl
theorem rng_get {a : Int} {n k : Nat} (h : k < n) : (rng a n)[k]? = some (a + (k : Nat)) := by
  unfold rng
  rw [List.getElem?_map, List.getElem?_range h]; rfl
theorem exr_get {r : Rn} {k : Nat} (h : (k : Int) < len1 r) : (exr r)[k]? = some (r.1, r.2.1 + (k : Nat)) := by
  unfold exr
  unfold len1 at h
  rw [List.getElem?_map, rng_get (by omega)]; rfl
end K02
namespace K02
open PySem PySem.Spec PyProof.Rows L2 Ev
local macro_rules | `(tactic| get_elem_tactic_extensible) => `(tactic| simp only [isiT_int, isiB_int_none, isiB_int_int, isiB_int_str, isiB_int_bool, isiB_int_list, isiB_int_tuple, isiB_int_dict, isiT_bool, isiB_bool_none, isiB_bool_int, isiB_bool_str, isiB_bool_bool, isiB_bool_list, isiB_bool_tuple, isiB_bool_dict, isiT_str, isiB_str_none, isiB_str_int, isiB_str_str, isiB_str_bool, isiB_str_list, isiB_str_tuple, isiB_str_dict, isiT_list, isiB_list_none, isiB_list_int, isiB_list_str, isiB_list_bool, isiB_list_list, isiB_list_tuple, isiB_list_dict, isiT_tuple, isiB_tuple_none, isiB_tuple_int, isiB_tuple_str, isiB_tuple_bool, isiB_tuple_list, isiB_tuple_tuple, isiB_tuple_dict, isiT_dict, isiB_dict_none, isiB_dict_int, isiB_dict_str, isiB_dict_bool, isiB_dict_list, isiB_dict_tuple, isiB_dict_dict, isKind_str, isKind_int, isKind_list, ↓wg_some, ↓wx_cst, ↓wx_use, ↓wx_mov, ↓wx_fz, ↓wx_brw, ↓wx_op, ↓wx_un, ↓wx_call, ↓wa_nil, ↓wa_cons, ↓wa_oCons, ↓wx_lst, ↓wx_tup, ↓wx_and, ↓wx_or, ↓wx_not, ↓wx_if, ↓wx_chain, ↓wx_isi, ↓wx_isi2, ↓wx_met, ↓wx_mut, ↓wt_val, ↓wt_no, ↓wt_and, ↓wt_or, ↓wt_brw, ↓wt_yes, ↓ws_nx, ↓ws_bk, ↓ws_ct, ↓ws_nev, ↓ws_retN, ↓ws_ret, ↓ws_exp, ↓ws_seq, ↓ws_if, ↓ws_set, ↓ws_putD, ↓ws_setI, ↓ws_putA, ↓wx_dnew, ↓wkv_nil, ↓wkv_cons, ↓wx_disp, ↓ws_for, ↓ws_forD, ↓wx_lc, ↓wx_lcD, ↓wi_any, ↓wi_slot, ↓wi_rg1, ↓wi_rg2, ↓wg_nm, ↓wg_tp2, ↓wx_mB, ↓war_nil, ↓war_io, ↓war_ex, ↓wx_app, ↓wp_no, ↓wp_sm, ↓wx_sl, ↓ws_aug, ↓ws_par2, ↓ws_unp, ↓wx_slA, ↓wx_mutN, ↓ws_setN, ↓wx_mD, ↓wi_zipE, ↓wx_ixO, ↓wx_ixL, ↓wx_ixD, ↓wx_cpO, ↓wi_enum, ↓wg_tp3, ↓wg_tp4, ↓wg_tp5, ↓wx_get2, ↓wx_get1, ↓wx_getL, ↓wx_getO, ↓wx_lrg2, ↓wx_lrg1, ↓ws_par3, ↓wx_dc, ↓wx_dcD, ↓wx_bor, ↓wx_lrgA, ↓wx_slR, ↓wx_mutT, ↓wi_itD, ↓wx_tupO, ↓wx_borD, ↓ws_borD, ↓wx_appO, wo_some, wbl_bool, wnx_nx, wnx_rt, wnx_bk, wnx_ct, wU_f, wU_o, wM_f, wM_o, wq_some, wm_some, wL_o, wP_d, wP_l, wD_o, wint_int, wdc_dict, wit_list, wit_tup, wit_str, witD_list, witD_tup, witD_str, witD_dict, w1_one, w2_two, wB_rt, wB_nx, wlst_list, wF_f, wS_1, wS_2, wz_list, wz_tup, wI_l, wI_d, wI_f, w0_l, w0d_d, wC_l, wC_f, wC_d, wG_d, wG_f, wBr_o, wBr_f, wokS_n, wokS_f, wokS_o, wokT_n, wokT_c, wokE_0, wokE_s, wokE_1, wcl_f, wcl_o, wls_l, wls_d, wT_o, wNo_n, ox_int, ox_str, ox_list, ox_tup, ox_strI, wOw_o, wokSD_n, wokSD_f, wokSD_o, wokTD_n, wokTD_c, wokED_0, wokED_s, wclD_o, wdc_d, o_dictA_dict, o_dictA_list, o_add_int, o_add_str, o_add_list, o_sub_int, o_mul_int, o_div_int, o_pow_int, o_mod_int, o_neg_int, o_lt_int, o_le_int, o_gt_int, o_ge_int, o_eq_int, o_ne_int, o_eq_str, o_ne_str, o_eq_bool, o_ne_bool, o_eq_list, o_ne_list, o_eq_tup, o_ne_tup, o_isN_none, o_notN_none, o_isN_int, o_notN_int, o_isN_str, o_notN_str, o_isN_bool, o_notN_bool, o_isN_list, o_notN_list, o_isN_tup, o_notN_tup, o_isN_dict, o_notN_dict, o_ix_list, o_ix_tup, o_ix_str, o_ix_dict, o_in_str, o_nin_str, o_in_list, o_nin_list, o_in_dict, o_nin_dict, o_is_bool, o_not_bool, o_rev_list, o_sumV_dict, o_key_int, o_key_str, o_len_list, o_len_tup, o_len_dict, o_len_str, o_abs_int, o_max2_int, o_min2_int, o_int_int, o_int_bool, o_sum_list, o_all_list, o_any_list, o_min1_list, o_max1_list, o_sorted_list, o_repr_one, o_list_list, o_list_tup, o_list_str, o_list_dict, o_tup_list, o_tup_tup, o_vals_dict, o_dictP_list, o_join_list, o_app_one, o_ext_one, o_pop_none, o_popAt_one, o_clear_none, o_addI_int, o_addI_str, o_cut_list, o_cut_tup, o_cut_str, o_sortedA_list, o_sortedA_dict, o_index_list, o_eqK_dict, o_neK_dict, o_inK_dict, o_mulR_list, o_atI_00, o_atI_01, o_atI_02, turn_nx, turn_ct, turn_bk, turn_rt, fits_f0, true_and, and_true, true_implies, false_implies, Bool.true_eq_false, Bool.false_eq_true, Bool.not_true, Bool.not_false, Bool.not_not, decide_eq_true_eq, decide_eq_false_iff_not, Bool.not_eq_true, Bool.not_eq_false, Bool.not_eq_eq_eq_not, List.getElem?_cons_zero, List.getElem?_cons_succ, List.set_cons_zero, List.set_cons_succ, List.map_cons, List.map_nil, fzS_s, fzS_n, calmS_z, okS_z, List.length_cons, List.length_nil, List.cons_append, List.nil_append, List.append_nil, List.replicate_zero, List.replicate_succ, Option.isSome_some, Nat.zero_add, Nat.reduceAdd, Nat.reduceLT, Nat.reduceLeDiff, List.getElem?_nil, arEnv_io, arEnv_ex, arEnv_nil, aO_io, aO_ex, aO_nil, arIos_io, arIos_ex, arIos_nil, arLive_nil, arLive_cons, calmS_f, calmS_n, calmE_nil, calmE_cons, cast_0, cast_1, cast_2, cast_3, cast_4, cast_5, cast_6, cast_7, cast_8, cast_9, cast_10, cast_11, cast_12, Int.reduceEq, Bool.or_false, Bool.or_true, Bool.true_or, Bool.false_or, Bool.and_true, Bool.true_and, Bool.and_false, Bool.false_and, List.take_succ_cons, List.take_zero, Nat.succ_eq_add_one, ixN_zero, scal_none, scal_int, scal_str, scal_bool, still_none, still_int, still_str, still_bool, true_or, or_true, mulOk_l, mulOk_r, divOk_l, powOk_l, Nat.reducePow, Int.reducePow, Int.reduceToNat, Int.reduceAdd, Int.reduceLT, Int.reduceLE, Int.reduceNeg, Int.reduceMul, Int.reduceSub, ge_iff_le, gt_iff_lt, Nat.reduceEqDiff, ixN_10, ixN_20, ixN_21, ixN_30, ixN_31, ixN_32, ixN_40, ixN_41, ixN_42, ixN_43, ixN_50, ixN_51, ixN_52, ixN_53, ixN_54, imp_self, eq_self, not_true_eq_false, not_false_eq_true, forall_const, reduceCtorEq, wipeE, backE, List.getD_cons_zero, List.getD_cons_succ, fgOf])

/-! ### is_prefix -/
theorem encN_inj : ∀ {a b : List Rn}, PyData.eqvAll (encN a) (encN b) = decide (a = b)
  | [], [] => rfl
  | [], _ :: _ => rfl
  | _ :: _, [] => rfl
  | r :: a, s :: b => by
    have e1 : PyData.eqvAll (encN (r :: a)) (encN (s :: b)) = (((r.1 == s.1) && ((r.2.1 == s.2.1) && ((r.2.2 == s.2.2) && true))) && PyData.eqvAll (encN a) (encN b)) := rfl
    rw [e1, encN_inj]
    by_cases h : r = s
    · subst h
      by_cases h2 : a = b
      · subst h2; simp
      · rw [decide_eq_false h2, decide_eq_false (by simp [h2])]; simp
    · rw [decide_eq_false (show ¬ (r :: a = s :: b) by simp [h])]
      have : ¬ (r.1 = s.1 ∧ r.2.1 = s.2.1 ∧ r.2.2 = s.2.2) := fun q => h (rn_eq q.1 q.2.1 q.2.2)
      by_cases h1 : r.1 = s.1
      · by_cases h2 : r.2.1 = s.2.1
        · have h3 : r.2.2 ≠ s.2.2 := fun q => this ⟨h1, h2, q⟩
          simp [h3]
        · simp [h2]
      · simp [h1]
theorem eqv_encN (a b : List Rn) : PyData.eqv (.list (encN a)) (.list (encN b)) = decide (a = b) := encN_inj
theorem cut_to {l : List D} {k : Nat} (h : k ≤ l.length) : Ev.cutD l none (some (k : Int)) = l.take k := by
  have h1 : HT.sIx l.length 0 none = 0 := rfl
  have h2 : HT.sIx l.length l.length (some (k : Int)) = k := by
    rw [HT.sIx_nat]; omega
  unfold Ev.cutD
  rw [h1, h2]
  simp
theorem encN_take (rs : List Rn) (k : Nat) : (encN rs).take k = encN (rs.take k) := by unfold encN; rw [List.map_take]
theorem preI_alg : ∀ {c o : List Rn} {r s : Rn} {V : List Rn}, c = V ++ [r] → o[V.length]? = some s → (preI c o = true ↔ V = o.take V.length ∧ r.1 = s.1 ∧ r.2.1 = s.2.1 ∧ r.2.2 ≤ s.2.2)
  | _, [], r, s, V, rfl, h => by simp at h
  | _, x :: o, r, s, [], rfl, h => by
    cases h
    simp only [List.nil_append, preI, Bool.and_eq_true, decide_eq_true_eq, List.length_nil, List.take_zero, true_and, and_assoc]
  | _, x :: o, r, s, y :: V, rfl, h => by
    have ih := preI_alg (c := V ++ [r]) (o := o) (V := V) rfl (by simpa using h)
    cases hV : V ++ [r] with
    | nil => simp at hV
    | cons z t =>
      rw [hV] at ih
      rw [List.cons_append, hV, List.length_cons, List.take_succ_cons]
      have e1 : preI (y :: z :: t) (x :: o) = (decide (y = x) && preI (z :: t) o) := rfl
      rw [e1, Bool.and_eq_true, decide_eq_true_eq, ih, List.cons.injEq, and_assoc]
theorem preI_long {c o : List Rn} : o.length < c.length → preI c o = false := by
  induction c generalizing o with
  | nil => intro h; simp at h
  | cons r c ih =>
    intro h
    cases o with
    | nil => cases c <;> rfl
    | cons s o =>
      cases c with
      | nil => simp at h
      | cons r2 t =>
        have e1 : preI (r :: r2 :: t) (s :: o) = (decide (r = s) && preI (r2 :: t) o) := rfl
        rw [e1, ih (by simpa using h), Bool.and_false]
theorem is_prefix_ok {c o : List Rn} {x y : D} (tc : IsT x c) (to : IsT y o) (hc : WF c) (ho : WF o) : wx m_is_prefix [some (x, .f), some (y, .f)] fun d o' e => d = .bool (preI c o) ∧ o' = .f ∧ e = [none, none] := by
  have hs := sizeLine_eq
  have hlc := (lay_runs hc.ok).eqOk
  unfold m_is_prefix b_is_prefix
  try get_elem_tactic_extensible
  refine wx_mono (require_wf tc hc) ?_
  rintro _ o1 e ⟨rfl, rfl⟩
  try get_elem_tactic_extensible
  refine wx_mono (require_wf to ho) ?_
  rintro _ o1 e ⟨rfl, rfl⟩
  try get_elem_tactic_extensible
  rw [eqv_nil, encN_len, encN_len]
  refine ⟨by omega, ⟨hlc, rfl⟩, fun h1 => ⟨fun h2 => ?_, fun h2 => ?_⟩, fun h1 => ?_⟩
  · refine ⟨by omega, ⟨hlc, rfl⟩, ?_, rfl⟩
    rw [h1, preI_long (by omega)]
  · cases hg : c.getLast? with
    | none =>
      have := List.getLast?_eq_none_iff.mp hg
      subst this
      cases h1
    | some r =>
      obtain ⟨V, rfl⟩ := List.getLast?_eq_some_iff.mp hg
      rw [List.length_append, List.length_singleton] at h2 ⊢
      have hvl : V.length < o.length := by omega
      have e1 : encN (V ++ [r]) = encN V ++ [.tuple [.str r.1, .int r.2.1, .int r.2.2]] := encN_append ..
      have e2 : atI (encN (V ++ [r])) (-1) = some (.tuple [.str r.1, .int r.2.1, .int r.2.2]) := by rw [e1]; exact atI_last _ _
      have e3 : atI (encN o) (((V.length + 1 : Nat) : Int) - 1) = some (.tuple [.str o[V.length].1, .int o[V.length].2.1, .int o[V.length].2.2]) := by
        rw [show ((V.length + 1 : Nat) : Int) - 1 = (V.length : Nat) by omega]
        refine atI_nat ?_
        unfold encN
        rw [List.getElem?_map, List.getElem?_eq_getElem hvl]; rfl
      have e4 : Ev.cutD (encN o) none (some (((V.length + 1 : Nat) : Int) - 1)) = encN (o.take V.length) := by
        rw [show ((V.length + 1 : Nat) : Int) - 1 = (V.length : Nat) by omega, cut_to (by rw [encN_len]; omega), encN_take]
      have alg := preI_alg (c := V ++ [r]) (o := o) (r := r) (V := V) rfl (List.getElem?_eq_getElem hvl)
      rw [e2, e3]
      try get_elem_tactic_extensible
      rw [e1, cut_init, e4]
      have c2 : ∀ x y z : D, Ev.cutD [x, y, z] none (some 2) = [x, y] := fun x y z => cut_to (l := [x, y, z]) (k := 2) (by show 2 ≤ 3; decide)
      rw [c2, c2, eqv_encN]
      have hom : RunOk o[V.length] := ho.ok _ (List.getElem_mem hvl)
      have hrm : RunOk r := hc.ok r (List.mem_append_right _ (List.mem_singleton.mpr rfl))
      have l1 : eqOk (.list (encN V)) = true := (lay_runs fun x hx => hc.ok x (List.mem_append_left _ hx)).eqOk
      have l2 : eqOk (.list (encN (o.take V.length))) = true := (lay_runs fun x hx => ho.ok x (List.mem_of_mem_take hx)).eqOk
      have l3 : ∀ x : Rn, RunOk x → eqOk (.tuple [.str x.1, .int x.2.1]) = true := fun x hx => (lay_line (k := 0) (p := (x.1, x.2.1)) hx.1.2.2).eqOk
      have l4 : ∀ x y : Rn, PyData.eqv (.tuple [.str x.1, .int x.2.1]) (.tuple [.str y.1, .int y.2.1]) = ((x.1 == y.1) && ((x.2.1 == y.2.1) && true)) := fun _ _ => rfl
      rw [l4]
      generalize o[V.length] = s at *
      refine ⟨⟨l1, l2⟩, fun q => ⟨?_, rfl⟩, fun q => ⟨⟨l3 r hrm, l3 s hom⟩, fun z => ⟨?_, rfl⟩, fun z => ⟨?_, rfl⟩⟩⟩
      · rw [decide_eq_false_iff_not] at q
        rw [Bool.eq_false_iff.mpr (fun w => q (alg.mp w).1)]
      · rw [decide_eq_true_eq] at q
        simp only [Bool.and_true, Bool.and_eq_true, beq_iff_eq] at z
        by_cases w : r.2.2 ≤ s.2.2
        · rw [decide_eq_true w, alg.mpr ⟨q, z.1, z.2, w⟩]
        · rw [decide_eq_false w, Bool.eq_false_iff.mpr (fun y => w (alg.mp y).2.2.2)]
      · have : preI (V ++ [r]) o = false := Bool.eq_false_iff.mpr fun y => by
          obtain ⟨_, y1, y2, _⟩ := alg.mp y
          rw [y1, y2] at z
          simp at z
        rw [this]
  · refine ⟨by omega, ⟨hlc, rfl⟩, ?_, rfl⟩
    have : c = [] := by
      cases c with
      | nil => rfl
      | cons a b => cases h1
    subst this
    cases o <;> rfl
end K02
namespace K02
open PySem PySem.Spec PyProof.Rows L2 Ev
local macro_rules | `(tactic| get_elem_tactic_extensible) => `(tactic| simp only [isiT_int, isiB_int_none, isiB_int_int, isiB_int_str, isiB_int_bool, isiB_int_list, isiB_int_tuple, isiB_int_dict, isiT_bool, isiB_bool_none, isiB_bool_int, isiB_bool_str, isiB_bool_bool, isiB_bool_list, isiB_bool_tuple, isiB_bool_dict, isiT_str, isiB_str_none, isiB_str_int, isiB_str_str, isiB_str_bool, isiB_str_list, isiB_str_tuple, isiB_str_dict, isiT_list, isiB_list_none, isiB_list_int, isiB_list_str, isiB_list_bool, isiB_list_list, isiB_list_tuple, isiB_list_dict, isiT_tuple, isiB_tuple_none, isiB_tuple_int, isiB_tuple_str, isiB_tuple_bool, isiB_tuple_list, isiB_tuple_tuple, isiB_tuple_dict, isiT_dict, isiB_dict_none, isiB_dict_int, isiB_dict_str, isiB_dict_bool, isiB_dict_list, isiB_dict_tuple, isiB_dict_dict, isKind_str, isKind_int, isKind_list, ↓wg_some, ↓wx_cst, ↓wx_use, ↓wx_mov, ↓wx_fz, ↓wx_brw, ↓wx_op, ↓wx_un, ↓wx_call, ↓wa_nil, ↓wa_cons, ↓wa_oCons, ↓wx_lst, ↓wx_tup, ↓wx_and, ↓wx_or, ↓wx_not, ↓wx_if, ↓wx_chain, ↓wx_isi, ↓wx_isi2, ↓wx_met, ↓wx_mut, ↓wt_val, ↓wt_no, ↓wt_and, ↓wt_or, ↓wt_brw, ↓wt_yes, ↓ws_nx, ↓ws_bk, ↓ws_ct, ↓ws_nev, ↓ws_retN, ↓ws_ret, ↓ws_exp, ↓ws_seq, ↓ws_if, ↓ws_set, ↓ws_putD, ↓ws_setI, ↓ws_putA, ↓wx_dnew, ↓wkv_nil, ↓wkv_cons, ↓wx_disp, ↓ws_for, ↓ws_forD, ↓wx_lc, ↓wx_lcD, ↓wi_any, ↓wi_slot, ↓wi_rg1, ↓wi_rg2, ↓wg_nm, ↓wg_tp2, ↓wx_mB, ↓war_nil, ↓war_io, ↓war_ex, ↓wx_app, ↓wp_no, ↓wp_sm, ↓wx_sl, ↓ws_aug, ↓ws_par2, ↓ws_unp, ↓wx_slA, ↓wx_mutN, ↓ws_setN, ↓wx_mD, ↓wi_zipE, ↓wx_ixO, ↓wx_ixL, ↓wx_ixD, ↓wx_cpO, ↓wi_enum, ↓wg_tp3, ↓wg_tp4, ↓wg_tp5, ↓wx_get2, ↓wx_get1, ↓wx_getL, ↓wx_getO, ↓wx_lrg2, ↓wx_lrg1, ↓ws_par3, ↓wx_dc, ↓wx_dcD, ↓wx_bor, ↓wx_lrgA, ↓wx_slR, ↓wx_mutT, ↓wi_itD, ↓wx_tupO, ↓wx_borD, ↓ws_borD, ↓wx_appO, wo_some, wbl_bool, wnx_nx, wnx_rt, wnx_bk, wnx_ct, wU_f, wU_o, wM_f, wM_o, wq_some, wm_some, wL_o, wP_d, wP_l, wD_o, wint_int, wdc_dict, wit_list, wit_tup, wit_str, witD_list, witD_tup, witD_str, witD_dict, w1_one, w2_two, wB_rt, wB_nx, wlst_list, wF_f, wS_1, wS_2, wz_list, wz_tup, wI_l, wI_d, wI_f, w0_l, w0d_d, wC_l, wC_f, wC_d, wG_d, wG_f, wBr_o, wBr_f, wokS_n, wokS_f, wokS_o, wokT_n, wokT_c, wokE_0, wokE_s, wokE_1, wcl_f, wcl_o, wls_l, wls_d, wT_o, wNo_n, ox_int, ox_str, ox_list, ox_tup, ox_strI, wOw_o, wokSD_n, wokSD_f, wokSD_o, wokTD_n, wokTD_c, wokED_0, wokED_s, wclD_o, wdc_d, o_dictA_dict, o_dictA_list, o_add_int, o_add_str, o_add_list, o_sub_int, o_mul_int, o_div_int, o_pow_int, o_mod_int, o_neg_int, o_lt_int, o_le_int, o_gt_int, o_ge_int, o_eq_int, o_ne_int, o_eq_str, o_ne_str, o_eq_bool, o_ne_bool, o_eq_list, o_ne_list, o_eq_tup, o_ne_tup, o_isN_none, o_notN_none, o_isN_int, o_notN_int, o_isN_str, o_notN_str, o_isN_bool, o_notN_bool, o_isN_list, o_notN_list, o_isN_tup, o_notN_tup, o_isN_dict, o_notN_dict, o_ix_list, o_ix_tup, o_ix_str, o_ix_dict, o_in_str, o_nin_str, o_in_list, o_nin_list, o_in_dict, o_nin_dict, o_is_bool, o_not_bool, o_rev_list, o_sumV_dict, o_key_int, o_key_str, o_len_list, o_len_tup, o_len_dict, o_len_str, o_abs_int, o_max2_int, o_min2_int, o_int_int, o_int_bool, o_sum_list, o_all_list, o_any_list, o_min1_list, o_max1_list, o_sorted_list, o_repr_one, o_list_list, o_list_tup, o_list_str, o_list_dict, o_tup_list, o_tup_tup, o_vals_dict, o_dictP_list, o_join_list, o_app_one, o_ext_one, o_pop_none, o_popAt_one, o_clear_none, o_addI_int, o_addI_str, o_cut_list, o_cut_tup, o_cut_str, o_sortedA_list, o_sortedA_dict, o_index_list, o_eqK_dict, o_neK_dict, o_inK_dict, o_mulR_list, o_atI_00, o_atI_01, o_atI_02, turn_nx, turn_ct, turn_bk, turn_rt, fits_f0, true_and, and_true, true_implies, false_implies, Bool.true_eq_false, Bool.false_eq_true, Bool.not_true, Bool.not_false, Bool.not_not, decide_eq_true_eq, decide_eq_false_iff_not, Bool.not_eq_true, Bool.not_eq_false, Bool.not_eq_eq_eq_not, List.getElem?_cons_zero, List.getElem?_cons_succ, List.set_cons_zero, List.set_cons_succ, List.map_cons, List.map_nil, fzS_s, fzS_n, calmS_z, okS_z, List.length_cons, List.length_nil, List.cons_append, List.nil_append, List.append_nil, List.replicate_zero, List.replicate_succ, Option.isSome_some, Nat.zero_add, Nat.reduceAdd, Nat.reduceLT, Nat.reduceLeDiff, List.getElem?_nil, arEnv_io, arEnv_ex, arEnv_nil, aO_io, aO_ex, aO_nil, arIos_io, arIos_ex, arIos_nil, arLive_nil, arLive_cons, calmS_f, calmS_n, calmE_nil, calmE_cons, cast_0, cast_1, cast_2, cast_3, cast_4, cast_5, cast_6, cast_7, cast_8, cast_9, cast_10, cast_11, cast_12, Int.reduceEq, Bool.or_false, Bool.or_true, Bool.true_or, Bool.false_or, Bool.and_true, Bool.true_and, Bool.and_false, Bool.false_and, List.take_succ_cons, List.take_zero, Nat.succ_eq_add_one, ixN_zero, scal_none, scal_int, scal_str, scal_bool, still_none, still_int, still_str, still_bool, true_or, or_true, mulOk_l, mulOk_r, divOk_l, powOk_l, Nat.reducePow, Int.reducePow, Int.reduceToNat, Int.reduceAdd, Int.reduceLT, Int.reduceLE, Int.reduceNeg, Int.reduceMul, Int.reduceSub, ge_iff_le, gt_iff_lt, Nat.reduceEqDiff, ixN_10, ixN_20, ixN_21, ixN_30, ixN_31, ixN_32, ixN_40, ixN_41, ixN_42, ixN_43, ixN_50, ixN_51, ixN_52, ixN_53, ixN_54, imp_self, eq_self, not_true_eq_false, not_false_eq_true, forall_const, reduceCtorEq, wipeE, backE, List.getD_cons_zero, List.getD_cons_succ, fgOf])

/-! ### split_at -/
def spl : List Rn → Int → List Rn × List Rn
  | [], _ => ([], [])
  | r :: rs, k =>
    let t := if len1 r < k then len1 r else k
    let q := spl rs (k - t)
    ((if 0 < t then [(r.1, r.2.1, r.2.1 + t - 1)] else []) ++ q.1, (if t < len1 r then [(r.1, r.2.1 + t, r.2.2)] else []) ++ q.2)
theorem sp_loop : ∀ {rs F B : List Rn} {k : Int} {c i rr x6 x7 x8 x9 x10 : Sl} {Z : Fl → En → Prop}, F.length + rs.length ≤ 2000 → B.length + rs.length ≤ 2000 →
    (∀ k' x6 x7 x8 x9 x10, Z .nx [c, i, rr, some (.list (encN (F ++ (spl rs k).1)), .o 0), some (.list (encN (B ++ (spl rs k).2)), .o 0), some (.int k', .f), x6, x7, x8, x9, x10]) →
    wl (gTp 3 (gsCons (gNm 6) (gsCons (gNm 7) (gsCons (gNm 8) gsNil)))) l1_split_at (encN rs) [c, i, rr, some (.list (encN F), .o 0), some (.list (encN B), .o 0), some (.int k, .f), x6, x7, x8, x9, x10] Z
  | [], F, B, k, c, i, rr, x6, x7, x8, x9, x10, Z, _, _, fin => by
    have := fin k x6 x7 x8 x9 x10
    simp only [spl, List.append_nil] at this
    exact this
  | r :: rs, F, B, k, c, i, rr, x6, x7, x8, x9, x10, Z, h1, h2, fin => by
    have hs := sizeLine_eq
    rw [List.length_cons] at h1 h2
    rw [encN_cons, wl_cons]
    unfold l1_split_at
    try get_elem_tactic_extensible
    have e1 : r.2.2 - r.2.1 + 1 = len1 r := rfl
    rw [e1, encN_len, encN_len]
    have hsp : spl (r :: rs) k = ((if 0 < (if len1 r < k then len1 r else k) then [(r.1, r.2.1, r.2.1 + (if len1 r < k then len1 r else k) - 1)] else []) ++ (spl rs (k - (if len1 r < k then len1 r else k))).1,
      (if (if len1 r < k then len1 r else k) < len1 r then [(r.1, r.2.1 + (if len1 r < k then len1 r else k), r.2.2)] else []) ++ (spl rs (k - (if len1 r < k then len1 r else k))).2) := rfl
    rw [hsp] at fin
    generalize (if len1 r < k then len1 r else k) = t at fin ⊢
    have e2 : ∀ (l : List Rn) (a : Str) (b d : Int), encN l ++ [PyData.tuple [.str a, .int b, .int d]] = encN (l ++ [(a, b, d)]) := fun l a b d => by rw [encN_append]; rfl
    rw [e2, e2]
    refine ⟨fun p => ⟨by omega, by omega, fun q => ⟨by omega, by omega, ?_⟩, fun q => ?_⟩, fun p => ⟨fun q => ⟨by omega, by omega, ?_⟩, fun q => ?_⟩⟩
    · rw [if_pos p, if_pos q] at fin
      refine sp_loop (by rw [List.length_append, List.length_singleton]; omega) (by rw [List.length_append, List.length_singleton]; omega) fun k' x6 x7 x8 x9 x10 => ?_
      rw [List.append_assoc, List.append_assoc]
      exact fin ..
    · rw [if_pos p, if_neg q, List.nil_append] at fin
      refine sp_loop (by rw [List.length_append, List.length_singleton]; omega) (by omega) fun k' x6 x7 x8 x9 x10 => ?_
      rw [List.append_assoc]
      exact fin ..
    · rw [if_neg p, if_pos q, List.nil_append] at fin
      refine sp_loop (by omega) (by rw [List.length_append, List.length_singleton]; omega) fun k' x6 x7 x8 x9 x10 => ?_
      rw [List.append_assoc]
      exact fin ..
    · rw [if_neg p, if_neg q, List.nil_append, List.nil_append] at fin
      exact sp_loop (by omega) (by omega) fun k' x6 x7 x8 x9 x10 => fin ..
theorem split_ok {rs : List Rn} {k : Nat} {x : D} (hT : IsT x rs) (h : WF rs) (hk : k ≤ (exs rs).length) : wx m_split_at [some (x, .f), some (.int (k : Nat), .f)] fun d o e => d = .tuple [.list (encN (spl rs k).1), .list (encN (spl rs k).2)] ∧ o = .o 1 ∧ e = [none, none] := by
  have ht := tot_eq fun r hr => (h.ok r hr).2.2.1
  have hl := h.len
  unfold m_split_at b_split_at
  try get_elem_tactic_extensible
  refine wx_mono (require_wf hT h) ?_
  rintro _ o e ⟨rfl, rfl⟩
  try get_elem_tactic_extensible
  refine wx_mono (total_ok h.len) ?_
  rintro _ o e ⟨rfl, rfl, rfl⟩
  try get_elem_tactic_extensible
  refine wx_mono (integer_ok (by omega) (by omega)) ?_
  rintro _ o e ⟨rfl, rfl⟩
  try get_elem_tactic_extensible
  refine ⟨Nat.zero_le _, Nat.zero_le _, ?_⟩
  refine sp_loop (rs := rs) (F := []) (B := []) (by simp; omega) (by simp; omega) fun k' x6 x7 x8 x9 x10 => ?_
  try get_elem_tactic_extensible
  exact ⟨rfl, rfl, by decide, rfl⟩
theorem spl_zero : ∀ {rs : List Rn} {k : Int}, k ≤ 0 → (∀ r ∈ rs, r.2.1 ≤ r.2.2) → k = 0 → spl rs k = ([], rs)
  | [], _, _, _, _ => rfl
  | r :: rs, k, _, h, hk => by
    subst hk
    have r0 := h r List.mem_cons_self
    have ih := spl_zero (rs := rs) (k := 0) (Int.le_refl _) (fun x hx => h x (List.mem_cons_of_mem _ hx)) rfl
    unfold spl
    have e1 : (if len1 r < 0 then len1 r else (0 : Int)) = 0 := by unfold len1; rw [if_neg (by omega)]
    dsimp only
    rw [e1, Int.sub_zero, ih, if_neg (by omega), if_pos (by unfold len1; omega)]
    dsimp only
    rw [Int.add_zero]
    rfl
theorem spl_exs : ∀ {rs : List Rn} {k : Nat}, (∀ r ∈ rs, r.2.1 ≤ r.2.2) → exs (spl rs k).1 = (exs rs).take k ∧ exs (spl rs k).2 = (exs rs).drop k
  | [], k, _ => by simp [spl, exs]
  | r :: rs, k, h => by
    have r0 := h r List.mem_cons_self
    have h' : ∀ x ∈ rs, x.2.1 ≤ x.2.2 := fun x hx => h x (List.mem_cons_of_mem _ hx)
    have hel := exr_len r
    have hl : len1 r = ((exr r).length : Int) := by rw [hel]; unfold len1; omega
    unfold spl
    dsimp only
    by_cases c1 : len1 r < k
    · rw [if_pos c1, if_pos (by unfold len1; omega), if_neg (by omega)]
      have e1 : (k : Int) - len1 r = ((k - (exr r).length : Nat) : Int) := by omega
      have e2 : (r.1, r.2.1, r.2.1 + len1 r - 1) = r := rn_eq rfl rfl (by unfold len1; show r.2.1 + (r.2.2 - r.2.1 + 1) - 1 = r.2.2; omega)
      obtain ⟨i1, i2⟩ := spl_exs (rs := rs) (k := k - (exr r).length) h'
      rw [e1, e2, List.nil_append, List.singleton_append, exs_cons, exs_cons, i1, i2, List.take_append, List.drop_append]
      rw [List.take_of_length_le (show (exr r).length ≤ k by omega), List.drop_of_length_le (show (exr r).length ≤ k by omega), List.nil_append]
      exact ⟨rfl, rfl⟩
    · rw [if_neg c1]
      have e0 : (k : Int) - k = 0 := by omega
      rw [e0, spl_zero (Int.le_refl _) h' rfl]
      dsimp only
      rw [List.append_nil, exs_append, exs_cons, List.take_append, List.drop_append]
      have hk : k ≤ (exr r).length := by omega
      rw [show k - (exr r).length = 0 by omega, List.take_zero, List.drop_zero, List.append_nil]
      have sp : 0 < k → exr r = exr (r.1, r.2.1, r.2.1 + k - 1) ++ exr (r.1, r.2.1 + k, r.2.2) := fun hk0 => by
        have := exr_split (w := r.1) (a := r.2.1) (m := r.2.1 + k - 1) (b := r.2.2) (by omega) (by unfold len1 at hl; omega)
        rw [show r.2.1 + (k : Int) - 1 + 1 = r.2.1 + k by omega] at this
        exact this
      have l1 : (exr (r.1, r.2.1, r.2.1 + (k : Int) - 1)).length = k := by rw [exr_len]; unfold len1; dsimp only; omega
      rcases Nat.eq_zero_or_pos k with z | z
      · subst z
        rw [if_neg (by decide), if_pos (by unfold len1; show (0 : Int) < _; omega)]
        have e3 : (r.1, r.2.1 + ((0 : Nat) : Int), r.2.2) = r := rn_eq rfl (by show r.2.1 + ((0 : Nat) : Int) = r.2.1; omega) rfl
        rw [e3]
        simp [exs]
      · rw [if_pos (by omega)]
        have s1 := sp z
        constructor
        · rw [s1, List.take_append_of_le_length (by omega), List.take_of_length_le (by omega)]
          simp [exs]
        · rw [s1, List.drop_append_of_le_length (by omega), List.drop_of_length_le (by omega), List.nil_append]
          by_cases c2 : (k : Int) < len1 r
          · rw [if_pos c2]; simp [exs]
          · rw [if_neg c2]
            have : exr (r.1, r.2.1 + (k : Int), r.2.2) = [] := by
              refine List.length_eq_zero_iff.mp ?_
              rw [exr_len]; unfold len1 at c2 ⊢; dsimp only; omega
            rw [this]; simp [exs]
theorem spl_head {s x : Rn} {o t : List Rn} {k : Int} (h : ∀ r ∈ s :: o, r.2.1 ≤ r.2.2) (hk : 0 ≤ k) (e : (spl (s :: o) k).1 = x :: t) : x.1 = s.1 ∧ x.2.1 = s.2.1 := by
  have s0 := h s List.mem_cons_self
  unfold spl at e
  dsimp only at e
  by_cases c : 0 < (if len1 s < k then len1 s else k)
  · rw [if_pos c, List.singleton_append, List.cons.injEq] at e
    rw [← e.1]; exact ⟨rfl, rfl⟩
  · have hl : 0 < len1 s := by unfold len1; omega
    have k0 : k = 0 := by revert c; split <;> omega
    subst k0
    rw [if_neg c, if_neg (show ¬ len1 s < 0 by omega), Int.sub_zero, spl_zero (Int.le_refl _) (fun r hr => h r (List.mem_cons_of_mem _ hr)) rfl] at e
    cases e
theorem ext_same {a b c : Rn} (h1 : b.1 = c.1) (h2 : b.2.1 = c.2.1) : ext a b = ext a c := by unfold ext; rw [h1, h2]
theorem ext_same2 {a b c : Rn} (h1 : a.1 = b.1) (h2 : a.2.2 = b.2.2) : ext a c = ext b c := by unfold ext; rw [h1, h2]
theorem spl_wf : ∀ {rs : List Rn} {k : Int}, 0 ≤ k → (∀ r ∈ rs, RunOk r) → noExt rs →
    ((∀ r ∈ (spl rs k).1, RunOk r) ∧ noExt (spl rs k).1 ∧ (spl rs k).1.length ≤ rs.length) ∧ ((∀ r ∈ (spl rs k).2, RunOk r) ∧ noExt (spl rs k).2 ∧ (spl rs k).2.length ≤ rs.length)
  | [], k, _, _, _ => ⟨⟨fun r h => (by cases h), trivial, Nat.le_refl _⟩, ⟨fun r h => (by cases h), trivial, Nat.le_refl _⟩⟩
  | r :: rs, k, hk, h, hn => by
    have hr := h r List.mem_cons_self
    have r0 := hr.2.2.1
    have h' : ∀ x ∈ rs, RunOk x := fun x hx => h x (List.mem_cons_of_mem _ hx)
    have hp : ∀ x ∈ rs, x.2.1 ≤ x.2.2 := fun x hx => (h' x hx).2.2.1
    unfold spl
    dsimp only
    by_cases c1 : len1 r < k
    · rw [if_pos c1, if_pos (by unfold len1; omega), if_neg (by omega)]
      have e2 : (r.1, r.2.1, r.2.1 + len1 r - 1) = r := rn_eq rfl rfl (by unfold len1; show r.2.1 + (r.2.2 - r.2.1 + 1) - 1 = r.2.2; omega)
      obtain ⟨⟨i1, i2, i3⟩, j1, j2, j3⟩ := spl_wf (rs := rs) (k := k - len1 r) (by omega) h' (noExt_tail hn)
      rw [e2, List.nil_append, List.singleton_append, List.length_cons, List.length_cons]
      refine ⟨⟨fun x hx => ?_, ?_, by omega⟩, j1, j2, by omega⟩
      · rcases List.mem_cons.mp hx with rfl | hx
        · exact hr
        · exact i1 x hx
      · cases hf : (spl rs (k - len1 r)).1 with
        | nil => trivial
        | cons x t =>
          rw [hf] at i2
          cases rs with
          | nil => simp [spl] at hf
          | cons s o =>
            obtain ⟨w1, w2⟩ := spl_head (fun y hy => hp y hy) (by omega) hf
            refine ⟨?_, i2⟩
            rw [ext_same w1 w2]
            exact hn.1
    · rw [if_neg c1]
      have e0 : k - k = 0 := by omega
      rw [e0, spl_zero (Int.le_refl _) hp rfl]
      dsimp only
      rw [List.append_nil]
      have hr2 := hr.2.2.2
      have hr1 := hr.2.1
      refine ⟨⟨fun x hx => ?_, ?_, ?_⟩, fun x hx => ?_, ?_, ?_⟩
      · split at hx
        · rw [List.mem_singleton.mp hx]
          unfold len1 at c1
          exact ⟨hr.1, hr1, by show r.2.1 ≤ r.2.1 + k - 1; omega, by show r.2.1 + k - 1 ≤ 10 ^ 30; omega⟩
        · cases hx
      · split <;> trivial
      · split <;> simp
      · rcases List.mem_append.mp hx with hx | hx
        · split at hx
          · rename_i c2
            rw [List.mem_singleton.mp hx]
            unfold len1 at c2
            exact ⟨hr.1, by show 1 ≤ r.2.1 + k; omega, by show r.2.1 + k ≤ r.2.2; omega, hr2⟩
          · cases hx
        · exact h' x hx
      · split
        · cases rs with
          | nil => trivial
          | cons s o =>
            refine ⟨?_, hn.2⟩
            rw [ext_same2 (a := (r.1, r.2.1 + k, r.2.2)) (b := r) rfl rfl]
            exact hn.1
        · rw [List.nil_append]; exact noExt_tail hn
      · split <;> simp
/-! ### the law's own putting -/
theorem put_ok {rs : List Rn} {r : Rn} (h : ∀ x ∈ rs, RunOk x) (hl : rs.length ≤ 1000) : wx m__law_put [some (.list (encN rs), .f), some (.tuple [.str r.1, .int r.2.1, .int r.2.2], .f)] fun d o e => d = .list (encN (putR rs r)) ∧ o = .o 0 ∧ e = [none, none] := by
  have hs := sizeLine_eq
  have hlay := (lay_runs h).eqOk
  unfold m__law_put b__law_put
  try get_elem_tactic_extensible
  refine ⟨by omega, ⟨hlay, rfl⟩, ?_⟩
  rw [eqv_nil]
  cases hg : rs.getLast? with
  | none =>
    have := List.getLast?_eq_none_iff.mp hg
    subst this
    refine ⟨fun q => (by cases q), fun _ => ⟨by omega, by rw [encN_len]; simp; omega, ?_, rfl⟩⟩
    unfold putR
    rw [hg, encN_append]; rfl
  | some l =>
    obtain ⟨V, rfl⟩ := List.getLast?_eq_some_iff.mp hg
    have e1 : encN (V ++ [l]) = encN V ++ [.tuple [.str l.1, .int l.2.1, .int l.2.2]] := encN_append ..
    have e2 : atI (encN (V ++ [l])) (-1) = some (.tuple [.str l.1, .int l.2.1, .int l.2.2]) := by rw [e1]; exact atI_last _ _
    rw [e2]
    try get_elem_tactic_extensible
    have e3 : ∀ (x : List Rn) (p : Rn), encN x ++ [PyData.tuple [.str p.1, .int p.2.1, .int p.2.2]] = encN (x ++ [p]) := fun x p => by rw [encN_append]; rfl
    have e4 : encN V ++ [PyData.tuple [.str r.1, .int l.2.1, .int r.2.2]] = encN (V ++ [(r.1, l.2.1, r.2.2)]) := by rw [encN_append]; rfl
    have ec : Ev.cutD (encN (V ++ [l])) none (some (-1)) = encN V := by rw [e1, cut_init]
    rw [ec, encN_len, encN_len, e3, e4]
    rw [List.length_append, List.length_singleton] at hl
    have key : putR (V ++ [l]) r = if ext l r = true then V ++ [(r.1, l.2.1, r.2.2)] else V ++ [l] ++ [r] := by
      unfold putR
      rw [hg]
      dsimp only
      rw [List.dropLast_concat]
    rw [key, List.length_append, List.length_singleton]
    refine ⟨fun _ => ⟨fun q1 => ⟨fun q2 => ⟨by omega, by omega, by omega, ?_, rfl⟩, fun q2 => ⟨by omega, by omega, ?_, rfl⟩⟩, fun q1 => ⟨by omega, by omega, ?_, rfl⟩⟩, fun q => by rw [e1] at q; simp at q⟩
    · rw [if_pos (ext_true q1 q2.symm)]
    · rw [if_neg]
      unfold ext
      rw [decide_eq_false (show ¬ r.2.1 = l.2.2 + 1 from fun z => q2 z.symm), Bool.and_false]
      exact Bool.false_ne_true
    · rw [if_neg]
      unfold ext
      rw [decide_eq_false q1, Bool.false_and]
      exact Bool.false_ne_true
end K02
namespace K02
open PySem PySem.Spec PyProof.Rows L2 Ev
local macro_rules | `(tactic| get_elem_tactic_extensible) => `(tactic| simp only [isiT_int, isiB_int_none, isiB_int_int, isiB_int_str, isiB_int_bool, isiB_int_list, isiB_int_tuple, isiB_int_dict, isiT_bool, isiB_bool_none, isiB_bool_int, isiB_bool_str, isiB_bool_bool, isiB_bool_list, isiB_bool_tuple, isiB_bool_dict, isiT_str, isiB_str_none, isiB_str_int, isiB_str_str, isiB_str_bool, isiB_str_list, isiB_str_tuple, isiB_str_dict, isiT_list, isiB_list_none, isiB_list_int, isiB_list_str, isiB_list_bool, isiB_list_list, isiB_list_tuple, isiB_list_dict, isiT_tuple, isiB_tuple_none, isiB_tuple_int, isiB_tuple_str, isiB_tuple_bool, isiB_tuple_list, isiB_tuple_tuple, isiB_tuple_dict, isiT_dict, isiB_dict_none, isiB_dict_int, isiB_dict_str, isiB_dict_bool, isiB_dict_list, isiB_dict_tuple, isiB_dict_dict, isKind_str, isKind_int, isKind_list, ↓wg_some, ↓wx_cst, ↓wx_use, ↓wx_mov, ↓wx_fz, ↓wx_brw, ↓wx_op, ↓wx_un, ↓wx_call, ↓wa_nil, ↓wa_cons, ↓wa_oCons, ↓wx_lst, ↓wx_tup, ↓wx_and, ↓wx_or, ↓wx_not, ↓wx_if, ↓wx_chain, ↓wx_isi, ↓wx_isi2, ↓wx_met, ↓wx_mut, ↓wt_val, ↓wt_no, ↓wt_and, ↓wt_or, ↓wt_brw, ↓wt_yes, ↓ws_nx, ↓ws_bk, ↓ws_ct, ↓ws_nev, ↓ws_retN, ↓ws_ret, ↓ws_exp, ↓ws_seq, ↓ws_if, ↓ws_set, ↓ws_putD, ↓ws_setI, ↓ws_putA, ↓wx_dnew, ↓wkv_nil, ↓wkv_cons, ↓wx_disp, ↓ws_for, ↓ws_forD, ↓wx_lc, ↓wx_lcD, ↓wi_any, ↓wi_slot, ↓wi_rg1, ↓wi_rg2, ↓wg_nm, ↓wg_tp2, ↓wx_mB, ↓war_nil, ↓war_io, ↓war_ex, ↓wx_app, ↓wp_no, ↓wp_sm, ↓wx_sl, ↓ws_aug, ↓ws_par2, ↓ws_unp, ↓wx_slA, ↓wx_mutN, ↓ws_setN, ↓wx_mD, ↓wi_zipE, ↓wx_ixO, ↓wx_ixL, ↓wx_ixD, ↓wx_cpO, ↓wi_enum, ↓wg_tp3, ↓wg_tp4, ↓wg_tp5, ↓wx_get2, ↓wx_get1, ↓wx_getL, ↓wx_getO, ↓wx_lrg2, ↓wx_lrg1, ↓ws_par3, ↓wx_dc, ↓wx_dcD, ↓wx_bor, ↓wx_lrgA, ↓wx_slR, ↓wx_mutT, ↓wi_itD, ↓wx_tupO, ↓wx_borD, ↓ws_borD, ↓wx_appO, wo_some, wbl_bool, wnx_nx, wnx_rt, wnx_bk, wnx_ct, wU_f, wU_o, wM_f, wM_o, wq_some, wm_some, wL_o, wP_d, wP_l, wD_o, wint_int, wdc_dict, wit_list, wit_tup, wit_str, witD_list, witD_tup, witD_str, witD_dict, w1_one, w2_two, wB_rt, wB_nx, wlst_list, wF_f, wS_1, wS_2, wz_list, wz_tup, wI_l, wI_d, wI_f, w0_l, w0d_d, wC_l, wC_f, wC_d, wG_d, wG_f, wBr_o, wBr_f, wokS_n, wokS_f, wokS_o, wokT_n, wokT_c, wokE_0, wokE_s, wokE_1, wcl_f, wcl_o, wls_l, wls_d, wT_o, wNo_n, ox_int, ox_str, ox_list, ox_tup, ox_strI, wOw_o, wokSD_n, wokSD_f, wokSD_o, wokTD_n, wokTD_c, wokED_0, wokED_s, wclD_o, wdc_d, o_dictA_dict, o_dictA_list, o_add_int, o_add_str, o_add_list, o_sub_int, o_mul_int, o_div_int, o_pow_int, o_mod_int, o_neg_int, o_lt_int, o_le_int, o_gt_int, o_ge_int, o_eq_int, o_ne_int, o_eq_str, o_ne_str, o_eq_bool, o_ne_bool, o_eq_list, o_ne_list, o_eq_tup, o_ne_tup, o_isN_none, o_notN_none, o_isN_int, o_notN_int, o_isN_str, o_notN_str, o_isN_bool, o_notN_bool, o_isN_list, o_notN_list, o_isN_tup, o_notN_tup, o_isN_dict, o_notN_dict, o_ix_list, o_ix_tup, o_ix_str, o_ix_dict, o_in_str, o_nin_str, o_in_list, o_nin_list, o_in_dict, o_nin_dict, o_is_bool, o_not_bool, o_rev_list, o_sumV_dict, o_key_int, o_key_str, o_len_list, o_len_tup, o_len_dict, o_len_str, o_abs_int, o_max2_int, o_min2_int, o_int_int, o_int_bool, o_sum_list, o_all_list, o_any_list, o_min1_list, o_max1_list, o_sorted_list, o_repr_one, o_list_list, o_list_tup, o_list_str, o_list_dict, o_tup_list, o_tup_tup, o_vals_dict, o_dictP_list, o_join_list, o_app_one, o_ext_one, o_pop_none, o_popAt_one, o_clear_none, o_addI_int, o_addI_str, o_cut_list, o_cut_tup, o_cut_str, o_sortedA_list, o_sortedA_dict, o_index_list, o_eqK_dict, o_neK_dict, o_inK_dict, o_mulR_list, o_atI_00, o_atI_01, o_atI_02, turn_nx, turn_ct, turn_bk, turn_rt, fits_f0, true_and, and_true, true_implies, false_implies, Bool.true_eq_false, Bool.false_eq_true, Bool.not_true, Bool.not_false, Bool.not_not, decide_eq_true_eq, decide_eq_false_iff_not, Bool.not_eq_true, Bool.not_eq_false, Bool.not_eq_eq_eq_not, List.getElem?_cons_zero, List.getElem?_cons_succ, List.set_cons_zero, List.set_cons_succ, List.map_cons, List.map_nil, fzS_s, fzS_n, calmS_z, okS_z, List.length_cons, List.length_nil, List.cons_append, List.nil_append, List.append_nil, List.replicate_zero, List.replicate_succ, Option.isSome_some, Nat.zero_add, Nat.reduceAdd, Nat.reduceLT, Nat.reduceLeDiff, List.getElem?_nil, arEnv_io, arEnv_ex, arEnv_nil, aO_io, aO_ex, aO_nil, arIos_io, arIos_ex, arIos_nil, arLive_nil, arLive_cons, calmS_f, calmS_n, calmE_nil, calmE_cons, cast_0, cast_1, cast_2, cast_3, cast_4, cast_5, cast_6, cast_7, cast_8, cast_9, cast_10, cast_11, cast_12, Int.reduceEq, Bool.or_false, Bool.or_true, Bool.true_or, Bool.false_or, Bool.and_true, Bool.true_and, Bool.and_false, Bool.false_and, List.take_succ_cons, List.take_zero, Nat.succ_eq_add_one, ixN_zero, scal_none, scal_int, scal_str, scal_bool, still_none, still_int, still_str, still_bool, true_or, or_true, mulOk_l, mulOk_r, divOk_l, powOk_l, Nat.reducePow, Int.reducePow, Int.reduceToNat, Int.reduceAdd, Int.reduceLT, Int.reduceLE, Int.reduceNeg, Int.reduceMul, Int.reduceSub, ge_iff_le, gt_iff_lt, Nat.reduceEqDiff, ixN_10, ixN_20, ixN_21, ixN_30, ixN_31, ixN_32, ixN_40, ixN_41, ixN_42, ixN_43, ixN_50, ixN_51, ixN_52, ixN_53, ixN_54, imp_self, eq_self, not_true_eq_false, not_false_eq_true, forall_const, reduceCtorEq, wipeE, backE, List.getD_cons_zero, List.getD_cons_succ, fgOf])

/-! ### the law's own sameness -/
def same (n : Nat) (d : D) : Prop := wx (fuel r__law_same (n + 1)) [some (d, .f), some (d, .f)] fun x o e => x = .bool true ∧ o = .f ∧ e = [none, none]
theorem same_int {n : Nat} (i : Int) : same n (.int i) := by
  unfold same fuel r__law_same b__law_same
  try get_elem_tactic_extensible
  simp
  rfl
theorem same_str {n : Nat} (i : Str) : same n (.str i) := by
  unfold same fuel r__law_same b__law_same
  try get_elem_tactic_extensible
  simp
  rfl
theorem same_seq {n : Nat} {l : List D} (h : ∀ d ∈ l, same n d) (hl : l.length ≤ 100000) : same (n + 1) (.list l) ∧ same (n + 1) (.tuple l) := by
  have hs := sizeLine_eq
  have el : ∀ d ∈ zipD l l, ∃ x ∈ l, d = .tuple [x, x] := fun d hd => by
    obtain ⟨k, hk, hd⟩ := List.getElem_of_mem hd
    obtain ⟨d1, d2, q1, q2, rfl⟩ := zipD_get (show (zipD l l)[k]? = some d by rw [List.getElem?_eq_getElem hk, hd])
    rw [q1] at q2
    cases q2
    exact ⟨d1, List.mem_of_getElem? q1, rfl⟩
  have zl : (zipD l l).length = l.length := by unfold zipD; rw [List.length_zipWith]; omega
  constructor
  all_goals
    unfold same
    rw [fuel]
    unfold r__law_same b__law_same
    try get_elem_tactic_extensible
    refine wc_pure (fun _ => true) (fun _ => .bool true) (by rw [zl, List.length_nil]; omega) ?_ ?_
    · intro d hd
      obtain ⟨x, hx, rfl⟩ := el d hd
      unfold e1__law_same
      try get_elem_tactic_extensible
      refine wx_mono (h x hx) ?_
      rintro _ o e ⟨rfl, rfl, rfl⟩
      try get_elem_tactic_extensible
    · rw [List.nil_append, List.filter_eq_self.mpr (fun _ _ => rfl), bools_true]
      try get_elem_tactic_extensible
      simp
      rfl
theorem same_runs (rs : List Rn) (hl : rs.length ≤ 1000) : wx m__law_same [some (.list (encN rs), .f), some (.list (encN rs), .f)] fun x o e => x = .bool true ∧ o = .f ∧ e = [none, none] :=
  (same_seq (n := 10) (fun d hd => by
    obtain ⟨r, hr, rfl⟩ := List.mem_map.mp hd
    refine (same_seq (n := 9) (fun d hd => ?_) (by show 3 ≤ 100000; decide)).2
    rcases List.mem_cons.mp hd with rfl | hd
    · exact same_str _
    · rcases List.mem_cons.mp hd with rfl | hd
      · exact same_int _
      · rw [List.mem_singleton.mp hd]; exact same_int _) (by rw [encN_len]; omega)).1
/-! ### contents of these line counts -/
def InC (cs : Cs) (rs : List Rn) : Prop := ∀ r ∈ rs, ∃ c, cs.lookup r.1 = some c ∧ r.2.2 ≤ c
def capOf (cs : Cs) (z : Str) : Int := (cs.lookup z).getD 0
theorem cap_eq {cs : Cs} {z : Str} {c : Int} (h : cs.lookup z = some c) : capOf cs z = c := by unfold capOf; rw [h]; rfl
theorem key_look {cs : Cs} {z : Str} (hn : (cs.map (·.1)).Nodup) (h : z ∈ cs.map (·.1)) : ∃ v, (z, v) ∈ cs ∧ cs.lookup z = some v := by
  obtain ⟨p, hp, rfl⟩ := List.mem_map.mp h
  exact ⟨p.2, hp, lookup_mem hn hp⟩
theorem look_mem {z : Str} {v : Int} : ∀ {cs : Cs}, cs.lookup z = some v → (z, v) ∈ cs
  | (w, u) :: cs, h => by
    rw [List.lookup_cons] at h
    by_cases e : z = w
    · subst e
      rw [beq_self_eq_true] at h
      cases h
      exact List.mem_cons_self
    · rw [beq_eq_false_iff_ne.mpr e] at h
      exact List.mem_cons_of_mem _ (look_mem h)
theorem put_mem {rs : List Rn} {r x : Rn} (h : x ∈ putR rs r) : x ∈ rs ∨ (x.1 = r.1 ∧ x.2.2 = r.2.2) := by
  unfold putR at h
  split at h
  · split at h
    · rcases List.mem_append.mp h with h | h
      · exact .inl (List.dropLast_subset _ h)
      · rw [List.mem_singleton.mp h]; exact .inr ⟨rfl, rfl⟩
    · rcases List.mem_append.mp h with h | h
      · exact .inl h
      · rw [List.mem_singleton.mp h]; exact .inr ⟨rfl, rfl⟩
  · rcases List.mem_append.mp h with h | h
    · exact .inl h
    · rw [List.mem_singleton.mp h]; exact .inr ⟨rfl, rfl⟩
theorem put_inc {cs : Cs} {rs : List Rn} {r : Rn} {c : Int} (h : InC cs rs) (hr : cs.lookup r.1 = some c) (hc : r.2.2 ≤ c) : InC cs (putR rs r) := fun x hx => by
  rcases put_mem hx with hx | ⟨h1, h2⟩
  · exact h x hx
  · exact ⟨c, by rw [h1]; exact hr, by rw [h2]; exact hc⟩
theorem filt_str {p : Str → Bool} {q : D → Bool} (hq : ∀ i, q (.str i) = p i) : ∀ l : List Str, (l.map PyData.str).filter q = (l.filter p).map .str
  | [] => rfl
  | a :: l => by
    rw [List.map_cons, List.filter_cons, List.filter_cons, hq]
    by_cases h : p a = true
    · rw [if_pos h, if_pos h, List.map_cons, filt_str hq l]
    · rw [if_neg h, if_neg h]; exact filt_str hq l
theorem vKeys_enc (cs : Cs) : vKeys (encK cs) = (cs.map (·.1)).map .str := by
  unfold vKeys encK
  rw [List.map_map, List.map_map]
  rfl
theorem sort_mem {ks : List Str} {z : Str} : z ∈ sortS ks ↔ z ∈ ks := (List.mergeSort_perm ks leS).mem_iff
theorem sort_len (ks : List Str) : (sortS ks).length = ks.length := (List.mergeSort_perm ks leS).length_eq
/-- the writers that have lines, ascending -/
def someW (cs : Cs) : List Str := (sortS (cs.map (·.1))).filter fun z => decide (0 < capOf cs z)
theorem someW_ok {cs : Cs} (g : Good cs) : (∀ z ∈ someW cs, Name z ∧ ∃ c, (z, c) ∈ cs ∧ cs.lookup z = some c ∧ 0 < c ∧ c ≤ 10 ^ 30) ∧ (someW cs).length ≤ 12 := by
  refine ⟨fun z hz => ?_, Nat.le_trans (List.length_filter_le ..) (by rw [sort_len, List.length_map]; exact g.len)⟩
  obtain ⟨z1, z2⟩ := List.mem_filter.mp hz
  obtain ⟨v, v1, v2⟩ := key_look g.nd (sort_mem.mp z1)
  rw [cap_eq v2, decide_eq_true_eq] at z2
  exact ⟨g.nm _ v1, v, v1, v2, z2, (g.pos _ v1).2⟩
/-! ### drawn contents -/
theorem rundraw_ok {cs : Cs} {B : Nat} {s : Sl} {m : Nat} (g : Good cs) (h : Bowl B s) (hB : B ≤ 10 ^ 7) (hm : m ≤ 60) : wx m__law_runs [s, some (.dict (encK cs), .f), some (.int m, .f)] fun d o e => ∃ (rs : List Rn) (s' : Sl), d = .list (encN rs) ∧ o = .o 0 ∧ e = [s', none, none] ∧ WF rs ∧ InC cs rs ∧ rs.length ≤ m ∧ Bowl (B + 1 + 4 * m) s' := by
  have hs := sizeLine_eq
  have hcl := g.len
  unfold m__law_runs b__law_runs
  try get_elem_tactic_extensible
  rw [vKeys_enc, strs_map]
  try get_elem_tactic_extensible
  rw [List.length_map]
  repeat (refine ⟨(by first | (exact Bowl.some (by assumption)) | omega | decide | exact rfl), ?_⟩)
  refine wc_pure (fun d => match d with | .str z => decide (0 < capOf cs z) | _ => false) id (by rw [List.length_map, sort_len, List.length_map, List.length_nil]; omega) ?_ ?_
  · intro d hd
    obtain ⟨z, hz, rfl⟩ := List.mem_map.mp hd
    obtain ⟨v, v1, v2⟩ := key_look g.nd (sort_mem.mp hz)
    unfold t1__law_runs e1__law_runs
    try get_elem_tactic_extensible
    rw [look_enc, v2]
    simp only [Option.map_some]
    try get_elem_tactic_extensible
    rw [cap_eq v2]
    exact ⟨rfl, fun _ => rfl, fun _ => trivial⟩
  · rw [List.nil_append, List.map_id, filt_str (p := fun z => decide (0 < capOf cs z)) (fun _ => rfl)]
    obtain ⟨hw, hwl⟩ := someW_ok g
    unfold someW at hw hwl
    generalize (sortS (cs.map (·.1))).filter (fun z => decide (0 < capOf cs z)) = ws at hw hwl ⊢
    have hwe : eqOk (.list (ws.map .str)) = true := (lay_list (k := 0) fun d hd => by
      obtain ⟨z, hz, rfl⟩ := List.mem_map.mp hd
      exact lay_name (hw z hz).1.2.2).eqOk
    try get_elem_tactic_extensible
    repeat (refine ⟨(by first | (exact Bowl.some (by assumption)) | omega | decide | exact rfl), ?_⟩)
    refine wx_mono (dip_ok h (by omega) (by omega) (by omega)) ?_
    rintro _ _ _ ⟨n, s2, rfl, rfl, rfl, n0, n1, h3⟩
    try get_elem_tactic_extensible
    have hm : ∃ t : Nat, (n * if (PyData.list (ws.map .str)).eqv (.list []) = false then 1 else 0) = (t : Int) ∧ t ≤ m ∧ (0 < t → ws ≠ []) := by
      rw [eqv_nil]
      cases ws with
      | nil => exact ⟨0, by show (n * (0 : Int)) = _; rw [Int.mul_zero]; rfl, Nat.zero_le _, fun q => (by cases q)⟩
      | cons a b => exact ⟨n.toNat, by show (n * (1 : Int)) = _; omega, by omega, fun _ q => (by cases q)⟩
    obtain ⟨t, ht, t1, tw⟩ := hm
    rw [ht]
    refine ⟨by omega, ⟨hwe, by decide⟩, ?_, ⟨by omega, by omega⟩, ?_⟩
    · exact .inr (.inl (by split <;> decide))
    rw [Int.toNat_natCast]
    refine wl_inv (fun k e => ∃ (rs : List Rn) (s' a b c x : Sl), WF rs ∧ InC cs rs ∧ rs.length ≤ k ∧ e = [s', some (.dict (encK cs), .f), some (.int m, .f), some (.list (encN rs), .o 0), some (.list (ws.map .str), .f), a, b, c, x] ∧ Bowl (B + 1 + 4 * k) s') ⟨[], s2, none, none, none, none, ⟨fun x hx => (by cases hx), trivial, by decide⟩, fun x hx => (by cases hx), Nat.le_refl _, rfl, h3⟩ ?_ ?_
    · rintro k d e hk ⟨rs, s3, a, b, c, x, wf, inc, hrl, rfl, h4⟩
      obtain ⟨hk1, rfl⟩ := rangeD_get hk
      unfold l1__law_runs
      try get_elem_tactic_extensible
      rw [List.length_map]
      have hwn : 0 < ws.length := by
        have := tw (by omega)
        cases ws with
        | nil => exact absurd rfl this
        | cons a b => exact Nat.succ_pos _
      repeat (refine ⟨(by first | (exact Bowl.some (by assumption)) | omega | decide | exact rfl), ?_⟩)
      refine wx_mono (dip_ok h4 (by omega) (by omega) (by omega)) ?_
      rintro _ _ _ ⟨i, s4, rfl, rfl, rfl, i0, i1, h5⟩
      have hn : i.toNat < ws.length := by omega
      obtain ⟨nz, v, c1, c2, c3, c4⟩ := hw _ (List.getElem_mem hn)
      have hx := atI_nat (show (ws.map PyData.str)[i.toNat]? = some (.str ws[i.toNat]) by rw [List.getElem?_map, List.getElem?_eq_getElem hn]; rfl)
      rw [Int.toNat_of_nonneg i0] at hx
      generalize ws[i.toNat] = w at nz c1 c2 hx
      try get_elem_tactic_extensible
      rw [hx]
      try get_elem_tactic_extensible
      repeat (refine ⟨(by first | (exact Bowl.some (by assumption)) | omega | decide | exact rfl), ?_⟩)
      have hlk : lookD (encK cs) (.inr w) = some (.int v) := by rw [look_enc, c2]; rfl
      rw [hlk]
      try get_elem_tactic_extensible
      repeat (refine ⟨(by first | (exact Bowl.some (by assumption)) | omega | decide | exact rfl), ?_⟩)
      refine wx_mono (dip_ok h5 (by omega) c3 (by omega)) ?_
      rintro _ _ _ ⟨f, s5, rfl, rfl, rfl, f0, f1, h6⟩
      try get_elem_tactic_extensible
      rw [hlk]
      try get_elem_tactic_extensible
      repeat (refine ⟨(by first | (exact Bowl.some (by assumption)) | omega | decide | exact rfl), ?_⟩)
      refine wx_mono (dip_ok h6 (by omega) (by decide) (by decide)) ?_
      rintro _ _ _ ⟨q, s6, rfl, rfl, rfl, q0, q1, h7⟩
      have hq : ∃ u : Int, atI [PyData.int 1, PyData.int 4, PyData.int 1000000000000000000000000000000] q = some (.int u) ∧ 0 < u ∧ u ≤ 10 ^ 30 := by
        rcases (show q = 0 ∨ q = 1 ∨ q = 2 by omega) with rfl | rfl | rfl
        · exact ⟨1, rfl, by decide, by decide⟩
        · exact ⟨4, rfl, by decide, by decide⟩
        · exact ⟨_, rfl, by decide, by decide⟩
      obtain ⟨u, hu, u0, u1⟩ := hq
      try get_elem_tactic_extensible
      rw [hu]
      try get_elem_tactic_extensible
      repeat (refine ⟨(by first | (exact Bowl.some (by assumption)) | omega | decide | exact rfl), ?_⟩)
      refine wx_mono (dip_ok h7 (by omega) (by split <;> omega) (by split <;> omega)) ?_
      rintro _ _ _ ⟨l, s7, rfl, rfl, rfl, l0, l1, h8⟩
      have hll : 1 + f + l ≤ v := by revert l1; split <;> omega
      try get_elem_tactic_extensible
      repeat (refine ⟨(by first | (exact Bowl.some (by assumption)) | omega | decide | exact rfl), ?_⟩)
      refine wx_mono (put_ok (r := (w, 1 + f, 1 + f + l)) wf.ok (by omega)) ?_
      rintro _ o e ⟨rfl, rfl, rfl⟩
      try get_elem_tactic_extensible
      have ro : RunOk (w, 1 + f, 1 + f + l) := ⟨nz, by show 1 ≤ 1 + f; omega, by show 1 + f ≤ 1 + f + l; omega, by show 1 + f + l ≤ 10 ^ 30; omega⟩
      exact ⟨_, _, _, _, _, _, put_wf wf ro (by omega), put_inc inc c2 hll, by have := put_len rs (w, 1 + f, 1 + f + l); omega, rfl, h8.mono (by omega)⟩
    · rintro e ⟨rs, s3, a, b, c, x, wf, inc, hrl, rfl, h4⟩
      rw [rangeD_len] at hrl h4
      try get_elem_tactic_extensible
      exact ⟨rs, s3, rfl, rfl, wf, inc, by omega, h4.mono (by omega)⟩
end K02
namespace K02
open PySem PySem.Spec PyProof.Rows L2 Ev
local macro_rules | `(tactic| get_elem_tactic_extensible) => `(tactic| simp only [isiT_int, isiB_int_none, isiB_int_int, isiB_int_str, isiB_int_bool, isiB_int_list, isiB_int_tuple, isiB_int_dict, isiT_bool, isiB_bool_none, isiB_bool_int, isiB_bool_str, isiB_bool_bool, isiB_bool_list, isiB_bool_tuple, isiB_bool_dict, isiT_str, isiB_str_none, isiB_str_int, isiB_str_str, isiB_str_bool, isiB_str_list, isiB_str_tuple, isiB_str_dict, isiT_list, isiB_list_none, isiB_list_int, isiB_list_str, isiB_list_bool, isiB_list_list, isiB_list_tuple, isiB_list_dict, isiT_tuple, isiB_tuple_none, isiB_tuple_int, isiB_tuple_str, isiB_tuple_bool, isiB_tuple_list, isiB_tuple_tuple, isiB_tuple_dict, isiT_dict, isiB_dict_none, isiB_dict_int, isiB_dict_str, isiB_dict_bool, isiB_dict_list, isiB_dict_tuple, isiB_dict_dict, isKind_str, isKind_int, isKind_list, ↓wg_some, ↓wx_cst, ↓wx_use, ↓wx_mov, ↓wx_fz, ↓wx_brw, ↓wx_op, ↓wx_un, ↓wx_call, ↓wa_nil, ↓wa_cons, ↓wa_oCons, ↓wx_lst, ↓wx_tup, ↓wx_and, ↓wx_or, ↓wx_not, ↓wx_if, ↓wx_chain, ↓wx_isi, ↓wx_isi2, ↓wx_met, ↓wx_mut, ↓wt_val, ↓wt_no, ↓wt_and, ↓wt_or, ↓wt_brw, ↓wt_yes, ↓ws_nx, ↓ws_bk, ↓ws_ct, ↓ws_nev, ↓ws_retN, ↓ws_ret, ↓ws_exp, ↓ws_seq, ↓ws_if, ↓ws_set, ↓ws_putD, ↓ws_setI, ↓ws_putA, ↓wx_dnew, ↓wkv_nil, ↓wkv_cons, ↓wx_disp, ↓ws_for, ↓ws_forD, ↓wx_lc, ↓wx_lcD, ↓wi_any, ↓wi_slot, ↓wi_rg1, ↓wi_rg2, ↓wg_nm, ↓wg_tp2, ↓wx_mB, ↓war_nil, ↓war_io, ↓war_ex, ↓wx_app, ↓wp_no, ↓wp_sm, ↓wx_sl, ↓ws_aug, ↓ws_par2, ↓ws_unp, ↓wx_slA, ↓wx_mutN, ↓ws_setN, ↓wx_mD, ↓wi_zipE, ↓wx_ixO, ↓wx_ixL, ↓wx_ixD, ↓wx_cpO, ↓wi_enum, ↓wg_tp3, ↓wg_tp4, ↓wg_tp5, ↓wx_get2, ↓wx_get1, ↓wx_getL, ↓wx_getO, ↓wx_lrg2, ↓wx_lrg1, ↓ws_par3, ↓wx_dc, ↓wx_dcD, ↓wx_bor, ↓wx_lrgA, ↓wx_slR, ↓wx_mutT, ↓wi_itD, ↓wx_tupO, ↓wx_borD, ↓ws_borD, ↓wx_appO, wo_some, wbl_bool, wnx_nx, wnx_rt, wnx_bk, wnx_ct, wU_f, wU_o, wM_f, wM_o, wq_some, wm_some, wL_o, wP_d, wP_l, wD_o, wint_int, wdc_dict, wit_list, wit_tup, wit_str, witD_list, witD_tup, witD_str, witD_dict, w1_one, w2_two, wB_rt, wB_nx, wlst_list, wF_f, wS_1, wS_2, wz_list, wz_tup, wI_l, wI_d, wI_f, w0_l, w0d_d, wC_l, wC_f, wC_d, wG_d, wG_f, wBr_o, wBr_f, wokS_n, wokS_f, wokS_o, wokT_n, wokT_c, wokE_0, wokE_s, wokE_1, wcl_f, wcl_o, wls_l, wls_d, wT_o, wNo_n, ox_int, ox_str, ox_list, ox_tup, ox_strI, wOw_o, wokSD_n, wokSD_f, wokSD_o, wokTD_n, wokTD_c, wokED_0, wokED_s, wclD_o, wdc_d, o_dictA_dict, o_dictA_list, o_add_int, o_add_str, o_add_list, o_sub_int, o_mul_int, o_div_int, o_pow_int, o_mod_int, o_neg_int, o_lt_int, o_le_int, o_gt_int, o_ge_int, o_eq_int, o_ne_int, o_eq_str, o_ne_str, o_eq_bool, o_ne_bool, o_eq_list, o_ne_list, o_eq_tup, o_ne_tup, o_isN_none, o_notN_none, o_isN_int, o_notN_int, o_isN_str, o_notN_str, o_isN_bool, o_notN_bool, o_isN_list, o_notN_list, o_isN_tup, o_notN_tup, o_isN_dict, o_notN_dict, o_ix_list, o_ix_tup, o_ix_str, o_ix_dict, o_in_str, o_nin_str, o_in_list, o_nin_list, o_in_dict, o_nin_dict, o_is_bool, o_not_bool, o_rev_list, o_sumV_dict, o_key_int, o_key_str, o_len_list, o_len_tup, o_len_dict, o_len_str, o_abs_int, o_max2_int, o_min2_int, o_int_int, o_int_bool, o_sum_list, o_all_list, o_any_list, o_min1_list, o_max1_list, o_sorted_list, o_repr_one, o_list_list, o_list_tup, o_list_str, o_list_dict, o_tup_list, o_tup_tup, o_vals_dict, o_dictP_list, o_join_list, o_app_one, o_ext_one, o_pop_none, o_popAt_one, o_clear_none, o_addI_int, o_addI_str, o_cut_list, o_cut_tup, o_cut_str, o_sortedA_list, o_sortedA_dict, o_index_list, o_eqK_dict, o_neK_dict, o_inK_dict, o_mulR_list, o_atI_00, o_atI_01, o_atI_02, turn_nx, turn_ct, turn_bk, turn_rt, fits_f0, true_and, and_true, true_implies, false_implies, Bool.true_eq_false, Bool.false_eq_true, Bool.not_true, Bool.not_false, Bool.not_not, decide_eq_true_eq, decide_eq_false_iff_not, Bool.not_eq_true, Bool.not_eq_false, Bool.not_eq_eq_eq_not, List.getElem?_cons_zero, List.getElem?_cons_succ, List.set_cons_zero, List.set_cons_succ, List.map_cons, List.map_nil, fzS_s, fzS_n, calmS_z, okS_z, List.length_cons, List.length_nil, List.cons_append, List.nil_append, List.append_nil, List.replicate_zero, List.replicate_succ, Option.isSome_some, Nat.zero_add, Nat.reduceAdd, Nat.reduceLT, Nat.reduceLeDiff, List.getElem?_nil, arEnv_io, arEnv_ex, arEnv_nil, aO_io, aO_ex, aO_nil, arIos_io, arIos_ex, arIos_nil, arLive_nil, arLive_cons, calmS_f, calmS_n, calmE_nil, calmE_cons, cast_0, cast_1, cast_2, cast_3, cast_4, cast_5, cast_6, cast_7, cast_8, cast_9, cast_10, cast_11, cast_12, Int.reduceEq, Bool.or_false, Bool.or_true, Bool.true_or, Bool.false_or, Bool.and_true, Bool.true_and, Bool.and_false, Bool.false_and, List.take_succ_cons, List.take_zero, Nat.succ_eq_add_one, ixN_zero, scal_none, scal_int, scal_str, scal_bool, still_none, still_int, still_str, still_bool, true_or, or_true, mulOk_l, mulOk_r, divOk_l, powOk_l, Nat.reducePow, Int.reducePow, Int.reduceToNat, Int.reduceAdd, Int.reduceLT, Int.reduceLE, Int.reduceNeg, Int.reduceMul, Int.reduceSub, ge_iff_le, gt_iff_lt, Nat.reduceEqDiff, ixN_10, ixN_20, ixN_21, ixN_30, ixN_31, ixN_32, ixN_40, ixN_41, ixN_42, ixN_43, ixN_50, ixN_51, ixN_52, ixN_53, ixN_54, imp_self, eq_self, not_true_eq_false, not_false_eq_true, forall_const, reduceCtorEq, wipeE, backE, List.getD_cons_zero, List.getD_cons_succ, fgOf])

theorem mget {α : Type} {f : α → D} {l : List α} {k : Nat} {d : D} (h : (l.map f)[k]? = some d) : ∃ z, l[k]? = some z ∧ d = f z := by
  rw [List.getElem?_map] at h
  obtain ⟨z, h1, h2⟩ := Option.map_eq_some_iff.mp h
  exact ⟨z, h1, h2.symm⟩
/-! ### the law's own cutting -/
theorem fr_loop : ∀ {rs F : List Rn} {k : Int} {c x3 x4 x5 x6 : Sl} {Z : Fl → En → Prop}, F.length + rs.length ≤ 2000 →
    (∀ k' x3 x4 x5 x6, Z .nx [c, some (.int k', .f), some (.list (encN (F ++ (spl rs k).1)), .o 0), x3, x4, x5, x6]) →
    wl (gTp 3 (gsCons (gNm 3) (gsCons (gNm 4) (gsCons (gNm 5) gsNil)))) l1__law_front (encN rs) [c, some (.int k, .f), some (.list (encN F), .o 0), x3, x4, x5, x6] Z
  | [], F, k, c, x3, x4, x5, x6, Z, _, fin => by
    have := fin k x3 x4 x5 x6
    simp only [spl, List.append_nil] at this
    exact this
  | r :: rs, F, k, c, x3, x4, x5, x6, Z, h1, fin => by
    have hs := sizeLine_eq
    rw [List.length_cons] at h1
    rw [encN_cons, wl_cons]
    unfold l1__law_front
    try get_elem_tactic_extensible
    have e1 : r.2.2 - r.2.1 + 1 = len1 r := rfl
    rw [e1, encN_len]
    have hsp : (spl (r :: rs) k).1 = (if 0 < (if len1 r < k then len1 r else k) then [(r.1, r.2.1, r.2.1 + (if len1 r < k then len1 r else k) - 1)] else []) ++ (spl rs (k - (if len1 r < k then len1 r else k))).1 := rfl
    rw [hsp] at fin
    generalize (if len1 r < k then len1 r else k) = t at fin ⊢
    have e2 : ∀ (l : List Rn) (a : Str) (b d : Int), encN l ++ [PyData.tuple [.str a, .int b, .int d]] = encN (l ++ [(a, b, d)]) := fun l a b d => by rw [encN_append]; rfl
    rw [e2]
    refine ⟨fun p => ⟨by omega, by omega, ?_⟩, fun p => ?_⟩
    · rw [if_pos p] at fin
      refine fr_loop (by rw [List.length_append, List.length_singleton]; omega) fun k' x3 x4 x5 x6 => ?_
      rw [List.append_assoc]
      exact fin ..
    · rw [if_neg p, List.nil_append] at fin
      exact fr_loop (by omega) fun k' x3 x4 x5 x6 => fin ..
theorem front_ok {rs : List Rn} {k : Int} (hl : rs.length ≤ 1000) : wx m__law_front [some (.list (encN rs), .f), some (.int k, .f)] fun d o e => d = .list (encN (spl rs k).1) ∧ o = .o 0 ∧ e = [none, none] := by
  unfold m__law_front b__law_front
  try get_elem_tactic_extensible
  refine ⟨Nat.zero_le _, ?_⟩
  refine fr_loop (rs := rs) (F := []) (by simp; omega) fun k' x3 x4 x5 x6 => ?_
  try get_elem_tactic_extensible
  rfl
theorem bk_loop : ∀ {rs F : List Rn} {k : Int} {c x3 x4 x5 x6 : Sl} {Z : Fl → En → Prop}, F.length + rs.length ≤ 2000 →
    (∀ k' x3 x4 x5 x6, Z .nx [c, some (.int k', .f), some (.list (encN (F ++ (spl rs k).2)), .o 0), x3, x4, x5, x6]) →
    wl (gTp 3 (gsCons (gNm 3) (gsCons (gNm 4) (gsCons (gNm 5) gsNil)))) l1__law_back (encN rs) [c, some (.int k, .f), some (.list (encN F), .o 0), x3, x4, x5, x6] Z
  | [], F, k, c, x3, x4, x5, x6, Z, _, fin => by
    have := fin k x3 x4 x5 x6
    simp only [spl, List.append_nil] at this
    exact this
  | r :: rs, F, k, c, x3, x4, x5, x6, Z, h1, fin => by
    have hs := sizeLine_eq
    rw [List.length_cons] at h1
    rw [encN_cons, wl_cons]
    unfold l1__law_back
    try get_elem_tactic_extensible
    have e1 : r.2.2 - r.2.1 + 1 = len1 r := rfl
    rw [e1, encN_len]
    have hsp : (spl (r :: rs) k).2 = (if (if len1 r < k then len1 r else k) < len1 r then [(r.1, r.2.1 + (if len1 r < k then len1 r else k), r.2.2)] else []) ++ (spl rs (k - (if len1 r < k then len1 r else k))).2 := rfl
    rw [hsp] at fin
    generalize (if len1 r < k then len1 r else k) = t at fin ⊢
    have e2 : ∀ (l : List Rn) (a : Str) (b d : Int), encN l ++ [PyData.tuple [.str a, .int b, .int d]] = encN (l ++ [(a, b, d)]) := fun l a b d => by rw [encN_append]; rfl
    rw [e2]
    refine ⟨fun p => ⟨by omega, by omega, ?_⟩, fun p => ?_⟩
    · rw [if_pos p] at fin
      refine bk_loop (by rw [List.length_append, List.length_singleton]; omega) fun k' x3 x4 x5 x6 => ?_
      rw [List.append_assoc]
      exact fin ..
    · rw [if_neg p, List.nil_append] at fin
      exact bk_loop (by omega) fun k' x3 x4 x5 x6 => fin ..
theorem back_ok {rs : List Rn} {k : Int} (hl : rs.length ≤ 1000) : wx m__law_back [some (.list (encN rs), .f), some (.int k, .f)] fun d o e => d = .list (encN (spl rs k).2) ∧ o = .o 0 ∧ e = [none, none] := by
  unfold m__law_back b__law_back
  try get_elem_tactic_extensible
  refine ⟨Nat.zero_le _, ?_⟩
  refine bk_loop (rs := rs) (F := []) (by simp; omega) fun k' x3 x4 x5 x6 => ?_
  try get_elem_tactic_extensible
  rfl
theorem spl_len : ∀ (rs : List Rn) (k : Int), (spl rs k).1.length ≤ rs.length ∧ (spl rs k).2.length ≤ rs.length
  | [], _ => ⟨Nat.le_refl _, Nat.le_refl _⟩
  | r :: rs, k => by
    obtain ⟨i1, i2⟩ := spl_len rs (k - (if len1 r < k then len1 r else k))
    have il : ∀ (p : Prop) [Decidable p] (a : Rn), (if p then [a] else []).length ≤ 1 := fun p _ a => by split <;> simp
    have j1 := il (0 < (if len1 r < k then len1 r else k)) (r.1, r.2.1, r.2.1 + (if len1 r < k then len1 r else k) - 1)
    have j2 := il ((if len1 r < k then len1 r else k) < len1 r) (r.1, r.2.1 + (if len1 r < k then len1 r else k), r.2.2)
    unfold spl
    dsimp only
    rw [List.length_append, List.length_append, List.length_cons]
    exact ⟨by omega, by omega⟩
/-! ### is the beginning -/
def bgB (a b : List Rn) : Bool := decide ((spl b (tot a)).1 = a)
theorem len_sum {rs : List Rn} : intsD ((rs.map len1).map PyData.int) = some (rs.map len1) := intsD_map _
theorem begun_ok {a b : List Rn} (hal : a.length ≤ 1000) (hl : b.length ≤ 1000) (h : ∀ r ∈ a, RunOk r) (hb : ∀ r ∈ (spl b (tot a)).1, RunOk r) : wx m__law_begun [some (.list (encN a), .f), some (.list (encN b), .f)] fun d o e => d = .bool (bgB a b) ∧ o = .f ∧ e = [none, none] := by
  have hs := sizeLine_eq
  unfold m__law_begun b__law_begun
  try get_elem_tactic_extensible
  refine wc_pure (fun _ => true) (fun d => match d with | .tuple [_, .int a, .int b] => .int (b - a + 1) | _ => d) (by rw [encN_len, List.length_nil]; omega) ?_ ?_
  · intro d hd
    obtain ⟨r, hr, rfl⟩ := List.mem_map.mp hd
    unfold e1__law_begun
    try get_elem_tactic_extensible
  · rw [List.nil_append, List.filter_eq_self.mpr (fun _ _ => rfl)]
    have e1 : (encN a).map (fun d => match d with | .tuple [_, .int a, .int b] => PyData.int (b - a + 1) | _ => d) = (a.map len1).map .int := by
      unfold encN; rw [List.map_map, List.map_map]; rfl
    rw [e1, intsD_map]
    try get_elem_tactic_extensible
    refine wx_mono (front_ok hl) ?_
    rintro _ o e ⟨rfl, rfl, rfl⟩
    try get_elem_tactic_extensible
    rw [show (a.map len1).sum = tot a from rfl, eqv_encN]
    exact ⟨⟨(lay_runs hb).eqOk, (lay_runs h).eqOk⟩, rfl, rfl⟩
/-! ### where to cut -/
theorem tot_bd : ∀ {rs : List Rn}, (∀ r ∈ rs, RunOk r) → 0 ≤ tot rs ∧ tot rs ≤ rs.length * 10 ^ 30
  | [], _ => by unfold tot; simp
  | r :: rs, h => by
    obtain ⟨i1, i2⟩ := tot_bd (rs := rs) fun x hx => h x (List.mem_cons_of_mem _ hx)
    obtain ⟨_, h1, h2, h3⟩ := h r List.mem_cons_self
    have e : tot (r :: rs) = len1 r + tot rs := by unfold tot; rw [List.map_cons, List.sum_cons]
    have e2 : (((rs.length + 1 : Nat) : Int)) * 10 ^ 30 = (rs.length : Int) * 10 ^ 30 + 10 ^ 30 := by
      rw [show ((rs.length + 1 : Nat) : Int) = (rs.length : Int) + 1 by omega, Int.add_mul, Int.one_mul]
    rw [e, List.length_cons, e2]
    unfold len1
    omega
theorem tot_app (a b : List Rn) : tot (a ++ b) = tot a + tot b := by unfold tot; rw [List.map_append, List.sum_append]
theorem spots_ok {B : Nat} {s : Sl} {rs : List Rn} (hb : Bowl B s) (hB : B ≤ 10 ^ 7) (h : ∀ r ∈ rs, RunOk r) (hl : rs.length ≤ 60) : wx m__law_spots [s, some (.list (encN rs), .f)] fun d o e => ∃ (ks : List Int) (s' : Sl), d = .list (ks.map .int) ∧ o = .o 0 ∧ e = [s', none] ∧ Bowl (B + 6) s' ∧ ks.length ≤ 100 ∧ ∀ k ∈ ks, 0 ≤ k ∧ k ≤ tot rs := by
  have hs := sizeLine_eq
  have htb := tot_bd h
  unfold m__law_spots b__law_spots
  try get_elem_tactic_extensible
  refine ⟨by omega, ?_⟩
  refine wl_inv (fun k e => ∃ (ks : List Int) (l : Int) (x3 x4 x5 : Sl), ks.length = k ∧ (∀ i ∈ ks, 0 ≤ i ∧ i ≤ tot (rs.take k)) ∧ l = tot (rs.take k) ∧ e = [s, some (.list (encN rs), .f), some (.list ((ks ++ [l]).map .int), .f), x3, x4, x5, none, none]) ⟨[], 0, _, _, _, rfl, fun i hi => (by cases hi), rfl, rfl⟩ ?_ ?_
  · rintro k d e hk ⟨ks, l, x3, x4, x5, hkl, hks, hl0, rfl⟩
    generalize hL : l1__law_spots = L
    obtain ⟨⟨z, a, b⟩, hr, rfl⟩ := mget hk
    have hk1 := (List.getElem?_eq_some_iff.mp hr).1
    obtain ⟨_, r1, r2, r3⟩ := h _ (List.mem_of_getElem? hr)
    dsimp only at r1 r2 r3
    have ht1 : tot (rs.take (k + 1)) = l + (b - a + 1) := by
      rw [take_snoc hr, tot_app, ← hl0]
      unfold tot len1; simp
    have hat : atI ((ks ++ [l]).map PyData.int) (-1) = some (.int l) := by rw [List.map_append]; exact atI_last _ _
    have htk := (tot_bd (rs := rs.take k) fun r hr => h r (List.mem_of_mem_take hr)).1
    subst hL
    unfold l1__law_spots
    try get_elem_tactic_extensible
    rw [hat]
    try get_elem_tactic_extensible
    rw [List.length_map, List.length_append, List.length_singleton]
    refine ⟨by omega, by omega, ks ++ [l], l + b - a + 1, _, _, _, by rw [List.length_append, List.length_singleton, hkl], fun i hi => ?_, by omega, by rw [List.map_append (l₁ := ks ++ [l])]; rfl⟩
    rcases List.mem_append.mp hi with hi | hi
    · have := hks i hi
      omega
    · rw [List.mem_singleton.mp hi]; omega
  · rintro e ⟨ks, l, x3, x4, x5, hkl, hks, hl0, rfl⟩
    rw [encN_len] at hkl hks hl0
    rw [List.take_length] at hks hl0
    have hall : ∀ i ∈ ks ++ [l], 0 ≤ i ∧ i ≤ tot rs := fun i hi => by
      rcases List.mem_append.mp hi with hi | hi
      · exact hks i hi
      · rw [List.mem_singleton.mp hi]; omega
    have hat : atI ((ks ++ [l]).map PyData.int) (-1) = some (.int l) := by rw [List.map_append]; exact atI_last _ _
    have hlen : (ks ++ [l]).length = rs.length + 1 := by rw [List.length_append, List.length_singleton, hkl]
    generalize ks ++ [l] = ls at hall hat hlen
    try get_elem_tactic_extensible
    have hle : ls ≠ [] := fun q => by rw [q] at hlen; cases hlen
    refine wc_inv (fun k acc e => ∃ (ms : List Int) (s' : Sl), acc = ms.map .int ∧ ms.length = k ∧ (∀ i ∈ ms, 0 ≤ i ∧ i ≤ tot rs) ∧ Bowl (B + k) s' ∧ e = [s', some (.list (encN rs), .f), some (.list (ls.map .int), .f), x3, x4, x5, none, none]) ⟨[], s, rfl, rfl, fun i hi => (by cases hi), hb, rfl⟩ ?_ ?_
    · rintro k d acc e hk ⟨ms, s', rfl, hml, hms, hb', rfl⟩
      obtain ⟨hk1, rfl⟩ := rangeD_get hk
      unfold e1__law_spots
      try get_elem_tactic_extensible
      rw [List.length_map]
      repeat refine And.intro hb'.some ?_
      refine wx_mono (dip_ok hb' (by omega) (by omega) (by omega)) ?_
      rintro _ _ _ ⟨i, s3, rfl, rfl, rfl, i0, i1, b3⟩
      have hx := atI_nat (show (ls.map PyData.int)[i.toNat]? = some (.int ls[i.toNat]) by rw [List.getElem?_map, List.getElem?_eq_getElem (show i.toNat < ls.length by omega)]; rfl)
      rw [Int.toNat_of_nonneg i0] at hx
      have hm := hall _ (List.getElem_mem (show i.toNat < ls.length by omega))
      generalize ls[i.toNat] = v at hx hm
      try get_elem_tactic_extensible
      rw [hx]
      try get_elem_tactic_extensible
      rw [List.length_map]
      refine ⟨by omega, ms ++ [_], s3, by rw [List.map_append]; rfl, by rw [List.length_append, List.length_singleton, hml], fun i hi => ?_, b3.mono (by omega), rfl⟩
      rcases List.mem_append.mp hi with hi | hi
      · exact hms i hi
      · rw [List.mem_singleton.mp hi]
        split <;> omega
    · rintro acc e ⟨ms, s', rfl, hml, hms, hb', rfl⟩
      rw [rangeD_len] at hml hb'
      try get_elem_tactic_extensible
      rw [List.length_map, List.length_map]
      refine ⟨by omega, ?_⟩
      refine wc_inv (fun k acc e => ∃ (us : List Int) (s2 : Sl), acc = us.map .int ∧ us.length = k ∧ (∀ i ∈ us, 0 ≤ i ∧ i ≤ tot rs) ∧ Bowl (B + 3 + k) s2 ∧ e = [s2, some (.list (encN rs), .f), some (.list (ls.map .int), .f), x3, x4, x5, some (.list (ms.map .int), .f), none]) ⟨[], s', rfl, rfl, fun i hi => (by cases hi), hb', rfl⟩ ?_ ?_
      · rintro k d acc e hk ⟨us, s2, rfl, hul, hus, hb2, rfl⟩
        obtain ⟨hk1, rfl⟩ := rangeD_get hk
        unfold e2__law_spots
        try get_elem_tactic_extensible
        rw [hat]
        try get_elem_tactic_extensible
        repeat refine And.intro hb2.some ?_
        have hlb : 0 ≤ l ∧ l ≤ tot rs := by omega
        refine wx_mono (dip_ok hb2 (by omega) (by omega) (by omega)) ?_
        rintro _ _ _ ⟨i, s3, rfl, rfl, rfl, i0, i1, b3⟩
        try get_elem_tactic_extensible
        rw [List.length_map]
        refine ⟨by omega, us ++ [i], s3, by rw [List.map_append]; rfl, by rw [List.length_append, List.length_singleton, hul], fun q hq => ?_, b3.mono (by omega), rfl⟩
        rcases List.mem_append.mp hq with hq | hq
        · exact hus q hq
        · rw [List.mem_singleton.mp hq]; omega
      · rintro acc e ⟨us, s2, rfl, hul, hus, hb2, rfl⟩
        rw [rangeD_len] at hul hb2
        try get_elem_tactic_extensible
        rw [List.length_append, List.length_map, List.length_map, List.length_map]
        refine ⟨by omega, ls ++ ms ++ us, s2, by rw [List.map_append, List.map_append], rfl, hb2.mono (by omega), by rw [List.length_append, List.length_append]; omega, fun k hk => ?_⟩
        rcases List.mem_append.mp hk with hk | hk
        · rcases List.mem_append.mp hk with hk | hk
          · exact hall k hk
          · exact hms k hk
        · exact hus k hk
end K02
namespace K02
open PySem PySem.Spec PyProof.Rows L2 Ev
local macro_rules | `(tactic| get_elem_tactic_extensible) => `(tactic| simp only [isiT_int, isiB_int_none, isiB_int_int, isiB_int_str, isiB_int_bool, isiB_int_list, isiB_int_tuple, isiB_int_dict, isiT_bool, isiB_bool_none, isiB_bool_int, isiB_bool_str, isiB_bool_bool, isiB_bool_list, isiB_bool_tuple, isiB_bool_dict, isiT_str, isiB_str_none, isiB_str_int, isiB_str_str, isiB_str_bool, isiB_str_list, isiB_str_tuple, isiB_str_dict, isiT_list, isiB_list_none, isiB_list_int, isiB_list_str, isiB_list_bool, isiB_list_list, isiB_list_tuple, isiB_list_dict, isiT_tuple, isiB_tuple_none, isiB_tuple_int, isiB_tuple_str, isiB_tuple_bool, isiB_tuple_list, isiB_tuple_tuple, isiB_tuple_dict, isiT_dict, isiB_dict_none, isiB_dict_int, isiB_dict_str, isiB_dict_bool, isiB_dict_list, isiB_dict_tuple, isiB_dict_dict, isKind_str, isKind_int, isKind_list, ↓wg_some, ↓wx_cst, ↓wx_use, ↓wx_mov, ↓wx_fz, ↓wx_brw, ↓wx_op, ↓wx_un, ↓wx_call, ↓wa_nil, ↓wa_cons, ↓wa_oCons, ↓wx_lst, ↓wx_tup, ↓wx_and, ↓wx_or, ↓wx_not, ↓wx_if, ↓wx_chain, ↓wx_isi, ↓wx_isi2, ↓wx_met, ↓wx_mut, ↓wt_val, ↓wt_no, ↓wt_and, ↓wt_or, ↓wt_brw, ↓wt_yes, ↓ws_nx, ↓ws_bk, ↓ws_ct, ↓ws_nev, ↓ws_retN, ↓ws_ret, ↓ws_exp, ↓ws_seq, ↓ws_if, ↓ws_set, ↓ws_putD, ↓ws_setI, ↓ws_putA, ↓wx_dnew, ↓wkv_nil, ↓wkv_cons, ↓wx_disp, ↓ws_for, ↓ws_forD, ↓wx_lc, ↓wx_lcD, ↓wi_any, ↓wi_slot, ↓wi_rg1, ↓wi_rg2, ↓wg_nm, ↓wg_tp2, ↓wx_mB, ↓war_nil, ↓war_io, ↓war_ex, ↓wx_app, ↓wp_no, ↓wp_sm, ↓wx_sl, ↓ws_aug, ↓ws_par2, ↓ws_unp, ↓wx_slA, ↓wx_mutN, ↓ws_setN, ↓wx_mD, ↓wi_zipE, ↓wx_ixO, ↓wx_ixL, ↓wx_ixD, ↓wx_cpO, ↓wi_enum, ↓wg_tp3, ↓wg_tp4, ↓wg_tp5, ↓wx_get2, ↓wx_get1, ↓wx_getL, ↓wx_getO, ↓wx_lrg2, ↓wx_lrg1, ↓ws_par3, ↓wx_dc, ↓wx_dcD, ↓wx_bor, ↓wx_lrgA, ↓wx_slR, ↓wx_mutT, ↓wi_itD, ↓wx_tupO, ↓wx_borD, ↓ws_borD, ↓wx_appO, wo_some, wbl_bool, wnx_nx, wnx_rt, wnx_bk, wnx_ct, wU_f, wU_o, wM_f, wM_o, wq_some, wm_some, wL_o, wP_d, wP_l, wD_o, wint_int, wdc_dict, wit_list, wit_tup, wit_str, witD_list, witD_tup, witD_str, witD_dict, w1_one, w2_two, wB_rt, wB_nx, wlst_list, wF_f, wS_1, wS_2, wz_list, wz_tup, wI_l, wI_d, wI_f, w0_l, w0d_d, wC_l, wC_f, wC_d, wG_d, wG_f, wBr_o, wBr_f, wokS_n, wokS_f, wokS_o, wokT_n, wokT_c, wokE_0, wokE_s, wokE_1, wcl_f, wcl_o, wls_l, wls_d, wT_o, wNo_n, ox_int, ox_str, ox_list, ox_tup, ox_strI, wOw_o, wokSD_n, wokSD_f, wokSD_o, wokTD_n, wokTD_c, wokED_0, wokED_s, wclD_o, wdc_d, o_dictA_dict, o_dictA_list, o_add_int, o_add_str, o_add_list, o_sub_int, o_mul_int, o_div_int, o_pow_int, o_mod_int, o_neg_int, o_lt_int, o_le_int, o_gt_int, o_ge_int, o_eq_int, o_ne_int, o_eq_str, o_ne_str, o_eq_bool, o_ne_bool, o_eq_list, o_ne_list, o_eq_tup, o_ne_tup, o_isN_none, o_notN_none, o_isN_int, o_notN_int, o_isN_str, o_notN_str, o_isN_bool, o_notN_bool, o_isN_list, o_notN_list, o_isN_tup, o_notN_tup, o_isN_dict, o_notN_dict, o_ix_list, o_ix_tup, o_ix_str, o_ix_dict, o_in_str, o_nin_str, o_in_list, o_nin_list, o_in_dict, o_nin_dict, o_is_bool, o_not_bool, o_rev_list, o_sumV_dict, o_key_int, o_key_str, o_len_list, o_len_tup, o_len_dict, o_len_str, o_abs_int, o_max2_int, o_min2_int, o_int_int, o_int_bool, o_sum_list, o_all_list, o_any_list, o_min1_list, o_max1_list, o_sorted_list, o_repr_one, o_list_list, o_list_tup, o_list_str, o_list_dict, o_tup_list, o_tup_tup, o_vals_dict, o_dictP_list, o_join_list, o_app_one, o_ext_one, o_pop_none, o_popAt_one, o_clear_none, o_addI_int, o_addI_str, o_cut_list, o_cut_tup, o_cut_str, o_sortedA_list, o_sortedA_dict, o_index_list, o_eqK_dict, o_neK_dict, o_inK_dict, o_mulR_list, o_atI_00, o_atI_01, o_atI_02, turn_nx, turn_ct, turn_bk, turn_rt, fits_f0, true_and, and_true, true_implies, false_implies, Bool.true_eq_false, Bool.false_eq_true, Bool.not_true, Bool.not_false, Bool.not_not, decide_eq_true_eq, decide_eq_false_iff_not, Bool.not_eq_true, Bool.not_eq_false, Bool.not_eq_eq_eq_not, List.getElem?_cons_zero, List.getElem?_cons_succ, List.set_cons_zero, List.set_cons_succ, List.map_cons, List.map_nil, fzS_s, fzS_n, calmS_z, okS_z, List.length_cons, List.length_nil, List.cons_append, List.nil_append, List.append_nil, List.replicate_zero, List.replicate_succ, Option.isSome_some, Nat.zero_add, Nat.reduceAdd, Nat.reduceLT, Nat.reduceLeDiff, List.getElem?_nil, arEnv_io, arEnv_ex, arEnv_nil, aO_io, aO_ex, aO_nil, arIos_io, arIos_ex, arIos_nil, arLive_nil, arLive_cons, calmS_f, calmS_n, calmE_nil, calmE_cons, cast_0, cast_1, cast_2, cast_3, cast_4, cast_5, cast_6, cast_7, cast_8, cast_9, cast_10, cast_11, cast_12, Int.reduceEq, Bool.or_false, Bool.or_true, Bool.true_or, Bool.false_or, Bool.and_true, Bool.true_and, Bool.and_false, Bool.false_and, List.take_succ_cons, List.take_zero, Nat.succ_eq_add_one, ixN_zero, scal_none, scal_int, scal_str, scal_bool, still_none, still_int, still_str, still_bool, true_or, or_true, mulOk_l, mulOk_r, divOk_l, powOk_l, Nat.reducePow, Int.reducePow, Int.reduceToNat, Int.reduceAdd, Int.reduceLT, Int.reduceLE, Int.reduceNeg, Int.reduceMul, Int.reduceSub, ge_iff_le, gt_iff_lt, Nat.reduceEqDiff, ixN_10, ixN_20, ixN_21, ixN_30, ixN_31, ixN_32, ixN_40, ixN_41, ixN_42, ixN_43, ixN_50, ixN_51, ixN_52, ixN_53, ixN_54, imp_self, eq_self, not_true_eq_false, not_false_eq_true, forall_const, reduceCtorEq, wipeE, backE, List.getD_cons_zero, List.getD_cons_succ, fgOf])

/-! ### beginnings -/
theorem wf_le {rs : List Rn} (h : WF rs) : ∀ r ∈ rs, r.2.1 ≤ r.2.2 := fun r hr => (h.ok r hr).2.2.1
theorem tot_nat {rs : List Rn} (h : WF rs) : tot rs = ((exs rs).length : Int) := (tot_eq (wf_le h)).symm
theorem spl_WF {rs : List Rn} (k : Nat) (h : WF rs) : WF (spl rs k).1 ∧ WF (spl rs k).2 := by
  have hw := spl_wf (rs := rs) (k := k) (by omega) h.ok h.ne
  have hl := spl_len rs k
  have := h.len
  exact ⟨⟨hw.1.1, hw.1.2.1, by omega⟩, ⟨hw.2.1, hw.2.2.1, by omega⟩⟩
theorem pre_bg {c o : List Rn} (hc : WF c) (ho : WF o) : preI c o = bgB c o := by
  have hs := spl_WF (exs c).length ho
  have he := (spl_exs (rs := o) (k := (exs c).length) (wf_le ho)).1
  have key : preI c o = true ↔ bgB c o = true := by
    unfold bgB
    rw [pre_iff (wf_le hc) (wf_le ho) hc.ne ho.ne, decide_eq_true_eq, List.prefix_iff_eq_take, tot_nat hc]
    constructor
    · intro q
      exact exs_inj (wf_le hs.1) (wf_le hc) hs.1.ne hc.ne (he.trans q.symm)
    · intro q
      rw [← he, q]
  cases h1 : preI c o <;> cases h2 : bgB c o <;> simp_all
theorem pre_fr {rs : List Rn} {k : Nat} (h : WF rs) : preI (spl rs k).1 rs = true := by
  have hs := spl_WF k h
  rw [pre_iff (wf_le hs.1) (wf_le h) hs.1.ne h.ne, (spl_exs (wf_le h)).1]
  exact List.take_prefix _ _
theorem exs_nil {rs : List Rn} (h : WF rs) (e : exs rs = []) : rs = [] := by
  cases rs with
  | nil => rfl
  | cons r t =>
    obtain ⟨u, hu⟩ := exs_head (rs := t) (wf_le h r List.mem_cons_self)
    rw [hu] at e; cases e
theorem pre_all {rs : List Rn} {k : Nat} (h : WF rs) (hk : k ≤ (exs rs).length) : preI rs (spl rs k).1 = decide ((spl rs k).2 = []) := by
  have hs := spl_WF k h
  have he := spl_exs (rs := rs) (k := k) (wf_le h)
  have key : preI rs (spl rs k).1 = true ↔ (spl rs k).2 = [] := by
    rw [pre_iff (wf_le h) (wf_le hs.1) h.ne hs.1.ne, he.1]
    constructor
    · intro q
      have := q.length_le
      rw [List.length_take] at this
      refine exs_nil hs.2 ?_
      rw [he.2]
      exact List.drop_of_length_le (by omega)
    · intro q
      have e2 := he.2
      rw [q] at e2
      have : (exs rs).drop k = [] := e2.symm
      rw [List.drop_eq_nil_iff] at this
      rw [List.take_of_length_le this]
      exact List.prefix_refl _
  by_cases h1 : (spl rs k).2 = []
  · rw [decide_eq_true h1]; exact key.mpr h1
  · rw [decide_eq_false h1]
    cases h2 : preI rs (spl rs k).1 with
    | true => exact absurd (key.mp h2) h1
    | false => rfl
def moreS : Str := Str.ofString "more"
theorem more_name : Name moreS := ⟨by unfold moreS; decide +kernel, by unfold moreS; decide +kernel, by unfold Lt moreS; decide +kernel⟩
theorem more_pool : moreS ∉ poolS := by unfold moreS; decide +kernel
theorem spl_mem : ∀ {rs : List Rn} {k : Int} {x : Rn}, (x ∈ (spl rs k).1 ∨ x ∈ (spl rs k).2) → ∃ r ∈ rs, x.1 = r.1
  | [], _, x, h => by rcases h with h | h <;> cases h
  | r :: rs, k, x, h => by
    have ih := fun q => spl_mem (rs := rs) (k := k - (if len1 r < k then len1 r else k)) (x := x) q
    unfold spl at h
    dsimp only at h
    have i1 : ∀ {p : Prop} [Decidable p] {a : Rn}, x ∈ (if p then [a] else []) → x = a := fun {p} _ {a} q => by
      split at q
      · exact List.mem_singleton.mp q
      · cases q
    rcases h with h | h
    · rcases List.mem_append.mp h with h | h
      · exact ⟨r, List.mem_cons_self, by rw [i1 h]⟩
      · obtain ⟨q, hq, e⟩ := ih (.inl h)
        exact ⟨q, List.mem_cons_of_mem _ hq, e⟩
    · rcases List.mem_append.mp h with h | h
      · exact ⟨r, List.mem_cons_self, by rw [i1 h]⟩
      · obtain ⟨q, hq, e⟩ := ih (.inr h)
        exact ⟨q, List.mem_cons_of_mem _ hq, e⟩
theorem exs_name {rs : List Rn} {p : Str × Int} (h : p ∈ exs rs) : ∃ r ∈ rs, p.1 = r.1 := by
  unfold exs at h
  obtain ⟨r, hr, hp⟩ := List.mem_flatMap.mp h
  unfold exr at hp
  obtain ⟨v, _, rfl⟩ := List.mem_map.mp hp
  exact ⟨r, hr, rfl⟩
theorem more_wf {rs F : List Rn} (hF : WF F) (hl : F.length < 1000) (hn : ∀ r ∈ F, r.1 ≠ moreS) : WF (F ++ [(moreS, 1, 1)]) := ⟨fun r hr => by
  rcases List.mem_append.mp hr with hr | hr
  · exact hF.ok r hr
  · rw [List.mem_singleton.mp hr]; exact ⟨more_name, Int.le_refl _, Int.le_refl _, (by decide : (1 : Int) ≤ 10 ^ 30)⟩, noExt_snoc.mpr ⟨hF.ne, fun l hl => by
    unfold ext
    rw [decide_eq_false (hn l (List.mem_of_getLast? hl)), Bool.false_and]⟩, by rw [List.length_append, List.length_singleton]; omega⟩
theorem pre_more {rs F : List Rn} (h : WF rs) (hF : WF F) (hl : F.length < 1000) (hn : ∀ r ∈ F, r.1 ≠ moreS) (hr : ∀ r ∈ rs, r.1 ≠ moreS) : preI (F ++ [(moreS, 1, 1)]) rs = false := by
  have hw := more_wf (rs := rs) hF hl hn
  cases h2 : preI (F ++ [(moreS, 1, 1)]) rs with
  | false => rfl
  | true =>
    rw [pre_iff (wf_le hw) (wf_le h) hw.ne h.ne] at h2
    have hm : (moreS, (1 : Int)) ∈ exs rs := h2.subset (by
      rw [exs_append]
      refine List.mem_append_right _ ?_
      rw [exs_cons, exr_one]
      exact List.mem_append_left _ List.mem_cons_self)
    obtain ⟨r, hr1, e⟩ := exs_name hm
    exact absurd e.symm (hr r hr1)
theorem same_rn {n : Nat} (rs : List Rn) (hl : rs.length ≤ 1000) : same (n + 2) (.list (encN rs)) :=
  (same_seq (n := n + 1) (fun d hd => by
    obtain ⟨r, hr, rfl⟩ := List.mem_map.mp hd
    refine (same_seq (n := n) (fun d hd => ?_) (by show 3 ≤ 100000; decide)).2
    rcases List.mem_cons.mp hd with rfl | hd
    · exact same_str _
    · rcases List.mem_cons.mp hd with rfl | hd
      · exact same_int _
      · rw [List.mem_singleton.mp hd]; exact same_int _) (by rw [encN_len]; omega)).1
theorem same_pair (a b : List Rn) (ha : a.length ≤ 1000) (hb : b.length ≤ 1000) : wx m__law_same [some (.tuple [.list (encN a), .list (encN b)], .f), some (.tuple [.list (encN a), .list (encN b)], .f)] fun x o e => x = .bool true ∧ o = .f ∧ e = [none, none] :=
  (same_seq (n := 10) (fun d hd => by
    rcases List.mem_cons.mp hd with rfl | hd
    · exact same_rn _ ha
    · rw [List.mem_singleton.mp hd]; exact same_rn _ hb) (by show 2 ≤ 100000; decide)).2
theorem cuts_ok {B : Nat} {s : Sl} {rs : List Rn} {x : D} (hT : IsT x rs) (hb : Bowl B s) (hB : B ≤ 10 ^ 6) (h : WF rs) (hl : rs.length ≤ 60) (hm : ∀ r ∈ rs, r.1 ≠ moreS) (hrp : reprOk x = true) : wx m__law_cuts_right [s, some (x, .f), some (.list (encN rs), .f)] fun d o e => ∃ s', d = .bool true ∧ o = .f ∧ e = [s', none, none] ∧ Bowl (B + 6) s' := by
  have hs := sizeLine_eq
  unfold m__law_cuts_right b__law_cuts_right
  try get_elem_tactic_extensible
  refine ⟨hrp, ?_⟩
  repeat (refine ⟨(by first | (exact Bowl.some (by assumption)) | omega | decide | exact rfl), ?_⟩)
  refine wx_mono (spots_ok hb (by omega) h.ok hl) ?_
  rintro _ _ _ ⟨ks, s', rfl, rfl, rfl, b1, hkl, hks⟩
  try get_elem_tactic_extensible
  refine wl_inv (fun k e => ∃ x4 x5 x6 x7 : Sl, e = [s', some (x, .f), some (.list (encN rs), .f), some (.str (reprD x), .f), x4, x5, x6, x7]) ⟨_, _, _, _, rfl⟩ ?_ ?_
  · rintro j d e hj ⟨x4, x5, x6, x7, rfl⟩
    generalize hL : l1__law_cuts_right = L
    obtain ⟨k0, hk0, rfl⟩ := mget hj
    obtain ⟨k1, k2⟩ := hks _ (List.mem_of_getElem? hk0)
    obtain ⟨k, rfl⟩ := Int.eq_ofNat_of_zero_le k1
    have hk : k ≤ (exs rs).length := by rw [tot_nat h] at k2; omega
    have hF := spl_WF k h
    have hsl := spl_len rs k
    have hsp := split_ok hT h hk
    subst hL
    unfold l1__law_cuts_right
    try get_elem_tactic_extensible
    refine wx_mono (front_ok (by omega)) ?_
    rintro _ o e ⟨rfl, rfl, rfl⟩
    try get_elem_tactic_extensible
    refine wx_mono (back_ok (by omega)) ?_
    rintro _ o e ⟨rfl, rfl, rfl⟩
    try get_elem_tactic_extensible
    refine wx_mono hsp ?_
    rintro _ o e ⟨rfl, rfl, rfl⟩
    have c1 := pre_fr (k := k) h
    have c2 := pre_all h hk
    have c3 := pre_bg hF.2 h
    have hFn : ∀ r ∈ (spl rs k).1, r.1 ≠ moreS := fun r hr => by
      obtain ⟨q, hq, e⟩ := spl_mem (.inl hr)
      rw [e]; exact hm q hq
    have c4 := pre_more h hF.1 (by omega) hFn hm
    generalize (spl rs k).1 = Fr at c1 c2 c4 hF hFn hsl ⊢
    generalize (spl rs k).2 = Bk at c2 c3 hF hsl ⊢
    try get_elem_tactic_extensible
    have hFl : Fr.length ≤ 1000 := by omega
    have hBl : Bk.length ≤ 1000 := by omega
    have a0 : atI [PyData.list (encN Fr), .list (encN Bk)] 0 = some (.list (encN Fr)) := rfl
    have hbe : (encN Bk).isEmpty = decide (Bk = []) := by cases Bk <;> simp [encN]
    have hfe : (encN Fr).isEmpty = decide (Fr = []) := by cases Fr <;> simp [encN]
    have hsB : ∀ r ∈ (spl rs (tot Bk)).1, RunOk r := by
      rw [tot_nat hF.2]
      exact (spl_WF _ h).1.ok
    refine ⟨by omega, ?_⟩
    refine wx_mono (same_pair _ _ hFl hBl) ?_
    rintro _ o e ⟨rfl, rfl, rfl⟩
    try get_elem_tactic_extensible
    refine wx_mono (is_prefix_ok (.l (rs := Fr)) hT hF.1 h) ?_
    rintro _ o e ⟨rfl, rfl, rfl⟩
    rw [c1]
    try get_elem_tactic_extensible
    refine wx_mono (is_prefix_ok hT (.l (rs := Fr)) h hF.1) ?_
    rintro _ o e ⟨rfl, rfl, rfl⟩
    try get_elem_tactic_extensible
    rw [eqv_nil, hbe, c2]
    refine ⟨by omega, ⟨(lay_runs hF.2.ok).eqOk, by decide⟩, fun _ => ?_, fun q => absurd rfl q⟩
    refine wx_mono (is_prefix_ok (.t (rs := Bk)) hT hF.2 h) ?_
    rintro _ o e ⟨rfl, rfl, rfl⟩
    try get_elem_tactic_extensible
    refine wx_mono (begun_ok hBl h.len hF.2.ok hsB) ?_
    rintro _ o e ⟨rfl, rfl, rfl⟩
    try get_elem_tactic_extensible
    rw [c3]
    have em : encN Fr ++ [PyData.tuple [PyData.str (Str.ofString "more"), PyData.int 1, PyData.int 1]] = encN (Fr ++ [(moreS, 1, 1)]) := by rw [encN_append]; rfl
    rw [em, eqv_nil, hfe, encN_len]
    have hmw : WF (Fr ++ [(moreS, 1, 1)]) := more_wf (rs := rs) hF.1 (by omega) fun r hr => hFn r hr
    refine ⟨fun q => absurd rfl q, fun _ => ⟨by omega, by omega, by omega, ⟨(lay_runs hF.1.ok).eqOk, by decide⟩, fun q => ?_, fun q => ⟨_, _, _, _, rfl⟩⟩⟩
    refine wx_mono (is_prefix_ok (.l (rs := Fr ++ [(moreS, 1, 1)])) hT hmw h) ?_
    rintro _ o e ⟨rfl, rfl, rfl⟩
    rw [c4]
    try get_elem_tactic_extensible
    exact ⟨_, _, _, _, rfl⟩
  · rintro e ⟨x4, x5, x6, x7, rfl⟩
    try get_elem_tactic_extensible
    exact ⟨hrp, s', rfl, rfl, b1⟩
end K02
namespace K02
open PySem PySem.Spec PyProof.Rows L2 Ev
local macro_rules | `(tactic| get_elem_tactic_extensible) => `(tactic| simp only [isiT_int, isiB_int_none, isiB_int_int, isiB_int_str, isiB_int_bool, isiB_int_list, isiB_int_tuple, isiB_int_dict, isiT_bool, isiB_bool_none, isiB_bool_int, isiB_bool_str, isiB_bool_bool, isiB_bool_list, isiB_bool_tuple, isiB_bool_dict, isiT_str, isiB_str_none, isiB_str_int, isiB_str_str, isiB_str_bool, isiB_str_list, isiB_str_tuple, isiB_str_dict, isiT_list, isiB_list_none, isiB_list_int, isiB_list_str, isiB_list_bool, isiB_list_list, isiB_list_tuple, isiB_list_dict, isiT_tuple, isiB_tuple_none, isiB_tuple_int, isiB_tuple_str, isiB_tuple_bool, isiB_tuple_list, isiB_tuple_tuple, isiB_tuple_dict, isiT_dict, isiB_dict_none, isiB_dict_int, isiB_dict_str, isiB_dict_bool, isiB_dict_list, isiB_dict_tuple, isiB_dict_dict, isKind_str, isKind_int, isKind_list, ↓wg_some, ↓wx_cst, ↓wx_use, ↓wx_mov, ↓wx_fz, ↓wx_brw, ↓wx_op, ↓wx_un, ↓wx_call, ↓wa_nil, ↓wa_cons, ↓wa_oCons, ↓wx_lst, ↓wx_tup, ↓wx_and, ↓wx_or, ↓wx_not, ↓wx_if, ↓wx_chain, ↓wx_isi, ↓wx_isi2, ↓wx_met, ↓wx_mut, ↓wt_val, ↓wt_no, ↓wt_and, ↓wt_or, ↓wt_brw, ↓wt_yes, ↓ws_nx, ↓ws_bk, ↓ws_ct, ↓ws_nev, ↓ws_retN, ↓ws_ret, ↓ws_exp, ↓ws_seq, ↓ws_if, ↓ws_set, ↓ws_putD, ↓ws_setI, ↓ws_putA, ↓wx_dnew, ↓wkv_nil, ↓wkv_cons, ↓wx_disp, ↓ws_for, ↓ws_forD, ↓wx_lc, ↓wx_lcD, ↓wi_any, ↓wi_slot, ↓wi_rg1, ↓wi_rg2, ↓wg_nm, ↓wg_tp2, ↓wx_mB, ↓war_nil, ↓war_io, ↓war_ex, ↓wx_app, ↓wp_no, ↓wp_sm, ↓wx_sl, ↓ws_aug, ↓ws_par2, ↓ws_unp, ↓wx_slA, ↓wx_mutN, ↓ws_setN, ↓wx_mD, ↓wi_zipE, ↓wx_ixO, ↓wx_ixL, ↓wx_ixD, ↓wx_cpO, ↓wi_enum, ↓wg_tp3, ↓wg_tp4, ↓wg_tp5, ↓wx_get2, ↓wx_get1, ↓wx_getL, ↓wx_getO, ↓wx_lrg2, ↓wx_lrg1, ↓ws_par3, ↓wx_dc, ↓wx_dcD, ↓wx_bor, ↓wx_lrgA, ↓wx_slR, ↓wx_mutT, ↓wi_itD, ↓wx_tupO, ↓wx_borD, ↓ws_borD, ↓wx_appO, wo_some, wbl_bool, wnx_nx, wnx_rt, wnx_bk, wnx_ct, wU_f, wU_o, wM_f, wM_o, wq_some, wm_some, wL_o, wP_d, wP_l, wD_o, wint_int, wdc_dict, wit_list, wit_tup, wit_str, witD_list, witD_tup, witD_str, witD_dict, w1_one, w2_two, wB_rt, wB_nx, wlst_list, wF_f, wS_1, wS_2, wz_list, wz_tup, wI_l, wI_d, wI_f, w0_l, w0d_d, wC_l, wC_f, wC_d, wG_d, wG_f, wBr_o, wBr_f, wokS_n, wokS_f, wokS_o, wokT_n, wokT_c, wokE_0, wokE_s, wokE_1, wcl_f, wcl_o, wls_l, wls_d, wT_o, wNo_n, ox_int, ox_str, ox_list, ox_tup, ox_strI, wOw_o, wokSD_n, wokSD_f, wokSD_o, wokTD_n, wokTD_c, wokED_0, wokED_s, wclD_o, wdc_d, o_dictA_dict, o_dictA_list, o_add_int, o_add_str, o_add_list, o_sub_int, o_mul_int, o_div_int, o_pow_int, o_mod_int, o_neg_int, o_lt_int, o_le_int, o_gt_int, o_ge_int, o_eq_int, o_ne_int, o_eq_str, o_ne_str, o_eq_bool, o_ne_bool, o_eq_list, o_ne_list, o_eq_tup, o_ne_tup, o_isN_none, o_notN_none, o_isN_int, o_notN_int, o_isN_str, o_notN_str, o_isN_bool, o_notN_bool, o_isN_list, o_notN_list, o_isN_tup, o_notN_tup, o_isN_dict, o_notN_dict, o_ix_list, o_ix_tup, o_ix_str, o_ix_dict, o_in_str, o_nin_str, o_in_list, o_nin_list, o_in_dict, o_nin_dict, o_is_bool, o_not_bool, o_rev_list, o_sumV_dict, o_key_int, o_key_str, o_len_list, o_len_tup, o_len_dict, o_len_str, o_abs_int, o_max2_int, o_min2_int, o_int_int, o_int_bool, o_sum_list, o_all_list, o_any_list, o_min1_list, o_max1_list, o_sorted_list, o_repr_one, o_list_list, o_list_tup, o_list_str, o_list_dict, o_tup_list, o_tup_tup, o_vals_dict, o_dictP_list, o_join_list, o_app_one, o_ext_one, o_pop_none, o_popAt_one, o_clear_none, o_addI_int, o_addI_str, o_cut_list, o_cut_tup, o_cut_str, o_sortedA_list, o_sortedA_dict, o_index_list, o_eqK_dict, o_neK_dict, o_inK_dict, o_mulR_list, o_atI_00, o_atI_01, o_atI_02, turn_nx, turn_ct, turn_bk, turn_rt, fits_f0, true_and, and_true, true_implies, false_implies, Bool.true_eq_false, Bool.false_eq_true, Bool.not_true, Bool.not_false, Bool.not_not, decide_eq_true_eq, decide_eq_false_iff_not, Bool.not_eq_true, Bool.not_eq_false, Bool.not_eq_eq_eq_not, List.getElem?_cons_zero, List.getElem?_cons_succ, List.set_cons_zero, List.set_cons_succ, List.map_cons, List.map_nil, fzS_s, fzS_n, calmS_z, okS_z, List.length_cons, List.length_nil, List.cons_append, List.nil_append, List.append_nil, List.replicate_zero, List.replicate_succ, Option.isSome_some, Nat.zero_add, Nat.reduceAdd, Nat.reduceLT, Nat.reduceLeDiff, List.getElem?_nil, arEnv_io, arEnv_ex, arEnv_nil, aO_io, aO_ex, aO_nil, arIos_io, arIos_ex, arIos_nil, arLive_nil, arLive_cons, calmS_f, calmS_n, calmE_nil, calmE_cons, cast_0, cast_1, cast_2, cast_3, cast_4, cast_5, cast_6, cast_7, cast_8, cast_9, cast_10, cast_11, cast_12, Int.reduceEq, Bool.or_false, Bool.or_true, Bool.true_or, Bool.false_or, Bool.and_true, Bool.true_and, Bool.and_false, Bool.false_and, List.take_succ_cons, List.take_zero, Nat.succ_eq_add_one, ixN_zero, scal_none, scal_int, scal_str, scal_bool, still_none, still_int, still_str, still_bool, true_or, or_true, mulOk_l, mulOk_r, divOk_l, powOk_l, Nat.reducePow, Int.reducePow, Int.reduceToNat, Int.reduceAdd, Int.reduceLT, Int.reduceLE, Int.reduceNeg, Int.reduceMul, Int.reduceSub, ge_iff_le, gt_iff_lt, Nat.reduceEqDiff, ixN_10, ixN_20, ixN_21, ixN_30, ixN_31, ixN_32, ixN_40, ixN_41, ixN_42, ixN_43, ixN_50, ixN_51, ixN_52, ixN_53, ixN_54, imp_self, eq_self, not_true_eq_false, not_false_eq_true, forall_const, reduceCtorEq, wipeE, backE, List.getD_cons_zero, List.getD_cons_succ, fgOf])

/-! ### what is shown -/
theorem name_rp {j : Nat} {z : Str} (h : Name z) : rp 82 j (.str z) := (rp_str fun c hc => Nat.lt_of_le_of_lt (h.2.2 c hc).2 (by decide)).mono (by have := h.2.1; omega) (Nat.le_refl _)
theorem big_rp {j : Nat} {i : Int} (h : i.natAbs ≤ 10 ^ 40) : rp 1921 j (.int i) := rp_int (Nat.lt_of_le_of_lt h (Nat.lt_of_lt_of_le (show 10 ^ 40 < 2 ^ 133 by decide) (Nat.pow_le_pow_right (by decide) (by decide))))
theorem cs_rp {cs : Cs} (g : Good cs) : rp 24086 1 (.dict (encK cs)) := rp_dict (j := 0) (k := 82) (m := 1921) (n := 12) (fun p hp => by
  obtain ⟨c, hc, rfl⟩ := List.mem_map.mp hp
  have := g.pos c hc
  exact ⟨name_rp (g.nm c hc), big_rp (by show c.2.natAbs ≤ _; omega)⟩) (by rw [encK_len]; exact g.len)
theorem run_rp {r : Rn} (h : RunOk r) : rp 5772 1 (.tuple [.str r.1, .int r.2.1, .int r.2.2]) := rp_tup (k := 1921) (j := 0) (n := 3) (rp_cons ((name_rp h.1).mono (by decide) (Nat.le_refl _)) (rp_cons (big_rp (by have := h.2; omega)) (rp_cons (big_rp (by have := h.2; omega)) rp_nil))) (Nat.le_refl _)
theorem text_rp {rs : List Rn} {x : D} {n : Nat} (hT : IsT x rs) (h : ∀ r ∈ rs, RunOk r) (hn : rs.length ≤ n) : rp (3 + n * 5774) 2 x := by
  have h1 : ∀ d ∈ encN rs, rp 5772 1 d := fun d hd => by
    obtain ⟨r, hr, rfl⟩ := List.mem_map.mp hd
    exact run_rp (h r hr)
  cases hT
  · exact (rp_list h1 (by rw [encN_len]; exact hn)).mono (by omega) (Nat.le_refl _)
  · exact rp_tup h1 (by rw [encN_len]; exact hn)
/-- one of three bounds -/
theorem pick3 {a b c q : Int} (h0 : 0 ≤ q) (h1 : q < 3) (ha : 0 < a ∧ a ≤ 10 ^ 30) (hb : 0 < b ∧ b ≤ 10 ^ 30) (hc : 0 < c ∧ c ≤ 10 ^ 30) : ∃ u : Int, atI [PyData.int a, .int b, .int c] q = some (.int u) ∧ 0 < u ∧ u ≤ 10 ^ 30 := by
  rcases (show q = 0 ∨ q = 1 ∨ q = 2 by omega) with rfl | rfl | rfl
  · exact ⟨a, rfl, ha⟩
  · exact ⟨b, rfl, hb⟩
  · exact ⟨c, rfl, hc⟩
theorem pickW {ws : List Str} {i : Int} (i0 : 0 ≤ i) (i1 : i < ws.length) : ∃ w ∈ ws, atI (ws.map PyData.str) i = some (.str w) := by
  have hn : i.toNat < ws.length := by omega
  have hx := atI_nat (show (ws.map PyData.str)[i.toNat]? = some (.str ws[i.toNat]) by rw [List.getElem?_map, List.getElem?_eq_getElem hn]; rfl)
  rw [Int.toNat_of_nonneg i0] at hx
  exact ⟨_, List.getElem_mem hn, hx⟩
/-! ### the law -/
theorem turn_ok {n0 : D} {j : Nat} {s x3 x4 x5 x6 x7 x8 x9 x10 x11 x12 x13 : Sl} {Z : Fl → En → Prop} (hj1 : j < 12) (hb : Bowl (1000 * j) s) :
    ws l1_law [some (n0, .f), s, some (.int (0 + (j : Int)), .f), x3, x4, x5, x6, x7, x8, x9, x10, x11, x12, x13] (turn (fun e => ∃ s x2 x3 x4 x5 x6 x7 x8 x9 x10 x11 x12 x13 : Sl, Bowl (1000 * (j + 1)) s ∧ e = [some (n0, .f), s, x2, x3, x4, x5, x6, x7, x8, x9, x10, x11, x12, x13]) Z) := by
  have hs := sizeLine_eq
  unfold l1_law
  try get_elem_tactic_extensible
  repeat (refine ⟨(by first | (exact Bowl.some (by assumption)) | omega | decide | exact rfl), ?_⟩)
  refine wx_mono (dip_ok hb (by omega) (by decide) (by decide)) ?_
  rintro _ _ _ ⟨i1, s1, rfl, rfl, rfl, i10, i11, b1⟩
  obtain ⟨gr, hgr, gr0, gr1⟩ : ∃ u : Int, atI [PyData.int 6, .int 1000000000000000000000000000000] i1 = some (.int u) ∧ 0 < u ∧ u ≤ 10 ^ 30 := by
    rcases (show i1 = 0 ∨ i1 = 1 by omega) with rfl | rfl
    · exact ⟨6, rfl, by decide, by decide⟩
    · exact ⟨_, rfl, by decide, by decide⟩
  try get_elem_tactic_extensible
  rw [hgr]
  try get_elem_tactic_extensible
  repeat refine And.intro b1.some ?_
  refine wx_mono (rows_ok b1 (by omega) (by decide) (by decide) gr0 gr1) ?_
  rintro _ _ _ ⟨cs, s2, rfl, rfl, rfl, g, hp, _, b2⟩
  try get_elem_tactic_extensible
  repeat refine And.intro b2.some ?_
  refine wx_mono (rundraw_ok (m := 12) g b2 (by omega) (by decide)) ?_
  rintro _ _ _ ⟨rs, s3, rfl, rfl, rfl, hw, hi, hl, b3⟩
  try get_elem_tactic_extensible
  repeat refine And.intro b3.some ?_
  refine wx_mono (rundraw_ok (m := 3) g b3 (by omega) (by decide)) ?_
  rintro _ _ _ ⟨rs2, s4, rfl, rfl, rfl, hw2, hi2, hl2, b4⟩
  try get_elem_tactic_extensible
  repeat (refine ⟨(by first | (exact Bowl.some (by assumption)) | omega | decide | exact rfl), ?_⟩)
  refine wx_mono (dip_ok b4 (by omega) (by decide) (by decide)) ?_
  rintro _ _ _ ⟨i2, s5, rfl, rfl, rfl, i20, i21, b5⟩
  obtain ⟨x, hx, hT⟩ : ∃ x, atI [PyData.list (encN rs), .tuple (encN rs)] i2 = some x ∧ IsT x rs := by
    rcases (show i2 = 0 ∨ i2 = 1 by omega) with e | e
    · rw [e]; exact ⟨_, rfl, .l⟩
    · rw [e]; exact ⟨_, rfl, .t⟩
  try get_elem_tactic_extensible
  rw [hx]
  try get_elem_tactic_extensible
  have hmore : ∀ r ∈ rs, r.1 ≠ moreS := fun r hr q => by
    obtain ⟨c, c1, _⟩ := hi r hr
    exact more_pool (q ▸ hp _ (look_mem c1))
  have hrx : reprOk x = true := by
    cases hT with
    | l => exact (text_rp (.l (rs := rs)) hw.ok (n := 12) hl).ok_list (by rw [hs]; decide)
    | t => exact (text_rp (.t (rs := rs)) hw.ok (n := 12) hl).ok_tup (by rw [hs]; decide)
  repeat refine And.intro b5.some ?_
  refine wx_mono (cuts_ok hT b5 (by omega) hw (by omega) hmore hrx) ?_
  rintro _ _ _ ⟨s6, rfl, rfl, rfl, b6⟩
  try get_elem_tactic_extensible
  repeat refine And.intro (by omega) ?_
  refine wl_inv (fun k e => ∃ x7 x8 : Sl, e = [some (n0, .f), s6, some (.int (0 + (j : Int)), .f), some (.dict (encK cs), .f), some (.list (encN rs), .f), some (.list (encN rs2), .f), some (x, .f), x7, x8, x9, x10, x11, x12, x13]) ⟨_, _, rfl⟩ ?_ ?_
  · rintro k d e hk ⟨x7, x8, rfl⟩
    obtain ⟨a, b, rfl, ha, hb'⟩ : ∃ a b : List Rn, d = .tuple [.list (encN a), .list (encN b)] ∧ WF a ∧ WF b := by
      rcases k with _ | _ | _ | k
      · cases hk; exact ⟨_, _, rfl, hw, hw2⟩
      · cases hk; exact ⟨_, _, rfl, hw2, hw⟩
      · cases hk; exact ⟨_, _, rfl, hw2, hw2⟩
      · cases hk
    unfold l2_law
    try get_elem_tactic_extensible
    refine wx_mono (is_prefix_ok (.l (rs := a)) (.l (rs := b)) ha hb') ?_
    rintro _ o e ⟨rfl, rfl, rfl⟩
    try get_elem_tactic_extensible
    refine wx_mono (begun_ok ha.len hb'.len ha.ok (by rw [tot_nat ha]; exact (spl_WF _ hb').1.ok)) ?_
    rintro _ o e ⟨rfl, rfl, rfl⟩
    try get_elem_tactic_extensible
    rw [pre_bg ha hb']
    exact ⟨fun q => absurd rfl q, fun _ => ⟨_, _, rfl⟩⟩
  · rintro e ⟨x7, x8, rfl⟩
    try get_elem_tactic_extensible
    have hcl := g.len
    have hcp : 0 < cs.length := List.length_pos_iff.mpr g.ne
    rw [vKeys_enc, strs_map]
    try get_elem_tactic_extensible
    have hsl : (sortS (cs.map (·.1))).length = cs.length := by rw [sort_len, List.length_map]
    rw [List.length_map, encK_len]
    refine And.intro (by omega) ?_
    repeat refine And.intro b6.some ?_
    refine wx_mono (dip_ok b6 (by omega) (by omega) (by omega)) ?_
    rintro _ _ _ ⟨i3, s7, rfl, rfl, rfl, i30, i31, b7⟩
    obtain ⟨w, hwm, hwa⟩ := pickW (ws := sortS (cs.map (·.1))) i30 (by omega)
    obtain ⟨v, v1, v2⟩ := key_look g.nd (sort_mem.mp hwm)
    have hwn := g.nm _ v1
    try get_elem_tactic_extensible
    rw [hwa]
    try get_elem_tactic_extensible
    repeat refine And.intro b7.some ?_
    refine And.intro (by omega) ?_
    repeat refine And.intro b7.some ?_
    refine wx_mono (dip_ok b7 (by omega) (by decide) (by decide)) ?_
    rintro _ _ _ ⟨i4, s8, rfl, rfl, rfl, i40, i41, b8⟩
    obtain ⟨gq, hgq, gq0, gq1⟩ : ∃ u : Int, atI [PyData.int 3, .int 1000000000000000000000000000000] i4 = some (.int u) ∧ 0 < u ∧ u ≤ 10 ^ 30 := by
      rcases (show i4 = 0 ∨ i4 = 1 by omega) with rfl | rfl
      · exact ⟨3, rfl, by decide, by decide⟩
      · exact ⟨_, rfl, by decide, by decide⟩
    try get_elem_tactic_extensible
    rw [hgq]
    try get_elem_tactic_extensible
    repeat refine And.intro b8.some ?_
    refine wx_mono (dip_ok b8 (by omega) gq0 (by omega)) ?_
    rintro _ _ _ ⟨i5, s9, rfl, rfl, rfl, i50, i51, b9⟩
    try get_elem_tactic_extensible
    rw [eqv_nil]
    have hre : (encN rs).isEmpty = decide (rs = []) := by cases rs <;> simp [encN]
    rw [hre]
    refine ⟨by omega, by omega, ⟨(lay_runs hw.ok).eqOk, by decide⟩, fun q => ?_, fun q => ?_⟩
    · repeat refine And.intro b9.some ?_
      refine wx_mono (dip_ok b9 (by omega) (by decide) (by decide)) ?_
      rintro _ _ _ ⟨i6, s10, rfl, rfl, rfl, i60, i61, b10⟩
      obtain ⟨l, hlast⟩ : ∃ l, rs.getLast? = some l := by
        cases hg : rs.getLast? with
        | some r => exact ⟨r, rfl⟩
        | none =>
          rw [List.getLast?_eq_none_iff.mp hg] at q
          exact absurd q (by decide)
      have hla : atI (encN rs) (-1) = some (.tuple [.str l.1, .int l.2.1, .int l.2.2]) := by
        obtain ⟨V, rfl⟩ := List.getLast?_eq_some_iff.mp hlast
        rw [encN_append]
        exact atI_last _ _
      have hlr := hw.ok l (List.mem_of_getLast? hlast)
      obtain ⟨l1, l2, l3, l4⟩ := hlr
      try get_elem_tactic_extensible
      rw [hla]
      try get_elem_tactic_extensible
      obtain ⟨n, hn, n1, n2⟩ : ∃ n : Int, (if l.2.2 + 1 < 1000000000000000000000000000000 then l.2.2 + 1 else 1000000000000000000000000000000) = n ∧ 1 ≤ n ∧ n ≤ 10 ^ 30 := ⟨_, rfl, by split <;> omega, by split <;> omega⟩
      rw [hn]
      refine ⟨fun q2 => ?_, fun q2 => ?_⟩
      · refine And.intro (by omega) ?_
        have hz : Name (l.1) := l1
        have h1 : (1 : Int) ≤ n := n1
        have h2 : n ≤ 10 ^ 30 := n2
        refine And.intro (by omega) ?_
        refine wx_mono (put_ok (r := (l.1, n, n)) hw.ok (by omega)) ?_
        rintro _ o e ⟨rfl, rfl, rfl⟩
        try get_elem_tactic_extensible
        refine wx_mono (append_line_ok hT hw hz h1 h2) ?_
        rintro _ o e ⟨rfl, rfl, rfl⟩
        have hpw : WF (putR rs (l.1, n, n)) := put_wf hw ⟨hz, h1, Int.le_refl _, h2⟩ (by omega)
        have hpt : tot (putR rs (l.1, n, n)) = tot rs + 1 := by
          rw [tot_nat hpw, tot_nat hw, exs_put (wf_le hw) (Int.le_refl _), exr_one, List.length_append, List.length_singleton]
          omega
        generalize hP : putR rs (l.1, n, n) = P at hpw hpt ⊢
        try get_elem_tactic_extensible
        refine wx_mono (same_runs _ hpw.len) ?_
        rintro _ o e ⟨rfl, rfl, rfl⟩
        try get_elem_tactic_extensible
        refine wx_mono (count_ok (.l (rs := P)) hpw) ?_
        rintro _ o e ⟨rfl, rfl, rfl⟩
        try get_elem_tactic_extensible
        refine wx_mono (count_ok hT hw) ?_
        rintro _ o e ⟨rfl, rfl, rfl⟩
        try get_elem_tactic_extensible
        refine ⟨fun q => absurd hpt q, fun _ => ?_⟩
        refine wx_mono (append_line_ok hT hw hz h1 h2) ?_
        rintro _ o e ⟨rfl, rfl, rfl⟩
        rw [hP]
        try get_elem_tactic_extensible
        refine wx_mono (same_runs _ hpw.len) ?_
        rintro _ o e ⟨rfl, rfl, rfl⟩
        try get_elem_tactic_extensible
        obtain ⟨xl, hxl⟩ : ∃ y, y = PyData.list (encN rs) := ⟨_, rfl⟩
        have hkl : ∀ P : D → Fg → Prop, (∀ o, P (.list (encN rs)) o) → wo (kListA [x]) P := fun P hp => by
          cases hT with
          | l => exact hp _
          | t => exact hp _
        refine hkl _ fun o => ?_
        try get_elem_tactic_extensible
        rw [eqv_encN, decide_eq_true rfl]
        exact ⟨⟨(lay_runs hw.ok).eqOk, (lay_runs hw.ok).eqOk⟩, fun q => absurd q (by decide), fun _ => ⟨_, _, _, _, _, _, _, _, _, _, _, _, _, b10.mono (by omega), rfl⟩⟩
      · skip
        have hz : Name (w) := hwn
        have h1 : (1 : Int) ≤ 1 + i5 := by omega
        have h2 : 1 + i5 ≤ 10 ^ 30 := by omega
        refine And.intro (by omega) ?_
        refine wx_mono (put_ok (r := (w, (1 + i5), (1 + i5))) hw.ok (by omega)) ?_
        rintro _ o e ⟨rfl, rfl, rfl⟩
        try get_elem_tactic_extensible
        refine wx_mono (append_line_ok hT hw hz h1 h2) ?_
        rintro _ o e ⟨rfl, rfl, rfl⟩
        have hpw : WF (putR rs (w, (1 + i5), (1 + i5))) := put_wf hw ⟨hz, h1, Int.le_refl _, h2⟩ (by omega)
        have hpt : tot (putR rs (w, (1 + i5), (1 + i5))) = tot rs + 1 := by
          rw [tot_nat hpw, tot_nat hw, exs_put (wf_le hw) (Int.le_refl _), exr_one, List.length_append, List.length_singleton]
          omega
        generalize hP : putR rs (w, (1 + i5), (1 + i5)) = P at hpw hpt ⊢
        try get_elem_tactic_extensible
        refine wx_mono (same_runs _ hpw.len) ?_
        rintro _ o e ⟨rfl, rfl, rfl⟩
        try get_elem_tactic_extensible
        refine wx_mono (count_ok (.l (rs := P)) hpw) ?_
        rintro _ o e ⟨rfl, rfl, rfl⟩
        try get_elem_tactic_extensible
        refine wx_mono (count_ok hT hw) ?_
        rintro _ o e ⟨rfl, rfl, rfl⟩
        try get_elem_tactic_extensible
        refine ⟨fun q => absurd hpt q, fun _ => ?_⟩
        refine wx_mono (append_line_ok hT hw hz h1 h2) ?_
        rintro _ o e ⟨rfl, rfl, rfl⟩
        rw [hP]
        try get_elem_tactic_extensible
        refine wx_mono (same_runs _ hpw.len) ?_
        rintro _ o e ⟨rfl, rfl, rfl⟩
        try get_elem_tactic_extensible
        obtain ⟨xl, hxl⟩ : ∃ y, y = PyData.list (encN rs) := ⟨_, rfl⟩
        have hkl : ∀ P : D → Fg → Prop, (∀ o, P (.list (encN rs)) o) → wo (kListA [x]) P := fun P hp => by
          cases hT with
          | l => exact hp _
          | t => exact hp _
        refine hkl _ fun o => ?_
        try get_elem_tactic_extensible
        rw [eqv_encN, decide_eq_true rfl]
        exact ⟨⟨(lay_runs hw.ok).eqOk, (lay_runs hw.ok).eqOk⟩, fun q => absurd q (by decide), fun _ => ⟨_, _, _, _, _, _, _, _, _, _, _, _, _, b10.mono (by omega), rfl⟩⟩
    · skip
      have hz : Name (w) := hwn
      have h1 : (1 : Int) ≤ 1 + i5 := by omega
      have h2 : 1 + i5 ≤ 10 ^ 30 := by omega
      refine And.intro (by omega) ?_
      refine wx_mono (put_ok (r := (w, (1 + i5), (1 + i5))) hw.ok (by omega)) ?_
      rintro _ o e ⟨rfl, rfl, rfl⟩
      try get_elem_tactic_extensible
      refine wx_mono (append_line_ok hT hw hz h1 h2) ?_
      rintro _ o e ⟨rfl, rfl, rfl⟩
      have hpw : WF (putR rs (w, (1 + i5), (1 + i5))) := put_wf hw ⟨hz, h1, Int.le_refl _, h2⟩ (by omega)
      have hpt : tot (putR rs (w, (1 + i5), (1 + i5))) = tot rs + 1 := by
        rw [tot_nat hpw, tot_nat hw, exs_put (wf_le hw) (Int.le_refl _), exr_one, List.length_append, List.length_singleton]
        omega
      generalize hP : putR rs (w, (1 + i5), (1 + i5)) = P at hpw hpt ⊢
      try get_elem_tactic_extensible
      refine wx_mono (same_runs _ hpw.len) ?_
      rintro _ o e ⟨rfl, rfl, rfl⟩
      try get_elem_tactic_extensible
      refine wx_mono (count_ok (.l (rs := P)) hpw) ?_
      rintro _ o e ⟨rfl, rfl, rfl⟩
      try get_elem_tactic_extensible
      refine wx_mono (count_ok hT hw) ?_
      rintro _ o e ⟨rfl, rfl, rfl⟩
      try get_elem_tactic_extensible
      refine ⟨fun q => absurd hpt q, fun _ => ?_⟩
      refine wx_mono (append_line_ok hT hw hz h1 h2) ?_
      rintro _ o e ⟨rfl, rfl, rfl⟩
      rw [hP]
      try get_elem_tactic_extensible
      refine wx_mono (same_runs _ hpw.len) ?_
      rintro _ o e ⟨rfl, rfl, rfl⟩
      try get_elem_tactic_extensible
      obtain ⟨xl, hxl⟩ : ∃ y, y = PyData.list (encN rs) := ⟨_, rfl⟩
      have hkl : ∀ P : D → Fg → Prop, (∀ o, P (.list (encN rs)) o) → wo (kListA [x]) P := fun P hp => by
        cases hT with
        | l => exact hp _
        | t => exact hp _
      refine hkl _ fun o => ?_
      try get_elem_tactic_extensible
      rw [eqv_encN, decide_eq_true rfl]
      exact ⟨⟨(lay_runs hw.ok).eqOk, (lay_runs hw.ok).eqOk⟩, fun q => absurd q (by decide), fun _ => ⟨_, _, _, _, _, _, _, _, _, _, _, _, _, b9.mono (by omega), rfl⟩⟩
theorem law_ok (ns : List Int) (hns : ns.length ≤ 63) : ∃ e, m_law [some (.list (ns.map .int), .f)] = some (.bool true, .f, e) := by
  have hs := sizeLine_eq
  have goal : wx m_law [some (.list (ns.map .int), .f)] fun d o e => d = .bool true ∧ o = .f := by
    unfold m_law b_law
    try get_elem_tactic_extensible
    refine wx_mono (bowl_ok hns) ?_
    rintro d o _ ⟨h0, rfl⟩
    try get_elem_tactic_extensible
    rw [List.length_map]
    refine ⟨by split <;> omega, ?_⟩
    refine wl_inv (fun k e => ∃ s x2 x3 x4 x5 x6 x7 x8 x9 x10 x11 x12 x13 : Sl, Bowl (1000 * k) s ∧ e = [some (.list (ns.map .int), .f), s, x2, x3, x4, x5, x6, x7, x8, x9, x10, x11, x12, x13]) ⟨_, _, _, _, _, _, _, _, _, _, _, _, _, h0, rfl⟩ ?_ ?_
    · clear h0
      rintro k d e hk ⟨s, x2, x3, x4, x5, x6, x7, x8, x9, x10, x11, x12, x13, hb, rfl⟩
      obtain ⟨hk1, rfl⟩ := rangeD_get hk
      have hk12 : k < 12 := by revert hk1; split <;> omega
      try get_elem_tactic_extensible
      exact turn_ok hk12 hb
    · rintro e ⟨s, x2, x3, x4, x5, x6, x7, x8, x9, x10, x11, x12, x13, hb, rfl⟩
      try get_elem_tactic_extensible
      have hw0 : WF [] := ⟨fun r hr => (by cases hr), trivial, by decide⟩
      refine ⟨by omega, by omega, ?_⟩
      refine wx_mono (is_prefix_ok (c := []) (o := []) (x := .list []) (y := .list []) (IsT.l (rs := [])) (IsT.l (rs := [])) hw0 hw0) ?_
      rintro _ o e ⟨rfl, rfl, rfl⟩
      try get_elem_tactic_extensible
      rfl
  obtain ⟨d, o, e, h1, rfl, rfl⟩ := wx_get goal
  exact ⟨e, h1⟩
end K02
namespace K02
open PySem PySem.Spec PyProof.Rows L2 He Ev
set_option maxHeartbeats 4000000 in
theorem all_mk {l : PySem.W.OpenLaw} {w : World} {K : PySem.W.Frag} {h : Heap} {mg : Str → Option Value} {fa : Addr} (X : K.In h) (G : h.Ns mainGlobals mg) (hfa : mg "law" = some (.ref fa))
    {f0 : Addr} {od0 an0 : Option Addr} {sl0 : Array (Option Value)} {oc0 kV0 dc0 pm0 cd0 ct0 : Value}
    (a0 : PySem.W.nsIn K mainGlobals "_law_bowl" = some (some (.ref f0))) (l0 : K.lookup f0 = some ⟨oc0, od0, .func (PySem.W.fnOf "_law_bowl" "_law_bowl" (defArgs s__law_bowl) (defBody s__law_bowl) (defScope s__law_bowl) .none kV0 dc0 pm0 an0 cd0 ct0), sl0⟩) (c0 : PySem.W.codeIn K cd0 "_law_bowl" = true) (k0 : PySem.W.keepIn K (.ref f0) = true)
    {f1 : Addr} {od1 an1 : Option Addr} {sl1 : Array (Option Value)} {oc1 kV1 dc1 pm1 cd1 ct1 : Value}
    (a1 : PySem.W.nsIn K mainGlobals "_law_dip" = some (some (.ref f1))) (l1 : K.lookup f1 = some ⟨oc1, od1, .func (PySem.W.fnOf "_law_dip" "_law_dip" (defArgs s__law_dip) (defBody s__law_dip) (defScope s__law_dip) .none kV1 dc1 pm1 an1 cd1 ct1), sl1⟩) (c1 : PySem.W.codeIn K cd1 "_law_dip" = true) (k1 : PySem.W.keepIn K (.ref f1) = true)
    {f2 : Addr} {od2 an2 : Option Addr} {sl2 : Array (Option Value)} {oc2 kV2 dc2 pm2 cd2 ct2 : Value}
    (a2 : PySem.W.nsIn K mainGlobals "_law_rows" = some (some (.ref f2))) (l2 : K.lookup f2 = some ⟨oc2, od2, .func (PySem.W.fnOf "_law_rows" "_law_rows" (defArgs s__law_rows) (defBody s__law_rows) (defScope s__law_rows) .none kV2 dc2 pm2 an2 cd2 ct2), sl2⟩) (c2 : PySem.W.codeIn K cd2 "_law_rows" = true) (k2 : PySem.W.keepIn K (.ref f2) = true)
    {f3 : Addr} {od3 an3 : Option Addr} {sl3 : Array (Option Value)} {oc3 kV3 dc3 pm3 cd3 ct3 : Value}
    (a3 : PySem.W.nsIn K mainGlobals "_law_put" = some (some (.ref f3))) (l3 : K.lookup f3 = some ⟨oc3, od3, .func (PySem.W.fnOf "_law_put" "_law_put" (defArgs s__law_put) (defBody s__law_put) (defScope s__law_put) .none kV3 dc3 pm3 an3 cd3 ct3), sl3⟩) (c3 : PySem.W.codeIn K cd3 "_law_put" = true) (k3 : PySem.W.keepIn K (.ref f3) = true)
    {f4 : Addr} {od4 an4 : Option Addr} {sl4 : Array (Option Value)} {oc4 kV4 dc4 pm4 cd4 ct4 : Value}
    (a4 : PySem.W.nsIn K mainGlobals "extends_run" = some (some (.ref f4))) (l4 : K.lookup f4 = some ⟨oc4, od4, .func (PySem.W.fnOf "extends_run" "extends_run" (defArgs s_extends_run) (defBody s_extends_run) (defScope s_extends_run) .none kV4 dc4 pm4 an4 cd4 ct4), sl4⟩) (c4 : PySem.W.codeIn K cd4 "extends_run" = true) (k4 : PySem.W.keepIn K (.ref f4) = true)
    {f5 : Addr} {od5 an5 : Option Addr} {sl5 : Array (Option Value)} {oc5 kV5 dc5 pm5 cd5 ct5 : Value}
    {T5 : Addr} {to5 : Obj} {ti5 : List Value} {tn5 : Nat}
    (a5 : PySem.W.nsIn K mainGlobals "is_integer" = some (some (.ref f5))) (l5 : K.lookup f5 = some ⟨oc5, od5, .func (PySem.W.fnOf "is_integer" "is_integer" (defArgs s_is_integer) (defBody s_is_integer) (defScope s_is_integer) (.ref T5) kV5 dc5 pm5 an5 cd5 ct5), sl5⟩) (c5 : PySem.W.codeIn K cd5 "is_integer" = true) (k5 : PySem.W.keepIn K (.ref f5) = true)
    (v5 : K.lookup T5 = some to5) (u5 : to5.data = .seq ti5.toArray tn5) (r5 : relAll [.non] ti5 = true)
    {f6 : Addr} {od6 an6 : Option Addr} {sl6 : Array (Option Value)} {oc6 kV6 dc6 pm6 cd6 ct6 : Value}
    (a6 : PySem.W.nsIn K mainGlobals "is_writer" = some (some (.ref f6))) (l6 : K.lookup f6 = some ⟨oc6, od6, .func (PySem.W.fnOf "is_writer" "is_writer" (defArgs s_is_writer) (defBody s_is_writer) (defScope s_is_writer) .none kV6 dc6 pm6 an6 cd6 ct6), sl6⟩) (c6 : PySem.W.codeIn K cd6 "is_writer" = true) (k6 : PySem.W.keepIn K (.ref f6) = true)
    {f7 : Addr} {od7 an7 : Option Addr} {sl7 : Array (Option Value)} {oc7 kV7 dc7 pm7 cd7 ct7 : Value}
    (a7 : PySem.W.nsIn K mainGlobals "is_run" = some (some (.ref f7))) (l7 : K.lookup f7 = some ⟨oc7, od7, .func (PySem.W.fnOf "is_run" "is_run" (defArgs s_is_run) (defBody s_is_run) (defScope s_is_run) .none kV7 dc7 pm7 an7 cd7 ct7), sl7⟩) (c7 : PySem.W.codeIn K cd7 "is_run" = true) (k7 : PySem.W.keepIn K (.ref f7) = true)
    {f8 : Addr} {od8 an8 : Option Addr} {sl8 : Array (Option Value)} {oc8 kV8 dc8 pm8 cd8 ct8 : Value}
    (a8 : PySem.W.nsIn K mainGlobals "is_well_formed" = some (some (.ref f8))) (l8 : K.lookup f8 = some ⟨oc8, od8, .func (PySem.W.fnOf "is_well_formed" "is_well_formed" (defArgs s_is_well_formed) (defBody s_is_well_formed) (defScope s_is_well_formed) .none kV8 dc8 pm8 an8 cd8 ct8), sl8⟩) (c8 : PySem.W.codeIn K cd8 "is_well_formed" = true) (k8 : PySem.W.keepIn K (.ref f8) = true)
    {f9 : Addr} {od9 an9 : Option Addr} {sl9 : Array (Option Value)} {oc9 kV9 dc9 pm9 cd9 ct9 : Value}
    (a9 : PySem.W.nsIn K mainGlobals "require_well_formed" = some (some (.ref f9))) (l9 : K.lookup f9 = some ⟨oc9, od9, .func (PySem.W.fnOf "require_well_formed" "require_well_formed" (defArgs s_require_well_formed) (defBody s_require_well_formed) (defScope s_require_well_formed) .none kV9 dc9 pm9 an9 cd9 ct9), sl9⟩) (c9 : PySem.W.codeIn K cd9 "require_well_formed" = true) (k9 : PySem.W.keepIn K (.ref f9) = true)
    {f10 : Addr} {od10 an10 : Option Addr} {sl10 : Array (Option Value)} {oc10 kV10 dc10 pm10 cd10 ct10 : Value}
    (a10 : PySem.W.nsIn K mainGlobals "append_run" = some (some (.ref f10))) (l10 : K.lookup f10 = some ⟨oc10, od10, .func (PySem.W.fnOf "append_run" "append_run" (defArgs s_append_run) (defBody s_append_run) (defScope s_append_run) .none kV10 dc10 pm10 an10 cd10 ct10), sl10⟩) (c10 : PySem.W.codeIn K cd10 "append_run" = true) (k10 : PySem.W.keepIn K (.ref f10) = true)
    {f11 : Addr} {od11 an11 : Option Addr} {sl11 : Array (Option Value)} {oc11 kV11 dc11 pm11 cd11 ct11 : Value}
    (a11 : PySem.W.nsIn K mainGlobals "is_any_line" = some (some (.ref f11))) (l11 : K.lookup f11 = some ⟨oc11, od11, .func (PySem.W.fnOf "is_any_line" "is_any_line" (defArgs s_is_any_line) (defBody s_is_any_line) (defScope s_is_any_line) .none kV11 dc11 pm11 an11 cd11 ct11), sl11⟩) (c11 : PySem.W.codeIn K cd11 "is_any_line" = true) (k11 : PySem.W.keepIn K (.ref f11) = true)
    {f12 : Addr} {od12 an12 : Option Addr} {sl12 : Array (Option Value)} {oc12 kV12 dc12 pm12 cd12 ct12 : Value}
    (a12 : PySem.W.nsIn K mainGlobals "append_line" = some (some (.ref f12))) (l12 : K.lookup f12 = some ⟨oc12, od12, .func (PySem.W.fnOf "append_line" "append_line" (defArgs s_append_line) (defBody s_append_line) (defScope s_append_line) .none kV12 dc12 pm12 an12 cd12 ct12), sl12⟩) (c12 : PySem.W.codeIn K cd12 "append_line" = true) (k12 : PySem.W.keepIn K (.ref f12) = true)
    {f13 : Addr} {od13 an13 : Option Addr} {sl13 : Array (Option Value)} {oc13 kV13 dc13 pm13 cd13 ct13 : Value}
    (a13 : PySem.W.nsIn K mainGlobals "is_prefix" = some (some (.ref f13))) (l13 : K.lookup f13 = some ⟨oc13, od13, .func (PySem.W.fnOf "is_prefix" "is_prefix" (defArgs s_is_prefix) (defBody s_is_prefix) (defScope s_is_prefix) .none kV13 dc13 pm13 an13 cd13 ct13), sl13⟩) (c13 : PySem.W.codeIn K cd13 "is_prefix" = true) (k13 : PySem.W.keepIn K (.ref f13) = true)
    {f14 : Addr} {od14 an14 : Option Addr} {sl14 : Array (Option Value)} {oc14 kV14 dc14 pm14 cd14 ct14 : Value}
    (a14 : PySem.W.nsIn K mainGlobals "_law_runs" = some (some (.ref f14))) (l14 : K.lookup f14 = some ⟨oc14, od14, .func (PySem.W.fnOf "_law_runs" "_law_runs" (defArgs s__law_runs) (defBody s__law_runs) (defScope s__law_runs) .none kV14 dc14 pm14 an14 cd14 ct14), sl14⟩) (c14 : PySem.W.codeIn K cd14 "_law_runs" = true) (k14 : PySem.W.keepIn K (.ref f14) = true)
    {f15 : Addr} {od15 an15 : Option Addr} {sl15 : Array (Option Value)} {oc15 kV15 dc15 pm15 cd15 ct15 : Value}
    (a15 : PySem.W.nsIn K mainGlobals "_law_spots" = some (some (.ref f15))) (l15 : K.lookup f15 = some ⟨oc15, od15, .func (PySem.W.fnOf "_law_spots" "_law_spots" (defArgs s__law_spots) (defBody s__law_spots) (defScope s__law_spots) .none kV15 dc15 pm15 an15 cd15 ct15), sl15⟩) (c15 : PySem.W.codeIn K cd15 "_law_spots" = true) (k15 : PySem.W.keepIn K (.ref f15) = true)
    {f16 : Addr} {od16 an16 : Option Addr} {sl16 : Array (Option Value)} {oc16 kV16 dc16 pm16 cd16 ct16 : Value}
    (a16 : PySem.W.nsIn K mainGlobals "run_length" = some (some (.ref f16))) (l16 : K.lookup f16 = some ⟨oc16, od16, .func (PySem.W.fnOf "run_length" "run_length" (defArgs s_run_length) (defBody s_run_length) (defScope s_run_length) .none kV16 dc16 pm16 an16 cd16 ct16), sl16⟩) (c16 : PySem.W.codeIn K cd16 "run_length" = true) (k16 : PySem.W.keepIn K (.ref f16) = true)
    {f17 : Addr} {od17 an17 : Option Addr} {sl17 : Array (Option Value)} {oc17 kV17 dc17 pm17 cd17 ct17 : Value}
    (a17 : PySem.W.nsIn K mainGlobals "total_length" = some (some (.ref f17))) (l17 : K.lookup f17 = some ⟨oc17, od17, .func (PySem.W.fnOf "total_length" "total_length" (defArgs s_total_length) (defBody s_total_length) (defScope s_total_length) .none kV17 dc17 pm17 an17 cd17 ct17), sl17⟩) (c17 : PySem.W.codeIn K cd17 "total_length" = true) (k17 : PySem.W.keepIn K (.ref f17) = true)
    {f18 : Addr} {od18 an18 : Option Addr} {sl18 : Array (Option Value)} {oc18 kV18 dc18 pm18 cd18 ct18 : Value}
    (a18 : PySem.W.nsIn K mainGlobals "split_at" = some (some (.ref f18))) (l18 : K.lookup f18 = some ⟨oc18, od18, .func (PySem.W.fnOf "split_at" "split_at" (defArgs s_split_at) (defBody s_split_at) (defScope s_split_at) .none kV18 dc18 pm18 an18 cd18 ct18), sl18⟩) (c18 : PySem.W.codeIn K cd18 "split_at" = true) (k18 : PySem.W.keepIn K (.ref f18) = true)
    {f19 : Addr} {od19 an19 : Option Addr} {sl19 : Array (Option Value)} {oc19 kV19 dc19 pm19 cd19 ct19 : Value}
    (a19 : PySem.W.nsIn K mainGlobals "_law_front" = some (some (.ref f19))) (l19 : K.lookup f19 = some ⟨oc19, od19, .func (PySem.W.fnOf "_law_front" "_law_front" (defArgs s__law_front) (defBody s__law_front) (defScope s__law_front) .none kV19 dc19 pm19 an19 cd19 ct19), sl19⟩) (c19 : PySem.W.codeIn K cd19 "_law_front" = true) (k19 : PySem.W.keepIn K (.ref f19) = true)
    {f20 : Addr} {od20 an20 : Option Addr} {sl20 : Array (Option Value)} {oc20 kV20 dc20 pm20 cd20 ct20 : Value}
    (a20 : PySem.W.nsIn K mainGlobals "_law_back" = some (some (.ref f20))) (l20 : K.lookup f20 = some ⟨oc20, od20, .func (PySem.W.fnOf "_law_back" "_law_back" (defArgs s__law_back) (defBody s__law_back) (defScope s__law_back) .none kV20 dc20 pm20 an20 cd20 ct20), sl20⟩) (c20 : PySem.W.codeIn K cd20 "_law_back" = true) (k20 : PySem.W.keepIn K (.ref f20) = true)
    {f21 : Addr} {od21 an21 : Option Addr} {sl21 : Array (Option Value)} {oc21 kV21 dc21 pm21 cd21 ct21 : Value}
    (a21 : PySem.W.nsIn K mainGlobals "_law_same" = some (some (.ref f21))) (l21 : K.lookup f21 = some ⟨oc21, od21, .func (PySem.W.fnOf "_law_same" "_law_same" (defArgs s__law_same) (defBody s__law_same) (defScope s__law_same) .none kV21 dc21 pm21 an21 cd21 ct21), sl21⟩) (c21 : PySem.W.codeIn K cd21 "_law_same" = true) (k21 : PySem.W.keepIn K (.ref f21) = true)
    {f22 : Addr} {od22 an22 : Option Addr} {sl22 : Array (Option Value)} {oc22 kV22 dc22 pm22 cd22 ct22 : Value}
    (a22 : PySem.W.nsIn K mainGlobals "_law_begun" = some (some (.ref f22))) (l22 : K.lookup f22 = some ⟨oc22, od22, .func (PySem.W.fnOf "_law_begun" "_law_begun" (defArgs s__law_begun) (defBody s__law_begun) (defScope s__law_begun) .none kV22 dc22 pm22 an22 cd22 ct22), sl22⟩) (c22 : PySem.W.codeIn K cd22 "_law_begun" = true) (k22 : PySem.W.keepIn K (.ref f22) = true)
    {f23 : Addr} {od23 an23 : Option Addr} {sl23 : Array (Option Value)} {oc23 kV23 dc23 pm23 cd23 ct23 : Value}
    (a23 : PySem.W.nsIn K mainGlobals "_law_cuts_right" = some (some (.ref f23))) (l23 : K.lookup f23 = some ⟨oc23, od23, .func (PySem.W.fnOf "_law_cuts_right" "_law_cuts_right" (defArgs s__law_cuts_right) (defBody s__law_cuts_right) (defScope s__law_cuts_right) .none kV23 dc23 pm23 an23 cd23 ct23), sl23⟩) (c23 : PySem.W.codeIn K cd23 "_law_cuts_right" = true) (k23 : PySem.W.keepIn K (.ref f23) = true)
    {f24 : Addr} {od24 an24 : Option Addr} {sl24 : Array (Option Value)} {oc24 kV24 dc24 pm24 cd24 ct24 : Value}
    (a24 : PySem.W.nsIn K mainGlobals "count_lines" = some (some (.ref f24))) (l24 : K.lookup f24 = some ⟨oc24, od24, .func (PySem.W.fnOf "count_lines" "count_lines" (defArgs s_count_lines) (defBody s_count_lines) (defScope s_count_lines) .none kV24 dc24 pm24 an24 cd24 ct24), sl24⟩) (c24 : PySem.W.codeIn K cd24 "count_lines" = true) (k24 : PySem.W.keepIn K (.ref f24) = true)
    {f25 : Addr} {od25 an25 : Option Addr} {sl25 : Array (Option Value)} {oc25 kV25 dc25 pm25 cd25 ct25 : Value}
    (a25 : PySem.W.nsIn K mainGlobals "law" = some (some (.ref f25))) (l25 : K.lookup f25 = some ⟨oc25, od25, .func (PySem.W.fnOf "law" "law" (defArgs s_law) (defBody s_law) (defScope s_law) .none kV25 dc25 pm25 an25 cd25 ct25), sl25⟩) (c25 : PySem.W.codeIn K cd25 "law" = true) (k25 : PySem.W.keepIn K (.ref f25) = true)
    (z0 : PySem.W.nsIn K mainGlobals "abs" = some none)
    (z1 : PySem.W.nsIn K mainGlobals "all" = some none)
    (z2 : PySem.W.nsIn K mainGlobals "any" = some none)
    (z3 : PySem.W.nsIn K mainGlobals "bool" = some none)
    (z4 : PySem.W.nsIn K mainGlobals "int" = some none)
    (z5 : PySem.W.nsIn K mainGlobals "isinstance" = some none)
    (z6 : PySem.W.nsIn K mainGlobals "len" = some none)
    (z7 : PySem.W.nsIn K mainGlobals "list" = some none)
    (z8 : PySem.W.nsIn K mainGlobals "max" = some none)
    (z9 : PySem.W.nsIn K mainGlobals "min" = some none)
    (z10 : PySem.W.nsIn K mainGlobals "range" = some none)
    (z11 : PySem.W.nsIn K mainGlobals "repr" = some none)
    (z12 : PySem.W.nsIn K mainGlobals "sorted" = some none)
    (z13 : PySem.W.nsIn K mainGlobals "str" = some none)
    (z14 : PySem.W.nsIn K mainGlobals "sum" = some none)
    (z15 : PySem.W.nsIn K mainGlobals "tuple" = some none)
    (z16 : PySem.W.nsIn K mainGlobals "zip" = some none)
    {t0 : _} (q0 : PySem.W.nsIn K mainGlobals "LETTERS" = some (some (.str "abcdefghijklmnopqrstuvwxyz" t0)))
    {t1 : _} (q1 : PySem.W.nsIn K mainGlobals "MOST_LETTERS" = some (some (.int 8 t1)))
    {t2 : _} (q2 : PySem.W.nsIn K mainGlobals "MOST_LINES" = some (some (.int 1000000000000000000000000000000 t2)))
    : ∃ fd : FuncData, (∀ (s : Shared) (v : Value), BindsTo s fd ⟨[v], []⟩ [("script", v)]) ∧ ∀ base : Heap, K.In base → base.Ns mainGlobals mg → FnG l.prog w K mg base 14 fa fd ["script"] (spD K 1 m_law) := by
  have e := hfa.symm.trans (PySem.W.mg_of X G a25)
  cases e
  have TT : Gt mg := ⟨PySem.W.mg_none_of X G z0, PySem.W.mg_none_of X G z1, PySem.W.mg_none_of X G z2, PySem.W.mg_none_of X G z3, PySem.W.mg_none_of X G z4, PySem.W.mg_none_of X G z5, PySem.W.mg_none_of X G z6, PySem.W.mg_none_of X G z7, PySem.W.mg_none_of X G z8, PySem.W.mg_none_of X G z9, PySem.W.mg_none_of X G z10, PySem.W.mg_none_of X G z11, PySem.W.mg_none_of X G z12, PySem.W.mg_none_of X G z13, PySem.W.mg_none_of X G z14, PySem.W.mg_none_of X G z15, PySem.W.mg_none_of X G z16, ⟨_, PySem.W.mg_of X G q0, ⟨_, rfl⟩⟩, ⟨_, PySem.W.mg_of X G q1, ⟨_, rfl⟩⟩, ⟨_, PySem.W.mg_of X G q2, ⟨_, rfl⟩⟩⟩
  have F0 : FunA K "_law_bowl" "_law_bowl" s__law_bowl f0 _ := ⟨oc0, od0, .none, kV0, dc0, pm0, an0, cd0, ct0, sl0, rfl, l0, c0⟩
  have F1 : FunA K "_law_dip" "_law_dip" s__law_dip f1 _ := ⟨oc1, od1, .none, kV1, dc1, pm1, an1, cd1, ct1, sl1, rfl, l1, c1⟩
  have F2 : FunA K "_law_rows" "_law_rows" s__law_rows f2 _ := ⟨oc2, od2, .none, kV2, dc2, pm2, an2, cd2, ct2, sl2, rfl, l2, c2⟩
  have F3 : FunA K "_law_put" "_law_put" s__law_put f3 _ := ⟨oc3, od3, .none, kV3, dc3, pm3, an3, cd3, ct3, sl3, rfl, l3, c3⟩
  have F4 : FunA K "extends_run" "extends_run" s_extends_run f4 _ := ⟨oc4, od4, .none, kV4, dc4, pm4, an4, cd4, ct4, sl4, rfl, l4, c4⟩
  have F5 : FunA K "is_integer" "is_integer" s_is_integer f5 _ := ⟨oc5, od5, .ref T5, kV5, dc5, pm5, an5, cd5, ct5, sl5, rfl, l5, c5⟩
  have F6 : FunA K "is_writer" "is_writer" s_is_writer f6 _ := ⟨oc6, od6, .none, kV6, dc6, pm6, an6, cd6, ct6, sl6, rfl, l6, c6⟩
  have F7 : FunA K "is_run" "is_run" s_is_run f7 _ := ⟨oc7, od7, .none, kV7, dc7, pm7, an7, cd7, ct7, sl7, rfl, l7, c7⟩
  have F8 : FunA K "is_well_formed" "is_well_formed" s_is_well_formed f8 _ := ⟨oc8, od8, .none, kV8, dc8, pm8, an8, cd8, ct8, sl8, rfl, l8, c8⟩
  have F9 : FunA K "require_well_formed" "require_well_formed" s_require_well_formed f9 _ := ⟨oc9, od9, .none, kV9, dc9, pm9, an9, cd9, ct9, sl9, rfl, l9, c9⟩
  have F10 : FunA K "append_run" "append_run" s_append_run f10 _ := ⟨oc10, od10, .none, kV10, dc10, pm10, an10, cd10, ct10, sl10, rfl, l10, c10⟩
  have F11 : FunA K "is_any_line" "is_any_line" s_is_any_line f11 _ := ⟨oc11, od11, .none, kV11, dc11, pm11, an11, cd11, ct11, sl11, rfl, l11, c11⟩
  have F12 : FunA K "append_line" "append_line" s_append_line f12 _ := ⟨oc12, od12, .none, kV12, dc12, pm12, an12, cd12, ct12, sl12, rfl, l12, c12⟩
  have F13 : FunA K "is_prefix" "is_prefix" s_is_prefix f13 _ := ⟨oc13, od13, .none, kV13, dc13, pm13, an13, cd13, ct13, sl13, rfl, l13, c13⟩
  have F14 : FunA K "_law_runs" "_law_runs" s__law_runs f14 _ := ⟨oc14, od14, .none, kV14, dc14, pm14, an14, cd14, ct14, sl14, rfl, l14, c14⟩
  have F15 : FunA K "_law_spots" "_law_spots" s__law_spots f15 _ := ⟨oc15, od15, .none, kV15, dc15, pm15, an15, cd15, ct15, sl15, rfl, l15, c15⟩
  have F16 : FunA K "run_length" "run_length" s_run_length f16 _ := ⟨oc16, od16, .none, kV16, dc16, pm16, an16, cd16, ct16, sl16, rfl, l16, c16⟩
  have F17 : FunA K "total_length" "total_length" s_total_length f17 _ := ⟨oc17, od17, .none, kV17, dc17, pm17, an17, cd17, ct17, sl17, rfl, l17, c17⟩
  have F18 : FunA K "split_at" "split_at" s_split_at f18 _ := ⟨oc18, od18, .none, kV18, dc18, pm18, an18, cd18, ct18, sl18, rfl, l18, c18⟩
  have F19 : FunA K "_law_front" "_law_front" s__law_front f19 _ := ⟨oc19, od19, .none, kV19, dc19, pm19, an19, cd19, ct19, sl19, rfl, l19, c19⟩
  have F20 : FunA K "_law_back" "_law_back" s__law_back f20 _ := ⟨oc20, od20, .none, kV20, dc20, pm20, an20, cd20, ct20, sl20, rfl, l20, c20⟩
  have F21 : FunA K "_law_same" "_law_same" s__law_same f21 _ := ⟨oc21, od21, .none, kV21, dc21, pm21, an21, cd21, ct21, sl21, rfl, l21, c21⟩
  have F22 : FunA K "_law_begun" "_law_begun" s__law_begun f22 _ := ⟨oc22, od22, .none, kV22, dc22, pm22, an22, cd22, ct22, sl22, rfl, l22, c22⟩
  have F23 : FunA K "_law_cuts_right" "_law_cuts_right" s__law_cuts_right f23 _ := ⟨oc23, od23, .none, kV23, dc23, pm23, an23, cd23, ct23, sl23, rfl, l23, c23⟩
  have F24 : FunA K "count_lines" "count_lines" s_count_lines f24 _ := ⟨oc24, od24, .none, kV24, dc24, pm24, an24, cd24, ct24, sl24, rfl, l24, c24⟩
  have F25 : FunA K "law" "law" s_law fa _ := ⟨oc25, od25, .none, kV25, dc25, pm25, an25, cd25, ct25, sl25, rfl, l25, c25⟩
  refine ⟨PySem.W.fnOf "law" "law" (defArgs s_law) (defBody s_law) (defScope s_law) .none kV25 dc25 pm25 an25 cd25 ct25, fun s v => .of_eq rfl, fun base _ _ => ?_⟩
  have B0 : Binds K _ P__law_bowl [] := .all (fd := PySem.W.fnOf "_law_bowl" "_law_bowl" (defArgs s__law_bowl) (defBody s__law_bowl) (defScope s__law_bowl) .none kV0 dc0 pm0 an0 cd0 ct0) fun us hl => match us, hl with | [_], _ => rfl
  have D__law_bowl := d__law_bowl (P := l.prog) (w := w) (K := K) (mg := mg) (base := base) TT  F0 (PySem.W.mg_of X G a0) k0 B0
  have B1 : Binds K _ P__law_dip [] := .all (fd := PySem.W.fnOf "_law_dip" "_law_dip" (defArgs s__law_dip) (defBody s__law_dip) (defScope s__law_dip) .none kV1 dc1 pm1 an1 cd1 ct1) fun us hl => match us, hl with | [_, _], _ => rfl
  have D__law_dip := d__law_dip (P := l.prog) (w := w) (K := K) (mg := mg) (base := base) TT  F1 (PySem.W.mg_of X G a1) k1 B1
  have B2 : Binds K _ P__law_rows [] := .all (fd := PySem.W.fnOf "_law_rows" "_law_rows" (defArgs s__law_rows) (defBody s__law_rows) (defScope s__law_rows) .none kV2 dc2 pm2 an2 cd2 ct2) fun us hl => match us, hl with | [_, _, _], _ => rfl
  have D__law_rows := d__law_rows (P := l.prog) (w := w) (K := K) (mg := mg) (base := base) TT D__law_dip F2 (PySem.W.mg_of X G a2) k2 B2
  have B3 : Binds K _ P__law_put [] := .all (fd := PySem.W.fnOf "_law_put" "_law_put" (defArgs s__law_put) (defBody s__law_put) (defScope s__law_put) .none kV3 dc3 pm3 an3 cd3 ct3) fun us hl => match us, hl with | [_, _], _ => rfl
  have D__law_put := d__law_put (P := l.prog) (w := w) (K := K) (mg := mg) (base := base) TT  F3 (PySem.W.mg_of X G a3) k3 B3
  have B4 : Binds K _ P_extends_run [] := .all (fd := PySem.W.fnOf "extends_run" "extends_run" (defArgs s_extends_run) (defBody s_extends_run) (defScope s_extends_run) .none kV4 dc4 pm4 an4 cd4 ct4) fun us hl => match us, hl with | [_, _], _ => rfl
  have D_extends_run := d_extends_run (P := l.prog) (w := w) (K := K) (mg := mg) (base := base) TT  F4 (PySem.W.mg_of X G a4) k4 B4
  have B5 := binds_full (.inr ⟨List.cons_ne_nil _ _, T5, to5, ti5, tn5, rfl, v5, u5, relAll_ok r5⟩) (List.cons_ne_nil _ _) (ps := P_is_integer) l5 c5 k5 (fun T kV doc pm an cdv ct us its hu hi => match us, hu, its, hi with | [_, _, _], _, [_], _ => ⟨_, rfl, rfl⟩)
  have D_is_integer := d_is_integer (P := l.prog) (w := w) (K := K) (mg := mg) (base := base) TT  F5 (PySem.W.mg_of X G a5) k5 B5
  obtain ⟨ds5_2, hv5_2, hb5_2⟩ := binds_part (ps := P_is_integer) 2 0 (.inr ⟨List.cons_ne_nil _ _, T5, to5, ti5, tn5, rfl, v5, u5, relAll_ok r5⟩) (List.cons_ne_nil _ _) l5 c5 k5 (by decide) (fun T kV doc pm an cdv ct us its hu hi => match us, hu, its, hi with | [_, _], _, [_], _ => ⟨_, rfl, rfl⟩)
  have D2_is_integer : DfD l.prog w K mg base 1 "is_integer" 3 [.none] m_is_integer := ⟨f5, _, P_is_integer, ds5_2, _, f_is_integer TT  F5, PySem.W.mg_of X G a5, k5, hb5_2, hv5_2, fun _ => (.cons .non .nil)⟩
  have B6 : Binds K _ P_is_writer [] := .all (fd := PySem.W.fnOf "is_writer" "is_writer" (defArgs s_is_writer) (defBody s_is_writer) (defScope s_is_writer) .none kV6 dc6 pm6 an6 cd6 ct6) fun us hl => match us, hl with | [_], _ => rfl
  have D_is_writer := d_is_writer (P := l.prog) (w := w) (K := K) (mg := mg) (base := base) TT  F6 (PySem.W.mg_of X G a6) k6 B6
  have B7 : Binds K _ P_is_run [] := .all (fd := PySem.W.fnOf "is_run" "is_run" (defArgs s_is_run) (defBody s_is_run) (defScope s_is_run) .none kV7 dc7 pm7 an7 cd7 ct7) fun us hl => match us, hl with | [_], _ => rfl
  have D_is_run := d_is_run (P := l.prog) (w := w) (K := K) (mg := mg) (base := base) TT D2_is_integer D_is_integer D_is_writer F7 (PySem.W.mg_of X G a7) k7 B7
  have B8 : Binds K _ P_is_well_formed [] := .all (fd := PySem.W.fnOf "is_well_formed" "is_well_formed" (defArgs s_is_well_formed) (defBody s_is_well_formed) (defScope s_is_well_formed) .none kV8 dc8 pm8 an8 cd8 ct8) fun us hl => match us, hl with | [_], _ => rfl
  have D_is_well_formed := d_is_well_formed (P := l.prog) (w := w) (K := K) (mg := mg) (base := base) TT D_extends_run D_is_run F8 (PySem.W.mg_of X G a8) k8 B8
  have B9 : Binds K _ P_require_well_formed [] := .all (fd := PySem.W.fnOf "require_well_formed" "require_well_formed" (defArgs s_require_well_formed) (defBody s_require_well_formed) (defScope s_require_well_formed) .none kV9 dc9 pm9 an9 cd9 ct9) fun us hl => match us, hl with | [_], _ => rfl
  have D_require_well_formed := d_require_well_formed (P := l.prog) (w := w) (K := K) (mg := mg) (base := base) TT D_is_well_formed F9 (PySem.W.mg_of X G a9) k9 B9
  have B10 : Binds K _ P_append_run [] := .all (fd := PySem.W.fnOf "append_run" "append_run" (defArgs s_append_run) (defBody s_append_run) (defScope s_append_run) .none kV10 dc10 pm10 an10 cd10 ct10) fun us hl => match us, hl with | [_, _], _ => rfl
  have D_append_run := d_append_run (P := l.prog) (w := w) (K := K) (mg := mg) (base := base) TT D_extends_run F10 (PySem.W.mg_of X G a10) k10 B10
  have B11 : Binds K _ P_is_any_line [] := .all (fd := PySem.W.fnOf "is_any_line" "is_any_line" (defArgs s_is_any_line) (defBody s_is_any_line) (defScope s_is_any_line) .none kV11 dc11 pm11 an11 cd11 ct11) fun us hl => match us, hl with | [_], _ => rfl
  have D_is_any_line := d_is_any_line (P := l.prog) (w := w) (K := K) (mg := mg) (base := base) TT D_is_writer D_is_integer F11 (PySem.W.mg_of X G a11) k11 B11
  have B12 : Binds K _ P_append_line [] := .all (fd := PySem.W.fnOf "append_line" "append_line" (defArgs s_append_line) (defBody s_append_line) (defScope s_append_line) .none kV12 dc12 pm12 an12 cd12 ct12) fun us hl => match us, hl with | [_, _], _ => rfl
  have D_append_line := d_append_line (P := l.prog) (w := w) (K := K) (mg := mg) (base := base) TT D_require_well_formed D_append_run D_is_any_line F12 (PySem.W.mg_of X G a12) k12 B12
  have B13 : Binds K _ P_is_prefix [] := .all (fd := PySem.W.fnOf "is_prefix" "is_prefix" (defArgs s_is_prefix) (defBody s_is_prefix) (defScope s_is_prefix) .none kV13 dc13 pm13 an13 cd13 ct13) fun us hl => match us, hl with | [_, _], _ => rfl
  have D_is_prefix := d_is_prefix (P := l.prog) (w := w) (K := K) (mg := mg) (base := base) TT D_require_well_formed F13 (PySem.W.mg_of X G a13) k13 B13
  have B14 : Binds K _ P__law_runs [] := .all (fd := PySem.W.fnOf "_law_runs" "_law_runs" (defArgs s__law_runs) (defBody s__law_runs) (defScope s__law_runs) .none kV14 dc14 pm14 an14 cd14 ct14) fun us hl => match us, hl with | [_, _, _], _ => rfl
  have D__law_runs := d__law_runs (P := l.prog) (w := w) (K := K) (mg := mg) (base := base) TT D__law_put D__law_dip F14 (PySem.W.mg_of X G a14) k14 B14
  have B15 : Binds K _ P__law_spots [] := .all (fd := PySem.W.fnOf "_law_spots" "_law_spots" (defArgs s__law_spots) (defBody s__law_spots) (defScope s__law_spots) .none kV15 dc15 pm15 an15 cd15 ct15) fun us hl => match us, hl with | [_, _], _ => rfl
  have D__law_spots := d__law_spots (P := l.prog) (w := w) (K := K) (mg := mg) (base := base) TT D__law_dip F15 (PySem.W.mg_of X G a15) k15 B15
  have B16 : Binds K _ P_run_length [] := .all (fd := PySem.W.fnOf "run_length" "run_length" (defArgs s_run_length) (defBody s_run_length) (defScope s_run_length) .none kV16 dc16 pm16 an16 cd16 ct16) fun us hl => match us, hl with | [_], _ => rfl
  have D_run_length := d_run_length (P := l.prog) (w := w) (K := K) (mg := mg) (base := base) TT  F16 (PySem.W.mg_of X G a16) k16 B16
  have B17 : Binds K _ P_total_length [] := .all (fd := PySem.W.fnOf "total_length" "total_length" (defArgs s_total_length) (defBody s_total_length) (defScope s_total_length) .none kV17 dc17 pm17 an17 cd17 ct17) fun us hl => match us, hl with | [_], _ => rfl
  have D_total_length := d_total_length (P := l.prog) (w := w) (K := K) (mg := mg) (base := base) TT D_run_length F17 (PySem.W.mg_of X G a17) k17 B17
  have B18 : Binds K _ P_split_at [] := .all (fd := PySem.W.fnOf "split_at" "split_at" (defArgs s_split_at) (defBody s_split_at) (defScope s_split_at) .none kV18 dc18 pm18 an18 cd18 ct18) fun us hl => match us, hl with | [_, _], _ => rfl
  have D_split_at := d_split_at (P := l.prog) (w := w) (K := K) (mg := mg) (base := base) TT D_require_well_formed D_is_integer D_total_length F18 (PySem.W.mg_of X G a18) k18 B18
  have B19 : Binds K _ P__law_front [] := .all (fd := PySem.W.fnOf "_law_front" "_law_front" (defArgs s__law_front) (defBody s__law_front) (defScope s__law_front) .none kV19 dc19 pm19 an19 cd19 ct19) fun us hl => match us, hl with | [_, _], _ => rfl
  have D__law_front := d__law_front (P := l.prog) (w := w) (K := K) (mg := mg) (base := base) TT  F19 (PySem.W.mg_of X G a19) k19 B19
  have B20 : Binds K _ P__law_back [] := .all (fd := PySem.W.fnOf "_law_back" "_law_back" (defArgs s__law_back) (defBody s__law_back) (defScope s__law_back) .none kV20 dc20 pm20 an20 cd20 ct20) fun us hl => match us, hl with | [_, _], _ => rfl
  have D__law_back := d__law_back (P := l.prog) (w := w) (K := K) (mg := mg) (base := base) TT  F20 (PySem.W.mg_of X G a20) k20 B20
  have B21 : Binds K _ P__law_same [] := .all (fd := PySem.W.fnOf "_law_same" "_law_same" (defArgs s__law_same) (defBody s__law_same) (defScope s__law_same) .none kV21 dc21 pm21 an21 cd21 ct21) fun us hl => match us, hl with | [_, _], _ => rfl
  have D__law_same := d__law_same (P := l.prog) (w := w) (K := K) (mg := mg) (base := base) TT  F21 (PySem.W.mg_of X G a21) k21 B21
  have B22 : Binds K _ P__law_begun [] := .all (fd := PySem.W.fnOf "_law_begun" "_law_begun" (defArgs s__law_begun) (defBody s__law_begun) (defScope s__law_begun) .none kV22 dc22 pm22 an22 cd22 ct22) fun us hl => match us, hl with | [_, _], _ => rfl
  have D__law_begun := d__law_begun (P := l.prog) (w := w) (K := K) (mg := mg) (base := base) TT D__law_front F22 (PySem.W.mg_of X G a22) k22 B22
  have B23 : Binds K _ P__law_cuts_right [] := .all (fd := PySem.W.fnOf "_law_cuts_right" "_law_cuts_right" (defArgs s__law_cuts_right) (defBody s__law_cuts_right) (defScope s__law_cuts_right) .none kV23 dc23 pm23 an23 cd23 ct23) fun us hl => match us, hl with | [_, _, _], _ => rfl
  have D__law_cuts_right := d__law_cuts_right (P := l.prog) (w := w) (K := K) (mg := mg) (base := base) TT D__law_spots D_split_at D__law_front D__law_back D_is_prefix D__law_same D__law_begun F23 (PySem.W.mg_of X G a23) k23 B23
  have B24 : Binds K _ P_count_lines [] := .all (fd := PySem.W.fnOf "count_lines" "count_lines" (defArgs s_count_lines) (defBody s_count_lines) (defScope s_count_lines) .none kV24 dc24 pm24 an24 cd24 ct24) fun us hl => match us, hl with | [_], _ => rfl
  have D_count_lines := d_count_lines (P := l.prog) (w := w) (K := K) (mg := mg) (base := base) TT D_total_length D_require_well_formed F24 (PySem.W.mg_of X G a24) k24 B24
  exact fn_ev F25 sc_law rfl rfl (by decide) (fun cdv A outer s H EE hg hr => w_law TT D__law_bowl D__law_rows D__law_put D_append_line D_is_prefix D__law_runs D__law_dip D__law_cuts_right D__law_begun D__law_same D_count_lines cdv A outer s H EE hg hr)
end K02
open PySem PySem.W PyProof.Rows L2
set_option maxRecDepth 100000 in
set_option maxHeartbeats 0 in
theorem PySem.Challenge.cw_lastcopy_k02_prefixes_and_splits_holds : PySem.Challenge.rw_lastcopy_k02_prefixes_and_splits.Holds := by
  w_on; o_law; k_head; (case hw => w_witness2)
  k_fill
  refine Ev.walk_ev (l := PySem.Challenge.rw_lastcopy_k02_prefixes_and_splits) (n := 63) (k := 14) (x := "script") (m := fun _ => K02.m_law) rfl (by decide) rfl ⟨rfl, by decide, by decide⟩ (fun w h Y => PySem.W.kIn_of Y) ?F (fun _ => K02.law_ok)
  case F =>
    intro w mg fa h KX G hmg
    refine' K02.all_mk KX G hmg ?a0 ?l0 ?c0 ?k0 ?a1 ?l1 ?c1 ?k1 ?a2 ?l2 ?c2 ?k2 ?a3 ?l3 ?c3 ?k3 ?a4 ?l4 ?c4 ?k4 ?a5 ?l5 ?c5 ?k5 ?v5 ?u5 ?r5 ?a6 ?l6 ?c6 ?k6 ?a7 ?l7 ?c7 ?k7 ?a8 ?l8 ?c8 ?k8 ?a9 ?l9 ?c9 ?k9 ?a10 ?l10 ?c10 ?k10 ?a11 ?l11 ?c11 ?k11 ?a12 ?l12 ?c12 ?k12 ?a13 ?l13 ?c13 ?k13 ?a14 ?l14 ?c14 ?k14 ?a15 ?l15 ?c15 ?k15 ?a16 ?l16 ?c16 ?k16 ?a17 ?l17 ?c17 ?k17 ?a18 ?l18 ?c18 ?k18 ?a19 ?l19 ?c19 ?k19 ?a20 ?l20 ?c20 ?k20 ?a21 ?l21 ?c21 ?k21 ?a22 ?l22 ?c22 ?k22 ?a23 ?l23 ?c23 ?k23 ?a24 ?l24 ?c24 ?k24 ?a25 ?l25 ?c25 ?k25 ?z0 ?z1 ?z2 ?z3 ?z4 ?z5 ?z6 ?z7 ?z8 ?z9 ?z10 ?z11 ?z12 ?z13 ?z14 ?z15 ?z16 ?q0 ?q1 ?q2
    (case a0 => k_is); (case l0 => k_is); (case c0 => k_is); (case k0 => k_is); (case a1 => k_is); (case l1 => k_is); (case c1 => k_is); (case k1 => k_is)
    (case a2 => k_is); (case l2 => k_is); (case c2 => k_is); (case k2 => k_is); (case a3 => k_is); (case l3 => k_is); (case c3 => k_is); (case k3 => k_is)
    (case a4 => k_is); (case l4 => k_is); (case c4 => k_is); (case k4 => k_is); (case a5 => k_is); (case l5 => k_is); (case c5 => k_is); (case k5 => k_is)
    (case v5 => k_is); (case u5 => exact rfl); (case r5 => exact rfl); (case a6 => k_is); (case l6 => k_is); (case c6 => k_is); (case k6 => k_is); (case a7 => k_is)
    (case l7 => k_is); (case c7 => k_is); (case k7 => k_is); (case a8 => k_is); (case l8 => k_is); (case c8 => k_is); (case k8 => k_is); (case a9 => k_is)
    (case l9 => k_is); (case c9 => k_is); (case k9 => k_is); (case a10 => k_is); (case l10 => k_is); (case c10 => k_is); (case k10 => k_is); (case a11 => k_is)
    (case l11 => k_is); (case c11 => k_is); (case k11 => k_is); (case a12 => k_is); (case l12 => k_is); (case c12 => k_is); (case k12 => k_is); (case a13 => k_is)
    (case l13 => k_is); (case c13 => k_is); (case k13 => k_is); (case a14 => k_is); (case l14 => k_is); (case c14 => k_is); (case k14 => k_is); (case a15 => k_is)
    (case l15 => k_is); (case c15 => k_is); (case k15 => k_is); (case a16 => k_is); (case l16 => k_is); (case c16 => k_is); (case k16 => k_is); (case a17 => k_is)
    (case l17 => k_is); (case c17 => k_is); (case k17 => k_is); (case a18 => k_is); (case l18 => k_is); (case c18 => k_is); (case k18 => k_is); (case a19 => k_is)
    (case l19 => k_is); (case c19 => k_is); (case k19 => k_is); (case a20 => k_is); (case l20 => k_is); (case c20 => k_is); (case k20 => k_is); (case a21 => k_is)
    (case l21 => k_is); (case c21 => k_is); (case k21 => k_is); (case a22 => k_is); (case l22 => k_is); (case c22 => k_is); (case k22 => k_is); (case a23 => k_is)
    (case l23 => k_is); (case c23 => k_is); (case k23 => k_is); (case a24 => k_is); (case l24 => k_is); (case c24 => k_is); (case k24 => k_is); (case a25 => k_is)
    (case l25 => k_is); (case c25 => k_is); (case k25 => k_is); (case z0 => k_is); (case z1 => k_is); (case z2 => k_is); (case z3 => k_is); (case z4 => k_is)
    (case z5 => k_is); (case z6 => k_is); (case z7 => k_is); (case z8 => k_is); (case z9 => k_is); (case z10 => k_is); (case z11 => k_is); (case z12 => k_is)
    (case z13 => k_is); (case z14 => k_is); (case z15 => k_is); (case z16 => k_is); (case q0 => k_is); (case q1 => k_is); (case q2 => k_is)
