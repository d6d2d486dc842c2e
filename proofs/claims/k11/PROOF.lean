import PyProof.Rows.All
import Wide.All
import OpenK.AllK
import Wide.FinOn
import HandS.ForMost
import HandS.WordsExc
import HandS.Defaults
import HandS.Conv
import HandS.Deep
import HandS.Style
import HandS.NoneIn
import HandS.RevTup
import HandS.TupAny
import HandS.TupMul
import HandS.IsInst
import KE.GoesNew
import KE.GoesMore
import HandS.Iter
import HandS.Flt
import KE.SortData
import HandS.SortInts
import HandS.Small
import HandS.Dict
import HandS.SetFor
import HandS.Strs
import KE.KUnpackStar
import HandS.HeadHook2
import HandS.SetBool
import PySem.Challenge.RW_roamlook_k11_lots_forth
import KE.KStateDown
import HandS.Head0
import HandS.Head1
import HandS.Head2
import HandS.HeadEnd
import HandS.HeadHook1
set_option Elab.async false
set_option linter.all false
set_option maxRecDepth 100000
set_option maxHeartbeats 2000000
/-! Rm, A: pure data with owned parts, what stands for it in the abstract heap. -/
namespace Rm
open PySem L2

inductive DK where
  | k (xs : List Key) | t (xs : List (List Key))
  deriving DecidableEq
def DK.len : DK → Nat
  | .k xs => xs.length
  | .t xs => xs.length

inductive D where
  | non | bl (b : Bool) | int (i : Int) | str (s : Str)
  | tup (xs : List D)
  | lst (o : Bool) (xs : List D)
  | dct (o : Bool) (ks : DK) (vs : List D)
  | ins (o : Bool) (c : Nat) (fs : List Nat) (vs : List D)
  | scr (ns : List Int)

/-- the addresses of the classes, the names of the attributes -/
structure G where
  K : PySem.W.Frag
  ca : Nat → Addr
  nm : Nat → Str
  inj : ∀ a b, nm a = nm b → a = b

/-- an owned node is tracked as u; a shared one too, and is marked -/
def Nd (H : Hp) (Fz : Addr → Prop) (o : Bool) (a : Addr) (u : HO) (f' f : List Addr) : Prop :=
  (o = true ∧ H a = some u ∧ f = a :: f') ∨ (o = false ∧ Fz a ∧ H a = some u ∧ f = f')

mutual
def Rep (g : G) (H : Hp) (Fz : Addr → Prop) : D → V → List Addr → Prop
  | .non, v, f => v = .non ∧ f = []
  | .bl b, v, f => v = .bl b ∧ f = []
  | .int i, v, f => v = .int i ∧ f = []
  | .str s, v, f => v = .str s ∧ f = []
  | .tup xs, v, f => ∃ a vs, v = .ref a ∧ SqT g.K H a vs ∧ Reps g H Fz xs vs f
  | .lst o xs, v, f => ∃ a vs f', v = .ref a ∧ Nd H Fz o a (.lst vs) f' f ∧ Reps g H Fz xs vs f'
  | .dct o ks xs, v, f => ∃ a vs f', v = .ref a ∧ Reps g H Fz xs vs f' ∧ ks.len = xs.length ∧
      ((∃ kk : List Key, ks = DK.k kk ∧ Nd H Fz o a (.dK (kk.zip vs)) f' f) ∨ (∃ kt : List (List Key), ks = DK.t kt ∧ Nd H Fz o a (.dT (kt.zip vs)) f' f))
  | .ins o c fs xs, v, f => ∃ a dx vs f', v = .ref a ∧ H dx = some (.own a) ∧ Reps g H Fz xs vs f' ∧ fs.length = xs.length ∧ Nd H Fz o a (.ins (g.ca c) dx ((fs.map g.nm).zip vs)) f' f
  | .scr ns, v, f => ∃ a, v = .ref a ∧ f = [] ∧ ((∃ ob, H a = some (.frz ob (.lst (ns.map V.int)))) ∨ (∀ H', SqL g.K H' a (ns.map V.int)))
def Reps (g : G) (H : Hp) (Fz : Addr → Prop) : List D → List V → List Addr → Prop
  | [], vs, f => vs = [] ∧ f = []
  | d :: ds, vs, f => ∃ v vs' f1 f2, vs = v :: vs' ∧ f = f1 ++ f2 ∧ Rep g H Fz d v f1 ∧ Reps g H Fz ds vs' f2
end

/-- induction over data -/
theorem D.ind {P : D → Prop} (non : P .non) (bl : ∀ b, P (.bl b)) (int : ∀ i, P (.int i)) (str : ∀ s, P (.str s)) (tup : ∀ xs, (∀ x ∈ xs, P x) → P (.tup xs))
    (lst : ∀ o xs, (∀ x ∈ xs, P x) → P (.lst o xs)) (dct : ∀ o ks xs, (∀ x ∈ xs, P x) → P (.dct o ks xs)) (ins : ∀ o c fs xs, (∀ x ∈ xs, P x) → P (.ins o c fs xs)) (scr : ∀ ns, P (.scr ns)) : ∀ d, P d := by
  intro d
  refine D.rec (motive_1 := P) (motive_2 := fun xs => ∀ x ∈ xs, P x) non bl int str tup lst (fun o ks xs ih => dct o ks xs ih) (fun o c fs xs ih => ins o c fs xs ih) scr ?_ ?_ d
  · intro x hx; cases hx
  · intro x xs h1 h2 y hy
    rcases List.mem_cons.mp hy with e | hy
    · rw [e]; exact h1
    · exact h2 y hy

/-! ### rows of things, each with its part of the addresses -/
def Seq3 {α β : Type} (R : α → β → List Addr → Prop) : List α → List β → List Addr → Prop
  | [], bs, f => bs = [] ∧ f = []
  | a :: as, bs, f => ∃ b bs' f1 f2, bs = b :: bs' ∧ f = f1 ++ f2 ∧ R a b f1 ∧ Seq3 R as bs' f2
theorem reps_seq {g : G} {H : Hp} {Fz : Addr → Prop} : ∀ {ds : List D} {vs : List V} {f : List Addr}, Reps g H Fz ds vs f ↔ Seq3 (Rep g H Fz) ds vs f
  | [], vs, f => by unfold Reps Seq3; exact Iff.rfl
  | d :: ds, vs, f => by
    unfold Reps Seq3
    constructor
    · rintro ⟨v, vs', f1, f2, e1, e2, h1, h2⟩
      exact ⟨v, vs', f1, f2, e1, e2, h1, reps_seq.mp h2⟩
    · rintro ⟨v, vs', f1, f2, e1, e2, h1, h2⟩
      exact ⟨v, vs', f1, f2, e1, e2, h1, reps_seq.mpr h2⟩
section
variable {α β : Type} {R R' : α → β → List Addr → Prop}
theorem Seq3.len : ∀ {as : List α} {bs : List β} {f : List Addr}, Seq3 R as bs f → as.length = bs.length
  | [], _, _, ⟨e, _⟩ => by rw [e]; rfl
  | a :: as, _, _, ⟨b, bs', f1, f2, e, _, _, h⟩ => by rw [e]; simp [Seq3.len h]
theorem Seq3.mono : ∀ {as : List α} {bs : List β} {f : List Addr}, (∀ a b f', a ∈ as → R a b f' → (∀ x ∈ f', x ∈ f) → R' a b f') → Seq3 R as bs f → Seq3 R' as bs f
  | [], _, _, _, h => h
  | a :: as, _, _, k, ⟨b, bs', f1, f2, e, ef, h1, h2⟩ =>
    ⟨b, bs', f1, f2, e, ef, k a b f1 List.mem_cons_self h1 (fun x hx => by rw [ef]; exact List.mem_append_left _ hx), Seq3.mono (fun a' b' f' ha h hs => k a' b' f' (List.mem_cons_of_mem _ ha) h fun x hx => by rw [ef]; exact List.mem_append_right _ (hs x hx)) h2⟩
theorem Seq3.nil : Seq3 R [] [] [] := ⟨rfl, rfl⟩
theorem Seq3.cons {a : α} {b : β} {as : List α} {bs : List β} {f1 f2 : List Addr} (h1 : R a b f1) (h2 : Seq3 R as bs f2) : Seq3 R (a :: as) (b :: bs) (f1 ++ f2) := ⟨b, bs, f1, f2, rfl, rfl, h1, h2⟩
theorem Seq3.append : ∀ {as as' : List α} {bs bs' : List β} {f f' : List Addr}, Seq3 R as bs f → Seq3 R as' bs' f' → Seq3 R (as ++ as') (bs ++ bs') (f ++ f')
  | [], _, _, _, _, _, ⟨e1, e2⟩, h => by rw [e1, e2]; exact h
  | a :: as, as', _, bs', _, f', ⟨b, bs1, f1, f2, e, ef, h1, h2⟩, h => by
    rw [e, ef, List.append_assoc]
    exact Seq3.cons h1 (Seq3.append h2 h)
theorem Seq3.split : ∀ {as as' : List α} {bs : List β} {f : List Addr}, Seq3 R (as ++ as') bs f → ∃ b1 b2 f1 f2, bs = b1 ++ b2 ∧ f = f1 ++ f2 ∧ Seq3 R as b1 f1 ∧ Seq3 R as' b2 f2
  | [], as', bs, f, h => ⟨[], bs, [], f, rfl, rfl, ⟨rfl, rfl⟩, h⟩
  | a :: as, as', _, _, ⟨b, bs1, f1, f2, e, ef, h1, h2⟩ => by
    obtain ⟨b1, b2, g1, g2, e1, e2, h3, h4⟩ := Seq3.split h2
    refine ⟨b :: b1, b2, f1 ++ g1, g2, ?_, ?_, Seq3.cons h1 h3, h4⟩
    · rw [e, e1]; rfl
    · rw [ef, e2, List.append_assoc]
/-- one place, looked at and replaced -/
theorem Seq3.at : ∀ {as : List α} {bs : List β} {f : List Addr} {i : Nat} {a : α}, Seq3 R as bs f → as[i]? = some a →
    ∃ b f1 f2 f3, bs[i]? = some b ∧ f = f1 ++ (f2 ++ f3) ∧ R a b f2 ∧ ∀ {R' : α → β → List Addr → Prop} {a' b' f2'}, (∀ x y f', x ∈ as → R x y f' → (∀ z ∈ f', z ∈ f1 ++ f3) → R' x y f') → R' a' b' f2' → Seq3 R' (as.set i a') (bs.set i b') (f1 ++ (f2' ++ f3))
  | [], _, _, _, _, _, h => by simp at h
  | a :: as, _, _, 0, c, ⟨b, bs', f1, f2, e, ef, h1, h2⟩, h => by
    have ec : a = c := by simpa using h
    subst ec
    refine ⟨b, [], f1, f2, by rw [e]; rfl, by rw [ef]; rfl, h1, fun {R' a' b' f2'} k h' => ?_⟩
    rw [e]
    show Seq3 R' (a' :: as) (b' :: bs') (f2' ++ f2)
    exact Seq3.cons (f1 := f2') (f2 := f2) h' (Seq3.mono (fun x y f' hx hr hs => k x y f' (List.mem_cons_of_mem _ hx) hr hs) h2)
  | a :: as, _, _, i + 1, c, ⟨b, bs', f1, f2, e, ef, h1, h2⟩, h => by
    obtain ⟨b0, g1, g2, g3, e1, e2, h3, h4⟩ := Seq3.at (i := i) h2 (by simpa using h)
    refine ⟨b0, f1 ++ g1, g2, g3, by rw [e]; simpa using e1, by rw [ef, e2, List.append_assoc], h3, fun {R' a' b' f2'} k h' => ?_⟩
    rw [e, List.append_assoc]
    refine Seq3.cons (k a b f1 List.mem_cons_self h1 fun z hz => by simp [hz]) (h4 (fun x y f' hx hr hs => k x y f' (List.mem_cons_of_mem _ hx) hr fun z hz => ?_) h')
    have := hs z hz
    simp only [List.mem_append] at this ⊢
    rcases this with z | z
    · exact .inl (.inr z)
    · exact .inr z
/-- a new thing at a place that holds nothing -/
theorem Seq3.get {as : List α} {bs : List β} {f : List Addr} {i : Nat} {a : α} (h : Seq3 R as bs f) (e : as[i]? = some a) : ∃ b f', bs[i]? = some b ∧ R a b f' ∧ ∀ z ∈ f', z ∈ f := by
  obtain ⟨b, f1, f2, f3, e1, e2, h1, _⟩ := h.at e
  exact ⟨b, f2, e1, h1, fun z hz => by rw [e2]; simp [hz]⟩
end

/-! ### what does not own, what is shared -/
mutual
def noOwn : D → Bool
  | .tup xs => noOwns xs
  | .lst o xs => !o && noOwns xs
  | .dct o _ xs => !o && noOwns xs
  | .ins o _ _ xs => !o && noOwns xs
  | _ => true
def noOwns : List D → Bool
  | [] => true
  | d :: ds => noOwn d && noOwns ds
end
mutual
def frz : D → D
  | .tup xs => .tup (frzs xs)
  | .lst _ xs => .lst false (frzs xs)
  | .dct _ ks xs => .dct false ks (frzs xs)
  | .ins _ c fs xs => .ins false c fs (frzs xs)
  | .non => .non
  | .bl b => .bl b
  | .int i => .int i
  | .str s => .str s
  | .scr ns => .scr ns
def frzs : List D → List D
  | [] => []
  | d :: ds => frz d :: frzs ds
end
theorem noOwns_all : ∀ {ds : List D}, noOwns ds = ds.all noOwn
  | [] => rfl
  | d :: ds => by unfold noOwns; rw [noOwns_all]; rfl
theorem frzs_map : ∀ {ds : List D}, frzs ds = ds.map frz
  | [] => rfl
  | d :: ds => by unfold frzs; rw [frzs_map]; rfl
theorem noOwns_mem {ds : List D} (h : noOwns ds = true) : ∀ d ∈ ds, noOwn d = true := by
  rw [noOwns_all] at h
  exact List.all_eq_true.mp h
section
variable {g : G} {H H' : Hp} {Fz Fz' : Addr → Prop}
theorem seq_nil {α β : Type} {R : α → β → List Addr → Prop} : ∀ {as : List α} {bs : List β} {f : List Addr}, Seq3 R as bs f → (∀ a b f', a ∈ as → R a b f' → f' = []) → f = []
  | [], _, _, ⟨_, e⟩, _ => e
  | a :: as, _, _, ⟨b, bs', f1, f2, e, ef, h1, h2⟩, k => by
    rw [ef, k a b f1 List.mem_cons_self h1, seq_nil h2 fun a b f' ha => k a b f' (List.mem_cons_of_mem _ ha)]
    rfl
/-- what owns nothing has no addresses of its own -/
theorem Rep.none_of : ∀ d : D, noOwn d = true → ∀ v f, Rep g H Fz d v f → f = [] := by
  refine D.ind ?_ ?_ ?_ ?_ ?_ ?_ ?_ ?_ ?_
  · intro _ v f h; unfold Rep at h; exact h.2
  · intro b _ v f h; unfold Rep at h; exact h.2
  · intro i _ v f h; unfold Rep at h; exact h.2
  · intro s _ v f h; unfold Rep at h; exact h.2
  · intro xs ih hn v f h
    unfold Rep at h
    obtain ⟨a, vs, _, _, h⟩ := h
    have hn : noOwns xs = true := by unfold noOwn at hn; exact hn
    exact seq_nil (reps_seq.mp h) fun d v f hd => ih d hd (noOwns_mem hn d hd) v f
  · intro o xs ih hn v f h
    unfold Rep at h
    obtain ⟨a, vs, f', _, nd, h⟩ := h
    have hn : (!o && noOwns xs) = true := by unfold noOwn at hn; exact hn
    obtain ⟨ho, hn⟩ := Bool.and_eq_true_iff.mp hn
    rcases nd with ⟨e, _⟩ | ⟨_, _, _, e⟩
    · rw [e] at ho; cases ho
    · rw [e]; exact seq_nil (reps_seq.mp h) fun d v f hd => ih d hd (noOwns_mem hn d hd) v f
  · intro o ks xs ih hn v f h
    unfold Rep at h
    obtain ⟨a, vs, f', _, h, _, nd⟩ := h
    have hn : (!o && noOwns xs) = true := by unfold noOwn at hn; exact hn
    obtain ⟨ho, hn⟩ := Bool.and_eq_true_iff.mp hn
    have e0 := seq_nil (reps_seq.mp h) fun d v f hd => ih d hd (noOwns_mem hn d hd) v f
    rcases nd with ⟨_, _, nd⟩ | ⟨_, _, nd⟩ <;> rcases nd with ⟨e, _⟩ | ⟨_, _, _, e⟩ <;> first | (rw [e] at ho; cases ho) | (rw [e]; exact e0)
  · intro o c fs xs ih hn v f h
    unfold Rep at h
    obtain ⟨a, dx, vs, f', _, _, h, _, nd⟩ := h
    have hn : (!o && noOwns xs) = true := by unfold noOwn at hn; exact hn
    obtain ⟨ho, hn⟩ := Bool.and_eq_true_iff.mp hn
    have e0 := seq_nil (reps_seq.mp h) fun d v f hd => ih d hd (noOwns_mem hn d hd) v f
    rcases nd with ⟨e, _⟩ | ⟨_, _, _, e⟩
    · rw [e] at ho; cases ho
    · rw [e]; exact e0
  · intro ns _ v f h; unfold Rep at h; obtain ⟨a, _, e, _⟩ := h; exact e
/-- what was read stays: owned ones as they stand, marked ones, and what never changes -/
structure Keep (H : Hp) (Fz : Addr → Prop) (f : List Addr) (H' : Hp) (Fz' : Addr → Prop) : Prop where
  own : ∀ a u, a ∈ f → H a = some u → H' a = some u
  fz : ∀ a u, Fz a → H a = some u → H' a = some u
  fix : ∀ a u, ¬ Mut (some u) → H a = some u → H' a = some u
  mrk : ∀ a, Fz a → Fz' a
theorem Keep.sub {f f' : List Addr} (k : Keep H Fz f H' Fz') (h : ∀ a ∈ f', a ∈ f) : Keep H Fz f' H' Fz' := ⟨fun a u ha => k.own a u (h a ha), k.fz, k.fix, k.mrk⟩
theorem Keep.sqt {f : List Addr} (k : Keep H Fz f H' Fz') {K : PySem.W.Frag} {a : Addr} {vs : List V} (h : SqT K H a vs) : SqT K H' a vs := by
  rcases h with (h | ⟨o, h⟩) | h
  · exact .inl (.inl (k.fix _ _ (fun z => z) h))
  · exact .inl (.inr ⟨o, k.fix _ _ (fun z => z) h⟩)
  · exact .inr h
theorem Keep.nd {f f' f0 : List Addr} {o : Bool} {a : Addr} {u : HO} (k : Keep H Fz f H' Fz') (hs : ∀ x ∈ f0, x ∈ f) (h : Nd H Fz o a u f' f0) : Nd H' Fz' o a u f' f0 ∧ ∀ x ∈ f', x ∈ f := by
  rcases h with ⟨e, h, ef⟩ | ⟨e, h1, h2, ef⟩
  · exact ⟨.inl ⟨e, k.own a u (hs a (by rw [ef]; exact List.mem_cons_self)) h, ef⟩, fun x hx => hs x (by rw [ef]; exact List.mem_cons_of_mem _ hx)⟩
  · exact ⟨.inr ⟨e, k.mrk a h1, k.fz a u h1 h2, ef⟩, fun x hx => hs x (by rw [ef]; exact hx)⟩
theorem Rep.keep : ∀ d : D, ∀ v f, Keep H Fz f H' Fz' → Rep g H Fz d v f → Rep g H' Fz' d v f := by
  have sq : ∀ (xs : List D), (∀ x ∈ xs, ∀ v f, Keep H Fz f H' Fz' → Rep g H Fz x v f → Rep g H' Fz' x v f) → ∀ vs f, Keep H Fz f H' Fz' → Reps g H Fz xs vs f → Reps g H' Fz' xs vs f := fun xs ih vs f k h =>
    reps_seq.mpr (Seq3.mono (fun a b f' ha hr hs => ih a ha b f' (k.sub hs) hr) (reps_seq.mp h))
  refine D.ind ?_ ?_ ?_ ?_ ?_ ?_ ?_ ?_ ?_
  · intro v f _ h; unfold Rep at h ⊢; exact h
  · intro b v f _ h; unfold Rep at h ⊢; exact h
  · intro i v f _ h; unfold Rep at h ⊢; exact h
  · intro s v f _ h; unfold Rep at h ⊢; exact h
  · intro xs ih v f k h
    unfold Rep at h ⊢
    obtain ⟨a, vs, e, q, h⟩ := h
    exact ⟨a, vs, e, k.sqt q, sq xs ih vs f k h⟩
  · intro o xs ih v f k h
    unfold Rep at h ⊢
    obtain ⟨a, vs, f', e, nd, h⟩ := h
    obtain ⟨nd', hs⟩ := k.nd (fun _ z => z) nd
    exact ⟨a, vs, f', e, nd', sq xs ih vs f' (k.sub hs) h⟩
  · intro o ks xs ih v f k h
    unfold Rep at h ⊢
    obtain ⟨a, vs, f', e, h, hl, nd⟩ := h
    rcases nd with ⟨kk, ek, nd⟩ | ⟨kk, ek, nd⟩
    · obtain ⟨nd', hs⟩ := k.nd (fun _ z => z) nd
      exact ⟨a, vs, f', e, sq xs ih vs f' (k.sub hs) h, hl, .inl ⟨kk, ek, nd'⟩⟩
    · obtain ⟨nd', hs⟩ := k.nd (fun _ z => z) nd
      exact ⟨a, vs, f', e, sq xs ih vs f' (k.sub hs) h, hl, .inr ⟨kk, ek, nd'⟩⟩
  · intro o c fs xs ih v f k h
    unfold Rep at h ⊢
    obtain ⟨a, dx, vs, f', e, hd, h, hl, nd⟩ := h
    obtain ⟨nd', hs⟩ := k.nd (fun _ z => z) nd
    exact ⟨a, dx, vs, f', e, k.fix _ _ (fun z => z) hd, sq xs ih vs f' (k.sub hs) h, hl, nd'⟩
  · intro ns v f k h
    unfold Rep at h ⊢
    obtain ⟨a, e, ef, q⟩ := h
    refine ⟨a, e, ef, ?_⟩
    rcases q with ⟨ob, q⟩ | q
    · exact .inl ⟨ob, k.fix _ _ (fun z => z) q⟩
    · exact .inr q
/-- owned addresses are written to -/
theorem Rep.mut : ∀ d : D, ∀ v f, Rep g H Fz d v f → ∀ a ∈ f, Mut (H a) := by
  have sq : ∀ (xs : List D), (∀ x ∈ xs, ∀ v f, Rep g H Fz x v f → ∀ a ∈ f, Mut (H a)) → ∀ vs f, Reps g H Fz xs vs f → ∀ a ∈ f, Mut (H a) := by
    intro xs ih vs f h a ha
    replace h := reps_seq.mp h
    induction xs generalizing vs f with
    | nil => obtain ⟨_, e⟩ := h; rw [e] at ha; cases ha
    | cons x xs ih2 =>
      obtain ⟨b, bs', f1, f2, e, ef, h1, h2⟩ := h
      rw [ef] at ha
      rcases List.mem_append.mp ha with ha | ha
      · exact ih x List.mem_cons_self b f1 h1 a ha
      · exact ih2 (fun y hy => ih y (List.mem_cons_of_mem _ hy)) bs' f2 ha h2
  have nd : ∀ {o a u f' f}, Nd H Fz o a u f' f → Mut (some u) → (∀ x ∈ f', Mut (H x)) → ∀ x ∈ f, Mut (H x) := by
    rintro o a u f' f (⟨_, h, ef⟩ | ⟨_, _, _, ef⟩) hm k x hx
    · rw [ef] at hx
      rcases List.mem_cons.mp hx with e | hx
      · rw [e, h]; exact hm
      · exact k x hx
    · rw [ef] at hx; exact k x hx
  refine D.ind ?_ ?_ ?_ ?_ ?_ ?_ ?_ ?_ ?_
  · intro v f h a ha; unfold Rep at h; rw [h.2] at ha; cases ha
  · intro b v f h a ha; unfold Rep at h; rw [h.2] at ha; cases ha
  · intro i v f h a ha; unfold Rep at h; rw [h.2] at ha; cases ha
  · intro s v f h a ha; unfold Rep at h; rw [h.2] at ha; cases ha
  · intro xs ih v f h
    unfold Rep at h
    obtain ⟨a, vs, _, _, h⟩ := h
    exact sq xs ih vs f h
  · intro o xs ih v f h
    unfold Rep at h
    obtain ⟨a, vs, f', _, n, h⟩ := h
    exact nd n True.intro (sq xs ih vs f' h)
  · intro o ks xs ih v f h
    unfold Rep at h
    obtain ⟨a, vs, f', _, h, _, n⟩ := h
    rcases n with ⟨_, _, n⟩ | ⟨_, _, n⟩
    · exact nd n True.intro (sq xs ih vs f' h)
    · exact nd n True.intro (sq xs ih vs f' h)
  · intro o c fs xs ih v f h
    unfold Rep at h
    obtain ⟨a, dx, vs, f', _, _, h, _, n⟩ := h
    exact nd n True.intro (sq xs ih vs f' h)
  · intro ns v f h a ha; unfold Rep at h; obtain ⟨_, _, e, _⟩ := h; rw [e] at ha; cases ha
/-- shared from now on -/
theorem Rep.frz : ∀ d : D, ∀ v f, (∀ a, Fz a ∨ a ∈ f → Fz' a) → Rep g H Fz d v f → Rep g H Fz' (Rm.frz d) v [] := by
  have sq : ∀ (xs : List D), (∀ x ∈ xs, ∀ v f, (∀ a, Fz a ∨ a ∈ f → Fz' a) → Rep g H Fz x v f → Rep g H Fz' (Rm.frz x) v []) → ∀ vs f, (∀ a, Fz a ∨ a ∈ f → Fz' a) → Reps g H Fz xs vs f → Reps g H Fz' (frzs xs) vs [] := by
    intro xs ih vs f k h
    induction xs generalizing vs f with
    | nil =>
      unfold Reps at h
      unfold frzs Reps
      exact ⟨h.1, rfl⟩
    | cons x xs ih2 =>
      unfold Reps at h
      obtain ⟨b, bs', f1, f2, e, ef, h1, h2⟩ := h
      unfold frzs Reps
      exact ⟨b, bs', [], [], e, rfl, ih x List.mem_cons_self b f1 (fun a ha => k a (ha.imp id fun z => by rw [ef]; exact List.mem_append_left _ z)) h1, ih2 (fun y hy => ih y (List.mem_cons_of_mem _ hy)) bs' f2 (fun a ha => k a (ha.imp id fun z => by rw [ef]; exact List.mem_append_right _ z)) h2⟩
  have nd : ∀ {o a u f' f}, Nd H Fz o a u f' f → (∀ a, Fz a ∨ a ∈ f → Fz' a) → Nd H Fz' false a u [] [] ∧ (∀ a, Fz a ∨ a ∈ f' → Fz' a) := by
    rintro o a u f' f (⟨_, h, ef⟩ | ⟨_, h1, h2, ef⟩) k
    · exact ⟨.inr ⟨rfl, k a (.inr (by rw [ef]; exact List.mem_cons_self)), h, rfl⟩, fun b hb => k b (hb.imp id fun z => by rw [ef]; exact List.mem_cons_of_mem _ z)⟩
    · exact ⟨.inr ⟨rfl, k a (.inl h1), h2, rfl⟩, fun b hb => k b (hb.imp id fun z => by rw [ef]; exact z)⟩
  refine D.ind ?_ ?_ ?_ ?_ ?_ ?_ ?_ ?_ ?_
  · intro v f _ h; unfold Rep at h; unfold Rm.frz Rep; exact ⟨h.1, rfl⟩
  · intro b v f _ h; unfold Rep at h; unfold Rm.frz Rep; exact ⟨h.1, rfl⟩
  · intro i v f _ h; unfold Rep at h; unfold Rm.frz Rep; exact ⟨h.1, rfl⟩
  · intro s v f _ h; unfold Rep at h; unfold Rm.frz Rep; exact ⟨h.1, rfl⟩
  · intro xs ih v f k h
    unfold Rep at h; unfold Rm.frz Rep
    obtain ⟨a, vs, e, q, h⟩ := h
    exact ⟨a, vs, e, q, sq xs ih vs f k h⟩
  · intro o xs ih v f k h
    unfold Rep at h; unfold Rm.frz Rep
    obtain ⟨a, vs, f', e, n, h⟩ := h
    obtain ⟨n', k'⟩ := nd n k
    exact ⟨a, vs, [], e, n', sq xs ih vs f' k' h⟩
  · intro o ks xs ih v f k h
    unfold Rep at h; unfold Rm.frz Rep
    obtain ⟨a, vs, f', e, h, hl, n⟩ := h
    have hl' : ks.len = (frzs xs).length := by rw [frzs_map, List.length_map]; exact hl
    rcases n with ⟨kk, ek, n⟩ | ⟨kk, ek, n⟩
    · obtain ⟨n', k'⟩ := nd n k
      exact ⟨a, vs, [], e, sq xs ih vs f' k' h, hl', .inl ⟨kk, ek, n'⟩⟩
    · obtain ⟨n', k'⟩ := nd n k
      exact ⟨a, vs, [], e, sq xs ih vs f' k' h, hl', .inr ⟨kk, ek, n'⟩⟩
  · intro o c fs xs ih v f k h
    unfold Rep at h; unfold Rm.frz Rep
    obtain ⟨a, dx, vs, f', e, hd, h, hl, n⟩ := h
    have hl' : fs.length = (frzs xs).length := by rw [frzs_map, List.length_map]; exact hl
    obtain ⟨n', k'⟩ := nd n k
    exact ⟨a, dx, vs, [], e, hd, sq xs ih vs f' k' h, hl', n'⟩
  · intro ns v f _ h
    unfold Rep at h; unfold Rm.frz Rep
    obtain ⟨a, e, _, q⟩ := h
    exact ⟨a, e, rfl, q⟩
end
theorem frz_noOwn : ∀ d : D, noOwn (frz d) = true := by
  have sq : ∀ xs : List D, (∀ x ∈ xs, noOwn (frz x) = true) → noOwns (frzs xs) = true := fun xs ih => by
    rw [noOwns_all, frzs_map, List.all_map, List.all_eq_true]
    exact ih
  refine D.ind rfl (fun _ => rfl) (fun _ => rfl) (fun _ => rfl) ?_ ?_ ?_ ?_ (fun _ => rfl)
  · intro xs ih; unfold frz noOwn; exact sq xs ih
  · intro o xs ih; unfold frz noOwn; rw [sq xs ih]; rfl
  · intro o ks xs ih; unfold frz noOwn; rw [sq xs ih]; rfl
  · intro o c fs xs ih; unfold frz noOwn; rw [sq xs ih]; rfl
theorem frz_of : ∀ d : D, noOwn d = true → frz d = d := by
  have sq : ∀ xs : List D, (∀ x ∈ xs, noOwn x = true → frz x = x) → noOwns xs = true → frzs xs = xs := fun xs ih h => by
    rw [frzs_map]
    have := noOwns_mem h
    exact (List.map_congr_left fun x hx => ih x hx (this x hx)).trans (List.map_id _)
  refine D.ind (fun _ => rfl) (fun _ _ => rfl) (fun _ _ => rfl) (fun _ _ => rfl) ?_ ?_ ?_ ?_ (fun _ _ => rfl)
  · intro xs ih h; unfold noOwn at h; unfold frz; rw [sq xs ih h]
  · intro o xs ih h; unfold noOwn at h; obtain ⟨h1, h2⟩ := Bool.and_eq_true_iff.mp h; unfold frz; rw [sq xs ih h2]; cases o <;> first | rfl | cases h1
  · intro o ks xs ih h; unfold noOwn at h; obtain ⟨h1, h2⟩ := Bool.and_eq_true_iff.mp h; unfold frz; rw [sq xs ih h2]; cases o <;> first | rfl | cases h1
  · intro o c fs xs ih h; unfold noOwn at h; obtain ⟨h1, h2⟩ := Bool.and_eq_true_iff.mp h; unfold frz; rw [sq xs ih h2]; cases o <;> first | rfl | cases h1
end Rm
set_option Elab.async false
set_option linter.all false
set_option maxRecDepth 100000
set_option maxHeartbeats 2000000
/-! Rm, B: what the slots hold, and how that goes on. -/
namespace Rm
open PySem L2

abbrev Env := List (Option D)
def RepO (g : G) (H : Hp) (Fz : Addr → Prop) : Option D → Option V → List Addr → Prop
  | none, _, f => f = []
  | some d, o, f => ∃ v, o = some v ∧ Rep g H Fz d v f

structure SRel (g : G) (Fz : Addr → Prop) (ρ : Env) (σ : St) (H : Hp) (fp : List Addr) : Prop where
  reps : Seq3 (RepO g H Fz) ρ σ fp
  nd : fp.Nodup
  dj : ∀ a ∈ fp, ¬ Fz a
  th : ∀ a, Fz a → H a ≠ none

structure Ext (H : Hp) (Fz : Addr → Prop) (fp : List Addr) (H' : Hp) (Fz' : Addr → Prop) (fp' : List Addr) : Prop where
  keep : ∀ b o, H b = some o → b ∉ fp → H' b = some o
  there : ∀ b, H b ≠ none → H' b ≠ none
  mrk : ∀ b, Fz b → Fz' b
  new : ∀ b, b ∈ fp' → b ∈ fp ∨ H b = none
  fzn : ∀ b, Fz' b → Fz b ∨ b ∈ fp ∨ H b = none

section
variable {g : G} {H H1 H2 H' : Hp} {Fz Fz1 Fz2 Fz' : Addr → Prop} {fp fp1 fp2 fp' : List Addr} {ρ ρ' : Env} {σ σ' : St}
theorem Ext.refl (h : ∀ a ∈ fp', a ∈ fp) : Ext H Fz fp H Fz fp' := ⟨fun _ _ e _ => e, fun _ e => e, fun _ e => e, fun b hb => .inl (h b hb), fun _ e => .inl e⟩
theorem Ext.rfl' : Ext H Fz fp H Fz fp := Ext.refl fun _ h => h
theorem none_back {b : Addr} (t : ∀ b, H b ≠ none → H1 b ≠ none) (h : H1 b = none) : H b = none := by
  cases e : H b with
  | none => rfl
  | some o => exact absurd h (t b (by rw [e]; exact Option.some_ne_none o))
theorem Ext.trans (a : Ext H Fz fp H1 Fz1 fp1) (b : Ext H1 Fz1 fp1 H2 Fz2 fp2) : Ext H Fz fp H2 Fz2 fp2 where
  keep := fun c o e hc => by
    refine b.keep c o (a.keep c o e hc) fun z => ?_
    rcases a.new c z with z | z
    · exact hc z
    · rw [e] at z; cases z
  there := fun c e => b.there c (a.there c e)
  mrk := fun c e => b.mrk c (a.mrk c e)
  new := fun c hc => by
    rcases b.new c hc with z | z
    · exact a.new c z
    · exact .inr (none_back a.there z)
  fzn := fun c hc => by
    rcases b.fzn c hc with z | z | z
    · exact a.fzn c z
    · rcases a.new c z with z | z
      · exact .inr (.inl z)
      · exact .inr (.inr z)
    · exact .inr (.inr (none_back a.there z))
theorem Ext.shrink (a : Ext H Fz fp H1 Fz1 fp1) (h : ∀ x ∈ fp2, x ∈ fp1) : Ext H Fz fp H1 Fz1 fp2 := ⟨a.keep, a.there, a.mrk, fun b hb => a.new b (h b hb), a.fzn⟩
/-- more is held aside than before -/
theorem Ext.wide (a : Ext H Fz fp H1 Fz1 fp1) (h : ∀ x ∈ fp, x ∈ fp2) : Ext H Fz fp2 H1 Fz1 fp1 :=
  ⟨fun b o e hb => a.keep b o e fun z => hb (h b z), a.there, a.mrk, fun b hb => (a.new b hb).imp (h b) id, fun b hb => (a.fzn b hb).imp id fun z => z.imp (h b) id⟩
theorem Ext.framed {f : List Addr} (a : Ext H Fz fp H1 Fz1 fp1) : Ext H Fz (f ++ fp) H1 Fz1 (f ++ fp1) :=
  ⟨fun b o e hb => a.keep b o e fun z => hb (List.mem_append_right _ z), a.there, a.mrk, fun b hb => by
    rcases List.mem_append.mp hb with z | z
    · exact .inl (List.mem_append_left _ z)
    · exact (a.new b z).imp (List.mem_append_right _) id, fun b hb => (a.fzn b hb).imp id fun z => z.imp (List.mem_append_right _) id⟩
theorem Ext.framedR {f : List Addr} (a : Ext H Fz fp H1 Fz1 fp1) : Ext H Fz (fp ++ f) H1 Fz1 (fp1 ++ f) :=
  ⟨fun b o e hb => a.keep b o e fun z => hb (List.mem_append_left _ z), a.there, a.mrk, fun b hb => by
    rcases List.mem_append.mp hb with z | z
    · exact (a.new b z).imp (List.mem_append_left _) id
    · exact .inl (List.mem_append_right _ z), fun b hb => (a.fzn b hb).imp id fun z => z.imp (List.mem_append_left _) id⟩

theorem RepO.mut {x : Option D} {o : Option V} {f : List Addr} (h : RepO g H Fz x o f) : ∀ a ∈ f, Mut (H a) := by
  cases x with
  | none => have e : f = [] := h; rw [e]; intro a ha; cases ha
  | some d => obtain ⟨v, _, h⟩ := h; exact Rep.mut d v f h
theorem RepO.keep {x : Option D} {o : Option V} {f : List Addr} (k : Keep H Fz f H' Fz') (h : RepO g H Fz x o f) : RepO g H' Fz' x o f := by
  cases x with
  | none => exact h
  | some d => obtain ⟨v, e, h⟩ := h; exact ⟨v, e, Rep.keep d v f k h⟩
theorem seq_mut : ∀ {ρ : Env} {σ : St} {fp : List Addr}, Seq3 (RepO g H Fz) ρ σ fp → ∀ a ∈ fp, Mut (H a)
  | [], _, _, ⟨_, e⟩, a, ha => by rw [e] at ha; cases ha
  | x :: ρ, _, _, ⟨b, bs', f1, f2, e, ef, h1, h2⟩, a, ha => by
    rw [ef] at ha
    rcases List.mem_append.mp ha with ha | ha
    · exact h1.mut a ha
    · exact seq_mut h2 a ha
theorem SRel.mut (r : SRel g Fz ρ σ H fp) : ∀ a ∈ fp, Mut (H a) := seq_mut r.reps
theorem SRel.len (r : SRel g Fz ρ σ H fp) : ρ.length = σ.length := r.reps.len
theorem SRel.tracked (r : SRel g Fz ρ σ H fp) : ∀ a ∈ fp, H a ≠ none := fun a ha z => by have := r.mut a ha; rw [z] at this; exact this
/-- what stands apart stays -/
theorem Ext.keeps {f : List Addr} (a : Ext H Fz fp H1 Fz1 fp1) (m : ∀ b ∈ fp, Mut (H b)) (z : ∀ b ∈ fp, ¬ Fz b) (d : ∀ b ∈ f, b ∉ fp) : Keep H Fz f H1 Fz1 :=
  ⟨fun b u hb e => a.keep b u e (d b hb), fun b u hb e => a.keep b u e fun q => z b q hb, fun b u hm e => a.keep b u e fun q => hm (by have := m b q; rw [e] at this; exact this), a.mrk⟩
theorem seq_keep {f : List Addr} (k : Keep H Fz f H1 Fz1) (h : Seq3 (RepO g H Fz) ρ σ f) : Seq3 (RepO g H1 Fz1) ρ σ f :=
  Seq3.mono (fun _ _ _ _ hr hs => RepO.keep (k.sub hs) hr) h
/-- some slots aside, ahead of the others -/
theorem SRel.frame {xs zs : Env} {ys ws : St} (h : SRel g Fz (xs ++ ρ) (ys ++ σ) H fp) (hl : xs.length = ys.length) :
    ∃ f1 fp1, fp = f1 ++ fp1 ∧ SRel g Fz xs ys H f1 ∧ SRel g Fz ρ σ H fp1 ∧ ∀ {H' : Hp} {Fz' : Addr → Prop} {fp2 : List Addr} {zs : Env} {ws : St}, Ext H Fz fp1 H' Fz' fp2 → SRel g Fz' zs ws H' fp2 →
      SRel g Fz' (xs ++ zs) (ys ++ ws) H' (f1 ++ fp2) ∧ Ext H Fz fp H' Fz' (f1 ++ fp2) := by
  obtain ⟨b1, b2, f1, f2, e1, e2, h1, h2⟩ := h.reps.split
  have eb : b1 = ys ∧ b2 = σ := by
    have l1 := h1.len
    exact List.append_inj' e1.symm (by have := congrArg List.length e1; simp only [List.length_append] at this; omega)
  obtain ⟨rfl, rfl⟩ := eb
  have nd := h.nd
  rw [e2] at nd
  obtain ⟨n1, n2, n3⟩ := List.nodup_append.mp nd
  have m2 := seq_mut h2
  refine ⟨f1, f2, e2, ⟨h1, n1, fun a ha => h.dj a (by rw [e2]; exact List.mem_append_left _ ha), h.th⟩, ⟨h2, n2, fun a ha => h.dj a (by rw [e2]; exact List.mem_append_right _ ha), h.th⟩, fun {H' Fz' fp2 zs ws} a r => ⟨?_, by rw [e2]; exact a.framed⟩⟩
  have m1 := seq_mut h1
  have nn : ∀ b ∈ f1, b ∉ fp2 := fun b hb z => by
    rcases a.new b z with z | z
    · exact n3 b hb b z rfl
    · have := m1 b hb; rw [z] at this; exact this
  refine ⟨Seq3.append (seq_keep (a.keeps m2 (fun b hb => h.dj b (by rw [e2]; exact List.mem_append_right _ hb)) fun b hb z => n3 b hb b z rfl) h1) r.reps, List.nodup_append.mpr ⟨n1, r.nd, fun b hb c hc e => nn b hb (e ▸ hc)⟩, fun b hb => ?_, r.th⟩
  rcases List.mem_append.mp hb with hb | hb
  · intro z
    rcases a.fzn b z with z | z | z
    · exact h.dj b (by rw [e2]; exact List.mem_append_left _ hb) z
    · exact n3 b hb b z rfl
    · have := m1 b hb; rw [z] at this; exact this
  · exact r.dj b hb
/-- some slots aside, behind the others -/
theorem SRel.frameR {xs : Env} {ys : St} (h : SRel g Fz (xs ++ ρ) (ys ++ σ) H fp) (hl : xs.length = ys.length) :
    ∃ fp1 f2, fp = fp1 ++ f2 ∧ SRel g Fz xs ys H fp1 ∧ SRel g Fz ρ σ H f2 ∧ ∀ {H' : Hp} {Fz' : Addr → Prop} {fp2 : List Addr} {zs : Env} {ws : St}, Ext H Fz fp1 H' Fz' fp2 → SRel g Fz' zs ws H' fp2 →
      SRel g Fz' (zs ++ ρ) (ws ++ σ) H' (fp2 ++ f2) ∧ Ext H Fz fp H' Fz' (fp2 ++ f2) := by
  obtain ⟨b1, b2, f1, f2, e1, e2, h1, h2⟩ := h.reps.split
  have eb : b1 = ys ∧ b2 = σ := by
    have l1 := h1.len
    exact List.append_inj' e1.symm (by have := congrArg List.length e1; simp only [List.length_append] at this; omega)
  obtain ⟨rfl, rfl⟩ := eb
  have nd := h.nd
  rw [e2] at nd
  obtain ⟨n1, n2, n3⟩ := List.nodup_append.mp nd
  have m2 := seq_mut h2
  refine ⟨f1, f2, e2, ⟨h1, n1, fun a ha => h.dj a (by rw [e2]; exact List.mem_append_left _ ha), h.th⟩, ⟨h2, n2, fun a ha => h.dj a (by rw [e2]; exact List.mem_append_right _ ha), h.th⟩, fun {H' Fz' fp2 zs ws} a r => ⟨?_, by rw [e2]; exact a.framedR⟩⟩
  have m1 := seq_mut h1
  have nn : ∀ b ∈ f2, b ∉ fp2 := fun b hb z => by
    rcases a.new b z with z | z
    · exact n3 b z b hb rfl
    · have := m2 b hb; rw [z] at this; exact this
  refine ⟨Seq3.append r.reps (seq_keep (a.keeps m1 (fun b hb => h.dj b (by rw [e2]; exact List.mem_append_left _ hb)) fun b hb z => n3 b z b hb rfl) h2), List.nodup_append.mpr ⟨r.nd, n2, fun b hb c hc e => nn c hc (e ▸ hb)⟩, fun b hb => ?_, r.th⟩
  rcases List.mem_append.mp hb with hb | hb
  · exact r.dj b hb
  · intro z
    rcases a.fzn b z with z | z | z
    · exact h.dj b (by rw [e2]; exact List.mem_append_right _ hb) z
    · exact n3 b z b hb rfl
    · have := m2 b hb; rw [z] at this; exact this
/-- one slot ahead -/
theorem SRel.frame1 {x : Option D} {y : Option V} (h : SRel g Fz (x :: ρ) (y :: σ) H fp) :
    ∃ f1 fp1, fp = f1 ++ fp1 ∧ RepO g H Fz x y f1 ∧ SRel g Fz ρ σ H fp1 ∧ ∀ {H' : Hp} {Fz' : Addr → Prop} {fp2 : List Addr} {zs : Env} {ws : St}, Ext H Fz fp1 H' Fz' fp2 → SRel g Fz' zs ws H' fp2 →
      SRel g Fz' (x :: zs) (y :: ws) H' (f1 ++ fp2) ∧ Ext H Fz fp H' Fz' (f1 ++ fp2) := by
  obtain ⟨f1, fp1, e, h1, h2, k⟩ := SRel.frame (xs := [x]) (ys := [y]) (zs := []) (ws := []) h rfl
  obtain ⟨b, bs, g1, g2, eb, ef, hr, hn⟩ := h1.reps
  obtain ⟨_, rfl⟩ := hn
  have eb : y = b := by injection eb
  subst eb
  rw [List.append_nil] at ef
  subst ef
  exact ⟨_, fp1, e, hr, h2, k⟩
/-- a part of the slots' things is let go -/
theorem SRel.drop1 {x : Option D} {y : Option V} (h : SRel g Fz (x :: ρ) (y :: σ) H fp) : ∃ fp1, SRel g Fz ρ σ H fp1 ∧ ∀ a ∈ fp1, a ∈ fp := by
  obtain ⟨f1, fp1, e, _, h2, _⟩ := h.frame1
  exact ⟨fp1, h2, fun a ha => by rw [e]; exact List.mem_append_right _ ha⟩
theorem SRel.drops {xs : Env} {ys : St} (h : SRel g Fz (xs ++ ρ) (ys ++ σ) H fp) (hl : xs.length = ys.length) : ∃ fp1, SRel g Fz ρ σ H fp1 ∧ ∀ a ∈ fp1, a ∈ fp := by
  obtain ⟨f1, fp1, e, _, h2, _⟩ := SRel.frame (zs := []) (ws := []) h hl
  exact ⟨fp1, h2, fun a ha => by rw [e]; exact List.mem_append_right _ ha⟩
theorem perm_swap (a b c : List Addr) : (a ++ (b ++ c)).Perm (b ++ (a ++ c)) := by
  rw [← List.append_assoc, ← List.append_assoc]
  exact (List.perm_append_comm).append_right c
/-- a slot's thing moved ahead of all -/
theorem SRel.move {i : Nat} {d : D} (h : SRel g Fz ρ σ H fp) (e : ρ[i]? = some (some d)) : ∃ v fp', σ[i]? = some (some v) ∧ SRel g Fz (some d :: ρ.set i none) (some v :: σ) H fp' ∧ (∀ a, a ∈ fp' ↔ a ∈ fp) := by
  obtain ⟨o, f1, f2, f3, e1, ef, ⟨v, ev, hr⟩, k⟩ := h.reps.at e
  subst ev
  have q := k (R' := RepO g H Fz) (a' := none) (b' := some v) (f2' := []) (fun _ _ _ _ h _ => h) rfl
  have es : σ.set i (some v) = σ := by
    apply List.ext_getElem?
    intro j
    by_cases hj : i = j
    · subst hj
      rw [List.getElem?_set_self (List.getElem?_eq_some_iff.mp e1).1, e1]
    · rw [List.getElem?_set_ne hj]
  rw [es] at q
  have pm := perm_swap f1 f2 f3
  refine ⟨v, f2 ++ (f1 ++ ([] ++ f3)), e1, ⟨Seq3.cons ⟨v, rfl, hr⟩ q, ?_, ?_, h.th⟩, fun a => by rw [ef]; simp only [List.mem_append, List.nil_append]; constructor <;> (rintro (z | z | z) <;> simp [z])⟩
  · rw [List.nil_append]
    exact (pm.nodup_iff).mp (by rw [← ef]; exact h.nd)
  · intro a ha
    exact h.dj a (by rw [ef]; exact (pm.mem_iff).mpr (by simpa using ha))
/-- a slot gets the thing ahead of all -/
theorem SRel.put {i : Nat} {x : Option D} {y : Option V} (h : SRel g Fz (x :: ρ) (y :: σ) H fp) (hi : i < ρ.length) : ∃ fp', SRel g Fz (ρ.set i x) (σ.set i y) H fp' ∧ ∀ a ∈ fp', a ∈ fp := by
  obtain ⟨f1, fp1, e, hr, h2, _⟩ := h.frame1
  obtain ⟨o, g1, g2, g3, e1, ef, hr2, k⟩ := h2.reps.at (show ρ[i]? = some ρ[i] from List.getElem?_eq_getElem hi)
  have q := k (R' := RepO g H Fz) (a' := x) (b' := y) (f2' := f1) (fun _ _ _ _ h _ => h) hr
  have nd : (f1 ++ (g1 ++ (g2 ++ g3))).Nodup := by rw [← ef, ← e]; exact h.nd
  have sub : (f1 ++ (g1 ++ g3)).Sublist (f1 ++ (g1 ++ (g2 ++ g3))) := List.Sublist.append (List.Sublist.refl _) (List.Sublist.append (List.Sublist.refl _) (List.sublist_append_right _ _))
  have pm := perm_swap g1 f1 g3
  have ms : ∀ a ∈ g1 ++ (f1 ++ g3), a ∈ fp := fun a ha => by
    rw [e, ef]
    exact sub.subset ((pm.mem_iff).mp ha)
  exact ⟨_, ⟨q, (pm.nodup_iff).mpr (nd.sublist sub), fun a ha => h.dj a (ms a ha), h.th⟩, ms⟩
/-- what owns nothing is copied -/
theorem SRel.copy {i : Nat} {d : D} (h : SRel g Fz ρ σ H fp) (e : ρ[i]? = some (some d)) (hn : noOwn d = true) : ∃ v, σ[i]? = some (some v) ∧ Rep g H Fz d v [] ∧ SRel g Fz (some d :: ρ) (some v :: σ) H fp := by
  obtain ⟨o, f', e1, ⟨v, ev, hr⟩, _⟩ := h.reps.get e
  subst ev
  have := Rep.none_of d hn v f' hr
  subst this
  exact ⟨v, e1, hr, ⟨Seq3.cons (f1 := []) ⟨v, rfl, hr⟩ h.reps, h.nd, h.dj, h.th⟩⟩
/-- what owns nothing is put ahead -/
theorem SRel.push {d : D} {v : V} (h : SRel g Fz ρ σ H fp) (hr : Rep g H Fz d v []) : SRel g Fz (some d :: ρ) (some v :: σ) H fp :=
  ⟨Seq3.cons (f1 := []) ⟨v, rfl, hr⟩ h.reps, h.nd, h.dj, h.th⟩
/-- the slot that is looked at -/
theorem SRel.look {i : Nat} {d : D} (h : SRel g Fz ρ σ H fp) (e : ρ[i]? = some (some d)) : ∃ v f, σ[i]? = some (some v) ∧ Rep g H Fz d v f ∧ ∀ a ∈ f, a ∈ fp := by
  obtain ⟨o, f', e1, ⟨v, ev, hr⟩, hs⟩ := h.reps.get e
  subst ev
  exact ⟨v, f', e1, hr, hs⟩
/-- a slot's thing is shared from now on -/
theorem SRel.frz {i : Nat} {d : D} (h : SRel g Fz ρ σ H fp) (e : ρ[i]? = some (some d)) : ∃ v Fz' fp', σ[i]? = some (some v) ∧ Ext H Fz fp H Fz' fp' ∧ SRel g Fz' (some (Rm.frz d) :: ρ.set i (some (Rm.frz d))) (some v :: σ) H fp' := by
  obtain ⟨o, f1, f2, f3, e1, ef, ⟨v, ev, hr⟩, k⟩ := h.reps.at e
  subst ev
  have m := h.mut
  have ms : ∀ a ∈ f2, a ∈ fp := fun a ha => by rw [ef]; simp [ha]
  have nd : (f1 ++ (f2 ++ f3)).Nodup := by rw [← ef]; exact h.nd
  have dis : ∀ a ∈ f1 ++ f3, a ∉ f2 := fun a ha hb => by
    obtain ⟨_, q1, q2⟩ := List.nodup_append.mp nd
    obtain ⟨_, _, q3⟩ := List.nodup_append.mp q1
    rcases List.mem_append.mp ha with z | z
    · exact q2 a z a (List.mem_append_left _ hb) rfl
    · exact q3 a hb a z rfl
  have q := k (R' := RepO g H fun a => Fz a ∨ a ∈ f2) (a' := some (Rm.frz d)) (b' := some v) (f2' := [])
    (fun x y f' _ hx hs => RepO.keep ⟨fun _ _ _ e => e, fun _ _ _ e => e, fun _ _ _ e => e, fun _ e => .inl e⟩ hx) ⟨v, rfl, Rep.frz d v f2 (fun _ z => z) hr⟩
  have es : σ.set i (some v) = σ := by
    apply List.ext_getElem?
    intro j
    by_cases hj : i = j
    · subst hj
      rw [List.getElem?_set_self (List.getElem?_eq_some_iff.mp e1).1, e1]
    · rw [List.getElem?_set_ne hj]
  rw [es] at q
  have sub : (f1 ++ f3).Sublist (f1 ++ (f2 ++ f3)) := List.Sublist.append (List.Sublist.refl _) (List.sublist_append_right _ _)
  refine ⟨v, fun a => Fz a ∨ a ∈ f2, f1 ++ ([] ++ f3), e1, ⟨fun _ _ e _ => e, fun _ e => e, fun _ e => .inl e, fun b hb => .inl (by rw [ef]; exact sub.subset (by simpa using hb)), fun b hb => hb.imp id fun z => .inl (ms b z)⟩, Seq3.cons (f1 := []) ⟨v, rfl, Rep.frz d v f2 (fun _ z => z) hr⟩ q, ?_, ?_, ?_⟩
  · exact nd.sublist (by simpa using sub)
  · intro a ha z
    have ha : a ∈ f1 ++ f3 := by simpa using ha
    rcases z with z | z
    · exact h.dj a (by rw [ef]; exact sub.subset ha) z
    · exact dis a ha z
  · rintro a (z | z)
    · exact h.th a z
    · exact h.tracked a (ms a z)
/-- the thing ahead is shared from now on -/
theorem SRel.frzTop {d : D} {v : V} (h : SRel g Fz (some d :: ρ) (some v :: σ) H fp) : ∃ Fz' fp', Ext H Fz fp H Fz' fp' ∧ SRel g Fz' (some (Rm.frz d) :: ρ) (some v :: σ) H fp' := by
  obtain ⟨w, Fz', fp', e1, x, r⟩ := SRel.frz (i := 0) (d := d) h rfl
  obtain ⟨fp2, r2, hs⟩ := r.drop1
  exact ⟨Fz', fp2, x.shrink hs, r2⟩
end
end Rm
set_option Elab.async false
set_option linter.all false
set_option maxRecDepth 100000
set_option maxHeartbeats 2000000
/-! Rm, C: what an expression gives, from slots to slots; its rules. -/
namespace Rm
open PySem L2

abbrev M := Env → Option (D × Env)
abbrev MT := Env → Option (Bool × Env)
inductive Out where
  | nx (ρ : Env) | rt (d : D) (ρ : Env) | bk (ρ : Env) | ct (ρ : Env)
abbrev MS := Env → Option Out

def tE (g : G) (m : M) : TE := fun σ H Q => ∃ Fz ρ fp d ρ', SRel g Fz ρ σ H fp ∧ m ρ = some (d, ρ') ∧
  ∀ v H' Fz' fp', Ext H Fz fp H' Fz' fp' → SRel g Fz' (some d :: ρ') (some v :: σ) H' fp' → Q v H'
def tT (g : G) (m : MT) : TT := fun σ H Q => ∃ Fz ρ fp b ρ', SRel g Fz ρ σ H fp ∧ m ρ = some (b, ρ') ∧
  ∀ H' Fz' fp', Ext H Fz fp H' Fz' fp' → SRel g Fz' ρ' σ H' fp' → Q b H'

theorem pe_imp {X : Cx} {e : Expr} {t t' : TE} (h : PE X e t) (k : ∀ σ H Q, t' σ H Q → t σ H Q) : PE X e t' := ⟨fun pins s σ H Q I q => h.run pins s σ H Q I (k σ H Q q)⟩
theorem pt_imp {X : Cx} {e : Expr} {t t' : TT} (h : PT X e t) (k : ∀ σ H Q, t' σ H Q → t σ H Q) : PT X e t' := ⟨fun pins s σ H Q I q => h.run pins s σ H Q I (k σ H Q q)⟩
theorem pw_imp {X : Cx} {e : Expr} {t t' : TT} (h : PW X e t) (k : ∀ σ H Q, t' σ H Q → t σ H Q) : PW X e t' := ⟨fun wh pins s σ H Q I q => h.run wh pins s σ H Q I (k σ H Q q)⟩
theorem ps_imp {X : Cx} {e : Stmt} {t t' : TS} (h : PS X e t) (k : ∀ D σ H, t' D σ H → t D σ H) : PS X e t' := ⟨fun pins s σ H D I q => h.run pins s σ H D I (k D σ H q)⟩
theorem pss_imp {X : Cx} {e : List Stmt} {t t' : TS} (h : PSs X e t) (k : ∀ D σ H, t' D σ H → t D σ H) : PSs X e t' := ⟨fun pins s σ H D I q => h.run pins s σ H D I (k D σ H q)⟩

section
variable {g : G} {H H1 H2 H' : Hp} {Fz Fz1 Fz2 Fz' : Addr → Prop} {fp fp1 fp2 fp' : List Addr} {ρ ρ' : Env} {σ σ' : L2.St}
/-- a new thing beside the slots -/
theorem SRel.fresh {d : D} {v : V} {fR : List Addr} (r : SRel g Fz ρ σ H fp) (x : Ext H Fz [] H' Fz fR) (n : fR.Nodup) (h : Rep g H' Fz d v fR) :
    SRel g Fz (some d :: ρ) (some v :: σ) H' (fR ++ fp) ∧ Ext H Fz fp H' Fz (fR ++ fp) := by
  have hn : ∀ a ∈ fR, H a = none := fun a ha => (x.new a ha).elim (fun z => by cases z) id
  have kp : ∀ b o, H b = some o → H' b = some o := fun b o e => x.keep b o e (by simp)
  refine ⟨⟨Seq3.cons ⟨v, rfl, h⟩ (seq_keep ⟨fun a u _ => kp a u, fun a u _ => kp a u, fun a u _ => kp a u, fun _ z => z⟩ r.reps), List.nodup_append.mpr ⟨n, r.nd, fun a ha b hb e => r.tracked b hb (e ▸ hn a ha)⟩, fun a ha z => ?_, fun a ha => x.there a (r.th a ha)⟩,
    ⟨fun b o e _ => kp b o e, x.there, fun _ z => z, fun b hb => (List.mem_append.mp hb).elim (fun z => .inr (hn b z)) .inl, fun _ z => .inl z⟩⟩
  rcases List.mem_append.mp ha with q | q
  · exact r.th a z (hn a q)
  · exact r.dj a q z

/-! ### constants, names -/
def dC (d : D) : M := fun ρ => some (d, ρ)
theorem e_con {X : Cx} {e : Expr} {v : V} (d : D) (h : PE X e (tC v)) (r : ∀ H Fz, Rep g H Fz d v []) : PE X e (tE g (dC d)) :=
  pe_imp h fun σ H Q ⟨Fz, ρ, fp, d', ρ', hs, e, k⟩ => by
    cases e
    exact k v H Fz fp Ext.rfl' (hs.push (r H Fz))
theorem rep_int {H : Hp} {Fz : Addr → Prop} (i : Int) : Rep g H Fz (.int i) (.int i) [] := by unfold Rep; exact ⟨rfl, rfl⟩
theorem rep_bl {H : Hp} {Fz : Addr → Prop} (b : Bool) : Rep g H Fz (.bl b) (.bl b) [] := by unfold Rep; exact ⟨rfl, rfl⟩
theorem rep_str {H : Hp} {Fz : Addr → Prop} (b : Str) : Rep g H Fz (.str b) (.str b) [] := by unfold Rep; exact ⟨rfl, rfl⟩
theorem rep_non {H : Hp} {Fz : Addr → Prop} : Rep g H Fz .non .non [] := by unfold Rep; exact ⟨rfl, rfl⟩
theorem rep_int' {H : Hp} {Fz : Addr → Prop} {i : Int} {v : V} {f : List Addr} (h : Rep g H Fz (.int i) v f) : v = .int i := by unfold Rep at h; exact h.1
theorem rep_bl' {H : Hp} {Fz : Addr → Prop} {i : Bool} {v : V} {f : List Addr} (h : Rep g H Fz (.bl i) v f) : v = .bl i := by unfold Rep at h; exact h.1
theorem rep_str' {H : Hp} {Fz : Addr → Prop} {i : Str} {v : V} {f : List Addr} (h : Rep g H Fz (.str i) v f) : v = .str i := by unfold Rep at h; exact h.1
theorem rep_non' {H : Hp} {Fz : Addr → Prop} {v : V} {f : List Addr} (h : Rep g H Fz .non v f) : v = .non := by unfold Rep at h; exact h.1

/-- a name's thing is handed on: what it owns is shared from now on -/
def dV (i : Nat) : M := fun ρ => match ρ[i]? with
  | some (some d) => if noOwn d = true then some (d, ρ) else some (frz d, ρ.set i (some (frz d)))
  | _ => none
theorem e_var {X : Cx} {e : Expr} (i : Nat) (h : PE X e (tVar i)) : PE X e (tE g (dV i)) :=
  pe_imp h fun σ H Q ⟨Fz, ρ, fp, d', ρ', hs, e, k⟩ => by
    unfold dV at e
    split at e
    · rename_i d hd
      split at e
      · rename_i hn
        cases e
        obtain ⟨v, ev, hr, hs'⟩ := hs.copy hd hn
        exact ⟨v, ev, k v H Fz fp Ext.rfl' hs'⟩
      · cases e
        obtain ⟨v, Fz', fp', ev, x, hs'⟩ := hs.frz hd
        exact ⟨v, ev, k v H Fz' fp' x hs'⟩
    · cases e

/-! ### what an operation is given -/
inductive Opd where
  | v (i : Nat) | e (m : M)
def evOps : List Opd → Env → Option (List D × Env)
  | [], ρ => some ([], ρ)
  | .e m :: os, ρ => match m ρ with
    | none => none
    | some (d, ρ1) => match evOps os ρ1 with
      | none => none
      | some (ds, ρ2) => some (d :: ds, ρ2)
  | .v i :: os, ρ => match ρ[i]? with
    | some (some _) => match evOps os ρ with
      | none => none
      | some (ds, ρ2) => match ρ2[i]? with
        | some (some d) => some (d :: ds, ρ2)
        | _ => none
    | _ => none
def tmps : List Opd → List D → Env
  | .e _ :: os, d :: ds => some d :: tmps os ds
  | .v _ :: os, _ :: ds => tmps os ds
  | _, _ => []
def tmpv : List Opd → List V → L2.St
  | .e _ :: os, d :: ds => some d :: tmpv os ds
  | .v _ :: os, _ :: ds => tmpv os ds
  | _, _ => []
/-- each is to be looked at -/
def Vw (g : G) (H : Hp) (Fz : Addr → Prop) (fp : List Addr) : List D → List V → Prop
  | [], vs => vs = []
  | d :: ds, vs => ∃ v vs' f, vs = v :: vs' ∧ Rep g H Fz d v f ∧ (∀ a ∈ f, a ∈ fp) ∧ Vw g H Fz fp ds vs'
def tOpsA : List TE → TA
  | [] => tNil
  | t :: ts => tCons t (tOpsA ts)
def OpdT (g : G) : List Opd → List TE → Prop
  | [], ts => ts = []
  | .e m :: os, ts => ∃ t ts', ts = t :: ts' ∧ (∀ σ H Q, tE g m σ H Q → t σ H Q) ∧ OpdT g os ts'
  | .v i :: os, ts => ∃ ts', ts = tVar i :: ts' ∧ OpdT g os ts'
theorem Vw.mono (h : ∀ a ∈ fp, a ∈ fp') : ∀ {ds : List D} {vs : List V}, Vw g H Fz fp ds vs → Vw g H Fz fp' ds vs
  | [], _, e => e
  | d :: ds, _, ⟨v, vs', f, e, r, hs, q⟩ => ⟨v, vs', f, e, r, fun a ha => h a (hs a ha), Vw.mono h q⟩
theorem ops_ok : ∀ (os : List Opd) (ts : List TE), OpdT g os ts → ∀ {ρ : Env} {σ : L2.St} {H : Hp} {Fz : Addr → Prop} {fp : List Addr} {ds : List D} {ρ' : Env} {K : List V → Hp → Prop}, SRel g Fz ρ σ H fp → evOps os ρ = some (ds, ρ') →
    (∀ vs H' Fz' fp', Ext H Fz fp H' Fz' fp' → SRel g Fz' (tmps os ds ++ ρ') (tmpv os vs ++ σ) H' fp' → (tmps os ds).length = (tmpv os vs).length → Vw g H' Fz' fp' ds vs → K vs H') → tOpsA ts σ H K
  | [], ts, ht, ρ, σ, H, Fz, fp, ds, ρ', K, hs, e, k => by
    have et : ts = [] := ht
    rw [et]
    unfold evOps at e
    cases e
    exact k [] H Fz fp Ext.rfl' hs rfl rfl
  | .e m :: os, ts, ht, ρ, σ, H, Fz, fp, ds, ρ', K, hs, e, k => by
    obtain ⟨t, ts', et, hm, ht⟩ := ht
    rw [et]
    unfold evOps at e
    split at e
    · cases e
    · rename_i d ρ1 e1
      split at e
      · cases e
      · rename_i ds' ρ2 e2
        cases e
        refine hm _ _ _ ⟨Fz, ρ, fp, d, ρ1, hs, e1, fun v H1 Fz1 fp1 x1 hs1 => ?_⟩
        obtain ⟨f1, fpr, ef, hr, hs2, kk⟩ := hs1.frame1
        refine ops_ok os ts' ht hs2 e2 fun vs H' Fz' fp' x2 hs3 hl vw => ?_
        obtain ⟨hs4, x4⟩ := kk x2 hs3
        refine k (v :: vs) H' Fz' (f1 ++ fp') (x1.trans x4) hs4 (congrArg Nat.succ hl) ?_
        obtain ⟨f0, f0', eq0, ⟨w, ew, hr0⟩, _, _⟩ := hs4.frame1
        cases ew
        exact ⟨v, vs, f0, rfl, hr0, fun a ha => by rw [eq0]; exact List.mem_append_left _ ha, vw.mono fun a ha => List.mem_append_right _ ha⟩
  | .v i :: os, ts, ht, ρ, σ, H, Fz, fp, ds, ρ', K, hs, e, k => by
    obtain ⟨ts', et, ht⟩ := ht
    rw [et]
    unfold evOps at e
    split at e
    · rename_i d0 h0
      split at e
      · cases e
      · rename_i ds' ρ2 e2
        split at e
        · rename_i d hd
          cases e
          obtain ⟨v, f, ev, _, _⟩ := hs.look h0
          refine ⟨v, ev, ops_ok os ts' ht hs e2 fun vs H' Fz' fp' x2 hs3 hl vw => ?_⟩
          refine k (v :: vs) H' Fz' fp' x2 hs3 hl ?_
          have hj : (tmps os ds' ++ ρ')[(tmps os ds').length + i]? = some (some d) := by
            rw [List.getElem?_append_right (Nat.le_add_right _ _), Nat.add_sub_cancel_left]; exact hd
          obtain ⟨w, f', ew, hr, hs'⟩ := hs3.look hj
          rw [hl, List.getElem?_append_right (Nat.le_add_right _ _), Nat.add_sub_cancel_left, ev] at ew
          cases ew
          exact ⟨v, vs, f', rfl, hr, hs', vw⟩
        · cases e
    · cases e

/-! ### operations -/
def dOp (f : List D → Option D) (os : List Opd) : M := fun ρ => match evOps os ρ with
  | none => none
  | some (ds, ρ') => match f ds with
    | none => none
    | some d => some (d, ρ')
/-- an operation by data: r is what is asked of it by values -/
def OpOk (g : G) (f : List D → Option D) (r : List V → Hp → VK → Prop) : Prop :=
  ∀ ds d, f ds = some d → ∀ vs H Fz fp Q, Vw g H Fz fp ds vs → (∀ v H' fR, Ext H Fz [] H' Fz fR → fR.Nodup → Rep g H' Fz d v fR → Q v H') → r vs H Q
theorem op_ok {f : List D → Option D} {r : List V → Hp → VK → Prop} {os : List Opd} {ts : List TE} (ht : OpdT g os ts) (ho : OpOk g f r) {σ : L2.St} {H : Hp} {Q : VK} (h : tE g (dOp f os) σ H Q) : tOpsA ts σ H fun vs H' => r vs H' Q := by
  obtain ⟨Fz, ρ, fp, d, ρ', hs, e, k⟩ := h
  unfold dOp at e
  split at e
  · cases e
  · rename_i ds ρ1 e1
    split at e
    · cases e
    · rename_i d1 e2
      cases e
      refine ops_ok os ts ht hs e1 fun vs H' Fz' fp' x hs' hl vw => ?_
      refine ho ds d e2 vs H' Fz' fp' Q vw fun v H2 fR x2 n hr => ?_
      obtain ⟨fp3, hs3, hsub⟩ := hs'.drops hl
      obtain ⟨hs4, x4⟩ := hs3.fresh x2 n hr
      exact k v H2 Fz' _ ((x.shrink hsub).trans x4) hs4
theorem e_op {X : Cx} {e : Expr} {t : TE} {f : List D → Option D} {r : List V → Hp → VK → Prop} {os : List Opd} {ts : List TE} (h : PE X e t) (ht : OpdT g os ts) (hk : ∀ σ H Q, tOpsA ts σ H (fun vs H' => r vs H' Q) → t σ H Q) (ho : OpOk g f r) :
    PE X e (tE g (dOp f os)) := pe_imp h fun σ H Q q => hk σ H Q (op_ok ht ho q)
/-- a value that needs no place -/
theorem vw1 {d : D} {vs : List V} (h : Vw g H Fz fp [d] vs) : ∃ v f, vs = [v] ∧ Rep g H Fz d v f ∧ ∀ a ∈ f, a ∈ fp := by
  obtain ⟨v, vs', f, e, r, hs, e2⟩ := h
  have e2 : vs' = [] := e2
  subst e2
  exact ⟨v, f, e, r, hs⟩
theorem vw2 {d d2 : D} {vs : List V} (h : Vw g H Fz fp [d, d2] vs) : ∃ v w f f2, vs = [v, w] ∧ Rep g H Fz d v f ∧ Rep g H Fz d2 w f2 ∧ (∀ a ∈ f, a ∈ fp) ∧ ∀ a ∈ f2, a ∈ fp := by
  obtain ⟨v, vs', f, e, r, hs, e2⟩ := h
  obtain ⟨w, f2, e3, r2, hs2⟩ := vw1 e2
  subst e3
  exact ⟨v, w, f, f2, e, r, r2, hs, hs2⟩
theorem flat_end {d : D} {v : V} {Q : VK} (hr : ∀ H Fz, Rep g H Fz d v []) (k : ∀ v H' fR, Ext H Fz [] H' Fz fR → fR.Nodup → Rep g H' Fz d v fR → Q v H') : Q v H :=
  k v H [] Ext.rfl' List.nodup_nil (hr H Fz)

/-! ### tests -/
def dT (m : M) : MT := fun ρ => match m ρ with
  | some (.bl b, ρ') => some (b, ρ')
  | _ => none
theorem tT_of {m : M} {σ : L2.St} {H : Hp} {Q : Bool → Hp → Prop} (h : tT g (dT m) σ H Q) : tE g m σ H fun x H1 => ∃ b, x = .bl b ∧ Q b H1 := by
  obtain ⟨Fz, ρ, fp, b, ρ', hs, e, k⟩ := h
  unfold dT at e
  split at e
  · rename_i b' ρ1 e1
    cases e
    refine ⟨Fz, ρ, fp, _, _, hs, e1, fun v H' Fz' fp' x hs' => ?_⟩
    obtain ⟨f1, fp1, ef, ⟨w, ew, hr⟩, hs2, _⟩ := hs'.frame1
    cases ew
    exact ⟨b, rep_bl' hr, k H' Fz' fp1 (x.shrink fun a ha => by rw [ef]; exact List.mem_append_right _ ha) hs2⟩
  · cases e
theorem tE_mono {m : M} {σ : L2.St} {H : Hp} {Q Q' : VK} (h : tE g m σ H Q) (k : ∀ v H, Q v H → Q' v H) : tE g m σ H Q' := by
  obtain ⟨Fz, ρ, fp, d, ρ', hs, e, q⟩ := h
  exact ⟨Fz, ρ, fp, d, ρ', hs, e, fun v H' Fz' fp' x hs' => k _ _ (q v H' Fz' fp' x hs')⟩
/-- an expression whose value is a truth value, as a test -/
theorem t_val {X : Cx} {e : Expr} {m : M} (h : PE X e (tE g m)) (he : ∀ whole, isTrue e X.env whole = (do let v ← whole; standAt e.pos; holding [v] (truthy v))) : PT X e (tT g (dT m)) :=
  pt_imp (pt_val h he) fun σ H Q q => tT_of q
/-- by values: one, two, three -/
def r1 (rr : V → Hp → VK → Prop) : List V → Hp → VK → Prop := fun vs H Q => match vs with
  | [x] => rr x H Q
  | _ => False
def r2 (rr : R2) : List V → Hp → VK → Prop := fun vs H Q => match vs with
  | [x, y] => rr x y H Q
  | _ => False
/-- a binary operation, a comparison, as a value and as a test -/
theorem e_bin {X : Cx} {a b : Expr} {op : Operator} {pos : Pos} {rr : R2} {f : List D → Option D} {os : List Opd} {ta tb : TE} (ho : OpR X (binaryOp op) rr) (ha : PE X a ta) (hb : PE X b tb) (ht : OpdT g os [ta, tb]) (hok : OpOk g f (r2 rr)) :
    PE X (.BinOp a op b pos) (tE g (dOp f os)) := pe_imp (pe_op ho ha hb) fun σ H Q q => op_ok ht hok q
theorem e_cmp {X : Cx} {a b : Expr} {op : CmpOp} {pos : Pos} {rr : R2} {f : List D → Option D} {os : List Opd} {ta tb : TE} (ho : OpR X (compareOp op) rr) (ha : PE X a ta) (hb : PE X b tb) (hm : behindInMarks op b = false) (ht : OpdT g os [ta, tb]) (hok : OpOk g f (r2 rr)) :
    PE X (.Compare a [op] [b] pos) (tE g (dOp f os)) := pe_imp (pe_cmpR ho ha hb hm) fun σ H Q q => op_ok ht hok q
theorem t_cmp {X : Cx} {a b : Expr} {op : CmpOp} {pos : Pos} {rr : R2} {f : List D → Option D} {os : List Opd} {ta tb : TE} (ho : OpR X (compareOp op) rr) (ha : PE X a ta) (hb : PE X b tb) (hm : behindInMarks op b = false) (ht : OpdT g os [ta, tb]) (hok : OpOk g f (r2 rr)) :
    PT X (.Compare a [op] [b] pos) (tT g (dT (dOp f os))) := pt_imp (pt_cmpR ho ha hb hm) fun σ H Q q => op_ok ht hok (tT_of q)
theorem e_un {X : Cx} {a : Expr} {op : UnaryOp} {pos : Pos} {rr : V → Hp → VK → Prop} {f : List D → Option D} {os : List Opd} {ta : TE} (ho : UnR X (unaryOp op) rr) (ha : PE X a ta) (ht : OpdT g os [ta]) (hok : OpOk g f (r1 rr)) :
    PE X (.UnaryOp op a pos) (tE g (dOp f os)) := pe_imp (pe_un ho ha) fun σ H Q q => op_ok ht hok q

/-! ### and, or, not, if -/
def dAndT (a b : MT) : MT := fun ρ => match a ρ with
  | none => none
  | some (true, ρ1) => b ρ1
  | some (false, ρ1) => some (false, ρ1)
def dOrT (a b : MT) : MT := fun ρ => match a ρ with
  | none => none
  | some (true, ρ1) => some (true, ρ1)
  | some (false, ρ1) => b ρ1
def dNotT (a : MT) : MT := fun ρ => match a ρ with
  | none => none
  | some (b, ρ1) => some (!b, ρ1)
theorem tAnd_ok {a b : MT} {σ : L2.St} {H : Hp} {Q : Bool → Hp → Prop} (h : tT g (dAndT a b) σ H Q) : tAnd (tT g a) (tT g b) σ H Q := by
  obtain ⟨Fz, ρ, fp, c, ρ', hs, e, k⟩ := h
  unfold dAndT at e
  split at e
  · cases e
  · rename_i ρ1 e1
    refine ⟨Fz, ρ, fp, _, _, hs, e1, fun H' Fz' fp' x hs' => ?_⟩
    refine iteT ?_
    exact ⟨Fz', ρ1, fp', c, ρ', hs', e, fun H2 Fz2 fp2 x2 hs2 => k H2 Fz2 fp2 (x.trans x2) hs2⟩
  · rename_i ρ1 e1
    cases e
    refine ⟨Fz, ρ, fp, _, _, hs, e1, fun H' Fz' fp' x hs' => ?_⟩
    refine iteF ?_
    exact k H' Fz' fp' x hs'
theorem tOr_ok {a b : MT} {σ : L2.St} {H : Hp} {Q : Bool → Hp → Prop} (h : tT g (dOrT a b) σ H Q) : tOr (tT g a) (tT g b) σ H Q := by
  obtain ⟨Fz, ρ, fp, c, ρ', hs, e, k⟩ := h
  unfold dOrT at e
  split at e
  · cases e
  · rename_i ρ1 e1
    cases e
    refine ⟨Fz, ρ, fp, _, _, hs, e1, fun H' Fz' fp' x hs' => ?_⟩
    refine iteT ?_
    exact k H' Fz' fp' x hs'
  · rename_i ρ1 e1
    refine ⟨Fz, ρ, fp, _, _, hs, e1, fun H' Fz' fp' x hs' => ?_⟩
    refine iteF ?_
    exact ⟨Fz', ρ1, fp', c, ρ', hs', e, fun H2 Fz2 fp2 x2 hs2 => k H2 Fz2 fp2 (x.trans x2) hs2⟩
theorem tNot_ok {a : MT} {σ : L2.St} {H : Hp} {Q : Bool → Hp → Prop} (h : tT g (dNotT a) σ H Q) : tNot (tT g a) σ H Q := by
  obtain ⟨Fz, ρ, fp, c, ρ', hs, e, k⟩ := h
  unfold dNotT at e
  split at e
  · cases e
  · rename_i b ρ1 e1
    cases e
    exact ⟨Fz, ρ, fp, _, _, hs, e1, fun H' Fz' fp' x hs' => k H' Fz' fp' x hs'⟩
theorem w_and {X : Cx} {a b : Expr} {rest : List Expr} {pos : Pos} {ma mb : MT} (ha : PT X a (tT g ma)) (hb : PW X (.BoolOp .And (b :: rest) pos) (tT g mb)) : PW X (.BoolOp .And (a :: b :: rest) pos) (tT g (dAndT ma mb)) :=
  pw_imp (pw_and ha hb) fun _ _ _ q => tAnd_ok q
theorem w_or {X : Cx} {a b : Expr} {rest : List Expr} {pos : Pos} {ma mb : MT} (ha : PT X a (tT g ma)) (hb : PW X (.BoolOp .Or (b :: rest) pos) (tT g mb)) : PW X (.BoolOp .Or (a :: b :: rest) pos) (tT g (dOrT ma mb)) :=
  pw_imp (pw_or ha hb) fun _ _ _ q => tOr_ok q
theorem t_not {X : Cx} {a : Expr} {pos : Pos} {ma : MT} (ha : PT X a (tT g ma)) : PT X (.UnaryOp .Not a pos) (tT g (dNotT ma)) := pt_imp (pt_not ha) fun _ _ _ q => tNot_ok q
/-- as values: all but the last truth values -/
def dAnd (a b : M) : M := fun ρ => match a ρ with
  | some (.bl true, ρ1) => b ρ1
  | some (.bl false, ρ1) => some (.bl false, ρ1)
  | _ => none
def dOr (a b : M) : M := fun ρ => match a ρ with
  | some (.bl true, ρ1) => some (.bl true, ρ1)
  | some (.bl false, ρ1) => b ρ1
  | _ => none
def dNot (a : M) : M := fun ρ => match a ρ with
  | some (.bl b, ρ1) => some (.bl !b, ρ1)
  | _ => none
theorem top_bl {b : Bool} {v : V} (h : SRel g Fz (some (.bl b) :: ρ) (some v :: σ) H fp) : v = .bl b ∧ ∃ fp1, SRel g Fz ρ σ H fp1 ∧ ∀ a ∈ fp1, a ∈ fp := by
  obtain ⟨f1, fp1, ef, ⟨w, ew, hr⟩, hs2, _⟩ := h.frame1
  cases ew
  exact ⟨rep_bl' hr, fp1, hs2, fun a ha => by rw [ef]; exact List.mem_append_right _ ha⟩
theorem e_and {X : Cx} {a b : Expr} {rest : List Expr} {pos : Pos} {ma mb : M} (ha : PE X a (tE g ma)) (hb : PE X (.BoolOp .And (b :: rest) pos) (tE g mb)) : PE X (.BoolOp .And (a :: b :: rest) pos) (tE g (dAnd ma mb)) :=
  pe_imp (pe_and ha hb) fun σ H Q ⟨Fz, ρ, fp, d, ρ', hs, e, k⟩ => by
    unfold dAnd at e
    split at e
    · rename_i ρ1 e1
      refine ⟨Fz, ρ, fp, _, _, hs, e1, fun v H' Fz' fp' x hs' => ?_⟩
      obtain ⟨ev, fp1, hs1, hsub⟩ := top_bl hs'
      refine ⟨true, ev, ?_⟩
      refine iteT ?_
      exact ⟨Fz', ρ1, fp1, d, ρ', hs1, e, fun v2 H2 Fz2 fp2 x2 hs2 => k v2 H2 Fz2 fp2 ((x.shrink hsub).trans x2) hs2⟩
    · rename_i ρ1 e1
      cases e
      refine ⟨Fz, ρ, fp, _, _, hs, e1, fun v H' Fz' fp' x hs' => ?_⟩
      obtain ⟨ev, fp1, hs1, hsub⟩ := top_bl hs'
      refine ⟨false, ev, ?_⟩
      refine iteF ?_
      rw [← ev]
      exact k v H' Fz' fp' x hs'
    · cases e
theorem e_or {X : Cx} {a b : Expr} {rest : List Expr} {pos : Pos} {ma mb : M} (ha : PE X a (tE g ma)) (hb : PE X (.BoolOp .Or (b :: rest) pos) (tE g mb)) : PE X (.BoolOp .Or (a :: b :: rest) pos) (tE g (dOr ma mb)) :=
  pe_imp (pe_or ha hb) fun σ H Q ⟨Fz, ρ, fp, d, ρ', hs, e, k⟩ => by
    unfold dOr at e
    split at e
    · rename_i ρ1 e1
      cases e
      refine ⟨Fz, ρ, fp, _, _, hs, e1, fun v H' Fz' fp' x hs' => ?_⟩
      obtain ⟨ev, fp1, hs1, hsub⟩ := top_bl hs'
      refine ⟨true, ev, ?_⟩
      refine iteT ?_
      rw [← ev]
      exact k v H' Fz' fp' x hs'
    · rename_i ρ1 e1
      refine ⟨Fz, ρ, fp, _, _, hs, e1, fun v H' Fz' fp' x hs' => ?_⟩
      obtain ⟨ev, fp1, hs1, hsub⟩ := top_bl hs'
      refine ⟨false, ev, ?_⟩
      refine iteF ?_
      exact ⟨Fz', ρ1, fp1, d, ρ', hs1, e, fun v2 H2 Fz2 fp2 x2 hs2 => k v2 H2 Fz2 fp2 ((x.shrink hsub).trans x2) hs2⟩
    · cases e
theorem e_not {X : Cx} {a : Expr} {pos : Pos} {ma : M} (ha : PE X a (tE g ma)) : PE X (.UnaryOp .Not a pos) (tE g (dNot ma)) :=
  pe_imp (pe_not ha) fun σ H Q ⟨Fz, ρ, fp, d, ρ', hs, e, k⟩ => by
    unfold dNot at e
    split at e
    · rename_i b ρ1 e1
      cases e
      refine ⟨Fz, ρ, fp, _, _, hs, e1, fun v H' Fz' fp' x hs' => ?_⟩
      obtain ⟨ev, fp1, hs1, hsub⟩ := top_bl hs'
      exact ⟨b, ev, k _ H' Fz' fp1 (x.shrink hsub) (hs1.push (rep_bl _))⟩
    · cases e
/-- a if t else b -/
def dIf (t : MT) (a b : M) : M := fun ρ => match t ρ with
  | none => none
  | some (true, ρ1) => a ρ1
  | some (false, ρ1) => b ρ1
theorem e_if {X : Cx} {c a b : Expr} {pos : Pos} {mt : MT} {ma mb : M} (hc : PT X c (tT g mt)) (ha : PE X a (tE g ma)) (hb : PE X b (tE g mb)) : PE X (.IfExp c a b pos) (tE g (dIf mt ma mb)) :=
  pe_imp (pe_ifExp hc ha hb) fun σ H Q ⟨Fz, ρ, fp, d, ρ', hs, e, k⟩ => by
    unfold dIf at e
    split at e
    · cases e
    · rename_i ρ1 e1
      refine ⟨Fz, ρ, fp, _, _, hs, e1, fun H' Fz' fp' x hs' => ?_⟩
      refine iteT ?_
      exact ⟨Fz', ρ1, fp', d, ρ', hs', e, fun v2 H2 Fz2 fp2 x2 hs2 => k v2 H2 Fz2 fp2 (x.trans x2) hs2⟩
    · rename_i ρ1 e1
      refine ⟨Fz, ρ, fp, _, _, hs, e1, fun H' Fz' fp' x hs' => ?_⟩
      refine iteF ?_
      exact ⟨Fz', ρ1, fp', d, ρ', hs', e, fun v2 H2 Fz2 fp2 x2 hs2 => k v2 H2 Fz2 fp2 (x.trans x2) hs2⟩
/-- low <= a <= high: two comparisons, the middle asked once -/
def dChain (f f' : List D → Option D) (oa ob oc : Opd) : M := fun ρ => match evOps [oa, ob] ρ with
  | some ([x, y], ρ1) => match f [x, y] with
    | some (.bl true) => if noOwn y = true then (match evOps [oc] ρ1 with
      | some ([z], ρ2) => match f' [y, z] with
        | some (.bl b) => some (.bl b, ρ2)
        | _ => none
      | _ => none) else none
    | some (.bl false) => some (.bl false, ρ1)
    | _ => none
  | _ => none
end
end Rm
set_option Elab.async false
set_option linter.all false
set_option maxRecDepth 100000
set_option maxHeartbeats 2000000
/-! Rm, D: statements, targets, loops. -/
namespace Rm
open PySem L2

/-- the slots that are not written stay -/
structure Agree (W : Nat → Bool) (σ σ' : L2.St) : Prop where
  len : σ'.length = σ.length
  at_ : ∀ i, W i = false → σ'[i]? = σ[i]?
theorem Agree.refl {W : Nat → Bool} {σ : L2.St} : Agree W σ σ := ⟨rfl, fun _ _ => rfl⟩
theorem Agree.trans {W : Nat → Bool} {σ σ1 σ2 : L2.St} (a : Agree W σ σ1) (b : Agree W σ1 σ2) : Agree W σ σ2 := ⟨b.len.trans a.len, fun i h => (b.at_ i h).trans (a.at_ i h)⟩
theorem Agree.set {W : Nat → Bool} {σ : L2.St} {i : Nat} {v : Option V} (h : W i = true) : Agree W σ (σ.set i v) := ⟨List.length_set, fun j hj => by
  have : i ≠ j := fun e => by rw [e, hj] at h; cases h
  rw [List.getElem?_set_ne this]⟩

/-- what is wanted behind a statement that ends so -/
def Fin (g : G) (W : Nat → Bool) (E : Ends) (σ : L2.St) (H : Hp) (Fz : Addr → Prop) (fp : List Addr) : Out → Prop
  | .nx ρ' => ∀ σ' H' Fz' fp', Ext H Fz fp H' Fz' fp' → SRel g Fz' ρ' σ' H' fp' → Agree W σ σ' → E.nx σ' H'
  | .bk ρ' => ∀ σ' H' Fz' fp', Ext H Fz fp H' Fz' fp' → SRel g Fz' ρ' σ' H' fp' → Agree W σ σ' → E.bk σ' H'
  | .ct ρ' => ∀ σ' H' Fz' fp', Ext H Fz fp H' Fz' fp' → SRel g Fz' ρ' σ' H' fp' → Agree W σ σ' → E.ct σ' H'
  | .rt d ρ' => ∀ v σ' H' Fz' fp', Ext H Fz fp H' Fz' fp' → SRel g Fz' (some d :: ρ') (some v :: σ') H' fp' → Agree W σ σ' → E.rt v H'
def tS (g : G) (W : Nat → Bool) (m : MS) : TS := fun E σ H => ∃ Fz ρ fp o, SRel g Fz ρ σ H fp ∧ m ρ = some o ∧ Fin g W E σ H Fz fp o

section
variable {g : G} {W : Nat → Bool} {E : Ends} {H H1 H2 H' : Hp} {Fz Fz1 Fz2 Fz' : Addr → Prop} {fp fp1 fp2 fp' : List Addr} {ρ ρ' : Env} {σ σ1 σ' : L2.St}
theorem Fin.after {o : Out} (x : Ext H Fz fp H1 Fz1 fp1) (a : Agree W σ σ1) (h : Fin g W E σ H Fz fp o) : Fin g W E σ1 H1 Fz1 fp1 o := by
  cases o with
  | nx ρ => exact fun σ' H' Fz' fp' y r b => h σ' H' Fz' fp' (x.trans y) r (a.trans b)
  | bk ρ => exact fun σ' H' Fz' fp' y r b => h σ' H' Fz' fp' (x.trans y) r (a.trans b)
  | ct ρ => exact fun σ' H' Fz' fp' y r b => h σ' H' Fz' fp' (x.trans y) r (a.trans b)
  | rt d ρ => exact fun v σ' H' Fz' fp' y r b => h v σ' H' Fz' fp' (x.trans y) r (a.trans b)
/-! ### blocks -/
def dNx : MS := fun ρ => some (.nx ρ)
def dSeq (a b : MS) : MS := fun ρ => match a ρ with
  | some (.nx ρ1) => b ρ1
  | o => o
theorem s_nil {X : Cx} : PSs X [] (tS g W dNx) := pss_imp pss_nil fun E σ H ⟨Fz, ρ, fp, o, hs, e, k⟩ => by
  cases e
  exact k σ H Fz fp Ext.rfl' hs Agree.refl
theorem s_pass {X : Cx} {pos : Pos} : PS X (.Pass pos) (tS g W dNx) := ps_imp ps_pass fun E σ H ⟨Fz, ρ, fp, o, hs, e, k⟩ => by
  cases e
  exact k σ H Fz fp Ext.rfl' hs Agree.refl
theorem s_doc {X : Cx} {x : Str} {j : Nat} {pos pos' : Pos} : PS X (.Expr (.Constant (.str x) j pos) pos') (tS g W dNx) := ps_imp ps_doc fun E σ H ⟨Fz, ρ, fp, o, hs, e, k⟩ => by
  cases e
  exact k σ H Fz fp Ext.rfl' hs Agree.refl
theorem s_cons {X : Cx} {st : Stmt} {rest : List Stmt} {a b : MS} (h1 : PS X st (tS g W a)) (h2 : PSs X rest (tS g W b)) : PSs X (st :: rest) (tS g W (dSeq a b)) :=
  pss_imp (pss_cons h1 h2) fun E σ H ⟨Fz, ρ, fp, o, hs, e, k⟩ => by
    unfold dSeq at e
    cases ea : a ρ with
    | none => rw [ea] at e; cases e
    | some oa =>
      rw [ea] at e
      refine ⟨Fz, ρ, fp, oa, hs, ea, ?_⟩
      cases oa with
      | nx ρ1 => exact fun σ' H' Fz' fp' x r ag => ⟨Fz', ρ1, fp', o, r, e, k.after x ag⟩
      | bk ρ1 => cases e; exact k
      | ct ρ1 => cases e; exact k
      | rt d ρ1 => cases e; exact k
/-! ### small statements -/
def dExpr (m : M) : MS := fun ρ => match m ρ with
  | some (_, ρ1) => some (.nx ρ1)
  | none => none
theorem s_expr {X : Cx} {e : Expr} {pos : Pos} {m : M} (he : PE X e (tE g m)) (hs : swapsWith e none pos.line X.env = pure false) : PS X (.Expr e pos) (tS g W (dExpr m)) :=
  ps_imp (ps_expr he hs) fun E σ H ⟨Fz, ρ, fp, o, hs, e, k⟩ => by
    unfold dExpr at e
    split at e
    · rename_i d ρ1 e1
      cases e
      refine ⟨Fz, ρ, fp, d, ρ1, hs, e1, fun v H' Fz' fp' x r => ?_⟩
      obtain ⟨fp1, r1, hsub⟩ := r.drop1
      exact k σ H' Fz' fp1 (x.shrink hsub) r1 Agree.refl
    · cases e
def dRet (m : M) : MS := fun ρ => match m ρ with
  | some (d, ρ1) => some (.rt d ρ1)
  | none => none
theorem s_ret {X : Cx} {e : Expr} {pos : Pos} {m : M} (he : PE X e (tE g m)) : PS X (.Return (some e) pos) (tS g W (dRet m)) :=
  ps_imp (ps_ret he) fun E σ H ⟨Fz, ρ, fp, o, hs, e, k⟩ => by
    unfold dRet at e
    split at e
    · rename_i d ρ1 e1
      cases e
      exact ⟨Fz, ρ, fp, d, ρ1, hs, e1, fun v H' Fz' fp' x r => k v σ H' Fz' fp' x r Agree.refl⟩
    · cases e
/-- a name is handed back: what it owns goes with it -/
def dRetV (i : Nat) : MS := fun ρ => match ρ[i]? with
  | some (some d) => if noOwn d = true then some (.rt d ρ) else some (.rt d (ρ.set i none))
  | _ => none
theorem s_retV {X : Cx} {e : Expr} {pos : Pos} {i : Nat} (he : PE X e (tVar i)) : PS X (.Return (some e) pos) (tS g W (dRetV i)) :=
  ps_imp (ps_ret he) fun E σ H ⟨Fz, ρ, fp, o, hs, e, k⟩ => by
    unfold dRetV at e
    split at e
    · rename_i d hd
      split at e
      · rename_i hn
        cases e
        obtain ⟨v, ev, hr, hs'⟩ := hs.copy hd hn
        exact ⟨v, ev, k v σ H Fz fp Ext.rfl' hs' Agree.refl⟩
      · cases e
        obtain ⟨v, fp', ev, hs', hm⟩ := hs.move hd
        exact ⟨v, ev, k v σ H Fz fp' (Ext.refl fun a ha => (hm a).mp ha) hs' Agree.refl⟩
    · cases e
def dRetN : MS := fun ρ => some (.rt .non ρ)
theorem s_retN {X : Cx} {pos : Pos} : PS X (.Return none pos) (tS g W dRetN) := ps_imp ps_retN fun E σ H ⟨Fz, ρ, fp, o, hs, e, k⟩ => by
  cases e
  exact k .non σ H Fz fp Ext.rfl' (hs.push rep_non) Agree.refl
def dBk : MS := fun ρ => some (.bk ρ)
def dCt : MS := fun ρ => some (.ct ρ)
theorem s_break {X : Cx} {pos : Pos} : PS X (.Break pos) (tS g W dBk) := ps_imp ps_break fun E σ H ⟨Fz, ρ, fp, o, hs, e, k⟩ => by
  cases e
  exact k σ H Fz fp Ext.rfl' hs Agree.refl
theorem s_continue {X : Cx} {pos : Pos} : PS X (.Continue pos) (tS g W dCt) := ps_imp ps_continue fun E σ H ⟨Fz, ρ, fp, o, hs, e, k⟩ => by
  cases e
  exact k σ H Fz fp Ext.rfl' hs Agree.refl
def dIfS (t : MT) (a b : MS) : MS := fun ρ => match t ρ with
  | none => none
  | some (true, ρ1) => a ρ1
  | some (false, ρ1) => b ρ1
theorem s_if {X : Cx} {c : Expr} {a b : List Stmt} {pos : Pos} {mt : MT} {ma mb : MS} (hc : PT X c (tT g mt)) (ha : PSs X a (tS g W ma)) (hb : PSs X b (tS g W mb)) : PS X (.If c a b pos) (tS g W (dIfS mt ma mb)) :=
  ps_imp (ps_if hc ha hb) fun E σ H ⟨Fz, ρ, fp, o, hs, e, k⟩ => by
    unfold dIfS at e
    split at e
    · cases e
    · rename_i ρ1 e1
      refine ⟨Fz, ρ, fp, _, _, hs, e1, fun H' Fz' fp' x hs' => ?_⟩
      refine iteT ?_
      exact ⟨Fz', ρ1, fp', o, hs', e, k.after x Agree.refl⟩
    · rename_i ρ1 e1
      refine ⟨Fz, ρ, fp, _, _, hs, e1, fun H' Fz' fp' x hs' => ?_⟩
      refine iteF ?_
      exact ⟨Fz', ρ1, fp', o, hs', e, k.after x Agree.refl⟩
/-- what is never reached -/
def dStop : MS := fun _ => none
theorem s_never {X : Cx} {st : Stmt} : PS X st (tS g W dStop) := ps_imp ps_never fun E σ H ⟨Fz, ρ, fp, o, hs, e, k⟩ => by cases e
theorem ss_never {X : Cx} {st : List Stmt} : PSs X st (tS g W dStop) := pss_imp pss_never fun E σ H ⟨Fz, ρ, fp, o, hs, e, k⟩ => by cases e
def dStopE : M := fun _ => none
theorem e_never {X : Cx} {e : Expr} : PE X e (tE g dStopE) := ⟨fun pins s σ H Q I ⟨Fz, ρ, fp, d, ρ', hs, e, k⟩ => by cases e⟩

/-! ### targets -/
abbrev MG := D → Env → Option Env
abbrev MGs := List D → Env → Option Env
def tG (g : G) (W : Nat → Bool) (m : MG) : TG := fun v σ H Q => ∃ Fz hs us ρ fp d ρ', hs.length = us.length ∧ SRel g Fz (some d :: (hs ++ ρ)) (some v :: (us ++ σ)) H fp ∧ m d ρ = some ρ' ∧
  ∀ σ' H' Fz' fp', Ext H Fz fp H' Fz' fp' → SRel g Fz' (hs ++ ρ') (us ++ σ') H' fp' → Agree W σ σ' → Q σ' H'
def tGs (g : G) (W : Nat → Bool) (m : MGs) : TGs := fun vs σ H Q => ∃ Fz hs us ρ fp ds ρ', ds.length = vs.length ∧ hs.length = us.length ∧ SRel g Fz (ds.map some ++ (hs ++ ρ)) (vs.map some ++ (us ++ σ)) H fp ∧ m ds ρ = some ρ' ∧
  ∀ σ' H' Fz' fp', Ext H Fz fp H' Fz' fp' → SRel g Fz' (hs ++ ρ') (us ++ σ') H' fp' → Agree W σ σ' → Q σ' H'
theorem pg_imp {X : Cx} {e : Expr} {t t' : TG} (h : PG X e t) (k : ∀ v σ H Q, t' v σ H Q → t v σ H Q) : PG X e t' := ⟨fun pins s σ H v u Q I r q => h.run pins s σ H v u Q I r (k v σ H Q q)⟩
theorem pgs_imp {X : Cx} {e : List Expr} {t t' : TGs} (h : PGs X e t) (k : ∀ v σ H Q, t' v σ H Q → t v σ H Q) : PGs X e t' := ⟨fun pins s σ H v u Q I r q => h.run pins s σ H v u Q I r (k v σ H Q q)⟩
def gN (i : Nat) : MG := fun d ρ => if i < ρ.length then some (ρ.set i (some d)) else none
theorem g_name {X : Cx} {e : Expr} {i : Nat} (h : PG X e (gName i)) (hw : W i = true) : PG X e (tG g W (gN i)) := pg_imp h fun v σ H Q ⟨Fz, hs, us, ρ, fp, d, ρ', hl, r, e, k⟩ => by
  unfold gN at e
  split at e
  · rename_i hi
    cases e
    obtain ⟨fp', r', hsub⟩ := r.put (i := hs.length + i) (by rw [List.length_append]; exact Nat.add_lt_add_left hi _)
    have e1 : (hs ++ ρ).set (hs.length + i) (some d) = hs ++ ρ.set i (some d) := by rw [List.set_append_right _ _ (Nat.le_add_right _ _), Nat.add_sub_cancel_left]
    have e2 : (us ++ σ).set (hs.length + i) (some v) = us ++ σ.set i (some v) := by rw [hl, List.set_append_right _ _ (Nat.le_add_right _ _), Nat.add_sub_cancel_left]
    rw [e1, e2] at r'
    exact k _ H Fz fp' (Ext.refl hsub) r' (Agree.set hw)
  · cases e
def gsNil : MGs := fun ds ρ => match ds with
  | [] => some ρ
  | _ => none
def gsCons (a : MG) (b : MGs) : MGs := fun ds ρ => match ds with
  | [] => none
  | d :: ds => match a d ρ with
    | none => none
    | some ρ1 => b ds ρ1
theorem g_nil {X : Cx} : PGs X [] (tGs g W gsNil) := pgs_imp pgs_nil fun vs σ H Q ⟨Fz, hs, us, ρ, fp, ds, ρ', hl0, hl, r, e, k⟩ => by
  unfold gsNil at e
  split at e
  · cases e
    have ev : vs = [] := List.length_eq_zero_iff.mp hl0.symm
    subst ev
    exact ⟨rfl, k σ H Fz fp Ext.rfl' r Agree.refl⟩
  · cases e
theorem g_cons {X : Cx} {e : Expr} {es : List Expr} {a : MG} {b : MGs} (h1 : PG X e (tG g W a)) (h2 : PGs X es (tGs g W b)) (hs : (assignEach (e :: es) X.env).map (·.2) = assign e X.env :: (assignEach es X.env).map (·.2)) : PGs X (e :: es) (tGs g W (gsCons a b)) :=
  pgs_imp (pgs_cons h1 h2 hs) fun vs σ H Q ⟨Fz, hs, us, ρ, fp, ds, ρ', hl0, hl, r, e, k⟩ => by
    unfold gsCons at e
    split at e
    · cases e
    · rename_i d ds'
      split at e
      · cases e
      · rename_i ρ1 e1
        cases vs with
        | nil => cases hl0
        | cons v vs' =>
          have hl1 : ds'.length = vs'.length := Nat.succ.inj hl0
          refine ⟨v, vs', rfl, Fz, ds'.map some ++ hs, vs'.map some ++ us, ρ, fp, d, ρ1, ?_, ?_, e1, fun σ' H' Fz' fp' x r' ag => ?_⟩
          · simp only [List.length_append, List.length_map, hl1, hl]
          · rw [List.append_assoc, List.append_assoc]; exact r
          · rw [List.append_assoc, List.append_assoc] at r'
            exact ⟨Fz', hs, us, ρ1, fp', ds', ρ', hl1, hl, r', e, fun σ2 H2 Fz2 fp2 x2 r2 ag2 => k σ2 H2 Fz2 fp2 (x.trans x2) r2 (ag.trans ag2)⟩
/-- a, b = a tuple of that length -/
def gTp (n : Nat) (m : MGs) : MG := fun d ρ => match d with
  | .tup xs => if xs.length = n then m xs ρ else none
  | _ => none
theorem seq_somes : ∀ {ds : List D} {vs : List V} {f : List Addr}, Reps g H Fz ds vs f → Seq3 (RepO g H Fz) (ds.map some) (vs.map some) f
  | [], vs, f, h => by unfold Reps at h; obtain ⟨rfl, rfl⟩ := h; exact Seq3.nil
  | d :: ds, vs, f, h => by
    unfold Reps at h
    obtain ⟨v, vs', f1, f2, rfl, rfl, h1, h2⟩ := h
    exact Seq3.cons ⟨v, rfl, h1⟩ (seq_somes h2)
theorem somes_seq : ∀ {ds : List D} {vs : List V} {f : List Addr}, Seq3 (RepO g H Fz) (ds.map some) (vs.map some) f → Reps g H Fz ds vs f
  | [], [], f, h => by unfold Reps; exact ⟨rfl, h.2⟩
  | [], v :: vs, f, h => by cases h.1
  | d :: ds, [], f, ⟨_, _, _, _, e, _⟩ => by cases e
  | d :: ds, v :: vs, f, ⟨b, bs', f1, f2, e, ef, ⟨w, ew, h1⟩, h2⟩ => by
    unfold Reps
    injection e with e1 e2
    subst e1 e2
    cases ew
    exact ⟨v, vs, f1, f2, rfl, ef, h1, somes_seq h2⟩
/-- a tuple's things, in its place -/
theorem SRel.open_tup {xs : List D} {v : V} (h : SRel g Fz (some (.tup xs) :: ρ) (some v :: σ) H fp) : ∃ a vs, v = .ref a ∧ SqT g.K H a vs ∧ xs.length = vs.length ∧ SRel g Fz (xs.map some ++ ρ) (vs.map some ++ σ) H fp := by
  obtain ⟨b, bs', f1, f2, e, ef, ⟨w, ew, hr⟩, h2⟩ := h.reps
  injection e with e1 e2
  subst e1 e2
  cases ew
  unfold Rep at hr
  obtain ⟨a, vs, ev, q, hr⟩ := hr
  refine ⟨a, vs, ev, q, (reps_seq.mp hr).len, ?_, h.nd, h.dj, h.th⟩
  rw [ef]
  exact Seq3.append (seq_somes hr) h2
theorem g_tup {X : Cx} {es : List Expr} {k : Nat} {pos : Pos} {m : MGs} {n : Nat} (hK : X.K = g.K) (hc : X.calm = true) (h : PGs X es (tGs g W m)) (hn : (assignEach es X.env).length = n) (hst : (assignEach es X.env).findIdx? (·.1) = none) : PG X (.Tuple es k pos) (tG g W (gTp n m)) :=
  pg_imp (pg_tup hc h hn hst) fun v σ H Q ⟨Fz, hs, us, ρ, fp, d, ρ', hl, r, e, k⟩ => by
    unfold gTp at e
    split at e
    · rename_i xs
      split at e
      · rename_i hx
        obtain ⟨a, vs, ev, q, hl2, r2⟩ := r.open_tup
        refine ⟨a, vs, ev, by rw [hK]; exact q, by rw [← hl2]; exact hx, Fz, hs, us, ρ, fp, xs, ρ', hl2, hl, r2, e, k⟩
      · cases e
    · cases e
/-- target = value -/
def dAsg (m : M) (a : MG) : MS := fun ρ => match m ρ with
  | some (d, ρ1) => match a d ρ1 with
    | some ρ2 => some (.nx ρ2)
    | none => none
  | none => none
theorem tAsg_ok {m : M} {a : MG} {σ : L2.St} {H : Hp} (h : tS g W (dAsg m a) E σ H) : tAsg (tE g m) (tG g W a) E σ H := by
  obtain ⟨Fz, ρ, fp, o, hs, e, k⟩ := h
  unfold dAsg at e
  split at e
  · rename_i d ρ1 e1
    split at e
    · rename_i ρ2 e2
      cases e
      exact ⟨Fz, ρ, fp, d, ρ1, hs, e1, fun v H' Fz' fp' x r => ⟨Fz', [], [], ρ1, fp', d, ρ2, rfl, r, e2, fun σ' H2 Fz2 fp2 x2 r2 ag => k σ' H2 Fz2 fp2 (x.trans x2) r2 ag⟩⟩
    · cases e
  · cases e
theorem s_asg {X : Cx} {tg e : Expr} {pos : Pos} {m : M} {a : MG} (he : PE X e (tE g m)) (hg : PG X tg (tG g W a)) (hs : swapsWithSole [tg] e pos.line X.env = pure false) (hw : swappedStores [tg] e X.env = pure none)
    (h1 : (assignEach [tg] X.env).map (·.2) = [assign tg X.env]) : PS X (.Assign [tg] e pos) (tS g W (dAsg m a)) := ps_imp (ps_asg he hg hs hw h1) fun E σ H q => tAsg_ok q

/-! ### loops -/
def forL (a : MG) (body : MS) : List D → Env → Option Out
  | [], ρ => some (.nx ρ)
  | x :: xs, ρ => match a x ρ with
    | none => none
    | some ρ1 => match body ρ1 with
      | some (.nx ρ2) => forL a body xs ρ2
      | some (.ct ρ2) => forL a body xs ρ2
      | some (.bk ρ2) => some (.nx ρ2)
      | some (.rt d ρ2) => some (.rt d ρ2)
      | none => none
/-- an iterator walks over data that owns nothing; St: what must stand for that -/
structure Wk (g : G) (J : It) (ds : List D) (St : Hp → (Addr → Prop) → Prop) : Prop where
  go : ∀ i H Fz, i < ds.length → St H Fz → J.go i H
  yld : ∀ i d H Fz x H', ds[i]? = some d → St H Fz → J.yld i H x H' → Ext H Fz [] H' Fz [] ∧ Rep g H' Fz d x []
  stop : ∀ H Fz, St H Fz → J.stop ds.length H
  keep : ∀ H Fz f H' Fz', Keep H Fz f H' Fz' → St H Fz → St H' Fz'
theorem SRel.ext0 (r : SRel g Fz ρ σ H fp) (x : Ext H Fz [] H' Fz []) : SRel g Fz ρ σ H' fp ∧ Ext H Fz fp H' Fz fp := by
  have kp : ∀ b o, H b = some o → H' b = some o := fun b o e => x.keep b o e (by simp)
  exact ⟨⟨seq_keep ⟨fun a u _ => kp a u, fun a u _ => kp a u, fun a u _ => kp a u, fun _ z => z⟩ r.reps, r.nd, r.dj, fun a ha => x.there a (r.th a ha)⟩, ⟨fun b o e _ => kp b o e, x.there, fun _ z => z, fun b hb => .inl hb, fun _ z => .inl z⟩⟩
theorem Ext.keepAll (r : SRel g Fz ρ σ H fp) (x : Ext H Fz fp H' Fz' fp') : Keep H Fz [] H' Fz' := x.keeps r.mut r.dj fun _ z => by cases z
/-- over what an iterator walks -/
def tForE (g : G) (W : Nat → Bool) (wi : (List D → Env → Option Out) → TI) : Prop := True
theorem for_ok {J : It} {ds : List D} {St : Hp → (Addr → Prop) → Prop} {a : MG} {body : MS} {o : Out} (wk : Wk g J ds St) (hs : SRel g Fz ρ σ H fp) (st : St H Fz) (e : forL a body ds ρ = some o) (k : Fin g W E σ H Fz fp o) :
    ∃ Wl : Nat → Nat → L2.St → Hp → Prop, (∃ m, Wl 0 m σ H) ∧ ∀ i m σ H, Wl i m σ H → (J.stop i H ∧ E.nx σ H) ∨ (J.go i H ∧ ∃ N : L2.St → Hp → Prop, (∀ σ' H', N σ' H' → ∃ m', m' < m ∧ Wl (i + 1) m' σ' H') ∧
      ∀ x H', J.yld i H x H' → (tG g W a) x σ H' fun σ2 H2 => (tS g W body) { E with nx := N, ct := N, bk := E.nx } σ2 H2) := by
  let P : Nat → L2.St → Hp → Prop := fun i σ1 H1 => i ≤ ds.length ∧ ∃ Fz1 ρ1 fp1, SRel g Fz1 ρ1 σ1 H1 fp1 ∧ St H1 Fz1 ∧ forL a body (ds.drop i) ρ1 = some o ∧ Fin g W E σ1 H1 Fz1 fp1 o
  refine ⟨fun i m σ1 H1 => m = ds.length - i ∧ P i σ1 H1, ⟨ds.length, by simp, Nat.zero_le _, Fz, ρ, fp, hs, st, e, k⟩, ?_⟩
  rintro i m σ1 H1 ⟨rfl, hi, Fz1, ρ1, fp1, hs1, st1, e1, k1⟩
  by_cases hlt : i < ds.length
  · refine .inr ⟨wk.go i H1 Fz1 hlt st1, P (i + 1), fun σ' H' p => ⟨ds.length - (i + 1), by omega, rfl, p⟩, fun x H' y => ?_⟩
    have ed : ds.drop i = ds[i] :: ds.drop (i + 1) := List.drop_eq_getElem_cons hlt
    rw [ed] at e1
    unfold forL at e1
    obtain ⟨x0, hr⟩ := wk.yld i ds[i] H1 Fz1 x H' (List.getElem?_eq_getElem hlt) st1 y
    obtain ⟨hs2, x2⟩ := hs1.ext0 x0
    have st2 := wk.keep _ _ _ _ _ (x0.keeps (f := []) (by simp) (by simp) (by simp)) st1
    split at e1
    · cases e1
    · rename_i ρ2 e2
      refine ⟨Fz1, [], [], ρ1, fp1, ds[i], ρ2, rfl, hs2.push hr, e2, fun σ3 H3 Fz3 fp3 x3 r3 ag3 => ?_⟩
      have st3 := wk.keep _ _ _ _ _ (x3.keepAll hs2) st2
      have k3 := k1.after (x2.trans x3) ag3
      cases eb : body ρ2 with
      | none => rw [eb] at e1; cases e1
      | some ob =>
        rw [eb] at e1
        refine ⟨Fz3, ρ2, fp3, ob, r3, eb, ?_⟩
        cases ob with
        | nx ρ4 => exact fun σ4 H4 Fz4 fp4 x4 r4 ag4 => ⟨hlt, Fz4, ρ4, fp4, r4, wk.keep _ _ _ _ _ (x4.keepAll r3) st3, e1, k3.after x4 ag4⟩
        | ct ρ4 => exact fun σ4 H4 Fz4 fp4 x4 r4 ag4 => ⟨hlt, Fz4, ρ4, fp4, r4, wk.keep _ _ _ _ _ (x4.keepAll r3) st3, e1, k3.after x4 ag4⟩
        | bk ρ4 => cases e1; exact k3
        | rt d ρ4 => cases e1; exact k3
  · have e0 : i = ds.length := by omega
    subst e0
    rw [List.drop_length] at e1
    unfold forL at e1
    cases e1
    exact .inl ⟨wk.stop H1 Fz1 st1, k1 σ1 H1 Fz1 fp1 Ext.rfl' hs1 Agree.refl⟩
/-- what is walked: the iterator's making, with the data -/
abbrev MI := Env → Option (List D × Env)
def tI (g : G) (m : MI) : TI := fun σ H R => ∃ Fz ρ fp ds ρ', SRel g Fz ρ σ H fp ∧ m ρ = some (ds, ρ') ∧
  ∀ J St H' Fz' fp', Ext H Fz fp H' Fz' fp' → SRel g Fz' ρ' σ H' fp' → Wk g J ds St → St H' Fz' → R J H'
theorem pi_imp {X : Cx} {tg e : Expr} {t t' : TI} (h : PI X tg e t) (k : ∀ σ H R, t' σ H R → t σ H R) : PI X tg e t' := ⟨fun pins s σ H R I q => h.run pins s σ H R I (k σ H R q)⟩
def dFor (i : MI) (a : MG) (body : MS) : MS := fun ρ => match i ρ with
  | none => none
  | some (ds, ρ1) => forL a body ds ρ1
theorem s_for {X : Cx} {tg iter : Expr} {body : List Stmt} {pos : Pos} {mi : MI} {a : MG} {mb : MS} (hp : PassesOwn (model X.prog X.w) X.A X.env X.xe) (hc : X.calm = true) (hi : PI X tg iter (tI g mi)) (hg : PG X tg (tG g W a)) (hb : PSs X body (tS g W mb))
    (hs : ∀ x, foldedSetIterable iter X.env x = pure x) : PS X (.For tg iter body [] pos) (tS g W (dFor mi a mb)) :=
  ps_imp (ps_for hp hc hi hg hb hs) fun E σ H ⟨Fz, ρ, fp, o, hs, e, k⟩ => by
    unfold dFor at e
    split at e
    · cases e
    · rename_i ds ρ1 e1
      exact ⟨Fz, ρ, fp, ds, ρ1, hs, e1, fun J St H' Fz' fp' x r wk st => for_ok wk r st e (k.after x Agree.refl)⟩
/-- while: at most n turns -/
def whL (t : MT) (body : MS) : Nat → Env → Option Out
  | 0, _ => none
  | n + 1, ρ => match t ρ with
    | none => none
    | some (false, ρ1) => some (.nx ρ1)
    | some (true, ρ1) => match body ρ1 with
      | some (.nx ρ2) => whL t body n ρ2
      | some (.ct ρ2) => whL t body n ρ2
      | some (.bk ρ2) => some (.nx ρ2)
      | some (.rt d ρ2) => some (.rt d ρ2)
      | none => none
theorem s_while {X : Cx} {c : Expr} {body : List Stmt} {pos : Pos} {mt : MT} {mb : MS} (n : Nat) (hp : PassesOwn (model X.prog X.w) X.A X.env X.xe) (hc : PT X c (tT g mt)) (hb : PSs X body (tS g W mb)) : PS X (.While c body [] pos) (tS g W (whL mt mb n)) :=
  ps_imp (ps_while hp hc hb) fun E σ H ⟨Fz, ρ, fp, o, hs, e, k⟩ => by
    refine ⟨fun m σ1 H1 => ∃ Fz1 ρ1 fp1, SRel g Fz1 ρ1 σ1 H1 fp1 ∧ whL mt mb m ρ1 = some o ∧ Fin g W E σ1 H1 Fz1 fp1 o, ⟨n, Fz, ρ, fp, hs, e, k⟩, ?_⟩
    rintro m σ1 H1 ⟨Fz1, ρ1, fp1, hs1, e1, k1⟩
    cases m with
    | zero => unfold whL at e1; cases e1
    | succ m =>
      unfold whL at e1
      split at e1
      · cases e1
      · rename_i ρ2 e2
        cases e1
        refine ⟨Fz1, ρ1, fp1, _, _, hs1, e2, fun H' Fz' fp' x r => ?_⟩
        refine iteF ?_
        exact k1 σ1 H' Fz' fp' x r Agree.refl
      · rename_i ρ2 e2
        refine ⟨Fz1, ρ1, fp1, _, _, hs1, e2, fun H' Fz' fp' x r => ?_⟩
        refine iteT ?_
        have k2 := k1.after x Agree.refl
        refine ⟨fun σ3 H3 => ∃ Fz1 ρ1 fp1, SRel g Fz1 ρ1 σ3 H3 fp1 ∧ whL mt mb m ρ1 = some o ∧ Fin g W E σ3 H3 Fz1 fp1 o, fun σ3 H3 q => ⟨m, Nat.lt_succ_self m, q⟩, ?_⟩
        cases eb : mb ρ2 with
        | none => rw [eb] at e1; cases e1
        | some ob =>
          rw [eb] at e1
          refine ⟨Fz', ρ2, fp', ob, r, eb, ?_⟩
          cases ob with
          | nx ρ4 => exact fun σ4 H4 Fz4 fp4 x4 r4 ag4 => ⟨Fz4, ρ4, fp4, r4, e1, k2.after x4 ag4⟩
          | ct ρ4 => exact fun σ4 H4 Fz4 fp4 x4 r4 ag4 => ⟨Fz4, ρ4, fp4, r4, e1, k2.after x4 ag4⟩
          | bk ρ4 => cases e1; exact k2
          | rt d ρ4 => cases e1; exact k2
end
end Rm
set_option Elab.async false
set_option linter.all false
set_option maxRecDepth 100000
set_option maxHeartbeats 4000000
/-! Rm, E: what loops walk. -/
namespace Rm
open PySem L2

/-! ### enumerate of anything that begins -/
theorem meets_enum1 {v : Value} {o : Obj} {Hh : Heap → Prop} (B : Begins v o Hh) :
    Meets (Builtin.«enumerate.__new__» ⟨[.type "enumerate", v], []⟩) (fun _ R s => Hh s.heap ∧
      R (.ok (.ret (.ref (s.heap.push o).objs.size))) { s with heap := (s.heap.push o).push { cls := .type "enumerate", data := .fields #[.none, .bool false, .ref s.heap.objs.size, rawInt 0, .none, .none] } }) :=
  .of_wp fun prog w A R s h => by
    obtain ⟨hp, gs, dr, tk, os⟩ := s
    obtain ⟨hb, h⟩ := h
    have hsub := sub_enumerate
    have it1 : ∀ {A' : Around} {E : Value → Shared → Prop} {Q : Value → Shared → Prop}, Q (.ref hp.objs.size) ⟨hp.push o, gs, dr, tk, os⟩ → wpAny (model prog w) A' (pyIter v) Q E ⟨hp, gs, dr, tk, os⟩ :=
      fun q => B.iter prog w _ _ ⟨hp, gs, dr, tk, os⟩ _ hb q
    wp_walk using it1
    refine wpAny_stack_any fun st => wpAny_pure ?_
    split
    · rename_i c _ _ _ _ _
      cases (c == Value.type "enumerate") <;> (wp_walk using it1; exact ⟨_, rfl, h⟩)
    · wp_walk using it1
      exact ⟨_, rfl, h⟩
theorem enum1_begins {prog : Program} {w : World} {A : Around} {E : Value → Shared → Prop} {s : Shared} {v : Value} {o : Obj} {Hh : Heap → Prop} {Q : Value → Shared → Prop} (B : Begins v o Hh) (h1 : Hh s.heap)
    (h : ∀ h', IsEnum h' (s.heap.objs.size + 1) s.heap.objs.size 0 .none → h'.get? s.heap.objs.size = some o → (∀ b u, s.heap.get? b = some u → h'.get? b = some u) → Q (.ref (s.heap.objs.size + 1)) { s with heap := h' }) :
    wpAny (model prog w) A (call (.type "enumerate") [v]) Q E s := by
  refine callType_new F.called_enumerate (by decide) (F.typeCall_enumerate_1 _) (F.newCall_enumerate_1 _) (fun obj => F.args_object_init_2 obj _) F.entry_enumerate_new (meets_enum1 B) ⟨h1, ?_⟩
  have hz : (s.heap.push o).objs.size = s.heap.objs.size + 1 := Heap.size_push ..
  show _ ∧ _
  rw [hz]
  have he := Heap.get?_push_size (s.heap.push o) (o := { cls := .type "enumerate", data := .fields #[.none, .bool false, .ref s.heap.objs.size, rawInt 0, .none, .none] }) rfl
  rw [hz] at he
  exact ⟨⟨_, he, rfl⟩, h _ he (Heap.get?_push_of_some _ (Heap.get?_push_size _ B.free)) fun b u x => Heap.get?_push_of_some _ (Heap.get?_push_of_some _ x)⟩

/-! ### lists and tuples alike -/
def SqV (K : PySem.W.Frag) (H : Hp) (b : Bool) (a : Addr) (xs : List V) : Prop := match b with
  | true => SqL K H a xs
  | false => SqT K H a xs
def SrcA (b : Bool) (l : Addr) (items : Array Value) (h : Heap) : Prop := match b with
  | true => h.IsList l items
  | false => h.IsTuple l items
def ItA (b : Bool) (it l : Addr) (i : Nat) (h : Heap) : Prop := match b with
  | true => h.IsListIter it l i
  | false => h.IsTupleIter it l i
def itObj (b : Bool) (l : Addr) : Obj := match b with
  | true => { cls := .type "list_iterator", data := .fields #[.ref l, .int 0 0] }
  | false => { cls := .type "tuple_iterator", data := .fields #[.ref l, .int 0 0] }
theorem draws_sq {prog : Program} {w : World} {A : Around} (b : Bool) (hh : A.handled = none) (it l : Addr) (hne : l ≠ it) (items : Array Value) :
    Draws prog w A it [it, l] items.size (fun i v => items[i]? = some v) (fun i h => ItA b it l i h ∧ SrcA b l items h) := by
  cases b with
  | true => exact Draws.list hh it l hne items
  | false => exact Draws.tuple hh it l hne items
theorem begins_sq (b : Bool) (l : Addr) (items : Array Value) : Begins (.ref l) (itObj b l) (SrcA b l items) := by
  cases b with
  | true => exact begins_list l items
  | false => exact begins_tuple l items
theorem ItA.at {b : Bool} {it l : Addr} {i : Nat} {h h' : Heap} (x : ItA b it l i h) (e : ∀ o, h.get? it = some o → h'.get? it = some o) : ItA b it l i h' := by
  cases b with
  | true => exact Heap.IsListIter.at x e
  | false => exact Heap.IsTupleIter.at x e
theorem ItA.obj {b : Bool} {it l : Addr} {i : Nat} {h : Heap} (x : ItA b it l i h) : ∃ o, h.get? it = some o ∧ ∀ v, o.data ≠ .cell v := by
  cases b with
  | true => obtain ⟨o, e, c, d⟩ := (show h.IsListIter it l i from x); exact ⟨o, e, fun v z => by rw [d] at z; cases z⟩
  | false => obtain ⟨o, e, c, d⟩ := (show h.IsTupleIter it l i from x); exact ⟨o, e, fun v z => by rw [d] at z; cases z⟩
theorem ItA.first {b : Bool} {it l : Addr} {h : Heap} (e : h.get? it = some (itObj b l)) : ItA b it l 0 h := by
  cases b with
  | true => exact ⟨_, e, rfl, rfl⟩
  | false => exact ⟨_, e, rfl, rfl⟩
section
variable {X : Cx} {pins : List (Addr × Obj)} {σ : L2.St} {H : Hp} {s : Shared}
theorem inv_sq {b : Bool} {a : Addr} {xs : List V} (I : Inv X pins σ H s) (h : SqV X.K H b a xs) : ∃ its : List Value, Vals xs its ∧ SrcA b a its.toArray s.heap ∧ a < s.heap.objs.size := by
  cases b with
  | true =>
    obtain ⟨its, rv, p, _⟩ := I.list h
    exact ⟨its, rv, p.isList, p.lt⟩
  | false =>
    obtain ⟨its, rv, p, _⟩ := I.tuple h
    obtain ⟨o, ho, _⟩ := id p
    exact ⟨its, rv, p, Heap.lt_size ho⟩
end
/-- an iterator that gives new tuples -/
def Jt (n : Nat) (S : Hp → Prop) (vals : Nat → List V) : It := ⟨fun i H => i < n ∧ S H, fun i H x H' => ∃ T, H T = none ∧ x = .ref T ∧ H' = upd H T (.tup (vals i)), fun i H => i = n ∧ S H⟩
theorem turn_new {P : Program} {w : World} {K : PySem.W.Frag} {elts : List Expr} {kk : Nat} {tpos : Pos} {I : Addr} {fp srcs wr : List Addr} {n : Nat} {ι : Type} {tn : Nat → Heap → Prop} {src : ι → Heap → Prop} {items : ι → Nat → List Value → Prop} {S : Hp → Prop} {vals : Nat → List V}
    (W : ∀ (a : ι) (A : Around), A.handled = none → GoesN P w A (.Tuple elts kk tpos) I (fp ++ srcs) wr n (fun i h₀ v h => ∃ T us, v = .ref T ∧ h₀.objs.size ≤ T ∧ items a i us ∧ h.IsTuple T us.toArray) (fun i h => tn i h ∧ src a h))
    (mem : I ∈ fp) (wrf : ∀ b ∈ wr, b ∈ fp) (obj : ∀ i h, tn i h → ∀ b ∈ fp, ∃ o, h.get? b = some o ∧ ∀ v, o.data ≠ .cell v) (keep : ∀ i h h', tn i h → (∀ b ∈ fp, ∀ o, h.get? b = some o → h'.get? b = some o) → tn i h')
    (hS : ∀ (X : Cx) (pins : List (Addr × Obj)) (σ : L2.St) (H : Hp) (s : Shared), X.prog = P → X.w = w → X.K = K → Inv X pins σ H s → S H → ∃ a, src a s.heap ∧ ∀ i us, i < n → items a i us → Vals (vals i) us)
    (small : ∀ i, (vals i).length ≤ sizeLine)
    (self : ∀ (A : Around) (i : Nat) (s : Shared) (Q : Value → Shared → Prop) (E : Value → Shared → Prop), tn i s.heap → Q (.ref I) s → wpAny (model P w) A (pyIter (.ref I)) Q E s) : Turn P w K (.Tuple elts kk tpos) (Jt n S vals) fp I tn where
  mem := mem
  obj := obj
  keep := keep
  item := fun X hP hw hK hc i pins s σ H E J hf st ⟨hi, hs⟩ => by
    obtain ⟨a, hsrc, hv⟩ := hS X pins σ H s hP hw hK J hs
    refine (W a X.A (J.ok.hd hc)).goes i s _ E hi ⟨st, hsrc⟩ fun v h' tk ⟨T, us, ev, hT, hit, htup⟩ st' hk _ => ?_
    have hvv := hv i us hi hit
    have k' : ∀ b o, b ∉ fp → s.heap.get? b = some o → h'.get? b = some o := fun b o hb e => hk b o (fun z => hb (wrf b z)) e
    have J' : Inv X pins σ (upd H T (.tup (vals i))) { s with heap := h', toks := tk } := J.turnedNew k' hf hT ⟨small i, us, hvv, htup⟩
    refine ⟨.ref T, _, J', by rw [ev]; rfl, ⟨T, J.hok.fresh hT, rfl, rfl⟩, st'.1, fun b hb => ?_⟩
    have hb0 := (hf b hb).1
    obtain ⟨o, e, _⟩ := obj i _ st b hb
    rw [upd_ne (Nat.ne_of_lt (Nat.lt_of_lt_of_le (Heap.lt_size e) hT))]
    exact hb0
  done := fun X hP hw hK hc i pins s σ H E J hf st ⟨hi, hs⟩ => by
    obtain ⟨a, hsrc, hv⟩ := hS X pins σ H s hP hw hK J hs
    subst hi
    refine wpAny_mono ((W a X.A (J.ok.hd hc)).stops s (fun s1 => Inv X pins σ H s1) E ⟨st, hsrc⟩ fun h' tk hk _ => ?_) (fun r s1 h1 => h1) fun _ _ z => z
    exact J.turnedL (ch := fp) (fun b o hb e => hk b o (fun z => hb (wrf b z)) e) hf
  self := self

/-! ### zip, enumerate -/
section
variable {X : Cx}
def iZip2 (K : PySem.W.Frag) (ta : TA) : TI := fun σ H R => ta σ H fun vs H1 => ∃ b1 b2 a1 a2 xs ys, vs = [.ref a1, .ref a2] ∧ SqV K H1 b1 a1 xs ∧ SqV K H1 b2 a2 ys ∧
  R (Jt (min xs.length ys.length) (fun H => SqV K H b1 a1 xs ∧ SqV K H b2 a2 ys) fun i => [xs.getD i .non, ys.getD i .non]) H1
theorem getD_vals {xs : List V} {its : List Value} {i : Nat} {x : Value} (r : Vals xs its) (h : its.toArray[i]? = some x) : RelV (xs.getD i .non) x := by
  have h' : its[i]? = some x := by simpa using h
  have hi : i < xs.length := by rw [r.length]; exact (List.getElem?_eq_some_iff.mp h').1
  obtain ⟨u, hu, ru⟩ := r.get (List.getElem?_eq_getElem hi)
  rw [hu] at h'
  cases h'
  rw [List.getD_eq_getElem?_getD, List.getElem?_eq_getElem hi]
  exact ru
theorem pi_zip2 {e e2 : Expr} {ta : TA} {p pos tpos : Pos} {elts : List Expr} {kk : Nat} (hg : Gl X "zip") (hm : X.mg "zip" = none) (ha : PA X [e, e2] ta)
    (hs : starEach [e, e2] X.env = (false, eval e X.env) :: starEach [e2] X.env) (hpl : (backTo pos (starEach [e2] X.env)).any (·.1) = false) :
    PI X (.Tuple elts kk tpos) (.Call (.Name "zip" p) [e, e2] [] pos) (iZip2 X.K ta) := by
  refine ⟨fun pins s σ H R I h => ?_⟩
  refine PyProof.Rows.Call_ (ld_blt I hg hm PyProof.Rows.boot_zip (PyProof.Rows.callWith_type1 (thn (ha.run pos pins s σ H _ I h) fun us s1 ⟨vs, H1, I1, rv, q1⟩ => ?_) hs hpl))
  obtain ⟨b1, b2, a1, a2, xs, ys, ev, hx, hy, q⟩ := q1
  subst ev
  obtain ⟨u1, u2, eu, r1, r2⟩ := vals2 rv
  subst eu
  obtain rfl : u1 = Value.ref a1 := r1
  obtain rfl : u2 = Value.ref a2 := r2
  obtain ⟨i1, rv1, p1, l1⟩ := inv_sq I1 hx
  obtain ⟨i2, rv2, p2, l2⟩ := inv_sq I1 hy
  refine zip_begins2 (begins_sq b1 a1 i1.toArray) (begins_sq b2 a2 i2.toArray) p1 p2 fun h' hz hTI hTO g1 g2 hsz hk => wpAny_pyIter_zip hz ?_
  have I2 : Inv X pins σ H1 { s1 with heap := h' } := I1.kept (t' := s1.toks) hk
  have sep := zip_sep2 (N := s1.heap.objs.size) (fp1 := [a1]) (fp2 := [a2]) (by simpa using l1) (by simpa using l2)
  have len1 := rv1.length
  have len2 := rv2.length
  refine ⟨s1.heap.objs.size + 4, [s1.heap.objs.size + 4, s1.heap.objs.size + 2, s1.heap.objs.size + 3, s1.heap.objs.size, s1.heap.objs.size + 1],
    fun i h => IsZip h (s1.heap.objs.size + 4) (s1.heap.objs.size + 2) (s1.heap.objs.size + 3) .none ∧ IsTupOf2 h (s1.heap.objs.size + 2) (.ref s1.heap.objs.size) (.ref (s1.heap.objs.size + 1)) ∧ (∃ c1 c2, IsTupOf2 h (s1.heap.objs.size + 3) c1 c2) ∧ ItA b1 s1.heap.objs.size a1 i h ∧ ItA b2 (s1.heap.objs.size + 1) a2 i h,
    _, H1, rfl, I2, turn_new (ι := { p : List Value × List Value // Vals xs p.1 ∧ Vals ys p.2 }) (srcs := [a1, a2]) (wr := [s1.heap.objs.size + 4, s1.heap.objs.size + 3, s1.heap.objs.size, s1.heap.objs.size + 1]) (src := fun a h => SrcA b1 a1 a.1.1.toArray h ∧ SrcA b2 a2 a.1.2.toArray h)
      (items := fun a i us => ∃ x y, a.1.1.toArray[i]? = some x ∧ a.1.2.toArray[i]? = some y ∧ us = [x, y]) (fun a A hA => ?_) ?_ ?_ ?_ ?_ ?_ ?_ ?_, ⟨hz, hTI, ⟨_, _, hTO⟩, ItA.first g1, ItA.first g2⟩, ?_, q⟩
  · have ln1 : a.1.1.toArray.size = xs.length := by rw [List.size_toArray]; exact a.2.1.length.symm
    have ln2 : a.1.2.toArray.size = ys.length := by rw [List.size_toArray]; exact a.2.2.length.symm
    have G := GoesN.zip2 (elts := elts) (x1 := kk) (pos := tpos) sep (draws_sq (prog := X.prog) (w := X.w) (A := A.in1) b1 hA s1.heap.objs.size a1 (Nat.ne_of_lt l1) a.1.1.toArray) (draws_sq (prog := X.prog) (w := X.w) (A := A.in1) b2 hA (s1.heap.objs.size + 1) a2 (Nat.ne_of_lt (Nat.lt_succ_of_lt l2)) a.1.2.toArray)
    rw [ln1, ln2] at G
    refine ⟨fun b hb => ?_, fun i h h'' st k => ?_, fun i s Q E hi st hQ => ?_, fun s Q E st hQ => ?_, fun i s Q E st hQ => ?_⟩
    · have := G.sub b hb
      simp only [List.mem_cons, List.mem_append, List.not_mem_nil, or_false] at this ⊢
      rcases this with z | z | z | (z | z) | (z | z) <;> simp [z]
    · obtain ⟨⟨z1, z2, z3, z4, z5⟩, z6, z7⟩ := st
      have F := G.frame i h h'' ⟨z1, z2, z3, ⟨z4, z6⟩, ⟨z5, z7⟩⟩ fun b hb => k b (by
        simp only [List.mem_cons, List.mem_append, List.not_mem_nil, or_false] at hb ⊢
        rcases hb with z | z | z | (z | z) | (z | z) <;> simp [z])
      exact ⟨⟨F.1, F.2.1, F.2.2.1, F.2.2.2.1.1, F.2.2.2.2.1⟩, F.2.2.2.1.2, F.2.2.2.2.2⟩
    · obtain ⟨⟨z1, z2, z3, z4, z5⟩, z6, z7⟩ := st
      refine G.goes i s Q E hi ⟨z1, z2, z3, ⟨z4, z6⟩, ⟨z5, z7⟩⟩ fun v h'' tk ⟨T, x, y, ev, hT, hx, hy, ht⟩ F => hQ v h'' tk ⟨T, [x, y], ev, hT, ⟨x, y, hx, hy, rfl⟩, ht⟩ ⟨⟨F.1, F.2.1, F.2.2.1, F.2.2.2.1.1, F.2.2.2.2.1⟩, F.2.2.2.1.2, F.2.2.2.2.2⟩
    · obtain ⟨⟨z1, z2, z3, z4, z5⟩, z6, z7⟩ := st
      exact G.stops s Q E ⟨z1, z2, z3, ⟨z4, z6⟩, ⟨z5, z7⟩⟩ hQ
    · exact wpAny_pyIter_zip st.1.1 hQ
  · simp
  · intro b hb
    simp only [List.mem_cons, List.not_mem_nil, or_false] at hb ⊢
    rcases hb with z | z | z | z <;> simp [z]
  · rintro i h ⟨z1, z2, ⟨c1, c2, z3⟩, z4, z5⟩ b hb
    simp only [List.mem_cons, List.not_mem_nil, or_false] at hb
    rcases hb with z | z | z | z | z <;> subst z
    · exact ⟨_, z1, fun v z => by cases z⟩
    · exact ⟨_, z2, fun v z => by cases z⟩
    · exact ⟨_, z3, fun v z => by cases z⟩
    · exact z4.obj
    · exact z5.obj
  · rintro i h h'' ⟨z1, z2, ⟨c1, c2, z3⟩, z4, z5⟩ k
    exact ⟨k _ (by simp) _ z1, k _ (by simp) _ z2, ⟨c1, c2, k _ (by simp) _ z3⟩, z4.at (k _ (by simp)), z5.at (k _ (by simp))⟩
  · intro Y pins σ H s _ _ hK J ⟨h1, h2⟩
    rw [← hK] at h1 h2
    obtain ⟨j1, w1, s1', _⟩ := inv_sq J h1
    obtain ⟨j2, w2, s2', _⟩ := inv_sq J h2
    refine ⟨⟨(j1, j2), w1, w2⟩, ⟨s1', s2'⟩, ?_⟩
    rintro i us _ ⟨x, y, hx, hy, rfl⟩
    exact .cons (getD_vals w1 hx) (.cons (getD_vals w2 hy) .nil)
  · intro i; show 2 ≤ sizeLine; decide
  · exact fun A i s Q E st hQ => wpAny_pyIter_zip st.1 hQ
  · intro c hc
    have hle : s1.heap.objs.size ≤ c := by
      simp only [List.mem_cons, List.not_mem_nil, or_false] at hc
      rcases hc with z | z | z | z | z <;> subst z <;> first | exact Nat.le_add_right _ _ | exact Nat.le_refl _
    exact I1.fpOk hle (I1.hok.fresh hle)
def iEnum1 (K : PySem.W.Frag) (ta : TA) : TI := fun σ H R => ta σ H fun vs H1 => ∃ b1 a1 xs, vs = [.ref a1] ∧ SqV K H1 b1 a1 xs ∧ R (Jt xs.length (fun H => SqV K H b1 a1 xs) fun i => [.int i, xs.getD i .non]) H1
theorem pi_enum1 {e : Expr} {ta : TA} {p pos tpos : Pos} {elts : List Expr} {kk : Nat} (hg : Gl X "enumerate") (hm : X.mg "enumerate" = none) (ha : PA X [e] ta)
    (hs : starEach [e] X.env = (false, eval e X.env) :: starEach [] X.env) (hpl : (backTo pos (starEach [] X.env)).any (·.1) = false) :
    PI X (.Tuple elts kk tpos) (.Call (.Name "enumerate" p) [e] [] pos) (iEnum1 X.K ta) := by
  refine ⟨fun pins s σ H R I h => ?_⟩
  refine PyProof.Rows.Call_ (ld_blt I hg hm PyProof.Rows.boot_enumerate (PyProof.Rows.callWith_type1 (thn (ha.run pos pins s σ H _ I h) fun us s1 ⟨vs, H1, I1, rv, q1⟩ => ?_) hs hpl))
  obtain ⟨b1, a1, xs, ev, hx, q⟩ := q1
  subst ev
  obtain ⟨u1, eu, r1⟩ := vals1 rv
  subst eu
  obtain rfl : u1 = Value.ref a1 := r1
  obtain ⟨i1, rv1, p1, l1⟩ := inv_sq I1 hx
  refine enum1_begins (begins_sq b1 a1 i1.toArray) p1 fun h' hz g1 hk => wpAny_pyIter_enum hz ?_
  have I2 : Inv X pins σ H1 { s1 with heap := h' } := I1.kept (t' := s1.toks) hk
  have len1 := rv1.length
  have N0 : (s1.heap.objs.size + 1 : Nat) ≠ s1.heap.objs.size := by omega
  have N1 : (s1.heap.objs.size + 1 : Nat) ∉ [s1.heap.objs.size, a1] := by
    have : (a1 : Nat) < s1.heap.objs.size := l1
    intro z
    simp only [List.mem_cons, List.not_mem_nil, or_false] at z
    rcases z with z | z
    · exact absurd z N0
    · exact absurd z (Nat.ne_of_gt (Nat.lt_succ_of_lt this))
  refine ⟨s1.heap.objs.size + 1, [s1.heap.objs.size + 1, s1.heap.objs.size], fun i h => (∃ old, IsEnum h (s1.heap.objs.size + 1) s1.heap.objs.size (0 + (i : Int)) old) ∧ ItA b1 s1.heap.objs.size a1 i h,
    _, H1, rfl, I2, turn_new (ι := { p : List Value // Vals xs p }) (srcs := [a1]) (wr := [s1.heap.objs.size + 1, s1.heap.objs.size]) (src := fun a h => SrcA b1 a1 a.1.toArray h)
      (items := fun a i us => ∃ t x, a.1.toArray[i]? = some x ∧ us = [.int (0 + (i : Int)) t, x]) (fun a A hA => ?_) ?_ ?_ ?_ ?_ ?_ ?_ ?_, ⟨⟨_, hz⟩, ItA.first g1⟩, ?_, q⟩
  · have ln1 : a.1.toArray.size = xs.length := by rw [List.size_toArray]; exact a.2.length.symm
    have G := GoesN.enumFrom (elts := elts) (x1 := kk) (pos := tpos) 0 (draws_sq (prog := X.prog) (w := X.w) (A := A.in1) b1 hA s1.heap.objs.size a1 (Nat.ne_of_lt l1) a.1.toArray) (s1.heap.objs.size + 1) N0 N1 (by simp)
    rw [ln1] at G
    refine ⟨fun b hb => ?_, fun i h h'' st k => ?_, fun i s Q E hi st hQ => ?_, fun s Q E st hQ => ?_, fun i s Q E st hQ => ?_⟩
    · have := G.sub b hb
      simp only [List.mem_cons, List.mem_append, List.not_mem_nil, or_false] at this ⊢
      rcases this with z | z | z <;> simp [z]
    · obtain ⟨⟨z1, z4⟩, z6⟩ := st
      have F := G.frame i h h'' ⟨z1, z4, z6⟩ fun b hb => k b (by
        simp only [List.mem_cons, List.mem_append, List.not_mem_nil, or_false] at hb ⊢
        rcases hb with z | z | z <;> simp [z])
      exact ⟨⟨F.1, F.2.1⟩, F.2.2⟩
    · obtain ⟨⟨z1, z4⟩, z6⟩ := st
      refine G.goes i s Q E hi ⟨z1, z4, z6⟩ fun v h'' tk ⟨T, t, x, ev, hT, hx, ht⟩ F => hQ v h'' tk ⟨T, [_, x], ev, hT, ⟨t, x, hx, rfl⟩, ht⟩ ⟨⟨F.1, F.2.1⟩, F.2.2⟩
    · obtain ⟨⟨z1, z4⟩, z6⟩ := st
      exact G.stops s Q E ⟨z1, z4, z6⟩ hQ
    · obtain ⟨⟨⟨old, z1⟩, z4⟩, z6⟩ := st
      exact wpAny_pyIter_enum z1 hQ
  · simp
  · intro b hb; exact hb
  · rintro i h ⟨⟨old, z1⟩, z4⟩ b hb
    simp only [List.mem_cons, List.not_mem_nil, or_false] at hb
    rcases hb with z | z <;> subst z
    · exact ⟨_, z1, fun v z => by cases z⟩
    · exact z4.obj
  · rintro i h h'' ⟨⟨old, z1⟩, z4⟩ k
    exact ⟨⟨old, k _ (by simp) _ z1⟩, z4.at (k _ (by simp))⟩
  · intro Y pins σ H s _ _ hK J h1
    rw [← hK] at h1
    obtain ⟨j1, w1, s1', _⟩ := inv_sq J h1
    refine ⟨⟨j1, w1⟩, s1', ?_⟩
    rintro i us _ ⟨t, x, hx, rfl⟩
    exact .cons ⟨t, by rw [Int.zero_add]⟩ (.cons (getD_vals w1 hx) .nil)
  · intro i; show 2 ≤ sizeLine; decide
  · rintro A i s Q E ⟨⟨old, z1⟩, z4⟩ hQ
    exact wpAny_pyIter_enum z1 hQ
  · intro c hc
    have hle : s1.heap.objs.size ≤ c := by
      simp only [List.mem_cons, List.not_mem_nil, or_false] at hc
      rcases hc with z | z <;> subst z <;> first | exact Nat.le_add_right _ _ | exact Nat.le_refl _
    exact I1.fpOk hle (I1.hok.fresh hle)
end
end Rm
set_option Elab.async false
set_option linter.all false
set_option maxRecDepth 100000
set_option maxHeartbeats 4000000
/-! Rm, F: the rules for what is walked; comprehensions. -/
namespace Rm
open PySem L2

section
variable {g : G} {W : Nat → Bool} {E : Ends} {H H1 H2 H' : Hp} {Fz Fz1 Fz2 Fz' : Addr → Prop} {fp fp1 fp2 fp' : List Addr} {ρ ρ' : Env} {σ σ1 σ' : L2.St}
def shr (xs : List D) : List D := if noOwns xs = true then xs else frzs xs
theorem shr_eq (xs : List D) : shr xs = frzs xs := by
  unfold shr
  split
  · rename_i h
    rw [frzs_map]
    exact ((List.map_congr_left fun x hx => frz_of x (noOwns_mem h x hx)).trans (List.map_id _)).symm
  · rfl
theorem shr_of {xs : List D} (h : noOwns xs = true) : shr xs = xs := if_pos h
/-- what is shared, and known -/
def Shd (g : G) (d : D) (v : V) (H : Hp) (Fz : Addr → Prop) : Prop := Rep g H Fz d v []
theorem Shd.keep {d : D} {v : V} {f : List Addr} (k : Keep H Fz f H' Fz') (h : Shd g d v H Fz) : Shd g d v H' Fz' := Rep.keep d v [] (k.sub fun a ha => by cases ha) h
theorem shd_lst {xs : List D} {v : V} (h : Shd g (.lst false xs) v H Fz) : ∃ a vs, v = .ref a ∧ SqL g.K H a vs ∧ Reps g H Fz xs vs [] := by
  unfold Shd Rep at h
  obtain ⟨a, vs, f', ev, nd, hr⟩ := h
  rcases nd with ⟨e, _⟩ | ⟨_, _, h2, e⟩
  · cases e
  · subst e
    exact ⟨a, vs, ev, .inl (.inl h2), hr⟩
theorem shd_tup {xs : List D} {v : V} (h : Shd g (.tup xs) v H Fz) : ∃ a vs, v = .ref a ∧ SqT g.K H a vs ∧ Reps g H Fz xs vs [] := by
  unfold Shd Rep at h
  exact h
theorem reps_len {xs : List D} {vs : List V} {f : List Addr} (h : Reps g H Fz xs vs f) : xs.length = vs.length := (reps_seq.mp h).len
theorem reps_nil_get : ∀ {xs : List D} {vs : List V}, Reps g H Fz xs vs [] → ∀ {i : Nat} {x : D} {v : V}, xs[i]? = some x → vs[i]? = some v → Rep g H Fz x v []
  | [], _, _, _, _, _, e, _ => by simp at e
  | d :: ds, vs, h, i, x, v, e1, e2 => by
    unfold Reps at h
    obtain ⟨w, vs', f1, f2, ev, ef, h1, h2⟩ := h
    have ef' := List.append_eq_nil_iff.mp ef.symm
    obtain ⟨rfl, rfl⟩ := ef'
    subst ev
    cases i with
    | zero =>
      have q1 : d = x := by simpa using e1
      have q2 : w = v := by simpa using e2
      subst q1 q2
      exact h1
    | succ i => exact reps_nil_get h2 (by simpa using e1) (by simpa using e2)
/-- the thing ahead is shared, and let go of -/
theorem SRel.shareTop {d : D} {v : V} (h : SRel g Fz (some d :: ρ) (some v :: σ) H fp) : ∃ Fz' fp', Ext H Fz fp H Fz' fp' ∧ SRel g Fz' ρ σ H fp' ∧ Shd g (Rm.frz d) v H Fz' := by
  obtain ⟨Fz', fp', x, r⟩ := h.frzTop
  obtain ⟨f1, fp1, e, ⟨w, ew, hr⟩, r1, _⟩ := r.frame1
  cases ew
  have := Rep.none_of _ (frz_noOwn d) _ _ hr
  subst this
  exact ⟨Fz', fp1, x.shrink fun a ha => by rw [e]; exact List.mem_append_right _ ha, r1, hr⟩
theorem pi_or {X : Cx} {tg e : Expr} {t1 t2 t : TI} (h1 : PI X tg e t1) (h2 : PI X tg e t2) (k : ∀ σ H R, t σ H R → t1 σ H R ∨ t2 σ H R) : PI X tg e t :=
  ⟨fun pins s σ H R I q => (k σ H R q).elim (h1.run pins s σ H R I) (h2.run pins s σ H R I)⟩
theorem wk_list {a : Addr} {xs : List D} : Wk g (Itl g.K a) xs (Shd g (.lst false xs) (.ref a)) where
  go := fun i H Fz hi h => by
    obtain ⟨b, vs, e, q, r⟩ := shd_lst h
    cases e
    have hl := reps_len r
    exact ⟨vs, vs[i]'(by omega), q, List.getElem?_eq_getElem (by omega)⟩
  yld := fun i d H Fz x H' hd h ⟨e, y⟩ => by
    subst e
    obtain ⟨b, vs, e, q, r⟩ := shd_lst h
    cases e
    exact ⟨Ext.rfl', reps_nil_get r hd (y vs q)⟩
  stop := fun H Fz h => by
    obtain ⟨b, vs, e, q, r⟩ := shd_lst h
    cases e
    exact ⟨vs, q, Nat.le_of_eq (reps_len r).symm⟩
  keep := fun H Fz f H' Fz' k h => h.keep k
theorem wk_tup {a : Addr} {xs : List D} : Wk g (Itt g.K a) xs (Shd g (.tup xs) (.ref a)) where
  go := fun i H Fz hi h => by
    obtain ⟨b, vs, e, q, r⟩ := shd_tup h
    cases e
    have hl := reps_len r
    exact ⟨vs, vs[i]'(by omega), q, List.getElem?_eq_getElem (by omega)⟩
  yld := fun i d H Fz x H' hd h ⟨e, y⟩ => by
    subst e
    obtain ⟨b, vs, e, q, r⟩ := shd_tup h
    cases e
    exact ⟨Ext.rfl', reps_nil_get r hd (y vs q)⟩
  stop := fun H Fz h => by
    obtain ⟨b, vs, e, q, r⟩ := shd_tup h
    cases e
    exact ⟨vs, q, Nat.le_of_eq (reps_len r).symm⟩
  keep := fun H Fz f H' Fz' k h => h.keep k
/-- a list or a tuple -/
def mSeq (m : M) : MI := fun ρ => match m ρ with
  | some (.lst _ xs, ρ1) => some (shr xs, ρ1)
  | some (.tup xs, ρ1) => some (shr xs, ρ1)
  | _ => none
theorem i_seq {X : Cx} {tg e : Expr} {m : M} (hK : X.K = g.K) (h : PE X e (tE g m)) : PI X tg e (tI g (mSeq m)) := by
  refine pi_or (pi_list h) (pi_tup h) fun σ H R ⟨Fz, ρ, fp, ds, ρ', hs, e, k⟩ => ?_
  unfold mSeq at e
  split at e
  · rename_i o xs ρ1 e1
    cases e
    refine .inl ⟨Fz, ρ, fp, _, _, hs, e1, fun v H' Fz' fp' x r => ?_⟩
    obtain ⟨Fz2, fp2, x2, r2, sh⟩ := r.shareTop
    have sh' : Shd g (.lst false (frzs xs)) v H' Fz2 := sh
    obtain ⟨a, vs, ev, q, hr⟩ := shd_lst sh'
    subst ev
    rw [hK]
    refine ⟨a, rfl, ⟨vs, q⟩, k (Itl g.K a) _ H' Fz2 fp2 (x.trans x2) r2 ?_ sh'⟩
    rw [shr_eq]
    exact wk_list
  · rename_i xs ρ1 e1
    cases e
    refine .inr ⟨Fz, ρ, fp, _, _, hs, e1, fun v H' Fz' fp' x r => ?_⟩
    obtain ⟨Fz2, fp2, x2, r2, sh⟩ := r.shareTop
    have sh' : Shd g (.tup (frzs xs)) v H' Fz2 := sh
    obtain ⟨a, vs, ev, q, hr⟩ := shd_tup sh'
    subst ev
    rw [hK]
    refine ⟨a, rfl, ⟨vs, q⟩, k (Itt g.K a) _ H' Fz2 fp2 (x.trans x2) r2 ?_ sh'⟩
    rw [shr_eq]
    exact wk_tup
  · cases e
/-! ### ranges -/
def rangeD (lo : Int) (n : Nat) : List D := (List.range n).map fun (i : Nat) => .int (lo + (i : Int))
def rangeN (lo c : Int) (n : Nat) : List D := (List.range n).map fun (i : Nat) => .int (lo + (i : Int) * c)
theorem wk_range {lo : Int} {n : Nat} : Wk g (Itr lo n) (rangeD lo n) (fun _ _ => True) where
  go := fun i H Fz hi _ => by show i < n; simpa [rangeD] using hi
  yld := fun i d H Fz x H' hd _ ⟨e, y⟩ => by
    subst e y
    have hi : i < n := by have := (List.getElem?_eq_some_iff.mp hd).1; simpa [rangeD] using this
    have : d = .int (lo + (i : Int)) := by
      unfold rangeD at hd
      rw [List.getElem?_map, List.getElem?_range hi] at hd
      exact (Option.some.inj hd).symm
    subst this
    exact ⟨Ext.rfl', rep_int _⟩
  stop := fun H Fz _ => by show n ≤ (rangeD lo n).length; simp [rangeD]
  keep := fun _ _ _ _ _ _ _ => trivial
theorem wk_rangeC {lo c : Int} {n : Nat} : Wk g (Itc lo c n) (rangeN lo c n) (fun _ _ => True) where
  go := fun i H Fz hi _ => by show i < n; simpa [rangeN] using hi
  yld := fun i d H Fz x H' hd _ ⟨e, y⟩ => by
    subst e y
    have hi : i < n := by have := (List.getElem?_eq_some_iff.mp hd).1; simpa [rangeN] using this
    have : d = .int (lo + (i : Int) * c) := by
      unfold rangeN at hd
      rw [List.getElem?_map, List.getElem?_range hi] at hd
      exact (Option.some.inj hd).symm
    subst this
    exact ⟨Ext.rfl', rep_int _⟩
  stop := fun H Fz _ => by show n ≤ (rangeN lo c n).length; simp [rangeN]
  keep := fun _ _ _ _ _ _ _ => trivial
def mRange1 (o : Opd) : MI := fun ρ => match evOps [o] ρ with
  | some ([.int j], ρ1) => if -(2 ^ 62) ≤ j ∧ j < 2 ^ 62 then some (rangeD 0 j.toNat, ρ1) else none
  | _ => none
def mRange2 (o1 o2 : Opd) : MI := fun ρ => match evOps [o1, o2] ρ with
  | some ([.int i, .int j], ρ1) => if (-(2 ^ 62) ≤ i ∧ i < 2 ^ 62) ∧ (-(2 ^ 62) ≤ j ∧ j < 2 ^ 62) then some (rangeD i (j - i).toNat, ρ1) else none
  | _ => none
def mRangeB (o1 o2 o3 : Opd) : MI := fun ρ => match evOps [o1, o2, o3] ρ with
  | some ([.int i, .int j, .int (-1)], ρ1) => if (-(2 ^ 62) ≤ i ∧ i < 2 ^ 62) ∧ (-(2 ^ 62) ≤ j ∧ j < 2 ^ 62) then some (rangeN i (-1) (i - j).toNat, ρ1) else none
  | _ => none
theorem i_range1 {X : Cx} {tg a : Expr} {p pos : Pos} {o : Opd} {t : TE} (hg : Gl X "range") (hm : X.mg "range" = none) (ha : PE X a t) (ht : OpdT g [o] [t]) (hs : starEach [a] X.env = [(false, eval a X.env)]) : PI X tg (.Call (.Name "range" p) [a] [] pos) (tI g (mRange1 o)) :=
  pi_imp (pi_range1 hg hm (pa_cons ha pa_nil (by rw [hs]; rfl)) hs) fun σ H R ⟨Fz, ρ, fp, ds, ρ', hs, e, k⟩ => by
    unfold mRange1 at e
    split at e
    · rename_i j ρ1 e1
      split at e
      · rename_i hb
        cases e
        refine ops_ok [o] [t] ht hs e1 fun vs H' Fz' fp' x r hl vw => ?_
        obtain ⟨v, f, ev, hr, _⟩ := vw1 vw
        subst ev
        obtain ⟨fp3, r3, hsub⟩ := r.drops hl
        exact ⟨j, by rw [rep_int' hr], hb.1, hb.2, k (Itr 0 j.toNat) _ H' Fz' fp3 (x.shrink hsub) r3 wk_range trivial⟩
      · cases e
    · cases e
theorem i_range2 {X : Cx} {tg a b : Expr} {p pos : Pos} {o1 o2 : Opd} {t1 t2 : TE} (hg : Gl X "range") (hm : X.mg "range" = none) (ha : PE X a t1) (hb : PE X b t2) (ht : OpdT g [o1, o2] [t1, t2]) (hs : starEach [a, b] X.env = [(false, eval a X.env), (false, eval b X.env)]) (hs2 : starEach [b] X.env = [(false, eval b X.env)]) :
    PI X tg (.Call (.Name "range" p) [a, b] [] pos) (tI g (mRange2 o1 o2)) :=
  pi_imp (pi_range2 hg hm (pa_cons ha (pa_cons hb pa_nil (by rw [hs2]; rfl)) (by rw [hs, hs2])) hs hs2) fun σ H R ⟨Fz, ρ, fp, ds, ρ', hs, e, k⟩ => by
    unfold mRange2 at e
    split at e
    · rename_i i j ρ1 e1
      split at e
      · rename_i hb
        cases e
        refine ops_ok [o1, o2] [t1, t2] ht hs e1 fun vs H' Fz' fp' x r hl vw => ?_
        obtain ⟨v, w, f, f2, ev, hr, hr2, _⟩ := vw2 vw
        subst ev
        obtain ⟨fp3, r3, hsub⟩ := r.drops hl
        exact ⟨i, j, by rw [rep_int' hr, rep_int' hr2], ⟨hb.1.1, hb.1.2, hb.2.1, hb.2.2⟩, k (Itr i (j - i).toNat) _ H' Fz' fp3 (x.shrink hsub) r3 wk_range trivial⟩
      · cases e
    · cases e
theorem vw3 {d d2 d3 : D} {vs : List V} (h : Vw g H Fz fp [d, d2, d3] vs) : ∃ v w u f f2 f3, vs = [v, w, u] ∧ Rep g H Fz d v f ∧ Rep g H Fz d2 w f2 ∧ Rep g H Fz d3 u f3 := by
  obtain ⟨v, vs', f, e, r, hs, e2⟩ := h
  obtain ⟨w, u, f2, f3, e3, r2, r3, _, _⟩ := vw2 e2
  subst e3
  exact ⟨v, w, u, f, f2, f3, e, r, r2, r3⟩
theorem i_rangeB {X : Cx} {tg a b c : Expr} {p pos : Pos} {o1 o2 o3 : Opd} {t1 t2 t3 : TE} (hg : Gl X "range") (hm : X.mg "range" = none) (ha : PA X [a, b, c] (tOpsA [t1, t2, t3])) (ht : OpdT g [o1, o2, o3] [t1, t2, t3])
    (hp : ∀ {ta : TA}, PA X [a, b, c] ta → PI X tg (.Call (.Name "range" p) [a, b, c] [] pos) (iRng3 ta)) : PI X tg (.Call (.Name "range" p) [a, b, c] [] pos) (tI g (mRangeB o1 o2 o3)) :=
  pi_imp (hp ha) fun σ H R ⟨Fz, ρ, fp, ds, ρ', hs, e, k⟩ => by
    unfold mRangeB at e
    split at e
    · rename_i i j ρ1 e1
      split at e
      · rename_i hb
        cases e
        refine ops_ok [o1, o2, o3] [t1, t2, t3] ht hs e1 fun vs H' Fz' fp' x r hl vw => ?_
        obtain ⟨v, w, u, f, f2, f3, ev, hr, hr2, hr3⟩ := vw3 vw
        subst ev
        obtain ⟨fp3, r3, hsub⟩ := r.drops hl
        exact ⟨i, j, -1, (i - j).toNat, by rw [rep_int' hr, rep_int' hr2, rep_int' hr3], RgC.neg hb.1.1 hb.1.2 hb.2.1 hb.2.2, k (Itc i (-1) (i - j).toNat) _ H' Fz' fp3 (x.shrink hsub) r3 wk_rangeC trivial⟩
      · cases e
    · cases e
/-! ### zip, enumerate -/
/-- all ahead are shared -/
theorem SRel.shareAll : ∀ {ds : List D} {vs : List V} {ρ : Env} {σ : L2.St} {fp : List Addr} {Fz : Addr → Prop}, ds.length = vs.length → SRel g Fz (ds.map some ++ ρ) (vs.map some ++ σ) H fp → ∃ Fz' fp', Ext H Fz fp H Fz' fp' ∧ SRel g Fz' ρ σ H fp' ∧ Reps g H Fz' (frzs ds) vs []
  | [], [], ρ, σ, fp, Fz, _, h => ⟨Fz, fp, Ext.rfl', h, by unfold frzs Reps; exact ⟨rfl, rfl⟩⟩
  | [], _ :: _, _, _, _, _, e, _ => by cases e
  | _ :: _, [], _, _, _, _, e, _ => by cases e
  | d :: ds, v :: vs, ρ, σ, fp, Fz, e, h => by
    obtain ⟨Fz1, fp1, x1, r1, sh⟩ := SRel.shareTop (ρ := ds.map some ++ ρ) (σ := vs.map some ++ σ) h
    obtain ⟨Fz2, fp2, x2, r2, hr⟩ := SRel.shareAll (Nat.succ.inj e) r1
    refine ⟨Fz2, fp2, x1.trans x2, r2, ?_⟩
    unfold frzs Reps
    exact ⟨v, vs, [], [], rfl, rfl, sh.keep (x2.keepAll r1), hr⟩
def seqOf : D → Option (List D)
  | .lst _ xs => some (shr xs)
  | .tup xs => some (shr xs)
  | _ => none
def ShV (g : G) (b : Bool) (a : Addr) (vs : List V) (xs : List D) (H : Hp) (Fz : Addr → Prop) : Prop := (match b with
  | true => Fz a ∧ H a = some (.lst vs)
  | false => SqT g.K H a vs) ∧ Reps g H Fz xs vs []
theorem reps_keep {xs : List D} {vs : List V} {f : List Addr} (k : Keep H Fz f H' Fz') (h : Reps g H Fz xs vs []) : Reps g H' Fz' xs vs [] :=
  reps_seq.mpr (Seq3.mono (fun d v f' _ hr hs => Rep.keep d v f' (k.sub fun a ha => by cases hs a ha) hr) (reps_seq.mp h))
theorem ShV.keep {b : Bool} {a : Addr} {vs : List V} {xs : List D} {f : List Addr} (k : Keep H Fz f H' Fz') (h : ShV g b a vs xs H Fz) : ShV g b a vs xs H' Fz' := by
  refine ⟨?_, reps_keep k h.2⟩
  cases b with
  | true => exact ⟨k.mrk a h.1.1, k.fz a _ h.1.1 h.1.2⟩
  | false => exact k.sqt h.1
theorem ShV.sq {b : Bool} {a : Addr} {vs : List V} {xs : List D} (h : ShV g b a vs xs H Fz) : SqV g.K H b a vs := by
  cases b with
  | true => exact .inl (.inl h.1.2)
  | false => exact h.1
theorem seqOf_sh {d : D} {xs : List D} {v : V} (e : seqOf d = some xs) (h : Rep g H Fz (frz d) v []) : ∃ b a vs, v = .ref a ∧ ShV g b a vs xs H Fz := by
  cases d with
  | lst o ys =>
    have e' : shr ys = xs := Option.some.inj e
    unfold frz Rep at h
    obtain ⟨a, vs, f', ev, nd, hr⟩ := h
    rcases nd with ⟨z, _⟩ | ⟨_, h1, h2, ef⟩
    · cases z
    · subst ef
      rw [← e', shr_eq]
      exact ⟨true, a, vs, ev, ⟨h1, h2⟩, hr⟩
  | tup ys =>
    have e' : shr ys = xs := Option.some.inj e
    unfold frz Rep at h
    obtain ⟨a, vs, ev, q, hr⟩ := h
    rw [← e', shr_eq]
    exact ⟨false, a, vs, ev, q, hr⟩
  | _ => cases e
def zipD : List D → List D → List D
  | x :: xs, y :: ys => .tup [x, y] :: zipD xs ys
  | _, _ => []
theorem zipD_len : ∀ {xs ys : List D}, (zipD xs ys).length = min xs.length ys.length
  | [], ys => by simp [zipD]
  | x :: xs, [] => by simp [zipD]
  | x :: xs, y :: ys => by simp only [zipD, List.length_cons, zipD_len]; omega
theorem zipD_get : ∀ {xs ys : List D} {i : Nat} {d : D}, (zipD xs ys)[i]? = some d → ∃ x y, xs[i]? = some x ∧ ys[i]? = some y ∧ d = .tup [x, y]
  | [], ys, i, d, h => by simp [zipD] at h
  | x :: xs, [], i, d, h => by simp [zipD] at h
  | x :: xs, y :: ys, 0, d, h => ⟨x, y, rfl, rfl, by simpa [zipD] using h.symm⟩
  | x :: xs, y :: ys, i + 1, d, h => by
    obtain ⟨a, b, h1, h2, h3⟩ := zipD_get (i := i) (show (zipD xs ys)[i]? = some d by simpa [zipD] using h)
    exact ⟨a, b, by simpa using h1, by simpa using h2, h3⟩
theorem reps_get {xs : List D} {vs : List V} (h : Reps g H Fz xs vs []) {i : Nat} {x : D} (e : xs[i]? = some x) : ∃ v, vs[i]? = some v ∧ vs.getD i .non = v ∧ Rep g H Fz x v [] := by
  have hi : i < vs.length := by rw [← reps_len h]; exact (List.getElem?_eq_some_iff.mp e).1
  exact ⟨vs[i], List.getElem?_eq_getElem hi, by rw [List.getD_eq_getElem?_getD, List.getElem?_eq_getElem hi]; rfl, reps_nil_get h e (List.getElem?_eq_getElem hi)⟩
/-- a new tuple of shared things -/
theorem new_tup {T : Addr} {xs : List D} {vs : List V} (hT : H T = none) (h : Reps g H Fz xs vs []) : Ext H Fz [] (upd H T (.tup vs)) Fz [] ∧ Rep g (upd H T (.tup vs)) Fz (.tup xs) (.ref T) [] := by
  have x : Ext H Fz [] (upd H T (.tup vs)) Fz [] := ⟨fun b o e _ => by rw [upd_ne (ne_of_none e hT)]; exact e, fun b hb z => hb (by
    by_cases hbt : b = T
    · subst hbt; exact hT
    · rw [upd_ne hbt] at z; exact z), fun _ z => z, fun b hb => .inl hb, fun _ z => .inl z⟩
  refine ⟨x, ?_⟩
  unfold Rep
  exact ⟨T, vs, rfl, .inl (.inl upd_same), reps_keep (f := []) (x.keeps (by simp) (by simp) (by simp)) h⟩
theorem wk_zip {b1 b2 : Bool} {a1 a2 : Addr} {v1 v2 : List V} {x1 x2 : List D} (e1 : x1.length = v1.length) (e2 : x2.length = v2.length) :
    Wk g (Jt (min v1.length v2.length) (fun H => SqV g.K H b1 a1 v1 ∧ SqV g.K H b2 a2 v2) fun i => [v1.getD i .non, v2.getD i .non]) (zipD x1 x2) (fun H Fz => ShV g b1 a1 v1 x1 H Fz ∧ ShV g b2 a2 v2 x2 H Fz) where
  go := fun i H Fz hi ⟨h1, h2⟩ => ⟨by rw [zipD_len] at hi; omega, h1.sq, h2.sq⟩
  yld := fun i d H Fz x H' hd ⟨h1, h2⟩ ⟨T, hT, ex, eH⟩ => by
    subst ex eH
    obtain ⟨y1, y2, g1, g2, ed⟩ := zipD_get hd
    subst ed
    obtain ⟨w1, _, q1, r1⟩ := reps_get h1.2 g1
    obtain ⟨w2, _, q2, r2⟩ := reps_get h2.2 g2
    show Ext H Fz [] (upd H T (.tup [v1.getD i .non, v2.getD i .non])) Fz [] ∧ Rep g (upd H T (.tup [v1.getD i .non, v2.getD i .non])) Fz (.tup [y1, y2]) (.ref T) []
    rw [q1, q2]
    exact new_tup hT (reps_seq.mpr (Seq3.cons (f1 := []) r1 (Seq3.cons (f1 := []) r2 Seq3.nil)))
  stop := fun H Fz ⟨h1, h2⟩ => ⟨by rw [zipD_len, e1, e2], h1.sq, h2.sq⟩
  keep := fun H Fz f H' Fz' k ⟨h1, h2⟩ => ⟨h1.keep k, h2.keep k⟩
theorem reps2 {d d2 : D} {vs : List V} (h : Reps g H Fz [d, d2] vs []) : ∃ v w, vs = [v, w] ∧ Rep g H Fz d v [] ∧ Rep g H Fz d2 w [] := by
  have hl := reps_len h
  match vs, hl with
  | [v, w], _ => exact ⟨v, w, rfl, reps_nil_get h (i := 0) rfl rfl, reps_nil_get h (i := 1) rfl rfl⟩
theorem reps1 {d : D} {vs : List V} (h : Reps g H Fz [d] vs []) : ∃ v, vs = [v] ∧ Rep g H Fz d v [] := by
  have hl := reps_len h
  match vs, hl with
  | [v], _ => exact ⟨v, rfl, reps_nil_get h (i := 0) rfl rfl⟩
theorem tmps_e2 {m1 m2 : M} {d1 d2 : D} : tmps [.e m1, .e m2] [d1, d2] = [d1, d2].map some := rfl
def mZip2 (m1 m2 : M) : MI := fun ρ => match evOps [.e m1, .e m2] ρ with
  | some ([d1, d2], ρ1) => match seqOf d1, seqOf d2 with
    | some xs, some ys => some (zipD xs ys, ρ1)
    | _, _ => none
  | _ => none
theorem i_zip2 {X : Cx} {e e2 : Expr} {p pos tpos : Pos} {elts : List Expr} {kk : Nat} {m1 m2 : M} (hK : X.K = g.K) (hg : Gl X "zip") (hm : X.mg "zip" = none) (h1 : PE X e (tE g m1)) (h2 : PE X e2 (tE g m2))
    (hs : starEach [e, e2] X.env = (false, eval e X.env) :: starEach [e2] X.env) (hs2 : starEach [e2] X.env = (false, eval e2 X.env) :: starEach [] X.env) :
    PI X (.Tuple elts kk tpos) (.Call (.Name "zip" p) [e, e2] [] pos) (tI g (mZip2 m1 m2)) :=
  pi_imp (pi_zip2 hg hm (pa_cons h1 (pa_cons h2 pa_nil hs2) hs) hs (by rw [hs2]; rfl)) fun σ H R ⟨Fz, ρ, fp, ds, ρ', hs, e, k⟩ => by
    unfold mZip2 at e
    split at e
    · rename_i d1 d2 ρ1 e1
      split at e
      · rename_i xs ys ex ey
        cases e
        refine ops_ok [.e m1, .e m2] [tE g m1, tE g m2] ⟨_, _, rfl, fun _ _ _ z => z, _, _, rfl, fun _ _ _ z => z, rfl⟩ hs e1 fun vs H' Fz' fp' x r hl vw => ?_
        obtain ⟨v, w, f, f2, ev, _⟩ := vw2 vw
        subst ev
        obtain ⟨Fz2, fp2, x2, r2, hr⟩ := SRel.shareAll (ds := [d1, d2]) (vs := [v, w]) rfl r
        have hr' : Reps g H' Fz2 [frz d1, frz d2] [v, w] [] := hr
        obtain ⟨v', w', ev, q1, q2⟩ := reps2 hr'
        cases ev
        obtain ⟨b1, a1, vs1, ev1, sh1⟩ := seqOf_sh ex q1
        obtain ⟨b2, a2, vs2, ev2, sh2⟩ := seqOf_sh ey q2
        subst ev1 ev2
        rw [hK]
        exact ⟨b1, b2, a1, a2, vs1, vs2, rfl, sh1.sq, sh2.sq, k _ _ H' Fz2 fp2 (x.trans x2) r2 (wk_zip (reps_len sh1.2) (reps_len sh2.2)) ⟨sh1, sh2⟩⟩
      · cases e
    · cases e
def enumD : Nat → List D → List D
  | _, [] => []
  | i, x :: xs => .tup [.int i, x] :: enumD (i + 1) xs
theorem enumD_len : ∀ {xs : List D} {i : Nat}, (enumD i xs).length = xs.length
  | [], _ => rfl
  | x :: xs, i => by simp only [enumD, List.length_cons, enumD_len]
theorem enumD_get : ∀ {xs : List D} {k i : Nat} {d : D}, (enumD k xs)[i]? = some d → ∃ x, xs[i]? = some x ∧ d = .tup [.int ((k + i : Nat) : Int), x]
  | [], k, i, d, h => by simp [enumD] at h
  | x :: xs, k, 0, d, h => ⟨x, rfl, by simpa [enumD] using h.symm⟩
  | x :: xs, k, i + 1, d, h => by
    obtain ⟨a, h1, h2⟩ := enumD_get (k := k + 1) (i := i) (show (enumD (k + 1) xs)[i]? = some d by simpa [enumD] using h)
    exact ⟨a, by simpa using h1, by rw [h2]; congr 3; omega⟩
theorem wk_enum {b1 : Bool} {a1 : Addr} {v1 : List V} {x1 : List D} (e1 : x1.length = v1.length) :
    Wk g (Jt v1.length (fun H => SqV g.K H b1 a1 v1) fun i => [.int i, v1.getD i .non]) (enumD 0 x1) (ShV g b1 a1 v1 x1) where
  go := fun i H Fz hi h1 => ⟨by rw [enumD_len] at hi; omega, h1.sq⟩
  yld := fun i d H Fz x H' hd h1 ⟨T, hT, ex, eH⟩ => by
    subst ex eH
    obtain ⟨y1, g1, ed⟩ := enumD_get hd
    subst ed
    obtain ⟨w1, _, q1, r1⟩ := reps_get h1.2 g1
    show Ext H Fz [] (upd H T (.tup [.int i, v1.getD i .non])) Fz [] ∧ Rep g (upd H T (.tup [.int i, v1.getD i .non])) Fz (.tup [.int ((0 + i : Nat) : Int), y1]) (.ref T) []
    rw [q1, Nat.zero_add]
    exact new_tup hT (reps_seq.mpr (Seq3.cons (f1 := []) (rep_int _) (Seq3.cons (f1 := []) r1 Seq3.nil)))
  stop := fun H Fz h1 => ⟨by rw [enumD_len, e1], h1.sq⟩
  keep := fun H Fz f H' Fz' k h1 => h1.keep k
def mEnum (m1 : M) : MI := fun ρ => match evOps [.e m1] ρ with
  | some ([d1], ρ1) => match seqOf d1 with
    | some xs => some (enumD 0 xs, ρ1)
    | _ => none
  | _ => none
theorem i_enum {X : Cx} {e : Expr} {p pos tpos : Pos} {elts : List Expr} {kk : Nat} {m1 : M} (hK : X.K = g.K) (hg : Gl X "enumerate") (hm : X.mg "enumerate" = none) (h1 : PE X e (tE g m1))
    (hs : starEach [e] X.env = (false, eval e X.env) :: starEach [] X.env) :
    PI X (.Tuple elts kk tpos) (.Call (.Name "enumerate" p) [e] [] pos) (tI g (mEnum m1)) :=
  pi_imp (pi_enum1 hg hm (pa_cons h1 pa_nil hs) hs rfl) fun σ H R ⟨Fz, ρ, fp, ds, ρ', hs, e, k⟩ => by
    unfold mEnum at e
    split at e
    · rename_i d1 ρ1 e1
      split at e
      · rename_i xs ex
        cases e
        refine ops_ok [.e m1] [tE g m1] ⟨_, _, rfl, fun _ _ _ z => z, rfl⟩ hs e1 fun vs H' Fz' fp' x r hl vw => ?_
        obtain ⟨v, f, ev, _⟩ := vw1 vw
        subst ev
        obtain ⟨Fz2, fp2, x2, r2, hr⟩ := SRel.shareAll (ds := [d1]) (vs := [v]) rfl r
        have hr' : Reps g H' Fz2 [frz d1] [v] [] := hr
        obtain ⟨v', ev, q1⟩ := reps1 hr'
        cases ev
        obtain ⟨b1, a1, vs1, ev1, sh1⟩ := seqOf_sh ex q1
        subst ev1
        rw [hK]
        exact ⟨b1, a1, vs1, rfl, sh1.sq, k _ _ H' Fz2 fp2 (x.trans x2) r2 (wk_enum (reps_len sh1.2)) sh1⟩
      · cases e
    · cases e
end
end Rm
set_option Elab.async false
set_option linter.all false
set_option maxRecDepth 100000
set_option maxHeartbeats 4000000
/-! Rm, G: comprehensions. -/
namespace Rm
open PySem L2
section
variable {g : G} {W : Nat → Bool} {E : Ends} {H H1 H2 H' : Hp} {Fz Fz1 Fz2 Fz' : Addr → Prop} {fp fp1 fp2 fp' : List Addr} {ρ ρ' : Env} {σ σ1 σ' : L2.St}
/-! ### a list that stands ahead grows -/
theorem reps_append : ∀ {xs ys : List D} {vs ws : List V} {f f' : List Addr}, Reps g H Fz xs vs f → Reps g H Fz ys ws f' → Reps g H Fz (xs ++ ys) (vs ++ ws) (f ++ f') := fun h1 h2 => reps_seq.mpr (Seq3.append (reps_seq.mp h1) (reps_seq.mp h2))
theorem upd_keep {a : Addr} {u : HO} {f : List Addr} (hm : Mut (H a)) (hz : ¬ Fz a) (hf : a ∉ f) : Keep H Fz f (upd H a u) Fz :=
  ⟨fun b v hb e => by rw [upd_ne (show b ≠ a from fun z => hf (z ▸ hb))]; exact e, fun b v hb e => by rw [upd_ne (show b ≠ a from fun z => hz (z ▸ hb))]; exact e, fun b v hn e => by rw [upd_ne (show b ≠ a from fun z => by subst z; rw [e] at hm; exact hn hm)]; exact e, fun _ z => z⟩
theorem upd_ext {a : Addr} {u : HO} (ha : a ∈ fp) (hn : H a ≠ none) (hs : ∀ x ∈ fp', x ∈ fp) : Ext H Fz fp (upd H a u) Fz fp' :=
  ⟨fun b o e hb => by rw [upd_ne (show b ≠ a from fun z => hb (z ▸ ha))]; exact e, fun b hb z => by
    by_cases hba : b = a
    · subst hba; rw [upd_same] at z; cases z
    · rw [upd_ne hba] at z; exact hb z, fun _ z => z, fun b hb => .inl (hs b hb), fun _ z => .inl z⟩
theorem SRel.top_lst {xs : List D} {v : V} (r : SRel g Fz (some (.lst true xs) :: ρ) (some v :: σ) H fp) : ∃ a vs f' fp1, v = .ref a ∧ H a = some (.lst vs) ∧ fp = a :: (f' ++ fp1) ∧ Reps g H Fz xs vs f' ∧ Seq3 (RepO g H Fz) ρ σ fp1 := by
  obtain ⟨b, bs', f1, f2, e, ef, ⟨w, ew, hr⟩, h2⟩ := r.reps
  injection e with e1 e2
  subst e1 e2
  cases ew
  unfold Rep at hr
  obtain ⟨a, vs, f', ev, nd, hr⟩ := hr
  rcases nd with ⟨_, ha, ef1⟩ | ⟨z, _⟩
  · subst ef1
    exact ⟨a, vs, f', f2, ev, ha, ef, hr, h2⟩
  · cases z
theorem SRel.app {acc : List D} {d : D} {Da : Addr} {y : V} (r : SRel g Fz (some (.lst true acc) :: some d :: ρ) (some (.ref Da) :: some y :: σ) H fp) :
    ∃ vs fp', H Da = some (.lst vs) ∧ vs.length = acc.length ∧ SRel g Fz (some (.lst true (acc ++ [d])) :: ρ) (some (.ref Da) :: σ) (upd H Da (.lst (vs ++ [y]))) fp' ∧ Ext H Fz fp (upd H Da (.lst (vs ++ [y]))) Fz fp' := by
  obtain ⟨a, vs, f', fp1, ev, ha, ef, hr, h2⟩ := r.top_lst
  cases ev
  obtain ⟨b, bs', g1, g2, e, eg, ⟨w, ew, hd⟩, h3⟩ := h2
  injection e with e1 e2
  subst e1 e2
  cases ew
  subst eg
  have nd := r.nd
  rw [ef] at nd
  obtain ⟨na, nd2⟩ := List.nodup_cons.mp nd
  have ma : Mut (H Da) := by rw [ha]; trivial
  have za : ¬ Fz Da := r.dj Da (by rw [ef]; exact List.mem_cons_self)
  have mem : ∀ x ∈ Da :: ((f' ++ g1) ++ g2), x ∈ fp := fun x hx => by rw [ef]; simpa [List.append_assoc] using hx
  have nf : Da ∉ f' := fun z => na (by simp [z])
  have ng1 : Da ∉ g1 := fun z => na (by simp [z])
  have ng2 : Da ∉ g2 := fun z => na (by simp [z])
  have rf : ∀ {xs : List D} {us : List V} {f : List Addr}, Da ∉ f → Reps g H Fz xs us f → Reps g (upd H Da (.lst (vs ++ [y]))) Fz xs us f := fun hn h =>
    reps_seq.mpr (Seq3.mono (fun x v f0 _ hx hs => Rep.keep x v f0 (upd_keep ma za fun z => hn (hs _ z)) hx) (reps_seq.mp h))
  refine ⟨vs, Da :: ((f' ++ g1) ++ g2), ha, (reps_len hr).symm, ⟨?_, ?_, fun x hx => r.dj x (mem x hx), fun x hx z => ?_⟩, upd_ext (mem Da List.mem_cons_self) (by rw [ha]; simp) mem⟩
  · refine ⟨some (.ref Da), σ, Da :: (f' ++ g1), g2, rfl, rfl, ⟨.ref Da, rfl, ?_⟩, ?_⟩
    · unfold Rep
      refine ⟨Da, vs ++ [y], f' ++ g1, rfl, .inl ⟨rfl, upd_same, rfl⟩, reps_append (rf nf hr) ?_⟩
      have hd' : Reps g H Fz [d] [y] g1 := reps_seq.mpr (by have := Seq3.cons hd (Seq3.nil (R := Rep g H Fz)); rwa [List.append_nil] at this)
      exact rf ng1 hd'
    · exact Seq3.mono (fun x o f0 _ hx hs => RepO.keep (upd_keep ma za fun z => ng2 (hs _ z)) hx) h3
  · rw [List.append_assoc]; exact nd
  · by_cases hxa : x = Da
    · subst hxa; exact za hx
    · rw [upd_ne hxa] at z; exact r.th x hx z

/-! ### the slots of the block's own names -/
def wipeE (ρ : Env) : List Nat → Env
  | [] => ρ
  | v :: vs => (wipeE ρ vs).set v none
theorem SRel.clear1 {i : Nat} (r : SRel g Fz ρ σ H fp) : ∃ fp', SRel g Fz (ρ.set i none) (σ.set i none) H fp' ∧ ∀ a ∈ fp', a ∈ fp := by
  by_cases hi : i < ρ.length
  · have r2 : SRel g Fz (none :: ρ) (none :: σ) H fp := ⟨Seq3.cons (f1 := []) rfl r.reps, r.nd, r.dj, r.th⟩
    exact r2.put hi
  · rw [List.set_eq_of_length_le (by omega), List.set_eq_of_length_le (by rw [← r.len]; omega)]
    exact ⟨fp, r, fun _ z => z⟩
theorem SRel.wipe {vs : List Nat} (r : SRel g Fz ρ σ H fp) : ∃ fp', SRel g Fz (wipeE ρ vs) (wipe σ vs) H fp' ∧ ∀ a ∈ fp', a ∈ fp := by
  induction vs with
  | nil => exact ⟨fp, r, fun _ z => z⟩
  | cons v vs ih =>
    obtain ⟨fp1, r1, h1⟩ := ih
    obtain ⟨fp2, r2, h2⟩ := r1.clear1 (i := v)
    exact ⟨fp2, r2, fun a ha => h1 a (h2 a ha)⟩
def savOk (ρ : Env) (vs : List Nat) : Bool := vs.all fun v => match ρ[v]? with
  | some (some d) => noOwn d
  | _ => true
def restE (ρw ρ0 : Env) : List Nat → Env
  | [] => ρw
  | v :: vs => (restE ρw ρ0 vs).set v (ρ0[v]?.getD none)
def restV (σw σ0 : L2.St) : List Nat → L2.St
  | [] => σw
  | v :: vs => (restV σw σ0 vs).set v (σ0[v]?.getD none)
theorem wipe_get (σ : L2.St) (j : Nat) : ∀ vs : List Nat, (wipe σ vs)[j]? = if j ∈ vs then (σ[j]?).map (fun _ => none) else σ[j]?
  | [] => by simp [L2.wipe]
  | v :: vs => by
    unfold L2.wipe
    by_cases h : v = j
    · subst h
      rw [List.getElem?_set_self']
      have := wipe_get σ v vs
      rw [this]
      simp only [List.mem_cons, true_or, if_true]
      split <;> cases σ[v]? <;> rfl
    · rw [List.getElem?_set_ne h, wipe_get σ j vs]
      have : (j ∈ v :: vs) ↔ (j ∈ vs) := by simp [Ne.symm h]
      simp only [this]
theorem restV_get (σ : L2.St) (j : Nat) : ∀ vs : List Nat, ∀ σw : L2.St, σw.length = σ.length → (restV σw σ vs)[j]? = if j ∈ vs then σ[j]? else σw[j]?
  | [], σw, _ => by simp [restV]
  | v :: vs, σw, hl => by
    unfold restV
    have ll : ∀ vs : List Nat, (restV σw σ vs).length = σw.length := fun vs => by
      induction vs with
      | nil => rfl
      | cons v vs ih => unfold restV; rw [List.length_set, ih]
    by_cases h : v = j
    · subst h
      rw [List.getElem?_set_self']
      simp only [List.mem_cons, true_or, if_true]
      by_cases hv : v < σ.length
      · have h1 : v < (restV σw σ vs).length := by rw [ll vs, hl]; exact hv
        rw [List.getElem?_eq_getElem h1, List.getElem?_eq_getElem hv]; rfl
      · have h1 : (restV σw σ vs).length ≤ v := by rw [ll vs, hl]; omega
        rw [List.getElem?_eq_none h1, List.getElem?_eq_none (by omega)]; rfl
    · rw [List.getElem?_set_ne h, restV_get σ j vs σw hl]
      have : (j ∈ v :: vs) ↔ (j ∈ vs) := by simp [Ne.symm h]
      simp only [this]
theorem restV_wipe (σ : L2.St) (vs : List Nat) : restV (wipe σ vs) σ vs = σ := by
  apply List.ext_getElem?
  intro j
  rw [restV_get σ j vs _ (wipe_length σ vs)]
  split
  · rfl
  · rename_i h
    rw [wipe_get, if_neg h]
/-- what is copied to a slot, something standing ahead -/
theorem SRel.put0 {i : Nat} {x z : Option D} {y w : Option V} (r : SRel g Fz (x :: ρ) (y :: σ) H fp) (h : RepO g H Fz z w []) : ∃ fp', SRel g Fz (x :: ρ.set i z) (y :: σ.set i w) H fp' ∧ ∀ a ∈ fp', a ∈ fp := by
  have hl := r.len
  simp only [List.length_cons, Nat.add_right_cancel_iff] at hl
  by_cases hi : i < ρ.length
  · have r2 : SRel g Fz (z :: x :: ρ) (w :: y :: σ) H fp := ⟨Seq3.cons (f1 := []) h r.reps, r.nd, r.dj, r.th⟩
    exact r2.put (i := i + 1) (by simpa using hi)
  · rw [List.set_eq_of_length_le (by omega), List.set_eq_of_length_le (by omega)]
    exact ⟨fp, r, fun _ z => z⟩
theorem SRel.restore {x : Option D} {y : Option V} {ρ0 : Env} {σ0 : L2.St} : ∀ {vs : List Nat} {ρ : Env} {σ : L2.St} {fp : List Addr}, SRel g Fz (x :: ρ) (y :: σ) H fp → (∀ v ∈ vs, RepO g H Fz (ρ0[v]?.getD none) (σ0[v]?.getD none) []) →
    ∃ fp', SRel g Fz (x :: restE ρ ρ0 vs) (y :: restV σ σ0 vs) H fp' ∧ ∀ a ∈ fp', a ∈ fp
  | [], ρ, σ, fp, r, _ => ⟨fp, r, fun _ z => z⟩
  | v :: vs, ρ, σ, fp, r, h => by
    obtain ⟨fp1, r1, h1⟩ := SRel.restore (vs := vs) r fun u hu => h u (List.mem_cons_of_mem _ hu)
    obtain ⟨fp2, r2, h2⟩ := r1.put0 (i := v) (h v List.mem_cons_self)
    exact ⟨fp2, r2, fun a ha => h1 a (h2 a ha)⟩
theorem saved (r : SRel g Fz ρ σ H fp) {vs : List Nat} (h : savOk ρ vs = true) : ∀ v ∈ vs, RepO g H Fz (ρ[v]?.getD none) (σ[v]?.getD none) [] := fun v hv => by
  have h1 := List.all_eq_true.mp h v hv
  cases e : ρ[v]? with
  | none => exact rfl
  | some o =>
    cases o with
    | none => exact rfl
    | some d =>
      rw [e] at h1
      obtain ⟨w, ew, hr, _⟩ := r.copy e h1
      rw [ew]
      exact ⟨w, rfl, hr⟩
theorem wipe_agree {vs : List Nat} {σ σ2 : L2.St} (hl : σ2.length = σ.length) (ag : Agree (fun i => decide (i ∈ vs)) (wipe σ vs) σ2) : wipe σ2 vs = wipe σ vs := by
  apply List.ext_getElem?
  intro j
  rw [wipe_get, wipe_get]
  by_cases h : j ∈ vs
  · rw [if_pos h, if_pos h]
    by_cases hj : j < σ.length
    · rw [List.getElem?_eq_getElem hj, List.getElem?_eq_getElem (by rw [hl]; exact hj)]; rfl
    · rw [List.getElem?_eq_none (by omega), List.getElem?_eq_none (by omega)]
  · rw [if_neg h, if_neg h, ag.at_ j (by simpa using h), wipe_get, if_neg h]

/-! ### the loop -/
def compL (a : MG) (c : MT) (e : M) (vs : List Nat) : List D → List D → Env → Option (List D × Env)
  | [], acc, ρ => some (acc, ρ)
  | x :: xs, acc, ρ => match a x ρ with
    | none => none
    | some ρ1 => match c ρ1 with
      | none => none
      | some (false, ρ2) => compL a c e vs xs acc (wipeE ρ2 vs)
      | some (true, ρ2) => match e ρ2 with
        | none => none
        | some (d, ρ3) => compL a c e vs xs (acc ++ [d]) (wipeE ρ3 vs)
abbrev Wo (vs : List Nat) : Nat → Bool := fun i => decide (i ∈ vs)
theorem comp_ok {J : It} {ds : List D} {St : Hp → (Addr → Prop) → Prop} {a : MG} {c : MT} {e : M} {vs : List Nat} {Da : Addr} {Dn : Hp → Prop} {acc accF : List D} {ρF : Env} (wk : Wk g J ds St) (r : SRel g Fz (some (.lst true acc) :: ρ) (some (.ref Da) :: wipe σ vs) H fp) (st : St H Fz)
    (ev : compL a c e vs ds acc ρ = some (accF, ρF)) (hz : acc.length + ds.length ≤ 100000) (k : ∀ H' Fz' fp', Ext H Fz fp H' Fz' fp' → SRel g Fz' (some (.lst true accF) :: ρF) (some (.ref Da) :: wipe σ vs) H' fp' → Dn H') :
    ∃ Wl : Nat → Nat → Hp → Prop, (∃ m, Wl 0 m H) ∧ ∀ i m H, Wl i m H → (J.stop i H ∧ Dn H) ∨ (J.go i H ∧ ∃ Nx : Hp → Prop, (∀ H', Nx H' → ∃ m', m' < m ∧ Wl (i + 1) m' H') ∧ ∀ x H', J.yld i H x H' →
      (tG g (Wo vs) a) x (wipe σ vs) H' fun σ2 H2 => wipe σ2 vs = wipe σ vs ∧ (tT g c) σ2 H2 fun b H3 =>
        if b = true then (tE g e) σ2 H3 fun y H4 => ∃ acc, H4 Da = some (.lst acc) ∧ acc.length < sizeLine ∧ Nx (upd H4 Da (.lst (acc ++ [y]))) else Nx H3) := by
  let P : Nat → Hp → Prop := fun i H1 => i ≤ ds.length ∧ ∃ Fz1 ρ1 fp1 acc1, SRel g Fz1 (some (.lst true acc1) :: ρ1) (some (.ref Da) :: wipe σ vs) H1 fp1 ∧ St H1 Fz1 ∧ acc1.length + (ds.length - i) ≤ 100000 ∧ compL a c e vs (ds.drop i) acc1 ρ1 = some (accF, ρF) ∧
    ∀ H' Fz' fp', Ext H1 Fz1 fp1 H' Fz' fp' → SRel g Fz' (some (.lst true accF) :: ρF) (some (.ref Da) :: wipe σ vs) H' fp' → Dn H'
  refine ⟨fun i m H1 => m = ds.length - i ∧ P i H1, ⟨ds.length, by simp, Nat.zero_le _, Fz, ρ, fp, acc, r, st, by simpa using hz, by simpa using ev, k⟩, ?_⟩
  rintro i m H1 ⟨rfl, hi, Fz1, ρ1, fp1, acc1, r1, st1, hz1, e1, k1⟩
  by_cases hlt : i < ds.length
  · refine .inr ⟨wk.go i H1 Fz1 hlt st1, P (i + 1), fun H' p => ⟨ds.length - (i + 1), by omega, rfl, p⟩, fun x H' y => ?_⟩
    rw [List.drop_eq_getElem_cons hlt] at e1
    unfold compL at e1
    obtain ⟨x0, hr⟩ := wk.yld i ds[i] H1 Fz1 x H' (List.getElem?_eq_getElem hlt) st1 y
    obtain ⟨r2, x2⟩ := r1.ext0 x0
    have st2 := wk.keep _ _ _ _ _ (x0.keeps (f := []) (by simp) (by simp) (by simp)) st1
    split at e1
    · cases e1
    · rename_i ρ2 e2
      obtain ⟨fl, fr, efp, hlst, rr, kk⟩ := r2.frame1
      refine ⟨Fz1, [], [], ρ1, fr, ds[i], ρ2, rfl, rr.push hr, e2, fun σ3 H3 Fz3 fp3 x3 r3 ag3 => ?_⟩
      have r3' : SRel g Fz3 ρ2 σ3 H3 fp3 := r3
      obtain ⟨r3f, x3f⟩ := kk x3 r3'
      have st3 := wk.keep _ _ _ _ _ (x3f.keepAll r2) st2
      have hl3 : σ3.length = σ.length := ag3.len.trans (wipe_length σ vs)
      have hw3 := wipe_agree hl3 ag3
      refine ⟨hw3, ?_⟩
      -- a turn's end: the block's slots are cleared again
      have again : ∀ {H4 : Hp} {Fz4 : Addr → Prop} {fp4 : List Addr} {acc4 : List D} {ρ4 : Env}, SRel g Fz4 (some (.lst true acc4) :: ρ4) (some (.ref Da) :: σ3) H4 fp4 → Ext H1 Fz1 fp1 H4 Fz4 fp4 → St H4 Fz4 → acc4.length ≤ acc1.length + 1 →
          compL a c e vs (ds.drop (i + 1)) acc4 (wipeE ρ4 vs) = some (accF, ρF) → P (i + 1) H4 := fun {H4 Fz4 fp4 acc4 ρ4} r4 x4 st4 hl4 e4 => by
        obtain ⟨f5, fp5, ef5, hl5, rr5, kk5⟩ := r4.frame1
        obtain ⟨fp6, r6, h6⟩ := rr5.wipe (vs := vs)
        obtain ⟨r7, x7⟩ := kk5 (Ext.refl h6) r6
        rw [hw3] at r7
        exact ⟨hlt, Fz4, _, _, acc4, r7, st4, by omega, e4, fun H' Fz' fp' y q => k1 H' Fz' fp' ((x4.trans x7).trans y) q⟩
      split at e1
      · cases e1
      · rename_i ρ4 e3
        refine ⟨Fz3, ρ2, fp3, false, ρ4, r3', e3, fun H4 Fz4 fp4 x4 r4 => ?_⟩
        refine iteF ?_
        obtain ⟨r4f, x4f⟩ := kk (x3.trans x4) r4
        exact again r4f (x2.trans x4f) (wk.keep _ _ _ _ _ (x4f.keepAll r2) st2) (Nat.le_succ _) e1
      · rename_i ρ4 e3
        split at e1
        · cases e1
        · rename_i d ρ5 e5
          refine ⟨Fz3, ρ2, fp3, true, ρ4, r3', e3, fun H4 Fz4 fp4 x4 r4 => ?_⟩
          refine iteT ?_
          refine ⟨Fz4, ρ4, fp4, d, ρ5, r4, e5, fun v H5 Fz5 fp5 x5 r5 => ?_⟩
          obtain ⟨r5f, x5f⟩ := kk (x3.trans (x4.trans x5)) r5
          obtain ⟨us, fp6, hD, hlen, r6, x6⟩ := r5f.app
          have st5 := wk.keep _ _ _ _ _ (x5f.keepAll r2) st2
          refine ⟨us, hD, Nat.lt_of_lt_of_le (show us.length < 100000 by omega) (by decide), again r6 (x2.trans (x5f.trans x6)) (wk.keep _ _ _ _ _ (x6.keepAll r5f) st5) (by simp) e1⟩
  · have e0 : i = ds.length := by omega
    subst e0
    rw [List.drop_length] at e1
    unfold compL at e1
    cases e1
    exact .inl ⟨wk.stop H1 Fz1 st1, k1 H1 Fz1 fp1 Ext.rfl' r1⟩
/-- [e for .. in .. if ..] -/
def dComp (i : MI) (vs : List Nat) (a : MG) (c : MT) (e : M) : M := fun ρ => match i ρ with
  | none => none
  | some (ds, ρ1) => if savOk ρ1 vs = true ∧ ds.length ≤ 100000 then (match compL a c e vs ds [] (wipeE ρ1 vs) with
    | none => none
    | some (acc, ρ2) => some (.lst true acc, restE ρ2 ρ1 vs)) else none
theorem new_ext {p : Addr} {o : HO} (hp : H p = none) : Ext H Fz [] (upd H p o) Fz [p] where
  keep := fun b u e _ => by rw [upd_ne (ne_of_none e hp)]; exact e
  there := fun b hb z => hb (by
    by_cases hbt : b = p
    · subst hbt; exact hp
    · rw [upd_ne hbt] at z; exact z)
  mrk := fun _ z => z
  new := fun b hb => by
    have e : b = p := by simpa using hb
    exact .inr (by rw [e]; exact hp)
  fzn := fun _ z => .inl z
theorem new_lst {Da : Addr} (r : SRel g Fz ρ σ H fp) (hD : H Da = none) : SRel g Fz (some (.lst true []) :: ρ) (some (.ref Da) :: σ) (upd H Da (.lst [])) (Da :: fp) ∧ Ext H Fz fp (upd H Da (.lst [])) Fz (Da :: fp) :=
  r.fresh (new_ext hD) (List.nodup_cons.mpr ⟨by simp, List.nodup_nil⟩) (by
    unfold Rep
    exact ⟨Da, [], [], rfl, .inl ⟨rfl, upd_same, rfl⟩, by unfold Reps; exact ⟨rfl, rfl⟩⟩)
theorem tLc_ok {mi : MI} {a : MG} {c : MT} {e : M} {vs : List Nat} {σ : L2.St} {H : Hp} {Q : VK} (h : tE g (dComp mi vs a c e) σ H Q) : tLc (tI g mi) (tG g (Wo vs) a) (tT g c) (tE g e) vs σ H Q := by
  obtain ⟨Fz, ρ, fp, d, ρ', hs, ev, k⟩ := h
  unfold dComp at ev
  split at ev
  · cases ev
  · rename_i ds ρ1 e1
    split at ev
    · rename_i hc
      obtain ⟨hsav, hz⟩ := hc
      split at ev
      · cases ev
      · rename_i acc ρ2 e2
        cases ev
        refine ⟨Fz, ρ, fp, ds, ρ1, hs, e1, fun J St H1 Fz1 fp1 x1 r1 wk st Da hD => ?_⟩
        obtain ⟨fp2, r2, h2⟩ := r1.wipe (vs := vs)
        obtain ⟨r3, x3⟩ := new_lst r2 hD
        have st3 := wk.keep _ _ _ _ _ (x3.keepAll r2) st
        refine comp_ok wk r3 st3 e2 (by simpa using hz) fun H' Fz' fp' x r => ?_
        have xx : Ext H1 Fz1 fp1 H' Fz' fp' := (((Ext.refl h2).trans x3).trans x)
        obtain ⟨fp4, r4, h4⟩ := r.restore (vs := vs) (ρ0 := ρ1) (σ0 := σ) fun v hv => RepO.keep (xx.keepAll r1) (saved r1 hsav v hv)
        rw [restV_wipe] at r4
        exact k (.ref Da) H' Fz' fp4 (x1.trans (xx.shrink h4)) r4
    · cases ev
theorem e_comp {X : Cx} {elt tg iter : Expr} {ifs : List Expr} {scope : Scope} {own : List (Str × Nat)} {pos : Pos} {mi : MI} {a : MG} {c : MT} {e : M} (hc : X.calm = true) (hN : X.N.Nodup) (hi : PI X tg iter (tI g mi)) (ok : BlkOk X.N X.env.scope scope own)
    (hg : ∀ (s : Shared) (H : Hp) (C : Addr) (cl : List (Str × Addr)) (fp : List Addr), PG (X.blk s H scope (compEnvC scope cl C X.env) fp) tg (tG g (Wo (own.map (·.2))) a)) (ht : ∀ (s : Shared) (H : Hp) (C : Addr) (cl : List (Str × Addr)) (fp : List Addr), PTs (X.blk s H scope (compEnvC scope cl C X.env) fp) ifs (tT g c))
    (he : ∀ (s : Shared) (H : Hp) (C : Addr) (cl : List (Str × Addr)) (fp : List Addr), PE (X.blk s H scope (compEnvC scope cl C X.env) fp) elt (tE g e)) (hs : ∀ x, foldedSetIterable iter X.env x = pure x) :
    PE X (.ListComp elt [⟨tg, iter, ifs, 0⟩] scope pos) (tE g (dComp mi (own.map (·.2)) a c e)) := pe_imp (pe_lc hc hN hi ok hg ht he hs) fun σ H Q q => tLc_ok q
theorem s_setComp {X : Cx} {i : Nat} {y : Str} {py : Pos} {elt tg iter : Expr} {ifs : List Expr} {scope : Scope} {own : List (Str × Nat)} {pos spos : Pos} {mi : MI} {a : MG} {c : MT} {e : M} (hc : X.calm = true) (hN : X.N.Nodup) (hy : X.N[i]? = some y) (hyl : X.env.scope.names.lookup y = some .local) (hw : W i = true)
    (hsw : swapsWith (.ListComp elt [⟨tg, iter, ifs, 0⟩] scope pos) (some (.Name y py)) spos.line X.env = pure true) (hi : PI X tg iter (tI g mi)) (ok : BlkOk X.N X.env.scope scope own)
    (hg : ∀ (s : Shared) (H : Hp) (C : Addr) (cl : List (Str × Addr)) (fp : List Addr), PG (X.blk s H scope (compEnvC scope cl C X.env) fp) tg (tG g (Wo (own.map (·.2))) a)) (ht : ∀ (s : Shared) (H : Hp) (C : Addr) (cl : List (Str × Addr)) (fp : List Addr), PTs (X.blk s H scope (compEnvC scope cl C X.env) fp) ifs (tT g c))
    (he : ∀ (s : Shared) (H : Hp) (C : Addr) (cl : List (Str × Addr)) (fp : List Addr), PE (X.blk s H scope (compEnvC scope cl C X.env) fp) elt (tE g e)) (hs : ∀ x, foldedSetIterable iter X.env x = pure x) :
    PS X (.Assign [.Name y py] (.ListComp elt [⟨tg, iter, ifs, 0⟩] scope pos) spos) (tS g W (dAsg (dComp mi (own.map (·.2)) a c e) (gN i))) :=
  ps_imp (ps_setLc (i := i) hc hN hy hyl hsw hi ok hg ht he hs) fun E σ H q => by
    obtain ⟨Fz, ρ, fp, d, ρ1, r, e1, k⟩ := tAsg_ok q
    refine tLc_ok ⟨Fz, ρ, fp, d, ρ1, r, e1, fun v H' Fz' fp' x r' => ?_⟩
    obtain ⟨Fz2, hs2, us2, ρ2, fp2, d2, ρ3, hl, r2, e2, k2⟩ := k v H' Fz' fp' x r'
    unfold gN at e2
    split at e2
    · rename_i hi2
      cases e2
      obtain ⟨fp3, r3, hsub⟩ := r2.put (i := hs2.length + i) (by rw [List.length_append]; exact Nat.add_lt_add_left hi2 _)
      have e3 : (hs2 ++ ρ2).set (hs2.length + i) (some d2) = hs2 ++ ρ2.set i (some d2) := by rw [List.set_append_right _ _ (Nat.le_add_right _ _), Nat.add_sub_cancel_left]
      have e4 : (us2 ++ σ).set (hs2.length + i) (some v) = us2 ++ σ.set i (some v) := by rw [hl, List.set_append_right _ _ (Nat.le_add_right _ _), Nat.add_sub_cancel_left]
      rw [e3, e4] at r3
      exact k2 _ H' Fz2 fp3 (Ext.refl hsub) r3 (Agree.set hw)
    · cases e2
/-! ### two clauses -/
def compL2 (a : MG) (c : MT) (i1 : MI) (a1 : MG) (c1 : MT) (e : M) (vs vs1 : List Nat) : List D → List D → Env → Option (List D × Env)
  | [], acc, ρ => some (acc, ρ)
  | x :: xs, acc, ρ => match a x ρ with
    | none => none
    | some ρ1 => match c ρ1 with
      | none => none
      | some (false, ρ2) => compL2 a c i1 a1 c1 e vs vs1 xs acc (wipeE ρ2 vs)
      | some (true, ρ2) => match i1 ρ2 with
        | none => none
        | some (ds, ρ3) => if acc.length + ds.length ≤ 100000 then (match compL a1 c1 e vs1 ds acc (wipeE ρ3 vs1) with
          | none => none
          | some (acc', ρ4) => compL2 a c i1 a1 c1 e vs vs1 xs acc' (wipeE ρ4 vs)) else none
def dComp2 (i : MI) (vs : List Nat) (a : MG) (c : MT) (i1 : MI) (vs1 : List Nat) (a1 : MG) (c1 : MT) (e : M) : M := fun ρ => match i ρ with
  | none => none
  | some (ds, ρ1) => if savOk ρ1 vs = true then (match compL2 a c i1 a1 c1 e vs vs1 ds [] (wipeE ρ1 vs) with
    | none => none
    | some (acc, ρ2) => some (.lst true acc, restE ρ2 ρ1 vs)) else none
theorem wipe_sub {vs vs1 : List Nat} (hv : ∀ i ∈ vs1, i ∈ vs) {σ σ2 : L2.St} (h : wipe σ2 vs = wipe σ vs) : wipe (wipe σ2 vs1) vs = wipe σ vs := by
  apply List.ext_getElem?
  intro j
  have h2 := congrArg (fun z : L2.St => z[j]?) h
  simp only [wipe_get] at h2 ⊢
  by_cases hj : j ∈ vs
  · simp only [if_pos hj] at h2 ⊢
    by_cases hj1 : j ∈ vs1
    · simp only [if_pos hj1, Option.map_map]; exact h2
    · simp only [if_neg hj1]; exact h2
  · simp only [if_neg hj] at h2 ⊢
    simp only [if_neg (fun z => hj (hv j z))]
    exact h2
theorem comp2_ok {J : It} {ds : List D} {St : Hp → (Addr → Prop) → Prop} {a a1 : MG} {c c1 : MT} {i1 : MI} {e : M} {vs vs1 : List Nat} {Da : Addr} {Dn : Hp → Prop} {acc accF : List D} {ρF : Env} (hv : ∀ i ∈ vs1, i ∈ vs) (wk : Wk g J ds St) (r : SRel g Fz (some (.lst true acc) :: ρ) (some (.ref Da) :: wipe σ vs) H fp) (st : St H Fz)
    (ev : compL2 a c i1 a1 c1 e vs vs1 ds acc ρ = some (accF, ρF)) (k : ∀ H' Fz' fp', Ext H Fz fp H' Fz' fp' → SRel g Fz' (some (.lst true accF) :: ρF) (some (.ref Da) :: wipe σ vs) H' fp' → Dn H') :
    ∃ Wl : Nat → Nat → Hp → Prop, (∃ m, Wl 0 m H) ∧ ∀ i m H, Wl i m H → (J.stop i H ∧ Dn H) ∨ (J.go i H ∧ ∃ Nx : Hp → Prop, (∀ H', Nx H' → ∃ m', m' < m ∧ Wl (i + 1) m' H') ∧ ∀ x H', J.yld i H x H' →
      (tG g (Wo vs) a) x (wipe σ vs) H' fun σ2 H2 => wipe σ2 vs = wipe σ vs ∧ (tT g c) σ2 H2 fun b H3 =>
        if b = true then (tI g i1) σ2 H3 fun J1 H4 => ∃ W1 : Nat → Nat → Hp → Prop, (∃ m, W1 0 m H4) ∧ ∀ j k H, W1 j k H →
          (J1.stop j H ∧ Nx H) ∨ (J1.go j H ∧ ∃ Nx1 : Hp → Prop, (∀ H', Nx1 H' → ∃ k', k' < k ∧ W1 (j + 1) k' H') ∧ ∀ x H', J1.yld j H x H' → (tG g (Wo vs1) a1) x (wipe σ2 vs1) H' fun σ3 H5 => wipe σ3 vs1 = wipe σ2 vs1 ∧ (tT g c1) σ3 H5 fun b H6 =>
            if b = true then (tE g e) σ3 H6 fun y H7 => ∃ acc, H7 Da = some (.lst acc) ∧ acc.length < sizeLine ∧ Nx1 (upd H7 Da (.lst (acc ++ [y]))) else Nx1 H6)
        else Nx H3) := by
  let P : Nat → Hp → Prop := fun i H1 => i ≤ ds.length ∧ ∃ Fz1 ρ1 fp1 acc1, SRel g Fz1 (some (.lst true acc1) :: ρ1) (some (.ref Da) :: wipe σ vs) H1 fp1 ∧ St H1 Fz1 ∧ compL2 a c i1 a1 c1 e vs vs1 (ds.drop i) acc1 ρ1 = some (accF, ρF) ∧
    ∀ H' Fz' fp', Ext H1 Fz1 fp1 H' Fz' fp' → SRel g Fz' (some (.lst true accF) :: ρF) (some (.ref Da) :: wipe σ vs) H' fp' → Dn H'
  refine ⟨fun i m H1 => m = ds.length - i ∧ P i H1, ⟨ds.length, by simp, Nat.zero_le _, Fz, ρ, fp, acc, r, st, by simpa using ev, k⟩, ?_⟩
  rintro i m H1 ⟨rfl, hi, Fz1, ρ1, fp1, acc1, r1, st1, e1, k1⟩
  by_cases hlt : i < ds.length
  · refine .inr ⟨wk.go i H1 Fz1 hlt st1, P (i + 1), fun H' p => ⟨ds.length - (i + 1), by omega, rfl, p⟩, fun x H' y => ?_⟩
    rw [List.drop_eq_getElem_cons hlt] at e1
    unfold compL2 at e1
    obtain ⟨x0, hr⟩ := wk.yld i ds[i] H1 Fz1 x H' (List.getElem?_eq_getElem hlt) st1 y
    obtain ⟨r2, x2⟩ := r1.ext0 x0
    have st2 := wk.keep _ _ _ _ _ (x0.keeps (f := []) (by simp) (by simp) (by simp)) st1
    split at e1
    · cases e1
    · rename_i ρ2 e2
      obtain ⟨fl, fr, efp, hlst, rr, kk⟩ := r2.frame1
      refine ⟨Fz1, [], [], ρ1, fr, ds[i], ρ2, rfl, rr.push hr, e2, fun σ3 H3 Fz3 fp3 x3 r3 ag3 => ?_⟩
      have r3' : SRel g Fz3 ρ2 σ3 H3 fp3 := r3
      have hw3 := wipe_agree (ag3.len.trans (wipe_length σ vs)) ag3
      refine ⟨hw3, ?_⟩
      have again : ∀ {σx : L2.St} {H4 : Hp} {Fz4 : Addr → Prop} {fp4 : List Addr} {acc4 : List D} {ρ4 : Env}, wipe σx vs = wipe σ vs → SRel g Fz4 (some (.lst true acc4) :: ρ4) (some (.ref Da) :: σx) H4 fp4 → Ext H1 Fz1 fp1 H4 Fz4 fp4 → St H4 Fz4 →
          compL2 a c i1 a1 c1 e vs vs1 (ds.drop (i + 1)) acc4 (wipeE ρ4 vs) = some (accF, ρF) → P (i + 1) H4 := fun {σx H4 Fz4 fp4 acc4 ρ4} hwx r4 x4 st4 e4 => by
        obtain ⟨f5, fp5, ef5, hl5, rr5, kk5⟩ := r4.frame1
        obtain ⟨fp6, r6, h6⟩ := rr5.wipe (vs := vs)
        obtain ⟨r7, x7⟩ := kk5 (Ext.refl h6) r6
        rw [hwx] at r7
        exact ⟨hlt, Fz4, _, _, acc4, r7, st4, e4, fun H' Fz' fp' y q => k1 H' Fz' fp' ((x4.trans x7).trans y) q⟩
      split at e1
      · cases e1
      · rename_i ρ4 e3
        refine ⟨Fz3, ρ2, fp3, false, ρ4, r3', e3, fun H4 Fz4 fp4 x4 r4 => ?_⟩
        refine iteF ?_
        obtain ⟨r4f, x4f⟩ := kk (x3.trans x4) r4
        exact again hw3 r4f (x2.trans x4f) (wk.keep _ _ _ _ _ (x4f.keepAll r2) st2) e1
      · rename_i ρ4 e3
        split at e1
        · cases e1
        · rename_i ds1 ρ5 e5
          split at e1
          · rename_i hz1
            split at e1
            · cases e1
            · rename_i acc6 ρ6 e6
              refine ⟨Fz3, ρ2, fp3, true, ρ4, r3', e3, fun H4 Fz4 fp4 x4 r4 => ?_⟩
              refine iteT ?_
              refine ⟨Fz4, ρ4, fp4, ds1, ρ5, r4, e5, fun J1 St1 H5 Fz5 fp5 x5 r5 wk1 st5 => ?_⟩
              -- the inner loop, the list still ahead
              obtain ⟨fp5w, r5w, h5w⟩ := r5.wipe (vs := vs1)
              obtain ⟨r5f, x5f⟩ := kk (((x3.trans x4).trans x5).shrink h5w) r5w
              refine comp_ok wk1 r5f st5 e6 hz1 fun H7 Fz7 fp7 x7 r7 => ?_
              have x17 : Ext H1 Fz1 fp1 H7 Fz7 fp7 := x2.trans (x5f.trans x7)
              exact again (wipe_sub hv hw3) r7 x17 (wk.keep _ _ _ _ _ ((x5f.trans x7).keepAll r2) st2) e1
          · cases e1
  · have e0 : i = ds.length := by omega
    subst e0
    rw [List.drop_length] at e1
    unfold compL2 at e1
    cases e1
    exact .inl ⟨wk.stop H1 Fz1 st1, k1 H1 Fz1 fp1 Ext.rfl' r1⟩
theorem tLc2_ok {mi i1 : MI} {a a1 : MG} {c c1 : MT} {e : M} {vs vs1 : List Nat} {σ : L2.St} {H : Hp} {Q : VK} (hv : ∀ i ∈ vs1, i ∈ vs) (h : tE g (dComp2 mi vs a c i1 vs1 a1 c1 e) σ H Q) : tLc2 (tI g mi) (tG g (Wo vs) a) (tT g c) (tI g i1) (tG g (Wo vs1) a1) (tT g c1) (tE g e) vs vs1 σ H Q := by
  obtain ⟨Fz, ρ, fp, d, ρ', hs, ev, k⟩ := h
  unfold dComp2 at ev
  split at ev
  · cases ev
  · rename_i ds ρ1 e1
    split at ev
    · rename_i hsav
      split at ev
      · cases ev
      · rename_i acc ρ2 e2
        cases ev
        refine ⟨Fz, ρ, fp, ds, ρ1, hs, e1, fun J St H1 Fz1 fp1 x1 r1 wk st Da hD => ?_⟩
        obtain ⟨fp2, r2, h2⟩ := r1.wipe (vs := vs)
        obtain ⟨r3, x3⟩ := new_lst r2 hD
        have st3 := wk.keep _ _ _ _ _ (x3.keepAll r2) st
        refine comp2_ok hv wk r3 st3 e2 fun H' Fz' fp' x r => ?_
        have xx : Ext H1 Fz1 fp1 H' Fz' fp' := (((Ext.refl h2).trans x3).trans x)
        obtain ⟨fp4, r4, h4⟩ := r.restore (vs := vs) (ρ0 := ρ1) (σ0 := σ) fun v hv => RepO.keep (xx.keepAll r1) (saved r1 hsav v hv)
        rw [restV_wipe] at r4
        exact k (.ref Da) H' Fz' fp4 (x1.trans (xx.shrink h4)) r4
    · cases ev
theorem e_comp2 {X : Cx} {elt tg iter tg1 iter1 : Expr} {ifs ifs1 : List Expr} {scope : Scope} {own : List (Str × Nat)} {vs1 : List Nat} {pos : Pos} {mi i1 : MI} {a a1 : MG} {c c1 : MT} {e : M} (hc : X.calm = true) (hN : X.N.Nodup) (hi : PI X tg iter (tI g mi)) (ok : BlkOk X.N X.env.scope scope own) (hv : ∀ i ∈ vs1, i ∈ own.map (·.2))
    (hg : ∀ (s : Shared) (H : Hp) (C : Addr) (cl : List (Str × Addr)) (fp : List Addr), PG (X.blk s H scope (compEnvC scope cl C X.env) fp) tg (tG g (Wo (own.map (·.2))) a)) (ht : ∀ (s : Shared) (H : Hp) (C : Addr) (cl : List (Str × Addr)) (fp : List Addr), PTs (X.blk s H scope (compEnvC scope cl C X.env) fp) ifs (tT g c))
    (hi1 : ∀ (s : Shared) (H : Hp) (C : Addr) (cl : List (Str × Addr)) (fp : List Addr), PI (X.blk s H scope (compEnvC scope cl C X.env) fp) tg1 iter1 (tI g i1))
    (hg1 : ∀ (s : Shared) (H : Hp) (C : Addr) (cl : List (Str × Addr)) (fp : List Addr), PG (X.blk s H scope (compEnvC scope cl C X.env) fp) tg1 (tG g (Wo vs1) a1)) (ht1 : ∀ (s : Shared) (H : Hp) (C : Addr) (cl : List (Str × Addr)) (fp : List Addr), PTs (X.blk s H scope (compEnvC scope cl C X.env) fp) ifs1 (tT g c1))
    (he : ∀ (s : Shared) (H : Hp) (C : Addr) (cl : List (Str × Addr)) (fp : List Addr), PE (X.blk s H scope (compEnvC scope cl C X.env) fp) elt (tE g e)) (hs : ∀ x, foldedSetIterable iter X.env x = pure x) (hs1 : ∀ env x, foldedSetIterable iter1 env x = pure x) :
    PE X (.ListComp elt [⟨tg, iter, ifs, 0⟩, ⟨tg1, iter1, ifs1, 0⟩] scope pos) (tE g (dComp2 mi (own.map (·.2)) a c i1 vs1 a1 c1 e)) := pe_imp (pe_lc2 hc hN hi ok hv hg ht hi1 hg1 ht1 he hs hs1) fun σ H Q q => tLc2_ok hv q
end
end Rm
set_option Elab.async false
set_option linter.all false
set_option maxRecDepth 100000
set_option maxHeartbeats 4000000
/-! Rm, H: operations by data. -/
namespace Rm
open PySem L2

section
variable {g : G} {H H1 H2 H' : Hp} {Fz Fz1 Fz2 Fz' : Addr → Prop} {fp fp1 fp2 fp' : List Addr} {ρ ρ' : Env} {σ σ1 σ' : L2.St}
/-- this way, or else that -/
def orF (f f' : List D → Option D) : List D → Option D := fun ds => match f ds with
  | some d => some d
  | none => f' ds
def orR (r r' : R2) : R2 := fun x y H Q => r x y H Q ∨ r' x y H Q
def orC (r r' : List V → Hp → VK → Prop) : List V → Hp → VK → Prop := fun vs H Q => r vs H Q ∨ r' vs H Q
theorem opR_or {X : Cx} {f : Value → Value → Sem Value} {r r' : R2} (h : OpR X f r) (h' : OpR X f r') : OpR X f (orR r r') := fun pins s σ H x y v u Q I rx ry q =>
  q.elim (h pins s σ H x y v u Q I rx ry) (h' pins s σ H x y v u Q I rx ry)
theorem callR_or {X : Cx} {f : Value} {r r' : List V → Hp → VK → Prop} (h : CallR X f r) (h' : CallR X f r') : CallR X f (orC r r') := fun pins s σ H x v Q I rx q =>
  q.elim (h pins s σ H x v Q I rx) (h' pins s σ H x v Q I rx)
theorem ok_orC {f f' : List D → Option D} {r r' : List V → Hp → VK → Prop} (h : OpOk g f r) (h' : OpOk g f' r') : OpOk g (orF f f') (orC r r') := fun ds d e vs H Fz fp Q vw k => by
  unfold orF at e
  split at e
  · rename_i d1 e1
    cases e
    exact .inl (h ds _ e1 vs H Fz fp Q vw k)
  · exact .inr (h' ds _ e vs H Fz fp Q vw k)
theorem r2_or {r r' : R2} {vs : List V} {Q : VK} (h : orC (r2 r) (r2 r') vs H Q) : r2 (orR r r') vs H Q := by
  match vs, h with
  | [], h => exact h.elim id id
  | [_], h => exact h.elim id id
  | [x, y], h => exact h
  | _ :: _ :: _ :: _, h => exact h.elim id id
theorem ok_or2 {f f' : List D → Option D} {r r' : R2} (h : OpOk g f (r2 r)) (h' : OpOk g f' (r2 r')) : OpOk g (orF f f') (r2 (orR r r')) := fun ds d e vs H Fz fp Q vw k => r2_or (ok_orC h h' ds d e vs H Fz fp Q vw k)

/-! ### whole numbers -/
def oII (h : Int → Int → Option D) : List D → Option D := fun ds => match ds with
  | [.int a, .int b] => h a b
  | _ => none
theorem ok_ii {h : Int → Int → Option D} {rr : R2} (hh : ∀ a b d, h a b = some d → ∃ v, (∀ H Fz, Rep g H Fz d v []) ∧ ∀ H Q, Q v H → rr (.int a) (.int b) H Q) : OpOk g (oII h) (r2 rr) := fun ds d e vs H Fz fp Q vw k => by
  unfold oII at e
  split at e
  · rename_i a b
    obtain ⟨v, w, f, f2, ev, hr, hr2, _, _⟩ := vw2 vw
    rw [rep_int' hr, rep_int' hr2] at ev
    subst ev
    obtain ⟨u, hu, q⟩ := hh a b d e
    exact q H Q (flat_end (H := H) (Fz := Fz) hu k)
  · cases e
def hAdd : Int → Int → Option D := fun a b => some (.int (a + b))
def hSub : Int → Int → Option D := fun a b => some (.int (a - b))
def hMul : Int → Int → Option D := fun a b => if (-(2 ^ 64) < a ∧ a < 2 ^ 64) ∨ (-(2 ^ 64) < b ∧ b < 2 ^ 64) then some (.int (a * b)) else none
def hMod : Int → Int → Option D := fun a b => if 0 < b then some (.int (a % b)) else none
def hDiv : Int → Int → Option D := fun a b => if 0 < b ∧ b < 1073741824 then some (.int (a / b)) else none
def hPow : Int → Int → Option D := fun a b => if 0 ≤ b ∧ b ≤ 1000000 ∧ a.natAbs < 2 ^ 64 then some (.int (a ^ b.toNat)) else none
def hLt : Int → Int → Option D := fun a b => some (.bl (decide (a < b)))
def hLe : Int → Int → Option D := fun a b => some (.bl (decide (a ≤ b)))
def hGt : Int → Int → Option D := fun a b => some (.bl (decide (b < a)))
def hGe : Int → Int → Option D := fun a b => some (.bl (decide (b ≤ a)))
theorem ok_add : OpOk g (oII hAdd) (r2 (rI0 fun i j => .int (i + j))) := ok_ii fun a b d e => by cases e; exact ⟨_, fun _ _ => rep_int _, fun H Q q => ⟨a, b, rfl, rfl, q⟩⟩
theorem ok_sub : OpOk g (oII hSub) (r2 (rI0 fun i j => .int (i - j))) := ok_ii fun a b d e => by cases e; exact ⟨_, fun _ _ => rep_int _, fun H Q q => ⟨a, b, rfl, rfl, q⟩⟩
theorem ok_mul : OpOk g (oII hMul) (r2 (rI CMul fun i j => .int (i * j))) := ok_ii fun a b d e => by
  unfold hMul at e
  split at e
  · rename_i hc
    cases e; exact ⟨_, fun _ _ => rep_int _, fun H Q q => ⟨a, b, rfl, rfl, hc, q⟩⟩
  · cases e
theorem ok_mod : OpOk g (oII hMod) (r2 (rI (fun _ j => 0 < j) fun i j => .int (i % j))) := ok_ii fun a b d e => by
  unfold hMod at e
  split at e
  · rename_i hc
    cases e; exact ⟨_, fun _ _ => rep_int _, fun H Q q => ⟨a, b, rfl, rfl, hc, q⟩⟩
  · cases e
theorem ok_div : OpOk g (oII hDiv) (r2 (rI CDiv fun i j => .int (i / j))) := ok_ii fun a b d e => by
  unfold hDiv at e
  split at e
  · rename_i hc
    cases e; exact ⟨_, fun _ _ => rep_int _, fun H Q q => ⟨a, b, rfl, rfl, hc, q⟩⟩
  · cases e
theorem ok_pow : OpOk g (oII hPow) (r2 (rI CPow fun i j => .int (i ^ j.toNat))) := ok_ii fun a b d e => by
  unfold hPow at e
  split at e
  · rename_i hc
    cases e; exact ⟨_, fun _ _ => rep_int _, fun H Q q => ⟨a, b, rfl, rfl, hc, q⟩⟩
  · cases e
theorem ok_lt : OpOk g (oII hLt) (r2 (rI0 fun i j => .bl (decide (i < j)))) := ok_ii fun a b d e => by cases e; exact ⟨_, fun _ _ => rep_bl _, fun H Q q => ⟨a, b, rfl, rfl, q⟩⟩
theorem ok_le : OpOk g (oII hLe) (r2 (rI0 fun i j => .bl (decide (i ≤ j)))) := ok_ii fun a b d e => by cases e; exact ⟨_, fun _ _ => rep_bl _, fun H Q q => ⟨a, b, rfl, rfl, q⟩⟩
theorem ok_gt : OpOk g (oII hGt) (r2 (rI0 fun i j => .bl (decide (j < i)))) := ok_ii fun a b d e => by cases e; exact ⟨_, fun _ _ => rep_bl _, fun H Q q => ⟨a, b, rfl, rfl, q⟩⟩
theorem ok_ge : OpOk g (oII hGe) (r2 (rI0 fun i j => .bl (decide (j ≤ i)))) := ok_ii fun a b d e => by cases e; exact ⟨_, fun _ _ => rep_bl _, fun H Q q => ⟨a, b, rfl, rfl, q⟩⟩

/-! ### rows -/
theorem reps_none {xs : List D} {vs : List V} {f : List Addr} (hn : noOwns xs = true) (h : Reps g H Fz xs vs f) : Reps g H Fz xs vs [] := by
  have e : f = [] := seq_nil (reps_seq.mp h) fun d v f hd => Rep.none_of d (noOwns_mem hn d hd) v f
  rw [← e]; exact h
theorem rep_lst' {o : Bool} {xs : List D} {v : V} {f : List Addr} (hn : noOwns xs = true) (h : Rep g H Fz (.lst o xs) v f) : ∃ a vs, v = .ref a ∧ H a = some (.lst vs) ∧ Reps g H Fz xs vs [] := by
  unfold Rep at h
  obtain ⟨a, vs, f', ev, nd, hr⟩ := h
  refine ⟨a, vs, ev, ?_, reps_none hn hr⟩
  rcases nd with ⟨_, h, _⟩ | ⟨_, _, h, _⟩ <;> exact h
theorem rep_lstA {o : Bool} {xs : List D} {v : V} {f : List Addr} (h : Rep g H Fz (.lst o xs) v f) : ∃ a vs f', v = .ref a ∧ H a = some (.lst vs) ∧ Reps g H Fz xs vs f' ∧ ∀ z ∈ f', z ∈ f := by
  unfold Rep at h
  obtain ⟨a, vs, f', ev, nd, hr⟩ := h
  refine ⟨a, vs, f', ev, ?_, hr, ?_⟩
  · rcases nd with ⟨_, h, _⟩ | ⟨_, _, h, _⟩ <;> exact h
  · rcases nd with ⟨_, _, e⟩ | ⟨_, _, _, e⟩ <;> (rw [e]; intro z hz; simp [hz])
theorem rep_tup' {xs : List D} {v : V} {f : List Addr} (hn : noOwns xs = true) (h : Rep g H Fz (.tup xs) v f) : ∃ a vs, v = .ref a ∧ SqT g.K H a vs ∧ Reps g H Fz xs vs [] := by
  unfold Rep at h
  obtain ⟨a, vs, ev, q, hr⟩ := h
  exact ⟨a, vs, ev, q, reps_none hn hr⟩
theorem rep_tupA {xs : List D} {v : V} {f : List Addr} (h : Rep g H Fz (.tup xs) v f) : ∃ a vs, v = .ref a ∧ SqT g.K H a vs ∧ Reps g H Fz xs vs f := by
  unfold Rep at h
  exact h
/-- a new list of shared things -/
theorem new_lstD {p : Addr} {xs : List D} {vs : List V} (hp : H p = none) (h : Reps g H Fz xs vs []) : Ext H Fz [] (upd H p (.lst vs)) Fz [p] ∧ Rep g (upd H p (.lst vs)) Fz (.lst true xs) (.ref p) [p] := by
  have x : Ext H Fz [] (upd H p (.lst vs)) Fz [p] := new_ext hp
  refine ⟨x, ?_⟩
  unfold Rep
  exact ⟨p, vs, [], rfl, .inl ⟨rfl, upd_same, rfl⟩, reps_keep (f := []) (x.keeps (by simp) (by simp) (by simp)) h⟩
theorem k_lst {p : Addr} {xs : List D} {vs : List V} {Q : VK} (hp : H p = none) (h : Reps g H Fz xs vs []) (k : ∀ v H' fR, Ext H Fz [] H' Fz fR → fR.Nodup → Rep g H' Fz (.lst true xs) v fR → Q v H') : Q (.ref p) (upd H p (.lst vs)) :=
  have q := new_lstD hp h
  k _ _ [p] q.1 (List.nodup_cons.mpr ⟨by simp, List.nodup_nil⟩) q.2
theorem k_tup {p : Addr} {xs : List D} {vs : List V} {Q : VK} (hp : H p = none) (h : Reps g H Fz xs vs []) (k : ∀ v H' fR, Ext H Fz [] H' Fz fR → fR.Nodup → Rep g H' Fz (.tup xs) v fR → Q v H') : Q (.ref p) (upd H p (.tup vs)) :=
  have q := new_tup hp h
  k _ _ [] q.1 List.nodup_nil q.2
theorem k_none {d : D} {v : V} {Q : VK} (h : Rep g H Fz d v []) (k : ∀ v H' fR, Ext H Fz [] H' Fz fR → fR.Nodup → Rep g H' Fz d v fR → Q v H') : Q v H := k v H [] Ext.rfl' List.nodup_nil h
theorem sizeLine_big : 100000 ≤ sizeLine := by rw [sizeLine_eq]; decide
def oCatL : List D → Option D := fun ds => match ds with
  | [.lst _ xs, .lst _ ys] => if (noOwns xs = true ∧ noOwns ys = true) ∧ xs.length + ys.length ≤ 100000 then some (.lst true (xs ++ ys)) else none
  | _ => none
theorem ok_catL : OpOk g oCatL (r2 rCat) := fun ds d e vs H Fz fp Q vw k => by
  unfold oCatL at e
  split at e
  · split at e
    · rename_i xs _ ys hc
      obtain ⟨⟨n1, n2⟩, hz⟩ := hc
      cases e
      obtain ⟨v, w, f, f2, ev, hr, hr2, _, _⟩ := vw2 vw
      obtain ⟨a, us, rfl, ha, h1⟩ := rep_lst' n1 hr
      obtain ⟨b, ws, rfl, hb, h2⟩ := rep_lst' n2 hr2
      subst ev
      refine ⟨a, b, us, ws, rfl, rfl, ha, hb, ?_, fun p hp => k_lst hp (reps_append h1 h2) k⟩
      rw [← reps_len h1, ← reps_len h2]
      exact Nat.le_trans hz sizeLine_big
    · cases e
  · cases e
def oCatT : List D → Option D := fun ds => match ds with
  | [.tup xs, .tup ys] => if (noOwns xs = true ∧ noOwns ys = true) ∧ xs.length + ys.length ≤ 100000 then some (.tup (xs ++ ys)) else none
  | _ => none
theorem reps_nil_v {vs : List V} {f : List Addr} (h : Reps g H Fz [] vs f) : vs = [] := by unfold Reps at h; exact h.1
theorem reps_nil_d {xs : List D} {f : List Addr} (h : Reps g H Fz xs [] f) : xs = [] := List.length_eq_zero_iff.mp (reps_len h)
theorem ok_catT : OpOk g oCatT (r2 (rCatA g.K)) := fun ds d e vs H Fz fp Q vw k => by
  unfold oCatT at e
  split at e
  · split at e
    · rename_i xs ys hc
      obtain ⟨⟨n1, n2⟩, hz⟩ := hc
      cases e
      obtain ⟨v, w, f, f2, ev, hr, hr2, _, _⟩ := vw2 vw
      obtain ⟨a, us, rfl, ha, h1⟩ := rep_tup' n1 hr
      obtain ⟨b, ws, rfl, hb, h2⟩ := rep_tup' n2 hr2
      subst ev
      refine ⟨a, b, us, ws, rfl, rfl, ha, hb, ?_, fun e0 => ?_, fun _ e0 => ?_, fun _ _ p hp => k_tup hp (reps_append h1 h2) k⟩
      · rw [← reps_len h1, ← reps_len h2]
        exact Nat.le_trans hz sizeLine_big
      · subst e0
        have := reps_nil_d h1
        subst this
        refine k_none ?_ k
        unfold Rep
        exact ⟨b, ws, rfl, hb, h2⟩
      · subst e0
        have := reps_nil_d h2
        subst this
        rw [List.append_nil] at k
        refine k_none ?_ k
        unfold Rep
        exact ⟨a, us, rfl, ha, h1⟩
    · cases e
  · cases e
def oCatS : List D → Option D := fun ds => match ds with
  | [.str a, .str b] => if a.length + b.length ≤ sizeLine then some (.str (a ++ b)) else none
  | _ => none
theorem ok_catS : OpOk g oCatS (r2 (fun x y H Q => ∃ i j, x = .str i ∧ y = .str j ∧ i.length + j.length ≤ sizeLine ∧ Q (.str (i ++ j)) H)) := fun ds d e vs H Fz fp Q vw k => by
  unfold oCatS at e
  split at e
  · split at e
    · rename_i a b hc
      cases e
      obtain ⟨v, w, f, f2, ev, hr, hr2, _, _⟩ := vw2 vw
      rw [rep_str' hr, rep_str' hr2] at ev
      subst ev
      exact ⟨a, b, rfl, rfl, hc, flat_end (H := H) (Fz := Fz) (fun _ _ => rep_str _) k⟩
    · cases e
  · cases e
/-- [x] * n -/
def oRepL : List D → Option D := fun ds => match ds with
  | [.lst _ xs, .int k] => if (noOwns xs = true ∧ -(2 ^ 63) ≤ k ∧ k < 2 ^ 63) ∧ xs.length * k.toNat ≤ 100000 then some (.lst true (List.replicate k.toNat xs).flatten) else none
  | _ => none
theorem reps_rep {xs : List D} {vs : List V} (h : Reps g H Fz xs vs []) : ∀ n : Nat, Reps g H Fz (List.replicate n xs).flatten (List.replicate n vs).flatten []
  | 0 => by unfold Reps; exact ⟨rfl, rfl⟩
  | n + 1 => by
    rw [List.replicate_succ, List.replicate_succ, List.flatten_cons, List.flatten_cons]
    exact reps_append h (reps_rep h n)
theorem ok_repL : OpOk g oRepL (r2 rRep) := fun ds d e vs H Fz fp Q vw k => by
  unfold oRepL at e
  split at e
  · split at e
    · rename_i o xs n hc
      obtain ⟨⟨n1, h1, h2⟩, hz⟩ := hc
      cases e
      obtain ⟨v, w, f, f2, ev, hr, hr2, _, _⟩ := vw2 vw
      obtain ⟨a, us, rfl, ha, hq⟩ := rep_lst' n1 hr
      rw [rep_int' hr2] at ev
      subst ev
      refine ⟨a, n, us, rfl, rfl, ha, h1, h2, ?_, fun p hp => k_lst hp (reps_rep hq n.toNat) k⟩
      rw [← reps_len hq]
      exact Nat.le_trans hz sizeLine_big
    · cases e
  · cases e

/-! ### flat things -/
def sv : D → V
  | .non => .non
  | .bl b => .bl b
  | .int i => .int i
  | .str s => .str s
  | _ => .non
def isF : D → Bool
  | .non => true
  | .bl _ => true
  | .int _ => true
  | .str _ => true
  | _ => false
theorem rep_flat {d : D} {v : V} {f : List Addr} (hf : isF d = true) (h : Rep g H Fz d v f) : v = sv d ∧ f = [] ∧ flatV v = true := by
  cases d with
  | non => unfold Rep at h; exact ⟨h.1, h.2, by rw [h.1]; rfl⟩
  | bl b => unfold Rep at h; exact ⟨h.1, h.2, by rw [h.1]; rfl⟩
  | int b => unfold Rep at h; exact ⟨h.1, h.2, by rw [h.1]; rfl⟩
  | str b => unfold Rep at h; exact ⟨h.1, h.2, by rw [h.1]; rfl⟩
  | _ => cases hf
theorem flat_rep {d : D} (hf : isF d = true) : ∀ (H : Hp) (Fz : Addr → Prop), Rep g H Fz d (sv d) [] := fun H Fz => by
  cases d with
  | non => exact rep_non
  | bl b => exact rep_bl b
  | int b => exact rep_int b
  | str b => exact rep_str b
  | _ => cases hf
theorem reps_flat : ∀ {xs : List D} {vs : List V} {f : List Addr}, xs.all isF = true → Reps g H Fz xs vs f → vs = xs.map sv ∧ f = [] ∧ vs.all flatV = true
  | [], vs, f, _, h => by unfold Reps at h; rw [h.1, h.2]; exact ⟨rfl, rfl, rfl⟩
  | x :: xs, vs, f, hf, h => by
    unfold Reps at h
    obtain ⟨v, vs', f1, f2, e1, e2, h1, h2⟩ := h
    rw [List.all_cons, Bool.and_eq_true] at hf
    obtain ⟨q1, q2, q3⟩ := rep_flat hf.1 h1
    obtain ⟨t1, t2, t3⟩ := reps_flat hf.2 h2
    subst e1 e2
    refine ⟨by rw [q1, t1]; rfl, by rw [q2, t2]; rfl, ?_⟩
    rw [List.all_cons, q3, t3]; rfl
def eqF : D → D → Option Bool
  | .int a, .int b => some (decide (a = b))
  | .str a, .str b => some (decide (a = b))
  | .bl a, .bl b => some (decide (a = b))
  | .non, .non => some true
  | .non, .int _ => some false
  | .int _, .non => some false
  | .non, .bl _ => some false
  | .bl _, .non => some false
  | .non, .str _ => some false
  | .str _, .non => some false
  | .int _, .str _ => some false
  | .str _, .int _ => some false
  | .bl _, .str _ => some false
  | .str _, .bl _ => some false
  | _, _ => none
theorem eqF_ok {a b : D} {c : Bool} (h : eqF a b = some c) : isF a = true ∧ isF b = true ∧ scal (sv a) (sv b) = true ∧ decide (sv a = sv b) = c := by
  unfold eqF at h
  split at h <;> first | cases h | skip
  all_goals (refine ⟨rfl, rfl, rfl, ?_⟩; simp [sv])
def oEqF (neg : Bool) : List D → Option D := fun ds => match ds with
  | [a, b] => match eqF a b with
    | some c => some (.bl (if neg then !c else c))
    | none => none
  | _ => none
theorem ok_eqF : OpOk g (oEqF false) (r2 rEq) := fun ds d e vs H Fz fp Q vw k => by
  unfold oEqF at e
  split at e
  · rename_i a b
    split at e
    · rename_i c ec
      cases e
      obtain ⟨f1, f2, f3, f4⟩ := eqF_ok ec
      obtain ⟨v, w, f, f', ev, hr, hr2, _, _⟩ := vw2 vw
      rw [(rep_flat f1 hr).1, (rep_flat f2 hr2).1] at ev
      subst ev
      refine ⟨f3, ?_⟩
      rw [f4]
      exact k_none (rep_bl _) k
    · cases e
  · cases e
theorem ok_neF : OpOk g (oEqF true) (r2 rNe) := fun ds d e vs H Fz fp Q vw k => by
  unfold oEqF at e
  split at e
  · rename_i a b
    split at e
    · rename_i c ec
      cases e
      obtain ⟨f1, f2, f3, f4⟩ := eqF_ok ec
      obtain ⟨v, w, f, f', ev, hr, hr2, _, _⟩ := vw2 vw
      rw [(rep_flat f1 hr).1, (rep_flat f2 hr2).1] at ev
      subst ev
      refine ⟨f3, ?_⟩
      rw [f4]
      exact k_none (rep_bl _) k
    · cases e
  · cases e

/-! ### as plain data -/
mutual
def toP : D → Option PyData
  | .non => some .none
  | .bl b => some (.bool b)
  | .int i => some (.int i)
  | .str s => some (.str s)
  | .tup xs => match toPs xs with
    | some ps => some (.tuple ps)
    | none => none
  | .lst _ xs => match toPs xs with
    | some ps => some (.list ps)
    | none => none
  | _ => none
def toPs : List D → Option (List PyData)
  | [] => some []
  | x :: xs => match toP x with
    | some p => match toPs xs with
      | some ps => some (p :: ps)
      | none => none
    | none => none
end
theorem sql_nd {o : Bool} {a : Addr} {vs : List V} {f f' : List Addr} {K : PySem.W.Frag} (h : Nd H Fz o a (.lst vs) f' f) : SqL K H a vs := by
  rcases h with ⟨_, h, _⟩ | ⟨_, _, h, _⟩ <;> exact .inl (.inl h)
theorem toPs_ok : ∀ (xs : List D), (∀ x ∈ xs, ∀ p v f, toP x = some p → Rep g H Fz x v f → Dp g.K H v p) → ∀ {ps : List PyData} {vs : List V} {f : List Addr}, toPs xs = some ps → Reps g H Fz xs vs f → DpAll g.K H vs ps
  | [], _, ps, vs, f, e, h => by
    unfold toPs at e
    unfold Reps at h
    cases e
    rw [h.1]; exact .nil
  | x :: xs, ih, ps, vs, f, e, h => by
    unfold toPs at e
    unfold Reps at h
    obtain ⟨v, vs', f1, f2, e1, e2, h1, h2⟩ := h
    split at e
    · rename_i p ep
      split at e
      · rename_i ps' ep'
        cases e
        subst e1
        exact .cons (ih x List.mem_cons_self p v f1 ep h1) (toPs_ok xs (fun y hy => ih y (List.mem_cons_of_mem _ hy)) ep' h2)
      · cases e
    · cases e
theorem toP_ok : ∀ (d : D) (p : PyData) (v : V) (f : List Addr), toP d = some p → Rep g H Fz d v f → Dp g.K H v p := by
  refine D.ind ?_ ?_ ?_ ?_ ?_ ?_ ?_ ?_ ?_
  · intro p v f e h; unfold toP at e; cases e; rw [rep_non' h]; exact .non
  · intro b p v f e h; unfold toP at e; cases e; rw [rep_bl' h]; exact .bl _
  · intro b p v f e h; unfold toP at e; cases e; rw [rep_int' h]; exact .int _
  · intro b p v f e h; unfold toP at e; cases e; rw [rep_str' h]; exact .str _
  · intro xs ih p v f e h
    unfold toP at e
    split at e
    · rename_i ps ep
      cases e
      unfold Rep at h
      obtain ⟨a, vs, rfl, q, hr⟩ := h
      exact .tup q (toPs_ok xs ih ep hr)
    · cases e
  · intro o xs ih p v f e h
    unfold toP at e
    split at e
    · rename_i ps ep
      cases e
      unfold Rep at h
      obtain ⟨a, vs, f', rfl, nd, hr⟩ := h
      exact .lst (sql_nd nd) (toPs_ok xs ih ep hr)
    · cases e
  · intro o ks xs _ p v f e h; unfold toP at e; cases e
  · intro o ks c xs _ p v f e h; unfold toP at e; cases e
  · intro ns p v f e h; unfold toP at e; cases e
def oEqD (neg : Bool) : List D → Option D := fun ds => match ds with
  | [a, b] => match toP a, toP b with
    | some p, some q => if SeqAt.shaped p = true ∧ SeqAt.shaped q = true then some (.bl (if neg then !PyData.eqv p q else PyData.eqv p q)) else none
    | _, _ => none
  | _ => none
theorem ok_eqD : OpOk g (oEqD false) (r2 (rEqD g.K)) := fun ds d e vs H Fz fp Q vw k => by
  unfold oEqD at e
  split at e
  · rename_i a b
    split at e
    · rename_i p q ep eq
      split at e
      · rename_i hc
        cases e
        obtain ⟨v, w, f, f', ev, hr, hr2, _, _⟩ := vw2 vw
        subst ev
        exact ⟨p, q, toP_ok a p v f ep hr, toP_ok b q w f' eq hr2, hc.1, hc.2, k_none (rep_bl _) k⟩
      · cases e
    · cases e
  · cases e
theorem ok_neD : OpOk g (oEqD true) (r2 (rNeD g.K)) := fun ds d e vs H Fz fp Q vw k => by
  unfold oEqD at e
  split at e
  · rename_i a b
    split at e
    · rename_i p q ep eq
      split at e
      · rename_i hc
        cases e
        obtain ⟨v, w, f, f', ev, hr, hr2, _, _⟩ := vw2 vw
        subst ev
        exact ⟨p, q, toP_ok a p v f ep hr, toP_ok b q w f' eq hr2, hc.1, hc.2, k_none (rep_bl _) k⟩
      · cases e
    · cases e
  · cases e
/-- is None -/
def isNo : D → Bool
  | .non => true
  | _ => false
theorem rep_isNo {d : D} {v : V} {f : List Addr} (h : Rep g H Fz d v f) : decide (v = .non) = isNo d := by
  cases d with
  | non => rw [rep_non' h]; rfl
  | bl b => rw [rep_bl' h]; rfl
  | int b => rw [rep_int' h]; rfl
  | str b => rw [rep_str' h]; rfl
  | tup xs => obtain ⟨a, vs, rfl, _⟩ := rep_tupA h; rfl
  | lst o xs => obtain ⟨a, vs, f', rfl, _⟩ := rep_lstA h; rfl
  | dct o ks xs => unfold Rep at h; obtain ⟨a, vs, f', rfl, _⟩ := h; rfl
  | ins o ks c xs => unfold Rep at h; obtain ⟨a, dx, vs, f', rfl, _⟩ := h; rfl
  | scr ns => unfold Rep at h; obtain ⟨a, rfl, _⟩ := h; rfl
def oIsN (neg : Bool) : List D → Option D := fun ds => match ds with
  | [a, .non] => some (.bl (if neg then !isNo a else isNo a))
  | _ => none
theorem ok_isN : OpOk g (oIsN false) (r2 (fun x y H Q => y = .non ∧ Q (.bl (decide (x = .non))) H)) := fun ds d e vs H Fz fp Q vw k => by
  unfold oIsN at e
  split at e
  · rename_i a
    cases e
    obtain ⟨v, w, f, f', ev, hr, hr2, _, _⟩ := vw2 vw
    subst ev
    refine ⟨rep_non' hr2, ?_⟩
    rw [rep_isNo hr]
    exact k_none (rep_bl _) k
  · cases e
theorem ok_notN : OpOk g (oIsN true) (r2 (fun x y H Q => y = .non ∧ Q (.bl (!decide (x = .non))) H)) := fun ds d e vs H Fz fp Q vw k => by
  unfold oIsN at e
  split at e
  · rename_i a
    cases e
    obtain ⟨v, w, f, f', ev, hr, hr2, _, _⟩ := vw2 vw
    subst ev
    refine ⟨rep_non' hr2, ?_⟩
    rw [rep_isNo hr]
    exact k_none (rep_bl _) k
  · cases e
/-- in a row of flat things -/
def rowOf : D → Option (List D)
  | .lst _ xs => some xs
  | .tup xs => some xs
  | _ => none
theorem rep_row {d : D} {xs : List D} {v : V} {f : List Addr} (e : rowOf d = some xs) (h : Rep g H Fz d v f) : ∃ a vs f', v = .ref a ∧ (SqL g.K H a vs ∨ SqT g.K H a vs) ∧ Reps g H Fz xs vs f' := by
  unfold rowOf at e
  split at e
  · cases e
    unfold Rep at h
    obtain ⟨a, vs, f', rfl, nd, hr⟩ := h
    exact ⟨a, vs, f', rfl, .inl (sql_nd nd), hr⟩
  · cases e
    unfold Rep at h
    obtain ⟨a, vs, rfl, q, hr⟩ := h
    exact ⟨a, vs, f, rfl, .inr q, hr⟩
  · cases e
def inD (x : D) (xs : List D) : Bool := inV (sv x) (xs.map sv)
def oIn (neg : Bool) : List D → Option D := fun ds => match ds with
  | [x, y] => match rowOf y with
    | some xs => if isF x = true ∧ xs.all isF = true then some (.bl (if neg then !inD x xs else inD x xs)) else none
    | none => none
  | _ => none
theorem ok_in {neg : Bool} : OpOk g (oIn neg) (r2 (rIn g.K neg)) := fun ds d e vs H Fz fp Q vw k => by
  unfold oIn at e
  split at e
  · rename_i x y
    split at e
    · rename_i xs ex
      split at e
      · rename_i hc
        cases e
        obtain ⟨v, w, f, f', ev, hr, hr2, _, _⟩ := vw2 vw
        subst ev
        obtain ⟨a, us, f3, rfl, hs, hq⟩ := rep_row ex hr2
        obtain ⟨q1, q2, q3⟩ := reps_flat hc.2 hq
        obtain ⟨t1, t2, t3⟩ := rep_flat hc.1 hr
        refine ⟨a, us, rfl, hs, t3, q3, ?_⟩
        rw [q1, t1]
        exact k_none (rep_bl _) k
      · cases e
    · cases e
  · cases e

/-! ### subscripts -/
theorem reps_at {xs : List D} {vs : List V} {f : List Addr} {i : Int} {d : D} (h : Reps g H Fz xs vs f) (e : atI xs i = some d) : ∃ v f', atI vs i = some v ∧ Rep g H Fz d v f' ∧ ∀ z ∈ f', z ∈ f := by
  unfold atI at e ⊢
  rw [← reps_len h]
  cases ej : ixN xs.length i with
  | none => rw [ej] at e; cases e
  | some j =>
    rw [ej] at e
    obtain ⟨v, f', e1, h1, h2⟩ := (reps_seq.mp h).get (show xs[j]? = some d from e)
    exact ⟨v, f', e1, h1, h2⟩
def oIx : List D → Option D := fun ds => match ds with
  | [.lst _ xs, .int i] => match atI xs i with
    | some d => if noOwn d = true then some d else none
    | none => none
  | [.tup xs, .int i] => match atI xs i with
    | some d => if noOwn d = true then some d else none
    | none => none
  | _ => none
theorem k_no {d : D} {v : V} {f : List Addr} {Q : VK} (hn : noOwn d = true) (h : Rep g H Fz d v f) (k : ∀ v H' fR, Ext H Fz [] H' Fz fR → fR.Nodup → Rep g H' Fz d v fR → Q v H') : Q v H := by
  have := Rep.none_of d hn v f h
  subst this
  exact k_none h k
theorem ok_ix : OpOk g oIx (r2 (orR (rIxL g.K) (rIxT g.K))) := fun ds d e vs H Fz fp Q vw k => by
  unfold oIx at e
  split at e
  · rename_i o xs i
    split at e
    · rename_i d' ed
      split at e
      · rename_i hn
        cases e
        obtain ⟨v, w, f, f', ev, hr, hr2, _, _⟩ := vw2 vw
        rw [rep_int' hr2] at ev
        subst ev
        unfold Rep at hr
        obtain ⟨a, us, f3, rfl, nd, hq⟩ := hr
        obtain ⟨u, f4, eu, h1, _⟩ := reps_at hq ed
        exact .inl ⟨a, us, i, u, rfl, rfl, sql_nd nd, eu, k_no hn h1 k⟩
      · cases e
    · cases e
  · rename_i xs i
    split at e
    · rename_i d' ed
      split at e
      · rename_i hn
        cases e
        obtain ⟨v, w, f, f', ev, hr, hr2, _, _⟩ := vw2 vw
        rw [rep_int' hr2] at ev
        subst ev
        unfold Rep at hr
        obtain ⟨a, us, rfl, q, hq⟩ := hr
        obtain ⟨u, f4, eu, h1, _⟩ := reps_at hq ed
        exact .inr ⟨a, us, i, u, rfl, rfl, q, eu, k_no hn h1 k⟩
      · cases e
    · cases e
  · cases e
end
end Rm
set_option Elab.async false
set_option linter.all false
set_option maxRecDepth 100000
set_option maxHeartbeats 4000000
/-! Rm, I: the rules of operations. -/
namespace Rm
open PySem L2

section
variable {g : G} {H H1 H2 H' : Hp} {Fz Fz1 Fz2 Fz' : Addr → Prop} {fp fp1 fp2 fp' : List Addr} {ρ ρ' : Env} {σ σ1 σ' : L2.St}
variable {X : Cx} {a b c : Expr} {pos : Pos} {os : List Opd} {ta tb tc : TE}
/-! ### two-place operations -/
def oAdd : List D → Option D := orF (oII hAdd) (orF oCatL (orF oCatT oCatS))
def oSub : List D → Option D := oII hSub
def oMod : List D → Option D := oII hMod
def oDiv : List D → Option D := oII hDiv
def oPow : List D → Option D := oII hPow
theorem e_add (hK : X.K = g.K) (ha : PE X a ta) (hb : PE X b tb) (ht : OpdT g os [ta, tb]) : PE X (.BinOp a .Add b pos) (tE g (dOp oAdd os)) :=
  e_bin (opR_or op_add (opR_or op_cat (opR_or op_catA op_add_str))) ha hb ht (ok_or2 ok_add (ok_or2 ok_catL (ok_or2 (hK ▸ ok_catT) ok_catS)))
theorem e_sub (ha : PE X a ta) (hb : PE X b tb) (ht : OpdT g os [ta, tb]) : PE X (.BinOp a .Sub b pos) (tE g (dOp oSub os)) := e_bin op_sub ha hb ht ok_sub
theorem e_mod (ha : PE X a ta) (hb : PE X b tb) (ht : OpdT g os [ta, tb]) : PE X (.BinOp a .Mod b pos) (tE g (dOp oMod os)) := e_bin op_mod ha hb ht ok_mod
theorem e_div (ha : PE X a ta) (hb : PE X b tb) (ht : OpdT g os [ta, tb]) : PE X (.BinOp a .FloorDiv b pos) (tE g (dOp oDiv os)) := e_bin op_fdiv ha hb ht ok_div
theorem e_pow (ha : PE X a ta) (hb : PE X b tb) (ht : OpdT g os [ta, tb]) : PE X (.BinOp a .Pow b pos) (tE g (dOp oPow os)) := e_bin op_pow ha hb ht ok_pow
def oEq : List D → Option D := orF (oEqF false) (oEqD false)
def oNe : List D → Option D := orF (oEqF true) (oEqD true)
def oLt : List D → Option D := oII hLt
def oLe : List D → Option D := oII hLe
def oGt : List D → Option D := oII hGt
def oGe : List D → Option D := oII hGe
/-- a comparison as an operation -/
def CmpOk (g : G) (X : Cx) (op : CmpOp) (f : List D → Option D) : Prop := ∃ rr : R2, OpR X (compareOp op) rr ∧ OpOk g f (r2 rr)
theorem c_eq (hK : X.K = g.K) (hu : X.A.units + 64 < cLine) : CmpOk g X .Eq oEq := ⟨_, opR_or op_eq (op_eqD hu), ok_or2 ok_eqF (hK ▸ ok_eqD)⟩
theorem c_ne (hK : X.K = g.K) (hu : X.A.units + 64 < cLine) : CmpOk g X .NotEq oNe := ⟨_, opR_or op_ne (op_neD hu), ok_or2 ok_neF (hK ▸ ok_neD)⟩
theorem c_lt : CmpOk g X .Lt oLt := ⟨_, op_lt, ok_lt⟩
theorem c_le : CmpOk g X .LtE oLe := ⟨_, op_le, ok_le⟩
theorem c_gt : CmpOk g X .Gt oGt := ⟨_, op_gt, ok_gt⟩
theorem c_ge : CmpOk g X .GtE oGe := ⟨_, op_ge, ok_ge⟩
theorem c_isN : CmpOk g X .Is (oIsN false) := ⟨_, op_isN, ok_isN⟩
theorem c_notN : CmpOk g X .IsNot (oIsN true) := ⟨_, op_notN, ok_notN⟩
theorem c_in (hK : X.K = g.K) : CmpOk g X .In (oIn false) := ⟨rIn X.K false, op_in_seq, hK ▸ ok_in⟩
theorem c_notIn (hK : X.K = g.K) : CmpOk g X .NotIn (oIn true) := ⟨rIn X.K true, op_notIn_seq, hK ▸ ok_in⟩
theorem e_cmpC {op : CmpOp} {f : List D → Option D} (ho : CmpOk g X op f) (ha : PE X a ta) (hb : PE X b tb) (hm : behindInMarks op b = false) (ht : OpdT g os [ta, tb]) : PE X (.Compare a [op] [b] pos) (tE g (dOp f os)) := let ⟨_, h1, h2⟩ := ho; e_cmp h1 ha hb hm ht h2
theorem t_cmpC {op : CmpOp} {f : List D → Option D} (ho : CmpOk g X op f) (ha : PE X a ta) (hb : PE X b tb) (hm : behindInMarks op b = false) (ht : OpdT g os [ta, tb]) : PT X (.Compare a [op] [b] pos) (tT g (dT (dOp f os))) := let ⟨_, h1, h2⟩ := ho; t_cmp h1 ha hb hm ht h2

/-! ### low <= a <= high -/
/-- three things read one behind the other, none of them owned -/
def dCh (f f' : List D → Option D) (ma mb mc : M) : M := fun ρ => match evOps [.e ma, .e mb] ρ with
  | some ([x, y], ρ1) => match f [x, y] with
    | some (.bl true) => if noOwn y = true then (match mc ρ1 with
      | some (z, ρ2) => match f' [y, z] with
        | some (.bl b) => some (.bl b, ρ2)
        | _ => none
      | none => none) else none
    | some (.bl false) => some (.bl false, ρ1)
    | _ => none
  | _ => none
theorem bl_ext {b : Bool} {v : V} {fR : List Addr} (x : Ext H Fz [] H' Fz fR) (hr : Rep g H' Fz (.bl b) v fR) : v = .bl b ∧ fR = [] := by
  unfold Rep at hr; exact hr
theorem tCh_ok {f f' : List D → Option D} {rr rr' : R2} {ma mb mc : M} (h1 : OpOk g f (r2 rr)) (h2 : OpOk g f' (r2 rr')) {σ : L2.St} {H : Hp} {Q : VK} (h : tE g (dCh f f' ma mb mc) σ H Q) : tChain rr rr' (tE g ma) (tE g mb) (tE g mc) σ H Q := by
  obtain ⟨Fz, ρ, fp, d, ρ', hs, e, k⟩ := h
  unfold dCh at e
  split at e
  · rename_i x y ρ1 e1
    refine ops_ok [.e ma, .e mb] [tE g ma, tE g mb] ⟨_, _, rfl, fun _ _ _ z => z, _, _, rfl, fun _ _ _ z => z, rfl⟩ hs e1 (K := fun vs H2 => match vs with
      | [x, y] => rr x y H2 fun z H3 => ∃ k, z = .bl k ∧ (if k = true then (tE g mc) σ H3 fun w' H4 => rr' y w' H4 Q else Q (.bl false) H3)
      | _ => False) fun vs H' Fz' fp' x1 hs' hl vw => ?_
    obtain ⟨v, w, f1, f2, ev, hr, hr2, _, _⟩ := vw2 vw
    subst ev
    split at e
    · rename_i e2
      split at e
      · rename_i hn
        split at e
        · rename_i z ρ2 e3
          split at e
          · rename_i bb e4
            cases e
            refine h1 [x, y] _ e2 [v, w] H' Fz' fp' _ vw fun u H2 fR x2 _ hb => ?_
            obtain ⟨rfl, rfl⟩ := bl_ext x2 hb
            refine ⟨true, rfl, ?_⟩
            refine iteT ?_
            obtain ⟨fp3, hs3, hsub⟩ := hs'.drops hl
            obtain ⟨hs4, x4⟩ := hs3.ext0 x2
            have hy : Rep g H' Fz' y w [] := by rw [← Rep.none_of y hn w f2 hr2]; exact hr2
            refine ⟨Fz', ρ1, fp3, z, _, hs4, e3, fun w' H5 Fz5 fp5 x5 hs5 => ?_⟩
            have xa := x4.trans x5
            have hy5 : Rep g H5 Fz5 y w [] := Rep.keep y w [] (xa.keepAll hs3) hy
            obtain ⟨f3, fp6, ef, ⟨w3, ew, hr3⟩, hs6, _⟩ := hs5.frame1
            cases ew
            refine h2 [y, z] _ e4 [w, w'] H5 Fz5 fp5 Q ⟨w, [w'], [], rfl, hy5, by simp, w', [], f3, rfl, hr3, fun a ha => by rw [ef]; exact List.mem_append_left _ ha, rfl⟩ fun u H6 fR x6 _ hb6 => ?_
            obtain ⟨rfl, rfl⟩ := bl_ext x6 hb6
            obtain ⟨hs7, x7⟩ := hs6.ext0 x6
            refine k _ H6 Fz5 fp6 ?_ (hs7.push (rep_bl _))
            refine (((x1.shrink hsub).trans xa).shrink fun a ha => ?_).trans x7
            rw [ef]; exact List.mem_append_right _ ha
          · cases e
        · cases e
      · cases e
    · rename_i e2
      cases e
      refine h1 [x, y] _ e2 [v, w] H' Fz' fp' _ vw fun u H2 fR x2 _ hb => ?_
      obtain ⟨rfl, rfl⟩ := bl_ext x2 hb
      refine ⟨false, rfl, ?_⟩
      refine iteF ?_
      obtain ⟨fp3, hs3, hsub⟩ := hs'.drops hl
      obtain ⟨hs4, x4⟩ := hs3.ext0 x2
      exact k _ H2 Fz' fp3 ((x1.shrink hsub).trans x4) (hs4.push (rep_bl _))
    · cases e
  · cases e
theorem e_chain {op op' : CmpOp} {f f' : List D → Option D} {ma mb mc : M} (h1 : CmpOk g X op f) (h2 : CmpOk g X op' f') (ha : PE X a (tE g ma)) (hb : PE X b (tE g mb)) (hc : PE X c (tE g mc)) (hm : lastMarks [op, op'] [b, c] = false) :
    PE X (.Compare a [op, op'] [b, c] pos) (tE g (dCh f f' ma mb mc)) := let ⟨_, q1, q2⟩ := h1; let ⟨_, q3, q4⟩ := h2; pe_imp (pe_chain q1 q3 ha hb hc hm) fun σ H Q q => tCh_ok q2 q4 q
theorem t_chain {op op' : CmpOp} {f f' : List D → Option D} {ma mb mc : M} (h1 : CmpOk g X op f) (h2 : CmpOk g X op' f') (ha : PE X a (tE g ma)) (hb : PE X b (tE g mb)) (hc : PE X c (tE g mc)) (hm : lastMarks [op, op'] [b, c] = false) :
    PT X (.Compare a [op, op'] [b, c] pos) (tT g (dT (dCh f f' ma mb mc))) := let ⟨_, q1, q2⟩ := h1; let ⟨_, q3, q4⟩ := h2; pt_imp (pt_chain q1 q3 ha hb hc hm) fun σ H Q q => tCh_ok q2 q4 (tT_of q)

/-! ### a minus ahead -/
def oNeg : List D → Option D := fun ds => match ds with
  | [.int a] => some (.int (-a))
  | _ => none
theorem ok_neg : OpOk g oNeg (r1 (rU fun i => .int (-i))) := fun ds d e vs H Fz fp Q vw k => by
  unfold oNeg at e
  split at e
  · rename_i a
    cases e
    obtain ⟨v, f, ev, hr, _⟩ := vw1 vw
    rw [rep_int' hr] at ev
    subst ev
    exact ⟨a, rfl, k_none (rep_int _) k⟩
  · cases e
theorem e_neg (ha : PE X a ta) (ht : OpdT g os [ta]) : PE X (.UnaryOp .USub a pos) (tE g (dOp oNeg os)) := e_un un_neg ha ht ok_neg

/-! ### subscripts, slices -/
theorem e_ix (hK : X.K = g.K) (ha : PE X a ta) (hb : PE X b tb) (hs : PlainIx b) (ht : OpdT g os [ta, tb]) : PE X (.Subscript a b pos) (tE g (dOp oIx os)) :=
  e_op (r := r2 (orR (rIxL X.K) (rIxT X.K))) (pe_ix (ix_list.or ix_tup) ha hb hs) ht (fun σ H Q q => q) (hK ▸ ok_ix)
def cutD (xs : List D) (lo hi : Option Int) : List D := (xs.drop (HT.sIx xs.length 0 lo)).take (HT.sIx xs.length xs.length hi - HT.sIx xs.length 0 lo)
theorem reps_drop : ∀ (n : Nat) {xs : List D} {vs : List V}, Reps g H Fz xs vs [] → Reps g H Fz (xs.drop n) (vs.drop n) []
  | 0, _, _, h => h
  | n + 1, [], vs, h => by unfold Reps at h; rw [h.1]; unfold Reps; exact ⟨rfl, rfl⟩
  | n + 1, x :: xs, vs, h => by
    unfold Reps at h
    obtain ⟨v, vs', f1, f2, e1, e2, h1, h2⟩ := h
    have e3 : f2 = [] := (List.append_eq_nil_iff.mp e2.symm).2
    subst e1 e3
    exact reps_drop n h2
theorem reps_take : ∀ (n : Nat) {xs : List D} {vs : List V}, Reps g H Fz xs vs [] → Reps g H Fz (xs.take n) (vs.take n) []
  | 0, _, _, h => by unfold Reps; exact ⟨rfl, rfl⟩
  | n + 1, [], vs, h => by unfold Reps at h; rw [h.1]; unfold Reps; exact ⟨rfl, rfl⟩
  | n + 1, x :: xs, vs, h => by
    unfold Reps at h
    obtain ⟨v, vs', f1, f2, e1, e2, h1, h2⟩ := h
    have e3 := List.append_eq_nil_iff.mp e2.symm
    obtain ⟨rfl, rfl⟩ := e3
    subst e1
    rw [List.take_succ_cons, List.take_succ_cons]
    unfold Reps
    exact ⟨v, vs'.take n, [], [], rfl, rfl, h1, reps_take n h2⟩
theorem reps_cut {xs : List D} {vs : List V} (h : Reps g H Fz xs vs []) (lo hi : Option Int) : Reps g H Fz (cutD xs lo hi) (cutV vs lo hi) [] := by
  unfold cutD cutV
  rw [reps_len h]
  exact reps_take _ (reps_drop _ h)
def cutR (d : D) (lo hi : Option Int) : Option D := match d with
  | .lst _ xs => if noOwns xs = true then some (.lst true (cutD xs lo hi)) else none
  | .tup xs => if noOwns xs = true then some (.tup (cutD xs lo hi)) else none
  | .scr ns => some (.lst true (cutD (ns.map .int) lo hi))
  | _ => none
theorem scr_reps : ∀ {ns : List Int}, Reps g H Fz (ns.map D.int) (ns.map V.int) []
  | [] => by show Reps g H Fz [] [] []; unfold Reps; exact ⟨rfl, rfl⟩
  | n :: ns => by show Reps g H Fz (D.int n :: ns.map D.int) (V.int n :: ns.map V.int) []; unfold Reps; exact ⟨_, _, [], [], rfl, rfl, rep_int n, scr_reps⟩
theorem cut_whole {xs : List D} {lo hi : Option Int} (h : HT.sIx xs.length 0 lo = 0 ∧ HT.sIx xs.length xs.length hi = xs.length) : cutD xs lo hi = xs := by
  unfold cutD
  rw [h.1, h.2, List.drop_zero, Nat.sub_zero, List.take_length]
theorem cut_ok {d d' : D} {v : V} {f : List Addr} {lo hi : Option Int} {Q : VK} (e : cutR d lo hi = some d') (hr : Rep g H Fz d v f) (k : ∀ v H' fR, Ext H Fz [] H' Fz fR → fR.Nodup → Rep g H' Fz d' v fR → Q v H') : rSlL g.K v lo hi H Q ∨ rSlA g.K v lo hi H Q := by
  unfold cutR at e
  split at e
  · split at e
    · rename_i o xs hn
      cases e
      obtain ⟨p, vs, rfl, hp, hq⟩ := rep_lst' hn hr
      exact .inl ⟨p, vs, rfl, .inl (.inl hp), fun q hq' => k_lst hq' (reps_cut hq lo hi) k⟩
    · cases e
  · split at e
    · rename_i xs hn
      cases e
      obtain ⟨p, vs, rfl, hp, hq⟩ := rep_tup' hn hr
      refine .inr ⟨p, vs, rfl, hp, fun hw => ?_, fun _ q hq' => k_tup hq' (reps_cut hq lo hi) k⟩
      rw [← reps_len hq] at hw
      rw [cut_whole hw] at k
      refine k_none ?_ k
      unfold Rep
      exact ⟨p, vs, rfl, hp, hq⟩
    · cases e
  · rename_i ns
    cases e
    unfold Rep at hr
    obtain ⟨a, rfl, _, hq⟩ := hr
    refine .inl ⟨a, ns.map V.int, rfl, ?_, fun q hq' => k_lst hq' (reps_cut scr_reps lo hi) k⟩
    rcases hq with ⟨ob, hq⟩ | hq
    · exact .inl (.inr ⟨ob, hq⟩)
    · exact hq H
  · cases e
def rCut (K : PySem.W.Frag) (b1 b2 : Bool) : List V → Hp → VK → Prop := fun vs H Q => match b1, b2, vs with
  | false, false, [x] => rSlL K x none none H Q ∨ rSlA K x none none H Q
  | true, false, [x, .int l] => rSlL K x (some l) none H Q ∨ rSlA K x (some l) none H Q
  | false, true, [x, .int h] => rSlL K x none (some h) H Q ∨ rSlA K x none (some h) H Q
  | true, true, [x, .int l, .int h] => rSlL K x (some l) (some h) H Q ∨ rSlA K x (some l) (some h) H Q
  | _, _, _ => False
def oCut (b1 b2 : Bool) : List D → Option D := fun ds => match b1, b2, ds with
  | false, false, [x] => cutR x none none
  | true, false, [x, .int l] => cutR x (some l) none
  | false, true, [x, .int h] => cutR x none (some h)
  | true, true, [x, .int l, .int h] => cutR x (some l) (some h)
  | _, _, _ => none
theorem ok_cut {b1 b2 : Bool} : OpOk g (oCut b1 b2) (rCut g.K b1 b2) := fun ds d e vs H Fz fp Q vw k => by
  unfold oCut at e
  split at e
  · obtain ⟨v, f, rfl, hr, _⟩ := vw1 vw
    exact cut_ok e hr k
  · obtain ⟨v, w, f, f2, rfl, hr, hr2, _, _⟩ := vw2 vw
    rw [rep_int' hr2]
    exact cut_ok e hr k
  · obtain ⟨v, w, f, f2, rfl, hr, hr2, _, _⟩ := vw2 vw
    rw [rep_int' hr2]
    exact cut_ok e hr k
  · obtain ⟨v, w, u, f, f2, f3, rfl, hr, hr2, hr3⟩ := vw3 vw
    rw [rep_int' hr2, rep_int' hr3]
    exact cut_ok e hr k
  · cases e
theorem e_cut0 {p2 : Pos} (hK : X.K = g.K) (ha : PE X a ta) (ht : OpdT g os [ta]) : PE X (.Subscript a (.Slice none none none p2) pos) (tE g (dOp (oCut false false) os)) :=
  e_op (r := rCut X.K false false) (pe_slice (sl_list.or sl_tupA) ha po_none po_none) ht (fun σ H Q q => q) (hK ▸ ok_cut)
theorem tOps_mono : ∀ {ts : List TE} {σ : L2.St} {H : Hp} {K K' : List V → Hp → Prop}, True → True := fun _ => trivial
theorem e_cutL {p2 : Pos} {lo : Expr} {o1 : Opd} {m2 : M} (hK : X.K = g.K) (ha : PE X a ta) (hb : PE X lo (tE g m2)) (ht : OpdT g [o1, .e m2] [ta, tE g m2]) : PE X (.Subscript a (.Slice (some lo) none none p2) pos) (tE g (dOp (oCut true false) [o1, .e m2])) :=
  pe_imp (pe_slice (sl_list.or sl_tupA) ha (po_some hb) po_none) fun σ H Q q => by
    obtain ⟨Fz, ρ, fp, d, ρ', hs, e, k⟩ := q
    have e0 := e
    unfold dOp at e
    split at e
    · cases e
    · rename_i ds ρ1 e1
      split at e
      · cases e
      · rename_i d1 e2
        cases e
        match ds, e2 with
        | [x, .int l], e2 =>
          refine ops_ok [o1, .e m2] [ta, tE g m2] ht hs e1 (K := fun vs H3 => match vs with
            | [x, y] => ∃ i, y = .int i ∧ (rSlL X.K x (some i) none H3 Q ∨ rSlA X.K x (some i) none H3 Q)
            | _ => False) fun vs H' Fz' fp' x1 hs' hl vw => ?_
          obtain ⟨v, w, f, f2, rfl, hr, hr2, _, _⟩ := vw2 vw
          refine ⟨l, rep_int' hr2, ?_⟩
          rw [hK]
          refine cut_ok e2 hr fun v H2 fR x2 n hr' => ?_
          obtain ⟨fp3, hs3, hsub⟩ := hs'.drops hl
          obtain ⟨hs4, x4⟩ := hs3.fresh x2 n hr'
          exact k v H2 Fz' _ ((x1.shrink hsub).trans x4) hs4
theorem e_cutH {p2 : Pos} {lo : Expr} {o1 : Opd} {m2 : M} (hK : X.K = g.K) (ha : PE X a ta) (hb : PE X lo (tE g m2)) (ht : OpdT g [o1, .e m2] [ta, tE g m2]) : PE X (.Subscript a (.Slice none (some lo) none p2) pos) (tE g (dOp (oCut false true) [o1, .e m2])) :=
  pe_imp (pe_slice (sl_list.or sl_tupA) ha po_none (po_some hb)) fun σ H Q q => by
    obtain ⟨Fz, ρ, fp, d, ρ', hs, e, k⟩ := q
    have e0 := e
    unfold dOp at e
    split at e
    · cases e
    · rename_i ds ρ1 e1
      split at e
      · cases e
      · rename_i d1 e2
        cases e
        match ds, e2 with
        | [x, .int l], e2 =>
          refine ops_ok [o1, .e m2] [ta, tE g m2] ht hs e1 (K := fun vs H3 => match vs with
            | [x, y] => ∃ i, y = .int i ∧ (rSlL X.K x none (some i) H3 Q ∨ rSlA X.K x none (some i) H3 Q)
            | _ => False) fun vs H' Fz' fp' x1 hs' hl vw => ?_
          obtain ⟨v, w, f, f2, rfl, hr, hr2, _, _⟩ := vw2 vw
          refine ⟨l, rep_int' hr2, ?_⟩
          rw [hK]
          refine cut_ok e2 hr fun v H2 fR x2 n hr' => ?_
          obtain ⟨fp3, hs3, hsub⟩ := hs'.drops hl
          obtain ⟨hs4, x4⟩ := hs3.fresh x2 n hr'
          exact k v H2 Fz' _ ((x1.shrink hsub).trans x4) hs4
/-- xs[::-1] of a list -/
theorem reps_rev : ∀ {xs : List D} {vs : List V}, Reps g H Fz xs vs [] → Reps g H Fz xs.reverse vs.reverse []
  | [], vs, h => by unfold Reps at h; rw [h.1]; unfold Reps; exact ⟨rfl, rfl⟩
  | x :: xs, vs, h => by
    unfold Reps at h
    obtain ⟨v, vs', f1, f2, e1, e2, h1, h2⟩ := h
    obtain ⟨rfl, rfl⟩ := List.append_eq_nil_iff.mp e2.symm
    subst e1
    rw [List.reverse_cons, List.reverse_cons]
    exact reps_append (f := []) (f' := []) (reps_rev h2) (by unfold Reps; exact ⟨v, [], [], [], rfl, rfl, h1, by unfold Reps; exact ⟨rfl, rfl⟩⟩)
def oRevL : List D → Option D := fun ds => match ds with
  | [.lst _ xs] => if noOwns xs = true then some (.lst true xs.reverse) else none
  | _ => none
theorem e_revL {k : Nat} {p1 p2 p3 : Pos} (hK : X.K = g.K) (ha : PE X a ta) (ht : OpdT g os [ta]) : PE X (.Subscript a (.Slice none none (some (.UnaryOp .USub (.Constant (.int 1) k p1) p2)) p3) pos) (tE g (dOp oRevL os)) :=
  e_op (r := fun vs H Q => match vs with
    | [x] => ∃ a xs, x = .ref a ∧ SqL X.K H a xs ∧ ∀ p, H p = none → Q (.ref p) (upd H p (.lst xs.reverse))
    | _ => False) (pe_revL ha) ht (fun σ H Q q => q) fun ds d e vs H Fz fp Q vw k => by
      unfold oRevL at e
      split at e
      · split at e
        · rename_i o xs hn
          cases e
          obtain ⟨v, f, rfl, hr, _⟩ := vw1 vw
          obtain ⟨p, us, rfl, hp, hq⟩ := rep_lst' hn hr
          exact ⟨p, us, rfl, .inl (.inl hp), fun q hq' => k_lst hq' (reps_rev hq) k⟩
        · cases e
      · cases e
end
end Rm
set_option Elab.async false
set_option linter.all false
set_option maxRecDepth 100000
set_option maxHeartbeats 4000000
/-! Rm, J: built-in functions. -/
namespace Rm
open PySem L2

section
variable {g : G} {H H1 H2 H' : Hp} {Fz Fz1 Fz2 Fz' : Addr → Prop} {fp fp1 fp2 fp' : List Addr} {ρ ρ' : Env} {σ σ1 σ' : L2.St}
variable {X : Cx} {x : Str} {p pos : Pos} {a b c : Expr} {e : Expr} {es : List Expr} {os : List Opd} {ts : List TE} {ta tb tc : TE} {bid T : String} {r : List V → Hp → VK → Prop} {f : List D → Option D}
/-- a built-in function's call as an operation -/
def CbOk (g : G) (X : Cx) (u : Value) (f : List D → Option D) : Prop := ∃ r : List V → Hp → VK → Prop, CallR X u r ∧ OpOk g f r
theorem e_cb (hc : CbOk g X (.builtin bid) f) (hg : Gl X x) (hm : X.mg x = none) (hv : bootBuiltins x = some (.builtin bid)) (ha : PA X (e :: es) (tOpsA ts)) (ht : OpdT g os ts) (hn : x ≠ "__name__" := by decide) (hdb : (x == ("__debug__" : Str)) = false := by decide)
    (he : starEach (e :: es) X.env = (false, eval e X.env) :: starEach es X.env := by rfl) (hpl : (backTo pos (starEach es X.env)).any (·.1) = false := by rfl) : PE X (.Call (.Name x p) (e :: es) [] pos) (tE g (dOp f os)) :=
  let ⟨_, h1, h2⟩ := hc
  e_op (pe_callB h1 hg hm hv ha hn hdb he hpl) ht (fun _ _ _ q => q) h2
theorem e_ct (hc : CbOk g X (.type T) f) (hg : Gl X x) (hm : X.mg x = none) (hv : bootBuiltins x = some (.type T)) (ha : PA X (e :: es) (tOpsA ts)) (ht : OpdT g os ts) (hn : x ≠ "__name__" := by decide) (hdb : (x == ("__debug__" : Str)) = false := by decide)
    (he : starEach (e :: es) X.env = (false, eval e X.env) :: starEach es X.env := by rfl) (hpl : (backTo pos (starEach es X.env)).any (·.1) = false := by rfl) : PE X (.Call (.Name x p) (e :: es) [] pos) (tE g (dOp f os)) :=
  let ⟨_, h1, h2⟩ := hc
  e_op (pe_callTy h1 hg hm hv ha hn hdb he hpl) ht (fun _ _ _ q => q) h2
theorem CbOk.or {u : Value} {f f' : List D → Option D} (h : CbOk g X u f) (h' : CbOk g X u f') : CbOk g X u (orF f f') := let ⟨_, h1, h2⟩ := h; let ⟨_, h3, h4⟩ := h'; ⟨_, callR_or h1 h3, ok_orC h2 h4⟩
/-- arguments, from the left -/
theorem a_nil : PA X [] (tOpsA []) := pa_nil
theorem a_cons (ha : PE X e ta) (hr : PA X es (tOpsA ts)) (hs : starEach (e :: es) X.env = (false, eval e X.env) :: starEach es X.env := by rfl) : PA X (e :: es) (tOpsA (ta :: ts)) := pa_cons ha hr hs

/-! ### len -/
def oLen : List D → Option D := fun ds => match ds with
  | [d] => match rowOf d with
    | some xs => some (.int xs.length)
    | none => none
  | _ => none
theorem b_len (hK : X.K = g.K) : CbOk g X (.builtin "len") oLen := ⟨_, call_len_seq, fun ds d e vs H Fz fp Q vw k => by
  unfold oLen at e
  split at e
  · split at e
    · rename_i xs ex
      cases e
      obtain ⟨v, f, rfl, hr, _⟩ := vw1 vw
      obtain ⟨a, us, f3, rfl, hs, hq⟩ := rep_row ex hr
      refine ⟨a, us, rfl, hK ▸ hs, ?_⟩
      rw [← reps_len hq]
      exact k_none (rep_int _) k
    · cases e
  · cases e⟩
/-! ### abs, min, max, int -/
def oAbs : List D → Option D := fun ds => match ds with
  | [.int i] => some (.int (if i < 0 then -i else i))
  | _ => none
theorem b_abs : CbOk g X (.builtin "abs") oAbs := ⟨_, call_abs, fun ds d e vs H Fz fp Q vw k => by
  unfold oAbs at e
  split at e
  · cases e
    obtain ⟨v, f, rfl, hr, _⟩ := vw1 vw
    rw [rep_int' hr]
    exact ⟨_, rfl, k_none (rep_int _) k⟩
  · cases e⟩
def oMin2 : List D → Option D := oII fun i j => some (.int (if j < i then j else i))
def oMax2 : List D → Option D := oII fun i j => some (.int (if j > i then j else i))
theorem b_min2 (hc : X.calm = true) : CbOk g X (.builtin "min") oMin2 := ⟨_, call_min2 hc, fun ds d e vs H Fz fp Q vw k => by
  unfold oMin2 oII at e
  split at e
  · cases e
    obtain ⟨v, w, f, f2, rfl, hr, hr2, _⟩ := vw2 vw
    rw [rep_int' hr, rep_int' hr2]
    exact ⟨_, _, rfl, k_none (rep_int _) k⟩
  · cases e⟩
theorem b_max2 (hc : X.calm = true) : CbOk g X (.builtin "max") oMax2 := ⟨_, call_max2 hc, fun ds d e vs H Fz fp Q vw k => by
  unfold oMax2 oII at e
  split at e
  · cases e
    obtain ⟨v, w, f, f2, rfl, hr, hr2, _⟩ := vw2 vw
    rw [rep_int' hr, rep_int' hr2]
    exact ⟨_, _, rfl, k_none (rep_int _) k⟩
  · cases e⟩
def min2I (i j : Int) : Int := if j < i then j else i
def oMin3 : List D → Option D := fun ds => match ds with
  | [.int i, .int j, .int l] => some (.int (min2I (min2I i j) l))
  | _ => none
theorem b_min3 (hc : X.calm = true) : CbOk g X (.builtin "min") oMin3 := ⟨_, call_min3Nu hc, fun ds d e vs H Fz fp Q vw k => by
  unfold oMin3 at e
  split at e
  · rename_i i j l
    cases e
    obtain ⟨v, w, u, f, f2, f3, rfl, hr, hr2, hr3⟩ := vw3 vw
    rw [rep_int' hr, rep_int' hr2, rep_int' hr3]
    refine ⟨_, _, _, .int (min2I (min2I i j) l), rfl, ?_, k_none (rep_int _) k⟩
    have two : ∀ i j : Int, nuMin2 (.int i) (.int j) = some (.int (min2I i j)) := fun i j => by
      show some (if decide (j < i) = true then V.int j else V.int i) = some (.int (if j < i then j else i))
      by_cases h : j < i <;> simp [h]
    unfold nuMin3
    rw [two]
    exact two _ _
  · cases e⟩
def oInt : List D → Option D := fun ds => match ds with
  | [.int i] => some (.int i)
  | [.bl b] => some (.int (if b then 1 else 0))
  | _ => none
theorem b_int : CbOk g X (.type "int") oInt := ⟨_, call_int1, fun ds d e vs H Fz fp Q vw k => by
  unfold oInt at e
  split at e
  · cases e
    obtain ⟨v, f, rfl, hr, _⟩ := vw1 vw
    rw [rep_int' hr]
    exact .inl ⟨_, rfl, k_none (rep_int _) k⟩
  · cases e
    obtain ⟨v, f, rfl, hr, _⟩ := vw1 vw
    rw [rep_bl' hr]
    exact .inr ⟨_, rfl, k_none (rep_int _) k⟩
  · cases e⟩
/-! ### any, all -/
def blsOf : List D → Option (List Bool)
  | [] => some []
  | .bl b :: ds => match blsOf ds with
    | some bs => some (b :: bs)
    | none => none
  | _ :: _ => none
theorem blsOf_eq : ∀ {ds : List D} {bs : List Bool}, blsOf ds = some bs → ds = bs.map D.bl
  | [], bs, h => by unfold blsOf at h; cases h; rfl
  | d :: ds, bs, h => by
    cases d with
    | bl b =>
      unfold blsOf at h
      cases e : blsOf ds with
      | none => rw [e] at h; cases h
      | some bs' => rw [e] at h; cases h; rw [blsOf_eq e]; rfl
    | _ => unfold blsOf at h; cases h
theorem blsOf_map : ∀ bs : List Bool, blsOf (bs.map D.bl) = some bs
  | [] => rfl
  | b :: bs => by show blsOf (D.bl b :: bs.map D.bl) = _; unfold blsOf; rw [blsOf_map bs]
theorem reps_bls : ∀ {bs : List Bool} {vs : List V} {f : List Addr}, Reps g H Fz (bs.map D.bl) vs f → vs = bs.map V.bl
  | [], vs, f, h => by unfold Reps at h; exact h.1
  | b :: bs, vs, f, h => by
    have h : Reps g H Fz (D.bl b :: bs.map D.bl) vs f := h
    unfold Reps at h
    obtain ⟨v, vs', f1, f2, rfl, _, h1, h2⟩ := h
    rw [rep_bl' h1, reps_bls h2]; rfl
def oAny : List D → Option D := fun ds => match ds with
  | [.lst _ xs] => match blsOf xs with
    | some bs => some (.bl (bs.any id))
    | none => none
  | _ => none
def oAll : List D → Option D := fun ds => match ds with
  | [.lst _ xs] => match blsOf xs with
    | some bs => some (.bl (bs.all id))
    | none => none
  | _ => none
theorem b_any (hK : X.K = g.K) (hc : X.calm = true) : CbOk g X (.builtin "any") oAny := ⟨_, cr_any hc, fun ds d e vs H Fz fp Q vw k => by
  unfold oAny at e
  split at e
  · split at e
    · rename_i bs eb
      cases e
      obtain ⟨v, f, rfl, hr, _⟩ := vw1 vw
      obtain ⟨a, us, f', rfl, ha, hq, _⟩ := rep_lstA hr
      rw [blsOf_eq eb] at hq
      rw [reps_bls hq] at ha
      exact ⟨a, bs, rfl, .inl (.inl ha), k_none (rep_bl _) k⟩
    · cases e
  · cases e⟩
theorem b_all (hK : X.K = g.K) (hc : X.calm = true) : CbOk g X (.builtin "all") oAll := ⟨_, cr_all hc, fun ds d e vs H Fz fp Q vw k => by
  unfold oAll at e
  split at e
  · split at e
    · rename_i bs eb
      cases e
      obtain ⟨v, f, rfl, hr, _⟩ := vw1 vw
      obtain ⟨a, us, f', rfl, ha, hq, _⟩ := rep_lstA hr
      rw [blsOf_eq eb] at hq
      rw [reps_bls hq] at ha
      exact ⟨a, bs, rfl, .inl (.inl ha), k_none (rep_bl _) k⟩
    · cases e
  · cases e⟩
/-! ### list, tuple -/
def oList : List D → Option D := fun ds => match ds with
  | [d] => match rowOf d with
    | some xs => if noOwns xs = true then some (.lst true xs) else none
    | none => none
  | _ => none
theorem b_list (hK : X.K = g.K) : CbOk g X (.type "list") oList := ⟨_, call_list_of, fun ds d e vs H Fz fp Q vw k => by
  unfold oList at e
  split at e
  · split at e
    · rename_i xs ex
      split at e
      · rename_i hn
        cases e
        obtain ⟨v, f, rfl, hr, _⟩ := vw1 vw
        obtain ⟨a, us, f3, rfl, hs, hq⟩ := rep_row ex hr
        exact ⟨a, us, rfl, hK ▸ hs, fun q hq' => k_lst hq' (reps_none hn hq) k⟩
      · cases e
    · cases e
  · cases e⟩
def oTup : List D → Option D := fun ds => match ds with
  | [d] => match rowOf d with
    | some xs => if noOwns xs = true then some (.tup xs) else none
    | none => none
  | _ => none
theorem b_tup (hK : X.K = g.K) : CbOk g X (.type "tuple") oTup := ⟨_, call_tuple_of, fun ds d e vs H Fz fp Q vw k => by
  unfold oTup at e
  split at e
  · split at e
    · rename_i xs ex
      split at e
      · rename_i hn
        cases e
        obtain ⟨v, f, rfl, hr, _⟩ := vw1 vw
        unfold rowOf at ex
        split at ex
        · cases ex
          obtain ⟨a, us, rfl, ha, hq⟩ := rep_lst' hn hr
          exact ⟨a, us, rfl, .inl ⟨.inl (.inl ha), fun q hq' => k_tup hq' hq k⟩⟩
        · cases ex
          obtain ⟨a, us, rfl, ha, hq⟩ := rep_tup' hn hr
          refine ⟨a, us, rfl, .inr ⟨hK ▸ ha, k_none ?_ k⟩⟩
          unfold Rep
          exact ⟨a, us, rfl, ha, hq⟩
        · cases ex
      · cases e
    · cases e
  · cases e⟩
/-! ### isinstance -/
def tyN : D → Option String
  | .non => some "NoneType"
  | .bl _ => some "bool"
  | .int _ => some "int"
  | .str _ => some "str"
  | .tup _ => some "tuple"
  | .lst _ _ => some "list"
  | .dct _ _ _ => some "dict"
  | _ => none
theorem rep_ty {d : D} {v : V} {f : List Addr} {n : String} (e : tyN d = some n) (h : Rep g H Fz d v f) : TyX g.K H v (.type n) := by
  cases d with
  | non => cases e; rw [rep_non' h]; exact .base .non
  | bl b => cases e; rw [rep_bl' h]; exact .base (.bl b)
  | int b => cases e; rw [rep_int' h]; exact .base (.int b)
  | str b => cases e; rw [rep_str' h]; exact .base (.str b)
  | tup xs =>
    cases e
    obtain ⟨a, vs, rfl, q, _⟩ := rep_tupA h
    rcases q with (q | ⟨o, q⟩) | q
    · exact .base (.tup q)
    · exact .fTuple q
    · obtain ⟨o, its, n, q, c, _⟩ := q
      exact .kTuple q c
  | lst o xs => cases e; obtain ⟨a, vs, f', rfl, q, _⟩ := rep_lstA h; exact .base (.lst q)
  | dct o ks xs =>
    cases e
    unfold Rep at h
    obtain ⟨a, vs, f', rfl, _, _, nd⟩ := h
    rcases nd with ⟨kk, _, nd⟩ | ⟨kk, _, nd⟩ <;> rcases nd with ⟨_, q, _⟩ | ⟨_, _, q, _⟩
    · exact .base (.dK q)
    · exact .base (.dK q)
    · exact .base (.dT q)
    · exact .base (.dT q)
  | ins o ks c xs => cases e
  | scr ns => cases e
/-- what a type's name answers of data -/
structure IsiOk (n : String) (f : D → Option Bool) : Prop where
  ok : ∀ d b, f d = some b → ∃ m, tyN d = some m ∧ kitB m n = some b
def isI : D → Option Bool
  | .int _ => some true
  | .bl _ => some true
  | .non => some false
  | .str _ => some false
  | .tup _ => some false
  | .lst _ _ => some false
  | .dct _ _ _ => some false
  | _ => none
def isB : D → Option Bool
  | .int _ => some false
  | .bl _ => some true
  | .non => some false
  | .str _ => some false
  | .tup _ => some false
  | .lst _ _ => some false
  | .dct _ _ _ => some false
  | _ => none
def isS : D → Option Bool
  | .int _ => some false
  | .bl _ => some false
  | .non => some false
  | .str _ => some true
  | .tup _ => some false
  | .lst _ _ => some false
  | .dct _ _ _ => some false
  | _ => none
def isT : D → Option Bool
  | .int _ => some false
  | .bl _ => some false
  | .non => some false
  | .str _ => some false
  | .tup _ => some true
  | .lst _ _ => some false
  | .dct _ _ _ => some false
  | _ => none
def isL : D → Option Bool
  | .int _ => some false
  | .bl _ => some false
  | .non => some false
  | .str _ => some false
  | .tup _ => some false
  | .lst _ _ => some true
  | .dct _ _ _ => some false
  | _ => none
theorem isi_int : IsiOk "int" isI := ⟨fun d b h => by cases d <;> cases h <;> exact ⟨_, rfl, by decide +kernel⟩⟩
theorem isi_bool : IsiOk "bool" isB := ⟨fun d b h => by cases d <;> cases h <;> exact ⟨_, rfl, by decide +kernel⟩⟩
theorem isi_str : IsiOk "str" isS := ⟨fun d b h => by cases d <;> cases h <;> exact ⟨_, rfl, by decide +kernel⟩⟩
theorem isi_tuple : IsiOk "tuple" isT := ⟨fun d b h => by cases d <;> cases h <;> exact ⟨_, rfl, by decide +kernel⟩⟩
theorem isi_list : IsiOk "list" isL := ⟨fun d b h => by cases d <;> cases h <;> exact ⟨_, rfl, by decide +kernel⟩⟩
def oIsi (q : D → Option Bool) : List D → Option D := fun ds => match ds with
  | [d] => match q d with
    | some b => some (.bl b)
    | none => none
  | _ => none
theorem ok_isi {n : String} {q : D → Option Bool} (hq : IsiOk n q) : OpOk g (oIsi q) (fun vs H Q => match vs with | [v] => rIsi g.K [v, .ty n] H Q | _ => False) := fun ds d e vs H Fz fp Q vw k => by
  unfold oIsi at e
  split at e
  · rename_i d0
    split at e
    · rename_i b eb
      cases e
      obtain ⟨v, f, rfl, hr, _⟩ := vw1 vw
      obtain ⟨m, e1, e2⟩ := hq.ok _ _ eb
      exact ⟨v, .ty n, .type m, .type n, b, rfl, .ty n, rep_ty e1 hr, kit_ty e2, k_none (rep_bl _) k⟩
    · cases e
  · cases e
theorem e_isi {n : String} {q : D → Option Bool} {y : Str} {p2 : Pos} (hK : X.K = g.K) (hq : IsiOk n q) (hg : Gl X x) (hm : X.mg x = none) (hv : bootBuiltins x = some (.builtin "isinstance")) (hg2 : Gl X y) (hm2 : X.mg y = none) (hv2 : bootBuiltins y = some (.type n))
    (ha : PE X a ta) (ht : OpdT g os [ta]) (hn : x ≠ "__name__" := by decide) (hdb : (x == ("__debug__" : Str)) = false := by decide) (hn2 : y ≠ "__name__" := by decide) (hdb2 : (y == ("__debug__" : Str)) = false := by decide)
    (he1 : starEach [a, .Name y p2] X.env = (false, eval a X.env) :: starEach [.Name y p2] X.env := by rfl) (he2 : starEach [.Name y p2] X.env = (false, eval (.Name y p2) X.env) :: starEach [] X.env := by rfl)
    (hpl : (backTo pos (starEach [.Name y p2] X.env)).any (·.1) = false := by rfl) : PE X (.Call (.Name x p) [a, .Name y p2] [] pos) (tE g (dOp (oIsi q) os)) :=
  e_op (r := fun vs H Q => match vs with | [v] => rIsi X.K [v, .ty n] H Q | _ => False) (pe_callB call_isi hg hm hv (pa_cons ha (pa_cons (pe_bltn hg2 hm2 hv2 (show RelV (.ty n) (.type n) from rfl) hn2 hdb2) pa_nil he2) he1) hn hdb he1 hpl) ht (fun σ H Q q => q) (hK ▸ ok_isi hq)
/-- isinstance(a, (list, tuple)), two types -/
def oIsi2 (q q' : D → Option Bool) : List D → Option D := fun ds => match ds with
  | [d] => match q d, q' d with
    | some b, some b' => some (.bl (b || b'))
    | _, _ => none
  | _ => none
def rIs2 (K : PySem.W.Frag) (n n' : String) : List V → Hp → VK → Prop := fun vs H Q => match vs with
  | [v] => ([V.ty n, V.ty n'] : List V).length ≤ sizeLine ∧ ∀ t, H t = none → rIsiT K [v, .ref t] (upd H t (.tup [.ty n, .ty n'])) Q
  | _ => False
theorem ok_isi2 {n n' : String} {q q' : D → Option Bool} (hq : IsiOk n q) (hq' : IsiOk n' q') : OpOk g (oIsi2 q q') (rIs2 g.K n n') := fun ds d e vs H Fz fp Q vw k => by
  unfold oIsi2 at e
  split at e
  · rename_i d0
    split at e
    · rename_i b b' eb eb'
      cases e
      obtain ⟨v, f, rfl, hr, _⟩ := vw1 vw
      obtain ⟨m, e1, e2⟩ := hq.ok _ _ eb
      obtain ⟨m', e1', e2'⟩ := hq'.ok _ _ eb'
      have em : m = m' := by rw [e1] at e1'; exact Option.some.inj e1'
      subst em
      refine ⟨Nat.le_trans (show 2 ≤ 100000 by decide) sizeLine_big, fun t ht => ?_⟩
      have x : Ext H Fz [] (upd H t (.tup [.ty n, .ty n'])) Fz [] := (new_ext ht).shrink (by simp)
      refine ⟨v, t, [.ty n, .ty n'], .type m, [.type n, .type n'], b || b', rfl, upd_same, .cons (.ty n) (.cons (.ty n') .nil), ?_, ?_, ?_⟩
      · refine rep_ty e1 (Rep.keep _ v f ⟨fun a u _ h => ?_, fun a u _ h => ?_, fun a u _ h => ?_, fun _ z => z⟩ hr)
        all_goals exact x.keep a u h (by simp)
      · refine kitAny_cons (kit_ty e2) (fun hb => ?_) (fun hb => by rw [hb]; rfl)
        rw [hb, Bool.false_or]
        exact kitAny_cons (kit_ty e2') (fun hb => by rw [hb]; exact kitAny_nil) id
      · exact k _ _ [] x List.nodup_nil (rep_bl _)
    · cases e
  · cases e
theorem e_isi2 {n n' : String} {q q' : D → Option Bool} {y z : Str} {p2 p3 p4 : Pos} {kk : Nat} (hK : X.K = g.K) (hq : IsiOk n q) (hq' : IsiOk n' q') (hg : Gl X x) (hm : X.mg x = none) (hv : bootBuiltins x = some (.builtin "isinstance")) (hg2 : Gl X y) (hm2 : X.mg y = none) (hv2 : bootBuiltins y = some (.type n))
    (hg3 : Gl X z) (hm3 : X.mg z = none) (hv3 : bootBuiltins z = some (.type n')) (ha : PE X a ta) (ht : OpdT g os [ta]) (hn : x ≠ "__name__" := by decide) (hdb : (x == ("__debug__" : Str)) = false := by decide) (hn2 : y ≠ "__name__" := by decide) (hdb2 : (y == ("__debug__" : Str)) = false := by decide)
    (hn3 : z ≠ "__name__" := by decide) (hdb3 : (z == ("__debug__" : Str)) = false := by decide)
    (he1 : starEach [a, .Tuple [.Name y p2, .Name z p3] kk p4] X.env = (false, eval a X.env) :: starEach [.Tuple [.Name y p2, .Name z p3] kk p4] X.env := by rfl) (he2 : starEach [.Tuple [.Name y p2, .Name z p3] kk p4] X.env = (false, eval (.Tuple [.Name y p2, .Name z p3] kk p4) X.env) :: starEach [] X.env := by rfl)
    (he3 : starEach [.Name y p2, .Name z p3] X.env = (false, eval (.Name y p2) X.env) :: starEach [.Name z p3] X.env := by rfl) (he4 : starEach [.Name z p3] X.env = (false, eval (.Name z p3) X.env) :: starEach [] X.env := by rfl)
    (hpl : (backTo pos (starEach [.Tuple [.Name y p2, .Name z p3] kk p4] X.env)).any (·.1) = false := by rfl) : PE X (.Call (.Name x p) [a, .Tuple [.Name y p2, .Name z p3] kk p4] [] pos) (tE g (dOp (oIsi2 q q') os)) :=
  e_op (r := rIs2 X.K n n') (pe_callB call_isiT hg hm hv (pa_cons ha (pa_cons (pe_tup (pa_cons (pe_bltn hg2 hm2 hv2 (show RelV (.ty n) (.type n) from rfl) hn2 hdb2) (pa_cons (pe_bltn hg3 hm3 hv3 (show RelV (.ty n') (.type n') from rfl) hn3 hdb3) pa_nil he4) he3)) pa_nil he2) he1) hn hdb he1 hpl) ht (fun σ H Q q => q) (hK ▸ ok_isi2 hq hq')
/-! ### sorted -/
def intsOf : List D → Option (List Int)
  | [] => some []
  | .int b :: ds => match intsOf ds with
    | some bs => some (b :: bs)
    | none => none
  | _ :: _ => none
theorem intsOf_eq : ∀ {ds : List D} {bs : List Int}, intsOf ds = some bs → ds = bs.map D.int
  | [], bs, h => by unfold intsOf at h; cases h; rfl
  | d :: ds, bs, h => by
    cases d with
    | int b =>
      unfold intsOf at h
      cases e : intsOf ds with
      | none => rw [e] at h; cases h
      | some bs' => rw [e] at h; cases h; rw [intsOf_eq e]; rfl
    | _ => unfold intsOf at h; cases h
theorem intsOf_map : ∀ bs : List Int, intsOf (bs.map D.int) = some bs
  | [] => rfl
  | b :: bs => by show intsOf (D.int b :: bs.map D.int) = _; unfold intsOf; rw [intsOf_map bs]
theorem reps_ints : ∀ {bs : List Int} {vs : List V} {f : List Addr}, Reps g H Fz (bs.map D.int) vs f → vs = bs.map V.int
  | [], vs, f, h => by unfold Reps at h; exact h.1
  | b :: bs, vs, f, h => by
    have h : Reps g H Fz (D.int b :: bs.map D.int) vs f := h
    unfold Reps at h
    obtain ⟨v, vs', f1, f2, rfl, _, h1, h2⟩ := h
    rw [rep_int' h1, reps_ints h2]; rfl
theorem ints_reps : ∀ {bs : List Int}, Reps g H Fz (bs.map D.int) (bs.map V.int) []
  | [] => by show Reps g H Fz [] [] []; unfold Reps; exact ⟨rfl, rfl⟩
  | b :: bs => by show Reps g H Fz (D.int b :: bs.map D.int) (V.int b :: bs.map V.int) []; unfold Reps; exact ⟨_, _, [], [], rfl, rfl, rep_int b, ints_reps⟩
def sortI (ns : List Int) : List Int := ns.mergeSort (fun a b => decide (a ≤ b))
theorem sortI_of {ns ms : List Int} (h1 : ms.Perm ns) (h2 : ms.Pairwise (· ≤ ·)) : ms = sortI ns := by
  have p : ms.Perm (sortI ns) := h1.trans (List.mergeSort_perm ns _).symm
  have s : (sortI ns).Pairwise (· ≤ ·) := by
    have := List.pairwise_mergeSort (le := fun (a b : Int) => decide (a ≤ b)) (by intro a b c; simp; omega) (by intro a b; simp; omega) ns
    exact this.imp fun h => by simpa using h
  exact p.eq_of_pairwise (fun a b _ _ h1 h2 => Int.le_antisymm h1 h2) h2 s
def oSortI : List D → Option D := fun ds => match ds with
  | [.lst _ xs] => match intsOf xs with
    | some ns => some (.lst true ((sortI ns).map .int))
    | none => none
  | _ => none
theorem b_sortI (hK : X.K = g.K) : CbOk g X (.builtin "sorted") oSortI := ⟨_, cr_sortedI, fun ds d e vs H Fz fp Q vw k => by
  unfold oSortI at e
  split at e
  · split at e
    · rename_i ns en
      cases e
      obtain ⟨v, f, rfl, hr, _⟩ := vw1 vw
      obtain ⟨a, us, f', rfl, ha, hq, _⟩ := rep_lstA hr
      rw [intsOf_eq en] at hq
      rw [reps_ints hq] at ha
      refine ⟨a, ns, rfl, .inl (.inl ha), fun ms q h1 h2 hq' => ?_⟩
      rw [sortI_of h1 h2]
      exact k_lst hq' ints_reps k
    · cases e
  · cases e⟩
end
end Rm
set_option Elab.async false
set_option linter.all false
set_option maxRecDepth 100000
set_option maxHeartbeats 4000000
/-! Rm, Js: sorted of data, products. -/
namespace Rm
open PySem L2

section
variable {g : G} {H H1 H2 H' : Hp} {Fz Fz1 Fz2 Fz' : Addr → Prop} {fp fp1 fp2 fp' : List Addr} {ρ ρ' : Env} {σ σ1 σ' : L2.St}
variable {X : Cx} {x : Str} {p pos : Pos} {a b c : Expr} {e : Expr} {es : List Expr} {os : List Opd} {ts : List TE} {ta tb tc : TE}
def tupNE : PyData → Bool
  | .tuple (_ :: _) => true
  | _ => false
def srtB (ps : List PyData) : Bool := ps.all tupNE && ps.all (fun p => ps.all fun q => PySem.W.alike p q) && ps.all fun p => decide (p.depth ≤ 8)
def rSortD (K : PySem.W.Frag) : List V → Hp → VK → Prop := fun vs H Q => ∃ a us ps, vs = [V.ref a] ∧ SqL K H a us ∧ DpAll K H us ps ∧ srtB ps = true ∧
  ∀ q, H q = none → Q (.ref q) (upd H q (.lst (((us.zip ps).mergeSort (PySem.W.dataLe false Prod.snd)).map Prod.fst)))
theorem dpall_len {K : PySem.W.Frag} : ∀ {us : List V} {ps : List PyData}, DpAll K H us ps → us.length = ps.length
  | _, _, .nil => rfl
  | _, _, .cons _ h => by rw [List.length_cons, List.length_cons, dpall_len h]
theorem each_zip {R : Value → V × PyData → Prop} {pins : List (Addr × Obj)} {s : Shared} (I : Inv X pins σ H s) (hR : ∀ u v p, RelV v u → Dp X.K H v p → R u (v, p)) : ∀ {us : List V} {ps : List PyData} {its : List Value}, DpAll X.K H us ps → Vals us its → PySem.W.EachIs R its (us.zip ps)
  | _, _, _, .nil, .nil => .nil
  | _, _, _, .cons h t, .cons r q => .cons (hR _ _ _ r h) (each_zip I hR t q)
theorem zip_snd_eq : ∀ {α β : Type} {us : List α} {ps : List β}, us.length = ps.length → (us.zip ps).map Prod.snd = ps
  | _, _, [], [], _ => rfl
  | _, _, [], _ :: _, h => by cases h
  | _, _, _ :: _, [], h => by cases h
  | _, _, u :: us, p :: ps, h => by rw [List.zip_cons_cons, List.map_cons, zip_snd_eq (Nat.succ.inj h)]
theorem zip_fst_eq : ∀ {α β : Type} {us : List α} {ps : List β}, us.length = ps.length → (us.zip ps).map Prod.fst = us
  | _, _, [], [], _ => rfl
  | _, _, [], _ :: _, h => by cases h
  | _, _, _ :: _, [], h => by cases h
  | _, _, u :: us, p :: ps, h => by rw [List.zip_cons_cons, List.map_cons, zip_fst_eq (Nat.succ.inj h)]
theorem vals_of_each {out : List Value} {bs : List (V × PyData)} (h : PySem.W.EachIs (fun u (b : V × PyData) => RelV b.1 u) out bs) : Vals (bs.map Prod.fst) out := by
  induction h with
  | nil => exact .nil
  | cons r _ ih => exact .cons r ih
theorem cr_sortD (hu : X.A.units + 64 < cLine) : CallR X (.builtin "sorted") (rSortD X.K) := by
  intro pins s σ H vs us Q I r h
  obtain ⟨a, ws, ps, rfl, hs, hd, hb, q⟩ := h
  obtain ⟨its, rv, hl, hz⟩ := I.list hs
  rw [Vals.ref1 r]
  unfold srtB at hb
  simp only [Bool.and_eq_true] at hb
  obtain ⟨⟨b1, b2⟩, b3⟩ := hb
  have eps : (ws.zip ps).map Prod.snd = ps := zip_snd_eq (dpall_len hd)
  refine PySem.W.sorted_data (β := V × PyData) (enc := Prod.snd) (R := fun u b => RelV b.1 u) hl.isList (each_zip I (fun _ _ _ r _ => r) hd rv) (each_zip I (fun _ _ _ r h => Dp.reads I _ _ _ h r) hd rv) ?_ ?_ ?_ ?_ fun out ho eo => ?_
  · rw [eps]
    intro d hd' d' hd2
    exact List.all_eq_true.mp (List.all_eq_true.mp b2 d hd') d' hd2
  · rw [eps]
    left
    intro d hd'
    have := List.all_eq_true.mp b1 d hd'
    unfold tupNE at this
    split at this
    · exact ⟨_, _, rfl⟩
    · cases this
  · rw [List.length_zip, ← dpall_len hd, Nat.min_self]; exact hz
  · intro bb hbb
    have hm : bb.2 ∈ ps := by rw [← eps]; exact List.mem_map.mpr ⟨bb, hbb, rfl⟩
    have := of_decide_eq_true (List.all_eq_true.mp b3 _ hm)
    omega
  · obtain ⟨ep, he'⟩ := PyProof.Rows.sortedAll_at s.heap its out.toArray
    have hv := vals_of_each eo
    refine ⟨.ref _, upd H (s.heap.objs.size + 1) (.lst _), I.laid (t' := s.toks) (fun _ _ => PyProof.Rows.sortedAll_old) (Nat.le_succ _) ⟨?_, out, ep, hv, he'⟩, rfl, q _ (I.hok.fresh (Nat.le_succ _))⟩
    rw [hv.length, ho, List.length_zip, ← dpall_len hd, Nat.min_self]
    exact hz
def encD (d : D) : PyData := (toP d).getD .none
def leD (a b : D) : Bool := PySem.W.dataLe false encD a b
def sortD (xs : List D) : List D := xs.mergeSort leD
def oSortD : List D → Option D := fun ds => match ds with
  | [.lst _ xs] => match toPs xs with
    | some ps => if noOwns xs = true ∧ srtB ps = true then some (.lst true (sortD xs)) else none
    | none => none
  | _ => none
theorem toPs_map : ∀ {xs : List D} {ps : List PyData}, toPs xs = some ps → ps = xs.map encD
  | [], ps, h => by unfold toPs at h; cases h; rfl
  | x :: xs, ps, h => by
    unfold toPs at h
    split at h
    · rename_i p ep
      split at h
      · rename_i ps' ep'
        cases h
        rw [List.map_cons, ← toPs_map ep']
        unfold encD
        rw [ep]; rfl
      · cases h
    · cases h
theorem pairs_reps : ∀ {zs : List (D × V)}, (∀ z ∈ zs, Rep g H Fz z.1 z.2 []) → Reps g H Fz (zs.map Prod.fst) (zs.map Prod.snd) []
  | [], _ => by show Reps g H Fz [] [] []; unfold Reps; exact ⟨rfl, rfl⟩
  | z :: zs, h => by
    show Reps g H Fz (z.1 :: zs.map Prod.fst) (z.2 :: zs.map Prod.snd) []
    unfold Reps
    exact ⟨_, _, [], [], rfl, rfl, h z List.mem_cons_self, pairs_reps fun y hy => h y (List.mem_cons_of_mem _ hy)⟩
theorem reps_pairs : ∀ {xs : List D} {vs : List V}, Reps g H Fz xs vs [] → ∀ z ∈ xs.zip vs, Rep g H Fz z.1 z.2 []
  | [], vs, _, z, hz => by simp at hz
  | x :: xs, vs, h, z, hz => by
    unfold Reps at h
    obtain ⟨v, vs', f1, f2, rfl, e2, h1, h2⟩ := h
    obtain ⟨rfl, rfl⟩ := List.append_eq_nil_iff.mp e2.symm
    rw [List.zip_cons_cons] at hz
    rcases List.mem_cons.mp hz with e | hz
    · rw [e]; exact h1
    · exact reps_pairs h2 z hz
theorem sort_map {α β : Type} (f : α → β) (le : α → α → Bool) (le' : β → β → Bool) (h : ∀ a b, le a b = le' (f a) (f b)) (l : List α) : (l.mergeSort le).map f = (l.map f).mergeSort le' := List.map_mergeSort fun a _ b _ => h a b
theorem b_sortD (hK : X.K = g.K) (hu : X.A.units + 64 < cLine) : CbOk g X (.builtin "sorted") oSortD := ⟨_, cr_sortD hu, fun ds d e vs H Fz fp Q vw k => by
  unfold oSortD at e
  split at e
  · rename_i o xs
    split at e
    · rename_i ps ep
      split at e
      · rename_i hc
        cases e
        obtain ⟨v, f, rfl, hr, _⟩ := vw1 vw
        obtain ⟨a, us, rfl, ha, hq⟩ := rep_lst' hc.1 hr
        refine ⟨a, us, ps, rfl, .inl (.inl ha), hK ▸ toPs_ok xs (fun x _ p v f => toP_ok x p v f) ep hq, hc.2, fun q hq' => ?_⟩
        have hps := toPs_map ep
        have hl := reps_len hq
        have key : ((us.zip ps).mergeSort (PySem.W.dataLe false Prod.snd)).map Prod.fst = ((xs.zip us).mergeSort (fun z z' => leD z.1 z'.1)).map Prod.snd := by
          have e1 : us.zip ps = (xs.zip us).map fun z => (z.2, encD z.1) := by
            rw [hps]
            clear ep hps hc hr hq ha hq' k vw
            induction xs generalizing us with
            | nil => cases us with
              | nil => rfl
              | cons _ _ => cases hl
            | cons x xs ih => cases us with
              | nil => cases hl
              | cons u us => rw [List.map_cons, List.zip_cons_cons, List.zip_cons_cons, List.map_cons, ih us (Nat.succ.inj hl)]
          rw [e1, ← sort_map (fun z : D × V => (z.2, encD z.1)) (fun z z' => leD z.1 z'.1) _ (fun _ _ => rfl), List.map_map]
          rfl
        rw [key]
        have e2 : sortD xs = ((xs.zip us).mergeSort (fun z z' => leD z.1 z'.1)).map Prod.fst := by
          rw [sort_map Prod.fst (fun z z' => leD z.1 z'.1) leD (fun _ _ => rfl), zip_fst_eq hl]; rfl
        rw [e2] at k
        refine k_lst hq' (pairs_reps fun z hz => reps_pairs hq z ((List.mergeSort_perm _ _).mem_iff.mp hz)) k
      · cases e
    · cases e
  · cases e⟩
/-! ### products -/
theorem tuple_mul1 (l : Addr) (items : Array Value) (n : Nat) (x : Int) (u : Tok) (c0 : (decide (x < -(2 ^ 63)) || decide (x ≥ 2 ^ 63)) = false) (c1 : (items.isEmpty || x == 1) = true) :
    Meets (Builtin.«tuple.__mul__» ⟨[.ref l, .int x u], []⟩) (fun _ R s => (∃ dd sl, s.heap.get? l = some { cls := .type "tuple", dict := dd, data := .seq items n, slots := sl }) ∧ R (.ok (.ret (Value.ref l))) s) :=
  .of_wp fun prog w A R s h => by
    obtain ⟨hp, g, d, tk, os⟩ := s
    obtain ⟨⟨dd, sl, hl⟩, h⟩ := h
    have f1 := AutoSeq1.idx_int
    wp_walk using wpAny_loadPart' hl
    repeat (first
      | (refine wpAny_ite_false (decide_eq_false (by rw [c0]; exact Bool.false_ne_true)) ?_; wp_walk using wpAny_loadPart' hl)
      | (refine wpAny_ite_true (decide_eq_true (by rw [c1])) ?_; wp_walk using wpAny_loadPart' hl))
    exact ⟨_, rfl, h⟩
def rRepT1 (K : PySem.W.Frag) : R2 := fun x y H Q => ∃ l xs, x = .ref l ∧ y = .int 1 ∧ SqT K H l xs ∧ Q (.ref l) H
theorem op_repT1 : OpR X (binaryOp .Mult) (rRepT1 X.K) := by
  intro pins s σ H x y v u Q I rx ry h
  obtain ⟨l, xs, rfl, rfl, hT, q⟩ := h
  cases rx
  obtain ⟨t, rfl⟩ := ry
  obtain ⟨its, r, ⟨⟨cls, dd, data, sl⟩, ho, hc, n, hd⟩, hs⟩ := I.tuple hT
  simp only at hc hd
  subst hc hd
  refine wpAny_binaryOp_repeat_ref (T := "tuple") (U := "int") (by decide) ⟨_, ho, rfl⟩ (fun s' => typeIs_int s' 1 t) noFill_tuple_mul F.fills_int_mul F.slot_int_rmul repeat_tuple F.slot_int_index.lookup
    (call_meets F.slot_int_rmul (typeIs_int s 1 t) F.entry_int_rmul (F.args_int_rmul_2 _ _) (int_rmul_tuple 1 t l its.toArray n dd sl)
      ⟨ho, rfl, ⟨_, ho, rfl⟩, call_meets F.slot_tuple_mul ⟨_, ho, rfl⟩ F.entry_tuple_mul (F.args_tuple_mul_2 _ _) (tuple_mul1 l its.toArray n 1 t (by decide) (by simp)) ⟨⟨_, _, ho⟩, ?_⟩⟩)
  exact ⟨.ref l, H, I, rfl, q⟩
def oRepT : List D → Option D := fun ds => match ds with
  | [.tup xs, .int k] => if noOwns xs = true ∧ 1 ≤ k ∧ k ≤ 1000 ∧ xs ≠ [] ∧ xs.length ≤ 1000 then some (.tup (List.replicate k.toNat xs).flatten) else none
  | _ => none
theorem ok_repT : OpOk g oRepT (r2 (orR (rRepT g.K) (rRepT1 g.K))) := fun ds d e vs H Fz fp Q vw k => by
  unfold oRepT at e
  split at e
  · split at e
    · rename_i xs n hc
      obtain ⟨hn, h1, h2, h3, h4⟩ := hc
      cases e
      obtain ⟨v, w, f, f2, ev, hr, hr2, _, _⟩ := vw2 vw
      obtain ⟨a, us, rfl, ha, hq⟩ := rep_tup' hn hr
      rw [rep_int' hr2] at ev
      subst ev
      by_cases e1 : n = 1
      · subst e1
        refine .inr ⟨a, us, rfl, rfl, ha, ?_⟩
        have e2 : (List.replicate (Int.toNat 1) xs).flatten = xs := by simp
        rw [e2] at k
        refine k_none ?_ k
        unfold Rep
        exact ⟨a, us, rfl, ha, hq⟩
      · refine .inl ⟨a, n, us, rfl, rfl, ha, fun e0 => ?_, by omega, h2, by rw [← reps_len hq]; exact h4, fun q hq' => k_tup hq' (reps_rep hq n.toNat) k⟩
        subst e0
        exact h3 (reps_nil_d hq)
    · cases e
  · cases e
def oMul : List D → Option D := orF (oII hMul) (orF oRepL oRepT)
theorem e_mul (hK : X.K = g.K) (ha : PE X a ta) (hb : PE X b tb) (ht : OpdT g os [ta, tb]) : PE X (.BinOp a .Mult b pos) (tE g (dOp oMul os)) :=
  e_bin (opR_or op_mul (opR_or op_rep (opR_or op_repT op_repT1))) ha hb ht (ok_or2 ok_mul (ok_or2 ok_repL (hK ▸ ok_repT)))
end
end Rm
set_option Elab.async false
set_option linter.all false
set_option maxRecDepth 100000
set_option maxHeartbeats 4000000
/-! Rm, K: displays; places within what a slot holds, and stores there. -/
namespace Rm
open PySem L2

section
variable {g : G} {W : Nat → Bool} {H H1 H2 H' : Hp} {Fz Fz1 Fz2 Fz' : Addr → Prop} {fp fp1 fp2 fp' : List Addr} {ρ ρ' : Env} {σ σ1 σ' : L2.St}
variable {X : Cx} {x : Str} {p pos : Pos} {a b c : Expr} {e : Expr} {es : List Expr} {os : List Opd} {ts : List TE} {ta tb tc : TE}
/-! ### displays -/
theorem evOps_len : ∀ {os : List Opd} {ρ : Env} {ds : List D} {ρ' : Env}, evOps os ρ = some (ds, ρ') → ds.length = os.length
  | [], ρ, ds, ρ', h => by unfold evOps at h; cases h; rfl
  | .e m :: os, ρ, ds, ρ', h => by
    unfold evOps at h
    split at h
    · cases h
    · split at h
      · cases h
      · rename_i e2
        cases h
        rw [List.length_cons, List.length_cons, evOps_len e2]
  | .v i :: os, ρ, ds, ρ', h => by
    unfold evOps at h
    split at h
    · split at h
      · cases h
      · rename_i e2
        split at h
        · cases h
          rw [List.length_cons, List.length_cons, evOps_len e2]
        · cases h
    · cases h
theorem vw_len : ∀ {ds : List D} {vs : List V}, Vw g H Fz fp ds vs → ds.length = vs.length
  | [], vs, h => by have h : vs = [] := h; rw [h]; rfl
  | d :: ds, vs, h => by
    obtain ⟨v, vs', f, e, _, _, h⟩ := h
    rw [e, List.length_cons, List.length_cons, vw_len h]
theorem tmps_e : ∀ {ms : List M} {ds : List D}, ds.length = ms.length → tmps (ms.map Opd.e) ds = ds.map some
  | [], [], _ => rfl
  | [], _ :: _, h => by cases h
  | _ :: _, [], h => by cases h
  | m :: ms, d :: ds, h => by
    show some d :: tmps (ms.map Opd.e) ds = some d :: ds.map some
    rw [tmps_e (Nat.succ.inj h)]
theorem tmpv_e : ∀ {ms : List M} {ds : List V}, ds.length = ms.length → tmpv (ms.map Opd.e) ds = ds.map some
  | [], [], _ => rfl
  | [], _ :: _, h => by cases h
  | _ :: _, [], h => by cases h
  | m :: ms, d :: ds, h => by
    show some d :: tmpv (ms.map Opd.e) ds = some d :: ds.map some
    rw [tmpv_e (Nat.succ.inj h)]
theorem opd_e : ∀ {ms : List M}, OpdT g (ms.map Opd.e) (ms.map (tE g))
  | [] => rfl
  | m :: ms => ⟨_, _, rfl, fun _ _ _ z => z, opd_e⟩
/-- all read one behind the other, as things of their own -/
theorem ops_e {ms : List M} {ds : List D} {K : List V → Hp → Prop} (hs : SRel g Fz ρ σ H fp) (e : evOps (ms.map Opd.e) ρ = some (ds, ρ'))
    (k : ∀ vs H' Fz' fp', Ext H Fz fp H' Fz' fp' → SRel g Fz' (ds.map some ++ ρ') (vs.map some ++ σ) H' fp' → ds.length = vs.length → K vs H') : tOpsA (ms.map (tE g)) σ H K := by
  refine ops_ok _ _ opd_e hs e fun vs H' Fz' fp' x r hl vw => ?_
  have l1 : ds.length = ms.length := by rw [evOps_len e, List.length_map]
  have l2 := vw_len vw
  rw [tmps_e l1, tmpv_e (by rw [← l2, l1])] at r
  exact k vs H' Fz' fp' x r l2
/-- the things ahead, split off -/
theorem SRel.heads {ds : List D} {vs : List V} (h : SRel g Fz (ds.map some ++ ρ) (vs.map some ++ σ) H fp) (hl : ds.length = vs.length) : ∃ f1 f2, fp = f1 ++ f2 ∧ Reps g H Fz ds vs f1 ∧ SRel g Fz ρ σ H f2 := by
  obtain ⟨f1, fp1, e, r1, r2, _⟩ := SRel.frame (zs := []) (ws := []) h (by rw [List.length_map, List.length_map, hl])
  exact ⟨f1, fp1, e, somes_seq r1.reps, r2⟩
theorem SRel.close_tup {xs : List D} {vs : List V} {q : Addr} (h : SRel g Fz (xs.map some ++ ρ) (vs.map some ++ σ) H fp) (hl : xs.length = vs.length) (hq : H q = none) :
    SRel g Fz (some (.tup xs) :: ρ) (some (.ref q) :: σ) (upd H q (.tup vs)) fp ∧ Ext H Fz fp (upd H q (.tup vs)) Fz fp := by
  have x0 : Ext H Fz [] (upd H q (.tup vs)) Fz [] := (new_ext hq).shrink (by simp)
  obtain ⟨h', x⟩ := h.ext0 x0
  obtain ⟨f1, f2, e, hr, r2⟩ := h'.heads hl
  refine ⟨⟨?_, h'.nd, h'.dj, h'.th⟩, x⟩
  rw [e]
  refine Seq3.cons ⟨.ref q, rfl, ?_⟩ r2.reps
  unfold Rep
  exact ⟨q, vs, rfl, .inl (.inl upd_same), hr⟩
theorem SRel.close_lst {xs : List D} {vs : List V} {q : Addr} (h : SRel g Fz (xs.map some ++ ρ) (vs.map some ++ σ) H fp) (hl : xs.length = vs.length) (hq : H q = none) :
    SRel g Fz (some (.lst true xs) :: ρ) (some (.ref q) :: σ) (upd H q (.lst vs)) (q :: fp) ∧ Ext H Fz fp (upd H q (.lst vs)) Fz (q :: fp) := by
  have x0 : Ext H Fz [] (upd H q (.lst vs)) Fz [] := (new_ext hq).shrink (by simp)
  obtain ⟨h', x⟩ := h.ext0 x0
  obtain ⟨f1, f2, e, hr, r2⟩ := h'.heads hl
  have nq : q ∉ fp := fun z => h.tracked q z hq
  refine ⟨⟨?_, List.nodup_cons.mpr ⟨nq, h'.nd⟩, fun a ha => ?_, h'.th⟩, ⟨x.keep, x.there, x.mrk, fun b hb => ?_, x.fzn⟩⟩
  · rw [e]
    refine Seq3.cons (f1 := q :: f1) ⟨.ref q, rfl, ?_⟩ r2.reps
    unfold Rep
    exact ⟨q, vs, f1, rfl, .inl ⟨rfl, upd_same, rfl⟩, hr⟩
  · rcases List.mem_cons.mp ha with z | z
    · subst z; exact fun z => h.th _ z hq
    · exact h'.dj a z
  · rcases List.mem_cons.mp hb with z | z
    · subst z; exact .inr hq
    · exact .inl z
def dTup (ms : List M) : M := fun ρ => match evOps (ms.map Opd.e) ρ with
  | some (ds, ρ') => some (.tup ds, ρ')
  | none => none
def dLst (ms : List M) : M := fun ρ => match evOps (ms.map Opd.e) ρ with
  | some (ds, ρ') => some (.lst true ds, ρ')
  | none => none
theorem e_tup {k : Nat} {ms : List M} (hn : ms.length ≤ 1000) (ha : PA X es (tOpsA (ms.map (tE g)))) : PE X (.Tuple es k pos) (tE g (dTup ms)) :=
  pe_imp (pe_tup ha) fun σ H Q ⟨Fz, ρ, fp, d, ρ', hs, e, k⟩ => by
    unfold dTup at e
    split at e
    · rename_i ds ρ1 e1
      cases e
      refine ops_e hs e1 fun vs H' Fz' fp' x r hl => ⟨?_, fun q hq => ?_⟩
      · have := evOps_len e1
        rw [List.length_map] at this
        have := sizeLine_big
        omega
      · obtain ⟨r2, x2⟩ := r.close_tup hl hq
        exact k _ _ Fz' fp' (x.trans x2) r2
    · cases e
theorem e_lst {ms : List M} (hn : ms.length ≤ 1000) (ha : PA X es (tOpsA (ms.map (tE g)))) : PE X (.List es pos) (tE g (dLst ms)) :=
  pe_imp (pe_lst ha) fun σ H Q ⟨Fz, ρ, fp, d, ρ', hs, e, k⟩ => by
    unfold dLst at e
    split at e
    · rename_i ds ρ1 e1
      cases e
      refine ops_e hs e1 fun vs H' Fz' fp' x r hl => ⟨?_, fun q hq => ?_⟩
      · have := evOps_len e1
        rw [List.length_map] at this
        have := sizeLine_big
        omega
      · obtain ⟨r2, x2⟩ := r.close_lst hl hq
        exact k _ _ Fz' _ (x.trans x2) r2
    · cases e
/-- shared from now on -/
def dFz (m : M) : M := fun ρ => match m ρ with
  | some (d, ρ') => some (frz d, ρ')
  | none => none
theorem e_fz {m : M} (h : PE X e (tE g m)) : PE X e (tE g (dFz m)) := pe_imp h fun σ H Q ⟨Fz, ρ, fp, d, ρ', hs, e, k⟩ => by
  unfold dFz at e
  split at e
  · rename_i d1 ρ1 e1
    cases e
    refine ⟨Fz, ρ, fp, d1, _, hs, e1, fun v H' Fz' fp' x r => ?_⟩
    obtain ⟨Fz2, fp2, x2, r2⟩ := r.frzTop
    exact k v H' Fz2 fp2 (x.trans x2) r2
  · cases e

/-! ### places -/
inductive Stp where
  | ix (i : Int) | key (k : Key) | tky (k : List Key) | fld (n : Nat)
def kids : D → List D
  | .lst _ xs => xs
  | .tup xs => xs
  | .dct _ _ xs => xs
  | .ins _ _ _ xs => xs
  | _ => []
def withKids : D → List D → D
  | .lst o _, ys => .lst o ys
  | .tup _, ys => .tup ys
  | .dct o ks _, ys => .dct o ks ys
  | .ins o c fs _, ys => .ins o c fs ys
  | d, _ => d
def idxD {α : Type} [DecidableEq α] (k : α) : List α → Option Nat
  | [] => none
  | a :: l => if a = k then some 0 else match idxD k l with
    | some j => some (j + 1)
    | none => none
def posS : D → Stp → Option Nat
  | .lst _ xs, .ix i => ixN xs.length i
  | .tup xs, .ix i => ixN xs.length i
  | .dct _ (.k kk) _, .key k => idxD k kk
  | .dct _ (.t kk) _, .tky k => idxD k kk
  | .ins _ _ fs _, .fld n => idxD n fs
  | _, _ => none
def getS (d : D) (s : Stp) : Option D := match posS d s with
  | some j => (kids d)[j]?
  | none => none
def getP : D → List Stp → Option D
  | d, [] => some d
  | d, s :: p => match getS d s with
    | some x => getP x p
    | none => none
def putP : D → List Stp → D → D
  | _, [], y => y
  | d, s :: p, y => match posS d s with
    | some j => match (kids d)[j]? with
      | some x => withKids d ((kids d).set j (putP x p y))
      | none => d
    | none => d
def getR (ρ : Env) (i : Nat) (p : List Stp) : Option D := match ρ[i]? with
  | some (some d) => getP d p
  | _ => none
def putR (ρ : Env) (i : Nat) (p : List Stp) (y : D) : Env := match ρ[i]? with
  | some (some d) => ρ.set i (some (putP d p y))
  | _ => ρ
theorem getP_snoc : ∀ {p : List Stp} {d c : D} {s : Stp}, getP d p = some c → getP d (p ++ [s]) = getS c s
  | [], d, c, s, h => by
    unfold getP at h
    cases h
    show getP d [s] = _
    unfold getP
    cases getS d s with
    | none => rfl
    | some x => rfl
  | t :: p, d, c, s, h => by
    unfold getP at h
    show getP d (t :: (p ++ [s])) = _
    unfold getP
    split at h
    · exact getP_snoc h
    · cases h
theorem putP_snoc : ∀ {p : List Stp} {d c x y : D} {s : Stp} {j : Nat}, getP d p = some c → posS c s = some j → (kids c)[j]? = some x → putP d (p ++ [s]) y = putP d p (withKids c ((kids c).set j y))
  | [], d, c, x, y, s, j, h, e1, e2 => by
    unfold getP at h
    cases h
    show putP d [s] y = withKids d _
    unfold putP
    rw [e1]
    simp only
    rw [e2]
    rfl
  | t :: p, d, c, x, y, s, j, h, e1, e2 => by
    show putP d (t :: (p ++ [s])) y = putP d (t :: p) _
    unfold getP getS at h
    unfold putP
    cases ej : posS d t with
    | none => simp only [ej] at h; cases h
    | some j2 =>
      simp only [ej] at h
      cases ek : (kids d)[j2]? with
      | none => simp only [ek] at h; cases h
      | some x2 =>
        simp only [ek] at h
        simp only [ek, putP_snoc h e1 e2]
/-- how a node lies in the heap -/
def NodeAt (g : G) (H : Hp) : D → V → List V → Prop
  | .lst _ _, u, vs => ∃ a, u = .ref a ∧ H a = some (.lst vs)
  | .tup _, u, vs => ∃ a, u = .ref a ∧ SqT g.K H a vs
  | .dct _ ks _, u, vs => ks.len = vs.length ∧ ∃ a, u = .ref a ∧ ((∃ kk : List Key, ks = DK.k kk ∧ H a = some (.dK (kk.zip vs))) ∨ ∃ kt : List (List Key), ks = DK.t kt ∧ H a = some (.dT (kt.zip vs)))
  | .ins _ c fs _, u, vs => fs.length = vs.length ∧ ∃ a dx, u = .ref a ∧ H a = some (.ins (g.ca c) dx ((fs.map g.nm).zip vs))
  | _, _, _ => False
theorem withKids_len {c : D} {ys : List D} : True := trivial
theorem Keep.app {f1 f2 : List Addr} (k : Keep H Fz (f1 ++ f2) H' Fz') : Keep H Fz f1 H' Fz' ∧ Keep H Fz f2 H' Fz' := ⟨k.sub fun _ h => List.mem_append_left _ h, k.sub fun _ h => List.mem_append_right _ h⟩
theorem Rep.node {c : D} {u : V} {f : List Addr} (h : Rep g H Fz c u f) (hk : kids c ≠ []) : ∃ vs pre f', f = pre ++ f' ∧ Reps g H Fz (kids c) vs f' ∧ NodeAt g H c u vs ∧
    ∀ {H' : Hp} {Fz' : Addr → Prop} {ys : List D} {f'' : List Addr}, Keep H Fz pre H' Fz' → ys.length = (kids c).length → Reps g H' Fz' ys vs f'' → Rep g H' Fz' (withKids c ys) u (pre ++ f'') := by
  cases c with
  | lst o xs =>
    unfold Rep at h
    obtain ⟨a, vs, f', rfl, nd, hr⟩ := h
    rcases nd with ⟨ho, ha, ef⟩ | ⟨ho, h1, h2, ef⟩
    · refine ⟨vs, [a], f', ef, hr, ⟨a, rfl, ha⟩, fun {H' Fz' ys f''} k hl h' => ?_⟩
      show Rep g H' Fz' (.lst o ys) _ _
      unfold Rep
      exact ⟨a, vs, f'', rfl, .inl ⟨ho, k.own a _ List.mem_cons_self ha, rfl⟩, h'⟩
    · refine ⟨vs, [], f', ef, hr, ⟨a, rfl, h2⟩, fun {H' Fz' ys f''} k hl h' => ?_⟩
      show Rep g H' Fz' (.lst o ys) _ _
      unfold Rep
      exact ⟨a, vs, f'', rfl, .inr ⟨ho, k.mrk a h1, k.fz a _ h1 h2, rfl⟩, h'⟩
  | tup xs =>
    unfold Rep at h
    obtain ⟨a, vs, rfl, q, hr⟩ := h
    refine ⟨vs, [], f, rfl, hr, ⟨a, rfl, q⟩, fun {H' Fz' ys f''} k hl h' => ?_⟩
    show Rep g H' Fz' (.tup ys) _ _
    unfold Rep
    exact ⟨a, vs, rfl, k.sqt q, h'⟩
  | dct o ks xs =>
    unfold Rep at h
    obtain ⟨a, vs, f', rfl, hr, hl0, nd⟩ := h
    have hl1 := reps_len hr
    rcases nd with ⟨kk, ek, nd⟩ | ⟨kk, ek, nd⟩ <;> rcases nd with ⟨ho, ha, ef⟩ | ⟨ho, h1, h2, ef⟩
    · refine ⟨vs, [a], f', ef, hr, ⟨hl0.trans hl1, a, rfl, .inl ⟨kk, ek, ha⟩⟩, fun {H' Fz' ys f''} k hl h' => ?_⟩
      show Rep g H' Fz' (.dct o ks ys) _ _
      unfold Rep
      exact ⟨a, vs, f'', rfl, h', hl0.trans hl.symm, .inl ⟨kk, ek, .inl ⟨ho, k.own a _ List.mem_cons_self ha, rfl⟩⟩⟩
    · refine ⟨vs, [], f', ef, hr, ⟨hl0.trans hl1, a, rfl, .inl ⟨kk, ek, h2⟩⟩, fun {H' Fz' ys f''} k hl h' => ?_⟩
      show Rep g H' Fz' (.dct o ks ys) _ _
      unfold Rep
      exact ⟨a, vs, f'', rfl, h', hl0.trans hl.symm, .inl ⟨kk, ek, .inr ⟨ho, k.mrk a h1, k.fz a _ h1 h2, rfl⟩⟩⟩
    · refine ⟨vs, [a], f', ef, hr, ⟨hl0.trans hl1, a, rfl, .inr ⟨kk, ek, ha⟩⟩, fun {H' Fz' ys f''} k hl h' => ?_⟩
      show Rep g H' Fz' (.dct o ks ys) _ _
      unfold Rep
      exact ⟨a, vs, f'', rfl, h', hl0.trans hl.symm, .inr ⟨kk, ek, .inl ⟨ho, k.own a _ List.mem_cons_self ha, rfl⟩⟩⟩
    · refine ⟨vs, [], f', ef, hr, ⟨hl0.trans hl1, a, rfl, .inr ⟨kk, ek, h2⟩⟩, fun {H' Fz' ys f''} k hl h' => ?_⟩
      show Rep g H' Fz' (.dct o ks ys) _ _
      unfold Rep
      exact ⟨a, vs, f'', rfl, h', hl0.trans hl.symm, .inr ⟨kk, ek, .inr ⟨ho, k.mrk a h1, k.fz a _ h1 h2, rfl⟩⟩⟩
  | ins o c fs xs =>
    unfold Rep at h
    obtain ⟨a, dx, vs, f', rfl, hd, hr, hl0, nd⟩ := h
    have hl1 := reps_len hr
    rcases nd with ⟨ho, ha, ef⟩ | ⟨ho, h1, h2, ef⟩
    · refine ⟨vs, [a], f', ef, hr, ⟨hl0.trans hl1, a, dx, rfl, ha⟩, fun {H' Fz' ys f''} k hl h' => ?_⟩
      show Rep g H' Fz' (.ins o c fs ys) _ _
      unfold Rep
      exact ⟨a, dx, vs, f'', rfl, k.fix _ _ (fun z => z) hd, h', hl0.trans hl.symm, .inl ⟨ho, k.own a _ List.mem_cons_self ha, rfl⟩⟩
    · refine ⟨vs, [], f', ef, hr, ⟨hl0.trans hl1, a, dx, rfl, h2⟩, fun {H' Fz' ys f''} k hl h' => ?_⟩
      show Rep g H' Fz' (.ins o c fs ys) _ _
      unfold Rep
      exact ⟨a, dx, vs, f'', rfl, k.fix _ _ (fun z => z) hd, h', hl0.trans hl.symm, .inr ⟨ho, k.mrk a h1, k.fz a _ h1 h2, rfl⟩⟩
  | _ => exact absurd rfl hk
/-- the place p of slot i: what stands there, its own part of the addresses, and how it is replaced -/
structure Foc (g : G) (Fz : Addr → Prop) (ρ : Env) (σ : L2.St) (H : Hp) (fp : List Addr) (i : Nat) (p : List Stp) (c : D) (u : V) (f1 f2 f3 : List Addr) : Prop where
  sp : fp = f1 ++ (f2 ++ f3)
  rep : Rep g H Fz c u f2
  get : getR ρ i p = some c
  put : ∀ {H' : Hp} {Fz' : Addr → Prop} {c' : D} {f2' : List Addr}, Keep H Fz (f1 ++ f3) H' Fz' → Rep g H' Fz' c' u f2' → Seq3 (RepO g H' Fz') (putR ρ i p c') σ (f1 ++ (f2' ++ f3))
theorem Foc.base {i : Nat} {d : D} (r : SRel g Fz ρ σ H fp) (e : ρ[i]? = some (some d)) : ∃ u f1 f2 f3, σ[i]? = some (some u) ∧ Foc g Fz ρ σ H fp i [] d u f1 f2 f3 := by
  obtain ⟨o, f1, f2, f3, e1, ef, ⟨v, ev, hr⟩, k⟩ := r.reps.at e
  subst ev
  refine ⟨v, f1, f2, f3, e1, ⟨ef, hr, ?_, fun {H' Fz' c' f2'} kp h => ?_⟩⟩
  · unfold getR
    rw [e]; rfl
  · have es : σ.set i (some v) = σ := by
      apply List.ext_getElem?
      intro j
      by_cases hj : i = j
      · subst hj
        rw [List.getElem?_set_self (List.getElem?_eq_some_iff.mp e1).1, e1]
      · rw [List.getElem?_set_ne hj]
    have q := k (R' := RepO g H' Fz') (a' := some c') (b' := some v) (f2' := f2') (fun _ _ _ _ h hs => RepO.keep (kp.sub hs) h) ⟨v, rfl, h⟩
    rw [es] at q
    unfold putR
    rw [e]
    exact q
theorem Foc.step {i : Nat} {p : List Stp} {c x : D} {u : V} {f1 f2 f3 : List Addr} {s : Stp} (fc : Foc g Fz ρ σ H fp i p c u f1 f2 f3) (e : getS c s = some x) :
    ∃ vs j y g1 g2 g3, posS c s = some j ∧ (kids c)[j]? = some x ∧ vs[j]? = some y ∧ NodeAt g H c u vs ∧ (kids c).length = vs.length ∧ Foc g Fz ρ σ H fp i (p ++ [s]) x y (f1 ++ g1) g2 (g3 ++ f3) := by
  unfold getS at e
  split at e
  · rename_i j ej
    have hk : kids c ≠ [] := fun z => by rw [z] at e; simp at e
    obtain ⟨vs, pre, f', ef, hr, na, rb⟩ := fc.rep.node hk
    obtain ⟨y, g1, g2, g3, e1, eg, hx, kk⟩ := (reps_seq.mp hr).at e
    have hsp := fc.sp
    have hget := fc.get
    refine ⟨vs, j, y, pre ++ g1, g2, g3, ej, e, e1, na, reps_len hr, ⟨?_, hx, ?_, fun {H' Fz' c' f2'} kp h => ?_⟩⟩
    · rw [hsp, ef, eg]; simp only [List.append_assoc]
    · unfold getR at hget ⊢
      split at hget
      · rename_i d ed
        rw [getP_snoc hget]
        unfold getS
        rw [ej]; exact e
      · cases hget
    · have es : vs.set j y = vs := by
        apply List.ext_getElem?
        intro l
        by_cases hj : j = l
        · subst hj
          rw [List.getElem?_set_self (List.getElem?_eq_some_iff.mp e1).1, e1]
        · rw [List.getElem?_set_ne hj]
      have q := kk (R' := Rep g H' Fz') (a' := c') (b' := y) (f2' := f2') (fun x y f' _ h hs => Rep.keep x y f' (kp.sub fun z hz => by
        have := hs z hz
        simp only [List.mem_append] at this ⊢
        rcases this with w | w
        · exact .inl (.inr (.inr w))
        · exact .inr (.inl w)) h) h
      rw [es] at q
      have q2 := rb (H' := H') (Fz' := Fz') (kp.sub fun z hz => by simp only [List.mem_append]; exact .inl (.inr (.inl hz))) (by rw [List.length_set]) (reps_seq.mpr q)
      have q3 := fc.put (H' := H') (Fz' := Fz') (kp.sub fun z hz => by
        simp only [List.mem_append] at hz ⊢
        rcases hz with w | w
        · exact .inl (.inl w)
        · exact .inr (.inr w)) q2
      have ep : putR ρ i (p ++ [s]) c' = putR ρ i p (withKids c ((kids c).set j c')) := by
        unfold getR at hget
        unfold putR
        split at hget
        · rename_i d ed
          show ρ.set i (some (putP d (p ++ [s]) c')) = ρ.set i (some (putP d p _))
          rw [putP_snoc hget ej e]
        · cases hget
      rw [ep]
      simp only [List.append_assoc] at q3 ⊢
      exact q3
  · cases e
theorem keep_ext0 {f : List Addr} (x : Ext H Fz [] H' Fz []) : Keep H Fz f H' Fz := ⟨fun b u _ e => x.keep b u e (by simp), fun b u _ e => x.keep b u e (by simp), fun b u _ e => x.keep b u e (by simp), fun _ z => z⟩
theorem Keep.trans {f : List Addr} (k1 : Keep H Fz f H1 Fz1) (k2 : Keep H1 Fz1 f H2 Fz2) : Keep H Fz f H2 Fz2 :=
  ⟨fun b u hb e => k2.own b u hb (k1.own b u hb e), fun b u hb e => k2.fz b u (k1.mrk b hb) (k1.fz b u hb e), fun b u hb e => k2.fix b u hb (k1.fix b u hb e), fun b z => k2.mrk b (k1.mrk b z)⟩
/-- new things elsewhere change nothing -/
theorem Foc.ext0 {i : Nat} {p : List Stp} {c : D} {u : V} {f1 f2 f3 : List Addr} (fc : Foc g Fz ρ σ H fp i p c u f1 f2 f3) (x : Ext H Fz [] H' Fz []) : Foc g Fz ρ σ H' fp i p c u f1 f2 f3 :=
  ⟨fc.sp, Rep.keep c u f2 (keep_ext0 x) fc.rep, fc.get, fun {H2 Fz2 c' f2'} k h => fc.put ((keep_ext0 x).trans k) h⟩
/-- what stands there is written, with things that stood ahead, and things taken out of it -/
theorem chg {i : Nat} {p : List Stp} {c c' : D} {a : Addr} {f1 f3 f' fd fp0 fy fe : List Addr} {o' : HO} {ds es : List D} {ws zs : List V} (ra : SRel g Fz (ds.map some ++ ρ) (ws.map some ++ σ) H (fd ++ fp0)) (fc : Foc g Fz ρ σ H fp0 i p c (.ref a) f1 (a :: f') f3)
    (h' : Rep g (upd H a o') Fz c' (.ref a) (a :: fy)) (he : Reps g (upd H a o') Fz es zs fe) (nd : (fe ++ fy).Nodup) (sub : ∀ b ∈ fe ++ fy, b ∈ fd ++ f') :
    ∃ fp', SRel g Fz (es.map some ++ putR ρ i p c') (zs.map some ++ σ) (upd H a o') fp' ∧ Ext H Fz (fd ++ fp0) (upd H a o') Fz fp' := by
  have esp := fc.sp
  have ha : a ∈ fd ++ fp0 := by rw [esp]; simp
  have hm := ra.mut a ha
  have hz := ra.dj a ha
  have ndA := ra.nd
  rw [esp] at ndA
  have nds : (a :: ((fd ++ f') ++ (f1 ++ f3))).Nodup := by
    refine (List.Perm.nodup_iff ?_).mp ndA
    refine List.Perm.trans ?_ (List.perm_middle (l₁ := fd ++ f1) (l₂ := f' ++ f3) (a := a) |>.trans (List.Perm.cons a ?_))
    · rw [List.append_assoc, List.cons_append]
    · rw [List.append_assoc, List.append_assoc]
      refine List.Perm.append_left fd ?_
      exact perm_swap f1 f' f3
  obtain ⟨na, nd2⟩ := List.nodup_cons.mp nds
  obtain ⟨ndx, ndy, ndxy⟩ := List.nodup_append.mp nd2
  have na1 : a ∉ f1 ++ f3 := fun z => na (List.mem_append_right _ z)
  have na2 : a ∉ fe ++ fy := fun z => na (List.mem_append_left _ (sub a z))
  have q := fc.put (upd_keep (u := o') hm hz na1) h'
  have all := Seq3.append (seq_somes he) q
  have pm : (fe ++ (f1 ++ (a :: fy ++ f3))).Perm (a :: ((fe ++ fy) ++ (f1 ++ f3))) := by
    refine List.Perm.trans ?_ (List.perm_middle (l₁ := fe ++ f1) (l₂ := fy ++ f3) (a := a) |>.trans (List.Perm.cons a ?_))
    · rw [List.append_assoc, List.cons_append]
    · rw [List.append_assoc, List.append_assoc]
      refine List.Perm.append_left fe ?_
      exact perm_swap f1 fy f3
  have mem : ∀ b ∈ fe ++ (f1 ++ (a :: fy ++ f3)), b ∈ fd ++ fp0 := fun b hb => by
    have hb := pm.mem_iff.mp hb
    rw [esp]
    rcases List.mem_cons.mp hb with z | z
    · subst z; simp
    · rcases List.mem_append.mp z with z | z
      · have := sub b z
        simp only [List.mem_append, List.mem_cons] at this ⊢
        rcases this with w | w
        · exact .inl w
        · exact .inr (.inr (.inl (.inr w)))
      · simp only [List.mem_append, List.mem_cons] at z ⊢
        rcases z with w | w
        · exact .inr (.inl w)
        · exact .inr (.inr (.inr w))
  refine ⟨fe ++ (f1 ++ (a :: fy ++ f3)), ⟨all, pm.nodup_iff.mpr (List.nodup_cons.mpr ⟨fun z => ?_, List.nodup_append.mpr ⟨nd, ndy, fun x hx y hy => ndxy x (sub x hx) y hy⟩⟩), fun b hb => ra.dj b (mem b hb), fun b hb z => ?_⟩, upd_ext ha (ra.tracked a ha) mem⟩
  · rcases List.mem_append.mp z with z | z
    · exact na2 z
    · exact na1 z
  · by_cases hba : b = a
    · subst hba; exact hz hb
    · rw [upd_ne hba] at z; exact ra.th b hb z
end
end Rm
set_option Elab.async false
set_option linter.all false
set_option maxRecDepth 100000
set_option maxHeartbeats 4000000
/-! Rm, M: simple expressions and places as rules; stores. -/
namespace Rm
open PySem L2

section
variable {g : G} {W : Nat → Bool} {H H1 H2 H' : Hp} {Fz Fz1 Fz2 Fz' : Addr → Prop} {fp fp1 fp2 fp' : List Addr} {ρ ρ' : Env} {σ σ1 σ' : L2.St}
variable {X : Cx} {x : Str} {p pos : Pos} {a b c : Expr} {e : Expr} {es : List Expr} {os : List Opd} {ts : List TE} {ta tb tc : TE}
/-! ### simple expressions -/
/-- read at once; nothing changes by it -/
def Sim (g : G) (X : Cx) (e : Expr) (q : Env → Option D) : Prop := ∃ t, PE X e t ∧ ∀ σ H Q Fz ρ fp d, SRel g Fz ρ σ H fp → q ρ = some d → (∀ v H', Ext H Fz [] H' Fz [] → Rep g H' Fz d v [] → Q v H') → t σ H Q
def qC (d : D) : Env → Option D := fun _ => some d
def qV (i : Nat) : Env → Option D := fun ρ => match ρ[i]? with
  | some (some d) => if noOwn d = true then some d else none
  | _ => none
theorem sm_con {v : V} {d : D} (h : PE X e (tC v)) (r : ∀ H Fz, Rep g H Fz d v []) : Sim g X e (qC d) := ⟨_, h, fun σ H Q Fz ρ fp d' hs e k => by
  cases e
  exact k v H Ext.rfl' (r H Fz)⟩
theorem sm_var {i : Nat} (h : PE X e (tVar i)) : Sim g X e (qV i) := ⟨_, h, fun σ H Q Fz ρ fp d' hs e k => by
  unfold qV at e
  split at e
  · rename_i d hd
    split at e
    · rename_i hn
      cases e
      obtain ⟨v, ev, hr, _⟩ := hs.copy hd hn
      exact ⟨v, ev, k v H Ext.rfl' hr⟩
    · cases e
  · cases e⟩
def qOp (f : List D → Option D) (q q' : Env → Option D) : Env → Option D := fun ρ => match q ρ, q' ρ with
  | some x, some y => match f [x, y] with
    | some d => if noOwn d = true then some d else none
    | none => none
  | _, _ => none
theorem sm_bin {op : Operator} {rr : R2} {f : List D → Option D} {q q' : Env → Option D} (ho : OpR X (binaryOp op) rr) (hok : OpOk g f (r2 rr)) (ha : Sim g X a q) (hb : Sim g X b q') : Sim g X (.BinOp a op b pos) (qOp f q q') := by
  obtain ⟨ta, ha, ka⟩ := ha
  obtain ⟨tb, hb, kb⟩ := hb
  refine ⟨_, pe_op ho ha hb, fun σ H Q Fz ρ fp d' hs e k => ?_⟩
  unfold qOp at e
  split at e
  · rename_i x y ex ey
    split at e
    · rename_i d ed
      split at e
      · rename_i hn
        cases e
        refine ka σ H _ Fz ρ fp x hs ex fun v H1 x1 hx => ?_
        obtain ⟨hs1, _⟩ := hs.ext0 x1
        refine kb σ H1 _ Fz ρ fp y hs1 ey fun w H2 x2 hy => ?_
        have hx2 := Rep.keep x v [] (keep_ext0 x2) hx
        refine hok [x, y] _ ed [v, w] H2 Fz fp Q ⟨v, [w], [], rfl, hx2, by simp, w, [], [], rfl, hy, by simp, rfl⟩ fun u H3 fR x3 _ hr => ?_
        have := Rep.none_of _ hn u fR hr
        subst this
        exact k u H3 ((x1.trans x2).trans x3) hr
      · cases e
    · cases e
  · cases e
theorem sm_add {q q' : Env → Option D} (ha : Sim g X a q) (hb : Sim g X b q') : Sim g X (.BinOp a .Add b pos) (qOp (oII hAdd) q q') := sm_bin op_add ok_add ha hb
theorem sm_sub {q q' : Env → Option D} (ha : Sim g X a q) (hb : Sim g X b q') : Sim g X (.BinOp a .Sub b pos) (qOp (oII hSub) q q') := sm_bin op_sub ok_sub ha hb
def dQ (q : Env → Option D) : M := fun ρ => match q ρ with
  | some d => some (d, ρ)
  | none => none
theorem e_sim {q : Env → Option D} (h : Sim g X e q) : PE X e (tE g (dQ q)) := by
  obtain ⟨t, h, k⟩ := h
  refine pe_imp h fun σ H Q ⟨Fz, ρ, fp, d, ρ', hs, ev, kq⟩ => ?_
  unfold dQ at ev
  split at ev
  · rename_i d0 eq
    cases ev
    refine k σ H Q Fz ρ fp _ hs eq fun v H' x hr => ?_
    obtain ⟨hs', x'⟩ := hs.ext0 x
    exact kq v H' Fz fp x' (hs'.push hr)
  · cases ev

/-! ### places -/
def Pth (g : G) (X : Cx) (e : Expr) (r : Env → Option (Nat × List Stp)) : Prop := ∃ t, PE X e t ∧ ∀ σ H Q Fz ρ fp i p c, SRel g Fz ρ σ H fp → r ρ = some (i, p) → getR ρ i p = some c →
  (∀ u H' f1 f2 f3, Ext H Fz [] H' Fz [] → Foc g Fz ρ σ H' fp i p c u f1 f2 f3 → Q u H') → t σ H Q
def rV (i : Nat) : Env → Option (Nat × List Stp) := fun _ => some (i, [])
theorem getR_nil {i : Nat} {c : D} (h : getR ρ i [] = some c) : ρ[i]? = some (some c) := by
  unfold getR at h
  split at h
  · rename_i d ed
    rw [ed]
    unfold getP at h
    cases h
    rfl
  · cases h
theorem pt_var {i : Nat} (h : PE X e (tVar i)) : Pth g X e (rV i) := ⟨_, h, fun σ H Q Fz ρ fp i' p c hs er ec k => by
  unfold rV at er
  cases er
  obtain ⟨u, f1, f2, f3, eu, fc⟩ := Foc.base hs (getR_nil ec)
  exact ⟨u, eu, k u H f1 f2 f3 Ext.rfl' fc⟩⟩
theorem getR_snoc {i : Nat} {p : List Stp} {s : Stp} {y : D} (h : getR ρ i (p ++ [s]) = some y) : ∃ c, getR ρ i p = some c ∧ getS c s = some y := by
  unfold getR at h ⊢
  split at h
  · rename_i d ed
    have go : ∀ (p : List Stp) (d : D), getP d (p ++ [s]) = some y → ∃ c, getP d p = some c ∧ getS c s = some y := by
      intro p
      induction p with
      | nil =>
        intro d h
        refine ⟨d, by unfold getP; rfl, ?_⟩
        have h : getP d [s] = some y := h
        unfold getP at h
        split at h
        · rename_i z ez
          unfold getP at h
          cases h
          exact ez
        · cases h
      | cons t p ih =>
        intro d h
        have h : getP d (t :: (p ++ [s])) = some y := h
        unfold getP at h
        split at h
        · rename_i z ez
          obtain ⟨c, h1, h2⟩ := ih z h
          refine ⟨c, ?_, h2⟩
          unfold getP
          rw [ez]
          exact h1
        · cases h
    exact go p d h
  · cases h
def rIxP (r : Env → Option (Nat × List Stp)) (q : Env → Option D) : Env → Option (Nat × List Stp) := fun ρ => match r ρ, q ρ with
  | some (i, p), some (.int k) => some (i, p ++ [.ix k])
  | _, _ => none
def rKeyP (r : Env → Option (Nat × List Stp)) (q : Env → Option D) : Env → Option (Nat × List Stp) := fun ρ => match r ρ, q ρ with
  | some (i, p), some (.int k) => some (i, p ++ [.key (.inl k)])
  | some (i, p), some (.str k) => some (i, p ++ [.key (.inr k)])
  | _, _ => none
theorem atI_of {α : Type} {xs : List α} {k : Int} {j : Nat} {y : α} (h : ixN xs.length k = some j) (e : xs[j]? = some y) : atI xs k = some y := by
  unfold atI
  rw [h]
  exact e
theorem pt_ix {r : Env → Option (Nat × List Stp)} {q : Env → Option D} (hK : X.K = g.K) (ha : Pth g X a r) (hb : Sim g X b q) (hs : PlainIx b) : Pth g X (.Subscript a b pos) (rIxP r q) := by
  obtain ⟨ta, ha, ka⟩ := ha
  obtain ⟨tb, hb, kb⟩ := hb
  refine ⟨_, pe_ix (ix_list.or ix_tup) ha hb hs, fun σ H Q Fz ρ fp i' p' c hs er ec k => ?_⟩
  unfold rIxP at er
  split at er
  · rename_i i p kk e1 e2
    cases er
    obtain ⟨c0, h1, h2⟩ := getR_snoc ec
    refine ka σ H _ Fz ρ fp _ _ c0 hs e1 h1 fun u H1 f1 f2 f3 x1 fc => ?_
    obtain ⟨hs1, _⟩ := hs.ext0 x1
    refine kb σ H1 _ Fz ρ fp _ hs1 e2 fun v H2 x2 hv => ?_
    rw [rep_int' hv]
    have fc2 := fc.ext0 x2
    obtain ⟨vs, j, y, g1, g2, g3, ep, ex, ey, na, hl, fc3⟩ := fc2.step h2
    have fin := k y H2 _ _ _ (x1.trans x2) fc3
    cases c0 with
    | lst o xs =>
      have ep : ixN xs.length kk = some j := ep
      obtain ⟨aa, rfl, hh⟩ := na
      have hl : xs.length = vs.length := hl
      rw [hl] at ep
      exact .inl ⟨aa, vs, kk, y, rfl, rfl, .inl (.inl hh), atI_of ep ey, fin⟩
    | tup xs =>
      have ep : ixN xs.length kk = some j := ep
      obtain ⟨aa, rfl, hh⟩ := na
      have hl : xs.length = vs.length := hl
      rw [hl] at ep
      exact .inr ⟨aa, vs, kk, y, rfl, rfl, hK ▸ hh, atI_of ep ey, fin⟩
    | dct o ks xs => cases ks <;> cases ep
    | _ => cases ep
  · cases er
theorem valV_zip {κ : Type} [DecidableEq κ] {k : κ} : ∀ {kk : List κ} {vs : List V} {j : Nat} {y : V}, idxD k kk = some j → vs[j]? = some y → kk.length = vs.length → valV (kk.zip vs) k = some y
  | [], vs, j, y, h, _, _ => by cases h
  | a :: kk, [], j, y, h, e, hl => by cases hl
  | a :: kk, v :: vs, j, y, h, e, hl => by
    rw [List.zip_cons_cons]
    unfold idxD at h
    split at h
    · rename_i hk
      cases h
      have e : v = y := by simpa using e
      subst e
      exact valV_pos (p := (a, v)) hk
    · rename_i hk
      rw [valV_neg (p := (a, v)) hk]
      split at h
      · rename_i j2 h2
        cases h
        exact valV_zip h2 (by simpa using e) (Nat.succ.inj hl)
      · cases h
theorem valV_zip_none {κ : Type} [DecidableEq κ] {k : κ} : ∀ {kk : List κ} {vs : List V}, idxD k kk = none → valV (kk.zip vs) k = none
  | [], vs, h => by simp [valV]
  | a :: kk, [], h => by simp [valV]
  | a :: kk, v :: vs, h => by
    rw [List.zip_cons_cons]
    unfold idxD at h
    split at h
    · cases h
    · rename_i hk
      rw [valV_neg (p := (a, v)) hk]
      split at h
      · cases h
      · rename_i h2
        exact valV_zip_none h2
theorem pt_key {r : Env → Option (Nat × List Stp)} {q : Env → Option D} (hu : X.A.units + 1 < cLine) (ha : Pth g X a r) (hb : Sim g X b q) (hs : NoSl b) : Pth g X (.Subscript a b pos) (rKeyP r q) := by
  obtain ⟨ta, ha, ka⟩ := ha
  obtain ⟨tb, hb, kb⟩ := hb
  refine ⟨_, pe_dget hu ha hb hs, fun σ H Q Fz ρ fp i' p' c hs er ec k => ?_⟩
  have go : ∀ (i : Nat) (p : List Stp) (kk : Key) (dq : D), r ρ = some (i, p) → q ρ = some dq → (∀ H' v, Rep g H' Fz dq v [] → v = kV kk) → i' = i → p' = p ++ [.key kk] → tDGet ta tb σ H Q := by
    intro i p kk dq e1 e2 hv0 ei ep'
    subst ei ep'
    obtain ⟨c0, h1, h2⟩ := getR_snoc ec
    refine ka σ H _ Fz ρ fp _ _ c0 hs e1 h1 fun u H1 f1 f2 f3 x1 fc => ?_
    obtain ⟨hs1, _⟩ := hs.ext0 x1
    refine kb σ H1 _ Fz ρ fp _ hs1 e2 fun v H2 x2 hv => ?_
    rw [hv0 _ _ hv]
    have fc2 := fc.ext0 x2
    obtain ⟨vs, j, y, g1, g2, g3, ep, ex, ey, na, hl, fc3⟩ := fc2.step h2
    have fin := k y H2 _ _ _ (x1.trans x2) fc3
    cases c0 with
    | dct o ks xs =>
      cases ks with
      | k kk2 =>
        have ep : idxD kk kk2 = some j := ep
        obtain ⟨hl2, aa, rfl, hh⟩ := na
        rcases hh with ⟨k3, ek, hh⟩ | ⟨k3, ek, hh⟩
        · cases ek
          refine ⟨aa, y, rfl, ?_, fin⟩
          have := DGet.k (k := kk) hh
          rw [valV_zip ep ey hl2] at this
          exact this
        · cases ek
      | t kk2 => cases ep
    | _ => cases ep
  unfold rKeyP at er
  split at er
  · rename_i i p kk e1 e2
    cases er
    exact go _ _ (.inl kk) _ e1 e2 (fun _ _ h => rep_int' h) rfl rfl
  · rename_i i p kk e1 e2
    cases er
    exact go _ _ (.inr kk) _ e1 e2 (fun _ _ h => rep_str' h) rfl rfl
  · cases er
def rFld (r : Env → Option (Nat × List Stp)) (c0 n : Nat) : Env → Option (Nat × List Stp) := fun ρ => match r ρ with
  | some (i, p) => match getR ρ i p with
    | some (.ins _ c _ _) => if c = c0 then some (i, p ++ [.fld n]) else none
    | _ => none
  | none => none
theorem lookup_zip {n : Nat} : ∀ {fs : List Nat} {vs : List V} {j : Nat} {y : V}, idxD n fs = some j → vs[j]? = some y → fs.length = vs.length → ((fs.map g.nm).zip vs).lookup (g.nm n) = some y
  | [], vs, j, y, h, _, _ => by cases h
  | a :: kk, [], j, y, h, e, hl => by cases hl
  | a :: kk, v :: vs, j, y, h, e, hl => by
    rw [List.map_cons, List.zip_cons_cons]
    unfold idxD at h
    split at h
    · rename_i hk
      cases h
      have e : v = y := by simpa using e
      subst e hk
      simp [List.lookup]
    · rename_i hk
      have hne : g.nm n ≠ g.nm a := fun z => hk (g.inj _ _ z).symm
      rw [List.lookup_cons, beq_eq_false_iff_ne.mpr hne]
      split at h
      · rename_i j2 h2
        cases h
        exact lookup_zip h2 (by simpa using e) (Nat.succ.inj hl)
      · cases h
theorem pt_fld {r : Env → Option (Nat × List Stp)} {c0 n : Nat} {f : Str} (hK : X.K = g.K) (ha : Pth g X e r) (hb : attributeBase e f X.env (eval e X.env) = eval e X.env) (hf : f = g.nm n) (hc : Cls X.K (g.ca c0)) (hn : NoAttr X.K (g.ca c0) f) : Pth g X (.Attribute e f pos) (rFld r c0 n) := by
  obtain ⟨ta, ha, ka⟩ := ha
  refine ⟨_, pe_fld ha hb, fun σ H Q Fz ρ fp i' p' c hs er ec k => ?_⟩
  unfold rFld at er
  split at er
  · rename_i i p e1
    split at er
    · rename_i oo cc fs xs e3
      split at er
      · rename_i hcc
        subst hcc
        cases er
        obtain ⟨c1, h1, h2⟩ := getR_snoc ec
        rw [e3] at h1
        cases h1
        refine ka σ H _ Fz ρ fp _ _ _ hs e1 e3 fun u H1 f1 f2 f3 x1 fc => ?_
        obtain ⟨vs, j, y, g1, g2, g3, ep, ex, ey, na, hl, fc3⟩ := fc.step h2
        have ep : idxD n fs = some j := ep
        obtain ⟨hl2, aa, dx, rfl, hh⟩ := na
        refine ⟨aa, g.ca cc, dx, _, y, rfl, hh, hc, hn, ?_, k y H1 _ _ _ x1 fc3⟩
        rw [hf]
        exact lookup_zip ep ey hl2
      · cases er
    · cases er
  · cases er
/-- what stands at a place, if it owns nothing -/
def qP (r : Env → Option (Nat × List Stp)) : Env → Option D := fun ρ => match r ρ with
  | some (i, p) => match getR ρ i p with
    | some c => if noOwn c = true then some c else none
    | none => none
  | none => none
theorem sm_pth {r : Env → Option (Nat × List Stp)} (h : Pth g X e r) : Sim g X e (qP r) := by
  obtain ⟨t, h, k⟩ := h
  refine ⟨t, h, fun σ H Q Fz ρ fp d hs ev kq => ?_⟩
  unfold qP at ev
  split at ev
  · rename_i i p e1
    split at ev
    · rename_i c ec
      split at ev
      · rename_i hn
        cases ev
        refine k σ H Q Fz ρ fp i p _ hs e1 ec fun u H' f1 f2 f3 x fc => kq u H' x ?_
        have hr := fc.rep
        rwa [Rep.none_of _ hn u f2 hr] at hr
      · cases ev
    · cases ev
  · cases ev
def dPth (r : Env → Option (Nat × List Stp)) : M := dQ (qP r)
theorem e_pth {r : Env → Option (Nat × List Stp)} (h : Pth g X e r) : PE X e (tE g (dPth r)) := e_sim (sm_pth h)
/-- an operation on what stands at a place, owned or not -/
def dOpP (f : List D → Option D) (r : Env → Option (Nat × List Stp)) : M := fun ρ => match r ρ with
  | some (i, p) => match getR ρ i p with
    | some c => match f [c] with
      | some d => some (d, ρ)
      | none => none
    | none => none
  | none => none
theorem Foc.sub {i : Nat} {p : List Stp} {c : D} {u : V} {f1 f2 f3 : List Addr} (fc : Foc g Fz ρ σ H fp i p c u f1 f2 f3) : ∀ a ∈ f2, a ∈ fp := fun a ha => by rw [fc.sp]; simp [ha]
theorem e_opP {f : List D → Option D} {r : Env → Option (Nat × List Stp)} {rr : List V → Hp → VK → Prop} {t : TE} (hp : Pth g X e r) (ho : OpOk g f rr) (h : ∀ {tp : TE}, PE X e tp → PE X b (tCB rr (tOpsA [tp]))) : PE X b (tE g (dOpP f r)) := by
  obtain ⟨tp, hp, k⟩ := hp
  refine pe_imp (h hp) fun σ H Q ⟨Fz, ρ, fp, d, ρ', hs, ev, kq⟩ => ?_
  unfold dOpP at ev
  split at ev
  · rename_i i p e1
    split at ev
    · rename_i c ec
      split at ev
      · rename_i d1 ed
        cases ev
        refine k σ H _ Fz ρ fp i p c hs e1 ec fun u H1 f1 f2 f3 x fc => ?_
        obtain ⟨hs1, x1⟩ := hs.ext0 x
        refine ho [c] _ ed [u] H1 Fz fp Q ⟨u, [], f2, rfl, fc.rep, fc.sub, rfl⟩ fun v H2 fR x2 n hr => ?_
        obtain ⟨hs2, x3⟩ := hs1.fresh x2 n hr
        exact kq v H2 Fz _ (x1.trans x3) hs2
      · cases ev
    · cases ev
  · cases ev
end
end Rm
set_option Elab.async false
set_option linter.all false
set_option maxRecDepth 100000
set_option maxHeartbeats 4000000
/-! Rm, N: what is written: items, entries, attributes; methods of lists. -/
namespace Rm
open PySem L2

section
variable {g : G} {W : Nat → Bool} {H H1 H2 H' : Hp} {Fz Fz1 Fz2 Fz' : Addr → Prop} {fp fp1 fp2 fp' : List Addr} {ρ ρ' : Env} {σ σ1 σ' : L2.St}
variable {X : Cx} {x : Str} {p pos : Pos} {a b c : Expr} {e : Expr} {es : List Expr} {os : List Opd} {ts : List TE} {ta tb tc : TE}
/-! ### how a row changes -/
structure LUp (xs ds ys es : List D) (U Z : List V → List V → List V) : Prop where
  go : ∀ {g : G} {H : Hp} {Fz : Addr → Prop} {vs ws : List V} {f' fd : List Addr}, Reps g H Fz xs vs f' → Reps g H Fz ds ws fd → (fd ++ f').Nodup →
    ∃ fy fe, Reps g H Fz ys (U vs ws) fy ∧ Reps g H Fz es (Z vs ws) fe ∧ (fe ++ fy).Nodup ∧ ∀ b ∈ fe ++ fy, b ∈ fd ++ f'
theorem reps_nil' : Reps g H Fz [] [] [] := by unfold Reps; exact ⟨rfl, rfl⟩
theorem reps_one {d : D} {ws : List V} {f : List Addr} (h : Reps g H Fz [d] ws f) : ∃ w, ws = [w] ∧ Rep g H Fz d w f := by
  unfold Reps at h
  obtain ⟨v, vs', f1, f2, rfl, rfl, h1, h2⟩ := h
  unfold Reps at h2
  obtain ⟨rfl, rfl⟩ := h2
  exact ⟨v, rfl, by rw [List.append_nil]; exact h1⟩
theorem one_reps {d : D} {w : V} {f : List Addr} (h : Rep g H Fz d w f) : Reps g H Fz [d] [w] f := by
  unfold Reps
  exact ⟨w, [], f, [], rfl, (List.append_nil f).symm, h, reps_nil'⟩
theorem up_app {xs : List D} {d : D} : LUp xs [d] (xs ++ [d]) [] (fun vs ws => vs ++ ws) (fun _ _ => []) := ⟨fun {g H Fz vs ws f' fd} h hd nd =>
  ⟨f' ++ fd, [], reps_append h hd, reps_nil', by rw [List.nil_append]; exact (List.perm_append_comm.nodup_iff).mp nd, fun b hb => (List.perm_append_comm.mem_iff).mp (by simpa using hb)⟩⟩
theorem up_set {xs : List D} {d : D} {j : Nat} (hj : j < xs.length) : LUp xs [d] (xs.set j d) [] (fun vs ws => vs.set j (ws.headD .non)) (fun _ _ => []) := ⟨fun {g H Fz vs ws f' fd} h hd nd => by
  obtain ⟨w, rfl, hd1⟩ := reps_one hd
  obtain ⟨v, f1, f2, f3, e1, e2, hx, k⟩ := (reps_seq.mp h).at (List.getElem?_eq_getElem hj)
  have q := k (R' := Rep g H Fz) (a' := d) (b' := w) (f2' := fd) (fun _ _ _ _ h _ => h) hd1
  refine ⟨f1 ++ (fd ++ f3), [], reps_seq.mpr q, reps_nil', ?_, fun b hb => ?_⟩
  · rw [e2] at nd
    have n2 : (f1 ++ (fd ++ (f2 ++ f3))).Nodup := (perm_swap fd f1 (f2 ++ f3)).nodup_iff.mp nd
    refine n2.sublist ?_
    rw [List.nil_append]
    exact List.Sublist.append (List.Sublist.refl _) (List.Sublist.append (List.Sublist.refl _) (List.sublist_append_right _ _))
  · rw [e2]
    simp only [List.nil_append, List.mem_append] at hb ⊢
    rcases hb with z | z | z <;> simp [z]⟩
theorem reps_split : ∀ (n : Nat) {xs : List D} {vs : List V} {f : List Addr}, Reps g H Fz xs vs f → ∃ f1 f2, f = f1 ++ f2 ∧ Reps g H Fz (xs.take n) (vs.take n) f1 ∧ Reps g H Fz (xs.drop n) (vs.drop n) f2
  | 0, xs, vs, f, h => ⟨[], f, rfl, by simpa using reps_nil', by simpa using h⟩
  | n + 1, [], vs, f, h => by
    unfold Reps at h
    obtain ⟨rfl, rfl⟩ := h
    exact ⟨[], [], rfl, by simpa using reps_nil', by simpa using reps_nil'⟩
  | n + 1, x :: xs, vs, f, h => by
    unfold Reps at h
    obtain ⟨v, vs', f1, f2, rfl, rfl, h1, h2⟩ := h
    obtain ⟨g1, g2, rfl, h3, h4⟩ := reps_split n h2
    refine ⟨f1 ++ g1, g2, by rw [List.append_assoc], ?_, h4⟩
    show Reps g H Fz (x :: xs.take n) (v :: vs'.take n) _
    unfold Reps
    exact ⟨v, _, f1, g1, rfl, rfl, h1, h3⟩
theorem up_ins {xs : List D} {i d : D} {n : Nat} (hi : isF i = true) : LUp xs [i, d] (xs.take n ++ [d] ++ xs.drop n) [] (fun vs ws => vs.take n ++ [(ws.drop 1).headD .non] ++ vs.drop n) (fun _ _ => []) := ⟨fun {g H Fz vs ws f' fd} h hd nd => by
  have hd0 := hd
  unfold Reps at hd
  obtain ⟨u, ws', e1, e2, rfl, rfl, hi1, hd⟩ := hd
  obtain ⟨w, rfl, hd1⟩ := reps_one hd
  obtain ⟨_, rfl, _⟩ := rep_flat hi hi1
  obtain ⟨g1, g2, rfl, h3, h4⟩ := reps_split n h
  refine ⟨(g1 ++ e2) ++ g2, [], reps_append (reps_append h3 (one_reps hd1)) h4, reps_nil', ?_, fun b hb => ?_⟩
  · rw [List.nil_append, List.append_assoc]
    exact (perm_swap e2 g1 g2).nodup_iff.mp nd
  · simp only [List.nil_append, List.mem_append] at hb ⊢
    rcases hb with (z | z) | z <;> simp [z]⟩
theorem reps_erase : ∀ {j : Nat} {xs : List D} {vs : List V} {f : List Addr} {x : D}, Reps g H Fz xs vs f → xs[j]? = some x → ∃ v f1 f2, vs[j]? = some v ∧ f.Perm (f1 ++ f2) ∧ Rep g H Fz x v f1 ∧ Reps g H Fz (xs.eraseIdx j) (vs.eraseIdx j) f2
  | j, [], vs, f, x, h, e => by simp at e
  | 0, y :: xs, vs, f, x, h, e => by
    have e : y = x := by simpa using e
    subst e
    unfold Reps at h
    obtain ⟨v, vs', f1, f2, rfl, rfl, h1, h2⟩ := h
    exact ⟨v, f1, f2, rfl, List.Perm.refl _, h1, h2⟩
  | j + 1, y :: xs, vs, f, x, h, e => by
    unfold Reps at h
    obtain ⟨v, vs', f1, f2, rfl, rfl, h1, h2⟩ := h
    obtain ⟨w, g1, g2, e1, pm, h3, h4⟩ := reps_erase h2 (show xs[j]? = some x by simpa using e)
    refine ⟨w, g1, f1 ++ g2, by simpa using e1, (List.Perm.append_left f1 pm).trans (perm_swap f1 g1 g2), h3, ?_⟩
    show Reps g H Fz (y :: xs.eraseIdx j) (v :: vs'.eraseIdx j) _
    unfold Reps
    exact ⟨v, _, f1, g2, rfl, rfl, h1, h4⟩
theorem up_pop {xs ds : List D} {x : D} {j : Nat} (e : xs[j]? = some x) : LUp xs ds (xs.eraseIdx j) [x] (fun vs _ => vs.eraseIdx j) (fun vs _ => [vs.getD j .non]) := ⟨fun {g H Fz vs ws f' fd} h hd nd => by
  obtain ⟨v, f1, f2, e1, pm, h1, h2⟩ := reps_erase h e
  refine ⟨f2, f1, h2, ?_, pm.nodup_iff.mp (List.nodup_append.mp nd).2.1, fun b hb => List.mem_append_right _ (pm.mem_iff.mpr hb)⟩
  rw [List.getD_eq_getElem?_getD, e1]
  exact one_reps h1⟩

theorem reps_keepA {xs : List D} {vs : List V} {f : List Addr} (k : Keep H Fz f H' Fz') (h : Reps g H Fz xs vs f) : Reps g H' Fz' xs vs f := reps_seq.mpr (Seq3.mono (fun a b f' _ hr hs => Rep.keep a b f' (k.sub hs) hr) (reps_seq.mp h))
/-! ### the place is written -/
theorem chgN {i : Nat} {p : List Stp} {c c' : D} {a : Addr} {f1 f3 f' fd fp0 : List Addr} {o' : HO} {xs ds ys es : List D} {vs ws : List V} {U Z : List V → List V → List V} (ra : SRel g Fz (ds.map some ++ ρ) (ws.map some ++ σ) H (fd ++ fp0)) (hd : Reps g H Fz ds ws fd)
    (fc : Foc g Fz ρ σ H fp0 i p c (.ref a) f1 (a :: f') f3) (hr : Reps g H Fz xs vs f') (up : LUp xs ds ys es U Z)
    (mk : ∀ {fy : List Addr}, Reps g (upd H a o') Fz ys (U vs ws) fy → Rep g (upd H a o') Fz c' (.ref a) (a :: fy)) :
    ∃ fp', SRel g Fz (es.map some ++ putR ρ i p c') ((Z vs ws).map some ++ σ) (upd H a o') fp' ∧ Ext H Fz (fd ++ fp0) (upd H a o') Fz fp' ∧ es.length = (Z vs ws).length := by
  have esp := fc.sp
  have ha : a ∈ fd ++ fp0 := by rw [esp]; simp
  have hm := ra.mut a ha
  have hz := ra.dj a ha
  have ndA := ra.nd
  rw [esp] at ndA
  have n1 : (fd ++ f').Nodup := by
    refine ndA.sublist (List.Sublist.append (List.Sublist.refl _) ?_)
    exact ((List.sublist_cons_self a f').trans (List.sublist_append_left _ f3)).trans (List.sublist_append_right f1 _)
  have na : a ∉ fd ++ f' := fun z => by
    rcases List.mem_append.mp z with z | z
    · exact (List.nodup_append.mp ndA).2.2 a z a (by simp) rfl
    · have := (List.nodup_append.mp ndA).2.1
      have := (List.nodup_append.mp this).2.1
      exact (List.nodup_cons.mp (List.nodup_append.mp this).1).1 z
  obtain ⟨fy, fe, hy, hee, nd, sub⟩ := up.go hr hd n1
  have kk : ∀ {f : List Addr}, (∀ b ∈ f, b ∈ fe ++ fy) → Keep H Fz f (upd H a o') Fz := fun hs => upd_keep hm hz fun z => na (sub a (hs a z))
  have hy' := reps_keepA (kk fun b hb => List.mem_append_right _ hb) hy
  have he' := reps_keepA (kk fun b hb => List.mem_append_left _ hb) hee
  obtain ⟨fp', r', x'⟩ := chg ra fc (mk hy') he' nd sub
  exact ⟨fp', r', x', reps_len hee⟩
theorem own_lst {xs : List D} {u : V} {f2 : List Addr} (h : Rep g H Fz (.lst true xs) u f2) : ∃ a vs f', u = .ref a ∧ H a = some (.lst vs) ∧ f2 = a :: f' ∧ Reps g H Fz xs vs f' := by
  unfold Rep at h
  obtain ⟨a, vs, f', rfl, nd, hr⟩ := h
  rcases nd with ⟨_, ha, ef⟩ | ⟨z, _⟩
  · exact ⟨a, vs, f', rfl, ha, ef, hr⟩
  · cases z
theorem SRel.rot {x : Option D} {y : Option V} {hs : Env} {us : L2.St} (h : SRel g Fz (x :: (hs ++ ρ)) (y :: (us ++ σ)) H fp) (hl : hs.length = us.length) : ∃ fp', SRel g Fz (hs ++ (x :: ρ)) (us ++ (y :: σ)) H fp' ∧ ∀ a, a ∈ fp' ↔ a ∈ fp := by
  obtain ⟨f1, fr, e, hx, h2, _⟩ := h.frame1
  obtain ⟨b1, b2, g1, g2, e1, e2, h3, h4⟩ := h2.reps.split
  have eb : b1 = us ∧ b2 = σ := List.append_inj' e1.symm (by
    have l1 := h3.len
    have := congrArg List.length e1
    simp only [List.length_append] at this; omega)
  obtain ⟨rfl, rfl⟩ := eb
  have pm : fp.Perm (g1 ++ (f1 ++ g2)) := by rw [e, e2]; exact perm_swap f1 g1 g2
  exact ⟨g1 ++ (f1 ++ g2), ⟨Seq3.append h3 (Seq3.cons hx h4), pm.nodup_iff.mp h.nd, fun a ha => h.dj a (pm.mem_iff.mpr ha), h.th⟩, fun a => pm.mem_iff.symm⟩
/-- a target that is a part of what stands at a place -/
theorem g_store {tt : TG} {tg : Expr} {mg : MG} (h : PG X tg tt)
    (k : ∀ {v : V} {σ : L2.St} {H : Hp} {Fz : Addr → Prop} {ρ ρ' : Env} {d : D} {fd fp0 : List Addr} {Q : L2.St → Hp → Prop}, SRel g Fz ([d].map some ++ ρ) ([v].map some ++ σ) H (fd ++ fp0) → Reps g H Fz [d] [v] fd → SRel g Fz ρ σ H fp0 → mg d ρ = some ρ' →
      (∀ H' fp', Ext H Fz (fd ++ fp0) H' Fz fp' → SRel g Fz ρ' σ H' fp' → Q σ H') → tt v σ H Q) : PG X tg (tG g W mg) :=
  pg_imp h fun v σ H Q ⟨Fz, hs, us, ρ, fp, d, ρ', hl, r, e, kq⟩ => by
    obtain ⟨fpr, rr, hmem⟩ := r.rot hl
    obtain ⟨fh, fp1, ef, _, r1, kk⟩ := SRel.frame (zs := []) (ws := []) rr hl
    obtain ⟨fd, fp0, efd, hd, r0⟩ := SRel.heads (ds := [d]) (vs := [v]) r1 rfl
    subst efd
    refine k (ρ' := ρ') r1 hd r0 e fun H' fp' x' r' => ?_
    obtain ⟨r2, x2⟩ := kk x' r'
    exact kq σ H' Fz _ (x2.wide fun a ha => (hmem a).mp ha) r2 Agree.refl
def gSetL (r : Env → Option (Nat × List Stp)) (q : Env → Option D) : MG := fun d ρ => match r ρ, q ρ with
  | some (i, p), some (.int k) => match getR ρ i p with
    | some (.lst true xs) => match ixN xs.length k with
      | some j => some (putR ρ i p (.lst true (xs.set j d)))
      | none => none
    | _ => none
  | _, _ => none
theorem ixN_lt {n : Nat} {k : Int} {j : Nat} (h : ixN n k = some j) : j < n := by
  unfold ixN at h
  split at h
  · split at h
    · cases h; omega
    · cases h
  · split at h
    · cases h; omega
    · cases h
theorem SRel.both {ds : List D} {ws : List V} (hd : Reps g H Fz ds ws []) (r : SRel g Fz ρ σ H fp) : SRel g Fz (ds.map some ++ ρ) (ws.map some ++ σ) H ([] ++ fp) := ⟨Seq3.append (seq_somes hd) r.reps, r.nd, r.dj, r.th⟩
theorem reps_ext0 {ds : List D} {ws : List V} {f : List Addr} (x : Ext H Fz [] H' Fz []) (h : Reps g H Fz ds ws f) : Reps g H' Fz ds ws f := reps_keepA (keep_ext0 x) h
theorem g_setL {o ie : Expr} {r : Env → Option (Nat × List Stp)} {q : Env → Option D} (ho : Pth g X o r) (hi : Sim g X ie q)
    (ha : ∀ v, assign (.Subscript o ie pos) X.env v = (do
      let ov ← holding [v] (eval o X.env)
      let iv ← holding [v, ov] (eval ie X.env)
      standAt pos
      holding [v, ov, iv] (setItem ov iv v)
      release [v, ov, iv] []) := by intro _; rfl) : PG X (.Subscript o ie pos) (tG g W (gSetL r q)) := by
  obtain ⟨to, ho, ko⟩ := ho
  obtain ⟨ti, hi, ki⟩ := hi
  refine g_store (pg_sub ho hi set_list ha) fun {v σ H Fz ρ ρ' d fd fp0 Q} ra hd r0 e k => ?_
  unfold gSetL at e
  split at e
  · rename_i i p kk e1 e2
    split at e
    · rename_i xs ec
      split at e
      · rename_i j ej
        cases e
        refine ko σ H _ Fz ρ fp0 i p _ r0 e1 ec fun u H1 f1 f2 f3 x1 fc => ?_
        obtain ⟨r0a, _⟩ := r0.ext0 x1
        refine ki σ H1 _ Fz ρ fp0 _ r0a e2 fun w H2 x2 hw => ?_
        rw [rep_int' hw]
        have fc2 := fc.ext0 x2
        have x12 := x1.trans x2
        obtain ⟨rab, xab⟩ := ra.ext0 x12
        obtain ⟨aa, vs, f', rfl, hh, rfl, hr⟩ := own_lst fc2.rep
        refine ⟨aa, vs, kk, j, rfl, rfl, hh, by rw [← reps_len hr]; exact ej, ?_⟩
        obtain ⟨fp', r', x', _⟩ := chgN (o' := .lst (vs.set j v)) (c' := .lst true (xs.set j d)) rab (reps_ext0 x12 hd) fc2 hr (up_set (ixN_lt ej)) (fun {fy} hy => by
          unfold Rep
          exact ⟨aa, _, fy, rfl, .inl ⟨rfl, upd_same, rfl⟩, hy⟩)
        exact k _ fp' (xab.trans x') r'
      · cases e
    · cases e
  · cases e

/-! ### dicts -/
/-- the keys and the things behind d[k] = x -/
def putKD {κ : Type} [DecidableEq κ] (kk : List κ) (xs : List D) (k : κ) (d : D) : Option (List κ × List D) := match idxD k kk with
  | some j => if kk.Nodup then some (kk, xs.set j d) else none
  | none => if kk.length ≤ 90000 then some (kk ++ [k], xs ++ [d]) else none
theorem idxD_get {κ : Type} [DecidableEq κ] {k : κ} : ∀ {kk : List κ} {j : Nat}, idxD k kk = some j → kk[j]? = some k
  | [], j, h => by cases h
  | a :: kk, j, h => by
    unfold idxD at h
    split at h
    · rename_i hk; cases h; rw [hk]; rfl
    · split at h
      · rename_i j2 h2; cases h; simpa using idxD_get h2
      · cases h
theorem idxD_none {κ : Type} [DecidableEq κ] {k : κ} : ∀ {kk : List κ}, idxD k kk = none → k ∉ kk
  | [], h => by simp
  | a :: kk, h => by
    unfold idxD at h
    split at h
    · cases h
    · rename_i hk
      split at h
      · cases h
      · rename_i h2
        intro z
        rcases List.mem_cons.mp z with z | z
        · exact hk z.symm
        · exact idxD_none h2 z
theorem idxD_lt {κ : Type} [DecidableEq κ] {k : κ} {kk : List κ} {j : Nat} (h : idxD k kk = some j) : j < kk.length := (List.getElem?_eq_some_iff.mp (idxD_get h)).1
theorem any_zip {κ : Type} [DecidableEq κ] {k : κ} : ∀ {kk : List κ} {vs : List V}, kk.length = vs.length → ((kk.zip vs).any fun kv => decide (kv.1 = k)) = decide (k ∈ kk)
  | [], [], _ => by simp
  | [], _ :: _, h => by cases h
  | _ :: _, [], h => by cases h
  | a :: kk, v :: vs, h => by
    rw [List.zip_cons_cons, List.any_cons, any_zip (Nat.succ.inj h)]
    by_cases hk : a = k
    · simp [hk]
    · simp [hk, Ne.symm hk]
theorem map_zip_no {κ : Type} [DecidableEq κ] {k : κ} {w : V} : ∀ {kk : List κ} {vs : List V}, k ∉ kk → (kk.zip vs).map (fun kv => if kv.1 = k then (kv.1, w) else kv) = kk.zip vs
  | [], vs, _ => by simp
  | a :: kk, [], _ => by simp
  | a :: kk, v :: vs, h => by
    rw [List.zip_cons_cons, List.map_cons, map_zip_no fun z => h (List.mem_cons_of_mem _ z), if_neg fun z => h (by rw [← show a = k from z]; exact List.mem_cons_self)]
theorem map_zip_set {κ : Type} [DecidableEq κ] {k : κ} {w : V} : ∀ {kk : List κ} {vs : List V} {j : Nat}, idxD k kk = some j → kk.Nodup → (kk.zip vs).map (fun kv => if kv.1 = k then (kv.1, w) else kv) = kk.zip (vs.set j w)
  | [], vs, j, h, _ => by cases h
  | a :: kk, [], j, h, _ => by simp
  | a :: kk, v :: vs, j, h, nd => by
    obtain ⟨na, nd⟩ := List.nodup_cons.mp nd
    rw [List.zip_cons_cons, List.map_cons]
    unfold idxD at h
    split at h
    · rename_i hk
      cases h
      subst hk
      rw [map_zip_no na, if_pos rfl]; rfl
    · rename_i hk
      split at h
      · rename_i j2 h2
        cases h
        rw [map_zip_set h2 nd, if_neg hk]; rfl
      · cases h
theorem putK_zip {κ : Type} [DecidableEq κ] {k : κ} {kk kk' : List κ} {xs ys : List D} {d : D} (h : putKD kk xs k d = some (kk', ys)) (hl : kk.length = xs.length) : ∃ U : List V → List V → List V, LUp xs [d] ys [] U (fun _ _ => []) ∧ kk'.length = ys.length ∧
    ∀ vs w, vs.length = xs.length → kk.length ≤ 100000 → putK (kk.zip vs) k w = kk'.zip (U vs [w]) := by
  unfold putKD at h
  split at h
  · rename_i j ej
    split at h
    · rename_i nd
      cases h
      refine ⟨_, up_set (by rw [← hl]; exact idxD_lt ej), by rw [List.length_set]; exact hl, fun vs w hv _ => ?_⟩
      unfold putK
      rw [if_pos (by rw [any_zip (hl.trans hv.symm)]; exact decide_eq_true (List.mem_of_getElem? (idxD_get ej)))]
      exact map_zip_set ej nd
    · cases h
  · rename_i ej
    split at h
    · cases h
      refine ⟨_, up_app, by simp [hl], fun vs w hv _ => ?_⟩
      unfold putK
      rw [if_neg (by rw [any_zip (hl.trans hv.symm)]; simpa using idxD_none ej)]
      rw [List.zip_append (hl.trans hv.symm)]; rfl
    · cases h
theorem own_dct {ks : DK} {xs : List D} {u : V} {f2 : List Addr} (h : Rep g H Fz (.dct true ks xs) u f2) : ∃ a vs f', u = .ref a ∧ f2 = a :: f' ∧ Reps g H Fz xs vs f' ∧ ks.len = xs.length ∧ ((∃ kk, ks = .k kk ∧ H a = some (.dK (kk.zip vs))) ∨ ∃ kt, ks = .t kt ∧ H a = some (.dT (kt.zip vs))) := by
  unfold Rep at h
  obtain ⟨a, vs, f', rfl, hr, hl, nd⟩ := h
  rcases nd with ⟨kk, ek, nd⟩ | ⟨kk, ek, nd⟩ <;> rcases nd with ⟨_, ha, ef⟩ | ⟨z, _⟩
  · exact ⟨a, vs, f', rfl, ef, hr, hl, .inl ⟨kk, ek, ha⟩⟩
  · cases z
  · exact ⟨a, vs, f', rfl, ef, hr, hl, .inr ⟨kk, ek, ha⟩⟩
  · cases z
def keyOf : D → Option Key
  | .int i => some (.inl i)
  | .str s => some (.inr s)
  | _ => none
theorem keyOf_v {d : D} {k : Key} {v : V} {f : List Addr} (e : keyOf d = some k) (h : Rep g H Fz d v f) : v = kV k := by
  cases d with
  | int i => cases e; exact rep_int' h
  | str i => cases e; exact rep_str' h
  | _ => cases e
def gSetK (r : Env → Option (Nat × List Stp)) (q : Env → Option D) : MG := fun d ρ => match r ρ, q ρ with
  | some (i, p), some kd => match keyOf kd with
    | some k => match getR ρ i p with
      | some (.dct true (.k kk) xs) => if kk.length ≤ 90000 then (match putKD kk xs k d with
        | some (kk', ys) => some (putR ρ i p (.dct true (.k kk') ys))
        | none => none) else none
      | _ => none
    | none => none
  | _, _ => none
theorem g_setK {o ie : Expr} {r : Env → Option (Nat × List Stp)} {q : Env → Option D} (hu : X.A.units + 1 < cLine) (ho : Pth g X o r) (hi : Sim g X ie q)
    (ha : ∀ v, assign (.Subscript o ie pos) X.env v = (do
      let ov ← holding [v] (eval o X.env)
      let iv ← holding [v, ov] (eval ie X.env)
      standAt pos
      holding [v, ov, iv] (setItem ov iv v)
      release [v, ov, iv] []) := by intro _; rfl) : PG X (.Subscript o ie pos) (tG g W (gSetK r q)) := by
  obtain ⟨to, ho, ko⟩ := ho
  obtain ⟨ti, hi, ki⟩ := hi
  refine g_store (pg_sub ho hi (set_dict hu) ha) fun {v σ H Fz ρ ρ' d fd fp0 Q} ra hd r0 e k => ?_
  unfold gSetK at e
  split at e
  · rename_i i p kd e1 e2
    split at e
    · rename_i ky ek
      split at e
      · rename_i kk xs ec
        split at e
        · rename_i hz
          split at e
          · rename_i kk' ys ep
            cases e
            refine ko σ H _ Fz ρ fp0 i p _ r0 e1 ec fun u H1 f1 f2 f3 x1 fc => ?_
            obtain ⟨r0a, _⟩ := r0.ext0 x1
            refine ki σ H1 _ Fz ρ fp0 _ r0a e2 fun w H2 x2 hw => ?_
            rw [keyOf_v ek hw]
            have fc2 := fc.ext0 x2
            have x12 := x1.trans x2
            obtain ⟨rab, xab⟩ := ra.ext0 x12
            obtain ⟨aa, vs, f', rfl, rfl, hr, hl, hh⟩ := own_dct fc2.rep
            have hl : kk.length = xs.length := hl
            obtain ⟨U, up, hl2, hp⟩ := putK_zip ep hl
            rcases hh with ⟨k2, e3, hh⟩ | ⟨k2, e3, hh⟩
            · cases e3
              have hlv := reps_len hr
              refine ⟨aa, _, rfl, DPut.k hh (by rw [List.length_zip]; have := sizeLine_big; omega), ?_⟩
              rw [hp vs v hlv.symm (by omega)]
              obtain ⟨fp', r', x', _⟩ := chgN (o' := .dK (kk'.zip (U vs [v]))) (c' := .dct true (.k kk') ys) rab (reps_ext0 x12 hd) fc2 hr up (fun {fy} hy => by
                unfold Rep
                exact ⟨aa, _, fy, rfl, hy, hl2, .inl ⟨kk', rfl, .inl ⟨rfl, upd_same, rfl⟩⟩⟩)
              exact k _ fp' (xab.trans x') r'
            · cases e3
          · cases e
        · cases e
      · cases e
    · cases e
  · cases e
end
end Rm
set_option Elab.async false
set_option linter.all false
set_option maxRecDepth 100000
set_option maxHeartbeats 4000000
/-! Rm, O: methods of lists, attributes written, keys that are tuples. -/
namespace Rm
open PySem L2

section
variable {g : G} {W : Nat → Bool} {H H1 H2 H' : Hp} {Fz Fz1 Fz2 Fz' : Addr → Prop} {fp fp1 fp2 fp' : List Addr} {ρ ρ' : Env} {σ σ1 σ' : L2.St}
variable {X : Cx} {x : Str} {p pos : Pos} {a b c : Expr} {o e : Expr} {es : List Expr} {os : List Opd} {ts : List TE} {ta tb tc : TE}
/-! ### methods of a list -/
structure LmOk (f : List D → List D → Option (List D × Option D)) (r : V → List V → Hp → VK → Prop) : Prop where
  ok : ∀ {xs ds ys : List D} {eo : Option D}, f xs ds = some (ys, eo) → ∃ U Z, LUp xs ds ys eo.toList U Z ∧
    ∀ {g : G} {H : Hp} {Fz : Addr → Prop} {aa : Addr} {vs ws : List V} {f' fd : List Addr} {Q : VK}, H aa = some (.lst vs) → Reps g H Fz xs vs f' → Reps g H Fz ds ws fd → Q ((Z vs ws).headD .non) (upd H aa (.lst (U vs ws))) → r (.ref aa) ws H Q
def lmApp : List D → List D → Option (List D × Option D) := fun xs ds => match ds with
  | [d] => if xs.length < 100000 then some (xs ++ [d], none) else none
  | _ => none
theorem lm_app : LmOk lmApp rAppend := ⟨fun {xs ds ys eo} e => by
  unfold lmApp at e
  split at e
  · rename_i d
    split at e
    · rename_i hz
      cases e
      refine ⟨_, _, up_app, fun {g H Fz aa vs ws f' fd Q} ha hr hd q => ?_⟩
      obtain ⟨w, rfl, _⟩ := reps_one hd
      refine ⟨aa, vs, w, rfl, rfl, ha, ?_, q⟩
      rw [← reps_len hr]
      exact Nat.lt_of_lt_of_le hz sizeLine_big
    · cases e
  · cases e⟩
def lmIns : List D → List D → Option (List D × Option D) := fun xs ds => match ds with
  | [.int i, d] => if xs.length < 100000 ∧ 0 ≤ i ∧ i < 2 ^ 63 then some (xs.take i.toNat ++ [d] ++ xs.drop i.toNat, none) else none
  | _ => none
def rIns : V → List V → Hp → VK → Prop := fun x vs H Q => ∃ (l : Addr) (xs : List V) (i : Int) (y : V), x = .ref l ∧ vs = [.int i, y] ∧ H l = some (.lst xs) ∧ xs.length < sizeLine ∧ 0 ≤ i ∧ i < 2 ^ 63 ∧
    Q .non (upd H l (.lst (xs.take i.toNat ++ [y] ++ xs.drop i.toNat)))
theorem lm_ins : LmOk lmIns rIns := ⟨fun {xs ds ys eo} e => by
  unfold lmIns at e
  split at e
  · rename_i i d
    split at e
    · rename_i hz
      cases e
      refine ⟨_, _, up_ins rfl, fun {g H Fz aa vs ws f' fd Q} ha hr hd q => ?_⟩
      unfold Reps at hd
      obtain ⟨u, ws', e1, e2, rfl, _, hi1, hd⟩ := hd
      obtain ⟨w, rfl, _⟩ := reps_one hd
      rw [rep_int' hi1]
      refine ⟨aa, vs, i, w, rfl, rfl, ha, ?_, hz.2.1, hz.2.2, q⟩
      rw [← reps_len hr]
      exact Nat.lt_of_lt_of_le hz.1 sizeLine_big
    · cases e
  · cases e⟩
def lmPopAt : List D → List D → Option (List D × Option D) := fun xs ds => match ds with
  | [.int i] => match ixN xs.length i with
    | some j => match xs[j]? with
      | some d => if xs.length ≤ 100000 then some (xs.eraseIdx j, some d) else none
      | none => none
    | none => none
  | _ => none
theorem lm_popAt : LmOk lmPopAt rPopAt := ⟨fun {xs ds ys eo} e => by
  unfold lmPopAt at e
  split at e
  · rename_i i
    split at e
    · rename_i j ej
      split at e
      · rename_i d ed
        split at e
        · rename_i hz
          cases e
          refine ⟨_, _, up_pop ed, fun {g H Fz aa vs ws f' fd Q} ha hr hd q => ?_⟩
          obtain ⟨w, rfl, hw⟩ := reps_one hd
          rw [rep_int' hw]
          have hl := reps_len hr
          rw [hl] at ej hz
          obtain ⟨h1, h2, h3, h4⟩ := ixN_seq ej
          have ev : vs[j]? = some (vs.getD j .non) := by rw [List.getD_eq_getElem?_getD, List.getElem?_eq_getElem h2]; rfl
          exact ⟨aa, vs, i, j, _, rfl, rfl, ha, by omega, by omega, h1, ev, q⟩
        · cases e
      · cases e
    · cases e
  · cases e⟩
def lmPop : List D → List D → Option (List D × Option D) := fun xs ds => match ds with
  | [] => match xs[xs.length - 1]? with
      | some d => some (xs.eraseIdx (xs.length - 1), some d)
      | none => none
  | _ => none
theorem erase_last {α : Type} : ∀ {xs : List α}, xs.eraseIdx (xs.length - 1) = xs.dropLast := fun {xs} => List.eraseIdx_length_sub_one
theorem lm_pop : LmOk lmPop rPop := ⟨fun {xs ds ys eo} e => by
  unfold lmPop at e
  split at e
  · split at e
    · rename_i d ed
      cases e
      refine ⟨_, _, up_pop ed, fun {g H Fz aa vs ws f' fd Q} ha hr hd q => ?_⟩
      have ew : ws = [] := reps_nil_v hd
      subst ew
      obtain ⟨v, _, e1, _, _⟩ := (reps_seq.mp hr).get ed
      have hl := reps_len hr
      rw [hl] at e1
      refine ⟨aa, vs, v, rfl, rfl, ha, e1, ?_⟩
      simp only [hl, erase_last] at q
      rw [show vs.getD (vs.length - 1) .non = v by rw [List.getD_eq_getElem?_getD, e1]; rfl] at q
      exact q
    · cases e
  · cases e⟩
/-- what a method gives back, and the list behind it -/
def lmEnd (w : List D → Env) (res : Option (List D × Option D)) : Option (D × Env) := match res with
  | some (ys, some d) => some (d, w ys)
  | some (ys, none) => some (.non, w ys)
  | none => none
theorem lm_done {i : Nat} {p : List Stp} {aa : Addr} {f1 f3 f' fd fp0 : List Addr} {xs ds : List D} {vs ws : List V} {f : List D → List D → Option (List D × Option D)} {r : V → List V → Hp → VK → Prop} {d : D} {Q : VK} (h : LmOk f r)
    (ra : SRel g Fz (ds.map some ++ ρ) (ws.map some ++ σ) H (fd ++ fp0)) (hd : Reps g H Fz ds ws fd) (fc : Foc g Fz ρ σ H fp0 i p (.lst true xs) (.ref aa) f1 (aa :: f') f3) (ha : H aa = some (.lst vs)) (hr : Reps g H Fz xs vs f')
    (e : lmEnd (fun ys => putR ρ i p (.lst true ys)) (f xs ds) = some (d, ρ')) (k : ∀ v H' fp', Ext H Fz (fd ++ fp0) H' Fz fp' → SRel g Fz (some d :: ρ') (some v :: σ) H' fp' → Q v H') : r (.ref aa) ws H Q := by
  unfold lmEnd at e
  split at e
  · rename_i ys d1 ef
    cases e
    obtain ⟨U, Z, up, kk⟩ := h.ok ef
    obtain ⟨fp', r', x', hl⟩ := chgN (o' := .lst (U vs ws)) (c' := .lst true ys) ra hd fc hr up (fun {fy} hy => by
      unfold Rep
      exact ⟨aa, _, fy, rfl, .inl ⟨rfl, upd_same, rfl⟩, hy⟩)
    refine kk ha hr hd ?_
    match hz : Z vs ws, hl with
    | [z], _ =>
      rw [hz] at r'
      exact k z _ fp' x' r'
  · rename_i ys ef
    cases e
    obtain ⟨U, Z, up, kk⟩ := h.ok ef
    obtain ⟨fp', r', x', hl⟩ := chgN (o' := .lst (U vs ws)) (c' := .lst true ys) ra hd fc hr up (fun {fy} hy => by
      unfold Rep
      exact ⟨aa, _, fy, rfl, .inl ⟨rfl, upd_same, rfl⟩, hy⟩)
    refine kk ha hr hd ?_
    match hz : Z vs ws, hl with
    | [], _ =>
      rw [hz] at r'
      exact k .non _ fp' x' (SRel.push r' rep_non)
  · cases e
def dMetV (i : Nat) (f : List D → List D → Option (List D × Option D)) (ms : List M) : M := fun ρ => match ρ[i]? with
  | some (some (.lst _ _)) => match evOps (ms.map Opd.e) ρ with
    | some (ds, ρ1) => match ρ1[i]? with
      | some (some (.lst true xs)) => lmEnd (fun ys => putR ρ1 i [] (.lst true ys)) (f xs ds)
      | _ => none
    | none => none
  | _ => none
theorem tBM_V {i : Nat} {f : List D → List D → Option (List D × Option D)} {r : V → List V → Hp → VK → Prop} {ms : List M} {σ : L2.St} {H : Hp} {Q : VK} {K : PySem.W.Frag} (h : LmOk f r) (q : tE g (dMetV i f ms) σ H Q) : tBM K "list" r (tVar i) (tOpsA (ms.map (tE g))) σ H Q := by
  obtain ⟨Fz, ρ, fp, d, ρ', hs, e, k⟩ := q
  unfold dMetV at e
  split at e
  · rename_i oo xs0 ei
    split at e
    · rename_i ds ρ1 e1
      split at e
      · rename_i xs e2
        obtain ⟨u, f0, eu, hu, _⟩ := hs.look ei
        obtain ⟨aa, vs, _, rfl, ha, _⟩ := rep_lstA hu
        refine ⟨_, eu, .inl ⟨rfl, vs, .inl (.inl ha)⟩, ?_⟩
        refine ops_e hs e1 fun ws H' Fz' fp' x r' hl => ?_
        obtain ⟨fd, fp0, rfl, hd, r0⟩ := r'.heads hl
        obtain ⟨u2, f1, f2, f3, eu2, fc⟩ := Foc.base r0 e2
        rw [eu] at eu2
        cases eu2
        obtain ⟨aa2, vs2, f', ea, ha2, rfl, hr⟩ := own_lst fc.rep
        cases ea
        exact lm_done h r' hd fc ha2 hr e fun v H2 fp2 x2 r2 => k v H2 Fz' fp2 (x.trans x2) r2
      · cases e
    · cases e
  · cases e
theorem e_metV {name : Str} {apos cpos : Pos} {bid : String} {r : V → List V → Hp → VK → Prop} {f : List D → List D → Option (List D × Option D)} {i : Nat} {ms : List M} (h : LmOk f r) (slot : Slot "list" name bid) (hty : typeOf (.builtin bid) = pure (.type "method_descriptor")) (hm : MtR X bid r) (ho : PE X o (tVar i)) (ha : PA X (e :: es) (tOpsA (ms.map (tE g))))
    (hbase : attributeBase o name X.env (eval o X.env) = eval o X.env := by rfl)
    (hfew : ((backTo cpos (starEach (e :: es) X.env)).all (fun x => !x.1) && (backToKw cpos (keywordEach [] X.env)).all (fun x => x.1.isSome)
      && decide ((e :: es).length + ([] : List Keyword).length + (if ([] : List Keyword).isEmpty then 0 else 1) < 30)) = true := by rfl)
    (hline : (apos.endLine == cpos.line) = true := by rfl) (hs : starEach (e :: es) X.env = (false, eval e X.env) :: starEach es X.env := by rfl) (hplain : (backTo cpos (starEach es X.env)).any (·.1) = false := by rfl) :
    PE X (.Call (.Attribute o name apos) (e :: es) [] cpos) (tE g (dMetV i f ms)) :=
  pe_imp (pe_bm PySem.F.plainAttrs_list slot hty hm ho ha hbase hfew hline hs hplain) fun σ H Q q => tBM_V h q
/-! arguments that are read at once -/
def evQ : List (Env → Option D) → Env → Option (List D)
  | [], _ => some []
  | q :: qs, ρ => match q ρ, evQ qs ρ with
    | some d, some ds => some (d :: ds)
    | _, _ => none
def SimA (g : G) (X : Cx) (es : List Expr) (qs : List (Env → Option D)) : Prop := ∃ t, PA X es t ∧ ∀ σ H K Fz ρ fp ds, SRel g Fz ρ σ H fp → evQ qs ρ = some ds → (∀ ws H', Ext H Fz [] H' Fz [] → Reps g H' Fz ds ws [] → K ws H') → t σ H K
theorem sa_nil : SimA g X [] [] := ⟨_, pa_nil, fun σ H K Fz ρ fp ds hs e k => by
  unfold evQ at e
  cases e
  exact k [] H Ext.rfl' reps_nil'⟩
theorem sa_cons {q : Env → Option D} {qs : List (Env → Option D)} (h1 : Sim g X e q) (h2 : SimA g X es qs) (hs : starEach (e :: es) X.env = (false, eval e X.env) :: starEach es X.env := by rfl) : SimA g X (e :: es) (q :: qs) := by
  obtain ⟨t, h1, k1⟩ := h1
  obtain ⟨t2, h2, k2⟩ := h2
  refine ⟨_, pa_cons h1 h2 hs, fun σ H K Fz ρ fp ds hs e k => ?_⟩
  unfold evQ at e
  split at e
  · rename_i d ds' e1 e2
    cases e
    refine k1 σ H _ Fz ρ fp d hs e1 fun v H1 x1 hv => ?_
    obtain ⟨hs1, _⟩ := hs.ext0 x1
    refine k2 σ H1 _ Fz ρ fp ds' hs1 e2 fun ws H2 x2 hw => ?_
    refine k (v :: ws) H2 (x1.trans x2) ?_
    unfold Reps
    exact ⟨v, ws, [], [], rfl, rfl, Rep.keep d v [] (keep_ext0 x2) hv, hw⟩
  · cases e
def dMetP (r : Env → Option (Nat × List Stp)) (f : List D → List D → Option (List D × Option D)) (qs : List (Env → Option D)) : M := fun ρ => match r ρ, evQ qs ρ with
  | some (i, p), some ds => match getR ρ i p with
    | some (.lst true xs) => lmEnd (fun ys => putR ρ i p (.lst true ys)) (f xs ds)
    | _ => none
  | _, _ => none
theorem e_metP {name : Str} {apos cpos : Pos} {bid : String} {rr : V → List V → Hp → VK → Prop} {f : List D → List D → Option (List D × Option D)} {r : Env → Option (Nat × List Stp)} {qs : List (Env → Option D)} (h : LmOk f rr) (slot : Slot "list" name bid) (hty : typeOf (.builtin bid) = pure (.type "method_descriptor")) (hm : MtR X bid rr) (ho : Pth g X o r) (ha : SimA g X (e :: es) qs)
    (hbase : attributeBase o name X.env (eval o X.env) = eval o X.env := by rfl)
    (hfew : ((backTo cpos (starEach (e :: es) X.env)).all (fun x => !x.1) && (backToKw cpos (keywordEach [] X.env)).all (fun x => x.1.isSome)
      && decide ((e :: es).length + ([] : List Keyword).length + (if ([] : List Keyword).isEmpty then 0 else 1) < 30)) = true := by rfl)
    (hline : (apos.endLine == cpos.line) = true := by rfl) (hs : starEach (e :: es) X.env = (false, eval e X.env) :: starEach es X.env := by rfl) (hplain : (backTo cpos (starEach es X.env)).any (·.1) = false := by rfl) :
    PE X (.Call (.Attribute o name apos) (e :: es) [] cpos) (tE g (dMetP r f qs)) := by
  obtain ⟨to, ho, ko⟩ := ho
  obtain ⟨t, ha, ka⟩ := ha
  refine pe_imp (pe_bm PySem.F.plainAttrs_list slot hty hm ho ha hbase hfew hline hs hplain) fun σ H Q ⟨Fz, ρ, fp, d, ρ', hs, e, k⟩ => ?_
  unfold dMetP at e
  split at e
  · rename_i i p ds e1 e2
    split at e
    · rename_i xs ec
      refine ko σ H _ Fz ρ fp i p _ hs e1 ec fun u H1 f1 f2 f3 x1 fc => ?_
      obtain ⟨hs1, xx1⟩ := hs.ext0 x1
      obtain ⟨a0, vs0, _, rfl, ha0, rfl, _⟩ := own_lst fc.rep
      refine ⟨.inl ⟨rfl, vs0, .inl (.inl ha0)⟩, ?_⟩
      refine ka σ H1 _ Fz ρ fp ds hs1 e2 fun ws H2 x2 hw => ?_
      obtain ⟨hs2, xx2⟩ := hs1.ext0 x2
      have fc2 := fc.ext0 x2
      obtain ⟨aa, vs, f', ea, hh, ef, hr⟩ := own_lst fc2.rep
      cases ea
      cases ef
      exact lm_done h (hs2.both hw) hw fc2 hh hr e fun v H3 fp3 x3 r3 => k v H3 Fz fp3 ((xx1.trans xx2).trans x3) r3
    · cases e
  · cases e

/-! ### attributes written -/
def putFd (fs : List Nat) (xs : List D) (n : Nat) (d : D) : List Nat × List D := match idxD n fs with
  | some j => (fs, xs.set j d)
  | none => (fs ++ [n], xs ++ [d])
theorem putF_set {n : Nat} {w : V} : ∀ {fs : List Nat} {vs : List V} {j : Nat}, idxD n fs = some j → fs.length = vs.length → putF (g.nm n) w ((fs.map g.nm).zip vs) = (fs.map g.nm).zip (vs.set j w)
  | [], vs, j, h, _ => by cases h
  | a :: fs, [], j, h, hl => by cases hl
  | a :: fs, v :: vs, j, h, hl => by
    rw [List.map_cons, List.zip_cons_cons]
    unfold idxD at h
    unfold putF
    split at h
    · rename_i hk
      cases h
      rw [if_pos (by rw [hk])]; rfl
    · rename_i hk
      split at h
      · rename_i j2 h2
        cases h
        rw [if_neg fun z => hk (g.inj _ _ z), putF_set h2 (Nat.succ.inj hl)]; rfl
      · cases h
theorem putF_app {n : Nat} {w : V} : ∀ {fs : List Nat} {vs : List V}, idxD n fs = none → fs.length = vs.length → putF (g.nm n) w ((fs.map g.nm).zip vs) = ((fs ++ [n]).map g.nm).zip (vs ++ [w])
  | [], [], _, _ => rfl
  | [], _ :: _, _, h => by cases h
  | a :: fs, [], h, hl => by cases hl
  | a :: fs, v :: vs, h, hl => by
    rw [List.map_cons, List.zip_cons_cons]
    unfold idxD at h
    unfold putF
    split at h
    · cases h
    · rename_i hk
      split at h
      · cases h
      · rename_i h2
        rw [if_neg fun z => hk (g.inj _ _ z), putF_app h2 (Nat.succ.inj hl)]; rfl
theorem own_ins {cc : Nat} {fs : List Nat} {xs : List D} {u : V} {f2 : List Addr} (h : Rep g H Fz (.ins true cc fs xs) u f2) : ∃ a dx vs f', u = .ref a ∧ f2 = a :: f' ∧ H dx = some (.own a) ∧ Reps g H Fz xs vs f' ∧ fs.length = xs.length ∧ H a = some (.ins (g.ca cc) dx ((fs.map g.nm).zip vs)) := by
  unfold Rep at h
  obtain ⟨a, dx, vs, f', rfl, hd, hr, hl, nd⟩ := h
  rcases nd with ⟨_, ha, ef⟩ | ⟨z, _⟩
  · exact ⟨a, dx, vs, f', rfl, ef, hd, hr, hl, ha⟩
  · cases z
def dFldS (m : M) (r : Env → Option (Nat × List Stp)) (c0 n : Nat) : MS := fun ρ => match m ρ with
  | some (d, ρ1) => match r ρ1 with
    | some (i, p) => match getR ρ1 i p with
      | some (.ins true cc fs xs) => if cc = c0 ∧ fs.length < 900 then some (.nx (putR ρ1 i p (.ins true cc (putFd fs xs n d).1 (putFd fs xs n d).2))) else none
      | _ => none
    | none => none
  | none => none
theorem s_fld {m : M} {r : Env → Option (Nat × List Stp)} {c0 n : Nat} {value : Expr} {f : Str} {pos' : Pos} (ho : Pth g X o r) (hv : PE X value (tE g m)) (hf : f = g.nm n) (hc : Cls X.K (g.ca c0)) (hn : NoAttr X.K (g.ca c0) f) (hs : swapsWith value (some (.Attribute o f pos')) pos.line X.env = pure false) :
    PS X (.Assign [.Attribute o f pos'] value pos) (tS g W (dFldS m r c0 n)) := by
  obtain ⟨to, ho, ko⟩ := ho
  refine ps_imp (ps_fld ho hv hs) fun E σ H ⟨Fz, ρ, fp, oo, hs, e, k⟩ => ?_
  unfold dFldS at e
  split at e
  · rename_i d ρ1 e1
    split at e
    · rename_i i p e2
      split at e
      · rename_i cc fs xs ec
        split at e
        · rename_i hcc
          obtain ⟨rfl, hz⟩ := hcc
          cases e
          refine ⟨Fz, ρ, fp, d, ρ1, hs, e1, fun v H1 Fz1 fp1 x1 r1 => ?_⟩
          obtain ⟨fd, fp0, rfl, hd, r0⟩ := SRel.heads (ds := [d]) (vs := [v]) r1 rfl
          refine ko σ H1 _ Fz1 ρ1 fp0 i p _ r0 e2 ec fun u H2 f1 f2 f3 x2 fc => ?_
          obtain ⟨r1b, x1b⟩ := r1.ext0 x2
          have hd2 := reps_ext0 x2 hd
          obtain ⟨aa, dx, vs, f', rfl, rfl, hdx, hr, hl, ha⟩ := own_ins fc.rep
          have hl2 := reps_len hr
          refine ⟨aa, g.ca cc, dx, _, rfl, ha, hc, hn, by rw [List.length_zip, List.length_map]; omega, ?_⟩
          have ne : dx ≠ aa := fun z => by rw [z, ha] at hdx; cases hdx
          cases ei : idxD n fs with
          | some j =>
            rw [hf, putF_set ei (hl.trans hl2)]
            have ep : putFd fs xs n d = (fs, xs.set j d) := by unfold putFd; rw [ei]
            rw [ep] at k
            obtain ⟨fp', r', x', _⟩ := chgN (o' := .ins (g.ca cc) dx ((fs.map g.nm).zip (vs.set j v))) (c' := .ins true cc fs (xs.set j d)) r1b hd2 fc hr (up_set (by rw [← hl]; exact idxD_lt ei)) (fun {fy} hy => by
              unfold Rep
              exact ⟨aa, dx, _, fy, rfl, (upd_ne ne).trans hdx, hy, by rw [List.length_set]; exact hl, .inl ⟨rfl, upd_same, rfl⟩⟩)
            exact k σ _ Fz1 fp' ((x1.trans x1b).trans x') r' Agree.refl
          | none =>
            rw [hf, putF_app ei (hl.trans hl2)]
            have ep : putFd fs xs n d = (fs ++ [n], xs ++ [d]) := by unfold putFd; rw [ei]
            rw [ep] at k
            obtain ⟨fp', r', x', _⟩ := chgN (o' := .ins (g.ca cc) dx (((fs ++ [n]).map g.nm).zip (vs ++ [v]))) (c' := .ins true cc (fs ++ [n]) (xs ++ [d])) r1b hd2 fc hr up_app (fun {fy} hy => by
              unfold Rep
              exact ⟨aa, dx, _, fy, rfl, (upd_ne ne).trans hdx, hy, by simp [hl], .inl ⟨rfl, upd_same, rfl⟩⟩)
            exact k σ _ Fz1 fp' ((x1.trans x1b).trans x') r' Agree.refl
        · cases e
      · cases e
    · cases e
  · cases e

/-! ### keys that are tuples, freshly written -/
def keysOf : List D → Option (List Key)
  | [] => some []
  | d :: ds => match keyOf d, keysOf ds with
    | some k, some ks => some (k :: ks)
    | _, _ => none
theorem keysOf_v : ∀ {ds : List D} {ks : List Key} {vs : List V} {f : List Addr}, keysOf ds = some ks → Reps g H Fz ds vs f → vs = ks.map kV
  | [], ks, vs, f, e, h => by unfold keysOf at e; cases e; exact reps_nil_v h
  | d :: ds, ks, vs, f, e, h => by
    unfold keysOf at e
    unfold Reps at h
    obtain ⟨v, vs', f1, f2, rfl, _, h1, h2⟩ := h
    split at e
    · rename_i k ks' e1 e2
      cases e
      rw [keyOf_v e1 h1, keysOf_v e2 h2]; rfl
    · cases e
def SimK (g : G) (X : Cx) (e : Expr) (q : Env → Option (List Key)) : Prop := ∃ t, PE X e t ∧ ∀ σ H Q Fz ρ fp ks, SRel g Fz ρ σ H fp → q ρ = some ks → (∀ bb H', Ext H Fz [] H' Fz [] → H' bb = some (.tup (ks.map kV)) → Q (.ref bb) H') → t σ H Q
def qK (qs : List (Env → Option D)) : Env → Option (List Key) := fun ρ => match evQ qs ρ with
  | some ds => if ds.length ≤ 1000 then keysOf ds else none
  | none => none
theorem sk_tup {k : Nat} {qs : List (Env → Option D)} (h : SimA g X es qs) : SimK g X (.Tuple es k pos) (qK qs) := by
  obtain ⟨t, h, kk⟩ := h
  refine ⟨_, pe_tup h, fun σ H Q Fz ρ fp ks hs e k => ?_⟩
  unfold qK at e
  split at e
  · rename_i ds e1
    split at e
    · rename_i hz
      refine kk σ H _ Fz ρ fp ds hs e1 fun ws H1 x1 hw => ⟨?_, fun q hq => ?_⟩
      · rw [← reps_len hw]; have := sizeLine_big; omega
      · have x2 : Ext H1 Fz [] (upd H1 q (.tup ws)) Fz [] := (new_ext hq).shrink (by simp)
        refine k q _ (x1.trans x2) ?_
        rw [upd_same, keysOf_v e hw]
    · cases e
  · cases e
def dInT (neg : Bool) (q : Env → Option (List Key)) (r : Env → Option (Nat × List Stp)) : M := fun ρ => match q ρ, r ρ with
  | some k, some (i, p) => match getR ρ i p with
    | some (.dct _ (.t kk) _) => some (.bl (if neg then !(idxD k kk).isSome else (idxD k kk).isSome), ρ)
    | _ => none
  | _, _ => none
theorem rep_dct {oo : Bool} {kt : List (List Key)} {xs : List D} {u : V} {f2 : List Addr} (h : Rep g H Fz (.dct oo (.t kt) xs) u f2) : ∃ a vs, u = .ref a ∧ H a = some (.dT (kt.zip vs)) ∧ kt.length = vs.length := by
  unfold Rep at h
  obtain ⟨a, vs, f', rfl, hr, hl, nd⟩ := h
  have hl : kt.length = xs.length := hl
  rcases nd with ⟨kk, ek, nd⟩ | ⟨kk, ek, nd⟩
  · cases ek
  · cases ek
    rcases nd with ⟨_, h, _⟩ | ⟨_, _, h, _⟩ <;> exact ⟨a, vs, rfl, h, hl.trans (reps_len hr)⟩
theorem valV_some {κ : Type} [DecidableEq κ] {k : κ} {kk : List κ} {vs : List V} (hl : kk.length = vs.length) : (valV (kk.zip vs) k).isSome = (idxD k kk).isSome := by
  cases e : idxD k kk with
  | none => rw [valV_zip_none e]; rfl
  | some j =>
    have hj : j < vs.length := by rw [← hl]; exact idxD_lt e
    rw [valV_zip e (List.getElem?_eq_getElem hj) hl]; rfl
theorem e_inT {q : Env → Option (List Key)} {r : Env → Option (Nat × List Stp)} (hu : X.A.units + 1 < cLine) (hi : SimK g X a q) (ho : Pth g X b r) (hm : behindInMarks .In b = false) : PE X (.Compare a [.In] [b] pos) (tE g (dInT false q r)) := by
  obtain ⟨ti, hi, ki⟩ := hi
  obtain ⟨to, ho, ko⟩ := ho
  refine pe_imp (pe_cmp (pc_din hu hi ho) hm) fun σ H Q ⟨Fz, ρ, fp, d, ρ', hs, e, k⟩ => ?_
  unfold dInT at e
  split at e
  · rename_i ks i p e1 e2
    split at e
    · rename_i oo kk xs ec
      cases e
      refine ki σ H _ Fz ρ fp ks hs e1 fun bb H1 x1 hb => ?_
      obtain ⟨hs1, xx1⟩ := hs.ext0 x1
      refine ko σ H1 _ Fz ρ fp i p _ hs1 e2 ec fun u H2 f1 f2 f3 x2 fc => ?_
      obtain ⟨hs2, xx2⟩ := hs1.ext0 x2
      obtain ⟨aa, vs, rfl, ha, hl⟩ := rep_dct fc.rep
      refine ⟨aa, _, rfl, DGet.t ha (x2.keep bb _ hb (by simp)), ?_⟩
      rw [valV_some hl]
      exact k _ H2 Fz fp (xx1.trans xx2) (hs2.push (rep_bl _))
    · cases e
  · cases e
def gSetT (r : Env → Option (Nat × List Stp)) (q : Env → Option (List Key)) : MG := fun d ρ => match r ρ, q ρ with
  | some (i, p), some k => match getR ρ i p with
    | some (.dct true (.t kk) xs) => if kk.length ≤ 90000 then (match putKD kk xs k d with
      | some (kk', ys) => some (putR ρ i p (.dct true (.t kk') ys))
      | none => none) else none
    | _ => none
  | _, _ => none
theorem g_setT {ie : Expr} {r : Env → Option (Nat × List Stp)} {q : Env → Option (List Key)} (hu : X.A.units + 1 < cLine) (ho : Pth g X o r) (hi : SimK g X ie q)
    (ha : ∀ v, assign (.Subscript o ie pos) X.env v = (do
      let ov ← holding [v] (eval o X.env)
      let iv ← holding [v, ov] (eval ie X.env)
      standAt pos
      holding [v, ov, iv] (setItem ov iv v)
      release [v, ov, iv] []) := by intro _; rfl) : PG X (.Subscript o ie pos) (tG g W (gSetT r q)) := by
  obtain ⟨to, ho, ko⟩ := ho
  obtain ⟨ti, hi, ki⟩ := hi
  refine g_store (pg_sub ho hi (set_dict hu) ha) fun {v σ H Fz ρ ρ' d fd fp0 Q} ra hd r0 e k => ?_
  unfold gSetT at e
  split at e
  · rename_i i p ky e1 e2
    split at e
    · rename_i kk xs ec
      split at e
      · rename_i hz
        split at e
        · rename_i kk' ys ep
          cases e
          refine ko σ H _ Fz ρ fp0 i p _ r0 e1 ec fun u H1 f1 f2 f3 x1 fc => ?_
          obtain ⟨r0a, _⟩ := r0.ext0 x1
          refine ki σ H1 _ Fz ρ fp0 _ r0a e2 fun bb H2 x2 hb => ?_
          have fc2 := fc.ext0 x2
          have x12 := x1.trans x2
          obtain ⟨rab, xab⟩ := ra.ext0 x12
          obtain ⟨aa, vs, f', rfl, rfl, hr, hl, hh⟩ := own_dct fc2.rep
          have hl : kk.length = xs.length := hl
          obtain ⟨U, up, hl2, hp⟩ := putK_zip ep hl
          rcases hh with ⟨k2, e3, hh⟩ | ⟨k2, e3, hh⟩
          · cases e3
          · cases e3
            have hlv := reps_len hr
            refine ⟨aa, _, rfl, DPut.t hh hb (by rw [List.length_zip]; have := sizeLine_big; omega), ?_⟩
            rw [hp vs v hlv.symm (by omega)]
            obtain ⟨fp', r', x', _⟩ := chgN (o' := .dT (kk'.zip (U vs [v]))) (c' := .dct true (.t kk') ys) rab (reps_ext0 x12 hd) fc2 hr up (fun {fy} hy => by
              unfold Rep
              exact ⟨aa, _, fy, rfl, hy, hl2, .inr ⟨kk', rfl, .inl ⟨rfl, upd_same, rfl⟩⟩⟩)
            exact k _ fp' (xab.trans x') r'
        · cases e
      · cases e
    · cases e
  · cases e
end
end Rm
set_option Elab.async false
set_option linter.all false
set_option maxRecDepth 100000
set_option maxHeartbeats 4000000
/-! Rm, P: dicts made, their keys as a list, places of things in lists, tests of what stands at a place. -/
namespace Rm
open PySem L2

section
variable {g : G} {W : Nat → Bool} {H H1 H2 H' : Hp} {Fz Fz1 Fz2 Fz' : Addr → Prop} {fp fp1 fp2 fp' : List Addr} {ρ ρ' : Env} {σ σ1 σ' : L2.St}
variable {X : Cx} {x : Str} {p pos : Pos} {a b c : Expr} {o e : Expr} {es : List Expr} {os : List Opd} {ts : List TE} {ta tb tc : TE}
/-! ### index -/
def idxV (d : D) : List D → Option Nat
  | [] => none
  | y :: ys => if eqV (sv y) (sv d) = true then some 0 else match idxV d ys with
    | some j => some (j + 1)
    | none => none
theorem idxV_ok {d : D} : ∀ {xs : List D} {j : Nat}, idxV d xs = some j → (∃ z, (xs.map sv)[j]? = some z ∧ eqV z (sv d) = true) ∧ ∀ m z', m < j → (xs.map sv)[m]? = some z' → eqV z' (sv d) = false
  | [], j, h => by cases h
  | y :: ys, j, h => by
    unfold idxV at h
    split at h
    · rename_i hy
      cases h
      exact ⟨⟨_, rfl, hy⟩, fun m z' hm => absurd hm (Nat.not_lt_zero m)⟩
    · rename_i hy
      split at h
      · rename_i j2 h2
        cases h
        obtain ⟨⟨z, h3, h4⟩, h5⟩ := idxV_ok h2
        refine ⟨⟨z, by simpa using h3, h4⟩, fun m z' hm hz => ?_⟩
        cases m with
        | zero =>
          have hz : sv y = z' := by simpa using hz
          rw [← hz]; simpa using hy
        | succ m => exact h5 m z' (by omega) (by simpa using hz)
      · cases h
def dIdx (m1 m2 : M) : M := fun ρ => match evOps [.e m1, .e m2] ρ with
  | some ([.lst _ xs, d], ρ') => if xs.all isF = true ∧ isF d = true then (match idxV d xs with
    | some j => some (.int j, ρ')
    | none => none) else none
  | _ => none
theorem e_idx {apos cpos : Pos} {m1 m2 : M} (hK : X.K = g.K) (ho : PE X o (tE g m1)) (ha : PE X e (tE g m2)) (hst : ∀ ρ d ρ', m1 ρ = some (d, ρ') → ∃ oo xs, d = .lst oo xs)
    (hbase : attributeBase o "index" X.env (eval o X.env) = eval o X.env := by rfl)
    (hfew : ((backTo cpos (starEach [e] X.env)).all (fun x => !x.1) && (backToKw cpos (keywordEach [] X.env)).all (fun x => x.1.isSome)
      && decide ([e].length + ([] : List Keyword).length + (if ([] : List Keyword).isEmpty then 0 else 1) < 30)) = true := by rfl)
    (hline : (apos.endLine == cpos.line) = true := by rfl) (hs : starEach [e] X.env = (false, eval e X.env) :: starEach [] X.env := by rfl) (hplain : (backTo cpos (starEach [] X.env)).any (·.1) = false := by rfl) :
    PE X (.Call (.Attribute o "index" apos) [e] [] cpos) (tE g (dIdx m1 m2)) :=
  pe_imp (pe_bm PySem.F.plainAttrs_list PySem.F.slot_list_index PySem.F.type_list_index mt_index ho (pa_cons ha pa_nil hs) hbase hfew hline hs hplain) fun σ H Q ⟨Fz, ρ, fp, d, ρ', hs, e, k⟩ => by
    unfold dIdx at e
    split at e
    · rename_i oo xs d2 ρ1 e1
      split at e
      · rename_i hf
        split at e
        · rename_i j ej
          cases e
          unfold evOps at e1
          split at e1
          · cases e1
          · rename_i d0 ρ0 e0
            split at e1
            · cases e1
            · rename_i ds ρ2 e2
              cases e1
              unfold evOps at e2
              split at e2
              · cases e2
              · rename_i d3 ρ3 e3
                simp only [evOps] at e2
                cases e2
                refine ⟨Fz, ρ, fp, _, _, hs, e0, fun v H1 Fz1 fp1 x1 hs1 => ?_⟩
                obtain ⟨f1, fpr, ef, ⟨w, ew, hr⟩, hs2, kk⟩ := hs1.frame1
                cases ew
                obtain ⟨aa, vs, f', rfl, ha, hq, _⟩ := rep_lstA hr
                refine ⟨.inl ⟨rfl, vs, .inl (.inl ha)⟩, Fz1, ρ0, fpr, _, _, hs2, e3, fun v2 H2 Fz2 fp2 x2 hs3 => ?_⟩
                obtain ⟨hs4, x4⟩ := kk x2 hs3
                obtain ⟨g1, gr, eg, ⟨w2, ew2, hr2⟩, hs5, _⟩ := hs4.frame1
                cases ew2
                obtain ⟨aa2, vs2, f2', ea2, ha2, hq2, _⟩ := rep_lstA hr2
                cases ea2
                obtain ⟨g2, gr2, eg2, ⟨w3, ew3, hr3⟩, hs6, _⟩ := hs5.frame1
                cases ew3
                obtain ⟨t1, t2, t3⟩ := rep_flat hf.2 hr3
                obtain ⟨q1, q2, q3⟩ := reps_flat hf.1 hq2
                obtain ⟨⟨z, z1, z2⟩, z3⟩ := idxV_ok ej
                refine ⟨aa, vs2, v2, j, z, rfl, rfl, .inl (.inl ha2), t3, q3, by rw [q1]; exact z1, by rw [t1]; exact z2, fun m z' hm hz => by rw [t1]; rw [q1] at hz; exact z3 m z' hm hz, ?_⟩
                refine k _ H2 Fz2 gr2 ?_ (hs6.push (rep_int _))
                exact (x1.trans x4).shrink fun a ha => by rw [eg, eg2]; simp [ha]
        · cases e
      · cases e
    · cases e

/-! ### dicts made -/
theorem rep_dct0 {q : Addr} (ks : DK) (h : ks = .k [] ∨ ks = .t []) : Rep g (upd H q (match ks with | .k _ => .dK [] | .t _ => .dT [])) Fz (.dct true ks []) (.ref q) [q] := by
  unfold Rep
  refine ⟨q, [], [], rfl, reps_nil', ?_, ?_⟩
  · rcases h with h | h <;> subst h <;> rfl
  · rcases h with h | h <;> subst h
    · exact .inl ⟨[], rfl, .inl ⟨rfl, upd_same, rfl⟩⟩
    · exact .inr ⟨[], rfl, .inl ⟨rfl, upd_same, rfl⟩⟩
theorem e_dct0 : PE X (.Dict [] [] pos) (tE g (dC (.dct true (.k []) []))) := pe_imp pe_dnewK fun σ H Q ⟨Fz, ρ, fp, d, ρ', hs, e, k⟩ q hq => by
  cases e
  obtain ⟨r, x⟩ := hs.fresh (new_ext hq) (List.nodup_cons.mpr ⟨by simp, List.nodup_nil⟩) (rep_dct0 (.k []) (.inl rfl))
  exact k _ _ Fz _ x r
theorem e_dct0T : PE X (.Dict [] [] pos) (tE g (dC (.dct true (.t []) []))) := pe_imp pe_dnewT fun σ H Q ⟨Fz, ρ, fp, d, ρ', hs, e, k⟩ q hq => by
  cases e
  obtain ⟨r, x⟩ := hs.fresh (new_ext hq) (List.nodup_cons.mpr ⟨by simp, List.nodup_nil⟩) (rep_dct0 (.t []) (.inr rfl))
  exact k _ _ Fz _ x r
def trsOf (g : G) (kms : List (Key × M)) : List (TE × TE) := kms.map fun km => (tC (kV km.1), tE g km.2)
theorem pairs_ok : ∀ (kms : List (Key × M)) {ρ : Env} {σ : L2.St} {H : Hp} {Fz : Addr → Prop} {fp : List Addr} {ds : List D} {ρ' : Env} {K : List (V × V) → Hp → Prop}, SRel g Fz ρ σ H fp → evOps ((kms.map Prod.snd).map Opd.e) ρ = some (ds, ρ') →
    (∀ vs H' Fz' fp', Ext H Fz fp H' Fz' fp' → SRel g Fz' (ds.map some ++ ρ') (vs.map some ++ σ) H' fp' → ds.length = vs.length → K (((kms.map Prod.fst).map kV).zip vs) H') → tPairs (trsOf g kms) σ H K
  | [], ρ, σ, H, Fz, fp, ds, ρ', K, hs, e, k => by
    simp only [List.map_nil, evOps] at e
    cases e
    exact k [] H Fz fp Ext.rfl' hs rfl
  | (ky, m) :: kms, ρ, σ, H, Fz, fp, ds, ρ', K, hs, e, k => by
    simp only [List.map_cons] at e
    unfold evOps at e
    split at e
    · cases e
    · rename_i d ρ1 e1
      split at e
      · cases e
      · rename_i ds' ρ2 e2
        cases e
        refine ⟨Fz, ρ, fp, d, ρ1, hs, e1, fun v H1 Fz1 fp1 x1 hs1 => ?_⟩
        obtain ⟨f1, fpr, ef, hr, hs2, kk⟩ := hs1.frame1
        refine pairs_ok kms hs2 e2 fun vs H' Fz' fp' x2 hs3 hl => ?_
        obtain ⟨hs4, x4⟩ := kk x2 hs3
        exact k (v :: vs) H' Fz' _ (x1.trans x4) hs4 (congrArg Nat.succ hl)
theorem up_all {ds : List D} : LUp [] ds ds [] (fun _ ws => ws) (fun _ _ => []) := ⟨fun {g H Fz vs ws f' fd} h hd nd => by
  refine ⟨fd, [], hd, reps_nil', ?_, fun b hb => List.mem_append_left _ (by simpa using hb)⟩
  rw [List.nil_append]
  exact (List.nodup_append.mp nd).1⟩
theorem merge_nodup : ∀ {more kvs : List (Key × V)}, (more.map Prod.fst).Nodup → (∀ k ∈ more.map Prod.fst, k ∉ kvs.map Prod.fst) → mergeK kvs more = kvs ++ more
  | [], kvs, _, _ => by simp [mergeK]
  | kv :: more, kvs, nd, h => by
    have nd' := List.nodup_cons.mp (show (kv.1 :: more.map Prod.fst).Nodup from nd)
    have hk : kv.1 ∉ kvs.map Prod.fst := h kv.1 (by simp)
    have e1 : putK kvs kv.1 kv.2 = kvs ++ [kv] := by
      unfold putK
      rw [if_neg]
      intro z
      obtain ⟨y, hy, hy2⟩ := List.any_eq_true.mp z
      exact hk (List.mem_map.mpr ⟨y, hy, of_decide_eq_true hy2⟩)
    show mergeK (putK kvs kv.1 kv.2) more = _
    rw [e1, merge_nodup nd'.2 fun k hk2 z => ?_]
    · simp
    · rw [List.map_append] at z
      rcases List.mem_append.mp z with z | z
      · exact h k (by simp [hk2]) z
      · have : k = kv.1 := by simpa using z
        exact nd'.1 (this ▸ hk2)
def dDct (kms : List (Key × M)) : M := fun ρ => match evOps ((kms.map Prod.snd).map Opd.e) ρ with
  | some (ds, ρ') => some (.dct true (.k (kms.map Prod.fst)) ds, ρ')
  | none => none
theorem e_dct {keys : List (Option Expr)} {values : List Expr} {kms : List (Key × M)} (h : PPs X pos keys values (trsOf g kms)) (hall : keys.all (·.isSome) = true) (hl : keys.length = values.length) (h0 : keys ≠ []) (h15 : keys.length ≤ 15) (hk : kms.length = keys.length) (nd : (kms.map Prod.fst).Nodup) :
    PE X (.Dict keys values pos) (tE g (dDct kms)) := pe_imp (pe_disp h hall hl h0 h15) fun σ H Q ⟨Fz, ρ, fp, d, ρ', hs, e, k⟩ q hq => by
  unfold dDct at e
  split at e
  · rename_i ds ρ1 e1
    cases e
    obtain ⟨r1, x1⟩ := hs.fresh (d := .dct true (.k []) []) (v := .ref q) (new_ext (o := .dK []) hq) (List.nodup_cons.mpr ⟨by simp, List.nodup_nil⟩) (rep_dct0 (.k []) (.inl rfl))
    obtain ⟨f1, fpr, ef, hr, hs2, kk⟩ := r1.frame1
    refine pairs_ok kms hs2 e1 fun vs H2 Fz2 fp2 x2 hs3 hlv => ?_
    obtain ⟨hs4, x4⟩ := kk x2 hs3
    obtain ⟨fp5, hs5, hm⟩ := hs4.rot (hs := ds.map some) (us := vs.map some) (by rw [List.length_map, List.length_map, hlv])
    obtain ⟨fd, fp0, e5, hd, r0⟩ := hs5.heads hlv
    subst e5
    obtain ⟨u, g1, g2, g3, eu, fc⟩ := Foc.base (i := 0) r0 rfl
    cases eu
    obtain ⟨aa, vs0, f', ea, eg, hr0, _, hh⟩ := own_dct fc.rep
    cases ea
    subst eg
    have ev0 : vs0 = [] := reps_nil_v hr0
    subst ev0
    rcases hh with ⟨k2, e3, hh⟩ | ⟨k2, e3, hh⟩
    · cases e3
      have hlk : (kms.map Prod.fst).length = vs.length := by
        have := evOps_len e1
        simp only [List.length_map] at this ⊢
        omega
      refine ⟨hh, (kms.map Prod.fst).zip vs, ?_, ?_, ?_⟩
      · have : ∀ (ks : List Key) (vs : List V), (ks.map kV).zip vs = (ks.zip vs).map fun kv => (kV kv.1, kv.2) := fun ks => by
          induction ks with
          | nil => intro vs; rfl
          | cons k ks ih => intro vs; cases vs with
            | nil => rfl
            | cons v vs => rw [List.map_cons, List.zip_cons_cons, List.zip_cons_cons, List.map_cons, ih]
        exact this _ _
      · rw [List.length_zip, ← hlk, Nat.min_self, List.length_map]; omega
      · rw [merge_nodup (by rw [zip_fst_eq hlk]; exact nd) (fun _ _ z => by simp at z), List.nil_append]
        obtain ⟨fp6, r6, x6, _⟩ := chgN (o' := .dK ((kms.map Prod.fst).zip vs)) (c' := .dct true (.k (kms.map Prod.fst)) ds) hs5 hd fc hr0 up_all (fun {fy} hy => by
          unfold Rep
          exact ⟨q, vs, fy, rfl, hy, hlk.trans hlv.symm, .inl ⟨_, rfl, .inl ⟨rfl, upd_same, rfl⟩⟩⟩)
        have x7 := ((x1.trans x4).trans (Ext.refl fun a ha => (hm a).mp ha)).trans x6
        exact k _ _ Fz2 fp6 x7 r6
    · cases e3
  · cases e
/-- the keys that are tuples, as a list -/
def keyD : Key → D
  | .inl i => .int i
  | .inr s => .str s
def keyT (k : List Key) : D := .tup (k.map keyD)
theorem rep_keyD (k : Key) : Rep g H Fz (keyD k) (kV k) [] := by
  cases k with
  | inl i => exact rep_int i
  | inr s => exact rep_str s
theorem reps_keyD : ∀ ks : List Key, Reps g H Fz (ks.map keyD) (ks.map kV) []
  | [] => reps_nil'
  | k :: ks => by
    show Reps g H Fz (keyD k :: ks.map keyD) (kV k :: ks.map kV) []
    unfold Reps
    exact ⟨_, _, [], [], rfl, rfl, rep_keyD k, reps_keyD ks⟩
theorem reps_keys : ∀ {kt : List (List Key)} {vs : List V} {bs : List Addr}, IsKeys H (kt.zip vs) bs → kt.length = vs.length → Reps g H Fz (kt.map keyT) (bs.map V.ref) []
  | [], vs, bs, h, _ => by
    unfold IsKeys at h
    rw [List.zip_nil_left] at h
    cases h
    exact reps_nil'
  | k :: kt, [], bs, h, hl => by cases hl
  | k :: kt, v :: vs, bs, h, hl => by
    unfold IsKeys at h
    rw [List.zip_cons_cons] at h
    cases h with
    | @cons a b as bs h t =>
      show Reps g H Fz (keyT k :: kt.map keyT) (.ref b :: bs.map V.ref) []
      unfold Reps
      refine ⟨_, _, [], [], rfl, rfl, ?_, reps_keys t (Nat.succ.inj hl)⟩
      unfold keyT Rep
      exact ⟨b, _, rfl, .inl (.inl h), reps_keyD k⟩
def oListT : List D → Option D := fun ds => match ds with
  | [.dct _ (.t kt) _] => some (.lst true (kt.map keyT))
  | _ => none
theorem b_listT (hc : X.calm = true) : CbOk g X (.type "list") oListT := ⟨_, call_list_dT hc, fun ds d e vs H Fz fp Q vw k => by
  unfold oListT at e
  split at e
  · cases e
    obtain ⟨v, f, rfl, hr, _⟩ := vw1 vw
    obtain ⟨aa, us, rfl, ha, hl⟩ := rep_dct hr
    exact ⟨aa, _, rfl, .inl ha, fun q bs hq hk => k_lst hq (reps_keys hk hl) k⟩
  · cases e⟩
end
end Rm
set_option Elab.async false
set_option linter.all false
set_option maxRecDepth 100000
set_option maxHeartbeats 4000000
/-! Rm, L: defs, calls, methods, things made. -/
namespace Rm
open PySem L2

section
variable {g : G} {W : Nat → Bool} {H H1 H2 H' : Hp} {Fz Fz1 Fz2 Fz' : Addr → Prop} {fp fp1 fp2 fp' : List Addr} {ρ ρ' : Env} {σ σ1 σ' : L2.St}
/-! ### what a def promises: n things in, the first k of them lent -/
def spF (g : G) (n k : Nat) (F : List D → Option (D × List D)) : Sp := fun vs H Q E => ∃ Fz ds fp d post, SRel g Fz (ds.map some) (vs.map some) H fp ∧ vs.length = n ∧ F ds = some (d, post) ∧ post.length = k ∧
  ∀ v H' Fz' fp', Ext H Fz fp H' Fz' fp' → SRel g Fz' (some d :: post.map some) (some v :: (vs.take k).map some) H' fp' → Q v H'
def allS : Env → Option (List D)
  | [] => some []
  | some d :: r => match allS r with
    | some ds => some (d :: ds)
    | none => none
  | none :: _ => none
theorem allS_eq : ∀ {ρ : Env} {ds : List D}, allS ρ = some ds → ρ = ds.map some
  | [], ds, h => by cases h; rfl
  | some d :: r, ds, h => by
    unfold allS at h
    split at h
    · rename_i ds' e; cases h; rw [allS_eq e]; rfl
    · cases h
  | none :: r, ds, h => by cases h
def dEnd (k : Nat) (o : Option Out) : Option (D × List D) := match o with
  | some (.rt d ρ') => match allS (ρ'.take k) with
    | some post => if post.length = k then some (d, post) else none
    | none => none
  | some (.nx ρ') => match allS (ρ'.take k) with
    | some post => if post.length = k then some (.non, post) else none
    | none => none
  | _ => none
def dFn (N k : Nat) (m : MS) : List D → Option (D × List D) := fun ds => dEnd k (m (ds.map some ++ List.replicate (N - ds.length) none))
theorem seq_nones : ∀ n : Nat, Seq3 (RepO g H Fz) (List.replicate n none) (List.replicate n none) []
  | 0 => Seq3.nil
  | n + 1 => Seq3.cons (f1 := []) rfl (seq_nones n)
theorem take_agree {k : Nat} {σ σ' : L2.St} (h : Agree W σ σ') (hw : ∀ i, i < k → W i = false) : σ'.take k = σ.take k := by
  apply List.ext_getElem?
  intro j
  by_cases hj : j < k
  · rw [List.getElem?_take_of_lt hj, List.getElem?_take_of_lt hj, h.at_ j (hw j hj)]
  · rw [List.getElem?_take_eq_none (by omega), List.getElem?_take_eq_none (by omega)]
theorem end_ok {k : Nat} {d : D} {v : V} {post : List D} {vs : List V} {N : List Str} {Q : VK} (hk : k ≤ vs.length) (r : SRel g Fz' (some d :: ρ') (some v :: σ') H' fp') (ag : Agree W (L2.start N vs) σ') (hw : ∀ i, i < k → W i = false) (e : allS (ρ'.take k) = some post) (x : Ext H Fz fp H' Fz' fp')
    (q : ∀ v H' Fz' fp', Ext H Fz fp H' Fz' fp' → SRel g Fz' (some d :: post.map some) (some v :: (vs.take k).map some) H' fp' → Q v H') : Q v H' := by
  have e1 := allS_eq e
  have e2 : σ'.take k = (vs.take k).map some := by
    rw [take_agree ag hw]
    unfold L2.start
    rw [List.take_append_of_le_length (by simpa using hk), List.map_take]
  have r2 : SRel g Fz' ((some d :: post.map some) ++ ρ'.drop k) ((some v :: (vs.take k).map some) ++ σ'.drop k) H' fp' := by
    rw [← e1, ← e2]
    show SRel g Fz' (some d :: (ρ'.take k ++ ρ'.drop k)) (some v :: (σ'.take k ++ σ'.drop k)) H' fp'
    rw [List.take_append_drop, List.take_append_drop]
    exact r
  have hl : post.length = (vs.take k).length := by
    have a1 := congrArg List.length e1
    have a2 := congrArg List.length e2
    have a3 := r.len
    simp only [List.length_map, List.length_take, List.length_cons] at a1 a2 a3 ⊢
    omega
  obtain ⟨f1, f2, ef, r3, _, _⟩ := SRel.frame (zs := []) (ws := []) r2 (by simp only [List.length_cons, List.length_map, hl])
  exact q v H' Fz' f1 (x.shrink fun a ha => by rw [ef]; exact List.mem_append_left _ ha) r3
section
variable {P : Program} {w : World} {K : PySem.W.Frag} {mg : Str → Option Value} {base : Heap} {x qual : Str} {params : Arguments} {body : List Stmt} {scope : Scope} {dvs : List V} {kws : List (Str × V)} {f : Addr} {fd : FuncData}
theorem fn_rm {CX : CXT} {N ps : List Str} {j n k : Nat} {m : MS} (F : FunD K x qual params body scope dvs kws f fd) (S : FnScope N ps scope) (hn : ps.length = n) (hkn : k ≤ n) (hw : ∀ i, i < k → W i = false)
    (hbody : ∀ (cdv : Value) (A : Around) (outer : List PySem.Env) (s : Shared) (H : Hp) (E : XK), Room j (A.deeper (PyProof.Rows.envOfC qual scope s.heap.objs.size f cdv)) → PSs (cxOf CX P w K mg base N qual scope f cdv A outer s H E) body (tS g W m)) :
    FnOk P w K mg base CX (j + 1) f fd ps (spF g n k (dFn N.length k m)) :=
  F.ok S (fun vs H Q E h => by obtain ⟨Fz, ds, fp, d, post, _, hl, _⟩ := h; rw [hl, hn]) fun cdv A outer s H vs Q E hr h => ⟨tS g W m, hbody cdv A outer s H E hr, by
    obtain ⟨Fz, ds, fp, d, post, hs, hl, e, hp, q⟩ := h
    have hlen : ds.length = vs.length := by have := hs.len; simpa using this
    unfold dFn dEnd at e
    have r0 : SRel g Fz (ds.map some ++ List.replicate (N.length - ds.length) none) (L2.start N vs) H fp := by
      refine ⟨?_, hs.nd, hs.dj, hs.th⟩
      unfold L2.start
      rw [hlen]
      have := Seq3.append hs.reps (seq_nones (g := g) (H := H) (Fz := Fz) (N.length - vs.length))
      rwa [List.append_nil] at this
    split at e
    · rename_i d1 ρ1 em
      split at e
      · rename_i post1 ea
        split at e
        · cases e
          exact ⟨Fz, _, fp, _, r0, em, fun v σ' H' Fz' fp' x r ag => end_ok (by omega) r ag hw ea x q⟩
        · cases e
      · cases e
    · rename_i ρ1 em
      split at e
      · rename_i post1 ea
        split at e
        · cases e
          exact ⟨Fz, _, fp, _, r0, em, fun σ' H' Fz' fp' x r ag => end_ok (d := .non) (v := .non) (by omega) (r.push rep_non) ag hw ea x q⟩
        · cases e
      · cases e
    · cases e⟩
end

/-! ### the arguments lent -/
def Srcs : List Opd → List V → L2.St → Prop
  | .v i :: os, v :: vs, σ => σ[i]? = some (some v) ∧ Srcs os vs σ
  | .e _ :: os, _ :: vs, σ => Srcs os vs σ
  | _, _, _ => True
theorem Srcs.take : ∀ {os : List Opd} {vs : List V} {σ : L2.St} (k : Nat), Srcs os vs σ → Srcs os (vs.take k) σ
  | [], vs, σ, k, _ => by cases vs.take k <;> trivial
  | o :: os, [], σ, k, _ => by rw [List.take_nil]; cases o <;> trivial
  | o :: os, v :: vs, σ, 0, _ => by rw [List.take_zero]; cases o <;> trivial
  | .v i :: os, v :: vs, σ, k + 1, h => ⟨h.1, Srcs.take k h.2⟩
  | .e _ :: os, v :: vs, σ, k + 1, h => Srcs.take (os := os) k h
theorem ops_ok2 : ∀ (os : List Opd) (ts : List TE), OpdT g os ts → ∀ {ρ : Env} {σ : L2.St} {H : Hp} {Fz : Addr → Prop} {fp : List Addr} {ds : List D} {ρ' : Env} {K : List V → Hp → Prop}, SRel g Fz ρ σ H fp → evOps os ρ = some (ds, ρ') →
    (∀ vs H' Fz' fp', Ext H Fz fp H' Fz' fp' → SRel g Fz' (tmps os ds ++ ρ') (tmpv os vs ++ σ) H' fp' → ds.length = vs.length → Srcs os vs σ → K vs H') → tOpsA ts σ H K
  | [], ts, ht, ρ, σ, H, Fz, fp, ds, ρ', K, hs, e, k => by
    have et : ts = [] := ht
    rw [et]
    unfold evOps at e
    cases e
    exact k [] H Fz fp Ext.rfl' hs rfl trivial
  | .e m :: os, ts, ht, ρ, σ, H, Fz, fp, ds, ρ', K, hs, e, k => by
    obtain ⟨t, ts', et, hm, ht⟩ := ht
    rw [et]
    unfold evOps at e
    split at e
    · cases e
    · rename_i d ρ1 e1
      split at e
      · cases e
      · rename_i ds' ρ2 e2
        cases e
        refine hm _ _ _ ⟨Fz, ρ, fp, d, ρ1, hs, e1, fun v H1 Fz1 fp1 x1 hs1 => ?_⟩
        obtain ⟨f1, fpr, ef, hr, hs2, kk⟩ := hs1.frame1
        refine ops_ok2 os ts' ht hs2 e2 fun vs H' Fz' fp' x2 hs3 hl src => ?_
        obtain ⟨hs4, x4⟩ := kk x2 hs3
        exact k (v :: vs) H' Fz' (f1 ++ fp') (x1.trans x4) hs4 (congrArg Nat.succ hl) src
  | .v i :: os, ts, ht, ρ, σ, H, Fz, fp, ds, ρ', K, hs, e, k => by
    obtain ⟨ts', et, ht⟩ := ht
    rw [et]
    unfold evOps at e
    split at e
    · rename_i d0 h0
      split at e
      · cases e
      · rename_i ds' ρ2 e2
        split at e
        · rename_i d hd
          cases e
          obtain ⟨v, f, ev, _, _⟩ := hs.look h0
          exact ⟨v, ev, ops_ok2 os ts' ht hs e2 fun vs H' Fz' fp' x2 hs3 hl src => k (v :: vs) H' Fz' fp' x2 hs3 (congrArg Nat.succ hl) ⟨ev, src⟩⟩
        · cases e
    · cases e
def lendD : List Opd → List D → Env → Option (List D × Env)
  | [], _, ρ => some ([], ρ)
  | .e _ :: os, d :: ds, ρ => match lendD os ds ρ with
    | some (ds', ρ') => some (d :: ds', ρ')
    | none => none
  | .v i :: os, _ :: ds, ρ => match lendD os ds ρ with
    | some (ds', ρ') => match ρ'[i]? with
      | some (some x) => some (x :: ds', ρ'.set i none)
      | _ => none
    | none => none
  | _ :: _, [], _ => none
def backE : List Opd → List D → Env → Env
  | .v i :: os, d :: ds, ρ => (backE os ds ρ).set i (some d)
  | .e _ :: os, _ :: ds, ρ => backE os ds ρ
  | _, _, ρ => ρ
theorem lend_ok : ∀ (os : List Opd) {ds ds' : List D} {vs : List V} {ρ ρL : Env} {σ : L2.St} {fp : List Addr}, SRel g Fz (tmps os ds ++ ρ) (tmpv os vs ++ σ) H fp → lendD os ds ρ = some (ds', ρL) → os.length = vs.length → Srcs os vs σ →
    ∃ fp', SRel g Fz (ds'.map some ++ ρL) (vs.map some ++ σ) H fp' ∧ ds'.length = vs.length ∧ ∀ a ∈ fp', a ∈ fp
  | [], ds, ds', vs, ρ, ρL, σ, fp, r, e, hl, src => by
    unfold lendD at e
    cases e
    have ev : vs = [] := List.length_eq_zero_iff.mp hl.symm
    subst ev
    exact ⟨fp, r, rfl, fun _ h => h⟩
  | o :: os, [], ds', vs, ρ, ρL, σ, fp, r, e, hl, src => by cases o <;> (unfold lendD at e; cases e)
  | o :: os, d :: ds, ds', [], ρ, ρL, σ, fp, r, e, hl, src => by cases hl
  | .e m :: os, d :: ds, ds', v :: vs, ρ, ρL, σ, fp, r, e, hl, src => by
    unfold lendD at e
    split at e
    · rename_i ds1 ρ1 e1
      cases e
      have r : SRel g Fz (some d :: (tmps os ds ++ ρ)) (some v :: (tmpv os vs ++ σ)) H fp := r
      obtain ⟨f1, fp1, ef, _, r1, kk⟩ := r.frame1
      obtain ⟨fp2, r2, hl2, sub⟩ := lend_ok os r1 e1 (Nat.succ.inj hl) src
      obtain ⟨r3, x3⟩ := kk (Ext.refl sub) r2
      refine ⟨f1 ++ fp2, r3, congrArg Nat.succ hl2, fun a ha => ?_⟩
      rw [ef]
      rcases List.mem_append.mp ha with z | z
      · exact List.mem_append_left _ z
      · exact List.mem_append_right _ (sub a z)
    · cases e
  | .v i :: os, d :: ds, ds', v :: vs, ρ, ρL, σ, fp, r, e, hl, src => by
    unfold lendD at e
    split at e
    · rename_i ds1 ρ1 e1
      split at e
      · rename_i x ex
        cases e
        have r : SRel g Fz (tmps os ds ++ ρ) (tmpv os vs ++ σ) H fp := r
        obtain ⟨fp2, r2, hl2, sub⟩ := lend_ok os r e1 (Nat.succ.inj hl) src.2
        obtain ⟨u, fp3, eu, r3, hm⟩ := r2.move (i := ds1.length + i) (d := x) (by
          have : (ds1.map some : Env).length = ds1.length := List.length_map _
          rw [List.getElem?_append_right (by rw [this]; exact Nat.le_add_right _ _), this, Nat.add_sub_cancel_left]; exact ex)
        have e2 : ((ds1.map some ++ ρ1 : Env).set (ds1.length + i) none) = ds1.map some ++ ρ1.set i none := by
          have : (ds1.map some : Env).length = ds1.length := List.length_map _
          rw [List.set_append_right _ _ (by rw [this]; exact Nat.le_add_right _ _), this, Nat.add_sub_cancel_left]
        have e3 : u = v := by
          have : (vs.map some : L2.St).length = ds1.length := by rw [List.length_map, hl2]
          rw [List.getElem?_append_right (by rw [this]; exact Nat.le_add_right _ _), this, Nat.add_sub_cancel_left, src.1] at eu
          cases eu; rfl
        subst e3
        rw [e2] at r3
        exact ⟨fp3, r3, congrArg Nat.succ hl2, fun a ha => sub a ((hm a).mp ha)⟩
      · cases e
    · cases e
theorem back_ok : ∀ (os : List Opd) {post : List D} {ws : List V} {ρL : Env} {σ : L2.St} {fp : List Addr}, SRel g Fz (post.map some ++ ρL) (ws.map some ++ σ) H fp → post.length = ws.length → Srcs os ws σ → ∃ fp', SRel g Fz (backE os post ρL) σ H fp' ∧ ∀ a ∈ fp', a ∈ fp
  | [], post, ws, ρL, σ, fp, r, hl, src => by
    obtain ⟨fp1, r1, h1⟩ := r.drops (by simp [hl])
    unfold backE
    exact ⟨fp1, r1, h1⟩
  | o :: os, [], ws, ρL, σ, fp, r, hl, src => by
    have : ws = [] := List.length_eq_zero_iff.mp hl.symm
    subst this
    cases o <;> (unfold backE; exact ⟨fp, r, fun _ h => h⟩)
  | o :: os, d :: post, [], ρL, σ, fp, r, hl, src => by cases hl
  | .e m :: os, d :: post, w :: ws, ρL, σ, fp, r, hl, src => by
    have r : SRel g Fz (some d :: (post.map some ++ ρL)) (some w :: (ws.map some ++ σ)) H fp := r
    obtain ⟨fp1, r1, h1⟩ := r.drop1
    obtain ⟨fp2, r2, h2⟩ := back_ok os r1 (Nat.succ.inj hl) src
    unfold backE
    exact ⟨fp2, r2, fun a ha => h1 a (h2 a ha)⟩
  | .v i :: os, d :: post, w :: ws, ρL, σ, fp, r, hl, src => by
    have r : SRel g Fz (some d :: (post.map some ++ ρL)) (some w :: (ws.map some ++ σ)) H fp := r
    obtain ⟨f1, fp1, ef, _, r1, kk⟩ := r.frame1
    obtain ⟨fp2, r2, h2⟩ := back_ok os r1 (Nat.succ.inj hl) src.2
    obtain ⟨r3, _⟩ := kk (Ext.refl h2) r2
    have hi : i < σ.length := (List.getElem?_eq_some_iff.mp src.1).1
    obtain ⟨fp3, r4, h4⟩ := r3.put (i := i) (by rw [r2.len]; exact hi)
    have es : σ.set i (some w) = σ := by
      apply List.ext_getElem?
      intro j
      by_cases hj : i = j
      · subst hj
        rw [List.getElem?_set_self hi, src.1]
      · rw [List.getElem?_set_ne hj]
    rw [es] at r4
    unfold backE
    refine ⟨fp3, r4, fun a ha => ?_⟩
    rw [ef]
    rcases List.mem_append.mp (h4 a ha) with z | z
    · exact List.mem_append_left _ z
    · exact List.mem_append_right _ (h2 a z)
/-- behind the arguments: the call's answer, what was lent given back; dds: what fills up -/
def dCallEnd (F : List D → Option (D × List D)) (os : List Opd) (dds ds : List D) (ρ1 : Env) : Option (D × Env) := match lendD os ds ρ1 with
  | some (ds', ρL) => match F (ds' ++ dds) with
    | some (d, post) => some (d, backE os post ρL)
    | none => none
  | none => none
def KOk (k : Nat) (F : List D → Option (D × List D)) : Prop := ∀ ds d post, F ds = some (d, post) → post.length = k
theorem kok_fn {N k : Nat} {m : MS} : KOk k (dFn N k m) := fun ds d post h => by
  unfold dFn dEnd at h
  split at h
  · split at h
    · split at h
      · cases h; assumption
      · cases h
    · cases h
  · split at h
    · split at h
      · cases h; assumption
      · cases h
    · cases h
  · cases h
theorem call_end {F : List D → Option (D × List D)} {os : List Opd} {dds ds : List D} {dvs vs : List V} {n k : Nat} {d : D} {Q : VK} {E : XK} (hkk : ∀ ds d post, F ds = some (d, post) → post.length = k) (hdd : ∀ H Fz, Reps g H Fz dds dvs []) (hn : os.length + dds.length = n) (hk : k ≤ os.length)
    (r : SRel g Fz (tmps os ds ++ ρ) (tmpv os vs ++ σ) H fp) (e : dCallEnd F os dds ds ρ = some (d, ρ')) (hl : os.length = vs.length) (src : Srcs os vs σ)
    (q : ∀ v H' Fz' fp', Ext H Fz fp H' Fz' fp' → SRel g Fz' (some d :: ρ') (some v :: σ) H' fp' → Q v H') : spF g n k F (vs ++ dvs) H Q E := by
  unfold dCallEnd at e
  split at e
  · rename_i ds' ρL e1
    split at e
    · rename_i d1 post e2
      cases e
      obtain ⟨fp1, r1, hl1, sub1⟩ := lend_ok os r e1 hl src
      obtain ⟨f1, f2, ef, hd, r2⟩ := r1.heads hl1
      have ra : SRel g Fz ((ds' ++ dds).map some ++ ρL) ((vs ++ dvs).map some ++ σ) H fp1 := by
        refine ⟨?_, r1.nd, r1.dj, r1.th⟩
        rw [ef, List.map_append, List.map_append, List.append_assoc, List.append_assoc]
        exact Seq3.append (seq_somes hd) (Seq3.append (f := []) (seq_somes (hdd H Fz)) r2.reps)
      have ld := reps_len (hdd H Fz)
      obtain ⟨g1, g2, eg, r3, _, kk⟩ := ra.frameR (by simp [hl1, ld])
      have hpk : post.length = k := hkk _ _ _ e2
      refine ⟨Fz, ds' ++ dds, g1, _, post, r3, by rw [List.length_append, ← ld, ← hl, hn], e2, hpk, fun v H' Fz' fp' x r4 => ?_⟩
      obtain ⟨r5, x5⟩ := kk x r4
      have et : (vs ++ dvs).take k = vs.take k := by rw [List.take_append_of_le_length (by omega)]
      rw [et] at r5
      have r5 : SRel g Fz' (some d :: (post.map some ++ ρL)) (some v :: ((vs.take k).map some ++ σ)) H' (fp' ++ g2) := r5
      obtain ⟨h1, fp6, e6, _, r6, kk6⟩ := r5.frame1
      obtain ⟨fp7, r7, sub7⟩ := back_ok os r6 (by rw [hpk, List.length_take]; omega) (src.take k)
      obtain ⟨r8, x8⟩ := kk6 (Ext.refl sub7) r7
      refine q v H' Fz' (h1 ++ fp7) ?_ r8
      have xa : Ext H Fz fp H Fz fp1 := Ext.refl sub1
      exact (xa.trans x5).shrink fun a ha => by
        rw [e6]
        rcases List.mem_append.mp ha with z | z
        · exact List.mem_append_left _ z
        · exact List.mem_append_right _ (sub7 a z)
    · cases e
  · cases e
def dCall (F : List D → Option (D × List D)) (os : List Opd) (dds : List D) : M := fun ρ => match evOps os ρ with
  | some (ds, ρ1) => dCallEnd F os dds ds ρ1
  | none => none
variable {X : Cx} {CX : CXT} {j n k : Nat} {f C : Addr} {fd : FuncData} {ps : List Str} {F : List D → Option (D × List D)} {dvs : List V} {dds : List D} {dss : List Value} {E : XK} {x m : Str} {p pos apos : Pos} {e o : Expr} {es : List Expr} {os : List Opd} {ts : List TE}
theorem e_call (FO : FnOk X.prog X.w X.K X.mg X.base CX j f fd ps (spF g n k F)) (hkk : ∀ ds d post, F ds = some (d, post) → post.length = k) (hr : Room j X.A) (hg : Gl X x) (hm : X.mg x = some (.ref f)) (hk : PySem.W.keepIn X.K (.ref f) = true) (hb : Binds X.K fd ps dss) (hd : Vals dvs dss) (hx : Passes CX X E)
    (hdd : ∀ H Fz, Reps g H Fz dds dvs []) (hn : os.length + dds.length = n) (hkn : k ≤ os.length) (ha : PA X (e :: es) (tOpsA ts)) (ht : OpdT g os ts) (hdb : (x == ("__debug__" : Str)) = false := by decide) (he : starEach (e :: es) X.env = (false, eval e X.env) :: starEach es X.env := by rfl) (hpl : (backTo pos (starEach es X.env)).any (·.1) = false := by rfl) :
    PE X (.Call (.Name x p) (e :: es) [] pos) (tE g (dCall F os dds)) := pe_imp (pe_call FO hr hg hm hk hb hd hx ha hdb he hpl) fun σ H Q ⟨Fz, ρ, fp, d, ρ', hs, ev, q⟩ => by
  unfold dCall at ev
  split at ev
  · rename_i ds ρ1 e1
    refine ops_ok2 os ts ht hs e1 fun vs H' Fz' fp' x r hl src => ?_
    have hlo := evOps_len e1
    exact call_end hkk hdd hn hkn r ev (by rw [← hlo, hl]) src fun v H2 Fz2 fp2 x2 r2 => q v H2 Fz2 fp2 (x.trans x2) r2
  · cases ev
/-- the receiver is of that class, and has no attribute of the method's name -/
def isC (c0 mn : Nat) : D → Bool
  | .ins _ c fs _ => decide (c = c0) && (idxD mn fs).isNone
  | _ => false
theorem lookup_none {n : Nat} : ∀ {fs : List Nat} {vs : List V}, idxD n fs = none → ((fs.map g.nm).zip vs).lookup (g.nm n) = none
  | [], vs, _ => by simp
  | a :: fs, [], _ => by simp
  | a :: fs, v :: vs, h => by
    rw [List.map_cons, List.zip_cons_cons]
    unfold idxD at h
    split at h
    · cases h
    · rename_i hk
      rw [List.lookup_cons, beq_eq_false_iff_ne.mpr fun z => hk (g.inj _ _ z).symm]
      split at h
      · cases h
      · rename_i h2
        exact lookup_none h2
theorem isC_ok {c0 mn : Nat} {d : D} {v : V} {f : List Addr} (h : isC c0 mn d = true) (hr : Rep g H Fz d v f) : ∃ a dx fs, v = .ref a ∧ H a = some (.ins (g.ca c0) dx fs) ∧ fs.lookup (g.nm mn) = none := by
  unfold isC at h
  split at h
  · rename_i oo c fs xs
    rw [Bool.and_eq_true] at h
    have e := of_decide_eq_true h.1
    subst e
    unfold Rep at hr
    obtain ⟨a, dx, vs, f', rfl, _, _, _, nd⟩ := hr
    have h2 : idxD mn fs = none := by simpa using h.2
    rcases nd with ⟨_, ha, _⟩ | ⟨_, _, ha, _⟩ <;> exact ⟨a, dx, _, rfl, ha, lookup_none h2⟩
  · cases h
/-- a method of the thing that a slot holds -/
def dMethV (F : List D → Option (D × List D)) (c0 mn i : Nat) (os : List Opd) (dds : List D) : M := fun ρ => match ρ[i]? with
  | some (some d0) => if isC c0 mn d0 = true then (match evOps os ρ with
    | some (ds, ρ1) => dCallEnd F (.v i :: os) dds (.non :: ds) ρ1
    | none => none) else none
  | _ => none
theorem tMeth_V {c0 mn i : Nat} {σ : L2.St} {H : Hp} {Q : VK} (hkk : ∀ ds d post, F ds = some (d, post) → post.length = k) (hdd : ∀ H Fz, Reps g H Fz dds dvs []) (hn : os.length + 1 + dds.length = n) (hkn : k ≤ os.length + 1) (ht : OpdT g os ts) (hmn : m = g.nm mn) (q : tE g (dMethV F c0 mn i os dds) σ H Q) :
    tMeth (g.ca c0) m (spF g n k F) dvs E (tVar i) (tOpsA ts) σ H Q := by
  obtain ⟨Fz, ρ, fp, d, ρ', hs, ev, q⟩ := q
  unfold dMethV at ev
  split at ev
  · rename_i d0 e0
    split at ev
    · rename_i hc
      split at ev
      · rename_i ds ρ1 e1
        obtain ⟨v, f, eu, hu, _⟩ := hs.look e0
        obtain ⟨a, dx, fs, rfl, ha, hlk⟩ := isC_ok hc hu
        refine ⟨_, eu, a, dx, fs, rfl, ha, hmn ▸ hlk, ?_⟩
        refine ops_ok2 os ts ht hs e1 fun vs H' Fz' fp' x r hl src => ?_
        have hlo := evOps_len e1
        exact call_end (os := .v i :: os) (vs := .ref a :: vs) hkk hdd (by rw [List.length_cons]; exact hn) (by rw [List.length_cons]; exact hkn) r ev (by simp [← hlo, hl]) ⟨eu, src⟩ fun v H2 Fz2 fp2 x2 r2 => q v H2 Fz2 fp2 (x.trans x2) r2
      · cases ev
    · cases ev
  · cases ev
theorem e_methV {c0 mn i : Nat} {pl : Sem Bool} (FO : FnOk X.prog X.w X.K X.mg X.base CX j f fd ps (spF g n k F)) (hkk : ∀ ds d post, F ds = some (d, post) → post.length = k) (hr : Room j X.A) (ho : PE X o (tVar i)) (c : Cls X.K (g.ca c0)) (hm : Meth X.K (g.ca c0) m f) (hb : Binds X.K fd ps dss) (hd : Vals dvs dss) (hx : Passes CX X E)
    (hdd : ∀ H Fz, Reps g H Fz dds dvs []) (hn : os.length + 1 + dds.length = n) (hkn : k ≤ os.length + 1) (hmn : m = g.nm mn) (ha : PA X (e :: es) (tOpsA ts)) (ht : OpdT g os ts)
    (hst : starEach (e :: es) X.env = (false, eval e X.env) :: starEach es X.env := by rfl) (hpl : (backTo pos (starEach es X.env)).any (·.1) = false := by rfl)
    (htx : eval (.Call (.Attribute o m apos) (e :: es) [] pos) X.env = (do
      let ov ← eval o X.env
      standAt apos.atName
      let (f, first) ← holding [ov] (getMethod ov m pl)
      callWith pos f first (backTo pos (starEach (e :: es) X.env)) (backToKw pos (keywordEach [] X.env))) := by rfl) :
    PE X (.Call (.Attribute o m apos) (e :: es) [] pos) (tE g (dMethV F c0 mn i os dds)) := pe_imp (pe_meth ho c hm FO hr hb hd hx ha hst hpl htx) fun σ H Q q => tMeth_V hkk hdd hn hkn ht hmn q
theorem e_methV0 {c0 mn i : Nat} {pl : Sem Bool} (FO : FnOk X.prog X.w X.K X.mg X.base CX j f fd ps (spF g n k F)) (hkk : ∀ ds d post, F ds = some (d, post) → post.length = k) (hr : Room j X.A) (ho : PE X o (tVar i)) (c : Cls X.K (g.ca c0)) (hm : Meth X.K (g.ca c0) m f) (hb : Binds X.K fd ps dss) (hd : Vals dvs dss) (hx : Passes CX X E)
    (hdd : ∀ H Fz, Reps g H Fz dds dvs []) (hn : 1 + dds.length = n) (hkn : k ≤ 1) (hmn : m = g.nm mn)
    (htx : eval (.Call (.Attribute o m apos) [] [] pos) X.env = (do
      let ov ← eval o X.env
      standAt apos.atName
      let (f, first) ← holding [ov] (getMethod ov m pl)
      callWith pos f first (backTo pos (starEach [] X.env)) (backToKw pos (keywordEach [] X.env))) := by rfl) :
    PE X (.Call (.Attribute o m apos) [] [] pos) (tE g (dMethV F c0 mn i [] dds)) := pe_imp (pe_meth0 ho c hm FO hr hb hd hx htx) fun σ H Q q => tMeth_V (os := []) (ts := []) hkk hdd (by simpa using hn) hkn rfl hmn q
/-- a thing made -/
def dMake (F : List D → Option (D × List D)) (c0 : Nat) (ms : List M) (dds : List D) : M := fun ρ => match evOps (ms.map Opd.e) ρ with
  | some (ds, ρ1) => match F (.ins true c0 [] [] :: (ds ++ dds)) with
    | some (.non, [d]) => some (d, ρ1)
    | _ => none
  | none => none
theorem e_make {c0 : Nat} {ms : List M} (M0 : Mk X.K (g.ca c0) f) (FO : FnOk X.prog X.w X.K X.mg X.base CX j f fd ps (spF g n 1 F)) (hr : Room (j + 1) X.A) (hg : Gl X x) (hm : X.mg x = some (.ref (g.ca c0))) (hb : Binds X.K fd ps dss) (hd : Vals dvs dss) (hx : Passes CX X E)
    (hdd : ∀ H Fz, Reps g H Fz dds dvs []) (hn : ms.length + 1 + dds.length = n) (ha : PA X (e :: es) (tOpsA (ms.map (tE g)))) (hdb : (x == ("__debug__" : Str)) = false := by decide) (he : starEach (e :: es) X.env = (false, eval e X.env) :: starEach es X.env := by rfl) (hpl : (backTo pos (starEach es X.env)).any (·.1) = false := by rfl) :
    PE X (.Call (.Name x p) (e :: es) [] pos) (tE g (dMake F c0 ms dds)) := pe_imp (pe_make M0 FO hr hg hm hb hd hx ha hdb he hpl) fun σ H Q ⟨Fz, ρ, fp, d, ρ', hs, ev, q⟩ => by
  unfold dMake at ev
  split at ev
  · rename_i ds ρ1 e1
    split at ev
    · rename_i d1 e2
      cases ev
      refine ops_e hs e1 fun vs H1 Fz1 fp1 x1 r1 hl a dx h1 h2 hne => ?_
      have xn : Ext H1 Fz1 [] (upd (upd H1 dx (.own a)) a (.ins (g.ca c0) dx [])) Fz1 [a] := by
        have xa : Ext H1 Fz1 [] (upd H1 dx (.own a)) Fz1 [] := (new_ext h2).shrink (by simp)
        exact xa.trans (new_ext (by rw [upd_ne fun z => hne z.symm]; exact h1))
      obtain ⟨r2, x2⟩ := r1.fresh (d := .ins true c0 [] []) (v := .ref a) xn (List.nodup_cons.mpr ⟨by simp, List.nodup_nil⟩) (by
        unfold Rep
        exact ⟨a, dx, [], [], rfl, by rw [upd_ne hne, upd_same], reps_nil', rfl, .inl ⟨rfl, upd_same, rfl⟩⟩)
      have hlo := evOps_len e1
      rw [List.length_map] at hlo
      obtain ⟨f1, f2, ef, hd3, r3⟩ := SRel.heads (ds := .ins true c0 [] [] :: ds) (vs := .ref a :: vs) r2 (by simp [hl])
      have ra : SRel g Fz1 ((D.ins true c0 [] [] :: (ds ++ dds)).map some ++ ρ') ((V.ref a :: (vs ++ dvs)).map some ++ σ) (upd (upd H1 dx (.own a)) a (.ins (g.ca c0) dx [])) ([a] ++ fp1) := by
        refine ⟨?_, r2.nd, r2.dj, r2.th⟩
        rw [ef, ← List.cons_append, ← List.cons_append, List.map_append, List.map_append, List.append_assoc, List.append_assoc]
        exact Seq3.append (seq_somes hd3) (Seq3.append (f := []) (seq_somes (hdd _ Fz1)) r3.reps)
      have ld := reps_len (hdd H1 Fz1)
      obtain ⟨g1, g2, eg, r4, _, kk⟩ := ra.frameR (by simp [hl, ld])
      refine ⟨Fz1, _, g1, .non, [d], r4, by simp only [List.length_cons, List.length_append, ← ld, ← hl, hlo]; omega, e2, rfl, fun v H' Fz' fp' x r5 => ?_⟩
      obtain ⟨r6, x6⟩ := kk x r5
      obtain ⟨h1', fp6, e6, ⟨v', ev', hv⟩, r7, _⟩ := r6.frame1
      cases ev'
      refine ⟨rep_non' hv, ?_⟩
      refine q (.ref a) H' Fz' fp6 ?_ r7
      exact ((x1.trans x2).trans x6).shrink fun b hb => by rw [e6]; exact List.mem_append_right _ hb
    · cases ev
  · cases ev
end
end Rm
set_option Elab.async false
set_option linter.all false
set_option maxRecDepth 100000
set_option maxHeartbeats 4000000
/-! Rm, Q: sets of a list's numbers, sorted; len of own things; starred targets; tests for []. -/
namespace Rm
open PySem L2

/-! ### set(xs) of a list of ints -/
def sNew (w : World) : Obj := { cls := .type "set", dict := none, data := .set #[] 0 (.fresh 0 0 (!w.params.followText "set-order")) }
section
variable {P : Program} {w : World} {A : Around} {E : Value → Shared → Prop} {s : Shared}
theorem set_of_list {l : Addr} {vs : Array Value} (ns : List Int) {Q : Value → Shared → Prop} (hA : A.handled = none) (hl : s.heap.IsList l vs) (hi : PyProof.Rows.IntsAre vs.toList ns) (hb : ns.length + 1 < scanBound)
    (h : ∀ (h2 : Heap) (t2 c : Nat), SetR w h2 s.heap.objs.size (fun j => decide (j ∈ ns)) c → c ≤ ns.length → (∀ b o, s.heap.get? b = some o → h2.get? b = some o) → Q (.ref s.heap.objs.size) { s with heap := h2, toks := t2 }) :
    wpAny (model P w) A (call (.type "set") [.ref l]) Q E s := by
  have hz : vs.size = ns.length := by have q := PyProof.Rows.IntsAre.length hi; rwa [Array.length_toList] at q
  obtain ⟨_, _, mro0⟩ := F.called_set.mro
  have made0 := F.called_set.made
  have sub0 := F.called_set.sub
  refine wpAny_call (codeAny_of_tree ?_)
  show wpAny _ _ (callAny (.type "set") _) _ _ _
  refine wpAny_pure ⟨Code.quiet_builtin _ (by decide +kernel), codeAny_builtin F.entry_type_call ?_⟩
  rw [Around.under_plain (weight_type_call_type "set" [.ref l] []) rfl]
  have ty0 := F.called_set.notType
  have cr0 := F.called_set.canCreate
  have tc0 := F.typeCall_set_1 (.ref l)
  repeat (any_goals (first | assumption | wp_step))
  refine codeAny_mono (code_set_led1 (.ref l) (E := E) (Q₁ := fun v s' => v = .ref s.heap.objs.size ∧ s' = { s with heap := s.heap.push (sNew w) }) ⟨rfl, rfl⟩) fun res s' hres => ?_
  match res, hres with
  | .error e, hres => exact hres
  | .ok (.ret v), hres =>
    obtain ⟨rfl, rfl⟩ := hres
    have g0 : (s.heap.push (sNew w)).get? s.heap.objs.size = some (sNew w) := Heap.get?_push_size _ rfl
    have ty1 : Shared.TypeIs { s with heap := s.heap.push (sNew w) } (.ref s.heap.objs.size) "set" := ⟨_, g0, rfl⟩
    have in0 := F.called_set.init.lookup
    have in1 := F.called_set.init.bind (.ref s.heap.objs.size)
    repeat (any_goals (first | assumption | wp_step))
    refine codeAny_mono (codeAny_call_builtin (R := wants (fun v s2 => v = .none ∧ ∃ h2 t2 c, s2 = { s with heap := h2, toks := t2 } ∧ SetR w h2 s.heap.objs.size (fun j => decide (j ∈ ns)) c ∧ c ≤ ns.length ∧ (∀ b o, s.heap.get? b = some o → h2.get? b = some o)) E)
      F.called_set.init.plain F.entry_set_init (check_set_init_1 ty1 ?_)) fun res2 s2 hres2 => ?_
    · obtain ⟨⟨oc, od, dat, osl⟩, ho, hc, nl, hd⟩ := hl
      simp only at hc hd
      subst hc hd
      have ho1 : (s.heap.push (sNew w)).get? l = some { cls := .type "list", dict := od, data := .seq vs nl, slots := osl } := Heap.get?_push_of_some _ ho
      have sb1 := F.sub_list_set
      have sb2 := F.sub_list_frozenset
      have nd : (Value.type "list" == Value.type "dict") = false := by decide
      have hl1 : (s.heap.push (sNew w)).IsList l vs := ⟨_, ho1, rfl, nl, rfl⟩
      unfold Builtin.«set.__init__» noKeywords Builtin.Frozenset.updateFrom
      generalize hit : pyIter = it
      wp_walk
      subst hit
      refine wpAny_pyIter_list hl1 ?_
      refine wpAny_bind (wpAny_runValue ?_)
      have ll : l < s.heap.objs.size := Heap.lt_size ho
      have h3 : A.in1.in1.in1.handled = none := by simp [hA]
      have sz1 : (s.heap.push (sNew w)).objs.size = s.heap.objs.size + 1 := Heap.size_push ..
      have ne1 : l ≠ (s.heap.push (sNew w)).objs.size := by rw [sz1]; exact Nat.ne_of_lt (Nat.lt_succ_of_lt ll)
      have nf : s.heap.objs.size ∉ [(s.heap.push (sNew w)).objs.size, l] := by
        rw [sz1]
        simp only [List.mem_cons, List.not_mem_nil, or_false, not_or]
        exact ⟨Nat.ne_of_lt (Nat.lt_succ_self _), Nat.ne_of_gt ll⟩
      have val : ∀ (i : Nat) (v : Value), vs[i]? = some v → ∃ k t, ns[i]? = some k ∧ v = .int k t := fun i v hv => by
        have hi2 : i < ns.length := by rw [← hz]; exact (Array.getElem?_eq_some_iff.mp hv).1
        obtain ⟨t, e⟩ := PyProof.Rows.IntsAre.int_at hi i v (by rw [Array.getElem?_toList]; exact hv)
        exact ⟨ns[i], t, List.getElem?_eq_getElem hi2, by rw [e, List.getD_eq_getElem?_getD, List.getElem?_eq_getElem hi2] <;> rfl⟩
      refine set_update_ints ((Walks.list h3 _ l ne1 vs).toS) s.heap.objs.size nf ns hz hb val (vs.size - 0) 0 _ (by omega) (Nat.zero_le _) ⟨⟨_, Heap.get?_push_size _ rfl, rfl, rfl⟩, (hl1.push _)⟩ ?first ?last
      case first => exact ⟨0, Nat.le_refl 0, setR_new_at (Heap.get?_push_of_some _ g0)⟩
      case last =>
        rintro ⟨h2, g2, d2, t2, o2⟩ c hm hc2 hS
        obtain rfl : g2 = s.gens := hm.gens
        obtain rfl : d2 = s.drawn := hm.drawn
        obtain rfl : o2 = s.os := hm.os
        show wpAny _ _ _ _ _ _
        refine wpAny_pure ?_
        show wpAny _ _ (ret Value.none) _ _ _
        rw [hz] at hc2
        refine wpAny_pure ⟨rfl, h2, t2, c, rfl, hS, hc2, fun b o e => ?_⟩
        have b0 : b < s.heap.objs.size := Heap.lt_size e
        refine hm.heap b o ?_ (Heap.get?_push_of_some _ (Heap.get?_push_of_some _ e))
        simp only [List.mem_cons, List.not_mem_nil, or_false, not_or]
        exact ⟨Nat.ne_of_lt b0, by rw [sz1]; exact Nat.ne_of_lt (Nat.lt_succ_of_lt b0)⟩
    · match res2, hres2 with
      | .error e, hres2 => exact hres2
      | .ok (.ret v), hres2 =>
        obtain ⟨rfl, h2, t2, c, rfl, hS, hc2, kk⟩ := hres2
        repeat (any_goals (first | assumption | wp_step))
        exact h _ _ _ hS hc2 kk
      | .ok .next, hres2 => exact hres2.elim
      | .ok .brk, hres2 => exact hres2.elim
      | .ok .cont, hres2 => exact hres2.elim
  | .ok .next, hres => exact hres.elim
  | .ok .brk, hres => exact hres.elim
  | .ok .cont, hres => exact hres.elim
end
section
variable {g : G} {W : Nat → Bool} {H H1 H2 H' : Hp} {Fz Fz1 Fz2 Fz' : Addr → Prop} {fp fp1 fp2 fp' : List Addr} {ρ ρ' : Env} {σ σ1 σ' : L2.St}
variable {X : Cx} {x : Str} {p pos : Pos} {a b c : Expr} {o e : Expr} {es : List Expr} {os : List Opd} {ts : List TE} {ta tb tc : TE}
def rSetL1 (K : PySem.W.Frag) (w : World) : List V → Hp → VK → Prop := fun vs H Q => ∃ (a : Addr) (ns : List Int), vs = [V.ref a] ∧ SqL K H a (ns.map V.int) ∧ ns.length ≤ 60 ∧ ∀ q c, H q = none → c ≤ ns.length → Q (.ref q) (upd H q (SetO w q (fun j => decide (j ∈ ns)) c))
theorem cr_setL (hc : X.calm = true) : CallR X (.type "set") (rSetL1 X.K X.w) := by
  intro pins s σ H vs us Q I r h
  obtain ⟨a, ns, rfl, hs, hn, q⟩ := h
  obtain ⟨its, rv, hl, _⟩ := I.list hs
  rw [Vals.ref1 r]
  refine set_of_list ns (I.ok.hd hc) hl.isList (by simpa using rv.ints) (by unfold scanBound; omega) fun h2 t2 c hS hc2 k => ?_
  exact ⟨.ref _, _, I.laid (t' := t2) k (Nat.le_refl _) (setO_new hS), rfl, q _ c (I.hok.fresh (Nat.le_refl _)) hc2⟩
theorem uniq_asc : ∀ {xs ys : List Int}, xs.Pairwise (· < ·) → ys.Pairwise (· < ·) → (∀ k, k ∈ xs ↔ k ∈ ys) → xs = ys
  | [], [], _, _, _ => rfl
  | [], y :: ys, _, _, h => absurd ((h y).mpr (by simp)) (by simp)
  | x :: xs, [], _, _, h => absurd ((h x).mp (by simp)) (by simp)
  | x :: xs, y :: ys, h1, h2, h => by
    obtain ⟨a1, a2⟩ := List.pairwise_cons.mp h1
    obtain ⟨b1, b2⟩ := List.pairwise_cons.mp h2
    have exy : x = y := by
      rcases List.mem_cons.mp ((h x).mp (by simp)) with e | e
      · exact e
      · rcases List.mem_cons.mp ((h y).mpr (by simp)) with e2 | e2
        · exact e2.symm
        · have := b1 x e; have := a1 y e2; omega
    subst exy
    rw [uniq_asc a2 b2 fun k => ?_]
    constructor
    · intro hk
      rcases List.mem_cons.mp ((h k).mp (by simp [hk])) with e | e
      · subst e; have := a1 k hk; omega
      · exact e
    · intro hk
      rcases List.mem_cons.mp ((h k).mpr (by simp [hk])) with e | e
      · subst e; have := b1 k hk; omega
      · exact e
def insU (x : Int) : List Int → List Int
  | [] => [x]
  | y :: ys => if x < y then x :: y :: ys else if x = y then y :: ys else y :: insU x ys
def sortU : List Int → List Int
  | [] => []
  | x :: xs => insU x (sortU xs)
theorem insU_mem {x k : Int} : ∀ {ys : List Int}, k ∈ insU x ys ↔ k = x ∨ k ∈ ys
  | [] => by simp [insU]
  | y :: ys => by
    unfold insU
    split
    · simp
    · split
      · rename_i h; subst h; simp
      · rw [List.mem_cons, insU_mem, List.mem_cons]; exact ⟨fun h => by rcases h with h | h | h <;> simp [h], fun h => by rcases h with h | h | h <;> simp [h]⟩
theorem insU_asc {x : Int} : ∀ {ys : List Int}, ys.Pairwise (· < ·) → (insU x ys).Pairwise (· < ·)
  | [], _ => by simp [insU]
  | y :: ys, h => by
    obtain ⟨a1, a2⟩ := List.pairwise_cons.mp h
    unfold insU
    split
    · rename_i hx
      exact List.pairwise_cons.mpr ⟨fun z hz => by rcases List.mem_cons.mp hz with e | e; omega; have := a1 z e; omega, h⟩
    · split
      · exact h
      · exact List.pairwise_cons.mpr ⟨fun z hz => by rcases insU_mem.mp hz with e | e; omega; exact a1 z e, insU_asc a2⟩
theorem sortU_mem {k : Int} : ∀ {ns : List Int}, k ∈ sortU ns ↔ k ∈ ns
  | [] => Iff.rfl
  | x :: xs => by unfold sortU; rw [insU_mem, sortU_mem, List.mem_cons]
theorem sortU_asc : ∀ {ns : List Int}, (sortU ns).Pairwise (· < ·)
  | [] => List.Pairwise.nil
  | x :: xs => by unfold sortU; exact insU_asc sortU_asc
def oSortU : List D → Option D := fun ds => match ds with
  | [.lst _ xs] => match intsOf xs with
    | some ns => if ns.length ≤ 60 then some (.lst true ((sortU ns).map .int)) else none
    | none => none
  | _ => none
theorem ok_sortU {w : World} : OpOk g oSortU (fun vs H Q => rSetL1 g.K w vs H fun x H1 => rSortedSet w [x] H1 Q) := fun ds d e vs H Fz fp Q vw k => by
  unfold oSortU at e
  split at e
  · split at e
    · rename_i ns en
      split at e
      · rename_i hz
        cases e
        obtain ⟨v, f, rfl, hr, _⟩ := vw1 vw
        obtain ⟨a, us, f', rfl, ha, hq, _⟩ := rep_lstA hr
        rw [intsOf_eq en] at hq
        rw [reps_ints hq] at ha
        refine ⟨a, ns, rfl, .inl (.inl ha), hz, fun q c hq2 hc => ⟨q, _, c, rfl, upd_same, by omega, fun ms p h1 h2 _ hp => ?_⟩⟩
        rw [show ms = sortU ns from uniq_asc h1 sortU_asc fun k => by rw [h2 k, sortU_mem]; simp]
        have x1 : Ext H Fz [] (upd H q (SetO w q (fun j => decide (j ∈ ns)) c)) Fz [] := (new_ext hq2).shrink (by simp)
        have n := new_lstD hp (ints_reps (g := g) (Fz := Fz) (bs := sortU ns))
        exact k _ _ [p] (x1.trans n.1) (List.nodup_cons.mpr ⟨by simp, List.nodup_nil⟩) n.2
      · cases e
    · cases e
  · cases e
theorem e_sortSet {y : Str} {p2 pos2 : Pos} (hK : X.K = g.K) (hc : X.calm = true) (hg : Gl X x) (hm : X.mg x = none) (hv : bootBuiltins x = some (.builtin "sorted")) (hg2 : Gl X y) (hm2 : X.mg y = none) (hv2 : bootBuiltins y = some (.type "set")) (ha : PE X a ta) (ht : OpdT g os [ta])
    (hn : x ≠ "__name__" := by decide) (hdb : (x == ("__debug__" : Str)) = false := by decide) (hn2 : y ≠ "__name__" := by decide) (hdb2 : (y == ("__debug__" : Str)) = false := by decide)
    (he1 : starEach [.Call (.Name y p2) [a] [] pos2] X.env = (false, eval (.Call (.Name y p2) [a] [] pos2) X.env) :: starEach [] X.env := by rfl) (he2 : starEach [a] X.env = (false, eval a X.env) :: starEach [] X.env := by rfl)
    (hpl : (backTo pos (starEach [] X.env)).any (·.1) = false := by rfl) (hpl2 : (backTo pos2 (starEach [] X.env)).any (·.1) = false := by rfl) :
    PE X (.Call (.Name x p) [.Call (.Name y p2) [a] [] pos2] [] pos) (tE g (dOp oSortU os)) :=
  e_op (r := fun vs H Q => rSetL1 X.K X.w vs H fun x H1 => rSortedSet X.w [x] H1 Q) (pe_callB (cr_sortedSet hc) hg hm hv (pa_cons (pe_callTy (cr_setL hc) hg2 hm2 hv2 (pa_cons ha pa_nil he2) hn2 hdb2 he2 hpl2) pa_nil he1) hn hdb he1 hpl) ht (fun σ H Q q => q) (hK ▸ ok_sortU)

/-! ### len of an own thing -/
section
variable {CX : CXT} {j n k : Nat} {f C : Addr} {fd : FuncData} {ps : List Str} {F : List D → Option (D × List D)} {E : XK} {sp : Sp}
theorem run_fnIn {pins : List (Addr × Obj)} {σ : L2.St} {H : Hp} {s : Shared} {Q : VK} {us : List Value} {vs : List V} (FO : FnOk X.prog X.w X.K X.mg X.base CX j f fd ps sp) (hr : Room (j + 1) X.A) (hb : Binds X.K fd ps []) (hx : Passes CX X E)
    (I : Inv X pins σ H s) (r : Vals vs us) (h : sp vs H Q E) : wpAny (model X.prog X.w) X.A.in1 (call (.ref f) us) (EP X pins σ Q) X.xe s := by
  have hl : us.length = ps.length := by rw [← r.length]; exact FO.len _ _ _ _ h
  have hb' := hb s us I.kIn (by rw [List.append_nil]; exact hl)
  rw [List.append_nil] at hb'
  refine wpAny_call (codeAny_mono (FO.run X.A.in1 X.stack s H ⟨us, []⟩ us vs Q E hr.in1 I.env0.in1 hb' r h) fun r s' hq => ?_)
  match r, hq with
  | .error e, hq => exact hx pins σ H s e s' I hq
  | .ok (.ret u), hq => exact I.after hq
def rLenO (C : Addr) (sp : Sp) (E : XK) : List V → Hp → VK → Prop := fun vs H Q => ∃ (a dx : Addr) (fs : List (Str × V)), vs = [.ref a] ∧ H a = some (.ins C dx fs) ∧ sp [.ref a] H (fun v H' => ∃ n : Int, v = .int n ∧ 0 ≤ n ∧ n < 2 ^ 63 ∧ Q (.int n) H') E
theorem cr_lenO (FO : FnOk X.prog X.w X.K X.mg X.base CX j f fd ps sp) (hr : Room (j + 1) X.A) (hb : Binds X.K fd ps []) (hx : Passes CX X E) (hm : Meth X.K C "__len__" f) : CallR X (.builtin "len") (rLenO C sp E) := by
  intro pins s σ H vs us Q I r h
  obtain ⟨a, dx, fs, rfl, ha, q⟩ := h
  obtain ⟨u, rfl, ru⟩ := vals1 r
  obtain rfl : u = Value.ref a := ru
  obtain ⟨mA, O, _⟩ := ins_get I.hok ha
  obtain ⟨od, J, _⟩ := O.look
  refine Calls.call_function_entry kind_len plain_len entry_len (args_len1 _) ?_
  unfold Builtin.«len»
  refine wpAny_bind (m := oneArg "len" _) (wpAny_pure ?_)
  refine wpAny_bind (m := callSpecial? (.ref a) (Str.ofString "__len__")) (PySem.W.special_fn I.kIn J hm.at_ (beq_iff_eq.mp hm.fn) (wpAny_mono (run_fnIn FO hr hb hx I (.cons (show RelV (V.ref a) (Value.ref a) from rfl) .nil) q) (fun u s1 hu => ?_) fun _ _ y => y))
  obtain ⟨v, H', I1, rv, n, ev, h0, h1, q1⟩ := hu
  subst ev
  obtain ⟨t, rfl⟩ := rv
  refine wpAny_bind (wpAny_holding (wpAny_pure ?_))
  refine wpAny_bind (wpAny_letGo ?_)
  show wpAny _ _ (if n < 0 then _ else _) _ _ _
  rw [if_neg (by omega)]
  show wpAny _ _ (if n ≥ 2 ^ 63 then _ else _) _ _ _
  rw [if_neg (by omega)]
  exact wpAny_bind (wpAny_mkInt (wpAny_pure ⟨_, rfl, .int n, H', I1.tok _, ⟨_, rfl⟩, q1⟩))
def dLenO (F : List D → Option (D × List D)) (c0 mn : Nat) (oo : Opd) : M := fun ρ => match evOps [oo] ρ with
  | some (ds, ρ1) => match lendD [oo] ds ρ1 with
    | some ([d0], _) => if isC c0 mn d0 = true then (match dCallEnd F [oo] [] ds ρ1 with
      | some (.int n, ρ2) => if 0 ≤ n ∧ n < 2 ^ 63 then some (.int n, ρ2) else none
      | _ => none) else none
    | _ => none
  | none => none
theorem e_lenO {c0 mn : Nat} {oo : Opd} (FO : FnOk X.prog X.w X.K X.mg X.base CX j f fd ps (spF g 1 k F)) (hkk : ∀ ds d post, F ds = some (d, post) → post.length = k) (hkn : k ≤ 1) (hr : Room (j + 1) X.A) (hb : Binds X.K fd ps []) (hx : Passes CX X E) (hm : Meth X.K (g.ca c0) "__len__" f)
    (hg : Gl X x) (hmg : X.mg x = none) (hv : bootBuiltins x = some (.builtin "len")) (ha : PE X a ta) (ht : OpdT g [oo] [ta]) (hn : x ≠ "__name__" := by decide) (hdb : (x == ("__debug__" : Str)) = false := by decide)
    (he : starEach [a] X.env = (false, eval a X.env) :: starEach [] X.env := by rfl) (hpl : (backTo pos (starEach [] X.env)).any (·.1) = false := by rfl) : PE X (.Call (.Name x p) [a] [] pos) (tE g (dLenO F c0 mn oo)) :=
  pe_imp (pe_callB (cr_lenO FO hr hb hx hm) hg hmg hv (pa_cons ha pa_nil he) hn hdb he hpl) fun σ H Q ⟨Fz, ρ, fp, d, ρ', hs, ev, q⟩ => by
    unfold dLenO at ev
    split at ev
    · rename_i ds ρ1 e1
      split at ev
      · rename_i d0 ρL e2
        split at ev
        · rename_i hc
          split at ev
          · rename_i n ρ2 e3
            split at ev
            · rename_i hn2
              cases ev
              refine ops_ok2 [oo] [ta] ht hs e1 fun vs H' Fz' fp' x r hl src => ?_
              have hlo : [oo].length = vs.length := by rw [← evOps_len e1, hl]
              obtain ⟨fp2, r2, hl2, _⟩ := lend_ok [oo] r e2 hlo src
              match vs, hl2 with
              | [v], _ =>
                obtain ⟨f1, fp3, _, ⟨w, ew, hw⟩, _, _⟩ := SRel.frame1 (x := some d0) (y := some v) (ρ := ρL) (σ := σ) r2
                cases ew
                obtain ⟨aa, dx, fs, rfl, haa, _⟩ := isC_ok hc hw
                refine ⟨aa, dx, fs, rfl, haa, ?_⟩
                refine call_end (vs := [.ref aa]) (dvs := []) hkk (fun _ _ => reps_nil') (by simp) (by simpa using hkn) r e3 hlo src fun v2 H2 Fz2 fp4 x2 r4 => ?_
                obtain ⟨f5, fp5, _, ⟨w5, ew5, hw5⟩, _, _⟩ := r4.frame1
                cases ew5
                have e5 := rep_int' hw5
                subst e5
                exact ⟨n, rfl, hn2.1, hn2.2, q _ H2 Fz2 fp4 (x.trans x2) r4⟩
            · cases ev
          · cases ev
        · cases ev
      · cases ev
    · cases ev
end
end
end Rm
set_option Elab.async false
set_option linter.all false
set_option maxRecDepth 100000
set_option maxHeartbeats 4000000
/-! Rm, R: starred targets; tests for []. -/
namespace Rm
open PySem L2

section
open PyProof.Rows
variable {P : Program} {w : World} {A : Around} {E : Value → Shared → Prop} {s : Shared}

theorem star_l {l : Addr} {vs : Array Value} {n i : Nat} {Q : List Value → Shared → Prop} (hl : Heap.IsList s.heap l vs) (hA : A.handled = none) (hi : i < n) (hn : n ≤ vs.size + 1) (hz : vs.size ≤ 16000)
    (h : ∀ (h2 : Heap) (t2 : Nat), (∀ b o, s.heap.get? b = some o → h2.get? b = some o) → Q (vs.toList.take i ++ [.ref h2.objs.size] ++ (vs.toList.drop i).drop (vs.size + 1 - n)) { s with heap := h2.push { cls := .type "list", data := .seq ((vs.toList.drop i).take (vs.size + 1 - n)).toArray }, toks := t2 }) :
    wpAny (model P w) A (unpackItems (.ref l) n (some i)) Q E s := by
  have lz : l < s.heap.objs.size := by
    obtain ⟨o, ho, _⟩ := hl
    exact Heap.lt_size ho
  have ne : l ≠ s.heap.objs.size := Nat.ne_of_lt lz
  unfold unpackItems
  refine wpAny_bind ?_
  unfold notIterableAtAll
  refine wpAny_bind (wpAny_specialOf hl.typeIs slot_list_iter.lookup (wpAny_pure ?_))
  simp only [Bool.false_eq_true, if_false]
  refine wpAny_bind (wpAny_holding (wpAny_pyIter_list hl ?_))
  refine wpAny_bind (wpAny_holding (PySem.W.kun_draw ne i 0 _ _ ⟨_, Heap.get?_push_size _ rfl, rfl, rfl⟩ (hl.push _) (by omega) fun h1 it1 sm => ?_))
  have l1 : Heap.IsList h1 l vs := (hl.push _).extBut sm.extBut ne
  rw [Nat.zero_add] at it1
  obtain ⟨oi, goi, _⟩ := id it1
  obtain ⟨ol, gol, _⟩ := id l1
  have lt : (vs.toList.take i).length = i := by
    rw [List.length_take, Array.length_toList]
    omega
  have ld : (vs.toList.drop i).length = vs.size - i := by rw [List.length_drop, Array.length_toList]
  rw [List.drop_zero, if_neg (by rw [lt]; omega)]
  refine wpAny_bind (wpAny_holding (PySem.W.kun_collect (s := { s with heap := h1 }) (T := "list_iterator") (.inr (.inr (.inl rfl))) (Walks.list (A := A.in1) hA s.heap.objs.size l ne vs) (fun j u st => st.1.typeIs) (k := i) (by omega) ⟨it1, l1⟩ (Heap.lt_size goi) (Heap.lt_size gol) (fun h2 t2 kp => ?_) (by rw [sizeLine_eq]; omega)))
  have em : (vs.toList.drop i).length - (n - 1 - i) = vs.size + 1 - n := by omega
  show wpAny _ _ (if (vs.toList.drop i).length < n - 1 - i then _ else _) _ _ _
  rw [if_neg (by omega)]
  show wpAny _ _ (newList ((vs.toList.drop i).take ((vs.toList.drop i).length - (n - 1 - i))) >>= _) _ _ _
  have fin := h h2 t2 fun b o e => kp b o (Nat.ne_of_lt (Heap.lt_size e)) (sm.extBut b o (Nat.ne_of_lt (Heap.lt_size e)) (Heap.get?_push_of_some _ e))
  rw [← em] at fin
  exact wpAny_bind (wpAny_newList (s := { s with heap := h2, toks := t2 }) (wpAny_pure fin) (by rw [List.length_take, sizeLine_eq]; omega))

theorem star_t {l : Addr} {vs : Array Value} {n i : Nat} {Q : List Value → Shared → Prop} (hl : IsTup s.heap l vs) (hA : A.handled = none) (hi : i < n) (hn : n ≤ vs.size + 1) (hz : vs.size ≤ 16000)
    (h : ∀ (h2 : Heap) (t2 : Nat), (∀ b o, s.heap.get? b = some o → h2.get? b = some o) → Q (vs.toList.take i ++ [.ref h2.objs.size] ++ (vs.toList.drop i).drop (vs.size + 1 - n)) { s with heap := h2.push { cls := .type "list", data := .seq ((vs.toList.drop i).take (vs.size + 1 - n)).toArray }, toks := t2 }) :
    wpAny (model P w) A (unpackItems (.ref l) n (some i)) Q E s := by
  have lz : l < s.heap.objs.size := by
    obtain ⟨o, ho, _⟩ := hl
    exact Heap.lt_size ho
  have ne : l ≠ s.heap.objs.size := Nat.ne_of_lt lz
  unfold unpackItems
  refine wpAny_bind ?_
  unfold notIterableAtAll
  refine wpAny_bind (wpAny_specialOf hl.typeIs slot_tuple_iter.lookup (wpAny_pure ?_))
  simp only [Bool.false_eq_true, if_false]
  refine wpAny_bind (wpAny_holding (iter_tuple hl ?_))
  refine wpAny_bind (wpAny_holding (draw_tuple ne i 0 _ _ ⟨_, Heap.get?_push_size _ rfl, rfl, rfl⟩ (hl.push _) (by omega) fun h1 it1 sm => ?_))
  have l1 : IsTup h1 l vs := (hl.push _).extBut sm.extBut ne
  rw [Nat.zero_add] at it1
  obtain ⟨oi, goi, _⟩ := id it1
  obtain ⟨ol, gol, _⟩ := id l1
  have lt : (vs.toList.take i).length = i := by
    rw [List.length_take, Array.length_toList]
    omega
  have ld : (vs.toList.drop i).length = vs.size - i := by rw [List.length_drop, Array.length_toList]
  rw [List.drop_zero, if_neg (by rw [lt]; omega)]
  refine wpAny_bind (wpAny_holding (PySem.W.kun_collect (s := { s with heap := h1 }) (T := "tuple_iterator") (.inr (.inr (.inr rfl))) (Walks.tuple (A := A.in1) hA s.heap.objs.size l ne vs) (fun j u st => st.1.typeIs) (k := i) (by omega) ⟨it1, l1⟩ (Heap.lt_size goi) (Heap.lt_size gol) (fun h2 t2 kp => ?_) (by rw [sizeLine_eq]; omega)))
  have em : (vs.toList.drop i).length - (n - 1 - i) = vs.size + 1 - n := by omega
  show wpAny _ _ (if (vs.toList.drop i).length < n - 1 - i then _ else _) _ _ _
  rw [if_neg (by omega)]
  show wpAny _ _ (newList ((vs.toList.drop i).take ((vs.toList.drop i).length - (n - 1 - i))) >>= _) _ _ _
  have fin := h h2 t2 fun b o e => kp b o (Nat.ne_of_lt (Heap.lt_size e)) (sm.extBut b o (Nat.ne_of_lt (Heap.lt_size e)) (Heap.get?_push_of_some _ e))
  rw [← em] at fin
  exact wpAny_bind (wpAny_newList (s := { s with heap := h2, toks := t2 }) (wpAny_pure fin) (by rw [List.length_take, sizeLine_eq]; omega))
end
section
variable {g : G} {W : Nat → Bool} {H H1 H2 H' : Hp} {Fz Fz1 Fz2 Fz' : Addr → Prop} {fp fp1 fp2 fp' : List Addr} {ρ ρ' : Env} {σ σ1 σ' : L2.St}
variable {X : Cx} {x : Str} {p pos : Pos} {a b c : Expr} {o e : Expr} {es : List Expr} {os : List Opd} {ts : List TE} {ta tb tc : TE}
def gStar (K : PySem.W.Frag) (n i : Nat) (t : TGs) : TG := fun v σ H Q => ∃ a xs, v = .ref a ∧ (SqL K H a xs ∨ SqT K H a xs) ∧ n ≤ xs.length + 1 ∧ xs.length ≤ 16000 ∧ ∀ q, H q = none →
  t (xs.take i ++ [.ref q] ++ (xs.drop i).drop (xs.length + 1 - n)) σ (upd H q (.lst ((xs.drop i).take (xs.length + 1 - n)))) Q
theorem pg_star {k n i : Nat} {t : TGs} (hc : X.calm = true) (h : PGs X es t) (hi : i < n) (hn : (assignEach es X.env).length = n) (hst : (assignEach es X.env).findIdx? (·.1) = some i) : PG X (.Tuple es k pos) (gStar X.K n i t) := by
  refine ⟨fun pins s σ H v u Q I r hw => ?_⟩
  obtain ⟨a, xs, rfl, hq, hn2, hz, hw⟩ := hw
  cases r
  rw [PyProof.Rows.assign_Tuple]
  refine wpAny_bind (wpAny_standAt ?_)
  unfold unpack
  rw [hn, hst]
  refine wpAny_bind (wpAny_holding ?_)
  have fin : ∀ (its : List Value), Vals xs its → ∀ (h2 : Heap) (t2 : Nat), (∀ b o, s.heap.get? b = some o → h2.get? b = some o) →
      wpAny (model X.prog X.w) X.A (assignInOrder ((assignEach es X.env).map (·.2)) (its.toArray.toList.take i ++ [.ref h2.objs.size] ++ (its.toArray.toList.drop i).drop (its.toArray.size + 1 - n))) (fun _ s' => ∃ σ' H', Inv X pins σ' H' s' ∧ Q σ' H') X.xe
        { s with heap := h2.push { cls := .type "list", data := .seq ((its.toArray.toList.drop i).take (its.toArray.size + 1 - n)).toArray }, toks := t2 } := fun its rv h2 t2 kp => by
    have I2 : Inv X pins σ H { s with heap := h2, toks := t2 } := I.kept kp
    have hlen := rv.length
    have rm : Vals ((xs.drop i).take (xs.length + 1 - n)) ((its.drop i).take (xs.length + 1 - n)) := (rv.drop i).take _
    have I3 := I2.lnew (t' := t2) rm (by rw [List.length_take, List.length_drop, sizeLine_eq]; omega)
    have e1 : its.toArray.size = xs.length := by rw [List.size_toArray, hlen]
    rw [e1]
    have e2 : its.toArray.toList = its := by simp
    rw [e2]
    refine h.run pins _ σ _ _ _ Q I3 ?_ (hw _ I2.fresh)
    exact ((rv.take i).append (.cons (show RelV (.ref h2.objs.size) (.ref h2.objs.size) from rfl) .nil)).append ((rv.drop i).drop _)
  rcases hq with hq | hq
  · obtain ⟨its, rv, hl, _⟩ := I.list hq
    have hlen := rv.length
    exact star_l hl.isList (I.ok.hd hc) hi (by rw [List.size_toArray]; omega) (by rw [List.size_toArray]; omega) (fin its rv)
  · obtain ⟨its, rv, hl, _⟩ := I.tuple hq
    have hlen := rv.length
    exact star_t hl (I.ok.hd hc) hi (by rw [List.size_toArray]; omega) (by rw [List.size_toArray]; omega) (fin its rv)
def seqNo : D → Option (List D)
  | .lst _ xs => if noOwns xs = true then some xs else none
  | .tup xs => if noOwns xs = true then some xs else none
  | _ => none
def gStr (n i : Nat) (m : MGs) : MG := fun d ρ => match seqNo d with
  | some xs => if n ≤ xs.length + 1 ∧ xs.length ≤ 16000 then m (xs.take i ++ [.lst true ((xs.drop i).take (xs.length + 1 - n))] ++ (xs.drop i).drop (xs.length + 1 - n)) ρ else none
  | none => none
theorem seqNo_ok {d : D} {xs : List D} {v : V} {f : List Addr} (e : seqNo d = some xs) (h : Rep g H Fz d v f) : ∃ a vs, v = .ref a ∧ (SqL g.K H a vs ∨ SqT g.K H a vs) ∧ Reps g H Fz xs vs [] := by
  unfold seqNo at e
  split at e
  · split at e
    · rename_i hn
      cases e
      obtain ⟨a, vs, rfl, ha, hr⟩ := rep_lst' hn h
      exact ⟨a, vs, rfl, .inl (.inl (.inl ha)), hr⟩
    · cases e
  · split at e
    · rename_i hn
      cases e
      obtain ⟨a, vs, rfl, ha, hr⟩ := rep_tup' hn h
      exact ⟨a, vs, rfl, .inr ha, hr⟩
    · cases e
  · cases e
theorem g_star {k n i : Nat} {m : MGs} (hK : X.K = g.K) (hc : X.calm = true) (h : PGs X es (tGs g W m)) (hi : i < n) (hn : (assignEach es X.env).length = n) (hst : (assignEach es X.env).findIdx? (·.1) = some i) : PG X (.Tuple es k pos) (tG g W (gStr n i m)) :=
  pg_imp (pg_star hc h hi hn hst) fun v σ H Q ⟨Fz, hs, us, ρ, fp, d, ρ', hl, r, e, k⟩ => by
    unfold gStr at e
    split at e
    · rename_i xs ex
      split at e
      · rename_i hz
        obtain ⟨f1, fp1, ef, ⟨v0, ev, hd⟩, r1, _⟩ := r.frame1
        cases ev
        obtain ⟨a, vs, rfl, hq, hr⟩ := seqNo_ok ex hd
        have hlv := reps_len hr
        refine ⟨a, vs, rfl, hK ▸ hq, by rw [← hlv]; exact hz.1, by rw [← hlv]; exact hz.2, fun q hq2 => ?_⟩
        rw [← hlv]
        have n1 := new_lstD hq2 (reps_take (xs.length + 1 - n) (reps_drop i hr))
        obtain ⟨r2, x2⟩ := r1.fresh n1.1 (List.nodup_cons.mpr ⟨by simp, List.nodup_nil⟩) n1.2
        have hr2 := reps_ext0 (n1.1.shrink (fp2 := []) (by simp)) hr
        refine ⟨Fz, hs, us, ρ, [q] ++ fp1, _, ρ', ?_, hl, ?_, e, fun σ' H2 Fz2 fp2 x3 r3 ag => k σ' H2 Fz2 fp2 ((Ext.refl fun a ha => by rw [ef]; exact List.mem_append_right _ ha).trans (x2.trans x3)) r3 ag⟩
        · simp [hlv]
        · have q1 := seq_somes (reps_take i hr2)
          have q2 := seq_somes (reps_drop (xs.length + 1 - n) (reps_drop i hr2))
          refine ⟨?_, r2.nd, r2.dj, r2.th⟩
          rw [List.map_append, List.map_append, List.map_append, List.map_append, List.append_assoc, List.append_assoc, List.append_assoc, List.append_assoc]
          obtain ⟨w0, ws, g1, g2, e1, e2, h1, h2⟩ := r2.reps
          injection e1 with e3 e4
          subst e3 e4
          rw [e2]
          exact Seq3.append (f := []) q1 (Seq3.append (f := g1) (Seq3.cons h1 Seq3.nil |> fun z => by rwa [List.append_nil] at z) (Seq3.append (f := []) q2 h2))
      · cases e
    · cases e
/-! ### what stands at a place, against [] -/
def dNil (neg : Bool) (r : Env → Option (Nat × List Stp)) : M := fun ρ => match r ρ with
  | some (i, p) => match getR ρ i p with
    | some (.lst _ xs) => match toPs xs with
      | some ps => if SeqAt.shaped (.list ps) = true ∧ SeqAt.shaped (.list []) = true then some (.bl (if neg then !PyData.eqv (.list ps) (.list []) else PyData.eqv (.list ps) (.list [])), ρ) else none
      | none => none
    | _ => none
  | none => none
theorem e_neNil {r : Env → Option (Nat × List Stp)} {pos2 : Pos} (hK : X.K = g.K) (hu : X.A.units + 64 < cLine) (ha : Pth g X a r) (hm : behindInMarks .NotEq (.List [] pos2) = false) : PE X (.Compare a [.NotEq] [.List [] pos2] pos) (tE g (dNil true r)) := by
  obtain ⟨ta, ha, ka⟩ := ha
  refine pe_imp (pe_cmpR (op_neD hu) ha (pe_lst pa_nil) hm) fun σ H Q ⟨Fz, ρ, fp, d, ρ', hs, e, k⟩ => ?_
  unfold dNil at e
  split at e
  · rename_i i p e1
    split at e
    · rename_i oo xs ec
      split at e
      · rename_i ps ep
        split at e
        · rename_i hsh
          cases e
          refine ka σ H _ Fz ρ fp i p _ hs e1 ec fun u H1 f1 f2 f3 x1 fc => ⟨Nat.zero_le _, fun q hq => ?_⟩
          have x2 : Ext H1 Fz [] (upd H1 q (.lst [])) Fz [] := (new_ext hq).shrink (by simp)
          obtain ⟨hs1, xx1⟩ := hs.ext0 x1
          obtain ⟨hs2, xx2⟩ := hs1.ext0 x2
          have fc2 := fc.ext0 x2
          refine ⟨.list ps, .list [], ?_, ?_, hsh.1, hsh.2, k _ _ Fz fp (xx1.trans xx2) (hs2.push (rep_bl _))⟩
          · rw [hK]
            exact toP_ok _ _ _ _ (by unfold toP; rw [ep]) fc2.rep
          · exact .lst (.inl (.inl upd_same)) .nil
        · cases e
      · cases e
    · cases e
  · cases e
end
end Rm
set_option Elab.async false
set_option linter.all false
set_option maxRecDepth 100000
set_option maxHeartbeats 4000000
/-! Rm, T: what the printed derivations lean on. -/
namespace Rm
open PySem L2

section
variable {g : G} {W : Nat → Bool} {H H1 H2 H' : Hp} {Fz Fz1 Fz2 Fz' : Addr → Prop} {fp fp1 fp2 fp' : List Addr} {ρ ρ' : Env} {σ σ1 σ' : L2.St}
variable {X : Cx} {x : Str} {p pos : Pos} {a b c : Expr} {o e : Expr} {es : List Expr} {os : List Opd} {ts : List TE} {ta tb tc : TE}
theorem rel_int {i : Int} {t : Tok} : RelV (.int i) (.int i t) := ⟨t, rfl⟩
theorem od_n : OpdT g [] [] := rfl
theorem od_v {i : Nat} (h : OpdT g os ts) : OpdT g (.v i :: os) (tVar i :: ts) := ⟨_, rfl, h⟩
theorem od_e {m : M} (h : OpdT g os ts) : OpdT g (.e m :: os) (tE g m :: ts) := ⟨_, _, rfl, fun _ _ _ z => z, h⟩
theorem pgs_consS {tg : Expr} {tgs : List Expr} {sp : Pos} {t : TG} {u : TGs} (h1 : PG X tg t) (h2 : PGs X tgs u) (hs : (assignEach (.Starred tg sp :: tgs) X.env).map (·.2) = assign tg X.env :: (assignEach tgs X.env).map (·.2)) : PGs X (.Starred tg sp :: tgs) (gCons t u) := by
  refine ⟨fun pins s σ H vs us Q I r hw => ?_⟩
  obtain ⟨v, vr, rfl, hw⟩ := hw
  cases r with
  | cons r rr =>
    rw [hs]
    exact PyProof.Rows.assignInOrder_cons (thn (h1.run pins s σ H _ _ _ I r hw) fun _ s1 ⟨σ1, H1, I1, q1⟩ => h2.run pins s1 σ1 H1 _ _ Q I1 rr q1)
theorem g_consS {tg : Expr} {tgs : List Expr} {sp : Pos} {m1 : MG} {m2 : MGs} (h1 : PG X tg (tG g W m1)) (h2 : PGs X tgs (tGs g W m2)) (hs : (assignEach (.Starred tg sp :: tgs) X.env).map (·.2) = assign tg X.env :: (assignEach tgs X.env).map (·.2)) : PGs X (.Starred tg sp :: tgs) (tGs g W (gsCons m1 m2)) :=
  pgs_imp (pgs_consS h1 h2 hs) fun vs σ H Q ⟨Fz, hs, us, ρ, fp, ds, ρ', hl0, hl, r, e, k⟩ => by
    unfold gsCons at e
    split at e
    · cases e
    · rename_i d ds'
      split at e
      · cases e
      · rename_i ρ1 e1
        cases vs with
        | nil => cases hl0
        | cons v vs' =>
          have hl1 : ds'.length = vs'.length := Nat.succ.inj hl0
          refine ⟨v, vs', rfl, Fz, ds'.map some ++ hs, vs'.map some ++ us, ρ, fp, d, ρ1, ?_, ?_, e1, fun σ' H' Fz' fp' x r' ag => ?_⟩
          · simp only [List.length_append, List.length_map, hl1, hl]
          · rw [List.append_assoc, List.append_assoc]; exact r
          · rw [List.append_assoc, List.append_assoc] at r'
            exact ⟨Fz', hs, us, ρ1, fp', ds', ρ', hl1, hl, r', e, fun σ2 H2 Fz2 fp2 x2 r2 ag2 => k σ2 H2 Fz2 fp2 (x.trans x2) r2 (ag.trans ag2)⟩
def dYes : MT := fun ρ => some (true, ρ)
theorem ts_nil : PTs X [] (tT g dYes) := ⟨fun pins s σ H Q I ⟨Fz, ρ, fp, b, ρ', hs, e, k⟩ => by
  cases e
  exact pts_nil.run pins s σ H Q I (k H Fz fp Ext.rfl' hs)⟩
theorem ts_one {m : MT} (h : PT X c (tT g m)) : PTs X [c] (tT g m) := pts_one h
def qNeg (q : Env → Option D) : Env → Option D := fun ρ => match q ρ with
  | some (.int i) => some (.int (-i))
  | _ => none
theorem sm_neg {q : Env → Option D} (h : Sim g X a q) : Sim g X (.UnaryOp .USub a pos) (qNeg q) := by
  obtain ⟨t, h, k⟩ := h
  refine ⟨_, pe_un un_neg h, fun σ H Q Fz ρ fp d hs e kq => ?_⟩
  unfold qNeg at e
  split at e
  · rename_i i ei
    cases e
    refine k σ H _ Fz ρ fp _ hs ei fun v H' x hr => ?_
    rw [rep_int' hr]
    exact ⟨i, rfl, kq _ H' x (rep_int _)⟩
  · cases e
/-- comparisons that are rules of their own -/
theorem e_pc {op : CmpOp} {t : TE} {m : M} (h : PC X op a b t) (k : ∀ σ H Q, tE g m σ H Q → t σ H Q) (hm : behindInMarks op b = false) : PE X (.Compare a [op] [b] pos) (tE g m) := pe_imp (pe_cmp h hm) k
theorem t_pc {op : CmpOp} {t : TE} {m : M} (h : PC X op a b t) (k : ∀ σ H Q, tE g m σ H Q → t σ H Q) (hm : behindInMarks op b = false) : PT X (.Compare a [op] [b] pos) (tT g (dT m)) := pt_imp (pt_cmp h hm) fun σ H Q q => k σ H _ (tT_of q)
theorem inT_ok {ti to : TE} {q : Env → Option (List Key)} {r : Env → Option (Nat × List Stp)} (ki : ∀ σ H Q Fz ρ fp ks, SRel g Fz ρ σ H fp → q ρ = some ks → (∀ bb H', Ext H Fz [] H' Fz [] → H' bb = some (.tup (ks.map kV)) → Q (.ref bb) H') → ti σ H Q)
    (ko : ∀ σ H Q Fz ρ fp i p c, SRel g Fz ρ σ H fp → r ρ = some (i, p) → getR ρ i p = some c → (∀ u H' f1 f2 f3, Ext H Fz [] H' Fz [] → Foc g Fz ρ σ H' fp i p c u f1 f2 f3 → Q u H') → to σ H Q) :
    ∀ σ H Q, tE g (dInT false q r) σ H Q → tDIn ti to σ H Q := fun σ H Q ⟨Fz, ρ, fp, d, ρ', hs, e, k⟩ => by
  unfold dInT at e
  split at e
  · rename_i ks i p e1 e2
    split at e
    · rename_i oo kk xs ec
      cases e
      refine ki σ H _ Fz ρ fp ks hs e1 fun bb H1 x1 hb => ?_
      obtain ⟨hs1, xx1⟩ := hs.ext0 x1
      refine ko σ H1 _ Fz ρ fp i p _ hs1 e2 ec fun u H2 f1 f2 f3 x2 fc => ?_
      obtain ⟨hs2, xx2⟩ := hs1.ext0 x2
      obtain ⟨aa, vs, rfl, ha, hl⟩ := rep_dct fc.rep
      refine ⟨aa, _, rfl, DGet.t ha (x2.keep bb _ hb (by simp)), ?_⟩
      rw [valV_some hl]
      exact k _ H2 Fz fp (xx1.trans xx2) (hs2.push (rep_bl _))
    · cases e
  · cases e
theorem t_inT {q : Env → Option (List Key)} {r : Env → Option (Nat × List Stp)} (hu : X.A.units + 1 < cLine) (hi : SimK g X a q) (ho : Pth g X b r) (hm : behindInMarks .In b = false) : PT X (.Compare a [.In] [b] pos) (tT g (dT (dInT false q r))) := by
  obtain ⟨ti, hi, ki⟩ := hi
  obtain ⟨to, ho, ko⟩ := ho
  exact t_pc (pc_din hu hi ho) (inT_ok ki ko) hm
theorem t_neNil {r : Env → Option (Nat × List Stp)} {pos2 : Pos} (hK : X.K = g.K) (hu : X.A.units + 64 < cLine) (ha : Pth g X a r) (hm : behindInMarks .NotEq (.List [] pos2) = false) : PT X (.Compare a [.NotEq] [.List [] pos2] pos) (tT g (dT (dNil true r))) := by
  obtain ⟨ta, ha, ka⟩ := ha
  refine pt_imp (pt_cmpR (op_neD hu) ha (pe_lst pa_nil) hm) fun σ H Q q => ?_
  obtain ⟨Fz, ρ, fp, d, ρ', hs, e, k⟩ := tT_of q
  unfold dNil at e
  split at e
  · rename_i i p e1
    split at e
    · rename_i oo xs ec
      split at e
      · rename_i ps ep
        split at e
        · rename_i hsh
          cases e
          refine ka σ H _ Fz ρ fp i p _ hs e1 ec fun u H1 f1 f2 f3 x1 fc => ⟨Nat.zero_le _, fun q hq => ?_⟩
          have x2 : Ext H1 Fz [] (upd H1 q (.lst [])) Fz [] := (new_ext hq).shrink (by simp)
          obtain ⟨hs1, xx1⟩ := hs.ext0 x1
          obtain ⟨hs2, xx2⟩ := hs1.ext0 x2
          have fc2 := fc.ext0 x2
          refine ⟨.list ps, .list [], ?_, ?_, hsh.1, hsh.2, k _ _ Fz fp (xx1.trans xx2) (hs2.push (rep_bl _))⟩
          · rw [hK]
            exact toP_ok _ _ _ _ (by unfold toP; rw [ep]) fc2.rep
          · exact .lst (.inl (.inl upd_same)) .nil
        · cases e
      · cases e
    · cases e
  · cases e
/-- a, b = x, y: two names, stored from the right -/
def dPar (i j : Nat) (m1 m2 : M) : MS := fun ρ => match evOps [.e m1, .e m2] ρ with
  | some ([d1, d2], ρ1) => if i < ρ1.length ∧ j < ρ1.length then some (.nx ((ρ1.set i (some d1)).set j (some d2))) else none
  | _ => none
theorem s_par {i j : Nat} {x y : Str} {px py pt pos : Pos} {kt k2 pt2} {m1 m2 : M} (hc : X.calm = true) (hN : X.N.Nodup) (hi : X.N[i]? = some x) (hj : X.N[j]? = some y) (hij : i ≠ j) (hwi : W i = true) (hwj : W j = true)
    (hx : X.env.scope.names.lookup x = some .local) (hy : X.env.scope.names.lookup y = some .local) (ha : PE X a (tE g m1)) (hb : PE X b (tE g m2)) (hs1 : starEach [a, b] X.env = (false, eval a X.env) :: starEach [b] X.env) (hs2 : starEach [b] X.env = (false, eval b X.env) :: starEach [] X.env)
    (hw : swappedStores [.Tuple [.Name x px, .Name y py] kt pt] (.Tuple [a, b] k2 pt2) X.env = pure (some [x, y]))
    (hs : swapsWithSole [.Tuple [.Name x px, .Name y py] kt pt] (.Tuple [a, b] k2 pt2) pos.line X.env = pure false) :
    PS X (.Assign [.Tuple [.Name x px, .Name y py] kt pt] (.Tuple [a, b] k2 pt2) pos) (tS g W (dPar i j m1 m2)) :=
  ps_imp (ps_par hc hN hi hj hij hx hy (pa_cons ha (pa_cons hb pa_nil hs2) hs1) hw hs) fun E σ H ⟨Fz, ρ, fp, oo, hs, e, k⟩ => by
    unfold dPar at e
    split at e
    · rename_i d1 d2 ρ1 e1
      split at e
      · rename_i hl
        cases e
        refine ops_ok [.e m1, .e m2] [tE g m1, tE g m2] ⟨_, _, rfl, fun _ _ _ z => z, _, _, rfl, fun _ _ _ z => z, rfl⟩ hs e1 fun vs H' Fz' fp' x r hl2 vw => ?_
        obtain ⟨v, w, f, f2, rfl, _⟩ := vw2 vw
        have r : SRel g Fz' (some d1 :: some d2 :: ρ1) (some v :: some w :: σ) H' fp' := r
        obtain ⟨fp2, r2, h2⟩ := r.put (i := i + 1) (by simp; omega)
        have r2 : SRel g Fz' (some d2 :: ρ1.set i (some d1)) (some w :: σ.set i (some v)) H' fp2 := r2
        obtain ⟨fp3, r3, h3⟩ := r2.put (i := j) (by simp; omega)
        exact ⟨v, w, rfl, k _ H' Fz' fp3 (x.shrink fun a ha => h2 a (h3 a ha)) r3 ((Agree.set hwi).trans (Agree.set hwj))⟩
      · cases e
    · cases e
/-! ### list(range(n)), tuple(range(n)) -/
def dRg (l : Bool) (oo : Opd) : M := dOp (fun ds => match ds with
  | [.int n] => if -(2 ^ 62) ≤ n ∧ n ≤ 100000 then some (if l then .lst true (rangeD 0 n.toNat) else .tup (rangeD 0 n.toNat)) else none
  | _ => none) [oo]
theorem rg_reps (n : Int) : Reps g H Fz (rangeD 0 n.toNat) (rgV 0 n) [] := by
  have e1 : rangeD 0 n.toNat = ((List.range n.toNat).map fun (i : Nat) => (0 : Int) + (i : Int)).map D.int := by unfold rangeD; rw [List.map_map]; rfl
  have e2 : rgV 0 n = ((List.range n.toNat).map fun (i : Nat) => (0 : Int) + (i : Int)).map V.int := by unfold rgV; rw [List.map_map, Int.sub_zero]; rfl
  rw [e1, e2]
  exact ints_reps
theorem e_rgL {p2 pos2 : Pos} {oo : Opd} (hc : X.calm = true) (hg : Gl X "list") (hm : X.mg "list" = none) (hg2 : Gl X "range") (hm2 : X.mg "range" = none) (ha : PE X a ta) (ht : OpdT g [oo] [ta]) (na : starEach [a] X.env = (false, eval a X.env) :: starEach [] X.env := by rfl)
    (nb : starEach [.Call (.Name "range" p2) [a] [] pos2] X.env = (false, eval (.Call (.Name "range" p2) [a] [] pos2) X.env) :: starEach [] X.env := by rfl) : PE X (.Call (.Name "list" p) [.Call (.Name "range" p2) [a] [] pos2] [] pos) (tE g (dRg true oo)) :=
  e_op (r := fun vs H Q => match vs with
    | [x] => ∃ n, x = .int n ∧ RgOk 0 n ∧ ∀ q, H q = none → Q (.ref q) (upd H q (.lst (rgV 0 n)))
    | _ => False) (pe_listRg hc hg hm (prg_1 hg2 hm2 ha na) nb) ht (fun σ H Q q => q) fun ds d e vs H Fz fp Q vw k => by
      split at e
      · rename_i n
        split at e
        · rename_i hz
          cases e
          obtain ⟨v, f, rfl, hr, _⟩ := vw1 vw
          exact ⟨n, rep_int' hr, ⟨by omega, by omega, by omega, by omega, by omega⟩, fun q hq => k_lst hq (rg_reps n) k⟩
        · cases e
      · cases e
theorem e_rgT {p2 pos2 : Pos} {oo : Opd} (hc : X.calm = true) (hg : Gl X "tuple") (hm : X.mg "tuple" = none) (hg2 : Gl X "range") (hm2 : X.mg "range" = none) (ha : PE X a ta) (ht : OpdT g [oo] [ta]) (na : starEach [a] X.env = (false, eval a X.env) :: starEach [] X.env := by rfl)
    (nb : starEach [.Call (.Name "range" p2) [a] [] pos2] X.env = (false, eval (.Call (.Name "range" p2) [a] [] pos2) X.env) :: starEach [] X.env := by rfl) : PE X (.Call (.Name "tuple" p) [.Call (.Name "range" p2) [a] [] pos2] [] pos) (tE g (dRg false oo)) :=
  e_op (r := fun vs H Q => match vs with
    | [x] => ∃ n, x = .int n ∧ RgOk 0 n ∧ ∀ q, H q = none → Q (.ref q) (upd H q (.tup (rgV 0 n)))
    | _ => False) (pe_tupRg hc hg hm (prg_1 hg2 hm2 ha na) nb) ht (fun σ H Q q => q) fun ds d e vs H Fz fp Q vw k => by
      split at e
      · rename_i n
        split at e
        · rename_i hz
          cases e
          obtain ⟨v, f, rfl, hr, _⟩ := vw1 vw
          exact ⟨n, rep_int' hr, ⟨by omega, by omega, by omega, by omega, by omega⟩, fun q hq => k_tup hq (rg_reps n) k⟩
        · cases e
      · cases e
theorem comp_lst {i : MI} {vs : List Nat} {ag : MG} {cc : MT} {m : M} {d : D} (h : dComp i vs ag cc m ρ = some (d, ρ')) : ∃ oo xs, d = .lst oo xs := by
  unfold dComp at h
  split at h
  · cases h
  · split at h
    · split at h
      · cases h
      · cases h; exact ⟨_, _, rfl⟩
    · cases h
end
/-! ### names of attributes, by number -/
def longStr (n : Nat) : Str := ⟨Array.replicate n 120⟩
def nmOf (tbl : List Str) (n : Nat) : Str := match tbl[n]? with
  | some s => s
  | none => longStr (n + 1000)
theorem nmOf_inj (tbl : List Str) (h1 : tbl.Nodup) (h2 : ∀ s ∈ tbl, s.length < 1000) (a b : Nat) (e : nmOf tbl a = nmOf tbl b) : a = b := by
  have ll : ∀ n, (longStr n).length = n := fun n => by simp [longStr, Str.length]
  unfold nmOf at e
  split at e
  · rename_i s es
    split at e
    · rename_i t et
      subst e
      obtain ⟨ha, ea⟩ := List.getElem?_eq_some_iff.mp es
      obtain ⟨hb, eb⟩ := List.getElem?_eq_some_iff.mp et
      have h1 : tbl.Pairwise (· ≠ ·) := h1
      have pw := List.pairwise_iff_getElem.mp h1
      rcases Nat.lt_trichotomy a b with z | z | z
      · exact absurd (ea.trans eb.symm) (pw a b ha hb z)
      · exact z
      · exact absurd (eb.trans ea.symm) (pw b a hb ha z)
    · have := h2 s (List.mem_of_getElem? es)
      rw [e, ll] at this
      omega
  · split at e
    · rename_i t et
      have := h2 t (List.mem_of_getElem? et)
      rw [← e, ll] at this
      omega
    · have := congrArg Str.length e
      rw [ll, ll] at this
      omega
/-! ### a def's promise, with what a call wants -/
structure OkF (g : G) (P : Program) (w : World) (K : PySem.W.Frag) (mg : Str → Option Value) (base : Heap) (lvl : Nat) (fa : Addr) (ps : List Str) (k : Nat) (F : List D → Option (D × List D)) : Prop where
  ex : ∃ fd, FnOk P w K mg base CX0 lvl fa fd ps (spF g ps.length k F) ∧ Binds K fd ps []
  kp : PySem.W.keepIn K (.ref fa) = true
theorem binds_all {K : PySem.W.Frag} {x qual : Str} {params : Arguments} {body : List Stmt} {scope : Scope} {dvs : List V} {kws : List (Str × V)} {f : Addr} {fd : FuncData} {ps : List Str} (F : FunD K x qual params body scope dvs kws f fd)
    (h : ∀ (dV kV doc pm : Value) (an : Option Addr) (cdv ct : Value) (us : List Value), us.length = ps.length → bindArgs (PySem.W.fnOf x qual params body scope dV kV doc pm an cdv ct) ⟨us, []⟩ = pure (ps.zip us)) : Binds K fd ps [] := by
  obtain ⟨oc, od, dV, kV, doc, pm, an, cdv, ct, osl, rfl, _⟩ := F.ex
  exact Binds.all fun us hl => h dV kV doc pm an cdv ct us hl
end Rm
set_option Elab.async false
set_option linter.all false
set_option maxRecDepth 100000
set_option maxHeartbeats 4000000
/-! Rm, V: xs[::-1] of a list or of a tuple. -/
namespace Rm
open PySem PySem.Spec PyProof.Rows L2 HT
section
variable {prog : Program} {w : World} {A : Around} {E : Value → Shared → Prop} {s : Shared}
theorem places_rev (n : Nat) : Builtin.Slice.slicePlaces ((n : Int) - 1) (-1) (-1) = n := by
  unfold Builtin.Slice.slicePlaces
  have h1 : ¬ ((-1 : Int) > 0) := by decide
  simp only [h1, if_false]
  by_cases h : (n : Int) - 1 > -1
  · rw [if_pos h, show (- -1 : Int) = 1 by decide, Int.ediv_one]
    omega
  · rw [if_neg h]
    omega
theorem sliceApplied_rev {sl : Addr} {vl vu vs : Value} {n : Nat} {Q : Int × Int × Nat → Shared → Prop} (hs : s.heap.IsSliceOf sl vl vu vs) (pl : IsPart vl none) (pu : IsPart vu none) (ps : IsPart vs (some (-1)))
    (h : Q ((n : Int) - 1, -1, n) s) : wpAny (model prog w) A (Builtin.Slice.sliceApplied (.ref sl) (pure (n : Int))) Q E s := by
  obtain ⟨os, hos, hcs, hds⟩ := id hs
  unfold Builtin.Slice.sliceApplied Builtin.Slice.sliceFields
  refine wpAny_bind (wpAny_bind (wpAny_field hos hds (x := vl) rfl (wpAny_bind (wpAny_field hos hds (x := vu) rfl (wpAny_bind (wpAny_field hos hds (x := vs) rfl (wpAny_pure ?_)))))))
  refine wpAny_bind (slicePart_ ps ?_)
  show wpAny _ _ (if ((-1 : Int) == 0) = true then _ else _) _ _ s
  rw [if_neg (by decide)]
  refine wpAny_bind (slicePart_ pl (wpAny_bind (slicePart_ pu (wpAny_bind (wpAny_pure ?_)))))
  show wpAny _ _ (match Builtin.Slice.sliceAdjust none none (-1) (n : Int) with | (lo, hi) => pure (lo, (-1 : Int), Builtin.Slice.slicePlaces lo hi (-1))) _ _ s
  rw [show Builtin.Slice.sliceAdjust none none (-1) (n : Int) = ((n : Int) - 1, -1) from rfl]
  show wpAny _ _ (pure ((n : Int) - 1, (-1 : Int), Builtin.Slice.slicePlaces ((n : Int) - 1) (-1) (-1))) _ _ s
  rw [places_rev]
  exact wpAny_pure h
theorem fm_congr {α β : Type} {f f' : α → Option β} : ∀ {l : List α}, (∀ x ∈ l, f x = f' x) → l.filterMap f = l.filterMap f'
  | [], _ => rfl
  | x :: l, h => by rw [List.filterMap_cons, List.filterMap_cons, h x List.mem_cons_self, fm_congr fun y hy => h y (List.mem_cons_of_mem _ hy)]
theorem pick_rev (xs : Array Value) : ((List.range xs.size).filterMap fun (m : Nat) => xs[((xs.size : Int) - 1 + (m : Int) * (-1)).toNat]?).toArray = xs.toList.reverse.toArray := by
  have e : ((List.range xs.size).filterMap fun (m : Nat) => xs[((xs.size : Int) - 1 + (m : Int) * (-1)).toNat]?) = ((List.range xs.size).map fun k => xs.size - 1 - k).filterMap (xs[·]?) := by
    rw [List.filterMap_map]
    refine fm_congr fun m hm => ?_
    have := List.mem_range.mp hm
    show xs[((xs.size : Int) - 1 + (m : Int) * (-1)).toNat]? = xs[xs.size - 1 - m]?
    rw [show ((xs.size : Int) - 1 + (m : Int) * (-1)).toNat = xs.size - 1 - m by omega]
  rw [e, PySem.W.krv_range, List.filterMap_reverse, PySem.W.krv_all]
theorem getItem_tuple_rev {t sl : Addr} {items : Array Value} {vl vu vs : Value} {Q : Value → Shared → Prop} (ht : IsTup s.heap t items) (hs : s.heap.IsSliceOf sl vl vu vs) (pl : IsPart vl none) (pu : IsPart vu none) (ps : IsPart vs (some (-1)))
    (h : Q (.ref s.heap.objs.size) { s with heap := s.heap.push { cls := .type "tuple", data := .seq items.toList.reverse.toArray } })
    (hsz : items.size ≤ sizeLine) : wpAny (model prog w) A (getItem (.ref t) (.ref sl)) Q E s := by
  have htake : sizeOk (.seq items.toList.reverse.toArray) := by
    show items.toList.reverse.toArray.size ≤ sizeLine
    rw [List.size_toArray, List.length_reverse, Array.length_toList]
    exact hsz
  obtain ⟨os, hos, hcs, hds⟩ := id hs
  have hTs : s.TypeIs (.ref sl) "slice" := ⟨os, hos, hcs⟩
  unfold getItem
  try with_reducible refine wpAny_holding ?_
  first | refine wpAny_bind (wpAny_pure ?_) | skip
  refine wpAny_bind (wpAny_sequenceKey ht.typeIs (by decide) ?_)
  refine wpAny_bind (wpAny_callSpecial?_slot (name := Str.ofString "__getitem__") ht.typeIs PyProof.Rows.slot_tuple_getitem
    (wpAny_call_entry PyProof.Rows.slot_tuple_getitem ht.typeIs entry_tuple_getitem ?_ (args_tuple_getitem _ _)))
  show wpAny _ _ (Builtin.Tuple.tupleItemsOf (.ref t) >>= _) _ _ s
  refine wpAny_bind (tupleItemsOf_ ht ?_)
  refine wpAny_bind (wpAny_typeOf hTs ?_)
  rw [if_pos (by decide)]
  refine wpAny_bind (sliceApplied_rev hs pl pu ps ?_)
  have hno : ¬ ((((items.size : Int) - 1) == 0 && (-1 : Int) == 1 && items.size == items.size) = true) := by
    intro q
    rw [Bool.and_eq_true, Bool.and_eq_true] at q
    exact absurd q.1.2 (by decide)
  show wpAny _ _ (if (((items.size : Int) - 1) == 0 && (-1 : Int) == 1 && items.size == items.size) = true then _ else _) _ _ s
  rw [if_neg hno, pick_rev]
  first
    | exact wpAny_bind (m := Builtin.Tuple.tupleExact _) (wpAny_newObj_type (wpAny_pure ⟨_, rfl, wpAny_pure h⟩) htake)
    | exact wpAny_bind (m := Builtin.Tuple.tupleExact _) (wpAny_newObj_type (wpAny_bind (wpAny_pure (wpAny_pure ⟨_, rfl, wpAny_pure h⟩))) htake)
    | exact wpAny_bind (wpAny_bind (m := Builtin.Tuple.tupleExact _) (wpAny_newObj_type (wpAny_pure (wpAny_pure ⟨_, rfl, wpAny_pure h⟩)) htake))
    | exact wpAny_bind (wpAny_bind (m := Builtin.Tuple.tupleExact _) (wpAny_newObj_type (wpAny_pure ⟨_, rfl, wpAny_pure h⟩) htake))
end
section
variable {g : G} {H H1 : Hp} {Fz : Addr → Prop} {X : Cx} {e a : Expr} {os : List Opd} {p1 p2 p3 pos : Pos} {te ta : TE}
def tRevB (K : PySem.W.Frag) (te : TE) : TE := fun σ H Q => te σ H fun x H1 => (∃ a xs, x = .ref a ∧ SqL K H1 a xs ∧ ∀ p, H1 p = none → Q (.ref p) (upd H1 p (.lst xs.reverse))) ∨ (∃ a xs, x = .ref a ∧ SqT K H1 a xs ∧ ∀ p, H1 p = none → Q (.ref p) (upd H1 p (.tup xs.reverse)))
theorem pe_revB {k : Nat} (he : PE X e te) : PE X (.Subscript e (.Slice none none (some (.UnaryOp .USub (.Constant (.int 1) k p1) p2)) p3) pos) (tRevB X.K te) := by
  refine ⟨fun pins s σ H Q I h => ?_⟩
  refine Subscript_ (thn (he.run pins s σ H _ I h) fun v s1 ⟨x, H1, I1, r1, q1⟩ => ?_)
  have hst : PO X (some (.UnaryOp .USub (.Constant (.int 1) k p1) p2)) (tPart (tUn (rU fun i => .int (-i)) (tC (.int 1)))) := po_some (pe_un un_neg pe_int)
  refine wpAny_Slice (thn (po_none.run pins s1 σ H1 (fun o H2 => o = none ∧ H2 = H1) I1 ⟨rfl, rfl⟩) fun vl s2 ⟨l, H2, I2, pl, el, e2⟩ => ?_)
  subst el e2
  refine thn (po_none.run pins s2 σ H2 (fun o H3 => o = none ∧ H3 = H2) I2 ⟨rfl, rfl⟩) fun vu s3 ⟨u, H3, I3, pu, eu, e3⟩ => ?_
  subst eu e3
  refine thn (hst.run pins s3 σ H3 (fun o H4 => o = some (-1) ∧ H4 = H3) I3 ⟨1, rfl, -1, rfl, rfl, rfl⟩) fun vs s4 ⟨o, H4, I4, ps, eo, e4⟩ => ?_
  subst eo e4
  have I5 : Inv X pins σ H4 { s4 with heap := s4.heap.push { cls := .type "slice", data := .fields #[vl, vu, vs] } } := I4.kept (t' := s4.toks) fun b ob q => Heap.get?_push_of_some _ q
  rcases q1 with ⟨a, xs, ex, hx, q⟩ | ⟨a, xs, ex, hx, q⟩
  · subst ex
    cases r1
    obtain ⟨its, r, ht, hz⟩ := I5.list hx
    have hlen := r.length
    show wpAny (model X.prog X.w) X.A (subscriptTail e (.Slice none none (some (.UnaryOp .USub (.Constant (.int 1) k p1) p2)) p3) (.ref a) (.ref s4.heap.objs.size)) (EP X pins σ Q) X.xe { s4 with heap := s4.heap.push { cls := .type "slice", data := .fields #[vl, vu, vs] } }
    refine tail_any (ops := [.ref a, .ref s4.heap.objs.size]) ht.isList.typeIs (PySem.slot_list_getitem.lookup) ?_ (by with_unfolding_all rfl)
    refine wpAny_getItem_list_slice ht.isList (Heap.IsSliceOf.new _ vl vu vs) pl pu ps (by decide) ?_ (by rw [List.size_toArray]; omega)
    rw [PySem.W.krv_pick]
    refine ⟨.ref _, _, I5.laid (t' := s4.toks) (o := .lst xs.reverse) (fun b ob q => Heap.get?_push_of_some _ q) (Nat.le_refl _) ?_, rfl, q _ (I5.hok.fresh (Nat.le_refl _))⟩
    exact ⟨by rw [List.length_reverse]; exact hz, _, 0, r.reverse, Heap.get?_push_size _ rfl⟩
  · subst ex
    cases r1
    obtain ⟨its, r, ht, hz⟩ := I5.tuple hx
    have hlen := r.length
    show wpAny (model X.prog X.w) X.A (subscriptTail e (.Slice none none (some (.UnaryOp .USub (.Constant (.int 1) k p1) p2)) p3) (.ref a) (.ref s4.heap.objs.size)) (EP X pins σ Q) X.xe { s4 with heap := s4.heap.push { cls := .type "slice", data := .fields #[vl, vu, vs] } }
    refine tail_any (ops := [.ref a, .ref s4.heap.objs.size]) ht.typeIs PyProof.Rows.slot_tuple_getitem.lookup ?_ (by with_unfolding_all rfl)
    refine getItem_tuple_rev ht (Heap.IsSliceOf.new _ vl vu vs) pl pu ps ?_ (by rw [List.size_toArray]; omega)
    refine ⟨.ref _, _, I5.laid (t' := s4.toks) (o := .tup xs.reverse) (fun b ob q => Heap.get?_push_of_some _ q) (Nat.le_refl _) ?_, rfl, q _ (I5.hok.fresh (Nat.le_refl _))⟩
    exact ⟨by rw [List.length_reverse]; exact hz, _, r.reverse, IsTup.new _ _⟩
def oRevB : List D → Option D := fun ds => match ds with
  | [.lst _ xs] => if noOwns xs = true then some (.lst true xs.reverse) else none
  | [.tup xs] => if noOwns xs = true then some (.tup xs.reverse) else none
  | _ => none
theorem e_revB {k : Nat} (hK : X.K = g.K) (ha : PE X a ta) (ht : OpdT g os [ta]) : PE X (.Subscript a (.Slice none none (some (.UnaryOp .USub (.Constant (.int 1) k p1) p2)) p3) pos) (tE g (dOp oRevB os)) :=
  e_op (r := fun vs H Q => match vs with
    | [x] => (∃ a xs, x = .ref a ∧ SqL X.K H a xs ∧ ∀ p, H p = none → Q (.ref p) (upd H p (.lst xs.reverse))) ∨ (∃ a xs, x = .ref a ∧ SqT X.K H a xs ∧ ∀ p, H p = none → Q (.ref p) (upd H p (.tup xs.reverse)))
    | _ => False) (pe_revB ha) ht (fun σ H Q q => q) fun ds d e vs H Fz fp Q vw k => by
      unfold oRevB at e
      split at e
      · split at e
        · rename_i o xs hn
          cases e
          obtain ⟨v, f, rfl, hr, _⟩ := vw1 vw
          obtain ⟨p, us, rfl, hp, hq⟩ := rep_lst' hn hr
          exact .inl ⟨p, us, rfl, .inl (.inl hp), fun q hq' => k_lst hq' (reps_rev hq) k⟩
        · cases e
      · split at e
        · rename_i xs hn
          cases e
          obtain ⟨v, f, rfl, hr, _⟩ := vw1 vw
          obtain ⟨p, us, rfl, hp, hq⟩ := rep_tup' hn hr
          exact .inr ⟨p, us, rfl, hK ▸ hp, fun q hq' => k_tup hq' (reps_rev hq) k⟩
        · cases e
      · cases e
end
end Rm
set_option Elab.async false
set_option linter.all false
set_option maxRecDepth 100000
set_option maxHeartbeats 4000000
/-! Rm, W: a set comprehension of two clauses whose items are ints, sorted. -/
namespace Rm
open PySem PySem.Spec PyProof.Rows L2 PpSet
section
variable {prog : Program} {w : World} {A : Around} {R : Result → Shared → Prop} {s : Shared} {u t0 i0 t1 i1 : Expr} {f0 f1 : List Expr} {scope : Scope} {pos : Pos} {it acc : Value} {env : Env}
/-- what a failing step tells -/
abbrev Nb (prog : Program) (w : World) (A : Around) (env : PySem.Env) (R : Result → Shared → Prop) : Value → Shared → Prop := notedBy (model prog w) A env fun e s' => R (.error e) s'
abbrev Sc2 (u t0 i0 t1 i1 : Expr) (f0 f1 : List Expr) (scope : Scope) (pos : Pos) : Expr := .SetComp u [⟨t0, i0, f0, 0⟩, ⟨t1, i1, f1, 0⟩] scope pos
/-- the tests of a clause -/
abbrev tests (fs : List Expr) (env : PySem.Env) : Sem Bool := forIn fs true fun c r => if r = true then do let ok ← isTrue c env (eval c env); pure (ForInStep.yield ok) else pure (ForInStep.yield r)
theorem sc2_turn0 (env : PySem.Env) : compTurn (Sc2 u t0 i0 t1 i1 f0 f1 scope pos) 0 it acc env = (do
      standAt i0.pos
      match ← pyNext it with
      | none => pure (.done .next)
      | some v =>
        letOwnedTupleGo t0 it v
        assign t0 env v
        let mut ok := true
        for c in f0 do
          if ok then ok ← isTrue c env (eval c env)
        if ok then
          let x ← eval i1 env
          standAt i1.pos
          let x ← foldedSetIterable i1 env x
          let _ ← runOwn (.compStart (Sc2 u t0 i0 t1 i1 f0 f1 scope pos) 1 (← holding [x] (pyIter x)) acc env) env
        again (.compLoop (Sc2 u t0 i0 t1 i1 f0 f1 scope pos) 0 it acc env)) := by rfl
theorem sc2_turn1 (env : PySem.Env) : compTurn (Sc2 u t0 i0 t1 i1 f0 f1 scope pos) 1 it acc env = (do
      standAt i1.pos
      match ← pyNext it with
      | none => pure (.done .next)
      | some v =>
        letOwnedTupleGo t1 it v
        assign t1 env v
        let mut ok := true
        for c in f1 do
          if ok then ok ← isTrue c env (eval c env)
        if ok then
          (do let v ← eval u env; standAt u.pos; let _ ← call (.builtin "set.add") [acc, v])
        again (.compLoop (Sc2 u t0 i0 t1 i1 f0 f1 scope pos) 1 it acc env)) := by rfl
/-- the first clause's turns, by a measure -/
theorem sc2_loop0 {env : PySem.Env} (hs : ∀ x, foldedSetIterable i1 env x = pure x) (I : Nat → Shared → Prop)
    (turn : ∀ n s, I n s → wpAny (model prog w) A (pyNext it) (fun r a => match r with
      | none => R (.ok .next) a
      | some v => wpAny (model prog w) A (letOwnedTupleGo t0 it v) (fun _ b => wpAny (model prog w) A (assign t0 env v) (fun _ c => wpAny (model prog w) A (tests f0 env) (fun ok d =>
          if ok = true then wpAny (model prog w) A (eval i1 env) (fun x e => wpAny (model prog w) A (pyIter x) (fun j f =>
            codeAny (model prog w) A (.compStart (Sc2 u t0 i0 t1 i1 f0 f1 scope pos) 1 j acc env) (fun r z => match r with
              | .ok _ => ∃ m, m < n ∧ I m z
              | .error _ => False) f) (Nb prog w A env R) e) (Nb prog w A env R) d
          else ∃ m, m < n ∧ I m d) (Nb prog w A env R) c) (Nb prog w A env R) b) (Nb prog w A env R) a) (Nb prog w A env R) s)
    (n : Nat) (h : I n s) : codeAny (model prog w) A (.compLoop (Sc2 u t0 i0 t1 i1 f0 f1 scope pos) 0 it acc env) R s := by
  refine codeAny_loop rfl I (fun n s hI => ?_) n h
  show wpAny _ A ((compTurn (Sc2 u t0 i0 t1 i1 f0 f1 scope pos) 0 it acc env).onRaise (fun x => do noteFrame x env; theTreesLotGoes x)) _ _ s
  refine wpAny_noted ?_
  rw [sc2_turn0]
  refine wpAny_bind (wpAny_standAt (wpAny_bind (wpAny_mono (turn n s hI) (fun r a ha => ?_) fun _ _ z => z)))
  cases r with
  | none => exact wpAny_pure ha
  | some v =>
    refine wpAny_bind (wpAny_mono ha (fun _ b hb => ?_) fun _ _ z => z)
    refine wpAny_bind (wpAny_mono hb (fun _ c hc => wpAny_bind (wpAny_mono hc (fun ok d hd => ?_) fun _ _ z => z)) fun _ _ z => z)
    cases ok with
    | false => exact wpAny_pure ⟨rfl, hd⟩
    | true =>
      refine wpAny_bind (wpAny_mono hd (fun x e he => ?_) fun _ _ z => z)
      refine wpAny_bind (wpAny_standAt (wpAny_bind (wpAny_of_eq (hs x) (wpAny_bind (wpAny_holding (wpAny_mono he (fun j f hf => ?_) fun _ _ z => z))))))
      refine wpAny_bind (wpAny_runOwn ?_)
      rw [Around.mark_none]
      refine codeAny_mono hf fun r z hr => ?_
      cases r with
      | ok _ =>
        first
          | exact wpAny_pure ⟨rfl, hr⟩
          | exact wpAny_bind (wpAny_pure (wpAny_pure ⟨rfl, hr⟩))
      | error e => exact hr.elim
/-- the second's -/
theorem sc2_loop1 {env : PySem.Env} (I : Nat → Shared → Prop)
    (turn : ∀ n s, I n s → wpAny (model prog w) A (pyNext it) (fun r a => match r with
      | none => R (.ok .next) a
      | some v => wpAny (model prog w) A (letOwnedTupleGo t1 it v) (fun _ b => wpAny (model prog w) A (assign t1 env v) (fun _ c => wpAny (model prog w) A (tests f1 env) (fun ok d =>
          if ok = true then wpAny (model prog w) A (eval u env) (fun x e => wpAny (model prog w) A (call (.builtin "set.add") [acc, x]) (fun _ f => ∃ m, m < n ∧ I m f) (Nb prog w A env R) e) (Nb prog w A env R) d
          else ∃ m, m < n ∧ I m d) (Nb prog w A env R) c) (Nb prog w A env R) b) (Nb prog w A env R) a) (Nb prog w A env R) s)
    (n : Nat) (h : I n s) : codeAny (model prog w) A (.compLoop (Sc2 u t0 i0 t1 i1 f0 f1 scope pos) 1 it acc env) R s := by
  refine codeAny_loop rfl I (fun n s hI => ?_) n h
  show wpAny _ A ((compTurn (Sc2 u t0 i0 t1 i1 f0 f1 scope pos) 1 it acc env).onRaise (fun x => do noteFrame x env; theTreesLotGoes x)) _ _ s
  refine wpAny_noted ?_
  rw [sc2_turn1]
  refine wpAny_bind (wpAny_standAt (wpAny_bind (wpAny_mono (turn n s hI) (fun r a ha => ?_) fun _ _ z => z)))
  cases r with
  | none => exact wpAny_pure ha
  | some v =>
    refine wpAny_bind (wpAny_mono ha (fun _ b hb => ?_) fun _ _ z => z)
    refine wpAny_bind (wpAny_mono hb (fun _ c hc => wpAny_bind (wpAny_mono hc (fun ok d hd => ?_) fun _ _ z => z)) fun _ _ z => z)
    cases ok with
    | false => exact wpAny_pure ⟨rfl, hd⟩
    | true =>
      exact wpAny_bind (wpAny_bind (wpAny_mono hd (fun x e he => wpAny_bind (wpAny_standAt (wpAny_bind (wpAny_mono he (fun _ f hf => wpAny_pure (wpAny_pure ⟨rfl, hf⟩)) fun _ _ z => z)))) fun _ _ z => z))
theorem sc2_start1 {env : PySem.Env} (h0 : codeAny (model prog w) A (.compLoop (Sc2 u t0 i0 t1 i1 f0 f1 scope pos) 1 it acc env) R s)
    (h : wpAny (model prog w) A (pyIter it) (fun j z => codeAny (model prog w) A (.compLoop (Sc2 u t0 i0 t1 i1 f0 f1 scope pos) 1 j acc env) R z) (Nb prog w A env R) s) :
    codeAny (model prog w) A (.compStart (Sc2 u t0 i0 t1 i1 f0 f1 scope pos) 1 it acc env) R s := by
  refine codeAny_of_tree ?_
  show wpAny _ _ ((compStart (Sc2 u t0 i0 t1 i1 f0 f1 scope pos) 1 it acc env).onRaise (fun x => do noteFrame x env; standAt theWindowsPlace)) _ _ s
  refine wpAny_notedAt ?_
  unfold compStart
  show wpAny _ _ (ask >>= _) _ _ s
  refine wpAny_bind (wpAny_askSetting (wpAny_ite ?_))
  split
  · first
      | exact wpAny_bind (wpAny_pure (wpAny_pure (And.intro rfl h0)))
      | exact wpAny_pure (And.intro rfl h0)
  · first
      | exact wpAny_bind (wpAny_rule (wpAny_bind (wpAny_standAt (wpAny_bind (wpAny_mono h (fun j z hz => wpAny_pure (And.intro rfl hz)) fun _ _ x => x)))))
      | (refine wpAny_bind (wpAny_rule ?_); show wpAny _ _ (standAt i1.pos >>= _) _ _ s; exact wpAny_bind (wpAny_standAt (wpAny_bind (wpAny_mono h (fun j z hz => wpAny_pure (And.intro rfl hz)) fun _ _ x => x))))
end
section
variable {X : Cx}
/-- an int put into a tracked set -/
theorem setadd_ok {pins : List (Addr × Obj)} {σ : L2.St} {H : Hp} {s : Shared} {E : Value → Shared → Prop} {D : Addr} {S : Int → Bool} {n : Nat} {k : Int} {tk : Tok} {Q : Value → Shared → Prop} (I : Inv X pins σ H s) (hD : H D = some (SetO X.w D S n)) (room : n + 1 < scanBound)
    (h : ∀ s', Inv X pins σ (upd H D (SetO X.w D (fun j => S j || decide (j = k)) (if S k = true then n else n + 1))) s' → Q .none s') : wpAny (model X.prog X.w) X.A (call (.builtin "set.add") [.ref D, .int k tk]) Q E s := by
  refine setR_add (setO_get I hD) room fun h' sb new => h _ ?_
  obtain ⟨o, _, _, _, ho, _⟩ := id new
  exact I.write (e := D) (t' := s.toks + 1) (by rw [hD]; trivial) (.inl rfl) (fun b u hb hu => (sb.2 b hb).trans hu) ⟨o, ho⟩ (setO_new new)
/-- the reading: as that of a list's two clauses, a set of ints in the list's stead -/
def tSc2 (w : World) (wi : TI) (g : TG) (tt : TT) (wi1 : TI) (g1 : TG) (tt1 : TT) (te : TE) (vs vs1 : List Nat) : TE := fun σ H Q => wi σ H fun J H1 => ∀ D, H1 D = none → ∃ W : Nat → Nat → Hp → Prop, (∃ m, W 0 m (upd H1 D (SetO w D (fun _ => false) 0))) ∧ ∀ i m H, W i m H →
  (J.stop i H ∧ Q (.ref D) H) ∨ (J.go i H ∧ ∃ Nx : Hp → Prop, (∀ H', Nx H' → ∃ m', m' < m ∧ W (i + 1) m' H') ∧ ∀ x H', J.yld i H x H' → g x (wipe σ vs) H' fun σ2 H2 => wipe σ2 vs = wipe σ vs ∧ tt σ2 H2 fun b H3 =>
    if b = true then wi1 σ2 H3 fun J1 H4 => ∃ W1 : Nat → Nat → Hp → Prop, (∃ m, W1 0 m H4) ∧ ∀ j k H, W1 j k H →
      (J1.stop j H ∧ Nx H) ∨ (J1.go j H ∧ ∃ Nx1 : Hp → Prop, (∀ H', Nx1 H' → ∃ k', k' < k ∧ W1 (j + 1) k' H') ∧ ∀ x H', J1.yld j H x H' → g1 x (wipe σ2 vs1) H' fun σ3 H5 => wipe σ3 vs1 = wipe σ2 vs1 ∧ tt1 σ3 H5 fun b H6 =>
        if b = true then te σ3 H6 fun y H7 => ∃ (c : Int) (S : Int → Bool) (n : Nat), y = .int c ∧ H7 D = some (SetO w D S n) ∧ n + 1 < scanBound ∧ Nx1 (upd H7 D (SetO w D (fun j => S j || decide (j = c)) (if S c = true then n else n + 1))) else Nx1 H6)
    else Nx H3)
theorem pe_sc2 {u t0 i0 t1 i1 : Expr} {f0 f1 : List Expr} {scope : Scope} {own : List (Str × Nat)} {vs1 : List Nat} {pos : Pos} {wi wi1 : TI} {g g1 : TG} {tt tt1 : TT} {te : TE} (hc : X.calm = true) (hN : X.N.Nodup) (hi : PI X t0 i0 wi) (ok : BlkOk X.N X.env.scope scope own) (hv : ∀ i ∈ vs1, i ∈ own.map (·.2))
    (hg : ∀ (s : Shared) (H : Hp) (C : Addr) (cl : List (Str × Addr)) (fp : List Addr), PG (X.blk s H scope (compEnvC scope cl C X.env) fp) t0 g) (ht : ∀ (s : Shared) (H : Hp) (C : Addr) (cl : List (Str × Addr)) (fp : List Addr), PTs (X.blk s H scope (compEnvC scope cl C X.env) fp) f0 tt)
    (hi1 : ∀ (s : Shared) (H : Hp) (C : Addr) (cl : List (Str × Addr)) (fp : List Addr), PI (X.blk s H scope (compEnvC scope cl C X.env) fp) t1 i1 wi1)
    (hg1 : ∀ (s : Shared) (H : Hp) (C : Addr) (cl : List (Str × Addr)) (fp : List Addr), PG (X.blk s H scope (compEnvC scope cl C X.env) fp) t1 g1) (ht1 : ∀ (s : Shared) (H : Hp) (C : Addr) (cl : List (Str × Addr)) (fp : List Addr), PTs (X.blk s H scope (compEnvC scope cl C X.env) fp) f1 tt1)
    (he : ∀ (s : Shared) (H : Hp) (C : Addr) (cl : List (Str × Addr)) (fp : List Addr), PE (X.blk s H scope (compEnvC scope cl C X.env) fp) u te) (hs : ∀ x, foldedSetIterable i0 X.env x = pure x) (hs1 : ∀ env x, foldedSetIterable i1 env x = pure x) :
    PE X (Sc2 u t0 i0 t1 i1 f0 f1 scope pos) (tSc2 X.w wi g tt wi1 g1 tt1 te (own.map (·.2)) vs1) := by
  refine ⟨fun pins s σ H Q I h => ?_⟩
  rw [eval_SetComp]
  have hfree : ∀ y ∈ scope.names, y.2 = .free → ∃ c, X.env.cells.lookup y.1 = some c := fun y hy e => (ok.free y hy e).elim (fun k => I.ok.has _ (.inl k)) fun k => I.ok.has _ (.inr k)
  -- the first source, the new set, the block's scope
  refine wpAny_comprehension_free (use := none) rfl hs (closure_ok hfree) ok.kind (fun y hy e => by rw [ok.uniq y hy, e]) (thn (hi.run pins s σ H _ I h) fun xv s1 hx => thn hx fun itv s2 h2 => ?_)
  obtain ⟨it, fp, tn, J, Ha, e, Ia, T, sta, fa, q⟩ := h2
  subst e
  refine newSet_ok (newEnv_comp ?_)
  generalize hD : s2.heap.objs.size = D
  have hDn : Ha D = none := Ia.hok.fresh (Nat.le_of_eq hD)
  obtain ⟨W, ⟨m0, w0⟩, turn⟩ := q D hDn
  generalize hs3 : ({ s2 with heap := s2.heap.push { cls := .type "set", dict := none, data := .set #[] 0 (.fresh 0 0 (!X.w.params.followText "set-order")) } } : Shared) = s3
  have h3 : s3.heap = s2.heap.push { cls := .type "set", dict := none, data := .set #[] 0 (.fresh 0 0 (!X.w.params.followText "set-order")) } := by rw [← hs3]
  generalize hHb : upd Ha D (SetO X.w D (fun _ => false) 0) = Hb at w0
  have Ib : Inv X pins σ Hb s3 := by
    rw [← hHb, ← hs3]
    refine Ia.laid (t' := s2.toks) (fun b o e => Heap.get?_push_of_some _ e) (Nat.le_of_eq hD) ?_
    rw [← hD]
    exact setO_new (setR_fresh X.w)
  have fb : ∀ b ∈ fp, FpOk X pins Hb b ∧ b < s3.heap.objs.size := fun b hb => by
    obtain ⟨o, e, _⟩ := T.obj _ _ sta b hb
    have hlt := Heap.lt_size e
    refine ⟨⟨?_, (fa b hb).2⟩, by rw [h3, Heap.size_push]; exact Nat.lt_succ_of_lt hlt⟩
    rw [← hHb, upd_ne (by rw [← hD]; exact Nat.ne_of_lt hlt)]
    exact (fa b hb).1
  have nb : ∀ b ∈ fp, Hb b = none := fun b hb => (fb b hb).1.1
  have stb : tn 0 s3.heap := T.keep _ _ _ sta fun b _ o e => by rw [h3]; exact Heap.get?_push_of_some _ e
  have Ic := block_start Ib ok hN fb
  generalize hcl : cellsFrom (s3.heap.objs.size + 1) scope.names (cloFrom X.env.cells scope.names []) = cl at Ic
  have pg := hg s3 Hb s3.heap.objs.size cl fp
  have pt := ht s3 Hb s3.heap.objs.size cl fp
  have pe := he s3 Hb s3.heap.objs.size cl fp
  have pi1 := hi1 s3 Hb s3.heap.objs.size cl fp
  have pg1 := hg1 s3 Hb s3.heap.objs.size cl fp
  have pt1 := ht1 s3 Hb s3.heap.objs.size cl fp
  show codeAny _ _ (.compStart (Sc2 u t0 i0 t1 i1 f0 f1 scope pos) 0 (.ref it) (.ref D) (compEnvC scope cl s3.heap.objs.size X.env)) (compPost (model X.prog X.w) X.A X.xe none (EP X pins σ Q) (.ref D) s3.heap.objs.size) { s3 with heap := pushCells (s3.heap.push { cls := .type "dict", data := .dict #[] }) scope.names }
  generalize hce : compEnvC scope cl s3.heap.objs.size X.env = ce at Ic pg pt pe pi1 pg1 pt1 ⊢
  have cL : ce.locals = s3.heap.objs.size := by rw [← hce]; rfl
  generalize hsc : ({ s3 with heap := pushCells (s3.heap.push { cls := .type "dict", data := .dict #[] }) scope.names } : Shared) = sc at Ic ⊢
  generalize hRR : compPost (model X.prog X.w) X.A X.xe none (EP X pins σ Q) (.ref D) s3.heap.objs.size = RR
  have stc : tn 0 sc.heap := T.keep _ _ _ stb fun b _ o e => by rw [← hsc]; exact pushCells_keeps _ _ _ _ (Heap.get?_push_of_some _ e)
  generalize hY : X.blk s3 Hb scope ce fp = Y at Ic pg pt pe pi1 pg1 pt1
  have yA : Y.A = X.A := by rw [← hY]
  have yP : Y.prog = X.prog := by rw [← hY]
  have yw : Y.w = X.w := by rw [← hY]
  have still : ∀ {σ' : L2.St} {H' : Hp} {s' : Shared}, Inv Y [] σ' H' s' → (∀ b ∈ fp, H' b = none) → ∀ b ∈ fp, FpOk Y [] H' b := by
    subst hY
    exact fun {σ' H' s'} I' hn b hb => ⟨hn b hb, (I'.ok.exf b hb).1, I'.ok.exfs b hb, .inl hb, fun x c e => (I'.ok.exf b hb).2 x c e, fun p hp => absurd (show p ∈ ([] : List (Addr × Obj)) ++ [] from hp) (by simp)⟩
  have out : codeAny (model X.prog X.w) X.A (.compLoop (Sc2 u t0 i0 t1 i1 f0 f1 scope pos) 0 (.ref it) (.ref D) ce) RR sc := by
    subst hY
    refine sc2_loop0 (hs1 ce) (fun n s' => ∃ i H', Inv (X.blk s3 Hb scope ce fp) [] (wipe σ (own.map (·.2))) H' s' ∧ tn i s'.heap ∧ (∀ b ∈ fp, H' b = none) ∧ W i n H') ?_ m0 ⟨0, Hb, Ic, stc, nb, w0⟩
    rintro n s5 ⟨i, H5, I5, st5, n5, w5⟩
    rcases turn i n H5 w5 with ⟨stop, qq⟩ | ⟨go, Nx, hNx, step⟩
    · refine thnF (T.done (X.blk s3 Hb scope ce fp) rfl rfl rfl hc i [] s5 _ H5 (fun _ _ => False) I5 (still I5 n5) st5 stop) fun r s6 ⟨hr, I6⟩ => ?_
      subst hr
      have I7 : Inv X pins σ H5 s6 := Ib.call' (ch := fp) I6.os I6.base I6.hok I6.bare fun b hb => ⟨(fb b hb).1.2.2.2.1, (fb b hb).1.2.1, (fb b hb).1.2.2.2.2.1, (fb b hb).1.2.2.2.2.2⟩
      have nC : H5 s3.heap.objs.size = none := cL ▸ (show H5 ce.locals = none from I6.free)
      obtain ⟨m, hn, _⟩ := I6.loc
      have hn : s6.heap.Ns s3.heap.objs.size m := cL ▸ (show s6.heap.Ns ce.locals m from hn)
      obtain ⟨g0, g1, g2, g3, g4, g5⟩ := Ib.fpOk (Nat.le_refl _) nC
      rw [← hRR]
      exact ⟨m, hn, fun h'' sb => ⟨.ref D, H5, I7.turned (t' := s6.toks) (fun b o hb e => (sb.2 b hb).trans e) g0 g1 g3 g4 g5, rfl, qq⟩⟩
    · refine thnF (T.item (X.blk s3 Hb scope ce fp) rfl rfl rfl hc i [] s5 _ H5 (fun _ _ => False) I5 (still I5 n5) st5 go) fun r s6 ⟨uv, hr, h6⟩ => ?_
      subst hr
      refine thnF h6 fun _ s7 ⟨x, H7, I7, r7, y7, st7, n7⟩ => ?_
      refine thnF (pg.run _ s7 _ H7 x uv _ (I7.pinned (still I7 n7) (T.obj _ _ st7)) r7 (step x H7 y7)) fun _ s8 ⟨σ8, H8, I8, hw8, q8⟩ => ?_
      refine thnF (pt.run _ s8 σ8 H8 _ I8 q8) fun b s9 ⟨H9, I9, q9⟩ => ?_
      have fin : ∀ {σ9 : L2.St} {s' : Shared} {H' : Hp}, Inv (X.blk s3 Hb scope ce fp) ([] ++ pinsAt fp s7.heap) σ9 H' s' → (wipe σ (own.map (·.2))).length = σ9.length → (∀ (j : Nat) v, (wipe σ (own.map (·.2)))[j]? = some (some v) → σ9[j]? = some (some v)) → Nx H' →
          ∃ m, m < n ∧ ∃ i H', Inv (X.blk s3 Hb scope ce fp) [] (wipe σ (own.map (·.2))) H' s' ∧ tn i s'.heap ∧ (∀ b ∈ fp, H' b = none) ∧ W i m H' := fun {σ9 s' H'} I' hl hk nx => by
        obtain ⟨m', hm, w'⟩ := hNx H' nx
        have pin' : ∀ b ∈ fp, ∀ o, s7.heap.get? b = some o → s'.heap.get? b = some o ∧ H' b = none := fun b hb o e =>
          have z := I'.pin (b, o) (List.mem_append_right _ (List.mem_append_right _ (mem_pinsAt hb e)))
          ⟨z.1, z.2.1⟩
        exact ⟨m', hm, i + 1, H', (I'.unpinned (pins := [])).weak hl hk, T.keep _ _ _ st7 fun b hb o e => (pin' b hb o e).1, fun b hb => (T.obj _ _ st7 b hb).elim fun o e => (pin' b hb o e.1).2, w'⟩
      have hl8 : (wipe σ (own.map (·.2))).length = σ8.length := by rw [← hw8, wipe_length]
      have hk8 : ∀ (j : Nat) v, (wipe σ (own.map (·.2)))[j]? = some (some v) → σ8[j]? = some (some v) := fun j v e => by
        rw [← hw8] at e
        exact (wipe_some e).1
      have hk9 : ∀ (j : Nat) v, (wipe σ (own.map (·.2)))[j]? = some (some v) → (wipe σ8 vs1)[j]? = some (some v) := fun j v e => by
        rw [← hw8] at e
        obtain ⟨e1, e2⟩ := wipe_some e
        rw [wipe_out fun z => e2 (hv j z)]
        exact e1
      cases b with
      | false =>
        simp only [Bool.false_eq_true, if_false] at q9 ⊢
        exact fin I9 hl8 hk8 q9
      | true =>
        simp only [if_true] at q9 ⊢
        refine thnF (pi1.run _ s9 σ8 H9 _ I9 q9) fun xv s10 hx => thnF hx fun itv s11 h11 => ?_
        obtain ⟨it1, fp1, tn1, J1, Hd, e1, Id, T1, std, fd, W1, ⟨m1, w1⟩, turn1⟩ := h11
        subst e1
        have still1 : ∀ {H' : Hp}, (∀ b ∈ fp1, H' b = none) → ∀ b ∈ fp1, FpOk (X.blk s3 Hb scope ce fp) ([] ++ pinsAt fp s7.heap) H' b := fun hn b hb => ⟨hn b hb, (fd b hb).2⟩
        have inn : codeAny (model X.prog X.w) X.A (.compLoop (Sc2 u t0 i0 t1 i1 f0 f1 scope pos) 1 (.ref it1) (.ref D) ce) (fun r s' => match r with
              | .ok _ => ∃ m, m < n ∧ ∃ i H', Inv (X.blk s3 Hb scope ce fp) [] (wipe σ (own.map (·.2))) H' s' ∧ tn i s'.heap ∧ (∀ b ∈ fp, H' b = none) ∧ W i m H'
              | .error _ => False) s11 := by
          refine sc2_loop1 (fun k s' => ∃ j H', Inv (X.blk s3 Hb scope ce fp) ([] ++ pinsAt fp s7.heap) (wipe σ8 vs1) H' s' ∧ tn1 j s'.heap ∧ (∀ b ∈ fp1, H' b = none) ∧ W1 j k H') ?_ m1 ⟨0, Hd, Id.weak (wipe_length _ _) (fun j v e => (wipe_some e).1), std, fun b hb => (fd b hb).1, w1⟩
          rintro k s12 ⟨j, He, Ie, ste, ne, we⟩
          rcases turn1 j k He we with ⟨stop1, nx1⟩ | ⟨go1, Nx1, hNx1, step1⟩
          · refine thnF (T1.done (X.blk s3 Hb scope ce fp) rfl rfl rfl hc j _ s12 (wipe σ8 vs1) He (fun _ _ => False) Ie (still1 ne) ste stop1) fun r s13 ⟨hr, I13⟩ => ?_
            subst hr
            exact fin I13 (hl8.trans (wipe_length σ8 vs1).symm) hk9 nx1
          · refine thnF (T1.item (X.blk s3 Hb scope ce fp) rfl rfl rfl hc j _ s12 (wipe σ8 vs1) He (fun _ _ => False) Ie (still1 ne) ste go1) fun r s13 ⟨u1, hr, h13⟩ => ?_
            subst hr
            refine thnF h13 fun _ s14 ⟨x1, Hf, If, rf, yf, stf, nf⟩ => ?_
            refine thnF (pg1.run _ s14 (wipe σ8 vs1) Hf x1 u1 _ (If.pinned (still1 nf) (T1.obj _ _ stf)) rf (step1 x1 Hf yf)) fun _ s15 ⟨σ15, Hg, Ig, hwg, qg⟩ => ?_
            refine thnF (pt1.run _ s15 σ15 Hg _ Ig qg) fun b1 s16 ⟨Hh, Ih, qh⟩ => ?_
            have fin1 : ∀ {s' : Shared} {H' : Hp}, Inv (X.blk s3 Hb scope ce fp) (([] ++ pinsAt fp s7.heap) ++ pinsAt fp1 s14.heap) σ15 H' s' → Nx1 H' → ∃ m, m < k ∧ ∃ j H', Inv (X.blk s3 Hb scope ce fp) ([] ++ pinsAt fp s7.heap) (wipe σ8 vs1) H' s' ∧ tn1 j s'.heap ∧ (∀ b ∈ fp1, H' b = none) ∧ W1 j m H' := fun {s' H'} I' nx => by
              obtain ⟨m', hm, w'⟩ := hNx1 H' nx
              have pin' : ∀ b ∈ fp1, ∀ o, s14.heap.get? b = some o → s'.heap.get? b = some o ∧ H' b = none := fun b hb o e =>
                have z := I'.pin (b, o) (List.mem_append_right _ (List.mem_append_right _ (mem_pinsAt hb e)))
                ⟨z.1, z.2.1⟩
              exact ⟨m', hm, j + 1, H', I'.unpinned.weak (by rw [← hwg, wipe_length]) (fun j v e => by rw [← hwg] at e; exact (wipe_some e).1), T1.keep _ _ _ stf fun b hb o e => (pin' b hb o e).1, fun b hb => (T1.obj _ _ stf b hb).elim fun o e => (pin' b hb o e.1).2, w'⟩
            cases b1 with
            | false =>
              simp only [Bool.false_eq_true, if_false] at qh ⊢
              exact fin1 Ih qh
            | true =>
              simp only [if_true] at qh ⊢
              refine thnF (pe.run _ s16 σ15 Hh _ Ih qh) fun z s17 ⟨yv, Hi, Ii, ri, c, S, n0, ey, hDi, hz, nx⟩ => ?_
              subst ey
              obtain ⟨tk, rfl⟩ : ∃ tk, z = Value.int c tk := ri
              exact setadd_ok (X := X.blk s3 Hb scope ce fp) Ii hDi hz fun s18 I18 => fin1 I18 nx
        exact sc2_start1 inn (T1.self X.A 0 _ _ _ std inn)
  exact codeAny_compStart_set out (T.self X.A 0 _ _ _ stc out)
end
end Rm
set_option Elab.async false
set_option linter.all false
set_option maxRecDepth 100000
set_option maxHeartbeats 4000000
/-! Rm, X: sorted({.. for .. in .. for .. in ..}), ints. -/
namespace Rm
open PySem PySem.Spec PyProof.Rows L2
section
variable {g : G} {H H1 H2 H' : Hp} {Fz Fz1 Fz2 Fz' : Addr → Prop} {fp fp1 fp2 fp' : List Addr} {ρ ρ' : Env} {σ σ' : L2.St} {w : World} {Da : Addr} {acc accF : List D}
def hasI (acc : List D) (j : Int) : Bool := acc.any fun d => match d with
  | .int i => decide (j = i)
  | _ => false
theorem hasI_snoc (acc : List D) (c : Int) : hasI (acc ++ [.int c]) = fun j => hasI acc j || decide (j = c) := by
  funext j
  unfold hasI
  rw [List.any_append]
  simp
theorem hasI_ints (ns : List Int) (j : Int) : hasI (ns.map D.int) j = true ↔ j ∈ ns := by
  unfold hasI
  rw [List.any_map]
  constructor
  · intro h
    obtain ⟨k, hk, e⟩ := List.any_eq_true.mp h
    rw [of_decide_eq_true e]; exact hk
  · intro h
    exact List.any_eq_true.mpr ⟨j, h, decide_eq_true rfl⟩
theorem insU_len {x : Int} : ∀ {ys : List Int}, x ∉ ys → (insU x ys).length = ys.length + 1
  | [], _ => rfl
  | y :: ys, h => by
    unfold insU
    split
    · rfl
    · rw [if_neg fun e => h (by rw [e]; exact List.mem_cons_self), List.length_cons, insU_len fun e => h (List.mem_cons_of_mem _ e), List.length_cons]
theorem insU_le {x : Int} : ∀ {ys : List Int}, (insU x ys).length ≤ ys.length + 1
  | [] => Nat.le_refl _
  | y :: ys => by
    unfold insU
    split
    · exact Nat.le_refl _
    · split
      · exact Nat.le_succ _
      · rw [List.length_cons, List.length_cons]; exact Nat.succ_le_succ insU_le
theorem sortU_le : ∀ {ns : List Int}, (sortU ns).length ≤ ns.length
  | [] => Nat.le_refl _
  | x :: xs => by
    unfold sortU
    have := insU_le (x := x) (ys := sortU xs)
    have := sortU_le (ns := xs)
    rw [List.length_cons]
    omega
theorem sortU_snoc (ns : List Int) (c : Int) : (sortU (ns ++ [c])).length = if hasI (ns.map D.int) c = true then (sortU ns).length else (sortU ns).length + 1 := by
  by_cases h : c ∈ ns
  · rw [if_pos ((hasI_ints ns c).mpr h), uniq_asc (sortU_asc (ns := ns ++ [c])) (sortU_asc (ns := ns)) fun k => ?_]
    rw [sortU_mem, sortU_mem, List.mem_append, List.mem_singleton]
    exact ⟨fun z => z.elim id fun z => z ▸ h, .inl⟩
  · rw [if_neg fun z => h ((hasI_ints ns c).mp z), uniq_asc (sortU_asc (ns := ns ++ [c])) (insU_asc (x := c) (sortU_asc (ns := ns))) fun k => ?_, insU_len fun z => h (sortU_mem.mp z)]
    rw [sortU_mem, insU_mem, sortU_mem, List.mem_append, List.mem_singleton]
    exact Or.comm
/-- the set under way -/
structure At (w : World) (Da : Addr) (acc : List D) (H : Hp) (Fz : Addr → Prop) (fp : List Addr) : Prop where
  out : Da ∉ fp
  nf : ¬ Fz Da
  obj : ∃ ns : List Int, acc = ns.map D.int ∧ H Da = some (SetO w Da (hasI acc) (sortU ns).length)
theorem At.ext (h : At w Da acc H Fz fp) (x : Ext H Fz fp H' Fz' fp') : At w Da acc H' Fz' fp' := by
  obtain ⟨n, hn, ho⟩ := h.obj
  refine ⟨fun z => ?_, fun z => ?_, n, hn, x.keep _ _ ho h.out⟩
  · rcases x.new _ z with z | z
    · exact h.out z
    · rw [ho] at z; cases z
  · rcases x.fzn _ z with z | z | z
    · exact h.nf z
    · exact h.out z
    · rw [ho] at z; cases z
theorem At.sub (h : At w Da acc H Fz fp) (hs : ∀ a ∈ fp', a ∈ fp) : At w Da acc H Fz fp' := ⟨fun z => h.out (hs _ z), h.nf, h.obj⟩
theorem updS_keep {u : HO} (hm : Mut (H Da)) (h1 : Da ∉ fp) (h2 : ¬ Fz Da) : Keep H Fz fp (upd H Da u) Fz := by
  have hne : ∀ {a v}, H a = some v → a ≠ Da → upd H Da u a = some v := fun {a v} e z => by rw [upd_ne z]; exact e
  refine ⟨fun a v ha e => hne e fun z => h1 (z ▸ ha), fun a v ha e => hne e fun z => h2 (z ▸ ha), fun a v hv e => hne e fun z => ?_, fun _ z => z⟩
  subst z
  rw [e] at hm
  exact hv hm
theorem updS_ext {u : HO} (h1 : Da ∉ fp) (h2 : ¬ Fz Da) : Ext H Fz (Da :: fp) (upd H Da u) Fz (Da :: fp) := by
  refine ⟨fun b o e hb => ?_, fun b hb => ?_, fun _ z => z, fun b hb => .inl hb, fun b hb => .inl hb⟩
  · rw [upd_ne fun z => hb (by rw [z]; exact List.mem_cons_self)]; exact e
  · by_cases z : b = Da
    · subst z; rw [upd_same]; exact Option.some_ne_none _
    · rw [upd_ne z]; exact hb
theorem At.add {c : Int} (h : At w Da acc H Fz fp) (r : SRel g Fz ρ σ H fp) : ∃ n, n ≤ acc.length ∧ H Da = some (SetO w Da (hasI acc) n) ∧ (let H' := upd H Da (SetO w Da (fun j => hasI acc j || decide (j = c)) (if hasI acc c = true then n else n + 1)); SRel g Fz ρ σ H' fp ∧ At w Da (acc ++ [.int c]) H' Fz fp ∧ Ext H Fz (Da :: fp) H' Fz (Da :: fp) ∧ Keep H Fz [] H' Fz) := by
  obtain ⟨ns, hn, ho⟩ := h.obj
  have hle : (sortU ns).length ≤ acc.length := by rw [hn, List.length_map]; exact sortU_le
  generalize hnn : (sortU ns).length = n at ho hle
  have hm : Mut (H Da) := by rw [ho]; trivial
  have k := updS_keep (u := SetO w Da (fun j => hasI acc j || decide (j = c)) (if hasI acc c = true then n else n + 1)) hm h.out h.nf
  refine ⟨n, hle, ho, ⟨seq_keep k r.reps, r.nd, r.dj, fun a ha => ?_⟩, ⟨h.out, h.nf, ns ++ [c], ?_, ?_⟩, updS_ext h.out h.nf, k.sub fun _ z => by cases z⟩
  · rw [upd_ne fun z => h.nf (by rw [← z]; exact ha)]; exact r.th a ha
  · rw [hn, List.map_append]; rfl
  · rw [upd_same, hasI_snoc, sortU_snoc, ← hn, hnn]
theorem Ext.aside (x : Ext H Fz fp H' Fz' fp') : Ext H Fz (Da :: fp) H' Fz' (Da :: fp') := x.framed (f := [Da])
theorem compL_pre {a : MG} {c : MT} {e : M} {vs : List Nat} : ∀ {ds : List D} {acc : List D} {ρ : Env} {acc' : List D} {ρ' : Env}, compL a c e vs ds acc ρ = some (acc', ρ') → ∃ t, acc' = acc ++ t
  | [], acc, ρ, acc', ρ', h => by unfold compL at h; cases h; exact ⟨[], by simp⟩
  | x :: ds, acc, ρ, acc', ρ', h => by
    unfold compL at h
    split at h
    · cases h
    · split at h
      · cases h
      · exact compL_pre h
      · split at h
        · cases h
        · rename_i d _ _
          obtain ⟨t, rfl⟩ := compL_pre h
          exact ⟨d :: t, by simp⟩
theorem compL2_pre {a a1 : MG} {c c1 : MT} {i1 : MI} {e : M} {vs vs1 : List Nat} : ∀ {ds : List D} {acc : List D} {ρ : Env} {acc' : List D} {ρ' : Env}, compL2 a c i1 a1 c1 e vs vs1 ds acc ρ = some (acc', ρ') → ∃ t, acc' = acc ++ t
  | [], acc, ρ, acc', ρ', h => by unfold compL2 at h; cases h; exact ⟨[], by simp⟩
  | x :: ds, acc, ρ, acc', ρ', h => by
    unfold compL2 at h
    split at h
    · cases h
    · split at h
      · cases h
      · exact compL2_pre h
      · split at h
        · cases h
        · split at h
          · split at h
            · cases h
            · rename_i _ _ _ _ acc6 _ e6
              obtain ⟨t, rfl⟩ := compL_pre e6
              obtain ⟨t2, rfl⟩ := compL2_pre h
              exact ⟨t ++ t2, by simp⟩
          · cases h
theorem sc_in {J : It} {ds : List D} {St : Hp → (Addr → Prop) → Prop} {a : MG} {c : MT} {e : M} {vs : List Nat} {Dn : Hp → Prop} {ρF : Env} (hF : ∀ d ∈ accF, ∃ i, d = .int i) (hz : accF.length ≤ 1000) (wk : Wk g J ds St) (r : SRel g Fz ρ (wipe σ vs) H fp) (at0 : At w Da acc H Fz fp) (st : St H Fz)
    (ev : compL a c e vs ds acc ρ = some (accF, ρF)) (k : ∀ H' Fz' fp', Ext H Fz (Da :: fp) H' Fz' (Da :: fp') → SRel g Fz' ρF (wipe σ vs) H' fp' → At w Da accF H' Fz' fp' → Keep H Fz [] H' Fz' → Dn H') :
    ∃ Wl : Nat → Nat → Hp → Prop, (∃ m, Wl 0 m H) ∧ ∀ i m H, Wl i m H → (J.stop i H ∧ Dn H) ∨ (J.go i H ∧ ∃ Nx : Hp → Prop, (∀ H', Nx H' → ∃ m', m' < m ∧ Wl (i + 1) m' H') ∧ ∀ x H', J.yld i H x H' →
      (tG g (Wo vs) a) x (wipe σ vs) H' fun σ2 H2 => wipe σ2 vs = wipe σ vs ∧ (tT g c) σ2 H2 fun b H3 =>
        if b = true then (tE g e) σ2 H3 fun y H4 => ∃ (c : Int) (S : Int → Bool) (n : Nat), y = .int c ∧ H4 Da = some (SetO w Da S n) ∧ n + 1 < scanBound ∧ Nx (upd H4 Da (SetO w Da (fun j => S j || decide (j = c)) (if S c = true then n else n + 1))) else Nx H3) := by
  let P : Nat → Hp → Prop := fun i H1 => i ≤ ds.length ∧ ∃ Fz1 ρ1 fp1 acc1, SRel g Fz1 ρ1 (wipe σ vs) H1 fp1 ∧ At w Da acc1 H1 Fz1 fp1 ∧ St H1 Fz1 ∧ compL a c e vs (ds.drop i) acc1 ρ1 = some (accF, ρF) ∧
    ∀ H' Fz' fp', Ext H1 Fz1 (Da :: fp1) H' Fz' (Da :: fp') → SRel g Fz' ρF (wipe σ vs) H' fp' → At w Da accF H' Fz' fp' → Keep H1 Fz1 [] H' Fz' → Dn H'
  refine ⟨fun i m H1 => m = ds.length - i ∧ P i H1, ⟨ds.length, by simp, Nat.zero_le _, Fz, ρ, fp, acc, r, at0, st, by simpa using ev, k⟩, ?_⟩
  rintro i m H1 ⟨rfl, hi, Fz1, ρ1, fp1, acc1, r1, at1, st1, e1, k1⟩
  by_cases hlt : i < ds.length
  · refine .inr ⟨wk.go i H1 Fz1 hlt st1, P (i + 1), fun H' p => ⟨ds.length - (i + 1), by omega, rfl, p⟩, fun x H' y => ?_⟩
    rw [List.drop_eq_getElem_cons hlt] at e1
    unfold compL at e1
    obtain ⟨x0, hr⟩ := wk.yld i ds[i] H1 Fz1 x H' (List.getElem?_eq_getElem hlt) st1 y
    obtain ⟨r2, x2⟩ := r1.ext0 x0
    have kp2 : Keep H1 Fz1 [] H' Fz1 := x0.keeps (f := []) (by simp) (by simp) (by simp)
    have st2 := wk.keep _ _ _ _ _ kp2 st1
    split at e1
    · cases e1
    · rename_i ρ2 e2
      refine ⟨Fz1, [], [], ρ1, fp1, ds[i], ρ2, rfl, r2.push hr, e2, fun σ3 H3 Fz3 fp3 x3 r3 ag3 => ?_⟩
      have r3' : SRel g Fz3 ρ2 σ3 H3 fp3 := r3
      have st3 := wk.keep _ _ _ _ _ (x3.keepAll r2) st2
      have hw3 := wipe_agree (ag3.len.trans (wipe_length σ vs)) ag3
      refine ⟨hw3, ?_⟩
      have again : ∀ {H4 : Hp} {Fz4 : Addr → Prop} {fp4 : List Addr} {acc4 : List D} {ρ4 : Env}, SRel g Fz4 ρ4 σ3 H4 fp4 → At w Da acc4 H4 Fz4 fp4 → Ext H1 Fz1 (Da :: fp1) H4 Fz4 (Da :: fp4) → Keep H1 Fz1 [] H4 Fz4 →
          compL a c e vs (ds.drop (i + 1)) acc4 (wipeE ρ4 vs) = some (accF, ρF) → P (i + 1) H4 := fun {H4 Fz4 fp4 acc4 ρ4} r4 at4 x4 kp4 e4 => by
        obtain ⟨fp6, r6, h6⟩ := r4.wipe (vs := vs)
        rw [hw3] at r6
        refine ⟨hlt, Fz4, _, fp6, acc4, r6, at4.sub h6, wk.keep _ _ _ _ _ kp4 st1, e4, fun H' Fz' fp' y q a' kp => k1 H' Fz' fp' ((x4.trans (Ext.refl fun b hb => ?_)).trans y) q a' ?_⟩
        · rcases List.mem_cons.mp hb with z | z
          · rw [z]; exact List.mem_cons_self
          · exact List.mem_cons_of_mem _ (h6 b z)
        · exact ⟨fun _ _ z => (by cases z), fun a u ha e => kp.fz a u (kp4.mrk a ha) (kp4.fz a u ha e), fun a u hm e => kp.fix a u hm (kp4.fix a u hm e), fun a ha => kp.mrk a (kp4.mrk a ha)⟩
      split at e1
      · cases e1
      · rename_i ρ4 e3
        refine ⟨Fz3, ρ2, fp3, false, ρ4, r3', e3, fun H4 Fz4 fp4 x4 r4 => ?_⟩
        refine iteF ?_
        have xx := x2.trans (x3.trans x4)
        exact again r4 (at1.ext xx) xx.aside (xx.keepAll r1) e1
      · rename_i ρ4 e3
        split at e1
        · cases e1
        · rename_i d ρ5 e5
          refine ⟨Fz3, ρ2, fp3, true, ρ4, r3', e3, fun H4 Fz4 fp4 x4 r4 => ?_⟩
          refine iteT ?_
          refine ⟨Fz4, ρ4, fp4, d, ρ5, r4, e5, fun v H5 Fz5 fp5 x5 r5 => ?_⟩
          obtain ⟨t, et⟩ := compL_pre e1
          obtain ⟨cc, rfl⟩ := hF d (by rw [et]; simp)
          have hlen : acc1.length + 1 ≤ 1000 := by
            have := congrArg List.length et
            simp at this
            omega
          have xx := x2.trans (x3.trans (x4.trans x5))
          obtain ⟨fl, fr, efp, ⟨v', ev', hv'⟩, rr, _⟩ := r5.frame1
          cases ev'
          have hsub : ∀ a ∈ fr, a ∈ fp5 := fun a ha => by rw [efp]; exact List.mem_append_right _ ha
          have at5 := (at1.ext xx).sub hsub
          obtain ⟨n, hn, ho, r6, at6, x6, kp6⟩ := at5.add (c := cc) rr
          have kp5 := xx.keepAll r1
          refine ⟨cc, _, n, rep_int' hv', ho, by unfold scanBound; omega, again r6 at6 ((xx.shrink hsub).aside.trans x6) ?_ e1⟩
          exact ⟨fun _ _ z => (by cases z), fun a u ha e => kp6.fz a u (kp5.mrk a ha) (kp5.fz a u ha e), fun a u hm e => kp6.fix a u hm (kp5.fix a u hm e), fun a ha => kp6.mrk a (kp5.mrk a ha)⟩
  · have e0 : i = ds.length := by omega
    subst e0
    rw [List.drop_length] at e1
    unfold compL at e1
    cases e1
    exact .inl ⟨wk.stop H1 Fz1 st1, k1 H1 Fz1 fp1 Ext.rfl' r1 at1 ⟨fun _ _ z => (by cases z), fun _ _ _ e => e, fun _ _ _ e => e, fun _ z => z⟩⟩
theorem Keep.tr {H3 : Hp} {Fz3 : Addr → Prop} (a : Keep H Fz [] H1 Fz1) (b : Keep H1 Fz1 [] H3 Fz3) : Keep H Fz [] H3 Fz3 := ⟨fun _ _ z => (by cases z), fun c u ha e => b.fz c u (a.mrk c ha) (a.fz c u ha e), fun c u hm e => b.fix c u hm (a.fix c u hm e), fun c ha => b.mrk c (a.mrk c ha)⟩
theorem sc_out {J : It} {ds : List D} {St : Hp → (Addr → Prop) → Prop} {a a1 : MG} {c c1 : MT} {i1 : MI} {e : M} {vs vs1 : List Nat} {Dn : Hp → Prop} {ρF : Env} (hF : ∀ d ∈ accF, ∃ i, d = .int i) (hz : accF.length ≤ 1000) (hv : ∀ i ∈ vs1, i ∈ vs) (wk : Wk g J ds St) (r : SRel g Fz ρ (wipe σ vs) H fp) (at0 : At w Da acc H Fz fp) (st : St H Fz)
    (ev : compL2 a c i1 a1 c1 e vs vs1 ds acc ρ = some (accF, ρF)) (k : ∀ H' Fz' fp', Ext H Fz (Da :: fp) H' Fz' (Da :: fp') → SRel g Fz' ρF (wipe σ vs) H' fp' → At w Da accF H' Fz' fp' → Keep H Fz [] H' Fz' → Dn H') :
    ∃ Wl : Nat → Nat → Hp → Prop, (∃ m, Wl 0 m H) ∧ ∀ i m H, Wl i m H → (J.stop i H ∧ Dn H) ∨ (J.go i H ∧ ∃ Nx : Hp → Prop, (∀ H', Nx H' → ∃ m', m' < m ∧ Wl (i + 1) m' H') ∧ ∀ x H', J.yld i H x H' →
      (tG g (Wo vs) a) x (wipe σ vs) H' fun σ2 H2 => wipe σ2 vs = wipe σ vs ∧ (tT g c) σ2 H2 fun b H3 =>
        if b = true then (tI g i1) σ2 H3 fun J1 H4 => ∃ W1 : Nat → Nat → Hp → Prop, (∃ m, W1 0 m H4) ∧ ∀ j k H, W1 j k H →
          (J1.stop j H ∧ Nx H) ∨ (J1.go j H ∧ ∃ Nx1 : Hp → Prop, (∀ H', Nx1 H' → ∃ k', k' < k ∧ W1 (j + 1) k' H') ∧ ∀ x H', J1.yld j H x H' → (tG g (Wo vs1) a1) x (wipe σ2 vs1) H' fun σ3 H5 => wipe σ3 vs1 = wipe σ2 vs1 ∧ (tT g c1) σ3 H5 fun b H6 =>
            if b = true then (tE g e) σ3 H6 fun y H7 => ∃ (c : Int) (S : Int → Bool) (n : Nat), y = .int c ∧ H7 Da = some (SetO w Da S n) ∧ n + 1 < scanBound ∧ Nx1 (upd H7 Da (SetO w Da (fun j => S j || decide (j = c)) (if S c = true then n else n + 1))) else Nx1 H6)
        else Nx H3) := by
  let P : Nat → Hp → Prop := fun i H1 => i ≤ ds.length ∧ ∃ Fz1 ρ1 fp1 acc1, SRel g Fz1 ρ1 (wipe σ vs) H1 fp1 ∧ At w Da acc1 H1 Fz1 fp1 ∧ St H1 Fz1 ∧ compL2 a c i1 a1 c1 e vs vs1 (ds.drop i) acc1 ρ1 = some (accF, ρF) ∧
    ∀ H' Fz' fp', Ext H1 Fz1 (Da :: fp1) H' Fz' (Da :: fp') → SRel g Fz' ρF (wipe σ vs) H' fp' → At w Da accF H' Fz' fp' → Keep H1 Fz1 [] H' Fz' → Dn H'
  refine ⟨fun i m H1 => m = ds.length - i ∧ P i H1, ⟨ds.length, by simp, Nat.zero_le _, Fz, ρ, fp, acc, r, at0, st, by simpa using ev, k⟩, ?_⟩
  rintro i m H1 ⟨rfl, hi, Fz1, ρ1, fp1, acc1, r1, at1, st1, e1, k1⟩
  by_cases hlt : i < ds.length
  · refine .inr ⟨wk.go i H1 Fz1 hlt st1, P (i + 1), fun H' p => ⟨ds.length - (i + 1), by omega, rfl, p⟩, fun x H' y => ?_⟩
    rw [List.drop_eq_getElem_cons hlt] at e1
    unfold compL2 at e1
    obtain ⟨x0, hr⟩ := wk.yld i ds[i] H1 Fz1 x H' (List.getElem?_eq_getElem hlt) st1 y
    obtain ⟨r2, x2⟩ := r1.ext0 x0
    split at e1
    · cases e1
    · rename_i ρ2 e2
      refine ⟨Fz1, [], [], ρ1, fp1, ds[i], ρ2, rfl, r2.push hr, e2, fun σ3 H3 Fz3 fp3 x3 r3 ag3 => ?_⟩
      have r3' : SRel g Fz3 ρ2 σ3 H3 fp3 := r3
      have hw3 := wipe_agree (ag3.len.trans (wipe_length σ vs)) ag3
      refine ⟨hw3, ?_⟩
      have again : ∀ {σx : L2.St} {H4 : Hp} {Fz4 : Addr → Prop} {fp4 : List Addr} {acc4 : List D} {ρ4 : Env}, wipe σx vs = wipe σ vs → SRel g Fz4 ρ4 σx H4 fp4 → At w Da acc4 H4 Fz4 fp4 → Ext H1 Fz1 (Da :: fp1) H4 Fz4 (Da :: fp4) → Keep H1 Fz1 [] H4 Fz4 →
          compL2 a c i1 a1 c1 e vs vs1 (ds.drop (i + 1)) acc4 (wipeE ρ4 vs) = some (accF, ρF) → P (i + 1) H4 := fun {σx H4 Fz4 fp4 acc4 ρ4} hwx r4 at4 x4 kp4 e4 => by
        obtain ⟨fp6, r6, h6⟩ := r4.wipe (vs := vs)
        rw [hwx] at r6
        refine ⟨hlt, Fz4, _, fp6, acc4, r6, at4.sub h6, wk.keep _ _ _ _ _ kp4 st1, e4, fun H' Fz' fp' y q a' kp => k1 H' Fz' fp' ((x4.trans (Ext.refl fun b hb => ?_)).trans y) q a' (kp4.tr kp)⟩
        rcases List.mem_cons.mp hb with z | z
        · rw [z]; exact List.mem_cons_self
        · exact List.mem_cons_of_mem _ (h6 b z)
      split at e1
      · cases e1
      · rename_i ρ4 e3
        refine ⟨Fz3, ρ2, fp3, false, ρ4, r3', e3, fun H4 Fz4 fp4 x4 r4 => ?_⟩
        refine iteF ?_
        have xx := x2.trans (x3.trans x4)
        exact again hw3 r4 (at1.ext xx) xx.aside (xx.keepAll r1) e1
      · rename_i ρ4 e3
        split at e1
        · cases e1
        · rename_i ds1 ρ5 e5
          split at e1
          · rename_i hz1
            split at e1
            · cases e1
            · rename_i acc6 ρ6 e6
              refine ⟨Fz3, ρ2, fp3, true, ρ4, r3', e3, fun H4 Fz4 fp4 x4 r4 => ?_⟩
              refine iteT ?_
              refine ⟨Fz4, ρ4, fp4, ds1, ρ5, r4, e5, fun J1 St1 H5 Fz5 fp5 x5 r5 wk1 st5 => ?_⟩
              obtain ⟨t, et⟩ := compL2_pre e1
              obtain ⟨fp5w, r5w, h5w⟩ := r5.wipe (vs := vs1)
              have xx := x2.trans (x3.trans (x4.trans x5))
              have at5 := (at1.ext xx).sub h5w
              have kp5 := xx.keepAll r1
              refine sc_in (fun d hd => hF d (by rw [et]; exact List.mem_append_left _ hd)) (by have := congrArg List.length et; simp at this; omega) wk1 r5w at5 st5 e6 fun H7 Fz7 fp7 x7 r7 at7 kp7 => ?_
              exact again (wipe_sub hv hw3) r7 at7 ((xx.shrink h5w).aside.trans x7) (kp5.tr kp7) e1
          · cases e1
  · have e0 : i = ds.length := by omega
    subst e0
    rw [List.drop_length] at e1
    unfold compL2 at e1
    cases e1
    exact .inl ⟨wk.stop H1 Fz1 st1, k1 H1 Fz1 fp1 Ext.rfl' r1 at1 ⟨fun _ _ z => (by cases z), fun _ _ _ e => e, fun _ _ _ e => e, fun _ z => z⟩⟩
/-- sorted of the set -/
def dSc2 (i : MI) (vs : List Nat) (a : MG) (c : MT) (i1 : MI) (vs1 : List Nat) (a1 : MG) (c1 : MT) (e : M) : M := fun ρ => match dComp2 i vs a c i1 vs1 a1 c1 e ρ with
  | some (.lst _ acc, ρ') => match intsOf acc with
    | some ns => if ns.length ≤ 1000 ∧ (sortU ns).length ≤ 60 then some (.lst true ((sortU ns).map .int), ρ') else none
    | none => none
  | _ => none
theorem tSc2_ok {mi i1 : MI} {a a1 : MG} {c c1 : MT} {e : M} {vs vs1 : List Nat} {Q : VK} (hv : ∀ i ∈ vs1, i ∈ vs) (h : tE g (dSc2 mi vs a c i1 vs1 a1 c1 e) σ H Q) : tSc2 w (tI g mi) (tG g (Wo vs) a) (tT g c) (tI g i1) (tG g (Wo vs1) a1) (tT g c1) (tE g e) vs vs1 σ H (fun x H1 => rSortedSet w [x] H1 Q) := by
  obtain ⟨Fz, ρ, fp, d, ρ', hs, ev, k⟩ := h
  unfold dSc2 at ev
  split at ev
  · rename_i o acc ρ0 e0
    split at ev
    · rename_i ns en
      split at ev
      · rename_i hz
        cases ev
        unfold dComp2 at e0
        split at e0
        · cases e0
        · rename_i ds ρ1 e1
          split at e0
          · rename_i hsav
            split at e0
            · cases e0
            · rename_i accF ρ2 e2
              cases e0
              have ea := intsOf_eq en
              refine ⟨Fz, ρ, fp, ds, ρ1, hs, e1, fun J St H1 Fz1 fp1 x1 r1 wk st Da hD => ?_⟩
              obtain ⟨fp2, r2, h2⟩ := r1.wipe (vs := vs)
              -- the new set
              have x3 : Ext H1 Fz1 fp2 (upd H1 Da (SetO w Da (fun _ => false) 0)) Fz1 (Da :: fp2) := by
                refine ⟨fun b o' e' hb => ?_, fun b hb => ?_, fun _ z => z, fun b hb => ?_, fun b hb => .inl hb⟩
                · rw [upd_ne fun z => by rw [z, hD] at e'; cases e']; exact e'
                · rw [upd_ne fun z => hb (by rw [z]; exact hD)]; exact hb
                · rcases List.mem_cons.mp hb with z | z
                  · exact .inr (by rw [z]; exact hD)
                  · exact .inl z
              have hout : Da ∉ fp2 := fun z => by
                have := r2.mut Da z
                rw [hD] at this
                exact this
              have hnf : ¬ Fz1 Da := fun z => r2.th Da z hD
              have kp3 : Keep H1 Fz1 fp2 (upd H1 Da (SetO w Da (fun _ => false) 0)) Fz1 := ⟨fun b u hb e' => (by rw [upd_ne fun z => hout (by rw [← z]; exact hb)]; exact e'), fun b u hb e' => (by rw [upd_ne fun z => hnf (by rw [← z]; exact hb)]; exact e'), fun b u _ e' => (by rw [upd_ne fun z => (by rw [z, hD] at e'; cases e')]; exact e'), fun _ z => z⟩
              have r3 : SRel g Fz1 (wipeE ρ1 vs) (wipe σ vs) (upd H1 Da (SetO w Da (fun _ => false) 0)) fp2 := ⟨seq_keep kp3 r2.reps, r2.nd, r2.dj, fun b hb => (by rw [upd_ne fun z => hnf (by rw [← z]; exact hb)]; exact r2.th b hb)⟩
              have at3 : At w Da [] (upd H1 Da (SetO w Da (fun _ => false) 0)) Fz1 fp2 := ⟨hout, hnf, [], rfl, upd_same⟩
              have st3 := wk.keep _ _ _ _ _ (kp3.sub (f' := []) fun _ z => by cases z) st
              refine sc_out (fun d hd => ?_) (by rw [ea, List.length_map]; exact hz.1) hv wk r3 at3 st3 e2 fun H' Fz' fp' x r at' kp => ?_
              · rw [ea] at hd
                obtain ⟨i, _, rfl⟩ := List.mem_map.mp hd
                exact ⟨i, rfl⟩
              · obtain ⟨n, hn, ho⟩ := at'.obj
                have en2 : n = ns := List.map_inj_right (fun a b e => by cases e; rfl) |>.mp (hn.symm.trans ea)
                refine ⟨Da, hasI _, _, rfl, ho, by rw [en2]; omega, fun ms p q1 q2 q3 hp => ?_⟩
                have em : ms = sortU ns := uniq_asc q1 sortU_asc fun j => by rw [q2 j, sortU_mem, ea, hasI_ints]
                subst em
                have kk := ((kp3.sub (f' := []) fun _ z => by cases z).tr kp)
                obtain ⟨fp5, r5, h5⟩ := (r.push (d := .non) (v := .non) (by unfold Rep; exact ⟨rfl, rfl⟩)).restore (vs := vs) (ρ0 := ρ1) (σ0 := σ) fun v hv' => RepO.keep kk (saved r1 hsav v hv')
                rw [restV_wipe] at r5
                obtain ⟨f6, fp4, e6, _, r4, _⟩ := r5.frame1
                have h4 : ∀ b ∈ fp4, b ∈ fp' := fun b hb => h5 b (by rw [e6]; exact List.mem_append_right _ hb)
                have x5 : Ext H1 Fz1 fp1 H' Fz' fp4 := by
                  refine (Ext.refl h2).trans (x3.trans (x.shrink fun b hb => List.mem_cons_of_mem _ (h4 b hb)))
                have n5 := new_lstD hp (ints_reps (g := g) (Fz := Fz') (bs := sortU ns))
                obtain ⟨r6, x6⟩ := r4.fresh n5.1 (List.nodup_cons.mpr ⟨by simp, List.nodup_nil⟩) n5.2
                exact k (.ref p) _ Fz' _ (x1.trans (x5.trans x6)) r6
          · cases e0
      · cases ev
    · cases ev
  · cases ev
end
section
variable {g : G} {X : Cx} {x : Str} {p : Pos}
theorem e_sortSc2 {u t0 i0 t1 i1 : Expr} {f0 f1 : List Expr} {scope : Scope} {own : List (Str × Nat)} {vs1 : List Nat} {pos pos2 : Pos} {mi mi1 : MI} {a a1 : MG} {c c1 : MT} {e : M} (hc : X.calm = true) (hN : X.N.Nodup) (hgl : Gl X x) (hm : X.mg x = none) (hvb : bootBuiltins x = some (.builtin "sorted"))
    (hi : PI X t0 i0 (tI g mi)) (ok : BlkOk X.N X.env.scope scope own) (hv : ∀ i ∈ vs1, i ∈ own.map (·.2))
    (hg : ∀ (s : Shared) (H : Hp) (C : Addr) (cl : List (Str × Addr)) (fp : List Addr), PG (X.blk s H scope (compEnvC scope cl C X.env) fp) t0 (tG g (Wo (own.map (·.2))) a)) (ht : ∀ (s : Shared) (H : Hp) (C : Addr) (cl : List (Str × Addr)) (fp : List Addr), PTs (X.blk s H scope (compEnvC scope cl C X.env) fp) f0 (tT g c))
    (hi1 : ∀ (s : Shared) (H : Hp) (C : Addr) (cl : List (Str × Addr)) (fp : List Addr), PI (X.blk s H scope (compEnvC scope cl C X.env) fp) t1 i1 (tI g mi1))
    (hg1 : ∀ (s : Shared) (H : Hp) (C : Addr) (cl : List (Str × Addr)) (fp : List Addr), PG (X.blk s H scope (compEnvC scope cl C X.env) fp) t1 (tG g (Wo vs1) a1)) (ht1 : ∀ (s : Shared) (H : Hp) (C : Addr) (cl : List (Str × Addr)) (fp : List Addr), PTs (X.blk s H scope (compEnvC scope cl C X.env) fp) f1 (tT g c1))
    (he : ∀ (s : Shared) (H : Hp) (C : Addr) (cl : List (Str × Addr)) (fp : List Addr), PE (X.blk s H scope (compEnvC scope cl C X.env) fp) u (tE g e)) (hs : ∀ x, foldedSetIterable i0 X.env x = pure x) (hs1 : ∀ env x, foldedSetIterable i1 env x = pure x)
    (hn : x ≠ "__name__" := by decide) (hdb : (x == ("__debug__" : Str)) = false := by decide)
    (he1 : starEach [Sc2 u t0 i0 t1 i1 f0 f1 scope pos2] X.env = (false, eval (Sc2 u t0 i0 t1 i1 f0 f1 scope pos2) X.env) :: starEach [] X.env := by rfl)
    (hpl : (backTo pos (starEach [] X.env)).any (·.1) = false := by rfl) :
    PE X (.Call (.Name x p) [Sc2 u t0 i0 t1 i1 f0 f1 scope pos2] [] pos) (tE g (dSc2 mi (own.map (·.2)) a c mi1 vs1 a1 c1 e)) :=
  pe_imp (pe_callB (cr_sortedSet hc) hgl hm hvb (pa_cons (pe_sc2 hc hN hi ok hv hg ht hi1 hg1 ht1 he hs hs1) pa_nil he1) hn hdb he1 hpl) fun σ H Q q => tSc2_ok (w := X.w) hv q
end
end Rm
set_option Elab.async false
set_option linter.all false
set_option maxRecDepth 100000
set_option maxHeartbeats 4000000
/-! Rm, U: loops and comprehensions by invariants. -/
namespace Rm
open PySem L2
theorem forL_inv {a : MG} {body : MS} (P : Nat → Env → Prop) : ∀ {xs : List D} {ρ : Env}, P 0 ρ → (∀ i x ρ, xs[i]? = some x → P i ρ → ∃ ρ1 ρ2, a x ρ = some ρ1 ∧ (body ρ1 = some (.nx ρ2) ∨ body ρ1 = some (.ct ρ2)) ∧ P (i + 1) ρ2) → ∃ ρ', forL a body xs ρ = some (.nx ρ') ∧ P xs.length ρ'
  | [], ρ, h0, _ => ⟨ρ, rfl, h0⟩
  | x :: xs, ρ, h0, st => by
    obtain ⟨ρ1, ρ2, e1, e2, h2⟩ := st 0 x ρ rfl h0
    obtain ⟨ρ', e3, h3⟩ := forL_inv (fun i ρ => P (i + 1) ρ) (xs := xs) h2 fun i y ρ hy hp => st (i + 1) y ρ (by simpa using hy) hp
    refine ⟨ρ', ?_, h3⟩
    unfold forL
    simp only [e1]
    rcases e2 with e2 | e2 <;> simp only [e2] <;> exact e3
/-- with the rest at hand -/
theorem forL_mem {a : MG} {body : MS} (P : List D → Env → Prop) {xs : List D} {ρ : Env} (h0 : P [] ρ) (st : ∀ pre x post ρ, xs = pre ++ x :: post → P pre ρ → ∃ ρ1 ρ2, a x ρ = some ρ1 ∧ (body ρ1 = some (.nx ρ2) ∨ body ρ1 = some (.ct ρ2)) ∧ P (pre ++ [x]) ρ2) : ∃ ρ', forL a body xs ρ = some (.nx ρ') ∧ P xs ρ' := by
  obtain ⟨ρ', e, h⟩ := forL_inv (a := a) (body := body) (fun i ρ => P (xs.take i) ρ) (xs := xs) (ρ := ρ) (by simpa using h0) fun i x ρ hx hp => by
    have hi := (List.getElem?_eq_some_iff.mp hx).1
    have e1 : xs = xs.take i ++ x :: xs.drop (i + 1) := by
      have : xs[i] = x := (List.getElem?_eq_some_iff.mp hx).2
      rw [← this, ← List.drop_eq_getElem_cons hi, List.take_append_drop]
    obtain ⟨ρ1, ρ2, q1, q2, q3⟩ := st (xs.take i) x (xs.drop (i + 1)) ρ e1 hp
    refine ⟨ρ1, ρ2, q1, q2, ?_⟩
    rw [List.take_add_one, hx]
    exact q3
  rw [List.take_length] at h
  exact ⟨ρ', e, h⟩
theorem compL_mem {a : MG} {c : MT} {e : M} {vs : List Nat} (P : List D → List D → Env → Prop) : ∀ {xs : List D} {pre acc : List D} {ρ : Env}, P pre acc ρ →
    (∀ p1 x p2 acc ρ, pre ++ xs = p1 ++ x :: p2 → P p1 acc ρ → ∃ ρ1 b ρ2, a x ρ = some ρ1 ∧ c ρ1 = some (b, ρ2) ∧ (b = false → P (p1 ++ [x]) acc (wipeE ρ2 vs)) ∧ (b = true → ∃ d ρ3, e ρ2 = some (d, ρ3) ∧ P (p1 ++ [x]) (acc ++ [d]) (wipeE ρ3 vs))) →
    ∃ acc' ρ', compL a c e vs xs acc ρ = some (acc', ρ') ∧ P (pre ++ xs) acc' ρ'
  | [], pre, acc, ρ, h, _ => ⟨acc, ρ, rfl, by simpa using h⟩
  | x :: xs, pre, acc, ρ, h, st => by
    obtain ⟨ρ1, b, ρ2, e1, e2, hf, ht⟩ := st pre x xs acc ρ rfl h
    have go : ∀ {acc2 : List D} {ρ4 : Env}, P (pre ++ [x]) acc2 ρ4 → ∃ acc' ρ', compL a c e vs xs acc2 ρ4 = some (acc', ρ') ∧ P (pre ++ x :: xs) acc' ρ' := fun {acc2 ρ4} hp => by
      obtain ⟨acc', ρ', q1, q2⟩ := compL_mem P (xs := xs) (pre := pre ++ [x]) hp fun p1 y p2 acc ρ hh => st p1 y p2 acc ρ (by simpa using hh)
      exact ⟨acc', ρ', q1, by simpa using q2⟩
    cases b with
    | false =>
      obtain ⟨acc', ρ', q1, q2⟩ := go (hf rfl)
      exact ⟨acc', ρ', by unfold compL; simp only [e1, e2]; exact q1, q2⟩
    | true =>
      obtain ⟨d, ρ3, e3, hp⟩ := ht rfl
      obtain ⟨acc', ρ', q1, q2⟩ := go hp
      exact ⟨acc', ρ', by unfold compL; simp only [e1, e2, e3]; exact q1, q2⟩
/-- a comprehension by an invariant of what is read, what is made, the slots -/
theorem comp_mem {i : MI} {a : MG} {c : MT} {e : M} {vs : List Nat} {ρ ρ0 : Env} {xs : List D} (P : List D → List D → Env → Prop) (hi : i ρ = some (xs, ρ0)) (hs : savOk ρ0 vs = true) (hl : xs.length ≤ 100000) (h0 : P [] [] (wipeE ρ0 vs))
    (st : ∀ p1 x p2 acc ρ, xs = p1 ++ x :: p2 → P p1 acc ρ → ∃ ρ1 b ρ2, a x ρ = some ρ1 ∧ c ρ1 = some (b, ρ2) ∧ (b = false → P (p1 ++ [x]) acc (wipeE ρ2 vs)) ∧ (b = true → ∃ d ρ3, e ρ2 = some (d, ρ3) ∧ P (p1 ++ [x]) (acc ++ [d]) (wipeE ρ3 vs))) :
    ∃ acc ρ2, dComp i vs a c e ρ = some (.lst true acc, restE ρ2 ρ0 vs) ∧ P xs acc ρ2 := by
  obtain ⟨acc, ρ2, q1, q2⟩ := compL_mem P (xs := xs) (pre := []) h0 fun p1 x p2 acc ρ hh => st p1 x p2 acc ρ hh
  refine ⟨acc, ρ2, ?_, q2⟩
  unfold dComp
  rw [hi]
  simp only [hs, hl, and_self, if_true, q1]
/-- nothing changes but the own names -/
theorem comp_pure {i : MI} {a : MG} {c : MT} {e : M} {vs : List Nat} {ρ ρ0 : Env} {xs : List D} (p : D → Bool) (f : D → D) (hi : i ρ = some (xs, ρ0)) (hs : savOk ρ0 vs = true) (hl : xs.length ≤ 100000)
    (st : ∀ x ∈ xs, ∃ ρ1, a x (wipeE ρ0 vs) = some ρ1 ∧ c ρ1 = some (p x, ρ1) ∧ (p x = true → e ρ1 = some (f x, ρ1)) ∧ wipeE ρ1 vs = wipeE ρ0 vs) :
    dComp i vs a c e ρ = some (.lst true ((xs.filter p).map f), restE (wipeE ρ0 vs) ρ0 vs) := by
  obtain ⟨acc, ρ2, q1, q2, q3⟩ := comp_mem (i := i) (a := a) (c := c) (e := e) (fun pre acc ρ => ρ = wipeE ρ0 vs ∧ acc = (pre.filter p).map f) hi hs hl ⟨rfl, rfl⟩ fun p1 x p2 acc ρ hx hp => by
    obtain ⟨rfl, rfl⟩ := hp
    obtain ⟨ρ1, e1, e2, e3, e4⟩ := st x (by rw [hx]; simp)
    refine ⟨ρ1, p x, ρ1, e1, e2, fun hb => ⟨e4, by simp [hb]⟩, fun hb => ⟨f x, ρ1, e3 hb, e4, by simp [hb]⟩⟩
  subst q2 q3
  exact q1
theorem comp_all {i : MI} {a : MG} {e : M} {vs : List Nat} {ρ ρ0 : Env} {xs : List D} (f : D → D) (hi : i ρ = some (xs, ρ0)) (hs : savOk ρ0 vs = true) (hl : xs.length ≤ 100000)
    (st : ∀ x ∈ xs, ∃ ρ1, a x (wipeE ρ0 vs) = some ρ1 ∧ e ρ1 = some (f x, ρ1) ∧ wipeE ρ1 vs = wipeE ρ0 vs) : dComp i vs a dYes e ρ = some (.lst true (xs.map f), restE (wipeE ρ0 vs) ρ0 vs) := by
  have := comp_pure (i := i) (a := a) (c := dYes) (e := e) (vs := vs) (ρ := ρ) (fun _ => true) f hi hs hl fun x hx => by
    obtain ⟨ρ1, h1, h2, h3⟩ := st x hx
    exact ⟨ρ1, h1, rfl, fun _ => h2, h3⟩
  rwa [show xs.filter (fun _ => true) = xs from List.filter_eq_self.mpr fun _ _ => rfl] at this
theorem atI_lt {α : Type} {xs : List α} {v : Int} (h0 : 0 ≤ v) (h1 : v < xs.length) : ∃ x, atI xs v = some x ∧ xs[v.toNat]? = some x := by
  have hv : v.toNat < xs.length := by omega
  refine ⟨xs[v.toNat], ?_, List.getElem?_eq_getElem hv⟩
  unfold atI ixN
  rw [if_pos h0, if_pos h1]
  exact List.getElem?_eq_getElem hv
theorem atI_nat' {α : Type} {xs : List α} {n : Nat} : atI xs (n : Int) = xs[n]? := by
  unfold atI ixN
  rw [if_pos (by omega)]
  split
  · rfl
  · rw [List.getElem?_eq_none (by omega)]; rfl
theorem ixN_nat {n j : Nat} (h : j < n) : ixN n (j : Int) = some j := by
  unfold ixN
  rw [if_pos (by omega), if_pos (by omega)]; rfl
theorem noOwns_of {xs : List D} (h : ∀ x ∈ xs, noOwn x = true) : noOwns xs = true := by rw [noOwns_all]; exact List.all_eq_true.mpr h
theorem noOwns_app {xs ys : List D} (h1 : noOwns xs = true) (h2 : noOwns ys = true) : noOwns (xs ++ ys) = true := by rw [noOwns_all] at *; rw [List.all_append, h1, h2]; rfl
theorem frzs_of {xs : List D} (h : noOwns xs = true) : frzs xs = xs := by rw [← shr_eq, shr_of h]
theorem mRange1_nat {oo : Opd} {ρ ρ1 : Env} {n : Nat} (h : evOps [oo] ρ = some ([.int (n : Int)], ρ1)) (hn : n ≤ 100000) : mRange1 oo ρ = some (rangeD 0 n, ρ1) := by
  unfold mRange1
  rw [h]
  have h1 : -(2 ^ 62) ≤ (n : Int) ∧ (n : Int) < 2 ^ 62 := by omega
  simp only [if_pos h1, Int.toNat_natCast]
theorem mRange2_nat {o1 o2 : Opd} {ρ ρ1 : Env} {m n : Nat} (h : evOps [o1, o2] ρ = some ([.int (m : Int), .int (n : Int)], ρ1)) (hm : m ≤ 100000) (hn : n ≤ 100000) : mRange2 o1 o2 ρ = some (rangeD m (n - m), ρ1) := by
  unfold mRange2
  rw [h]
  have h1 : (-(2 ^ 62) ≤ (m : Int) ∧ (m : Int) < 2 ^ 62) ∧ (-(2 ^ 62) ≤ (n : Int) ∧ (n : Int) < 2 ^ 62) := by omega
  simp only [if_pos h1, show ((n : Int) - (m : Int)).toNat = n - m by omega]
theorem mRangeB_nat {o1 o2 o3 : Opd} {ρ ρ1 : Env} {n : Nat} (h : evOps [o1, o2, o3] ρ = some ([.int ((n : Int) - 1), .int (-1), .int (-1)], ρ1)) (hn : n ≤ 100000) : mRangeB o1 o2 o3 ρ = some (rangeN ((n : Int) - 1) (-1) n, ρ1) := by
  unfold mRangeB
  rw [h]
  have h1 : (-(2 ^ 62) ≤ (n : Int) - 1 ∧ (n : Int) - 1 < 2 ^ 62) ∧ (-(2 ^ 62) ≤ (-1 : Int) ∧ (-1 : Int) < 2 ^ 62) := by omega
  simp only [if_pos h1, show ((n : Int) - 1 - -1).toNat = n by omega]
theorem dRg_nat {l : Bool} {oo : Opd} {ρ ρ1 : Env} {n : Nat} (h : evOps [oo] ρ = some ([.int (n : Int)], ρ1)) (hn : n ≤ 100000) : dRg l oo ρ = some (if l then .lst true (rangeD 0 n) else .tup (rangeD 0 n), ρ1) := by
  unfold dRg dOp
  rw [h]
  have h1 : -(2 ^ 62) ≤ (n : Int) ∧ (n : Int) ≤ 100000 := by omega
  simp only [if_pos h1, Int.toNat_natCast]
theorem seq_nx {a b : MS} {ρ ρ1 : Env} (h : a ρ = some (.nx ρ1)) : dSeq a b ρ = b ρ1 := by unfold dSeq; rw [h]
theorem seq_rt {a b : MS} {ρ ρ1 : Env} {d : D} (h : a ρ = some (.rt d ρ1)) : dSeq a b ρ = some (.rt d ρ1) := by unfold dSeq; rw [h]
theorem ret_of {m : M} {ρ ρ1 : Env} {d : D} (h : m ρ = some (d, ρ1)) : dRet m ρ = some (.rt d ρ1) := by unfold dRet; rw [h]
theorem fz_of {m : M} {ρ ρ1 : Env} {d : D} (h : m ρ = some (d, ρ1)) : dFz m ρ = some (frz d, ρ1) := by unfold dFz; rw [h]
theorem op1_of {f : List D → Option D} {m : M} {ρ ρ1 : Env} {d x : D} (h : m ρ = some (d, ρ1)) (hf : f [d] = some x) : dOp f [.e m] ρ = some (x, ρ1) := by unfold dOp; simp only [evOps, h, hf]
theorem opv_of {f : List D → Option D} {i : Nat} {ρ : Env} {d x : D} (h : ρ[i]? = some (some d)) (hf : f [d] = some x) : dOp f [.v i] ρ = some (x, ρ) := by unfold dOp; simp only [evOps, h, hf]
theorem asg_of {m : M} {a : MG} {ρ ρ1 ρ2 : Env} {d : D} (h : m ρ = some (d, ρ1)) (ha : a d ρ1 = some ρ2) : dAsg m a ρ = some (.nx ρ2) := by unfold dAsg; simp only [h, ha]
theorem for_of {i : MI} {a : MG} {b : MS} {ρ ρ1 : Env} {xs : List D} (h : i ρ = some (xs, ρ1)) : dFor i a b ρ = forL a b xs ρ1 := by unfold dFor; rw [h]
theorem if_t {t : MT} {a b : MS} {ρ ρ1 : Env} (h : t ρ = some (true, ρ1)) : dIfS t a b ρ = a ρ1 := by unfold dIfS; rw [h]
theorem if_f {t : MT} {a b : MS} {ρ ρ1 : Env} (h : t ρ = some (false, ρ1)) : dIfS t a b ρ = b ρ1 := by unfold dIfS; rw [h]
theorem t_of {m : M} {ρ ρ1 : Env} {b : Bool} (h : m ρ = some (.bl b, ρ1)) : dT m ρ = some (b, ρ1) := by unfold dT; rw [h]
theorem op_ve {f : List D → Option D} {i : Nat} {m : M} {ρ ρ1 : Env} {d0 d d2 x : D} (h0 : ρ[i]? = some (some d0)) (h : m ρ = some (d2, ρ1)) (h1 : ρ1[i]? = some (some d)) (hf : f [d, d2] = some x) : dOp f [.v i, .e m] ρ = some (x, ρ1) := by unfold dOp; simp only [evOps, h0, h, h1, hf]
theorem op_ev {f : List D → Option D} {i : Nat} {m : M} {ρ ρ1 : Env} {d d2 x : D} (h : m ρ = some (d2, ρ1)) (h1 : ρ1[i]? = some (some d)) (hf : f [d2, d] = some x) : dOp f [.e m, .v i] ρ = some (x, ρ1) := by unfold dOp; simp only [evOps, h, h1, hf]
theorem op_ee {f : List D → Option D} {m m2 : M} {ρ ρ1 ρ2 : Env} {d d2 x : D} (h : m ρ = some (d, ρ1)) (h1 : m2 ρ1 = some (d2, ρ2)) (hf : f [d, d2] = some x) : dOp f [.e m, .e m2] ρ = some (x, ρ2) := by unfold dOp; simp only [evOps, h, h1, hf]
theorem call_ve {F : List D → Option (D × List D)} {i : Nat} {m : M} {ρ ρ1 : Env} {d0 b d2 x b' : D} (h0 : ρ[i]? = some (some d0)) (h : m ρ = some (d2, ρ1)) (h1 : ρ1[i]? = some (some b)) (hF : F [b, d2] = some (x, [b'])) : dCall F [.v i, .e m] [] ρ = some (x, (ρ1.set i none).set i (some b')) := by
  unfold dCall
  simp only [evOps, h0, h, h1, dCallEnd, lendD, List.append_nil, hF, backE]
theorem call_e {F : List D → Option (D × List D)} {m : M} {ρ ρ1 : Env} {d x : D} (h : m ρ = some (d, ρ1)) (hF : F [d] = some (x, [])) : dCall F [.e m] [] ρ = some (x, ρ1) := by
  unfold dCall
  simp only [evOps, h, dCallEnd, lendD, List.append_nil, hF, backE]
theorem tup1_of {m1 : M} {ρ ρ1 : Env} {d1 : D} (h1 : m1 ρ = some (d1, ρ1)) : dTup [m1] ρ = some (.tup [d1], ρ1) := by unfold dTup; simp only [List.map_cons, List.map_nil, evOps, h1]
theorem tup2_of {m1 m2 : M} {ρ ρ1 ρ2 : Env} {d1 d2 : D} (h1 : m1 ρ = some (d1, ρ1)) (h2 : m2 ρ1 = some (d2, ρ2)) : dTup [m1, m2] ρ = some (.tup [d1, d2], ρ2) := by unfold dTup; simp only [List.map_cons, List.map_nil, evOps, h1, h2]
theorem tup3_of {m1 m2 m3 : M} {ρ ρ1 ρ2 ρ3 : Env} {d1 d2 d3 : D} (h1 : m1 ρ = some (d1, ρ1)) (h2 : m2 ρ1 = some (d2, ρ2)) (h3 : m3 ρ2 = some (d3, ρ3)) : dTup [m1, m2, m3] ρ = some (.tup [d1, d2, d3], ρ3) := by unfold dTup; simp only [List.map_cons, List.map_nil, evOps, h1, h2, h3]
theorem lst1_of {m1 : M} {ρ ρ1 : Env} {d1 : D} (h1 : m1 ρ = some (d1, ρ1)) : dLst [m1] ρ = some (.lst true [d1], ρ1) := by unfold dLst; simp only [List.map_cons, List.map_nil, evOps, h1]
theorem v_of {i : Nat} {ρ : Env} {d : D} (h : ρ[i]? = some (some d)) (hn : noOwn d = true) : dV i ρ = some (d, ρ) := by unfold dV; simp only [h, hn, if_true]
theorem vf_of {i : Nat} {ρ : Env} {d d2 : D} (h : ρ[i]? = some (some d)) (hn : noOwn d = false) (hf : frz d = d2) : dV i ρ = some (d2, ρ.set i (some d2)) := by unfold dV; simp only [h, hn, hf]; rfl
/-! operations, behind their things -/
theorem a_oLt (ds : List D) : oLt ds = (oII hLt) ds := rfl
theorem a_oLe (ds : List D) : oLe ds = (oII hLe) ds := rfl
theorem a_oGt (ds : List D) : oGt ds = (oII hGt) ds := rfl
theorem a_oGe (ds : List D) : oGe ds = (oII hGe) ds := rfl
theorem a_oAdd (ds : List D) : oAdd ds = (orF (oII hAdd) (orF oCatL (orF oCatT oCatS))) ds := rfl
theorem a_oSub (ds : List D) : oSub ds = (oII hSub) ds := rfl
theorem a_oMul (ds : List D) : oMul ds = (orF (oII hMul) (orF oRepL oRepT)) ds := rfl
theorem a_oMod (ds : List D) : oMod ds = (oII hMod) ds := rfl
theorem a_oDiv (ds : List D) : oDiv ds = (oII hDiv) ds := rfl
theorem a_oPow (ds : List D) : oPow ds = (oII hPow) ds := rfl
theorem a_oEq (ds : List D) : oEq ds = (orF (oEqF false) (oEqD false)) ds := rfl
theorem a_oNe (ds : List D) : oNe ds = (orF (oEqF true) (oEqD true)) ds := rfl
theorem a_oMin2 (ds : List D) : oMin2 ds = (oII fun i j => some (.int (if j < i then j else i))) ds := rfl
theorem a_oMax2 (ds : List D) : oMax2 ds = (oII fun i j => some (.int (if j > i then j else i))) ds := rfl
theorem oAdd_lst {o o' : Bool} {xs ys : List D} (h1 : noOwns xs = true) (h2 : noOwns ys = true) (hz : xs.length + ys.length ≤ 100000) : oAdd [.lst o xs, .lst o' ys] = some (.lst true (xs ++ ys)) := by
  rw [a_oAdd]
  simp only [orF, oII, oCatL]
  rw [if_pos ⟨⟨h1, h2⟩, hz⟩]
end Rm
set_option Elab.async false
set_option linter.all false
set_option maxRecDepth 100000
set_option maxHeartbeats 4000000
namespace K11
open PySem PySem.Spec L2 Rm
abbrev Env := Rm.Env
def top (i : Nat) : Stmt := PySem.Challenge.pw_roamlook_k11_lots_forth.main.body.getD i (.Pass ⟨0, 0, 0, 0⟩)
abbrev fn_0 : He.DefD := ⟨("_wall", none), "_wall", "_wall", defArgs (top 0), defBody (top 0), defScope (top 0), [], []⟩
abbrev fn_1 : He.DefD := ⟨("is_number", none), "is_number", "is_number", defArgs (top 10), defBody (top 10), defScope (top 10), [], []⟩
abbrev fn_2 : He.DefD := ⟨("spans_from", none), "spans_from", "spans_from", defArgs (top 11), defBody (top 11), defScope (top 11), [], []⟩
abbrev fn_3 : He.DefD := ⟨("is_whole", none), "is_whole", "is_whole", defArgs (top 12), defBody (top 12), defScope (top 12), [], []⟩
abbrev fn_4 : He.DefD := ⟨("Board", some "__init__"), "__init__", "Board.__init__", defArgs (inClass (top 13) 0), defBody (inClass (top 13) 0), defScope (inClass (top 13) 0), [.adr (He.dflAt ("Board", some "__init__") 0)], []⟩
abbrev fn_5 : He.DefD := ⟨("Board", some "__eq__"), "__eq__", "Board.__eq__", defArgs (inClass (top 13) 1), defBody (inClass (top 13) 1), defScope (inClass (top 13) 1), [], []⟩
abbrev fn_6 : He.DefD := ⟨("Board", some "__len__"), "__len__", "Board.__len__", defArgs (inClass (top 13) 2), defBody (inClass (top 13) 2), defScope (inClass (top 13) 2), [], []⟩
abbrev fn_7 : He.DefD := ⟨("Board", some "__str__"), "__str__", "Board.__str__", defArgs (inClass (top 13) 3), defBody (inClass (top 13) 3), defScope (inClass (top 13) 3), [], []⟩
abbrev fn_8 : He.DefD := ⟨("Board", some "__repr__"), "__repr__", "Board.__repr__", defArgs (inClass (top 13) 4), defBody (inClass (top 13) 4), defScope (inClass (top 13) 4), [], []⟩
abbrev fn_9 : He.DefD := ⟨("Board", some "need"), "need", "Board.need", defArgs (inClass (top 13) 5), defBody (inClass (top 13) 5), defScope (inClass (top 13) 5), [], []⟩
abbrev fn_10 : He.DefD := ⟨("Board", some "ways"), "ways", "Board.ways", defArgs (inClass (top 13) 6), defBody (inClass (top 13) 6), defScope (inClass (top 13) 6), [], []⟩
abbrev fn_11 : He.DefD := ⟨("Board", some "onward"), "onward", "Board.onward", defArgs (inClass (top 13) 7), defBody (inClass (top 13) 7), defScope (inClass (top 13) 7), [], []⟩
abbrev fn_12 : He.DefD := ⟨("Board", some "far"), "far", "Board.far", defArgs (inClass (top 13) 8), defBody (inClass (top 13) 8), defScope (inClass (top 13) 8), [], []⟩
abbrev fn_13 : He.DefD := ⟨("Board", some "within"), "within", "Board.within", defArgs (inClass (top 13) 9), defBody (inClass (top 13) 9), defScope (inClass (top 13) 9), [], []⟩
abbrev fn_14 : He.DefD := ⟨("Board", some "turned"), "turned", "Board.turned", defArgs (inClass (top 13) 10), defBody (inClass (top 13) 10), defScope (inClass (top 13) 10), [], []⟩
abbrev fn_15 : He.DefD := ⟨("Board", some "renamed"), "renamed", "Board.renamed", defArgs (inClass (top 13) 11), defBody (inClass (top 13) 11), defScope (inClass (top 13) 11), [], []⟩
abbrev fn_16 : He.DefD := ⟨("is_lot", none), "is_lot", "is_lot", defArgs (top 17), defBody (top 17), defScope (top 17), [], []⟩
abbrev fn_17 : He.DefD := ⟨("is_pace", none), "is_pace", "is_pace", defArgs (top 18), defBody (top 18), defScope (top 18), [], []⟩
abbrev fn_18 : He.DefD := ⟨("stepped", none), "stepped", "stepped", defArgs (top 19), defBody (top 19), defScope (top 19), [], []⟩
abbrev fn_19 : He.DefD := ⟨("are_parts", none), "are_parts", "are_parts", defArgs (top 21), defBody (top 21), defScope (top 21), [], []⟩
abbrev fn_20 : He.DefD := ⟨("is_look", none), "is_look", "is_look", defArgs (top 22), defBody (top 22), defScope (top 22), [], []⟩
abbrev fn_21 : He.DefD := ⟨("answer_at", none), "answer_at", "answer_at", defArgs (top 23), defBody (top 23), defScope (top 23), [], []⟩
abbrev fn_22 : He.DefD := ⟨("are_seen", none), "are_seen", "are_seen", defArgs (top 26), defBody (top 26), defScope (top 26), [], []⟩
abbrev fn_23 : He.DefD := ⟨("look_story", none), "look_story", "look_story", defArgs (top 27), defBody (top 27), defScope (top 27), [], []⟩
abbrev fn_24 : He.DefD := ⟨("last_beat", none), "last_beat", "last_beat", defArgs (top 28), defBody (top 28), defScope (top 28), [], []⟩
abbrev fn_25 : He.DefD := ⟨("in_both", none), "in_both", "in_both", defArgs (top 29), defBody (top 29), defScope (top 29), [], []⟩
abbrev fn_26 : He.DefD := ⟨("answering", none), "answering", "answering", defArgs (top 30), defBody (top 30), defScope (top 30), [], []⟩
abbrev fn_27 : He.DefD := ⟨("open_lots", none), "open_lots", "open_lots", defArgs (top 31), defBody (top 31), defScope (top 31), [], []⟩
abbrev fn_28 : He.DefD := ⟨("forth_of", none), "forth_of", "forth_of", defArgs (top 32), defBody (top 32), defScope (top 32), [], []⟩
abbrev fn_29 : He.DefD := ⟨("forth", none), "forth", "forth", defArgs (top 33), defBody (top 33), defScope (top 33), [], []⟩
abbrev fn_30 : He.DefD := ⟨("_law_box", none), "_law_box", "_law_box", defArgs (top 35), defBody (top 35), defScope (top 35), [], []⟩
abbrev fn_31 : He.DefD := ⟨("_law_pick", none), "_law_pick", "_law_pick", defArgs (top 36), defBody (top 36), defScope (top 36), [], []⟩
abbrev fn_32 : He.DefD := ⟨("_law_from", none), "_law_from", "_law_from", defArgs (top 37), defBody (top 37), defScope (top 37), [], []⟩
abbrev fn_33 : He.DefD := ⟨("_law_mixed", none), "_law_mixed", "_law_mixed", defArgs (top 38), defBody (top 38), defScope (top 38), [], []⟩
abbrev fn_34 : He.DefD := ⟨("_law_same", none), "_law_same", "_law_same", defArgs (top 39), defBody (top 39), defScope (top 39), [], []⟩
abbrev fn_35 : He.DefD := ⟨("_law_ways", none), "_law_ways", "_law_ways", defArgs (top 40), defBody (top 40), defScope (top 40), [], []⟩
abbrev fn_36 : He.DefD := ⟨("_law_board", none), "_law_board", "_law_board", defArgs (top 41), defBody (top 41), defScope (top 41), [], []⟩
abbrev fn_37 : He.DefD := ⟨("_law_made", none), "_law_made", "_law_made", defArgs (top 42), defBody (top 42), defScope (top 42), [], []⟩
abbrev fn_38 : He.DefD := ⟨("_law_spans", none), "_law_spans", "_law_spans", defArgs (top 43), defBody (top 43), defScope (top 43), [], []⟩
abbrev fn_39 : He.DefD := ⟨("_law_pace", none), "_law_pace", "_law_pace", defArgs (top 44), defBody (top 44), defScope (top 44), [], []⟩
abbrev fn_40 : He.DefD := ⟨("_law_reached", none), "_law_reached", "_law_reached", defArgs (top 45), defBody (top 45), defScope (top 45), [], []⟩
abbrev fn_41 : He.DefD := ⟨("_law_lot", none), "_law_lot", "_law_lot", defArgs (top 46), defBody (top 46), defScope (top 46), [], []⟩
abbrev fn_42 : He.DefD := ⟨("_law_start", none), "_law_start", "_law_start", defArgs (top 47), defBody (top 47), defScope (top 47), [], []⟩
abbrev fn_43 : He.DefD := ⟨("_law_look", none), "_law_look", "_law_look", defArgs (top 48), defBody (top 48), defScope (top 48), [], []⟩
abbrev fn_44 : He.DefD := ⟨("_law_answer", none), "_law_answer", "_law_answer", defArgs (top 49), defBody (top 49), defScope (top 49), [], []⟩
abbrev fn_45 : He.DefD := ⟨("_law_seen", none), "_law_seen", "_law_seen", defArgs (top 50), defBody (top 50), defScope (top 50), [], []⟩
abbrev fn_46 : He.DefD := ⟨("_law_story", none), "_law_story", "_law_story", defArgs (top 51), defBody (top 51), defScope (top 51), [], []⟩
abbrev fn_47 : He.DefD := ⟨("_law_ground", none), "_law_ground", "_law_ground", defArgs (top 52), defBody (top 52), defScope (top 52), [], []⟩
abbrev fn_48 : He.DefD := ⟨("_law_open", none), "_law_open", "_law_open", defArgs (top 53), defBody (top 53), defScope (top 53), [], []⟩
abbrev fn_49 : He.DefD := ⟨("_law_both", none), "_law_both", "_law_both", defArgs (top 54), defBody (top 54), defScope (top 54), [], []⟩
abbrev fn_50 : He.DefD := ⟨("_law_forth", none), "_law_forth", "_law_forth", defArgs (top 55), defBody (top 55), defScope (top 55), [], []⟩
abbrev fn_51 : He.DefD := ⟨("_law_big_story", none), "_law_big_story", "_law_big_story", defArgs (top 56), defBody (top 56), defScope (top 56), [], []⟩
abbrev fn_52 : He.DefD := ⟨("law", none), "law", "law", defArgs (top 57), defBody (top 57), defScope (top 57), [], []⟩
def fn0 : List He.DefD := [fn_0, fn_1, fn_2, fn_3, fn_4, fn_5, fn_6, fn_7, fn_8, fn_9, fn_10, fn_11, fn_12, fn_13, fn_14, fn_15, fn_16, fn_17, fn_18, fn_19, fn_20, fn_21, fn_22, fn_23, fn_24, fn_25, fn_26, fn_27, fn_28, fn_29]
def fn1 : List He.DefD := [fn_30, fn_31, fn_32, fn_33, fn_34, fn_35, fn_36, fn_37, fn_38, fn_39, fn_40, fn_41, fn_42, fn_43, fn_44, fn_45, fn_46, fn_47, fn_48, fn_49, fn_50, fn_51, fn_52]
def fn : List He.DefD := fn0 ++ fn1
open He in
def fa0 : List He.Fa := [.free "abs", .free "all", .free "any", .free "bool", .free "enumerate", .free "int", .free "isinstance", .free "len", .free "list", .free "max", .free "min", .free "range", .free "set", .free "sorted", .free "str", .free "tuple", .free "zip", .int "MOST_PLACES" 8, .int "MOST_PACE" 7, .int "MOST_BEATS" 12, .int "MOST_TRIPLES" 24, .glo "_law_box", .glo "_law_pick", .glo "_law_mixed", .glo "_law_ways", .glo "_law_board", .glo "_law_spans", .glo "is_whole", .glo "is_number", .glo "spans_from"]
open He in
def fa1 : List He.Fa := [.glo "_law_made", .glo "_law_ground", .glo "_law_lot", .glo "_law_start", .glo "_law_from", .glo "_law_pace", .glo "_law_reached", .glo "_law_look", .glo "_law_answer", .glo "_law_seen", .glo "_law_story", .glo "_law_big_story", .glo "_law_open", .glo "_law_both", .glo "_law_forth", .glo "is_lot", .glo "is_pace", .glo "are_parts", .glo "is_look", .glo "are_seen", .glo "look_story", .glo "last_beat", .glo "in_both", .glo "answer_at", .glo "answering", .glo "open_lots", .glo "stepped", .glo "forth_of", .glo "forth", .glo "_law_same"]
open He in
def fa2 : List He.Fa := [.glo "law", .cls "Board", .mkr "Board", .glo "Board", .meth "Board" "__init__", .meth "Board" "__len__", .meth "Board" "need", .meth "Board" "far", .meth "Board" "within", .noat "Board" "roads", .noat "Board" "room", .noat "Board" "spans"]
open He in
def fa : List He.Fa := fa0 ++ fa1 ++ fa2
/-! ### the defs -/
def nmT : List PySem.Str := ["__init__", "__eq__", "__len__", "__str__", "__repr__", "need", "ways", "onward", "far", "within", "turned", "renamed", "word", "many", "at", "place", "room", "roads", "spans", "append", "insert"]
def gOf (K : PySem.W.Frag) : G := ⟨K, fun i => match i with
  | 0 => He.ga K "Board"
  | _ => 0, nmOf nmT, nmOf_inj nmT (by decide +kernel) (by decide +kernel)⟩
structure Tops (K : PySem.W.Frag) (mg : PySem.Str → Option Value) : Prop where
  s : He.SaysD fa fn K
  bl_abs : mg "abs" = none
  bl_all : mg "all" = none
  bl_any : mg "any" = none
  bl_bool : mg "bool" = none
  bl_enumerate : mg "enumerate" = none
  bl_int : mg "int" = none
  bl_isinstance : mg "isinstance" = none
  bl_len : mg "len" = none
  bl_list : mg "list" = none
  bl_max : mg "max" = none
  bl_min : mg "min" = none
  bl_range : mg "range" = none
  bl_set : mg "set" = none
  bl_sorted : mg "sorted" = none
  bl_str : mg "str" = none
  bl_tuple : mg "tuple" = none
  bl_zip : mg "zip" = none
  c_MOST_PLACES : ∃ t, mg "MOST_PLACES" = some (.int 8 t)
  c_MOST_PACE : ∃ t, mg "MOST_PACE" = some (.int 7 t)
  c_MOST_BEATS : ∃ t, mg "MOST_BEATS" = some (.int 12 t)
  c_MOST_TRIPLES : ∃ t, mg "MOST_TRIPLES" = some (.int 24 t)
  gl__law_box : mg "_law_box" = some (.ref (He.fAd K ("_law_box", none)))
  gl__law_pick : mg "_law_pick" = some (.ref (He.fAd K ("_law_pick", none)))
  gl__law_mixed : mg "_law_mixed" = some (.ref (He.fAd K ("_law_mixed", none)))
  gl__law_ways : mg "_law_ways" = some (.ref (He.fAd K ("_law_ways", none)))
  gl__law_board : mg "_law_board" = some (.ref (He.fAd K ("_law_board", none)))
  gl__law_spans : mg "_law_spans" = some (.ref (He.fAd K ("_law_spans", none)))
  gl_is_whole : mg "is_whole" = some (.ref (He.fAd K ("is_whole", none)))
  gl_is_number : mg "is_number" = some (.ref (He.fAd K ("is_number", none)))
  gl_spans_from : mg "spans_from" = some (.ref (He.fAd K ("spans_from", none)))
  gl__law_made : mg "_law_made" = some (.ref (He.fAd K ("_law_made", none)))
  gl__law_ground : mg "_law_ground" = some (.ref (He.fAd K ("_law_ground", none)))
  gl__law_lot : mg "_law_lot" = some (.ref (He.fAd K ("_law_lot", none)))
  gl__law_start : mg "_law_start" = some (.ref (He.fAd K ("_law_start", none)))
  gl__law_from : mg "_law_from" = some (.ref (He.fAd K ("_law_from", none)))
  gl__law_pace : mg "_law_pace" = some (.ref (He.fAd K ("_law_pace", none)))
  gl__law_reached : mg "_law_reached" = some (.ref (He.fAd K ("_law_reached", none)))
  gl__law_look : mg "_law_look" = some (.ref (He.fAd K ("_law_look", none)))
  gl__law_answer : mg "_law_answer" = some (.ref (He.fAd K ("_law_answer", none)))
  gl__law_seen : mg "_law_seen" = some (.ref (He.fAd K ("_law_seen", none)))
  gl__law_story : mg "_law_story" = some (.ref (He.fAd K ("_law_story", none)))
  gl__law_big_story : mg "_law_big_story" = some (.ref (He.fAd K ("_law_big_story", none)))
  gl__law_open : mg "_law_open" = some (.ref (He.fAd K ("_law_open", none)))
  gl__law_both : mg "_law_both" = some (.ref (He.fAd K ("_law_both", none)))
  gl__law_forth : mg "_law_forth" = some (.ref (He.fAd K ("_law_forth", none)))
  gl_is_lot : mg "is_lot" = some (.ref (He.fAd K ("is_lot", none)))
  gl_is_pace : mg "is_pace" = some (.ref (He.fAd K ("is_pace", none)))
  gl_are_parts : mg "are_parts" = some (.ref (He.fAd K ("are_parts", none)))
  gl_is_look : mg "is_look" = some (.ref (He.fAd K ("is_look", none)))
  gl_are_seen : mg "are_seen" = some (.ref (He.fAd K ("are_seen", none)))
  gl_look_story : mg "look_story" = some (.ref (He.fAd K ("look_story", none)))
  gl_last_beat : mg "last_beat" = some (.ref (He.fAd K ("last_beat", none)))
  gl_in_both : mg "in_both" = some (.ref (He.fAd K ("in_both", none)))
  gl_answer_at : mg "answer_at" = some (.ref (He.fAd K ("answer_at", none)))
  gl_answering : mg "answering" = some (.ref (He.fAd K ("answering", none)))
  gl_open_lots : mg "open_lots" = some (.ref (He.fAd K ("open_lots", none)))
  gl_stepped : mg "stepped" = some (.ref (He.fAd K ("stepped", none)))
  gl_forth_of : mg "forth_of" = some (.ref (He.fAd K ("forth_of", none)))
  gl_forth : mg "forth" = some (.ref (He.fAd K ("forth", none)))
  gl__law_same : mg "_law_same" = some (.ref (He.fAd K ("_law_same", none)))
  gl_law : mg "law" = some (.ref (He.fAd K ("law", none)))
  cls_Board : Cls K ((gOf K).ca 0)
  mk_Board : Mk K ((gOf K).ca 0) (He.fAd K ("Board", some "__init__"))
  gc_Board : mg "Board" = some (.ref ((gOf K).ca 0))
  me_Board___init__ : Meth K ((gOf K).ca 0) "__init__" (He.fAd K ("Board", some "__init__"))
  me_Board___len__ : Meth K ((gOf K).ca 0) "__len__" (He.fAd K ("Board", some "__len__"))
  me_Board_need : Meth K ((gOf K).ca 0) "need" (He.fAd K ("Board", some "need"))
  me_Board_far : Meth K ((gOf K).ca 0) "far" (He.fAd K ("Board", some "far"))
  me_Board_within : Meth K ((gOf K).ca 0) "within" (He.fAd K ("Board", some "within"))
  na_Board_roads : NoAttr K ((gOf K).ca 0) "roads"
  na_Board_room : NoAttr K ((gOf K).ca 0) "room"
  na_Board_spans : NoAttr K ((gOf K).ca 0) "spans"
-- _law_box: 0 _law_script
def N__law_box : List PySem.Str := ["_law_script"]
def M__law_box : MS :=
  dSeq (dRet (dDct [(.inr ("cells" : PySem.Str), dOp (orF oList oListT) [.e (dOp (oCut false true) [.v 0, .e (dC (.int 63))])]), (.inr ("rest" : PySem.Str), dC (.int 0)), (.inr ("seed" : PySem.Str), dC (.int 9121001)), (.inr ("turn" : PySem.Str), dC (.int 0))]))
  (dNx)
def F__law_box : List D → Option (D × List D) := dFn 1 0 M__law_box
abbrev Ok__law_box (P : Program) (w : World) (K : PySem.W.Frag) (mg : PySem.Str → Option Value) (base : Heap) : Prop := OkF (gOf K) P w K mg base 1 (He.fAd K ("_law_box", none)) ["_law_script"] 0 F__law_box
-- _law_pick: 0 _law_box_here, 1 _law_many, 2 _law_cell, 3 _law_digit, 4 _law_seed
def N__law_pick : List PySem.Str := ["_law_box_here", "_law_many", "_law_cell", "_law_digit", "_law_seed"]
def S__law_pick_0 : MS :=
  dIfS (dAndT (dT (dOp oEq [.e (dPth (rKeyP (rV 0) (qC (.str ("rest" : PySem.Str))))), .e (dC (.int 0))])) (dT (dNil true (rKeyP (rV 0) (qC (.str ("cells" : PySem.Str))))))) (dSeq (dAsg (dMetP (rKeyP (rV 0) (qC (.str ("cells" : PySem.Str)))) lmPopAt [qC (.int 0)]) (gN 2))
  (dSeq (dAsg (dOp oMax2 [.e (dC (.int 0)), .e (dOp oSub [.v 2, .e (dOp oPow [.e (dC (.int 10)), .e (dC (.int 18))])])]) (gSetK (rV 0) (qC (.str ("rest" : PySem.Str)))))
  (dSeq (dAsg (dOp oMod [.e (dOp oAdd [.e (dOp oAdd [.e (dOp oMul [.e (dPth (rKeyP (rV 0) (qC (.str ("seed" : PySem.Str))))), .e (dC (.int 69069))]), .e (dOp oMul [.e (dOp oMod [.v 2, .e (dC (.int 1000003))]), .e (dC (.int 8191))])]), .e (dC (.int 1))]), .e (dC (.int 2147483629))]) (gSetK (rV 0) (qC (.str ("seed" : PySem.Str)))))
  (dNx)))) (dNx)
def S__law_pick_1 : MS :=
  dIfS (dT (dOp oGt [.e (dPth (rKeyP (rV 0) (qC (.str ("rest" : PySem.Str))))), .e (dC (.int 0))])) (dSeq (dAsg (dOp oMod [.e (dPth (rKeyP (rV 0) (qC (.str ("rest" : PySem.Str))))), .v 1]) (gN 3))
  (dSeq (dAsg (dOp oDiv [.e (dPth (rKeyP (rV 0) (qC (.str ("rest" : PySem.Str))))), .v 1]) (gSetK (rV 0) (qC (.str ("rest" : PySem.Str)))))
  (dSeq (dRet (dV 3))
  (dNx)))) (dNx)
def S__law_pick_2 : MS :=
  dAsg (dOp oAdd [.e (dPth (rKeyP (rV 0) (qC (.str ("turn" : PySem.Str))))), .e (dC (.int 1))]) (gSetK (rV 0) (qC (.str ("turn" : PySem.Str))))
def S__law_pick_3 : MS :=
  dAsg (dOp oMod [.e (dOp oAdd [.e (dOp oAdd [.e (dOp oMul [.e (dPth (rKeyP (rV 0) (qC (.str ("seed" : PySem.Str))))), .e (dC (.int 16807))]), .e (dOp oMul [.e (dPth (rKeyP (rV 0) (qC (.str ("turn" : PySem.Str))))), .e (dC (.int 7919))])]), .e (dC (.int 3))]), .e (dC (.int 2147483629))]) (gN 4)
def S__law_pick_4 : MS :=
  dAsg (dOp oMod [.e (dOp oAdd [.e (dOp oAdd [.e (dOp oMul [.v 4, .v 4]), .e (dOp oMul [.e (dC (.int 40692)), .v 4])]), .e (dC (.int 11))]), .e (dC (.int 2147483629))]) (gSetK (rV 0) (qC (.str ("seed" : PySem.Str))))
def S__law_pick_5 : MS :=
  dRet (dFz (dOp oMod [.e (dOp oAdd [.e (dOp oDiv [.e (dPth (rKeyP (rV 0) (qC (.str ("seed" : PySem.Str))))), .e (dC (.int 127))]), .e (dOp oMul [.e (dOp oMod [.e (dPth (rKeyP (rV 0) (qC (.str ("seed" : PySem.Str))))), .e (dC (.int 127))]), .e (dC (.int 4099))])]), .v 1]))
def M__law_pick : MS :=
  dSeq (S__law_pick_0)
  (dSeq (S__law_pick_1)
  (dSeq (S__law_pick_2)
  (dSeq (S__law_pick_3)
  (dSeq (S__law_pick_4)
  (dSeq (S__law_pick_5)
  (dNx))))))
def F__law_pick : List D → Option (D × List D) := dFn 5 1 M__law_pick
abbrev Ok__law_pick (P : Program) (w : World) (K : PySem.W.Frag) (mg : PySem.Str → Option Value) (base : Heap) : Prop := OkF (gOf K) P w K mg base 1 (He.fAd K ("_law_pick", none)) ["_law_box_here", "_law_many"] 1 F__law_pick
-- _law_mixed: 0 _law_box_here, 1 _law_things, 2 _law_found, 3 _law_thing
def N__law_mixed : List PySem.Str := ["_law_box_here", "_law_things", "_law_found", "_law_thing"]
def S__law_mixed_0 : MS :=
  dAsg (dLst []) (gN 2)
def B__law_mixed_1 : MS :=
  dSeq (dExpr (dMetV 2 lmIns [dCall F__law_pick [.v 0, .e (dOp oAdd [.e (dOp oLen [.v 2]), .e (dC (.int 1))])] [], dV 3]))
  (dNx)
def S__law_mixed_2 : MS :=
  dFor (mSeq (dV 1)) (gN 3) (B__law_mixed_1)
def S__law_mixed_3 : MS :=
  dRet (dV 2)
def M__law_mixed : MS :=
  dSeq (S__law_mixed_0)
  (dSeq (S__law_mixed_2)
  (dSeq (S__law_mixed_3)
  (dNx)))
def F__law_mixed : List D → Option (D × List D) := dFn 4 1 M__law_mixed
abbrev Ok__law_mixed (P : Program) (w : World) (K : PySem.W.Frag) (mg : PySem.Str → Option Value) (base : Heap) : Prop := OkF (gOf K) P w K mg base 2 (He.fAd K ("_law_mixed", none)) ["_law_box_here", "_law_things"] 1 F__law_mixed
-- _law_ways: 0 _law_box_here, 1 _law_many, 2 _law_every, 3 _law_one, 4 _law_sort, 5 _law_thick, 6 _law_other, 7 _law_way
def N__law_ways : List PySem.Str := ["_law_box_here", "_law_many", "_law_every", "_law_one", "_law_sort", "_law_thick", "_law_other", "_law_way"]
def S__law_ways_0 : MS :=
  dAsg (dLst []) (gN 2)
def B__law_ways_1 : MS :=
  dSeq (dAsg (dOp oAdd [.v 2, .e (dComp (mRange1 (.v 1)) [6] (gN 6) (dT (dOp oNe [.v 6, .v 3])) (dTup [dV 3, dV 6]))]) (gN 2))
  (dNx)
def S__law_ways_2 : MS :=
  dFor (mRange1 (.v 1)) (gN 3) (B__law_ways_1)
def S__law_ways_3 : MS :=
  dAsg (dTup [dCall F__law_pick [.v 0, .e (dC (.int 8))] [], dOp oAdd [.e (dC (.int 1)), .e (dCall F__law_pick [.v 0, .e (dC (.int 5))] [])]]) (gTp 2 (gsCons (gN 4) (gsCons (gN 5) (gsNil))))
def S__law_ways_4 : MS :=
  dIfS (dT (dOp oEq [.v 4, .e (dC (.int 0))])) (dSeq (dRet (dFz (dComp (mSeq (dV 2)) [7] (gN 7) (dT (dOp oEq [.e (dPth (rIxP (rV 7) (qC (.int 1)))), .e (dOp oAdd [.e (dPth (rIxP (rV 7) (qC (.int 0)))), .e (dC (.int 1))])])) (dV 7))))
  (dNx)) (dNx)
def S__law_ways_5 : MS :=
  dIfS (dT (dOp oEq [.v 4, .e (dC (.int 1))])) (dSeq (dRet (dFz (dComp (mSeq (dV 2)) [7] (gN 7) (dT (dOp oEq [.e (dOp oAbs [.e (dOp oSub [.e (dPth (rIxP (rV 7) (qC (.int 1)))), .e (dPth (rIxP (rV 7) (qC (.int 0))))])]), .e (dC (.int 1))])) (dV 7))))
  (dNx)) (dNx)
def S__law_ways_6 : MS :=
  dIfS (dT (dOp oEq [.v 4, .e (dC (.int 2))])) (dSeq (dRet (dFz (dComp (mSeq (dV 2)) [7] (gN 7) (dT (dOp oEq [.e (dPth (rIxP (rV 7) (qC (.int 1)))), .e (dOp oMod [.e (dOp oAdd [.e (dPth (rIxP (rV 7) (qC (.int 0)))), .e (dC (.int 1))]), .v 1])])) (dV 7))))
  (dNx)) (dNx)
def S__law_ways_7 : MS :=
  dIfS (dT (dOp oEq [.v 4, .e (dC (.int 3))])) (dSeq (dRet (dFz (dComp (mSeq (dV 2)) [7] (gN 7) (dT (dOp (oIn false) [.e (dC (.int 0)), .v 7])) (dV 7))))
  (dNx)) (dNx)
def S__law_ways_8 : MS :=
  dIfS (dT (dOp oEq [.v 4, .e (dC (.int 4))])) (dSeq (dRet (dV 2))
  (dNx)) (dNx)
def S__law_ways_9 : MS :=
  dRet (dFz (dCall F__law_mixed [.v 0, .e (dComp (mSeq (dV 2)) [7] (gN 7) (dT (dOp oLt [.e (dCall F__law_pick [.v 0, .e (dC (.int 6))] []), .v 5])) (dV 7))] []))
def M__law_ways : MS :=
  dSeq (S__law_ways_0)
  (dSeq (S__law_ways_2)
  (dSeq (S__law_ways_3)
  (dSeq (S__law_ways_4)
  (dSeq (S__law_ways_5)
  (dSeq (S__law_ways_6)
  (dSeq (S__law_ways_7)
  (dSeq (S__law_ways_8)
  (dSeq (S__law_ways_9)
  (dNx)))))))))
def F__law_ways : List D → Option (D × List D) := dFn 8 1 M__law_ways
abbrev Ok__law_ways (P : Program) (w : World) (K : PySem.W.Frag) (mg : PySem.Str → Option Value) (base : Heap) : Prop := OkF (gOf K) P w K mg base 3 (He.fAd K ("_law_ways", none)) ["_law_box_here", "_law_many"] 1 F__law_ways
-- _law_board: 0 _law_box_here, 1 _law_most, 2 _law_many
def N__law_board : List PySem.Str := ["_law_box_here", "_law_most", "_law_many"]
def S__law_board_0 : MS :=
  dAsg (dIf (dT (dOp oEq [.e (dCall F__law_pick [.v 0, .e (dC (.int 3))] []), .e (dC (.int 0))])) (dV 1) (dOp oAdd [.e (dC (.int 1)), .e (dCall F__law_pick [.v 0, .e (dV 1)] [])])) (gN 2)
def S__law_board_1 : MS :=
  dRet (dFz (dTup [dV 2, dCall F__law_ways [.v 0, .e (dV 2)] []]))
def M__law_board : MS :=
  dSeq (S__law_board_0)
  (dSeq (S__law_board_1)
  (dNx))
def F__law_board : List D → Option (D × List D) := dFn 3 1 M__law_board
abbrev Ok__law_board (P : Program) (w : World) (K : PySem.W.Frag) (mg : PySem.Str → Option Value) (base : Heap) : Prop := OkF (gOf K) P w K mg base 4 (He.fAd K ("_law_board", none)) ["_law_box_here", "_law_most"] 1 F__law_board
-- _law_spans: 0 _law_board_here, 1 _law_many, 2 _law_ways_here, 3 _law_spans_here, 4 _law_one, 5 _law_other, 6 _law_middle
def N__law_spans : List PySem.Str := ["_law_board_here", "_law_many", "_law_ways_here", "_law_spans_here", "_law_one", "_law_other", "_law_middle"]
def S__law_spans_0 : MS :=
  dAsg (dV 0) (gTp 2 (gsCons (gN 1) (gsCons (gN 2) (gsNil))))
def S__law_spans_1 : MS :=
  dAsg (dComp (mRange1 (.v 1)) [4] (gN 4) (dYes) (dComp (mRange1 (.v 1)) [5] (gN 5) (dYes) (dOp oMul [.e (dC (.int 99)), .e (dOp oInt [.e (dOp oNe [.v 4, .v 5])])]))) (gN 3)
def B__law_spans_2 : MS :=
  dSeq (dAsg (dC (.int 1)) (gSetL (rIxP (rV 3) (qV 4)) (qV 5)))
  (dNx)
def S__law_spans_3 : MS :=
  dFor (mSeq (dV 2)) (gTp 2 (gsCons (gN 4) (gsCons (gN 5) (gsNil)))) (B__law_spans_2)
def B__law_spans_4 : MS :=
  dSeq (dAsg (dOp oMin3 [.e (dPth (rIxP (rIxP (rV 3) (qV 4)) (qV 5))), .e (dOp oAdd [.e (dPth (rIxP (rIxP (rV 3) (qV 4)) (qV 6))), .e (dPth (rIxP (rIxP (rV 3) (qV 6)) (qV 5)))]), .e (dC (.int 99))]) (gSetL (rIxP (rV 3) (qV 4)) (qV 5)))
  (dNx)
def B__law_spans_5 : MS :=
  dSeq (dFor (mRange1 (.v 1)) (gN 5) (B__law_spans_4))
  (dNx)
def B__law_spans_6 : MS :=
  dSeq (dFor (mRange1 (.v 1)) (gN 4) (B__law_spans_5))
  (dNx)
def S__law_spans_7 : MS :=
  dFor (mRange1 (.v 1)) (gN 6) (B__law_spans_6)
def S__law_spans_8 : MS :=
  dRet (dV 3)
def M__law_spans : MS :=
  dSeq (S__law_spans_0)
  (dSeq (S__law_spans_1)
  (dSeq (S__law_spans_3)
  (dSeq (S__law_spans_7)
  (dSeq (S__law_spans_8)
  (dNx)))))
def F__law_spans : List D → Option (D × List D) := dFn 7 0 M__law_spans
abbrev Ok__law_spans (P : Program) (w : World) (K : PySem.W.Frag) (mg : PySem.Str → Option Value) (base : Heap) : Prop := OkF (gOf K) P w K mg base 1 (He.fAd K ("_law_spans", none)) ["_law_board_here"] 0 F__law_spans
-- is_whole: 0 thing
def N_is_whole : List PySem.Str := ["thing"]
def M_is_whole : MS :=
  dSeq (dRet (dAnd (dOp (oIsi isI) [.v 0]) (dNot (dOp (oIsi isB) [.v 0]))))
  (dNx)
def F_is_whole : List D → Option (D × List D) := dFn 1 0 M_is_whole
abbrev Ok_is_whole (P : Program) (w : World) (K : PySem.W.Frag) (mg : PySem.Str → Option Value) (base : Heap) : Prop := OkF (gOf K) P w K mg base 1 (He.fAd K ("is_whole", none)) ["thing"] 0 F_is_whole
-- is_number: 0 thing, 1 low, 2 high
def N_is_number : List PySem.Str := ["thing", "low", "high"]
def M_is_number : MS :=
  dSeq (dRet (dAnd (dCall F_is_whole [.e (dV 0)] []) (dCh oLe oLe (dV 1) (dV 0) (dV 2))))
  (dNx)
def F_is_number : List D → Option (D × List D) := dFn 3 0 M_is_number
abbrev Ok_is_number (P : Program) (w : World) (K : PySem.W.Frag) (mg : PySem.Str → Option Value) (base : Heap) : Prop := OkF (gOf K) P w K mg base 2 (He.fAd K ("is_number", none)) ["thing", "low", "high"] 0 F_is_number
-- spans_from: 0 many, 1 roads, 2 start, 3 spans, 4 line, 5 later, 6 here, 7 one, 8 other
def N_spans_from : List PySem.Str := ["many", "roads", "start", "spans", "line", "later", "here", "one", "other"]
def S_spans_from_0 : MS :=
  dAsg (dOp oMul [.e (dLst [dC (.non)]), .v 0]) (gN 3)
def S_spans_from_1 : MS :=
  dAsg (dC (.int 0)) (gSetL (rV 3) (qV 2))
def S_spans_from_2 : MS :=
  dAsg (dLst [dV 2]) (gN 4)
def B_spans_from_3 : MS :=
  dSeq (dIfS (dAndT (dT (dOp oEq [.v 7, .v 6])) (dT (dOp (oIsN false) [.e (dPth (rIxP (rV 3) (qV 8))), .e (dC (.non))]))) (dSeq (dAsg (dOp oAdd [.e (dPth (rIxP (rV 3) (qV 6))), .e (dC (.int 1))]) (gSetL (rV 3) (qV 8)))
  (dSeq (dExpr (dMetV 5 lmApp [dV 8]))
  (dNx))) (dNx))
  (dNx)
def B_spans_from_4 : MS :=
  dSeq (dFor (mSeq (dV 1)) (gTp 2 (gsCons (gN 7) (gsCons (gN 8) (gsNil)))) (B_spans_from_3))
  (dNx)
def B_spans_from_5 : MS :=
  dSeq (dAsg (dLst []) (gN 5))
  (dSeq (dFor (mSeq (dV 4)) (gN 6) (B_spans_from_4))
  (dSeq (dAsg (dV 5) (gN 4))
  (dNx)))
def S_spans_from_6 : MS :=
  whL (dT (dOp oNe [.v 4, .e (dLst [])])) (B_spans_from_5) 20
def S_spans_from_7 : MS :=
  dRet (dV 3)
def M_spans_from : MS :=
  dSeq (S_spans_from_0)
  (dSeq (S_spans_from_1)
  (dSeq (S_spans_from_2)
  (dSeq (S_spans_from_6)
  (dSeq (S_spans_from_7)
  (dNx)))))
def F_spans_from : List D → Option (D × List D) := dFn 9 0 M_spans_from
abbrev Ok_spans_from (P : Program) (w : World) (K : PySem.W.Frag) (mg : PySem.Str → Option Value) (base : Heap) : Prop := OkF (gOf K) P w K mg base 1 (He.fAd K ("spans_from", none)) ["many", "roads", "start"] 0 F_spans_from
-- Board.__init__: 0 self, 1 many, 2 ways, 3 roads, 4 at, 5 one, 6 other, 7 good, 8 start
def N_Board___init__ : List PySem.Str := ["self", "many", "ways", "roads", "at", "one", "other", "good", "start"]
def S_Board___init___0 : MS :=
  dIfS (dNotT (dT (dCall F_is_number [.e (dV 1), .e (dC (.int 1)), .e (dC (.int 8))] []))) (dStop) (dNx)
def S_Board___init___1 : MS :=
  dAsg (dC (.dct true (.t []) [])) (gN 3)
def B_Board___init___2 : MS :=
  dSeq (dAsg (dAnd (dCall F_is_number [.e (dV 5), .e (dC (.int 0)), .e (dOp oSub [.v 1, .e (dC (.int 1))])] []) (dAnd (dCall F_is_number [.e (dV 6), .e (dC (.int 0)), .e (dOp oSub [.v 1, .e (dC (.int 1))])] []) (dOp oNe [.v 5, .v 6]))) (gN 7))
  (dSeq (dIfS (dOrT (dNotT (dT (dV 7))) (dT (dInT false (qK [qV 5, qV 6]) (rV 3)))) (dStop) (dNx))
  (dSeq (dAsg (dC (.bl true)) (gSetT (rV 3) (qK [qV 5, qV 6])))
  (dNx)))
def S_Board___init___3 : MS :=
  dFor (mEnum (dV 2)) (gTp 2 (gsCons (gN 4) (gsCons (gTp 2 (gsCons (gN 5) (gsCons (gN 6) (gsNil)))) (gsNil)))) (B_Board___init___2)
def S_Board___init___4 : MS :=
  dFldS (dV 1) (rV 0) 0 16
def S_Board___init___5 : MS :=
  dFldS (dFz (dOp (orF oSortI oSortD) [.e (dOp (orF oList oListT) [.v 3])])) (rV 0) 0 17
def S_Board___init___6 : MS :=
  dFldS (dFz (dComp (mRange1 (.v 1)) [8] (gN 8) (dYes) (dCall F_spans_from [.e (dV 1), .e (dPth (rFld (rV 0) 0 17)), .e (dV 8)] []))) (rV 0) 0 18
def M_Board___init__ : MS :=
  dSeq (S_Board___init___0)
  (dSeq (S_Board___init___1)
  (dSeq (S_Board___init___3)
  (dSeq (S_Board___init___4)
  (dSeq (S_Board___init___5)
  (dSeq (S_Board___init___6)
  (dNx))))))
def F_Board___init__ : List D → Option (D × List D) := dFn 9 1 M_Board___init__
abbrev Ok_Board___init__ (P : Program) (w : World) (K : PySem.W.Frag) (mg : PySem.Str → Option Value) (base : Heap) : Prop := OkF (gOf K) P w K mg base 3 (He.fAd K ("Board", some "__init__")) ["self", "many", "ways"] 1 F_Board___init__
-- _law_made: 0 _law_board_here
def N__law_made : List PySem.Str := ["_law_board_here"]
def M__law_made : MS :=
  dSeq (dRet (dFz (dMake F_Board___init__ 0 [dPth (rIxP (rV 0) (qC (.int 0))), dOp (orF oList oListT) [.e (dPth (rIxP (rV 0) (qC (.int 1))))]] [])))
  (dNx)
def F__law_made : List D → Option (D × List D) := dFn 1 0 M__law_made
abbrev Ok__law_made (P : Program) (w : World) (K : PySem.W.Frag) (mg : PySem.Str → Option Value) (base : Heap) : Prop := OkF (gOf K) P w K mg base 5 (He.fAd K ("_law_made", none)) ["_law_board_here"] 0 F__law_made
-- _law_ground: 0 _law_box_here, 1 _law_most, 2 _law_board_here
def N__law_ground : List PySem.Str := ["_law_box_here", "_law_most", "_law_board_here"]
def S__law_ground_0 : MS :=
  dAsg (dCall F__law_board [.v 0, .e (dV 1)] []) (gN 2)
def S__law_ground_1 : MS :=
  dRet (dFz (dTup [dV 2, dCall F__law_spans [.e (dV 2)] [], dCall F__law_made [.e (dV 2)] []]))
def M__law_ground : MS :=
  dSeq (S__law_ground_0)
  (dSeq (S__law_ground_1)
  (dNx))
def F__law_ground : List D → Option (D × List D) := dFn 3 1 M__law_ground
abbrev Ok__law_ground (P : Program) (w : World) (K : PySem.W.Frag) (mg : PySem.Str → Option Value) (base : Heap) : Prop := OkF (gOf K) P w K mg base 6 (He.fAd K ("_law_ground", none)) ["_law_box_here", "_law_most"] 1 F__law_ground
-- _law_lot: 0 _law_box_here, 1 _law_many, 2 _law_thick, 3 _law_place
def N__law_lot : List PySem.Str := ["_law_box_here", "_law_many", "_law_thick", "_law_place"]
def S__law_lot_0 : MS :=
  dIfS (dT (dOp oEq [.e (dCall F__law_pick [.v 0, .e (dC (.int 5))] []), .e (dC (.int 0))])) (dSeq (dRet (dFz (dRg false (.v 1))))
  (dNx)) (dNx)
def S__law_lot_1 : MS :=
  dAsg (dOp oAdd [.e (dC (.int 1)), .e (dCall F__law_pick [.v 0, .e (dC (.int 4))] [])]) (gN 2)
def S__law_lot_2 : MS :=
  dRet (dFz (dOp oTup [.e (dComp (mRange1 (.v 1)) [3] (gN 3) (dT (dOp oLt [.e (dCall F__law_pick [.v 0, .e (dC (.int 5))] []), .v 2])) (dV 3))]))
def M__law_lot : MS :=
  dSeq (S__law_lot_0)
  (dSeq (S__law_lot_1)
  (dSeq (S__law_lot_2)
  (dNx)))
def F__law_lot : List D → Option (D × List D) := dFn 4 1 M__law_lot
abbrev Ok__law_lot (P : Program) (w : World) (K : PySem.W.Frag) (mg : PySem.Str → Option Value) (base : Heap) : Prop := OkF (gOf K) P w K mg base 2 (He.fAd K ("_law_lot", none)) ["_law_box_here", "_law_many"] 1 F__law_lot
-- _law_start: 0 _law_box_here, 1 _law_many, 2 _law_lot_here
def N__law_start : List PySem.Str := ["_law_box_here", "_law_many", "_law_lot_here"]
def S__law_start_0 : MS :=
  dAsg (dCall F__law_lot [.v 0, .e (dV 1)] []) (gN 2)
def S__law_start_1 : MS :=
  dRet (dFz (dIf (dT (dOp oNe [.v 2, .e (dTup [])])) (dV 2) (dTup [dCall F__law_pick [.v 0, .e (dV 1)] []])))
def M__law_start : MS :=
  dSeq (S__law_start_0)
  (dSeq (S__law_start_1)
  (dNx))
def F__law_start : List D → Option (D × List D) := dFn 3 1 M__law_start
abbrev Ok__law_start (P : Program) (w : World) (K : PySem.W.Frag) (mg : PySem.Str → Option Value) (base : Heap) : Prop := OkF (gOf K) P w K mg base 3 (He.fAd K ("_law_start", none)) ["_law_box_here", "_law_many"] 1 F__law_start
-- _law_from: 0 _law_box_here, 1 _law_menu
def N__law_from : List PySem.Str := ["_law_box_here", "_law_menu"]
def M__law_from : MS :=
  dSeq (dRet (dFz (dOp oIx [.v 1, .e (dCall F__law_pick [.v 0, .e (dOp oLen [.v 1])] [])])))
  (dNx)
def F__law_from : List D → Option (D × List D) := dFn 2 1 M__law_from
abbrev Ok__law_from (P : Program) (w : World) (K : PySem.W.Frag) (mg : PySem.Str → Option Value) (base : Heap) : Prop := OkF (gOf K) P w K mg base 2 (He.fAd K ("_law_from", none)) ["_law_box_here", "_law_menu"] 1 F__law_from
-- _law_pace: 0 _law_box_here, 1 _law_many, 2 _law_k
def N__law_pace : List PySem.Str := ["_law_box_here", "_law_many", "_law_k"]
def S__law_pace_0 : MS :=
  dIfS (dT (dOp oEq [.e (dCall F__law_pick [.v 0, .e (dC (.int 2))] []), .e (dC (.int 0))])) (dSeq (dRet (dFz (dOp oMul [.e (dTup [dCall F__law_from [.v 0, .e (dLst [dC (.int 0), dC (.int 1), dC (.int 1), dC (.int 2), dC (.int 3), dC (.int 7)])] []]), .v 1])))
  (dNx)) (dNx)
def S__law_pace_1 : MS :=
  dRet (dFz (dOp oTup [.e (dComp (mRange1 (.v 1)) [2] (gN 2) (dYes) (dCall F__law_from [.v 0, .e (dLst [dC (.int 0), dC (.int 1), dC (.int 1), dC (.int 2), dC (.int 3), dC (.int 4), dC (.int 5), dC (.int 6), dC (.int 7)])] []))]))
def M__law_pace : MS :=
  dSeq (S__law_pace_0)
  (dSeq (S__law_pace_1)
  (dNx))
def F__law_pace : List D → Option (D × List D) := dFn 3 1 M__law_pace
abbrev Ok__law_pace (P : Program) (w : World) (K : PySem.W.Frag) (mg : PySem.Str → Option Value) (base : Heap) : Prop := OkF (gOf K) P w K mg base 3 (He.fAd K ("_law_pace", none)) ["_law_box_here", "_law_many"] 1 F__law_pace
-- _law_reached: 0 _law_spans_here, 1 _law_pace_here, 2 _law_lot_here, 3 _law_to, 4 _law_one
def N__law_reached : List PySem.Str := ["_law_spans_here", "_law_pace_here", "_law_lot_here", "_law_to", "_law_one"]
def M__law_reached : MS :=
  dSeq (dRet (dFz (dOp oTup [.e (dComp (mRange1 (.e (dOp oLen [.v 0]))) [3] (gN 3) (dT (dOp oAny [.e (dComp (mSeq (dV 2)) [4] (gN 4) (dYes) (dOp oLe [.e (dPth (rIxP (rIxP (rV 0) (qV 4)) (qV 3))), .e (dPth (rIxP (rV 1) (qV 4)))]))])) (dV 3))])))
  (dNx)
def F__law_reached : List D → Option (D × List D) := dFn 5 0 M__law_reached
abbrev Ok__law_reached (P : Program) (w : World) (K : PySem.W.Frag) (mg : PySem.Str → Option Value) (base : Heap) : Prop := OkF (gOf K) P w K mg base 1 (He.fAd K ("_law_reached", none)) ["_law_spans_here", "_law_pace_here", "_law_lot_here"] 0 F__law_reached
-- _law_look: 0 _law_box_here, 1 _law_many, 2 _law_kind, 3 _law_parts, 4 _law_signs, 5 _law_lots, 6 _law_place, 7 _law_sign
def N__law_look : List PySem.Str := ["_law_box_here", "_law_many", "_law_kind", "_law_parts", "_law_signs", "_law_lots", "_law_place", "_law_sign"]
def S__law_look_0 : MS :=
  dAsg (dCall F__law_pick [.v 0, .e (dC (.int 3))] []) (gN 2)
def S__law_look_1 : MS :=
  dIfS (dT (dOp oEq [.v 2, .e (dC (.int 0))])) (dSeq (dRet (dFz (dTup [dC (.str ("in" : PySem.Str)), dCall F__law_lot [.v 0, .e (dV 1)] []])))
  (dNx)) (dNx)
def S__law_look_2 : MS :=
  dIfS (dT (dOp oEq [.v 2, .e (dC (.int 1))])) (dSeq (dAsg (dCall F__law_from [.v 0, .e (dLst [dC (.int 1), dC (.int 2), dC (.int 3), dC (.int 4), dC (.int 8)])] []) (gN 3))
  (dSeq (dAsg (dComp (mRange1 (.v 1)) [6] (gN 6) (dYes) (dCall F__law_pick [.v 0, .e (dV 3)] [])) (gN 4))
  (dSeq (dAsg (dComp (mSeq (dOp oSortU [.v 4])) [7] (gN 7) (dYes) (dOp oTup [.e (dComp (mRange1 (.v 1)) [6] (gN 6) (dT (dOp oEq [.e (dPth (rIxP (rV 4) (qV 6))), .v 7])) (dV 6))])) (gN 5))
  (dSeq (dRet (dFz (dTup [dC (.str ("parts" : PySem.Str)), dOp oTup [.e (dCall F__law_mixed [.v 0, .e (dV 5)] [])]])))
  (dNx))))) (dNx)
def S__law_look_3 : MS :=
  dRet (dFz (dTup [dC (.str ("near" : PySem.Str)), dCall F__law_pick [.v 0, .e (dV 1)] [], dCall F__law_from [.v 0, .e (dLst [dC (.int 0), dC (.int 1), dC (.int 2), dC (.int 7), dC (.int 3), dC (.int 4), dC (.int 5), dC (.int 6)])] []]))
def M__law_look : MS :=
  dSeq (S__law_look_0)
  (dSeq (S__law_look_1)
  (dSeq (S__law_look_2)
  (dSeq (S__law_look_3)
  (dNx))))
def F__law_look : List D → Option (D × List D) := dFn 8 1 M__law_look
abbrev Ok__law_look (P : Program) (w : World) (K : PySem.W.Frag) (mg : PySem.Str → Option Value) (base : Heap) : Prop := OkF (gOf K) P w K mg base 3 (He.fAd K ("_law_look", none)) ["_law_box_here", "_law_many"] 1 F__law_look
-- _law_answer: 0 _law_spans_here, 1 _law_look_here, 2 _law_place, 3 _law_lot_here
def N__law_answer : List PySem.Str := ["_law_spans_here", "_law_look_here", "_law_place", "_law_lot_here"]
def S__law_answer_0 : MS :=
  dIfS (dT (dOp oEq [.e (dPth (rIxP (rV 1) (qC (.int 0)))), .e (dC (.str ("in" : PySem.Str)))])) (dSeq (dRet (dOp oInt [.e (dOp (oIn false) [.v 2, .e (dPth (rIxP (rV 1) (qC (.int 1))))])]))
  (dNx)) (dNx)
def S__law_answer_1 : MS :=
  dIfS (dT (dOp oEq [.e (dPth (rIxP (rV 1) (qC (.int 0)))), .e (dC (.str ("parts" : PySem.Str)))])) (dSeq (dRet (dFz (dIdx (dComp (mSeq (dPth (rIxP (rV 1) (qC (.int 1))))) [3] (gN 3) (dYes) (dOp (oIn false) [.v 2, .v 3])) (dC (.bl true)))))
  (dNx)) (dNx)
def S__law_answer_2 : MS :=
  dRet (dOp oMin2 [.e (dPth (rIxP (rIxP (rV 0) (qV 2)) (qP (rIxP (rV 1) (qC (.int 1)))))), .e (dOp oAdd [.e (dPth (rIxP (rV 1) (qC (.int 2)))), .e (dC (.int 1))])])
def M__law_answer : MS :=
  dSeq (S__law_answer_0)
  (dSeq (S__law_answer_1)
  (dSeq (S__law_answer_2)
  (dNx)))
def F__law_answer : List D → Option (D × List D) := dFn 4 0 M__law_answer
abbrev Ok__law_answer (P : Program) (w : World) (K : PySem.W.Frag) (mg : PySem.Str → Option Value) (base : Heap) : Prop := OkF (gOf K) P w K mg base 1 (He.fAd K ("_law_answer", none)) ["_law_spans_here", "_law_look_here", "_law_place"] 0 F__law_answer
-- _law_seen: 0 _law_box_here, 1 _law_board_here, 2 _law_spans_here, 3 _law_walk, 4 _law_most, 5 _law_many, 6 _law_rows, 7 _law_k, 8 _law_beat, 9 _law_look_here, 10 _law_answer_here
def N__law_seen : List PySem.Str := ["_law_box_here", "_law_board_here", "_law_spans_here", "_law_walk", "_law_most", "_law_many", "_law_rows", "_law_k", "_law_beat", "_law_look_here", "_law_answer_here"]
def S__law_seen_0 : MS :=
  dPar 5 6 (dPth (rIxP (rV 1) (qC (.int 0)))) (dLst [])
def B__law_seen_1 : MS :=
  dSeq (dPar 8 9 (dCall F__law_pick [.v 0, .e (dOp oLen [.v 3])] []) (dCall F__law_look [.v 0, .e (dV 5)] []))
  (dSeq (dAsg (dCall F__law_answer [.e (dV 2), .e (dV 9), .e (dPth (rIxP (rV 3) (qV 8)))] []) (gN 10))
  (dSeq (dIfS (dT (dOp oEq [.e (dCall F__law_pick [.v 0, .e (dC (.int 7))] []), .e (dC (.int 0))])) (dSeq (dAsg (dCall F__law_answer [.e (dV 2), .e (dV 9), .e (dCall F__law_pick [.v 0, .e (dV 5)] [])] []) (gN 10))
  (dNx)) (dNx))
  (dSeq (dExpr (dMetV 6 lmApp [dTup [dV 8, dV 9, dV 10]]))
  (dNx))))
def S__law_seen_2 : MS :=
  dFor (mRange1 (.e (dCall F__law_pick [.v 0, .e (dOp oAdd [.v 4, .e (dC (.int 1))])] []))) (gN 7) (B__law_seen_1)
def S__law_seen_3 : MS :=
  dRet (dFz (dOp oTup [.v 6]))
def M__law_seen : MS :=
  dSeq (S__law_seen_0)
  (dSeq (S__law_seen_2)
  (dSeq (S__law_seen_3)
  (dNx)))
def F__law_seen : List D → Option (D × List D) := dFn 11 1 M__law_seen
abbrev Ok__law_seen (P : Program) (w : World) (K : PySem.W.Frag) (mg : PySem.Str → Option Value) (base : Heap) : Prop := OkF (gOf K) P w K mg base 4 (He.fAd K ("_law_seen", none)) ["_law_box_here", "_law_board_here", "_law_spans_here", "_law_walk", "_law_most"] 1 F__law_seen
-- _law_story: 0 _law_box_here, 1 _law_board_here, 2 _law_spans_here, 3 _law_beats, 4 _law_most, 5 _law_many, 6 _law_lot_here, 7 _law_paces, 8 _law_walk, 9 _law_pace_here, 10 _law_k
def N__law_story : List PySem.Str := ["_law_box_here", "_law_board_here", "_law_spans_here", "_law_beats", "_law_most", "_law_many", "_law_lot_here", "_law_paces", "_law_walk", "_law_pace_here", "_law_k"]
def S__law_story_0 : MS :=
  dAsg (dPth (rIxP (rV 1) (qC (.int 0)))) (gN 5)
def S__law_story_1 : MS :=
  dPar 6 7 (dCall F__law_start [.v 0, .e (dV 5)] []) (dOp oTup [.e (dComp (mRange1 (.v 3)) [10] (gN 10) (dYes) (dCall F__law_pace [.v 0, .e (dV 5)] []))])
def S__law_story_2 : MS :=
  dAsg (dLst [dCall F__law_from [.v 0, .e (dV 6)] []]) (gN 8)
def B__law_story_3 : MS :=
  dSeq (dExpr (dMetV 8 lmApp [dCall F__law_from [.v 0, .e (dCall F__law_reached [.e (dV 2), .e (dV 9), .e (dTup [dPth (rIxP (rV 8) (qNeg (qC (.int 1))))])] [])] []]))
  (dNx)
def S__law_story_4 : MS :=
  dFor (mSeq (dV 7)) (gN 9) (B__law_story_3)
def S__law_story_5 : MS :=
  dRet (dFz (dTup [dV 6, dV 7, dCall F__law_seen [.v 0, .e (dV 1), .e (dV 2), .e (dV 8), .e (dV 4)] []]))
def M__law_story : MS :=
  dSeq (S__law_story_0)
  (dSeq (S__law_story_1)
  (dSeq (S__law_story_2)
  (dSeq (S__law_story_4)
  (dSeq (S__law_story_5)
  (dNx)))))
def F__law_story : List D → Option (D × List D) := dFn 11 1 M__law_story
abbrev Ok__law_story (P : Program) (w : World) (K : PySem.W.Frag) (mg : PySem.Str → Option Value) (base : Heap) : Prop := OkF (gOf K) P w K mg base 5 (He.fAd K ("_law_story", none)) ["_law_box_here", "_law_board_here", "_law_spans_here", "_law_beats", "_law_most"] 1 F__law_story
-- _law_big_story: 0 _law_box_here, 1 _law_most, 2 _law_board_here, 3 _law_spans_here, 4 _law_here
def N__law_big_story : List PySem.Str := ["_law_box_here", "_law_most", "_law_board_here", "_law_spans_here", "_law_here"]
def S__law_big_story_0 : MS :=
  dAsg (dCall F__law_ground [.v 0, .e (dC (.int 8))] []) (gTp 3 (gsCons (gN 2) (gsCons (gN 3) (gsCons (gN 4) (gsNil)))))
def S__law_big_story_1 : MS :=
  dRet (dFz (dTup [dV 3, dV 4, dCall F__law_story [.v 0, .e (dV 2), .e (dV 3), .e (dCall F__law_from [.v 0, .e (dLst [dC (.int 0), dC (.int 1), dC (.int 12), dOp oAdd [.e (dC (.int 2)), .e (dCall F__law_pick [.v 0, .e (dC (.int 11))] [])]])] []), .e (dV 1)] []]))
def M__law_big_story : MS :=
  dSeq (S__law_big_story_0)
  (dSeq (S__law_big_story_1)
  (dNx))
def F__law_big_story : List D → Option (D × List D) := dFn 5 1 M__law_big_story
abbrev Ok__law_big_story (P : Program) (w : World) (K : PySem.W.Frag) (mg : PySem.Str → Option Value) (base : Heap) : Prop := OkF (gOf K) P w K mg base 7 (He.fAd K ("_law_big_story", none)) ["_law_box_here", "_law_most"] 1 F__law_big_story
-- _law_open: 0 _law_spans_here, 1 _law_story_here, 2 _law_lots, 3 _law_beat, 4 _law_asked, 5 _law_lot_here, 6 _law_place, 7 _law_answer_here, 8 _law_look_here, 9 _law_when
def N__law_open : List PySem.Str := ["_law_spans_here", "_law_story_here", "_law_lots", "_law_beat", "_law_asked", "_law_lot_here", "_law_place", "_law_answer_here", "_law_look_here", "_law_when"]
def S__law_open_0 : MS :=
  dAsg (dLst []) (gN 2)
def B__law_open_1 : MS :=
  dSeq (dIfS (dT (dOp oAll [.e (dComp (mSeq (dV 4)) [8, 7] (gTp 2 (gsCons (gN 8) (gsCons (gN 7) (gsNil)))) (dYes) (dOp oEq [.e (dCall F__law_answer [.e (dV 0), .e (dV 8), .e (dV 6)] []), .v 7]))])) (dSeq (dExpr (dMetV 5 lmApp [dV 6]))
  (dNx)) (dNx))
  (dNx)
def B__law_open_2 : MS :=
  dSeq (dAsg (dComp (mSeq (dPth (rIxP (rV 1) (qC (.int 2))))) [9, 8, 7] (gTp 3 (gsCons (gN 9) (gsCons (gN 8) (gsCons (gN 7) (gsNil))))) (dT (dOp oEq [.v 9, .v 3])) (dTup [dV 8, dV 7])) (gN 4))
  (dSeq (dAsg (dLst []) (gN 5))
  (dSeq (dFor (mRange1 (.e (dOp oLen [.v 0]))) (gN 6) (B__law_open_1))
  (dSeq (dExpr (dMetV 2 lmApp [dOp oTup [.v 5]]))
  (dNx))))
def S__law_open_3 : MS :=
  dFor (mRange1 (.e (dOp oAdd [.e (dOp oLen [.e (dPth (rIxP (rV 1) (qC (.int 1))))]), .e (dC (.int 1))]))) (gN 3) (B__law_open_2)
def S__law_open_4 : MS :=
  dRet (dV 2)
def M__law_open : MS :=
  dSeq (S__law_open_0)
  (dSeq (S__law_open_3)
  (dSeq (S__law_open_4)
  (dNx)))
def F__law_open : List D → Option (D × List D) := dFn 10 0 M__law_open
abbrev Ok__law_open (P : Program) (w : World) (K : PySem.W.Frag) (mg : PySem.Str → Option Value) (base : Heap) : Prop := OkF (gOf K) P w K mg base 2 (He.fAd K ("_law_open", none)) ["_law_spans_here", "_law_story_here"] 0 F__law_open
-- _law_both: 0 _law_one, 1 _law_other, 2 _law_place
def N__law_both : List PySem.Str := ["_law_one", "_law_other", "_law_place"]
def M__law_both : MS :=
  dSeq (dRet (dFz (dOp oTup [.e (dComp (mSeq (dV 0)) [2] (gN 2) (dT (dOp (oIn false) [.v 2, .v 1])) (dV 2))])))
  (dNx)
def F__law_both : List D → Option (D × List D) := dFn 3 0 M__law_both
abbrev Ok__law_both (P : Program) (w : World) (K : PySem.W.Frag) (mg : PySem.Str → Option Value) (base : Heap) : Prop := OkF (gOf K) P w K mg base 1 (He.fAd K ("_law_both", none)) ["_law_one", "_law_other"] 0 F__law_both
-- _law_forth: 0 _law_spans_here, 1 _law_story_here, 2 _law_lots, 3 _law_found, 4 _law_beat
def N__law_forth : List PySem.Str := ["_law_spans_here", "_law_story_here", "_law_lots", "_law_found", "_law_beat"]
def S__law_forth_0 : MS :=
  dAsg (dCall F__law_open [.e (dV 0), .e (dV 1)] []) (gN 2)
def S__law_forth_1 : MS :=
  dAsg (dLst [dCall F__law_both [.e (dPth (rIxP (rV 1) (qC (.int 0)))), .e (dPth (rIxP (rV 2) (qC (.int 0))))] []]) (gN 3)
def B__law_forth_2 : MS :=
  dSeq (dExpr (dMetV 3 lmApp [dCall F__law_both [.e (dCall F__law_reached [.e (dV 0), .e (dPth (rIxP (rIxP (rV 1) (qC (.int 1))) (qV 4))), .e (dPth (rIxP (rV 3) (qNeg (qC (.int 1)))))] []), .e (dPth (rIxP (rV 2) (qOp (oII hAdd) (qV 4) (qC (.int 1)))))] []]))
  (dNx)
def S__law_forth_3 : MS :=
  dFor (mRange1 (.e (dOp oLen [.e (dPth (rIxP (rV 1) (qC (.int 1))))]))) (gN 4) (B__law_forth_2)
def S__law_forth_4 : MS :=
  dRet (dV 3)
def M__law_forth : MS :=
  dSeq (S__law_forth_0)
  (dSeq (S__law_forth_1)
  (dSeq (S__law_forth_3)
  (dSeq (S__law_forth_4)
  (dNx))))
def F__law_forth : List D → Option (D × List D) := dFn 5 0 M__law_forth
abbrev Ok__law_forth (P : Program) (w : World) (K : PySem.W.Frag) (mg : PySem.Str → Option Value) (base : Heap) : Prop := OkF (gOf K) P w K mg base 3 (He.fAd K ("_law_forth", none)) ["_law_spans_here", "_law_story_here"] 0 F__law_forth
-- Board.__len__: 0 self
def N_Board___len__ : List PySem.Str := ["self"]
def M_Board___len__ : MS :=
  dSeq (dRet (dOp oLen [.e (dPth (rFld (rV 0) 0 18))]))
  (dNx)
def F_Board___len__ : List D → Option (D × List D) := dFn 1 1 M_Board___len__
abbrev Ok_Board___len__ (P : Program) (w : World) (K : PySem.W.Frag) (mg : PySem.Str → Option Value) (base : Heap) : Prop := OkF (gOf K) P w K mg base 1 (He.fAd K ("Board", some "__len__")) ["self"] 1 F_Board___len__
-- is_lot: 0 board, 1 lot, 2 place, 3 one, 4 other
def N_is_lot : List PySem.Str := ["board", "lot", "place", "one", "other"]
def S_is_lot_0 : MS :=
  dIfS (dOrT (dNotT (dT (dOp (oIsi isT) [.v 1]))) (dNotT (dT (dOp oAll [.e (dComp (mSeq (dV 1)) [2] (gN 2) (dYes) (dCall F_is_number [.e (dV 2), .e (dC (.int 0)), .e (dOp oSub [.e (dLenO F_Board___len__ 0 2 (.v 0)), .e (dC (.int 1))])] []))])))) (dSeq (dRet (dC (.bl false)))
  (dNx)) (dNx)
def S_is_lot_1 : MS :=
  dRet (dOp oAll [.e (dComp (mZip2 (dV 1) (dOp (oCut true false) [.v 1, .e (dC (.int 1))])) [3, 4] (gTp 2 (gsCons (gN 3) (gsCons (gN 4) (gsNil)))) (dYes) (dOp oLt [.v 3, .v 4]))])
def M_is_lot : MS :=
  dSeq (S_is_lot_0)
  (dSeq (S_is_lot_1)
  (dNx))
def F_is_lot : List D → Option (D × List D) := dFn 5 0 M_is_lot
abbrev Ok_is_lot (P : Program) (w : World) (K : PySem.W.Frag) (mg : PySem.Str → Option Value) (base : Heap) : Prop := OkF (gOf K) P w K mg base 3 (He.fAd K ("is_lot", none)) ["board", "lot"] 0 F_is_lot
-- is_pace: 0 board, 1 pace, 2 most
def N_is_pace : List PySem.Str := ["board", "pace", "most"]
def S_is_pace_0 : MS :=
  dIfS (dOrT (dNotT (dT (dOp (oIsi isT) [.v 1]))) (dT (dOp oNe [.e (dOp oLen [.v 1]), .e (dLenO F_Board___len__ 0 2 (.v 0))]))) (dSeq (dRet (dC (.bl false)))
  (dNx)) (dNx)
def S_is_pace_1 : MS :=
  dRet (dOp oAll [.e (dComp (mSeq (dV 1)) [2] (gN 2) (dYes) (dCall F_is_number [.e (dV 2), .e (dC (.int 0)), .e (dC (.int 7))] []))])
def M_is_pace : MS :=
  dSeq (S_is_pace_0)
  (dSeq (S_is_pace_1)
  (dNx))
def F_is_pace : List D → Option (D × List D) := dFn 3 0 M_is_pace
abbrev Ok_is_pace (P : Program) (w : World) (K : PySem.W.Frag) (mg : PySem.Str → Option Value) (base : Heap) : Prop := OkF (gOf K) P w K mg base 3 (He.fAd K ("is_pace", none)) ["board", "pace"] 0 F_is_pace
-- are_parts: 0 board, 1 lots, 2 lot, 3 place
def N_are_parts : List PySem.Str := ["board", "lots", "lot", "place"]
def S_are_parts_0 : MS :=
  dIfS (dNotT (dT (dOp oAll [.e (dComp (mSeq (dV 1)) [2] (gN 2) (dYes) (dAnd (dCall F_is_lot [.e (dV 0), .e (dV 2)] []) (dOp oNe [.v 2, .e (dTup [])])))]))) (dSeq (dRet (dC (.bl false)))
  (dNx)) (dNx)
def S_are_parts_1 : MS :=
  dRet (dOp oEq [.e (dOp (orF oSortI oSortD) [.e (dComp2 (mSeq (dV 1)) [2, 3] (gN 2) (dYes) (mSeq (dV 2)) [3] (gN 3) (dYes) (dV 3))]), .e (dRg true (.e (dLenO F_Board___len__ 0 2 (.v 0))))])
def M_are_parts : MS :=
  dSeq (S_are_parts_0)
  (dSeq (S_are_parts_1)
  (dNx))
def F_are_parts : List D → Option (D × List D) := dFn 4 0 M_are_parts
abbrev Ok_are_parts (P : Program) (w : World) (K : PySem.W.Frag) (mg : PySem.Str → Option Value) (base : Heap) : Prop := OkF (gOf K) P w K mg base 4 (He.fAd K ("are_parts", none)) ["board", "lots"] 0 F_are_parts
-- is_look: 0 board, 1 look, 2 word, 3 things
def N_is_look : List PySem.Str := ["board", "look", "word", "things"]
def S_is_look_0 : MS :=
  dAsg (dV 1) (gStr 2 1 (gsCons (gN 2) (gsCons (gN 3) (gsNil))))
def S_is_look_1 : MS :=
  dIfS (dT (dOp oEq [.v 2, .e (dC (.str ("in" : PySem.Str)))])) (dSeq (dRet (dAnd (dOp oEq [.e (dOp oLen [.v 3]), .e (dC (.int 1))]) (dCall F_is_lot [.e (dV 0), .e (dPth (rIxP (rV 3) (qC (.int 0))))] [])))
  (dNx)) (dNx)
def S_is_look_2 : MS :=
  dIfS (dT (dOp oEq [.v 2, .e (dC (.str ("parts" : PySem.Str)))])) (dSeq (dRet (dAnd (dOp oEq [.e (dOp oLen [.v 3]), .e (dC (.int 1))]) (dCall F_are_parts [.e (dV 0), .e (dPth (rIxP (rV 3) (qC (.int 0))))] [])))
  (dNx)) (dNx)
def S_is_look_3 : MS :=
  dIfS (dOrT (dT (dOp oNe [.v 2, .e (dC (.str ("near" : PySem.Str)))])) (dT (dOp oNe [.e (dOp oLen [.v 3]), .e (dC (.int 2))]))) (dSeq (dRet (dC (.bl false)))
  (dNx)) (dNx)
def S_is_look_4 : MS :=
  dRet (dAnd (dCall F_is_number [.e (dPth (rIxP (rV 3) (qC (.int 0)))), .e (dC (.int 0)), .e (dOp oSub [.e (dLenO F_Board___len__ 0 2 (.v 0)), .e (dC (.int 1))])] []) (dCall F_is_number [.e (dPth (rIxP (rV 3) (qC (.int 1)))), .e (dC (.int 0)), .e (dC (.int 7))] []))
def M_is_look : MS :=
  dSeq (S_is_look_0)
  (dSeq (S_is_look_1)
  (dSeq (S_is_look_2)
  (dSeq (S_is_look_3)
  (dSeq (S_is_look_4)
  (dNx)))))
def F_is_look : List D → Option (D × List D) := dFn 4 0 M_is_look
abbrev Ok_is_look (P : Program) (w : World) (K : PySem.W.Frag) (mg : PySem.Str → Option Value) (base : Heap) : Prop := OkF (gOf K) P w K mg base 5 (He.fAd K ("is_look", none)) ["board", "look"] 0 F_is_look
-- are_seen: 0 board, 1 seen, 2 last, 3 beat, 4 look, 5 answer
def N_are_seen : List PySem.Str := ["board", "seen", "last", "beat", "look", "answer"]
def S_are_seen_0 : MS :=
  dIfS (dOrT (dNotT (dT (dOp (oIsi isT) [.v 1]))) (dT (dOp oGt [.e (dOp oLen [.v 1]), .e (dC (.int 24))]))) (dSeq (dRet (dC (.bl false)))
  (dNx)) (dNx)
def B_are_seen_1 : MS :=
  dSeq (dIfS (dOrT (dNotT (dT (dCall F_is_number [.e (dV 3), .e (dC (.int 0)), .e (dV 2)] []))) (dOrT (dNotT (dT (dCall F_is_whole [.e (dV 5)] []))) (dNotT (dT (dCall F_is_look [.e (dV 0), .e (dV 4)] []))))) (dSeq (dRet (dC (.bl false)))
  (dNx)) (dNx))
  (dNx)
def S_are_seen_2 : MS :=
  dFor (mSeq (dV 1)) (gTp 3 (gsCons (gN 3) (gsCons (gN 4) (gsCons (gN 5) (gsNil))))) (B_are_seen_1)
def S_are_seen_3 : MS :=
  dRet (dC (.bl true))
def M_are_seen : MS :=
  dSeq (S_are_seen_0)
  (dSeq (S_are_seen_2)
  (dSeq (S_are_seen_3)
  (dNx)))
def F_are_seen : List D → Option (D × List D) := dFn 6 0 M_are_seen
abbrev Ok_are_seen (P : Program) (w : World) (K : PySem.W.Frag) (mg : PySem.Str → Option Value) (base : Heap) : Prop := OkF (gOf K) P w K mg base 6 (He.fAd K ("are_seen", none)) ["board", "seen", "last"] 0 F_are_seen
-- look_story: 0 board, 1 story, 2 lot, 3 paces, 4 seen, 5 pace
def N_look_story : List PySem.Str := ["board", "story", "lot", "paces", "seen", "pace"]
def S_look_story_0 : MS :=
  dAsg (dV 1) (gTp 3 (gsCons (gN 2) (gsCons (gN 3) (gsCons (gN 4) (gsNil)))))
def S_look_story_1 : MS :=
  dIfS (dOrT (dNotT (dT (dCall F_is_lot [.e (dV 0), .e (dV 2)] []))) (dT (dOp oEq [.v 2, .e (dTup [])]))) (dStop) (dNx)
def S_look_story_2 : MS :=
  dIfS (dOrT (dNotT (dT (dOp (oIsi isT) [.v 3]))) (dOrT (dT (dOp oGt [.e (dOp oLen [.v 3]), .e (dC (.int 12))])) (dNotT (dT (dOp oAll [.e (dComp (mSeq (dV 3)) [5] (gN 5) (dYes) (dCall F_is_pace [.e (dV 0), .e (dV 5)] []))]))))) (dStop) (dNx)
def S_look_story_3 : MS :=
  dIfS (dNotT (dT (dCall F_are_seen [.e (dV 0), .e (dV 4), .e (dOp oLen [.v 3])] []))) (dStop) (dNx)
def M_look_story : MS :=
  dSeq (S_look_story_0)
  (dSeq (S_look_story_1)
  (dSeq (S_look_story_2)
  (dSeq (S_look_story_3)
  (dNx))))
def F_look_story : List D → Option (D × List D) := dFn 6 0 M_look_story
abbrev Ok_look_story (P : Program) (w : World) (K : PySem.W.Frag) (mg : PySem.Str → Option Value) (base : Heap) : Prop := OkF (gOf K) P w K mg base 7 (He.fAd K ("look_story", none)) ["board", "story"] 0 F_look_story
-- last_beat: 0 story
def N_last_beat : List PySem.Str := ["story"]
def M_last_beat : MS :=
  dSeq (dRet (dOp oLen [.e (dPth (rIxP (rV 0) (qC (.int 1))))]))
  (dNx)
def F_last_beat : List D → Option (D × List D) := dFn 1 0 M_last_beat
abbrev Ok_last_beat (P : Program) (w : World) (K : PySem.W.Frag) (mg : PySem.Str → Option Value) (base : Heap) : Prop := OkF (gOf K) P w K mg base 1 (He.fAd K ("last_beat", none)) ["story"] 0 F_last_beat
-- in_both: 0 one, 1 other, 2 place
def N_in_both : List PySem.Str := ["one", "other", "place"]
def M_in_both : MS :=
  dSeq (dRet (dFz (dOp oTup [.e (dComp (mSeq (dV 0)) [2] (gN 2) (dT (dOp (oIn false) [.v 2, .v 1])) (dV 2))])))
  (dNx)
def F_in_both : List D → Option (D × List D) := dFn 3 0 M_in_both
abbrev Ok_in_both (P : Program) (w : World) (K : PySem.W.Frag) (mg : PySem.Str → Option Value) (base : Heap) : Prop := OkF (gOf K) P w K mg base 1 (He.fAd K ("in_both", none)) ["one", "other"] 0 F_in_both
-- Board.need: 0 self, 1 place
def N_Board_need : List PySem.Str := ["self", "place"]
def M_Board_need : MS :=
  dSeq (dIfS (dNotT (dT (dCall F_is_number [.e (dV 1), .e (dC (.int 0)), .e (dOp oSub [.e (dPth (rFld (rV 0) 0 16)), .e (dC (.int 1))])] []))) (dStop) (dNx))
  (dNx)
def F_Board_need : List D → Option (D × List D) := dFn 2 1 M_Board_need
abbrev Ok_Board_need (P : Program) (w : World) (K : PySem.W.Frag) (mg : PySem.Str → Option Value) (base : Heap) : Prop := OkF (gOf K) P w K mg base 3 (He.fAd K ("Board", some "need")) ["self", "place"] 1 F_Board_need
-- Board.far: 0 self, 1 one, 2 other
def N_Board_far : List PySem.Str := ["self", "one", "other"]
def S_Board_far_0 : MS :=
  dExpr (dMethV F_Board_need 0 5 0 [.e (dV 1)] [])
def S_Board_far_1 : MS :=
  dExpr (dMethV F_Board_need 0 5 0 [.e (dV 2)] [])
def S_Board_far_2 : MS :=
  dRet (dFz (dPth (rIxP (rIxP (rFld (rV 0) 0 18) (qV 1)) (qV 2))))
def M_Board_far : MS :=
  dSeq (S_Board_far_0)
  (dSeq (S_Board_far_1)
  (dSeq (S_Board_far_2)
  (dNx)))
def F_Board_far : List D → Option (D × List D) := dFn 3 1 M_Board_far
abbrev Ok_Board_far (P : Program) (w : World) (K : PySem.W.Frag) (mg : PySem.Str → Option Value) (base : Heap) : Prop := OkF (gOf K) P w K mg base 4 (He.fAd K ("Board", some "far")) ["self", "one", "other"] 1 F_Board_far
-- answer_at: 0 board, 1 look, 2 place, 3 span, 4 lot
def N_answer_at : List PySem.Str := ["board", "look", "place", "span", "lot"]
def S_answer_at_0 : MS :=
  dIfS (dT (dOp oEq [.e (dPth (rIxP (rV 1) (qC (.int 0)))), .e (dC (.str ("in" : PySem.Str)))])) (dSeq (dRet (dOp oInt [.e (dOp (oIn false) [.v 2, .e (dPth (rIxP (rV 1) (qC (.int 1))))])]))
  (dNx)) (dNx)
def S_answer_at_1 : MS :=
  dIfS (dT (dOp oEq [.e (dPth (rIxP (rV 1) (qC (.int 0)))), .e (dC (.str ("parts" : PySem.Str)))])) (dSeq (dRet (dFz (dIdx (dComp (mSeq (dPth (rIxP (rV 1) (qC (.int 1))))) [4] (gN 4) (dYes) (dOp (oIn false) [.v 2, .v 4])) (dC (.bl true)))))
  (dNx)) (dNx)
def S_answer_at_2 : MS :=
  dAsg (dMethV F_Board_far 0 8 0 [.e (dV 2), .e (dPth (rIxP (rV 1) (qC (.int 1))))] []) (gN 3)
def S_answer_at_3 : MS :=
  dRet (dFz (dIf (dAndT (dT (dOp (oIsN true) [.v 3, .e (dC (.non))])) (dT (dOp oLe [.v 3, .e (dPth (rIxP (rV 1) (qC (.int 2))))]))) (dV 3) (dOp oAdd [.e (dPth (rIxP (rV 1) (qC (.int 2)))), .e (dC (.int 1))])))
def M_answer_at : MS :=
  dSeq (S_answer_at_0)
  (dSeq (S_answer_at_1)
  (dSeq (S_answer_at_2)
  (dSeq (S_answer_at_3)
  (dNx))))
def F_answer_at : List D → Option (D × List D) := dFn 5 0 M_answer_at
abbrev Ok_answer_at (P : Program) (w : World) (K : PySem.W.Frag) (mg : PySem.Str → Option Value) (base : Heap) : Prop := OkF (gOf K) P w K mg base 5 (He.fAd K ("answer_at", none)) ["board", "look", "place"] 0 F_answer_at
-- answering: 0 board, 1 look, 2 answer, 3 place
def N_answering : List PySem.Str := ["board", "look", "answer", "place"]
def M_answering : MS :=
  dSeq (dRet (dFz (dOp oTup [.e (dComp (mRange1 (.e (dLenO F_Board___len__ 0 2 (.v 0)))) [3] (gN 3) (dT (dOp oEq [.e (dCall F_answer_at [.e (dV 0), .e (dV 1), .e (dV 3)] []), .v 2])) (dV 3))])))
  (dNx)
def F_answering : List D → Option (D × List D) := dFn 4 0 M_answering
abbrev Ok_answering (P : Program) (w : World) (K : PySem.W.Frag) (mg : PySem.Str → Option Value) (base : Heap) : Prop := OkF (gOf K) P w K mg base 6 (He.fAd K ("answering", none)) ["board", "look", "answer"] 0 F_answering
-- open_lots: 0 board, 1 story, 2 every, 3 lots, 4 beat, 5 look, 6 answer
def N_open_lots : List PySem.Str := ["board", "story", "every", "lots", "beat", "look", "answer"]
def S_open_lots_0 : MS :=
  dAsg (dRg false (.e (dLenO F_Board___len__ 0 2 (.v 0)))) (gN 2)
def S_open_lots_1 : MS :=
  dAsg (dComp (mRange1 (.e (dOp oAdd [.e (dCall F_last_beat [.e (dV 1)] []), .e (dC (.int 1))]))) [4] (gN 4) (dYes) (dV 2)) (gN 3)
def B_open_lots_2 : MS :=
  dSeq (dAsg (dCall F_in_both [.e (dPth (rIxP (rV 3) (qV 4))), .e (dCall F_answering [.e (dV 0), .e (dV 5), .e (dV 6)] [])] []) (gSetL (rV 3) (qV 4)))
  (dNx)
def S_open_lots_3 : MS :=
  dFor (mSeq (dPth (rIxP (rV 1) (qC (.int 2))))) (gTp 3 (gsCons (gN 4) (gsCons (gN 5) (gsCons (gN 6) (gsNil))))) (B_open_lots_2)
def S_open_lots_4 : MS :=
  dRet (dV 3)
def M_open_lots : MS :=
  dSeq (S_open_lots_0)
  (dSeq (S_open_lots_1)
  (dSeq (S_open_lots_3)
  (dSeq (S_open_lots_4)
  (dNx))))
def F_open_lots : List D → Option (D × List D) := dFn 7 0 M_open_lots
abbrev Ok_open_lots (P : Program) (w : World) (K : PySem.W.Frag) (mg : PySem.Str → Option Value) (base : Heap) : Prop := OkF (gOf K) P w K mg base 7 (He.fAd K ("open_lots", none)) ["board", "story"] 0 F_open_lots
-- Board.within: 0 self, 1 place, 2 most, 3 at, 4 span
def N_Board_within : List PySem.Str := ["self", "place", "most", "at", "span"]
def S_Board_within_0 : MS :=
  dExpr (dMethV F_Board_need 0 5 0 [.e (dV 1)] [])
def S_Board_within_1 : MS :=
  dRet (dFz (dOp oTup [.e (dComp (mEnum (dPth (rIxP (rFld (rV 0) 0 18) (qV 1)))) [3, 4] (gTp 2 (gsCons (gN 3) (gsCons (gN 4) (gsNil)))) (dAndT (dT (dOp (oIsN true) [.v 4, .e (dC (.non))])) (dT (dOp oLe [.v 4, .v 2]))) (dV 3))]))
def M_Board_within : MS :=
  dSeq (S_Board_within_0)
  (dSeq (S_Board_within_1)
  (dNx))
def F_Board_within : List D → Option (D × List D) := dFn 5 1 M_Board_within
abbrev Ok_Board_within (P : Program) (w : World) (K : PySem.W.Frag) (mg : PySem.Str → Option Value) (base : Heap) : Prop := OkF (gOf K) P w K mg base 4 (He.fAd K ("Board", some "within")) ["self", "place", "most"] 1 F_Board_within
-- stepped: 0 board, 1 pace, 2 lot, 3 place, 4 to
def N_stepped : List PySem.Str := ["board", "pace", "lot", "place", "to"]
def M_stepped : MS :=
  dSeq (dRet (dFz (dOp oTup [.e (dSc2 (mSeq (dV 2)) [3, 4] (gN 3) (dYes) (mSeq (dMethV F_Board_within 0 9 0 [.e (dV 3), .e (dPth (rIxP (rV 1) (qV 3)))] [])) [4] (gN 4) (dYes) (dV 4))])))
  (dNx)
def F_stepped : List D → Option (D × List D) := dFn 5 0 M_stepped
abbrev Ok_stepped (P : Program) (w : World) (K : PySem.W.Frag) (mg : PySem.Str → Option Value) (base : Heap) : Prop := OkF (gOf K) P w K mg base 5 (He.fAd K ("stepped", none)) ["board", "pace", "lot"] 0 F_stepped
-- forth_of: 0 board, 1 story, 2 first, 3 later, 4 found, 5 pace, 6 here
def N_forth_of : List PySem.Str := ["board", "story", "first", "later", "found", "pace", "here"]
def S_forth_of_0 : MS :=
  dAsg (dCall F_open_lots [.e (dV 0), .e (dV 1)] []) (gStr 2 1 (gsCons (gN 2) (gsCons (gN 3) (gsNil))))
def S_forth_of_1 : MS :=
  dAsg (dLst [dCall F_in_both [.e (dPth (rIxP (rV 1) (qC (.int 0)))), .e (dV 2)] []]) (gN 4)
def B_forth_of_2 : MS :=
  dSeq (dExpr (dMetV 4 lmApp [dCall F_in_both [.e (dCall F_stepped [.e (dV 0), .e (dV 5), .e (dPth (rIxP (rV 4) (qNeg (qC (.int 1)))))] []), .e (dV 6)] []]))
  (dNx)
def S_forth_of_3 : MS :=
  dFor (mZip2 (dPth (rIxP (rV 1) (qC (.int 1)))) (dV 3)) (gTp 2 (gsCons (gN 5) (gsCons (gN 6) (gsNil)))) (B_forth_of_2)
def S_forth_of_4 : MS :=
  dRetV 4
def M_forth_of : MS :=
  dSeq (S_forth_of_0)
  (dSeq (S_forth_of_1)
  (dSeq (S_forth_of_3)
  (dSeq (S_forth_of_4)
  (dNx))))
def F_forth_of : List D → Option (D × List D) := dFn 7 0 M_forth_of
abbrev Ok_forth_of (P : Program) (w : World) (K : PySem.W.Frag) (mg : PySem.Str → Option Value) (base : Heap) : Prop := OkF (gOf K) P w K mg base 8 (He.fAd K ("forth_of", none)) ["board", "story"] 0 F_forth_of
-- forth: 0 board, 1 story
def N_forth : List PySem.Str := ["board", "story"]
def S_forth_0 : MS :=
  dExpr (dCall F_look_story [.e (dV 0), .e (dV 1)] [])
def S_forth_1 : MS :=
  dRet (dCall F_forth_of [.e (dV 0), .e (dV 1)] [])
def M_forth : MS :=
  dSeq (S_forth_0)
  (dSeq (S_forth_1)
  (dNx))
def F_forth : List D → Option (D × List D) := dFn 2 0 M_forth
abbrev Ok_forth (P : Program) (w : World) (K : PySem.W.Frag) (mg : PySem.Str → Option Value) (base : Heap) : Prop := OkF (gOf K) P w K mg base 9 (He.fAd K ("forth", none)) ["board", "story"] 0 F_forth
-- _law_same: 0 _law_found, 1 _law_due, 2 _law_k
def N__law_same : List PySem.Str := ["_law_found", "_law_due", "_law_k"]
def M__law_same (R__law_same : List D → Option (D × List D)) : MS :=
  dSeq (dIfS (dT (dOp (oIsN false) [.v 1, .e (dC (.non))])) (dSeq (dRet (dOp (oIsN false) [.v 0, .e (dC (.non))]))
  (dNx)) (dNx))
  (dSeq (dIfS (dT (dOp (oIsi2 isL isT) [.v 1])) (dSeq (dIfS (dOrT (dT (dOp oNe [.e (dOp (oIsi isL) [.v 0]), .e (dOp (oIsi isL) [.v 1])])) (dT (dOp oNe [.e (dOp (oIsi isT) [.v 0]), .e (dOp (oIsi isT) [.v 1])]))) (dSeq (dRet (dC (.bl false)))
  (dNx)) (dNx))
  (dSeq (dRet (dAnd (dOp oEq [.e (dOp oLen [.v 0]), .e (dOp oLen [.v 1])]) (dOp oAll [.e (dComp (mRange1 (.e (dOp oLen [.v 1]))) [2] (gN 2) (dYes) (dCall (R__law_same) [.e (dPth (rIxP (rV 0) (qV 2))), .e (dPth (rIxP (rV 1) (qV 2)))] []))])))
  (dNx))) (dNx))
  (dSeq (dIfS (dOrT (dT (dOp oNe [.e (dOp (oIsi isB) [.v 0]), .e (dOp (oIsi isB) [.v 1])])) (dT (dOp oNe [.e (dOp (oIsi isS) [.v 0]), .e (dOp (oIsi isS) [.v 1])]))) (dSeq (dRet (dC (.bl false)))
  (dNx)) (dNx))
  (dSeq (dRet (dAnd (dOp oEq [.e (dOp (oIsi isI) [.v 0]), .e (dOp (oIsi isI) [.v 1])]) (dOp oEq [.v 0, .v 1])))
  (dNx))))
def F__law_same : Nat → List D → Option (D × List D)
  | 0 => fun _ => none
  | fuel + 1 => dFn 3 1 (M__law_same (F__law_same fuel))
abbrev Ok__law_same (P : Program) (w : World) (K : PySem.W.Frag) (mg : PySem.Str → Option Value) (base : Heap) (fuel : Nat) : Prop := OkF (gOf K) P w K mg base (0 + fuel) (He.fAd K ("_law_same", none)) ["_law_found", "_law_due"] 1 (F__law_same fuel)
-- law: 0 _law_script, 1 _law_box_here, 2 _law_turn, 3 _law_spans_here, 4 _law_here, 5 _law_story_here, 6 _law_due, 7 _law_again, 8 _law_told
def N_law : List PySem.Str := ["_law_script", "_law_box_here", "_law_turn", "_law_spans_here", "_law_here", "_law_story_here", "_law_due", "_law_again", "_law_told"]
def S_law_0 : MS :=
  dAsg (dCall F__law_box [.e (dV 0)] []) (gN 1)
def B_law_1 : MS :=
  dSeq (dAsg (dCall F_forth [.e (dV 4), .e (dV 5)] []) (gN 8))
  (dSeq (dIfS (dOrT (dNotT (dT (dCall (F__law_same 5) [.v 8, .e (dV 6)] []))) (dNotT (dT (dCall (F__law_same 5) [.e (dCall F_last_beat [.e (dV 5)] []), .e (dOp oLen [.e (dPth (rIxP (rV 5) (qC (.int 1))))])] [])))) (dSeq (dRet (dC (.bl false)))
  (dNx)) (dNx))
  (dSeq (dExpr (dMetV 8 lmApp [dTup []]))
  (dSeq (dAsg (dTup [dC (.int 0), dC (.int 1)]) (gSetL (rV 8) (qC (.int 0))))
  (dNx))))
def B_law_2 : MS :=
  dSeq (dAsg (dCall F__law_big_story [.v 1, .e (dC (.int 24))] []) (gTp 3 (gsCons (gN 3) (gsCons (gN 4) (gsCons (gN 5) (gsNil))))))
  (dSeq (dAsg (dCall F__law_forth [.e (dV 3), .e (dV 5)] []) (gN 6))
  (dSeq (dFor (mRange1 (.e (dC (.int 2)))) (gN 7) (B_law_1))
  (dNx)))
def S_law_3 : MS :=
  dFor (mRange1 (.e (dC (.int 4)))) (gN 2) (B_law_2)
def S_law_4 : MS :=
  dRet (dC (.bl true))
def M_law : MS :=
  dSeq (S_law_0)
  (dSeq (S_law_3)
  (dSeq (S_law_4)
  (dNx)))
def F_law : List D → Option (D × List D) := dFn 9 0 M_law
abbrev Ok_law (P : Program) (w : World) (K : PySem.W.Frag) (mg : PySem.Str → Option Value) (base : Heap) : Prop := ∃ fd, FunD K fn_52.name fn_52.qual fn_52.params fn_52.body fn_52.scope (fn_52.dvs K) (fn_52.kws K) (He.fAd K fn_52.at_) fd ∧ FnOk P w K mg base CX0 10 (He.fAd K ("law", none)) fd ["_law_script"] (spF (gOf K) 1 0 F_law)
end K11
set_option Elab.async false
set_option linter.all false
set_option maxRecDepth 100000
set_option maxHeartbeats 8000000
namespace K11
open PySem PySem.Spec L2 Rm
section
variable {P : Program} {w : World} {K : PySem.W.Frag} {mg : PySem.Str → Option Value} {base : Heap}
theorem sc__law_box : FnScope N__law_box ["_law_script"] (defScope (top 35)) := ⟨rfl, rfl, rfl, by decide +kernel, rfl, by decide +kernel, by decide +kernel⟩
theorem ok__law_box (T : Tops K mg) : Ok__law_box P w K mg base := by
  obtain ⟨fd, FD⟩ := T.s.def_ 30 (d := fn_30) rfl
  refine ⟨⟨fd, fn_rm (W := fun i => decide (0 ≤ i)) (m := (M__law_box)) (N := N__law_box) (j := 0) FD sc__law_box rfl (by decide) (fun i hi => decide_eq_false (by omega)) (fun cdv A outer s H E hr => PSs.nox ?_), FD.bindsN fun _ _ _ _ _ _ us hl => match us, hl with | [_], _ => rfl⟩, FD.kp⟩
  have nd : N__law_box.Nodup := sc__law_box.nd
  have hu := hr.units
  have hu1 : (A.deeper (PyProof.Rows.envOfC fn_30.qual fn_30.scope s.heap.objs.size (He.fAd K ("_law_box", none)) cdv)).units + 1 < cLine := by have := hr.units; omega
  unfold M__law_box
  exact (s_cons (s_ret (e_dct (pps_cons (pe_str) (e_ct ((b_list rfl).or (b_listT rfl)) rfl T.bl_list rfl (a_cons (e_cutH rfl (pv 0) (e_con (.int 63) pe_int (fun _ _ => rep_int _)) (od_v (od_e od_n))) a_nil) (od_e od_n)) (pps_cons (pe_str) (e_con (.int 0) pe_int (fun _ _ => rep_int _)) (pps_cons (pe_str) (e_con (.int 9121001) pe_int (fun _ _ => rep_int _)) (pps_cons (pe_str) (e_con (.int 0) pe_int (fun _ _ => rep_int _)) (pps_nil))))) rfl rfl (by simp) (by decide) rfl (by decide +kernel)))
    (s_nil))
theorem sc__law_pick : FnScope N__law_pick ["_law_box_here", "_law_many"] (defScope (top 36)) := ⟨rfl, rfl, rfl, by decide +kernel, rfl, by decide +kernel, by decide +kernel⟩
theorem ok__law_pick (T : Tops K mg) : Ok__law_pick P w K mg base := by
  obtain ⟨fd, FD⟩ := T.s.def_ 31 (d := fn_31) rfl
  refine ⟨⟨fd, fn_rm (W := fun i => decide (1 ≤ i)) (m := (M__law_pick)) (N := N__law_pick) (j := 0) FD sc__law_pick rfl (by decide) (fun i hi => decide_eq_false (by omega)) (fun cdv A outer s H E hr => PSs.nox ?_), FD.bindsN fun _ _ _ _ _ _ us hl => match us, hl with | [_, _], _ => rfl⟩, FD.kp⟩
  have nd : N__law_pick.Nodup := sc__law_pick.nd
  have hu := hr.units
  have hu1 : (A.deeper (PyProof.Rows.envOfC fn_31.qual fn_31.scope s.heap.objs.size (He.fAd K ("_law_pick", none)) cdv)).units + 1 < cLine := by have := hr.units; omega
  unfold M__law_pick S__law_pick_5 S__law_pick_4 S__law_pick_3 S__law_pick_2 S__law_pick_1 S__law_pick_0
  exact (s_cons (s_if (PW.pt (w_and (t_cmpC (c_eq rfl hu) (e_pth (pt_key hu1 (pt_var (pv 0)) (sm_con pe_str (fun _ _ => rep_str _)) (fun _ _ => rfl))) (e_con (.int 0) pe_int (fun _ _ => rep_int _)) rfl (od_e (od_e od_n))) (pw_and1 (t_neNil rfl hu (pt_key hu1 (pt_var (pv 0)) (sm_con pe_str (fun _ _ => rep_str _)) (fun _ _ => rfl)) rfl)))) (s_cons (s_asg (e_metP lm_popAt PySem.F.slot_list_pop PySem.F.type_list_pop mt_popAt (pt_key hu1 (pt_var (pv 0)) (sm_con pe_str (fun _ _ => rep_str _)) (fun _ _ => rfl)) (sa_cons (sm_con pe_int (fun _ _ => rep_int _)) sa_nil)) (g_name (pg_name (i := 2) nd rfl (by first | exact Or.inl rfl | exact Or.inr rfl)) rfl) rfl rfl rfl)
    (s_cons (s_asg (e_cb (b_max2 rfl) rfl T.bl_max rfl (a_cons (e_con (.int 0) pe_int (fun _ _ => rep_int _)) (a_cons (e_sub (pv 2) (e_pow (e_con (.int 10) pe_int (fun _ _ => rep_int _)) (e_con (.int 18) pe_int (fun _ _ => rep_int _)) (od_e (od_e od_n))) (od_v (od_e od_n))) a_nil)) (od_e (od_e od_n))) (g_setK hu1 (pt_var (pv 0)) (sm_con pe_str (fun _ _ => rep_str _)) (fun _ => rfl)) rfl rfl rfl)
    (s_cons (s_asg (e_mod (e_add rfl (e_add rfl (e_mul rfl (e_pth (pt_key hu1 (pt_var (pv 0)) (sm_con pe_str (fun _ _ => rep_str _)) (fun _ _ => rfl))) (e_con (.int 69069) pe_int (fun _ _ => rep_int _)) (od_e (od_e od_n))) (e_mul rfl (e_mod (pv 2) (e_con (.int 1000003) pe_int (fun _ _ => rep_int _)) (od_v (od_e od_n))) (e_con (.int 8191) pe_int (fun _ _ => rep_int _)) (od_e (od_e od_n))) (od_e (od_e od_n))) (e_con (.int 1) pe_int (fun _ _ => rep_int _)) (od_e (od_e od_n))) (e_con (.int 2147483629) pe_int (fun _ _ => rep_int _)) (od_e (od_e od_n))) (g_setK hu1 (pt_var (pv 0)) (sm_con pe_str (fun _ _ => rep_str _)) (fun _ => rfl)) rfl rfl rfl)
    (s_nil)))) (s_nil))
    (s_cons (s_if (t_cmpC (c_gt) (e_pth (pt_key hu1 (pt_var (pv 0)) (sm_con pe_str (fun _ _ => rep_str _)) (fun _ _ => rfl))) (e_con (.int 0) pe_int (fun _ _ => rep_int _)) rfl (od_e (od_e od_n))) (s_cons (s_asg (e_mod (e_pth (pt_key hu1 (pt_var (pv 0)) (sm_con pe_str (fun _ _ => rep_str _)) (fun _ _ => rfl))) (pv 1) (od_e (od_v od_n))) (g_name (pg_name (i := 3) nd rfl (by first | exact Or.inl rfl | exact Or.inr rfl)) rfl) rfl rfl rfl)
    (s_cons (s_asg (e_div (e_pth (pt_key hu1 (pt_var (pv 0)) (sm_con pe_str (fun _ _ => rep_str _)) (fun _ _ => rfl))) (pv 1) (od_e (od_v od_n))) (g_setK hu1 (pt_var (pv 0)) (sm_con pe_str (fun _ _ => rep_str _)) (fun _ => rfl)) rfl rfl rfl)
    (s_cons (s_ret (e_var 3 (pv 3)))
    (s_nil)))) (s_nil))
    (s_cons (s_asg (e_add rfl (e_pth (pt_key hu1 (pt_var (pv 0)) (sm_con pe_str (fun _ _ => rep_str _)) (fun _ _ => rfl))) (e_con (.int 1) pe_int (fun _ _ => rep_int _)) (od_e (od_e od_n))) (g_setK hu1 (pt_var (pv 0)) (sm_con pe_str (fun _ _ => rep_str _)) (fun _ => rfl)) rfl rfl rfl)
    (s_cons (s_asg (e_mod (e_add rfl (e_add rfl (e_mul rfl (e_pth (pt_key hu1 (pt_var (pv 0)) (sm_con pe_str (fun _ _ => rep_str _)) (fun _ _ => rfl))) (e_con (.int 16807) pe_int (fun _ _ => rep_int _)) (od_e (od_e od_n))) (e_mul rfl (e_pth (pt_key hu1 (pt_var (pv 0)) (sm_con pe_str (fun _ _ => rep_str _)) (fun _ _ => rfl))) (e_con (.int 7919) pe_int (fun _ _ => rep_int _)) (od_e (od_e od_n))) (od_e (od_e od_n))) (e_con (.int 3) pe_int (fun _ _ => rep_int _)) (od_e (od_e od_n))) (e_con (.int 2147483629) pe_int (fun _ _ => rep_int _)) (od_e (od_e od_n))) (g_name (pg_name (i := 4) nd rfl (by first | exact Or.inl rfl | exact Or.inr rfl)) rfl) rfl rfl rfl)
    (s_cons (s_asg (e_mod (e_add rfl (e_add rfl (e_mul rfl (pv 4) (pv 4) (od_v (od_v od_n))) (e_mul rfl (e_con (.int 40692) pe_int (fun _ _ => rep_int _)) (pv 4) (od_e (od_v od_n))) (od_e (od_e od_n))) (e_con (.int 11) pe_int (fun _ _ => rep_int _)) (od_e (od_e od_n))) (e_con (.int 2147483629) pe_int (fun _ _ => rep_int _)) (od_e (od_e od_n))) (g_setK hu1 (pt_var (pv 0)) (sm_con pe_str (fun _ _ => rep_str _)) (fun _ => rfl)) rfl rfl rfl)
    (s_cons (s_ret (e_fz (e_mod (e_add rfl (e_div (e_pth (pt_key hu1 (pt_var (pv 0)) (sm_con pe_str (fun _ _ => rep_str _)) (fun _ _ => rfl))) (e_con (.int 127) pe_int (fun _ _ => rep_int _)) (od_e (od_e od_n))) (e_mul rfl (e_mod (e_pth (pt_key hu1 (pt_var (pv 0)) (sm_con pe_str (fun _ _ => rep_str _)) (fun _ _ => rfl))) (e_con (.int 127) pe_int (fun _ _ => rep_int _)) (od_e (od_e od_n))) (e_con (.int 4099) pe_int (fun _ _ => rep_int _)) (od_e (od_e od_n))) (od_e (od_e od_n))) (pv 1) (od_e (od_v od_n)))))
    (s_nil)))))))
theorem sc__law_mixed : FnScope N__law_mixed ["_law_box_here", "_law_things"] (defScope (top 38)) := ⟨rfl, rfl, rfl, by decide +kernel, rfl, by decide +kernel, by decide +kernel⟩
theorem ok__law_mixed (T : Tops K mg) (c__law_pick : Ok__law_pick P w K mg base) : Ok__law_mixed P w K mg base := by
  obtain ⟨⟨fd__law_pick, fo__law_pick, b__law_pick⟩, kp__law_pick⟩ := c__law_pick
  obtain ⟨fd, FD⟩ := T.s.def_ 33 (d := fn_33) rfl
  refine ⟨⟨fd, fn_rm (W := fun i => decide (1 ≤ i)) (m := (M__law_mixed)) (N := N__law_mixed) (j := 1) FD sc__law_mixed rfl (by decide) (fun i hi => decide_eq_false (by omega)) (fun cdv A outer s H E hr => PSs.nox ?_), FD.bindsN fun _ _ _ _ _ _ us hl => match us, hl with | [_, _], _ => rfl⟩, FD.kp⟩
  have nd : N__law_mixed.Nodup := sc__law_mixed.nd
  have hu := hr.units
  have hu1 : (A.deeper (PyProof.Rows.envOfC fn_33.qual fn_33.scope s.heap.objs.size (He.fAd K ("_law_mixed", none)) cdv)).units + 1 < cLine := by have := hr.units; omega
  unfold M__law_mixed S__law_mixed_3 S__law_mixed_2 B__law_mixed_1 S__law_mixed_0
  exact (s_cons (s_asg (e_lst (by decide) (by exact a_nil)) (g_name (pg_name (i := 2) nd rfl (by first | exact Or.inl rfl | exact Or.inr rfl)) rfl) rfl rfl rfl)
    (s_cons (s_for PassesOwn.never rfl (i_seq rfl (e_var 1 (pv 1))) (g_name (pg_name (i := 3) nd rfl (by first | exact Or.inl rfl | exact Or.inr rfl)) rfl) (s_cons (s_expr (e_metV lm_ins PySem.F.slot_list_insert PySem.F.type_list_insert mt_insert (pv 2) (by exact (a_cons (e_call (fo__law_pick.mono (by omega)) kok_fn hr rfl T.gl__law_pick kp__law_pick b__law_pick .nil pass0 (fun _ _ => reps_nil') rfl (by decide) (a_cons (pv 0) (a_cons (e_add rfl (e_cb (b_len rfl) rfl T.bl_len rfl (a_cons (pv 2) a_nil) (od_v od_n)) (e_con (.int 1) pe_int (fun _ _ => rep_int _)) (od_e (od_e od_n))) a_nil)) (od_v (od_e od_n))) (a_cons (e_var 3 (pv 3)) a_nil)))) rfl)
    (s_nil)) (fun _ => rfl))
    (s_cons (s_ret (e_var 2 (pv 2)))
    (s_nil))))
theorem sc__law_ways : FnScope N__law_ways ["_law_box_here", "_law_many"] (defScope (top 40)) := ⟨rfl, rfl, rfl, by decide +kernel, rfl, by decide +kernel, by decide +kernel⟩
theorem ok__law_ways (T : Tops K mg) (c__law_pick : Ok__law_pick P w K mg base) (c__law_mixed : Ok__law_mixed P w K mg base) : Ok__law_ways P w K mg base := by
  obtain ⟨⟨fd__law_pick, fo__law_pick, b__law_pick⟩, kp__law_pick⟩ := c__law_pick
  obtain ⟨⟨fd__law_mixed, fo__law_mixed, b__law_mixed⟩, kp__law_mixed⟩ := c__law_mixed
  obtain ⟨fd, FD⟩ := T.s.def_ 35 (d := fn_35) rfl
  refine ⟨⟨fd, fn_rm (W := fun i => decide (1 ≤ i)) (m := (M__law_ways)) (N := N__law_ways) (j := 2) FD sc__law_ways rfl (by decide) (fun i hi => decide_eq_false (by omega)) (fun cdv A outer s H E hr => PSs.nox ?_), FD.bindsN fun _ _ _ _ _ _ us hl => match us, hl with | [_, _], _ => rfl⟩, FD.kp⟩
  have nd : N__law_ways.Nodup := sc__law_ways.nd
  have hu := hr.units
  have hu1 : (A.deeper (PyProof.Rows.envOfC fn_35.qual fn_35.scope s.heap.objs.size (He.fAd K ("_law_ways", none)) cdv)).units + 1 < cLine := by have := hr.units; omega
  unfold M__law_ways S__law_ways_9 S__law_ways_8 S__law_ways_7 S__law_ways_6 S__law_ways_5 S__law_ways_4 S__law_ways_3 S__law_ways_2 B__law_ways_1 S__law_ways_0
  exact (s_cons (s_asg (e_lst (by decide) (by exact a_nil)) (g_name (pg_name (i := 2) nd rfl (by first | exact Or.inl rfl | exact Or.inr rfl)) rfl) rfl rfl rfl)
    (s_cons (s_for PassesOwn.never rfl (i_range1 rfl T.bl_range (pv 1) (od_v od_n) rfl) (g_name (pg_name (i := 3) nd rfl (by first | exact Or.inl rfl | exact Or.inr rfl)) rfl) (s_cons (s_asg (e_add rfl (pv 2) (e_comp (own := [("_law_other", 6)]) rfl nd (i_range1 rfl T.bl_range (pv 1) (od_v od_n) rfl) (blkOk_by (N := N__law_ways) (by kernel_rfl)) (fun _ _ _ _ _ => g_name (pg_name (i := 6) nd rfl (by first | exact Or.inl rfl | exact Or.inr rfl)) rfl) (fun _ _ _ _ _ => ts_one (t_cmpC (c_ne rfl hu) (pv 6) (pv 3) rfl (od_v (od_v od_n)))) (fun _ _ _ _ _ => e_tup (by decide) (by exact (a_cons (e_var 3 (pv 3)) (a_cons (e_var 6 (pv 6)) a_nil)))) (fun _ => rfl)) (od_v (od_e od_n))) (g_name (pg_name (i := 2) nd rfl (by first | exact Or.inl rfl | exact Or.inr rfl)) rfl) rfl rfl rfl)
    (s_nil)) (fun _ => rfl))
    (s_cons (s_asg (e_tup (by decide) (by exact (a_cons (e_call (fo__law_pick.mono (by omega)) kok_fn hr rfl T.gl__law_pick kp__law_pick b__law_pick .nil pass0 (fun _ _ => reps_nil') rfl (by decide) (a_cons (pv 0) (a_cons (e_con (.int 8) pe_int (fun _ _ => rep_int _)) a_nil)) (od_v (od_e od_n))) (a_cons (e_add rfl (e_con (.int 1) pe_int (fun _ _ => rep_int _)) (e_call (fo__law_pick.mono (by omega)) kok_fn hr rfl T.gl__law_pick kp__law_pick b__law_pick .nil pass0 (fun _ _ => reps_nil') rfl (by decide) (a_cons (pv 0) (a_cons (e_con (.int 5) pe_int (fun _ _ => rep_int _)) a_nil)) (od_v (od_e od_n))) (od_e (od_e od_n))) a_nil)))) (g_tup rfl rfl (g_cons (g_name (pg_name (i := 4) nd rfl (by first | exact Or.inl rfl | exact Or.inr rfl)) rfl) (g_cons (g_name (pg_name (i := 5) nd rfl (by first | exact Or.inl rfl | exact Or.inr rfl)) rfl) (g_nil) rfl) rfl) rfl rfl) rfl rfl rfl)
    (s_cons (s_if (t_cmpC (c_eq rfl hu) (pv 4) (e_con (.int 0) pe_int (fun _ _ => rep_int _)) rfl (od_v (od_e od_n))) (s_cons (s_ret (e_fz (e_comp (own := [("_law_way", 7)]) rfl nd (i_seq rfl (e_var 2 (pv 2))) (blkOk_by (N := N__law_ways) (by kernel_rfl)) (fun _ _ _ _ _ => g_name (pg_name (i := 7) nd rfl (by first | exact Or.inl rfl | exact Or.inr rfl)) rfl) (fun _ _ _ _ _ => ts_one (t_cmpC (c_eq rfl hu) (e_pth (pt_ix rfl (pt_var (pv 7)) (sm_con pe_int (fun _ _ => rep_int _)) (fun _ _ => rfl))) (e_add rfl (e_pth (pt_ix rfl (pt_var (pv 7)) (sm_con pe_int (fun _ _ => rep_int _)) (fun _ _ => rfl))) (e_con (.int 1) pe_int (fun _ _ => rep_int _)) (od_e (od_e od_n))) rfl (od_e (od_e od_n)))) (fun _ _ _ _ _ => e_var 7 (pv 7)) (fun _ => rfl))))
    (s_nil)) (s_nil))
    (s_cons (s_if (t_cmpC (c_eq rfl hu) (pv 4) (e_con (.int 1) pe_int (fun _ _ => rep_int _)) rfl (od_v (od_e od_n))) (s_cons (s_ret (e_fz (e_comp (own := [("_law_way", 7)]) rfl nd (i_seq rfl (e_var 2 (pv 2))) (blkOk_by (N := N__law_ways) (by kernel_rfl)) (fun _ _ _ _ _ => g_name (pg_name (i := 7) nd rfl (by first | exact Or.inl rfl | exact Or.inr rfl)) rfl) (fun _ _ _ _ _ => ts_one (t_cmpC (c_eq rfl hu) (e_cb (b_abs) rfl T.bl_abs rfl (a_cons (e_sub (e_pth (pt_ix rfl (pt_var (pv 7)) (sm_con pe_int (fun _ _ => rep_int _)) (fun _ _ => rfl))) (e_pth (pt_ix rfl (pt_var (pv 7)) (sm_con pe_int (fun _ _ => rep_int _)) (fun _ _ => rfl))) (od_e (od_e od_n))) a_nil) (od_e od_n)) (e_con (.int 1) pe_int (fun _ _ => rep_int _)) rfl (od_e (od_e od_n)))) (fun _ _ _ _ _ => e_var 7 (pv 7)) (fun _ => rfl))))
    (s_nil)) (s_nil))
    (s_cons (s_if (t_cmpC (c_eq rfl hu) (pv 4) (e_con (.int 2) pe_int (fun _ _ => rep_int _)) rfl (od_v (od_e od_n))) (s_cons (s_ret (e_fz (e_comp (own := [("_law_way", 7)]) rfl nd (i_seq rfl (e_var 2 (pv 2))) (blkOk_by (N := N__law_ways) (by kernel_rfl)) (fun _ _ _ _ _ => g_name (pg_name (i := 7) nd rfl (by first | exact Or.inl rfl | exact Or.inr rfl)) rfl) (fun _ _ _ _ _ => ts_one (t_cmpC (c_eq rfl hu) (e_pth (pt_ix rfl (pt_var (pv 7)) (sm_con pe_int (fun _ _ => rep_int _)) (fun _ _ => rfl))) (e_mod (e_add rfl (e_pth (pt_ix rfl (pt_var (pv 7)) (sm_con pe_int (fun _ _ => rep_int _)) (fun _ _ => rfl))) (e_con (.int 1) pe_int (fun _ _ => rep_int _)) (od_e (od_e od_n))) (pv 1) (od_e (od_v od_n))) rfl (od_e (od_e od_n)))) (fun _ _ _ _ _ => e_var 7 (pv 7)) (fun _ => rfl))))
    (s_nil)) (s_nil))
    (s_cons (s_if (t_cmpC (c_eq rfl hu) (pv 4) (e_con (.int 3) pe_int (fun _ _ => rep_int _)) rfl (od_v (od_e od_n))) (s_cons (s_ret (e_fz (e_comp (own := [("_law_way", 7)]) rfl nd (i_seq rfl (e_var 2 (pv 2))) (blkOk_by (N := N__law_ways) (by kernel_rfl)) (fun _ _ _ _ _ => g_name (pg_name (i := 7) nd rfl (by first | exact Or.inl rfl | exact Or.inr rfl)) rfl) (fun _ _ _ _ _ => ts_one (t_cmpC (c_in rfl) (e_con (.int 0) pe_int (fun _ _ => rep_int _)) (pv 7) rfl (od_e (od_v od_n)))) (fun _ _ _ _ _ => e_var 7 (pv 7)) (fun _ => rfl))))
    (s_nil)) (s_nil))
    (s_cons (s_if (t_cmpC (c_eq rfl hu) (pv 4) (e_con (.int 4) pe_int (fun _ _ => rep_int _)) rfl (od_v (od_e od_n))) (s_cons (s_ret (e_var 2 (pv 2)))
    (s_nil)) (s_nil))
    (s_cons (s_ret (e_fz (e_call (fo__law_mixed.mono (by omega)) kok_fn hr rfl T.gl__law_mixed kp__law_mixed b__law_mixed .nil pass0 (fun _ _ => reps_nil') rfl (by decide) (a_cons (pv 0) (a_cons (e_comp (own := [("_law_way", 7)]) rfl nd (i_seq rfl (e_var 2 (pv 2))) (blkOk_by (N := N__law_ways) (by kernel_rfl)) (fun _ _ _ _ _ => g_name (pg_name (i := 7) nd rfl (by first | exact Or.inl rfl | exact Or.inr rfl)) rfl) (fun _ _ _ _ _ => ts_one (t_cmpC (c_lt) (e_call (fo__law_pick.mono (by omega)) kok_fn hr rfl T.gl__law_pick kp__law_pick b__law_pick .nil pass0 (fun _ _ => reps_nil') rfl (by decide) (a_cons (pv 0) (a_cons (e_con (.int 6) pe_int (fun _ _ => rep_int _)) a_nil)) (od_v (od_e od_n))) (pv 5) rfl (od_e (od_v od_n)))) (fun _ _ _ _ _ => e_var 7 (pv 7)) (fun _ => rfl)) a_nil)) (od_v (od_e od_n)))))
    (s_nil))))))))))
theorem sc__law_board : FnScope N__law_board ["_law_box_here", "_law_most"] (defScope (top 41)) := ⟨rfl, rfl, rfl, by decide +kernel, rfl, by decide +kernel, by decide +kernel⟩
theorem ok__law_board (T : Tops K mg) (c__law_pick : Ok__law_pick P w K mg base) (c__law_ways : Ok__law_ways P w K mg base) : Ok__law_board P w K mg base := by
  obtain ⟨⟨fd__law_pick, fo__law_pick, b__law_pick⟩, kp__law_pick⟩ := c__law_pick
  obtain ⟨⟨fd__law_ways, fo__law_ways, b__law_ways⟩, kp__law_ways⟩ := c__law_ways
  obtain ⟨fd, FD⟩ := T.s.def_ 36 (d := fn_36) rfl
  refine ⟨⟨fd, fn_rm (W := fun i => decide (1 ≤ i)) (m := (M__law_board)) (N := N__law_board) (j := 3) FD sc__law_board rfl (by decide) (fun i hi => decide_eq_false (by omega)) (fun cdv A outer s H E hr => PSs.nox ?_), FD.bindsN fun _ _ _ _ _ _ us hl => match us, hl with | [_, _], _ => rfl⟩, FD.kp⟩
  have nd : N__law_board.Nodup := sc__law_board.nd
  have hu := hr.units
  have hu1 : (A.deeper (PyProof.Rows.envOfC fn_36.qual fn_36.scope s.heap.objs.size (He.fAd K ("_law_board", none)) cdv)).units + 1 < cLine := by have := hr.units; omega
  unfold M__law_board S__law_board_1 S__law_board_0
  exact (s_cons (s_asg (e_if (t_cmpC (c_eq rfl hu) (e_call (fo__law_pick.mono (by omega)) kok_fn hr rfl T.gl__law_pick kp__law_pick b__law_pick .nil pass0 (fun _ _ => reps_nil') rfl (by decide) (a_cons (pv 0) (a_cons (e_con (.int 3) pe_int (fun _ _ => rep_int _)) a_nil)) (od_v (od_e od_n))) (e_con (.int 0) pe_int (fun _ _ => rep_int _)) rfl (od_e (od_e od_n))) (e_var 1 (pv 1)) (e_add rfl (e_con (.int 1) pe_int (fun _ _ => rep_int _)) (e_call (fo__law_pick.mono (by omega)) kok_fn hr rfl T.gl__law_pick kp__law_pick b__law_pick .nil pass0 (fun _ _ => reps_nil') rfl (by decide) (a_cons (pv 0) (a_cons (e_var 1 (pv 1)) a_nil)) (od_v (od_e od_n))) (od_e (od_e od_n)))) (g_name (pg_name (i := 2) nd rfl (by first | exact Or.inl rfl | exact Or.inr rfl)) rfl) rfl rfl rfl)
    (s_cons (s_ret (e_fz (e_tup (by decide) (by exact (a_cons (e_var 2 (pv 2)) (a_cons (e_call (fo__law_ways.mono (by omega)) kok_fn hr rfl T.gl__law_ways kp__law_ways b__law_ways .nil pass0 (fun _ _ => reps_nil') rfl (by decide) (a_cons (pv 0) (a_cons (e_var 2 (pv 2)) a_nil)) (od_v (od_e od_n))) a_nil))))))
    (s_nil)))
theorem sc__law_spans : FnScope N__law_spans ["_law_board_here"] (defScope (top 43)) := ⟨rfl, rfl, rfl, by decide +kernel, rfl, by decide +kernel, by decide +kernel⟩
theorem ok__law_spans (T : Tops K mg) : Ok__law_spans P w K mg base := by
  obtain ⟨fd, FD⟩ := T.s.def_ 38 (d := fn_38) rfl
  refine ⟨⟨fd, fn_rm (W := fun i => decide (0 ≤ i)) (m := (M__law_spans)) (N := N__law_spans) (j := 0) FD sc__law_spans rfl (by decide) (fun i hi => decide_eq_false (by omega)) (fun cdv A outer s H E hr => PSs.nox ?_), FD.bindsN fun _ _ _ _ _ _ us hl => match us, hl with | [_], _ => rfl⟩, FD.kp⟩
  have nd : N__law_spans.Nodup := sc__law_spans.nd
  have hu := hr.units
  have hu1 : (A.deeper (PyProof.Rows.envOfC fn_38.qual fn_38.scope s.heap.objs.size (He.fAd K ("_law_spans", none)) cdv)).units + 1 < cLine := by have := hr.units; omega
  unfold M__law_spans S__law_spans_8 S__law_spans_7 B__law_spans_6 B__law_spans_5 B__law_spans_4 S__law_spans_3 B__law_spans_2 S__law_spans_1 S__law_spans_0
  exact (s_cons (s_asg (e_var 0 (pv 0)) (g_tup rfl rfl (g_cons (g_name (pg_name (i := 1) nd rfl (by first | exact Or.inl rfl | exact Or.inr rfl)) rfl) (g_cons (g_name (pg_name (i := 2) nd rfl (by first | exact Or.inl rfl | exact Or.inr rfl)) rfl) (g_nil) rfl) rfl) rfl rfl) rfl rfl rfl)
    (s_cons (s_setComp (i := 3) (own := [("_law_one", 4)]) rfl nd rfl rfl rfl (sw_true rfl rfl rfl (by decide +kernel)) (i_range1 rfl T.bl_range (pv 1) (od_v od_n) rfl) (blkOk_by (N := N__law_spans) (by kernel_rfl)) (fun _ _ _ _ _ => g_name (pg_name (i := 4) nd rfl (by first | exact Or.inl rfl | exact Or.inr rfl)) rfl) (fun _ _ _ _ _ => ts_nil) (fun _ _ _ _ _ => e_comp (own := [("_law_other", 5)]) rfl nd (i_range1 rfl T.bl_range (pv 1) (od_v od_n) rfl) (blkOk_by (N := N__law_spans) (by kernel_rfl)) (fun _ _ _ _ _ => g_name (pg_name (i := 5) nd rfl (by first | exact Or.inl rfl | exact Or.inr rfl)) rfl) (fun _ _ _ _ _ => ts_nil) (fun _ _ _ _ _ => e_mul rfl (e_con (.int 99) pe_int (fun _ _ => rep_int _)) (e_ct (b_int) rfl T.bl_int rfl (a_cons (e_cmpC (c_ne rfl hu) (pv 4) (pv 5) rfl (od_v (od_v od_n))) a_nil) (od_e od_n)) (od_e (od_e od_n))) (fun _ => rfl)) (fun _ => rfl))
    (s_cons (s_for PassesOwn.never rfl (i_seq rfl (e_var 2 (pv 2))) (g_tup rfl rfl (g_cons (g_name (pg_name (i := 4) nd rfl (by first | exact Or.inl rfl | exact Or.inr rfl)) rfl) (g_cons (g_name (pg_name (i := 5) nd rfl (by first | exact Or.inl rfl | exact Or.inr rfl)) rfl) (g_nil) rfl) rfl) rfl rfl) (s_cons (s_asg (e_con (.int 1) pe_int (fun _ _ => rep_int _)) (g_setL (pt_ix rfl (pt_var (pv 3)) (sm_var (pv 4)) (fun _ _ => rfl)) (sm_var (pv 5)) (fun _ => rfl)) rfl rfl rfl)
    (s_nil)) (fun _ => rfl))
    (s_cons (s_for PassesOwn.never rfl (i_range1 rfl T.bl_range (pv 1) (od_v od_n) rfl) (g_name (pg_name (i := 6) nd rfl (by first | exact Or.inl rfl | exact Or.inr rfl)) rfl) (s_cons (s_for PassesOwn.never rfl (i_range1 rfl T.bl_range (pv 1) (od_v od_n) rfl) (g_name (pg_name (i := 4) nd rfl (by first | exact Or.inl rfl | exact Or.inr rfl)) rfl) (s_cons (s_for PassesOwn.never rfl (i_range1 rfl T.bl_range (pv 1) (od_v od_n) rfl) (g_name (pg_name (i := 5) nd rfl (by first | exact Or.inl rfl | exact Or.inr rfl)) rfl) (s_cons (s_asg (e_cb (b_min3 rfl) rfl T.bl_min rfl (a_cons (e_pth (pt_ix rfl (pt_ix rfl (pt_var (pv 3)) (sm_var (pv 4)) (fun _ _ => rfl)) (sm_var (pv 5)) (fun _ _ => rfl))) (a_cons (e_add rfl (e_pth (pt_ix rfl (pt_ix rfl (pt_var (pv 3)) (sm_var (pv 4)) (fun _ _ => rfl)) (sm_var (pv 6)) (fun _ _ => rfl))) (e_pth (pt_ix rfl (pt_ix rfl (pt_var (pv 3)) (sm_var (pv 6)) (fun _ _ => rfl)) (sm_var (pv 5)) (fun _ _ => rfl))) (od_e (od_e od_n))) (a_cons (e_con (.int 99) pe_int (fun _ _ => rep_int _)) a_nil))) (od_e (od_e (od_e od_n)))) (g_setL (pt_ix rfl (pt_var (pv 3)) (sm_var (pv 4)) (fun _ _ => rfl)) (sm_var (pv 5)) (fun _ => rfl)) rfl rfl rfl)
    (s_nil)) (fun _ => rfl))
    (s_nil)) (fun _ => rfl))
    (s_nil)) (fun _ => rfl))
    (s_cons (s_ret (e_var 3 (pv 3)))
    (s_nil))))))
theorem sc_is_whole : FnScope N_is_whole ["thing"] (defScope (top 12)) := ⟨rfl, rfl, rfl, by decide +kernel, rfl, by decide +kernel, by decide +kernel⟩
theorem ok_is_whole (T : Tops K mg) : Ok_is_whole P w K mg base := by
  obtain ⟨fd, FD⟩ := T.s.def_ 3 (d := fn_3) rfl
  refine ⟨⟨fd, fn_rm (W := fun i => decide (0 ≤ i)) (m := (M_is_whole)) (N := N_is_whole) (j := 0) FD sc_is_whole rfl (by decide) (fun i hi => decide_eq_false (by omega)) (fun cdv A outer s H E hr => PSs.nox ?_), FD.bindsN fun _ _ _ _ _ _ us hl => match us, hl with | [_], _ => rfl⟩, FD.kp⟩
  have nd : N_is_whole.Nodup := sc_is_whole.nd
  have hu := hr.units
  have hu1 : (A.deeper (PyProof.Rows.envOfC fn_3.qual fn_3.scope s.heap.objs.size (He.fAd K ("is_whole", none)) cdv)).units + 1 < cLine := by have := hr.units; omega
  unfold M_is_whole
  exact (s_cons (s_ret (e_and (e_isi rfl isi_int rfl T.bl_isinstance rfl rfl T.bl_int rfl (pv 0) (od_v od_n)) (pe_one (e_not (e_isi rfl isi_bool rfl T.bl_isinstance rfl rfl T.bl_bool rfl (pv 0) (od_v od_n))))))
    (s_nil))
theorem sc_is_number : FnScope N_is_number ["thing", "low", "high"] (defScope (top 10)) := ⟨rfl, rfl, rfl, by decide +kernel, rfl, by decide +kernel, by decide +kernel⟩
theorem ok_is_number (T : Tops K mg) (c_is_whole : Ok_is_whole P w K mg base) : Ok_is_number P w K mg base := by
  obtain ⟨⟨fd_is_whole, fo_is_whole, b_is_whole⟩, kp_is_whole⟩ := c_is_whole
  obtain ⟨fd, FD⟩ := T.s.def_ 1 (d := fn_1) rfl
  refine ⟨⟨fd, fn_rm (W := fun i => decide (0 ≤ i)) (m := (M_is_number)) (N := N_is_number) (j := 1) FD sc_is_number rfl (by decide) (fun i hi => decide_eq_false (by omega)) (fun cdv A outer s H E hr => PSs.nox ?_), FD.bindsN fun _ _ _ _ _ _ us hl => match us, hl with | [_, _, _], _ => rfl⟩, FD.kp⟩
  have nd : N_is_number.Nodup := sc_is_number.nd
  have hu := hr.units
  have hu1 : (A.deeper (PyProof.Rows.envOfC fn_1.qual fn_1.scope s.heap.objs.size (He.fAd K ("is_number", none)) cdv)).units + 1 < cLine := by have := hr.units; omega
  unfold M_is_number
  exact (s_cons (s_ret (e_and (e_call (fo_is_whole.mono (by omega)) kok_fn hr rfl T.gl_is_whole kp_is_whole b_is_whole .nil pass0 (fun _ _ => reps_nil') rfl (by decide) (a_cons (e_var 0 (pv 0)) a_nil) (od_e od_n)) (pe_one (e_chain (c_le) (c_le) (e_var 1 (pv 1)) (e_var 0 (pv 0)) (e_var 2 (pv 2)) rfl))))
    (s_nil))
theorem sc_spans_from : FnScope N_spans_from ["many", "roads", "start"] (defScope (top 11)) := ⟨rfl, rfl, rfl, by decide +kernel, rfl, by decide +kernel, by decide +kernel⟩
theorem ok_spans_from (T : Tops K mg) : Ok_spans_from P w K mg base := by
  obtain ⟨fd, FD⟩ := T.s.def_ 2 (d := fn_2) rfl
  refine ⟨⟨fd, fn_rm (W := fun i => decide (0 ≤ i)) (m := (M_spans_from)) (N := N_spans_from) (j := 0) FD sc_spans_from rfl (by decide) (fun i hi => decide_eq_false (by omega)) (fun cdv A outer s H E hr => PSs.nox ?_), FD.bindsN fun _ _ _ _ _ _ us hl => match us, hl with | [_, _, _], _ => rfl⟩, FD.kp⟩
  have nd : N_spans_from.Nodup := sc_spans_from.nd
  have hu := hr.units
  have hu1 : (A.deeper (PyProof.Rows.envOfC fn_2.qual fn_2.scope s.heap.objs.size (He.fAd K ("spans_from", none)) cdv)).units + 1 < cLine := by have := hr.units; omega
  unfold M_spans_from S_spans_from_7 S_spans_from_6 B_spans_from_5 B_spans_from_4 B_spans_from_3 S_spans_from_2 S_spans_from_1 S_spans_from_0
  exact (s_cons (s_asg (e_mul rfl (e_lst (by decide) (by exact (a_cons (e_con (.non) pe_non (fun _ _ => rep_non)) a_nil))) (pv 0) (od_e (od_v od_n))) (g_name (pg_name (i := 3) nd rfl (by first | exact Or.inl rfl | exact Or.inr rfl)) rfl) rfl rfl rfl)
    (s_cons (s_asg (e_con (.int 0) pe_int (fun _ _ => rep_int _)) (g_setL (pt_var (pv 3)) (sm_var (pv 2)) (fun _ => rfl)) rfl rfl rfl)
    (s_cons (s_asg (e_lst (by decide) (by exact (a_cons (e_var 2 (pv 2)) a_nil))) (g_name (pg_name (i := 4) nd rfl (by first | exact Or.inl rfl | exact Or.inr rfl)) rfl) rfl rfl rfl)
    (s_cons (s_while 20 PassesOwn.never (t_cmpC (c_ne rfl hu) (pv 4) (e_lst (by decide) (by exact a_nil)) rfl (od_v (od_e od_n))) (s_cons (s_asg (e_lst (by decide) (by exact a_nil)) (g_name (pg_name (i := 5) nd rfl (by first | exact Or.inl rfl | exact Or.inr rfl)) rfl) rfl rfl rfl)
    (s_cons (s_for PassesOwn.never rfl (i_seq rfl (e_var 4 (pv 4))) (g_name (pg_name (i := 6) nd rfl (by first | exact Or.inl rfl | exact Or.inr rfl)) rfl) (s_cons (s_for PassesOwn.never rfl (i_seq rfl (e_var 1 (pv 1))) (g_tup rfl rfl (g_cons (g_name (pg_name (i := 7) nd rfl (by first | exact Or.inl rfl | exact Or.inr rfl)) rfl) (g_cons (g_name (pg_name (i := 8) nd rfl (by first | exact Or.inl rfl | exact Or.inr rfl)) rfl) (g_nil) rfl) rfl) rfl rfl) (s_cons (s_if (PW.pt (w_and (t_cmpC (c_eq rfl hu) (pv 7) (pv 6) rfl (od_v (od_v od_n))) (pw_and1 (t_cmpC (c_isN) (e_pth (pt_ix rfl (pt_var (pv 3)) (sm_var (pv 8)) (fun _ _ => rfl))) (e_con (.non) pe_non (fun _ _ => rep_non)) rfl (od_e (od_e od_n)))))) (s_cons (s_asg (e_add rfl (e_pth (pt_ix rfl (pt_var (pv 3)) (sm_var (pv 6)) (fun _ _ => rfl))) (e_con (.int 1) pe_int (fun _ _ => rep_int _)) (od_e (od_e od_n))) (g_setL (pt_var (pv 3)) (sm_var (pv 8)) (fun _ => rfl)) rfl rfl rfl)
    (s_cons (s_expr (e_metV lm_app PySem.F.slot_list_append PySem.F.type_list_append mt_append (pv 5) (by exact (a_cons (e_var 8 (pv 8)) a_nil))) rfl)
    (s_nil))) (s_nil))
    (s_nil)) (fun _ => rfl))
    (s_nil)) (fun _ => rfl))
    (s_cons (s_asg (e_var 5 (pv 5)) (g_name (pg_name (i := 4) nd rfl (by first | exact Or.inl rfl | exact Or.inr rfl)) rfl) rfl rfl rfl)
    (s_nil)))))
    (s_cons (s_ret (e_var 3 (pv 3)))
    (s_nil))))))
theorem sc_Board___init__ : FnScope N_Board___init__ ["self", "many", "ways"] (defScope (inClass (top 13) 0)) := ⟨rfl, rfl, rfl, by decide +kernel, rfl, by decide +kernel, by decide +kernel⟩
theorem ok_Board___init__ (T : Tops K mg) (c_is_number : Ok_is_number P w K mg base) (c_spans_from : Ok_spans_from P w K mg base) : Ok_Board___init__ P w K mg base := by
  obtain ⟨⟨fd_is_number, fo_is_number, b_is_number⟩, kp_is_number⟩ := c_is_number
  obtain ⟨⟨fd_spans_from, fo_spans_from, b_spans_from⟩, kp_spans_from⟩ := c_spans_from
  obtain ⟨t_MOST_PLACES, hc_MOST_PLACES⟩ := T.c_MOST_PLACES
  obtain ⟨fd, FD⟩ := T.s.def_ 4 (d := fn_4) rfl
  refine ⟨⟨fd, fn_rm (W := fun i => decide (1 ≤ i)) (m := (M_Board___init__)) (N := N_Board___init__) (j := 2) FD sc_Board___init__ rfl (by decide) (fun i hi => decide_eq_false (by omega)) (fun cdv A outer s H E hr => PSs.nox ?_), (by obtain ⟨ds, hds, hb⟩ := FD.binds1 (ps := ["self", "many", "ways"]) 3 1 (by intro z; cases z) rfl (fun T kV doc pm an cdv ct us its h1 h2 => match us, h1, its, h2 with | [_, _, _], _, [_], _ => ⟨_, rfl, rfl⟩); cases hds; exact hb)⟩, FD.kp⟩
  have nd : N_Board___init__.Nodup := sc_Board___init__.nd
  have hu := hr.units
  have hu1 : (A.deeper (PyProof.Rows.envOfC fn_4.qual fn_4.scope s.heap.objs.size (He.fAd K ("Board", some "__init__")) cdv)).units + 1 < cLine := by have := hr.units; omega
  unfold M_Board___init__ S_Board___init___6 S_Board___init___5 S_Board___init___4 S_Board___init___3 B_Board___init___2 S_Board___init___1 S_Board___init___0
  exact (s_cons (s_if (t_not (t_val (e_call (fo_is_number.mono (by omega)) kok_fn hr rfl T.gl_is_number kp_is_number b_is_number .nil pass0 (fun _ _ => reps_nil') rfl (by decide) (a_cons (e_var 1 (pv 1)) (a_cons (e_con (.int 1) pe_int (fun _ _ => rep_int _)) (a_cons (e_con (.int 8) (pe_glob rfl hc_MOST_PLACES rel_int) (fun _ _ => rep_int _)) a_nil))) (od_e (od_e (od_e od_n)))) (fun _ => rfl))) (ss_never) (s_nil))
    (s_cons (s_asg (e_dct0T) (g_name (pg_name (i := 3) nd rfl (by first | exact Or.inl rfl | exact Or.inr rfl)) rfl) rfl rfl rfl)
    (s_cons (s_for PassesOwn.never rfl (i_enum rfl rfl T.bl_enumerate (e_var 2 (pv 2)) rfl) (g_tup rfl rfl (g_cons (g_name (pg_name (i := 4) nd rfl (by first | exact Or.inl rfl | exact Or.inr rfl)) rfl) (g_cons (g_tup rfl rfl (g_cons (g_name (pg_name (i := 5) nd rfl (by first | exact Or.inl rfl | exact Or.inr rfl)) rfl) (g_cons (g_name (pg_name (i := 6) nd rfl (by first | exact Or.inl rfl | exact Or.inr rfl)) rfl) (g_nil) rfl) rfl) rfl rfl) (g_nil) rfl) rfl) rfl rfl) (s_cons (s_asg (e_and (e_call (fo_is_number.mono (by omega)) kok_fn hr rfl T.gl_is_number kp_is_number b_is_number .nil pass0 (fun _ _ => reps_nil') rfl (by decide) (a_cons (e_var 5 (pv 5)) (a_cons (e_con (.int 0) pe_int (fun _ _ => rep_int _)) (a_cons (e_sub (pv 1) (e_con (.int 1) pe_int (fun _ _ => rep_int _)) (od_v (od_e od_n))) a_nil))) (od_e (od_e (od_e od_n)))) (e_and (e_call (fo_is_number.mono (by omega)) kok_fn hr rfl T.gl_is_number kp_is_number b_is_number .nil pass0 (fun _ _ => reps_nil') rfl (by decide) (a_cons (e_var 6 (pv 6)) (a_cons (e_con (.int 0) pe_int (fun _ _ => rep_int _)) (a_cons (e_sub (pv 1) (e_con (.int 1) pe_int (fun _ _ => rep_int _)) (od_v (od_e od_n))) a_nil))) (od_e (od_e (od_e od_n)))) (pe_one (e_cmpC (c_ne rfl hu) (pv 5) (pv 6) rfl (od_v (od_v od_n)))))) (g_name (pg_name (i := 7) nd rfl (by first | exact Or.inl rfl | exact Or.inr rfl)) rfl) rfl rfl rfl)
    (s_cons (s_if (PW.pt (w_or (t_not (t_val (e_var 7 (pv 7)) (fun _ => rfl))) (pw_or1 (t_inT hu1 (sk_tup (sa_cons (sm_var (pv 5)) (sa_cons (sm_var (pv 6)) sa_nil))) (pt_var (pv 3)) rfl)))) (ss_never) (s_nil))
    (s_cons (s_asg (e_con (.bl true) pe_bl (fun _ _ => rep_bl _)) (g_setT hu1 (pt_var (pv 3)) (sk_tup (sa_cons (sm_var (pv 5)) (sa_cons (sm_var (pv 6)) sa_nil))) (fun _ => rfl)) rfl rfl rfl)
    (s_nil)))) (fun _ => rfl))
    (s_cons (s_fld (c0 := 0) (n := 16) (pt_var (pv 0)) (e_var 1 (pv 1)) rfl T.cls_Board T.na_Board_room rfl)
    (s_cons (s_fld (c0 := 0) (n := 17) (pt_var (pv 0)) (e_fz (e_cb ((b_sortI rfl).or (b_sortD rfl hu)) rfl T.bl_sorted rfl (a_cons (e_ct ((b_list rfl).or (b_listT rfl)) rfl T.bl_list rfl (a_cons (pv 3) a_nil) (od_v od_n)) a_nil) (od_e od_n))) rfl T.cls_Board T.na_Board_roads rfl)
    (s_cons (s_fld (c0 := 0) (n := 18) (pt_var (pv 0)) (e_fz (e_comp (own := [("start", 8)]) rfl nd (i_range1 rfl T.bl_range (pv 1) (od_v od_n) rfl) (blkOk_by (N := N_Board___init__) (by kernel_rfl)) (fun _ _ _ _ _ => g_name (pg_name (i := 8) nd rfl (by first | exact Or.inl rfl | exact Or.inr rfl)) rfl) (fun _ _ _ _ _ => ts_nil) (fun _ _ _ _ _ => e_call (fo_spans_from.mono (by omega)) kok_fn hr rfl T.gl_spans_from kp_spans_from b_spans_from .nil pass0 (fun _ _ => reps_nil') rfl (by decide) (a_cons (e_var 1 (pv 1)) (a_cons (e_pth (pt_fld (c0 := 0) (n := 17) rfl (pt_var (pv 0)) rfl rfl T.cls_Board T.na_Board_roads)) (a_cons (e_var 8 (pv 8)) a_nil))) (od_e (od_e (od_e od_n)))) (fun _ => rfl))) rfl T.cls_Board T.na_Board_spans rfl)
    (s_nil)))))))
theorem sc__law_made : FnScope N__law_made ["_law_board_here"] (defScope (top 42)) := ⟨rfl, rfl, rfl, by decide +kernel, rfl, by decide +kernel, by decide +kernel⟩
theorem ok__law_made (T : Tops K mg) (c_Board___init__ : Ok_Board___init__ P w K mg base) : Ok__law_made P w K mg base := by
  obtain ⟨⟨fd_Board___init__, fo_Board___init__, b_Board___init__⟩, kp_Board___init__⟩ := c_Board___init__
  obtain ⟨fd, FD⟩ := T.s.def_ 37 (d := fn_37) rfl
  refine ⟨⟨fd, fn_rm (W := fun i => decide (0 ≤ i)) (m := (M__law_made)) (N := N__law_made) (j := 4) FD sc__law_made rfl (by decide) (fun i hi => decide_eq_false (by omega)) (fun cdv A outer s H E hr => PSs.nox ?_), FD.bindsN fun _ _ _ _ _ _ us hl => match us, hl with | [_], _ => rfl⟩, FD.kp⟩
  have nd : N__law_made.Nodup := sc__law_made.nd
  have hu := hr.units
  have hu1 : (A.deeper (PyProof.Rows.envOfC fn_37.qual fn_37.scope s.heap.objs.size (He.fAd K ("_law_made", none)) cdv)).units + 1 < cLine := by have := hr.units; omega
  unfold M__law_made
  exact (s_cons (s_ret (e_fz (e_make (c0 := 0) T.mk_Board (fo_Board___init__.mono (by omega)) hr rfl T.gc_Board b_Board___init__ .nil pass0 (fun _ _ => reps_nil') rfl (by exact (a_cons (e_pth (pt_ix rfl (pt_var (pv 0)) (sm_con pe_int (fun _ _ => rep_int _)) (fun _ _ => rfl))) (a_cons (e_ct ((b_list rfl).or (b_listT rfl)) rfl T.bl_list rfl (a_cons (e_pth (pt_ix rfl (pt_var (pv 0)) (sm_con pe_int (fun _ _ => rep_int _)) (fun _ _ => rfl))) a_nil) (od_e od_n)) a_nil))))))
    (s_nil))
theorem sc__law_ground : FnScope N__law_ground ["_law_box_here", "_law_most"] (defScope (top 52)) := ⟨rfl, rfl, rfl, by decide +kernel, rfl, by decide +kernel, by decide +kernel⟩
theorem ok__law_ground (T : Tops K mg) (c__law_board : Ok__law_board P w K mg base) (c__law_spans : Ok__law_spans P w K mg base) (c__law_made : Ok__law_made P w K mg base) : Ok__law_ground P w K mg base := by
  obtain ⟨⟨fd__law_board, fo__law_board, b__law_board⟩, kp__law_board⟩ := c__law_board
  obtain ⟨⟨fd__law_spans, fo__law_spans, b__law_spans⟩, kp__law_spans⟩ := c__law_spans
  obtain ⟨⟨fd__law_made, fo__law_made, b__law_made⟩, kp__law_made⟩ := c__law_made
  obtain ⟨fd, FD⟩ := T.s.def_ 47 (d := fn_47) rfl
  refine ⟨⟨fd, fn_rm (W := fun i => decide (1 ≤ i)) (m := (M__law_ground)) (N := N__law_ground) (j := 5) FD sc__law_ground rfl (by decide) (fun i hi => decide_eq_false (by omega)) (fun cdv A outer s H E hr => PSs.nox ?_), FD.bindsN fun _ _ _ _ _ _ us hl => match us, hl with | [_, _], _ => rfl⟩, FD.kp⟩
  have nd : N__law_ground.Nodup := sc__law_ground.nd
  have hu := hr.units
  have hu1 : (A.deeper (PyProof.Rows.envOfC fn_47.qual fn_47.scope s.heap.objs.size (He.fAd K ("_law_ground", none)) cdv)).units + 1 < cLine := by have := hr.units; omega
  unfold M__law_ground S__law_ground_1 S__law_ground_0
  exact (s_cons (s_asg (e_call (fo__law_board.mono (by omega)) kok_fn hr rfl T.gl__law_board kp__law_board b__law_board .nil pass0 (fun _ _ => reps_nil') rfl (by decide) (a_cons (pv 0) (a_cons (e_var 1 (pv 1)) a_nil)) (od_v (od_e od_n))) (g_name (pg_name (i := 2) nd rfl (by first | exact Or.inl rfl | exact Or.inr rfl)) rfl) rfl rfl rfl)
    (s_cons (s_ret (e_fz (e_tup (by decide) (by exact (a_cons (e_var 2 (pv 2)) (a_cons (e_call (fo__law_spans.mono (by omega)) kok_fn hr rfl T.gl__law_spans kp__law_spans b__law_spans .nil pass0 (fun _ _ => reps_nil') rfl (by decide) (a_cons (e_var 2 (pv 2)) a_nil) (od_e od_n)) (a_cons (e_call (fo__law_made.mono (by omega)) kok_fn hr rfl T.gl__law_made kp__law_made b__law_made .nil pass0 (fun _ _ => reps_nil') rfl (by decide) (a_cons (e_var 2 (pv 2)) a_nil) (od_e od_n)) a_nil)))))))
    (s_nil)))
theorem sc__law_lot : FnScope N__law_lot ["_law_box_here", "_law_many"] (defScope (top 46)) := ⟨rfl, rfl, rfl, by decide +kernel, rfl, by decide +kernel, by decide +kernel⟩
theorem ok__law_lot (T : Tops K mg) (c__law_pick : Ok__law_pick P w K mg base) : Ok__law_lot P w K mg base := by
  obtain ⟨⟨fd__law_pick, fo__law_pick, b__law_pick⟩, kp__law_pick⟩ := c__law_pick
  obtain ⟨fd, FD⟩ := T.s.def_ 41 (d := fn_41) rfl
  refine ⟨⟨fd, fn_rm (W := fun i => decide (1 ≤ i)) (m := (M__law_lot)) (N := N__law_lot) (j := 1) FD sc__law_lot rfl (by decide) (fun i hi => decide_eq_false (by omega)) (fun cdv A outer s H E hr => PSs.nox ?_), FD.bindsN fun _ _ _ _ _ _ us hl => match us, hl with | [_, _], _ => rfl⟩, FD.kp⟩
  have nd : N__law_lot.Nodup := sc__law_lot.nd
  have hu := hr.units
  have hu1 : (A.deeper (PyProof.Rows.envOfC fn_41.qual fn_41.scope s.heap.objs.size (He.fAd K ("_law_lot", none)) cdv)).units + 1 < cLine := by have := hr.units; omega
  unfold M__law_lot S__law_lot_2 S__law_lot_1 S__law_lot_0
  exact (s_cons (s_if (t_cmpC (c_eq rfl hu) (e_call (fo__law_pick.mono (by omega)) kok_fn hr rfl T.gl__law_pick kp__law_pick b__law_pick .nil pass0 (fun _ _ => reps_nil') rfl (by decide) (a_cons (pv 0) (a_cons (e_con (.int 5) pe_int (fun _ _ => rep_int _)) a_nil)) (od_v (od_e od_n))) (e_con (.int 0) pe_int (fun _ _ => rep_int _)) rfl (od_e (od_e od_n))) (s_cons (s_ret (e_fz (e_rgT rfl rfl T.bl_tuple rfl T.bl_range (pv 1) (od_v od_n))))
    (s_nil)) (s_nil))
    (s_cons (s_asg (e_add rfl (e_con (.int 1) pe_int (fun _ _ => rep_int _)) (e_call (fo__law_pick.mono (by omega)) kok_fn hr rfl T.gl__law_pick kp__law_pick b__law_pick .nil pass0 (fun _ _ => reps_nil') rfl (by decide) (a_cons (pv 0) (a_cons (e_con (.int 4) pe_int (fun _ _ => rep_int _)) a_nil)) (od_v (od_e od_n))) (od_e (od_e od_n))) (g_name (pg_name (i := 2) nd rfl (by first | exact Or.inl rfl | exact Or.inr rfl)) rfl) rfl rfl rfl)
    (s_cons (s_ret (e_fz (e_ct (b_tup rfl) rfl T.bl_tuple rfl (a_cons (e_comp (own := [("_law_place", 3)]) rfl nd (i_range1 rfl T.bl_range (pv 1) (od_v od_n) rfl) (blkOk_by (N := N__law_lot) (by kernel_rfl)) (fun _ _ _ _ _ => g_name (pg_name (i := 3) nd rfl (by first | exact Or.inl rfl | exact Or.inr rfl)) rfl) (fun _ _ _ _ _ => ts_one (t_cmpC (c_lt) (e_call (fo__law_pick.mono (by omega)) kok_fn hr rfl T.gl__law_pick kp__law_pick b__law_pick .nil pass0 (fun _ _ => reps_nil') rfl (by decide) (a_cons (pv 0) (a_cons (e_con (.int 5) pe_int (fun _ _ => rep_int _)) a_nil)) (od_v (od_e od_n))) (pv 2) rfl (od_e (od_v od_n)))) (fun _ _ _ _ _ => e_var 3 (pv 3)) (fun _ => rfl)) a_nil) (od_e od_n))))
    (s_nil))))
theorem sc__law_start : FnScope N__law_start ["_law_box_here", "_law_many"] (defScope (top 47)) := ⟨rfl, rfl, rfl, by decide +kernel, rfl, by decide +kernel, by decide +kernel⟩
theorem ok__law_start (T : Tops K mg) (c__law_lot : Ok__law_lot P w K mg base) (c__law_pick : Ok__law_pick P w K mg base) : Ok__law_start P w K mg base := by
  obtain ⟨⟨fd__law_lot, fo__law_lot, b__law_lot⟩, kp__law_lot⟩ := c__law_lot
  obtain ⟨⟨fd__law_pick, fo__law_pick, b__law_pick⟩, kp__law_pick⟩ := c__law_pick
  obtain ⟨fd, FD⟩ := T.s.def_ 42 (d := fn_42) rfl
  refine ⟨⟨fd, fn_rm (W := fun i => decide (1 ≤ i)) (m := (M__law_start)) (N := N__law_start) (j := 2) FD sc__law_start rfl (by decide) (fun i hi => decide_eq_false (by omega)) (fun cdv A outer s H E hr => PSs.nox ?_), FD.bindsN fun _ _ _ _ _ _ us hl => match us, hl with | [_, _], _ => rfl⟩, FD.kp⟩
  have nd : N__law_start.Nodup := sc__law_start.nd
  have hu := hr.units
  have hu1 : (A.deeper (PyProof.Rows.envOfC fn_42.qual fn_42.scope s.heap.objs.size (He.fAd K ("_law_start", none)) cdv)).units + 1 < cLine := by have := hr.units; omega
  unfold M__law_start S__law_start_1 S__law_start_0
  exact (s_cons (s_asg (e_call (fo__law_lot.mono (by omega)) kok_fn hr rfl T.gl__law_lot kp__law_lot b__law_lot .nil pass0 (fun _ _ => reps_nil') rfl (by decide) (a_cons (pv 0) (a_cons (e_var 1 (pv 1)) a_nil)) (od_v (od_e od_n))) (g_name (pg_name (i := 2) nd rfl (by first | exact Or.inl rfl | exact Or.inr rfl)) rfl) rfl rfl rfl)
    (s_cons (s_ret (e_fz (e_if (t_cmpC (c_ne rfl hu) (pv 2) (e_tup (by decide) (by exact a_nil)) rfl (od_v (od_e od_n))) (e_var 2 (pv 2)) (e_tup (by decide) (by exact (a_cons (e_call (fo__law_pick.mono (by omega)) kok_fn hr rfl T.gl__law_pick kp__law_pick b__law_pick .nil pass0 (fun _ _ => reps_nil') rfl (by decide) (a_cons (pv 0) (a_cons (e_var 1 (pv 1)) a_nil)) (od_v (od_e od_n))) a_nil))))))
    (s_nil)))
theorem sc__law_from : FnScope N__law_from ["_law_box_here", "_law_menu"] (defScope (top 37)) := ⟨rfl, rfl, rfl, by decide +kernel, rfl, by decide +kernel, by decide +kernel⟩
theorem ok__law_from (T : Tops K mg) (c__law_pick : Ok__law_pick P w K mg base) : Ok__law_from P w K mg base := by
  obtain ⟨⟨fd__law_pick, fo__law_pick, b__law_pick⟩, kp__law_pick⟩ := c__law_pick
  obtain ⟨fd, FD⟩ := T.s.def_ 32 (d := fn_32) rfl
  refine ⟨⟨fd, fn_rm (W := fun i => decide (1 ≤ i)) (m := (M__law_from)) (N := N__law_from) (j := 1) FD sc__law_from rfl (by decide) (fun i hi => decide_eq_false (by omega)) (fun cdv A outer s H E hr => PSs.nox ?_), FD.bindsN fun _ _ _ _ _ _ us hl => match us, hl with | [_, _], _ => rfl⟩, FD.kp⟩
  have nd : N__law_from.Nodup := sc__law_from.nd
  have hu := hr.units
  have hu1 : (A.deeper (PyProof.Rows.envOfC fn_32.qual fn_32.scope s.heap.objs.size (He.fAd K ("_law_from", none)) cdv)).units + 1 < cLine := by have := hr.units; omega
  unfold M__law_from
  exact (s_cons (s_ret (e_fz (e_ix rfl (pv 1) (e_call (fo__law_pick.mono (by omega)) kok_fn hr rfl T.gl__law_pick kp__law_pick b__law_pick .nil pass0 (fun _ _ => reps_nil') rfl (by decide) (a_cons (pv 0) (a_cons (e_cb (b_len rfl) rfl T.bl_len rfl (a_cons (pv 1) a_nil) (od_v od_n)) a_nil)) (od_v (od_e od_n))) (fun _ _ => rfl) (od_v (od_e od_n)))))
    (s_nil))
theorem sc__law_pace : FnScope N__law_pace ["_law_box_here", "_law_many"] (defScope (top 44)) := ⟨rfl, rfl, rfl, by decide +kernel, rfl, by decide +kernel, by decide +kernel⟩
theorem ok__law_pace (T : Tops K mg) (c__law_pick : Ok__law_pick P w K mg base) (c__law_from : Ok__law_from P w K mg base) : Ok__law_pace P w K mg base := by
  obtain ⟨⟨fd__law_pick, fo__law_pick, b__law_pick⟩, kp__law_pick⟩ := c__law_pick
  obtain ⟨⟨fd__law_from, fo__law_from, b__law_from⟩, kp__law_from⟩ := c__law_from
  obtain ⟨fd, FD⟩ := T.s.def_ 39 (d := fn_39) rfl
  refine ⟨⟨fd, fn_rm (W := fun i => decide (1 ≤ i)) (m := (M__law_pace)) (N := N__law_pace) (j := 2) FD sc__law_pace rfl (by decide) (fun i hi => decide_eq_false (by omega)) (fun cdv A outer s H E hr => PSs.nox ?_), FD.bindsN fun _ _ _ _ _ _ us hl => match us, hl with | [_, _], _ => rfl⟩, FD.kp⟩
  have nd : N__law_pace.Nodup := sc__law_pace.nd
  have hu := hr.units
  have hu1 : (A.deeper (PyProof.Rows.envOfC fn_39.qual fn_39.scope s.heap.objs.size (He.fAd K ("_law_pace", none)) cdv)).units + 1 < cLine := by have := hr.units; omega
  unfold M__law_pace S__law_pace_1 S__law_pace_0
  exact (s_cons (s_if (t_cmpC (c_eq rfl hu) (e_call (fo__law_pick.mono (by omega)) kok_fn hr rfl T.gl__law_pick kp__law_pick b__law_pick .nil pass0 (fun _ _ => reps_nil') rfl (by decide) (a_cons (pv 0) (a_cons (e_con (.int 2) pe_int (fun _ _ => rep_int _)) a_nil)) (od_v (od_e od_n))) (e_con (.int 0) pe_int (fun _ _ => rep_int _)) rfl (od_e (od_e od_n))) (s_cons (s_ret (e_fz (e_mul rfl (e_tup (by decide) (by exact (a_cons (e_call (fo__law_from.mono (by omega)) kok_fn hr rfl T.gl__law_from kp__law_from b__law_from .nil pass0 (fun _ _ => reps_nil') rfl (by decide) (a_cons (pv 0) (a_cons (e_lst (by decide) (by exact (a_cons (e_con (.int 0) pe_int (fun _ _ => rep_int _)) (a_cons (e_con (.int 1) pe_int (fun _ _ => rep_int _)) (a_cons (e_con (.int 1) pe_int (fun _ _ => rep_int _)) (a_cons (e_con (.int 2) pe_int (fun _ _ => rep_int _)) (a_cons (e_con (.int 3) pe_int (fun _ _ => rep_int _)) (a_cons (e_con (.int 7) pe_int (fun _ _ => rep_int _)) a_nil)))))))) a_nil)) (od_v (od_e od_n))) a_nil))) (pv 1) (od_e (od_v od_n)))))
    (s_nil)) (s_nil))
    (s_cons (s_ret (e_fz (e_ct (b_tup rfl) rfl T.bl_tuple rfl (a_cons (e_comp (own := [("_law_k", 2)]) rfl nd (i_range1 rfl T.bl_range (pv 1) (od_v od_n) rfl) (blkOk_by (N := N__law_pace) (by kernel_rfl)) (fun _ _ _ _ _ => g_name (pg_name (i := 2) nd rfl (by first | exact Or.inl rfl | exact Or.inr rfl)) rfl) (fun _ _ _ _ _ => ts_nil) (fun _ _ _ _ _ => e_call (fo__law_from.mono (by omega)) kok_fn hr rfl T.gl__law_from kp__law_from b__law_from .nil pass0 (fun _ _ => reps_nil') rfl (by decide) (a_cons (pv 0) (a_cons (e_lst (by decide) (by exact (a_cons (e_con (.int 0) pe_int (fun _ _ => rep_int _)) (a_cons (e_con (.int 1) pe_int (fun _ _ => rep_int _)) (a_cons (e_con (.int 1) pe_int (fun _ _ => rep_int _)) (a_cons (e_con (.int 2) pe_int (fun _ _ => rep_int _)) (a_cons (e_con (.int 3) pe_int (fun _ _ => rep_int _)) (a_cons (e_con (.int 4) pe_int (fun _ _ => rep_int _)) (a_cons (e_con (.int 5) pe_int (fun _ _ => rep_int _)) (a_cons (e_con (.int 6) pe_int (fun _ _ => rep_int _)) (a_cons (e_con (.int 7) pe_int (fun _ _ => rep_int _)) a_nil))))))))))) a_nil)) (od_v (od_e od_n))) (fun _ => rfl)) a_nil) (od_e od_n))))
    (s_nil)))
theorem sc__law_reached : FnScope N__law_reached ["_law_spans_here", "_law_pace_here", "_law_lot_here"] (defScope (top 45)) := ⟨rfl, rfl, rfl, by decide +kernel, rfl, by decide +kernel, by decide +kernel⟩
theorem ok__law_reached (T : Tops K mg) : Ok__law_reached P w K mg base := by
  obtain ⟨fd, FD⟩ := T.s.def_ 40 (d := fn_40) rfl
  refine ⟨⟨fd, fn_rm (W := fun i => decide (0 ≤ i)) (m := (M__law_reached)) (N := N__law_reached) (j := 0) FD sc__law_reached rfl (by decide) (fun i hi => decide_eq_false (by omega)) (fun cdv A outer s H E hr => PSs.nox ?_), FD.bindsN fun _ _ _ _ _ _ us hl => match us, hl with | [_, _, _], _ => rfl⟩, FD.kp⟩
  have nd : N__law_reached.Nodup := sc__law_reached.nd
  have hu := hr.units
  have hu1 : (A.deeper (PyProof.Rows.envOfC fn_40.qual fn_40.scope s.heap.objs.size (He.fAd K ("_law_reached", none)) cdv)).units + 1 < cLine := by have := hr.units; omega
  unfold M__law_reached
  exact (s_cons (s_ret (e_fz (e_ct (b_tup rfl) rfl T.bl_tuple rfl (a_cons (e_comp (own := [("_law_to", 3)]) rfl nd (i_range1 rfl T.bl_range (e_cb (b_len rfl) rfl T.bl_len rfl (a_cons (pv 0) a_nil) (od_v od_n)) (od_e od_n) rfl) (blkOk_by (N := N__law_reached) (by kernel_rfl)) (fun _ _ _ _ _ => g_name (pg_name (i := 3) nd rfl (by first | exact Or.inl rfl | exact Or.inr rfl)) rfl) (fun _ _ _ _ _ => ts_one (t_val (e_cb (b_any rfl rfl) rfl T.bl_any rfl (a_cons (e_comp (own := [("_law_one", 4)]) rfl nd (i_seq rfl (e_var 2 (pv 2))) (blkOk_by (N := N__law_reached) (by kernel_rfl)) (fun _ _ _ _ _ => g_name (pg_name (i := 4) nd rfl (by first | exact Or.inl rfl | exact Or.inr rfl)) rfl) (fun _ _ _ _ _ => ts_nil) (fun _ _ _ _ _ => e_cmpC (c_le) (e_pth (pt_ix rfl (pt_ix rfl (pt_var (pv 0)) (sm_var (pv 4)) (fun _ _ => rfl)) (sm_var (pv 3)) (fun _ _ => rfl))) (e_pth (pt_ix rfl (pt_var (pv 1)) (sm_var (pv 4)) (fun _ _ => rfl))) rfl (od_e (od_e od_n))) (fun _ => rfl)) a_nil) (od_e od_n)) (fun _ => rfl))) (fun _ _ _ _ _ => e_var 3 (pv 3)) (fun _ => rfl)) a_nil) (od_e od_n))))
    (s_nil))
theorem sc__law_look : FnScope N__law_look ["_law_box_here", "_law_many"] (defScope (top 48)) := ⟨rfl, rfl, rfl, by decide +kernel, rfl, by decide +kernel, by decide +kernel⟩
theorem ok__law_look (T : Tops K mg) (c__law_pick : Ok__law_pick P w K mg base) (c__law_lot : Ok__law_lot P w K mg base) (c__law_from : Ok__law_from P w K mg base) (c__law_mixed : Ok__law_mixed P w K mg base) : Ok__law_look P w K mg base := by
  obtain ⟨⟨fd__law_pick, fo__law_pick, b__law_pick⟩, kp__law_pick⟩ := c__law_pick
  obtain ⟨⟨fd__law_lot, fo__law_lot, b__law_lot⟩, kp__law_lot⟩ := c__law_lot
  obtain ⟨⟨fd__law_from, fo__law_from, b__law_from⟩, kp__law_from⟩ := c__law_from
  obtain ⟨⟨fd__law_mixed, fo__law_mixed, b__law_mixed⟩, kp__law_mixed⟩ := c__law_mixed
  obtain ⟨fd, FD⟩ := T.s.def_ 43 (d := fn_43) rfl
  refine ⟨⟨fd, fn_rm (W := fun i => decide (1 ≤ i)) (m := (M__law_look)) (N := N__law_look) (j := 2) FD sc__law_look rfl (by decide) (fun i hi => decide_eq_false (by omega)) (fun cdv A outer s H E hr => PSs.nox ?_), FD.bindsN fun _ _ _ _ _ _ us hl => match us, hl with | [_, _], _ => rfl⟩, FD.kp⟩
  have nd : N__law_look.Nodup := sc__law_look.nd
  have hu := hr.units
  have hu1 : (A.deeper (PyProof.Rows.envOfC fn_43.qual fn_43.scope s.heap.objs.size (He.fAd K ("_law_look", none)) cdv)).units + 1 < cLine := by have := hr.units; omega
  unfold M__law_look S__law_look_3 S__law_look_2 S__law_look_1 S__law_look_0
  exact (s_cons (s_asg (e_call (fo__law_pick.mono (by omega)) kok_fn hr rfl T.gl__law_pick kp__law_pick b__law_pick .nil pass0 (fun _ _ => reps_nil') rfl (by decide) (a_cons (pv 0) (a_cons (e_con (.int 3) pe_int (fun _ _ => rep_int _)) a_nil)) (od_v (od_e od_n))) (g_name (pg_name (i := 2) nd rfl (by first | exact Or.inl rfl | exact Or.inr rfl)) rfl) rfl rfl rfl)
    (s_cons (s_if (t_cmpC (c_eq rfl hu) (pv 2) (e_con (.int 0) pe_int (fun _ _ => rep_int _)) rfl (od_v (od_e od_n))) (s_cons (s_ret (e_fz (e_tup (by decide) (by exact (a_cons (e_con (.str ("in" : PySem.Str)) pe_str (fun _ _ => rep_str _)) (a_cons (e_call (fo__law_lot.mono (by omega)) kok_fn hr rfl T.gl__law_lot kp__law_lot b__law_lot .nil pass0 (fun _ _ => reps_nil') rfl (by decide) (a_cons (pv 0) (a_cons (e_var 1 (pv 1)) a_nil)) (od_v (od_e od_n))) a_nil))))))
    (s_nil)) (s_nil))
    (s_cons (s_if (t_cmpC (c_eq rfl hu) (pv 2) (e_con (.int 1) pe_int (fun _ _ => rep_int _)) rfl (od_v (od_e od_n))) (s_cons (s_asg (e_call (fo__law_from.mono (by omega)) kok_fn hr rfl T.gl__law_from kp__law_from b__law_from .nil pass0 (fun _ _ => reps_nil') rfl (by decide) (a_cons (pv 0) (a_cons (e_lst (by decide) (by exact (a_cons (e_con (.int 1) pe_int (fun _ _ => rep_int _)) (a_cons (e_con (.int 2) pe_int (fun _ _ => rep_int _)) (a_cons (e_con (.int 3) pe_int (fun _ _ => rep_int _)) (a_cons (e_con (.int 4) pe_int (fun _ _ => rep_int _)) (a_cons (e_con (.int 8) pe_int (fun _ _ => rep_int _)) a_nil))))))) a_nil)) (od_v (od_e od_n))) (g_name (pg_name (i := 3) nd rfl (by first | exact Or.inl rfl | exact Or.inr rfl)) rfl) rfl rfl rfl)
    (s_cons (s_asg (e_comp (own := [("_law_place", 6)]) rfl nd (i_range1 rfl T.bl_range (pv 1) (od_v od_n) rfl) (blkOk_by (N := N__law_look) (by kernel_rfl)) (fun _ _ _ _ _ => g_name (pg_name (i := 6) nd rfl (by first | exact Or.inl rfl | exact Or.inr rfl)) rfl) (fun _ _ _ _ _ => ts_nil) (fun _ _ _ _ _ => e_call (fo__law_pick.mono (by omega)) kok_fn hr rfl T.gl__law_pick kp__law_pick b__law_pick .nil pass0 (fun _ _ => reps_nil') rfl (by decide) (a_cons (pv 0) (a_cons (e_var 3 (pv 3)) a_nil)) (od_v (od_e od_n))) (fun _ => rfl)) (g_name (pg_name (i := 4) nd rfl (by first | exact Or.inl rfl | exact Or.inr rfl)) rfl) rfl rfl rfl)
    (s_cons (s_setComp (i := 5) (own := [("_law_sign", 7)]) rfl nd rfl rfl rfl (sw_true rfl rfl rfl (by decide +kernel)) (i_seq rfl (e_sortSet rfl rfl rfl T.bl_sorted rfl rfl T.bl_set rfl (pv 4) (od_v od_n))) (blkOk_by (N := N__law_look) (by kernel_rfl)) (fun _ _ _ _ _ => g_name (pg_name (i := 7) nd rfl (by first | exact Or.inl rfl | exact Or.inr rfl)) rfl) (fun _ _ _ _ _ => ts_nil) (fun _ _ _ _ _ => e_ct (b_tup rfl) rfl T.bl_tuple rfl (a_cons (e_comp (own := [("_law_place", 6)]) rfl nd (i_range1 rfl T.bl_range (pv 1) (od_v od_n) rfl) (blkOk_by (N := N__law_look) (by kernel_rfl)) (fun _ _ _ _ _ => g_name (pg_name (i := 6) nd rfl (by first | exact Or.inl rfl | exact Or.inr rfl)) rfl) (fun _ _ _ _ _ => ts_one (t_cmpC (c_eq rfl hu) (e_pth (pt_ix rfl (pt_var (pv 4)) (sm_var (pv 6)) (fun _ _ => rfl))) (pv 7) rfl (od_e (od_v od_n)))) (fun _ _ _ _ _ => e_var 6 (pv 6)) (fun _ => rfl)) a_nil) (od_e od_n)) (fun _ => rfl))
    (s_cons (s_ret (e_fz (e_tup (by decide) (by exact (a_cons (e_con (.str ("parts" : PySem.Str)) pe_str (fun _ _ => rep_str _)) (a_cons (e_ct (b_tup rfl) rfl T.bl_tuple rfl (a_cons (e_call (fo__law_mixed.mono (by omega)) kok_fn hr rfl T.gl__law_mixed kp__law_mixed b__law_mixed .nil pass0 (fun _ _ => reps_nil') rfl (by decide) (a_cons (pv 0) (a_cons (e_var 5 (pv 5)) a_nil)) (od_v (od_e od_n))) a_nil) (od_e od_n)) a_nil))))))
    (s_nil))))) (s_nil))
    (s_cons (s_ret (e_fz (e_tup (by decide) (by exact (a_cons (e_con (.str ("near" : PySem.Str)) pe_str (fun _ _ => rep_str _)) (a_cons (e_call (fo__law_pick.mono (by omega)) kok_fn hr rfl T.gl__law_pick kp__law_pick b__law_pick .nil pass0 (fun _ _ => reps_nil') rfl (by decide) (a_cons (pv 0) (a_cons (e_var 1 (pv 1)) a_nil)) (od_v (od_e od_n))) (a_cons (e_call (fo__law_from.mono (by omega)) kok_fn hr rfl T.gl__law_from kp__law_from b__law_from .nil pass0 (fun _ _ => reps_nil') rfl (by decide) (a_cons (pv 0) (a_cons (e_lst (by decide) (by exact (a_cons (e_con (.int 0) pe_int (fun _ _ => rep_int _)) (a_cons (e_con (.int 1) pe_int (fun _ _ => rep_int _)) (a_cons (e_con (.int 2) pe_int (fun _ _ => rep_int _)) (a_cons (e_con (.int 7) pe_int (fun _ _ => rep_int _)) (a_cons (e_con (.int 3) pe_int (fun _ _ => rep_int _)) (a_cons (e_con (.int 4) pe_int (fun _ _ => rep_int _)) (a_cons (e_con (.int 5) pe_int (fun _ _ => rep_int _)) (a_cons (e_con (.int 6) pe_int (fun _ _ => rep_int _)) a_nil)))))))))) a_nil)) (od_v (od_e od_n))) a_nil)))))))
    (s_nil)))))
theorem sc__law_answer : FnScope N__law_answer ["_law_spans_here", "_law_look_here", "_law_place"] (defScope (top 49)) := ⟨rfl, rfl, rfl, by decide +kernel, rfl, by decide +kernel, by decide +kernel⟩
theorem ok__law_answer (T : Tops K mg) : Ok__law_answer P w K mg base := by
  obtain ⟨fd, FD⟩ := T.s.def_ 44 (d := fn_44) rfl
  refine ⟨⟨fd, fn_rm (W := fun i => decide (0 ≤ i)) (m := (M__law_answer)) (N := N__law_answer) (j := 0) FD sc__law_answer rfl (by decide) (fun i hi => decide_eq_false (by omega)) (fun cdv A outer s H E hr => PSs.nox ?_), FD.bindsN fun _ _ _ _ _ _ us hl => match us, hl with | [_, _, _], _ => rfl⟩, FD.kp⟩
  have nd : N__law_answer.Nodup := sc__law_answer.nd
  have hu := hr.units
  have hu1 : (A.deeper (PyProof.Rows.envOfC fn_44.qual fn_44.scope s.heap.objs.size (He.fAd K ("_law_answer", none)) cdv)).units + 1 < cLine := by have := hr.units; omega
  unfold M__law_answer S__law_answer_2 S__law_answer_1 S__law_answer_0
  exact (s_cons (s_if (t_cmpC (c_eq rfl hu) (e_pth (pt_ix rfl (pt_var (pv 1)) (sm_con pe_int (fun _ _ => rep_int _)) (fun _ _ => rfl))) (e_con (.str ("in" : PySem.Str)) pe_str (fun _ _ => rep_str _)) rfl (od_e (od_e od_n))) (s_cons (s_ret (e_ct (b_int) rfl T.bl_int rfl (a_cons (e_cmpC (c_in rfl) (pv 2) (e_pth (pt_ix rfl (pt_var (pv 1)) (sm_con pe_int (fun _ _ => rep_int _)) (fun _ _ => rfl))) rfl (od_v (od_e od_n))) a_nil) (od_e od_n)))
    (s_nil)) (s_nil))
    (s_cons (s_if (t_cmpC (c_eq rfl hu) (e_pth (pt_ix rfl (pt_var (pv 1)) (sm_con pe_int (fun _ _ => rep_int _)) (fun _ _ => rfl))) (e_con (.str ("parts" : PySem.Str)) pe_str (fun _ _ => rep_str _)) rfl (od_e (od_e od_n))) (s_cons (s_ret (e_fz (e_idx rfl (e_comp (own := [("_law_lot_here", 3)]) rfl nd (i_seq rfl (e_pth (pt_ix rfl (pt_var (pv 1)) (sm_con pe_int (fun _ _ => rep_int _)) (fun _ _ => rfl)))) (blkOk_by (N := N__law_answer) (by kernel_rfl)) (fun _ _ _ _ _ => g_name (pg_name (i := 3) nd rfl (by first | exact Or.inl rfl | exact Or.inr rfl)) rfl) (fun _ _ _ _ _ => ts_nil) (fun _ _ _ _ _ => e_cmpC (c_in rfl) (pv 2) (pv 3) rfl (od_v (od_v od_n))) (fun _ => rfl)) (e_con (.bl true) pe_bl (fun _ _ => rep_bl _)) (fun _ _ _ h => comp_lst h))))
    (s_nil)) (s_nil))
    (s_cons (s_ret (e_cb (b_min2 rfl) rfl T.bl_min rfl (a_cons (e_pth (pt_ix rfl (pt_ix rfl (pt_var (pv 0)) (sm_var (pv 2)) (fun _ _ => rfl)) (sm_pth (pt_ix rfl (pt_var (pv 1)) (sm_con pe_int (fun _ _ => rep_int _)) (fun _ _ => rfl))) (fun _ _ => rfl))) (a_cons (e_add rfl (e_pth (pt_ix rfl (pt_var (pv 1)) (sm_con pe_int (fun _ _ => rep_int _)) (fun _ _ => rfl))) (e_con (.int 1) pe_int (fun _ _ => rep_int _)) (od_e (od_e od_n))) a_nil)) (od_e (od_e od_n))))
    (s_nil))))
theorem sc__law_seen : FnScope N__law_seen ["_law_box_here", "_law_board_here", "_law_spans_here", "_law_walk", "_law_most"] (defScope (top 50)) := ⟨rfl, rfl, rfl, by decide +kernel, rfl, by decide +kernel, by decide +kernel⟩
theorem ok__law_seen (T : Tops K mg) (c__law_pick : Ok__law_pick P w K mg base) (c__law_look : Ok__law_look P w K mg base) (c__law_answer : Ok__law_answer P w K mg base) : Ok__law_seen P w K mg base := by
  obtain ⟨⟨fd__law_pick, fo__law_pick, b__law_pick⟩, kp__law_pick⟩ := c__law_pick
  obtain ⟨⟨fd__law_look, fo__law_look, b__law_look⟩, kp__law_look⟩ := c__law_look
  obtain ⟨⟨fd__law_answer, fo__law_answer, b__law_answer⟩, kp__law_answer⟩ := c__law_answer
  obtain ⟨fd, FD⟩ := T.s.def_ 45 (d := fn_45) rfl
  refine ⟨⟨fd, fn_rm (W := fun i => decide (1 ≤ i)) (m := (M__law_seen)) (N := N__law_seen) (j := 3) FD sc__law_seen rfl (by decide) (fun i hi => decide_eq_false (by omega)) (fun cdv A outer s H E hr => PSs.nox ?_), FD.bindsN fun _ _ _ _ _ _ us hl => match us, hl with | [_, _, _, _, _], _ => rfl⟩, FD.kp⟩
  have nd : N__law_seen.Nodup := sc__law_seen.nd
  have hu := hr.units
  have hu1 : (A.deeper (PyProof.Rows.envOfC fn_45.qual fn_45.scope s.heap.objs.size (He.fAd K ("_law_seen", none)) cdv)).units + 1 < cLine := by have := hr.units; omega
  unfold M__law_seen S__law_seen_3 S__law_seen_2 B__law_seen_1 S__law_seen_0
  exact (s_cons (s_par rfl nd rfl rfl (by decide) rfl rfl rfl rfl (e_pth (pt_ix rfl (pt_var (pv 1)) (sm_con pe_int (fun _ _ => rep_int _)) (fun _ _ => rfl))) (e_lst (by decide) (by exact a_nil)) rfl rfl rfl rfl)
    (s_cons (s_for PassesOwn.never rfl (i_range1 rfl T.bl_range (e_call (fo__law_pick.mono (by omega)) kok_fn hr rfl T.gl__law_pick kp__law_pick b__law_pick .nil pass0 (fun _ _ => reps_nil') rfl (by decide) (a_cons (pv 0) (a_cons (e_add rfl (pv 4) (e_con (.int 1) pe_int (fun _ _ => rep_int _)) (od_v (od_e od_n))) a_nil)) (od_v (od_e od_n))) (od_e od_n) rfl) (g_name (pg_name (i := 7) nd rfl (by first | exact Or.inl rfl | exact Or.inr rfl)) rfl) (s_cons (s_par rfl nd rfl rfl (by decide) rfl rfl rfl rfl (e_call (fo__law_pick.mono (by omega)) kok_fn hr rfl T.gl__law_pick kp__law_pick b__law_pick .nil pass0 (fun _ _ => reps_nil') rfl (by decide) (a_cons (pv 0) (a_cons (e_cb (b_len rfl) rfl T.bl_len rfl (a_cons (pv 3) a_nil) (od_v od_n)) a_nil)) (od_v (od_e od_n))) (e_call (fo__law_look.mono (by omega)) kok_fn hr rfl T.gl__law_look kp__law_look b__law_look .nil pass0 (fun _ _ => reps_nil') rfl (by decide) (a_cons (pv 0) (a_cons (e_var 5 (pv 5)) a_nil)) (od_v (od_e od_n))) rfl rfl rfl rfl)
    (s_cons (s_asg (e_call (fo__law_answer.mono (by omega)) kok_fn hr rfl T.gl__law_answer kp__law_answer b__law_answer .nil pass0 (fun _ _ => reps_nil') rfl (by decide) (a_cons (e_var 2 (pv 2)) (a_cons (e_var 9 (pv 9)) (a_cons (e_pth (pt_ix rfl (pt_var (pv 3)) (sm_var (pv 8)) (fun _ _ => rfl))) a_nil))) (od_e (od_e (od_e od_n)))) (g_name (pg_name (i := 10) nd rfl (by first | exact Or.inl rfl | exact Or.inr rfl)) rfl) rfl rfl rfl)
    (s_cons (s_if (t_cmpC (c_eq rfl hu) (e_call (fo__law_pick.mono (by omega)) kok_fn hr rfl T.gl__law_pick kp__law_pick b__law_pick .nil pass0 (fun _ _ => reps_nil') rfl (by decide) (a_cons (pv 0) (a_cons (e_con (.int 7) pe_int (fun _ _ => rep_int _)) a_nil)) (od_v (od_e od_n))) (e_con (.int 0) pe_int (fun _ _ => rep_int _)) rfl (od_e (od_e od_n))) (s_cons (s_asg (e_call (fo__law_answer.mono (by omega)) kok_fn hr rfl T.gl__law_answer kp__law_answer b__law_answer .nil pass0 (fun _ _ => reps_nil') rfl (by decide) (a_cons (e_var 2 (pv 2)) (a_cons (e_var 9 (pv 9)) (a_cons (e_call (fo__law_pick.mono (by omega)) kok_fn hr rfl T.gl__law_pick kp__law_pick b__law_pick .nil pass0 (fun _ _ => reps_nil') rfl (by decide) (a_cons (pv 0) (a_cons (e_var 5 (pv 5)) a_nil)) (od_v (od_e od_n))) a_nil))) (od_e (od_e (od_e od_n)))) (g_name (pg_name (i := 10) nd rfl (by first | exact Or.inl rfl | exact Or.inr rfl)) rfl) rfl rfl rfl)
    (s_nil)) (s_nil))
    (s_cons (s_expr (e_metV lm_app PySem.F.slot_list_append PySem.F.type_list_append mt_append (pv 6) (by exact (a_cons (e_tup (by decide) (by exact (a_cons (e_var 8 (pv 8)) (a_cons (e_var 9 (pv 9)) (a_cons (e_var 10 (pv 10)) a_nil))))) a_nil))) rfl)
    (s_nil))))) (fun _ => rfl))
    (s_cons (s_ret (e_fz (e_ct (b_tup rfl) rfl T.bl_tuple rfl (a_cons (pv 6) a_nil) (od_v od_n))))
    (s_nil))))
theorem sc__law_story : FnScope N__law_story ["_law_box_here", "_law_board_here", "_law_spans_here", "_law_beats", "_law_most"] (defScope (top 51)) := ⟨rfl, rfl, rfl, by decide +kernel, rfl, by decide +kernel, by decide +kernel⟩
theorem ok__law_story (T : Tops K mg) (c__law_start : Ok__law_start P w K mg base) (c__law_pace : Ok__law_pace P w K mg base) (c__law_from : Ok__law_from P w K mg base) (c__law_reached : Ok__law_reached P w K mg base) (c__law_seen : Ok__law_seen P w K mg base) : Ok__law_story P w K mg base := by
  obtain ⟨⟨fd__law_start, fo__law_start, b__law_start⟩, kp__law_start⟩ := c__law_start
  obtain ⟨⟨fd__law_pace, fo__law_pace, b__law_pace⟩, kp__law_pace⟩ := c__law_pace
  obtain ⟨⟨fd__law_from, fo__law_from, b__law_from⟩, kp__law_from⟩ := c__law_from
  obtain ⟨⟨fd__law_reached, fo__law_reached, b__law_reached⟩, kp__law_reached⟩ := c__law_reached
  obtain ⟨⟨fd__law_seen, fo__law_seen, b__law_seen⟩, kp__law_seen⟩ := c__law_seen
  obtain ⟨fd, FD⟩ := T.s.def_ 46 (d := fn_46) rfl
  refine ⟨⟨fd, fn_rm (W := fun i => decide (1 ≤ i)) (m := (M__law_story)) (N := N__law_story) (j := 4) FD sc__law_story rfl (by decide) (fun i hi => decide_eq_false (by omega)) (fun cdv A outer s H E hr => PSs.nox ?_), FD.bindsN fun _ _ _ _ _ _ us hl => match us, hl with | [_, _, _, _, _], _ => rfl⟩, FD.kp⟩
  have nd : N__law_story.Nodup := sc__law_story.nd
  have hu := hr.units
  have hu1 : (A.deeper (PyProof.Rows.envOfC fn_46.qual fn_46.scope s.heap.objs.size (He.fAd K ("_law_story", none)) cdv)).units + 1 < cLine := by have := hr.units; omega
  unfold M__law_story S__law_story_5 S__law_story_4 B__law_story_3 S__law_story_2 S__law_story_1 S__law_story_0
  exact (s_cons (s_asg (e_pth (pt_ix rfl (pt_var (pv 1)) (sm_con pe_int (fun _ _ => rep_int _)) (fun _ _ => rfl))) (g_name (pg_name (i := 5) nd rfl (by first | exact Or.inl rfl | exact Or.inr rfl)) rfl) rfl rfl rfl)
    (s_cons (s_par rfl nd rfl rfl (by decide) rfl rfl rfl rfl (e_call (fo__law_start.mono (by omega)) kok_fn hr rfl T.gl__law_start kp__law_start b__law_start .nil pass0 (fun _ _ => reps_nil') rfl (by decide) (a_cons (pv 0) (a_cons (e_var 5 (pv 5)) a_nil)) (od_v (od_e od_n))) (e_ct (b_tup rfl) rfl T.bl_tuple rfl (a_cons (e_comp (own := [("_law_k", 10)]) rfl nd (i_range1 rfl T.bl_range (pv 3) (od_v od_n) rfl) (blkOk_by (N := N__law_story) (by kernel_rfl)) (fun _ _ _ _ _ => g_name (pg_name (i := 10) nd rfl (by first | exact Or.inl rfl | exact Or.inr rfl)) rfl) (fun _ _ _ _ _ => ts_nil) (fun _ _ _ _ _ => e_call (fo__law_pace.mono (by omega)) kok_fn hr rfl T.gl__law_pace kp__law_pace b__law_pace .nil pass0 (fun _ _ => reps_nil') rfl (by decide) (a_cons (pv 0) (a_cons (e_var 5 (pv 5)) a_nil)) (od_v (od_e od_n))) (fun _ => rfl)) a_nil) (od_e od_n)) rfl rfl rfl rfl)
    (s_cons (s_asg (e_lst (by decide) (by exact (a_cons (e_call (fo__law_from.mono (by omega)) kok_fn hr rfl T.gl__law_from kp__law_from b__law_from .nil pass0 (fun _ _ => reps_nil') rfl (by decide) (a_cons (pv 0) (a_cons (e_var 6 (pv 6)) a_nil)) (od_v (od_e od_n))) a_nil))) (g_name (pg_name (i := 8) nd rfl (by first | exact Or.inl rfl | exact Or.inr rfl)) rfl) rfl rfl rfl)
    (s_cons (s_for PassesOwn.never rfl (i_seq rfl (e_var 7 (pv 7))) (g_name (pg_name (i := 9) nd rfl (by first | exact Or.inl rfl | exact Or.inr rfl)) rfl) (s_cons (s_expr (e_metV lm_app PySem.F.slot_list_append PySem.F.type_list_append mt_append (pv 8) (by exact (a_cons (e_call (fo__law_from.mono (by omega)) kok_fn hr rfl T.gl__law_from kp__law_from b__law_from .nil pass0 (fun _ _ => reps_nil') rfl (by decide) (a_cons (pv 0) (a_cons (e_call (fo__law_reached.mono (by omega)) kok_fn hr rfl T.gl__law_reached kp__law_reached b__law_reached .nil pass0 (fun _ _ => reps_nil') rfl (by decide) (a_cons (e_var 2 (pv 2)) (a_cons (e_var 9 (pv 9)) (a_cons (e_tup (by decide) (by exact (a_cons (e_pth (pt_ix rfl (pt_var (pv 8)) (sm_neg (sm_con pe_int (fun _ _ => rep_int _))) (fun _ _ => rfl))) a_nil))) a_nil))) (od_e (od_e (od_e od_n)))) a_nil)) (od_v (od_e od_n))) a_nil))) rfl)
    (s_nil)) (fun _ => rfl))
    (s_cons (s_ret (e_fz (e_tup (by decide) (by exact (a_cons (e_var 6 (pv 6)) (a_cons (e_var 7 (pv 7)) (a_cons (e_call (fo__law_seen.mono (by omega)) kok_fn hr rfl T.gl__law_seen kp__law_seen b__law_seen .nil pass0 (fun _ _ => reps_nil') rfl (by decide) (a_cons (pv 0) (a_cons (e_var 1 (pv 1)) (a_cons (e_var 2 (pv 2)) (a_cons (e_var 8 (pv 8)) (a_cons (e_var 4 (pv 4)) a_nil))))) (od_v (od_e (od_e (od_e (od_e od_n)))))) a_nil)))))))
    (s_nil))))))
theorem sc__law_big_story : FnScope N__law_big_story ["_law_box_here", "_law_most"] (defScope (top 56)) := ⟨rfl, rfl, rfl, by decide +kernel, rfl, by decide +kernel, by decide +kernel⟩
theorem ok__law_big_story (T : Tops K mg) (c__law_ground : Ok__law_ground P w K mg base) (c__law_story : Ok__law_story P w K mg base) (c__law_from : Ok__law_from P w K mg base) (c__law_pick : Ok__law_pick P w K mg base) : Ok__law_big_story P w K mg base := by
  obtain ⟨⟨fd__law_ground, fo__law_ground, b__law_ground⟩, kp__law_ground⟩ := c__law_ground
  obtain ⟨⟨fd__law_story, fo__law_story, b__law_story⟩, kp__law_story⟩ := c__law_story
  obtain ⟨⟨fd__law_from, fo__law_from, b__law_from⟩, kp__law_from⟩ := c__law_from
  obtain ⟨⟨fd__law_pick, fo__law_pick, b__law_pick⟩, kp__law_pick⟩ := c__law_pick
  obtain ⟨fd, FD⟩ := T.s.def_ 51 (d := fn_51) rfl
  refine ⟨⟨fd, fn_rm (W := fun i => decide (1 ≤ i)) (m := (M__law_big_story)) (N := N__law_big_story) (j := 6) FD sc__law_big_story rfl (by decide) (fun i hi => decide_eq_false (by omega)) (fun cdv A outer s H E hr => PSs.nox ?_), FD.bindsN fun _ _ _ _ _ _ us hl => match us, hl with | [_, _], _ => rfl⟩, FD.kp⟩
  have nd : N__law_big_story.Nodup := sc__law_big_story.nd
  have hu := hr.units
  have hu1 : (A.deeper (PyProof.Rows.envOfC fn_51.qual fn_51.scope s.heap.objs.size (He.fAd K ("_law_big_story", none)) cdv)).units + 1 < cLine := by have := hr.units; omega
  unfold M__law_big_story S__law_big_story_1 S__law_big_story_0
  exact (s_cons (s_asg (e_call (fo__law_ground.mono (by omega)) kok_fn hr rfl T.gl__law_ground kp__law_ground b__law_ground .nil pass0 (fun _ _ => reps_nil') rfl (by decide) (a_cons (pv 0) (a_cons (e_con (.int 8) pe_int (fun _ _ => rep_int _)) a_nil)) (od_v (od_e od_n))) (g_tup rfl rfl (g_cons (g_name (pg_name (i := 2) nd rfl (by first | exact Or.inl rfl | exact Or.inr rfl)) rfl) (g_cons (g_name (pg_name (i := 3) nd rfl (by first | exact Or.inl rfl | exact Or.inr rfl)) rfl) (g_cons (g_name (pg_name (i := 4) nd rfl (by first | exact Or.inl rfl | exact Or.inr rfl)) rfl) (g_nil) rfl) rfl) rfl) rfl rfl) rfl rfl rfl)
    (s_cons (s_ret (e_fz (e_tup (by decide) (by exact (a_cons (e_var 3 (pv 3)) (a_cons (e_var 4 (pv 4)) (a_cons (e_call (fo__law_story.mono (by omega)) kok_fn hr rfl T.gl__law_story kp__law_story b__law_story .nil pass0 (fun _ _ => reps_nil') rfl (by decide) (a_cons (pv 0) (a_cons (e_var 2 (pv 2)) (a_cons (e_var 3 (pv 3)) (a_cons (e_call (fo__law_from.mono (by omega)) kok_fn hr rfl T.gl__law_from kp__law_from b__law_from .nil pass0 (fun _ _ => reps_nil') rfl (by decide) (a_cons (pv 0) (a_cons (e_lst (by decide) (by exact (a_cons (e_con (.int 0) pe_int (fun _ _ => rep_int _)) (a_cons (e_con (.int 1) pe_int (fun _ _ => rep_int _)) (a_cons (e_con (.int 12) pe_int (fun _ _ => rep_int _)) (a_cons (e_add rfl (e_con (.int 2) pe_int (fun _ _ => rep_int _)) (e_call (fo__law_pick.mono (by omega)) kok_fn hr rfl T.gl__law_pick kp__law_pick b__law_pick .nil pass0 (fun _ _ => reps_nil') rfl (by decide) (a_cons (pv 0) (a_cons (e_con (.int 11) pe_int (fun _ _ => rep_int _)) a_nil)) (od_v (od_e od_n))) (od_e (od_e od_n))) a_nil)))))) a_nil)) (od_v (od_e od_n))) (a_cons (e_var 1 (pv 1)) a_nil))))) (od_v (od_e (od_e (od_e (od_e od_n)))))) a_nil)))))))
    (s_nil)))
theorem sc__law_open : FnScope N__law_open ["_law_spans_here", "_law_story_here"] (defScope (top 53)) := ⟨rfl, rfl, rfl, by decide +kernel, rfl, by decide +kernel, by decide +kernel⟩
theorem ok__law_open (T : Tops K mg) (c__law_answer : Ok__law_answer P w K mg base) : Ok__law_open P w K mg base := by
  obtain ⟨⟨fd__law_answer, fo__law_answer, b__law_answer⟩, kp__law_answer⟩ := c__law_answer
  obtain ⟨fd, FD⟩ := T.s.def_ 48 (d := fn_48) rfl
  refine ⟨⟨fd, fn_rm (W := fun i => decide (0 ≤ i)) (m := (M__law_open)) (N := N__law_open) (j := 1) FD sc__law_open rfl (by decide) (fun i hi => decide_eq_false (by omega)) (fun cdv A outer s H E hr => PSs.nox ?_), FD.bindsN fun _ _ _ _ _ _ us hl => match us, hl with | [_, _], _ => rfl⟩, FD.kp⟩
  have nd : N__law_open.Nodup := sc__law_open.nd
  have hu := hr.units
  have hu1 : (A.deeper (PyProof.Rows.envOfC fn_48.qual fn_48.scope s.heap.objs.size (He.fAd K ("_law_open", none)) cdv)).units + 1 < cLine := by have := hr.units; omega
  unfold M__law_open S__law_open_4 S__law_open_3 B__law_open_2 B__law_open_1 S__law_open_0
  exact (s_cons (s_asg (e_lst (by decide) (by exact a_nil)) (g_name (pg_name (i := 2) nd rfl (by first | exact Or.inl rfl | exact Or.inr rfl)) rfl) rfl rfl rfl)
    (s_cons (s_for PassesOwn.never rfl (i_range1 rfl T.bl_range (e_add rfl (e_cb (b_len rfl) rfl T.bl_len rfl (a_cons (e_pth (pt_ix rfl (pt_var (pv 1)) (sm_con pe_int (fun _ _ => rep_int _)) (fun _ _ => rfl))) a_nil) (od_e od_n)) (e_con (.int 1) pe_int (fun _ _ => rep_int _)) (od_e (od_e od_n))) (od_e od_n) rfl) (g_name (pg_name (i := 3) nd rfl (by first | exact Or.inl rfl | exact Or.inr rfl)) rfl) (s_cons (s_setComp (i := 4) (own := [("_law_when", 9), ("_law_look_here", 8), ("_law_answer_here", 7)]) rfl nd rfl rfl rfl (sw_true rfl rfl rfl (by decide +kernel)) (i_seq rfl (e_pth (pt_ix rfl (pt_var (pv 1)) (sm_con pe_int (fun _ _ => rep_int _)) (fun _ _ => rfl)))) (blkOk_by (N := N__law_open) (by kernel_rfl)) (fun _ _ _ _ _ => g_tup rfl rfl (g_cons (g_name (pg_name (i := 9) nd rfl (by first | exact Or.inl rfl | exact Or.inr rfl)) rfl) (g_cons (g_name (pg_name (i := 8) nd rfl (by first | exact Or.inl rfl | exact Or.inr rfl)) rfl) (g_cons (g_name (pg_name (i := 7) nd rfl (by first | exact Or.inl rfl | exact Or.inr rfl)) rfl) (g_nil) rfl) rfl) rfl) rfl rfl) (fun _ _ _ _ _ => ts_one (t_cmpC (c_eq rfl hu) (pv 9) (pv 3) rfl (od_v (od_v od_n)))) (fun _ _ _ _ _ => e_tup (by decide) (by exact (a_cons (e_var 8 (pv 8)) (a_cons (e_var 7 (pv 7)) a_nil)))) (fun _ => rfl))
    (s_cons (s_asg (e_lst (by decide) (by exact a_nil)) (g_name (pg_name (i := 5) nd rfl (by first | exact Or.inl rfl | exact Or.inr rfl)) rfl) rfl rfl rfl)
    (s_cons (s_for PassesOwn.never rfl (i_range1 rfl T.bl_range (e_cb (b_len rfl) rfl T.bl_len rfl (a_cons (pv 0) a_nil) (od_v od_n)) (od_e od_n) rfl) (g_name (pg_name (i := 6) nd rfl (by first | exact Or.inl rfl | exact Or.inr rfl)) rfl) (s_cons (s_if (t_val (e_cb (b_all rfl rfl) rfl T.bl_all rfl (a_cons (e_comp (own := [("_law_look_here", 8), ("_law_answer_here", 7)]) rfl nd (i_seq rfl (e_var 4 (pv 4))) (blkOk_by (N := N__law_open) (by kernel_rfl)) (fun _ _ _ _ _ => g_tup rfl rfl (g_cons (g_name (pg_name (i := 8) nd rfl (by first | exact Or.inl rfl | exact Or.inr rfl)) rfl) (g_cons (g_name (pg_name (i := 7) nd rfl (by first | exact Or.inl rfl | exact Or.inr rfl)) rfl) (g_nil) rfl) rfl) rfl rfl) (fun _ _ _ _ _ => ts_nil) (fun _ _ _ _ _ => e_cmpC (c_eq rfl hu) (e_call (fo__law_answer.mono (by omega)) kok_fn hr rfl T.gl__law_answer kp__law_answer b__law_answer .nil pass0 (fun _ _ => reps_nil') rfl (by decide) (a_cons (e_var 0 (pv 0)) (a_cons (e_var 8 (pv 8)) (a_cons (e_var 6 (pv 6)) a_nil))) (od_e (od_e (od_e od_n)))) (pv 7) rfl (od_e (od_v od_n))) (fun _ => rfl)) a_nil) (od_e od_n)) (fun _ => rfl)) (s_cons (s_expr (e_metV lm_app PySem.F.slot_list_append PySem.F.type_list_append mt_append (pv 5) (by exact (a_cons (e_var 6 (pv 6)) a_nil))) rfl)
    (s_nil)) (s_nil))
    (s_nil)) (fun _ => rfl))
    (s_cons (s_expr (e_metV lm_app PySem.F.slot_list_append PySem.F.type_list_append mt_append (pv 2) (by exact (a_cons (e_ct (b_tup rfl) rfl T.bl_tuple rfl (a_cons (pv 5) a_nil) (od_v od_n)) a_nil))) rfl)
    (s_nil))))) (fun _ => rfl))
    (s_cons (s_ret (e_var 2 (pv 2)))
    (s_nil))))
theorem sc__law_both : FnScope N__law_both ["_law_one", "_law_other"] (defScope (top 54)) := ⟨rfl, rfl, rfl, by decide +kernel, rfl, by decide +kernel, by decide +kernel⟩
theorem ok__law_both (T : Tops K mg) : Ok__law_both P w K mg base := by
  obtain ⟨fd, FD⟩ := T.s.def_ 49 (d := fn_49) rfl
  refine ⟨⟨fd, fn_rm (W := fun i => decide (0 ≤ i)) (m := (M__law_both)) (N := N__law_both) (j := 0) FD sc__law_both rfl (by decide) (fun i hi => decide_eq_false (by omega)) (fun cdv A outer s H E hr => PSs.nox ?_), FD.bindsN fun _ _ _ _ _ _ us hl => match us, hl with | [_, _], _ => rfl⟩, FD.kp⟩
  have nd : N__law_both.Nodup := sc__law_both.nd
  have hu := hr.units
  have hu1 : (A.deeper (PyProof.Rows.envOfC fn_49.qual fn_49.scope s.heap.objs.size (He.fAd K ("_law_both", none)) cdv)).units + 1 < cLine := by have := hr.units; omega
  unfold M__law_both
  exact (s_cons (s_ret (e_fz (e_ct (b_tup rfl) rfl T.bl_tuple rfl (a_cons (e_comp (own := [("_law_place", 2)]) rfl nd (i_seq rfl (e_var 0 (pv 0))) (blkOk_by (N := N__law_both) (by kernel_rfl)) (fun _ _ _ _ _ => g_name (pg_name (i := 2) nd rfl (by first | exact Or.inl rfl | exact Or.inr rfl)) rfl) (fun _ _ _ _ _ => ts_one (t_cmpC (c_in rfl) (pv 2) (pv 1) rfl (od_v (od_v od_n)))) (fun _ _ _ _ _ => e_var 2 (pv 2)) (fun _ => rfl)) a_nil) (od_e od_n))))
    (s_nil))
theorem sc__law_forth : FnScope N__law_forth ["_law_spans_here", "_law_story_here"] (defScope (top 55)) := ⟨rfl, rfl, rfl, by decide +kernel, rfl, by decide +kernel, by decide +kernel⟩
theorem ok__law_forth (T : Tops K mg) (c__law_open : Ok__law_open P w K mg base) (c__law_both : Ok__law_both P w K mg base) (c__law_reached : Ok__law_reached P w K mg base) : Ok__law_forth P w K mg base := by
  obtain ⟨⟨fd__law_open, fo__law_open, b__law_open⟩, kp__law_open⟩ := c__law_open
  obtain ⟨⟨fd__law_both, fo__law_both, b__law_both⟩, kp__law_both⟩ := c__law_both
  obtain ⟨⟨fd__law_reached, fo__law_reached, b__law_reached⟩, kp__law_reached⟩ := c__law_reached
  obtain ⟨fd, FD⟩ := T.s.def_ 50 (d := fn_50) rfl
  refine ⟨⟨fd, fn_rm (W := fun i => decide (0 ≤ i)) (m := (M__law_forth)) (N := N__law_forth) (j := 2) FD sc__law_forth rfl (by decide) (fun i hi => decide_eq_false (by omega)) (fun cdv A outer s H E hr => PSs.nox ?_), FD.bindsN fun _ _ _ _ _ _ us hl => match us, hl with | [_, _], _ => rfl⟩, FD.kp⟩
  have nd : N__law_forth.Nodup := sc__law_forth.nd
  have hu := hr.units
  have hu1 : (A.deeper (PyProof.Rows.envOfC fn_50.qual fn_50.scope s.heap.objs.size (He.fAd K ("_law_forth", none)) cdv)).units + 1 < cLine := by have := hr.units; omega
  unfold M__law_forth S__law_forth_4 S__law_forth_3 B__law_forth_2 S__law_forth_1 S__law_forth_0
  exact (s_cons (s_asg (e_call (fo__law_open.mono (by omega)) kok_fn hr rfl T.gl__law_open kp__law_open b__law_open .nil pass0 (fun _ _ => reps_nil') rfl (by decide) (a_cons (e_var 0 (pv 0)) (a_cons (e_var 1 (pv 1)) a_nil)) (od_e (od_e od_n))) (g_name (pg_name (i := 2) nd rfl (by first | exact Or.inl rfl | exact Or.inr rfl)) rfl) rfl rfl rfl)
    (s_cons (s_asg (e_lst (by decide) (by exact (a_cons (e_call (fo__law_both.mono (by omega)) kok_fn hr rfl T.gl__law_both kp__law_both b__law_both .nil pass0 (fun _ _ => reps_nil') rfl (by decide) (a_cons (e_pth (pt_ix rfl (pt_var (pv 1)) (sm_con pe_int (fun _ _ => rep_int _)) (fun _ _ => rfl))) (a_cons (e_pth (pt_ix rfl (pt_var (pv 2)) (sm_con pe_int (fun _ _ => rep_int _)) (fun _ _ => rfl))) a_nil)) (od_e (od_e od_n))) a_nil))) (g_name (pg_name (i := 3) nd rfl (by first | exact Or.inl rfl | exact Or.inr rfl)) rfl) rfl rfl rfl)
    (s_cons (s_for PassesOwn.never rfl (i_range1 rfl T.bl_range (e_cb (b_len rfl) rfl T.bl_len rfl (a_cons (e_pth (pt_ix rfl (pt_var (pv 1)) (sm_con pe_int (fun _ _ => rep_int _)) (fun _ _ => rfl))) a_nil) (od_e od_n)) (od_e od_n) rfl) (g_name (pg_name (i := 4) nd rfl (by first | exact Or.inl rfl | exact Or.inr rfl)) rfl) (s_cons (s_expr (e_metV lm_app PySem.F.slot_list_append PySem.F.type_list_append mt_append (pv 3) (by exact (a_cons (e_call (fo__law_both.mono (by omega)) kok_fn hr rfl T.gl__law_both kp__law_both b__law_both .nil pass0 (fun _ _ => reps_nil') rfl (by decide) (a_cons (e_call (fo__law_reached.mono (by omega)) kok_fn hr rfl T.gl__law_reached kp__law_reached b__law_reached .nil pass0 (fun _ _ => reps_nil') rfl (by decide) (a_cons (e_var 0 (pv 0)) (a_cons (e_pth (pt_ix rfl (pt_ix rfl (pt_var (pv 1)) (sm_con pe_int (fun _ _ => rep_int _)) (fun _ _ => rfl)) (sm_var (pv 4)) (fun _ _ => rfl))) (a_cons (e_pth (pt_ix rfl (pt_var (pv 3)) (sm_neg (sm_con pe_int (fun _ _ => rep_int _))) (fun _ _ => rfl))) a_nil))) (od_e (od_e (od_e od_n)))) (a_cons (e_pth (pt_ix rfl (pt_var (pv 2)) (sm_add (sm_var (pv 4)) (sm_con pe_int (fun _ _ => rep_int _))) (fun _ _ => rfl))) a_nil)) (od_e (od_e od_n))) a_nil))) rfl)
    (s_nil)) (fun _ => rfl))
    (s_cons (s_ret (e_var 3 (pv 3)))
    (s_nil)))))
theorem sc_Board___len__ : FnScope N_Board___len__ ["self"] (defScope (inClass (top 13) 2)) := ⟨rfl, rfl, rfl, by decide +kernel, rfl, by decide +kernel, by decide +kernel⟩
theorem ok_Board___len__ (T : Tops K mg) : Ok_Board___len__ P w K mg base := by
  obtain ⟨fd, FD⟩ := T.s.def_ 6 (d := fn_6) rfl
  refine ⟨⟨fd, fn_rm (W := fun i => decide (1 ≤ i)) (m := (M_Board___len__)) (N := N_Board___len__) (j := 0) FD sc_Board___len__ rfl (by decide) (fun i hi => decide_eq_false (by omega)) (fun cdv A outer s H E hr => PSs.nox ?_), FD.bindsN fun _ _ _ _ _ _ us hl => match us, hl with | [_], _ => rfl⟩, FD.kp⟩
  have nd : N_Board___len__.Nodup := sc_Board___len__.nd
  have hu := hr.units
  have hu1 : (A.deeper (PyProof.Rows.envOfC fn_6.qual fn_6.scope s.heap.objs.size (He.fAd K ("Board", some "__len__")) cdv)).units + 1 < cLine := by have := hr.units; omega
  unfold M_Board___len__
  exact (s_cons (s_ret (e_cb (b_len rfl) rfl T.bl_len rfl (a_cons (e_pth (pt_fld (c0 := 0) (n := 18) rfl (pt_var (pv 0)) rfl rfl T.cls_Board T.na_Board_spans)) a_nil) (od_e od_n)))
    (s_nil))
theorem sc_is_lot : FnScope N_is_lot ["board", "lot"] (defScope (top 17)) := ⟨rfl, rfl, rfl, by decide +kernel, rfl, by decide +kernel, by decide +kernel⟩
theorem ok_is_lot (T : Tops K mg) (c_is_number : Ok_is_number P w K mg base) (c_Board___len__ : Ok_Board___len__ P w K mg base) : Ok_is_lot P w K mg base := by
  obtain ⟨⟨fd_is_number, fo_is_number, b_is_number⟩, kp_is_number⟩ := c_is_number
  obtain ⟨⟨fd_Board___len__, fo_Board___len__, b_Board___len__⟩, kp_Board___len__⟩ := c_Board___len__
  obtain ⟨fd, FD⟩ := T.s.def_ 16 (d := fn_16) rfl
  refine ⟨⟨fd, fn_rm (W := fun i => decide (0 ≤ i)) (m := (M_is_lot)) (N := N_is_lot) (j := 2) FD sc_is_lot rfl (by decide) (fun i hi => decide_eq_false (by omega)) (fun cdv A outer s H E hr => PSs.nox ?_), FD.bindsN fun _ _ _ _ _ _ us hl => match us, hl with | [_, _], _ => rfl⟩, FD.kp⟩
  have nd : N_is_lot.Nodup := sc_is_lot.nd
  have hu := hr.units
  have hu1 : (A.deeper (PyProof.Rows.envOfC fn_16.qual fn_16.scope s.heap.objs.size (He.fAd K ("is_lot", none)) cdv)).units + 1 < cLine := by have := hr.units; omega
  unfold M_is_lot S_is_lot_1 S_is_lot_0
  exact (s_cons (s_if (PW.pt (w_or (t_not (t_val (e_isi rfl isi_tuple rfl T.bl_isinstance rfl rfl T.bl_tuple rfl (pv 1) (od_v od_n)) (fun _ => rfl))) (pw_or1 (t_not (t_val (e_cb (b_all rfl rfl) rfl T.bl_all rfl (a_cons (e_comp (own := [("place", 2)]) rfl nd (i_seq rfl (e_var 1 (pv 1))) (blkOk_by (N := N_is_lot) (by kernel_rfl)) (fun _ _ _ _ _ => g_name (pg_name (i := 2) nd rfl (by first | exact Or.inl rfl | exact Or.inr rfl)) rfl) (fun _ _ _ _ _ => ts_nil) (fun _ _ _ _ _ => e_call (fo_is_number.mono (by omega)) kok_fn hr rfl T.gl_is_number kp_is_number b_is_number .nil pass0 (fun _ _ => reps_nil') rfl (by decide) (a_cons (e_var 2 (pv 2)) (a_cons (e_con (.int 0) pe_int (fun _ _ => rep_int _)) (a_cons (e_sub (e_lenO (c0 := 0) (mn := 2) (fo_Board___len__.mono (by omega)) kok_fn (by decide) hr b_Board___len__ pass0 T.me_Board___len__ rfl T.bl_len PySem.boot_len (pv 0) (od_v od_n)) (e_con (.int 1) pe_int (fun _ _ => rep_int _)) (od_e (od_e od_n))) a_nil))) (od_e (od_e (od_e od_n)))) (fun _ => rfl)) a_nil) (od_e od_n)) (fun _ => rfl)))))) (s_cons (s_ret (e_con (.bl false) pe_bl (fun _ _ => rep_bl _)))
    (s_nil)) (s_nil))
    (s_cons (s_ret (e_cb (b_all rfl rfl) rfl T.bl_all rfl (a_cons (e_comp (own := [("one", 3), ("other", 4)]) rfl nd (i_zip2 rfl rfl T.bl_zip (e_var 1 (pv 1)) (e_cutL rfl (pv 1) (e_con (.int 1) pe_int (fun _ _ => rep_int _)) (od_v (od_e od_n))) rfl rfl) (blkOk_by (N := N_is_lot) (by kernel_rfl)) (fun _ _ _ _ _ => g_tup rfl rfl (g_cons (g_name (pg_name (i := 3) nd rfl (by first | exact Or.inl rfl | exact Or.inr rfl)) rfl) (g_cons (g_name (pg_name (i := 4) nd rfl (by first | exact Or.inl rfl | exact Or.inr rfl)) rfl) (g_nil) rfl) rfl) rfl rfl) (fun _ _ _ _ _ => ts_nil) (fun _ _ _ _ _ => e_cmpC (c_lt) (pv 3) (pv 4) rfl (od_v (od_v od_n))) (fun _ => rfl)) a_nil) (od_e od_n)))
    (s_nil)))
theorem sc_is_pace : FnScope N_is_pace ["board", "pace"] (defScope (top 18)) := ⟨rfl, rfl, rfl, by decide +kernel, rfl, by decide +kernel, by decide +kernel⟩
theorem ok_is_pace (T : Tops K mg) (c_Board___len__ : Ok_Board___len__ P w K mg base) (c_is_number : Ok_is_number P w K mg base) : Ok_is_pace P w K mg base := by
  obtain ⟨⟨fd_Board___len__, fo_Board___len__, b_Board___len__⟩, kp_Board___len__⟩ := c_Board___len__
  obtain ⟨⟨fd_is_number, fo_is_number, b_is_number⟩, kp_is_number⟩ := c_is_number
  obtain ⟨t_MOST_PACE, hc_MOST_PACE⟩ := T.c_MOST_PACE
  obtain ⟨fd, FD⟩ := T.s.def_ 17 (d := fn_17) rfl
  refine ⟨⟨fd, fn_rm (W := fun i => decide (0 ≤ i)) (m := (M_is_pace)) (N := N_is_pace) (j := 2) FD sc_is_pace rfl (by decide) (fun i hi => decide_eq_false (by omega)) (fun cdv A outer s H E hr => PSs.nox ?_), FD.bindsN fun _ _ _ _ _ _ us hl => match us, hl with | [_, _], _ => rfl⟩, FD.kp⟩
  have nd : N_is_pace.Nodup := sc_is_pace.nd
  have hu := hr.units
  have hu1 : (A.deeper (PyProof.Rows.envOfC fn_17.qual fn_17.scope s.heap.objs.size (He.fAd K ("is_pace", none)) cdv)).units + 1 < cLine := by have := hr.units; omega
  unfold M_is_pace S_is_pace_1 S_is_pace_0
  exact (s_cons (s_if (PW.pt (w_or (t_not (t_val (e_isi rfl isi_tuple rfl T.bl_isinstance rfl rfl T.bl_tuple rfl (pv 1) (od_v od_n)) (fun _ => rfl))) (pw_or1 (t_cmpC (c_ne rfl hu) (e_cb (b_len rfl) rfl T.bl_len rfl (a_cons (pv 1) a_nil) (od_v od_n)) (e_lenO (c0 := 0) (mn := 2) (fo_Board___len__.mono (by omega)) kok_fn (by decide) hr b_Board___len__ pass0 T.me_Board___len__ rfl T.bl_len PySem.boot_len (pv 0) (od_v od_n)) rfl (od_e (od_e od_n)))))) (s_cons (s_ret (e_con (.bl false) pe_bl (fun _ _ => rep_bl _)))
    (s_nil)) (s_nil))
    (s_cons (s_ret (e_cb (b_all rfl rfl) rfl T.bl_all rfl (a_cons (e_comp (own := [("most", 2)]) rfl nd (i_seq rfl (e_var 1 (pv 1))) (blkOk_by (N := N_is_pace) (by kernel_rfl)) (fun _ _ _ _ _ => g_name (pg_name (i := 2) nd rfl (by first | exact Or.inl rfl | exact Or.inr rfl)) rfl) (fun _ _ _ _ _ => ts_nil) (fun _ _ _ _ _ => e_call (fo_is_number.mono (by omega)) kok_fn hr rfl T.gl_is_number kp_is_number b_is_number .nil pass0 (fun _ _ => reps_nil') rfl (by decide) (a_cons (e_var 2 (pv 2)) (a_cons (e_con (.int 0) pe_int (fun _ _ => rep_int _)) (a_cons (e_con (.int 7) (pe_glob rfl hc_MOST_PACE rel_int) (fun _ _ => rep_int _)) a_nil))) (od_e (od_e (od_e od_n)))) (fun _ => rfl)) a_nil) (od_e od_n)))
    (s_nil)))
theorem sc_are_parts : FnScope N_are_parts ["board", "lots"] (defScope (top 21)) := ⟨rfl, rfl, rfl, by decide +kernel, rfl, by decide +kernel, by decide +kernel⟩
theorem ok_are_parts (T : Tops K mg) (c_is_lot : Ok_is_lot P w K mg base) (c_Board___len__ : Ok_Board___len__ P w K mg base) : Ok_are_parts P w K mg base := by
  obtain ⟨⟨fd_is_lot, fo_is_lot, b_is_lot⟩, kp_is_lot⟩ := c_is_lot
  obtain ⟨⟨fd_Board___len__, fo_Board___len__, b_Board___len__⟩, kp_Board___len__⟩ := c_Board___len__
  obtain ⟨fd, FD⟩ := T.s.def_ 19 (d := fn_19) rfl
  refine ⟨⟨fd, fn_rm (W := fun i => decide (0 ≤ i)) (m := (M_are_parts)) (N := N_are_parts) (j := 3) FD sc_are_parts rfl (by decide) (fun i hi => decide_eq_false (by omega)) (fun cdv A outer s H E hr => PSs.nox ?_), FD.bindsN fun _ _ _ _ _ _ us hl => match us, hl with | [_, _], _ => rfl⟩, FD.kp⟩
  have nd : N_are_parts.Nodup := sc_are_parts.nd
  have hu := hr.units
  have hu1 : (A.deeper (PyProof.Rows.envOfC fn_19.qual fn_19.scope s.heap.objs.size (He.fAd K ("are_parts", none)) cdv)).units + 1 < cLine := by have := hr.units; omega
  unfold M_are_parts S_are_parts_1 S_are_parts_0
  exact (s_cons (s_if (t_not (t_val (e_cb (b_all rfl rfl) rfl T.bl_all rfl (a_cons (e_comp (own := [("lot", 2)]) rfl nd (i_seq rfl (e_var 1 (pv 1))) (blkOk_by (N := N_are_parts) (by kernel_rfl)) (fun _ _ _ _ _ => g_name (pg_name (i := 2) nd rfl (by first | exact Or.inl rfl | exact Or.inr rfl)) rfl) (fun _ _ _ _ _ => ts_nil) (fun _ _ _ _ _ => e_and (e_call (fo_is_lot.mono (by omega)) kok_fn hr rfl T.gl_is_lot kp_is_lot b_is_lot .nil pass0 (fun _ _ => reps_nil') rfl (by decide) (a_cons (e_var 0 (pv 0)) (a_cons (e_var 2 (pv 2)) a_nil)) (od_e (od_e od_n))) (pe_one (e_cmpC (c_ne rfl hu) (pv 2) (e_tup (by decide) (by exact a_nil)) rfl (od_v (od_e od_n))))) (fun _ => rfl)) a_nil) (od_e od_n)) (fun _ => rfl))) (s_cons (s_ret (e_con (.bl false) pe_bl (fun _ _ => rep_bl _)))
    (s_nil)) (s_nil))
    (s_cons (s_ret (e_cmpC (c_eq rfl hu) (e_cb ((b_sortI rfl).or (b_sortD rfl hu)) rfl T.bl_sorted rfl (a_cons (e_comp2 (own := [("lot", 2), ("place", 3)]) (vs1 := [3]) rfl nd (i_seq rfl (e_var 1 (pv 1))) (blkOk_by (N := N_are_parts) (by kernel_rfl)) (by decide) (fun _ _ _ _ _ => g_name (pg_name (i := 2) nd rfl (by first | exact Or.inl rfl | exact Or.inr rfl)) rfl) (fun _ _ _ _ _ => ts_nil) (fun _ _ _ _ _ => i_seq rfl (e_var 2 (pv 2))) (fun _ _ _ _ _ => g_name (pg_name (i := 3) nd rfl (by first | exact Or.inl rfl | exact Or.inr rfl)) rfl) (fun _ _ _ _ _ => ts_nil) (fun _ _ _ _ _ => e_var 3 (pv 3)) (fun _ => rfl) (fun _ _ => rfl)) a_nil) (od_e od_n)) (e_rgL rfl rfl T.bl_list rfl T.bl_range (e_lenO (c0 := 0) (mn := 2) (fo_Board___len__.mono (by omega)) kok_fn (by decide) hr b_Board___len__ pass0 T.me_Board___len__ rfl T.bl_len PySem.boot_len (pv 0) (od_v od_n)) (od_e od_n)) rfl (od_e (od_e od_n))))
    (s_nil)))
theorem sc_is_look : FnScope N_is_look ["board", "look"] (defScope (top 22)) := ⟨rfl, rfl, rfl, by decide +kernel, rfl, by decide +kernel, by decide +kernel⟩
theorem ok_is_look (T : Tops K mg) (c_is_lot : Ok_is_lot P w K mg base) (c_are_parts : Ok_are_parts P w K mg base) (c_is_number : Ok_is_number P w K mg base) (c_Board___len__ : Ok_Board___len__ P w K mg base) : Ok_is_look P w K mg base := by
  obtain ⟨⟨fd_is_lot, fo_is_lot, b_is_lot⟩, kp_is_lot⟩ := c_is_lot
  obtain ⟨⟨fd_are_parts, fo_are_parts, b_are_parts⟩, kp_are_parts⟩ := c_are_parts
  obtain ⟨⟨fd_is_number, fo_is_number, b_is_number⟩, kp_is_number⟩ := c_is_number
  obtain ⟨⟨fd_Board___len__, fo_Board___len__, b_Board___len__⟩, kp_Board___len__⟩ := c_Board___len__
  obtain ⟨t_MOST_PACE, hc_MOST_PACE⟩ := T.c_MOST_PACE
  obtain ⟨fd, FD⟩ := T.s.def_ 20 (d := fn_20) rfl
  refine ⟨⟨fd, fn_rm (W := fun i => decide (0 ≤ i)) (m := (M_is_look)) (N := N_is_look) (j := 4) FD sc_is_look rfl (by decide) (fun i hi => decide_eq_false (by omega)) (fun cdv A outer s H E hr => PSs.nox ?_), FD.bindsN fun _ _ _ _ _ _ us hl => match us, hl with | [_, _], _ => rfl⟩, FD.kp⟩
  have nd : N_is_look.Nodup := sc_is_look.nd
  have hu := hr.units
  have hu1 : (A.deeper (PyProof.Rows.envOfC fn_20.qual fn_20.scope s.heap.objs.size (He.fAd K ("is_look", none)) cdv)).units + 1 < cLine := by have := hr.units; omega
  unfold M_is_look S_is_look_4 S_is_look_3 S_is_look_2 S_is_look_1 S_is_look_0
  exact (s_cons (s_asg (e_var 1 (pv 1)) (g_star rfl rfl (g_cons (g_name (pg_name (i := 2) nd rfl (by first | exact Or.inl rfl | exact Or.inr rfl)) rfl) (g_consS (g_name (pg_name (i := 3) nd rfl (by first | exact Or.inl rfl | exact Or.inr rfl)) rfl) (g_nil) rfl) rfl) (by decide) rfl rfl) rfl rfl rfl)
    (s_cons (s_if (t_cmpC (c_eq rfl hu) (pv 2) (e_con (.str ("in" : PySem.Str)) pe_str (fun _ _ => rep_str _)) rfl (od_v (od_e od_n))) (s_cons (s_ret (e_and (e_cmpC (c_eq rfl hu) (e_cb (b_len rfl) rfl T.bl_len rfl (a_cons (pv 3) a_nil) (od_v od_n)) (e_con (.int 1) pe_int (fun _ _ => rep_int _)) rfl (od_e (od_e od_n))) (pe_one (e_call (fo_is_lot.mono (by omega)) kok_fn hr rfl T.gl_is_lot kp_is_lot b_is_lot .nil pass0 (fun _ _ => reps_nil') rfl (by decide) (a_cons (e_var 0 (pv 0)) (a_cons (e_pth (pt_ix rfl (pt_var (pv 3)) (sm_con pe_int (fun _ _ => rep_int _)) (fun _ _ => rfl))) a_nil)) (od_e (od_e od_n))))))
    (s_nil)) (s_nil))
    (s_cons (s_if (t_cmpC (c_eq rfl hu) (pv 2) (e_con (.str ("parts" : PySem.Str)) pe_str (fun _ _ => rep_str _)) rfl (od_v (od_e od_n))) (s_cons (s_ret (e_and (e_cmpC (c_eq rfl hu) (e_cb (b_len rfl) rfl T.bl_len rfl (a_cons (pv 3) a_nil) (od_v od_n)) (e_con (.int 1) pe_int (fun _ _ => rep_int _)) rfl (od_e (od_e od_n))) (pe_one (e_call (fo_are_parts.mono (by omega)) kok_fn hr rfl T.gl_are_parts kp_are_parts b_are_parts .nil pass0 (fun _ _ => reps_nil') rfl (by decide) (a_cons (e_var 0 (pv 0)) (a_cons (e_pth (pt_ix rfl (pt_var (pv 3)) (sm_con pe_int (fun _ _ => rep_int _)) (fun _ _ => rfl))) a_nil)) (od_e (od_e od_n))))))
    (s_nil)) (s_nil))
    (s_cons (s_if (PW.pt (w_or (t_cmpC (c_ne rfl hu) (pv 2) (e_con (.str ("near" : PySem.Str)) pe_str (fun _ _ => rep_str _)) rfl (od_v (od_e od_n))) (pw_or1 (t_cmpC (c_ne rfl hu) (e_cb (b_len rfl) rfl T.bl_len rfl (a_cons (pv 3) a_nil) (od_v od_n)) (e_con (.int 2) pe_int (fun _ _ => rep_int _)) rfl (od_e (od_e od_n)))))) (s_cons (s_ret (e_con (.bl false) pe_bl (fun _ _ => rep_bl _)))
    (s_nil)) (s_nil))
    (s_cons (s_ret (e_and (e_call (fo_is_number.mono (by omega)) kok_fn hr rfl T.gl_is_number kp_is_number b_is_number .nil pass0 (fun _ _ => reps_nil') rfl (by decide) (a_cons (e_pth (pt_ix rfl (pt_var (pv 3)) (sm_con pe_int (fun _ _ => rep_int _)) (fun _ _ => rfl))) (a_cons (e_con (.int 0) pe_int (fun _ _ => rep_int _)) (a_cons (e_sub (e_lenO (c0 := 0) (mn := 2) (fo_Board___len__.mono (by omega)) kok_fn (by decide) hr b_Board___len__ pass0 T.me_Board___len__ rfl T.bl_len PySem.boot_len (pv 0) (od_v od_n)) (e_con (.int 1) pe_int (fun _ _ => rep_int _)) (od_e (od_e od_n))) a_nil))) (od_e (od_e (od_e od_n)))) (pe_one (e_call (fo_is_number.mono (by omega)) kok_fn hr rfl T.gl_is_number kp_is_number b_is_number .nil pass0 (fun _ _ => reps_nil') rfl (by decide) (a_cons (e_pth (pt_ix rfl (pt_var (pv 3)) (sm_con pe_int (fun _ _ => rep_int _)) (fun _ _ => rfl))) (a_cons (e_con (.int 0) pe_int (fun _ _ => rep_int _)) (a_cons (e_con (.int 7) (pe_glob rfl hc_MOST_PACE rel_int) (fun _ _ => rep_int _)) a_nil))) (od_e (od_e (od_e od_n)))))))
    (s_nil))))))
theorem sc_are_seen : FnScope N_are_seen ["board", "seen", "last"] (defScope (top 26)) := ⟨rfl, rfl, rfl, by decide +kernel, rfl, by decide +kernel, by decide +kernel⟩
theorem ok_are_seen (T : Tops K mg) (c_is_number : Ok_is_number P w K mg base) (c_is_whole : Ok_is_whole P w K mg base) (c_is_look : Ok_is_look P w K mg base) : Ok_are_seen P w K mg base := by
  obtain ⟨⟨fd_is_number, fo_is_number, b_is_number⟩, kp_is_number⟩ := c_is_number
  obtain ⟨⟨fd_is_whole, fo_is_whole, b_is_whole⟩, kp_is_whole⟩ := c_is_whole
  obtain ⟨⟨fd_is_look, fo_is_look, b_is_look⟩, kp_is_look⟩ := c_is_look
  obtain ⟨t_MOST_TRIPLES, hc_MOST_TRIPLES⟩ := T.c_MOST_TRIPLES
  obtain ⟨fd, FD⟩ := T.s.def_ 22 (d := fn_22) rfl
  refine ⟨⟨fd, fn_rm (W := fun i => decide (0 ≤ i)) (m := (M_are_seen)) (N := N_are_seen) (j := 5) FD sc_are_seen rfl (by decide) (fun i hi => decide_eq_false (by omega)) (fun cdv A outer s H E hr => PSs.nox ?_), FD.bindsN fun _ _ _ _ _ _ us hl => match us, hl with | [_, _, _], _ => rfl⟩, FD.kp⟩
  have nd : N_are_seen.Nodup := sc_are_seen.nd
  have hu := hr.units
  have hu1 : (A.deeper (PyProof.Rows.envOfC fn_22.qual fn_22.scope s.heap.objs.size (He.fAd K ("are_seen", none)) cdv)).units + 1 < cLine := by have := hr.units; omega
  unfold M_are_seen S_are_seen_3 S_are_seen_2 B_are_seen_1 S_are_seen_0
  exact (s_cons (s_if (PW.pt (w_or (t_not (t_val (e_isi rfl isi_tuple rfl T.bl_isinstance rfl rfl T.bl_tuple rfl (pv 1) (od_v od_n)) (fun _ => rfl))) (pw_or1 (t_cmpC (c_gt) (e_cb (b_len rfl) rfl T.bl_len rfl (a_cons (pv 1) a_nil) (od_v od_n)) (e_con (.int 24) (pe_glob rfl hc_MOST_TRIPLES rel_int) (fun _ _ => rep_int _)) rfl (od_e (od_e od_n)))))) (s_cons (s_ret (e_con (.bl false) pe_bl (fun _ _ => rep_bl _)))
    (s_nil)) (s_nil))
    (s_cons (s_for PassesOwn.never rfl (i_seq rfl (e_var 1 (pv 1))) (g_tup rfl rfl (g_cons (g_name (pg_name (i := 3) nd rfl (by first | exact Or.inl rfl | exact Or.inr rfl)) rfl) (g_cons (g_name (pg_name (i := 4) nd rfl (by first | exact Or.inl rfl | exact Or.inr rfl)) rfl) (g_cons (g_name (pg_name (i := 5) nd rfl (by first | exact Or.inl rfl | exact Or.inr rfl)) rfl) (g_nil) rfl) rfl) rfl) rfl rfl) (s_cons (s_if (PW.pt (w_or (t_not (t_val (e_call (fo_is_number.mono (by omega)) kok_fn hr rfl T.gl_is_number kp_is_number b_is_number .nil pass0 (fun _ _ => reps_nil') rfl (by decide) (a_cons (e_var 3 (pv 3)) (a_cons (e_con (.int 0) pe_int (fun _ _ => rep_int _)) (a_cons (e_var 2 (pv 2)) a_nil))) (od_e (od_e (od_e od_n)))) (fun _ => rfl))) (w_or (t_not (t_val (e_call (fo_is_whole.mono (by omega)) kok_fn hr rfl T.gl_is_whole kp_is_whole b_is_whole .nil pass0 (fun _ _ => reps_nil') rfl (by decide) (a_cons (e_var 5 (pv 5)) a_nil) (od_e od_n)) (fun _ => rfl))) (pw_or1 (t_not (t_val (e_call (fo_is_look.mono (by omega)) kok_fn hr rfl T.gl_is_look kp_is_look b_is_look .nil pass0 (fun _ _ => reps_nil') rfl (by decide) (a_cons (e_var 0 (pv 0)) (a_cons (e_var 4 (pv 4)) a_nil)) (od_e (od_e od_n))) (fun _ => rfl))))))) (s_cons (s_ret (e_con (.bl false) pe_bl (fun _ _ => rep_bl _)))
    (s_nil)) (s_nil))
    (s_nil)) (fun _ => rfl))
    (s_cons (s_ret (e_con (.bl true) pe_bl (fun _ _ => rep_bl _)))
    (s_nil))))
theorem sc_look_story : FnScope N_look_story ["board", "story"] (defScope (top 27)) := ⟨rfl, rfl, rfl, by decide +kernel, rfl, by decide +kernel, by decide +kernel⟩
theorem ok_look_story (T : Tops K mg) (c_is_lot : Ok_is_lot P w K mg base) (c_is_pace : Ok_is_pace P w K mg base) (c_are_seen : Ok_are_seen P w K mg base) : Ok_look_story P w K mg base := by
  obtain ⟨⟨fd_is_lot, fo_is_lot, b_is_lot⟩, kp_is_lot⟩ := c_is_lot
  obtain ⟨⟨fd_is_pace, fo_is_pace, b_is_pace⟩, kp_is_pace⟩ := c_is_pace
  obtain ⟨⟨fd_are_seen, fo_are_seen, b_are_seen⟩, kp_are_seen⟩ := c_are_seen
  obtain ⟨t_MOST_BEATS, hc_MOST_BEATS⟩ := T.c_MOST_BEATS
  obtain ⟨fd, FD⟩ := T.s.def_ 23 (d := fn_23) rfl
  refine ⟨⟨fd, fn_rm (W := fun i => decide (0 ≤ i)) (m := (M_look_story)) (N := N_look_story) (j := 6) FD sc_look_story rfl (by decide) (fun i hi => decide_eq_false (by omega)) (fun cdv A outer s H E hr => PSs.nox ?_), FD.bindsN fun _ _ _ _ _ _ us hl => match us, hl with | [_, _], _ => rfl⟩, FD.kp⟩
  have nd : N_look_story.Nodup := sc_look_story.nd
  have hu := hr.units
  have hu1 : (A.deeper (PyProof.Rows.envOfC fn_23.qual fn_23.scope s.heap.objs.size (He.fAd K ("look_story", none)) cdv)).units + 1 < cLine := by have := hr.units; omega
  unfold M_look_story S_look_story_3 S_look_story_2 S_look_story_1 S_look_story_0
  exact (s_cons (s_asg (e_var 1 (pv 1)) (g_tup rfl rfl (g_cons (g_name (pg_name (i := 2) nd rfl (by first | exact Or.inl rfl | exact Or.inr rfl)) rfl) (g_cons (g_name (pg_name (i := 3) nd rfl (by first | exact Or.inl rfl | exact Or.inr rfl)) rfl) (g_cons (g_name (pg_name (i := 4) nd rfl (by first | exact Or.inl rfl | exact Or.inr rfl)) rfl) (g_nil) rfl) rfl) rfl) rfl rfl) rfl rfl rfl)
    (s_cons (s_if (PW.pt (w_or (t_not (t_val (e_call (fo_is_lot.mono (by omega)) kok_fn hr rfl T.gl_is_lot kp_is_lot b_is_lot .nil pass0 (fun _ _ => reps_nil') rfl (by decide) (a_cons (e_var 0 (pv 0)) (a_cons (e_var 2 (pv 2)) a_nil)) (od_e (od_e od_n))) (fun _ => rfl))) (pw_or1 (t_cmpC (c_eq rfl hu) (pv 2) (e_tup (by decide) (by exact a_nil)) rfl (od_v (od_e od_n)))))) (ss_never) (s_nil))
    (s_cons (s_if (PW.pt (w_or (t_not (t_val (e_isi rfl isi_tuple rfl T.bl_isinstance rfl rfl T.bl_tuple rfl (pv 3) (od_v od_n)) (fun _ => rfl))) (w_or (t_cmpC (c_gt) (e_cb (b_len rfl) rfl T.bl_len rfl (a_cons (pv 3) a_nil) (od_v od_n)) (e_con (.int 12) (pe_glob rfl hc_MOST_BEATS rel_int) (fun _ _ => rep_int _)) rfl (od_e (od_e od_n))) (pw_or1 (t_not (t_val (e_cb (b_all rfl rfl) rfl T.bl_all rfl (a_cons (e_comp (own := [("pace", 5)]) rfl nd (i_seq rfl (e_var 3 (pv 3))) (blkOk_by (N := N_look_story) (by kernel_rfl)) (fun _ _ _ _ _ => g_name (pg_name (i := 5) nd rfl (by first | exact Or.inl rfl | exact Or.inr rfl)) rfl) (fun _ _ _ _ _ => ts_nil) (fun _ _ _ _ _ => e_call (fo_is_pace.mono (by omega)) kok_fn hr rfl T.gl_is_pace kp_is_pace b_is_pace .nil pass0 (fun _ _ => reps_nil') rfl (by decide) (a_cons (e_var 0 (pv 0)) (a_cons (e_var 5 (pv 5)) a_nil)) (od_e (od_e od_n))) (fun _ => rfl)) a_nil) (od_e od_n)) (fun _ => rfl))))))) (ss_never) (s_nil))
    (s_cons (s_if (t_not (t_val (e_call (fo_are_seen.mono (by omega)) kok_fn hr rfl T.gl_are_seen kp_are_seen b_are_seen .nil pass0 (fun _ _ => reps_nil') rfl (by decide) (a_cons (e_var 0 (pv 0)) (a_cons (e_var 4 (pv 4)) (a_cons (e_cb (b_len rfl) rfl T.bl_len rfl (a_cons (pv 3) a_nil) (od_v od_n)) a_nil))) (od_e (od_e (od_e od_n)))) (fun _ => rfl))) (ss_never) (s_nil))
    (s_nil)))))
theorem sc_last_beat : FnScope N_last_beat ["story"] (defScope (top 28)) := ⟨rfl, rfl, rfl, by decide +kernel, rfl, by decide +kernel, by decide +kernel⟩
theorem ok_last_beat (T : Tops K mg) : Ok_last_beat P w K mg base := by
  obtain ⟨fd, FD⟩ := T.s.def_ 24 (d := fn_24) rfl
  refine ⟨⟨fd, fn_rm (W := fun i => decide (0 ≤ i)) (m := (M_last_beat)) (N := N_last_beat) (j := 0) FD sc_last_beat rfl (by decide) (fun i hi => decide_eq_false (by omega)) (fun cdv A outer s H E hr => PSs.nox ?_), FD.bindsN fun _ _ _ _ _ _ us hl => match us, hl with | [_], _ => rfl⟩, FD.kp⟩
  have nd : N_last_beat.Nodup := sc_last_beat.nd
  have hu := hr.units
  have hu1 : (A.deeper (PyProof.Rows.envOfC fn_24.qual fn_24.scope s.heap.objs.size (He.fAd K ("last_beat", none)) cdv)).units + 1 < cLine := by have := hr.units; omega
  unfold M_last_beat
  exact (s_cons (s_ret (e_cb (b_len rfl) rfl T.bl_len rfl (a_cons (e_pth (pt_ix rfl (pt_var (pv 0)) (sm_con pe_int (fun _ _ => rep_int _)) (fun _ _ => rfl))) a_nil) (od_e od_n)))
    (s_nil))
theorem sc_in_both : FnScope N_in_both ["one", "other"] (defScope (top 29)) := ⟨rfl, rfl, rfl, by decide +kernel, rfl, by decide +kernel, by decide +kernel⟩
theorem ok_in_both (T : Tops K mg) : Ok_in_both P w K mg base := by
  obtain ⟨fd, FD⟩ := T.s.def_ 25 (d := fn_25) rfl
  refine ⟨⟨fd, fn_rm (W := fun i => decide (0 ≤ i)) (m := (M_in_both)) (N := N_in_both) (j := 0) FD sc_in_both rfl (by decide) (fun i hi => decide_eq_false (by omega)) (fun cdv A outer s H E hr => PSs.nox ?_), FD.bindsN fun _ _ _ _ _ _ us hl => match us, hl with | [_, _], _ => rfl⟩, FD.kp⟩
  have nd : N_in_both.Nodup := sc_in_both.nd
  have hu := hr.units
  have hu1 : (A.deeper (PyProof.Rows.envOfC fn_25.qual fn_25.scope s.heap.objs.size (He.fAd K ("in_both", none)) cdv)).units + 1 < cLine := by have := hr.units; omega
  unfold M_in_both
  exact (s_cons (s_ret (e_fz (e_ct (b_tup rfl) rfl T.bl_tuple rfl (a_cons (e_comp (own := [("place", 2)]) rfl nd (i_seq rfl (e_var 0 (pv 0))) (blkOk_by (N := N_in_both) (by kernel_rfl)) (fun _ _ _ _ _ => g_name (pg_name (i := 2) nd rfl (by first | exact Or.inl rfl | exact Or.inr rfl)) rfl) (fun _ _ _ _ _ => ts_one (t_cmpC (c_in rfl) (pv 2) (pv 1) rfl (od_v (od_v od_n)))) (fun _ _ _ _ _ => e_var 2 (pv 2)) (fun _ => rfl)) a_nil) (od_e od_n))))
    (s_nil))
theorem sc_Board_need : FnScope N_Board_need ["self", "place"] (defScope (inClass (top 13) 5)) := ⟨rfl, rfl, rfl, by decide +kernel, rfl, by decide +kernel, by decide +kernel⟩
theorem ok_Board_need (T : Tops K mg) (c_is_number : Ok_is_number P w K mg base) : Ok_Board_need P w K mg base := by
  obtain ⟨⟨fd_is_number, fo_is_number, b_is_number⟩, kp_is_number⟩ := c_is_number
  obtain ⟨fd, FD⟩ := T.s.def_ 9 (d := fn_9) rfl
  refine ⟨⟨fd, fn_rm (W := fun i => decide (1 ≤ i)) (m := (M_Board_need)) (N := N_Board_need) (j := 2) FD sc_Board_need rfl (by decide) (fun i hi => decide_eq_false (by omega)) (fun cdv A outer s H E hr => PSs.nox ?_), FD.bindsN fun _ _ _ _ _ _ us hl => match us, hl with | [_, _], _ => rfl⟩, FD.kp⟩
  have nd : N_Board_need.Nodup := sc_Board_need.nd
  have hu := hr.units
  have hu1 : (A.deeper (PyProof.Rows.envOfC fn_9.qual fn_9.scope s.heap.objs.size (He.fAd K ("Board", some "need")) cdv)).units + 1 < cLine := by have := hr.units; omega
  unfold M_Board_need
  exact (s_cons (s_if (t_not (t_val (e_call (fo_is_number.mono (by omega)) kok_fn hr rfl T.gl_is_number kp_is_number b_is_number .nil pass0 (fun _ _ => reps_nil') rfl (by decide) (a_cons (e_var 1 (pv 1)) (a_cons (e_con (.int 0) pe_int (fun _ _ => rep_int _)) (a_cons (e_sub (e_pth (pt_fld (c0 := 0) (n := 16) rfl (pt_var (pv 0)) rfl rfl T.cls_Board T.na_Board_room)) (e_con (.int 1) pe_int (fun _ _ => rep_int _)) (od_e (od_e od_n))) a_nil))) (od_e (od_e (od_e od_n)))) (fun _ => rfl))) (ss_never) (s_nil))
    (s_nil))
theorem sc_Board_far : FnScope N_Board_far ["self", "one", "other"] (defScope (inClass (top 13) 8)) := ⟨rfl, rfl, rfl, by decide +kernel, rfl, by decide +kernel, by decide +kernel⟩
theorem ok_Board_far (T : Tops K mg) (c_Board_need : Ok_Board_need P w K mg base) : Ok_Board_far P w K mg base := by
  obtain ⟨⟨fd_Board_need, fo_Board_need, b_Board_need⟩, kp_Board_need⟩ := c_Board_need
  obtain ⟨fd, FD⟩ := T.s.def_ 12 (d := fn_12) rfl
  refine ⟨⟨fd, fn_rm (W := fun i => decide (1 ≤ i)) (m := (M_Board_far)) (N := N_Board_far) (j := 3) FD sc_Board_far rfl (by decide) (fun i hi => decide_eq_false (by omega)) (fun cdv A outer s H E hr => PSs.nox ?_), FD.bindsN fun _ _ _ _ _ _ us hl => match us, hl with | [_, _, _], _ => rfl⟩, FD.kp⟩
  have nd : N_Board_far.Nodup := sc_Board_far.nd
  have hu := hr.units
  have hu1 : (A.deeper (PyProof.Rows.envOfC fn_12.qual fn_12.scope s.heap.objs.size (He.fAd K ("Board", some "far")) cdv)).units + 1 < cLine := by have := hr.units; omega
  unfold M_Board_far S_Board_far_2 S_Board_far_1 S_Board_far_0
  exact (s_cons (s_expr (e_methV (c0 := 0) (mn := 5) (fo_Board_need.mono (by omega)) kok_fn hr (pv 0) T.cls_Board T.me_Board_need b_Board_need .nil pass0 (fun _ _ => reps_nil') rfl (by decide) rfl (a_cons (e_var 1 (pv 1)) a_nil) (od_e od_n)) rfl)
    (s_cons (s_expr (e_methV (c0 := 0) (mn := 5) (fo_Board_need.mono (by omega)) kok_fn hr (pv 0) T.cls_Board T.me_Board_need b_Board_need .nil pass0 (fun _ _ => reps_nil') rfl (by decide) rfl (a_cons (e_var 2 (pv 2)) a_nil) (od_e od_n)) rfl)
    (s_cons (s_ret (e_fz (e_pth (pt_ix rfl (pt_ix rfl (pt_fld (c0 := 0) (n := 18) rfl (pt_var (pv 0)) rfl rfl T.cls_Board T.na_Board_spans) (sm_var (pv 1)) (fun _ _ => rfl)) (sm_var (pv 2)) (fun _ _ => rfl)))))
    (s_nil))))
theorem sc_answer_at : FnScope N_answer_at ["board", "look", "place"] (defScope (top 23)) := ⟨rfl, rfl, rfl, by decide +kernel, rfl, by decide +kernel, by decide +kernel⟩
theorem ok_answer_at (T : Tops K mg) (c_Board_far : Ok_Board_far P w K mg base) : Ok_answer_at P w K mg base := by
  obtain ⟨⟨fd_Board_far, fo_Board_far, b_Board_far⟩, kp_Board_far⟩ := c_Board_far
  obtain ⟨fd, FD⟩ := T.s.def_ 21 (d := fn_21) rfl
  refine ⟨⟨fd, fn_rm (W := fun i => decide (0 ≤ i)) (m := (M_answer_at)) (N := N_answer_at) (j := 4) FD sc_answer_at rfl (by decide) (fun i hi => decide_eq_false (by omega)) (fun cdv A outer s H E hr => PSs.nox ?_), FD.bindsN fun _ _ _ _ _ _ us hl => match us, hl with | [_, _, _], _ => rfl⟩, FD.kp⟩
  have nd : N_answer_at.Nodup := sc_answer_at.nd
  have hu := hr.units
  have hu1 : (A.deeper (PyProof.Rows.envOfC fn_21.qual fn_21.scope s.heap.objs.size (He.fAd K ("answer_at", none)) cdv)).units + 1 < cLine := by have := hr.units; omega
  unfold M_answer_at S_answer_at_3 S_answer_at_2 S_answer_at_1 S_answer_at_0
  exact (s_cons (s_if (t_cmpC (c_eq rfl hu) (e_pth (pt_ix rfl (pt_var (pv 1)) (sm_con pe_int (fun _ _ => rep_int _)) (fun _ _ => rfl))) (e_con (.str ("in" : PySem.Str)) pe_str (fun _ _ => rep_str _)) rfl (od_e (od_e od_n))) (s_cons (s_ret (e_ct (b_int) rfl T.bl_int rfl (a_cons (e_cmpC (c_in rfl) (pv 2) (e_pth (pt_ix rfl (pt_var (pv 1)) (sm_con pe_int (fun _ _ => rep_int _)) (fun _ _ => rfl))) rfl (od_v (od_e od_n))) a_nil) (od_e od_n)))
    (s_nil)) (s_nil))
    (s_cons (s_if (t_cmpC (c_eq rfl hu) (e_pth (pt_ix rfl (pt_var (pv 1)) (sm_con pe_int (fun _ _ => rep_int _)) (fun _ _ => rfl))) (e_con (.str ("parts" : PySem.Str)) pe_str (fun _ _ => rep_str _)) rfl (od_e (od_e od_n))) (s_cons (s_ret (e_fz (e_idx rfl (e_comp (own := [("lot", 4)]) rfl nd (i_seq rfl (e_pth (pt_ix rfl (pt_var (pv 1)) (sm_con pe_int (fun _ _ => rep_int _)) (fun _ _ => rfl)))) (blkOk_by (N := N_answer_at) (by kernel_rfl)) (fun _ _ _ _ _ => g_name (pg_name (i := 4) nd rfl (by first | exact Or.inl rfl | exact Or.inr rfl)) rfl) (fun _ _ _ _ _ => ts_nil) (fun _ _ _ _ _ => e_cmpC (c_in rfl) (pv 2) (pv 4) rfl (od_v (od_v od_n))) (fun _ => rfl)) (e_con (.bl true) pe_bl (fun _ _ => rep_bl _)) (fun _ _ _ h => comp_lst h))))
    (s_nil)) (s_nil))
    (s_cons (s_asg (e_methV (c0 := 0) (mn := 8) (fo_Board_far.mono (by omega)) kok_fn hr (pv 0) T.cls_Board T.me_Board_far b_Board_far .nil pass0 (fun _ _ => reps_nil') rfl (by decide) rfl (a_cons (e_var 2 (pv 2)) (a_cons (e_pth (pt_ix rfl (pt_var (pv 1)) (sm_con pe_int (fun _ _ => rep_int _)) (fun _ _ => rfl))) a_nil)) (od_e (od_e od_n))) (g_name (pg_name (i := 3) nd rfl (by first | exact Or.inl rfl | exact Or.inr rfl)) rfl) rfl rfl rfl)
    (s_cons (s_ret (e_fz (e_if (PW.pt (w_and (t_cmpC (c_notN) (pv 3) (e_con (.non) pe_non (fun _ _ => rep_non)) rfl (od_v (od_e od_n))) (pw_and1 (t_cmpC (c_le) (pv 3) (e_pth (pt_ix rfl (pt_var (pv 1)) (sm_con pe_int (fun _ _ => rep_int _)) (fun _ _ => rfl))) rfl (od_v (od_e od_n)))))) (e_var 3 (pv 3)) (e_add rfl (e_pth (pt_ix rfl (pt_var (pv 1)) (sm_con pe_int (fun _ _ => rep_int _)) (fun _ _ => rfl))) (e_con (.int 1) pe_int (fun _ _ => rep_int _)) (od_e (od_e od_n))))))
    (s_nil)))))
theorem sc_answering : FnScope N_answering ["board", "look", "answer"] (defScope (top 30)) := ⟨rfl, rfl, rfl, by decide +kernel, rfl, by decide +kernel, by decide +kernel⟩
theorem ok_answering (T : Tops K mg) (c_Board___len__ : Ok_Board___len__ P w K mg base) (c_answer_at : Ok_answer_at P w K mg base) : Ok_answering P w K mg base := by
  obtain ⟨⟨fd_Board___len__, fo_Board___len__, b_Board___len__⟩, kp_Board___len__⟩ := c_Board___len__
  obtain ⟨⟨fd_answer_at, fo_answer_at, b_answer_at⟩, kp_answer_at⟩ := c_answer_at
  obtain ⟨fd, FD⟩ := T.s.def_ 26 (d := fn_26) rfl
  refine ⟨⟨fd, fn_rm (W := fun i => decide (0 ≤ i)) (m := (M_answering)) (N := N_answering) (j := 5) FD sc_answering rfl (by decide) (fun i hi => decide_eq_false (by omega)) (fun cdv A outer s H E hr => PSs.nox ?_), FD.bindsN fun _ _ _ _ _ _ us hl => match us, hl with | [_, _, _], _ => rfl⟩, FD.kp⟩
  have nd : N_answering.Nodup := sc_answering.nd
  have hu := hr.units
  have hu1 : (A.deeper (PyProof.Rows.envOfC fn_26.qual fn_26.scope s.heap.objs.size (He.fAd K ("answering", none)) cdv)).units + 1 < cLine := by have := hr.units; omega
  unfold M_answering
  exact (s_cons (s_ret (e_fz (e_ct (b_tup rfl) rfl T.bl_tuple rfl (a_cons (e_comp (own := [("place", 3)]) rfl nd (i_range1 rfl T.bl_range (e_lenO (c0 := 0) (mn := 2) (fo_Board___len__.mono (by omega)) kok_fn (by decide) hr b_Board___len__ pass0 T.me_Board___len__ rfl T.bl_len PySem.boot_len (pv 0) (od_v od_n)) (od_e od_n) rfl) (blkOk_by (N := N_answering) (by kernel_rfl)) (fun _ _ _ _ _ => g_name (pg_name (i := 3) nd rfl (by first | exact Or.inl rfl | exact Or.inr rfl)) rfl) (fun _ _ _ _ _ => ts_one (t_cmpC (c_eq rfl hu) (e_call (fo_answer_at.mono (by omega)) kok_fn hr rfl T.gl_answer_at kp_answer_at b_answer_at .nil pass0 (fun _ _ => reps_nil') rfl (by decide) (a_cons (e_var 0 (pv 0)) (a_cons (e_var 1 (pv 1)) (a_cons (e_var 3 (pv 3)) a_nil))) (od_e (od_e (od_e od_n)))) (pv 2) rfl (od_e (od_v od_n)))) (fun _ _ _ _ _ => e_var 3 (pv 3)) (fun _ => rfl)) a_nil) (od_e od_n))))
    (s_nil))
theorem sc_open_lots : FnScope N_open_lots ["board", "story"] (defScope (top 31)) := ⟨rfl, rfl, rfl, by decide +kernel, rfl, by decide +kernel, by decide +kernel⟩
theorem ok_open_lots (T : Tops K mg) (c_Board___len__ : Ok_Board___len__ P w K mg base) (c_last_beat : Ok_last_beat P w K mg base) (c_in_both : Ok_in_both P w K mg base) (c_answering : Ok_answering P w K mg base) : Ok_open_lots P w K mg base := by
  obtain ⟨⟨fd_Board___len__, fo_Board___len__, b_Board___len__⟩, kp_Board___len__⟩ := c_Board___len__
  obtain ⟨⟨fd_last_beat, fo_last_beat, b_last_beat⟩, kp_last_beat⟩ := c_last_beat
  obtain ⟨⟨fd_in_both, fo_in_both, b_in_both⟩, kp_in_both⟩ := c_in_both
  obtain ⟨⟨fd_answering, fo_answering, b_answering⟩, kp_answering⟩ := c_answering
  obtain ⟨fd, FD⟩ := T.s.def_ 27 (d := fn_27) rfl
  refine ⟨⟨fd, fn_rm (W := fun i => decide (0 ≤ i)) (m := (M_open_lots)) (N := N_open_lots) (j := 6) FD sc_open_lots rfl (by decide) (fun i hi => decide_eq_false (by omega)) (fun cdv A outer s H E hr => PSs.nox ?_), FD.bindsN fun _ _ _ _ _ _ us hl => match us, hl with | [_, _], _ => rfl⟩, FD.kp⟩
  have nd : N_open_lots.Nodup := sc_open_lots.nd
  have hu := hr.units
  have hu1 : (A.deeper (PyProof.Rows.envOfC fn_27.qual fn_27.scope s.heap.objs.size (He.fAd K ("open_lots", none)) cdv)).units + 1 < cLine := by have := hr.units; omega
  unfold M_open_lots S_open_lots_4 S_open_lots_3 B_open_lots_2 S_open_lots_1 S_open_lots_0
  exact (s_cons (s_asg (e_rgT rfl rfl T.bl_tuple rfl T.bl_range (e_lenO (c0 := 0) (mn := 2) (fo_Board___len__.mono (by omega)) kok_fn (by decide) hr b_Board___len__ pass0 T.me_Board___len__ rfl T.bl_len PySem.boot_len (pv 0) (od_v od_n)) (od_e od_n)) (g_name (pg_name (i := 2) nd rfl (by first | exact Or.inl rfl | exact Or.inr rfl)) rfl) rfl rfl rfl)
    (s_cons (s_setComp (i := 3) (own := [("beat", 4)]) rfl nd rfl rfl rfl (sw_true rfl rfl rfl (by decide +kernel)) (i_range1 rfl T.bl_range (e_add rfl (e_call (fo_last_beat.mono (by omega)) kok_fn hr rfl T.gl_last_beat kp_last_beat b_last_beat .nil pass0 (fun _ _ => reps_nil') rfl (by decide) (a_cons (e_var 1 (pv 1)) a_nil) (od_e od_n)) (e_con (.int 1) pe_int (fun _ _ => rep_int _)) (od_e (od_e od_n))) (od_e od_n) rfl) (blkOk_by (N := N_open_lots) (by kernel_rfl)) (fun _ _ _ _ _ => g_name (pg_name (i := 4) nd rfl (by first | exact Or.inl rfl | exact Or.inr rfl)) rfl) (fun _ _ _ _ _ => ts_nil) (fun _ _ _ _ _ => e_var 2 (pv 2)) (fun _ => rfl))
    (s_cons (s_for PassesOwn.never rfl (i_seq rfl (e_pth (pt_ix rfl (pt_var (pv 1)) (sm_con pe_int (fun _ _ => rep_int _)) (fun _ _ => rfl)))) (g_tup rfl rfl (g_cons (g_name (pg_name (i := 4) nd rfl (by first | exact Or.inl rfl | exact Or.inr rfl)) rfl) (g_cons (g_name (pg_name (i := 5) nd rfl (by first | exact Or.inl rfl | exact Or.inr rfl)) rfl) (g_cons (g_name (pg_name (i := 6) nd rfl (by first | exact Or.inl rfl | exact Or.inr rfl)) rfl) (g_nil) rfl) rfl) rfl) rfl rfl) (s_cons (s_asg (e_call (fo_in_both.mono (by omega)) kok_fn hr rfl T.gl_in_both kp_in_both b_in_both .nil pass0 (fun _ _ => reps_nil') rfl (by decide) (a_cons (e_pth (pt_ix rfl (pt_var (pv 3)) (sm_var (pv 4)) (fun _ _ => rfl))) (a_cons (e_call (fo_answering.mono (by omega)) kok_fn hr rfl T.gl_answering kp_answering b_answering .nil pass0 (fun _ _ => reps_nil') rfl (by decide) (a_cons (e_var 0 (pv 0)) (a_cons (e_var 5 (pv 5)) (a_cons (e_var 6 (pv 6)) a_nil))) (od_e (od_e (od_e od_n)))) a_nil)) (od_e (od_e od_n))) (g_setL (pt_var (pv 3)) (sm_var (pv 4)) (fun _ => rfl)) rfl rfl rfl)
    (s_nil)) (fun _ => rfl))
    (s_cons (s_ret (e_var 3 (pv 3)))
    (s_nil)))))
theorem sc_Board_within : FnScope N_Board_within ["self", "place", "most"] (defScope (inClass (top 13) 9)) := ⟨rfl, rfl, rfl, by decide +kernel, rfl, by decide +kernel, by decide +kernel⟩
theorem ok_Board_within (T : Tops K mg) (c_Board_need : Ok_Board_need P w K mg base) : Ok_Board_within P w K mg base := by
  obtain ⟨⟨fd_Board_need, fo_Board_need, b_Board_need⟩, kp_Board_need⟩ := c_Board_need
  obtain ⟨fd, FD⟩ := T.s.def_ 13 (d := fn_13) rfl
  refine ⟨⟨fd, fn_rm (W := fun i => decide (1 ≤ i)) (m := (M_Board_within)) (N := N_Board_within) (j := 3) FD sc_Board_within rfl (by decide) (fun i hi => decide_eq_false (by omega)) (fun cdv A outer s H E hr => PSs.nox ?_), FD.bindsN fun _ _ _ _ _ _ us hl => match us, hl with | [_, _, _], _ => rfl⟩, FD.kp⟩
  have nd : N_Board_within.Nodup := sc_Board_within.nd
  have hu := hr.units
  have hu1 : (A.deeper (PyProof.Rows.envOfC fn_13.qual fn_13.scope s.heap.objs.size (He.fAd K ("Board", some "within")) cdv)).units + 1 < cLine := by have := hr.units; omega
  unfold M_Board_within S_Board_within_1 S_Board_within_0
  exact (s_cons (s_expr (e_methV (c0 := 0) (mn := 5) (fo_Board_need.mono (by omega)) kok_fn hr (pv 0) T.cls_Board T.me_Board_need b_Board_need .nil pass0 (fun _ _ => reps_nil') rfl (by decide) rfl (a_cons (e_var 1 (pv 1)) a_nil) (od_e od_n)) rfl)
    (s_cons (s_ret (e_fz (e_ct (b_tup rfl) rfl T.bl_tuple rfl (a_cons (e_comp (own := [("at", 3), ("span", 4)]) rfl nd (i_enum rfl rfl T.bl_enumerate (e_pth (pt_ix rfl (pt_fld (c0 := 0) (n := 18) rfl (pt_var (pv 0)) rfl rfl T.cls_Board T.na_Board_spans) (sm_var (pv 1)) (fun _ _ => rfl))) rfl) (blkOk_by (N := N_Board_within) (by kernel_rfl)) (fun _ _ _ _ _ => g_tup rfl rfl (g_cons (g_name (pg_name (i := 3) nd rfl (by first | exact Or.inl rfl | exact Or.inr rfl)) rfl) (g_cons (g_name (pg_name (i := 4) nd rfl (by first | exact Or.inl rfl | exact Or.inr rfl)) rfl) (g_nil) rfl) rfl) rfl rfl) (fun _ _ _ _ _ => ts_one (PW.pt (w_and (t_cmpC (c_notN) (pv 4) (e_con (.non) pe_non (fun _ _ => rep_non)) rfl (od_v (od_e od_n))) (pw_and1 (t_cmpC (c_le) (pv 4) (pv 2) rfl (od_v (od_v od_n))))))) (fun _ _ _ _ _ => e_var 3 (pv 3)) (fun _ => rfl)) a_nil) (od_e od_n))))
    (s_nil)))
theorem sc_stepped : FnScope N_stepped ["board", "pace", "lot"] (defScope (top 19)) := ⟨rfl, rfl, rfl, by decide +kernel, rfl, by decide +kernel, by decide +kernel⟩
theorem ok_stepped (T : Tops K mg) (c_Board_within : Ok_Board_within P w K mg base) : Ok_stepped P w K mg base := by
  obtain ⟨⟨fd_Board_within, fo_Board_within, b_Board_within⟩, kp_Board_within⟩ := c_Board_within
  obtain ⟨fd, FD⟩ := T.s.def_ 18 (d := fn_18) rfl
  refine ⟨⟨fd, fn_rm (W := fun i => decide (0 ≤ i)) (m := (M_stepped)) (N := N_stepped) (j := 4) FD sc_stepped rfl (by decide) (fun i hi => decide_eq_false (by omega)) (fun cdv A outer s H E hr => PSs.nox ?_), FD.bindsN fun _ _ _ _ _ _ us hl => match us, hl with | [_, _, _], _ => rfl⟩, FD.kp⟩
  have nd : N_stepped.Nodup := sc_stepped.nd
  have hu := hr.units
  have hu1 : (A.deeper (PyProof.Rows.envOfC fn_18.qual fn_18.scope s.heap.objs.size (He.fAd K ("stepped", none)) cdv)).units + 1 < cLine := by have := hr.units; omega
  unfold M_stepped
  exact (s_cons (s_ret (e_fz (e_ct (b_tup rfl) rfl T.bl_tuple rfl (a_cons (e_sortSc2 (own := [("place", 3), ("to", 4)]) (vs1 := [4]) rfl nd rfl T.bl_sorted rfl (i_seq rfl (e_var 2 (pv 2))) (blkOk_by (N := N_stepped) (by kernel_rfl)) (by decide) (fun _ _ _ _ _ => g_name (pg_name (i := 3) nd rfl (by first | exact Or.inl rfl | exact Or.inr rfl)) rfl) (fun _ _ _ _ _ => ts_nil) (fun _ _ _ _ _ => i_seq rfl (e_methV (c0 := 0) (mn := 9) (fo_Board_within.mono (by omega)) kok_fn hr (pv 0) T.cls_Board T.me_Board_within b_Board_within .nil pass0 (fun _ _ => reps_nil') rfl (by decide) rfl (a_cons (e_var 3 (pv 3)) (a_cons (e_pth (pt_ix rfl (pt_var (pv 1)) (sm_var (pv 3)) (fun _ _ => rfl))) a_nil)) (od_e (od_e od_n)))) (fun _ _ _ _ _ => g_name (pg_name (i := 4) nd rfl (by first | exact Or.inl rfl | exact Or.inr rfl)) rfl) (fun _ _ _ _ _ => ts_nil) (fun _ _ _ _ _ => e_var 4 (pv 4)) (fun _ => rfl) (fun _ _ => rfl)) a_nil) (od_e od_n))))
    (s_nil))
theorem sc_forth_of : FnScope N_forth_of ["board", "story"] (defScope (top 32)) := ⟨rfl, rfl, rfl, by decide +kernel, rfl, by decide +kernel, by decide +kernel⟩
theorem ok_forth_of (T : Tops K mg) (c_open_lots : Ok_open_lots P w K mg base) (c_in_both : Ok_in_both P w K mg base) (c_stepped : Ok_stepped P w K mg base) : Ok_forth_of P w K mg base := by
  obtain ⟨⟨fd_open_lots, fo_open_lots, b_open_lots⟩, kp_open_lots⟩ := c_open_lots
  obtain ⟨⟨fd_in_both, fo_in_both, b_in_both⟩, kp_in_both⟩ := c_in_both
  obtain ⟨⟨fd_stepped, fo_stepped, b_stepped⟩, kp_stepped⟩ := c_stepped
  obtain ⟨fd, FD⟩ := T.s.def_ 28 (d := fn_28) rfl
  refine ⟨⟨fd, fn_rm (W := fun i => decide (0 ≤ i)) (m := (M_forth_of)) (N := N_forth_of) (j := 7) FD sc_forth_of rfl (by decide) (fun i hi => decide_eq_false (by omega)) (fun cdv A outer s H E hr => PSs.nox ?_), FD.bindsN fun _ _ _ _ _ _ us hl => match us, hl with | [_, _], _ => rfl⟩, FD.kp⟩
  have nd : N_forth_of.Nodup := sc_forth_of.nd
  have hu := hr.units
  have hu1 : (A.deeper (PyProof.Rows.envOfC fn_28.qual fn_28.scope s.heap.objs.size (He.fAd K ("forth_of", none)) cdv)).units + 1 < cLine := by have := hr.units; omega
  unfold M_forth_of S_forth_of_4 S_forth_of_3 B_forth_of_2 S_forth_of_1 S_forth_of_0
  exact (s_cons (s_asg (e_call (fo_open_lots.mono (by omega)) kok_fn hr rfl T.gl_open_lots kp_open_lots b_open_lots .nil pass0 (fun _ _ => reps_nil') rfl (by decide) (a_cons (e_var 0 (pv 0)) (a_cons (e_var 1 (pv 1)) a_nil)) (od_e (od_e od_n))) (g_star rfl rfl (g_cons (g_name (pg_name (i := 2) nd rfl (by first | exact Or.inl rfl | exact Or.inr rfl)) rfl) (g_consS (g_name (pg_name (i := 3) nd rfl (by first | exact Or.inl rfl | exact Or.inr rfl)) rfl) (g_nil) rfl) rfl) (by decide) rfl rfl) rfl rfl rfl)
    (s_cons (s_asg (e_lst (by decide) (by exact (a_cons (e_call (fo_in_both.mono (by omega)) kok_fn hr rfl T.gl_in_both kp_in_both b_in_both .nil pass0 (fun _ _ => reps_nil') rfl (by decide) (a_cons (e_pth (pt_ix rfl (pt_var (pv 1)) (sm_con pe_int (fun _ _ => rep_int _)) (fun _ _ => rfl))) (a_cons (e_var 2 (pv 2)) a_nil)) (od_e (od_e od_n))) a_nil))) (g_name (pg_name (i := 4) nd rfl (by first | exact Or.inl rfl | exact Or.inr rfl)) rfl) rfl rfl rfl)
    (s_cons (s_for PassesOwn.never rfl (i_zip2 rfl rfl T.bl_zip (e_pth (pt_ix rfl (pt_var (pv 1)) (sm_con pe_int (fun _ _ => rep_int _)) (fun _ _ => rfl))) (e_var 3 (pv 3)) rfl rfl) (g_tup rfl rfl (g_cons (g_name (pg_name (i := 5) nd rfl (by first | exact Or.inl rfl | exact Or.inr rfl)) rfl) (g_cons (g_name (pg_name (i := 6) nd rfl (by first | exact Or.inl rfl | exact Or.inr rfl)) rfl) (g_nil) rfl) rfl) rfl rfl) (s_cons (s_expr (e_metV lm_app PySem.F.slot_list_append PySem.F.type_list_append mt_append (pv 4) (by exact (a_cons (e_call (fo_in_both.mono (by omega)) kok_fn hr rfl T.gl_in_both kp_in_both b_in_both .nil pass0 (fun _ _ => reps_nil') rfl (by decide) (a_cons (e_call (fo_stepped.mono (by omega)) kok_fn hr rfl T.gl_stepped kp_stepped b_stepped .nil pass0 (fun _ _ => reps_nil') rfl (by decide) (a_cons (e_var 0 (pv 0)) (a_cons (e_var 5 (pv 5)) (a_cons (e_pth (pt_ix rfl (pt_var (pv 4)) (sm_neg (sm_con pe_int (fun _ _ => rep_int _))) (fun _ _ => rfl))) a_nil))) (od_e (od_e (od_e od_n)))) (a_cons (e_var 6 (pv 6)) a_nil)) (od_e (od_e od_n))) a_nil))) rfl)
    (s_nil)) (fun _ => rfl))
    (s_cons (s_retV (pv 4))
    (s_nil)))))
theorem sc_forth : FnScope N_forth ["board", "story"] (defScope (top 33)) := ⟨rfl, rfl, rfl, by decide +kernel, rfl, by decide +kernel, by decide +kernel⟩
theorem ok_forth (T : Tops K mg) (c_look_story : Ok_look_story P w K mg base) (c_forth_of : Ok_forth_of P w K mg base) : Ok_forth P w K mg base := by
  obtain ⟨⟨fd_look_story, fo_look_story, b_look_story⟩, kp_look_story⟩ := c_look_story
  obtain ⟨⟨fd_forth_of, fo_forth_of, b_forth_of⟩, kp_forth_of⟩ := c_forth_of
  obtain ⟨fd, FD⟩ := T.s.def_ 29 (d := fn_29) rfl
  refine ⟨⟨fd, fn_rm (W := fun i => decide (0 ≤ i)) (m := (M_forth)) (N := N_forth) (j := 8) FD sc_forth rfl (by decide) (fun i hi => decide_eq_false (by omega)) (fun cdv A outer s H E hr => PSs.nox ?_), FD.bindsN fun _ _ _ _ _ _ us hl => match us, hl with | [_, _], _ => rfl⟩, FD.kp⟩
  have nd : N_forth.Nodup := sc_forth.nd
  have hu := hr.units
  have hu1 : (A.deeper (PyProof.Rows.envOfC fn_29.qual fn_29.scope s.heap.objs.size (He.fAd K ("forth", none)) cdv)).units + 1 < cLine := by have := hr.units; omega
  unfold M_forth S_forth_1 S_forth_0
  exact (s_cons (s_expr (e_call (fo_look_story.mono (by omega)) kok_fn hr rfl T.gl_look_story kp_look_story b_look_story .nil pass0 (fun _ _ => reps_nil') rfl (by decide) (a_cons (e_var 0 (pv 0)) (a_cons (e_var 1 (pv 1)) a_nil)) (od_e (od_e od_n))) rfl)
    (s_cons (s_ret (e_call (fo_forth_of.mono (by omega)) kok_fn hr rfl T.gl_forth_of kp_forth_of b_forth_of .nil pass0 (fun _ _ => reps_nil') rfl (by decide) (a_cons (e_var 0 (pv 0)) (a_cons (e_var 1 (pv 1)) a_nil)) (od_e (od_e od_n))))
    (s_nil)))
theorem sc__law_same : FnScope N__law_same ["_law_found", "_law_due"] (defScope (top 39)) := ⟨rfl, rfl, rfl, by decide +kernel, rfl, by decide +kernel, by decide +kernel⟩
theorem kok__law_same : ∀ fuel, KOk 1 (F__law_same fuel)
  | 0 => fun _ _ _ h => by cases h
  | fuel + 1 => kok_fn
theorem ok__law_same (T : Tops K mg) : ∀ fuel, Ok__law_same P w K mg base fuel
  | 0 => by
    obtain ⟨fd, FD⟩ := T.s.def_ 34 (d := fn_34) rfl
    exact ⟨⟨fd, ⟨fun vs H Q E h => (by obtain ⟨_, _, _, _, _, _, _, h, _⟩ := h; cases h), fun A outer s H args us vs Q E _ _ _ _ h => (by obtain ⟨_, _, _, _, _, _, _, h, _⟩ := h; cases h)⟩, FD.bindsN fun _ _ _ _ _ _ us hl => match us, hl with | [_, _], _ => rfl⟩, FD.kp⟩
  | fuel + 1 => by
    obtain ⟨fo_fdr, b__law_same⟩ := (ok__law_same T fuel).ex
    obtain ⟨fo__law_same, b__law_same⟩ := b__law_same
    have kp__law_same := (ok__law_same T fuel).kp
    obtain ⟨fd, FD⟩ := T.s.def_ 34 (d := fn_34) rfl
    refine ⟨⟨fd, fn_rm (W := fun i => decide (1 ≤ i)) (m := (M__law_same (F__law_same fuel))) (N := N__law_same) (j := 0 + fuel) FD sc__law_same rfl (by decide) (fun i hi => decide_eq_false (by omega)) (fun cdv A outer s H E hr => PSs.nox ?_), FD.bindsN fun _ _ _ _ _ _ us hl => match us, hl with | [_, _], _ => rfl⟩, FD.kp⟩
    have nd : N__law_same.Nodup := sc__law_same.nd
    have hu := hr.units
    have hu1 : (A.deeper (PyProof.Rows.envOfC fn_34.qual fn_34.scope s.heap.objs.size (He.fAd K ("_law_same", none)) cdv)).units + 1 < cLine := by have := hr.units; omega
    unfold M__law_same
    exact (s_cons (s_if (t_cmpC (c_isN) (pv 1) (e_con (.non) pe_non (fun _ _ => rep_non)) rfl (od_v (od_e od_n))) (s_cons (s_ret (e_cmpC (c_isN) (pv 0) (e_con (.non) pe_non (fun _ _ => rep_non)) rfl (od_v (od_e od_n))))
      (s_nil)) (s_nil))
      (s_cons (s_if (t_val (e_isi2 rfl isi_list isi_tuple rfl T.bl_isinstance rfl rfl T.bl_list rfl rfl T.bl_tuple rfl (pv 1) (od_v od_n)) (fun _ => rfl)) (s_cons (s_if (PW.pt (w_or (t_cmpC (c_ne rfl hu) (e_isi rfl isi_list rfl T.bl_isinstance rfl rfl T.bl_list rfl (pv 0) (od_v od_n)) (e_isi rfl isi_list rfl T.bl_isinstance rfl rfl T.bl_list rfl (pv 1) (od_v od_n)) rfl (od_e (od_e od_n))) (pw_or1 (t_cmpC (c_ne rfl hu) (e_isi rfl isi_tuple rfl T.bl_isinstance rfl rfl T.bl_tuple rfl (pv 0) (od_v od_n)) (e_isi rfl isi_tuple rfl T.bl_isinstance rfl rfl T.bl_tuple rfl (pv 1) (od_v od_n)) rfl (od_e (od_e od_n)))))) (s_cons (s_ret (e_con (.bl false) pe_bl (fun _ _ => rep_bl _)))
      (s_nil)) (s_nil))
      (s_cons (s_ret (e_and (e_cmpC (c_eq rfl hu) (e_cb (b_len rfl) rfl T.bl_len rfl (a_cons (pv 0) a_nil) (od_v od_n)) (e_cb (b_len rfl) rfl T.bl_len rfl (a_cons (pv 1) a_nil) (od_v od_n)) rfl (od_e (od_e od_n))) (pe_one (e_cb (b_all rfl rfl) rfl T.bl_all rfl (a_cons (e_comp (own := [("_law_k", 2)]) rfl nd (i_range1 rfl T.bl_range (e_cb (b_len rfl) rfl T.bl_len rfl (a_cons (pv 1) a_nil) (od_v od_n)) (od_e od_n) rfl) (blkOk_by (N := N__law_same) (by kernel_rfl)) (fun _ _ _ _ _ => g_name (pg_name (i := 2) nd rfl (by first | exact Or.inl rfl | exact Or.inr rfl)) rfl) (fun _ _ _ _ _ => ts_nil) (fun _ _ _ _ _ => e_call (fo__law_same.mono (by omega)) (kok__law_same _) hr rfl T.gl__law_same kp__law_same b__law_same .nil pass0 (fun _ _ => reps_nil') rfl (by decide) (a_cons (e_pth (pt_ix rfl (pt_var (pv 0)) (sm_var (pv 2)) (fun _ _ => rfl))) (a_cons (e_pth (pt_ix rfl (pt_var (pv 1)) (sm_var (pv 2)) (fun _ _ => rfl))) a_nil)) (od_e (od_e od_n))) (fun _ => rfl)) a_nil) (od_e od_n)))))
      (s_nil))) (s_nil))
      (s_cons (s_if (PW.pt (w_or (t_cmpC (c_ne rfl hu) (e_isi rfl isi_bool rfl T.bl_isinstance rfl rfl T.bl_bool rfl (pv 0) (od_v od_n)) (e_isi rfl isi_bool rfl T.bl_isinstance rfl rfl T.bl_bool rfl (pv 1) (od_v od_n)) rfl (od_e (od_e od_n))) (pw_or1 (t_cmpC (c_ne rfl hu) (e_isi rfl isi_str rfl T.bl_isinstance rfl rfl T.bl_str rfl (pv 0) (od_v od_n)) (e_isi rfl isi_str rfl T.bl_isinstance rfl rfl T.bl_str rfl (pv 1) (od_v od_n)) rfl (od_e (od_e od_n)))))) (s_cons (s_ret (e_con (.bl false) pe_bl (fun _ _ => rep_bl _)))
      (s_nil)) (s_nil))
      (s_cons (s_ret (e_and (e_cmpC (c_eq rfl hu) (e_isi rfl isi_int rfl T.bl_isinstance rfl rfl T.bl_int rfl (pv 0) (od_v od_n)) (e_isi rfl isi_int rfl T.bl_isinstance rfl rfl T.bl_int rfl (pv 1) (od_v od_n)) rfl (od_e (od_e od_n))) (pe_one (e_cmpC (c_eq rfl hu) (pv 0) (pv 1) rfl (od_v (od_v od_n))))))
      (s_nil)))))
theorem sc_law : FnScope N_law ["_law_script"] (defScope (top 57)) := ⟨rfl, rfl, rfl, by decide +kernel, rfl, by decide +kernel, by decide +kernel⟩
theorem ok_law (T : Tops K mg) (c__law_box : Ok__law_box P w K mg base) (c__law_big_story : Ok__law_big_story P w K mg base) (c__law_forth : Ok__law_forth P w K mg base) (c_forth : Ok_forth P w K mg base) (c__law_same : Ok__law_same P w K mg base 5) (c_last_beat : Ok_last_beat P w K mg base) : Ok_law P w K mg base := by
  obtain ⟨⟨fd__law_box, fo__law_box, b__law_box⟩, kp__law_box⟩ := c__law_box
  obtain ⟨⟨fd__law_big_story, fo__law_big_story, b__law_big_story⟩, kp__law_big_story⟩ := c__law_big_story
  obtain ⟨⟨fd__law_forth, fo__law_forth, b__law_forth⟩, kp__law_forth⟩ := c__law_forth
  obtain ⟨⟨fd_forth, fo_forth, b_forth⟩, kp_forth⟩ := c_forth
  obtain ⟨⟨fd__law_same, fo__law_same, b__law_same⟩, kp__law_same⟩ := c__law_same
  obtain ⟨⟨fd_last_beat, fo_last_beat, b_last_beat⟩, kp_last_beat⟩ := c_last_beat
  obtain ⟨fd, FD⟩ := T.s.def_ 52 (d := fn_52) rfl
  refine ⟨fd, FD, fn_rm (W := fun i => decide (0 ≤ i)) (m := (M_law)) (N := N_law) (j := 9) FD sc_law rfl (by decide) (fun i hi => decide_eq_false (by omega)) (fun cdv A outer s H E hr => PSs.nox ?_)⟩
  have nd : N_law.Nodup := sc_law.nd
  have hu := hr.units
  have hu1 : (A.deeper (PyProof.Rows.envOfC fn_52.qual fn_52.scope s.heap.objs.size (He.fAd K ("law", none)) cdv)).units + 1 < cLine := by have := hr.units; omega
  unfold M_law S_law_4 S_law_3 B_law_2 B_law_1 S_law_0
  exact (s_cons (s_asg (e_call (fo__law_box.mono (by omega)) kok_fn hr rfl T.gl__law_box kp__law_box b__law_box .nil pass0 (fun _ _ => reps_nil') rfl (by decide) (a_cons (e_var 0 (pv 0)) a_nil) (od_e od_n)) (g_name (pg_name (i := 1) nd rfl (by first | exact Or.inl rfl | exact Or.inr rfl)) rfl) rfl rfl rfl)
    (s_cons (s_for PassesOwn.never rfl (i_range1 rfl T.bl_range (e_con (.int 4) pe_int (fun _ _ => rep_int _)) (od_e od_n) rfl) (g_name (pg_name (i := 2) nd rfl (by first | exact Or.inl rfl | exact Or.inr rfl)) rfl) (s_cons (s_asg (e_call (fo__law_big_story.mono (by omega)) kok_fn hr rfl T.gl__law_big_story kp__law_big_story b__law_big_story .nil pass0 (fun _ _ => reps_nil') rfl (by decide) (a_cons (pv 1) (a_cons (e_con (.int 24) pe_int (fun _ _ => rep_int _)) a_nil)) (od_v (od_e od_n))) (g_tup rfl rfl (g_cons (g_name (pg_name (i := 3) nd rfl (by first | exact Or.inl rfl | exact Or.inr rfl)) rfl) (g_cons (g_name (pg_name (i := 4) nd rfl (by first | exact Or.inl rfl | exact Or.inr rfl)) rfl) (g_cons (g_name (pg_name (i := 5) nd rfl (by first | exact Or.inl rfl | exact Or.inr rfl)) rfl) (g_nil) rfl) rfl) rfl) rfl rfl) rfl rfl rfl)
    (s_cons (s_asg (e_call (fo__law_forth.mono (by omega)) kok_fn hr rfl T.gl__law_forth kp__law_forth b__law_forth .nil pass0 (fun _ _ => reps_nil') rfl (by decide) (a_cons (e_var 3 (pv 3)) (a_cons (e_var 5 (pv 5)) a_nil)) (od_e (od_e od_n))) (g_name (pg_name (i := 6) nd rfl (by first | exact Or.inl rfl | exact Or.inr rfl)) rfl) rfl rfl rfl)
    (s_cons (s_for PassesOwn.never rfl (i_range1 rfl T.bl_range (e_con (.int 2) pe_int (fun _ _ => rep_int _)) (od_e od_n) rfl) (g_name (pg_name (i := 7) nd rfl (by first | exact Or.inl rfl | exact Or.inr rfl)) rfl) (s_cons (s_asg (e_call (fo_forth.mono (by omega)) kok_fn hr rfl T.gl_forth kp_forth b_forth .nil pass0 (fun _ _ => reps_nil') rfl (by decide) (a_cons (e_var 4 (pv 4)) (a_cons (e_var 5 (pv 5)) a_nil)) (od_e (od_e od_n))) (g_name (pg_name (i := 8) nd rfl (by first | exact Or.inl rfl | exact Or.inr rfl)) rfl) rfl rfl rfl)
    (s_cons (s_if (PW.pt (w_or (t_not (t_val (e_call (fo__law_same.mono (by omega)) (kok__law_same _) hr rfl T.gl__law_same kp__law_same b__law_same .nil pass0 (fun _ _ => reps_nil') rfl (by decide) (a_cons (pv 8) (a_cons (e_var 6 (pv 6)) a_nil)) (od_v (od_e od_n))) (fun _ => rfl))) (pw_or1 (t_not (t_val (e_call (fo__law_same.mono (by omega)) (kok__law_same _) hr rfl T.gl__law_same kp__law_same b__law_same .nil pass0 (fun _ _ => reps_nil') rfl (by decide) (a_cons (e_call (fo_last_beat.mono (by omega)) kok_fn hr rfl T.gl_last_beat kp_last_beat b_last_beat .nil pass0 (fun _ _ => reps_nil') rfl (by decide) (a_cons (e_var 5 (pv 5)) a_nil) (od_e od_n)) (a_cons (e_cb (b_len rfl) rfl T.bl_len rfl (a_cons (e_pth (pt_ix rfl (pt_var (pv 5)) (sm_con pe_int (fun _ _ => rep_int _)) (fun _ _ => rfl))) a_nil) (od_e od_n)) a_nil)) (od_e (od_e od_n))) (fun _ => rfl)))))) (s_cons (s_ret (e_con (.bl false) pe_bl (fun _ _ => rep_bl _)))
    (s_nil)) (s_nil))
    (s_cons (s_expr (e_metV lm_app PySem.F.slot_list_append PySem.F.type_list_append mt_append (pv 8) (by exact (a_cons (e_tup (by decide) (by exact a_nil)) a_nil))) rfl)
    (s_cons (s_asg (e_tup (by decide) (by exact (a_cons (e_con (.int 0) pe_int (fun _ _ => rep_int _)) (a_cons (e_con (.int 1) pe_int (fun _ _ => rep_int _)) a_nil)))) (g_setL (pt_var (pv 8)) (sm_con pe_int (fun _ _ => rep_int _)) (fun _ => rfl)) rfl rfl rfl)
    (s_nil))))) (fun _ => rfl))
    (s_nil)))) (fun _ => rfl))
    (s_cons (s_ret (e_con (.bl true) pe_bl (fun _ _ => rep_bl _)))
    (s_nil))))
end
end K11
set_option Elab.async false
set_option linter.all false
set_option maxRecDepth 100000
set_option maxHeartbeats 0
namespace K11
open PySem PySem.Spec PyProof.Rows L2
abbrev RW : PySem.W.OpenRow := PySem.W.OpenLaw.row PySem.Challenge.rw_roamlook_k11_lots_forth
def loose0 : List PySem.Str := ["_wall", "RoamError", "Missing", "BadMany", "BadWay", "BadStory", "NoPlace", "MOST_PLACES", "is_number", "spans_from", "is_whole", "Board", "MOST_PACE", "MOST_BEATS", "is_lot"]
def loose1 : List PySem.Str := ["is_pace", "stepped", "are_parts", "is_look", "answer_at", "MOST_TRIPLES", "are_seen", "look_story", "last_beat", "in_both", "answering", "open_lots", "forth_of", "forth", "_law_box"]
def loose2 : List PySem.Str := ["_law_pick", "_law_from", "_law_mixed", "_law_same", "_law_ways", "_law_board", "_law_made", "_law_spans", "_law_pace", "_law_reached", "_law_lot", "_law_start", "_law_look", "_law_answer", "_law_seen"]
def loose3 : List PySem.Str := ["_law_story", "_law_ground", "_law_open", "_law_both", "_law_forth", "_law_big_story"]
def loose : List PySem.Str := loose0 ++ loose1 ++ loose2 ++ loose3
abbrev hk : PySem.W.Hook := He.hookD 6 fa fn
def ob (s : PySem.W.SharedT) : He.AlD := He.obsDG 6 fa fn (HandSHeadRun.getT s)
theorem ob_eq (s : PySem.W.SharedT) : ob s = hk.obs s.abs := He.obsDG_eq (HandSHeadRun.getT_eq s)
theorem run (w : World) : HandSHeadRun.RunEq RW (PySem.W.view RW.prog [57]) hk ob 6000 loose w := by
  intro os
  kernel_rfl
theorem tops {K : PySem.W.Frag} {h : Heap} {mg : PySem.Str → Option Value} (X : K.In h) (G : h.Ns mainGlobals mg) (c : He.SaysD fa fn K) : Tops K mg where
  s := c
  bl_abs := He.free_ok X G (c.fact 0 (f := .free "abs") rfl)
  bl_all := He.free_ok X G (c.fact 1 (f := .free "all") rfl)
  bl_any := He.free_ok X G (c.fact 2 (f := .free "any") rfl)
  bl_bool := He.free_ok X G (c.fact 3 (f := .free "bool") rfl)
  bl_enumerate := He.free_ok X G (c.fact 4 (f := .free "enumerate") rfl)
  bl_int := He.free_ok X G (c.fact 5 (f := .free "int") rfl)
  bl_isinstance := He.free_ok X G (c.fact 6 (f := .free "isinstance") rfl)
  bl_len := He.free_ok X G (c.fact 7 (f := .free "len") rfl)
  bl_list := He.free_ok X G (c.fact 8 (f := .free "list") rfl)
  bl_max := He.free_ok X G (c.fact 9 (f := .free "max") rfl)
  bl_min := He.free_ok X G (c.fact 10 (f := .free "min") rfl)
  bl_range := He.free_ok X G (c.fact 11 (f := .free "range") rfl)
  bl_set := He.free_ok X G (c.fact 12 (f := .free "set") rfl)
  bl_sorted := He.free_ok X G (c.fact 13 (f := .free "sorted") rfl)
  bl_str := He.free_ok X G (c.fact 14 (f := .free "str") rfl)
  bl_tuple := He.free_ok X G (c.fact 15 (f := .free "tuple") rfl)
  bl_zip := He.free_ok X G (c.fact 16 (f := .free "zip") rfl)
  c_MOST_PLACES := He.int_ok X G (c.fact 17 (f := .int "MOST_PLACES" 8) rfl)
  c_MOST_PACE := He.int_ok X G (c.fact 18 (f := .int "MOST_PACE" 7) rfl)
  c_MOST_BEATS := He.int_ok X G (c.fact 19 (f := .int "MOST_BEATS" 12) rfl)
  c_MOST_TRIPLES := He.int_ok X G (c.fact 20 (f := .int "MOST_TRIPLES" 24) rfl)
  gl__law_box := He.glo_ok X G (c.fact 21 (f := .glo "_law_box") rfl)
  gl__law_pick := He.glo_ok X G (c.fact 22 (f := .glo "_law_pick") rfl)
  gl__law_mixed := He.glo_ok X G (c.fact 23 (f := .glo "_law_mixed") rfl)
  gl__law_ways := He.glo_ok X G (c.fact 24 (f := .glo "_law_ways") rfl)
  gl__law_board := He.glo_ok X G (c.fact 25 (f := .glo "_law_board") rfl)
  gl__law_spans := He.glo_ok X G (c.fact 26 (f := .glo "_law_spans") rfl)
  gl_is_whole := He.glo_ok X G (c.fact 27 (f := .glo "is_whole") rfl)
  gl_is_number := He.glo_ok X G (c.fact 28 (f := .glo "is_number") rfl)
  gl_spans_from := He.glo_ok X G (c.fact 29 (f := .glo "spans_from") rfl)
  gl__law_made := He.glo_ok X G (c.fact 30 (f := .glo "_law_made") rfl)
  gl__law_ground := He.glo_ok X G (c.fact 31 (f := .glo "_law_ground") rfl)
  gl__law_lot := He.glo_ok X G (c.fact 32 (f := .glo "_law_lot") rfl)
  gl__law_start := He.glo_ok X G (c.fact 33 (f := .glo "_law_start") rfl)
  gl__law_from := He.glo_ok X G (c.fact 34 (f := .glo "_law_from") rfl)
  gl__law_pace := He.glo_ok X G (c.fact 35 (f := .glo "_law_pace") rfl)
  gl__law_reached := He.glo_ok X G (c.fact 36 (f := .glo "_law_reached") rfl)
  gl__law_look := He.glo_ok X G (c.fact 37 (f := .glo "_law_look") rfl)
  gl__law_answer := He.glo_ok X G (c.fact 38 (f := .glo "_law_answer") rfl)
  gl__law_seen := He.glo_ok X G (c.fact 39 (f := .glo "_law_seen") rfl)
  gl__law_story := He.glo_ok X G (c.fact 40 (f := .glo "_law_story") rfl)
  gl__law_big_story := He.glo_ok X G (c.fact 41 (f := .glo "_law_big_story") rfl)
  gl__law_open := He.glo_ok X G (c.fact 42 (f := .glo "_law_open") rfl)
  gl__law_both := He.glo_ok X G (c.fact 43 (f := .glo "_law_both") rfl)
  gl__law_forth := He.glo_ok X G (c.fact 44 (f := .glo "_law_forth") rfl)
  gl_is_lot := He.glo_ok X G (c.fact 45 (f := .glo "is_lot") rfl)
  gl_is_pace := He.glo_ok X G (c.fact 46 (f := .glo "is_pace") rfl)
  gl_are_parts := He.glo_ok X G (c.fact 47 (f := .glo "are_parts") rfl)
  gl_is_look := He.glo_ok X G (c.fact 48 (f := .glo "is_look") rfl)
  gl_are_seen := He.glo_ok X G (c.fact 49 (f := .glo "are_seen") rfl)
  gl_look_story := He.glo_ok X G (c.fact 50 (f := .glo "look_story") rfl)
  gl_last_beat := He.glo_ok X G (c.fact 51 (f := .glo "last_beat") rfl)
  gl_in_both := He.glo_ok X G (c.fact 52 (f := .glo "in_both") rfl)
  gl_answer_at := He.glo_ok X G (c.fact 53 (f := .glo "answer_at") rfl)
  gl_answering := He.glo_ok X G (c.fact 54 (f := .glo "answering") rfl)
  gl_open_lots := He.glo_ok X G (c.fact 55 (f := .glo "open_lots") rfl)
  gl_stepped := He.glo_ok X G (c.fact 56 (f := .glo "stepped") rfl)
  gl_forth_of := He.glo_ok X G (c.fact 57 (f := .glo "forth_of") rfl)
  gl_forth := He.glo_ok X G (c.fact 58 (f := .glo "forth") rfl)
  gl__law_same := He.glo_ok X G (c.fact 59 (f := .glo "_law_same") rfl)
  gl_law := He.glo_ok X G (c.fact 60 (f := .glo "law") rfl)
  cls_Board := He.cls_ok (c.fact 61 (f := .cls "Board") rfl)
  mk_Board := He.mkr_ok (c.fact 62 (f := .mkr "Board") rfl)
  gc_Board := He.glo_ok X G (c.fact 63 (f := .glo "Board") rfl)
  me_Board___init__ := He.meth_ok (c.fact 64 (f := .meth "Board" "__init__") rfl)
  me_Board___len__ := He.meth_ok (c.fact 65 (f := .meth "Board" "__len__") rfl)
  me_Board_need := He.meth_ok (c.fact 66 (f := .meth "Board" "need") rfl)
  me_Board_far := He.meth_ok (c.fact 67 (f := .meth "Board" "far") rfl)
  me_Board_within := He.meth_ok (c.fact 68 (f := .meth "Board" "within") rfl)
  na_Board_roads := He.noat_ok (c.fact 69 (f := .noat "Board" "roads") rfl)
  na_Board_room := He.noat_ok (c.fact 70 (f := .noat "Board" "room") rfl)
  na_Board_spans := He.noat_ok (c.fact 71 (f := .noat "Board" "spans") rfl)
theorem ok_all {P : Program} {w : World} {K : PySem.W.Frag} {mg : PySem.Str → Option Value} {base : Heap} (T : Tops K mg) : Ok_law P w K mg base := by
  have c__law_box : Ok__law_box P w K mg base := ok__law_box T 
  have c__law_pick : Ok__law_pick P w K mg base := ok__law_pick T 
  have c__law_mixed : Ok__law_mixed P w K mg base := ok__law_mixed T c__law_pick
  have c__law_ways : Ok__law_ways P w K mg base := ok__law_ways T c__law_pick c__law_mixed
  have c__law_board : Ok__law_board P w K mg base := ok__law_board T c__law_pick c__law_ways
  have c__law_spans : Ok__law_spans P w K mg base := ok__law_spans T 
  have c_is_whole : Ok_is_whole P w K mg base := ok_is_whole T 
  have c_is_number : Ok_is_number P w K mg base := ok_is_number T c_is_whole
  have c_spans_from : Ok_spans_from P w K mg base := ok_spans_from T 
  have c_Board___init__ : Ok_Board___init__ P w K mg base := ok_Board___init__ T c_is_number c_spans_from
  have c__law_made : Ok__law_made P w K mg base := ok__law_made T c_Board___init__
  have c__law_ground : Ok__law_ground P w K mg base := ok__law_ground T c__law_board c__law_spans c__law_made
  have c__law_lot : Ok__law_lot P w K mg base := ok__law_lot T c__law_pick
  have c__law_start : Ok__law_start P w K mg base := ok__law_start T c__law_lot c__law_pick
  have c__law_from : Ok__law_from P w K mg base := ok__law_from T c__law_pick
  have c__law_pace : Ok__law_pace P w K mg base := ok__law_pace T c__law_pick c__law_from
  have c__law_reached : Ok__law_reached P w K mg base := ok__law_reached T 
  have c__law_look : Ok__law_look P w K mg base := ok__law_look T c__law_pick c__law_lot c__law_from c__law_mixed
  have c__law_answer : Ok__law_answer P w K mg base := ok__law_answer T 
  have c__law_seen : Ok__law_seen P w K mg base := ok__law_seen T c__law_pick c__law_look c__law_answer
  have c__law_story : Ok__law_story P w K mg base := ok__law_story T c__law_start c__law_pace c__law_from c__law_reached c__law_seen
  have c__law_big_story : Ok__law_big_story P w K mg base := ok__law_big_story T c__law_ground c__law_story c__law_from c__law_pick
  have c__law_open : Ok__law_open P w K mg base := ok__law_open T c__law_answer
  have c__law_both : Ok__law_both P w K mg base := ok__law_both T 
  have c__law_forth : Ok__law_forth P w K mg base := ok__law_forth T c__law_open c__law_both c__law_reached
  have c_Board___len__ : Ok_Board___len__ P w K mg base := ok_Board___len__ T 
  have c_is_lot : Ok_is_lot P w K mg base := ok_is_lot T c_is_number c_Board___len__
  have c_is_pace : Ok_is_pace P w K mg base := ok_is_pace T c_Board___len__ c_is_number
  have c_are_parts : Ok_are_parts P w K mg base := ok_are_parts T c_is_lot c_Board___len__
  have c_is_look : Ok_is_look P w K mg base := ok_is_look T c_is_lot c_are_parts c_is_number c_Board___len__
  have c_are_seen : Ok_are_seen P w K mg base := ok_are_seen T c_is_number c_is_whole c_is_look
  have c_look_story : Ok_look_story P w K mg base := ok_look_story T c_is_lot c_is_pace c_are_seen
  have c_last_beat : Ok_last_beat P w K mg base := ok_last_beat T 
  have c_in_both : Ok_in_both P w K mg base := ok_in_both T 
  have c_Board_need : Ok_Board_need P w K mg base := ok_Board_need T c_is_number
  have c_Board_far : Ok_Board_far P w K mg base := ok_Board_far T c_Board_need
  have c_answer_at : Ok_answer_at P w K mg base := ok_answer_at T c_Board_far
  have c_answering : Ok_answering P w K mg base := ok_answering T c_Board___len__ c_answer_at
  have c_open_lots : Ok_open_lots P w K mg base := ok_open_lots T c_Board___len__ c_last_beat c_in_both c_answering
  have c_Board_within : Ok_Board_within P w K mg base := ok_Board_within T c_Board_need
  have c_stepped : Ok_stepped P w K mg base := ok_stepped T c_Board_within
  have c_forth_of : Ok_forth_of P w K mg base := ok_forth_of T c_open_lots c_in_both c_stepped
  have c_forth : Ok_forth P w K mg base := ok_forth T c_look_story c_forth_of
  have c__law_same : Ok__law_same P w K mg base 5 := ok__law_same T  5
  have c_law : Ok_law P w K mg base := ok_law T c__law_box c__law_big_story c__law_forth c_forth c__law_same c_last_beat
  exact c_law
end K11
set_option Elab.async false
set_option linter.all false
set_option maxRecDepth 100000
set_option maxHeartbeats 4000000
namespace K11
open PySem L2 Rm
theorem whole_int (i : Int) : F_is_whole [.int i] = some (.bl true, []) := by
  simp [F_is_whole, M_is_whole, dFn, dEnd, allS, dSeq, dNx, dRet, dRetV, dRetN, dExpr, dIfS, dAsg, dFor, gN, gTp, gsCons, gsNil, dStop, dBk, dCt, dPar, dC, dV, dQ, qC, qV, qP, qNeg, qOp, dPth, dOp, evOps, dT, dAndT, dOrT, dNotT, dAnd, dOr, dNot, dIf, dCh, oII, hAdd, hSub, hMul, hMod, hDiv, hPow, hLt, hLe, hGt, hGe, a_oLt, a_oLe, a_oGt, a_oGe, a_oAdd, a_oSub, a_oMul, a_oMod, a_oDiv, a_oPow, a_oEq, a_oNe, oEqF, eqF, orF, oIsN, isNo, oIn, inD, rowOf, oNeg, oIsi, oIsi2, isI, isB, isS, isT, isL, oLen, oInt, oAbs, a_oMin2, a_oMax2, oMin3, dTup, dLst, dFz, frz, frzs, noOwn, noOwns, dCall, dCallEnd, lendD, backE, dMethV, isC, dMake, dLenO, kids, withKids, posS, getS, getP, putP, getR, putR, rV, rIxP, rKeyP, rFld, idxD, putFd, dFldS, mSeq, shr, mZip2, mEnum, dYes, isF, sv, List.replicate, Option.map, gSetK, gSetL, gSetT, putKD, Rm.keyOf, keysOf, qK, evQ, dMetV, dMetP, lmEnd, lmApp, lmIns, lmPopAt, dNil, dInT]
theorem num_int (i a b : Int) : F_is_number [.int i, .int a, .int b] = some (.bl (decide (a ≤ i) && decide (i ≤ b)), []) := by
  by_cases h : a ≤ i <;> simp [F_is_number, M_is_number, whole_int, h, dFn, dEnd, allS, dSeq, dNx, dRet, dRetV, dRetN, dExpr, dIfS, dAsg, dFor, gN, gTp, gsCons, gsNil, dStop, dBk, dCt, dPar, dC, dV, dQ, qC, qV, qP, qNeg, qOp, dPth, dOp, evOps, dT, dAndT, dOrT, dNotT, dAnd, dOr, dNot, dIf, dCh, oII, hAdd, hSub, hMul, hMod, hDiv, hPow, hLt, hLe, hGt, hGe, a_oLt, a_oLe, a_oGt, a_oGe, a_oAdd, a_oSub, a_oMul, a_oMod, a_oDiv, a_oPow, a_oEq, a_oNe, oEqF, eqF, orF, oIsN, isNo, oIn, inD, rowOf, oNeg, oIsi, oIsi2, isI, isB, isS, isT, isL, oLen, oInt, oAbs, a_oMin2, a_oMax2, oMin3, dTup, dLst, dFz, frz, frzs, noOwn, noOwns, dCall, dCallEnd, lendD, backE, dMethV, isC, dMake, dLenO, kids, withKids, posS, getS, getP, putP, getR, putR, rV, rIxP, rKeyP, rFld, idxD, putFd, dFldS, mSeq, shr, mZip2, mEnum, dYes, isF, sv, List.replicate, Option.map, gSetK, gSetL, gSetT, putKD, Rm.keyOf, keysOf, qK, evQ, dMetV, dMetP, lmEnd, lmApp, lmIns, lmPopAt, dNil, dInT]
end K11
set_option Elab.async false
set_option linter.all false
set_option maxRecDepth 100000
set_option maxHeartbeats 4000000
namespace K11
open PySem L2 Rm
/-! ### rows of ints as data -/
theorem toPs_ints : ∀ ns : List Int, toPs (ns.map D.int) = some (ns.map PyData.int)
  | [] => rfl
  | n :: ns => by show toPs (D.int n :: ns.map D.int) = _; simp [toPs, toP, toPs_ints ns]
theorem lay_ints : ∀ ns : List Int, PyData.canLayAll0 (ns.map PyData.int) = true
  | [] => rfl
  | n :: ns => by simp [PyData.canLayAll0, PyData.canLay0, lay_ints ns]
theorem dep_ints : ∀ ns : List Int, PyData.depthAll (ns.map PyData.int) = 0
  | [] => rfl
  | n :: ns => by simp [PyData.depthAll, PyData.depth, dep_ints ns]
theorem shp_ints (ns : List Int) : SeqAt.shaped (.list (ns.map PyData.int)) = true := by simp [SeqAt.shaped, PyData.canLay0, PyData.depth, lay_ints, dep_ints]
theorem shp_tints (ns : List Int) : SeqAt.shaped (.tuple (ns.map PyData.int)) = true := by simp [SeqAt.shaped, PyData.canLay0, PyData.depth, lay_ints, dep_ints]
theorem shp_nil : SeqAt.shaped (.list []) = true := shp_ints []
theorem shp_tnil : SeqAt.shaped (.tuple []) = true := shp_tints []
theorem eqv_nil : ∀ ns : List Int, PyData.eqv (.list (ns.map PyData.int)) (.list []) = ns.isEmpty
  | [] => rfl
  | n :: ns => rfl
theorem eqv_tnil : ∀ ns : List Int, PyData.eqv (.tuple (ns.map PyData.int)) (.tuple []) = ns.isEmpty
  | [] => rfl
  | n :: ns => rfl
theorem eqv_ints : ∀ ns ms : List Int, PyData.eqvAll (ns.map PyData.int) (ms.map PyData.int) = decide (ns = ms)
  | [], [] => rfl
  | [], m :: ms => rfl
  | n :: ns, [] => rfl
  | n :: ns, m :: ms => by
    have e : (n == m) = decide (n = m) := rfl
    simp [PyData.eqvAll, PyData.eqv, eqv_ints ns ms, e]
theorem no_ints : ∀ ns : List Int, noOwns (ns.map D.int) = true
  | [] => rfl
  | n :: ns => by show noOwns (D.int n :: ns.map D.int) = true; simp [noOwns, noOwn, no_ints ns]
/-! ### the box -/
def kB : List Key := [.inr "cells", .inr "rest", .inr "seed", .inr "turn"]
def bx (c : List Int) (r s t : Int) : D := .dct true (.k kB) [.lst true (c.map .int), .int r, .int s, .int t]
theorem i_cells : idxD (Sum.inr (Str.ofString "cells") : Key) kB = some 0 := by decide +kernel
theorem i_rest : idxD (Sum.inr (Str.ofString "rest") : Key) kB = some 1 := by decide +kernel
theorem i_seed : idxD (Sum.inr (Str.ofString "seed") : Key) kB = some 2 := by decide +kernel
theorem i_turn : idxD (Sum.inr (Str.ofString "turn") : Key) kB = some 3 := by decide +kernel
theorem kB_nd : kB.Nodup := by decide +kernel
theorem kB_len : kB.length = 4 := rfl
def Bx (d : D) : Prop := ∃ c r s t, d = bx c r s t ∧ c.length ≤ 63 ∧ 0 ≤ r ∧ (0 ≤ s ∧ s < 2147483629)
def pE (c : List Int) (r s t m : Int) (x y z : Option D) : Rm.Env := [some (bx c r s t), some (.int m), x, y, z]
theorem pick_0 {c : List Int} {r s t m : Int} (hc : c.length ≤ 63) (hr : 0 ≤ r) (hs : 0 ≤ s ∧ s < 2147483629) : ∃ c' r' s' x, S__law_pick_0 (pE c r s t m none none none) = some (.nx (pE c' r' s' t m x none none)) ∧ c'.length ≤ 63 ∧ 0 ≤ r' ∧ (0 ≤ s' ∧ s' < 2147483629) := by
  by_cases h0 : r = 0
  · cases c with
    | nil => exact ⟨[], r, s, none, by simp [S__law_pick_0, pE, bx, h0, dFn, dEnd, allS, dSeq, dNx, dRet, dRetV, dRetN, dExpr, dIfS, dAsg, dFor, gN, gTp, gsCons, gsNil, dStop, dBk, dCt, dPar, dC, dV, dQ, qC, qV, qP, qNeg, qOp, dPth, dOp, evOps, dT, dAndT, dOrT, dNotT, dAnd, dOr, dNot, dIf, dCh, oII, hAdd, hSub, hMul, hMod, hDiv, hPow, hLt, hLe, hGt, hGe, a_oLt, a_oLe, a_oGt, a_oGe, a_oAdd, a_oSub, a_oMul, a_oMod, a_oDiv, a_oPow, a_oEq, a_oNe, oEqF, eqF, orF, oIsN, isNo, oIn, inD, rowOf, oNeg, oIsi, oIsi2, isI, isB, isS, isT, isL, oLen, oInt, oAbs, a_oMin2, a_oMax2, oMin3, dTup, dLst, dFz, frz, frzs, noOwn, noOwns, dCall, dCallEnd, lendD, backE, dMethV, isC, dMake, dLenO, kids, withKids, posS, getS, getP, putP, getR, putR, rV, rIxP, rKeyP, rFld, idxD, putFd, dFldS, mSeq, shr, mZip2, mEnum, dYes, isF, sv, List.replicate, Option.map, gSetK, gSetL, gSetT, putKD, Rm.keyOf, keysOf, qK, evQ, dMetV, dMetP, lmEnd, lmApp, lmIns, lmPopAt, dNil, dInT, i_rest, i_cells, toPs, shp_nil, show PyData.eqv (.list []) (.list []) = true from rfl], hc, hr, hs⟩
    | cons a c' =>
      refine ⟨c', (if a - 10 ^ 18 > 0 then a - 10 ^ 18 else 0), ((s * 69069 + a % 1000003 * 8191 + 1) % 2147483629), some (.int a), ?_, by simp at hc; omega, by split <;> omega, Int.emod_nonneg _ (by decide), Int.emod_lt_of_pos _ (by decide)⟩
      have e1 : toPs (D.int a :: c'.map D.int) = some ((a :: c').map PyData.int) := toPs_ints (a :: c')
      have e2 := eqv_nil (a :: c')
      have e3 := shp_ints (a :: c')
      have ez : ixN (c'.length + 1) 0 = some 0 := by unfold ixN; rw [if_pos (by decide), if_pos (by omega)]; rfl
      simp only [List.map_cons, List.isEmpty_cons] at e1 e2 e3
      simp [S__law_pick_0, pE, bx, h0, dFn, dEnd, allS, dSeq, dNx, dRet, dRetV, dRetN, dExpr, dIfS, dAsg, dFor, gN, gTp, gsCons, gsNil, dStop, dBk, dCt, dPar, dC, dV, dQ, qC, qV, qP, qNeg, qOp, dPth, dOp, evOps, dT, dAndT, dOrT, dNotT, dAnd, dOr, dNot, dIf, dCh, oII, hAdd, hSub, hMul, hMod, hDiv, hPow, hLt, hLe, hGt, hGe, a_oLt, a_oLe, a_oGt, a_oGe, a_oAdd, a_oSub, a_oMul, a_oMod, a_oDiv, a_oPow, a_oEq, a_oNe, oEqF, eqF, orF, oIsN, isNo, oIn, inD, rowOf, oNeg, oIsi, oIsi2, isI, isB, isS, isT, isL, oLen, oInt, oAbs, a_oMin2, a_oMax2, oMin3, dTup, dLst, dFz, frz, frzs, noOwn, noOwns, dCall, dCallEnd, lendD, backE, dMethV, isC, dMake, dLenO, kids, withKids, posS, getS, getP, putP, getR, putR, rV, rIxP, rKeyP, rFld, idxD, putFd, dFldS, mSeq, shr, mZip2, mEnum, dYes, isF, sv, List.replicate, Option.map, gSetK, gSetL, gSetT, putKD, Rm.keyOf, keysOf, qK, evQ, dMetV, dMetP, lmEnd, lmApp, lmIns, lmPopAt, dNil, dInT, i_rest, i_cells, i_seed, kB_nd, kB_len, e1, e2, e3, shp_nil, ez, show c'.length + 1 ≤ 100000 by simp at hc; omega]
  · exact ⟨c, r, s, none, by simp [S__law_pick_0, pE, bx, h0, dFn, dEnd, allS, dSeq, dNx, dRet, dRetV, dRetN, dExpr, dIfS, dAsg, dFor, gN, gTp, gsCons, gsNil, dStop, dBk, dCt, dPar, dC, dV, dQ, qC, qV, qP, qNeg, qOp, dPth, dOp, evOps, dT, dAndT, dOrT, dNotT, dAnd, dOr, dNot, dIf, dCh, oII, hAdd, hSub, hMul, hMod, hDiv, hPow, hLt, hLe, hGt, hGe, a_oLt, a_oLe, a_oGt, a_oGe, a_oAdd, a_oSub, a_oMul, a_oMod, a_oDiv, a_oPow, a_oEq, a_oNe, oEqF, eqF, orF, oIsN, isNo, oIn, inD, rowOf, oNeg, oIsi, oIsi2, isI, isB, isS, isT, isL, oLen, oInt, oAbs, a_oMin2, a_oMax2, oMin3, dTup, dLst, dFz, frz, frzs, noOwn, noOwns, dCall, dCallEnd, lendD, backE, dMethV, isC, dMake, dLenO, kids, withKids, posS, getS, getP, putP, getR, putR, rV, rIxP, rKeyP, rFld, idxD, putFd, dFldS, mSeq, shr, mZip2, mEnum, dYes, isF, sv, List.replicate, Option.map, gSetK, gSetL, gSetT, putKD, Rm.keyOf, keysOf, qK, evQ, dMetV, dMetP, lmEnd, lmApp, lmIns, lmPopAt, dNil, dInT, i_rest], hc, hr, hs⟩
theorem pick_ok {b : D} {m : Int} (hb : Bx b) (h1 : 1 ≤ m) (h2 : m < 1000000) : ∃ v b', F__law_pick [b, .int m] = some (.int v, [b']) ∧ Bx b' ∧ 0 ≤ v ∧ v < m := by
  obtain ⟨c0, r0, s0, t, rfl, hc0, hr0, hs0⟩ := hb
  obtain ⟨c, r, s, x, e0, hc, hr, hs⟩ := pick_0 (t := t) (m := m) hc0 hr0 hs0
  have hm0 : 0 < m := by omega
  have ef : F__law_pick [bx c0 r0 s0 t, .int m] = dEnd 1 ((dSeq S__law_pick_1 (dSeq S__law_pick_2 (dSeq S__law_pick_3 (dSeq S__law_pick_4 (dSeq S__law_pick_5 dNx))))) (pE c r s t m x none none)) := by
    show dEnd 1 (M__law_pick (pE c0 r0 s0 t m none none none)) = _
    unfold M__law_pick
    rw [dSeq, e0]
  rw [ef]
  have hx := Int.emod_nonneg (s * 16807 + (t + 1) * 7919 + 3) (show (2147483629 : Int) ≠ 0 by decide)
  have hy := Int.emod_lt_of_pos (s * 16807 + (t + 1) * 7919 + 3) (show (0 : Int) < 2147483629 by decide)
  by_cases h0 : 0 < r
  · refine ⟨r % m, bx c (r / m) s t, ?_, ⟨c, r / m, s, t, rfl, hc, Int.ediv_nonneg hr (by omega), hs⟩, Int.emod_nonneg _ (by omega), Int.emod_lt_of_pos _ hm0⟩
    simp [S__law_pick_1, S__law_pick_2, S__law_pick_3, S__law_pick_4, S__law_pick_5, pE, bx, dFn, dEnd, allS, dSeq, dNx, dRet, dRetV, dRetN, dExpr, dIfS, dAsg, dFor, gN, gTp, gsCons, gsNil, dStop, dBk, dCt, dPar, dC, dV, dQ, qC, qV, qP, qNeg, qOp, dPth, dOp, evOps, dT, dAndT, dOrT, dNotT, dAnd, dOr, dNot, dIf, dCh, oII, hAdd, hSub, hMul, hMod, hDiv, hPow, hLt, hLe, hGt, hGe, a_oLt, a_oLe, a_oGt, a_oGe, a_oAdd, a_oSub, a_oMul, a_oMod, a_oDiv, a_oPow, a_oEq, a_oNe, oEqF, eqF, orF, oIsN, isNo, oIn, inD, rowOf, oNeg, oIsi, oIsi2, isI, isB, isS, isT, isL, oLen, oInt, oAbs, a_oMin2, a_oMax2, oMin3, dTup, dLst, dFz, frz, frzs, noOwn, noOwns, dCall, dCallEnd, lendD, backE, dMethV, isC, dMake, dLenO, kids, withKids, posS, getS, getP, putP, getR, putR, rV, rIxP, rKeyP, rFld, idxD, putFd, dFldS, mSeq, shr, mZip2, mEnum, dYes, isF, sv, List.replicate, Option.map, gSetK, gSetL, gSetT, putKD, Rm.keyOf, keysOf, qK, evQ, dMetV, dMetP, lmEnd, lmApp, lmIns, lmPopAt, dNil, dInT, i_rest, h0, hm0, kB_nd, kB_len, show m < 1073741824 by omega]
  · generalize hq : (s * 16807 + (t + 1) * 7919 + 3) % 2147483629 = q at hx hy
    refine ⟨((q * q + 40692 * q + 11) % 2147483629 / 127 + (q * q + 40692 * q + 11) % 2147483629 % 127 * 4099) % m, bx c r ((q * q + 40692 * q + 11) % 2147483629) (t + 1), ?_, ⟨c, r, _, _, rfl, hc, hr, Int.emod_nonneg _ (by decide), Int.emod_lt_of_pos _ (by decide)⟩, Int.emod_nonneg _ (by omega), Int.emod_lt_of_pos _ hm0⟩
    have g1 : -18446744073709551616 < q ∧ q < 18446744073709551616 := by constructor <;> omega
    simp [S__law_pick_1, S__law_pick_2, S__law_pick_3, S__law_pick_4, S__law_pick_5, pE, bx, dFn, dEnd, allS, dSeq, dNx, dRet, dRetV, dRetN, dExpr, dIfS, dAsg, dFor, gN, gTp, gsCons, gsNil, dStop, dBk, dCt, dPar, dC, dV, dQ, qC, qV, qP, qNeg, qOp, dPth, dOp, evOps, dT, dAndT, dOrT, dNotT, dAnd, dOr, dNot, dIf, dCh, oII, hAdd, hSub, hMul, hMod, hDiv, hPow, hLt, hLe, hGt, hGe, a_oLt, a_oLe, a_oGt, a_oGe, a_oAdd, a_oSub, a_oMul, a_oMod, a_oDiv, a_oPow, a_oEq, a_oNe, oEqF, eqF, orF, oIsN, isNo, oIn, inD, rowOf, oNeg, oIsi, oIsi2, isI, isB, isS, isT, isL, oLen, oInt, oAbs, a_oMin2, a_oMax2, oMin3, dTup, dLst, dFz, frz, frzs, noOwn, noOwns, dCall, dCallEnd, lendD, backE, dMethV, isC, dMake, dLenO, kids, withKids, posS, getS, getP, putP, getR, putR, rV, rIxP, rKeyP, rFld, idxD, putFd, dFldS, mSeq, shr, mZip2, mEnum, dYes, isF, sv, List.replicate, Option.map, gSetK, gSetL, gSetT, putKD, Rm.keyOf, keysOf, qK, evQ, dMetV, dMetP, lmEnd, lmApp, lmIns, lmPopAt, dNil, dInT, i_rest, i_turn, i_seed, h0, hm0, kB_nd, kB_len, hq, g1.1, g1.2]
end K11
set_option Elab.async false
set_option linter.all false
set_option maxRecDepth 100000
set_option maxHeartbeats 4000000
namespace K11
open PySem L2 Rm
theorem from_ok {b mn : D} {xs : List D} (hm : rowOf mn = some xs) (hb : Bx b) (h1 : xs ≠ []) (h2 : xs.length ≤ 1000) (hn : noOwns xs = true) : ∃ v b', F__law_from [b, mn] = some (v, [b']) ∧ v ∈ xs ∧ Bx b' := by
  have hl : 0 < xs.length := List.length_pos_iff.mpr h1
  obtain ⟨i, b', e, hb', g0, g1⟩ := pick_ok (m := xs.length) hb (by omega) (by omega)
  obtain ⟨x, ex, ex2⟩ := atI_lt g0 g1
  have hx := List.mem_of_getElem? ex2
  have nx := noOwns_mem hn x hx
  refine ⟨x, b', ?_, hx, hb'⟩
  cases mn with
  | lst o ys =>
    cases hm
    simp [F__law_from, M__law_from, dFn, dEnd, allS, dSeq, dNx, dRet, dRetV, dRetN, dExpr, dIfS, dAsg, dFor, gN, gTp, gsCons, gsNil, dStop, dBk, dCt, dPar, dC, dV, dQ, qC, qV, qP, qNeg, qOp, dPth, dOp, evOps, dT, dAndT, dOrT, dNotT, dAnd, dOr, dNot, dIf, dCh, oII, hAdd, hSub, hMul, hMod, hDiv, hPow, hLt, hLe, hGt, hGe, a_oLt, a_oLe, a_oGt, a_oGe, a_oAdd, a_oSub, a_oMul, a_oMod, a_oDiv, a_oPow, a_oEq, a_oNe, oEqF, eqF, orF, oIsN, isNo, oIn, inD, rowOf, oNeg, oIsi, oIsi2, isI, isB, isS, isT, isL, oLen, oInt, oAbs, a_oMin2, a_oMax2, oMin3, dTup, dLst, dFz, frz, frzs, noOwn, noOwns, dCall, dCallEnd, lendD, backE, dMethV, isC, dMake, dLenO, kids, withKids, posS, getS, getP, putP, getR, putR, rV, rIxP, rKeyP, rFld, idxD, putFd, dFldS, mSeq, shr, mZip2, mEnum, dYes, isF, sv, List.replicate, Option.map, gSetK, gSetL, gSetT, putKD, Rm.keyOf, keysOf, qK, evQ, dMetV, dMetP, lmEnd, lmApp, lmIns, lmPopAt, dNil, dInT, e, oIx, ex, nx, frz_of x nx]
  | tup ys =>
    cases hm
    simp [F__law_from, M__law_from, dFn, dEnd, allS, dSeq, dNx, dRet, dRetV, dRetN, dExpr, dIfS, dAsg, dFor, gN, gTp, gsCons, gsNil, dStop, dBk, dCt, dPar, dC, dV, dQ, qC, qV, qP, qNeg, qOp, dPth, dOp, evOps, dT, dAndT, dOrT, dNotT, dAnd, dOr, dNot, dIf, dCh, oII, hAdd, hSub, hMul, hMod, hDiv, hPow, hLt, hLe, hGt, hGe, a_oLt, a_oLe, a_oGt, a_oGe, a_oAdd, a_oSub, a_oMul, a_oMod, a_oDiv, a_oPow, a_oEq, a_oNe, oEqF, eqF, orF, oIsN, isNo, oIn, inD, rowOf, oNeg, oIsi, oIsi2, isI, isB, isS, isT, isL, oLen, oInt, oAbs, a_oMin2, a_oMax2, oMin3, dTup, dLst, dFz, frz, frzs, noOwn, noOwns, dCall, dCallEnd, lendD, backE, dMethV, isC, dMake, dLenO, kids, withKids, posS, getS, getP, putP, getR, putR, rV, rIxP, rKeyP, rFld, idxD, putFd, dFldS, mSeq, shr, mZip2, mEnum, dYes, isF, sv, List.replicate, Option.map, gSetK, gSetL, gSetT, putKD, Rm.keyOf, keysOf, qK, evQ, dMetV, dMetP, lmEnd, lmApp, lmIns, lmPopAt, dNil, dInT, e, oIx, ex, nx, frz_of x nx]
  | _ => cases hm
theorem range_mem {n : Nat} {x : D} (h : x ∈ rangeD 0 n) : ∃ i : Nat, i < n ∧ x = .int i := by
  unfold rangeD at h
  obtain ⟨i, hi, rfl⟩ := List.mem_map.mp h
  exact ⟨i, List.mem_range.mp hi, by simp⟩
theorem mixed_ok {b : D} {o : Bool} {xs : List D} (hb : Bx b) (h2 : xs.length ≤ 1000) (hn : noOwns xs = true) : ∃ ys b', F__law_mixed [b, .lst o xs] = some (.lst false ys, [b']) ∧ ys.Perm xs ∧ Bx b' := by
  have hxs : frzs xs = xs := frzs_of hn
  obtain ⟨ρ', e, b', ys, w, hρ, hp, hb'⟩ := forL_mem (a := gN 3) (body := B__law_mixed_1) (fun pre ρ => ∃ (b' : D) (ys : List D) (w : Option D), ρ = [some b', some (.lst false xs), some (.lst true ys), w] ∧ ys.Perm pre ∧ Bx b') (xs := xs) (ρ := [some b, some (.lst false xs), some (.lst true []), none])
    ⟨b, [], none, rfl, List.Perm.refl _, hb⟩ fun pre x post ρ hx ⟨b', ys, w, hρ, hp, hb'⟩ => by
      subst hρ
      have hlen : ys.length ≤ 1000 := by rw [hp.length_eq]; rw [hx] at h2; simp at h2; omega
      have nx : noOwn x = true := noOwns_mem hn x (by rw [hx]; simp)
      obtain ⟨i, b2, e, hb2, g0, g1⟩ := pick_ok (m := ys.length + 1) hb' (by omega) (by omega)
      refine ⟨[some b', some (.lst false xs), some (.lst true ys), some x], [some b2, some (.lst false xs), some (.lst true (ys.take i.toNat ++ [x] ++ ys.drop i.toNat)), some x], ?_, .inl ?_, b2, _, some x, rfl, ?_, hb2⟩
      · simp [gN]
      · simp [B__law_mixed_1, dFn, dEnd, allS, dSeq, dNx, dRet, dRetV, dRetN, dExpr, dIfS, dAsg, dFor, gN, gTp, gsCons, gsNil, dStop, dBk, dCt, dPar, dC, dV, dQ, qC, qV, qP, qNeg, qOp, dPth, dOp, evOps, dT, dAndT, dOrT, dNotT, dAnd, dOr, dNot, dIf, dCh, oII, hAdd, hSub, hMul, hMod, hDiv, hPow, hLt, hLe, hGt, hGe, a_oLt, a_oLe, a_oGt, a_oGe, a_oAdd, a_oSub, a_oMul, a_oMod, a_oDiv, a_oPow, a_oEq, a_oNe, oEqF, eqF, orF, oIsN, isNo, oIn, inD, rowOf, oNeg, oIsi, oIsi2, isI, isB, isS, isT, isL, oLen, oInt, oAbs, a_oMin2, a_oMax2, oMin3, dTup, dLst, dFz, frz, frzs, noOwn, noOwns, dCall, dCallEnd, lendD, backE, dMethV, isC, dMake, dLenO, kids, withKids, posS, getS, getP, putP, getR, putR, rV, rIxP, rKeyP, rFld, idxD, putFd, dFldS, mSeq, shr, mZip2, mEnum, dYes, isF, sv, List.replicate, Option.map, gSetK, gSetL, gSetT, putKD, Rm.keyOf, keysOf, qK, evQ, dMetV, dMetP, lmEnd, lmApp, lmIns, lmPopAt, dNil, dInT, e, nx, g0, show ys.length < 100000 by omega, show i < 9223372036854775808 by omega]
      · have e1 : (ys.take i.toNat ++ [x] ++ ys.drop i.toNat).Perm (x :: ys) := by
          rw [List.append_assoc]
          refine (List.perm_middle (l₁ := ys.take i.toNat) (l₂ := ys.drop i.toNat) (a := x)).trans ?_
          rw [List.take_append_drop]
        exact e1.trans ((List.Perm.cons x hp).trans (by simpa using (List.perm_append_comm (l₁ := [x]) (l₂ := pre))))
  refine ⟨ys, b', ?_, hp, hb'⟩
  have ny : noOwns ys = true := by rw [noOwns_all] at hn ⊢; rw [List.all_eq_true] at hn ⊢; exact fun y hy => hn y (hp.mem_iff.mp hy)
  have fy := frzs_of ny
  cases o with
  | true =>
    simp [F__law_mixed, M__law_mixed, S__law_mixed_0, S__law_mixed_2, S__law_mixed_3, dFn, dEnd, allS, dSeq, dNx, dRet, dRetV, dRetN, dExpr, dIfS, dAsg, dFor, gN, gTp, gsCons, gsNil, dStop, dBk, dCt, dPar, dC, dV, dQ, qC, qV, qP, qNeg, qOp, dPth, dOp, evOps, dT, dAndT, dOrT, dNotT, dAnd, dOr, dNot, dIf, dCh, oII, hAdd, hSub, hMul, hMod, hDiv, hPow, hLt, hLe, hGt, hGe, a_oLt, a_oLe, a_oGt, a_oGe, a_oAdd, a_oSub, a_oMul, a_oMod, a_oDiv, a_oPow, a_oEq, a_oNe, oEqF, eqF, orF, oIsN, isNo, oIn, inD, rowOf, oNeg, oIsi, oIsi2, isI, isB, isS, isT, isL, oLen, oInt, oAbs, a_oMin2, a_oMax2, oMin3, dTup, dLst, dFz, frz, frzs, noOwn, noOwns, dCall, dCallEnd, lendD, backE, dMethV, isC, dMake, dLenO, kids, withKids, posS, getS, getP, putP, getR, putR, rV, rIxP, rKeyP, rFld, idxD, putFd, dFldS, mSeq, shr, mZip2, mEnum, dYes, isF, sv, List.replicate, Option.map, gSetK, gSetL, gSetT, putKD, Rm.keyOf, keysOf, qK, evQ, dMetV, dMetP, lmEnd, lmApp, lmIns, lmPopAt, dNil, dInT, hn, hxs, e, hρ, ny, fy]
  | false =>
    simp [F__law_mixed, M__law_mixed, S__law_mixed_0, S__law_mixed_2, S__law_mixed_3, dFn, dEnd, allS, dSeq, dNx, dRet, dRetV, dRetN, dExpr, dIfS, dAsg, dFor, gN, gTp, gsCons, gsNil, dStop, dBk, dCt, dPar, dC, dV, dQ, qC, qV, qP, qNeg, qOp, dPth, dOp, evOps, dT, dAndT, dOrT, dNotT, dAnd, dOr, dNot, dIf, dCh, oII, hAdd, hSub, hMul, hMod, hDiv, hPow, hLt, hLe, hGt, hGe, a_oLt, a_oLe, a_oGt, a_oGe, a_oAdd, a_oSub, a_oMul, a_oMod, a_oDiv, a_oPow, a_oEq, a_oNe, oEqF, eqF, orF, oIsN, isNo, oIn, inD, rowOf, oNeg, oIsi, oIsi2, isI, isB, isS, isT, isL, oLen, oInt, oAbs, a_oMin2, a_oMax2, oMin3, dTup, dLst, dFz, frz, frzs, noOwn, noOwns, dCall, dCallEnd, lendD, backE, dMethV, isC, dMake, dLenO, kids, withKids, posS, getS, getP, putP, getR, putR, rV, rIxP, rKeyP, rFld, idxD, putFd, dFldS, mSeq, shr, mZip2, mEnum, dYes, isF, sv, List.replicate, Option.map, gSetK, gSetL, gSetT, putKD, Rm.keyOf, keysOf, qK, evQ, dMetV, dMetP, lmEnd, lmApp, lmIns, lmPopAt, dNil, dInT, hn, hxs, e, hρ, ny, fy]
end K11
set_option Elab.async false
set_option linter.all false
set_option maxRecDepth 100000
set_option maxHeartbeats 4000000
namespace K11
open PySem L2 Rm
def iD (i : Nat) : D := .int (i : Int)
def lotD (ls : List Nat) : D := .tup (ls.map iD)
def Lot (n : Nat) (ls : List Nat) : Prop := ls.Sublist (List.range n)
theorem rangeD_eq (n : Nat) : rangeD 0 n = (List.range n).map iD := by
  unfold rangeD
  refine List.map_congr_left fun i _ => ?_
  simp [iD]
theorem rangeD_len (lo : Int) (n : Nat) : (rangeD lo n).length = n := by simp [rangeD]
theorem no_iD (ls : List Nat) : noOwns (ls.map iD) = true := by
  refine noOwns_of fun x hx => ?_
  obtain ⟨i, _, rfl⟩ := List.mem_map.mp hx
  rfl
theorem fz_iD (ls : List Nat) : frzs (ls.map iD) = ls.map iD := frzs_of (no_iD ls)
theorem frz_lot (ls : List Nat) : frz (lotD ls) = lotD ls := frz_of _ (by unfold lotD; unfold noOwn; exact no_iD ls)
theorem no_lot (ls : List Nat) : noOwn (lotD ls) = true := by unfold lotD; unfold noOwn; exact no_iD ls
theorem Lot.lt {n : Nat} {ls : List Nat} (h : Lot n ls) : ∀ x ∈ ls, x < n := fun x hx => List.mem_range.mp (h.subset hx)
theorem Lot.len {n : Nat} {ls : List Nat} (h : Lot n ls) : ls.length ≤ n := by have := h.length_le; simpa using this
theorem Lot.asc {n : Nat} {ls : List Nat} (h : Lot n ls) : ls.Pairwise (· < ·) := (List.pairwise_lt_range).sublist h
theorem lot_ok {b : D} {n : Nat} (hb : Bx b) (hn : 1 ≤ n ∧ n ≤ 8) : ∃ ls b', F__law_lot [b, .int n] = some (lotD ls, [b']) ∧ Lot n ls ∧ Bx b' := by
  obtain ⟨v, b1, e1, hb1, _⟩ := pick_ok (m := 5) hb (by omega) (by omega)
  have hr : (n : Int) ≤ 100000 := by omega
  by_cases hv : v = 0
  · refine ⟨List.range n, b1, ?_, List.Sublist.refl _, hb1⟩
    have ef : frzs ((List.range n).map iD) = (List.range n).map iD := frzs_of (no_iD _)
    have er : dRg false (.v 1) [some b1, some (.int n), none, none] = some (.tup (rangeD 0 n), [some b1, some (.int n), none, none]) := dRg_nat (l := false) (by simp [dFn, dEnd, allS, dSeq, dNx, dRet, dRetV, dRetN, dExpr, dIfS, dAsg, dFor, gN, gTp, gsCons, gsNil, dStop, dBk, dCt, dPar, dC, dV, dQ, qC, qV, qP, qNeg, qOp, dPth, dOp, evOps, dT, dAndT, dOrT, dNotT, dAnd, dOr, dNot, dIf, dCh, oII, hAdd, hSub, hMul, hMod, hDiv, hPow, hLt, hLe, hGt, hGe, a_oLt, a_oLe, a_oGt, a_oGe, a_oAdd, a_oSub, a_oMul, a_oMod, a_oDiv, a_oPow, a_oEq, a_oNe, oEqF, eqF, orF, oIsN, isNo, oIn, inD, rowOf, oNeg, oIsi, oIsi2, isI, isB, isS, isT, isL, oLen, oInt, oAbs, a_oMin2, a_oMax2, oMin3, dTup, dLst, dFz, frz, frzs, noOwn, noOwns, dCall, dCallEnd, lendD, backE, dMethV, isC, dMake, dLenO, kids, withKids, posS, getS, getP, putP, getR, putR, rV, rIxP, rKeyP, rFld, idxD, putFd, dFldS, mSeq, shr, mZip2, mEnum, dYes, isF, sv, List.replicate, Option.map, gSetK, gSetL, gSetT, putKD, Rm.keyOf, keysOf, qK, evQ, dMetV, dMetP, lmEnd, lmApp, lmIns, lmPopAt, dNil, dInT]) (by omega)
    simp [F__law_lot, M__law_lot, S__law_lot_0, dFn, dEnd, allS, dSeq, dNx, dRet, dRetV, dRetN, dExpr, dIfS, dAsg, dFor, gN, gTp, gsCons, gsNil, dStop, dBk, dCt, dPar, dC, dV, dQ, qC, qV, qP, qNeg, qOp, dPth, dOp, evOps, dT, dAndT, dOrT, dNotT, dAnd, dOr, dNot, dIf, dCh, oII, hAdd, hSub, hMul, hMod, hDiv, hPow, hLt, hLe, hGt, hGe, a_oLt, a_oLe, a_oGt, a_oGe, a_oAdd, a_oSub, a_oMul, a_oMod, a_oDiv, a_oPow, a_oEq, a_oNe, oEqF, eqF, orF, oIsN, isNo, oIn, inD, rowOf, oNeg, oIsi, oIsi2, isI, isB, isS, isT, isL, oLen, oInt, oAbs, a_oMin2, a_oMax2, oMin3, dTup, dLst, dFz, frz, frzs, noOwn, noOwns, dCall, dCallEnd, lendD, backE, dMethV, isC, dMake, dLenO, kids, withKids, posS, getS, getP, putP, getR, putR, rV, rIxP, rKeyP, rFld, idxD, putFd, dFldS, mSeq, shr, mZip2, mEnum, dYes, isF, sv, List.replicate, Option.map, gSetK, gSetL, gSetT, putKD, Rm.keyOf, keysOf, qK, evQ, dMetV, dMetP, lmEnd, lmApp, lmIns, lmPopAt, dNil, dInT, e1, hv, er, rangeD_eq, lotD, ef]
  · obtain ⟨w, b2, e2, hb2, _⟩ := pick_ok (m := 4) hb1 (by omega) (by omega)
    obtain ⟨acc, ρ2, q1, b3, hρ, hsub, hb3⟩ := comp_mem (i := mRange1 (.v 1)) (a := gN 3) (c := dT (dOp oLt [.e (dCall F__law_pick [.v 0, .e (dC (.int 5))] []), .v 2])) (e := dV 3) (vs := [3]) (ρ := [some b2, some (.int n), some (.int (1 + w)), none]) (ρ0 := [some b2, some (.int n), some (.int (1 + w)), none]) (xs := rangeD 0 n)
      (fun pre acc ρ => ∃ b' : D, ρ = [some b', some (.int n), some (.int (1 + w)), none] ∧ acc.Sublist pre ∧ Bx b')
      (mRange1_nat (by simp [dFn, dEnd, allS, dSeq, dNx, dRet, dRetV, dRetN, dExpr, dIfS, dAsg, dFor, gN, gTp, gsCons, gsNil, dStop, dBk, dCt, dPar, dC, dV, dQ, qC, qV, qP, qNeg, qOp, dPth, dOp, evOps, dT, dAndT, dOrT, dNotT, dAnd, dOr, dNot, dIf, dCh, oII, hAdd, hSub, hMul, hMod, hDiv, hPow, hLt, hLe, hGt, hGe, a_oLt, a_oLe, a_oGt, a_oGe, a_oAdd, a_oSub, a_oMul, a_oMod, a_oDiv, a_oPow, a_oEq, a_oNe, oEqF, eqF, orF, oIsN, isNo, oIn, inD, rowOf, oNeg, oIsi, oIsi2, isI, isB, isS, isT, isL, oLen, oInt, oAbs, a_oMin2, a_oMax2, oMin3, dTup, dLst, dFz, frz, frzs, noOwn, noOwns, dCall, dCallEnd, lendD, backE, dMethV, isC, dMake, dLenO, kids, withKids, posS, getS, getP, putP, getR, putR, rV, rIxP, rKeyP, rFld, idxD, putFd, dFldS, mSeq, shr, mZip2, mEnum, dYes, isF, sv, List.replicate, Option.map, gSetK, gSetL, gSetT, putKD, Rm.keyOf, keysOf, qK, evQ, dMetV, dMetP, lmEnd, lmApp, lmIns, lmPopAt, dNil, dInT]) (by omega)) (by simp [savOk]) (by rw [rangeD_len]; omega) ⟨b2, rfl, List.Sublist.refl _, hb2⟩ fun p1 x p2 acc ρ hx ⟨b', hρ, hs, hb'⟩ => by
        subst hρ
        obtain ⟨i, hi, rfl⟩ := range_mem (x := x) (n := n) (by rw [hx]; simp)
        obtain ⟨u, b4, e4, hb4, _⟩ := pick_ok (m := 5) hb' (by omega) (by omega)
        refine ⟨[some b', some (.int n), some (.int (1 + w)), some (.int i)], decide (u < 1 + w), [some b4, some (.int n), some (.int (1 + w)), some (.int i)], by simp [gN], by simp [dFn, dEnd, allS, dSeq, dNx, dRet, dRetV, dRetN, dExpr, dIfS, dAsg, dFor, gN, gTp, gsCons, gsNil, dStop, dBk, dCt, dPar, dC, dV, dQ, qC, qV, qP, qNeg, qOp, dPth, dOp, evOps, dT, dAndT, dOrT, dNotT, dAnd, dOr, dNot, dIf, dCh, oII, hAdd, hSub, hMul, hMod, hDiv, hPow, hLt, hLe, hGt, hGe, a_oLt, a_oLe, a_oGt, a_oGe, a_oAdd, a_oSub, a_oMul, a_oMod, a_oDiv, a_oPow, a_oEq, a_oNe, oEqF, eqF, orF, oIsN, isNo, oIn, inD, rowOf, oNeg, oIsi, oIsi2, isI, isB, isS, isT, isL, oLen, oInt, oAbs, a_oMin2, a_oMax2, oMin3, dTup, dLst, dFz, frz, frzs, noOwn, noOwns, dCall, dCallEnd, lendD, backE, dMethV, isC, dMake, dLenO, kids, withKids, posS, getS, getP, putP, getR, putR, rV, rIxP, rKeyP, rFld, idxD, putFd, dFldS, mSeq, shr, mZip2, mEnum, dYes, isF, sv, List.replicate, Option.map, gSetK, gSetL, gSetT, putKD, Rm.keyOf, keysOf, qK, evQ, dMetV, dMetP, lmEnd, lmApp, lmIns, lmPopAt, dNil, dInT, e4], fun _ => ⟨b4, by simp [wipeE], ?_, hb4⟩, fun _ => ⟨.int i, _, by simp [dFn, dEnd, allS, dSeq, dNx, dRet, dRetV, dRetN, dExpr, dIfS, dAsg, dFor, gN, gTp, gsCons, gsNil, dStop, dBk, dCt, dPar, dC, dV, dQ, qC, qV, qP, qNeg, qOp, dPth, dOp, evOps, dT, dAndT, dOrT, dNotT, dAnd, dOr, dNot, dIf, dCh, oII, hAdd, hSub, hMul, hMod, hDiv, hPow, hLt, hLe, hGt, hGe, a_oLt, a_oLe, a_oGt, a_oGe, a_oAdd, a_oSub, a_oMul, a_oMod, a_oDiv, a_oPow, a_oEq, a_oNe, oEqF, eqF, orF, oIsN, isNo, oIn, inD, rowOf, oNeg, oIsi, oIsi2, isI, isB, isS, isT, isL, oLen, oInt, oAbs, a_oMin2, a_oMax2, oMin3, dTup, dLst, dFz, frz, frzs, noOwn, noOwns, dCall, dCallEnd, lendD, backE, dMethV, isC, dMake, dLenO, kids, withKids, posS, getS, getP, putP, getR, putR, rV, rIxP, rKeyP, rFld, idxD, putFd, dFldS, mSeq, shr, mZip2, mEnum, dYes, isF, sv, List.replicate, Option.map, gSetK, gSetL, gSetT, putKD, Rm.keyOf, keysOf, qK, evQ, dMetV, dMetP, lmEnd, lmApp, lmIns, lmPopAt, dNil, dInT]; rfl, b4, by simp [wipeE], ?_, hb4⟩⟩
        · exact hs.trans (List.sublist_append_left _ _)
        · exact hs.append (List.Sublist.refl _)
    subst hρ
    rw [rangeD_eq] at hsub
    obtain ⟨ls, hls, rfl⟩ := List.sublist_map_iff.mp hsub
    refine ⟨ls, b3, ?_, hls, hb3⟩
    have ef : frzs (ls.map iD) = ls.map iD := frzs_of (no_iD _)
    have s0 : S__law_lot_0 [some b, some (.int n), none, none] = some (.nx [some b1, some (.int n), none, none]) := by simp [S__law_lot_0, dFn, dEnd, allS, dSeq, dNx, dRet, dRetV, dRetN, dExpr, dIfS, dAsg, dFor, gN, gTp, gsCons, gsNil, dStop, dBk, dCt, dPar, dC, dV, dQ, qC, qV, qP, qNeg, qOp, dPth, dOp, evOps, dT, dAndT, dOrT, dNotT, dAnd, dOr, dNot, dIf, dCh, oII, hAdd, hSub, hMul, hMod, hDiv, hPow, hLt, hLe, hGt, hGe, a_oLt, a_oLe, a_oGt, a_oGe, a_oAdd, a_oSub, a_oMul, a_oMod, a_oDiv, a_oPow, a_oEq, a_oNe, oEqF, eqF, orF, oIsN, isNo, oIn, inD, rowOf, oNeg, oIsi, oIsi2, isI, isB, isS, isT, isL, oLen, oInt, oAbs, a_oMin2, a_oMax2, oMin3, dTup, dLst, dFz, frz, frzs, noOwn, noOwns, dCall, dCallEnd, lendD, backE, dMethV, isC, dMake, dLenO, kids, withKids, posS, getS, getP, putP, getR, putR, rV, rIxP, rKeyP, rFld, idxD, putFd, dFldS, mSeq, shr, mZip2, mEnum, dYes, isF, sv, List.replicate, Option.map, gSetK, gSetL, gSetT, putKD, Rm.keyOf, keysOf, qK, evQ, dMetV, dMetP, lmEnd, lmApp, lmIns, lmPopAt, dNil, dInT, e1, hv]
    have s1 : S__law_lot_1 [some b1, some (.int n), none, none] = some (.nx [some b2, some (.int n), some (.int (1 + w)), none]) := by simp [S__law_lot_1, dFn, dEnd, allS, dSeq, dNx, dRet, dRetV, dRetN, dExpr, dIfS, dAsg, dFor, gN, gTp, gsCons, gsNil, dStop, dBk, dCt, dPar, dC, dV, dQ, qC, qV, qP, qNeg, qOp, dPth, dOp, evOps, dT, dAndT, dOrT, dNotT, dAnd, dOr, dNot, dIf, dCh, oII, hAdd, hSub, hMul, hMod, hDiv, hPow, hLt, hLe, hGt, hGe, a_oLt, a_oLe, a_oGt, a_oGe, a_oAdd, a_oSub, a_oMul, a_oMod, a_oDiv, a_oPow, a_oEq, a_oNe, oEqF, eqF, orF, oIsN, isNo, oIn, inD, rowOf, oNeg, oIsi, oIsi2, isI, isB, isS, isT, isL, oLen, oInt, oAbs, a_oMin2, a_oMax2, oMin3, dTup, dLst, dFz, frz, frzs, noOwn, noOwns, dCall, dCallEnd, lendD, backE, dMethV, isC, dMake, dLenO, kids, withKids, posS, getS, getP, putP, getR, putR, rV, rIxP, rKeyP, rFld, idxD, putFd, dFldS, mSeq, shr, mZip2, mEnum, dYes, isF, sv, List.replicate, Option.map, gSetK, gSetL, gSetT, putKD, Rm.keyOf, keysOf, qK, evQ, dMetV, dMetP, lmEnd, lmApp, lmIns, lmPopAt, dNil, dInT, e2]
    have s2 : S__law_lot_2 [some b2, some (.int n), some (.int (1 + w)), none] = some (.rt (lotD ls) [some b3, some (.int n), some (.int (1 + w)), none]) := by
      refine ret_of ?_
      have := fz_of (op1_of (f := oTup) (x := lotD ls) q1 (by simp [oTup, rowOf, no_iD, lotD]))
      rw [frz_lot] at this
      simpa [restE] using this
    show dEnd 1 (M__law_lot [some b, some (.int n), none, none]) = _
    unfold M__law_lot
    rw [seq_nx s0, seq_nx s1, seq_rt s2]
    rfl
theorem start_ok {b : D} {n : Nat} (hb : Bx b) (hn : 1 ≤ n ∧ n ≤ 8) : ∃ ls b', F__law_start [b, .int n] = some (lotD ls, [b']) ∧ Lot n ls ∧ ls ≠ [] ∧ Bx b' := by
  obtain ⟨ls, b1, e1, hl, hb1⟩ := lot_ok hb hn
  have e2 : toPs (ls.map iD) = some ((ls.map Int.ofNat).map PyData.int) := by rw [show ls.map iD = (ls.map Int.ofNat).map D.int by rw [List.map_map]; rfl]; exact toPs_ints _
  have e3 := eqv_tnil (ls.map Int.ofNat)
  have e4 := shp_tints (ls.map Int.ofNat)
  have e5 := no_lot ls
  have e6 := frz_lot ls
  by_cases h : ls = []
  · subst h
    obtain ⟨v, b2, e7, hb2, g0, g1⟩ := pick_ok (m := n) hb1 (by omega) (by omega)
    obtain ⟨k, rfl⟩ := Int.eq_ofNat_of_zero_le g0
    refine ⟨[k], b2, ?_, ?_, by simp, hb2⟩
    · simp [F__law_start, M__law_start, S__law_start_0, S__law_start_1, dFn, dEnd, allS, dSeq, dNx, dRet, dRetV, dRetN, dExpr, dIfS, dAsg, dFor, gN, gTp, gsCons, gsNil, dStop, dBk, dCt, dPar, dC, dV, dQ, qC, qV, qP, qNeg, qOp, dPth, dOp, evOps, dT, dAndT, dOrT, dNotT, dAnd, dOr, dNot, dIf, dCh, oII, hAdd, hSub, hMul, hMod, hDiv, hPow, hLt, hLe, hGt, hGe, a_oLt, a_oLe, a_oGt, a_oGe, a_oAdd, a_oSub, a_oMul, a_oMod, a_oDiv, a_oPow, a_oEq, a_oNe, oEqF, eqF, orF, oIsN, isNo, oIn, inD, rowOf, oNeg, oIsi, oIsi2, isI, isB, isS, isT, isL, oLen, oInt, oAbs, a_oMin2, a_oMax2, oMin3, dTup, dLst, dFz, frz, frzs, noOwn, noOwns, dCall, dCallEnd, lendD, backE, dMethV, isC, dMake, dLenO, kids, withKids, posS, getS, getP, putP, getR, putR, rV, rIxP, rKeyP, rFld, idxD, putFd, dFldS, mSeq, shr, mZip2, mEnum, dYes, isF, sv, List.replicate, Option.map, gSetK, gSetL, gSetT, putKD, Rm.keyOf, keysOf, qK, evQ, dMetV, dMetP, lmEnd, lmApp, lmIns, lmPopAt, dNil, dInT, oEqD, e1, e7, lotD, toP, toPs, shp_tnil, iD, show PyData.eqv (.tuple []) (.tuple []) = true from rfl]
    · exact List.singleton_sublist.mpr (List.mem_range.mpr (by omega))
  · refine ⟨ls, b1, ?_, hl, h, hb1⟩
    have e8 : (ls.map Int.ofNat).isEmpty = false := by cases ls with
      | nil => exact absurd rfl h
      | cons a l => rfl
    rw [e8] at e3
    simp only [List.map_map] at e2 e3 e4
    simp only [lotD] at e1
    simp [F__law_start, M__law_start, S__law_start_0, S__law_start_1, dFn, dEnd, allS, dSeq, dNx, dRet, dRetV, dRetN, dExpr, dIfS, dAsg, dFor, gN, gTp, gsCons, gsNil, dStop, dBk, dCt, dPar, dC, dV, dQ, qC, qV, qP, qNeg, qOp, dPth, dOp, evOps, dT, dAndT, dOrT, dNotT, dAnd, dOr, dNot, dIf, dCh, oII, hAdd, hSub, hMul, hMod, hDiv, hPow, hLt, hLe, hGt, hGe, a_oLt, a_oLe, a_oGt, a_oGe, a_oAdd, a_oSub, a_oMul, a_oMod, a_oDiv, a_oPow, a_oEq, a_oNe, oEqF, eqF, orF, oIsN, isNo, oIn, inD, rowOf, oNeg, oIsi, oIsi2, isI, isB, isS, isT, isL, oLen, oInt, oAbs, a_oMin2, a_oMax2, oMin3, dTup, dLst, dFz, frz, frzs, noOwn, noOwns, dCall, dCallEnd, lendD, backE, dMethV, isC, dMake, dLenO, kids, withKids, posS, getS, getP, putP, getR, putR, rV, rIxP, rKeyP, rFld, idxD, putFd, dFldS, mSeq, shr, mZip2, mEnum, dYes, isF, sv, List.replicate, Option.map, gSetK, gSetL, gSetT, putKD, Rm.keyOf, keysOf, qK, evQ, dMetV, dMetP, lmEnd, lmApp, lmIns, lmPopAt, dNil, dInT, oEqD, e1, lotD, toP, e2, e3, e4, no_iD, fz_iD, shp_tnil, toPs]
end K11
set_option Elab.async false
set_option linter.all false
set_option maxRecDepth 100000
set_option maxHeartbeats 4000000
namespace K11
open PySem L2 Rm
theorem from_nat {b : D} {o : Bool} {ms : List Nat} (hb : Bx b) (h1 : ms ≠ []) (h2 : ms.length ≤ 1000) : ∃ p b', F__law_from [b, .lst o (ms.map iD)] = some (iD p, [b']) ∧ p ∈ ms ∧ Bx b' := by
  obtain ⟨x, b', e, hx, hb'⟩ := from_ok (mn := .lst o (ms.map iD)) rfl hb (by simpa using h1) (by simpa using h2) (no_iD ms)
  obtain ⟨p, hp, rfl⟩ := List.mem_map.mp hx
  exact ⟨p, b', e, hp, hb'⟩
theorem pace_ok {b : D} {n : Nat} (hb : Bx b) (hn : 1 ≤ n ∧ n ≤ 8) : ∃ ps b', F__law_pace [b, .int n] = some (lotD ps, [b']) ∧ ps.length = n ∧ (∀ p ∈ ps, p ≤ 7) ∧ Bx b' := by
  obtain ⟨v, b1, e1, hb1, _⟩ := pick_ok (m := 2) hb (by omega) (by omega)
  by_cases hv : v = 0
  · obtain ⟨p, b2, e2, hx, hb2⟩ := from_nat (o := true) (ms := [0, 1, 1, 2, 3, 7]) hb1 (by simp) (by simp)
    have hp : p ≤ 7 := by simp at hx; omega
    have e2 : F__law_from [b1, .lst true [.int 0, .int 1, .int 1, .int 2, .int 3, .int 7]] = some (iD p, [b2]) := e2
    refine ⟨List.replicate n p, b2, ?_, by simp, fun q hq => by rw [(List.mem_replicate.mp hq).2]; exact hp, hb2⟩
    have s0 : S__law_pace_0 [some b, some (.int n), none] = some (.rt (lotD (List.replicate n p)) [some b2, some (.int n), none]) := by
      have e3 : (List.replicate n [iD p]).flatten = (List.replicate n p).map iD := by
        rw [List.map_replicate]
        clear hn e2 e1
        induction n with
        | zero => rfl
        | succ n ih => rw [List.replicate_succ, List.replicate_succ, List.flatten_cons, ih]; rfl
      have e4 : oMul [.tup [iD p], .int n] = some (lotD (List.replicate n p)) := by
        have q1 : (n : Int) ≤ 1000 := by omega
        have q2 : (1 : Int) ≤ n := by omega
        simp [a_oMul, orF, oII, oRepL, oRepT, q1, q2, e3, lotD, noOwns, noOwn, iD]
      have e5 : dFz (dOp oMul [.e (dTup [dCall F__law_from [.v 0, .e (dLst [dC (.int 0), dC (.int 1), dC (.int 1), dC (.int 2), dC (.int 3), dC (.int 7)])] []]), .v 1]) [some b1, some (.int n), none] = some (lotD (List.replicate n p), [some b2, some (.int n), none]) := by
        rw [← frz_lot (List.replicate n p)]
        refine fz_of ?_
        unfold dOp
        simp [evOps, dTup, dCall, dLst, dC, dCallEnd, lendD, backE, e2, e4]
      unfold S__law_pace_0
      rw [if_t (t_of (b := true) (ρ1 := [some b1, some (.int n), none]) (by simp [dFn, dEnd, allS, dSeq, dNx, dRet, dRetV, dRetN, dExpr, dIfS, dAsg, dFor, gN, gTp, gsCons, gsNil, dStop, dBk, dCt, dPar, dC, dV, dQ, qC, qV, qP, qNeg, qOp, dPth, dOp, evOps, dT, dAndT, dOrT, dNotT, dAnd, dOr, dNot, dIf, dCh, oII, hAdd, hSub, hMul, hMod, hDiv, hPow, hLt, hLe, hGt, hGe, a_oLt, a_oLe, a_oGt, a_oGe, a_oAdd, a_oSub, a_oMul, a_oMod, a_oDiv, a_oPow, a_oEq, a_oNe, oEqF, eqF, orF, oIsN, isNo, oIn, inD, rowOf, oNeg, oIsi, oIsi2, isI, isB, isS, isT, isL, oLen, oInt, oAbs, a_oMin2, a_oMax2, oMin3, dTup, dLst, dFz, frz, frzs, noOwn, noOwns, dCall, dCallEnd, lendD, backE, dMethV, isC, dMake, dLenO, kids, withKids, posS, getS, getP, putP, getR, putR, rV, rIxP, rKeyP, rFld, idxD, putFd, dFldS, mSeq, shr, mZip2, mEnum, dYes, isF, sv, List.replicate, Option.map, gSetK, gSetL, gSetT, putKD, Rm.keyOf, keysOf, qK, evQ, dMetV, dMetP, lmEnd, lmApp, lmIns, lmPopAt, dNil, dInT, e1, hv]))]
      exact seq_rt (ret_of e5)
    show dEnd 1 (M__law_pace [some b, some (.int n), none]) = _
    unfold M__law_pace
    rw [seq_rt s0]
    rfl
  · have s0 : S__law_pace_0 [some b, some (.int n), none] = some (.nx [some b1, some (.int n), none]) := by
      unfold S__law_pace_0
      rw [if_f (t_of (b := false) (ρ1 := [some b1, some (.int n), none]) (by simp [dFn, dEnd, allS, dSeq, dNx, dRet, dRetV, dRetN, dExpr, dIfS, dAsg, dFor, gN, gTp, gsCons, gsNil, dStop, dBk, dCt, dPar, dC, dV, dQ, qC, qV, qP, qNeg, qOp, dPth, dOp, evOps, dT, dAndT, dOrT, dNotT, dAnd, dOr, dNot, dIf, dCh, oII, hAdd, hSub, hMul, hMod, hDiv, hPow, hLt, hLe, hGt, hGe, a_oLt, a_oLe, a_oGt, a_oGe, a_oAdd, a_oSub, a_oMul, a_oMod, a_oDiv, a_oPow, a_oEq, a_oNe, oEqF, eqF, orF, oIsN, isNo, oIn, inD, rowOf, oNeg, oIsi, oIsi2, isI, isB, isS, isT, isL, oLen, oInt, oAbs, a_oMin2, a_oMax2, oMin3, dTup, dLst, dFz, frz, frzs, noOwn, noOwns, dCall, dCallEnd, lendD, backE, dMethV, isC, dMake, dLenO, kids, withKids, posS, getS, getP, putP, getR, putR, rV, rIxP, rKeyP, rFld, idxD, putFd, dFldS, mSeq, shr, mZip2, mEnum, dYes, isF, sv, List.replicate, Option.map, gSetK, gSetL, gSetT, putKD, Rm.keyOf, keysOf, qK, evQ, dMetV, dMetP, lmEnd, lmApp, lmIns, lmPopAt, dNil, dInT, e1, hv]))]
      rfl
    obtain ⟨acc, ρ2, q1, b3, ps, hρ, ha, hlen, hle, hb3⟩ := comp_mem (i := mRange1 (.v 1)) (a := gN 2) (c := dYes) (e := dCall F__law_from [.v 0, .e (dLst [dC (.int 0), dC (.int 1), dC (.int 1), dC (.int 2), dC (.int 3), dC (.int 4), dC (.int 5), dC (.int 6), dC (.int 7)])] []) (vs := [2]) (ρ := [some b1, some (.int n), none]) (ρ0 := [some b1, some (.int n), none]) (xs := rangeD 0 n)
      (fun pre acc ρ => ∃ (b' : D) (ps : List Nat), ρ = [some b', some (.int n), none] ∧ acc = ps.map iD ∧ ps.length = pre.length ∧ (∀ p ∈ ps, p ≤ 7) ∧ Bx b')
      (mRange1_nat (by simp [dFn, dEnd, allS, dSeq, dNx, dRet, dRetV, dRetN, dExpr, dIfS, dAsg, dFor, gN, gTp, gsCons, gsNil, dStop, dBk, dCt, dPar, dC, dV, dQ, qC, qV, qP, qNeg, qOp, dPth, dOp, evOps, dT, dAndT, dOrT, dNotT, dAnd, dOr, dNot, dIf, dCh, oII, hAdd, hSub, hMul, hMod, hDiv, hPow, hLt, hLe, hGt, hGe, a_oLt, a_oLe, a_oGt, a_oGe, a_oAdd, a_oSub, a_oMul, a_oMod, a_oDiv, a_oPow, a_oEq, a_oNe, oEqF, eqF, orF, oIsN, isNo, oIn, inD, rowOf, oNeg, oIsi, oIsi2, isI, isB, isS, isT, isL, oLen, oInt, oAbs, a_oMin2, a_oMax2, oMin3, dTup, dLst, dFz, frz, frzs, noOwn, noOwns, dCall, dCallEnd, lendD, backE, dMethV, isC, dMake, dLenO, kids, withKids, posS, getS, getP, putP, getR, putR, rV, rIxP, rKeyP, rFld, idxD, putFd, dFldS, mSeq, shr, mZip2, mEnum, dYes, isF, sv, List.replicate, Option.map, gSetK, gSetL, gSetT, putKD, Rm.keyOf, keysOf, qK, evQ, dMetV, dMetP, lmEnd, lmApp, lmIns, lmPopAt, dNil, dInT]) (by omega)) (by simp [savOk]) (by rw [rangeD_len]; omega) ⟨b1, [], rfl, rfl, rfl, by simp, hb1⟩ fun p1 x p2 acc ρ hx ⟨b', ps, hρ, ha, hl, hle, hb'⟩ => by
        subst hρ ha
        obtain ⟨p, b4, e4, hy, hb4⟩ := from_nat (o := true) (ms := [0, 1, 1, 2, 3, 4, 5, 6, 7]) hb' (by simp) (by simp)
        have hp : p ≤ 7 := by simp at hy; omega
        have e4 : F__law_from [b', .lst true [.int 0, .int 1, .int 1, .int 2, .int 3, .int 4, .int 5, .int 6, .int 7]] = some (iD p, [b4]) := e4
        refine ⟨[some b', some (.int n), some x], true, [some b', some (.int n), some x], by simp [gN], rfl, fun h => (by cases h), fun _ => ⟨iD p, [some b4, some (.int n), some x], ?_, b4, ps ++ [p], by simp [wipeE], by simp, by simp [hl], fun q hq => ?_, hb4⟩⟩
        · simp [evOps, dCall, dLst, dC, dCallEnd, lendD, backE, e4]
        · rcases List.mem_append.mp hq with h | h
          · exact hle q h
          · have : q = p := by simpa using h
            rw [this]; exact hp
    subst hρ ha
    refine ⟨ps, b3, ?_, by rw [hlen, rangeD_len], hle, hb3⟩
    have s1 : S__law_pace_1 [some b1, some (.int n), none] = some (.rt (lotD ps) [some b3, some (.int n), none]) := by
      refine ret_of ?_
      have := fz_of (op1_of (f := oTup) (x := lotD ps) q1 (by simp [oTup, rowOf, no_iD, lotD]))
      rw [frz_lot] at this
      simpa [restE] using this
    show dEnd 1 (M__law_pace [some b, some (.int n), none]) = _
    unfold M__law_pace
    rw [seq_nx s0, seq_rt s1]
    rfl
/-! ### ways -/
def wD (p : Nat × Nat) : D := .tup [iD p.1, iD p.2]
def Ways (n : Nat) (ps : List (Nat × Nat)) : Prop := ps.Nodup ∧ ∀ p ∈ ps, p.1 < n ∧ p.2 < n ∧ p.1 ≠ p.2
theorem no_wD (p : Nat × Nat) : noOwn (wD p) = true := by simp [wD, noOwn, noOwns, iD]
theorem no_ws (ps : List (Nat × Nat)) : noOwns (ps.map wD) = true := noOwns_of fun x hx => by
  obtain ⟨i, _, rfl⟩ := List.mem_map.mp hx
  exact no_wD i
theorem fz_ws (ps : List (Nat × Nat)) : frzs (ps.map wD) = ps.map wD := frzs_of (no_ws ps)
theorem Ways.sub {n : Nat} {ps qs : List (Nat × Nat)} (h : Ways n ps) (s : qs.Sublist ps) : Ways n qs := ⟨h.1.sublist s, fun p hp => h.2 p (s.subset hp)⟩
theorem Ways.perm {n : Nat} {ps qs : List (Nat × Nat)} (h : Ways n ps) (s : qs.Perm ps) : Ways n qs := ⟨s.nodup_iff.mpr h.1, fun p hp => h.2 p (s.mem_iff.mp hp)⟩
def unw : D → Nat × Nat
  | .tup [.int a, .int b] => (a.toNat, b.toNat)
  | _ => (0, 0)
theorem unw_w (p : Nat × Nat) : unw (wD p) = p := by simp [unw, wD, iD]
theorem perm_map {qs : List D} {ps : List (Nat × Nat)} (h : qs.Perm (ps.map wD)) : ∃ rs : List (Nat × Nat), qs = rs.map wD ∧ rs.Perm ps := by
  refine ⟨qs.map unw, ?_, ?_⟩
  · rw [List.map_map]
    refine (List.map_id _).symm.trans (List.map_congr_left fun q hq => ?_)
    obtain ⟨p, _, rfl⟩ := List.mem_map.mp (h.mem_iff.mp hq)
    show id (wD p) = wD (unw (wD p))
    rw [unw_w]; rfl
  · have := h.map unw
    rw [List.map_map, show (unw ∘ wD) = id from funext unw_w, List.map_id] at this
    exact this
end K11
set_option Elab.async false
set_option linter.all false
set_option maxRecDepth 100000
set_option maxHeartbeats 4000000
namespace K11
open PySem L2 Rm
theorem ix20 : ixN 2 0 = some 0 := rfl
theorem ix21 : ixN 2 1 = some 1 := rfl
def wE (b : D) (n : Nat) (e : D) (w3 : Option D) (v t : Int) (x : Option D) : Rm.Env := [some b, some (.int n), some e, w3, some (.int v), some (.int t), none, x]
theorem filt_ok {b : D} {n : Nat} {o : Bool} {ev : List (Nat × Nat)} {w3 : Option D} {v t : Int} {c : MT} (hb : Bx b) (hl : ev.length ≤ 1000)
    (hc : ∀ b' p, Bx b' → p ∈ ev → ∃ bl b2, c (wE b' n (.lst false (ev.map wD)) w3 v t (some (wD p))) = some (bl, wE b2 n (.lst false (ev.map wD)) w3 v t (some (wD p))) ∧ Bx b2) :
    ∃ (rs : List (Nat × Nat)) (b2 : D), dComp (mSeq (dV 2)) [7] (gN 7) c (dV 7) (wE b n (.lst o (ev.map wD)) w3 v t none) = some (.lst true (rs.map wD), wE b2 n (.lst false (ev.map wD)) w3 v t none) ∧ rs.Sublist ev ∧ Bx b2 := by
  obtain ⟨acc, ρ2, q1, b2, hρ, hs, hb2⟩ := comp_mem (i := mSeq (dV 2)) (a := gN 7) (c := c) (e := dV 7) (vs := [7]) (ρ := wE b n (.lst o (ev.map wD)) w3 v t none) (ρ0 := wE b n (.lst false (ev.map wD)) w3 v t none) (xs := ev.map wD)
    (fun pre acc ρ => ∃ b', ρ = wE b' n (.lst false (ev.map wD)) w3 v t none ∧ acc.Sublist pre ∧ Bx b')
    (by cases o <;> simp [dFn, dEnd, allS, dSeq, dNx, dRet, dRetV, dRetN, dExpr, dIfS, dAsg, dFor, gN, gTp, gsCons, gsNil, dStop, dBk, dCt, dPar, dC, dV, dQ, qC, qV, qP, qNeg, qOp, dPth, dOp, evOps, dT, dAndT, dOrT, dNotT, dAnd, dOr, dNot, dIf, dCh, oII, hAdd, hSub, hMul, hMod, hDiv, hPow, hLt, hLe, hGt, hGe, a_oLt, a_oLe, a_oGt, a_oGe, a_oAdd, a_oSub, a_oMul, a_oMod, a_oDiv, a_oPow, a_oEq, a_oNe, oEqF, eqF, orF, oIsN, isNo, oIn, inD, rowOf, oNeg, oIsi, oIsi2, isI, isB, isS, isT, isL, oLen, oInt, oAbs, a_oMin2, a_oMax2, oMin3, dTup, dLst, dFz, frz, frzs, noOwn, noOwns, dCall, dCallEnd, lendD, backE, dMethV, isC, dMake, dLenO, kids, withKids, posS, getS, getP, putP, getR, putR, rV, rIxP, rKeyP, rFld, idxD, putFd, dFldS, mSeq, shr, mZip2, mEnum, dYes, isF, sv, List.replicate, Option.map, gSetK, gSetL, gSetT, putKD, Rm.keyOf, keysOf, qK, evQ, dMetV, dMetP, lmEnd, lmApp, lmIns, lmPopAt, dNil, dInT, wE, no_ws, fz_ws]) (by simp [savOk, wE]) (by simp; omega) ⟨b, by simp [wE, wipeE], List.Sublist.refl _, hb⟩ fun p1 x p2 acc ρ hx ⟨b', hρ, hs, hb'⟩ => by
      subst hρ
      obtain ⟨p, hp, rfl⟩ := List.mem_map.mp (show x ∈ ev.map wD by rw [hx]; simp)
      obtain ⟨bl, b2, e1, hb2⟩ := hc b' p hb' hp
      refine ⟨wE b' n (.lst false (ev.map wD)) w3 v t (some (wD p)), bl, _, by simp [gN, wE], e1, fun _ => ⟨b2, by simp [wE, wipeE], hs.trans (List.sublist_append_left _ _), hb2⟩, fun _ => ⟨wD p, wE b2 n (.lst false (ev.map wD)) w3 v t (some (wD p)), by simp [dV, wE, no_wD], b2, by simp [wE, wipeE], hs.append (List.Sublist.refl _), hb2⟩⟩
  obtain ⟨rs, hrs, rfl⟩ := List.sublist_map_iff.mp hs
  refine ⟨rs, b2, ?_, hrs, hb2⟩
  rw [q1, hρ]
  simp [restE, wE]
theorem every_ok {b : D} {n : Nat} (hn : 1 ≤ n ∧ n ≤ 8) : ∃ (ev : List (Nat × Nat)) (w3 : Option D), dFor (mRange1 (.v 1)) (gN 3) B__law_ways_1 [some b, some (.int n), some (.lst true []), none, none, none, none, none] = some (.nx [some b, some (.int n), some (.lst true (ev.map wD)), w3, none, none, none, none]) ∧ Ways n ev ∧ ev.length ≤ n * n := by
  have er : mRange1 (.v 1) [some b, some (.int n), some (.lst true []), none, none, none, none, none] = some (rangeD 0 n, [some b, some (.int n), some (.lst true []), none, none, none, none, none]) := mRange1_nat (by simp [dFn, dEnd, allS, dSeq, dNx, dRet, dRetV, dRetN, dExpr, dIfS, dAsg, dFor, gN, gTp, gsCons, gsNil, dStop, dBk, dCt, dPar, dC, dV, dQ, qC, qV, qP, qNeg, qOp, dPth, dOp, evOps, dT, dAndT, dOrT, dNotT, dAnd, dOr, dNot, dIf, dCh, oII, hAdd, hSub, hMul, hMod, hDiv, hPow, hLt, hLe, hGt, hGe, a_oLt, a_oLe, a_oGt, a_oGe, a_oAdd, a_oSub, a_oMul, a_oMod, a_oDiv, a_oPow, a_oEq, a_oNe, oEqF, eqF, orF, oIsN, isNo, oIn, inD, rowOf, oNeg, oIsi, oIsi2, isI, isB, isS, isT, isL, oLen, oInt, oAbs, a_oMin2, a_oMax2, oMin3, dTup, dLst, dFz, frz, frzs, noOwn, noOwns, dCall, dCallEnd, lendD, backE, dMethV, isC, dMake, dLenO, kids, withKids, posS, getS, getP, putP, getR, putR, rV, rIxP, rKeyP, rFld, idxD, putFd, dFldS, mSeq, shr, mZip2, mEnum, dYes, isF, sv, List.replicate, Option.map, gSetK, gSetL, gSetT, putKD, Rm.keyOf, keysOf, qK, evQ, dMetV, dMetP, lmEnd, lmApp, lmIns, lmPopAt, dNil, dInT]) (by omega)
  rw [for_of er]
  obtain ⟨ρ', e, ev, w3, hρ, hw, hb, hl⟩ := forL_inv (a := gN 3) (body := B__law_ways_1) (fun i ρ => ∃ (ev : List (Nat × Nat)) (w3 : Option D), ρ = [some b, some (.int n), some (.lst true (ev.map wD)), w3, none, none, none, none] ∧ Ways n ev ∧ (∀ p ∈ ev, p.1 < i) ∧ ev.length ≤ i * n) (xs := rangeD 0 n)
    ⟨[], none, rfl, ⟨List.nodup_nil, by simp⟩, by simp, by simp⟩ fun i x ρ hx ⟨ev, w3, hρ, hw, hb, hl⟩ => by
      subst hρ
      rw [rangeD_eq, List.getElem?_map] at hx
      have hi : i < n := by
        by_cases h : i < n
        · exact h
        · rw [List.getElem?_eq_none (by simp; omega)] at hx; cases hx
      rw [List.getElem?_range hi] at hx
      have hx : x = iD i := (Option.some.inj hx).symm
      subst hx
      have ec : dComp (mRange1 (.v 1)) [6] (gN 6) (dT (dOp oNe [.v 6, .v 3])) (dTup [dV 3, dV 6]) [some b, some (.int n), some (.lst true (ev.map wD)), some (iD i), none, none, none, none] = some (.lst true ((((List.range n).filter fun j => decide (j ≠ i)).map fun j => (i, j)).map wD), [some b, some (.int n), some (.lst true (ev.map wD)), some (iD i), none, none, none, none]) := by
        have := comp_pure (i := mRange1 (.v 1)) (vs := [6]) (a := gN 6) (c := dT (dOp oNe [.v 6, .v 3])) (e := dTup [dV 3, dV 6]) (ρ := [some b, some (.int n), some (.lst true (ev.map wD)), some (iD i), none, none, none, none]) (ρ0 := [some b, some (.int n), some (.lst true (ev.map wD)), some (iD i), none, none, none, none]) (xs := rangeD 0 n)
          (fun x => match x with | .int j => !decide (j = (i : Int)) | _ => false) (fun x => .tup [iD i, x]) (mRange1_nat (by simp [dFn, dEnd, allS, dSeq, dNx, dRet, dRetV, dRetN, dExpr, dIfS, dAsg, dFor, gN, gTp, gsCons, gsNil, dStop, dBk, dCt, dPar, dC, dV, dQ, qC, qV, qP, qNeg, qOp, dPth, dOp, evOps, dT, dAndT, dOrT, dNotT, dAnd, dOr, dNot, dIf, dCh, oII, hAdd, hSub, hMul, hMod, hDiv, hPow, hLt, hLe, hGt, hGe, a_oLt, a_oLe, a_oGt, a_oGe, a_oAdd, a_oSub, a_oMul, a_oMod, a_oDiv, a_oPow, a_oEq, a_oNe, oEqF, eqF, orF, oIsN, isNo, oIn, inD, rowOf, oNeg, oIsi, oIsi2, isI, isB, isS, isT, isL, oLen, oInt, oAbs, a_oMin2, a_oMax2, oMin3, dTup, dLst, dFz, frz, frzs, noOwn, noOwns, dCall, dCallEnd, lendD, backE, dMethV, isC, dMake, dLenO, kids, withKids, posS, getS, getP, putP, getR, putR, rV, rIxP, rKeyP, rFld, idxD, putFd, dFldS, mSeq, shr, mZip2, mEnum, dYes, isF, sv, List.replicate, Option.map, gSetK, gSetL, gSetT, putKD, Rm.keyOf, keysOf, qK, evQ, dMetV, dMetP, lmEnd, lmApp, lmIns, lmPopAt, dNil, dInT]) (by omega)) (by simp [savOk]) (by rw [rangeD_len]; omega) fun x hx => by
            obtain ⟨j, hj, rfl⟩ := range_mem hx
            refine ⟨[some b, some (.int n), some (.lst true (ev.map wD)), some (iD i), none, none, some (.int j), none], by simp [gN, wipeE], by simp [dFn, dEnd, allS, dSeq, dNx, dRet, dRetV, dRetN, dExpr, dIfS, dAsg, dFor, gN, gTp, gsCons, gsNil, dStop, dBk, dCt, dPar, dC, dV, dQ, qC, qV, qP, qNeg, qOp, dPth, dOp, evOps, dT, dAndT, dOrT, dNotT, dAnd, dOr, dNot, dIf, dCh, oII, hAdd, hSub, hMul, hMod, hDiv, hPow, hLt, hLe, hGt, hGe, a_oLt, a_oLe, a_oGt, a_oGe, a_oAdd, a_oSub, a_oMul, a_oMod, a_oDiv, a_oPow, a_oEq, a_oNe, oEqF, eqF, orF, oIsN, isNo, oIn, inD, rowOf, oNeg, oIsi, oIsi2, isI, isB, isS, isT, isL, oLen, oInt, oAbs, a_oMin2, a_oMax2, oMin3, dTup, dLst, dFz, frz, frzs, noOwn, noOwns, dCall, dCallEnd, lendD, backE, dMethV, isC, dMake, dLenO, kids, withKids, posS, getS, getP, putP, getR, putR, rV, rIxP, rKeyP, rFld, idxD, putFd, dFldS, mSeq, shr, mZip2, mEnum, dYes, isF, sv, List.replicate, Option.map, gSetK, gSetL, gSetT, putKD, Rm.keyOf, keysOf, qK, evQ, dMetV, dMetP, lmEnd, lmApp, lmIns, lmPopAt, dNil, dInT, iD], fun _ => by simp [dFn, dEnd, allS, dSeq, dNx, dRet, dRetV, dRetN, dExpr, dIfS, dAsg, dFor, gN, gTp, gsCons, gsNil, dStop, dBk, dCt, dPar, dC, dV, dQ, qC, qV, qP, qNeg, qOp, dPth, dOp, evOps, dT, dAndT, dOrT, dNotT, dAnd, dOr, dNot, dIf, dCh, oII, hAdd, hSub, hMul, hMod, hDiv, hPow, hLt, hLe, hGt, hGe, a_oLt, a_oLe, a_oGt, a_oGe, a_oAdd, a_oSub, a_oMul, a_oMod, a_oDiv, a_oPow, a_oEq, a_oNe, oEqF, eqF, orF, oIsN, isNo, oIn, inD, rowOf, oNeg, oIsi, oIsi2, isI, isB, isS, isT, isL, oLen, oInt, oAbs, a_oMin2, a_oMax2, oMin3, dTup, dLst, dFz, frz, frzs, noOwn, noOwns, dCall, dCallEnd, lendD, backE, dMethV, isC, dMake, dLenO, kids, withKids, posS, getS, getP, putP, getR, putR, rV, rIxP, rKeyP, rFld, idxD, putFd, dFldS, mSeq, shr, mZip2, mEnum, dYes, isF, sv, List.replicate, Option.map, gSetK, gSetL, gSetT, putKD, Rm.keyOf, keysOf, qK, evQ, dMetV, dMetP, lmEnd, lmApp, lmIns, lmPopAt, dNil, dInT, iD], by simp [wipeE]⟩
        rw [this, rangeD_eq, List.filter_map, List.map_map, List.map_map]
        have e1 : ((fun x : D => match x with | .int j => !decide (j = (i : Int)) | _ => false) ∘ iD) = fun j => decide (j ≠ i) := by
          funext j
          show (!decide ((j : Int) = (i : Int))) = decide (j ≠ i)
          by_cases h : j = i
          · subst h; simp
          · have : ¬ (j : Int) = (i : Int) := by omega
            simp [h, this]
        rw [e1]
        simp [restE, wipeE]
        intro a _ _; rfl
      have nw : Ways n (ev ++ ((List.range n).filter fun j => decide (j ≠ i)).map fun j => (i, j)) := by
        refine ⟨List.nodup_append.mpr ⟨hw.1, ?_, fun p hp q hq e => ?_⟩, fun p hp => ?_⟩
        · have := ((List.nodup_range (n := n)).filter fun j => decide (j ≠ i))
          exact List.Pairwise.map _ (fun a b h z => h (by injection z)) this
        · obtain ⟨j, hj, rfl⟩ := List.mem_map.mp hq
          have := hb p hp
          rw [e] at this
          exact Nat.lt_irrefl _ this
        · rcases List.mem_append.mp hp with h | h
          · exact hw.2 p h
          · obtain ⟨j, hj, rfl⟩ := List.mem_map.mp h
            obtain ⟨h1, h2⟩ := List.mem_filter.mp hj
            have h2 : j ≠ i := by simpa using h2
            exact ⟨hi, List.mem_range.mp h1, fun z => h2 z.symm⟩
      have nl : (ev ++ ((List.range n).filter fun j => decide (j ≠ i)).map fun j => (i, j)).length ≤ (i + 1) * n := by
        have h1 : ((List.range n).filter fun j => decide (j ≠ i)).length ≤ n := by
          have := List.length_filter_le (fun j => decide (j ≠ i)) (List.range n)
          simpa using this
        rw [List.length_append, List.length_map, Nat.succ_mul]
        omega
      refine ⟨[some b, some (.int n), some (.lst true (ev.map wD)), some (iD i), none, none, none, none], [some b, some (.int n), some (.lst true ((ev ++ ((List.range n).filter fun j => decide (j ≠ i)).map fun j => (i, j)).map wD)), some (iD i), none, none, none, none], by simp [gN], .inl ?_, _, _, rfl, nw, fun p hp => ?_, nl⟩
      · unfold B__law_ways_1
        refine (seq_nx (b := dNx) (asg_of (d := .lst true ((ev ++ ((List.range n).filter fun j => decide (j ≠ i)).map fun j => (i, j)).map wD)) (ρ1 := [some b, some (.int n), some (.lst true (ev.map wD)), some (iD i), none, none, none, none]) ?_ rfl)).trans rfl
        have hz : ev.length + ((List.range n).filter fun j => decide (j ≠ i)).length ≤ 100000 := by
          rw [List.length_append, List.length_map] at nl
          have : (i + 1) * n ≤ 8 * 8 := Nat.mul_le_mul (by omega) (by omega)
          omega
        refine op_ve (i := 2) rfl ec rfl ?_
        rw [List.map_append]
        exact oAdd_lst (no_ws _) (no_ws _) (by rw [List.length_map, List.length_map, List.length_map]; exact hz)
      · rcases List.mem_append.mp hp with h | h
        · have := hb p h; omega
        · obtain ⟨j, hj, rfl⟩ := List.mem_map.mp h
          exact Nat.lt_succ_self i
  rw [rangeD_len] at hl
  refine ⟨ev, w3, ?_, hw, hl⟩
  rw [hρ] at e
  exact e
end K11
set_option Elab.async false
set_option linter.all false
set_option maxRecDepth 100000
set_option maxHeartbeats 4000000
namespace K11
open PySem L2 Rm
theorem frz_ws {o : Bool} (ps : List (Nat × Nat)) : frz (.lst o (ps.map wD)) = .lst false (ps.map wD) := by unfold frz; rw [fz_ws]
theorem tail_filt {b : D} {n : Nat} {o : Bool} {ev : List (Nat × Nat)} {w3 : Option D} {v t : Int} {c : MT} (hb : Bx b) (hw : Ways n ev) (hl : ev.length ≤ 1000)
    (hc : ∀ b' p, Bx b' → p ∈ ev → ∃ bl b2, c (wE b' n (.lst false (ev.map wD)) w3 v t (some (wD p))) = some (bl, wE b2 n (.lst false (ev.map wD)) w3 v t (some (wD p))) ∧ Bx b2) :
    ∃ (rs : List (Nat × Nat)) (b2 : D), dRet (dFz (dComp (mSeq (dV 2)) [7] (gN 7) c (dV 7))) (wE b n (.lst o (ev.map wD)) w3 v t none) = some (.rt (.lst false (rs.map wD)) (wE b2 n (.lst false (ev.map wD)) w3 v t none)) ∧ Ways n rs ∧ Bx b2 := by
  obtain ⟨rs, b2, e, hs, hb2⟩ := filt_ok (o := o) hb hl hc
  exact ⟨rs, b2, by rw [ret_of (fz_of e), frz_ws], hw.sub hs, hb2⟩
theorem eqT {b : D} {n : Nat} {e : D} {w3 x : Option D} {v t : Int} (k : Int) : dT (dOp oEq [.v 4, .e (dC (.int k))]) (wE b n e w3 v t x) = some (decide (v = k), wE b n e w3 v t x) := by simp [dFn, dEnd, allS, dSeq, dNx, dRet, dRetV, dRetN, dExpr, dIfS, dAsg, dFor, gN, gTp, gsCons, gsNil, dStop, dBk, dCt, dPar, dC, dV, dQ, qC, qV, qP, qNeg, qOp, dPth, dOp, evOps, dT, dAndT, dOrT, dNotT, dAnd, dOr, dNot, dIf, dCh, oII, hAdd, hSub, hMul, hMod, hDiv, hPow, hLt, hLe, hGt, hGe, a_oLt, a_oLe, a_oGt, a_oGe, a_oAdd, a_oSub, a_oMul, a_oMod, a_oDiv, a_oPow, a_oEq, a_oNe, oEqF, eqF, orF, oIsN, isNo, oIn, inD, rowOf, oNeg, oIsi, oIsi2, isI, isB, isS, isT, isL, oLen, oInt, oAbs, a_oMin2, a_oMax2, oMin3, dTup, dLst, dFz, frz, frzs, noOwn, noOwns, dCall, dCallEnd, lendD, backE, dMethV, isC, dMake, dLenO, kids, withKids, posS, getS, getP, putP, getR, putR, rV, rIxP, rKeyP, rFld, idxD, putFd, dFldS, mSeq, shr, mZip2, mEnum, dYes, isF, sv, List.replicate, Option.map, gSetK, gSetL, gSetT, putKD, Rm.keyOf, keysOf, qK, evQ, dMetV, dMetP, lmEnd, lmApp, lmIns, lmPopAt, dNil, dInT, wE]
theorem skip {b : D} {n : Nat} {e : D} {w3 x : Option D} {v t : Int} {k : Int} {m : MS} (h : v ≠ k) : dIfS (dT (dOp oEq [.v 4, .e (dC (.int k))])) m dNx (wE b n e w3 v t x) = some (.nx (wE b n e w3 v t x)) := by
  rw [if_f (by rw [eqT, decide_eq_false h])]; rfl
theorem ways_ok {b : D} {n : Nat} (hb : Bx b) (hn : 1 ≤ n ∧ n ≤ 8) : ∃ (ps : List (Nat × Nat)) (b' : D), F__law_ways [b, .int n] = some (.lst false (ps.map wD), [b']) ∧ Ways n ps ∧ ps.length ≤ 64 ∧ Bx b' := by
  obtain ⟨ev, w3, e2, hw, hl⟩ := every_ok (b := b) hn
  have hl64 : ev.length ≤ 64 := Nat.le_trans hl (show n * n ≤ 8 * 8 from Nat.mul_le_mul hn.2 hn.2)
  obtain ⟨v, b1, e3, hb1, _⟩ := pick_ok (m := 8) hb (by omega) (by omega)
  obtain ⟨w, b2, e4, hb2, _⟩ := pick_ok (m := 5) hb1 (by omega) (by omega)
  have s3 : S__law_ways_3 [some b, some (.int n), some (.lst true (ev.map wD)), w3, none, none, none, none] = some (.nx (wE b2 n (.lst true (ev.map wD)) w3 v (1 + w) none)) := by
    simp [S__law_ways_3, dFn, dEnd, allS, dSeq, dNx, dRet, dRetV, dRetN, dExpr, dIfS, dAsg, dFor, gN, gTp, gsCons, gsNil, dStop, dBk, dCt, dPar, dC, dV, dQ, qC, qV, qP, qNeg, qOp, dPth, dOp, evOps, dT, dAndT, dOrT, dNotT, dAnd, dOr, dNot, dIf, dCh, oII, hAdd, hSub, hMul, hMod, hDiv, hPow, hLt, hLe, hGt, hGe, a_oLt, a_oLe, a_oGt, a_oGe, a_oAdd, a_oSub, a_oMul, a_oMod, a_oDiv, a_oPow, a_oEq, a_oNe, oEqF, eqF, orF, oIsN, isNo, oIn, inD, rowOf, oNeg, oIsi, oIsi2, isI, isB, isS, isT, isL, oLen, oInt, oAbs, a_oMin2, a_oMax2, oMin3, dTup, dLst, dFz, frz, frzs, noOwn, noOwns, dCall, dCallEnd, lendD, backE, dMethV, isC, dMake, dLenO, kids, withKids, posS, getS, getP, putP, getR, putR, rV, rIxP, rKeyP, rFld, idxD, putFd, dFldS, mSeq, shr, mZip2, mEnum, dYes, isF, sv, List.replicate, Option.map, gSetK, gSetL, gSetT, putKD, Rm.keyOf, keysOf, qK, evQ, dMetV, dMetP, lmEnd, lmApp, lmIns, lmPopAt, dNil, dInT, e3, e4, wE]
  have fin : ∀ {ps : List (Nat × Nat)} {b' : D} {ρ : Rm.Env}, Ways n ps → ps.length ≤ 64 → Bx b' → (dSeq S__law_ways_4 (dSeq S__law_ways_5 (dSeq S__law_ways_6 (dSeq S__law_ways_7 (dSeq S__law_ways_8 (dSeq S__law_ways_9 dNx)))))) (wE b2 n (.lst true (ev.map wD)) w3 v (1 + w) none) = some (.rt (.lst false (ps.map wD)) ρ) → ρ[0]? = some (some b') →
      ∃ (ps : List (Nat × Nat)) (b' : D), F__law_ways [b, .int n] = some (.lst false (ps.map wD), [b']) ∧ Ways n ps ∧ ps.length ≤ 64 ∧ Bx b' := fun {ps b' ρ} h1 h2 h3 h4 h5 => by
    refine ⟨ps, b', ?_, h1, h2, h3⟩
    show dEnd 1 (M__law_ways [some b, some (.int n), none, none, none, none, none, none]) = _
    unfold M__law_ways
    rw [seq_nx (a := S__law_ways_0) (ρ1 := [some b, some (.int n), some (.lst true []), none, none, none, none, none]) (by simp [S__law_ways_0, dFn, dEnd, allS, dSeq, dNx, dRet, dRetV, dRetN, dExpr, dIfS, dAsg, dFor, gN, gTp, gsCons, gsNil, dStop, dBk, dCt, dPar, dC, dV, dQ, qC, qV, qP, qNeg, qOp, dPth, dOp, evOps, dT, dAndT, dOrT, dNotT, dAnd, dOr, dNot, dIf, dCh, oII, hAdd, hSub, hMul, hMod, hDiv, hPow, hLt, hLe, hGt, hGe, a_oLt, a_oLe, a_oGt, a_oGe, a_oAdd, a_oSub, a_oMul, a_oMod, a_oDiv, a_oPow, a_oEq, a_oNe, oEqF, eqF, orF, oIsN, isNo, oIn, inD, rowOf, oNeg, oIsi, oIsi2, isI, isB, isS, isT, isL, oLen, oInt, oAbs, a_oMin2, a_oMax2, oMin3, dTup, dLst, dFz, frz, frzs, noOwn, noOwns, dCall, dCallEnd, lendD, backE, dMethV, isC, dMake, dLenO, kids, withKids, posS, getS, getP, putP, getR, putR, rV, rIxP, rKeyP, rFld, idxD, putFd, dFldS, mSeq, shr, mZip2, mEnum, dYes, isF, sv, List.replicate, Option.map, gSetK, gSetL, gSetT, putKD, Rm.keyOf, keysOf, qK, evQ, dMetV, dMetP, lmEnd, lmApp, lmIns, lmPopAt, dNil, dInT]), seq_nx (a := S__law_ways_2) e2, seq_nx s3, h4]
    match ρ, h5 with
    | [], h5 => simp at h5
    | x :: ρ, h5 =>
      have h5 : x = some b' := by simpa using h5
      subst h5
      rfl
  have sim : ∀ {c : MT} {k : Int} {S : MS}, S = dIfS (dT (dOp oEq [.v 4, .e (dC (.int k))])) (dSeq (dRet (dFz (dComp (mSeq (dV 2)) [7] (gN 7) c (dV 7)))) dNx) dNx → v = k →
      (∀ b' p, Bx b' → p ∈ ev → ∃ bl b2, c (wE b' n (.lst false (ev.map wD)) w3 v (1 + w) (some (wD p))) = some (bl, wE b2 n (.lst false (ev.map wD)) w3 v (1 + w) (some (wD p))) ∧ Bx b2) →
      ∃ (rs : List (Nat × Nat)) (b3 : D) (ρ : Rm.Env), S (wE b2 n (.lst true (ev.map wD)) w3 v (1 + w) none) = some (.rt (.lst false (rs.map wD)) ρ) ∧ ρ[0]? = some (some b3) ∧ Ways n rs ∧ rs.length ≤ 64 ∧ Bx b3 := fun {c k S} hS hv hc => by
    obtain ⟨rs, b3, e, hs, hb3⟩ := filt_ok (o := true) hb2 (by omega) hc
    refine ⟨rs, b3, wE b3 n (.lst false (ev.map wD)) w3 v (1 + w) none, ?_, rfl, hw.sub hs, Nat.le_trans hs.length_le hl64, hb3⟩
    rw [hS, if_t (by rw [eqT, decide_eq_true hv])]
    exact seq_rt (by rw [ret_of (fz_of e), frz_ws])
  by_cases h0 : v = 0
  · obtain ⟨rs, b3, ρ, e, h5, h6, h7, h8⟩ := sim (S := S__law_ways_4) rfl h0 fun b' p hb' hp => ⟨_, b', by simp [dFn, dEnd, allS, dSeq, dNx, dRet, dRetV, dRetN, dExpr, dIfS, dAsg, dFor, gN, gTp, gsCons, gsNil, dStop, dBk, dCt, dPar, dC, dV, dQ, qC, qV, qP, qNeg, qOp, dPth, dOp, evOps, dT, dAndT, dOrT, dNotT, dAnd, dOr, dNot, dIf, dCh, oII, hAdd, hSub, hMul, hMod, hDiv, hPow, hLt, hLe, hGt, hGe, a_oLt, a_oLe, a_oGt, a_oGe, a_oAdd, a_oSub, a_oMul, a_oMod, a_oDiv, a_oPow, a_oEq, a_oNe, oEqF, eqF, orF, oIsN, isNo, oIn, inD, rowOf, oNeg, oIsi, oIsi2, isI, isB, isS, isT, isL, oLen, oInt, oAbs, a_oMin2, a_oMax2, oMin3, dTup, dLst, dFz, frz, frzs, noOwn, noOwns, dCall, dCallEnd, lendD, backE, dMethV, isC, dMake, dLenO, kids, withKids, posS, getS, getP, putP, getR, putR, rV, rIxP, rKeyP, rFld, idxD, putFd, dFldS, mSeq, shr, mZip2, mEnum, dYes, isF, sv, List.replicate, Option.map, gSetK, gSetL, gSetT, putKD, Rm.keyOf, keysOf, qK, evQ, dMetV, dMetP, lmEnd, lmApp, lmIns, lmPopAt, dNil, dInT, wE, wD, iD, ix20, ix21]; rfl, hb'⟩
    exact fin h6 h7 h8 (seq_rt e) h5
  · have k4 : S__law_ways_4 (wE b2 n (.lst true (ev.map wD)) w3 v (1 + w) none) = some (.nx (wE b2 n (.lst true (ev.map wD)) w3 v (1 + w) none)) := skip h0
    by_cases h1 : v = 1
    · obtain ⟨rs, b3, ρ, e, h5, h6, h7, h8⟩ := sim (S := S__law_ways_5) rfl h1 fun b' p hb' hp => ⟨_, b', by simp [dFn, dEnd, allS, dSeq, dNx, dRet, dRetV, dRetN, dExpr, dIfS, dAsg, dFor, gN, gTp, gsCons, gsNil, dStop, dBk, dCt, dPar, dC, dV, dQ, qC, qV, qP, qNeg, qOp, dPth, dOp, evOps, dT, dAndT, dOrT, dNotT, dAnd, dOr, dNot, dIf, dCh, oII, hAdd, hSub, hMul, hMod, hDiv, hPow, hLt, hLe, hGt, hGe, a_oLt, a_oLe, a_oGt, a_oGe, a_oAdd, a_oSub, a_oMul, a_oMod, a_oDiv, a_oPow, a_oEq, a_oNe, oEqF, eqF, orF, oIsN, isNo, oIn, inD, rowOf, oNeg, oIsi, oIsi2, isI, isB, isS, isT, isL, oLen, oInt, oAbs, a_oMin2, a_oMax2, oMin3, dTup, dLst, dFz, frz, frzs, noOwn, noOwns, dCall, dCallEnd, lendD, backE, dMethV, isC, dMake, dLenO, kids, withKids, posS, getS, getP, putP, getR, putR, rV, rIxP, rKeyP, rFld, idxD, putFd, dFldS, mSeq, shr, mZip2, mEnum, dYes, isF, sv, List.replicate, Option.map, gSetK, gSetL, gSetT, putKD, Rm.keyOf, keysOf, qK, evQ, dMetV, dMetP, lmEnd, lmApp, lmIns, lmPopAt, dNil, dInT, wE, wD, iD, ix20, ix21]; rfl, hb'⟩
      exact fin h6 h7 h8 (by rw [seq_nx k4]; exact seq_rt e) h5
    · have k5 : S__law_ways_5 (wE b2 n (.lst true (ev.map wD)) w3 v (1 + w) none) = some (.nx (wE b2 n (.lst true (ev.map wD)) w3 v (1 + w) none)) := skip h1
      by_cases h2 : v = 2
      · obtain ⟨rs, b3, ρ, e, h5, h6, h7, h8⟩ := sim (S := S__law_ways_6) rfl h2 fun b' p hb' hp => ⟨_, b', by simp [dFn, dEnd, allS, dSeq, dNx, dRet, dRetV, dRetN, dExpr, dIfS, dAsg, dFor, gN, gTp, gsCons, gsNil, dStop, dBk, dCt, dPar, dC, dV, dQ, qC, qV, qP, qNeg, qOp, dPth, dOp, evOps, dT, dAndT, dOrT, dNotT, dAnd, dOr, dNot, dIf, dCh, oII, hAdd, hSub, hMul, hMod, hDiv, hPow, hLt, hLe, hGt, hGe, a_oLt, a_oLe, a_oGt, a_oGe, a_oAdd, a_oSub, a_oMul, a_oMod, a_oDiv, a_oPow, a_oEq, a_oNe, oEqF, eqF, orF, oIsN, isNo, oIn, inD, rowOf, oNeg, oIsi, oIsi2, isI, isB, isS, isT, isL, oLen, oInt, oAbs, a_oMin2, a_oMax2, oMin3, dTup, dLst, dFz, frz, frzs, noOwn, noOwns, dCall, dCallEnd, lendD, backE, dMethV, isC, dMake, dLenO, kids, withKids, posS, getS, getP, putP, getR, putR, rV, rIxP, rKeyP, rFld, idxD, putFd, dFldS, mSeq, shr, mZip2, mEnum, dYes, isF, sv, List.replicate, Option.map, gSetK, gSetL, gSetT, putKD, Rm.keyOf, keysOf, qK, evQ, dMetV, dMetP, lmEnd, lmApp, lmIns, lmPopAt, dNil, dInT, wE, wD, iD, ix20, ix21, show 0 < n by omega]; rfl, hb'⟩
        exact fin h6 h7 h8 (by rw [seq_nx k4, seq_nx k5]; exact seq_rt e) h5
      · have k6 : S__law_ways_6 (wE b2 n (.lst true (ev.map wD)) w3 v (1 + w) none) = some (.nx (wE b2 n (.lst true (ev.map wD)) w3 v (1 + w) none)) := skip h2
        by_cases h3 : v = 3
        · obtain ⟨rs, b3, ρ, e, h5, h6, h7, h8⟩ := sim (S := S__law_ways_7) rfl h3 fun b' p hb' hp => ⟨_, b', by simp [dFn, dEnd, allS, dSeq, dNx, dRet, dRetV, dRetN, dExpr, dIfS, dAsg, dFor, gN, gTp, gsCons, gsNil, dStop, dBk, dCt, dPar, dC, dV, dQ, qC, qV, qP, qNeg, qOp, dPth, dOp, evOps, dT, dAndT, dOrT, dNotT, dAnd, dOr, dNot, dIf, dCh, oII, hAdd, hSub, hMul, hMod, hDiv, hPow, hLt, hLe, hGt, hGe, a_oLt, a_oLe, a_oGt, a_oGe, a_oAdd, a_oSub, a_oMul, a_oMod, a_oDiv, a_oPow, a_oEq, a_oNe, oEqF, eqF, orF, oIsN, isNo, oIn, inD, rowOf, oNeg, oIsi, oIsi2, isI, isB, isS, isT, isL, oLen, oInt, oAbs, a_oMin2, a_oMax2, oMin3, dTup, dLst, dFz, frz, frzs, noOwn, noOwns, dCall, dCallEnd, lendD, backE, dMethV, isC, dMake, dLenO, kids, withKids, posS, getS, getP, putP, getR, putR, rV, rIxP, rKeyP, rFld, idxD, putFd, dFldS, mSeq, shr, mZip2, mEnum, dYes, isF, sv, List.replicate, Option.map, gSetK, gSetL, gSetT, putKD, Rm.keyOf, keysOf, qK, evQ, dMetV, dMetP, lmEnd, lmApp, lmIns, lmPopAt, dNil, dInT, wE, wD, iD, ix20, ix21]; rfl, hb'⟩
          exact fin h6 h7 h8 (by rw [seq_nx k4, seq_nx k5, seq_nx k6]; exact seq_rt e) h5
        · have k7 : S__law_ways_7 (wE b2 n (.lst true (ev.map wD)) w3 v (1 + w) none) = some (.nx (wE b2 n (.lst true (ev.map wD)) w3 v (1 + w) none)) := skip h3
          by_cases h4 : v = 4
          · have k8 : S__law_ways_8 (wE b2 n (.lst true (ev.map wD)) w3 v (1 + w) none) = some (.rt (.lst false (ev.map wD)) (wE b2 n (.lst false (ev.map wD)) w3 v (1 + w) none)) := by
              unfold S__law_ways_8
              rw [if_t (by rw [eqT, decide_eq_true h4])]
              exact seq_rt (ret_of (by simp [dV, wE, noOwn, frz, fz_ws]))
            exact fin hw hl64 hb2 (by rw [seq_nx k4, seq_nx k5, seq_nx k6, seq_nx k7]; exact seq_rt k8) rfl
          · have k8 : S__law_ways_8 (wE b2 n (.lst true (ev.map wD)) w3 v (1 + w) none) = some (.nx (wE b2 n (.lst true (ev.map wD)) w3 v (1 + w) none)) := skip h4
            obtain ⟨rs, b3, e, hs, hb3⟩ := filt_ok (o := true) (ev := ev) (w3 := w3) (v := v) (t := 1 + w) (c := dT (dOp oLt [.e (dCall F__law_pick [.v 0, .e (dC (.int 6))] []), .v 5])) (n := n) hb2 (show ev.length ≤ 1000 by omega) fun b' p hb' hp => by
              obtain ⟨u, b4, e5, hb4, _⟩ := pick_ok (m := 6) hb' (by omega) (by omega)
              exact ⟨_, b4, by simp [dFn, dEnd, allS, dSeq, dNx, dRet, dRetV, dRetN, dExpr, dIfS, dAsg, dFor, gN, gTp, gsCons, gsNil, dStop, dBk, dCt, dPar, dC, dV, dQ, qC, qV, qP, qNeg, qOp, dPth, dOp, evOps, dT, dAndT, dOrT, dNotT, dAnd, dOr, dNot, dIf, dCh, oII, hAdd, hSub, hMul, hMod, hDiv, hPow, hLt, hLe, hGt, hGe, a_oLt, a_oLe, a_oGt, a_oGe, a_oAdd, a_oSub, a_oMul, a_oMod, a_oDiv, a_oPow, a_oEq, a_oNe, oEqF, eqF, orF, oIsN, isNo, oIn, inD, rowOf, oNeg, oIsi, oIsi2, isI, isB, isS, isT, isL, oLen, oInt, oAbs, a_oMin2, a_oMax2, oMin3, dTup, dLst, dFz, frz, frzs, noOwn, noOwns, dCall, dCallEnd, lendD, backE, dMethV, isC, dMake, dLenO, kids, withKids, posS, getS, getP, putP, getR, putR, rV, rIxP, rKeyP, rFld, idxD, putFd, dFldS, mSeq, shr, mZip2, mEnum, dYes, isF, sv, List.replicate, Option.map, gSetK, gSetL, gSetT, putKD, Rm.keyOf, keysOf, qK, evQ, dMetV, dMetP, lmEnd, lmApp, lmIns, lmPopAt, dNil, dInT, wE, e5]; rfl, hb4⟩
            have hrl := Nat.le_trans hs.length_le hl64
            obtain ⟨ys, b4, e6, hp, hb4⟩ := mixed_ok (o := true) (xs := rs.map wD) hb3 (by rw [List.length_map]; omega) (no_ws rs)
            obtain ⟨qs, rfl, hq⟩ := perm_map hp
            have k9 : S__law_ways_9 (wE b2 n (.lst true (ev.map wD)) w3 v (1 + w) none) = some (.rt (.lst false (qs.map wD)) (wE b4 n (.lst false (ev.map wD)) w3 v (1 + w) none)) := by
              refine ret_of ?_
              rw [← frz_ws (o := false) qs]
              refine fz_of ?_
              exact call_ve (i := 0) rfl e rfl e6
            exact fin ((hw.sub hs).perm hq) (by rw [hq.length_eq]; exact hrl) hb4 (by rw [seq_nx k4, seq_nx k5, seq_nx k6, seq_nx k7, seq_nx k8]; exact seq_rt k9) rfl
theorem board_ok {b : D} (hb : Bx b) : ∃ (n : Nat) (ps : List (Nat × Nat)) (b' : D), F__law_board [b, .int 8] = some (.tup [.int n, .lst false (ps.map wD)], [b']) ∧ (1 ≤ n ∧ n ≤ 8) ∧ Ways n ps ∧ ps.length ≤ 64 ∧ Bx b' := by
  obtain ⟨v, b1, e1, hb1, _⟩ := pick_ok (m := 3) hb (by omega) (by omega)
  have : ∃ (n : Nat) (b2 : D), S__law_board_0 [some b, some (.int 8), none] = some (.nx [some b2, some (.int 8), some (.int n)]) ∧ (1 ≤ n ∧ n ≤ 8) ∧ Bx b2 := by
    by_cases hv : v = 0
    · exact ⟨8, b1, by simp [S__law_board_0, dFn, dEnd, allS, dSeq, dNx, dRet, dRetV, dRetN, dExpr, dIfS, dAsg, dFor, gN, gTp, gsCons, gsNil, dStop, dBk, dCt, dPar, dC, dV, dQ, qC, qV, qP, qNeg, qOp, dPth, dOp, evOps, dT, dAndT, dOrT, dNotT, dAnd, dOr, dNot, dIf, dCh, oII, hAdd, hSub, hMul, hMod, hDiv, hPow, hLt, hLe, hGt, hGe, a_oLt, a_oLe, a_oGt, a_oGe, a_oAdd, a_oSub, a_oMul, a_oMod, a_oDiv, a_oPow, a_oEq, a_oNe, oEqF, eqF, orF, oIsN, isNo, oIn, inD, rowOf, oNeg, oIsi, oIsi2, isI, isB, isS, isT, isL, oLen, oInt, oAbs, a_oMin2, a_oMax2, oMin3, dTup, dLst, dFz, frz, frzs, noOwn, noOwns, dCall, dCallEnd, lendD, backE, dMethV, isC, dMake, dLenO, kids, withKids, posS, getS, getP, putP, getR, putR, rV, rIxP, rKeyP, rFld, idxD, putFd, dFldS, mSeq, shr, mZip2, mEnum, dYes, isF, sv, List.replicate, Option.map, gSetK, gSetL, gSetT, putKD, Rm.keyOf, keysOf, qK, evQ, dMetV, dMetP, lmEnd, lmApp, lmIns, lmPopAt, dNil, dInT, e1, hv], by omega, hb1⟩
    · obtain ⟨w, b2, e2, hb2, g0, g1⟩ := pick_ok (m := 8) hb1 (by omega) (by omega)
      obtain ⟨k, rfl⟩ := Int.eq_ofNat_of_zero_le g0
      refine ⟨1 + k, b2, ?_, by omega, hb2⟩
      simp [S__law_board_0, dFn, dEnd, allS, dSeq, dNx, dRet, dRetV, dRetN, dExpr, dIfS, dAsg, dFor, gN, gTp, gsCons, gsNil, dStop, dBk, dCt, dPar, dC, dV, dQ, qC, qV, qP, qNeg, qOp, dPth, dOp, evOps, dT, dAndT, dOrT, dNotT, dAnd, dOr, dNot, dIf, dCh, oII, hAdd, hSub, hMul, hMod, hDiv, hPow, hLt, hLe, hGt, hGe, a_oLt, a_oLe, a_oGt, a_oGe, a_oAdd, a_oSub, a_oMul, a_oMod, a_oDiv, a_oPow, a_oEq, a_oNe, oEqF, eqF, orF, oIsN, isNo, oIn, inD, rowOf, oNeg, oIsi, oIsi2, isI, isB, isS, isT, isL, oLen, oInt, oAbs, a_oMin2, a_oMax2, oMin3, dTup, dLst, dFz, frz, frzs, noOwn, noOwns, dCall, dCallEnd, lendD, backE, dMethV, isC, dMake, dLenO, kids, withKids, posS, getS, getP, putP, getR, putR, rV, rIxP, rKeyP, rFld, idxD, putFd, dFldS, mSeq, shr, mZip2, mEnum, dYes, isF, sv, List.replicate, Option.map, gSetK, gSetL, gSetT, putKD, Rm.keyOf, keysOf, qK, evQ, dMetV, dMetP, lmEnd, lmApp, lmIns, lmPopAt, dNil, dInT, e1, hv, e2]
  obtain ⟨n, b2, s0, hn, hb2⟩ := this
  obtain ⟨ps, b3, e3, hw, hl, hb3⟩ := ways_ok hb2 hn
  refine ⟨n, ps, b3, ?_, hn, hw, hl, hb3⟩
  have s1 : S__law_board_1 [some b2, some (.int 8), some (.int n)] = some (.rt (.tup [.int n, .lst false (ps.map wD)]) [some b3, some (.int 8), some (.int n)]) := by
    refine ret_of ?_
    have := fz_of (tup2_of (m1 := dV 2) (ρ := [some b2, some (.int 8), some (.int n)]) (v_of (i := 2) rfl rfl) (call_ve (i := 0) rfl (v_of (i := 2) rfl rfl) rfl e3))
    simpa [frz, frzs, fz_ws] using this
  show dEnd 1 (M__law_board [some b, some (.int 8), none]) = _
  unfold M__law_board
  rw [seq_nx s0, seq_rt s1]
  rfl
end K11
set_option Elab.async false
set_option linter.all false
set_option maxRecDepth 100000
set_option maxHeartbeats 4000000
namespace K11
open PySem L2 Rm
/-! ### walks -/
def Wk (ws : List (Nat × Nat)) : Nat → Nat → Nat → Prop
  | 0, i, j => i = j
  | k + 1, i, j => ∃ a, Wk ws k i a ∧ (a, j) ∈ ws
theorem Wk.cat {ws : List (Nat × Nat)} {i a : Nat} {k : Nat} (h1 : Wk ws k i a) : ∀ {l j : Nat}, Wk ws l a j → Wk ws (k + l) i j
  | 0, j, h => by have h : a = j := h; subst h; exact h1
  | l + 1, j, ⟨b, h, e⟩ => ⟨b, Wk.cat h1 h, e⟩
theorem Wk.lt {ws : List (Nat × Nat)} {n i : Nat} (hw : Ways n ws) : ∀ {k j : Nat}, Wk ws (k + 1) i j → j < n := fun {k j} ⟨a, _, e⟩ => (hw.2 _ e).2.1
/-- inner places below m -/
def Wm (ws : List (Nat × Nat)) (m : Nat) : Nat → Nat → Nat → Prop
  | 0, i, j => i = j
  | k + 1, i, j => ∃ a, Wm ws m k i a ∧ (a, j) ∈ ws ∧ (k = 0 ∨ a < m)
theorem Wm.split {ws : List (Nat × Nat)} {m i : Nat} : ∀ {k j : Nat}, Wm ws (m + 1) k i j → Wm ws m k i j ∨ ∃ k1 k2, k1 + k2 ≤ k ∧ Wm ws m k1 i m ∧ Wm ws m k2 m j
  | 0, j, h => .inl h
  | k + 1, j, ⟨a, h, e, ha⟩ => by
    rcases Wm.split h with h | ⟨k1, k2, hk, h1, h2⟩
    · by_cases hc : k = 0 ∨ a < m
      · exact .inl ⟨a, h, e, hc⟩
      · have : a = m := by omega
        subst this
        exact .inr ⟨k, 1, by omega, h, a, rfl, e, .inl rfl⟩
    · by_cases hc : k2 = 0 ∨ a < m
      · exact .inr ⟨k1, k2 + 1, by omega, h1, a, h2, e, hc⟩
      · have : a = m := by omega
        subst this
        exact .inr ⟨k1, 1, by omega, h1, a, rfl, e, .inl rfl⟩
theorem Wm.of {ws : List (Nat × Nat)} {n i : Nat} (hw : Ways n ws) : ∀ {k j : Nat}, Wk ws k i j → Wm ws n k i j
  | 0, j, h => h
  | k + 1, j, ⟨a, h, e⟩ => ⟨a, Wm.of hw h, e, .inr (hw.2 _ e).1⟩
/-! ### matrices -/
def rowD (o : Bool) (r : List Nat) : D := .lst o (r.map iD)
def mD (o : Bool) (M : List (List Nat)) : D := .lst o (M.map (rowD o))
def gt (M : List (List Nat)) (i j : Nat) : Nat := (M.getD i []).getD j 0
def st (M : List (List Nat)) (i j v : Nat) : List (List Nat) := M.set i ((M.getD i []).set j v)
def Sq (n : Nat) (M : List (List Nat)) : Prop := M.length = n ∧ ∀ r ∈ M, r.length = n
theorem Sq.at {n : Nat} {M : List (List Nat)} (h : Sq n M) {i j : Nat} (hi : i < n) (hj : j < n) : ∃ r, M[i]? = some r ∧ r.length = n ∧ r[j]? = some (gt M i j) ∧ M.getD i [] = r := by
  have h1 : i < M.length := by rw [h.1]; exact hi
  have e1 : M.getD i [] = M[i] := by rw [List.getD_eq_getElem?_getD, List.getElem?_eq_getElem h1]; rfl
  have h2 := h.2 M[i] (List.getElem_mem h1)
  refine ⟨M[i], List.getElem?_eq_getElem h1, h2, ?_, e1⟩
  unfold gt
  rw [e1, List.getD_eq_getElem?_getD, List.getElem?_eq_getElem (by omega)]
  rfl
theorem gt_st {n : Nat} {M : List (List Nat)} (h : Sq n M) {i j v a b : Nat} (hi : i < n) (hj : j < n) : gt (st M i j v) a b = if a = i ∧ b = j then v else gt M a b := by
  obtain ⟨r, e1, e2, e3, e4⟩ := h.at hi hj
  have h1 : i < M.length := by rw [h.1]; exact hi
  unfold gt st
  rw [e4]
  by_cases ha : a = i
  · subst ha
    rw [show (M.set a (r.set j v)).getD a [] = r.set j v by rw [List.getD_eq_getElem?_getD, List.getElem?_set_self h1]; rfl, e4]
    by_cases hb : b = j
    · subst hb
      rw [if_pos ⟨rfl, rfl⟩, List.getD_eq_getElem?_getD, List.getElem?_set_self (by omega)]; rfl
    · rw [if_neg fun z => hb z.2, List.getD_eq_getElem?_getD, List.getElem?_set_ne (Ne.symm hb), ← List.getD_eq_getElem?_getD]
  · rw [if_neg fun z => ha z.1]
    rw [show (M.set i (r.set j v)).getD a [] = M.getD a [] by rw [List.getD_eq_getElem?_getD, List.getElem?_set_ne (Ne.symm ha), ← List.getD_eq_getElem?_getD]]
theorem Sq.st {n : Nat} {M : List (List Nat)} (h : Sq n M) {i j v : Nat} (hi : i < n) (hj : j < n) : Sq n (st M i j v) := by
  obtain ⟨r, e1, e2, e3, e4⟩ := h.at hi hj
  refine ⟨by unfold K11.st; rw [List.length_set]; exact h.1, fun x hx => ?_⟩
  unfold K11.st at hx
  rw [e4] at hx
  rcases List.mem_or_eq_of_mem_set hx with hx | hx
  · exact h.2 x hx
  · rw [hx, List.length_set]; exact e2
def sE (bd : D) (n : Nat) (wd : D) (M : List (List Nat)) (a b c : Option D) : Rm.Env := [some bd, some (.int n), some wd, some (mD true M), a, b, c]
theorem no_row (o : Bool) (r : List Nat) : noOwns (r.map iD) = true := no_iD r
theorem read_cell {n : Nat} {M : List (List Nat)} (h : Sq n M) {ρ : Rm.Env} {x y i j : Nat} (h3 : ρ[3]? = some (some (mD true M))) (hx : ρ[x]? = some (some (iD i))) (hy : ρ[y]? = some (some (iD j))) (hi : i < n) (hj : j < n) :
    dPth (rIxP (rIxP (rV 3) (qV x)) (qV y)) ρ = some (iD (gt M i j), ρ) := by
  obtain ⟨r, e1, e2, e3, e4⟩ := h.at hi hj
  have q1 : ixN M.length (i : Int) = some i := ixN_nat (by rw [h.1]; exact hi)
  have q2 : ixN r.length (j : Int) = some j := ixN_nat (by omega)
  simp [dPth, dQ, qP, rIxP, rV, qV, hx, hy, h3, noOwn, iD, getR, getP, getS, posS, kids, mD, rowD, q1, q2, e1, e3]
theorem set_cell {n : Nat} {M : List (List Nat)} (h : Sq n M) {ρ : Rm.Env} {m : Rm.M} {x y i j v : Nat} (h3 : ρ[3]? = some (some (mD true M))) (hx : ρ[x]? = some (some (iD i))) (hy : ρ[y]? = some (some (iD j))) (hi : i < n) (hj : j < n) (hm : m ρ = some (iD v, ρ)) :
    dAsg m (gSetL (rIxP (rV 3) (qV x)) (qV y)) ρ = some (.nx (ρ.set 3 (some (mD true (K11.st M i j v))))) := by
  obtain ⟨r, e1, e2, e3, e4⟩ := h.at hi hj
  have q1 : ixN M.length (i : Int) = some i := ixN_nat (by rw [h.1]; exact hi)
  have q2 : ixN r.length (j : Int) = some j := ixN_nat (by omega)
  refine asg_of hm ?_
  have e5 : (M.map (rowD true)).set i (rowD true (r.set j v)) = (K11.st M i j v).map (rowD true) := by
    unfold K11.st
    rw [e4, List.map_set]
  have e6 : ((r.map iD).set j (iD v)) = (r.set j v).map iD := by rw [List.map_set]
  have a1 : rIxP (rV 3) (qV x) ρ = some (3, [.ix (i : Int)]) := by simp [rIxP, rV, qV, hx, noOwn, iD]
  have a2 : qV y ρ = some (.int (j : Int)) := by simp [qV, hy, noOwn, iD]
  have a3 : getR ρ 3 [.ix (i : Int)] = some (rowD true r) := by simp [getR, h3, getP, getS, posS, kids, mD, q1, e1]
  have a4 : putR ρ 3 [.ix (i : Int)] (.lst true ((r.map iD).set j (iD v))) = ρ.set 3 (some (mD true (K11.st M i j v))) := by
    have : putP (mD true M) [.ix (i : Int)] (.lst true ((r.map iD).set j (iD v))) = mD true (K11.st M i j v) := by
      unfold mD
      rw [← e5, e6]
      simp [putP, posS, kids, withKids, q1, e1, rowD]
    unfold putR
    rw [h3]
    simp only [this]
  have a5 : ixN (r.map iD).length (j : Int) = some j := by rw [List.length_map]; exact q2
  unfold gSetL
  simp only [a1, a2, a3, rowD, a5, a4]
end K11
set_option Elab.async false
set_option linter.all false
set_option maxRecDepth 100000
set_option maxHeartbeats 4000000
namespace K11
open PySem L2 Rm
def Snd (ws : List (Nat × Nat)) (n : Nat) (M : List (List Nat)) : Prop := ∀ i j, i < n → j < n → gt M i j ≤ 99 ∧ (gt M i j < 99 → Wk ws (gt M i j) i j)
def Cmp (ws : List (Nat × Nat)) (n m : Nat) (M : List (List Nat)) : Prop := ∀ i j k, i < n → j < n → Wm ws m k i j → gt M i j ≤ k
/-- what the law's spans are -/
structure Dist (ws : List (Nat × Nat)) (n : Nat) (M : List (List Nat)) : Prop where
  sq : Sq n M
  snd : Snd ws n M
  cmp : ∀ i j k, i < n → j < n → Wk ws k i j → gt M i j ≤ k
theorem rd_at {n i : Nat} {x : D} (h : (rangeD 0 n)[i]? = some x) : i < n ∧ x = iD i := by
  have hi : i < n := by have := (List.getElem?_eq_some_iff.mp h).1; rwa [rangeD_len] at this
  refine ⟨hi, ?_⟩
  rw [rangeD_eq, List.getElem?_map, List.getElem?_range hi] at h
  exact (Option.some.inj h).symm
/-- one cell -/
theorem cell {ws : List (Nat × Nat)} {n m i j : Nat} {O M : List (List Nat)} {bd wd : D} (hs : Sq n M) (sn : Snd ws n M) (hm : m < n) (hi : i < n) (hj : j < n) (mono : ∀ a b, a < n → b < n → gt M a b ≤ gt O a b) :
    ∃ M', B__law_spans_4 (sE bd n wd M (some (iD i)) (some (iD j)) (some (iD m))) = some (.nx (sE bd n wd M' (some (iD i)) (some (iD j)) (some (iD m)))) ∧ Sq n M' ∧ Snd ws n M' ∧ (∀ a b, a < n → b < n → gt M' a b ≤ gt M a b) ∧ gt M' i j ≤ gt O i m + gt O m j := by
  have r1 := read_cell hs (ρ := sE bd n wd M (some (iD i)) (some (iD j)) (some (iD m))) (x := 4) (y := 5) rfl rfl rfl hi hj
  have r2 := read_cell hs (ρ := sE bd n wd M (some (iD i)) (some (iD j)) (some (iD m))) (x := 4) (y := 6) rfl rfl rfl hi hm
  have r3 := read_cell hs (ρ := sE bd n wd M (some (iD i)) (some (iD j)) (some (iD m))) (x := 6) (y := 5) rfl rfl rfl hm hj
  have ev : dOp oMin3 [.e (dPth (rIxP (rIxP (rV 3) (qV 4)) (qV 5))), .e (dOp oAdd [.e (dPth (rIxP (rIxP (rV 3) (qV 4)) (qV 6))), .e (dPth (rIxP (rIxP (rV 3) (qV 6)) (qV 5)))]), .e (dC (.int 99))] (sE bd n wd M (some (iD i)) (some (iD j)) (some (iD m))) = some (iD (min (min (gt M i j) (gt M i m + gt M m j)) 99), sE bd n wd M (some (iD i)) (some (iD j)) (some (iD m))) := by
    have e1 : dOp oAdd [.e (dPth (rIxP (rIxP (rV 3) (qV 4)) (qV 6))), .e (dPth (rIxP (rIxP (rV 3) (qV 6)) (qV 5)))] (sE bd n wd M (some (iD i)) (some (iD j)) (some (iD m))) = some (iD (gt M i m + gt M m j), sE bd n wd M (some (iD i)) (some (iD j)) (some (iD m))) := by
      refine op_ee r2 r3 ?_
      simp [a_oAdd, orF, oII, hAdd, iD]
    unfold dOp at e1 ⊢
    simp only [evOps] at e1 ⊢
    simp only [r1, r2, r3] at e1 ⊢
    simp only [e1, dC]
    have mm : ∀ a b : Nat, min2I (a : Int) (b : Int) = ((min a b : Nat) : Int) := fun a b => by unfold min2I; split <;> omega
    show (some (D.int (min2I (min2I ((gt M i j : Nat) : Int) ((gt M i m + gt M m j : Nat) : Int)) ((99 : Nat) : Int)), sE bd n wd M (some (iD i)) (some (iD j)) (some (iD m))) : Option (D × Rm.Env)) = _
    rw [mm, mm]
    rfl
  have s := set_cell hs (ρ := sE bd n wd M (some (iD i)) (some (iD j)) (some (iD m))) (x := 4) (y := 5) rfl rfl rfl hi hj ev
  have g := fun a b => gt_st hs (v := min (min (gt M i j) (gt M i m + gt M m j)) 99) (a := a) (b := b) hi hj
  refine ⟨_, (seq_nx (b := dNx) s).trans rfl, hs.st hi hj, fun a b ha hb => ?_, fun a b ha hb => ?_, ?_⟩
  · rw [g]
    split
    · rename_i hab
      obtain ⟨rfl, rfl⟩ := hab
      refine ⟨by omega, fun h => ?_⟩
      by_cases h1 : gt M a b ≤ gt M a m + gt M m b
      · rw [show min (min (gt M a b) (gt M a m + gt M m b)) 99 = gt M a b by have := (sn a b ha hb).1; omega] at h ⊢
        exact (sn a b ha hb).2 h
      · have h2 := (sn a m ha hm)
        have h3 := (sn m b hm hb)
        rw [show min (min (gt M a b) (gt M a m + gt M m b)) 99 = gt M a m + gt M m b by have := (sn a b ha hb).1; omega] at h ⊢
        exact (h2.2 (by omega)).cat (h3.2 (by omega))
    · exact sn a b ha hb
  · rw [g]
    split
    · rename_i hab
      obtain ⟨rfl, rfl⟩ := hab
      omega
    · exact Nat.le_refl _
  · rw [g, if_pos ⟨rfl, rfl⟩]
    have := mono i m hi hm
    have := mono m j hm hj
    omega
theorem phase {ws : List (Nat × Nat)} {n m : Nat} {O : List (List Nat)} {bd wd : D} {x y : Option D} (hn8 : n ≤ 8) (hs : Sq n O) (sn : Snd ws n O) (hm : m < n) :
    ∃ (M : List (List Nat)) (x' y' : Option D), B__law_spans_6 (sE bd n wd O x y (some (iD m))) = some (.nx (sE bd n wd M x' y' (some (iD m)))) ∧ Sq n M ∧ Snd ws n M ∧ (∀ a b, a < n → b < n → gt M a b ≤ gt O a b) ∧ ∀ a b, a < n → b < n → gt M a b ≤ gt O a m + gt O m b := by
  have er : ∀ (M : List (List Nat)) (x y : Option D), mRange1 (.v 1) (sE bd n wd M x y (some (iD m))) = some (rangeD 0 n, sE bd n wd M x y (some (iD m))) := fun M x y => mRange1_nat (by simp [evOps, sE]) (by omega)
  obtain ⟨ρ', e, M, x', y', hρ, h1, h2, h3, h4⟩ := forL_inv (a := gN 4) (body := B__law_spans_5) (fun i ρ => ∃ (M : List (List Nat)) (x' y' : Option D), ρ = sE bd n wd M x' y' (some (iD m)) ∧ Sq n M ∧ Snd ws n M ∧ (∀ a b, a < n → b < n → gt M a b ≤ gt O a b) ∧ ∀ a b, a < i → a < n → b < n → gt M a b ≤ gt O a m + gt O m b) (xs := rangeD 0 n) (ρ := sE bd n wd O x y (some (iD m)))
    ⟨O, x, y, rfl, hs, sn, fun _ _ _ _ => Nat.le_refl _, fun a b h => absurd h (Nat.not_lt_zero a)⟩ fun i d ρ hd ⟨M, x', y', hρ, h1, h2, h3, h4⟩ => by
      subst hρ
      obtain ⟨hi, rfl⟩ := rd_at hd
      obtain ⟨ρ2, e2, M2, y2, hρ2, k1, k2, k3, k4, k5⟩ := forL_inv (a := gN 5) (body := B__law_spans_4) (fun j ρ => ∃ (M' : List (List Nat)) (y' : Option D), ρ = sE bd n wd M' (some (iD i)) y' (some (iD m)) ∧ Sq n M' ∧ Snd ws n M' ∧ (∀ a b, a < n → b < n → gt M' a b ≤ gt M a b) ∧ (∀ b, b < j → b < n → gt M' i b ≤ gt O i m + gt O m b) ∧ True) (xs := rangeD 0 n) (ρ := sE bd n wd M (some (iD i)) y' (some (iD m)))
        ⟨M, y', rfl, h1, h2, fun _ _ _ _ => Nat.le_refl _, fun b h => absurd h (Nat.not_lt_zero b), trivial⟩ fun j d ρ hd ⟨M', y', hρ, g1, g2, g3, g4, _⟩ => by
          subst hρ
          obtain ⟨hj, rfl⟩ := rd_at hd
          obtain ⟨M2, c1, c2, c3, c4, c5⟩ := cell (O := O) (bd := bd) (wd := wd) g1 g2 hm hi hj fun a b ha hb => Nat.le_trans (g3 a b ha hb) (h3 a b ha hb)
          refine ⟨sE bd n wd M' (some (iD i)) (some (iD j)) (some (iD m)), _, rfl, .inl c1, M2, _, rfl, c2, c3, fun a b ha hb => Nat.le_trans (c4 a b ha hb) (g3 a b ha hb), fun b hb hbn => ?_, trivial⟩
          by_cases hbj : b = j
          · subst hbj; exact c5
          · exact Nat.le_trans (c4 i b hi hbn) (g4 b (by omega) hbn)
      rw [rangeD_len] at k4
      refine ⟨sE bd n wd M (some (iD i)) y' (some (iD m)), sE bd n wd M2 (some (iD i)) y2 (some (iD m)), rfl, .inl ?_, M2, _, _, rfl, k1, k2, fun a b ha hb => Nat.le_trans (k3 a b ha hb) (h3 a b ha hb), fun a b hai ha hb => ?_⟩
      · unfold B__law_spans_5
        exact (seq_nx (b := dNx) ((for_of (er _ _ _)).trans (hρ2 ▸ e2))).trans rfl
      · by_cases hae : a = i
        · subst hae; exact k4 b hb hb
        · exact Nat.le_trans (k3 a b ha hb) (h4 a b (by omega) ha hb)
  rw [rangeD_len] at h4
  refine ⟨M, x', y', ?_, h1, h2, h3, fun a b ha hb => h4 a b ha ha hb⟩
  unfold B__law_spans_6
  exact (seq_nx (b := dNx) ((for_of (er _ _ _)).trans (hρ ▸ e))).trans rfl
end K11
set_option Elab.async false
set_option linter.all false
set_option maxRecDepth 100000
set_option maxHeartbeats 4000000
namespace K11
open PySem L2 Rm
def bD (n : Nat) (ws : List (Nat × Nat)) : D := .tup [.int n, .lst false (ws.map wD)]
def wsD (ws : List (Nat × Nat)) : D := .lst false (ws.map wD)
def M0 (n : Nat) : List (List Nat) := (List.range n).map fun i => (List.range n).map fun j => if i = j then 0 else 99
theorem M0_sq (n : Nat) : Sq n (M0 n) := ⟨by simp [M0], fun r hr => by
  obtain ⟨i, _, rfl⟩ := List.mem_map.mp hr
  simp⟩
theorem M0_gt {n i j : Nat} (hi : i < n) (hj : j < n) : gt (M0 n) i j = if i = j then 0 else 99 := by
  unfold gt M0
  rw [List.getD_eq_getElem?_getD (l := List.map _ _), List.getElem?_map, List.getElem?_range hi]
  show (List.map _ (List.range n)).getD j 0 = _
  rw [List.getD_eq_getElem?_getD, List.getElem?_map, List.getElem?_range hj]
  rfl
theorem frz_m (o : Bool) (M : List (List Nat)) : frz (mD o M) = mD false M := by
  unfold mD
  have : frzs (M.map (rowD o)) = M.map (rowD false) := by
    rw [frzs_map, List.map_map]
    refine List.map_congr_left fun r _ => ?_
    show frz (rowD o r) = rowD false r
    unfold rowD
    unfold frz
    rw [fz_iD]
  unfold frz
  rw [this]
theorem no_m (M : List (List Nat)) : noOwn (mD false M) = true := by
  rw [← frz_m true M]
  exact frz_noOwn _
theorem tgt2 {ρ : Rm.Env} {a b : Nat} {p : Nat × Nat} (ha : a < ρ.length) (hb : b < ρ.length) : gTp 2 (gsCons (gN a) (gsCons (gN b) gsNil)) (wD p) ρ = some ((ρ.set a (some (iD p.1))).set b (some (iD p.2))) := by
  simp [gTp, gsCons, gsNil, gN, wD, ha, hb]
theorem spans_ok {n : Nat} {ws : List (Nat × Nat)} (hn : 1 ≤ n ∧ n ≤ 8) (hw : Ways n ws) : ∃ M, F__law_spans [bD n ws] = some (mD false M, []) ∧ Dist ws n M := by
  have s0 : S__law_spans_0 [some (bD n ws), none, none, none, none, none, none] = some (.nx [some (bD n ws), some (.int n), some (wsD ws), none, none, none, none]) := by
    simp [S__law_spans_0, bD, wsD, dFn, dEnd, allS, dSeq, dNx, dRet, dRetV, dRetN, dExpr, dIfS, dAsg, dFor, gN, gTp, gsCons, gsNil, dStop, dBk, dCt, dPar, dC, dV, dQ, qC, qV, qP, qNeg, qOp, dPth, dOp, evOps, dT, dAndT, dOrT, dNotT, dAnd, dOr, dNot, dIf, dCh, oII, hAdd, hSub, hMul, hMod, hDiv, hPow, hLt, hLe, hGt, hGe, a_oLt, a_oLe, a_oGt, a_oGe, a_oAdd, a_oSub, a_oMul, a_oMod, a_oDiv, a_oPow, a_oEq, a_oNe, oEqF, eqF, orF, oIsN, isNo, oIn, inD, rowOf, oNeg, oIsi, oIsi2, isI, isB, isS, isT, isL, oLen, oInt, oAbs, a_oMin2, a_oMax2, oMin3, dTup, dLst, dFz, frz, frzs, noOwn, noOwns, dCall, dCallEnd, lendD, backE, dMethV, isC, dMake, dLenO, kids, withKids, posS, getS, getP, putP, getR, putR, rV, rIxP, rKeyP, rFld, idxD, putFd, dFldS, mSeq, shr, mZip2, mEnum, dYes, isF, sv, List.replicate, Option.map, gSetK, gSetL, gSetT, putKD, Rm.keyOf, keysOf, qK, evQ, dMetV, dMetP, lmEnd, lmApp, lmIns, lmPopAt, dNil, dInT, no_ws]
  have c1 : dComp (mRange1 (.v 1)) [4] (gN 4) (dYes) (dComp (mRange1 (.v 1)) [5] (gN 5) (dYes) (dOp oMul [.e (dC (.int 99)), .e (dOp oInt [.e (dOp oNe [.v 4, .v 5])])])) [some (bD n ws), some (.int n), some (wsD ws), none, none, none, none] = some (mD true (M0 n), [some (bD n ws), some (.int n), some (wsD ws), none, none, none, none]) := by
    have := comp_all (i := mRange1 (.v 1)) (vs := [4]) (a := gN 4) (e := dComp (mRange1 (.v 1)) [5] (gN 5) (dYes) (dOp oMul [.e (dC (.int 99)), .e (dOp oInt [.e (dOp oNe [.v 4, .v 5])])])) (ρ := [some (bD n ws), some (.int n), some (wsD ws), none, none, none, none]) (ρ0 := [some (bD n ws), some (.int n), some (wsD ws), none, none, none, none]) (xs := rangeD 0 n)
      (fun x => match x with | .int i => rowD true ((List.range n).map fun (j : Nat) => if i = (j : Int) then 0 else 99) | _ => .non) (mRange1_nat (by simp [dFn, dEnd, allS, dSeq, dNx, dRet, dRetV, dRetN, dExpr, dIfS, dAsg, dFor, gN, gTp, gsCons, gsNil, dStop, dBk, dCt, dPar, dC, dV, dQ, qC, qV, qP, qNeg, qOp, dPth, dOp, evOps, dT, dAndT, dOrT, dNotT, dAnd, dOr, dNot, dIf, dCh, oII, hAdd, hSub, hMul, hMod, hDiv, hPow, hLt, hLe, hGt, hGe, a_oLt, a_oLe, a_oGt, a_oGe, a_oAdd, a_oSub, a_oMul, a_oMod, a_oDiv, a_oPow, a_oEq, a_oNe, oEqF, eqF, orF, oIsN, isNo, oIn, inD, rowOf, oNeg, oIsi, oIsi2, isI, isB, isS, isT, isL, oLen, oInt, oAbs, a_oMin2, a_oMax2, oMin3, dTup, dLst, dFz, frz, frzs, noOwn, noOwns, dCall, dCallEnd, lendD, backE, dMethV, isC, dMake, dLenO, kids, withKids, posS, getS, getP, putP, getR, putR, rV, rIxP, rKeyP, rFld, idxD, putFd, dFldS, mSeq, shr, mZip2, mEnum, dYes, isF, sv, List.replicate, Option.map, gSetK, gSetL, gSetT, putKD, Rm.keyOf, keysOf, qK, evQ, dMetV, dMetP, lmEnd, lmApp, lmIns, lmPopAt, dNil, dInT]) (by omega)) (by simp [savOk]) (by rw [rangeD_len]; omega) fun x hx => by
        obtain ⟨i, hi, rfl⟩ := range_mem hx
        refine ⟨[some (bD n ws), some (.int n), some (wsD ws), none, some (.int i), none, none], by simp [gN, wipeE], ?_, by simp [wipeE]⟩
        have := comp_all (i := mRange1 (.v 1)) (vs := [5]) (a := gN 5) (e := dOp oMul [.e (dC (.int 99)), .e (dOp oInt [.e (dOp oNe [.v 4, .v 5])])]) (ρ := [some (bD n ws), some (.int n), some (wsD ws), none, some (.int i), none, none]) (ρ0 := [some (bD n ws), some (.int n), some (wsD ws), none, some (.int i), none, none]) (xs := rangeD 0 n)
          (fun x => match x with | .int j => iD (if (i : Int) = j then 0 else 99) | _ => .non) (mRange1_nat (by simp [dFn, dEnd, allS, dSeq, dNx, dRet, dRetV, dRetN, dExpr, dIfS, dAsg, dFor, gN, gTp, gsCons, gsNil, dStop, dBk, dCt, dPar, dC, dV, dQ, qC, qV, qP, qNeg, qOp, dPth, dOp, evOps, dT, dAndT, dOrT, dNotT, dAnd, dOr, dNot, dIf, dCh, oII, hAdd, hSub, hMul, hMod, hDiv, hPow, hLt, hLe, hGt, hGe, a_oLt, a_oLe, a_oGt, a_oGe, a_oAdd, a_oSub, a_oMul, a_oMod, a_oDiv, a_oPow, a_oEq, a_oNe, oEqF, eqF, orF, oIsN, isNo, oIn, inD, rowOf, oNeg, oIsi, oIsi2, isI, isB, isS, isT, isL, oLen, oInt, oAbs, a_oMin2, a_oMax2, oMin3, dTup, dLst, dFz, frz, frzs, noOwn, noOwns, dCall, dCallEnd, lendD, backE, dMethV, isC, dMake, dLenO, kids, withKids, posS, getS, getP, putP, getR, putR, rV, rIxP, rKeyP, rFld, idxD, putFd, dFldS, mSeq, shr, mZip2, mEnum, dYes, isF, sv, List.replicate, Option.map, gSetK, gSetL, gSetT, putKD, Rm.keyOf, keysOf, qK, evQ, dMetV, dMetP, lmEnd, lmApp, lmIns, lmPopAt, dNil, dInT]) (by omega)) (by simp [savOk]) (by rw [rangeD_len]; omega) fun x hx => by
            obtain ⟨j, hj, rfl⟩ := range_mem hx
            refine ⟨[some (bD n ws), some (.int n), some (wsD ws), none, some (.int i), some (.int j), none], by simp [gN, wipeE], ?_, by simp [wipeE]⟩
            by_cases hij : (i : Int) = j
            · simp [dFn, dEnd, allS, dSeq, dNx, dRet, dRetV, dRetN, dExpr, dIfS, dAsg, dFor, gN, gTp, gsCons, gsNil, dStop, dBk, dCt, dPar, dC, dV, dQ, qC, qV, qP, qNeg, qOp, dPth, dOp, evOps, dT, dAndT, dOrT, dNotT, dAnd, dOr, dNot, dIf, dCh, oII, hAdd, hSub, hMul, hMod, hDiv, hPow, hLt, hLe, hGt, hGe, a_oLt, a_oLe, a_oGt, a_oGe, a_oAdd, a_oSub, a_oMul, a_oMod, a_oDiv, a_oPow, a_oEq, a_oNe, oEqF, eqF, orF, oIsN, isNo, oIn, inD, rowOf, oNeg, oIsi, oIsi2, isI, isB, isS, isT, isL, oLen, oInt, oAbs, a_oMin2, a_oMax2, oMin3, dTup, dLst, dFz, frz, frzs, noOwn, noOwns, dCall, dCallEnd, lendD, backE, dMethV, isC, dMake, dLenO, kids, withKids, posS, getS, getP, putP, getR, putR, rV, rIxP, rKeyP, rFld, idxD, putFd, dFldS, mSeq, shr, mZip2, mEnum, dYes, isF, sv, List.replicate, Option.map, gSetK, gSetL, gSetT, putKD, Rm.keyOf, keysOf, qK, evQ, dMetV, dMetP, lmEnd, lmApp, lmIns, lmPopAt, dNil, dInT, hij, iD]
            · simp [dFn, dEnd, allS, dSeq, dNx, dRet, dRetV, dRetN, dExpr, dIfS, dAsg, dFor, gN, gTp, gsCons, gsNil, dStop, dBk, dCt, dPar, dC, dV, dQ, qC, qV, qP, qNeg, qOp, dPth, dOp, evOps, dT, dAndT, dOrT, dNotT, dAnd, dOr, dNot, dIf, dCh, oII, hAdd, hSub, hMul, hMod, hDiv, hPow, hLt, hLe, hGt, hGe, a_oLt, a_oLe, a_oGt, a_oGe, a_oAdd, a_oSub, a_oMul, a_oMod, a_oDiv, a_oPow, a_oEq, a_oNe, oEqF, eqF, orF, oIsN, isNo, oIn, inD, rowOf, oNeg, oIsi, oIsi2, isI, isB, isS, isT, isL, oLen, oInt, oAbs, a_oMin2, a_oMax2, oMin3, dTup, dLst, dFz, frz, frzs, noOwn, noOwns, dCall, dCallEnd, lendD, backE, dMethV, isC, dMake, dLenO, kids, withKids, posS, getS, getP, putP, getR, putR, rV, rIxP, rKeyP, rFld, idxD, putFd, dFldS, mSeq, shr, mZip2, mEnum, dYes, isF, sv, List.replicate, Option.map, gSetK, gSetL, gSetT, putKD, Rm.keyOf, keysOf, qK, evQ, dMetV, dMetP, lmEnd, lmApp, lmIns, lmPopAt, dNil, dInT, hij, iD]
        rw [this, rangeD_eq, List.map_map]
        simp only [restE, wipeE, List.set, List.getElem?_cons_succ, List.getElem?_cons_zero, Option.getD_some]
        show some (D.lst true _, _) = some (rowD true _, _)
        unfold rowD
        rw [List.map_map]
        rfl
    rw [this, rangeD_eq, List.map_map]
    simp only [restE, wipeE, List.set, List.getElem?_cons_succ, List.getElem?_cons_zero, Option.getD_some]
    unfold mD M0
    rw [List.map_map]
    have e : ((fun x : D => match x with | .int i => rowD true ((List.range n).map fun (j : Nat) => if i = (j : Int) then 0 else 99) | _ => .non) ∘ iD) = (rowD true ∘ fun i => (List.range n).map fun j => if i = j then 0 else 99) := by
      funext i
      show rowD true ((List.range n).map fun (j : Nat) => if (i : Int) = (j : Int) then 0 else 99) = rowD true _
      refine congrArg (rowD true) (List.map_congr_left fun j _ => ?_)
      by_cases h : i = j
      · simp [h]
      · have h2 : ¬ (i : Int) = (j : Int) := by omega
        simp [h, h2]
    rw [e]
  have s1 : S__law_spans_1 [some (bD n ws), some (.int n), some (wsD ws), none, none, none, none] = some (.nx (sE (bD n ws) n (wsD ws) (M0 n) none none none)) := by
    unfold S__law_spans_1
    exact asg_of c1 rfl
  obtain ⟨ρ3, e3, M1, x1, y1, hρ3, q1, q2, q3, q4⟩ := forL_mem (a := gTp 2 (gsCons (gN 4) (gsCons (gN 5) gsNil))) (body := B__law_spans_2) (fun pre ρ => ∃ (M : List (List Nat)) (x y : Option D), ρ = sE (bD n ws) n (wsD ws) M x y none ∧ Sq n M ∧ Snd ws n M ∧ (∀ i, i < n → gt M i i = 0) ∧ ∀ p : Nat × Nat, p.1 < n → p.2 < n → wD p ∈ pre → gt M p.1 p.2 ≤ 1) (xs := ws.map wD) (ρ := sE (bD n ws) n (wsD ws) (M0 n) none none none)
    ⟨M0 n, none, none, rfl, M0_sq n, fun i j hi hj => by
      rw [M0_gt hi hj]
      split
      · rename_i h
        exact ⟨by omega, fun _ => h⟩
      · exact ⟨by omega, fun h => absurd h (by omega)⟩, fun i hi => by rw [M0_gt hi hi, if_pos rfl], fun p _ _ h => by cases h⟩ fun pre d post ρ hx ⟨M, x, y, hρ, h1, h2, h3, h4⟩ => by
      subst hρ
      obtain ⟨p, hp, rfl⟩ := List.mem_map.mp (show d ∈ ws.map wD by rw [hx]; simp)
      obtain ⟨g1, g2, g3⟩ := hw.2 p hp
      have s := set_cell h1 (ρ := sE (bD n ws) n (wsD ws) M (some (iD p.1)) (some (iD p.2)) none) (m := dC (.int 1)) (x := 4) (y := 5) (v := 1) rfl rfl rfl g1 g2 rfl
      have g := fun a b => gt_st h1 (v := 1) (a := a) (b := b) g1 g2
      refine ⟨sE (bD n ws) n (wsD ws) M (some (iD p.1)) (some (iD p.2)) none, sE (bD n ws) n (wsD ws) (K11.st M p.1 p.2 1) (some (iD p.1)) (some (iD p.2)) none, tgt2 (by simp [sE]) (by simp [sE]), .inl ((seq_nx (b := dNx) s).trans rfl), _, _, _, rfl, h1.st g1 g2, fun i j hi hj => ?_, fun i hi => ?_, fun q k1 k2 hq => ?_⟩
      · rw [g]
        split
        · rename_i h
          obtain ⟨rfl, rfl⟩ := h
          exact ⟨by omega, fun _ => ⟨p.1, rfl, hp⟩⟩
        · exact h2 i j hi hj
      · rw [g, if_neg fun z => g3 (z.1.symm.trans z.2)]
        exact h3 i hi
      · rw [g]
        split
        · exact Nat.le_refl _
        · rename_i hne
          rcases List.mem_append.mp hq with hq | hq
          · exact h4 q k1 k2 hq
          · have e : wD q = wD p := by simpa using hq
            have : q = p := by rw [← unw_w q, e, unw_w]
            subst this
            exact absurd ⟨rfl, rfl⟩ hne
  have s3 : S__law_spans_3 (sE (bD n ws) n (wsD ws) (M0 n) none none none) = some (.nx (sE (bD n ws) n (wsD ws) M1 x1 y1 none)) := by
    unfold S__law_spans_3
    rw [for_of (show mSeq (dV 2) (sE (bD n ws) n (wsD ws) (M0 n) none none none) = some (ws.map wD, sE (bD n ws) n (wsD ws) (M0 n) none none none) by simp [dFn, dEnd, allS, dSeq, dNx, dRet, dRetV, dRetN, dExpr, dIfS, dAsg, dFor, gN, gTp, gsCons, gsNil, dStop, dBk, dCt, dPar, dC, dV, dQ, qC, qV, qP, qNeg, qOp, dPth, dOp, evOps, dT, dAndT, dOrT, dNotT, dAnd, dOr, dNot, dIf, dCh, oII, hAdd, hSub, hMul, hMod, hDiv, hPow, hLt, hLe, hGt, hGe, a_oLt, a_oLe, a_oGt, a_oGe, a_oAdd, a_oSub, a_oMul, a_oMod, a_oDiv, a_oPow, a_oEq, a_oNe, oEqF, eqF, orF, oIsN, isNo, oIn, inD, rowOf, oNeg, oIsi, oIsi2, isI, isB, isS, isT, isL, oLen, oInt, oAbs, a_oMin2, a_oMax2, oMin3, dTup, dLst, dFz, frz, frzs, noOwn, noOwns, dCall, dCallEnd, lendD, backE, dMethV, isC, dMake, dLenO, kids, withKids, posS, getS, getP, putP, getR, putR, rV, rIxP, rKeyP, rFld, idxD, putFd, dFldS, mSeq, shr, mZip2, mEnum, dYes, isF, sv, List.replicate, Option.map, gSetK, gSetL, gSetT, putKD, Rm.keyOf, keysOf, qK, evQ, dMetV, dMetP, lmEnd, lmApp, lmIns, lmPopAt, dNil, dInT, sE, wsD, no_ws])]
    rw [e3, hρ3]
  have c0 : Cmp ws n 0 M1 := fun i j k hi hj h => by
    match k, h with
    | 0, h =>
      have h : i = j := h
      subst h
      rw [q3 i hi]; exact Nat.le_refl 0
    | 1, ⟨a, h, e, _⟩ =>
      have h : i = a := h
      subst h
      exact q4 (i, j) hi hj (List.mem_map.mpr ⟨_, e, rfl⟩)
    | k + 2, ⟨a, h, e, z⟩ => omega
  obtain ⟨ρ7, e7, M, x7, y7, z7, hρ7, r1, r2, r3⟩ := forL_inv (a := gN 6) (body := B__law_spans_6) (fun m ρ => ∃ (M : List (List Nat)) (x y z : Option D), ρ = sE (bD n ws) n (wsD ws) M x y z ∧ Sq n M ∧ Snd ws n M ∧ Cmp ws n m M) (xs := rangeD 0 n) (ρ := sE (bD n ws) n (wsD ws) M1 x1 y1 none)
    ⟨M1, x1, y1, none, rfl, q1, q2, c0⟩ fun m d ρ hd ⟨M, x, y, z, hρ, h1, h2, h3⟩ => by
      subst hρ
      obtain ⟨hm, rfl⟩ := rd_at hd
      obtain ⟨M2, x2, y2, e, g1, g2, g3, g4⟩ := phase (bd := bD n ws) (wd := wsD ws) (x := x) (y := y) hn.2 h1 h2 hm
      refine ⟨sE (bD n ws) n (wsD ws) M x y (some (iD m)), _, rfl, .inl e, M2, _, _, _, rfl, g1, g2, fun i j k hi hj hwm => ?_⟩
      rcases hwm.split with h | ⟨k1, k2, hk, w1, w2⟩
      · exact Nat.le_trans (g3 i j hi hj) (h3 i j k hi hj h)
      · have := g4 i j hi hj
        have := h3 i m k1 hi hm w1
        have := h3 m j k2 hm hj w2
        omega
  have s7 : S__law_spans_7 (sE (bD n ws) n (wsD ws) M1 x1 y1 none) = some (.nx (sE (bD n ws) n (wsD ws) M x7 y7 z7)) := by
    unfold S__law_spans_7
    rw [for_of (mRange1_nat (n := n) (by simp [evOps, sE]; rfl) (by omega)), ← hρ7]
    exact e7
  have s8 : S__law_spans_8 (sE (bD n ws) n (wsD ws) M x7 y7 z7) = some (.rt (mD false M) ((sE (bD n ws) n (wsD ws) M x7 y7 z7).set 3 (some (mD false M)))) := by
    unfold S__law_spans_8
    exact ret_of (vf_of (i := 3) rfl (by simp [noOwn, mD]) (frz_m true M))
  refine ⟨M, ?_, r1, r2, fun i j k hi hj h => r3 i j k hi hj ?_⟩
  · show dEnd 0 (M__law_spans [some (bD n ws), none, none, none, none, none, none]) = _
    unfold M__law_spans
    rw [seq_nx s0, seq_nx s1, seq_nx s3, seq_nx s7, seq_rt s8]
    rfl
  · rw [rangeD_len]
    exact Wm.of hw h
end K11
set_option Elab.async false
set_option linter.all false
set_option maxRecDepth 100000
set_option maxHeartbeats 4000000
namespace K11
open PySem L2 Rm
def oD : Option Nat → D
  | none => .non
  | some k => iD k
def vl (V : List (Option Nat)) (j : Nat) : Option Nat := V.getD j none
def cn : List (Option Nat) → Nat
  | [] => 0
  | none :: V => cn V + 1
  | some _ :: V => cn V
theorem cn_set : ∀ {V : List (Option Nat)} {j k : Nat}, j < V.length → vl V j = none → cn (V.set j (some k)) + 1 = cn V
  | [], j, k, h, _ => by cases h
  | x :: V, 0, k, h, e => by
    have e : x = none := e
    subst e
    rfl
  | x :: V, j + 1, k, h, e => by
    have := cn_set (V := V) (j := j) (k := k) (Nat.lt_of_succ_lt_succ h) e
    cases x with
    | none => show cn (V.set j (some k)) + 1 + 1 = cn V + 1; omega
    | some y => show cn (V.set j (some k)) + 1 = cn V; omega
theorem vl_set {V : List (Option Nat)} {j a : Nat} {x : Option Nat} (h : j < V.length) : vl (V.set j x) a = if a = j then x else vl V a := by
  unfold vl
  by_cases ha : a = j
  · subst ha
    rw [if_pos rfl, List.getD_eq_getElem?_getD, List.getElem?_set_self h]; rfl
  · rw [if_neg ha, List.getD_eq_getElem?_getD, List.getElem?_set_ne (Ne.symm ha), ← List.getD_eq_getElem?_getD]
theorem vl_get {V : List (Option Nat)} {j : Nat} (h : j < V.length) : V[j]? = some (vl V j) := by
  unfold vl
  rw [List.getD_eq_getElem?_getD, List.getElem?_eq_getElem h]; rfl
theorem vl_lt {V : List (Option Nat)} {j k : Nat} (h : vl V j = some k) : j < V.length := by
  by_cases hj : j < V.length
  · exact hj
  · unfold vl at h
    rw [List.getD_eq_getElem?_getD, List.getElem?_eq_none (by omega)] at h
    cases h
def bE (n : Nat) (R : D) (s : Nat) (V : List (Option Nat)) (L T : Option D) (a b c : Option D) : Rm.Env := [some (.int n), some R, some (.int s), some (.lst true (V.map oD)), L, T, a, b, c]
/-- within one level -/
structure Lev (ws : List (Nat × Nat)) (n t : Nat) (L : List Nat) (S0 S : List (Option Nat)) (T : List Nat) : Prop where
  len : S.length = n
  i : ∀ j, vl S j = vl S0 j ∨ (vl S0 j = none ∧ vl S j = some (t + 1) ∧ j ∈ T ∧ ∃ h, h ∈ L ∧ (h, j) ∈ ws)
  ii : ∀ j, j ∈ T → vl S0 j = none ∧ vl S j = some (t + 1)
  iv : cn S + T.length = cn S0
theorem no_oD (V : List (Option Nat)) : noOwns (V.map oD) = true := noOwns_of fun x hx => by
  obtain ⟨o, _, rfl⟩ := List.mem_map.mp hx
  cases o <;> rfl
theorem road {ws : List (Nat × Nat)} {n t s h : Nat} {L T : List Nat} {S0 S : List (Option Nat)} {R Lv : D} {p : Nat × Nat} {y z : Option D} (hw : Ways n ws) (lv : Lev ws n t L S0 S T) (hp : p ∈ ws) (hh : h ∈ L) (h0 : vl S0 h = some t) (hl : T.length + cn S ≤ 1000) :
    ∃ S' T', B_spans_from_3 (bE n R s S (some Lv) (some (.lst true (T.map iD))) (some (iD h)) (some (iD p.1)) (some (iD p.2))) = some (.nx (bE n R s S' (some Lv) (some (.lst true (T'.map iD))) (some (iD h)) (some (iD p.1)) (some (iD p.2)))) ∧ Lev ws n t L S0 S' T' ∧ (∀ j, vl S j ≠ none → vl S' j ≠ none) ∧ (p.1 = h → vl S' p.2 ≠ none) := by
  obtain ⟨g1, g2, g3⟩ := hw.2 p hp
  have hS : vl S h = some t := by
    rcases lv.i h with e | ⟨e, _⟩
    · rw [e, h0]
    · rw [h0] at e; cases e
  have hhn : h < n := by rw [← lv.len]; exact vl_lt hS
  have q1 : ixN (S.map oD).length (p.2 : Int) = some p.2 := ixN_nat (by rw [List.length_map, lv.len]; exact g2)
  have q2 : ixN (S.map oD).length (h : Int) = some h := ixN_nat (by rw [List.length_map, lv.len]; exact hhn)
  have e1 : (S.map oD)[p.2]? = some (oD (vl S p.2)) := by rw [List.getElem?_map, vl_get (by rw [lv.len]; exact g2)]; rfl
  have e2 : (S.map oD)[h]? = some (iD t) := by rw [List.getElem?_map, vl_get (by rw [lv.len]; exact hhn), hS]; rfl
  have r1 : ∀ {e : Rm.Env}, e = bE n R s S (some Lv) (some (.lst true (T.map iD))) (some (iD h)) (some (iD p.1)) (some (iD p.2)) → dPth (rIxP (rV 3) (qV 8)) e = some (oD (vl S p.2), e) := fun {e} he => by
    subst he
    have no : noOwn (oD (vl S p.2)) = true := by cases vl S p.2 <;> rfl
    simp [dPth, dQ, qP, rIxP, rV, qV, bE, noOwn, iD, getR, getP, getS, posS, kids]
    rw [List.length_map] at q1
    rw [List.getElem?_map] at e1
    simp [q1, e1, no]
  have r2 : dPth (rIxP (rV 3) (qV 6)) (bE n R s S (some Lv) (some (.lst true (T.map iD))) (some (iD h)) (some (iD p.1)) (some (iD p.2))) = some (iD t, bE n R s S (some Lv) (some (.lst true (T.map iD))) (some (iD h)) (some (iD p.1)) (some (iD p.2))) := by
    simp [dPth, dQ, qP, rIxP, rV, qV, bE, noOwn, iD, getR, getP, getS, posS, kids]
    rw [List.length_map] at q2
    rw [List.getElem?_map] at e2
    simp [q2]
    rw [show Option.map oD S[h]? = some (iD t) from e2]
    simp [noOwn, iD]
  have t1 : dT (dOp oEq [.v 7, .v 6]) (bE n R s S (some Lv) (some (.lst true (T.map iD))) (some (iD h)) (some (iD p.1)) (some (iD p.2))) = some (decide (p.1 = h), bE n R s S (some Lv) (some (.lst true (T.map iD))) (some (iD h)) (some (iD p.1)) (some (iD p.2))) := by
    simp [dFn, dEnd, allS, dSeq, dNx, dRet, dRetV, dRetN, dExpr, dIfS, dAsg, dFor, gN, gTp, gsCons, gsNil, dStop, dBk, dCt, dPar, dC, dV, dQ, qC, qV, qP, qNeg, qOp, dPth, dOp, evOps, dT, dAndT, dOrT, dNotT, dAnd, dOr, dNot, dIf, dCh, oII, hAdd, hSub, hMul, hMod, hDiv, hPow, hLt, hLe, hGt, hGe, a_oLt, a_oLe, a_oGt, a_oGe, a_oAdd, a_oSub, a_oMul, a_oMod, a_oDiv, a_oPow, a_oEq, a_oNe, oEqF, eqF, orF, oIsN, isNo, oIn, inD, rowOf, oNeg, oIsi, oIsi2, isI, isB, isS, isT, isL, oLen, oInt, oAbs, a_oMin2, a_oMax2, oMin3, dTup, dLst, dFz, frz, frzs, noOwn, noOwns, dCall, dCallEnd, lendD, backE, dMethV, isC, dMake, dLenO, kids, withKids, posS, getS, getP, putP, getR, putR, rV, rIxP, rKeyP, rFld, idxD, putFd, dFldS, mSeq, shr, mZip2, mEnum, dYes, isF, sv, List.replicate, Option.map, gSetK, gSetL, gSetT, putKD, Rm.keyOf, keysOf, qK, evQ, dMetV, dMetP, lmEnd, lmApp, lmIns, lmPopAt, dNil, dInT, bE, iD]
    omega
  have t2 : dT (dOp (oIsN false) [.e (dPth (rIxP (rV 3) (qV 8))), .e (dC (.non))]) (bE n R s S (some Lv) (some (.lst true (T.map iD))) (some (iD h)) (some (iD p.1)) (some (iD p.2))) = some ((vl S p.2).isNone, bE n R s S (some Lv) (some (.lst true (T.map iD))) (some (iD h)) (some (iD p.1)) (some (iD p.2))) := by
    refine t_of (op_ee (r1 rfl) rfl ?_)
    cases vl S p.2 <;> rfl
  by_cases hc : p.1 = h ∧ vl S p.2 = none
  · obtain ⟨c1, c2⟩ := hc
    have tt : dAndT (dT (dOp oEq [.v 7, .v 6])) (dT (dOp (oIsN false) [.e (dPth (rIxP (rV 3) (qV 8))), .e (dC (.non))])) (bE n R s S (some Lv) (some (.lst true (T.map iD))) (some (iD h)) (some (iD p.1)) (some (iD p.2))) = some (true, bE n R s S (some Lv) (some (.lst true (T.map iD))) (some (iD h)) (some (iD p.1)) (some (iD p.2))) := by
      unfold dAndT
      rw [t1, decide_eq_true c1]
      simp only [t2, c2]
      rfl
    have s1 : dAsg (dOp oAdd [.e (dPth (rIxP (rV 3) (qV 6))), .e (dC (.int 1))]) (gSetL (rV 3) (qV 8)) (bE n R s S (some Lv) (some (.lst true (T.map iD))) (some (iD h)) (some (iD p.1)) (some (iD p.2))) = some (.nx (bE n R s (S.set p.2 (some (t + 1))) (some Lv) (some (.lst true (T.map iD))) (some (iD h)) (some (iD p.1)) (some (iD p.2)))) := by
      refine asg_of (d := iD (t + 1)) (op_ee r2 rfl (by simp [a_oAdd, orF, oII, hAdd, iD])) ?_
      have q1' := q1
      rw [List.length_map] at q1'
      simp [gSetL, rV, qV, bE, noOwn, iD, getR, getP, putR, putP, q1', oD]
    have s2 : dExpr (dMetV 5 lmApp [dV 8]) (bE n R s (S.set p.2 (some (t + 1))) (some Lv) (some (.lst true (T.map iD))) (some (iD h)) (some (iD p.1)) (some (iD p.2))) = some (.nx (bE n R s (S.set p.2 (some (t + 1))) (some Lv) (some (.lst true ((T ++ [p.2]).map iD))) (some (iD h)) (some (iD p.1)) (some (iD p.2)))) := by
      simp [dFn, dEnd, allS, dSeq, dNx, dRet, dRetV, dRetN, dExpr, dIfS, dAsg, dFor, gN, gTp, gsCons, gsNil, dStop, dBk, dCt, dPar, dC, dV, dQ, qC, qV, qP, qNeg, qOp, dPth, dOp, evOps, dT, dAndT, dOrT, dNotT, dAnd, dOr, dNot, dIf, dCh, oII, hAdd, hSub, hMul, hMod, hDiv, hPow, hLt, hLe, hGt, hGe, a_oLt, a_oLe, a_oGt, a_oGe, a_oAdd, a_oSub, a_oMul, a_oMod, a_oDiv, a_oPow, a_oEq, a_oNe, oEqF, eqF, orF, oIsN, isNo, oIn, inD, rowOf, oNeg, oIsi, oIsi2, isI, isB, isS, isT, isL, oLen, oInt, oAbs, a_oMin2, a_oMax2, oMin3, dTup, dLst, dFz, frz, frzs, noOwn, noOwns, dCall, dCallEnd, lendD, backE, dMethV, isC, dMake, dLenO, kids, withKids, posS, getS, getP, putP, getR, putR, rV, rIxP, rKeyP, rFld, idxD, putFd, dFldS, mSeq, shr, mZip2, mEnum, dYes, isF, sv, List.replicate, Option.map, gSetK, gSetL, gSetT, putKD, Rm.keyOf, keysOf, qK, evQ, dMetV, dMetP, lmEnd, lmApp, lmIns, lmPopAt, dNil, dInT, bE, iD, show T.length < 100000 by omega]
    refine ⟨S.set p.2 (some (t + 1)), T ++ [p.2], ?_, ⟨by rw [List.length_set]; exact lv.len, fun j => ?_, fun j hj => ?_, ?_⟩, fun j hj => ?_, fun _ => ?_⟩
    · unfold B_spans_from_3
      refine (seq_nx (b := dNx) ?_).trans rfl
      rw [if_t tt]
      exact (seq_nx s1).trans ((seq_nx s2).trans rfl)
    · rw [vl_set (by rw [lv.len]; exact g2)]
      by_cases hj : j = p.2
      · subst hj
        rw [if_pos rfl]
        refine .inr ⟨?_, rfl, by simp, h, hh, by rw [← c1]; exact hp⟩
        rcases lv.i p.2 with e | ⟨e, _⟩
        · rw [← e]; exact c2
        · exact e
      · rw [if_neg hj]
        rcases lv.i j with e | ⟨e3, e4, e5, e6⟩
        · exact .inl e
        · exact .inr ⟨e3, e4, by simp [e5], e6⟩
    · rw [vl_set (by rw [lv.len]; exact g2)]
      rcases List.mem_append.mp hj with hj | hj
      · have := lv.ii j hj
        refine ⟨this.1, ?_⟩
        split
        · rfl
        · exact this.2
      · have hj : j = p.2 := by simpa using hj
        subst hj
        refine ⟨?_, if_pos rfl⟩
        rcases lv.i p.2 with e | ⟨e, _⟩
        · rw [← e]; exact c2
        · exact e
    · have := cn_set (V := S) (k := t + 1) (by rw [lv.len]; exact g2) c2
      have := lv.iv
      rw [List.length_append, List.length_singleton]
      omega
    · rw [vl_set (by rw [lv.len]; exact g2)]
      split
      · simp
      · exact hj
    · rw [vl_set (by rw [lv.len]; exact g2), if_pos rfl]; simp
  · have tt : dAndT (dT (dOp oEq [.v 7, .v 6])) (dT (dOp (oIsN false) [.e (dPth (rIxP (rV 3) (qV 8))), .e (dC (.non))])) (bE n R s S (some Lv) (some (.lst true (T.map iD))) (some (iD h)) (some (iD p.1)) (some (iD p.2))) = some (false, bE n R s S (some Lv) (some (.lst true (T.map iD))) (some (iD h)) (some (iD p.1)) (some (iD p.2))) := by
      unfold dAndT
      rw [t1]
      by_cases c1 : p.1 = h
      · rw [decide_eq_true c1]
        simp only [t2]
        have : vl S p.2 ≠ none := fun z => hc ⟨c1, z⟩
        cases e : vl S p.2 with
        | none => exact absurd e this
        | some k => rfl
      · rw [decide_eq_false c1]
    refine ⟨S, T, ?_, lv, fun j hj => hj, fun c1 z => hc ⟨c1, z⟩⟩
    unfold B_spans_from_3
    refine (seq_nx (b := dNx) ?_).trans rfl
    rw [if_f tt]
    rfl
theorem take_mem {ws : List (Nat × Nat)} {i : Nat} {p q : Nat × Nat} (h : ws[i]? = some p) (hq : q ∈ ws.take (i + 1)) : q ∈ ws.take i ∨ q = p := by
  rw [List.take_add_one, h] at hq
  rcases List.mem_append.mp hq with hq | hq
  · exact .inl hq
  · exact .inr (by simpa using hq)
theorem inner {ws : List (Nat × Nat)} {n t s h : Nat} {L T : List Nat} {S0 S : List (Option Nat)} {Lv : D} {b c : Option D} (hw : Ways n ws) (lv : Lev ws n t L S0 S T) (hh : h ∈ L) (h0 : vl S0 h = some t) (hl : cn S0 ≤ 1000) :
    ∃ (S' : List (Option Nat)) (T' : List Nat) (b' c' : Option D), B_spans_from_4 (bE n (wsD ws) s S (some Lv) (some (.lst true (T.map iD))) (some (iD h)) b c) = some (.nx (bE n (wsD ws) s S' (some Lv) (some (.lst true (T'.map iD))) (some (iD h)) b' c')) ∧ Lev ws n t L S0 S' T' ∧ (∀ j, vl S j ≠ none → vl S' j ≠ none) ∧ ∀ j, (h, j) ∈ ws → vl S' j ≠ none := by
  obtain ⟨ρ', e, S', T', b', c', rfl, q1, q2, q3⟩ := forL_inv (a := gTp 2 (gsCons (gN 7) (gsCons (gN 8) gsNil))) (body := B_spans_from_3) (fun i ρ => ∃ (S' : List (Option Nat)) (T' : List Nat) (b' c' : Option D), ρ = bE n (wsD ws) s S' (some Lv) (some (.lst true (T'.map iD))) (some (iD h)) b' c' ∧ Lev ws n t L S0 S' T' ∧ (∀ j, vl S j ≠ none → vl S' j ≠ none) ∧ ∀ j, (h, j) ∈ ws.take i → vl S' j ≠ none) (xs := ws.map wD) (ρ := bE n (wsD ws) s S (some Lv) (some (.lst true (T.map iD))) (some (iD h)) b c)
    ⟨S, T, b, c, rfl, lv, fun _ h => h, fun j hj => by cases hj⟩ fun i x ρ hx ⟨S1, T1, b1, c1, hρ, g1, g2, g3⟩ => by
      subst hρ
      rw [List.getElem?_map] at hx
      obtain ⟨p, hp, rfl⟩ := Option.map_eq_some_iff.mp hx
      have hm := List.mem_of_getElem? hp
      obtain ⟨S2, T2, k1, k2, k3, k4⟩ := road (R := wsD ws) (s := s) (Lv := Lv) (y := none) (z := none) hw g1 hm hh h0 (by have := g1.iv; omega)
      refine ⟨_, _, tgt2 (by simp [bE]) (by simp [bE]), .inl k1, S2, T2, _, _, rfl, k2, fun j hj => k3 j (g2 j hj), fun j hj => ?_⟩
      rcases take_mem hp hj with hj | hj
      · exact k3 j (g3 j hj)
      · have := k4 (by rw [← hj])
        rwa [← hj] at this
  refine ⟨S', T', b', c', ?_, q1, q2, fun j hj => q3 j (by rw [List.length_map, List.take_length]; exact hj)⟩
  unfold B_spans_from_4
  refine (seq_nx (b := dNx) ((for_of (xs := ws.map wD) ?_).trans e)).trans rfl
  unfold mSeq
  rw [v_of (d := wsD ws) rfl (by unfold wsD; unfold noOwn; exact no_ws ws)]
  show some (shr (ws.map wD), _) = _
  rw [shr_of (no_ws ws)]
/-- what a level says -/
structure Lvl (ws : List (Nat × Nat)) (n s t : Nat) (V : List (Option Nat)) (L : List Nat) : Prop where
  len : V.length = n
  a : ∀ j k, vl V j = some k → k ≤ t ∧ Wk ws k s j
  b : ∀ j k, Wk ws k s j → k ≤ t → ∃ k', k' ≤ k ∧ vl V j = some k'
  c : ∀ j, j ∈ L ↔ vl V j = some t
  d : t + cn V ≤ n
  e : L ≠ [] → t + cn V + 1 ≤ n
theorem level {ws : List (Nat × Nat)} {n t s : Nat} {o : Bool} {V : List (Option Nat)} {L : List Nat} {x y z u : Option D} (hw : Ways n ws) (hn : n ≤ 8) (lv : Lvl ws n s t V L) (hL : L ≠ []) :
    ∃ (V' : List (Option Nat)) (T : List Nat) (x' y' z' u' : Option D), B_spans_from_5 (bE n (wsD ws) s V (some (.lst o (L.map iD))) u x y z) = some (.nx (bE n (wsD ws) s V' (some (.lst false (T.map iD))) u' x' y' z')) ∧ Lvl ws n s (t + 1) V' T ∧ cn V' + T.length = cn V := by
  have l0 : Lev ws n t L V V [] := ⟨lv.len, fun j => .inl rfl, fun j hj => absurd hj (by simp), rfl⟩
  obtain ⟨ρ', e, S', T', a', b', c', rfl, q1, q3⟩ := forL_inv (a := gN 6) (body := B_spans_from_4) (fun i ρ => ∃ (S' : List (Option Nat)) (T' : List Nat) (a' b' c' : Option D), ρ = bE n (wsD ws) s S' (some (.lst false (L.map iD))) (some (.lst true (T'.map iD))) a' b' c' ∧ Lev ws n t L V S' T' ∧ ∀ h j, h ∈ L.take i → (h, j) ∈ ws → vl S' j ≠ none) (xs := L.map iD) (ρ := bE n (wsD ws) s V (some (.lst false (L.map iD))) (some (.lst true ([].map iD))) x y z)
    ⟨V, [], x, y, z, rfl, l0, fun h j hh => by cases hh⟩ fun i d ρ hx ⟨S1, T1, a1, b1, c1, hρ, g1, g3⟩ => by
      subst hρ
      rw [List.getElem?_map] at hx
      obtain ⟨h, hp, rfl⟩ := Option.map_eq_some_iff.mp hx
      have hm := List.mem_of_getElem? hp
      obtain ⟨S2, T2, b2, c2, k1, k2, k3, k4⟩ := inner (Lv := .lst false (L.map iD)) (s := s) (b := b1) (c := c1) hw g1 hm ((lv.c h).mp hm) (by have := lv.d; omega)
      refine ⟨bE n (wsD ws) s S1 (some (.lst false (L.map iD))) (some (.lst true (T1.map iD))) (some (iD h)) b1 c1, _, rfl, .inl k1, S2, T2, _, _, _, rfl, k2, fun h' j hh hj => ?_⟩
      rw [List.take_add_one, hp] at hh
      rcases List.mem_append.mp hh with hh | hh
      · exact k3 j (g3 h' j hh hj)
      · have : h' = h := by simpa using hh
        subst this
        exact k4 j hj
  rw [List.length_map, List.take_length] at q3
  have old : ∀ j k, vl V j = some k → vl S' j = some k := fun j k hk => by
    rcases q1.i j with h | ⟨h, _⟩
    · rw [h, hk]
    · rw [hk] at h; cases h
  have aa : ∀ j k, vl S' j = some k → k ≤ t + 1 ∧ Wk ws k s j := fun j k hk => by
    rcases q1.i j with h | ⟨h, h2, _, h3, h4, h5⟩
    · rw [h] at hk
      have := lv.a j k hk
      exact ⟨by omega, this.2⟩
    · rw [h2] at hk
      cases hk
      exact ⟨Nat.le_refl _, h3, (lv.a h3 t ((lv.c h3).mp h4)).2, h5⟩
  refine ⟨S', T', a', b', c', some (.lst false (T'.map iD)), ?_, ⟨q1.len, aa, fun j k hk hkt => ?_, fun j => ⟨fun hj => (q1.ii j hj).2, fun hj => ?_⟩, ?_, ?_⟩, q1.iv⟩
  · unfold B_spans_from_5
    rw [seq_nx (ρ1 := bE n (wsD ws) s V (some (.lst o (L.map iD))) (some (.lst true ([].map iD))) x y z) rfl]
    have s2 : dFor (mSeq (dV 4)) (gN 6) B_spans_from_4 (bE n (wsD ws) s V (some (.lst o (L.map iD))) (some (.lst true ([].map iD))) x y z) = some (.nx (bE n (wsD ws) s S' (some (.lst false (L.map iD))) (some (.lst true (T'.map iD))) a' b' c')) := by
      refine (for_of (xs := L.map iD) (ρ1 := bE n (wsD ws) s V (some (.lst false (L.map iD))) (some (.lst true ([].map iD))) x y z) ?_).trans e
      unfold mSeq
      cases o with
      | true =>
        rw [vf_of (d2 := .lst false (L.map iD)) rfl (by simp [noOwn]) (by unfold frz; rw [fz_iD])]
        show some (shr (L.map iD), _) = _
        rw [shr_of (no_iD L)]
        rfl
      | false =>
        rw [v_of (d := .lst false (L.map iD)) rfl (by unfold noOwn; exact no_iD L)]
        show some (shr (L.map iD), _) = _
        rw [shr_of (no_iD L)]
    rw [seq_nx s2]
    refine (seq_nx (b := dNx) (asg_of (vf_of (i := 5) (d2 := .lst false (T'.map iD)) rfl (by simp [noOwn]) (by unfold frz; rw [fz_iD])) rfl)).trans rfl
  · by_cases hk2 : k ≤ t
    · obtain ⟨k', h1, h2⟩ := lv.b j k hk hk2
      exact ⟨k', h1, old j k' h2⟩
    · have : k = t + 1 := by omega
      subst this
      obtain ⟨a, w, e2⟩ := hk
      obtain ⟨k', h1, h2⟩ := lv.b a t w (Nat.le_refl _)
      by_cases h3 : k' = t
      · subst h3
        have := q3 a j ((lv.c a).mpr h2) e2
        cases h4 : vl S' j with
        | none => exact absurd h4 this
        | some k2 => exact ⟨k2, (aa j k2 h4).1, rfl⟩
      · obtain ⟨k2, h4, h5⟩ := lv.b j (k' + 1) ⟨a, (lv.a a k' h2).2, e2⟩ (by omega)
        exact ⟨k2, by omega, old j k2 h5⟩
  · rcases q1.i j with h | ⟨_, _, h, _⟩
    · rw [hj] at h
      have := (lv.a j _ h.symm).1
      omega
    · exact h
  · have := lv.e hL
    have := q1.iv
    omega
  · intro hT
    have := lv.e hL
    have := q1.iv
    have : 0 < T'.length := List.length_pos_iff.mpr hT
    omega
theorem ne_nil (o : Bool) (L : List Nat) : oNe [.lst o (L.map iD), .lst true []] = some (.bl (decide (L ≠ []))) := by
  have e2 : toPs (L.map iD) = some ((L.map Int.ofNat).map PyData.int) := by rw [show L.map iD = (L.map Int.ofNat).map D.int by rw [List.map_map]; rfl]; exact toPs_ints _
  have e3 := eqv_nil (L.map Int.ofNat)
  have e4 := shp_ints (L.map Int.ofNat)
  have e5 : toP (.lst o (L.map iD)) = some (.list ((L.map Int.ofNat).map PyData.int)) := by simp only [toP, e2]
  have e6 : oEqF true [.lst o (L.map iD), .lst true []] = none := rfl
  rw [a_oNe]
  simp only [orF, e6, oEqD, e5, e4, show toP (.lst true []) = some (.list []) from rfl, shp_nil, and_self, if_true, e3]
  cases L <;> rfl
theorem levels {ws : List (Nat × Nat)} {n s : Nat} (hw : Ways n ws) (hn : n ≤ 8) : ∀ {f t : Nat} {o : Bool} {V : List (Option Nat)} {L : List Nat} {u x y z : Option D}, Lvl ws n s t V L → cn V + 2 ≤ f →
    ∃ (t' : Nat) (V' : List (Option Nat)) (l' u' x' y' z' : Option D), whL (dT (dOp oNe [.v 4, .e (dLst [])])) (B_spans_from_5) f (bE n (wsD ws) s V (some (.lst o (L.map iD))) u x y z) = some (.nx (bE n (wsD ws) s V' l' u' x' y' z')) ∧ Lvl ws n s t' V' []
  | 0, t, o, V, L, u, x, y, z, lv, hf => by omega
  | f + 1, t, o, V, L, u, x, y, z, lv, hf => by
    have tt : dT (dOp oNe [.v 4, .e (dLst [])]) (bE n (wsD ws) s V (some (.lst o (L.map iD))) u x y z) = some (decide (L ≠ []), bE n (wsD ws) s V (some (.lst o (L.map iD))) u x y z) := by
      refine t_of (op_ve (d := .lst o (L.map iD)) rfl rfl rfl ?_)
      exact ne_nil o L
    by_cases hL : L = []
    · subst hL
      refine ⟨t, V, some (.lst o ([].map iD)), u, x, y, z, ?_, lv⟩
      unfold whL
      rw [tt]
      rfl
    · obtain ⟨V1, T1, x1, y1, z1, u1, e1, l1, hc⟩ := level (o := o) (u := u) (x := x) (y := y) (z := z) hw hn lv hL
      by_cases hT : T1 = []
      · subst hT
        have : f ≥ 1 := by omega
        obtain ⟨f', rfl⟩ : ∃ f', f = f' + 1 := ⟨f - 1, by omega⟩
        refine ⟨t + 1, V1, some (.lst false ([].map iD)), u1, x1, y1, z1, ?_, l1⟩
        unfold whL
        rw [tt, decide_eq_true hL]
        simp only [e1]
        unfold whL
        rfl
      · have : 0 < T1.length := List.length_pos_iff.mpr hT
        obtain ⟨t', V', l', u', x', y', z', e2, l2⟩ := levels hw hn (f := f) (o := false) (u := u1) (x := x1) (y := y1) (z := z1) l1 (by omega)
        refine ⟨t', V', l', u', x', y', z', ?_, l2⟩
        unfold whL
        rw [tt, decide_eq_true hL]
        simp only [e1]
        exact e2
/-- the ways' spans from one place -/
structure Bfs (ws : List (Nat × Nat)) (n s : Nat) (V : List (Option Nat)) : Prop where
  len : V.length = n
  snd : ∀ j k, vl V j = some k → k ≤ 8 ∧ Wk ws k s j
  cmp : ∀ j k, Wk ws k s j → ∃ k', k' ≤ k ∧ vl V j = some k'
theorem Lvl.bfs {ws : List (Nat × Nat)} {n s t : Nat} {V : List (Option Nat)} (h : Lvl ws n s t V []) (hn : n ≤ 8) : Bfs ws n s V where
  len := h.len
  snd j k hk := by
    have := h.a j k hk
    have := h.d
    exact ⟨by omega, (h.a j k hk).2⟩
  cmp j k := by
    induction k generalizing j with
    | zero => exact fun w => h.b j 0 w (Nat.zero_le _)
    | succ k ih =>
      rintro ⟨a, w, e⟩
      obtain ⟨k', h1, h2⟩ := ih a w
      have h3 := h.a a k' h2
      by_cases h4 : k' = t
      · subst h4
        exact absurd ((h.c a).mpr h2) (by simp)
      · obtain ⟨k2, h5, h6⟩ := h.b j (k' + 1) ⟨a, h3.2, e⟩ (by omega)
        exact ⟨k2, by omega, h6⟩
theorem cn_rep : ∀ n, cn (List.replicate n none) = n
  | 0 => rfl
  | n + 1 => by rw [List.replicate_succ]; show cn (List.replicate n none) + 1 = n + 1; rw [cn_rep n]
theorem vl_rep (n j : Nat) : vl (List.replicate n none) j = none := by
  unfold vl
  rw [List.getD_eq_getElem?_getD]
  by_cases h : j < n
  · rw [List.getElem?_replicate_of_lt h]; rfl
  · rw [List.getElem?_eq_none (by simp; omega)]; rfl
theorem orF_n {f f' : List D → Option D} {ds : List D} (h : f ds = none) : orF f f' ds = f' ds := by unfold orF; rw [h]
theorem orF_s {f f' : List D → Option D} {ds : List D} {d : D} (h : f ds = some d) : orF f f' ds = some d := by unfold orF; rw [h]
theorem sp_0 {ws : List (Nat × Nat)} {n s : Nat} (hn : n ≤ 8) : S_spans_from_0 [some (.int n), some (wsD ws), some (.int s), none, none, none, none, none, none] = some (.nx [some (.int n), some (wsD ws), some (.int s), some (.lst true ((List.replicate n none).map oD)), none, none, none, none, none]) := by
  unfold S_spans_from_0
  have e : oMul [.lst true [.non], .int (n : Int)] = some (.lst true ((List.replicate n none).map oD)) := by
    rw [List.map_replicate, a_oMul]
    have h1 : (noOwns [D.non] = true ∧ -(2 ^ 63) ≤ (n : Int) ∧ (n : Int) < 2 ^ 63) ∧ [D.non].length * (n : Int).toNat ≤ 100000 := ⟨⟨rfl, by omega, by omega⟩, by simp; omega⟩
    have e1 : oRepL [.lst true [.non], .int (n : Int)] = some (.lst true (List.replicate (n : Int).toNat [D.non]).flatten) := by
      unfold oRepL
      exact if_pos h1
    have e2 : (List.replicate n [D.non]).flatten = List.replicate n D.non := by
      rw [List.flatten_replicate_singleton]
    rw [orF_n (f := oII hMul) (ds := [.lst true [.non], .int (n : Int)]) rfl, orF_s e1, Int.toNat_natCast, e2]
    rfl
  exact asg_of (op_ev (d := .int (n : Int)) (lst1_of (d1 := .non) rfl) rfl e) rfl
theorem sp_1 {ws : List (Nat × Nat)} {n s : Nat} (hs : s < n) : S_spans_from_1 [some (.int n), some (wsD ws), some (.int s), some (.lst true ((List.replicate n none).map oD)), none, none, none, none, none] = some (.nx (bE n (wsD ws) s ((List.replicate n none).set s (some 0)) none none none none none)) := by
  unfold S_spans_from_1
  refine asg_of (d := .int 0) rfl ?_
  have q1 : ixN n (s : Int) = some s := ixN_nat hs
  simp [gSetL, rV, qV, bE, noOwn, iD, getR, getP, putR, putP, q1, oD, List.map_set]
theorem sp_2 {ws : List (Nat × Nat)} {n s : Nat} {V : List (Option Nat)} : S_spans_from_2 (bE n (wsD ws) s V none none none none none) = some (.nx (bE n (wsD ws) s V (some (.lst true ([s].map iD))) none none none none)) := by
  unfold S_spans_from_2
  exact asg_of (lst1_of (v_of rfl rfl)) rfl
theorem sp_7 {ws : List (Nat × Nat)} {n s : Nat} {V : List (Option Nat)} {l u x y z : Option D} : S_spans_from_7 (bE n (wsD ws) s V l u x y z) = some (.rt (.lst false (V.map oD)) ((bE n (wsD ws) s V l u x y z).set 3 (some (.lst false (V.map oD))))) := by
  unfold S_spans_from_7
  exact ret_of (vf_of rfl (by simp [noOwn]) (by unfold frz; rw [frzs_of (no_oD V)]))
theorem bfs_ok {ws : List (Nat × Nat)} {n s : Nat} (hw : Ways n ws) (hn : n ≤ 8) (hs : s < n) : ∃ V, F_spans_from [.int n, wsD ws, .int s] = some (.lst false (V.map oD), []) ∧ Bfs ws n s V := by
  have hV := vl_rep n s
  have hl : s < (List.replicate n (none : Option Nat)).length := by simpa using hs
  have lv : Lvl ws n s 0 ((List.replicate n none).set s (some 0)) [s] := by
    have hd := cn_set (k := 0) hl hV
    rw [cn_rep] at hd
    refine ⟨by simp, fun j k hk => ?_, fun j k w hk => ?_, fun j => ?_, by omega, fun _ => by omega⟩
    · rw [vl_set hl, vl_rep] at hk
      split at hk
      · rename_i h
        cases hk
        exact ⟨Nat.le_refl _, h.symm⟩
      · cases hk
    · have : k = 0 := by omega
      subst this
      have : s = j := w
      subst this
      exact ⟨0, Nat.le_refl _, by rw [vl_set hl, if_pos rfl]⟩
    · rw [vl_set hl, vl_rep]
      by_cases h : j = s <;> simp [h]
  obtain ⟨t, V, l', u', x', y', z', e, l⟩ := levels (f := 20) (o := true) (u := none) (x := none) (y := none) (z := none) hw hn lv (by have := lv.d; omega)
  have s6 : S_spans_from_6 (bE n (wsD ws) s ((List.replicate n none).set s (some 0)) (some (.lst true ([s].map iD))) none none none none) = some (.nx (bE n (wsD ws) s V l' u' x' y' z')) := by
    unfold S_spans_from_6
    exact e
  refine ⟨V, ?_, l.bfs hn⟩
  show dEnd 0 (M_spans_from [some (.int n), some (wsD ws), some (.int s), none, none, none, none, none, none]) = _
  unfold M_spans_from
  rw [seq_nx (sp_0 hn), seq_nx (sp_1 hs), seq_nx sp_2, seq_nx s6, seq_rt sp_7]
  rfl
end K11
set_option Elab.async false
set_option linter.all false
set_option maxRecDepth 100000
set_option maxHeartbeats 4000000
namespace K11
open PySem L2 Rm
/-! ### the board -/
def tk (p : Nat × Nat) : List Key := [.inl (p.1 : Int), .inl (p.2 : Int)]
theorem tk_inj {p q : Nat × Nat} (h : tk p = tk q) : p = q := by
  obtain ⟨a, b⟩ := p
  obtain ⟨c, d⟩ := q
  simp [tk] at h
  rw [Prod.ext_iff]
  exact ⟨by have := h.1; show a = c; omega, by have := h.2; show b = d; omega⟩
theorem keyT_tk (p : Nat × Nat) : keyT (tk p) = wD p := rfl
theorem idx_no {κ : Type} [DecidableEq κ] {k : κ} : ∀ {kk : List κ}, k ∉ kk → idxD k kk = none
  | [], _ => rfl
  | a :: l, h => by
    unfold idxD
    rw [if_neg (fun e => h (by rw [e]; exact List.mem_cons_self)), idx_no fun e => h (List.mem_cons_of_mem _ e)]
def rdD (ps : List (Nat × Nat)) : D := .dct true (.t (ps.map tk)) (ps.map fun _ => D.bl true)
def iE (o : D) (n : Nat) (w : D) (ps : List (Nat × Nat)) (a b c d : Option D) : Rm.Env := [some o, some (.int n), some w, some (rdD ps), a, b, c, d, none]
def en (i : Nat) (p : Nat × Nat) : D := .tup [.int i, wD p]
theorem init_2 {o w : D} {n : Nat} {ps : List (Nat × Nat)} {p : Nat × Nat} {a d : Option D} (hp : p ∉ ps) (hl : ps.length ≤ 1000) (h : p.1 < n ∧ p.2 < n ∧ p.1 ≠ p.2) :
    B_Board___init___2 (iE o n w ps a (some (iD p.1)) (some (iD p.2)) d) = some (.nx (iE o n w (ps ++ [p]) a (some (iD p.1)) (some (iD p.2)) (some (.bl true)))) := by
  obtain ⟨h1, h2, h3⟩ := h
  have g1 : (p.1 : Int) ≤ (n : Int) - 1 := by omega
  have g2 : (p.2 : Int) ≤ (n : Int) - 1 := by omega
  have s1 : dAsg (dAnd (dCall F_is_number [.e (dV 5), .e (dC (.int 0)), .e (dOp oSub [.v 1, .e (dC (.int 1))])] []) (dAnd (dCall F_is_number [.e (dV 6), .e (dC (.int 0)), .e (dOp oSub [.v 1, .e (dC (.int 1))])] []) (dOp oNe [.v 5, .v 6]))) (gN 7) (iE o n w ps a (some (iD p.1)) (some (iD p.2)) d) = some (.nx (iE o n w ps a (some (iD p.1)) (some (iD p.2)) (some (.bl true)))) := by
    have g3 : ¬ (p.1 : Int) = (p.2 : Int) := by omega
    simp [dFn, dEnd, allS, dSeq, dNx, dRet, dRetV, dRetN, dExpr, dIfS, dAsg, dFor, gN, gTp, gsCons, gsNil, dStop, dBk, dCt, dPar, dC, dV, dQ, qC, qV, qP, qNeg, qOp, dPth, dOp, evOps, dT, dAndT, dOrT, dNotT, dAnd, dOr, dNot, dIf, dCh, oII, hAdd, hSub, hMul, hMod, hDiv, hPow, hLt, hLe, hGt, hGe, a_oLt, a_oLe, a_oGt, a_oGe, a_oAdd, a_oSub, a_oMul, a_oMod, a_oDiv, a_oPow, a_oEq, a_oNe, oEqF, eqF, orF, oIsN, isNo, oIn, inD, rowOf, oNeg, oIsi, oIsi2, isI, isB, isS, isT, isL, oLen, oInt, oAbs, a_oMin2, a_oMax2, oMin3, dTup, dLst, dFz, frz, frzs, noOwn, noOwns, dCall, dCallEnd, lendD, backE, dMethV, isC, dMake, dLenO, kids, withKids, posS, getS, getP, putP, getR, putR, rV, rIxP, rKeyP, rFld, idxD, putFd, dFldS, mSeq, shr, mZip2, mEnum, dYes, isF, sv, List.replicate, Option.map, gSetK, gSetL, gSetT, putKD, Rm.keyOf, keysOf, qK, evQ, dMetV, dMetP, lmEnd, lmApp, lmIns, lmPopAt, dNil, dInT, iE, iD, num_int, g1, g2, g3, h3]
  have hi : idxD (tk p) (ps.map tk) = none := idx_no fun e => by
    obtain ⟨q, hq, e⟩ := List.mem_map.mp e
    exact hp (tk_inj e ▸ hq)
  have q : qK [qV 5, qV 6] (iE o n w ps a (some (iD p.1)) (some (iD p.2)) (some (.bl true))) = some (tk p) := rfl
  have r : getR (iE o n w ps a (some (iD p.1)) (some (iD p.2)) (some (.bl true))) 3 [] = some (rdD ps) := rfl
  have t2 : dInT false (qK [qV 5, qV 6]) (rV 3) (iE o n w ps a (some (iD p.1)) (some (iD p.2)) (some (.bl true))) = some (.bl false, iE o n w ps a (some (iD p.1)) (some (iD p.2)) (some (.bl true))) := by
    unfold dInT
    rw [q]
    show (match getR (iE o n w ps a (some (iD p.1)) (some (iD p.2)) (some (.bl true))) 3 [] with | some (.dct _ (.t kk) _) => some (D.bl (if false then !(idxD (tk p) kk).isSome else (idxD (tk p) kk).isSome), iE o n w ps a (some (iD p.1)) (some (iD p.2)) (some (.bl true))) | _ => none) = _
    rw [r]
    simp only [rdD, hi]
    rfl
  have s2 : dIfS (dOrT (dNotT (dT (dV 7))) (dT (dInT false (qK [qV 5, qV 6]) (rV 3)))) (dStop) (dNx) (iE o n w ps a (some (iD p.1)) (some (iD p.2)) (some (.bl true))) = some (.nx (iE o n w ps a (some (iD p.1)) (some (iD p.2)) (some (.bl true)))) := by
    refine (if_f ?_).trans rfl
    show dT (dInT false (qK [qV 5, qV 6]) (rV 3)) (iE o n w ps a (some (iD p.1)) (some (iD p.2)) (some (.bl true))) = _
    exact t_of t2
  have s3 : dAsg (dC (.bl true)) (gSetT (rV 3) (qK [qV 5, qV 6])) (iE o n w ps a (some (iD p.1)) (some (iD p.2)) (some (.bl true))) = some (.nx (iE o n w (ps ++ [p]) a (some (iD p.1)) (some (iD p.2)) (some (.bl true)))) := by
    refine asg_of (d := .bl true) rfl ?_
    unfold gSetT
    rw [q]
    show (match getR (iE o n w ps a (some (iD p.1)) (some (iD p.2)) (some (.bl true))) 3 [] with | some (.dct true (.t kk) xs) => if kk.length ≤ 90000 then (match putKD kk xs (tk p) (.bl true) with | some (kk', ys) => some (putR (iE o n w ps a (some (iD p.1)) (some (iD p.2)) (some (.bl true))) 3 [] (.dct true (.t kk') ys)) | none => none) else none | _ => none) = _
    rw [r]
    have hz : (ps.map tk).length ≤ 90000 := by rw [List.length_map]; omega
    simp only [rdD, putKD, hi, if_pos hz]
    simp [putR, putP, iE, rdD]
  exact (seq_nx s1).trans ((seq_nx s2).trans ((seq_nx s3).trans rfl))
theorem enum_wD : ∀ {ps : List (Nat × Nat)} {k i : Nat} {d : D}, (enumD k (ps.map wD))[i]? = some d → ∃ p, ps[i]? = some p ∧ d = en (k + i) p := fun {ps k i d} h => by
  obtain ⟨x, hx, e⟩ := enumD_get h
  rw [List.getElem?_map] at hx
  obtain ⟨p, hp, rfl⟩ := Option.map_eq_some_iff.mp hx
  exact ⟨p, hp, e⟩
theorem take_not {ws : List (Nat × Nat)} (h : ws.Nodup) {i : Nat} {p : Nat × Nat} (hp : ws[i]? = some p) : p ∉ ws.take i := fun hm => by
  obtain ⟨j, hj, e⟩ := List.mem_take_iff_getElem.mp hm
  obtain ⟨hi, e2⟩ := List.getElem?_eq_some_iff.mp hp
  have h3 := List.pairwise_iff_getElem.mp h j i (by omega) hi (by omega)
  exact h3 (e.trans e2.symm)
theorem init_3 {o : D} {n : Nat} {ws : List (Nat × Nat)} (hw : Ways n ws) (hl : ws.length ≤ 64) : ∃ a b c d : Option D, S_Board___init___3 (iE o n (.lst true (ws.map wD)) [] none none none none) = some (.nx (iE o n (.lst false (ws.map wD)) ws a b c d)) := by
  obtain ⟨ρ', e, a, b, c, d, rfl⟩ := forL_inv (a := gTp 2 (gsCons (gN 4) (gsCons (gTp 2 (gsCons (gN 5) (gsCons (gN 6) (gsNil)))) (gsNil)))) (body := B_Board___init___2) (fun i ρ => ∃ a b c d : Option D, ρ = iE o n (.lst false (ws.map wD)) (ws.take i) a b c d) (xs := enumD 0 (ws.map wD)) (ρ := iE o n (.lst false (ws.map wD)) [] none none none none)
    ⟨none, none, none, none, rfl⟩ fun i x ρ hx ⟨a, b, c, d, hρ⟩ => by
      subst hρ
      obtain ⟨p, hp, rfl⟩ := enum_wD hx
      have e1 : ws.take (i + 1) = ws.take i ++ [p] := by rw [List.take_add_one, hp]; rfl
      refine ⟨iE o n (.lst false (ws.map wD)) (ws.take i) (some (.int (0 + i : Nat))) (some (iD p.1)) (some (iD p.2)) d, _, ?_, .inl (init_2 (take_not hw.1 hp) (by rw [List.length_take]; omega) (hw.2 p (List.mem_of_getElem? hp))), _, _, _, _, by rw [e1]⟩
      simp [gTp, gsCons, gsNil, gN, en, wD, iE]
  refine ⟨a, b, c, d, ?_⟩
  unfold S_Board___init___3
  refine (for_of (xs := enumD 0 (ws.map wD)) (ρ1 := iE o n (.lst false (ws.map wD)) [] none none none none) ?_).trans ?_
  · have v : dV 2 (iE o n (.lst true (ws.map wD)) [] none none none none) = some (.lst false (ws.map wD), iE o n (.lst false (ws.map wD)) [] none none none none) := vf_of rfl (by simp [noOwn]) (by unfold frz; rw [fz_ws])
    unfold mEnum
    simp only [evOps, v, seqOf, shr_of (no_ws ws)]
  · rw [e, enumD_len, List.length_map, List.take_length]
theorem toPs_ws : ∀ ws : List (Nat × Nat), toPs (ws.map wD) = some (ws.map fun p => PyData.tuple [.int p.1, .int p.2])
  | [] => rfl
  | p :: ws => by show toPs (wD p :: ws.map wD) = _; simp [toPs, toP, toPs_ws ws, wD, iD]
theorem srt_ws (ws : List (Nat × Nat)) : srtB (ws.map fun p => PyData.tuple [.int p.1, .int p.2]) = true := by
  unfold srtB
  simp [List.all_map, tupNE, Function.comp_def, PySem.W.alike, PySem.W.alikeAll, PyData.depth, PyData.depthAll]
theorem sort_ws (ws : List (Nat × Nat)) : ∃ rs : List (Nat × Nat), (orF oSortI oSortD) [.lst true (ws.map wD)] = some (.lst true (rs.map wD)) ∧ rs.Perm ws := by
  cases ws with
  | nil => exact ⟨[], orF_s (by simp [oSortI, intsOf, sortI]), .refl _⟩
  | cons p ws =>
    obtain ⟨rs, h1, h2⟩ := perm_map (List.mergeSort_perm ((p :: ws).map wD) leD)
    refine ⟨rs, ?_, h2⟩
    rw [orF_n rfl, ← h1]
    unfold oSortD
    simp only [toPs_ws, no_ws, srt_ws, and_self, if_true, sortD]
def fld : List Nat := [16, 17, 18]
def vsD (Vs : List (List (Option Nat))) : List D := Vs.map fun V => .lst false (V.map oD)
def brD (o : Bool) (n : Nat) (rs : List (Nat × Nat)) (Vs : List (List (Option Nat))) : D := .ins o 0 fld [.int n, wsD rs, .lst false (vsD Vs)]
structure Brd (ws : List (Nat × Nat)) (n : Nat) (Vs : List (List (Option Nat))) : Prop where
  len : Vs.length = n
  bfs : ∀ i, i < n → Bfs ws n i (Vs.getD i [])
theorem Wk.mono {ws rs : List (Nat × Nat)} (h : ∀ p, p ∈ ws → p ∈ rs) : ∀ {k i j : Nat}, Wk ws k i j → Wk rs k i j
  | 0, i, j, e => e
  | k + 1, i, j, ⟨a, w, e⟩ => ⟨a, Wk.mono h w, h _ e⟩
theorem no_vs (Vs : List (List (Option Nat))) : noOwns (vsD Vs) = true := noOwns_of fun x hx => by
  obtain ⟨V, _, rfl⟩ := List.mem_map.mp hx
  unfold noOwn
  rw [no_oD]; rfl
theorem call_3 {F : List D → Option (D × List D)} {m1 m2 m3 : Rm.M} {ρ ρ1 ρ2 ρ3 : Rm.Env} {d1 d2 d3 x : D} (h1 : m1 ρ = some (d1, ρ1)) (h2 : m2 ρ1 = some (d2, ρ2)) (h3 : m3 ρ2 = some (d3, ρ3)) (hF : F [d1, d2, d3] = some (x, [])) : dCall F [.e m1, .e m2, .e m3] [] ρ = some (x, ρ3) := by
  unfold dCall
  simp only [evOps, h1, h2, h3, dCallEnd, lendD, List.append_nil, hF, backE]
theorem call_2 {F : List D → Option (D × List D)} {m1 m2 : Rm.M} {ρ ρ1 ρ2 : Rm.Env} {d1 d2 x : D} (h1 : m1 ρ = some (d1, ρ1)) (h2 : m2 ρ1 = some (d2, ρ2)) (hF : F [d1, d2] = some (x, [])) : dCall F [.e m1, .e m2] [] ρ = some (x, ρ2) := by
  unfold dCall
  simp only [evOps, h1, h2, dCallEnd, lendD, List.append_nil, hF, backE]
theorem fldS_of {m : Rm.M} {r : Rm.Env → Option (Nat × List Stp)} {c0 n i : Nat} {p : List Stp} {fs : List Nat} {xs : List D} {d : D} {ρ ρ1 ρ2 : Rm.Env} (h1 : m ρ = some (d, ρ1)) (h2 : r ρ1 = some (i, p)) (h3 : getR ρ1 i p = some (.ins true c0 fs xs)) (h4 : fs.length < 900) (h5 : putR ρ1 i p (.ins true c0 (putFd fs xs n d).1 (putFd fs xs n d).2) = ρ2) : dFldS m r c0 n ρ = some (.nx ρ2) := by
  unfold dFldS
  simp only [h1, h2, h3, h4, h5, and_self, if_true]
theorem init_6 {n : Nat} {rs : List (Nat × Nat)} (hw : Ways n rs) (hn : 1 ≤ n ∧ n ≤ 8) {b c d e f g : Option D} : ∃ Vs, S_Board___init___6 [some (.ins true 0 [16, 17] [.int n, wsD rs]), some (.int n), b, c, d, e, f, g, none] = some (.nx [some (brD true n rs Vs), some (.int n), b, c, d, e, f, g, none]) ∧ Brd rs n Vs := by
  obtain ⟨acc, ρ2, q1, rfl, Vs, hl, hacc, hV⟩ := comp_mem (i := mRange1 (.v 1)) (a := gN 8) (c := dYes) (e := dCall F_spans_from [.e (dV 1), .e (dPth (rFld (rV 0) 0 17)), .e (dV 8)] []) (vs := [8]) (ρ := [some (.ins true 0 [16, 17] [.int n, wsD rs]), some (.int n), b, c, d, e, f, g, none]) (ρ0 := [some (.ins true 0 [16, 17] [.int n, wsD rs]), some (.int n), b, c, d, e, f, g, none]) (xs := rangeD 0 n)
    (fun pre acc ρ => ρ = [some (.ins true 0 [16, 17] [.int n, wsD rs]), some (.int n), b, c, d, e, f, g, none] ∧ ∃ Vs : List (List (Option Nat)), Vs.length = pre.length ∧ acc = vsD Vs ∧ ∀ i, i < pre.length → Bfs rs n i (Vs.getD i []))
    (mRange1_nat (by simp [evOps]) (by omega)) (by simp [savOk]) (by rw [rangeD_len]; omega) ⟨rfl, [], rfl, rfl, fun i hi => absurd hi (Nat.not_lt_zero i)⟩ fun p1 x p2 acc ρ hx ⟨hρ, Vs, h1, h2, h3⟩ => by
      subst hρ h2
      have hd : (rangeD 0 n)[p1.length]? = some x := by rw [hx]; simp
      obtain ⟨hi, rfl⟩ := rd_at hd
      obtain ⟨V, e1, e2⟩ := bfs_ok hw hn.2 hi
      refine ⟨[some (.ins true 0 [16, 17] [.int n, wsD rs]), some (.int n), b, c, d, e, f, g, some (iD p1.length)], true, _, by simp [gN], rfl, fun h => (by cases h), fun _ => ⟨.lst false (V.map oD), [some (.ins true 0 [16, 17] [.int n, wsD rs]), some (.int n), b, c, d, e, f, g, some (iD p1.length)], ?_, by simp [wipeE], Vs ++ [V], by simp [h1], by simp [vsD], fun i hi => ?_⟩⟩
      · have v1 : dV 1 [some (.ins true 0 [16, 17] [.int n, wsD rs]), some (.int n), b, c, d, e, f, g, some (iD p1.length)] = some (.int n, [some (.ins true 0 [16, 17] [.int n, wsD rs]), some (.int n), b, c, d, e, f, g, some (iD p1.length)]) := v_of rfl rfl
        have v8 : dV 8 [some (.ins true 0 [16, 17] [.int n, wsD rs]), some (.int n), b, c, d, e, f, g, some (iD p1.length)] = some (.int (p1.length : Nat), [some (.ins true 0 [16, 17] [.int n, wsD rs]), some (.int n), b, c, d, e, f, g, some (iD p1.length)]) := v_of rfl rfl
        have nw : noOwn (wsD rs) = true := by unfold wsD; unfold noOwn; exact no_ws rs
        have vp : dPth (rFld (rV 0) 0 17) [some (.ins true 0 [16, 17] [.int n, wsD rs]), some (.int n), b, c, d, e, f, g, some (iD p1.length)] = some (wsD rs, [some (.ins true 0 [16, 17] [.int n, wsD rs]), some (.int n), b, c, d, e, f, g, some (iD p1.length)]) := by
          simp [dPth, dQ, qP, rFld, rV, getR, getP, getS, posS, kids, idxD, nw]
        exact call_3 v1 vp v8 e1
      · rw [List.length_append, List.length_singleton] at hi
        by_cases hlt : i < p1.length
        · rw [List.getD_eq_getElem?_getD, List.getElem?_append_left (by omega), ← List.getD_eq_getElem?_getD]
          exact h3 i hlt
        · have : i = p1.length := by omega
          subst this
          rw [List.getD_eq_getElem?_getD, ← h1, List.getElem?_concat_length, h1]
          exact e2
  rw [rangeD_len] at hl hV
  refine ⟨Vs, ?_, hl, hV⟩
  unfold S_Board___init___6
  refine fldS_of (fz_of q1) rfl rfl (by simp) ?_
  rw [hacc]
  unfold frz
  rw [frzs_of (no_vs Vs)]
  rfl
theorem spn_eq {ws : List (Nat × Nat)} {n : Nat} {M : List (List Nat)} {Vs : List (List (Option Nat))} (hd : Dist ws n M) (hb : Brd ws n Vs) {i j : Nat} (hi : i < n) (hj : j < n) : vl (Vs.getD i []) j = if gt M i j < 99 then some (gt M i j) else none := by
  have B := hb.bfs i hi
  cases h : vl (Vs.getD i []) j with
  | some k =>
    obtain ⟨h1, h2⟩ := B.snd j k h
    have h3 := hd.cmp i j k hi hj h2
    obtain ⟨k', h4, h5⟩ := B.cmp j _ ((hd.snd i j hi hj).2 (by omega))
    rw [h] at h5
    cases h5
    rw [if_pos (by omega)]
    congr 1
    omega
  | none =>
    rw [if_neg fun hlt => ?_]
    obtain ⟨k', h4, h5⟩ := B.cmp j _ ((hd.snd i j hi hj).2 hlt)
    rw [h] at h5
    cases h5
theorem init_ok {n : Nat} {ws : List (Nat × Nat)} (hw : Ways n ws) (hn : 1 ≤ n ∧ n ≤ 8) (hl : ws.length ≤ 64) : ∃ rs Vs, F_Board___init__ [.ins true 0 [] [], .int n, .lst true (ws.map wD)] = some (.non, [brD true n rs Vs]) ∧ Brd ws n Vs := by
  have s0 : S_Board___init___0 [some (.ins true 0 [] []), some (.int n), some (.lst true (ws.map wD)), none, none, none, none, none, none] = some (.nx [some (.ins true 0 [] []), some (.int n), some (.lst true (ws.map wD)), none, none, none, none, none, none]) := by
    have g1 : (1 : Int) ≤ n := by omega
    have g2 : (n : Int) ≤ 8 := by omega
    simp [S_Board___init___0, dFn, dEnd, allS, dSeq, dNx, dRet, dRetV, dRetN, dExpr, dIfS, dAsg, dFor, gN, gTp, gsCons, gsNil, dStop, dBk, dCt, dPar, dC, dV, dQ, qC, qV, qP, qNeg, qOp, dPth, dOp, evOps, dT, dAndT, dOrT, dNotT, dAnd, dOr, dNot, dIf, dCh, oII, hAdd, hSub, hMul, hMod, hDiv, hPow, hLt, hLe, hGt, hGe, a_oLt, a_oLe, a_oGt, a_oGe, a_oAdd, a_oSub, a_oMul, a_oMod, a_oDiv, a_oPow, a_oEq, a_oNe, oEqF, eqF, orF, oIsN, isNo, oIn, inD, rowOf, oNeg, oIsi, oIsi2, isI, isB, isS, isT, isL, oLen, oInt, oAbs, a_oMin2, a_oMax2, oMin3, dTup, dLst, dFz, frz, frzs, noOwn, noOwns, dCall, dCallEnd, lendD, backE, dMethV, isC, dMake, dLenO, kids, withKids, posS, getS, getP, putP, getR, putR, rV, rIxP, rKeyP, rFld, idxD, putFd, dFldS, mSeq, shr, mZip2, mEnum, dYes, isF, sv, List.replicate, Option.map, gSetK, gSetL, gSetT, putKD, Rm.keyOf, keysOf, qK, evQ, dMetV, dMetP, lmEnd, lmApp, lmIns, lmPopAt, dNil, dInT, num_int, g1, g2]
  have s1 : S_Board___init___1 [some (.ins true 0 [] []), some (.int n), some (.lst true (ws.map wD)), none, none, none, none, none, none] = some (.nx (iE (.ins true 0 [] []) n (.lst true (ws.map wD)) [] none none none none)) := rfl
  obtain ⟨a, b, c, d, s3⟩ := init_3 (o := .ins true 0 [] []) hw hl
  have s4 : S_Board___init___4 (iE (.ins true 0 [] []) n (.lst false (ws.map wD)) ws a b c d) = some (.nx (iE (.ins true 0 [16] [.int n]) n (.lst false (ws.map wD)) ws a b c d)) := rfl
  obtain ⟨rs, e5, hp⟩ := sort_ws ws
  have s5 : S_Board___init___5 (iE (.ins true 0 [16] [.int n]) n (.lst false (ws.map wD)) ws a b c d) = some (.nx (iE (.ins true 0 [16, 17] [.int n, wsD rs]) n (.lst false (ws.map wD)) ws a b c d)) := by
    have l1 : dOp (orF oList oListT) [.v 3] (iE (.ins true 0 [16] [.int n]) n (.lst false (ws.map wD)) ws a b c d) = some (.lst true (ws.map wD), iE (.ins true 0 [16] [.int n]) n (.lst false (ws.map wD)) ws a b c d) := by
      refine opv_of (d := rdD ws) rfl ?_
      rw [orF_n rfl]
      show some (D.lst true ((ws.map tk).map keyT)) = _
      rw [List.map_map]
      rfl
    have l2 := fz_of (op1_of l1 e5)
    rw [frz_ws] at l2
    unfold S_Board___init___5 dFldS
    rw [l2]
    rfl
  obtain ⟨Vs, s6, hb⟩ := init_6 (hw.perm hp) hn (b := some (.lst false (ws.map wD))) (c := some (rdD ws)) (d := a) (e := b) (f := c) (g := d)
  refine ⟨rs, Vs, ?_, hb.len, fun i hi => ⟨(hb.bfs i hi).len, fun j k h => ?_, fun j k h => (hb.bfs i hi).cmp j k (h.mono fun p hp' => hp.mem_iff.mpr hp')⟩⟩
  · show dEnd 1 (M_Board___init__ [some (.ins true 0 [] []), some (.int n), some (.lst true (ws.map wD)), none, none, none, none, none, none]) = _
    unfold M_Board___init__
    rw [seq_nx s0, seq_nx s1, seq_nx s3, seq_nx s4, seq_nx s5]
    refine (congrArg (dEnd 1) (seq_nx (b := dNx) s6)).trans ?_
    rfl
  · have := (hb.bfs i hi).snd j k h
    exact ⟨this.1, this.2.mono fun p hp' => hp.mem_iff.mp hp'⟩
theorem made_ok {n : Nat} {ws : List (Nat × Nat)} (hw : Ways n ws) (hn : 1 ≤ n ∧ n ≤ 8) (hl : ws.length ≤ 64) : ∃ rs Vs, F__law_made [bD n ws] = some (brD false n rs Vs, []) ∧ Brd ws n Vs := by
  obtain ⟨rs, Vs, e, hb⟩ := init_ok hw hn hl
  refine ⟨rs, Vs, ?_, hb⟩
  have p0 : dPth (rIxP (rV 0) (qC (.int 0))) [some (bD n ws)] = some (.int n, [some (bD n ws)]) := by simp [dFn, dEnd, allS, dSeq, dNx, dRet, dRetV, dRetN, dExpr, dIfS, dAsg, dFor, gN, gTp, gsCons, gsNil, dStop, dBk, dCt, dPar, dC, dV, dQ, qC, qV, qP, qNeg, qOp, dPth, dOp, evOps, dT, dAndT, dOrT, dNotT, dAnd, dOr, dNot, dIf, dCh, oII, hAdd, hSub, hMul, hMod, hDiv, hPow, hLt, hLe, hGt, hGe, a_oLt, a_oLe, a_oGt, a_oGe, a_oAdd, a_oSub, a_oMul, a_oMod, a_oDiv, a_oPow, a_oEq, a_oNe, oEqF, eqF, orF, oIsN, isNo, oIn, inD, rowOf, oNeg, oIsi, oIsi2, isI, isB, isS, isT, isL, oLen, oInt, oAbs, a_oMin2, a_oMax2, oMin3, dTup, dLst, dFz, frz, frzs, noOwn, noOwns, dCall, dCallEnd, lendD, backE, dMethV, isC, dMake, dLenO, kids, withKids, posS, getS, getP, putP, getR, putR, rV, rIxP, rKeyP, rFld, idxD, putFd, dFldS, mSeq, shr, mZip2, mEnum, dYes, isF, sv, List.replicate, Option.map, gSetK, gSetL, gSetT, putKD, Rm.keyOf, keysOf, qK, evQ, dMetV, dMetP, lmEnd, lmApp, lmIns, lmPopAt, dNil, dInT, bD, ix20]
  have p1 : dPth (rIxP (rV 0) (qC (.int 1))) [some (bD n ws)] = some (wsD ws, [some (bD n ws)]) := by simp [dFn, dEnd, allS, dSeq, dNx, dRet, dRetV, dRetN, dExpr, dIfS, dAsg, dFor, gN, gTp, gsCons, gsNil, dStop, dBk, dCt, dPar, dC, dV, dQ, qC, qV, qP, qNeg, qOp, dPth, dOp, evOps, dT, dAndT, dOrT, dNotT, dAnd, dOr, dNot, dIf, dCh, oII, hAdd, hSub, hMul, hMod, hDiv, hPow, hLt, hLe, hGt, hGe, a_oLt, a_oLe, a_oGt, a_oGe, a_oAdd, a_oSub, a_oMul, a_oMod, a_oDiv, a_oPow, a_oEq, a_oNe, oEqF, eqF, orF, oIsN, isNo, oIn, inD, rowOf, oNeg, oIsi, oIsi2, isI, isB, isS, isT, isL, oLen, oInt, oAbs, a_oMin2, a_oMax2, oMin3, dTup, dLst, dFz, frz, frzs, noOwn, noOwns, dCall, dCallEnd, lendD, backE, dMethV, isC, dMake, dLenO, kids, withKids, posS, getS, getP, putP, getR, putR, rV, rIxP, rKeyP, rFld, idxD, putFd, dFldS, mSeq, shr, mZip2, mEnum, dYes, isF, sv, List.replicate, Option.map, gSetK, gSetL, gSetT, putKD, Rm.keyOf, keysOf, qK, evQ, dMetV, dMetP, lmEnd, lmApp, lmIns, lmPopAt, dNil, dInT, bD, wsD, no_ws, ix21]
  have p2 : dOp (orF oList oListT) [.e (dPth (rIxP (rV 0) (qC (.int 1))))] [some (bD n ws)] = some (.lst true (ws.map wD), [some (bD n ws)]) := by
    refine op1_of p1 (orF_s ?_)
    unfold oList
    simp only [wsD, rowOf, no_ws, if_true]
  have m : dMake F_Board___init__ 0 [dPth (rIxP (rV 0) (qC (.int 0))), dOp (orF oList oListT) [.e (dPth (rIxP (rV 0) (qC (.int 1))))]] [] [some (bD n ws)] = some (brD true n rs Vs, [some (bD n ws)]) := by
    unfold dMake
    simp only [List.map_cons, List.map_nil, evOps, p0, p2, List.append_nil, List.cons_append, List.nil_append, e]
  have f : frz (brD true n rs Vs) = brD false n rs Vs := by
    unfold brD frz
    simp [frzs, frz, frzs_of (no_vs Vs), wsD, fz_ws]
  have := fz_of m
  rw [f] at this
  show dEnd 0 (M__law_made [some (bD n ws)]) = _
  unfold M__law_made
  rw [seq_rt (ret_of this)]
  rfl
theorem no_br {n : Nat} {rs : List (Nat × Nat)} {Vs : List (List (Option Nat))} : noOwn (brD false n rs Vs) = true := by
  unfold brD
  simp [noOwn, noOwns, wsD, no_ws, no_vs]
theorem ground_ok {b : D} (hb : Bx b) : ∃ (n : Nat) (ws rs : List (Nat × Nat)) (M : List (List Nat)) (Vs : List (List (Option Nat))) (b' : D), F__law_ground [b, .int 8] = some (.tup [bD n ws, mD false M, brD false n rs Vs], [b']) ∧ (1 ≤ n ∧ n ≤ 8) ∧ Dist ws n M ∧ Brd ws n Vs ∧ Bx b' := by
  obtain ⟨n, ws, b1, e1, hn, hw, hl, hb1⟩ := board_ok hb
  obtain ⟨M, e2, hd⟩ := spans_ok hn hw
  obtain ⟨rs, Vs, e3, hv⟩ := made_ok hw hn hl
  refine ⟨n, ws, rs, M, Vs, b1, ?_, hn, hd, hv, hb1⟩
  have nb : noOwn (bD n ws) = true := by unfold bD; simp [noOwn, noOwns, no_ws]
  have s0 : S__law_ground_0 [some b, some (.int 8), none] = some (.nx [some b1, some (.int 8), some (bD n ws)]) := by
    unfold S__law_ground_0
    exact asg_of (call_ve (i := 0) (m := dV 1) rfl (v_of rfl rfl) rfl e1) rfl
  have v2 : dV 2 [some b1, some (.int 8), some (bD n ws)] = some (bD n ws, [some b1, some (.int 8), some (bD n ws)]) := v_of rfl nb
  have s1 : S__law_ground_1 [some b1, some (.int 8), some (bD n ws)] = some (.rt (.tup [bD n ws, mD false M, brD false n rs Vs]) [some b1, some (.int 8), some (bD n ws)]) := by
    unfold S__law_ground_1
    have := fz_of (tup3_of v2 (call_e v2 e2) (call_e v2 e3))
    rw [frz_of _ (by simp [noOwn, noOwns, nb, no_m, no_br])] at this
    exact ret_of this
  show dEnd 1 (M__law_ground [some b, some (.int 8), none]) = _
  unfold M__law_ground
  rw [seq_nx s0, seq_rt s1]
  rfl
end K11
set_option Elab.async false
set_option linter.all false
set_option maxRecDepth 100000
set_option maxHeartbeats 4000000
namespace K11
open PySem L2 Rm
/-! ### places, read -/
def PthAt (r : Rm.Env → Option (Nat × List Stp)) (ρ : Rm.Env) (c : D) : Prop := ∃ i p, r ρ = some (i, p) ∧ getR ρ i p = some c
theorem PthAt.v {ρ : Rm.Env} {s : Nat} {c : D} (h : ρ[s]? = some (some c)) : PthAt (rV s) ρ c := ⟨s, [], by simp only [rV, h], by simp only [getR, h, getP]⟩
theorem getR_app {ρ : Rm.Env} {i : Nat} {p : List Stp} {c d : D} {s : Stp} (h : getR ρ i p = some c) (hs : getS c s = some d) : getR ρ i (p ++ [s]) = some d := by
  unfold getR at *
  split at h
  · rw [getP_snoc h, hs]
  · cases h
theorem PthAt.ix {ρ : Rm.Env} {r : Rm.Env → Option (Nat × List Stp)} {q : Rm.Env → Option D} {c d : D} {k : Int} {xs : List D} (h : PthAt r ρ c) (hq : q ρ = some (.int k)) (hc : rowOf c = some xs) (hx : atI xs k = some d) : PthAt (rIxP r q) ρ d := by
  obtain ⟨i, p, h1, h2⟩ := h
  have e : getS c (.ix k) = some d := by
    cases c with
    | lst o ys =>
      cases hc
      unfold atI at hx
      unfold getS
      simp only [posS, kids]
      cases hj : ixN xs.length k with
      | none => rw [hj] at hx; cases hx
      | some j => rw [hj] at hx; exact hx
    | tup ys =>
      cases hc
      unfold atI at hx
      unfold getS
      simp only [posS, kids]
      cases hj : ixN xs.length k with
      | none => rw [hj] at hx; cases hx
      | some j => rw [hj] at hx; exact hx
    | _ => cases hc
  refine ⟨i, p ++ [.ix k], ?_, getR_app h2 e⟩
  simp only [rIxP, h1, hq]
theorem PthAt.fld {ρ : Rm.Env} {r : Rm.Env → Option (Nat × List Stp)} {o : Bool} {c0 n j : Nat} {fs : List Nat} {xs : List D} {d : D} (h : PthAt r ρ (.ins o c0 fs xs)) (hi : idxD n fs = some j) (hx : xs[j]? = some d) : PthAt (rFld r c0 n) ρ d := by
  obtain ⟨i, p, h1, h2⟩ := h
  refine ⟨i, p ++ [.fld n], ?_, getR_app h2 ?_⟩
  · simp only [rFld, h1, h2, if_true]
  · simp only [getS, posS, kids, hi, hx]
theorem qP_of {ρ : Rm.Env} {r : Rm.Env → Option (Nat × List Stp)} {d : D} (h : PthAt r ρ d) (hn : noOwn d = true) : qP r ρ = some d := by
  obtain ⟨i, p, h1, h2⟩ := h
  simp only [qP, h1, h2, hn, if_true]
theorem dPth_of {ρ : Rm.Env} {r : Rm.Env → Option (Nat × List Stp)} {d : D} (h : PthAt r ρ d) (hn : noOwn d = true) : dPth r ρ = some (d, ρ) := by
  unfold dPth dQ
  rw [qP_of h hn]
theorem qV_of {ρ : Rm.Env} {s : Nat} {d : D} (h : ρ[s]? = some (some d)) (hn : noOwn d = true) : qV s ρ = some d := by simp only [qV, h, hn, if_true]
theorem qV_i {ρ : Rm.Env} {s : Nat} {i : Nat} (h : ρ[s]? = some (some (iD i))) : qV s ρ = some (.int (i : Int)) := qV_of h rfl
/-! ### comprehensions of lists that stand for things -/
theorem comp_enc {α : Type} {enc : α → D} {xs : List α} (p : α → Bool) (f : α → D) {i : MI} {a : MG} {c : MT} {e : Rm.M} {vs : List Nat} {ρ ρ0 : Rm.Env} (hi : i ρ = some (xs.map enc, ρ0)) (hs : savOk ρ0 vs = true) (hl : xs.length ≤ 100000)
    (st : ∀ x, x ∈ xs → ∃ ρ1, a (enc x) (wipeE ρ0 vs) = some ρ1 ∧ c ρ1 = some (p x, ρ1) ∧ (p x = true → e ρ1 = some (f x, ρ1)) ∧ wipeE ρ1 vs = wipeE ρ0 vs) :
    dComp i vs a c e ρ = some (.lst true ((xs.filter p).map f), restE (wipeE ρ0 vs) ρ0 vs) := by
  obtain ⟨acc, ρ2, q1, rfl, q3⟩ := comp_mem (i := i) (a := a) (c := c) (e := e) (fun pre acc ρ => ρ = wipeE ρ0 vs ∧ acc = ((xs.take pre.length).filter p).map f) hi hs (by rw [List.length_map]; exact hl) ⟨rfl, by simp⟩ fun p1 x p2 acc ρ hx ⟨hρ, ha⟩ => by
    subst hρ ha
    have hd : (xs.map enc)[p1.length]? = some x := by rw [hx]; simp
    rw [List.getElem?_map] at hd
    obtain ⟨y, hy, rfl⟩ := Option.map_eq_some_iff.mp hd
    obtain ⟨ρ1, e1, e2, e3, e4⟩ := st y (List.mem_of_getElem? hy)
    have et : xs.take (p1 ++ [enc y]).length = xs.take p1.length ++ [y] := by rw [List.length_append, List.length_singleton, List.take_add_one, hy]; rfl
    refine ⟨ρ1, p y, ρ1, e1, e2, fun hb => ⟨e4, by rw [et]; simp [hb]⟩, fun hb => ⟨f y, ρ1, e3 hb, e4, by rw [et]; simp [hb]⟩⟩
  rw [q1, q3, List.length_map, List.take_length]
theorem comp_enc_all {α : Type} {enc : α → D} {xs : List α} (f : α → D) {i : MI} {a : MG} {e : Rm.M} {vs : List Nat} {ρ ρ0 : Rm.Env} (hi : i ρ = some (xs.map enc, ρ0)) (hs : savOk ρ0 vs = true) (hl : xs.length ≤ 100000)
    (st : ∀ x, x ∈ xs → ∃ ρ1, a (enc x) (wipeE ρ0 vs) = some ρ1 ∧ e ρ1 = some (f x, ρ1) ∧ wipeE ρ1 vs = wipeE ρ0 vs) :
    dComp i vs a dYes e ρ = some (.lst true (xs.map f), restE (wipeE ρ0 vs) ρ0 vs) := by
  have := comp_enc (c := dYes) (fun _ => true) f hi hs hl fun x hx => by
    obtain ⟨ρ1, h1, h2, h3⟩ := st x hx
    exact ⟨ρ1, h1, rfl, fun _ => h2, h3⟩
  rwa [show xs.filter (fun _ => true) = xs from List.filter_eq_self.mpr fun _ _ => rfl] at this
theorem any_of {α : Type} {xs : List α} {P : α → Bool} {m : Rm.M} {ρ ρ1 : Rm.Env} {o : Bool} (h : m ρ = some (.lst o (xs.map fun x => D.bl (P x)), ρ1)) : dOp oAny [.e m] ρ = some (.bl (xs.any P), ρ1) := by
  refine op1_of h ?_
  unfold oAny
  rw [show (xs.map fun x => D.bl (P x)) = (xs.map P).map D.bl by rw [List.map_map]; rfl]
  simp only [blsOf_map, List.any_map, Function.id_comp]
theorem all_of {α : Type} {xs : List α} {P : α → Bool} {m : Rm.M} {ρ ρ1 : Rm.Env} {o : Bool} (h : m ρ = some (.lst o (xs.map fun x => D.bl (P x)), ρ1)) : dOp oAll [.e m] ρ = some (.bl (xs.all P), ρ1) := by
  refine op1_of h ?_
  unfold oAll
  rw [show (xs.map fun x => D.bl (P x)) = (xs.map P).map D.bl by rw [List.map_map]; rfl]
  simp only [blsOf_map, List.all_map, Function.id_comp]
theorem tup_of {ls : List Nat} {m : Rm.M} {ρ ρ1 : Rm.Env} {o : Bool} (h : m ρ = some (.lst o (ls.map iD), ρ1)) : dOp oTup [.e m] ρ = some (lotD ls, ρ1) := by
  refine op1_of h ?_
  unfold oTup
  simp only [rowOf, no_iD, if_true, lotD]
theorem ftup_of {ls : List Nat} {m : Rm.M} {ρ ρ1 : Rm.Env} {o : Bool} (h : m ρ = some (.lst o (ls.map iD), ρ1)) : dFz (dOp oTup [.e m]) ρ = some (lotD ls, ρ1) := by
  rw [fz_of (tup_of h), frz_lot]
theorem seq_lot {s : Nat} {ρ : Rm.Env} {ls : List Nat} (h : ρ[s]? = some (some (lotD ls))) : mSeq (dV s) ρ = some (ls.map iD, ρ) := by
  unfold mSeq
  rw [v_of h (no_lot ls)]
  unfold lotD
  simp only [shr_of (no_iD ls)]
theorem len_of {s : Nat} {ρ : Rm.Env} {c : D} {xs : List D} (h : ρ[s]? = some (some c)) (hc : rowOf c = some xs) : dOp oLen [.v s] ρ = some (.int (xs.length : Nat), ρ) := by
  refine opv_of h ?_
  cases c with
  | lst o ys => cases hc; rfl
  | tup ys => cases hc; rfl
  | _ => cases hc
theorem rng_of {m : Rm.M} {n : Nat} {ρ ρ1 : Rm.Env} (h : m ρ = some (.int (n : Nat), ρ1)) (hn : n ≤ 100000) : mRange1 (.e m) ρ = some ((List.range n).map iD, ρ1) := by
  rw [← rangeD_eq]
  exact mRange1_nat (by simp only [evOps, h]) hn
/-! ### reached, led into, both -/
def pg (ps : List Nat) (i : Nat) : Nat := ps.getD i 0
theorem at_pg {ps : List Nat} {i : Nat} (h : i < ps.length) : atI (ps.map iD) (i : Int) = some (iD (pg ps i)) := by
  rw [atI_nat', List.getElem?_map]
  unfold pg
  rw [List.getD_eq_getElem?_getD, List.getElem?_eq_getElem h]
  rfl
theorem at_row {n : Nat} {o : Bool} {M : List (List Nat)} (h : Sq n M) {i : Nat} (hi : i < n) : ∃ r, atI (M.map (rowD o)) (i : Int) = some (rowD o r) ∧ r.length = n ∧ ∀ j, j < n → atI (r.map iD) (j : Int) = some (iD (gt M i j)) := by
  have h1 : i < M.length := by rw [h.1]; exact hi
  refine ⟨M[i], by rw [atI_nat', List.getElem?_map, List.getElem?_eq_getElem h1]; rfl, h.2 _ (List.getElem_mem h1), fun j hj => ?_⟩
  obtain ⟨r, e1, e2, e3, e4⟩ := h.at hi hj
  rw [List.getElem?_eq_getElem h1] at e1
  cases e1
  rw [atI_nat', List.getElem?_map, e3]; rfl
theorem cell_of {n : Nat} {o : Bool} {M : List (List Nat)} (h : Sq n M) {s x y i j : Nat} {ρ : Rm.Env} (hs : ρ[s]? = some (some (mD o M))) (hx : ρ[x]? = some (some (iD i))) (hy : ρ[y]? = some (some (iD j))) (hi : i < n) (hj : j < n) : dPth (rIxP (rIxP (rV s) (qV x)) (qV y)) ρ = some (iD (gt M i j), ρ) := by
  obtain ⟨r, e1, e2, e3⟩ := at_row (o := o) h hi
  exact dPth_of (((PthAt.v hs).ix (xs := M.map (rowD o)) (qV_i hx) rfl e1).ix (xs := r.map iD) (qV_i hy) rfl (e3 j hj)) rfl
theorem pace_at {ps : List Nat} {s x i : Nat} {ρ : Rm.Env} (hs : ρ[s]? = some (some (lotD ps))) (hx : ρ[x]? = some (some (iD i))) (hi : i < ps.length) : dPth (rIxP (rV s) (qV x)) ρ = some (iD (pg ps i), ρ) := dPth_of ((PthAt.v hs).ix (xs := ps.map iD) (qV_i hx) rfl (at_pg hi)) rfl
theorem le_of {m1 m2 : Rm.M} {ρ ρ1 ρ2 : Rm.Env} {a b : Nat} (h1 : m1 ρ = some (iD a, ρ1)) (h2 : m2 ρ1 = some (iD b, ρ2)) : dOp oLe [.e m1, .e m2] ρ = some (.bl (decide (a ≤ b)), ρ2) := by
  refine op_ee h1 h2 ?_
  simp [a_oLe, oII, hLe, iD]
def reachV (n : Nat) (M : List (List Nat)) (ps ls : List Nat) : List Nat := (List.range n).filter fun t => ls.any fun o => decide (gt M o t ≤ pg ps o)
def intoV (n : Nat) (M : List (List Nat)) (ps ls : List Nat) : List Nat := (List.range n).filter fun o => ls.any fun t => decide (gt M o t ≤ pg ps o)
def bothV (as bs : List Nat) : List Nat := as.filter fun x => bs.contains x
theorem reached_ok {n : Nat} {M : List (List Nat)} {ps ls : List Nat} (hq : Sq n M) (hn : n ≤ 8) (hp : ps.length = n) (hl : ∀ x, x ∈ ls → x < n) (hz : ls.length ≤ 100000) : F__law_reached [mD false M, lotD ps, lotD ls] = some (lotD (reachV n M ps ls), []) := by
  have c1 : dComp (mRange1 (.e (dOp oLen [.v 0]))) [3] (gN 3) (dT (dOp oAny [.e (dComp (mSeq (dV 2)) [4] (gN 4) (dYes) (dOp oLe [.e (dPth (rIxP (rIxP (rV 0) (qV 4)) (qV 3))), .e (dPth (rIxP (rV 1) (qV 4)))]))])) (dV 3) [some (mD false M), some (lotD ps), some (lotD ls), none, none] = some (.lst true ((reachV n M ps ls).map iD), [some (mD false M), some (lotD ps), some (lotD ls), none, none]) := by
    refine comp_enc (xs := List.range n) (ρ0 := [some (mD false M), some (lotD ps), some (lotD ls), none, none]) _ iD (rng_of (by have := len_of (s := 0) (ρ := [some (mD false M), some (lotD ps), some (lotD ls), none, none]) (c := mD false M) rfl rfl; rwa [List.length_map, hq.1] at this) (by omega)) (by simp [savOk]) (by rw [List.length_range]; omega) fun t ht => ?_
    have ht : t < n := List.mem_range.mp ht
    refine ⟨[some (mD false M), some (lotD ps), some (lotD ls), some (iD t), none], by simp [gN, wipeE], t_of (any_of (xs := ls) (o := true) (P := fun o => decide (gt M o t ≤ pg ps o)) ?_), fun _ => v_of rfl rfl, by simp [wipeE]⟩
    refine comp_enc_all (ρ0 := [some (mD false M), some (lotD ps), some (lotD ls), some (iD t), none]) _ (seq_lot rfl) (by simp [savOk]) hz fun o ho => ?_
    have ho := hl o ho
    exact ⟨[some (mD false M), some (lotD ps), some (lotD ls), some (iD t), some (iD o)], by simp [gN, wipeE], le_of (cell_of hq rfl rfl rfl ho ht) (pace_at rfl rfl (by omega)), by simp [wipeE]⟩
  show dEnd 0 (M__law_reached [some (mD false M), some (lotD ps), some (lotD ls), none, none]) = _
  unfold M__law_reached
  rw [seq_rt (ret_of (ftup_of c1))]
  rfl
theorem inD_iD {x : Nat} {bs : List Nat} : inD (iD x) (bs.map iD) = bs.contains x := by
  unfold inD inV
  rw [List.any_map, List.any_map, List.contains_eq_any_beq]
  refine congrArg (fun f => bs.any f) (funext fun y => ?_)
  show decide ((y : Int) = (x : Int)) = (x == y)
  by_cases h : x = y
  · simp [h]
  · have h2 : ¬ (y : Int) = (x : Int) := by omega
    simp [h, h2]
theorem isF_iD (bs : List Nat) : (bs.map iD).all isF = true := List.all_eq_true.mpr fun x hx => by
  obtain ⟨i, _, rfl⟩ := List.mem_map.mp hx
  rfl
theorem in_lot (x : Nat) (bs : List Nat) : oIn false [iD x, lotD bs] = some (.bl (bs.contains x)) := by
  unfold oIn lotD
  simp only [rowOf, isF_iD, inD_iD]
  rfl
theorem in_vv {i j x : Nat} {bs : List Nat} {ρ : Rm.Env} (h1 : ρ[i]? = some (some (iD x))) (h2 : ρ[j]? = some (some (lotD bs))) : dOp (oIn false) [.v i, .v j] ρ = some (.bl (bs.contains x), ρ) := by
  unfold dOp
  simp only [evOps, h1, h2, in_lot]
theorem in_ve {i x : Nat} {bs : List Nat} {m : Rm.M} {ρ : Rm.Env} (h1 : ρ[i]? = some (some (iD x))) (h2 : m ρ = some (lotD bs, ρ)) : dOp (oIn false) [.v i, .e m] ρ = some (.bl (bs.contains x), ρ) := op_ve h1 h2 h1 (in_lot x bs)
theorem both_c {as bs : List Nat} (hz : as.length ≤ 100000) : dComp (mSeq (dV 0)) [2] (gN 2) (dT (dOp (oIn false) [.v 2, .v 1])) (dV 2) [some (lotD as), some (lotD bs), none] = some (.lst true ((bothV as bs).map iD), [some (lotD as), some (lotD bs), none]) :=
  comp_enc (xs := as) (ρ0 := [some (lotD as), some (lotD bs), none]) _ iD (seq_lot rfl) (by simp [savOk]) hz fun t ht => ⟨[some (lotD as), some (lotD bs), some (iD t)], by simp [gN, wipeE], t_of (in_vv rfl rfl), fun _ => v_of rfl rfl, by simp [wipeE]⟩
theorem both_ok {as bs : List Nat} (hz : as.length ≤ 100000) : F__law_both [lotD as, lotD bs] = some (lotD (bothV as bs), []) := by
  show dEnd 0 (M__law_both [some (lotD as), some (lotD bs), none]) = _
  unfold M__law_both
  rw [seq_rt (ret_of (ftup_of (both_c hz)))]
  rfl
theorem inboth_ok {as bs : List Nat} (hz : as.length ≤ 100000) : F_in_both [lotD as, lotD bs] = some (lotD (bothV as bs), []) := by
  show dEnd 0 (M_in_both [some (lotD as), some (lotD bs), none]) = _
  unfold M_in_both
  rw [seq_rt (ret_of (ftup_of (both_c hz)))]
  rfl
end K11
set_option Elab.async false
set_option linter.all false
set_option maxRecDepth 100000
set_option maxHeartbeats 4000000
namespace K11
open PySem L2 Rm
theorem set_back {ρ : Rm.Env} {i : Nat} {b : D} (h : ρ[i]? = some (some b)) : (ρ.set i none).set i (some b) = ρ := by
  rw [List.set_set]
  obtain ⟨hi, e⟩ := List.getElem?_eq_some_iff.mp h
  rw [← e, List.set_getElem_self]
theorem meth_1 {F : List D → Option (D × List D)} {c0 mn i : Nat} {m : Rm.M} {ρ : Rm.Env} {b d x : D} (h0 : ρ[i]? = some (some b)) (hc : isC c0 mn b = true) (h : m ρ = some (d, ρ)) (hF : F [b, d] = some (x, [b])) : dMethV F c0 mn i [.e m] [] ρ = some (x, ρ) := by
  unfold dMethV
  simp only [h0, hc, if_true, evOps, h, dCallEnd, lendD, List.append_nil, hF, backE]
  rw [set_back h0]
theorem meth_2 {F : List D → Option (D × List D)} {c0 mn i : Nat} {m m2 : Rm.M} {ρ : Rm.Env} {b d d2 x : D} (h0 : ρ[i]? = some (some b)) (hc : isC c0 mn b = true) (h : m ρ = some (d, ρ)) (h2 : m2 ρ = some (d2, ρ)) (hF : F [b, d, d2] = some (x, [b])) : dMethV F c0 mn i [.e m, .e m2] [] ρ = some (x, ρ) := by
  unfold dMethV
  simp only [h0, hc, if_true, evOps, h, h2, dCallEnd, lendD, List.append_nil, hF, backE]
  rw [set_back h0]
theorem leno_of {F : List D → Option (D × List D)} {c0 mn i n : Nat} {ρ : Rm.Env} {b : D} (h0 : ρ[i]? = some (some b)) (hc : isC c0 mn b = true) (hn : n ≤ 1000) (hF : F [b] = some (.int (n : Nat), [b])) : dLenO F c0 mn (.v i) ρ = some (.int (n : Nat), ρ) := by
  have h1 : 0 ≤ (n : Int) ∧ (n : Int) < 2 ^ 63 := by omega
  unfold dLenO
  simp only [evOps, h0, lendD, hc, if_true, dCallEnd, List.append_nil, hF, h1, backE]
  rw [set_back h0]
  simp
/-- a board of n places, its spans as the law's -/
structure Bd (n : Nat) (M : List (List Nat)) (Vs : List (List (Option Nat))) : Prop where
  n8 : 1 ≤ n ∧ n ≤ 8
  sq : Sq n M
  m99 : ∀ i j, i < n → j < n → gt M i j ≤ 99
  diag : ∀ i, i < n → gt M i i = 0
  len : Vs.length = n
  row : ∀ i, i < n → (Vs.getD i []).length = n
  eq : ∀ i j, i < n → j < n → vl (Vs.getD i []) j = if gt M i j < 99 then some (gt M i j) else none
theorem bd_of {n : Nat} {ws : List (Nat × Nat)} {M : List (List Nat)} {Vs : List (List (Option Nat))} (hn : 1 ≤ n ∧ n ≤ 8) (hd : Dist ws n M) (hb : Brd ws n Vs) : Bd n M Vs := ⟨hn, hd.sq, fun i j hi hj => (hd.snd i j hi hj).1, fun i hi => Nat.le_zero.mp (hd.cmp i i 0 hi hi rfl), hb.len, fun i hi => (hb.bfs i hi).len, fun i j hi hj => spn_eq hd hb hi hj⟩
section
variable {n : Nat} {M : List (List Nat)} {Vs : List (List (Option Nat))} {rs : List (Nat × Nat)}
theorem len_ok (B : Bd n M Vs) : F_Board___len__ [brD false n rs Vs] = some (.int (n : Nat), [brD false n rs Vs]) := by
  have p : dPth (rFld (rV 0) 0 18) [some (brD false n rs Vs)] = some (.lst false (vsD Vs), [some (brD false n rs Vs)]) := dPth_of (PthAt.fld (o := false) (fs := fld) (xs := [.int n, wsD rs, .lst false (vsD Vs)]) (j := 2) (PthAt.v rfl) rfl rfl) (by unfold noOwn; rw [no_vs]; rfl)
  have e : dOp oLen [.e (dPth (rFld (rV 0) 0 18))] [some (brD false n rs Vs)] = some (.int (n : Nat), [some (brD false n rs Vs)]) := op1_of p (by
    show some (D.int ((vsD Vs).length : Nat)) = _
    unfold vsD
    rw [List.length_map, B.len])
  show dEnd 1 (M_Board___len__ [some (brD false n rs Vs)]) = _
  unfold M_Board___len__
  rw [seq_rt (ret_of e)]
  rfl
theorem lenv {i : Nat} {ρ : Rm.Env} (B : Bd n M Vs) (h : ρ[i]? = some (some (brD false n rs Vs))) : dLenO F_Board___len__ 0 2 (.v i) ρ = some (.int (n : Nat), ρ) := leno_of h rfl (by have := B.n8; omega) (len_ok B)
theorem need_ok (B : Bd n M Vs) {p : Nat} (hp : p < n) : F_Board_need [brD false n rs Vs, iD p] = some (.non, [brD false n rs Vs]) := by
  have f : dPth (rFld (rV 0) 0 16) [some (brD false n rs Vs), some (iD p)] = some (.int n, [some (brD false n rs Vs), some (iD p)]) := dPth_of (PthAt.fld (o := false) (fs := fld) (xs := [.int n, wsD rs, .lst false (vsD Vs)]) (j := 0) (PthAt.v rfl) rfl rfl) rfl
  have s : dOp oSub [.e (dPth (rFld (rV 0) 0 16)), .e (dC (.int 1))] [some (brD false n rs Vs), some (iD p)] = some (.int ((n : Int) - 1), [some (brD false n rs Vs), some (iD p)]) := op_ee f rfl rfl
  have g : F_is_number [iD p, .int 0, .int ((n : Int) - 1)] = some (.bl true, []) := by
    have g1 : (p : Int) ≤ (n : Int) - 1 := by omega
    unfold iD
    rw [num_int]
    simp [g1]
  have c : dCall F_is_number [.e (dV 1), .e (dC (.int 0)), .e (dOp oSub [.e (dPth (rFld (rV 0) 0 16)), .e (dC (.int 1))])] [] [some (brD false n rs Vs), some (iD p)] = some (.bl true, [some (brD false n rs Vs), some (iD p)]) := call_3 (v_of rfl rfl) rfl s g
  show dEnd 1 (M_Board_need [some (brD false n rs Vs), some (iD p)]) = _
  unfold M_Board_need
  have t : dNotT (dT (dCall F_is_number [.e (dV 1), .e (dC (.int 0)), .e (dOp oSub [.e (dPth (rFld (rV 0) 0 16)), .e (dC (.int 1))])] [])) [some (brD false n rs Vs), some (iD p)] = some (false, [some (brD false n rs Vs), some (iD p)]) := by
    unfold dNotT
    rw [t_of c]; rfl
  rw [seq_nx ((if_f t).trans rfl)]
  rfl
theorem row_at (B : Bd n M Vs) {i : Nat} (hi : i < n) : atI (vsD Vs) (i : Int) = some (.lst false ((Vs.getD i []).map oD)) := by
  have h1 : i < Vs.length := by rw [B.len]; exact hi
  rw [atI_nat']
  unfold vsD
  rw [List.getElem?_map, List.getElem?_eq_getElem h1, List.getD_eq_getElem?_getD, List.getElem?_eq_getElem h1]
  rfl
theorem span_at {V : List (Option Nat)} {j : Nat} (hj : j < V.length) : atI (V.map oD) (j : Int) = some (oD (vl V j)) := by
  rw [atI_nat', List.getElem?_map, vl_get hj]; rfl
theorem no_oD1 (o : Option Nat) : noOwn (oD o) = true := by cases o <;> rfl
theorem far_ok (B : Bd n M Vs) {i j : Nat} (hi : i < n) (hj : j < n) : F_Board_far [brD false n rs Vs, iD i, iD j] = some (oD (vl (Vs.getD i []) j), [brD false n rs Vs]) := by
  have s0 : S_Board_far_0 [some (brD false n rs Vs), some (iD i), some (iD j)] = some (.nx [some (brD false n rs Vs), some (iD i), some (iD j)]) := by
    unfold S_Board_far_0 dExpr
    rw [meth_1 (i := 0) rfl rfl (v_of rfl rfl) (need_ok B hi)]
  have s1 : S_Board_far_1 [some (brD false n rs Vs), some (iD i), some (iD j)] = some (.nx [some (brD false n rs Vs), some (iD i), some (iD j)]) := by
    unfold S_Board_far_1 dExpr
    rw [meth_1 (i := 0) rfl rfl (v_of rfl rfl) (need_ok B hj)]
  have p : dPth (rIxP (rIxP (rFld (rV 0) 0 18) (qV 1)) (qV 2)) [some (brD false n rs Vs), some (iD i), some (iD j)] = some (oD (vl (Vs.getD i []) j), [some (brD false n rs Vs), some (iD i), some (iD j)]) :=
    dPth_of (((PthAt.fld (o := false) (fs := fld) (xs := [.int n, wsD rs, .lst false (vsD Vs)]) (j := 2) (PthAt.v rfl) rfl rfl).ix (xs := vsD Vs) (qV_i rfl) rfl (row_at B hi)).ix (xs := (Vs.getD i []).map oD) (qV_i rfl) rfl (span_at (by rw [B.row i hi]; exact hj))) (no_oD1 _)
  show dEnd 1 (M_Board_far [some (brD false n rs Vs), some (iD i), some (iD j)]) = _
  unfold M_Board_far
  have f := fz_of p
  rw [frz_of _ (no_oD1 _)] at f
  rw [seq_nx s0, seq_nx s1, seq_rt (b := dNx) (show S_Board_far_2 _ = _ from ret_of f)]
  rfl
def wthV (V : List (Option Nat)) (m : Nat) : List Nat := (List.range V.length).filter fun j => match vl V j with | some k => decide (k ≤ m) | none => false
theorem enum_eq {xs : List D} : ∀ {k : Nat}, enumD k xs = (List.range xs.length).map fun j => .tup [iD (k + j), xs.getD j .non] := by
  induction xs with
  | nil => intro k; rfl
  | cons x xs ih =>
    intro k
    rw [List.length_cons, List.range_succ_eq_map, List.map_cons, List.map_map]
    show D.tup [.int k, x] :: enumD (k + 1) xs = _
    rw [ih]
    refine congr (congrArg _ rfl) (List.map_congr_left fun j _ => ?_)
    show D.tup [iD (k + 1 + j), xs.getD j .non] = D.tup [iD (k + (j + 1)), (x :: xs).getD (j + 1) .non]
    rw [show k + 1 + j = k + (j + 1) by omega]
    rfl
theorem enum_V (V : List (Option Nat)) : enumD 0 (V.map oD) = (List.range V.length).map fun j => .tup [iD j, oD (vl V j)] := by
  rw [enum_eq, List.length_map]
  refine List.map_congr_left fun j hj => ?_
  have hj : j < V.length := List.mem_range.mp hj
  rw [Nat.zero_add, List.getD_eq_getElem?_getD, List.getElem?_map, vl_get hj]
  rfl
theorem within_ok (B : Bd n M Vs) {i m : Nat} (hi : i < n) : F_Board_within [brD false n rs Vs, iD i, iD m] = some (lotD (wthV (Vs.getD i []) m), [brD false n rs Vs]) := by
  have s0 : S_Board_within_0 [some (brD false n rs Vs), some (iD i), some (iD m), none, none] = some (.nx [some (brD false n rs Vs), some (iD i), some (iD m), none, none]) := by
    unfold S_Board_within_0 dExpr
    rw [meth_1 (i := 0) rfl rfl (v_of rfl rfl) (need_ok B hi)]
  have p : dPth (rIxP (rFld (rV 0) 0 18) (qV 1)) [some (brD false n rs Vs), some (iD i), some (iD m), none, none] = some (.lst false ((Vs.getD i []).map oD), [some (brD false n rs Vs), some (iD i), some (iD m), none, none]) :=
    dPth_of ((PthAt.fld (o := false) (fs := fld) (xs := [.int n, wsD rs, .lst false (vsD Vs)]) (j := 2) (PthAt.v rfl) rfl rfl).ix (xs := vsD Vs) (qV_i rfl) rfl (row_at B hi)) (by unfold noOwn; rw [no_oD]; rfl)
  have c := comp_enc (xs := List.range (Vs.getD i []).length) (enc := fun j => .tup [iD j, oD (vl (Vs.getD i []) j)]) (fun j => match vl (Vs.getD i []) j with | some k => decide (k ≤ m) | none => false) iD
    (i := mEnum (dPth (rIxP (rFld (rV 0) 0 18) (qV 1)))) (vs := [3, 4]) (a := gTp 2 (gsCons (gN 3) (gsCons (gN 4) (gsNil)))) (c := dAndT (dT (dOp (oIsN true) [.v 4, .e (dC (.non))])) (dT (dOp oLe [.v 4, .v 2]))) (e := dV 3)
    (ρ := [some (brD false n rs Vs), some (iD i), some (iD m), none, none]) (ρ0 := [some (brD false n rs Vs), some (iD i), some (iD m), none, none])
    (by unfold mEnum; simp only [evOps, p, seqOf, shr_of (no_oD _), enum_V]) (by simp [savOk]) (by rw [List.length_range, B.row i hi]; have := B.n8; omega) fun j hj => by
      refine ⟨[some (brD false n rs Vs), some (iD i), some (iD m), some (iD j), some (oD (vl (Vs.getD i []) j))], by simp [gTp, gsCons, gsNil, gN, wipeE], ?_, fun _ => v_of rfl rfl, by simp [wipeE]⟩
      cases vl (Vs.getD i []) j with
      | none => rfl
      | some k => simp [dFn, dEnd, allS, dSeq, dNx, dRet, dRetV, dRetN, dExpr, dIfS, dAsg, dFor, gN, gTp, gsCons, gsNil, dStop, dBk, dCt, dPar, dC, dV, dQ, qC, qV, qP, qNeg, qOp, dPth, dOp, evOps, dT, dAndT, dOrT, dNotT, dAnd, dOr, dNot, dIf, dCh, oII, hAdd, hSub, hMul, hMod, hDiv, hPow, hLt, hLe, hGt, hGe, a_oLt, a_oLe, a_oGt, a_oGe, a_oAdd, a_oSub, a_oMul, a_oMod, a_oDiv, a_oPow, a_oEq, a_oNe, oEqF, eqF, orF, oIsN, isNo, oIn, inD, rowOf, oNeg, oIsi, oIsi2, isI, isB, isS, isT, isL, oLen, oInt, oAbs, a_oMin2, a_oMax2, oMin3, dTup, dLst, dFz, frz, frzs, noOwn, noOwns, dCall, dCallEnd, lendD, backE, dMethV, isC, dMake, dLenO, kids, withKids, posS, getS, getP, putP, getR, putR, rV, rIxP, rKeyP, rFld, idxD, putFd, dFldS, mSeq, shr, mZip2, mEnum, dYes, isF, sv, List.replicate, Option.map, gSetK, gSetL, gSetT, putKD, Rm.keyOf, keysOf, qK, evQ, dMetV, dMetP, lmEnd, lmApp, lmIns, lmPopAt, dNil, dInT, oD, iD]
  show dEnd 1 (M_Board_within [some (brD false n rs Vs), some (iD i), some (iD m), none, none]) = _
  unfold M_Board_within
  rw [seq_nx s0, seq_rt (b := dNx) (show S_Board_within_1 _ = _ from ret_of (ftup_of c))]
  rfl
theorem led_eq (B : Bd n M Vs) {ps ls : List Nat} (hp : ∀ p, p ∈ ps → p ≤ 7) (hl : ∀ x, x ∈ ls → x < n) {i : Nat} (hi : i < n) (hip : i < ps.length) : ((wthV (Vs.getD i []) (pg ps i)).any fun t => ls.contains t) = ls.any fun t => decide (gt M i t ≤ pg ps i) := by
  have h7 : pg ps i ≤ 7 := by
    unfold pg
    rw [List.getD_eq_getElem?_getD, List.getElem?_eq_getElem hip]
    exact hp _ (List.getElem_mem hip)
  rw [Bool.eq_iff_iff]
  constructor
  · intro h
    obtain ⟨t, ht, hc⟩ := List.any_eq_true.mp h
    have hc := List.contains_iff_mem.mp hc
    refine List.any_eq_true.mpr ⟨t, hc, ?_⟩
    obtain ⟨h1, h2⟩ := List.mem_filter.mp ht
    rw [B.eq i t hi (hl t hc)] at h2
    split at h2
    · rename_i k hk
      split at hk
      · cases hk; exact h2
      · cases hk
    · cases h2
  · intro h
    obtain ⟨t, ht, hc⟩ := List.any_eq_true.mp h
    have hc := of_decide_eq_true hc
    refine List.any_eq_true.mpr ⟨t, List.mem_filter.mpr ⟨?_, ?_⟩, List.contains_iff_mem.mpr ht⟩
    · rw [B.row i hi]; exact List.mem_range.mpr (hl t ht)
    · rw [B.eq i t hi (hl t ht), if_pos (by omega)]
      exact decide_eq_true hc
theorem enum_ps (ps : List Nat) : enumD 0 (ps.map iD) = (List.range ps.length).map fun j => .tup [iD j, iD (pg ps j)] := by
  rw [enum_eq, List.length_map]
  refine List.map_congr_left fun j hj => ?_
  have hj : j < ps.length := List.mem_range.mp hj
  unfold pg
  rw [Nat.zero_add, List.getD_eq_getElem?_getD, List.getElem?_map, List.getD_eq_getElem?_getD, List.getElem?_eq_getElem hj]
  rfl
theorem enum_of {m : Rm.M} {ρ ρ1 : Rm.Env} {d : D} {xs : List D} (h : m ρ = some (d, ρ1)) (hs : seqOf d = some xs) : mEnum m ρ = some (enumD 0 xs, ρ1) := by
  unfold mEnum
  simp only [evOps, h, hs]
end
end K11
set_option Elab.async false
set_option linter.all false
set_option maxRecDepth 100000
set_option maxHeartbeats 4000000
namespace K11
open PySem L2 Rm
inductive Look where
  | inn (ls : List Nat)
  | parts (lss : List (List Nat))
  | near (p r : Nat)
def wIn : PySem.Str := ("in" : PySem.Str)
def wParts : PySem.Str := ("parts" : PySem.Str)
def wNear : PySem.Str := ("near" : PySem.Str)
def lookD : Look → D
  | .inn ls => .tup [.str ("in" : PySem.Str), lotD ls]
  | .parts lss => .tup [.str ("parts" : PySem.Str), .tup (lss.map lotD)]
  | .near p r => .tup [.str ("near" : PySem.Str), iD p, iD r]
def OkL (n : Nat) : Look → Prop
  | .inn ls => Lot n ls
  | .parts lss => (∀ ls, ls ∈ lss → Lot n ls ∧ ls ≠ []) ∧ lss.flatten.Perm (List.range n) ∧ lss.length ≤ 8
  | .near p r => p < n ∧ r ≤ 7
def ansV (M : List (List Nat)) : Look → Nat → Nat
  | .inn ls, p => if ls.contains p then 1 else 0
  | .parts lss, p => lss.findIdx fun ls => ls.contains p
  | .near q r, p => min (gt M p q) (r + 1)
theorem ne_pi : ¬ (("parts" : PySem.Str) = ("in" : PySem.Str)) := by decide +kernel
theorem ne_ni : ¬ (("near" : PySem.Str) = ("in" : PySem.Str)) := by decide +kernel
theorem ne_np : ¬ (("near" : PySem.Str) = ("parts" : PySem.Str)) := by decide +kernel
theorem ne_ip : ¬ (("in" : PySem.Str) = ("parts" : PySem.Str)) := by decide +kernel
theorem no_lots (lss : List (List Nat)) : noOwns (lss.map lotD) = true := noOwns_of fun x hx => by
  obtain ⟨ls, _, rfl⟩ := List.mem_map.mp hx
  exact no_lot ls
theorem no_look (l : Look) : noOwn (lookD l) = true := by
  cases l with
  | inn ls => simp [lookD, noOwn, noOwns, no_lot]
  | parts lss => simp [lookD, noOwn, noOwns, no_lots]
  | near p r => rfl
theorem word_of {s : Nat} {ρ : Rm.Env} {w v : PySem.Str} {xs : List D} (h : ρ[s]? = some (some (.tup (.str w :: xs)))) : dT (dOp oEq [.e (dPth (rIxP (rV s) (qC (.int 0)))), .e (dC (.str v))]) ρ = some (decide (w = v), ρ) := by
  have e : atI (D.str w :: xs) 0 = some (.str w) := by show atI _ ((0 : Nat) : Int) = _; rw [atI_nat']; rfl
  exact t_of (op_ee (d := .str w) (d2 := .str v) (dPth_of ((PthAt.v h).ix (xs := .str w :: xs) (k := 0) rfl rfl e) rfl) rfl rfl)
theorem thing_of {s : Nat} {ρ : Rm.Env} {w : PySem.Str} {d : D} {xs : List D} (h : ρ[s]? = some (some (.tup (.str w :: d :: xs)))) (hn : noOwn d = true) : dPth (rIxP (rV s) (qC (.int 1))) ρ = some (d, ρ) := dPth_of ((PthAt.v h).ix (xs := .str w :: d :: xs) (k := 1) rfl rfl (by show atI _ ((1 : Nat) : Int) = _; rw [atI_nat']; rfl)) hn
theorem thing2_of {s : Nat} {ρ : Rm.Env} {w : PySem.Str} {d d2 : D} {xs : List D} (h : ρ[s]? = some (some (.tup (.str w :: d :: d2 :: xs)))) (hn : noOwn d2 = true) : dPth (rIxP (rV s) (qC (.int 2))) ρ = some (d2, ρ) := dPth_of ((PthAt.v h).ix (xs := .str w :: d :: d2 :: xs) (k := 2) rfl rfl (by show atI _ ((2 : Nat) : Int) = _; rw [atI_nat']; rfl)) hn
theorem int_bl {m : Rm.M} {ρ ρ1 : Rm.Env} {b : Bool} (h : m ρ = some (.bl b, ρ1)) : dOp oInt [.e m] ρ = some (iD (if b then 1 else 0), ρ1) := by
  refine op1_of h ?_
  cases b <;> rfl
theorem idxV_bl : ∀ {bs : List Bool}, bs.any id = true → idxV (.bl true) (bs.map D.bl) = some (bs.findIdx id)
  | [], h => by cases h
  | true :: bs, h => rfl
  | false :: bs, h => by
    have := idxV_bl (bs := bs) (by simpa using h)
    show (match idxV (.bl true) (bs.map D.bl) with | some j => some (j + 1) | none => none) = _
    rw [this]
    simp [List.findIdx_cons]
theorem idx_of {α : Type} {xs : List α} {P : α → Bool} {m : Rm.M} {ρ ρ1 : Rm.Env} {o : Bool} (h : m ρ = some (.lst o (xs.map fun x => D.bl (P x)), ρ1)) (ha : xs.any P = true) : dIdx m (dC (.bl true)) ρ = some (iD (xs.findIdx P), ρ1) := by
  have e : (xs.map fun x => D.bl (P x)) = (xs.map P).map D.bl := by rw [List.map_map]; rfl
  have f : ((xs.map P).map D.bl).all isF = true := List.all_eq_true.mpr fun x hx => by
    obtain ⟨b, _, rfl⟩ := List.mem_map.mp hx
    rfl
  have g := idxV_bl (bs := xs.map P) (by rw [List.any_map]; exact ha)
  have c : dC (.bl true) ρ1 = some (.bl true, ρ1) := rfl
  unfold dIdx
  simp only [evOps, h, c, e, f, g, show isF (.bl true) = true from rfl, and_self, if_true]
  rw [List.findIdx_map]
  rfl
theorem parts_any {n p : Nat} {lss : List (List Nat)} (h : OkL n (.parts lss)) (hp : p < n) : (lss.any fun ls => ls.contains p) = true := by
  have : p ∈ lss.flatten := h.2.1.mem_iff.mpr (List.mem_range.mpr hp)
  obtain ⟨ls, h1, h2⟩ := List.mem_flatten.mp this
  exact List.any_eq_true.mpr ⟨ls, h1, List.contains_iff_mem.mpr h2⟩
theorem seq_lots {m : Rm.M} {ρ ρ1 : Rm.Env} {lss : List (List Nat)} (h : m ρ = some (.tup (lss.map lotD), ρ1)) : mSeq m ρ = some (lss.map lotD, ρ1) := by
  unfold mSeq
  rw [h]
  simp only [shr_of (no_lots lss)]
theorem ite_t (b : Bool) : (if b = true then (1 : Nat) else 0) = if b then 1 else 0 := rfl
section
variable {n : Nat} {M : List (List Nat)} {Vs : List (List (Option Nat))} {rs : List (Nat × Nat)}
theorem lans_ok (B : Bd n M Vs) {l : Look} {p : Nat} (hl : OkL n l) (hp : p < n) : F__law_answer [mD false M, lookD l, iD p] = some (iD (ansV M l p), []) := by
  show dEnd 0 (M__law_answer [some (mD false M), some (lookD l), some (iD p), none]) = _
  unfold M__law_answer
  cases l with
  | inn ls =>
    have s0 : S__law_answer_0 [some (mD false M), some (lookD (.inn ls)), some (iD p), none] = some (.rt (iD (ansV M (.inn ls) p)) [some (mD false M), some (lookD (.inn ls)), some (iD p), none]) := by
      unfold S__law_answer_0
      rw [if_t (show dT (dOp oEq [.e (dPth (rIxP (rV 1) (qC (.int 0)))), .e (dC (.str ("in" : PySem.Str)))]) _ = some (true, _) from (word_of (s := 1) rfl).trans (by rw [decide_eq_true rfl]))]
      exact seq_rt (ret_of (int_bl (in_ve (i := 2) rfl (thing_of rfl (no_lot ls)))))
    rw [seq_rt s0]
    rfl
  | parts lss =>
    have s0 : S__law_answer_0 [some (mD false M), some (lookD (.parts lss)), some (iD p), none] = some (.nx [some (mD false M), some (lookD (.parts lss)), some (iD p), none]) := by
      unfold S__law_answer_0
      rw [if_f ((word_of (s := 1) rfl).trans (by rw [decide_eq_false ne_pi]))]
      rfl
    have c := comp_enc_all (xs := lss) (enc := lotD) (fun ls => D.bl (ls.contains p)) (i := mSeq (dPth (rIxP (rV 1) (qC (.int 1))))) (vs := [3]) (a := gN 3) (e := dOp (oIn false) [.v 2, .v 3]) (ρ := [some (mD false M), some (lookD (.parts lss)), some (iD p), none]) (ρ0 := [some (mD false M), some (lookD (.parts lss)), some (iD p), none])
      (seq_lots (thing_of rfl (by unfold noOwn; exact no_lots lss))) (by simp [savOk]) (by have := hl.2.2; omega) fun ls hls => ⟨[some (mD false M), some (lookD (.parts lss)), some (iD p), some (lotD ls)], by simp [gN, wipeE], in_vv rfl rfl, by simp [wipeE]⟩
    have s1 : S__law_answer_1 [some (mD false M), some (lookD (.parts lss)), some (iD p), none] = some (.rt (iD (ansV M (.parts lss) p)) [some (mD false M), some (lookD (.parts lss)), some (iD p), none]) := by
      unfold S__law_answer_1
      rw [if_t (show dT (dOp oEq [.e (dPth (rIxP (rV 1) (qC (.int 0)))), .e (dC (.str ("parts" : PySem.Str)))]) _ = some (true, _) from (word_of (s := 1) rfl).trans (by rw [decide_eq_true rfl]))]
      exact seq_rt (ret_of ((fz_of (idx_of c (parts_any hl hp))).trans rfl))
    rw [seq_nx s0, seq_rt s1]
    rfl
  | near q r =>
    have s0 : S__law_answer_0 [some (mD false M), some (lookD (.near q r)), some (iD p), none] = some (.nx [some (mD false M), some (lookD (.near q r)), some (iD p), none]) := by
      unfold S__law_answer_0
      rw [if_f ((word_of (s := 1) rfl).trans (by rw [decide_eq_false ne_ni]))]
      rfl
    have s1 : S__law_answer_1 [some (mD false M), some (lookD (.near q r)), some (iD p), none] = some (.nx [some (mD false M), some (lookD (.near q r)), some (iD p), none]) := by
      unfold S__law_answer_1
      rw [if_f ((word_of (s := 1) rfl).trans (by rw [decide_eq_false ne_np]))]
      rfl
    have q1 : qP (rIxP (rV 1) (qC (.int 1))) [some (mD false M), some (lookD (.near q r)), some (iD p), none] = some (.int (q : Int)) := qP_of ((PthAt.v (s := 1) rfl).ix (xs := [.str ("near" : PySem.Str), iD q, iD r]) (k := 1) rfl rfl (by show atI _ ((1 : Nat) : Int) = _; rw [atI_nat']; rfl)) rfl
    obtain ⟨row, e1, e2, e3⟩ := at_row (o := false) B.sq hp
    have c1 : dPth (rIxP (rIxP (rV 0) (qV 2)) (qP (rIxP (rV 1) (qC (.int 1))))) [some (mD false M), some (lookD (.near q r)), some (iD p), none] = some (iD (gt M p q), [some (mD false M), some (lookD (.near q r)), some (iD p), none]) :=
      dPth_of (((PthAt.v (s := 0) rfl).ix (xs := M.map (rowD false)) (qV_i rfl) rfl e1).ix (xs := row.map iD) q1 rfl (e3 q hl.1)) rfl
    have c2 : dOp oAdd [.e (dPth (rIxP (rV 1) (qC (.int 2)))), .e (dC (.int 1))] [some (mD false M), some (lookD (.near q r)), some (iD p), none] = some (iD (r + 1), [some (mD false M), some (lookD (.near q r)), some (iD p), none]) := op_ee (thing2_of (d2 := iD r) rfl rfl) rfl (by simp [a_oAdd, orF, oII, hAdd, iD])
    have c3 : dOp oMin2 [.e (dPth (rIxP (rIxP (rV 0) (qV 2)) (qP (rIxP (rV 1) (qC (.int 1)))))), .e (dOp oAdd [.e (dPth (rIxP (rV 1) (qC (.int 2)))), .e (dC (.int 1))])] [some (mD false M), some (lookD (.near q r)), some (iD p), none] = some (iD (ansV M (.near q r) p), [some (mD false M), some (lookD (.near q r)), some (iD p), none]) := by
      refine op_ee c1 c2 ?_
      rw [a_oMin2]
      show some (D.int (if ((r + 1 : Nat) : Int) < ((gt M p q : Nat) : Int) then ((r + 1 : Nat) : Int) else ((gt M p q : Nat) : Int))) = some (D.int ((min (gt M p q) (r + 1) : Nat) : Int))
      congr 2
      split <;> omega
    rw [seq_nx s0, seq_nx s1, seq_rt (b := dNx) (show S__law_answer_2 _ = _ from ret_of c3)]
    rfl
theorem ans_ok (B : Bd n M Vs) {l : Look} {p : Nat} (hl : OkL n l) (hp : p < n) : F_answer_at [brD false n rs Vs, lookD l, iD p] = some (iD (ansV M l p), []) := by
  show dEnd 0 (M_answer_at [some (brD false n rs Vs), some (lookD l), some (iD p), none, none]) = _
  unfold M_answer_at
  cases l with
  | inn ls =>
    have s0 : S_answer_at_0 [some (brD false n rs Vs), some (lookD (.inn ls)), some (iD p), none, none] = some (.rt (iD (ansV M (.inn ls) p)) [some (brD false n rs Vs), some (lookD (.inn ls)), some (iD p), none, none]) := by
      unfold S_answer_at_0
      rw [if_t (show dT (dOp oEq [.e (dPth (rIxP (rV 1) (qC (.int 0)))), .e (dC (.str ("in" : PySem.Str)))]) _ = some (true, _) from (word_of (s := 1) rfl).trans (by rw [decide_eq_true rfl]))]
      exact seq_rt (ret_of (int_bl (in_ve (i := 2) rfl (thing_of rfl (no_lot ls)))))
    rw [seq_rt s0]
    rfl
  | parts lss =>
    have s0 : S_answer_at_0 [some (brD false n rs Vs), some (lookD (.parts lss)), some (iD p), none, none] = some (.nx [some (brD false n rs Vs), some (lookD (.parts lss)), some (iD p), none, none]) := by
      unfold S_answer_at_0
      rw [if_f ((word_of (s := 1) rfl).trans (by rw [decide_eq_false ne_pi]))]
      rfl
    have c := comp_enc_all (xs := lss) (enc := lotD) (fun ls => D.bl (ls.contains p)) (i := mSeq (dPth (rIxP (rV 1) (qC (.int 1))))) (vs := [4]) (a := gN 4) (e := dOp (oIn false) [.v 2, .v 4]) (ρ := [some (brD false n rs Vs), some (lookD (.parts lss)), some (iD p), none, none]) (ρ0 := [some (brD false n rs Vs), some (lookD (.parts lss)), some (iD p), none, none])
      (seq_lots (thing_of rfl (by unfold noOwn; exact no_lots lss))) (by simp [savOk]) (by have := hl.2.2; omega) fun ls hls => ⟨[some (brD false n rs Vs), some (lookD (.parts lss)), some (iD p), none, some (lotD ls)], by simp [gN, wipeE], in_vv rfl rfl, by simp [wipeE]⟩
    have s1 : S_answer_at_1 [some (brD false n rs Vs), some (lookD (.parts lss)), some (iD p), none, none] = some (.rt (iD (ansV M (.parts lss) p)) [some (brD false n rs Vs), some (lookD (.parts lss)), some (iD p), none, none]) := by
      unfold S_answer_at_1
      rw [if_t (show dT (dOp oEq [.e (dPth (rIxP (rV 1) (qC (.int 0)))), .e (dC (.str ("parts" : PySem.Str)))]) _ = some (true, _) from (word_of (s := 1) rfl).trans (by rw [decide_eq_true rfl]))]
      exact seq_rt (ret_of ((fz_of (idx_of c (parts_any hl hp))).trans rfl))
    rw [seq_nx s0, seq_rt s1]
    rfl
  | near q r =>
    have s0 : S_answer_at_0 [some (brD false n rs Vs), some (lookD (.near q r)), some (iD p), none, none] = some (.nx [some (brD false n rs Vs), some (lookD (.near q r)), some (iD p), none, none]) := by
      unfold S_answer_at_0
      rw [if_f ((word_of (s := 1) rfl).trans (by rw [decide_eq_false ne_ni]))]
      rfl
    have s1 : S_answer_at_1 [some (brD false n rs Vs), some (lookD (.near q r)), some (iD p), none, none] = some (.nx [some (brD false n rs Vs), some (lookD (.near q r)), some (iD p), none, none]) := by
      unfold S_answer_at_1
      rw [if_f ((word_of (s := 1) rfl).trans (by rw [decide_eq_false ne_np]))]
      rfl
    have s2 : S_answer_at_2 [some (brD false n rs Vs), some (lookD (.near q r)), some (iD p), none, none] = some (.nx [some (brD false n rs Vs), some (lookD (.near q r)), some (iD p), some (oD (vl (Vs.getD p []) q)), none]) := by
      unfold S_answer_at_2
      exact asg_of (meth_2 (i := 0) rfl rfl (v_of (i := 2) rfl rfl) (thing_of (d := iD q) rfl rfl) (far_ok B hp hl.1)) rfl
    have c2 : ∀ {v : Option D}, dOp oAdd [.e (dPth (rIxP (rV 1) (qC (.int 2)))), .e (dC (.int 1))] [some (brD false n rs Vs), some (lookD (.near q r)), some (iD p), v, none] = some (iD (r + 1), [some (brD false n rs Vs), some (lookD (.near q r)), some (iD p), v, none]) := fun {v} => op_ee (thing2_of (d2 := iD r) rfl rfl) rfl (by simp [a_oAdd, orF, oII, hAdd, iD])
    have s3 : S_answer_at_3 [some (brD false n rs Vs), some (lookD (.near q r)), some (iD p), some (oD (vl (Vs.getD p []) q)), none] = some (.rt (iD (ansV M (.near q r) p)) [some (brD false n rs Vs), some (lookD (.near q r)), some (iD p), some (oD (vl (Vs.getD p []) q)), none]) := by
      have h99 := B.m99 p q hp hl.1
      have hr := hl.2
      unfold S_answer_at_3
      rw [B.eq p q hp hl.1]
      refine ret_of ((fz_of (d := iD (ansV M (.near q r) p)) ?_).trans rfl)
      by_cases hlt : gt M p q < 99
      · rw [if_pos hlt]
        have t1 : dAndT (dT (dOp (oIsN true) [.v 3, .e (dC (.non))])) (dT (dOp oLe [.v 3, .e (dPth (rIxP (rV 1) (qC (.int 2))))])) [some (brD false n rs Vs), some (lookD (.near q r)), some (iD p), some (oD (some (gt M p q))), none] = some (decide (gt M p q ≤ r), [some (brD false n rs Vs), some (lookD (.near q r)), some (iD p), some (oD (some (gt M p q))), none]) := by
          unfold dAndT
          rw [show dT (dOp (oIsN true) [.v 3, .e (dC (.non))]) [some (brD false n rs Vs), some (lookD (.near q r)), some (iD p), some (oD (some (gt M p q))), none] = some (true, [some (brD false n rs Vs), some (lookD (.near q r)), some (iD p), some (oD (some (gt M p q))), none]) from rfl]
          refine t_of (op_ve (i := 3) rfl (thing2_of (d2 := iD r) rfl rfl) rfl ?_)
          simp [a_oLe, oII, hLe, iD, oD]
        unfold dIf
        rw [t1]
        by_cases hc : gt M p q ≤ r
        · rw [decide_eq_true hc]
          show dV 3 _ = _
          rw [v_of (i := 3) (d := iD (gt M p q)) rfl rfl]
          show _ = some (iD (min (gt M p q) (r + 1)), _)
          rw [Nat.min_eq_left (by omega)]
        · rw [decide_eq_false hc]
          show dOp oAdd _ _ = _
          rw [c2]
          show _ = some (iD (min (gt M p q) (r + 1)), _)
          rw [Nat.min_eq_right (by omega)]
      · rw [if_neg hlt]
        have t1 : dAndT (dT (dOp (oIsN true) [.v 3, .e (dC (.non))])) (dT (dOp oLe [.v 3, .e (dPth (rIxP (rV 1) (qC (.int 2))))])) [some (brD false n rs Vs), some (lookD (.near q r)), some (iD p), some (oD none), none] = some (false, [some (brD false n rs Vs), some (lookD (.near q r)), some (iD p), some (oD none), none]) := rfl
        unfold dIf
        rw [t1]
        show dOp oAdd _ _ = _
        rw [c2]
        show _ = some (iD (min (gt M p q) (r + 1)), _)
        rw [Nat.min_eq_right (by omega)]
    rw [seq_nx s0, seq_nx s1, seq_nx s2, seq_rt (b := dNx) s3]
    rfl
def answV (n : Nat) (M : List (List Nat)) (l : Look) (a : Int) : List Nat := (List.range n).filter fun p => decide ((ansV M l p : Int) = a)
theorem answering_ok (B : Bd n M Vs) {l : Look} {a : Int} (hl : OkL n l) : F_answering [brD false n rs Vs, lookD l, .int a] = some (lotD (answV n M l a), []) := by
  have c := comp_enc (xs := List.range n) (enc := iD) (fun p => decide ((ansV M l p : Int) = a)) iD (i := mRange1 (.e (dLenO F_Board___len__ 0 2 (.v 0)))) (vs := [3]) (a := gN 3) (c := dT (dOp oEq [.e (dCall F_answer_at [.e (dV 0), .e (dV 1), .e (dV 3)] []), .v 2])) (e := dV 3)
    (ρ := [some (brD false n rs Vs), some (lookD l), some (.int a), none]) (ρ0 := [some (brD false n rs Vs), some (lookD l), some (.int a), none])
    (rng_of (lenv B rfl) (by have := B.n8; omega)) (by simp [savOk]) (by rw [List.length_range]; have := B.n8; omega) fun p hp => by
      have hp : p < n := List.mem_range.mp hp
      refine ⟨[some (brD false n rs Vs), some (lookD l), some (.int a), some (iD p)], by simp [gN, wipeE], t_of (op_ev (call_3 (v_of rfl no_br) (v_of rfl (no_look l)) (v_of rfl rfl) (ans_ok B hl hp)) rfl ?_), fun _ => v_of rfl rfl, by simp [wipeE]⟩
      rfl
  show dEnd 0 (M_answering [some (brD false n rs Vs), some (lookD l), some (.int a), none]) = _
  unfold M_answering
  rw [seq_rt (ret_of (ftup_of c))]
  rfl
end
end K11
set_option Elab.async false
set_option linter.all false
set_option maxRecDepth 100000
set_option maxHeartbeats 4000000
namespace K11
open PySem L2 Rm
theorem pick_nat {b : D} {m : Nat} (hb : Bx b) (h1 : 1 ≤ m) (h2 : m ≤ 1000) : ∃ (v : Nat) (b' : D), F__law_pick [b, .int (m : Nat)] = some (iD v, [b']) ∧ v < m ∧ Bx b' := by
  obtain ⟨v, b', e, hb', g0, g1⟩ := pick_ok (m := m) hb (by omega) (by omega)
  obtain ⟨k, rfl⟩ := Int.eq_ofNat_of_zero_le g0
  exact ⟨k, b', e, by omega, hb'⟩
theorem perm_of_map {α β : Type} {f : α → β} {ys zs : List β} (h : ys.Perm zs) : ∀ {xs : List α}, zs = xs.map f → ∃ ws : List α, ys = ws.map f ∧ ws.Perm xs := by
  induction h with
  | nil => intro xs e; exact ⟨[], rfl, by rw [List.map_eq_nil_iff.mp e.symm]⟩
  | cons x _ ih =>
    intro xs e
    cases xs with
    | nil => cases e
    | cons a xs =>
      rw [List.map_cons] at e
      injection e with e1 e2
      obtain ⟨ws, h1, h2⟩ := ih e2
      exact ⟨a :: ws, by rw [List.map_cons, ← e1, h1], h2.cons a⟩
  | swap x y l =>
    intro xs e
    match xs, e with
    | a :: c :: xs, e =>
      injection e with e1 e2
      injection e2 with e2 e3
      exact ⟨c :: a :: xs, by rw [List.map_cons, List.map_cons, ← e1, ← e2, e3], .swap a c xs⟩
  | trans _ _ ih1 ih2 =>
    intro xs e
    obtain ⟨ws, h1, h2⟩ := ih2 e
    obtain ⟨us, h3, h4⟩ := ih1 h1
    exact ⟨us, h3, h4.trans h2⟩
theorem perm_flat {α : Type} {as bs : List (List α)} (h : as.Perm bs) : as.flatten.Perm bs.flatten := by
  induction h with
  | nil => exact .refl _
  | cons x _ ih => rw [List.flatten_cons, List.flatten_cons]; exact ih.append_left x
  | swap x y l =>
    simp only [List.flatten_cons]
    rw [← List.append_assoc, ← List.append_assoc]
    exact List.perm_append_comm.append_right _
  | trans _ _ h1 h2 => exact h1.trans h2
theorem flat_len {α : Type} : ∀ {as : List (List α)}, (∀ a, a ∈ as → a ≠ []) → as.length ≤ as.flatten.length
  | [], _ => Nat.le_refl _
  | a :: as, h => by
    have := flat_len (as := as) fun b hb => h b (List.mem_cons_of_mem _ hb)
    have h1 : 0 < a.length := List.length_pos_iff.mpr (h a List.mem_cons_self)
    rw [List.flatten_cons, List.length_append, List.length_cons]
    omega
def grp (n : Nat) (sg : List Nat) (s : Int) : List Nat := (List.range n).filter fun p => decide ((sg.getD p 0 : Int) = s)
theorem grp_ok {n : Nat} {sg : List Nat} (hl : sg.length = n) : (∀ ls, ls ∈ (sortU (sg.map Int.ofNat)).map (grp n sg) → Lot n ls ∧ ls ≠ []) ∧ ((sortU (sg.map Int.ofNat)).map (grp n sg)).flatten.Perm (List.range n) := by
  refine ⟨fun ls h => ?_, ?_⟩
  · obtain ⟨s, hs, rfl⟩ := List.mem_map.mp h
    refine ⟨List.filter_sublist, fun e => ?_⟩
    obtain ⟨v, hv, rfl⟩ := List.mem_map.mp (sortU_mem.mp hs)
    obtain ⟨p, hp, e2⟩ := List.mem_iff_getElem.mp hv
    have : p ∈ grp n sg (Int.ofNat v) := by
      refine List.mem_filter.mpr ⟨List.mem_range.mpr (by omega), ?_⟩
      rw [List.getD_eq_getElem?_getD, List.getElem?_eq_getElem hp, e2]
      exact decide_eq_true rfl
    rw [e] at this
    cases this
  · refine (List.perm_ext_iff_of_nodup ?_ List.nodup_range).mpr fun p => ?_
    · refine List.pairwise_flatten.mpr ⟨fun l hl => ?_, ?_⟩
      · obtain ⟨s, _, rfl⟩ := List.mem_map.mp hl
        exact List.nodup_range.filter _
      · rw [List.pairwise_map]
        refine (sortU_asc (ns := sg.map Int.ofNat)).imp fun {a b} hab x hx y hy e => ?_
        subst e
        have h1 := of_decide_eq_true (List.mem_filter.mp hx).2
        have h2 := of_decide_eq_true (List.mem_filter.mp hy).2
        omega
    · constructor
      · intro h
        obtain ⟨l, h1, h2⟩ := List.mem_flatten.mp h
        obtain ⟨s, _, rfl⟩ := List.mem_map.mp h1
        exact (List.mem_filter.mp h2).1
      · intro h
        have hp : p < sg.length := by rw [hl]; exact List.mem_range.mp h
        refine List.mem_flatten.mpr ⟨grp n sg (Int.ofNat (sg.getD p 0)), List.mem_map.mpr ⟨_, sortU_mem.mpr (List.mem_map.mpr ⟨sg.getD p 0, ?_, rfl⟩), rfl⟩, List.mem_filter.mpr ⟨h, decide_eq_true rfl⟩⟩
        rw [List.getD_eq_getElem?_getD, List.getElem?_eq_getElem hp]
        exact List.getElem_mem hp
theorem tupn_of {xs : List D} {m : Rm.M} {ρ ρ1 : Rm.Env} {o : Bool} (h : m ρ = some (.lst o xs, ρ1)) (hn : noOwns xs = true) : dOp oTup [.e m] ρ = some (.tup xs, ρ1) := by
  refine op1_of h ?_
  unfold oTup
  simp only [rowOf, hn, if_true]
theorem intsOf_iD (sg : List Nat) : intsOf (sg.map iD) = some (sg.map Int.ofNat) := by
  induction sg with
  | nil => rfl
  | cons a sg ih =>
    show (match intsOf (sg.map iD) with | some bs => some ((a : Int) :: bs) | none => none) = _
    rw [ih]; rfl
def lE (b : D) (n : Nat) (k : Int) (a c d e f : Option D) : Rm.Env := [some b, some (.int n), some (.int k), a, c, d, e, f]
theorem from_lits {b : D} {ms : List Nat} {ds : List Rm.M} {ρ : Rm.Env} (hb : Bx b) (h0 : ρ[0]? = some (some b)) (h1 : ms ≠ []) (h2 : ms.length ≤ 1000) (hd : dLst ds ρ = some (.lst true (ms.map iD), ρ)) : ∃ p b', dCall F__law_from [.v 0, .e (dLst ds)] [] ρ = some (iD p, (ρ.set 0 none).set 0 (some b')) ∧ p ∈ ms ∧ Bx b' := by
  obtain ⟨p, b', e, hp, hb'⟩ := from_nat (o := true) hb h1 h2
  exact ⟨p, b', call_ve h0 hd h0 e, hp, hb'⟩
theorem look_parts {b : D} {n : Nat} {k : Int} (hb : Bx b) (hn : 1 ≤ n ∧ n ≤ 8) (hk : k = 1) : ∃ lss b' ρ, S__law_look_2 (lE b n k none none none none none) = some (.rt (lookD (.parts lss)) (some b' :: ρ)) ∧ OkL n (.parts lss) ∧ Bx b' := by
  obtain ⟨p, b1, e1, hp, hb1⟩ := from_lits (ms := [1, 2, 3, 4, 8]) (ds := [dC (.int 1), dC (.int 2), dC (.int 3), dC (.int 4), dC (.int 8)]) (ρ := lE b n k none none none none none) hb rfl (by simp) (by simp) rfl
  have hp : 1 ≤ p ∧ p ≤ 8 := by simp at hp; omega
  have s1 : dAsg (dCall F__law_from [.v 0, .e (dLst [dC (.int 1), dC (.int 2), dC (.int 3), dC (.int 4), dC (.int 8)])] []) (gN 3) (lE b n k none none none none none) = some (.nx (lE b1 n k (some (iD p)) none none none none)) := asg_of e1 rfl
  obtain ⟨acc, ρ2, q1, b2, sg, rfl, rfl, hlen, hb2⟩ := comp_mem (i := mRange1 (.v 1)) (a := gN 6) (c := dYes) (e := dCall F__law_pick [.v 0, .e (dV 3)] []) (vs := [6]) (ρ := lE b1 n k (some (iD p)) none none none none) (ρ0 := lE b1 n k (some (iD p)) none none none none) (xs := rangeD 0 n)
    (fun pre acc ρ => ∃ (b' : D) (sg : List Nat), ρ = lE b' n k (some (iD p)) none none none none ∧ acc = sg.map iD ∧ sg.length = pre.length ∧ Bx b')
    (mRange1_nat (by simp [evOps, lE]) (by omega)) (by simp [savOk, lE]) (by rw [rangeD_len]; omega) ⟨b1, [], rfl, rfl, rfl, hb1⟩ fun p1 x p2 acc ρ hx ⟨b', sg, hρ, ha, hl, hb'⟩ => by
      subst hρ ha
      obtain ⟨v, b4, e4, hv, hb4⟩ := pick_nat hb' hp.1 (by omega)
      refine ⟨lE b' n k (some (iD p)) none none (some x) none, true, lE b' n k (some (iD p)) none none (some x) none, by simp [gN, lE], rfl, fun h => (by cases h), fun _ => ⟨iD v, lE b4 n k (some (iD p)) none none (some x) none, call_ve (i := 0) rfl (v_of (i := 3) rfl rfl) rfl e4, b4, sg ++ [v], by simp [wipeE, lE], by simp, by simp [hl], hb4⟩⟩
  rw [rangeD_len] at hlen
  have s2 : dAsg (dComp (mRange1 (.v 1)) [6] (gN 6) (dYes) (dCall F__law_pick [.v 0, .e (dV 3)] [])) (gN 4) (lE b1 n k (some (iD p)) none none none none) = some (.nx (lE b2 n k (some (iD p)) (some (.lst true (sg.map iD))) none none none)) := asg_of q1 rfl
  have c3 := comp_enc_all (xs := sortU (sg.map Int.ofNat)) (enc := D.int) (fun s => lotD (grp n sg s)) (i := mSeq (dOp oSortU [.v 4])) (vs := [7]) (a := gN 7) (e := dOp oTup [.e (dComp (mRange1 (.v 1)) [6] (gN 6) (dT (dOp oEq [.e (dPth (rIxP (rV 4) (qV 6))), .v 7])) (dV 6))])
    (ρ := lE b2 n k (some (iD p)) (some (.lst true (sg.map iD))) none none none) (ρ0 := lE b2 n k (some (iD p)) (some (.lst true (sg.map iD))) none none none)
    (by
      have : dOp oSortU [.v 4] (lE b2 n k (some (iD p)) (some (.lst true (sg.map iD))) none none none) = some (.lst true ((sortU (sg.map Int.ofNat)).map .int), lE b2 n k (some (iD p)) (some (.lst true (sg.map iD))) none none none) := by
        refine opv_of (d := .lst true (sg.map iD)) rfl ?_
        unfold oSortU
        simp only [intsOf_iD]
        rw [if_pos (by rw [List.length_map]; omega)]
      unfold mSeq
      rw [this]
      simp only [shr_of (no_ints _)]) (by simp [savOk, lE]) (by
      have := (grp_ok hlen)
      have h2 := flat_len fun a ha => (this.1 a ha).2
      rw [this.2.length_eq, List.length_range, List.length_map] at h2
      omega) fun s hs => by
      refine ⟨lE b2 n k (some (iD p)) (some (.lst true (sg.map iD))) none none (some (.int s)), by simp [gN, wipeE, lE], tup_of (o := true) ?_, by simp [wipeE, lE]⟩
      refine comp_enc (xs := List.range n) (enc := iD) (ρ0 := lE b2 n k (some (iD p)) (some (.lst true (sg.map iD))) none none (some (.int s))) (fun p => decide ((sg.getD p 0 : Int) = s)) iD (by rw [← rangeD_eq]; exact mRange1_nat (by simp [evOps, lE]) (by omega)) (by simp [savOk, lE]) (by rw [List.length_range]; omega) fun q hq => ?_
      have hq : q < sg.length := by rw [hlen]; exact List.mem_range.mp hq
      refine ⟨lE b2 n k (some (iD p)) (some (.lst true (sg.map iD))) none (some (iD q)) (some (.int s)), by simp [gN, wipeE, lE], t_of (op_ev (i := 7) (d := .int s) (d2 := iD (pg sg q)) (dPth_of ((PthAt.v (s := 4) rfl).ix (xs := sg.map iD) (qV_i (s := 6) rfl) rfl (at_pg hq)) rfl) rfl rfl), fun _ => v_of (i := 6) rfl rfl, by simp [wipeE, lE]⟩
  have s3 : dAsg (dComp (mSeq (dOp oSortU [.v 4])) [7] (gN 7) (dYes) (dOp oTup [.e (dComp (mRange1 (.v 1)) [6] (gN 6) (dT (dOp oEq [.e (dPth (rIxP (rV 4) (qV 6))), .v 7])) (dV 6))])) (gN 5) (lE b2 n k (some (iD p)) (some (.lst true (sg.map iD))) none none none) = some (.nx (lE b2 n k (some (iD p)) (some (.lst true (sg.map iD))) (some (.lst true (((sortU (sg.map Int.ofNat)).map (grp n sg)).map lotD))) none none)) := by
    rw [List.map_map]
    exact asg_of c3 rfl
  obtain ⟨g1, g2⟩ := grp_ok hlen
  have g3 : ((sortU (sg.map Int.ofNat)).map (grp n sg)).length ≤ 8 := by
    have h2 := flat_len fun a ha => (g1 a ha).2
    rw [g2.length_eq, List.length_range] at h2
    omega
  obtain ⟨ys, b3, e3, hperm, hb3⟩ := mixed_ok (o := false) (xs := ((sortU (sg.map Int.ofNat)).map (grp n sg)).map lotD) hb2 (by rw [List.length_map]; omega) (no_lots _)
  obtain ⟨lss, rfl, hq⟩ := perm_of_map hperm rfl
  have c4 : dFz (dTup [dC (.str ("parts" : PySem.Str)), dOp oTup [.e (dCall F__law_mixed [.v 0, .e (dV 5)] [])]]) (lE b2 n k (some (iD p)) (some (.lst true (sg.map iD))) (some (.lst true (((sortU (sg.map Int.ofNat)).map (grp n sg)).map lotD))) none none) = some (lookD (.parts lss), lE b3 n k (some (iD p)) (some (.lst true (sg.map iD))) (some (.lst false (((sortU (sg.map Int.ofNat)).map (grp n sg)).map lotD))) none none) := by
    rw [← frz_of _ (no_look (.parts lss))]
    refine fz_of (tup2_of rfl (tupn_of (o := false) ?_ (no_lots lss)))
    exact (call_ve (i := 0) (m := dV 5) rfl (vf_of (i := 5) (d2 := .lst false (((sortU (sg.map Int.ofNat)).map (grp n sg)).map lotD)) rfl (by simp [noOwn]) (by unfold frz; rw [frzs_of (no_lots _)])) rfl e3).trans rfl
  refine ⟨lss, b3, [some (.int n), some (.int k), some (iD p), some (.lst true (sg.map iD)), some (.lst false (((sortU (sg.map Int.ofNat)).map (grp n sg)).map lotD)), none, none], ?_, ⟨fun ls h => g1 ls (hq.mem_iff.mp h), (perm_flat hq).trans g2, by rw [hq.length_eq]; exact g3⟩, hb3⟩
  unfold S__law_look_2
  rw [if_t (t_of (b := true) (ρ1 := lE b n k none none none none none) (by subst hk; rfl))]
  rw [seq_nx s1, seq_nx s2, seq_nx s3]
  exact seq_rt (ret_of c4)
theorem look_ok {b : D} {n : Nat} (hb : Bx b) (hn : 1 ≤ n ∧ n ≤ 8) : ∃ l b', F__law_look [b, .int n] = some (lookD l, [b']) ∧ OkL n l ∧ Bx b' := by
  obtain ⟨k, b1, e1, hk, hb1⟩ := pick_nat (m := 3) hb (by omega) (by omega)
  have s0 : S__law_look_0 [some b, some (.int n), none, none, none, none, none, none] = some (.nx (lE b1 n k none none none none none)) := asg_of (call_ve (i := 0) (m := dC (.int 3)) rfl rfl rfl e1) rfl
  have ts : ∀ {v : Int}, dT (dOp oEq [.v 2, .e (dC (.int v))]) (lE b1 n k none none none none none) = some (decide ((k : Int) = v), lE b1 n k none none none none none) := rfl
  have go : ∀ {l : Look} {b' : D} {ρ : Rm.Env}, OkL n l → Bx b' → dSeq S__law_look_1 (dSeq S__law_look_2 (dSeq S__law_look_3 dNx)) (lE b1 n k none none none none none) = some (.rt (lookD l) (some b' :: ρ)) → ∃ l b', F__law_look [b, .int n] = some (lookD l, [b']) ∧ OkL n l ∧ Bx b' := fun {l b' ρ} h1 h2 h3 => by
    refine ⟨l, b', ?_, h1, h2⟩
    show dEnd 1 (M__law_look [some b, some (.int n), none, none, none, none, none, none]) = _
    unfold M__law_look
    rw [seq_nx s0, h3]
    rfl
  by_cases h0 : k = 0
  · obtain ⟨ls, b2, e2, hl, hb2⟩ := lot_ok hb1 hn
    refine go (l := .inn ls) (ρ := [some (.int n), some (.int k), none, none, none, none, none]) hl hb2 (seq_rt ?_)
    unfold S__law_look_1
    rw [if_t (ts.trans (by rw [decide_eq_true (by omega)]))]
    refine seq_rt (ret_of ?_)
    rw [← frz_of _ (no_look (.inn ls))]
    exact fz_of (tup2_of rfl ((call_ve (i := 0) (m := dV 1) rfl (v_of (i := 1) rfl rfl) rfl e2).trans rfl))
  · have s1 : S__law_look_1 (lE b1 n k none none none none none) = some (.nx (lE b1 n k none none none none none)) := by
      unfold S__law_look_1
      rw [if_f (ts.trans (by rw [decide_eq_false (by omega)]))]
      rfl
    by_cases h1 : k = 1
    · obtain ⟨lss, b2, ρ, e, h2, h3⟩ := look_parts (k := k) hb1 hn (by omega)
      exact go h2 h3 (by rw [seq_nx s1]; exact seq_rt e)
    · have s2 : S__law_look_2 (lE b1 n k none none none none none) = some (.nx (lE b1 n k none none none none none)) := by
        unfold S__law_look_2
        rw [if_f (ts.trans (by rw [decide_eq_false (by omega)]))]
        rfl
      obtain ⟨p, b2, e2, hp, hb2⟩ := pick_nat (m := n) hb1 (by omega) (by omega)
      obtain ⟨r, b3, e3, hr, hb3⟩ := from_lits (ms := [0, 1, 2, 7, 3, 4, 5, 6]) (ds := [dC (.int 0), dC (.int 1), dC (.int 2), dC (.int 7), dC (.int 3), dC (.int 4), dC (.int 5), dC (.int 6)]) (ρ := lE b2 n k none none none none none) hb2 rfl (by simp) (by simp) rfl
      have hr : r ≤ 7 := by simp at hr; omega
      refine go (l := .near p r) (b' := b3) (ρ := [some (.int n), some (.int k), none, none, none, none, none]) ⟨hp, hr⟩ hb3 ?_
      rw [seq_nx s1, seq_nx s2]
      refine seq_rt (ret_of ?_)
      rw [← frz_of _ (no_look (.near p r))]
      exact fz_of (tup3_of (ρ2 := lE b2 n k none none none none none) rfl ((call_ve (i := 0) (m := dV 1) rfl (v_of (i := 1) rfl rfl) rfl e2).trans rfl) e3)
end K11
set_option Elab.async false
set_option linter.all false
set_option maxRecDepth 100000
set_option maxHeartbeats 4000000
namespace K11
open PySem L2 Rm
theorem at_0 {α : Type} (x : α) (xs : List α) : atI (x :: xs) 0 = some x := by show atI _ ((0 : Nat) : Int) = _; rw [atI_nat']; rfl
theorem at_1 {α : Type} (x y : α) (xs : List α) : atI (x :: y :: xs) 1 = some y := by show atI _ ((1 : Nat) : Int) = _; rw [atI_nat']; rfl
theorem at_2 {α : Type} (x y z : α) (xs : List α) : atI (x :: y :: z :: xs) 2 = some z := by show atI _ ((2 : Nat) : Int) = _; rw [atI_nat']; rfl
theorem at_m1 {α : Type} (w : List α) (z : α) : atI (w ++ [z]) (-1) = some z := by
  have : ixN (w ++ [z]).length (-1) = some w.length := by
    unfold ixN
    rw [if_neg (by omega), List.length_append, List.length_singleton]
    rw [if_pos (by omega)]
    congr 1
    omega
  exact atI_of this (by simp)
theorem par_of {i j : Nat} {m1 m2 : Rm.M} {ρ ρ1 ρ2 : Rm.Env} {d1 d2 : D} (h1 : m1 ρ = some (d1, ρ1)) (h2 : m2 ρ1 = some (d2, ρ2)) (hi : i < ρ2.length) (hj : j < ρ2.length) : dPar i j m1 m2 ρ = some (.nx ((ρ2.set i (some d1)).set j (some d2))) := by
  unfold dPar
  simp only [evOps, h1, h2, hi, hj, and_self, if_true]
theorem app_of {i : Nat} {m : Rm.M} {ρ ρ1 : Rm.Env} {o : Bool} {d : D} {xs ys : List D} (h0 : ρ[i]? = some (some (.lst o ys))) (h : m ρ = some (d, ρ1)) (h1 : ρ1[i]? = some (some (.lst true xs))) (hz : xs.length < 100000) : dExpr (dMetV i lmApp [m]) ρ = some (.nx (ρ1.set i (some (.lst true (xs ++ [d]))))) := by
  unfold dExpr dMetV
  simp only [h0, List.map_cons, List.map_nil, evOps, h, h1, lmApp, hz, if_true, lmEnd, putR, putP]
theorem call_v4 {F : List D → Option (D × List D)} {i : Nat} {m1 m2 m3 m4 : Rm.M} {ρ ρ1 ρ2 ρ3 ρ4 : Rm.Env} {d0 b d1 d2 d3 d4 x b' : D} (h0 : ρ[i]? = some (some d0)) (h1 : m1 ρ = some (d1, ρ1)) (h2 : m2 ρ1 = some (d2, ρ2)) (h3 : m3 ρ2 = some (d3, ρ3)) (h4 : m4 ρ3 = some (d4, ρ4)) (h5 : ρ4[i]? = some (some b)) (hF : F [b, d1, d2, d3, d4] = some (x, [b'])) :
    dCall F [.v i, .e m1, .e m2, .e m3, .e m4] [] ρ = some (x, (ρ4.set i none).set i (some b')) := by
  unfold dCall
  simp only [evOps, h0, h1, h2, h3, h4, h5, dCallEnd, lendD, List.append_nil, hF, backE]
theorem is_0 {m : Rm.M} {ρ ρ1 : Rm.Env} {v : Nat} (h : m ρ = some (iD v, ρ1)) : dT (dOp oEq [.e m, .e (dC (.int 0))]) ρ = some (decide (v = 0), ρ1) := by
  refine t_of (op_ee (d2 := .int 0) h rfl ?_)
  show some (D.bl (decide ((v : Int) = 0))) = _
  rw [show decide ((v : Int) = 0) = decide (v = 0) by by_cases h : v = 0 <;> simp [h]]
abbrev See := Nat × Look × Nat
def seeD (x : See) : D := .tup [iD x.1, lookD x.2.1, iD x.2.2]
theorem no_see (x : See) : noOwn (seeD x) = true := by simp [seeD, noOwn, noOwns, no_look, iD]
theorem no_sees (xs : List See) : noOwns (xs.map seeD) = true := noOwns_of fun x hx => by
  obtain ⟨s, _, rfl⟩ := List.mem_map.mp hx
  exact no_see s
theorem no_bD {n : Nat} {ws : List (Nat × Nat)} : noOwn (bD n ws) = true := by unfold bD; simp [noOwn, noOwns, no_ws]
section
variable {n : Nat} {M : List (List Nat)} {Vs : List (List (Option Nat))} {rs ws : List (Nat × Nat)}
def zE (b : D) (n : Nat) (ws : List (Nat × Nat)) (M : List (List Nat)) (wk : List Nat) (rr : List See) (k be lo an : Option D) : Rm.Env := [some b, some (bD n ws), some (mD false M), some (.lst false (wk.map iD)), some (.int 24), some (.int n), some (.lst true (rr.map seeD)), k, be, lo, an]
theorem seen_1 (B : Bd n M Vs) {b : D} {wk : List Nat} {rr : List See} {k be lo an : Option D} (hb : Bx b) (hw : ∀ x, x ∈ wk → x < n) (hne : 1 ≤ wk.length) (hwl : wk.length ≤ 1000) (hr : rr.length ≤ 100) :
    ∃ (b' : D) (s : See) (be' lo' an' : Option D), B__law_seen_1 (zE b n ws M wk rr k be lo an) = some (.nx (zE b' n ws M wk (rr ++ [s]) k be' lo' an')) ∧ s.1 < wk.length ∧ OkL n s.2.1 ∧ Bx b' := by
  obtain ⟨h1, h8⟩ := B.n8
  obtain ⟨v, b1, e1, hv, hb1⟩ := pick_nat (m := wk.length) hb hne hwl
  obtain ⟨l, b2, e2, hl, hb2⟩ := look_ok hb1 B.n8
  have s1 : dPar 8 9 (dCall F__law_pick [.v 0, .e (dOp oLen [.v 3])] []) (dCall F__law_look [.v 0, .e (dV 5)] []) (zE b n ws M wk rr k be lo an) = some (.nx (zE b2 n ws M wk rr k (some (iD v)) (some (lookD l)) an)) := by
    have c1 : dCall F__law_pick [.v 0, .e (dOp oLen [.v 3])] [] (zE b n ws M wk rr k be lo an) = some (iD v, zE b1 n ws M wk rr k be lo an) := by
      refine (call_ve (i := 0) (m := dOp oLen [.v 3]) rfl (len_of (s := 3) (c := .lst false (wk.map iD)) rfl rfl) rfl ?_).trans rfl
      rw [List.length_map]
      exact e1
    exact (par_of c1 (call_ve (i := 0) (m := dV 5) rfl (v_of (i := 5) rfl rfl) rfl e2) (by simp [zE]) (by simp [zE])).trans rfl
  have hx : wk.getD v 0 < n := by
    rw [List.getD_eq_getElem?_getD, List.getElem?_eq_getElem hv]
    exact hw _ (List.getElem_mem hv)
  have s2 : dAsg (dCall F__law_answer [.e (dV 2), .e (dV 9), .e (dPth (rIxP (rV 3) (qV 8)))] []) (gN 10) (zE b2 n ws M wk rr k (some (iD v)) (some (lookD l)) an) = some (.nx (zE b2 n ws M wk rr k (some (iD v)) (some (lookD l)) (some (iD (ansV M l (pg wk v)))))) := by
    have p : dPth (rIxP (rV 3) (qV 8)) (zE b2 n ws M wk rr k (some (iD v)) (some (lookD l)) an) = some (iD (pg wk v), zE b2 n ws M wk rr k (some (iD v)) (some (lookD l)) an) := dPth_of ((PthAt.v (s := 3) rfl).ix (xs := wk.map iD) (qV_i (s := 8) rfl) rfl (at_pg hv)) rfl
    exact asg_of (call_3 (v_of (i := 2) rfl (no_m M)) (v_of (i := 9) rfl (no_look l)) p (lans_ok B hl hx)) rfl
  obtain ⟨u, b3, e3, hu, hb3⟩ := pick_nat (m := 7) hb2 (by omega) (by omega)
  have t3 : dT (dOp oEq [.e (dCall F__law_pick [.v 0, .e (dC (.int 7))] []), .e (dC (.int 0))]) (zE b2 n ws M wk rr k (some (iD v)) (some (lookD l)) (some (iD (ansV M l (pg wk v))))) = some (decide (u = 0), zE b3 n ws M wk rr k (some (iD v)) (some (lookD l)) (some (iD (ansV M l (pg wk v))))) :=
    is_0 ((call_ve (i := 0) (m := dC (.int 7)) rfl rfl rfl e3).trans rfl)
  have s4 : ∀ {b : D} {a : Nat}, dExpr (dMetV 6 lmApp [dTup [dV 8, dV 9, dV 10]]) (zE b n ws M wk rr k (some (iD v)) (some (lookD l)) (some (iD a))) = some (.nx (zE b n ws M wk (rr ++ [(v, l, a)]) k (some (iD v)) (some (lookD l)) (some (iD a)))) := fun {b a} => by
    refine (app_of (i := 6) rfl (tup3_of (v_of (i := 8) rfl rfl) (v_of (i := 9) rfl (no_look l)) (v_of (i := 10) rfl rfl)) rfl (by rw [List.length_map]; omega)).trans ?_
    unfold zE
    rw [List.map_append]
    rfl
  by_cases h0 : u = 0
  · obtain ⟨q, b4, e4, hq, hb4⟩ := pick_nat (m := n) hb3 h1 (by omega)
    have s3 : dIfS (dT (dOp oEq [.e (dCall F__law_pick [.v 0, .e (dC (.int 7))] []), .e (dC (.int 0))])) (dSeq (dAsg (dCall F__law_answer [.e (dV 2), .e (dV 9), .e (dCall F__law_pick [.v 0, .e (dV 5)] [])] []) (gN 10)) (dNx)) (dNx) (zE b2 n ws M wk rr k (some (iD v)) (some (lookD l)) (some (iD (ansV M l (pg wk v))))) = some (.nx (zE b4 n ws M wk rr k (some (iD v)) (some (lookD l)) (some (iD (ansV M l q))))) := by
      rw [if_t (t3.trans (by rw [decide_eq_true h0]))]
      have c := call_3 (F := F__law_answer) (v_of (i := 2) (ρ := zE b3 n ws M wk rr k (some (iD v)) (some (lookD l)) (some (iD (ansV M l (pg wk v))))) rfl (no_m M)) (v_of (i := 9) rfl (no_look l)) (call_ve (i := 0) (m := dV 5) rfl (v_of (i := 5) rfl rfl) rfl e4) (lans_ok B hl hq)
      exact (seq_nx (b := dNx) (asg_of c rfl)).trans rfl
    refine ⟨b4, (v, l, ansV M l q), some (iD v), some (lookD l), some (iD (ansV M l q)), ?_, hv, hl, hb4⟩
    unfold B__law_seen_1
    rw [seq_nx s1, seq_nx s2, seq_nx s3]
    exact (seq_nx (b := dNx) s4).trans rfl
  · have s3 : dIfS (dT (dOp oEq [.e (dCall F__law_pick [.v 0, .e (dC (.int 7))] []), .e (dC (.int 0))])) (dSeq (dAsg (dCall F__law_answer [.e (dV 2), .e (dV 9), .e (dCall F__law_pick [.v 0, .e (dV 5)] [])] []) (gN 10)) (dNx)) (dNx) (zE b2 n ws M wk rr k (some (iD v)) (some (lookD l)) (some (iD (ansV M l (pg wk v))))) = some (.nx (zE b3 n ws M wk rr k (some (iD v)) (some (lookD l)) (some (iD (ansV M l (pg wk v)))))) := by
      rw [if_f (t3.trans (by rw [decide_eq_false h0]))]
      rfl
    refine ⟨b3, (v, l, ansV M l (pg wk v)), some (iD v), some (lookD l), some (iD (ansV M l (pg wk v))), ?_, hv, hl, hb3⟩
    unfold B__law_seen_1
    rw [seq_nx s1, seq_nx s2, seq_nx s3]
    exact (seq_nx (b := dNx) s4).trans rfl
theorem seen_ok (B : Bd n M Vs) {b : D} {wk : List Nat} (hb : Bx b) (hw : ∀ x, x ∈ wk → x < n) (hne : 1 ≤ wk.length) (hwl : wk.length ≤ 1000) :
    ∃ (sn : List See) (b' : D), F__law_seen [b, bD n ws, mD false M, .lst false (wk.map iD), .int 24] = some (.tup (sn.map seeD), [b']) ∧ sn.length ≤ 24 ∧ (∀ x, x ∈ sn → x.1 < wk.length ∧ OkL n x.2.1) ∧ Bx b' := by
  have p0 : dPth (rIxP (rV 1) (qC (.int 0))) [some b, some (bD n ws), some (mD false M), some (.lst false (wk.map iD)), some (.int 24), none, none, none, none, none, none] = some (.int n, [some b, some (bD n ws), some (mD false M), some (.lst false (wk.map iD)), some (.int 24), none, none, none, none, none, none]) := dPth_of ((PthAt.v (s := 1) rfl).ix (xs := [.int n, .lst false (ws.map wD)]) (k := 0) rfl rfl (at_0 _ _)) rfl
  have s0 : S__law_seen_0 [some b, some (bD n ws), some (mD false M), some (.lst false (wk.map iD)), some (.int 24), none, none, none, none, none, none] = some (.nx (zE b n ws M wk [] none none none none)) := by
    unfold S__law_seen_0
    exact (par_of p0 (m2 := dLst []) (d2 := .lst true []) rfl (by simp) (by simp)).trans rfl
  obtain ⟨v, b1, e1, hv, hb1⟩ := pick_nat (m := 25) hb (by omega) (by omega)
  have cr : dCall F__law_pick [.v 0, .e (dOp oAdd [.v 4, .e (dC (.int 1))])] [] (zE b n ws M wk [] none none none none) = some (iD v, zE b1 n ws M wk [] none none none none) := (call_ve (i := 0) (m := dOp oAdd [.v 4, .e (dC (.int 1))]) (d2 := .int 25) rfl rfl rfl e1).trans rfl
  obtain ⟨ρ', e, b2, sn, k', be, lo, an, rfl, hl, hs, hb2⟩ := forL_inv (a := gN 7) (body := B__law_seen_1) (fun i ρ => ∃ (b' : D) (sn : List See) (k be lo an : Option D), ρ = zE b' n ws M wk sn k be lo an ∧ sn.length = i ∧ (∀ x, x ∈ sn → x.1 < wk.length ∧ OkL n x.2.1) ∧ Bx b') (xs := (List.range v).map iD) (ρ := zE b1 n ws M wk [] none none none none)
    ⟨b1, [], none, none, none, none, rfl, rfl, fun x hx => (by cases hx), hb1⟩ fun i x ρ hx ⟨b', sn, k, be, lo, an, hρ, hl, hs, hb'⟩ => by
      subst hρ
      have hi : i < v := by have := (List.getElem?_eq_some_iff.mp hx).1; simpa using this
      obtain ⟨b4, s, be', lo', an', e4, g1, g2, g3⟩ := seen_1 (ws := ws) (k := some x) (be := be) (lo := lo) (an := an) B hb' hw hne hwl (show sn.length ≤ 100 by omega)
      refine ⟨zE b' n ws M wk sn (some x) be lo an, _, rfl, .inl e4, b4, sn ++ [s], _, _, _, _, rfl, by simp [hl], fun y hy => ?_, g3⟩
      rcases List.mem_append.mp hy with hy | hy
      · exact hs y hy
      · have : y = s := by simpa using hy
        rw [this]; exact ⟨g1, g2⟩
  rw [List.length_map, List.length_range] at hl
  have s2 : S__law_seen_2 (zE b n ws M wk [] none none none none) = some (.nx (zE b2 n ws M wk sn k' be lo an)) := by
    unfold S__law_seen_2
    exact (for_of (rng_of cr (by omega))).trans e
  have s3 : S__law_seen_3 (zE b2 n ws M wk sn k' be lo an) = some (.rt (.tup (sn.map seeD)) (zE b2 n ws M wk sn k' be lo an)) := by
    have c : dOp oTup [.v 6] (zE b2 n ws M wk sn k' be lo an) = some (.tup (sn.map seeD), zE b2 n ws M wk sn k' be lo an) := by
      refine opv_of (d := .lst true (sn.map seeD)) rfl ?_
      unfold oTup
      simp only [rowOf, no_sees, if_true]
    have f := fz_of c
    rw [frz_of (.tup (sn.map seeD)) (by unfold noOwn; exact no_sees sn)] at f
    exact ret_of f
  refine ⟨sn, b2, ?_, by omega, hs, hb2⟩
  show dEnd 1 (M__law_seen [some b, some (bD n ws), some (mD false M), some (.lst false (wk.map iD)), some (.int 24), none, none, none, none, none, none]) = _
  unfold M__law_seen
  rw [seq_nx s0, seq_nx s2, seq_rt (b := dNx) s3]
  rfl
/-! ### stories -/
def stD (l0 : List Nat) (ps : List (List Nat)) (sn : List See) : D := .tup [lotD l0, .tup (ps.map lotD), .tup (sn.map seeD)]
structure OkS (n : Nat) (l0 : List Nat) (ps : List (List Nat)) (sn : List See) : Prop where
  lot : Lot n l0
  ne : l0 ≠ []
  pl : ∀ p, p ∈ ps → p.length = n ∧ ∀ x, x ∈ p → x ≤ 7
  pn : ps.length ≤ 12
  sl : sn.length ≤ 24
  so : ∀ x, x ∈ sn → x.1 ≤ ps.length ∧ OkL n x.2.1
theorem no_st (l0 : List Nat) (ps : List (List Nat)) (sn : List See) : noOwn (stD l0 ps sn) = true := by simp [stD, noOwn, noOwns, no_lot, no_lots, no_sees]
def yE (b : D) (n : Nat) (ws : List (Nat × Nat)) (M : List (List Nat)) (nb : Nat) (l7 p7 wk pc k : Option D) : Rm.Env := [some b, some (bD n ws), some (mD false M), some (.int nb), some (.int 24), some (.int n), l7, p7, wk, pc, k]
theorem reach_ne (B : Bd n M Vs) {ps : List Nat} {z : Nat} (hz : z < n) : reachV n M ps [z] ≠ [] := fun e => by
  have : z ∈ reachV n M ps [z] := List.mem_filter.mpr ⟨List.mem_range.mpr hz, by rw [List.any_cons, B.diag z hz]; simp⟩
  rw [e] at this
  cases this
theorem reach_lt {ps ls : List Nat} : ∀ x, x ∈ reachV n M ps ls → x < n := fun x hx => List.mem_range.mp (List.mem_filter.mp hx).1
theorem reach_len {ps ls : List Nat} : (reachV n M ps ls).length ≤ n := by
  have := (List.filter_sublist (l := List.range n) (p := fun t => ls.any fun o => decide (gt M o t ≤ pg ps o))).length_le
  rw [List.length_range] at this
  exact this
theorem story_ok (B : Bd n M Vs) {b : D} {nb : Nat} (hb : Bx b) (hnb : nb ≤ 12) : ∃ (l0 : List Nat) (ps : List (List Nat)) (sn : List See) (b' : D), F__law_story [b, bD n ws, mD false M, .int nb, .int 24] = some (stD l0 ps sn, [b']) ∧ OkS n l0 ps sn ∧ Bx b' := by
  obtain ⟨h1, h8⟩ := B.n8
  have p0 : dPth (rIxP (rV 1) (qC (.int 0))) [some b, some (bD n ws), some (mD false M), some (.int nb), some (.int 24), none, none, none, none, none, none] = some (.int n, [some b, some (bD n ws), some (mD false M), some (.int nb), some (.int 24), none, none, none, none, none, none]) := dPth_of ((PthAt.v (s := 1) rfl).ix (xs := [.int n, .lst false (ws.map wD)]) (k := 0) rfl rfl (at_0 _ _)) rfl
  have s0 : S__law_story_0 [some b, some (bD n ws), some (mD false M), some (.int nb), some (.int 24), none, none, none, none, none, none] = some (.nx (yE b n ws M nb none none none none none)) := by
    unfold S__law_story_0
    exact asg_of p0 rfl
  obtain ⟨l0, b1, e1, hl0, hne0, hb1⟩ := start_ok hb B.n8
  have c1 : dCall F__law_start [.v 0, .e (dV 5)] [] (yE b n ws M nb none none none none none) = some (lotD l0, yE b1 n ws M nb none none none none none) := (call_ve (i := 0) (m := dV 5) rfl (v_of (i := 5) rfl rfl) rfl e1).trans rfl
  obtain ⟨acc, ρ2, q1, b2, ps, rfl, rfl, hlen, hps, hb2⟩ := comp_mem (i := mRange1 (.v 3)) (a := gN 10) (c := dYes) (e := dCall F__law_pace [.v 0, .e (dV 5)] []) (vs := [10]) (ρ := yE b1 n ws M nb none none none none none) (ρ0 := yE b1 n ws M nb none none none none none) (xs := rangeD 0 nb)
    (fun pre acc ρ => ∃ (b' : D) (ps : List (List Nat)), ρ = yE b' n ws M nb none none none none none ∧ acc = ps.map lotD ∧ ps.length = pre.length ∧ (∀ p, p ∈ ps → p.length = n ∧ ∀ x, x ∈ p → x ≤ 7) ∧ Bx b')
    (mRange1_nat (by simp [evOps, yE]) (by omega)) (by simp [savOk, yE]) (by rw [rangeD_len]; omega) ⟨b1, [], rfl, rfl, rfl, fun p hp => (by cases hp), hb1⟩ fun p1 x p2 acc ρ hx ⟨b', ps, hρ, ha, hl, hp, hb'⟩ => by
      subst hρ ha
      obtain ⟨p, b4, e4, g1, g2, hb4⟩ := pace_ok hb' B.n8
      refine ⟨yE b' n ws M nb none none none none (some x), true, yE b' n ws M nb none none none none (some x), by simp [gN, yE], rfl, fun h => (by cases h), fun _ => ⟨lotD p, yE b4 n ws M nb none none none none (some x), call_ve (i := 0) rfl (v_of (i := 5) rfl rfl) rfl e4, b4, ps ++ [p], by simp [wipeE, yE], by simp, by simp [hl], fun y hy => ?_, hb4⟩⟩
      rcases List.mem_append.mp hy with hy | hy
      · exact hp y hy
      · have : y = p := by simpa using hy
        rw [this]; exact ⟨g1, g2⟩
  rw [rangeD_len] at hlen
  have s1 : S__law_story_1 (yE b n ws M nb none none none none none) = some (.nx (yE b2 n ws M nb (some (lotD l0)) (some (.tup (ps.map lotD))) none none none)) := by
    unfold S__law_story_1
    exact (par_of c1 (tupn_of q1 (no_lots ps)) (by simp [restE, yE]) (by simp [restE, yE])).trans rfl
  obtain ⟨w0, b3, e3, hw0, hb3⟩ := from_ok (mn := lotD l0) (xs := l0.map iD) rfl hb2 (by simpa using hne0) (by have := hl0.len; rw [List.length_map]; omega) (no_iD l0)
  obtain ⟨z0, hz0, rfl⟩ := List.mem_map.mp hw0
  have s2 : S__law_story_2 (yE b2 n ws M nb (some (lotD l0)) (some (.tup (ps.map lotD))) none none none) = some (.nx (yE b3 n ws M nb (some (lotD l0)) (some (.tup (ps.map lotD))) (some (.lst true ([z0].map iD))) none none)) := by
    unfold S__law_story_2
    exact asg_of (lst1_of ((call_ve (i := 0) (m := dV 6) rfl (v_of (i := 6) rfl (no_lot l0)) rfl e3).trans rfl)) rfl
  obtain ⟨ρ', e, b4, w, z, pc, rfl, hwl, hwn, hb4⟩ := forL_inv (a := gN 9) (body := B__law_story_3) (fun i ρ => ∃ (b' : D) (w : List Nat) (z : Nat) (pc : Option D), ρ = yE b' n ws M nb (some (lotD l0)) (some (.tup (ps.map lotD))) (some (.lst true ((w ++ [z]).map iD))) pc none ∧ w.length = i ∧ (∀ x, x ∈ w ++ [z] → x < n) ∧ Bx b') (xs := ps.map lotD) (ρ := yE b3 n ws M nb (some (lotD l0)) (some (.tup (ps.map lotD))) (some (.lst true ([z0].map iD))) none none)
    ⟨b3, [], z0, none, rfl, rfl, fun x hx => (by rw [show x = z0 by simpa using hx]; exact hl0.lt z0 hz0), hb3⟩ fun i x ρ hx ⟨b', w, z, pc, hρ, hl, hn, hb'⟩ => by
      subst hρ
      have hi : i < ps.length := by have := (List.getElem?_eq_some_iff.mp hx).1; simpa using this
      rw [List.getElem?_map] at hx
      obtain ⟨p, hp, rfl⟩ := Option.map_eq_some_iff.mp hx
      obtain ⟨g1, g2⟩ := hps p (List.mem_of_getElem? hp)
      have hz : z < n := hn z (by simp)
      obtain ⟨v, b5, e5, hv, hb5⟩ := from_ok (mn := lotD (reachV n M p [z])) (xs := (reachV n M p [z]).map iD) rfl hb' (by simpa using reach_ne B (ps := p) hz) (by rw [List.length_map]; have := reach_len (n := n) (M := M) (ps := p) (ls := [z]); omega) (no_iD _)
      obtain ⟨y, hy, rfl⟩ := List.mem_map.mp hv
      have pl : dPth (rIxP (rV 8) (qNeg (qC (.int 1)))) (yE b' n ws M nb (some (lotD l0)) (some (.tup (ps.map lotD))) (some (.lst true ((w ++ [z]).map iD))) (some (lotD p)) none) = some (iD z, yE b' n ws M nb (some (lotD l0)) (some (.tup (ps.map lotD))) (some (.lst true ((w ++ [z]).map iD))) (some (lotD p)) none) :=
        dPth_of ((PthAt.v (s := 8) rfl).ix (xs := (w ++ [z]).map iD) (k := -1) rfl rfl (by rw [List.map_append]; exact at_m1 _ _)) rfl
      have cr := call_3 (F := F__law_reached) (v_of (i := 2) rfl (no_m M)) (v_of (i := 9) rfl (no_lot p)) (tup1_of pl) (reached_ok B.sq h8 g1 (ls := [z]) (fun x hx => (by rw [show x = z by simpa using hx]; exact hz)) (by simp))
      have cf := call_ve (i := 0) (F := F__law_from) rfl cr rfl e5
      have ap := app_of (i := 8) (ys := (w ++ [z]).map iD) (xs := (w ++ [z]).map iD) rfl cf rfl (by rw [List.length_map, List.length_append, List.length_singleton]; omega)
      refine ⟨yE b' n ws M nb (some (lotD l0)) (some (.tup (ps.map lotD))) (some (.lst true ((w ++ [z]).map iD))) (some (lotD p)) none, yE b5 n ws M nb (some (lotD l0)) (some (.tup (ps.map lotD))) (some (.lst true ((w ++ [z] ++ [y]).map iD))) (some (lotD p)) none, rfl, .inl ?_, b5, w ++ [z], y, _, rfl, by simp [hl], fun x hx => ?_, hb5⟩
      · unfold B__law_story_3
        refine (seq_nx (b := dNx) ap).trans ?_
        rw [List.map_append (l₁ := w ++ [z])]
        rfl
      · rcases List.mem_append.mp hx with hx | hx
        · exact hn x hx
        · have : x = y := by simpa using hx
          rw [this]; exact reach_lt y hy
  rw [List.length_map] at hwl
  have s4 : S__law_story_4 (yE b3 n ws M nb (some (lotD l0)) (some (.tup (ps.map lotD))) (some (.lst true ([z0].map iD))) none none) = some (.nx (yE b4 n ws M nb (some (lotD l0)) (some (.tup (ps.map lotD))) (some (.lst true ((w ++ [z]).map iD))) pc none)) := by
    unfold S__law_story_4
    exact (for_of (seq_lots (v_of (i := 7) rfl (by unfold noOwn; exact no_lots ps)))).trans e
  have hlw : (w ++ [z]).length = ps.length + 1 := by rw [List.length_append, hwl]; rfl
  obtain ⟨sn, b5, e5, k1, k2, hb5⟩ := seen_ok (ws := ws) (wk := w ++ [z]) B hb4 hwn (by omega) (by omega)
  have c5 := call_v4 (i := 0) (F := F__law_seen) (ρ := yE b4 n ws M nb (some (lotD l0)) (some (.tup (ps.map lotD))) (some (.lst true ((w ++ [z]).map iD))) pc none) rfl (v_of (i := 1) rfl no_bD) (v_of (i := 2) rfl (no_m M)) (vf_of (i := 8) (d2 := .lst false ((w ++ [z]).map iD)) rfl (by simp [noOwn]) (by unfold frz; rw [fz_iD])) (v_of (i := 4) rfl rfl) rfl e5
  have s5 : S__law_story_5 (yE b4 n ws M nb (some (lotD l0)) (some (.tup (ps.map lotD))) (some (.lst true ((w ++ [z]).map iD))) pc none) = some (.rt (stD l0 ps sn) (yE b5 n ws M nb (some (lotD l0)) (some (.tup (ps.map lotD))) (some (.lst false ((w ++ [z]).map iD))) pc none)) := by
    unfold S__law_story_5
    refine ret_of ?_
    rw [← frz_of _ (no_st l0 ps sn)]
    exact fz_of (tup3_of (v_of (i := 6) rfl (no_lot l0)) (v_of (i := 7) rfl (by unfold noOwn; exact no_lots ps)) c5)
  refine ⟨l0, ps, sn, b5, ?_, ⟨hl0, hne0, hps, by omega, k1, fun x hx => ⟨by have := (k2 x hx).1; omega, (k2 x hx).2⟩⟩, hb5⟩
  show dEnd 1 (M__law_story [some b, some (bD n ws), some (mD false M), some (.int nb), some (.int 24), none, none, none, none, none, none]) = _
  unfold M__law_story
  rw [seq_nx s0, seq_nx s1, seq_nx s2, seq_nx s4, seq_rt (b := dNx) s5]
  rfl
end
theorem big_ok {b : D} (hb : Bx b) : ∃ (n : Nat) (rs : List (Nat × Nat)) (M : List (List Nat)) (Vs : List (List (Option Nat))) (l0 : List Nat) (ps : List (List Nat)) (sn : List See) (b' : D), F__law_big_story [b, .int 24] = some (.tup [mD false M, brD false n rs Vs, stD l0 ps sn], [b']) ∧ Bd n M Vs ∧ OkS n l0 ps sn ∧ Bx b' := by
  obtain ⟨n, ws, rs, M, Vs, b1, e1, hn, hd, hv, hb1⟩ := ground_ok hb
  have B := bd_of hn hd hv
  have s0 : S__law_big_story_0 [some b, some (.int 24), none, none, none] = some (.nx [some b1, some (.int 24), some (bD n ws), some (mD false M), some (brD false n rs Vs)]) := by
    unfold S__law_big_story_0
    exact asg_of (call_ve (i := 0) (m := dC (.int 8)) rfl rfl rfl e1) (by simp [gTp, gsCons, gsNil, gN])
  obtain ⟨u, b2, e2, hu, hb2⟩ := pick_nat (m := 11) hb1 (by omega) (by omega)
  have d4 : dOp oAdd [.e (dC (.int 2)), .e (dCall F__law_pick [.v 0, .e (dC (.int 11))] [])] [some b1, some (.int 24), some (bD n ws), some (mD false M), some (brD false n rs Vs)] = some (iD (2 + u), [some b2, some (.int 24), some (bD n ws), some (mD false M), some (brD false n rs Vs)]) := op_ee rfl ((call_ve (i := 0) (m := dC (.int 11)) rfl rfl rfl e2).trans rfl) (by simp [a_oAdd, orF, oII, hAdd, iD])
  have dl : dLst [dC (.int 0), dC (.int 1), dC (.int 12), dOp oAdd [.e (dC (.int 2)), .e (dCall F__law_pick [.v 0, .e (dC (.int 11))] [])]] [some b1, some (.int 24), some (bD n ws), some (mD false M), some (brD false n rs Vs)] = some (.lst true ([0, 1, 12, 2 + u].map iD), [some b2, some (.int 24), some (bD n ws), some (mD false M), some (brD false n rs Vs)]) := by
    unfold dLst
    simp only [List.map_cons, List.map_nil, evOps, d4, dC]
    rfl
  obtain ⟨nb, b3, e3, hnb, hb3⟩ := from_nat (o := true) (ms := [0, 1, 12, 2 + u]) hb2 (by simp) (by simp)
  have hnb : nb ≤ 12 := by simp at hnb; omega
  obtain ⟨l0, ps, sn, b4, e4, ho, hb4⟩ := story_ok (ws := ws) B hb3 hnb
  have c4 := call_v4 (i := 0) (F := F__law_story) (ρ := [some b1, some (.int 24), some (bD n ws), some (mD false M), some (brD false n rs Vs)]) rfl (v_of (i := 2) rfl no_bD) (v_of (i := 3) rfl (no_m M)) (call_ve (i := 0) rfl dl rfl e3) (v_of (i := 1) (d := .int 24) rfl rfl) rfl e4
  have s1 : S__law_big_story_1 [some b1, some (.int 24), some (bD n ws), some (mD false M), some (brD false n rs Vs)] = some (.rt (.tup [mD false M, brD false n rs Vs, stD l0 ps sn]) [some b4, some (.int 24), some (bD n ws), some (mD false M), some (brD false n rs Vs)]) := by
    unfold S__law_big_story_1
    refine ret_of ?_
    rw [← frz_of (.tup [mD false M, brD false n rs Vs, stD l0 ps sn]) (by simp [noOwn, noOwns, no_m, no_br, no_st])]
    exact fz_of (tup3_of (v_of (i := 3) rfl (no_m M)) (v_of (i := 4) rfl no_br) (c4.trans rfl))
  refine ⟨n, rs, M, Vs, l0, ps, sn, b4, ?_, B, ho, hb4⟩
  show dEnd 1 (M__law_big_story [some b, some (.int 24), none, none, none]) = _
  unfold M__law_big_story
  rw [seq_nx s0, seq_rt (b := dNx) s1]
  rfl
end K11
set_option Elab.async false
set_option linter.all false
set_option maxRecDepth 100000
set_option maxHeartbeats 4000000
namespace K11
open PySem L2 Rm
/-! ### tests -/
theorem notT {t : MT} {ρ ρ1 : Rm.Env} {b : Bool} (h : t ρ = some (b, ρ1)) : dNotT t ρ = some (!b, ρ1) := by unfold dNotT; rw [h]
theorem orT_f {a b : MT} {ρ ρ1 : Rm.Env} (h : a ρ = some (false, ρ1)) : dOrT a b ρ = b ρ1 := by unfold dOrT; rw [h]
theorem andT_t {a b : MT} {ρ ρ1 : Rm.Env} (h : a ρ = some (true, ρ1)) : dAndT a b ρ = b ρ1 := by unfold dAndT; rw [h]
theorem and_t {a b : Rm.M} {ρ ρ1 : Rm.Env} (h : a ρ = some (.bl true, ρ1)) : dAnd a b ρ = b ρ1 := by unfold dAnd; rw [h]
theorem num_c {x : Nat} {hi : Int} {m1 m3 : Rm.M} {ρ ρ1 ρ3 : Rm.Env} (h1 : m1 ρ = some (iD x, ρ1)) (h3 : m3 ρ1 = some (.int hi, ρ3)) (h : (x : Int) ≤ hi) : dCall F_is_number [.e m1, .e (dC (.int 0)), .e m3] [] ρ = some (.bl true, ρ3) := by
  refine call_3 h1 rfl h3 ?_
  unfold iD
  rw [num_int]
  simp [h]
theorem zip_enc {α : Type} {f : α → D} : ∀ {xs ys : List α}, zipD (xs.map f) (ys.map f) = (xs.zip ys).map fun p => .tup [f p.1, f p.2]
  | [], ys => by simp [zipD]
  | x :: xs, [] => by simp [zipD]
  | x :: xs, y :: ys => by
    show D.tup [f x, f y] :: zipD (xs.map f) (ys.map f) = _
    rw [zip_enc]; rfl
theorem zip_of {m1 m2 : Rm.M} {ρ ρ1 ρ2 : Rm.Env} {d1 d2 : D} {xs ys : List D} (h1 : m1 ρ = some (d1, ρ1)) (h2 : m2 ρ1 = some (d2, ρ2)) (e1 : seqOf d1 = some xs) (e2 : seqOf d2 = some ys) : mZip2 m1 m2 ρ = some (zipD xs ys, ρ2) := by
  unfold mZip2
  simp only [evOps, h1, h2, e1, e2]
theorem cut_1 (xs : List D) : cutD xs (some 1) none = xs.drop 1 := by
  have h1 : HT.sIx xs.length 0 (some 1) = min 1 xs.length := HT.sIx_nat _ _ 1
  have h2 : HT.sIx xs.length xs.length none = xs.length := rfl
  unfold cutD
  rw [h1, h2]
  cases xs with
  | nil => rfl
  | cons x xs =>
    rw [List.length_cons, show min 1 (xs.length + 1) = 1 by omega]
    show xs.take (xs.length + 1 - 1) = xs
    rw [Nat.add_sub_cancel, List.take_length]
theorem asc_zip {ls : List Nat} (h : ls.Pairwise (· < ·)) {p : Nat × Nat} (hp : p ∈ ls.zip (ls.drop 1)) : p.1 < p.2 := by
  obtain ⟨i, hi, e⟩ := List.mem_iff_getElem.mp hp
  have hl : i < ls.length ∧ i + 1 < ls.length := by
    rw [List.length_zip, List.length_drop] at hi
    omega
  rw [List.getElem_zip] at e
  have e1 := congrArg Prod.fst e
  have e2 := congrArg Prod.snd e
  simp only [List.getElem_drop] at e1 e2
  rw [← e1, ← e2]
  exact List.pairwise_iff_getElem.mp h _ _ _ _ (by omega)
theorem all_true {α : Type} (xs : List α) : (xs.all fun _ => true) = true := List.all_eq_true.mpr fun _ _ => rfl
section
variable {n : Nat} {M : List (List Nat)} {Vs : List (List (Option Nat))} {rs ws : List (Nat × Nat)}
theorem top_of (B : Bd n M Vs) {ρ : Rm.Env} (h : ρ[0]? = some (some (brD false n rs Vs))) : dOp oSub [.e (dLenO F_Board___len__ 0 2 (.v 0)), .e (dC (.int 1))] ρ = some (.int ((n : Int) - 1), ρ) := op_ee (lenv B h) rfl rfl
theorem islot_ok (B : Bd n M Vs) {ls : List Nat} (hl : Lot n ls) : F_is_lot [brD false n rs Vs, lotD ls] = some (.bl true, []) := by
  have h8 := B.n8
  have hz := hl.len
  have c0 := comp_enc_all (xs := ls) (enc := iD) (fun x => D.bl true) (i := mSeq (dV 1)) (vs := [2]) (a := gN 2) (e := dCall F_is_number [.e (dV 2), .e (dC (.int 0)), .e (dOp oSub [.e (dLenO F_Board___len__ 0 2 (.v 0)), .e (dC (.int 1))])] []) (ρ := [some (brD false n rs Vs), some (lotD ls), none, none, none]) (ρ0 := [some (brD false n rs Vs), some (lotD ls), none, none, none])
    (seq_lot rfl) (by simp [savOk]) (by omega) fun x hx => by
      have hx := hl.lt x hx
      exact ⟨[some (brD false n rs Vs), some (lotD ls), some (iD x), none, none], by simp [gN, wipeE], num_c (v_of rfl rfl) (top_of B rfl) (by omega), by simp [wipeE]⟩
  have s0 : S_is_lot_0 [some (brD false n rs Vs), some (lotD ls), none, none, none] = some (.nx [some (brD false n rs Vs), some (lotD ls), none, none, none]) := by
    unfold S_is_lot_0
    rw [if_f (ρ1 := [some (brD false n rs Vs), some (lotD ls), none, none, none]) ?_]
    · rfl
    · rw [orT_f (ρ1 := [some (brD false n rs Vs), some (lotD ls), none, none, none]) rfl]
      exact (notT (t_of (all_of (P := fun _ => true) c0))).trans (by rw [all_true]; rfl)
  have c1 := comp_enc_all (xs := ls.zip (ls.drop 1)) (enc := wD) (fun p => D.bl true) (i := mZip2 (dV 1) (dOp (oCut true false) [.v 1, .e (dC (.int 1))])) (vs := [3, 4]) (a := gTp 2 (gsCons (gN 3) (gsCons (gN 4) (gsNil)))) (e := dOp oLt [.v 3, .v 4]) (ρ := [some (brD false n rs Vs), some (lotD ls), none, none, none]) (ρ0 := [some (brD false n rs Vs), some (lotD ls), none, none, none])
    (by
      have v1 : dV 1 [some (brD false n rs Vs), some (lotD ls), none, none, none] = some (lotD ls, [some (brD false n rs Vs), some (lotD ls), none, none, none]) := v_of rfl (no_lot ls)
      have v2 : dOp (oCut true false) [.v 1, .e (dC (.int 1))] [some (brD false n rs Vs), some (lotD ls), none, none, none] = some (lotD (ls.drop 1), [some (brD false n rs Vs), some (lotD ls), none, none, none]) := by
        refine op_ve (i := 1) (d := lotD ls) (d2 := .int 1) rfl rfl rfl ?_
        show cutR (lotD ls) (some 1) none = _
        unfold lotD cutR
        simp only [no_iD ls, if_true]
        rw [cut_1, List.map_drop]
      refine (zip_of v1 v2 (xs := ls.map iD) (ys := (ls.drop 1).map iD) ?_ ?_).trans ?_
      · simp only [lotD, seqOf, shr_of (no_iD _)]
      · simp only [lotD, seqOf, shr_of (no_iD _)]
      · rw [zip_enc]; rfl) (by simp [savOk]) (by rw [List.length_zip]; omega) fun p hp => by
      refine ⟨[some (brD false n rs Vs), some (lotD ls), none, some (iD p.1), some (iD p.2)], tgt2 (by simp [wipeE]) (by simp [wipeE]), ?_, by simp [wipeE]⟩
      have := asc_zip hl.asc hp
      have h2 : (p.1 : Int) < (p.2 : Int) := by omega
      simp [dFn, dEnd, allS, dSeq, dNx, dRet, dRetV, dRetN, dExpr, dIfS, dAsg, dFor, gN, gTp, gsCons, gsNil, dStop, dBk, dCt, dPar, dC, dV, dQ, qC, qV, qP, qNeg, qOp, dPth, dOp, evOps, dT, dAndT, dOrT, dNotT, dAnd, dOr, dNot, dIf, dCh, oII, hAdd, hSub, hMul, hMod, hDiv, hPow, hLt, hLe, hGt, hGe, a_oLt, a_oLe, a_oGt, a_oGe, a_oAdd, a_oSub, a_oMul, a_oMod, a_oDiv, a_oPow, a_oEq, a_oNe, oEqF, eqF, orF, oIsN, isNo, oIn, inD, rowOf, oNeg, oIsi, oIsi2, isI, isB, isS, isT, isL, oLen, oInt, oAbs, a_oMin2, a_oMax2, oMin3, dTup, dLst, dFz, frz, frzs, noOwn, noOwns, dCall, dCallEnd, lendD, backE, dMethV, isC, dMake, dLenO, kids, withKids, posS, getS, getP, putP, getR, putR, rV, rIxP, rKeyP, rFld, idxD, putFd, dFldS, mSeq, shr, mZip2, mEnum, dYes, isF, sv, List.replicate, Option.map, gSetK, gSetL, gSetT, putKD, Rm.keyOf, keysOf, qK, evQ, dMetV, dMetP, lmEnd, lmApp, lmIns, lmPopAt, dNil, dInT, iD, h2]
  have s1 : S_is_lot_1 [some (brD false n rs Vs), some (lotD ls), none, none, none] = some (.rt (.bl true) [some (brD false n rs Vs), some (lotD ls), none, none, none]) := by
    unfold S_is_lot_1
    exact ret_of ((all_of (P := fun _ => true) c1).trans (by rw [all_true]; rfl))
  show dEnd 0 (M_is_lot [some (brD false n rs Vs), some (lotD ls), none, none, none]) = _
  unfold M_is_lot
  rw [seq_nx s0, seq_rt (b := dNx) s1]
  rfl
theorem ispace_ok (B : Bd n M Vs) {ps : List Nat} (hl : ps.length = n) (hp : ∀ x, x ∈ ps → x ≤ 7) : F_is_pace [brD false n rs Vs, lotD ps] = some (.bl true, []) := by
  have h8 := B.n8
  have tl : dT (dOp oNe [.e (dOp oLen [.v 1]), .e (dLenO F_Board___len__ 0 2 (.v 0))]) [some (brD false n rs Vs), some (lotD ps), none] = some (false, [some (brD false n rs Vs), some (lotD ps), none]) := by
    refine t_of (op_ee (len_of (s := 1) (c := lotD ps) rfl rfl) (lenv B rfl) ?_)
    rw [List.length_map, hl]
    simp [a_oNe, orF, oEqF, eqF]
  have s0 : S_is_pace_0 [some (brD false n rs Vs), some (lotD ps), none] = some (.nx [some (brD false n rs Vs), some (lotD ps), none]) := by
    unfold S_is_pace_0
    rw [if_f (ρ1 := [some (brD false n rs Vs), some (lotD ps), none]) ?_]
    · rfl
    · rw [orT_f (ρ1 := [some (brD false n rs Vs), some (lotD ps), none]) rfl]
      exact tl
  have c1 := comp_enc_all (xs := ps) (enc := iD) (fun x => D.bl true) (i := mSeq (dV 1)) (vs := [2]) (a := gN 2) (e := dCall F_is_number [.e (dV 2), .e (dC (.int 0)), .e (dC (.int 7))] []) (ρ := [some (brD false n rs Vs), some (lotD ps), none]) (ρ0 := [some (brD false n rs Vs), some (lotD ps), none])
    (seq_lot rfl) (by simp [savOk]) (by omega) fun x hx => by
      have hx := hp x hx
      exact ⟨[some (brD false n rs Vs), some (lotD ps), some (iD x)], by simp [gN, wipeE], num_c (v_of rfl rfl) rfl (by omega), by simp [wipeE]⟩
  have s1 : S_is_pace_1 [some (brD false n rs Vs), some (lotD ps), none] = some (.rt (.bl true) [some (brD false n rs Vs), some (lotD ps), none]) := by
    unfold S_is_pace_1
    exact ret_of ((all_of (P := fun _ => true) c1).trans (by rw [all_true]; rfl))
  show dEnd 0 (M_is_pace [some (brD false n rs Vs), some (lotD ps), none]) = _
  unfold M_is_pace
  rw [seq_nx s0, seq_rt (b := dNx) s1]
  rfl
theorem ne_tnil (L : List Nat) : oNe [lotD L, .tup []] = some (.bl (decide (L ≠ []))) := by
  have e2 : toPs (L.map iD) = some ((L.map Int.ofNat).map PyData.int) := by rw [show L.map iD = (L.map Int.ofNat).map D.int by rw [List.map_map]; rfl]; exact toPs_ints _
  have e3 := eqv_tnil (L.map Int.ofNat)
  have e4 := shp_tints (L.map Int.ofNat)
  have e5 : toP (lotD L) = some (.tuple ((L.map Int.ofNat).map PyData.int)) := by unfold lotD; simp only [toP, e2]
  have e6 : oEqF true [lotD L, .tup []] = none := rfl
  rw [a_oNe]
  simp only [orF, e6, oEqD, e5, e4, show toP (.tup []) = some (.tuple []) from rfl, shp_tnil, and_self, if_true, e3]
  cases L <;> rfl
theorem eq_tnil (L : List Nat) : oEq [lotD L, .tup []] = some (.bl (decide (L = []))) := by
  have e2 : toPs (L.map iD) = some ((L.map Int.ofNat).map PyData.int) := by rw [show L.map iD = (L.map Int.ofNat).map D.int by rw [List.map_map]; rfl]; exact toPs_ints _
  have e3 := eqv_tnil (L.map Int.ofNat)
  have e4 := shp_tints (L.map Int.ofNat)
  have e5 : toP (lotD L) = some (.tuple ((L.map Int.ofNat).map PyData.int)) := by unfold lotD; simp only [toP, e2]
  have e6 : oEqF false [lotD L, .tup []] = none := rfl
  rw [a_oEq]
  simp only [orF, e6, oEqD, e5, e4, show toP (.tup []) = some (.tuple []) from rfl, shp_tnil, and_self, if_true, e3]
  cases L <;> rfl
theorem flat_in {b : D} {c : D} {ls : List Nat} {l : D} : ∀ {acc : List D}, compL (gN 3) dYes (dV 3) [3] (ls.map iD) acc [some b, some c, some l, none] = some (acc ++ ls.map iD, [some b, some c, some l, none]) := fun {acc} => by
  obtain ⟨acc', ρ', e, rfl, rfl⟩ := compL_mem (a := gN 3) (c := dYes) (e := dV 3) (vs := [3]) (fun pre acc' ρ => acc' = acc ++ pre ∧ ρ = [some b, some c, some l, none]) (xs := ls.map iD) (pre := []) (acc := acc) (ρ := [some b, some c, some l, none]) ⟨by simp, rfl⟩ fun p1 x p2 acc' ρ hx ⟨h1, h2⟩ => by
    subst h1 h2
    obtain ⟨i, _, rfl⟩ := List.mem_map.mp (show x ∈ ls.map iD by rw [show ls.map iD = p1 ++ x :: p2 from hx]; simp)
    exact ⟨[some b, some c, some l, some (iD i)], true, [some b, some c, some l, some (iD i)], by simp [gN], rfl, fun h => (by cases h), fun _ => ⟨iD i, [some b, some c, some l, some (iD i)], v_of rfl rfl, by simp, by simp [wipeE]⟩⟩
  rw [e]; rfl
theorem flat_out {b c : D} : ∀ {lss : List (List Nat)} {acc : List D}, acc.length + lss.flatten.length ≤ 1000 → compL2 (gN 2) dYes (mSeq (dV 2)) (gN 3) dYes (dV 3) [2, 3] [3] (lss.map lotD) acc [some b, some c, none, none] = some (acc ++ lss.flatten.map iD, [some b, some c, none, none])
  | [], acc, _ => by simp [compL2]
  | ls :: lss, acc, h => by
    rw [List.flatten_cons, List.length_append] at h
    have ih := flat_out (b := b) (c := c) (lss := lss) (acc := acc ++ ls.map iD) (by rw [List.length_append, List.length_map]; omega)
    have e1 : mSeq (dV 2) [some b, some c, some (lotD ls), none] = some (ls.map iD, [some b, some c, some (lotD ls), none]) := seq_lot rfl
    have hz : acc.length + (ls.map iD).length ≤ 100000 := by rw [List.length_map]; omega
    rw [List.map_cons]
    unfold compL2
    rw [show gN 2 (lotD ls) [some b, some c, none, none] = some [some b, some c, some (lotD ls), none] from rfl]
    simp only [dYes, e1, hz, if_true]
    rw [show wipeE [some b, some c, some (lotD ls), none] [3] = [some b, some c, some (lotD ls), none] from rfl]
    rw [flat_in (l := lotD ls)]
    simp only []
    rw [show wipeE [some b, some c, some (lotD ls), none] [2, 3] = [some b, some c, none, none] from rfl]
    refine Eq.trans ih ?_
    rw [List.flatten_cons, List.map_append, List.append_assoc]
theorem eq_ints (o o' : Bool) (ns ms : List Int) : oEq [.lst o (ns.map .int), .lst o' (ms.map .int)] = some (.bl (decide (ns = ms))) := by
  have e1 := toPs_ints ns
  have e2 := toPs_ints ms
  have e3 : toP (.lst o (ns.map .int)) = some (.list (ns.map PyData.int)) := by simp only [toP, e1]
  have e4 : toP (.lst o' (ms.map .int)) = some (.list (ms.map PyData.int)) := by simp only [toP, e2]
  have e6 : oEqF false [.lst o (ns.map .int), .lst o' (ms.map .int)] = none := rfl
  rw [a_oEq]
  simp only [orF, e6, oEqD, e3, e4, shp_ints, and_self, if_true, PyData.eqv, eqv_ints]
  rfl
theorem areparts_ok (B : Bd n M Vs) {lss : List (List Nat)} (h : OkL n (.parts lss)) : F_are_parts [brD false n rs Vs, .tup (lss.map lotD)] = some (.bl true, []) := by
  have h8 := B.n8
  obtain ⟨h1, h2, h3⟩ := h
  have nl : noOwn (.tup (lss.map lotD)) = true := by unfold noOwn; exact no_lots lss
  have c0 := comp_enc_all (xs := lss) (enc := lotD) (fun x => D.bl true) (i := mSeq (dV 1)) (vs := [2]) (a := gN 2) (e := dAnd (dCall F_is_lot [.e (dV 0), .e (dV 2)] []) (dOp oNe [.v 2, .e (dTup [])])) (ρ := [some (brD false n rs Vs), some (.tup (lss.map lotD)), none, none]) (ρ0 := [some (brD false n rs Vs), some (.tup (lss.map lotD)), none, none])
    (seq_lots (v_of rfl nl)) (by simp [savOk]) (by omega) fun ls hls => by
      obtain ⟨g1, g2⟩ := h1 ls hls
      refine ⟨[some (brD false n rs Vs), some (.tup (lss.map lotD)), some (lotD ls), none], by simp [gN, wipeE], ?_, by simp [wipeE]⟩
      rw [and_t (call_2 (v_of rfl no_br) (v_of rfl (no_lot ls)) (islot_ok B g1))]
      exact (op_ve (i := 2) (d := lotD ls) (d2 := .tup []) rfl rfl rfl (ne_tnil ls)).trans (by rw [decide_eq_true g2])
  have s0 : S_are_parts_0 [some (brD false n rs Vs), some (.tup (lss.map lotD)), none, none] = some (.nx [some (brD false n rs Vs), some (.tup (lss.map lotD)), none, none]) := by
    unfold S_are_parts_0
    rw [if_f ((notT (t_of (all_of (P := fun _ => true) c0))).trans (by rw [all_true]; rfl))]
    rfl
  have c1 : dComp2 (mSeq (dV 1)) [2, 3] (gN 2) (dYes) (mSeq (dV 2)) [3] (gN 3) (dYes) (dV 3) [some (brD false n rs Vs), some (.tup (lss.map lotD)), none, none] = some (.lst true (lss.flatten.map iD), [some (brD false n rs Vs), some (.tup (lss.map lotD)), none, none]) := by
    have e1 : mSeq (dV 1) [some (brD false n rs Vs), some (.tup (lss.map lotD)), none, none] = some (lss.map lotD, [some (brD false n rs Vs), some (.tup (lss.map lotD)), none, none]) := seq_lots (v_of rfl nl)
    have e2 := flat_out (b := brD false n rs Vs) (c := .tup (lss.map lotD)) (lss := lss) (acc := []) (by rw [h2.length_eq, List.length_range]; simp; omega)
    unfold dComp2
    rw [e1]
    simp only [show savOk [some (brD false n rs Vs), some (.tup (lss.map lotD)), none, none] [2, 3] = true by simp [savOk], if_true]
    rw [show wipeE [some (brD false n rs Vs), some (.tup (lss.map lotD)), none, none] [2, 3] = [some (brD false n rs Vs), some (.tup (lss.map lotD)), none, none] from rfl, e2]
    rfl
  have c2 : (orF oSortI oSortD) [.lst true (lss.flatten.map iD)] = some (.lst true (((List.range n).map Int.ofNat).map .int)) := by
    refine orF_s ?_
    unfold oSortI
    simp only [intsOf_iD]
    rw [← sortI_of (ns := lss.flatten.map Int.ofNat) (ms := (List.range n).map Int.ofNat) (h2.symm.map _) ?_]
    rw [List.pairwise_map]
    refine List.pairwise_lt_range.imp fun {a b} hab => ?_
    show (a : Int) ≤ (b : Int)
    omega
  have c3 : dRg true (.e (dLenO F_Board___len__ 0 2 (.v 0))) [some (brD false n rs Vs), some (.tup (lss.map lotD)), none, none] = some (.lst true (((List.range n).map Int.ofNat).map .int), [some (brD false n rs Vs), some (.tup (lss.map lotD)), none, none]) := by
    have e := lenv (ρ := [some (brD false n rs Vs), some (.tup (lss.map lotD)), none, none]) (i := 0) B rfl
    have e2 : evOps [.e (dLenO F_Board___len__ 0 2 (.v 0))] [some (brD false n rs Vs), some (.tup (lss.map lotD)), none, none] = some ([.int (n : Int)], [some (brD false n rs Vs), some (.tup (lss.map lotD)), none, none]) := by
      unfold evOps
      rw [e]
      rfl
    refine (dRg_nat (l := true) (n := n) e2 (by omega)).trans ?_
    rw [rangeD_eq, List.map_map]
    rfl
  have s1 : S_are_parts_1 [some (brD false n rs Vs), some (.tup (lss.map lotD)), none, none] = some (.rt (.bl true) [some (brD false n rs Vs), some (.tup (lss.map lotD)), none, none]) := by
    unfold S_are_parts_1
    refine ret_of ((op_ee (op1_of c1 c2) c3 (eq_ints _ _ _ _)).trans ?_)
    rw [decide_eq_true rfl]
  show dEnd 0 (M_are_parts [some (brD false n rs Vs), some (.tup (lss.map lotD)), none, none]) = _
  unfold M_are_parts
  rw [seq_nx s0, seq_rt (b := dNx) s1]
  rfl
end
end K11
set_option Elab.async false
set_option linter.all false
set_option maxRecDepth 100000
set_option maxHeartbeats 4000000
namespace K11
open PySem L2 Rm
section
variable {n : Nat} {M : List (List Nat)} {Vs : List (List (Option Nat))} {rs ws : List (Nat × Nat)}
theorem wordv {i : Nat} {ρ : Rm.Env} {w v : PySem.Str} (h : ρ[i]? = some (some (.str w))) : dT (dOp oEq [.v i, .e (dC (.str v))]) ρ = some (decide (w = v), ρ) := t_of (op_ve (d := .str w) (d2 := .str v) h rfl h rfl)
theorem nwordv {i : Nat} {ρ : Rm.Env} {w v : PySem.Str} (h : ρ[i]? = some (some (.str w))) : dT (dOp oNe [.v i, .e (dC (.str v))]) ρ = some (!decide (w = v), ρ) := t_of (op_ve (d := .str w) (d2 := .str v) h rfl h rfl)
theorem islook_ok (B : Bd n M Vs) {l : Look} (hl : OkL n l) : F_is_look [brD false n rs Vs, lookD l] = some (.bl true, []) := by
  have h8 := B.n8
  show dEnd 0 (M_is_look [some (brD false n rs Vs), some (lookD l), none, none]) = _
  unfold M_is_look
  have v1 : dV 1 [some (brD false n rs Vs), some (lookD l), none, none] = some (lookD l, [some (brD false n rs Vs), some (lookD l), none, none]) := v_of rfl (no_look l)
  cases l with
  | inn ls =>
    have s0 : S_is_look_0 [some (brD false n rs Vs), some (lookD (.inn ls)), none, none] = some (.nx [some (brD false n rs Vs), some (lookD (.inn ls)), some (.str ("in" : PySem.Str)), some (.lst true [lotD ls])]) := by
      unfold S_is_look_0
      refine asg_of v1 ?_
      simp [gStr, seqNo, lookD, noOwns, noOwn, no_lot, gsCons, gsNil, gN]
    have s1 : S_is_look_1 [some (brD false n rs Vs), some (lookD (.inn ls)), some (.str ("in" : PySem.Str)), some (.lst true [lotD ls])] = some (.rt (.bl true) [some (brD false n rs Vs), some (lookD (.inn ls)), some (.str ("in" : PySem.Str)), some (.lst true [lotD ls])]) := by
      unfold S_is_look_1
      rw [if_t ((wordv (i := 2) rfl).trans (by rw [decide_eq_true rfl]))]
      refine seq_rt (ret_of ?_)
      rw [and_t (ρ1 := [some (brD false n rs Vs), some (lookD (.inn ls)), some (.str ("in" : PySem.Str)), some (.lst true [lotD ls])]) rfl]
      exact call_2 (v_of (i := 0) rfl no_br) (dPth_of ((PthAt.v (s := 3) rfl).ix (xs := [lotD ls]) (k := 0) rfl rfl (at_0 _ _)) (no_lot ls)) (islot_ok B hl)
    rw [seq_nx s0, seq_rt s1]
    rfl
  | parts lss =>
    have s0 : S_is_look_0 [some (brD false n rs Vs), some (lookD (.parts lss)), none, none] = some (.nx [some (brD false n rs Vs), some (lookD (.parts lss)), some (.str ("parts" : PySem.Str)), some (.lst true [.tup (lss.map lotD)])]) := by
      unfold S_is_look_0
      refine asg_of v1 ?_
      simp [gStr, seqNo, lookD, noOwns, noOwn, no_lots, gsCons, gsNil, gN]
    have s1 : S_is_look_1 [some (brD false n rs Vs), some (lookD (.parts lss)), some (.str ("parts" : PySem.Str)), some (.lst true [.tup (lss.map lotD)])] = some (.nx [some (brD false n rs Vs), some (lookD (.parts lss)), some (.str ("parts" : PySem.Str)), some (.lst true [.tup (lss.map lotD)])]) := by
      unfold S_is_look_1
      rw [if_f ((wordv (i := 2) rfl).trans (by rw [decide_eq_false ne_pi]))]
      rfl
    have s2 : S_is_look_2 [some (brD false n rs Vs), some (lookD (.parts lss)), some (.str ("parts" : PySem.Str)), some (.lst true [.tup (lss.map lotD)])] = some (.rt (.bl true) [some (brD false n rs Vs), some (lookD (.parts lss)), some (.str ("parts" : PySem.Str)), some (.lst true [.tup (lss.map lotD)])]) := by
      unfold S_is_look_2
      rw [if_t ((wordv (i := 2) rfl).trans (by rw [decide_eq_true rfl]))]
      refine seq_rt (ret_of ?_)
      rw [and_t (ρ1 := [some (brD false n rs Vs), some (lookD (.parts lss)), some (.str ("parts" : PySem.Str)), some (.lst true [.tup (lss.map lotD)])]) rfl]
      exact call_2 (v_of (i := 0) rfl no_br) (dPth_of ((PthAt.v (s := 3) rfl).ix (xs := [.tup (lss.map lotD)]) (k := 0) rfl rfl (at_0 _ _)) (by unfold noOwn; exact no_lots lss)) (areparts_ok B hl)
    rw [seq_nx s0, seq_nx s1, seq_rt s2]
    rfl
  | near p r =>
    obtain ⟨hp, hr⟩ := hl
    have s0 : S_is_look_0 [some (brD false n rs Vs), some (lookD (.near p r)), none, none] = some (.nx [some (brD false n rs Vs), some (lookD (.near p r)), some (.str ("near" : PySem.Str)), some (.lst true [iD p, iD r])]) := by
      unfold S_is_look_0
      refine asg_of v1 ?_
      simp [gStr, seqNo, lookD, noOwns, noOwn, iD, gsCons, gsNil, gN]
    have s1 : S_is_look_1 [some (brD false n rs Vs), some (lookD (.near p r)), some (.str ("near" : PySem.Str)), some (.lst true [iD p, iD r])] = some (.nx [some (brD false n rs Vs), some (lookD (.near p r)), some (.str ("near" : PySem.Str)), some (.lst true [iD p, iD r])]) := by
      unfold S_is_look_1
      rw [if_f ((wordv (i := 2) rfl).trans (by rw [decide_eq_false ne_ni]))]
      rfl
    have s2 : S_is_look_2 [some (brD false n rs Vs), some (lookD (.near p r)), some (.str ("near" : PySem.Str)), some (.lst true [iD p, iD r])] = some (.nx [some (brD false n rs Vs), some (lookD (.near p r)), some (.str ("near" : PySem.Str)), some (.lst true [iD p, iD r])]) := by
      unfold S_is_look_2
      rw [if_f ((wordv (i := 2) rfl).trans (by rw [decide_eq_false ne_np]))]
      rfl
    have s3 : S_is_look_3 [some (brD false n rs Vs), some (lookD (.near p r)), some (.str ("near" : PySem.Str)), some (.lst true [iD p, iD r])] = some (.nx [some (brD false n rs Vs), some (lookD (.near p r)), some (.str ("near" : PySem.Str)), some (.lst true [iD p, iD r])]) := by
      unfold S_is_look_3
      refine (if_f (ρ1 := [some (brD false n rs Vs), some (lookD (.near p r)), some (.str ("near" : PySem.Str)), some (.lst true [iD p, iD r])]) ?_).trans rfl
      rw [orT_f ((nwordv (i := 2) rfl).trans (by rw [decide_eq_true rfl]; rfl))]
      rfl
    have s4 : S_is_look_4 [some (brD false n rs Vs), some (lookD (.near p r)), some (.str ("near" : PySem.Str)), some (.lst true [iD p, iD r])] = some (.rt (.bl true) [some (brD false n rs Vs), some (lookD (.near p r)), some (.str ("near" : PySem.Str)), some (.lst true [iD p, iD r])]) := by
      unfold S_is_look_4
      refine ret_of ?_
      rw [and_t (num_c (dPth_of ((PthAt.v (s := 3) rfl).ix (xs := [iD p, iD r]) (k := 0) rfl rfl (at_0 _ _)) rfl) (top_of B rfl) (by omega))]
      exact num_c (dPth_of ((PthAt.v (s := 3) rfl).ix (xs := [iD p, iD r]) (k := 1) rfl rfl (at_1 _ _ _)) rfl) rfl (by omega)
    rw [seq_nx s0, seq_nx s1, seq_nx s2, seq_nx s3, seq_rt (b := dNx) s4]
    rfl
theorem areseen_ok (B : Bd n M Vs) {sn : List See} {last : Nat} (hl : sn.length ≤ 24) (hs : ∀ x, x ∈ sn → x.1 ≤ last ∧ OkL n x.2.1) : F_are_seen [brD false n rs Vs, .tup (sn.map seeD), .int (last : Nat)] = some (.bl true, []) := by
  have nl : noOwn (.tup (sn.map seeD)) = true := by unfold noOwn; exact no_sees sn
  have s0 : S_are_seen_0 [some (brD false n rs Vs), some (.tup (sn.map seeD)), some (iD last), none, none, none] = some (.nx [some (brD false n rs Vs), some (.tup (sn.map seeD)), some (iD last), none, none, none]) := by
    unfold S_are_seen_0
    refine (if_f (ρ1 := [some (brD false n rs Vs), some (.tup (sn.map seeD)), some (iD last), none, none, none]) ?_).trans rfl
    rw [orT_f (ρ1 := [some (brD false n rs Vs), some (.tup (sn.map seeD)), some (iD last), none, none, none]) rfl]
    refine t_of (op_ee (len_of (s := 1) (c := .tup (sn.map seeD)) rfl rfl) rfl ?_)
    rw [List.length_map]
    simp [a_oGt, oII, hGt]
    omega
  obtain ⟨ρ', e, a, b, c, rfl⟩ := forL_inv (a := gTp 3 (gsCons (gN 3) (gsCons (gN 4) (gsCons (gN 5) (gsNil))))) (body := B_are_seen_1) (fun i ρ => ∃ a b c : Option D, ρ = [some (brD false n rs Vs), some (.tup (sn.map seeD)), some (iD last), a, b, c]) (xs := sn.map seeD) (ρ := [some (brD false n rs Vs), some (.tup (sn.map seeD)), some (iD last), none, none, none])
    ⟨none, none, none, rfl⟩ fun i x ρ hx ⟨a, b, c, hρ⟩ => by
      subst hρ
      obtain ⟨s, hm, rfl⟩ := List.mem_map.mp (List.mem_of_getElem? hx)
      obtain ⟨g1, g2⟩ := hs s hm
      refine ⟨[some (brD false n rs Vs), some (.tup (sn.map seeD)), some (iD last), some (iD s.1), some (lookD s.2.1), some (iD s.2.2)], [some (brD false n rs Vs), some (.tup (sn.map seeD)), some (iD last), some (iD s.1), some (lookD s.2.1), some (iD s.2.2)], by simp [gTp, gsCons, gsNil, gN, seeD], .inl ?_, _, _, _, rfl⟩
      unfold B_are_seen_1
      refine (seq_nx (b := dNx) (ρ1 := [some (brD false n rs Vs), some (.tup (sn.map seeD)), some (iD last), some (iD s.1), some (lookD s.2.1), some (iD s.2.2)]) ((if_f (ρ1 := [some (brD false n rs Vs), some (.tup (sn.map seeD)), some (iD last), some (iD s.1), some (lookD s.2.1), some (iD s.2.2)]) ?_).trans rfl)).trans rfl
      rw [orT_f ((notT (t_of (num_c (hi := (last : Int)) (v_of (i := 3) rfl rfl) (v_of (i := 2) rfl rfl) (by omega)))).trans rfl)]
      rw [orT_f ((notT (t_of (call_e (m := dV 5) (v_of (i := 5) rfl rfl) (whole_int s.2.2)))).trans rfl)]
      exact (notT (t_of (call_2 (v_of (i := 0) rfl no_br) (v_of (i := 4) rfl (no_look _)) (islook_ok B g2)))).trans rfl
  have s2 : S_are_seen_2 [some (brD false n rs Vs), some (.tup (sn.map seeD)), some (iD last), none, none, none] = some (.nx [some (brD false n rs Vs), some (.tup (sn.map seeD)), some (iD last), a, b, c]) := by
    unfold S_are_seen_2
    refine (for_of (xs := sn.map seeD) (ρ1 := [some (brD false n rs Vs), some (.tup (sn.map seeD)), some (iD last), none, none, none]) ?_).trans e
    unfold mSeq
    rw [v_of (d := .tup (sn.map seeD)) rfl nl]
    simp only [shr_of (no_sees sn)]
  show dEnd 0 (M_are_seen [some (brD false n rs Vs), some (.tup (sn.map seeD)), some (iD last), none, none, none]) = _
  unfold M_are_seen
  rw [seq_nx s0, seq_nx s2]
  rfl
theorem look_story_ok (B : Bd n M Vs) {l0 : List Nat} {ps : List (List Nat)} {sn : List See} (h : OkS n l0 ps sn) : F_look_story [brD false n rs Vs, stD l0 ps sn] = some (.non, []) := by
  have np : noOwn (.tup (ps.map lotD)) = true := by unfold noOwn; exact no_lots ps
  have nl : noOwn (.tup (sn.map seeD)) = true := by unfold noOwn; exact no_sees sn
  have s0 : S_look_story_0 [some (brD false n rs Vs), some (stD l0 ps sn), none, none, none, none] = some (.nx [some (brD false n rs Vs), some (stD l0 ps sn), some (lotD l0), some (.tup (ps.map lotD)), some (.tup (sn.map seeD)), none]) := by
    unfold S_look_story_0
    exact asg_of (v_of (i := 1) rfl (no_st l0 ps sn)) (by simp [gTp, gsCons, gsNil, gN, stD])
  have s1 : S_look_story_1 [some (brD false n rs Vs), some (stD l0 ps sn), some (lotD l0), some (.tup (ps.map lotD)), some (.tup (sn.map seeD)), none] = some (.nx [some (brD false n rs Vs), some (stD l0 ps sn), some (lotD l0), some (.tup (ps.map lotD)), some (.tup (sn.map seeD)), none]) := by
    unfold S_look_story_1
    refine (if_f (ρ1 := [some (brD false n rs Vs), some (stD l0 ps sn), some (lotD l0), some (.tup (ps.map lotD)), some (.tup (sn.map seeD)), none]) ?_).trans rfl
    rw [orT_f ((notT (t_of (call_2 (v_of (i := 0) rfl no_br) (v_of (i := 2) rfl (no_lot l0)) (islot_ok B h.lot)))).trans rfl)]
    exact t_of ((op_ve (i := 2) (d := lotD l0) (d2 := .tup []) rfl rfl rfl (eq_tnil l0)).trans (by rw [decide_eq_false h.ne]))
  have c2 := comp_enc_all (xs := ps) (enc := lotD) (fun x => D.bl true) (i := mSeq (dV 3)) (vs := [5]) (a := gN 5) (e := dCall F_is_pace [.e (dV 0), .e (dV 5)] []) (ρ := [some (brD false n rs Vs), some (stD l0 ps sn), some (lotD l0), some (.tup (ps.map lotD)), some (.tup (sn.map seeD)), none]) (ρ0 := [some (brD false n rs Vs), some (stD l0 ps sn), some (lotD l0), some (.tup (ps.map lotD)), some (.tup (sn.map seeD)), none])
    (seq_lots (v_of (i := 3) rfl np)) (by simp [savOk]) (by have := h.pn; omega) fun p hp => by
      obtain ⟨g1, g2⟩ := h.pl p hp
      exact ⟨[some (brD false n rs Vs), some (stD l0 ps sn), some (lotD l0), some (.tup (ps.map lotD)), some (.tup (sn.map seeD)), some (lotD p)], by simp [gN, wipeE], call_2 (v_of (i := 0) rfl no_br) (v_of (i := 5) rfl (no_lot p)) (ispace_ok B g1 g2), by simp [wipeE]⟩
  have s2 : S_look_story_2 [some (brD false n rs Vs), some (stD l0 ps sn), some (lotD l0), some (.tup (ps.map lotD)), some (.tup (sn.map seeD)), none] = some (.nx [some (brD false n rs Vs), some (stD l0 ps sn), some (lotD l0), some (.tup (ps.map lotD)), some (.tup (sn.map seeD)), none]) := by
    unfold S_look_story_2
    refine (if_f (ρ1 := [some (brD false n rs Vs), some (stD l0 ps sn), some (lotD l0), some (.tup (ps.map lotD)), some (.tup (sn.map seeD)), none]) ?_).trans rfl
    rw [orT_f (ρ1 := [some (brD false n rs Vs), some (stD l0 ps sn), some (lotD l0), some (.tup (ps.map lotD)), some (.tup (sn.map seeD)), none]) rfl]
    rw [orT_f (ρ1 := [some (brD false n rs Vs), some (stD l0 ps sn), some (lotD l0), some (.tup (ps.map lotD)), some (.tup (sn.map seeD)), none]) ?_]
    · exact (notT (t_of (all_of (P := fun _ => true) c2))).trans (by rw [all_true]; rfl)
    · refine t_of (op_ee (len_of (s := 3) (c := .tup (ps.map lotD)) rfl rfl) rfl ?_)
      rw [List.length_map]
      have := h.pn
      simp [a_oGt, oII, hGt]
      omega
  have s3 : S_look_story_3 [some (brD false n rs Vs), some (stD l0 ps sn), some (lotD l0), some (.tup (ps.map lotD)), some (.tup (sn.map seeD)), none] = some (.nx [some (brD false n rs Vs), some (stD l0 ps sn), some (lotD l0), some (.tup (ps.map lotD)), some (.tup (sn.map seeD)), none]) := by
    unfold S_look_story_3
    refine (if_f (ρ1 := [some (brD false n rs Vs), some (stD l0 ps sn), some (lotD l0), some (.tup (ps.map lotD)), some (.tup (sn.map seeD)), none]) ?_).trans rfl
    exact (notT (t_of (call_3 (F := F_are_seen) (x := .bl true) (v_of (i := 0) rfl no_br) (v_of (i := 4) rfl nl) (len_of (s := 3) (c := .tup (ps.map lotD)) rfl rfl) (by
      rw [List.length_map]
      exact areseen_ok B h.sl h.so)))).trans rfl
  show dEnd 0 (M_look_story [some (brD false n rs Vs), some (stD l0 ps sn), none, none, none, none]) = _
  unfold M_look_story
  rw [seq_nx s0, seq_nx s1, seq_nx s2, seq_nx s3]
  rfl
end
end K11
set_option Elab.async false
set_option linter.all false
set_option maxRecDepth 100000
set_option maxHeartbeats 4000000
namespace K11
open PySem L2 Rm
/-! ### the lots that the looks leave open -/
def ask (sn : List See) (b : Nat) : List See := sn.filter fun s => decide (s.1 = b)
def askD (s : See) : D := .tup [lookD s.2.1, iD s.2.2]
def hit (M : List (List Nat)) (xs : List See) (p : Nat) : Bool := xs.all fun s => decide (ansV M s.2.1 p = s.2.2)
def openV (n : Nat) (M : List (List Nat)) (sn : List See) (b : Nat) : List Nat := (List.range n).filter (hit M (ask sn b))
theorem no_ask (xs : List See) : noOwns (xs.map askD) = true := noOwns_of fun x hx => by
  obtain ⟨s, _, rfl⟩ := List.mem_map.mp hx
  simp [askD, noOwn, noOwns, no_look, iD]
theorem dec_nat (a b : Nat) : decide ((a : Int) = (b : Int)) = decide (a = b) := by
  by_cases h : a = b
  · simp [h]
  · have h2 : ¬ (a : Int) = (b : Int) := by omega
    simp [h, h2]
theorem eqn_vv {i j a b : Nat} {ρ : Rm.Env} (h1 : ρ[i]? = some (some (iD a))) (h2 : ρ[j]? = some (some (iD b))) : dOp oEq [.v i, .v j] ρ = some (.bl (decide (a = b)), ρ) := by
  unfold dOp
  simp only [evOps, h1, h2]
  show some (D.bl (decide ((a : Int) = (b : Int))), ρ) = _
  rw [dec_nat]
theorem open_lt {n : Nat} {M : List (List Nat)} {sn : List See} {b : Nat} : ∀ x, x ∈ openV n M sn b → x < n := fun x hx => List.mem_range.mp (List.mem_filter.mp hx).1
theorem filt_len {n : Nat} (p : Nat → Bool) : ((List.range n).filter p).length ≤ n := by
  have := (List.filter_sublist (l := List.range n) (p := p)).length_le
  rwa [List.length_range] at this
section
variable {n : Nat} {M : List (List Nat)} {Vs : List (List (Option Nat))} {rs ws : List (Nat × Nat)}
def oE (M : List (List Nat)) (st lots beat asked lot place : Option D) : Rm.Env := [some (mD false M), st, lots, beat, asked, lot, place, none, none, none]
theorem open_1 (B : Bd n M Vs) {o : Bool} {st lots beat : Option D} {xs : List See} {L : List Nat} {p : Nat} (hx : ∀ s, s ∈ xs → OkL n s.2.1) (hz : xs.length ≤ 1000) (hp : p < n) (hL : L.length ≤ 1000) :
    B__law_open_1 (oE M st lots beat (some (.lst o (xs.map askD))) (some (.lst true (L.map iD))) (some (iD p))) = some (.nx (oE M st lots beat (some (.lst false (xs.map askD))) (some (.lst true ((if hit M xs p then L ++ [p] else L).map iD))) (some (iD p)))) := by
  have sq : mSeq (dV 4) (oE M st lots beat (some (.lst o (xs.map askD))) (some (.lst true (L.map iD))) (some (iD p))) = some (xs.map askD, oE M st lots beat (some (.lst false (xs.map askD))) (some (.lst true (L.map iD))) (some (iD p))) := by
    unfold mSeq
    cases o with
    | true =>
      rw [vf_of (i := 4) (d2 := .lst false (xs.map askD)) rfl (by simp [noOwn]) (by unfold frz; rw [frzs_of (no_ask xs)])]
      simp only [shr_of (no_ask xs)]
      rfl
    | false =>
      rw [v_of (i := 4) (d := .lst false (xs.map askD)) rfl (by unfold noOwn; exact no_ask xs)]
      simp only [shr_of (no_ask xs)]
  have c := comp_enc_all (xs := xs) (enc := askD) (fun s => D.bl (decide (ansV M s.2.1 p = s.2.2))) (i := mSeq (dV 4)) (vs := [8, 7]) (a := gTp 2 (gsCons (gN 8) (gsCons (gN 7) (gsNil)))) (e := dOp oEq [.e (dCall F__law_answer [.e (dV 0), .e (dV 8), .e (dV 6)] []), .v 7])
    (ρ := oE M st lots beat (some (.lst o (xs.map askD))) (some (.lst true (L.map iD))) (some (iD p))) (ρ0 := oE M st lots beat (some (.lst false (xs.map askD))) (some (.lst true (L.map iD))) (some (iD p)))
    sq (by simp [savOk, oE]) (by omega) fun s hs => by
      refine ⟨[some (mD false M), st, lots, beat, some (.lst false (xs.map askD)), some (.lst true (L.map iD)), some (iD p), some (iD s.2.2), some (lookD s.2.1), none], by simp [gTp, gsCons, gsNil, gN, wipeE, askD, oE], ?_, by simp [wipeE, oE]⟩
      refine (op_ev (i := 7) (call_3 (v_of (i := 0) rfl (no_m M)) (v_of (i := 8) rfl (no_look _)) (v_of (i := 6) rfl rfl) (lans_ok B (hx s hs) hp)) rfl (x := .bl (decide (ansV M s.2.1 p = s.2.2))) ?_)
      show some (D.bl (decide ((ansV M s.2.1 p : Int) = (s.2.2 : Int)))) = _
      rw [dec_nat]
  have t : dT (dOp oAll [.e (dComp (mSeq (dV 4)) [8, 7] (gTp 2 (gsCons (gN 8) (gsCons (gN 7) (gsNil)))) (dYes) (dOp oEq [.e (dCall F__law_answer [.e (dV 0), .e (dV 8), .e (dV 6)] []), .v 7]))]) (oE M st lots beat (some (.lst o (xs.map askD))) (some (.lst true (L.map iD))) (some (iD p))) = some (hit M xs p, oE M st lots beat (some (.lst false (xs.map askD))) (some (.lst true (L.map iD))) (some (iD p))) := t_of (all_of c)
  unfold B__law_open_1
  cases hh : hit M xs p with
  | true =>
    have ap := app_of (i := 5) (m := dV 6) (ρ := oE M st lots beat (some (.lst false (xs.map askD))) (some (.lst true (L.map iD))) (some (iD p))) rfl (v_of (i := 6) rfl rfl) rfl (by rw [List.length_map]; omega)
    refine (seq_nx (b := dNx) (ρ1 := oE M st lots beat (some (.lst false (xs.map askD))) (some (.lst true ((L ++ [p]).map iD))) (some (iD p))) ?_).trans rfl
    rw [if_t (t.trans (by rw [hh]))]
    refine (seq_nx (b := dNx) ap).trans ?_
    rw [List.map_append]
    rfl
  | false =>
    refine (seq_nx (b := dNx) (ρ1 := oE M st lots beat (some (.lst false (xs.map askD))) (some (.lst true (L.map iD))) (some (iD p))) ?_).trans rfl
    rw [if_f (t.trans (by rw [hh]))]
    rfl
theorem seq_sees {m : Rm.M} {ρ ρ1 : Rm.Env} {sn : List See} (h : m ρ = some (.tup (sn.map seeD), ρ1)) : mSeq m ρ = some (sn.map seeD, ρ1) := by
  unfold mSeq
  rw [h]
  simp only [shr_of (no_sees sn)]
theorem st_paces {s : Nat} {ρ : Rm.Env} {l0 : List Nat} {ps : List (List Nat)} {sn : List See} (h : ρ[s]? = some (some (stD l0 ps sn))) : PthAt (rIxP (rV s) (qC (.int 1))) ρ (.tup (ps.map lotD)) := (PthAt.v h).ix (xs := [lotD l0, .tup (ps.map lotD), .tup (sn.map seeD)]) (k := 1) rfl rfl (at_1 _ _ _)
theorem st_sees {s : Nat} {ρ : Rm.Env} {l0 : List Nat} {ps : List (List Nat)} {sn : List See} (h : ρ[s]? = some (some (stD l0 ps sn))) : PthAt (rIxP (rV s) (qC (.int 2))) ρ (.tup (sn.map seeD)) := (PthAt.v h).ix (xs := [lotD l0, .tup (ps.map lotD), .tup (sn.map seeD)]) (k := 2) rfl rfl (at_2 _ _ _ _)
def opD (n : Nat) (M : List (List Nat)) (sn : List See) (b : Nat) : D := lotD (openV n M sn b)
theorem open_2 (B : Bd n M Vs) {l0 : List Nat} {ps : List (List Nat)} {sn : List See} (h : OkS n l0 ps sn) {L : List D} {b : Nat} {aq lt pl : Option D} (hL : L.length ≤ 1000) (hLn : noOwns L = true) :
    ∃ aq' lt' pl' : Option D, B__law_open_2 (oE M (some (stD l0 ps sn)) (some (.lst true L)) (some (iD b)) aq lt pl) = some (.nx (oE M (some (stD l0 ps sn)) (some (.lst true (L ++ [opD n M sn b]))) (some (iD b)) aq' lt' pl')) := by
  obtain ⟨h1, h8⟩ := B.n8
  have c1 := comp_enc (xs := sn) (enc := seeD) (fun s => decide (s.1 = b)) askD (i := mSeq (dPth (rIxP (rV 1) (qC (.int 2))))) (vs := [9, 8, 7]) (a := gTp 3 (gsCons (gN 9) (gsCons (gN 8) (gsCons (gN 7) (gsNil))))) (c := dT (dOp oEq [.v 9, .v 3])) (e := dTup [dV 8, dV 7])
    (ρ := oE M (some (stD l0 ps sn)) (some (.lst true L)) (some (iD b)) aq lt pl) (ρ0 := oE M (some (stD l0 ps sn)) (some (.lst true L)) (some (iD b)) aq lt pl)
    (seq_sees (dPth_of (st_sees (s := 1) rfl) (by unfold noOwn; exact no_sees sn))) (by simp [savOk, oE]) (by have := h.sl; omega) fun s hs =>
      ⟨[some (mD false M), some (stD l0 ps sn), some (.lst true L), some (iD b), aq, lt, pl, some (iD s.2.2), some (lookD s.2.1), some (iD s.1)], by simp [gTp, gsCons, gsNil, gN, wipeE, seeD, oE], t_of (eqn_vv (i := 9) (j := 3) rfl rfl), fun _ => tup2_of (v_of (i := 8) rfl (no_look _)) (v_of (i := 7) rfl rfl), by simp [wipeE, oE]⟩
  have s1 : dAsg (dComp (mSeq (dPth (rIxP (rV 1) (qC (.int 2))))) [9, 8, 7] (gTp 3 (gsCons (gN 9) (gsCons (gN 8) (gsCons (gN 7) (gsNil))))) (dT (dOp oEq [.v 9, .v 3])) (dTup [dV 8, dV 7])) (gN 4) (oE M (some (stD l0 ps sn)) (some (.lst true L)) (some (iD b)) aq lt pl) = some (.nx (oE M (some (stD l0 ps sn)) (some (.lst true L)) (some (iD b)) (some (.lst true ((ask sn b).map askD))) lt pl)) := asg_of c1 rfl
  have s2 : dAsg (dLst []) (gN 5) (oE M (some (stD l0 ps sn)) (some (.lst true L)) (some (iD b)) (some (.lst true ((ask sn b).map askD))) lt pl) = some (.nx (oE M (some (stD l0 ps sn)) (some (.lst true L)) (some (iD b)) (some (.lst true ((ask sn b).map askD))) (some (.lst true (([] : List Nat).map iD))) pl)) := rfl
  have hal : (ask sn b).length ≤ 1000 := by
    have := (List.filter_sublist (l := sn) (p := fun s => decide (s.1 = b))).length_le
    have := h.sl
    unfold ask
    omega
  obtain ⟨ρ', e3, o, pl', rfl⟩ := forL_inv (a := gN 6) (body := B__law_open_1) (fun i ρ => ∃ (o : Bool) (pl : Option D), ρ = oE M (some (stD l0 ps sn)) (some (.lst true L)) (some (iD b)) (some (.lst o ((ask sn b).map askD))) (some (.lst true ((((List.range n).take i).filter (hit M (ask sn b))).map iD))) pl) (xs := (List.range n).map iD) (ρ := oE M (some (stD l0 ps sn)) (some (.lst true L)) (some (iD b)) (some (.lst true ((ask sn b).map askD))) (some (.lst true (([] : List Nat).map iD))) pl)
    ⟨true, pl, rfl⟩ fun i x ρ hx ⟨o, pl, hρ⟩ => by
      subst hρ
      rw [List.getElem?_map] at hx
      obtain ⟨p, hp, rfl⟩ := Option.map_eq_some_iff.mp hx
      have hpn : p < n := List.mem_range.mp (List.mem_of_getElem? hp)
      have et : (List.range n).take (i + 1) = (List.range n).take i ++ [p] := by rw [List.take_add_one, hp]; rfl
      refine ⟨oE M (some (stD l0 ps sn)) (some (.lst true L)) (some (iD b)) (some (.lst o ((ask sn b).map askD))) (some (.lst true ((((List.range n).take i).filter (hit M (ask sn b))).map iD))) (some (iD p)), oE M (some (stD l0 ps sn)) (some (.lst true L)) (some (iD b)) (some (.lst false ((ask sn b).map askD))) (some (.lst true ((((List.range n).take (i + 1)).filter (hit M (ask sn b))).map iD))) (some (iD p)), rfl, .inl ?_, false, _, rfl⟩
      rw [open_1 (xs := ask sn b) B (fun s hs => (h.so s (List.mem_filter.mp hs).1).2) hal hpn ?_, et, List.filter_append]
      · cases hh : hit M (ask sn b) p <;> simp [hh]
      · have := (List.filter_sublist (l := (List.range n).take i) (p := hit M (ask sn b))).length_le
        rw [List.length_take, List.length_range] at this
        omega
  have s3 : dFor (mRange1 (.e (dOp oLen [.v 0]))) (gN 6) (B__law_open_1) (oE M (some (stD l0 ps sn)) (some (.lst true L)) (some (iD b)) (some (.lst true ((ask sn b).map askD))) (some (.lst true (([] : List Nat).map iD))) pl) = some (.nx (oE M (some (stD l0 ps sn)) (some (.lst true L)) (some (iD b)) (some (.lst o ((ask sn b).map askD))) (some (.lst true ((openV n M sn b).map iD))) pl')) := by
    refine (for_of (rng_of (n := n) (ρ1 := oE M (some (stD l0 ps sn)) (some (.lst true L)) (some (iD b)) (some (.lst true ((ask sn b).map askD))) (some (.lst true (([] : List Nat).map iD))) pl) ?_ (by omega))).trans (e3.trans ?_)
    · have := len_of (s := 0) (ρ := oE M (some (stD l0 ps sn)) (some (.lst true L)) (some (iD b)) (some (.lst true ((ask sn b).map askD))) (some (.lst true (([] : List Nat).map iD))) pl) (c := mD false M) rfl rfl
      rwa [List.length_map, B.sq.1] at this
    · rw [List.length_map, List.take_length]
      rfl
  have s4 := app_of (i := 2) (m := dOp oTup [.v 5]) (ρ := oE M (some (stD l0 ps sn)) (some (.lst true L)) (some (iD b)) (some (.lst o ((ask sn b).map askD))) (some (.lst true ((openV n M sn b).map iD))) pl') (ρ1 := oE M (some (stD l0 ps sn)) (some (.lst true L)) (some (iD b)) (some (.lst o ((ask sn b).map askD))) (some (.lst true ((openV n M sn b).map iD))) pl') (d := opD n M sn b) (xs := L) rfl (opv_of (d := .lst true ((openV n M sn b).map iD)) rfl (by unfold oTup; simp only [rowOf, no_iD, if_true, opD, lotD])) rfl (by omega)
  refine ⟨some (.lst o ((ask sn b).map askD)), some (.lst true ((openV n M sn b).map iD)), pl', ?_⟩
  unfold B__law_open_2
  rw [seq_nx s1, seq_nx s2, seq_nx s3]
  exact (seq_nx (b := dNx) s4).trans rfl
theorem no_ops {sn : List See} (xs : List Nat) : noOwns (xs.map (opD n M sn)) = true := noOwns_of fun x hx => by
  obtain ⟨b, _, rfl⟩ := List.mem_map.mp hx
  exact no_lot _
theorem lopen_ok (B : Bd n M Vs) {l0 : List Nat} {ps : List (List Nat)} {sn : List See} (h : OkS n l0 ps sn) : F__law_open [mD false M, stD l0 ps sn] = some (.lst false ((List.range (ps.length + 1)).map (opD n M sn)), []) := by
  have hpn := h.pn
  have s0 : S__law_open_0 (oE M (some (stD l0 ps sn)) none none none none none) = some (.nx (oE M (some (stD l0 ps sn)) (some (.lst true (((List.range (ps.length + 1)).take 0).map (opD n M sn)))) none none none none)) := rfl
  obtain ⟨ρ', e, bt, aq, lt, pl, rfl⟩ := forL_inv (a := gN 3) (body := B__law_open_2) (fun i ρ => ∃ bt aq lt pl : Option D, ρ = oE M (some (stD l0 ps sn)) (some (.lst true (((List.range (ps.length + 1)).take i).map (opD n M sn)))) bt aq lt pl) (xs := (List.range (ps.length + 1)).map iD) (ρ := oE M (some (stD l0 ps sn)) (some (.lst true (((List.range (ps.length + 1)).take 0).map (opD n M sn)))) none none none none)
    ⟨none, none, none, none, rfl⟩ fun i x ρ hx ⟨bt, aq, lt, pl, hρ⟩ => by
      subst hρ
      rw [List.getElem?_map] at hx
      obtain ⟨b, hb, rfl⟩ := Option.map_eq_some_iff.mp hx
      have et : (List.range (ps.length + 1)).take (i + 1) = (List.range (ps.length + 1)).take i ++ [b] := by rw [List.take_add_one, hb]; rfl
      obtain ⟨aq', lt', pl', e⟩ := open_2 (b := b) (aq := aq) (lt := lt) (pl := pl) (L := ((List.range (ps.length + 1)).take i).map (opD n M sn)) B h (by rw [List.length_map, List.length_take, List.length_range]; omega) (no_ops _)
      refine ⟨oE M (some (stD l0 ps sn)) (some (.lst true (((List.range (ps.length + 1)).take i).map (opD n M sn)))) (some (iD b)) aq lt pl, _, rfl, .inl e, some (iD b), aq', lt', pl', ?_⟩
      rw [et, List.map_append]
      rfl
  rw [List.length_map, List.take_length] at e
  have s3 : S__law_open_3 (oE M (some (stD l0 ps sn)) (some (.lst true (((List.range (ps.length + 1)).take 0).map (opD n M sn)))) none none none none) = some (.nx (oE M (some (stD l0 ps sn)) (some (.lst true ((List.range (ps.length + 1)).map (opD n M sn)))) bt aq lt pl)) := by
    unfold S__law_open_3
    refine (for_of (rng_of (n := ps.length + 1) (ρ1 := oE M (some (stD l0 ps sn)) (some (.lst true (((List.range (ps.length + 1)).take 0).map (opD n M sn)))) none none none none) ?_ (by omega))).trans e
    refine op_ee (op1_of (x := .int (ps.length : Nat)) (dPth_of (st_paces (s := 1) rfl) (by unfold noOwn; exact no_lots ps)) ?_) rfl ?_
    · show some (D.int ((ps.map lotD).length : Nat)) = _
      rw [List.length_map]
    · rfl
  have s4 : S__law_open_4 (oE M (some (stD l0 ps sn)) (some (.lst true ((List.range (ps.length + 1)).map (opD n M sn)))) bt aq lt pl) = some (.rt (.lst false ((List.range (ps.length + 1)).map (opD n M sn))) (oE M (some (stD l0 ps sn)) (some (.lst false ((List.range (ps.length + 1)).map (opD n M sn)))) bt aq lt pl)) := by
    unfold S__law_open_4
    exact ret_of (vf_of (i := 2) rfl (by simp [noOwn]) (by unfold frz; rw [frzs_of (no_ops _)]))
  show dEnd 0 (M__law_open (oE M (some (stD l0 ps sn)) none none none none none)) = _
  unfold M__law_open
  rw [seq_nx s0, seq_nx s3, seq_rt (b := dNx) s4]
  rfl
end
end K11
set_option Elab.async false
set_option linter.all false
set_option maxRecDepth 100000
set_option maxHeartbeats 4000000
namespace K11
open PySem L2 Rm
theorem ask_snoc (sn : List See) (s : See) (b : Nat) : ask (sn ++ [s]) b = if s.1 = b then ask sn b ++ [s] else ask sn b := by
  unfold ask
  rw [List.filter_append]
  by_cases h : s.1 = b <;> simp [h]
theorem open_eq {n : Nat} {M : List (List Nat)} {sn : List See} {s : See} : openV n M (sn ++ [s]) s.1 = bothV (openV n M sn s.1) (answV n M s.2.1 s.2.2) := by
  unfold openV bothV
  rw [ask_snoc, if_pos rfl, List.filter_filter]
  refine List.filter_congr fun p hp => ?_
  have e : (answV n M s.2.1 s.2.2).contains p = decide (ansV M s.2.1 p = s.2.2) := by
    rw [Bool.eq_iff_iff, List.contains_iff_mem]
    unfold answV
    rw [List.mem_filter, dec_nat]
    exact ⟨fun h => h.2, fun h => ⟨hp, h⟩⟩
  rw [e]
  unfold hit
  rw [List.all_append]
  simp [Bool.and_comm]
theorem open_ne {n : Nat} {M : List (List Nat)} {sn : List See} {s : See} {b : Nat} (h : s.1 ≠ b) : openV n M (sn ++ [s]) b = openV n M sn b := by
  unfold openV
  rw [ask_snoc, if_neg h]
theorem open_nil {n : Nat} {M : List (List Nat)} {b : Nat} : openV n M [] b = List.range n := List.filter_eq_self.mpr fun _ _ => rfl
theorem setL_of {s x k : Nat} {j : Int} {xs : List D} {d : D} {ρ : Rm.Env} (h : ρ[s]? = some (some (.lst true xs))) (hx : qV x ρ = some (.int j)) (hj : ixN xs.length j = some k) : gSetL (rV s) (qV x) d ρ = some (ρ.set s (some (.lst true (xs.set k d)))) := by
  have h1 : rV s ρ = some (s, []) := by simp only [rV, h]
  have h2 : getR ρ s [] = some (.lst true xs) := by simp only [getR, h, getP]
  unfold gSetL
  simp only [h1, hx, h2, hj, putR, h, putP]
section
variable {n : Nat} {M : List (List Nat)} {Vs : List (List (Option Nat))} {rs ws : List (Nat × Nat)}
theorem at_op {sn : List See} {k b : Nat} (h : b < k) : atI ((List.range k).map (opD n M sn)) (b : Int) = some (opD n M sn b) := by
  rw [atI_nat', List.getElem?_map, List.getElem?_range h]
  rfl
def pE2 (n : Nat) (rs : List (Nat × Nat)) (Vs : List (List (Option Nat))) (st lots a b c : Option D) : Rm.Env := [some (brD false n rs Vs), st, some (lotD (List.range n)), lots, a, b, c]
theorem last_ok {l0 : List Nat} {ps : List (List Nat)} {sn : List See} : F_last_beat [stD l0 ps sn] = some (.int (ps.length : Nat), []) := by
  show dEnd 0 (M_last_beat [some (stD l0 ps sn)]) = _
  unfold M_last_beat
  rw [seq_rt (ret_of (op1_of (x := .int (ps.length : Nat)) (dPth_of (st_paces (s := 0) rfl) (by unfold noOwn; exact no_lots ps)) ?_))]
  · rfl
  · show some (D.int ((ps.map lotD).length : Nat)) = _
    rw [List.length_map]
theorem popen_ok (B : Bd n M Vs) {l0 : List Nat} {ps : List (List Nat)} {sn : List See} (h : OkS n l0 ps sn) : F_open_lots [brD false n rs Vs, stD l0 ps sn] = some (.lst false ((List.range (ps.length + 1)).map (opD n M sn)), []) := by
  obtain ⟨h1, h8⟩ := B.n8
  have hpn := h.pn
  have s0 : S_open_lots_0 [some (brD false n rs Vs), some (stD l0 ps sn), none, none, none, none, none] = some (.nx (pE2 n rs Vs (some (stD l0 ps sn)) none none none none)) := by
    have e := lenv (ρ := [some (brD false n rs Vs), some (stD l0 ps sn), none, none, none, none, none]) (i := 0) B rfl
    have e2 : evOps [.e (dLenO F_Board___len__ 0 2 (.v 0))] [some (brD false n rs Vs), some (stD l0 ps sn), none, none, none, none, none] = some ([.int (n : Int)], [some (brD false n rs Vs), some (stD l0 ps sn), none, none, none, none, none]) := by
      unfold evOps
      rw [e]
      rfl
    unfold S_open_lots_0
    refine asg_of (d := lotD (List.range n)) (ρ1 := [some (brD false n rs Vs), some (stD l0 ps sn), none, none, none, none, none]) ((dRg_nat (l := false) (n := n) e2 (by omega)).trans ?_) rfl
    rw [rangeD_eq]
    rfl
  have c1 := comp_enc_all (xs := List.range (ps.length + 1)) (enc := iD) (fun _ => lotD (List.range n)) (i := mRange1 (.e (dOp oAdd [.e (dCall F_last_beat [.e (dV 1)] []), .e (dC (.int 1))]))) (vs := [4]) (a := gN 4) (e := dV 2) (ρ := pE2 n rs Vs (some (stD l0 ps sn)) none none none none) (ρ0 := pE2 n rs Vs (some (stD l0 ps sn)) none none none none)
    (rng_of (op_ee (call_e (v_of (i := 1) rfl (no_st l0 ps sn)) last_ok) rfl rfl) (by omega)) (by simp [savOk, pE2]) (by rw [List.length_range]; omega) fun b hb =>
      ⟨[some (brD false n rs Vs), some (stD l0 ps sn), some (lotD (List.range n)), none, some (iD b), none, none], by simp [gN, wipeE, pE2], v_of (i := 2) rfl (no_lot _), by simp [wipeE, pE2]⟩
  have s1 : S_open_lots_1 (pE2 n rs Vs (some (stD l0 ps sn)) none none none none) = some (.nx (pE2 n rs Vs (some (stD l0 ps sn)) (some (.lst true ((List.range (ps.length + 1)).map (opD n M (sn.take 0))))) none none none)) := by
    unfold S_open_lots_1
    refine (asg_of c1 rfl).trans ?_
    rw [show (List.range (ps.length + 1)).map (opD n M (sn.take 0)) = (List.range (ps.length + 1)).map fun _ => lotD (List.range n) from List.map_congr_left fun b _ => by
      show lotD (openV n M [] b) = _
      rw [open_nil]]
    rfl
  obtain ⟨ρ', e, a, b, c, rfl⟩ := forL_inv (a := gTp 3 (gsCons (gN 4) (gsCons (gN 5) (gsCons (gN 6) (gsNil))))) (body := B_open_lots_2) (fun i ρ => ∃ a b c : Option D, ρ = pE2 n rs Vs (some (stD l0 ps sn)) (some (.lst true ((List.range (ps.length + 1)).map (opD n M (sn.take i))))) a b c) (xs := sn.map seeD) (ρ := pE2 n rs Vs (some (stD l0 ps sn)) (some (.lst true ((List.range (ps.length + 1)).map (opD n M (sn.take 0))))) none none none)
    ⟨none, none, none, rfl⟩ fun i x ρ hx ⟨a, b, c, hρ⟩ => by
      subst hρ
      rw [List.getElem?_map] at hx
      obtain ⟨s, hs, rfl⟩ := Option.map_eq_some_iff.mp hx
      obtain ⟨g1, g2⟩ := h.so s (List.mem_of_getElem? hs)
      have et : sn.take (i + 1) = sn.take i ++ [s] := by rw [List.take_add_one, hs]; rfl
      have p4 : dPth (rIxP (rV 3) (qV 4)) (pE2 n rs Vs (some (stD l0 ps sn)) (some (.lst true ((List.range (ps.length + 1)).map (opD n M (sn.take i))))) (some (iD s.1)) (some (lookD s.2.1)) (some (iD s.2.2))) = some (lotD (openV n M (sn.take i) s.1), pE2 n rs Vs (some (stD l0 ps sn)) (some (.lst true ((List.range (ps.length + 1)).map (opD n M (sn.take i))))) (some (iD s.1)) (some (lookD s.2.1)) (some (iD s.2.2))) :=
        dPth_of ((PthAt.v (s := 3) rfl).ix (xs := (List.range (ps.length + 1)).map (opD n M (sn.take i))) (qV_i (s := 4) rfl) rfl (at_op (by omega))) (no_lot _)
      have c5 := call_2 (F := F_in_both) p4 (call_3 (F := F_answering) (v_of (i := 0) rfl no_br) (v_of (i := 5) rfl (no_look _)) (v_of (i := 6) rfl rfl) (answering_ok B g2)) (inboth_ok (by have := filt_len (n := n) (hit M (ask (sn.take i) s.1)); show (openV n M (sn.take i) s.1).length ≤ _; unfold openV; omega))
      have st := asg_of c5 (setL_of (s := 3) (x := 4) (k := s.1) rfl (qV_i (s := 4) rfl) (ixN_nat (by rw [List.length_map, List.length_range]; omega)))
      have e6 : ((List.range (ps.length + 1)).map (opD n M (sn.take i))).set s.1 (lotD (bothV (openV n M (sn.take i) s.1) (answV n M s.2.1 s.2.2))) = (List.range (ps.length + 1)).map (opD n M (sn.take (i + 1))) := by
        refine List.ext_getElem? fun j => ?_
        rw [List.getElem?_set]
        by_cases hj : j < ps.length + 1
        · rw [List.getElem?_map, List.getElem?_map, List.getElem?_range hj]
          by_cases hs1 : s.1 = j
          · subst hs1
            rw [if_pos rfl, if_pos (by rw [List.length_map, List.length_range]; exact hj), et]
            show some (lotD _) = some (lotD (openV n M (sn.take i ++ [s]) s.1))
            rw [open_eq]
          · rw [if_neg hs1, et]
            show some (lotD _) = some (lotD (openV n M (sn.take i ++ [s]) j))
            rw [open_ne hs1]
        · have e1 : ((List.range (ps.length + 1)).map (opD n M (sn.take (i + 1))))[j]? = none := List.getElem?_eq_none (by rw [List.length_map, List.length_range]; omega)
          have e2 : ((List.range (ps.length + 1)).map (opD n M (sn.take i)))[j]? = none := List.getElem?_eq_none (by rw [List.length_map, List.length_range]; omega)
          rw [e1, e2, if_neg (by omega)]
      refine ⟨pE2 n rs Vs (some (stD l0 ps sn)) (some (.lst true ((List.range (ps.length + 1)).map (opD n M (sn.take i))))) (some (iD s.1)) (some (lookD s.2.1)) (some (iD s.2.2)), pE2 n rs Vs (some (stD l0 ps sn)) (some (.lst true ((List.range (ps.length + 1)).map (opD n M (sn.take (i + 1)))))) (some (iD s.1)) (some (lookD s.2.1)) (some (iD s.2.2)), by simp [gTp, gsCons, gsNil, gN, seeD, pE2], .inl ?_, _, _, _, rfl⟩
      unfold B_open_lots_2
      rw [← e6]
      exact (seq_nx (b := dNx) st).trans rfl
  rw [List.length_map, List.take_length] at e
  have s3 : S_open_lots_3 (pE2 n rs Vs (some (stD l0 ps sn)) (some (.lst true ((List.range (ps.length + 1)).map (opD n M (sn.take 0))))) none none none) = some (.nx (pE2 n rs Vs (some (stD l0 ps sn)) (some (.lst true ((List.range (ps.length + 1)).map (opD n M sn)))) a b c)) := by
    unfold S_open_lots_3
    exact (for_of (seq_sees (dPth_of (st_sees (s := 1) rfl) (by unfold noOwn; exact no_sees sn)))).trans e
  have s4 : S_open_lots_4 (pE2 n rs Vs (some (stD l0 ps sn)) (some (.lst true ((List.range (ps.length + 1)).map (opD n M sn)))) a b c) = some (.rt (.lst false ((List.range (ps.length + 1)).map (opD n M sn))) (pE2 n rs Vs (some (stD l0 ps sn)) (some (.lst false ((List.range (ps.length + 1)).map (opD n M sn)))) a b c)) := by
    unfold S_open_lots_4
    exact ret_of (vf_of (i := 3) rfl (by simp [noOwn]) (by unfold frz; rw [frzs_of (no_ops _)]))
  show dEnd 0 (M_open_lots [some (brD false n rs Vs), some (stD l0 ps sn), none, none, none, none, none]) = _
  unfold M_open_lots
  rw [seq_nx s0, seq_nx s1, seq_nx s3, seq_rt (b := dNx) s4]
  rfl
/-! ### the lots back -/
def bkH (n : Nat) (M : List (List Nat)) (ps : List (List Nat)) (sn : List See) : Nat → List Nat
  | 0 => openV n M sn ps.length
  | i + 1 => bothV (intoV n M (ps.getD (ps.length - 1 - i) []) (bkH n M ps sn i)) (openV n M sn (ps.length - 1 - i))
def bkD (n : Nat) (M : List (List Nat)) (ps : List (List Nat)) (sn : List See) (i : Nat) : D := lotD (bkH n M ps sn i)
theorem into_lt {ps ls : List Nat} : ∀ x, x ∈ intoV n M ps ls → x < n := fun x hx => List.mem_range.mp (List.mem_filter.mp hx).1
theorem bk_lt {ps : List (List Nat)} {sn : List See} : ∀ {i x : Nat}, x ∈ bkH n M ps sn i → x < n
  | 0, x, h => open_lt x h
  | i + 1, x, h => into_lt x (List.mem_filter.mp h).1
theorem bk_len {ps : List (List Nat)} {sn : List See} : ∀ {i : Nat}, (bkH n M ps sn i).length ≤ n
  | 0 => filt_len _
  | i + 1 => by
    have h1 := (List.filter_sublist (l := intoV n M (ps.getD (ps.length - 1 - i) []) (bkH n M ps sn i)) (p := fun x => (openV n M sn (ps.length - 1 - i)).contains x)).length_le
    have h2 : (intoV n M (ps.getD (ps.length - 1 - i) []) (bkH n M ps sn i)).length ≤ n := filt_len _
    show (bothV _ _).length ≤ n
    unfold bothV
    omega
theorem no_bks {ps : List (List Nat)} {sn : List See} (xs : List Nat) : noOwns (xs.map (bkD n M ps sn)) = true := noOwns_of fun x hx => by
  obtain ⟨b, _, rfl⟩ := List.mem_map.mp hx
  exact no_lot _
theorem rev_succ (i : Nat) : (List.range (i + 1)).reverse = i :: (List.range i).reverse := by rw [List.range_succ, List.reverse_append]; rfl
theorem at_ps {ps : List (List Nat)} {j : Nat} (h : j < ps.length) : atI (ps.map lotD) (j : Int) = some (lotD (ps.getD j [])) := by
  rw [atI_nat', List.getElem?_map, List.getD_eq_getElem?_getD, List.getElem?_eq_getElem h]
  rfl
theorem ps_ok {l0 : List Nat} {ps : List (List Nat)} {sn : List See} (h : OkS n l0 ps sn) {j : Nat} (hj : j < ps.length) : (ps.getD j []).length = n ∧ ∀ x, x ∈ ps.getD j [] → x ≤ 7 := by
  rw [List.getD_eq_getElem?_getD, List.getElem?_eq_getElem hj]
  exact h.pl _ (List.getElem_mem hj)
end
end K11
set_option Elab.async false
set_option linter.all false
set_option maxRecDepth 100000
set_option maxHeartbeats 4000000
namespace K11
open PySem L2 Rm
section
variable {n : Nat} {M : List (List Nat)} {Vs : List (List (Option Nat))} {rs ws : List (Nat × Nat)}
end
/-! ### the same, told twice -/
theorem call_2p {F : List D → Option (D × List D)} {m1 m2 : Rm.M} {ρ ρ1 ρ2 : Rm.Env} {d1 d2 x p : D} (h1 : m1 ρ = some (d1, ρ1)) (h2 : m2 ρ1 = some (d2, ρ2)) (hF : F [d1, d2] = some (x, [p])) : dCall F [.e m1, .e m2] [] ρ = some (x, ρ2) := by
  unfold dCall
  simp only [evOps, h1, h2, dCallEnd, lendD, List.append_nil, hF, backE]
theorem same_int (f x : Nat) : F__law_same (f + 1) [iD x, iD x] = some (.bl true, [iD x]) := by
  show dEnd 1 (M__law_same (F__law_same f) [some (iD x), some (iD x), none]) = _
  unfold M__law_same
  rw [seq_nx (ρ1 := [some (iD x), some (iD x), none]) rfl, seq_nx (ρ1 := [some (iD x), some (iD x), none]) rfl, seq_nx (ρ1 := [some (iD x), some (iD x), none]) rfl]
  have e : dOp oEq [.v 0, .v 1] [some (iD x), some (iD x), none] = some (.bl true, [some (iD x), some (iD x), none]) := (eqn_vv (i := 0) (j := 1) rfl rfl).trans (by rw [decide_eq_true rfl])
  rw [seq_rt (ret_of (((and_t (ρ1 := [some (iD x), some (iD x), none]) rfl)).trans e))]
  rfl
theorem same_row {f : Nat} {c1 c2 : D} {ys : List D} (h1 : rowOf c1 = some ys) (h2 : rowOf c2 = some ys) (hk : (∃ o o', c1 = .lst o ys ∧ c2 = .lst o' ys) ∨ (c1 = .tup ys ∧ c2 = .tup ys)) (hn : ∀ y, y ∈ ys → noOwn y = true) (hz : ys.length ≤ 1000) (hR : ∀ y, y ∈ ys → F__law_same f [y, y] = some (.bl true, [y])) :
    F__law_same (f + 1) [c1, c2] = some (.bl true, [c1]) := by
  show dEnd 1 (M__law_same (F__law_same f) [some c1, some c2, none]) = _
  unfold M__law_same
  have t1 : dIfS (dT (dOp (oIsN false) [.v 1, .e (dC (.non))])) (dSeq (dRet (dOp (oIsN false) [.v 0, .e (dC (.non))])) (dNx)) (dNx) [some c1, some c2, none] = some (.nx [some c1, some c2, none]) := by
    rcases hk with ⟨o, o', rfl, rfl⟩ | ⟨rfl, rfl⟩ <;> rfl
  have t2 : dT (dOp (oIsi2 isL isT) [.v 1]) [some c1, some c2, none] = some (true, [some c1, some c2, none]) := by
    rcases hk with ⟨o, o', rfl, rfl⟩ | ⟨rfl, rfl⟩ <;> rfl
  have t3 : dIfS (dOrT (dT (dOp oNe [.e (dOp (oIsi isL) [.v 0]), .e (dOp (oIsi isL) [.v 1])])) (dT (dOp oNe [.e (dOp (oIsi isT) [.v 0]), .e (dOp (oIsi isT) [.v 1])]))) (dSeq (dRet (dC (.bl false))) (dNx)) (dNx) [some c1, some c2, none] = some (.nx [some c1, some c2, none]) := by
    rcases hk with ⟨o, o', rfl, rfl⟩ | ⟨rfl, rfl⟩ <;> rfl
  have l1 := len_of (s := 0) (ρ := [some c1, some c2, none]) rfl h1
  have l2 := len_of (s := 1) (ρ := [some c1, some c2, none]) rfl h2
  have q : dOp oEq [.e (dOp oLen [.v 0]), .e (dOp oLen [.v 1])] [some c1, some c2, none] = some (.bl true, [some c1, some c2, none]) := by
    refine op_ee l1 l2 ?_
    show some (D.bl (decide ((ys.length : Int) = (ys.length : Int)))) = _
    rw [decide_eq_true rfl]
  have c := comp_enc_all (xs := List.range ys.length) (enc := iD) (fun _ => D.bl true) (i := mRange1 (.e (dOp oLen [.v 1]))) (vs := [2]) (a := gN 2) (e := dCall (F__law_same f) [.e (dPth (rIxP (rV 0) (qV 2))), .e (dPth (rIxP (rV 1) (qV 2)))] []) (ρ := [some c1, some c2, none]) (ρ0 := [some c1, some c2, none])
    (rng_of l2 (by omega)) (by simp [savOk]) (by rw [List.length_range]; omega) fun j hj => by
      have hj : j < ys.length := List.mem_range.mp hj
      have hm : ys[j] ∈ ys := List.getElem_mem hj
      have ha : atI ys (j : Int) = some ys[j] := by rw [atI_nat', List.getElem?_eq_getElem hj]
      exact ⟨[some c1, some c2, some (iD j)], by simp [gN, wipeE], call_2p (dPth_of ((PthAt.v (s := 0) rfl).ix (qV_i (s := 2) rfl) h1 ha) (hn _ hm)) (dPth_of ((PthAt.v (s := 1) rfl).ix (qV_i (s := 2) rfl) h2 ha) (hn _ hm)) (hR _ hm), by simp [wipeE]⟩
  have a := (all_of (P := fun _ => true) c).trans (by rw [all_true])
  rw [seq_nx t1]
  rw [seq_rt (d := .bl true) (ρ1 := [some c1, some c2, none]) ?_]
  · rfl
  · rw [if_t t2, seq_nx t3]
    exact seq_rt (ret_of ((and_t q).trans a))
theorem same_lots {o o' : Bool} {xs : List (List Nat)} (hz : xs.length ≤ 1000) (hl : ∀ ls, ls ∈ xs → ls.length ≤ 1000) (f : Nat) : F__law_same (f + 3) [.lst o (xs.map lotD), .lst o' (xs.map lotD)] = some (.bl true, [.lst o (xs.map lotD)]) := by
  refine same_row rfl rfl (.inl ⟨o, o', rfl, rfl⟩) (fun y hy => ?_) (by rw [List.length_map]; exact hz) fun y hy => ?_
  · obtain ⟨ls, _, rfl⟩ := List.mem_map.mp hy
    exact no_lot ls
  · obtain ⟨ls, hls, rfl⟩ := List.mem_map.mp hy
    refine same_row (ys := ls.map iD) rfl rfl (.inr ⟨rfl, rfl⟩) (fun y hy => ?_) (by rw [List.length_map]; exact hl ls hls) fun y hy => ?_
    · obtain ⟨i, _, rfl⟩ := List.mem_map.mp hy
      rfl
    · obtain ⟨i, _, rfl⟩ := List.mem_map.mp hy
      exact same_int f i
end K11
set_option Elab.async false
set_option linter.all false
set_option maxRecDepth 100000
set_option maxHeartbeats 4000000
namespace K11
open PySem L2 Rm
theorem setq_of {s k : Nat} {j : Int} {q : Rm.Env → Option D} {xs : List D} {d : D} {ρ : Rm.Env} (h : ρ[s]? = some (some (.lst true xs))) (hx : q ρ = some (.int j)) (hj : ixN xs.length j = some k) : gSetL (rV s) q d ρ = some (ρ.set s (some (.lst true (xs.set k d)))) := by
  have h1 : rV s ρ = some (s, []) := by simp only [rV, h]
  have h2 : getR ρ s [] = some (.lst true xs) := by simp only [getR, h, getP]
  unfold gSetL
  simp only [h1, hx, h2, hj, putR, h, putP]
theorem box_ok (ns : List Int) : ∃ b, F__law_box [.scr ns] = some (b, []) ∧ Bx b := by
  have hs : HT.sIx (ns.map D.int).length (ns.map D.int).length (some 63) = min 63 ns.length := by
    have := HT.sIx_nat (ns.map D.int).length (ns.map D.int).length 63
    rw [List.length_map] at this ⊢
    exact this
  have c0 : cutD (ns.map D.int) none (some 63) = (ns.take (min 63 ns.length)).map D.int := by
    unfold cutD
    rw [hs, show HT.sIx (ns.map D.int).length 0 none = 0 from rfl, Nat.sub_zero, List.drop_zero, List.map_take]
  have c1 : dOp (oCut false true) [.v 0, .e (dC (.int 63))] [some (.scr ns)] = some (.lst true ((ns.take (min 63 ns.length)).map D.int), [some (.scr ns)]) := by
    refine op_ve (i := 0) (d := .scr ns) (d2 := .int 63) rfl rfl rfl ?_
    show some (D.lst true (cutD (ns.map D.int) none (some 63))) = _
    rw [c0]
  have c2 : dOp (orF oList oListT) [.e (dOp (oCut false true) [.v 0, .e (dC (.int 63))])] [some (.scr ns)] = some (.lst true ((ns.take (min 63 ns.length)).map D.int), [some (.scr ns)]) := by
    refine op1_of c1 (orF_s ?_)
    unfold oList
    simp only [rowOf, no_ints, if_true]
  refine ⟨bx (ns.take (min 63 ns.length)) 0 9121001 0, ?_, _, _, _, _, rfl, ?_, Int.le_refl _, by decide⟩
  · show dEnd 0 (M__law_box [some (.scr ns)]) = _
    unfold M__law_box
    have c3 : ∀ d ρ, dC d ρ = some (d, ρ) := fun d ρ => rfl
    have e : dDct [(.inr ("cells" : PySem.Str), dOp (orF oList oListT) [.e (dOp (oCut false true) [.v 0, .e (dC (.int 63))])]), (.inr ("rest" : PySem.Str), dC (.int 0)), (.inr ("seed" : PySem.Str), dC (.int 9121001)), (.inr ("turn" : PySem.Str), dC (.int 0))] [some (.scr ns)] = some (bx (ns.take (min 63 ns.length)) 0 9121001 0, [some (.scr ns)]) := by
      unfold dDct
      simp only [List.map_cons, List.map_nil, evOps, c2, c3]
      rfl
    rw [seq_rt (ret_of e)]
    rfl
  · rw [List.length_take]; omega
end K11
set_option Elab.async false
set_option linter.all false
set_option maxRecDepth 100000
set_option maxHeartbeats 4000000
namespace K11
open PySem L2 Rm
/-! ### stepped: sorted({to for place in lot for to in within}) -/
theorem sc_in_ok {ρ0 : Rm.Env} {ls : List Nat} {x0 x1 x2 x3 : Option D} : ∀ {acc : List D}, compL (gN 4) dYes (dV 4) [4] (ls.map iD) acc [x0, x1, x2, x3, none] = some (acc ++ ls.map iD, [x0, x1, x2, x3, none]) := fun {acc} => by
  obtain ⟨acc', ρ', e, rfl, rfl⟩ := compL_mem (a := gN 4) (c := dYes) (e := dV 4) (vs := [4]) (fun pre acc' ρ => acc' = acc ++ pre ∧ ρ = [x0, x1, x2, x3, none]) (xs := ls.map iD) (pre := []) (acc := acc) (ρ := [x0, x1, x2, x3, none]) ⟨by simp, rfl⟩ fun p1 x p2 acc' ρ hx ⟨h1, h2⟩ => by
    subst h1 h2
    obtain ⟨i, _, rfl⟩ := List.mem_map.mp (show x ∈ ls.map iD by rw [show ls.map iD = p1 ++ x :: p2 from hx]; simp)
    exact ⟨[x0, x1, x2, x3, some (iD i)], true, [x0, x1, x2, x3, some (iD i)], by simp [gN], rfl, fun h => (by cases h), fun _ => ⟨iD i, [x0, x1, x2, x3, some (iD i)], v_of rfl rfl, by simp, by simp [wipeE]⟩⟩
  rw [e]; rfl
section
variable {n : Nat} {M : List (List Nat)} {Vs : List (List (Option Nat))} {rs ws : List (Nat × Nat)}
theorem wth_len {V : List (Option Nat)} {m : Nat} : (wthV V m).length ≤ V.length := by
  have := (List.filter_sublist (l := List.range V.length) (p := fun j => match vl V j with | some k => decide (k ≤ m) | none => false)).length_le
  rw [List.length_range] at this
  exact this
/-- all that is reached, place by place -/
def stepsV (Vs : List (List (Option Nat))) (ps ls : List Nat) : List Nat := (ls.map fun i => wthV (Vs.getD i []) (pg ps i)).flatten
theorem sc_out_ok (B : Bd n M Vs) {ps l0 : List Nat} (hn : ps.length = n) : ∀ {ls : List Nat} {acc : List D}, (∀ x, x ∈ ls → x < n) → acc.length + 8 * ls.length ≤ 10000 →
    compL2 (gN 3) dYes (mSeq (dMethV F_Board_within 0 9 0 [.e (dV 3), .e (dPth (rIxP (rV 1) (qV 3)))] [])) (gN 4) dYes (dV 4) [3, 4] [4] (ls.map iD) acc [some (brD false n rs Vs), some (lotD ps), some (lotD l0), none, none] = some (acc ++ (stepsV Vs ps ls).map iD, [some (brD false n rs Vs), some (lotD ps), some (lotD l0), none, none])
  | [], acc, _, _ => by simp [compL2, stepsV]
  | i :: ls, acc, hl, hz => by
    have h8 := B.n8
    have hi := hl i List.mem_cons_self
    have hw : (wthV (Vs.getD i []) (pg ps i)).length ≤ 8 := by
      have := wth_len (V := Vs.getD i []) (m := pg ps i)
      rw [B.row i hi] at this
      omega
    rw [List.length_cons] at hz
    have ih := sc_out_ok B (l0 := l0) hn (ls := ls) (acc := acc ++ (wthV (Vs.getD i []) (pg ps i)).map iD) (fun x hx => hl x (List.mem_cons_of_mem _ hx)) (by rw [List.length_append, List.length_map]; omega)
    have e1 : mSeq (dMethV F_Board_within 0 9 0 [.e (dV 3), .e (dPth (rIxP (rV 1) (qV 3)))] []) [some (brD false n rs Vs), some (lotD ps), some (lotD l0), some (iD i), none] = some ((wthV (Vs.getD i []) (pg ps i)).map iD, [some (brD false n rs Vs), some (lotD ps), some (lotD l0), some (iD i), none]) := by
      unfold mSeq
      rw [meth_2 (i := 0) rfl rfl (v_of (i := 3) rfl rfl) (pace_at (s := 1) (x := 3) rfl rfl (by omega)) (within_ok B hi)]
      unfold lotD
      simp only [shr_of (no_iD _)]
    have hz2 : acc.length + ((wthV (Vs.getD i []) (pg ps i)).map iD).length ≤ 100000 := by rw [List.length_map]; omega
    rw [List.map_cons]
    unfold compL2
    rw [show gN 3 (iD i) [some (brD false n rs Vs), some (lotD ps), some (lotD l0), none, none] = some [some (brD false n rs Vs), some (lotD ps), some (lotD l0), some (iD i), none] from rfl]
    simp only [dYes, e1, hz2, if_true]
    rw [show wipeE [some (brD false n rs Vs), some (lotD ps), some (lotD l0), some (iD i), none] [4] = [some (brD false n rs Vs), some (lotD ps), some (lotD l0), some (iD i), none] from rfl]
    rw [sc_in_ok (ρ0 := [])]
    simp only []
    rw [show wipeE [some (brD false n rs Vs), some (lotD ps), some (lotD l0), some (iD i), none] [3, 4] = [some (brD false n rs Vs), some (lotD ps), some (lotD l0), none, none] from rfl]
    refine Eq.trans ih ?_
    unfold stepsV
    rw [List.map_cons, List.flatten_cons, List.map_append, List.append_assoc]
theorem steps_mem (B : Bd n M Vs) {ps ls : List Nat} (hn : ps.length = n) (hp : ∀ p, p ∈ ps → p ≤ 7) (hl : ∀ x, x ∈ ls → x < n) (t : Nat) : t ∈ stepsV Vs ps ls ↔ t ∈ reachV n M ps ls := by
  have h7 : ∀ i, i < n → pg ps i ≤ 7 := fun i hi => by
    unfold pg
    rw [List.getD_eq_getElem?_getD, List.getElem?_eq_getElem (by omega)]
    exact hp _ (List.getElem_mem _)
  unfold stepsV reachV
  rw [List.mem_flatten, List.mem_filter, List.mem_range]
  constructor
  · rintro ⟨l, hl1, ht⟩
    obtain ⟨i, hi, rfl⟩ := List.mem_map.mp hl1
    have hin := hl i hi
    obtain ⟨g1, g2⟩ := List.mem_filter.mp ht
    have htn : t < n := by rw [← B.row i hin]; exact List.mem_range.mp g1
    refine ⟨htn, List.any_eq_true.mpr ⟨i, hi, ?_⟩⟩
    rw [B.eq i t hin htn] at g2
    split at g2
    · rename_i k hk
      split at hk
      · cases hk; exact g2
      · cases hk
    · cases g2
  · rintro ⟨htn, h⟩
    obtain ⟨i, hi, hc⟩ := List.any_eq_true.mp h
    have hc := of_decide_eq_true hc
    have hin := hl i hi
    refine ⟨_, List.mem_map.mpr ⟨i, hi, rfl⟩, List.mem_filter.mpr ⟨?_, ?_⟩⟩
    · rw [B.row i hin]; exact List.mem_range.mpr htn
    · have := h7 i hin
      rw [B.eq i t hin htn, if_pos (by omega)]
      exact decide_eq_true hc
theorem steps_len (B : Bd n M Vs) {ps : List Nat} : ∀ {ls : List Nat}, (∀ x, x ∈ ls → x < n) → (stepsV Vs ps ls).length ≤ 8 * ls.length
  | [], _ => Nat.le_refl _
  | i :: ls, hl => by
    have h8 := B.n8
    have hi := hl i List.mem_cons_self
    have ih := steps_len B (ps := ps) (ls := ls) fun x hx => hl x (List.mem_cons_of_mem _ hx)
    have hw : (wthV (Vs.getD i []) (pg ps i)).length ≤ 8 := by
      have := wth_len (V := Vs.getD i []) (m := pg ps i)
      rw [B.row i hi] at this
      omega
    unfold stepsV at ih ⊢
    rw [List.map_cons, List.flatten_cons, List.length_append, List.length_cons]
    omega
theorem stepped_ok (B : Bd n M Vs) {ps ls : List Nat} (hn : ps.length = n) (hp : ∀ p, p ∈ ps → p ≤ 7) (hl : ∀ x, x ∈ ls → x < n) (hz : ls.length ≤ 8) : F_stepped [brD false n rs Vs, lotD ps, lotD ls] = some (lotD (reachV n M ps ls), []) := by
  have h8 := B.n8
  have c1 : dComp2 (mSeq (dV 2)) [3, 4] (gN 3) (dYes) (mSeq (dMethV F_Board_within 0 9 0 [.e (dV 3), .e (dPth (rIxP (rV 1) (qV 3)))] [])) [4] (gN 4) (dYes) (dV 4) [some (brD false n rs Vs), some (lotD ps), some (lotD ls), none, none] = some (.lst true ((stepsV Vs ps ls).map iD), [some (brD false n rs Vs), some (lotD ps), some (lotD ls), none, none]) := by
    have e1 : mSeq (dV 2) [some (brD false n rs Vs), some (lotD ps), some (lotD ls), none, none] = some (ls.map iD, [some (brD false n rs Vs), some (lotD ps), some (lotD ls), none, none]) := seq_lot rfl
    have e2 := sc_out_ok (rs := rs) B (l0 := ls) hn (ls := ls) (acc := []) hl (by simp; omega)
    unfold dComp2
    rw [e1]
    simp only [show savOk [some (brD false n rs Vs), some (lotD ps), some (lotD ls), none, none] [3, 4] = true by simp [savOk], if_true]
    rw [show wipeE [some (brD false n rs Vs), some (lotD ps), some (lotD ls), none, none] [3, 4] = [some (brD false n rs Vs), some (lotD ps), some (lotD ls), none, none] from rfl, e2]
    rfl
  have es : sortU ((stepsV Vs ps ls).map Int.ofNat) = (reachV n M ps ls).map Int.ofNat := by
    refine uniq_asc sortU_asc ?_ fun k => ?_
    · rw [List.pairwise_map]
      refine (List.pairwise_lt_range.sublist List.filter_sublist).imp fun {a b} h => ?_
      show (a : Int) < (b : Int)
      omega
    · rw [sortU_mem]
      constructor
      · intro h
        obtain ⟨t, ht, rfl⟩ := List.mem_map.mp h
        exact List.mem_map.mpr ⟨t, (steps_mem B hn hp hl t).mp ht, rfl⟩
      · intro h
        obtain ⟨t, ht, rfl⟩ := List.mem_map.mp h
        exact List.mem_map.mpr ⟨t, (steps_mem B hn hp hl t).mpr ht, rfl⟩
  have c2 : dSc2 (mSeq (dV 2)) [3, 4] (gN 3) (dYes) (mSeq (dMethV F_Board_within 0 9 0 [.e (dV 3), .e (dPth (rIxP (rV 1) (qV 3)))] [])) [4] (gN 4) (dYes) (dV 4) [some (brD false n rs Vs), some (lotD ps), some (lotD ls), none, none] = some (.lst true ((reachV n M ps ls).map iD), [some (brD false n rs Vs), some (lotD ps), some (lotD ls), none, none]) := by
    have hs := steps_len B (ps := ps) hl
    have hr : (reachV n M ps ls).length ≤ n := filt_len _
    have hc : ((stepsV Vs ps ls).map Int.ofNat).length ≤ 1000 ∧ (sortU ((stepsV Vs ps ls).map Int.ofNat)).length ≤ 60 := by
      rw [es, List.length_map, List.length_map]
      omega
    unfold dSc2
    rw [c1]
    simp only [intsOf_iD]
    rw [if_pos hc, es, List.map_map]
    rfl
  show dEnd 0 (M_stepped [some (brD false n rs Vs), some (lotD ps), some (lotD ls), none, none]) = _
  unfold M_stepped
  rw [seq_rt (ret_of (ftup_of c2))]
  rfl
/-! ### the lots forth -/
def fwH (n : Nat) (M : List (List Nat)) (l0 : List Nat) (ps : List (List Nat)) (sn : List See) : Nat → List Nat
  | 0 => bothV l0 (openV n M sn 0)
  | i + 1 => bothV (reachV n M (ps.getD i []) (fwH n M l0 ps sn i)) (openV n M sn (i + 1))
def fwD (n : Nat) (M : List (List Nat)) (l0 : List Nat) (ps : List (List Nat)) (sn : List See) (i : Nat) : D := lotD (fwH n M l0 ps sn i)
theorem fw_lt {l0 : List Nat} {ps : List (List Nat)} {sn : List See} (h0 : Lot n l0) : ∀ {i x : Nat}, x ∈ fwH n M l0 ps sn i → x < n
  | 0, x, h => h0.lt x (List.mem_filter.mp h).1
  | i + 1, x, h => reach_lt x (List.mem_filter.mp h).1
theorem both_le {as bs : List Nat} : (bothV as bs).length ≤ as.length := (List.filter_sublist (l := as)).length_le
theorem fw_len {l0 : List Nat} {ps : List (List Nat)} {sn : List See} (h0 : Lot n l0) : ∀ {i : Nat}, (fwH n M l0 ps sn i).length ≤ n
  | 0 => Nat.le_trans both_le h0.len
  | i + 1 => Nat.le_trans both_le (filt_len _)
theorem no_fws {l0 : List Nat} {ps : List (List Nat)} {sn : List See} (xs : List Nat) : noOwns (xs.map (fwD n M l0 ps sn)) = true := noOwns_of fun x hx => by
  obtain ⟨b, _, rfl⟩ := List.mem_map.mp hx
  exact no_lot _
theorem st_lot {s : Nat} {ρ : Rm.Env} {l0 : List Nat} {ps : List (List Nat)} {sn : List See} (h : ρ[s]? = some (some (stD l0 ps sn))) : PthAt (rIxP (rV s) (qC (.int 0))) ρ (lotD l0) := (PthAt.v h).ix (xs := [lotD l0, .tup (ps.map lotD), .tup (sn.map seeD)]) (k := 0) rfl rfl (at_0 _ _)
theorem lforth_ok (B : Bd n M Vs) {l0 : List Nat} {ps : List (List Nat)} {sn : List See} (h : OkS n l0 ps sn) : F__law_forth [mD false M, stD l0 ps sn] = some (.lst false ((List.range (ps.length + 1)).map (fwD n M l0 ps sn)), []) := by
  obtain ⟨h1, h8⟩ := B.n8
  have hpn := h.pn
  have hl0 := h.lot.len
  have s0 : S__law_forth_0 [some (mD false M), some (stD l0 ps sn), none, none, none] = some (.nx [some (mD false M), some (stD l0 ps sn), some (.lst false ((List.range (ps.length + 1)).map (opD n M sn))), none, none]) := by
    unfold S__law_forth_0
    exact asg_of (call_2 (v_of (i := 0) rfl (no_m M)) (v_of (i := 1) rfl (no_st l0 ps sn)) (lopen_ok B h)) rfl
  have s1 : S__law_forth_1 [some (mD false M), some (stD l0 ps sn), some (.lst false ((List.range (ps.length + 1)).map (opD n M sn))), none, none] = some (.nx [some (mD false M), some (stD l0 ps sn), some (.lst false ((List.range (ps.length + 1)).map (opD n M sn))), some (.lst true ((List.range (0 + 1)).map (fwD n M l0 ps sn))), none]) := by
    unfold S__law_forth_1
    have m1 : dPth (rIxP (rV 2) (qC (.int 0))) [some (mD false M), some (stD l0 ps sn), some (.lst false ((List.range (ps.length + 1)).map (opD n M sn))), none, none] = some (lotD (openV n M sn 0), [some (mD false M), some (stD l0 ps sn), some (.lst false ((List.range (ps.length + 1)).map (opD n M sn))), none, none]) :=
      dPth_of ((PthAt.v (s := 2) rfl).ix (xs := (List.range (ps.length + 1)).map (opD n M sn)) (k := ((0 : Nat) : Int)) rfl rfl (at_op (by omega))) (no_lot _)
    exact asg_of (lst1_of (call_2 (F := F__law_both) (dPth_of (st_lot (s := 1) rfl) (no_lot _)) m1 (both_ok (by omega)))) rfl
  obtain ⟨ρ', e, v4, rfl⟩ := forL_inv (a := gN 4) (body := B__law_forth_2) (fun i ρ => ∃ v4 : Option D, ρ = [some (mD false M), some (stD l0 ps sn), some (.lst false ((List.range (ps.length + 1)).map (opD n M sn))), some (.lst true ((List.range (i + 1)).map (fwD n M l0 ps sn))), v4]) (xs := (List.range ps.length).map iD) (ρ := [some (mD false M), some (stD l0 ps sn), some (.lst false ((List.range (ps.length + 1)).map (opD n M sn))), some (.lst true ((List.range (0 + 1)).map (fwD n M l0 ps sn))), none])
    ⟨none, rfl⟩ fun i x ρ hx ⟨v4, hρ⟩ => by
      subst hρ
      have hi : i < ps.length := by
        have := (List.getElem?_eq_some_iff.mp hx).1
        rwa [List.length_map, List.length_range] at this
      have hxe : x = iD i := by
        rw [List.getElem?_map, List.getElem?_range hi] at hx
        exact (Option.some.inj hx).symm
      subst hxe
      obtain ⟨g1, g2⟩ := ps_ok h hi
      have m1 : dPth (rIxP (rIxP (rV 1) (qC (.int 1))) (qV 4)) [some (mD false M), some (stD l0 ps sn), some (.lst false ((List.range (ps.length + 1)).map (opD n M sn))), some (.lst true ((List.range (i + 1)).map (fwD n M l0 ps sn))), some (iD i)] = some (lotD (ps.getD i []), [some (mD false M), some (stD l0 ps sn), some (.lst false ((List.range (ps.length + 1)).map (opD n M sn))), some (.lst true ((List.range (i + 1)).map (fwD n M l0 ps sn))), some (iD i)]) :=
        dPth_of ((st_paces (s := 1) rfl).ix (xs := ps.map lotD) (qV_i (s := 4) rfl) rfl (at_ps hi)) (no_lot _)
      have m2 : dPth (rIxP (rV 3) (qNeg (qC (.int 1)))) [some (mD false M), some (stD l0 ps sn), some (.lst false ((List.range (ps.length + 1)).map (opD n M sn))), some (.lst true ((List.range (i + 1)).map (fwD n M l0 ps sn))), some (iD i)] = some (lotD (fwH n M l0 ps sn i), [some (mD false M), some (stD l0 ps sn), some (.lst false ((List.range (ps.length + 1)).map (opD n M sn))), some (.lst true ((List.range (i + 1)).map (fwD n M l0 ps sn))), some (iD i)]) :=
        dPth_of ((PthAt.v (s := 3) rfl).ix (xs := (List.range (i + 1)).map (fwD n M l0 ps sn)) (k := -1) rfl rfl (by rw [List.range_succ, List.map_append]; exact at_m1 _ _)) (no_lot _)
      have m3 : dPth (rIxP (rV 2) (qOp (oII hAdd) (qV 4) (qC (.int 1)))) [some (mD false M), some (stD l0 ps sn), some (.lst false ((List.range (ps.length + 1)).map (opD n M sn))), some (.lst true ((List.range (i + 1)).map (fwD n M l0 ps sn))), some (iD i)] = some (lotD (openV n M sn (i + 1)), [some (mD false M), some (stD l0 ps sn), some (.lst false ((List.range (ps.length + 1)).map (opD n M sn))), some (.lst true ((List.range (i + 1)).map (fwD n M l0 ps sn))), some (iD i)]) :=
        dPth_of ((PthAt.v (s := 2) rfl).ix (xs := (List.range (ps.length + 1)).map (opD n M sn)) (k := ((i + 1 : Nat) : Int)) rfl rfl (at_op (by omega))) (no_lot _)
      have hil : (reachV n M (ps.getD i []) (fwH n M l0 ps sn i)).length ≤ n := filt_len _
      have c5 := call_2 (F := F__law_both) (call_3 (F := F__law_reached) (v_of (i := 0) rfl (no_m M)) m1 m2 (reached_ok B.sq h8 g1 (fun x hx => fw_lt h.lot hx) (by have := fw_len (n := n) (M := M) (ps := ps) (sn := sn) h.lot (i := i); omega))) m3 (both_ok (by omega))
      have ap := app_of (i := 3) (xs := (List.range (i + 1)).map (fwD n M l0 ps sn)) rfl c5 rfl (by rw [List.length_map, List.length_range]; omega)
      refine ⟨[some (mD false M), some (stD l0 ps sn), some (.lst false ((List.range (ps.length + 1)).map (opD n M sn))), some (.lst true ((List.range (i + 1)).map (fwD n M l0 ps sn))), some (iD i)], [some (mD false M), some (stD l0 ps sn), some (.lst false ((List.range (ps.length + 1)).map (opD n M sn))), some (.lst true ((List.range (i + 1 + 1)).map (fwD n M l0 ps sn))), some (iD i)], rfl, .inl ?_, _, rfl⟩
      unfold B__law_forth_2
      refine (seq_nx (b := dNx) ap).trans ?_
      rw [List.range_succ (n := i + 1), List.map_append]
      rfl
  rw [List.length_map, List.length_range] at e
  have s3 : S__law_forth_3 [some (mD false M), some (stD l0 ps sn), some (.lst false ((List.range (ps.length + 1)).map (opD n M sn))), some (.lst true ((List.range (0 + 1)).map (fwD n M l0 ps sn))), none] = some (.nx [some (mD false M), some (stD l0 ps sn), some (.lst false ((List.range (ps.length + 1)).map (opD n M sn))), some (.lst true ((List.range (ps.length + 1)).map (fwD n M l0 ps sn))), v4]) := by
    unfold S__law_forth_3
    refine (for_of (rng_of (n := ps.length) (ρ1 := [some (mD false M), some (stD l0 ps sn), some (.lst false ((List.range (ps.length + 1)).map (opD n M sn))), some (.lst true ((List.range (0 + 1)).map (fwD n M l0 ps sn))), none]) ?_ (by omega))).trans e
    refine op1_of (x := .int (ps.length : Nat)) (dPth_of (st_paces (s := 1) rfl) (by unfold noOwn; exact no_lots ps)) ?_
    show some (D.int ((ps.map lotD).length : Nat)) = _
    rw [List.length_map]
  have s4 : S__law_forth_4 [some (mD false M), some (stD l0 ps sn), some (.lst false ((List.range (ps.length + 1)).map (opD n M sn))), some (.lst true ((List.range (ps.length + 1)).map (fwD n M l0 ps sn))), v4] = some (.rt (.lst false ((List.range (ps.length + 1)).map (fwD n M l0 ps sn))) [some (mD false M), some (stD l0 ps sn), some (.lst false ((List.range (ps.length + 1)).map (opD n M sn))), some (.lst false ((List.range (ps.length + 1)).map (fwD n M l0 ps sn))), v4]) := by
    unfold S__law_forth_4
    exact ret_of (vf_of (i := 3) rfl (by simp [noOwn]) (by unfold frz; rw [frzs_of (no_fws _)]))
  show dEnd 0 (M__law_forth [some (mD false M), some (stD l0 ps sn), none, none, none]) = _
  unfold M__law_forth
  rw [seq_nx s0, seq_nx s1, seq_nx s3, seq_rt (b := dNx) s4]
  rfl
theorem range_cons (k : Nat) : List.range (k + 1) = 0 :: (List.range k).map (· + 1) := by rw [List.range_succ_eq_map]
theorem zip3_get {ps : List (List Nat)} {sn : List See} {i : Nat} {d : D} (h : (zipD (ps.map lotD) ((List.range ps.length).map fun j => opD n M sn (j + 1)))[i]? = some d) : i < ps.length ∧ d = .tup [lotD (ps.getD i []), opD n M sn (i + 1)] := by
  obtain ⟨x, y, hx, hy, rfl⟩ := zipD_get h
  have hi : i < ps.length := by
    have := (List.getElem?_eq_some_iff.mp hx).1
    rwa [List.length_map] at this
  refine ⟨hi, ?_⟩
  rw [List.getElem?_map, List.getElem?_eq_getElem hi] at hx
  rw [List.getElem?_map, List.getElem?_range hi] at hy
  rw [← Option.some.inj hx, ← Option.some.inj hy, List.getD_eq_getElem?_getD, List.getElem?_eq_getElem hi]
  rfl
theorem forthof_ok (B : Bd n M Vs) {l0 : List Nat} {ps : List (List Nat)} {sn : List See} (h : OkS n l0 ps sn) : F_forth_of [brD false n rs Vs, stD l0 ps sn] = some (.lst true ((List.range (ps.length + 1)).map (fwD n M l0 ps sn)), []) := by
  obtain ⟨h1, h8⟩ := B.n8
  have hpn := h.pn
  have hl0 := h.lot.len
  have nlat : noOwns ((List.range ps.length).map fun j => opD n M sn (j + 1)) = true := noOwns_of fun x hx => by
    obtain ⟨b, _, rfl⟩ := List.mem_map.mp hx
    exact no_lot _
  have s0 : S_forth_of_0 [some (brD false n rs Vs), some (stD l0 ps sn), none, none, none, none, none] = some (.nx [some (brD false n rs Vs), some (stD l0 ps sn), some (opD n M sn 0), some (.lst true ((List.range ps.length).map fun j => opD n M sn (j + 1))), none, none, none]) := by
    unfold S_forth_of_0
    refine asg_of (call_2 (v_of (i := 0) rfl no_br) (v_of (i := 1) rfl (no_st l0 ps sn)) (popen_ok B h)) ?_
    have e1 : (List.range (ps.length + 1)).map (opD n M sn) = opD n M sn 0 :: (List.range ps.length).map (fun j => opD n M sn (j + 1)) := by rw [range_cons, List.map_cons, List.map_map]; rfl
    have e2 : (opD n M sn 0 :: (List.range ps.length).map (fun j => opD n M sn (j + 1))).length = ps.length + 1 := by rw [List.length_cons, List.length_map, List.length_range]
    have e3 : ((List.range ps.length).map (fun j => opD n M sn (j + 1))).take ps.length = (List.range ps.length).map (fun j => opD n M sn (j + 1)) := List.take_of_length_le (by rw [List.length_map, List.length_range]; exact Nat.le_refl _)
    have e4 : ((List.range ps.length).map (fun j => opD n M sn (j + 1))).drop ps.length = [] := List.drop_eq_nil_of_le (by rw [List.length_map, List.length_range]; exact Nat.le_refl _)
    have e5 : noOwns (opD n M sn 0 :: (List.range ps.length).map (fun j => opD n M sn (j + 1))) = true := by rw [← e1]; exact no_ops _
    have e6 : 2 ≤ ps.length + 1 + 1 ∧ ps.length + 1 ≤ 16000 := by omega
    unfold gStr
    simp only [seqNo, e1, e5, if_true, e2, e6, List.take_succ_cons, List.take_zero, List.drop_succ_cons, List.drop_zero, show ps.length + 1 + 1 - 2 = ps.length by omega, e3, e4]
    rfl
  have s1 : S_forth_of_1 [some (brD false n rs Vs), some (stD l0 ps sn), some (opD n M sn 0), some (.lst true ((List.range ps.length).map fun j => opD n M sn (j + 1))), none, none, none] = some (.nx [some (brD false n rs Vs), some (stD l0 ps sn), some (opD n M sn 0), some (.lst true ((List.range ps.length).map fun j => opD n M sn (j + 1))), some (.lst true ((List.range (0 + 1)).map (fwD n M l0 ps sn))), none, none]) := by
    unfold S_forth_of_1
    exact asg_of (lst1_of (call_2 (F := F_in_both) (dPth_of (st_lot (s := 1) rfl) (no_lot _)) (v_of (i := 2) (d := lotD (openV n M sn 0)) rfl (no_lot _)) (inboth_ok (by omega)))) rfl
  have m1 : dPth (rIxP (rV 1) (qC (.int 1))) [some (brD false n rs Vs), some (stD l0 ps sn), some (opD n M sn 0), some (.lst true ((List.range ps.length).map fun j => opD n M sn (j + 1))), some (.lst true ((List.range (0 + 1)).map (fwD n M l0 ps sn))), none, none] = some (.tup (ps.map lotD), [some (brD false n rs Vs), some (stD l0 ps sn), some (opD n M sn 0), some (.lst true ((List.range ps.length).map fun j => opD n M sn (j + 1))), some (.lst true ((List.range (0 + 1)).map (fwD n M l0 ps sn))), none, none]) := dPth_of (st_paces (s := 1) rfl) (by unfold noOwn; exact no_lots ps)
  have m2 : dV 3 [some (brD false n rs Vs), some (stD l0 ps sn), some (opD n M sn 0), some (.lst true ((List.range ps.length).map fun j => opD n M sn (j + 1))), some (.lst true ((List.range (0 + 1)).map (fwD n M l0 ps sn))), none, none] = some (.lst false ((List.range ps.length).map fun j => opD n M sn (j + 1)), [some (brD false n rs Vs), some (stD l0 ps sn), some (opD n M sn 0), some (.lst false ((List.range ps.length).map fun j => opD n M sn (j + 1))), some (.lst true ((List.range (0 + 1)).map (fwD n M l0 ps sn))), none, none]) := vf_of rfl (by simp [noOwn]) (by unfold frz; rw [frzs_of nlat])
  obtain ⟨ρ', e, v5, v6, rfl⟩ := forL_inv (a := gTp 2 (gsCons (gN 5) (gsCons (gN 6) (gsNil)))) (body := B_forth_of_2) (fun i ρ => ∃ v5 v6 : Option D, ρ = [some (brD false n rs Vs), some (stD l0 ps sn), some (opD n M sn 0), some (.lst false ((List.range ps.length).map fun j => opD n M sn (j + 1))), some (.lst true ((List.range (i + 1)).map (fwD n M l0 ps sn))), v5, v6]) (xs := zipD (ps.map lotD) ((List.range ps.length).map fun j => opD n M sn (j + 1))) (ρ := [some (brD false n rs Vs), some (stD l0 ps sn), some (opD n M sn 0), some (.lst false ((List.range ps.length).map fun j => opD n M sn (j + 1))), some (.lst true ((List.range (0 + 1)).map (fwD n M l0 ps sn))), none, none])
    ⟨none, none, rfl⟩ fun i x ρ hx ⟨v5, v6, hρ⟩ => by
      subst hρ
      obtain ⟨hi, rfl⟩ := zip3_get hx
      obtain ⟨g1, g2⟩ := ps_ok h hi
      have m4 : dPth (rIxP (rV 4) (qNeg (qC (.int 1)))) [some (brD false n rs Vs), some (stD l0 ps sn), some (opD n M sn 0), some (.lst false ((List.range ps.length).map fun j => opD n M sn (j + 1))), some (.lst true ((List.range (i + 1)).map (fwD n M l0 ps sn))), some (lotD (ps.getD i [])), some (opD n M sn (i + 1))] = some (lotD (fwH n M l0 ps sn i), [some (brD false n rs Vs), some (stD l0 ps sn), some (opD n M sn 0), some (.lst false ((List.range ps.length).map fun j => opD n M sn (j + 1))), some (.lst true ((List.range (i + 1)).map (fwD n M l0 ps sn))), some (lotD (ps.getD i [])), some (opD n M sn (i + 1))]) :=
        dPth_of ((PthAt.v (s := 4) rfl).ix (xs := (List.range (i + 1)).map (fwD n M l0 ps sn)) (k := -1) rfl rfl (by rw [List.range_succ, List.map_append]; exact at_m1 _ _)) (no_lot _)
      have hil : (reachV n M (ps.getD i []) (fwH n M l0 ps sn i)).length ≤ n := filt_len _
      have hfl := fw_len (n := n) (M := M) (ps := ps) (sn := sn) h.lot (i := i)
      have c5 := call_2 (F := F_in_both) (call_3 (F := F_stepped) (v_of (i := 0) rfl no_br) (v_of (i := 5) rfl (no_lot _)) m4 (stepped_ok B g1 g2 (fun x hx => fw_lt h.lot hx) (by omega))) (v_of (i := 6) (d := lotD (openV n M sn (i + 1))) rfl (no_lot _)) (inboth_ok (by omega))
      have ap := app_of (i := 4) (xs := (List.range (i + 1)).map (fwD n M l0 ps sn)) rfl c5 rfl (by rw [List.length_map, List.length_range]; omega)
      refine ⟨[some (brD false n rs Vs), some (stD l0 ps sn), some (opD n M sn 0), some (.lst false ((List.range ps.length).map fun j => opD n M sn (j + 1))), some (.lst true ((List.range (i + 1)).map (fwD n M l0 ps sn))), some (lotD (ps.getD i [])), some (opD n M sn (i + 1))], [some (brD false n rs Vs), some (stD l0 ps sn), some (opD n M sn 0), some (.lst false ((List.range ps.length).map fun j => opD n M sn (j + 1))), some (.lst true ((List.range (i + 1 + 1)).map (fwD n M l0 ps sn))), some (lotD (ps.getD i [])), some (opD n M sn (i + 1))], by simp [gTp, gsCons, gsNil, gN], .inl ?_, _, _, rfl⟩
      unfold B_forth_of_2
      refine (seq_nx (b := dNx) ap).trans ?_
      rw [List.range_succ (n := i + 1), List.map_append]
      rfl
  have hzl : (zipD (ps.map lotD) ((List.range ps.length).map fun j => opD n M sn (j + 1))).length = ps.length := by rw [zipD_len, List.length_map, List.length_map, List.length_range, Nat.min_self]
  rw [hzl] at e
  have s3 : S_forth_of_3 [some (brD false n rs Vs), some (stD l0 ps sn), some (opD n M sn 0), some (.lst true ((List.range ps.length).map fun j => opD n M sn (j + 1))), some (.lst true ((List.range (0 + 1)).map (fwD n M l0 ps sn))), none, none] = some (.nx [some (brD false n rs Vs), some (stD l0 ps sn), some (opD n M sn 0), some (.lst false ((List.range ps.length).map fun j => opD n M sn (j + 1))), some (.lst true ((List.range (ps.length + 1)).map (fwD n M l0 ps sn))), v5, v6]) := by
    unfold S_forth_of_3
    refine (for_of (zip_of m1 m2 (xs := ps.map lotD) (ys := (List.range ps.length).map fun j => opD n M sn (j + 1)) ?_ ?_)).trans e
    · unfold seqOf
      simp only [shr_of (no_lots _)]
    · unfold seqOf
      simp only [shr_of nlat]
  have s4 : S_forth_of_4 [some (brD false n rs Vs), some (stD l0 ps sn), some (opD n M sn 0), some (.lst false ((List.range ps.length).map fun j => opD n M sn (j + 1))), some (.lst true ((List.range (ps.length + 1)).map (fwD n M l0 ps sn))), v5, v6] = some (.rt (.lst true ((List.range (ps.length + 1)).map (fwD n M l0 ps sn))) ([some (brD false n rs Vs), some (stD l0 ps sn), some (opD n M sn 0), some (.lst false ((List.range ps.length).map fun j => opD n M sn (j + 1))), some (.lst true ((List.range (ps.length + 1)).map (fwD n M l0 ps sn))), v5, v6].set 4 none)) := rfl
  show dEnd 0 (M_forth_of [some (brD false n rs Vs), some (stD l0 ps sn), none, none, none, none, none]) = _
  unfold M_forth_of
  rw [seq_nx s0, seq_nx s1, seq_nx s3, seq_rt (b := dNx) s4]
  rfl
theorem forth_ok (B : Bd n M Vs) {l0 : List Nat} {ps : List (List Nat)} {sn : List See} (h : OkS n l0 ps sn) : F_forth [brD false n rs Vs, stD l0 ps sn] = some (.lst true ((List.range (ps.length + 1)).map (fwD n M l0 ps sn)), []) := by
  have s0 : S_forth_0 [some (brD false n rs Vs), some (stD l0 ps sn)] = some (.nx [some (brD false n rs Vs), some (stD l0 ps sn)]) := by
    unfold S_forth_0 dExpr
    rw [call_2 (v_of (i := 0) rfl no_br) (v_of (i := 1) rfl (no_st l0 ps sn)) (look_story_ok B h)]
  have s1 : S_forth_1 [some (brD false n rs Vs), some (stD l0 ps sn)] = some (.rt (.lst true ((List.range (ps.length + 1)).map (fwD n M l0 ps sn))) [some (brD false n rs Vs), some (stD l0 ps sn)]) := by
    unfold S_forth_1
    exact ret_of (call_2 (v_of (i := 0) rfl no_br) (v_of (i := 1) rfl (no_st l0 ps sn)) (forthof_ok B h))
  show dEnd 0 (M_forth [some (brD false n rs Vs), some (stD l0 ps sn)]) = _
  unfold M_forth
  rw [seq_nx s0, seq_rt (b := dNx) s1]
  rfl
end
end K11
set_option Elab.async false
set_option linter.all false
set_option maxRecDepth 100000
set_option maxHeartbeats 4000000
namespace K11
open PySem L2 Rm
section
variable {n : Nat} {M : List (List Nat)} {Vs : List (List (Option Nat))} {rs ws : List (Nat × Nat)}
def aE (ns : List Int) (b : D) (a2 : Option D) (n : Nat) (M : List (List Nat)) (rs : List (Nat × Nat)) (Vs : List (List (Option Nat))) (st du a7 a8 : Option D) : Rm.Env := [some (.scr ns), some b, a2, some (mD false M), some (brD false n rs Vs), st, du, a7, a8]
def fws (n : Nat) (M : List (List Nat)) (l0 : List Nat) (ps : List (List Nat)) (sn : List See) : List (List Nat) := (List.range (ps.length + 1)).map (fwH n M l0 ps sn)
theorem fws_D {l0 : List Nat} {ps : List (List Nat)} {sn : List See} : (List.range (ps.length + 1)).map (fwD n M l0 ps sn) = (fws n M l0 ps sn).map lotD := by
  unfold fws
  rw [List.map_map]
  rfl
theorem fws_same (B : Bd n M Vs) {l0 : List Nat} {ps : List (List Nat)} {sn : List See} (h : OkS n l0 ps sn) {o o' : Bool} : F__law_same 5 [.lst o ((fws n M l0 ps sn).map lotD), .lst o' ((fws n M l0 ps sn).map lotD)] = some (.bl true, [.lst o ((fws n M l0 ps sn).map lotD)]) := by
  have := h.pn
  have h8 := B.n8
  refine same_lots (f := 2) (by unfold fws; rw [List.length_map, List.length_range]; omega) fun ls hls => ?_
  obtain ⟨i, _, rfl⟩ := List.mem_map.mp hls
  have := fw_len (n := n) (M := M) (ps := ps) (sn := sn) h.lot (i := i)
  omega
theorem law_1 (B : Bd n M Vs) {ns : List Int} {b : D} {a2 a7 a8 : Option D} {l0 : List Nat} {ps : List (List Nat)} {sn : List See} (h : OkS n l0 ps sn) :
    ∃ a8' : Option D, B_law_1 (aE ns b a2 n M rs Vs (some (stD l0 ps sn)) (some (.lst false ((fws n M l0 ps sn).map lotD))) a7 a8) = some (.nx (aE ns b a2 n M rs Vs (some (stD l0 ps sn)) (some (.lst false ((fws n M l0 ps sn).map lotD))) a7 a8')) := by
  have hpn := h.pn
  have bo := forth_ok (rs := rs) B h
  rw [fws_D] at bo
  have s1 : dAsg (dCall F_forth [.e (dV 4), .e (dV 5)] []) (gN 8) (aE ns b a2 n M rs Vs (some (stD l0 ps sn)) (some (.lst false ((fws n M l0 ps sn).map lotD))) a7 a8) = some (.nx (aE ns b a2 n M rs Vs (some (stD l0 ps sn)) (some (.lst false ((fws n M l0 ps sn).map lotD))) a7 (some (.lst true ((fws n M l0 ps sn).map lotD))))) := asg_of (call_2 (v_of (i := 4) rfl no_br) (v_of (i := 5) rfl (no_st l0 ps sn)) bo) rfl
  have cs : dCall (F__law_same 5) [.v 8, .e (dV 6)] [] (aE ns b a2 n M rs Vs (some (stD l0 ps sn)) (some (.lst false ((fws n M l0 ps sn).map lotD))) a7 (some (.lst true ((fws n M l0 ps sn).map lotD)))) = some (.bl true, aE ns b a2 n M rs Vs (some (stD l0 ps sn)) (some (.lst false ((fws n M l0 ps sn).map lotD))) a7 (some (.lst true ((fws n M l0 ps sn).map lotD)))) :=
    (call_ve (i := 8) rfl (v_of (i := 6) (d := .lst false ((fws n M l0 ps sn).map lotD)) rfl (by unfold noOwn; exact no_lots _)) rfl (fws_same B h)).trans rfl
  have cl : dOp oLen [.e (dPth (rIxP (rV 5) (qC (.int 1))))] (aE ns b a2 n M rs Vs (some (stD l0 ps sn)) (some (.lst false ((fws n M l0 ps sn).map lotD))) a7 (some (.lst true ((fws n M l0 ps sn).map lotD)))) = some (iD ps.length, aE ns b a2 n M rs Vs (some (stD l0 ps sn)) (some (.lst false ((fws n M l0 ps sn).map lotD))) a7 (some (.lst true ((fws n M l0 ps sn).map lotD)))) := by
    refine op1_of (dPth_of (st_paces (s := 5) rfl) (by unfold noOwn; exact no_lots ps)) ?_
    show some (D.int ((ps.map lotD).length : Nat)) = _
    rw [List.length_map]
    rfl
  have cs2 : dCall (F__law_same 5) [.e (dCall F_last_beat [.e (dV 5)] []), .e (dOp oLen [.e (dPth (rIxP (rV 5) (qC (.int 1))))])] [] (aE ns b a2 n M rs Vs (some (stD l0 ps sn)) (some (.lst false ((fws n M l0 ps sn).map lotD))) a7 (some (.lst true ((fws n M l0 ps sn).map lotD)))) = some (.bl true, aE ns b a2 n M rs Vs (some (stD l0 ps sn)) (some (.lst false ((fws n M l0 ps sn).map lotD))) a7 (some (.lst true ((fws n M l0 ps sn).map lotD)))) :=
    call_2p (call_e (v_of (i := 5) rfl (no_st l0 ps sn)) last_ok) cl (same_int 4 ps.length)
  have s2 : dIfS (dOrT (dNotT (dT (dCall (F__law_same 5) [.v 8, .e (dV 6)] []))) (dNotT (dT (dCall (F__law_same 5) [.e (dCall F_last_beat [.e (dV 5)] []), .e (dOp oLen [.e (dPth (rIxP (rV 5) (qC (.int 1))))])] [])))) (dSeq (dRet (dC (.bl false))) (dNx)) (dNx) (aE ns b a2 n M rs Vs (some (stD l0 ps sn)) (some (.lst false ((fws n M l0 ps sn).map lotD))) a7 (some (.lst true ((fws n M l0 ps sn).map lotD)))) = some (.nx (aE ns b a2 n M rs Vs (some (stD l0 ps sn)) (some (.lst false ((fws n M l0 ps sn).map lotD))) a7 (some (.lst true ((fws n M l0 ps sn).map lotD))))) := by
    rw [if_f ((orT_f (notT (t_of cs))).trans (notT (t_of cs2)))]
    rfl
  have hbl : (fws n M l0 ps sn).length = ps.length + 1 := by unfold fws; rw [List.length_map, List.length_range]
  have s3 := app_of (i := 8) (m := dTup []) (ρ := aE ns b a2 n M rs Vs (some (stD l0 ps sn)) (some (.lst false ((fws n M l0 ps sn).map lotD))) a7 (some (.lst true ((fws n M l0 ps sn).map lotD)))) (d := .tup []) (xs := (fws n M l0 ps sn).map lotD) rfl rfl rfl (by rw [List.length_map]; omega)
  have s4 : dAsg (dTup [dC (.int 0), dC (.int 1)]) (gSetL (rV 8) (qC (.int 0))) (aE ns b a2 n M rs Vs (some (stD l0 ps sn)) (some (.lst false ((fws n M l0 ps sn).map lotD))) a7 (some (.lst true ((fws n M l0 ps sn).map lotD ++ [D.tup []])))) = some (.nx (aE ns b a2 n M rs Vs (some (stD l0 ps sn)) (some (.lst false ((fws n M l0 ps sn).map lotD))) a7 (some (.lst true (((fws n M l0 ps sn).map lotD ++ [D.tup []]).set 0 (.tup [.int 0, .int 1])))))) :=
    asg_of (d := .tup [.int 0, .int 1]) rfl (setq_of (s := 8) (k := 0) (j := 0) (xs := (fws n M l0 ps sn).map lotD ++ [D.tup []]) rfl rfl (by
      have := ixN_nat (n := ((fws n M l0 ps sn).map lotD ++ [D.tup []]).length) (j := 0) (by rw [List.length_append]; simp)
      exact this))
  refine ⟨some (.lst true (((fws n M l0 ps sn).map lotD ++ [D.tup []]).set 0 (.tup [.int 0, .int 1]))), ?_⟩
  unfold B_law_1
  rw [seq_nx s1, seq_nx s2, seq_nx (s3.trans rfl)]
  exact (seq_nx (b := dNx) s4).trans rfl
theorem law_2 {ns : List Int} {b : D} {a2 a3 a4 a5 a6 a7 a8 : Option D} (hb : Bx b) :
    ∃ (b' : D) (a3' a4' a5' a6' a7' a8' : Option D), B_law_2 [some (.scr ns), some b, a2, a3, a4, a5, a6, a7, a8] = some (.nx [some (.scr ns), some b', a2, a3', a4', a5', a6', a7', a8']) ∧ Bx b' := by
  obtain ⟨n, rs, M, Vs, l0, ps, sn, b1, e1, B, h, hb1⟩ := big_ok hb
  have s1 : dAsg (dCall F__law_big_story [.v 1, .e (dC (.int 24))] []) (gTp 3 (gsCons (gN 3) (gsCons (gN 4) (gsCons (gN 5) (gsNil))))) [some (.scr ns), some b, a2, a3, a4, a5, a6, a7, a8] = some (.nx (aE ns b1 a2 n M rs Vs (some (stD l0 ps sn)) a6 a7 a8)) :=
    asg_of (call_ve (i := 1) (m := dC (.int 24)) rfl rfl rfl e1) (by simp [gTp, gsCons, gsNil, gN, aE])
  have lb := lforth_ok B h
  rw [fws_D] at lb
  have s2 : dAsg (dCall F__law_forth [.e (dV 3), .e (dV 5)] []) (gN 6) (aE ns b1 a2 n M rs Vs (some (stD l0 ps sn)) a6 a7 a8) = some (.nx (aE ns b1 a2 n M rs Vs (some (stD l0 ps sn)) (some (.lst false ((fws n M l0 ps sn).map lotD))) a7 a8)) := asg_of (call_2 (v_of (i := 3) rfl (no_m M)) (v_of (i := 5) rfl (no_st l0 ps sn)) lb) rfl
  obtain ⟨ρ', e3, a7', a8', rfl⟩ := forL_inv (a := gN 7) (body := B_law_1) (fun i ρ => ∃ a7 a8 : Option D, ρ = aE ns b1 a2 n M rs Vs (some (stD l0 ps sn)) (some (.lst false ((fws n M l0 ps sn).map lotD))) a7 a8) (xs := (List.range 2).map iD) (ρ := aE ns b1 a2 n M rs Vs (some (stD l0 ps sn)) (some (.lst false ((fws n M l0 ps sn).map lotD))) a7 a8)
    ⟨a7, a8, rfl⟩ fun i x ρ hx ⟨a7, a8, hρ⟩ => by
      subst hρ
      obtain ⟨a8', e⟩ := law_1 (ns := ns) (b := b1) (a2 := a2) (a7 := some x) (a8 := a8) (rs := rs) B h
      exact ⟨aE ns b1 a2 n M rs Vs (some (stD l0 ps sn)) (some (.lst false ((fws n M l0 ps sn).map lotD))) (some x) a8, _, rfl, .inl e, _, _, rfl⟩
  have s3 : dFor (mRange1 (.e (dC (.int 2)))) (gN 7) (B_law_1) (aE ns b1 a2 n M rs Vs (some (stD l0 ps sn)) (some (.lst false ((fws n M l0 ps sn).map lotD))) a7 a8) = some (.nx (aE ns b1 a2 n M rs Vs (some (stD l0 ps sn)) (some (.lst false ((fws n M l0 ps sn).map lotD))) a7' a8')) := (for_of (rng_of (n := 2) rfl (by omega))).trans e3
  refine ⟨b1, some (mD false M), some (brD false n rs Vs), some (stD l0 ps sn), some (.lst false ((fws n M l0 ps sn).map lotD)), a7', a8', ?_, hb1⟩
  unfold B_law_2
  rw [seq_nx s1, seq_nx s2]
  exact (seq_nx (b := dNx) s3).trans rfl
end
/-- the law answers True, whatever the script -/
theorem law_true (ns : List Int) : F_law [.scr ns] = some (.bl true, []) := by
  obtain ⟨b, e0, hb⟩ := box_ok ns
  have s0 : S_law_0 [some (.scr ns), none, none, none, none, none, none, none, none] = some (.nx [some (.scr ns), some b, none, none, none, none, none, none, none]) := by
    unfold S_law_0
    exact asg_of (call_e (v_of (i := 0) rfl rfl) e0) rfl
  obtain ⟨ρ', e, b', a2, a3, a4, a5, a6, a7, a8, rfl, _⟩ := forL_inv (a := gN 2) (body := B_law_2) (fun i ρ => ∃ (b' : D) (a2 a3 a4 a5 a6 a7 a8 : Option D), ρ = [some (.scr ns), some b', a2, a3, a4, a5, a6, a7, a8] ∧ Bx b') (xs := (List.range 4).map iD) (ρ := [some (.scr ns), some b, none, none, none, none, none, none, none])
    ⟨b, none, none, none, none, none, none, none, rfl, hb⟩ fun i x ρ hx ⟨b', a2, a3, a4, a5, a6, a7, a8, hρ, hb'⟩ => by
      subst hρ
      obtain ⟨b2, c3, c4, c5, c6, c7, c8, e, hb2⟩ := law_2 (ns := ns) (a2 := some x) (a3 := a3) (a4 := a4) (a5 := a5) (a6 := a6) (a7 := a7) (a8 := a8) hb'
      exact ⟨[some (.scr ns), some b', some x, a3, a4, a5, a6, a7, a8], _, rfl, .inl e, _, _, _, _, _, _, _, _, rfl, hb2⟩
  have s3 : S_law_3 [some (.scr ns), some b, none, none, none, none, none, none, none] = some (.nx [some (.scr ns), some b', a2, a3, a4, a5, a6, a7, a8]) := by
    unfold S_law_3
    exact (for_of (rng_of (n := 4) rfl (by omega))).trans e
  show dEnd 0 (M_law [some (.scr ns), none, none, none, none, none, none, none, none]) = _
  unfold M_law
  rw [seq_nx s0, seq_nx s3]
  rfl
end K11
set_option Elab.async false
set_option linter.all false
set_option maxRecDepth 100000
set_option maxHeartbeats 0
namespace K11
open PySem PySem.Spec PyProof.Rows L2
theorem sp_true {K : PySem.W.Frag} {H : Hp} {a : Addr} {ns : List Int} (hO : Only H) (hS : SqL K H a (ns.map V.int)) : Rm.spF (gOf K) 1 0 F_law [.ref a] H (fun v _ => v = .bl true) fun _ _ _ => False := by
  refine ⟨fun _ => False, [.scr ns], [], .bl true, [], ⟨?_, List.nodup_nil, fun a h => (by cases h), fun a h => False.elim h⟩, rfl, law_true ns, rfl, fun v H' Fz' fp' x r => ?_⟩
  · refine ⟨some (.ref a), [], [], [], rfl, rfl, ⟨.ref a, rfl, ?_⟩, rfl, rfl⟩
    unfold Rm.Rep
    refine ⟨a, rfl, rfl, ?_⟩
    rcases hS with (h | ⟨ob, h⟩) | h
    · rcases hO a with e | ⟨o, xs, e⟩
      · rw [e] at h; cases h
      · rw [e] at h; cases h
    · exact .inl ⟨ob, h⟩
    · exact .inr fun H' => .inr h
  · obtain ⟨b, bs, f1, f2, e1, e2, ⟨v', e3, hr⟩, _⟩ := r.reps
    cases e1
    cases e3
    exact Rm.rep_bl' hr
theorem facts {P : Program} {w : World} {K : PySem.W.Frag} {h : Heap} {mg : PySem.Str → Option Value} {f : Addr} (X : K.In h) (G : h.Ns mainGlobals mg) (hfa : mg ("law" : PySem.Str) = some (.ref f)) (c : He.SaysD fa fn K) :
    ∃ fd : FuncData, (∀ (s : Shared) (v : Value), BindsTo s fd ⟨[v], []⟩ [("_law_script", v)]) ∧ ∀ base : Heap, FnOk P w K mg base CX0 10 f fd ["_law_script"] (Rm.spF (gOf K) 1 0 F_law) := by
  have T := tops X G c
  have e := hfa.symm.trans T.gl_law
  cases e
  obtain ⟨fd, FD⟩ := T.s.def_ 52 (d := fn_52) rfl
  have b := FunD.bindsA (ps := ["_law_script"]) FD fun _ _ _ _ _ _ us hl => match us, hl with | [_], _ => rfl
  refine ⟨fd, fun s v => b s [v] rfl, fun base => ?_⟩
  obtain ⟨fd', FD', ok⟩ := ok_all (P := P) (w := w) (base := base) T
  obtain ⟨oc, od, dV, kV, doc, pm, an, cdv, ct, osl, e1, l1, _⟩ := FD.ex
  obtain ⟨oc', od', dV', kV', doc', pm', an', cdv', ct', osl', e2, l2, _⟩ := FD'.ex
  rw [l1] at l2
  cases l2
  exact ok
end K11
open PySem PySem.W PySem.Calls PyProof.Rows
theorem PySem.Challenge.cw_roamlook_k11_lots_forth_holds : PySem.Challenge.rw_roamlook_k11_lots_forth.Holds := by
  w_on; o_law
  refine HandSHeadRun.head_any (r := K11.RW) (q := view (K11.RW).prog [57]) (H := K11.hk) (ob := K11.ob) (M := 6000) (loose := K11.loose) (d := HandSHeadRun.topDef (K11.RW).prog 57) (kwd := []) K11.ob_eq
    (by kernel_rfl) (fun s => by kernel_rfl) K11.run (by kernel_rfl) (by kernel_rfl) (by kernel_rfl) (by rfl) (by first | assumption | decide +kernel) (by decide +kernel) ⟨rfl, rfl, rfl, rfl, rfl, by decide +kernel⟩ ?hw ?hc
  case hw => w_witness2
  case hc =>
    refine L2.walk_ofE (l := PySem.Challenge.rw_roamlook_k11_lots_forth) (n := 63) (k := 10) (x := "_law_script") (CX := L2.CX0) rfl (by decide) (by kernel_rfl) ⟨rfl, by decide, by decide⟩ ?F (fun _ _ _ _ z => z)
    intro w mg fa h Y G hmg0
    obtain ⟨K, KX, c⟩ := Y
    have hmg : mg ("law" : PySem.Str) = some (.ref fa) := by
      have e : (HandSHeadRun.topDef (K11.RW).prog 57).name = ("law" : PySem.Str) := by kernel_rfl
      rw [← e]
      exact hmg0
    obtain ⟨fd, hb, hF⟩ := K11.facts (P := (PySem.Challenge.rw_roamlook_k11_lots_forth).prog) (w := w) KX G hmg c
    exact ⟨K, fd, Rm.spF (K11.gOf K) 1 0 K11.F_law, KX, hb, fun H a ns hl hO hS => K11.sp_true hO hS, fun base _ _ => hF base⟩
