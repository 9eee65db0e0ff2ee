import PyProof.Rows.All
import Wide.All
import OpenK.AllK
import Wide.FinOn
import HandS.ForMost
import HandS.ForExc
import HandS.TryMany
import HandS.ExcInit
import HandS.ExcField
import HandS.ExcIs
import HandS.IsInst
import HandS.Walk
import HandS.Zip
import HandS.Lambda
import HandS.EndTab
import HandS.Wide
import HandS.WideMore
import HandS.WideBits
import HandS.Style
import HandS.Flow
import HandS.TupAny
import HandS.StrMore
import KE.KExcSuper
import KE.KExcIs
import HandS.HeadHook4
import HandS.HeadWalk
import HandS.Replace
import KE.GoesMore
import PyProof.StrBlock2
import HandS.List
import HandS.Head2
import HandS.HeadEnd
import PySem.Challenge.RW_goodtill_k04_labels_and_names
set_option Elab.async false
set_option linter.all false
set_option maxRecDepth 100000
set_option maxHeartbeats 4000000
/-! Fl1: values as trees and a store of cells; what a heap says of them; outcomes; the lifting of a function to a wish. -/
namespace Fl
open PySem PySem.Spec PyProof.Rows L2

/-- a value as a tree: what can be changed stands in the store, at a number -/
inductive T where
  | non | bl (b : Bool) | int (i : Int) | str (x : Str) | tup (xs : List T) | ref (n : Nat)
inductive Cell where
  | lst (xs : List T)
  | rol (xs : List T)
  | fn
abbrev Store := List Cell
/-- the list at a number -/
def getL (S : Store) (n : Nat) : Option (List T) := match S[n]? with
  | some (.lst xs) => some xs
  | some (.rol xs) => some xs
  | _ => none
/-- an error: its class's name, its field's name, what the field holds -/
structure Ex where
  cls : Str
  fld : Str
  arg : T
inductive Out (α : Type) where
  | ok (a : α) (S : Store) | exc (e : Ex) (S : Store) | bad
def Out.bind {α β : Type} (o : Out α) (k : α → Store → Out β) : Out β := match o with
  | .ok a S => k a S
  | .exc e S => .exc e S
  | .bad => .bad
abbrev Env := List (Option T)
/-- a statement's outcome -/
inductive OutS where
  | nx (ρ : Env) (S : Store) | rt (w : T) (S : Store) | bk (ρ : Env) (S : Store) | ct (ρ : Env) (S : Store) | exc (e : Ex) (ρ : Env) (S : Store) | bad
def Out.thenS {α : Type} (ρ : Env) (o : Out α) (k : α → Store → OutS) : OutS := match o with
  | .ok a S => k a S
  | .exc e S => .exc e ρ S
  | .bad => .bad
abbrev FE := Env → Store → Out T
abbrev FT := Env → Store → Out Bool
abbrev FA := Env → Store → Out (List T)
abbrev FS := Env → Store → OutS
abbrev FG := T → Env → Store → Out Env
abbrev GF := List T → Store → Out T

/-! ### what a heap says -/
mutual
inductive Rep (K : PySem.W.Frag) (H : Hp) (ι : List Addr) : V → T → Prop
  | non : Rep K H ι .non .non
  | bl (b : Bool) : Rep K H ι (.bl b) (.bl b)
  | int (i : Int) : Rep K H ι (.int i) (.int i)
  | str (x : Str) : Rep K H ι (.str x) (.str x)
  | tup {a : Addr} {vs : List V} {ws : List T} (h : SqT K H a vs) (r : Reps K H ι vs ws) : Rep K H ι (.ref a) (.tup ws)
  | ref {n : Nat} {a : Addr} (h : ι[n]? = some a) : Rep K H ι (.ref a) (.ref n)
inductive Reps (K : PySem.W.Frag) (H : Hp) (ι : List Addr) : List V → List T → Prop
  | nil : Reps K H ι [] []
  | cons {v : V} {w : T} {vs : List V} {ws : List T} (h : Rep K H ι v w) (t : Reps K H ι vs ws) : Reps K H ι (v :: vs) (w :: ws)
end
/-- a list that nobody writes -/
def RoL (K : PySem.W.Frag) (H : Hp) (a : Addr) (xs : List V) : Prop :=
  (∃ o, H a = some (.frz o (.lst xs))) ∨
    ∃ (o : Obj) (its : Array Value) (n : Nat), K.lookup a = some o ∧ o.cls = .type "list" ∧ o.dict = none ∧ o.data = .seq its n ∧ its.size ≤ sizeLine ∧ Vals xs its.toList
def CRep (K : PySem.W.Frag) (H : Hp) (ι : List Addr) (a : Addr) : Cell → Prop
  | .lst ws => ∃ vs, H a = some (.lst vs) ∧ Reps K H ι vs ws
  | .rol ws => ∃ vs, RoL K H a vs ∧ Reps K H ι vs ws
  | .fn => True
/-- what stays from one heap to a later one -/
structure Later (K : PySem.W.Frag) (ι : List Addr) (H : Hp) (ι' : List Addr) (H' : Hp) : Prop where
  tup : ∀ (a : Addr) (xs : List V), SqT K H a xs → SqT K H' a xs
  pre : ∀ (n : Nat) (a : Addr), ι[n]? = some a → ι'[n]? = some a
  xd : ∀ (a : Addr) (fs : List (Str × V)), H a = some (.xd fs) → H' a = some (.xd fs)
  code : ∀ (c : Addr) (q : Str), H c = some (LamX.CodeO c q) → H' c = some (LamX.CodeO c q)

/-- the lambdas' tables; the number, the address, the code of the lambda that is handed at the moment -/
structure Fx where
  n : Nat
  f : Addr
  c : Addr
  q : Str
  ι : List Addr
  H : Hp
structure Bd where
  tabs : List (Addr × Str)
  fx : Option Fx
structure SRel (B : Bd) (K : PySem.W.Frag) (ι : List Addr) (H : Hp) (S : Store) : Prop where
  len : ι.length = S.length
  inj : ∀ (n m : Nat) (a : Addr) (xs ys : List T), S[n]? = some (.lst xs) → S[m]? = some (.lst ys) → ι[n]? = some a → ι[m]? = some a → n = m
  cell : ∀ (n : Nat) (c : Cell), S[n]? = some c → ∃ a, ι[n]? = some a ∧ CRep K H ι a c
  tabs : LamX.Tabs B.tabs H
  fx : ∀ z, B.fx = some z → ι[z.n]? = some z.f ∧ H z.c = some (LamX.CodeO z.c z.q) ∧ Later K z.ι z.H ι H
def ERel (K : PySem.W.Frag) (ι : List Addr) (H : Hp) (σ : L2.St) (ρ : Env) : Prop :=
  ρ.length = σ.length ∧ ∀ (i : Nat) (w : T), ρ[i]? = some (some w) → ∃ v, σ[i]? = some (some v) ∧ Rep K H ι v w
def XRep (mg : Str → Option Value) (K : PySem.W.Frag) (ι : List Addr) (H : Hp) (c : Value) (d : Option Addr) (e : Ex) : Prop :=
  ∃ (C dd : Addr) (fs : List (Str × V)) (v : V), mg e.cls = some (.ref C) ∧ c = .ref C ∧ d = some dd ∧ H dd = some (.xd fs) ∧ fs.lookup e.fld = some v ∧ Rep K H ι v e.arg
section
variable {B : Bd} {K : PySem.W.Frag} {ι ι' ι2 : List Addr} {H H' H2 : Hp} {S : Store}
theorem Later.refl : Later K ι H ι H := ⟨fun _ _ h => h, fun _ _ h => h, fun _ _ h => h, fun _ _ h => h⟩
theorem Later.trans (a : Later K ι H ι' H') (b : Later K ι' H' ι2 H2) : Later K ι H ι2 H2 :=
  ⟨fun x y h => b.tup x y (a.tup x y h), fun x y h => b.pre x y (a.pre x y h), fun x y h => b.xd x y (a.xd x y h), fun x y h => b.code x y (a.code x y h)⟩
mutual
theorem Rep.later {v : V} {w : T} (e : Later K ι H ι' H') : Rep K H ι v w → Rep K H' ι' v w
  | .non => .non
  | .bl b => .bl b
  | .int i => .int i
  | .str x => .str x
  | .tup h r => .tup (e.tup _ _ h) (Reps.later e r)
  | .ref h => .ref (e.pre _ _ h)
theorem Reps.later {vs : List V} {ws : List T} (e : Later K ι H ι' H') : Reps K H ι vs ws → Reps K H' ι' vs ws
  | .nil => .nil
  | .cons h t => .cons (Rep.later e h) (Reps.later e t)
end
theorem Reps.length {vs : List V} {ws : List T} : Reps K H ι vs ws → vs.length = ws.length
  | .nil => rfl
  | .cons _ t => congrArg Nat.succ (Reps.length t)
theorem Reps.get {vs : List V} {ws : List T} {i : Nat} {w : T} : Reps K H ι vs ws → ws[i]? = some w → ∃ v, vs[i]? = some v ∧ Rep K H ι v w
  | .nil, e => by simp at e
  | .cons h t, e => by
    cases i with
    | zero => simp at e; subst e; exact ⟨_, rfl, h⟩
    | succ i => exact Reps.get (i := i) t (by simpa using e)
theorem Reps.get' {vs : List V} {ws : List T} {i : Nat} {v : V} : Reps K H ι vs ws → vs[i]? = some v → ∃ w, ws[i]? = some w ∧ Rep K H ι v w
  | .nil, e => by simp at e
  | .cons h t, e => by
    cases i with
    | zero => simp at e; subst e; exact ⟨_, rfl, h⟩
    | succ i => exact Reps.get' (i := i) t (by simpa using e)
theorem Reps.append {vs us : List V} {ws xs : List T} : Reps K H ι vs ws → Reps K H ι us xs → Reps K H ι (vs ++ us) (ws ++ xs)
  | .nil, r => r
  | .cons h t, r => .cons h (Reps.append t r)
theorem Reps.take {vs : List V} {ws : List T} : ∀ (n : Nat), Reps K H ι vs ws → Reps K H ι (vs.take n) (ws.take n)
  | 0, _ => .nil
  | _ + 1, .nil => .nil
  | n + 1, .cons h t => .cons h (Reps.take n t)
theorem Reps.drop {vs : List V} {ws : List T} : ∀ (n : Nat), Reps K H ι vs ws → Reps K H ι (vs.drop n) (ws.drop n)
  | 0, r => r
  | _ + 1, .nil => .nil
  | n + 1, .cons _ t => Reps.drop n t
theorem Reps.set {vs : List V} {ws : List T} {v : V} {w : T} (r : Rep K H ι v w) : ∀ (n : Nat), Reps K H ι vs ws → Reps K H ι (vs.set n v) (ws.set n w)
  | _, .nil => .nil
  | 0, .cons _ t => .cons r t
  | n + 1, .cons h t => .cons h (Reps.set r n t)
theorem ERel.later {σ : L2.St} {ρ : Env} (e : Later K ι H ι' H') (r : ERel K ι H σ ρ) : ERel K ι' H' σ ρ :=
  ⟨r.1, fun i w h => let ⟨v, h1, h2⟩ := r.2 i w h; ⟨v, h1, h2.later e⟩⟩
theorem ERel.set {σ : L2.St} {ρ : Env} {v : V} {w : T} (i : Nat) (r : ERel K ι H σ ρ) (h : Rep K H ι v w) : ERel K ι H (σ.set i (some v)) (ρ.set i (some w)) := by
  refine ⟨by rw [List.length_set, List.length_set]; exact r.1, fun j x e => ?_⟩
  by_cases hj : i = j
  · subst hj
    rw [List.getElem?_set] at e
    by_cases hl : i < ρ.length
    · simp [hl] at e
      subst e
      refine ⟨v, ?_, h⟩
      rw [List.getElem?_set]
      simp [← r.1, hl]
    · simp [hl] at e
  · rw [List.getElem?_set_ne hj] at e
    obtain ⟨u, h1, h2⟩ := r.2 j x e
    exact ⟨u, by rw [List.getElem?_set_ne hj]; exact h1, h2⟩
theorem XRep.later {mg : Str → Option Value} {c : Value} {d : Option Addr} {x : Ex} (e : Later K ι H ι' H') (r : XRep mg K ι H c d x) : XRep mg K ι' H' c d x := by
  obtain ⟨C, dd, fs, v, h1, h2, h3, h4, h5, h6⟩ := r
  exact ⟨C, dd, fs, v, h1, h2, h3, e.xd _ _ h4, h5, h6.later e⟩

/-! ### a new object, an object written -/
theorem _root_.And.later {z : Fx} (h : ι[z.n]? = some z.f ∧ H z.c = some (LamX.CodeO z.c z.q) ∧ Later K z.ι z.H ι H) (e : Later K ι H ι' H') : ι'[z.n]? = some z.f ∧ H' z.c = some (LamX.CodeO z.c z.q) ∧ Later K z.ι z.H ι' H' :=
  ⟨e.pre _ _ h.1, e.code _ _ h.2.1, h.2.2.trans e⟩
theorem SqT.laid {p : Addr} {o : HO} (hp : H p = none) {a : Addr} {xs : List V} (h : SqT K H a xs) : SqT K (upd H p o) a xs := by
  rcases h with (h | ⟨u, h⟩) | h
  · exact .inl (.inl (by rw [upd_ne (ne_of_none h hp)]; exact h))
  · exact .inl (.inr ⟨u, by rw [upd_ne (ne_of_none h hp)]; exact h⟩)
  · exact .inr h
theorem Later.laid {p : Addr} {o : HO} (hp : H p = none) : Later K ι H ι (upd H p o) :=
  ⟨fun _ _ h => SqT.laid hp h, fun _ _ h => h, fun a fs h => by rw [upd_ne (ne_of_none h hp)]; exact h, fun a fs h => by rw [upd_ne (ne_of_none h hp)]; exact h⟩
theorem Later.more {p : Addr} {o : HO} (hp : H p = none) : Later K ι H (ι ++ [p]) (upd H p o) :=
  ⟨fun _ _ h => SqT.laid hp h, fun n a h => by
    rw [List.getElem?_append_left (List.getElem?_eq_some_iff.mp h).1]
    exact h, fun a fs h => by rw [upd_ne (ne_of_none h hp)]; exact h, fun a fs h => by rw [upd_ne (ne_of_none h hp)]; exact h⟩
theorem CRep.laid {p a : Addr} {o : HO} {c : Cell} (hp : H p = none) (e : Later K ι H ι' (upd H p o)) (h : CRep K H ι a c) : CRep K (upd H p o) ι' a c := by
  cases c with
  | lst ws =>
    obtain ⟨vs, h1, h2⟩ := h
    exact ⟨vs, by rw [upd_ne (ne_of_none h1 hp)]; exact h1, h2.later e⟩
  | rol ws =>
    obtain ⟨vs, h1, h2⟩ := h
    refine ⟨vs, ?_, h2.later e⟩
    rcases h1 with ⟨u, h1⟩ | h1
    · exact .inl ⟨u, by rw [upd_ne (ne_of_none h1 hp)]; exact h1⟩
    · exact .inr h1
  | fn => trivial
theorem SRel.laid {p : Addr} {o : HO} (r : SRel B K ι H S) (hp : H p = none) : SRel B K ι (upd H p o) S :=
  ⟨r.len, r.inj, fun n c h => let ⟨a, h1, h2⟩ := r.cell n c h; ⟨a, h1, h2.laid hp (Later.laid hp)⟩, r.tabs.ext fun b u h => by rw [upd_ne (ne_of_none h hp)]; exact h, fun z e => (r.fx z e).later (Later.laid hp)⟩
/-- a new list: one cell more -/
theorem SRel.more {p : Addr} {vs : List V} {ws : List T} (r : SRel B K ι H S) (hp : H p = none) (hv : Reps K H ι vs ws) : SRel B K (ι ++ [p]) (upd H p (.lst vs)) (S ++ [.lst ws]) := by
  have e : Later K ι H (ι ++ [p]) (upd H p (.lst vs)) := Later.more hp
  have old : ∀ (n : Nat) (c : Cell), (S ++ [Cell.lst ws])[n]? = some c → n < S.length → S[n]? = some c := fun n c h hn => by
    rw [List.getElem?_append_left hn] at h
    exact h
  have nw : ∀ (n : Nat) (c : Cell), (S ++ [Cell.lst ws])[n]? = some c → ¬ n < S.length → n = S.length ∧ c = .lst ws := fun n c h hn => by
    have h1 := (List.getElem?_eq_some_iff.mp h).1
    have e : n = S.length := by simp at h1; omega
    subst e
    simp at h
    exact ⟨rfl, h.symm⟩
  have atp : ∀ (n : Nat) (a : Addr), n < S.length → (ι ++ [p])[n]? = some a → ι[n]? = some a := fun n a hn h => by
    rw [List.getElem?_append_left (by rw [r.len]; exact hn)] at h
    exact h
  have lstAt : ∀ (n : Nat) (a : Addr) (xs : List T), S[n]? = some (.lst xs) → ι[n]? = some a → a ≠ p := fun n a xs h1 h2 => by
    obtain ⟨b, h3, vs', h4, _⟩ := r.cell n _ h1
    rw [h2] at h3
    cases h3
    exact ne_of_none h4 hp
  have last : (ι ++ [p])[S.length]? = some p := by rw [← r.len]; simp
  refine ⟨by simp [r.len], fun n m a xs ys h1 h2 h3 h4 => ?_, fun n c h => ?_, r.tabs.ext fun b u h => by rw [upd_ne (ne_of_none h hp)]; exact h, fun z k => (r.fx z k).later e⟩
  · by_cases hn : n < S.length
    · by_cases hm : m < S.length
      · exact r.inj n m a xs ys (old n _ h1 hn) (old m _ h2 hm) (atp n a hn h3) (atp m a hm h4)
      · obtain ⟨em, _⟩ := nw m _ h2 hm
        subst em
        rw [last] at h4
        cases h4
        exact absurd rfl (lstAt n _ xs (old n _ h1 hn) (atp n _ hn h3))
    · obtain ⟨en, _⟩ := nw n _ h1 hn
      by_cases hm : m < S.length
      · subst en
        rw [last] at h3
        cases h3
        exact absurd rfl (lstAt m _ ys (old m _ h2 hm) (atp m _ hm h4))
      · obtain ⟨em, _⟩ := nw m _ h2 hm
        rw [en, em]
  · by_cases hn : n < S.length
    · obtain ⟨a, h1, h2⟩ := r.cell n c (old n c h hn)
      exact ⟨a, e.pre n a h1, h2.laid hp e⟩
    · obtain ⟨en, ec⟩ := nw n c h hn
      subst en ec
      exact ⟨p, last, vs, upd_same, hv.later e⟩
theorem SqT.put {p : Addr} {vs vs' : List V} (hp : H p = some (.lst vs)) {a : Addr} {xs : List V} (h : SqT K H a xs) : SqT K (upd H p (.lst vs')) a xs := by
  rcases h with (h | ⟨u, h⟩) | h
  · exact .inl (.inl (by rw [upd_ne (ne_of h hp (by intro z; cases z))]; exact h))
  · exact .inl (.inr ⟨u, by rw [upd_ne (ne_of h hp (by intro z; cases z))]; exact h⟩)
  · exact .inr h
theorem Later.put {p : Addr} {vs vs' : List V} (hp : H p = some (.lst vs)) : Later K ι H ι (upd H p (.lst vs')) :=
  ⟨fun _ _ h => SqT.put hp h, fun _ _ h => h, fun a fs h => by rw [upd_ne (ne_of h hp (by intro z; cases z))]; exact h, fun a fs h => by rw [upd_ne (ne_of h hp (by unfold LamX.CodeO; intro z; cases z))]; exact h⟩
theorem tabS_put {p P : Addr} {q : Str} {vs vs' : List V} (hp : H p = some (.lst vs)) (t : LamX.TabS H P q) : LamX.TabS (upd H p (.lst vs')) P q := by
  obtain ⟨ps, h1, h2, h3⟩ := t
  refine ⟨ps, by rw [upd_ne (ne_of h1 hp (by intro z; cases z))]; exact h1, h2, fun pos cv hc => ?_⟩
  obtain ⟨c, e1, e2⟩ := h3 pos cv hc
  exact ⟨c, e1, by rw [upd_ne (ne_of e2 hp (by unfold LamX.CodeO; intro z; cases z))]; exact e2⟩
/-- a list written -/
theorem SRel.put {p : Addr} {n : Nat} {vs vs' : List V} {ws ws' : List T} (r : SRel B K ι H S) (hn : S[n]? = some (.lst ws)) (hι : ι[n]? = some p) (hp : H p = some (.lst vs)) (hv : Reps K H ι vs' ws') :
    SRel B K ι (upd H p (.lst vs')) (S.set n (.lst ws')) := by
  have e : Later K ι H ι (upd H p (.lst vs')) := Later.put hp
  have hl : n < S.length := (List.getElem?_eq_some_iff.mp hn).1
  have back : ∀ (m : Nat) (xs : List T), (S.set n (.lst ws'))[m]? = some (.lst xs) → ∃ ys, S[m]? = some (.lst ys) := fun m xs h => by
    by_cases hm : n = m
    · subst hm
      exact ⟨ws, hn⟩
    · rw [List.getElem?_set_ne hm] at h
      exact ⟨xs, h⟩
  refine ⟨by rw [List.length_set]; exact r.len, fun m k a xs ys h1 h2 h3 h4 => ?_, fun m c h => ?_, fun q hq => tabS_put hp (r.tabs q hq), fun z k => (r.fx z k).later e⟩
  · obtain ⟨xs', h1'⟩ := back m xs h1
    obtain ⟨ys', h2'⟩ := back k ys h2
    exact r.inj m k a xs' ys' h1' h2' h3 h4
  · by_cases hm : n = m
    · subst hm
      rw [List.getElem?_set] at h
      simp [hl] at h
      subst h
      exact ⟨p, hι, vs', upd_same, hv.later e⟩
    · rw [List.getElem?_set_ne hm] at h
      obtain ⟨a, h1, h2⟩ := r.cell m c h
      refine ⟨a, h1, ?_⟩
      cases c with
      | lst xs =>
        obtain ⟨us, h3, h4⟩ := h2
        refine ⟨us, ?_, h4.later e⟩
        rw [upd_ne]
        · exact h3
        · intro z
          subst z
          exact hm (r.inj n m a ws xs hn h hι h1)
      | rol xs =>
        obtain ⟨us, h3, h4⟩ := h2
        refine ⟨us, ?_, h4.later e⟩
        rcases h3 with ⟨u, h3⟩ | h3
        · exact .inl ⟨u, by rw [upd_ne (ne_of h3 hp (by intro z; cases z))]; exact h3⟩
        · exact .inr h3
      | fn => trivial
theorem RoL.seq {a : Addr} {xs : List V} (h : RoL K H a xs) : SqL K H a xs := by
  rcases h with h | h
  · exact .inl (.inr h)
  · exact .inr h
theorem SRel.seq {n : Nat} {ws : List T} (r : SRel B K ι H S) (hn : getL S n = some ws) {a : Addr} (ha : ι[n]? = some a) : ∃ vs, SqL K H a vs ∧ Reps K H ι vs ws := by
  unfold getL at hn
  cases hc : S[n]? with
  | none => rw [hc] at hn; cases hn
  | some c =>
    rw [hc] at hn
    obtain ⟨b, h1, h2⟩ := r.cell n c hc
    rw [ha] at h1
    cases h1
    cases c with
    | lst ws =>
      cases hn
      obtain ⟨vs, h3, h4⟩ := h2
      exact ⟨vs, SqL.of h3, h4⟩
    | rol ws =>
      cases hn
      obtain ⟨vs, h3, h4⟩ := h2
      exact ⟨vs, h3.seq, h4⟩
    | fn => cases hn
theorem SRel.at {n : Nat} {ws : List T} (r : SRel B K ι H S) (hn : S[n]? = some (.lst ws)) {a : Addr} (ha : ι[n]? = some a) : ∃ vs, H a = some (.lst vs) ∧ Reps K H ι vs ws := by
  obtain ⟨b, h1, h2⟩ := r.cell n _ hn
  rw [ha] at h1
  cases h1
  exact h2
end

/-! ### the lifting -/
/-- what holds of values of the three kinds -/
class Vw (β : Type) (α : outParam Type) where
  rel : PySem.W.Frag → List Addr → Hp → β → α → Prop
  later : ∀ {K : PySem.W.Frag} {ι ι' : List Addr} {H H' : Hp} {x : β} {y : α}, Later K ι H ι' H' → rel K ι H x y → rel K ι' H' x y
instance : Vw V T := ⟨fun K ι H v w => Rep K H ι v w, fun e r => r.later e⟩
instance : Vw (List V) (List T) := ⟨fun K ι H v w => Reps K H ι v w, fun e r => r.later e⟩
instance : Vw Bool Bool := ⟨fun _ _ _ a b => a = b, fun _ r => r⟩
instance : Vw L2.St Env := ⟨fun K ι H v w => ERel K ι H v w, fun e r => r.later e⟩

/-- the given: where the lambdas' tables lie, the module's names, the written part -/
structure Gv where
  B : Bd
  mg : Str → Option Value
  K : PySem.W.Frag

def Post {β α : Type} [Vw β α] (g : Gv) (W : WX) (σ : L2.St) (ι : List Addr) (H : Hp) (o : Out α) (Q : β → Hp → Prop) : Prop := match o with
  | .ok w S' => ∀ (v : β) (H' : Hp) (ι' : List Addr), Later g.K ι H ι' H' → SRel g.B g.K ι' H' S' → Vw.rel g.K ι' H' v w → Q v H'
  | .exc e S' => ∀ (c : Value) (d : Option Addr) (H' : Hp) (ι' : List Addr), Later g.K ι H ι' H' → SRel g.B g.K ι' H' S' → XRep g.mg g.K ι' H' c d e → W c d σ H'
  | .bad => False
theorem Post.from {β α : Type} [Vw β α] {g : Gv} {W : WX} {σ : L2.St} {ι ι' : List Addr} {H H' : Hp} {o : Out α} {Q : β → Hp → Prop} (e : Later g.K ι H ι' H') (p : Post g W σ ι H o Q) : Post g W σ ι' H' o Q := by
  cases o with
  | ok w S => exact fun v H2 ι2 l => p v H2 ι2 (e.trans l)
  | exc x S => exact fun c d H2 ι2 l => p c d H2 ι2 (e.trans l)
  | bad => exact p
theorem Post.mono {β α : Type} [Vw β α] {g : Gv} {W : WX} {σ : L2.St} {ι : List Addr} {H : Hp} {o : Out α} {Q Q' : β → Hp → Prop} (p : Post g W σ ι H o Q) (h : ∀ v H', Q v H' → Q' v H') : Post g W σ ι H o Q' := by
  cases o with
  | ok w S => exact fun v H2 ι2 l s r => h _ _ (p v H2 ι2 l s r)
  | exc x S => exact p
  | bad => exact p
/-- one after the other -/
theorem Post.bind {β α β' α' : Type} [Vw β α] [Vw β' α'] {g : Gv} {W : WX} {σ : L2.St} {ι : List Addr} {H : Hp} {o : Out α} {k : α → Store → Out α'} {Q : β' → Hp → Prop} {R : β → Hp → Prop} (p : Post g W σ ι H (o.bind k) Q)
    (h : ∀ (v : β) (w : α) (S1 : Store) (H1 : Hp) (ι1 : List Addr), Later g.K ι H ι1 H1 → SRel g.B g.K ι1 H1 S1 → Vw.rel g.K ι1 H1 v w → Post g W σ ι1 H1 (k w S1) Q → R v H1) : Post g W σ ι H o R := by
  cases o with
  | ok w S => exact fun v H1 ι1 l s r => h v w S H1 ι1 l s r (Post.from l p)
  | exc x S => exact p
  | bad => exact p

/-- an expression's, a test's, an argument list's wish by a function -/
def lift {β α : Type} [Vw β α] (g : Gv) (W : WX) (f : Env → Store → Out α) (σ : L2.St) (H : Hp) (Q : β → Hp → Prop) : Prop :=
  ∃ (ι : List Addr) (S : Store) (ρ : Env), SRel g.B g.K ι H S ∧ ERel g.K ι H σ ρ ∧ Post g W σ ι H (f ρ S) Q
/-- of statements -/
def PostS (g : Gv) (W : WX) (D : Ends) (ι : List Addr) (H : Hp) : OutS → Prop
  | .nx ρ' S' => ∀ (σ' : L2.St) (H' : Hp) (ι' : List Addr), Later g.K ι H ι' H' → SRel g.B g.K ι' H' S' → ERel g.K ι' H' σ' ρ' → D.nx σ' H'
  | .bk ρ' S' => ∀ (σ' : L2.St) (H' : Hp) (ι' : List Addr), Later g.K ι H ι' H' → SRel g.B g.K ι' H' S' → ERel g.K ι' H' σ' ρ' → D.bk σ' H'
  | .ct ρ' S' => ∀ (σ' : L2.St) (H' : Hp) (ι' : List Addr), Later g.K ι H ι' H' → SRel g.B g.K ι' H' S' → ERel g.K ι' H' σ' ρ' → D.ct σ' H'
  | .rt w S' => ∀ (v : V) (H' : Hp) (ι' : List Addr), Later g.K ι H ι' H' → SRel g.B g.K ι' H' S' → Rep g.K H' ι' v w → D.rt v H'
  | .exc e ρ' S' => ∀ (c : Value) (d : Option Addr) (σ' : L2.St) (H' : Hp) (ι' : List Addr), Later g.K ι H ι' H' → SRel g.B g.K ι' H' S' → ERel g.K ι' H' σ' ρ' → XRep g.mg g.K ι' H' c d e → W c d σ' H'
  | .bad => False
theorem PostS.from {g : Gv} {W : WX} {D : Ends} {ι ι' : List Addr} {H H' : Hp} {o : OutS} (e : Later g.K ι H ι' H') (p : PostS g W D ι H o) : PostS g W D ι' H' o := by
  cases o with
  | nx ρ S => exact fun v H2 ι2 l => p v H2 ι2 (e.trans l)
  | bk ρ S => exact fun v H2 ι2 l => p v H2 ι2 (e.trans l)
  | ct ρ S => exact fun v H2 ι2 l => p v H2 ι2 (e.trans l)
  | rt w S => exact fun v H2 ι2 l => p v H2 ι2 (e.trans l)
  | exc x ρ S => exact fun c d v H2 ι2 l => p c d v H2 ι2 (e.trans l)
  | bad => exact p
def liftS (g : Gv) (W : WX) (f : FS) : TS := fun D σ H => ∃ (ι : List Addr) (S : Store) (ρ : Env), SRel g.B g.K ι H S ∧ ERel g.K ι H σ ρ ∧ PostS g W D ι H (f ρ S)
/-- an expression ahead of the rest of a statement -/
theorem PostS.bind {β α : Type} [Vw β α] {g : Gv} {W : WX} {D : Ends} {σ : L2.St} {ρ : Env} {ι : List Addr} {H : Hp} {o : Out α} {k : α → Store → OutS} {R : β → Hp → Prop} (er : ERel g.K ι H σ ρ) (p : PostS g W D ι H (o.thenS ρ k))
    (h : ∀ (v : β) (w : α) (S1 : Store) (H1 : Hp) (ι1 : List Addr), Later g.K ι H ι1 H1 → SRel g.B g.K ι1 H1 S1 → Vw.rel g.K ι1 H1 v w → PostS g W D ι1 H1 (k w S1) → R v H1) : Post g W σ ι H o R := by
  cases o with
  | ok w S => exact fun v H1 ι1 l s r => h v w S H1 ι1 l s r (PostS.from l p)
  | exc x S => exact fun c d H' ι' l s r => p c d σ H' ι' l s (er.later l) r
  | bad => exact p

/-! ### the judgements -/
abbrev JE (g : Gv) (X : Cx) (W : WX) (e : Expr) (f : FE) : Prop := PE X e (lift g W f)
abbrev JT (g : Gv) (X : Cx) (W : WX) (e : Expr) (f : FT) : Prop := PT X e (lift g W f)
abbrev JW (g : Gv) (X : Cx) (W : WX) (e : Expr) (f : FT) : Prop := PW X e (lift g W f)
abbrev JA (g : Gv) (X : Cx) (W : WX) (es : List Expr) (f : FA) : Prop := PA X es (lift g W f)
abbrev JS (g : Gv) (X : Cx) (W : WX) (st : Stmt) (f : FS) : Prop := PS X st (liftS g W f)
abbrev JB (g : Gv) (X : Cx) (W : WX) (st : List Stmt) (f : FS) : Prop := PSs X st (liftS g W f)

theorem PE.imp {X : Cx} {e : Expr} {t t' : TE} (h : PE X e t) (i : ∀ σ H Q, t' σ H Q → t σ H Q) : PE X e t' := ⟨fun pins s σ H Q I q => h.run pins s σ H Q I (i σ H Q q)⟩
theorem PT.imp {X : Cx} {e : Expr} {t t' : TT} (h : PT X e t) (i : ∀ σ H Q, t' σ H Q → t σ H Q) : PT X e t' := ⟨fun pins s σ H Q I q => h.run pins s σ H Q I (i σ H Q q)⟩
theorem PW.imp {X : Cx} {e : Expr} {t t' : TT} (h : PW X e t) (i : ∀ σ H Q, t' σ H Q → t σ H Q) : PW X e t' := ⟨fun wh pins s σ H Q I q => h.run wh pins s σ H Q I (i σ H Q q)⟩
theorem PA.imp {X : Cx} {e : List Expr} {t t' : TA} (h : PA X e t) (i : ∀ σ H Q, t' σ H Q → t σ H Q) : PA X e t' := ⟨fun pos pins s σ H Q I q => h.run pos pins s σ H Q I (i σ H Q q)⟩
theorem PS.imp {X : Cx} {e : Stmt} {t t' : TS} (h : PS X e t) (i : ∀ D σ H, t' D σ H → t D σ H) : PS X e t' := ⟨fun pins s σ H D I q => h.run pins s σ H D I (i D σ H q)⟩
theorem PSs.imp {X : Cx} {e : List Stmt} {t t' : TS} (h : PSs X e t) (i : ∀ D σ H, t' D σ H → t D σ H) : PSs X e t' := ⟨fun pins s σ H D I q => h.run pins s σ H D I (i D σ H q)⟩
/-- a lift, and one part behind the other -/
theorem lift.bind {β α β' α' : Type} [Vw β α] [Vw β' α'] {g : Gv} {W : WX} {σ : L2.St} {H : Hp} {f : Env → Store → Out α} {k : Env → α → Store → Out α'} {Q : β' → Hp → Prop} {R : β → Hp → Prop} (h : lift g W (fun ρ S => (f ρ S).bind (k ρ)) σ H Q)
    (i : ∀ (v : β) (w : α) (S1 : Store) (H1 : Hp) (ι1 : List Addr) (ρ : Env), SRel g.B g.K ι1 H1 S1 → ERel g.K ι1 H1 σ ρ → Vw.rel g.K ι1 H1 v w → Post g W σ ι1 H1 (k ρ w S1) Q → R v H1) : lift g W f σ H R := by
  obtain ⟨ι, S, ρ, sr, er, p⟩ := h
  exact ⟨ι, S, ρ, sr, er, p.bind fun v w S1 H1 ι1 l s r q => i v w S1 H1 ι1 ρ s (er.later l) r q⟩
theorem liftS.bind {β α : Type} [Vw β α] {g : Gv} {W : WX} {σ : L2.St} {H : Hp} {D : Ends} {f : Env → Store → Out α} {k : Env → α → Store → OutS} {R : β → Hp → Prop} (h : liftS g W (fun ρ S => (f ρ S).thenS ρ (k ρ)) D σ H)
    (i : ∀ (v : β) (w : α) (S1 : Store) (H1 : Hp) (ι1 : List Addr) (ρ : Env), SRel g.B g.K ι1 H1 S1 → ERel g.K ι1 H1 σ ρ → Vw.rel g.K ι1 H1 v w → PostS g W D ι1 H1 (k ρ w S1) → R v H1) : lift g W f σ H R := by
  obtain ⟨ι, S, ρ, sr, er, p⟩ := h
  exact ⟨ι, S, ρ, sr, er, PostS.bind er p fun v w S1 H1 ι1 l s r q => i v w S1 H1 ι1 ρ s (er.later l) r q⟩
/-- a value given at once -/
theorem Post.now {β α : Type} [Vw β α] {g : Gv} {W : WX} {σ : L2.St} {ι : List Addr} {H : Hp} {w : α} {S : Store} {v : β} {Q : β → Hp → Prop} (p : Post g W σ ι H (.ok w S) Q) (s : SRel g.B g.K ι H S) (r : Vw.rel g.K ι H v w) : Q v H :=
  p v H ι Later.refl s r
end Fl

set_option Elab.async false
set_option linter.all false
set_option maxRecDepth 100000
set_option maxHeartbeats 4000000
/-! Fl2: operators, calls of built-ins, tests, displays: functions and their rules. -/
namespace Fl
open PySem PySem.Spec PyProof.Rows L2

/-- the longest list, the longest text -/
abbrev line : Nat := 16777216
theorem line_eq : sizeLine = line := sizeLine_eq
theorem le_line {n : Nat} (h : n ≤ line) : n ≤ sizeLine := by rw [line_eq]; exact h
theorem lt_line {n : Nat} (h : n < line) : n < sizeLine := by rw [line_eq]; exact h

abbrev gX (B : Bd) (X : Cx) : Gv := ⟨B, X.mg, X.K⟩
abbrev R := Option (T × Store)
def Out.of : R → Out T
  | some p => .ok p.1 p.2
  | none => .bad
def PostO (g : Gv) (ι : List Addr) (H : Hp) (o : R) (Q : VK) : Prop := match o with
  | some p => ∀ (v : V) (H' : Hp) (ι' : List Addr), Later g.K ι H ι' H' → SRel g.B g.K ι' H' p.2 → Rep g.K H' ι' v p.1 → Q v H'
  | none => False
theorem Post.o {g : Gv} {W : WX} {σ : L2.St} {ι : List Addr} {H : Hp} {o : R} {Q : VK} (p : Post g W σ ι H (Out.of o) Q) : PostO g ι H o Q := by
  cases o with
  | some p' => exact p
  | none => exact p
theorem PostO.now {g : Gv} {ι : List Addr} {H : Hp} {w : T} {S : Store} {v : V} {Q : VK} (p : PostO g ι H (some (w, S)) Q) (s : SRel g.B g.K ι H S) (r : Rep g.K H ι v w) : Q v H := p v H ι Later.refl s r
theorem PostO.ite {g : Gv} {ι : List Addr} {H : Hp} {c : Prop} [Decidable c] {a : R} {Q : VK} (p : PostO g ι H (if c then a else none) Q) : c ∧ PostO g ι H a Q := by
  by_cases h : c
  · rw [if_pos h] at p
    exact ⟨h, p⟩
  · rw [if_neg h] at p
    exact p.elim
/-- a new tuple, a new list -/
theorem PostO.tup {g : Gv} {ι : List Addr} {H : Hp} {S : Store} {ws : List T} {vs : List V} {Q : VK} (p : PostO g ι H (some (.tup ws, S)) Q) (s : SRel g.B g.K ι H S) (r : Reps g.K H ι vs ws) : ∀ a, H a = none → Q (.ref a) (upd H a (.tup vs)) := fun a ha =>
  p _ _ ι (Later.laid ha) (s.laid ha) (.tup (SqT.of upd_same) (r.later (Later.laid ha)))
theorem PostO.lst {g : Gv} {ι : List Addr} {H : Hp} {S : Store} {ws : List T} {vs : List V} {Q : VK} (p : PostO g ι H (some (.ref S.length, S ++ [.lst ws])) Q) (s : SRel g.B g.K ι H S) (r : Reps g.K H ι vs ws) : ∀ a, H a = none → Q (.ref a) (upd H a (.lst vs)) := fun a ha =>
  p _ _ (ι ++ [a]) (Later.more ha) (s.more ha r) (.ref (by rw [← s.len]; simp))

abbrev O1 := T → Store → R
abbrev O2 := T → T → Store → R
abbrev ON := List T → Store → R
def J2 (B : Bd) (X : Cx) (f : Value → Value → Sem Value) (o : O2) : Prop := OpR X f (fun x y H Q => ∃ (ι : List Addr) (S : Store) (a b : T), SRel B X.K ι H S ∧ Rep X.K H ι x a ∧ Rep X.K H ι y b ∧ PostO (gX B X) ι H (o a b S) Q)
def JN (B : Bd) (X : Cx) (f : Value) (o : ON) : Prop := CallR X f (fun xs H Q => ∃ (ι : List Addr) (S : Store) (as : List T), SRel B X.K ι H S ∧ Reps X.K H ι xs as ∧ PostO (gX B X) ι H (o as S) Q)
def fBin (o : O2) (f h : FE) : FE := fun ρ S => (f ρ S).bind fun a S1 => (h ρ S1).bind fun b S2 => Out.of (o a b S2)

section
variable {B : Bd} {X : Cx} {W : WX} {a b c : Expr} {fa fb fc : FE} {pos : Pos}
theorem e_bin {op : Operator} {o : O2} (ho : J2 B X (binaryOp op) o) (ha : PE X a (lift (gX B X) W fa)) (hb : PE X b (lift (gX B X) W fb)) : PE X (.BinOp a op b pos) (lift (gX B X) W (fBin o fa fb)) :=
  PE.imp (pe_op ho ha hb) fun σ H Q h => h.bind fun v w S1 H1 ι1 ρ s1 e1 r1 p => ⟨ι1, S1, ρ, s1, e1, p.bind fun v2 w2 S2 H2 ι2 l s2 r2 p2 => ⟨ι2, S2, w, w2, s2, Rep.later l r1, r2, p2.o⟩⟩
theorem e_cmp {op : CmpOp} {o : O2} (ho : J2 B X (compareOp op) o) (ha : PE X a (lift (gX B X) W fa)) (hb : PE X b (lift (gX B X) W fb)) (hm : behindInMarks op b = false := by first | exact nomark _ | rfl) : PE X (.Compare a [op] [b] pos) (lift (gX B X) W (fBin o fa fb)) :=
  PE.imp (pe_cmpR ho ha hb hm) fun σ H Q h => h.bind fun v w S1 H1 ι1 ρ s1 e1 r1 p => ⟨ι1, S1, ρ, s1, e1, p.bind fun v2 w2 S2 H2 ι2 l s2 r2 p2 => ⟨ι2, S2, w, w2, s2, Rep.later l r1, r2, p2.o⟩⟩

/-! ### names, constants -/
def fVar (i : Nat) : FE := fun ρ S => match ρ[i]? with
  | some (some w) => .ok w S
  | _ => .bad
theorem fVar_ok {g : Gv} {σ : L2.St} {H : Hp} {i : Nat} {Q : VK} (h : lift g W (fVar i) σ H Q) : tVar i σ H Q := by
  obtain ⟨ι, S, ρ, s, e, p⟩ := h
  unfold fVar at p
  split at p
  · rename_i w hw
    obtain ⟨v, h1, h2⟩ := e.2 i w hw
    exact ⟨v, h1, p.now s h2⟩
  · exact p.elim
theorem e_var (i : Nat) {x : Str} (hN : X.N[i]? = some x := by rfl) (hv : Vis X.env.scope x := by first | exact Or.inl rfl | exact Or.inr (Or.inl rfl) | exact Or.inr (Or.inr rfl)) (hd : (x == ("__debug__" : Str)) = false := by decide)
    (hcd : (x == ("__classdict__" : Str)) = false := by decide) : PE X (.Name x pos) (lift (gX B X) W (fVar i)) := PE.imp (pe_var hN hv hd hcd) fun _ _ _ h => fVar_ok h
def fC (w : T) : FE := fun _ S => .ok w S
theorem e_int {i : Int} {j : Nat} : PE X (.Constant (.int i) j pos) (lift (gX B X) W (fC (.int i))) := PE.imp pe_int fun _ _ _ ⟨ι, S, ρ, s, e, p⟩ => p.now s (Rep.int i)
theorem e_bl {i : Bool} {j : Nat} : PE X (.Constant (.bool i) j pos) (lift (gX B X) W (fC (.bl i))) := PE.imp pe_bl fun _ _ _ ⟨ι, S, ρ, s, e, p⟩ => p.now s (Rep.bl i)
theorem e_non {j : Nat} : PE X (.Constant .none j pos) (lift (gX B X) W (fC .non)) := PE.imp pe_non fun _ _ _ ⟨ι, S, ρ, s, e, p⟩ => p.now s Rep.non
theorem e_str {x : Str} {j : Nat} : PE X (.Constant (.str x) j pos) (lift (gX B X) W (fC (.str x))) := PE.imp pe_str fun _ _ _ ⟨ι, S, ρ, s, e, p⟩ => p.now s (Rep.str x)

/-! ### operators -/
def oAdd : O2
  | .int i, .int j, S => some (.int (i + j), S)
  | .str x, .str y, S => if x.length + y.length ≤ line then some (.str (x ++ y), S) else none
  | .tup xs, .tup ys, S => if xs.length + ys.length ≤ line then some (.tup (xs ++ ys), S) else none
  | .ref n, .ref m, S => match S[n]?, S[m]? with
    | some (.lst xs), some (.lst ys) => if xs.length + ys.length ≤ line then some (.ref S.length, S ++ [.lst (xs ++ ys)]) else none
    | _, _ => none
  | _, _, _ => none
theorem o_add : J2 B X (binaryOp .Add) oAdd := by
  intro pins s σ H x y v u Q I rx ry ⟨ι, S, a, b, sr, ra, rb, p⟩
  cases ra with
  | int i => cases rb with
    | int j => exact op_add pins s σ H _ _ v u Q I rx ry ⟨i, j, rfl, rfl, p.now sr (.int _)⟩
    | _ => exact p.elim
  | str i => cases rb with
    | str j =>
      obtain ⟨hz, p⟩ := PostO.ite p
      exact op_add_str pins s σ H _ _ v u Q I rx ry ⟨i, j, rfl, rfl, le_line hz, p.now sr (.str _)⟩
    | _ => exact p.elim
  | tup h r => cases rb with
    | tup h' r' =>
      obtain ⟨hz, p⟩ := PostO.ite p
      refine op_catA pins s σ H _ _ v u Q I rx ry ⟨_, _, _, _, rfl, rfl, h, h', ?_, fun e => ?_, fun _ e => ?_, fun _ _ => p.tup sr (r.append r')⟩
      · rw [r.length, r'.length]; exact le_line hz
      · subst e; cases r; exact p.now sr (.tup h' r')
      · subst e
        cases r'
        rw [List.append_nil] at p
        exact p.now sr (.tup h r)
    | _ => exact p.elim
  | ref h => cases rb with
    | ref h' =>
      rename_i n p1 m p2
      have p : PostO (gX B X) ι H (match S[n]?, S[m]? with
        | some (.lst xs), some (.lst ys) => if xs.length + ys.length ≤ line then some (.ref S.length, S ++ [.lst (xs ++ ys)]) else none
        | _, _ => none) Q := p
      split at p
      · rename_i xs ys e1 e2
        obtain ⟨hz, p⟩ := PostO.ite p
        obtain ⟨vs, h1, r1⟩ := sr.at e1 h
        obtain ⟨us, h2, r2⟩ := sr.at e2 h'
        refine op_cat pins s σ H _ _ v u Q I rx ry ⟨_, _, _, _, rfl, rfl, h1, h2, ?_, p.lst sr (r1.append r2)⟩
        rw [r1.length, r2.length]; exact le_line hz
      · exact p.elim
    | _ => exact p.elim
  | _ => cases rb <;> exact p.elim
def o2I (f : Int → Int → R) : T → T → R
  | .int i, .int j => f i j
  | _, _ => none
theorem o2I_ok {f : Int → Int → R} {g : Gv} {ι : List Addr} {H : Hp} {x y : V} {a b : T} {Q : VK} (ra : Rep g.K H ι x a) (rb : Rep g.K H ι y b) (p : PostO g ι H (o2I f a b) Q) : ∃ i j, x = .int i ∧ y = .int j ∧ a = .int i ∧ b = .int j ∧ PostO g ι H (f i j) Q := by
  cases ra with
  | int i => cases rb with
    | int j => exact ⟨i, j, rfl, rfl, rfl, rfl, p⟩
    | _ => exact p.elim
  | _ => cases rb <;> exact p.elim
def oSub : O2 := fun a b S => o2I (fun i j => some (.int (i - j), S)) a b
theorem o_sub : J2 B X (binaryOp .Sub) oSub := by
  intro pins s σ H x y v u Q I rx ry ⟨ι, S, a, b, sr, ra, rb, p⟩
  obtain ⟨i, j, rfl, rfl, rfl, rfl, p⟩ := o2I_ok (g := gX B X) ra rb p
  exact op_sub pins s σ H _ _ v u Q I rx ry ⟨i, j, rfl, rfl, p.now sr (.int _)⟩
/-- a product whose factors have together fewer than a million bits -/
def mulOk (i j : Int) : Bool := decide (i.natAbs.log2 + j.natAbs.log2 < 1000000)
def oMul : O2 := fun a b S => match a, b with
  | .int i, .int j => if mulOk i j = true then some (.int (i * j), S) else none
  | .ref n, .int k => match S[n]? with
    | some (.lst xs) => if -(2 ^ 63) ≤ k ∧ k < 2 ^ 63 ∧ xs.length * k.toNat ≤ line then some (.ref S.length, S ++ [.lst (List.replicate k.toNat xs).flatten]) else none
    | _ => none
  | _, _ => none
theorem Reps.rep {K : PySem.W.Frag} {H : Hp} {ι : List Addr} {vs : List V} {ws : List T} (r : Reps K H ι vs ws) : ∀ k : Nat, Reps K H ι (List.replicate k vs).flatten (List.replicate k ws).flatten
  | 0 => .nil
  | k + 1 => by
    rw [List.replicate_succ, List.replicate_succ, List.flatten_cons, List.flatten_cons]
    exact r.append (Reps.rep r k)
theorem o_mul : J2 B X (binaryOp .Mult) oMul := by
  intro pins s σ H x y v u Q I rx ry ⟨ι, S, a, b, sr, ra, rb, p⟩
  cases ra with
  | int i => cases rb with
    | int j =>
      obtain ⟨hz, p⟩ := PostO.ite p
      exact op_mulW pins s σ H _ _ v u Q I rx ry ⟨i, j, rfl, rfl, (show i.natAbs.log2 + j.natAbs.log2 < 1000000 from of_decide_eq_true hz), p.now sr (.int _)⟩
    | _ => exact p.elim
  | ref h => cases rb with
    | int k =>
      rename_i n p1
      have p : PostO (gX B X) ι H (match S[n]? with
        | some (.lst xs) => if -(2 ^ 63) ≤ k ∧ k < 2 ^ 63 ∧ xs.length * k.toNat ≤ line then some (.ref S.length, S ++ [.lst (List.replicate k.toNat xs).flatten]) else none
        | _ => none) Q := p
      split at p
      · rename_i xs e1
        obtain ⟨⟨h1, h2, h3⟩, p⟩ := PostO.ite p
        obtain ⟨vs, h4, r1⟩ := sr.at e1 h
        exact op_rep pins s σ H _ _ v u Q I rx ry ⟨_, k, _, rfl, rfl, h4, h1, h2, by rw [r1.length]; exact le_line h3, p.lst sr (r1.rep _)⟩
      · exact p.elim
    | _ => exact p.elim
  | _ => cases rb <;> exact p.elim
def oMod : O2 := fun a b S => o2I (fun i j => if 0 < j then some (.int (i % j), S) else none) a b
theorem o_mod : J2 B X (binaryOp .Mod) oMod := by
  intro pins s σ H x y v u Q I rx ry ⟨ι, S, a, b, sr, ra, rb, p⟩
  obtain ⟨i, j, rfl, rfl, rfl, rfl, p⟩ := o2I_ok (g := gX B X) ra rb p
  obtain ⟨h, p⟩ := PostO.ite p
  exact op_mod pins s σ H _ _ v u Q I rx ry ⟨i, j, rfl, rfl, h, p.now sr (.int _)⟩
/-- a quotient: the divisor is not 0, and below 2^9000 -/
def divOk (j : Int) : Bool := decide (j ≠ 0 ∧ j.natAbs.log2 < 9000)
def oDiv : O2 := fun a b S => o2I (fun i j => if divOk j = true then some (.int (i.fdiv j), S) else none) a b
theorem op_divA : OpR X (binaryOp .FloorDiv) (rI (fun _ j => j ≠ 0 ∧ j.natAbs.log2 < 9000) fun i j => .int (i.fdiv j)) := opI fun _ _ _ _ _ _ _ hc q => floordiv_int hc.1 q (.inl (PyProof.noPylong_of_log2 hc.2))
theorem o_div : J2 B X (binaryOp .FloorDiv) oDiv := by
  intro pins s σ H x y v u Q I rx ry ⟨ι, S, a, b, sr, ra, rb, p⟩
  obtain ⟨i, j, rfl, rfl, rfl, rfl, p⟩ := o2I_ok (g := gX B X) ra rb p
  obtain ⟨h, p⟩ := PostO.ite p
  exact op_divA pins s σ H _ _ v u Q I rx ry ⟨i, j, rfl, rfl, of_decide_eq_true h, p.now sr (.int _)⟩
def oPow : O2 := fun a b S => o2I (fun i j => if 0 ≤ j ∧ j ≤ 1000000 ∧ i.natAbs < 2 ^ 64 then some (.int (i ^ j.toNat), S) else none) a b
theorem o_pow : J2 B X (binaryOp .Pow) oPow := by
  intro pins s σ H x y v u Q I rx ry ⟨ι, S, a, b, sr, ra, rb, p⟩
  obtain ⟨i, j, rfl, rfl, rfl, rfl, p⟩ := o2I_ok (g := gX B X) ra rb p
  obtain ⟨h, p⟩ := PostO.ite p
  exact op_pow pins s σ H _ _ v u Q I rx ry ⟨i, j, rfl, rfl, h, p.now sr (.int _)⟩
def fNeg (f : FE) : FE := fun ρ S => (f ρ S).bind fun a S1 => match a with
  | .int i => .ok (.int (-i)) S1
  | _ => .bad
theorem e_neg (ha : PE X a (lift (gX B X) W fa)) : PE X (.UnaryOp .USub a pos) (lift (gX B X) W (fNeg fa)) :=
  PE.imp (pe_un un_neg ha) fun σ H Q h => h.bind fun v w S1 H1 ι1 ρ s1 e1 r1 p => by
    have r1 : Rep X.K H1 ι1 v w := r1
    cases r1 with
    | int i => exact ⟨i, rfl, p.now s1 (.int _)⟩
    | _ => exact p.elim

/-! ### comparisons -/
/-- equality of plain values of any two kinds -/
def teq : T → T → Option Bool
  | .int i, .int j => some (decide (i = j))
  | .str x, .str y => some (decide (x = y))
  | .bl b, .bl c => some (decide (b = c))
  | .non, .non => some true
  | .non, .int _ => some false
  | .int _, .non => some false
  | .non, .bl _ => some false
  | .bl _, .non => some false
  | .non, .str _ => some false
  | .str _, .non => some false
  | .int _, .str _ => some false
  | .str _, .int _ => some false
  | .bl _, .str _ => some false
  | .str _, .bl _ => some false
  | _, _ => none
def oEq : O2 := fun a b S => (teq a b).map fun k => (.bl k, S)
def oNe : O2 := fun a b S => (teq a b).map fun k => (.bl (!k), S)
theorem PostO.map {g : Gv} {ι : List Addr} {H : Hp} {o : Option Bool} {f : Bool → T × Store} {Q : VK} (p : PostO g ι H (o.map f) Q) : ∃ k, o = some k ∧ PostO g ι H (some (f k)) Q := by
  cases o with
  | none => exact p.elim
  | some k => exact ⟨k, rfl, p⟩
theorem teq_ok {K : PySem.W.Frag} {ι : List Addr} {H : Hp} {x y : V} {a b : T} {k : Bool} (ra : Rep K H ι x a) (rb : Rep K H ι y b) (e : teq a b = some k) : scal x y = true ∧ decide (x = y) = k := by
  cases ra with
  | int i => cases rb with
    | int j => cases e; exact ⟨rfl, by rw [dec_int, Bool.beq_eq_decide_eq]⟩
    | str j => cases e; exact ⟨rfl, rfl⟩
    | non => cases e; exact ⟨rfl, rfl⟩
    | _ => cases e
  | bl i => cases rb with
    | bl j => cases e; exact ⟨rfl, by rw [dec_bl, Bool.beq_eq_decide_eq]⟩
    | str j => cases e; exact ⟨rfl, rfl⟩
    | non => cases e; exact ⟨rfl, rfl⟩
    | _ => cases e
  | str i => cases rb with
    | str j => cases e; exact ⟨rfl, by by_cases h : i = j <;> simp [h]⟩
    | int j => cases e; exact ⟨rfl, rfl⟩
    | bl j => cases e; exact ⟨rfl, rfl⟩
    | non => cases e; exact ⟨rfl, rfl⟩
    | _ => cases e
  | non => cases rb with
    | non => cases e; exact ⟨rfl, rfl⟩
    | int j => cases e; exact ⟨rfl, rfl⟩
    | bl j => cases e; exact ⟨rfl, rfl⟩
    | str j => cases e; exact ⟨rfl, rfl⟩
    | _ => cases e
  | _ => cases rb <;> cases e
theorem o_eq : J2 B X (compareOp .Eq) oEq := by
  intro pins s σ H x y v u Q I rx ry ⟨ι, S, a, b, sr, ra, rb, p⟩
  obtain ⟨k, e, p⟩ := PostO.map p
  obtain ⟨h1, h2⟩ := teq_ok ra rb e
  exact op_eq pins s σ H _ _ v u Q I rx ry ⟨h1, by rw [h2]; exact p.now sr (.bl _)⟩
theorem o_ne : J2 B X (compareOp .NotEq) oNe := by
  intro pins s σ H x y v u Q I rx ry ⟨ι, S, a, b, sr, ra, rb, p⟩
  obtain ⟨k, e, p⟩ := PostO.map p
  obtain ⟨h1, h2⟩ := teq_ok ra rb e
  exact op_ne pins s σ H _ _ v u Q I rx ry ⟨h1, by rw [h2]; exact p.now sr (.bl _)⟩
/-- the order of texts -/
def strLt (x y : Str) : Bool := decide (x.cps.toList < y.cps.toList)
def oLt : O2 := fun a b S => match a, b with
  | .int i, .int j => some (.bl (decide (i < j)), S)
  | .str x, .str y => some (.bl (strLt x y), S)
  | _, _ => none
theorem o_lt : J2 B X (compareOp .Lt) oLt := by
  intro pins s σ H x y v u Q I rx ry ⟨ι, S, a, b, sr, ra, rb, p⟩
  cases ra with
  | int i => cases rb with
    | int j => exact op_lt pins s σ H _ _ v u Q I rx ry ⟨i, j, rfl, rfl, p.now sr (.bl _)⟩
    | _ => exact p.elim
  | str i => cases rb with
    | str j => exact op_lt_str pins s σ H _ _ v u Q I rx ry ⟨i, j, rfl, rfl, p.now sr (.bl _)⟩
    | _ => exact p.elim
  | _ => cases rb <;> exact p.elim
def oLe : O2 := fun a b S => o2I (fun i j => some (.bl (decide (i ≤ j)), S)) a b
theorem o_le : J2 B X (compareOp .LtE) oLe := by
  intro pins s σ H x y v u Q I rx ry ⟨ι, S, a, b, sr, ra, rb, p⟩
  obtain ⟨i, j, rfl, rfl, rfl, rfl, p⟩ := o2I_ok (g := gX B X) ra rb p
  exact op_le pins s σ H _ _ v u Q I rx ry ⟨i, j, rfl, rfl, p.now sr (.bl _)⟩
def oGt : O2 := fun a b S => o2I (fun i j => some (.bl (decide (j < i)), S)) a b
theorem o_gt : J2 B X (compareOp .Gt) oGt := by
  intro pins s σ H x y v u Q I rx ry ⟨ι, S, a, b, sr, ra, rb, p⟩
  obtain ⟨i, j, rfl, rfl, rfl, rfl, p⟩ := o2I_ok (g := gX B X) ra rb p
  exact op_gt pins s σ H _ _ v u Q I rx ry ⟨i, j, rfl, rfl, p.now sr (.bl _)⟩
def oGe : O2 := fun a b S => o2I (fun i j => some (.bl (decide (j ≤ i)), S)) a b
theorem o_ge : J2 B X (compareOp .GtE) oGe := by
  intro pins s σ H x y v u Q I rx ry ⟨ι, S, a, b, sr, ra, rb, p⟩
  obtain ⟨i, j, rfl, rfl, rfl, rfl, p⟩ := o2I_ok (g := gX B X) ra rb p
  exact op_ge pins s σ H _ _ v u Q I rx ry ⟨i, j, rfl, rfl, p.now sr (.bl _)⟩
/-- is None, is True, is False -/
def isNon : T → Bool
  | .non => true
  | _ => false
def isBl (k : Bool) : T → Bool
  | .bl b => b == k
  | _ => false
def oIs : O2 := fun a b S => match b with
  | .non => some (.bl (isNon a), S)
  | .bl k => some (.bl (isBl k a), S)
  | _ => none
def oIsNot : O2 := fun a b S => match b with
  | .non => some (.bl (!isNon a), S)
  | _ => none
theorem isNon_ok {K : PySem.W.Frag} {ι : List Addr} {H : Hp} {x : V} {a : T} (ra : Rep K H ι x a) : decide (x = .non) = isNon a := by cases ra <;> rfl
theorem op_isBool : OpR X (compareOp .Is) (fun x y H Q => ∃ b : Bool, y = .bl b ∧ Q (.bl (decide (x = .bl b))) H) := by
  intro pins s σ H x y v u Q I rx ry ⟨b, e, q⟩
  subst e
  cases (show u = Value.bool b from ry)
  have key : wpAny (model X.prog X.w) X.A (compareOp .Is v (.bool b)) (fun r s' => r = Value.bool (decide (x = .bl b)) ∧ s' = s) X.xe s := by
    cases x with
    | non => cases rx; exact wpAny_pure ⟨rfl, rfl⟩
    | bl c => cases rx; exact wpAny_pure ⟨by cases b <;> cases c <;> rfl, rfl⟩
    | int _ => obtain ⟨t, rfl⟩ := rx; exact wpAny_pure ⟨rfl, rfl⟩
    | str _ => obtain ⟨t, rfl⟩ := rx; exact wpAny_pure ⟨rfl, rfl⟩
    | byt _ => obtain ⟨t, rfl⟩ := rx; exact wpAny_pure ⟨rfl, rfl⟩
    | flt _ => obtain ⟨t, rfl⟩ := rx; exact wpAny_pure ⟨rfl, rfl⟩
    | ref _ => cases rx; exact wpAny_pure ⟨rfl, rfl⟩
    | ty _ => cases rx; exact wpAny_pure ⟨rfl, rfl⟩
  refine thn key fun r s' ⟨e1, e2⟩ => ?_
  subst e1 e2
  exact ⟨.bl _, H, I, rfl, q⟩
theorem isBl_ok {K : PySem.W.Frag} {ι : List Addr} {H : Hp} {x : V} {a : T} {k : Bool} (ra : Rep K H ι x a) : decide (x = .bl k) = isBl k a := by
  cases ra with
  | bl b => cases b <;> cases k <;> rfl
  | _ => rfl
theorem o_is : J2 B X (compareOp .Is) oIs := by
  intro pins s σ H x y v u Q I rx ry ⟨ι, S, a, b, sr, ra, rb, p⟩
  cases rb with
  | non => exact op_isN pins s σ H _ _ v u Q I rx ry ⟨rfl, by rw [isNon_ok ra]; exact p.now sr (.bl _)⟩
  | bl k => exact op_isBool pins s σ H _ _ v u Q I rx ry ⟨k, rfl, by rw [isBl_ok ra]; exact p.now sr (.bl _)⟩
  | _ => exact p.elim
theorem o_isnot : J2 B X (compareOp .IsNot) oIsNot := by
  intro pins s σ H x y v u Q I rx ry ⟨ι, S, a, b, sr, ra, rb, p⟩
  cases rb with
  | non => exact op_notN pins s σ H _ _ v u Q I rx ry ⟨rfl, by rw [isNon_ok ra]; exact p.now sr (.bl _)⟩
  | _ => exact p.elim
/-- a text within a text -/
def strIn (x y : Str) : Bool := !(Builtin.Str.occurrences y x 0 y.length 1).isEmpty
def oIn : O2 := fun a b S => match a, b with
  | .str x, .str y => some (.bl (strIn x y), S)
  | _, _ => none
def oNotIn : O2 := fun a b S => match a, b with
  | .str x, .str y => some (.bl (!strIn x y), S)
  | _, _ => none
theorem o_in : J2 B X (compareOp .In) oIn := by
  intro pins s σ H x y v u Q I rx ry ⟨ι, S, a, b, sr, ra, rb, p⟩
  cases ra with
  | str i => cases rb with
    | str j => exact op_in_str pins s σ H _ _ v u Q I rx ry ⟨i, j, rfl, rfl, p.now sr (.bl _)⟩
    | _ => exact p.elim
  | _ => cases rb <;> exact p.elim
theorem o_notin : J2 B X (compareOp .NotIn) oNotIn := by
  intro pins s σ H x y v u Q I rx ry ⟨ι, S, a, b, sr, ra, rb, p⟩
  cases ra with
  | str i => cases rb with
    | str j => exact op_notin_str pins s σ H _ _ v u Q I rx ry ⟨i, j, rfl, rfl, p.now sr (.bl _)⟩
    | _ => exact p.elim
  | _ => cases rb <;> exact p.elim

/-! ### tests -/
def tru (S : Store) : T → Option Bool
  | .non => some false
  | .bl b => some b
  | .int i => some (i != 0)
  | .str x => if x.length ≤ line then some ((x.length : Int) != 0) else none
  | .tup xs => some (!xs.isEmpty)
  | .ref n => match getL S n with
    | some c => some (!c.isEmpty)
    | none => none
theorem Reps.isEmpty {K : PySem.W.Frag} {H : Hp} {ι : List Addr} {vs : List V} {ws : List T} (r : Reps K H ι vs ws) : vs.isEmpty = ws.isEmpty := by cases r <;> rfl
theorem tru_of {ι : List Addr} {H : Hp} {S : Store} {x : V} {a : T} {k : Bool} (sr : SRel B X.K ι H S) (ra : Rep X.K H ι x a) (e : tru S a = some k) : TruV X.K x H k := by
  cases ra with
  | non => cases e; rfl
  | bl b => cases e; rfl
  | int i => cases e; rfl
  | str x =>
    have e : (if x.length ≤ line then some ((x.length : Int) != 0) else none) = some k := e
    by_cases h : x.length ≤ line
    · rw [if_pos h] at e
      cases e
      exact ⟨le_line h, rfl⟩
    · rw [if_neg h] at e
      cases e
  | tup h r => cases e; exact .inr (.inl ⟨_, h, by rw [r.isEmpty]⟩)
  | ref h =>
    rename_i n a1
    have e : (match getL S n with
      | some c => some (!c.isEmpty)
      | none => none) = some k := e
    cases hc : getL S n with
    | none => rw [hc] at e; cases e
    | some c =>
      rw [hc] at e
      cases e
      obtain ⟨vs, h1, r⟩ := sr.seq hc h
      exact .inl ⟨vs, h1, by rw [r.isEmpty]⟩
def Out.tst : Option Bool → Store → Out Bool
  | some k, S => .ok k S
  | none, _ => .bad
def fTru (f : FE) : FT := fun ρ S => (f ρ S).bind fun a S1 => Out.tst (tru S1 a) S1
theorem tst_ok {g : Gv} {σ : L2.St} {ι : List Addr} {H : Hp} {o : Option Bool} {S : Store} {Q : Bool → Hp → Prop} (p : Post g W σ ι H (Out.tst o S) Q) (s : SRel g.B g.K ι H S) : ∃ k, o = some k ∧ Q k H := by
  cases o with
  | none => exact p.elim
  | some k => exact ⟨k, rfl, p.now s rfl⟩
/-- a name, a call, a subscript .. as a test -/
theorem t_tru (ha : PE X a (lift (gX B X) W fa)) (he : ∀ whole, isTrue a X.env whole = (do let v ← whole; standAt a.pos; holding [v] (truthy v)) := by intro _; rfl) : PT X a (lift (gX B X) W (fTru fa)) :=
  PT.imp (pt_truth ha he) fun σ H Q h => h.bind fun v w S1 H1 ι1 ρ s1 e1 r1 p => by
    obtain ⟨k, e, q⟩ := tst_ok p s1
    exact ⟨k, tru_of (X := X) s1 r1 e, q⟩
/-- a comparison as a test: its value is True or False -/
def blOf : T → Option Bool
  | .bl b => some b
  | _ => none
def fBl (f : FE) : FT := fun ρ S => (f ρ S).bind fun a S1 => Out.tst (blOf a) S1
theorem t_cmp {op : CmpOp} {o : O2} (ho : J2 B X (compareOp op) o) (ha : PE X a (lift (gX B X) W fa)) (hb : PE X b (lift (gX B X) W fb)) (hm : behindInMarks op b = false := by first | exact nomark _ | rfl) : PT X (.Compare a [op] [b] pos) (lift (gX B X) W (fBl (fBin o fa fb))) :=
  PT.imp (pt_cmpR ho ha hb hm) fun σ H Q h => by
    obtain ⟨ι, S, ρ, sr, er, p⟩ := h
    unfold fBl fBin at p
    refine ⟨ι, S, ρ, sr, er, ?_⟩
    cases ea : fa ρ S with
    | bad => rw [ea] at p; exact p.elim
    | exc x S1 => rw [ea] at p; exact p
    | ok w1 S1 =>
      rw [ea] at p
      intro v1 H1 ι1 l1 s1 r1
      refine ⟨ι1, S1, ρ, s1, er.later l1, ?_⟩
      have p : Post (gX B X) W σ ι H (((fb ρ S1).bind fun b S2 => Out.of (o w1 b S2)).bind fun a S1 => Out.tst (blOf a) S1) Q := p
      cases eb : fb ρ S1 with
      | bad => rw [eb] at p; exact p.elim
      | exc x S2 => rw [eb] at p; exact Post.from l1 p
      | ok w2 S2 =>
        rw [eb] at p
        intro v2 H2 ι2 l2 s2 r2
        refine ⟨ι2, S2, w1, w2, s2, Rep.later l2 r1, r2, ?_⟩
        have p : Post (gX B X) W σ ι H ((Out.of (o w1 w2 S2)).bind fun a S1 => Out.tst (blOf a) S1) Q := p
        cases eo : o w1 w2 S2 with
        | none => rw [eo] at p; exact p.elim
        | some q =>
          rw [eo] at p
          intro v3 H3 ι3 l3 s3 r3
          obtain ⟨k, e, q3⟩ := tst_ok (Post.from ((l1.trans l2).trans l3) p) s3
          have r3 : Rep X.K H3 ι3 v3 q.1 := r3
          cases hq : q.1 with
          | bl b =>
            rw [hq] at e r3
            cases r3
            cases e
            exact ⟨k, rfl, q3⟩
          | _ => rw [hq] at e; cases e
def fNotT (f : FT) : FT := fun ρ S => (f ρ S).bind fun k S1 => .ok (!k) S1
theorem t_not {f : FT} (ha : PT X a (lift (gX B X) W f)) : PT X (.UnaryOp .Not a pos) (lift (gX B X) W (fNotT f)) :=
  PT.imp (pt_not ha) fun σ H Q h => h.bind fun v w S1 H1 ι1 ρ s1 e1 r1 p => by
    have r1 : v = w := r1
    subst r1
    exact p.now s1 rfl
def fAndT (f h : FT) : FT := fun ρ S => (f ρ S).bind fun k S1 => if k = true then h ρ S1 else .ok false S1
def fOrT (f h : FT) : FT := fun ρ S => (f ρ S).bind fun k S1 => if k = true then .ok true S1 else h ρ S1
theorem w_and1 {f : FT} (ha : PT X a (lift (gX B X) W f)) : PW X (.BoolOp .And [a] pos) (lift (gX B X) W f) := pw_and1 ha
theorem w_or1 {f : FT} (ha : PT X a (lift (gX B X) W f)) : PW X (.BoolOp .Or [a] pos) (lift (gX B X) W f) := pw_or1 ha
theorem w_and {f h : FT} {rest : List Expr} (ha : PT X a (lift (gX B X) W f)) (hb : PW X (.BoolOp .And (b :: rest) pos) (lift (gX B X) W h)) : PW X (.BoolOp .And (a :: b :: rest) pos) (lift (gX B X) W (fAndT f h)) :=
  PW.imp (pw_and ha hb) fun σ H Q hh => hh.bind fun v w S1 H1 ι1 ρ s1 e1 r1 p => by
    have r1 : v = w := r1
    subst r1
    cases v with
    | true => exact ⟨ι1, S1, ρ, s1, e1, p⟩
    | false => exact p.now s1 rfl
theorem w_or {f h : FT} {rest : List Expr} (ha : PT X a (lift (gX B X) W f)) (hb : PW X (.BoolOp .Or (b :: rest) pos) (lift (gX B X) W h)) : PW X (.BoolOp .Or (a :: b :: rest) pos) (lift (gX B X) W (fOrT f h)) :=
  PW.imp (pw_or ha hb) fun σ H Q hh => hh.bind fun v w S1 H1 ι1 ρ s1 e1 r1 p => by
    have r1 : v = w := r1
    subst r1
    cases v with
    | false => exact ⟨ι1, S1, ρ, s1, e1, p⟩
    | true => exact p.now s1 rfl
theorem t_w {f : FT} (h : PW X a (lift (gX B X) W f)) : PT X a (lift (gX B X) W f) := h.pt
/-! .. as values -/
def fAndV (f h : FE) : FE := fun ρ S => (f ρ S).bind fun a S1 => match tru S1 a with
  | some true => h ρ S1
  | some false => .ok a S1
  | none => .bad
def fOrV (f h : FE) : FE := fun ρ S => (f ρ S).bind fun a S1 => match tru S1 a with
  | some true => .ok a S1
  | some false => h ρ S1
  | none => .bad
def fNotV (f : FE) : FE := fun ρ S => (f ρ S).bind fun a S1 => match tru S1 a with
  | some k => .ok (.bl (!k)) S1
  | none => .bad
theorem e_one {op : BoolOp} (ha : PE X a (lift (gX B X) W fa)) : PE X (.BoolOp op [a] pos) (lift (gX B X) W fa) := pe_one ha
theorem e_and {rest : List Expr} (ha : PE X a (lift (gX B X) W fa)) (hb : PE X (.BoolOp .And (b :: rest) pos) (lift (gX B X) W fb)) : PE X (.BoolOp .And (a :: b :: rest) pos) (lift (gX B X) W (fAndV fa fb)) :=
  PE.imp (pe_andT ha hb) fun σ H Q h => h.bind fun v w S1 H1 ι1 ρ s1 e1 r1 p => by
    have p : Post (gX B X) W σ ι1 H1 (match tru S1 w with
      | some true => fb ρ S1
      | some false => .ok w S1
      | none => .bad) Q := p
    cases e : tru S1 w with
    | none => rw [e] at p; exact p.elim
    | some k =>
      rw [e] at p
      refine ⟨k, tru_of (X := X) s1 r1 e, ?_⟩
      cases k with
      | true => exact ⟨ι1, S1, ρ, s1, e1, p⟩
      | false => exact p.now s1 r1
theorem e_or {rest : List Expr} (ha : PE X a (lift (gX B X) W fa)) (hb : PE X (.BoolOp .Or (b :: rest) pos) (lift (gX B X) W fb)) : PE X (.BoolOp .Or (a :: b :: rest) pos) (lift (gX B X) W (fOrV fa fb)) :=
  PE.imp (pe_orT ha hb) fun σ H Q h => h.bind fun v w S1 H1 ι1 ρ s1 e1 r1 p => by
    have p : Post (gX B X) W σ ι1 H1 (match tru S1 w with
      | some true => .ok w S1
      | some false => fb ρ S1
      | none => .bad) Q := p
    cases e : tru S1 w with
    | none => rw [e] at p; exact p.elim
    | some k =>
      rw [e] at p
      refine ⟨k, tru_of (X := X) s1 r1 e, ?_⟩
      cases k with
      | false => exact ⟨ι1, S1, ρ, s1, e1, p⟩
      | true => exact p.now s1 r1
theorem e_not (ha : PE X a (lift (gX B X) W fa)) : PE X (.UnaryOp .Not a pos) (lift (gX B X) W (fNotV fa)) :=
  PE.imp (pe_notT ha) fun σ H Q h => h.bind fun v w S1 H1 ι1 ρ s1 e1 r1 p => by
    have p : Post (gX B X) W σ ι1 H1 (match tru S1 w with
      | some k => .ok (.bl (!k)) S1
      | none => .bad) Q := p
    cases e : tru S1 w with
    | none => rw [e] at p; exact p.elim
    | some k =>
      rw [e] at p
      exact ⟨k, tru_of (X := X) s1 r1 e, p.now s1 (Rep.bl _)⟩
def fIf (t : FT) (f h : FE) : FE := fun ρ S => (t ρ S).bind fun k S1 => if k = true then f ρ S1 else h ρ S1
theorem e_if {t : FT} (hc : PT X c (lift (gX B X) W t)) (ha : PE X a (lift (gX B X) W fa)) (hb : PE X b (lift (gX B X) W fb)) : PE X (.IfExp c a b pos) (lift (gX B X) W (fIf t fa fb)) :=
  PE.imp (pe_ifExp hc ha hb) fun σ H Q h => h.bind fun v w S1 H1 ι1 ρ s1 e1 r1 p => by
    have r1 : v = w := r1
    subst r1
    cases v with
    | true => exact ⟨ι1, S1, ρ, s1, e1, p⟩
    | false => exact ⟨ι1, S1, ρ, s1, e1, p⟩

/-! ### argument lists, displays -/
def aNil : FA := fun _ S => .ok [] S
def aCons (f : FE) (h : FA) : FA := fun ρ S => (f ρ S).bind fun a S1 => (h ρ S1).bind fun as S2 => .ok (a :: as) S2
theorem a_nil : PA X [] (lift (gX B X) W aNil) := PA.imp pa_nil fun σ H Q ⟨ι, S, ρ, s, e, p⟩ => p.now s Reps.nil
theorem a_cons {es : List Expr} {h : FA} (ha : PE X a (lift (gX B X) W fa)) (hr : PA X es (lift (gX B X) W h)) (hs : starEach (a :: es) X.env = (false, eval a X.env) :: starEach es X.env := by rfl) : PA X (a :: es) (lift (gX B X) W (aCons fa h)) :=
  PA.imp (pa_cons ha hr hs) fun σ H Q hh => hh.bind fun v w S1 H1 ι1 ρ s1 e1 r1 p => ⟨ι1, S1, ρ, s1, e1, p.bind fun vs ws S2 H2 ι2 l s2 r2 p2 => p2.now s2 (Reps.cons (Rep.later l r1) r2)⟩
def fTup (h : FA) : FE := fun ρ S => (h ρ S).bind fun ws S1 => if ws.length ≤ line then .ok (.tup ws) S1 else .bad
def fLst (h : FA) : FE := fun ρ S => (h ρ S).bind fun ws S1 => if ws.length ≤ line then .ok (.ref S1.length) (S1 ++ [.lst ws]) else .bad
theorem e_tup {es : List Expr} {h : FA} {k : Nat} (ha : PA X es (lift (gX B X) W h)) : PE X (.Tuple es k pos) (lift (gX B X) W (fTup h)) :=
  PE.imp (pe_tup ha) fun σ H Q hh => hh.bind fun vs ws S1 H1 ι1 ρ s1 e1 r1 p => by
    have r1 : Reps X.K H1 ι1 vs ws := r1
    have p : Post (gX B X) W σ ι1 H1 (if ws.length ≤ line then .ok (.tup ws) S1 else .bad) Q := p
    by_cases hz : ws.length ≤ line
    · rw [if_pos hz] at p
      exact ⟨by rw [r1.length]; exact le_line hz, fun a ha => p _ _ ι1 (Later.laid ha) (s1.laid ha) (Rep.tup (SqT.of upd_same) (r1.later (Later.laid ha)))⟩
    · rw [if_neg hz] at p
      exact p.elim
theorem e_lst {es : List Expr} {h : FA} (ha : PA X es (lift (gX B X) W h)) : PE X (.List es pos) (lift (gX B X) W (fLst h)) :=
  PE.imp (pe_lst ha) fun σ H Q hh => hh.bind fun vs ws S1 H1 ι1 ρ s1 e1 r1 p => by
    have r1 : Reps X.K H1 ι1 vs ws := r1
    have p : Post (gX B X) W σ ι1 H1 (if ws.length ≤ line then .ok (.ref S1.length) (S1 ++ [.lst ws]) else .bad) Q := p
    by_cases hz : ws.length ≤ line
    · rw [if_pos hz] at p
      exact ⟨by rw [r1.length]; exact le_line hz, PostO.lst (g := gX B X) p s1 r1⟩
    · rw [if_neg hz] at p
      exact p.elim

/-! ### subscripts -/
theorem atI_rep {K : PySem.W.Frag} {H : Hp} {ι : List Addr} {vs : List V} {ws : List T} {i : Int} {w : T} (r : Reps K H ι vs ws) (h : atI ws i = some w) : ∃ v, atI vs i = some v ∧ Rep K H ι v w := by
  unfold atI at h ⊢
  rw [r.length]
  cases e : ixN ws.length i with
  | none => rw [e] at h; cases h
  | some j =>
    rw [e] at h
    exact r.get h
def ixG (S : Store) : T → T → Option T
  | .tup ws, .int i => atI ws i
  | .str z, .int i => if z.length ≤ line then (atI z.cps.toList i).map fun c => .str ⟨#[c]⟩ else none
  | .ref n, .int i => match getL S n with
    | some c => atI c i
    | none => none
  | _, _ => none
def oIx : O2 := fun a b S => (ixG S a b).map fun w => (w, S)
theorem ix_ok : IxR X (fun x y H Q => ∃ (ι : List Addr) (S : Store) (a b : T), SRel B X.K ι H S ∧ Rep X.K H ι x a ∧ Rep X.K H ι y b ∧ PostO (gX B X) ι H (oIx a b S) Q) := by
  intro value slice pins s σ H x y v u Q I rx ry ⟨ι, S, a, b, sr, ra, rb, p⟩ hs
  have p : PostO (gX B X) ι H ((ixG S a b).map fun w => (w, S)) Q := p
  cases e : ixG S a b with
  | none => rw [e] at p; exact p.elim
  | some w =>
    rw [e] at p
    have q : ∀ z, Rep X.K H ι z w → Q z H := fun z r => PostO.now (g := gX B X) p sr r
    cases ra with
    | tup h r => cases rb with
      | int i =>
        obtain ⟨z, h1, h2⟩ := atI_rep r (show atI _ i = some w from e)
        exact ix_tup value slice pins s σ H _ _ v u Q I rx ry ⟨_, _, i, z, rfl, rfl, h, h1, q z h2⟩ hs
      | _ => cases e
    | str z => cases rb with
      | int i =>
        have e : (if z.length ≤ line then (atI z.cps.toList i).map fun c => T.str ⟨#[c]⟩ else none) = some w := e
        by_cases hz : z.length ≤ line
        · rw [if_pos hz] at e
          cases hc : atI z.cps.toList i with
          | none => rw [hc] at e; cases e
          | some c =>
            rw [hc] at e
            cases e
            exact ix_str value slice pins s σ H _ _ v u Q I rx ry ⟨z, i, c, rfl, rfl, le_line hz, hc, q _ (.str _)⟩ hs
        · rw [if_neg hz] at e
          cases e
      | _ => cases e
    | ref h => cases rb with
      | int i =>
        rename_i n a1
        have e : (match getL S n with
          | some c => atI c i
          | none => none) = some w := e
        cases hc : getL S n with
        | none => rw [hc] at e; cases e
        | some c =>
          rw [hc] at e
          obtain ⟨vs, h1, r⟩ := sr.seq hc h
          obtain ⟨z, h2, h3⟩ := atI_rep r e
          exact ix_list value slice pins s σ H _ _ v u Q I rx ry ⟨_, _, i, z, rfl, rfl, h1, h2, q z h3⟩ hs
      | _ => cases e
    | _ => cases rb <;> cases e
theorem e_ix (ha : PE X a (lift (gX B X) W fa)) (hb : PE X b (lift (gX B X) W fb)) (hs : PlainIx b := by intro _ _; rfl) : PE X (.Subscript a b pos) (lift (gX B X) W (fBin oIx fa fb)) :=
  PE.imp (pe_ix ix_ok ha hb hs) fun σ H Q h => h.bind fun v w S1 H1 ι1 ρ s1 e1 r1 p => ⟨ι1, S1, ρ, s1, e1, p.bind fun v2 w2 S2 H2 ι2 l s2 r2 p2 => ⟨ι2, S2, w, w2, s2, Rep.later l r1, r2, p2.o⟩⟩
end
end Fl

set_option Elab.async false
set_option linter.all false
set_option maxRecDepth 100000
set_option maxHeartbeats 4000000
/-! Fl3: calls of built-ins and of own defs, methods, slices; what a def is worth. -/
namespace Fl
open PySem PySem.Spec PyProof.Rows L2

section
variable {B : Bd} {X : Cx} {W : WX} {a b c e : Expr} {es : List Expr} {fa fb fc : FE} {fs : FA} {pos : Pos}
/-! ### built-ins -/
def fNat (o : ON) (f : FA) : FE := fun ρ S => (f ρ S).bind fun as S1 => Out.of (o as S1)
theorem e_blt {x : Str} {id : String} {o : ON} {p : Pos} (hc : JN B X (.builtin id) o) (hg : Gl X x) (hm : X.mg x = none) (hv : bootBuiltins x = some (.builtin id)) (ha : PA X (e :: es) (lift (gX B X) W fs)) (hn : x ≠ "__name__" := by decide) (hdb : (x == ("__debug__" : Str)) = false := by decide)
    (he : starEach (e :: es) X.env = (false, eval e X.env) :: starEach es X.env := by rfl) (hpl : (backTo pos (starEach es X.env)).any (·.1) = false := by rfl) : PE X (.Call (.Name x p) (e :: es) [] pos) (lift (gX B X) W (fNat o fs)) :=
  PE.imp (pe_callB hc hg hm hv ha hn hdb he hpl) fun σ H Q h => h.bind fun v ws S1 H1 ι1 ρ s1 e1 r1 p => ⟨ι1, S1, ws, s1, r1, p.o⟩
theorem e_ty {x : Str} {id : String} {o : ON} {p : Pos} (hc : JN B X (.type id) o) (hg : Gl X x) (hm : X.mg x = none) (hv : bootBuiltins x = some (.type id)) (ha : PA X (e :: es) (lift (gX B X) W fs)) (hn : x ≠ "__name__" := by decide) (hdb : (x == ("__debug__" : Str)) = false := by decide)
    (he : starEach (e :: es) X.env = (false, eval e X.env) :: starEach es X.env := by rfl) (hpl : (backTo pos (starEach es X.env)).any (·.1) = false := by rfl) : PE X (.Call (.Name x p) (e :: es) [] pos) (lift (gX B X) W (fNat o fs)) :=
  PE.imp (pe_callTy hc hg hm hv ha hn hdb he hpl) fun σ H Q h => h.bind fun v ws S1 H1 ι1 ρ s1 e1 r1 p => ⟨ι1, S1, ws, s1, r1, p.o⟩
def lenG (S : Store) : T → Option Nat
  | .str x => if x.length ≤ line then some x.length else none
  | .tup ws => some ws.length
  | .ref n => match getL S n with
    | some c => some c.length
    | none => none
  | _ => none
def nLen : ON
  | [a], S => (lenG S a).map fun n => (.int n, S)
  | _, _ => none
theorem o_len : JN B X (.builtin "len") nLen := by
  intro pins s σ H xs us Q I r ⟨ι, S, as, sr, ra, p⟩
  cases ra with
  | nil => exact p.elim
  | @cons x w _ _ h t =>
    cases t with
    | cons _ _ => exact p.elim
    | nil =>
      have p : PostO (gX B X) ι H ((lenG S w).map fun n => (T.int n, S)) Q := p
      cases e : lenG S w with
      | none => rw [e] at p; exact p.elim
      | some n =>
        rw [e] at p
        refine call_len pins s σ H _ us Q I r ⟨x, n, rfl, ?_, PostO.now (g := gX B X) p sr (.int _)⟩
        cases h with
        | str z =>
          have e : (if z.length ≤ line then some z.length else none) = some n := e
          by_cases hz : z.length ≤ line
          · rw [if_pos hz] at e
            cases e
            exact ⟨le_line hz, rfl⟩
          · rw [if_neg hz] at e
            cases e
        | tup h r' => cases e; exact .inr ⟨_, h, r'.length.symm⟩
        | ref h =>
          rename_i m a1
          have e : (match getL S m with
            | some c => some c.length
            | none => none) = some n := e
          cases hc : getL S m with
          | none => rw [hc] at e; cases e
          | some c =>
            rw [hc] at e
            cases e
            obtain ⟨vs, h1, r'⟩ := sr.seq hc h
            exact .inl ⟨vs, h1, r'.length.symm⟩
        | _ => cases e
def n1I (f : Int → Int) : ON
  | [.int i], S => some (.int (f i), S)
  | _, _ => none
def n2I (f : Int → Int → Int) : ON
  | [.int i, .int j], S => some (.int (f i j), S)
  | _, _ => none
theorem n1I_ok {f : Int → Int} {g : Gv} {ι : List Addr} {H : Hp} {xs : List V} {as : List T} {S : Store} {Q : VK} (ra : Reps g.K H ι xs as) (p : PostO g ι H (n1I f as S) Q) (sr : SRel g.B g.K ι H S) : ∃ i, xs = [.int i] ∧ Q (.int (f i)) H := by
  cases ra with
  | nil => exact p.elim
  | cons h t => cases t with
    | cons _ _ => cases h <;> exact p.elim
    | nil => cases h with
      | int i => exact ⟨i, rfl, p.now sr (.int _)⟩
      | _ => exact p.elim
theorem n2I_ok {f : Int → Int → Int} {g : Gv} {ι : List Addr} {H : Hp} {xs : List V} {as : List T} {S : Store} {Q : VK} (ra : Reps g.K H ι xs as) (p : PostO g ι H (n2I f as S) Q) (sr : SRel g.B g.K ι H S) : ∃ i j, xs = [.int i, .int j] ∧ Q (.int (f i j)) H := by
  cases ra with
  | nil => exact p.elim
  | cons h t => cases t with
    | nil => cases h <;> exact p.elim
    | cons h' t' => cases t' with
      | cons _ _ => cases h <;> cases h' <;> exact p.elim
      | nil => cases h with
        | int i => cases h' with
          | int j => exact ⟨i, j, rfl, p.now sr (.int _)⟩
          | _ => exact p.elim
        | _ => cases h' <;> exact p.elim
def iabs (i : Int) : Int := if i < 0 then -i else i
def imax (i j : Int) : Int := if j > i then j else i
def imin (i j : Int) : Int := if j < i then j else i
theorem o_abs : JN B X (.builtin "abs") (n1I iabs) := by
  intro pins s σ H xs us Q I r ⟨ι, S, as, sr, ra, p⟩
  obtain ⟨i, e, q⟩ := n1I_ok (g := gX B X) ra p sr
  exact call_abs pins s σ H _ us Q I r ⟨i, e, q⟩
theorem o_max (hc : X.calm = true) : JN B X (.builtin "max") (n2I imax) := by
  intro pins s σ H xs us Q I r ⟨ι, S, as, sr, ra, p⟩
  obtain ⟨i, j, e, q⟩ := n2I_ok (g := gX B X) ra p sr
  exact call_max2 hc pins s σ H _ us Q I r ⟨i, j, e, q⟩
theorem o_min (hc : X.calm = true) : JN B X (.builtin "min") (n2I imin) := by
  intro pins s σ H xs us Q I r ⟨ι, S, as, sr, ra, p⟩
  obtain ⟨i, j, e, q⟩ := n2I_ok (g := gX B X) ra p sr
  exact call_min2 hc pins s σ H _ us Q I r ⟨i, j, e, q⟩
/-- int of an int -/
theorem o_int : JN B X (.type "int") (n1I id) := by
  intro pins s σ H xs us Q I r ⟨ι, S, as, sr, ra, p⟩
  obtain ⟨i, e, q⟩ := n1I_ok (g := gX B X) ra p sr
  exact call_int1 pins s σ H _ us Q I r (.inl ⟨i, e, q⟩)
/-- the items of a tuple, of a list -/
def seqG (S : Store) : T → Option (List T)
  | .tup ws => some ws
  | .ref n => match getL S n with
    | some c => some c
    | none => none
  | _ => none
theorem seqG_ok {ι : List Addr} {H : Hp} {S : Store} {x : V} {a : T} {ws : List T} (sr : SRel B X.K ι H S) (ra : Rep X.K H ι x a) (e : seqG S a = some ws) : ∃ p vs, x = .ref p ∧ Reps X.K H ι vs ws ∧ (SqL X.K H p vs ∨ SqT X.K H p vs) := by
  cases ra with
  | tup h r => cases e; exact ⟨_, _, rfl, r, .inr h⟩
  | ref h =>
    rename_i n a1
    have e : (match getL S n with
      | some c => some c
      | none => none) = some ws := e
    cases hc : getL S n with
    | none => rw [hc] at e; cases e
    | some c =>
      rw [hc] at e
      cases e
      obtain ⟨vs, h1, r⟩ := sr.seq hc h
      exact ⟨_, vs, rfl, r, .inl h1⟩
  | _ => cases e
def nList : ON
  | [a], S => (seqG S a).map fun ws => (.ref S.length, S ++ [.lst ws])
  | _, _ => none
theorem o_list : JN B X (.type "list") nList := by
  intro pins s σ H xs us Q I r ⟨ι, S, as, sr, ra, p⟩
  cases ra with
  | nil => exact p.elim
  | @cons x w _ _ h t =>
    cases t with
    | cons _ _ => exact p.elim
    | nil =>
      have p : PostO (gX B X) ι H ((seqG S w).map fun ws => (T.ref S.length, S ++ [.lst ws])) Q := p
      cases e : seqG S w with
      | none => rw [e] at p; exact p.elim
      | some ws =>
        rw [e] at p
        obtain ⟨q, vs, rfl, rv, hs⟩ := seqG_ok sr h e
        exact call_list_of pins s σ H _ us Q I r ⟨q, vs, rfl, hs, PostO.lst (g := gX B X) p sr rv⟩
def nTuple : ON
  | [a], S => (seqG S a).map fun ws => (.tup ws, S)
  | _, _ => none
theorem o_tuple : JN B X (.type "tuple") nTuple := by
  intro pins s σ H xs us Q I r ⟨ι, S, as, sr, ra, p⟩
  cases ra with
  | nil => exact p.elim
  | @cons x w _ _ h t =>
    cases t with
    | cons _ _ => exact p.elim
    | nil =>
      have p : PostO (gX B X) ι H ((seqG S w).map fun ws => (T.tup ws, S)) Q := p
      cases e : seqG S w with
      | none => rw [e] at p; exact p.elim
      | some ws =>
        rw [e] at p
        obtain ⟨q, vs, rfl, rv, hs⟩ := seqG_ok sr h e
        refine call_tuple_of pins s σ H _ us Q I r ⟨q, vs, rfl, ?_⟩
        rcases hs with hs | hs
        · exact .inl ⟨hs, PostO.tup (g := gX B X) p sr rv⟩
        · exact .inr ⟨hs, PostO.now (g := gX B X) p sr (.tup hs rv)⟩
/-- str of an int -/
def nStr : ON
  | [.int i], S => if i.natAbs.log2 < 1920 then some (.str (toString i), S) else none
  | _, _ => none
theorem o_str : JN B X (.type "str") nStr := by
  intro pins s σ H xs us Q I r ⟨ι, S, as, sr, ra, p⟩
  cases ra with
  | nil => exact p.elim
  | cons h t => cases t with
    | cons _ _ => cases h <;> exact p.elim
    | nil => cases h with
      | int i =>
        obtain ⟨hz, p⟩ := PostO.ite p
        exact call_str_int pins s σ H _ us Q I r ⟨i, rfl, hz, p.now sr (.str _)⟩
      | _ => exact p.elim

/-! ### isinstance of the built-in classes -/
def tyN (S : Store) : T → Option String
  | .non => some "NoneType"
  | .bl _ => some "bool"
  | .int _ => some "int"
  | .str _ => some "str"
  | .tup _ => some "tuple"
  | .ref n => match getL S n with
    | some _ => some "list"
    | none => none
def isiB (a b : String) : Bool := a == b || (a == "bool" && b == "int")
def isiC : List String := ["bool", "int", "str", "tuple", "list"]
theorem isiB_ok : ∀ a ∈ (["NoneType", "bool", "int", "str", "tuple", "list"] : List String), ∀ b ∈ isiC, kitB a b = some (isiB a b) := by decide +kernel
def fIsi (C : String) (f : FE) : FE := fun ρ S => (f ρ S).bind fun a S1 => match tyN S1 a with
  | some t => .ok (.bl (isiB t C)) S1
  | none => .bad
theorem e_isi {p p2 : Pos} {x : Str} {C : String} (hC : C ∈ isiC) (hg : Gl X "isinstance") (hm : X.mg "isinstance" = none) (hgx : Gl X x) (hmx : X.mg x = none) (hv : bootBuiltins x = some (.type C)) (ha : PE X e (lift (gX B X) W fa)) (hn : x ≠ "__name__" := by decide) (hdb : (x == ("__debug__" : Str)) = false := by decide)
    (he : starEach [e, .Name x p2] X.env = (false, eval e X.env) :: starEach [.Name x p2] X.env := by rfl) (hpl : (backTo pos (starEach [.Name x p2] X.env)).any (·.1) = false := by rfl) (he2 : starEach [.Name x p2] X.env = (false, eval (.Name x p2) X.env) :: starEach [] X.env := by rfl) :
    PE X (.Call (.Name "isinstance" p) [e, .Name x p2] [] pos) (lift (gX B X) W (fIsi C fa)) :=
  PE.imp (pe_callB call_isi hg hm boot_isinstance (pa_cons ha (pa_cons (pe_bltn (v := .ty C) hgx hmx hv rfl hn hdb) pa_nil he2) he) (by decide) (by decide) he hpl) fun σ H Q h => h.bind fun v w S1 H1 ι1 ρ s1 e1 r1 p => by
    have r1 : Rep X.K H1 ι1 v w := r1
    have p : Post (gX B X) W σ ι1 H1 (match tyN S1 w with
      | some t => .ok (.bl (isiB t C)) S1
      | none => .bad) Q := p
    cases e : tyN S1 w with
    | none => rw [e] at p; exact p.elim
    | some t =>
      rw [e] at p
      have key : ∀ tt ∈ (["NoneType", "bool", "int", "str", "tuple", "list"] : List String), tt = t → TyX X.K H1 v (.type tt) → rIsi X.K [v, .ty C] H1 Q := fun tt ht et ty => by
        subst et
        exact ⟨v, .ty C, .type tt, .type C, _, rfl, .ty C, ty, kit_ty (isiB_ok tt ht C hC), p.now s1 (Rep.bl _)⟩
      cases r1 with
      | non => exact key "NoneType" (by decide) (Option.some.inj e) (.base .non)
      | bl b => exact key "bool" (by decide) (Option.some.inj e) (.base (.bl b))
      | int b => exact key "int" (by decide) (Option.some.inj e) (.base (.int b))
      | str b => exact key "str" (by decide) (Option.some.inj e) (.base (.str b))
      | tup h r =>
        refine key "tuple" (by decide) (Option.some.inj e) ?_
        rcases h with (h | ⟨o, h⟩) | ⟨o, its, n, h, hc, _⟩
        · exact .base (.tup h)
        · exact .fTuple h
        · exact .kTuple h hc
      | ref h =>
        rename_i n a1
        have e : (match getL S1 n with
          | some _ => some "list"
          | none => none) = some t := e
        cases hc : getL S1 n with
        | none => rw [hc] at e; cases e
        | some c =>
          rw [hc] at e
          refine key "list" (by decide) (Option.some.inj e) ?_
          obtain ⟨vs, h1, r⟩ := SRel.seq (B := B) s1 hc h
          rcases h1 with (h1 | ⟨o, h1⟩) | ⟨o, its, n, h1, hc, _⟩
          · exact .base (.lst h1)
          · exact .base (.frz h1)
          · exact .kList h1 hc

/-! ### slices -/
abbrev FO := L2.St → Env → Store → Out (Option Int)
instance : Vw (Option Int) (Option Int) := ⟨fun _ _ _ a b => a = b, fun _ r => r⟩
def pNone : Env → Store → Out (Option Int) := fun _ S => .ok none S
def pSome (f : FE) : Env → Store → Out (Option Int) := fun ρ S => (f ρ S).bind fun a S1 => match a with
  | .int i => .ok (some i) S1
  | _ => .bad
theorem PO.imp {X : Cx} {e : Option Expr} {t t' : TO} (h : PO X e t) (i : ∀ σ H Q, t' σ H Q → t σ H Q) : PO X e t' := ⟨fun pins s σ H Q I q => h.run pins s σ H Q I (i σ H Q q)⟩
theorem p_none : PO X none (lift (gX B X) W pNone) := PO.imp po_none fun σ H Q ⟨ι, S, ρ, s, e, p⟩ => p.now s rfl
theorem p_some (ha : PE X a (lift (gX B X) W fa)) : PO X (some a) (lift (gX B X) W (pSome fa)) :=
  PO.imp (po_some ha) fun σ H Q h => h.bind fun v w S1 H1 ι1 ρ s1 e1 r1 p => by
    have r1 : Rep X.K H1 ι1 v w := r1
    cases r1 with
    | int i => exact ⟨i, rfl, p.now s1 rfl⟩
    | _ => exact p.elim
def cutT (xs : List T) (lo hi : Option Int) : List T := (xs.drop (HT.sIx xs.length 0 lo)).take (HT.sIx xs.length xs.length hi - HT.sIx xs.length 0 lo)
theorem cut_rep {K : PySem.W.Frag} {H : Hp} {ι : List Addr} {vs : List V} {ws : List T} (r : Reps K H ι vs ws) (lo hi : Option Int) : Reps K H ι (cutV vs lo hi) (cutT ws lo hi) := by
  unfold cutV cutT
  rw [r.length]
  exact (r.drop _).take _
theorem cut_whole {K : PySem.W.Frag} {H : Hp} {ι : List Addr} {vs : List V} {ws : List T} {lo hi : Option Int} (r : Reps K H ι vs ws) (h : HT.sIx vs.length 0 lo = 0 ∧ HT.sIx vs.length vs.length hi = vs.length) : cutT ws lo hi = ws := by
  unfold cutT
  rw [r.length] at h
  rw [h.1, h.2]
  simp
def sliceG (S : Store) : T → Option Int → Option Int → R
  | .tup ws, lo, hi => some (.tup (cutT ws lo hi), S)
  | .str z, lo, hi => if z.length ≤ line then some (.str (cutS z lo hi), S) else none
  | .ref n, lo, hi => match getL S n with
    | some c => some (.ref S.length, S ++ [.lst (cutT c lo hi)])
    | none => none
  | _, _, _ => none
def fSlice (f : FE) (l h : Env → Store → Out (Option Int)) : FE := fun ρ S => (f ρ S).bind fun a S1 => (l ρ S1).bind fun lo S2 => (h ρ S2).bind fun hi S3 => Out.of (sliceG S3 a lo hi)
theorem sl_ok : SlR X (fun x lo hi H Q => ∃ (ι : List Addr) (S : Store) (a : T), SRel B X.K ι H S ∧ Rep X.K H ι x a ∧ PostO (gX B X) ι H (sliceG S a lo hi) Q) := by
  intro pins s σ H x v vl vu lo hi sl Q I rx hs pl pu ⟨ι, S, a, sr, ra, p⟩
  cases ra with
  | tup h r => exact sl_tupA pins s σ H _ v vl vu lo hi sl Q I rx hs pl pu ⟨_, _, rfl, h, fun hw => by
      refine PostO.now (g := gX B X) p sr ?_
      show Rep _ _ _ _ (T.tup (cutT _ lo hi))
      rw [cut_whole r hw]
      exact .tup h r, fun _ => PostO.tup (g := gX B X) p sr (cut_rep r lo hi)⟩
  | str z =>
    obtain ⟨hz, p⟩ := PostO.ite (g := gX B X) p
    exact sl_str pins s σ H _ v vl vu lo hi sl Q I rx hs pl pu ⟨z, rfl, le_line hz, PostO.now (g := gX B X) p sr (.str _)⟩
  | ref h =>
    rename_i n a1
    have p : PostO (gX B X) ι H (match getL S n with
      | some c => some (.ref S.length, S ++ [.lst (cutT c lo hi)])
      | none => none) Q := p
    cases hc : getL S n with
    | none => rw [hc] at p; exact p.elim
    | some c =>
      rw [hc] at p
      obtain ⟨vs, h1, r⟩ := sr.seq hc h
      exact sl_list pins s σ H _ v vl vu lo hi sl Q I rx hs pl pu ⟨_, _, rfl, h1, PostO.lst (g := gX B X) p sr (cut_rep r lo hi)⟩
  | _ => exact p.elim
theorem e_slice {lo hi : Option Expr} {l h : Env → Store → Out (Option Int)} {p2 : Pos} (ha : PE X a (lift (gX B X) W fa)) (hl : PO X lo (lift (gX B X) W l)) (hh : PO X hi (lift (gX B X) W h)) : PE X (.Subscript a (.Slice lo hi none p2) pos) (lift (gX B X) W (fSlice fa l h)) :=
  PE.imp (pe_slice sl_ok ha hl hh) fun σ H Q hq => hq.bind fun v w S1 H1 ι1 ρ s1 e1 r1 p => ⟨ι1, S1, ρ, s1, e1, p.bind fun v2 w2 S2 H2 ι2 l2 s2 r2 p2 => ⟨ι2, S2, ρ, s2, e1.later l2, p2.bind fun v3 w3 S3 H3 ι3 l3 s3 r3 p3 => by
    have r2 : v2 = w2 := r2
    have r3 : v3 = w3 := r3
    subst r2 r3
    exact ⟨ι3, S3, w, s3, Rep.later (l2.trans l3) r1, p3.o⟩⟩⟩

/-! ### methods -/
abbrev OM := T → List T → Store → R
def JM (B : Bd) (X : Cx) (id : String) (o : OM) : Prop := MtR X id (fun x xs H Q => ∃ (ι : List Addr) (S : Store) (a : T) (as : List T), SRel B X.K ι H S ∧ Rep X.K H ι x a ∧ Reps X.K H ι xs as ∧ PostO (gX B X) ι H (o a as S) Q)
/-- what a receiver is -/
def isTy (Ty : String) : T → Bool
  | .str _ => Ty == "str"
  | .int _ => Ty == "int"
  | .ref _ => Ty == "list"
  | _ => false
def fMeth (Ty : String) (o : OM) (f : FE) (h : FA) : FE := fun ρ S => (f ρ S).bind fun a S1 => if isTy Ty a = true ∧ (tyN S1 a).isSome = true then (h ρ S1).bind fun as S2 => Out.of (o a as S2) else .bad
theorem ty_ok {Ty : String} {ι : List Addr} {H : Hp} {S : Store} {x : V} {a : T} (sr : SRel B X.K ι H S) (ra : Rep X.K H ι x a) (h : isTy Ty a = true ∧ (tyN S a).isSome = true) : tyV X.K Ty x H := by
  obtain ⟨h, h2⟩ := h
  cases ra with
  | str z => exact (show Ty = "str" from eq_of_beq h)
  | int z => exact (show Ty = "int" from eq_of_beq h)
  | ref hr =>
    rename_i n a1
    have e : Ty = "list" := eq_of_beq h
    have h2 : (match getL S n with
      | some _ => some "list"
      | none => none).isSome = true := h2
    cases hc : getL S n with
    | none => rw [hc] at h2; cases h2
    | some c =>
      obtain ⟨vs, h1, r⟩ := sr.seq hc hr
      exact .inl ⟨e, _, h1⟩
  | _ => cases h
theorem e_meth {Ty id : String} {name : Str} {apos : Pos} {o : OM} (pa : PlainAttrs Ty) (slot : Slot Ty name id) (hty : typeOf (.builtin id) = pure (.type "method_descriptor")) (hm : JM B X id o) (ho : PE X a (lift (gX B X) W fa)) (ha : PA X (e :: es) (lift (gX B X) W fs))
    (hbase : attributeBase a name X.env (eval a X.env) = eval a X.env := by rfl)
    (hfew : ((backTo pos (starEach (e :: es) X.env)).all (fun x => !x.1) && (backToKw pos (keywordEach [] X.env)).all (fun x => x.1.isSome)
      && decide ((e :: es).length + ([] : List Keyword).length + (if ([] : List Keyword).isEmpty then 0 else 1) < 30)) = true := by rfl)
    (hline : (apos.endLine == pos.line) = true := by rfl) (hs : starEach (e :: es) X.env = (false, eval e X.env) :: starEach es X.env := by rfl) (hplain : (backTo pos (starEach es X.env)).any (·.1) = false := by rfl) :
    PE X (.Call (.Attribute a name apos) (e :: es) [] pos) (lift (gX B X) W (fMeth Ty o fa fs)) :=
  PE.imp (pe_bm pa slot hty hm ho ha hbase hfew hline hs hplain) fun σ H Q hq => hq.bind fun v w S1 H1 ι1 ρ s1 e1 r1 p => by
    have p : Post (gX B X) W σ ι1 H1 (if isTy Ty w = true ∧ (tyN S1 w).isSome = true then (fs ρ S1).bind fun as S2 => Out.of (o w as S2) else .bad) Q := p
    by_cases h : isTy Ty w = true ∧ (tyN S1 w).isSome = true
    · rw [if_pos h] at p
      exact ⟨ty_ok (X := X) s1 r1 h, ι1, S1, ρ, s1, e1, p.bind fun v2 w2 S2 H2 ι2 l s2 r2 p2 => ⟨ι2, S2, w, w2, s2, Rep.later l r1, r2, p2.o⟩⟩
    · rw [if_neg h] at p
      exact p.elim
theorem e_meth0 {Ty id : String} {name : Str} {apos : Pos} {o : OM} (pa : PlainAttrs Ty) (slot : Slot Ty name id) (hty : typeOf (.builtin id) = pure (.type "method_descriptor")) (hm : JM B X id o) (ho : PE X a (lift (gX B X) W fa))
    (hbase : attributeBase a name X.env (eval a X.env) = eval a X.env := by rfl) (hline : (apos.endLine == pos.line) = true := by rfl) : PE X (.Call (.Attribute a name apos) [] [] pos) (lift (gX B X) W (fMeth Ty o fa aNil)) :=
  PE.imp (pe_bm0 pa slot hty hm ho hbase hline) fun σ H Q hq => hq.bind fun v w S1 H1 ι1 ρ s1 e1 r1 p => by
    have p : Post (gX B X) W σ ι1 H1 (if isTy Ty w = true ∧ (tyN S1 w).isSome = true then (aNil ρ S1).bind fun as S2 => Out.of (o w as S2) else .bad) Q := p
    by_cases h : isTy Ty w = true ∧ (tyN S1 w).isSome = true
    · rw [if_pos h] at p
      exact ⟨ty_ok (X := X) s1 r1 h, ι1, S1, w, [], s1, r1, .nil, Post.o (g := gX B X) p⟩
    · rw [if_neg h] at p
      exact p.elim
def mAppend : OM
  | .ref n, [w], S => match S[n]? with
    | some (.lst ws) => if ws.length < line then some (.non, S.set n (.lst (ws ++ [w]))) else none
    | _ => none
  | _, _, _ => none
theorem m_append : JM B X "list.append" mAppend := by
  intro pins s σ H x xs v us Q I rx rs ⟨ι, S, a, as, sr, ra, rb, p⟩
  cases ra with
  | ref h =>
    rename_i n a1
    cases rb with
    | nil => exact p.elim
    | @cons y w _ _ hy t => cases t with
      | cons _ _ => exact p.elim
      | nil =>
        have p : PostO (gX B X) ι H (match S[n]? with
          | some (.lst ws) => if ws.length < line then some (.non, S.set n (.lst (ws ++ [w]))) else none
          | _ => none) Q := p
        split at p
        · rename_i ws e1
          obtain ⟨hz, p⟩ := PostO.ite p
          obtain ⟨vs, h1, r⟩ := sr.at e1 h
          refine mt_append pins s σ H _ _ v us Q I rx rs ⟨_, vs, y, rfl, rfl, h1, by rw [r.length]; exact lt_line hz, ?_⟩
          exact p _ _ ι (Later.put h1) (sr.put e1 h h1 (r.append (.cons hy .nil))) .non
        · exact p.elim
  | _ => cases rb with
    | nil => exact p.elim
    | cons _ t => cases t <;> exact p.elim
def mExtend : OM
  | .ref n, [.ref m], S => match S[n]?, S[m]? with
    | some (.lst ws), some (.lst us) => if ws.length + us.length ≤ line then some (.non, S.set n (.lst (ws ++ us))) else none
    | _, _ => none
  | _, _, _ => none
theorem m_extend : JM B X "list.extend" mExtend := by
  intro pins s σ H x xs v us Q I rx rs ⟨ι, S, a, as, sr, ra, rb, p⟩
  cases ra with
  | ref h =>
    rename_i n a1
    cases rb with
    | nil => exact p.elim
    | @cons y w _ _ hy t => cases t with
      | cons _ _ => cases hy <;> exact p.elim
      | nil => cases hy with
        | ref h' =>
          rename_i m a2
          have p : PostO (gX B X) ι H (match S[n]?, S[m]? with
            | some (.lst ws), some (.lst us) => if ws.length + us.length ≤ line then some (.non, S.set n (.lst (ws ++ us))) else none
            | _, _ => none) Q := p
          split at p
          · rename_i ws us' e1 e2
            obtain ⟨hz, p⟩ := PostO.ite p
            obtain ⟨vs, h1, r⟩ := sr.at e1 h
            obtain ⟨vs2, h2, r2⟩ := sr.at e2 h'
            refine mt_extend pins s σ H _ _ v us Q I rx rs ⟨_, _, vs, vs2, rfl, rfl, h1, h2, by rw [r.length, r2.length]; exact le_line hz, ?_⟩
            exact p _ _ ι (Later.put h1) (sr.put e1 h h1 (r.append r2)) .non
          · exact p.elim
        | _ => exact p.elim
  | _ => cases rb with
    | nil => exact p.elim
    | cons hy t => cases t <;> cases hy <;> exact p.elim
/-- a list of texts -/
def strsOf : List T → Option (List Str)
  | [] => some []
  | .str x :: r => (strsOf r).map (x :: ·)
  | _ :: _ => none
theorem strsOf_ok {K : PySem.W.Frag} {H : Hp} {ι : List Addr} : ∀ {vs : List V} {ws : List T} {xs : List Str}, Reps K H ι vs ws → strsOf ws = some xs → vs = xs.map V.str
  | _, _, _, .nil, e => by cases e; rfl
  | _, _, xs, .cons (w := w) (ws := ws) h t, e => by
    cases h with
    | str x =>
      have e : (strsOf ws).map (x :: ·) = some xs := e
      cases e2 : strsOf ws with
      | none => rw [e2] at e; cases e
      | some ys =>
        rw [e2] at e
        cases e
        rw [strsOf_ok t e2]
        rfl
    | _ => cases e
def mJoin : OM
  | .str z, [b], S => match seqG S b with
    | some ws => match strsOf ws with
      | some ys => if (ys.map (·.length)).sum + ys.length * z.length ≤ 16777216 then some (.str (Txt.join z ys), S) else none
      | none => none
    | none => none
  | _, _, _ => none
theorem m_join : JM B X "str.join" mJoin := by
  intro pins s σ H x xs v us Q I rx rs ⟨ι, S, a, as, sr, ra, rb, p⟩
  cases ra with
  | str z =>
    cases rb with
    | nil => exact p.elim
    | @cons y w _ _ hy t => cases t with
      | cons _ _ => exact p.elim
      | nil =>
        have p : PostO (gX B X) ι H (match seqG S w with
          | some ws => match strsOf ws with
            | some ys => if (ys.map (·.length)).sum + ys.length * z.length ≤ 16777216 then some (.str (Txt.join z ys), S) else none
            | none => none
          | none => none) Q := p
        cases e1 : seqG S w with
        | none => rw [e1] at p; exact p.elim
        | some ws =>
          rw [e1] at p
          have p : PostO (gX B X) ι H (match strsOf ws with
            | some ys => if (ys.map (·.length)).sum + ys.length * z.length ≤ 16777216 then some (.str (Txt.join z ys), S) else none
            | none => none) Q := p
          cases e2 : strsOf ws with
          | none => rw [e2] at p; exact p.elim
          | some ys =>
            rw [e2] at p
            obtain ⟨hz, p⟩ := PostO.ite p
            obtain ⟨q, vs, rfl, rv, hs⟩ := seqG_ok sr hy e1
            have ev := strsOf_ok rv e2
            subst ev
            exact mt_join pins s σ H _ _ v us Q I rx rs ⟨z, q, ys, rfl, rfl, hs, hz, p.now sr (.str _)⟩
  | _ => cases rb with
    | nil => exact p.elim
    | cons _ t => cases t <;> exact p.elim
def mUpper : OM
  | .str z, [], S => if z.length ≤ 5592405 then some (.str (Txt.upper z), S) else none
  | _, _, _ => none
theorem m_upper : JM B X "str.upper" mUpper := by
  intro pins s σ H x xs v us Q I rx rs ⟨ι, S, a, as, sr, ra, rb, p⟩
  cases ra with
  | str z =>
    cases rb with
    | nil =>
      obtain ⟨hz, p⟩ := PostO.ite p
      exact mt_upper pins s σ H _ _ v us Q I rx rs ⟨z, rfl, rfl, hz, p.now sr (.str _)⟩
    | cons _ _ => exact p.elim
  | _ => cases rb <;> exact p.elim
end
end Fl

set_option Elab.async false
set_option linter.all false
set_option maxRecDepth 100000
set_option maxHeartbeats 4000000
/-! Fl4: targets, statements, loops, comprehensions. -/
namespace Fl
open PySem PySem.Spec PyProof.Rows L2

mutual
def T.beq : T → T → Bool
  | .non, .non => true
  | .bl a, .bl b => a == b
  | .int a, .int b => a == b
  | .str a, .str b => decide (a = b)
  | .tup a, .tup b => T.beqs a b
  | .ref a, .ref b => a == b
  | _, _ => false
def T.beqs : List T → List T → Bool
  | [], [] => true
  | a :: r, b :: s => T.beq a b && T.beqs r s
  | _, _ => false
end
mutual
theorem T.beq_self : ∀ a : T, T.beq a a = true
  | .non => rfl
  | .bl a => by simp [T.beq]
  | .int a => by simp [T.beq]
  | .str a => by simp [T.beq]
  | .tup a => by unfold T.beq; exact T.beqs_self a
  | .ref a => by simp [T.beq]
theorem T.beqs_self : ∀ a : List T, T.beqs a a = true
  | [] => rfl
  | a :: r => by unfold T.beqs; rw [T.beq_self a, T.beqs_self r]; rfl
end
mutual
theorem T.eq_of : ∀ {a b : T}, T.beq a b = true → a = b
  | .non, b, h => by cases b <;> first | rfl | (unfold T.beq at h; cases h)
  | .bl a, b, h => by cases b <;> first | (simp [T.beq] at h; rw [h]) | (unfold T.beq at h; cases h)
  | .int a, b, h => by cases b <;> first | (simp [T.beq] at h; rw [h]) | (unfold T.beq at h; cases h)
  | .str a, b, h => by cases b <;> first | (simp [T.beq] at h; rw [h]) | (unfold T.beq at h; cases h)
  | .tup a, b, h => by
    cases b with
    | tup b => unfold T.beq at h; rw [T.eqs_of h]
    | _ => unfold T.beq at h; cases h
  | .ref a, b, h => by cases b <;> first | (simp [T.beq] at h; rw [h]) | (unfold T.beq at h; cases h)
theorem T.eqs_of : ∀ {a b : List T}, T.beqs a b = true → a = b
  | [], b, h => by cases b <;> first | rfl | (unfold T.beqs at h; cases h)
  | a :: r, b, h => by
    cases b with
    | nil => unfold T.beqs at h; cases h
    | cons b s =>
      unfold T.beqs at h
      rw [Bool.and_eq_true] at h
      rw [T.eq_of h.1, T.eqs_of h.2]
end

/-- what a loop walks: the items, and the cells that must stand as they stood -/
structure Its where
  ws : List T
  chk : List (Nat × List T)
def chkOk (S : Store) : List (Nat × List T) → Bool
  | [] => true
  | (n, ws) :: r => (match getL S n with
    | some c => T.beqs c ws
    | none => false) && chkOk S r
abbrev FI := Env → Store → Out Its

/-! ### targets -/
def PGt (g : Gv) (W : WX) (f : FG) : TG := fun v σ H Q => ∃ (ι : List Addr) (S : Store) (ρ : Env) (w : T), SRel g.B g.K ι H S ∧ ERel g.K ι H σ ρ ∧ Rep g.K H ι v w ∧ Post (β := L2.St) (α := Env) g W σ ι H (f w ρ S) Q
theorem PG.imp {X : Cx} {e : Expr} {t t' : TG} (h : PG X e t) (i : ∀ v σ H Q, t' v σ H Q → t v σ H Q) : PG X e t' := ⟨fun pins s σ H v u Q I r q => h.run pins s σ H v u Q I r (i v σ H Q q)⟩
theorem PGs.imp {X : Cx} {e : List Expr} {t t' : TGs} (h : PGs X e t) (i : ∀ v σ H Q, t' v σ H Q → t v σ H Q) : PGs X e t' := ⟨fun pins s σ H v u Q I r q => h.run pins s σ H v u Q I r (i v σ H Q q)⟩
section
variable {B : Bd} {X : Cx} {W : WX} {a b c e : Expr} {es : List Expr} {fa fb fc : FE} {fs : FA} {pos : Pos}
def gNm (i : Nat) : FG := fun w ρ S => .ok (ρ.set i (some w)) S
theorem g_nm (i : Nat) {x : Str} (hN : X.N.Nodup) (hi : X.N[i]? = some x := by rfl) (hx : Loc X.env.scope x := by first | exact .inl rfl | exact .inr rfl) (hf : X.fn x = true ∨ X.env.scope.names.lookup x = some .local := by first | exact .inl rfl | exact .inr rfl | assumption) : PG X (.Name x pos) (PGt (gX B X) W (gNm i)) :=
  PG.imp (pg_name hN hi hx hf) fun v σ H Q ⟨ι, S, ρ, w, s, er, r, p⟩ => p.now s (er.set i r)
/-- names one after the other -/
def gNms : List Nat → List T → Env → Env
  | i :: is, w :: ws, ρ => gNms is ws (ρ.set i (some w))
  | _, _, ρ => ρ
def gTp (is : List Nat) : FG := fun w ρ S => match seqG S w with
  | some ws => if ws.length = is.length then .ok (gNms is ws ρ) S else .bad
  | none => .bad
def nmsR : List Nat → TGs
  | [] => gNil
  | i :: is => gCons (gName i) (nmsR is)
theorem nmsR_ok {K : PySem.W.Frag} {ι : List Addr} {H : Hp} {Q : L2.St → Hp → Prop} : ∀ {is : List Nat} {vs : List V} {ws : List T} {σ : L2.St} {ρ : Env}, Reps K H ι vs ws → ws.length = is.length → ERel K ι H σ ρ → (∀ σ', ERel K ι H σ' (gNms is ws ρ) → Q σ' H) → nmsR is vs σ H Q
  | [], _, _, _, _, .nil, _, e, h => ⟨rfl, h _ e⟩
  | [], _, _, _, _, .cons _ _, l, _, _ => by simp at l
  | i :: is, _, _, _, _, .nil, l, _, _ => by simp at l
  | i :: is, _, _, _, _, .cons hv t, l, e, h => ⟨_, _, rfl, nmsR_ok t (by simpa using l) (e.set i hv) h⟩
/-- a, b = .. of a tuple -/
def tupOnly : T → Bool
  | .tup _ => true
  | _ => false
def gTpT (is : List Nat) : FG := fun w ρ S => match w with
  | .tup ws => if ws.length = is.length then .ok (gNms is ws ρ) S else .bad
  | _ => .bad
theorem g_tup {is : List Nat} {k n : Nat} (hc : X.calm = true) (h : PGs X es (nmsR is)) (hi : is.length = n := by rfl)
    (hn : (assignEach es X.env).length = n := by rfl) (hst : (assignEach es X.env).findIdx? (·.1) = none := by rfl) : PG X (.Tuple es k pos) (PGt (gX B X) W (gTpT is)) :=
  PG.imp (pg_tup hc h hn hst) fun v σ H Q ⟨ι, S, ρ, w, s, er, r, p⟩ => by
    cases r with
    | @tup a vs ws h r =>
      have p : Post (β := L2.St) (α := Env) (gX B X) W σ ι H (if ws.length = is.length then .ok (gNms is ws ρ) S else .bad) Q := p
      by_cases hl : ws.length = is.length
      · rw [if_pos hl] at p
        exact ⟨a, vs, rfl, h, by rw [r.length, hl, hi], nmsR_ok r hl er fun σ' e' => p.now s e'⟩
      · rw [if_neg hl] at p
        exact p.elim
    | _ => exact p.elim
/-- o[i] = .. -/
def setG (S : Store) : T → T → T → Option Store
  | .ref n, .int k, w => match S[n]? with
    | some (.lst ws) => (ixN ws.length k).map fun j => S.set n (.lst (ws.set j w))
    | _ => none
  | _, _, _ => none
def gSb (f h : FE) : FG := fun w ρ S => (f ρ S).bind fun o S1 => (h ρ S1).bind fun i S2 => match setG S2 o i w with
  | some S3 => .ok ρ S3
  | none => .bad
theorem g_sub {o i : Expr} {fo fi : FE} (ho : PE X o (lift (gX B X) W fo)) (hi : PE X i (lift (gX B X) W fi))
    (ha : ∀ v, assign (.Subscript o i pos) X.env v = (do
      let ov ← holding [v] (eval o X.env)
      let iv ← holding [v, ov] (eval i X.env)
      standAt pos
      holding [v, ov, iv] (setItem ov iv v)
      release [v, ov, iv] []) := by intro _; rfl) : PG X (.Subscript o i pos) (PGt (gX B X) W (gSb fo fi)) :=
  PG.imp (pg_sub ho hi set_list ha) fun v σ H Q ⟨ι, S, ρ, w, s, er, r, p⟩ => ⟨ι, S, ρ, s, er, p.bind fun ov ow S1 H1 ι1 l1 s1 r1 p1 => ⟨ι1, S1, ρ, s1, er.later l1, p1.bind fun iv iw S2 H2 ι2 l2 s2 r2 p2 => by
    have r1 : Rep X.K H2 ι2 ov ow := Rep.later l2 r1
    have r2 : Rep X.K H2 ι2 iv iw := r2
    have r : Rep X.K H2 ι2 v w := Rep.later (l1.trans l2) r
    have er2 := er.later (l1.trans l2)
    have p2 : Post (β := L2.St) (α := Env) (gX B X) W σ ι2 H2 (match setG S2 ow iw w with
      | some S3 => .ok ρ S3
      | none => .bad) Q := p2
    cases r1 with
    | @ref n a h => cases r2 with
      | int k =>
        have e : setG S2 (T.ref n) (T.int k) w = (match S2[n]? with
          | some (.lst ws) => (ixN ws.length k).map fun j => S2.set n (.lst (ws.set j w))
          | _ => none) := rfl
        rw [e] at p2
        cases hc : S2[n]? with
        | none => rw [hc] at p2; exact p2.elim
        | some c =>
          rw [hc] at p2
          cases c with
          | rol ws => exact p2.elim
          | fn => exact p2.elim
          | lst ws =>
            have p2 : Post (β := L2.St) (α := Env) (gX B X) W σ ι2 H2 (match (ixN ws.length k).map fun j => S2.set n (.lst (ws.set j w)) with
              | some S3 => .ok ρ S3
              | none => .bad) Q := p2
            cases hj : ixN ws.length k with
            | none => rw [hj] at p2; exact p2.elim
            | some j =>
              rw [hj] at p2
              obtain ⟨vs, h1, rv⟩ := SRel.at (B := B) s2 hc h
              refine ⟨a, vs, k, j, rfl, rfl, h1, by rw [rv.length]; exact hj, ?_⟩
              exact p2 σ _ ι2 (Later.put h1) (SRel.put (B := B) s2 hc h h1 (rv.set r j)) (er2.later (Later.put h1))
      | _ => exact p2.elim
    | _ => cases r2 <;> exact p2.elim⟩⟩

/-! ### blocks, small statements -/
def sNext : FS := fun ρ S => .nx ρ S
def sSeq (f h : FS) : FS := fun ρ S => match f ρ S with
  | .nx ρ' S' => h ρ' S'
  | o => o
theorem b_nil : PSs X [] (liftS (gX B X) W sNext) := PSs.imp pss_nil fun D σ H ⟨ι, S, ρ, s, er, p⟩ => p σ H ι Later.refl s er
theorem b_cons {st : Stmt} {rest : List Stmt} {f h : FS} (h1 : PS X st (liftS (gX B X) W f)) (h2 : PSs X rest (liftS (gX B X) W h)) : PSs X (st :: rest) (liftS (gX B X) W (sSeq f h)) :=
  PSs.imp (pss_cons h1 h2) fun D σ H ⟨ι, S, ρ, s, er, p⟩ => ⟨ι, S, ρ, s, er, by
    unfold sSeq at p
    cases e : f ρ S with
    | nx ρ' S' =>
      rw [e] at p
      intro σ' H' ι' l s' er'
      exact ⟨ι', S', ρ', s', er', PostS.from l p⟩
    | rt w S' => rw [e] at p; exact p
    | bk ρ' S' => rw [e] at p; exact p
    | ct ρ' S' => rw [e] at p; exact p
    | exc x ρ' S' => rw [e] at p; exact p
    | bad => rw [e] at p; exact p⟩
theorem b_one {st : Stmt} {f : FS} (h1 : PS X st (liftS (gX B X) W f)) : PSs X [st] (liftS (gX B X) W f) := pss_one h1
theorem s_pass : PS X (.Pass pos) (liftS (gX B X) W sNext) := PS.imp ps_pass fun D σ H ⟨ι, S, ρ, s, er, p⟩ => p σ H ι Later.refl s er
def sBreak : FS := fun ρ S => .bk ρ S
def sCont : FS := fun ρ S => .ct ρ S
theorem s_break : PS X (.Break pos) (liftS (gX B X) W sBreak) := PS.imp ps_break fun D σ H ⟨ι, S, ρ, s, er, p⟩ => p σ H ι Later.refl s er
theorem s_cont : PS X (.Continue pos) (liftS (gX B X) W sCont) := PS.imp ps_continue fun D σ H ⟨ι, S, ρ, s, er, p⟩ => p σ H ι Later.refl s er
def sExpr (f : FE) : FS := fun ρ S => (f ρ S).thenS ρ fun _ S1 => .nx ρ S1
theorem s_expr (he : PE X e (lift (gX B X) W fa)) (hs : swapsWith e none pos.line X.env = pure false := by rfl) : PS X (.Expr e pos) (liftS (gX B X) W (sExpr fa)) :=
  PS.imp (ps_expr he hs) fun D σ H h => h.bind fun v w S1 H1 ι1 ρ s1 e1 r1 p => p σ H1 ι1 Later.refl s1 e1
def sRet (f : FE) : FS := fun ρ S => (f ρ S).thenS ρ fun w S1 => .rt w S1
theorem s_ret (he : PE X e (lift (gX B X) W fa)) : PS X (.Return (some e) pos) (liftS (gX B X) W (sRet fa)) :=
  PS.imp (ps_ret he) fun D σ H h => h.bind fun v w S1 H1 ι1 ρ s1 e1 r1 p => p v H1 ι1 Later.refl s1 r1
def sRetN : FS := fun ρ S => .rt .non S
theorem s_retN : PS X (.Return none pos) (liftS (gX B X) W sRetN) := PS.imp ps_retN fun D σ H ⟨ι, S, ρ, s, er, p⟩ => p .non H ι Later.refl s .non
def sIf (t : FT) (f h : FS) : FS := fun ρ S => (t ρ S).thenS ρ fun k S1 => if k = true then f ρ S1 else h ρ S1
theorem s_if {t : FT} {f h : FS} {sa sb : List Stmt} (hc : PT X c (lift (gX B X) W t)) (ha : PSs X sa (liftS (gX B X) W f)) (hb : PSs X sb (liftS (gX B X) W h)) : PS X (.If c sa sb pos) (liftS (gX B X) W (sIf t f h)) :=
  PS.imp (ps_if hc ha hb) fun D σ H hh => hh.bind fun v w S1 H1 ι1 ρ s1 e1 r1 p => by
    have r1 : v = w := r1
    subst r1
    cases v with
    | true => exact ⟨ι1, S1, ρ, s1, e1, p⟩
    | false => exact ⟨ι1, S1, ρ, s1, e1, p⟩
def sAsg (f : FE) (g : FG) : FS := fun ρ S => (f ρ S).thenS ρ fun w S1 => (g w ρ S1).thenS ρ fun ρ' S2 => .nx ρ' S2
theorem s_asg {tg : Expr} {g : FG} (he : PE X e (lift (gX B X) W fa)) (hg : PG X tg (PGt (gX B X) W g)) (hs : swapsWithSole [tg] e pos.line X.env = pure false := by rfl) (hw : swappedStores [tg] e X.env = pure none := by rfl)
    (h1 : (assignEach [tg] X.env).map (·.2) = [assign tg X.env] := by rfl) : PS X (.Assign [tg] e pos) (liftS (gX B X) W (sAsg fa g)) :=
  PS.imp (ps_asg he hg hs hw h1) fun D σ H h => h.bind fun v w S1 H1 ι1 ρ s1 e1 r1 p => ⟨ι1, S1, ρ, w, s1, e1, r1, PostS.bind e1 p fun σ' ρ' S2 H2 ι2 l2 s2 r2 p2 => p2 σ' H2 ι2 Later.refl s2 r2⟩
theorem s_set (i : Nat) {x : Str} {pos' : Pos} (hN : X.N.Nodup) (he : PE X e (lift (gX B X) W fa)) (hi : X.N[i]? = some x := by rfl) (hx : Loc X.env.scope x := by first | exact .inl rfl | exact .inr rfl) (hs : swapsWith e (some (.Name x pos')) pos.line X.env = pure false := by rfl)
    (hf : X.fn x = true ∨ X.env.scope.names.lookup x = some .local := by first | exact .inl rfl | exact .inr rfl | assumption) : PS X (.Assign [.Name x pos'] e pos) (liftS (gX B X) W (sAsg fa (gNm i))) :=
  PS.imp (ps_set hN hi hx he hs hf) fun D σ H h => h.bind fun v w S1 H1 ι1 ρ s1 e1 r1 p => p _ H1 ι1 Later.refl s1 (ERel.set i e1 r1)
/-- a, b = x, y -/
def par2 (i j : Nat) (ρ : Env) (S : Store) : List T → OutS
  | [v, w] => .nx ((ρ.set i (some v)).set j (some w)) S
  | _ => .bad
def sPar (f : FA) (i j : Nat) : FS := fun ρ S => (f ρ S).thenS ρ fun ws S1 => par2 i j ρ S1 ws
theorem s_par (i j : Nat) {x y : Str} {px py pt : Pos} {kt k2 pt2} (hc : X.calm = true) (hN : X.N.Nodup) (ha : PA X [a, b] (lift (gX B X) W fs)) (hi : X.N[i]? = some x := by rfl) (hj : X.N[j]? = some y := by rfl) (hij : i ≠ j := by decide)
    (hx : X.env.scope.names.lookup x = some .local := by rfl) (hy : X.env.scope.names.lookup y = some .local := by rfl)
    (hw : swappedStores [.Tuple [.Name x px, .Name y py] kt pt] (.Tuple [a, b] k2 pt2) X.env = pure (some [x, y]) := by rfl)
    (hs : swapsWithSole [.Tuple [.Name x px, .Name y py] kt pt] (.Tuple [a, b] k2 pt2) pos.line X.env = pure false := by rfl) :
    PS X (.Assign [.Tuple [.Name x px, .Name y py] kt pt] (.Tuple [a, b] k2 pt2) pos) (liftS (gX B X) W (sPar fs i j)) :=
  PS.imp (ps_par hc hN hi hj hij hx hy ha hw hs) fun D σ H h => h.bind fun v w S1 H1 ι1 ρ s1 e1 r1 p => by
    have r1 : Reps X.K H1 ι1 v w := r1
    cases r1 with
    | nil => exact p.elim
    | cons h1 t1 => cases t1 with
      | nil => exact p.elim
      | cons h2 t2 => cases t2 with
        | nil => exact ⟨_, _, rfl, p _ H1 ι1 Later.refl s1 (ERel.set j (ERel.set i e1 h1) h2)⟩
        | cons _ _ => exact p.elim
/-- x op= e -/
def sAug (i : Nat) (o : O2) (f : FE) : FS := fun ρ S => match ρ[i]? with
  | some (some x) => (f ρ S).thenS ρ fun y S1 => match o x y S1 with
    | some p => .nx (ρ.set i (some p.1)) p.2
    | none => .bad
  | _ => .bad
theorem s_aug (i : Nat) {x : Str} {op : Operator} {o : O2} {pos' : Pos} (hN : X.N.Nodup) (ho : J2 B X (inplaceOp op) o) (he : PE X e (lift (gX B X) W fa)) (hi : X.N[i]? = some x := by rfl) (hx : Loc X.env.scope x := by first | exact .inl rfl | exact .inr rfl) (hf : X.fn x = true ∨ X.env.scope.names.lookup x = some .local := by first | exact .inl rfl | exact .inr rfl | assumption) :
    PS X (.AugAssign (.Name x pos') op e pos) (liftS (gX B X) W (sAug i o fa)) :=
  PS.imp (ps_aug hN hi hx he ho hf) fun D σ H ⟨ι, S, ρ, s, er, p⟩ => by
    unfold sAug at p
    split at p
    · rename_i w hw
      obtain ⟨v, h1, h2⟩ := er.2 i w hw
      refine ⟨v, h1, ι, S, ρ, s, er, PostS.bind er p fun v2 w2 S1 H1 ι1 l1 s1 r1 p1 => ?_⟩
      refine ⟨ι1, S1, w, w2, s1, Rep.later l1 h2, r1, ?_⟩
      have p1 : PostS (gX B X) W D ι1 H1 (match o w w2 S1 with
        | some p => .nx (ρ.set i (some p.1)) p.2
        | none => .bad) := p1
      cases e : o w w2 S1 with
      | none => rw [e] at p1; exact p1.elim
      | some q =>
        rw [e] at p1
        intro v3 H3 ι3 l3 s3 r3
        exact p1 _ H3 ι3 l3 s3 (ERel.set i ((er.later l1).later l3) r3)
    · exact p.elim
theorem i_add : J2 B X (inplaceOp .Add) (fun a b S => match a, b with
    | .int i, .int j => some (.int (i + j), S)
    | .str x, .str y => if x.length + y.length ≤ line then some (.str (x ++ y), S) else none
    | _, _ => none) := by
  intro pins s σ H x y v u Q I rx ry ⟨ι, S, a, b, sr, ra, rb, p⟩
  cases ra with
  | int i => cases rb with
    | int j => exact iop_add pins s σ H _ _ v u Q I rx ry ⟨i, j, rfl, rfl, PostO.now (g := gX B X) p sr (.int _)⟩
    | _ => exact p.elim
  | str i => cases rb with
    | str j =>
      obtain ⟨hz, p⟩ := PostO.ite (g := gX B X) p
      exact iop_add_str pins s σ H _ _ v u Q I rx ry ⟨i, j, rfl, rfl, le_line hz, PostO.now (g := gX B X) p sr (.str _)⟩
    | _ => exact p.elim
  | _ => cases rb <;> exact p.elim
def oIAdd : O2 := fun a b S => match a, b with
    | .int i, .int j => some (.int (i + j), S)
    | .str x, .str y => if x.length + y.length ≤ line then some (.str (x ++ y), S) else none
    | _, _ => none
theorem i_add' : J2 B X (inplaceOp .Add) oIAdd := i_add
theorem i_sub : J2 B X (inplaceOp .Sub) oSub := by
  intro pins s σ H x y v u Q I rx ry ⟨ι, S, a, b, sr, ra, rb, p⟩
  obtain ⟨i, j, rfl, rfl, rfl, rfl, p⟩ := o2I_ok (g := gX B X) ra rb p
  exact iop_sub pins s σ H _ _ v u Q I rx ry ⟨i, j, rfl, rfl, p.now sr (.int _)⟩

/-! ### what is walked -/
def WalkOk (g : Gv) (ι : List Addr) (H : Hp) (J : It) (it : Its) : Prop :=
  ∃ (G : Hp → Prop) (Y : Nat → Hp → V → Hp → Prop), Walk J it.ws.length G Y ∧
    (∀ (ι2 : List Addr) (H2 : Hp) (S2 : Store), Later g.K ι H ι2 H2 → SRel g.B g.K ι2 H2 S2 → chkOk S2 it.chk = true → G H2) ∧
    ∀ (i : Nat) (ι2 : List Addr) (H2 : Hp) (S2 : Store) (x : V) (H3 : Hp), i < it.ws.length → Later g.K ι H ι2 H2 → SRel g.B g.K ι2 H2 S2 → chkOk S2 it.chk = true → Y i H2 x H3 →
      Later g.K ι2 H2 ι2 H3 ∧ SRel g.B g.K ι2 H3 S2 ∧ ∃ w, it.ws[i]? = some w ∧ Rep g.K H3 ι2 x w
def PostI (g : Gv) (W : WX) (σ : L2.St) (ι : List Addr) (H : Hp) (o : Out Its) (R : It → Hp → Prop) : Prop := match o with
  | .ok it S' => ∀ (J : It) (H' : Hp) (ι' : List Addr), Later g.K ι H ι' H' → SRel g.B g.K ι' H' S' → WalkOk g ι' H' J it → R J H'
  | .exc e S' => ∀ (c : Value) (d : Option Addr) (H' : Hp) (ι' : List Addr), Later g.K ι H ι' H' → SRel g.B g.K ι' H' S' → XRep g.mg g.K ι' H' c d e → W c d σ H'
  | .bad => False
def liftI (g : Gv) (W : WX) (f : FI) : TI := fun σ H R => ∃ (ι : List Addr) (S : Store) (ρ : Env), SRel g.B g.K ι H S ∧ ERel g.K ι H σ ρ ∧ PostI g W σ ι H (f ρ S) R
theorem PI.imp {X : Cx} {tg e : Expr} {t t' : TI} (h : PI X tg e t) (i : ∀ σ H R, t' σ H R → t σ H R) : PI X tg e t' := ⟨fun pins s σ H R I q => h.run pins s σ H R I (i σ H R q)⟩
theorem PostI.from {g : Gv} {σ : L2.St} {ι ι' : List Addr} {H H' : Hp} {o : Out Its} {R : It → Hp → Prop} (e : Later g.K ι H ι' H') (p : PostI g W σ ι H o R) : PostI g W σ ι' H' o R := by
  cases o with
  | ok w S => exact fun v H2 ι2 l => p v H2 ι2 (e.trans l)
  | exc x S => exact fun c d H2 ι2 l => p c d H2 ι2 (e.trans l)
  | bad => exact p
theorem liftI.bind {β α : Type} [Vw β α] {g : Gv} {σ : L2.St} {H : Hp} {f : Env → Store → Out α} {k : Env → α → Store → Out Its} {R : It → Hp → Prop} {R' : β → Hp → Prop} (h : liftI g W (fun ρ S => (f ρ S).bind (k ρ)) σ H R)
    (i : ∀ (v : β) (w : α) (S1 : Store) (H1 : Hp) (ι1 : List Addr) (ρ : Env), SRel g.B g.K ι1 H1 S1 → ERel g.K ι1 H1 σ ρ → Vw.rel g.K ι1 H1 v w → PostI g W σ ι1 H1 (k ρ w S1) R → R' v H1) : lift g W f σ H R' := by
  obtain ⟨ι, S, ρ, sr, er, p⟩ := h
  refine ⟨ι, S, ρ, sr, er, ?_⟩
  cases e : f ρ S with
  | ok w S1 =>
    have p : PostI g W σ ι H ((f ρ S).bind (k ρ)) R := p
    rw [e] at p
    exact fun v H1 ι1 l s r => i v w S1 H1 ι1 ρ s (er.later l) r (PostI.from l p)
  | exc x S1 =>
    have p : PostI g W σ ι H ((f ρ S).bind (k ρ)) R := p
    rw [e] at p
    exact p
  | bad =>
    have p : PostI g W σ ι H ((f ρ S).bind (k ρ)) R := p
    rw [e] at p
    exact p
/-- a walk over the list at a, over the tuple at a -/
theorem walkL {K : PySem.W.Frag} {a : Addr} {n : Nat} : Walk (Itl K a) n (fun H => ∃ xs, SqL K H a xs ∧ xs.length = n) (fun i H x H' => H' = H ∧ ∀ xs, SqL K H a xs → xs[i]? = some x) :=
  ⟨fun i H hi ⟨xs, h, e⟩ => ⟨xs, xs[i]'(by omega), h, by simp [e, hi]⟩, fun H ⟨xs, h, e⟩ => ⟨xs, h, by omega⟩, fun i H x H' hi ⟨xs, h, e⟩ y => y⟩
theorem chk_at {n : Nat} {ws : List T} {S : Store} (h : chkOk S [(n, ws)] = true) : ∃ c, getL S n = some c ∧ c = ws := by
  unfold chkOk at h
  rw [Bool.and_eq_true] at h
  cases e : getL S n with
  | none => rw [e] at h; cases h.1
  | some c =>
    rw [e] at h
    exact ⟨c, rfl, T.eqs_of h.1⟩
theorem walkOkL {ι : List Addr} {H : Hp} {a : Addr} {n : Nat} {ws : List T} (ha : ι[n]? = some a) : WalkOk (gX B X) ι H (Itl X.K a) ⟨ws, [(n, ws)]⟩ := by
  refine ⟨_, _, walkL, fun ι2 H2 S2 l s h => ?_, fun i ι2 H2 S2 x H3 hi l s h y => ?_⟩
  · obtain ⟨c, h1, h2⟩ := chk_at h
    obtain ⟨vs, h3, h4⟩ := SRel.seq (B := B) s h1 (l.pre _ _ ha)
    exact ⟨vs, h3, by rw [h4.length, h2]⟩
  · obtain ⟨rfl, y⟩ := y
    obtain ⟨c, h1, h2⟩ := chk_at h
    obtain ⟨vs, h3, h4⟩ := SRel.seq (B := B) s h1 (l.pre _ _ ha)
    obtain ⟨w, h5, h6⟩ := h4.get' (y vs h3)
    exact ⟨Later.refl, s, w, by rw [h2] at h5; exact h5, h6⟩
theorem walkOkT {ι : List Addr} {H : Hp} {a : Addr} {vs : List V} {ws : List T} (h : SqT X.K H a vs) (r : Reps X.K H ι vs ws) : WalkOk (gX B X) ι H (Itt X.K a) ⟨ws, []⟩ := by
  refine ⟨_, _, by rw [← r.length]; exact walk_tup, fun ι2 H2 S2 l s _ => l.tup _ _ h, fun i ι2 H2 S2 x H3 hi l s _ y => ?_⟩
  obtain ⟨rfl, y⟩ := y
  obtain ⟨w, h5, h6⟩ := r.get' y
  exact ⟨Later.refl, s, w, h5, h6.later l⟩
/-- what is walked by itself: a tuple, a list -/
def iSeqG (S : Store) : T → Option Its
  | .tup ws => some ⟨ws, []⟩
  | .ref n => match getL S n with
    | some c => some ⟨c, [(n, c)]⟩
    | none => none
  | _ => none
def outI : Option Its → Store → Out Its
  | some i, S => .ok i S
  | none, _ => .bad
def fiSeq (f : FE) : FI := fun ρ S => (f ρ S).bind fun a S1 => outI (iSeqG S1 a) S1
def iLT (K : PySem.W.Frag) (tl : TE) : TI := fun σ H R => tl σ H fun x H1 => ∃ a, x = .ref a ∧ (((∃ xs, SqL K H1 a xs) ∧ R (Itl K a) H1) ∨ ((∃ xs, SqT K H1 a xs) ∧ R (Itt K a) H1))
theorem pi_lt {tg l : Expr} {tl : TE} (hl : PE X l tl) : PI X tg l (iLT X.K tl) := ⟨fun pins s σ H R I h => by
  refine thn (hl.run pins s σ H _ I h) fun v s1 ⟨x, H1, I1, r1, a, e, q⟩ => ?_
  subst e
  cases r1
  have fresh : ∀ b ∈ [s1.heap.objs.size], FpOk X pins H1 b := fun b hb => by
    obtain rfl := List.mem_singleton.mp hb
    exact I1.fpOk (Nat.le_refl _) (I1.hok.fresh (Nat.le_refl _))
  rcases q with ⟨⟨xs, hq⟩, q⟩ | ⟨⟨xs, hq⟩, q⟩
  · obtain ⟨its, rv, pl, hz⟩ := I1.list hq
    exact wpAny_pyIter_list pl.isList ⟨_, _, _, _, H1, rfl, I1.kept (t' := s1.toks) fun b o e => Heap.get?_push_of_some _ e, turn_list a _, ⟨_, Heap.get?_push_size _ rfl, rfl, rfl⟩, fresh, q⟩
  · obtain ⟨its, rv, pl, hz⟩ := I1.tuple hq
    exact wpAny_pyIter_tuple (show s1.heap.IsTuple a its.toArray from pl) ⟨_, _, _, _, H1, rfl, I1.kept (t' := s1.toks) fun b o e => Heap.get?_push_of_some _ e, turn_tuple a _, ⟨_, Heap.get?_push_size _ rfl, rfl, rfl⟩, fresh, q⟩⟩
theorem i_seq {tg : Expr} (he : PE X e (lift (gX B X) W fa)) : PI X tg e (liftI (gX B X) W (fiSeq fa)) :=
  PI.imp (pi_lt he) fun σ H R h => h.bind fun v w S1 H1 ι1 ρ s1 e1 r1 p => by
    have r1 : Rep X.K H1 ι1 v w := r1
    cases r1 with
    | @tup a vs ws h r => exact ⟨a, rfl, .inr ⟨⟨vs, h⟩, p _ H1 ι1 Later.refl s1 (walkOkT h r)⟩⟩
    | @ref n a h =>
      have p : PostI (gX B X) W σ ι1 H1 (outI (match getL S1 n with
        | some c => some ⟨c, [(n, c)]⟩
        | none => none) S1) R := p
      cases hc : getL S1 n with
      | none => rw [hc] at p; exact p.elim
      | some c =>
        rw [hc] at p
        obtain ⟨vs, h3, h4⟩ := SRel.seq (B := B) s1 hc h
        exact ⟨a, rfl, .inl ⟨⟨vs, h3⟩, p _ H1 ι1 Later.refl s1 (walkOkL h)⟩⟩
    | _ => exact p.elim
/-- range(n), range(a, b) -/
def rngT (lo : Int) (n : Nat) : List T := (List.range n).map fun i => .int (lo + (i : Nat))
def rOk (i : Int) : Bool := decide (-(2 ^ 62) ≤ i ∧ i < 2 ^ 62)
def rng1 : List T → Option Its
  | [.int j] => if rOk j = true then some ⟨rngT 0 j.toNat, []⟩ else none
  | _ => none
def rng2 : List T → Option Its
  | [.int i, .int j] => if rOk i = true ∧ rOk j = true then some ⟨rngT i (j - i).toNat, []⟩ else none
  | _ => none
def fiRng1 (f : FA) : FI := fun ρ S => (f ρ S).bind fun as S1 => outI (rng1 as) S1
def fiRng2 (f : FA) : FI := fun ρ S => (f ρ S).bind fun as S1 => outI (rng2 as) S1
theorem PostI.o {g : Gv} {σ : L2.St} {ι : List Addr} {H : Hp} {o : Option Its} {S : Store} {R : It → Hp → Prop} (p : PostI g W σ ι H (outI o S) R) : ∃ it, o = some it ∧ PostI g W σ ι H (.ok it S) R := by
  cases o with
  | none => exact p.elim
  | some it => exact ⟨it, rfl, p⟩
theorem walkOkR {g : Gv} {ι : List Addr} {H : Hp} {lo : Int} {n : Nat} : WalkOk g ι H (Itr lo n) ⟨rngT lo n, []⟩ := by
  have e : (⟨rngT lo n, []⟩ : Its).ws.length = n := by simp [rngT]
  refine ⟨fun _ => True, YFn fun i => .int (lo + i), by rw [e]; exact walk_range, fun _ _ _ _ _ _ => trivial, fun i ι2 H2 S2 x H3 hi l s _ y => ?_⟩
  obtain ⟨rfl, rfl⟩ := y
  have hi : i < n := by rw [e] at hi; exact hi
  exact ⟨Later.refl, s, .int (lo + (i : Nat)), by simp [rngT, hi], .int _⟩
theorem i_range1 {tg : Expr} {p : Pos} (hg : Gl X "range") (hm : X.mg "range" = none) (ha : PA X [a] (lift (gX B X) W fs)) (hs : starEach [a] X.env = [(false, eval a X.env)] := by rfl) : PI X tg (.Call (.Name "range" p) [a] [] pos) (liftI (gX B X) W (fiRng1 fs)) :=
  PI.imp (pi_range1 hg hm ha hs) fun σ H R h => h.bind fun v w S1 H1 ι1 ρ s1 e1 r1 p => by
    have r1 : Reps X.K H1 ι1 v w := r1
    obtain ⟨it, e, p⟩ := PostI.o p
    cases r1 with
    | nil => cases e
    | cons h t => cases t with
      | nil => cases h with
        | int j =>
          have e : (if rOk j = true then some (⟨rngT 0 j.toNat, []⟩ : Its) else none) = some it := e
          by_cases hj : rOk j = true
          · rw [if_pos hj] at e
            cases e
            obtain ⟨h1, h2⟩ := of_decide_eq_true hj
            exact ⟨j, rfl, h1, h2, p _ H1 ι1 Later.refl s1 walkOkR⟩
          · rw [if_neg hj] at e
            cases e
        | _ => cases e
      | cons h2 t2 => cases h <;> cases e
theorem i_range2 {tg : Expr} {p : Pos} (hg : Gl X "range") (hm : X.mg "range" = none) (ha : PA X [a, b] (lift (gX B X) W fs)) (hs : starEach [a, b] X.env = [(false, eval a X.env), (false, eval b X.env)] := by rfl) (hs2 : starEach [b] X.env = [(false, eval b X.env)] := by rfl) :
    PI X tg (.Call (.Name "range" p) [a, b] [] pos) (liftI (gX B X) W (fiRng2 fs)) :=
  PI.imp (pi_range2 hg hm ha hs hs2) fun σ H R h => h.bind fun v w S1 H1 ι1 ρ s1 e1 r1 p => by
    have r1 : Reps X.K H1 ι1 v w := r1
    obtain ⟨it, e, p⟩ := PostI.o p
    cases r1 with
    | nil => cases e
    | cons h t => cases t with
      | nil => cases h <;> cases e
      | cons h2 t2 => cases t2 with
        | cons _ _ => cases h <;> cases h2 <;> cases e
        | nil => cases h with
          | int i => cases h2 with
            | int j =>
              have e : (if rOk i = true ∧ rOk j = true then some (⟨rngT i (j - i).toNat, []⟩ : Its) else none) = some it := e
              by_cases hj : rOk i = true ∧ rOk j = true
              · rw [if_pos hj] at e
                cases e
                obtain ⟨h1, h2⟩ := of_decide_eq_true hj.1
                obtain ⟨h3, h4⟩ := of_decide_eq_true hj.2
                exact ⟨i, j, rfl, ⟨h1, h2, h3, h4⟩, p _ H1 ι1 Later.refl s1 walkOkR⟩
              · rw [if_neg hj] at e
                cases e
            | _ => cases e
          | _ => cases h2 <;> cases e
/-- a text, sign by sign -/
def strT (z : Str) : List T := z.cps.toList.map fun c => .str ⟨#[c]⟩
def iStrG : T → Option Its
  | .str z => some ⟨strT z, []⟩
  | _ => none
def fiStr (f : FE) : FI := fun ρ S => (f ρ S).bind fun a S1 => outI (iStrG a) S1
theorem i_str {tg : Expr} (he : PE X e (lift (gX B X) W fa)) : PI X tg e (liftI (gX B X) W (fiStr fa)) :=
  PI.imp (pi_str he) fun σ H R h => h.bind fun v w S1 H1 ι1 ρ s1 e1 r1 p => by
    have r1 : Rep X.K H1 ι1 v w := r1
    obtain ⟨it, e, p⟩ := PostI.o p
    cases r1 with
    | str z =>
      cases e
      refine ⟨z, rfl, p _ H1 ι1 Later.refl s1 ⟨_, _, by rw [show (⟨strT z, []⟩ : Its).ws.length = z.cps.size by simp [strT]]; exact walk_str, fun _ _ _ _ _ _ => trivial, fun i ι2 H2 S2 x H3 hi l s _ y => ?_⟩⟩
      obtain ⟨rfl, c, h1, rfl⟩ := y
      exact ⟨Later.refl, s, .str ⟨#[c]⟩, by simp [strT]; exact h1, .str _⟩
    | _ => cases e
/-- enumerate(a list) -/
def enumT (ws : List T) : List T := ws.zipIdx.map fun p => .tup [.int (p.2 : Nat), p.1]
def iEnumG (S : Store) : List T → Option Its
  | [.ref n] => match getL S n with
    | some c => some ⟨enumT c, [(n, c)]⟩
    | none => none
  | _ => none
def fiEnum (f : FA) : FI := fun ρ S => (f ρ S).bind fun as S1 => outI (iEnumG S1 as) S1
/-- zip of two lists, of two tuples -/
def zipT (xs ys : List T) : List T := (xs.zip ys).map fun p => .tup [p.1, p.2]
def iZipG (S : Store) : List T → Option Its
  | [.ref n, .ref m] => match getL S n, getL S m with
    | some c, some d => some ⟨zipT c d, [(n, c), (m, d)]⟩
    | _, _ => none
  | [.tup xs, .tup ys] => some ⟨zipT xs ys, []⟩
  | _ => none
def fiZip (f : FA) : FI := fun ρ S => (f ρ S).bind fun as S1 => outI (iZipG S1 as) S1
theorem zipT_length (xs ys : List T) : (zipT xs ys).length = min xs.length ys.length := by simp [zipT]
theorem zipT_get {xs ys : List T} {i : Nat} {x y : T} (h1 : xs[i]? = some x) (h2 : ys[i]? = some y) : (zipT xs ys)[i]? = some (.tup [x, y]) := by
  unfold zipT
  rw [List.getElem?_map, (List.getElem?_zip_eq_some (z := (x, y))).mpr ⟨h1, h2⟩]
  rfl
theorem chk_two {n m : Nat} {ws us : List T} {S : Store} (h : chkOk S [(n, ws), (m, us)] = true) : (∃ c, getL S n = some c ∧ c = ws) ∧ ∃ c, getL S m = some c ∧ c = us := by
  unfold chkOk at h
  rw [Bool.and_eq_true] at h
  refine ⟨?_, chk_at h.2⟩
  cases e : getL S n with
  | none => rw [e] at h; cases h.1
  | some c =>
    rw [e] at h
    exact ⟨c, rfl, T.eqs_of h.1⟩
theorem walkZ {K : PySem.W.Frag} {a b : Addr} {n m : Nat} : Walk (Itz K a b) (min n m) (fun H => (∃ xs, SqL K H a xs ∧ xs.length = n) ∧ ∃ ys, SqL K H b ys ∧ ys.length = m)
    (fun i H v H' => ∃ T x y, v = .ref T ∧ H T = none ∧ H' = upd H T (.tup [x, y]) ∧ (∀ xs, SqL K H a xs → xs[i]? = some x) ∧ ∀ ys, SqL K H b ys → ys[i]? = some y) :=
  ⟨fun i H hi ⟨⟨xs, h1, e1⟩, ys, h2, e2⟩ => ⟨xs, ys, xs[i]'(by omega), ys[i]'(by omega), h1, h2, by simp, by simp⟩, fun H ⟨⟨xs, h1, e1⟩, ys, h2, e2⟩ => ⟨xs, ys, h1, h2, by omega⟩, fun i H x H' hi _ y => y⟩
theorem walkZT {K : PySem.W.Frag} {a b : Addr} {xs ys : List V} : Walk (RZ.ItzT K a b) (min xs.length ys.length) (fun H => SqT K H a xs ∧ SqT K H b ys) (YPair (fun i => xs[i]?) (fun i => ys[i]?)) :=
  ⟨fun i H hi ⟨h1, h2⟩ => ⟨xs, ys, xs[i]'(by omega), ys[i]'(by omega), h1, h2, by simp, by simp⟩, fun H ⟨h1, h2⟩ => ⟨xs, ys, h1, h2, by omega⟩, fun i H x H' hi ⟨h1, h2⟩ ⟨T, u, v, e1, e2, e3, e4, e5⟩ => ⟨T, u, v, e1, e2, e3, e4 xs h1, e5 ys h2⟩⟩
theorem walkE {K : PySem.W.Frag} {a : Addr} {n : Nat} : Walk (Ite K a) n (fun H => ∃ xs, SqL K H a xs ∧ xs.length = n)
    (fun i H v H' => ∃ T x, v = .ref T ∧ H T = none ∧ H' = upd H T (.tup [.int (i : Nat), x]) ∧ ∀ xs, SqL K H a xs → xs[i]? = some x) := by
  exact ⟨fun i H hi ⟨xs, h, e⟩ => ⟨xs, xs[i]'(by omega), h, by simp [e, hi]⟩, fun H ⟨xs, h, e⟩ => ⟨xs, h, by omega⟩, fun i H x H' hi _ y => y⟩
theorem i_zip {tpos p : Pos} {elts : List Expr} {kk : Nat} (hg : Gl X "zip") (hm : X.mg "zip" = none) (ha : PA X [a, b] (lift (gX B X) W fs))
    (hs : starEach [a, b] X.env = (false, eval a X.env) :: starEach [b] X.env := by rfl) (hpl : (backTo pos (starEach [b] X.env)).any (·.1) = false := by rfl) :
    PI X (.Tuple elts kk tpos) (.Call (.Name "zip" p) [a, b] [] pos) (liftI (gX B X) W (fiZip fs)) :=
  PI.imp (RZ.pi_zipA hg hm ha hs hpl) fun σ H R h => h.bind fun v w S1 H1 ι1 ρ s1 e1 r1 p => by
    have r1 : Reps X.K H1 ι1 v w := r1
    obtain ⟨it, e, p⟩ := PostI.o p
    cases r1 with
    | nil => cases e
    | cons h t => cases t with
      | nil => cases h <;> cases e
      | cons h2 t2 => cases t2 with
        | cons _ _ => cases h <;> cases h2 <;> cases e
        | nil => cases h with
          | @tup p1 vs1 ws1 h r => cases h2 with
            | @tup p2 vs2 ws2 h' r' =>
              cases e
              refine ⟨_, _, _, _, rfl, .inr ⟨h, h', p _ H1 ι1 Later.refl s1 ⟨fun H => SqT X.K H p1 vs1 ∧ SqT X.K H p2 vs2, YPair (fun i => vs1[i]?) (fun i => vs2[i]?), by rw [show (⟨zipT _ _, []⟩ : Its).ws.length = min _ _ from zipT_length _ _, ← r.length, ← r'.length]; exact walkZT, fun ι2 H2 S2 l s _ => ⟨l.tup _ _ h, l.tup _ _ h'⟩, fun i ι2 H2 S2 x H3 hi l s _ y => ?_⟩⟩⟩
              obtain ⟨T, u, v, rfl, hT, rfl, e1, e2⟩ := y
              obtain ⟨w1, d1, d2⟩ := r.get' e1
              obtain ⟨w2, d3, d4⟩ := r'.get' e2
              exact ⟨Later.laid hT, s.laid hT, _, zipT_get d1 d3, .tup (SqT.of upd_same) (.cons ((d2.later l).later (Later.laid hT)) (.cons ((d4.later l).later (Later.laid hT)) .nil))⟩
            | _ => cases e
          | ref h => cases h2 with
            | ref h' =>
              rename_i n a1 m a2
              have e : (match getL S1 n, getL S1 m with
                | some c, some d => some (⟨zipT c d, [(n, c), (m, d)]⟩ : Its)
                | _, _ => none) = some it := e
              cases hc : getL S1 n with
              | none => rw [hc] at e; cases e
              | some c =>
                rw [hc] at e
                cases hd : getL S1 m with
                | none => rw [hd] at e; cases e
                | some d =>
                  rw [hd] at e
                  cases e
                  obtain ⟨vs, g1, g2⟩ := SRel.seq (B := B) s1 hc h
                  obtain ⟨us, g3, g4⟩ := SRel.seq (B := B) s1 hd h'
                  refine ⟨_, _, _, _, rfl, .inl ⟨g1, g3, p _ H1 ι1 Later.refl s1 ⟨_, _, by rw [show (⟨zipT c d, [(n, c), (m, d)]⟩ : Its).ws.length = min _ _ from zipT_length _ _]; exact walkZ, fun ι2 H2 S2 l s hk => ?_, fun i ι2 H2 S2 x H3 hi l s hk y => ?_⟩⟩⟩
                  · obtain ⟨⟨c2, k1, k2⟩, d2, k3, k4⟩ := chk_two hk
                    obtain ⟨vs2, q1, q2⟩ := SRel.seq (B := B) s k1 (l.pre _ _ h)
                    obtain ⟨us2, q3, q4⟩ := SRel.seq (B := B) s k3 (l.pre _ _ h')
                    exact ⟨⟨vs2, q1, by rw [q2.length, k2]⟩, us2, q3, by rw [q4.length, k4]⟩
                  · obtain ⟨⟨c2, k1, k2⟩, d2, k3, k4⟩ := chk_two hk
                    obtain ⟨vs2, q1, q2⟩ := SRel.seq (B := B) s k1 (l.pre _ _ h)
                    obtain ⟨us2, q3, q4⟩ := SRel.seq (B := B) s k3 (l.pre _ _ h')
                    obtain ⟨T, u, v, rfl, hT, rfl, e1, e2⟩ := y
                    obtain ⟨w1, z1, z2⟩ := q2.get' (e1 vs2 q1)
                    obtain ⟨w2, z3, z4⟩ := q4.get' (e2 us2 q3)
                    rw [k2] at z1
                    rw [k4] at z3
                    exact ⟨Later.laid hT, s.laid hT, _, zipT_get z1 z3, .tup (SqT.of upd_same) (.cons (z2.later (Later.laid hT)) (.cons (z4.later (Later.laid hT)) .nil))⟩
            | _ => cases e
          | _ => cases h2 <;> cases e
theorem enumT_get {ws : List T} {i : Nat} {w : T} (h : ws[i]? = some w) : (enumT ws)[i]? = some (.tup [.int (i : Nat), w]) := by
  unfold enumT
  rw [List.getElem?_map, List.getElem?_zipIdx, h]
  simp
theorem i_enum {tpos p : Pos} {elts : List Expr} {kk : Nat} (hg : Gl X "enumerate") (hm : X.mg "enumerate" = none) (ha : PA X [a] (lift (gX B X) W fs)) (hs : starEach [a] X.env = [(false, eval a X.env)] := by rfl) :
    PI X (.Tuple elts kk tpos) (.Call (.Name "enumerate" p) [a] [] pos) (liftI (gX B X) W (fiEnum fs)) :=
  PI.imp (pi_enum hg hm ha hs) fun σ H R h => h.bind fun v w S1 H1 ι1 ρ s1 e1 r1 p => by
    have r1 : Reps X.K H1 ι1 v w := r1
    obtain ⟨it, e, p⟩ := PostI.o p
    cases r1 with
    | nil => cases e
    | cons h t => cases t with
      | cons _ _ => cases h <;> cases e
      | nil => cases h with
        | ref h =>
          rename_i n a1
          have e : (match getL S1 n with
            | some c => some (⟨enumT c, [(n, c)]⟩ : Its)
            | none => none) = some it := e
          cases hc : getL S1 n with
          | none => rw [hc] at e; cases e
          | some c =>
            rw [hc] at e
            cases e
            obtain ⟨vs, g1, g2⟩ := SRel.seq (B := B) s1 hc h
            refine ⟨_, _, rfl, g1, p _ H1 ι1 Later.refl s1 ⟨_, _, by rw [show (⟨enumT c, [(n, c)]⟩ : Its).ws.length = c.length by simp [enumT]]; exact walkE, fun ι2 H2 S2 l s hk => ?_, fun i ι2 H2 S2 x H3 hi l s hk y => ?_⟩⟩
            · obtain ⟨c2, k1, k2⟩ := chk_at hk
              obtain ⟨vs2, q1, q2⟩ := SRel.seq (B := B) s k1 (l.pre _ _ h)
              exact ⟨vs2, q1, by rw [q2.length, k2]⟩
            · obtain ⟨c2, k1, k2⟩ := chk_at hk
              obtain ⟨vs2, q1, q2⟩ := SRel.seq (B := B) s k1 (l.pre _ _ h)
              obtain ⟨T, u, rfl, hT, rfl, e1⟩ := y
              obtain ⟨w1, z1, z2⟩ := q2.get' (e1 vs2 q1)
              rw [k2] at z1
              exact ⟨Later.laid hT, s.laid hT, _, enumT_get z1, .tup (SqT.of upd_same) (.cons (.int _) (.cons (z2.later (Later.laid hT)) .nil))⟩
        | _ => cases e

/-! ### for -/
def forL (chk : List (Nat × List T)) (g : FG) (f : FS) : List T → Env → Store → OutS
  | [], ρ, S => if chkOk S chk = true then .nx ρ S else .bad
  | w :: ws, ρ, S => if chkOk S chk = true then (g w ρ S).thenS ρ fun ρ1 S1 => match f ρ1 S1 with
      | .nx ρ2 S2 => forL chk g f ws ρ2 S2
      | .ct ρ2 S2 => forL chk g f ws ρ2 S2
      | .bk ρ2 S2 => .nx ρ2 S2
      | o => o
    else .bad
def sFor (i : FI) (g : FG) (f : FS) : FS := fun ρ S => (i ρ S).thenS ρ fun it S1 => forL it.chk g f it.ws ρ S1
theorem s_for {tg iter : Expr} {body : List Stmt} {i : FI} {g : FG} {f : FS} (hp : PassesOwn (model X.prog X.w) X.A X.env X.xe) (hc : X.calm = true) (hi : PI X tg iter (liftI (gX B X) W i)) (hg : PG X tg (PGt (gX B X) W g)) (hb : PSs X body (liftS (gX B X) W f))
    (hs : ∀ x, foldedSetIterable iter X.env x = pure x := by intro _; rfl) : PS X (.For tg iter body [] pos) (liftS (gX B X) W (sFor i g f)) :=
  PS.imp (ps_for hp hc hi hg hb hs) fun D σ H ⟨ι, S, ρ, sr, er, p⟩ => ⟨ι, S, ρ, sr, er, by
    unfold sFor at p
    cases e : i ρ S with
    | bad => rw [e] at p; exact p
    | exc x S' => rw [e] at p; exact fun c d H' ι' l s r => p c d σ H' ι' l s (er.later l) r
    | ok it S1 =>
      rw [e] at p
      intro J H1 ι1 l1 s1 hw
      have p : PostS (gX B X) W D ι H (forL it.chk g f it.ws ρ S1) := p
      obtain ⟨G, Y, wk, hG, hY⟩ := hw
      have ok_of : ∀ {ws : List T} {ρ2 : Env} {S2 : Store} {ι2 : List Addr} {H2 : Hp}, PostS (gX B X) W D ι2 H2 (forL it.chk g f ws ρ2 S2) → chkOk S2 it.chk = true := fun {ws ρ2 S2 ι2 H2} q => by
        cases ws with
        | nil =>
          unfold forL at q
          by_cases h : chkOk S2 it.chk = true
          · exact h
          · rw [if_neg h] at q; exact q.elim
        | cons w ws =>
          unfold forL at q
          by_cases h : chkOk S2 it.chk = true
          · exact h
          · rw [if_neg h] at q; exact q.elim
      refine for_it wk (fun n σ2 H2 => ∃ (ι2 : List Addr) (S2 : Store) (ρ2 : Env), Later X.K ι1 H1 ι2 H2 ∧ SRel B X.K ι2 H2 S2 ∧ ERel X.K ι2 H2 σ2 ρ2 ∧ PostS (gX B X) W D ι2 H2 (forL it.chk g f (it.ws.drop n) ρ2 S2))
        ⟨ι1, S1, ρ, Later.refl, s1, er.later l1, PostS.from l1 (by rw [List.drop_zero]; exact p)⟩ (fun n σ2 H2 hn ⟨ι2, S2, ρ2, l2, s2, e2, q⟩ => hG ι2 H2 S2 l2 s2 (ok_of q)) (fun n x σ2 H2 H3 hn ⟨ι2, S2, ρ2, l2, s2, e2, q⟩ y => ?_) (fun σ2 H2 ⟨ι2, S2, ρ2, l2, s2, e2, q⟩ => ?_)
      · obtain ⟨l3, s3, w, hw, rw'⟩ := hY n ι2 H2 S2 x H3 hn l2 s2 (ok_of q) y
        have ck := ok_of q
        have hl : n < it.ws.length := hn
        rw [List.drop_eq_getElem_cons hl] at q
        have ew : it.ws[n] = w := by
          rw [List.getElem?_eq_getElem hl] at hw
          exact Option.some.inj hw
        rw [ew] at q
        unfold forL at q
        rw [if_pos ck] at q
        refine ⟨ι2, S2, ρ2, w, s3, e2.later l3, rw', ?_⟩
        refine PostS.bind (e2.later l3) (PostS.from l3 q) fun σ4 ρ4 S4 H4 ι4 l4 s4 r4 q4 => ⟨ι4, S4, ρ4, s4, r4, ?_⟩
        have q4 : PostS (gX B X) W D ι4 H4 (match f ρ4 S4 with
          | .nx ρ2 S2 => forL it.chk g f (it.ws.drop (n + 1)) ρ2 S2
          | .ct ρ2 S2 => forL it.chk g f (it.ws.drop (n + 1)) ρ2 S2
          | .bk ρ2 S2 => .nx ρ2 S2
          | o => o) := q4
        cases ef : f ρ4 S4 with
        | nx ρ5 S5 =>
          rw [ef] at q4
          exact fun σ5 H5 ι5 l5 s5 r5 => ⟨ι5, S5, ρ5, ((l2.trans l3).trans l4).trans l5, s5, r5, PostS.from l5 q4⟩
        | ct ρ5 S5 =>
          rw [ef] at q4
          exact fun σ5 H5 ι5 l5 s5 r5 => ⟨ι5, S5, ρ5, ((l2.trans l3).trans l4).trans l5, s5, r5, PostS.from l5 q4⟩
        | bk ρ5 S5 => rw [ef] at q4; exact q4
        | rt w5 S5 => rw [ef] at q4; exact q4
        | exc x5 ρ5 S5 => rw [ef] at q4; exact q4
        | bad => rw [ef] at q4; exact q4
      · rw [List.drop_length] at q
        have ck := ok_of q
        unfold forL at q
        rw [if_pos ck] at q
        exact q σ2 H2 ι2 Later.refl s2 e2⟩

/-! ### while -/
def whileN (t : FT) (f : FS) : Nat → Env → Store → OutS
  | 0, _, _ => .bad
  | n + 1, ρ, S => (t ρ S).thenS ρ fun k S1 => if k = true then (match f ρ S1 with
      | .nx ρ2 S2 => whileN t f n ρ2 S2
      | .ct ρ2 S2 => whileN t f n ρ2 S2
      | .bk ρ2 S2 => .nx ρ2 S2
      | o => o)
    else .nx ρ S1
def sWhile (n : Nat) (t : FT) (f : FS) : FS := fun ρ S => whileN t f n ρ S
theorem s_while {body : List Stmt} {t : FT} {f : FS} (n : Nat) (hp : PassesOwn (model X.prog X.w) X.A X.env X.xe) (hc : PT X c (lift (gX B X) W t)) (hb : PSs X body (liftS (gX B X) W f)) : PS X (.While c body [] pos) (liftS (gX B X) W (sWhile n t f)) :=
  PS.imp (ps_while hp hc hb) fun D σ H ⟨ι, S, ρ, sr, er, p⟩ => by
    refine ⟨fun m σ2 H2 => ∃ (ι2 : List Addr) (S2 : Store) (ρ2 : Env), SRel B X.K ι2 H2 S2 ∧ ERel X.K ι2 H2 σ2 ρ2 ∧ PostS (gX B X) W D ι2 H2 (whileN t f m ρ2 S2), ⟨n, ι, S, ρ, sr, er, p⟩, ?_⟩
    rintro m σ2 H2 ⟨ι2, S2, ρ2, s2, e2, q⟩
    cases m with
    | zero => exact q.elim
    | succ m =>
      refine ⟨ι2, S2, ρ2, s2, e2, PostS.bind e2 q fun k k' S3 H3 ι3 l3 s3 r3 q3 => ?_⟩
      have r3 : k = k' := r3
      subst r3
      cases k with
      | false => exact q3 σ2 H3 ι3 Later.refl s3 (e2.later l3)
      | true =>
        refine ⟨fun σ5 H5 => ∃ (ι5 : List Addr) (S5 : Store) (ρ5 : Env), SRel B X.K ι5 H5 S5 ∧ ERel X.K ι5 H5 σ5 ρ5 ∧ PostS (gX B X) W D ι5 H5 (whileN t f m ρ5 S5), fun σ5 H5 h5 => ⟨m, Nat.lt_succ_self m, h5⟩, ι3, S3, ρ2, s3, e2.later l3, ?_⟩
        have q3 : PostS (gX B X) W D ι3 H3 (match f ρ2 S3 with
          | .nx ρ2 S2 => whileN t f m ρ2 S2
          | .ct ρ2 S2 => whileN t f m ρ2 S2
          | .bk ρ2 S2 => .nx ρ2 S2
          | o => o) := q3
        cases ef : f ρ2 S3 with
        | nx ρ5 S5 => rw [ef] at q3; exact fun σ5 H5 ι5 l5 s5 r5 => ⟨ι5, S5, ρ5, s5, r5, PostS.from l5 q3⟩
        | ct ρ5 S5 => rw [ef] at q3; exact fun σ5 H5 ι5 l5 s5 r5 => ⟨ι5, S5, ρ5, s5, r5, PostS.from l5 q3⟩
        | bk ρ5 S5 => rw [ef] at q3; exact q3
        | rt w5 S5 => rw [ef] at q3; exact q3
        | exc x5 ρ5 S5 => rw [ef] at q3; exact q3
        | bad => rw [ef] at q3; exact q3

/-! ### comprehensions -/
def wipeE (ρ : Env) : List Nat → Env
  | [] => ρ
  | v :: vs => (wipeE ρ vs).set v none
theorem wipe_rel {K : PySem.W.Frag} {ι : List Addr} {H : Hp} {σ : L2.St} {ρ : Env} (r : ERel K ι H σ ρ) : ∀ vs : List Nat, ERel K ι H (wipe σ vs) (wipeE ρ vs)
  | [] => r
  | v :: vs => by
    have ih := wipe_rel r vs
    unfold wipe wipeE
    refine ⟨by rw [List.length_set, List.length_set]; exact ih.1, fun j x e => ?_⟩
    by_cases hj : v = j
    · subst hj
      rw [List.getElem?_set] at e
      by_cases hl : v < (wipeE ρ vs).length
      · simp [hl] at e
      · simp [hl] at e
    · rw [List.getElem?_set_ne hj] at e
      obtain ⟨u, h1, h2⟩ := ih.2 j x e
      exact ⟨u, by rw [List.getElem?_set_ne hj]; exact h1, h2⟩
/-- the turn's element goes behind -/
def putIn (D : Nat) (y : T) (S : Store) : Option Store := match S[D]? with
  | some (.lst acc) => if acc.length < line then some (S.set D (.lst (acc ++ [y]))) else none
  | _ => none
def lcL (chk : List (Nat × List T)) (g : FG) (t : FT) (f : FE) (ρ : Env) (D : Nat) : List T → Store → Out T
  | [], S => if chkOk S chk = true then .ok (.ref D) S else .bad
  | w :: ws, S => if chkOk S chk = true then (match g w ρ S with
      | .ok ρ1 S1 => match t ρ1 S1 with
        | .ok true S2 => match f ρ1 S2 with
          | .ok y S3 => match putIn D y S3 with
            | some S4 => lcL chk g t f ρ D ws S4
            | none => .bad
          | _ => .bad
        | .ok false S2 => lcL chk g t f ρ D ws S2
        | _ => .bad
      | _ => .bad)
    else .bad
def fLc (vs : List Nat) (i : FI) (g : FG) (t : FT) (f : FE) : FE := fun ρ S => (i ρ S).bind fun it S1 => lcL it.chk g t f (wipeE ρ vs) S1.length it.ws (S1 ++ [.lst []])
abbrev W0 : WX := fun _ _ _ _ => False
theorem Post.w0 {β α : Type} [Vw β α] {g : Gv} {σ : L2.St} {ι : List Addr} {H : Hp} {o : Out α} {Q : β → Hp → Prop} {w : α} {S : Store} (e : o = .ok w S) (p : ∀ (v : β) (H' : Hp) (ι' : List Addr), Later g.K ι H ι' H' → SRel g.B g.K ι' H' S → Vw.rel g.K ι' H' v w → Q v H') : Post g W0 σ ι H o Q := by
  rw [e]
  exact p
def fYes : FT := fun _ S => .ok true S
theorem ts_nil : PTs X [] (lift (gX B X) W fYes) := ⟨fun pins s σ H Q I h => pts_nil.run pins s σ H Q I (by
  obtain ⟨ι, S, ρ, sr, er, p⟩ := h
  exact p.now sr rfl)⟩
theorem ts_one {t : FT} (h : PT X c (lift (gX B X) W t)) : PTs X [c] (lift (gX B X) W t) := pts_one h
end
end Fl

set_option Elab.async false
set_option linter.all false
set_option maxRecDepth 100000
set_option maxHeartbeats 4000000
/-! Fl5: an error of an own class made: its __init__ says super().__init__(a text), then keeps one field. -/
namespace Fl
open PySem PySem.Spec PyProof.Rows L2 PySem.W

/-- the scope, the parameters, the body of such an __init__ -/
abbrev xiS (fld : Str) : Scope := { kind := .function, names := [(("self" : Str), .local), (fld, .local), (("__class__" : Str), .free), (("super" : Str), .globalImplicit)], isGenerator := false, isCoroutine := false, more := [] }
abbrev xiA (fld : Str) (p q : Pos) : Arguments := { posonlyargs := [], args := [{ arg := "self", annotation := none, pos := p }, { arg := fld, annotation := none, pos := q }], vararg := none, kwonlyargs := [], kw_defaults := [], kwarg := none, defaults := [] }
abbrev xiB (fld msg : Str) (j : Nat) (p0 p1 p2 p3 p4 p5 q0 q1 q2 q3 : Pos) : List Stmt :=
  [.Expr (.Call (.Attribute (.Call (.Name "super" p0) [] [] p1) "__init__" p2) [.Constant (.str msg) j p3] [] p4) p5, .Assign [.Attribute (.Name "self" q0) fld q1] (.Name fld q2) q3]
/-- what is known of such a class: its name, its field -/
structure XCls (prog : Program) (K : Frag) (mg : Str → Option Value) (cls fld : Str) (C : Addr) : Prop where
  gC : mg cls = some (.ref C)
  ox : OexC K C
  noN : findIn K (.ref C) fld = some none
  slf : mroIn K C (.ref C) = some true
  sup : ks_superIn K C C "__init__" = some (some (.builtin "ValueError.__init__"))
  tp : nsIn K cStatics "thirdparty.any" = some none
  noS : mg "super" = none
  top : (prog.main.scope.names.lookup ("super" : Str)).isSome = false
  sVE : subIn K (.ref C) (.type "ValueError") = some true
  ini : ∃ (fI cc cda : Addr) (qual msg file : Str) (tf : Tok) (j : Nat) (p q p0 p1 p2 p3 p4 p5 q0 q1 q2 q3 : Pos) (dV kV doc pm ct oc ccl cl : Value) (an od cdd cld : Option Addr) (osl ccs csl : Array (Option Value)) (vs : Array Value),
    findIn K (.ref C) "__init__" = some (some (.ref fI)) ∧ typeIn K (.ref fI) = some (.type "function") ∧
    K.lookup fI = some ⟨oc, od, .func (ksFn "__init__" qual (xiA fld p q) (xiB fld msg j p0 p1 p2 p3 p4 p5 q0 q1 q2 q3) (xiS fld) dV kV doc pm an (.ref cda) ct cc), osl⟩ ∧ codeIn K (.ref cda) qual = true ∧
    K.lookup cda = some ⟨ccl, cdd, .fields vs, ccs⟩ ∧ vs[2]? = some (.str file tf) ∧ ((prog.main.file : Str) == file) = true ∧
    K.lookup cc = some ⟨cl, cld, .cell (some (.ref C)), csl⟩ ∧
    (∃ pl : Sem Bool, ∀ env : PySem.Env, eval (.Call (.Attribute (.Call (.Name "super" p0) [] [] p1) "__init__" p2) [.Constant (.str msg) j p3] [] p4) env = (do
      let ov ← attributeBase (.Call (.Name "super" p0) [] [] p1) "__init__" env (eval (.Call (.Name "super" p0) [] [] p1) env)
      standAt p2.atName
      let (f, first) ← holding [ov] (getMethod ov "__init__" pl)
      callWith p4 f first (backTo p4 (starEach [.Constant (.str msg) j p3] env)) [])) ∧
    (((xiS fld).names.lookup fld = some .local ∧ ((("self" : Str)) == fld) = false ∧ (fld == ("__debug__" : Str)) = false ∧ (xiS fld).names.lookup ("__class__" : Str) = some NameKind.free ∧ (xiS fld).names.lookup ("super" : Str) = some NameKind.globalImplicit) ∧
      ∀ (u w : Value), bindArgs (ksFn "__init__" qual (xiA fld p q) (xiB fld msg j p0 p1 p2 p3 p4 p5 q0 q1 q2 q3) (xiS fld) dV kV doc pm an (.ref cda) ct cc) ⟨[u, w], []⟩ = pure ([(("self" : Str), u), (fld, w)] : List (Str × Value)))

section
variable {prog : Program} {w : World} {A : Around} {h : Heap} {g : Array GenState} {d : Drawn} {t : Nat} {os : OsState} {K : Frag} {mg mb : Str → Option Value} {cls fld : Str} {C e t0 fI : Addr}
theorem ns_but {h h' : Heap} {L e : Addr} {m : Str → Option Value} (n : h.Ns L m) (ne : L ≠ e) (k : ∀ b o, b ≠ e → h.get? b = some o → h'.get? b = some o) : h'.Ns L m := by
  obtain ⟨o, es, ep, ho, r⟩ := n
  exact ⟨o, es, ep, k _ _ ne ho, r⟩
theorem init_run {R : Result → Shared → Prop} {u : Value} (X : K.In h) (lim : h.NoLimit) (hroom : A.depth < recursionLimit) (G : h.Ns mainGlobals mg) (Bn : h.Ns builtinsNs mb) (hb : mb "super" = bootBuiltins "super")
    (T : XCls prog K mg cls fld C) (hf : findIn K (.ref C) "__init__" = some (some (.ref fI))) (he : h.get? e = some (HandSPX.excO C t0)) (hKe : ∀ b o, K.lookup b = some o → b ≠ e)
    (hq : ∀ h' tk' dx t1, (∀ b o, b ≠ e → h.get? b = some o → h'.get? b = some o) → h.objs.size ≤ dx → dx ≠ e → h'.get? e = some ({ cls := .ref C, dict := some dx, data := .fields #[.ref t1, .none, .none, .none, .bool false, .none] } : Obj) →
      h'.Ns1 dx (fun y => if y = fld then some u else none) → R (.ok (.ret .none)) ⟨h', g, d, tk', os⟩) :
    codeAny (model prog w) A (.call (.ref fI) ⟨[.ref e, u], []⟩) R ⟨h, g, d, t, os⟩ := by
  obtain ⟨fI', cc, cda, qual, msg, file, tf, j, p, q, p0, p1, p2, p3, p4, p5, q0, q1, q2, q3, dV, kV, doc, pm, ct, oc, ccl, cl, an, od, cdd, cld, osl, ccs, csl, vs, i1, i2, i3, i4, i5, i6, i7, i8, ⟨pl, i9⟩, ⟨j1, j2, j3, j5, j6⟩, j4⟩ := T.ini
  rw [hf] at i1
  cases i1
  obtain ⟨nm, qn, N, bs, bm, sn, sub, ab, col, dd, k0, k1, k2, k3, k5, hC, hbm⟩ := T.ox.cls
  have hcl : clsIn K C = some { name := nm, bases := bs, mro := .ref C :: bm, ns := N, qualname := qn, hasDict := true, slotNames := sn, subclasses := sub, abstract := ab, collection := col, hasDel := false } := by unfold clsIn; rw [hC] <;> rfl
  have hCh := X _ _ hC
  refine ks_codeAny_call_defAt (body := xiB fld msg j p0 p1 p2 p3 p4 p5 q0 q1 q2 q3) (binds := [(("self" : Str), .ref e), (fld, u)]) hroom (X _ _ i3) rfl lim (codeRec_of X i4) rfl (BindsTo.of_eq (j4 _ _)) (by intro x hx; simp at hx; rcases hx with rfl | rfl | rfl | rfl <;> (intro z; cases z)) (fun x hx => ?_) (fun h0 hns hk0 => ?_)
  · have hx : x = (("self" : Str), .ref e) ∨ x = (fld, u) := by simpa using hx
    rcases hx with rfl | rfl
    · rfl
    · exact j1
  · have hself : (fun x => ([(("self" : Str), Value.ref e), (fld, u)] : List (Str × Value)).reverse.lookup x) ("self" : Str) = some (.ref e) := by
      show ([(fld, u), (("self" : Str), Value.ref e)] : List (Str × Value)).lookup (("self" : Str)) = _
      rw [List.lookup_cons, j2]
      rfl
    have hfld : (fun x => ([(("self" : Str), Value.ref e), (fld, u)] : List (Str × Value)).reverse.lookup x) fld = some u := by
      show ([(fld, u), (("self" : Str), Value.ref e)] : List (Str × Value)).lookup fld = _
      rw [List.lookup_cons]
      simp
    have X0 : K.In h0 := X.keeps hk0
    have he0 := hk0 _ _ he
    have eL : h.objs.size ≠ e := Nat.ne_of_gt (Heap.lt_size he)
    refine ks_wpAt_execs_cons (ks_wpAt_Expr_any (ks_wpAt_MethodCall ?_ (i9 _)) rfl rfl)
    refine ks_wpAt_super_base (env := ksEnv qual (xiS fld) h.objs.size fI (.ref cda) cc) j6 j5 (by decide) rfl (X0 _ _ i3) rfl rfl rfl (X0 _ _ i5) rfl i6 i7 T.top ?_
    refine ks_loadName_global rfl j6 (PySem.Calls.loadGlobal_builtin (env := ksEnv qual (xiS fld) h.objs.size fI (.ref cda) cc) (G.keeps hk0) T.noS (Bn.keeps hk0) (hb.trans (by first | boot_by_name | rfl | kernel_rfl)) ⟨rfl, ?_⟩)
    refine wpAny_loadName_free rfl j5 rfl ⟨_, X0 _ _ i8, rfl⟩ ?_
    refine wpAny_loadName_local rfl rfl hns hself ?_
    refine ks_wpAny_isType_cls (X0 _ _ hC) rfl ⟨rfl, ?_⟩
    refine ks_wpAny_call_super (X0 _ _ hC) rfl he0 rfl (fun c z => by cases z) (looks_mroIn X0 T.slf) (fun h1 e1 k1 => ?_)
    have X1 : K.In h1 := X0.keeps k1
    have he1 := k1 _ _ he0
    have hsup : alongIn K "__init__" (((Value.ref C :: bm).dropWhile (· != .ref C)).drop 1) = some (some (.builtin "ValueError.__init__")) := by
      have z := T.sup
      unfold ks_superIn at z
      rw [hcl] at z
      exact z
    have hI : Looks (model prog w) h1 (isInstance (.ref e) (.type "ValueError")) true := (InstAt.type (ox := HandSPX.excO C t0) (od := none) ⟨he1, rfl, rfl, trivial⟩).andThen (looks_subIn X1 T.sVE)
    refine kxs_getMethod kxs_ValueError e1 (looks_opaque X1 T.tp) (l₀ := .ref C :: bm) (fun A Q E s k q => wpAny_bind ((looks_clsIn X1 hcl) A _ E s k (wpAny_pure q))) rfl X1 hsup hI (fun z => hKe _ _ hC z.symm) (by decide) ?_
    refine kxs_callWith (i := "ValueError.__init__") (x := e) rfl (Calls.evalArgs_plain (?_ : wpAny _ _ (spliced ((false, eval (.Constant (.str msg) j p3) _) :: backTo p4 (starEach [] _))) _ _ _))
    refine Calls.spliced_cons (Calls.Constant_str (Calls.spliced_nil ?_))
    have hu : (h1.push (kxs_mw "ValueError.__init__" e)).get? h1.objs.size = some (kxs_mw "ValueError.__init__" e) := Heap.get?_push_at rfl rfl
    have k2 : ∀ b o, h1.get? b = some o → (h1.push (kxs_mw "ValueError.__init__" e)).get? b = some o := fun b o z => Heap.get?_push_of_some _ z
    refine ⟨hu, wpAny_call (codeAny_of_tree ?_)⟩
    have X2 : K.In (h1.push (kxs_mw "ValueError.__init__" e)) := X1.keeps k2
    have he2 := k2 _ _ he1
    show wpAny _ _ (callAny (.ref h1.objs.size) ⟨[.str msg _], []⟩) _ _ _
    simp only [callAny]
    refine wpAny_bind (wpAny_load hu ?_)
    simp only [kxs_mw, show (Value.type "method-wrapper" == Value.type "method" || Value.type "method-wrapper" == Value.type "builtin_function_or_method" || Value.type "method-wrapper" == Value.type "method-wrapper") = true by decide, if_true]
    refine KFB.if_so (by decide) ?_
    refine wpAny_bind (check_bound_init F.excBase_ValueError.toExcCallFacts (X2 _ _ hC) he2 rfl ?_)
    refine wpAny_bind (wpAny_pure (wpAny_pure ?_))
    refine ⟨plainId_quiet F.excBase_ValueError.init.plain _, codeAny_builtin F.excBase_ValueError.initEntry ?_⟩
    refine exc_init_tree (cls := .ref C) (t0 := t0) (dv := none) (c2 := .none) (c3 := .none) (b4 := .bool false) he2 (by show 1 ≤ sizeLine; decide) (fun h3 k3 he3 ht3 => ?_)
    have all3 : ∀ b o, b ≠ e → h0.get? b = some o → h3.get? b = some o := fun b o ne z => k3 b o ne (k2 _ _ (k1 _ _ z))
    have X3 : K.In h3 := fun b o z => all3 b o (hKe b o z) (X0 b o z)
    have n3 := ns_but hns eL all3
    refine wpAt_of_wpAny ?_
    refine wpAny_execs_cons (plainObj_wpAny_Assign_Attribute (wpAny_Name (wpAny_loadName_local rfl j1 n3 hfld (wpAny_Name (wpAny_loadName_local rfl rfl n3 hself ?_) (by decide))) j3) rfl)
    refine PySem.W.set_plain X3 (ox := { cls := .ref C, dict := none, data := .fields #[.ref (h1.push (kxs_mw "ValueError.__init__" e)).objs.size, .none, .none, .none, .bool false, .none] }) (od := none) ⟨he3, rfl, rfl, trivial⟩ T.ox.sa ?_
    refine HandSPX.exc_osa X3 he3 hcl (show HandSPX.refsVE (.ref C :: bm) = true from hbm) rfl T.noN (fun h4 tk4 dx k4 dn dne hx hn => ?_)
    refine wpAny_execs_nil ?_
    refine hq h4 tk4 dx _ (fun b o ne z => k4 b o ne (all3 b o ne (hk0 b o z))) ?_ dne hx hn
    obtain ⟨oL, _, _, hoL, _⟩ := n3
    exact Nat.le_trans (Nat.le_of_lt (Heap.lt_size hoL)) dn
end

/-! ### the call of such a class -/
section
variable {B : Bd} {X : Cx} {W : WX} {a e : Expr} {es : List Expr} {fa : FE} {pos : Pos} {cls fld : Str} {C : Addr}
/-- what the making of it asks and gives -/
def tXi (cls fld : Str) (mg : Str → Option Value) (C : Addr) (ta : TA) : L2.St → Hp → XK → Prop := fun σ H Q => ta σ H fun vs H1 => ∃ v, vs = [v] ∧ ∀ d, H1 d = none → Q (.ref C) (some d) (upd H1 d (.xd [(fld, v)]))
theorem pmk_xi {ta : TA} {p : Pos} (T : XCls X.prog X.K X.mg cls fld C) (hr : Room 2 X.A) (hg : Gl X cls) (ha : PA X (e :: es) ta)
    (hdb : (cls == ("__debug__" : Str)) = false := by decide) (he : starEach (e :: es) X.env = (false, eval e X.env) :: starEach es X.env := by rfl) (hpl : (backTo pos (starEach es X.env)).any (·.1) = false := by rfl) :
    PMk X (.Call (.Name cls p) (e :: es) [] pos) (tXi cls fld X.mg C ta) := by
  intro pins s σ H Q I h
  obtain ⟨fI, _, _, _, _, _, _, _, _, _, _, _, _, _, _, _, _, _, _, _, _, _, _, _, _, _, _, _, _, _, _, _, _, _, _, _, iC, tI, _⟩ := T.ini
  obtain ⟨nm, q, N, bs, bm, sn, sub, ab, col, dd, k0, k1, k2, k3, k5, hC, hbm⟩ := T.ox.cls
  refine wpAny_Call_Name_kw (ld_glob I hg T.gC ?_ hdb)
  refine PySem.W.callWith_K (h₀ := X.base) I.ok.mod.kin T.ox.kC (thn (ha.run pos pins s σ H _ I h) fun us s1 ⟨vs, H1, I1, r1, v, ev, q1⟩ => ⟨I1.kIn, ?_⟩) he hpl
  subst ev
  show wpAny _ _ (call (.ref C) us) _ _ _
  obtain ⟨u, rfl, ru⟩ := Vals.one r1
  obtain ⟨hp, g, dr, tk, os⟩ := s1
  have hsz : hp.objs.size ≤ hp.objs.size + 1 := Nat.le_succ _
  have hn : H1 (hp.objs.size + 1) = none := I1.hok.fresh hsz
  have kk : ∀ b o, hp.get? b = some o → ((hp.push (PySem.W.kdv_tup [u])).push (PySem.HandSPX.excO C hp.objs.size)).get? b = some o := fun b o e => Heap.get?_push_of_some _ (Heap.get?_push_of_some _ e)
  have hget : ((hp.push (PySem.W.kdv_tup [u])).push (PySem.HandSPX.excO C hp.objs.size)).get? (hp.objs.size + 1) = some (PySem.HandSPX.excO C hp.objs.size) := by heap_get
  have I2 : Inv X pins σ (upd H1 (hp.objs.size + 1) (exo (hp.objs.size + 1) C none)) ⟨(hp.push (PySem.W.kdv_tup [u])).push (PySem.HandSPX.excO C hp.objs.size), g, dr, tk, os⟩ :=
    I1.laid (t' := tk) (a := hp.objs.size + 1) (o := exo (hp.objs.size + 1) C none) (h' := (hp.push (PySem.W.kdv_tup [u])).push (PySem.HandSPX.excO C hp.objs.size)) kk hsz (exo_ok hget)
  have hus : ([u] : List Value).length ≤ sizeLine := by show 1 ≤ sizeLine; decide
  have G2 := I2.mod.glob.keeps I2.bk
  obtain ⟨mb, hb1, hb2⟩ := I2.mod.blt
  have hlt : ∀ b o, hp.get? b = some o → b ≠ hp.objs.size + 1 := fun b o z => Nat.ne_of_lt (Nat.lt_of_lt_of_le (Heap.lt_size z) hsz)
  refine wpAny_call (PySem.HandSPX.call_own F.excBase_ValueError (fun Y => PySem.HandSPX.refsVE_contains Y bm hbm) (I1.kIn _ _ hC) (PySem.W.looks_findIn I1.kIn iC) (fun self => PySem.W.bind_fn I1.kIn self tI) hus
    (init_run I2.kIn I2.nolimit (by rw [make_depth]; have := hr.dp; omega) G2 (hb1.keeps I2.bk) (hb2 _ (by decide)) T iC hget (fun b o z => hlt b o (I1.kIn b o z)) fun h' tk' dx t1 k4 dn dne hx hn4 => ?_))
  refine ⟨rfl, ?_⟩
  have hnd : H1 dx = none := I1.hok.fresh (Nat.le_trans (Nat.le_of_lt (Nat.lt_of_le_of_lt (Nat.le_refl _) (by rw [Heap.size_push, Heap.size_push]; omega : hp.objs.size < ((hp.push (PySem.W.kdv_tup [u])).push (PySem.HandSPX.excO C hp.objs.size)).objs.size))) dn)
  have all : ∀ b o, hp.get? b = some o → h'.get? b = some o := fun b o z => k4 b o (hlt b o z) (kk b o z)
  have qd := q1 dx hnd
  -- the state without the error: all but the error's own object
  obtain ⟨G, g1, g2⟩ := restrict h' fun b => decide (b ≠ hp.objs.size + 1)
  have gk : ∀ b, b ≠ hp.objs.size + 1 → G.get? b = h'.get? b := fun b hb => g1 b (decide_eq_true hb)
  have ge : G.get? (hp.objs.size + 1) = none := g2 _ (by simp)
  have allG : ∀ b o, hp.get? b = some o → G.get? b = some o := fun b o z => (gk b (hlt b o z)).trans (all b o z)
  have hdx : ∃ mA, G.Ns1 dx mA ∧ ∀ f, RelO (([(fld, v)] : List (Str × V)).lookup f) (mA f) := by
    obtain ⟨o, es, ep, z, r⟩ := hn4
    refine ⟨_, ⟨o, es, ep, (gk dx dne).trans z, r⟩, relO_put (fs := []) ru fun g => True.intro⟩
  have J : Inv X pins σ (upd H1 dx (.xd [(fld, v)])) ⟨G, g, dr, tk', os⟩ := by
    refine I1.un (t' := tk') ?_ ?_
    · refine { keep := fun b o z n _ _ => allG b o z, slot := fun b o z n _ _ => ⟨o.slots, allG b o z⟩, free := fun b o z n _ => ?_, there := fun b o z _ => ⟨o, allG b o z⟩, tups := fun b xs z => by rw [upd_ne (ne_of_none z hnd)]; exact z, frzs := fun b o u z => by rw [upd_ne (ne_of_none z hnd)]; exact z, tbls := fun b ps z => ⟨#[], by rw [upd_ne (ne_of_none z hnd), z]; simp⟩ }
      have hbd : b ≠ dx := Nat.ne_of_lt (Nat.lt_of_lt_of_le (Heap.lt_size z) (Nat.le_trans (by rw [Heap.size_push, Heap.size_push]; omega : hp.objs.size ≤ ((hp.push (PySem.W.kdv_tup [u])).push (PySem.HandSPX.excO C hp.objs.size)).objs.size) dn))
      rw [upd_ne hbd]
      exact n
    · intro b o z
      by_cases hbd : b = dx
      · subst hbd
        rw [upd_same] at z
        cases z
        exact hdx
      · rw [upd_ne hbd] at z
        exact (I1.hok b o z).stay (fun c v hc y => allG c v y) (fun c hc => by rw [upd_ne (ne_of_none hc hnd)]; exact hc) (fun c xs hc => by rw [upd_ne (ne_of_none hc hnd)]; exact hc)
  exact ⟨hp.objs.size + 1, _, _, ⟨G, g, dr, tk', os⟩, _, .ref C, some dx, rfl, J, fun b o z => by
      by_cases hba : b = hp.objs.size + 1
      · rw [hba, ge] at z
        cases z
      · exact (gk b hba).symm.trans z, ge, hx, ⟨rfl, rfl⟩, rfl, rfl, by rw [upd_ne (Ne.symm dne)]; exact hn, rfl, I1.bare, raises_own T.ox.exC T.ox.tyC, qd⟩
/-- raise C(e) -/
def sRaise (cls fld : Str) (f : FE) : FS := fun ρ S => (f ρ S).thenS ρ fun w S1 => .exc ⟨cls, fld, w⟩ ρ S1
theorem s_raise {p cpos : Pos} (T : XCls X.prog X.K X.mg cls fld C) (hc : X.calm = true) (tk : Takes X W) (hr : Room 2 X.A) (hg : Gl X cls) (ha : PE X e (lift (gX B X) W fa))
    (hdb : (cls == ("__debug__" : Str)) = false := by decide) (he : starEach [e] X.env = (false, eval e X.env) :: starEach [] X.env := by rfl) (hpl : (backTo cpos (starEach [] X.env)).any (·.1) = false := by rfl) :
    PS X (.Raise (some (.Call (.Name cls p) [e] [] cpos)) none pos) (liftS (gX B X) W (sRaise cls fld fa)) :=
  PS.imp (ps_raise hc tk (pmk_xi T hr hg (pa_cons ha pa_nil he) hdb he hpl)) fun D σ H h => h.bind fun v w S1 H1 ι1 ρ s1 e1 r1 p => ⟨v, rfl, fun d hd => by
    refine p (.ref C) (some d) σ _ ι1 (Later.laid hd) (SRel.laid (B := B) s1 hd) (e1.later (Later.laid hd)) ⟨C, d, [(fld, v)], v, T.gC, rfl, rfl, upd_same, ?_, Rep.later (Later.laid hd) r1⟩
    simp [List.lookup]⟩
end
end Fl

set_option Elab.async false
set_option linter.all false
set_option maxRecDepth 100000
set_option maxHeartbeats 4000000
/-! Fl6: comprehensions; own defs: what they are worth, their calls, their bodies. -/
namespace Fl
open PySem PySem.Spec PyProof.Rows L2

section
variable {B : Bd} {X : Cx} {W : WX} {a b c e : Expr} {es : List Expr} {fa fb fc : FE} {fs : FA} {pos : Pos}
/-! ### comprehensions -/
theorem wipe_get (σ : L2.St) (j : Nat) : ∀ vs : List Nat, (wipe σ vs)[j]? = if j ∈ vs then σ[j]?.map (fun _ => none) else σ[j]?
  | [] => by simp [wipe]
  | v :: vs => by
    unfold wipe
    rw [List.getElem?_set, wipe_length, wipe_get σ j vs]
    by_cases hv : v = j
    · subst hv
      by_cases hl : v < σ.length
      · simp [hl]
      · simp [hl]
    · have hj : ¬ j = v := fun z => hv z.symm
      simp [hv, hj]
theorem wipe_set {σ : L2.St} {vs : List Nat} {i : Nat} {x : Option V} (hi : i ∈ vs) : wipe ((wipe σ vs).set i x) vs = wipe σ vs := by
  refine List.ext_getElem? fun j => ?_
  rw [wipe_get, wipe_get]
  by_cases hj : j ∈ vs
  · rw [if_pos hj, if_pos hj, List.getElem?_set]
    by_cases hij : i = j
    · subst hij
      by_cases hl : i < σ.length
      · simp [hl, wipe_length]
      · simp [hl, wipe_length]
    · rw [if_neg hij, wipe_get, if_pos hj]
      cases σ[j]? <;> rfl
  · rw [if_neg hj, if_neg hj, List.getElem?_set_ne (fun z => hj (by rw [← z]; exact hi)), wipe_get, if_neg hj]
theorem wipe_sets {σ : L2.St} {vs : List Nat} : ∀ {is : List Nat} {τ : L2.St} {xs : List V} {Q : L2.St → Hp → Prop} {H : Hp}, (∀ i ∈ is, i ∈ vs) → wipe τ vs = wipe σ vs → nmsR is xs τ H Q → nmsR is xs τ H (fun τ' H' => wipe τ' vs = wipe σ vs ∧ Q τ' H')
  | [], τ, xs, Q, H, _, e, h => ⟨h.1, e, h.2⟩
  | i :: is, τ, xs, Q, H, hi, e, h => by
    obtain ⟨v, r, rfl, h⟩ := h
    refine ⟨v, r, rfl, wipe_sets (fun j hj => hi j (List.mem_cons_of_mem _ hj)) ?_ h⟩
    refine Eq.trans ?_ e
    refine List.ext_getElem? fun j => ?_
    rw [wipe_get, wipe_get]
    by_cases hj : j ∈ vs
    · rw [if_pos hj, if_pos hj, List.getElem?_set]
      by_cases hij : i = j
      · subst hij
        by_cases hl : i < τ.length
        · simp [hl]
        · simp [hl]
      · rw [if_neg hij]
    · rw [if_neg hj, if_neg hj, List.getElem?_set_ne (fun z => hj (by rw [← z]; exact hi i List.mem_cons_self))]
/-- a target of a comprehension: its own reading, and its function -/
structure CTg (K : PySem.W.Frag) (B : Bd) (vs : List Nat) (g : TG) (f : FG) : Prop where
  ok : ∀ {ι : List Addr} {H : Hp} {S S2 : Store} {σ : L2.St} {ρ ρ2 : Env} {x : V} {w : T} {Q : L2.St → Hp → Prop}, SRel B K ι H S → ERel K ι H (wipe σ vs) ρ → Rep K H ι x w → f w ρ S = .ok ρ2 S2 →
    (∀ σ2, SRel B K ι H S2 → wipe σ2 vs = wipe σ vs → ERel K ι H σ2 ρ2 → Q σ2 H) → g x (wipe σ vs) H Q
theorem c_nm {K : PySem.W.Frag} {i : Nat} {vs : List Nat} (hi : i ∈ vs := by decide) : CTg K B vs (gName i) (gNm i) := ⟨fun s er r e h => by
  cases e
  exact h _ s (wipe_set hi) (er.set i r)⟩
theorem c_tup {K : PySem.W.Frag} {is vs : List Nat} (n : Nat) (hn : is.length = n := by rfl) (hi : ∀ i ∈ is, i ∈ vs := by decide) : CTg K B vs (gTup K n (nmsR is)) (gTpT is) := ⟨fun {ι H S S2 σ ρ ρ2 x w Q} s er r e h => by
  cases r with
  | @tup a us ws hq r =>
    have e : (if ws.length = is.length then Out.ok (gNms is ws ρ) S else .bad) = .ok ρ2 S2 := e
    by_cases hl : ws.length = is.length
    · rw [if_pos hl] at e
      cases e
      refine ⟨a, us, rfl, hq, by rw [r.length, hl, hn], ?_⟩
      have q := wipe_sets (σ := σ) (vs := vs) (τ := wipe σ vs) (Q := fun σ' _ => ERel K ι H σ' (gNms is ws ρ)) hi (by refine List.ext_getElem? fun j => ?_; rw [wipe_get]; split <;> rename_i hj <;> rw [wipe_get] <;> simp [hj] <;> (cases σ[j]? <;> rfl)) (nmsR_ok r hl er fun σ' e' => e')
      have mono : ∀ {is : List Nat} {xs : List V} {τ : L2.St} {Q Q' : L2.St → Hp → Prop}, (∀ τ' , Q τ' H → Q' τ' H) → nmsR is xs τ H Q → nmsR is xs τ H Q' := by
        intro is
        induction is with
        | nil => intro xs τ Q Q' f h; exact ⟨h.1, f _ h.2⟩
        | cons i is ih =>
          intro xs τ Q Q' f h
          obtain ⟨v, r, rfl, h⟩ := h
          exact ⟨v, r, rfl, ih f h⟩
      exact mono (fun τ' ⟨h1, h2⟩ => h τ' s h1 h2) q
    · rw [if_neg hl] at e
      cases e
  | _ => cases e⟩
theorem lc_imp {i : FI} {vs : List Nat} {g : TG} {fg : FG} {t : FT} {f : FE} (hg : CTg X.K B vs g fg) {σ : L2.St} {H : Hp} {Q : VK} (h : lift (gX B X) W (fLc vs i fg t f) σ H Q) :
    tLc (liftI (gX B X) W i) g (lift (gX B X) W0 t) (lift (gX B X) W0 f) vs σ H Q := by
  obtain ⟨ι, S, ρ, sr, er, p⟩ := h
  refine ⟨ι, S, ρ, sr, er, ?_⟩
  unfold fLc at p
  cases e : i ρ S with
  | bad => rw [e] at p; exact p
  | exc x S' => rw [e] at p; exact p
  | ok it S1 =>
    rw [e] at p
    intro J H1 ι1 l1 s1 hw D hD
    obtain ⟨G, Y, wk, hG, hY⟩ := hw
    have p : Post (gX B X) W σ ι H (lcL it.chk fg t f (wipeE ρ vs) S1.length it.ws (S1 ++ [.lst []])) Q := p
    have lD : Later X.K ι1 H1 (ι1 ++ [D]) (upd H1 D (.lst [])) := Later.more hD
    have sD : SRel B X.K (ι1 ++ [D]) (upd H1 D (.lst [])) (S1 ++ [.lst []]) := SRel.more (B := B) s1 hD .nil
    have hat : (ι1 ++ [D])[S1.length]? = some D := by rw [← s1.len]; simp
    have wr : ∀ {ι2 : List Addr} {H2 : Hp}, Later X.K (ι1 ++ [D]) (upd H1 D (.lst [])) ι2 H2 → ERel X.K ι2 H2 (wipe σ vs) (wipeE ρ vs) := fun l => ((wipe_rel er vs).later (l1.trans lD)).later l
    have ok_of : ∀ {ws : List T} {S2 : Store} {ι2 : List Addr} {H2 : Hp}, Post (gX B X) W σ ι2 H2 (lcL it.chk fg t f (wipeE ρ vs) S1.length ws S2) Q → chkOk S2 it.chk = true := fun {ws S2 ι2 H2} q => by
      cases ws with
      | nil =>
        unfold lcL at q
        by_cases h : chkOk S2 it.chk = true
        · exact h
        · rw [if_neg h] at q; exact q.elim
      | cons w ws =>
        unfold lcL at q
        by_cases h : chkOk S2 it.chk = true
        · exact h
        · rw [if_neg h] at q; exact q.elim
    refine lc_it wk (fun n H2 => ∃ (ι2 : List Addr) (S2 : Store), Later X.K (ι1 ++ [D]) (upd H1 D (.lst [])) ι2 H2 ∧ SRel B X.K ι2 H2 S2 ∧ Post (gX B X) W σ ι2 H2 (lcL it.chk fg t f (wipeE ρ vs) S1.length (it.ws.drop n) S2) Q)
      ⟨ι1 ++ [D], _, Later.refl, sD, Post.from (l1.trans lD) (by rw [List.drop_zero]; exact p)⟩ (fun n H2 hn ⟨ι2, S2, l2, s2, q⟩ => hG ι2 H2 S2 (lD.trans l2) s2 (ok_of q)) (fun n x H2 H3 hn ⟨ι2, S2, l2, s2, q⟩ y => ?_) (fun H2 ⟨ι2, S2, l2, s2, q⟩ => ?_)
    · obtain ⟨l3, s3, w, hw, rw'⟩ := hY n ι2 H2 S2 x H3 hn (lD.trans l2) s2 (ok_of q) y
      have ck := ok_of q
      have hl : n < it.ws.length := hn
      rw [List.drop_eq_getElem_cons hl] at q
      have ew : it.ws[n] = w := by
        rw [List.getElem?_eq_getElem hl] at hw
        exact Option.some.inj hw
      rw [ew] at q
      unfold lcL at q
      rw [if_pos ck] at q
      have l23 := l2.trans l3
      cases eg : fg w (wipeE ρ vs) S2 with
      | bad => rw [eg] at q; exact q.elim
      | exc x S' => rw [eg] at q; exact q.elim
      | ok ρ4 S4 =>
        rw [eg] at q
        refine hg.ok s3 (wr l23) rw' eg fun σ4 s4 ew4 er4 => ⟨ew4, ι2, S4, ρ4, s4, er4, ?_⟩
        have q : Post (gX B X) W σ ι2 H2 (match t ρ4 S4 with
          | .ok true S2 => match f ρ4 S2 with
            | .ok y S3 => match putIn S1.length y S3 with
              | some S4 => lcL it.chk fg t f (wipeE ρ vs) S1.length (it.ws.drop (n + 1)) S4
              | none => .bad
            | _ => .bad
          | .ok false S2 => lcL it.chk fg t f (wipeE ρ vs) S1.length (it.ws.drop (n + 1)) S2
          | _ => .bad) Q := q
        cases et : t ρ4 S4 with
        | bad => rw [et] at q; exact q.elim
        | exc x S' => rw [et] at q; exact q.elim
        | ok k S5 =>
          rw [et] at q
          intro k' H5 ι5 l5 s5 r5
          have r5 : k' = k := r5
          subst r5
          cases k' with
          | false => exact ⟨ι5, S5, l23.trans l5, s5, Post.from (l3.trans l5) q⟩
          | true =>
            refine ⟨ι5, S5, ρ4, s5, er4.later l5, ?_⟩
            have q : Post (gX B X) W σ ι2 H2 (match f ρ4 S5 with
              | .ok y S3 => match putIn S1.length y S3 with
                | some S4 => lcL it.chk fg t f (wipeE ρ vs) S1.length (it.ws.drop (n + 1)) S4
                | none => .bad
              | _ => .bad) Q := q
            cases ef : f ρ4 S5 with
            | bad => rw [ef] at q; exact q.elim
            | exc x S' => rw [ef] at q; exact q.elim
            | ok y S6 =>
              rw [ef] at q
              intro v6 H6 ι6 l6 s6 r6
              have q : Post (gX B X) W σ ι2 H2 (match putIn S1.length y S6 with
                | some S4 => lcL it.chk fg t f (wipeE ρ vs) S1.length (it.ws.drop (n + 1)) S4
                | none => .bad) Q := q
              have lz := (l23.trans l5).trans l6
              have h6 := lz.pre _ _ hat
              unfold putIn at q
              cases hc : S6[S1.length]? with
              | none => rw [hc] at q; exact q.elim
              | some cc =>
                rw [hc] at q
                cases cc with
                | rol _ => exact q.elim
                | fn => exact q.elim
                | lst acc =>
                  obtain ⟨us, h7, r7⟩ := SRel.at (B := B) s6 hc h6
                  have q : Post (gX B X) W σ ι2 H2 (match if acc.length < line then some (S6.set S1.length (.lst (acc ++ [y]))) else none with
                    | some S4 => lcL it.chk fg t f (wipeE ρ vs) S1.length (it.ws.drop (n + 1)) S4
                    | none => .bad) Q := q
                  by_cases hz : acc.length < line
                  · rw [if_pos hz] at q
                    exact ⟨us, h7, by rw [r7.length]; exact lt_line hz, ι6, _, lz.trans (Later.put h7), SRel.put (B := B) s6 hc h6 h7 (r7.append (.cons r6 .nil)), Post.from (((l3.trans l5).trans l6).trans (Later.put h7)) q⟩
                  · rw [if_neg hz] at q
                    exact q.elim
    · rw [List.drop_length] at q
      have ck := ok_of q
      unfold lcL at q
      rw [if_pos ck] at q
      exact q (.ref D) H2 ι2 Later.refl s2 (Rep.ref (l2.pre _ _ hat))
theorem e_lc {elt tg iter : Expr} {ifs : List Expr} {scope : Scope} {own : List (Str × Nat)} {i : FI} {g : TG} {fg : FG} {t : FT} {f : FE} (hc : X.calm = true) (hN : X.N.Nodup) (hi : PI X tg iter (liftI (gX B X) W i)) (ok : BlkOk X.N X.env.scope scope own) (hct : CTg X.K B (own.map (·.2)) g fg)
    (hg : ∀ (s : Shared) (H : Hp) (C : Addr) (cl : List (Str × Addr)) (fp : List Addr), PG (X.blk s H scope (compEnvC scope cl C X.env) fp) tg g)
    (ht : ∀ (s : Shared) (H : Hp) (C : Addr) (cl : List (Str × Addr)) (fp : List Addr), PTs (X.blk s H scope (compEnvC scope cl C X.env) fp) ifs (lift (gX B X) W0 t))
    (he : ∀ (s : Shared) (H : Hp) (C : Addr) (cl : List (Str × Addr)) (fp : List Addr), PE (X.blk s H scope (compEnvC scope cl C X.env) fp) elt (lift (gX B X) W0 f)) (hs : ∀ x, foldedSetIterable iter X.env x = pure x := by intro _; rfl) :
    PE X (.ListComp elt [⟨tg, iter, ifs, 0⟩] scope pos) (lift (gX B X) W (fLc (own.map (·.2)) i fg t f)) :=
  PE.imp (pe_lc hc hN hi ok hg ht he hs) fun σ H Q h => lc_imp hct h
theorem s_setLc (j : Nat) {y : Str} {py spos : Pos} {elt tg iter : Expr} {ifs : List Expr} {scope : Scope} {own : List (Str × Nat)} {i : FI} {g : TG} {fg : FG} {t : FT} {f : FE} (hc : X.calm = true) (hN : X.N.Nodup) (hsw : swapsWith (.ListComp elt [⟨tg, iter, ifs, 0⟩] scope pos) (some (.Name y py)) spos.line X.env = pure true)
    (hi : PI X tg iter (liftI (gX B X) W i)) (ok : BlkOk X.N X.env.scope scope own) (hct : CTg X.K B (own.map (·.2)) g fg)
    (hg : ∀ (s : Shared) (H : Hp) (C : Addr) (cl : List (Str × Addr)) (fp : List Addr), PG (X.blk s H scope (compEnvC scope cl C X.env) fp) tg g)
    (ht : ∀ (s : Shared) (H : Hp) (C : Addr) (cl : List (Str × Addr)) (fp : List Addr), PTs (X.blk s H scope (compEnvC scope cl C X.env) fp) ifs (lift (gX B X) W0 t))
    (he : ∀ (s : Shared) (H : Hp) (C : Addr) (cl : List (Str × Addr)) (fp : List Addr), PE (X.blk s H scope (compEnvC scope cl C X.env) fp) elt (lift (gX B X) W0 f)) (hs : ∀ x, foldedSetIterable iter X.env x = pure x := by intro _; rfl)
    (hy : X.N[j]? = some y := by rfl) (hyl : X.env.scope.names.lookup y = some .local := by rfl) :
    PS X (.Assign [.Name y py] (.ListComp elt [⟨tg, iter, ifs, 0⟩] scope pos) spos) (liftS (gX B X) W (sAsg (fLc (own.map (·.2)) i fg t f) (gNm j))) :=
  PS.imp (ps_setLc hc hN hy hyl hsw hi ok hg ht he hs) fun D σ H h => by
    have h2 : lift (gX B X) W (fLc (own.map (·.2)) i fg t f) σ H (fun x H1 => gName j x σ H1 D.nx) := h.bind fun v w S1 H1 ι1 ρ s1 e1 r1 p => p _ H1 ι1 Later.refl s1 (ERel.set j e1 r1)
    exact lc_imp hct h2
end

/-! ### what a def is worth -/
def spG (g : Gv) (np : Nat) (G : GF) : Sp := fun vs H Q E => vs.length = np ∧ ∃ (ι : List Addr) (S : Store) (ws : List T), SRel g.B g.K ι H S ∧ Reps g.K H ι vs ws ∧ Post g (fun c d _ H' => E c d H') [] ι H (G ws S) Q
theorem Post.sh {g : Gv} {W : WX} {σ : L2.St} {ι : List Addr} {H : Hp} {o : Out T} {Q : VK} (p : Post g W σ ι H o Q) : Post g (fun c d _ H' => W c d σ H') [] ι H o Q := by
  cases o with
  | ok w S => exact p
  | exc x S => exact p
  | bad => exact p
/-- the values in the parameters' order: the positional ones, then those by their names -/
def byKw {α : Type} (ps ks : List Str) (us ws : List α) : List α := us ++ (ps.drop us.length).filterMap fun p => (ks.zip ws).lookup p
def KB (fd : FuncData) (ps : List Str) (n : Nat) (ks : List Str) : Prop := ∀ (s : Shared) (us ws : List Value), us.length = n → ws.length = ks.length → BindsTo s fd ⟨us, ks.zip ws⟩ (ps.zip (byKw ps ks us ws)) ∧ (byKw ps ks us ws).length = ps.length
structure Def (P : Program) (w : World) (g : Gv) (base : Heap) (k : Nat) (x : Str) (ps : List Str) (kws : List (Nat × List Str)) (G : GF) : Prop where
  ex : ∃ (f : Addr) (fd : FuncData), FnOk P w g.K g.mg base (L2.CX P w) k f fd ps (spG g ps.length G) ∧ g.mg x = some (.ref f) ∧ PySem.W.keepIn g.K (.ref f) = true ∧ Binds g.K fd ps [] ∧ (∀ q ∈ kws, KB fd ps q.1 q.2) ∧ ∃ oc od osl, g.K.lookup f = some ⟨oc, od, .func fd, osl⟩
  len : ∀ (ws : List T) (S : Store), ws.length ≠ ps.length → G ws S = .bad
theorem Def.mono {P : Program} {w : World} {g : Gv} {base : Heap} {j k : Nat} {x : Str} {ps : List Str} {kws : List (Nat × List Str)} {G : GF} (D : Def P w g base j x ps kws G) (h : j ≤ k) : Def P w g base k x ps kws G := by
  obtain ⟨⟨f, fd, F, a, b, c, d⟩, l⟩ := D
  exact ⟨⟨f, fd, F.mono h, a, b, c, d⟩, l⟩
section
variable {B : Bd} {X : Cx} {W : WX} {a b c e : Expr} {es : List Expr} {fa fb fc : FE} {fs fk : FA} {p pos : Pos} {k : Nat} {x : Str} {ps : List Str} {kws : List (Nat × List Str)} {G : GF}
def fCall (G : GF) (f : FA) : FE := fun ρ S => (f ρ S).bind fun ws S1 => G ws S1
theorem Def.sp {base : Heap} {P : Program} {w : World} {g : Gv} (D : Def P w g base k x ps kws G) {σ : L2.St} {ι : List Addr} {H : Hp} {S : Store} {vs : List V} {ws : List T} {Q : VK} (s : SRel g.B g.K ι H S) (r : Reps g.K H ι vs ws) (p : Post g W σ ι H (G ws S) Q) : spG g ps.length G vs H Q (WE W σ) := by
  refine ⟨?_, ι, S, ws, s, r, p.sh⟩
  rw [r.length]
  by_cases h : ws.length = ps.length
  · exact h
  · rw [D.len ws S h] at p
    exact p.elim
theorem e_call (D : Def X.prog X.w (gX B X) X.base k x ps kws G) (hr : Room k X.A) (tk : Takes X W) (hg : Gl X x) (ha : PA X (e :: es) (lift (gX B X) W fs))
    (hdb : (x == ("__debug__" : Str)) = false := by decide) (he : starEach (e :: es) X.env = (false, eval e X.env) :: starEach es X.env := by rfl) (hpl : (backTo pos (starEach es X.env)).any (·.1) = false := by rfl) :
    PE X (.Call (.Name x p) (e :: es) [] pos) (lift (gX B X) W (fCall G fs)) := by
  obtain ⟨f, fd, F, hm, hk, hb, _⟩ := D.ex
  exact PE.imp (pe_callS (E := WE W) F hr hg hm hk hb (fun σ => passAt tk σ) ha hdb he hpl) fun σ H Q h => h.bind fun v ws S1 H1 ι1 ρ s1 e1 r1 p => D.sp s1 r1 p
theorem e_call0 (D : Def X.prog X.w (gX B X) X.base k x ps kws G) (hr : Room k X.A) (tk : Takes X W) (hg : Gl X x) (hdb : (x == ("__debug__" : Str)) = false := by decide) : PE X (.Call (.Name x p) [] [] pos) (lift (gX B X) W (fCall G aNil)) := by
  obtain ⟨f, fd, F, hm, hk, hb, _⟩ := D.ex
  refine ⟨fun pins s σ H Q I h => ?_⟩
  refine wpAny_Call_Name_kw (ld_glob I hg hm ?_ hdb)
  obtain ⟨ι, S, ρ, sr, er, pp⟩ := h
  exact PySem.W.callWith_K0 I.kIn hk (run_fnS (us := []) (E := WE W) F hr hb (passAt tk σ) I .nil (D.sp sr .nil pp))
/-! by names -/
theorem byKw_rel {vs zs : List V} {us ws : List Value} (r : Vals vs us) (rz : Vals zs ws) (ks : List Str) : Vals (byKw ps ks vs zs) (byKw ps ks us ws) := by
  unfold byKw
  rw [r.length]
  refine r.append ?_
  have look : ∀ (ks : List Str) {zs : List V} {ws : List Value}, Vals zs ws → ∀ q : Str, (∃ z w, (ks.zip zs).lookup q = some z ∧ (ks.zip ws).lookup q = some w ∧ L2.RelV z w) ∨ ((ks.zip zs).lookup q = none ∧ (ks.zip ws).lookup q = none) := by
    intro ks
    induction ks with
    | nil => intro zs ws _ q; exact .inr ⟨rfl, rfl⟩
    | cons k ks ih =>
      intro zs ws r q
      cases r with
      | nil => exact .inr ⟨rfl, rfl⟩
      | @cons z w zs ws h t =>
        show (∃ z' w', ((k, z) :: ks.zip zs).lookup q = some z' ∧ ((k, w) :: ks.zip ws).lookup q = some w' ∧ L2.RelV z' w') ∨ (((k, z) :: ks.zip zs).lookup q = none ∧ ((k, w) :: ks.zip ws).lookup q = none)
        rw [List.lookup_cons, List.lookup_cons]
        cases q == k with
        | true => exact .inl ⟨z, w, rfl, rfl, h⟩
        | false => exact ih t q
  generalize ps.drop us.length = qs
  induction qs with
  | nil => exact .nil
  | cons q qs ih =>
    rw [List.filterMap_cons, List.filterMap_cons]
    rcases look ks rz q with ⟨z, w, h1, h2, h3⟩ | ⟨h1, h2⟩
    · rw [h1, h2]
      exact .cons h3 ih
    · rw [h1, h2]
      exact ih
theorem byKw_rep {K : PySem.W.Frag} {H : Hp} {ι : List Addr} {vs zs : List V} {us ws : List T} (r : Reps K H ι vs us) (rz : Reps K H ι zs ws) (ks : List Str) : Reps K H ι (byKw ps ks vs zs) (byKw ps ks us ws) := by
  unfold byKw
  rw [r.length]
  refine r.append ?_
  have look : ∀ (ks : List Str) {zs : List V} {ws : List T}, Reps K H ι zs ws → ∀ q : Str, (∃ z w, (ks.zip zs).lookup q = some z ∧ (ks.zip ws).lookup q = some w ∧ Rep K H ι z w) ∨ ((ks.zip zs).lookup q = none ∧ (ks.zip ws).lookup q = none) := by
    intro ks
    induction ks with
    | nil => intro zs ws _ q; exact .inr ⟨rfl, rfl⟩
    | cons k ks ih =>
      intro zs ws r q
      cases r with
      | nil => exact .inr ⟨rfl, rfl⟩
      | @cons z w zs ws h t =>
        show (∃ z' w', ((k, z) :: ks.zip zs).lookup q = some z' ∧ ((k, w) :: ks.zip ws).lookup q = some w' ∧ Rep K H ι z' w') ∨ (((k, z) :: ks.zip zs).lookup q = none ∧ ((k, w) :: ks.zip ws).lookup q = none)
        rw [List.lookup_cons, List.lookup_cons]
        cases q == k with
        | true => exact .inl ⟨z, w, rfl, rfl, h⟩
        | false => exact ih t q
  generalize ps.drop us.length = qs
  induction qs with
  | nil => exact .nil
  | cons q qs ih =>
    rw [List.filterMap_cons, List.filterMap_cons]
    rcases look ks rz q with ⟨z, w, h1, h2, h3⟩ | ⟨h1, h2⟩
    · rw [h1, h2]
      exact .cons h3 ih
    · rw [h1, h2]
      exact ih
theorem run_kw {pins : List (Addr × Obj)} {σ : L2.St} {H : Hp} {s : Shared} {f : Addr} {fd : FuncData} {n : Nat} {ks : List Str} {us ws : List Value} {vs zs : List V} {Q : VK} {sp : Sp} (F : FnOk X.prog X.w X.K X.mg X.base (L2.CX X.prog X.w) k f fd ps sp) (hr : Room k X.A) (hkb : KB fd ps n ks) (tk : Takes X W)
    (I : Inv X pins σ H s) (r : Vals vs us) (rz : Vals zs ws) (l1 : us.length = n) (l2 : ws.length = ks.length) (h : sp (byKw ps ks vs zs) H Q (WE W σ)) : wpAny (model X.prog X.w) X.A (call (.ref f) us (ks.zip ws)) (EP X pins σ Q) X.xe s := by
  obtain ⟨b1, b2⟩ := hkb s us ws l1 l2
  refine wpAny_call (codeAny_mono (F.run X.A X.stack s H ⟨us, ks.zip ws⟩ (byKw ps ks us ws) (byKw ps ks vs zs) Q (WE W σ) hr I.env0 b1 (byKw_rel r rz ks) h) fun r s' hq => ?_)
  cases r with
  | error e => exact passAt tk σ pins H s e s' I hq
  | ok fl =>
    cases fl with
    | ret u => exact I.after hq
    | next => exact False.elim hq
    | brk => exact False.elim hq
    | cont => exact False.elim hq
/-- the keywords' values -/
theorem k_nil : PK X [] (lift (gX B X) W aNil) := ⟨fun pos pins s σ H Q I ⟨ι, S, ρ, sr, er, p⟩ => pk_nil.run pos pins s σ H Q I (p.now sr Reps.nil)⟩
theorem k_cons {nm : Option Str} {kpos : Pos} {r : List Keyword} {h : FA} (ha : PE X a (lift (gX B X) W fa)) (hr : PK X r (lift (gX B X) W h)) : PK X (⟨nm, a, kpos⟩ :: r) (lift (gX B X) W (aCons fa h)) :=
  ⟨fun pos pins s σ H Q I hh => (pk_cons ha hr).run pos pins s σ H Q I (hh.bind fun v w S1 H1 ι1 ρ s1 e1 r1 p => ⟨ι1, S1, ρ, s1, e1, p.bind fun vs ws S2 H2 ι2 l s2 r2 p2 => p2.now s2 (Reps.cons (Rep.later l r1) r2)⟩)⟩
def fCallK (n : Nat) (ps ks : List Str) (G : GF) (f h : FA) : FE := fun ρ S => (f ρ S).bind fun us S1 => (h ρ S1).bind fun ws S2 => if us.length = n ∧ ws.length = ks.length then G (byKw ps ks us ws) S2 else .bad
theorem e_callK {ks : List Str} {n : Nat} {kwl : List Keyword} (D : Def X.prog X.w (gX B X) X.base k x ps kws G) (hr : Room k X.A) (tk : Takes X W) (hg : Gl X x) (hin : (n, ks) ∈ kws) (ha : PA X (e :: es) (lift (gX B X) W fs)) (hkw : PK X kwl (lift (gX B X) W fk))
    (hall : (backToKw pos (keywordEach kwl X.env)).all (·.1.isSome) = true := by rfl) (hks : (backToKw pos (keywordEach kwl X.env)).filterMap (·.1) = ks := by rfl)
    (hdb : (x == ("__debug__" : Str)) = false := by decide) (he : starEach (e :: es) X.env = (false, eval e X.env) :: starEach es X.env := by rfl)
    (hpl : ((backTo pos (starEach (e :: es) X.env)).any (·.1) || (backToKw pos (keywordEach kwl X.env)).any (·.1.isNone)) = false := by rfl) :
    PE X (.Call (.Name x p) (e :: es) kwl pos) (lift (gX B X) W (fCallK n ps ks G fs fk)) := by
  obtain ⟨f, fd, F, hm, hk, hb, hkb, _⟩ := D.ex
  refine ⟨fun pins s σ H Q I h => ?_⟩
  refine wpAny_Call_Name_kw (ld_glob I hg hm ?_ hdb)
  have h2 : (lift (gX B X) W fs : TA) σ H fun vs H1 => (lift (gX B X) W fk : TA) σ H1 fun zs H2 => vs.length = n ∧ zs.length = ks.length ∧ spG (gX B X) ps.length G (byKw ps ks vs zs) H2 Q (WE W σ) :=
    h.bind fun v us S1 H1 ι1 ρ s1 e1 r1 p => ⟨ι1, S1, ρ, s1, e1, p.bind fun v2 ws S2 H2 ι2 l s2 r2 p2 => by
      have r2 : Reps X.K H2 ι2 v2 ws := r2
      have r1 : Reps X.K H2 ι2 v us := Reps.later l r1
      have p2 : Post (gX B X) W σ ι2 H2 (if us.length = n ∧ ws.length = ks.length then G (byKw ps ks us ws) S2 else .bad) Q := p2
      by_cases hc : us.length = n ∧ ws.length = ks.length
      · rw [if_pos hc] at p2
        exact ⟨by rw [r1.length]; exact hc.1, by rw [r2.length]; exact hc.2, D.sp s2 (byKw_rep r1 r2 ks) p2⟩
      · rw [if_neg hc] at p2
        exact p2.elim⟩
  refine PySem.W.callWith_KW (h₀ := X.base) I.ok.mod.kin hk hall (thn (ha.run pos pins s σ H _ I h2) fun us s1 ⟨vs, H1, I1, r, q⟩ => ?_) hpl he
  refine thn (hkw.run pos pins s1 σ H1 _ I1 q) fun ws s2 ⟨zs, H2, I2, rz, l1, l2, q2⟩ => ⟨I2.kIn, ?_⟩
  rw [hks]
  exact run_kw F hr (hkb _ hin) tk I2 r rz (r.length.symm.trans l1) (rz.length.symm.trans l2) q2
theorem e_callK0 {ks : List Str} {kwl : List Keyword} (D : Def X.prog X.w (gX B X) X.base k x ps kws G) (hr : Room k X.A) (tk : Takes X W) (hg : Gl X x) (hin : (0, ks) ∈ kws) (hkw : PK X kwl (lift (gX B X) W fk))
    (hall : (backToKw pos (keywordEach kwl X.env)).all (·.1.isSome) = true := by rfl) (hks : (backToKw pos (keywordEach kwl X.env)).filterMap (·.1) = ks := by rfl)
    (hdb : (x == ("__debug__" : Str)) = false := by decide)
    (hpl : ((backTo pos (starEach [] X.env)).any (·.1) || (backToKw pos (keywordEach kwl X.env)).any (·.1.isNone)) = false := by rfl) :
    PE X (.Call (.Name x p) [] kwl pos) (lift (gX B X) W (fCallK 0 ps ks G aNil fk)) := by
  obtain ⟨f, fd, F, hm, hk, hb, hkb, _⟩ := D.ex
  refine ⟨fun pins s σ H Q I h => ?_⟩
  refine wpAny_Call_Name_kw (ld_glob I hg hm ?_ hdb)
  have h2 : (lift (gX B X) W fk : TA) σ H fun zs H2 => zs.length = ks.length ∧ spG (gX B X) ps.length G (byKw ps ks [] zs) H2 Q (WE W σ) := by
    obtain ⟨ι, S, ρ, sr, er, p⟩ := h
    refine ⟨ι, S, ρ, sr, er, Post.bind (o := fk ρ S) (k := fun ws S2 => if ([] : List T).length = 0 ∧ ws.length = ks.length then G (byKw ps ks [] ws) S2 else .bad) p fun v2 ws S2 H2 ι2 l s2 r2 p2 => ?_⟩
    have r2 : Reps X.K H2 ι2 v2 ws := r2
    by_cases hc : ([] : List T).length = 0 ∧ ws.length = ks.length
    · rw [if_pos hc] at p2
      exact ⟨by rw [r2.length]; exact hc.2, D.sp s2 (byKw_rep .nil r2 ks) p2⟩
    · rw [if_neg hc] at p2
      exact p2.elim
  refine PySem.W.callWith_KW0 (h₀ := X.base) I.ok.mod.kin hk hall (thn (hkw.run pos pins s σ H _ I h2) fun ws s2 ⟨zs, H2, I2, rz, l2, q2⟩ => ⟨I2.kIn, ?_⟩) hpl
  rw [hks]
  exact run_kw (us := []) (vs := []) F hr (hkb _ hin) tk I2 .nil rz rfl (rz.length.symm.trans l2) q2
end

/-! ### a def by its body -/
def OutS.toOut : OutS → Out T
  | .nx _ S => .ok .non S
  | .rt w S => .ok w S
  | .exc e _ S => .exc e S
  | _ => .bad
def startE (n : Nat) (ws : List T) : Env := ws.map some ++ List.replicate (n - ws.length) none
def runDef (np n : Nat) (body : FS) : GF := fun ws S => if ws.length = np then (body (startE n ws) S).toOut else .bad
theorem start_rel {K : PySem.W.Frag} {H : Hp} {ι : List Addr} {vs : List V} {ws : List T} {N : List Str} (r : Reps K H ι vs ws) : ERel K ι H (L2.start N vs) (startE N.length ws) := by
  unfold L2.start startE
  rw [r.length]
  refine ⟨by simp [r.length], fun i w h => ?_⟩
  by_cases hi : i < ws.length
  · rw [List.getElem?_append_left (by simpa using hi), List.getElem?_map] at h
    cases e : ws[i]? with
    | none => rw [e] at h; cases h
    | some w' =>
      rw [e] at h
      cases h
      obtain ⟨v, h1, h2⟩ := r.get e
      refine ⟨v, ?_, h2⟩
      rw [List.getElem?_append_left (by simpa [r.length] using hi), List.getElem?_map, h1]
      rfl
  · rw [List.getElem?_append_right (by simpa using hi), List.getElem?_replicate] at h
    split at h <;> cases h
theorem takes_def {P : Program} {w : World} {K : PySem.W.Frag} {mg : Str → Option Value} {base : Heap} {N : List Str} {qual : Str} {scope : Scope} {f : Addr} {cd : Value} {A : Around} {outer : List PySem.Env} {s : Shared} {H : Hp} {E : XK} :
    Takes (cxOf (L2.CX P w) P w K mg base N qual scope f cd A outer s H E) (fun c d _ H' => E c d H') := takes_of rfl rfl rfl rfl
end Fl

set_option Elab.async false
set_option linter.all false
set_option maxRecDepth 100000
set_option maxHeartbeats 4000000
/-! Fl7: try with clauses that name what they catch; a lambda handed to a def. -/
namespace Fl
open PySem PySem.Spec PyProof.Rows L2

/-! ### try: several clauses, each with a name -/
def goneD (i : Nat) (D : Ends) : Ends := { nx := fun σ' H' => D.nx (σ'.set i none) H', rt := D.rt, bk := fun σ' H' => D.bk (σ'.set i none) H', ct := fun σ' H' => D.ct (σ'.set i none) H' }
abbrev HdT := Value × Nat × (Addr → Value → Option Addr → TS)
def wNamed (K : PySem.W.Frag) (Wo : WX) (D : Ends) : List HdT → WX
  | [] => Wo
  | (c, i, ts) :: r => fun cls d σ H => ∃ b, PySem.W.exmOne K cls c = some b ∧ (b = true → ∀ a, H a = none → ts a cls d (goneD i D) (σ.set i (some (.ref a))) H) ∧ (b = false → wNamed K Wo D r cls d σ H)
inductive HdsN (X : Cx) : List ExceptHandler → List HdT → Prop
  | nil : HdsN X [] []
  | cons {x n : Str} {c : Value} {i : Nat} {ts : Addr → Value → Option Addr → TS} {b₀ : Stmt} {suite : List Stmt} {np p2 : Pos} {hds : List ExceptHandler} {l : List HdT} (hc : Names X x c) (hi : X.N[i]? = some n) (hln : X.env.kindOf n = some .local)
      (hsu : ∀ (a : Addr) (oe : Obj) (cls : Value) (d : Option Addr) (pn : List (Addr × Obj)), Zc cls d oe → (∃ vs, oe.data = .fields vs) → PSs (X.suite a ((a, oe) :: pn)) (b₀ :: suite) (ts a cls d)) (r : HdsN X hds l) :
      HdsN X (.ExceptHandler (some (.Name x np)) (some n) (b₀ :: suite) p2 :: hds) ((c, i, ts) :: l)
section
variable {X : Cx} {body : List Stmt} {h₀ : ExceptHandler} {hds : List ExceptHandler} {l : List HdT} {pos : Pos} {tb : WX → TS} {Wo : WX}
theorem ps_try_named (hs : X.stack = X.env :: X.outer) (hf : X.env.frame = some X.env.locals) (hN : X.N.Nodup) (tk : Takes X Wo)
    (hb : ∀ (W : WX) (pn : List (Addr × Obj)) (xe : Value → Shared → Prop), Takes (X.tr pn xe) W → PassesOwn (model X.prog X.w) X.A X.env xe → PSs (X.tr pn xe) body (tb W))
    (hh : HdsN X (h₀ :: hds) l) : PS X (.Try body (h₀ :: hds) [] [] pos) (fun D σ H => tb (wNamed X.K Wo D l) D σ H) := by
  refine ⟨fun pins s σ H D I hyp => ?_⟩
  have okX := I.ok
  have frX : X.A.frames = some (X.env :: X.outer) := okX.frames.trans (congrArg some hs)
  refine wpAny_Try_except ?_
  refine wpAny_mono ((hb (wNamed X.K Wo D l) (X.pn ++ pins) (fun ev sa => wpAny (model X.prog X.w) X.A (noteFrame ev X.env) (fun _ sb => wpAny (model X.prog X.w) X.A (setFlight ev none) (fun _ sc =>
    wpAny (model X.prog X.w) X.A (handleBy ev X.env (h₀ :: hds)) (SP X pins D) X.xe sc) X.xe sb) X.xe sa) (fun u s' air => ?_) PassesOwn.looking).run [] s σ H D (I.toTry _) hyp) (fun f s1 done => ?_) (fun _ _ z => z)
  · obtain ⟨a, G, sI, pins', σ', H', cls, d, rfl, J', gr, up, sky, na, os, ag, wish⟩ := air
    have J : Inv X pins σ' H' sI := J'.ofTry okX
    show wpAny (model X.prog X.w) X.A (noteFrame (.ref a) X.env) _ _ _
    refine Sky.land Zc.steady frX hf (by rw [← hs]; exact sky) fun h3 fl3 up3 => ?_
    have J3 : Inv X pins σ' H' { s' with heap := h3 } := J.landed gr fl3.1 (up.trans up3) os ag
    obtain ⟨oe3, vs3, at3, z3, d3⟩ := fl3.there
    have noFrame : a ∉ frs (X.env :: X.outer) := fun hm => by
      obtain ⟨_, o', e', hnf⟩ := fl3.2.2.1.mem hm
      rw [at3] at e'
      cases e'
      exact hnf _ d3
    have nL : a ≠ X.env.locals := fun z => noFrame (List.mem_filterMap.mpr ⟨X.env, List.mem_cons_self, hf.trans (congrArg some z.symm)⟩)
    have nF : a ∉ X.fs := fun hm => by
      obtain ⟨e, he, q⟩ := List.mem_filterMap.mp hm
      exact noFrame (List.mem_filterMap.mpr ⟨e, List.mem_cons_of_mem _ he, q⟩)
    have S3 := J3.suite at3 d3 na nL nF
    have go : ∀ {hs' : List ExceptHandler} {l' : List HdT}, HdsN X hs' l' → wNamed X.K Wo D l' cls d σ' H' → wpAny (model X.prog X.w) X.A (handleBy (.ref a) X.env hs') (SP X pins D) X.xe { s' with heap := h3 } := by
      intro hs' l' hk
      induction hk with
      | nil =>
        intro wsh
        refine wpAny_handleBy_nil ?_
        obtain ⟨_, _, _, oe, vs, T, _, _, at_, _, hd, h1, _⟩ := id fl3
        have fin : wpAny (model X.prog X.w) X.A (setFlight (.ref a) X.env.frame) (fun _ s4 => wpAny (model X.prog X.w) X.A (throw (.ref a) : Sem Flow) (SP X pins D) X.xe s4) X.xe { s' with heap := h3 } := by
          rw [hf]
          exact HandSPX.setFlight_upZ fl3 fun h4 held4 up4 => wpAny_throw (tk _ _ ⟨a, G, sI, pins, σ', H', cls, d, rfl, J, gr, (up.trans up3).trans up4, .inr (.inr (by rw [hs]; exact held4)), na, os, ag, wsh⟩)
        unfold PySem.passOn
        refine wpAny_bind (wpAny_field at_ hd h1 ?_)
        rw [if_neg (by simp : ¬ ((Value.ref T == Value.none) = true))]
        first
          | exact wpAny_bind (wpAny_pure (wpAny_bind fin))
          | exact wpAny_bind fin
      | @cons x n c i ts b₀ suite np p2 hds2 l2 hc hi hln hsu r ih =>
        intro wsh
        obtain ⟨b, hb1, yes, no⟩ := wsh
        refine wpAny_handleBy_cons (codeAny_handlers_test ?_) (by intro q; cases q)
        have LT : PySem.W.Looks (model X.prog X.w) h3 (typeOf (.ref a)) cls := fun A Q E s k q => wpAny_typeOf_ref (k _ _ at3) (by rw [z3.1]; exact q)
        have LM := PySem.W.exm_one (M := model X.prog X.w) (J3.kIn) LT hb1
        have names : ∀ {Q : Value → Shared → Prop} {E : Value → Shared → Prop}, Q c { s' with heap := h3 } → wpAny (model X.prog X.w) (X.A.mark (some (.ref a))) (eval (.Name x np) X.env) Q E { s' with heap := h3 } := fun {Q E} q => by
          obtain ⟨hg, hdbg, hm | ⟨hm, hv, hnn⟩⟩ := hc
          · exact ld_glob (X := X.suite a ((a, oe3) :: (X.pn ++ pins))) S3 hg hm q hdbg
          · exact ld_blt (X := X.suite a ((a, oe3) :: (X.pn ++ pins))) S3 hg hm hv q hnn hdbg
        refine names (LM.here ?_)
        cases b with
        | false =>
          show wpAny _ X.A (handleBy (.ref a) X.env hds2) _ _ _
          exact ih (no rfl)
        | true =>
          refine codeAny_handlers_suite_as ?_
          refine HandSPX.lands_againZ fl3 fun h4 fl4 up4 => ?_
          have J4 : Inv X pins σ' H' { s' with heap := h4 } := J.landed gr fl4.1 ((up.trans up3).trans up4) os ag
          obtain ⟨oe4, vs4, at4, z4, d4⟩ := fl4.there
          have S4 := J4.suite at4 d4 na nL nF
          refine store_ok (X := X.suite a ((a, oe4) :: (X.pn ++ pins))) (v := .ref a) S4 hN hi (.inl hln) rfl (fun s5 S5 => ?_) (.inr hln)
          refine wpAny_mono ((hsu a oe4 cls d (X.pn ++ pins) z4 ⟨_, d4⟩).run [] s5 _ H' _ S5 (yes rfl a na)) (fun f s6 end6 => ?_) (fun _ _ z => False.elim z)
          have over_ : ∀ {σ6 : L2.St} {H6 : Hp} {Q : Shared → Prop}, Inv (X.suite a ((a, oe4) :: (X.pn ++ pins))) [] σ6 H6 s6 → (∀ s7, Inv X pins (σ6.set i none) H6 s7 → Q s7) →
              wpAny (model X.prog X.w) X.A (do bindName X.env n .none; unbindBehindTheSuite X.env n p2) (fun _ s7 => Q s7) X.xe s6 := fun {σ6 H6 Q} S6 hq => gone_ok (S6.unsuite okX) hN hi hln hq
          cases f with
          | next =>
            obtain ⟨σ6, H6, S6, q6⟩ := end6
            exact over_ S6 fun s7 J7 => ⟨_, _, J7, q6⟩
          | brk =>
            obtain ⟨σ6, H6, S6, q6⟩ := end6
            exact over_ S6 fun s7 J7 => ⟨_, _, J7, q6⟩
          | cont =>
            obtain ⟨σ6, H6, S6, q6⟩ := end6
            exact over_ S6 fun s7 J7 => ⟨_, _, J7, q6⟩
          | ret u =>
            obtain ⟨v6, σ6, H6, S6, r6, q6⟩ := end6
            exact over_ S6 fun s7 J7 => ⟨_, _, _, J7, r6, q6⟩
    exact go hh wish
  · cases f with
    | next =>
      obtain ⟨σ', H', K', q⟩ := done
      exact wpAny_execs_nil ⟨σ', H', K'.ofTry okX, q⟩
    | brk =>
      obtain ⟨σ', H', K', q⟩ := done
      exact ⟨σ', H', K'.ofTry okX, q⟩
    | cont =>
      obtain ⟨σ', H', K', q⟩ := done
      exact ⟨σ', H', K'.ofTry okX, q⟩
    | ret u =>
      obtain ⟨v, σ', H', K', r, q⟩ := done
      exact ⟨v, σ', H', K'.ofTry okX, r, q⟩
end

/-! ### the classes of errors -/
/-- which class is beneath which: all beneath OwnError, else each by itself -/
def subX (x y : Str) : Bool := decide (x = y) || decide (y = "OwnError")
/-- x: a class whose errors are raised; ys: the classes that are asked about -/
structure XFam (K : PySem.W.Frag) (mg : Str → Option Value) (xs ys : List Str) : Prop where
  cls : ∀ x ∈ xs, ∀ C, mg x = some (.ref C) → (PySem.W.clsIn K C).isSome = true ∧ PySem.W.findIn K (.ref C) "__getattribute__" = some (some (.builtin "BaseException.__getattribute__")) ∧ PySem.W.findIn K (.ref C) "__getattr__" = some none ∧
    PySem.W.subIn K (.ref C) (.type "BaseException") = some true ∧ PySem.W.findIn K (.ref C) "__class__" = some (some (.builtin "object.__class__")) ∧ PySem.W.specialIn K (.builtin "object.__class__") "__get__" = some (some (.builtin "getset_descriptor.__get__")) ∧
    PySem.W.takesIn K (.builtin "object.__class__") = some true ∧ PySem.W.mroIn K C (.type "object") = some true ∧ PySem.W.hasDictIn K C = true ∧ PySem.W.kitOne K (.ref C) (.type "ValueError") = some true
  pair : ∀ x ∈ xs, ∀ y ∈ ys, ∀ C D, mg x = some (.ref C) → mg y = some (.ref D) → PySem.W.kitOne K (.ref C) (.ref D) = some (subX x y) ∧ PySem.W.exmOne K (.ref C) (.ref D) = some (subX x y)

section
variable {X : Cx} {a C : Addr} {oe : Obj} {pn : List (Addr × Obj)} {d : Option Addr} {xs ys : List Str} {x : Str}
theorem kit_x (F : XFam X.K X.mg xs ys) (hx : x ∈ xs) (hC : X.mg x = some (.ref C)) {od : Option Obj} : PySem.W.KitX X.K (.ref a) (.ref C) (fun h => PySem.W.InstAt h a oe C od) := by
  obtain ⟨h1, h2, h3, h4, h5, h6, h7, h8, _⟩ := F.cls x hx C hC
  exact PySem.W.kitx_exc h1 h2 h3 h4 h5 h6 h7 h8
/-- isinstance(the caught error, a class | a tuple of classes) -/
theorem inst_x {pins : List (Addr × Obj)} {σ : L2.St} {H : Hp} {s : Shared} (I : Inv (X.suite a ((a, oe) :: pn)) pins σ H s) (hz : Zc (.ref C) d oe) (hf : ∃ vs, oe.data = .fields vs) (hd : ∀ dd, d = some dd → ∃ o, s.heap.get? dd = some o) : ∃ od, PySem.W.InstAt s.heap a oe C od := by
  obtain ⟨hget, _⟩ := I.pin (a, oe) (List.mem_append.mpr (.inl List.mem_cons_self))
  obtain ⟨vs, hv⟩ := hf
  have hget : s.heap.get? a = some oe := hget
  cases d with
  | none => exact ⟨none, hget, hz.1, by unfold PySem.W.notCls; rw [hv] <;> rfl, by rw [hz.2]; trivial⟩
  | some dd =>
    obtain ⟨o, ho⟩ := hd dd rfl
    exact ⟨some o, hget, hz.1, by unfold PySem.W.notCls; rw [hv] <;> rfl, by rw [hz.2]; exact ho⟩
def rIs1 (K : PySem.W.Frag) (a C : Addr) (d : Option Addr) : List V → Hp → VK → Prop := fun vs H Q => ∃ (c : V) (cv : Value) (b : Bool), vs = [.ref a, c] ∧ ClsV c cv ∧ PySem.W.kitOne K (.ref C) cv = some b ∧ (∀ dd, d = some dd → ∃ fs, H dd = some (.xd fs)) ∧ Q (.bl b) H
def rIsT (K : PySem.W.Frag) (a C : Addr) (d : Option Addr) : List V → Hp → VK → Prop := fun vs H Q => ∃ (tp : Addr) (cs : List V) (us : List Value) (b : Bool), vs = [.ref a, .ref tp] ∧ H tp = some (.tup cs) ∧ Paired ClsV cs us ∧ PySem.W.kitAny K (.ref C) us = some b ∧ (∀ dd, d = some dd → ∃ fs, H dd = some (.xd fs)) ∧ Q (.bl b) H
theorem dict_at {pins : List (Addr × Obj)} {σ : L2.St} {H : Hp} {s : Shared} {Y : Cx} (I : Inv Y pins σ H s) (h : ∀ dd, d = some dd → ∃ fs, H dd = some (.xd fs)) : ∀ dd, d = some dd → ∃ o, s.heap.get? dd = some o := fun dd e => by
  obtain ⟨fs, hh⟩ := h dd e
  obtain ⟨mA, ⟨o, es, ep, ho, _⟩, _⟩ := (show ObjOk Y.prog Y.w H s.heap dd (.xd fs) from I.hok dd _ hh)
  exact ⟨o, ho⟩
theorem call_is1 (F : XFam X.K X.mg xs ys) (hx : x ∈ xs) (hC : X.mg x = some (.ref C)) (hz : Zc (.ref C) d oe) (hf : ∃ vs, oe.data = .fields vs) : CallR (X.suite a ((a, oe) :: pn)) (.builtin "isinstance") (rIs1 X.K a C d) := by
  intro pins s σ H vs us Q I r ⟨c, cv, b, ev, k, e, hd, q⟩
  subst ev
  obtain ⟨u1, u2, rfl, r1, r2⟩ := vals2 r
  cases (show u1 = Value.ref a from r1)
  have e2 := k.eq r2
  subst e2
  obtain ⟨od, J⟩ := inst_x I hz hf (dict_at I hd)
  exact PySem.W.kia_one (kit_x F hx hC) I.kIn J e (fun z => nomatch z) fun tk => ⟨.bl b, H, I.tok tk, rfl, q⟩
theorem call_isT (F : XFam X.K X.mg xs ys) (hx : x ∈ xs) (hC : X.mg x = some (.ref C)) (hz : Zc (.ref C) d oe) (hf : ∃ vs, oe.data = .fields vs) : CallR (X.suite a ((a, oe) :: pn)) (.builtin "isinstance") (rIsT X.K a C d) := by
  intro pins s σ H vs us Q I r ⟨tp, cs, ws, b, ev, hT, k, e, hd, q⟩
  subst ev
  obtain ⟨u1, u2, rfl, r1, r2⟩ := vals2 r
  cases (show u1 = Value.ref a from r1)
  cases (show u2 = Value.ref tp from r2)
  obtain ⟨od, J⟩ := inst_x I hz hf (dict_at I hd)
  obtain ⟨_, its, rv, o, h1, h2, n, h3⟩ := (show ObjOk X.prog X.w H s.heap tp (.tup cs) from I.hok tp _ hT)
  have e3 := ClsV.all k rv
  subst e3
  obtain ⟨oc, od', dt, sl⟩ := o
  simp only at h2 h3
  subst h2 h3
  exact PySem.W.kia_tup (kit_x F hx hC) I.kIn J h1 e (fun z => nomatch z) fun tk => ⟨.bl b, H, I.tok tk, rfl, q⟩
theorem any_x (F : XFam X.K X.mg xs ys) (hx : x ∈ xs) (hC : X.mg x = some (.ref C)) : ∀ {zs : List Str} {Ds : List Addr}, (∀ z ∈ zs, z ∈ ys) → Paired (fun z D => X.mg z = some (.ref D)) zs Ds → PySem.W.kitAny X.K (.ref C) (Ds.map Value.ref) = some (zs.any (subX x))
  | _, _, _, .nil => kitAny_nil
  | z :: zs, D :: Ds, hy, .cons h t => by
    have ih := any_x F hx hC (fun w hw => hy w (List.mem_cons_of_mem _ hw)) t
    have p := (F.pair x hx z (hy z List.mem_cons_self) C D hC h).1
    show PySem.W.kitAny X.K (.ref C) (Value.ref D :: Ds.map Value.ref) = some (subX x z || zs.any (subX x))
    exact kitAny_cons p (fun e => by rw [ih, e]; rfl) (fun e => by rw [e]; rfl)
theorem paired_cls : ∀ Ds : List Addr, Paired ClsV (Ds.map V.ref) (Ds.map Value.ref)
  | [] => .nil
  | D :: Ds => .cons (.own D) (paired_cls Ds)
/-- a row of classes, by their names -/
def tCl (Ds : List Addr) : TA := fun _ H Q => Q (Ds.map V.ref) H
theorem cl_nil {Y : Cx} : PA Y [] (tCl []) := pa_nil
theorem cl_cons {Y : Cx} {z : Str} {D : Addr} {Ds : List Addr} {es : List Expr} {p : Pos} (hg : Gl Y z) (hm : Y.mg z = some (.ref D)) (h : PA Y es (tCl Ds)) (hd : (z == ("__debug__" : Str)) = false := by decide) (hs : starEach (.Name z p :: es) Y.env = (false, eval (.Name z p) Y.env) :: starEach es Y.env := by rfl) : PA Y (.Name z p :: es) (tCl (D :: Ds)) :=
  pa_cons (pe_glob (v := .ref D) hg hm rfl hd) h hs
end

/-! ### the suite that tells what it caught -/
/-- other = isinstance(fault, (..)); return (word, fault.field, isinstance(fault, OwnError), isinstance(fault, ValueError), other) -/
structure Hd where
  cls : Str
  fld : Str
  word : Str
  zs : List Str
def Hd.tells (h : Hd) (e : Ex) : T := .tup [.str h.word, e.arg, .bl true, .bl true, .bl (h.zs.any (subX e.cls))]
def tSuite (K : PySem.W.Frag) (C CO : Addr) (fld word : Str) (iF iO : Nat) (Ds : List Addr) (a : Addr) (cls : Value) (d : Option Addr) : TS :=
  tSeq (tAsg (tCB (rIsT K a C d) (tCons (tVar iF) (tCons (tTup (tCl Ds)) tNil))) (gName iO))
    (tRet (tTup (tCons (tC (.str word)) (tCons (tXf a cls d C fld (tVar iF)) (tCons (tCB (rIs1 K a C d) (tCons (tVar iF) (tCons (tC (.ref CO)) tNil))) (tCons (tCB (rIs1 K a C d) (tCons (tVar iF) (tCons (tC (.ty "ValueError")) tNil))) (tCons (tVar iO) tNil)))))))

theorem suite_of {Y : Cx} {st : List Stmt} {t : TS} {cls : Value} {C : Addr} (h : cls = .ref C → PSs Y st t) : PSs Y st (fun D σ H => cls = .ref C ∧ t D σ H) := ⟨fun pins s σ H D I ⟨e, q⟩ => (h e).run pins s σ H D I q⟩
/-- what is known of a clause -/
structure HdOk (X : Cx) (xs ys : List Str) (h : Hd) (C CO : Addr) (Ds : List Addr) : Prop where
  gC : X.mg h.cls = some (.ref C)
  gO : X.mg "OwnError" = some (.ref CO)
  hx : h.cls ∈ xs
  hy : h.cls ∈ ys
  hO : ("OwnError" : Str) ∈ ys
  hz : ∀ z ∈ h.zs, z ∈ ys
  nO : h.cls ≠ "OwnError"
  ds : Paired (fun z D => X.mg z = some (.ref D)) h.zs Ds
  few : Ds.length ≤ 1000
theorem suite_reads {X : Cx} {B : Bd} {W : WX} {xs ys : List Str} {h : Hd} {C CO : Addr} {Ds : List Addr} {iF iO : Nat} {D : Ends} {σ : L2.St} {ι : List Addr} {H : Hp} {S : Store} {ρ : Env} {e : Ex} {a : Addr} {c : Value} {d : Option Addr} (F : XFam X.K X.mg xs ys) (K : HdOk X xs ys h C CO Ds)
    (sr : SRel B X.K ι H S) (er : ERel X.K ι H σ ρ) (x : XRep X.mg X.K ι H c d e) (ec : e.cls = h.cls) (ef : e.fld = h.fld) (hF : iF < ρ.length) (hO : iO < ρ.length) (ne : iF ≠ iO) (p : PostS (gX B X) W D ι H (.rt (h.tells e) S)) :
    c = .ref C ∧ tSuite X.K C CO h.fld h.word iF iO Ds a c d (goneD iF D) (σ.set iF (some (.ref a))) H := by
  obtain ⟨C', dd, fs, v, x1, x2, x3, x4, x5, x6⟩ := x
  rw [ec, K.gC] at x1
  cases x1
  subst x2 x3
  rw [ef] at x5
  have lσ : σ.length = ρ.length := er.1.symm
  have g1 : (σ.set iF (some (V.ref a)))[iF]? = some (some (.ref a)) := by simp [lσ, hF]
  have g2 : ∀ b : Bool, ((σ.set iF (some (V.ref a))).set iO (some (.bl b)))[iF]? = some (some (.ref a)) := fun b => by rw [List.getElem?_set_ne (Ne.symm ne)]; exact g1
  have g3 : ∀ b : Bool, ((σ.set iF (some (V.ref a))).set iO (some (.bl b)))[iO]? = some (some (.bl b)) := fun b => by simp [lσ, hO]
  have dl : (Ds.map V.ref).length ≤ sizeLine := by rw [List.length_map, line_eq]; exact Nat.le_trans K.few (by decide)
  refine ⟨rfl, .ref a, g1, dl, fun q hq => ⟨q, Ds.map V.ref, Ds.map Value.ref, _, rfl, upd_same, paired_cls Ds, any_x F K.hx K.gC K.hz K.ds, fun d' ed => ?_, ?_⟩⟩
  · cases ed
    exact ⟨fs, by rw [upd_ne (ne_of_none x4 hq)]; exact x4⟩
  · have x4' : upd H q (.tup (Ds.map V.ref)) dd = some (.xd fs) := by rw [upd_ne (ne_of_none x4 hq)]; exact x4
    have kO := (F.pair h.cls K.hx "OwnError" K.hO C CO K.gC K.gO).1
    rw [show subX h.cls "OwnError" = true by unfold subX; simp] at kO
    refine ⟨.ref a, g2 _, rfl, rfl, dd, fs, v, rfl, x4', x5, .ref a, g2 _, .ref CO, .ref CO, true, rfl, .own CO, kO, fun d' ed => by cases ed; exact ⟨fs, x4'⟩,
      .ref a, g2 _, .ty "ValueError", .type "ValueError", true, rfl, .ty _, (F.cls h.cls K.hx C K.gC).2.2.2.2.2.2.2.2.2, fun d' ed => by cases ed; exact ⟨fs, x4'⟩, .bl _, g3 _, by show 5 ≤ sizeLine; decide, fun r hr => ?_⟩
    have l1 : Later X.K ι H ι (upd H q (.tup (Ds.map V.ref))) := Later.laid hq
    have l2 := l1.trans (Later.laid (ι := ι) (o := .tup [.str h.word, v, .bl true, .bl true, .bl (h.zs.any (subX h.cls))]) hr)
    refine p _ _ ι l2 ((sr.laid hq).laid hr) ?_
    unfold Hd.tells
    rw [ec]
    exact .tup (SqT.of upd_same) (.cons (.str _) (.cons (x6.later l2) (.cons (.bl _) (.cons (.bl _) (.cons (.bl _) .nil)))))

/-- the clauses one after the other -/
inductive HdsP (X : Cx) (xs ys : List Str) (iF iO : Nat) : List HdT → List Hd → Prop
  | nil : HdsP X xs ys iF iO [] []
  | cons {h : Hd} {C CO : Addr} {Ds : List Addr} {l : List HdT} {hs : List Hd} (K : HdOk X xs ys h C CO Ds) (r : HdsP X xs ys iF iO l hs) :
      HdsP X xs ys iF iO ((.ref C, iF, fun a cls d D σ H => cls = .ref C ∧ tSuite X.K C CO h.fld h.word iF iO Ds a cls d D σ H) :: l) (h :: hs)
def sTryP (xs : List Str) (iF iO : Nat) (body : FS) (hs : List Hd) : FS := fun ρ S => match body ρ S with
  | .exc e ρ' S' => if e.cls ∈ xs then (match hs.find? fun h => decide (e.cls = h.cls) with
      | some h => if e.fld = h.fld ∧ iF < ρ'.length ∧ iO < ρ'.length then .rt (h.tells e) S' else .bad
      | none => .exc e ρ' S')
    else .bad
  | o => o
theorem s_try {B : Bd} {X : Cx} {W : WX} {xs ys : List Str} {iF iO : Nat} {body : List Stmt} {h₀ : ExceptHandler} {hds : List ExceptHandler} {l : List HdT} {hs : List Hd} {fb : FS} {pos : Pos} (F : XFam X.K X.mg xs ys) (hst : X.stack = X.env :: X.outer) (hf : X.env.frame = some X.env.locals) (hN : X.N.Nodup) (tk : Takes X W) (ne : iF ≠ iO)
    (hb : ∀ (W' : WX) (pn : List (Addr × Obj)) (xe : Value → Shared → Prop), Takes (X.tr pn xe) W' → PassesOwn (model X.prog X.w) X.A X.env xe → PSs (X.tr pn xe) body (liftS (gX B X) W' fb))
    (hh : HdsN X (h₀ :: hds) l) (hl : HdsP X xs ys iF iO l hs) : PS X (.Try body (h₀ :: hds) [] [] pos) (liftS (gX B X) W (sTryP xs iF iO fb hs)) :=
  PS.imp (ps_try_named hst hf hN tk (tb := fun W' => liftS (gX B X) W' fb) hb hh) fun D σ H hq => by
    obtain ⟨ι, S, ρ, sr, er, p⟩ := hq
    refine ⟨ι, S, ρ, sr, er, ?_⟩
    unfold sTryP at p
    cases eb : fb ρ S with
    | nx ρ' S' => rw [eb] at p; exact p
    | rt w S' => rw [eb] at p; exact p
    | bk ρ' S' => rw [eb] at p; exact p
    | ct ρ' S' => rw [eb] at p; exact p
    | bad => rw [eb] at p; exact p
    | exc e ρ' S' =>
      rw [eb] at p
      intro c d σ' H' ι' l' s' e' x'
      replace p : PostS (gX B X) W D ι H (if e.cls ∈ xs then (match hs.find? fun h => decide (e.cls = h.cls) with
        | some h => if e.fld = h.fld ∧ iF < ρ'.length ∧ iO < ρ'.length then .rt (h.tells e) S' else .bad
        | none => .exc e ρ' S') else .bad) := p
      by_cases hx : e.cls ∈ xs
      · rw [if_pos hx] at p
        replace p := PostS.from l' p
        clear hh
        induction hl with
        | nil => exact p c d σ' H' ι' Later.refl s' e' x'
        | @cons h C CO Ds l hs K r ih =>
          obtain ⟨C', dd, fs, v, x1, x2, x3, x4, x5, x6⟩ := id x'
          have pr := (F.pair e.cls hx h.cls K.hy C' C x1 K.gC).2
          refine ⟨subX e.cls h.cls, by rw [x2]; exact pr, fun hyes a ha => ?_, fun hno => ?_⟩
          · have ec : e.cls = h.cls := by
              unfold subX at hyes
              rw [decide_eq_false K.nO, Bool.or_false] at hyes
              exact of_decide_eq_true hyes
            replace p : PostS (gX B X) W D ι' H' (match (h :: hs).find? fun h => decide (e.cls = h.cls) with
              | some h => if e.fld = h.fld ∧ iF < ρ'.length ∧ iO < ρ'.length then .rt (h.tells e) S' else .bad
              | none => .exc e ρ' S') := p
            rw [List.find?_cons_of_pos (by rw [ec]; simp)] at p
            replace p : PostS (gX B X) W D ι' H' (if e.fld = h.fld ∧ iF < ρ'.length ∧ iO < ρ'.length then .rt (h.tells e) S' else .bad) := p
            by_cases hc : e.fld = h.fld ∧ iF < ρ'.length ∧ iO < ρ'.length
            · rw [if_pos hc] at p
              exact suite_reads F K s' e' x' ec hc.1 hc.2.1 hc.2.2 ne p
            · rw [if_neg hc] at p
              exact p.elim
          · have nc : ¬ e.cls = h.cls := fun z => by
              rw [z] at hno
              unfold subX at hno
              simp at hno
            rw [List.find?_cons_of_neg (by simpa using nc)] at p
            exact ih p
      · rw [if_neg hx] at p
        exact p.elim

/-! ### a lambda without parameters handed to a def -/
/-- the def's own call of what it got (in slot 0) -/
def fAsk (n : Nat) (th : Store → Out Fl.T) : Fl.FE := fun (ρ : Fl.Env) S => match ρ[0]? with
  | some (some (Fl.T.ref m)) => if m = n then th S else .bad
  | _ => .bad
end Fl

set_option Elab.async false
set_option linter.all false
set_option maxRecDepth 100000
set_option maxHeartbeats 4000000
/-! Fl8: a lambda without parameters handed to a def. -/
namespace Fl
open PySem PySem.Spec PyProof.Rows L2

/-- the context of the def g that gets the lambda -/
abbrev cxG (P : Program) (w : World) (K : PySem.W.Frag) (mg : Str → Option Value) (base : Heap) (N : List Str) (x : Str) (sg : Scope) (g : Addr) (cdg : Value) (A : Around) (outer : List PySem.Env) (s : Shared) (H : Hp) : Cx := (cxOf L2.CX0 P w K mg base N x sg g cdg A outer s H L2.E0).nox
section
variable {X : Cx} {pins : List (Addr × Obj)} {σ : L2.St} {H : Hp} {s : Shared}
/-- its call of what it got: the lambda's body, at the slots of the maker -/
theorem pe_ask {N : List Str} {x : Str} {sg : Scope} {g f c' : Addr} {cdg pm ctv : Value} {params : Arguments} {body : Expr} {scope : Scope} {k : Nat} {a : Str} {pn : List (Addr × Obj)} {xe : Value → Shared → Prop} {W : WX} {t : XK → TE} {p1 p2 : Pos}
    (I : Inv X pins σ H s) (L : LamX.LamS X.env.scope scope) (hf : s.heap.get? f = some (PySem.W.kla_obj "<lambda>" (X.env.qual ++ "<lambda>") params body scope (cloFrom X.env.cells scope.names []) pm c' ctv)) (hfn : H f = none) (hfr : f ∉ frs X.stack)
    (hbind : bindArgs (PySem.W.kla_fn "<lambda>" (X.env.qual ++ "<lambda>") params body scope (cloFrom X.env.cells scope.names []) pm (.ref c') ctv) ⟨[], []⟩ = pure [])
    (tk : Takes ((cxG X.prog X.w X.K X.mg X.base N x sg g cdg X.A X.stack s H).tr pn xe) W) (hr : Room (k + 1) (X.A.deeper (envOfC x sg s.heap.objs.size g cdg)))
    (hbody : ∀ (E : XK) (A : Around) (outer : List PySem.Env) (s : Shared) (H : Hp), Room k (A.deeper (LamX.lamEnv X scope s.heap.objs.size f c')) → PE (LamX.lamCx X A outer s H E scope f c') body (t E))
    (hN : N[0]? = some a) (hv : Vis sg a) (hd : (a == ("__debug__" : Str)) = false) (hcd : (a == ("__classdict__" : Str)) = false) :
    PE ((cxG X.prog X.w X.K X.mg X.base N x sg g cdg X.A X.stack s H).tr pn xe) (.Call (.Name a p1) [] [] p2) (fun σZ HZ Q => σZ[0]? = some (some (.ref f)) ∧ HZ c' = some (LamX.CodeO c' (X.env.qual ++ "<lambda>")) ∧ t (WE W σZ) σ HZ Q) := by
  refine ⟨fun pinsZ sZ σZ HZ Q IZ ⟨at0, hco, red⟩ => ?_⟩
  refine wpAny_Call_Name_kw (thn ((pe_var (pos := p1) (i := 0) hN hv hd hcd).run pinsZ sZ σZ HZ (fun v H1 => v = .ref f ∧ H1 = HZ) IZ ⟨.ref f, at0, rfl, rfl⟩) fun u s1 ⟨v, H1, I1, r1, ev, eH⟩ => ?_)
  subst ev
  rw [eH] at I1
  obtain rfl : u = Value.ref f := r1
  have here : s1.heap.get? f = some (PySem.W.kla_obj "<lambda>" (X.env.qual ++ "<lambda>") params body scope (cloFrom X.env.cells scope.names []) pm c' ctv) := I1.base.keep f _ hf hfn hfr (fun z => nomatch (show f ∈ ([] : List Addr) from z))
  refine PySem.W.callWith_F0 ⟨_, _, _, _, here⟩ ?_
  obtain ⟨⟨oc, vs, tt, hoc, hdc, hvc⟩, _, _⟩ := I1.hok c' _ hco
  have runs : codeAny (model X.prog X.w) (X.A.deeper (envOfC x sg s.heap.objs.size g cdg)) (.call (.ref f) ⟨[], []⟩) (CR (L2.CX X.prog X.w) (envOfC x sg s.heap.objs.size g cdg :: X.stack) X.prog X.w HZ s1 Q (WE W σZ)) s1 := by
    refine PySem.W.kla_callFunE hr.depth here rfl L.co L.gen rfl ⟨c', oc, vs, tt, rfl, hoc, hdc, hvc⟩ ?_
    rw [hbind]
    refine wpAny_pure (wpAny_newFunctionEnv (fun y hy => (L.own y hy).2) (fun y hy => absurd hy (by simp)) (fun h₁ hns hsb => ⟨I1.nolimit.fresh _ hsb, ?_⟩) L.kind)
    have keeps : ∀ b o, s1.heap.get? b = some o → h₁.get? b = some o := fun b o e => hsb.extBut b o (Nat.ne_of_lt (Heap.lt_size e)) (Heap.get?_push_of_some _ e)
    have J := LamX.lam_start2 (E := WE W σZ) (tk := s1.toks + ([] : List (Str × Value)).length) (c' := c') (f := f) I L I1.env0 hr.hd I1.base hns keeps
    exact PySem.W.kla_codeExpr (wpAny_mono ((hbody (WE W σZ) _ _ s1 HZ (hr.deeper _)).run [] _ _ HZ Q J red) (fun v s' ⟨w', H', J', rv, q⟩ => ⟨w', H', J'.os, J'.bare, J'.base, J'.hok, rv, q⟩) fun _ _ z => z)
  refine wpAny_call (codeAny_mono runs fun r s' hq => ?_)
  cases r with
  | error e => exact passAt tk σZ pinsZ HZ s1 e s' I1 hq
  | ok fl =>
    cases fl with
    | ret u => exact I1.after hq
    | next => exact False.elim hq
    | brk => exact False.elim hq
    | cont => exact False.elim hq
end

/-- what a def is worth that calls what it got -/
structure LDef (P : Program) (w : World) (K : PySem.W.Frag) (mg : Str → Option Value) (base : Heap) (tabs : List (Addr × Str)) (x : Str) (n : Nat) (body : Nat → (Store → Out Fl.T) → Fl.FS) : Prop where
  ex : ∃ (g : Addr) (a : Str) (pg : Arguments) (bg : List Stmt) (sg : Scope) (dV kV doc pm cdv ct oc : Value) (an od : Option Addr) (osl : Array (Option Value)) (N : List Str), mg x = some (.ref g) ∧ PySem.W.keepIn K (.ref g) = true ∧
    K.lookup g = some ⟨oc, od, .func (PySem.W.fnOf x x pg bg sg dV kV doc pm an cdv ct), osl⟩ ∧ PySem.W.codeIn K cdv x = true ∧ L2.Binds K (PySem.W.fnOf x x pg bg sg dV kV doc pm an cdv ct) [a] [] ∧ FnScope N [a] sg ∧ N[0]? = some a ∧ Vis sg a ∧ N.length = n ∧ (a == ("__debug__" : Str)) = false ∧ (a == ("__classdict__" : Str)) = false ∧
    ∀ (z : Fx) (th : Store → Out Fl.T) (A : Around) (outer : List PySem.Env) (s : Shared) (H : Hp),
      (∀ (W : WX) (pn : List (Addr × Obj)) (xe : Value → Shared → Prop) (p1 p2 : Pos), Takes ((cxG P w K mg base N x sg g cdv A outer s H).tr pn xe) W →
        PE ((cxG P w K mg base N x sg g cdv A outer s H).tr pn xe) (.Call (.Name a p1) [] [] p2) (lift ⟨⟨tabs, some z⟩, mg, K⟩ W (fAsk z.n th))) →
      PSs (cxG P w K mg base N x sg g cdv A outer s H) bg (liftS ⟨⟨tabs, some z⟩, mg, K⟩ W0 (body z.n th))

def fLam (n : Nat) (body : Nat → (Store → Out Fl.T) → Fl.FS) (fb : Fl.FE) : Fl.FE := fun ρ S => match runDef 1 n (body S.length fun S' => fb ρ S') [.ref S.length] (S ++ [.fn]) with
  | .ok w S' => .ok w S'
  | _ => .bad
section
variable {B : Bd} {X : Cx} {W : WX} {pos : Pos}
theorem sqT_ext {K : PySem.W.Frag} {H H1 : Hp} (e : LamX.ExtN H H1) {a : Addr} {xs : List V} (h : SqT K H a xs) : SqT K H1 a xs := by
  rcases h with (h | ⟨u, h⟩) | h
  · exact .inl (.inl (e _ _ h (by intro ps z; cases z)))
  · exact .inl (.inr ⟨u, e _ _ h (by intro ps z; cases z)⟩)
  · exact .inr h
theorem later_ext {K : PySem.W.Frag} {ι : List Addr} {H H1 : Hp} {f : Addr} (e : LamX.ExtN H H1) : Later K ι H (ι ++ [f]) H1 :=
  ⟨fun _ _ h => sqT_ext e h, fun n a h => by rw [List.getElem?_append_left (List.getElem?_eq_some_iff.mp h).1]; exact h, fun a fs h => e _ _ h (by intro ps z; cases z), fun c q h => e _ _ h LamX.codeO_ne⟩
theorem srel_lam {K : PySem.W.Frag} {ι : List Addr} {H H1 : Hp} {S : Store} {f c' : Addr} {q : Str} (r : SRel B K ι H S) (e : LamX.ExtN H H1) (t : LamX.Tabs B.tabs H1) (hc : H1 c' = some (LamX.CodeO c' q)) : SRel ⟨B.tabs, some ⟨S.length, f, c', q, ι ++ [f], H1⟩⟩ K (ι ++ [f]) H1 (S ++ [.fn]) := by
  have l : Later K ι H (ι ++ [f]) H1 := later_ext e
  have old : ∀ (n : Nat) (xs : List Fl.T), (S ++ [Cell.fn])[n]? = some (.lst xs) → S[n]? = some (.lst xs) ∧ n < S.length := fun n xs h => by
    have h1 := (List.getElem?_eq_some_iff.mp h).1
    by_cases hn : n < S.length
    · rw [List.getElem?_append_left hn] at h
      exact ⟨h, hn⟩
    · have en : n = S.length := by simp at h1; omega
      subst en
      simp at h
  have back : ∀ (n : Nat) (a : Addr), n < S.length → (ι ++ [f])[n]? = some a → ι[n]? = some a := fun n a hn h => by
    rw [List.getElem?_append_left (by rw [r.len]; exact hn)] at h
    exact h
  refine ⟨by simp [r.len], fun n m a xs ys h1 h2 h3 h4 => ?_, fun n c h => ?_, t, fun z e => ?_⟩
  · obtain ⟨k1, k2⟩ := old n xs h1
    obtain ⟨k3, k4⟩ := old m ys h2
    exact r.inj n m a xs ys k1 k3 (back n a k2 h3) (back m a k4 h4)
  · by_cases hn : n < S.length
    · rw [List.getElem?_append_left hn] at h
      obtain ⟨a, h1, h2⟩ := r.cell n c h
      refine ⟨a, l.pre n a h1, ?_⟩
      cases c with
      | lst ws =>
        obtain ⟨vs, h3, h4⟩ := h2
        exact ⟨vs, e _ _ h3 (by intro ps z; cases z), h4.later l⟩
      | rol ws =>
        obtain ⟨vs, h3, h4⟩ := h2
        refine ⟨vs, ?_, h4.later l⟩
        rcases h3 with ⟨u, h3⟩ | h3
        · exact .inl ⟨u, e _ _ h3 (by intro ps z; cases z)⟩
        · exact .inr h3
      | fn => trivial
    · have h1 := (List.getElem?_eq_some_iff.mp h).1
      have en : n = S.length := by simp at h1; omega
      subst en
      simp at h
      subst h
      exact ⟨f, by rw [← r.len]; simp, trivial⟩
  · cases e
    exact ⟨by rw [← r.len]; simp, hc, Later.refl⟩
/-- back from the lambda's own to the maker's -/
theorem srel_back {K : PySem.W.Frag} {ι ι' : List Addr} {H H' : Hp} {S S' : Store} {fx : Option Fx} (r : SRel B K ι H S) (l : Later K ι H ι' H') (r' : SRel ⟨B.tabs, fx⟩ K ι' H' S') : SRel B K ι' H' S' :=
  ⟨r'.len, r'.inj, r'.cell, r'.tabs, fun z e => (r.fx z e).later l⟩
theorem e_lam {x : Str} {c P : Addr} {k n : Nat} {params : Arguments} {lbody : Expr} {scope : Scope} {p lpos : Pos} {body : Nat → (Store → Out Fl.T) → Fl.FS} {fb : Fl.FE} (D : LDef X.prog X.w X.K X.mg X.base B.tabs x n body) (hg : Gl X x)
    (TB : LamX.TabB X.base X.mg c P) (hcode : X.env.code = .ref c) (hmT : (P, X.env.qual ++ "<lambda>") ∈ B.tabs) (hu : ∀ q ∈ B.tabs, q.1 = P → q.2 = X.env.qual ++ "<lambda>") (hr : Room (k + 2) X.A) (L : LamX.LamS X.env.scope scope) (hdef : defaultsOf params X.env = ([], []))
    (hbind : ∀ (q : Str) (cl : List (Str × Addr)) (pm cv ctv : Value), bindArgs (PySem.W.kla_fn "<lambda>" q params lbody scope cl pm cv ctv) ⟨[], []⟩ = pure [])
    (hbody : ∀ (E : XK) (A : Around) (outer : List PySem.Env) (s : Shared) (H : Hp) (f c' : Addr), Room k (A.deeper (LamX.lamEnv X scope s.heap.objs.size f c')) → PE (LamX.lamCx X A outer s H E scope f c') lbody (lift (gX B X) (fun cls d _ H' => E cls d H') fb))
    (hdb : (x == ("__debug__" : Str)) = false := by decide) : PE X (.Call (.Name x p) [.Lambda params lbody scope lpos] [] pos) (lift (gX B X) W (fLam n body fb)) := by
  obtain ⟨g, a, pg, bg, sg, dV, kV, doc, pm, cdv, ct, oc, an, od, osl, N, hm, hk, lk, hcg, hb, Sg, hN0, hva, hlen, hd, hcd, hG⟩ := D.ex
  refine ⟨fun pins s σ H Q I ⟨ι0, S0, ρ0, sr, er, pp⟩ => ?_⟩
  refine wpAny_Call_Name_kw (ld_glob I hg hm ?_ hdb)
  refine PySem.W.callWith_K (h₀ := X.base) I.ok.mod.kin hk ?_ (by rfl) (by rfl)
  show wpAny _ _ (spliced ((false, eval (.Lambda params lbody scope lpos) X.env) :: backTo pos (starEach [] X.env))) _ _ s
  refine Calls.spliced_cons (LamX.lam_make2 I TB hcode hmT hu sr.tabs hdef (L.has I.ok) fun f c' pm' ctv H1 s' I1 eN T1 hf hfn hfr hco => ?_)
  refine Calls.spliced_nil ⟨I1.kIn, ?_⟩
  have l1 : Later X.K ι0 H (ι0 ++ [f]) H1 := later_ext eN
  have s1 := srel_lam (f := f) sr eN T1 hco
  have runs : codeAny (model X.prog X.w) X.A (.call (.ref g) ⟨[.ref f], []⟩) (CR L2.CX0 X.stack X.prog X.w H1 s' Q L2.E0) s' := by
    refine LamX.run_ofS (N := N) (ps := [a]) (us := [.ref f]) (vs := [.ref f]) lk hcg Sg hr I1.env0 (hb s' [.ref f] I1.kIn rfl) (.cons rfl .nil) rfl fun hr' => ?_
    refine ⟨_, (hG ⟨S0.length, f, c', X.env.qual ++ "<lambda>", ι0 ++ [f], H1⟩ (fun S' => fb ρ0 S') X.A X.stack s' H1 fun W' pn xe p1 p2 tk => ?_).nox, ?_⟩
    · refine PE.imp (pe_ask (t := fun E => lift (gX B X) (fun cls d _ H' => E cls d H') fb) (k := k) I1 L hf hfn hfr (hbind _ _ _ _ _) tk hr' (fun E A outer s H hr2 => hbody E A outer s H f c' hr2) hN0 hva hd hcd) fun σZ HZ QZ ⟨ι2, S2, ρ2, s2, e2, p2⟩ => ?_
      obtain ⟨z1, z2, z3⟩ := s2.fx _ rfl
      unfold fAsk at p2
      split at p2
      · rename_i m hm2
        by_cases hmn : m = S0.length
        · rw [if_pos hmn] at p2
          obtain ⟨v, v1, v2⟩ := e2.2 0 _ hm2
          cases v2 with
          | @ref _ a2 ha2 =>
            rw [hmn] at ha2
            have ef : a2 = f := Option.some.inj (ha2.symm.trans z1)
            subst ef
            have lz := l1.trans z3
            refine ⟨v1, z2, ι2, S2, ρ0, srel_back sr lz s2, er.later lz, ?_⟩
            have p2 : Post ⟨⟨B.tabs, some ⟨S0.length, a2, c', X.env.qual ++ "<lambda>", ι0 ++ [a2], H1⟩⟩, X.mg, X.K⟩ W' σZ ι2 HZ (fb ρ0 S2) QZ := p2
            show Post (gX B X) _ σ ι2 HZ (fb ρ0 S2) QZ
            cases eb : fb ρ0 S2 with
            | ok w S3 => rw [eb] at p2; exact fun v H' ι' l s r => p2 v H' ι' l (srel_back s2 l s) r
            | exc x S3 => rw [eb] at p2; exact fun c d H' ι' l s r => p2 c d H' ι' l (srel_back s2 l s) r
            | bad => rw [eb] at p2; exact p2.elim
        · rw [if_neg hmn] at p2
          exact p2.elim
      · exact p2.elim
    · refine ⟨ι0 ++ [f], S0 ++ [.fn], startE N.length [.ref S0.length], s1, start_rel (.cons (.ref (by rw [← sr.len]; simp)) .nil), ?_⟩
      unfold fLam runDef at pp
      rw [if_pos (show ([Fl.T.ref (List.length S0)] : List Fl.T).length = 1 from rfl), ← hlen] at pp
      cases eb : body S0.length (fun S' => fb ρ0 S') (startE N.length [.ref S0.length]) (S0 ++ [.fn]) with
      | nx ρ S2 => rw [eb] at pp; exact fun σ' H' ι' l s' _ => pp .non H' ι' (l1.trans l) (srel_back sr (l1.trans l) s') Rep.non
      | rt w S2 => rw [eb] at pp; exact fun v H' ι' l s' r => pp v H' ι' (l1.trans l) (srel_back sr (l1.trans l) s') r
      | bk ρ S2 => rw [eb] at pp; exact pp.elim
      | ct ρ S2 => rw [eb] at pp; exact pp.elim
      | exc x ρ S2 => rw [eb] at pp; exact pp.elim
      | bad => rw [eb] at pp; exact pp.elim
  refine wpAny_call (codeAny_mono runs fun r s2 hq => ?_)
  cases r with
  | error e => exact (show False from hq).elim
  | ok fl =>
    cases fl with
    | ret u => exact I1.after hq
    | next => exact False.elim hq
    | brk => exact False.elim hq
    | cont => exact False.elim hq
end
end Fl

set_option Elab.async false
set_option linter.all false
set_option maxRecDepth 100000
set_option maxHeartbeats 4000000
/-! Fl9: the head's facts as the defs need them; a def's worth by its body, over them. -/
namespace Fl
open PySem PySem.Spec PyProof.Rows L2

/-- a def's lambdas' name -/
def lamQ (x : Str) : Str := (x ++ ".<locals>.") ++ "<lambda>"
structure HF (P : Program) (w : World) (K : PySem.W.Frag) (mg : Str → Option Value) (base : Heap) (fn : List He.DefD) (fr : List Str) (xcs : List (Str × Str)) (xs ys : List Str) (tf : List He.Defn) (cvs : List (Str × Fl.T)) : Prop where
  d : ∀ d ∈ fn, ∃ fd, FunD K d.name d.qual d.params d.body d.scope [] [] (He.fAd K d.at_) fd
  g : ∀ d ∈ fn, mg d.at_.1 = some (.ref (He.fAd K d.at_))
  fr : ∀ x ∈ fr, mg x = none
  xc : ∀ q ∈ xcs, ∃ C, XCls P K mg q.1 q.2 C
  xf : XFam K mg xs ys
  own : ∃ C, mg "OwnError" = some (.ref C)
  cv : ∀ q ∈ cvs, ∃ (v : V) (u : Value), mg q.1 = some u ∧ RelV v u ∧ ∀ (H : Hp) (ι : List Addr), Rep K H ι v q.2
  fc : ∀ C : Addr, (∃ x ∈ xs, mg x = some (.ref C)) → XfC K C
  tb : ∀ p ∈ tf, LamX.TabB base mg (He.cT K p).1 (He.cT K p).2
  nd : ∀ p ∈ tf, ∀ q ∈ tf, (He.cT K p).2 = (He.cT K q).2 → lamQ p.1 = lamQ q.1
def tabsOf (K : PySem.W.Frag) (tf : List He.Defn) : List (Addr × Str) := tf.map fun p => ((He.cT K p).2, lamQ p.1)
/-- what the defs' rules are over -/
abbrev gH (K : PySem.W.Frag) (mg : Str → Option Value) (tf : List He.Defn) : Gv := ⟨⟨tabsOf K tf, none⟩, mg, K⟩
section
variable {P : Program} {w : World} {K : PySem.W.Frag} {mg : Str → Option Value} {base : Heap} {fn : List He.DefD} {fr : List Str} {xcs : List (Str × Str)} {xs ys : List Str} {tf : List He.Defn} {cvs : List (Str × Fl.T)}
theorem HF.tab (hf : HF P w K mg base fn fr xcs xs ys tf cvs) {p : He.Defn} (hp : p ∈ tf) : ((He.cT K p).2, lamQ p.1) ∈ tabsOf K tf := List.mem_map.mpr ⟨p, hp, rfl⟩
theorem HF.one (hf : HF P w K mg base fn fr xcs xs ys tf cvs) {p : He.Defn} (hp : p ∈ tf) : ∀ q ∈ tabsOf K tf, q.1 = (He.cT K p).2 → q.2 = lamQ p.1 := fun q hq e => by
  obtain ⟨r, hr, rfl⟩ := List.mem_map.mp hq
  exact hf.nd r hr p hp e
theorem h_cls {X : Cx} {x : Str} {C : Addr} (hm : X.mg x = some (.ref C)) (hg : Gl X x := by rfl) (hd : (x == ("__debug__" : Str)) = false := by decide) : Names X x (.ref C) := ⟨hg, hd, .inl hm⟩
theorem zero_hf (hf : HF P w K mg base fn fr xcs xs ys tf cvs) {d : He.DefD} (hd : d ∈ fn) {ps : List Str} (k : Nat)
    (hb : ∀ (kV doc pm : Value) (an : Option Addr) (cdv ct : Value) (us : List Value), us.length = ps.length → bindArgs (PySem.W.fnOf d.name d.qual d.params d.body d.scope .none kV doc pm an cdv ct) ⟨us, []⟩ = pure (ps.zip us)) : Def P w (gH K mg tf) base k d.at_.1 ps [] (fun _ _ => .bad) := by
  obtain ⟨fd, F⟩ := hf.d d hd
  refine ⟨⟨_, fd, ⟨fun vs H Q E h => h.1, fun A outer s H args us vs Q E hr he hbd hv ⟨_, ι, S, ws, _, _, p⟩ => p.elim⟩, hf.g d hd, F.kp, F.bindsN hb, (fun q hq => by cases hq), ?_⟩, fun ws S h => rfl⟩
  obtain ⟨oc, od, dV, kV, doc, pm, an, cdv, ct, osl, rfl, lk, _⟩ := F.ex
  exact ⟨_, _, _, lk⟩
/-- a def by its body -/
theorem def_hf (hf : HF P w K mg base fn fr xcs xs ys tf cvs) {d : He.DefD} (hd : d ∈ fn) {N ps : List Str} {k : Nat} {kws : List (Nat × List Str)} {body : FS} (S : FnScope N ps d.scope)
    (hb : ∀ (kV doc pm : Value) (an : Option Addr) (cdv ct : Value) (us : List Value), us.length = ps.length → bindArgs (PySem.W.fnOf d.name d.qual d.params d.body d.scope .none kV doc pm an cdv ct) ⟨us, []⟩ = pure (ps.zip us))
    (hkb : ∀ q ∈ kws, ∀ (kV doc pm : Value) (an : Option Addr) (cdv ct : Value) (us ws : List Value), us.length = q.1 → ws.length = q.2.length →
      bindArgs (PySem.W.fnOf d.name d.qual d.params d.body d.scope .none kV doc pm an cdv ct) ⟨us, q.2.zip ws⟩ = pure (ps.zip (byKw ps q.2 us ws)) ∧ (byKw ps q.2 us ws).length = ps.length)
    (hbody : ∀ (f : Addr) (cdv : Value) (A : Around) (outer : List PySem.Env) (s : Shared) (H : Hp) (E : XK), cdv = .ref (He.cT K d.at_).1 → Room k (A.deeper (envOfC d.qual d.scope s.heap.objs.size f cdv)) →
      PSs (cxOf (L2.CX P w) P w K mg base N d.qual d.scope f cdv A outer s H E) d.body (liftS (gH K mg tf) (fun c d _ H' => E c d H') body)) : Def P w (gH K mg tf) base (k + 1) d.at_.1 ps kws (runDef ps.length N.length body) := by
  obtain ⟨fd, F⟩ := hf.d d hd
  have bN := F.bindsN hb
  obtain ⟨oc, od, dV, kV, doc, pm, an, cdv, ct, osl, rfl, lk, hcd, hD, hK⟩ := F.ex
  obtain ⟨c, rfl⟩ := He.codeIn_ref hcd
  have ec : (He.cT K d.at_).1 = c := He.codeOf_eq lk rfl
  have eD : dV = .none := by
    rcases hD with ⟨_, h⟩ | ⟨h, _⟩
    · exact h
    · exact absurd rfl h
  subst eD
  refine ⟨⟨_, _, fn_of lk hcd S (fun vs H Q E h => h.1) (fun A outer s H vs Q E hr ⟨hl, ι, S', ws, sr, rv, p⟩ => ⟨_, hbody _ _ A outer s H E (by rw [ec]) hr, ι, S', startE N.length ws, sr, start_rel rv, ?_⟩), hf.g d hd, F.kp, bN, (fun q hq s us ws h1 h2 => ?_), _, _, _, lk⟩, fun ws S h => by unfold runDef; rw [if_neg h]⟩
  · unfold runDef at p
    rw [if_pos (by rw [← rv.length]; exact hl)] at p
    cases e : body (startE N.length ws) S' with
    | nx ρ S2 => rw [e] at p; exact fun σ' H' ι' l s' _ => p .non H' ι' l s' Rep.non
    | rt w S2 => rw [e] at p; exact p
    | bk ρ S2 => rw [e] at p; exact p.elim
    | ct ρ S2 => rw [e] at p; exact p.elim
    | exc x ρ S2 => rw [e] at p; exact fun c d σ' H' ι' l s' _ xr => p c d H' ι' l s' xr
    | bad => rw [e] at p; exact p.elim
  · obtain ⟨b1, b2⟩ := hkb q hq kV doc pm an (.ref c) ct us ws h1 h2
    exact ⟨.of_eq b1, b2⟩
/-- a def that calls its lambda argument -/
theorem ldef_hf (hf : HF P w K mg base fn fr xcs xs ys tf cvs) {d : He.DefD} (hd : d ∈ fn) {N : List Str} {a : Str} {n : Nat} {body : Nat → (Store → Out Fl.T) → Fl.FS} (S : FnScope N [a] d.scope) (e1 : d.name = d.at_.1) (e2 : d.qual = d.at_.1)
    (hb : ∀ (kV doc pm : Value) (an : Option Addr) (cdv ct : Value) (us : List Value), us.length = 1 → bindArgs (PySem.W.fnOf d.name d.qual d.params d.body d.scope .none kV doc pm an cdv ct) ⟨us, []⟩ = pure ([a].zip us))
    (h0 : N[0]? = some a) (hv : Vis d.scope a) (hn : N.length = n) (hd1 : (a == ("__debug__" : Str)) = false) (hd2 : (a == ("__classdict__" : Str)) = false)
    (hG : ∀ (g : Addr) (cdv : Value) (z : Fx) (th : Store → Out Fl.T) (A : Around) (outer : List PySem.Env) (s : Shared) (H : Hp),
      (∀ (W : WX) (pn : List (Addr × Obj)) (xe : Value → Shared → Prop) (p1 p2 : Pos), Takes ((cxG P w K mg base N d.qual d.scope g cdv A outer s H).tr pn xe) W →
        PE ((cxG P w K mg base N d.qual d.scope g cdv A outer s H).tr pn xe) (.Call (.Name a p1) [] [] p2) (lift ⟨⟨tabsOf K tf, some z⟩, mg, K⟩ W (fAsk z.n th))) →
      PSs (cxG P w K mg base N d.qual d.scope g cdv A outer s H) d.body (liftS ⟨⟨tabsOf K tf, some z⟩, mg, K⟩ W0 (body z.n th))) : LDef P w K mg base (tabsOf K tf) d.at_.1 n body := by
  obtain ⟨fd, F⟩ := hf.d d hd
  have bN := F.bindsN (ps := [a]) hb
  obtain ⟨oc, od, dV, kV, doc, pm, an, cdv, ct, osl, rfl, lk, hcd, hD, hK⟩ := F.ex
  have hmg := hf.g d hd
  have hkp := F.kp
  rw [e1] at lk bN
  rw [e2] at lk hcd bN
  rw [e2] at hG
  exact ⟨⟨_, a, d.params, d.body, d.scope, dV, kV, doc, pm, cdv, ct, oc, an, od, osl, N, hmg, hkp, lk, hcd, bN, S, h0, hv, hn, hd1, hd2, fun z th A outer s H hq => hG _ cdv z th A outer s H hq⟩⟩
end
end Fl

set_option Elab.async false
set_option linter.all false
set_option maxRecDepth 100000
set_option maxHeartbeats 4000000
/-! Fl10: the own error classes read off the heap that the head leaves; the Hook; what it says. -/
namespace Fl
open PySem PySem.Spec PyProof.Rows L2 PySem.W

/-! ### an __init__ as xiB has it -/
def xiBody (fld : Str) : FuncBody → Bool
  | .stmts [.Expr (.Call (.Attribute (.Call (.Name n1 _) [] [] _) n2 p2) [.Constant (.str _) _ _] [] p4) _, .Assign [.Attribute (.Name n3 _) n4 _] (.Name n5 _) _] =>
    decide (n1 = "super") && decide (n2 = "__init__") && decide (n3 = "self") && decide (n4 = fld) && decide (n5 = fld) && (p2.endLine == p4.line)
  | _ => false
theorem xiBody_ok {fld : Str} {b : FuncBody} (h : xiBody fld b = true) : ∃ msg j p0 p1 p2 p3 p4 p5 q0 q1 q2 q3, b = .stmts (xiB fld msg j p0 p1 p2 p3 p4 p5 q0 q1 q2 q3) ∧ (p2.endLine == p4.line) = true := by
  unfold xiBody at h
  split at h
  · rename_i n1 p0 p1 n2 p2 msg j p3 p4 p5 n3 q0 n4 q1 n5 q2 q3
    simp only [Bool.and_eq_true, decide_eq_true_eq] at h
    obtain ⟨⟨⟨⟨⟨rfl, rfl⟩, rfl⟩, rfl⟩, rfl⟩, hl⟩ := h
    exact ⟨_, _, _, _, _, _, _, _, _, _, _, _, rfl, hl⟩
  · cases h
def xiArgs (fld : Str) : Arguments → Bool
  | ⟨[], [⟨a, none, _⟩, ⟨b, none, _⟩], none, [], [], none, []⟩ => decide (a = "self") && decide (b = fld)
  | _ => false
theorem xiArgs_ok {fld : Str} {a : Arguments} (h : xiArgs fld a = true) : ∃ p q, a = xiA fld p q := by
  unfold xiArgs at h
  split at h
  · simp only [Bool.and_eq_true, decide_eq_true_eq] at h
    obtain ⟨rfl, rfl⟩ := h
    exact ⟨_, _, rfl⟩
  · cases h
def flds : List Str := ["at", "value"]
def xiFn (K : Frag) (file : Str) (C : Addr) (fld : Str) : FuncData → Bool
  | ⟨name, qual, params, body, scope, gl, cl, dfl, _, _, _, _, code, _, bl⟩ => decide (name = "__init__") && xiArgs fld params && xiBody fld body && decide (scope = xiS fld) && decide (gl = mainGlobals) && decide (bl = builtinsNs) && codeIn K code qual &&
    (match code with
      | .ref cda => (match K.lookup cda with
        | some ⟨_, _, .fields vs, _⟩ => (match (vs[2]? : Option Value) with
          | some (Value.str f _) => file == f
          | _ => false)
        | _ => false)
      | _ => false) &&
    (match cl with
      | [(x, cc)] => decide (x = "__class__") && (match K.lookup cc with
        | some ⟨_, _, .cell (some (.ref D)), _⟩ => decide (D = C)
        | _ => false)
      | _ => false) &&
    (match dfl with | .none => true | _ => false)
def xiAt (K : Frag) (file : Str) (C : Addr) (fld : Str) : Bool := match findIn K (.ref C) "__init__" with
  | some (some (.ref fI)) => decide (typeIn K (.ref fI) = some (.type "function")) && (match K.lookup fI with
    | some ⟨_, _, .func fd, _⟩ => xiFn K file C fld fd
    | _ => false)
  | _ => false
/-- the class's own object -/
def oxAt (K : Frag) (C : Addr) : Bool := match K.lookup C with
  | some ⟨.type t, _, .cls cd, sl⟩ => decide (t = "type") && (match cd.mro, sl.toList with
    | .ref C' :: bm, [_, _, _, _, some (.builtin n), _] => decide (C' = C) && decide (n = "ValueError.__new__") && !cd.hasDel && cd.hasDict && PySem.HandSPX.refsVE bm
    | _, _ => false)
  | _ => false
theorem oxAt_ok {K : Frag} {C : Addr} (h : oxAt K C = true) : ∃ nm q N bs bm sn sub ab col dd k0 k1 k2 k3 k5, K.lookup C = some (excClassObj nm q C N bs bm true sn sub ab col dd k0 k1 k2 k3 k5 "ValueError.__new__") ∧ PySem.HandSPX.refsVE bm = true := by
  unfold oxAt at h
  split at h
  · rename_i t dd cd sl ho
    simp only [Bool.and_eq_true, decide_eq_true_eq] at h
    obtain ⟨rfl, h⟩ := h
    split at h
    · rename_i C' bm k0 k1 k2 k3 n k5 hm hs
      simp only [Bool.and_eq_true, decide_eq_true_eq, Bool.not_eq_true'] at h
      obtain ⟨⟨⟨⟨rfl, rfl⟩, hdel⟩, hdict⟩, hre⟩ := h
      obtain ⟨nm, bs, mro, ns, qn, hd, sn, sub, ab, col, del⟩ := cd
      dsimp only at hm hdel hdict
      subst hm hdel hdict
      obtain ⟨l⟩ := sl
      dsimp only at hs
      subst hs
      exact ⟨nm, qn, ns, bs, bm, sn, sub, ab, col, dd, k0, k1, k2, k3, k5, ho, hre⟩
    · cases h
  · cases h
def xcB (P : Program) (K : Frag) (fld : Str) (C : Addr) : Bool :=
  oxAt K C && He.eqO (findIn K (.ref C) "__setattr__") (some (some (.builtin "object.__setattr__"))) && decide (subIn K (.ref C) (.type "BaseException") = some true) && decide (typeIn K (.ref C) = some (.type "type")) && keepIn K (.ref C) &&
  He.eqO (findIn K (.ref C) fld) (some none) && decide (mroIn K C (.ref C) = some true) && He.eqO (ks_superIn K C C "__init__") (some (some (.builtin "ValueError.__init__"))) && He.eqO (nsIn K cStatics "thirdparty.any") (some none) &&
  !(P.main.scope.names.lookup ("super" : Str)).isSome && decide (subIn K (.ref C) (.type "ValueError") = some true) && decide (fld ∈ flds) && xiAt K P.main.file C fld
theorem sup_eval {msg : Str} {j : Nat} {p0 p1 p2 p3 p4 : Pos} (hl : (p2.endLine == p4.line) = true) : ∃ pl : Sem Bool, ∀ env : PySem.Env, eval (.Call (.Attribute (.Call (.Name "super" p0) [] [] p1) "__init__" p2) [.Constant (.str msg) j p3] [] p4) env = (do
      let ov ← attributeBase (.Call (.Name "super" p0) [] [] p1) "__init__" env (eval (.Call (.Name "super" p0) [] [] p1) env)
      standAt p2.atName
      let (f, first) ← holding [ov] (getMethod ov "__init__" pl)
      callWith p4 f first (backTo p4 (starEach [.Constant (.str msg) j p3] env)) []) := by
  refine ⟨do return (← (pure (some false) : Sem (Option Bool))).getD true, fun env => ?_⟩
  have e : ∀ ov : Value, methodCall (.Call (.Name "super" p0) [] [] p1) "__init__" p2 p4 env ov 1 (backTo p4 (starEach [.Constant (.str msg) j p3] env)) [] = (do
      let (f, first) ← holding [ov] (getMethod ov "__init__" (L2.plainOf (.Call (.Name "super" p0) [] [] p1) env))
      callWith p4 f first (backTo p4 (starEach [.Constant (.str msg) j p3] env)) []) := fun ov => L2.mcall_line rfl hl
  show (do
      let ov ← attributeBase (.Call (.Name "super" p0) [] [] p1) "__init__" env (eval (.Call (.Name "super" p0) [] [] p1) env)
      standAt p2.atName
      methodCall (.Call (.Name "super" p0) [] [] p1) "__init__" p2 p4 env ov 1 (backTo p4 (starEach [.Constant (.str msg) j p3] env)) []) = _
  simp only [e]
  rfl
theorem xcB_ok {P : Program} {K : Frag} {mg : Str → Option Value} {cls fld : Str} {C : Addr} (hg : mg cls = some (.ref C)) (hs : mg "super" = none) (h : xcB P K fld C = true) : XCls P K mg cls fld C := by
  unfold xcB at h
  simp only [Bool.and_eq_true, Bool.not_eq_true'] at h
  obtain ⟨⟨⟨⟨⟨⟨⟨⟨⟨⟨⟨⟨h1, h2⟩, h3⟩, h4⟩, h5⟩, h6⟩, h7⟩, h8⟩, h9⟩, h10⟩, h11⟩, h12⟩, h13⟩ := h
  refine ⟨hg, ⟨oxAt_ok h1, He.eqO_ok h2, of_decide_eq_true h3, of_decide_eq_true h4, h5⟩, He.eqO_ok h6, of_decide_eq_true h7, He.eqO_ok h8, He.eqO_ok h9, hs, h10, of_decide_eq_true h11, ?_⟩
  unfold xiAt at h13
  split at h13
  · rename_i fI hf
    obtain ⟨t1, t2⟩ := He.ba h13
    split at t2
    · rename_i oc od fd osl lk
      obtain ⟨n1, n2, n3, n4, n5, n6, n7, n8, n9, n10, n11, n12, n13, n14, n15⟩ := fd
      unfold xiFn at t2
      simp only [Bool.and_eq_true, decide_eq_true_eq] at t2
      obtain ⟨⟨⟨⟨⟨⟨⟨⟨⟨rfl, u2⟩, u3⟩, rfl⟩, rfl⟩, rfl⟩, u7⟩, u8⟩, u9⟩, u10⟩ := t2
      have e8 : n8 = .none := by cases n8 with | none => rfl | _ => cases u10
      subst e8
      obtain ⟨p, q, rfl⟩ := xiArgs_ok u2
      obtain ⟨msg, j, p0, p1, p2, p3, p4, p5, q0, q1, q2, q3, rfl, hl⟩ := xiBody_ok u3
      split at u8
      · rename_i cda
        split at u8
        · rename_i ccl cdd vs ccs lc
          split at u8
          · rename_i file tf hv
            split at u9
            · rename_i x cc
              simp only [Bool.and_eq_true, decide_eq_true_eq] at u9
              obtain ⟨rfl, u9⟩ := u9
              split at u9
              · rename_i cl cld D csl lcc
                have eD : D = C := of_decide_eq_true u9
                subst eD
                refine ⟨fI, cc, cda, n2, msg, file, tf, j, p, q, p0, p1, p2, p3, p4, p5, q0, q1, q2, q3, .none, n9, n10, n11, n14, oc, ccl, cl, n12, od, cdd, cld, osl, ccs, csl, vs, hf, of_decide_eq_true t1, lk, u7, lc, hv, u8, lcc, sup_eval hl, ?_⟩
                have hm := of_decide_eq_true h12
                unfold flds at hm
                simp only [List.mem_cons, List.mem_nil_iff, or_false] at hm
                rcases hm with rfl | rfl
                · exact ⟨⟨rfl, rfl, rfl, rfl, rfl⟩, fun u w => rfl⟩
                · exact ⟨⟨rfl, rfl, rfl, rfl, rfl⟩, fun u w => rfl⟩
              · cases u9
            · cases u9
          · cases u8
        · cases u8
      · cases u8
    · cases t2
  · cases h13
/-! ### families of classes -/
def famB (K : Frag) (C : Addr) : Bool :=
  (clsIn K C).isSome && He.eqO (findIn K (.ref C) "__getattribute__") (some (some (.builtin "BaseException.__getattribute__"))) && He.eqO (findIn K (.ref C) "__getattr__") (some none) && decide (subIn K (.ref C) (.type "BaseException") = some true) &&
  He.eqO (findIn K (.ref C) "__class__") (some (some (.builtin "object.__class__"))) && He.eqO (specialIn K (.builtin "object.__class__") "__get__") (some (some (.builtin "getset_descriptor.__get__"))) && decide (takesIn K (.builtin "object.__class__") = some true) &&
  decide (mroIn K C (.type "object") = some true) && hasDictIn K C && decide (kitOne K (.ref C) (.type "ValueError") = some true)
def pairB (K : Frag) (x y : Str) : Bool := decide (kitOne K (.ref (He.ga K x)) (.ref (He.ga K y)) = some (subX x y)) && decide (exmOne K (.ref (He.ga K x)) (.ref (He.ga K y)) = some (subX x y))
/-! ### the Hook -/
/-- what is looked at: what the module's names reach, and the machine's own row of marks -/
def frC (g : Addr → Option Obj) (n : Nat) : Frag := He.frT g (cStatics :: He.asD g n)
/-- a value of the module as a tree -/
def relT (K : Frag) : Nat → Value → Fl.T → Bool
  | 0, _, _ => false
  | n + 1, u, w => match u, w with
    | .none, .non => true
    | .bool b, .bl c => decide (b = c)
    | .int i _, .int j => decide (i = j)
    | .str x _, .str y => decide (x = y)
    | .ref a, .tup ws => (match K.lookup a with
      | some ⟨.type c, _, .seq its _, _⟩ => decide (c = "tuple") && (decide (its.size ≤ sizeLine) && (decide (its.toList.length = ws.length) && (its.toList.zip ws).all fun p => relT K n p.1 p.2))
      | _ => false)
    | _, _ => false
def cvB (K : Frag) (x : Str) (w : Fl.T) : Bool := match nsIn K mainGlobals x with
  | some (some u) => relT K 4 u w
  | _ => false
theorem relTs_ok {K : Frag} {n : Nat} (ih : ∀ (u : Value) (w : Fl.T), relT K n u w = true → ∃ v, RelV v u ∧ ∀ (H : Hp) (ι : List Addr), Rep K H ι v w) : ∀ (us : List Value) (ws : List Fl.T), us.length = ws.length → (us.zip ws).all (fun p => relT K n p.1 p.2) = true → ∃ vs, Vals vs us ∧ ∀ (H : Hp) (ι : List Addr), Reps K H ι vs ws
  | [], [], _, _ => ⟨[], .nil, fun _ _ => .nil⟩
  | [], _ :: _, l, _ => by simp at l
  | _ :: _, [], l, _ => by simp at l
  | u :: us, w :: ws, l, h => by
    rw [List.zip_cons_cons, List.all_cons] at h
    obtain ⟨h1, h2⟩ := He.ba h
    obtain ⟨v, a1, a2⟩ := ih u w h1
    obtain ⟨vs, b1, b2⟩ := relTs_ok ih us ws (by simpa using l) h2
    exact ⟨v :: vs, .cons a1 b1, fun H ι => .cons (a2 H ι) (b2 H ι)⟩
theorem relT_ok {K : Frag} : ∀ (n : Nat) (u : Value) (w : Fl.T), relT K n u w = true → ∃ v, RelV v u ∧ ∀ (H : Hp) (ι : List Addr), Rep K H ι v w
  | 0, _, _, h => by cases h
  | n + 1, u, w, h => by
    unfold relT at h
    split at h
    · exact ⟨.non, rfl, fun _ _ => .non⟩
    · rename_i b c
      have e : b = c := of_decide_eq_true h
      subst e
      exact ⟨.bl b, rfl, fun _ _ => .bl b⟩
    · rename_i i t j
      have e : i = j := of_decide_eq_true h
      subst e
      exact ⟨.int i, ⟨t, rfl⟩, fun _ _ => .int i⟩
    · rename_i x t y
      have e : x = y := of_decide_eq_true h
      subst e
      exact ⟨.str x, ⟨t, rfl⟩, fun _ _ => .str x⟩
    · rename_i a ws
      split at h
      · rename_i c od its m sl lk
        simp only [Bool.and_eq_true, decide_eq_true_eq] at h
        obtain ⟨rfl, h2, h3, h4⟩ := h
        obtain ⟨vs, r1, r2⟩ := relTs_ok (relT_ok n) its.toList ws h3 h4
        exact ⟨.ref a, rfl, fun H ι => .tup (.inr ⟨_, its, m, lk, rfl, rfl, h2, r1⟩) (r2 H ι)⟩
      · cases h
    · cases h
def exB (P : Program) (fn : List He.DefD) (fr : List Str) (xcs : List (Str × Str)) (xs ys : List Str) (tf : List He.Defn) (cvs : List (Str × Fl.T)) (K : Frag) : Bool :=
  fn.all (fun d => d.ok K && (He.Fa.glo d.at_.1).ok K && (match d.at_.2 with | none => true | _ => false) && d.dfl.isEmpty && d.kwd.isEmpty) && fr.all (fun x => (He.Fa.free x).ok K) && (He.Fa.free "super").ok K && xcs.all (fun q => (He.Fa.glo q.1).ok K && xcB P K q.2 (He.ga K q.1)) &&
  (xs ++ ys).all (fun x => (He.Fa.glo x).ok K) && xs.all (fun x => famB K (He.ga K x) && xfB K (He.ga K x)) && xs.all (fun x => ys.all fun y => pairB K x y) && (He.Fa.glo "OwnError").ok K &&
  tf.all (fun p => codeHdIn K (He.cT K p).1 (He.cT K p).2) && tf.all (fun p => tf.all fun q => !decide ((He.cT K p).2 = (He.cT K q).2) || decide (lamQ p.1 = lamQ q.1)) && cvs.all (fun q => cvB K q.1 q.2)
abbrev AlF : Type := List He.FnW × Bool
def tabB (g : Addr → Option Obj) (tf : List He.Defn) (K : Frag) : Bool := tf.all fun p => match g (He.cT K p).2 with
  | some o => He.emptyTab o
  | none => false
def obF (n : Nat) (fn : List He.DefD) (tf : List He.Defn) (ex : Frag → Bool) (g : Addr → Option Obj) : AlF := ((fn.map fun d => He.fnW (frC g n) d.at_), ex (frC g n) && tabB g tf (frC g n))
structure SaysF (fn : List He.DefD) (tf : List He.Defn) (ex : Frag → Bool) (h : Heap) (K : Frag) : Prop where
  kn : K.In h
  eq : (fn.map fun d => He.fnW K d.at_) = fn.map He.DefD.val
  ok : ex K = true
  out : ∀ p ∈ tf, K.lookup (He.cT K p).2 = none
  emp : ∀ p ∈ tf, h.get? (He.cT K p).2 = some { cls := .none, data := .fields #[] }
theorem saysF_of {n : Nat} {fn : List He.DefD} {tf : List He.Defn} {ex : Frag → Bool} {h : Heap} (e : obF n fn tf ex h.get? = (fn.map He.DefD.val, true)) : SaysF fn tf ex h (frC h.get? n) := by
  have e1 : (fn.map fun d => He.fnW (frC h.get? n) d.at_) = fn.map He.DefD.val := congrArg (fun z : AlF => z.1) e
  have e2 : (ex (frC h.get? n) && tabB h.get? tf (frC h.get? n)) = true := congrArg (fun z : AlF => z.2) e
  obtain ⟨b1, b2⟩ := He.ba e2
  have key : ∀ p ∈ tf, ∃ o, h.get? (He.cT (frC h.get? n) p).2 = some o ∧ He.emptyTab o = true := fun p hp => by
    have z := List.all_eq_true.mp b2 p hp
    split at z
    · rename_i o ho
      exact ⟨o, ho, z⟩
    · cases z
  refine ⟨He.frT_in, e1, b1, fun p hp => ?_, fun p hp => ?_⟩
  · obtain ⟨o, ho, hz⟩ := key p hp
    exact He.frT_none ho hz
  · obtain ⟨o, ho, hz⟩ := key p hp
    rw [ho, He.emptyTab_eq hz]
def hookF (n : Nat) (fn : List He.DefD) (tf : List He.Defn) (ex : Frag → Bool) : Hook where
  α := AlF
  obs := fun s => obF n fn tf ex s.heap.get?
  val := fun _ => (fn.map He.DefD.val, true)
  says := fun _ h => ∃ K : Frag, SaysF fn tf ex h K
  of := fun _ _ e => ⟨_, saysF_of e⟩
  keeps := fun _ _ _ ⟨K, c⟩ k => ⟨K, ⟨Frag.In.keeps c.kn k, c.eq, c.ok, c.out, fun p hp => k _ _ (c.emp p hp)⟩⟩
theorem obF_eq {n : Nat} {fn : List He.DefD} {tf : List He.Defn} {ex : Frag → Bool} {g : Addr → Option Obj} {s : Shared} (h : ∀ a, g a = s.heap.get? a) : obF n fn tf ex g = (hookF n fn tf ex).obs s := congrArg (obF n fn tf ex) (funext h)
/-! ### what it says -/
theorem hf_of {P : Program} {w : World} {K : Frag} {h base : Heap} {mg : Str → Option Value} {fn : List He.DefD} {fr : List Str} {xcs : List (Str × Str)} {xs ys : List Str} {tf : List He.Defn} {cvs : List (Str × Fl.T)} (c : SaysF fn tf (exB P fn fr xcs xs ys tf cvs) h K) (G : h.Ns mainGlobals mg)
    (tb : ∀ p ∈ tf, LamX.TabB base mg (He.cT K p).1 (He.cT K p).2) : HF P w K mg base fn fr xcs xs ys tf cvs := by
  have o := c.ok
  unfold exB at o
  simp only [Bool.and_eq_true] at o
  obtain ⟨⟨⟨⟨⟨⟨⟨⟨⟨⟨o1, o2⟩, o3⟩, o4⟩, o5⟩, o6⟩, o7⟩, o8⟩, o9⟩, o10⟩, o11⟩ := o
  have glo : ∀ x, (He.Fa.glo x).ok K = true → mg x = some (.ref (He.ga K x)) := fun x hx => He.glo_ok c.kn G hx
  refine ⟨fun d hd => ?_, fun d hd => ?_, fun x hx => He.free_ok c.kn G (List.all_eq_true.mp o2 x hx), fun q hq => ?_, ⟨fun x hx C hC => ?_, fun x hx y hy C D hC hD => ?_⟩, ⟨_, glo _ o8⟩, fun q hq => ?_, fun C ⟨x, hx, hC⟩ => ?_, tb, fun p hp q hq e => ?_⟩
  · have d1 := List.all_eq_true.mp o1 d hd
    simp only [Bool.and_eq_true] at d1
    obtain ⟨⟨⟨⟨a1, a2⟩, a3⟩, a4⟩, a5⟩ := d1
    obtain ⟨i, hi⟩ := List.mem_iff_getElem?.mp hd
    have e2 : (fn.map fun d => He.fnW K d.at_)[i]? = (fn.map He.DefD.val)[i]? := by rw [c.eq]
    rw [List.getElem?_map, List.getElem?_map, hi] at e2
    obtain ⟨fd, F⟩ := He.DefD.funD (Option.some.inj e2) a1
    have z1 : d.dvs K = [] := by unfold He.DefD.dvs; rw [List.isEmpty_iff.mp a4]; rfl
    have z2 : d.kws K = [] := by unfold He.DefD.kws; rw [List.isEmpty_iff.mp a5]; rfl
    rw [z1, z2] at F
    exact ⟨fd, F⟩
  · have d1 := List.all_eq_true.mp o1 d hd
    simp only [Bool.and_eq_true] at d1
    obtain ⟨⟨⟨⟨a1, a2⟩, a3⟩, a4⟩, a5⟩ := d1
    have g1 := glo _ a2
    have e : He.fAd K d.at_ = He.ga K d.at_.1 := by
      cases q : d.at_.2 with
      | none => unfold He.fAd; rw [q]
      | some m => rw [q] at a3; cases a3
    rw [e]
    exact g1
  · obtain ⟨b1, b2⟩ := He.ba (List.all_eq_true.mp o4 q hq)
    exact ⟨_, xcB_ok (glo _ b1) (He.free_ok c.kn G o3) b2⟩
  · have gx := glo x (List.all_eq_true.mp o5 x (List.mem_append.mpr (.inl hx)))
    rw [gx] at hC
    cases hC
    have f1 := (He.ba (List.all_eq_true.mp o6 x hx)).1
    unfold famB at f1
    simp only [Bool.and_eq_true] at f1
    obtain ⟨⟨⟨⟨⟨⟨⟨⟨⟨f1, f2⟩, f3⟩, f4⟩, f5⟩, f6⟩, f7⟩, f8⟩, f9⟩, f10⟩ := f1
    exact ⟨f1, He.eqO_ok f2, He.eqO_ok f3, of_decide_eq_true f4, He.eqO_ok f5, He.eqO_ok f6, of_decide_eq_true f7, of_decide_eq_true f8, f9, of_decide_eq_true f10⟩
  · have gx := glo x (List.all_eq_true.mp o5 x (List.mem_append.mpr (.inl hx)))
    have gy := glo y (List.all_eq_true.mp o5 y (List.mem_append.mpr (.inr hy)))
    rw [gx] at hC
    rw [gy] at hD
    cases hC
    cases hD
    obtain ⟨p1, p2⟩ := He.ba (List.all_eq_true.mp (List.all_eq_true.mp o7 x hx) y hy)
    exact ⟨of_decide_eq_true p1, of_decide_eq_true p2⟩
  · have c1 := List.all_eq_true.mp o11 q hq
    unfold cvB at c1
    split at c1
    · rename_i u hu
      obtain ⟨v, r1, r2⟩ := relT_ok _ _ _ c1
      exact ⟨v, u, mg_of c.kn G hu, r1, r2⟩
    · cases c1
  · have gx := glo x (List.all_eq_true.mp o5 x (List.mem_append.mpr (.inl hx)))
    rw [gx] at hC
    cases hC
    exact xfB_ok (He.ba (List.all_eq_true.mp o6 x hx)).2
  · have z := List.all_eq_true.mp (List.all_eq_true.mp o10 p hp) q hq
    simp only [Bool.or_eq_true, Bool.not_eq_true', decide_eq_false_iff_not, decide_eq_true_eq] at z
    rcases z with z | z
    · exact absurd e z
    · exact z
theorem hd_of {P : Program} {K : Frag} {h : Heap} {fn : List He.DefD} {fr : List Str} {xcs : List (Str × Str)} {xs ys : List Str} {tf : List He.Defn} {cvs : List (Str × Fl.T)} (c : SaysF fn tf (exB P fn fr xcs xs ys tf cvs) h K) : ∀ p ∈ tf, CodeHd h (He.cT K p).1 (He.cT K p).2 := fun p hp => by
  have o := c.ok
  unfold exB at o
  simp only [Bool.and_eq_true] at o
  exact codeHd_of_K c.kn (List.all_eq_true.mp o.1.1.2 p hp)
/-! ### the end: the law's promise from its function -/
theorem law_at {l : OpenLaw} {w : World} {K : Frag} {h : Heap} {mg : Str → Option Value} {fa : Addr} {fn : List He.DefD} {fr : List Str} {xcs : List (Str × Str)} {xs ys : List Str} {tf : List He.Defn} {cvs : List (Str × Fl.T)} {d : He.DefD} {k : Nat} {G : GF} {kws : List (Nat × List Str)}
    (c : SaysF fn tf (exB l.prog fn fr xcs xs ys tf cvs) h K) (G0 : h.Ns mainGlobals mg) (hfa : mg "law" = some (.ref fa)) (hd : d ∈ fn) (hat : d.at_.1 = "law")
    (hb : ∀ (kV doc pm : Value) (an : Option Addr) (cdv ct : Value) (us : List Value), us.length = 1 → bindArgs (fnOf d.name d.qual d.params d.body d.scope .none kV doc pm an cdv ct) ⟨us, []⟩ = pure ([("script" : Str)].zip us))
    (D : ∀ base, HF l.prog w K mg base fn fr xcs xs ys tf cvs → Def l.prog w (gH K mg tf) base k "law" ["script"] kws G)
    (pl : ∀ (ns : List Int) (cell : Cell), ns.length ≤ 63 → (∀ z ∈ ns, Builtin.Int.intBits z ≤ 1048576) → (cell = .lst (ns.map Fl.T.int) ∨ cell = .rol (ns.map Fl.T.int)) → ∃ S', G [.ref 0] [cell] = .ok (.bl true) S') :
    LamX.LawAtS l w K (L2.CX l.prog w) k 63 "script" mg fa h := by
  have o := c.ok
  unfold exB at o
  simp only [Bool.and_eq_true] at o
  obtain ⟨⟨⟨⟨⟨⟨⟨⟨⟨⟨o1, o2⟩, o3⟩, o4⟩, o5⟩, o6⟩, o7⟩, o8⟩, o9⟩, o10⟩, o11⟩ := o
  have d1 := List.all_eq_true.mp o1 d hd
  simp only [Bool.and_eq_true] at d1
  obtain ⟨⟨⟨⟨a1, a2⟩, a3⟩, a4⟩, a5⟩ := d1
  obtain ⟨i, hi⟩ := List.mem_iff_getElem?.mp hd
  have e2 : (fn.map fun d => He.fnW K d.at_)[i]? = (fn.map He.DefD.val)[i]? := by rw [c.eq]
  rw [List.getElem?_map, List.getElem?_map, hi] at e2
  obtain ⟨fd, F⟩ := He.DefD.funD (Option.some.inj e2) a1
  have z1 : d.dvs K = [] := by unfold He.DefD.dvs; rw [List.isEmpty_iff.mp a4]; rfl
  have z2 : d.kws K = [] := by unfold He.DefD.kws; rw [List.isEmpty_iff.mp a5]; rfl
  rw [z1, z2] at F
  have eA : He.fAd K d.at_ = fa := by
    have e : He.fAd K d.at_ = He.ga K d.at_.1 := by
      cases q : d.at_.2 with
      | none => unfold He.fAd; rw [q]
      | some m => rw [q] at a3; cases a3
    rw [e, hat]
    have g1 := He.glo_ok c.kn G0 a2
    rw [hat, hfa] at g1
    exact (Value.ref.inj (Option.some.inj g1)).symm
  rw [eA] at F
  have bA := F.bindsA (ps := ["script"]) hb
  refine ⟨fd, tf.map (He.cT K), spG (gH K mg tf) 1 G, fun p hp => ?_, fun p hp => ?_, fun p hp => ?_, fun s u => bA s [u] rfl, fun H a ns hl hbits hT hS => ?_, fun base hK hN hTB => ?_⟩
  · obtain ⟨q, hq, rfl⟩ := List.mem_map.mp hp
    exact c.emp q hq
  · obtain ⟨q, hq, rfl⟩ := List.mem_map.mp hp
    exact c.out q hq
  · obtain ⟨q, hq, rfl⟩ := List.mem_map.mp hp
    exact hd_of c q hq
  · have rints : ∀ ns : List Int, Reps K H [a] (ns.map V.int) (ns.map Fl.T.int) := fun ns => by
      induction ns with
      | nil => exact .nil
      | cons n ns ih => exact .cons (.int n) ih
    have go : ∀ cell : Cell, (cell = .lst (ns.map Fl.T.int) ∨ cell = .rol (ns.map Fl.T.int)) → CRep K H [a] a cell → spG (gH K mg tf) 1 G [.ref a] H (fun v _ => v = .bl true) fun _ _ _ => False := fun cell hc hr => by
      obtain ⟨S', e⟩ := pl ns cell hl hbits hc
      refine ⟨rfl, [a], [cell], [.ref 0], ⟨rfl, fun n m b xs' ys' h1 h2 h3 h4 => ?_, fun n c' hn => ?_, fun p hp => ?_, fun z hz => by cases hz⟩, .cons (.ref rfl) .nil, ?_⟩
      · cases n with
        | zero => cases m with
          | zero => rfl
          | succ m => simp at h2
        | succ n => simp at h1
      · cases n with
        | zero =>
          have : cell = c' := by simpa using hn
          subst this
          exact ⟨a, rfl, hr⟩
        | succ n => simp at hn
      · obtain ⟨q, hq, rfl⟩ := List.mem_map.mp hp
        exact LamX.TabS.nil (hT _ (List.mem_map.mpr ⟨q, hq, rfl⟩))
      · rw [e]
        intro v H' ι' _ _ r
        have r : Rep K H' ι' v (.bl true) := r
        cases r
        rfl
    rcases hS with (h1 | ⟨u, h1⟩) | h1
    · exact go _ (.inl rfl) ⟨_, h1, rints ns⟩
    · exact go _ (.inr rfl) ⟨_, .inl ⟨u, h1⟩, rints ns⟩
    · exact go _ (.inr rfl) ⟨_, .inr h1, rints ns⟩
  · obtain ⟨⟨f, fd', FO, hm, _, _, _, oc, od, osl, lk⟩, _⟩ := D base (hf_of c G0 fun p hp => hTB _ (List.mem_map.mpr ⟨p, hp, rfl⟩))
    have hm : mg "law" = some (.ref f) := hm
    rw [hfa] at hm
    cases hm
    obtain ⟨oc2, od2, dV, kV, doc, pm, an, cdv, ct, osl2, efd, lk2, _⟩ := F.ex
    have lk : K.lookup fa = some ⟨oc, od, .func fd', osl⟩ := lk
    rw [lk] at lk2
    have e3 := congrArg Obj.data (Option.some.inj lk2)
    have e4 : fd' = fd := by
      have : Data.func fd' = Data.func fd := e3
      cases this
      rfl
    subst e4
    exact FO
end Fl

set_option Elab.async false
set_option linter.all false
set_option maxRecDepth 100000
set_option maxHeartbeats 1000000
/-! Fl11: the functions' own reckoning: helpers in plain Lean. -/
namespace Fl
open PySem

theorem atI_in {α : Type} (xs : List α) (k : Nat) (h : k < xs.length) : L2.atI xs (k : Int) = xs[k]? := by
  unfold L2.atI L2.ixN
  rw [if_pos (Int.natCast_nonneg k), if_pos (by omega)]
  simp
theorem at0 {α : Type} (x : α) (xs : List α) : L2.atI (x :: xs) 0 = some x := atI_in (x :: xs) 0 (by simp)
theorem at1 {α : Type} (x y : α) (xs : List α) : L2.atI (x :: y :: xs) 1 = some y := atI_in (x :: y :: xs) 1 (by simp)
theorem at2 {α : Type} (x y z : α) (xs : List α) : L2.atI (x :: y :: z :: xs) 2 = some z := atI_in (x :: y :: z :: xs) 2 (by simp)
theorem ixN0 {α : Type} (x : α) (xs : List α) : L2.ixN (x :: xs).length 0 = some 0 := by
  unfold L2.ixN
  rw [if_pos (by decide), if_pos (by simp only [List.length_cons]; omega)]
  rfl
theorem ixN1 {α : Type} (x y : α) (xs : List α) : L2.ixN (x :: y :: xs).length 1 = some 1 := by
  unfold L2.ixN
  rw [if_pos (by decide), if_pos (by simp only [List.length_cons]; omega)]
  rfl
theorem ixN20 : L2.ixN 2 0 = some 0 := rfl
theorem ixN21 : L2.ixN 2 1 = some 1 := rfl
theorem nLen_eq (S : Store) (a : T) : nLen [a] S = match lenG S a with
    | some n => some (.int (n : Int), S)
    | none => none := by
  cases h : lenG S a with
  | none => simp [nLen, h]
  | some n => simp [nLen, h]
theorem pow_of {i j r : Int} (S : Store) (h : 0 ≤ j ∧ j ≤ 1000000 ∧ i.natAbs < 2 ^ 64) (e : i ^ j.toNat = r) : oPow (.int i) (.int j) S = some (.int r, S) := by
  show (if 0 ≤ j ∧ j ≤ 1000000 ∧ i.natAbs < 2 ^ 64 then some (T.int (i ^ j.toNat), S) else none) = _
  rw [if_pos h, e]
theorem pw10_4 (S : Store) : oPow (.int 10) (.int 4) S = some (.int 10000, S) := pow_of S (by decide) (by decide)
theorem pw10_6 (S : Store) : oPow (.int 10) (.int 6) S = some (.int 1000000, S) := pow_of S (by decide) (by decide)
theorem pw10_9 (S : Store) : oPow (.int 10) (.int 9) S = some (.int 1000000000, S) := pow_of S (by decide) (by decide)
theorem pw10_12 (S : Store) : oPow (.int 10) (.int 12) S = some (.int 1000000000000, S) := pow_of S (by decide) (by decide)
theorem pw10_18 (S : Store) : oPow (.int 10) (.int 18) S = some (.int 1000000000000000000, S) := pow_of S (by decide) (by decide)
theorem pw10_20 (S : Store) : oPow (.int 10) (.int 20) S = some (.int 100000000000000000000, S) := pow_of S (by decide) (by decide)
theorem pw10_30 (S : Store) : oPow (.int 10) (.int 30) S = some (.int 1000000000000000000000000000000, S) := pow_of S (by decide) (by decide)
theorem pw10_40 (S : Store) : oPow (.int 10) (.int 40) S = some (.int 10000000000000000000000000000000000000000, S) := pow_of S (by decide) (by decide)
theorem pw2_32 (S : Store) : oPow (.int 2) (.int 32) S = some (.int 4294967296, S) := pow_of S (by decide) (by decide)
theorem pw2_63 (S : Store) : oPow (.int 2) (.int 63) S = some (.int 9223372036854775808, S) := pow_of S (by decide) (by decide)
theorem pw2_64 (S : Store) : oPow (.int 2) (.int 64) S = some (.int 18446744073709551616, S) := pow_of S (by decide) (by decide)
theorem log2_small {n k : Nat} (h : n < 2 ^ k) (hk : 0 < k) : n.log2 < k := by
  by_cases h0 : n = 0
  · subst h0
    simpa using hk
  · exact (Nat.log2_lt h0).mpr h
theorem mulOk_of {i j : Int} (hi : i.natAbs < 2 ^ 250) (hj : j.natAbs < 2 ^ 250) : mulOk i j = true := by
  unfold mulOk
  have h1 := log2_small hi (by decide)
  have h2 := log2_small hj (by decide)
  exact decide_eq_true (by omega)
theorem divOk_of {j : Int} (h0 : j ≠ 0) (hj : j.natAbs < 2 ^ 9000) : divOk j = true := by
  unfold divOk
  exact decide_eq_true ⟨h0, log2_small hj (by decide)⟩
theorem small_of {i : Int} {b : Nat} (k : Nat) (h : i.natAbs < b) (hb : b ≤ 2 ^ k) : i.natAbs < 2 ^ k := Nat.lt_of_lt_of_le h hb
/-- a part of the store is kept, but for the list at b -/
def Fr (b : Nat) (S S' : Store) : Prop := S.length ≤ S'.length ∧ ∀ n, n ≠ b → n < S.length → S'[n]? = S[n]?
theorem Fr.refl {b : Nat} {S : Store} : Fr b S S := ⟨Nat.le_refl _, fun _ _ _ => rfl⟩
theorem Fr.trans {b : Nat} {S S1 S2 : Store} (h : Fr b S S1) (k : Fr b S1 S2) : Fr b S S2 := ⟨Nat.le_trans h.1 k.1, fun n h1 h2 => (k.2 n h1 (Nat.lt_of_lt_of_le h2 h.1)).trans (h.2 n h1 h2)⟩
theorem Fr.set {b : Nat} {S : Store} {c : Cell} : Fr b S (S.set b c) := ⟨by simp, fun n h1 h2 => List.getElem?_set_ne (fun e => h1 e.symm)⟩
theorem Fr.push {b : Nat} {S : Store} {cs : List Cell} : Fr b S (S ++ cs) := ⟨by simp, fun n h1 h2 => List.getElem?_append_left h2⟩
theorem lt_of_get {S : Store} {b : Nat} {c : Cell} (h : S[b]? = some c) : b < S.length := (List.getElem?_eq_some_iff.mp h).1
theorem Fr.keep {b n : Nat} {S S' : Store} {c : Cell} (h : Fr b S S') (hn : n ≠ b) (e : S[n]? = some c) : S'[n]? = some c := (h.2 n hn (lt_of_get e)).trans e
/-- a walk over a row by an invariant -/
theorem forL_inv {chk : List (Nat × List T)} {g : FG} {f : FS} (I : Env → Store → Prop) (hc : ∀ ρ S, I ρ S → chkOk S chk = true) : ∀ (ws : List T) (ρ : Env) (S : Store), I ρ S →
    (∀ w ∈ ws, ∀ ρ S, I ρ S → ∃ ρ1 S1 ρ2 S2, g w ρ S = .ok ρ1 S1 ∧ f ρ1 S1 = .nx ρ2 S2 ∧ I ρ2 S2) → ∃ ρ' S', forL chk g f ws ρ S = .nx ρ' S' ∧ I ρ' S'
  | [], ρ, S, h, _ => ⟨ρ, S, by unfold forL; rw [if_pos (hc ρ S h)], h⟩
  | w :: ws, ρ, S, h, hs => by
    obtain ⟨ρ1, S1, ρ2, S2, e1, e2, h2⟩ := hs w List.mem_cons_self ρ S h
    obtain ⟨ρ', S', e3, h3⟩ := forL_inv I hc ws ρ2 S2 h2 fun x hx => hs x (List.mem_cons_of_mem _ hx)
    refine ⟨ρ', S', ?_, h3⟩
    unfold forL
    rw [if_pos (hc ρ S h), e1]
    show (match f ρ1 S1 with
      | .nx ρ2 S2 => forL chk g f ws ρ2 S2
      | .ct ρ2 S2 => forL chk g f ws ρ2 S2
      | .bk ρ2 S2 => .nx ρ2 S2
      | o => o) = _
    rw [e2]
    exact e3
theorem seq_nx {f h : FS} {ρ ρ1 : Env} {S S1 : Store} (e : f ρ S = .nx ρ1 S1) : sSeq f h ρ S = h ρ1 S1 := by
  unfold sSeq
  rw [e]
theorem seq_rt {f h : FS} {ρ : Env} {S S1 : Store} {w : T} (e : f ρ S = .rt w S1) : sSeq f h ρ S = .rt w S1 := by
  unfold sSeq
  rw [e]
theorem toOut_seq {f h : FS} {ρ ρ1 : Env} {S S1 : Store} {o : Out T} (e : f ρ S = .nx ρ1 S1) (k : (h ρ1 S1).toOut = o) : (sSeq f h ρ S).toOut = o := by
  rw [seq_nx e]
  exact k
theorem toOut_ret {f h : FS} {ρ : Env} {S S1 : Store} {w : T} (e : f ρ S = .rt w S1) : (sSeq f h ρ S).toOut = .ok w S1 := by
  rw [seq_rt e]
  rfl
theorem if_t {t : FT} {a b : FS} {ρ : Env} {S S1 : Store} (e : t ρ S = .ok true S1) : sIf t a b ρ S = a ρ S1 := by
  unfold sIf
  rw [e]
  rfl
theorem if_f {t : FT} {a b : FS} {ρ : Env} {S S1 : Store} (e : t ρ S = .ok false S1) : sIf t a b ρ S = b ρ S1 := by
  unfold sIf
  rw [e]
  rfl
theorem for_of {i : FI} {g : FG} {f : FS} {ρ ρ' : Env} {S S1 S' : Store} {ws : List T} {chk : List (Nat × List T)} (e : i ρ S = .ok ⟨ws, chk⟩ S1) (k : forL chk g f ws ρ S1 = .nx ρ' S') : sFor i g f ρ S = .nx ρ' S' := by
  unfold sFor
  rw [e]
  exact k
theorem T.beqs_refl : ∀ ws : List T, T.beqs ws ws = true := T.beqs_self
theorem chk_one {S : Store} {n : Nat} {ws : List T} (h : getL S n = some ws) : chkOk S [(n, ws)] = true := by
  unfold chkOk chkOk
  rw [h]
  simp [T.beqs_self]
theorem getL_lst {S : Store} {n : Nat} {ws : List T} (h : S[n]? = some (.lst ws)) : getL S n = some ws := by unfold getL; rw [h]
theorem getL_rol {S : Store} {n : Nat} {ws : List T} (h : S[n]? = some (.rol ws)) : getL S n = some ws := by unfold getL; rw [h]
theorem getL_end {S : Store} {ws : List T} : getL (S ++ [.lst ws]) S.length = some ws := getL_lst (by simp)
/-- a walk over a row by an invariant that counts -/
theorem forL_ix {chk : List (Nat × List T)} {g : FG} {f : FS} (I : Nat → Env → Store → Prop) (hc : ∀ i ρ S, I i ρ S → chkOk S chk = true) : ∀ (ws : List T) (k : Nat) (ρ : Env) (S : Store), I k ρ S →
    (∀ i w, ws[i]? = some w → ∀ ρ S, I (k + i) ρ S → ∃ ρ1 S1 ρ2 S2, g w ρ S = .ok ρ1 S1 ∧ f ρ1 S1 = .nx ρ2 S2 ∧ I (k + i + 1) ρ2 S2) → ∃ ρ' S', forL chk g f ws ρ S = .nx ρ' S' ∧ I (k + ws.length) ρ' S'
  | [], k, ρ, S, h, _ => ⟨ρ, S, by unfold forL; rw [if_pos (hc k ρ S h)], h⟩
  | w :: ws, k, ρ, S, h, hs => by
    obtain ⟨ρ1, S1, ρ2, S2, e1, e2, h2⟩ := hs 0 w rfl ρ S h
    obtain ⟨ρ', S', e3, h3⟩ := forL_ix I hc ws (k + 1) ρ2 S2 h2 fun i x hx ρ S hi => by
      have q := hs (i + 1) x (by simpa using hx) ρ S (by rw [show k + (i + 1) = k + 1 + i by omega]; exact hi)
      rw [show k + (i + 1) + 1 = k + 1 + i + 1 by omega] at q
      exact q
    refine ⟨ρ', S', ?_, by rw [show k + (w :: ws).length = k + 1 + ws.length by simp only [List.length_cons]; omega]; exact h3⟩
    unfold forL
    rw [if_pos (hc k ρ S h), e1]
    show (match f ρ1 S1 with
      | .nx ρ2 S2 => forL chk g f ws ρ2 S2
      | .ct ρ2 S2 => forL chk g f ws ρ2 S2
      | .bk ρ2 S2 => .nx ρ2 S2
      | o => o) = _
    rw [e2]
    exact e3
theorem forL_nx {chk : List (Nat × List T)} {g : FG} {f : FS} {w : T} {ws : List T} {ρ ρ1 ρ2 : Env} {S S1 S2 : Store} (hc : chkOk S chk = true) (e1 : g w ρ S = .ok ρ1 S1) (e2 : f ρ1 S1 = .nx ρ2 S2) : forL chk g f (w :: ws) ρ S = forL chk g f ws ρ2 S2 := by
  rw [forL, if_pos hc, e1]
  show (match f ρ1 S1 with
    | .nx ρ2 S2 => forL chk g f ws ρ2 S2
    | .ct ρ2 S2 => forL chk g f ws ρ2 S2
    | .bk ρ2 S2 => .nx ρ2 S2
    | o => o) = _
  rw [e2]
theorem forL_bk {chk : List (Nat × List T)} {g : FG} {f : FS} {w : T} {ws : List T} {ρ ρ1 ρ2 : Env} {S S1 S2 : Store} (hc : chkOk S chk = true) (e1 : g w ρ S = .ok ρ1 S1) (e2 : f ρ1 S1 = .bk ρ2 S2) : forL chk g f (w :: ws) ρ S = .nx ρ2 S2 := by
  rw [forL, if_pos hc, e1]
  show (match f ρ1 S1 with
    | .nx ρ2 S2 => forL chk g f ws ρ2 S2
    | .ct ρ2 S2 => forL chk g f ws ρ2 S2
    | .bk ρ2 S2 => .nx ρ2 S2
    | o => o) = _
  rw [e2]
theorem forL_rt {chk : List (Nat × List T)} {g : FG} {f : FS} {w : T} {ws : List T} {ρ ρ1 : Env} {S S1 S2 : Store} {v : T} (hc : chkOk S chk = true) (e1 : g w ρ S = .ok ρ1 S1) (e2 : f ρ1 S1 = .rt v S2) : forL chk g f (w :: ws) ρ S = .rt v S2 := by
  rw [forL, if_pos hc, e1]
  show (match f ρ1 S1 with
    | .nx ρ2 S2 => forL chk g f ws ρ2 S2
    | .ct ρ2 S2 => forL chk g f ws ρ2 S2
    | .bk ρ2 S2 => .nx ρ2 S2
    | o => o) = _
  rw [e2]
theorem while_go {t : FT} {f : FS} {n : Nat} {ρ ρ2 : Env} {S S1 S2 : Store} (e1 : t ρ S = .ok true S1) (e2 : f ρ S1 = .nx ρ2 S2) : whileN t f (n + 1) ρ S = whileN t f n ρ2 S2 := by
  rw [whileN, e1]
  show (if true = true then (match f ρ S1 with
      | .nx ρ2 S2 => whileN t f n ρ2 S2
      | .ct ρ2 S2 => whileN t f n ρ2 S2
      | .bk ρ2 S2 => .nx ρ2 S2
      | o => o)
    else .nx ρ S1) = _
  rw [if_pos rfl, e2]
theorem while_end {t : FT} {f : FS} {n : Nat} {ρ : Env} {S S1 : Store} (e1 : t ρ S = .ok false S1) : whileN t f (n + 1) ρ S = .nx ρ S1 := by
  rw [whileN, e1]
  show (if false = true then (match f ρ S1 with
      | .nx ρ2 S2 => whileN t f n ρ2 S2
      | .ct ρ2 S2 => whileN t f n ρ2 S2
      | .bk ρ2 S2 => .nx ρ2 S2
      | o => o)
    else .nx ρ S1) = _
  rw [if_neg (by decide)]
/-- two turns of Euclid's way halve what is divided by -/
theorem euclid_half {a b k : Nat} (hb : 0 < b) (hr : 0 < a % b) (h : b < 2 ^ (k + 1)) : b % (a % b) < 2 ^ k := by
  have h1 : a % b < b := Nat.mod_lt _ hb
  have h2 : b % (a % b) < a % b := Nat.mod_lt _ hr
  have h3 : b % (a % b) + (a % b) ≤ b := by
    have q := Nat.div_add_mod b (a % b)
    have q2 : 1 ≤ b / (a % b) := (Nat.one_le_div_iff hr).mpr (Nat.le_of_lt h1)
    have q3 : a % b * 1 ≤ a % b * (b / (a % b)) := Nat.mul_le_mul_left _ q2
    omega
  have h4 : 2 ^ (k + 1) = 2 * 2 ^ k := by rw [Nat.pow_succ]; omega
  omega
theorem gcd_step {a b : Nat} : Nat.gcd b (a % b) = Nat.gcd a b := by
  rw [Nat.gcd_comm b (a % b), ← Nat.gcd_rec, Nat.gcd_comm]
theorem isi_NoneType_bool : isiB "NoneType" "bool" = false := by decide
theorem isi_NoneType_int : isiB "NoneType" "int" = false := by decide
theorem isi_NoneType_str : isiB "NoneType" "str" = false := by decide
theorem isi_NoneType_tuple : isiB "NoneType" "tuple" = false := by decide
theorem isi_NoneType_list : isiB "NoneType" "list" = false := by decide
theorem isi_bool_bool : isiB "bool" "bool" = true := by decide
theorem isi_bool_int : isiB "bool" "int" = true := by decide
theorem isi_bool_str : isiB "bool" "str" = false := by decide
theorem isi_bool_tuple : isiB "bool" "tuple" = false := by decide
theorem isi_bool_list : isiB "bool" "list" = false := by decide
theorem isi_int_bool : isiB "int" "bool" = false := by decide
theorem isi_int_int : isiB "int" "int" = true := by decide
theorem isi_int_str : isiB "int" "str" = false := by decide
theorem isi_int_tuple : isiB "int" "tuple" = false := by decide
theorem isi_int_list : isiB "int" "list" = false := by decide
theorem isi_str_bool : isiB "str" "bool" = false := by decide
theorem isi_str_int : isiB "str" "int" = false := by decide
theorem isi_str_str : isiB "str" "str" = true := by decide
theorem isi_str_tuple : isiB "str" "tuple" = false := by decide
theorem isi_str_list : isiB "str" "list" = false := by decide
theorem isi_tuple_bool : isiB "tuple" "bool" = false := by decide
theorem isi_tuple_int : isiB "tuple" "int" = false := by decide
theorem isi_tuple_str : isiB "tuple" "str" = false := by decide
theorem isi_tuple_tuple : isiB "tuple" "tuple" = true := by decide
theorem isi_tuple_list : isiB "tuple" "list" = false := by decide
theorem isi_list_bool : isiB "list" "bool" = false := by decide
theorem isi_list_int : isiB "list" "int" = false := by decide
theorem isi_list_str : isiB "list" "str" = false := by decide
theorem isi_list_tuple : isiB "list" "tuple" = false := by decide
theorem isi_list_list : isiB "list" "list" = true := by decide
/-- a value all of whose lists stand in the store, nested less than n deep -/
def Okv (S : Store) : Nat → T → Prop
  | 0, _ => False
  | n + 1, .tup xs => ∀ x ∈ xs, Okv S n x
  | n + 1, .ref r => ∃ xs, getL S r = some xs ∧ ∀ x ∈ xs, Okv S n x
  | _ + 1, _ => True
theorem Okv.mono {S : Store} : ∀ {n m : Nat} {v : T}, Okv S n v → n ≤ m → Okv S m v
  | 0, _, _, h, _ => h.elim
  | n + 1, 0, _, _, h => by omega
  | n + 1, m + 1, .tup xs, h, l => fun x hx => Okv.mono (h x hx) (by omega)
  | n + 1, m + 1, .ref r, ⟨xs, e, h⟩, l => ⟨xs, e, fun x hx => Okv.mono (h x hx) (by omega)⟩
  | n + 1, m + 1, .non, h, l => trivial
  | n + 1, m + 1, .bl _, h, l => trivial
  | n + 1, m + 1, .int _, h, l => trivial
  | n + 1, m + 1, .str _, h, l => trivial
theorem Okv.keep {S S' : Store} (k : ∀ r xs, getL S r = some xs → getL S' r = some xs) : ∀ {n : Nat} {v : T}, Okv S n v → Okv S' n v
  | 0, _, h => h.elim
  | n + 1, .tup xs, h => fun x hx => Okv.keep k (h x hx)
  | n + 1, .ref r, ⟨xs, e, h⟩ => ⟨xs, k _ _ e, fun x hx => Okv.keep k (h x hx)⟩
  | n + 1, .non, h => trivial
  | n + 1, .bl _, h => trivial
  | n + 1, .int _, h => trivial
  | n + 1, .str _, h => trivial
theorem getL_push {S : Store} {cs : List Cell} : ∀ r xs, getL S r = some xs → getL (S ++ cs) r = some xs := fun r xs h => by
  unfold getL at h ⊢
  cases e : S[r]? with
  | none => rw [e] at h; cases h
  | some c => rw [List.getElem?_append_left (lt_of_get e), e]; rw [e] at h; exact h
theorem getL_fr {b : Nat} {S S' : Store} (f : Fr b S S') {r : Nat} {xs : List T} (hr : r ≠ b) (h : getL S r = some xs) : getL S' r = some xs := by
  unfold getL at h ⊢
  cases e : S[r]? with
  | none => rw [e] at h; cases h
  | some c => rw [f.keep hr e]; rw [e] at h; exact h
theorem Okv.push {S : Store} {cs : List Cell} {n : Nat} {v : T} (h : Okv S n v) : Okv (S ++ cs) n v := h.keep getL_push
theorem rng1_of {i : Int} (h : -(2 ^ 62) ≤ i ∧ i < 2 ^ 62) : rng1 [.int i] = some ⟨rngT 0 i.toNat, []⟩ := by
  show (if rOk i = true then some (⟨rngT 0 i.toNat, []⟩ : Its) else none) = _
  have k : rOk i = true := decide_eq_true h
  rw [if_pos k]
theorem rngT_at {n i : Nat} {w : T} (h : (rngT 0 n)[i]? = some w) : i < n ∧ w = .int (i : Int) := by
  unfold rngT at h
  rw [List.getElem?_map] at h
  by_cases hi : i < n
  · rw [List.getElem?_range hi] at h
    simp at h
    exact ⟨hi, h.symm⟩
  · rw [List.getElem?_eq_none (by simpa using hi)] at h
    cases h
theorem fdiv_mul {t p : Int} (hp : 0 < p) : ∃ r, 0 ≤ r ∧ r < p ∧ t.fdiv p * p = t - r := by
  refine ⟨t % p, Int.emod_nonneg _ (by omega), Int.emod_lt_of_pos _ hp, ?_⟩
  rw [Int.fdiv_eq_ediv_of_nonneg _ (Int.le_of_lt hp)]
  have := Int.mul_ediv_add_emod t p
  rw [Int.mul_comm]
  omega
theorem fdiv_le {t p : Int} (hp : 0 < p) : (t.fdiv p).natAbs ≤ t.natAbs + p.natAbs ∧ (t.fdiv p * p).natAbs ≤ t.natAbs + p.natAbs := by
  obtain ⟨r, h0, h1, e⟩ := fdiv_mul (t := t) hp
  have k : (t.fdiv p * p).natAbs ≤ t.natAbs + p.natAbs := by rw [e]; omega
  refine ⟨Nat.le_trans ?_ k, k⟩
  rw [Int.natAbs_mul]
  exact Nat.le_mul_of_pos_right _ (by omega)
/-! ### steps, one by one -/
theorem s_aCons {f : FE} {h : FA} {ρ : Env} {S S1 S2 : Store} {a : T} {as : List T} (e1 : f ρ S = .ok a S1) (e2 : h ρ S1 = .ok as S2) : aCons f h ρ S = .ok (a :: as) S2 := by
  unfold aCons
  rw [e1]
  show (h ρ S1).bind _ = _
  rw [e2]
  rfl
theorem s_aNil {ρ : Env} {S : Store} : aNil ρ S = .ok [] S := rfl
theorem s_fNat {o : ON} {f : FA} {ρ : Env} {S S1 S2 : Store} {as : List T} {w : T} (e1 : f ρ S = .ok as S1) (e2 : o as S1 = some (w, S2)) : fNat o f ρ S = .ok w S2 := by
  unfold fNat
  rw [e1]
  show Out.of (o as S1) = _
  rw [e2]
  rfl
theorem s_fVar {i : Nat} {ρ : Env} {S : Store} {w : T} (h : ρ[i]? = some (some w)) : fVar i ρ S = .ok w S := by
  unfold fVar
  rw [h]
theorem s_rng1 {f : FA} {ρ : Env} {S S1 : Store} {as : List T} {it : Its} (e1 : f ρ S = .ok as S1) (e2 : rng1 as = some it) : fiRng1 f ρ S = .ok it S1 := by
  unfold fiRng1
  rw [e1]
  show outI (rng1 as) S1 = _
  rw [e2]
  rfl
theorem s_len {f : FA} {ρ : Env} {S S1 : Store} {a : T} {n : Nat} (e1 : f ρ S = .ok [a] S1) (e2 : lenG S1 a = some n) : fNat nLen f ρ S = .ok (.int (n : Int)) S1 := s_fNat e1 (by rw [nLen_eq, e2])
end Fl

set_option Elab.async false
set_option linter.all false
set_option maxRecDepth 100000
set_option maxHeartbeats 4000000
/-! Fl12: the module's constants; more methods. -/
namespace Fl
open PySem PySem.Spec PyProof.Rows L2
section
variable {B : Bd} {X : Cx} {W : WX} {pos : Pos}
/-- a constant of the module -/
theorem e_glb {x : Str} {w : Fl.T} (hg : Gl X x) (h : ∃ (v : V) (u : Value), X.mg x = some u ∧ RelV v u ∧ ∀ (H : Hp) (ι : List Addr), Rep X.K H ι v w) (hd : (x == ("__debug__" : Str)) = false := by decide) : PE X (.Name x pos) (lift (gX B X) W (fC w)) := by
  obtain ⟨v, u, hm, r, k⟩ := h
  exact PE.imp (pe_glob hg hm r hd) fun σ H Q ⟨ι, S, ρ, s, e, p⟩ => p.now s (k H ι)
def mSindex : OM
  | .str a, [.str b], S => match Builtin.Str.occurrences a b 0 a.length 1 with
    | i :: _ => some (.int (i : Nat), S)
    | [] => none
  | _, _, _ => none
theorem m_sindex : JM B X "str.index" mSindex := by
  intro pins s σ H x xs v us Q I rx rs ⟨ι, S, a, as, sr, ra, rb, p⟩
  cases ra with
  | str z =>
    cases rb with
    | nil => exact p.elim
    | cons h t =>
      cases h with
      | str y =>
        cases t with
        | nil =>
          have p : PostO (gX B X) ι H (match Builtin.Str.occurrences z y 0 z.length 1 with
            | i :: _ => some (.int (i : Nat), S)
            | [] => none) Q := p
          split at p
          · rename_i i r e
            exact mt_sindex pins s σ H _ _ v us Q I rx rs ⟨z, y, i, r, rfl, rfl, e, p.now sr (.int _)⟩
          · exact p.elim
        | cons _ _ => exact p.elim
      | _ => cases t <;> exact p.elim
  | _ => cases rb <;> first | exact p.elim | (rename_i h t; cases t <;> exact p.elim) | (rename_i h t; cases h <;> cases t <;> exact p.elim)
end
end Fl

set_option Elab.async false
set_option linter.all false
set_option maxRecDepth 100000
set_option maxHeartbeats 1000000
/-! Fl13: texts of letters; comprehensions' reckoning. -/
namespace Fl
open PySem

/-! ### comprehensions -/
theorem lc_step {chk : List (Nat × List T)} {g : FG} {t : FT} {f : FE} {ρ ρ1 : Env} {D : Nat} {w y : T} {ws acc : List T} {S S2 S3 : Store} (hc : chkOk S chk = true) (e1 : g w ρ S = .ok ρ1 S) (e2 : t ρ1 S = .ok true S2) (e3 : f ρ1 S2 = .ok y S3) (hD : S3[D]? = some (.lst acc)) (hl : acc.length < line) :
    lcL chk g t f ρ D (w :: ws) S = lcL chk g t f ρ D ws (S3.set D (.lst (acc ++ [y]))) := by
  have hp : putIn D y S3 = some (S3.set D (.lst (acc ++ [y]))) := by
    unfold putIn
    rw [hD]
    show (if acc.length < line then some (S3.set D (.lst (acc ++ [y]))) else none) = _
    rw [if_pos hl]
  rw [lcL, if_pos hc, e1]
  show (match t ρ1 S with
        | .ok true S2 => (match f ρ1 S2 with
          | .ok y S3 => match putIn D y S3 with
            | some S4 => lcL chk g t f ρ D ws S4
            | none => .bad
          | _ => .bad)
        | .ok false S2 => lcL chk g t f ρ D ws S2
        | _ => .bad) = _
  rw [e2]
  show (match f ρ1 S2 with
          | .ok y S3 => match putIn D y S3 with
            | some S4 => lcL chk g t f ρ D ws S4
            | none => .bad
          | _ => .bad) = _
  rw [e3]
  show (match putIn D y S3 with
            | some S4 => lcL chk g t f ρ D ws S4
            | none => .bad) = _
  rw [hp]
theorem lc_skip {chk : List (Nat × List T)} {g : FG} {t : FT} {f : FE} {ρ ρ1 : Env} {D : Nat} {w : T} {ws : List T} {S S2 : Store} (hc : chkOk S chk = true) (e1 : g w ρ S = .ok ρ1 S) (e2 : t ρ1 S = .ok false S2) :
    lcL chk g t f ρ D (w :: ws) S = lcL chk g t f ρ D ws S2 := by
  rw [lcL, if_pos hc, e1]
  show (match t ρ1 S with
        | .ok true S2 => (match f ρ1 S2 with
          | .ok y S3 => match putIn D y S3 with
            | some S4 => lcL chk g t f ρ D ws S4
            | none => .bad
          | _ => .bad)
        | .ok false S2 => lcL chk g t f ρ D ws S2
        | _ => .bad) = _
  rw [e2]
theorem lc_end {chk : List (Nat × List T)} {g : FG} {t : FT} {f : FE} {ρ : Env} {D : Nat} {S : Store} (hc : chkOk S chk = true) : lcL chk g t f ρ D [] S = .ok (.ref D) S := by
  rw [lcL, if_pos hc]
theorem set_end {S : Store} {c d : Cell} : (S ++ [c]).set S.length d = S ++ [d] := by
  rw [List.set_append_right _ _ (Nat.le_refl _)]
  simp
/-- the tests and elements leave the store alone -/
theorem lc_pure {chk : List (Nat × List T)} {g : FG} {t : FT} {f : FE} {ρ : Env} {S : Store} (p : T → Bool) (v : T → T) (hc : ∀ acc, chkOk (S ++ [.lst acc]) chk = true) : ∀ (ws acc : List T), acc.length + ws.length ≤ line →
    (∀ w ∈ ws, ∀ S', (∃ acc, S' = S ++ [.lst acc]) → ∃ ρ1, g w ρ S' = .ok ρ1 S' ∧ t ρ1 S' = .ok (p w) S' ∧ (p w = true → f ρ1 S' = .ok (v w) S')) →
    lcL chk g t f ρ S.length ws (S ++ [.lst acc]) = .ok (.ref S.length) (S ++ [.lst (acc ++ (ws.filter p).map v)])
  | [], acc, hl, h => by
    rw [lc_end (hc acc)]
    simp
  | w :: ws, acc, hl, h => by
    obtain ⟨ρ1, e1, e2, e3⟩ := h w List.mem_cons_self _ ⟨acc, rfl⟩
    have hw := fun x hx => h x (List.mem_cons_of_mem _ hx)
    simp only [List.length_cons] at hl
    cases hp : p w with
    | true =>
      rw [hp] at e2
      rw [lc_step (hc acc) e1 e2 (e3 hp) (by simp : (S ++ [Cell.lst acc])[S.length]? = some (.lst acc)) (by omega), set_end, lc_pure p v hc ws (acc ++ [v w]) (by simp only [List.length_append, List.length_cons, List.length_nil]; omega) hw]
      simp [List.filter_cons, hp]
    | false =>
      rw [hp] at e2
      rw [lc_skip (hc acc) e1 e2, lc_pure p v hc ws acc (by omega) hw]
      simp [List.filter_cons, hp]
/-! ### texts -/
def AZ (s : Str) : Prop := ∀ c ∈ s.cps.toList, 97 ≤ c ∧ c ≤ 122
theorem len_list (s : Str) : s.length = s.cps.toList.length := by unfold Str.length; simp
theorem app_list (a b : Str) : (a ++ b).cps.toList = a.cps.toList ++ b.cps.toList := by
  show (a.cps ++ b.cps).toList = _
  simp
theorem AZ.append {a b : Str} (ha : AZ a) (hb : AZ b) : AZ (a ++ b) := fun c hc => by
  rw [app_list] at hc
  rcases List.mem_append.mp hc with h | h
  · exact ha c h
  · exact hb c h
theorem len_append (a b : Str) : (a ++ b).length = a.length + b.length := by
  rw [len_list, len_list, len_list, app_list, List.length_append]
theorem AZ.cut {z : Str} {lo hi : Option Int} (h : AZ z) : AZ (L2.cutS z lo hi) := fun c hc => by
  unfold L2.cutS at hc
  exact h c (List.mem_of_mem_drop (List.mem_of_mem_take (by simpa using hc)))
theorem AZ.one {c : Nat} (h : 97 ≤ c ∧ c ≤ 122) : AZ ⟨#[c]⟩ := fun d hd => by
  have : d = c := by simpa using hd
  subst this
  exact h
theorem str_ext {a b : Str} (h : a.cps.toList = b.cps.toList) : a = b := by
  obtain ⟨a⟩ := a
  obtain ⟨b⟩ := b
  congr 1
  exact Array.toList_inj.mp h
/-! ### the order -/
theorem lt_app (p a b : List Nat) : (p ++ a < p ++ b) ↔ a < b := by
  induction p with
  | nil => rfl
  | cons x p ih =>
    rw [List.cons_append, List.cons_append, List.cons_lt_cons_iff]
    constructor
    · rintro (h | ⟨_, h⟩)
      · exact absurd h (Nat.lt_irrefl _)
      · exact ih.mp h
    · exact fun h => .inr ⟨rfl, ih.mpr h⟩
theorem strLt_asymm {a b : Str} (h : strLt a b = true) : strLt b a = false := by
  unfold strLt at h ⊢
  have h := of_decide_eq_true h
  exact decide_eq_false (List.lt_asymm h)
abbrev abc : Str := "abcdefghijklmnopqrstuvwxyz"
theorem occ_all : ∀ i : Fin 26, Builtin.Str.occurrences abc ⟨#[97 + i.val]⟩ 0 abc.length 1 = [i.val] := by decide +kernel
theorem abc_at {c : Nat} (h : 97 ≤ c ∧ c ≤ 122) (S : Store) : mSindex (.str abc) [.str ⟨#[c]⟩] S = some (.int ((c - 97 : Nat) : Int), S) := by
  have k := occ_all ⟨c - 97, by omega⟩
  have e : 97 + (c - 97) = c := by omega
  simp only [e] at k
  show (match Builtin.Str.occurrences abc ⟨#[c]⟩ 0 abc.length 1 with
    | i :: _ => some (T.int (i : Nat), S)
    | [] => none) = _
  rw [k]
def rngJ (j m : Nat) : List T := (List.range' j m).map fun (i : Nat) => T.int (i : Int)
theorem rngT_J (n : Nat) : rngT 0 n = rngJ 0 n := by
  unfold rngT rngJ
  rw [List.range_eq_range']
  refine List.map_congr_left fun i _ => ?_
  simp
theorem rngJ_cons (j m : Nat) : rngJ j (m + 1) = .int (j : Int) :: rngJ (j + 1) m := by
  unfold rngJ
  rw [List.range'_succ]
  rfl
/-! ### steps -/
theorem s_fBin {o : O2} {f h : FE} {ρ : Env} {S S1 S2 S3 : Store} {a b w : T} (e1 : f ρ S = .ok a S1) (e2 : h ρ S1 = .ok b S2) (e3 : o a b S2 = some (w, S3)) : fBin o f h ρ S = .ok w S3 := by
  unfold fBin
  rw [e1]
  show (h ρ S1).bind _ = _
  rw [e2]
  show Out.of (o a b S2) = _
  rw [e3]
  rfl
theorem s_fMeth {Ty : String} {o : OM} {f : FE} {h : FA} {ρ : Env} {S S1 S2 S3 : Store} {a w : T} {as : List T} (e1 : f ρ S = .ok a S1) (k1 : isTy Ty a = true) (k2 : (tyN S1 a).isSome = true) (e2 : h ρ S1 = .ok as S2) (e3 : o a as S2 = some (w, S3)) : fMeth Ty o f h ρ S = .ok w S3 := by
  unfold fMeth
  rw [e1]
  show (if isTy Ty a = true ∧ (tyN S1 a).isSome = true then (h ρ S1).bind fun as S2 => Out.of (o a as S2) else .bad) = _
  rw [if_pos ⟨k1, k2⟩, e2]
  show Out.of (o a as S2) = _
  rw [e3]
  rfl
theorem s_fCall {G : GF} {f : FA} {ρ : Env} {S S1 : Store} {as : List T} {o : Out T} (e1 : f ρ S = .ok as S1) (e2 : G as S1 = o) : fCall G f ρ S = o := by
  unfold fCall
  rw [e1]
  exact e2
theorem s_fTru {f : FE} {ρ : Env} {S S1 : Store} {a : T} {k : Bool} (e1 : f ρ S = .ok a S1) (e2 : tru S1 a = some k) : fTru f ρ S = .ok k S1 := by
  unfold fTru
  rw [e1]
  show Out.tst (tru S1 a) S1 = _
  rw [e2]
  rfl
theorem s_fBl {f : FE} {ρ : Env} {S S1 : Store} {k : Bool} (e1 : f ρ S = .ok (.bl k) S1) : fBl f ρ S = .ok k S1 := by
  unfold fBl
  rw [e1]
  rfl
theorem s_fLst {f : FA} {ρ : Env} {S S1 : Store} {as : List T} (e1 : f ρ S = .ok as S1) (hl : as.length ≤ line) : fLst f ρ S = .ok (.ref S1.length) (S1 ++ [.lst as]) := by
  unfold fLst
  rw [e1]
  show (if as.length ≤ line then Out.ok (T.ref S1.length) (S1 ++ [.lst as]) else .bad) = _
  rw [if_pos hl]
theorem s_fTup {f : FA} {ρ : Env} {S S1 : Store} {as : List T} (e1 : f ρ S = .ok as S1) (hl : as.length ≤ line) : fTup f ρ S = .ok (.tup as) S1 := by
  unfold fTup
  rw [e1]
  show (if as.length ≤ line then Out.ok (T.tup as) S1 else .bad) = _
  rw [if_pos hl]
theorem s_seq {f : FE} {ρ : Env} {S S1 : Store} {a : T} {it : Its} (e1 : f ρ S = .ok a S1) (e2 : iSeqG S1 a = some it) : fiSeq f ρ S = .ok it S1 := by
  unfold fiSeq
  rw [e1]
  show outI (iSeqG S1 a) S1 = _
  rw [e2]
  rfl
theorem s_fLc {vs : List Nat} {i : FI} {g : FG} {t : FT} {f : FE} {ρ : Env} {S S1 : Store} {ws : List T} {chk : List (Nat × List T)} {o : Out T} (e1 : i ρ S = .ok ⟨ws, chk⟩ S1) (e2 : lcL chk g t f (wipeE ρ vs) S1.length ws (S1 ++ [.lst []]) = o) : fLc vs i g t f ρ S = o := by
  unfold fLc
  rw [e1]
  exact e2
theorem s_put {f : FE} {g : FG} {ρ ρ1 : Env} {S S1 S2 : Store} {w : T} (e1 : f ρ S = .ok w S1) (e2 : g w ρ S1 = .ok ρ1 S2) : sAsg f g ρ S = .nx ρ1 S2 := by
  unfold sAsg
  rw [e1]
  show (g w ρ S1).thenS ρ _ = _
  rw [e2]
  rfl
theorem s_retv {f : FE} {ρ : Env} {S S1 : Store} {w : T} (e1 : f ρ S = .ok w S1) : sRet f ρ S = .rt w S1 := by
  unfold sRet
  rw [e1]
  rfl
theorem isTy_s (x : Str) : isTy "str" (.str x) = true := rfl
theorem isTy_l (n : Nat) : isTy "list" (.ref n) = true := rfl
theorem ix_str {x : Str} {k c : Nat} {S : Store} (hl : x.length ≤ line) (h : x.cps.toList[k]? = some c) : oIx (.str x) (.int (k : Int)) S = some (.str ⟨#[c]⟩, S) := by
  have hk : k < x.cps.toList.length := (List.getElem?_eq_some_iff.mp h).1
  have e : L2.atI x.cps.toList (k : Int) = some c := by rw [atI_in _ k hk]; exact h
  show ((if x.length ≤ line then (L2.atI x.cps.toList (k : Int)).map fun c => T.str ⟨#[c]⟩ else none).map fun w => (w, S)) = _
  rw [if_pos hl, e]
  rfl
theorem len_str {x : Str} {S : Store} (hl : x.length ≤ line) : lenG S (.str x) = some x.length := by
  show (if x.length ≤ line then some x.length else none) = _
  rw [if_pos hl]
theorem imin_nat (i j : Nat) : imin (i : Int) (j : Int) = ((min i j : Nat) : Int) := by
  unfold imin
  split <;> omega
end Fl

set_option Elab.async false
set_option linter.all false
set_option maxRecDepth 100000
set_option maxHeartbeats 4000000
/-! Fl14: enumerate of a tuple, of a text. -/
namespace Fl
open PySem PySem.Spec PyProof.Rows L2
/-- the tuple at a, each item in a new pair -/
def IteT (K : PySem.W.Frag) (a : Addr) : It :=
  ⟨fun i H => ∃ (xs : List V) (x : V), SqT K H a xs ∧ xs[i]? = some x, fun i H v H' => ∃ T x, v = .ref T ∧ H T = none ∧ H' = upd H T (.tup [.int (i : Nat), x]) ∧ ∀ xs, SqT K H a xs → xs[i]? = some x, fun i H => ∃ xs : List V, SqT K H a xs ∧ xs.length = i⟩
theorem turn_enumT {P : Program} {w : World} {K : PySem.W.Frag} {elts : List Expr} {kk : Nat} {tpos : Pos} (a e it : Addr) :
    Turn P w K (.Tuple elts kk tpos) (IteT K a) [e, it] e (fun i h => (∃ old, IsEnum h e it ((i : Nat) : Int) old) ∧ h.IsTupleIter it a i ∧ e ≠ it) where
  mem := by simp
  obj := fun i h st b hb => by
    obtain ⟨⟨old, he⟩, ⟨o, ho, hc, hd⟩, _⟩ := st
    have hb2 : b = e ∨ b = it := by simpa using hb
    rcases hb2 with z | z
    · rw [z]; exact ⟨_, he, fun v q => nomatch q⟩
    · rw [z]; exact ⟨o, ho, fun v q => by rw [hd] at q; cases q⟩
  keep := fun i h h' st k => let ⟨⟨old, he⟩, hi, hne⟩ := st; ⟨⟨old, k e (by simp) _ he⟩, hi.at fun o q => k it (by simp) o q, hne⟩
  item := by
    intro X hP hw hK hc i pins s σ H E I hf st hg
    subst hP hw hK
    obtain ⟨⟨old, he⟩, hit, hne⟩ := st
    obtain ⟨xs, x, hq, hx⟩ := hg
    obtain ⟨its, rv, p, hz⟩ := I.tuple hq
    obtain ⟨u, hu, ru⟩ := rv.get hx
    have hel : e < s.heap.objs.size := Heap.lt_size he
    have hil : it < s.heap.objs.size := by obtain ⟨_, q, _⟩ := hit; exact Heap.lt_size q
    have hta : s.heap.IsTuple a its.toArray := p
    have hai : a ≠ it := fun z => by
      obtain ⟨o1, h1, c1, _⟩ := hit
      obtain ⟨o2, h2, c2, _⟩ := hta
      rw [z, h1] at h2
      have e3 := Option.some.inj h2
      rw [e3, c2] at c1
      exact absurd c1 (by decide)
    have hea : e ≠ a := fun z => by
      obtain ⟨o2, h2, c2, _⟩ := hta
      rw [← z] at h2
      have q := Option.some.inj (he.symm.trans h2)
      rw [← q] at c2
      exact absurd (show Value.type "enumerate" = Value.type "tuple" from c2) (by decide)
    have hi : i < its.toArray.size := by
      have := (List.getElem?_eq_some_iff.mp hu).1
      simpa using this
    refine wpAny_pyNext_enum_itemD (Draws.tuple (A := X.A.in1) (I.ok.hd hc) it a hai its.toArray) he ⟨hit, hta⟩ hi hne (by simp [hne, hea]) fun x' h' tk hx' ho hst hT hsz hk => ?_
    have ex : x' = u := by
      have q : its.toArray[i]? = some x' := hx'
      have q2 : its.toArray[i]? = some u := by simpa using hu
      exact Option.some.inj (q.symm.trans q2)
    subst ex
    refine ⟨_, rfl, wpAny_letOwnedTupleGo_enum (s := { s with heap := h', toks := tk + 1 }) ho fun h'' he' sb => ?_⟩
    have hT2 : h''.get? s.heap.objs.size = some { cls := .type "tuple", data := .seq #[.int i tk, x'] } := (sb.2 _ (Nat.ne_of_gt hel)).trans hT
    have new : ObjOk X.prog X.w (upd H s.heap.objs.size (.tup [.int (i : Nat), x])) h'' s.heap.objs.size (.tup [.int (i : Nat), x]) :=
      ⟨by show 2 ≤ sizeLine; decide, [.int i tk, x'], .cons ⟨_, rfl⟩ (.cons ru .nil), ⟨_, hT2, rfl, _, rfl⟩⟩
    have I1 : Inv X pins σ (upd H s.heap.objs.size (.tup [.int (i : Nat), x])) { s with heap := h'', toks := tk + 1 } :=
      I.turnedNew (ch := [e, it]) (fun b ob hb q => (sb.2 b (fun z => hb (by simp [z]))).trans (hk b ob (fun z => hb (by simp [z])) (fun z => hb (by simp [z])) q)) hf (Nat.le_refl _) new
    refine ⟨.ref s.heap.objs.size, _, I1, rfl, ⟨_, x, rfl, I.hok.fresh (Nat.le_refl _), rfl, fun ys hy => by rw [I.tuple_inj hy hq]; exact hx⟩, ⟨⟨x', ?_⟩, hst.1.at fun o q => (sb.2 it (Ne.symm hne)).trans q, hne⟩, fun b hb => ?_⟩
    · have e1 : ((i + 1 : Nat) : Int) = (i : Int) + 1 := by omega
      rw [e1]; exact he'
    · have hb' : b < s.heap.objs.size := by
        have hb2 : b = e ∨ b = it := by simpa using hb
        rcases hb2 with z | z
        · rw [z]; exact hel
        · rw [z]; exact hil
      rw [upd_ne (Nat.ne_of_lt hb')]
      exact (hf b hb).1
  done := by
    intro X hP hw hK hc i pins s σ H E I hf st hg
    subst hP hw hK
    obtain ⟨⟨old, he⟩, hit, hne⟩ := st
    obtain ⟨xs, hq, hx⟩ := hg
    obtain ⟨its, rv, p, hz⟩ := I.tuple hq
    obtain ⟨f0, f1, f2, f3, f4, f5⟩ := hf it (by simp)
    have hta : s.heap.IsTuple a its.toArray := p
    have hai : a ≠ it := fun z => by
      obtain ⟨o1, h1, c1, _⟩ := hit
      obtain ⟨o2, h2, c2, _⟩ := hta
      rw [z, h1] at h2
      have e3 := Option.some.inj h2
      rw [e3, c2] at c1
      exact absurd c1 (by decide)
    have hn : its.toArray.size = i := by
      have := rv.length
      simp
      omega
    refine wpAny_pyNext_enum_endD (Draws.tuple (A := X.A.in1) (I.ok.hd hc) it a hai its.toArray) he ⟨by rw [hn]; exact hit, hta⟩ fun h' eb => ⟨rfl, I.turned (t' := s.toks) (fun b o hb q => eb b o hb q) f0 f1 f3 f4 f5⟩
  self := fun A i s Q E st h => let ⟨⟨_, he⟩, _⟩ := st; wpAny_pyIter_enum he h
theorem meets_enumT (l : Addr) (items : Array Value) (n : Nat) (dct : Option Addr) (sl : Array (Option Value)) :
    Meets (Builtin.«enumerate.__new__» ⟨[.type "enumerate", .ref l], []⟩) (fun _ R s => s.heap.get? l = some { cls := .type "tuple", dict := dct, data := .seq items n, slots := sl } ∧
      R (.ok (.ret (.ref (s.heap.push { cls := .type "tuple_iterator", data := .fields #[.ref l, .int 0 0] }).objs.size)))
        { s with heap := (s.heap.push { cls := .type "tuple_iterator", data := .fields #[.ref l, .int 0 0] }).push { cls := .type "enumerate", data := .fields #[.none, .bool false, .ref s.heap.objs.size, rawInt 0, .none, .none] } }) :=
  .of_wp fun prog w A R s h => by
    obtain ⟨hp, g, d, tk, os⟩ := s
    obtain ⟨hl, h⟩ := h
    have hsub := sub_enumerate
    have hL : Heap.IsTuple (Shared.heap ⟨hp, g, d, tk, os⟩) l items := ⟨_, hl, rfl, n, rfl⟩
    wp_walk using AutoSeq1.wpAny_loadPart' hl
    refine wpAny_stack_any fun st => wpAny_pure ?_
    split
    · rename_i c _ _ _ _ _
      cases (c == Value.type "enumerate")
      · wp_walk using AutoSeq1.wpAny_loadPart' hl, wpAny_pyIter_tuple hL
        exact ⟨_, rfl, h⟩
      · wp_walk using AutoSeq1.wpAny_loadPart' hl, wpAny_pyIter_tuple hL
        exact ⟨_, rfl, h⟩
    · wp_walk using AutoSeq1.wpAny_loadPart' hl, wpAny_pyIter_tuple hL
      exact ⟨_, rfl, h⟩
theorem call_enumT {prog : Program} {w : World} {A : Around} {E : Value → Shared → Prop} {s : Shared} {l : Addr} {items : Array Value} {Q : Value → Shared → Prop} (hL : s.heap.IsTuple l items)
    (h : ∀ g, IsEnum g (s.heap.objs.size + 1) s.heap.objs.size 0 .none → g.IsTupleIter s.heap.objs.size l 0 → g.objs.size = s.heap.objs.size + 2 → (∀ b o, s.heap.get? b = some o → g.get? b = some o) → Q (.ref (s.heap.objs.size + 1)) { s with heap := g }) :
    wpAny (model prog w) A (call (.type "enumerate") [.ref l]) Q E s := by
  obtain ⟨⟨c, dct, dt, sl⟩, hl, hc, n, hd⟩ := hL
  have hc2 : c = .type "tuple" := hc
  have hd2 : dt = .seq items n := hd
  subst hc2 hd2
  refine callType_new F.called_enumerate (by decide) (F.typeCall_enumerate_1 _) (F.newCall_enumerate_1 _) (fun obj => F.args_object_init_2 obj _) F.entry_enumerate_new (meets_enumT l items n dct sl) ⟨hl, ?_⟩
  obtain ⟨g1, q1⟩ : ∃ g1, g1 = s.heap.push { cls := .type "tuple_iterator", data := .fields #[.ref l, .int 0 0] } := ⟨_, rfl⟩
  have hz : g1.objs.size = s.heap.objs.size + 1 := by rw [q1]; exact Heap.size_push ..
  rw [← q1]
  show _ ∧ _
  rw [hz]
  have he : IsEnum (g1.push { cls := .type "enumerate", data := .fields #[.none, .bool false, .ref s.heap.objs.size, rawInt 0, .none, .none] }) (s.heap.objs.size + 1) s.heap.objs.size 0 .none := by
    have q := Heap.get?_push_size g1 (o := { cls := .type "enumerate", data := .fields #[.none, .bool false, .ref s.heap.objs.size, rawInt 0, .none, .none] }) rfl
    rw [hz] at q
    exact q
  have hi : g1.get? s.heap.objs.size = some { cls := .type "tuple_iterator", data := .fields #[.ref l, .int 0 0] } := by rw [q1]; exact Heap.get?_push_size _ rfl
  have hk : ∀ b o, s.heap.get? b = some o → g1.get? b = some o := fun b o x => by rw [q1]; exact Heap.get?_push_of_some _ x
  exact ⟨⟨_, he, rfl⟩, h _ he ⟨_, Heap.get?_push_of_some _ hi, rfl, rfl⟩ (by rw [Heap.size_push, hz]) fun b o x => Heap.get?_push_of_some _ (hk b o x)⟩
/-- the text x, each sign in a new pair -/
def IteS (x : Str) : It :=
  ⟨fun i _ => i < x.cps.size, fun i H v H' => ∃ T c, v = .ref T ∧ H T = none ∧ H' = upd H T (.tup [.int (i : Nat), .str ⟨#[c]⟩]) ∧ x.cps[i]? = some c, fun i _ => x.cps.size = i⟩
theorem turn_enumS {P : Program} {w : World} {K : PySem.W.Frag} {elts : List Expr} {kk : Nat} {tpos : Pos} (x : Str) (t : Tok) (e it : Addr) :
    Turn P w K (.Tuple elts kk tpos) (IteS x) [e, it] e (fun i h => (∃ old, IsEnum h e it ((i : Nat) : Int) old) ∧ h.IsStrIter it (strIterType x) x t i ∧ e ≠ it) where
  mem := by simp
  obj := fun i h st b hb => by
    obtain ⟨⟨old, he⟩, ⟨o, ho, hc, hd⟩, _⟩ := st
    have hb2 : b = e ∨ b = it := by simpa using hb
    rcases hb2 with z | z
    · rw [z]; exact ⟨_, he, fun v q => nomatch q⟩
    · rw [z]; exact ⟨o, ho, fun v q => by rw [hd] at q; cases q⟩
  keep := fun i h h' st k => let ⟨⟨old, he⟩, ⟨o, ho, r⟩, hne⟩ := st; ⟨⟨old, k e (by simp) _ he⟩, ⟨o, k it (by simp) o ho, r⟩, hne⟩
  item := by
    intro X hP hw hK hc i pins s σ H E I hf st hg
    subst hP hw hK
    obtain ⟨⟨old, he⟩, hit, hne⟩ := st
    have hel : e < s.heap.objs.size := Heap.lt_size he
    have hil : it < s.heap.objs.size := by obtain ⟨_, q, _⟩ := hit; exact Heap.lt_size q
    refine wpAny_pyNext_enum_itemD (Draws.text (A := X.A.in1) (I.ok.hd hc) it x t) he hit hg hne (by simp [hne]) fun x' h' tk hx' ho hst hT hsz hk => ?_
    obtain ⟨c, u, hcx, rfl⟩ := hx'
    refine ⟨_, rfl, wpAny_letOwnedTupleGo_enum (s := { s with heap := h', toks := tk + 1 }) ho fun h'' he' sb => ?_⟩
    have hT2 : h''.get? s.heap.objs.size = some { cls := .type "tuple", data := .seq #[.int i tk, .str ⟨#[c]⟩ u] } := (sb.2 _ (Nat.ne_of_gt hel)).trans hT
    have new : ObjOk X.prog X.w (upd H s.heap.objs.size (.tup [.int (i : Nat), .str ⟨#[c]⟩])) h'' s.heap.objs.size (.tup [.int (i : Nat), .str ⟨#[c]⟩]) :=
      ⟨by show 2 ≤ sizeLine; decide, [.int i tk, .str ⟨#[c]⟩ u], .cons ⟨_, rfl⟩ (.cons ⟨_, rfl⟩ .nil), ⟨_, hT2, rfl, _, rfl⟩⟩
    have I1 : Inv X pins σ (upd H s.heap.objs.size (.tup [.int (i : Nat), .str ⟨#[c]⟩])) { s with heap := h'', toks := tk + 1 } :=
      I.turnedNew (ch := [e, it]) (fun b ob hb q => (sb.2 b (fun z => hb (by simp [z]))).trans (hk b ob (fun z => hb (by simp [z])) (fun z => hb (by simp [z])) q)) hf (Nat.le_refl _) new
    refine ⟨.ref s.heap.objs.size, _, I1, rfl, ⟨_, c, rfl, I.hok.fresh (Nat.le_refl _), rfl, hcx⟩, ⟨⟨.str ⟨#[c]⟩ u, ?_⟩, ?_, hne⟩, fun b hb => ?_⟩
    · have e1 : ((i + 1 : Nat) : Int) = (i : Int) + 1 := by omega
      rw [e1]; exact he'
    · obtain ⟨o, ho2, r⟩ := hst
      exact ⟨o, (sb.2 it (Ne.symm hne)).trans ho2, r⟩
    · have hb' : b < s.heap.objs.size := by
        have hb2 : b = e ∨ b = it := by simpa using hb
        rcases hb2 with z | z
        · rw [z]; exact hel
        · rw [z]; exact hil
      rw [upd_ne (Nat.ne_of_lt hb')]
      exact (hf b hb).1
  done := by
    intro X hP hw hK hc i pins s σ H E I hf st hg
    subst hP hw hK
    obtain ⟨⟨old, he⟩, hit, hne⟩ := st
    obtain ⟨f0, f1, f2, f3, f4, f5⟩ := hf it (by simp)
    have hn : x.cps.size = i := hg
    refine wpAny_pyNext_enum_endD (Draws.text (A := X.A.in1) (I.ok.hd hc) it x t) he (by rw [hn]; exact hit) fun h' eb => ⟨rfl, I.turned (t' := s.toks) (fun b o hb q => eb b o hb q) f0 f1 f3 f4 f5⟩
  self := fun A i s Q E st h => let ⟨⟨_, he⟩, _⟩ := st; wpAny_pyIter_enum he h
/-! ### enumerate(a list | a tuple | a text) -/
def iEnumA (K : PySem.W.Frag) (ta : TA) : TI := fun σ H R => ta σ H fun vs H1 => (∃ a xs, vs = [.ref a] ∧ SqL K H1 a xs ∧ R (Ite K a) H1) ∨ (∃ a xs, vs = [.ref a] ∧ SqT K H1 a xs ∧ R (IteT K a) H1) ∨ (∃ x, vs = [.str x] ∧ R (IteS x) H1)
theorem pi_enumA {X : Cx} {e : Expr} {ta : TA} {p pos tpos : Pos} {elts : List Expr} {kk : Nat} (hg : Gl X "enumerate") (hm : X.mg "enumerate" = none) (ha : PA X [e] ta) (hs : starEach [e] X.env = [(false, eval e X.env)] := by rfl) :
    PI X (.Tuple elts kk tpos) (.Call (.Name "enumerate" p) [e] [] pos) (iEnumA X.K ta) := by
  refine ⟨fun pins s σ H R I h => ?_⟩
  refine Call_ (ld_blt I hg hm boot_enumerate (PyProof.Rows.callWith_type1 (thn (ha.run pos pins s σ H _ I h) fun us s1 ⟨vs, H1, I1, r1, q1⟩ => ?_) hs rfl))
  have fp2 : ∀ b, b ∈ [s1.heap.objs.size + 1, s1.heap.objs.size] → FpOk X pins H1 b := fun b hb => by
    have hb2 : b = s1.heap.objs.size + 1 ∨ b = s1.heap.objs.size := by simpa using hb
    have hle : s1.heap.objs.size ≤ b := by rcases hb2 with z | z <;> omega
    exact I1.fpOk hle (I1.hok.fresh hle)
  rcases q1 with ⟨a, xs, ex, hq, q⟩ | ⟨a, xs, ex, hq, q⟩ | ⟨x, ex, q⟩
  · subst ex
    cases r1 with
    | cons r rr =>
      cases rr
      cases r
      obtain ⟨its, rv, p', hz⟩ := I1.list hq
      refine call_enumerate_list p'.isList fun g he hit hsz hk => wpAny_pyIter_enum he ?_
      have I2 : Inv X pins σ H1 { s1 with heap := g } := I1.kept (t' := s1.toks) hk
      exact ⟨s1.heap.objs.size + 1, [s1.heap.objs.size + 1, s1.heap.objs.size], _, _, H1, rfl, I2, turn_enum a (s1.heap.objs.size + 1) s1.heap.objs.size, ⟨⟨.none, he⟩, hit, Nat.succ_ne_self _⟩, fp2, q⟩
  · subst ex
    cases r1 with
    | cons r rr =>
      cases rr
      cases r
      obtain ⟨its, rv, p', hz⟩ := I1.tuple hq
      refine call_enumT (show s1.heap.IsTuple a its.toArray from p') fun g he hit hsz hk => wpAny_pyIter_enum he ?_
      have I2 : Inv X pins σ H1 { s1 with heap := g } := I1.kept (t' := s1.toks) hk
      exact ⟨s1.heap.objs.size + 1, [s1.heap.objs.size + 1, s1.heap.objs.size], _, _, H1, rfl, I2, turn_enumT a (s1.heap.objs.size + 1) s1.heap.objs.size, ⟨⟨.none, he⟩, hit, Nat.succ_ne_self _⟩, fp2, q⟩
  · subst ex
    cases r1 with
    | cons r rr =>
      cases rr
      obtain ⟨t, rfl⟩ := r
      refine call_enumerate_str fun g he hit hsz hk => wpAny_pyIter_enum he ?_
      have I2 : Inv X pins σ H1 { s1 with heap := g } := I1.kept (t' := s1.toks) hk
      exact ⟨s1.heap.objs.size + 1, [s1.heap.objs.size + 1, s1.heap.objs.size], _, _, H1, rfl, I2, turn_enumS x t (s1.heap.objs.size + 1) s1.heap.objs.size, ⟨⟨.none, he⟩, hit, Nat.succ_ne_self _⟩, fp2, q⟩
theorem walkET {K : PySem.W.Frag} {a : Addr} {xs : List V} : Walk (IteT K a) xs.length (fun H => SqT K H a xs)
    (fun i H v H' => ∃ T x, v = .ref T ∧ H T = none ∧ H' = upd H T (.tup [.int (i : Nat), x]) ∧ xs[i]? = some x) :=
  ⟨fun i H hi h => ⟨xs, xs[i]'hi, h, by simp⟩, fun H h => ⟨xs, h, rfl⟩, fun i H x H' hi h ⟨T, u, e1, e2, e3, e4⟩ => ⟨T, u, e1, e2, e3, e4 xs h⟩⟩
theorem walkES {x : Str} : Walk (IteS x) x.cps.size (fun _ => True)
    (fun i H v H' => ∃ T c, v = .ref T ∧ H T = none ∧ H' = upd H T (.tup [.int (i : Nat), .str ⟨#[c]⟩]) ∧ x.cps[i]? = some c) :=
  ⟨fun i H hi _ => hi, fun H _ => rfl, fun i H v H' hi _ y => y⟩
/-- enumerate(a list | a tuple | a text) -/
def iEnumGA (S : Store) : List T → Option Its
  | [.ref n] => match getL S n with
    | some c => some ⟨enumT c, [(n, c)]⟩
    | none => none
  | [.tup ws] => some ⟨enumT ws, []⟩
  | [.str z] => some ⟨enumT (strT z), []⟩
  | _ => none
def fiEnumA (f : FA) : FI := fun ρ S => (f ρ S).bind fun as S1 => outI (iEnumGA S1 as) S1
section
variable {B : Bd} {X : Cx} {W : WX} {a : Expr} {fs : FA} {pos : Pos}
theorem i_enumA {tpos p : Pos} {elts : List Expr} {kk : Nat} (hg : Gl X "enumerate") (hm : X.mg "enumerate" = none) (ha : PA X [a] (lift (gX B X) W fs)) (hs : starEach [a] X.env = [(false, eval a X.env)] := by rfl) :
    PI X (.Tuple elts kk tpos) (.Call (.Name "enumerate" p) [a] [] pos) (liftI (gX B X) W (fiEnumA fs)) :=
  PI.imp (pi_enumA hg hm ha hs) fun σ H R h => h.bind fun v w S1 H1 ι1 ρ s1 e1 r1 p => by
    have r1 : Reps X.K H1 ι1 v w := r1
    obtain ⟨it, e, p⟩ := PostI.o p
    cases r1 with
    | nil => cases e
    | cons h t => cases t with
      | cons _ _ => cases h <;> cases e
      | nil => cases h with
        | ref h =>
          rename_i n a1
          have e : (match getL S1 n with
            | some c => some (⟨enumT c, [(n, c)]⟩ : Its)
            | none => none) = some it := e
          cases hc : getL S1 n with
          | none => rw [hc] at e; cases e
          | some c =>
            rw [hc] at e
            cases e
            obtain ⟨vs, g1, g2⟩ := SRel.seq (B := B) s1 hc h
            refine .inl ⟨_, _, rfl, g1, p _ H1 ι1 Later.refl s1 ⟨_, _, by rw [show (⟨enumT c, [(n, c)]⟩ : Its).ws.length = c.length by simp [enumT]]; exact walkE, fun ι2 H2 S2 l s hk => ?_, fun i ι2 H2 S2 x H3 hi l s hk y => ?_⟩⟩
            · obtain ⟨c2, k1, k2⟩ := chk_at hk
              obtain ⟨vs2, q1, q2⟩ := SRel.seq (B := B) s k1 (l.pre _ _ h)
              exact ⟨vs2, q1, by rw [q2.length, k2]⟩
            · obtain ⟨c2, k1, k2⟩ := chk_at hk
              obtain ⟨vs2, q1, q2⟩ := SRel.seq (B := B) s k1 (l.pre _ _ h)
              obtain ⟨T, u, rfl, hT, rfl, e1⟩ := y
              obtain ⟨w1, z1, z2⟩ := q2.get' (e1 vs2 q1)
              rw [k2] at z1
              exact ⟨Later.laid hT, s.laid hT, _, enumT_get z1, .tup (SqT.of upd_same) (.cons (.int _) (.cons (z2.later (Later.laid hT)) .nil))⟩
        | @tup p1 vs1 ws1 h r =>
          cases e
          refine .inr (.inl ⟨_, _, rfl, h, p _ H1 ι1 Later.refl s1 ⟨_, _, by rw [show (⟨enumT ws1, []⟩ : Its).ws.length = ws1.length by simp [enumT], ← r.length]; exact walkET, fun ι2 H2 S2 l s _ => l.tup _ _ h, fun i ι2 H2 S2 x H3 hi l s _ y => ?_⟩⟩)
          obtain ⟨T, u, rfl, hT, rfl, e1⟩ := y
          obtain ⟨w1, d1, d2⟩ := r.get' e1
          exact ⟨Later.laid hT, s.laid hT, _, enumT_get d1, .tup (SqT.of upd_same) (.cons (.int _) (.cons ((d2.later l).later (Later.laid hT)) .nil))⟩
        | str z =>
          cases e
          refine .inr (.inr ⟨_, rfl, p _ H1 ι1 Later.refl s1 ⟨_, _, by rw [show (⟨enumT (strT z), []⟩ : Its).ws.length = z.cps.size by simp [enumT, strT]]; exact walkES, fun _ _ _ _ _ _ => trivial, fun i ι2 H2 S2 x H3 hi l s _ y => ?_⟩⟩)
          obtain ⟨T, c, rfl, hT, rfl, e1⟩ := y
          exact ⟨Later.laid hT, s.laid hT, _, enumT_get (w := .str ⟨#[c]⟩) (by simp [strT]; exact e1), .tup (SqT.of upd_same) (.cons (.int _) (.cons (.str _) .nil))⟩
        | _ => cases e
end
end Fl

set_option Elab.async false
set_option linter.all false
set_option maxRecDepth 100000
set_option maxHeartbeats 4000000
/-! Fl15: a text so many times. -/
namespace Fl
open PySem PySem.Spec PyProof.Rows L2
section
variable {B : Bd} {X : Cx} {W : WX}
def oMulS : O2 := fun a b S => match a, b with
  | .str x, .int k => if -(2 ^ 63) ≤ k ∧ k < 2 ^ 63 ∧ x.length * k.toNat ≤ line then some (.str (Txt.mul x k), S) else none
  | _, _ => none
theorem mulOk_str {x : Str} {k : Int} (h1 : -(2 ^ 63) ≤ k) (h2 : k < 2 ^ 63) (h3 : x.length * k.toNat ≤ sizeLine) : MulOk x k := by
  refine ⟨by rw [Bool.or_eq_false_iff]; exact ⟨decide_eq_false (by omega), decide_eq_false (by omega)⟩, fun h _ => ?_, fun _ _ => by exact decide_eq_false (by omega)⟩
  have e : (x.length : Int) * k ≤ 2 ^ 24 := by
    have q : ((x.length * k.toNat : Nat) : Int) ≤ ((2 ^ 24 : Nat) : Int) := Int.ofNat_le.mpr h3
    rw [Int.natCast_mul] at q
    have q2 : ((k.toNat : Nat) : Int) = k := by omega
    rw [q2] at q
    exact q
  have := (Int.le_ediv_iff_mul_le (by omega : 0 < k)).mpr (show (x.length : Int) * k ≤ 2 ^ 63 - 1 by omega)
  omega
theorem o_mulS : J2 B X (binaryOp .Mult) oMulS := by
  intro pins s σ H x y v u Q I rx ry ⟨ι, S, a, b, sr, ra, rb, p⟩
  cases ra with
  | str z => cases rb with
    | int k =>
      obtain ⟨⟨h1, h2, h3⟩, p⟩ := PostO.ite p
      obtain ⟨t, rfl⟩ := rx
      obtain ⟨t', rfl⟩ := ry
      exact SB.mul (mulOk_str h1 h2 (le_line h3)) fun t' tk => ⟨.str _, H, I.tok _, ⟨_, rfl⟩, p.now sr (.str _)⟩
    | _ => exact p.elim
  | _ => cases rb <;> exact p.elim
theorem foldl_arr {α : Type} (xs : List (Array α)) : ∀ a : Array α, (xs.foldl (· ++ ·) a).toList = a.toList ++ (xs.map Array.toList).flatten := by
  induction xs with
  | nil => intro a; simp
  | cons b r ih => intro a; rw [List.foldl_cons, ih]; simp
/-- its signs, one after the other -/
theorem mul_cps (x : Str) (k : Int) : (Txt.mul x k).cps.toList = (List.replicate k.toNat x.cps.toList).flatten := by
  unfold Txt.mul
  by_cases h : k < 1
  · rw [if_pos h, show k.toNat = 0 by omega]
    rfl
  · rw [if_neg h]
    by_cases h2 : (k == 1 || x.length == 0) = true
    · rw [if_pos h2]
      rw [Bool.or_eq_true] at h2
      rcases h2 with h2 | h2
      · have : k = 1 := by simpa using h2
        subst this
        simp
      · have e : x.cps.toList = [] := by
          have : x.cps.size = 0 := by simpa [Str.length] using h2
          exact List.length_eq_zero_iff.mp (by simpa using this)
        rw [e]
        exact (List.flatten_eq_nil_iff.mpr fun l hl => (List.mem_replicate.mp hl).2).symm
    · rw [if_neg h2]
      rw [foldl_arr]
      simp
end
end Fl

set_option Elab.async false
set_option linter.all false
set_option maxRecDepth 100000
set_option maxHeartbeats 1000000
/-! Fl16: what is wished behind a piece: a calculus over outcomes. -/
namespace Fl
open PySem

@[irreducible] def wp {α : Type} (o : Out α) (Q : α → Store → Prop) (E : Ex → Store → Prop) : Prop := match o with
  | .ok a S => Q a S
  | .exc e S => E e S
  | .bad => False
structure Po where
  nx : Env → Store → Prop
  bk : Env → Store → Prop
  ct : Env → Store → Prop
  rt : T → Store → Prop
  ex : Ex → Store → Prop
@[irreducible] def ws (o : OutS) (P : Po) : Prop := match o with
  | .nx ρ S => P.nx ρ S
  | .bk ρ S => P.bk ρ S
  | .ct ρ S => P.ct ρ S
  | .rt w S => P.rt w S
  | .exc e _ S => P.ex e S
  | .bad => False
@[irreducible] def wr (o : R) (Q : T → Store → Prop) : Prop := match o with
  | some p => Q p.1 p.2
  | none => False
def no2 {α : Type} : α → Store → Prop := fun _ _ => False
section
variable {α β : Type} {Q Q' : α → Store → Prop} {E E' : Ex → Store → Prop} {P : Po} {S S1 : Store} {ρ : Env}
theorem wp_ok {a : α} : wp (.ok a S) Q E = Q a S := by unfold wp; rfl
theorem wp_exc {e : Ex} : wp (.exc e S : Out α) Q E = E e S := by unfold wp; rfl
theorem wp_bad : wp (.bad : Out α) Q E = False := by unfold wp; rfl
theorem wp_bind {o : Out β} {k : β → Store → Out α} : wp (o.bind k) Q E = wp o (fun a S => wp (k a S) Q E) E := by cases o <;> simp only [wp_ok, wp_exc, wp_bad, Out.bind]
theorem bind_ok {a : β} {k : β → Store → Out α} : (Out.ok a S).bind k = k a S := rfl
theorem bind_bad {k : β → Store → Out α} : (Out.bad).bind k = .bad := rfl
theorem wp_ite {c : Prop} [Decidable c] {a b : Out α} : wp (if c then a else b) Q E = ((c → wp a Q E) ∧ (¬ c → wp b Q E)) := by
  by_cases h : c <;> simp [h]
theorem wp_of {r : R} {Q : T → Store → Prop} : wp (Out.of r) Q E = wr r Q := by cases r <;> unfold wr <;> simp only [wp_ok, wp_bad, Out.of]
theorem wr_some {p : T × Store} {Q : T → Store → Prop} : wr (some p) Q = Q p.1 p.2 := by unfold wr; rfl
theorem wr_none {Q : T → Store → Prop} : wr none Q = False := by unfold wr; rfl
theorem wr_ite {c : Prop} [Decidable c] {r : R} {Q : T → Store → Prop} : wr (if c then r else none) Q = (c ∧ wr r Q) := by
  by_cases h : c <;> simp [h, wr_none]
theorem of_some {p : T × Store} : Out.of (some p) = .ok p.1 p.2 := rfl
theorem tst_some {k : Bool} : Out.tst (some k) S = .ok k S := rfl
theorem tst_none : Out.tst none S = .bad := rfl
theorem and_ok {c d : Bool} : (if c = true then Out.ok d S else Out.ok false S) = .ok (c && d) S := by cases c <;> rfl
theorem or_ok {c d : Bool} : (if c = true then Out.ok true S else Out.ok d S) = .ok (c || d) S := by cases c <;> rfl
theorem wp_mono {o : Out α} (h : wp o Q E) (q : ∀ a S, Q a S → Q' a S) (e : ∀ x S, E x S → E' x S) : wp o Q' E' := by
  unfold wp at h ⊢
  cases o with
  | ok a S => exact q a S h
  | exc x S => exact e x S h
  | bad => exact h
theorem wp_eq {o : Out α} {a : α} (e : o = .ok a S) (h : Q a S) : wp o Q E := by rw [e, wp_ok]; exact h
theorem wp_exq {o : Out α} {x : Ex} (e : o = .exc x S) (h : E x S) : wp o Q E := by rw [e, wp_exc]; exact h
/-- what is shown by an outcome that is told exactly -/
theorem eq_of_wp {o : Out α} {a : α} (h : wp o (fun b S' => b = a ∧ S' = S) no2) : o = .ok a S := by
  unfold wp at h
  cases o with
  | ok b S' => obtain ⟨rfl, rfl⟩ := h; rfl
  | exc x S => exact h.elim
  | bad => exact h.elim
theorem ex_of_wp {o : Out α} {Q : α → Store → Prop} (h : wp o Q no2) : ∃ a S', o = .ok a S' ∧ Q a S' := by
  unfold wp at h
  cases o with
  | ok b S' => exact ⟨b, S', rfl, h⟩
  | exc x S => exact h.elim
  | bad => exact h.elim
/-! statements -/
theorem ws_nx : ws (.nx ρ S) P = P.nx ρ S := by unfold ws; rfl
theorem ws_bk : ws (.bk ρ S) P = P.bk ρ S := by unfold ws; rfl
theorem ws_ct : ws (.ct ρ S) P = P.ct ρ S := by unfold ws; rfl
theorem ws_rt {w : T} : ws (.rt w S) P = P.rt w S := by unfold ws; rfl
theorem ws_exc {e : Ex} : ws (.exc e ρ S) P = P.ex e S := by unfold ws; rfl
theorem ws_bad : ws .bad P = False := by unfold ws; rfl
theorem ws_then {o : Out β} {k : β → Store → OutS} : ws (o.thenS ρ k) P = wp o (fun a S => ws (k a S) P) P.ex := by cases o <;> simp only [Out.thenS, wp_ok, wp_exc, wp_bad, ws_exc, ws_bad]
theorem ws_ite {c : Prop} [Decidable c] {a b : OutS} : ws (if c then a else b) P = ((c → ws a P) ∧ (¬ c → ws b P)) := by
  by_cases h : c <;> simp [h]
theorem ws_seq {f h : FS} (k : ws (f ρ S) ⟨fun ρ' S' => ws (h ρ' S') P, P.bk, P.ct, P.rt, P.ex⟩) : ws (sSeq f h ρ S) P := by
  unfold sSeq
  cases e : f ρ S <;> rw [e] at k <;> simp only [ws_nx, ws_bk, ws_ct, ws_rt, ws_exc, ws_bad] at k ⊢ <;> exact k
theorem ws_mono {o : OutS} {P' : Po} (h : ws o P) (n : ∀ ρ S, P.nx ρ S → P'.nx ρ S) (b : ∀ ρ S, P.bk ρ S → P'.bk ρ S) (c : ∀ ρ S, P.ct ρ S → P'.ct ρ S) (r : ∀ w S, P.rt w S → P'.rt w S) (x : ∀ e S, P.ex e S → P'.ex e S) : ws o P' := by
  unfold ws at h ⊢
  cases o with
  | nx ρ S => exact n ρ S h
  | bk ρ S => exact b ρ S h
  | ct ρ S => exact c ρ S h
  | rt w S => exact r w S h
  | exc e ρ S => exact x e S h
  | bad => exact h
theorem wp_toOut {o : OutS} {Q : T → Store → Prop} (h : ws o ⟨fun _ S => Q .non S, no2, no2, Q, E⟩) : wp o.toOut Q E := by
  cases o <;> simp only [ws_nx, ws_bk, ws_ct, ws_rt, ws_exc, ws_bad, OutS.toOut, wp_ok, wp_exc, wp_bad, no2] at h ⊢ <;> exact h
theorem wp_def {np n : Nat} {body : FS} {args : List T} {Q : T → Store → Prop} (hl : args.length = np) (h : ws (body (startE n args) S) ⟨fun _ S => Q .non S, no2, no2, Q, E⟩) : wp (runDef np n body args S) Q E := by
  unfold runDef
  rw [if_pos hl]
  exact wp_toOut h
theorem ws_sFor {i : FI} {g : FG} {f : FS} : ws (sFor i g f ρ S) P = wp (i ρ S) (fun it S1 => ws (forL it.chk g f it.ws ρ S1) P) P.ex := by
  unfold sFor
  rw [ws_then]
theorem wp_fLc {vs : List Nat} {i : FI} {g : FG} {t : FT} {f : FE} {Q : T → Store → Prop} : wp (fLc vs i g t f ρ S) Q E = wp (i ρ S) (fun it S1 => wp (lcL it.chk g t f (wipeE ρ vs) S1.length it.ws (S1 ++ [.lst []])) Q E) E := by
  unfold fLc
  rw [wp_bind]
theorem wp_outI {o : Option Its} {Q : Its → Store → Prop} : wp (outI o S) Q E = match o with
    | some it => Q it S
    | none => False := by cases o <;> simp only [outI, wp_ok, wp_bad]
theorem wp_outI_some {it : Its} {Q : Its → Store → Prop} : wp (outI (some it) S) Q E = Q it S := by simp only [outI, wp_ok]
theorem wp_rng1 {j : Int} {Q : Its → Store → Prop} : wp (outI (rng1 [.int j]) S) Q E = (rOk j = true ∧ Q ⟨rngT 0 j.toNat, []⟩ S) := by
  show wp (outI (if rOk j = true then some ⟨rngT 0 j.toNat, []⟩ else none) S) Q E = _
  by_cases h : rOk j = true <;> simp [h, outI, wp_ok, wp_bad]
theorem wp_rng2 {i j : Int} {Q : Its → Store → Prop} : wp (outI (rng2 [.int i, .int j]) S) Q E = ((rOk i = true ∧ rOk j = true) ∧ Q ⟨rngT i (j - i).toNat, []⟩ S) := by
  show wp (outI (if rOk i = true ∧ rOk j = true then some ⟨rngT i (j - i).toNat, []⟩ else none) S) Q E = _
  by_cases h : rOk i = true ∧ rOk j = true <;> simp [h, outI, wp_ok, wp_bad]
theorem rOk_of {j : Int} (h : -(2 ^ 62) ≤ j ∧ j < 2 ^ 62) : rOk j = true := decide_eq_true h
/-! loops -/
theorem ws_for {i : FI} {g : FG} {f : FS} (h : wp (i ρ S) (fun it S1 => ws (forL it.chk g f it.ws ρ S1) P) P.ex) : ws (sFor i g f ρ S) P := by
  unfold sFor
  rw [ws_then]
  exact h
theorem wl_nil {chk : List (Nat × List T)} {g : FG} {f : FS} (hc : chkOk S chk = true) (h : P.nx ρ S) : ws (forL chk g f [] ρ S) P := by
  rw [forL, if_pos hc, ws_nx]
  exact h
theorem wl_cons {chk : List (Nat × List T)} {g : FG} {f : FS} {w : T} {xs : List T} (hc : chkOk S chk = true)
    (h : wp (g w ρ S) (fun ρ1 S1 => ws (f ρ1 S1) ⟨fun ρ2 S2 => ws (forL chk g f xs ρ2 S2) P, P.nx, fun ρ2 S2 => ws (forL chk g f xs ρ2 S2) P, P.rt, P.ex⟩) P.ex) : ws (forL chk g f (w :: xs) ρ S) P := by
  rw [forL, if_pos hc, ws_then]
  refine wp_mono h (fun ρ1 S1 k => ?_) fun _ _ k => k
  cases e : f ρ1 S1 <;> rw [e] at k <;> simp only [ws_nx, ws_bk, ws_ct, ws_rt, ws_exc, ws_bad] at k ⊢ <;> exact k
/-- by an invariant over the number of turns -/
theorem wl_inv {chk : List (Nat × List T)} {g : FG} {f : FS} (I : Nat → Env → Store → Prop) (hc : ∀ k ρ S, I k ρ S → chkOk S chk = true) : ∀ (xs : List T) (n : Nat) (ρ : Env) (S : Store), I n ρ S →
    (∀ k w, xs[k]? = some w → ∀ ρ S, I (n + k) ρ S → wp (g w ρ S) (fun ρ1 S1 => ws (f ρ1 S1) ⟨I (n + k + 1), P.nx, I (n + k + 1), P.rt, P.ex⟩) P.ex) → (∀ ρ S, I (n + xs.length) ρ S → P.nx ρ S) → ws (forL chk g f xs ρ S) P
  | [], n, ρ, S, h, _, q => wl_nil (hc n ρ S h) (q ρ S h)
  | w :: xs, n, ρ, S, h, st, q => wl_cons (hc n ρ S h) (by
    have go : ∀ ρ S, I (n + 1) ρ S → ws (forL chk g f xs ρ S) P := fun ρ S h => wl_inv I hc xs (n + 1) ρ S h
      (fun k w e ρ S h => by
        have := st (k + 1) w (by simpa using e) ρ S (by rw [show n + (k + 1) = n + 1 + k by omega]; exact h)
        rw [show n + (k + 1) + 1 = n + 1 + k + 1 by omega] at this
        exact this)
      (fun ρ S h => q ρ S (by rw [List.length_cons, show n + (xs.length + 1) = n + 1 + xs.length by omega]; exact h))
    refine wp_mono (st 0 w rfl ρ S h) (fun ρ1 S1 k => ?_) fun _ _ k => k
    exact ws_mono k (fun ρ S h => go ρ S h) (fun _ _ h => h) (fun ρ S h => go ρ S h) (fun _ _ h => h) fun _ _ h => h)
theorem wl_ix {chk : List (Nat × List T)} {g : FG} {f : FS} (I : Nat → Env → Store → Prop) {xs : List T} (h : I 0 ρ S) (hc : ∀ k ρ S, I k ρ S → chkOk S chk = true)
    (st : ∀ k w, xs[k]? = some w → ∀ ρ S, I k ρ S → wp (g w ρ S) (fun ρ1 S1 => ws (f ρ1 S1) ⟨I (k + 1), P.nx, I (k + 1), P.rt, P.ex⟩) P.ex) (q : ∀ ρ S, I xs.length ρ S → P.nx ρ S) : ws (forL chk g f xs ρ S) P :=
  wl_inv I hc xs 0 ρ S h (fun k w e ρ S h => by
    have h' : I k ρ S := by rw [Nat.zero_add] at h; exact h
    have := st k w e ρ S h'
    rw [Nat.zero_add]
    exact this) fun ρ S h => q ρ S (by rw [Nat.zero_add] at h; exact h)
theorem wl_all {chk : List (Nat × List T)} {g : FG} {f : FS} (I : Env → Store → Prop) {xs : List T} (h : I ρ S) (hc : ∀ ρ S, I ρ S → chkOk S chk = true)
    (st : ∀ w ∈ xs, ∀ ρ S, I ρ S → wp (g w ρ S) (fun ρ1 S1 => ws (f ρ1 S1) ⟨I, P.nx, I, P.rt, P.ex⟩) P.ex) (q : ∀ ρ S, I ρ S → P.nx ρ S) : ws (forL chk g f xs ρ S) P :=
  wl_ix (fun _ => I) h (fun _ => hc) (fun k w e => st w (List.mem_of_getElem? e)) q
/-- a while by an invariant and a bound of the turns left -/
theorem ww_inv {t : FT} {f : FS} (I : Nat → Env → Store → Prop) : ∀ (n m : Nat) (ρ : Env) (S : Store), m < n → I m ρ S →
    (∀ k ρ S, I k ρ S → wp (t ρ S) (fun b S1 => (b = true → ∃ j, k = j + 1 ∧ ws (f ρ S1) ⟨I j, P.nx, I j, P.rt, P.ex⟩) ∧ (b = false → P.nx ρ S1)) P.ex) → ws (whileN t f n ρ S) P
  | 0, m, _, _, h, _, _ => by omega
  | n + 1, m, ρ, S, h, hI, st => by
    rw [whileN, ws_then]
    refine wp_mono (st m ρ S hI) (fun b S1 k => ?_) fun _ _ k => k
    cases b with
    | false =>
      rw [if_neg (by decide), ws_nx]
      exact k.2 rfl
    | true =>
      obtain ⟨j, hj, k⟩ := k.1 rfl
      have go : ∀ ρ S, I j ρ S → ws (whileN t f n ρ S) P := fun ρ S hI => ww_inv I n j ρ S (by omega) hI st
      rw [if_pos rfl]
      cases e : f ρ S1 <;> rw [e] at k <;> simp only [ws_nx, ws_bk, ws_ct, ws_rt, ws_exc, ws_bad] at k ⊢
      · exact go _ _ k
      · exact k
      · exact k
      · exact go _ _ k
      · exact k
/-- a comprehension by an invariant -/
theorem wc_inv {chk : List (Nat × List T)} {g : FG} {t : FT} {f : FE} {D : Nat} {Q : T → Store → Prop} (I : Nat → List T → Store → Prop) (hc : ∀ k acc S, I k acc S → chkOk S chk = true ∧ S[D]? = some (.lst acc)) :
    ∀ (xs : List T) (n : Nat) (acc : List T) (S : Store), acc.length + xs.length ≤ line → I n acc S →
    (∀ k w, xs[k]? = some w → ∀ acc S, I (n + k) acc S → wp (g w ρ S) (fun ρ1 S1 => wp (t ρ1 S1) (fun b S2 => (b = true → wp (f ρ1 S2) (fun y S3 => S3[D]? = some (.lst acc) ∧ I (n + k + 1) (acc ++ [y]) (S3.set D (.lst (acc ++ [y])))) no2) ∧ (b = false → I (n + k + 1) acc S2)) no2) no2) →
    (∀ acc' S, I (n + xs.length) acc' S → Q (.ref D) S) → wp (lcL chk g t f ρ D xs S) Q E
  | [], n, acc, S, hl, h, _, q => by
    rw [lcL, if_pos (hc n acc S h).1, wp_ok]
    exact q acc S h
  | w :: xs, n, acc, S, hl, h, st, q => by
    rw [List.length_cons] at hl
    have go : ∀ acc1 S, acc1.length ≤ acc.length + 1 → I (n + 1) acc1 S → wp (lcL chk g t f ρ D xs S) Q E := fun acc1 S hl1 h => wc_inv I hc xs (n + 1) acc1 S (by omega) h
      (fun k w e acc S h => by
        have := st (k + 1) w (by simpa using e) acc S (by rw [show n + (k + 1) = n + 1 + k by omega]; exact h)
        rw [show n + (k + 1) + 1 = n + 1 + k + 1 by omega] at this
        exact this)
      (fun acc S h => q acc S (by rw [List.length_cons, show n + (xs.length + 1) = n + 1 + xs.length by omega]; exact h))
    rw [lcL, if_pos (hc n acc S h).1]
    have h0 := st 0 w rfl acc S h
    cases e1 : g w ρ S with
    | exc _ _ => rw [e1, wp_exc] at h0; exact h0.elim
    | bad => rw [e1, wp_bad] at h0; exact h0.elim
    | ok ρ1 S1 =>
      rw [e1, wp_ok] at h0
      show wp (match t ρ1 S1 with
        | .ok true S2 => (match f ρ1 S2 with
          | .ok y S3 => match putIn D y S3 with
            | some S4 => lcL chk g t f ρ D xs S4
            | none => .bad
          | _ => .bad)
        | .ok false S2 => lcL chk g t f ρ D xs S2
        | _ => .bad) Q E
      cases e2 : t ρ1 S1 with
      | exc _ _ => rw [e2, wp_exc] at h0; exact h0.elim
      | bad => rw [e2, wp_bad] at h0; exact h0.elim
      | ok b S2 =>
        rw [e2, wp_ok] at h0
        cases b with
        | false => exact go acc S2 (by omega) (h0.2 rfl)
        | true =>
          have h1 := h0.1 rfl
          show wp (match f ρ1 S2 with
          | .ok y S3 => match putIn D y S3 with
            | some S4 => lcL chk g t f ρ D xs S4
            | none => .bad
          | _ => .bad) Q E
          cases e3 : f ρ1 S2 with
          | exc _ _ => rw [e3, wp_exc] at h1; exact h1.elim
          | bad => rw [e3, wp_bad] at h1; exact h1.elim
          | ok y S3 =>
            rw [e3, wp_ok] at h1
            obtain ⟨h2, h3⟩ := h1
            have hp : putIn D y S3 = some (S3.set D (.lst (acc ++ [y]))) := by
              unfold putIn
              rw [h2]
              show (if acc.length < line then some (S3.set D (.lst (acc ++ [y]))) else none) = _
              rw [if_pos (by omega)]
            show wp (match putIn D y S3 with
            | some S4 => lcL chk g t f ρ D xs S4
            | none => .bad) Q E
            rw [hp]
            exact go (acc ++ [y]) _ (by simp) h3
/-- the first thing told on a walk -/
def firstHit (h : Nat → T → Option T) : Nat → List T → Option T
  | _, [] => none
  | n, w :: xs => match h n w with
    | some v => some v
    | none => firstHit h (n + 1) xs
theorem wl_first {chk : List (Nat × List T)} {g : FG} {f : FS} (h : Nat → T → Option T) (I : Env → Store → Prop) (J : Store → Prop) (hc : ∀ ρ S, I ρ S → chkOk S chk = true) : ∀ (xs : List T) (n : Nat) (ρ : Env) (S : Store), I ρ S →
    (∀ k w, xs[k]? = some w → ∀ ρ S, I ρ S → wp (g w ρ S) (fun ρ1 S1 => ws (f ρ1 S1) (match h (n + k) w with
      | some v => ⟨no2, no2, no2, fun u S' => u = v ∧ J S', no2⟩
      | none => ⟨I, no2, I, no2, no2⟩)) no2) →
    (∀ v, firstHit h n xs = some v → ∀ S', J S' → P.rt v S') → (firstHit h n xs = none → ∀ ρ S, I ρ S → P.nx ρ S) → ws (forL chk g f xs ρ S) P
  | [], n, ρ, S, hI, _, _, q => wl_nil (hc ρ S hI) (q rfl ρ S hI)
  | w :: xs, n, ρ, S, hI, st, r, q => by
    refine wl_cons (hc ρ S hI) ?_
    have h0 := st 0 w rfl ρ S hI
    refine wp_mono h0 (fun ρ1 S1 k => ?_) fun _ _ z => z.elim
    cases e : h n w with
    | some v =>
      have e' : h (n + 0) w = some v := e
      rw [e'] at k
      have hv : firstHit h n (w :: xs) = some v := by rw [firstHit, e]
      exact ws_mono k (fun _ _ z => z.elim) (fun _ _ z => z.elim) (fun _ _ z => z.elim) (fun u S' z => by rw [z.1]; exact r v hv S' z.2) fun _ _ z => z.elim
    | none =>
      have e' : h (n + 0) w = none := e
      rw [e'] at k
      have hv : firstHit h n (w :: xs) = firstHit h (n + 1) xs := by rw [firstHit, e]
      have go : ∀ ρ S, I ρ S → ws (forL chk g f xs ρ S) P := fun ρ S hI => wl_first h I J hc xs (n + 1) ρ S hI
        (fun k w e ρ S hI => by
          have := st (k + 1) w (by simpa using e) ρ S hI
          rw [show n + (k + 1) = n + 1 + k by omega] at this
          exact this)
        (fun v z => r v (by rw [hv]; exact z)) fun z => q (by rw [hv]; exact z)
      exact ws_mono k (fun ρ S z => go ρ S z) (fun _ _ z => z.elim) (fun ρ S z => go ρ S z) (fun _ _ z => z.elim) fun _ _ z => z.elim
end
/-! lists that are written down -/
def intsB (lo hi : Int) : List T → Bool
  | [] => true
  | .int i :: r => decide (lo ≤ i) && decide (i ≤ hi) && intsB lo hi r
  | _ :: _ => false
theorem ints_of {lo hi : Int} : ∀ {xs : List T} {x : T}, x ∈ xs → intsB lo hi xs = true → ∃ i, x = .int i ∧ lo ≤ i ∧ i ≤ hi
  | [], _, h, _ => by cases h
  | .int i :: r, x, h, e => by
    simp only [intsB, Bool.and_eq_true, decide_eq_true_eq] at e
    rcases List.mem_cons.mp h with z | z
    · exact ⟨i, z, e.1.1, e.1.2⟩
    · exact ints_of z e.2
  | .non :: _, _, _, e => by cases e
  | .bl _ :: _, _, _, e => by cases e
  | .str _ :: _, _, _, e => by cases e
  | .tup _ :: _, _, _, e => by cases e
  | .ref _ :: _, _, _, e => by cases e
def strsB (p : Str → Bool) : List T → Bool
  | [] => true
  | .str i :: r => p i && strsB p r
  | _ :: _ => false
theorem strs_of {p : Str → Bool} : ∀ {xs : List T} {x : T}, x ∈ xs → strsB p xs = true → ∃ z, x = .str z ∧ p z = true
  | [], _, h, _ => by cases h
  | .str i :: r, x, h, e => by
    simp only [strsB, Bool.and_eq_true] at e
    rcases List.mem_cons.mp h with z | z
    · exact ⟨i, z, e.1⟩
    · exact strs_of z e.2
  | .non :: _, _, _, e => by cases e
  | .bl _ :: _, _, _, e => by cases e
  | .int _ :: _, _, _, e => by cases e
  | .tup _ :: _, _, _, e => by cases e
  | .ref _ :: _, _, _, e => by cases e
end Fl

set_option Elab.async false
set_option linter.all false
set_option maxRecDepth 100000
set_option maxHeartbeats 4000000
/-! Fl17: xs[::-1], sorted(texts). -/
namespace Fl
open PySem PySem.Spec PyProof.Rows L2
section
variable {B : Bd} {X : Cx} {W : WX} {a : Expr} {fa : FE} {pos : Pos}
theorem Reps.reverse {K : PySem.W.Frag} {H : Hp} {ι : List Addr} : ∀ {vs : List V} {ws : List T}, Reps K H ι vs ws → Reps K H ι vs.reverse ws.reverse
  | _, _, .nil => .nil
  | _, _, .cons h t => by
    rw [List.reverse_cons, List.reverse_cons]
    exact (Reps.reverse t).append (.cons h .nil)
def fRevL (f : FE) : FE := fun ρ S => (f ρ S).bind fun a S1 => match a with
  | .ref n => match getL S1 n with
    | some c => .ok (.ref S1.length) (S1 ++ [.lst c.reverse])
    | none => .bad
  | _ => .bad
theorem e_revL {k : Nat} {p1 p2 p3 : Pos} (ha : PE X a (lift (gX B X) W fa)) : PE X (.Subscript a (.Slice none none (some (.UnaryOp .USub (.Constant (.int 1) k p1) p2)) p3) pos) (lift (gX B X) W (fRevL fa)) :=
  PE.imp (pe_revL ha) fun σ H Q h => h.bind fun v w S1 H1 ι1 ρ s1 e1 r1 p => by
    have r1 : Rep X.K H1 ι1 v w := r1
    cases r1 with
    | @ref n a h =>
      have p : Post (gX B X) W σ ι1 H1 (match getL S1 n with
        | some c => .ok (.ref S1.length) (S1 ++ [.lst c.reverse])
        | none => .bad) Q := p
      cases hc : getL S1 n with
      | none => rw [hc] at p; exact p.elim
      | some c =>
        rw [hc] at p
        obtain ⟨vs, h3, h4⟩ := SRel.seq (B := B) s1 hc h
        exact ⟨a, vs, rfl, h3, PostO.lst (g := gX B X) p s1 h4.reverse⟩
    | _ => exact p.elim
/-! ### sorted texts -/
def sLe (a b : Str) : Bool := !ltCps b.cps.toList a.cps.toList
def sortS (xs : List Str) : List Str := xs.mergeSort sLe
theorem ltCps_eq : ∀ a b : List Nat, ltCps a b = decide (a < b)
  | [], [] => by simp [ltCps]
  | [], _ :: _ => by simp [ltCps]
  | _ :: _, [] => by simp [ltCps]
  | x :: a, y :: b => by
    rw [ltCps, ltCps_eq a b]
    by_cases h1 : x < y
    · simp [h1, List.cons_lt_cons_iff]
    · by_cases h2 : x = y
      · subst h2
        simp [List.cons_lt_cons_iff]
      · have h3 : y < x := by omega
        simp [h1, h2, List.cons_lt_cons_iff]
theorem sLe_iff {a b : Str} : sLe a b = true ↔ a.cps.toList ≤ b.cps.toList := by
  unfold sLe
  rw [ltCps_eq]
  simp
theorem sLe_trans (a b c : Str) (h : sLe a b = true) (k : sLe b c = true) : sLe a c = true := sLe_iff.mpr (List.le_trans (sLe_iff.mp h) (sLe_iff.mp k))
theorem sLe_total (a b : Str) : (sLe a b || sLe b a) = true := by
  rcases List.le_total a.cps.toList b.cps.toList with h | h
  · rw [sLe_iff.mpr h]; rfl
  · rw [sLe_iff.mpr h]; simp
theorem sLe_antisymm {a b : Str} (h : sLe a b = true) (k : sLe b a = true) : a = b := by
  have := List.le_antisymm (sLe_iff.mp h) (sLe_iff.mp k)
  obtain ⟨a⟩ := a
  obtain ⟨b⟩ := b
  congr 1
  exact Array.toList_inj.mp this
theorem risingS_pw : ∀ (p : Str) (l : List Str), risingS p l = true → (p :: l).Pairwise fun a b => sLe a b = true
  | p, [], _ => by simp
  | p, x :: r, h => by
    have h : (!ltCps x.cps.toList p.cps.toList && risingS x r) = true := h
    rw [Bool.and_eq_true] at h
    have ih := risingS_pw x r h.2
    refine List.pairwise_cons.mpr ⟨fun y hy => ?_, ih⟩
    rcases List.mem_cons.mp hy with rfl | hy
    · exact h.1
    · exact sLe_trans p x y h.1 ((List.pairwise_cons.mp ih).1 y hy)
theorem sortS_pw (xs : List Str) : (sortS xs).Pairwise fun a b => sLe a b = true := List.pairwise_mergeSort sLe_trans sLe_total xs
theorem sortS_perm (xs : List Str) : (sortS xs).Perm xs := List.mergeSort_perm xs sLe
theorem sortS_uniq {xs ys : List Str} (h : ys.Perm xs) (k : sortedS ys = true) : ys = sortS xs := by
  have pw : ys.Pairwise fun a b => sLe a b = true := by
    cases ys with
    | nil => exact List.Pairwise.nil
    | cons x r => exact risingS_pw x r k
  exact List.Perm.eq_of_pairwise (fun a b _ _ h k => sLe_antisymm h k) pw (sortS_pw xs) (h.trans (sortS_perm xs).symm)
theorem strs_rep {K : PySem.W.Frag} {H : Hp} {ι : List Addr} : ∀ ys : List Str, Reps K H ι (ys.map V.str) (ys.map T.str)
  | [] => .nil
  | y :: ys => .cons (.str y) (strs_rep ys)
def nSortS : ON
  | [a], S => match a with
    | .ref n => match getL S n with
      | some c => match strsOf c with
        | some ys => if ys.length < 64 then some (.ref S.length, S ++ [.lst ((sortS ys).map T.str)]) else none
        | none => none
      | none => none
    | _ => none
  | _, _ => none
theorem o_sortS : JN B X (.builtin "sorted") nSortS := by
  intro pins s σ H xs us Q I r ⟨ι, S, as, sr, ra, p⟩
  cases ra with
  | nil => exact p.elim
  | cons hx t => cases t with
    | nil => cases hx with
      | @ref n a h =>
        have p : PostO (gX B X) ι H (match getL S n with
          | some c => match strsOf c with
            | some ys => if ys.length < 64 then some (.ref S.length, S ++ [.lst ((sortS ys).map T.str)]) else none
            | none => none
          | none => none) Q := p
        cases hc : getL S n with
        | none => rw [hc] at p; exact p.elim
        | some c =>
          rw [hc] at p
          replace p : PostO (gX B X) ι H (match strsOf c with
            | some ys => if ys.length < 64 then some (.ref S.length, S ++ [.lst ((sortS ys).map T.str)]) else none
            | none => none) Q := p
          cases hy : strsOf c with
          | none => rw [hy] at p; exact p.elim
          | some ys =>
            rw [hy] at p
            obtain ⟨hz, p⟩ := PostO.ite p
            obtain ⟨vs, h3, h4⟩ := SRel.seq (B := B) sr hc h
            have e := strsOf_ok h4 hy
            subst e
            refine cr_sortedS pins s σ H _ us Q I r ⟨a, ys, rfl, h3, hz, fun zs p2 hp hs hn => ?_⟩
            rw [sortS_uniq hp hs]
            exact PostO.lst (g := gX B X) p sr (strs_rep _) p2 hn
      | _ => exact p.elim
    | cons _ _ => cases hx <;> exact p.elim
end
end Fl

set_option Elab.async false
set_option linter.all false
set_option maxRecDepth 100000
set_option maxHeartbeats 1000000
/-! Fl18: letters joined. -/
namespace Fl
open PySem
def CsP (p : Nat → Prop) (s : Str) : Prop := ∀ c ∈ s.cps.toList, p c
theorem empty_list : ("" : Str).cps.toList = [] := by decide
theorem strs_oneP {p : Nat → Prop} : ∀ ys : List T, (∀ y ∈ ys, ∃ c, y = .str ⟨#[c]⟩ ∧ p c) → ∃ xs, strsOf ys = some xs ∧ xs.length = ys.length ∧ ∀ x ∈ xs, CsP p x ∧ x.length = 1
  | [], _ => ⟨[], rfl, rfl, fun x hx => by cases hx⟩
  | y :: ys, h => by
    obtain ⟨c, rfl, hc⟩ := h y List.mem_cons_self
    obtain ⟨xs, e, l, k⟩ := strs_oneP ys fun z hz => h z (List.mem_cons_of_mem _ hz)
    refine ⟨⟨#[c]⟩ :: xs, ?_, by simp [l], fun x hx => ?_⟩
    · show (strsOf ys).map _ = _
      rw [e]
      rfl
    · rcases List.mem_cons.mp hx with rfl | hx
      · exact ⟨fun d hd => by
          have : d = c := by simpa using hd
          subst this
          exact hc, rfl⟩
      · exact k x hx
theorem join_oneP {p : Nat → Prop} : ∀ xs : List Str, (∀ x ∈ xs, CsP p x ∧ x.length = 1) → CsP p (Str.join "" xs) ∧ (Str.join "" xs).length = xs.length
  | [], _ => ⟨fun c hc => (by cases hc), rfl⟩
  | [x], h => ⟨(h x (by simp)).1, (h x (by simp)).2⟩
  | x :: y :: r, h => by
    obtain ⟨a, l⟩ := join_oneP (y :: r) fun z hz => h z (List.mem_cons_of_mem _ hz)
    obtain ⟨b, m⟩ := h x List.mem_cons_self
    have ez : ("" : Str).length = 0 := by decide
    refine ⟨fun c hc => ?_, ?_⟩
    · have hc : c ∈ (x ++ "" ++ Str.join "" (y :: r)).cps.toList := hc
      rw [app_list, app_list, empty_list, List.append_nil] at hc
      rcases List.mem_append.mp hc with q | q
      · exact b c q
      · exact a c q
    · show (x ++ "" ++ Str.join "" (y :: r)).length = _
      rw [len_append, len_append, l, m, ez]
      simp only [List.length_cons]
      omega
theorem sum_oneP {p : Nat → Prop} : ∀ xs : List Str, (∀ x ∈ xs, CsP p x ∧ x.length = 1) → (xs.map (·.length)).sum = xs.length
  | [], _ => rfl
  | x :: xs, h => by
    have := sum_oneP xs fun z hz => h z (List.mem_cons_of_mem _ hz)
    have k := (h x List.mem_cons_self).2
    simp only [List.map_cons, List.sum_cons, this, k, List.length_cons]
    omega
theorem joinedP {p : Nat → Prop} {S : Store} {D : Nat} {ys : List T} (hD : S[D]? = some (.lst ys)) (h : ∀ y ∈ ys, ∃ c, y = .str ⟨#[c]⟩ ∧ p c) (hl : ys.length ≤ 1000) : ∃ s : Str, mJoin (.str "") [.ref D] S = some (.str s, S) ∧ CsP p s ∧ s.length = ys.length := by
  obtain ⟨xs, e, l, k⟩ := strs_oneP ys h
  obtain ⟨a, m⟩ := join_oneP xs k
  have ez : ("" : Str).length = 0 := by decide
  refine ⟨Str.join "" xs, ?_, a, by omega⟩
  have e0 : seqG S (.ref D) = some ys := by simp only [seqG, getL_lst hD]
  simp only [mJoin, e0, e]
  rw [if_pos (by rw [sum_oneP xs k, ez]; omega)]
  exact congrArg (fun z => some (T.str z, S)) (PySem.StrLaws.glued_eq_join _ xs)
theorem cut_len (z : Str) (lo hi : Option Int) : (L2.cutS z lo hi).length ≤ z.length := by
  rw [len_list, len_list]
  unfold L2.cutS
  simp only [List.length_drop, List.length_take]
  omega
theorem oneS_len (c : Nat) : (⟨#[c]⟩ : Str).length = 1 := rfl
theorem oAdd_str {x y : Str} {S : Store} (h : x.length + y.length ≤ line) : oAdd (.str x) (.str y) S = some (.str (x ++ y), S) := by
  show (if x.length + y.length ≤ line then some (T.str (x ++ y), S) else none) = _
  rw [if_pos h]
theorem oAdd_int {i j : Int} {S : Store} : oAdd (.int i) (.int j) S = some (.int (i + j), S) := rfl
theorem oAdd_tup {x y : List T} {S : Store} (h : x.length + y.length ≤ line) : oAdd (.tup x) (.tup y) S = some (.tup (x ++ y), S) := by
  show (if x.length + y.length ≤ line then some (T.tup (x ++ y), S) else none) = _
  rw [if_pos h]
theorem oAdd_lst {n m : Nat} {x y : List T} {S : Store} (hn : S[n]? = some (.lst x)) (hm : S[m]? = some (.lst y)) (h : x.length + y.length ≤ line) : oAdd (.ref n) (.ref m) S = some (.ref S.length, S ++ [.lst (x ++ y)]) := by
  show (match S[n]?, S[m]? with
    | some (.lst xs), some (.lst ys) => if xs.length + ys.length ≤ line then some (T.ref S.length, S ++ [Cell.lst (xs ++ ys)]) else none
    | _, _ => none) = _
  rw [hn, hm]
  exact if_pos h
theorem slice_str {z : Str} {S : Store} {lo hi : Option Int} (h : z.length ≤ line) : sliceG S (.str z) lo hi = some (.str (L2.cutS z lo hi), S) := by
  show (if z.length ≤ line then some (T.str (L2.cutS z lo hi), S) else none) = _
  rw [if_pos h]
section
variable {i j : Int} {x y : Str} {p q : Bool} {S : Store} {w : T} {ws : List T} {n : Nat}
theorem oEq_int : oEq (.int i) (.int j) S = some (.bl (decide (i = j)), S) := rfl
theorem oNe_int : oNe (.int i) (.int j) S = some (.bl (!decide (i = j)), S) := rfl
theorem oEq_str : oEq (.str x) (.str y) S = some (.bl (decide (x = y)), S) := rfl
theorem oNe_str : oNe (.str x) (.str y) S = some (.bl (!decide (x = y)), S) := rfl
theorem oEq_bl : oEq (.bl p) (.bl q) S = some (.bl (decide (p = q)), S) := rfl
theorem oIs_non : oIs w .non S = some (.bl (isNon w), S) := rfl
theorem oIsNot_non : oIsNot w .non S = some (.bl (!isNon w), S) := rfl
theorem isNon_non : isNon .non = true := rfl
theorem isNon_int : isNon (.int i) = false := rfl
theorem isNon_bl : isNon (.bl p) = false := rfl
theorem isNon_str : isNon (.str x) = false := rfl
theorem isNon_tup : isNon (.tup ws) = false := rfl
theorem isNon_ref : isNon (.ref n) = false := rfl
theorem tru_non : tru S .non = some false := rfl
theorem tru_bl : tru S (.bl p) = some p := rfl
theorem tru_int : tru S (.int i) = some (i != 0) := rfl
theorem tru_tup : tru S (.tup ws) = some (!ws.isEmpty) := rfl
theorem lenG_tup : lenG S (.tup ws) = some ws.length := rfl
theorem oLt_int : oLt (.int i) (.int j) S = some (.bl (decide (i < j)), S) := rfl
theorem oLt_str : oLt (.str x) (.str y) S = some (.bl (strLt x y), S) := rfl
theorem oNotIn_str : oNotIn (.str x) (.str y) S = some (.bl (!strIn x y), S) := rfl
theorem oIn_str : oIn (.str x) (.str y) S = some (.bl (strIn x y), S) := rfl
theorem seqG_tup : seqG S (.tup ws) = some ws := rfl
theorem seqG_ref : seqG S (.ref n) = getL S n := by
  show (match getL S n with
    | some c => some c
    | none => none) = _
  cases getL S n <;> rfl
theorem lenG_ref (h : getL S n = some ws) : lenG S (.ref n) = some ws.length := by
  show (match getL S n with
    | some c => some c.length
    | none => none) = _
  rw [h]
theorem iSeqG_tup : iSeqG S (.tup ws) = some ⟨ws, []⟩ := rfl
theorem iSeqG_ref (h : getL S n = some ws) : iSeqG S (.ref n) = some ⟨ws, [(n, ws)]⟩ := by
  show (match getL S n with
    | some c => some (⟨c, [(n, c)]⟩ : Its)
    | none => none) = _
  rw [h]
end
theorem cut_hiL {z : Str} {k : Nat} : (L2.cutS z none (some (k : Int))).cps.toList = z.cps.toList.take k := by
  unfold L2.cutS
  rw [HT.sIx_nat, HT.sIx_none, Nat.sub_zero, List.drop_zero, len_list]
  show z.cps.toList.take (min k z.cps.toList.length) = _
  rw [List.take_eq_take_iff]
  omega
theorem cut_loL {z : Str} {k : Nat} : (L2.cutS z (some (k : Int)) none).cps.toList = z.cps.toList.drop k := by
  unfold L2.cutS
  rw [HT.sIx_nat, HT.sIx_none, len_list]
  show (z.cps.toList.drop (min k z.cps.toList.length)).take (z.cps.toList.length - min k z.cps.toList.length) = _
  rw [List.take_of_length_le (by simp)]
  by_cases h : k ≤ z.cps.toList.length
  · rw [Nat.min_eq_left h]
  · rw [Nat.min_eq_right (by omega), List.drop_eq_nil_of_le (Nat.le_refl _), List.drop_eq_nil_of_le (by omega)]
theorem cut_mdL {z : Str} {k m : Nat} : (L2.cutS z (some (k : Int)) (some (m : Int))).cps.toList = (z.cps.toList.take m).drop k := by
  unfold L2.cutS
  rw [HT.sIx_nat, HT.sIx_nat, len_list]
  show (z.cps.toList.drop (min k z.cps.toList.length)).take (min m z.cps.toList.length - min k z.cps.toList.length) = _
  rw [List.drop_take]
  by_cases h : k ≤ z.cps.toList.length
  · rw [Nat.min_eq_left h, List.take_eq_take_iff, List.length_drop]
    omega
  · rw [Nat.min_eq_right (by omega : z.cps.toList.length ≤ k), List.drop_eq_nil_of_le (Nat.le_refl _), List.drop_eq_nil_of_le (by omega : z.cps.toList.length ≤ k)]
    simp
theorem cut_hi_len {z : Str} {i : Int} (h : 0 ≤ i) : (L2.cutS z none (some i)).length = min i.toNat z.length := by
  obtain ⟨k, rfl⟩ := Int.eq_ofNat_of_zero_le h
  rw [len_list, cut_hiL, List.length_take, len_list]
  rfl
theorem cut_lo_len {z : Str} {i : Int} (h : 0 ≤ i) : (L2.cutS z (some i) none).length = z.length - i.toNat := by
  obtain ⟨k, rfl⟩ := Int.eq_ofNat_of_zero_le h
  rw [len_list, cut_loL, List.length_drop, len_list]
  rfl
theorem ix_lst {S : Store} {r k : Nat} {ws : List T} {w : T} (h : getL S r = some ws) (e : ws[k]? = some w) : oIx (.ref r) (.int (k : Int)) S = some (w, S) := by
  have hk := (List.getElem?_eq_some_iff.mp e).1
  have a : L2.atI ws (k : Int) = some w := by rw [atI_in ws k hk]; exact e
  show ((match getL S r with
    | some c => L2.atI c (k : Int)
    | none => none).map fun w => (w, S)) = _
  rw [h]
  show ((L2.atI ws (k : Int)).map fun w => (w, S)) = _
  rw [a]
  rfl
theorem ix_tup {S : Store} {k : Nat} {ws : List T} {w : T} (e : ws[k]? = some w) : oIx (.tup ws) (.int (k : Int)) S = some (w, S) := by
  have hk := (List.getElem?_eq_some_iff.mp e).1
  have a : L2.atI ws (k : Int) = some w := by rw [atI_in ws k hk]; exact e
  show ((L2.atI ws (k : Int)).map fun w => (w, S)) = _
  rw [a]
  rfl
theorem set_lst {S : Store} {r k : Nat} {ws : List T} {w : T} (h : S[r]? = some (.lst ws)) (hk : k < ws.length) : setG S (.ref r) (.int (k : Int)) w = some (S.set r (.lst (ws.set k w))) := by
  have a : L2.ixN ws.length (k : Int) = some k := by
    unfold L2.ixN
    rw [if_pos (Int.natCast_nonneg k), if_pos (by omega)]
    simp
  show (match S[r]? with
    | some (.lst ws) => (L2.ixN ws.length (k : Int)).map fun j => S.set r (.lst (ws.set j w))
    | _ => none) = _
  rw [h]
  show ((L2.ixN ws.length (k : Int)).map fun j => S.set r (.lst (ws.set j w))) = _
  rw [a]
  rfl
theorem wp_rng1' {j : Int} {S : Store} {Q : Its → Store → Prop} {E : Ex → Store → Prop} (h : 0 ≤ j) (h2 : j < 2 ^ 62) (q : Q ⟨rngJ 0 j.toNat, []⟩ S) : wp (outI (rng1 [.int j]) S) Q E := by
  rw [wp_rng1, rngT_J]
  exact ⟨rOk_of ⟨by omega, h2⟩, q⟩
theorem rngJ_at {j m k : Nat} {w : T} (h : (rngJ j m)[k]? = some w) : k < m ∧ w = .int ((j + k : Nat) : Int) := by
  unfold rngJ at h
  rw [List.getElem?_map] at h
  by_cases hk : k < m
  · rw [List.getElem?_range' hk] at h
    simp at h
    refine ⟨hk, ?_⟩
    rw [← h]
    simp
  · rw [List.getElem?_eq_none (by simpa using hk)] at h
    cases h
theorem rngJ_len {j m : Nat} : (rngJ j m).length = m := by simp [rngJ]
theorem firstHit_congr {h h' : Nat → T → Option T} : ∀ (xs ys : List T) (n : Nat), xs.length = ys.length → (∀ k x y, xs[k]? = some x → ys[k]? = some y → h (n + k) x = h' (n + k) y) → firstHit h n xs = firstHit h' n ys
  | [], [], _, _, _ => rfl
  | [], _ :: _, _, e, _ => by simp at e
  | _ :: _, [], _, e, _ => by simp at e
  | x :: xs, y :: ys, n, e, k => by
    have k0 : h n x = h' n y := k 0 x y rfl rfl
    have kr := firstHit_congr xs ys (n + 1) (by simpa using e) fun j a b ha hb => by
      have := k (j + 1) a b (by simpa using ha) (by simpa using hb)
      rw [show n + (j + 1) = n + 1 + j by omega] at this
      exact this
    rw [firstHit, firstHit, k0, kr]
theorem firstHit_none {h : Nat → T → Option T} : ∀ {xs : List T} {n : Nat}, firstHit h n xs = none → ∀ k x, xs[k]? = some x → h (n + k) x = none
  | x :: xs, n, e, 0, y, hy => by
    have : x = y := by simpa using hy
    subst this
    rw [firstHit] at e
    cases hh : h n x with
    | none => rfl
    | some v => rw [hh] at e; cases e
  | x :: xs, n, e, k + 1, y, hy => by
    rw [firstHit] at e
    cases hh : h n x with
    | some v => rw [hh] at e; cases e
    | none =>
      rw [hh] at e
      have := firstHit_none (n := n + 1) e k y (by simpa using hy)
      rw [show n + (k + 1) = n + 1 + k by omega]
      exact this
theorem iEnumGA_tup {S : Store} {ws : List T} : iEnumGA S [.tup ws] = some ⟨enumT ws, []⟩ := rfl
theorem iEnumGA_str {S : Store} {z : Str} : iEnumGA S [.str z] = some ⟨enumT (strT z), []⟩ := rfl
theorem iEnumGA_ref {S : Store} {n : Nat} {ws : List T} (h : getL S n = some ws) : iEnumGA S [.ref n] = some ⟨enumT ws, [(n, ws)]⟩ := by
  show (match getL S n with
    | some c => some (⟨enumT c, [(n, c)]⟩ : Its)
    | none => none) = _
  rw [h]
theorem enumT_at {ws : List T} {k : Nat} {w : T} (h : (enumT ws)[k]? = some w) : ∃ x, ws[k]? = some x ∧ w = .tup [.int (k : Int), x] := by
  unfold enumT at h
  rw [List.getElem?_map, List.getElem?_zipIdx] at h
  cases e : ws[k]? with
  | none => rw [e] at h; cases h
  | some x =>
    rw [e] at h
    simp at h
    exact ⟨x, rfl, h.symm⟩
theorem enumT_len {ws : List T} : (enumT ws).length = ws.length := by
  unfold enumT
  simp
end Fl

set_option Elab.async false
set_option linter.all false
set_option maxRecDepth 100000
set_option maxHeartbeats 4000000
/-! k04_labels_and_names: the defs, as functions; each keeps its function (printed by gen.py). -/
namespace Fl
open PySem PySem.Spec PyProof.Rows L2
abbrev P0 : Program := PySem.Challenge.pw_goodtill_k04_labels_and_names
def topS (i : Nat) : Stmt := P0.main.body.getD i (.Pass ⟨0, 0, 0, 0⟩)
abbrev s_label_fault : Stmt := topS 17
abbrev dd_label_fault : He.DefD := ⟨("label_fault", none), "label_fault", "label_fault", defArgs s_label_fault, defBody s_label_fault, defScope s_label_fault, [], []⟩
abbrev s_is_label : Stmt := topS 18
abbrev dd_is_label : He.DefD := ⟨("is_label", none), "is_label", "is_label", defArgs s_is_label, defBody s_is_label, defScope s_is_label, [], []⟩
abbrev s_name_fault : Stmt := topS 19
abbrev dd_name_fault : He.DefD := ⟨("name_fault", none), "name_fault", "name_fault", defArgs s_name_fault, defBody s_name_fault, defScope s_name_fault, [], []⟩
abbrev s_check_label : Stmt := topS 21
abbrev dd_check_label : He.DefD := ⟨("check_label", none), "check_label", "check_label", defArgs s_check_label, defBody s_check_label, defScope s_check_label, [], []⟩
abbrev s_check_name : Stmt := topS 22
abbrev dd_check_name : He.DefD := ⟨("check_name", none), "check_name", "check_name", defArgs s_check_name, defBody s_check_name, defScope s_check_name, [], []⟩
abbrev s_joined_name : Stmt := topS 23
abbrev dd_joined_name : He.DefD := ⟨("joined_name", none), "joined_name", "joined_name", defArgs s_joined_name, defBody s_joined_name, defScope s_joined_name, [], []⟩
abbrev s_law_box : Stmt := topS 25
abbrev dd_law_box : He.DefD := ⟨("_law_box", none), "_law_box", "_law_box", defArgs s_law_box, defBody s_law_box, defScope s_law_box, [], []⟩
abbrev s_law_take : Stmt := topS 26
abbrev dd_law_take : He.DefD := ⟨("_law_take", none), "_law_take", "_law_take", defArgs s_law_take, defBody s_law_take, defScope s_law_take, [], []⟩
abbrev s_law_pick : Stmt := topS 27
abbrev dd_law_pick : He.DefD := ⟨("_law_pick", none), "_law_pick", "_law_pick", defArgs s_law_pick, defBody s_law_pick, defScope s_law_pick, [], []⟩
abbrev s_law_label : Stmt := topS 28
abbrev dd_law_label : He.DefD := ⟨("_law_label", none), "_law_label", "_law_label", defArgs s_law_label, defBody s_law_label, defScope s_law_label, [], []⟩
abbrev s_law_sign : Stmt := topS 29
abbrev dd_law_sign : He.DefD := ⟨("_law_sign", none), "_law_sign", "_law_sign", defArgs s_law_sign, defBody s_law_sign, defScope s_law_sign, [], []⟩
abbrev s_law_bent : Stmt := topS 30
abbrev dd_law_bent : He.DefD := ⟨("_law_bent", none), "_law_bent", "_law_bent", defArgs s_law_bent, defBody s_law_bent, defScope s_law_bent, [], []⟩
abbrev s_law_odd : Stmt := topS 31
abbrev dd_law_odd : He.DefD := ⟨("_law_odd", none), "_law_odd", "_law_odd", defArgs s_law_odd, defBody s_law_odd, defScope s_law_odd, [], []⟩
abbrev s_law_text_fault : Stmt := topS 32
abbrev dd_law_text_fault : He.DefD := ⟨("_law_text_fault", none), "_law_text_fault", "_law_text_fault", defArgs s_law_text_fault, defBody s_law_text_fault, defScope s_law_text_fault, [], []⟩
abbrev s_law_name_fault : Stmt := topS 33
abbrev dd_law_name_fault : He.DefD := ⟨("_law_name_fault", none), "_law_name_fault", "_law_name_fault", defArgs s_law_name_fault, defBody s_law_name_fault, defScope s_law_name_fault, [], []⟩
abbrev s_law_same : Stmt := topS 34
abbrev dd_law_same : He.DefD := ⟨("_law_same", none), "_law_same", "_law_same", defArgs s_law_same, defBody s_law_same, defScope s_law_same, [], []⟩
abbrev s_law_heard_label : Stmt := topS 35
abbrev dd_law_heard_label : He.DefD := ⟨("_law_heard_label", none), "_law_heard_label", "_law_heard_label", defArgs s_law_heard_label, defBody s_law_heard_label, defScope s_law_heard_label, [], []⟩
abbrev s_law_heard_name : Stmt := topS 36
abbrev dd_law_heard_name : He.DefD := ⟨("_law_heard_name", none), "_law_heard_name", "_law_heard_name", defArgs s_law_heard_name, defBody s_law_heard_name, defScope s_law_heard_name, [], []⟩
abbrev s_law_label_right : Stmt := topS 37
abbrev dd_law_label_right : He.DefD := ⟨("_law_label_right", none), "_law_label_right", "_law_label_right", defArgs s_law_label_right, defBody s_law_label_right, defScope s_law_label_right, [], []⟩
abbrev s_law_name_right : Stmt := topS 38
abbrev dd_law_name_right : He.DefD := ⟨("_law_name_right", none), "_law_name_right", "_law_name_right", defArgs s_law_name_right, defBody s_law_name_right, defScope s_law_name_right, [], []⟩
abbrev s_law_labels : Stmt := topS 39
abbrev dd_law_labels : He.DefD := ⟨("_law_labels", none), "_law_labels", "_law_labels", defArgs s_law_labels, defBody s_law_labels, defScope s_law_labels, [], []⟩
abbrev s_law_joined : Stmt := topS 40
abbrev dd_law_joined : He.DefD := ⟨("_law_joined", none), "_law_joined", "_law_joined", defArgs s_law_joined, defBody s_law_joined, defScope s_law_joined, [], []⟩
abbrev s_law_spoilt : Stmt := topS 41
abbrev dd_law_spoilt : He.DefD := ⟨("_law_spoilt", none), "_law_spoilt", "_law_spoilt", defArgs s_law_spoilt, defBody s_law_spoilt, defScope s_law_spoilt, [], []⟩
abbrev s_law : Stmt := topS 42
abbrev dd_law : He.DefD := ⟨("law", none), "law", "law", defArgs s_law, defBody s_law, defScope s_law, [], []⟩
def fn : List He.DefD := [dd_label_fault, dd_is_label, dd_name_fault, dd_check_label, dd_check_name, dd_joined_name, dd_law_box, dd_law_take, dd_law_pick, dd_law_label, dd_law_sign, dd_law_bent, dd_law_odd, dd_law_text_fault, dd_law_name_fault, dd_law_same, dd_law_heard_label, dd_law_heard_name, dd_law_label_right, dd_law_name_right, dd_law_labels, dd_law_joined, dd_law_spoilt, dd_law]
def tf : List He.Defn := [("_law_label_right", none), ("_law_name_right", none)]
def xsA : List Str := ["BadFraction", "BadLabel", "BadName", "BadOctets", "BadEvent", "BadView", "BadRoster", "BadRun", "BadDeed", "BadText", "Refused"]
def ysA : List Str := ["OwnError", "BadFraction", "BadLabel", "BadName", "BadOctets", "BadEvent", "BadView", "BadRoster", "BadRun", "BadDeed", "BadText", "Refused"]
def xcA : List (Str × Str) := [("BadFraction", "at"), ("BadLabel", "at"), ("BadName", "at"), ("BadOctets", "at"), ("BadEvent", "at"), ("BadView", "at"), ("BadRoster", "at"), ("BadRun", "at"), ("BadDeed", "at"), ("BadText", "at"), ("Refused", "value")]
def frA : List Str := ["ValueError", "abs", "bool", "enumerate", "int", "isinstance", "len", "list", "max", "min", "range", "str", "tuple", "zip"]
def cvA : List (Str × T) := [("LETTERS", (.str "abcdefghijklmnopqrstuvwxyz")), ("MOST_LABELS", (.int 6)), ("MOST_SIGNS", (.int 8))]
abbrev HFt (P : Program) (w : World) (K : PySem.W.Frag) (mg : Str → Option Value) (base : Heap) : Prop := HF P w K mg base fn frA xcA xsA ysA tf cvA
section
variable {P : Program} {w : World} {K : PySem.W.Frag} {mg : Str → Option Value} {base : Heap}
theorem m_ValueError (hf : HFt P w K mg base) : mg "ValueError" = none := hf.fr _ (List.mem_of_getElem? (i := 0) rfl)
theorem bt_ValueError : bootBuiltins "ValueError" = some (.type "ValueError") := by decide +kernel
theorem m_abs (hf : HFt P w K mg base) : mg "abs" = none := hf.fr _ (List.mem_of_getElem? (i := 1) rfl)
theorem bt_abs : bootBuiltins "abs" = some (.builtin "abs") := by decide +kernel
theorem m_bool (hf : HFt P w K mg base) : mg "bool" = none := hf.fr _ (List.mem_of_getElem? (i := 2) rfl)
theorem bt_bool : bootBuiltins "bool" = some (.type "bool") := by decide +kernel
theorem m_enumerate (hf : HFt P w K mg base) : mg "enumerate" = none := hf.fr _ (List.mem_of_getElem? (i := 3) rfl)
theorem m_int (hf : HFt P w K mg base) : mg "int" = none := hf.fr _ (List.mem_of_getElem? (i := 4) rfl)
theorem bt_int : bootBuiltins "int" = some (.type "int") := by decide +kernel
theorem m_isinstance (hf : HFt P w K mg base) : mg "isinstance" = none := hf.fr _ (List.mem_of_getElem? (i := 5) rfl)
theorem bt_isinstance : bootBuiltins "isinstance" = some (.builtin "isinstance") := by decide +kernel
theorem m_len (hf : HFt P w K mg base) : mg "len" = none := hf.fr _ (List.mem_of_getElem? (i := 6) rfl)
theorem bt_len : bootBuiltins "len" = some (.builtin "len") := by decide +kernel
theorem m_list (hf : HFt P w K mg base) : mg "list" = none := hf.fr _ (List.mem_of_getElem? (i := 7) rfl)
theorem bt_list : bootBuiltins "list" = some (.type "list") := by decide +kernel
theorem m_max (hf : HFt P w K mg base) : mg "max" = none := hf.fr _ (List.mem_of_getElem? (i := 8) rfl)
theorem bt_max : bootBuiltins "max" = some (.builtin "max") := by decide +kernel
theorem m_min (hf : HFt P w K mg base) : mg "min" = none := hf.fr _ (List.mem_of_getElem? (i := 9) rfl)
theorem bt_min : bootBuiltins "min" = some (.builtin "min") := by decide +kernel
theorem m_range (hf : HFt P w K mg base) : mg "range" = none := hf.fr _ (List.mem_of_getElem? (i := 10) rfl)
theorem m_str (hf : HFt P w K mg base) : mg "str" = none := hf.fr _ (List.mem_of_getElem? (i := 11) rfl)
theorem bt_str : bootBuiltins "str" = some (.type "str") := by decide +kernel
theorem m_tuple (hf : HFt P w K mg base) : mg "tuple" = none := hf.fr _ (List.mem_of_getElem? (i := 12) rfl)
theorem bt_tuple : bootBuiltins "tuple" = some (.type "tuple") := by decide +kernel
theorem m_zip (hf : HFt P w K mg base) : mg "zip" = none := hf.fr _ (List.mem_of_getElem? (i := 13) rfl)
theorem xc_BadFraction : (("BadFraction", "at") : Str × Str) ∈ xcA := List.mem_of_getElem? (i := 0) rfl
theorem xc_BadLabel : (("BadLabel", "at") : Str × Str) ∈ xcA := List.mem_of_getElem? (i := 1) rfl
theorem xc_BadName : (("BadName", "at") : Str × Str) ∈ xcA := List.mem_of_getElem? (i := 2) rfl
theorem xc_BadOctets : (("BadOctets", "at") : Str × Str) ∈ xcA := List.mem_of_getElem? (i := 3) rfl
theorem xc_BadEvent : (("BadEvent", "at") : Str × Str) ∈ xcA := List.mem_of_getElem? (i := 4) rfl
theorem xc_BadView : (("BadView", "at") : Str × Str) ∈ xcA := List.mem_of_getElem? (i := 5) rfl
theorem xc_BadRoster : (("BadRoster", "at") : Str × Str) ∈ xcA := List.mem_of_getElem? (i := 6) rfl
theorem xc_BadRun : (("BadRun", "at") : Str × Str) ∈ xcA := List.mem_of_getElem? (i := 7) rfl
theorem xc_BadDeed : (("BadDeed", "at") : Str × Str) ∈ xcA := List.mem_of_getElem? (i := 8) rfl
theorem xc_BadText : (("BadText", "at") : Str × Str) ∈ xcA := List.mem_of_getElem? (i := 9) rfl
theorem xc_Refused : (("Refused", "value") : Str × Str) ∈ xcA := List.mem_of_getElem? (i := 10) rfl
theorem cv_LETTERS : (("LETTERS", (.str "abcdefghijklmnopqrstuvwxyz")) : Str × T) ∈ cvA := List.mem_of_getElem? (i := 0) rfl
theorem cv_MOST_LABELS : (("MOST_LABELS", (.int 6)) : Str × T) ∈ cvA := List.mem_of_getElem? (i := 1) rfl
theorem cv_MOST_SIGNS : (("MOST_SIGNS", (.int 8)) : Str × T) ∈ cvA := List.mem_of_getElem? (i := 2) rfl
theorem xs_BadFraction : ("BadFraction" : Str) ∈ xsA := List.mem_of_getElem? (i := 0) rfl
theorem xs_BadLabel : ("BadLabel" : Str) ∈ xsA := List.mem_of_getElem? (i := 1) rfl
theorem xs_BadName : ("BadName" : Str) ∈ xsA := List.mem_of_getElem? (i := 2) rfl
theorem xs_BadOctets : ("BadOctets" : Str) ∈ xsA := List.mem_of_getElem? (i := 3) rfl
theorem xs_BadEvent : ("BadEvent" : Str) ∈ xsA := List.mem_of_getElem? (i := 4) rfl
theorem xs_BadView : ("BadView" : Str) ∈ xsA := List.mem_of_getElem? (i := 5) rfl
theorem xs_BadRoster : ("BadRoster" : Str) ∈ xsA := List.mem_of_getElem? (i := 6) rfl
theorem xs_BadRun : ("BadRun" : Str) ∈ xsA := List.mem_of_getElem? (i := 7) rfl
theorem xs_BadDeed : ("BadDeed" : Str) ∈ xsA := List.mem_of_getElem? (i := 8) rfl
theorem xs_BadText : ("BadText" : Str) ∈ xsA := List.mem_of_getElem? (i := 9) rfl
theorem xs_Refused : ("Refused" : Str) ∈ xsA := List.mem_of_getElem? (i := 10) rfl
theorem sc_label_fault : FnScope ["value", "place", "sign"] ["value"] (defScope s_label_fault) := ⟨rfl, rfl, rfl, by decide +kernel, rfl, by decide +kernel, by decide +kernel⟩

def g_label_fault_b : FS :=
  (sSeq (sIf (fOrT (fNotT (fTru (fIsi "str" (fVar 0)))) (fBl (fBin oEq (fVar 0) (fC (.str ""))))) (sRet (fBin oSub (fC (.int 0)) (fC (.int 1)))) sNext)
  (sSeq (sFor (fiEnumA (aCons (fVar 0) aNil)) (gTpT [1, 2]) (sIf (fOrT (fBl (fBin oEq (fVar 1) (fC (.int 8)))) (fBl (fBin oNotIn (fVar 2) (fC (.str "abcdefghijklmnopqrstuvwxyz"))))) (sRet (fVar 1)) sNext))
  (sRet (fC .non))))
def g_label_fault : GF := runDef 1 3 g_label_fault_b
theorem d_label_fault (hf : HFt P w K mg base) : Def P w (gH K mg tf) base 3 "label_fault" ["value"] [] g_label_fault := by
  refine def_hf hf (d := dd_label_fault) (List.mem_of_getElem? (show fn[0]? = some dd_label_fault from rfl)) sc_label_fault (fun _ _ _ _ _ _ us hl => match us, hl with | [_], _ => rfl) (fun q hq => by cases hq) (k := 2) fun f cdv A outer s H E hcd hr => ?_
  exact
  (b_cons (s_if (t_w (w_or (t_not (t_tru (e_isi (by decide) rfl (m_isinstance hf) rfl (m_str hf) bt_str (e_var 0 rfl (Or.inl rfl))))) (w_or1 (t_cmp o_eq (e_var 0 rfl (Or.inl rfl)) e_str)))) (b_one (s_ret (e_bin o_sub e_int e_int))) b_nil)
  (b_cons (s_for (passes_of rfl) rfl (i_enumA rfl (m_enumerate hf) (a_cons (e_var 0 rfl (Or.inl rfl)) a_nil)) (g_tup (is := [1, 2]) rfl (pgs_cons (pg_name (i := 1) sc_label_fault.nd rfl (.inl rfl)) (pgs_cons (pg_name (i := 2) sc_label_fault.nd rfl (.inl rfl)) pgs_nil))) (b_one (s_if (t_w (w_or (t_cmp o_eq (e_var 1 rfl (Or.inl rfl)) (e_glb rfl (hf.cv _ cv_MOST_SIGNS))) (w_or1 (t_cmp o_notin (e_var 2 rfl (Or.inl rfl)) (e_glb rfl (hf.cv _ cv_LETTERS)))))) (b_one (s_ret (e_var 1 rfl (Or.inl rfl)))) b_nil)))
  (b_one (s_ret e_non))))
theorem sc_is_label : FnScope ["value"] ["value"] (defScope s_is_label) := ⟨rfl, rfl, rfl, by decide +kernel, rfl, by decide +kernel, by decide +kernel⟩

def g_is_label_b : FS :=
  (sRet (fBin oIs (fCall g_label_fault (aCons (fVar 0) aNil)) (fC .non)))
def g_is_label : GF := runDef 1 1 g_is_label_b
theorem d_is_label (hf : HFt P w K mg base) : Def P w (gH K mg tf) base 4 "is_label" ["value"] [] g_is_label := by
  refine def_hf hf (d := dd_is_label) (List.mem_of_getElem? (show fn[1]? = some dd_is_label from rfl)) sc_is_label (fun _ _ _ _ _ _ us hl => match us, hl with | [_], _ => rfl) (fun q hq => by cases hq) (k := 3) fun f cdv A outer s H E hcd hr => ?_
  exact
  (b_one (s_ret (e_cmp o_is (e_call ((d_label_fault hf).mono (by decide)) hr takes_def rfl (a_cons (e_var 0 rfl (Or.inl rfl)) a_nil)) e_non)))
theorem sc_name_fault : FnScope ["value", "place", "label"] ["value"] (defScope s_name_fault) := ⟨rfl, rfl, rfl, by decide +kernel, rfl, by decide +kernel, by decide +kernel⟩

def g_name_fault_b : FS :=
  (sSeq (sIf (fOrT (fNotT (fTru (fIsi "tuple" (fVar 0)))) (fBl (fBin oEq (fNat nLen (aCons (fVar 0) aNil)) (fC (.int 0))))) (sRet (fBin oSub (fC (.int 0)) (fC (.int 1)))) sNext)
  (sSeq (sFor (fiEnumA (aCons (fVar 0) aNil)) (gTpT [1, 2]) (sIf (fOrT (fBl (fBin oEq (fVar 1) (fC (.int 6)))) (fNotT (fTru (fCall g_is_label (aCons (fVar 2) aNil))))) (sRet (fVar 1)) sNext))
  (sRet (fC .non))))
def g_name_fault : GF := runDef 1 3 g_name_fault_b
theorem d_name_fault (hf : HFt P w K mg base) : Def P w (gH K mg tf) base 5 "name_fault" ["value"] [] g_name_fault := by
  refine def_hf hf (d := dd_name_fault) (List.mem_of_getElem? (show fn[2]? = some dd_name_fault from rfl)) sc_name_fault (fun _ _ _ _ _ _ us hl => match us, hl with | [_], _ => rfl) (fun q hq => by cases hq) (k := 4) fun f cdv A outer s H E hcd hr => ?_
  exact
  (b_cons (s_if (t_w (w_or (t_not (t_tru (e_isi (by decide) rfl (m_isinstance hf) rfl (m_tuple hf) bt_tuple (e_var 0 rfl (Or.inl rfl))))) (w_or1 (t_cmp o_eq (e_blt o_len rfl (m_len hf) bt_len (a_cons (e_var 0 rfl (Or.inl rfl)) a_nil)) e_int)))) (b_one (s_ret (e_bin o_sub e_int e_int))) b_nil)
  (b_cons (s_for (passes_of rfl) rfl (i_enumA rfl (m_enumerate hf) (a_cons (e_var 0 rfl (Or.inl rfl)) a_nil)) (g_tup (is := [1, 2]) rfl (pgs_cons (pg_name (i := 1) sc_name_fault.nd rfl (.inl rfl)) (pgs_cons (pg_name (i := 2) sc_name_fault.nd rfl (.inl rfl)) pgs_nil))) (b_one (s_if (t_w (w_or (t_cmp o_eq (e_var 1 rfl (Or.inl rfl)) (e_glb rfl (hf.cv _ cv_MOST_LABELS))) (w_or1 (t_not (t_tru (e_call ((d_is_label hf).mono (by decide)) hr takes_def rfl (a_cons (e_var 2 rfl (Or.inl rfl)) a_nil))))))) (b_one (s_ret (e_var 1 rfl (Or.inl rfl)))) b_nil)))
  (b_one (s_ret e_non))))
theorem sc_check_label : FnScope ["value", "fault"] ["value"] (defScope s_check_label) := ⟨rfl, rfl, rfl, by decide +kernel, rfl, by decide +kernel, by decide +kernel⟩

def g_check_label_b : FS :=
  (sSeq (sAsg (fCall g_label_fault (aCons (fVar 0) aNil)) (gNm 1))
  (sSeq (sIf (fBl (fBin oIsNot (fVar 1) (fC .non))) (sRaise "BadLabel" "at" (fVar 1)) sNext)
  (sRet (fVar 0))))
def g_check_label : GF := runDef 1 2 g_check_label_b
theorem d_check_label (hf : HFt P w K mg base) : Def P w (gH K mg tf) base 4 "check_label" ["value"] [(0, ["value"])] g_check_label := by
  obtain ⟨A_BadLabel, T_BadLabel⟩ := hf.xc _ (xc_BadLabel)
  refine def_hf hf (d := dd_check_label) (List.mem_of_getElem? (show fn[3]? = some dd_check_label from rfl)) sc_check_label (fun _ _ _ _ _ _ us hl => match us, hl with | [_], _ => rfl) (by
  intro q hq
  simp only [List.mem_cons, List.mem_nil_iff, or_false] at hq
  rcases hq with rfl
  · exact fun _ _ _ _ _ _ us ws h1 h2 => match us, ws, h1, h2 with | [], [_], _, _ => ⟨rfl, rfl⟩) (k := 3) fun f cdv A outer s H E hcd hr => ?_
  exact
  (b_cons (s_set 1 sc_check_label.nd (e_call ((d_label_fault hf).mono (by decide)) hr takes_def rfl (a_cons (e_var 0 rfl (Or.inl rfl)) a_nil)))
  (b_cons (s_if (t_cmp o_isnot (e_var 1 rfl (Or.inl rfl)) e_non) (b_one (s_raise T_BadLabel rfl takes_def (hr.mono (by decide)) rfl (e_var 1 rfl (Or.inl rfl)))) b_nil)
  (b_one (s_ret (e_var 0 rfl (Or.inl rfl))))))
theorem sc_check_name : FnScope ["value", "fault"] ["value"] (defScope s_check_name) := ⟨rfl, rfl, rfl, by decide +kernel, rfl, by decide +kernel, by decide +kernel⟩

def g_check_name_b : FS :=
  (sSeq (sAsg (fCall g_name_fault (aCons (fVar 0) aNil)) (gNm 1))
  (sSeq (sIf (fBl (fBin oIsNot (fVar 1) (fC .non))) (sRaise "BadName" "at" (fVar 1)) sNext)
  (sRet (fVar 0))))
def g_check_name : GF := runDef 1 2 g_check_name_b
theorem d_check_name (hf : HFt P w K mg base) : Def P w (gH K mg tf) base 6 "check_name" ["value"] [(0, ["value"])] g_check_name := by
  obtain ⟨A_BadName, T_BadName⟩ := hf.xc _ (xc_BadName)
  refine def_hf hf (d := dd_check_name) (List.mem_of_getElem? (show fn[4]? = some dd_check_name from rfl)) sc_check_name (fun _ _ _ _ _ _ us hl => match us, hl with | [_], _ => rfl) (by
  intro q hq
  simp only [List.mem_cons, List.mem_nil_iff, or_false] at hq
  rcases hq with rfl
  · exact fun _ _ _ _ _ _ us ws h1 h2 => match us, ws, h1, h2 with | [], [_], _, _ => ⟨rfl, rfl⟩) (k := 5) fun f cdv A outer s H E hcd hr => ?_
  exact
  (b_cons (s_set 1 sc_check_name.nd (e_call ((d_name_fault hf).mono (by decide)) hr takes_def rfl (a_cons (e_var 0 rfl (Or.inl rfl)) a_nil)))
  (b_cons (s_if (t_cmp o_isnot (e_var 1 rfl (Or.inl rfl)) e_non) (b_one (s_raise T_BadName rfl takes_def (hr.mono (by decide)) rfl (e_var 1 rfl (Or.inl rfl)))) b_nil)
  (b_one (s_ret (e_var 0 rfl (Or.inl rfl))))))
theorem sc_joined_name : FnScope ["target", "rest", "found"] ["target", "rest"] (defScope s_joined_name) := ⟨rfl, rfl, rfl, by decide +kernel, rfl, by decide +kernel, by decide +kernel⟩

def g_joined_name_b : FS :=
  (sSeq (sAsg (fBin oAdd (fVar 0) (fVar 1)) (gNm 2))
  (sRet (fIf (fBl (fBin oLe (fNat nLen (aCons (fVar 2) aNil)) (fC (.int 6)))) (fVar 2) (fC .non))))
def g_joined_name : GF := runDef 2 3 g_joined_name_b
theorem d_joined_name (hf : HFt P w K mg base) : Def P w (gH K mg tf) base 3 "joined_name" ["target", "rest"] [(0, ["rest", "target"])] g_joined_name := by
  refine def_hf hf (d := dd_joined_name) (List.mem_of_getElem? (show fn[5]? = some dd_joined_name from rfl)) sc_joined_name (fun _ _ _ _ _ _ us hl => match us, hl with | [_, _], _ => rfl) (by
  intro q hq
  simp only [List.mem_cons, List.mem_nil_iff, or_false] at hq
  rcases hq with rfl
  · exact fun _ _ _ _ _ _ us ws h1 h2 => match us, ws, h1, h2 with | [], [_, _], _, _ => ⟨rfl, rfl⟩) (k := 2) fun f cdv A outer s H E hcd hr => ?_
  exact
  (b_cons (s_set 2 sc_joined_name.nd (e_bin o_add (e_var 0 rfl (Or.inl rfl)) (e_var 1 rfl (Or.inl rfl))))
  (b_one (s_ret (e_if (t_cmp o_le (e_blt o_len rfl (m_len hf) bt_len (a_cons (e_var 2 rfl (Or.inl rfl)) a_nil)) (e_glb rfl (hf.cv _ cv_MOST_LABELS))) (e_var 2 rfl (Or.inl rfl)) e_non))))
theorem sc_law_box : FnScope ["script", "k", "cell", "great"] ["script", "k"] (defScope s_law_box) := ⟨rfl, rfl, rfl, by decide +kernel, rfl, by decide +kernel, by decide +kernel⟩

def g_law_box_b : FS :=
  (sSeq (sAsg (fBin oAdd (fBin oMul (fC (.int 17033)) (fVar 1)) (fC (.int 9203))) (gNm 2))
  (sSeq (sIf (fBl (fBin oLt (fVar 1) (fNat nLen (aCons (fVar 0) aNil)))) (sAsg (fNat (n1I iabs) (aCons (fNat (n1I id) (aCons (fBin oIx (fVar 0) (fVar 1)) aNil)) aNil)) (gNm 2)) (sIf (fBl (fBin oGt (fNat nLen (aCons (fVar 0) aNil)) (fC (.int 0)))) (sAsg (fBin oAdd (fVar 2) (fBin oMul (fBin oMod (fNat (n1I id) (aCons (fNat (n1I iabs) (aCons (fNat (n1I id) (aCons (fBin oIx (fVar 0) (fBin oMod (fNat (n1I id) (aCons (fVar 1) aNil)) (fNat nLen (aCons (fVar 0) aNil)))) aNil)) aNil)) aNil)) (fC (.int 2147483563))) (fC (.int 88001)))) (gNm 2)) sNext))
  (sSeq (sAsg (fIf (fBl (fBin oGe (fVar 2) (fBin oPow (fC (.int 10)) (fC (.int 18))))) (fVar 2) (fC (.int 0))) (gNm 3))
  (sRet (fLst (aCons (fVar 3) (aCons (fBin oAdd (fBin oMod (fNat (n1I id) (aCons (fBin oAdd (fBin oMul (fBin oMod (fNat (n1I id) (aCons (fVar 2) aNil)) (fC (.int 2147483563))) (fC (.int 54250003))) (fBin oMul (fC (.int 9203)) (fVar 1))) aNil)) (fC (.int 2147483563))) (fC (.int 1))) aNil)))))))
def g_law_box : GF := runDef 2 4 g_law_box_b
theorem d_law_box (hf : HFt P w K mg base) : Def P w (gH K mg tf) base 3 "_law_box" ["script", "k"] [] g_law_box := by
  refine def_hf hf (d := dd_law_box) (List.mem_of_getElem? (show fn[6]? = some dd_law_box from rfl)) sc_law_box (fun _ _ _ _ _ _ us hl => match us, hl with | [_, _], _ => rfl) (fun q hq => by cases hq) (k := 2) fun f cdv A outer s H E hcd hr => ?_
  exact
  (b_cons (s_set 2 sc_law_box.nd (e_bin o_add (e_bin o_mul e_int (e_var 1 rfl (Or.inl rfl))) e_int))
  (b_cons (s_if (t_cmp o_lt (e_var 1 rfl (Or.inl rfl)) (e_blt o_len rfl (m_len hf) bt_len (a_cons (e_var 0 rfl (Or.inl rfl)) a_nil))) (b_one (s_set 2 sc_law_box.nd (e_blt o_abs rfl (m_abs hf) bt_abs (a_cons (e_ty o_int rfl (m_int hf) bt_int (a_cons (e_ix (e_var 0 rfl (Or.inl rfl)) (e_var 1 rfl (Or.inl rfl))) a_nil)) a_nil)))) (b_one (s_if (t_cmp o_gt (e_blt o_len rfl (m_len hf) bt_len (a_cons (e_var 0 rfl (Or.inl rfl)) a_nil)) e_int) (b_one (s_set 2 sc_law_box.nd (e_bin o_add (e_var 2 rfl (Or.inl rfl)) (e_bin o_mul (e_bin o_mod (e_ty o_int rfl (m_int hf) bt_int (a_cons (e_blt o_abs rfl (m_abs hf) bt_abs (a_cons (e_ty o_int rfl (m_int hf) bt_int (a_cons (e_ix (e_var 0 rfl (Or.inl rfl)) (e_bin o_mod (e_ty o_int rfl (m_int hf) bt_int (a_cons (e_var 1 rfl (Or.inl rfl)) a_nil)) (e_blt o_len rfl (m_len hf) bt_len (a_cons (e_var 0 rfl (Or.inl rfl)) a_nil)))) a_nil)) a_nil)) a_nil)) e_int) e_int)))) b_nil)))
  (b_cons (s_set 3 sc_law_box.nd (e_if (t_cmp o_ge (e_var 2 rfl (Or.inl rfl)) (e_bin o_pow e_int e_int)) (e_var 2 rfl (Or.inl rfl)) e_int))
  (b_one (s_ret (e_lst (a_cons (e_var 3 rfl (Or.inl rfl)) (a_cons (e_bin o_add (e_bin o_mod (e_ty o_int rfl (m_int hf) bt_int (a_cons (e_bin o_add (e_bin o_mul (e_bin o_mod (e_ty o_int rfl (m_int hf) bt_int (a_cons (e_var 2 rfl (Or.inl rfl)) a_nil)) e_int) e_int) (e_bin o_mul e_int (e_var 1 rfl (Or.inl rfl)))) a_nil)) e_int) e_int) a_nil))))))))
theorem sc_law_take : FnScope ["box", "many", "digit", "raw"] ["box", "many"] (defScope s_law_take) := ⟨rfl, rfl, rfl, by decide +kernel, rfl, by decide +kernel, by decide +kernel⟩

def g_law_take_b : FS :=
  (sSeq (sIf (fBl (fBin oGt (fBin oIx (fVar 0) (fC (.int 0))) (fC (.int 0)))) (sSeq (sAsg (fBin oMod (fNat (n1I id) (aCons (fBin oIx (fVar 0) (fC (.int 0))) aNil)) (fVar 1)) (gNm 2))
    (sSeq (sAsg (fBin oDiv (fBin oIx (fVar 0) (fC (.int 0))) (fVar 1)) (gSb (fVar 0) (fC (.int 0))))
    (sRet (fVar 2)))) sNext)
  (sSeq (sAsg (fBin oMod (fNat (n1I id) (aCons (fBin oAdd (fBin oMul (fBin oIx (fVar 0) (fC (.int 1))) (fC (.int 39373))) (fC (.int 101))) aNil)) (fC (.int 2147483647))) (gNm 3))
  (sSeq (sAsg (fBin oAdd (fBin oMod (fNat (n1I id) (aCons (fBin oAdd (fBin oMul (fVar 3) (fC (.int 40692))) (fC (.int 17))) aNil)) (fC (.int 2147483563))) (fC (.int 1))) (gSb (fVar 0) (fC (.int 1))))
  (sRet (fBin oMod (fNat (n1I id) (aCons (fBin oDiv (fBin oAdd (fBin oMul (fVar 3) (fC (.int 2147483629))) (fBin oIx (fVar 0) (fC (.int 1)))) (fC (.int 8233))) aNil)) (fVar 1))))))
def g_law_take : GF := runDef 2 4 g_law_take_b
theorem d_law_take (hf : HFt P w K mg base) : Def P w (gH K mg tf) base 3 "_law_take" ["box", "many"] [] g_law_take := by
  refine def_hf hf (d := dd_law_take) (List.mem_of_getElem? (show fn[7]? = some dd_law_take from rfl)) sc_law_take (fun _ _ _ _ _ _ us hl => match us, hl with | [_, _], _ => rfl) (fun q hq => by cases hq) (k := 2) fun f cdv A outer s H E hcd hr => ?_
  exact
  (b_cons (s_if (t_cmp o_gt (e_ix (e_var 0 rfl (Or.inl rfl)) e_int) e_int) (b_cons (s_set 2 sc_law_take.nd (e_bin o_mod (e_ty o_int rfl (m_int hf) bt_int (a_cons (e_ix (e_var 0 rfl (Or.inl rfl)) e_int) a_nil)) (e_var 1 rfl (Or.inl rfl))))
    (b_cons (s_asg (e_bin o_div (e_ix (e_var 0 rfl (Or.inl rfl)) e_int) (e_var 1 rfl (Or.inl rfl))) (g_sub (e_var 0 rfl (Or.inl rfl)) e_int))
    (b_one (s_ret (e_var 2 rfl (Or.inl rfl)))))) b_nil)
  (b_cons (s_set 3 sc_law_take.nd (e_bin o_mod (e_ty o_int rfl (m_int hf) bt_int (a_cons (e_bin o_add (e_bin o_mul (e_ix (e_var 0 rfl (Or.inl rfl)) e_int) e_int) e_int) a_nil)) e_int))
  (b_cons (s_asg (e_bin o_add (e_bin o_mod (e_ty o_int rfl (m_int hf) bt_int (a_cons (e_bin o_add (e_bin o_mul (e_var 3 rfl (Or.inl rfl)) e_int) e_int) a_nil)) e_int) e_int) (g_sub (e_var 0 rfl (Or.inl rfl)) e_int))
  (b_one (s_ret (e_bin o_mod (e_ty o_int rfl (m_int hf) bt_int (a_cons (e_bin o_div (e_bin o_add (e_bin o_mul (e_var 3 rfl (Or.inl rfl)) e_int) (e_ix (e_var 0 rfl (Or.inl rfl)) e_int)) e_int) a_nil)) (e_var 1 rfl (Or.inl rfl))))))))
theorem sc_law_pick : FnScope ["box", "some"] ["box", "some"] (defScope s_law_pick) := ⟨rfl, rfl, rfl, by decide +kernel, rfl, by decide +kernel, by decide +kernel⟩

def g_law_pick_b : FS :=
  (sRet (fBin oIx (fVar 1) (fCall g_law_take (aCons (fVar 0) (aCons (fNat nLen (aCons (fVar 1) aNil)) aNil)))))
def g_law_pick : GF := runDef 2 2 g_law_pick_b
theorem d_law_pick (hf : HFt P w K mg base) : Def P w (gH K mg tf) base 4 "_law_pick" ["box", "some"] [] g_law_pick := by
  refine def_hf hf (d := dd_law_pick) (List.mem_of_getElem? (show fn[8]? = some dd_law_pick from rfl)) sc_law_pick (fun _ _ _ _ _ _ us hl => match us, hl with | [_, _], _ => rfl) (fun q hq => by cases hq) (k := 3) fun f cdv A outer s H E hcd hr => ?_
  exact
  (b_one (s_ret (e_ix (e_var 1 rfl (Or.inl rfl)) (e_call ((d_law_take hf).mono (by decide)) hr takes_def rfl (a_cons (e_var 0 rfl (Or.inl rfl)) (a_cons (e_blt o_len rfl (m_len hf) bt_len (a_cons (e_var 1 rfl (Or.inl rfl)) a_nil)) a_nil))))))
theorem sc_law_label : FnScope ["box", "many", "some", "turn"] ["box"] (defScope s_law_label) := ⟨rfl, rfl, rfl, by decide +kernel, rfl, by decide +kernel, by decide +kernel⟩

def g_law_label_b : FS :=
  (sSeq (sAsg (fCall g_law_pick (aCons (fVar 0) (aCons (fLst (aCons (fC (.int 1)) (aCons (fC (.int 1)) (aCons (fC (.int 2)) (aCons (fC (.int 3)) (aCons (fC (.int 4)) (aCons (fC (.int 5)) (aCons (fC (.int 7)) (aCons (fC (.int 8)) (aCons (fC (.int 8)) aNil)))))))))) aNil))) (gNm 1))
  (sSeq (sAsg (fCall g_law_pick (aCons (fVar 0) (aCons (fLst (aCons (fC (.str "abz")) (aCons (fC (.str "az")) (aCons (fC (.str "z")) (aCons (fC (.str "a")) (aCons (fC (.str "mn")) (aCons (fC (.str "abcdefghijklmnopqrstuvwxyz")) (aCons (fC (.str "abcdefghijklmnopqrstuvwxyz")) aNil)))))))) aNil))) (gNm 2))
  (sRet (fMeth "str" mJoin (fC (.str "")) (aCons (fLc [3] (fiRng1 (aCons (fVar 1) aNil)) (gNm 3) fYes (fBin oIx (fVar 2) (fCall g_law_take (aCons (fVar 0) (aCons (fNat nLen (aCons (fVar 2) aNil)) aNil))))) aNil)))))
def g_law_label : GF := runDef 1 4 g_law_label_b
theorem d_law_label (hf : HFt P w K mg base) : Def P w (gH K mg tf) base 5 "_law_label" ["box"] [] g_law_label := by
  refine def_hf hf (d := dd_law_label) (List.mem_of_getElem? (show fn[9]? = some dd_law_label from rfl)) sc_law_label (fun _ _ _ _ _ _ us hl => match us, hl with | [_], _ => rfl) (fun q hq => by cases hq) (k := 4) fun f cdv A outer s H E hcd hr => ?_
  exact
  (b_cons (s_set 1 sc_law_label.nd (e_call ((d_law_pick hf).mono (by decide)) hr takes_def rfl (a_cons (e_var 0 rfl (Or.inr (Or.inl rfl))) (a_cons (e_lst (a_cons e_int (a_cons e_int (a_cons e_int (a_cons e_int (a_cons e_int (a_cons e_int (a_cons e_int (a_cons e_int (a_cons e_int a_nil)))))))))) a_nil))))
  (b_cons (s_set 2 sc_law_label.nd (e_call ((d_law_pick hf).mono (by decide)) hr takes_def rfl (a_cons (e_var 0 rfl (Or.inr (Or.inl rfl))) (a_cons (e_lst (a_cons e_str (a_cons e_str (a_cons e_str (a_cons e_str (a_cons e_str (a_cons e_str (a_cons e_str a_nil)))))))) a_nil))))
  (b_one (s_ret (e_meth PySem.F.plainAttrs_str PySem.F.slot_str_join PySem.F.type_str_join m_join e_str (a_cons (e_lc (own := [("turn", 3)]) rfl sc_law_label.nd (i_range1 rfl (m_range hf) (a_cons (e_var 1 rfl (Or.inl rfl)) a_nil)) (show BlkOk ["box", "many", "some", "turn"] (defScope s_law_label) _ _ from blkOk_by (by decide +kernel)) (c_nm (i := 3)) (fun _ _ _ _ _ => pg_name (i := 3) sc_law_label.nd rfl (.inl rfl)) (fun _ _ _ _ _ => ts_nil) (fun _ _ _ _ _ => (e_ix (e_var 2 rfl) (e_call ((d_law_take hf).mono (by decide)) hr takes0 rfl (a_cons (e_var 0 rfl) (a_cons (e_blt o_len rfl (m_len hf) bt_len (a_cons (e_var 2 rfl) a_nil)) a_nil)))))) a_nil))))))
theorem sc_law_sign : FnScope ["box"] ["box"] (defScope s_law_sign) := ⟨rfl, rfl, rfl, by decide +kernel, rfl, by decide +kernel, by decide +kernel⟩

def g_law_sign_b : FS :=
  (sRet (fBin oIx (fC (.str "ABZMz`{09-_. /@*\n\\")) (fCall g_law_pick (aCons (fVar 0) (aCons (fLst (aCons (fC (.int 0)) (aCons (fC (.int 1)) (aCons (fC (.int 2)) (aCons (fC (.int 3)) (aCons (fC (.int 5)) (aCons (fC (.int 6)) (aCons (fC (.int 7)) (aCons (fC (.int 8)) (aCons (fC (.int 9)) (aCons (fC (.int 10)) (aCons (fC (.int 11)) (aCons (fC (.int 12)) (aCons (fC (.int 13)) (aCons (fC (.int 14)) (aCons (fC (.int 15)) (aCons (fC (.int 16)) (aCons (fC (.int 17)) aNil)))))))))))))))))) aNil)))))
def g_law_sign : GF := runDef 1 1 g_law_sign_b
theorem d_law_sign (hf : HFt P w K mg base) : Def P w (gH K mg tf) base 5 "_law_sign" ["box"] [] g_law_sign := by
  refine def_hf hf (d := dd_law_sign) (List.mem_of_getElem? (show fn[10]? = some dd_law_sign from rfl)) sc_law_sign (fun _ _ _ _ _ _ us hl => match us, hl with | [_], _ => rfl) (fun q hq => by cases hq) (k := 4) fun f cdv A outer s H E hcd hr => ?_
  exact
  (b_one (s_ret (e_ix e_str (e_call ((d_law_pick hf).mono (by decide)) hr takes_def rfl (a_cons (e_var 0 rfl (Or.inl rfl)) (a_cons (e_lst (a_cons e_int (a_cons e_int (a_cons e_int (a_cons e_int (a_cons e_int (a_cons e_int (a_cons e_int (a_cons e_int (a_cons e_int (a_cons e_int (a_cons e_int (a_cons e_int (a_cons e_int (a_cons e_int (a_cons e_int (a_cons e_int (a_cons e_int a_nil)))))))))))))))))) a_nil))))))
theorem sc_law_bent : FnScope ["box", "label", "way", "spot", "long", "place"] ["box", "label"] (defScope s_law_bent) := ⟨rfl, rfl, rfl, by decide +kernel, rfl, by decide +kernel, by decide +kernel⟩

def g_law_bent_b : FS :=
  (sSeq (sPar (aCons (fCall g_law_take (aCons (fVar 0) (aCons (fC (.int 7)) aNil))) (aCons (fCall g_law_take (aCons (fVar 0) (aCons (fBin oAdd (fNat nLen (aCons (fVar 1) aNil)) (fC (.int 1))) aNil))) aNil)) 2 3)
  (sSeq (sIf (fBl (fBin oLt (fVar 2) (fC (.int 2)))) (sRet (fBin oAdd (fBin oAdd (fSlice (fVar 1) pNone (pSome (fVar 3))) (fCall g_law_sign (aCons (fVar 0) aNil))) (fSlice (fVar 1) (pSome (fBin oAdd (fVar 3) (fVar 2))) pNone))) sNext)
  (sSeq (sIf (fBl (fBin oEq (fVar 2) (fC (.int 2)))) (sRet (fBin oAdd (fVar 1) (fBin oMulS (fC (.str "a")) (fCall g_law_pick (aCons (fVar 0) (aCons (fLst (aCons (fC (.int 1)) (aCons (fC (.int 2)) (aCons (fBin oSub (fC (.int 8)) (fNat nLen (aCons (fVar 1) aNil))) (aCons (fBin oSub (fC (.int 9)) (fNat nLen (aCons (fVar 1) aNil))) (aCons (fC (.int 12)) aNil)))))) aNil)))))) sNext)
  (sSeq (sIf (fBl (fBin oEq (fVar 2) (fC (.int 3)))) (sSeq (sAsg (fSlice (fBin oAdd (fVar 1) (fC (.str "qrstuvwxyz"))) pNone (pSome (fBin oAdd (fC (.int 9)) (fCall g_law_take (aCons (fVar 0) (aCons (fC (.int 2)) aNil)))))) (gNm 4))
    (sSeq (sAsg (fCall g_law_take (aCons (fVar 0) (aCons (fNat nLen (aCons (fVar 4) aNil)) aNil))) (gNm 5))
    (sRet (fBin oAdd (fBin oAdd (fSlice (fVar 4) pNone (pSome (fVar 5))) (fCall g_law_sign (aCons (fVar 0) aNil))) (fSlice (fVar 4) (pSome (fBin oAdd (fVar 5) (fC (.int 1)))) pNone))))) sNext)
  (sSeq (sIf (fBl (fBin oEq (fVar 2) (fC (.int 4)))) (sRet (fSlice (fVar 1) pNone (pSome (fVar 3)))) sNext)
  (sSeq (sIf (fBl (fBin oEq (fVar 2) (fC (.int 5)))) (sRet (fMeth "str" mUpper (fVar 1) aNil)) sNext)
  (sRet (fCall g_law_pick (aCons (fVar 0) (aCons (fLst (aCons (fC (.str "")) (aCons (fVar 1) (aCons (fBin oAdd (fC (.str " ")) (fVar 1)) (aCons (fBin oAdd (fVar 1) (fC (.str " "))) (aCons (fCall g_law_sign (aCons (fVar 0) aNil)) aNil)))))) aNil))))))))))
def g_law_bent : GF := runDef 2 6 g_law_bent_b
theorem d_law_bent (hf : HFt P w K mg base) : Def P w (gH K mg tf) base 6 "_law_bent" ["box", "label"] [] g_law_bent := by
  refine def_hf hf (d := dd_law_bent) (List.mem_of_getElem? (show fn[11]? = some dd_law_bent from rfl)) sc_law_bent (fun _ _ _ _ _ _ us hl => match us, hl with | [_, _], _ => rfl) (fun q hq => by cases hq) (k := 5) fun f cdv A outer s H E hcd hr => ?_
  exact
  (b_cons (s_par 2 3 rfl sc_law_bent.nd (a_cons (e_call ((d_law_take hf).mono (by decide)) hr takes_def rfl (a_cons (e_var 0 rfl (Or.inl rfl)) (a_cons e_int a_nil))) (a_cons (e_call ((d_law_take hf).mono (by decide)) hr takes_def rfl (a_cons (e_var 0 rfl (Or.inl rfl)) (a_cons (e_bin o_add (e_blt o_len rfl (m_len hf) bt_len (a_cons (e_var 1 rfl (Or.inl rfl)) a_nil)) e_int) a_nil))) a_nil)))
  (b_cons (s_if (t_cmp o_lt (e_var 2 rfl (Or.inl rfl)) e_int) (b_one (s_ret (e_bin o_add (e_bin o_add (e_slice (e_var 1 rfl (Or.inl rfl)) p_none (p_some (e_var 3 rfl (Or.inl rfl)))) (e_call ((d_law_sign hf).mono (by decide)) hr takes_def rfl (a_cons (e_var 0 rfl (Or.inl rfl)) a_nil))) (e_slice (e_var 1 rfl (Or.inl rfl)) (p_some (e_bin o_add (e_var 3 rfl (Or.inl rfl)) (e_var 2 rfl (Or.inl rfl)))) p_none)))) b_nil)
  (b_cons (s_if (t_cmp o_eq (e_var 2 rfl (Or.inl rfl)) e_int) (b_one (s_ret (e_bin o_add (e_var 1 rfl (Or.inl rfl)) (e_bin o_mulS e_str (e_call ((d_law_pick hf).mono (by decide)) hr takes_def rfl (a_cons (e_var 0 rfl (Or.inl rfl)) (a_cons (e_lst (a_cons e_int (a_cons e_int (a_cons (e_bin o_sub e_int (e_blt o_len rfl (m_len hf) bt_len (a_cons (e_var 1 rfl (Or.inl rfl)) a_nil))) (a_cons (e_bin o_sub e_int (e_blt o_len rfl (m_len hf) bt_len (a_cons (e_var 1 rfl (Or.inl rfl)) a_nil))) (a_cons e_int a_nil)))))) a_nil))))))) b_nil)
  (b_cons (s_if (t_cmp o_eq (e_var 2 rfl (Or.inl rfl)) e_int) (b_cons (s_set 4 sc_law_bent.nd (e_slice (e_bin o_add (e_var 1 rfl (Or.inl rfl)) e_str) p_none (p_some (e_bin o_add e_int (e_call ((d_law_take hf).mono (by decide)) hr takes_def rfl (a_cons (e_var 0 rfl (Or.inl rfl)) (a_cons e_int a_nil)))))))
    (b_cons (s_set 5 sc_law_bent.nd (e_call ((d_law_take hf).mono (by decide)) hr takes_def rfl (a_cons (e_var 0 rfl (Or.inl rfl)) (a_cons (e_blt o_len rfl (m_len hf) bt_len (a_cons (e_var 4 rfl (Or.inl rfl)) a_nil)) a_nil))))
    (b_one (s_ret (e_bin o_add (e_bin o_add (e_slice (e_var 4 rfl (Or.inl rfl)) p_none (p_some (e_var 5 rfl (Or.inl rfl)))) (e_call ((d_law_sign hf).mono (by decide)) hr takes_def rfl (a_cons (e_var 0 rfl (Or.inl rfl)) a_nil))) (e_slice (e_var 4 rfl (Or.inl rfl)) (p_some (e_bin o_add (e_var 5 rfl (Or.inl rfl)) e_int)) p_none)))))) b_nil)
  (b_cons (s_if (t_cmp o_eq (e_var 2 rfl (Or.inl rfl)) e_int) (b_one (s_ret (e_slice (e_var 1 rfl (Or.inl rfl)) p_none (p_some (e_var 3 rfl (Or.inl rfl)))))) b_nil)
  (b_cons (s_if (t_cmp o_eq (e_var 2 rfl (Or.inl rfl)) e_int) (b_one (s_ret (e_meth0 PySem.F.plainAttrs_str PySem.F.slot_str_upper PySem.F.type_str_upper m_upper (e_var 1 rfl (Or.inl rfl))))) b_nil)
  (b_one (s_ret (e_call ((d_law_pick hf).mono (by decide)) hr takes_def rfl (a_cons (e_var 0 rfl (Or.inl rfl)) (a_cons (e_lst (a_cons e_str (a_cons (e_var 1 rfl (Or.inl rfl)) (a_cons (e_bin o_add e_str (e_var 1 rfl (Or.inl rfl))) (a_cons (e_bin o_add (e_var 1 rfl (Or.inl rfl)) e_str) (a_cons (e_call ((d_law_sign hf).mono (by decide)) hr takes_def rfl (a_cons (e_var 0 rfl (Or.inl rfl)) a_nil)) a_nil)))))) a_nil)))))))))))
theorem sc_law_odd : FnScope ["box"] ["box"] (defScope s_law_odd) := ⟨rfl, rfl, rfl, by decide +kernel, rfl, by decide +kernel, by decide +kernel⟩

def g_law_odd_b : FS :=
  (sRet (fCall g_law_pick (aCons (fVar 0) (aCons (fLst (aCons (fC .non) (aCons (fC (.int 7)) (aCons (fC (.bl true)) (aCons (fC (.int 0)) (aCons (fLst (aCons (fC (.str "a")) aNil)) (aCons (fTup (aCons (fC (.str "a")) aNil)) (aCons (fTup aNil) (aCons (fLst aNil) (aCons (fTup (aCons (fC (.str "a")) (aCons (fC (.str "b")) aNil))) aNil)))))))))) aNil))))
def g_law_odd : GF := runDef 1 1 g_law_odd_b
theorem d_law_odd (hf : HFt P w K mg base) : Def P w (gH K mg tf) base 5 "_law_odd" ["box"] [] g_law_odd := by
  refine def_hf hf (d := dd_law_odd) (List.mem_of_getElem? (show fn[12]? = some dd_law_odd from rfl)) sc_law_odd (fun _ _ _ _ _ _ us hl => match us, hl with | [_], _ => rfl) (fun q hq => by cases hq) (k := 4) fun f cdv A outer s H E hcd hr => ?_
  exact
  (b_one (s_ret (e_call ((d_law_pick hf).mono (by decide)) hr takes_def rfl (a_cons (e_var 0 rfl (Or.inl rfl)) (a_cons (e_lst (a_cons e_non (a_cons e_int (a_cons e_bl (a_cons e_int (a_cons (e_lst (a_cons e_str a_nil)) (a_cons (e_tup (a_cons e_str a_nil)) (a_cons (e_tup a_nil) (a_cons (e_lst a_nil) (a_cons (e_tup (a_cons e_str (a_cons e_str a_nil))) a_nil)))))))))) a_nil)))))
theorem sc_law_text_fault : FnScope ["value", "spot"] ["value"] (defScope s_law_text_fault) := ⟨rfl, rfl, rfl, by decide +kernel, rfl, by decide +kernel, by decide +kernel⟩

def g_law_text_fault_b : FS :=
  (sSeq (sIf (fOrT (fNotT (fTru (fIsi "str" (fVar 0)))) (fBl (fBin oEq (fNat nLen (aCons (fVar 0) aNil)) (fC (.int 0))))) (sRet (fBin oSub (fC (.int 0)) (fC (.int 1)))) sNext)
  (sSeq (sFor (fiRng1 (aCons (fNat nLen (aCons (fVar 0) aNil)) aNil)) (gNm 1) (sIf (fOrT (fBl (fBin oEq (fVar 1) (fC (.int 8)))) (fBl (fBin oNotIn (fBin oIx (fVar 0) (fVar 1)) (fC (.str "abcdefghijklmnopqrstuvwxyz"))))) (sRet (fVar 1)) sNext))
  (sRet (fC .non))))
def g_law_text_fault : GF := runDef 1 2 g_law_text_fault_b
theorem d_law_text_fault (hf : HFt P w K mg base) : Def P w (gH K mg tf) base 3 "_law_text_fault" ["value"] [] g_law_text_fault := by
  refine def_hf hf (d := dd_law_text_fault) (List.mem_of_getElem? (show fn[13]? = some dd_law_text_fault from rfl)) sc_law_text_fault (fun _ _ _ _ _ _ us hl => match us, hl with | [_], _ => rfl) (fun q hq => by cases hq) (k := 2) fun f cdv A outer s H E hcd hr => ?_
  exact
  (b_cons (s_if (t_w (w_or (t_not (t_tru (e_isi (by decide) rfl (m_isinstance hf) rfl (m_str hf) bt_str (e_var 0 rfl (Or.inl rfl))))) (w_or1 (t_cmp o_eq (e_blt o_len rfl (m_len hf) bt_len (a_cons (e_var 0 rfl (Or.inl rfl)) a_nil)) e_int)))) (b_one (s_ret (e_bin o_sub e_int e_int))) b_nil)
  (b_cons (s_for (passes_of rfl) rfl (i_range1 rfl (m_range hf) (a_cons (e_blt o_len rfl (m_len hf) bt_len (a_cons (e_var 0 rfl (Or.inl rfl)) a_nil)) a_nil)) (g_nm 1 sc_law_text_fault.nd) (b_one (s_if (t_w (w_or (t_cmp o_eq (e_var 1 rfl (Or.inl rfl)) e_int) (w_or1 (t_cmp o_notin (e_ix (e_var 0 rfl (Or.inl rfl)) (e_var 1 rfl (Or.inl rfl))) e_str)))) (b_one (s_ret (e_var 1 rfl (Or.inl rfl)))) b_nil)))
  (b_one (s_ret e_non))))
theorem sc_law_name_fault : FnScope ["value", "spot"] ["value"] (defScope s_law_name_fault) := ⟨rfl, rfl, rfl, by decide +kernel, rfl, by decide +kernel, by decide +kernel⟩

def g_law_name_fault_b : FS :=
  (sSeq (sIf (fOrT (fNotT (fTru (fIsi "tuple" (fVar 0)))) (fBl (fBin oEq (fNat nLen (aCons (fVar 0) aNil)) (fC (.int 0))))) (sRet (fBin oSub (fC (.int 0)) (fC (.int 1)))) sNext)
  (sSeq (sFor (fiRng1 (aCons (fNat nLen (aCons (fVar 0) aNil)) aNil)) (gNm 1) (sIf (fOrT (fBl (fBin oEq (fVar 1) (fC (.int 6)))) (fBl (fBin oIsNot (fCall g_law_text_fault (aCons (fBin oIx (fVar 0) (fVar 1)) aNil)) (fC .non)))) (sRet (fVar 1)) sNext))
  (sRet (fC .non))))
def g_law_name_fault : GF := runDef 1 2 g_law_name_fault_b
theorem d_law_name_fault (hf : HFt P w K mg base) : Def P w (gH K mg tf) base 4 "_law_name_fault" ["value"] [] g_law_name_fault := by
  refine def_hf hf (d := dd_law_name_fault) (List.mem_of_getElem? (show fn[14]? = some dd_law_name_fault from rfl)) sc_law_name_fault (fun _ _ _ _ _ _ us hl => match us, hl with | [_], _ => rfl) (fun q hq => by cases hq) (k := 3) fun f cdv A outer s H E hcd hr => ?_
  exact
  (b_cons (s_if (t_w (w_or (t_not (t_tru (e_isi (by decide) rfl (m_isinstance hf) rfl (m_tuple hf) bt_tuple (e_var 0 rfl (Or.inl rfl))))) (w_or1 (t_cmp o_eq (e_blt o_len rfl (m_len hf) bt_len (a_cons (e_var 0 rfl (Or.inl rfl)) a_nil)) e_int)))) (b_one (s_ret (e_bin o_sub e_int e_int))) b_nil)
  (b_cons (s_for (passes_of rfl) rfl (i_range1 rfl (m_range hf) (a_cons (e_blt o_len rfl (m_len hf) bt_len (a_cons (e_var 0 rfl (Or.inl rfl)) a_nil)) a_nil)) (g_nm 1 sc_law_name_fault.nd) (b_one (s_if (t_w (w_or (t_cmp o_eq (e_var 1 rfl (Or.inl rfl)) e_int) (w_or1 (t_cmp o_isnot (e_call ((d_law_text_fault hf).mono (by decide)) hr takes_def rfl (a_cons (e_ix (e_var 0 rfl (Or.inl rfl)) (e_var 1 rfl (Or.inl rfl))) a_nil)) e_non)))) (b_one (s_ret (e_var 1 rfl (Or.inl rfl)))) b_nil)))
  (b_one (s_ret e_non))))
theorem sc_law_same : FnScope ["told", "due", "is_kind", "one", "other"] ["told", "due"] (defScope s_law_same) := ⟨rfl, rfl, rfl, by decide +kernel, rfl, by decide +kernel, by decide +kernel⟩

def g_law_same_b (same : GF) : FS :=
  (sSeq (sIf (fOrT (fTru (fIsi "tuple" (fVar 1))) (fTru (fIsi "list" (fVar 1)))) (sSeq (sAsg (fIf (fTru (fIsi "tuple" (fVar 1))) (fIsi "tuple" (fVar 0)) (fIsi "list" (fVar 0))) (gNm 2))
    (sSeq (sIf (fOrT (fNotT (fTru (fVar 2))) (fBl (fBin oNe (fNat nLen (aCons (fVar 0) aNil)) (fNat nLen (aCons (fVar 1) aNil))))) (sRet (fC (.bl false))) sNext)
    (sSeq (sFor (fiZip (aCons (fVar 0) (aCons (fVar 1) aNil))) (gTpT [3, 4]) (sIf (fNotT (fTru (fCall same (aCons (fVar 3) (aCons (fVar 4) aNil))))) (sRet (fC (.bl false))) sNext))
    (sRet (fC (.bl true)))))) sNext)
  (sSeq (sIf (fBl (fBin oIs (fVar 1) (fC .non))) (sRet (fBin oIs (fVar 0) (fC .non))) sNext)
  (sSeq (sIf (fOrT (fBl (fBin oIs (fVar 1) (fC (.bl true)))) (fBl (fBin oIs (fVar 1) (fC (.bl false))))) (sRet (fAndV (fIsi "bool" (fVar 0)) (fBin oEq (fVar 0) (fVar 1)))) sNext)
  (sSeq (sIf (fTru (fIsi "int" (fVar 1))) (sRet (fAndV (fIsi "int" (fVar 0)) (fAndV (fNotV (fIsi "bool" (fVar 0))) (fBin oEq (fVar 0) (fVar 1))))) sNext)
  (sRet (fAndV (fIsi "str" (fVar 0)) (fAndV (fIsi "str" (fVar 1)) (fBin oEq (fVar 0) (fVar 1)))))))))
def g_law_same : Nat → GF
  | 0 => fun _ _ => .bad
  | n + 1 => runDef 2 5 (g_law_same_b (g_law_same n))
theorem d_law_same_ (hf : HFt P w K mg base) : ∀ n : Nat, Def P w (gH K mg tf) base (n + 2) "_law_same" ["told", "due"] [] (g_law_same n)
  | 0 => zero_hf hf (d := dd_law_same) (List.mem_of_getElem? (show fn[15]? = some dd_law_same from rfl)) (0 + 2) (fun _ _ _ _ _ _ us hl => match us, hl with | [_, _], _ => rfl)
  | n + 1 => by
    have hsame := d_law_same_ hf n
    have ev : n + 1 + 2 = (n + 2) + 1 := by omega
    rw [ev]
    refine def_hf hf (d := dd_law_same) (List.mem_of_getElem? (show fn[15]? = some dd_law_same from rfl)) sc_law_same (fun _ _ _ _ _ _ us hl => match us, hl with | [_, _], _ => rfl) (fun q hq => by cases hq) (k := n + 2) fun f cdv A outer s H E hcd hr => ?_
    have hr2 : Room 2 _ := hr.mono (Nat.le_add_left 2 n)
    exact
  (b_cons (s_if (t_w (w_or (t_tru (e_isi (by decide) rfl (m_isinstance hf) rfl (m_tuple hf) bt_tuple (e_var 1 rfl (Or.inl rfl)))) (w_or1 (t_tru (e_isi (by decide) rfl (m_isinstance hf) rfl (m_list hf) bt_list (e_var 1 rfl (Or.inl rfl))))))) (b_cons (s_set 2 sc_law_same.nd (e_if (t_tru (e_isi (by decide) rfl (m_isinstance hf) rfl (m_tuple hf) bt_tuple (e_var 1 rfl (Or.inl rfl)))) (e_isi (by decide) rfl (m_isinstance hf) rfl (m_tuple hf) bt_tuple (e_var 0 rfl (Or.inl rfl))) (e_isi (by decide) rfl (m_isinstance hf) rfl (m_list hf) bt_list (e_var 0 rfl (Or.inl rfl)))))
    (b_cons (s_if (t_w (w_or (t_not (t_tru (e_var 2 rfl (Or.inl rfl)))) (w_or1 (t_cmp o_ne (e_blt o_len rfl (m_len hf) bt_len (a_cons (e_var 0 rfl (Or.inl rfl)) a_nil)) (e_blt o_len rfl (m_len hf) bt_len (a_cons (e_var 1 rfl (Or.inl rfl)) a_nil)))))) (b_one (s_ret e_bl)) b_nil)
    (b_cons (s_for (passes_of rfl) rfl (i_zip rfl (m_zip hf) (a_cons (e_var 0 rfl (Or.inl rfl)) (a_cons (e_var 1 rfl (Or.inl rfl)) a_nil))) (g_tup (is := [3, 4]) rfl (pgs_cons (pg_name (i := 3) sc_law_same.nd rfl (.inl rfl)) (pgs_cons (pg_name (i := 4) sc_law_same.nd rfl (.inl rfl)) pgs_nil))) (b_one (s_if (t_not (t_tru (e_call (hsame) hr takes_def rfl (a_cons (e_var 3 rfl (Or.inl rfl)) (a_cons (e_var 4 rfl (Or.inl rfl)) a_nil))))) (b_one (s_ret e_bl)) b_nil)))
    (b_one (s_ret e_bl))))) b_nil)
  (b_cons (s_if (t_cmp o_is (e_var 1 rfl (Or.inl rfl)) e_non) (b_one (s_ret (e_cmp o_is (e_var 0 rfl (Or.inl rfl)) e_non))) b_nil)
  (b_cons (s_if (t_w (w_or (t_cmp o_is (e_var 1 rfl (Or.inl rfl)) e_bl) (w_or1 (t_cmp o_is (e_var 1 rfl (Or.inl rfl)) e_bl)))) (b_one (s_ret (e_and (e_isi (by decide) rfl (m_isinstance hf) rfl (m_bool hf) bt_bool (e_var 0 rfl (Or.inl rfl))) (e_one (e_cmp o_eq (e_var 0 rfl (Or.inl rfl)) (e_var 1 rfl (Or.inl rfl))))))) b_nil)
  (b_cons (s_if (t_tru (e_isi (by decide) rfl (m_isinstance hf) rfl (m_int hf) bt_int (e_var 1 rfl (Or.inl rfl)))) (b_one (s_ret (e_and (e_isi (by decide) rfl (m_isinstance hf) rfl (m_int hf) bt_int (e_var 0 rfl (Or.inl rfl))) (e_and (e_not (e_isi (by decide) rfl (m_isinstance hf) rfl (m_bool hf) bt_bool (e_var 0 rfl (Or.inl rfl)))) (e_one (e_cmp o_eq (e_var 0 rfl (Or.inl rfl)) (e_var 1 rfl (Or.inl rfl)))))))) b_nil)
  (b_one (s_ret (e_and (e_isi (by decide) rfl (m_isinstance hf) rfl (m_str hf) bt_str (e_var 0 rfl (Or.inl rfl))) (e_and (e_isi (by decide) rfl (m_isinstance hf) rfl (m_str hf) bt_str (e_var 1 rfl (Or.inl rfl))) (e_one (e_cmp o_eq (e_var 0 rfl (Or.inl rfl)) (e_var 1 rfl (Or.inl rfl))))))))))))
theorem d_law_same (n : Nat) (hf : HFt P w K mg base) : Def P w (gH K mg tf) base (n + 2) "_law_same" ["told", "due"] [] (g_law_same n) := d_law_same_ hf n
theorem sc_law_heard_label : FnScope ["ask", "fault", "other"] ["ask"] (defScope s_law_heard_label) := ⟨rfl, rfl, rfl, by decide +kernel, rfl, by decide +kernel, by decide +kernel⟩

def hs_law_heard_label : List Hd := [⟨"BadLabel", "at", "none", ["BadDeed", "BadEvent", "BadFraction", "BadName", "BadOctets", "BadRoster", "BadRun", "BadText", "BadView", "Refused"]⟩]
def g_law_heard_label_b (n : Nat) (th : Store → Out T) : FS := sTryP xsA 1 2 (sRet (fTup (aCons (fC (.str "told")) (aCons (fAsk n th) aNil)))) hs_law_heard_label
theorem d_law_heard_label (hf : HFt P w K mg base) : LDef P w K mg base (tabsOf K tf) "_law_heard_label" 3 g_law_heard_label_b := by
  obtain ⟨A_BadDeed, T_BadDeed⟩ := hf.xc _ (xc_BadDeed)
  obtain ⟨A_BadEvent, T_BadEvent⟩ := hf.xc _ (xc_BadEvent)
  obtain ⟨A_BadFraction, T_BadFraction⟩ := hf.xc _ (xc_BadFraction)
  obtain ⟨A_BadLabel, T_BadLabel⟩ := hf.xc _ (xc_BadLabel)
  obtain ⟨A_BadName, T_BadName⟩ := hf.xc _ (xc_BadName)
  obtain ⟨A_BadOctets, T_BadOctets⟩ := hf.xc _ (xc_BadOctets)
  obtain ⟨A_BadRoster, T_BadRoster⟩ := hf.xc _ (xc_BadRoster)
  obtain ⟨A_BadRun, T_BadRun⟩ := hf.xc _ (xc_BadRun)
  obtain ⟨A_BadText, T_BadText⟩ := hf.xc _ (xc_BadText)
  obtain ⟨A_BadView, T_BadView⟩ := hf.xc _ (xc_BadView)
  obtain ⟨A_OwnError, M_OwnError⟩ := hf.own
  obtain ⟨A_Refused, T_Refused⟩ := hf.xc _ (xc_Refused)
  have K0 : ∀ {X : Cx} (e1 : X.mg = mg), HdOk X xsA ysA ⟨"BadLabel", "at", "none", ["BadDeed", "BadEvent", "BadFraction", "BadName", "BadOctets", "BadRoster", "BadRun", "BadText", "BadView", "Refused"]⟩ A_BadLabel A_OwnError [A_BadDeed, A_BadEvent, A_BadFraction, A_BadName, A_BadOctets, A_BadRoster, A_BadRun, A_BadText, A_BadView, A_Refused] := fun e1 => ⟨by rw [e1]; exact T_BadLabel.gC, by rw [e1]; exact M_OwnError, by decide, by decide, by decide, by decide, by decide, by rw [e1]; exact (.cons T_BadDeed.gC (.cons T_BadEvent.gC (.cons T_BadFraction.gC (.cons T_BadName.gC (.cons T_BadOctets.gC (.cons T_BadRoster.gC (.cons T_BadRun.gC (.cons T_BadText.gC (.cons T_BadView.gC (.cons T_Refused.gC .nil)))))))))), Nat.le_of_ble_eq_true rfl⟩
  refine ldef_hf hf (d := dd_law_heard_label) (List.mem_of_getElem? (show fn[16]? = some dd_law_heard_label from rfl)) sc_law_heard_label rfl rfl (fun _ _ _ _ _ _ us hl => match us, hl with | [_], _ => rfl) rfl (Or.inl rfl) rfl (by decide) (by decide) fun g cdv z th A outer s H ask => ?_
  exact b_one (s_try hf.xf rfl rfl sc_law_heard_label.nd takes0 (by decide) (fun W pn xe tk _ => b_one (s_ret (e_tup (a_cons e_str (a_cons (ask W pn xe _ _ tk) a_nil))))) (.cons (h_cls T_BadLabel.gC) rfl rfl (fun a oe cls d pn hz hv => suite_of (C := A_BadLabel) (cls := cls) (t := tSuite K A_BadLabel A_OwnError "at" "none" 1 2 [A_BadDeed, A_BadEvent, A_BadFraction, A_BadName, A_BadOctets, A_BadRoster, A_BadRun, A_BadText, A_BadView, A_Refused] a cls d) fun ec => by subst ec; exact pss_cons (ps_set (i := 2) sc_law_heard_label.nd rfl (Or.inl rfl) (pe_callB (call_isT hf.xf (by decide) T_BadLabel.gC hz hv) rfl (m_isinstance hf) bt_isinstance (pa_cons (pv 1) (pa_cons (pe_tup (cl_cons rfl T_BadDeed.gC (cl_cons rfl T_BadEvent.gC (cl_cons rfl T_BadFraction.gC (cl_cons rfl T_BadName.gC (cl_cons rfl T_BadOctets.gC (cl_cons rfl T_BadRoster.gC (cl_cons rfl T_BadRun.gC (cl_cons rfl T_BadText.gC (cl_cons rfl T_BadView.gC (cl_cons rfl T_Refused.gC cl_nil))))))))))) pa_nil)))) (pss_one (ps_ret (pe_tup (pa_cons pe_str (pa_cons (pe_xf (hf.fc _ ⟨_, xs_BadLabel, T_BadLabel.gC⟩) T_BadLabel.noN hz hv (pv 1)) (pa_cons (pe_callB (call_is1 hf.xf (by decide) T_BadLabel.gC hz hv) rfl (m_isinstance hf) bt_isinstance (pa_cons (pv 1) (pa_cons (pe_glob (v := .ref A_OwnError) rfl M_OwnError rfl) pa_nil))) (pa_cons (pe_callB (call_is1 hf.xf (by decide) T_BadLabel.gC hz hv) rfl (m_isinstance hf) bt_isinstance (pa_cons (pv 1) (pa_cons (pe_bltn (v := .ty "ValueError") rfl (m_ValueError hf) bt_ValueError rfl) pa_nil))) (pa_cons (pv 2) pa_nil))))))))) .nil) (.cons (K0 rfl) .nil))
theorem sc_law_heard_name : FnScope ["ask", "fault", "other"] ["ask"] (defScope s_law_heard_name) := ⟨rfl, rfl, rfl, by decide +kernel, rfl, by decide +kernel, by decide +kernel⟩

def hs_law_heard_name : List Hd := [⟨"BadName", "at", "none", ["BadDeed", "BadEvent", "BadFraction", "BadLabel", "BadOctets", "BadRoster", "BadRun", "BadText", "BadView", "Refused"]⟩]
def g_law_heard_name_b (n : Nat) (th : Store → Out T) : FS := sTryP xsA 1 2 (sRet (fTup (aCons (fC (.str "told")) (aCons (fAsk n th) aNil)))) hs_law_heard_name
theorem d_law_heard_name (hf : HFt P w K mg base) : LDef P w K mg base (tabsOf K tf) "_law_heard_name" 3 g_law_heard_name_b := by
  obtain ⟨A_BadDeed, T_BadDeed⟩ := hf.xc _ (xc_BadDeed)
  obtain ⟨A_BadEvent, T_BadEvent⟩ := hf.xc _ (xc_BadEvent)
  obtain ⟨A_BadFraction, T_BadFraction⟩ := hf.xc _ (xc_BadFraction)
  obtain ⟨A_BadLabel, T_BadLabel⟩ := hf.xc _ (xc_BadLabel)
  obtain ⟨A_BadName, T_BadName⟩ := hf.xc _ (xc_BadName)
  obtain ⟨A_BadOctets, T_BadOctets⟩ := hf.xc _ (xc_BadOctets)
  obtain ⟨A_BadRoster, T_BadRoster⟩ := hf.xc _ (xc_BadRoster)
  obtain ⟨A_BadRun, T_BadRun⟩ := hf.xc _ (xc_BadRun)
  obtain ⟨A_BadText, T_BadText⟩ := hf.xc _ (xc_BadText)
  obtain ⟨A_BadView, T_BadView⟩ := hf.xc _ (xc_BadView)
  obtain ⟨A_OwnError, M_OwnError⟩ := hf.own
  obtain ⟨A_Refused, T_Refused⟩ := hf.xc _ (xc_Refused)
  have K0 : ∀ {X : Cx} (e1 : X.mg = mg), HdOk X xsA ysA ⟨"BadName", "at", "none", ["BadDeed", "BadEvent", "BadFraction", "BadLabel", "BadOctets", "BadRoster", "BadRun", "BadText", "BadView", "Refused"]⟩ A_BadName A_OwnError [A_BadDeed, A_BadEvent, A_BadFraction, A_BadLabel, A_BadOctets, A_BadRoster, A_BadRun, A_BadText, A_BadView, A_Refused] := fun e1 => ⟨by rw [e1]; exact T_BadName.gC, by rw [e1]; exact M_OwnError, by decide, by decide, by decide, by decide, by decide, by rw [e1]; exact (.cons T_BadDeed.gC (.cons T_BadEvent.gC (.cons T_BadFraction.gC (.cons T_BadLabel.gC (.cons T_BadOctets.gC (.cons T_BadRoster.gC (.cons T_BadRun.gC (.cons T_BadText.gC (.cons T_BadView.gC (.cons T_Refused.gC .nil)))))))))), Nat.le_of_ble_eq_true rfl⟩
  refine ldef_hf hf (d := dd_law_heard_name) (List.mem_of_getElem? (show fn[17]? = some dd_law_heard_name from rfl)) sc_law_heard_name rfl rfl (fun _ _ _ _ _ _ us hl => match us, hl with | [_], _ => rfl) rfl (Or.inl rfl) rfl (by decide) (by decide) fun g cdv z th A outer s H ask => ?_
  exact b_one (s_try hf.xf rfl rfl sc_law_heard_name.nd takes0 (by decide) (fun W pn xe tk _ => b_one (s_ret (e_tup (a_cons e_str (a_cons (ask W pn xe _ _ tk) a_nil))))) (.cons (h_cls T_BadName.gC) rfl rfl (fun a oe cls d pn hz hv => suite_of (C := A_BadName) (cls := cls) (t := tSuite K A_BadName A_OwnError "at" "none" 1 2 [A_BadDeed, A_BadEvent, A_BadFraction, A_BadLabel, A_BadOctets, A_BadRoster, A_BadRun, A_BadText, A_BadView, A_Refused] a cls d) fun ec => by subst ec; exact pss_cons (ps_set (i := 2) sc_law_heard_name.nd rfl (Or.inl rfl) (pe_callB (call_isT hf.xf (by decide) T_BadName.gC hz hv) rfl (m_isinstance hf) bt_isinstance (pa_cons (pv 1) (pa_cons (pe_tup (cl_cons rfl T_BadDeed.gC (cl_cons rfl T_BadEvent.gC (cl_cons rfl T_BadFraction.gC (cl_cons rfl T_BadLabel.gC (cl_cons rfl T_BadOctets.gC (cl_cons rfl T_BadRoster.gC (cl_cons rfl T_BadRun.gC (cl_cons rfl T_BadText.gC (cl_cons rfl T_BadView.gC (cl_cons rfl T_Refused.gC cl_nil))))))))))) pa_nil)))) (pss_one (ps_ret (pe_tup (pa_cons pe_str (pa_cons (pe_xf (hf.fc _ ⟨_, xs_BadName, T_BadName.gC⟩) T_BadName.noN hz hv (pv 1)) (pa_cons (pe_callB (call_is1 hf.xf (by decide) T_BadName.gC hz hv) rfl (m_isinstance hf) bt_isinstance (pa_cons (pv 1) (pa_cons (pe_glob (v := .ref A_OwnError) rfl M_OwnError rfl) pa_nil))) (pa_cons (pe_callB (call_is1 hf.xf (by decide) T_BadName.gC hz hv) rfl (m_isinstance hf) bt_isinstance (pa_cons (pv 1) (pa_cons (pe_bltn (v := .ty "ValueError") rfl (m_ValueError hf) bt_ValueError rfl) pa_nil))) (pa_cons (pv 2) pa_nil))))))))) .nil) (.cons (K0 rfl) .nil))
theorem sc_law_label_right : FnScope ["value", "place", "due"] ["value"] (defScope s_law_label_right) := ⟨rfl, rfl, rfl, by decide +kernel, rfl, by decide +kernel, by decide +kernel⟩

def g_law_label_right_b : FS :=
  (sSeq (sAsg (fCall g_law_text_fault (aCons (fVar 0) aNil)) (gNm 1))
  (sSeq (sAsg (fIf (fBl (fBin oIs (fVar 1) (fC .non))) (fTup (aCons (fC (.str "told")) (aCons (fVar 0) aNil))) (fTup (aCons (fC (.str "none")) (aCons (fVar 1) (aCons (fC (.bl true)) (aCons (fC (.bl true)) (aCons (fC (.bl false)) aNil))))))) (gNm 2))
  (sRet (fCall (g_law_same 8) (aCons (fLam 3 g_law_heard_label_b (fCall g_check_label (aCons (fVar 0) aNil))) (aCons (fVar 2) aNil))))))
def g_law_label_right : GF := runDef 1 3 g_law_label_right_b
theorem tf_law_label_right : (("_law_label_right", none) : He.Defn) ∈ tf := List.mem_of_getElem? (i := 0) rfl
theorem d_law_label_right (hf : HFt P w K mg base) : Def P w (gH K mg tf) base 11 "_law_label_right" ["value"] [] g_law_label_right := by
  refine def_hf hf (d := dd_law_label_right) (List.mem_of_getElem? (show fn[18]? = some dd_law_label_right from rfl)) sc_law_label_right (fun _ _ _ _ _ _ us hl => match us, hl with | [_], _ => rfl) (fun q hq => by cases hq) (k := 10) fun f cdv A outer s H E hcd hr => ?_
  exact
  (b_cons (s_set 1 sc_law_label_right.nd (e_call ((d_law_text_fault hf).mono (by decide)) hr takes_def rfl (a_cons (e_var 0 rfl (Or.inr (Or.inl rfl))) a_nil)))
  (b_cons (s_set 2 sc_law_label_right.nd (e_if (t_cmp o_is (e_var 1 rfl (Or.inl rfl)) e_non) (e_tup (a_cons e_str (a_cons (e_var 0 rfl (Or.inr (Or.inl rfl))) a_nil))) (e_tup (a_cons e_str (a_cons (e_var 1 rfl (Or.inl rfl)) (a_cons e_bl (a_cons e_bl (a_cons e_bl a_nil))))))))
  (b_one (s_ret (e_call ((d_law_same 8 hf).mono (by decide)) hr takes_def rfl (a_cons (e_lam (k := 4) (d_law_heard_label hf) rfl (hf.tb _ (tf_law_label_right)) hcd (hf.tab (tf_law_label_right)) (hf.one (tf_law_label_right)) (hr.mono (by decide)) (show LamX.LamS (defScope s_law_label_right) _ from LamX.lamS_by (by decide +kernel)) rfl (fun _ _ _ _ _ => rfl) (fun E A outer s H f c hr => (e_call ((d_check_label hf).mono (by decide)) hr (takes_of rfl rfl rfl rfl) rfl (a_cons (e_var 0 rfl) a_nil)))) (a_cons (e_var 2 rfl (Or.inl rfl)) a_nil)))))))
theorem sc_law_name_right : FnScope ["value", "place", "due"] ["value"] (defScope s_law_name_right) := ⟨rfl, rfl, rfl, by decide +kernel, rfl, by decide +kernel, by decide +kernel⟩

def g_law_name_right_b : FS :=
  (sSeq (sAsg (fCall g_law_name_fault (aCons (fVar 0) aNil)) (gNm 1))
  (sSeq (sAsg (fIf (fBl (fBin oIs (fVar 1) (fC .non))) (fTup (aCons (fC (.str "told")) (aCons (fVar 0) aNil))) (fTup (aCons (fC (.str "none")) (aCons (fVar 1) (aCons (fC (.bl true)) (aCons (fC (.bl true)) (aCons (fC (.bl false)) aNil))))))) (gNm 2))
  (sRet (fCall (g_law_same 8) (aCons (fLam 3 g_law_heard_name_b (fCall g_check_name (aCons (fVar 0) aNil))) (aCons (fVar 2) aNil))))))
def g_law_name_right : GF := runDef 1 3 g_law_name_right_b
theorem tf_law_name_right : (("_law_name_right", none) : He.Defn) ∈ tf := List.mem_of_getElem? (i := 1) rfl
theorem d_law_name_right (hf : HFt P w K mg base) : Def P w (gH K mg tf) base 11 "_law_name_right" ["value"] [] g_law_name_right := by
  refine def_hf hf (d := dd_law_name_right) (List.mem_of_getElem? (show fn[19]? = some dd_law_name_right from rfl)) sc_law_name_right (fun _ _ _ _ _ _ us hl => match us, hl with | [_], _ => rfl) (fun q hq => by cases hq) (k := 10) fun f cdv A outer s H E hcd hr => ?_
  exact
  (b_cons (s_set 1 sc_law_name_right.nd (e_call ((d_law_name_fault hf).mono (by decide)) hr takes_def rfl (a_cons (e_var 0 rfl (Or.inr (Or.inl rfl))) a_nil)))
  (b_cons (s_set 2 sc_law_name_right.nd (e_if (t_cmp o_is (e_var 1 rfl (Or.inl rfl)) e_non) (e_tup (a_cons e_str (a_cons (e_var 0 rfl (Or.inr (Or.inl rfl))) a_nil))) (e_tup (a_cons e_str (a_cons (e_var 1 rfl (Or.inl rfl)) (a_cons e_bl (a_cons e_bl (a_cons e_bl a_nil))))))))
  (b_one (s_ret (e_call ((d_law_same 8 hf).mono (by decide)) hr takes_def rfl (a_cons (e_lam (k := 6) (d_law_heard_name hf) rfl (hf.tb _ (tf_law_name_right)) hcd (hf.tab (tf_law_name_right)) (hf.one (tf_law_name_right)) (hr.mono (by decide)) (show LamX.LamS (defScope s_law_name_right) _ from LamX.lamS_by (by decide +kernel)) rfl (fun _ _ _ _ _ => rfl) (fun E A outer s H f c hr => (e_call ((d_check_name hf).mono (by decide)) hr (takes_of rfl rfl rfl rfl) rfl (a_cons (e_var 0 rfl) a_nil)))) (a_cons (e_var 2 rfl (Or.inl rfl)) a_nil)))))))
theorem sc_law_labels : FnScope ["box", "many", "turn"] ["box", "many"] (defScope s_law_labels) := ⟨rfl, rfl, rfl, by decide +kernel, rfl, by decide +kernel, by decide +kernel⟩

def g_law_labels_b : FS :=
  (sRet (fLc [2] (fiRng1 (aCons (fVar 1) aNil)) (gNm 2) fYes (fCall g_law_label (aCons (fVar 0) aNil))))
def g_law_labels : GF := runDef 2 3 g_law_labels_b
theorem d_law_labels (hf : HFt P w K mg base) : Def P w (gH K mg tf) base 6 "_law_labels" ["box", "many"] [] g_law_labels := by
  refine def_hf hf (d := dd_law_labels) (List.mem_of_getElem? (show fn[20]? = some dd_law_labels from rfl)) sc_law_labels (fun _ _ _ _ _ _ us hl => match us, hl with | [_, _], _ => rfl) (fun q hq => by cases hq) (k := 5) fun f cdv A outer s H E hcd hr => ?_
  exact
  (b_one (s_ret (e_lc (own := [("turn", 2)]) rfl sc_law_labels.nd (i_range1 rfl (m_range hf) (a_cons (e_var 1 rfl (Or.inl rfl)) a_nil)) (show BlkOk ["box", "many", "turn"] (defScope s_law_labels) _ _ from blkOk_by (by decide +kernel)) (c_nm (i := 2)) (fun _ _ _ _ _ => pg_name (i := 2) sc_law_labels.nd rfl (.inl rfl)) (fun _ _ _ _ _ => ts_nil) (fun _ _ _ _ _ => (e_call ((d_law_label hf).mono (by decide)) hr takes0 rfl (a_cons (e_var 0 rfl) a_nil))))))
theorem sc_law_joined : FnScope ["box", "target", "rest", "some", "due"] ["box"] (defScope s_law_joined) := ⟨rfl, rfl, rfl, by decide +kernel, rfl, by decide +kernel, by decide +kernel⟩

def g_law_joined_b : FS :=
  (sSeq (sPar (aCons (fCall g_law_labels (aCons (fVar 0) (aCons (fBin oAdd (fC (.int 1)) (fCall g_law_take (aCons (fVar 0) (aCons (fC (.int 6)) aNil)))) aNil))) (aCons (fCall g_law_labels (aCons (fVar 0) (aCons (fCall g_law_take (aCons (fVar 0) (aCons (fC (.int 7)) aNil))) aNil))) aNil)) 1 2)
  (sSeq (sAsg (fBin oAdd (fVar 1) (fVar 2)) (gNm 3))
  (sSeq (sAsg (fIf (fBl (fBin oLe (fNat nLen (aCons (fVar 3) aNil)) (fC (.int 6)))) (fNat nTuple (aCons (fVar 3) aNil)) (fC .non)) (gNm 4))
  (sSeq (sIf (fNotT (fTru (fCall (g_law_same 8) (aCons (fCall g_joined_name (aCons (fNat nTuple (aCons (fVar 1) aNil)) (aCons (fNat nTuple (aCons (fVar 2) aNil)) aNil))) (aCons (fVar 4) aNil))))) (sRet (fC (.bl false))) sNext)
  (sRet (fCall (g_law_same 8) (aCons (fCallK 0 ["target", "rest"] ["rest", "target"] g_joined_name aNil (aCons (fNat nTuple (aCons (fVar 2) aNil)) (aCons (fNat nTuple (aCons (fVar 1) aNil)) aNil))) (aCons (fVar 4) aNil))))))))
def g_law_joined : GF := runDef 1 5 g_law_joined_b
theorem d_law_joined (hf : HFt P w K mg base) : Def P w (gH K mg tf) base 11 "_law_joined" ["box"] [] g_law_joined := by
  refine def_hf hf (d := dd_law_joined) (List.mem_of_getElem? (show fn[21]? = some dd_law_joined from rfl)) sc_law_joined (fun _ _ _ _ _ _ us hl => match us, hl with | [_], _ => rfl) (fun q hq => by cases hq) (k := 10) fun f cdv A outer s H E hcd hr => ?_
  exact
  (b_cons (s_par 1 2 rfl sc_law_joined.nd (a_cons (e_call ((d_law_labels hf).mono (by decide)) hr takes_def rfl (a_cons (e_var 0 rfl (Or.inl rfl)) (a_cons (e_bin o_add e_int (e_call ((d_law_take hf).mono (by decide)) hr takes_def rfl (a_cons (e_var 0 rfl (Or.inl rfl)) (a_cons e_int a_nil)))) a_nil))) (a_cons (e_call ((d_law_labels hf).mono (by decide)) hr takes_def rfl (a_cons (e_var 0 rfl (Or.inl rfl)) (a_cons (e_call ((d_law_take hf).mono (by decide)) hr takes_def rfl (a_cons (e_var 0 rfl (Or.inl rfl)) (a_cons e_int a_nil))) a_nil))) a_nil)))
  (b_cons (s_set 3 sc_law_joined.nd (e_bin o_add (e_var 1 rfl (Or.inl rfl)) (e_var 2 rfl (Or.inl rfl))))
  (b_cons (s_set 4 sc_law_joined.nd (e_if (t_cmp o_le (e_blt o_len rfl (m_len hf) bt_len (a_cons (e_var 3 rfl (Or.inl rfl)) a_nil)) e_int) (e_ty o_tuple rfl (m_tuple hf) bt_tuple (a_cons (e_var 3 rfl (Or.inl rfl)) a_nil)) e_non))
  (b_cons (s_if (t_not (t_tru (e_call ((d_law_same 8 hf).mono (by decide)) hr takes_def rfl (a_cons (e_call ((d_joined_name hf).mono (by decide)) hr takes_def rfl (a_cons (e_ty o_tuple rfl (m_tuple hf) bt_tuple (a_cons (e_var 1 rfl (Or.inl rfl)) a_nil)) (a_cons (e_ty o_tuple rfl (m_tuple hf) bt_tuple (a_cons (e_var 2 rfl (Or.inl rfl)) a_nil)) a_nil))) (a_cons (e_var 4 rfl (Or.inl rfl)) a_nil))))) (b_one (s_ret e_bl)) b_nil)
  (b_one (s_ret (e_call ((d_law_same 8 hf).mono (by decide)) hr takes_def rfl (a_cons (e_callK0 ((d_joined_name hf).mono (by decide)) hr takes_def rfl (List.mem_of_getElem? (i := 0) rfl) (k_cons (e_ty o_tuple rfl (m_tuple hf) bt_tuple (a_cons (e_var 2 rfl (Or.inl rfl)) a_nil)) (k_cons (e_ty o_tuple rfl (m_tuple hf) bt_tuple (a_cons (e_var 1 rfl (Or.inl rfl)) a_nil)) k_nil))) (a_cons (e_var 4 rfl (Or.inl rfl)) a_nil)))))))))
theorem sc_law_spoilt : FnScope ["box", "labels", "found", "turn", "spot"] ["box", "labels"] (defScope s_law_spoilt) := ⟨rfl, rfl, rfl, by decide +kernel, rfl, by decide +kernel, by decide +kernel⟩

def g_law_spoilt_b : FS :=
  (sSeq (sIf (fBl (fBin oEq (fCall g_law_take (aCons (fVar 0) (aCons (fC (.int 5)) aNil))) (fC (.int 0)))) (sRet (fCall g_law_pick (aCons (fVar 0) (aCons (fLst (aCons (fC .non) (aCons (fC (.str "a")) (aCons (fC (.int 7)) (aCons (fTup aNil) (aCons (fLst aNil) (aCons (fNat nList (aCons (fVar 1) aNil)) (aCons (fC (.bl true)) (aCons (fTup (aCons (fBin oIx (fVar 1) (fC (.int 0))) aNil)) (aCons (fNat nTuple (aCons (fBin oAdd (fVar 1) (fVar 1)) aNil)) aNil)))))))))) aNil)))) sNext)
  (sSeq (sAsg (fNat nList (aCons (fVar 1) aNil)) (gNm 2))
  (sSeq (sFor (fiRng1 (aCons (fBin oAdd (fC (.int 1)) (fCall g_law_take (aCons (fVar 0) (aCons (fC (.int 2)) aNil)))) aNil)) (gNm 3) (sSeq (sAsg (fCall g_law_take (aCons (fVar 0) (aCons (fNat nLen (aCons (fVar 2) aNil)) aNil))) (gNm 4))
    (sAsg (fIf (fBl (fBin oEq (fCall g_law_take (aCons (fVar 0) (aCons (fC (.int 3)) aNil))) (fC (.int 0)))) (fCall g_law_odd (aCons (fVar 0) aNil)) (fCall g_law_bent (aCons (fVar 0) (aCons (fBin oIx (fVar 1) (fC (.int 0))) aNil)))) (gSb (fVar 2) (fVar 4)))))
  (sRet (fNat nTuple (aCons (fVar 2) aNil))))))
def g_law_spoilt : GF := runDef 2 5 g_law_spoilt_b
theorem d_law_spoilt (hf : HFt P w K mg base) : Def P w (gH K mg tf) base 7 "_law_spoilt" ["box", "labels"] [] g_law_spoilt := by
  refine def_hf hf (d := dd_law_spoilt) (List.mem_of_getElem? (show fn[22]? = some dd_law_spoilt from rfl)) sc_law_spoilt (fun _ _ _ _ _ _ us hl => match us, hl with | [_, _], _ => rfl) (fun q hq => by cases hq) (k := 6) fun f cdv A outer s H E hcd hr => ?_
  exact
  (b_cons (s_if (t_cmp o_eq (e_call ((d_law_take hf).mono (by decide)) hr takes_def rfl (a_cons (e_var 0 rfl (Or.inl rfl)) (a_cons e_int a_nil))) e_int) (b_one (s_ret (e_call ((d_law_pick hf).mono (by decide)) hr takes_def rfl (a_cons (e_var 0 rfl (Or.inl rfl)) (a_cons (e_lst (a_cons e_non (a_cons e_str (a_cons e_int (a_cons (e_tup a_nil) (a_cons (e_lst a_nil) (a_cons (e_ty o_list rfl (m_list hf) bt_list (a_cons (e_var 1 rfl (Or.inl rfl)) a_nil)) (a_cons e_bl (a_cons (e_tup (a_cons (e_ix (e_var 1 rfl (Or.inl rfl)) e_int) a_nil)) (a_cons (e_ty o_tuple rfl (m_tuple hf) bt_tuple (a_cons (e_bin o_add (e_var 1 rfl (Or.inl rfl)) (e_var 1 rfl (Or.inl rfl))) a_nil)) a_nil)))))))))) a_nil))))) b_nil)
  (b_cons (s_set 2 sc_law_spoilt.nd (e_ty o_list rfl (m_list hf) bt_list (a_cons (e_var 1 rfl (Or.inl rfl)) a_nil)))
  (b_cons (s_for (passes_of rfl) rfl (i_range1 rfl (m_range hf) (a_cons (e_bin o_add e_int (e_call ((d_law_take hf).mono (by decide)) hr takes_def rfl (a_cons (e_var 0 rfl (Or.inl rfl)) (a_cons e_int a_nil)))) a_nil)) (g_nm 3 sc_law_spoilt.nd) (b_cons (s_set 4 sc_law_spoilt.nd (e_call ((d_law_take hf).mono (by decide)) hr takes_def rfl (a_cons (e_var 0 rfl (Or.inl rfl)) (a_cons (e_blt o_len rfl (m_len hf) bt_len (a_cons (e_var 2 rfl (Or.inl rfl)) a_nil)) a_nil))))
    (b_one (s_asg (e_if (t_cmp o_eq (e_call ((d_law_take hf).mono (by decide)) hr takes_def rfl (a_cons (e_var 0 rfl (Or.inl rfl)) (a_cons e_int a_nil))) e_int) (e_call ((d_law_odd hf).mono (by decide)) hr takes_def rfl (a_cons (e_var 0 rfl (Or.inl rfl)) a_nil)) (e_call ((d_law_bent hf).mono (by decide)) hr takes_def rfl (a_cons (e_var 0 rfl (Or.inl rfl)) (a_cons (e_ix (e_var 1 rfl (Or.inl rfl)) e_int) a_nil)))) (g_sub (e_var 2 rfl (Or.inl rfl)) (e_var 4 rfl (Or.inl rfl)))))))
  (b_one (s_ret (e_ty o_tuple rfl (m_tuple hf) bt_tuple (a_cons (e_var 2 rfl (Or.inl rfl)) a_nil)))))))
theorem sc_law : FnScope ["script", "value", "labels", "k", "box", "turn", "label"] ["script"] (defScope s_law) := ⟨rfl, rfl, rfl, by decide +kernel, rfl, by decide +kernel, by decide +kernel⟩

def g_law_b : FS :=
  (sSeq (sFor (fiSeq (fLst (aCons (fC (.str "a")) (aCons (fC (.str "z")) (aCons (fC (.str "abcdefgh")) (aCons (fC (.str "abcdefghi")) (aCons (fC (.str "zzzzzzzzz")) (aCons (fC (.str "")) (aCons (fC (.str "abcdefgh-")) (aCons (fC (.str "abcdefg-i")) (aCons (fC (.str "A")) aNil))))))))))) (gNm 1) (sIf (fOrT (fNotT (fTru (fCall g_law_label_right (aCons (fVar 1) aNil)))) (fOrT (fNotT (fTru (fCall g_law_name_right (aCons (fTup (aCons (fVar 1) aNil)) aNil)))) (fNotT (fTru (fCall g_law_name_right (aCons (fVar 1) aNil)))))) (sRet (fC (.bl false))) sNext))
  (sSeq (sFor (fiSeq (fLst (aCons (fBin oMul (fLst (aCons (fC (.str "a")) aNil)) (fC (.int 6))) (aCons (fBin oMul (fLst (aCons (fC (.str "a")) aNil)) (fC (.int 7))) (aCons (fBin oMul (fLst (aCons (fC (.str "a")) aNil)) (fC (.int 8))) (aCons (fBin oAdd (fBin oMul (fLst (aCons (fC (.str "z")) aNil)) (fC (.int 5))) (fLst (aCons (fC (.str "")) aNil))) (aCons (fBin oAdd (fBin oMul (fLst (aCons (fC (.str "z")) aNil)) (fC (.int 6))) (fLst (aCons (fC (.str "")) aNil))) (aCons (fBin oAdd (fBin oMul (fLst (aCons (fC (.str "z")) aNil)) (fC (.int 5))) (fLst (aCons (fC (.str "A")) (aCons (fC (.str "b")) aNil)))) (aCons (fBin oMul (fLst (aCons (fC (.str "zzzzzzzz")) aNil)) (fC (.int 6))) aNil))))))))) (gNm 2) (sIf (fOrT (fNotT (fTru (fCall g_law_name_right (aCons (fNat nTuple (aCons (fVar 2) aNil)) aNil)))) (fNotT (fTru (fCall g_law_name_right (aCons (fVar 2) aNil))))) (sRet (fC (.bl false))) sNext))
  (sSeq (sFor (fiRng1 (aCons (fNat (n2I imax) (aCons (fC (.int 4)) (aCons (fNat (n2I imin) (aCons (fNat nLen (aCons (fVar 0) aNil)) (aCons (fC (.int 12)) aNil))) aNil))) aNil)) (gNm 3) (sSeq (sAsg (fCall g_law_box (aCons (fVar 0) (aCons (fVar 3) aNil))) (gNm 4))
    (sFor (fiRng1 (aCons (fC (.int 4)) aNil)) (gNm 5) (sSeq (sAsg (fCall g_law_label (aCons (fVar 4) aNil)) (gNm 6))
      (sSeq (sIf (fOrT (fNotT (fTru (fCall g_law_label_right (aCons (fVar 6) aNil)))) (fOrT (fNotT (fTru (fCall g_law_label_right (aCons (fCall g_law_bent (aCons (fVar 4) (aCons (fVar 6) aNil))) aNil)))) (fNotT (fTru (fCall g_law_label_right (aCons (fCall g_law_odd (aCons (fVar 4) aNil)) aNil)))))) (sRet (fC (.bl false))) sNext)
      (sSeq (sAsg (fCall g_law_labels (aCons (fVar 4) (aCons (fBin oAdd (fC (.int 1)) (fCall g_law_take (aCons (fVar 4) (aCons (fC (.int 8)) aNil)))) aNil))) (gNm 2))
      (sSeq (sIf (fOrT (fNotT (fTru (fCall g_law_name_right (aCons (fNat nTuple (aCons (fVar 2) aNil)) aNil)))) (fOrT (fNotT (fTru (fCall g_law_name_right (aCons (fCall g_law_spoilt (aCons (fVar 4) (aCons (fVar 2) aNil))) aNil)))) (fNotT (fTru (fCall g_law_joined (aCons (fVar 4) aNil)))))) (sRet (fC (.bl false))) sNext)
      (sSeq (sIf (fOrT (fNotT (fTru (fCall g_law_name_right (aCons (fCall g_law_spoilt (aCons (fVar 4) (aCons (fVar 2) aNil))) aNil)))) (fNotT (fTru (fCall (g_law_same 8) (aCons (fCallK 0 ["value"] ["value"] g_check_label aNil (aCons (fVar 6) aNil)) (aCons (fVar 6) aNil)))))) (sRet (fC (.bl false))) sNext)
      (sIf (fNotT (fTru (fCall (g_law_same 8) (aCons (fCallK 0 ["value"] ["value"] g_check_name aNil (aCons (fNat nTuple (aCons (fSlice (fVar 2) pNone (pSome (fC (.int 6)))) aNil)) aNil)) (aCons (fNat nTuple (aCons (fSlice (fVar 2) pNone (pSome (fC (.int 6)))) aNil)) aNil))))) (sRet (fC (.bl false))) sNext)))))))))
  (sRet (fC (.bl true))))))
def g_law : GF := runDef 1 7 g_law_b
theorem d_law (hf : HFt P w K mg base) : Def P w (gH K mg tf) base 12 "law" ["script"] [] g_law := by
  refine def_hf hf (d := dd_law) (List.mem_of_getElem? (show fn[23]? = some dd_law from rfl)) sc_law (fun _ _ _ _ _ _ us hl => match us, hl with | [_], _ => rfl) (fun q hq => by cases hq) (k := 11) fun f cdv A outer s H E hcd hr => ?_
  exact
  (b_cons (s_for (passes_of rfl) rfl (i_seq (e_lst (a_cons e_str (a_cons e_str (a_cons e_str (a_cons e_str (a_cons e_str (a_cons e_str (a_cons e_str (a_cons e_str (a_cons e_str a_nil))))))))))) (g_nm 1 sc_law.nd) (b_one (s_if (t_w (w_or (t_not (t_tru (e_call ((d_law_label_right hf).mono (by decide)) hr takes_def rfl (a_cons (e_var 1 rfl (Or.inl rfl)) a_nil)))) (w_or (t_not (t_tru (e_call ((d_law_name_right hf).mono (by decide)) hr takes_def rfl (a_cons (e_tup (a_cons (e_var 1 rfl (Or.inl rfl)) a_nil)) a_nil)))) (w_or1 (t_not (t_tru (e_call ((d_law_name_right hf).mono (by decide)) hr takes_def rfl (a_cons (e_var 1 rfl (Or.inl rfl)) a_nil)))))))) (b_one (s_ret e_bl)) b_nil)))
  (b_cons (s_for (passes_of rfl) rfl (i_seq (e_lst (a_cons (e_bin o_mul (e_lst (a_cons e_str a_nil)) e_int) (a_cons (e_bin o_mul (e_lst (a_cons e_str a_nil)) e_int) (a_cons (e_bin o_mul (e_lst (a_cons e_str a_nil)) e_int) (a_cons (e_bin o_add (e_bin o_mul (e_lst (a_cons e_str a_nil)) e_int) (e_lst (a_cons e_str a_nil))) (a_cons (e_bin o_add (e_bin o_mul (e_lst (a_cons e_str a_nil)) e_int) (e_lst (a_cons e_str a_nil))) (a_cons (e_bin o_add (e_bin o_mul (e_lst (a_cons e_str a_nil)) e_int) (e_lst (a_cons e_str (a_cons e_str a_nil)))) (a_cons (e_bin o_mul (e_lst (a_cons e_str a_nil)) e_int) a_nil))))))))) (g_nm 2 sc_law.nd) (b_one (s_if (t_w (w_or (t_not (t_tru (e_call ((d_law_name_right hf).mono (by decide)) hr takes_def rfl (a_cons (e_ty o_tuple rfl (m_tuple hf) bt_tuple (a_cons (e_var 2 rfl (Or.inl rfl)) a_nil)) a_nil)))) (w_or1 (t_not (t_tru (e_call ((d_law_name_right hf).mono (by decide)) hr takes_def rfl (a_cons (e_var 2 rfl (Or.inl rfl)) a_nil))))))) (b_one (s_ret e_bl)) b_nil)))
  (b_cons (s_for (passes_of rfl) rfl (i_range1 rfl (m_range hf) (a_cons (e_blt (o_max rfl) rfl (m_max hf) bt_max (a_cons e_int (a_cons (e_blt (o_min rfl) rfl (m_min hf) bt_min (a_cons (e_blt o_len rfl (m_len hf) bt_len (a_cons (e_var 0 rfl (Or.inl rfl)) a_nil)) (a_cons e_int a_nil))) a_nil))) a_nil)) (g_nm 3 sc_law.nd) (b_cons (s_set 4 sc_law.nd (e_call ((d_law_box hf).mono (by decide)) hr takes_def rfl (a_cons (e_var 0 rfl (Or.inl rfl)) (a_cons (e_var 3 rfl (Or.inl rfl)) a_nil))))
    (b_one (s_for (passes_of rfl) rfl (i_range1 rfl (m_range hf) (a_cons e_int a_nil)) (g_nm 5 sc_law.nd) (b_cons (s_set 6 sc_law.nd (e_call ((d_law_label hf).mono (by decide)) hr takes_def rfl (a_cons (e_var 4 rfl (Or.inl rfl)) a_nil)))
      (b_cons (s_if (t_w (w_or (t_not (t_tru (e_call ((d_law_label_right hf).mono (by decide)) hr takes_def rfl (a_cons (e_var 6 rfl (Or.inl rfl)) a_nil)))) (w_or (t_not (t_tru (e_call ((d_law_label_right hf).mono (by decide)) hr takes_def rfl (a_cons (e_call ((d_law_bent hf).mono (by decide)) hr takes_def rfl (a_cons (e_var 4 rfl (Or.inl rfl)) (a_cons (e_var 6 rfl (Or.inl rfl)) a_nil))) a_nil)))) (w_or1 (t_not (t_tru (e_call ((d_law_label_right hf).mono (by decide)) hr takes_def rfl (a_cons (e_call ((d_law_odd hf).mono (by decide)) hr takes_def rfl (a_cons (e_var 4 rfl (Or.inl rfl)) a_nil)) a_nil)))))))) (b_one (s_ret e_bl)) b_nil)
      (b_cons (s_set 2 sc_law.nd (e_call ((d_law_labels hf).mono (by decide)) hr takes_def rfl (a_cons (e_var 4 rfl (Or.inl rfl)) (a_cons (e_bin o_add e_int (e_call ((d_law_take hf).mono (by decide)) hr takes_def rfl (a_cons (e_var 4 rfl (Or.inl rfl)) (a_cons e_int a_nil)))) a_nil))))
      (b_cons (s_if (t_w (w_or (t_not (t_tru (e_call ((d_law_name_right hf).mono (by decide)) hr takes_def rfl (a_cons (e_ty o_tuple rfl (m_tuple hf) bt_tuple (a_cons (e_var 2 rfl (Or.inl rfl)) a_nil)) a_nil)))) (w_or (t_not (t_tru (e_call ((d_law_name_right hf).mono (by decide)) hr takes_def rfl (a_cons (e_call ((d_law_spoilt hf).mono (by decide)) hr takes_def rfl (a_cons (e_var 4 rfl (Or.inl rfl)) (a_cons (e_var 2 rfl (Or.inl rfl)) a_nil))) a_nil)))) (w_or1 (t_not (t_tru (e_call ((d_law_joined hf).mono (by decide)) hr takes_def rfl (a_cons (e_var 4 rfl (Or.inl rfl)) a_nil)))))))) (b_one (s_ret e_bl)) b_nil)
      (b_cons (s_if (t_w (w_or (t_not (t_tru (e_call ((d_law_name_right hf).mono (by decide)) hr takes_def rfl (a_cons (e_call ((d_law_spoilt hf).mono (by decide)) hr takes_def rfl (a_cons (e_var 4 rfl (Or.inl rfl)) (a_cons (e_var 2 rfl (Or.inl rfl)) a_nil))) a_nil)))) (w_or1 (t_not (t_tru (e_call ((d_law_same 8 hf).mono (by decide)) hr takes_def rfl (a_cons (e_callK0 ((d_check_label hf).mono (by decide)) hr takes_def rfl (List.mem_of_getElem? (i := 0) rfl) (k_cons (e_var 6 rfl (Or.inl rfl)) k_nil)) (a_cons (e_var 6 rfl (Or.inl rfl)) a_nil)))))))) (b_one (s_ret e_bl)) b_nil)
      (b_one (s_if (t_not (t_tru (e_call ((d_law_same 8 hf).mono (by decide)) hr takes_def rfl (a_cons (e_callK0 ((d_check_name hf).mono (by decide)) hr takes_def rfl (List.mem_of_getElem? (i := 0) rfl) (k_cons (e_ty o_tuple rfl (m_tuple hf) bt_tuple (a_cons (e_slice (e_var 2 rfl (Or.inl rfl)) p_none (p_some e_int)) a_nil)) k_nil)) (a_cons (e_ty o_tuple rfl (m_tuple hf) bt_tuple (a_cons (e_slice (e_var 2 rfl (Or.inl rfl)) p_none (p_some e_int)) a_nil)) a_nil))))) (b_one (s_ret e_bl)) b_nil)))))))))))
  (b_one (s_ret e_bl)))))
end
end Fl

set_option Elab.async false
set_option linter.all false
set_option maxRecDepth 100000
set_option maxHeartbeats 0
/-! k04_labels_and_names: the head's run, its facts, the end (printed by gen.py). -/
namespace Fl
open PySem PySem.Spec PyProof.Rows L2 PySem.W
abbrev R0 : OpenRow := OpenLaw.row PySem.Challenge.rw_goodtill_k04_labels_and_names
def ex0 : Frag → Bool := exB P0 fn frA xcA xsA ysA tf cvA
abbrev hk0 : Hook := hookF 6 fn tf ex0
def ob0 (s : SharedT) : AlF := obF 6 fn tf ex0 (HandSHeadRun.getT s)
theorem ob0_eq (s : SharedT) : ob0 s = hk0.obs s.abs := obF_eq (HandSHeadRun.getT_eq s)
def loose0 : List Str := ["OwnError", "BadFraction", "BadLabel", "BadName", "BadOctets", "BadEvent", "BadView", "BadRoster", "BadRun", "BadDeed", "BadText", "Refused", "MOST_SIGNS", "MOST_LABELS", "LETTERS", "label_fault", "is_label", "name_fault", "check_label", "check_name", "joined_name", "_law_box", "_law_take", "_law_pick", "_law_label", "_law_sign", "_law_bent", "_law_odd", "_law_text_fault", "_law_name_fault"]
def loose1 : List Str := ["_law_same", "_law_heard_label", "_law_heard_name", "_law_label_right", "_law_name_right", "_law_labels", "_law_joined", "_law_spoilt"]
def loose : List Str := loose0 ++ loose1
abbrev qv : Program := view R0.prog [42]
theorem run0 (w : World) : HandSHeadRun.RunEq R0 qv hk0 ob0 20000 loose w := by
  intro os
  kernel_rfl
end Fl

set_option Elab.async false
set_option linter.all false
set_option maxRecDepth 100000
set_option maxHeartbeats 1000000
namespace Fl
open PySem
/-! ### the box -/
def tk1 (s : Int) : Int := (s * 39373 + 101) % 2147483647
def tk2 (s : Int) : Int := (tk1 s * 40692 + 17) % 2147483563 + 1
def tk3 (s : Int) : Int := (tk1 s * 2147483629 + tk2 s).fdiv 8233
theorem m40 {i : Int} {j : Int} (h0 : 0 ≤ i) (h1 : i < 4294967296) (hj : j.natAbs < 2 ^ 250 := by decide) : mulOk i j = true := mulOk_of (small_of 250 (b := 4294967296) (by omega) (by decide)) hj
theorem take_lo {S : Store} {b : Nat} {g s m : Int} (h : S[b]? = some (.lst [.int g, .int s])) (hs : 0 ≤ s) (hs2 : s < 4294967296) (hg : ¬ 0 < g) (hm : 0 < m) : g_law_take [.ref b, .int m] S = .ok (.int (tk3 s % m)) (S.set b (.lst [.int g, .int (tk2 s)])) := by
  have hb := lt_of_get h
  have r1 : 0 ≤ tk1 s ∧ tk1 s < 4294967296 := by unfold tk1; omega
  have k1 : mulOk s 39373 = true := m40 hs hs2
  have k2 : mulOk (tk1 s) 40692 = true := m40 r1.1 r1.2
  have k3 : mulOk (tk1 s) 2147483629 = true := m40 r1.1 r1.2
  have k4 : divOk 8233 = true := by decide
  unfold tk1 at k2 k3
  simp only [g_law_take, g_law_take_b, runDef, startE, OutS.toOut, sNext, sSeq, sIf, sAsg, sRet, sRetN, sExpr, sBreak, sCont, sPar, par2, sAug, sRaise, fVar, fC, tyN, isi_NoneType_bool, isi_NoneType_int, isi_NoneType_str, isi_NoneType_tuple, isi_NoneType_list, isi_bool_bool, isi_bool_int, isi_bool_str, isi_bool_tuple, isi_bool_list, isi_int_bool, isi_int_int, isi_int_str, isi_int_tuple, isi_int_list, isi_str_bool, isi_str_int, isi_str_str, isi_str_tuple, isi_str_list, isi_tuple_bool, isi_tuple_int, isi_tuple_str, isi_tuple_tuple, isi_tuple_list, isi_list_bool, isi_list_int, isi_list_str, isi_list_tuple, isi_list_list, fBin, fCall, fNat, fIsi, fTru, fBl, fNotT, fAndT, fOrT, fAndV, fOrV, fNotV, fIf, fTup, fLst, fNeg, aNil, aCons, gNm, gSb, gTpT, gNms, Out.bind, Out.thenS, Out.of, Out.tst, blOf, o2I, n1I, n2I, nLen_eq, oSub, oMod, oDiv, oGt, oGe, oLe, oLt, pw10_4, pw10_6, pw10_9, pw10_12, pw10_18, pw10_20, pw10_30, pw10_40, pw2_32, pw2_63, pw2_64, List.length_cons, List.length_nil, List.map_cons, List.map_nil, List.getElem?_cons_zero, List.getElem?_cons_succ, List.set_cons_zero, List.set_cons_succ, List.replicate, List.cons_append, List.nil_append, List.append_nil, Option.map_some, Option.map_none, id, ite_true, ite_false, if_true, if_false, Nat.zero_add, Nat.reduceAdd, Nat.reduceSub, Nat.reduceLeDiff, Bool.not_true, Bool.not_false, Bool.false_eq_true, reduceIte, reduceCtorEq, Int.reduceLT, Int.reduceLE, Int.reduceEq, Int.reduceNe, Nat.reduceLT, Nat.reduceEqDiff, decide_true, decide_false, Int.reduceAdd, Int.reduceSub, Int.reduceNeg, Int.reducePow, Int.reduceMul, Int.reduceToNat, oIx, ixG, getL, h, at0, at1, hg, decide_false, k1, oMul, oAdd, k2, k3, k4, setG, ixN21, ixN20, List.getElem?_set_self hb, hm]
  rfl
theorem take_hi {S : Store} {b : Nat} {g s m : Int} (h : S[b]? = some (.lst [.int g, .int s])) (hg : 0 < g) (hm : 0 < m) (hm2 : m.natAbs < 2 ^ 9000) : g_law_take [.ref b, .int m] S = .ok (.int (g % m)) (S.set b (.lst [.int (g.fdiv m), .int s])) := by
  have hb := lt_of_get h
  have k1 : divOk m = true := divOk_of (by omega) hm2
  simp only [g_law_take, g_law_take_b, runDef, startE, OutS.toOut, sNext, sSeq, sIf, sAsg, sRet, sRetN, sExpr, sBreak, sCont, sPar, par2, sAug, sRaise, fVar, fC, tyN, isi_NoneType_bool, isi_NoneType_int, isi_NoneType_str, isi_NoneType_tuple, isi_NoneType_list, isi_bool_bool, isi_bool_int, isi_bool_str, isi_bool_tuple, isi_bool_list, isi_int_bool, isi_int_int, isi_int_str, isi_int_tuple, isi_int_list, isi_str_bool, isi_str_int, isi_str_str, isi_str_tuple, isi_str_list, isi_tuple_bool, isi_tuple_int, isi_tuple_str, isi_tuple_tuple, isi_tuple_list, isi_list_bool, isi_list_int, isi_list_str, isi_list_tuple, isi_list_list, fBin, fCall, fNat, fIsi, fTru, fBl, fNotT, fAndT, fOrT, fAndV, fOrV, fNotV, fIf, fTup, fLst, fNeg, aNil, aCons, gNm, gSb, gTpT, gNms, Out.bind, Out.thenS, Out.of, Out.tst, blOf, o2I, n1I, n2I, nLen_eq, oSub, oMod, oDiv, oGt, oGe, oLe, oLt, pw10_4, pw10_6, pw10_9, pw10_12, pw10_18, pw10_20, pw10_30, pw10_40, pw2_32, pw2_63, pw2_64, List.length_cons, List.length_nil, List.map_cons, List.map_nil, List.getElem?_cons_zero, List.getElem?_cons_succ, List.set_cons_zero, List.set_cons_succ, List.replicate, List.cons_append, List.nil_append, List.append_nil, Option.map_some, Option.map_none, id, ite_true, ite_false, if_true, if_false, Nat.zero_add, Nat.reduceAdd, Nat.reduceSub, Nat.reduceLeDiff, Bool.not_true, Bool.not_false, Bool.false_eq_true, reduceIte, reduceCtorEq, Int.reduceLT, Int.reduceLE, Int.reduceEq, Int.reduceNe, Nat.reduceLT, Nat.reduceEqDiff, decide_true, decide_false, Int.reduceAdd, Int.reduceSub, Int.reduceNeg, Int.reducePow, Int.reduceMul, Int.reduceToNat, oIx, ixG, getL, h, at0, at1, hg, k1, setG, ixN21, ixN20, List.getElem?_set_self hb, hm]
def Box (S : Store) (b : Nat) : Prop := ∃ g s : Int, S[b]? = some (.lst [.int g, .int s]) ∧ 0 ≤ s ∧ s < 4294967296
theorem Box.fr {S S' : Store} {b c : Nat} (h : Box S b) (hc : b ≠ c) (f : Fr c S S') : Box S' b := by
  obtain ⟨g, s, h1, h2⟩ := h
  exact ⟨g, s, f.keep hc h1, h2⟩
theorem Box.push {S : Store} {b : Nat} {cs : List Cell} (h : Box S b) : Box (S ++ cs) b := by
  obtain ⟨g, s, h1, h2⟩ := h
  exact ⟨g, s, by rw [List.getElem?_append_left (lt_of_get h1)]; exact h1, h2⟩
theorem take_ok {S : Store} {b : Nat} {m : Int} (h : Box S b) (hm : 0 < m) (hm2 : m < 2 ^ 200) : ∃ (d : Int) (S' : Store), g_law_take [.ref b, .int m] S = .ok (.int d) S' ∧ 0 ≤ d ∧ d < m ∧ Fr b S S' ∧ Box S' b := by
  obtain ⟨g, s, h1, h2, h3⟩ := h
  have hb := lt_of_get h1
  by_cases hg : 0 < g
  · refine ⟨_, _, take_hi h1 hg hm (small_of 9000 (b := 2 ^ 200) (by omega) (Nat.pow_le_pow_right (by decide) (by decide))), Int.emod_nonneg _ (by omega), Int.emod_lt_of_pos _ hm, Fr.set, _, _, List.getElem?_set_self hb, h2, h3⟩
  · refine ⟨_, _, take_lo h1 h2 h3 hg hm, Int.emod_nonneg _ (by omega), Int.emod_lt_of_pos _ hm, Fr.set, _, _, List.getElem?_set_self hb, ?_, ?_⟩
    · unfold tk2; omega
    · unfold tk2; omega
theorem pick_ok {S : Store} {b l : Nat} {xs : List T} (h : Box S b) (hl : getL S l = some xs) (hn : l ≠ b) (h0 : xs ≠ []) (hz : xs.length < 1000000) : ∃ (x : T) (S' : Store), g_law_pick [.ref b, .ref l] S = .ok x S' ∧ x ∈ xs ∧ Fr b S S' ∧ Box S' b := by
  have hp : 0 < xs.length := List.length_pos_iff.mpr h0
  obtain ⟨d, S', e, d0, d1, f, bx⟩ := take_ok (m := (xs.length : Int)) h (by omega) (by omega)
  obtain ⟨k, rfl⟩ := Int.eq_ofNat_of_zero_le d0
  have hk : k < xs.length := by omega
  have hl' : getL S' l = some xs := by
    unfold getL at hl ⊢
    cases c : S[l]? with
    | none => rw [c] at hl; cases hl
    | some cc => rw [f.keep hn c]; rw [c] at hl; exact hl
  have ha : L2.atI xs (k : Int) = some xs[k] := by rw [atI_in xs k hk]; exact List.getElem?_eq_getElem hk
  refine ⟨xs[k], S', ?_, List.getElem_mem hk, f, bx⟩
  simp only [g_law_pick, g_law_pick_b, runDef, startE, OutS.toOut, sNext, sSeq, sIf, sAsg, sRet, sRetN, sExpr, sBreak, sCont, sPar, par2, sAug, sRaise, fVar, fC, tyN, isi_NoneType_bool, isi_NoneType_int, isi_NoneType_str, isi_NoneType_tuple, isi_NoneType_list, isi_bool_bool, isi_bool_int, isi_bool_str, isi_bool_tuple, isi_bool_list, isi_int_bool, isi_int_int, isi_int_str, isi_int_tuple, isi_int_list, isi_str_bool, isi_str_int, isi_str_str, isi_str_tuple, isi_str_list, isi_tuple_bool, isi_tuple_int, isi_tuple_str, isi_tuple_tuple, isi_tuple_list, isi_list_bool, isi_list_int, isi_list_str, isi_list_tuple, isi_list_list, fBin, fCall, fNat, fIsi, fTru, fBl, fNotT, fAndT, fOrT, fAndV, fOrV, fNotV, fIf, fTup, fLst, fNeg, aNil, aCons, gNm, gSb, gTpT, gNms, Out.bind, Out.thenS, Out.of, Out.tst, blOf, o2I, n1I, n2I, nLen_eq, oSub, oMod, oDiv, oGt, oGe, oLe, oLt, pw10_4, pw10_6, pw10_9, pw10_12, pw10_18, pw10_20, pw10_30, pw10_40, pw2_32, pw2_63, pw2_64, List.length_cons, List.length_nil, List.map_cons, List.map_nil, List.getElem?_cons_zero, List.getElem?_cons_succ, List.set_cons_zero, List.set_cons_succ, List.replicate, List.cons_append, List.nil_append, List.append_nil, Option.map_some, Option.map_none, id, ite_true, ite_false, if_true, if_false, Nat.zero_add, Nat.reduceAdd, Nat.reduceSub, Nat.reduceLeDiff, Bool.not_true, Bool.not_false, Bool.false_eq_true, reduceIte, reduceCtorEq, Int.reduceLT, Int.reduceLE, Int.reduceEq, Int.reduceNe, Nat.reduceLT, Nat.reduceEqDiff, decide_true, decide_false, Int.reduceAdd, Int.reduceSub, Int.reduceNeg, Int.reducePow, Int.reduceMul, Int.reduceToNat, oIx, ixG, hl, lenG, e, hl', ha]
theorem box_ok {S : Store} {ns : List Int} {k : Nat} (h : getL S 0 = some (ns.map T.int)) (hk : k < 100) : ∃ g s : Int, g_law_box [.ref 0, .int (k : Int)] S = .ok (.ref S.length) (S ++ [.lst [.int g, .int s]]) ∧ 0 ≤ s ∧ s < 4294967296 := by
  have hl : lenG S (.ref 0) = some ns.length := by simp only [lenG, h, List.length_map]
  have k1 : mulOk 17033 (k : Int) = true := mulOk_of (by decide) (small_of 250 (b := 100) (by omega) (by decide))
  have k2 : mulOk 9203 (k : Int) = true := mulOk_of (by decide) (small_of 250 (b := 100) (by omega) (by decide))
  have k3 : ∀ z : Int, mulOk (z % 2147483563) 88001 = true := fun z => m40 (by omega) (by omega)
  have k4 : ∀ z : Int, mulOk (z % 2147483563) 54250003 = true := fun z => m40 (by omega) (by omega)
  have tail : ∀ c : Int, ∃ g s : Int, (sSeq (sAsg (fIf (fBl (fBin oGe (fVar 2) (fBin oPow (fC (.int 10)) (fC (.int 18))))) (fVar 2) (fC (.int 0))) (gNm 3))
      (sRet (fLst (aCons (fVar 3) (aCons (fBin oAdd (fBin oMod (fNat (n1I id) (aCons (fBin oAdd (fBin oMul (fBin oMod (fNat (n1I id) (aCons (fVar 2) aNil)) (fC (.int 2147483563))) (fC (.int 54250003))) (fBin oMul (fC (.int 9203)) (fVar 1))) aNil)) (fC (.int 2147483563))) (fC (.int 1))) aNil)))) [some (.ref 0), some (.int (k : Int)), some (.int c), none] S).toOut = .ok (.ref S.length) (S ++ [.lst [.int g, .int s]]) ∧ 0 ≤ s ∧ s < 4294967296 := fun c => by
    by_cases hc : 1000000000000000000 ≤ c
    · refine ⟨c, (c % 2147483563 * 54250003 + 9203 * (k : Int)) % 2147483563 + 1, ?_, by omega, by omega⟩
      simp only [runDef, startE, OutS.toOut, sNext, sSeq, sIf, sAsg, sRet, sRetN, sExpr, sBreak, sCont, sPar, par2, sAug, sRaise, fVar, fC, tyN, isi_NoneType_bool, isi_NoneType_int, isi_NoneType_str, isi_NoneType_tuple, isi_NoneType_list, isi_bool_bool, isi_bool_int, isi_bool_str, isi_bool_tuple, isi_bool_list, isi_int_bool, isi_int_int, isi_int_str, isi_int_tuple, isi_int_list, isi_str_bool, isi_str_int, isi_str_str, isi_str_tuple, isi_str_list, isi_tuple_bool, isi_tuple_int, isi_tuple_str, isi_tuple_tuple, isi_tuple_list, isi_list_bool, isi_list_int, isi_list_str, isi_list_tuple, isi_list_list, fBin, fCall, fNat, fIsi, fTru, fBl, fNotT, fAndT, fOrT, fAndV, fOrV, fNotV, fIf, fTup, fLst, fNeg, aNil, aCons, gNm, gSb, gTpT, gNms, Out.bind, Out.thenS, Out.of, Out.tst, blOf, o2I, n1I, n2I, nLen_eq, oSub, oMod, oDiv, oGt, oGe, oLe, oLt, pw10_4, pw10_6, pw10_9, pw10_12, pw10_18, pw10_20, pw10_30, pw10_40, pw2_32, pw2_63, pw2_64, List.length_cons, List.length_nil, List.map_cons, List.map_nil, List.getElem?_cons_zero, List.getElem?_cons_succ, List.set_cons_zero, List.set_cons_succ, List.replicate, List.cons_append, List.nil_append, List.append_nil, Option.map_some, Option.map_none, id, ite_true, ite_false, if_true, if_false, Nat.zero_add, Nat.reduceAdd, Nat.reduceSub, Nat.reduceLeDiff, Bool.not_true, Bool.not_false, Bool.false_eq_true, reduceIte, reduceCtorEq, Int.reduceLT, Int.reduceLE, Int.reduceEq, Int.reduceNe, Nat.reduceLT, Nat.reduceEqDiff, decide_true, decide_false, Int.reduceAdd, Int.reduceSub, Int.reduceNeg, Int.reducePow, Int.reduceMul, Int.reduceToNat, oMul, oAdd, k2, k4, hc, line]
    · refine ⟨0, (c % 2147483563 * 54250003 + 9203 * (k : Int)) % 2147483563 + 1, ?_, by omega, by omega⟩
      simp only [runDef, startE, OutS.toOut, sNext, sSeq, sIf, sAsg, sRet, sRetN, sExpr, sBreak, sCont, sPar, par2, sAug, sRaise, fVar, fC, tyN, isi_NoneType_bool, isi_NoneType_int, isi_NoneType_str, isi_NoneType_tuple, isi_NoneType_list, isi_bool_bool, isi_bool_int, isi_bool_str, isi_bool_tuple, isi_bool_list, isi_int_bool, isi_int_int, isi_int_str, isi_int_tuple, isi_int_list, isi_str_bool, isi_str_int, isi_str_str, isi_str_tuple, isi_str_list, isi_tuple_bool, isi_tuple_int, isi_tuple_str, isi_tuple_tuple, isi_tuple_list, isi_list_bool, isi_list_int, isi_list_str, isi_list_tuple, isi_list_list, fBin, fCall, fNat, fIsi, fTru, fBl, fNotT, fAndT, fOrT, fAndV, fOrV, fNotV, fIf, fTup, fLst, fNeg, aNil, aCons, gNm, gSb, gTpT, gNms, Out.bind, Out.thenS, Out.of, Out.tst, blOf, o2I, n1I, n2I, nLen_eq, oSub, oMod, oDiv, oGt, oGe, oLe, oLt, pw10_4, pw10_6, pw10_9, pw10_12, pw10_18, pw10_20, pw10_30, pw10_40, pw2_32, pw2_63, pw2_64, List.length_cons, List.length_nil, List.map_cons, List.map_nil, List.getElem?_cons_zero, List.getElem?_cons_succ, List.set_cons_zero, List.set_cons_succ, List.replicate, List.cons_append, List.nil_append, List.append_nil, Option.map_some, Option.map_none, id, ite_true, ite_false, if_true, if_false, Nat.zero_add, Nat.reduceAdd, Nat.reduceSub, Nat.reduceLeDiff, Bool.not_true, Bool.not_false, Bool.false_eq_true, reduceIte, reduceCtorEq, Int.reduceLT, Int.reduceLE, Int.reduceEq, Int.reduceNe, Nat.reduceLT, Nat.reduceEqDiff, decide_true, decide_false, Int.reduceAdd, Int.reduceSub, Int.reduceNeg, Int.reducePow, Int.reduceMul, Int.reduceToNat, oMul, oAdd, k2, k4, hc, line]
  show ∃ g s : Int, (g_law_box_b [some (.ref 0), some (.int (k : Int)), none, none] S).toOut = _ ∧ _
  by_cases c1 : k < ns.length
  · obtain ⟨g, s, e, q⟩ := tail (iabs ns[k])
    have ha : L2.atI (ns.map T.int) (k : Int) = some (.int ns[k]) := by rw [atI_in _ k (by simpa using c1)]; simp [c1]
    have c1' : decide ((k : Int) < (ns.length : Int)) = true := by simpa using c1
    refine ⟨g, s, ?_, q⟩
    unfold g_law_box_b
    refine toOut_seq (ρ1 := [some (.ref 0), some (.int (k : Int)), some (.int (17033 * (k : Int) + 9203)), none]) (S1 := S) ?_ ?_
    · simp only [runDef, startE, OutS.toOut, sNext, sSeq, sIf, sAsg, sRet, sRetN, sExpr, sBreak, sCont, sPar, par2, sAug, sRaise, fVar, fC, tyN, isi_NoneType_bool, isi_NoneType_int, isi_NoneType_str, isi_NoneType_tuple, isi_NoneType_list, isi_bool_bool, isi_bool_int, isi_bool_str, isi_bool_tuple, isi_bool_list, isi_int_bool, isi_int_int, isi_int_str, isi_int_tuple, isi_int_list, isi_str_bool, isi_str_int, isi_str_str, isi_str_tuple, isi_str_list, isi_tuple_bool, isi_tuple_int, isi_tuple_str, isi_tuple_tuple, isi_tuple_list, isi_list_bool, isi_list_int, isi_list_str, isi_list_tuple, isi_list_list, fBin, fCall, fNat, fIsi, fTru, fBl, fNotT, fAndT, fOrT, fAndV, fOrV, fNotV, fIf, fTup, fLst, fNeg, aNil, aCons, gNm, gSb, gTpT, gNms, Out.bind, Out.thenS, Out.of, Out.tst, blOf, o2I, n1I, n2I, nLen_eq, oSub, oMod, oDiv, oGt, oGe, oLe, oLt, pw10_4, pw10_6, pw10_9, pw10_12, pw10_18, pw10_20, pw10_30, pw10_40, pw2_32, pw2_63, pw2_64, List.length_cons, List.length_nil, List.map_cons, List.map_nil, List.getElem?_cons_zero, List.getElem?_cons_succ, List.set_cons_zero, List.set_cons_succ, List.replicate, List.cons_append, List.nil_append, List.append_nil, Option.map_some, Option.map_none, id, ite_true, ite_false, if_true, if_false, Nat.zero_add, Nat.reduceAdd, Nat.reduceSub, Nat.reduceLeDiff, Bool.not_true, Bool.not_false, Bool.false_eq_true, reduceIte, reduceCtorEq, Int.reduceLT, Int.reduceLE, Int.reduceEq, Int.reduceNe, Nat.reduceLT, Nat.reduceEqDiff, decide_true, decide_false, Int.reduceAdd, Int.reduceSub, Int.reduceNeg, Int.reducePow, Int.reduceMul, Int.reduceToNat, oMul, oAdd, k1]
    refine toOut_seq (ρ1 := [some (.ref 0), some (.int (k : Int)), some (.int (iabs ns[k])), none]) (S1 := S) ?_ e
    simp only [runDef, startE, OutS.toOut, sNext, sSeq, sIf, sAsg, sRet, sRetN, sExpr, sBreak, sCont, sPar, par2, sAug, sRaise, fVar, fC, tyN, isi_NoneType_bool, isi_NoneType_int, isi_NoneType_str, isi_NoneType_tuple, isi_NoneType_list, isi_bool_bool, isi_bool_int, isi_bool_str, isi_bool_tuple, isi_bool_list, isi_int_bool, isi_int_int, isi_int_str, isi_int_tuple, isi_int_list, isi_str_bool, isi_str_int, isi_str_str, isi_str_tuple, isi_str_list, isi_tuple_bool, isi_tuple_int, isi_tuple_str, isi_tuple_tuple, isi_tuple_list, isi_list_bool, isi_list_int, isi_list_str, isi_list_tuple, isi_list_list, fBin, fCall, fNat, fIsi, fTru, fBl, fNotT, fAndT, fOrT, fAndV, fOrV, fNotV, fIf, fTup, fLst, fNeg, aNil, aCons, gNm, gSb, gTpT, gNms, Out.bind, Out.thenS, Out.of, Out.tst, blOf, o2I, n1I, n2I, nLen_eq, oSub, oMod, oDiv, oGt, oGe, oLe, oLt, pw10_4, pw10_6, pw10_9, pw10_12, pw10_18, pw10_20, pw10_30, pw10_40, pw2_32, pw2_63, pw2_64, List.length_cons, List.length_nil, List.map_cons, List.map_nil, List.getElem?_cons_zero, List.getElem?_cons_succ, List.set_cons_zero, List.set_cons_succ, List.replicate, List.cons_append, List.nil_append, List.append_nil, Option.map_some, Option.map_none, id, ite_true, ite_false, if_true, if_false, Nat.zero_add, Nat.reduceAdd, Nat.reduceSub, Nat.reduceLeDiff, Bool.not_true, Bool.not_false, Bool.false_eq_true, reduceIte, reduceCtorEq, Int.reduceLT, Int.reduceLE, Int.reduceEq, Int.reduceNe, Nat.reduceLT, Nat.reduceEqDiff, decide_true, decide_false, Int.reduceAdd, Int.reduceSub, Int.reduceNeg, Int.reducePow, Int.reduceMul, Int.reduceToNat, hl, c1', oIx, ixG, h, ha]
  · have c1' : decide ((k : Int) < (ns.length : Int)) = false := by simpa using c1
    by_cases c2 : 0 < ns.length
    · have hlt : (k % ns.length) < ns.length := Nat.mod_lt _ c2
      obtain ⟨g, s, e, q⟩ := tail (17033 * (k : Int) + 9203 + iabs ns[k % ns.length] % 2147483563 * 88001)
      have ha : L2.atI (ns.map T.int) ((k : Int) % (ns.length : Int)) = some (.int ns[k % ns.length]) := by rw [← Int.natCast_emod, atI_in _ _ (by simpa using hlt)]; simp [hlt]
      have c2' : decide ((0 : Int) < (ns.length : Int)) = true := by simpa using c2
      have c2'' : (0 : Int) < (ns.length : Int) := by omega
      refine ⟨g, s, ?_, q⟩
      unfold g_law_box_b
      refine toOut_seq (ρ1 := [some (.ref 0), some (.int (k : Int)), some (.int (17033 * (k : Int) + 9203)), none]) (S1 := S) ?_ ?_
      · simp only [runDef, startE, OutS.toOut, sNext, sSeq, sIf, sAsg, sRet, sRetN, sExpr, sBreak, sCont, sPar, par2, sAug, sRaise, fVar, fC, tyN, isi_NoneType_bool, isi_NoneType_int, isi_NoneType_str, isi_NoneType_tuple, isi_NoneType_list, isi_bool_bool, isi_bool_int, isi_bool_str, isi_bool_tuple, isi_bool_list, isi_int_bool, isi_int_int, isi_int_str, isi_int_tuple, isi_int_list, isi_str_bool, isi_str_int, isi_str_str, isi_str_tuple, isi_str_list, isi_tuple_bool, isi_tuple_int, isi_tuple_str, isi_tuple_tuple, isi_tuple_list, isi_list_bool, isi_list_int, isi_list_str, isi_list_tuple, isi_list_list, fBin, fCall, fNat, fIsi, fTru, fBl, fNotT, fAndT, fOrT, fAndV, fOrV, fNotV, fIf, fTup, fLst, fNeg, aNil, aCons, gNm, gSb, gTpT, gNms, Out.bind, Out.thenS, Out.of, Out.tst, blOf, o2I, n1I, n2I, nLen_eq, oSub, oMod, oDiv, oGt, oGe, oLe, oLt, pw10_4, pw10_6, pw10_9, pw10_12, pw10_18, pw10_20, pw10_30, pw10_40, pw2_32, pw2_63, pw2_64, List.length_cons, List.length_nil, List.map_cons, List.map_nil, List.getElem?_cons_zero, List.getElem?_cons_succ, List.set_cons_zero, List.set_cons_succ, List.replicate, List.cons_append, List.nil_append, List.append_nil, Option.map_some, Option.map_none, id, ite_true, ite_false, if_true, if_false, Nat.zero_add, Nat.reduceAdd, Nat.reduceSub, Nat.reduceLeDiff, Bool.not_true, Bool.not_false, Bool.false_eq_true, reduceIte, reduceCtorEq, Int.reduceLT, Int.reduceLE, Int.reduceEq, Int.reduceNe, Nat.reduceLT, Nat.reduceEqDiff, decide_true, decide_false, Int.reduceAdd, Int.reduceSub, Int.reduceNeg, Int.reducePow, Int.reduceMul, Int.reduceToNat, oMul, oAdd, k1]
      refine toOut_seq (ρ1 := [some (.ref 0), some (.int (k : Int)), some (.int (17033 * (k : Int) + 9203 + iabs ns[k % ns.length] % 2147483563 * 88001)), none]) (S1 := S) ?_ e
      simp only [runDef, startE, OutS.toOut, sNext, sSeq, sIf, sAsg, sRet, sRetN, sExpr, sBreak, sCont, sPar, par2, sAug, sRaise, fVar, fC, tyN, isi_NoneType_bool, isi_NoneType_int, isi_NoneType_str, isi_NoneType_tuple, isi_NoneType_list, isi_bool_bool, isi_bool_int, isi_bool_str, isi_bool_tuple, isi_bool_list, isi_int_bool, isi_int_int, isi_int_str, isi_int_tuple, isi_int_list, isi_str_bool, isi_str_int, isi_str_str, isi_str_tuple, isi_str_list, isi_tuple_bool, isi_tuple_int, isi_tuple_str, isi_tuple_tuple, isi_tuple_list, isi_list_bool, isi_list_int, isi_list_str, isi_list_tuple, isi_list_list, fBin, fCall, fNat, fIsi, fTru, fBl, fNotT, fAndT, fOrT, fAndV, fOrV, fNotV, fIf, fTup, fLst, fNeg, aNil, aCons, gNm, gSb, gTpT, gNms, Out.bind, Out.thenS, Out.of, Out.tst, blOf, o2I, n1I, n2I, nLen_eq, oSub, oMod, oDiv, oGt, oGe, oLe, oLt, pw10_4, pw10_6, pw10_9, pw10_12, pw10_18, pw10_20, pw10_30, pw10_40, pw2_32, pw2_63, pw2_64, List.length_cons, List.length_nil, List.map_cons, List.map_nil, List.getElem?_cons_zero, List.getElem?_cons_succ, List.set_cons_zero, List.set_cons_succ, List.replicate, List.cons_append, List.nil_append, List.append_nil, Option.map_some, Option.map_none, id, ite_true, ite_false, if_true, if_false, Nat.zero_add, Nat.reduceAdd, Nat.reduceSub, Nat.reduceLeDiff, Bool.not_true, Bool.not_false, Bool.false_eq_true, reduceIte, reduceCtorEq, Int.reduceLT, Int.reduceLE, Int.reduceEq, Int.reduceNe, Nat.reduceLT, Nat.reduceEqDiff, decide_true, decide_false, Int.reduceAdd, Int.reduceSub, Int.reduceNeg, Int.reducePow, Int.reduceMul, Int.reduceToNat, hl, c1', c2', c2'', oIx, ixG, h, ha, oMul, oAdd, k3]
    · obtain ⟨g, s, e, q⟩ := tail (17033 * (k : Int) + 9203)
      have c2' : decide ((0 : Int) < (ns.length : Int)) = false := by simpa using c2
      refine ⟨g, s, ?_, q⟩
      unfold g_law_box_b
      refine toOut_seq (ρ1 := [some (.ref 0), some (.int (k : Int)), some (.int (17033 * (k : Int) + 9203)), none]) (S1 := S) ?_ ?_
      · simp only [runDef, startE, OutS.toOut, sNext, sSeq, sIf, sAsg, sRet, sRetN, sExpr, sBreak, sCont, sPar, par2, sAug, sRaise, fVar, fC, tyN, isi_NoneType_bool, isi_NoneType_int, isi_NoneType_str, isi_NoneType_tuple, isi_NoneType_list, isi_bool_bool, isi_bool_int, isi_bool_str, isi_bool_tuple, isi_bool_list, isi_int_bool, isi_int_int, isi_int_str, isi_int_tuple, isi_int_list, isi_str_bool, isi_str_int, isi_str_str, isi_str_tuple, isi_str_list, isi_tuple_bool, isi_tuple_int, isi_tuple_str, isi_tuple_tuple, isi_tuple_list, isi_list_bool, isi_list_int, isi_list_str, isi_list_tuple, isi_list_list, fBin, fCall, fNat, fIsi, fTru, fBl, fNotT, fAndT, fOrT, fAndV, fOrV, fNotV, fIf, fTup, fLst, fNeg, aNil, aCons, gNm, gSb, gTpT, gNms, Out.bind, Out.thenS, Out.of, Out.tst, blOf, o2I, n1I, n2I, nLen_eq, oSub, oMod, oDiv, oGt, oGe, oLe, oLt, pw10_4, pw10_6, pw10_9, pw10_12, pw10_18, pw10_20, pw10_30, pw10_40, pw2_32, pw2_63, pw2_64, List.length_cons, List.length_nil, List.map_cons, List.map_nil, List.getElem?_cons_zero, List.getElem?_cons_succ, List.set_cons_zero, List.set_cons_succ, List.replicate, List.cons_append, List.nil_append, List.append_nil, Option.map_some, Option.map_none, id, ite_true, ite_false, if_true, if_false, Nat.zero_add, Nat.reduceAdd, Nat.reduceSub, Nat.reduceLeDiff, Bool.not_true, Bool.not_false, Bool.false_eq_true, reduceIte, reduceCtorEq, Int.reduceLT, Int.reduceLE, Int.reduceEq, Int.reduceNe, Nat.reduceLT, Nat.reduceEqDiff, decide_true, decide_false, Int.reduceAdd, Int.reduceSub, Int.reduceNeg, Int.reducePow, Int.reduceMul, Int.reduceToNat, oMul, oAdd, k1]
      refine toOut_seq (ρ1 := [some (.ref 0), some (.int (k : Int)), some (.int (17033 * (k : Int) + 9203)), none]) (S1 := S) ?_ e
      simp only [runDef, startE, OutS.toOut, sNext, sSeq, sIf, sAsg, sRet, sRetN, sExpr, sBreak, sCont, sPar, par2, sAug, sRaise, fVar, fC, tyN, isi_NoneType_bool, isi_NoneType_int, isi_NoneType_str, isi_NoneType_tuple, isi_NoneType_list, isi_bool_bool, isi_bool_int, isi_bool_str, isi_bool_tuple, isi_bool_list, isi_int_bool, isi_int_int, isi_int_str, isi_int_tuple, isi_int_list, isi_str_bool, isi_str_int, isi_str_str, isi_str_tuple, isi_str_list, isi_tuple_bool, isi_tuple_int, isi_tuple_str, isi_tuple_tuple, isi_tuple_list, isi_list_bool, isi_list_int, isi_list_str, isi_list_tuple, isi_list_list, fBin, fCall, fNat, fIsi, fTru, fBl, fNotT, fAndT, fOrT, fAndV, fOrV, fNotV, fIf, fTup, fLst, fNeg, aNil, aCons, gNm, gSb, gTpT, gNms, Out.bind, Out.thenS, Out.of, Out.tst, blOf, o2I, n1I, n2I, nLen_eq, oSub, oMod, oDiv, oGt, oGe, oLe, oLt, pw10_4, pw10_6, pw10_9, pw10_12, pw10_18, pw10_20, pw10_30, pw10_40, pw2_32, pw2_63, pw2_64, List.length_cons, List.length_nil, List.map_cons, List.map_nil, List.getElem?_cons_zero, List.getElem?_cons_succ, List.set_cons_zero, List.set_cons_succ, List.replicate, List.cons_append, List.nil_append, List.append_nil, Option.map_some, Option.map_none, id, ite_true, ite_false, if_true, if_false, Nat.zero_add, Nat.reduceAdd, Nat.reduceSub, Nat.reduceLeDiff, Bool.not_true, Bool.not_false, Bool.false_eq_true, reduceIte, reduceCtorEq, Int.reduceLT, Int.reduceLE, Int.reduceEq, Int.reduceNe, Nat.reduceLT, Nat.reduceEqDiff, decide_true, decide_false, Int.reduceAdd, Int.reduceSub, Int.reduceNeg, Int.reducePow, Int.reduceMul, Int.reduceToNat, hl, c1', c2']
abbrev sameL (same : GF) : FS := (sIf (fNotT (fTru (fCall same (aCons (fVar 3) (aCons (fVar 4) aNil))))) (sRet (fC (.bl false))) sNext)
theorem same_loop {same : GF} {t d : T} {S : Store} {chk : List (Nat × List T)} (hc : chkOk S chk = true) : ∀ (xs : List T) (a b : Option T), (∀ x ∈ xs, same [x, x] S = .ok (.bl true) S) → ∃ a' b', forL chk (gTpT [3, 4]) (sameL same) (zipT xs xs) [some t, some d, some (.bl true), a, b] S = .nx [some t, some d, some (.bl true), a', b'] S
  | [], a, b, _ => ⟨a, b, by rw [show zipT [] [] = [] from rfl, forL, if_pos hc]⟩
  | x :: xs, a, b, h => by
    obtain ⟨a', b', e⟩ := same_loop hc xs (some x) (some x) fun y hy => h y (List.mem_cons_of_mem _ hy)
    refine ⟨a', b', ?_⟩
    rw [show zipT (x :: xs) (x :: xs) = .tup [x, x] :: zipT xs xs from rfl, forL_nx (ρ1 := [some t, some d, some (.bl true), some x, some x]) (S1 := S) hc rfl ?_, e]
    simp only [sameL, runDef, startE, OutS.toOut, sNext, sSeq, sIf, sAsg, sRet, sRetN, sExpr, sBreak, sCont, sPar, par2, sAug, sRaise, fVar, fC, tyN, isi_NoneType_bool, isi_NoneType_int, isi_NoneType_str, isi_NoneType_tuple, isi_NoneType_list, isi_bool_bool, isi_bool_int, isi_bool_str, isi_bool_tuple, isi_bool_list, isi_int_bool, isi_int_int, isi_int_str, isi_int_tuple, isi_int_list, isi_str_bool, isi_str_int, isi_str_str, isi_str_tuple, isi_str_list, isi_tuple_bool, isi_tuple_int, isi_tuple_str, isi_tuple_tuple, isi_tuple_list, isi_list_bool, isi_list_int, isi_list_str, isi_list_tuple, isi_list_list, fBin, fCall, fNat, fIsi, fTru, fBl, fNotT, fAndT, fOrT, fAndV, fOrV, fNotV, fIf, fTup, fLst, fNeg, aNil, aCons, gNm, gSb, gTpT, gNms, Out.bind, Out.thenS, Out.of, Out.tst, blOf, o2I, n1I, n2I, nLen_eq, oSub, oMod, oDiv, oGt, oGe, oLe, oLt, pw10_4, pw10_6, pw10_9, pw10_12, pw10_18, pw10_20, pw10_30, pw10_40, pw2_32, pw2_63, pw2_64, List.length_cons, List.length_nil, List.map_cons, List.map_nil, List.getElem?_cons_zero, List.getElem?_cons_succ, List.set_cons_zero, List.set_cons_succ, List.replicate, List.cons_append, List.nil_append, List.append_nil, Option.map_some, Option.map_none, id, ite_true, ite_false, if_true, if_false, Nat.zero_add, Nat.reduceAdd, Nat.reduceSub, Nat.reduceLeDiff, Bool.not_true, Bool.not_false, Bool.false_eq_true, reduceIte, reduceCtorEq, Int.reduceLT, Int.reduceLE, Int.reduceEq, Int.reduceNe, Nat.reduceLT, Nat.reduceEqDiff, decide_true, decide_false, Int.reduceAdd, Int.reduceSub, Int.reduceNeg, Int.reducePow, Int.reduceMul, Int.reduceToNat, h x List.mem_cons_self, tru]
theorem same_ok {S : Store} : ∀ (n : Nat) (v : T), Okv S n v → g_law_same n [v, v] S = .ok (.bl true) S
  | 0, _, h => h.elim
  | n + 1, .non, _ => by simp only [g_law_same, g_law_same_b, runDef, startE, OutS.toOut, sNext, sSeq, sIf, sAsg, sRet, sRetN, sExpr, sBreak, sCont, sPar, par2, sAug, sRaise, fVar, fC, tyN, isi_NoneType_bool, isi_NoneType_int, isi_NoneType_str, isi_NoneType_tuple, isi_NoneType_list, isi_bool_bool, isi_bool_int, isi_bool_str, isi_bool_tuple, isi_bool_list, isi_int_bool, isi_int_int, isi_int_str, isi_int_tuple, isi_int_list, isi_str_bool, isi_str_int, isi_str_str, isi_str_tuple, isi_str_list, isi_tuple_bool, isi_tuple_int, isi_tuple_str, isi_tuple_tuple, isi_tuple_list, isi_list_bool, isi_list_int, isi_list_str, isi_list_tuple, isi_list_list, fBin, fCall, fNat, fIsi, fTru, fBl, fNotT, fAndT, fOrT, fAndV, fOrV, fNotV, fIf, fTup, fLst, fNeg, aNil, aCons, gNm, gSb, gTpT, gNms, Out.bind, Out.thenS, Out.of, Out.tst, blOf, o2I, n1I, n2I, nLen_eq, oSub, oMod, oDiv, oGt, oGe, oLe, oLt, pw10_4, pw10_6, pw10_9, pw10_12, pw10_18, pw10_20, pw10_30, pw10_40, pw2_32, pw2_63, pw2_64, List.length_cons, List.length_nil, List.map_cons, List.map_nil, List.getElem?_cons_zero, List.getElem?_cons_succ, List.set_cons_zero, List.set_cons_succ, List.replicate, List.cons_append, List.nil_append, List.append_nil, Option.map_some, Option.map_none, id, ite_true, ite_false, if_true, if_false, Nat.zero_add, Nat.reduceAdd, Nat.reduceSub, Nat.reduceLeDiff, Bool.not_true, Bool.not_false, Bool.false_eq_true, reduceIte, reduceCtorEq, Int.reduceLT, Int.reduceLE, Int.reduceEq, Int.reduceNe, Nat.reduceLT, Nat.reduceEqDiff, decide_true, decide_false, Int.reduceAdd, Int.reduceSub, Int.reduceNeg, Int.reducePow, Int.reduceMul, Int.reduceToNat, oIs, isNon, tru]
  | n + 1, .bl b, _ => by cases b <;> simp only [g_law_same, g_law_same_b, runDef, startE, OutS.toOut, sNext, sSeq, sIf, sAsg, sRet, sRetN, sExpr, sBreak, sCont, sPar, par2, sAug, sRaise, fVar, fC, tyN, isi_NoneType_bool, isi_NoneType_int, isi_NoneType_str, isi_NoneType_tuple, isi_NoneType_list, isi_bool_bool, isi_bool_int, isi_bool_str, isi_bool_tuple, isi_bool_list, isi_int_bool, isi_int_int, isi_int_str, isi_int_tuple, isi_int_list, isi_str_bool, isi_str_int, isi_str_str, isi_str_tuple, isi_str_list, isi_tuple_bool, isi_tuple_int, isi_tuple_str, isi_tuple_tuple, isi_tuple_list, isi_list_bool, isi_list_int, isi_list_str, isi_list_tuple, isi_list_list, fBin, fCall, fNat, fIsi, fTru, fBl, fNotT, fAndT, fOrT, fAndV, fOrV, fNotV, fIf, fTup, fLst, fNeg, aNil, aCons, gNm, gSb, gTpT, gNms, Out.bind, Out.thenS, Out.of, Out.tst, blOf, o2I, n1I, n2I, nLen_eq, oSub, oMod, oDiv, oGt, oGe, oLe, oLt, pw10_4, pw10_6, pw10_9, pw10_12, pw10_18, pw10_20, pw10_30, pw10_40, pw2_32, pw2_63, pw2_64, List.length_cons, List.length_nil, List.map_cons, List.map_nil, List.getElem?_cons_zero, List.getElem?_cons_succ, List.set_cons_zero, List.set_cons_succ, List.replicate, List.cons_append, List.nil_append, List.append_nil, Option.map_some, Option.map_none, id, ite_true, ite_false, if_true, if_false, Nat.zero_add, Nat.reduceAdd, Nat.reduceSub, Nat.reduceLeDiff, Bool.not_true, Bool.not_false, Bool.false_eq_true, reduceIte, reduceCtorEq, Int.reduceLT, Int.reduceLE, Int.reduceEq, Int.reduceNe, Nat.reduceLT, Nat.reduceEqDiff, decide_true, decide_false, Int.reduceAdd, Int.reduceSub, Int.reduceNeg, Int.reducePow, Int.reduceMul, Int.reduceToNat, oIs, isNon, isBl, tru, oEq, teq] <;> rfl
  | n + 1, .int i, _ => by simp only [g_law_same, g_law_same_b, runDef, startE, OutS.toOut, sNext, sSeq, sIf, sAsg, sRet, sRetN, sExpr, sBreak, sCont, sPar, par2, sAug, sRaise, fVar, fC, tyN, isi_NoneType_bool, isi_NoneType_int, isi_NoneType_str, isi_NoneType_tuple, isi_NoneType_list, isi_bool_bool, isi_bool_int, isi_bool_str, isi_bool_tuple, isi_bool_list, isi_int_bool, isi_int_int, isi_int_str, isi_int_tuple, isi_int_list, isi_str_bool, isi_str_int, isi_str_str, isi_str_tuple, isi_str_list, isi_tuple_bool, isi_tuple_int, isi_tuple_str, isi_tuple_tuple, isi_tuple_list, isi_list_bool, isi_list_int, isi_list_str, isi_list_tuple, isi_list_list, fBin, fCall, fNat, fIsi, fTru, fBl, fNotT, fAndT, fOrT, fAndV, fOrV, fNotV, fIf, fTup, fLst, fNeg, aNil, aCons, gNm, gSb, gTpT, gNms, Out.bind, Out.thenS, Out.of, Out.tst, blOf, o2I, n1I, n2I, nLen_eq, oSub, oMod, oDiv, oGt, oGe, oLe, oLt, pw10_4, pw10_6, pw10_9, pw10_12, pw10_18, pw10_20, pw10_30, pw10_40, pw2_32, pw2_63, pw2_64, List.length_cons, List.length_nil, List.map_cons, List.map_nil, List.getElem?_cons_zero, List.getElem?_cons_succ, List.set_cons_zero, List.set_cons_succ, List.replicate, List.cons_append, List.nil_append, List.append_nil, Option.map_some, Option.map_none, id, ite_true, ite_false, if_true, if_false, Nat.zero_add, Nat.reduceAdd, Nat.reduceSub, Nat.reduceLeDiff, Bool.not_true, Bool.not_false, Bool.false_eq_true, reduceIte, reduceCtorEq, Int.reduceLT, Int.reduceLE, Int.reduceEq, Int.reduceNe, Nat.reduceLT, Nat.reduceEqDiff, decide_true, decide_false, Int.reduceAdd, Int.reduceSub, Int.reduceNeg, Int.reducePow, Int.reduceMul, Int.reduceToNat, oIs, isNon, isBl, tru, oEq, teq]
  | n + 1, .str i, _ => by simp only [g_law_same, g_law_same_b, runDef, startE, OutS.toOut, sNext, sSeq, sIf, sAsg, sRet, sRetN, sExpr, sBreak, sCont, sPar, par2, sAug, sRaise, fVar, fC, tyN, isi_NoneType_bool, isi_NoneType_int, isi_NoneType_str, isi_NoneType_tuple, isi_NoneType_list, isi_bool_bool, isi_bool_int, isi_bool_str, isi_bool_tuple, isi_bool_list, isi_int_bool, isi_int_int, isi_int_str, isi_int_tuple, isi_int_list, isi_str_bool, isi_str_int, isi_str_str, isi_str_tuple, isi_str_list, isi_tuple_bool, isi_tuple_int, isi_tuple_str, isi_tuple_tuple, isi_tuple_list, isi_list_bool, isi_list_int, isi_list_str, isi_list_tuple, isi_list_list, fBin, fCall, fNat, fIsi, fTru, fBl, fNotT, fAndT, fOrT, fAndV, fOrV, fNotV, fIf, fTup, fLst, fNeg, aNil, aCons, gNm, gSb, gTpT, gNms, Out.bind, Out.thenS, Out.of, Out.tst, blOf, o2I, n1I, n2I, nLen_eq, oSub, oMod, oDiv, oGt, oGe, oLe, oLt, pw10_4, pw10_6, pw10_9, pw10_12, pw10_18, pw10_20, pw10_30, pw10_40, pw2_32, pw2_63, pw2_64, List.length_cons, List.length_nil, List.map_cons, List.map_nil, List.getElem?_cons_zero, List.getElem?_cons_succ, List.set_cons_zero, List.set_cons_succ, List.replicate, List.cons_append, List.nil_append, List.append_nil, Option.map_some, Option.map_none, id, ite_true, ite_false, if_true, if_false, Nat.zero_add, Nat.reduceAdd, Nat.reduceSub, Nat.reduceLeDiff, Bool.not_true, Bool.not_false, Bool.false_eq_true, reduceIte, reduceCtorEq, Int.reduceLT, Int.reduceLE, Int.reduceEq, Int.reduceNe, Nat.reduceLT, Nat.reduceEqDiff, decide_true, decide_false, Int.reduceAdd, Int.reduceSub, Int.reduceNeg, Int.reducePow, Int.reduceMul, Int.reduceToNat, oIs, isNon, isBl, tru, oEq, teq]
  | n + 1, .tup xs, h => by
    obtain ⟨a', b', e⟩ := same_loop (same := g_law_same n) (t := .tup xs) (d := .tup xs) (S := S) (chk := []) rfl xs none none fun x hx => same_ok n x (h x hx)
    simp only [g_law_same, g_law_same_b, runDef, startE, OutS.toOut, sNext, sSeq, sIf, sAsg, sRet, sRetN, sExpr, sBreak, sCont, sPar, par2, sAug, sRaise, fVar, fC, tyN, isi_NoneType_bool, isi_NoneType_int, isi_NoneType_str, isi_NoneType_tuple, isi_NoneType_list, isi_bool_bool, isi_bool_int, isi_bool_str, isi_bool_tuple, isi_bool_list, isi_int_bool, isi_int_int, isi_int_str, isi_int_tuple, isi_int_list, isi_str_bool, isi_str_int, isi_str_str, isi_str_tuple, isi_str_list, isi_tuple_bool, isi_tuple_int, isi_tuple_str, isi_tuple_tuple, isi_tuple_list, isi_list_bool, isi_list_int, isi_list_str, isi_list_tuple, isi_list_list, fBin, fCall, fNat, fIsi, fTru, fBl, fNotT, fAndT, fOrT, fAndV, fOrV, fNotV, fIf, fTup, fLst, fNeg, aNil, aCons, gNm, gSb, gTpT, gNms, Out.bind, Out.thenS, Out.of, Out.tst, blOf, o2I, n1I, n2I, nLen_eq, oSub, oMod, oDiv, oGt, oGe, oLe, oLt, pw10_4, pw10_6, pw10_9, pw10_12, pw10_18, pw10_20, pw10_30, pw10_40, pw2_32, pw2_63, pw2_64, List.length_cons, List.length_nil, List.map_cons, List.map_nil, List.getElem?_cons_zero, List.getElem?_cons_succ, List.set_cons_zero, List.set_cons_succ, List.replicate, List.cons_append, List.nil_append, List.append_nil, Option.map_some, Option.map_none, id, ite_true, ite_false, if_true, if_false, Nat.zero_add, Nat.reduceAdd, Nat.reduceSub, Nat.reduceLeDiff, Bool.not_true, Bool.not_false, Bool.false_eq_true, reduceIte, reduceCtorEq, Int.reduceLT, Int.reduceLE, Int.reduceEq, Int.reduceNe, Nat.reduceLT, Nat.reduceEqDiff, decide_true, decide_false, Int.reduceAdd, Int.reduceSub, Int.reduceNeg, Int.reducePow, Int.reduceMul, Int.reduceToNat, oNe, teq, lenG, tru, sFor, fiZip, iZipG, outI, e]
  | n + 1, .ref r, ⟨xs, hg, h⟩ => by
    have hc : chkOk S [(r, xs), (r, xs)] = true := by simp [chkOk, hg, T.beqs_self]
    obtain ⟨a', b', e⟩ := same_loop (same := g_law_same n) (t := .ref r) (d := .ref r) (S := S) hc xs none none fun x hx => same_ok n x (h x hx)
    simp only [g_law_same, g_law_same_b, runDef, startE, OutS.toOut, sNext, sSeq, sIf, sAsg, sRet, sRetN, sExpr, sBreak, sCont, sPar, par2, sAug, sRaise, fVar, fC, tyN, isi_NoneType_bool, isi_NoneType_int, isi_NoneType_str, isi_NoneType_tuple, isi_NoneType_list, isi_bool_bool, isi_bool_int, isi_bool_str, isi_bool_tuple, isi_bool_list, isi_int_bool, isi_int_int, isi_int_str, isi_int_tuple, isi_int_list, isi_str_bool, isi_str_int, isi_str_str, isi_str_tuple, isi_str_list, isi_tuple_bool, isi_tuple_int, isi_tuple_str, isi_tuple_tuple, isi_tuple_list, isi_list_bool, isi_list_int, isi_list_str, isi_list_tuple, isi_list_list, fBin, fCall, fNat, fIsi, fTru, fBl, fNotT, fAndT, fOrT, fAndV, fOrV, fNotV, fIf, fTup, fLst, fNeg, aNil, aCons, gNm, gSb, gTpT, gNms, Out.bind, Out.thenS, Out.of, Out.tst, blOf, o2I, n1I, n2I, nLen_eq, oSub, oMod, oDiv, oGt, oGe, oLe, oLt, pw10_4, pw10_6, pw10_9, pw10_12, pw10_18, pw10_20, pw10_30, pw10_40, pw2_32, pw2_63, pw2_64, List.length_cons, List.length_nil, List.map_cons, List.map_nil, List.getElem?_cons_zero, List.getElem?_cons_succ, List.set_cons_zero, List.set_cons_succ, List.replicate, List.cons_append, List.nil_append, List.append_nil, Option.map_some, Option.map_none, id, ite_true, ite_false, if_true, if_false, Nat.zero_add, Nat.reduceAdd, Nat.reduceSub, Nat.reduceLeDiff, Bool.not_true, Bool.not_false, Bool.false_eq_true, reduceIte, reduceCtorEq, Int.reduceLT, Int.reduceLE, Int.reduceEq, Int.reduceNe, Nat.reduceLT, Nat.reduceEqDiff, decide_true, decide_false, Int.reduceAdd, Int.reduceSub, Int.reduceNeg, Int.reducePow, Int.reduceMul, Int.reduceToNat, oNe, teq, lenG, hg, tru, sFor, fiZip, iZipG, outI, e]
theorem pick_lit {S : Store} {b : Nat} {xs : List T} (h : Box S b) (h0 : xs ≠ []) (hz : xs.length < 1000000) : ∃ (x : T) (S' : Store), g_law_pick [.ref b, .ref S.length] (S ++ [.lst xs]) = .ok x S' ∧ x ∈ xs ∧ Fr b S S' ∧ Box S' b := by
  have hb : S.length ≠ b := by
    obtain ⟨g, s, e, _⟩ := h
    have := lt_of_get e
    omega
  obtain ⟨x, S', e, m, f, bx⟩ := pick_ok (h.push (cs := [.lst xs])) getL_end hb h0 hz
  exact ⟨x, S', e, m, Fr.push.trans f, bx⟩
theorem mul_small {i j : Int} (hi : i.natAbs < 2 ^ 200) (hj : j.natAbs < 2 ^ 200) : mulOk i j = true := mulOk_of (small_of 250 hi (by decide)) (small_of 250 hj (by decide))
def Kp (S S' : Store) : Prop := ∀ r xs, getL S r = some xs → getL S' r = some xs
theorem Kp.trans {S S1 S2 : Store} (h : Kp S S1) (k : Kp S1 S2) : Kp S S2 := fun r xs e => k r xs (h r xs e)
theorem Kp.push {S : Store} {cs : List Cell} : Kp S (S ++ cs) := getL_push
theorem fresh {S : Store} : ∃ S1, S1 = S ++ [Cell.fn] := ⟨_, rfl⟩
end Fl

set_option Elab.async false
set_option linter.all false
set_option maxRecDepth 100000
set_option maxHeartbeats 1000000
namespace Fl
open PySem
/-! ### the first fault of a label -/
def scanS : Nat → List Nat → Option Nat
  | _, [] => none
  | i, c :: cs => if (decide ((i : Int) = 8) || !strIn ⟨#[c]⟩ abc) = true then some i else scanS (i + 1) cs
def faT : Option Nat → T
  | none => .non
  | some i => .int (i : Int)
/-- what a scan of a label tells -/
def lf : T → T
  | .str z => if z.cps.toList.length = 0 then .int (-1) else faT (scanS 0 z.cps.toList)
  | _ => .int (-1)
def eT (i : Nat) (ws : List T) : List T := (ws.zipIdx i).map fun p => .tup [.int (p.2 : Nat), p.1]
theorem eT_cons (i : Nat) (w : T) (ws : List T) : eT i (w :: ws) = .tup [.int (i : Nat), w] :: eT (i + 1) ws := by
  unfold eT
  rw [List.zipIdx_cons, List.map_cons]
theorem eT_nil (i : Nat) : eT i [] = [] := rfl
theorem enumT_eT (ws : List T) : enumT ws = eT 0 ws := rfl
abbrev lfB : FS := (sIf (fOrT (fBl (fBin oEq (fVar 1) (fC (.int 8)))) (fBl (fBin oNotIn (fVar 2) (fC (.str "abcdefghijklmnopqrstuvwxyz"))))) (sRet (fVar 1)) sNext)
theorem lf_scan (v : T) (S : Store) : ∀ (cs : List Nat) (i : Nat) (a b : Option T), (∃ k, scanS i cs = some k ∧ forL [] (gTpT [1, 2]) lfB (eT i (cs.map fun c => .str ⟨#[c]⟩)) [some v, a, b] S = .rt (.int (k : Int)) S) ∨ (scanS i cs = none ∧ ∃ a' b', forL [] (gTpT [1, 2]) lfB (eT i (cs.map fun c => .str ⟨#[c]⟩)) [some v, a, b] S = .nx [some v, a', b'] S)
  | [], i, a, b => .inr ⟨rfl, a, b, rfl⟩
  | c :: cs, i, a, b => by
    have hg : gTpT [1, 2] (.tup [.int (i : Nat), .str ⟨#[c]⟩]) [some v, a, b] S = .ok [some v, some (.int (i : Nat)), some (.str ⟨#[c]⟩)] S := rfl
    rw [List.map_cons, eT_cons]
    unfold scanS
    by_cases h8 : (i : Int) = 8
    · refine .inl ⟨i, by simp [h8], forL_rt rfl hg ?_⟩
      simp only [lfB, runDef, startE, OutS.toOut, sNext, sSeq, sIf, sAsg, sRet, sRetN, sExpr, sBreak, sCont, sPar, par2, sAug, sRaise, fVar, fC, tyN, isi_NoneType_bool, isi_NoneType_int, isi_NoneType_str, isi_NoneType_tuple, isi_NoneType_list, isi_bool_bool, isi_bool_int, isi_bool_str, isi_bool_tuple, isi_bool_list, isi_int_bool, isi_int_int, isi_int_str, isi_int_tuple, isi_int_list, isi_str_bool, isi_str_int, isi_str_str, isi_str_tuple, isi_str_list, isi_tuple_bool, isi_tuple_int, isi_tuple_str, isi_tuple_tuple, isi_tuple_list, isi_list_bool, isi_list_int, isi_list_str, isi_list_tuple, isi_list_list, fBin, fCall, fNat, fIsi, fTru, fBl, fNotT, fAndT, fOrT, fAndV, fOrV, fNotV, fIf, fTup, fLst, fNeg, aNil, aCons, gNm, gSb, gTpT, gNms, Out.bind, Out.thenS, Out.of, Out.tst, blOf, o2I, n1I, n2I, nLen_eq, oSub, oMod, oDiv, oGt, oGe, oLe, oLt, pw10_4, pw10_6, pw10_9, pw10_12, pw10_18, pw10_20, pw10_30, pw10_40, pw2_32, pw2_63, pw2_64, List.length_cons, List.length_nil, List.map_cons, List.map_nil, List.getElem?_cons_zero, List.getElem?_cons_succ, List.set_cons_zero, List.set_cons_succ, List.replicate, List.cons_append, List.nil_append, List.append_nil, Option.map_some, Option.map_none, id, ite_true, ite_false, if_true, if_false, Nat.zero_add, Nat.reduceAdd, Nat.reduceSub, Nat.reduceLeDiff, Bool.not_true, Bool.not_false, Bool.false_eq_true, reduceIte, reduceCtorEq, Int.reduceLT, Int.reduceLE, Int.reduceEq, Int.reduceNe, Nat.reduceLT, Nat.reduceEqDiff, decide_true, decide_false, Int.reduceAdd, Int.reduceSub, Int.reduceNeg, Int.reducePow, Int.reduceMul, Int.reduceToNat, oEq, teq, h8, decide_true]
    · by_cases hin : strIn ⟨#[c]⟩ abc = true
      · rw [if_neg (by simp [h8, hin])]
        have hb : lfB [some v, some (.int (i : Nat)), some (.str ⟨#[c]⟩)] S = .nx [some v, some (.int (i : Nat)), some (.str ⟨#[c]⟩)] S := by
          have hin2 : strIn ⟨#[c]⟩ "abcdefghijklmnopqrstuvwxyz" = true := hin
          simp only [lfB, runDef, startE, OutS.toOut, sNext, sSeq, sIf, sAsg, sRet, sRetN, sExpr, sBreak, sCont, sPar, par2, sAug, sRaise, fVar, fC, tyN, isi_NoneType_bool, isi_NoneType_int, isi_NoneType_str, isi_NoneType_tuple, isi_NoneType_list, isi_bool_bool, isi_bool_int, isi_bool_str, isi_bool_tuple, isi_bool_list, isi_int_bool, isi_int_int, isi_int_str, isi_int_tuple, isi_int_list, isi_str_bool, isi_str_int, isi_str_str, isi_str_tuple, isi_str_list, isi_tuple_bool, isi_tuple_int, isi_tuple_str, isi_tuple_tuple, isi_tuple_list, isi_list_bool, isi_list_int, isi_list_str, isi_list_tuple, isi_list_list, fBin, fCall, fNat, fIsi, fTru, fBl, fNotT, fAndT, fOrT, fAndV, fOrV, fNotV, fIf, fTup, fLst, fNeg, aNil, aCons, gNm, gSb, gTpT, gNms, Out.bind, Out.thenS, Out.of, Out.tst, blOf, o2I, n1I, n2I, nLen_eq, oSub, oMod, oDiv, oGt, oGe, oLe, oLt, pw10_4, pw10_6, pw10_9, pw10_12, pw10_18, pw10_20, pw10_30, pw10_40, pw2_32, pw2_63, pw2_64, List.length_cons, List.length_nil, List.map_cons, List.map_nil, List.getElem?_cons_zero, List.getElem?_cons_succ, List.set_cons_zero, List.set_cons_succ, List.replicate, List.cons_append, List.nil_append, List.append_nil, Option.map_some, Option.map_none, id, ite_true, ite_false, if_true, if_false, Nat.zero_add, Nat.reduceAdd, Nat.reduceSub, Nat.reduceLeDiff, Bool.not_true, Bool.not_false, Bool.false_eq_true, reduceIte, reduceCtorEq, Int.reduceLT, Int.reduceLE, Int.reduceEq, Int.reduceNe, Nat.reduceLT, Nat.reduceEqDiff, decide_true, decide_false, Int.reduceAdd, Int.reduceSub, Int.reduceNeg, Int.reducePow, Int.reduceMul, Int.reduceToNat, oEq, teq, h8, decide_false, oNotIn, hin2, Bool.not_true]
        rw [forL_nx rfl hg hb]
        exact lf_scan v S cs (i + 1) _ _
      · have hin1 : strIn ⟨#[c]⟩ abc = false := by simpa using hin
        have hin2 : strIn ⟨#[c]⟩ "abcdefghijklmnopqrstuvwxyz" = false := hin1
        refine .inl ⟨i, by rw [if_pos (by simp [hin1])], forL_rt rfl hg ?_⟩
        simp only [lfB, runDef, startE, OutS.toOut, sNext, sSeq, sIf, sAsg, sRet, sRetN, sExpr, sBreak, sCont, sPar, par2, sAug, sRaise, fVar, fC, tyN, isi_NoneType_bool, isi_NoneType_int, isi_NoneType_str, isi_NoneType_tuple, isi_NoneType_list, isi_bool_bool, isi_bool_int, isi_bool_str, isi_bool_tuple, isi_bool_list, isi_int_bool, isi_int_int, isi_int_str, isi_int_tuple, isi_int_list, isi_str_bool, isi_str_int, isi_str_str, isi_str_tuple, isi_str_list, isi_tuple_bool, isi_tuple_int, isi_tuple_str, isi_tuple_tuple, isi_tuple_list, isi_list_bool, isi_list_int, isi_list_str, isi_list_tuple, isi_list_list, fBin, fCall, fNat, fIsi, fTru, fBl, fNotT, fAndT, fOrT, fAndV, fOrV, fNotV, fIf, fTup, fLst, fNeg, aNil, aCons, gNm, gSb, gTpT, gNms, Out.bind, Out.thenS, Out.of, Out.tst, blOf, o2I, n1I, n2I, nLen_eq, oSub, oMod, oDiv, oGt, oGe, oLe, oLt, pw10_4, pw10_6, pw10_9, pw10_12, pw10_18, pw10_20, pw10_30, pw10_40, pw2_32, pw2_63, pw2_64, List.length_cons, List.length_nil, List.map_cons, List.map_nil, List.getElem?_cons_zero, List.getElem?_cons_succ, List.set_cons_zero, List.set_cons_succ, List.replicate, List.cons_append, List.nil_append, List.append_nil, Option.map_some, Option.map_none, id, ite_true, ite_false, if_true, if_false, Nat.zero_add, Nat.reduceAdd, Nat.reduceSub, Nat.reduceLeDiff, Bool.not_true, Bool.not_false, Bool.false_eq_true, reduceIte, reduceCtorEq, Int.reduceLT, Int.reduceLE, Int.reduceEq, Int.reduceNe, Nat.reduceLT, Nat.reduceEqDiff, decide_true, decide_false, Int.reduceAdd, Int.reduceSub, Int.reduceNeg, Int.reducePow, Int.reduceMul, Int.reduceToNat, oEq, teq, h8, decide_false, oNotIn, hin2, Bool.not_false]
end Fl

set_option Elab.async false
set_option linter.all false
set_option maxRecDepth 100000
set_option maxHeartbeats 1000000
namespace Fl
open PySem
/-- a value that may be asked as a label: its lists stand, a text is no longer than a line -/
def Lv (S : Store) (n : Nat) (v : T) : Prop := Okv S n v ∧ ∀ z, v = .str z → z.length ≤ 1000000
theorem empty_iff (z : Str) : z = ("" : Str) ↔ z.cps.toList.length = 0 := by
  constructor
  · intro h; subst h; rfl
  · intro h
    exact str_ext (by rw [List.length_eq_zero_iff.mp h]; rfl)
theorem lf_str {z : Str} (he : ¬ z.cps.toList.length = 0) : lf (.str z) = faT (scanS 0 z.cps.toList) := by
  show (if z.cps.toList.length = 0 then T.int (-1) else faT (scanS 0 z.cps.toList)) = _
  rw [if_neg he]
theorem label_ok {S : Store} {n : Nat} {v : T} (h : Lv S n v) : g_label_fault [v] S = .ok (lf v) S := by
  obtain ⟨h, hz⟩ := h
  cases n with
  | zero => exact h.elim
  | succ n =>
    cases v with
    | str z =>
      by_cases he : z.cps.toList.length = 0
      · have he2 : z = ("" : Str) := (empty_iff z).mpr he
        subst he2
        simp only [g_label_fault, g_label_fault_b, runDef, startE, OutS.toOut, sNext, sSeq, sIf, sAsg, sRet, sRetN, sExpr, sBreak, sCont, sPar, par2, sAug, sRaise, fVar, fC, tyN, isi_NoneType_bool, isi_NoneType_int, isi_NoneType_str, isi_NoneType_tuple, isi_NoneType_list, isi_bool_bool, isi_bool_int, isi_bool_str, isi_bool_tuple, isi_bool_list, isi_int_bool, isi_int_int, isi_int_str, isi_int_tuple, isi_int_list, isi_str_bool, isi_str_int, isi_str_str, isi_str_tuple, isi_str_list, isi_tuple_bool, isi_tuple_int, isi_tuple_str, isi_tuple_tuple, isi_tuple_list, isi_list_bool, isi_list_int, isi_list_str, isi_list_tuple, isi_list_list, fBin, fCall, fNat, fIsi, fTru, fBl, fNotT, fAndT, fOrT, fAndV, fOrV, fNotV, fIf, fTup, fLst, fNeg, aNil, aCons, gNm, gSb, gTpT, gNms, Out.bind, Out.thenS, Out.of, Out.tst, blOf, o2I, n1I, n2I, nLen_eq, oSub, oMod, oDiv, oGt, oGe, oLe, oLt, pw10_4, pw10_6, pw10_9, pw10_12, pw10_18, pw10_20, pw10_30, pw10_40, pw2_32, pw2_63, pw2_64, List.length_cons, List.length_nil, List.map_cons, List.map_nil, List.getElem?_cons_zero, List.getElem?_cons_succ, List.set_cons_zero, List.set_cons_succ, List.replicate, List.cons_append, List.nil_append, List.append_nil, Option.map_some, Option.map_none, id, ite_true, ite_false, if_true, if_false, Nat.zero_add, Nat.reduceAdd, Nat.reduceSub, Nat.reduceLeDiff, Bool.not_true, Bool.not_false, Bool.false_eq_true, reduceIte, reduceCtorEq, Int.reduceLT, Int.reduceLE, Int.reduceEq, Int.reduceNe, Nat.reduceLT, Nat.reduceEqDiff, decide_true, decide_false, Int.reduceAdd, Int.reduceSub, Int.reduceNeg, Int.reducePow, Int.reduceMul, Int.reduceToNat, oEq, teq, lf]
        rfl
      · have he2 : ¬ z = ("" : Str) := fun q => he ((empty_iff z).mp q)
        have hs := lf_scan (.str z) S z.cps.toList 0 none none
        have e1 : (sIf (fOrT (fNotT (fTru (fIsi "str" (fVar 0)))) (fBl (fBin oEq (fVar 0) (fC (.str ""))))) (sRet (fBin oSub (fC (.int 0)) (fC (.int 1)))) sNext) [some (.str z), none, none] S = .nx [some (.str z), none, none] S := by
          simp only [runDef, startE, OutS.toOut, sNext, sSeq, sIf, sAsg, sRet, sRetN, sExpr, sBreak, sCont, sPar, par2, sAug, sRaise, fVar, fC, tyN, isi_NoneType_bool, isi_NoneType_int, isi_NoneType_str, isi_NoneType_tuple, isi_NoneType_list, isi_bool_bool, isi_bool_int, isi_bool_str, isi_bool_tuple, isi_bool_list, isi_int_bool, isi_int_int, isi_int_str, isi_int_tuple, isi_int_list, isi_str_bool, isi_str_int, isi_str_str, isi_str_tuple, isi_str_list, isi_tuple_bool, isi_tuple_int, isi_tuple_str, isi_tuple_tuple, isi_tuple_list, isi_list_bool, isi_list_int, isi_list_str, isi_list_tuple, isi_list_list, fBin, fCall, fNat, fIsi, fTru, fBl, fNotT, fAndT, fOrT, fAndV, fOrV, fNotV, fIf, fTup, fLst, fNeg, aNil, aCons, gNm, gSb, gTpT, gNms, Out.bind, Out.thenS, Out.of, Out.tst, blOf, o2I, n1I, n2I, nLen_eq, oSub, oMod, oDiv, oGt, oGe, oLe, oLt, pw10_4, pw10_6, pw10_9, pw10_12, pw10_18, pw10_20, pw10_30, pw10_40, pw2_32, pw2_63, pw2_64, List.length_cons, List.length_nil, List.map_cons, List.map_nil, List.getElem?_cons_zero, List.getElem?_cons_succ, List.set_cons_zero, List.set_cons_succ, List.replicate, List.cons_append, List.nil_append, List.append_nil, Option.map_some, Option.map_none, id, ite_true, ite_false, if_true, if_false, Nat.zero_add, Nat.reduceAdd, Nat.reduceSub, Nat.reduceLeDiff, Bool.not_true, Bool.not_false, Bool.false_eq_true, reduceIte, reduceCtorEq, Int.reduceLT, Int.reduceLE, Int.reduceEq, Int.reduceNe, Nat.reduceLT, Nat.reduceEqDiff, decide_true, decide_false, Int.reduceAdd, Int.reduceSub, Int.reduceNeg, Int.reducePow, Int.reduceMul, Int.reduceToNat, oEq, teq, he2, tru]
        have e2 : fiEnumA (aCons (fVar 0) aNil) [some (.str z), none, none] S = .ok ⟨eT 0 (z.cps.toList.map fun c => .str ⟨#[c]⟩), []⟩ S := rfl
        show (g_label_fault_b [some (.str z), none, none] S).toOut = _
        unfold g_label_fault_b
        rw [lf_str he]
        refine toOut_seq e1 ?_
        rcases hs with ⟨k, hk, e3⟩ | ⟨hk, a', b', e3⟩
        · rw [hk]
          refine toOut_ret ?_
          unfold sFor
          rw [e2]
          exact e3
        · rw [hk]
          refine toOut_seq (ρ1 := [some (.str z), a', b']) (S1 := S) (for_of e2 e3) ?_
          simp only [runDef, startE, OutS.toOut, sNext, sSeq, sIf, sAsg, sRet, sRetN, sExpr, sBreak, sCont, sPar, par2, sAug, sRaise, fVar, fC, tyN, isi_NoneType_bool, isi_NoneType_int, isi_NoneType_str, isi_NoneType_tuple, isi_NoneType_list, isi_bool_bool, isi_bool_int, isi_bool_str, isi_bool_tuple, isi_bool_list, isi_int_bool, isi_int_int, isi_int_str, isi_int_tuple, isi_int_list, isi_str_bool, isi_str_int, isi_str_str, isi_str_tuple, isi_str_list, isi_tuple_bool, isi_tuple_int, isi_tuple_str, isi_tuple_tuple, isi_tuple_list, isi_list_bool, isi_list_int, isi_list_str, isi_list_tuple, isi_list_list, fBin, fCall, fNat, fIsi, fTru, fBl, fNotT, fAndT, fOrT, fAndV, fOrV, fNotV, fIf, fTup, fLst, fNeg, aNil, aCons, gNm, gSb, gTpT, gNms, Out.bind, Out.thenS, Out.of, Out.tst, blOf, o2I, n1I, n2I, nLen_eq, oSub, oMod, oDiv, oGt, oGe, oLe, oLt, pw10_4, pw10_6, pw10_9, pw10_12, pw10_18, pw10_20, pw10_30, pw10_40, pw2_32, pw2_63, pw2_64, List.length_cons, List.length_nil, List.map_cons, List.map_nil, List.getElem?_cons_zero, List.getElem?_cons_succ, List.set_cons_zero, List.set_cons_succ, List.replicate, List.cons_append, List.nil_append, List.append_nil, Option.map_some, Option.map_none, id, ite_true, ite_false, if_true, if_false, Nat.zero_add, Nat.reduceAdd, Nat.reduceSub, Nat.reduceLeDiff, Bool.not_true, Bool.not_false, Bool.false_eq_true, reduceIte, reduceCtorEq, Int.reduceLT, Int.reduceLE, Int.reduceEq, Int.reduceNe, Nat.reduceLT, Nat.reduceEqDiff, decide_true, decide_false, Int.reduceAdd, Int.reduceSub, Int.reduceNeg, Int.reducePow, Int.reduceMul, Int.reduceToNat, faT]
    | ref r =>
      obtain ⟨xs, e, _⟩ := h
      simp only [g_label_fault, g_label_fault_b, runDef, startE, OutS.toOut, sNext, sSeq, sIf, sAsg, sRet, sRetN, sExpr, sBreak, sCont, sPar, par2, sAug, sRaise, fVar, fC, tyN, isi_NoneType_bool, isi_NoneType_int, isi_NoneType_str, isi_NoneType_tuple, isi_NoneType_list, isi_bool_bool, isi_bool_int, isi_bool_str, isi_bool_tuple, isi_bool_list, isi_int_bool, isi_int_int, isi_int_str, isi_int_tuple, isi_int_list, isi_str_bool, isi_str_int, isi_str_str, isi_str_tuple, isi_str_list, isi_tuple_bool, isi_tuple_int, isi_tuple_str, isi_tuple_tuple, isi_tuple_list, isi_list_bool, isi_list_int, isi_list_str, isi_list_tuple, isi_list_list, fBin, fCall, fNat, fIsi, fTru, fBl, fNotT, fAndT, fOrT, fAndV, fOrV, fNotV, fIf, fTup, fLst, fNeg, aNil, aCons, gNm, gSb, gTpT, gNms, Out.bind, Out.thenS, Out.of, Out.tst, blOf, o2I, n1I, n2I, nLen_eq, oSub, oMod, oDiv, oGt, oGe, oLe, oLt, pw10_4, pw10_6, pw10_9, pw10_12, pw10_18, pw10_20, pw10_30, pw10_40, pw2_32, pw2_63, pw2_64, List.length_cons, List.length_nil, List.map_cons, List.map_nil, List.getElem?_cons_zero, List.getElem?_cons_succ, List.set_cons_zero, List.set_cons_succ, List.replicate, List.cons_append, List.nil_append, List.append_nil, Option.map_some, Option.map_none, id, ite_true, ite_false, if_true, if_false, Nat.zero_add, Nat.reduceAdd, Nat.reduceSub, Nat.reduceLeDiff, Bool.not_true, Bool.not_false, Bool.false_eq_true, reduceIte, reduceCtorEq, Int.reduceLT, Int.reduceLE, Int.reduceEq, Int.reduceNe, Nat.reduceLT, Nat.reduceEqDiff, decide_true, decide_false, Int.reduceAdd, Int.reduceSub, Int.reduceNeg, Int.reducePow, Int.reduceMul, Int.reduceToNat, e, tru, lf]
    | _ =>
      simp only [g_label_fault, g_label_fault_b, runDef, startE, OutS.toOut, sNext, sSeq, sIf, sAsg, sRet, sRetN, sExpr, sBreak, sCont, sPar, par2, sAug, sRaise, fVar, fC, tyN, isi_NoneType_bool, isi_NoneType_int, isi_NoneType_str, isi_NoneType_tuple, isi_NoneType_list, isi_bool_bool, isi_bool_int, isi_bool_str, isi_bool_tuple, isi_bool_list, isi_int_bool, isi_int_int, isi_int_str, isi_int_tuple, isi_int_list, isi_str_bool, isi_str_int, isi_str_str, isi_str_tuple, isi_str_list, isi_tuple_bool, isi_tuple_int, isi_tuple_str, isi_tuple_tuple, isi_tuple_list, isi_list_bool, isi_list_int, isi_list_str, isi_list_tuple, isi_list_list, fBin, fCall, fNat, fIsi, fTru, fBl, fNotT, fAndT, fOrT, fAndV, fOrV, fNotV, fIf, fTup, fLst, fNeg, aNil, aCons, gNm, gSb, gTpT, gNms, Out.bind, Out.thenS, Out.of, Out.tst, blOf, o2I, n1I, n2I, nLen_eq, oSub, oMod, oDiv, oGt, oGe, oLe, oLt, pw10_4, pw10_6, pw10_9, pw10_12, pw10_18, pw10_20, pw10_30, pw10_40, pw2_32, pw2_63, pw2_64, List.length_cons, List.length_nil, List.map_cons, List.map_nil, List.getElem?_cons_zero, List.getElem?_cons_succ, List.set_cons_zero, List.set_cons_succ, List.replicate, List.cons_append, List.nil_append, List.append_nil, Option.map_some, Option.map_none, id, ite_true, ite_false, if_true, if_false, Nat.zero_add, Nat.reduceAdd, Nat.reduceSub, Nat.reduceLeDiff, Bool.not_true, Bool.not_false, Bool.false_eq_true, reduceIte, reduceCtorEq, Int.reduceLT, Int.reduceLE, Int.reduceEq, Int.reduceNe, Nat.reduceLT, Nat.reduceEqDiff, decide_true, decide_false, Int.reduceAdd, Int.reduceSub, Int.reduceNeg, Int.reducePow, Int.reduceMul, Int.reduceToNat, tru, lf]
end Fl

set_option Elab.async false
set_option linter.all false
set_option maxRecDepth 100000
set_option maxHeartbeats 1000000
namespace Fl
open PySem
/-! ### the law's own scan of a label -/
abbrev ltB : FS := (sIf (fOrT (fBl (fBin oEq (fVar 1) (fC (.int 8)))) (fBl (fBin oNotIn (fBin oIx (fVar 0) (fVar 1)) (fC (.str "abcdefghijklmnopqrstuvwxyz"))))) (sRet (fVar 1)) sNext)
theorem lt_scan (z : Str) (hl : z.length ≤ line) (S : Store) : ∀ (cs : List Nat) (i : Nat) (a : Option T), (∀ j c, cs[j]? = some c → z.cps.toList[i + j]? = some c) → (∃ k, scanS i cs = some k ∧ forL [] (gNm 1) ltB (rngJ i cs.length) [some (.str z), a] S = .rt (.int (k : Int)) S) ∨ (scanS i cs = none ∧ ∃ a', forL [] (gNm 1) ltB (rngJ i cs.length) [some (.str z), a] S = .nx [some (.str z), a'] S)
  | [], i, a, _ => .inr ⟨rfl, a, rfl⟩
  | c :: cs, i, a, hc => by
    have hg : gNm 1 (.int (i : Int)) [some (.str z), a] S = .ok [some (.str z), some (.int (i : Int))] S := rfl
    have hx : oIx (.str z) (.int (i : Int)) S = some (.str ⟨#[c]⟩, S) := ix_str hl (by have := hc 0 c rfl; simpa using this)
    rw [List.length_cons, rngJ_cons]
    unfold scanS
    by_cases h8 : (i : Int) = 8
    · refine .inl ⟨i, by simp [h8], forL_rt rfl hg ?_⟩
      simp only [ltB, runDef, startE, OutS.toOut, sNext, sSeq, sIf, sAsg, sRet, sRetN, sExpr, sBreak, sCont, sPar, par2, sAug, sRaise, fVar, fC, tyN, isi_NoneType_bool, isi_NoneType_int, isi_NoneType_str, isi_NoneType_tuple, isi_NoneType_list, isi_bool_bool, isi_bool_int, isi_bool_str, isi_bool_tuple, isi_bool_list, isi_int_bool, isi_int_int, isi_int_str, isi_int_tuple, isi_int_list, isi_str_bool, isi_str_int, isi_str_str, isi_str_tuple, isi_str_list, isi_tuple_bool, isi_tuple_int, isi_tuple_str, isi_tuple_tuple, isi_tuple_list, isi_list_bool, isi_list_int, isi_list_str, isi_list_tuple, isi_list_list, fBin, fCall, fNat, fIsi, fTru, fBl, fNotT, fAndT, fOrT, fAndV, fOrV, fNotV, fIf, fTup, fLst, fNeg, aNil, aCons, gNm, gSb, gTpT, gNms, Out.bind, Out.thenS, Out.of, Out.tst, blOf, o2I, n1I, n2I, nLen_eq, oSub, oMod, oDiv, oGt, oGe, oLe, oLt, pw10_4, pw10_6, pw10_9, pw10_12, pw10_18, pw10_20, pw10_30, pw10_40, pw2_32, pw2_63, pw2_64, List.length_cons, List.length_nil, List.map_cons, List.map_nil, List.getElem?_cons_zero, List.getElem?_cons_succ, List.set_cons_zero, List.set_cons_succ, List.replicate, List.cons_append, List.nil_append, List.append_nil, Option.map_some, Option.map_none, id, ite_true, ite_false, if_true, if_false, Nat.zero_add, Nat.reduceAdd, Nat.reduceSub, Nat.reduceLeDiff, Bool.not_true, Bool.not_false, Bool.false_eq_true, reduceIte, reduceCtorEq, Int.reduceLT, Int.reduceLE, Int.reduceEq, Int.reduceNe, Nat.reduceLT, Nat.reduceEqDiff, decide_true, decide_false, Int.reduceAdd, Int.reduceSub, Int.reduceNeg, Int.reducePow, Int.reduceMul, Int.reduceToNat, oEq, teq, h8, decide_true]
    · by_cases hin : strIn ⟨#[c]⟩ abc = true
      · rw [if_neg (by simp [h8, hin])]
        have hb : ltB [some (.str z), some (.int (i : Int))] S = .nx [some (.str z), some (.int (i : Int))] S := by
          have hin2 : strIn ⟨#[c]⟩ "abcdefghijklmnopqrstuvwxyz" = true := hin
          simp only [ltB, runDef, startE, OutS.toOut, sNext, sSeq, sIf, sAsg, sRet, sRetN, sExpr, sBreak, sCont, sPar, par2, sAug, sRaise, fVar, fC, tyN, isi_NoneType_bool, isi_NoneType_int, isi_NoneType_str, isi_NoneType_tuple, isi_NoneType_list, isi_bool_bool, isi_bool_int, isi_bool_str, isi_bool_tuple, isi_bool_list, isi_int_bool, isi_int_int, isi_int_str, isi_int_tuple, isi_int_list, isi_str_bool, isi_str_int, isi_str_str, isi_str_tuple, isi_str_list, isi_tuple_bool, isi_tuple_int, isi_tuple_str, isi_tuple_tuple, isi_tuple_list, isi_list_bool, isi_list_int, isi_list_str, isi_list_tuple, isi_list_list, fBin, fCall, fNat, fIsi, fTru, fBl, fNotT, fAndT, fOrT, fAndV, fOrV, fNotV, fIf, fTup, fLst, fNeg, aNil, aCons, gNm, gSb, gTpT, gNms, Out.bind, Out.thenS, Out.of, Out.tst, blOf, o2I, n1I, n2I, nLen_eq, oSub, oMod, oDiv, oGt, oGe, oLe, oLt, pw10_4, pw10_6, pw10_9, pw10_12, pw10_18, pw10_20, pw10_30, pw10_40, pw2_32, pw2_63, pw2_64, List.length_cons, List.length_nil, List.map_cons, List.map_nil, List.getElem?_cons_zero, List.getElem?_cons_succ, List.set_cons_zero, List.set_cons_succ, List.replicate, List.cons_append, List.nil_append, List.append_nil, Option.map_some, Option.map_none, id, ite_true, ite_false, if_true, if_false, Nat.zero_add, Nat.reduceAdd, Nat.reduceSub, Nat.reduceLeDiff, Bool.not_true, Bool.not_false, Bool.false_eq_true, reduceIte, reduceCtorEq, Int.reduceLT, Int.reduceLE, Int.reduceEq, Int.reduceNe, Nat.reduceLT, Nat.reduceEqDiff, decide_true, decide_false, Int.reduceAdd, Int.reduceSub, Int.reduceNeg, Int.reducePow, Int.reduceMul, Int.reduceToNat, oEq, teq, h8, decide_false, hx, oNotIn, hin2, Bool.not_true]
        rw [forL_nx rfl hg hb]
        exact lt_scan z hl S cs (i + 1) _ fun j d hd => by
          have := hc (j + 1) d (by simpa using hd)
          rw [show i + 1 + j = i + (j + 1) by omega]
          exact this
      · have hin1 : strIn ⟨#[c]⟩ abc = false := by simpa using hin
        have hin2 : strIn ⟨#[c]⟩ "abcdefghijklmnopqrstuvwxyz" = false := hin1
        refine .inl ⟨i, by rw [if_pos (by simp [hin1])], forL_rt rfl hg ?_⟩
        simp only [ltB, runDef, startE, OutS.toOut, sNext, sSeq, sIf, sAsg, sRet, sRetN, sExpr, sBreak, sCont, sPar, par2, sAug, sRaise, fVar, fC, tyN, isi_NoneType_bool, isi_NoneType_int, isi_NoneType_str, isi_NoneType_tuple, isi_NoneType_list, isi_bool_bool, isi_bool_int, isi_bool_str, isi_bool_tuple, isi_bool_list, isi_int_bool, isi_int_int, isi_int_str, isi_int_tuple, isi_int_list, isi_str_bool, isi_str_int, isi_str_str, isi_str_tuple, isi_str_list, isi_tuple_bool, isi_tuple_int, isi_tuple_str, isi_tuple_tuple, isi_tuple_list, isi_list_bool, isi_list_int, isi_list_str, isi_list_tuple, isi_list_list, fBin, fCall, fNat, fIsi, fTru, fBl, fNotT, fAndT, fOrT, fAndV, fOrV, fNotV, fIf, fTup, fLst, fNeg, aNil, aCons, gNm, gSb, gTpT, gNms, Out.bind, Out.thenS, Out.of, Out.tst, blOf, o2I, n1I, n2I, nLen_eq, oSub, oMod, oDiv, oGt, oGe, oLe, oLt, pw10_4, pw10_6, pw10_9, pw10_12, pw10_18, pw10_20, pw10_30, pw10_40, pw2_32, pw2_63, pw2_64, List.length_cons, List.length_nil, List.map_cons, List.map_nil, List.getElem?_cons_zero, List.getElem?_cons_succ, List.set_cons_zero, List.set_cons_succ, List.replicate, List.cons_append, List.nil_append, List.append_nil, Option.map_some, Option.map_none, id, ite_true, ite_false, if_true, if_false, Nat.zero_add, Nat.reduceAdd, Nat.reduceSub, Nat.reduceLeDiff, Bool.not_true, Bool.not_false, Bool.false_eq_true, reduceIte, reduceCtorEq, Int.reduceLT, Int.reduceLE, Int.reduceEq, Int.reduceNe, Nat.reduceLT, Nat.reduceEqDiff, decide_true, decide_false, Int.reduceAdd, Int.reduceSub, Int.reduceNeg, Int.reducePow, Int.reduceMul, Int.reduceToNat, oEq, teq, h8, decide_false, hx, oNotIn, hin2, Bool.not_false]
theorem text_ok {S : Store} {n : Nat} {v : T} (h : Lv S n v) : g_law_text_fault [v] S = .ok (lf v) S := by
  obtain ⟨h, hz⟩ := h
  cases n with
  | zero => exact h.elim
  | succ n =>
    cases v with
    | str z =>
      have hl1 := hz z rfl
      have hl : z.length ≤ line := Nat.le_trans hl1 (by unfold line; decide)
      by_cases he : z.cps.toList.length = 0
      · have he2 : z = ("" : Str) := (empty_iff z).mpr he
        subst he2
        simp only [g_law_text_fault, g_law_text_fault_b, runDef, startE, OutS.toOut, sNext, sSeq, sIf, sAsg, sRet, sRetN, sExpr, sBreak, sCont, sPar, par2, sAug, sRaise, fVar, fC, tyN, isi_NoneType_bool, isi_NoneType_int, isi_NoneType_str, isi_NoneType_tuple, isi_NoneType_list, isi_bool_bool, isi_bool_int, isi_bool_str, isi_bool_tuple, isi_bool_list, isi_int_bool, isi_int_int, isi_int_str, isi_int_tuple, isi_int_list, isi_str_bool, isi_str_int, isi_str_str, isi_str_tuple, isi_str_list, isi_tuple_bool, isi_tuple_int, isi_tuple_str, isi_tuple_tuple, isi_tuple_list, isi_list_bool, isi_list_int, isi_list_str, isi_list_tuple, isi_list_list, fBin, fCall, fNat, fIsi, fTru, fBl, fNotT, fAndT, fOrT, fAndV, fOrV, fNotV, fIf, fTup, fLst, fNeg, aNil, aCons, gNm, gSb, gTpT, gNms, Out.bind, Out.thenS, Out.of, Out.tst, blOf, o2I, n1I, n2I, nLen_eq, oSub, oMod, oDiv, oGt, oGe, oLe, oLt, pw10_4, pw10_6, pw10_9, pw10_12, pw10_18, pw10_20, pw10_30, pw10_40, pw2_32, pw2_63, pw2_64, List.length_cons, List.length_nil, List.map_cons, List.map_nil, List.getElem?_cons_zero, List.getElem?_cons_succ, List.set_cons_zero, List.set_cons_succ, List.replicate, List.cons_append, List.nil_append, List.append_nil, Option.map_some, Option.map_none, id, ite_true, ite_false, if_true, if_false, Nat.zero_add, Nat.reduceAdd, Nat.reduceSub, Nat.reduceLeDiff, Bool.not_true, Bool.not_false, Bool.false_eq_true, reduceIte, reduceCtorEq, Int.reduceLT, Int.reduceLE, Int.reduceEq, Int.reduceNe, Nat.reduceLT, Nat.reduceEqDiff, decide_true, decide_false, Int.reduceAdd, Int.reduceSub, Int.reduceNeg, Int.reducePow, Int.reduceMul, Int.reduceToNat, oEq, teq, lf, lenG]
        rfl
      · have he2 : ¬ (z.length : Int) = 0 := fun q => he (by rw [← len_list]; omega)
        have hs := lt_scan z hl S z.cps.toList 0 none fun j c hc => by rw [Nat.zero_add]; exact hc
        have e1 : (sIf (fOrT (fNotT (fTru (fIsi "str" (fVar 0)))) (fBl (fBin oEq (fNat nLen (aCons (fVar 0) aNil)) (fC (.int 0))))) (sRet (fBin oSub (fC (.int 0)) (fC (.int 1)))) sNext) [some (.str z), none] S = .nx [some (.str z), none] S := by
          simp only [runDef, startE, OutS.toOut, sNext, sSeq, sIf, sAsg, sRet, sRetN, sExpr, sBreak, sCont, sPar, par2, sAug, sRaise, fVar, fC, tyN, isi_NoneType_bool, isi_NoneType_int, isi_NoneType_str, isi_NoneType_tuple, isi_NoneType_list, isi_bool_bool, isi_bool_int, isi_bool_str, isi_bool_tuple, isi_bool_list, isi_int_bool, isi_int_int, isi_int_str, isi_int_tuple, isi_int_list, isi_str_bool, isi_str_int, isi_str_str, isi_str_tuple, isi_str_list, isi_tuple_bool, isi_tuple_int, isi_tuple_str, isi_tuple_tuple, isi_tuple_list, isi_list_bool, isi_list_int, isi_list_str, isi_list_tuple, isi_list_list, fBin, fCall, fNat, fIsi, fTru, fBl, fNotT, fAndT, fOrT, fAndV, fOrV, fNotV, fIf, fTup, fLst, fNeg, aNil, aCons, gNm, gSb, gTpT, gNms, Out.bind, Out.thenS, Out.of, Out.tst, blOf, o2I, n1I, n2I, nLen_eq, oSub, oMod, oDiv, oGt, oGe, oLe, oLt, pw10_4, pw10_6, pw10_9, pw10_12, pw10_18, pw10_20, pw10_30, pw10_40, pw2_32, pw2_63, pw2_64, List.length_cons, List.length_nil, List.map_cons, List.map_nil, List.getElem?_cons_zero, List.getElem?_cons_succ, List.set_cons_zero, List.set_cons_succ, List.replicate, List.cons_append, List.nil_append, List.append_nil, Option.map_some, Option.map_none, id, ite_true, ite_false, if_true, if_false, Nat.zero_add, Nat.reduceAdd, Nat.reduceSub, Nat.reduceLeDiff, Bool.not_true, Bool.not_false, Bool.false_eq_true, reduceIte, reduceCtorEq, Int.reduceLT, Int.reduceLE, Int.reduceEq, Int.reduceNe, Nat.reduceLT, Nat.reduceEqDiff, decide_true, decide_false, Int.reduceAdd, Int.reduceSub, Int.reduceNeg, Int.reducePow, Int.reduceMul, Int.reduceToNat, oEq, teq, he2, tru, len_str hl]
        have e2 : fiRng1 (aCons (fNat nLen (aCons (fVar 0) aNil)) aNil) [some (.str z), none] S = .ok ⟨rngJ 0 z.cps.toList.length, []⟩ S := by
          refine s_rng1 (as := [.int (z.length : Int)]) (s_aCons (s_len (a := .str z) rfl (len_str hl)) rfl) ?_
          rw [rng1_of (by omega), rngT_J, Int.toNat_natCast, len_list]
        show (g_law_text_fault_b [some (.str z), none] S).toOut = _
        unfold g_law_text_fault_b
        rw [lf_str he]
        refine toOut_seq e1 ?_
        rcases hs with ⟨k, hk, e3⟩ | ⟨hk, a', e3⟩
        · rw [hk]
          refine toOut_ret ?_
          unfold sFor
          rw [e2]
          exact e3
        · rw [hk]
          refine toOut_seq (ρ1 := [some (.str z), a']) (S1 := S) (for_of e2 e3) ?_
          simp only [runDef, startE, OutS.toOut, sNext, sSeq, sIf, sAsg, sRet, sRetN, sExpr, sBreak, sCont, sPar, par2, sAug, sRaise, fVar, fC, tyN, isi_NoneType_bool, isi_NoneType_int, isi_NoneType_str, isi_NoneType_tuple, isi_NoneType_list, isi_bool_bool, isi_bool_int, isi_bool_str, isi_bool_tuple, isi_bool_list, isi_int_bool, isi_int_int, isi_int_str, isi_int_tuple, isi_int_list, isi_str_bool, isi_str_int, isi_str_str, isi_str_tuple, isi_str_list, isi_tuple_bool, isi_tuple_int, isi_tuple_str, isi_tuple_tuple, isi_tuple_list, isi_list_bool, isi_list_int, isi_list_str, isi_list_tuple, isi_list_list, fBin, fCall, fNat, fIsi, fTru, fBl, fNotT, fAndT, fOrT, fAndV, fOrV, fNotV, fIf, fTup, fLst, fNeg, aNil, aCons, gNm, gSb, gTpT, gNms, Out.bind, Out.thenS, Out.of, Out.tst, blOf, o2I, n1I, n2I, nLen_eq, oSub, oMod, oDiv, oGt, oGe, oLe, oLt, pw10_4, pw10_6, pw10_9, pw10_12, pw10_18, pw10_20, pw10_30, pw10_40, pw2_32, pw2_63, pw2_64, List.length_cons, List.length_nil, List.map_cons, List.map_nil, List.getElem?_cons_zero, List.getElem?_cons_succ, List.set_cons_zero, List.set_cons_succ, List.replicate, List.cons_append, List.nil_append, List.append_nil, Option.map_some, Option.map_none, id, ite_true, ite_false, if_true, if_false, Nat.zero_add, Nat.reduceAdd, Nat.reduceSub, Nat.reduceLeDiff, Bool.not_true, Bool.not_false, Bool.false_eq_true, reduceIte, reduceCtorEq, Int.reduceLT, Int.reduceLE, Int.reduceEq, Int.reduceNe, Nat.reduceLT, Nat.reduceEqDiff, decide_true, decide_false, Int.reduceAdd, Int.reduceSub, Int.reduceNeg, Int.reducePow, Int.reduceMul, Int.reduceToNat, faT]
    | ref r =>
      obtain ⟨xs, e, _⟩ := h
      simp only [g_law_text_fault, g_law_text_fault_b, runDef, startE, OutS.toOut, sNext, sSeq, sIf, sAsg, sRet, sRetN, sExpr, sBreak, sCont, sPar, par2, sAug, sRaise, fVar, fC, tyN, isi_NoneType_bool, isi_NoneType_int, isi_NoneType_str, isi_NoneType_tuple, isi_NoneType_list, isi_bool_bool, isi_bool_int, isi_bool_str, isi_bool_tuple, isi_bool_list, isi_int_bool, isi_int_int, isi_int_str, isi_int_tuple, isi_int_list, isi_str_bool, isi_str_int, isi_str_str, isi_str_tuple, isi_str_list, isi_tuple_bool, isi_tuple_int, isi_tuple_str, isi_tuple_tuple, isi_tuple_list, isi_list_bool, isi_list_int, isi_list_str, isi_list_tuple, isi_list_list, fBin, fCall, fNat, fIsi, fTru, fBl, fNotT, fAndT, fOrT, fAndV, fOrV, fNotV, fIf, fTup, fLst, fNeg, aNil, aCons, gNm, gSb, gTpT, gNms, Out.bind, Out.thenS, Out.of, Out.tst, blOf, o2I, n1I, n2I, nLen_eq, oSub, oMod, oDiv, oGt, oGe, oLe, oLt, pw10_4, pw10_6, pw10_9, pw10_12, pw10_18, pw10_20, pw10_30, pw10_40, pw2_32, pw2_63, pw2_64, List.length_cons, List.length_nil, List.map_cons, List.map_nil, List.getElem?_cons_zero, List.getElem?_cons_succ, List.set_cons_zero, List.set_cons_succ, List.replicate, List.cons_append, List.nil_append, List.append_nil, Option.map_some, Option.map_none, id, ite_true, ite_false, if_true, if_false, Nat.zero_add, Nat.reduceAdd, Nat.reduceSub, Nat.reduceLeDiff, Bool.not_true, Bool.not_false, Bool.false_eq_true, reduceIte, reduceCtorEq, Int.reduceLT, Int.reduceLE, Int.reduceEq, Int.reduceNe, Nat.reduceLT, Nat.reduceEqDiff, decide_true, decide_false, Int.reduceAdd, Int.reduceSub, Int.reduceNeg, Int.reducePow, Int.reduceMul, Int.reduceToNat, e, tru, lf]
    | _ =>
      simp only [g_law_text_fault, g_law_text_fault_b, runDef, startE, OutS.toOut, sNext, sSeq, sIf, sAsg, sRet, sRetN, sExpr, sBreak, sCont, sPar, par2, sAug, sRaise, fVar, fC, tyN, isi_NoneType_bool, isi_NoneType_int, isi_NoneType_str, isi_NoneType_tuple, isi_NoneType_list, isi_bool_bool, isi_bool_int, isi_bool_str, isi_bool_tuple, isi_bool_list, isi_int_bool, isi_int_int, isi_int_str, isi_int_tuple, isi_int_list, isi_str_bool, isi_str_int, isi_str_str, isi_str_tuple, isi_str_list, isi_tuple_bool, isi_tuple_int, isi_tuple_str, isi_tuple_tuple, isi_tuple_list, isi_list_bool, isi_list_int, isi_list_str, isi_list_tuple, isi_list_list, fBin, fCall, fNat, fIsi, fTru, fBl, fNotT, fAndT, fOrT, fAndV, fOrV, fNotV, fIf, fTup, fLst, fNeg, aNil, aCons, gNm, gSb, gTpT, gNms, Out.bind, Out.thenS, Out.of, Out.tst, blOf, o2I, n1I, n2I, nLen_eq, oSub, oMod, oDiv, oGt, oGe, oLe, oLt, pw10_4, pw10_6, pw10_9, pw10_12, pw10_18, pw10_20, pw10_30, pw10_40, pw2_32, pw2_63, pw2_64, List.length_cons, List.length_nil, List.map_cons, List.map_nil, List.getElem?_cons_zero, List.getElem?_cons_succ, List.set_cons_zero, List.set_cons_succ, List.replicate, List.cons_append, List.nil_append, List.append_nil, Option.map_some, Option.map_none, id, ite_true, ite_false, if_true, if_false, Nat.zero_add, Nat.reduceAdd, Nat.reduceSub, Nat.reduceLeDiff, Bool.not_true, Bool.not_false, Bool.false_eq_true, reduceIte, reduceCtorEq, Int.reduceLT, Int.reduceLE, Int.reduceEq, Int.reduceNe, Nat.reduceLT, Nat.reduceEqDiff, decide_true, decide_false, Int.reduceAdd, Int.reduceSub, Int.reduceNeg, Int.reducePow, Int.reduceMul, Int.reduceToNat, tru, lf]
end Fl

set_option Elab.async false
set_option linter.all false
set_option maxRecDepth 100000
set_option maxHeartbeats 1000000
namespace Fl
open PySem
/-! ### draws as wishes -/
def Stp (b : Nat) (S S' : Store) : Prop := Fr b S S' ∧ (Box S b → Box S' b)
theorem Stp.refl {b : Nat} {S : Store} : Stp b S S := ⟨Fr.refl, id⟩
theorem Stp.trans {b : Nat} {S S1 S2 : Store} (h : Stp b S S1) (k : Stp b S1 S2) : Stp b S S2 := ⟨h.1.trans k.1, fun x => k.2 (h.2 x)⟩
theorem Stp.push {b : Nat} {S S1 : Store} {cs : List Cell} (h : Stp b S S1) : Stp b S (S1 ++ cs) := ⟨h.1.trans Fr.push, fun x => (h.2 x).push⟩
theorem Stp.box {b : Nat} {S S' : Store} (h : Stp b S S') (x : Box S b) : Box S' b := h.2 x
theorem Stp.get {b : Nat} {S S' : Store} (h : Stp b S S') {r : Nat} {xs : List T} (hr : r ≠ b) (e : getL S r = some xs) : getL S' r = some xs := getL_fr h.1 hr e
theorem Stp.at {b : Nat} {S S' : Store} (h : Stp b S S') {r : Nat} {c : Cell} (hr : r ≠ b) (e : S[r]? = some c) : S'[r]? = some c := h.1.keep hr e
theorem Stp.le {b : Nat} {S S' : Store} (h : Stp b S S') : S.length ≤ S'.length := h.1.1
theorem Box.lt {S : Store} {b : Nat} (h : Box S b) : b < S.length := by
  obtain ⟨g, s, e, _⟩ := h
  exact lt_of_get e
theorem Stp.setNew {b : Nat} {S S1 : Store} {D : Nat} {c : Cell} (h : Stp b S S1) (hd : S.length ≤ D) : Stp b S (S1.set D c) := by
  refine ⟨⟨by rw [List.length_set]; exact h.1.1, fun n h1 h2 => ?_⟩, fun x => ?_⟩
  · rw [List.getElem?_set_ne (by omega)]
    exact h.1.2 n h1 h2
  · have := x.lt
    obtain ⟨g, s, e, k⟩ := h.2 x
    exact ⟨g, s, by rw [List.getElem?_set_ne (by omega)]; exact e, k⟩
theorem w_take {S : Store} {b : Nat} {m : Int} {Q : T → Store → Prop} {E : Ex → Store → Prop} (h : Box S b) (hm : 0 < m ∧ m < 2 ^ 200) (k : ∀ d S', 0 ≤ d → d < m → Stp b S S' → Q (.int d) S') : wp (g_law_take [.ref b, .int m] S) Q E := by
  obtain ⟨d, S', e, d0, d1, f, bx⟩ := take_ok h hm.1 hm.2
  exact wp_eq e (k d S' d0 d1 ⟨f, fun _ => bx⟩)
theorem w_pick {S : Store} {b l : Nat} {xs : List T} {Q : T → Store → Prop} {E : Ex → Store → Prop} (h : Box S b) (hl : getL S l = some xs) (hn : l ≠ b) (h0 : xs ≠ []) (hz : xs.length < 1000000) (k : ∀ x S', x ∈ xs → Stp b S S' → Q x S') : wp (g_law_pick [.ref b, .ref l] S) Q E := by
  obtain ⟨x, S', e, m, f, bx⟩ := pick_ok h hl hn h0 hz
  exact wp_eq e (k x S' m ⟨f, fun _ => bx⟩)
/-- a draw out of a list that was just written down -/
theorem w_pickl {S : Store} {b : Nat} {xs : List T} {Q : T → Store → Prop} {E : Ex → Store → Prop} (h : Box S b) (h0 : xs ≠ [] := by exact List.cons_ne_nil _ _) (hz : xs.length < 1000000 := by first | decide | simp) (k : ∀ x S', x ∈ xs → Stp b S S' → Q x S') : wp (g_law_pick [.ref b, .ref S.length] (S ++ [.lst xs])) Q E := by
  obtain ⟨x, S', e, m, f, bx⟩ := pick_lit h h0 hz
  exact wp_eq e (k x S' m ⟨f, fun _ => bx⟩)
theorem wc_draw {b : Nat} {S : Store} (p : T → Prop) {chk : List (Nat × List T)} {g : FG} {f : FE} {ρ : Env} {xs : List T} {Q : T → Store → Prop} {E : Ex → Store → Prop} (hb : Box S b) (hl : xs.length ≤ line) (hc : ∀ S', Stp b S S' → chkOk S' chk = true)
    (st : ∀ w ∈ xs, ∀ S1, Stp b S S1 → Box S1 b → wp (g w ρ S1) (fun ρ1 S2 => wp (f ρ1 S2) (fun y S3 => p y ∧ Stp b S1 S3) no2) no2)
    (q : ∀ ys S', ys.length = xs.length → (∀ y ∈ ys, p y) → Stp b S S' → S'[S.length]? = some (.lst ys) → Q (.ref S.length) S') : wp (lcL chk g fYes f ρ S.length xs (S ++ [.lst []])) Q E := by
  have hbl := hb.lt
  refine wc_inv (D := S.length) (fun k acc S' => Stp b S S' ∧ S'[S.length]? = some (.lst acc) ∧ acc.length = k ∧ ∀ y ∈ acc, p y) (fun k acc S' h => ⟨hc S' h.1, h.2.1⟩) xs 0 [] _ (by simpa using hl) ⟨Stp.refl.push, by simp, rfl, fun _ h => by cases h⟩ (fun k w e acc S1 h => ?_) fun acc S' h => ?_
  · obtain ⟨h1, h2, h3, h4⟩ := h
    refine wp_mono (st w (List.mem_of_getElem? e) S1 h1 (h1.box hb)) (fun ρ1 S2 k1 => ?_) fun _ _ z => z
    rw [show fYes ρ1 S2 = .ok true S2 from rfl, wp_ok]
    refine ⟨fun _ => wp_mono k1 (fun y S3 k2 => ?_) fun _ _ z => z, fun z => by cases z⟩
    have e3 := k2.2.at (by omega : S.length ≠ b) h2
    refine ⟨e3, (h1.trans k2.2).setNew (Nat.le_refl _), ?_, by simp [h3], fun y' hy => ?_⟩
    · rw [List.getElem?_set_self (lt_of_get e3)]
    · rcases List.mem_append.mp hy with z | z
      · exact h4 y' z
      · rw [List.mem_singleton.mp z]
        exact k2.1
  · obtain ⟨h1, h2, h3, h4⟩ := h
    exact q acc S' (by rw [h3, Nat.zero_add]) h4 h1 h2
/-! ### this law's draws -/
section
variable {S : Store} {b : Nat} {Q : T → Store → Prop} {E : Ex → Store → Prop}
/-- a value of the menu: its lists stand, and are of a kind -/
def MvP (p : Nat → Prop) (S : Store) : Nat → T → Prop
  | 0, _ => False
  | n + 1, .tup xs => xs.length ≤ 1000 ∧ ∀ x ∈ xs, MvP p S n x
  | n + 1, .ref r => p r ∧ ∃ xs, getL S r = some xs ∧ ∀ x ∈ xs, MvP p S n x
  | _ + 1, .str z => z.length ≤ 1000
  | _ + 1, _ => True
theorem MvP.imp {p q : Nat → Prop} {S S' : Store} (k : ∀ r xs, p r → getL S r = some xs → q r ∧ getL S' r = some xs) : ∀ {n : Nat} {v : T}, MvP p S n v → MvP q S' n v
  | 0, _, h => h.elim
  | n + 1, .tup xs, h => ⟨h.1, fun x hx => MvP.imp k (h.2 x hx)⟩
  | n + 1, .ref r, ⟨hr, xs, e, h⟩ => ⟨(k r xs hr e).1, xs, (k r xs hr e).2, fun x hx => MvP.imp k (h x hx)⟩
  | n + 1, .str z, h => h
  | n + 1, .non, h => trivial
  | n + 1, .bl _, h => trivial
  | n + 1, .int _, h => trivial
abbrev Mv (b : Nat) (S : Store) (n : Nat) (v : T) : Prop := MvP (fun r => r ≠ b) S n v
theorem MvP.stp {p : Nat → Prop} {S S' : Store} (k : Stp b S S') (hp : ∀ r, p r → r ≠ b) {n : Nat} {v : T} (h : MvP p S n v) : MvP p S' n v := h.imp fun r xs hr e => ⟨hr, k.get (hp r hr) e⟩
theorem Mv.stp {S S' : Store} (k : Stp b S S') {n : Nat} {v : T} (h : Mv b S n v) : Mv b S' n v := MvP.stp k (fun _ h => h) h
theorem MvP.mono {p : Nat → Prop} : ∀ {n : Nat} {v : T}, MvP p S n v → MvP p S (n + 1) v
  | 0, _, h => h.elim
  | n + 1, .tup xs, h => ⟨h.1, fun x hx => MvP.mono (h.2 x hx)⟩
  | n + 1, .ref r, ⟨hr, xs, e, h⟩ => ⟨hr, xs, e, fun x hx => MvP.mono (h x hx)⟩
  | n + 1, .str z, h => h
  | n + 1, .non, h => trivial
  | n + 1, .bl _, h => trivial
  | n + 1, .int _, h => trivial
theorem Mv.mono {n : Nat} {v : T} (h : Mv b S n v) : Mv b S (n + 1) v := MvP.mono h
theorem MvP.okv {p : Nat → Prop} : ∀ {n : Nat} {v : T}, MvP p S n v → Okv S n v
  | 0, _, h => h.elim
  | n + 1, .tup xs, h => fun x hx => MvP.okv (h.2 x hx)
  | n + 1, .ref r, ⟨hr, xs, e, h⟩ => ⟨xs, e, fun x hx => MvP.okv (h x hx)⟩
  | n + 1, .str z, h => trivial
  | n + 1, .non, h => trivial
  | n + 1, .bl _, h => trivial
  | n + 1, .int _, h => trivial
theorem Mv.okv {n : Nat} {v : T} (h : Mv b S n v) : Okv S n v := MvP.okv h
theorem MvP.lv {p : Nat → Prop} {n : Nat} {v : T} (h : MvP p S n v) : Lv S n v := by
  refine ⟨h.okv, fun z e => ?_⟩
  subst e
  cases n with
  | zero => exact h.elim
  | succ n => exact Nat.le_trans (show z.length ≤ 1000 from h) (by decide)
theorem Mv.lv {n : Nat} {v : T} (h : Mv b S n v) : Lv S n v := MvP.lv h
theorem w_label (hb : Box S b) (k : ∀ z S', AZ z → 1 ≤ z.length → z.length ≤ 8 → Stp b S S' → Q (.str z) S') : wp (g_law_label [.ref b] S) Q E := by
  unfold g_law_label
  refine wp_def rfl ?_
  unfold g_law_label_b
  simp only [startE, List.map_cons, List.map_nil, List.length_cons, List.length_nil, List.replicate, List.cons_append, List.nil_append, Nat.reduceAdd, Nat.reduceSub, Nat.zero_add]
  refine ws_seq ?_
  try simp -implicitDefEqProofs only [startE, OutS.toOut, sNext, sIf, sAsg, sRet, sRetN, sExpr, sBreak, sCont, sPar, par2, sAug, sRaise, fVar, fC, tyN, isi_NoneType_bool, isi_NoneType_int, isi_NoneType_str, isi_NoneType_tuple, isi_NoneType_list, isi_bool_bool, isi_bool_int, isi_bool_str, isi_bool_tuple, isi_bool_list, isi_int_bool, isi_int_int, isi_int_str, isi_int_tuple, isi_int_list, isi_str_bool, isi_str_int, isi_str_str, isi_str_tuple, isi_str_list, isi_tuple_bool, isi_tuple_int, isi_tuple_str, isi_tuple_tuple, isi_tuple_list, isi_list_bool, isi_list_int, isi_list_str, isi_list_tuple, isi_list_list, fBin, fCall, fNat, fIsi, fTru, fBl, fNotT, fAndT, fOrT, fAndV, fOrV, fNotV, fIf, fTup, fLst, fNeg, aNil, aCons, gNm, gSb, gTpT, gNms, blOf, o2I, n1I, n2I, nLen_eq, oSub, oMod, oDiv, oGt, oGe, oLe, oLt, pw10_4, pw10_6, pw10_9, pw10_12, pw10_18, pw10_20, pw10_30, pw10_40, pw2_32, pw2_63, pw2_64, List.length_cons, List.length_nil, List.map_cons, List.map_nil, List.getElem?_cons_zero, List.getElem?_cons_succ, List.set_cons_zero, List.set_cons_succ, List.replicate, List.cons_append, List.nil_append, List.append_nil, Option.map_some, Option.map_none, id, ite_true, ite_false, if_true, if_false, Nat.zero_add, Nat.reduceAdd, Nat.reduceSub, Nat.reduceLeDiff, Bool.not_true, Bool.not_false, Bool.false_eq_true, reduceIte, reduceCtorEq, Int.reduceLT, Int.reduceLE, Int.reduceEq, Int.reduceNe, Nat.reduceLT, Nat.reduceEqDiff, decide_true, decide_false, Int.reduceAdd, Int.reduceSub, Int.reduceNeg, Int.reducePow, Int.reduceMul, Int.reduceToNat, wp_ok, wp_exc, wp_bad, wp_bind, bind_ok, wp_of, wr_some, wr_ite, of_some, tst_some, and_ok, or_ok, ws_nx, ws_rt, ws_bk, ws_ct, ws_exc, ws_then, wp_ite, ws_ite, decide_eq_true_eq, decide_eq_false_iff_not, true_implies, false_implies, implies_true, not_true_eq_false, not_false_eq_true, true_and, and_true, forall_const, fMeth, isTy_s, isTy_l, Option.isSome_some, and_self, fSlice, pNone, pSome, ws_sFor, fiSeq, fiRng1, fiRng2, wp_fLc, wp_outI_some, wp_rng1, wp_rng2, oEq_int, oNe_int, oEq_str, oNe_str, oEq_bl, oIs_non, oIsNot_non, isNon_non, isNon_int, isNon_bl, isNon_str, isNon_tup, isNon_ref, tru_non, tru_bl, tru_int, tru_tup, lenG_tup, oLt_str, oNotIn_str, oIn_str, seqG_tup, seqG_ref, iSeqG_tup, fiEnumA, iEnumGA_tup, iEnumGA_str, fiZip, Bool.false_or, Bool.true_or, Bool.or_false, Bool.or_true, Bool.false_and, Bool.true_and, Bool.and_false, Bool.and_true, Bool.or_eq_false_iff, Bool.not_eq_true', Bool.not_eq_false', nList, nTuple, oAdd_int, line, Bool.or_eq_true, Bool.and_eq_true, Bool.not_eq_true]
  refine w_pickl hb (k := fun x S1 hx s1 => ?_)
  obtain ⟨m, rfl, m1, m2⟩ := ints_of hx (lo := 1) (hi := 8) (by decide)
  refine ws_seq ?_
  try simp -implicitDefEqProofs only [startE, OutS.toOut, sNext, sIf, sAsg, sRet, sRetN, sExpr, sBreak, sCont, sPar, par2, sAug, sRaise, fVar, fC, tyN, isi_NoneType_bool, isi_NoneType_int, isi_NoneType_str, isi_NoneType_tuple, isi_NoneType_list, isi_bool_bool, isi_bool_int, isi_bool_str, isi_bool_tuple, isi_bool_list, isi_int_bool, isi_int_int, isi_int_str, isi_int_tuple, isi_int_list, isi_str_bool, isi_str_int, isi_str_str, isi_str_tuple, isi_str_list, isi_tuple_bool, isi_tuple_int, isi_tuple_str, isi_tuple_tuple, isi_tuple_list, isi_list_bool, isi_list_int, isi_list_str, isi_list_tuple, isi_list_list, fBin, fCall, fNat, fIsi, fTru, fBl, fNotT, fAndT, fOrT, fAndV, fOrV, fNotV, fIf, fTup, fLst, fNeg, aNil, aCons, gNm, gSb, gTpT, gNms, blOf, o2I, n1I, n2I, nLen_eq, oSub, oMod, oDiv, oGt, oGe, oLe, oLt, pw10_4, pw10_6, pw10_9, pw10_12, pw10_18, pw10_20, pw10_30, pw10_40, pw2_32, pw2_63, pw2_64, List.length_cons, List.length_nil, List.map_cons, List.map_nil, List.getElem?_cons_zero, List.getElem?_cons_succ, List.set_cons_zero, List.set_cons_succ, List.replicate, List.cons_append, List.nil_append, List.append_nil, Option.map_some, Option.map_none, id, ite_true, ite_false, if_true, if_false, Nat.zero_add, Nat.reduceAdd, Nat.reduceSub, Nat.reduceLeDiff, Bool.not_true, Bool.not_false, Bool.false_eq_true, reduceIte, reduceCtorEq, Int.reduceLT, Int.reduceLE, Int.reduceEq, Int.reduceNe, Nat.reduceLT, Nat.reduceEqDiff, decide_true, decide_false, Int.reduceAdd, Int.reduceSub, Int.reduceNeg, Int.reducePow, Int.reduceMul, Int.reduceToNat, wp_ok, wp_exc, wp_bad, wp_bind, bind_ok, wp_of, wr_some, wr_ite, of_some, tst_some, and_ok, or_ok, ws_nx, ws_rt, ws_bk, ws_ct, ws_exc, ws_then, wp_ite, ws_ite, decide_eq_true_eq, decide_eq_false_iff_not, true_implies, false_implies, implies_true, not_true_eq_false, not_false_eq_true, true_and, and_true, forall_const, fMeth, isTy_s, isTy_l, Option.isSome_some, and_self, fSlice, pNone, pSome, ws_sFor, fiSeq, fiRng1, fiRng2, wp_fLc, wp_outI_some, wp_rng1, wp_rng2, oEq_int, oNe_int, oEq_str, oNe_str, oEq_bl, oIs_non, oIsNot_non, isNon_non, isNon_int, isNon_bl, isNon_str, isNon_tup, isNon_ref, tru_non, tru_bl, tru_int, tru_tup, lenG_tup, oLt_str, oNotIn_str, oIn_str, seqG_tup, seqG_ref, iSeqG_tup, fiEnumA, iEnumGA_tup, iEnumGA_str, fiZip, Bool.false_or, Bool.true_or, Bool.or_false, Bool.or_true, Bool.false_and, Bool.true_and, Bool.and_false, Bool.and_true, Bool.or_eq_false_iff, Bool.not_eq_true', Bool.not_eq_false', nList, nTuple, oAdd_int, line, Bool.or_eq_true, Bool.and_eq_true, Bool.not_eq_true]
  refine w_pickl (s1.box hb) (k := fun x S2 hx s2 => ?_)
  obtain ⟨z, rfl, hz⟩ := strs_of hx (p := fun z => z.cps.toList.all (fun c => decide (97 ≤ c) && decide (c ≤ 122)) && decide (1 ≤ z.length) && decide (z.length ≤ 26)) (by decide +kernel)
  simp only [Bool.and_eq_true, decide_eq_true_eq, List.all_eq_true] at hz
  try simp -implicitDefEqProofs only [startE, OutS.toOut, sNext, sIf, sAsg, sRet, sRetN, sExpr, sBreak, sCont, sPar, par2, sAug, sRaise, fVar, fC, tyN, isi_NoneType_bool, isi_NoneType_int, isi_NoneType_str, isi_NoneType_tuple, isi_NoneType_list, isi_bool_bool, isi_bool_int, isi_bool_str, isi_bool_tuple, isi_bool_list, isi_int_bool, isi_int_int, isi_int_str, isi_int_tuple, isi_int_list, isi_str_bool, isi_str_int, isi_str_str, isi_str_tuple, isi_str_list, isi_tuple_bool, isi_tuple_int, isi_tuple_str, isi_tuple_tuple, isi_tuple_list, isi_list_bool, isi_list_int, isi_list_str, isi_list_tuple, isi_list_list, fBin, fCall, fNat, fIsi, fTru, fBl, fNotT, fAndT, fOrT, fAndV, fOrV, fNotV, fIf, fTup, fLst, fNeg, aNil, aCons, gNm, gSb, gTpT, gNms, blOf, o2I, n1I, n2I, nLen_eq, oSub, oMod, oDiv, oGt, oGe, oLe, oLt, pw10_4, pw10_6, pw10_9, pw10_12, pw10_18, pw10_20, pw10_30, pw10_40, pw2_32, pw2_63, pw2_64, List.length_cons, List.length_nil, List.map_cons, List.map_nil, List.getElem?_cons_zero, List.getElem?_cons_succ, List.set_cons_zero, List.set_cons_succ, List.replicate, List.cons_append, List.nil_append, List.append_nil, Option.map_some, Option.map_none, id, ite_true, ite_false, if_true, if_false, Nat.zero_add, Nat.reduceAdd, Nat.reduceSub, Nat.reduceLeDiff, Bool.not_true, Bool.not_false, Bool.false_eq_true, reduceIte, reduceCtorEq, Int.reduceLT, Int.reduceLE, Int.reduceEq, Int.reduceNe, Nat.reduceLT, Nat.reduceEqDiff, decide_true, decide_false, Int.reduceAdd, Int.reduceSub, Int.reduceNeg, Int.reducePow, Int.reduceMul, Int.reduceToNat, wp_ok, wp_exc, wp_bad, wp_bind, bind_ok, wp_of, wr_some, wr_ite, of_some, tst_some, and_ok, or_ok, ws_nx, ws_rt, ws_bk, ws_ct, ws_exc, ws_then, wp_ite, ws_ite, decide_eq_true_eq, decide_eq_false_iff_not, true_implies, false_implies, implies_true, not_true_eq_false, not_false_eq_true, true_and, and_true, forall_const, fMeth, isTy_s, isTy_l, Option.isSome_some, and_self, fSlice, pNone, pSome, ws_sFor, fiSeq, fiRng1, fiRng2, wp_fLc, wp_outI_some, wp_rng1, wp_rng2, oEq_int, oNe_int, oEq_str, oNe_str, oEq_bl, oIs_non, oIsNot_non, isNon_non, isNon_int, isNon_bl, isNon_str, isNon_tup, isNon_ref, tru_non, tru_bl, tru_int, tru_tup, lenG_tup, oLt_str, oNotIn_str, oIn_str, seqG_tup, seqG_ref, iSeqG_tup, fiEnumA, iEnumGA_tup, iEnumGA_str, fiZip, Bool.false_or, Bool.true_or, Bool.or_false, Bool.or_true, Bool.false_and, Bool.true_and, Bool.and_false, Bool.and_true, Bool.or_eq_false_iff, Bool.not_eq_true', Bool.not_eq_false', nList, nTuple, oAdd_int, line, Bool.or_eq_true, Bool.and_eq_true, Bool.not_eq_true]
  have hl : z.length ≤ line := Nat.le_trans hz.2 (by decide)
  refine ⟨rOk_of (by omega), ?_⟩
  refine wc_draw (fun y => ∃ c, y = .str ⟨#[c]⟩ ∧ 97 ≤ c ∧ c ≤ 122) (s2.box (s1.box hb)) (by simp [rngT, line]; omega) (fun _ _ => rfl) (fun w hw S3 s3 hb3 => ?_) fun ys S3 hy hp s3 e3 => ?_
  · simp -implicitDefEqProofs only [startE, OutS.toOut, sNext, sIf, sAsg, sRet, sRetN, sExpr, sBreak, sCont, sPar, par2, sAug, sRaise, fVar, fC, tyN, isi_NoneType_bool, isi_NoneType_int, isi_NoneType_str, isi_NoneType_tuple, isi_NoneType_list, isi_bool_bool, isi_bool_int, isi_bool_str, isi_bool_tuple, isi_bool_list, isi_int_bool, isi_int_int, isi_int_str, isi_int_tuple, isi_int_list, isi_str_bool, isi_str_int, isi_str_str, isi_str_tuple, isi_str_list, isi_tuple_bool, isi_tuple_int, isi_tuple_str, isi_tuple_tuple, isi_tuple_list, isi_list_bool, isi_list_int, isi_list_str, isi_list_tuple, isi_list_list, fBin, fCall, fNat, fIsi, fTru, fBl, fNotT, fAndT, fOrT, fAndV, fOrV, fNotV, fIf, fTup, fLst, fNeg, aNil, aCons, gNm, gSb, gTpT, gNms, blOf, o2I, n1I, n2I, nLen_eq, oSub, oMod, oDiv, oGt, oGe, oLe, oLt, pw10_4, pw10_6, pw10_9, pw10_12, pw10_18, pw10_20, pw10_30, pw10_40, pw2_32, pw2_63, pw2_64, List.length_cons, List.length_nil, List.map_cons, List.map_nil, List.getElem?_cons_zero, List.getElem?_cons_succ, List.set_cons_zero, List.set_cons_succ, List.replicate, List.cons_append, List.nil_append, List.append_nil, Option.map_some, Option.map_none, id, ite_true, ite_false, if_true, if_false, Nat.zero_add, Nat.reduceAdd, Nat.reduceSub, Nat.reduceLeDiff, Bool.not_true, Bool.not_false, Bool.false_eq_true, reduceIte, reduceCtorEq, Int.reduceLT, Int.reduceLE, Int.reduceEq, Int.reduceNe, Nat.reduceLT, Nat.reduceEqDiff, decide_true, decide_false, Int.reduceAdd, Int.reduceSub, Int.reduceNeg, Int.reducePow, Int.reduceMul, Int.reduceToNat, wp_ok, wp_exc, wp_bad, wp_bind, bind_ok, wp_of, wr_some, wr_ite, of_some, tst_some, and_ok, or_ok, ws_nx, ws_rt, ws_bk, ws_ct, ws_exc, ws_then, wp_ite, ws_ite, decide_eq_true_eq, decide_eq_false_iff_not, true_implies, false_implies, implies_true, not_true_eq_false, not_false_eq_true, true_and, and_true, forall_const, fMeth, isTy_s, isTy_l, Option.isSome_some, and_self, fSlice, pNone, pSome, ws_sFor, fiSeq, fiRng1, fiRng2, wp_fLc, wp_outI_some, wp_rng1, wp_rng2, oEq_int, oNe_int, oEq_str, oNe_str, oEq_bl, oIs_non, oIsNot_non, isNon_non, isNon_int, isNon_bl, isNon_str, isNon_tup, isNon_ref, tru_non, tru_bl, tru_int, tru_tup, lenG_tup, oLt_str, oNotIn_str, oIn_str, seqG_tup, seqG_ref, iSeqG_tup, fiEnumA, iEnumGA_tup, iEnumGA_str, fiZip, Bool.false_or, Bool.true_or, Bool.or_false, Bool.or_true, Bool.false_and, Bool.true_and, Bool.and_false, Bool.and_true, Bool.or_eq_false_iff, Bool.not_eq_true', Bool.not_eq_false', nList, nTuple, oAdd_int, line, Bool.or_eq_true, Bool.and_eq_true, Bool.not_eq_true, wipeE, len_str hl]
    refine w_take hb3 (by omega) fun d S4 d0 d1 s4 => ?_
    obtain ⟨j, rfl⟩ := Int.eq_ofNat_of_zero_le d0
    have hj : j < z.cps.toList.length := by rw [← len_list]; omega
    have hx := ix_str (S := S4) hl (List.getElem?_eq_getElem hj)
    simp -implicitDefEqProofs only [startE, OutS.toOut, sNext, sIf, sAsg, sRet, sRetN, sExpr, sBreak, sCont, sPar, par2, sAug, sRaise, fVar, fC, tyN, isi_NoneType_bool, isi_NoneType_int, isi_NoneType_str, isi_NoneType_tuple, isi_NoneType_list, isi_bool_bool, isi_bool_int, isi_bool_str, isi_bool_tuple, isi_bool_list, isi_int_bool, isi_int_int, isi_int_str, isi_int_tuple, isi_int_list, isi_str_bool, isi_str_int, isi_str_str, isi_str_tuple, isi_str_list, isi_tuple_bool, isi_tuple_int, isi_tuple_str, isi_tuple_tuple, isi_tuple_list, isi_list_bool, isi_list_int, isi_list_str, isi_list_tuple, isi_list_list, fBin, fCall, fNat, fIsi, fTru, fBl, fNotT, fAndT, fOrT, fAndV, fOrV, fNotV, fIf, fTup, fLst, fNeg, aNil, aCons, gNm, gSb, gTpT, gNms, blOf, o2I, n1I, n2I, nLen_eq, oSub, oMod, oDiv, oGt, oGe, oLe, oLt, pw10_4, pw10_6, pw10_9, pw10_12, pw10_18, pw10_20, pw10_30, pw10_40, pw2_32, pw2_63, pw2_64, List.length_cons, List.length_nil, List.map_cons, List.map_nil, List.getElem?_cons_zero, List.getElem?_cons_succ, List.set_cons_zero, List.set_cons_succ, List.replicate, List.cons_append, List.nil_append, List.append_nil, Option.map_some, Option.map_none, id, ite_true, ite_false, if_true, if_false, Nat.zero_add, Nat.reduceAdd, Nat.reduceSub, Nat.reduceLeDiff, Bool.not_true, Bool.not_false, Bool.false_eq_true, reduceIte, reduceCtorEq, Int.reduceLT, Int.reduceLE, Int.reduceEq, Int.reduceNe, Nat.reduceLT, Nat.reduceEqDiff, decide_true, decide_false, Int.reduceAdd, Int.reduceSub, Int.reduceNeg, Int.reducePow, Int.reduceMul, Int.reduceToNat, wp_ok, wp_exc, wp_bad, wp_bind, bind_ok, wp_of, wr_some, wr_ite, of_some, tst_some, and_ok, or_ok, ws_nx, ws_rt, ws_bk, ws_ct, ws_exc, ws_then, wp_ite, ws_ite, decide_eq_true_eq, decide_eq_false_iff_not, true_implies, false_implies, implies_true, not_true_eq_false, not_false_eq_true, true_and, and_true, forall_const, fMeth, isTy_s, isTy_l, Option.isSome_some, and_self, fSlice, pNone, pSome, ws_sFor, fiSeq, fiRng1, fiRng2, wp_fLc, wp_outI_some, wp_rng1, wp_rng2, oEq_int, oNe_int, oEq_str, oNe_str, oEq_bl, oIs_non, oIsNot_non, isNon_non, isNon_int, isNon_bl, isNon_str, isNon_tup, isNon_ref, tru_non, tru_bl, tru_int, tru_tup, lenG_tup, oLt_str, oNotIn_str, oIn_str, seqG_tup, seqG_ref, iSeqG_tup, fiEnumA, iEnumGA_tup, iEnumGA_str, fiZip, Bool.false_or, Bool.true_or, Bool.or_false, Bool.or_true, Bool.false_and, Bool.true_and, Bool.and_false, Bool.and_true, Bool.or_eq_false_iff, Bool.not_eq_true', Bool.not_eq_false', nList, nTuple, oAdd_int, line, Bool.or_eq_true, Bool.and_eq_true, Bool.not_eq_true, hx]
    exact ⟨⟨_, rfl, hz.1.1 _ (List.getElem_mem hj)⟩, s4⟩
  · obtain ⟨s, es, hs, ls⟩ := joinedP (p := fun c => 97 ≤ c ∧ c ≤ 122) e3 hp (by rw [hy]; simp [rngT]; omega)
    simp -implicitDefEqProofs only [startE, OutS.toOut, sNext, sIf, sAsg, sRet, sRetN, sExpr, sBreak, sCont, sPar, par2, sAug, sRaise, fVar, fC, tyN, isi_NoneType_bool, isi_NoneType_int, isi_NoneType_str, isi_NoneType_tuple, isi_NoneType_list, isi_bool_bool, isi_bool_int, isi_bool_str, isi_bool_tuple, isi_bool_list, isi_int_bool, isi_int_int, isi_int_str, isi_int_tuple, isi_int_list, isi_str_bool, isi_str_int, isi_str_str, isi_str_tuple, isi_str_list, isi_tuple_bool, isi_tuple_int, isi_tuple_str, isi_tuple_tuple, isi_tuple_list, isi_list_bool, isi_list_int, isi_list_str, isi_list_tuple, isi_list_list, fBin, fCall, fNat, fIsi, fTru, fBl, fNotT, fAndT, fOrT, fAndV, fOrV, fNotV, fIf, fTup, fLst, fNeg, aNil, aCons, gNm, gSb, gTpT, gNms, blOf, o2I, n1I, n2I, nLen_eq, oSub, oMod, oDiv, oGt, oGe, oLe, oLt, pw10_4, pw10_6, pw10_9, pw10_12, pw10_18, pw10_20, pw10_30, pw10_40, pw2_32, pw2_63, pw2_64, List.length_cons, List.length_nil, List.map_cons, List.map_nil, List.getElem?_cons_zero, List.getElem?_cons_succ, List.set_cons_zero, List.set_cons_succ, List.replicate, List.cons_append, List.nil_append, List.append_nil, Option.map_some, Option.map_none, id, ite_true, ite_false, if_true, if_false, Nat.zero_add, Nat.reduceAdd, Nat.reduceSub, Nat.reduceLeDiff, Bool.not_true, Bool.not_false, Bool.false_eq_true, reduceIte, reduceCtorEq, Int.reduceLT, Int.reduceLE, Int.reduceEq, Int.reduceNe, Nat.reduceLT, Nat.reduceEqDiff, decide_true, decide_false, Int.reduceAdd, Int.reduceSub, Int.reduceNeg, Int.reducePow, Int.reduceMul, Int.reduceToNat, wp_ok, wp_exc, wp_bad, wp_bind, bind_ok, wp_of, wr_some, wr_ite, of_some, tst_some, and_ok, or_ok, ws_nx, ws_rt, ws_bk, ws_ct, ws_exc, ws_then, wp_ite, ws_ite, decide_eq_true_eq, decide_eq_false_iff_not, true_implies, false_implies, implies_true, not_true_eq_false, not_false_eq_true, true_and, and_true, forall_const, fMeth, isTy_s, isTy_l, Option.isSome_some, and_self, fSlice, pNone, pSome, ws_sFor, fiSeq, fiRng1, fiRng2, wp_fLc, wp_outI_some, wp_rng1, wp_rng2, oEq_int, oNe_int, oEq_str, oNe_str, oEq_bl, oIs_non, oIsNot_non, isNon_non, isNon_int, isNon_bl, isNon_str, isNon_tup, isNon_ref, tru_non, tru_bl, tru_int, tru_tup, lenG_tup, oLt_str, oNotIn_str, oIn_str, seqG_tup, seqG_ref, iSeqG_tup, fiEnumA, iEnumGA_tup, iEnumGA_str, fiZip, Bool.false_or, Bool.true_or, Bool.or_false, Bool.or_true, Bool.false_and, Bool.true_and, Bool.and_false, Bool.and_true, Bool.or_eq_false_iff, Bool.not_eq_true', Bool.not_eq_false', nList, nTuple, oAdd_int, line, Bool.or_eq_true, Bool.and_eq_true, Bool.not_eq_true, es]
    have : s.length = m.toNat := by rw [ls, hy]; simp [rngT]
    exact k s S3 hs (by omega) (by omega) (s1.trans (s2.trans s3))
abbrev signs : Str := "ABZMz`{09-_. /@*\n\\"
theorem w_sign (hb : Box S b) (k : ∀ c S', Stp b S S' → Q (.str ⟨#[c]⟩) S') : wp (g_law_sign [.ref b] S) Q E := by
  unfold g_law_sign
  refine wp_def rfl ?_
  unfold g_law_sign_b
  simp only [startE, List.map_cons, List.map_nil, List.length_cons, List.length_nil, List.replicate, List.cons_append, List.nil_append, Nat.reduceAdd, Nat.reduceSub, Nat.zero_add]
  try simp -implicitDefEqProofs only [startE, OutS.toOut, sNext, sIf, sAsg, sRet, sRetN, sExpr, sBreak, sCont, sPar, par2, sAug, sRaise, fVar, fC, tyN, isi_NoneType_bool, isi_NoneType_int, isi_NoneType_str, isi_NoneType_tuple, isi_NoneType_list, isi_bool_bool, isi_bool_int, isi_bool_str, isi_bool_tuple, isi_bool_list, isi_int_bool, isi_int_int, isi_int_str, isi_int_tuple, isi_int_list, isi_str_bool, isi_str_int, isi_str_str, isi_str_tuple, isi_str_list, isi_tuple_bool, isi_tuple_int, isi_tuple_str, isi_tuple_tuple, isi_tuple_list, isi_list_bool, isi_list_int, isi_list_str, isi_list_tuple, isi_list_list, fBin, fCall, fNat, fIsi, fTru, fBl, fNotT, fAndT, fOrT, fAndV, fOrV, fNotV, fIf, fTup, fLst, fNeg, aNil, aCons, gNm, gSb, gTpT, gNms, blOf, o2I, n1I, n2I, nLen_eq, oSub, oMod, oDiv, oGt, oGe, oLe, oLt, pw10_4, pw10_6, pw10_9, pw10_12, pw10_18, pw10_20, pw10_30, pw10_40, pw2_32, pw2_63, pw2_64, List.length_cons, List.length_nil, List.map_cons, List.map_nil, List.getElem?_cons_zero, List.getElem?_cons_succ, List.set_cons_zero, List.set_cons_succ, List.replicate, List.cons_append, List.nil_append, List.append_nil, Option.map_some, Option.map_none, id, ite_true, ite_false, if_true, if_false, Nat.zero_add, Nat.reduceAdd, Nat.reduceSub, Nat.reduceLeDiff, Bool.not_true, Bool.not_false, Bool.false_eq_true, reduceIte, reduceCtorEq, Int.reduceLT, Int.reduceLE, Int.reduceEq, Int.reduceNe, Nat.reduceLT, Nat.reduceEqDiff, decide_true, decide_false, Int.reduceAdd, Int.reduceSub, Int.reduceNeg, Int.reducePow, Int.reduceMul, Int.reduceToNat, wp_ok, wp_exc, wp_bad, wp_bind, bind_ok, wp_of, wr_some, wr_ite, of_some, tst_some, and_ok, or_ok, ws_nx, ws_rt, ws_bk, ws_ct, ws_exc, ws_then, wp_ite, ws_ite, decide_eq_true_eq, decide_eq_false_iff_not, true_implies, false_implies, implies_true, not_true_eq_false, not_false_eq_true, true_and, and_true, forall_const, fMeth, isTy_s, isTy_l, Option.isSome_some, and_self, fSlice, pNone, pSome, ws_sFor, fiSeq, fiRng1, fiRng2, wp_fLc, wp_outI_some, wp_rng1, wp_rng2, oEq_int, oNe_int, oEq_str, oNe_str, oEq_bl, oIs_non, oIsNot_non, isNon_non, isNon_int, isNon_bl, isNon_str, isNon_tup, isNon_ref, tru_non, tru_bl, tru_int, tru_tup, lenG_tup, oLt_str, oNotIn_str, oIn_str, seqG_tup, seqG_ref, iSeqG_tup, fiEnumA, iEnumGA_tup, iEnumGA_str, fiZip, Bool.false_or, Bool.true_or, Bool.or_false, Bool.or_true, Bool.false_and, Bool.true_and, Bool.and_false, Bool.and_true, Bool.or_eq_false_iff, Bool.not_eq_true', Bool.not_eq_false', nList, nTuple, oAdd_int, line, Bool.or_eq_true, Bool.and_eq_true, Bool.not_eq_true]
  refine w_pickl hb (k := fun x S1 hx s1 => ?_)
  obtain ⟨m, rfl, m1, m2⟩ := ints_of hx (lo := 0) (hi := 17) (by decide)
  obtain ⟨j, rfl⟩ := Int.eq_ofNat_of_zero_le m1
  have hl : signs.length = 18 := by decide +kernel
  have hj : j < signs.cps.toList.length := by rw [← len_list, hl]; omega
  have hx := ix_str (S := S1) (x := signs) (by rw [hl]; decide) (List.getElem?_eq_getElem hj)
  have hx : oIx (.str "ABZMz`{09-_. /@*\n\\") (.int (j : Int)) S1 = some (.str ⟨#[signs.cps.toList[j]]⟩, S1) := hx
  simp -implicitDefEqProofs only [startE, OutS.toOut, sNext, sIf, sAsg, sRet, sRetN, sExpr, sBreak, sCont, sPar, par2, sAug, sRaise, fVar, fC, tyN, isi_NoneType_bool, isi_NoneType_int, isi_NoneType_str, isi_NoneType_tuple, isi_NoneType_list, isi_bool_bool, isi_bool_int, isi_bool_str, isi_bool_tuple, isi_bool_list, isi_int_bool, isi_int_int, isi_int_str, isi_int_tuple, isi_int_list, isi_str_bool, isi_str_int, isi_str_str, isi_str_tuple, isi_str_list, isi_tuple_bool, isi_tuple_int, isi_tuple_str, isi_tuple_tuple, isi_tuple_list, isi_list_bool, isi_list_int, isi_list_str, isi_list_tuple, isi_list_list, fBin, fCall, fNat, fIsi, fTru, fBl, fNotT, fAndT, fOrT, fAndV, fOrV, fNotV, fIf, fTup, fLst, fNeg, aNil, aCons, gNm, gSb, gTpT, gNms, blOf, o2I, n1I, n2I, nLen_eq, oSub, oMod, oDiv, oGt, oGe, oLe, oLt, pw10_4, pw10_6, pw10_9, pw10_12, pw10_18, pw10_20, pw10_30, pw10_40, pw2_32, pw2_63, pw2_64, List.length_cons, List.length_nil, List.map_cons, List.map_nil, List.getElem?_cons_zero, List.getElem?_cons_succ, List.set_cons_zero, List.set_cons_succ, List.replicate, List.cons_append, List.nil_append, List.append_nil, Option.map_some, Option.map_none, id, ite_true, ite_false, if_true, if_false, Nat.zero_add, Nat.reduceAdd, Nat.reduceSub, Nat.reduceLeDiff, Bool.not_true, Bool.not_false, Bool.false_eq_true, reduceIte, reduceCtorEq, Int.reduceLT, Int.reduceLE, Int.reduceEq, Int.reduceNe, Nat.reduceLT, Nat.reduceEqDiff, decide_true, decide_false, Int.reduceAdd, Int.reduceSub, Int.reduceNeg, Int.reducePow, Int.reduceMul, Int.reduceToNat, wp_ok, wp_exc, wp_bad, wp_bind, bind_ok, wp_of, wr_some, wr_ite, of_some, tst_some, and_ok, or_ok, ws_nx, ws_rt, ws_bk, ws_ct, ws_exc, ws_then, wp_ite, ws_ite, decide_eq_true_eq, decide_eq_false_iff_not, true_implies, false_implies, implies_true, not_true_eq_false, not_false_eq_true, true_and, and_true, forall_const, fMeth, isTy_s, isTy_l, Option.isSome_some, and_self, fSlice, pNone, pSome, ws_sFor, fiSeq, fiRng1, fiRng2, wp_fLc, wp_outI_some, wp_rng1, wp_rng2, oEq_int, oNe_int, oEq_str, oNe_str, oEq_bl, oIs_non, oIsNot_non, isNon_non, isNon_int, isNon_bl, isNon_str, isNon_tup, isNon_ref, tru_non, tru_bl, tru_int, tru_tup, lenG_tup, oLt_str, oNotIn_str, oIn_str, seqG_tup, seqG_ref, iSeqG_tup, fiEnumA, iEnumGA_tup, iEnumGA_str, fiZip, Bool.false_or, Bool.true_or, Bool.or_false, Bool.or_true, Bool.false_and, Bool.true_and, Bool.and_false, Bool.and_true, Bool.or_eq_false_iff, Bool.not_eq_true', Bool.not_eq_false', nList, nTuple, oAdd_int, line, Bool.or_eq_true, Bool.and_eq_true, Bool.not_eq_true, hx]
  exact k _ _ s1
theorem w_bent {z : Str} (hb : Box S b) (h1z : 1 ≤ z.length) (hz : z.length ≤ 8) (k : ∀ y S', y.length ≤ 1000 → Stp b S S' → Q (.str y) S') : wp (g_law_bent [.ref b, .str z] S) Q E := by
  have hl : z.length ≤ line := Nat.le_trans hz (by decide)
  have hcut : ∀ lo hi, (L2.cutS z lo hi).length ≤ 8 := fun lo hi => Nat.le_trans (cut_len z lo hi) hz
  unfold g_law_bent
  refine wp_def rfl ?_
  unfold g_law_bent_b
  simp only [startE, List.map_cons, List.map_nil, List.length_cons, List.length_nil, List.replicate, List.cons_append, List.nil_append, Nat.reduceAdd, Nat.reduceSub, Nat.zero_add]
  refine ws_seq ?_
  try simp -implicitDefEqProofs only [startE, OutS.toOut, sNext, sIf, sAsg, sRet, sRetN, sExpr, sBreak, sCont, sPar, par2, sAug, sRaise, fVar, fC, tyN, isi_NoneType_bool, isi_NoneType_int, isi_NoneType_str, isi_NoneType_tuple, isi_NoneType_list, isi_bool_bool, isi_bool_int, isi_bool_str, isi_bool_tuple, isi_bool_list, isi_int_bool, isi_int_int, isi_int_str, isi_int_tuple, isi_int_list, isi_str_bool, isi_str_int, isi_str_str, isi_str_tuple, isi_str_list, isi_tuple_bool, isi_tuple_int, isi_tuple_str, isi_tuple_tuple, isi_tuple_list, isi_list_bool, isi_list_int, isi_list_str, isi_list_tuple, isi_list_list, fBin, fCall, fNat, fIsi, fTru, fBl, fNotT, fAndT, fOrT, fAndV, fOrV, fNotV, fIf, fTup, fLst, fNeg, aNil, aCons, gNm, gSb, gTpT, gNms, blOf, o2I, n1I, n2I, nLen_eq, oSub, oMod, oDiv, oGt, oGe, oLe, oLt, pw10_4, pw10_6, pw10_9, pw10_12, pw10_18, pw10_20, pw10_30, pw10_40, pw2_32, pw2_63, pw2_64, List.length_cons, List.length_nil, List.map_cons, List.map_nil, List.getElem?_cons_zero, List.getElem?_cons_succ, List.set_cons_zero, List.set_cons_succ, List.replicate, List.cons_append, List.nil_append, List.append_nil, Option.map_some, Option.map_none, id, ite_true, ite_false, if_true, if_false, Nat.zero_add, Nat.reduceAdd, Nat.reduceSub, Nat.reduceLeDiff, Bool.not_true, Bool.not_false, Bool.false_eq_true, reduceIte, reduceCtorEq, Int.reduceLT, Int.reduceLE, Int.reduceEq, Int.reduceNe, Nat.reduceLT, Nat.reduceEqDiff, decide_true, decide_false, Int.reduceAdd, Int.reduceSub, Int.reduceNeg, Int.reducePow, Int.reduceMul, Int.reduceToNat, wp_ok, wp_exc, wp_bad, wp_bind, bind_ok, wp_of, wr_some, wr_ite, of_some, tst_some, and_ok, or_ok, ws_nx, ws_rt, ws_bk, ws_ct, ws_exc, ws_then, wp_ite, ws_ite, decide_eq_true_eq, decide_eq_false_iff_not, true_implies, false_implies, implies_true, not_true_eq_false, not_false_eq_true, true_and, and_true, forall_const, fMeth, isTy_s, isTy_l, Option.isSome_some, and_self, fSlice, pNone, pSome, ws_sFor, fiSeq, fiRng1, fiRng2, wp_fLc, wp_outI_some, wp_rng1, wp_rng2, oEq_int, oNe_int, oEq_str, oNe_str, oEq_bl, oIs_non, oIsNot_non, isNon_non, isNon_int, isNon_bl, isNon_str, isNon_tup, isNon_ref, tru_non, tru_bl, tru_int, tru_tup, lenG_tup, oLt_str, oNotIn_str, oIn_str, seqG_tup, seqG_ref, iSeqG_tup, fiEnumA, iEnumGA_tup, iEnumGA_str, fiZip, Bool.false_or, Bool.true_or, Bool.or_false, Bool.or_true, Bool.false_and, Bool.true_and, Bool.and_false, Bool.and_true, Bool.or_eq_false_iff, Bool.not_eq_true', Bool.not_eq_false', nList, nTuple, oAdd_int, line, Bool.or_eq_true, Bool.and_eq_true, Bool.not_eq_true]
  refine w_take hb (by decide) fun d S1 d0 d1 s1 => ?_
  simp -implicitDefEqProofs only [startE, OutS.toOut, sNext, sIf, sAsg, sRet, sRetN, sExpr, sBreak, sCont, sPar, par2, sAug, sRaise, fVar, fC, tyN, isi_NoneType_bool, isi_NoneType_int, isi_NoneType_str, isi_NoneType_tuple, isi_NoneType_list, isi_bool_bool, isi_bool_int, isi_bool_str, isi_bool_tuple, isi_bool_list, isi_int_bool, isi_int_int, isi_int_str, isi_int_tuple, isi_int_list, isi_str_bool, isi_str_int, isi_str_str, isi_str_tuple, isi_str_list, isi_tuple_bool, isi_tuple_int, isi_tuple_str, isi_tuple_tuple, isi_tuple_list, isi_list_bool, isi_list_int, isi_list_str, isi_list_tuple, isi_list_list, fBin, fCall, fNat, fIsi, fTru, fBl, fNotT, fAndT, fOrT, fAndV, fOrV, fNotV, fIf, fTup, fLst, fNeg, aNil, aCons, gNm, gSb, gTpT, gNms, blOf, o2I, n1I, n2I, nLen_eq, oSub, oMod, oDiv, oGt, oGe, oLe, oLt, pw10_4, pw10_6, pw10_9, pw10_12, pw10_18, pw10_20, pw10_30, pw10_40, pw2_32, pw2_63, pw2_64, List.length_cons, List.length_nil, List.map_cons, List.map_nil, List.getElem?_cons_zero, List.getElem?_cons_succ, List.set_cons_zero, List.set_cons_succ, List.replicate, List.cons_append, List.nil_append, List.append_nil, Option.map_some, Option.map_none, id, ite_true, ite_false, if_true, if_false, Nat.zero_add, Nat.reduceAdd, Nat.reduceSub, Nat.reduceLeDiff, Bool.not_true, Bool.not_false, Bool.false_eq_true, reduceIte, reduceCtorEq, Int.reduceLT, Int.reduceLE, Int.reduceEq, Int.reduceNe, Nat.reduceLT, Nat.reduceEqDiff, decide_true, decide_false, Int.reduceAdd, Int.reduceSub, Int.reduceNeg, Int.reducePow, Int.reduceMul, Int.reduceToNat, wp_ok, wp_exc, wp_bad, wp_bind, bind_ok, wp_of, wr_some, wr_ite, of_some, tst_some, and_ok, or_ok, ws_nx, ws_rt, ws_bk, ws_ct, ws_exc, ws_then, wp_ite, ws_ite, decide_eq_true_eq, decide_eq_false_iff_not, true_implies, false_implies, implies_true, not_true_eq_false, not_false_eq_true, true_and, and_true, forall_const, fMeth, isTy_s, isTy_l, Option.isSome_some, and_self, fSlice, pNone, pSome, ws_sFor, fiSeq, fiRng1, fiRng2, wp_fLc, wp_outI_some, wp_rng1, wp_rng2, oEq_int, oNe_int, oEq_str, oNe_str, oEq_bl, oIs_non, oIsNot_non, isNon_non, isNon_int, isNon_bl, isNon_str, isNon_tup, isNon_ref, tru_non, tru_bl, tru_int, tru_tup, lenG_tup, oLt_str, oNotIn_str, oIn_str, seqG_tup, seqG_ref, iSeqG_tup, fiEnumA, iEnumGA_tup, iEnumGA_str, fiZip, Bool.false_or, Bool.true_or, Bool.or_false, Bool.or_true, Bool.false_and, Bool.true_and, Bool.and_false, Bool.and_true, Bool.or_eq_false_iff, Bool.not_eq_true', Bool.not_eq_false', nList, nTuple, oAdd_int, line, Bool.or_eq_true, Bool.and_eq_true, Bool.not_eq_true, len_str hl, oAdd_int]
  refine w_take (s1.box hb) (by omega) fun e S2 e0 e1 s2 => ?_
  refine ws_seq ?_
  try simp -implicitDefEqProofs only [startE, OutS.toOut, sNext, sIf, sAsg, sRet, sRetN, sExpr, sBreak, sCont, sPar, par2, sAug, sRaise, fVar, fC, tyN, isi_NoneType_bool, isi_NoneType_int, isi_NoneType_str, isi_NoneType_tuple, isi_NoneType_list, isi_bool_bool, isi_bool_int, isi_bool_str, isi_bool_tuple, isi_bool_list, isi_int_bool, isi_int_int, isi_int_str, isi_int_tuple, isi_int_list, isi_str_bool, isi_str_int, isi_str_str, isi_str_tuple, isi_str_list, isi_tuple_bool, isi_tuple_int, isi_tuple_str, isi_tuple_tuple, isi_tuple_list, isi_list_bool, isi_list_int, isi_list_str, isi_list_tuple, isi_list_list, fBin, fCall, fNat, fIsi, fTru, fBl, fNotT, fAndT, fOrT, fAndV, fOrV, fNotV, fIf, fTup, fLst, fNeg, aNil, aCons, gNm, gSb, gTpT, gNms, blOf, o2I, n1I, n2I, nLen_eq, oSub, oMod, oDiv, oGt, oGe, oLe, oLt, pw10_4, pw10_6, pw10_9, pw10_12, pw10_18, pw10_20, pw10_30, pw10_40, pw2_32, pw2_63, pw2_64, List.length_cons, List.length_nil, List.map_cons, List.map_nil, List.getElem?_cons_zero, List.getElem?_cons_succ, List.set_cons_zero, List.set_cons_succ, List.replicate, List.cons_append, List.nil_append, List.append_nil, Option.map_some, Option.map_none, id, ite_true, ite_false, if_true, if_false, Nat.zero_add, Nat.reduceAdd, Nat.reduceSub, Nat.reduceLeDiff, Bool.not_true, Bool.not_false, Bool.false_eq_true, reduceIte, reduceCtorEq, Int.reduceLT, Int.reduceLE, Int.reduceEq, Int.reduceNe, Nat.reduceLT, Nat.reduceEqDiff, decide_true, decide_false, Int.reduceAdd, Int.reduceSub, Int.reduceNeg, Int.reducePow, Int.reduceMul, Int.reduceToNat, wp_ok, wp_exc, wp_bad, wp_bind, bind_ok, wp_of, wr_some, wr_ite, of_some, tst_some, and_ok, or_ok, ws_nx, ws_rt, ws_bk, ws_ct, ws_exc, ws_then, wp_ite, ws_ite, decide_eq_true_eq, decide_eq_false_iff_not, true_implies, false_implies, implies_true, not_true_eq_false, not_false_eq_true, true_and, and_true, forall_const, fMeth, isTy_s, isTy_l, Option.isSome_some, and_self, fSlice, pNone, pSome, ws_sFor, fiSeq, fiRng1, fiRng2, wp_fLc, wp_outI_some, wp_rng1, wp_rng2, oEq_int, oNe_int, oEq_str, oNe_str, oEq_bl, oIs_non, oIsNot_non, isNon_non, isNon_int, isNon_bl, isNon_str, isNon_tup, isNon_ref, tru_non, tru_bl, tru_int, tru_tup, lenG_tup, oLt_str, oNotIn_str, oIn_str, seqG_tup, seqG_ref, iSeqG_tup, fiEnumA, iEnumGA_tup, iEnumGA_str, fiZip, Bool.false_or, Bool.true_or, Bool.or_false, Bool.or_true, Bool.false_and, Bool.true_and, Bool.and_false, Bool.and_true, Bool.or_eq_false_iff, Bool.not_eq_true', Bool.not_eq_false', nList, nTuple, oAdd_int, line, Bool.or_eq_true, Bool.and_eq_true, Bool.not_eq_true]
  refine ⟨fun h => ?_, fun h => ?_⟩
  · simp -implicitDefEqProofs only [startE, OutS.toOut, sNext, sIf, sAsg, sRet, sRetN, sExpr, sBreak, sCont, sPar, par2, sAug, sRaise, fVar, fC, tyN, isi_NoneType_bool, isi_NoneType_int, isi_NoneType_str, isi_NoneType_tuple, isi_NoneType_list, isi_bool_bool, isi_bool_int, isi_bool_str, isi_bool_tuple, isi_bool_list, isi_int_bool, isi_int_int, isi_int_str, isi_int_tuple, isi_int_list, isi_str_bool, isi_str_int, isi_str_str, isi_str_tuple, isi_str_list, isi_tuple_bool, isi_tuple_int, isi_tuple_str, isi_tuple_tuple, isi_tuple_list, isi_list_bool, isi_list_int, isi_list_str, isi_list_tuple, isi_list_list, fBin, fCall, fNat, fIsi, fTru, fBl, fNotT, fAndT, fOrT, fAndV, fOrV, fNotV, fIf, fTup, fLst, fNeg, aNil, aCons, gNm, gSb, gTpT, gNms, blOf, o2I, n1I, n2I, nLen_eq, oSub, oMod, oDiv, oGt, oGe, oLe, oLt, pw10_4, pw10_6, pw10_9, pw10_12, pw10_18, pw10_20, pw10_30, pw10_40, pw2_32, pw2_63, pw2_64, List.length_cons, List.length_nil, List.map_cons, List.map_nil, List.getElem?_cons_zero, List.getElem?_cons_succ, List.set_cons_zero, List.set_cons_succ, List.replicate, List.cons_append, List.nil_append, List.append_nil, Option.map_some, Option.map_none, id, ite_true, ite_false, if_true, if_false, Nat.zero_add, Nat.reduceAdd, Nat.reduceSub, Nat.reduceLeDiff, Bool.not_true, Bool.not_false, Bool.false_eq_true, reduceIte, reduceCtorEq, Int.reduceLT, Int.reduceLE, Int.reduceEq, Int.reduceNe, Nat.reduceLT, Nat.reduceEqDiff, decide_true, decide_false, Int.reduceAdd, Int.reduceSub, Int.reduceNeg, Int.reducePow, Int.reduceMul, Int.reduceToNat, wp_ok, wp_exc, wp_bad, wp_bind, bind_ok, wp_of, wr_some, wr_ite, of_some, tst_some, and_ok, or_ok, ws_nx, ws_rt, ws_bk, ws_ct, ws_exc, ws_then, wp_ite, ws_ite, decide_eq_true_eq, decide_eq_false_iff_not, true_implies, false_implies, implies_true, not_true_eq_false, not_false_eq_true, true_and, and_true, forall_const, fMeth, isTy_s, isTy_l, Option.isSome_some, and_self, fSlice, pNone, pSome, ws_sFor, fiSeq, fiRng1, fiRng2, wp_fLc, wp_outI_some, wp_rng1, wp_rng2, oEq_int, oNe_int, oEq_str, oNe_str, oEq_bl, oIs_non, oIsNot_non, isNon_non, isNon_int, isNon_bl, isNon_str, isNon_tup, isNon_ref, tru_non, tru_bl, tru_int, tru_tup, lenG_tup, oLt_str, oNotIn_str, oIn_str, seqG_tup, seqG_ref, iSeqG_tup, fiEnumA, iEnumGA_tup, iEnumGA_str, fiZip, Bool.false_or, Bool.true_or, Bool.or_false, Bool.or_true, Bool.false_and, Bool.true_and, Bool.and_false, Bool.and_true, Bool.or_eq_false_iff, Bool.not_eq_true', Bool.not_eq_false', nList, nTuple, oAdd_int, line, Bool.or_eq_true, Bool.and_eq_true, Bool.not_eq_true, slice_str hl]
    refine w_sign (s2.box (s1.box hb)) fun c S3 s3 => ?_
    have h1 := hcut none (some e)
    have h2 := hcut (some (e + d)) none
    simp -implicitDefEqProofs only [startE, OutS.toOut, sNext, sIf, sAsg, sRet, sRetN, sExpr, sBreak, sCont, sPar, par2, sAug, sRaise, fVar, fC, tyN, isi_NoneType_bool, isi_NoneType_int, isi_NoneType_str, isi_NoneType_tuple, isi_NoneType_list, isi_bool_bool, isi_bool_int, isi_bool_str, isi_bool_tuple, isi_bool_list, isi_int_bool, isi_int_int, isi_int_str, isi_int_tuple, isi_int_list, isi_str_bool, isi_str_int, isi_str_str, isi_str_tuple, isi_str_list, isi_tuple_bool, isi_tuple_int, isi_tuple_str, isi_tuple_tuple, isi_tuple_list, isi_list_bool, isi_list_int, isi_list_str, isi_list_tuple, isi_list_list, fBin, fCall, fNat, fIsi, fTru, fBl, fNotT, fAndT, fOrT, fAndV, fOrV, fNotV, fIf, fTup, fLst, fNeg, aNil, aCons, gNm, gSb, gTpT, gNms, blOf, o2I, n1I, n2I, nLen_eq, oSub, oMod, oDiv, oGt, oGe, oLe, oLt, pw10_4, pw10_6, pw10_9, pw10_12, pw10_18, pw10_20, pw10_30, pw10_40, pw2_32, pw2_63, pw2_64, List.length_cons, List.length_nil, List.map_cons, List.map_nil, List.getElem?_cons_zero, List.getElem?_cons_succ, List.set_cons_zero, List.set_cons_succ, List.replicate, List.cons_append, List.nil_append, List.append_nil, Option.map_some, Option.map_none, id, ite_true, ite_false, if_true, if_false, Nat.zero_add, Nat.reduceAdd, Nat.reduceSub, Nat.reduceLeDiff, Bool.not_true, Bool.not_false, Bool.false_eq_true, reduceIte, reduceCtorEq, Int.reduceLT, Int.reduceLE, Int.reduceEq, Int.reduceNe, Nat.reduceLT, Nat.reduceEqDiff, decide_true, decide_false, Int.reduceAdd, Int.reduceSub, Int.reduceNeg, Int.reducePow, Int.reduceMul, Int.reduceToNat, wp_ok, wp_exc, wp_bad, wp_bind, bind_ok, wp_of, wr_some, wr_ite, of_some, tst_some, and_ok, or_ok, ws_nx, ws_rt, ws_bk, ws_ct, ws_exc, ws_then, wp_ite, ws_ite, decide_eq_true_eq, decide_eq_false_iff_not, true_implies, false_implies, implies_true, not_true_eq_false, not_false_eq_true, true_and, and_true, forall_const, fMeth, isTy_s, isTy_l, Option.isSome_some, and_self, fSlice, pNone, pSome, ws_sFor, fiSeq, fiRng1, fiRng2, wp_fLc, wp_outI_some, wp_rng1, wp_rng2, oEq_int, oNe_int, oEq_str, oNe_str, oEq_bl, oIs_non, oIsNot_non, isNon_non, isNon_int, isNon_bl, isNon_str, isNon_tup, isNon_ref, tru_non, tru_bl, tru_int, tru_tup, lenG_tup, oLt_str, oNotIn_str, oIn_str, seqG_tup, seqG_ref, iSeqG_tup, fiEnumA, iEnumGA_tup, iEnumGA_str, fiZip, Bool.false_or, Bool.true_or, Bool.or_false, Bool.or_true, Bool.false_and, Bool.true_and, Bool.and_false, Bool.and_true, Bool.or_eq_false_iff, Bool.not_eq_true', Bool.not_eq_false', nList, nTuple, oAdd_int, line, Bool.or_eq_true, Bool.and_eq_true, Bool.not_eq_true, slice_str hl, oAdd_str (x := L2.cutS z none (some e)) (y := ⟨#[c]⟩) (S := S3) (by rw [oneS_len]; unfold line; omega)]
    rw [oAdd_str (by rw [len_append, oneS_len]; unfold line; omega), wr_some]
    exact k _ _ (by rw [len_append, len_append, oneS_len]; omega) (s1.trans (s2.trans s3))
  · refine ws_seq ?_
    try simp -implicitDefEqProofs only [startE, OutS.toOut, sNext, sIf, sAsg, sRet, sRetN, sExpr, sBreak, sCont, sPar, par2, sAug, sRaise, fVar, fC, tyN, isi_NoneType_bool, isi_NoneType_int, isi_NoneType_str, isi_NoneType_tuple, isi_NoneType_list, isi_bool_bool, isi_bool_int, isi_bool_str, isi_bool_tuple, isi_bool_list, isi_int_bool, isi_int_int, isi_int_str, isi_int_tuple, isi_int_list, isi_str_bool, isi_str_int, isi_str_str, isi_str_tuple, isi_str_list, isi_tuple_bool, isi_tuple_int, isi_tuple_str, isi_tuple_tuple, isi_tuple_list, isi_list_bool, isi_list_int, isi_list_str, isi_list_tuple, isi_list_list, fBin, fCall, fNat, fIsi, fTru, fBl, fNotT, fAndT, fOrT, fAndV, fOrV, fNotV, fIf, fTup, fLst, fNeg, aNil, aCons, gNm, gSb, gTpT, gNms, blOf, o2I, n1I, n2I, nLen_eq, oSub, oMod, oDiv, oGt, oGe, oLe, oLt, pw10_4, pw10_6, pw10_9, pw10_12, pw10_18, pw10_20, pw10_30, pw10_40, pw2_32, pw2_63, pw2_64, List.length_cons, List.length_nil, List.map_cons, List.map_nil, List.getElem?_cons_zero, List.getElem?_cons_succ, List.set_cons_zero, List.set_cons_succ, List.replicate, List.cons_append, List.nil_append, List.append_nil, Option.map_some, Option.map_none, id, ite_true, ite_false, if_true, if_false, Nat.zero_add, Nat.reduceAdd, Nat.reduceSub, Nat.reduceLeDiff, Bool.not_true, Bool.not_false, Bool.false_eq_true, reduceIte, reduceCtorEq, Int.reduceLT, Int.reduceLE, Int.reduceEq, Int.reduceNe, Nat.reduceLT, Nat.reduceEqDiff, decide_true, decide_false, Int.reduceAdd, Int.reduceSub, Int.reduceNeg, Int.reducePow, Int.reduceMul, Int.reduceToNat, wp_ok, wp_exc, wp_bad, wp_bind, bind_ok, wp_of, wr_some, wr_ite, of_some, tst_some, and_ok, or_ok, ws_nx, ws_rt, ws_bk, ws_ct, ws_exc, ws_then, wp_ite, ws_ite, decide_eq_true_eq, decide_eq_false_iff_not, true_implies, false_implies, implies_true, not_true_eq_false, not_false_eq_true, true_and, and_true, forall_const, fMeth, isTy_s, isTy_l, Option.isSome_some, and_self, fSlice, pNone, pSome, ws_sFor, fiSeq, fiRng1, fiRng2, wp_fLc, wp_outI_some, wp_rng1, wp_rng2, oEq_int, oNe_int, oEq_str, oNe_str, oEq_bl, oIs_non, oIsNot_non, isNon_non, isNon_int, isNon_bl, isNon_str, isNon_tup, isNon_ref, tru_non, tru_bl, tru_int, tru_tup, lenG_tup, oLt_str, oNotIn_str, oIn_str, seqG_tup, seqG_ref, iSeqG_tup, fiEnumA, iEnumGA_tup, iEnumGA_str, fiZip, Bool.false_or, Bool.true_or, Bool.or_false, Bool.or_true, Bool.false_and, Bool.true_and, Bool.and_false, Bool.and_true, Bool.or_eq_false_iff, Bool.not_eq_true', Bool.not_eq_false', nList, nTuple, oAdd_int, line, Bool.or_eq_true, Bool.and_eq_true, Bool.not_eq_true]
    refine ⟨fun h2 => ?_, fun h2 => ?_⟩
    · simp -implicitDefEqProofs only [startE, OutS.toOut, sNext, sIf, sAsg, sRet, sRetN, sExpr, sBreak, sCont, sPar, par2, sAug, sRaise, fVar, fC, tyN, isi_NoneType_bool, isi_NoneType_int, isi_NoneType_str, isi_NoneType_tuple, isi_NoneType_list, isi_bool_bool, isi_bool_int, isi_bool_str, isi_bool_tuple, isi_bool_list, isi_int_bool, isi_int_int, isi_int_str, isi_int_tuple, isi_int_list, isi_str_bool, isi_str_int, isi_str_str, isi_str_tuple, isi_str_list, isi_tuple_bool, isi_tuple_int, isi_tuple_str, isi_tuple_tuple, isi_tuple_list, isi_list_bool, isi_list_int, isi_list_str, isi_list_tuple, isi_list_list, fBin, fCall, fNat, fIsi, fTru, fBl, fNotT, fAndT, fOrT, fAndV, fOrV, fNotV, fIf, fTup, fLst, fNeg, aNil, aCons, gNm, gSb, gTpT, gNms, blOf, o2I, n1I, n2I, nLen_eq, oSub, oMod, oDiv, oGt, oGe, oLe, oLt, pw10_4, pw10_6, pw10_9, pw10_12, pw10_18, pw10_20, pw10_30, pw10_40, pw2_32, pw2_63, pw2_64, List.length_cons, List.length_nil, List.map_cons, List.map_nil, List.getElem?_cons_zero, List.getElem?_cons_succ, List.set_cons_zero, List.set_cons_succ, List.replicate, List.cons_append, List.nil_append, List.append_nil, Option.map_some, Option.map_none, id, ite_true, ite_false, if_true, if_false, Nat.zero_add, Nat.reduceAdd, Nat.reduceSub, Nat.reduceLeDiff, Bool.not_true, Bool.not_false, Bool.false_eq_true, reduceIte, reduceCtorEq, Int.reduceLT, Int.reduceLE, Int.reduceEq, Int.reduceNe, Nat.reduceLT, Nat.reduceEqDiff, decide_true, decide_false, Int.reduceAdd, Int.reduceSub, Int.reduceNeg, Int.reducePow, Int.reduceMul, Int.reduceToNat, wp_ok, wp_exc, wp_bad, wp_bind, bind_ok, wp_of, wr_some, wr_ite, of_some, tst_some, and_ok, or_ok, ws_nx, ws_rt, ws_bk, ws_ct, ws_exc, ws_then, wp_ite, ws_ite, decide_eq_true_eq, decide_eq_false_iff_not, true_implies, false_implies, implies_true, not_true_eq_false, not_false_eq_true, true_and, and_true, forall_const, fMeth, isTy_s, isTy_l, Option.isSome_some, and_self, fSlice, pNone, pSome, ws_sFor, fiSeq, fiRng1, fiRng2, wp_fLc, wp_outI_some, wp_rng1, wp_rng2, oEq_int, oNe_int, oEq_str, oNe_str, oEq_bl, oIs_non, oIsNot_non, isNon_non, isNon_int, isNon_bl, isNon_str, isNon_tup, isNon_ref, tru_non, tru_bl, tru_int, tru_tup, lenG_tup, oLt_str, oNotIn_str, oIn_str, seqG_tup, seqG_ref, iSeqG_tup, fiEnumA, iEnumGA_tup, iEnumGA_str, fiZip, Bool.false_or, Bool.true_or, Bool.or_false, Bool.or_true, Bool.false_and, Bool.true_and, Bool.and_false, Bool.and_true, Bool.or_eq_false_iff, Bool.not_eq_true', Bool.not_eq_false', nList, nTuple, oAdd_int, line, Bool.or_eq_true, Bool.and_eq_true, Bool.not_eq_true, len_str hl]
      refine w_pickl (s2.box (s1.box hb)) (k := fun x S3 hx s3 => ?_)
      have hx : ∃ i, x = .int i ∧ 0 ≤ i ∧ i ≤ 12 := by
        simp only [List.mem_cons, List.mem_nil_iff, or_false] at hx
        rcases hx with rfl | rfl | rfl | rfl | rfl <;> exact ⟨_, rfl, by omega, by omega⟩
      obtain ⟨m, rfl, m0, m1⟩ := hx
      have hm := PyProof.Rows.len_mul_leN (x := ("a" : Str)) (n := m) (L := 1) (N := 12) (by decide) (by omega)
      have ea : ("a" : Str).length = 1 := by decide
      have e1 : oMulS (.str (Str.ofString "a")) (.int m) S3 = some (.str (Txt.mul "a" m), S3) := by
        show (if -(2 ^ 63) ≤ m ∧ m < 2 ^ 63 ∧ ("a" : Str).length * m.toNat ≤ line then some (T.str (Txt.mul "a" m), S3) else none) = _
        rw [if_pos ⟨by omega, by omega, by rw [ea]; unfold line; omega⟩]
      simp -implicitDefEqProofs only [startE, OutS.toOut, sNext, sIf, sAsg, sRet, sRetN, sExpr, sBreak, sCont, sPar, par2, sAug, sRaise, fVar, fC, tyN, isi_NoneType_bool, isi_NoneType_int, isi_NoneType_str, isi_NoneType_tuple, isi_NoneType_list, isi_bool_bool, isi_bool_int, isi_bool_str, isi_bool_tuple, isi_bool_list, isi_int_bool, isi_int_int, isi_int_str, isi_int_tuple, isi_int_list, isi_str_bool, isi_str_int, isi_str_str, isi_str_tuple, isi_str_list, isi_tuple_bool, isi_tuple_int, isi_tuple_str, isi_tuple_tuple, isi_tuple_list, isi_list_bool, isi_list_int, isi_list_str, isi_list_tuple, isi_list_list, fBin, fCall, fNat, fIsi, fTru, fBl, fNotT, fAndT, fOrT, fAndV, fOrV, fNotV, fIf, fTup, fLst, fNeg, aNil, aCons, gNm, gSb, gTpT, gNms, blOf, o2I, n1I, n2I, nLen_eq, oSub, oMod, oDiv, oGt, oGe, oLe, oLt, pw10_4, pw10_6, pw10_9, pw10_12, pw10_18, pw10_20, pw10_30, pw10_40, pw2_32, pw2_63, pw2_64, List.length_cons, List.length_nil, List.map_cons, List.map_nil, List.getElem?_cons_zero, List.getElem?_cons_succ, List.set_cons_zero, List.set_cons_succ, List.replicate, List.cons_append, List.nil_append, List.append_nil, Option.map_some, Option.map_none, id, ite_true, ite_false, if_true, if_false, Nat.zero_add, Nat.reduceAdd, Nat.reduceSub, Nat.reduceLeDiff, Bool.not_true, Bool.not_false, Bool.false_eq_true, reduceIte, reduceCtorEq, Int.reduceLT, Int.reduceLE, Int.reduceEq, Int.reduceNe, Nat.reduceLT, Nat.reduceEqDiff, decide_true, decide_false, Int.reduceAdd, Int.reduceSub, Int.reduceNeg, Int.reducePow, Int.reduceMul, Int.reduceToNat, wp_ok, wp_exc, wp_bad, wp_bind, bind_ok, wp_of, wr_some, wr_ite, of_some, tst_some, and_ok, or_ok, ws_nx, ws_rt, ws_bk, ws_ct, ws_exc, ws_then, wp_ite, ws_ite, decide_eq_true_eq, decide_eq_false_iff_not, true_implies, false_implies, implies_true, not_true_eq_false, not_false_eq_true, true_and, and_true, forall_const, fMeth, isTy_s, isTy_l, Option.isSome_some, and_self, fSlice, pNone, pSome, ws_sFor, fiSeq, fiRng1, fiRng2, wp_fLc, wp_outI_some, wp_rng1, wp_rng2, oEq_int, oNe_int, oEq_str, oNe_str, oEq_bl, oIs_non, oIsNot_non, isNon_non, isNon_int, isNon_bl, isNon_str, isNon_tup, isNon_ref, tru_non, tru_bl, tru_int, tru_tup, lenG_tup, oLt_str, oNotIn_str, oIn_str, seqG_tup, seqG_ref, iSeqG_tup, fiEnumA, iEnumGA_tup, iEnumGA_str, fiZip, Bool.false_or, Bool.true_or, Bool.or_false, Bool.or_true, Bool.false_and, Bool.true_and, Bool.and_false, Bool.and_true, Bool.or_eq_false_iff, Bool.not_eq_true', Bool.not_eq_false', nList, nTuple, oAdd_int, line, Bool.or_eq_true, Bool.and_eq_true, Bool.not_eq_true, e1]
      rw [oAdd_str (by unfold line; omega), wr_some]
      exact k _ _ (by rw [len_append]; omega) (s1.trans (s2.trans s3))
    · refine ws_seq ?_
      try simp -implicitDefEqProofs only [startE, OutS.toOut, sNext, sIf, sAsg, sRet, sRetN, sExpr, sBreak, sCont, sPar, par2, sAug, sRaise, fVar, fC, tyN, isi_NoneType_bool, isi_NoneType_int, isi_NoneType_str, isi_NoneType_tuple, isi_NoneType_list, isi_bool_bool, isi_bool_int, isi_bool_str, isi_bool_tuple, isi_bool_list, isi_int_bool, isi_int_int, isi_int_str, isi_int_tuple, isi_int_list, isi_str_bool, isi_str_int, isi_str_str, isi_str_tuple, isi_str_list, isi_tuple_bool, isi_tuple_int, isi_tuple_str, isi_tuple_tuple, isi_tuple_list, isi_list_bool, isi_list_int, isi_list_str, isi_list_tuple, isi_list_list, fBin, fCall, fNat, fIsi, fTru, fBl, fNotT, fAndT, fOrT, fAndV, fOrV, fNotV, fIf, fTup, fLst, fNeg, aNil, aCons, gNm, gSb, gTpT, gNms, blOf, o2I, n1I, n2I, nLen_eq, oSub, oMod, oDiv, oGt, oGe, oLe, oLt, pw10_4, pw10_6, pw10_9, pw10_12, pw10_18, pw10_20, pw10_30, pw10_40, pw2_32, pw2_63, pw2_64, List.length_cons, List.length_nil, List.map_cons, List.map_nil, List.getElem?_cons_zero, List.getElem?_cons_succ, List.set_cons_zero, List.set_cons_succ, List.replicate, List.cons_append, List.nil_append, List.append_nil, Option.map_some, Option.map_none, id, ite_true, ite_false, if_true, if_false, Nat.zero_add, Nat.reduceAdd, Nat.reduceSub, Nat.reduceLeDiff, Bool.not_true, Bool.not_false, Bool.false_eq_true, reduceIte, reduceCtorEq, Int.reduceLT, Int.reduceLE, Int.reduceEq, Int.reduceNe, Nat.reduceLT, Nat.reduceEqDiff, decide_true, decide_false, Int.reduceAdd, Int.reduceSub, Int.reduceNeg, Int.reducePow, Int.reduceMul, Int.reduceToNat, wp_ok, wp_exc, wp_bad, wp_bind, bind_ok, wp_of, wr_some, wr_ite, of_some, tst_some, and_ok, or_ok, ws_nx, ws_rt, ws_bk, ws_ct, ws_exc, ws_then, wp_ite, ws_ite, decide_eq_true_eq, decide_eq_false_iff_not, true_implies, false_implies, implies_true, not_true_eq_false, not_false_eq_true, true_and, and_true, forall_const, fMeth, isTy_s, isTy_l, Option.isSome_some, and_self, fSlice, pNone, pSome, ws_sFor, fiSeq, fiRng1, fiRng2, wp_fLc, wp_outI_some, wp_rng1, wp_rng2, oEq_int, oNe_int, oEq_str, oNe_str, oEq_bl, oIs_non, oIsNot_non, isNon_non, isNon_int, isNon_bl, isNon_str, isNon_tup, isNon_ref, tru_non, tru_bl, tru_int, tru_tup, lenG_tup, oLt_str, oNotIn_str, oIn_str, seqG_tup, seqG_ref, iSeqG_tup, fiEnumA, iEnumGA_tup, iEnumGA_str, fiZip, Bool.false_or, Bool.true_or, Bool.or_false, Bool.or_true, Bool.false_and, Bool.true_and, Bool.and_false, Bool.and_true, Bool.or_eq_false_iff, Bool.not_eq_true', Bool.not_eq_false', nList, nTuple, oAdd_int, line, Bool.or_eq_true, Bool.and_eq_true, Bool.not_eq_true]
      refine ⟨fun h3 => ?_, fun h3 => ?_⟩
      · refine ws_seq ?_
        have eq : (Str.ofString "qrstuvwxyz").length = 10 := by decide +kernel
        simp -implicitDefEqProofs only [startE, OutS.toOut, sNext, sIf, sAsg, sRet, sRetN, sExpr, sBreak, sCont, sPar, par2, sAug, sRaise, fVar, fC, tyN, isi_NoneType_bool, isi_NoneType_int, isi_NoneType_str, isi_NoneType_tuple, isi_NoneType_list, isi_bool_bool, isi_bool_int, isi_bool_str, isi_bool_tuple, isi_bool_list, isi_int_bool, isi_int_int, isi_int_str, isi_int_tuple, isi_int_list, isi_str_bool, isi_str_int, isi_str_str, isi_str_tuple, isi_str_list, isi_tuple_bool, isi_tuple_int, isi_tuple_str, isi_tuple_tuple, isi_tuple_list, isi_list_bool, isi_list_int, isi_list_str, isi_list_tuple, isi_list_list, fBin, fCall, fNat, fIsi, fTru, fBl, fNotT, fAndT, fOrT, fAndV, fOrV, fNotV, fIf, fTup, fLst, fNeg, aNil, aCons, gNm, gSb, gTpT, gNms, blOf, o2I, n1I, n2I, nLen_eq, oSub, oMod, oDiv, oGt, oGe, oLe, oLt, pw10_4, pw10_6, pw10_9, pw10_12, pw10_18, pw10_20, pw10_30, pw10_40, pw2_32, pw2_63, pw2_64, List.length_cons, List.length_nil, List.map_cons, List.map_nil, List.getElem?_cons_zero, List.getElem?_cons_succ, List.set_cons_zero, List.set_cons_succ, List.replicate, List.cons_append, List.nil_append, List.append_nil, Option.map_some, Option.map_none, id, ite_true, ite_false, if_true, if_false, Nat.zero_add, Nat.reduceAdd, Nat.reduceSub, Nat.reduceLeDiff, Bool.not_true, Bool.not_false, Bool.false_eq_true, reduceIte, reduceCtorEq, Int.reduceLT, Int.reduceLE, Int.reduceEq, Int.reduceNe, Nat.reduceLT, Nat.reduceEqDiff, decide_true, decide_false, Int.reduceAdd, Int.reduceSub, Int.reduceNeg, Int.reducePow, Int.reduceMul, Int.reduceToNat, wp_ok, wp_exc, wp_bad, wp_bind, bind_ok, wp_of, wr_some, wr_ite, of_some, tst_some, and_ok, or_ok, ws_nx, ws_rt, ws_bk, ws_ct, ws_exc, ws_then, wp_ite, ws_ite, decide_eq_true_eq, decide_eq_false_iff_not, true_implies, false_implies, implies_true, not_true_eq_false, not_false_eq_true, true_and, and_true, forall_const, fMeth, isTy_s, isTy_l, Option.isSome_some, and_self, fSlice, pNone, pSome, ws_sFor, fiSeq, fiRng1, fiRng2, wp_fLc, wp_outI_some, wp_rng1, wp_rng2, oEq_int, oNe_int, oEq_str, oNe_str, oEq_bl, oIs_non, oIsNot_non, isNon_non, isNon_int, isNon_bl, isNon_str, isNon_tup, isNon_ref, tru_non, tru_bl, tru_int, tru_tup, lenG_tup, oLt_str, oNotIn_str, oIn_str, seqG_tup, seqG_ref, iSeqG_tup, fiEnumA, iEnumGA_tup, iEnumGA_str, fiZip, Bool.false_or, Bool.true_or, Bool.or_false, Bool.or_true, Bool.false_and, Bool.true_and, Bool.and_false, Bool.and_true, Bool.or_eq_false_iff, Bool.not_eq_true', Bool.not_eq_false', nList, nTuple, oAdd_int, line, Bool.or_eq_true, Bool.and_eq_true, Bool.not_eq_true, oAdd_str (x := z) (y := Str.ofString "qrstuvwxyz") (S := S2) (by rw [eq]; unfold line; omega)]
        refine w_take (s2.box (s1.box hb)) (by decide) fun f S3 f0 f1 s3 => ?_
        have hy : (z ++ Str.ofString "qrstuvwxyz").length ≤ 18 := by rw [len_append, eq]; omega
        have hyl : (z ++ Str.ofString "qrstuvwxyz").length ≤ line := Nat.le_trans hy (by decide)
        simp -implicitDefEqProofs only [startE, OutS.toOut, sNext, sIf, sAsg, sRet, sRetN, sExpr, sBreak, sCont, sPar, par2, sAug, sRaise, fVar, fC, tyN, isi_NoneType_bool, isi_NoneType_int, isi_NoneType_str, isi_NoneType_tuple, isi_NoneType_list, isi_bool_bool, isi_bool_int, isi_bool_str, isi_bool_tuple, isi_bool_list, isi_int_bool, isi_int_int, isi_int_str, isi_int_tuple, isi_int_list, isi_str_bool, isi_str_int, isi_str_str, isi_str_tuple, isi_str_list, isi_tuple_bool, isi_tuple_int, isi_tuple_str, isi_tuple_tuple, isi_tuple_list, isi_list_bool, isi_list_int, isi_list_str, isi_list_tuple, isi_list_list, fBin, fCall, fNat, fIsi, fTru, fBl, fNotT, fAndT, fOrT, fAndV, fOrV, fNotV, fIf, fTup, fLst, fNeg, aNil, aCons, gNm, gSb, gTpT, gNms, blOf, o2I, n1I, n2I, nLen_eq, oSub, oMod, oDiv, oGt, oGe, oLe, oLt, pw10_4, pw10_6, pw10_9, pw10_12, pw10_18, pw10_20, pw10_30, pw10_40, pw2_32, pw2_63, pw2_64, List.length_cons, List.length_nil, List.map_cons, List.map_nil, List.getElem?_cons_zero, List.getElem?_cons_succ, List.set_cons_zero, List.set_cons_succ, List.replicate, List.cons_append, List.nil_append, List.append_nil, Option.map_some, Option.map_none, id, ite_true, ite_false, if_true, if_false, Nat.zero_add, Nat.reduceAdd, Nat.reduceSub, Nat.reduceLeDiff, Bool.not_true, Bool.not_false, Bool.false_eq_true, reduceIte, reduceCtorEq, Int.reduceLT, Int.reduceLE, Int.reduceEq, Int.reduceNe, Nat.reduceLT, Nat.reduceEqDiff, decide_true, decide_false, Int.reduceAdd, Int.reduceSub, Int.reduceNeg, Int.reducePow, Int.reduceMul, Int.reduceToNat, wp_ok, wp_exc, wp_bad, wp_bind, bind_ok, wp_of, wr_some, wr_ite, of_some, tst_some, and_ok, or_ok, ws_nx, ws_rt, ws_bk, ws_ct, ws_exc, ws_then, wp_ite, ws_ite, decide_eq_true_eq, decide_eq_false_iff_not, true_implies, false_implies, implies_true, not_true_eq_false, not_false_eq_true, true_and, and_true, forall_const, fMeth, isTy_s, isTy_l, Option.isSome_some, and_self, fSlice, pNone, pSome, ws_sFor, fiSeq, fiRng1, fiRng2, wp_fLc, wp_outI_some, wp_rng1, wp_rng2, oEq_int, oNe_int, oEq_str, oNe_str, oEq_bl, oIs_non, oIsNot_non, isNon_non, isNon_int, isNon_bl, isNon_str, isNon_tup, isNon_ref, tru_non, tru_bl, tru_int, tru_tup, lenG_tup, oLt_str, oNotIn_str, oIn_str, seqG_tup, seqG_ref, iSeqG_tup, fiEnumA, iEnumGA_tup, iEnumGA_str, fiZip, Bool.false_or, Bool.true_or, Bool.or_false, Bool.or_true, Bool.false_and, Bool.true_and, Bool.and_false, Bool.and_true, Bool.or_eq_false_iff, Bool.not_eq_true', Bool.not_eq_false', nList, nTuple, oAdd_int, line, Bool.or_eq_true, Bool.and_eq_true, Bool.not_eq_true, slice_str hyl]
        have hm := cut_hi_len (z := z ++ Str.ofString "qrstuvwxyz") (i := 9 + f) (by omega)
        rw [len_append, eq] at hm
        generalize L2.cutS (z ++ Str.ofString "qrstuvwxyz") none (some (9 + f)) = y at hm ⊢
        have hyl : y.length ≤ line := by unfold line; omega
        refine ws_seq ?_
        simp -implicitDefEqProofs only [startE, OutS.toOut, sNext, sIf, sAsg, sRet, sRetN, sExpr, sBreak, sCont, sPar, par2, sAug, sRaise, fVar, fC, tyN, isi_NoneType_bool, isi_NoneType_int, isi_NoneType_str, isi_NoneType_tuple, isi_NoneType_list, isi_bool_bool, isi_bool_int, isi_bool_str, isi_bool_tuple, isi_bool_list, isi_int_bool, isi_int_int, isi_int_str, isi_int_tuple, isi_int_list, isi_str_bool, isi_str_int, isi_str_str, isi_str_tuple, isi_str_list, isi_tuple_bool, isi_tuple_int, isi_tuple_str, isi_tuple_tuple, isi_tuple_list, isi_list_bool, isi_list_int, isi_list_str, isi_list_tuple, isi_list_list, fBin, fCall, fNat, fIsi, fTru, fBl, fNotT, fAndT, fOrT, fAndV, fOrV, fNotV, fIf, fTup, fLst, fNeg, aNil, aCons, gNm, gSb, gTpT, gNms, blOf, o2I, n1I, n2I, nLen_eq, oSub, oMod, oDiv, oGt, oGe, oLe, oLt, pw10_4, pw10_6, pw10_9, pw10_12, pw10_18, pw10_20, pw10_30, pw10_40, pw2_32, pw2_63, pw2_64, List.length_cons, List.length_nil, List.map_cons, List.map_nil, List.getElem?_cons_zero, List.getElem?_cons_succ, List.set_cons_zero, List.set_cons_succ, List.replicate, List.cons_append, List.nil_append, List.append_nil, Option.map_some, Option.map_none, id, ite_true, ite_false, if_true, if_false, Nat.zero_add, Nat.reduceAdd, Nat.reduceSub, Nat.reduceLeDiff, Bool.not_true, Bool.not_false, Bool.false_eq_true, reduceIte, reduceCtorEq, Int.reduceLT, Int.reduceLE, Int.reduceEq, Int.reduceNe, Nat.reduceLT, Nat.reduceEqDiff, decide_true, decide_false, Int.reduceAdd, Int.reduceSub, Int.reduceNeg, Int.reducePow, Int.reduceMul, Int.reduceToNat, wp_ok, wp_exc, wp_bad, wp_bind, bind_ok, wp_of, wr_some, wr_ite, of_some, tst_some, and_ok, or_ok, ws_nx, ws_rt, ws_bk, ws_ct, ws_exc, ws_then, wp_ite, ws_ite, decide_eq_true_eq, decide_eq_false_iff_not, true_implies, false_implies, implies_true, not_true_eq_false, not_false_eq_true, true_and, and_true, forall_const, fMeth, isTy_s, isTy_l, Option.isSome_some, and_self, fSlice, pNone, pSome, ws_sFor, fiSeq, fiRng1, fiRng2, wp_fLc, wp_outI_some, wp_rng1, wp_rng2, oEq_int, oNe_int, oEq_str, oNe_str, oEq_bl, oIs_non, oIsNot_non, isNon_non, isNon_int, isNon_bl, isNon_str, isNon_tup, isNon_ref, tru_non, tru_bl, tru_int, tru_tup, lenG_tup, oLt_str, oNotIn_str, oIn_str, seqG_tup, seqG_ref, iSeqG_tup, fiEnumA, iEnumGA_tup, iEnumGA_str, fiZip, Bool.false_or, Bool.true_or, Bool.or_false, Bool.or_true, Bool.false_and, Bool.true_and, Bool.and_false, Bool.and_true, Bool.or_eq_false_iff, Bool.not_eq_true', Bool.not_eq_false', nList, nTuple, oAdd_int, line, Bool.or_eq_true, Bool.and_eq_true, Bool.not_eq_true, len_str hyl]
        refine w_take (s3.box (s2.box (s1.box hb))) (by omega) fun g S4 g0 g1 s4 => ?_
        simp -implicitDefEqProofs only [startE, OutS.toOut, sNext, sIf, sAsg, sRet, sRetN, sExpr, sBreak, sCont, sPar, par2, sAug, sRaise, fVar, fC, tyN, isi_NoneType_bool, isi_NoneType_int, isi_NoneType_str, isi_NoneType_tuple, isi_NoneType_list, isi_bool_bool, isi_bool_int, isi_bool_str, isi_bool_tuple, isi_bool_list, isi_int_bool, isi_int_int, isi_int_str, isi_int_tuple, isi_int_list, isi_str_bool, isi_str_int, isi_str_str, isi_str_tuple, isi_str_list, isi_tuple_bool, isi_tuple_int, isi_tuple_str, isi_tuple_tuple, isi_tuple_list, isi_list_bool, isi_list_int, isi_list_str, isi_list_tuple, isi_list_list, fBin, fCall, fNat, fIsi, fTru, fBl, fNotT, fAndT, fOrT, fAndV, fOrV, fNotV, fIf, fTup, fLst, fNeg, aNil, aCons, gNm, gSb, gTpT, gNms, blOf, o2I, n1I, n2I, nLen_eq, oSub, oMod, oDiv, oGt, oGe, oLe, oLt, pw10_4, pw10_6, pw10_9, pw10_12, pw10_18, pw10_20, pw10_30, pw10_40, pw2_32, pw2_63, pw2_64, List.length_cons, List.length_nil, List.map_cons, List.map_nil, List.getElem?_cons_zero, List.getElem?_cons_succ, List.set_cons_zero, List.set_cons_succ, List.replicate, List.cons_append, List.nil_append, List.append_nil, Option.map_some, Option.map_none, id, ite_true, ite_false, if_true, if_false, Nat.zero_add, Nat.reduceAdd, Nat.reduceSub, Nat.reduceLeDiff, Bool.not_true, Bool.not_false, Bool.false_eq_true, reduceIte, reduceCtorEq, Int.reduceLT, Int.reduceLE, Int.reduceEq, Int.reduceNe, Nat.reduceLT, Nat.reduceEqDiff, decide_true, decide_false, Int.reduceAdd, Int.reduceSub, Int.reduceNeg, Int.reducePow, Int.reduceMul, Int.reduceToNat, wp_ok, wp_exc, wp_bad, wp_bind, bind_ok, wp_of, wr_some, wr_ite, of_some, tst_some, and_ok, or_ok, ws_nx, ws_rt, ws_bk, ws_ct, ws_exc, ws_then, wp_ite, ws_ite, decide_eq_true_eq, decide_eq_false_iff_not, true_implies, false_implies, implies_true, not_true_eq_false, not_false_eq_true, true_and, and_true, forall_const, fMeth, isTy_s, isTy_l, Option.isSome_some, and_self, fSlice, pNone, pSome, ws_sFor, fiSeq, fiRng1, fiRng2, wp_fLc, wp_outI_some, wp_rng1, wp_rng2, oEq_int, oNe_int, oEq_str, oNe_str, oEq_bl, oIs_non, oIsNot_non, isNon_non, isNon_int, isNon_bl, isNon_str, isNon_tup, isNon_ref, tru_non, tru_bl, tru_int, tru_tup, lenG_tup, oLt_str, oNotIn_str, oIn_str, seqG_tup, seqG_ref, iSeqG_tup, fiEnumA, iEnumGA_tup, iEnumGA_str, fiZip, Bool.false_or, Bool.true_or, Bool.or_false, Bool.or_true, Bool.false_and, Bool.true_and, Bool.and_false, Bool.and_true, Bool.or_eq_false_iff, Bool.not_eq_true', Bool.not_eq_false', nList, nTuple, oAdd_int, line, Bool.or_eq_true, Bool.and_eq_true, Bool.not_eq_true, slice_str hyl]
        refine w_sign (s4.box (s3.box (s2.box (s1.box hb)))) fun c S5 s5 => ?_
        have h4 := cut_len y none (some g)
        have h5 := cut_len y (some (g + 1)) none
        simp -implicitDefEqProofs only [startE, OutS.toOut, sNext, sIf, sAsg, sRet, sRetN, sExpr, sBreak, sCont, sPar, par2, sAug, sRaise, fVar, fC, tyN, isi_NoneType_bool, isi_NoneType_int, isi_NoneType_str, isi_NoneType_tuple, isi_NoneType_list, isi_bool_bool, isi_bool_int, isi_bool_str, isi_bool_tuple, isi_bool_list, isi_int_bool, isi_int_int, isi_int_str, isi_int_tuple, isi_int_list, isi_str_bool, isi_str_int, isi_str_str, isi_str_tuple, isi_str_list, isi_tuple_bool, isi_tuple_int, isi_tuple_str, isi_tuple_tuple, isi_tuple_list, isi_list_bool, isi_list_int, isi_list_str, isi_list_tuple, isi_list_list, fBin, fCall, fNat, fIsi, fTru, fBl, fNotT, fAndT, fOrT, fAndV, fOrV, fNotV, fIf, fTup, fLst, fNeg, aNil, aCons, gNm, gSb, gTpT, gNms, blOf, o2I, n1I, n2I, nLen_eq, oSub, oMod, oDiv, oGt, oGe, oLe, oLt, pw10_4, pw10_6, pw10_9, pw10_12, pw10_18, pw10_20, pw10_30, pw10_40, pw2_32, pw2_63, pw2_64, List.length_cons, List.length_nil, List.map_cons, List.map_nil, List.getElem?_cons_zero, List.getElem?_cons_succ, List.set_cons_zero, List.set_cons_succ, List.replicate, List.cons_append, List.nil_append, List.append_nil, Option.map_some, Option.map_none, id, ite_true, ite_false, if_true, if_false, Nat.zero_add, Nat.reduceAdd, Nat.reduceSub, Nat.reduceLeDiff, Bool.not_true, Bool.not_false, Bool.false_eq_true, reduceIte, reduceCtorEq, Int.reduceLT, Int.reduceLE, Int.reduceEq, Int.reduceNe, Nat.reduceLT, Nat.reduceEqDiff, decide_true, decide_false, Int.reduceAdd, Int.reduceSub, Int.reduceNeg, Int.reducePow, Int.reduceMul, Int.reduceToNat, wp_ok, wp_exc, wp_bad, wp_bind, bind_ok, wp_of, wr_some, wr_ite, of_some, tst_some, and_ok, or_ok, ws_nx, ws_rt, ws_bk, ws_ct, ws_exc, ws_then, wp_ite, ws_ite, decide_eq_true_eq, decide_eq_false_iff_not, true_implies, false_implies, implies_true, not_true_eq_false, not_false_eq_true, true_and, and_true, forall_const, fMeth, isTy_s, isTy_l, Option.isSome_some, and_self, fSlice, pNone, pSome, ws_sFor, fiSeq, fiRng1, fiRng2, wp_fLc, wp_outI_some, wp_rng1, wp_rng2, oEq_int, oNe_int, oEq_str, oNe_str, oEq_bl, oIs_non, oIsNot_non, isNon_non, isNon_int, isNon_bl, isNon_str, isNon_tup, isNon_ref, tru_non, tru_bl, tru_int, tru_tup, lenG_tup, oLt_str, oNotIn_str, oIn_str, seqG_tup, seqG_ref, iSeqG_tup, fiEnumA, iEnumGA_tup, iEnumGA_str, fiZip, Bool.false_or, Bool.true_or, Bool.or_false, Bool.or_true, Bool.false_and, Bool.true_and, Bool.and_false, Bool.and_true, Bool.or_eq_false_iff, Bool.not_eq_true', Bool.not_eq_false', nList, nTuple, oAdd_int, line, Bool.or_eq_true, Bool.and_eq_true, Bool.not_eq_true, slice_str hyl, oAdd_str (x := L2.cutS y none (some g)) (y := ⟨#[c]⟩) (S := S5) (by rw [oneS_len]; unfold line; omega)]
        rw [oAdd_str (by rw [len_append, oneS_len]; unfold line; omega), wr_some]
        exact k _ _ (by rw [len_append, len_append, oneS_len]; omega) (s1.trans (s2.trans (s3.trans (s4.trans s5))))
      · refine ws_seq ?_
        try simp -implicitDefEqProofs only [startE, OutS.toOut, sNext, sIf, sAsg, sRet, sRetN, sExpr, sBreak, sCont, sPar, par2, sAug, sRaise, fVar, fC, tyN, isi_NoneType_bool, isi_NoneType_int, isi_NoneType_str, isi_NoneType_tuple, isi_NoneType_list, isi_bool_bool, isi_bool_int, isi_bool_str, isi_bool_tuple, isi_bool_list, isi_int_bool, isi_int_int, isi_int_str, isi_int_tuple, isi_int_list, isi_str_bool, isi_str_int, isi_str_str, isi_str_tuple, isi_str_list, isi_tuple_bool, isi_tuple_int, isi_tuple_str, isi_tuple_tuple, isi_tuple_list, isi_list_bool, isi_list_int, isi_list_str, isi_list_tuple, isi_list_list, fBin, fCall, fNat, fIsi, fTru, fBl, fNotT, fAndT, fOrT, fAndV, fOrV, fNotV, fIf, fTup, fLst, fNeg, aNil, aCons, gNm, gSb, gTpT, gNms, blOf, o2I, n1I, n2I, nLen_eq, oSub, oMod, oDiv, oGt, oGe, oLe, oLt, pw10_4, pw10_6, pw10_9, pw10_12, pw10_18, pw10_20, pw10_30, pw10_40, pw2_32, pw2_63, pw2_64, List.length_cons, List.length_nil, List.map_cons, List.map_nil, List.getElem?_cons_zero, List.getElem?_cons_succ, List.set_cons_zero, List.set_cons_succ, List.replicate, List.cons_append, List.nil_append, List.append_nil, Option.map_some, Option.map_none, id, ite_true, ite_false, if_true, if_false, Nat.zero_add, Nat.reduceAdd, Nat.reduceSub, Nat.reduceLeDiff, Bool.not_true, Bool.not_false, Bool.false_eq_true, reduceIte, reduceCtorEq, Int.reduceLT, Int.reduceLE, Int.reduceEq, Int.reduceNe, Nat.reduceLT, Nat.reduceEqDiff, decide_true, decide_false, Int.reduceAdd, Int.reduceSub, Int.reduceNeg, Int.reducePow, Int.reduceMul, Int.reduceToNat, wp_ok, wp_exc, wp_bad, wp_bind, bind_ok, wp_of, wr_some, wr_ite, of_some, tst_some, and_ok, or_ok, ws_nx, ws_rt, ws_bk, ws_ct, ws_exc, ws_then, wp_ite, ws_ite, decide_eq_true_eq, decide_eq_false_iff_not, true_implies, false_implies, implies_true, not_true_eq_false, not_false_eq_true, true_and, and_true, forall_const, fMeth, isTy_s, isTy_l, Option.isSome_some, and_self, fSlice, pNone, pSome, ws_sFor, fiSeq, fiRng1, fiRng2, wp_fLc, wp_outI_some, wp_rng1, wp_rng2, oEq_int, oNe_int, oEq_str, oNe_str, oEq_bl, oIs_non, oIsNot_non, isNon_non, isNon_int, isNon_bl, isNon_str, isNon_tup, isNon_ref, tru_non, tru_bl, tru_int, tru_tup, lenG_tup, oLt_str, oNotIn_str, oIn_str, seqG_tup, seqG_ref, iSeqG_tup, fiEnumA, iEnumGA_tup, iEnumGA_str, fiZip, Bool.false_or, Bool.true_or, Bool.or_false, Bool.or_true, Bool.false_and, Bool.true_and, Bool.and_false, Bool.and_true, Bool.or_eq_false_iff, Bool.not_eq_true', Bool.not_eq_false', nList, nTuple, oAdd_int, line, Bool.or_eq_true, Bool.and_eq_true, Bool.not_eq_true]
        refine ⟨fun h4 => ?_, fun h4 => ?_⟩
        · simp -implicitDefEqProofs only [startE, OutS.toOut, sNext, sIf, sAsg, sRet, sRetN, sExpr, sBreak, sCont, sPar, par2, sAug, sRaise, fVar, fC, tyN, isi_NoneType_bool, isi_NoneType_int, isi_NoneType_str, isi_NoneType_tuple, isi_NoneType_list, isi_bool_bool, isi_bool_int, isi_bool_str, isi_bool_tuple, isi_bool_list, isi_int_bool, isi_int_int, isi_int_str, isi_int_tuple, isi_int_list, isi_str_bool, isi_str_int, isi_str_str, isi_str_tuple, isi_str_list, isi_tuple_bool, isi_tuple_int, isi_tuple_str, isi_tuple_tuple, isi_tuple_list, isi_list_bool, isi_list_int, isi_list_str, isi_list_tuple, isi_list_list, fBin, fCall, fNat, fIsi, fTru, fBl, fNotT, fAndT, fOrT, fAndV, fOrV, fNotV, fIf, fTup, fLst, fNeg, aNil, aCons, gNm, gSb, gTpT, gNms, blOf, o2I, n1I, n2I, nLen_eq, oSub, oMod, oDiv, oGt, oGe, oLe, oLt, pw10_4, pw10_6, pw10_9, pw10_12, pw10_18, pw10_20, pw10_30, pw10_40, pw2_32, pw2_63, pw2_64, List.length_cons, List.length_nil, List.map_cons, List.map_nil, List.getElem?_cons_zero, List.getElem?_cons_succ, List.set_cons_zero, List.set_cons_succ, List.replicate, List.cons_append, List.nil_append, List.append_nil, Option.map_some, Option.map_none, id, ite_true, ite_false, if_true, if_false, Nat.zero_add, Nat.reduceAdd, Nat.reduceSub, Nat.reduceLeDiff, Bool.not_true, Bool.not_false, Bool.false_eq_true, reduceIte, reduceCtorEq, Int.reduceLT, Int.reduceLE, Int.reduceEq, Int.reduceNe, Nat.reduceLT, Nat.reduceEqDiff, decide_true, decide_false, Int.reduceAdd, Int.reduceSub, Int.reduceNeg, Int.reducePow, Int.reduceMul, Int.reduceToNat, wp_ok, wp_exc, wp_bad, wp_bind, bind_ok, wp_of, wr_some, wr_ite, of_some, tst_some, and_ok, or_ok, ws_nx, ws_rt, ws_bk, ws_ct, ws_exc, ws_then, wp_ite, ws_ite, decide_eq_true_eq, decide_eq_false_iff_not, true_implies, false_implies, implies_true, not_true_eq_false, not_false_eq_true, true_and, and_true, forall_const, fMeth, isTy_s, isTy_l, Option.isSome_some, and_self, fSlice, pNone, pSome, ws_sFor, fiSeq, fiRng1, fiRng2, wp_fLc, wp_outI_some, wp_rng1, wp_rng2, oEq_int, oNe_int, oEq_str, oNe_str, oEq_bl, oIs_non, oIsNot_non, isNon_non, isNon_int, isNon_bl, isNon_str, isNon_tup, isNon_ref, tru_non, tru_bl, tru_int, tru_tup, lenG_tup, oLt_str, oNotIn_str, oIn_str, seqG_tup, seqG_ref, iSeqG_tup, fiEnumA, iEnumGA_tup, iEnumGA_str, fiZip, Bool.false_or, Bool.true_or, Bool.or_false, Bool.or_true, Bool.false_and, Bool.true_and, Bool.and_false, Bool.and_true, Bool.or_eq_false_iff, Bool.not_eq_true', Bool.not_eq_false', nList, nTuple, oAdd_int, line, Bool.or_eq_true, Bool.and_eq_true, Bool.not_eq_true, slice_str hl]
          exact k _ _ (Nat.le_trans (hcut _ _) (by decide)) (s1.trans s2)
        · refine ws_seq ?_
          try simp -implicitDefEqProofs only [startE, OutS.toOut, sNext, sIf, sAsg, sRet, sRetN, sExpr, sBreak, sCont, sPar, par2, sAug, sRaise, fVar, fC, tyN, isi_NoneType_bool, isi_NoneType_int, isi_NoneType_str, isi_NoneType_tuple, isi_NoneType_list, isi_bool_bool, isi_bool_int, isi_bool_str, isi_bool_tuple, isi_bool_list, isi_int_bool, isi_int_int, isi_int_str, isi_int_tuple, isi_int_list, isi_str_bool, isi_str_int, isi_str_str, isi_str_tuple, isi_str_list, isi_tuple_bool, isi_tuple_int, isi_tuple_str, isi_tuple_tuple, isi_tuple_list, isi_list_bool, isi_list_int, isi_list_str, isi_list_tuple, isi_list_list, fBin, fCall, fNat, fIsi, fTru, fBl, fNotT, fAndT, fOrT, fAndV, fOrV, fNotV, fIf, fTup, fLst, fNeg, aNil, aCons, gNm, gSb, gTpT, gNms, blOf, o2I, n1I, n2I, nLen_eq, oSub, oMod, oDiv, oGt, oGe, oLe, oLt, pw10_4, pw10_6, pw10_9, pw10_12, pw10_18, pw10_20, pw10_30, pw10_40, pw2_32, pw2_63, pw2_64, List.length_cons, List.length_nil, List.map_cons, List.map_nil, List.getElem?_cons_zero, List.getElem?_cons_succ, List.set_cons_zero, List.set_cons_succ, List.replicate, List.cons_append, List.nil_append, List.append_nil, Option.map_some, Option.map_none, id, ite_true, ite_false, if_true, if_false, Nat.zero_add, Nat.reduceAdd, Nat.reduceSub, Nat.reduceLeDiff, Bool.not_true, Bool.not_false, Bool.false_eq_true, reduceIte, reduceCtorEq, Int.reduceLT, Int.reduceLE, Int.reduceEq, Int.reduceNe, Nat.reduceLT, Nat.reduceEqDiff, decide_true, decide_false, Int.reduceAdd, Int.reduceSub, Int.reduceNeg, Int.reducePow, Int.reduceMul, Int.reduceToNat, wp_ok, wp_exc, wp_bad, wp_bind, bind_ok, wp_of, wr_some, wr_ite, of_some, tst_some, and_ok, or_ok, ws_nx, ws_rt, ws_bk, ws_ct, ws_exc, ws_then, wp_ite, ws_ite, decide_eq_true_eq, decide_eq_false_iff_not, true_implies, false_implies, implies_true, not_true_eq_false, not_false_eq_true, true_and, and_true, forall_const, fMeth, isTy_s, isTy_l, Option.isSome_some, and_self, fSlice, pNone, pSome, ws_sFor, fiSeq, fiRng1, fiRng2, wp_fLc, wp_outI_some, wp_rng1, wp_rng2, oEq_int, oNe_int, oEq_str, oNe_str, oEq_bl, oIs_non, oIsNot_non, isNon_non, isNon_int, isNon_bl, isNon_str, isNon_tup, isNon_ref, tru_non, tru_bl, tru_int, tru_tup, lenG_tup, oLt_str, oNotIn_str, oIn_str, seqG_tup, seqG_ref, iSeqG_tup, fiEnumA, iEnumGA_tup, iEnumGA_str, fiZip, Bool.false_or, Bool.true_or, Bool.or_false, Bool.or_true, Bool.false_and, Bool.true_and, Bool.and_false, Bool.and_true, Bool.or_eq_false_iff, Bool.not_eq_true', Bool.not_eq_false', nList, nTuple, oAdd_int, line, Bool.or_eq_true, Bool.and_eq_true, Bool.not_eq_true]
          refine ⟨fun h5 => ?_, fun h5 => ?_⟩
          · have hu : mUpper (.str z) [] S2 = some (.str (Txt.upper z), S2) := if_pos (by omega)
            have hv := PyProof.Rows.len_upper z
            simp -implicitDefEqProofs only [startE, OutS.toOut, sNext, sIf, sAsg, sRet, sRetN, sExpr, sBreak, sCont, sPar, par2, sAug, sRaise, fVar, fC, tyN, isi_NoneType_bool, isi_NoneType_int, isi_NoneType_str, isi_NoneType_tuple, isi_NoneType_list, isi_bool_bool, isi_bool_int, isi_bool_str, isi_bool_tuple, isi_bool_list, isi_int_bool, isi_int_int, isi_int_str, isi_int_tuple, isi_int_list, isi_str_bool, isi_str_int, isi_str_str, isi_str_tuple, isi_str_list, isi_tuple_bool, isi_tuple_int, isi_tuple_str, isi_tuple_tuple, isi_tuple_list, isi_list_bool, isi_list_int, isi_list_str, isi_list_tuple, isi_list_list, fBin, fCall, fNat, fIsi, fTru, fBl, fNotT, fAndT, fOrT, fAndV, fOrV, fNotV, fIf, fTup, fLst, fNeg, aNil, aCons, gNm, gSb, gTpT, gNms, blOf, o2I, n1I, n2I, nLen_eq, oSub, oMod, oDiv, oGt, oGe, oLe, oLt, pw10_4, pw10_6, pw10_9, pw10_12, pw10_18, pw10_20, pw10_30, pw10_40, pw2_32, pw2_63, pw2_64, List.length_cons, List.length_nil, List.map_cons, List.map_nil, List.getElem?_cons_zero, List.getElem?_cons_succ, List.set_cons_zero, List.set_cons_succ, List.replicate, List.cons_append, List.nil_append, List.append_nil, Option.map_some, Option.map_none, id, ite_true, ite_false, if_true, if_false, Nat.zero_add, Nat.reduceAdd, Nat.reduceSub, Nat.reduceLeDiff, Bool.not_true, Bool.not_false, Bool.false_eq_true, reduceIte, reduceCtorEq, Int.reduceLT, Int.reduceLE, Int.reduceEq, Int.reduceNe, Nat.reduceLT, Nat.reduceEqDiff, decide_true, decide_false, Int.reduceAdd, Int.reduceSub, Int.reduceNeg, Int.reducePow, Int.reduceMul, Int.reduceToNat, wp_ok, wp_exc, wp_bad, wp_bind, bind_ok, wp_of, wr_some, wr_ite, of_some, tst_some, and_ok, or_ok, ws_nx, ws_rt, ws_bk, ws_ct, ws_exc, ws_then, wp_ite, ws_ite, decide_eq_true_eq, decide_eq_false_iff_not, true_implies, false_implies, implies_true, not_true_eq_false, not_false_eq_true, true_and, and_true, forall_const, fMeth, isTy_s, isTy_l, Option.isSome_some, and_self, fSlice, pNone, pSome, ws_sFor, fiSeq, fiRng1, fiRng2, wp_fLc, wp_outI_some, wp_rng1, wp_rng2, oEq_int, oNe_int, oEq_str, oNe_str, oEq_bl, oIs_non, oIsNot_non, isNon_non, isNon_int, isNon_bl, isNon_str, isNon_tup, isNon_ref, tru_non, tru_bl, tru_int, tru_tup, lenG_tup, oLt_str, oNotIn_str, oIn_str, seqG_tup, seqG_ref, iSeqG_tup, fiEnumA, iEnumGA_tup, iEnumGA_str, fiZip, Bool.false_or, Bool.true_or, Bool.or_false, Bool.or_true, Bool.false_and, Bool.true_and, Bool.and_false, Bool.and_true, Bool.or_eq_false_iff, Bool.not_eq_true', Bool.not_eq_false', nList, nTuple, oAdd_int, line, Bool.or_eq_true, Bool.and_eq_true, Bool.not_eq_true, hu]
            exact k _ _ (by omega) (s1.trans s2)
          · have es : (Str.ofString " ").length = 1 := by decide +kernel
            simp -implicitDefEqProofs only [startE, OutS.toOut, sNext, sIf, sAsg, sRet, sRetN, sExpr, sBreak, sCont, sPar, par2, sAug, sRaise, fVar, fC, tyN, isi_NoneType_bool, isi_NoneType_int, isi_NoneType_str, isi_NoneType_tuple, isi_NoneType_list, isi_bool_bool, isi_bool_int, isi_bool_str, isi_bool_tuple, isi_bool_list, isi_int_bool, isi_int_int, isi_int_str, isi_int_tuple, isi_int_list, isi_str_bool, isi_str_int, isi_str_str, isi_str_tuple, isi_str_list, isi_tuple_bool, isi_tuple_int, isi_tuple_str, isi_tuple_tuple, isi_tuple_list, isi_list_bool, isi_list_int, isi_list_str, isi_list_tuple, isi_list_list, fBin, fCall, fNat, fIsi, fTru, fBl, fNotT, fAndT, fOrT, fAndV, fOrV, fNotV, fIf, fTup, fLst, fNeg, aNil, aCons, gNm, gSb, gTpT, gNms, blOf, o2I, n1I, n2I, nLen_eq, oSub, oMod, oDiv, oGt, oGe, oLe, oLt, pw10_4, pw10_6, pw10_9, pw10_12, pw10_18, pw10_20, pw10_30, pw10_40, pw2_32, pw2_63, pw2_64, List.length_cons, List.length_nil, List.map_cons, List.map_nil, List.getElem?_cons_zero, List.getElem?_cons_succ, List.set_cons_zero, List.set_cons_succ, List.replicate, List.cons_append, List.nil_append, List.append_nil, Option.map_some, Option.map_none, id, ite_true, ite_false, if_true, if_false, Nat.zero_add, Nat.reduceAdd, Nat.reduceSub, Nat.reduceLeDiff, Bool.not_true, Bool.not_false, Bool.false_eq_true, reduceIte, reduceCtorEq, Int.reduceLT, Int.reduceLE, Int.reduceEq, Int.reduceNe, Nat.reduceLT, Nat.reduceEqDiff, decide_true, decide_false, Int.reduceAdd, Int.reduceSub, Int.reduceNeg, Int.reducePow, Int.reduceMul, Int.reduceToNat, wp_ok, wp_exc, wp_bad, wp_bind, bind_ok, wp_of, wr_some, wr_ite, of_some, tst_some, and_ok, or_ok, ws_nx, ws_rt, ws_bk, ws_ct, ws_exc, ws_then, wp_ite, ws_ite, decide_eq_true_eq, decide_eq_false_iff_not, true_implies, false_implies, implies_true, not_true_eq_false, not_false_eq_true, true_and, and_true, forall_const, fMeth, isTy_s, isTy_l, Option.isSome_some, and_self, fSlice, pNone, pSome, ws_sFor, fiSeq, fiRng1, fiRng2, wp_fLc, wp_outI_some, wp_rng1, wp_rng2, oEq_int, oNe_int, oEq_str, oNe_str, oEq_bl, oIs_non, oIsNot_non, isNon_non, isNon_int, isNon_bl, isNon_str, isNon_tup, isNon_ref, tru_non, tru_bl, tru_int, tru_tup, lenG_tup, oLt_str, oNotIn_str, oIn_str, seqG_tup, seqG_ref, iSeqG_tup, fiEnumA, iEnumGA_tup, iEnumGA_str, fiZip, Bool.false_or, Bool.true_or, Bool.or_false, Bool.or_true, Bool.false_and, Bool.true_and, Bool.and_false, Bool.and_true, Bool.or_eq_false_iff, Bool.not_eq_true', Bool.not_eq_false', nList, nTuple, oAdd_int, line, Bool.or_eq_true, Bool.and_eq_true, Bool.not_eq_true, oAdd_str (x := Str.ofString " ") (y := z) (S := S2) (by rw [es]; unfold line; omega), oAdd_str (x := z) (y := Str.ofString " ") (S := S2) (by rw [es]; unfold line; omega)]
            refine w_sign (s2.box (s1.box hb)) fun c S3 s3 => ?_
            try simp -implicitDefEqProofs only [startE, OutS.toOut, sNext, sIf, sAsg, sRet, sRetN, sExpr, sBreak, sCont, sPar, par2, sAug, sRaise, fVar, fC, tyN, isi_NoneType_bool, isi_NoneType_int, isi_NoneType_str, isi_NoneType_tuple, isi_NoneType_list, isi_bool_bool, isi_bool_int, isi_bool_str, isi_bool_tuple, isi_bool_list, isi_int_bool, isi_int_int, isi_int_str, isi_int_tuple, isi_int_list, isi_str_bool, isi_str_int, isi_str_str, isi_str_tuple, isi_str_list, isi_tuple_bool, isi_tuple_int, isi_tuple_str, isi_tuple_tuple, isi_tuple_list, isi_list_bool, isi_list_int, isi_list_str, isi_list_tuple, isi_list_list, fBin, fCall, fNat, fIsi, fTru, fBl, fNotT, fAndT, fOrT, fAndV, fOrV, fNotV, fIf, fTup, fLst, fNeg, aNil, aCons, gNm, gSb, gTpT, gNms, blOf, o2I, n1I, n2I, nLen_eq, oSub, oMod, oDiv, oGt, oGe, oLe, oLt, pw10_4, pw10_6, pw10_9, pw10_12, pw10_18, pw10_20, pw10_30, pw10_40, pw2_32, pw2_63, pw2_64, List.length_cons, List.length_nil, List.map_cons, List.map_nil, List.getElem?_cons_zero, List.getElem?_cons_succ, List.set_cons_zero, List.set_cons_succ, List.replicate, List.cons_append, List.nil_append, List.append_nil, Option.map_some, Option.map_none, id, ite_true, ite_false, if_true, if_false, Nat.zero_add, Nat.reduceAdd, Nat.reduceSub, Nat.reduceLeDiff, Bool.not_true, Bool.not_false, Bool.false_eq_true, reduceIte, reduceCtorEq, Int.reduceLT, Int.reduceLE, Int.reduceEq, Int.reduceNe, Nat.reduceLT, Nat.reduceEqDiff, decide_true, decide_false, Int.reduceAdd, Int.reduceSub, Int.reduceNeg, Int.reducePow, Int.reduceMul, Int.reduceToNat, wp_ok, wp_exc, wp_bad, wp_bind, bind_ok, wp_of, wr_some, wr_ite, of_some, tst_some, and_ok, or_ok, ws_nx, ws_rt, ws_bk, ws_ct, ws_exc, ws_then, wp_ite, ws_ite, decide_eq_true_eq, decide_eq_false_iff_not, true_implies, false_implies, implies_true, not_true_eq_false, not_false_eq_true, true_and, and_true, forall_const, fMeth, isTy_s, isTy_l, Option.isSome_some, and_self, fSlice, pNone, pSome, ws_sFor, fiSeq, fiRng1, fiRng2, wp_fLc, wp_outI_some, wp_rng1, wp_rng2, oEq_int, oNe_int, oEq_str, oNe_str, oEq_bl, oIs_non, oIsNot_non, isNon_non, isNon_int, isNon_bl, isNon_str, isNon_tup, isNon_ref, tru_non, tru_bl, tru_int, tru_tup, lenG_tup, oLt_str, oNotIn_str, oIn_str, seqG_tup, seqG_ref, iSeqG_tup, fiEnumA, iEnumGA_tup, iEnumGA_str, fiZip, Bool.false_or, Bool.true_or, Bool.or_false, Bool.or_true, Bool.false_and, Bool.true_and, Bool.and_false, Bool.and_true, Bool.or_eq_false_iff, Bool.not_eq_true', Bool.not_eq_false', nList, nTuple, oAdd_int, line, Bool.or_eq_true, Bool.and_eq_true, Bool.not_eq_true]
            refine w_pickl (s3.box (s2.box (s1.box hb))) (k := fun x S4 hx s4 => ?_)
            have hx : ∃ y : Str, x = .str y ∧ y.length ≤ 1000 := by
              simp only [List.mem_cons, List.mem_nil_iff, or_false] at hx
              rcases hx with rfl | rfl | rfl | rfl | rfl
              · exact ⟨_, rfl, by decide⟩
              · exact ⟨_, rfl, by omega⟩
              · exact ⟨_, rfl, by rw [len_append, es]; omega⟩
              · exact ⟨_, rfl, by rw [len_append, es]; omega⟩
              · exact ⟨_, rfl, by rw [oneS_len]; omega⟩
            obtain ⟨y, rfl, hy⟩ := hx
            exact k _ _ hy (s1.trans (s2.trans (s3.trans s4)))
theorem w_odd (hb : Box S b) (k : ∀ v S', MvP (fun r => r ≠ b ∧ S.length ≤ r) S' 2 v → Stp b S S' → Q v S') : wp (g_law_odd [.ref b] S) Q E := by
  have hbl := hb.lt
  unfold g_law_odd
  refine wp_def rfl ?_
  unfold g_law_odd_b
  simp only [startE, List.map_cons, List.map_nil, List.length_cons, List.length_nil, List.replicate, List.cons_append, List.nil_append, Nat.reduceAdd, Nat.reduceSub, Nat.zero_add]
  try simp -implicitDefEqProofs only [startE, OutS.toOut, sNext, sIf, sAsg, sRet, sRetN, sExpr, sBreak, sCont, sPar, par2, sAug, sRaise, fVar, fC, tyN, isi_NoneType_bool, isi_NoneType_int, isi_NoneType_str, isi_NoneType_tuple, isi_NoneType_list, isi_bool_bool, isi_bool_int, isi_bool_str, isi_bool_tuple, isi_bool_list, isi_int_bool, isi_int_int, isi_int_str, isi_int_tuple, isi_int_list, isi_str_bool, isi_str_int, isi_str_str, isi_str_tuple, isi_str_list, isi_tuple_bool, isi_tuple_int, isi_tuple_str, isi_tuple_tuple, isi_tuple_list, isi_list_bool, isi_list_int, isi_list_str, isi_list_tuple, isi_list_list, fBin, fCall, fNat, fIsi, fTru, fBl, fNotT, fAndT, fOrT, fAndV, fOrV, fNotV, fIf, fTup, fLst, fNeg, aNil, aCons, gNm, gSb, gTpT, gNms, blOf, o2I, n1I, n2I, nLen_eq, oSub, oMod, oDiv, oGt, oGe, oLe, oLt, pw10_4, pw10_6, pw10_9, pw10_12, pw10_18, pw10_20, pw10_30, pw10_40, pw2_32, pw2_63, pw2_64, List.length_cons, List.length_nil, List.map_cons, List.map_nil, List.getElem?_cons_zero, List.getElem?_cons_succ, List.set_cons_zero, List.set_cons_succ, List.replicate, List.cons_append, List.nil_append, List.append_nil, Option.map_some, Option.map_none, id, ite_true, ite_false, if_true, if_false, Nat.zero_add, Nat.reduceAdd, Nat.reduceSub, Nat.reduceLeDiff, Bool.not_true, Bool.not_false, Bool.false_eq_true, reduceIte, reduceCtorEq, Int.reduceLT, Int.reduceLE, Int.reduceEq, Int.reduceNe, Nat.reduceLT, Nat.reduceEqDiff, decide_true, decide_false, Int.reduceAdd, Int.reduceSub, Int.reduceNeg, Int.reducePow, Int.reduceMul, Int.reduceToNat, wp_ok, wp_exc, wp_bad, wp_bind, bind_ok, wp_of, wr_some, wr_ite, of_some, tst_some, and_ok, or_ok, ws_nx, ws_rt, ws_bk, ws_ct, ws_exc, ws_then, wp_ite, ws_ite, decide_eq_true_eq, decide_eq_false_iff_not, true_implies, false_implies, implies_true, not_true_eq_false, not_false_eq_true, true_and, and_true, forall_const, fMeth, isTy_s, isTy_l, Option.isSome_some, and_self, fSlice, pNone, pSome, ws_sFor, fiSeq, fiRng1, fiRng2, wp_fLc, wp_outI_some, wp_rng1, wp_rng2, oEq_int, oNe_int, oEq_str, oNe_str, oEq_bl, oIs_non, oIsNot_non, isNon_non, isNon_int, isNon_bl, isNon_str, isNon_tup, isNon_ref, tru_non, tru_bl, tru_int, tru_tup, lenG_tup, oLt_str, oNotIn_str, oIn_str, seqG_tup, seqG_ref, iSeqG_tup, fiEnumA, iEnumGA_tup, iEnumGA_str, fiZip, Bool.false_or, Bool.true_or, Bool.or_false, Bool.or_true, Bool.false_and, Bool.true_and, Bool.and_false, Bool.and_true, Bool.or_eq_false_iff, Bool.not_eq_true', Bool.not_eq_false', nList, nTuple, oAdd_int, line, Bool.or_eq_true, Bool.and_eq_true, Bool.not_eq_true]
  obtain ⟨S1, h1⟩ : ∃ S1, S1 = S ++ [Cell.lst [T.str (Str.ofString "a")]] := ⟨_, rfl⟩
  obtain ⟨S2, h2⟩ : ∃ S2, S2 = S1 ++ [Cell.lst []] := ⟨_, rfl⟩
  have s1 : Stp b S S1 := by rw [h1]; exact Stp.refl.push
  have s2 : Stp b S1 S2 := by rw [h2]; exact Stp.refl.push
  have g1 : getL S2 S.length = some [T.str (Str.ofString "a")] := by rw [h2, h1]; exact getL_push _ _ getL_end
  have g2 : getL S2 S1.length = some [] := by rw [h2]; exact getL_end
  rw [← h1, ← h2]
  refine w_pickl (s2.box (s1.box hb)) (k := fun x S3 hx s3 => ?_)
  refine k x S3 ?_ (s1.trans (s2.trans s3))
  have hle := s1.le
  have ha : (Str.ofString "a").length ≤ 1000 := by decide
  have hb : (Str.ofString "b").length ≤ 1000 := by decide
  simp only [List.mem_cons, List.mem_nil_iff, or_false] at hx
  rcases hx with rfl | rfl | rfl | rfl | rfl | rfl | rfl | rfl | rfl
  · trivial
  · trivial
  · trivial
  · trivial
  · refine ⟨⟨by omega, by omega⟩, _, s3.get (by omega) g1, fun x hx => ?_⟩
    rw [List.mem_singleton.mp hx]; exact ha
  · refine ⟨by decide, fun x hx => ?_⟩
    rw [List.mem_singleton.mp hx]; exact ha
  · exact ⟨by decide, fun x hx => by cases hx⟩
  · exact ⟨⟨by omega, by omega⟩, _, s3.get (by omega) g2, fun x hx => by cases hx⟩
  · refine ⟨by decide, fun x hx => ?_⟩
    simp only [List.mem_cons, List.mem_nil_iff, or_false] at hx
    rcases hx with rfl | rfl
    · exact ha
    · exact hb
def LabT (y : T) : Prop := ∃ z, y = .str z ∧ AZ z ∧ 1 ≤ z.length ∧ z.length ≤ 8
theorem w_labels {m : Int} (hb : Box S b) (hm : 0 ≤ m ∧ m ≤ 100) (k : ∀ r ys S', ys.length = m.toNat → (∀ y ∈ ys, LabT y) → Stp b S S' → S.length ≤ r → S'[r]? = some (.lst ys) → Q (.ref r) S') : wp (g_law_labels [.ref b, .int m] S) Q E := by
  unfold g_law_labels
  refine wp_def rfl ?_
  unfold g_law_labels_b
  simp only [startE, List.map_cons, List.map_nil, List.length_cons, List.length_nil, List.replicate, List.cons_append, List.nil_append, Nat.reduceAdd, Nat.reduceSub, Nat.zero_add]
  try simp -implicitDefEqProofs only [startE, OutS.toOut, sNext, sIf, sAsg, sRet, sRetN, sExpr, sBreak, sCont, sPar, par2, sAug, sRaise, fVar, fC, tyN, isi_NoneType_bool, isi_NoneType_int, isi_NoneType_str, isi_NoneType_tuple, isi_NoneType_list, isi_bool_bool, isi_bool_int, isi_bool_str, isi_bool_tuple, isi_bool_list, isi_int_bool, isi_int_int, isi_int_str, isi_int_tuple, isi_int_list, isi_str_bool, isi_str_int, isi_str_str, isi_str_tuple, isi_str_list, isi_tuple_bool, isi_tuple_int, isi_tuple_str, isi_tuple_tuple, isi_tuple_list, isi_list_bool, isi_list_int, isi_list_str, isi_list_tuple, isi_list_list, fBin, fCall, fNat, fIsi, fTru, fBl, fNotT, fAndT, fOrT, fAndV, fOrV, fNotV, fIf, fTup, fLst, fNeg, aNil, aCons, gNm, gSb, gTpT, gNms, blOf, o2I, n1I, n2I, nLen_eq, oSub, oMod, oDiv, oGt, oGe, oLe, oLt, pw10_4, pw10_6, pw10_9, pw10_12, pw10_18, pw10_20, pw10_30, pw10_40, pw2_32, pw2_63, pw2_64, List.length_cons, List.length_nil, List.map_cons, List.map_nil, List.getElem?_cons_zero, List.getElem?_cons_succ, List.set_cons_zero, List.set_cons_succ, List.replicate, List.cons_append, List.nil_append, List.append_nil, Option.map_some, Option.map_none, id, ite_true, ite_false, if_true, if_false, Nat.zero_add, Nat.reduceAdd, Nat.reduceSub, Nat.reduceLeDiff, Bool.not_true, Bool.not_false, Bool.false_eq_true, reduceIte, reduceCtorEq, Int.reduceLT, Int.reduceLE, Int.reduceEq, Int.reduceNe, Nat.reduceLT, Nat.reduceEqDiff, decide_true, decide_false, Int.reduceAdd, Int.reduceSub, Int.reduceNeg, Int.reducePow, Int.reduceMul, Int.reduceToNat, wp_ok, wp_exc, wp_bad, wp_bind, bind_ok, wp_of, wr_some, wr_ite, of_some, tst_some, and_ok, or_ok, ws_nx, ws_rt, ws_bk, ws_ct, ws_exc, ws_then, wp_ite, ws_ite, decide_eq_true_eq, decide_eq_false_iff_not, true_implies, false_implies, implies_true, not_true_eq_false, not_false_eq_true, true_and, and_true, forall_const, fMeth, isTy_s, isTy_l, Option.isSome_some, and_self, fSlice, pNone, pSome, ws_sFor, fiSeq, fiRng1, fiRng2, wp_fLc, wp_outI_some, wp_rng1, wp_rng2, oEq_int, oNe_int, oEq_str, oNe_str, oEq_bl, oIs_non, oIsNot_non, isNon_non, isNon_int, isNon_bl, isNon_str, isNon_tup, isNon_ref, tru_non, tru_bl, tru_int, tru_tup, lenG_tup, oLt_str, oNotIn_str, oIn_str, seqG_tup, seqG_ref, iSeqG_tup, fiEnumA, iEnumGA_tup, iEnumGA_str, fiZip, Bool.false_or, Bool.true_or, Bool.or_false, Bool.or_true, Bool.false_and, Bool.true_and, Bool.and_false, Bool.and_true, Bool.or_eq_false_iff, Bool.not_eq_true', Bool.not_eq_false', nList, nTuple, oAdd_int, line, Bool.or_eq_true, Bool.and_eq_true, Bool.not_eq_true]
  refine ⟨rOk_of (by omega), ?_⟩
  refine wc_draw LabT hb (by simp [rngT, line]; omega) (fun _ _ => rfl) (fun w hw S3 s3 hb3 => ?_) fun ys S3 hy hp s3 e3 => ?_
  · simp -implicitDefEqProofs only [startE, OutS.toOut, sNext, sIf, sAsg, sRet, sRetN, sExpr, sBreak, sCont, sPar, par2, sAug, sRaise, fVar, fC, tyN, isi_NoneType_bool, isi_NoneType_int, isi_NoneType_str, isi_NoneType_tuple, isi_NoneType_list, isi_bool_bool, isi_bool_int, isi_bool_str, isi_bool_tuple, isi_bool_list, isi_int_bool, isi_int_int, isi_int_str, isi_int_tuple, isi_int_list, isi_str_bool, isi_str_int, isi_str_str, isi_str_tuple, isi_str_list, isi_tuple_bool, isi_tuple_int, isi_tuple_str, isi_tuple_tuple, isi_tuple_list, isi_list_bool, isi_list_int, isi_list_str, isi_list_tuple, isi_list_list, fBin, fCall, fNat, fIsi, fTru, fBl, fNotT, fAndT, fOrT, fAndV, fOrV, fNotV, fIf, fTup, fLst, fNeg, aNil, aCons, gNm, gSb, gTpT, gNms, blOf, o2I, n1I, n2I, nLen_eq, oSub, oMod, oDiv, oGt, oGe, oLe, oLt, pw10_4, pw10_6, pw10_9, pw10_12, pw10_18, pw10_20, pw10_30, pw10_40, pw2_32, pw2_63, pw2_64, List.length_cons, List.length_nil, List.map_cons, List.map_nil, List.getElem?_cons_zero, List.getElem?_cons_succ, List.set_cons_zero, List.set_cons_succ, List.replicate, List.cons_append, List.nil_append, List.append_nil, Option.map_some, Option.map_none, id, ite_true, ite_false, if_true, if_false, Nat.zero_add, Nat.reduceAdd, Nat.reduceSub, Nat.reduceLeDiff, Bool.not_true, Bool.not_false, Bool.false_eq_true, reduceIte, reduceCtorEq, Int.reduceLT, Int.reduceLE, Int.reduceEq, Int.reduceNe, Nat.reduceLT, Nat.reduceEqDiff, decide_true, decide_false, Int.reduceAdd, Int.reduceSub, Int.reduceNeg, Int.reducePow, Int.reduceMul, Int.reduceToNat, wp_ok, wp_exc, wp_bad, wp_bind, bind_ok, wp_of, wr_some, wr_ite, of_some, tst_some, and_ok, or_ok, ws_nx, ws_rt, ws_bk, ws_ct, ws_exc, ws_then, wp_ite, ws_ite, decide_eq_true_eq, decide_eq_false_iff_not, true_implies, false_implies, implies_true, not_true_eq_false, not_false_eq_true, true_and, and_true, forall_const, fMeth, isTy_s, isTy_l, Option.isSome_some, and_self, fSlice, pNone, pSome, ws_sFor, fiSeq, fiRng1, fiRng2, wp_fLc, wp_outI_some, wp_rng1, wp_rng2, oEq_int, oNe_int, oEq_str, oNe_str, oEq_bl, oIs_non, oIsNot_non, isNon_non, isNon_int, isNon_bl, isNon_str, isNon_tup, isNon_ref, tru_non, tru_bl, tru_int, tru_tup, lenG_tup, oLt_str, oNotIn_str, oIn_str, seqG_tup, seqG_ref, iSeqG_tup, fiEnumA, iEnumGA_tup, iEnumGA_str, fiZip, Bool.false_or, Bool.true_or, Bool.or_false, Bool.or_true, Bool.false_and, Bool.true_and, Bool.and_false, Bool.and_true, Bool.or_eq_false_iff, Bool.not_eq_true', Bool.not_eq_false', nList, nTuple, oAdd_int, line, Bool.or_eq_true, Bool.and_eq_true, Bool.not_eq_true, wipeE]
    exact w_label hb3 fun z S' az h1 h2 s' => ⟨⟨z, rfl, az, h1, h2⟩, s'⟩
  · exact k _ ys S3 (by rw [hy]; simp [rngT]) hp s3 (Nat.le_refl _) e3
end
end Fl

set_option Elab.async false
set_option linter.all false
set_option maxRecDepth 100000
set_option maxHeartbeats 1000000
namespace Fl
open PySem
section
variable {S : Store} {p : Nat → Prop} {Q : T → Store → Prop} {E : Ex → Store → Prop}
/-! ### the first fault of a name -/
def nh (k : Nat) (x : T) : Option T := if (decide ((k : Int) = 6) || !isNon (lf x)) = true then some (.int (k : Int)) else none
def nf : T → T
  | .tup xs => if xs.length = 0 then .int (-1) else (firstHit nh 0 xs).getD .non
  | _ => .int (-1)
theorem isl_ok {n : Nat} {v : T} (h : Lv S n v) : g_is_label [v] S = .ok (.bl (isNon (lf v))) S := by
  refine eq_of_wp ?_
  unfold g_is_label
  refine wp_def rfl ?_
  unfold g_is_label_b
  simp only [startE, List.map_cons, List.map_nil, List.length_cons, List.length_nil, List.replicate, List.cons_append, List.nil_append, Nat.reduceAdd, Nat.reduceSub, Nat.zero_add]
  simp -implicitDefEqProofs only [startE, OutS.toOut, sNext, sIf, sAsg, sRet, sRetN, sExpr, sBreak, sCont, sPar, par2, sAug, sRaise, fVar, fC, tyN, isi_NoneType_bool, isi_NoneType_int, isi_NoneType_str, isi_NoneType_tuple, isi_NoneType_list, isi_bool_bool, isi_bool_int, isi_bool_str, isi_bool_tuple, isi_bool_list, isi_int_bool, isi_int_int, isi_int_str, isi_int_tuple, isi_int_list, isi_str_bool, isi_str_int, isi_str_str, isi_str_tuple, isi_str_list, isi_tuple_bool, isi_tuple_int, isi_tuple_str, isi_tuple_tuple, isi_tuple_list, isi_list_bool, isi_list_int, isi_list_str, isi_list_tuple, isi_list_list, fBin, fCall, fNat, fIsi, fTru, fBl, fNotT, fAndT, fOrT, fAndV, fOrV, fNotV, fIf, fTup, fLst, fNeg, aNil, aCons, gNm, gSb, gTpT, gNms, blOf, o2I, n1I, n2I, nLen_eq, oSub, oMod, oDiv, oGt, oGe, oLe, oLt, pw10_4, pw10_6, pw10_9, pw10_12, pw10_18, pw10_20, pw10_30, pw10_40, pw2_32, pw2_63, pw2_64, List.length_cons, List.length_nil, List.map_cons, List.map_nil, List.getElem?_cons_zero, List.getElem?_cons_succ, List.set_cons_zero, List.set_cons_succ, List.replicate, List.cons_append, List.nil_append, List.append_nil, Option.map_some, Option.map_none, id, ite_true, ite_false, if_true, if_false, Nat.zero_add, Nat.reduceAdd, Nat.reduceSub, Nat.reduceLeDiff, Bool.not_true, Bool.not_false, Bool.false_eq_true, reduceIte, reduceCtorEq, Int.reduceLT, Int.reduceLE, Int.reduceEq, Int.reduceNe, Nat.reduceLT, Nat.reduceEqDiff, decide_true, decide_false, Int.reduceAdd, Int.reduceSub, Int.reduceNeg, Int.reducePow, Int.reduceMul, Int.reduceToNat, wp_ok, wp_exc, wp_bad, wp_bind, bind_ok, wp_of, wr_some, wr_ite, of_some, tst_some, and_ok, or_ok, ws_nx, ws_rt, ws_bk, ws_ct, ws_exc, ws_then, wp_ite, ws_ite, decide_eq_true_eq, decide_eq_false_iff_not, true_implies, false_implies, implies_true, not_true_eq_false, not_false_eq_true, true_and, and_true, forall_const, fMeth, isTy_s, isTy_l, Option.isSome_some, and_self, fSlice, pNone, pSome, ws_sFor, fiSeq, fiRng1, fiRng2, wp_fLc, wp_outI_some, wp_rng1, wp_rng2, oEq_int, oNe_int, oEq_str, oNe_str, oEq_bl, oIs_non, oIsNot_non, isNon_non, isNon_int, isNon_bl, isNon_str, isNon_tup, isNon_ref, tru_non, tru_bl, tru_int, tru_tup, lenG_tup, oLt_str, oNotIn_str, oIn_str, seqG_tup, seqG_ref, iSeqG_tup, fiEnumA, iEnumGA_tup, iEnumGA_str, fiZip, Bool.false_or, Bool.true_or, Bool.or_false, Bool.or_true, Bool.false_and, Bool.true_and, Bool.and_false, Bool.and_true, Bool.or_eq_false_iff, Bool.not_eq_true', Bool.not_eq_false', nList, nTuple, oAdd_int, line, Bool.or_eq_true, Bool.and_eq_true, Bool.not_eq_true, label_ok h]
theorem name_ok {n : Nat} {v : T} (h : MvP p S (n + 1) v) : g_name_fault [v] S = .ok (nf v) S := by
  refine eq_of_wp ?_
  unfold g_name_fault
  refine wp_def rfl ?_
  unfold g_name_fault_b
  simp only [startE, List.map_cons, List.map_nil, List.length_cons, List.length_nil, List.replicate, List.cons_append, List.nil_append, Nat.reduceAdd, Nat.reduceSub, Nat.zero_add]
  cases v with
  | tup xs =>
    refine ws_seq ?_
    try simp -implicitDefEqProofs only [startE, OutS.toOut, sNext, sIf, sAsg, sRet, sRetN, sExpr, sBreak, sCont, sPar, par2, sAug, sRaise, fVar, fC, tyN, isi_NoneType_bool, isi_NoneType_int, isi_NoneType_str, isi_NoneType_tuple, isi_NoneType_list, isi_bool_bool, isi_bool_int, isi_bool_str, isi_bool_tuple, isi_bool_list, isi_int_bool, isi_int_int, isi_int_str, isi_int_tuple, isi_int_list, isi_str_bool, isi_str_int, isi_str_str, isi_str_tuple, isi_str_list, isi_tuple_bool, isi_tuple_int, isi_tuple_str, isi_tuple_tuple, isi_tuple_list, isi_list_bool, isi_list_int, isi_list_str, isi_list_tuple, isi_list_list, fBin, fCall, fNat, fIsi, fTru, fBl, fNotT, fAndT, fOrT, fAndV, fOrV, fNotV, fIf, fTup, fLst, fNeg, aNil, aCons, gNm, gSb, gTpT, gNms, blOf, o2I, n1I, n2I, nLen_eq, oSub, oMod, oDiv, oGt, oGe, oLe, oLt, pw10_4, pw10_6, pw10_9, pw10_12, pw10_18, pw10_20, pw10_30, pw10_40, pw2_32, pw2_63, pw2_64, List.length_cons, List.length_nil, List.map_cons, List.map_nil, List.getElem?_cons_zero, List.getElem?_cons_succ, List.set_cons_zero, List.set_cons_succ, List.replicate, List.cons_append, List.nil_append, List.append_nil, Option.map_some, Option.map_none, id, ite_true, ite_false, if_true, if_false, Nat.zero_add, Nat.reduceAdd, Nat.reduceSub, Nat.reduceLeDiff, Bool.not_true, Bool.not_false, Bool.false_eq_true, reduceIte, reduceCtorEq, Int.reduceLT, Int.reduceLE, Int.reduceEq, Int.reduceNe, Nat.reduceLT, Nat.reduceEqDiff, decide_true, decide_false, Int.reduceAdd, Int.reduceSub, Int.reduceNeg, Int.reducePow, Int.reduceMul, Int.reduceToNat, wp_ok, wp_exc, wp_bad, wp_bind, bind_ok, wp_of, wr_some, wr_ite, of_some, tst_some, and_ok, or_ok, ws_nx, ws_rt, ws_bk, ws_ct, ws_exc, ws_then, wp_ite, ws_ite, decide_eq_true_eq, decide_eq_false_iff_not, true_implies, false_implies, implies_true, not_true_eq_false, not_false_eq_true, true_and, and_true, forall_const, fMeth, isTy_s, isTy_l, Option.isSome_some, and_self, fSlice, pNone, pSome, ws_sFor, fiSeq, fiRng1, fiRng2, wp_fLc, wp_outI_some, wp_rng1, wp_rng2, oEq_int, oNe_int, oEq_str, oNe_str, oEq_bl, oIs_non, oIsNot_non, isNon_non, isNon_int, isNon_bl, isNon_str, isNon_tup, isNon_ref, tru_non, tru_bl, tru_int, tru_tup, lenG_tup, oLt_str, oNotIn_str, oIn_str, seqG_tup, seqG_ref, iSeqG_tup, fiEnumA, iEnumGA_tup, iEnumGA_str, fiZip, Bool.false_or, Bool.true_or, Bool.or_false, Bool.or_true, Bool.false_and, Bool.true_and, Bool.and_false, Bool.and_true, Bool.or_eq_false_iff, Bool.not_eq_true', Bool.not_eq_false', nList, nTuple, oAdd_int, line, Bool.or_eq_true, Bool.and_eq_true, Bool.not_eq_true]
    refine ⟨fun h0 => ?_, fun h0 => ?_⟩
    · exact (if_pos (by omega)).symm
    · simp only [nf, if_neg (show ¬ xs.length = 0 by omega)]
      refine ws_seq ?_
      try simp -implicitDefEqProofs only [startE, OutS.toOut, sNext, sIf, sAsg, sRet, sRetN, sExpr, sBreak, sCont, sPar, par2, sAug, sRaise, fVar, fC, tyN, isi_NoneType_bool, isi_NoneType_int, isi_NoneType_str, isi_NoneType_tuple, isi_NoneType_list, isi_bool_bool, isi_bool_int, isi_bool_str, isi_bool_tuple, isi_bool_list, isi_int_bool, isi_int_int, isi_int_str, isi_int_tuple, isi_int_list, isi_str_bool, isi_str_int, isi_str_str, isi_str_tuple, isi_str_list, isi_tuple_bool, isi_tuple_int, isi_tuple_str, isi_tuple_tuple, isi_tuple_list, isi_list_bool, isi_list_int, isi_list_str, isi_list_tuple, isi_list_list, fBin, fCall, fNat, fIsi, fTru, fBl, fNotT, fAndT, fOrT, fAndV, fOrV, fNotV, fIf, fTup, fLst, fNeg, aNil, aCons, gNm, gSb, gTpT, gNms, blOf, o2I, n1I, n2I, nLen_eq, oSub, oMod, oDiv, oGt, oGe, oLe, oLt, pw10_4, pw10_6, pw10_9, pw10_12, pw10_18, pw10_20, pw10_30, pw10_40, pw2_32, pw2_63, pw2_64, List.length_cons, List.length_nil, List.map_cons, List.map_nil, List.getElem?_cons_zero, List.getElem?_cons_succ, List.set_cons_zero, List.set_cons_succ, List.replicate, List.cons_append, List.nil_append, List.append_nil, Option.map_some, Option.map_none, id, ite_true, ite_false, if_true, if_false, Nat.zero_add, Nat.reduceAdd, Nat.reduceSub, Nat.reduceLeDiff, Bool.not_true, Bool.not_false, Bool.false_eq_true, reduceIte, reduceCtorEq, Int.reduceLT, Int.reduceLE, Int.reduceEq, Int.reduceNe, Nat.reduceLT, Nat.reduceEqDiff, decide_true, decide_false, Int.reduceAdd, Int.reduceSub, Int.reduceNeg, Int.reducePow, Int.reduceMul, Int.reduceToNat, wp_ok, wp_exc, wp_bad, wp_bind, bind_ok, wp_of, wr_some, wr_ite, of_some, tst_some, and_ok, or_ok, ws_nx, ws_rt, ws_bk, ws_ct, ws_exc, ws_then, wp_ite, ws_ite, decide_eq_true_eq, decide_eq_false_iff_not, true_implies, false_implies, implies_true, not_true_eq_false, not_false_eq_true, true_and, and_true, forall_const, fMeth, isTy_s, isTy_l, Option.isSome_some, and_self, fSlice, pNone, pSome, ws_sFor, fiSeq, fiRng1, fiRng2, wp_fLc, wp_outI_some, wp_rng1, wp_rng2, oEq_int, oNe_int, oEq_str, oNe_str, oEq_bl, oIs_non, oIsNot_non, isNon_non, isNon_int, isNon_bl, isNon_str, isNon_tup, isNon_ref, tru_non, tru_bl, tru_int, tru_tup, lenG_tup, oLt_str, oNotIn_str, oIn_str, seqG_tup, seqG_ref, iSeqG_tup, fiEnumA, iEnumGA_tup, iEnumGA_str, fiZip, Bool.false_or, Bool.true_or, Bool.or_false, Bool.or_true, Bool.false_and, Bool.true_and, Bool.and_false, Bool.and_true, Bool.or_eq_false_iff, Bool.not_eq_true', Bool.not_eq_false', nList, nTuple, oAdd_int, line, Bool.or_eq_true, Bool.and_eq_true, Bool.not_eq_true]
      have hfe : firstHit (fun k w => match w with | .tup [_, x] => nh k x | _ => none) 0 (enumT xs) = firstHit nh 0 xs := firstHit_congr _ _ _ enumT_len fun k w x hw hx => by
        obtain ⟨y, hy, rfl⟩ := enumT_at hw
        rw [hx] at hy
        cases hy
        rfl
      refine wl_first (chk := []) (fun k w => match w with | .tup [_, x] => nh k x | _ => none) (fun ρ S' => S' = S ∧ ∃ a c, ρ = [some (.tup xs), a, c]) (fun S' => S' = S) (fun _ _ _ => rfl) _ 0 _ _ ⟨rfl, none, none, rfl⟩ (fun k w hw ρ S1 hI => ?_) (fun v hv S' hS => ?_) (fun hn ρ S1 hI => ?_)
      · obtain ⟨rfl, a, c, rfl⟩ := hI
        obtain ⟨x, hx, rfl⟩ := enumT_at hw
        have hi := isl_ok ((h.2 x (List.mem_of_getElem? hx)).lv)
        rw [Nat.zero_add]
        by_cases hc : (decide ((k : Int) = 6) || !isNon (lf x)) = true
        · have e : nh k x = some (.int (k : Int)) := if_pos hc
          simp -implicitDefEqProofs only [startE, OutS.toOut, sNext, sIf, sAsg, sRet, sRetN, sExpr, sBreak, sCont, sPar, par2, sAug, sRaise, fVar, fC, tyN, isi_NoneType_bool, isi_NoneType_int, isi_NoneType_str, isi_NoneType_tuple, isi_NoneType_list, isi_bool_bool, isi_bool_int, isi_bool_str, isi_bool_tuple, isi_bool_list, isi_int_bool, isi_int_int, isi_int_str, isi_int_tuple, isi_int_list, isi_str_bool, isi_str_int, isi_str_str, isi_str_tuple, isi_str_list, isi_tuple_bool, isi_tuple_int, isi_tuple_str, isi_tuple_tuple, isi_tuple_list, isi_list_bool, isi_list_int, isi_list_str, isi_list_tuple, isi_list_list, fBin, fCall, fNat, fIsi, fTru, fBl, fNotT, fAndT, fOrT, fAndV, fOrV, fNotV, fIf, fTup, fLst, fNeg, aNil, aCons, gNm, gSb, gTpT, gNms, blOf, o2I, n1I, n2I, nLen_eq, oSub, oMod, oDiv, oGt, oGe, oLe, oLt, pw10_4, pw10_6, pw10_9, pw10_12, pw10_18, pw10_20, pw10_30, pw10_40, pw2_32, pw2_63, pw2_64, List.length_cons, List.length_nil, List.map_cons, List.map_nil, List.getElem?_cons_zero, List.getElem?_cons_succ, List.set_cons_zero, List.set_cons_succ, List.replicate, List.cons_append, List.nil_append, List.append_nil, Option.map_some, Option.map_none, id, ite_true, ite_false, if_true, if_false, Nat.zero_add, Nat.reduceAdd, Nat.reduceSub, Nat.reduceLeDiff, Bool.not_true, Bool.not_false, Bool.false_eq_true, reduceIte, reduceCtorEq, Int.reduceLT, Int.reduceLE, Int.reduceEq, Int.reduceNe, Nat.reduceLT, Nat.reduceEqDiff, decide_true, decide_false, Int.reduceAdd, Int.reduceSub, Int.reduceNeg, Int.reducePow, Int.reduceMul, Int.reduceToNat, wp_ok, wp_exc, wp_bad, wp_bind, bind_ok, wp_of, wr_some, wr_ite, of_some, tst_some, and_ok, or_ok, ws_nx, ws_rt, ws_bk, ws_ct, ws_exc, ws_then, wp_ite, ws_ite, decide_eq_true_eq, decide_eq_false_iff_not, true_implies, false_implies, implies_true, not_true_eq_false, not_false_eq_true, true_and, and_true, forall_const, fMeth, isTy_s, isTy_l, Option.isSome_some, and_self, fSlice, pNone, pSome, ws_sFor, fiSeq, fiRng1, fiRng2, wp_fLc, wp_outI_some, wp_rng1, wp_rng2, oEq_int, oNe_int, oEq_str, oNe_str, oEq_bl, oIs_non, oIsNot_non, isNon_non, isNon_int, isNon_bl, isNon_str, isNon_tup, isNon_ref, tru_non, tru_bl, tru_int, tru_tup, lenG_tup, oLt_str, oNotIn_str, oIn_str, seqG_tup, seqG_ref, iSeqG_tup, fiEnumA, iEnumGA_tup, iEnumGA_str, fiZip, Bool.false_or, Bool.true_or, Bool.or_false, Bool.or_true, Bool.false_and, Bool.true_and, Bool.and_false, Bool.and_true, Bool.or_eq_false_iff, Bool.not_eq_true', Bool.not_eq_false', nList, nTuple, oAdd_int, line, Bool.or_eq_true, Bool.and_eq_true, Bool.not_eq_true, hi, e]
          intro h6 hn
          rw [hn] at hc
          simp [h6] at hc
        · have e : nh k x = none := if_neg hc
          simp -implicitDefEqProofs only [startE, OutS.toOut, sNext, sIf, sAsg, sRet, sRetN, sExpr, sBreak, sCont, sPar, par2, sAug, sRaise, fVar, fC, tyN, isi_NoneType_bool, isi_NoneType_int, isi_NoneType_str, isi_NoneType_tuple, isi_NoneType_list, isi_bool_bool, isi_bool_int, isi_bool_str, isi_bool_tuple, isi_bool_list, isi_int_bool, isi_int_int, isi_int_str, isi_int_tuple, isi_int_list, isi_str_bool, isi_str_int, isi_str_str, isi_str_tuple, isi_str_list, isi_tuple_bool, isi_tuple_int, isi_tuple_str, isi_tuple_tuple, isi_tuple_list, isi_list_bool, isi_list_int, isi_list_str, isi_list_tuple, isi_list_list, fBin, fCall, fNat, fIsi, fTru, fBl, fNotT, fAndT, fOrT, fAndV, fOrV, fNotV, fIf, fTup, fLst, fNeg, aNil, aCons, gNm, gSb, gTpT, gNms, blOf, o2I, n1I, n2I, nLen_eq, oSub, oMod, oDiv, oGt, oGe, oLe, oLt, pw10_4, pw10_6, pw10_9, pw10_12, pw10_18, pw10_20, pw10_30, pw10_40, pw2_32, pw2_63, pw2_64, List.length_cons, List.length_nil, List.map_cons, List.map_nil, List.getElem?_cons_zero, List.getElem?_cons_succ, List.set_cons_zero, List.set_cons_succ, List.replicate, List.cons_append, List.nil_append, List.append_nil, Option.map_some, Option.map_none, id, ite_true, ite_false, if_true, if_false, Nat.zero_add, Nat.reduceAdd, Nat.reduceSub, Nat.reduceLeDiff, Bool.not_true, Bool.not_false, Bool.false_eq_true, reduceIte, reduceCtorEq, Int.reduceLT, Int.reduceLE, Int.reduceEq, Int.reduceNe, Nat.reduceLT, Nat.reduceEqDiff, decide_true, decide_false, Int.reduceAdd, Int.reduceSub, Int.reduceNeg, Int.reducePow, Int.reduceMul, Int.reduceToNat, wp_ok, wp_exc, wp_bad, wp_bind, bind_ok, wp_of, wr_some, wr_ite, of_some, tst_some, and_ok, or_ok, ws_nx, ws_rt, ws_bk, ws_ct, ws_exc, ws_then, wp_ite, ws_ite, decide_eq_true_eq, decide_eq_false_iff_not, true_implies, false_implies, implies_true, not_true_eq_false, not_false_eq_true, true_and, and_true, forall_const, fMeth, isTy_s, isTy_l, Option.isSome_some, and_self, fSlice, pNone, pSome, ws_sFor, fiSeq, fiRng1, fiRng2, wp_fLc, wp_outI_some, wp_rng1, wp_rng2, oEq_int, oNe_int, oEq_str, oNe_str, oEq_bl, oIs_non, oIsNot_non, isNon_non, isNon_int, isNon_bl, isNon_str, isNon_tup, isNon_ref, tru_non, tru_bl, tru_int, tru_tup, lenG_tup, oLt_str, oNotIn_str, oIn_str, seqG_tup, seqG_ref, iSeqG_tup, fiEnumA, iEnumGA_tup, iEnumGA_str, fiZip, Bool.false_or, Bool.true_or, Bool.or_false, Bool.or_true, Bool.false_and, Bool.true_and, Bool.and_false, Bool.and_true, Bool.or_eq_false_iff, Bool.not_eq_true', Bool.not_eq_false', nList, nTuple, oAdd_int, line, Bool.or_eq_true, Bool.and_eq_true, Bool.not_eq_true, hi, e]
          simp only [Bool.or_eq_true, decide_eq_true_eq, Bool.not_eq_true', not_or, Bool.not_eq_false] at hc
          exact ⟨fun h => absurd h hc.1, fun _ => ⟨fun h => absurd h (by simp [hc.2]), fun _ => ⟨_, _, rfl⟩⟩⟩
      · rw [hfe] at hv
        rw [hv]
        exact ⟨rfl, hS⟩
      · obtain ⟨rfl, a, c, rfl⟩ := hI
        rw [hfe] at hn
        simp -implicitDefEqProofs only [startE, OutS.toOut, sNext, sIf, sAsg, sRet, sRetN, sExpr, sBreak, sCont, sPar, par2, sAug, sRaise, fVar, fC, tyN, isi_NoneType_bool, isi_NoneType_int, isi_NoneType_str, isi_NoneType_tuple, isi_NoneType_list, isi_bool_bool, isi_bool_int, isi_bool_str, isi_bool_tuple, isi_bool_list, isi_int_bool, isi_int_int, isi_int_str, isi_int_tuple, isi_int_list, isi_str_bool, isi_str_int, isi_str_str, isi_str_tuple, isi_str_list, isi_tuple_bool, isi_tuple_int, isi_tuple_str, isi_tuple_tuple, isi_tuple_list, isi_list_bool, isi_list_int, isi_list_str, isi_list_tuple, isi_list_list, fBin, fCall, fNat, fIsi, fTru, fBl, fNotT, fAndT, fOrT, fAndV, fOrV, fNotV, fIf, fTup, fLst, fNeg, aNil, aCons, gNm, gSb, gTpT, gNms, blOf, o2I, n1I, n2I, nLen_eq, oSub, oMod, oDiv, oGt, oGe, oLe, oLt, pw10_4, pw10_6, pw10_9, pw10_12, pw10_18, pw10_20, pw10_30, pw10_40, pw2_32, pw2_63, pw2_64, List.length_cons, List.length_nil, List.map_cons, List.map_nil, List.getElem?_cons_zero, List.getElem?_cons_succ, List.set_cons_zero, List.set_cons_succ, List.replicate, List.cons_append, List.nil_append, List.append_nil, Option.map_some, Option.map_none, id, ite_true, ite_false, if_true, if_false, Nat.zero_add, Nat.reduceAdd, Nat.reduceSub, Nat.reduceLeDiff, Bool.not_true, Bool.not_false, Bool.false_eq_true, reduceIte, reduceCtorEq, Int.reduceLT, Int.reduceLE, Int.reduceEq, Int.reduceNe, Nat.reduceLT, Nat.reduceEqDiff, decide_true, decide_false, Int.reduceAdd, Int.reduceSub, Int.reduceNeg, Int.reducePow, Int.reduceMul, Int.reduceToNat, wp_ok, wp_exc, wp_bad, wp_bind, bind_ok, wp_of, wr_some, wr_ite, of_some, tst_some, and_ok, or_ok, ws_nx, ws_rt, ws_bk, ws_ct, ws_exc, ws_then, wp_ite, ws_ite, decide_eq_true_eq, decide_eq_false_iff_not, true_implies, false_implies, implies_true, not_true_eq_false, not_false_eq_true, true_and, and_true, forall_const, fMeth, isTy_s, isTy_l, Option.isSome_some, and_self, fSlice, pNone, pSome, ws_sFor, fiSeq, fiRng1, fiRng2, wp_fLc, wp_outI_some, wp_rng1, wp_rng2, oEq_int, oNe_int, oEq_str, oNe_str, oEq_bl, oIs_non, oIsNot_non, isNon_non, isNon_int, isNon_bl, isNon_str, isNon_tup, isNon_ref, tru_non, tru_bl, tru_int, tru_tup, lenG_tup, oLt_str, oNotIn_str, oIn_str, seqG_tup, seqG_ref, iSeqG_tup, fiEnumA, iEnumGA_tup, iEnumGA_str, fiZip, Bool.false_or, Bool.true_or, Bool.or_false, Bool.or_true, Bool.false_and, Bool.true_and, Bool.and_false, Bool.and_true, Bool.or_eq_false_iff, Bool.not_eq_true', Bool.not_eq_false', nList, nTuple, oAdd_int, line, Bool.or_eq_true, Bool.and_eq_true, Bool.not_eq_true, hn]
        rfl
  | ref r =>
    obtain ⟨_, xs, e, _⟩ := h
    refine ws_seq ?_
    try simp -implicitDefEqProofs only [startE, OutS.toOut, sNext, sIf, sAsg, sRet, sRetN, sExpr, sBreak, sCont, sPar, par2, sAug, sRaise, fVar, fC, tyN, isi_NoneType_bool, isi_NoneType_int, isi_NoneType_str, isi_NoneType_tuple, isi_NoneType_list, isi_bool_bool, isi_bool_int, isi_bool_str, isi_bool_tuple, isi_bool_list, isi_int_bool, isi_int_int, isi_int_str, isi_int_tuple, isi_int_list, isi_str_bool, isi_str_int, isi_str_str, isi_str_tuple, isi_str_list, isi_tuple_bool, isi_tuple_int, isi_tuple_str, isi_tuple_tuple, isi_tuple_list, isi_list_bool, isi_list_int, isi_list_str, isi_list_tuple, isi_list_list, fBin, fCall, fNat, fIsi, fTru, fBl, fNotT, fAndT, fOrT, fAndV, fOrV, fNotV, fIf, fTup, fLst, fNeg, aNil, aCons, gNm, gSb, gTpT, gNms, blOf, o2I, n1I, n2I, nLen_eq, oSub, oMod, oDiv, oGt, oGe, oLe, oLt, pw10_4, pw10_6, pw10_9, pw10_12, pw10_18, pw10_20, pw10_30, pw10_40, pw2_32, pw2_63, pw2_64, List.length_cons, List.length_nil, List.map_cons, List.map_nil, List.getElem?_cons_zero, List.getElem?_cons_succ, List.set_cons_zero, List.set_cons_succ, List.replicate, List.cons_append, List.nil_append, List.append_nil, Option.map_some, Option.map_none, id, ite_true, ite_false, if_true, if_false, Nat.zero_add, Nat.reduceAdd, Nat.reduceSub, Nat.reduceLeDiff, Bool.not_true, Bool.not_false, Bool.false_eq_true, reduceIte, reduceCtorEq, Int.reduceLT, Int.reduceLE, Int.reduceEq, Int.reduceNe, Nat.reduceLT, Nat.reduceEqDiff, decide_true, decide_false, Int.reduceAdd, Int.reduceSub, Int.reduceNeg, Int.reducePow, Int.reduceMul, Int.reduceToNat, wp_ok, wp_exc, wp_bad, wp_bind, bind_ok, wp_of, wr_some, wr_ite, of_some, tst_some, and_ok, or_ok, ws_nx, ws_rt, ws_bk, ws_ct, ws_exc, ws_then, wp_ite, ws_ite, decide_eq_true_eq, decide_eq_false_iff_not, true_implies, false_implies, implies_true, not_true_eq_false, not_false_eq_true, true_and, and_true, forall_const, fMeth, isTy_s, isTy_l, Option.isSome_some, and_self, fSlice, pNone, pSome, ws_sFor, fiSeq, fiRng1, fiRng2, wp_fLc, wp_outI_some, wp_rng1, wp_rng2, oEq_int, oNe_int, oEq_str, oNe_str, oEq_bl, oIs_non, oIsNot_non, isNon_non, isNon_int, isNon_bl, isNon_str, isNon_tup, isNon_ref, tru_non, tru_bl, tru_int, tru_tup, lenG_tup, oLt_str, oNotIn_str, oIn_str, seqG_tup, seqG_ref, iSeqG_tup, fiEnumA, iEnumGA_tup, iEnumGA_str, fiZip, Bool.false_or, Bool.true_or, Bool.or_false, Bool.or_true, Bool.false_and, Bool.true_and, Bool.and_false, Bool.and_true, Bool.or_eq_false_iff, Bool.not_eq_true', Bool.not_eq_false', nList, nTuple, oAdd_int, line, Bool.or_eq_true, Bool.and_eq_true, Bool.not_eq_true]
    simp -implicitDefEqProofs only [startE, OutS.toOut, sNext, sIf, sAsg, sRet, sRetN, sExpr, sBreak, sCont, sPar, par2, sAug, sRaise, fVar, fC, tyN, isi_NoneType_bool, isi_NoneType_int, isi_NoneType_str, isi_NoneType_tuple, isi_NoneType_list, isi_bool_bool, isi_bool_int, isi_bool_str, isi_bool_tuple, isi_bool_list, isi_int_bool, isi_int_int, isi_int_str, isi_int_tuple, isi_int_list, isi_str_bool, isi_str_int, isi_str_str, isi_str_tuple, isi_str_list, isi_tuple_bool, isi_tuple_int, isi_tuple_str, isi_tuple_tuple, isi_tuple_list, isi_list_bool, isi_list_int, isi_list_str, isi_list_tuple, isi_list_list, fBin, fCall, fNat, fIsi, fTru, fBl, fNotT, fAndT, fOrT, fAndV, fOrV, fNotV, fIf, fTup, fLst, fNeg, aNil, aCons, gNm, gSb, gTpT, gNms, blOf, o2I, n1I, n2I, nLen_eq, oSub, oMod, oDiv, oGt, oGe, oLe, oLt, pw10_4, pw10_6, pw10_9, pw10_12, pw10_18, pw10_20, pw10_30, pw10_40, pw2_32, pw2_63, pw2_64, List.length_cons, List.length_nil, List.map_cons, List.map_nil, List.getElem?_cons_zero, List.getElem?_cons_succ, List.set_cons_zero, List.set_cons_succ, List.replicate, List.cons_append, List.nil_append, List.append_nil, Option.map_some, Option.map_none, id, ite_true, ite_false, if_true, if_false, Nat.zero_add, Nat.reduceAdd, Nat.reduceSub, Nat.reduceLeDiff, Bool.not_true, Bool.not_false, Bool.false_eq_true, reduceIte, reduceCtorEq, Int.reduceLT, Int.reduceLE, Int.reduceEq, Int.reduceNe, Nat.reduceLT, Nat.reduceEqDiff, decide_true, decide_false, Int.reduceAdd, Int.reduceSub, Int.reduceNeg, Int.reducePow, Int.reduceMul, Int.reduceToNat, wp_ok, wp_exc, wp_bad, wp_bind, bind_ok, wp_of, wr_some, wr_ite, of_some, tst_some, and_ok, or_ok, ws_nx, ws_rt, ws_bk, ws_ct, ws_exc, ws_then, wp_ite, ws_ite, decide_eq_true_eq, decide_eq_false_iff_not, true_implies, false_implies, implies_true, not_true_eq_false, not_false_eq_true, true_and, and_true, forall_const, fMeth, isTy_s, isTy_l, Option.isSome_some, and_self, fSlice, pNone, pSome, ws_sFor, fiSeq, fiRng1, fiRng2, wp_fLc, wp_outI_some, wp_rng1, wp_rng2, oEq_int, oNe_int, oEq_str, oNe_str, oEq_bl, oIs_non, oIsNot_non, isNon_non, isNon_int, isNon_bl, isNon_str, isNon_tup, isNon_ref, tru_non, tru_bl, tru_int, tru_tup, lenG_tup, oLt_str, oNotIn_str, oIn_str, seqG_tup, seqG_ref, iSeqG_tup, fiEnumA, iEnumGA_tup, iEnumGA_str, fiZip, Bool.false_or, Bool.true_or, Bool.or_false, Bool.or_true, Bool.false_and, Bool.true_and, Bool.and_false, Bool.and_true, Bool.or_eq_false_iff, Bool.not_eq_true', Bool.not_eq_false', nList, nTuple, oAdd_int, line, Bool.or_eq_true, Bool.and_eq_true, Bool.not_eq_true, e, nf]
  | _ =>
    refine ws_seq ?_
    try simp -implicitDefEqProofs only [startE, OutS.toOut, sNext, sIf, sAsg, sRet, sRetN, sExpr, sBreak, sCont, sPar, par2, sAug, sRaise, fVar, fC, tyN, isi_NoneType_bool, isi_NoneType_int, isi_NoneType_str, isi_NoneType_tuple, isi_NoneType_list, isi_bool_bool, isi_bool_int, isi_bool_str, isi_bool_tuple, isi_bool_list, isi_int_bool, isi_int_int, isi_int_str, isi_int_tuple, isi_int_list, isi_str_bool, isi_str_int, isi_str_str, isi_str_tuple, isi_str_list, isi_tuple_bool, isi_tuple_int, isi_tuple_str, isi_tuple_tuple, isi_tuple_list, isi_list_bool, isi_list_int, isi_list_str, isi_list_tuple, isi_list_list, fBin, fCall, fNat, fIsi, fTru, fBl, fNotT, fAndT, fOrT, fAndV, fOrV, fNotV, fIf, fTup, fLst, fNeg, aNil, aCons, gNm, gSb, gTpT, gNms, blOf, o2I, n1I, n2I, nLen_eq, oSub, oMod, oDiv, oGt, oGe, oLe, oLt, pw10_4, pw10_6, pw10_9, pw10_12, pw10_18, pw10_20, pw10_30, pw10_40, pw2_32, pw2_63, pw2_64, List.length_cons, List.length_nil, List.map_cons, List.map_nil, List.getElem?_cons_zero, List.getElem?_cons_succ, List.set_cons_zero, List.set_cons_succ, List.replicate, List.cons_append, List.nil_append, List.append_nil, Option.map_some, Option.map_none, id, ite_true, ite_false, if_true, if_false, Nat.zero_add, Nat.reduceAdd, Nat.reduceSub, Nat.reduceLeDiff, Bool.not_true, Bool.not_false, Bool.false_eq_true, reduceIte, reduceCtorEq, Int.reduceLT, Int.reduceLE, Int.reduceEq, Int.reduceNe, Nat.reduceLT, Nat.reduceEqDiff, decide_true, decide_false, Int.reduceAdd, Int.reduceSub, Int.reduceNeg, Int.reducePow, Int.reduceMul, Int.reduceToNat, wp_ok, wp_exc, wp_bad, wp_bind, bind_ok, wp_of, wr_some, wr_ite, of_some, tst_some, and_ok, or_ok, ws_nx, ws_rt, ws_bk, ws_ct, ws_exc, ws_then, wp_ite, ws_ite, decide_eq_true_eq, decide_eq_false_iff_not, true_implies, false_implies, implies_true, not_true_eq_false, not_false_eq_true, true_and, and_true, forall_const, fMeth, isTy_s, isTy_l, Option.isSome_some, and_self, fSlice, pNone, pSome, ws_sFor, fiSeq, fiRng1, fiRng2, wp_fLc, wp_outI_some, wp_rng1, wp_rng2, oEq_int, oNe_int, oEq_str, oNe_str, oEq_bl, oIs_non, oIsNot_non, isNon_non, isNon_int, isNon_bl, isNon_str, isNon_tup, isNon_ref, tru_non, tru_bl, tru_int, tru_tup, lenG_tup, oLt_str, oNotIn_str, oIn_str, seqG_tup, seqG_ref, iSeqG_tup, fiEnumA, iEnumGA_tup, iEnumGA_str, fiZip, Bool.false_or, Bool.true_or, Bool.or_false, Bool.or_true, Bool.false_and, Bool.true_and, Bool.and_false, Bool.and_true, Bool.or_eq_false_iff, Bool.not_eq_true', Bool.not_eq_false', nList, nTuple, oAdd_int, line, Bool.or_eq_true, Bool.and_eq_true, Bool.not_eq_true]
    simp -implicitDefEqProofs only [startE, OutS.toOut, sNext, sIf, sAsg, sRet, sRetN, sExpr, sBreak, sCont, sPar, par2, sAug, sRaise, fVar, fC, tyN, isi_NoneType_bool, isi_NoneType_int, isi_NoneType_str, isi_NoneType_tuple, isi_NoneType_list, isi_bool_bool, isi_bool_int, isi_bool_str, isi_bool_tuple, isi_bool_list, isi_int_bool, isi_int_int, isi_int_str, isi_int_tuple, isi_int_list, isi_str_bool, isi_str_int, isi_str_str, isi_str_tuple, isi_str_list, isi_tuple_bool, isi_tuple_int, isi_tuple_str, isi_tuple_tuple, isi_tuple_list, isi_list_bool, isi_list_int, isi_list_str, isi_list_tuple, isi_list_list, fBin, fCall, fNat, fIsi, fTru, fBl, fNotT, fAndT, fOrT, fAndV, fOrV, fNotV, fIf, fTup, fLst, fNeg, aNil, aCons, gNm, gSb, gTpT, gNms, blOf, o2I, n1I, n2I, nLen_eq, oSub, oMod, oDiv, oGt, oGe, oLe, oLt, pw10_4, pw10_6, pw10_9, pw10_12, pw10_18, pw10_20, pw10_30, pw10_40, pw2_32, pw2_63, pw2_64, List.length_cons, List.length_nil, List.map_cons, List.map_nil, List.getElem?_cons_zero, List.getElem?_cons_succ, List.set_cons_zero, List.set_cons_succ, List.replicate, List.cons_append, List.nil_append, List.append_nil, Option.map_some, Option.map_none, id, ite_true, ite_false, if_true, if_false, Nat.zero_add, Nat.reduceAdd, Nat.reduceSub, Nat.reduceLeDiff, Bool.not_true, Bool.not_false, Bool.false_eq_true, reduceIte, reduceCtorEq, Int.reduceLT, Int.reduceLE, Int.reduceEq, Int.reduceNe, Nat.reduceLT, Nat.reduceEqDiff, decide_true, decide_false, Int.reduceAdd, Int.reduceSub, Int.reduceNeg, Int.reducePow, Int.reduceMul, Int.reduceToNat, wp_ok, wp_exc, wp_bad, wp_bind, bind_ok, wp_of, wr_some, wr_ite, of_some, tst_some, and_ok, or_ok, ws_nx, ws_rt, ws_bk, ws_ct, ws_exc, ws_then, wp_ite, ws_ite, decide_eq_true_eq, decide_eq_false_iff_not, true_implies, false_implies, implies_true, not_true_eq_false, not_false_eq_true, true_and, and_true, forall_const, fMeth, isTy_s, isTy_l, Option.isSome_some, and_self, fSlice, pNone, pSome, ws_sFor, fiSeq, fiRng1, fiRng2, wp_fLc, wp_outI_some, wp_rng1, wp_rng2, oEq_int, oNe_int, oEq_str, oNe_str, oEq_bl, oIs_non, oIsNot_non, isNon_non, isNon_int, isNon_bl, isNon_str, isNon_tup, isNon_ref, tru_non, tru_bl, tru_int, tru_tup, lenG_tup, oLt_str, oNotIn_str, oIn_str, seqG_tup, seqG_ref, iSeqG_tup, fiEnumA, iEnumGA_tup, iEnumGA_str, fiZip, Bool.false_or, Bool.true_or, Bool.or_false, Bool.or_true, Bool.false_and, Bool.true_and, Bool.and_false, Bool.and_true, Bool.or_eq_false_iff, Bool.not_eq_true', Bool.not_eq_false', nList, nTuple, oAdd_int, line, Bool.or_eq_true, Bool.and_eq_true, Bool.not_eq_true, nf]
theorem lawname_ok {n : Nat} {v : T} (h : MvP p S (n + 1) v) : g_law_name_fault [v] S = .ok (nf v) S := by
  refine eq_of_wp ?_
  unfold g_law_name_fault
  refine wp_def rfl ?_
  unfold g_law_name_fault_b
  simp only [startE, List.map_cons, List.map_nil, List.length_cons, List.length_nil, List.replicate, List.cons_append, List.nil_append, Nat.reduceAdd, Nat.reduceSub, Nat.zero_add]
  cases v with
  | tup xs =>
    have hl : xs.length ≤ 1000 := h.1
    refine ws_seq ?_
    try simp -implicitDefEqProofs only [startE, OutS.toOut, sNext, sIf, sAsg, sRet, sRetN, sExpr, sBreak, sCont, sPar, par2, sAug, sRaise, fVar, fC, tyN, isi_NoneType_bool, isi_NoneType_int, isi_NoneType_str, isi_NoneType_tuple, isi_NoneType_list, isi_bool_bool, isi_bool_int, isi_bool_str, isi_bool_tuple, isi_bool_list, isi_int_bool, isi_int_int, isi_int_str, isi_int_tuple, isi_int_list, isi_str_bool, isi_str_int, isi_str_str, isi_str_tuple, isi_str_list, isi_tuple_bool, isi_tuple_int, isi_tuple_str, isi_tuple_tuple, isi_tuple_list, isi_list_bool, isi_list_int, isi_list_str, isi_list_tuple, isi_list_list, fBin, fCall, fNat, fIsi, fTru, fBl, fNotT, fAndT, fOrT, fAndV, fOrV, fNotV, fIf, fTup, fLst, fNeg, aNil, aCons, gNm, gSb, gTpT, gNms, blOf, o2I, n1I, n2I, nLen_eq, oSub, oMod, oDiv, oGt, oGe, oLe, oLt, pw10_4, pw10_6, pw10_9, pw10_12, pw10_18, pw10_20, pw10_30, pw10_40, pw2_32, pw2_63, pw2_64, List.length_cons, List.length_nil, List.map_cons, List.map_nil, List.getElem?_cons_zero, List.getElem?_cons_succ, List.set_cons_zero, List.set_cons_succ, List.replicate, List.cons_append, List.nil_append, List.append_nil, Option.map_some, Option.map_none, id, ite_true, ite_false, if_true, if_false, Nat.zero_add, Nat.reduceAdd, Nat.reduceSub, Nat.reduceLeDiff, Bool.not_true, Bool.not_false, Bool.false_eq_true, reduceIte, reduceCtorEq, Int.reduceLT, Int.reduceLE, Int.reduceEq, Int.reduceNe, Nat.reduceLT, Nat.reduceEqDiff, decide_true, decide_false, Int.reduceAdd, Int.reduceSub, Int.reduceNeg, Int.reducePow, Int.reduceMul, Int.reduceToNat, wp_ok, wp_exc, wp_bad, wp_bind, bind_ok, wp_of, wr_some, wr_ite, of_some, tst_some, and_ok, or_ok, ws_nx, ws_rt, ws_bk, ws_ct, ws_exc, ws_then, wp_ite, ws_ite, decide_eq_true_eq, decide_eq_false_iff_not, true_implies, false_implies, implies_true, not_true_eq_false, not_false_eq_true, true_and, and_true, forall_const, fMeth, isTy_s, isTy_l, Option.isSome_some, and_self, fSlice, pNone, pSome, ws_sFor, fiSeq, fiRng1, fiRng2, wp_fLc, wp_outI_some, wp_rng1, wp_rng2, oEq_int, oNe_int, oEq_str, oNe_str, oEq_bl, oIs_non, oIsNot_non, isNon_non, isNon_int, isNon_bl, isNon_str, isNon_tup, isNon_ref, tru_non, tru_bl, tru_int, tru_tup, lenG_tup, oLt_str, oNotIn_str, oIn_str, seqG_tup, seqG_ref, iSeqG_tup, fiEnumA, iEnumGA_tup, iEnumGA_str, fiZip, Bool.false_or, Bool.true_or, Bool.or_false, Bool.or_true, Bool.false_and, Bool.true_and, Bool.and_false, Bool.and_true, Bool.or_eq_false_iff, Bool.not_eq_true', Bool.not_eq_false', nList, nTuple, oAdd_int, line, Bool.or_eq_true, Bool.and_eq_true, Bool.not_eq_true]
    refine ⟨fun h0 => ?_, fun h0 => ?_⟩
    · exact (if_pos (by omega)).symm
    · refine ws_seq ?_
      simp -implicitDefEqProofs only [startE, OutS.toOut, sNext, sIf, sAsg, sRet, sRetN, sExpr, sBreak, sCont, sPar, par2, sAug, sRaise, fVar, fC, tyN, isi_NoneType_bool, isi_NoneType_int, isi_NoneType_str, isi_NoneType_tuple, isi_NoneType_list, isi_bool_bool, isi_bool_int, isi_bool_str, isi_bool_tuple, isi_bool_list, isi_int_bool, isi_int_int, isi_int_str, isi_int_tuple, isi_int_list, isi_str_bool, isi_str_int, isi_str_str, isi_str_tuple, isi_str_list, isi_tuple_bool, isi_tuple_int, isi_tuple_str, isi_tuple_tuple, isi_tuple_list, isi_list_bool, isi_list_int, isi_list_str, isi_list_tuple, isi_list_list, fBin, fCall, fNat, fIsi, fTru, fBl, fNotT, fAndT, fOrT, fAndV, fOrV, fNotV, fIf, fTup, fLst, fNeg, aNil, aCons, gNm, gSb, gTpT, gNms, blOf, o2I, n1I, n2I, nLen_eq, oSub, oMod, oDiv, oGt, oGe, oLe, oLt, pw10_4, pw10_6, pw10_9, pw10_12, pw10_18, pw10_20, pw10_30, pw10_40, pw2_32, pw2_63, pw2_64, List.length_cons, List.length_nil, List.map_cons, List.map_nil, List.getElem?_cons_zero, List.getElem?_cons_succ, List.set_cons_zero, List.set_cons_succ, List.replicate, List.cons_append, List.nil_append, List.append_nil, Option.map_some, Option.map_none, id, ite_true, ite_false, if_true, if_false, Nat.zero_add, Nat.reduceAdd, Nat.reduceSub, Nat.reduceLeDiff, Bool.not_true, Bool.not_false, Bool.false_eq_true, reduceIte, reduceCtorEq, Int.reduceLT, Int.reduceLE, Int.reduceEq, Int.reduceNe, Nat.reduceLT, Nat.reduceEqDiff, decide_true, decide_false, Int.reduceAdd, Int.reduceSub, Int.reduceNeg, Int.reducePow, Int.reduceMul, Int.reduceToNat, wp_ok, wp_exc, wp_bad, wp_bind, bind_ok, wp_of, wr_some, wr_ite, of_some, tst_some, and_ok, or_ok, ws_nx, ws_rt, ws_bk, ws_ct, ws_exc, ws_then, wp_ite, ws_ite, decide_eq_true_eq, decide_eq_false_iff_not, true_implies, false_implies, implies_true, not_true_eq_false, not_false_eq_true, true_and, and_true, forall_const, fMeth, isTy_s, isTy_l, Option.isSome_some, and_self, fSlice, pNone, pSome, ws_sFor, fiSeq, fiRng1, fiRng2, wp_fLc, wp_outI_some, wp_rng1, wp_rng2, oEq_int, oNe_int, oEq_str, oNe_str, oEq_bl, oIs_non, oIsNot_non, isNon_non, isNon_int, isNon_bl, isNon_str, isNon_tup, isNon_ref, tru_non, tru_bl, tru_int, tru_tup, lenG_tup, oLt_str, oNotIn_str, oIn_str, seqG_tup, seqG_ref, iSeqG_tup, fiEnumA, iEnumGA_tup, iEnumGA_str, fiZip, Bool.false_or, Bool.true_or, Bool.or_false, Bool.or_true, Bool.false_and, Bool.true_and, Bool.and_false, Bool.and_true, Bool.or_eq_false_iff, Bool.not_eq_true', Bool.not_eq_false', nList, nTuple, oAdd_int, line, Bool.or_eq_true, Bool.and_eq_true, Bool.not_eq_true]
      refine ⟨rOk_of (by omega), ?_⟩
      simp only [nf, if_neg (show ¬ xs.length = 0 by omega)]
      rw [rngT_J, Int.toNat_natCast]
      have hfe : firstHit (fun k _ => match xs[k]? with | some x => nh k x | none => none) 0 (rngJ 0 xs.length) = firstHit nh 0 xs := firstHit_congr _ _ _ rngJ_len fun k w x hw hx => by
        rw [Nat.zero_add, hx]
      refine wl_first (chk := []) (fun k _ => match xs[k]? with | some x => nh k x | none => none) (fun ρ S' => S' = S ∧ ∃ a, ρ = [some (.tup xs), a]) (fun S' => S' = S) (fun _ _ _ => rfl) _ 0 _ _ ⟨rfl, none, rfl⟩ (fun k w hw ρ S1 hI => ?_) (fun v hv S' hS => ?_) (fun hn ρ S1 hI => ?_)
      · obtain ⟨rfl, a, rfl⟩ := hI
        obtain ⟨hk, rfl⟩ := rngJ_at hw
        rw [Nat.zero_add]
        have hx := List.getElem?_eq_getElem hk
        generalize xs[k] = x at hx
        have hi := text_ok ((h.2 x (List.mem_of_getElem? hx)).lv)
        have hix := ix_tup (S := S1) hx
        rw [hx]
        by_cases hc : (decide ((k : Int) = 6) || !isNon (lf x)) = true
        · have e : nh k x = some (.int (k : Int)) := if_pos hc
          simp -implicitDefEqProofs only [startE, OutS.toOut, sNext, sIf, sAsg, sRet, sRetN, sExpr, sBreak, sCont, sPar, par2, sAug, sRaise, fVar, fC, tyN, isi_NoneType_bool, isi_NoneType_int, isi_NoneType_str, isi_NoneType_tuple, isi_NoneType_list, isi_bool_bool, isi_bool_int, isi_bool_str, isi_bool_tuple, isi_bool_list, isi_int_bool, isi_int_int, isi_int_str, isi_int_tuple, isi_int_list, isi_str_bool, isi_str_int, isi_str_str, isi_str_tuple, isi_str_list, isi_tuple_bool, isi_tuple_int, isi_tuple_str, isi_tuple_tuple, isi_tuple_list, isi_list_bool, isi_list_int, isi_list_str, isi_list_tuple, isi_list_list, fBin, fCall, fNat, fIsi, fTru, fBl, fNotT, fAndT, fOrT, fAndV, fOrV, fNotV, fIf, fTup, fLst, fNeg, aNil, aCons, gNm, gSb, gTpT, gNms, blOf, o2I, n1I, n2I, nLen_eq, oSub, oMod, oDiv, oGt, oGe, oLe, oLt, pw10_4, pw10_6, pw10_9, pw10_12, pw10_18, pw10_20, pw10_30, pw10_40, pw2_32, pw2_63, pw2_64, List.length_cons, List.length_nil, List.map_cons, List.map_nil, List.getElem?_cons_zero, List.getElem?_cons_succ, List.set_cons_zero, List.set_cons_succ, List.replicate, List.cons_append, List.nil_append, List.append_nil, Option.map_some, Option.map_none, id, ite_true, ite_false, if_true, if_false, Nat.zero_add, Nat.reduceAdd, Nat.reduceSub, Nat.reduceLeDiff, Bool.not_true, Bool.not_false, Bool.false_eq_true, reduceIte, reduceCtorEq, Int.reduceLT, Int.reduceLE, Int.reduceEq, Int.reduceNe, Nat.reduceLT, Nat.reduceEqDiff, decide_true, decide_false, Int.reduceAdd, Int.reduceSub, Int.reduceNeg, Int.reducePow, Int.reduceMul, Int.reduceToNat, wp_ok, wp_exc, wp_bad, wp_bind, bind_ok, wp_of, wr_some, wr_ite, of_some, tst_some, and_ok, or_ok, ws_nx, ws_rt, ws_bk, ws_ct, ws_exc, ws_then, wp_ite, ws_ite, decide_eq_true_eq, decide_eq_false_iff_not, true_implies, false_implies, implies_true, not_true_eq_false, not_false_eq_true, true_and, and_true, forall_const, fMeth, isTy_s, isTy_l, Option.isSome_some, and_self, fSlice, pNone, pSome, ws_sFor, fiSeq, fiRng1, fiRng2, wp_fLc, wp_outI_some, wp_rng1, wp_rng2, oEq_int, oNe_int, oEq_str, oNe_str, oEq_bl, oIs_non, oIsNot_non, isNon_non, isNon_int, isNon_bl, isNon_str, isNon_tup, isNon_ref, tru_non, tru_bl, tru_int, tru_tup, lenG_tup, oLt_str, oNotIn_str, oIn_str, seqG_tup, seqG_ref, iSeqG_tup, fiEnumA, iEnumGA_tup, iEnumGA_str, fiZip, Bool.false_or, Bool.true_or, Bool.or_false, Bool.or_true, Bool.false_and, Bool.true_and, Bool.and_false, Bool.and_true, Bool.or_eq_false_iff, Bool.not_eq_true', Bool.not_eq_false', nList, nTuple, oAdd_int, line, Bool.or_eq_true, Bool.and_eq_true, Bool.not_eq_true, hi, e, hix]
          intro h6 hn
          rw [hn] at hc
          simp [h6] at hc
        · have e : nh k x = none := if_neg hc
          simp -implicitDefEqProofs only [startE, OutS.toOut, sNext, sIf, sAsg, sRet, sRetN, sExpr, sBreak, sCont, sPar, par2, sAug, sRaise, fVar, fC, tyN, isi_NoneType_bool, isi_NoneType_int, isi_NoneType_str, isi_NoneType_tuple, isi_NoneType_list, isi_bool_bool, isi_bool_int, isi_bool_str, isi_bool_tuple, isi_bool_list, isi_int_bool, isi_int_int, isi_int_str, isi_int_tuple, isi_int_list, isi_str_bool, isi_str_int, isi_str_str, isi_str_tuple, isi_str_list, isi_tuple_bool, isi_tuple_int, isi_tuple_str, isi_tuple_tuple, isi_tuple_list, isi_list_bool, isi_list_int, isi_list_str, isi_list_tuple, isi_list_list, fBin, fCall, fNat, fIsi, fTru, fBl, fNotT, fAndT, fOrT, fAndV, fOrV, fNotV, fIf, fTup, fLst, fNeg, aNil, aCons, gNm, gSb, gTpT, gNms, blOf, o2I, n1I, n2I, nLen_eq, oSub, oMod, oDiv, oGt, oGe, oLe, oLt, pw10_4, pw10_6, pw10_9, pw10_12, pw10_18, pw10_20, pw10_30, pw10_40, pw2_32, pw2_63, pw2_64, List.length_cons, List.length_nil, List.map_cons, List.map_nil, List.getElem?_cons_zero, List.getElem?_cons_succ, List.set_cons_zero, List.set_cons_succ, List.replicate, List.cons_append, List.nil_append, List.append_nil, Option.map_some, Option.map_none, id, ite_true, ite_false, if_true, if_false, Nat.zero_add, Nat.reduceAdd, Nat.reduceSub, Nat.reduceLeDiff, Bool.not_true, Bool.not_false, Bool.false_eq_true, reduceIte, reduceCtorEq, Int.reduceLT, Int.reduceLE, Int.reduceEq, Int.reduceNe, Nat.reduceLT, Nat.reduceEqDiff, decide_true, decide_false, Int.reduceAdd, Int.reduceSub, Int.reduceNeg, Int.reducePow, Int.reduceMul, Int.reduceToNat, wp_ok, wp_exc, wp_bad, wp_bind, bind_ok, wp_of, wr_some, wr_ite, of_some, tst_some, and_ok, or_ok, ws_nx, ws_rt, ws_bk, ws_ct, ws_exc, ws_then, wp_ite, ws_ite, decide_eq_true_eq, decide_eq_false_iff_not, true_implies, false_implies, implies_true, not_true_eq_false, not_false_eq_true, true_and, and_true, forall_const, fMeth, isTy_s, isTy_l, Option.isSome_some, and_self, fSlice, pNone, pSome, ws_sFor, fiSeq, fiRng1, fiRng2, wp_fLc, wp_outI_some, wp_rng1, wp_rng2, oEq_int, oNe_int, oEq_str, oNe_str, oEq_bl, oIs_non, oIsNot_non, isNon_non, isNon_int, isNon_bl, isNon_str, isNon_tup, isNon_ref, tru_non, tru_bl, tru_int, tru_tup, lenG_tup, oLt_str, oNotIn_str, oIn_str, seqG_tup, seqG_ref, iSeqG_tup, fiEnumA, iEnumGA_tup, iEnumGA_str, fiZip, Bool.false_or, Bool.true_or, Bool.or_false, Bool.or_true, Bool.false_and, Bool.true_and, Bool.and_false, Bool.and_true, Bool.or_eq_false_iff, Bool.not_eq_true', Bool.not_eq_false', nList, nTuple, oAdd_int, line, Bool.or_eq_true, Bool.and_eq_true, Bool.not_eq_true, hi, e, hix]
          simp only [Bool.or_eq_true, decide_eq_true_eq, Bool.not_eq_true', not_or, Bool.not_eq_false] at hc
          exact ⟨fun h => absurd h hc.1, fun _ => ⟨fun h => absurd h (by simp [hc.2]), fun _ => ⟨_, rfl⟩⟩⟩
      · rw [hfe] at hv
        rw [hv]
        exact ⟨rfl, hS⟩
      · obtain ⟨rfl, a, rfl⟩ := hI
        rw [hfe] at hn
        simp -implicitDefEqProofs only [startE, OutS.toOut, sNext, sIf, sAsg, sRet, sRetN, sExpr, sBreak, sCont, sPar, par2, sAug, sRaise, fVar, fC, tyN, isi_NoneType_bool, isi_NoneType_int, isi_NoneType_str, isi_NoneType_tuple, isi_NoneType_list, isi_bool_bool, isi_bool_int, isi_bool_str, isi_bool_tuple, isi_bool_list, isi_int_bool, isi_int_int, isi_int_str, isi_int_tuple, isi_int_list, isi_str_bool, isi_str_int, isi_str_str, isi_str_tuple, isi_str_list, isi_tuple_bool, isi_tuple_int, isi_tuple_str, isi_tuple_tuple, isi_tuple_list, isi_list_bool, isi_list_int, isi_list_str, isi_list_tuple, isi_list_list, fBin, fCall, fNat, fIsi, fTru, fBl, fNotT, fAndT, fOrT, fAndV, fOrV, fNotV, fIf, fTup, fLst, fNeg, aNil, aCons, gNm, gSb, gTpT, gNms, blOf, o2I, n1I, n2I, nLen_eq, oSub, oMod, oDiv, oGt, oGe, oLe, oLt, pw10_4, pw10_6, pw10_9, pw10_12, pw10_18, pw10_20, pw10_30, pw10_40, pw2_32, pw2_63, pw2_64, List.length_cons, List.length_nil, List.map_cons, List.map_nil, List.getElem?_cons_zero, List.getElem?_cons_succ, List.set_cons_zero, List.set_cons_succ, List.replicate, List.cons_append, List.nil_append, List.append_nil, Option.map_some, Option.map_none, id, ite_true, ite_false, if_true, if_false, Nat.zero_add, Nat.reduceAdd, Nat.reduceSub, Nat.reduceLeDiff, Bool.not_true, Bool.not_false, Bool.false_eq_true, reduceIte, reduceCtorEq, Int.reduceLT, Int.reduceLE, Int.reduceEq, Int.reduceNe, Nat.reduceLT, Nat.reduceEqDiff, decide_true, decide_false, Int.reduceAdd, Int.reduceSub, Int.reduceNeg, Int.reducePow, Int.reduceMul, Int.reduceToNat, wp_ok, wp_exc, wp_bad, wp_bind, bind_ok, wp_of, wr_some, wr_ite, of_some, tst_some, and_ok, or_ok, ws_nx, ws_rt, ws_bk, ws_ct, ws_exc, ws_then, wp_ite, ws_ite, decide_eq_true_eq, decide_eq_false_iff_not, true_implies, false_implies, implies_true, not_true_eq_false, not_false_eq_true, true_and, and_true, forall_const, fMeth, isTy_s, isTy_l, Option.isSome_some, and_self, fSlice, pNone, pSome, ws_sFor, fiSeq, fiRng1, fiRng2, wp_fLc, wp_outI_some, wp_rng1, wp_rng2, oEq_int, oNe_int, oEq_str, oNe_str, oEq_bl, oIs_non, oIsNot_non, isNon_non, isNon_int, isNon_bl, isNon_str, isNon_tup, isNon_ref, tru_non, tru_bl, tru_int, tru_tup, lenG_tup, oLt_str, oNotIn_str, oIn_str, seqG_tup, seqG_ref, iSeqG_tup, fiEnumA, iEnumGA_tup, iEnumGA_str, fiZip, Bool.false_or, Bool.true_or, Bool.or_false, Bool.or_true, Bool.false_and, Bool.true_and, Bool.and_false, Bool.and_true, Bool.or_eq_false_iff, Bool.not_eq_true', Bool.not_eq_false', nList, nTuple, oAdd_int, line, Bool.or_eq_true, Bool.and_eq_true, Bool.not_eq_true, hn]
        rfl
  | ref r =>
    obtain ⟨_, xs, e, _⟩ := h
    refine ws_seq ?_
    try simp -implicitDefEqProofs only [startE, OutS.toOut, sNext, sIf, sAsg, sRet, sRetN, sExpr, sBreak, sCont, sPar, par2, sAug, sRaise, fVar, fC, tyN, isi_NoneType_bool, isi_NoneType_int, isi_NoneType_str, isi_NoneType_tuple, isi_NoneType_list, isi_bool_bool, isi_bool_int, isi_bool_str, isi_bool_tuple, isi_bool_list, isi_int_bool, isi_int_int, isi_int_str, isi_int_tuple, isi_int_list, isi_str_bool, isi_str_int, isi_str_str, isi_str_tuple, isi_str_list, isi_tuple_bool, isi_tuple_int, isi_tuple_str, isi_tuple_tuple, isi_tuple_list, isi_list_bool, isi_list_int, isi_list_str, isi_list_tuple, isi_list_list, fBin, fCall, fNat, fIsi, fTru, fBl, fNotT, fAndT, fOrT, fAndV, fOrV, fNotV, fIf, fTup, fLst, fNeg, aNil, aCons, gNm, gSb, gTpT, gNms, blOf, o2I, n1I, n2I, nLen_eq, oSub, oMod, oDiv, oGt, oGe, oLe, oLt, pw10_4, pw10_6, pw10_9, pw10_12, pw10_18, pw10_20, pw10_30, pw10_40, pw2_32, pw2_63, pw2_64, List.length_cons, List.length_nil, List.map_cons, List.map_nil, List.getElem?_cons_zero, List.getElem?_cons_succ, List.set_cons_zero, List.set_cons_succ, List.replicate, List.cons_append, List.nil_append, List.append_nil, Option.map_some, Option.map_none, id, ite_true, ite_false, if_true, if_false, Nat.zero_add, Nat.reduceAdd, Nat.reduceSub, Nat.reduceLeDiff, Bool.not_true, Bool.not_false, Bool.false_eq_true, reduceIte, reduceCtorEq, Int.reduceLT, Int.reduceLE, Int.reduceEq, Int.reduceNe, Nat.reduceLT, Nat.reduceEqDiff, decide_true, decide_false, Int.reduceAdd, Int.reduceSub, Int.reduceNeg, Int.reducePow, Int.reduceMul, Int.reduceToNat, wp_ok, wp_exc, wp_bad, wp_bind, bind_ok, wp_of, wr_some, wr_ite, of_some, tst_some, and_ok, or_ok, ws_nx, ws_rt, ws_bk, ws_ct, ws_exc, ws_then, wp_ite, ws_ite, decide_eq_true_eq, decide_eq_false_iff_not, true_implies, false_implies, implies_true, not_true_eq_false, not_false_eq_true, true_and, and_true, forall_const, fMeth, isTy_s, isTy_l, Option.isSome_some, and_self, fSlice, pNone, pSome, ws_sFor, fiSeq, fiRng1, fiRng2, wp_fLc, wp_outI_some, wp_rng1, wp_rng2, oEq_int, oNe_int, oEq_str, oNe_str, oEq_bl, oIs_non, oIsNot_non, isNon_non, isNon_int, isNon_bl, isNon_str, isNon_tup, isNon_ref, tru_non, tru_bl, tru_int, tru_tup, lenG_tup, oLt_str, oNotIn_str, oIn_str, seqG_tup, seqG_ref, iSeqG_tup, fiEnumA, iEnumGA_tup, iEnumGA_str, fiZip, Bool.false_or, Bool.true_or, Bool.or_false, Bool.or_true, Bool.false_and, Bool.true_and, Bool.and_false, Bool.and_true, Bool.or_eq_false_iff, Bool.not_eq_true', Bool.not_eq_false', nList, nTuple, oAdd_int, line, Bool.or_eq_true, Bool.and_eq_true, Bool.not_eq_true]
    simp -implicitDefEqProofs only [startE, OutS.toOut, sNext, sIf, sAsg, sRet, sRetN, sExpr, sBreak, sCont, sPar, par2, sAug, sRaise, fVar, fC, tyN, isi_NoneType_bool, isi_NoneType_int, isi_NoneType_str, isi_NoneType_tuple, isi_NoneType_list, isi_bool_bool, isi_bool_int, isi_bool_str, isi_bool_tuple, isi_bool_list, isi_int_bool, isi_int_int, isi_int_str, isi_int_tuple, isi_int_list, isi_str_bool, isi_str_int, isi_str_str, isi_str_tuple, isi_str_list, isi_tuple_bool, isi_tuple_int, isi_tuple_str, isi_tuple_tuple, isi_tuple_list, isi_list_bool, isi_list_int, isi_list_str, isi_list_tuple, isi_list_list, fBin, fCall, fNat, fIsi, fTru, fBl, fNotT, fAndT, fOrT, fAndV, fOrV, fNotV, fIf, fTup, fLst, fNeg, aNil, aCons, gNm, gSb, gTpT, gNms, blOf, o2I, n1I, n2I, nLen_eq, oSub, oMod, oDiv, oGt, oGe, oLe, oLt, pw10_4, pw10_6, pw10_9, pw10_12, pw10_18, pw10_20, pw10_30, pw10_40, pw2_32, pw2_63, pw2_64, List.length_cons, List.length_nil, List.map_cons, List.map_nil, List.getElem?_cons_zero, List.getElem?_cons_succ, List.set_cons_zero, List.set_cons_succ, List.replicate, List.cons_append, List.nil_append, List.append_nil, Option.map_some, Option.map_none, id, ite_true, ite_false, if_true, if_false, Nat.zero_add, Nat.reduceAdd, Nat.reduceSub, Nat.reduceLeDiff, Bool.not_true, Bool.not_false, Bool.false_eq_true, reduceIte, reduceCtorEq, Int.reduceLT, Int.reduceLE, Int.reduceEq, Int.reduceNe, Nat.reduceLT, Nat.reduceEqDiff, decide_true, decide_false, Int.reduceAdd, Int.reduceSub, Int.reduceNeg, Int.reducePow, Int.reduceMul, Int.reduceToNat, wp_ok, wp_exc, wp_bad, wp_bind, bind_ok, wp_of, wr_some, wr_ite, of_some, tst_some, and_ok, or_ok, ws_nx, ws_rt, ws_bk, ws_ct, ws_exc, ws_then, wp_ite, ws_ite, decide_eq_true_eq, decide_eq_false_iff_not, true_implies, false_implies, implies_true, not_true_eq_false, not_false_eq_true, true_and, and_true, forall_const, fMeth, isTy_s, isTy_l, Option.isSome_some, and_self, fSlice, pNone, pSome, ws_sFor, fiSeq, fiRng1, fiRng2, wp_fLc, wp_outI_some, wp_rng1, wp_rng2, oEq_int, oNe_int, oEq_str, oNe_str, oEq_bl, oIs_non, oIsNot_non, isNon_non, isNon_int, isNon_bl, isNon_str, isNon_tup, isNon_ref, tru_non, tru_bl, tru_int, tru_tup, lenG_tup, oLt_str, oNotIn_str, oIn_str, seqG_tup, seqG_ref, iSeqG_tup, fiEnumA, iEnumGA_tup, iEnumGA_str, fiZip, Bool.false_or, Bool.true_or, Bool.or_false, Bool.or_true, Bool.false_and, Bool.true_and, Bool.and_false, Bool.and_true, Bool.or_eq_false_iff, Bool.not_eq_true', Bool.not_eq_false', nList, nTuple, oAdd_int, line, Bool.or_eq_true, Bool.and_eq_true, Bool.not_eq_true, e, nf]
  | _ =>
    refine ws_seq ?_
    try simp -implicitDefEqProofs only [startE, OutS.toOut, sNext, sIf, sAsg, sRet, sRetN, sExpr, sBreak, sCont, sPar, par2, sAug, sRaise, fVar, fC, tyN, isi_NoneType_bool, isi_NoneType_int, isi_NoneType_str, isi_NoneType_tuple, isi_NoneType_list, isi_bool_bool, isi_bool_int, isi_bool_str, isi_bool_tuple, isi_bool_list, isi_int_bool, isi_int_int, isi_int_str, isi_int_tuple, isi_int_list, isi_str_bool, isi_str_int, isi_str_str, isi_str_tuple, isi_str_list, isi_tuple_bool, isi_tuple_int, isi_tuple_str, isi_tuple_tuple, isi_tuple_list, isi_list_bool, isi_list_int, isi_list_str, isi_list_tuple, isi_list_list, fBin, fCall, fNat, fIsi, fTru, fBl, fNotT, fAndT, fOrT, fAndV, fOrV, fNotV, fIf, fTup, fLst, fNeg, aNil, aCons, gNm, gSb, gTpT, gNms, blOf, o2I, n1I, n2I, nLen_eq, oSub, oMod, oDiv, oGt, oGe, oLe, oLt, pw10_4, pw10_6, pw10_9, pw10_12, pw10_18, pw10_20, pw10_30, pw10_40, pw2_32, pw2_63, pw2_64, List.length_cons, List.length_nil, List.map_cons, List.map_nil, List.getElem?_cons_zero, List.getElem?_cons_succ, List.set_cons_zero, List.set_cons_succ, List.replicate, List.cons_append, List.nil_append, List.append_nil, Option.map_some, Option.map_none, id, ite_true, ite_false, if_true, if_false, Nat.zero_add, Nat.reduceAdd, Nat.reduceSub, Nat.reduceLeDiff, Bool.not_true, Bool.not_false, Bool.false_eq_true, reduceIte, reduceCtorEq, Int.reduceLT, Int.reduceLE, Int.reduceEq, Int.reduceNe, Nat.reduceLT, Nat.reduceEqDiff, decide_true, decide_false, Int.reduceAdd, Int.reduceSub, Int.reduceNeg, Int.reducePow, Int.reduceMul, Int.reduceToNat, wp_ok, wp_exc, wp_bad, wp_bind, bind_ok, wp_of, wr_some, wr_ite, of_some, tst_some, and_ok, or_ok, ws_nx, ws_rt, ws_bk, ws_ct, ws_exc, ws_then, wp_ite, ws_ite, decide_eq_true_eq, decide_eq_false_iff_not, true_implies, false_implies, implies_true, not_true_eq_false, not_false_eq_true, true_and, and_true, forall_const, fMeth, isTy_s, isTy_l, Option.isSome_some, and_self, fSlice, pNone, pSome, ws_sFor, fiSeq, fiRng1, fiRng2, wp_fLc, wp_outI_some, wp_rng1, wp_rng2, oEq_int, oNe_int, oEq_str, oNe_str, oEq_bl, oIs_non, oIsNot_non, isNon_non, isNon_int, isNon_bl, isNon_str, isNon_tup, isNon_ref, tru_non, tru_bl, tru_int, tru_tup, lenG_tup, oLt_str, oNotIn_str, oIn_str, seqG_tup, seqG_ref, iSeqG_tup, fiEnumA, iEnumGA_tup, iEnumGA_str, fiZip, Bool.false_or, Bool.true_or, Bool.or_false, Bool.or_true, Bool.false_and, Bool.true_and, Bool.and_false, Bool.and_true, Bool.or_eq_false_iff, Bool.not_eq_true', Bool.not_eq_false', nList, nTuple, oAdd_int, line, Bool.or_eq_true, Bool.and_eq_true, Bool.not_eq_true]
    simp -implicitDefEqProofs only [startE, OutS.toOut, sNext, sIf, sAsg, sRet, sRetN, sExpr, sBreak, sCont, sPar, par2, sAug, sRaise, fVar, fC, tyN, isi_NoneType_bool, isi_NoneType_int, isi_NoneType_str, isi_NoneType_tuple, isi_NoneType_list, isi_bool_bool, isi_bool_int, isi_bool_str, isi_bool_tuple, isi_bool_list, isi_int_bool, isi_int_int, isi_int_str, isi_int_tuple, isi_int_list, isi_str_bool, isi_str_int, isi_str_str, isi_str_tuple, isi_str_list, isi_tuple_bool, isi_tuple_int, isi_tuple_str, isi_tuple_tuple, isi_tuple_list, isi_list_bool, isi_list_int, isi_list_str, isi_list_tuple, isi_list_list, fBin, fCall, fNat, fIsi, fTru, fBl, fNotT, fAndT, fOrT, fAndV, fOrV, fNotV, fIf, fTup, fLst, fNeg, aNil, aCons, gNm, gSb, gTpT, gNms, blOf, o2I, n1I, n2I, nLen_eq, oSub, oMod, oDiv, oGt, oGe, oLe, oLt, pw10_4, pw10_6, pw10_9, pw10_12, pw10_18, pw10_20, pw10_30, pw10_40, pw2_32, pw2_63, pw2_64, List.length_cons, List.length_nil, List.map_cons, List.map_nil, List.getElem?_cons_zero, List.getElem?_cons_succ, List.set_cons_zero, List.set_cons_succ, List.replicate, List.cons_append, List.nil_append, List.append_nil, Option.map_some, Option.map_none, id, ite_true, ite_false, if_true, if_false, Nat.zero_add, Nat.reduceAdd, Nat.reduceSub, Nat.reduceLeDiff, Bool.not_true, Bool.not_false, Bool.false_eq_true, reduceIte, reduceCtorEq, Int.reduceLT, Int.reduceLE, Int.reduceEq, Int.reduceNe, Nat.reduceLT, Nat.reduceEqDiff, decide_true, decide_false, Int.reduceAdd, Int.reduceSub, Int.reduceNeg, Int.reducePow, Int.reduceMul, Int.reduceToNat, wp_ok, wp_exc, wp_bad, wp_bind, bind_ok, wp_of, wr_some, wr_ite, of_some, tst_some, and_ok, or_ok, ws_nx, ws_rt, ws_bk, ws_ct, ws_exc, ws_then, wp_ite, ws_ite, decide_eq_true_eq, decide_eq_false_iff_not, true_implies, false_implies, implies_true, not_true_eq_false, not_false_eq_true, true_and, and_true, forall_const, fMeth, isTy_s, isTy_l, Option.isSome_some, and_self, fSlice, pNone, pSome, ws_sFor, fiSeq, fiRng1, fiRng2, wp_fLc, wp_outI_some, wp_rng1, wp_rng2, oEq_int, oNe_int, oEq_str, oNe_str, oEq_bl, oIs_non, oIsNot_non, isNon_non, isNon_int, isNon_bl, isNon_str, isNon_tup, isNon_ref, tru_non, tru_bl, tru_int, tru_tup, lenG_tup, oLt_str, oNotIn_str, oIn_str, seqG_tup, seqG_ref, iSeqG_tup, fiEnumA, iEnumGA_tup, iEnumGA_str, fiZip, Bool.false_or, Bool.true_or, Bool.or_false, Bool.or_true, Bool.false_and, Bool.true_and, Bool.and_false, Bool.and_true, Bool.or_eq_false_iff, Bool.not_eq_true', Bool.not_eq_false', nList, nTuple, oAdd_int, line, Bool.or_eq_true, Bool.and_eq_true, Bool.not_eq_true, nf]
/-! ### checks, and what is heard -/
theorem lf_kind (v : T) : lf v = .non ∨ ∃ i, lf v = .int i := by
  cases v with
  | str z =>
    show (if z.cps.toList.length = 0 then T.int (-1) else faT (scanS 0 z.cps.toList)) = _ ∨ _
    by_cases h : z.cps.toList.length = 0
    · exact .inr ⟨-1, if_pos h⟩
    · show _ ∨ ∃ i, (if z.cps.toList.length = 0 then T.int (-1) else faT (scanS 0 z.cps.toList)) = T.int i
      rw [if_neg h]
      cases scanS 0 z.cps.toList with
      | none => exact .inl rfl
      | some i => exact .inr ⟨i, rfl⟩
  | _ => exact .inr ⟨-1, rfl⟩
theorem firstHit_nh : ∀ (xs : List T) (n : Nat), firstHit nh n xs = none ∨ ∃ i, firstHit nh n xs = some (.int i)
  | [], _ => .inl rfl
  | x :: xs, n => by
    rw [firstHit]
    unfold nh
    by_cases h : (decide ((n : Int) = 6) || !isNon (lf x)) = true
    · rw [if_pos h]
      exact .inr ⟨_, rfl⟩
    · rw [if_neg h]
      exact firstHit_nh xs (n + 1)
theorem nf_kind (v : T) : nf v = .non ∨ ∃ i, nf v = .int i := by
  cases v with
  | tup xs =>
    show (if xs.length = 0 then T.int (-1) else (firstHit nh 0 xs).getD .non) = _ ∨ ∃ i, (if xs.length = 0 then T.int (-1) else (firstHit nh 0 xs).getD .non) = T.int i
    by_cases h : xs.length = 0
    · rw [if_pos h]
      exact .inr ⟨-1, rfl⟩
    · rw [if_neg h]
      rcases firstHit_nh xs 0 with e | ⟨i, e⟩ <;> rw [e]
      · exact .inl rfl
      · exact .inr ⟨i, rfl⟩
  | _ => exact .inr ⟨-1, rfl⟩
theorem w_check_label {n : Nat} {v : T} (h : Lv S n v) (k : lf v = .non → Q v S) (x : ∀ i, lf v = .int i → E ⟨"BadLabel", "at", .int i⟩ S) : wp (g_check_label [v] S) Q E := by
  unfold g_check_label
  refine wp_def rfl ?_
  unfold g_check_label_b
  simp only [startE, List.map_cons, List.map_nil, List.length_cons, List.length_nil, List.replicate, List.cons_append, List.nil_append, Nat.reduceAdd, Nat.reduceSub, Nat.zero_add]
  refine ws_seq ?_
  rcases lf_kind v with e | ⟨i, e⟩
  · simp -implicitDefEqProofs only [startE, OutS.toOut, sNext, sIf, sAsg, sRet, sRetN, sExpr, sBreak, sCont, sPar, par2, sAug, sRaise, fVar, fC, tyN, isi_NoneType_bool, isi_NoneType_int, isi_NoneType_str, isi_NoneType_tuple, isi_NoneType_list, isi_bool_bool, isi_bool_int, isi_bool_str, isi_bool_tuple, isi_bool_list, isi_int_bool, isi_int_int, isi_int_str, isi_int_tuple, isi_int_list, isi_str_bool, isi_str_int, isi_str_str, isi_str_tuple, isi_str_list, isi_tuple_bool, isi_tuple_int, isi_tuple_str, isi_tuple_tuple, isi_tuple_list, isi_list_bool, isi_list_int, isi_list_str, isi_list_tuple, isi_list_list, fBin, fCall, fNat, fIsi, fTru, fBl, fNotT, fAndT, fOrT, fAndV, fOrV, fNotV, fIf, fTup, fLst, fNeg, aNil, aCons, gNm, gSb, gTpT, gNms, blOf, o2I, n1I, n2I, nLen_eq, oSub, oMod, oDiv, oGt, oGe, oLe, oLt, pw10_4, pw10_6, pw10_9, pw10_12, pw10_18, pw10_20, pw10_30, pw10_40, pw2_32, pw2_63, pw2_64, List.length_cons, List.length_nil, List.map_cons, List.map_nil, List.getElem?_cons_zero, List.getElem?_cons_succ, List.set_cons_zero, List.set_cons_succ, List.replicate, List.cons_append, List.nil_append, List.append_nil, Option.map_some, Option.map_none, id, ite_true, ite_false, if_true, if_false, Nat.zero_add, Nat.reduceAdd, Nat.reduceSub, Nat.reduceLeDiff, Bool.not_true, Bool.not_false, Bool.false_eq_true, reduceIte, reduceCtorEq, Int.reduceLT, Int.reduceLE, Int.reduceEq, Int.reduceNe, Nat.reduceLT, Nat.reduceEqDiff, decide_true, decide_false, Int.reduceAdd, Int.reduceSub, Int.reduceNeg, Int.reducePow, Int.reduceMul, Int.reduceToNat, wp_ok, wp_exc, wp_bad, wp_bind, bind_ok, wp_of, wr_some, wr_ite, of_some, tst_some, and_ok, or_ok, ws_nx, ws_rt, ws_bk, ws_ct, ws_exc, ws_then, wp_ite, ws_ite, decide_eq_true_eq, decide_eq_false_iff_not, true_implies, false_implies, implies_true, not_true_eq_false, not_false_eq_true, true_and, and_true, forall_const, fMeth, isTy_s, isTy_l, Option.isSome_some, and_self, fSlice, pNone, pSome, ws_sFor, fiSeq, fiRng1, fiRng2, wp_fLc, wp_outI_some, wp_rng1, wp_rng2, oEq_int, oNe_int, oEq_str, oNe_str, oEq_bl, oIs_non, oIsNot_non, isNon_non, isNon_int, isNon_bl, isNon_str, isNon_tup, isNon_ref, tru_non, tru_bl, tru_int, tru_tup, lenG_tup, oLt_str, oNotIn_str, oIn_str, seqG_tup, seqG_ref, iSeqG_tup, fiEnumA, iEnumGA_tup, iEnumGA_str, fiZip, Bool.false_or, Bool.true_or, Bool.or_false, Bool.or_true, Bool.false_and, Bool.true_and, Bool.and_false, Bool.and_true, Bool.or_eq_false_iff, Bool.not_eq_true', Bool.not_eq_false', nList, nTuple, oAdd_int, line, Bool.or_eq_true, Bool.and_eq_true, Bool.not_eq_true, label_ok h, e]
    refine ws_seq ?_
    try simp -implicitDefEqProofs only [startE, OutS.toOut, sNext, sIf, sAsg, sRet, sRetN, sExpr, sBreak, sCont, sPar, par2, sAug, sRaise, fVar, fC, tyN, isi_NoneType_bool, isi_NoneType_int, isi_NoneType_str, isi_NoneType_tuple, isi_NoneType_list, isi_bool_bool, isi_bool_int, isi_bool_str, isi_bool_tuple, isi_bool_list, isi_int_bool, isi_int_int, isi_int_str, isi_int_tuple, isi_int_list, isi_str_bool, isi_str_int, isi_str_str, isi_str_tuple, isi_str_list, isi_tuple_bool, isi_tuple_int, isi_tuple_str, isi_tuple_tuple, isi_tuple_list, isi_list_bool, isi_list_int, isi_list_str, isi_list_tuple, isi_list_list, fBin, fCall, fNat, fIsi, fTru, fBl, fNotT, fAndT, fOrT, fAndV, fOrV, fNotV, fIf, fTup, fLst, fNeg, aNil, aCons, gNm, gSb, gTpT, gNms, blOf, o2I, n1I, n2I, nLen_eq, oSub, oMod, oDiv, oGt, oGe, oLe, oLt, pw10_4, pw10_6, pw10_9, pw10_12, pw10_18, pw10_20, pw10_30, pw10_40, pw2_32, pw2_63, pw2_64, List.length_cons, List.length_nil, List.map_cons, List.map_nil, List.getElem?_cons_zero, List.getElem?_cons_succ, List.set_cons_zero, List.set_cons_succ, List.replicate, List.cons_append, List.nil_append, List.append_nil, Option.map_some, Option.map_none, id, ite_true, ite_false, if_true, if_false, Nat.zero_add, Nat.reduceAdd, Nat.reduceSub, Nat.reduceLeDiff, Bool.not_true, Bool.not_false, Bool.false_eq_true, reduceIte, reduceCtorEq, Int.reduceLT, Int.reduceLE, Int.reduceEq, Int.reduceNe, Nat.reduceLT, Nat.reduceEqDiff, decide_true, decide_false, Int.reduceAdd, Int.reduceSub, Int.reduceNeg, Int.reducePow, Int.reduceMul, Int.reduceToNat, wp_ok, wp_exc, wp_bad, wp_bind, bind_ok, wp_of, wr_some, wr_ite, of_some, tst_some, and_ok, or_ok, ws_nx, ws_rt, ws_bk, ws_ct, ws_exc, ws_then, wp_ite, ws_ite, decide_eq_true_eq, decide_eq_false_iff_not, true_implies, false_implies, implies_true, not_true_eq_false, not_false_eq_true, true_and, and_true, forall_const, fMeth, isTy_s, isTy_l, Option.isSome_some, and_self, fSlice, pNone, pSome, ws_sFor, fiSeq, fiRng1, fiRng2, wp_fLc, wp_outI_some, wp_rng1, wp_rng2, oEq_int, oNe_int, oEq_str, oNe_str, oEq_bl, oIs_non, oIsNot_non, isNon_non, isNon_int, isNon_bl, isNon_str, isNon_tup, isNon_ref, tru_non, tru_bl, tru_int, tru_tup, lenG_tup, oLt_str, oNotIn_str, oIn_str, seqG_tup, seqG_ref, iSeqG_tup, fiEnumA, iEnumGA_tup, iEnumGA_str, fiZip, Bool.false_or, Bool.true_or, Bool.or_false, Bool.or_true, Bool.false_and, Bool.true_and, Bool.and_false, Bool.and_true, Bool.or_eq_false_iff, Bool.not_eq_true', Bool.not_eq_false', nList, nTuple, oAdd_int, line, Bool.or_eq_true, Bool.and_eq_true, Bool.not_eq_true]
    exact k e
  · simp -implicitDefEqProofs only [startE, OutS.toOut, sNext, sIf, sAsg, sRet, sRetN, sExpr, sBreak, sCont, sPar, par2, sAug, sRaise, fVar, fC, tyN, isi_NoneType_bool, isi_NoneType_int, isi_NoneType_str, isi_NoneType_tuple, isi_NoneType_list, isi_bool_bool, isi_bool_int, isi_bool_str, isi_bool_tuple, isi_bool_list, isi_int_bool, isi_int_int, isi_int_str, isi_int_tuple, isi_int_list, isi_str_bool, isi_str_int, isi_str_str, isi_str_tuple, isi_str_list, isi_tuple_bool, isi_tuple_int, isi_tuple_str, isi_tuple_tuple, isi_tuple_list, isi_list_bool, isi_list_int, isi_list_str, isi_list_tuple, isi_list_list, fBin, fCall, fNat, fIsi, fTru, fBl, fNotT, fAndT, fOrT, fAndV, fOrV, fNotV, fIf, fTup, fLst, fNeg, aNil, aCons, gNm, gSb, gTpT, gNms, blOf, o2I, n1I, n2I, nLen_eq, oSub, oMod, oDiv, oGt, oGe, oLe, oLt, pw10_4, pw10_6, pw10_9, pw10_12, pw10_18, pw10_20, pw10_30, pw10_40, pw2_32, pw2_63, pw2_64, List.length_cons, List.length_nil, List.map_cons, List.map_nil, List.getElem?_cons_zero, List.getElem?_cons_succ, List.set_cons_zero, List.set_cons_succ, List.replicate, List.cons_append, List.nil_append, List.append_nil, Option.map_some, Option.map_none, id, ite_true, ite_false, if_true, if_false, Nat.zero_add, Nat.reduceAdd, Nat.reduceSub, Nat.reduceLeDiff, Bool.not_true, Bool.not_false, Bool.false_eq_true, reduceIte, reduceCtorEq, Int.reduceLT, Int.reduceLE, Int.reduceEq, Int.reduceNe, Nat.reduceLT, Nat.reduceEqDiff, decide_true, decide_false, Int.reduceAdd, Int.reduceSub, Int.reduceNeg, Int.reducePow, Int.reduceMul, Int.reduceToNat, wp_ok, wp_exc, wp_bad, wp_bind, bind_ok, wp_of, wr_some, wr_ite, of_some, tst_some, and_ok, or_ok, ws_nx, ws_rt, ws_bk, ws_ct, ws_exc, ws_then, wp_ite, ws_ite, decide_eq_true_eq, decide_eq_false_iff_not, true_implies, false_implies, implies_true, not_true_eq_false, not_false_eq_true, true_and, and_true, forall_const, fMeth, isTy_s, isTy_l, Option.isSome_some, and_self, fSlice, pNone, pSome, ws_sFor, fiSeq, fiRng1, fiRng2, wp_fLc, wp_outI_some, wp_rng1, wp_rng2, oEq_int, oNe_int, oEq_str, oNe_str, oEq_bl, oIs_non, oIsNot_non, isNon_non, isNon_int, isNon_bl, isNon_str, isNon_tup, isNon_ref, tru_non, tru_bl, tru_int, tru_tup, lenG_tup, oLt_str, oNotIn_str, oIn_str, seqG_tup, seqG_ref, iSeqG_tup, fiEnumA, iEnumGA_tup, iEnumGA_str, fiZip, Bool.false_or, Bool.true_or, Bool.or_false, Bool.or_true, Bool.false_and, Bool.true_and, Bool.and_false, Bool.and_true, Bool.or_eq_false_iff, Bool.not_eq_true', Bool.not_eq_false', nList, nTuple, oAdd_int, line, Bool.or_eq_true, Bool.and_eq_true, Bool.not_eq_true, label_ok h, e]
    refine ws_seq ?_
    try simp -implicitDefEqProofs only [startE, OutS.toOut, sNext, sIf, sAsg, sRet, sRetN, sExpr, sBreak, sCont, sPar, par2, sAug, sRaise, fVar, fC, tyN, isi_NoneType_bool, isi_NoneType_int, isi_NoneType_str, isi_NoneType_tuple, isi_NoneType_list, isi_bool_bool, isi_bool_int, isi_bool_str, isi_bool_tuple, isi_bool_list, isi_int_bool, isi_int_int, isi_int_str, isi_int_tuple, isi_int_list, isi_str_bool, isi_str_int, isi_str_str, isi_str_tuple, isi_str_list, isi_tuple_bool, isi_tuple_int, isi_tuple_str, isi_tuple_tuple, isi_tuple_list, isi_list_bool, isi_list_int, isi_list_str, isi_list_tuple, isi_list_list, fBin, fCall, fNat, fIsi, fTru, fBl, fNotT, fAndT, fOrT, fAndV, fOrV, fNotV, fIf, fTup, fLst, fNeg, aNil, aCons, gNm, gSb, gTpT, gNms, blOf, o2I, n1I, n2I, nLen_eq, oSub, oMod, oDiv, oGt, oGe, oLe, oLt, pw10_4, pw10_6, pw10_9, pw10_12, pw10_18, pw10_20, pw10_30, pw10_40, pw2_32, pw2_63, pw2_64, List.length_cons, List.length_nil, List.map_cons, List.map_nil, List.getElem?_cons_zero, List.getElem?_cons_succ, List.set_cons_zero, List.set_cons_succ, List.replicate, List.cons_append, List.nil_append, List.append_nil, Option.map_some, Option.map_none, id, ite_true, ite_false, if_true, if_false, Nat.zero_add, Nat.reduceAdd, Nat.reduceSub, Nat.reduceLeDiff, Bool.not_true, Bool.not_false, Bool.false_eq_true, reduceIte, reduceCtorEq, Int.reduceLT, Int.reduceLE, Int.reduceEq, Int.reduceNe, Nat.reduceLT, Nat.reduceEqDiff, decide_true, decide_false, Int.reduceAdd, Int.reduceSub, Int.reduceNeg, Int.reducePow, Int.reduceMul, Int.reduceToNat, wp_ok, wp_exc, wp_bad, wp_bind, bind_ok, wp_of, wr_some, wr_ite, of_some, tst_some, and_ok, or_ok, ws_nx, ws_rt, ws_bk, ws_ct, ws_exc, ws_then, wp_ite, ws_ite, decide_eq_true_eq, decide_eq_false_iff_not, true_implies, false_implies, implies_true, not_true_eq_false, not_false_eq_true, true_and, and_true, forall_const, fMeth, isTy_s, isTy_l, Option.isSome_some, and_self, fSlice, pNone, pSome, ws_sFor, fiSeq, fiRng1, fiRng2, wp_fLc, wp_outI_some, wp_rng1, wp_rng2, oEq_int, oNe_int, oEq_str, oNe_str, oEq_bl, oIs_non, oIsNot_non, isNon_non, isNon_int, isNon_bl, isNon_str, isNon_tup, isNon_ref, tru_non, tru_bl, tru_int, tru_tup, lenG_tup, oLt_str, oNotIn_str, oIn_str, seqG_tup, seqG_ref, iSeqG_tup, fiEnumA, iEnumGA_tup, iEnumGA_str, fiZip, Bool.false_or, Bool.true_or, Bool.or_false, Bool.or_true, Bool.false_and, Bool.true_and, Bool.and_false, Bool.and_true, Bool.or_eq_false_iff, Bool.not_eq_true', Bool.not_eq_false', nList, nTuple, oAdd_int, line, Bool.or_eq_true, Bool.and_eq_true, Bool.not_eq_true]
    exact x i e
theorem w_check_name {n : Nat} {v : T} (h : MvP p S (n + 1) v) (k : nf v = .non → Q v S) (x : ∀ i, nf v = .int i → E ⟨"BadName", "at", .int i⟩ S) : wp (g_check_name [v] S) Q E := by
  unfold g_check_name
  refine wp_def rfl ?_
  unfold g_check_name_b
  simp only [startE, List.map_cons, List.map_nil, List.length_cons, List.length_nil, List.replicate, List.cons_append, List.nil_append, Nat.reduceAdd, Nat.reduceSub, Nat.zero_add]
  refine ws_seq ?_
  rcases nf_kind v with e | ⟨i, e⟩
  · simp -implicitDefEqProofs only [startE, OutS.toOut, sNext, sIf, sAsg, sRet, sRetN, sExpr, sBreak, sCont, sPar, par2, sAug, sRaise, fVar, fC, tyN, isi_NoneType_bool, isi_NoneType_int, isi_NoneType_str, isi_NoneType_tuple, isi_NoneType_list, isi_bool_bool, isi_bool_int, isi_bool_str, isi_bool_tuple, isi_bool_list, isi_int_bool, isi_int_int, isi_int_str, isi_int_tuple, isi_int_list, isi_str_bool, isi_str_int, isi_str_str, isi_str_tuple, isi_str_list, isi_tuple_bool, isi_tuple_int, isi_tuple_str, isi_tuple_tuple, isi_tuple_list, isi_list_bool, isi_list_int, isi_list_str, isi_list_tuple, isi_list_list, fBin, fCall, fNat, fIsi, fTru, fBl, fNotT, fAndT, fOrT, fAndV, fOrV, fNotV, fIf, fTup, fLst, fNeg, aNil, aCons, gNm, gSb, gTpT, gNms, blOf, o2I, n1I, n2I, nLen_eq, oSub, oMod, oDiv, oGt, oGe, oLe, oLt, pw10_4, pw10_6, pw10_9, pw10_12, pw10_18, pw10_20, pw10_30, pw10_40, pw2_32, pw2_63, pw2_64, List.length_cons, List.length_nil, List.map_cons, List.map_nil, List.getElem?_cons_zero, List.getElem?_cons_succ, List.set_cons_zero, List.set_cons_succ, List.replicate, List.cons_append, List.nil_append, List.append_nil, Option.map_some, Option.map_none, id, ite_true, ite_false, if_true, if_false, Nat.zero_add, Nat.reduceAdd, Nat.reduceSub, Nat.reduceLeDiff, Bool.not_true, Bool.not_false, Bool.false_eq_true, reduceIte, reduceCtorEq, Int.reduceLT, Int.reduceLE, Int.reduceEq, Int.reduceNe, Nat.reduceLT, Nat.reduceEqDiff, decide_true, decide_false, Int.reduceAdd, Int.reduceSub, Int.reduceNeg, Int.reducePow, Int.reduceMul, Int.reduceToNat, wp_ok, wp_exc, wp_bad, wp_bind, bind_ok, wp_of, wr_some, wr_ite, of_some, tst_some, and_ok, or_ok, ws_nx, ws_rt, ws_bk, ws_ct, ws_exc, ws_then, wp_ite, ws_ite, decide_eq_true_eq, decide_eq_false_iff_not, true_implies, false_implies, implies_true, not_true_eq_false, not_false_eq_true, true_and, and_true, forall_const, fMeth, isTy_s, isTy_l, Option.isSome_some, and_self, fSlice, pNone, pSome, ws_sFor, fiSeq, fiRng1, fiRng2, wp_fLc, wp_outI_some, wp_rng1, wp_rng2, oEq_int, oNe_int, oEq_str, oNe_str, oEq_bl, oIs_non, oIsNot_non, isNon_non, isNon_int, isNon_bl, isNon_str, isNon_tup, isNon_ref, tru_non, tru_bl, tru_int, tru_tup, lenG_tup, oLt_str, oNotIn_str, oIn_str, seqG_tup, seqG_ref, iSeqG_tup, fiEnumA, iEnumGA_tup, iEnumGA_str, fiZip, Bool.false_or, Bool.true_or, Bool.or_false, Bool.or_true, Bool.false_and, Bool.true_and, Bool.and_false, Bool.and_true, Bool.or_eq_false_iff, Bool.not_eq_true', Bool.not_eq_false', nList, nTuple, oAdd_int, line, Bool.or_eq_true, Bool.and_eq_true, Bool.not_eq_true, name_ok h, e]
    refine ws_seq ?_
    try simp -implicitDefEqProofs only [startE, OutS.toOut, sNext, sIf, sAsg, sRet, sRetN, sExpr, sBreak, sCont, sPar, par2, sAug, sRaise, fVar, fC, tyN, isi_NoneType_bool, isi_NoneType_int, isi_NoneType_str, isi_NoneType_tuple, isi_NoneType_list, isi_bool_bool, isi_bool_int, isi_bool_str, isi_bool_tuple, isi_bool_list, isi_int_bool, isi_int_int, isi_int_str, isi_int_tuple, isi_int_list, isi_str_bool, isi_str_int, isi_str_str, isi_str_tuple, isi_str_list, isi_tuple_bool, isi_tuple_int, isi_tuple_str, isi_tuple_tuple, isi_tuple_list, isi_list_bool, isi_list_int, isi_list_str, isi_list_tuple, isi_list_list, fBin, fCall, fNat, fIsi, fTru, fBl, fNotT, fAndT, fOrT, fAndV, fOrV, fNotV, fIf, fTup, fLst, fNeg, aNil, aCons, gNm, gSb, gTpT, gNms, blOf, o2I, n1I, n2I, nLen_eq, oSub, oMod, oDiv, oGt, oGe, oLe, oLt, pw10_4, pw10_6, pw10_9, pw10_12, pw10_18, pw10_20, pw10_30, pw10_40, pw2_32, pw2_63, pw2_64, List.length_cons, List.length_nil, List.map_cons, List.map_nil, List.getElem?_cons_zero, List.getElem?_cons_succ, List.set_cons_zero, List.set_cons_succ, List.replicate, List.cons_append, List.nil_append, List.append_nil, Option.map_some, Option.map_none, id, ite_true, ite_false, if_true, if_false, Nat.zero_add, Nat.reduceAdd, Nat.reduceSub, Nat.reduceLeDiff, Bool.not_true, Bool.not_false, Bool.false_eq_true, reduceIte, reduceCtorEq, Int.reduceLT, Int.reduceLE, Int.reduceEq, Int.reduceNe, Nat.reduceLT, Nat.reduceEqDiff, decide_true, decide_false, Int.reduceAdd, Int.reduceSub, Int.reduceNeg, Int.reducePow, Int.reduceMul, Int.reduceToNat, wp_ok, wp_exc, wp_bad, wp_bind, bind_ok, wp_of, wr_some, wr_ite, of_some, tst_some, and_ok, or_ok, ws_nx, ws_rt, ws_bk, ws_ct, ws_exc, ws_then, wp_ite, ws_ite, decide_eq_true_eq, decide_eq_false_iff_not, true_implies, false_implies, implies_true, not_true_eq_false, not_false_eq_true, true_and, and_true, forall_const, fMeth, isTy_s, isTy_l, Option.isSome_some, and_self, fSlice, pNone, pSome, ws_sFor, fiSeq, fiRng1, fiRng2, wp_fLc, wp_outI_some, wp_rng1, wp_rng2, oEq_int, oNe_int, oEq_str, oNe_str, oEq_bl, oIs_non, oIsNot_non, isNon_non, isNon_int, isNon_bl, isNon_str, isNon_tup, isNon_ref, tru_non, tru_bl, tru_int, tru_tup, lenG_tup, oLt_str, oNotIn_str, oIn_str, seqG_tup, seqG_ref, iSeqG_tup, fiEnumA, iEnumGA_tup, iEnumGA_str, fiZip, Bool.false_or, Bool.true_or, Bool.or_false, Bool.or_true, Bool.false_and, Bool.true_and, Bool.and_false, Bool.and_true, Bool.or_eq_false_iff, Bool.not_eq_true', Bool.not_eq_false', nList, nTuple, oAdd_int, line, Bool.or_eq_true, Bool.and_eq_true, Bool.not_eq_true]
    exact k e
  · simp -implicitDefEqProofs only [startE, OutS.toOut, sNext, sIf, sAsg, sRet, sRetN, sExpr, sBreak, sCont, sPar, par2, sAug, sRaise, fVar, fC, tyN, isi_NoneType_bool, isi_NoneType_int, isi_NoneType_str, isi_NoneType_tuple, isi_NoneType_list, isi_bool_bool, isi_bool_int, isi_bool_str, isi_bool_tuple, isi_bool_list, isi_int_bool, isi_int_int, isi_int_str, isi_int_tuple, isi_int_list, isi_str_bool, isi_str_int, isi_str_str, isi_str_tuple, isi_str_list, isi_tuple_bool, isi_tuple_int, isi_tuple_str, isi_tuple_tuple, isi_tuple_list, isi_list_bool, isi_list_int, isi_list_str, isi_list_tuple, isi_list_list, fBin, fCall, fNat, fIsi, fTru, fBl, fNotT, fAndT, fOrT, fAndV, fOrV, fNotV, fIf, fTup, fLst, fNeg, aNil, aCons, gNm, gSb, gTpT, gNms, blOf, o2I, n1I, n2I, nLen_eq, oSub, oMod, oDiv, oGt, oGe, oLe, oLt, pw10_4, pw10_6, pw10_9, pw10_12, pw10_18, pw10_20, pw10_30, pw10_40, pw2_32, pw2_63, pw2_64, List.length_cons, List.length_nil, List.map_cons, List.map_nil, List.getElem?_cons_zero, List.getElem?_cons_succ, List.set_cons_zero, List.set_cons_succ, List.replicate, List.cons_append, List.nil_append, List.append_nil, Option.map_some, Option.map_none, id, ite_true, ite_false, if_true, if_false, Nat.zero_add, Nat.reduceAdd, Nat.reduceSub, Nat.reduceLeDiff, Bool.not_true, Bool.not_false, Bool.false_eq_true, reduceIte, reduceCtorEq, Int.reduceLT, Int.reduceLE, Int.reduceEq, Int.reduceNe, Nat.reduceLT, Nat.reduceEqDiff, decide_true, decide_false, Int.reduceAdd, Int.reduceSub, Int.reduceNeg, Int.reducePow, Int.reduceMul, Int.reduceToNat, wp_ok, wp_exc, wp_bad, wp_bind, bind_ok, wp_of, wr_some, wr_ite, of_some, tst_some, and_ok, or_ok, ws_nx, ws_rt, ws_bk, ws_ct, ws_exc, ws_then, wp_ite, ws_ite, decide_eq_true_eq, decide_eq_false_iff_not, true_implies, false_implies, implies_true, not_true_eq_false, not_false_eq_true, true_and, and_true, forall_const, fMeth, isTy_s, isTy_l, Option.isSome_some, and_self, fSlice, pNone, pSome, ws_sFor, fiSeq, fiRng1, fiRng2, wp_fLc, wp_outI_some, wp_rng1, wp_rng2, oEq_int, oNe_int, oEq_str, oNe_str, oEq_bl, oIs_non, oIsNot_non, isNon_non, isNon_int, isNon_bl, isNon_str, isNon_tup, isNon_ref, tru_non, tru_bl, tru_int, tru_tup, lenG_tup, oLt_str, oNotIn_str, oIn_str, seqG_tup, seqG_ref, iSeqG_tup, fiEnumA, iEnumGA_tup, iEnumGA_str, fiZip, Bool.false_or, Bool.true_or, Bool.or_false, Bool.or_true, Bool.false_and, Bool.true_and, Bool.and_false, Bool.and_true, Bool.or_eq_false_iff, Bool.not_eq_true', Bool.not_eq_false', nList, nTuple, oAdd_int, line, Bool.or_eq_true, Bool.and_eq_true, Bool.not_eq_true, name_ok h, e]
    refine ws_seq ?_
    try simp -implicitDefEqProofs only [startE, OutS.toOut, sNext, sIf, sAsg, sRet, sRetN, sExpr, sBreak, sCont, sPar, par2, sAug, sRaise, fVar, fC, tyN, isi_NoneType_bool, isi_NoneType_int, isi_NoneType_str, isi_NoneType_tuple, isi_NoneType_list, isi_bool_bool, isi_bool_int, isi_bool_str, isi_bool_tuple, isi_bool_list, isi_int_bool, isi_int_int, isi_int_str, isi_int_tuple, isi_int_list, isi_str_bool, isi_str_int, isi_str_str, isi_str_tuple, isi_str_list, isi_tuple_bool, isi_tuple_int, isi_tuple_str, isi_tuple_tuple, isi_tuple_list, isi_list_bool, isi_list_int, isi_list_str, isi_list_tuple, isi_list_list, fBin, fCall, fNat, fIsi, fTru, fBl, fNotT, fAndT, fOrT, fAndV, fOrV, fNotV, fIf, fTup, fLst, fNeg, aNil, aCons, gNm, gSb, gTpT, gNms, blOf, o2I, n1I, n2I, nLen_eq, oSub, oMod, oDiv, oGt, oGe, oLe, oLt, pw10_4, pw10_6, pw10_9, pw10_12, pw10_18, pw10_20, pw10_30, pw10_40, pw2_32, pw2_63, pw2_64, List.length_cons, List.length_nil, List.map_cons, List.map_nil, List.getElem?_cons_zero, List.getElem?_cons_succ, List.set_cons_zero, List.set_cons_succ, List.replicate, List.cons_append, List.nil_append, List.append_nil, Option.map_some, Option.map_none, id, ite_true, ite_false, if_true, if_false, Nat.zero_add, Nat.reduceAdd, Nat.reduceSub, Nat.reduceLeDiff, Bool.not_true, Bool.not_false, Bool.false_eq_true, reduceIte, reduceCtorEq, Int.reduceLT, Int.reduceLE, Int.reduceEq, Int.reduceNe, Nat.reduceLT, Nat.reduceEqDiff, decide_true, decide_false, Int.reduceAdd, Int.reduceSub, Int.reduceNeg, Int.reducePow, Int.reduceMul, Int.reduceToNat, wp_ok, wp_exc, wp_bad, wp_bind, bind_ok, wp_of, wr_some, wr_ite, of_some, tst_some, and_ok, or_ok, ws_nx, ws_rt, ws_bk, ws_ct, ws_exc, ws_then, wp_ite, ws_ite, decide_eq_true_eq, decide_eq_false_iff_not, true_implies, false_implies, implies_true, not_true_eq_false, not_false_eq_true, true_and, and_true, forall_const, fMeth, isTy_s, isTy_l, Option.isSome_some, and_self, fSlice, pNone, pSome, ws_sFor, fiSeq, fiRng1, fiRng2, wp_fLc, wp_outI_some, wp_rng1, wp_rng2, oEq_int, oNe_int, oEq_str, oNe_str, oEq_bl, oIs_non, oIsNot_non, isNon_non, isNon_int, isNon_bl, isNon_str, isNon_tup, isNon_ref, tru_non, tru_bl, tru_int, tru_tup, lenG_tup, oLt_str, oNotIn_str, oIn_str, seqG_tup, seqG_ref, iSeqG_tup, fiEnumA, iEnumGA_tup, iEnumGA_str, fiZip, Bool.false_or, Bool.true_or, Bool.or_false, Bool.or_true, Bool.false_and, Bool.true_and, Bool.and_false, Bool.and_true, Bool.or_eq_false_iff, Bool.not_eq_true', Bool.not_eq_false', nList, nTuple, oAdd_int, line, Bool.or_eq_true, Bool.and_eq_true, Bool.not_eq_true]
    exact x i e
theorem w_heard_label {fb : FE} {ρ : Env} (h : wp (fb ρ (S ++ [.fn])) (fun w S1 => Q (.tup [.str "told", w]) S1) (fun e S1 => ∃ w, e = ⟨"BadLabel", "at", w⟩ ∧ Q (.tup [.str "none", w, .bl true, .bl true, .bl false]) S1)) : wp (fLam 3 g_law_heard_label_b fb ρ S) Q E := by
  cases e : fb ρ (S ++ [.fn]) with
  | ok w S1 =>
    rw [e, wp_ok] at h
    refine wp_eq (a := .tup [.str "told", w]) (S := S1) ?_ h
    simp only [fLam, g_law_heard_label_b, sTryP, fAsk, runDef, sSeq, Out.bind, Out.thenS, Out.of, Out.tst, startE, OutS.toOut, sNext, sIf, sAsg, sRet, sRetN, sExpr, sBreak, sCont, sPar, par2, sAug, sRaise, fVar, fC, tyN, isi_NoneType_bool, isi_NoneType_int, isi_NoneType_str, isi_NoneType_tuple, isi_NoneType_list, isi_bool_bool, isi_bool_int, isi_bool_str, isi_bool_tuple, isi_bool_list, isi_int_bool, isi_int_int, isi_int_str, isi_int_tuple, isi_int_list, isi_str_bool, isi_str_int, isi_str_str, isi_str_tuple, isi_str_list, isi_tuple_bool, isi_tuple_int, isi_tuple_str, isi_tuple_tuple, isi_tuple_list, isi_list_bool, isi_list_int, isi_list_str, isi_list_tuple, isi_list_list, fBin, fCall, fNat, fIsi, fTru, fBl, fNotT, fAndT, fOrT, fAndV, fOrV, fNotV, fIf, fTup, fLst, fNeg, aNil, aCons, gNm, gSb, gTpT, gNms, blOf, o2I, n1I, n2I, nLen_eq, oSub, oMod, oDiv, oGt, oGe, oLe, oLt, pw10_4, pw10_6, pw10_9, pw10_12, pw10_18, pw10_20, pw10_30, pw10_40, pw2_32, pw2_63, pw2_64, List.length_cons, List.length_nil, List.map_cons, List.map_nil, List.getElem?_cons_zero, List.getElem?_cons_succ, List.set_cons_zero, List.set_cons_succ, List.replicate, List.cons_append, List.nil_append, List.append_nil, Option.map_some, Option.map_none, id, ite_true, ite_false, if_true, if_false, Nat.zero_add, Nat.reduceAdd, Nat.reduceSub, Nat.reduceLeDiff, Bool.not_true, Bool.not_false, Bool.false_eq_true, reduceIte, reduceCtorEq, Int.reduceLT, Int.reduceLE, Int.reduceEq, Int.reduceNe, Nat.reduceLT, Nat.reduceEqDiff, decide_true, decide_false, Int.reduceAdd, Int.reduceSub, Int.reduceNeg, Int.reducePow, Int.reduceMul, Int.reduceToNat, e, line]
  | exc x S1 =>
    rw [e, wp_exc] at h
    obtain ⟨w, rfl, h⟩ := h
    refine wp_eq (a := .tup [.str "none", w, .bl true, .bl true, .bl false]) (S := S1) ?_ h
    simp only [fLam, g_law_heard_label_b, sTryP, fAsk, runDef, sSeq, Out.bind, Out.thenS, Out.of, Out.tst, startE, OutS.toOut, sNext, sIf, sAsg, sRet, sRetN, sExpr, sBreak, sCont, sPar, par2, sAug, sRaise, fVar, fC, tyN, isi_NoneType_bool, isi_NoneType_int, isi_NoneType_str, isi_NoneType_tuple, isi_NoneType_list, isi_bool_bool, isi_bool_int, isi_bool_str, isi_bool_tuple, isi_bool_list, isi_int_bool, isi_int_int, isi_int_str, isi_int_tuple, isi_int_list, isi_str_bool, isi_str_int, isi_str_str, isi_str_tuple, isi_str_list, isi_tuple_bool, isi_tuple_int, isi_tuple_str, isi_tuple_tuple, isi_tuple_list, isi_list_bool, isi_list_int, isi_list_str, isi_list_tuple, isi_list_list, fBin, fCall, fNat, fIsi, fTru, fBl, fNotT, fAndT, fOrT, fAndV, fOrV, fNotV, fIf, fTup, fLst, fNeg, aNil, aCons, gNm, gSb, gTpT, gNms, blOf, o2I, n1I, n2I, nLen_eq, oSub, oMod, oDiv, oGt, oGe, oLe, oLt, pw10_4, pw10_6, pw10_9, pw10_12, pw10_18, pw10_20, pw10_30, pw10_40, pw2_32, pw2_63, pw2_64, List.length_cons, List.length_nil, List.map_cons, List.map_nil, List.getElem?_cons_zero, List.getElem?_cons_succ, List.set_cons_zero, List.set_cons_succ, List.replicate, List.cons_append, List.nil_append, List.append_nil, Option.map_some, Option.map_none, id, ite_true, ite_false, if_true, if_false, Nat.zero_add, Nat.reduceAdd, Nat.reduceSub, Nat.reduceLeDiff, Bool.not_true, Bool.not_false, Bool.false_eq_true, reduceIte, reduceCtorEq, Int.reduceLT, Int.reduceLE, Int.reduceEq, Int.reduceNe, Nat.reduceLT, Nat.reduceEqDiff, decide_true, decide_false, Int.reduceAdd, Int.reduceSub, Int.reduceNeg, Int.reducePow, Int.reduceMul, Int.reduceToNat, e, line]
    rfl
  | bad => rw [e, wp_bad] at h; exact h.elim
theorem w_heard_name {fb : FE} {ρ : Env} (h : wp (fb ρ (S ++ [.fn])) (fun w S1 => Q (.tup [.str "told", w]) S1) (fun e S1 => ∃ w, e = ⟨"BadName", "at", w⟩ ∧ Q (.tup [.str "none", w, .bl true, .bl true, .bl false]) S1)) : wp (fLam 3 g_law_heard_name_b fb ρ S) Q E := by
  cases e : fb ρ (S ++ [.fn]) with
  | ok w S1 =>
    rw [e, wp_ok] at h
    refine wp_eq (a := .tup [.str "told", w]) (S := S1) ?_ h
    simp only [fLam, g_law_heard_name_b, sTryP, fAsk, runDef, sSeq, Out.bind, Out.thenS, Out.of, Out.tst, startE, OutS.toOut, sNext, sIf, sAsg, sRet, sRetN, sExpr, sBreak, sCont, sPar, par2, sAug, sRaise, fVar, fC, tyN, isi_NoneType_bool, isi_NoneType_int, isi_NoneType_str, isi_NoneType_tuple, isi_NoneType_list, isi_bool_bool, isi_bool_int, isi_bool_str, isi_bool_tuple, isi_bool_list, isi_int_bool, isi_int_int, isi_int_str, isi_int_tuple, isi_int_list, isi_str_bool, isi_str_int, isi_str_str, isi_str_tuple, isi_str_list, isi_tuple_bool, isi_tuple_int, isi_tuple_str, isi_tuple_tuple, isi_tuple_list, isi_list_bool, isi_list_int, isi_list_str, isi_list_tuple, isi_list_list, fBin, fCall, fNat, fIsi, fTru, fBl, fNotT, fAndT, fOrT, fAndV, fOrV, fNotV, fIf, fTup, fLst, fNeg, aNil, aCons, gNm, gSb, gTpT, gNms, blOf, o2I, n1I, n2I, nLen_eq, oSub, oMod, oDiv, oGt, oGe, oLe, oLt, pw10_4, pw10_6, pw10_9, pw10_12, pw10_18, pw10_20, pw10_30, pw10_40, pw2_32, pw2_63, pw2_64, List.length_cons, List.length_nil, List.map_cons, List.map_nil, List.getElem?_cons_zero, List.getElem?_cons_succ, List.set_cons_zero, List.set_cons_succ, List.replicate, List.cons_append, List.nil_append, List.append_nil, Option.map_some, Option.map_none, id, ite_true, ite_false, if_true, if_false, Nat.zero_add, Nat.reduceAdd, Nat.reduceSub, Nat.reduceLeDiff, Bool.not_true, Bool.not_false, Bool.false_eq_true, reduceIte, reduceCtorEq, Int.reduceLT, Int.reduceLE, Int.reduceEq, Int.reduceNe, Nat.reduceLT, Nat.reduceEqDiff, decide_true, decide_false, Int.reduceAdd, Int.reduceSub, Int.reduceNeg, Int.reducePow, Int.reduceMul, Int.reduceToNat, e, line]
  | exc x S1 =>
    rw [e, wp_exc] at h
    obtain ⟨w, rfl, h⟩ := h
    refine wp_eq (a := .tup [.str "none", w, .bl true, .bl true, .bl false]) (S := S1) ?_ h
    simp only [fLam, g_law_heard_name_b, sTryP, fAsk, runDef, sSeq, Out.bind, Out.thenS, Out.of, Out.tst, startE, OutS.toOut, sNext, sIf, sAsg, sRet, sRetN, sExpr, sBreak, sCont, sPar, par2, sAug, sRaise, fVar, fC, tyN, isi_NoneType_bool, isi_NoneType_int, isi_NoneType_str, isi_NoneType_tuple, isi_NoneType_list, isi_bool_bool, isi_bool_int, isi_bool_str, isi_bool_tuple, isi_bool_list, isi_int_bool, isi_int_int, isi_int_str, isi_int_tuple, isi_int_list, isi_str_bool, isi_str_int, isi_str_str, isi_str_tuple, isi_str_list, isi_tuple_bool, isi_tuple_int, isi_tuple_str, isi_tuple_tuple, isi_tuple_list, isi_list_bool, isi_list_int, isi_list_str, isi_list_tuple, isi_list_list, fBin, fCall, fNat, fIsi, fTru, fBl, fNotT, fAndT, fOrT, fAndV, fOrV, fNotV, fIf, fTup, fLst, fNeg, aNil, aCons, gNm, gSb, gTpT, gNms, blOf, o2I, n1I, n2I, nLen_eq, oSub, oMod, oDiv, oGt, oGe, oLe, oLt, pw10_4, pw10_6, pw10_9, pw10_12, pw10_18, pw10_20, pw10_30, pw10_40, pw2_32, pw2_63, pw2_64, List.length_cons, List.length_nil, List.map_cons, List.map_nil, List.getElem?_cons_zero, List.getElem?_cons_succ, List.set_cons_zero, List.set_cons_succ, List.replicate, List.cons_append, List.nil_append, List.append_nil, Option.map_some, Option.map_none, id, ite_true, ite_false, if_true, if_false, Nat.zero_add, Nat.reduceAdd, Nat.reduceSub, Nat.reduceLeDiff, Bool.not_true, Bool.not_false, Bool.false_eq_true, reduceIte, reduceCtorEq, Int.reduceLT, Int.reduceLE, Int.reduceEq, Int.reduceNe, Nat.reduceLT, Nat.reduceEqDiff, decide_true, decide_false, Int.reduceAdd, Int.reduceSub, Int.reduceNeg, Int.reducePow, Int.reduceMul, Int.reduceToNat, e, line]
    rfl
  | bad => rw [e, wp_bad] at h; exact h.elim
/-! ### a value is told right -/
theorem okv_told {n : Nat} {v : T} (h : Okv S n v) : Okv S (n + 1) (.tup [.str "told", v]) := fun x hx => by
  simp only [List.mem_cons, List.mem_nil_iff, or_false] at hx
  rcases hx with rfl | rfl
  · cases n with
    | zero => exact h.elim
    | succ n => trivial
  · exact h
theorem okv_none {i : Int} : Okv S 2 (.tup [.str "none", .int i, .bl true, .bl true, .bl false]) := fun x hx => by
  simp only [List.mem_cons, List.mem_nil_iff, or_false] at hx
  rcases hx with rfl | rfl | rfl | rfl | rfl <;> trivial
theorem MvP.push {cs : List Cell} {n : Nat} {v : T} (h : MvP p S n v) : MvP p (S ++ cs) n v := h.imp fun r xs hr e => ⟨hr, getL_push r xs e⟩
theorem w_label_right {v : T} (h : MvP p S 4 v) (k : Q (.bl true) (S ++ [.fn])) : wp (g_law_label_right [v] S) Q E := by
  have h1 := h.push (cs := [.fn])
  unfold g_law_label_right
  refine wp_def rfl ?_
  unfold g_law_label_right_b
  simp only [startE, List.map_cons, List.map_nil, List.length_cons, List.length_nil, List.replicate, List.cons_append, List.nil_append, Nat.reduceAdd, Nat.reduceSub, Nat.zero_add]
  refine ws_seq ?_
  rcases lf_kind v with e | ⟨i, e⟩
  · simp -implicitDefEqProofs only [startE, OutS.toOut, sNext, sIf, sAsg, sRet, sRetN, sExpr, sBreak, sCont, sPar, par2, sAug, sRaise, fVar, fC, tyN, isi_NoneType_bool, isi_NoneType_int, isi_NoneType_str, isi_NoneType_tuple, isi_NoneType_list, isi_bool_bool, isi_bool_int, isi_bool_str, isi_bool_tuple, isi_bool_list, isi_int_bool, isi_int_int, isi_int_str, isi_int_tuple, isi_int_list, isi_str_bool, isi_str_int, isi_str_str, isi_str_tuple, isi_str_list, isi_tuple_bool, isi_tuple_int, isi_tuple_str, isi_tuple_tuple, isi_tuple_list, isi_list_bool, isi_list_int, isi_list_str, isi_list_tuple, isi_list_list, fBin, fCall, fNat, fIsi, fTru, fBl, fNotT, fAndT, fOrT, fAndV, fOrV, fNotV, fIf, fTup, fLst, fNeg, aNil, aCons, gNm, gSb, gTpT, gNms, blOf, o2I, n1I, n2I, nLen_eq, oSub, oMod, oDiv, oGt, oGe, oLe, oLt, pw10_4, pw10_6, pw10_9, pw10_12, pw10_18, pw10_20, pw10_30, pw10_40, pw2_32, pw2_63, pw2_64, List.length_cons, List.length_nil, List.map_cons, List.map_nil, List.getElem?_cons_zero, List.getElem?_cons_succ, List.set_cons_zero, List.set_cons_succ, List.replicate, List.cons_append, List.nil_append, List.append_nil, Option.map_some, Option.map_none, id, ite_true, ite_false, if_true, if_false, Nat.zero_add, Nat.reduceAdd, Nat.reduceSub, Nat.reduceLeDiff, Bool.not_true, Bool.not_false, Bool.false_eq_true, reduceIte, reduceCtorEq, Int.reduceLT, Int.reduceLE, Int.reduceEq, Int.reduceNe, Nat.reduceLT, Nat.reduceEqDiff, decide_true, decide_false, Int.reduceAdd, Int.reduceSub, Int.reduceNeg, Int.reducePow, Int.reduceMul, Int.reduceToNat, wp_ok, wp_exc, wp_bad, wp_bind, bind_ok, wp_of, wr_some, wr_ite, of_some, tst_some, and_ok, or_ok, ws_nx, ws_rt, ws_bk, ws_ct, ws_exc, ws_then, wp_ite, ws_ite, decide_eq_true_eq, decide_eq_false_iff_not, true_implies, false_implies, implies_true, not_true_eq_false, not_false_eq_true, true_and, and_true, forall_const, fMeth, isTy_s, isTy_l, Option.isSome_some, and_self, fSlice, pNone, pSome, ws_sFor, fiSeq, fiRng1, fiRng2, wp_fLc, wp_outI_some, wp_rng1, wp_rng2, oEq_int, oNe_int, oEq_str, oNe_str, oEq_bl, oIs_non, oIsNot_non, isNon_non, isNon_int, isNon_bl, isNon_str, isNon_tup, isNon_ref, tru_non, tru_bl, tru_int, tru_tup, lenG_tup, oLt_str, oNotIn_str, oIn_str, seqG_tup, seqG_ref, iSeqG_tup, fiEnumA, iEnumGA_tup, iEnumGA_str, fiZip, Bool.false_or, Bool.true_or, Bool.or_false, Bool.or_true, Bool.false_and, Bool.true_and, Bool.and_false, Bool.and_true, Bool.or_eq_false_iff, Bool.not_eq_true', Bool.not_eq_false', nList, nTuple, oAdd_int, line, Bool.or_eq_true, Bool.and_eq_true, Bool.not_eq_true, text_ok h.lv, e]
    refine ws_seq ?_
    try simp -implicitDefEqProofs only [startE, OutS.toOut, sNext, sIf, sAsg, sRet, sRetN, sExpr, sBreak, sCont, sPar, par2, sAug, sRaise, fVar, fC, tyN, isi_NoneType_bool, isi_NoneType_int, isi_NoneType_str, isi_NoneType_tuple, isi_NoneType_list, isi_bool_bool, isi_bool_int, isi_bool_str, isi_bool_tuple, isi_bool_list, isi_int_bool, isi_int_int, isi_int_str, isi_int_tuple, isi_int_list, isi_str_bool, isi_str_int, isi_str_str, isi_str_tuple, isi_str_list, isi_tuple_bool, isi_tuple_int, isi_tuple_str, isi_tuple_tuple, isi_tuple_list, isi_list_bool, isi_list_int, isi_list_str, isi_list_tuple, isi_list_list, fBin, fCall, fNat, fIsi, fTru, fBl, fNotT, fAndT, fOrT, fAndV, fOrV, fNotV, fIf, fTup, fLst, fNeg, aNil, aCons, gNm, gSb, gTpT, gNms, blOf, o2I, n1I, n2I, nLen_eq, oSub, oMod, oDiv, oGt, oGe, oLe, oLt, pw10_4, pw10_6, pw10_9, pw10_12, pw10_18, pw10_20, pw10_30, pw10_40, pw2_32, pw2_63, pw2_64, List.length_cons, List.length_nil, List.map_cons, List.map_nil, List.getElem?_cons_zero, List.getElem?_cons_succ, List.set_cons_zero, List.set_cons_succ, List.replicate, List.cons_append, List.nil_append, List.append_nil, Option.map_some, Option.map_none, id, ite_true, ite_false, if_true, if_false, Nat.zero_add, Nat.reduceAdd, Nat.reduceSub, Nat.reduceLeDiff, Bool.not_true, Bool.not_false, Bool.false_eq_true, reduceIte, reduceCtorEq, Int.reduceLT, Int.reduceLE, Int.reduceEq, Int.reduceNe, Nat.reduceLT, Nat.reduceEqDiff, decide_true, decide_false, Int.reduceAdd, Int.reduceSub, Int.reduceNeg, Int.reducePow, Int.reduceMul, Int.reduceToNat, wp_ok, wp_exc, wp_bad, wp_bind, bind_ok, wp_of, wr_some, wr_ite, of_some, tst_some, and_ok, or_ok, ws_nx, ws_rt, ws_bk, ws_ct, ws_exc, ws_then, wp_ite, ws_ite, decide_eq_true_eq, decide_eq_false_iff_not, true_implies, false_implies, implies_true, not_true_eq_false, not_false_eq_true, true_and, and_true, forall_const, fMeth, isTy_s, isTy_l, Option.isSome_some, and_self, fSlice, pNone, pSome, ws_sFor, fiSeq, fiRng1, fiRng2, wp_fLc, wp_outI_some, wp_rng1, wp_rng2, oEq_int, oNe_int, oEq_str, oNe_str, oEq_bl, oIs_non, oIsNot_non, isNon_non, isNon_int, isNon_bl, isNon_str, isNon_tup, isNon_ref, tru_non, tru_bl, tru_int, tru_tup, lenG_tup, oLt_str, oNotIn_str, oIn_str, seqG_tup, seqG_ref, iSeqG_tup, fiEnumA, iEnumGA_tup, iEnumGA_str, fiZip, Bool.false_or, Bool.true_or, Bool.or_false, Bool.or_true, Bool.false_and, Bool.true_and, Bool.and_false, Bool.and_true, Bool.or_eq_false_iff, Bool.not_eq_true', Bool.not_eq_false', nList, nTuple, oAdd_int, line, Bool.or_eq_true, Bool.and_eq_true, Bool.not_eq_true]
    refine w_heard_label ?_
    simp -implicitDefEqProofs only [startE, OutS.toOut, sNext, sIf, sAsg, sRet, sRetN, sExpr, sBreak, sCont, sPar, par2, sAug, sRaise, fVar, fC, tyN, isi_NoneType_bool, isi_NoneType_int, isi_NoneType_str, isi_NoneType_tuple, isi_NoneType_list, isi_bool_bool, isi_bool_int, isi_bool_str, isi_bool_tuple, isi_bool_list, isi_int_bool, isi_int_int, isi_int_str, isi_int_tuple, isi_int_list, isi_str_bool, isi_str_int, isi_str_str, isi_str_tuple, isi_str_list, isi_tuple_bool, isi_tuple_int, isi_tuple_str, isi_tuple_tuple, isi_tuple_list, isi_list_bool, isi_list_int, isi_list_str, isi_list_tuple, isi_list_list, fBin, fCall, fNat, fIsi, fTru, fBl, fNotT, fAndT, fOrT, fAndV, fOrV, fNotV, fIf, fTup, fLst, fNeg, aNil, aCons, gNm, gSb, gTpT, gNms, blOf, o2I, n1I, n2I, nLen_eq, oSub, oMod, oDiv, oGt, oGe, oLe, oLt, pw10_4, pw10_6, pw10_9, pw10_12, pw10_18, pw10_20, pw10_30, pw10_40, pw2_32, pw2_63, pw2_64, List.length_cons, List.length_nil, List.map_cons, List.map_nil, List.getElem?_cons_zero, List.getElem?_cons_succ, List.set_cons_zero, List.set_cons_succ, List.replicate, List.cons_append, List.nil_append, List.append_nil, Option.map_some, Option.map_none, id, ite_true, ite_false, if_true, if_false, Nat.zero_add, Nat.reduceAdd, Nat.reduceSub, Nat.reduceLeDiff, Bool.not_true, Bool.not_false, Bool.false_eq_true, reduceIte, reduceCtorEq, Int.reduceLT, Int.reduceLE, Int.reduceEq, Int.reduceNe, Nat.reduceLT, Nat.reduceEqDiff, decide_true, decide_false, Int.reduceAdd, Int.reduceSub, Int.reduceNeg, Int.reducePow, Int.reduceMul, Int.reduceToNat, wp_ok, wp_exc, wp_bad, wp_bind, bind_ok, wp_of, wr_some, wr_ite, of_some, tst_some, and_ok, or_ok, ws_nx, ws_rt, ws_bk, ws_ct, ws_exc, ws_then, wp_ite, ws_ite, decide_eq_true_eq, decide_eq_false_iff_not, true_implies, false_implies, implies_true, not_true_eq_false, not_false_eq_true, true_and, and_true, forall_const, fMeth, isTy_s, isTy_l, Option.isSome_some, and_self, fSlice, pNone, pSome, ws_sFor, fiSeq, fiRng1, fiRng2, wp_fLc, wp_outI_some, wp_rng1, wp_rng2, oEq_int, oNe_int, oEq_str, oNe_str, oEq_bl, oIs_non, oIsNot_non, isNon_non, isNon_int, isNon_bl, isNon_str, isNon_tup, isNon_ref, tru_non, tru_bl, tru_int, tru_tup, lenG_tup, oLt_str, oNotIn_str, oIn_str, seqG_tup, seqG_ref, iSeqG_tup, fiEnumA, iEnumGA_tup, iEnumGA_str, fiZip, Bool.false_or, Bool.true_or, Bool.or_false, Bool.or_true, Bool.false_and, Bool.true_and, Bool.and_false, Bool.and_true, Bool.or_eq_false_iff, Bool.not_eq_true', Bool.not_eq_false', nList, nTuple, oAdd_int, line, Bool.or_eq_true, Bool.and_eq_true, Bool.not_eq_true]
    refine w_check_label h1.lv (fun _ => ?_) fun i q => (by rw [e] at q; cases q)
    simp -implicitDefEqProofs only [startE, OutS.toOut, sNext, sIf, sAsg, sRet, sRetN, sExpr, sBreak, sCont, sPar, par2, sAug, sRaise, fVar, fC, tyN, isi_NoneType_bool, isi_NoneType_int, isi_NoneType_str, isi_NoneType_tuple, isi_NoneType_list, isi_bool_bool, isi_bool_int, isi_bool_str, isi_bool_tuple, isi_bool_list, isi_int_bool, isi_int_int, isi_int_str, isi_int_tuple, isi_int_list, isi_str_bool, isi_str_int, isi_str_str, isi_str_tuple, isi_str_list, isi_tuple_bool, isi_tuple_int, isi_tuple_str, isi_tuple_tuple, isi_tuple_list, isi_list_bool, isi_list_int, isi_list_str, isi_list_tuple, isi_list_list, fBin, fCall, fNat, fIsi, fTru, fBl, fNotT, fAndT, fOrT, fAndV, fOrV, fNotV, fIf, fTup, fLst, fNeg, aNil, aCons, gNm, gSb, gTpT, gNms, blOf, o2I, n1I, n2I, nLen_eq, oSub, oMod, oDiv, oGt, oGe, oLe, oLt, pw10_4, pw10_6, pw10_9, pw10_12, pw10_18, pw10_20, pw10_30, pw10_40, pw2_32, pw2_63, pw2_64, List.length_cons, List.length_nil, List.map_cons, List.map_nil, List.getElem?_cons_zero, List.getElem?_cons_succ, List.set_cons_zero, List.set_cons_succ, List.replicate, List.cons_append, List.nil_append, List.append_nil, Option.map_some, Option.map_none, id, ite_true, ite_false, if_true, if_false, Nat.zero_add, Nat.reduceAdd, Nat.reduceSub, Nat.reduceLeDiff, Bool.not_true, Bool.not_false, Bool.false_eq_true, reduceIte, reduceCtorEq, Int.reduceLT, Int.reduceLE, Int.reduceEq, Int.reduceNe, Nat.reduceLT, Nat.reduceEqDiff, decide_true, decide_false, Int.reduceAdd, Int.reduceSub, Int.reduceNeg, Int.reducePow, Int.reduceMul, Int.reduceToNat, wp_ok, wp_exc, wp_bad, wp_bind, bind_ok, wp_of, wr_some, wr_ite, of_some, tst_some, and_ok, or_ok, ws_nx, ws_rt, ws_bk, ws_ct, ws_exc, ws_then, wp_ite, ws_ite, decide_eq_true_eq, decide_eq_false_iff_not, true_implies, false_implies, implies_true, not_true_eq_false, not_false_eq_true, true_and, and_true, forall_const, fMeth, isTy_s, isTy_l, Option.isSome_some, and_self, fSlice, pNone, pSome, ws_sFor, fiSeq, fiRng1, fiRng2, wp_fLc, wp_outI_some, wp_rng1, wp_rng2, oEq_int, oNe_int, oEq_str, oNe_str, oEq_bl, oIs_non, oIsNot_non, isNon_non, isNon_int, isNon_bl, isNon_str, isNon_tup, isNon_ref, tru_non, tru_bl, tru_int, tru_tup, lenG_tup, oLt_str, oNotIn_str, oIn_str, seqG_tup, seqG_ref, iSeqG_tup, fiEnumA, iEnumGA_tup, iEnumGA_str, fiZip, Bool.false_or, Bool.true_or, Bool.or_false, Bool.or_true, Bool.false_and, Bool.true_and, Bool.and_false, Bool.and_true, Bool.or_eq_false_iff, Bool.not_eq_true', Bool.not_eq_false', nList, nTuple, oAdd_int, line, Bool.or_eq_true, Bool.and_eq_true, Bool.not_eq_true, same_ok 8 _ ((okv_told h1.okv).mono (by decide))]
    exact k
  · simp -implicitDefEqProofs only [startE, OutS.toOut, sNext, sIf, sAsg, sRet, sRetN, sExpr, sBreak, sCont, sPar, par2, sAug, sRaise, fVar, fC, tyN, isi_NoneType_bool, isi_NoneType_int, isi_NoneType_str, isi_NoneType_tuple, isi_NoneType_list, isi_bool_bool, isi_bool_int, isi_bool_str, isi_bool_tuple, isi_bool_list, isi_int_bool, isi_int_int, isi_int_str, isi_int_tuple, isi_int_list, isi_str_bool, isi_str_int, isi_str_str, isi_str_tuple, isi_str_list, isi_tuple_bool, isi_tuple_int, isi_tuple_str, isi_tuple_tuple, isi_tuple_list, isi_list_bool, isi_list_int, isi_list_str, isi_list_tuple, isi_list_list, fBin, fCall, fNat, fIsi, fTru, fBl, fNotT, fAndT, fOrT, fAndV, fOrV, fNotV, fIf, fTup, fLst, fNeg, aNil, aCons, gNm, gSb, gTpT, gNms, blOf, o2I, n1I, n2I, nLen_eq, oSub, oMod, oDiv, oGt, oGe, oLe, oLt, pw10_4, pw10_6, pw10_9, pw10_12, pw10_18, pw10_20, pw10_30, pw10_40, pw2_32, pw2_63, pw2_64, List.length_cons, List.length_nil, List.map_cons, List.map_nil, List.getElem?_cons_zero, List.getElem?_cons_succ, List.set_cons_zero, List.set_cons_succ, List.replicate, List.cons_append, List.nil_append, List.append_nil, Option.map_some, Option.map_none, id, ite_true, ite_false, if_true, if_false, Nat.zero_add, Nat.reduceAdd, Nat.reduceSub, Nat.reduceLeDiff, Bool.not_true, Bool.not_false, Bool.false_eq_true, reduceIte, reduceCtorEq, Int.reduceLT, Int.reduceLE, Int.reduceEq, Int.reduceNe, Nat.reduceLT, Nat.reduceEqDiff, decide_true, decide_false, Int.reduceAdd, Int.reduceSub, Int.reduceNeg, Int.reducePow, Int.reduceMul, Int.reduceToNat, wp_ok, wp_exc, wp_bad, wp_bind, bind_ok, wp_of, wr_some, wr_ite, of_some, tst_some, and_ok, or_ok, ws_nx, ws_rt, ws_bk, ws_ct, ws_exc, ws_then, wp_ite, ws_ite, decide_eq_true_eq, decide_eq_false_iff_not, true_implies, false_implies, implies_true, not_true_eq_false, not_false_eq_true, true_and, and_true, forall_const, fMeth, isTy_s, isTy_l, Option.isSome_some, and_self, fSlice, pNone, pSome, ws_sFor, fiSeq, fiRng1, fiRng2, wp_fLc, wp_outI_some, wp_rng1, wp_rng2, oEq_int, oNe_int, oEq_str, oNe_str, oEq_bl, oIs_non, oIsNot_non, isNon_non, isNon_int, isNon_bl, isNon_str, isNon_tup, isNon_ref, tru_non, tru_bl, tru_int, tru_tup, lenG_tup, oLt_str, oNotIn_str, oIn_str, seqG_tup, seqG_ref, iSeqG_tup, fiEnumA, iEnumGA_tup, iEnumGA_str, fiZip, Bool.false_or, Bool.true_or, Bool.or_false, Bool.or_true, Bool.false_and, Bool.true_and, Bool.and_false, Bool.and_true, Bool.or_eq_false_iff, Bool.not_eq_true', Bool.not_eq_false', nList, nTuple, oAdd_int, line, Bool.or_eq_true, Bool.and_eq_true, Bool.not_eq_true, text_ok h.lv, e]
    refine ws_seq ?_
    try simp -implicitDefEqProofs only [startE, OutS.toOut, sNext, sIf, sAsg, sRet, sRetN, sExpr, sBreak, sCont, sPar, par2, sAug, sRaise, fVar, fC, tyN, isi_NoneType_bool, isi_NoneType_int, isi_NoneType_str, isi_NoneType_tuple, isi_NoneType_list, isi_bool_bool, isi_bool_int, isi_bool_str, isi_bool_tuple, isi_bool_list, isi_int_bool, isi_int_int, isi_int_str, isi_int_tuple, isi_int_list, isi_str_bool, isi_str_int, isi_str_str, isi_str_tuple, isi_str_list, isi_tuple_bool, isi_tuple_int, isi_tuple_str, isi_tuple_tuple, isi_tuple_list, isi_list_bool, isi_list_int, isi_list_str, isi_list_tuple, isi_list_list, fBin, fCall, fNat, fIsi, fTru, fBl, fNotT, fAndT, fOrT, fAndV, fOrV, fNotV, fIf, fTup, fLst, fNeg, aNil, aCons, gNm, gSb, gTpT, gNms, blOf, o2I, n1I, n2I, nLen_eq, oSub, oMod, oDiv, oGt, oGe, oLe, oLt, pw10_4, pw10_6, pw10_9, pw10_12, pw10_18, pw10_20, pw10_30, pw10_40, pw2_32, pw2_63, pw2_64, List.length_cons, List.length_nil, List.map_cons, List.map_nil, List.getElem?_cons_zero, List.getElem?_cons_succ, List.set_cons_zero, List.set_cons_succ, List.replicate, List.cons_append, List.nil_append, List.append_nil, Option.map_some, Option.map_none, id, ite_true, ite_false, if_true, if_false, Nat.zero_add, Nat.reduceAdd, Nat.reduceSub, Nat.reduceLeDiff, Bool.not_true, Bool.not_false, Bool.false_eq_true, reduceIte, reduceCtorEq, Int.reduceLT, Int.reduceLE, Int.reduceEq, Int.reduceNe, Nat.reduceLT, Nat.reduceEqDiff, decide_true, decide_false, Int.reduceAdd, Int.reduceSub, Int.reduceNeg, Int.reducePow, Int.reduceMul, Int.reduceToNat, wp_ok, wp_exc, wp_bad, wp_bind, bind_ok, wp_of, wr_some, wr_ite, of_some, tst_some, and_ok, or_ok, ws_nx, ws_rt, ws_bk, ws_ct, ws_exc, ws_then, wp_ite, ws_ite, decide_eq_true_eq, decide_eq_false_iff_not, true_implies, false_implies, implies_true, not_true_eq_false, not_false_eq_true, true_and, and_true, forall_const, fMeth, isTy_s, isTy_l, Option.isSome_some, and_self, fSlice, pNone, pSome, ws_sFor, fiSeq, fiRng1, fiRng2, wp_fLc, wp_outI_some, wp_rng1, wp_rng2, oEq_int, oNe_int, oEq_str, oNe_str, oEq_bl, oIs_non, oIsNot_non, isNon_non, isNon_int, isNon_bl, isNon_str, isNon_tup, isNon_ref, tru_non, tru_bl, tru_int, tru_tup, lenG_tup, oLt_str, oNotIn_str, oIn_str, seqG_tup, seqG_ref, iSeqG_tup, fiEnumA, iEnumGA_tup, iEnumGA_str, fiZip, Bool.false_or, Bool.true_or, Bool.or_false, Bool.or_true, Bool.false_and, Bool.true_and, Bool.and_false, Bool.and_true, Bool.or_eq_false_iff, Bool.not_eq_true', Bool.not_eq_false', nList, nTuple, oAdd_int, line, Bool.or_eq_true, Bool.and_eq_true, Bool.not_eq_true]
    refine w_heard_label ?_
    simp -implicitDefEqProofs only [startE, OutS.toOut, sNext, sIf, sAsg, sRet, sRetN, sExpr, sBreak, sCont, sPar, par2, sAug, sRaise, fVar, fC, tyN, isi_NoneType_bool, isi_NoneType_int, isi_NoneType_str, isi_NoneType_tuple, isi_NoneType_list, isi_bool_bool, isi_bool_int, isi_bool_str, isi_bool_tuple, isi_bool_list, isi_int_bool, isi_int_int, isi_int_str, isi_int_tuple, isi_int_list, isi_str_bool, isi_str_int, isi_str_str, isi_str_tuple, isi_str_list, isi_tuple_bool, isi_tuple_int, isi_tuple_str, isi_tuple_tuple, isi_tuple_list, isi_list_bool, isi_list_int, isi_list_str, isi_list_tuple, isi_list_list, fBin, fCall, fNat, fIsi, fTru, fBl, fNotT, fAndT, fOrT, fAndV, fOrV, fNotV, fIf, fTup, fLst, fNeg, aNil, aCons, gNm, gSb, gTpT, gNms, blOf, o2I, n1I, n2I, nLen_eq, oSub, oMod, oDiv, oGt, oGe, oLe, oLt, pw10_4, pw10_6, pw10_9, pw10_12, pw10_18, pw10_20, pw10_30, pw10_40, pw2_32, pw2_63, pw2_64, List.length_cons, List.length_nil, List.map_cons, List.map_nil, List.getElem?_cons_zero, List.getElem?_cons_succ, List.set_cons_zero, List.set_cons_succ, List.replicate, List.cons_append, List.nil_append, List.append_nil, Option.map_some, Option.map_none, id, ite_true, ite_false, if_true, if_false, Nat.zero_add, Nat.reduceAdd, Nat.reduceSub, Nat.reduceLeDiff, Bool.not_true, Bool.not_false, Bool.false_eq_true, reduceIte, reduceCtorEq, Int.reduceLT, Int.reduceLE, Int.reduceEq, Int.reduceNe, Nat.reduceLT, Nat.reduceEqDiff, decide_true, decide_false, Int.reduceAdd, Int.reduceSub, Int.reduceNeg, Int.reducePow, Int.reduceMul, Int.reduceToNat, wp_ok, wp_exc, wp_bad, wp_bind, bind_ok, wp_of, wr_some, wr_ite, of_some, tst_some, and_ok, or_ok, ws_nx, ws_rt, ws_bk, ws_ct, ws_exc, ws_then, wp_ite, ws_ite, decide_eq_true_eq, decide_eq_false_iff_not, true_implies, false_implies, implies_true, not_true_eq_false, not_false_eq_true, true_and, and_true, forall_const, fMeth, isTy_s, isTy_l, Option.isSome_some, and_self, fSlice, pNone, pSome, ws_sFor, fiSeq, fiRng1, fiRng2, wp_fLc, wp_outI_some, wp_rng1, wp_rng2, oEq_int, oNe_int, oEq_str, oNe_str, oEq_bl, oIs_non, oIsNot_non, isNon_non, isNon_int, isNon_bl, isNon_str, isNon_tup, isNon_ref, tru_non, tru_bl, tru_int, tru_tup, lenG_tup, oLt_str, oNotIn_str, oIn_str, seqG_tup, seqG_ref, iSeqG_tup, fiEnumA, iEnumGA_tup, iEnumGA_str, fiZip, Bool.false_or, Bool.true_or, Bool.or_false, Bool.or_true, Bool.false_and, Bool.true_and, Bool.and_false, Bool.and_true, Bool.or_eq_false_iff, Bool.not_eq_true', Bool.not_eq_false', nList, nTuple, oAdd_int, line, Bool.or_eq_true, Bool.and_eq_true, Bool.not_eq_true]
    refine w_check_label h1.lv (fun q => (by rw [e] at q; cases q)) fun j q => ?_
    rw [e] at q
    cases q
    refine ⟨_, rfl, ?_⟩
    simp -implicitDefEqProofs only [startE, OutS.toOut, sNext, sIf, sAsg, sRet, sRetN, sExpr, sBreak, sCont, sPar, par2, sAug, sRaise, fVar, fC, tyN, isi_NoneType_bool, isi_NoneType_int, isi_NoneType_str, isi_NoneType_tuple, isi_NoneType_list, isi_bool_bool, isi_bool_int, isi_bool_str, isi_bool_tuple, isi_bool_list, isi_int_bool, isi_int_int, isi_int_str, isi_int_tuple, isi_int_list, isi_str_bool, isi_str_int, isi_str_str, isi_str_tuple, isi_str_list, isi_tuple_bool, isi_tuple_int, isi_tuple_str, isi_tuple_tuple, isi_tuple_list, isi_list_bool, isi_list_int, isi_list_str, isi_list_tuple, isi_list_list, fBin, fCall, fNat, fIsi, fTru, fBl, fNotT, fAndT, fOrT, fAndV, fOrV, fNotV, fIf, fTup, fLst, fNeg, aNil, aCons, gNm, gSb, gTpT, gNms, blOf, o2I, n1I, n2I, nLen_eq, oSub, oMod, oDiv, oGt, oGe, oLe, oLt, pw10_4, pw10_6, pw10_9, pw10_12, pw10_18, pw10_20, pw10_30, pw10_40, pw2_32, pw2_63, pw2_64, List.length_cons, List.length_nil, List.map_cons, List.map_nil, List.getElem?_cons_zero, List.getElem?_cons_succ, List.set_cons_zero, List.set_cons_succ, List.replicate, List.cons_append, List.nil_append, List.append_nil, Option.map_some, Option.map_none, id, ite_true, ite_false, if_true, if_false, Nat.zero_add, Nat.reduceAdd, Nat.reduceSub, Nat.reduceLeDiff, Bool.not_true, Bool.not_false, Bool.false_eq_true, reduceIte, reduceCtorEq, Int.reduceLT, Int.reduceLE, Int.reduceEq, Int.reduceNe, Nat.reduceLT, Nat.reduceEqDiff, decide_true, decide_false, Int.reduceAdd, Int.reduceSub, Int.reduceNeg, Int.reducePow, Int.reduceMul, Int.reduceToNat, wp_ok, wp_exc, wp_bad, wp_bind, bind_ok, wp_of, wr_some, wr_ite, of_some, tst_some, and_ok, or_ok, ws_nx, ws_rt, ws_bk, ws_ct, ws_exc, ws_then, wp_ite, ws_ite, decide_eq_true_eq, decide_eq_false_iff_not, true_implies, false_implies, implies_true, not_true_eq_false, not_false_eq_true, true_and, and_true, forall_const, fMeth, isTy_s, isTy_l, Option.isSome_some, and_self, fSlice, pNone, pSome, ws_sFor, fiSeq, fiRng1, fiRng2, wp_fLc, wp_outI_some, wp_rng1, wp_rng2, oEq_int, oNe_int, oEq_str, oNe_str, oEq_bl, oIs_non, oIsNot_non, isNon_non, isNon_int, isNon_bl, isNon_str, isNon_tup, isNon_ref, tru_non, tru_bl, tru_int, tru_tup, lenG_tup, oLt_str, oNotIn_str, oIn_str, seqG_tup, seqG_ref, iSeqG_tup, fiEnumA, iEnumGA_tup, iEnumGA_str, fiZip, Bool.false_or, Bool.true_or, Bool.or_false, Bool.or_true, Bool.false_and, Bool.true_and, Bool.and_false, Bool.and_true, Bool.or_eq_false_iff, Bool.not_eq_true', Bool.not_eq_false', nList, nTuple, oAdd_int, line, Bool.or_eq_true, Bool.and_eq_true, Bool.not_eq_true, same_ok 8 _ (okv_none.mono (by decide))]
    exact k
theorem w_name_right {v : T} (h : MvP p S 4 v) (k : Q (.bl true) (S ++ [.fn])) : wp (g_law_name_right [v] S) Q E := by
  have h1 := h.push (cs := [.fn])
  unfold g_law_name_right
  refine wp_def rfl ?_
  unfold g_law_name_right_b
  simp only [startE, List.map_cons, List.map_nil, List.length_cons, List.length_nil, List.replicate, List.cons_append, List.nil_append, Nat.reduceAdd, Nat.reduceSub, Nat.zero_add]
  refine ws_seq ?_
  rcases nf_kind v with e | ⟨i, e⟩
  · simp -implicitDefEqProofs only [startE, OutS.toOut, sNext, sIf, sAsg, sRet, sRetN, sExpr, sBreak, sCont, sPar, par2, sAug, sRaise, fVar, fC, tyN, isi_NoneType_bool, isi_NoneType_int, isi_NoneType_str, isi_NoneType_tuple, isi_NoneType_list, isi_bool_bool, isi_bool_int, isi_bool_str, isi_bool_tuple, isi_bool_list, isi_int_bool, isi_int_int, isi_int_str, isi_int_tuple, isi_int_list, isi_str_bool, isi_str_int, isi_str_str, isi_str_tuple, isi_str_list, isi_tuple_bool, isi_tuple_int, isi_tuple_str, isi_tuple_tuple, isi_tuple_list, isi_list_bool, isi_list_int, isi_list_str, isi_list_tuple, isi_list_list, fBin, fCall, fNat, fIsi, fTru, fBl, fNotT, fAndT, fOrT, fAndV, fOrV, fNotV, fIf, fTup, fLst, fNeg, aNil, aCons, gNm, gSb, gTpT, gNms, blOf, o2I, n1I, n2I, nLen_eq, oSub, oMod, oDiv, oGt, oGe, oLe, oLt, pw10_4, pw10_6, pw10_9, pw10_12, pw10_18, pw10_20, pw10_30, pw10_40, pw2_32, pw2_63, pw2_64, List.length_cons, List.length_nil, List.map_cons, List.map_nil, List.getElem?_cons_zero, List.getElem?_cons_succ, List.set_cons_zero, List.set_cons_succ, List.replicate, List.cons_append, List.nil_append, List.append_nil, Option.map_some, Option.map_none, id, ite_true, ite_false, if_true, if_false, Nat.zero_add, Nat.reduceAdd, Nat.reduceSub, Nat.reduceLeDiff, Bool.not_true, Bool.not_false, Bool.false_eq_true, reduceIte, reduceCtorEq, Int.reduceLT, Int.reduceLE, Int.reduceEq, Int.reduceNe, Nat.reduceLT, Nat.reduceEqDiff, decide_true, decide_false, Int.reduceAdd, Int.reduceSub, Int.reduceNeg, Int.reducePow, Int.reduceMul, Int.reduceToNat, wp_ok, wp_exc, wp_bad, wp_bind, bind_ok, wp_of, wr_some, wr_ite, of_some, tst_some, and_ok, or_ok, ws_nx, ws_rt, ws_bk, ws_ct, ws_exc, ws_then, wp_ite, ws_ite, decide_eq_true_eq, decide_eq_false_iff_not, true_implies, false_implies, implies_true, not_true_eq_false, not_false_eq_true, true_and, and_true, forall_const, fMeth, isTy_s, isTy_l, Option.isSome_some, and_self, fSlice, pNone, pSome, ws_sFor, fiSeq, fiRng1, fiRng2, wp_fLc, wp_outI_some, wp_rng1, wp_rng2, oEq_int, oNe_int, oEq_str, oNe_str, oEq_bl, oIs_non, oIsNot_non, isNon_non, isNon_int, isNon_bl, isNon_str, isNon_tup, isNon_ref, tru_non, tru_bl, tru_int, tru_tup, lenG_tup, oLt_str, oNotIn_str, oIn_str, seqG_tup, seqG_ref, iSeqG_tup, fiEnumA, iEnumGA_tup, iEnumGA_str, fiZip, Bool.false_or, Bool.true_or, Bool.or_false, Bool.or_true, Bool.false_and, Bool.true_and, Bool.and_false, Bool.and_true, Bool.or_eq_false_iff, Bool.not_eq_true', Bool.not_eq_false', nList, nTuple, oAdd_int, line, Bool.or_eq_true, Bool.and_eq_true, Bool.not_eq_true, lawname_ok h, e]
    refine ws_seq ?_
    try simp -implicitDefEqProofs only [startE, OutS.toOut, sNext, sIf, sAsg, sRet, sRetN, sExpr, sBreak, sCont, sPar, par2, sAug, sRaise, fVar, fC, tyN, isi_NoneType_bool, isi_NoneType_int, isi_NoneType_str, isi_NoneType_tuple, isi_NoneType_list, isi_bool_bool, isi_bool_int, isi_bool_str, isi_bool_tuple, isi_bool_list, isi_int_bool, isi_int_int, isi_int_str, isi_int_tuple, isi_int_list, isi_str_bool, isi_str_int, isi_str_str, isi_str_tuple, isi_str_list, isi_tuple_bool, isi_tuple_int, isi_tuple_str, isi_tuple_tuple, isi_tuple_list, isi_list_bool, isi_list_int, isi_list_str, isi_list_tuple, isi_list_list, fBin, fCall, fNat, fIsi, fTru, fBl, fNotT, fAndT, fOrT, fAndV, fOrV, fNotV, fIf, fTup, fLst, fNeg, aNil, aCons, gNm, gSb, gTpT, gNms, blOf, o2I, n1I, n2I, nLen_eq, oSub, oMod, oDiv, oGt, oGe, oLe, oLt, pw10_4, pw10_6, pw10_9, pw10_12, pw10_18, pw10_20, pw10_30, pw10_40, pw2_32, pw2_63, pw2_64, List.length_cons, List.length_nil, List.map_cons, List.map_nil, List.getElem?_cons_zero, List.getElem?_cons_succ, List.set_cons_zero, List.set_cons_succ, List.replicate, List.cons_append, List.nil_append, List.append_nil, Option.map_some, Option.map_none, id, ite_true, ite_false, if_true, if_false, Nat.zero_add, Nat.reduceAdd, Nat.reduceSub, Nat.reduceLeDiff, Bool.not_true, Bool.not_false, Bool.false_eq_true, reduceIte, reduceCtorEq, Int.reduceLT, Int.reduceLE, Int.reduceEq, Int.reduceNe, Nat.reduceLT, Nat.reduceEqDiff, decide_true, decide_false, Int.reduceAdd, Int.reduceSub, Int.reduceNeg, Int.reducePow, Int.reduceMul, Int.reduceToNat, wp_ok, wp_exc, wp_bad, wp_bind, bind_ok, wp_of, wr_some, wr_ite, of_some, tst_some, and_ok, or_ok, ws_nx, ws_rt, ws_bk, ws_ct, ws_exc, ws_then, wp_ite, ws_ite, decide_eq_true_eq, decide_eq_false_iff_not, true_implies, false_implies, implies_true, not_true_eq_false, not_false_eq_true, true_and, and_true, forall_const, fMeth, isTy_s, isTy_l, Option.isSome_some, and_self, fSlice, pNone, pSome, ws_sFor, fiSeq, fiRng1, fiRng2, wp_fLc, wp_outI_some, wp_rng1, wp_rng2, oEq_int, oNe_int, oEq_str, oNe_str, oEq_bl, oIs_non, oIsNot_non, isNon_non, isNon_int, isNon_bl, isNon_str, isNon_tup, isNon_ref, tru_non, tru_bl, tru_int, tru_tup, lenG_tup, oLt_str, oNotIn_str, oIn_str, seqG_tup, seqG_ref, iSeqG_tup, fiEnumA, iEnumGA_tup, iEnumGA_str, fiZip, Bool.false_or, Bool.true_or, Bool.or_false, Bool.or_true, Bool.false_and, Bool.true_and, Bool.and_false, Bool.and_true, Bool.or_eq_false_iff, Bool.not_eq_true', Bool.not_eq_false', nList, nTuple, oAdd_int, line, Bool.or_eq_true, Bool.and_eq_true, Bool.not_eq_true]
    refine w_heard_name ?_
    simp -implicitDefEqProofs only [startE, OutS.toOut, sNext, sIf, sAsg, sRet, sRetN, sExpr, sBreak, sCont, sPar, par2, sAug, sRaise, fVar, fC, tyN, isi_NoneType_bool, isi_NoneType_int, isi_NoneType_str, isi_NoneType_tuple, isi_NoneType_list, isi_bool_bool, isi_bool_int, isi_bool_str, isi_bool_tuple, isi_bool_list, isi_int_bool, isi_int_int, isi_int_str, isi_int_tuple, isi_int_list, isi_str_bool, isi_str_int, isi_str_str, isi_str_tuple, isi_str_list, isi_tuple_bool, isi_tuple_int, isi_tuple_str, isi_tuple_tuple, isi_tuple_list, isi_list_bool, isi_list_int, isi_list_str, isi_list_tuple, isi_list_list, fBin, fCall, fNat, fIsi, fTru, fBl, fNotT, fAndT, fOrT, fAndV, fOrV, fNotV, fIf, fTup, fLst, fNeg, aNil, aCons, gNm, gSb, gTpT, gNms, blOf, o2I, n1I, n2I, nLen_eq, oSub, oMod, oDiv, oGt, oGe, oLe, oLt, pw10_4, pw10_6, pw10_9, pw10_12, pw10_18, pw10_20, pw10_30, pw10_40, pw2_32, pw2_63, pw2_64, List.length_cons, List.length_nil, List.map_cons, List.map_nil, List.getElem?_cons_zero, List.getElem?_cons_succ, List.set_cons_zero, List.set_cons_succ, List.replicate, List.cons_append, List.nil_append, List.append_nil, Option.map_some, Option.map_none, id, ite_true, ite_false, if_true, if_false, Nat.zero_add, Nat.reduceAdd, Nat.reduceSub, Nat.reduceLeDiff, Bool.not_true, Bool.not_false, Bool.false_eq_true, reduceIte, reduceCtorEq, Int.reduceLT, Int.reduceLE, Int.reduceEq, Int.reduceNe, Nat.reduceLT, Nat.reduceEqDiff, decide_true, decide_false, Int.reduceAdd, Int.reduceSub, Int.reduceNeg, Int.reducePow, Int.reduceMul, Int.reduceToNat, wp_ok, wp_exc, wp_bad, wp_bind, bind_ok, wp_of, wr_some, wr_ite, of_some, tst_some, and_ok, or_ok, ws_nx, ws_rt, ws_bk, ws_ct, ws_exc, ws_then, wp_ite, ws_ite, decide_eq_true_eq, decide_eq_false_iff_not, true_implies, false_implies, implies_true, not_true_eq_false, not_false_eq_true, true_and, and_true, forall_const, fMeth, isTy_s, isTy_l, Option.isSome_some, and_self, fSlice, pNone, pSome, ws_sFor, fiSeq, fiRng1, fiRng2, wp_fLc, wp_outI_some, wp_rng1, wp_rng2, oEq_int, oNe_int, oEq_str, oNe_str, oEq_bl, oIs_non, oIsNot_non, isNon_non, isNon_int, isNon_bl, isNon_str, isNon_tup, isNon_ref, tru_non, tru_bl, tru_int, tru_tup, lenG_tup, oLt_str, oNotIn_str, oIn_str, seqG_tup, seqG_ref, iSeqG_tup, fiEnumA, iEnumGA_tup, iEnumGA_str, fiZip, Bool.false_or, Bool.true_or, Bool.or_false, Bool.or_true, Bool.false_and, Bool.true_and, Bool.and_false, Bool.and_true, Bool.or_eq_false_iff, Bool.not_eq_true', Bool.not_eq_false', nList, nTuple, oAdd_int, line, Bool.or_eq_true, Bool.and_eq_true, Bool.not_eq_true]
    refine w_check_name h1 (fun _ => ?_) fun i q => (by rw [e] at q; cases q)
    simp -implicitDefEqProofs only [startE, OutS.toOut, sNext, sIf, sAsg, sRet, sRetN, sExpr, sBreak, sCont, sPar, par2, sAug, sRaise, fVar, fC, tyN, isi_NoneType_bool, isi_NoneType_int, isi_NoneType_str, isi_NoneType_tuple, isi_NoneType_list, isi_bool_bool, isi_bool_int, isi_bool_str, isi_bool_tuple, isi_bool_list, isi_int_bool, isi_int_int, isi_int_str, isi_int_tuple, isi_int_list, isi_str_bool, isi_str_int, isi_str_str, isi_str_tuple, isi_str_list, isi_tuple_bool, isi_tuple_int, isi_tuple_str, isi_tuple_tuple, isi_tuple_list, isi_list_bool, isi_list_int, isi_list_str, isi_list_tuple, isi_list_list, fBin, fCall, fNat, fIsi, fTru, fBl, fNotT, fAndT, fOrT, fAndV, fOrV, fNotV, fIf, fTup, fLst, fNeg, aNil, aCons, gNm, gSb, gTpT, gNms, blOf, o2I, n1I, n2I, nLen_eq, oSub, oMod, oDiv, oGt, oGe, oLe, oLt, pw10_4, pw10_6, pw10_9, pw10_12, pw10_18, pw10_20, pw10_30, pw10_40, pw2_32, pw2_63, pw2_64, List.length_cons, List.length_nil, List.map_cons, List.map_nil, List.getElem?_cons_zero, List.getElem?_cons_succ, List.set_cons_zero, List.set_cons_succ, List.replicate, List.cons_append, List.nil_append, List.append_nil, Option.map_some, Option.map_none, id, ite_true, ite_false, if_true, if_false, Nat.zero_add, Nat.reduceAdd, Nat.reduceSub, Nat.reduceLeDiff, Bool.not_true, Bool.not_false, Bool.false_eq_true, reduceIte, reduceCtorEq, Int.reduceLT, Int.reduceLE, Int.reduceEq, Int.reduceNe, Nat.reduceLT, Nat.reduceEqDiff, decide_true, decide_false, Int.reduceAdd, Int.reduceSub, Int.reduceNeg, Int.reducePow, Int.reduceMul, Int.reduceToNat, wp_ok, wp_exc, wp_bad, wp_bind, bind_ok, wp_of, wr_some, wr_ite, of_some, tst_some, and_ok, or_ok, ws_nx, ws_rt, ws_bk, ws_ct, ws_exc, ws_then, wp_ite, ws_ite, decide_eq_true_eq, decide_eq_false_iff_not, true_implies, false_implies, implies_true, not_true_eq_false, not_false_eq_true, true_and, and_true, forall_const, fMeth, isTy_s, isTy_l, Option.isSome_some, and_self, fSlice, pNone, pSome, ws_sFor, fiSeq, fiRng1, fiRng2, wp_fLc, wp_outI_some, wp_rng1, wp_rng2, oEq_int, oNe_int, oEq_str, oNe_str, oEq_bl, oIs_non, oIsNot_non, isNon_non, isNon_int, isNon_bl, isNon_str, isNon_tup, isNon_ref, tru_non, tru_bl, tru_int, tru_tup, lenG_tup, oLt_str, oNotIn_str, oIn_str, seqG_tup, seqG_ref, iSeqG_tup, fiEnumA, iEnumGA_tup, iEnumGA_str, fiZip, Bool.false_or, Bool.true_or, Bool.or_false, Bool.or_true, Bool.false_and, Bool.true_and, Bool.and_false, Bool.and_true, Bool.or_eq_false_iff, Bool.not_eq_true', Bool.not_eq_false', nList, nTuple, oAdd_int, line, Bool.or_eq_true, Bool.and_eq_true, Bool.not_eq_true, same_ok 8 _ ((okv_told h1.okv).mono (by decide))]
    exact k
  · simp -implicitDefEqProofs only [startE, OutS.toOut, sNext, sIf, sAsg, sRet, sRetN, sExpr, sBreak, sCont, sPar, par2, sAug, sRaise, fVar, fC, tyN, isi_NoneType_bool, isi_NoneType_int, isi_NoneType_str, isi_NoneType_tuple, isi_NoneType_list, isi_bool_bool, isi_bool_int, isi_bool_str, isi_bool_tuple, isi_bool_list, isi_int_bool, isi_int_int, isi_int_str, isi_int_tuple, isi_int_list, isi_str_bool, isi_str_int, isi_str_str, isi_str_tuple, isi_str_list, isi_tuple_bool, isi_tuple_int, isi_tuple_str, isi_tuple_tuple, isi_tuple_list, isi_list_bool, isi_list_int, isi_list_str, isi_list_tuple, isi_list_list, fBin, fCall, fNat, fIsi, fTru, fBl, fNotT, fAndT, fOrT, fAndV, fOrV, fNotV, fIf, fTup, fLst, fNeg, aNil, aCons, gNm, gSb, gTpT, gNms, blOf, o2I, n1I, n2I, nLen_eq, oSub, oMod, oDiv, oGt, oGe, oLe, oLt, pw10_4, pw10_6, pw10_9, pw10_12, pw10_18, pw10_20, pw10_30, pw10_40, pw2_32, pw2_63, pw2_64, List.length_cons, List.length_nil, List.map_cons, List.map_nil, List.getElem?_cons_zero, List.getElem?_cons_succ, List.set_cons_zero, List.set_cons_succ, List.replicate, List.cons_append, List.nil_append, List.append_nil, Option.map_some, Option.map_none, id, ite_true, ite_false, if_true, if_false, Nat.zero_add, Nat.reduceAdd, Nat.reduceSub, Nat.reduceLeDiff, Bool.not_true, Bool.not_false, Bool.false_eq_true, reduceIte, reduceCtorEq, Int.reduceLT, Int.reduceLE, Int.reduceEq, Int.reduceNe, Nat.reduceLT, Nat.reduceEqDiff, decide_true, decide_false, Int.reduceAdd, Int.reduceSub, Int.reduceNeg, Int.reducePow, Int.reduceMul, Int.reduceToNat, wp_ok, wp_exc, wp_bad, wp_bind, bind_ok, wp_of, wr_some, wr_ite, of_some, tst_some, and_ok, or_ok, ws_nx, ws_rt, ws_bk, ws_ct, ws_exc, ws_then, wp_ite, ws_ite, decide_eq_true_eq, decide_eq_false_iff_not, true_implies, false_implies, implies_true, not_true_eq_false, not_false_eq_true, true_and, and_true, forall_const, fMeth, isTy_s, isTy_l, Option.isSome_some, and_self, fSlice, pNone, pSome, ws_sFor, fiSeq, fiRng1, fiRng2, wp_fLc, wp_outI_some, wp_rng1, wp_rng2, oEq_int, oNe_int, oEq_str, oNe_str, oEq_bl, oIs_non, oIsNot_non, isNon_non, isNon_int, isNon_bl, isNon_str, isNon_tup, isNon_ref, tru_non, tru_bl, tru_int, tru_tup, lenG_tup, oLt_str, oNotIn_str, oIn_str, seqG_tup, seqG_ref, iSeqG_tup, fiEnumA, iEnumGA_tup, iEnumGA_str, fiZip, Bool.false_or, Bool.true_or, Bool.or_false, Bool.or_true, Bool.false_and, Bool.true_and, Bool.and_false, Bool.and_true, Bool.or_eq_false_iff, Bool.not_eq_true', Bool.not_eq_false', nList, nTuple, oAdd_int, line, Bool.or_eq_true, Bool.and_eq_true, Bool.not_eq_true, lawname_ok h, e]
    refine ws_seq ?_
    try simp -implicitDefEqProofs only [startE, OutS.toOut, sNext, sIf, sAsg, sRet, sRetN, sExpr, sBreak, sCont, sPar, par2, sAug, sRaise, fVar, fC, tyN, isi_NoneType_bool, isi_NoneType_int, isi_NoneType_str, isi_NoneType_tuple, isi_NoneType_list, isi_bool_bool, isi_bool_int, isi_bool_str, isi_bool_tuple, isi_bool_list, isi_int_bool, isi_int_int, isi_int_str, isi_int_tuple, isi_int_list, isi_str_bool, isi_str_int, isi_str_str, isi_str_tuple, isi_str_list, isi_tuple_bool, isi_tuple_int, isi_tuple_str, isi_tuple_tuple, isi_tuple_list, isi_list_bool, isi_list_int, isi_list_str, isi_list_tuple, isi_list_list, fBin, fCall, fNat, fIsi, fTru, fBl, fNotT, fAndT, fOrT, fAndV, fOrV, fNotV, fIf, fTup, fLst, fNeg, aNil, aCons, gNm, gSb, gTpT, gNms, blOf, o2I, n1I, n2I, nLen_eq, oSub, oMod, oDiv, oGt, oGe, oLe, oLt, pw10_4, pw10_6, pw10_9, pw10_12, pw10_18, pw10_20, pw10_30, pw10_40, pw2_32, pw2_63, pw2_64, List.length_cons, List.length_nil, List.map_cons, List.map_nil, List.getElem?_cons_zero, List.getElem?_cons_succ, List.set_cons_zero, List.set_cons_succ, List.replicate, List.cons_append, List.nil_append, List.append_nil, Option.map_some, Option.map_none, id, ite_true, ite_false, if_true, if_false, Nat.zero_add, Nat.reduceAdd, Nat.reduceSub, Nat.reduceLeDiff, Bool.not_true, Bool.not_false, Bool.false_eq_true, reduceIte, reduceCtorEq, Int.reduceLT, Int.reduceLE, Int.reduceEq, Int.reduceNe, Nat.reduceLT, Nat.reduceEqDiff, decide_true, decide_false, Int.reduceAdd, Int.reduceSub, Int.reduceNeg, Int.reducePow, Int.reduceMul, Int.reduceToNat, wp_ok, wp_exc, wp_bad, wp_bind, bind_ok, wp_of, wr_some, wr_ite, of_some, tst_some, and_ok, or_ok, ws_nx, ws_rt, ws_bk, ws_ct, ws_exc, ws_then, wp_ite, ws_ite, decide_eq_true_eq, decide_eq_false_iff_not, true_implies, false_implies, implies_true, not_true_eq_false, not_false_eq_true, true_and, and_true, forall_const, fMeth, isTy_s, isTy_l, Option.isSome_some, and_self, fSlice, pNone, pSome, ws_sFor, fiSeq, fiRng1, fiRng2, wp_fLc, wp_outI_some, wp_rng1, wp_rng2, oEq_int, oNe_int, oEq_str, oNe_str, oEq_bl, oIs_non, oIsNot_non, isNon_non, isNon_int, isNon_bl, isNon_str, isNon_tup, isNon_ref, tru_non, tru_bl, tru_int, tru_tup, lenG_tup, oLt_str, oNotIn_str, oIn_str, seqG_tup, seqG_ref, iSeqG_tup, fiEnumA, iEnumGA_tup, iEnumGA_str, fiZip, Bool.false_or, Bool.true_or, Bool.or_false, Bool.or_true, Bool.false_and, Bool.true_and, Bool.and_false, Bool.and_true, Bool.or_eq_false_iff, Bool.not_eq_true', Bool.not_eq_false', nList, nTuple, oAdd_int, line, Bool.or_eq_true, Bool.and_eq_true, Bool.not_eq_true]
    refine w_heard_name ?_
    simp -implicitDefEqProofs only [startE, OutS.toOut, sNext, sIf, sAsg, sRet, sRetN, sExpr, sBreak, sCont, sPar, par2, sAug, sRaise, fVar, fC, tyN, isi_NoneType_bool, isi_NoneType_int, isi_NoneType_str, isi_NoneType_tuple, isi_NoneType_list, isi_bool_bool, isi_bool_int, isi_bool_str, isi_bool_tuple, isi_bool_list, isi_int_bool, isi_int_int, isi_int_str, isi_int_tuple, isi_int_list, isi_str_bool, isi_str_int, isi_str_str, isi_str_tuple, isi_str_list, isi_tuple_bool, isi_tuple_int, isi_tuple_str, isi_tuple_tuple, isi_tuple_list, isi_list_bool, isi_list_int, isi_list_str, isi_list_tuple, isi_list_list, fBin, fCall, fNat, fIsi, fTru, fBl, fNotT, fAndT, fOrT, fAndV, fOrV, fNotV, fIf, fTup, fLst, fNeg, aNil, aCons, gNm, gSb, gTpT, gNms, blOf, o2I, n1I, n2I, nLen_eq, oSub, oMod, oDiv, oGt, oGe, oLe, oLt, pw10_4, pw10_6, pw10_9, pw10_12, pw10_18, pw10_20, pw10_30, pw10_40, pw2_32, pw2_63, pw2_64, List.length_cons, List.length_nil, List.map_cons, List.map_nil, List.getElem?_cons_zero, List.getElem?_cons_succ, List.set_cons_zero, List.set_cons_succ, List.replicate, List.cons_append, List.nil_append, List.append_nil, Option.map_some, Option.map_none, id, ite_true, ite_false, if_true, if_false, Nat.zero_add, Nat.reduceAdd, Nat.reduceSub, Nat.reduceLeDiff, Bool.not_true, Bool.not_false, Bool.false_eq_true, reduceIte, reduceCtorEq, Int.reduceLT, Int.reduceLE, Int.reduceEq, Int.reduceNe, Nat.reduceLT, Nat.reduceEqDiff, decide_true, decide_false, Int.reduceAdd, Int.reduceSub, Int.reduceNeg, Int.reducePow, Int.reduceMul, Int.reduceToNat, wp_ok, wp_exc, wp_bad, wp_bind, bind_ok, wp_of, wr_some, wr_ite, of_some, tst_some, and_ok, or_ok, ws_nx, ws_rt, ws_bk, ws_ct, ws_exc, ws_then, wp_ite, ws_ite, decide_eq_true_eq, decide_eq_false_iff_not, true_implies, false_implies, implies_true, not_true_eq_false, not_false_eq_true, true_and, and_true, forall_const, fMeth, isTy_s, isTy_l, Option.isSome_some, and_self, fSlice, pNone, pSome, ws_sFor, fiSeq, fiRng1, fiRng2, wp_fLc, wp_outI_some, wp_rng1, wp_rng2, oEq_int, oNe_int, oEq_str, oNe_str, oEq_bl, oIs_non, oIsNot_non, isNon_non, isNon_int, isNon_bl, isNon_str, isNon_tup, isNon_ref, tru_non, tru_bl, tru_int, tru_tup, lenG_tup, oLt_str, oNotIn_str, oIn_str, seqG_tup, seqG_ref, iSeqG_tup, fiEnumA, iEnumGA_tup, iEnumGA_str, fiZip, Bool.false_or, Bool.true_or, Bool.or_false, Bool.or_true, Bool.false_and, Bool.true_and, Bool.and_false, Bool.and_true, Bool.or_eq_false_iff, Bool.not_eq_true', Bool.not_eq_false', nList, nTuple, oAdd_int, line, Bool.or_eq_true, Bool.and_eq_true, Bool.not_eq_true]
    refine w_check_name h1 (fun q => (by rw [e] at q; cases q)) fun j q => ?_
    rw [e] at q
    cases q
    refine ⟨_, rfl, ?_⟩
    simp -implicitDefEqProofs only [startE, OutS.toOut, sNext, sIf, sAsg, sRet, sRetN, sExpr, sBreak, sCont, sPar, par2, sAug, sRaise, fVar, fC, tyN, isi_NoneType_bool, isi_NoneType_int, isi_NoneType_str, isi_NoneType_tuple, isi_NoneType_list, isi_bool_bool, isi_bool_int, isi_bool_str, isi_bool_tuple, isi_bool_list, isi_int_bool, isi_int_int, isi_int_str, isi_int_tuple, isi_int_list, isi_str_bool, isi_str_int, isi_str_str, isi_str_tuple, isi_str_list, isi_tuple_bool, isi_tuple_int, isi_tuple_str, isi_tuple_tuple, isi_tuple_list, isi_list_bool, isi_list_int, isi_list_str, isi_list_tuple, isi_list_list, fBin, fCall, fNat, fIsi, fTru, fBl, fNotT, fAndT, fOrT, fAndV, fOrV, fNotV, fIf, fTup, fLst, fNeg, aNil, aCons, gNm, gSb, gTpT, gNms, blOf, o2I, n1I, n2I, nLen_eq, oSub, oMod, oDiv, oGt, oGe, oLe, oLt, pw10_4, pw10_6, pw10_9, pw10_12, pw10_18, pw10_20, pw10_30, pw10_40, pw2_32, pw2_63, pw2_64, List.length_cons, List.length_nil, List.map_cons, List.map_nil, List.getElem?_cons_zero, List.getElem?_cons_succ, List.set_cons_zero, List.set_cons_succ, List.replicate, List.cons_append, List.nil_append, List.append_nil, Option.map_some, Option.map_none, id, ite_true, ite_false, if_true, if_false, Nat.zero_add, Nat.reduceAdd, Nat.reduceSub, Nat.reduceLeDiff, Bool.not_true, Bool.not_false, Bool.false_eq_true, reduceIte, reduceCtorEq, Int.reduceLT, Int.reduceLE, Int.reduceEq, Int.reduceNe, Nat.reduceLT, Nat.reduceEqDiff, decide_true, decide_false, Int.reduceAdd, Int.reduceSub, Int.reduceNeg, Int.reducePow, Int.reduceMul, Int.reduceToNat, wp_ok, wp_exc, wp_bad, wp_bind, bind_ok, wp_of, wr_some, wr_ite, of_some, tst_some, and_ok, or_ok, ws_nx, ws_rt, ws_bk, ws_ct, ws_exc, ws_then, wp_ite, ws_ite, decide_eq_true_eq, decide_eq_false_iff_not, true_implies, false_implies, implies_true, not_true_eq_false, not_false_eq_true, true_and, and_true, forall_const, fMeth, isTy_s, isTy_l, Option.isSome_some, and_self, fSlice, pNone, pSome, ws_sFor, fiSeq, fiRng1, fiRng2, wp_fLc, wp_outI_some, wp_rng1, wp_rng2, oEq_int, oNe_int, oEq_str, oNe_str, oEq_bl, oIs_non, oIsNot_non, isNon_non, isNon_int, isNon_bl, isNon_str, isNon_tup, isNon_ref, tru_non, tru_bl, tru_int, tru_tup, lenG_tup, oLt_str, oNotIn_str, oIn_str, seqG_tup, seqG_ref, iSeqG_tup, fiEnumA, iEnumGA_tup, iEnumGA_str, fiZip, Bool.false_or, Bool.true_or, Bool.or_false, Bool.or_true, Bool.false_and, Bool.true_and, Bool.and_false, Bool.and_true, Bool.or_eq_false_iff, Bool.not_eq_true', Bool.not_eq_false', nList, nTuple, oAdd_int, line, Bool.or_eq_true, Bool.and_eq_true, Bool.not_eq_true, same_ok 8 _ (okv_none.mono (by decide))]
    exact k
end
end Fl

set_option Elab.async false
set_option linter.all false
set_option maxRecDepth 100000
set_option maxHeartbeats 1000000
namespace Fl
open PySem
section
variable {S : Store} {b : Nat} {Q : T → Store → Prop} {E : Ex → Store → Prop}
theorem labT_mv {y : T} {n : Nat} (h : LabT y) : Mv b S (n + 1) y := by
  obtain ⟨z, rfl, _, _, h⟩ := h
  exact Nat.le_trans h (by decide)
theorem joined_eq {xs ys : List T} (h : xs.length + ys.length ≤ 1000) : g_joined_name [.tup xs, .tup ys] S = .ok (if xs.length + ys.length ≤ 6 then .tup (xs ++ ys) else .non) S := by
  refine eq_of_wp ?_
  unfold g_joined_name
  refine wp_def rfl ?_
  unfold g_joined_name_b
  simp only [startE, List.map_cons, List.map_nil, List.length_cons, List.length_nil, List.replicate, List.cons_append, List.nil_append, Nat.reduceAdd, Nat.reduceSub, Nat.zero_add]
  refine ws_seq ?_
  simp -implicitDefEqProofs only [startE, OutS.toOut, sNext, sIf, sAsg, sRet, sRetN, sExpr, sBreak, sCont, sPar, par2, sAug, sRaise, fVar, fC, tyN, isi_NoneType_bool, isi_NoneType_int, isi_NoneType_str, isi_NoneType_tuple, isi_NoneType_list, isi_bool_bool, isi_bool_int, isi_bool_str, isi_bool_tuple, isi_bool_list, isi_int_bool, isi_int_int, isi_int_str, isi_int_tuple, isi_int_list, isi_str_bool, isi_str_int, isi_str_str, isi_str_tuple, isi_str_list, isi_tuple_bool, isi_tuple_int, isi_tuple_str, isi_tuple_tuple, isi_tuple_list, isi_list_bool, isi_list_int, isi_list_str, isi_list_tuple, isi_list_list, fBin, fCall, fNat, fIsi, fTru, fBl, fNotT, fAndT, fOrT, fAndV, fOrV, fNotV, fIf, fTup, fLst, fNeg, aNil, aCons, gNm, gSb, gTpT, gNms, blOf, o2I, n1I, n2I, nLen_eq, oSub, oMod, oDiv, oGt, oGe, oLe, oLt, pw10_4, pw10_6, pw10_9, pw10_12, pw10_18, pw10_20, pw10_30, pw10_40, pw2_32, pw2_63, pw2_64, List.length_cons, List.length_nil, List.map_cons, List.map_nil, List.getElem?_cons_zero, List.getElem?_cons_succ, List.set_cons_zero, List.set_cons_succ, List.replicate, List.cons_append, List.nil_append, List.append_nil, Option.map_some, Option.map_none, id, ite_true, ite_false, if_true, if_false, Nat.zero_add, Nat.reduceAdd, Nat.reduceSub, Nat.reduceLeDiff, Bool.not_true, Bool.not_false, Bool.false_eq_true, reduceIte, reduceCtorEq, Int.reduceLT, Int.reduceLE, Int.reduceEq, Int.reduceNe, Nat.reduceLT, Nat.reduceEqDiff, decide_true, decide_false, Int.reduceAdd, Int.reduceSub, Int.reduceNeg, Int.reducePow, Int.reduceMul, Int.reduceToNat, wp_ok, wp_exc, wp_bad, wp_bind, bind_ok, wp_of, wr_some, wr_ite, of_some, tst_some, and_ok, or_ok, ws_nx, ws_rt, ws_bk, ws_ct, ws_exc, ws_then, wp_ite, ws_ite, decide_eq_true_eq, decide_eq_false_iff_not, true_implies, false_implies, implies_true, not_true_eq_false, not_false_eq_true, true_and, and_true, forall_const, fMeth, isTy_s, isTy_l, Option.isSome_some, and_self, fSlice, pNone, pSome, ws_sFor, fiSeq, fiRng1, fiRng2, wp_fLc, wp_outI_some, wp_rng1, wp_rng2, oEq_int, oNe_int, oEq_str, oNe_str, oEq_bl, oIs_non, oIsNot_non, isNon_non, isNon_int, isNon_bl, isNon_str, isNon_tup, isNon_ref, tru_non, tru_bl, tru_int, tru_tup, lenG_tup, oLt_str, oNotIn_str, oIn_str, seqG_tup, seqG_ref, iSeqG_tup, fiEnumA, iEnumGA_tup, iEnumGA_str, fiZip, Bool.false_or, Bool.true_or, Bool.or_false, Bool.or_true, Bool.false_and, Bool.true_and, Bool.and_false, Bool.and_true, Bool.or_eq_false_iff, Bool.not_eq_true', Bool.not_eq_false', nList, nTuple, oAdd_int, line, Bool.or_eq_true, Bool.and_eq_true, Bool.not_eq_true, oAdd_tup (x := xs) (y := ys) (S := S) (by unfold line; omega)]
  rw [List.length_append]
  by_cases h6 : xs.length + ys.length ≤ 6
  · rw [if_pos h6]
    exact ⟨fun _ => rfl, fun q => absurd (by omega) q⟩
  · rw [if_neg h6]
    exact ⟨fun q => absurd (by omega) h6, fun _ => rfl⟩
theorem kw_joined (a c : T) : byKw ["target", "rest"] ["rest", "target"] [] [a, c] = [c, a] := rfl
theorem kw_value (a : T) : byKw ["value"] ["value"] [] [a] = [a] := rfl
theorem okv_labs {xs : List T} (h : ∀ y ∈ xs, LabT y) (hl : xs.length ≤ 1000) : Mv b S 2 (.tup xs) := ⟨hl, fun x hx => labT_mv (h x hx)⟩
theorem w_joined (hb : Box S b) (k : ∀ S', Stp b S S' → Q (.bl true) S') : wp (g_law_joined [.ref b] S) Q E := by
  have hbl := hb.lt
  unfold g_law_joined
  refine wp_def rfl ?_
  unfold g_law_joined_b
  simp only [startE, List.map_cons, List.map_nil, List.length_cons, List.length_nil, List.replicate, List.cons_append, List.nil_append, Nat.reduceAdd, Nat.reduceSub, Nat.zero_add]
  refine ws_seq ?_
  try simp -implicitDefEqProofs only [startE, OutS.toOut, sNext, sIf, sAsg, sRet, sRetN, sExpr, sBreak, sCont, sPar, par2, sAug, sRaise, fVar, fC, tyN, isi_NoneType_bool, isi_NoneType_int, isi_NoneType_str, isi_NoneType_tuple, isi_NoneType_list, isi_bool_bool, isi_bool_int, isi_bool_str, isi_bool_tuple, isi_bool_list, isi_int_bool, isi_int_int, isi_int_str, isi_int_tuple, isi_int_list, isi_str_bool, isi_str_int, isi_str_str, isi_str_tuple, isi_str_list, isi_tuple_bool, isi_tuple_int, isi_tuple_str, isi_tuple_tuple, isi_tuple_list, isi_list_bool, isi_list_int, isi_list_str, isi_list_tuple, isi_list_list, fBin, fCall, fNat, fIsi, fTru, fBl, fNotT, fAndT, fOrT, fAndV, fOrV, fNotV, fIf, fTup, fLst, fNeg, aNil, aCons, gNm, gSb, gTpT, gNms, blOf, o2I, n1I, n2I, nLen_eq, oSub, oMod, oDiv, oGt, oGe, oLe, oLt, pw10_4, pw10_6, pw10_9, pw10_12, pw10_18, pw10_20, pw10_30, pw10_40, pw2_32, pw2_63, pw2_64, List.length_cons, List.length_nil, List.map_cons, List.map_nil, List.getElem?_cons_zero, List.getElem?_cons_succ, List.set_cons_zero, List.set_cons_succ, List.replicate, List.cons_append, List.nil_append, List.append_nil, Option.map_some, Option.map_none, id, ite_true, ite_false, if_true, if_false, Nat.zero_add, Nat.reduceAdd, Nat.reduceSub, Nat.reduceLeDiff, Bool.not_true, Bool.not_false, Bool.false_eq_true, reduceIte, reduceCtorEq, Int.reduceLT, Int.reduceLE, Int.reduceEq, Int.reduceNe, Nat.reduceLT, Nat.reduceEqDiff, decide_true, decide_false, Int.reduceAdd, Int.reduceSub, Int.reduceNeg, Int.reducePow, Int.reduceMul, Int.reduceToNat, wp_ok, wp_exc, wp_bad, wp_bind, bind_ok, wp_of, wr_some, wr_ite, of_some, tst_some, and_ok, or_ok, ws_nx, ws_rt, ws_bk, ws_ct, ws_exc, ws_then, wp_ite, ws_ite, decide_eq_true_eq, decide_eq_false_iff_not, true_implies, false_implies, implies_true, not_true_eq_false, not_false_eq_true, true_and, and_true, forall_const, fMeth, isTy_s, isTy_l, Option.isSome_some, and_self, fSlice, pNone, pSome, ws_sFor, fiSeq, fiRng1, fiRng2, wp_fLc, wp_outI_some, wp_rng1, wp_rng2, oEq_int, oNe_int, oEq_str, oNe_str, oEq_bl, oIs_non, oIsNot_non, isNon_non, isNon_int, isNon_bl, isNon_str, isNon_tup, isNon_ref, tru_non, tru_bl, tru_int, tru_tup, lenG_tup, oLt_str, oNotIn_str, oIn_str, seqG_tup, seqG_ref, iSeqG_tup, fiEnumA, iEnumGA_tup, iEnumGA_str, fiZip, Bool.false_or, Bool.true_or, Bool.or_false, Bool.or_true, Bool.false_and, Bool.true_and, Bool.and_false, Bool.and_true, Bool.or_eq_false_iff, Bool.not_eq_true', Bool.not_eq_false', nList, nTuple, oAdd_int, line, Bool.or_eq_true, Bool.and_eq_true, Bool.not_eq_true]
  refine w_take hb (by decide) fun d S1 d0 d1 s1 => ?_
  try simp -implicitDefEqProofs only [startE, OutS.toOut, sNext, sIf, sAsg, sRet, sRetN, sExpr, sBreak, sCont, sPar, par2, sAug, sRaise, fVar, fC, tyN, isi_NoneType_bool, isi_NoneType_int, isi_NoneType_str, isi_NoneType_tuple, isi_NoneType_list, isi_bool_bool, isi_bool_int, isi_bool_str, isi_bool_tuple, isi_bool_list, isi_int_bool, isi_int_int, isi_int_str, isi_int_tuple, isi_int_list, isi_str_bool, isi_str_int, isi_str_str, isi_str_tuple, isi_str_list, isi_tuple_bool, isi_tuple_int, isi_tuple_str, isi_tuple_tuple, isi_tuple_list, isi_list_bool, isi_list_int, isi_list_str, isi_list_tuple, isi_list_list, fBin, fCall, fNat, fIsi, fTru, fBl, fNotT, fAndT, fOrT, fAndV, fOrV, fNotV, fIf, fTup, fLst, fNeg, aNil, aCons, gNm, gSb, gTpT, gNms, blOf, o2I, n1I, n2I, nLen_eq, oSub, oMod, oDiv, oGt, oGe, oLe, oLt, pw10_4, pw10_6, pw10_9, pw10_12, pw10_18, pw10_20, pw10_30, pw10_40, pw2_32, pw2_63, pw2_64, List.length_cons, List.length_nil, List.map_cons, List.map_nil, List.getElem?_cons_zero, List.getElem?_cons_succ, List.set_cons_zero, List.set_cons_succ, List.replicate, List.cons_append, List.nil_append, List.append_nil, Option.map_some, Option.map_none, id, ite_true, ite_false, if_true, if_false, Nat.zero_add, Nat.reduceAdd, Nat.reduceSub, Nat.reduceLeDiff, Bool.not_true, Bool.not_false, Bool.false_eq_true, reduceIte, reduceCtorEq, Int.reduceLT, Int.reduceLE, Int.reduceEq, Int.reduceNe, Nat.reduceLT, Nat.reduceEqDiff, decide_true, decide_false, Int.reduceAdd, Int.reduceSub, Int.reduceNeg, Int.reducePow, Int.reduceMul, Int.reduceToNat, wp_ok, wp_exc, wp_bad, wp_bind, bind_ok, wp_of, wr_some, wr_ite, of_some, tst_some, and_ok, or_ok, ws_nx, ws_rt, ws_bk, ws_ct, ws_exc, ws_then, wp_ite, ws_ite, decide_eq_true_eq, decide_eq_false_iff_not, true_implies, false_implies, implies_true, not_true_eq_false, not_false_eq_true, true_and, and_true, forall_const, fMeth, isTy_s, isTy_l, Option.isSome_some, and_self, fSlice, pNone, pSome, ws_sFor, fiSeq, fiRng1, fiRng2, wp_fLc, wp_outI_some, wp_rng1, wp_rng2, oEq_int, oNe_int, oEq_str, oNe_str, oEq_bl, oIs_non, oIsNot_non, isNon_non, isNon_int, isNon_bl, isNon_str, isNon_tup, isNon_ref, tru_non, tru_bl, tru_int, tru_tup, lenG_tup, oLt_str, oNotIn_str, oIn_str, seqG_tup, seqG_ref, iSeqG_tup, fiEnumA, iEnumGA_tup, iEnumGA_str, fiZip, Bool.false_or, Bool.true_or, Bool.or_false, Bool.or_true, Bool.false_and, Bool.true_and, Bool.and_false, Bool.and_true, Bool.or_eq_false_iff, Bool.not_eq_true', Bool.not_eq_false', nList, nTuple, oAdd_int, line, Bool.or_eq_true, Bool.and_eq_true, Bool.not_eq_true]
  refine w_labels (s1.box hb) (by omega) fun r1 xs S2 l1 p1 s2 g1 e1 => ?_
  try simp -implicitDefEqProofs only [startE, OutS.toOut, sNext, sIf, sAsg, sRet, sRetN, sExpr, sBreak, sCont, sPar, par2, sAug, sRaise, fVar, fC, tyN, isi_NoneType_bool, isi_NoneType_int, isi_NoneType_str, isi_NoneType_tuple, isi_NoneType_list, isi_bool_bool, isi_bool_int, isi_bool_str, isi_bool_tuple, isi_bool_list, isi_int_bool, isi_int_int, isi_int_str, isi_int_tuple, isi_int_list, isi_str_bool, isi_str_int, isi_str_str, isi_str_tuple, isi_str_list, isi_tuple_bool, isi_tuple_int, isi_tuple_str, isi_tuple_tuple, isi_tuple_list, isi_list_bool, isi_list_int, isi_list_str, isi_list_tuple, isi_list_list, fBin, fCall, fNat, fIsi, fTru, fBl, fNotT, fAndT, fOrT, fAndV, fOrV, fNotV, fIf, fTup, fLst, fNeg, aNil, aCons, gNm, gSb, gTpT, gNms, blOf, o2I, n1I, n2I, nLen_eq, oSub, oMod, oDiv, oGt, oGe, oLe, oLt, pw10_4, pw10_6, pw10_9, pw10_12, pw10_18, pw10_20, pw10_30, pw10_40, pw2_32, pw2_63, pw2_64, List.length_cons, List.length_nil, List.map_cons, List.map_nil, List.getElem?_cons_zero, List.getElem?_cons_succ, List.set_cons_zero, List.set_cons_succ, List.replicate, List.cons_append, List.nil_append, List.append_nil, Option.map_some, Option.map_none, id, ite_true, ite_false, if_true, if_false, Nat.zero_add, Nat.reduceAdd, Nat.reduceSub, Nat.reduceLeDiff, Bool.not_true, Bool.not_false, Bool.false_eq_true, reduceIte, reduceCtorEq, Int.reduceLT, Int.reduceLE, Int.reduceEq, Int.reduceNe, Nat.reduceLT, Nat.reduceEqDiff, decide_true, decide_false, Int.reduceAdd, Int.reduceSub, Int.reduceNeg, Int.reducePow, Int.reduceMul, Int.reduceToNat, wp_ok, wp_exc, wp_bad, wp_bind, bind_ok, wp_of, wr_some, wr_ite, of_some, tst_some, and_ok, or_ok, ws_nx, ws_rt, ws_bk, ws_ct, ws_exc, ws_then, wp_ite, ws_ite, decide_eq_true_eq, decide_eq_false_iff_not, true_implies, false_implies, implies_true, not_true_eq_false, not_false_eq_true, true_and, and_true, forall_const, fMeth, isTy_s, isTy_l, Option.isSome_some, and_self, fSlice, pNone, pSome, ws_sFor, fiSeq, fiRng1, fiRng2, wp_fLc, wp_outI_some, wp_rng1, wp_rng2, oEq_int, oNe_int, oEq_str, oNe_str, oEq_bl, oIs_non, oIsNot_non, isNon_non, isNon_int, isNon_bl, isNon_str, isNon_tup, isNon_ref, tru_non, tru_bl, tru_int, tru_tup, lenG_tup, oLt_str, oNotIn_str, oIn_str, seqG_tup, seqG_ref, iSeqG_tup, fiEnumA, iEnumGA_tup, iEnumGA_str, fiZip, Bool.false_or, Bool.true_or, Bool.or_false, Bool.or_true, Bool.false_and, Bool.true_and, Bool.and_false, Bool.and_true, Bool.or_eq_false_iff, Bool.not_eq_true', Bool.not_eq_false', nList, nTuple, oAdd_int, line, Bool.or_eq_true, Bool.and_eq_true, Bool.not_eq_true]
  refine w_take (s2.box (s1.box hb)) (by decide) fun d2 S3 d20 d21 s3 => ?_
  refine w_labels (s3.box (s2.box (s1.box hb))) (by omega) fun r2 ys S4 l2 p2 s4 g2 e2 => ?_
  have hl1 := s1.le
  have hl2 := s2.le
  have hl3 := s3.le
  have hl4 := s4.le
  have e1' := (s3.trans s4).at (by omega : r1 ≠ b) e1
  try simp -implicitDefEqProofs only [startE, OutS.toOut, sNext, sIf, sAsg, sRet, sRetN, sExpr, sBreak, sCont, sPar, par2, sAug, sRaise, fVar, fC, tyN, isi_NoneType_bool, isi_NoneType_int, isi_NoneType_str, isi_NoneType_tuple, isi_NoneType_list, isi_bool_bool, isi_bool_int, isi_bool_str, isi_bool_tuple, isi_bool_list, isi_int_bool, isi_int_int, isi_int_str, isi_int_tuple, isi_int_list, isi_str_bool, isi_str_int, isi_str_str, isi_str_tuple, isi_str_list, isi_tuple_bool, isi_tuple_int, isi_tuple_str, isi_tuple_tuple, isi_tuple_list, isi_list_bool, isi_list_int, isi_list_str, isi_list_tuple, isi_list_list, fBin, fCall, fNat, fIsi, fTru, fBl, fNotT, fAndT, fOrT, fAndV, fOrV, fNotV, fIf, fTup, fLst, fNeg, aNil, aCons, gNm, gSb, gTpT, gNms, blOf, o2I, n1I, n2I, nLen_eq, oSub, oMod, oDiv, oGt, oGe, oLe, oLt, pw10_4, pw10_6, pw10_9, pw10_12, pw10_18, pw10_20, pw10_30, pw10_40, pw2_32, pw2_63, pw2_64, List.length_cons, List.length_nil, List.map_cons, List.map_nil, List.getElem?_cons_zero, List.getElem?_cons_succ, List.set_cons_zero, List.set_cons_succ, List.replicate, List.cons_append, List.nil_append, List.append_nil, Option.map_some, Option.map_none, id, ite_true, ite_false, if_true, if_false, Nat.zero_add, Nat.reduceAdd, Nat.reduceSub, Nat.reduceLeDiff, Bool.not_true, Bool.not_false, Bool.false_eq_true, reduceIte, reduceCtorEq, Int.reduceLT, Int.reduceLE, Int.reduceEq, Int.reduceNe, Nat.reduceLT, Nat.reduceEqDiff, decide_true, decide_false, Int.reduceAdd, Int.reduceSub, Int.reduceNeg, Int.reducePow, Int.reduceMul, Int.reduceToNat, wp_ok, wp_exc, wp_bad, wp_bind, bind_ok, wp_of, wr_some, wr_ite, of_some, tst_some, and_ok, or_ok, ws_nx, ws_rt, ws_bk, ws_ct, ws_exc, ws_then, wp_ite, ws_ite, decide_eq_true_eq, decide_eq_false_iff_not, true_implies, false_implies, implies_true, not_true_eq_false, not_false_eq_true, true_and, and_true, forall_const, fMeth, isTy_s, isTy_l, Option.isSome_some, and_self, fSlice, pNone, pSome, ws_sFor, fiSeq, fiRng1, fiRng2, wp_fLc, wp_outI_some, wp_rng1, wp_rng2, oEq_int, oNe_int, oEq_str, oNe_str, oEq_bl, oIs_non, oIsNot_non, isNon_non, isNon_int, isNon_bl, isNon_str, isNon_tup, isNon_ref, tru_non, tru_bl, tru_int, tru_tup, lenG_tup, oLt_str, oNotIn_str, oIn_str, seqG_tup, seqG_ref, iSeqG_tup, fiEnumA, iEnumGA_tup, iEnumGA_str, fiZip, Bool.false_or, Bool.true_or, Bool.or_false, Bool.or_true, Bool.false_and, Bool.true_and, Bool.and_false, Bool.and_true, Bool.or_eq_false_iff, Bool.not_eq_true', Bool.not_eq_false', nList, nTuple, oAdd_int, line, Bool.or_eq_true, Bool.and_eq_true, Bool.not_eq_true]
  refine ws_seq ?_
  try simp -implicitDefEqProofs only [startE, OutS.toOut, sNext, sIf, sAsg, sRet, sRetN, sExpr, sBreak, sCont, sPar, par2, sAug, sRaise, fVar, fC, tyN, isi_NoneType_bool, isi_NoneType_int, isi_NoneType_str, isi_NoneType_tuple, isi_NoneType_list, isi_bool_bool, isi_bool_int, isi_bool_str, isi_bool_tuple, isi_bool_list, isi_int_bool, isi_int_int, isi_int_str, isi_int_tuple, isi_int_list, isi_str_bool, isi_str_int, isi_str_str, isi_str_tuple, isi_str_list, isi_tuple_bool, isi_tuple_int, isi_tuple_str, isi_tuple_tuple, isi_tuple_list, isi_list_bool, isi_list_int, isi_list_str, isi_list_tuple, isi_list_list, fBin, fCall, fNat, fIsi, fTru, fBl, fNotT, fAndT, fOrT, fAndV, fOrV, fNotV, fIf, fTup, fLst, fNeg, aNil, aCons, gNm, gSb, gTpT, gNms, blOf, o2I, n1I, n2I, nLen_eq, oSub, oMod, oDiv, oGt, oGe, oLe, oLt, pw10_4, pw10_6, pw10_9, pw10_12, pw10_18, pw10_20, pw10_30, pw10_40, pw2_32, pw2_63, pw2_64, List.length_cons, List.length_nil, List.map_cons, List.map_nil, List.getElem?_cons_zero, List.getElem?_cons_succ, List.set_cons_zero, List.set_cons_succ, List.replicate, List.cons_append, List.nil_append, List.append_nil, Option.map_some, Option.map_none, id, ite_true, ite_false, if_true, if_false, Nat.zero_add, Nat.reduceAdd, Nat.reduceSub, Nat.reduceLeDiff, Bool.not_true, Bool.not_false, Bool.false_eq_true, reduceIte, reduceCtorEq, Int.reduceLT, Int.reduceLE, Int.reduceEq, Int.reduceNe, Nat.reduceLT, Nat.reduceEqDiff, decide_true, decide_false, Int.reduceAdd, Int.reduceSub, Int.reduceNeg, Int.reducePow, Int.reduceMul, Int.reduceToNat, wp_ok, wp_exc, wp_bad, wp_bind, bind_ok, wp_of, wr_some, wr_ite, of_some, tst_some, and_ok, or_ok, ws_nx, ws_rt, ws_bk, ws_ct, ws_exc, ws_then, wp_ite, ws_ite, decide_eq_true_eq, decide_eq_false_iff_not, true_implies, false_implies, implies_true, not_true_eq_false, not_false_eq_true, true_and, and_true, forall_const, fMeth, isTy_s, isTy_l, Option.isSome_some, and_self, fSlice, pNone, pSome, ws_sFor, fiSeq, fiRng1, fiRng2, wp_fLc, wp_outI_some, wp_rng1, wp_rng2, oEq_int, oNe_int, oEq_str, oNe_str, oEq_bl, oIs_non, oIsNot_non, isNon_non, isNon_int, isNon_bl, isNon_str, isNon_tup, isNon_ref, tru_non, tru_bl, tru_int, tru_tup, lenG_tup, oLt_str, oNotIn_str, oIn_str, seqG_tup, seqG_ref, iSeqG_tup, fiEnumA, iEnumGA_tup, iEnumGA_str, fiZip, Bool.false_or, Bool.true_or, Bool.or_false, Bool.or_true, Bool.false_and, Bool.true_and, Bool.and_false, Bool.and_true, Bool.or_eq_false_iff, Bool.not_eq_true', Bool.not_eq_false', nList, nTuple, oAdd_int, line, Bool.or_eq_true, Bool.and_eq_true, Bool.not_eq_true]
  simp -implicitDefEqProofs only [startE, OutS.toOut, sNext, sIf, sAsg, sRet, sRetN, sExpr, sBreak, sCont, sPar, par2, sAug, sRaise, fVar, fC, tyN, isi_NoneType_bool, isi_NoneType_int, isi_NoneType_str, isi_NoneType_tuple, isi_NoneType_list, isi_bool_bool, isi_bool_int, isi_bool_str, isi_bool_tuple, isi_bool_list, isi_int_bool, isi_int_int, isi_int_str, isi_int_tuple, isi_int_list, isi_str_bool, isi_str_int, isi_str_str, isi_str_tuple, isi_str_list, isi_tuple_bool, isi_tuple_int, isi_tuple_str, isi_tuple_tuple, isi_tuple_list, isi_list_bool, isi_list_int, isi_list_str, isi_list_tuple, isi_list_list, fBin, fCall, fNat, fIsi, fTru, fBl, fNotT, fAndT, fOrT, fAndV, fOrV, fNotV, fIf, fTup, fLst, fNeg, aNil, aCons, gNm, gSb, gTpT, gNms, blOf, o2I, n1I, n2I, nLen_eq, oSub, oMod, oDiv, oGt, oGe, oLe, oLt, pw10_4, pw10_6, pw10_9, pw10_12, pw10_18, pw10_20, pw10_30, pw10_40, pw2_32, pw2_63, pw2_64, List.length_cons, List.length_nil, List.map_cons, List.map_nil, List.getElem?_cons_zero, List.getElem?_cons_succ, List.set_cons_zero, List.set_cons_succ, List.replicate, List.cons_append, List.nil_append, List.append_nil, Option.map_some, Option.map_none, id, ite_true, ite_false, if_true, if_false, Nat.zero_add, Nat.reduceAdd, Nat.reduceSub, Nat.reduceLeDiff, Bool.not_true, Bool.not_false, Bool.false_eq_true, reduceIte, reduceCtorEq, Int.reduceLT, Int.reduceLE, Int.reduceEq, Int.reduceNe, Nat.reduceLT, Nat.reduceEqDiff, decide_true, decide_false, Int.reduceAdd, Int.reduceSub, Int.reduceNeg, Int.reducePow, Int.reduceMul, Int.reduceToNat, wp_ok, wp_exc, wp_bad, wp_bind, bind_ok, wp_of, wr_some, wr_ite, of_some, tst_some, and_ok, or_ok, ws_nx, ws_rt, ws_bk, ws_ct, ws_exc, ws_then, wp_ite, ws_ite, decide_eq_true_eq, decide_eq_false_iff_not, true_implies, false_implies, implies_true, not_true_eq_false, not_false_eq_true, true_and, and_true, forall_const, fMeth, isTy_s, isTy_l, Option.isSome_some, and_self, fSlice, pNone, pSome, ws_sFor, fiSeq, fiRng1, fiRng2, wp_fLc, wp_outI_some, wp_rng1, wp_rng2, oEq_int, oNe_int, oEq_str, oNe_str, oEq_bl, oIs_non, oIsNot_non, isNon_non, isNon_int, isNon_bl, isNon_str, isNon_tup, isNon_ref, tru_non, tru_bl, tru_int, tru_tup, lenG_tup, oLt_str, oNotIn_str, oIn_str, seqG_tup, seqG_ref, iSeqG_tup, fiEnumA, iEnumGA_tup, iEnumGA_str, fiZip, Bool.false_or, Bool.true_or, Bool.or_false, Bool.or_true, Bool.false_and, Bool.true_and, Bool.and_false, Bool.and_true, Bool.or_eq_false_iff, Bool.not_eq_true', Bool.not_eq_false', nList, nTuple, oAdd_int, line, Bool.or_eq_true, Bool.and_eq_true, Bool.not_eq_true, oAdd_lst e1' e2 (by unfold line; omega)]
  obtain ⟨S5, q5⟩ : ∃ S5, S5 = S4 ++ [Cell.lst (xs ++ ys)] := ⟨_, rfl⟩
  have s5 : Stp b S4 S5 := by rw [q5]; exact Stp.refl.push
  have g5 : getL S5 S4.length = some (xs ++ ys) := by rw [q5]; exact getL_end
  have gx : getL S5 r1 = some xs := s5.get (by omega) (getL_lst e1')
  have gy : getL S5 r2 = some ys := s5.get (by omega) (getL_lst e2)
  have hj := joined_eq (S := S5) (xs := xs) (ys := ys) (by omega)
  have hsame : ∀ v, Mv b S5 2 v → g_law_same 8 [v, v] S5 = .ok (.bl true) S5 := fun v hv => same_ok 8 _ (hv.okv.mono (by decide))
  have fin := k S5 (s1.trans (s2.trans (s3.trans (s4.trans s5))))
  rw [← q5]
  refine ws_seq ?_
  try simp -implicitDefEqProofs only [startE, OutS.toOut, sNext, sIf, sAsg, sRet, sRetN, sExpr, sBreak, sCont, sPar, par2, sAug, sRaise, fVar, fC, tyN, isi_NoneType_bool, isi_NoneType_int, isi_NoneType_str, isi_NoneType_tuple, isi_NoneType_list, isi_bool_bool, isi_bool_int, isi_bool_str, isi_bool_tuple, isi_bool_list, isi_int_bool, isi_int_int, isi_int_str, isi_int_tuple, isi_int_list, isi_str_bool, isi_str_int, isi_str_str, isi_str_tuple, isi_str_list, isi_tuple_bool, isi_tuple_int, isi_tuple_str, isi_tuple_tuple, isi_tuple_list, isi_list_bool, isi_list_int, isi_list_str, isi_list_tuple, isi_list_list, fBin, fCall, fNat, fIsi, fTru, fBl, fNotT, fAndT, fOrT, fAndV, fOrV, fNotV, fIf, fTup, fLst, fNeg, aNil, aCons, gNm, gSb, gTpT, gNms, blOf, o2I, n1I, n2I, nLen_eq, oSub, oMod, oDiv, oGt, oGe, oLe, oLt, pw10_4, pw10_6, pw10_9, pw10_12, pw10_18, pw10_20, pw10_30, pw10_40, pw2_32, pw2_63, pw2_64, List.length_cons, List.length_nil, List.map_cons, List.map_nil, List.getElem?_cons_zero, List.getElem?_cons_succ, List.set_cons_zero, List.set_cons_succ, List.replicate, List.cons_append, List.nil_append, List.append_nil, Option.map_some, Option.map_none, id, ite_true, ite_false, if_true, if_false, Nat.zero_add, Nat.reduceAdd, Nat.reduceSub, Nat.reduceLeDiff, Bool.not_true, Bool.not_false, Bool.false_eq_true, reduceIte, reduceCtorEq, Int.reduceLT, Int.reduceLE, Int.reduceEq, Int.reduceNe, Nat.reduceLT, Nat.reduceEqDiff, decide_true, decide_false, Int.reduceAdd, Int.reduceSub, Int.reduceNeg, Int.reducePow, Int.reduceMul, Int.reduceToNat, wp_ok, wp_exc, wp_bad, wp_bind, bind_ok, wp_of, wr_some, wr_ite, of_some, tst_some, and_ok, or_ok, ws_nx, ws_rt, ws_bk, ws_ct, ws_exc, ws_then, wp_ite, ws_ite, decide_eq_true_eq, decide_eq_false_iff_not, true_implies, false_implies, implies_true, not_true_eq_false, not_false_eq_true, true_and, and_true, forall_const, fMeth, isTy_s, isTy_l, Option.isSome_some, and_self, fSlice, pNone, pSome, ws_sFor, fiSeq, fiRng1, fiRng2, wp_fLc, wp_outI_some, wp_rng1, wp_rng2, oEq_int, oNe_int, oEq_str, oNe_str, oEq_bl, oIs_non, oIsNot_non, isNon_non, isNon_int, isNon_bl, isNon_str, isNon_tup, isNon_ref, tru_non, tru_bl, tru_int, tru_tup, lenG_tup, oLt_str, oNotIn_str, oIn_str, seqG_tup, seqG_ref, iSeqG_tup, fiEnumA, iEnumGA_tup, iEnumGA_str, fiZip, Bool.false_or, Bool.true_or, Bool.or_false, Bool.or_true, Bool.false_and, Bool.true_and, Bool.and_false, Bool.and_true, Bool.or_eq_false_iff, Bool.not_eq_true', Bool.not_eq_false', nList, nTuple, oAdd_int, line, Bool.or_eq_true, Bool.and_eq_true, Bool.not_eq_true]
  simp -implicitDefEqProofs only [startE, OutS.toOut, sNext, sIf, sAsg, sRet, sRetN, sExpr, sBreak, sCont, sPar, par2, sAug, sRaise, fVar, fC, tyN, isi_NoneType_bool, isi_NoneType_int, isi_NoneType_str, isi_NoneType_tuple, isi_NoneType_list, isi_bool_bool, isi_bool_int, isi_bool_str, isi_bool_tuple, isi_bool_list, isi_int_bool, isi_int_int, isi_int_str, isi_int_tuple, isi_int_list, isi_str_bool, isi_str_int, isi_str_str, isi_str_tuple, isi_str_list, isi_tuple_bool, isi_tuple_int, isi_tuple_str, isi_tuple_tuple, isi_tuple_list, isi_list_bool, isi_list_int, isi_list_str, isi_list_tuple, isi_list_list, fBin, fCall, fNat, fIsi, fTru, fBl, fNotT, fAndT, fOrT, fAndV, fOrV, fNotV, fIf, fTup, fLst, fNeg, aNil, aCons, gNm, gSb, gTpT, gNms, blOf, o2I, n1I, n2I, nLen_eq, oSub, oMod, oDiv, oGt, oGe, oLe, oLt, pw10_4, pw10_6, pw10_9, pw10_12, pw10_18, pw10_20, pw10_30, pw10_40, pw2_32, pw2_63, pw2_64, List.length_cons, List.length_nil, List.map_cons, List.map_nil, List.getElem?_cons_zero, List.getElem?_cons_succ, List.set_cons_zero, List.set_cons_succ, List.replicate, List.cons_append, List.nil_append, List.append_nil, Option.map_some, Option.map_none, id, ite_true, ite_false, if_true, if_false, Nat.zero_add, Nat.reduceAdd, Nat.reduceSub, Nat.reduceLeDiff, Bool.not_true, Bool.not_false, Bool.false_eq_true, reduceIte, reduceCtorEq, Int.reduceLT, Int.reduceLE, Int.reduceEq, Int.reduceNe, Nat.reduceLT, Nat.reduceEqDiff, decide_true, decide_false, Int.reduceAdd, Int.reduceSub, Int.reduceNeg, Int.reducePow, Int.reduceMul, Int.reduceToNat, wp_ok, wp_exc, wp_bad, wp_bind, bind_ok, wp_of, wr_some, wr_ite, of_some, tst_some, and_ok, or_ok, ws_nx, ws_rt, ws_bk, ws_ct, ws_exc, ws_then, wp_ite, ws_ite, decide_eq_true_eq, decide_eq_false_iff_not, true_implies, false_implies, implies_true, not_true_eq_false, not_false_eq_true, true_and, and_true, forall_const, fMeth, isTy_s, isTy_l, Option.isSome_some, and_self, fSlice, pNone, pSome, ws_sFor, fiSeq, fiRng1, fiRng2, wp_fLc, wp_outI_some, wp_rng1, wp_rng2, oEq_int, oNe_int, oEq_str, oNe_str, oEq_bl, oIs_non, oIsNot_non, isNon_non, isNon_int, isNon_bl, isNon_str, isNon_tup, isNon_ref, tru_non, tru_bl, tru_int, tru_tup, lenG_tup, oLt_str, oNotIn_str, oIn_str, seqG_tup, seqG_ref, iSeqG_tup, fiEnumA, iEnumGA_tup, iEnumGA_str, fiZip, Bool.false_or, Bool.true_or, Bool.or_false, Bool.or_true, Bool.false_and, Bool.true_and, Bool.and_false, Bool.and_true, Bool.or_eq_false_iff, Bool.not_eq_true', Bool.not_eq_false', nList, nTuple, oAdd_int, line, Bool.or_eq_true, Bool.and_eq_true, Bool.not_eq_true, lenG_ref g5, g5]
  rw [List.length_append]
  have hxy : ∀ y ∈ xs ++ ys, LabT y := fun y hy => (List.mem_append.mp hy).elim (p1 y) (p2 y)
  refine ⟨fun h6 => ?_, fun h6 => ?_⟩
  · rw [if_pos (by omega)] at hj
    refine ws_seq ?_
    try simp -implicitDefEqProofs only [startE, OutS.toOut, sNext, sIf, sAsg, sRet, sRetN, sExpr, sBreak, sCont, sPar, par2, sAug, sRaise, fVar, fC, tyN, isi_NoneType_bool, isi_NoneType_int, isi_NoneType_str, isi_NoneType_tuple, isi_NoneType_list, isi_bool_bool, isi_bool_int, isi_bool_str, isi_bool_tuple, isi_bool_list, isi_int_bool, isi_int_int, isi_int_str, isi_int_tuple, isi_int_list, isi_str_bool, isi_str_int, isi_str_str, isi_str_tuple, isi_str_list, isi_tuple_bool, isi_tuple_int, isi_tuple_str, isi_tuple_tuple, isi_tuple_list, isi_list_bool, isi_list_int, isi_list_str, isi_list_tuple, isi_list_list, fBin, fCall, fNat, fIsi, fTru, fBl, fNotT, fAndT, fOrT, fAndV, fOrV, fNotV, fIf, fTup, fLst, fNeg, aNil, aCons, gNm, gSb, gTpT, gNms, blOf, o2I, n1I, n2I, nLen_eq, oSub, oMod, oDiv, oGt, oGe, oLe, oLt, pw10_4, pw10_6, pw10_9, pw10_12, pw10_18, pw10_20, pw10_30, pw10_40, pw2_32, pw2_63, pw2_64, List.length_cons, List.length_nil, List.map_cons, List.map_nil, List.getElem?_cons_zero, List.getElem?_cons_succ, List.set_cons_zero, List.set_cons_succ, List.replicate, List.cons_append, List.nil_append, List.append_nil, Option.map_some, Option.map_none, id, ite_true, ite_false, if_true, if_false, Nat.zero_add, Nat.reduceAdd, Nat.reduceSub, Nat.reduceLeDiff, Bool.not_true, Bool.not_false, Bool.false_eq_true, reduceIte, reduceCtorEq, Int.reduceLT, Int.reduceLE, Int.reduceEq, Int.reduceNe, Nat.reduceLT, Nat.reduceEqDiff, decide_true, decide_false, Int.reduceAdd, Int.reduceSub, Int.reduceNeg, Int.reducePow, Int.reduceMul, Int.reduceToNat, wp_ok, wp_exc, wp_bad, wp_bind, bind_ok, wp_of, wr_some, wr_ite, of_some, tst_some, and_ok, or_ok, ws_nx, ws_rt, ws_bk, ws_ct, ws_exc, ws_then, wp_ite, ws_ite, decide_eq_true_eq, decide_eq_false_iff_not, true_implies, false_implies, implies_true, not_true_eq_false, not_false_eq_true, true_and, and_true, forall_const, fMeth, isTy_s, isTy_l, Option.isSome_some, and_self, fSlice, pNone, pSome, ws_sFor, fiSeq, fiRng1, fiRng2, wp_fLc, wp_outI_some, wp_rng1, wp_rng2, oEq_int, oNe_int, oEq_str, oNe_str, oEq_bl, oIs_non, oIsNot_non, isNon_non, isNon_int, isNon_bl, isNon_str, isNon_tup, isNon_ref, tru_non, tru_bl, tru_int, tru_tup, lenG_tup, oLt_str, oNotIn_str, oIn_str, seqG_tup, seqG_ref, iSeqG_tup, fiEnumA, iEnumGA_tup, iEnumGA_str, fiZip, Bool.false_or, Bool.true_or, Bool.or_false, Bool.or_true, Bool.false_and, Bool.true_and, Bool.and_false, Bool.and_true, Bool.or_eq_false_iff, Bool.not_eq_true', Bool.not_eq_false', nList, nTuple, oAdd_int, line, Bool.or_eq_true, Bool.and_eq_true, Bool.not_eq_true]
    simp -implicitDefEqProofs only [startE, OutS.toOut, sNext, sIf, sAsg, sRet, sRetN, sExpr, sBreak, sCont, sPar, par2, sAug, sRaise, fVar, fC, tyN, isi_NoneType_bool, isi_NoneType_int, isi_NoneType_str, isi_NoneType_tuple, isi_NoneType_list, isi_bool_bool, isi_bool_int, isi_bool_str, isi_bool_tuple, isi_bool_list, isi_int_bool, isi_int_int, isi_int_str, isi_int_tuple, isi_int_list, isi_str_bool, isi_str_int, isi_str_str, isi_str_tuple, isi_str_list, isi_tuple_bool, isi_tuple_int, isi_tuple_str, isi_tuple_tuple, isi_tuple_list, isi_list_bool, isi_list_int, isi_list_str, isi_list_tuple, isi_list_list, fBin, fCall, fNat, fIsi, fTru, fBl, fNotT, fAndT, fOrT, fAndV, fOrV, fNotV, fIf, fTup, fLst, fNeg, aNil, aCons, gNm, gSb, gTpT, gNms, blOf, o2I, n1I, n2I, nLen_eq, oSub, oMod, oDiv, oGt, oGe, oLe, oLt, pw10_4, pw10_6, pw10_9, pw10_12, pw10_18, pw10_20, pw10_30, pw10_40, pw2_32, pw2_63, pw2_64, List.length_cons, List.length_nil, List.map_cons, List.map_nil, List.getElem?_cons_zero, List.getElem?_cons_succ, List.set_cons_zero, List.set_cons_succ, List.replicate, List.cons_append, List.nil_append, List.append_nil, Option.map_some, Option.map_none, id, ite_true, ite_false, if_true, if_false, Nat.zero_add, Nat.reduceAdd, Nat.reduceSub, Nat.reduceLeDiff, Bool.not_true, Bool.not_false, Bool.false_eq_true, reduceIte, reduceCtorEq, Int.reduceLT, Int.reduceLE, Int.reduceEq, Int.reduceNe, Nat.reduceLT, Nat.reduceEqDiff, decide_true, decide_false, Int.reduceAdd, Int.reduceSub, Int.reduceNeg, Int.reducePow, Int.reduceMul, Int.reduceToNat, wp_ok, wp_exc, wp_bad, wp_bind, bind_ok, wp_of, wr_some, wr_ite, of_some, tst_some, and_ok, or_ok, ws_nx, ws_rt, ws_bk, ws_ct, ws_exc, ws_then, wp_ite, ws_ite, decide_eq_true_eq, decide_eq_false_iff_not, true_implies, false_implies, implies_true, not_true_eq_false, not_false_eq_true, true_and, and_true, forall_const, fMeth, isTy_s, isTy_l, Option.isSome_some, and_self, fSlice, pNone, pSome, ws_sFor, fiSeq, fiRng1, fiRng2, wp_fLc, wp_outI_some, wp_rng1, wp_rng2, oEq_int, oNe_int, oEq_str, oNe_str, oEq_bl, oIs_non, oIsNot_non, isNon_non, isNon_int, isNon_bl, isNon_str, isNon_tup, isNon_ref, tru_non, tru_bl, tru_int, tru_tup, lenG_tup, oLt_str, oNotIn_str, oIn_str, seqG_tup, seqG_ref, iSeqG_tup, fiEnumA, iEnumGA_tup, iEnumGA_str, fiZip, Bool.false_or, Bool.true_or, Bool.or_false, Bool.or_true, Bool.false_and, Bool.true_and, Bool.and_false, Bool.and_true, Bool.or_eq_false_iff, Bool.not_eq_true', Bool.not_eq_false', nList, nTuple, oAdd_int, line, Bool.or_eq_true, Bool.and_eq_true, Bool.not_eq_true, gx, gy, hj, fCallK, kw_joined, hsame _ (okv_labs hxy (by rw [List.length_append]; omega))]
    exact fin
  · rw [if_neg (by omega)] at hj
    refine ws_seq ?_
    try simp -implicitDefEqProofs only [startE, OutS.toOut, sNext, sIf, sAsg, sRet, sRetN, sExpr, sBreak, sCont, sPar, par2, sAug, sRaise, fVar, fC, tyN, isi_NoneType_bool, isi_NoneType_int, isi_NoneType_str, isi_NoneType_tuple, isi_NoneType_list, isi_bool_bool, isi_bool_int, isi_bool_str, isi_bool_tuple, isi_bool_list, isi_int_bool, isi_int_int, isi_int_str, isi_int_tuple, isi_int_list, isi_str_bool, isi_str_int, isi_str_str, isi_str_tuple, isi_str_list, isi_tuple_bool, isi_tuple_int, isi_tuple_str, isi_tuple_tuple, isi_tuple_list, isi_list_bool, isi_list_int, isi_list_str, isi_list_tuple, isi_list_list, fBin, fCall, fNat, fIsi, fTru, fBl, fNotT, fAndT, fOrT, fAndV, fOrV, fNotV, fIf, fTup, fLst, fNeg, aNil, aCons, gNm, gSb, gTpT, gNms, blOf, o2I, n1I, n2I, nLen_eq, oSub, oMod, oDiv, oGt, oGe, oLe, oLt, pw10_4, pw10_6, pw10_9, pw10_12, pw10_18, pw10_20, pw10_30, pw10_40, pw2_32, pw2_63, pw2_64, List.length_cons, List.length_nil, List.map_cons, List.map_nil, List.getElem?_cons_zero, List.getElem?_cons_succ, List.set_cons_zero, List.set_cons_succ, List.replicate, List.cons_append, List.nil_append, List.append_nil, Option.map_some, Option.map_none, id, ite_true, ite_false, if_true, if_false, Nat.zero_add, Nat.reduceAdd, Nat.reduceSub, Nat.reduceLeDiff, Bool.not_true, Bool.not_false, Bool.false_eq_true, reduceIte, reduceCtorEq, Int.reduceLT, Int.reduceLE, Int.reduceEq, Int.reduceNe, Nat.reduceLT, Nat.reduceEqDiff, decide_true, decide_false, Int.reduceAdd, Int.reduceSub, Int.reduceNeg, Int.reducePow, Int.reduceMul, Int.reduceToNat, wp_ok, wp_exc, wp_bad, wp_bind, bind_ok, wp_of, wr_some, wr_ite, of_some, tst_some, and_ok, or_ok, ws_nx, ws_rt, ws_bk, ws_ct, ws_exc, ws_then, wp_ite, ws_ite, decide_eq_true_eq, decide_eq_false_iff_not, true_implies, false_implies, implies_true, not_true_eq_false, not_false_eq_true, true_and, and_true, forall_const, fMeth, isTy_s, isTy_l, Option.isSome_some, and_self, fSlice, pNone, pSome, ws_sFor, fiSeq, fiRng1, fiRng2, wp_fLc, wp_outI_some, wp_rng1, wp_rng2, oEq_int, oNe_int, oEq_str, oNe_str, oEq_bl, oIs_non, oIsNot_non, isNon_non, isNon_int, isNon_bl, isNon_str, isNon_tup, isNon_ref, tru_non, tru_bl, tru_int, tru_tup, lenG_tup, oLt_str, oNotIn_str, oIn_str, seqG_tup, seqG_ref, iSeqG_tup, fiEnumA, iEnumGA_tup, iEnumGA_str, fiZip, Bool.false_or, Bool.true_or, Bool.or_false, Bool.or_true, Bool.false_and, Bool.true_and, Bool.and_false, Bool.and_true, Bool.or_eq_false_iff, Bool.not_eq_true', Bool.not_eq_false', nList, nTuple, oAdd_int, line, Bool.or_eq_true, Bool.and_eq_true, Bool.not_eq_true]
    simp -implicitDefEqProofs only [startE, OutS.toOut, sNext, sIf, sAsg, sRet, sRetN, sExpr, sBreak, sCont, sPar, par2, sAug, sRaise, fVar, fC, tyN, isi_NoneType_bool, isi_NoneType_int, isi_NoneType_str, isi_NoneType_tuple, isi_NoneType_list, isi_bool_bool, isi_bool_int, isi_bool_str, isi_bool_tuple, isi_bool_list, isi_int_bool, isi_int_int, isi_int_str, isi_int_tuple, isi_int_list, isi_str_bool, isi_str_int, isi_str_str, isi_str_tuple, isi_str_list, isi_tuple_bool, isi_tuple_int, isi_tuple_str, isi_tuple_tuple, isi_tuple_list, isi_list_bool, isi_list_int, isi_list_str, isi_list_tuple, isi_list_list, fBin, fCall, fNat, fIsi, fTru, fBl, fNotT, fAndT, fOrT, fAndV, fOrV, fNotV, fIf, fTup, fLst, fNeg, aNil, aCons, gNm, gSb, gTpT, gNms, blOf, o2I, n1I, n2I, nLen_eq, oSub, oMod, oDiv, oGt, oGe, oLe, oLt, pw10_4, pw10_6, pw10_9, pw10_12, pw10_18, pw10_20, pw10_30, pw10_40, pw2_32, pw2_63, pw2_64, List.length_cons, List.length_nil, List.map_cons, List.map_nil, List.getElem?_cons_zero, List.getElem?_cons_succ, List.set_cons_zero, List.set_cons_succ, List.replicate, List.cons_append, List.nil_append, List.append_nil, Option.map_some, Option.map_none, id, ite_true, ite_false, if_true, if_false, Nat.zero_add, Nat.reduceAdd, Nat.reduceSub, Nat.reduceLeDiff, Bool.not_true, Bool.not_false, Bool.false_eq_true, reduceIte, reduceCtorEq, Int.reduceLT, Int.reduceLE, Int.reduceEq, Int.reduceNe, Nat.reduceLT, Nat.reduceEqDiff, decide_true, decide_false, Int.reduceAdd, Int.reduceSub, Int.reduceNeg, Int.reducePow, Int.reduceMul, Int.reduceToNat, wp_ok, wp_exc, wp_bad, wp_bind, bind_ok, wp_of, wr_some, wr_ite, of_some, tst_some, and_ok, or_ok, ws_nx, ws_rt, ws_bk, ws_ct, ws_exc, ws_then, wp_ite, ws_ite, decide_eq_true_eq, decide_eq_false_iff_not, true_implies, false_implies, implies_true, not_true_eq_false, not_false_eq_true, true_and, and_true, forall_const, fMeth, isTy_s, isTy_l, Option.isSome_some, and_self, fSlice, pNone, pSome, ws_sFor, fiSeq, fiRng1, fiRng2, wp_fLc, wp_outI_some, wp_rng1, wp_rng2, oEq_int, oNe_int, oEq_str, oNe_str, oEq_bl, oIs_non, oIsNot_non, isNon_non, isNon_int, isNon_bl, isNon_str, isNon_tup, isNon_ref, tru_non, tru_bl, tru_int, tru_tup, lenG_tup, oLt_str, oNotIn_str, oIn_str, seqG_tup, seqG_ref, iSeqG_tup, fiEnumA, iEnumGA_tup, iEnumGA_str, fiZip, Bool.false_or, Bool.true_or, Bool.or_false, Bool.or_true, Bool.false_and, Bool.true_and, Bool.and_false, Bool.and_true, Bool.or_eq_false_iff, Bool.not_eq_true', Bool.not_eq_false', nList, nTuple, oAdd_int, line, Bool.or_eq_true, Bool.and_eq_true, Bool.not_eq_true, gx, gy, hj, fCallK, kw_joined, hsame .non trivial]
    exact fin
theorem w_spoilt {r : Nat} {xs : List T} (hb : Box S b) (hr : r ≠ b) (e : S[r]? = some (.lst xs)) (hx : ∀ y ∈ xs, LabT y) (h0 : 0 < xs.length) (h1 : xs.length ≤ 100) (k : ∀ v S', Mv b S' 4 v → Stp b S S' → Q v S') : wp (g_law_spoilt [.ref b, .ref r] S) Q E := by
  have hbl := hb.lt
  obtain ⟨w, ws', rfl⟩ : ∃ w ws', xs = w :: ws' := by
    cases xs with
    | nil => simp at h0
    | cons w ws' => exact ⟨_, _, rfl⟩
  obtain ⟨z, rfl, hz⟩ := hx w List.mem_cons_self
  unfold g_law_spoilt
  refine wp_def rfl ?_
  unfold g_law_spoilt_b
  simp only [startE, List.map_cons, List.map_nil, List.length_cons, List.length_nil, List.replicate, List.cons_append, List.nil_append, Nat.reduceAdd, Nat.reduceSub, Nat.zero_add]
  refine ws_seq ?_
  try simp -implicitDefEqProofs only [startE, OutS.toOut, sNext, sIf, sAsg, sRet, sRetN, sExpr, sBreak, sCont, sPar, par2, sAug, sRaise, fVar, fC, tyN, isi_NoneType_bool, isi_NoneType_int, isi_NoneType_str, isi_NoneType_tuple, isi_NoneType_list, isi_bool_bool, isi_bool_int, isi_bool_str, isi_bool_tuple, isi_bool_list, isi_int_bool, isi_int_int, isi_int_str, isi_int_tuple, isi_int_list, isi_str_bool, isi_str_int, isi_str_str, isi_str_tuple, isi_str_list, isi_tuple_bool, isi_tuple_int, isi_tuple_str, isi_tuple_tuple, isi_tuple_list, isi_list_bool, isi_list_int, isi_list_str, isi_list_tuple, isi_list_list, fBin, fCall, fNat, fIsi, fTru, fBl, fNotT, fAndT, fOrT, fAndV, fOrV, fNotV, fIf, fTup, fLst, fNeg, aNil, aCons, gNm, gSb, gTpT, gNms, blOf, o2I, n1I, n2I, nLen_eq, oSub, oMod, oDiv, oGt, oGe, oLe, oLt, pw10_4, pw10_6, pw10_9, pw10_12, pw10_18, pw10_20, pw10_30, pw10_40, pw2_32, pw2_63, pw2_64, List.length_cons, List.length_nil, List.map_cons, List.map_nil, List.getElem?_cons_zero, List.getElem?_cons_succ, List.set_cons_zero, List.set_cons_succ, List.replicate, List.cons_append, List.nil_append, List.append_nil, Option.map_some, Option.map_none, id, ite_true, ite_false, if_true, if_false, Nat.zero_add, Nat.reduceAdd, Nat.reduceSub, Nat.reduceLeDiff, Bool.not_true, Bool.not_false, Bool.false_eq_true, reduceIte, reduceCtorEq, Int.reduceLT, Int.reduceLE, Int.reduceEq, Int.reduceNe, Nat.reduceLT, Nat.reduceEqDiff, decide_true, decide_false, Int.reduceAdd, Int.reduceSub, Int.reduceNeg, Int.reducePow, Int.reduceMul, Int.reduceToNat, wp_ok, wp_exc, wp_bad, wp_bind, bind_ok, wp_of, wr_some, wr_ite, of_some, tst_some, and_ok, or_ok, ws_nx, ws_rt, ws_bk, ws_ct, ws_exc, ws_then, wp_ite, ws_ite, decide_eq_true_eq, decide_eq_false_iff_not, true_implies, false_implies, implies_true, not_true_eq_false, not_false_eq_true, true_and, and_true, forall_const, fMeth, isTy_s, isTy_l, Option.isSome_some, and_self, fSlice, pNone, pSome, ws_sFor, fiSeq, fiRng1, fiRng2, wp_fLc, wp_outI_some, wp_rng1, wp_rng2, oEq_int, oNe_int, oEq_str, oNe_str, oEq_bl, oIs_non, oIsNot_non, isNon_non, isNon_int, isNon_bl, isNon_str, isNon_tup, isNon_ref, tru_non, tru_bl, tru_int, tru_tup, lenG_tup, oLt_str, oNotIn_str, oIn_str, seqG_tup, seqG_ref, iSeqG_tup, fiEnumA, iEnumGA_tup, iEnumGA_str, fiZip, Bool.false_or, Bool.true_or, Bool.or_false, Bool.or_true, Bool.false_and, Bool.true_and, Bool.and_false, Bool.and_true, Bool.or_eq_false_iff, Bool.not_eq_true', Bool.not_eq_false', nList, nTuple, oAdd_int, line, Bool.or_eq_true, Bool.and_eq_true, Bool.not_eq_true]
  refine w_take hb (by decide) fun d S1 d0 d1 s1 => ?_
  have hl1 := s1.le
  have e1 := s1.at hr e
  try simp -implicitDefEqProofs only [startE, OutS.toOut, sNext, sIf, sAsg, sRet, sRetN, sExpr, sBreak, sCont, sPar, par2, sAug, sRaise, fVar, fC, tyN, isi_NoneType_bool, isi_NoneType_int, isi_NoneType_str, isi_NoneType_tuple, isi_NoneType_list, isi_bool_bool, isi_bool_int, isi_bool_str, isi_bool_tuple, isi_bool_list, isi_int_bool, isi_int_int, isi_int_str, isi_int_tuple, isi_int_list, isi_str_bool, isi_str_int, isi_str_str, isi_str_tuple, isi_str_list, isi_tuple_bool, isi_tuple_int, isi_tuple_str, isi_tuple_tuple, isi_tuple_list, isi_list_bool, isi_list_int, isi_list_str, isi_list_tuple, isi_list_list, fBin, fCall, fNat, fIsi, fTru, fBl, fNotT, fAndT, fOrT, fAndV, fOrV, fNotV, fIf, fTup, fLst, fNeg, aNil, aCons, gNm, gSb, gTpT, gNms, blOf, o2I, n1I, n2I, nLen_eq, oSub, oMod, oDiv, oGt, oGe, oLe, oLt, pw10_4, pw10_6, pw10_9, pw10_12, pw10_18, pw10_20, pw10_30, pw10_40, pw2_32, pw2_63, pw2_64, List.length_cons, List.length_nil, List.map_cons, List.map_nil, List.getElem?_cons_zero, List.getElem?_cons_succ, List.set_cons_zero, List.set_cons_succ, List.replicate, List.cons_append, List.nil_append, List.append_nil, Option.map_some, Option.map_none, id, ite_true, ite_false, if_true, if_false, Nat.zero_add, Nat.reduceAdd, Nat.reduceSub, Nat.reduceLeDiff, Bool.not_true, Bool.not_false, Bool.false_eq_true, reduceIte, reduceCtorEq, Int.reduceLT, Int.reduceLE, Int.reduceEq, Int.reduceNe, Nat.reduceLT, Nat.reduceEqDiff, decide_true, decide_false, Int.reduceAdd, Int.reduceSub, Int.reduceNeg, Int.reducePow, Int.reduceMul, Int.reduceToNat, wp_ok, wp_exc, wp_bad, wp_bind, bind_ok, wp_of, wr_some, wr_ite, of_some, tst_some, and_ok, or_ok, ws_nx, ws_rt, ws_bk, ws_ct, ws_exc, ws_then, wp_ite, ws_ite, decide_eq_true_eq, decide_eq_false_iff_not, true_implies, false_implies, implies_true, not_true_eq_false, not_false_eq_true, true_and, and_true, forall_const, fMeth, isTy_s, isTy_l, Option.isSome_some, and_self, fSlice, pNone, pSome, ws_sFor, fiSeq, fiRng1, fiRng2, wp_fLc, wp_outI_some, wp_rng1, wp_rng2, oEq_int, oNe_int, oEq_str, oNe_str, oEq_bl, oIs_non, oIsNot_non, isNon_non, isNon_int, isNon_bl, isNon_str, isNon_tup, isNon_ref, tru_non, tru_bl, tru_int, tru_tup, lenG_tup, oLt_str, oNotIn_str, oIn_str, seqG_tup, seqG_ref, iSeqG_tup, fiEnumA, iEnumGA_tup, iEnumGA_str, fiZip, Bool.false_or, Bool.true_or, Bool.or_false, Bool.or_true, Bool.false_and, Bool.true_and, Bool.and_false, Bool.and_true, Bool.or_eq_false_iff, Bool.not_eq_true', Bool.not_eq_false', nList, nTuple, oAdd_int, line, Bool.or_eq_true, Bool.and_eq_true, Bool.not_eq_true]
  have hm : ∀ {S' : Store} {n : Nat} {y : T}, y ∈ T.str z :: ws' → Mv b S' (n + 1) y := fun hy => labT_mv (hx _ hy)
  have hms : ∀ {S' : Store} {n : Nat}, Mv b S' (n + 1) (T.str z) := hm List.mem_cons_self
  have ha : (Str.ofString "a").length ≤ 1000 := by decide
  obtain ⟨xs, hxs⟩ : ∃ xs, xs = T.str z :: ws' := ⟨_, rfl⟩
  have hz0 : xs[0]? = some (T.str z) := by rw [hxs]; rfl
  rw [← hxs] at e1 h0 h1 hm
  refine ⟨fun hd => ?_, fun hd => ?_⟩
  · obtain ⟨S2, q2⟩ : ∃ S2, S2 = S1 ++ [Cell.lst []] := ⟨_, rfl⟩
    have s2 : Stp b S1 S2 := by rw [q2]; exact Stp.refl.push
    have e2 := s2.at hr e1
    have g2 : getL S2 S1.length = some [] := by rw [q2]; exact getL_end
    simp only [← q2]
    obtain ⟨S3, q3⟩ : ∃ S3, S3 = S2 ++ [Cell.lst xs] := ⟨_, rfl⟩
    have s3 : Stp b S2 S3 := by rw [q3]; exact Stp.refl.push
    have e3 := s3.at hr e2
    have g3 : getL S3 S2.length = some xs := by rw [q3]; exact getL_end
    have i3 : oIx (.ref r) (.int 0) S3 = some (.str z, S3) := ix_lst (k := 0) (getL_lst e3) hz0
    obtain ⟨S4, q4⟩ : ∃ S4, S4 = S3 ++ [Cell.lst (xs ++ xs)] := ⟨_, rfl⟩
    have s4 : Stp b S3 S4 := by rw [q4]; exact Stp.refl.push
    have g4 : getL S4 S3.length = some (xs ++ xs) := by rw [q4]; exact getL_end
    simp -implicitDefEqProofs only [startE, OutS.toOut, sNext, sIf, sAsg, sRet, sRetN, sExpr, sBreak, sCont, sPar, par2, sAug, sRaise, fVar, fC, tyN, isi_NoneType_bool, isi_NoneType_int, isi_NoneType_str, isi_NoneType_tuple, isi_NoneType_list, isi_bool_bool, isi_bool_int, isi_bool_str, isi_bool_tuple, isi_bool_list, isi_int_bool, isi_int_int, isi_int_str, isi_int_tuple, isi_int_list, isi_str_bool, isi_str_int, isi_str_str, isi_str_tuple, isi_str_list, isi_tuple_bool, isi_tuple_int, isi_tuple_str, isi_tuple_tuple, isi_tuple_list, isi_list_bool, isi_list_int, isi_list_str, isi_list_tuple, isi_list_list, fBin, fCall, fNat, fIsi, fTru, fBl, fNotT, fAndT, fOrT, fAndV, fOrV, fNotV, fIf, fTup, fLst, fNeg, aNil, aCons, gNm, gSb, gTpT, gNms, blOf, o2I, n1I, n2I, nLen_eq, oSub, oMod, oDiv, oGt, oGe, oLe, oLt, pw10_4, pw10_6, pw10_9, pw10_12, pw10_18, pw10_20, pw10_30, pw10_40, pw2_32, pw2_63, pw2_64, List.length_cons, List.length_nil, List.map_cons, List.map_nil, List.getElem?_cons_zero, List.getElem?_cons_succ, List.set_cons_zero, List.set_cons_succ, List.replicate, List.cons_append, List.nil_append, List.append_nil, Option.map_some, Option.map_none, id, ite_true, ite_false, if_true, if_false, Nat.zero_add, Nat.reduceAdd, Nat.reduceSub, Nat.reduceLeDiff, Bool.not_true, Bool.not_false, Bool.false_eq_true, reduceIte, reduceCtorEq, Int.reduceLT, Int.reduceLE, Int.reduceEq, Int.reduceNe, Nat.reduceLT, Nat.reduceEqDiff, decide_true, decide_false, Int.reduceAdd, Int.reduceSub, Int.reduceNeg, Int.reducePow, Int.reduceMul, Int.reduceToNat, wp_ok, wp_exc, wp_bad, wp_bind, bind_ok, wp_of, wr_some, wr_ite, of_some, tst_some, and_ok, or_ok, ws_nx, ws_rt, ws_bk, ws_ct, ws_exc, ws_then, wp_ite, ws_ite, decide_eq_true_eq, decide_eq_false_iff_not, true_implies, false_implies, implies_true, not_true_eq_false, not_false_eq_true, true_and, and_true, forall_const, fMeth, isTy_s, isTy_l, Option.isSome_some, and_self, fSlice, pNone, pSome, ws_sFor, fiSeq, fiRng1, fiRng2, wp_fLc, wp_outI_some, wp_rng1, wp_rng2, oEq_int, oNe_int, oEq_str, oNe_str, oEq_bl, oIs_non, oIsNot_non, isNon_non, isNon_int, isNon_bl, isNon_str, isNon_tup, isNon_ref, tru_non, tru_bl, tru_int, tru_tup, lenG_tup, oLt_str, oNotIn_str, oIn_str, seqG_tup, seqG_ref, iSeqG_tup, fiEnumA, iEnumGA_tup, iEnumGA_str, fiZip, Bool.false_or, Bool.true_or, Bool.or_false, Bool.or_true, Bool.false_and, Bool.true_and, Bool.and_false, Bool.and_true, Bool.or_eq_false_iff, Bool.not_eq_true', Bool.not_eq_false', nList, nTuple, oAdd_int, line, Bool.or_eq_true, Bool.and_eq_true, Bool.not_eq_true, getL_lst e2, ← q3, i3, oAdd_lst e3 e3 (by unfold line; omega), ← q4, g4]
    have l2 := s2.le
    have l3 := s3.le
    have l4 := s4.le
    refine w_pickl (s4.box (s3.box (s2.box (s1.box hb)))) (k := fun x S5 hx5 s5 => ?_)
    refine k x S5 ?_ (s1.trans (s2.trans (s3.trans (s4.trans s5))))
    simp only [List.mem_cons, List.mem_nil_iff, or_false] at hx5
    rcases hx5 with rfl | rfl | rfl | rfl | rfl | rfl | rfl | rfl | rfl
    · trivial
    · exact ha
    · trivial
    · exact ⟨by decide, fun x hx => by cases hx⟩
    · exact ⟨by omega, _, (s3.trans (s4.trans s5)).get (by omega) g2, fun x hx => by cases hx⟩
    · exact ⟨by omega, _, (s4.trans s5).get (by omega) g3, fun x hx => hm hx⟩
    · trivial
    · exact ⟨by simp, fun x hx => by rw [List.mem_singleton.mp hx]; exact hms⟩
    · refine ⟨by rw [List.length_append]; omega, fun x hx => ?_⟩
      exact (List.mem_append.mp hx).elim (fun h => hm h) fun h => hm h
  · refine ws_seq ?_
    simp -implicitDefEqProofs only [startE, OutS.toOut, sNext, sIf, sAsg, sRet, sRetN, sExpr, sBreak, sCont, sPar, par2, sAug, sRaise, fVar, fC, tyN, isi_NoneType_bool, isi_NoneType_int, isi_NoneType_str, isi_NoneType_tuple, isi_NoneType_list, isi_bool_bool, isi_bool_int, isi_bool_str, isi_bool_tuple, isi_bool_list, isi_int_bool, isi_int_int, isi_int_str, isi_int_tuple, isi_int_list, isi_str_bool, isi_str_int, isi_str_str, isi_str_tuple, isi_str_list, isi_tuple_bool, isi_tuple_int, isi_tuple_str, isi_tuple_tuple, isi_tuple_list, isi_list_bool, isi_list_int, isi_list_str, isi_list_tuple, isi_list_list, fBin, fCall, fNat, fIsi, fTru, fBl, fNotT, fAndT, fOrT, fAndV, fOrV, fNotV, fIf, fTup, fLst, fNeg, aNil, aCons, gNm, gSb, gTpT, gNms, blOf, o2I, n1I, n2I, nLen_eq, oSub, oMod, oDiv, oGt, oGe, oLe, oLt, pw10_4, pw10_6, pw10_9, pw10_12, pw10_18, pw10_20, pw10_30, pw10_40, pw2_32, pw2_63, pw2_64, List.length_cons, List.length_nil, List.map_cons, List.map_nil, List.getElem?_cons_zero, List.getElem?_cons_succ, List.set_cons_zero, List.set_cons_succ, List.replicate, List.cons_append, List.nil_append, List.append_nil, Option.map_some, Option.map_none, id, ite_true, ite_false, if_true, if_false, Nat.zero_add, Nat.reduceAdd, Nat.reduceSub, Nat.reduceLeDiff, Bool.not_true, Bool.not_false, Bool.false_eq_true, reduceIte, reduceCtorEq, Int.reduceLT, Int.reduceLE, Int.reduceEq, Int.reduceNe, Nat.reduceLT, Nat.reduceEqDiff, decide_true, decide_false, Int.reduceAdd, Int.reduceSub, Int.reduceNeg, Int.reducePow, Int.reduceMul, Int.reduceToNat, wp_ok, wp_exc, wp_bad, wp_bind, bind_ok, wp_of, wr_some, wr_ite, of_some, tst_some, and_ok, or_ok, ws_nx, ws_rt, ws_bk, ws_ct, ws_exc, ws_then, wp_ite, ws_ite, decide_eq_true_eq, decide_eq_false_iff_not, true_implies, false_implies, implies_true, not_true_eq_false, not_false_eq_true, true_and, and_true, forall_const, fMeth, isTy_s, isTy_l, Option.isSome_some, and_self, fSlice, pNone, pSome, ws_sFor, fiSeq, fiRng1, fiRng2, wp_fLc, wp_outI_some, wp_rng1, wp_rng2, oEq_int, oNe_int, oEq_str, oNe_str, oEq_bl, oIs_non, oIsNot_non, isNon_non, isNon_int, isNon_bl, isNon_str, isNon_tup, isNon_ref, tru_non, tru_bl, tru_int, tru_tup, lenG_tup, oLt_str, oNotIn_str, oIn_str, seqG_tup, seqG_ref, iSeqG_tup, fiEnumA, iEnumGA_tup, iEnumGA_str, fiZip, Bool.false_or, Bool.true_or, Bool.or_false, Bool.or_true, Bool.false_and, Bool.true_and, Bool.and_false, Bool.and_true, Bool.or_eq_false_iff, Bool.not_eq_true', Bool.not_eq_false', nList, nTuple, oAdd_int, line, Bool.or_eq_true, Bool.and_eq_true, Bool.not_eq_true, getL_lst e1]
    obtain ⟨S2, q2⟩ : ∃ S2, S2 = S1 ++ [Cell.lst xs] := ⟨_, rfl⟩
    have s2 : Stp b S1 S2 := by rw [q2]; exact Stp.refl.push
    have e2 : S2[S1.length]? = some (.lst xs) := by rw [q2]; simp
    have er2 := s2.at hr e1
    have l2 := s2.le
    rw [← q2]
    refine ws_seq ?_
    try simp -implicitDefEqProofs only [startE, OutS.toOut, sNext, sIf, sAsg, sRet, sRetN, sExpr, sBreak, sCont, sPar, par2, sAug, sRaise, fVar, fC, tyN, isi_NoneType_bool, isi_NoneType_int, isi_NoneType_str, isi_NoneType_tuple, isi_NoneType_list, isi_bool_bool, isi_bool_int, isi_bool_str, isi_bool_tuple, isi_bool_list, isi_int_bool, isi_int_int, isi_int_str, isi_int_tuple, isi_int_list, isi_str_bool, isi_str_int, isi_str_str, isi_str_tuple, isi_str_list, isi_tuple_bool, isi_tuple_int, isi_tuple_str, isi_tuple_tuple, isi_tuple_list, isi_list_bool, isi_list_int, isi_list_str, isi_list_tuple, isi_list_list, fBin, fCall, fNat, fIsi, fTru, fBl, fNotT, fAndT, fOrT, fAndV, fOrV, fNotV, fIf, fTup, fLst, fNeg, aNil, aCons, gNm, gSb, gTpT, gNms, blOf, o2I, n1I, n2I, nLen_eq, oSub, oMod, oDiv, oGt, oGe, oLe, oLt, pw10_4, pw10_6, pw10_9, pw10_12, pw10_18, pw10_20, pw10_30, pw10_40, pw2_32, pw2_63, pw2_64, List.length_cons, List.length_nil, List.map_cons, List.map_nil, List.getElem?_cons_zero, List.getElem?_cons_succ, List.set_cons_zero, List.set_cons_succ, List.replicate, List.cons_append, List.nil_append, List.append_nil, Option.map_some, Option.map_none, id, ite_true, ite_false, if_true, if_false, Nat.zero_add, Nat.reduceAdd, Nat.reduceSub, Nat.reduceLeDiff, Bool.not_true, Bool.not_false, Bool.false_eq_true, reduceIte, reduceCtorEq, Int.reduceLT, Int.reduceLE, Int.reduceEq, Int.reduceNe, Nat.reduceLT, Nat.reduceEqDiff, decide_true, decide_false, Int.reduceAdd, Int.reduceSub, Int.reduceNeg, Int.reducePow, Int.reduceMul, Int.reduceToNat, wp_ok, wp_exc, wp_bad, wp_bind, bind_ok, wp_of, wr_some, wr_ite, of_some, tst_some, and_ok, or_ok, ws_nx, ws_rt, ws_bk, ws_ct, ws_exc, ws_then, wp_ite, ws_ite, decide_eq_true_eq, decide_eq_false_iff_not, true_implies, false_implies, implies_true, not_true_eq_false, not_false_eq_true, true_and, and_true, forall_const, fMeth, isTy_s, isTy_l, Option.isSome_some, and_self, fSlice, pNone, pSome, ws_sFor, fiSeq, fiRng1, fiRng2, wp_fLc, wp_outI_some, wp_rng1, wp_rng2, oEq_int, oNe_int, oEq_str, oNe_str, oEq_bl, oIs_non, oIsNot_non, isNon_non, isNon_int, isNon_bl, isNon_str, isNon_tup, isNon_ref, tru_non, tru_bl, tru_int, tru_tup, lenG_tup, oLt_str, oNotIn_str, oIn_str, seqG_tup, seqG_ref, iSeqG_tup, fiEnumA, iEnumGA_tup, iEnumGA_str, fiZip, Bool.false_or, Bool.true_or, Bool.or_false, Bool.or_true, Bool.false_and, Bool.true_and, Bool.and_false, Bool.and_true, Bool.or_eq_false_iff, Bool.not_eq_true', Bool.not_eq_false', nList, nTuple, oAdd_int, line, Bool.or_eq_true, Bool.and_eq_true, Bool.not_eq_true]
    refine w_take (s2.box (s1.box hb)) (by decide) fun d2 S3 d20 d21 s3 => ?_
    simp -implicitDefEqProofs only [startE, OutS.toOut, sNext, sIf, sAsg, sRet, sRetN, sExpr, sBreak, sCont, sPar, par2, sAug, sRaise, fVar, fC, tyN, isi_NoneType_bool, isi_NoneType_int, isi_NoneType_str, isi_NoneType_tuple, isi_NoneType_list, isi_bool_bool, isi_bool_int, isi_bool_str, isi_bool_tuple, isi_bool_list, isi_int_bool, isi_int_int, isi_int_str, isi_int_tuple, isi_int_list, isi_str_bool, isi_str_int, isi_str_str, isi_str_tuple, isi_str_list, isi_tuple_bool, isi_tuple_int, isi_tuple_str, isi_tuple_tuple, isi_tuple_list, isi_list_bool, isi_list_int, isi_list_str, isi_list_tuple, isi_list_list, fBin, fCall, fNat, fIsi, fTru, fBl, fNotT, fAndT, fOrT, fAndV, fOrV, fNotV, fIf, fTup, fLst, fNeg, aNil, aCons, gNm, gSb, gTpT, gNms, blOf, o2I, n1I, n2I, nLen_eq, oSub, oMod, oDiv, oGt, oGe, oLe, oLt, pw10_4, pw10_6, pw10_9, pw10_12, pw10_18, pw10_20, pw10_30, pw10_40, pw2_32, pw2_63, pw2_64, List.length_cons, List.length_nil, List.map_cons, List.map_nil, List.getElem?_cons_zero, List.getElem?_cons_succ, List.set_cons_zero, List.set_cons_succ, List.replicate, List.cons_append, List.nil_append, List.append_nil, Option.map_some, Option.map_none, id, ite_true, ite_false, if_true, if_false, Nat.zero_add, Nat.reduceAdd, Nat.reduceSub, Nat.reduceLeDiff, Bool.not_true, Bool.not_false, Bool.false_eq_true, reduceIte, reduceCtorEq, Int.reduceLT, Int.reduceLE, Int.reduceEq, Int.reduceNe, Nat.reduceLT, Nat.reduceEqDiff, decide_true, decide_false, Int.reduceAdd, Int.reduceSub, Int.reduceNeg, Int.reducePow, Int.reduceMul, Int.reduceToNat, wp_ok, wp_exc, wp_bad, wp_bind, bind_ok, wp_of, wr_some, wr_ite, of_some, tst_some, and_ok, or_ok, ws_nx, ws_rt, ws_bk, ws_ct, ws_exc, ws_then, wp_ite, ws_ite, decide_eq_true_eq, decide_eq_false_iff_not, true_implies, false_implies, implies_true, not_true_eq_false, not_false_eq_true, true_and, and_true, forall_const, fMeth, isTy_s, isTy_l, Option.isSome_some, and_self, fSlice, pNone, pSome, ws_sFor, fiSeq, fiRng1, fiRng2, wp_fLc, wp_outI_some, wp_rng1, wp_rng2, oEq_int, oNe_int, oEq_str, oNe_str, oEq_bl, oIs_non, oIsNot_non, isNon_non, isNon_int, isNon_bl, isNon_str, isNon_tup, isNon_ref, tru_non, tru_bl, tru_int, tru_tup, lenG_tup, oLt_str, oNotIn_str, oIn_str, seqG_tup, seqG_ref, iSeqG_tup, fiEnumA, iEnumGA_tup, iEnumGA_str, fiZip, Bool.false_or, Bool.true_or, Bool.or_false, Bool.or_true, Bool.false_and, Bool.true_and, Bool.and_false, Bool.and_true, Bool.or_eq_false_iff, Bool.not_eq_true', Bool.not_eq_false', nList, nTuple, oAdd_int, line, Bool.or_eq_true, Bool.and_eq_true, Bool.not_eq_true]
    refine ⟨rOk_of (by omega), ?_⟩
    have er3 := s3.at hr er2
    have e3 := s3.at (by omega : S1.length ≠ b) e2
    have hrl := lt_of_get e1
    have imp : ∀ {S' : Store} {n : Nat} {v : T}, MvP (fun r => r ≠ b ∧ r ≠ S1.length) S' n v → Mv b S' n v := fun h => h.imp fun r xs hr e => ⟨hr.1, e⟩
    have hmp : ∀ {S' : Store} {n : Nat} {y : T} {p : Nat → Prop}, y ∈ xs → MvP p S' (n + 1) y := fun hy => by
      rw [hxs] at hy
      obtain ⟨z, rfl, _, _, h⟩ := hx _ hy
      exact Nat.le_trans h (by decide)
    refine wl_all (fun ρ S' => (∃ a c, ρ = [some (.ref b), some (.ref r), some (.ref S1.length), a, c]) ∧ Stp b S1 S' ∧ ∃ ys, S'[S1.length]? = some (.lst ys) ∧ ys.length = xs.length ∧ ∀ y ∈ ys, MvP (fun r => r ≠ b ∧ r ≠ S1.length) S' 2 y) ⟨⟨none, none, rfl⟩, s2.trans s3, xs, e3, rfl, fun y hy => hmp hy⟩ (fun _ _ _ => rfl) (fun w hw ρ S4 hI => ?_) fun ρ S4 hI => ?_
    · obtain ⟨⟨a, c, rfl⟩, s4, ys, e4, l4, p4⟩ := hI
      have er4 := s4.at hr e1
      have b4 := s4.box (s1.box hb)
      have le4 := s4.le
      try simp -implicitDefEqProofs only [startE, OutS.toOut, sNext, sIf, sAsg, sRet, sRetN, sExpr, sBreak, sCont, sPar, par2, sAug, sRaise, fVar, fC, tyN, isi_NoneType_bool, isi_NoneType_int, isi_NoneType_str, isi_NoneType_tuple, isi_NoneType_list, isi_bool_bool, isi_bool_int, isi_bool_str, isi_bool_tuple, isi_bool_list, isi_int_bool, isi_int_int, isi_int_str, isi_int_tuple, isi_int_list, isi_str_bool, isi_str_int, isi_str_str, isi_str_tuple, isi_str_list, isi_tuple_bool, isi_tuple_int, isi_tuple_str, isi_tuple_tuple, isi_tuple_list, isi_list_bool, isi_list_int, isi_list_str, isi_list_tuple, isi_list_list, fBin, fCall, fNat, fIsi, fTru, fBl, fNotT, fAndT, fOrT, fAndV, fOrV, fNotV, fIf, fTup, fLst, fNeg, aNil, aCons, gNm, gSb, gTpT, gNms, blOf, o2I, n1I, n2I, nLen_eq, oSub, oMod, oDiv, oGt, oGe, oLe, oLt, pw10_4, pw10_6, pw10_9, pw10_12, pw10_18, pw10_20, pw10_30, pw10_40, pw2_32, pw2_63, pw2_64, List.length_cons, List.length_nil, List.map_cons, List.map_nil, List.getElem?_cons_zero, List.getElem?_cons_succ, List.set_cons_zero, List.set_cons_succ, List.replicate, List.cons_append, List.nil_append, List.append_nil, Option.map_some, Option.map_none, id, ite_true, ite_false, if_true, if_false, Nat.zero_add, Nat.reduceAdd, Nat.reduceSub, Nat.reduceLeDiff, Bool.not_true, Bool.not_false, Bool.false_eq_true, reduceIte, reduceCtorEq, Int.reduceLT, Int.reduceLE, Int.reduceEq, Int.reduceNe, Nat.reduceLT, Nat.reduceEqDiff, decide_true, decide_false, Int.reduceAdd, Int.reduceSub, Int.reduceNeg, Int.reducePow, Int.reduceMul, Int.reduceToNat, wp_ok, wp_exc, wp_bad, wp_bind, bind_ok, wp_of, wr_some, wr_ite, of_some, tst_some, and_ok, or_ok, ws_nx, ws_rt, ws_bk, ws_ct, ws_exc, ws_then, wp_ite, ws_ite, decide_eq_true_eq, decide_eq_false_iff_not, true_implies, false_implies, implies_true, not_true_eq_false, not_false_eq_true, true_and, and_true, forall_const, fMeth, isTy_s, isTy_l, Option.isSome_some, and_self, fSlice, pNone, pSome, ws_sFor, fiSeq, fiRng1, fiRng2, wp_fLc, wp_outI_some, wp_rng1, wp_rng2, oEq_int, oNe_int, oEq_str, oNe_str, oEq_bl, oIs_non, oIsNot_non, isNon_non, isNon_int, isNon_bl, isNon_str, isNon_tup, isNon_ref, tru_non, tru_bl, tru_int, tru_tup, lenG_tup, oLt_str, oNotIn_str, oIn_str, seqG_tup, seqG_ref, iSeqG_tup, fiEnumA, iEnumGA_tup, iEnumGA_str, fiZip, Bool.false_or, Bool.true_or, Bool.or_false, Bool.or_true, Bool.false_and, Bool.true_and, Bool.and_false, Bool.and_true, Bool.or_eq_false_iff, Bool.not_eq_true', Bool.not_eq_false', nList, nTuple, oAdd_int, line, Bool.or_eq_true, Bool.and_eq_true, Bool.not_eq_true]
      refine ws_seq ?_
      try simp -implicitDefEqProofs only [startE, OutS.toOut, sNext, sIf, sAsg, sRet, sRetN, sExpr, sBreak, sCont, sPar, par2, sAug, sRaise, fVar, fC, tyN, isi_NoneType_bool, isi_NoneType_int, isi_NoneType_str, isi_NoneType_tuple, isi_NoneType_list, isi_bool_bool, isi_bool_int, isi_bool_str, isi_bool_tuple, isi_bool_list, isi_int_bool, isi_int_int, isi_int_str, isi_int_tuple, isi_int_list, isi_str_bool, isi_str_int, isi_str_str, isi_str_tuple, isi_str_list, isi_tuple_bool, isi_tuple_int, isi_tuple_str, isi_tuple_tuple, isi_tuple_list, isi_list_bool, isi_list_int, isi_list_str, isi_list_tuple, isi_list_list, fBin, fCall, fNat, fIsi, fTru, fBl, fNotT, fAndT, fOrT, fAndV, fOrV, fNotV, fIf, fTup, fLst, fNeg, aNil, aCons, gNm, gSb, gTpT, gNms, blOf, o2I, n1I, n2I, nLen_eq, oSub, oMod, oDiv, oGt, oGe, oLe, oLt, pw10_4, pw10_6, pw10_9, pw10_12, pw10_18, pw10_20, pw10_30, pw10_40, pw2_32, pw2_63, pw2_64, List.length_cons, List.length_nil, List.map_cons, List.map_nil, List.getElem?_cons_zero, List.getElem?_cons_succ, List.set_cons_zero, List.set_cons_succ, List.replicate, List.cons_append, List.nil_append, List.append_nil, Option.map_some, Option.map_none, id, ite_true, ite_false, if_true, if_false, Nat.zero_add, Nat.reduceAdd, Nat.reduceSub, Nat.reduceLeDiff, Bool.not_true, Bool.not_false, Bool.false_eq_true, reduceIte, reduceCtorEq, Int.reduceLT, Int.reduceLE, Int.reduceEq, Int.reduceNe, Nat.reduceLT, Nat.reduceEqDiff, decide_true, decide_false, Int.reduceAdd, Int.reduceSub, Int.reduceNeg, Int.reducePow, Int.reduceMul, Int.reduceToNat, wp_ok, wp_exc, wp_bad, wp_bind, bind_ok, wp_of, wr_some, wr_ite, of_some, tst_some, and_ok, or_ok, ws_nx, ws_rt, ws_bk, ws_ct, ws_exc, ws_then, wp_ite, ws_ite, decide_eq_true_eq, decide_eq_false_iff_not, true_implies, false_implies, implies_true, not_true_eq_false, not_false_eq_true, true_and, and_true, forall_const, fMeth, isTy_s, isTy_l, Option.isSome_some, and_self, fSlice, pNone, pSome, ws_sFor, fiSeq, fiRng1, fiRng2, wp_fLc, wp_outI_some, wp_rng1, wp_rng2, oEq_int, oNe_int, oEq_str, oNe_str, oEq_bl, oIs_non, oIsNot_non, isNon_non, isNon_int, isNon_bl, isNon_str, isNon_tup, isNon_ref, tru_non, tru_bl, tru_int, tru_tup, lenG_tup, oLt_str, oNotIn_str, oIn_str, seqG_tup, seqG_ref, iSeqG_tup, fiEnumA, iEnumGA_tup, iEnumGA_str, fiZip, Bool.false_or, Bool.true_or, Bool.or_false, Bool.or_true, Bool.false_and, Bool.true_and, Bool.and_false, Bool.and_true, Bool.or_eq_false_iff, Bool.not_eq_true', Bool.not_eq_false', nList, nTuple, oAdd_int, line, Bool.or_eq_true, Bool.and_eq_true, Bool.not_eq_true]
      simp -implicitDefEqProofs only [startE, OutS.toOut, sNext, sIf, sAsg, sRet, sRetN, sExpr, sBreak, sCont, sPar, par2, sAug, sRaise, fVar, fC, tyN, isi_NoneType_bool, isi_NoneType_int, isi_NoneType_str, isi_NoneType_tuple, isi_NoneType_list, isi_bool_bool, isi_bool_int, isi_bool_str, isi_bool_tuple, isi_bool_list, isi_int_bool, isi_int_int, isi_int_str, isi_int_tuple, isi_int_list, isi_str_bool, isi_str_int, isi_str_str, isi_str_tuple, isi_str_list, isi_tuple_bool, isi_tuple_int, isi_tuple_str, isi_tuple_tuple, isi_tuple_list, isi_list_bool, isi_list_int, isi_list_str, isi_list_tuple, isi_list_list, fBin, fCall, fNat, fIsi, fTru, fBl, fNotT, fAndT, fOrT, fAndV, fOrV, fNotV, fIf, fTup, fLst, fNeg, aNil, aCons, gNm, gSb, gTpT, gNms, blOf, o2I, n1I, n2I, nLen_eq, oSub, oMod, oDiv, oGt, oGe, oLe, oLt, pw10_4, pw10_6, pw10_9, pw10_12, pw10_18, pw10_20, pw10_30, pw10_40, pw2_32, pw2_63, pw2_64, List.length_cons, List.length_nil, List.map_cons, List.map_nil, List.getElem?_cons_zero, List.getElem?_cons_succ, List.set_cons_zero, List.set_cons_succ, List.replicate, List.cons_append, List.nil_append, List.append_nil, Option.map_some, Option.map_none, id, ite_true, ite_false, if_true, if_false, Nat.zero_add, Nat.reduceAdd, Nat.reduceSub, Nat.reduceLeDiff, Bool.not_true, Bool.not_false, Bool.false_eq_true, reduceIte, reduceCtorEq, Int.reduceLT, Int.reduceLE, Int.reduceEq, Int.reduceNe, Nat.reduceLT, Nat.reduceEqDiff, decide_true, decide_false, Int.reduceAdd, Int.reduceSub, Int.reduceNeg, Int.reducePow, Int.reduceMul, Int.reduceToNat, wp_ok, wp_exc, wp_bad, wp_bind, bind_ok, wp_of, wr_some, wr_ite, of_some, tst_some, and_ok, or_ok, ws_nx, ws_rt, ws_bk, ws_ct, ws_exc, ws_then, wp_ite, ws_ite, decide_eq_true_eq, decide_eq_false_iff_not, true_implies, false_implies, implies_true, not_true_eq_false, not_false_eq_true, true_and, and_true, forall_const, fMeth, isTy_s, isTy_l, Option.isSome_some, and_self, fSlice, pNone, pSome, ws_sFor, fiSeq, fiRng1, fiRng2, wp_fLc, wp_outI_some, wp_rng1, wp_rng2, oEq_int, oNe_int, oEq_str, oNe_str, oEq_bl, oIs_non, oIsNot_non, isNon_non, isNon_int, isNon_bl, isNon_str, isNon_tup, isNon_ref, tru_non, tru_bl, tru_int, tru_tup, lenG_tup, oLt_str, oNotIn_str, oIn_str, seqG_tup, seqG_ref, iSeqG_tup, fiEnumA, iEnumGA_tup, iEnumGA_str, fiZip, Bool.false_or, Bool.true_or, Bool.or_false, Bool.or_true, Bool.false_and, Bool.true_and, Bool.and_false, Bool.and_true, Bool.or_eq_false_iff, Bool.not_eq_true', Bool.not_eq_false', nList, nTuple, oAdd_int, line, Bool.or_eq_true, Bool.and_eq_true, Bool.not_eq_true, lenG_ref (getL_lst e4)]
      refine w_take b4 (by omega) fun d5 S5 d50 d51 s5 => ?_
      have e5 := s5.at (by omega : S1.length ≠ b) e4
      have b5 := s5.box b4
      have er5 := s5.at hr er4
      have le5 := s5.le
      have lt5 := lt_of_get e5
      obtain ⟨j, rfl⟩ := Int.eq_ofNat_of_zero_le d50
      have fin : ∀ v S6, MvP (fun r => r ≠ b ∧ r ≠ S1.length) S6 2 v → Stp b S5 S6 → setG S6 (.ref S1.length) (.int (j : Int)) v = some (S6.set S1.length (.lst (ys.set j v))) ∧ Stp b S1 (S6.set S1.length (.lst (ys.set j v))) ∧ ∃ zs, (S6.set S1.length (.lst (ys.set j v)))[S1.length]? = some (.lst zs) ∧ zs.length = xs.length ∧ ∀ y ∈ zs, MvP (fun r => r ≠ b ∧ r ≠ S1.length) (S6.set S1.length (.lst (ys.set j v))) 2 y := fun v S6 hv s6 => by
        have e6 := s6.at (by omega : S1.length ≠ b) e5
        have s16 := (s4.trans (s5.trans s6)).setNew (c := .lst (ys.set j v)) (Nat.le_refl S1.length)
        refine ⟨set_lst e6 (by omega), s16, _, List.getElem?_set_self (lt_of_get e6), by rw [List.length_set]; exact l4, fun y hy => ?_⟩
        have keep : ∀ {y}, MvP (fun r => r ≠ b ∧ r ≠ S1.length) S6 2 y → MvP (fun r => r ≠ b ∧ r ≠ S1.length) (S6.set S1.length (.lst (ys.set j v))) 2 y := fun h => h.imp fun r xs hr e => ⟨hr, by
          unfold getL at e ⊢
          rw [List.getElem?_set_ne (fun q => hr.2 q.symm)]
          exact e⟩
        rcases List.mem_or_eq_of_mem_set hy with h | h
        · exact keep ((p4 y h).stp (s5.trans s6) fun r hr => hr.1)
        · rw [h]
          exact keep hv
      try simp -implicitDefEqProofs only [startE, OutS.toOut, sNext, sIf, sAsg, sRet, sRetN, sExpr, sBreak, sCont, sPar, par2, sAug, sRaise, fVar, fC, tyN, isi_NoneType_bool, isi_NoneType_int, isi_NoneType_str, isi_NoneType_tuple, isi_NoneType_list, isi_bool_bool, isi_bool_int, isi_bool_str, isi_bool_tuple, isi_bool_list, isi_int_bool, isi_int_int, isi_int_str, isi_int_tuple, isi_int_list, isi_str_bool, isi_str_int, isi_str_str, isi_str_tuple, isi_str_list, isi_tuple_bool, isi_tuple_int, isi_tuple_str, isi_tuple_tuple, isi_tuple_list, isi_list_bool, isi_list_int, isi_list_str, isi_list_tuple, isi_list_list, fBin, fCall, fNat, fIsi, fTru, fBl, fNotT, fAndT, fOrT, fAndV, fOrV, fNotV, fIf, fTup, fLst, fNeg, aNil, aCons, gNm, gSb, gTpT, gNms, blOf, o2I, n1I, n2I, nLen_eq, oSub, oMod, oDiv, oGt, oGe, oLe, oLt, pw10_4, pw10_6, pw10_9, pw10_12, pw10_18, pw10_20, pw10_30, pw10_40, pw2_32, pw2_63, pw2_64, List.length_cons, List.length_nil, List.map_cons, List.map_nil, List.getElem?_cons_zero, List.getElem?_cons_succ, List.set_cons_zero, List.set_cons_succ, List.replicate, List.cons_append, List.nil_append, List.append_nil, Option.map_some, Option.map_none, id, ite_true, ite_false, if_true, if_false, Nat.zero_add, Nat.reduceAdd, Nat.reduceSub, Nat.reduceLeDiff, Bool.not_true, Bool.not_false, Bool.false_eq_true, reduceIte, reduceCtorEq, Int.reduceLT, Int.reduceLE, Int.reduceEq, Int.reduceNe, Nat.reduceLT, Nat.reduceEqDiff, decide_true, decide_false, Int.reduceAdd, Int.reduceSub, Int.reduceNeg, Int.reducePow, Int.reduceMul, Int.reduceToNat, wp_ok, wp_exc, wp_bad, wp_bind, bind_ok, wp_of, wr_some, wr_ite, of_some, tst_some, and_ok, or_ok, ws_nx, ws_rt, ws_bk, ws_ct, ws_exc, ws_then, wp_ite, ws_ite, decide_eq_true_eq, decide_eq_false_iff_not, true_implies, false_implies, implies_true, not_true_eq_false, not_false_eq_true, true_and, and_true, forall_const, fMeth, isTy_s, isTy_l, Option.isSome_some, and_self, fSlice, pNone, pSome, ws_sFor, fiSeq, fiRng1, fiRng2, wp_fLc, wp_outI_some, wp_rng1, wp_rng2, oEq_int, oNe_int, oEq_str, oNe_str, oEq_bl, oIs_non, oIsNot_non, isNon_non, isNon_int, isNon_bl, isNon_str, isNon_tup, isNon_ref, tru_non, tru_bl, tru_int, tru_tup, lenG_tup, oLt_str, oNotIn_str, oIn_str, seqG_tup, seqG_ref, iSeqG_tup, fiEnumA, iEnumGA_tup, iEnumGA_str, fiZip, Bool.false_or, Bool.true_or, Bool.or_false, Bool.or_true, Bool.false_and, Bool.true_and, Bool.and_false, Bool.and_true, Bool.or_eq_false_iff, Bool.not_eq_true', Bool.not_eq_false', nList, nTuple, oAdd_int, line, Bool.or_eq_true, Bool.and_eq_true, Bool.not_eq_true]
      refine w_take b5 (by decide) fun d6 S6 d60 d61 s6 => ?_
      have b6 := s6.box b5
      have le6 := s6.le
      try simp -implicitDefEqProofs only [startE, OutS.toOut, sNext, sIf, sAsg, sRet, sRetN, sExpr, sBreak, sCont, sPar, par2, sAug, sRaise, fVar, fC, tyN, isi_NoneType_bool, isi_NoneType_int, isi_NoneType_str, isi_NoneType_tuple, isi_NoneType_list, isi_bool_bool, isi_bool_int, isi_bool_str, isi_bool_tuple, isi_bool_list, isi_int_bool, isi_int_int, isi_int_str, isi_int_tuple, isi_int_list, isi_str_bool, isi_str_int, isi_str_str, isi_str_tuple, isi_str_list, isi_tuple_bool, isi_tuple_int, isi_tuple_str, isi_tuple_tuple, isi_tuple_list, isi_list_bool, isi_list_int, isi_list_str, isi_list_tuple, isi_list_list, fBin, fCall, fNat, fIsi, fTru, fBl, fNotT, fAndT, fOrT, fAndV, fOrV, fNotV, fIf, fTup, fLst, fNeg, aNil, aCons, gNm, gSb, gTpT, gNms, blOf, o2I, n1I, n2I, nLen_eq, oSub, oMod, oDiv, oGt, oGe, oLe, oLt, pw10_4, pw10_6, pw10_9, pw10_12, pw10_18, pw10_20, pw10_30, pw10_40, pw2_32, pw2_63, pw2_64, List.length_cons, List.length_nil, List.map_cons, List.map_nil, List.getElem?_cons_zero, List.getElem?_cons_succ, List.set_cons_zero, List.set_cons_succ, List.replicate, List.cons_append, List.nil_append, List.append_nil, Option.map_some, Option.map_none, id, ite_true, ite_false, if_true, if_false, Nat.zero_add, Nat.reduceAdd, Nat.reduceSub, Nat.reduceLeDiff, Bool.not_true, Bool.not_false, Bool.false_eq_true, reduceIte, reduceCtorEq, Int.reduceLT, Int.reduceLE, Int.reduceEq, Int.reduceNe, Nat.reduceLT, Nat.reduceEqDiff, decide_true, decide_false, Int.reduceAdd, Int.reduceSub, Int.reduceNeg, Int.reducePow, Int.reduceMul, Int.reduceToNat, wp_ok, wp_exc, wp_bad, wp_bind, bind_ok, wp_of, wr_some, wr_ite, of_some, tst_some, and_ok, or_ok, ws_nx, ws_rt, ws_bk, ws_ct, ws_exc, ws_then, wp_ite, ws_ite, decide_eq_true_eq, decide_eq_false_iff_not, true_implies, false_implies, implies_true, not_true_eq_false, not_false_eq_true, true_and, and_true, forall_const, fMeth, isTy_s, isTy_l, Option.isSome_some, and_self, fSlice, pNone, pSome, ws_sFor, fiSeq, fiRng1, fiRng2, wp_fLc, wp_outI_some, wp_rng1, wp_rng2, oEq_int, oNe_int, oEq_str, oNe_str, oEq_bl, oIs_non, oIsNot_non, isNon_non, isNon_int, isNon_bl, isNon_str, isNon_tup, isNon_ref, tru_non, tru_bl, tru_int, tru_tup, lenG_tup, oLt_str, oNotIn_str, oIn_str, seqG_tup, seqG_ref, iSeqG_tup, fiEnumA, iEnumGA_tup, iEnumGA_str, fiZip, Bool.false_or, Bool.true_or, Bool.or_false, Bool.or_true, Bool.false_and, Bool.true_and, Bool.and_false, Bool.and_true, Bool.or_eq_false_iff, Bool.not_eq_true', Bool.not_eq_false', nList, nTuple, oAdd_int, line, Bool.or_eq_true, Bool.and_eq_true, Bool.not_eq_true]
      refine ⟨fun hd6 => ?_, fun hd6 => ?_⟩
      · refine w_odd b6 fun v S7 hv s7 => ?_
        obtain ⟨f1, f2, f3⟩ := fin v S7 (hv.imp fun r xs hr e => ⟨⟨hr.1, by omega⟩, e⟩) (s6.trans s7)
        simp -implicitDefEqProofs only [startE, OutS.toOut, sNext, sIf, sAsg, sRet, sRetN, sExpr, sBreak, sCont, sPar, par2, sAug, sRaise, fVar, fC, tyN, isi_NoneType_bool, isi_NoneType_int, isi_NoneType_str, isi_NoneType_tuple, isi_NoneType_list, isi_bool_bool, isi_bool_int, isi_bool_str, isi_bool_tuple, isi_bool_list, isi_int_bool, isi_int_int, isi_int_str, isi_int_tuple, isi_int_list, isi_str_bool, isi_str_int, isi_str_str, isi_str_tuple, isi_str_list, isi_tuple_bool, isi_tuple_int, isi_tuple_str, isi_tuple_tuple, isi_tuple_list, isi_list_bool, isi_list_int, isi_list_str, isi_list_tuple, isi_list_list, fBin, fCall, fNat, fIsi, fTru, fBl, fNotT, fAndT, fOrT, fAndV, fOrV, fNotV, fIf, fTup, fLst, fNeg, aNil, aCons, gNm, gSb, gTpT, gNms, blOf, o2I, n1I, n2I, nLen_eq, oSub, oMod, oDiv, oGt, oGe, oLe, oLt, pw10_4, pw10_6, pw10_9, pw10_12, pw10_18, pw10_20, pw10_30, pw10_40, pw2_32, pw2_63, pw2_64, List.length_cons, List.length_nil, List.map_cons, List.map_nil, List.getElem?_cons_zero, List.getElem?_cons_succ, List.set_cons_zero, List.set_cons_succ, List.replicate, List.cons_append, List.nil_append, List.append_nil, Option.map_some, Option.map_none, id, ite_true, ite_false, if_true, if_false, Nat.zero_add, Nat.reduceAdd, Nat.reduceSub, Nat.reduceLeDiff, Bool.not_true, Bool.not_false, Bool.false_eq_true, reduceIte, reduceCtorEq, Int.reduceLT, Int.reduceLE, Int.reduceEq, Int.reduceNe, Nat.reduceLT, Nat.reduceEqDiff, decide_true, decide_false, Int.reduceAdd, Int.reduceSub, Int.reduceNeg, Int.reducePow, Int.reduceMul, Int.reduceToNat, wp_ok, wp_exc, wp_bad, wp_bind, bind_ok, wp_of, wr_some, wr_ite, of_some, tst_some, and_ok, or_ok, ws_nx, ws_rt, ws_bk, ws_ct, ws_exc, ws_then, wp_ite, ws_ite, decide_eq_true_eq, decide_eq_false_iff_not, true_implies, false_implies, implies_true, not_true_eq_false, not_false_eq_true, true_and, and_true, forall_const, fMeth, isTy_s, isTy_l, Option.isSome_some, and_self, fSlice, pNone, pSome, ws_sFor, fiSeq, fiRng1, fiRng2, wp_fLc, wp_outI_some, wp_rng1, wp_rng2, oEq_int, oNe_int, oEq_str, oNe_str, oEq_bl, oIs_non, oIsNot_non, isNon_non, isNon_int, isNon_bl, isNon_str, isNon_tup, isNon_ref, tru_non, tru_bl, tru_int, tru_tup, lenG_tup, oLt_str, oNotIn_str, oIn_str, seqG_tup, seqG_ref, iSeqG_tup, fiEnumA, iEnumGA_tup, iEnumGA_str, fiZip, Bool.false_or, Bool.true_or, Bool.or_false, Bool.or_true, Bool.false_and, Bool.true_and, Bool.and_false, Bool.and_true, Bool.or_eq_false_iff, Bool.not_eq_true', Bool.not_eq_false', nList, nTuple, oAdd_int, line, Bool.or_eq_true, Bool.and_eq_true, Bool.not_eq_true, f1]
        exact ⟨⟨_, _, rfl⟩, f2, f3⟩
      · have i6 : oIx (.ref r) (.int 0) S6 = some (.str z, S6) := ix_lst (k := 0) (getL_lst (s6.at hr er5)) hz0
        simp -implicitDefEqProofs only [startE, OutS.toOut, sNext, sIf, sAsg, sRet, sRetN, sExpr, sBreak, sCont, sPar, par2, sAug, sRaise, fVar, fC, tyN, isi_NoneType_bool, isi_NoneType_int, isi_NoneType_str, isi_NoneType_tuple, isi_NoneType_list, isi_bool_bool, isi_bool_int, isi_bool_str, isi_bool_tuple, isi_bool_list, isi_int_bool, isi_int_int, isi_int_str, isi_int_tuple, isi_int_list, isi_str_bool, isi_str_int, isi_str_str, isi_str_tuple, isi_str_list, isi_tuple_bool, isi_tuple_int, isi_tuple_str, isi_tuple_tuple, isi_tuple_list, isi_list_bool, isi_list_int, isi_list_str, isi_list_tuple, isi_list_list, fBin, fCall, fNat, fIsi, fTru, fBl, fNotT, fAndT, fOrT, fAndV, fOrV, fNotV, fIf, fTup, fLst, fNeg, aNil, aCons, gNm, gSb, gTpT, gNms, blOf, o2I, n1I, n2I, nLen_eq, oSub, oMod, oDiv, oGt, oGe, oLe, oLt, pw10_4, pw10_6, pw10_9, pw10_12, pw10_18, pw10_20, pw10_30, pw10_40, pw2_32, pw2_63, pw2_64, List.length_cons, List.length_nil, List.map_cons, List.map_nil, List.getElem?_cons_zero, List.getElem?_cons_succ, List.set_cons_zero, List.set_cons_succ, List.replicate, List.cons_append, List.nil_append, List.append_nil, Option.map_some, Option.map_none, id, ite_true, ite_false, if_true, if_false, Nat.zero_add, Nat.reduceAdd, Nat.reduceSub, Nat.reduceLeDiff, Bool.not_true, Bool.not_false, Bool.false_eq_true, reduceIte, reduceCtorEq, Int.reduceLT, Int.reduceLE, Int.reduceEq, Int.reduceNe, Nat.reduceLT, Nat.reduceEqDiff, decide_true, decide_false, Int.reduceAdd, Int.reduceSub, Int.reduceNeg, Int.reducePow, Int.reduceMul, Int.reduceToNat, wp_ok, wp_exc, wp_bad, wp_bind, bind_ok, wp_of, wr_some, wr_ite, of_some, tst_some, and_ok, or_ok, ws_nx, ws_rt, ws_bk, ws_ct, ws_exc, ws_then, wp_ite, ws_ite, decide_eq_true_eq, decide_eq_false_iff_not, true_implies, false_implies, implies_true, not_true_eq_false, not_false_eq_true, true_and, and_true, forall_const, fMeth, isTy_s, isTy_l, Option.isSome_some, and_self, fSlice, pNone, pSome, ws_sFor, fiSeq, fiRng1, fiRng2, wp_fLc, wp_outI_some, wp_rng1, wp_rng2, oEq_int, oNe_int, oEq_str, oNe_str, oEq_bl, oIs_non, oIsNot_non, isNon_non, isNon_int, isNon_bl, isNon_str, isNon_tup, isNon_ref, tru_non, tru_bl, tru_int, tru_tup, lenG_tup, oLt_str, oNotIn_str, oIn_str, seqG_tup, seqG_ref, iSeqG_tup, fiEnumA, iEnumGA_tup, iEnumGA_str, fiZip, Bool.false_or, Bool.true_or, Bool.or_false, Bool.or_true, Bool.false_and, Bool.true_and, Bool.and_false, Bool.and_true, Bool.or_eq_false_iff, Bool.not_eq_true', Bool.not_eq_false', nList, nTuple, oAdd_int, line, Bool.or_eq_true, Bool.and_eq_true, Bool.not_eq_true, i6]
        refine w_bent b6 hz.2.1 hz.2.2 fun y S7 hy s7 => ?_
        obtain ⟨f1, f2, f3⟩ := fin (.str y) S7 hy (s6.trans s7)
        simp -implicitDefEqProofs only [startE, OutS.toOut, sNext, sIf, sAsg, sRet, sRetN, sExpr, sBreak, sCont, sPar, par2, sAug, sRaise, fVar, fC, tyN, isi_NoneType_bool, isi_NoneType_int, isi_NoneType_str, isi_NoneType_tuple, isi_NoneType_list, isi_bool_bool, isi_bool_int, isi_bool_str, isi_bool_tuple, isi_bool_list, isi_int_bool, isi_int_int, isi_int_str, isi_int_tuple, isi_int_list, isi_str_bool, isi_str_int, isi_str_str, isi_str_tuple, isi_str_list, isi_tuple_bool, isi_tuple_int, isi_tuple_str, isi_tuple_tuple, isi_tuple_list, isi_list_bool, isi_list_int, isi_list_str, isi_list_tuple, isi_list_list, fBin, fCall, fNat, fIsi, fTru, fBl, fNotT, fAndT, fOrT, fAndV, fOrV, fNotV, fIf, fTup, fLst, fNeg, aNil, aCons, gNm, gSb, gTpT, gNms, blOf, o2I, n1I, n2I, nLen_eq, oSub, oMod, oDiv, oGt, oGe, oLe, oLt, pw10_4, pw10_6, pw10_9, pw10_12, pw10_18, pw10_20, pw10_30, pw10_40, pw2_32, pw2_63, pw2_64, List.length_cons, List.length_nil, List.map_cons, List.map_nil, List.getElem?_cons_zero, List.getElem?_cons_succ, List.set_cons_zero, List.set_cons_succ, List.replicate, List.cons_append, List.nil_append, List.append_nil, Option.map_some, Option.map_none, id, ite_true, ite_false, if_true, if_false, Nat.zero_add, Nat.reduceAdd, Nat.reduceSub, Nat.reduceLeDiff, Bool.not_true, Bool.not_false, Bool.false_eq_true, reduceIte, reduceCtorEq, Int.reduceLT, Int.reduceLE, Int.reduceEq, Int.reduceNe, Nat.reduceLT, Nat.reduceEqDiff, decide_true, decide_false, Int.reduceAdd, Int.reduceSub, Int.reduceNeg, Int.reducePow, Int.reduceMul, Int.reduceToNat, wp_ok, wp_exc, wp_bad, wp_bind, bind_ok, wp_of, wr_some, wr_ite, of_some, tst_some, and_ok, or_ok, ws_nx, ws_rt, ws_bk, ws_ct, ws_exc, ws_then, wp_ite, ws_ite, decide_eq_true_eq, decide_eq_false_iff_not, true_implies, false_implies, implies_true, not_true_eq_false, not_false_eq_true, true_and, and_true, forall_const, fMeth, isTy_s, isTy_l, Option.isSome_some, and_self, fSlice, pNone, pSome, ws_sFor, fiSeq, fiRng1, fiRng2, wp_fLc, wp_outI_some, wp_rng1, wp_rng2, oEq_int, oNe_int, oEq_str, oNe_str, oEq_bl, oIs_non, oIsNot_non, isNon_non, isNon_int, isNon_bl, isNon_str, isNon_tup, isNon_ref, tru_non, tru_bl, tru_int, tru_tup, lenG_tup, oLt_str, oNotIn_str, oIn_str, seqG_tup, seqG_ref, iSeqG_tup, fiEnumA, iEnumGA_tup, iEnumGA_str, fiZip, Bool.false_or, Bool.true_or, Bool.or_false, Bool.or_true, Bool.false_and, Bool.true_and, Bool.and_false, Bool.and_true, Bool.or_eq_false_iff, Bool.not_eq_true', Bool.not_eq_false', nList, nTuple, oAdd_int, line, Bool.or_eq_true, Bool.and_eq_true, Bool.not_eq_true, f1]
        exact ⟨⟨_, _, rfl⟩, f2, f3⟩
    · obtain ⟨⟨a, c, rfl⟩, s4, ys, e4, l4, p4⟩ := hI
      simp -implicitDefEqProofs only [startE, OutS.toOut, sNext, sIf, sAsg, sRet, sRetN, sExpr, sBreak, sCont, sPar, par2, sAug, sRaise, fVar, fC, tyN, isi_NoneType_bool, isi_NoneType_int, isi_NoneType_str, isi_NoneType_tuple, isi_NoneType_list, isi_bool_bool, isi_bool_int, isi_bool_str, isi_bool_tuple, isi_bool_list, isi_int_bool, isi_int_int, isi_int_str, isi_int_tuple, isi_int_list, isi_str_bool, isi_str_int, isi_str_str, isi_str_tuple, isi_str_list, isi_tuple_bool, isi_tuple_int, isi_tuple_str, isi_tuple_tuple, isi_tuple_list, isi_list_bool, isi_list_int, isi_list_str, isi_list_tuple, isi_list_list, fBin, fCall, fNat, fIsi, fTru, fBl, fNotT, fAndT, fOrT, fAndV, fOrV, fNotV, fIf, fTup, fLst, fNeg, aNil, aCons, gNm, gSb, gTpT, gNms, blOf, o2I, n1I, n2I, nLen_eq, oSub, oMod, oDiv, oGt, oGe, oLe, oLt, pw10_4, pw10_6, pw10_9, pw10_12, pw10_18, pw10_20, pw10_30, pw10_40, pw2_32, pw2_63, pw2_64, List.length_cons, List.length_nil, List.map_cons, List.map_nil, List.getElem?_cons_zero, List.getElem?_cons_succ, List.set_cons_zero, List.set_cons_succ, List.replicate, List.cons_append, List.nil_append, List.append_nil, Option.map_some, Option.map_none, id, ite_true, ite_false, if_true, if_false, Nat.zero_add, Nat.reduceAdd, Nat.reduceSub, Nat.reduceLeDiff, Bool.not_true, Bool.not_false, Bool.false_eq_true, reduceIte, reduceCtorEq, Int.reduceLT, Int.reduceLE, Int.reduceEq, Int.reduceNe, Nat.reduceLT, Nat.reduceEqDiff, decide_true, decide_false, Int.reduceAdd, Int.reduceSub, Int.reduceNeg, Int.reducePow, Int.reduceMul, Int.reduceToNat, wp_ok, wp_exc, wp_bad, wp_bind, bind_ok, wp_of, wr_some, wr_ite, of_some, tst_some, and_ok, or_ok, ws_nx, ws_rt, ws_bk, ws_ct, ws_exc, ws_then, wp_ite, ws_ite, decide_eq_true_eq, decide_eq_false_iff_not, true_implies, false_implies, implies_true, not_true_eq_false, not_false_eq_true, true_and, and_true, forall_const, fMeth, isTy_s, isTy_l, Option.isSome_some, and_self, fSlice, pNone, pSome, ws_sFor, fiSeq, fiRng1, fiRng2, wp_fLc, wp_outI_some, wp_rng1, wp_rng2, oEq_int, oNe_int, oEq_str, oNe_str, oEq_bl, oIs_non, oIsNot_non, isNon_non, isNon_int, isNon_bl, isNon_str, isNon_tup, isNon_ref, tru_non, tru_bl, tru_int, tru_tup, lenG_tup, oLt_str, oNotIn_str, oIn_str, seqG_tup, seqG_ref, iSeqG_tup, fiEnumA, iEnumGA_tup, iEnumGA_str, fiZip, Bool.false_or, Bool.true_or, Bool.or_false, Bool.or_true, Bool.false_and, Bool.true_and, Bool.and_false, Bool.and_true, Bool.or_eq_false_iff, Bool.not_eq_true', Bool.not_eq_false', nList, nTuple, oAdd_int, line, Bool.or_eq_true, Bool.and_eq_true, Bool.not_eq_true, getL_lst e4]
      exact k _ _ ⟨by omega, fun y hy => (imp (p4 y hy)).mono⟩ (s1.trans s4)
end
end Fl

set_option Elab.async false
set_option linter.all false
set_option maxRecDepth 100000
set_option maxHeartbeats 1000000
namespace Fl
open PySem
theorem iSeqG_end {S : Store} {xs : List T} : iSeqG (S ++ [.lst xs]) (.ref S.length) = some ⟨xs, [(S.length, xs)]⟩ := iSeqG_ref getL_end
theorem wr_mulL {S : Store} {xs : List T} {k : Nat} {Q : T → Store → Prop} (hk : k ≤ 1000) (hl : xs.length ≤ 100) (q : ∀ r S', Kp S S' → S'[r]? = some (.lst (List.replicate k xs).flatten) → Q (.ref r) S') : wr (oMul (.ref S.length) (.int (k : Int)) (S ++ [.lst xs])) Q := by
  have e : oMul (.ref S.length) (.int (k : Int)) (S ++ [.lst xs]) = some (.ref (S ++ [Cell.lst xs]).length, S ++ [Cell.lst xs] ++ [Cell.lst (List.replicate k xs).flatten]) := by
    have h3 : xs.length * k ≤ 100 * 1000 := Nat.mul_le_mul hl hk
    have hc : -(2 ^ 63) ≤ (k : Int) ∧ (k : Int) < 2 ^ 63 ∧ xs.length * (k : Int).toNat ≤ line := ⟨by omega, by omega, by rw [Int.toNat_natCast]; unfold line; omega⟩
    simp only [oMul, show (S ++ [Cell.lst xs])[S.length]? = some (Cell.lst xs) by simp]
    rw [if_pos hc, Int.toNat_natCast]
  rw [e, wr_some]
  exact q _ _ (Kp.push.trans Kp.push) (by simp)
theorem wr_addL {S : Store} {r : Nat} {xs ys : List T} {Q : T → Store → Prop} (hr : S[r]? = some (.lst xs)) (hl : xs.length + ys.length ≤ 1000) (q : ∀ r' S', Kp S S' → S'[r']? = some (.lst (xs ++ ys)) → Q (.ref r') S') : wr (oAdd (.ref r) (.ref S.length) (S ++ [.lst ys])) Q := by
  have hr' : (S ++ [Cell.lst ys])[r]? = some (.lst xs) := by rw [List.getElem?_append_left (lt_of_get hr)]; exact hr
  rw [oAdd_lst hr' (show (S ++ [Cell.lst ys])[S.length]? = some (.lst ys) by simp) (by unfold line; omega), wr_some]
  exact q _ _ (Kp.push.trans Kp.push) (by simp)
theorem strIn_abc {c : Nat} (h : 97 ≤ c ∧ c ≤ 122) : strIn ⟨#[c]⟩ abc = true := by
  have k := occ_all ⟨c - 97, by omega⟩
  have e : 97 + (c - 97) = c := by omega
  simp only [e] at k
  unfold strIn
  rw [k]
  rfl
theorem scan_good : ∀ (cs : List Nat) (i : Nat), (∀ c ∈ cs, 97 ≤ c ∧ c ≤ 122) → i + cs.length ≤ 8 → scanS i cs = none
  | [], _, _, _ => rfl
  | c :: cs, i, h, l => by
    rw [List.length_cons] at l
    rw [scanS, if_neg (by rw [strIn_abc (h c List.mem_cons_self)]; simp; omega)]
    exact scan_good cs (i + 1) (fun d hd => h d (List.mem_cons_of_mem _ hd)) (by omega)
theorem lf_good {z : Str} (az : AZ z) (h1 : 1 ≤ z.length) (h2 : z.length ≤ 8) : lf (.str z) = .non := by
  rw [len_list] at h1 h2
  rw [lf_str (by omega), scan_good _ _ az (by omega)]
  rfl
theorem nh_good : ∀ (xs : List T) (i : Nat), (∀ x ∈ xs, LabT x) → i + xs.length ≤ 6 → firstHit nh i xs = none
  | [], _, _, _ => rfl
  | x :: xs, i, h, l => by
    rw [List.length_cons] at l
    obtain ⟨z, rfl, az, h1, h2⟩ := h x List.mem_cons_self
    rw [firstHit, show nh i (.str z) = none by unfold nh; rw [lf_good az h1 h2]; exact if_neg (by simp [isNon]; omega)]
    exact nh_good xs (i + 1) (fun d hd => h d (List.mem_cons_of_mem _ hd)) (by omega)
theorem nf_good {xs : List T} (h : ∀ x ∈ xs, LabT x) (h1 : 1 ≤ xs.length) (h2 : xs.length ≤ 6) : nf (.tup xs) = .non := by
  show (if xs.length = 0 then T.int (-1) else (firstHit nh 0 xs).getD .non) = _
  rw [if_neg (by omega), nh_good xs 0 h (by omega)]
  rfl
theorem slice_lst {S : Store} {r k : Nat} {xs : List T} (h : getL S r = some xs) : sliceG S (.ref r) none (some (k : Int)) = some (.ref S.length, S ++ [.lst (xs.take k)]) := by
  have e : cutT xs none (some (k : Int)) = xs.take k := by
    unfold cutT
    rw [HT.sIx_nat, HT.sIx_none, Nat.sub_zero, List.drop_zero, List.take_eq_take_iff]
    omega
  show (match getL S r with
    | some c => some (T.ref S.length, S ++ [Cell.lst (cutT c none (some (k : Int)))])
    | none => none) = _
  rw [h, ← e]
theorem law_true (ns : List Int) (cell : Cell) (h1 : ns.length ≤ 63) (h2 : ∀ z ∈ ns, Builtin.Int.intBits z ≤ 1048576) (hc : cell = .lst (ns.map T.int) ∨ cell = .rol (ns.map T.int)) : ∃ S', g_law [.ref 0] [cell] = .ok (.bl true) S' := by
  have h0 : getL [cell] 0 = some (ns.map T.int) := by
    rcases hc with rfl | rfl <;> rfl
  obtain ⟨S0, q0⟩ : ∃ S0, S0 = [cell] := ⟨_, rfl⟩
  rw [← q0] at h0 ⊢
  suffices h : wp (g_law [.ref 0] S0) (fun v _ => v = .bl true) no2 by
    obtain ⟨a, S', e, rfl⟩ := ex_of_wp h
    exact ⟨S', e⟩
  have l0 : S0.length = 1 := by rw [q0]; rfl
  unfold g_law
  refine wp_def rfl ?_
  unfold g_law_b
  simp only [startE, List.map_cons, List.map_nil, List.length_cons, List.length_nil, List.replicate, List.cons_append, List.nil_append, Nat.reduceAdd, Nat.reduceSub, Nat.zero_add]
  refine ws_seq ?_
  simp -implicitDefEqProofs only [startE, OutS.toOut, sNext, sIf, sAsg, sRet, sRetN, sExpr, sBreak, sCont, sPar, par2, sAug, sRaise, fVar, fC, tyN, isi_NoneType_bool, isi_NoneType_int, isi_NoneType_str, isi_NoneType_tuple, isi_NoneType_list, isi_bool_bool, isi_bool_int, isi_bool_str, isi_bool_tuple, isi_bool_list, isi_int_bool, isi_int_int, isi_int_str, isi_int_tuple, isi_int_list, isi_str_bool, isi_str_int, isi_str_str, isi_str_tuple, isi_str_list, isi_tuple_bool, isi_tuple_int, isi_tuple_str, isi_tuple_tuple, isi_tuple_list, isi_list_bool, isi_list_int, isi_list_str, isi_list_tuple, isi_list_list, fBin, fCall, fNat, fIsi, fTru, fBl, fNotT, fAndT, fOrT, fAndV, fOrV, fNotV, fIf, fTup, fLst, fNeg, aNil, aCons, gNm, gSb, gTpT, gNms, blOf, o2I, n1I, n2I, nLen_eq, oSub, oMod, oDiv, oGt, oGe, oLe, oLt, pw10_4, pw10_6, pw10_9, pw10_12, pw10_18, pw10_20, pw10_30, pw10_40, pw2_32, pw2_63, pw2_64, List.length_cons, List.length_nil, List.map_cons, List.map_nil, List.getElem?_cons_zero, List.getElem?_cons_succ, List.set_cons_zero, List.set_cons_succ, List.replicate, List.cons_append, List.nil_append, List.append_nil, Option.map_some, Option.map_none, id, ite_true, ite_false, if_true, if_false, Nat.zero_add, Nat.reduceAdd, Nat.reduceSub, Nat.reduceLeDiff, Bool.not_true, Bool.not_false, Bool.false_eq_true, reduceIte, reduceCtorEq, Int.reduceLT, Int.reduceLE, Int.reduceEq, Int.reduceNe, Nat.reduceLT, Nat.reduceEqDiff, decide_true, decide_false, Int.reduceAdd, Int.reduceSub, Int.reduceNeg, Int.reducePow, Int.reduceMul, Int.reduceToNat, wp_ok, wp_exc, wp_bad, wp_bind, bind_ok, wp_of, wr_some, wr_ite, of_some, tst_some, and_ok, or_ok, ws_nx, ws_rt, ws_bk, ws_ct, ws_exc, ws_then, wp_ite, ws_ite, decide_eq_true_eq, decide_eq_false_iff_not, true_implies, false_implies, implies_true, not_true_eq_false, not_false_eq_true, true_and, and_true, forall_const, fMeth, isTy_s, isTy_l, Option.isSome_some, and_self, fSlice, pNone, pSome, ws_sFor, fiSeq, fiRng1, fiRng2, wp_fLc, wp_outI_some, wp_rng1, wp_rng2, oEq_int, oNe_int, oEq_str, oNe_str, oEq_bl, oIs_non, oIsNot_non, isNon_non, isNon_int, isNon_bl, isNon_str, isNon_tup, isNon_ref, tru_non, tru_bl, tru_int, tru_tup, lenG_tup, oLt_str, oNotIn_str, oIn_str, seqG_tup, seqG_ref, iSeqG_tup, fiEnumA, iEnumGA_tup, iEnumGA_str, fiZip, Bool.false_or, Bool.true_or, Bool.or_false, Bool.or_true, Bool.false_and, Bool.true_and, Bool.and_false, Bool.and_true, Bool.or_eq_false_iff, Bool.not_eq_true', Bool.not_eq_false', nList, nTuple, oAdd_int, line, Bool.or_eq_true, Bool.and_eq_true, Bool.not_eq_true, iSeqG_end]
  obtain ⟨S1, q1⟩ : ∃ S1, S1 = S0 ++ [Cell.lst [T.str (Str.ofString "a"), T.str (Str.ofString "z"), T.str (Str.ofString "abcdefgh"), T.str (Str.ofString "abcdefghi"), T.str (Str.ofString "zzzzzzzzz"), T.str (Str.ofString ""), T.str (Str.ofString "abcdefgh-"), T.str (Str.ofString "abcdefg-i"), T.str (Str.ofString "A")]] := ⟨_, rfl⟩
  have s1 : Kp S0 S1 := by rw [q1]; exact Kp.push
  rw [← q1]
  refine wl_all (fun ρ S' => (∃ a, ρ = [some (.ref 0), a, none, none, none, none, none]) ∧ Kp S1 S') ⟨⟨none, rfl⟩, fun _ _ h => h⟩ (fun ρ S' hI => chk_one (hI.2 _ _ (by rw [q1]; exact getL_end))) (fun w hw ρ S' hI => ?_) fun ρ S2 hI => ?_
  · obtain ⟨⟨a, rfl⟩, s2⟩ := hI
    obtain ⟨z, rfl, hz⟩ := strs_of hw (p := fun z => decide (z.length ≤ 1000)) (by decide +kernel)
    have hm : ∀ {S : Store} {n : Nat}, MvP (fun _ => True) S (n + 1) (.str z) := fun {S n} => (of_decide_eq_true hz : z.length ≤ 1000)
    try simp -implicitDefEqProofs only [startE, OutS.toOut, sNext, sIf, sAsg, sRet, sRetN, sExpr, sBreak, sCont, sPar, par2, sAug, sRaise, fVar, fC, tyN, isi_NoneType_bool, isi_NoneType_int, isi_NoneType_str, isi_NoneType_tuple, isi_NoneType_list, isi_bool_bool, isi_bool_int, isi_bool_str, isi_bool_tuple, isi_bool_list, isi_int_bool, isi_int_int, isi_int_str, isi_int_tuple, isi_int_list, isi_str_bool, isi_str_int, isi_str_str, isi_str_tuple, isi_str_list, isi_tuple_bool, isi_tuple_int, isi_tuple_str, isi_tuple_tuple, isi_tuple_list, isi_list_bool, isi_list_int, isi_list_str, isi_list_tuple, isi_list_list, fBin, fCall, fNat, fIsi, fTru, fBl, fNotT, fAndT, fOrT, fAndV, fOrV, fNotV, fIf, fTup, fLst, fNeg, aNil, aCons, gNm, gSb, gTpT, gNms, blOf, o2I, n1I, n2I, nLen_eq, oSub, oMod, oDiv, oGt, oGe, oLe, oLt, pw10_4, pw10_6, pw10_9, pw10_12, pw10_18, pw10_20, pw10_30, pw10_40, pw2_32, pw2_63, pw2_64, List.length_cons, List.length_nil, List.map_cons, List.map_nil, List.getElem?_cons_zero, List.getElem?_cons_succ, List.set_cons_zero, List.set_cons_succ, List.replicate, List.cons_append, List.nil_append, List.append_nil, Option.map_some, Option.map_none, id, ite_true, ite_false, if_true, if_false, Nat.zero_add, Nat.reduceAdd, Nat.reduceSub, Nat.reduceLeDiff, Bool.not_true, Bool.not_false, Bool.false_eq_true, reduceIte, reduceCtorEq, Int.reduceLT, Int.reduceLE, Int.reduceEq, Int.reduceNe, Nat.reduceLT, Nat.reduceEqDiff, decide_true, decide_false, Int.reduceAdd, Int.reduceSub, Int.reduceNeg, Int.reducePow, Int.reduceMul, Int.reduceToNat, wp_ok, wp_exc, wp_bad, wp_bind, bind_ok, wp_of, wr_some, wr_ite, of_some, tst_some, and_ok, or_ok, ws_nx, ws_rt, ws_bk, ws_ct, ws_exc, ws_then, wp_ite, ws_ite, decide_eq_true_eq, decide_eq_false_iff_not, true_implies, false_implies, implies_true, not_true_eq_false, not_false_eq_true, true_and, and_true, forall_const, fMeth, isTy_s, isTy_l, Option.isSome_some, and_self, fSlice, pNone, pSome, ws_sFor, fiSeq, fiRng1, fiRng2, wp_fLc, wp_outI_some, wp_rng1, wp_rng2, oEq_int, oNe_int, oEq_str, oNe_str, oEq_bl, oIs_non, oIsNot_non, isNon_non, isNon_int, isNon_bl, isNon_str, isNon_tup, isNon_ref, tru_non, tru_bl, tru_int, tru_tup, lenG_tup, oLt_str, oNotIn_str, oIn_str, seqG_tup, seqG_ref, iSeqG_tup, fiEnumA, iEnumGA_tup, iEnumGA_str, fiZip, Bool.false_or, Bool.true_or, Bool.or_false, Bool.or_true, Bool.false_and, Bool.true_and, Bool.and_false, Bool.and_true, Bool.or_eq_false_iff, Bool.not_eq_true', Bool.not_eq_false', nList, nTuple, oAdd_int, line, Bool.or_eq_true, Bool.and_eq_true, Bool.not_eq_true]
    refine w_label_right hm ?_
    try simp -implicitDefEqProofs only [startE, OutS.toOut, sNext, sIf, sAsg, sRet, sRetN, sExpr, sBreak, sCont, sPar, par2, sAug, sRaise, fVar, fC, tyN, isi_NoneType_bool, isi_NoneType_int, isi_NoneType_str, isi_NoneType_tuple, isi_NoneType_list, isi_bool_bool, isi_bool_int, isi_bool_str, isi_bool_tuple, isi_bool_list, isi_int_bool, isi_int_int, isi_int_str, isi_int_tuple, isi_int_list, isi_str_bool, isi_str_int, isi_str_str, isi_str_tuple, isi_str_list, isi_tuple_bool, isi_tuple_int, isi_tuple_str, isi_tuple_tuple, isi_tuple_list, isi_list_bool, isi_list_int, isi_list_str, isi_list_tuple, isi_list_list, fBin, fCall, fNat, fIsi, fTru, fBl, fNotT, fAndT, fOrT, fAndV, fOrV, fNotV, fIf, fTup, fLst, fNeg, aNil, aCons, gNm, gSb, gTpT, gNms, blOf, o2I, n1I, n2I, nLen_eq, oSub, oMod, oDiv, oGt, oGe, oLe, oLt, pw10_4, pw10_6, pw10_9, pw10_12, pw10_18, pw10_20, pw10_30, pw10_40, pw2_32, pw2_63, pw2_64, List.length_cons, List.length_nil, List.map_cons, List.map_nil, List.getElem?_cons_zero, List.getElem?_cons_succ, List.set_cons_zero, List.set_cons_succ, List.replicate, List.cons_append, List.nil_append, List.append_nil, Option.map_some, Option.map_none, id, ite_true, ite_false, if_true, if_false, Nat.zero_add, Nat.reduceAdd, Nat.reduceSub, Nat.reduceLeDiff, Bool.not_true, Bool.not_false, Bool.false_eq_true, reduceIte, reduceCtorEq, Int.reduceLT, Int.reduceLE, Int.reduceEq, Int.reduceNe, Nat.reduceLT, Nat.reduceEqDiff, decide_true, decide_false, Int.reduceAdd, Int.reduceSub, Int.reduceNeg, Int.reducePow, Int.reduceMul, Int.reduceToNat, wp_ok, wp_exc, wp_bad, wp_bind, bind_ok, wp_of, wr_some, wr_ite, of_some, tst_some, and_ok, or_ok, ws_nx, ws_rt, ws_bk, ws_ct, ws_exc, ws_then, wp_ite, ws_ite, decide_eq_true_eq, decide_eq_false_iff_not, true_implies, false_implies, implies_true, not_true_eq_false, not_false_eq_true, true_and, and_true, forall_const, fMeth, isTy_s, isTy_l, Option.isSome_some, and_self, fSlice, pNone, pSome, ws_sFor, fiSeq, fiRng1, fiRng2, wp_fLc, wp_outI_some, wp_rng1, wp_rng2, oEq_int, oNe_int, oEq_str, oNe_str, oEq_bl, oIs_non, oIsNot_non, isNon_non, isNon_int, isNon_bl, isNon_str, isNon_tup, isNon_ref, tru_non, tru_bl, tru_int, tru_tup, lenG_tup, oLt_str, oNotIn_str, oIn_str, seqG_tup, seqG_ref, iSeqG_tup, fiEnumA, iEnumGA_tup, iEnumGA_str, fiZip, Bool.false_or, Bool.true_or, Bool.or_false, Bool.or_true, Bool.false_and, Bool.true_and, Bool.and_false, Bool.and_true, Bool.or_eq_false_iff, Bool.not_eq_true', Bool.not_eq_false', nList, nTuple, oAdd_int, line, Bool.or_eq_true, Bool.and_eq_true, Bool.not_eq_true]
    refine w_name_right (p := fun _ => True) ⟨by simp, fun x hx => by rw [List.mem_singleton.mp hx]; exact hm⟩ ?_
    try simp -implicitDefEqProofs only [startE, OutS.toOut, sNext, sIf, sAsg, sRet, sRetN, sExpr, sBreak, sCont, sPar, par2, sAug, sRaise, fVar, fC, tyN, isi_NoneType_bool, isi_NoneType_int, isi_NoneType_str, isi_NoneType_tuple, isi_NoneType_list, isi_bool_bool, isi_bool_int, isi_bool_str, isi_bool_tuple, isi_bool_list, isi_int_bool, isi_int_int, isi_int_str, isi_int_tuple, isi_int_list, isi_str_bool, isi_str_int, isi_str_str, isi_str_tuple, isi_str_list, isi_tuple_bool, isi_tuple_int, isi_tuple_str, isi_tuple_tuple, isi_tuple_list, isi_list_bool, isi_list_int, isi_list_str, isi_list_tuple, isi_list_list, fBin, fCall, fNat, fIsi, fTru, fBl, fNotT, fAndT, fOrT, fAndV, fOrV, fNotV, fIf, fTup, fLst, fNeg, aNil, aCons, gNm, gSb, gTpT, gNms, blOf, o2I, n1I, n2I, nLen_eq, oSub, oMod, oDiv, oGt, oGe, oLe, oLt, pw10_4, pw10_6, pw10_9, pw10_12, pw10_18, pw10_20, pw10_30, pw10_40, pw2_32, pw2_63, pw2_64, List.length_cons, List.length_nil, List.map_cons, List.map_nil, List.getElem?_cons_zero, List.getElem?_cons_succ, List.set_cons_zero, List.set_cons_succ, List.replicate, List.cons_append, List.nil_append, List.append_nil, Option.map_some, Option.map_none, id, ite_true, ite_false, if_true, if_false, Nat.zero_add, Nat.reduceAdd, Nat.reduceSub, Nat.reduceLeDiff, Bool.not_true, Bool.not_false, Bool.false_eq_true, reduceIte, reduceCtorEq, Int.reduceLT, Int.reduceLE, Int.reduceEq, Int.reduceNe, Nat.reduceLT, Nat.reduceEqDiff, decide_true, decide_false, Int.reduceAdd, Int.reduceSub, Int.reduceNeg, Int.reducePow, Int.reduceMul, Int.reduceToNat, wp_ok, wp_exc, wp_bad, wp_bind, bind_ok, wp_of, wr_some, wr_ite, of_some, tst_some, and_ok, or_ok, ws_nx, ws_rt, ws_bk, ws_ct, ws_exc, ws_then, wp_ite, ws_ite, decide_eq_true_eq, decide_eq_false_iff_not, true_implies, false_implies, implies_true, not_true_eq_false, not_false_eq_true, true_and, and_true, forall_const, fMeth, isTy_s, isTy_l, Option.isSome_some, and_self, fSlice, pNone, pSome, ws_sFor, fiSeq, fiRng1, fiRng2, wp_fLc, wp_outI_some, wp_rng1, wp_rng2, oEq_int, oNe_int, oEq_str, oNe_str, oEq_bl, oIs_non, oIsNot_non, isNon_non, isNon_int, isNon_bl, isNon_str, isNon_tup, isNon_ref, tru_non, tru_bl, tru_int, tru_tup, lenG_tup, oLt_str, oNotIn_str, oIn_str, seqG_tup, seqG_ref, iSeqG_tup, fiEnumA, iEnumGA_tup, iEnumGA_str, fiZip, Bool.false_or, Bool.true_or, Bool.or_false, Bool.or_true, Bool.false_and, Bool.true_and, Bool.and_false, Bool.and_true, Bool.or_eq_false_iff, Bool.not_eq_true', Bool.not_eq_false', nList, nTuple, oAdd_int, line, Bool.or_eq_true, Bool.and_eq_true, Bool.not_eq_true]
    refine w_name_right hm ?_
    simp -implicitDefEqProofs only [startE, OutS.toOut, sNext, sIf, sAsg, sRet, sRetN, sExpr, sBreak, sCont, sPar, par2, sAug, sRaise, fVar, fC, tyN, isi_NoneType_bool, isi_NoneType_int, isi_NoneType_str, isi_NoneType_tuple, isi_NoneType_list, isi_bool_bool, isi_bool_int, isi_bool_str, isi_bool_tuple, isi_bool_list, isi_int_bool, isi_int_int, isi_int_str, isi_int_tuple, isi_int_list, isi_str_bool, isi_str_int, isi_str_str, isi_str_tuple, isi_str_list, isi_tuple_bool, isi_tuple_int, isi_tuple_str, isi_tuple_tuple, isi_tuple_list, isi_list_bool, isi_list_int, isi_list_str, isi_list_tuple, isi_list_list, fBin, fCall, fNat, fIsi, fTru, fBl, fNotT, fAndT, fOrT, fAndV, fOrV, fNotV, fIf, fTup, fLst, fNeg, aNil, aCons, gNm, gSb, gTpT, gNms, blOf, o2I, n1I, n2I, nLen_eq, oSub, oMod, oDiv, oGt, oGe, oLe, oLt, pw10_4, pw10_6, pw10_9, pw10_12, pw10_18, pw10_20, pw10_30, pw10_40, pw2_32, pw2_63, pw2_64, List.length_cons, List.length_nil, List.map_cons, List.map_nil, List.getElem?_cons_zero, List.getElem?_cons_succ, List.set_cons_zero, List.set_cons_succ, List.replicate, List.cons_append, List.nil_append, List.append_nil, Option.map_some, Option.map_none, id, ite_true, ite_false, if_true, if_false, Nat.zero_add, Nat.reduceAdd, Nat.reduceSub, Nat.reduceLeDiff, Bool.not_true, Bool.not_false, Bool.false_eq_true, reduceIte, reduceCtorEq, Int.reduceLT, Int.reduceLE, Int.reduceEq, Int.reduceNe, Nat.reduceLT, Nat.reduceEqDiff, decide_true, decide_false, Int.reduceAdd, Int.reduceSub, Int.reduceNeg, Int.reducePow, Int.reduceMul, Int.reduceToNat, wp_ok, wp_exc, wp_bad, wp_bind, bind_ok, wp_of, wr_some, wr_ite, of_some, tst_some, and_ok, or_ok, ws_nx, ws_rt, ws_bk, ws_ct, ws_exc, ws_then, wp_ite, ws_ite, decide_eq_true_eq, decide_eq_false_iff_not, true_implies, false_implies, implies_true, not_true_eq_false, not_false_eq_true, true_and, and_true, forall_const, fMeth, isTy_s, isTy_l, Option.isSome_some, and_self, fSlice, pNone, pSome, ws_sFor, fiSeq, fiRng1, fiRng2, wp_fLc, wp_outI_some, wp_rng1, wp_rng2, oEq_int, oNe_int, oEq_str, oNe_str, oEq_bl, oIs_non, oIsNot_non, isNon_non, isNon_int, isNon_bl, isNon_str, isNon_tup, isNon_ref, tru_non, tru_bl, tru_int, tru_tup, lenG_tup, oLt_str, oNotIn_str, oIn_str, seqG_tup, seqG_ref, iSeqG_tup, fiEnumA, iEnumGA_tup, iEnumGA_str, fiZip, Bool.false_or, Bool.true_or, Bool.or_false, Bool.or_true, Bool.false_and, Bool.true_and, Bool.and_false, Bool.and_true, Bool.or_eq_false_iff, Bool.not_eq_true', Bool.not_eq_false', nList, nTuple, oAdd_int, line, Bool.or_eq_true, Bool.and_eq_true, Bool.not_eq_true]
    exact ⟨⟨_, rfl⟩, s2.trans (Kp.push.trans (Kp.push.trans Kp.push))⟩
  · obtain ⟨⟨a, rfl⟩, s2⟩ := hI
    have g2 := (s1.trans s2) _ _ h0
    try simp -implicitDefEqProofs only [startE, OutS.toOut, sNext, sIf, sAsg, sRet, sRetN, sExpr, sBreak, sCont, sPar, par2, sAug, sRaise, fVar, fC, tyN, isi_NoneType_bool, isi_NoneType_int, isi_NoneType_str, isi_NoneType_tuple, isi_NoneType_list, isi_bool_bool, isi_bool_int, isi_bool_str, isi_bool_tuple, isi_bool_list, isi_int_bool, isi_int_int, isi_int_str, isi_int_tuple, isi_int_list, isi_str_bool, isi_str_int, isi_str_str, isi_str_tuple, isi_str_list, isi_tuple_bool, isi_tuple_int, isi_tuple_str, isi_tuple_tuple, isi_tuple_list, isi_list_bool, isi_list_int, isi_list_str, isi_list_tuple, isi_list_list, fBin, fCall, fNat, fIsi, fTru, fBl, fNotT, fAndT, fOrT, fAndV, fOrV, fNotV, fIf, fTup, fLst, fNeg, aNil, aCons, gNm, gSb, gTpT, gNms, blOf, o2I, n1I, n2I, nLen_eq, oSub, oMod, oDiv, oGt, oGe, oLe, oLt, pw10_4, pw10_6, pw10_9, pw10_12, pw10_18, pw10_20, pw10_30, pw10_40, pw2_32, pw2_63, pw2_64, List.length_cons, List.length_nil, List.map_cons, List.map_nil, List.getElem?_cons_zero, List.getElem?_cons_succ, List.set_cons_zero, List.set_cons_succ, List.replicate, List.cons_append, List.nil_append, List.append_nil, Option.map_some, Option.map_none, id, ite_true, ite_false, if_true, if_false, Nat.zero_add, Nat.reduceAdd, Nat.reduceSub, Nat.reduceLeDiff, Bool.not_true, Bool.not_false, Bool.false_eq_true, reduceIte, reduceCtorEq, Int.reduceLT, Int.reduceLE, Int.reduceEq, Int.reduceNe, Nat.reduceLT, Nat.reduceEqDiff, decide_true, decide_false, Int.reduceAdd, Int.reduceSub, Int.reduceNeg, Int.reducePow, Int.reduceMul, Int.reduceToNat, wp_ok, wp_exc, wp_bad, wp_bind, bind_ok, wp_of, wr_some, wr_ite, of_some, tst_some, and_ok, or_ok, ws_nx, ws_rt, ws_bk, ws_ct, ws_exc, ws_then, wp_ite, ws_ite, decide_eq_true_eq, decide_eq_false_iff_not, true_implies, false_implies, implies_true, not_true_eq_false, not_false_eq_true, true_and, and_true, forall_const, fMeth, isTy_s, isTy_l, Option.isSome_some, and_self, fSlice, pNone, pSome, ws_sFor, fiSeq, fiRng1, fiRng2, wp_fLc, wp_outI_some, wp_rng1, wp_rng2, oEq_int, oNe_int, oEq_str, oNe_str, oEq_bl, oIs_non, oIsNot_non, isNon_non, isNon_int, isNon_bl, isNon_str, isNon_tup, isNon_ref, tru_non, tru_bl, tru_int, tru_tup, lenG_tup, oLt_str, oNotIn_str, oIn_str, seqG_tup, seqG_ref, iSeqG_tup, fiEnumA, iEnumGA_tup, iEnumGA_str, fiZip, Bool.false_or, Bool.true_or, Bool.or_false, Bool.or_true, Bool.false_and, Bool.true_and, Bool.and_false, Bool.and_true, Bool.or_eq_false_iff, Bool.not_eq_true', Bool.not_eq_false', nList, nTuple, oAdd_int, line, Bool.or_eq_true, Bool.and_eq_true, Bool.not_eq_true]
    refine ws_seq ?_
    try simp -implicitDefEqProofs only [startE, OutS.toOut, sNext, sIf, sAsg, sRet, sRetN, sExpr, sBreak, sCont, sPar, par2, sAug, sRaise, fVar, fC, tyN, isi_NoneType_bool, isi_NoneType_int, isi_NoneType_str, isi_NoneType_tuple, isi_NoneType_list, isi_bool_bool, isi_bool_int, isi_bool_str, isi_bool_tuple, isi_bool_list, isi_int_bool, isi_int_int, isi_int_str, isi_int_tuple, isi_int_list, isi_str_bool, isi_str_int, isi_str_str, isi_str_tuple, isi_str_list, isi_tuple_bool, isi_tuple_int, isi_tuple_str, isi_tuple_tuple, isi_tuple_list, isi_list_bool, isi_list_int, isi_list_str, isi_list_tuple, isi_list_list, fBin, fCall, fNat, fIsi, fTru, fBl, fNotT, fAndT, fOrT, fAndV, fOrV, fNotV, fIf, fTup, fLst, fNeg, aNil, aCons, gNm, gSb, gTpT, gNms, blOf, o2I, n1I, n2I, nLen_eq, oSub, oMod, oDiv, oGt, oGe, oLe, oLt, pw10_4, pw10_6, pw10_9, pw10_12, pw10_18, pw10_20, pw10_30, pw10_40, pw2_32, pw2_63, pw2_64, List.length_cons, List.length_nil, List.map_cons, List.map_nil, List.getElem?_cons_zero, List.getElem?_cons_succ, List.set_cons_zero, List.set_cons_succ, List.replicate, List.cons_append, List.nil_append, List.append_nil, Option.map_some, Option.map_none, id, ite_true, ite_false, if_true, if_false, Nat.zero_add, Nat.reduceAdd, Nat.reduceSub, Nat.reduceLeDiff, Bool.not_true, Bool.not_false, Bool.false_eq_true, reduceIte, reduceCtorEq, Int.reduceLT, Int.reduceLE, Int.reduceEq, Int.reduceNe, Nat.reduceLT, Nat.reduceEqDiff, decide_true, decide_false, Int.reduceAdd, Int.reduceSub, Int.reduceNeg, Int.reducePow, Int.reduceMul, Int.reduceToNat, wp_ok, wp_exc, wp_bad, wp_bind, bind_ok, wp_of, wr_some, wr_ite, of_some, tst_some, and_ok, or_ok, ws_nx, ws_rt, ws_bk, ws_ct, ws_exc, ws_then, wp_ite, ws_ite, decide_eq_true_eq, decide_eq_false_iff_not, true_implies, false_implies, implies_true, not_true_eq_false, not_false_eq_true, true_and, and_true, forall_const, fMeth, isTy_s, isTy_l, Option.isSome_some, and_self, fSlice, pNone, pSome, ws_sFor, fiSeq, fiRng1, fiRng2, wp_fLc, wp_outI_some, wp_rng1, wp_rng2, oEq_int, oNe_int, oEq_str, oNe_str, oEq_bl, oIs_non, oIsNot_non, isNon_non, isNon_int, isNon_bl, isNon_str, isNon_tup, isNon_ref, tru_non, tru_bl, tru_int, tru_tup, lenG_tup, oLt_str, oNotIn_str, oIn_str, seqG_tup, seqG_ref, iSeqG_tup, fiEnumA, iEnumGA_tup, iEnumGA_str, fiZip, Bool.false_or, Bool.true_or, Bool.or_false, Bool.or_true, Bool.false_and, Bool.true_and, Bool.and_false, Bool.and_true, Bool.or_eq_false_iff, Bool.not_eq_true', Bool.not_eq_false', nList, nTuple, oAdd_int, line, Bool.or_eq_true, Bool.and_eq_true, Bool.not_eq_true]
    refine wr_mulL (k := 6) (by decide) (by decide) fun r1 S3 s3 g3 => ?_
    refine wr_mulL (k := 7) (by decide) (by decide) fun r2 S4 s4 g4 => ?_
    refine wr_mulL (k := 8) (by decide) (by decide) fun r3 S5 s5 g5 => ?_
    refine wr_mulL (k := 5) (by decide) (by decide) fun r4 S6 s6 g6 => ?_
    refine wr_addL g6 (by decide) fun r5 S7 s7 g7 => ?_
    refine wr_mulL (k := 6) (by decide) (by decide) fun r6 S8 s8 g8 => ?_
    refine wr_addL g8 (by decide) fun r7 S9 s9 g9 => ?_
    refine wr_mulL (k := 5) (by decide) (by decide) fun r8 S10 s10 g10 => ?_
    refine wr_addL g10 (by decide) fun r9 S11 s11 g11 => ?_
    refine wr_mulL (k := 6) (by decide) (by decide) fun r10 S12 s12 g12 => ?_
    simp -implicitDefEqProofs only [startE, OutS.toOut, sNext, sIf, sAsg, sRet, sRetN, sExpr, sBreak, sCont, sPar, par2, sAug, sRaise, fVar, fC, tyN, isi_NoneType_bool, isi_NoneType_int, isi_NoneType_str, isi_NoneType_tuple, isi_NoneType_list, isi_bool_bool, isi_bool_int, isi_bool_str, isi_bool_tuple, isi_bool_list, isi_int_bool, isi_int_int, isi_int_str, isi_int_tuple, isi_int_list, isi_str_bool, isi_str_int, isi_str_str, isi_str_tuple, isi_str_list, isi_tuple_bool, isi_tuple_int, isi_tuple_str, isi_tuple_tuple, isi_tuple_list, isi_list_bool, isi_list_int, isi_list_str, isi_list_tuple, isi_list_list, fBin, fCall, fNat, fIsi, fTru, fBl, fNotT, fAndT, fOrT, fAndV, fOrV, fNotV, fIf, fTup, fLst, fNeg, aNil, aCons, gNm, gSb, gTpT, gNms, blOf, o2I, n1I, n2I, nLen_eq, oSub, oMod, oDiv, oGt, oGe, oLe, oLt, pw10_4, pw10_6, pw10_9, pw10_12, pw10_18, pw10_20, pw10_30, pw10_40, pw2_32, pw2_63, pw2_64, List.length_cons, List.length_nil, List.map_cons, List.map_nil, List.getElem?_cons_zero, List.getElem?_cons_succ, List.set_cons_zero, List.set_cons_succ, List.replicate, List.cons_append, List.nil_append, List.append_nil, Option.map_some, Option.map_none, id, ite_true, ite_false, if_true, if_false, Nat.zero_add, Nat.reduceAdd, Nat.reduceSub, Nat.reduceLeDiff, Bool.not_true, Bool.not_false, Bool.false_eq_true, reduceIte, reduceCtorEq, Int.reduceLT, Int.reduceLE, Int.reduceEq, Int.reduceNe, Nat.reduceLT, Nat.reduceEqDiff, decide_true, decide_false, Int.reduceAdd, Int.reduceSub, Int.reduceNeg, Int.reducePow, Int.reduceMul, Int.reduceToNat, wp_ok, wp_exc, wp_bad, wp_bind, bind_ok, wp_of, wr_some, wr_ite, of_some, tst_some, and_ok, or_ok, ws_nx, ws_rt, ws_bk, ws_ct, ws_exc, ws_then, wp_ite, ws_ite, decide_eq_true_eq, decide_eq_false_iff_not, true_implies, false_implies, implies_true, not_true_eq_false, not_false_eq_true, true_and, and_true, forall_const, fMeth, isTy_s, isTy_l, Option.isSome_some, and_self, fSlice, pNone, pSome, ws_sFor, fiSeq, fiRng1, fiRng2, wp_fLc, wp_outI_some, wp_rng1, wp_rng2, oEq_int, oNe_int, oEq_str, oNe_str, oEq_bl, oIs_non, oIsNot_non, isNon_non, isNon_int, isNon_bl, isNon_str, isNon_tup, isNon_ref, tru_non, tru_bl, tru_int, tru_tup, lenG_tup, oLt_str, oNotIn_str, oIn_str, seqG_tup, seqG_ref, iSeqG_tup, fiEnumA, iEnumGA_tup, iEnumGA_str, fiZip, Bool.false_or, Bool.true_or, Bool.or_false, Bool.or_true, Bool.false_and, Bool.true_and, Bool.and_false, Bool.and_true, Bool.or_eq_false_iff, Bool.not_eq_true', Bool.not_eq_false', nList, nTuple, oAdd_int, line, Bool.or_eq_true, Bool.and_eq_true, Bool.not_eq_true, iSeqG_end]
    obtain ⟨S13, q13⟩ : ∃ S13, S13 = S12 ++ [Cell.lst [T.ref r1, T.ref r2, T.ref r3, T.ref r5, T.ref r7, T.ref r9, T.ref r10]] := ⟨_, rfl⟩
    have s13 : Kp S12 S13 := by rw [q13]; exact Kp.push
    have g13 : getL S13 S12.length = some [T.ref r1, T.ref r2, T.ref r3, T.ref r5, T.ref r7, T.ref r9, T.ref r10] := by rw [q13]; exact getL_end
    rw [← q13]
    have big : ∀ {S' : Store} {r : Nat} {xs : List T}, S'[r]? = some (.lst xs) → Kp S' S13 → (xs.length ≤ 1000 ∧ strsB (fun z => decide (z.length ≤ 1000)) xs = true) → ∃ xs, getL S13 r = some xs ∧ xs.length ≤ 1000 ∧ ∀ {S : Store} {n : Nat}, ∀ x ∈ xs, MvP (fun _ => True) S (n + 1) x := fun e k h => ⟨_, k _ _ (getL_lst e), h.1, fun {S n} x hx => by
      obtain ⟨z, rfl, hz⟩ := strs_of hx h.2
      exact (of_decide_eq_true hz : z.length ≤ 1000)⟩
    have k12 := s13
    have k11 := s12.trans k12
    have k10 := s11.trans k11
    have k9 := s10.trans k10
    have k8 := s9.trans k9
    have k7 := s8.trans k8
    have k6 := s7.trans k7
    have k5 := s6.trans k6
    have k4 := s5.trans k5
    have k3 := s4.trans k4
    have g0 := (s3.trans k3) _ _ g2
    have all : ∀ w ∈ [T.ref r1, T.ref r2, T.ref r3, T.ref r5, T.ref r7, T.ref r9, T.ref r10], ∃ r xs, w = .ref r ∧ getL S13 r = some xs ∧ xs.length ≤ 1000 ∧ ∀ {S : Store} {n : Nat}, ∀ x ∈ xs, MvP (fun _ => True) S (n + 1) x := fun w hw => by
      simp only [List.mem_cons, List.mem_nil_iff, or_false] at hw
      rcases hw with rfl | rfl | rfl | rfl | rfl | rfl | rfl
      · exact ⟨_, (big g3 k3 (by decide +kernel)).choose, rfl, (big g3 k3 (by decide +kernel)).choose_spec⟩
      · exact ⟨_, (big g4 k4 (by decide +kernel)).choose, rfl, (big g4 k4 (by decide +kernel)).choose_spec⟩
      · exact ⟨_, (big g5 k5 (by decide +kernel)).choose, rfl, (big g5 k5 (by decide +kernel)).choose_spec⟩
      · exact ⟨_, (big g7 k7 (by decide +kernel)).choose, rfl, (big g7 k7 (by decide +kernel)).choose_spec⟩
      · exact ⟨_, (big g9 k9 (by decide +kernel)).choose, rfl, (big g9 k9 (by decide +kernel)).choose_spec⟩
      · exact ⟨_, (big g11 k11 (by decide +kernel)).choose, rfl, (big g11 k11 (by decide +kernel)).choose_spec⟩
      · exact ⟨_, (big g12 k12 (by decide +kernel)).choose, rfl, (big g12 k12 (by decide +kernel)).choose_spec⟩
    clear k12 k11 k10 k9 k8 k7 k6 k5 k4 k3 big g3 g4 g5 g6 g7 g8 g9 g10 g11 g12 s13 s12 s11 s10 s9 s8 s7 s6 s5 s4 s3
    refine wl_all (fun ρ S' => (∃ a a2, ρ = [some (.ref 0), a, a2, none, none, none, none]) ∧ Kp S13 S') ⟨⟨a, none, rfl⟩, fun _ _ h => h⟩ (fun ρ S' hI => chk_one (hI.2 _ _ g13)) (fun w hw ρ S' hI => ?_) fun ρ S14 hI => ?_
    · obtain ⟨⟨a, a2, rfl⟩, s14⟩ := hI
      obtain ⟨r, xs, rfl, gr, hl, hx⟩ := all w hw
      have gr := s14 _ _ gr
      simp -implicitDefEqProofs only [startE, OutS.toOut, sNext, sIf, sAsg, sRet, sRetN, sExpr, sBreak, sCont, sPar, par2, sAug, sRaise, fVar, fC, tyN, isi_NoneType_bool, isi_NoneType_int, isi_NoneType_str, isi_NoneType_tuple, isi_NoneType_list, isi_bool_bool, isi_bool_int, isi_bool_str, isi_bool_tuple, isi_bool_list, isi_int_bool, isi_int_int, isi_int_str, isi_int_tuple, isi_int_list, isi_str_bool, isi_str_int, isi_str_str, isi_str_tuple, isi_str_list, isi_tuple_bool, isi_tuple_int, isi_tuple_str, isi_tuple_tuple, isi_tuple_list, isi_list_bool, isi_list_int, isi_list_str, isi_list_tuple, isi_list_list, fBin, fCall, fNat, fIsi, fTru, fBl, fNotT, fAndT, fOrT, fAndV, fOrV, fNotV, fIf, fTup, fLst, fNeg, aNil, aCons, gNm, gSb, gTpT, gNms, blOf, o2I, n1I, n2I, nLen_eq, oSub, oMod, oDiv, oGt, oGe, oLe, oLt, pw10_4, pw10_6, pw10_9, pw10_12, pw10_18, pw10_20, pw10_30, pw10_40, pw2_32, pw2_63, pw2_64, List.length_cons, List.length_nil, List.map_cons, List.map_nil, List.getElem?_cons_zero, List.getElem?_cons_succ, List.set_cons_zero, List.set_cons_succ, List.replicate, List.cons_append, List.nil_append, List.append_nil, Option.map_some, Option.map_none, id, ite_true, ite_false, if_true, if_false, Nat.zero_add, Nat.reduceAdd, Nat.reduceSub, Nat.reduceLeDiff, Bool.not_true, Bool.not_false, Bool.false_eq_true, reduceIte, reduceCtorEq, Int.reduceLT, Int.reduceLE, Int.reduceEq, Int.reduceNe, Nat.reduceLT, Nat.reduceEqDiff, decide_true, decide_false, Int.reduceAdd, Int.reduceSub, Int.reduceNeg, Int.reducePow, Int.reduceMul, Int.reduceToNat, wp_ok, wp_exc, wp_bad, wp_bind, bind_ok, wp_of, wr_some, wr_ite, of_some, tst_some, and_ok, or_ok, ws_nx, ws_rt, ws_bk, ws_ct, ws_exc, ws_then, wp_ite, ws_ite, decide_eq_true_eq, decide_eq_false_iff_not, true_implies, false_implies, implies_true, not_true_eq_false, not_false_eq_true, true_and, and_true, forall_const, fMeth, isTy_s, isTy_l, Option.isSome_some, and_self, fSlice, pNone, pSome, ws_sFor, fiSeq, fiRng1, fiRng2, wp_fLc, wp_outI_some, wp_rng1, wp_rng2, oEq_int, oNe_int, oEq_str, oNe_str, oEq_bl, oIs_non, oIsNot_non, isNon_non, isNon_int, isNon_bl, isNon_str, isNon_tup, isNon_ref, tru_non, tru_bl, tru_int, tru_tup, lenG_tup, oLt_str, oNotIn_str, oIn_str, seqG_tup, seqG_ref, iSeqG_tup, fiEnumA, iEnumGA_tup, iEnumGA_str, fiZip, Bool.false_or, Bool.true_or, Bool.or_false, Bool.or_true, Bool.false_and, Bool.true_and, Bool.and_false, Bool.and_true, Bool.or_eq_false_iff, Bool.not_eq_true', Bool.not_eq_false', nList, nTuple, oAdd_int, line, Bool.or_eq_true, Bool.and_eq_true, Bool.not_eq_true, gr]
      refine w_name_right (p := fun _ => True) ⟨hl, fun x h => hx x h⟩ ?_
      try simp -implicitDefEqProofs only [startE, OutS.toOut, sNext, sIf, sAsg, sRet, sRetN, sExpr, sBreak, sCont, sPar, par2, sAug, sRaise, fVar, fC, tyN, isi_NoneType_bool, isi_NoneType_int, isi_NoneType_str, isi_NoneType_tuple, isi_NoneType_list, isi_bool_bool, isi_bool_int, isi_bool_str, isi_bool_tuple, isi_bool_list, isi_int_bool, isi_int_int, isi_int_str, isi_int_tuple, isi_int_list, isi_str_bool, isi_str_int, isi_str_str, isi_str_tuple, isi_str_list, isi_tuple_bool, isi_tuple_int, isi_tuple_str, isi_tuple_tuple, isi_tuple_list, isi_list_bool, isi_list_int, isi_list_str, isi_list_tuple, isi_list_list, fBin, fCall, fNat, fIsi, fTru, fBl, fNotT, fAndT, fOrT, fAndV, fOrV, fNotV, fIf, fTup, fLst, fNeg, aNil, aCons, gNm, gSb, gTpT, gNms, blOf, o2I, n1I, n2I, nLen_eq, oSub, oMod, oDiv, oGt, oGe, oLe, oLt, pw10_4, pw10_6, pw10_9, pw10_12, pw10_18, pw10_20, pw10_30, pw10_40, pw2_32, pw2_63, pw2_64, List.length_cons, List.length_nil, List.map_cons, List.map_nil, List.getElem?_cons_zero, List.getElem?_cons_succ, List.set_cons_zero, List.set_cons_succ, List.replicate, List.cons_append, List.nil_append, List.append_nil, Option.map_some, Option.map_none, id, ite_true, ite_false, if_true, if_false, Nat.zero_add, Nat.reduceAdd, Nat.reduceSub, Nat.reduceLeDiff, Bool.not_true, Bool.not_false, Bool.false_eq_true, reduceIte, reduceCtorEq, Int.reduceLT, Int.reduceLE, Int.reduceEq, Int.reduceNe, Nat.reduceLT, Nat.reduceEqDiff, decide_true, decide_false, Int.reduceAdd, Int.reduceSub, Int.reduceNeg, Int.reducePow, Int.reduceMul, Int.reduceToNat, wp_ok, wp_exc, wp_bad, wp_bind, bind_ok, wp_of, wr_some, wr_ite, of_some, tst_some, and_ok, or_ok, ws_nx, ws_rt, ws_bk, ws_ct, ws_exc, ws_then, wp_ite, ws_ite, decide_eq_true_eq, decide_eq_false_iff_not, true_implies, false_implies, implies_true, not_true_eq_false, not_false_eq_true, true_and, and_true, forall_const, fMeth, isTy_s, isTy_l, Option.isSome_some, and_self, fSlice, pNone, pSome, ws_sFor, fiSeq, fiRng1, fiRng2, wp_fLc, wp_outI_some, wp_rng1, wp_rng2, oEq_int, oNe_int, oEq_str, oNe_str, oEq_bl, oIs_non, oIsNot_non, isNon_non, isNon_int, isNon_bl, isNon_str, isNon_tup, isNon_ref, tru_non, tru_bl, tru_int, tru_tup, lenG_tup, oLt_str, oNotIn_str, oIn_str, seqG_tup, seqG_ref, iSeqG_tup, fiEnumA, iEnumGA_tup, iEnumGA_str, fiZip, Bool.false_or, Bool.true_or, Bool.or_false, Bool.or_true, Bool.false_and, Bool.true_and, Bool.and_false, Bool.and_true, Bool.or_eq_false_iff, Bool.not_eq_true', Bool.not_eq_false', nList, nTuple, oAdd_int, line, Bool.or_eq_true, Bool.and_eq_true, Bool.not_eq_true]
      refine w_name_right (p := fun _ => True) ⟨trivial, xs, getL_push _ _ gr, fun x h => hx x h⟩ ?_
      simp -implicitDefEqProofs only [startE, OutS.toOut, sNext, sIf, sAsg, sRet, sRetN, sExpr, sBreak, sCont, sPar, par2, sAug, sRaise, fVar, fC, tyN, isi_NoneType_bool, isi_NoneType_int, isi_NoneType_str, isi_NoneType_tuple, isi_NoneType_list, isi_bool_bool, isi_bool_int, isi_bool_str, isi_bool_tuple, isi_bool_list, isi_int_bool, isi_int_int, isi_int_str, isi_int_tuple, isi_int_list, isi_str_bool, isi_str_int, isi_str_str, isi_str_tuple, isi_str_list, isi_tuple_bool, isi_tuple_int, isi_tuple_str, isi_tuple_tuple, isi_tuple_list, isi_list_bool, isi_list_int, isi_list_str, isi_list_tuple, isi_list_list, fBin, fCall, fNat, fIsi, fTru, fBl, fNotT, fAndT, fOrT, fAndV, fOrV, fNotV, fIf, fTup, fLst, fNeg, aNil, aCons, gNm, gSb, gTpT, gNms, blOf, o2I, n1I, n2I, nLen_eq, oSub, oMod, oDiv, oGt, oGe, oLe, oLt, pw10_4, pw10_6, pw10_9, pw10_12, pw10_18, pw10_20, pw10_30, pw10_40, pw2_32, pw2_63, pw2_64, List.length_cons, List.length_nil, List.map_cons, List.map_nil, List.getElem?_cons_zero, List.getElem?_cons_succ, List.set_cons_zero, List.set_cons_succ, List.replicate, List.cons_append, List.nil_append, List.append_nil, Option.map_some, Option.map_none, id, ite_true, ite_false, if_true, if_false, Nat.zero_add, Nat.reduceAdd, Nat.reduceSub, Nat.reduceLeDiff, Bool.not_true, Bool.not_false, Bool.false_eq_true, reduceIte, reduceCtorEq, Int.reduceLT, Int.reduceLE, Int.reduceEq, Int.reduceNe, Nat.reduceLT, Nat.reduceEqDiff, decide_true, decide_false, Int.reduceAdd, Int.reduceSub, Int.reduceNeg, Int.reducePow, Int.reduceMul, Int.reduceToNat, wp_ok, wp_exc, wp_bad, wp_bind, bind_ok, wp_of, wr_some, wr_ite, of_some, tst_some, and_ok, or_ok, ws_nx, ws_rt, ws_bk, ws_ct, ws_exc, ws_then, wp_ite, ws_ite, decide_eq_true_eq, decide_eq_false_iff_not, true_implies, false_implies, implies_true, not_true_eq_false, not_false_eq_true, true_and, and_true, forall_const, fMeth, isTy_s, isTy_l, Option.isSome_some, and_self, fSlice, pNone, pSome, ws_sFor, fiSeq, fiRng1, fiRng2, wp_fLc, wp_outI_some, wp_rng1, wp_rng2, oEq_int, oNe_int, oEq_str, oNe_str, oEq_bl, oIs_non, oIsNot_non, isNon_non, isNon_int, isNon_bl, isNon_str, isNon_tup, isNon_ref, tru_non, tru_bl, tru_int, tru_tup, lenG_tup, oLt_str, oNotIn_str, oIn_str, seqG_tup, seqG_ref, iSeqG_tup, fiEnumA, iEnumGA_tup, iEnumGA_str, fiZip, Bool.false_or, Bool.true_or, Bool.or_false, Bool.or_true, Bool.false_and, Bool.true_and, Bool.and_false, Bool.and_true, Bool.or_eq_false_iff, Bool.not_eq_true', Bool.not_eq_false', nList, nTuple, oAdd_int, line, Bool.or_eq_true, Bool.and_eq_true, Bool.not_eq_true]
      exact ⟨⟨_, _, rfl⟩, s14.trans (Kp.push.trans Kp.push)⟩
    · obtain ⟨⟨a, a2, rfl⟩, s14⟩ := hI
      have g14 := s14 _ _ g0
      try simp -implicitDefEqProofs only [startE, OutS.toOut, sNext, sIf, sAsg, sRet, sRetN, sExpr, sBreak, sCont, sPar, par2, sAug, sRaise, fVar, fC, tyN, isi_NoneType_bool, isi_NoneType_int, isi_NoneType_str, isi_NoneType_tuple, isi_NoneType_list, isi_bool_bool, isi_bool_int, isi_bool_str, isi_bool_tuple, isi_bool_list, isi_int_bool, isi_int_int, isi_int_str, isi_int_tuple, isi_int_list, isi_str_bool, isi_str_int, isi_str_str, isi_str_tuple, isi_str_list, isi_tuple_bool, isi_tuple_int, isi_tuple_str, isi_tuple_tuple, isi_tuple_list, isi_list_bool, isi_list_int, isi_list_str, isi_list_tuple, isi_list_list, fBin, fCall, fNat, fIsi, fTru, fBl, fNotT, fAndT, fOrT, fAndV, fOrV, fNotV, fIf, fTup, fLst, fNeg, aNil, aCons, gNm, gSb, gTpT, gNms, blOf, o2I, n1I, n2I, nLen_eq, oSub, oMod, oDiv, oGt, oGe, oLe, oLt, pw10_4, pw10_6, pw10_9, pw10_12, pw10_18, pw10_20, pw10_30, pw10_40, pw2_32, pw2_63, pw2_64, List.length_cons, List.length_nil, List.map_cons, List.map_nil, List.getElem?_cons_zero, List.getElem?_cons_succ, List.set_cons_zero, List.set_cons_succ, List.replicate, List.cons_append, List.nil_append, List.append_nil, Option.map_some, Option.map_none, id, ite_true, ite_false, if_true, if_false, Nat.zero_add, Nat.reduceAdd, Nat.reduceSub, Nat.reduceLeDiff, Bool.not_true, Bool.not_false, Bool.false_eq_true, reduceIte, reduceCtorEq, Int.reduceLT, Int.reduceLE, Int.reduceEq, Int.reduceNe, Nat.reduceLT, Nat.reduceEqDiff, decide_true, decide_false, Int.reduceAdd, Int.reduceSub, Int.reduceNeg, Int.reducePow, Int.reduceMul, Int.reduceToNat, wp_ok, wp_exc, wp_bad, wp_bind, bind_ok, wp_of, wr_some, wr_ite, of_some, tst_some, and_ok, or_ok, ws_nx, ws_rt, ws_bk, ws_ct, ws_exc, ws_then, wp_ite, ws_ite, decide_eq_true_eq, decide_eq_false_iff_not, true_implies, false_implies, implies_true, not_true_eq_false, not_false_eq_true, true_and, and_true, forall_const, fMeth, isTy_s, isTy_l, Option.isSome_some, and_self, fSlice, pNone, pSome, ws_sFor, fiSeq, fiRng1, fiRng2, wp_fLc, wp_outI_some, wp_rng1, wp_rng2, oEq_int, oNe_int, oEq_str, oNe_str, oEq_bl, oIs_non, oIsNot_non, isNon_non, isNon_int, isNon_bl, isNon_str, isNon_tup, isNon_ref, tru_non, tru_bl, tru_int, tru_tup, lenG_tup, oLt_str, oNotIn_str, oIn_str, seqG_tup, seqG_ref, iSeqG_tup, fiEnumA, iEnumGA_tup, iEnumGA_str, fiZip, Bool.false_or, Bool.true_or, Bool.or_false, Bool.or_true, Bool.false_and, Bool.true_and, Bool.and_false, Bool.and_true, Bool.or_eq_false_iff, Bool.not_eq_true', Bool.not_eq_false', nList, nTuple, oAdd_int, line, Bool.or_eq_true, Bool.and_eq_true, Bool.not_eq_true]
      refine ws_seq ?_
      try simp -implicitDefEqProofs only [startE, OutS.toOut, sNext, sIf, sAsg, sRet, sRetN, sExpr, sBreak, sCont, sPar, par2, sAug, sRaise, fVar, fC, tyN, isi_NoneType_bool, isi_NoneType_int, isi_NoneType_str, isi_NoneType_tuple, isi_NoneType_list, isi_bool_bool, isi_bool_int, isi_bool_str, isi_bool_tuple, isi_bool_list, isi_int_bool, isi_int_int, isi_int_str, isi_int_tuple, isi_int_list, isi_str_bool, isi_str_int, isi_str_str, isi_str_tuple, isi_str_list, isi_tuple_bool, isi_tuple_int, isi_tuple_str, isi_tuple_tuple, isi_tuple_list, isi_list_bool, isi_list_int, isi_list_str, isi_list_tuple, isi_list_list, fBin, fCall, fNat, fIsi, fTru, fBl, fNotT, fAndT, fOrT, fAndV, fOrV, fNotV, fIf, fTup, fLst, fNeg, aNil, aCons, gNm, gSb, gTpT, gNms, blOf, o2I, n1I, n2I, nLen_eq, oSub, oMod, oDiv, oGt, oGe, oLe, oLt, pw10_4, pw10_6, pw10_9, pw10_12, pw10_18, pw10_20, pw10_30, pw10_40, pw2_32, pw2_63, pw2_64, List.length_cons, List.length_nil, List.map_cons, List.map_nil, List.getElem?_cons_zero, List.getElem?_cons_succ, List.set_cons_zero, List.set_cons_succ, List.replicate, List.cons_append, List.nil_append, List.append_nil, Option.map_some, Option.map_none, id, ite_true, ite_false, if_true, if_false, Nat.zero_add, Nat.reduceAdd, Nat.reduceSub, Nat.reduceLeDiff, Bool.not_true, Bool.not_false, Bool.false_eq_true, reduceIte, reduceCtorEq, Int.reduceLT, Int.reduceLE, Int.reduceEq, Int.reduceNe, Nat.reduceLT, Nat.reduceEqDiff, decide_true, decide_false, Int.reduceAdd, Int.reduceSub, Int.reduceNeg, Int.reducePow, Int.reduceMul, Int.reduceToNat, wp_ok, wp_exc, wp_bad, wp_bind, bind_ok, wp_of, wr_some, wr_ite, of_some, tst_some, and_ok, or_ok, ws_nx, ws_rt, ws_bk, ws_ct, ws_exc, ws_then, wp_ite, ws_ite, decide_eq_true_eq, decide_eq_false_iff_not, true_implies, false_implies, implies_true, not_true_eq_false, not_false_eq_true, true_and, and_true, forall_const, fMeth, isTy_s, isTy_l, Option.isSome_some, and_self, fSlice, pNone, pSome, ws_sFor, fiSeq, fiRng1, fiRng2, wp_fLc, wp_outI_some, wp_rng1, wp_rng2, oEq_int, oNe_int, oEq_str, oNe_str, oEq_bl, oIs_non, oIsNot_non, isNon_non, isNon_int, isNon_bl, isNon_str, isNon_tup, isNon_ref, tru_non, tru_bl, tru_int, tru_tup, lenG_tup, oLt_str, oNotIn_str, oIn_str, seqG_tup, seqG_ref, iSeqG_tup, fiEnumA, iEnumGA_tup, iEnumGA_str, fiZip, Bool.false_or, Bool.true_or, Bool.or_false, Bool.or_true, Bool.false_and, Bool.true_and, Bool.and_false, Bool.and_true, Bool.or_eq_false_iff, Bool.not_eq_true', Bool.not_eq_false', nList, nTuple, oAdd_int, line, Bool.or_eq_true, Bool.and_eq_true, Bool.not_eq_true]
      simp -implicitDefEqProofs only [startE, OutS.toOut, sNext, sIf, sAsg, sRet, sRetN, sExpr, sBreak, sCont, sPar, par2, sAug, sRaise, fVar, fC, tyN, isi_NoneType_bool, isi_NoneType_int, isi_NoneType_str, isi_NoneType_tuple, isi_NoneType_list, isi_bool_bool, isi_bool_int, isi_bool_str, isi_bool_tuple, isi_bool_list, isi_int_bool, isi_int_int, isi_int_str, isi_int_tuple, isi_int_list, isi_str_bool, isi_str_int, isi_str_str, isi_str_tuple, isi_str_list, isi_tuple_bool, isi_tuple_int, isi_tuple_str, isi_tuple_tuple, isi_tuple_list, isi_list_bool, isi_list_int, isi_list_str, isi_list_tuple, isi_list_list, fBin, fCall, fNat, fIsi, fTru, fBl, fNotT, fAndT, fOrT, fAndV, fOrV, fNotV, fIf, fTup, fLst, fNeg, aNil, aCons, gNm, gSb, gTpT, gNms, blOf, o2I, n1I, n2I, nLen_eq, oSub, oMod, oDiv, oGt, oGe, oLe, oLt, pw10_4, pw10_6, pw10_9, pw10_12, pw10_18, pw10_20, pw10_30, pw10_40, pw2_32, pw2_63, pw2_64, List.length_cons, List.length_nil, List.map_cons, List.map_nil, List.getElem?_cons_zero, List.getElem?_cons_succ, List.set_cons_zero, List.set_cons_succ, List.replicate, List.cons_append, List.nil_append, List.append_nil, Option.map_some, Option.map_none, id, ite_true, ite_false, if_true, if_false, Nat.zero_add, Nat.reduceAdd, Nat.reduceSub, Nat.reduceLeDiff, Bool.not_true, Bool.not_false, Bool.false_eq_true, reduceIte, reduceCtorEq, Int.reduceLT, Int.reduceLE, Int.reduceEq, Int.reduceNe, Nat.reduceLT, Nat.reduceEqDiff, decide_true, decide_false, Int.reduceAdd, Int.reduceSub, Int.reduceNeg, Int.reducePow, Int.reduceMul, Int.reduceToNat, wp_ok, wp_exc, wp_bad, wp_bind, bind_ok, wp_of, wr_some, wr_ite, of_some, tst_some, and_ok, or_ok, ws_nx, ws_rt, ws_bk, ws_ct, ws_exc, ws_then, wp_ite, ws_ite, decide_eq_true_eq, decide_eq_false_iff_not, true_implies, false_implies, implies_true, not_true_eq_false, not_false_eq_true, true_and, and_true, forall_const, fMeth, isTy_s, isTy_l, Option.isSome_some, and_self, fSlice, pNone, pSome, ws_sFor, fiSeq, fiRng1, fiRng2, wp_fLc, wp_outI_some, wp_rng1, wp_rng2, oEq_int, oNe_int, oEq_str, oNe_str, oEq_bl, oIs_non, oIsNot_non, isNon_non, isNon_int, isNon_bl, isNon_str, isNon_tup, isNon_ref, tru_non, tru_bl, tru_int, tru_tup, lenG_tup, oLt_str, oNotIn_str, oIn_str, seqG_tup, seqG_ref, iSeqG_tup, fiEnumA, iEnumGA_tup, iEnumGA_str, fiZip, Bool.false_or, Bool.true_or, Bool.or_false, Bool.or_true, Bool.false_and, Bool.true_and, Bool.and_false, Bool.and_true, Bool.or_eq_false_iff, Bool.not_eq_true', Bool.not_eq_false', nList, nTuple, oAdd_int, line, Bool.or_eq_true, Bool.and_eq_true, Bool.not_eq_true, lenG_ref g14, List.length_map]
      obtain ⟨c, hc, hc12⟩ : ∃ c : Nat, imax 4 (imin (ns.length : Int) 12) = (c : Int) ∧ c ≤ 12 := by
        refine ⟨(imax 4 (imin (ns.length : Int) 12)).toNat, ?_, ?_⟩ <;> unfold imax imin <;> split <;> split <;> omega
      rw [hc]
      refine ⟨rOk_of (by omega), ?_⟩
      rw [rngT_J, Int.toNat_natCast]
      clear all g0 g13 q13
      refine wl_ix (fun k ρ S' => (∃ a a2 a3 a4 a5 a6, ρ = [some (.ref 0), a, a2, a3, a4, a5, a6]) ∧ getL S' 0 = some (ns.map T.int)) ⟨⟨a, a2, none, none, none, none, rfl⟩, g14⟩ (fun _ _ _ _ => rfl) (fun k w hw ρ S hI => ?_) fun ρ S' hI => ?_
      · obtain ⟨⟨a, a2, a3, a4, a5, a6, rfl⟩, gs⟩ := hI
        obtain ⟨hk, rfl⟩ := rngJ_at hw
        rw [Nat.zero_add]
        obtain ⟨g, s, eb, hs0, hs1⟩ := box_ok gs (by omega : k < 100)
        try simp -implicitDefEqProofs only [startE, OutS.toOut, sNext, sIf, sAsg, sRet, sRetN, sExpr, sBreak, sCont, sPar, par2, sAug, sRaise, fVar, fC, tyN, isi_NoneType_bool, isi_NoneType_int, isi_NoneType_str, isi_NoneType_tuple, isi_NoneType_list, isi_bool_bool, isi_bool_int, isi_bool_str, isi_bool_tuple, isi_bool_list, isi_int_bool, isi_int_int, isi_int_str, isi_int_tuple, isi_int_list, isi_str_bool, isi_str_int, isi_str_str, isi_str_tuple, isi_str_list, isi_tuple_bool, isi_tuple_int, isi_tuple_str, isi_tuple_tuple, isi_tuple_list, isi_list_bool, isi_list_int, isi_list_str, isi_list_tuple, isi_list_list, fBin, fCall, fNat, fIsi, fTru, fBl, fNotT, fAndT, fOrT, fAndV, fOrV, fNotV, fIf, fTup, fLst, fNeg, aNil, aCons, gNm, gSb, gTpT, gNms, blOf, o2I, n1I, n2I, nLen_eq, oSub, oMod, oDiv, oGt, oGe, oLe, oLt, pw10_4, pw10_6, pw10_9, pw10_12, pw10_18, pw10_20, pw10_30, pw10_40, pw2_32, pw2_63, pw2_64, List.length_cons, List.length_nil, List.map_cons, List.map_nil, List.getElem?_cons_zero, List.getElem?_cons_succ, List.set_cons_zero, List.set_cons_succ, List.replicate, List.cons_append, List.nil_append, List.append_nil, Option.map_some, Option.map_none, id, ite_true, ite_false, if_true, if_false, Nat.zero_add, Nat.reduceAdd, Nat.reduceSub, Nat.reduceLeDiff, Bool.not_true, Bool.not_false, Bool.false_eq_true, reduceIte, reduceCtorEq, Int.reduceLT, Int.reduceLE, Int.reduceEq, Int.reduceNe, Nat.reduceLT, Nat.reduceEqDiff, decide_true, decide_false, Int.reduceAdd, Int.reduceSub, Int.reduceNeg, Int.reducePow, Int.reduceMul, Int.reduceToNat, wp_ok, wp_exc, wp_bad, wp_bind, bind_ok, wp_of, wr_some, wr_ite, of_some, tst_some, and_ok, or_ok, ws_nx, ws_rt, ws_bk, ws_ct, ws_exc, ws_then, wp_ite, ws_ite, decide_eq_true_eq, decide_eq_false_iff_not, true_implies, false_implies, implies_true, not_true_eq_false, not_false_eq_true, true_and, and_true, forall_const, fMeth, isTy_s, isTy_l, Option.isSome_some, and_self, fSlice, pNone, pSome, ws_sFor, fiSeq, fiRng1, fiRng2, wp_fLc, wp_outI_some, wp_rng1, wp_rng2, oEq_int, oNe_int, oEq_str, oNe_str, oEq_bl, oIs_non, oIsNot_non, isNon_non, isNon_int, isNon_bl, isNon_str, isNon_tup, isNon_ref, tru_non, tru_bl, tru_int, tru_tup, lenG_tup, oLt_str, oNotIn_str, oIn_str, seqG_tup, seqG_ref, iSeqG_tup, fiEnumA, iEnumGA_tup, iEnumGA_str, fiZip, Bool.false_or, Bool.true_or, Bool.or_false, Bool.or_true, Bool.false_and, Bool.true_and, Bool.and_false, Bool.and_true, Bool.or_eq_false_iff, Bool.not_eq_true', Bool.not_eq_false', nList, nTuple, oAdd_int, line, Bool.or_eq_true, Bool.and_eq_true, Bool.not_eq_true]
        refine ws_seq ?_
        simp -implicitDefEqProofs only [startE, OutS.toOut, sNext, sIf, sAsg, sRet, sRetN, sExpr, sBreak, sCont, sPar, par2, sAug, sRaise, fVar, fC, tyN, isi_NoneType_bool, isi_NoneType_int, isi_NoneType_str, isi_NoneType_tuple, isi_NoneType_list, isi_bool_bool, isi_bool_int, isi_bool_str, isi_bool_tuple, isi_bool_list, isi_int_bool, isi_int_int, isi_int_str, isi_int_tuple, isi_int_list, isi_str_bool, isi_str_int, isi_str_str, isi_str_tuple, isi_str_list, isi_tuple_bool, isi_tuple_int, isi_tuple_str, isi_tuple_tuple, isi_tuple_list, isi_list_bool, isi_list_int, isi_list_str, isi_list_tuple, isi_list_list, fBin, fCall, fNat, fIsi, fTru, fBl, fNotT, fAndT, fOrT, fAndV, fOrV, fNotV, fIf, fTup, fLst, fNeg, aNil, aCons, gNm, gSb, gTpT, gNms, blOf, o2I, n1I, n2I, nLen_eq, oSub, oMod, oDiv, oGt, oGe, oLe, oLt, pw10_4, pw10_6, pw10_9, pw10_12, pw10_18, pw10_20, pw10_30, pw10_40, pw2_32, pw2_63, pw2_64, List.length_cons, List.length_nil, List.map_cons, List.map_nil, List.getElem?_cons_zero, List.getElem?_cons_succ, List.set_cons_zero, List.set_cons_succ, List.replicate, List.cons_append, List.nil_append, List.append_nil, Option.map_some, Option.map_none, id, ite_true, ite_false, if_true, if_false, Nat.zero_add, Nat.reduceAdd, Nat.reduceSub, Nat.reduceLeDiff, Bool.not_true, Bool.not_false, Bool.false_eq_true, reduceIte, reduceCtorEq, Int.reduceLT, Int.reduceLE, Int.reduceEq, Int.reduceNe, Nat.reduceLT, Nat.reduceEqDiff, decide_true, decide_false, Int.reduceAdd, Int.reduceSub, Int.reduceNeg, Int.reducePow, Int.reduceMul, Int.reduceToNat, wp_ok, wp_exc, wp_bad, wp_bind, bind_ok, wp_of, wr_some, wr_ite, of_some, tst_some, and_ok, or_ok, ws_nx, ws_rt, ws_bk, ws_ct, ws_exc, ws_then, wp_ite, ws_ite, decide_eq_true_eq, decide_eq_false_iff_not, true_implies, false_implies, implies_true, not_true_eq_false, not_false_eq_true, true_and, and_true, forall_const, fMeth, isTy_s, isTy_l, Option.isSome_some, and_self, fSlice, pNone, pSome, ws_sFor, fiSeq, fiRng1, fiRng2, wp_fLc, wp_outI_some, wp_rng1, wp_rng2, oEq_int, oNe_int, oEq_str, oNe_str, oEq_bl, oIs_non, oIsNot_non, isNon_non, isNon_int, isNon_bl, isNon_str, isNon_tup, isNon_ref, tru_non, tru_bl, tru_int, tru_tup, lenG_tup, oLt_str, oNotIn_str, oIn_str, seqG_tup, seqG_ref, iSeqG_tup, fiEnumA, iEnumGA_tup, iEnumGA_str, fiZip, Bool.false_or, Bool.true_or, Bool.or_false, Bool.or_true, Bool.false_and, Bool.true_and, Bool.and_false, Bool.and_true, Bool.or_eq_false_iff, Bool.not_eq_true', Bool.not_eq_false', nList, nTuple, oAdd_int, line, Bool.or_eq_true, Bool.and_eq_true, Bool.not_eq_true, eb]
        obtain ⟨Sb, qb⟩ : ∃ Sb, Sb = S ++ [Cell.lst [T.int g, T.int s]] := ⟨_, rfl⟩
        have hb : Box Sb S.length := ⟨g, s, by rw [qb]; simp, hs0, hs1⟩
        have gb : getL Sb 0 = some (ns.map T.int) := by rw [qb]; exact getL_push _ _ gs
        have hz : 0 ≠ S.length := by
          intro q
          have : S = [] := List.length_eq_zero_iff.mp q.symm
          rw [this] at gs
          cases gs
        rw [← qb]
        obtain ⟨b, hbq⟩ : ∃ b, b = S.length := ⟨_, rfl⟩
        rw [← hbq] at hb hz ⊢
        refine ⟨rOk_of (by decide), ?_⟩
        refine wl_all (fun ρ S' => (∃ a a2 a5 a6, ρ = [some (.ref 0), a, a2, some (.int (k : Int)), some (.ref b), a5, a6]) ∧ Stp b Sb S') ⟨⟨a, a2, a5, a6, rfl⟩, Stp.refl⟩ (fun _ _ _ => rfl) (fun w hw ρ S0 hI => ?_) fun ρ S' hI => ?_
        · obtain ⟨⟨a, a2, a5, a6, rfl⟩, s0⟩ := hI
          have b0 := s0.box hb
          try simp -implicitDefEqProofs only [startE, OutS.toOut, sNext, sIf, sAsg, sRet, sRetN, sExpr, sBreak, sCont, sPar, par2, sAug, sRaise, fVar, fC, tyN, isi_NoneType_bool, isi_NoneType_int, isi_NoneType_str, isi_NoneType_tuple, isi_NoneType_list, isi_bool_bool, isi_bool_int, isi_bool_str, isi_bool_tuple, isi_bool_list, isi_int_bool, isi_int_int, isi_int_str, isi_int_tuple, isi_int_list, isi_str_bool, isi_str_int, isi_str_str, isi_str_tuple, isi_str_list, isi_tuple_bool, isi_tuple_int, isi_tuple_str, isi_tuple_tuple, isi_tuple_list, isi_list_bool, isi_list_int, isi_list_str, isi_list_tuple, isi_list_list, fBin, fCall, fNat, fIsi, fTru, fBl, fNotT, fAndT, fOrT, fAndV, fOrV, fNotV, fIf, fTup, fLst, fNeg, aNil, aCons, gNm, gSb, gTpT, gNms, blOf, o2I, n1I, n2I, nLen_eq, oSub, oMod, oDiv, oGt, oGe, oLe, oLt, pw10_4, pw10_6, pw10_9, pw10_12, pw10_18, pw10_20, pw10_30, pw10_40, pw2_32, pw2_63, pw2_64, List.length_cons, List.length_nil, List.map_cons, List.map_nil, List.getElem?_cons_zero, List.getElem?_cons_succ, List.set_cons_zero, List.set_cons_succ, List.replicate, List.cons_append, List.nil_append, List.append_nil, Option.map_some, Option.map_none, id, ite_true, ite_false, if_true, if_false, Nat.zero_add, Nat.reduceAdd, Nat.reduceSub, Nat.reduceLeDiff, Bool.not_true, Bool.not_false, Bool.false_eq_true, reduceIte, reduceCtorEq, Int.reduceLT, Int.reduceLE, Int.reduceEq, Int.reduceNe, Nat.reduceLT, Nat.reduceEqDiff, decide_true, decide_false, Int.reduceAdd, Int.reduceSub, Int.reduceNeg, Int.reducePow, Int.reduceMul, Int.reduceToNat, wp_ok, wp_exc, wp_bad, wp_bind, bind_ok, wp_of, wr_some, wr_ite, of_some, tst_some, and_ok, or_ok, ws_nx, ws_rt, ws_bk, ws_ct, ws_exc, ws_then, wp_ite, ws_ite, decide_eq_true_eq, decide_eq_false_iff_not, true_implies, false_implies, implies_true, not_true_eq_false, not_false_eq_true, true_and, and_true, forall_const, fMeth, isTy_s, isTy_l, Option.isSome_some, and_self, fSlice, pNone, pSome, ws_sFor, fiSeq, fiRng1, fiRng2, wp_fLc, wp_outI_some, wp_rng1, wp_rng2, oEq_int, oNe_int, oEq_str, oNe_str, oEq_bl, oIs_non, oIsNot_non, isNon_non, isNon_int, isNon_bl, isNon_str, isNon_tup, isNon_ref, tru_non, tru_bl, tru_int, tru_tup, lenG_tup, oLt_str, oNotIn_str, oIn_str, seqG_tup, seqG_ref, iSeqG_tup, fiEnumA, iEnumGA_tup, iEnumGA_str, fiZip, Bool.false_or, Bool.true_or, Bool.or_false, Bool.or_true, Bool.false_and, Bool.true_and, Bool.and_false, Bool.and_true, Bool.or_eq_false_iff, Bool.not_eq_true', Bool.not_eq_false', nList, nTuple, oAdd_int, line, Bool.or_eq_true, Bool.and_eq_true, Bool.not_eq_true]
          refine ws_seq ?_
          try simp -implicitDefEqProofs only [startE, OutS.toOut, sNext, sIf, sAsg, sRet, sRetN, sExpr, sBreak, sCont, sPar, par2, sAug, sRaise, fVar, fC, tyN, isi_NoneType_bool, isi_NoneType_int, isi_NoneType_str, isi_NoneType_tuple, isi_NoneType_list, isi_bool_bool, isi_bool_int, isi_bool_str, isi_bool_tuple, isi_bool_list, isi_int_bool, isi_int_int, isi_int_str, isi_int_tuple, isi_int_list, isi_str_bool, isi_str_int, isi_str_str, isi_str_tuple, isi_str_list, isi_tuple_bool, isi_tuple_int, isi_tuple_str, isi_tuple_tuple, isi_tuple_list, isi_list_bool, isi_list_int, isi_list_str, isi_list_tuple, isi_list_list, fBin, fCall, fNat, fIsi, fTru, fBl, fNotT, fAndT, fOrT, fAndV, fOrV, fNotV, fIf, fTup, fLst, fNeg, aNil, aCons, gNm, gSb, gTpT, gNms, blOf, o2I, n1I, n2I, nLen_eq, oSub, oMod, oDiv, oGt, oGe, oLe, oLt, pw10_4, pw10_6, pw10_9, pw10_12, pw10_18, pw10_20, pw10_30, pw10_40, pw2_32, pw2_63, pw2_64, List.length_cons, List.length_nil, List.map_cons, List.map_nil, List.getElem?_cons_zero, List.getElem?_cons_succ, List.set_cons_zero, List.set_cons_succ, List.replicate, List.cons_append, List.nil_append, List.append_nil, Option.map_some, Option.map_none, id, ite_true, ite_false, if_true, if_false, Nat.zero_add, Nat.reduceAdd, Nat.reduceSub, Nat.reduceLeDiff, Bool.not_true, Bool.not_false, Bool.false_eq_true, reduceIte, reduceCtorEq, Int.reduceLT, Int.reduceLE, Int.reduceEq, Int.reduceNe, Nat.reduceLT, Nat.reduceEqDiff, decide_true, decide_false, Int.reduceAdd, Int.reduceSub, Int.reduceNeg, Int.reducePow, Int.reduceMul, Int.reduceToNat, wp_ok, wp_exc, wp_bad, wp_bind, bind_ok, wp_of, wr_some, wr_ite, of_some, tst_some, and_ok, or_ok, ws_nx, ws_rt, ws_bk, ws_ct, ws_exc, ws_then, wp_ite, ws_ite, decide_eq_true_eq, decide_eq_false_iff_not, true_implies, false_implies, implies_true, not_true_eq_false, not_false_eq_true, true_and, and_true, forall_const, fMeth, isTy_s, isTy_l, Option.isSome_some, and_self, fSlice, pNone, pSome, ws_sFor, fiSeq, fiRng1, fiRng2, wp_fLc, wp_outI_some, wp_rng1, wp_rng2, oEq_int, oNe_int, oEq_str, oNe_str, oEq_bl, oIs_non, oIsNot_non, isNon_non, isNon_int, isNon_bl, isNon_str, isNon_tup, isNon_ref, tru_non, tru_bl, tru_int, tru_tup, lenG_tup, oLt_str, oNotIn_str, oIn_str, seqG_tup, seqG_ref, iSeqG_tup, fiEnumA, iEnumGA_tup, iEnumGA_str, fiZip, Bool.false_or, Bool.true_or, Bool.or_false, Bool.or_true, Bool.false_and, Bool.true_and, Bool.and_false, Bool.and_true, Bool.or_eq_false_iff, Bool.not_eq_true', Bool.not_eq_false', nList, nTuple, oAdd_int, line, Bool.or_eq_true, Bool.and_eq_true, Bool.not_eq_true]
          refine w_label b0 fun z S1 az z1 z2 s1 => ?_
          have b1 := s1.box b0
          have hm : ∀ {p : Nat → Prop} {S : Store} {n : Nat}, MvP p S (n + 1) (.str z) := fun {p S n} => (Nat.le_trans z2 (by decide) : z.length ≤ 1000)
          try simp -implicitDefEqProofs only [startE, OutS.toOut, sNext, sIf, sAsg, sRet, sRetN, sExpr, sBreak, sCont, sPar, par2, sAug, sRaise, fVar, fC, tyN, isi_NoneType_bool, isi_NoneType_int, isi_NoneType_str, isi_NoneType_tuple, isi_NoneType_list, isi_bool_bool, isi_bool_int, isi_bool_str, isi_bool_tuple, isi_bool_list, isi_int_bool, isi_int_int, isi_int_str, isi_int_tuple, isi_int_list, isi_str_bool, isi_str_int, isi_str_str, isi_str_tuple, isi_str_list, isi_tuple_bool, isi_tuple_int, isi_tuple_str, isi_tuple_tuple, isi_tuple_list, isi_list_bool, isi_list_int, isi_list_str, isi_list_tuple, isi_list_list, fBin, fCall, fNat, fIsi, fTru, fBl, fNotT, fAndT, fOrT, fAndV, fOrV, fNotV, fIf, fTup, fLst, fNeg, aNil, aCons, gNm, gSb, gTpT, gNms, blOf, o2I, n1I, n2I, nLen_eq, oSub, oMod, oDiv, oGt, oGe, oLe, oLt, pw10_4, pw10_6, pw10_9, pw10_12, pw10_18, pw10_20, pw10_30, pw10_40, pw2_32, pw2_63, pw2_64, List.length_cons, List.length_nil, List.map_cons, List.map_nil, List.getElem?_cons_zero, List.getElem?_cons_succ, List.set_cons_zero, List.set_cons_succ, List.replicate, List.cons_append, List.nil_append, List.append_nil, Option.map_some, Option.map_none, id, ite_true, ite_false, if_true, if_false, Nat.zero_add, Nat.reduceAdd, Nat.reduceSub, Nat.reduceLeDiff, Bool.not_true, Bool.not_false, Bool.false_eq_true, reduceIte, reduceCtorEq, Int.reduceLT, Int.reduceLE, Int.reduceEq, Int.reduceNe, Nat.reduceLT, Nat.reduceEqDiff, decide_true, decide_false, Int.reduceAdd, Int.reduceSub, Int.reduceNeg, Int.reducePow, Int.reduceMul, Int.reduceToNat, wp_ok, wp_exc, wp_bad, wp_bind, bind_ok, wp_of, wr_some, wr_ite, of_some, tst_some, and_ok, or_ok, ws_nx, ws_rt, ws_bk, ws_ct, ws_exc, ws_then, wp_ite, ws_ite, decide_eq_true_eq, decide_eq_false_iff_not, true_implies, false_implies, implies_true, not_true_eq_false, not_false_eq_true, true_and, and_true, forall_const, fMeth, isTy_s, isTy_l, Option.isSome_some, and_self, fSlice, pNone, pSome, ws_sFor, fiSeq, fiRng1, fiRng2, wp_fLc, wp_outI_some, wp_rng1, wp_rng2, oEq_int, oNe_int, oEq_str, oNe_str, oEq_bl, oIs_non, oIsNot_non, isNon_non, isNon_int, isNon_bl, isNon_str, isNon_tup, isNon_ref, tru_non, tru_bl, tru_int, tru_tup, lenG_tup, oLt_str, oNotIn_str, oIn_str, seqG_tup, seqG_ref, iSeqG_tup, fiEnumA, iEnumGA_tup, iEnumGA_str, fiZip, Bool.false_or, Bool.true_or, Bool.or_false, Bool.or_true, Bool.false_and, Bool.true_and, Bool.and_false, Bool.and_true, Bool.or_eq_false_iff, Bool.not_eq_true', Bool.not_eq_false', nList, nTuple, oAdd_int, line, Bool.or_eq_true, Bool.and_eq_true, Bool.not_eq_true]
          refine ws_seq ?_
          try simp -implicitDefEqProofs only [startE, OutS.toOut, sNext, sIf, sAsg, sRet, sRetN, sExpr, sBreak, sCont, sPar, par2, sAug, sRaise, fVar, fC, tyN, isi_NoneType_bool, isi_NoneType_int, isi_NoneType_str, isi_NoneType_tuple, isi_NoneType_list, isi_bool_bool, isi_bool_int, isi_bool_str, isi_bool_tuple, isi_bool_list, isi_int_bool, isi_int_int, isi_int_str, isi_int_tuple, isi_int_list, isi_str_bool, isi_str_int, isi_str_str, isi_str_tuple, isi_str_list, isi_tuple_bool, isi_tuple_int, isi_tuple_str, isi_tuple_tuple, isi_tuple_list, isi_list_bool, isi_list_int, isi_list_str, isi_list_tuple, isi_list_list, fBin, fCall, fNat, fIsi, fTru, fBl, fNotT, fAndT, fOrT, fAndV, fOrV, fNotV, fIf, fTup, fLst, fNeg, aNil, aCons, gNm, gSb, gTpT, gNms, blOf, o2I, n1I, n2I, nLen_eq, oSub, oMod, oDiv, oGt, oGe, oLe, oLt, pw10_4, pw10_6, pw10_9, pw10_12, pw10_18, pw10_20, pw10_30, pw10_40, pw2_32, pw2_63, pw2_64, List.length_cons, List.length_nil, List.map_cons, List.map_nil, List.getElem?_cons_zero, List.getElem?_cons_succ, List.set_cons_zero, List.set_cons_succ, List.replicate, List.cons_append, List.nil_append, List.append_nil, Option.map_some, Option.map_none, id, ite_true, ite_false, if_true, if_false, Nat.zero_add, Nat.reduceAdd, Nat.reduceSub, Nat.reduceLeDiff, Bool.not_true, Bool.not_false, Bool.false_eq_true, reduceIte, reduceCtorEq, Int.reduceLT, Int.reduceLE, Int.reduceEq, Int.reduceNe, Nat.reduceLT, Nat.reduceEqDiff, decide_true, decide_false, Int.reduceAdd, Int.reduceSub, Int.reduceNeg, Int.reducePow, Int.reduceMul, Int.reduceToNat, wp_ok, wp_exc, wp_bad, wp_bind, bind_ok, wp_of, wr_some, wr_ite, of_some, tst_some, and_ok, or_ok, ws_nx, ws_rt, ws_bk, ws_ct, ws_exc, ws_then, wp_ite, ws_ite, decide_eq_true_eq, decide_eq_false_iff_not, true_implies, false_implies, implies_true, not_true_eq_false, not_false_eq_true, true_and, and_true, forall_const, fMeth, isTy_s, isTy_l, Option.isSome_some, and_self, fSlice, pNone, pSome, ws_sFor, fiSeq, fiRng1, fiRng2, wp_fLc, wp_outI_some, wp_rng1, wp_rng2, oEq_int, oNe_int, oEq_str, oNe_str, oEq_bl, oIs_non, oIsNot_non, isNon_non, isNon_int, isNon_bl, isNon_str, isNon_tup, isNon_ref, tru_non, tru_bl, tru_int, tru_tup, lenG_tup, oLt_str, oNotIn_str, oIn_str, seqG_tup, seqG_ref, iSeqG_tup, fiEnumA, iEnumGA_tup, iEnumGA_str, fiZip, Bool.false_or, Bool.true_or, Bool.or_false, Bool.or_true, Bool.false_and, Bool.true_and, Bool.and_false, Bool.and_true, Bool.or_eq_false_iff, Bool.not_eq_true', Bool.not_eq_false', nList, nTuple, oAdd_int, line, Bool.or_eq_true, Bool.and_eq_true, Bool.not_eq_true]
          refine w_label_right (p := fun _ => True) hm ?_
          try simp -implicitDefEqProofs only [startE, OutS.toOut, sNext, sIf, sAsg, sRet, sRetN, sExpr, sBreak, sCont, sPar, par2, sAug, sRaise, fVar, fC, tyN, isi_NoneType_bool, isi_NoneType_int, isi_NoneType_str, isi_NoneType_tuple, isi_NoneType_list, isi_bool_bool, isi_bool_int, isi_bool_str, isi_bool_tuple, isi_bool_list, isi_int_bool, isi_int_int, isi_int_str, isi_int_tuple, isi_int_list, isi_str_bool, isi_str_int, isi_str_str, isi_str_tuple, isi_str_list, isi_tuple_bool, isi_tuple_int, isi_tuple_str, isi_tuple_tuple, isi_tuple_list, isi_list_bool, isi_list_int, isi_list_str, isi_list_tuple, isi_list_list, fBin, fCall, fNat, fIsi, fTru, fBl, fNotT, fAndT, fOrT, fAndV, fOrV, fNotV, fIf, fTup, fLst, fNeg, aNil, aCons, gNm, gSb, gTpT, gNms, blOf, o2I, n1I, n2I, nLen_eq, oSub, oMod, oDiv, oGt, oGe, oLe, oLt, pw10_4, pw10_6, pw10_9, pw10_12, pw10_18, pw10_20, pw10_30, pw10_40, pw2_32, pw2_63, pw2_64, List.length_cons, List.length_nil, List.map_cons, List.map_nil, List.getElem?_cons_zero, List.getElem?_cons_succ, List.set_cons_zero, List.set_cons_succ, List.replicate, List.cons_append, List.nil_append, List.append_nil, Option.map_some, Option.map_none, id, ite_true, ite_false, if_true, if_false, Nat.zero_add, Nat.reduceAdd, Nat.reduceSub, Nat.reduceLeDiff, Bool.not_true, Bool.not_false, Bool.false_eq_true, reduceIte, reduceCtorEq, Int.reduceLT, Int.reduceLE, Int.reduceEq, Int.reduceNe, Nat.reduceLT, Nat.reduceEqDiff, decide_true, decide_false, Int.reduceAdd, Int.reduceSub, Int.reduceNeg, Int.reducePow, Int.reduceMul, Int.reduceToNat, wp_ok, wp_exc, wp_bad, wp_bind, bind_ok, wp_of, wr_some, wr_ite, of_some, tst_some, and_ok, or_ok, ws_nx, ws_rt, ws_bk, ws_ct, ws_exc, ws_then, wp_ite, ws_ite, decide_eq_true_eq, decide_eq_false_iff_not, true_implies, false_implies, implies_true, not_true_eq_false, not_false_eq_true, true_and, and_true, forall_const, fMeth, isTy_s, isTy_l, Option.isSome_some, and_self, fSlice, pNone, pSome, ws_sFor, fiSeq, fiRng1, fiRng2, wp_fLc, wp_outI_some, wp_rng1, wp_rng2, oEq_int, oNe_int, oEq_str, oNe_str, oEq_bl, oIs_non, oIsNot_non, isNon_non, isNon_int, isNon_bl, isNon_str, isNon_tup, isNon_ref, tru_non, tru_bl, tru_int, tru_tup, lenG_tup, oLt_str, oNotIn_str, oIn_str, seqG_tup, seqG_ref, iSeqG_tup, fiEnumA, iEnumGA_tup, iEnumGA_str, fiZip, Bool.false_or, Bool.true_or, Bool.or_false, Bool.or_true, Bool.false_and, Bool.true_and, Bool.and_false, Bool.and_true, Bool.or_eq_false_iff, Bool.not_eq_true', Bool.not_eq_false', nList, nTuple, oAdd_int, line, Bool.or_eq_true, Bool.and_eq_true, Bool.not_eq_true]
          refine w_bent b1.push z1 z2 fun y S2 hy s2 => ?_
          have s2 := Stp.refl.push.trans s2
          have b2 := s2.box b1
          refine w_label_right (p := fun _ => True) hy ?_
          try simp -implicitDefEqProofs only [startE, OutS.toOut, sNext, sIf, sAsg, sRet, sRetN, sExpr, sBreak, sCont, sPar, par2, sAug, sRaise, fVar, fC, tyN, isi_NoneType_bool, isi_NoneType_int, isi_NoneType_str, isi_NoneType_tuple, isi_NoneType_list, isi_bool_bool, isi_bool_int, isi_bool_str, isi_bool_tuple, isi_bool_list, isi_int_bool, isi_int_int, isi_int_str, isi_int_tuple, isi_int_list, isi_str_bool, isi_str_int, isi_str_str, isi_str_tuple, isi_str_list, isi_tuple_bool, isi_tuple_int, isi_tuple_str, isi_tuple_tuple, isi_tuple_list, isi_list_bool, isi_list_int, isi_list_str, isi_list_tuple, isi_list_list, fBin, fCall, fNat, fIsi, fTru, fBl, fNotT, fAndT, fOrT, fAndV, fOrV, fNotV, fIf, fTup, fLst, fNeg, aNil, aCons, gNm, gSb, gTpT, gNms, blOf, o2I, n1I, n2I, nLen_eq, oSub, oMod, oDiv, oGt, oGe, oLe, oLt, pw10_4, pw10_6, pw10_9, pw10_12, pw10_18, pw10_20, pw10_30, pw10_40, pw2_32, pw2_63, pw2_64, List.length_cons, List.length_nil, List.map_cons, List.map_nil, List.getElem?_cons_zero, List.getElem?_cons_succ, List.set_cons_zero, List.set_cons_succ, List.replicate, List.cons_append, List.nil_append, List.append_nil, Option.map_some, Option.map_none, id, ite_true, ite_false, if_true, if_false, Nat.zero_add, Nat.reduceAdd, Nat.reduceSub, Nat.reduceLeDiff, Bool.not_true, Bool.not_false, Bool.false_eq_true, reduceIte, reduceCtorEq, Int.reduceLT, Int.reduceLE, Int.reduceEq, Int.reduceNe, Nat.reduceLT, Nat.reduceEqDiff, decide_true, decide_false, Int.reduceAdd, Int.reduceSub, Int.reduceNeg, Int.reducePow, Int.reduceMul, Int.reduceToNat, wp_ok, wp_exc, wp_bad, wp_bind, bind_ok, wp_of, wr_some, wr_ite, of_some, tst_some, and_ok, or_ok, ws_nx, ws_rt, ws_bk, ws_ct, ws_exc, ws_then, wp_ite, ws_ite, decide_eq_true_eq, decide_eq_false_iff_not, true_implies, false_implies, implies_true, not_true_eq_false, not_false_eq_true, true_and, and_true, forall_const, fMeth, isTy_s, isTy_l, Option.isSome_some, and_self, fSlice, pNone, pSome, ws_sFor, fiSeq, fiRng1, fiRng2, wp_fLc, wp_outI_some, wp_rng1, wp_rng2, oEq_int, oNe_int, oEq_str, oNe_str, oEq_bl, oIs_non, oIsNot_non, isNon_non, isNon_int, isNon_bl, isNon_str, isNon_tup, isNon_ref, tru_non, tru_bl, tru_int, tru_tup, lenG_tup, oLt_str, oNotIn_str, oIn_str, seqG_tup, seqG_ref, iSeqG_tup, fiEnumA, iEnumGA_tup, iEnumGA_str, fiZip, Bool.false_or, Bool.true_or, Bool.or_false, Bool.or_true, Bool.false_and, Bool.true_and, Bool.and_false, Bool.and_true, Bool.or_eq_false_iff, Bool.not_eq_true', Bool.not_eq_false', nList, nTuple, oAdd_int, line, Bool.or_eq_true, Bool.and_eq_true, Bool.not_eq_true]
          refine w_odd b2.push fun v S3 hv s3 => ?_
          have s3 := Stp.refl.push.trans s3
          have b3 := s3.box b2
          refine w_label_right (hv.mono.mono) ?_
          try simp -implicitDefEqProofs only [startE, OutS.toOut, sNext, sIf, sAsg, sRet, sRetN, sExpr, sBreak, sCont, sPar, par2, sAug, sRaise, fVar, fC, tyN, isi_NoneType_bool, isi_NoneType_int, isi_NoneType_str, isi_NoneType_tuple, isi_NoneType_list, isi_bool_bool, isi_bool_int, isi_bool_str, isi_bool_tuple, isi_bool_list, isi_int_bool, isi_int_int, isi_int_str, isi_int_tuple, isi_int_list, isi_str_bool, isi_str_int, isi_str_str, isi_str_tuple, isi_str_list, isi_tuple_bool, isi_tuple_int, isi_tuple_str, isi_tuple_tuple, isi_tuple_list, isi_list_bool, isi_list_int, isi_list_str, isi_list_tuple, isi_list_list, fBin, fCall, fNat, fIsi, fTru, fBl, fNotT, fAndT, fOrT, fAndV, fOrV, fNotV, fIf, fTup, fLst, fNeg, aNil, aCons, gNm, gSb, gTpT, gNms, blOf, o2I, n1I, n2I, nLen_eq, oSub, oMod, oDiv, oGt, oGe, oLe, oLt, pw10_4, pw10_6, pw10_9, pw10_12, pw10_18, pw10_20, pw10_30, pw10_40, pw2_32, pw2_63, pw2_64, List.length_cons, List.length_nil, List.map_cons, List.map_nil, List.getElem?_cons_zero, List.getElem?_cons_succ, List.set_cons_zero, List.set_cons_succ, List.replicate, List.cons_append, List.nil_append, List.append_nil, Option.map_some, Option.map_none, id, ite_true, ite_false, if_true, if_false, Nat.zero_add, Nat.reduceAdd, Nat.reduceSub, Nat.reduceLeDiff, Bool.not_true, Bool.not_false, Bool.false_eq_true, reduceIte, reduceCtorEq, Int.reduceLT, Int.reduceLE, Int.reduceEq, Int.reduceNe, Nat.reduceLT, Nat.reduceEqDiff, decide_true, decide_false, Int.reduceAdd, Int.reduceSub, Int.reduceNeg, Int.reducePow, Int.reduceMul, Int.reduceToNat, wp_ok, wp_exc, wp_bad, wp_bind, bind_ok, wp_of, wr_some, wr_ite, of_some, tst_some, and_ok, or_ok, ws_nx, ws_rt, ws_bk, ws_ct, ws_exc, ws_then, wp_ite, ws_ite, decide_eq_true_eq, decide_eq_false_iff_not, true_implies, false_implies, implies_true, not_true_eq_false, not_false_eq_true, true_and, and_true, forall_const, fMeth, isTy_s, isTy_l, Option.isSome_some, and_self, fSlice, pNone, pSome, ws_sFor, fiSeq, fiRng1, fiRng2, wp_fLc, wp_outI_some, wp_rng1, wp_rng2, oEq_int, oNe_int, oEq_str, oNe_str, oEq_bl, oIs_non, oIsNot_non, isNon_non, isNon_int, isNon_bl, isNon_str, isNon_tup, isNon_ref, tru_non, tru_bl, tru_int, tru_tup, lenG_tup, oLt_str, oNotIn_str, oIn_str, seqG_tup, seqG_ref, iSeqG_tup, fiEnumA, iEnumGA_tup, iEnumGA_str, fiZip, Bool.false_or, Bool.true_or, Bool.or_false, Bool.or_true, Bool.false_and, Bool.true_and, Bool.and_false, Bool.and_true, Bool.or_eq_false_iff, Bool.not_eq_true', Bool.not_eq_false', nList, nTuple, oAdd_int, line, Bool.or_eq_true, Bool.and_eq_true, Bool.not_eq_true]
          refine ws_seq ?_
          try simp -implicitDefEqProofs only [startE, OutS.toOut, sNext, sIf, sAsg, sRet, sRetN, sExpr, sBreak, sCont, sPar, par2, sAug, sRaise, fVar, fC, tyN, isi_NoneType_bool, isi_NoneType_int, isi_NoneType_str, isi_NoneType_tuple, isi_NoneType_list, isi_bool_bool, isi_bool_int, isi_bool_str, isi_bool_tuple, isi_bool_list, isi_int_bool, isi_int_int, isi_int_str, isi_int_tuple, isi_int_list, isi_str_bool, isi_str_int, isi_str_str, isi_str_tuple, isi_str_list, isi_tuple_bool, isi_tuple_int, isi_tuple_str, isi_tuple_tuple, isi_tuple_list, isi_list_bool, isi_list_int, isi_list_str, isi_list_tuple, isi_list_list, fBin, fCall, fNat, fIsi, fTru, fBl, fNotT, fAndT, fOrT, fAndV, fOrV, fNotV, fIf, fTup, fLst, fNeg, aNil, aCons, gNm, gSb, gTpT, gNms, blOf, o2I, n1I, n2I, nLen_eq, oSub, oMod, oDiv, oGt, oGe, oLe, oLt, pw10_4, pw10_6, pw10_9, pw10_12, pw10_18, pw10_20, pw10_30, pw10_40, pw2_32, pw2_63, pw2_64, List.length_cons, List.length_nil, List.map_cons, List.map_nil, List.getElem?_cons_zero, List.getElem?_cons_succ, List.set_cons_zero, List.set_cons_succ, List.replicate, List.cons_append, List.nil_append, List.append_nil, Option.map_some, Option.map_none, id, ite_true, ite_false, if_true, if_false, Nat.zero_add, Nat.reduceAdd, Nat.reduceSub, Nat.reduceLeDiff, Bool.not_true, Bool.not_false, Bool.false_eq_true, reduceIte, reduceCtorEq, Int.reduceLT, Int.reduceLE, Int.reduceEq, Int.reduceNe, Nat.reduceLT, Nat.reduceEqDiff, decide_true, decide_false, Int.reduceAdd, Int.reduceSub, Int.reduceNeg, Int.reducePow, Int.reduceMul, Int.reduceToNat, wp_ok, wp_exc, wp_bad, wp_bind, bind_ok, wp_of, wr_some, wr_ite, of_some, tst_some, and_ok, or_ok, ws_nx, ws_rt, ws_bk, ws_ct, ws_exc, ws_then, wp_ite, ws_ite, decide_eq_true_eq, decide_eq_false_iff_not, true_implies, false_implies, implies_true, not_true_eq_false, not_false_eq_true, true_and, and_true, forall_const, fMeth, isTy_s, isTy_l, Option.isSome_some, and_self, fSlice, pNone, pSome, ws_sFor, fiSeq, fiRng1, fiRng2, wp_fLc, wp_outI_some, wp_rng1, wp_rng2, oEq_int, oNe_int, oEq_str, oNe_str, oEq_bl, oIs_non, oIsNot_non, isNon_non, isNon_int, isNon_bl, isNon_str, isNon_tup, isNon_ref, tru_non, tru_bl, tru_int, tru_tup, lenG_tup, oLt_str, oNotIn_str, oIn_str, seqG_tup, seqG_ref, iSeqG_tup, fiEnumA, iEnumGA_tup, iEnumGA_str, fiZip, Bool.false_or, Bool.true_or, Bool.or_false, Bool.or_true, Bool.false_and, Bool.true_and, Bool.and_false, Bool.and_true, Bool.or_eq_false_iff, Bool.not_eq_true', Bool.not_eq_false', nList, nTuple, oAdd_int, line, Bool.or_eq_true, Bool.and_eq_true, Bool.not_eq_true]
          refine w_take b3.push (by decide) fun d S4 d0 d1 s4 => ?_
          have s4 := Stp.refl.push.trans s4
          have b4 := s4.box b3
          try simp -implicitDefEqProofs only [startE, OutS.toOut, sNext, sIf, sAsg, sRet, sRetN, sExpr, sBreak, sCont, sPar, par2, sAug, sRaise, fVar, fC, tyN, isi_NoneType_bool, isi_NoneType_int, isi_NoneType_str, isi_NoneType_tuple, isi_NoneType_list, isi_bool_bool, isi_bool_int, isi_bool_str, isi_bool_tuple, isi_bool_list, isi_int_bool, isi_int_int, isi_int_str, isi_int_tuple, isi_int_list, isi_str_bool, isi_str_int, isi_str_str, isi_str_tuple, isi_str_list, isi_tuple_bool, isi_tuple_int, isi_tuple_str, isi_tuple_tuple, isi_tuple_list, isi_list_bool, isi_list_int, isi_list_str, isi_list_tuple, isi_list_list, fBin, fCall, fNat, fIsi, fTru, fBl, fNotT, fAndT, fOrT, fAndV, fOrV, fNotV, fIf, fTup, fLst, fNeg, aNil, aCons, gNm, gSb, gTpT, gNms, blOf, o2I, n1I, n2I, nLen_eq, oSub, oMod, oDiv, oGt, oGe, oLe, oLt, pw10_4, pw10_6, pw10_9, pw10_12, pw10_18, pw10_20, pw10_30, pw10_40, pw2_32, pw2_63, pw2_64, List.length_cons, List.length_nil, List.map_cons, List.map_nil, List.getElem?_cons_zero, List.getElem?_cons_succ, List.set_cons_zero, List.set_cons_succ, List.replicate, List.cons_append, List.nil_append, List.append_nil, Option.map_some, Option.map_none, id, ite_true, ite_false, if_true, if_false, Nat.zero_add, Nat.reduceAdd, Nat.reduceSub, Nat.reduceLeDiff, Bool.not_true, Bool.not_false, Bool.false_eq_true, reduceIte, reduceCtorEq, Int.reduceLT, Int.reduceLE, Int.reduceEq, Int.reduceNe, Nat.reduceLT, Nat.reduceEqDiff, decide_true, decide_false, Int.reduceAdd, Int.reduceSub, Int.reduceNeg, Int.reducePow, Int.reduceMul, Int.reduceToNat, wp_ok, wp_exc, wp_bad, wp_bind, bind_ok, wp_of, wr_some, wr_ite, of_some, tst_some, and_ok, or_ok, ws_nx, ws_rt, ws_bk, ws_ct, ws_exc, ws_then, wp_ite, ws_ite, decide_eq_true_eq, decide_eq_false_iff_not, true_implies, false_implies, implies_true, not_true_eq_false, not_false_eq_true, true_and, and_true, forall_const, fMeth, isTy_s, isTy_l, Option.isSome_some, and_self, fSlice, pNone, pSome, ws_sFor, fiSeq, fiRng1, fiRng2, wp_fLc, wp_outI_some, wp_rng1, wp_rng2, oEq_int, oNe_int, oEq_str, oNe_str, oEq_bl, oIs_non, oIsNot_non, isNon_non, isNon_int, isNon_bl, isNon_str, isNon_tup, isNon_ref, tru_non, tru_bl, tru_int, tru_tup, lenG_tup, oLt_str, oNotIn_str, oIn_str, seqG_tup, seqG_ref, iSeqG_tup, fiEnumA, iEnumGA_tup, iEnumGA_str, fiZip, Bool.false_or, Bool.true_or, Bool.or_false, Bool.or_true, Bool.false_and, Bool.true_and, Bool.and_false, Bool.and_true, Bool.or_eq_false_iff, Bool.not_eq_true', Bool.not_eq_false', nList, nTuple, oAdd_int, line, Bool.or_eq_true, Bool.and_eq_true, Bool.not_eq_true]
          refine w_labels b4 (by omega) fun r xs S5 l5 p5 s5 g5 e5 => ?_
          have b5 := s5.box b4
          have hrb : r ≠ b := by have := b4.lt; omega
          try simp -implicitDefEqProofs only [startE, OutS.toOut, sNext, sIf, sAsg, sRet, sRetN, sExpr, sBreak, sCont, sPar, par2, sAug, sRaise, fVar, fC, tyN, isi_NoneType_bool, isi_NoneType_int, isi_NoneType_str, isi_NoneType_tuple, isi_NoneType_list, isi_bool_bool, isi_bool_int, isi_bool_str, isi_bool_tuple, isi_bool_list, isi_int_bool, isi_int_int, isi_int_str, isi_int_tuple, isi_int_list, isi_str_bool, isi_str_int, isi_str_str, isi_str_tuple, isi_str_list, isi_tuple_bool, isi_tuple_int, isi_tuple_str, isi_tuple_tuple, isi_tuple_list, isi_list_bool, isi_list_int, isi_list_str, isi_list_tuple, isi_list_list, fBin, fCall, fNat, fIsi, fTru, fBl, fNotT, fAndT, fOrT, fAndV, fOrV, fNotV, fIf, fTup, fLst, fNeg, aNil, aCons, gNm, gSb, gTpT, gNms, blOf, o2I, n1I, n2I, nLen_eq, oSub, oMod, oDiv, oGt, oGe, oLe, oLt, pw10_4, pw10_6, pw10_9, pw10_12, pw10_18, pw10_20, pw10_30, pw10_40, pw2_32, pw2_63, pw2_64, List.length_cons, List.length_nil, List.map_cons, List.map_nil, List.getElem?_cons_zero, List.getElem?_cons_succ, List.set_cons_zero, List.set_cons_succ, List.replicate, List.cons_append, List.nil_append, List.append_nil, Option.map_some, Option.map_none, id, ite_true, ite_false, if_true, if_false, Nat.zero_add, Nat.reduceAdd, Nat.reduceSub, Nat.reduceLeDiff, Bool.not_true, Bool.not_false, Bool.false_eq_true, reduceIte, reduceCtorEq, Int.reduceLT, Int.reduceLE, Int.reduceEq, Int.reduceNe, Nat.reduceLT, Nat.reduceEqDiff, decide_true, decide_false, Int.reduceAdd, Int.reduceSub, Int.reduceNeg, Int.reducePow, Int.reduceMul, Int.reduceToNat, wp_ok, wp_exc, wp_bad, wp_bind, bind_ok, wp_of, wr_some, wr_ite, of_some, tst_some, and_ok, or_ok, ws_nx, ws_rt, ws_bk, ws_ct, ws_exc, ws_then, wp_ite, ws_ite, decide_eq_true_eq, decide_eq_false_iff_not, true_implies, false_implies, implies_true, not_true_eq_false, not_false_eq_true, true_and, and_true, forall_const, fMeth, isTy_s, isTy_l, Option.isSome_some, and_self, fSlice, pNone, pSome, ws_sFor, fiSeq, fiRng1, fiRng2, wp_fLc, wp_outI_some, wp_rng1, wp_rng2, oEq_int, oNe_int, oEq_str, oNe_str, oEq_bl, oIs_non, oIsNot_non, isNon_non, isNon_int, isNon_bl, isNon_str, isNon_tup, isNon_ref, tru_non, tru_bl, tru_int, tru_tup, lenG_tup, oLt_str, oNotIn_str, oIn_str, seqG_tup, seqG_ref, iSeqG_tup, fiEnumA, iEnumGA_tup, iEnumGA_str, fiZip, Bool.false_or, Bool.true_or, Bool.or_false, Bool.or_true, Bool.false_and, Bool.true_and, Bool.and_false, Bool.and_true, Bool.or_eq_false_iff, Bool.not_eq_true', Bool.not_eq_false', nList, nTuple, oAdd_int, line, Bool.or_eq_true, Bool.and_eq_true, Bool.not_eq_true]
          refine ws_seq ?_
          try simp -implicitDefEqProofs only [startE, OutS.toOut, sNext, sIf, sAsg, sRet, sRetN, sExpr, sBreak, sCont, sPar, par2, sAug, sRaise, fVar, fC, tyN, isi_NoneType_bool, isi_NoneType_int, isi_NoneType_str, isi_NoneType_tuple, isi_NoneType_list, isi_bool_bool, isi_bool_int, isi_bool_str, isi_bool_tuple, isi_bool_list, isi_int_bool, isi_int_int, isi_int_str, isi_int_tuple, isi_int_list, isi_str_bool, isi_str_int, isi_str_str, isi_str_tuple, isi_str_list, isi_tuple_bool, isi_tuple_int, isi_tuple_str, isi_tuple_tuple, isi_tuple_list, isi_list_bool, isi_list_int, isi_list_str, isi_list_tuple, isi_list_list, fBin, fCall, fNat, fIsi, fTru, fBl, fNotT, fAndT, fOrT, fAndV, fOrV, fNotV, fIf, fTup, fLst, fNeg, aNil, aCons, gNm, gSb, gTpT, gNms, blOf, o2I, n1I, n2I, nLen_eq, oSub, oMod, oDiv, oGt, oGe, oLe, oLt, pw10_4, pw10_6, pw10_9, pw10_12, pw10_18, pw10_20, pw10_30, pw10_40, pw2_32, pw2_63, pw2_64, List.length_cons, List.length_nil, List.map_cons, List.map_nil, List.getElem?_cons_zero, List.getElem?_cons_succ, List.set_cons_zero, List.set_cons_succ, List.replicate, List.cons_append, List.nil_append, List.append_nil, Option.map_some, Option.map_none, id, ite_true, ite_false, if_true, if_false, Nat.zero_add, Nat.reduceAdd, Nat.reduceSub, Nat.reduceLeDiff, Bool.not_true, Bool.not_false, Bool.false_eq_true, reduceIte, reduceCtorEq, Int.reduceLT, Int.reduceLE, Int.reduceEq, Int.reduceNe, Nat.reduceLT, Nat.reduceEqDiff, decide_true, decide_false, Int.reduceAdd, Int.reduceSub, Int.reduceNeg, Int.reducePow, Int.reduceMul, Int.reduceToNat, wp_ok, wp_exc, wp_bad, wp_bind, bind_ok, wp_of, wr_some, wr_ite, of_some, tst_some, and_ok, or_ok, ws_nx, ws_rt, ws_bk, ws_ct, ws_exc, ws_then, wp_ite, ws_ite, decide_eq_true_eq, decide_eq_false_iff_not, true_implies, false_implies, implies_true, not_true_eq_false, not_false_eq_true, true_and, and_true, forall_const, fMeth, isTy_s, isTy_l, Option.isSome_some, and_self, fSlice, pNone, pSome, ws_sFor, fiSeq, fiRng1, fiRng2, wp_fLc, wp_outI_some, wp_rng1, wp_rng2, oEq_int, oNe_int, oEq_str, oNe_str, oEq_bl, oIs_non, oIsNot_non, isNon_non, isNon_int, isNon_bl, isNon_str, isNon_tup, isNon_ref, tru_non, tru_bl, tru_int, tru_tup, lenG_tup, oLt_str, oNotIn_str, oIn_str, seqG_tup, seqG_ref, iSeqG_tup, fiEnumA, iEnumGA_tup, iEnumGA_str, fiZip, Bool.false_or, Bool.true_or, Bool.or_false, Bool.or_true, Bool.false_and, Bool.true_and, Bool.and_false, Bool.and_true, Bool.or_eq_false_iff, Bool.not_eq_true', Bool.not_eq_false', nList, nTuple, oAdd_int, line, Bool.or_eq_true, Bool.and_eq_true, Bool.not_eq_true]
          simp -implicitDefEqProofs only [startE, OutS.toOut, sNext, sIf, sAsg, sRet, sRetN, sExpr, sBreak, sCont, sPar, par2, sAug, sRaise, fVar, fC, tyN, isi_NoneType_bool, isi_NoneType_int, isi_NoneType_str, isi_NoneType_tuple, isi_NoneType_list, isi_bool_bool, isi_bool_int, isi_bool_str, isi_bool_tuple, isi_bool_list, isi_int_bool, isi_int_int, isi_int_str, isi_int_tuple, isi_int_list, isi_str_bool, isi_str_int, isi_str_str, isi_str_tuple, isi_str_list, isi_tuple_bool, isi_tuple_int, isi_tuple_str, isi_tuple_tuple, isi_tuple_list, isi_list_bool, isi_list_int, isi_list_str, isi_list_tuple, isi_list_list, fBin, fCall, fNat, fIsi, fTru, fBl, fNotT, fAndT, fOrT, fAndV, fOrV, fNotV, fIf, fTup, fLst, fNeg, aNil, aCons, gNm, gSb, gTpT, gNms, blOf, o2I, n1I, n2I, nLen_eq, oSub, oMod, oDiv, oGt, oGe, oLe, oLt, pw10_4, pw10_6, pw10_9, pw10_12, pw10_18, pw10_20, pw10_30, pw10_40, pw2_32, pw2_63, pw2_64, List.length_cons, List.length_nil, List.map_cons, List.map_nil, List.getElem?_cons_zero, List.getElem?_cons_succ, List.set_cons_zero, List.set_cons_succ, List.replicate, List.cons_append, List.nil_append, List.append_nil, Option.map_some, Option.map_none, id, ite_true, ite_false, if_true, if_false, Nat.zero_add, Nat.reduceAdd, Nat.reduceSub, Nat.reduceLeDiff, Bool.not_true, Bool.not_false, Bool.false_eq_true, reduceIte, reduceCtorEq, Int.reduceLT, Int.reduceLE, Int.reduceEq, Int.reduceNe, Nat.reduceLT, Nat.reduceEqDiff, decide_true, decide_false, Int.reduceAdd, Int.reduceSub, Int.reduceNeg, Int.reducePow, Int.reduceMul, Int.reduceToNat, wp_ok, wp_exc, wp_bad, wp_bind, bind_ok, wp_of, wr_some, wr_ite, of_some, tst_some, and_ok, or_ok, ws_nx, ws_rt, ws_bk, ws_ct, ws_exc, ws_then, wp_ite, ws_ite, decide_eq_true_eq, decide_eq_false_iff_not, true_implies, false_implies, implies_true, not_true_eq_false, not_false_eq_true, true_and, and_true, forall_const, fMeth, isTy_s, isTy_l, Option.isSome_some, and_self, fSlice, pNone, pSome, ws_sFor, fiSeq, fiRng1, fiRng2, wp_fLc, wp_outI_some, wp_rng1, wp_rng2, oEq_int, oNe_int, oEq_str, oNe_str, oEq_bl, oIs_non, oIsNot_non, isNon_non, isNon_int, isNon_bl, isNon_str, isNon_tup, isNon_ref, tru_non, tru_bl, tru_int, tru_tup, lenG_tup, oLt_str, oNotIn_str, oIn_str, seqG_tup, seqG_ref, iSeqG_tup, fiEnumA, iEnumGA_tup, iEnumGA_str, fiZip, Bool.false_or, Bool.true_or, Bool.or_false, Bool.or_true, Bool.false_and, Bool.true_and, Bool.and_false, Bool.and_true, Bool.or_eq_false_iff, Bool.not_eq_true', Bool.not_eq_false', nList, nTuple, oAdd_int, line, Bool.or_eq_true, Bool.and_eq_true, Bool.not_eq_true, getL_lst e5]
          refine w_name_right (p := fun _ => True) ⟨by omega, fun x hx => by obtain ⟨z, rfl, _, _, h⟩ := p5 x hx; exact Nat.le_trans h (by decide)⟩ ?_
          try simp -implicitDefEqProofs only [startE, OutS.toOut, sNext, sIf, sAsg, sRet, sRetN, sExpr, sBreak, sCont, sPar, par2, sAug, sRaise, fVar, fC, tyN, isi_NoneType_bool, isi_NoneType_int, isi_NoneType_str, isi_NoneType_tuple, isi_NoneType_list, isi_bool_bool, isi_bool_int, isi_bool_str, isi_bool_tuple, isi_bool_list, isi_int_bool, isi_int_int, isi_int_str, isi_int_tuple, isi_int_list, isi_str_bool, isi_str_int, isi_str_str, isi_str_tuple, isi_str_list, isi_tuple_bool, isi_tuple_int, isi_tuple_str, isi_tuple_tuple, isi_tuple_list, isi_list_bool, isi_list_int, isi_list_str, isi_list_tuple, isi_list_list, fBin, fCall, fNat, fIsi, fTru, fBl, fNotT, fAndT, fOrT, fAndV, fOrV, fNotV, fIf, fTup, fLst, fNeg, aNil, aCons, gNm, gSb, gTpT, gNms, blOf, o2I, n1I, n2I, nLen_eq, oSub, oMod, oDiv, oGt, oGe, oLe, oLt, pw10_4, pw10_6, pw10_9, pw10_12, pw10_18, pw10_20, pw10_30, pw10_40, pw2_32, pw2_63, pw2_64, List.length_cons, List.length_nil, List.map_cons, List.map_nil, List.getElem?_cons_zero, List.getElem?_cons_succ, List.set_cons_zero, List.set_cons_succ, List.replicate, List.cons_append, List.nil_append, List.append_nil, Option.map_some, Option.map_none, id, ite_true, ite_false, if_true, if_false, Nat.zero_add, Nat.reduceAdd, Nat.reduceSub, Nat.reduceLeDiff, Bool.not_true, Bool.not_false, Bool.false_eq_true, reduceIte, reduceCtorEq, Int.reduceLT, Int.reduceLE, Int.reduceEq, Int.reduceNe, Nat.reduceLT, Nat.reduceEqDiff, decide_true, decide_false, Int.reduceAdd, Int.reduceSub, Int.reduceNeg, Int.reducePow, Int.reduceMul, Int.reduceToNat, wp_ok, wp_exc, wp_bad, wp_bind, bind_ok, wp_of, wr_some, wr_ite, of_some, tst_some, and_ok, or_ok, ws_nx, ws_rt, ws_bk, ws_ct, ws_exc, ws_then, wp_ite, ws_ite, decide_eq_true_eq, decide_eq_false_iff_not, true_implies, false_implies, implies_true, not_true_eq_false, not_false_eq_true, true_and, and_true, forall_const, fMeth, isTy_s, isTy_l, Option.isSome_some, and_self, fSlice, pNone, pSome, ws_sFor, fiSeq, fiRng1, fiRng2, wp_fLc, wp_outI_some, wp_rng1, wp_rng2, oEq_int, oNe_int, oEq_str, oNe_str, oEq_bl, oIs_non, oIsNot_non, isNon_non, isNon_int, isNon_bl, isNon_str, isNon_tup, isNon_ref, tru_non, tru_bl, tru_int, tru_tup, lenG_tup, oLt_str, oNotIn_str, oIn_str, seqG_tup, seqG_ref, iSeqG_tup, fiEnumA, iEnumGA_tup, iEnumGA_str, fiZip, Bool.false_or, Bool.true_or, Bool.or_false, Bool.or_true, Bool.false_and, Bool.true_and, Bool.and_false, Bool.and_true, Bool.or_eq_false_iff, Bool.not_eq_true', Bool.not_eq_false', nList, nTuple, oAdd_int, line, Bool.or_eq_true, Bool.and_eq_true, Bool.not_eq_true]
          have e5' : (S5 ++ [Cell.fn])[r]? = some (.lst xs) := (Stp.refl (b := b).push).at hrb e5
          refine w_spoilt b5.push hrb e5' p5 (by omega) (by omega) fun v S6 hv s6 => ?_
          have s6 := Stp.refl.push.trans s6
          have b6 := s6.box b5
          refine w_name_right hv ?_
          try simp -implicitDefEqProofs only [startE, OutS.toOut, sNext, sIf, sAsg, sRet, sRetN, sExpr, sBreak, sCont, sPar, par2, sAug, sRaise, fVar, fC, tyN, isi_NoneType_bool, isi_NoneType_int, isi_NoneType_str, isi_NoneType_tuple, isi_NoneType_list, isi_bool_bool, isi_bool_int, isi_bool_str, isi_bool_tuple, isi_bool_list, isi_int_bool, isi_int_int, isi_int_str, isi_int_tuple, isi_int_list, isi_str_bool, isi_str_int, isi_str_str, isi_str_tuple, isi_str_list, isi_tuple_bool, isi_tuple_int, isi_tuple_str, isi_tuple_tuple, isi_tuple_list, isi_list_bool, isi_list_int, isi_list_str, isi_list_tuple, isi_list_list, fBin, fCall, fNat, fIsi, fTru, fBl, fNotT, fAndT, fOrT, fAndV, fOrV, fNotV, fIf, fTup, fLst, fNeg, aNil, aCons, gNm, gSb, gTpT, gNms, blOf, o2I, n1I, n2I, nLen_eq, oSub, oMod, oDiv, oGt, oGe, oLe, oLt, pw10_4, pw10_6, pw10_9, pw10_12, pw10_18, pw10_20, pw10_30, pw10_40, pw2_32, pw2_63, pw2_64, List.length_cons, List.length_nil, List.map_cons, List.map_nil, List.getElem?_cons_zero, List.getElem?_cons_succ, List.set_cons_zero, List.set_cons_succ, List.replicate, List.cons_append, List.nil_append, List.append_nil, Option.map_some, Option.map_none, id, ite_true, ite_false, if_true, if_false, Nat.zero_add, Nat.reduceAdd, Nat.reduceSub, Nat.reduceLeDiff, Bool.not_true, Bool.not_false, Bool.false_eq_true, reduceIte, reduceCtorEq, Int.reduceLT, Int.reduceLE, Int.reduceEq, Int.reduceNe, Nat.reduceLT, Nat.reduceEqDiff, decide_true, decide_false, Int.reduceAdd, Int.reduceSub, Int.reduceNeg, Int.reducePow, Int.reduceMul, Int.reduceToNat, wp_ok, wp_exc, wp_bad, wp_bind, bind_ok, wp_of, wr_some, wr_ite, of_some, tst_some, and_ok, or_ok, ws_nx, ws_rt, ws_bk, ws_ct, ws_exc, ws_then, wp_ite, ws_ite, decide_eq_true_eq, decide_eq_false_iff_not, true_implies, false_implies, implies_true, not_true_eq_false, not_false_eq_true, true_and, and_true, forall_const, fMeth, isTy_s, isTy_l, Option.isSome_some, and_self, fSlice, pNone, pSome, ws_sFor, fiSeq, fiRng1, fiRng2, wp_fLc, wp_outI_some, wp_rng1, wp_rng2, oEq_int, oNe_int, oEq_str, oNe_str, oEq_bl, oIs_non, oIsNot_non, isNon_non, isNon_int, isNon_bl, isNon_str, isNon_tup, isNon_ref, tru_non, tru_bl, tru_int, tru_tup, lenG_tup, oLt_str, oNotIn_str, oIn_str, seqG_tup, seqG_ref, iSeqG_tup, fiEnumA, iEnumGA_tup, iEnumGA_str, fiZip, Bool.false_or, Bool.true_or, Bool.or_false, Bool.or_true, Bool.false_and, Bool.true_and, Bool.and_false, Bool.and_true, Bool.or_eq_false_iff, Bool.not_eq_true', Bool.not_eq_false', nList, nTuple, oAdd_int, line, Bool.or_eq_true, Bool.and_eq_true, Bool.not_eq_true]
          refine w_joined b6.push fun S7 s7 => ?_
          have s7 := Stp.refl.push.trans s7
          have b7 := s7.box b6
          have e7 := (s6.trans s7).at hrb e5
          try simp -implicitDefEqProofs only [startE, OutS.toOut, sNext, sIf, sAsg, sRet, sRetN, sExpr, sBreak, sCont, sPar, par2, sAug, sRaise, fVar, fC, tyN, isi_NoneType_bool, isi_NoneType_int, isi_NoneType_str, isi_NoneType_tuple, isi_NoneType_list, isi_bool_bool, isi_bool_int, isi_bool_str, isi_bool_tuple, isi_bool_list, isi_int_bool, isi_int_int, isi_int_str, isi_int_tuple, isi_int_list, isi_str_bool, isi_str_int, isi_str_str, isi_str_tuple, isi_str_list, isi_tuple_bool, isi_tuple_int, isi_tuple_str, isi_tuple_tuple, isi_tuple_list, isi_list_bool, isi_list_int, isi_list_str, isi_list_tuple, isi_list_list, fBin, fCall, fNat, fIsi, fTru, fBl, fNotT, fAndT, fOrT, fAndV, fOrV, fNotV, fIf, fTup, fLst, fNeg, aNil, aCons, gNm, gSb, gTpT, gNms, blOf, o2I, n1I, n2I, nLen_eq, oSub, oMod, oDiv, oGt, oGe, oLe, oLt, pw10_4, pw10_6, pw10_9, pw10_12, pw10_18, pw10_20, pw10_30, pw10_40, pw2_32, pw2_63, pw2_64, List.length_cons, List.length_nil, List.map_cons, List.map_nil, List.getElem?_cons_zero, List.getElem?_cons_succ, List.set_cons_zero, List.set_cons_succ, List.replicate, List.cons_append, List.nil_append, List.append_nil, Option.map_some, Option.map_none, id, ite_true, ite_false, if_true, if_false, Nat.zero_add, Nat.reduceAdd, Nat.reduceSub, Nat.reduceLeDiff, Bool.not_true, Bool.not_false, Bool.false_eq_true, reduceIte, reduceCtorEq, Int.reduceLT, Int.reduceLE, Int.reduceEq, Int.reduceNe, Nat.reduceLT, Nat.reduceEqDiff, decide_true, decide_false, Int.reduceAdd, Int.reduceSub, Int.reduceNeg, Int.reducePow, Int.reduceMul, Int.reduceToNat, wp_ok, wp_exc, wp_bad, wp_bind, bind_ok, wp_of, wr_some, wr_ite, of_some, tst_some, and_ok, or_ok, ws_nx, ws_rt, ws_bk, ws_ct, ws_exc, ws_then, wp_ite, ws_ite, decide_eq_true_eq, decide_eq_false_iff_not, true_implies, false_implies, implies_true, not_true_eq_false, not_false_eq_true, true_and, and_true, forall_const, fMeth, isTy_s, isTy_l, Option.isSome_some, and_self, fSlice, pNone, pSome, ws_sFor, fiSeq, fiRng1, fiRng2, wp_fLc, wp_outI_some, wp_rng1, wp_rng2, oEq_int, oNe_int, oEq_str, oNe_str, oEq_bl, oIs_non, oIsNot_non, isNon_non, isNon_int, isNon_bl, isNon_str, isNon_tup, isNon_ref, tru_non, tru_bl, tru_int, tru_tup, lenG_tup, oLt_str, oNotIn_str, oIn_str, seqG_tup, seqG_ref, iSeqG_tup, fiEnumA, iEnumGA_tup, iEnumGA_str, fiZip, Bool.false_or, Bool.true_or, Bool.or_false, Bool.or_true, Bool.false_and, Bool.true_and, Bool.and_false, Bool.and_true, Bool.or_eq_false_iff, Bool.not_eq_true', Bool.not_eq_false', nList, nTuple, oAdd_int, line, Bool.or_eq_true, Bool.and_eq_true, Bool.not_eq_true]
          refine ws_seq ?_
          try simp -implicitDefEqProofs only [startE, OutS.toOut, sNext, sIf, sAsg, sRet, sRetN, sExpr, sBreak, sCont, sPar, par2, sAug, sRaise, fVar, fC, tyN, isi_NoneType_bool, isi_NoneType_int, isi_NoneType_str, isi_NoneType_tuple, isi_NoneType_list, isi_bool_bool, isi_bool_int, isi_bool_str, isi_bool_tuple, isi_bool_list, isi_int_bool, isi_int_int, isi_int_str, isi_int_tuple, isi_int_list, isi_str_bool, isi_str_int, isi_str_str, isi_str_tuple, isi_str_list, isi_tuple_bool, isi_tuple_int, isi_tuple_str, isi_tuple_tuple, isi_tuple_list, isi_list_bool, isi_list_int, isi_list_str, isi_list_tuple, isi_list_list, fBin, fCall, fNat, fIsi, fTru, fBl, fNotT, fAndT, fOrT, fAndV, fOrV, fNotV, fIf, fTup, fLst, fNeg, aNil, aCons, gNm, gSb, gTpT, gNms, blOf, o2I, n1I, n2I, nLen_eq, oSub, oMod, oDiv, oGt, oGe, oLe, oLt, pw10_4, pw10_6, pw10_9, pw10_12, pw10_18, pw10_20, pw10_30, pw10_40, pw2_32, pw2_63, pw2_64, List.length_cons, List.length_nil, List.map_cons, List.map_nil, List.getElem?_cons_zero, List.getElem?_cons_succ, List.set_cons_zero, List.set_cons_succ, List.replicate, List.cons_append, List.nil_append, List.append_nil, Option.map_some, Option.map_none, id, ite_true, ite_false, if_true, if_false, Nat.zero_add, Nat.reduceAdd, Nat.reduceSub, Nat.reduceLeDiff, Bool.not_true, Bool.not_false, Bool.false_eq_true, reduceIte, reduceCtorEq, Int.reduceLT, Int.reduceLE, Int.reduceEq, Int.reduceNe, Nat.reduceLT, Nat.reduceEqDiff, decide_true, decide_false, Int.reduceAdd, Int.reduceSub, Int.reduceNeg, Int.reducePow, Int.reduceMul, Int.reduceToNat, wp_ok, wp_exc, wp_bad, wp_bind, bind_ok, wp_of, wr_some, wr_ite, of_some, tst_some, and_ok, or_ok, ws_nx, ws_rt, ws_bk, ws_ct, ws_exc, ws_then, wp_ite, ws_ite, decide_eq_true_eq, decide_eq_false_iff_not, true_implies, false_implies, implies_true, not_true_eq_false, not_false_eq_true, true_and, and_true, forall_const, fMeth, isTy_s, isTy_l, Option.isSome_some, and_self, fSlice, pNone, pSome, ws_sFor, fiSeq, fiRng1, fiRng2, wp_fLc, wp_outI_some, wp_rng1, wp_rng2, oEq_int, oNe_int, oEq_str, oNe_str, oEq_bl, oIs_non, oIsNot_non, isNon_non, isNon_int, isNon_bl, isNon_str, isNon_tup, isNon_ref, tru_non, tru_bl, tru_int, tru_tup, lenG_tup, oLt_str, oNotIn_str, oIn_str, seqG_tup, seqG_ref, iSeqG_tup, fiEnumA, iEnumGA_tup, iEnumGA_str, fiZip, Bool.false_or, Bool.true_or, Bool.or_false, Bool.or_true, Bool.false_and, Bool.true_and, Bool.and_false, Bool.and_true, Bool.or_eq_false_iff, Bool.not_eq_true', Bool.not_eq_false', nList, nTuple, oAdd_int, line, Bool.or_eq_true, Bool.and_eq_true, Bool.not_eq_true]
          refine w_spoilt b7 hrb e7 p5 (by omega) (by omega) fun v S8 hv s8 => ?_
          have b8 := s8.box b7
          refine w_name_right hv ?_
          try simp -implicitDefEqProofs only [startE, OutS.toOut, sNext, sIf, sAsg, sRet, sRetN, sExpr, sBreak, sCont, sPar, par2, sAug, sRaise, fVar, fC, tyN, isi_NoneType_bool, isi_NoneType_int, isi_NoneType_str, isi_NoneType_tuple, isi_NoneType_list, isi_bool_bool, isi_bool_int, isi_bool_str, isi_bool_tuple, isi_bool_list, isi_int_bool, isi_int_int, isi_int_str, isi_int_tuple, isi_int_list, isi_str_bool, isi_str_int, isi_str_str, isi_str_tuple, isi_str_list, isi_tuple_bool, isi_tuple_int, isi_tuple_str, isi_tuple_tuple, isi_tuple_list, isi_list_bool, isi_list_int, isi_list_str, isi_list_tuple, isi_list_list, fBin, fCall, fNat, fIsi, fTru, fBl, fNotT, fAndT, fOrT, fAndV, fOrV, fNotV, fIf, fTup, fLst, fNeg, aNil, aCons, gNm, gSb, gTpT, gNms, blOf, o2I, n1I, n2I, nLen_eq, oSub, oMod, oDiv, oGt, oGe, oLe, oLt, pw10_4, pw10_6, pw10_9, pw10_12, pw10_18, pw10_20, pw10_30, pw10_40, pw2_32, pw2_63, pw2_64, List.length_cons, List.length_nil, List.map_cons, List.map_nil, List.getElem?_cons_zero, List.getElem?_cons_succ, List.set_cons_zero, List.set_cons_succ, List.replicate, List.cons_append, List.nil_append, List.append_nil, Option.map_some, Option.map_none, id, ite_true, ite_false, if_true, if_false, Nat.zero_add, Nat.reduceAdd, Nat.reduceSub, Nat.reduceLeDiff, Bool.not_true, Bool.not_false, Bool.false_eq_true, reduceIte, reduceCtorEq, Int.reduceLT, Int.reduceLE, Int.reduceEq, Int.reduceNe, Nat.reduceLT, Nat.reduceEqDiff, decide_true, decide_false, Int.reduceAdd, Int.reduceSub, Int.reduceNeg, Int.reducePow, Int.reduceMul, Int.reduceToNat, wp_ok, wp_exc, wp_bad, wp_bind, bind_ok, wp_of, wr_some, wr_ite, of_some, tst_some, and_ok, or_ok, ws_nx, ws_rt, ws_bk, ws_ct, ws_exc, ws_then, wp_ite, ws_ite, decide_eq_true_eq, decide_eq_false_iff_not, true_implies, false_implies, implies_true, not_true_eq_false, not_false_eq_true, true_and, and_true, forall_const, fMeth, isTy_s, isTy_l, Option.isSome_some, and_self, fSlice, pNone, pSome, ws_sFor, fiSeq, fiRng1, fiRng2, wp_fLc, wp_outI_some, wp_rng1, wp_rng2, oEq_int, oNe_int, oEq_str, oNe_str, oEq_bl, oIs_non, oIsNot_non, isNon_non, isNon_int, isNon_bl, isNon_str, isNon_tup, isNon_ref, tru_non, tru_bl, tru_int, tru_tup, lenG_tup, oLt_str, oNotIn_str, oIn_str, seqG_tup, seqG_ref, iSeqG_tup, fiEnumA, iEnumGA_tup, iEnumGA_str, fiZip, Bool.false_or, Bool.true_or, Bool.or_false, Bool.or_true, Bool.false_and, Bool.true_and, Bool.and_false, Bool.and_true, Bool.or_eq_false_iff, Bool.not_eq_true', Bool.not_eq_false', nList, nTuple, oAdd_int, line, Bool.or_eq_true, Bool.and_eq_true, Bool.not_eq_true]
          have lz := lf_good az z1 z2
          have hsame : ∀ {S : Store} {v : T}, MvP (fun _ => True) S 2 v → g_law_same 8 [v, v] S = .ok (.bl true) S := fun hv => same_ok 8 _ (hv.okv.mono (by decide))
          have e8 := s8.at hrb e7
          have e9 : (S8 ++ [Cell.fn])[r]? = some (.lst xs) := (Stp.refl (b := b).push).at hrb e8
          simp -implicitDefEqProofs only [startE, OutS.toOut, sNext, sIf, sAsg, sRet, sRetN, sExpr, sBreak, sCont, sPar, par2, sAug, sRaise, fVar, fC, tyN, isi_NoneType_bool, isi_NoneType_int, isi_NoneType_str, isi_NoneType_tuple, isi_NoneType_list, isi_bool_bool, isi_bool_int, isi_bool_str, isi_bool_tuple, isi_bool_list, isi_int_bool, isi_int_int, isi_int_str, isi_int_tuple, isi_int_list, isi_str_bool, isi_str_int, isi_str_str, isi_str_tuple, isi_str_list, isi_tuple_bool, isi_tuple_int, isi_tuple_str, isi_tuple_tuple, isi_tuple_list, isi_list_bool, isi_list_int, isi_list_str, isi_list_tuple, isi_list_list, fBin, fCall, fNat, fIsi, fTru, fBl, fNotT, fAndT, fOrT, fAndV, fOrV, fNotV, fIf, fTup, fLst, fNeg, aNil, aCons, gNm, gSb, gTpT, gNms, blOf, o2I, n1I, n2I, nLen_eq, oSub, oMod, oDiv, oGt, oGe, oLe, oLt, pw10_4, pw10_6, pw10_9, pw10_12, pw10_18, pw10_20, pw10_30, pw10_40, pw2_32, pw2_63, pw2_64, List.length_cons, List.length_nil, List.map_cons, List.map_nil, List.getElem?_cons_zero, List.getElem?_cons_succ, List.set_cons_zero, List.set_cons_succ, List.replicate, List.cons_append, List.nil_append, List.append_nil, Option.map_some, Option.map_none, id, ite_true, ite_false, if_true, if_false, Nat.zero_add, Nat.reduceAdd, Nat.reduceSub, Nat.reduceLeDiff, Bool.not_true, Bool.not_false, Bool.false_eq_true, reduceIte, reduceCtorEq, Int.reduceLT, Int.reduceLE, Int.reduceEq, Int.reduceNe, Nat.reduceLT, Nat.reduceEqDiff, decide_true, decide_false, Int.reduceAdd, Int.reduceSub, Int.reduceNeg, Int.reducePow, Int.reduceMul, Int.reduceToNat, wp_ok, wp_exc, wp_bad, wp_bind, bind_ok, wp_of, wr_some, wr_ite, of_some, tst_some, and_ok, or_ok, ws_nx, ws_rt, ws_bk, ws_ct, ws_exc, ws_then, wp_ite, ws_ite, decide_eq_true_eq, decide_eq_false_iff_not, true_implies, false_implies, implies_true, not_true_eq_false, not_false_eq_true, true_and, and_true, forall_const, fMeth, isTy_s, isTy_l, Option.isSome_some, and_self, fSlice, pNone, pSome, ws_sFor, fiSeq, fiRng1, fiRng2, wp_fLc, wp_outI_some, wp_rng1, wp_rng2, oEq_int, oNe_int, oEq_str, oNe_str, oEq_bl, oIs_non, oIsNot_non, isNon_non, isNon_int, isNon_bl, isNon_str, isNon_tup, isNon_ref, tru_non, tru_bl, tru_int, tru_tup, lenG_tup, oLt_str, oNotIn_str, oIn_str, seqG_tup, seqG_ref, iSeqG_tup, fiEnumA, iEnumGA_tup, iEnumGA_str, fiZip, Bool.false_or, Bool.true_or, Bool.or_false, Bool.or_true, Bool.false_and, Bool.true_and, Bool.and_false, Bool.and_true, Bool.or_eq_false_iff, Bool.not_eq_true', Bool.not_eq_false', nList, nTuple, oAdd_int, line, Bool.or_eq_true, Bool.and_eq_true, Bool.not_eq_true, fCallK, kw_value]
          refine w_check_label (hm (p := fun _ => True) (n := 0)).lv (fun _ => ?_) fun i q => (by rw [lz] at q; cases q)
          have sl9 := slice_lst (k := 6) (getL_lst e9)
          have sl9 : sliceG (S8 ++ [Cell.fn]) (.ref r) none (some 6) = some (.ref (S8 ++ [Cell.fn]).length, S8 ++ [Cell.fn] ++ [.lst (xs.take 6)]) := sl9
          obtain ⟨S9, q9⟩ : ∃ S9, S9 = S8 ++ [Cell.fn] := ⟨_, rfl⟩
          rw [← q9] at sl9 e9
          simp only [← q9]
          have s9 : Stp b S8 S9 := by rw [q9]; exact Stp.refl.push
          obtain ⟨S10, q10⟩ : ∃ S10, S10 = S9 ++ [Cell.lst (xs.take 6)] := ⟨_, rfl⟩
          rw [← q10] at sl9
          have s10 : Stp b S9 S10 := by rw [q10]; exact Stp.refl.push
          have g10 : getL S10 S9.length = some (xs.take 6) := by rw [q10]; exact getL_end
          have e10 := s10.at hrb e9
          have pt : ∀ x ∈ xs.take 6, LabT x := fun x hx => p5 x (List.mem_of_mem_take hx)
          have lt : (xs.take 6).length ≤ 6 := by rw [List.length_take]; omega
          have lt1 : 1 ≤ (xs.take 6).length := by rw [List.length_take]; omega
          have mt : ∀ {S : Store}, MvP (fun _ => True) S 2 (.tup (xs.take 6)) := fun {S} => ⟨by omega, fun x hx => by obtain ⟨z, rfl, _, _, h⟩ := pt x hx; exact Nat.le_trans h (by decide)⟩
          simp -implicitDefEqProofs only [startE, OutS.toOut, sNext, sIf, sAsg, sRet, sRetN, sExpr, sBreak, sCont, sPar, par2, sAug, sRaise, fVar, fC, tyN, isi_NoneType_bool, isi_NoneType_int, isi_NoneType_str, isi_NoneType_tuple, isi_NoneType_list, isi_bool_bool, isi_bool_int, isi_bool_str, isi_bool_tuple, isi_bool_list, isi_int_bool, isi_int_int, isi_int_str, isi_int_tuple, isi_int_list, isi_str_bool, isi_str_int, isi_str_str, isi_str_tuple, isi_str_list, isi_tuple_bool, isi_tuple_int, isi_tuple_str, isi_tuple_tuple, isi_tuple_list, isi_list_bool, isi_list_int, isi_list_str, isi_list_tuple, isi_list_list, fBin, fCall, fNat, fIsi, fTru, fBl, fNotT, fAndT, fOrT, fAndV, fOrV, fNotV, fIf, fTup, fLst, fNeg, aNil, aCons, gNm, gSb, gTpT, gNms, blOf, o2I, n1I, n2I, nLen_eq, oSub, oMod, oDiv, oGt, oGe, oLe, oLt, pw10_4, pw10_6, pw10_9, pw10_12, pw10_18, pw10_20, pw10_30, pw10_40, pw2_32, pw2_63, pw2_64, List.length_cons, List.length_nil, List.map_cons, List.map_nil, List.getElem?_cons_zero, List.getElem?_cons_succ, List.set_cons_zero, List.set_cons_succ, List.replicate, List.cons_append, List.nil_append, List.append_nil, Option.map_some, Option.map_none, id, ite_true, ite_false, if_true, if_false, Nat.zero_add, Nat.reduceAdd, Nat.reduceSub, Nat.reduceLeDiff, Bool.not_true, Bool.not_false, Bool.false_eq_true, reduceIte, reduceCtorEq, Int.reduceLT, Int.reduceLE, Int.reduceEq, Int.reduceNe, Nat.reduceLT, Nat.reduceEqDiff, decide_true, decide_false, Int.reduceAdd, Int.reduceSub, Int.reduceNeg, Int.reducePow, Int.reduceMul, Int.reduceToNat, wp_ok, wp_exc, wp_bad, wp_bind, bind_ok, wp_of, wr_some, wr_ite, of_some, tst_some, and_ok, or_ok, ws_nx, ws_rt, ws_bk, ws_ct, ws_exc, ws_then, wp_ite, ws_ite, decide_eq_true_eq, decide_eq_false_iff_not, true_implies, false_implies, implies_true, not_true_eq_false, not_false_eq_true, true_and, and_true, forall_const, fMeth, isTy_s, isTy_l, Option.isSome_some, and_self, fSlice, pNone, pSome, ws_sFor, fiSeq, fiRng1, fiRng2, wp_fLc, wp_outI_some, wp_rng1, wp_rng2, oEq_int, oNe_int, oEq_str, oNe_str, oEq_bl, oIs_non, oIsNot_non, isNon_non, isNon_int, isNon_bl, isNon_str, isNon_tup, isNon_ref, tru_non, tru_bl, tru_int, tru_tup, lenG_tup, oLt_str, oNotIn_str, oIn_str, seqG_tup, seqG_ref, iSeqG_tup, fiEnumA, iEnumGA_tup, iEnumGA_str, fiZip, Bool.false_or, Bool.true_or, Bool.or_false, Bool.or_true, Bool.false_and, Bool.true_and, Bool.and_false, Bool.and_true, Bool.or_eq_false_iff, Bool.not_eq_true', Bool.not_eq_false', nList, nTuple, oAdd_int, line, Bool.or_eq_true, Bool.and_eq_true, Bool.not_eq_true, hsame (v := .str z) hm, sl9, g10]
          refine w_check_name (p := fun _ => True) (n := 3) mt.mono.mono (fun _ => ?_) fun i q => (by rw [nf_good pt lt1 lt] at q; cases q)
          have sl10 := slice_lst (k := 6) (getL_lst e10)
          have sl10 : sliceG S10 (.ref r) none (some 6) = some (.ref S10.length, S10 ++ [.lst (xs.take 6)]) := sl10
          obtain ⟨S11, q11⟩ : ∃ S11, S11 = S10 ++ [Cell.lst (xs.take 6)] := ⟨_, rfl⟩
          rw [← q11] at sl10
          have s11 : Stp b S10 S11 := by rw [q11]; exact Stp.refl.push
          have g11 : getL S11 S10.length = some (xs.take 6) := by rw [q11]; exact getL_end
          simp -implicitDefEqProofs only [startE, OutS.toOut, sNext, sIf, sAsg, sRet, sRetN, sExpr, sBreak, sCont, sPar, par2, sAug, sRaise, fVar, fC, tyN, isi_NoneType_bool, isi_NoneType_int, isi_NoneType_str, isi_NoneType_tuple, isi_NoneType_list, isi_bool_bool, isi_bool_int, isi_bool_str, isi_bool_tuple, isi_bool_list, isi_int_bool, isi_int_int, isi_int_str, isi_int_tuple, isi_int_list, isi_str_bool, isi_str_int, isi_str_str, isi_str_tuple, isi_str_list, isi_tuple_bool, isi_tuple_int, isi_tuple_str, isi_tuple_tuple, isi_tuple_list, isi_list_bool, isi_list_int, isi_list_str, isi_list_tuple, isi_list_list, fBin, fCall, fNat, fIsi, fTru, fBl, fNotT, fAndT, fOrT, fAndV, fOrV, fNotV, fIf, fTup, fLst, fNeg, aNil, aCons, gNm, gSb, gTpT, gNms, blOf, o2I, n1I, n2I, nLen_eq, oSub, oMod, oDiv, oGt, oGe, oLe, oLt, pw10_4, pw10_6, pw10_9, pw10_12, pw10_18, pw10_20, pw10_30, pw10_40, pw2_32, pw2_63, pw2_64, List.length_cons, List.length_nil, List.map_cons, List.map_nil, List.getElem?_cons_zero, List.getElem?_cons_succ, List.set_cons_zero, List.set_cons_succ, List.replicate, List.cons_append, List.nil_append, List.append_nil, Option.map_some, Option.map_none, id, ite_true, ite_false, if_true, if_false, Nat.zero_add, Nat.reduceAdd, Nat.reduceSub, Nat.reduceLeDiff, Bool.not_true, Bool.not_false, Bool.false_eq_true, reduceIte, reduceCtorEq, Int.reduceLT, Int.reduceLE, Int.reduceEq, Int.reduceNe, Nat.reduceLT, Nat.reduceEqDiff, decide_true, decide_false, Int.reduceAdd, Int.reduceSub, Int.reduceNeg, Int.reducePow, Int.reduceMul, Int.reduceToNat, wp_ok, wp_exc, wp_bad, wp_bind, bind_ok, wp_of, wr_some, wr_ite, of_some, tst_some, and_ok, or_ok, ws_nx, ws_rt, ws_bk, ws_ct, ws_exc, ws_then, wp_ite, ws_ite, decide_eq_true_eq, decide_eq_false_iff_not, true_implies, false_implies, implies_true, not_true_eq_false, not_false_eq_true, true_and, and_true, forall_const, fMeth, isTy_s, isTy_l, Option.isSome_some, and_self, fSlice, pNone, pSome, ws_sFor, fiSeq, fiRng1, fiRng2, wp_fLc, wp_outI_some, wp_rng1, wp_rng2, oEq_int, oNe_int, oEq_str, oNe_str, oEq_bl, oIs_non, oIsNot_non, isNon_non, isNon_int, isNon_bl, isNon_str, isNon_tup, isNon_ref, tru_non, tru_bl, tru_int, tru_tup, lenG_tup, oLt_str, oNotIn_str, oIn_str, seqG_tup, seqG_ref, iSeqG_tup, fiEnumA, iEnumGA_tup, iEnumGA_str, fiZip, Bool.false_or, Bool.true_or, Bool.or_false, Bool.or_true, Bool.false_and, Bool.true_and, Bool.and_false, Bool.and_true, Bool.or_eq_false_iff, Bool.not_eq_true', Bool.not_eq_false', nList, nTuple, oAdd_int, line, Bool.or_eq_true, Bool.and_eq_true, Bool.not_eq_true, sl10, g11, hsame mt]
          exact ⟨⟨_, _, _, _, rfl⟩, s0.trans (s1.trans (s2.trans (s3.trans (s4.trans (s5.trans (s6.trans (s7.trans (s8.trans (s9.trans (s10.trans s11))))))))))⟩
        · obtain ⟨⟨a, a2, a5, a6, rfl⟩, s'⟩ := hI
          exact ⟨⟨_, _, _, _, _, _, rfl⟩, s'.get hz gb⟩
      · obtain ⟨⟨a, a2, a3, a4, a5, a6, rfl⟩, gs⟩ := hI
        simp -implicitDefEqProofs only [startE, OutS.toOut, sNext, sIf, sAsg, sRet, sRetN, sExpr, sBreak, sCont, sPar, par2, sAug, sRaise, fVar, fC, tyN, isi_NoneType_bool, isi_NoneType_int, isi_NoneType_str, isi_NoneType_tuple, isi_NoneType_list, isi_bool_bool, isi_bool_int, isi_bool_str, isi_bool_tuple, isi_bool_list, isi_int_bool, isi_int_int, isi_int_str, isi_int_tuple, isi_int_list, isi_str_bool, isi_str_int, isi_str_str, isi_str_tuple, isi_str_list, isi_tuple_bool, isi_tuple_int, isi_tuple_str, isi_tuple_tuple, isi_tuple_list, isi_list_bool, isi_list_int, isi_list_str, isi_list_tuple, isi_list_list, fBin, fCall, fNat, fIsi, fTru, fBl, fNotT, fAndT, fOrT, fAndV, fOrV, fNotV, fIf, fTup, fLst, fNeg, aNil, aCons, gNm, gSb, gTpT, gNms, blOf, o2I, n1I, n2I, nLen_eq, oSub, oMod, oDiv, oGt, oGe, oLe, oLt, pw10_4, pw10_6, pw10_9, pw10_12, pw10_18, pw10_20, pw10_30, pw10_40, pw2_32, pw2_63, pw2_64, List.length_cons, List.length_nil, List.map_cons, List.map_nil, List.getElem?_cons_zero, List.getElem?_cons_succ, List.set_cons_zero, List.set_cons_succ, List.replicate, List.cons_append, List.nil_append, List.append_nil, Option.map_some, Option.map_none, id, ite_true, ite_false, if_true, if_false, Nat.zero_add, Nat.reduceAdd, Nat.reduceSub, Nat.reduceLeDiff, Bool.not_true, Bool.not_false, Bool.false_eq_true, reduceIte, reduceCtorEq, Int.reduceLT, Int.reduceLE, Int.reduceEq, Int.reduceNe, Nat.reduceLT, Nat.reduceEqDiff, decide_true, decide_false, Int.reduceAdd, Int.reduceSub, Int.reduceNeg, Int.reducePow, Int.reduceMul, Int.reduceToNat, wp_ok, wp_exc, wp_bad, wp_bind, bind_ok, wp_of, wr_some, wr_ite, of_some, tst_some, and_ok, or_ok, ws_nx, ws_rt, ws_bk, ws_ct, ws_exc, ws_then, wp_ite, ws_ite, decide_eq_true_eq, decide_eq_false_iff_not, true_implies, false_implies, implies_true, not_true_eq_false, not_false_eq_true, true_and, and_true, forall_const, fMeth, isTy_s, isTy_l, Option.isSome_some, and_self, fSlice, pNone, pSome, ws_sFor, fiSeq, fiRng1, fiRng2, wp_fLc, wp_outI_some, wp_rng1, wp_rng2, oEq_int, oNe_int, oEq_str, oNe_str, oEq_bl, oIs_non, oIsNot_non, isNon_non, isNon_int, isNon_bl, isNon_str, isNon_tup, isNon_ref, tru_non, tru_bl, tru_int, tru_tup, lenG_tup, oLt_str, oNotIn_str, oIn_str, seqG_tup, seqG_ref, iSeqG_tup, fiEnumA, iEnumGA_tup, iEnumGA_str, fiZip, Bool.false_or, Bool.true_or, Bool.or_false, Bool.or_true, Bool.false_and, Bool.true_and, Bool.and_false, Bool.and_true, Bool.or_eq_false_iff, Bool.not_eq_true', Bool.not_eq_false', nList, nTuple, oAdd_int, line, Bool.or_eq_true, Bool.and_eq_true, Bool.not_eq_true]
end Fl

set_option Elab.async false
set_option linter.all false
set_option maxRecDepth 100000
set_option maxHeartbeats 0
open PySem PySem.W PySem.Calls PyProof.Rows
theorem PySem.Challenge.cw_goodtill_k04_labels_and_names_holds : PySem.Challenge.rw_goodtill_k04_labels_and_names.Holds := by
  w_on; o_law
  refine HandSHeadRun.head_any (r := OpenLaw.row PySem.Challenge.rw_goodtill_k04_labels_and_names) (q := Fl.qv) (H := Fl.hk0) (ob := Fl.ob0) (M := 20000) (loose := Fl.loose) (d := HandSHeadRun.topDef (OpenLaw.row PySem.Challenge.rw_goodtill_k04_labels_and_names).prog 42) (kwd := []) Fl.ob0_eq
    (by kernel_rfl) (fun s => by kernel_rfl) Fl.run0 (by kernel_rfl) (by kernel_rfl) (by kernel_rfl) (by rfl) (by first | assumption | decide +kernel) (by decide +kernel) ⟨rfl, rfl, rfl, rfl, rfl, by decide +kernel⟩ ?hw ?hc
  case hw => w_witness2
  case hc =>
    refine LamX.walk_ofTsE (l := PySem.Challenge.rw_goodtill_k04_labels_and_names) (n := 63) (k := 12) (x := "script") (CX := fun w => L2.CX Fl.P0 w) rfl (by decide) (by kernel_rfl) ⟨rfl, by decide, by decide⟩ ?F (fun _ _ _ _ _ z => ?C)
    case C =>
      obtain ⟨_, _, _, _, _, _, _, _, _, _, _, _, z⟩ := z
      exact z.elim
    case F =>
      intro w mg fa h Y G hmg0
      obtain ⟨K, c⟩ := Y
      have hmg : mg ("law" : PySem.Str) = some (.ref fa) := by
        have e : (HandSHeadRun.topDef (OpenLaw.row PySem.Challenge.rw_goodtill_k04_labels_and_names).prog 42).name = ("law" : PySem.Str) := by kernel_rfl
        rw [← e]
        exact hmg0
      exact ⟨K, c.kn, Fl.law_at (l := PySem.Challenge.rw_goodtill_k04_labels_and_names) (d := Fl.dd_law) c G hmg (List.mem_of_getElem? (show Fl.fn[23]? = some Fl.dd_law from rfl)) rfl (fun _ _ _ _ _ _ us hl => match us, hl with | [_], _ => rfl) (fun base hf => Fl.d_law hf) Fl.law_true⟩
