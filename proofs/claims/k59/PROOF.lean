import PyProof.Rows.All
import Wide.All
import OpenK.AllK
import Wide.FinOn
import HandS.ForMost
import HandS.Flow
import HandS.Wide
import HandS.WideMore
import HandS.TupLe
import HandS.TupAny
import HandS.TupMul
import HandS.Style
import HandS.Zip
import HandS.Deep
import HandS.Conv
import HandS.IsInst
import HandS.Defaults
import KE.GoesMore
import KE.GoesEnum
import PySem.Challenge.RW_whoevertakes_k59_frames_whole_cut_and_ch
set_option Elab.async false
set_option linter.all false
set_option maxRecDepth 100000
set_option maxHeartbeats 8000000
/-! a small language of values (trees, cells), its evaluation, and its tie to the layer's judgements -/
namespace QI
open PySem PySem.Spec PyProof.Rows L2

/-- a value: plain data (rol: a list that nobody writes; scr: one of the object's or the text's own); ref: the n-th cell of the store -/
inductive D where
  | non | bl (b : Bool) | int (i : Int) | str (x : Str) | tup (xs : List D) | rol (xs : List D) | scr (xs : List D) | ref (n : Nat)
inductive Cell where
  | lst (xs : List D) | ins (c : String) (fs : List (Str × D))
abbrev Sto := List Cell
abbrev Ev := List (Option D)
structure Exn where
  c : String
  d : D
inductive Rs (α : Type) where
  | ok (a : α) (st : Sto) | exn (e : Exn) (st : Sto) | bad
def Rs.bind {α β : Type} (r : Rs α) (f : α → Sto → Rs β) : Rs β := match r with
  | .ok a st => f a st
  | .exn e st => .exn e st
  | .bad => .bad
@[simp] theorem Rs.bind_ok {α β : Type} (a : α) (st : Sto) (f : α → Sto → Rs β) : (Rs.ok a st).bind f = f a st := rfl
@[simp] theorem Rs.bind_exn {α β : Type} (e : Exn) (st : Sto) (f : α → Sto → Rs β) : (Rs.exn e st).bind f = .exn e st := rfl
@[simp] theorem Rs.bind_bad {α β : Type} (f : α → Sto → Rs β) : (Rs.bad : Rs α).bind f = .bad := rfl
/-- no exception -/
def Rs.strict {α : Type} (r : Rs α) : Rs α := match r with
  | .ok a st => .ok a st
  | _ => .bad
@[simp] theorem Rs.strict_ok {α : Type} (a : α) (st : Sto) : (Rs.ok a st).strict = .ok a st := rfl
@[simp] theorem Rs.strict_exn {α : Type} (e : Exn) (st : Sto) : (Rs.exn e st : Rs α).strict = .bad := rfl
@[simp] theorem Rs.strict_bad {α : Type} : (Rs.bad : Rs α).strict = .bad := rfl
abbrev IE := Ev → Sto → Rs D
abbrev IL := Ev → Sto → Rs (List D)
abbrev IT := Ev → Sto → Rs Bool
inductive Fl where
  | nx (e : Ev) | rt (d : D) | bk (e : Ev) | ct (e : Ev)
abbrev IS := Ev → Sto → Rs Fl

/-- where the cells stand; what is kept for a list in the making -/
structure Mp where
  cs : List Addr
  rs : List Addr
def Mp.add (m : Mp) (p : Addr) : Mp := ⟨m.cs ++ [p], m.rs⟩
def Mp.hold (m : Mp) (p : Addr) : Mp := ⟨m.cs, p :: m.rs⟩
def Mp.take (m : Mp) (n : Nat) : Mp := ⟨m.cs.take n, m.rs⟩

/-- a tuple that stands for good -/
def ST (K : PySem.W.Frag) (H : Hp) (a : Addr) (xs : List V) : Prop :=
  H a = some (.tup xs) ∨ ∃ (o : Obj) (its : Array Value) (n : Nat), K.lookup a = some o ∧ o.cls = .type "tuple" ∧ o.data = .seq its n ∧ its.size ≤ sizeLine ∧ Vals xs its.toList
theorem ST.sq {K : PySem.W.Frag} {H : Hp} {a : Addr} {xs : List V} (h : ST K H a xs) : SqT K H a xs := by
  rcases h with h | h
  · exact .inl (.inl h)
  · exact .inr h
/-- a list that nobody writes: no cell -/
def RL (m : Mp) (H : Hp) (a : Addr) (xs : List V) : Prop := a ∉ m.cs ∧ a ∉ m.rs ∧ H a = some (.lst xs)
theorem RL.sq {K : PySem.W.Frag} {m : Mp} {H : Hp} {a : Addr} {xs : List V} (h : RL m H a xs) : SqL K H a xs := .inl (.inl h.2.2)
/-- a list known to the object, or of the text -/
def RX (K : PySem.W.Frag) (H : Hp) (a : Addr) (xs : List V) : Prop :=
  (∃ o, H a = some (.frz o (.lst xs))) ∨ ∃ (o : Obj) (its : Array Value) (n : Nat), K.lookup a = some o ∧ o.cls = .type "list" ∧ o.dict = none ∧ o.data = .seq its n ∧ its.size ≤ sizeLine ∧ Vals xs its.toList
theorem RX.sq {K : PySem.W.Frag} {H : Hp} {a : Addr} {xs : List V} (h : RX K H a xs) : SqL K H a xs := by
  rcases h with ⟨o, h⟩ | h
  · exact .inl (.inr ⟨o, h⟩)
  · exact .inr h

mutual
inductive RV (K : PySem.W.Frag) (m : Mp) (H : Hp) : D → V → Prop
  | non : RV K m H .non .non
  | bl (b : Bool) : RV K m H (.bl b) (.bl b)
  | int (i : Int) : RV K m H (.int i) (.int i)
  | str (x : Str) : RV K m H (.str x) (.str x)
  | tup {a : Addr} {vs : List V} {ds : List D} : ST K H a vs → RVs K m H ds vs → RV K m H (.tup ds) (.ref a)
  | rol {a : Addr} {vs : List V} {ds : List D} : RL m H a vs → RVs K m H ds vs → RV K m H (.rol ds) (.ref a)
  | scr {a : Addr} {vs : List V} {ds : List D} : RX K H a vs → RVs K m H ds vs → RV K m H (.scr ds) (.ref a)
  | ref {n : Nat} {a : Addr} : m.cs[n]? = some a → RV K m H (.ref n) (.ref a)
inductive RVs (K : PySem.W.Frag) (m : Mp) (H : Hp) : List D → List V → Prop
  | nil : RVs K m H [] []
  | cons {d : D} {ds : List D} {v : V} {vs : List V} : RV K m H d v → RVs K m H ds vs → RVs K m H (d :: ds) (v :: vs)
end

/-- what a run may do: new cells behind the old ones; all that is tracked and no cell stays -/
structure Grow (m : Mp) (H : Hp) (m' : Mp) (H' : Hp) : Prop where
  pre : m.cs <+: m'.cs
  rsv : m'.rs = m.rs
  frame : ∀ a o, a ∉ m.cs → H a = some o → H' a = some o
  new : ∀ a ∈ m'.cs, a ∈ m.cs ∨ H a = none
  tup : ∀ a xs, H a = some (.tup xs) → H' a = some (.tup xs)
  frz : ∀ a o xs, H a = some (.frz o (.lst xs)) → H' a = some (.frz o (.lst xs))
theorem Grow.refl (m : Mp) (H : Hp) : Grow m H m H := ⟨List.prefix_refl _, rfl, fun _ _ _ h => h, fun _ h => .inl h, fun _ _ h => h, fun _ _ _ h => h⟩
theorem Grow.trans {m m1 m2 : Mp} {H H1 H2 : Hp} (a : Grow m H m1 H1) (b : Grow m1 H1 m2 H2) : Grow m H m2 H2 where
  pre := a.pre.trans b.pre
  rsv := b.rsv.trans a.rsv
  frame := fun p o hn e => b.frame p o (fun q => by
    rcases a.new p q with z | z
    · exact hn z
    · rw [e] at z; cases z) (a.frame p o hn e)
  new := fun p q => by
    rcases b.new p q with z | z
    · exact a.new p z
    · by_cases hp : p ∈ m.cs
      · exact .inl hp
      · right
        cases e : H p with
        | none => rfl
        | some o => rw [a.frame p o hp e] at z; cases z
  tup := fun p xs e => b.tup p xs (a.tup p xs e)
  frz := fun p o xs e => b.frz p o xs (a.frz p o xs e)

section
variable {K : PySem.W.Frag} {m m' : Mp} {H H' : Hp}
theorem ST.mono {a : Addr} {xs : List V} (g : Grow m H m' H') (h : ST K H a xs) : ST K H' a xs := by
  rcases h with h | h
  · exact .inl (g.tup _ _ h)
  · exact .inr h
theorem RL.mono {a : Addr} {xs : List V} (g : Grow m H m' H') (h : RL m H a xs) : RL m' H' a xs := by
  obtain ⟨h1, h2, h3⟩ := h
  refine ⟨fun z => ?_, by rw [g.rsv]; exact h2, g.frame _ _ h1 h3⟩
  rcases g.new a z with q | q
  · exact h1 q
  · rw [h3] at q; cases q
theorem RX.mono {a : Addr} {xs : List V} (g : Grow m H m' H') (h : RX K H a xs) : RX K H' a xs := by
  rcases h with ⟨o, h⟩ | h
  · exact .inl ⟨o, g.frz _ _ _ h⟩
  · exact .inr h
theorem pre_get {α : Type} {l l' : List α} (h : l <+: l') {n : Nat} {a : α} (e : l[n]? = some a) : l'[n]? = some a := by
  obtain ⟨t, rfl⟩ := h
  have hl : n < l.length := by
    by_cases q : n < l.length
    · exact q
    · rw [List.getElem?_eq_none (by omega)] at e; cases e
  rw [List.getElem?_append_left hl]; exact e
/-- a relation of values that goes from one state to another -/
structure Moves (K : PySem.W.Frag) (m : Mp) (H : Hp) (m' : Mp) (H' : Hp) : Prop where
  tup : ∀ a xs, ST K H a xs → ST K H' a xs
  rol : ∀ a xs, RL m H a xs → RL m' H' a xs
  scr : ∀ a xs, RX K H a xs → RX K H' a xs
  ref : ∀ (n : Nat) (a : Addr), m.cs[n]? = some a → m'.cs[n]? = some a
theorem Grow.moves (g : Grow m H m' H') : Moves K m H m' H' := ⟨fun _ _ h => h.mono g, fun _ _ h => h.mono g, fun _ _ h => h.mono g, fun _ _ h => pre_get g.pre h⟩
mutual
theorem RV.moves (g : Moves K m H m' H') : ∀ {d : D} {v : V}, RV K m H d v → RV K m' H' d v
  | .non, _, h => by cases h; exact .non
  | .bl _, _, h => by cases h; exact .bl _
  | .int _, _, h => by cases h; exact .int _
  | .str _, _, h => by cases h; exact .str _
  | .tup ds, _, h => by
    cases h with
    | tup h1 h2 => exact .tup (g.tup _ _ h1) (RVs.moves g h2)
  | .rol ds, _, h => by
    cases h with
    | rol h1 h2 => exact .rol (g.rol _ _ h1) (RVs.moves g h2)
  | .scr ds, _, h => by
    cases h with
    | scr h1 h2 => exact .scr (g.scr _ _ h1) (RVs.moves g h2)
  | .ref n, _, h => by
    cases h with
    | ref h1 => exact .ref (g.ref _ _ h1)
theorem RVs.moves (g : Moves K m H m' H') : ∀ {ds : List D} {vs : List V}, RVs K m H ds vs → RVs K m' H' ds vs
  | [], _, h => by cases h; exact .nil
  | d :: ds, _, h => by
    cases h with
    | cons h1 h2 => exact .cons (RV.moves g h1) (RVs.moves g h2)
end
theorem RV.mono (g : Grow m H m' H') {d : D} {v : V} (h : RV K m H d v) : RV K m' H' d v := h.moves g.moves
theorem RVs.mono (g : Grow m H m' H') {ds : List D} {vs : List V} (h : RVs K m H ds vs) : RVs K m' H' ds vs := h.moves g.moves
theorem RVs.length : ∀ {ds : List D} {vs : List V}, RVs K m H ds vs → ds.length = vs.length
  | [], _, h => by cases h; rfl
  | d :: ds, _, h => by
    cases h with
    | cons h1 h2 => simp [RVs.length h2]
theorem RVs.append : ∀ {ds es : List D} {vs ws : List V}, RVs K m H ds vs → RVs K m H es ws → RVs K m H (ds ++ es) (vs ++ ws)
  | [], _, _, _, h, h' => by cases h; exact h'
  | d :: ds, _, _, _, h, h' => by
    cases h with
    | cons h1 h2 => exact .cons h1 (RVs.append h2 h')
theorem RVs.get : ∀ {ds : List D} {vs : List V} {i : Nat} {d : D}, RVs K m H ds vs → ds[i]? = some d → ∃ v, vs[i]? = some v ∧ RV K m H d v
  | [], _, _, _, h, e => by simp at e
  | d :: ds, _, 0, _, h, e => by
    cases h with
    | cons h1 h2 =>
      simp at e; subst e
      exact ⟨_, by simp, h1⟩
  | d :: ds, _, i + 1, _, h, e => by
    cases h with
    | cons h1 h2 =>
      obtain ⟨v, e2, r⟩ := RVs.get (i := i) h2 (by simpa using e)
      exact ⟨v, by simpa using e2, r⟩
theorem RVs.get_of : ∀ {ds : List D} {vs : List V} {i : Nat} {v : V}, RVs K m H ds vs → vs[i]? = some v → ∃ d, ds[i]? = some d ∧ RV K m H d v
  | [], _, _, _, h, e => by cases h; simp at e
  | d :: ds, _, 0, _, h, e => by
    cases h with
    | cons h1 h2 =>
      simp at e; subst e
      exact ⟨_, by simp, h1⟩
  | d :: ds, _, i + 1, _, h, e => by
    cases h with
    | cons h1 h2 =>
      obtain ⟨v, e2, r⟩ := RVs.get_of (i := i) h2 (by simpa using e)
      exact ⟨v, by simpa using e2, r⟩
theorem RVs.take : ∀ {ds : List D} {vs : List V} (n : Nat), RVs K m H ds vs → RVs K m H (ds.take n) (vs.take n)
  | _, _, 0, _ => by simp; exact .nil
  | [], _, n + 1, h => by cases h; exact .nil
  | d :: ds, _, n + 1, h => by
    cases h with
    | cons h1 h2 => exact .cons h1 (RVs.take n h2)
theorem RVs.drop : ∀ {ds : List D} {vs : List V} (n : Nat), RVs K m H ds vs → RVs K m H (ds.drop n) (vs.drop n)
  | _, _, 0, h => h
  | [], _, n + 1, h => by cases h; exact .nil
  | d :: ds, _, n + 1, h => by
    cases h with
    | cons h1 h2 => exact RVs.drop n h2
theorem RVs.set : ∀ {ds : List D} {vs : List V} {d : D} {v : V} (n : Nat), RV K m H d v → RVs K m H ds vs → RVs K m H (ds.set n d) (vs.set n v)
  | [], _, _, _, n, _, h => by cases h; exact .nil
  | d :: ds, _, _, _, 0, r, h => by
    cases h with
    | cons h1 h2 => exact .cons r h2
  | d :: ds, _, _, _, n + 1, r, h => by
    cases h with
    | cons h1 h2 => exact .cons h1 (RVs.set n r h2)
theorem RVs.eraseIdx : ∀ {ds : List D} {vs : List V} (n : Nat), RVs K m H ds vs → RVs K m H (ds.eraseIdx n) (vs.eraseIdx n)
  | [], _, n, h => by cases h; exact .nil
  | d :: ds, _, 0, h => by
    cases h with
    | cons h1 h2 => exact h2
  | d :: ds, _, n + 1, h => by
    cases h with
    | cons h1 h2 => exact .cons h1 (RVs.eraseIdx n h2)
theorem RVs.dropLast {ds : List D} {vs : List V} (h : RVs K m H ds vs) : RVs K m H ds.dropLast vs.dropLast := by
  rw [List.dropLast_eq_take, List.dropLast_eq_take, ← h.length]; exact h.take _
theorem RVs.reverse {ds : List D} {vs : List V} (h : RVs K m H ds vs) : RVs K m H ds.reverse vs.reverse := by
  induction ds generalizing vs with
  | nil => cases h; exact .nil
  | cons d ds ih =>
    cases h with
    | cons h1 h2 =>
      rw [List.reverse_cons, List.reverse_cons]
      exact (ih h2).append (.cons h1 .nil)
theorem RVs.flat {ds : List D} {vs : List V} (h : RVs K m H ds vs) : ∀ k : Nat, RVs K m H (List.replicate k ds).flatten (List.replicate k vs).flatten
  | 0 => .nil
  | k + 1 => by
    rw [List.replicate_succ, List.replicate_succ, List.flatten_cons, List.flatten_cons]
    exact h.append (RVs.flat h k)
end

/-! ### the store -/
inductive RFs (K : PySem.W.Frag) (m : Mp) (H : Hp) : List (Str × D) → List (Str × V) → Prop
  | nil : RFs K m H [] []
  | cons {f : Str} {d : D} {v : V} {ds : List (Str × D)} {vs : List (Str × V)} : RV K m H d v → RFs K m H ds vs → RFs K m H ((f, d) :: ds) ((f, v) :: vs)
theorem RFs.moves {K : PySem.W.Frag} {m m' : Mp} {H H' : Hp} (g : Moves K m H m' H') {ds : List (Str × D)} {vs : List (Str × V)} (h : RFs K m H ds vs) : RFs K m' H' ds vs := by
  induction h with
  | nil => exact .nil
  | cons r _ ih => exact .cons (r.moves g) ih

/-- the world of a proof: the written part, where the text's own classes stand -/
structure G0 where
  K : PySem.W.Frag
  ct : String → Addr
  P : Program
  w : World
abbrev gx (ct : String → Addr) (X : Cx) : G0 := ⟨X.K, ct, X.prog, X.w⟩

def RC (g : G0) (m : Mp) (H : Hp) (a : Addr) : Cell → Prop
  | .lst ds => ∃ vs, RVs g.K m H ds vs ∧ H a = some (.lst vs)
  | .ins c fs => ∃ dx vs, RFs g.K m H fs vs ∧ H a = some (.ins (g.ct c) dx vs)
structure RS (g : G0) (m : Mp) (H : Hp) (st : Sto) : Prop where
  len : m.cs.length = st.length
  nd : m.cs.Nodup
  hs : ∀ a ∈ m.rs, a ∉ m.cs ∧ ∃ o, H a = some o
  rc : ∀ (n : Nat) (a : Addr) (c : Cell), m.cs[n]? = some a → st[n]? = some c → RC g m H a c
structure RE (K : PySem.W.Frag) (m : Mp) (H : Hp) (env : Ev) (σ : L2.St) : Prop where
  len : env.length = σ.length
  at_ : ∀ (i : Nat) (d : D), env[i]? = some (some d) → ∃ v, σ[i]? = some (some v) ∧ RV K m H d v
def wipeE (env : Ev) : List Nat → Ev
  | [] => env
  | v :: vs => (wipeE env vs).set v none
section
variable {g : G0} {m m' : Mp} {H H' : Hp} {env : Ev} {σ : L2.St} {st : Sto}
theorem RE.moves (gr : Moves g.K m H m' H') (h : RE g.K m H env σ) : RE g.K m' H' env σ := ⟨h.len, fun i d e => let ⟨v, e2, r⟩ := h.at_ i d e; ⟨v, e2, r.moves gr⟩⟩
theorem RE.mono (gr : Grow m H m' H') (h : RE g.K m H env σ) : RE g.K m' H' env σ := h.moves gr.moves
theorem RE.set {d : D} {v : V} (h : RE g.K m H env σ) (r : RV g.K m H d v) (i : Nat) : RE g.K m H (env.set i (some d)) (σ.set i (some v)) := by
  refine ⟨by simp [h.len], fun j e q => ?_⟩
  by_cases hj : i = j
  · subst hj
    by_cases hl : i < env.length
    · rw [List.getElem?_set_self hl] at q
      cases q
      exact ⟨v, List.getElem?_set_self (by rw [← h.len]; exact hl), r⟩
    · rw [List.getElem?_eq_none (by simpa using hl)] at q; cases q
  · rw [List.getElem?_set_ne hj] at q
    obtain ⟨w, e2, r2⟩ := h.at_ j e q
    exact ⟨w, by rw [List.getElem?_set_ne hj]; exact e2, r2⟩
theorem RE.setNone (h : RE g.K m H env σ) (i : Nat) : RE g.K m H (env.set i none) (σ.set i none) := by
  refine ⟨by simp [h.len], fun j e q => ?_⟩
  by_cases hj : i = j
  · subst hj
    by_cases hl : i < env.length
    · rw [List.getElem?_set_self hl] at q; cases q
    · rw [List.getElem?_eq_none (by simpa using hl)] at q; cases q
  · rw [List.getElem?_set_ne hj] at q
    obtain ⟨w, e2, r2⟩ := h.at_ j e q
    exact ⟨w, by rw [List.getElem?_set_ne hj]; exact e2, r2⟩
theorem RE.wipe (h : RE g.K m H env σ) : ∀ vs : List Nat, RE g.K m H (wipeE env vs) (wipe σ vs)
  | [] => h
  | v :: vs => (RE.wipe h vs).setNone v
theorem lt_of_get {α : Type} {l : List α} {n : Nat} {a : α} (e : l[n]? = some a) : n < l.length := by
  by_cases q : n < l.length
  · exact q
  · rw [List.getElem?_eq_none (by omega)] at e; cases e
theorem RS.cell (h : RS g m H st) {n : Nat} {c : Cell} (e : st[n]? = some c) : ∃ a, m.cs[n]? = some a ∧ RC g m H a c := by
  have hm : n < m.cs.length := by rw [h.len]; exact lt_of_get e
  exact ⟨m.cs[n], by simp [hm], h.rc n _ c (by simp [hm]) e⟩
theorem RC.mut {a : Addr} {c : Cell} (h : RC g m H a c) : ∃ o, H a = some o ∧ (∀ xs, o ≠ .tup xs) ∧ ∀ o' xs, o ≠ .frz o' (.lst xs) := by
  cases c with
  | lst ds => obtain ⟨vs, _, q⟩ := h; exact ⟨_, q, (fun _ z => by cases z), (fun _ _ z => by cases z)⟩
  | ins c fs => obtain ⟨dx, vs, _, q⟩ := h; exact ⟨_, q, (fun _ z => by cases z), (fun _ _ z => by cases z)⟩
theorem RS.has (h : RS g m H st) {a : Addr} (q : a ∈ m.cs) : ∃ o, H a = some o := by
  obtain ⟨n, hn⟩ := List.getElem?_of_mem q
  have hs : n < st.length := by rw [← h.len]; exact lt_of_get hn
  obtain ⟨o, e, _⟩ := (h.rc n a st[n] hn (by simp [hs])).mut
  exact ⟨o, e⟩
theorem RS.notin (h : RS g m H st) {a : Addr} (q : H a = none) : a ∉ m.cs := fun z => by
  obtain ⟨o, e⟩ := h.has z
  rw [q] at e; cases e
theorem RS.nothold (h : RS g m H st) {a : Addr} (q : H a = none) : a ∉ m.rs := fun z => by
  obtain ⟨_, o, e⟩ := h.hs a z
  rw [q] at e; cases e
theorem RC.moves {a : Addr} {c : Cell} (gr : Moves g.K m H m' H') (e : H' a = H a) (h : RC g m H a c) : RC g m' H' a c := by
  cases c with
  | lst ds => obtain ⟨vs, r, q⟩ := h; exact ⟨vs, r.moves gr, by rw [e]; exact q⟩
  | ins c fs => obtain ⟨dx, vs, r, q⟩ := h; exact ⟨dx, vs, r.moves gr, by rw [e]; exact q⟩
/-- a new object that is no cell (a tuple, a list) -/
theorem Grow.laid {p : Addr} {o : HO} (hp : H p = none) : Grow m H m (upd H p o) :=
  ⟨List.prefix_refl _, rfl, fun a u _ e => by rw [upd_ne (ne_of_none e hp)]; exact e, fun _ h => .inl h, fun a u e => by rw [upd_ne (ne_of_none e hp)]; exact e, fun a o u e => by rw [upd_ne (ne_of_none e hp)]; exact e⟩
theorem RS.laid (h : RS g m H st) {p : Addr} {o : HO} (hp : H p = none) : RS g m (upd H p o) st := by
  have gr : Grow m H m (upd H p o) := Grow.laid hp
  refine ⟨h.len, h.nd, fun a ha => ?_, fun n a c e1 e2 => ?_⟩
  · obtain ⟨h1, o, h2⟩ := h.hs a ha
    exact ⟨h1, o, gr.frame _ _ h1 h2⟩
  · have hne : a ≠ p := by
      obtain ⟨u, q⟩ := h.has (List.mem_of_getElem? e1)
      exact ne_of_none q hp
    exact (h.rc n a c e1 e2).moves gr.moves (upd_ne hne)
/-- a new cell -/
theorem Grow.adopt {p : Addr} (hp : H p = none) {o : HO} : Grow m H (m.add p) (upd H p o) :=
  ⟨List.prefix_append _ _, rfl, fun a u _ e => by rw [upd_ne (ne_of_none e hp)]; exact e, fun a h => by
    rcases List.mem_append.mp h with z | z
    · exact .inl z
    · simp at z; subst z; exact .inr hp, fun a u e => by rw [upd_ne (ne_of_none e hp)]; exact e, fun a o u e => by rw [upd_ne (ne_of_none e hp)]; exact e⟩
theorem RS.adopt (h : RS g m H st) {p : Addr} (hp : H p = none) {o : HO} {c : Cell} (r : RC g (m.add p) (upd H p o) p c) : RS g (m.add p) (upd H p o) (st ++ [c]) := by
  have gr : Grow m H (m.add p) (upd H p o) := Grow.adopt hp
  refine ⟨by simp [Mp.add, h.len], ?_, fun a ha => ?_, fun n a c' e1 e2 => ?_⟩
  · show (m.cs ++ [p]).Nodup
    rw [List.nodup_append]
    exact ⟨h.nd, by simp, fun a ha b hb => by simp at hb; subst hb; exact fun z => h.notin hp (z ▸ ha)⟩
  · obtain ⟨h1, o', h2⟩ := h.hs a ha
    refine ⟨fun z => ?_, o', gr.frame _ _ h1 h2⟩
    rcases List.mem_append.mp z with z | z
    · exact h1 z
    · simp at z; subst z; rw [hp] at h2; cases h2
  · have e1 : (m.cs ++ [p])[n]? = some a := e1
    by_cases hn : n < m.cs.length
    · rw [List.getElem?_append_left hn] at e1
      rw [List.getElem?_append_left (by rw [← h.len]; exact hn)] at e2
      have hne : a ≠ p := by
        obtain ⟨u, q⟩ := h.has (List.mem_of_getElem? e1)
        exact ne_of_none q hp
      exact (h.rc n a c' e1 e2).moves gr.moves (upd_ne hne)
    · have hn' : n = m.cs.length := by
        by_cases q : n = m.cs.length
        · exact q
        · rw [List.getElem?_eq_none (by simp; omega)] at e1; cases e1
      subst hn'
      rw [List.getElem?_append_right (Nat.le_refl _)] at e1
      rw [h.len, List.getElem?_append_right (Nat.le_refl _)] at e2
      simp at e1 e2
      subst e1; subst e2
      exact r
/-- the n-th cell is written -/
theorem Grow.cell {n : Nat} {a : Addr} {o : HO} (e : m.cs[n]? = some a) {u : HO} (hu : H a = some u) (h1 : ∀ xs, u ≠ .tup xs) (h2 : ∀ o' xs, u ≠ .frz o' (.lst xs)) : Grow m H m (upd H a o) :=
  ⟨List.prefix_refl _, rfl, fun b v hn q => by rw [upd_ne (fun z => hn (by rw [z]; exact List.mem_of_getElem? e))]; exact q, fun _ h => .inl h,
    fun b xs q => by rw [upd_ne (fun z => by rw [z, hu] at q; cases q; exact h1 _ rfl)]; exact q, fun b o' xs q => by rw [upd_ne (fun z => by rw [z, hu] at q; cases q; exact h2 _ _ rfl)]; exact q⟩
theorem RS.write (h : RS g m H st) {n : Nat} {a : Addr} {c c0 : Cell} {o : HO} (e : m.cs[n]? = some a) (e0 : st[n]? = some c0) (r : Grow m H m (upd H a o) → RC g m (upd H a o) a c) : RS g m (upd H a o) (st.set n c) ∧ Grow m H m (upd H a o) := by
  obtain ⟨u, hu, h1, h2⟩ := (h.rc n a c0 e e0).mut
  have gr : Grow m H m (upd H a o) := Grow.cell e hu h1 h2
  refine ⟨⟨by simp [h.len], h.nd, fun b hb => ?_, fun k b c' e1 e2 => ?_⟩, gr⟩
  · obtain ⟨h1, o', h2⟩ := h.hs b hb
    exact ⟨h1, o', gr.frame _ _ h1 h2⟩
  · by_cases hk : n = k
    · subst hk
      rw [e] at e1; cases e1
      rw [List.getElem?_set_self (lt_of_get e0)] at e2; cases e2
      exact r gr
    · rw [List.getElem?_set_ne hk] at e2
      have hne : b ≠ a := fun z => by
        subst z
        exact hk (nd_ix h.nd e e1)
      exact (h.rc k b c' e1 e2).moves gr.moves (upd_ne hne)
/-! a list in the making -/
theorem Moves.hold {K : PySem.W.Frag} {p : Addr} {o : HO} (hp : H p = none) : Moves K m H (m.hold p) (upd H p o) where
  tup := fun a xs h => h.mono (Grow.laid (m := m) hp)
  rol := fun a xs h => by
    obtain ⟨h1, h2, h3⟩ := h
    refine ⟨h1, fun z => ?_, by rw [upd_ne (ne_of_none h3 hp)]; exact h3⟩
    rcases List.mem_cons.mp z with z | z
    · subst z; rw [hp] at h3; cases h3
    · exact h2 z
  scr := fun a xs h => h.mono (Grow.laid (m := m) hp)
  ref := fun _ _ h => h
theorem RS.hold (h : RS g m H st) {p : Addr} {o : HO} (hp : H p = none) : RS g (m.hold p) (upd H p o) st := by
  refine ⟨h.len, h.nd, fun a ha => ?_, fun n a c e1 e2 => ?_⟩
  · rcases List.mem_cons.mp ha with z | z
    · subst z; exact ⟨h.notin hp, o, upd_same⟩
    · obtain ⟨h1, o', h2⟩ := h.hs a z
      exact ⟨h1, o', by rw [upd_ne (ne_of_none h2 hp)]; exact h2⟩
  · have hne : a ≠ p := by
      obtain ⟨u, q⟩ := h.has (List.mem_of_getElem? e1)
      exact ne_of_none q hp
    exact (h.rc n a c e1 e2).moves (Moves.hold hp) (upd_ne hne)
/-- the held list is written -/
theorem Moves.held {K : PySem.W.Frag} {p : Addr} {o : HO} {xs : List V} (hp : H p = some (.lst xs)) : Moves K (m.hold p) H (m.hold p) (upd H p o) where
  tup := fun a ys h => by
    rcases h with h | h
    · exact .inl (by rw [upd_ne (fun z => by rw [z, hp] at h; cases h)]; exact h)
    · exact .inr h
  rol := fun a ys h => ⟨h.1, h.2.1, by rw [upd_ne (fun z => h.2.1 (by rw [z]; exact List.mem_cons_self))]; exact h.2.2⟩
  scr := fun a ys h => by
    rcases h with ⟨u, h⟩ | h
    · exact .inl ⟨u, by rw [upd_ne (fun z => by rw [z, hp] at h; cases h)]; exact h⟩
    · exact .inr h
  ref := fun _ _ h => h
theorem RS.held (h : RS g (m.hold p) H st) {o : HO} {xs : List V} (hp : H p = some (.lst xs)) : RS g (m.hold p) (upd H p o) st := by
  have hpc : p ∉ m.cs := (h.hs p List.mem_cons_self).1
  refine ⟨h.len, h.nd, fun a ha => ?_, fun n a c e1 e2 => ?_⟩
  · obtain ⟨h1, o', h2⟩ := h.hs a ha
    by_cases z : a = p
    · subst z; exact ⟨h1, o, upd_same⟩
    · exact ⟨h1, o', by rw [upd_ne z]; exact h2⟩
  · exact (h.rc n a c e1 e2).moves (Moves.held hp) (upd_ne (fun z => hpc (by rw [← z]; exact List.mem_of_getElem? e1)))
/-- it is finished: a list that nobody writes -/
theorem Moves.drop {K : PySem.W.Frag} {p : Addr} : Moves K (m.hold p) H m H := ⟨fun _ _ h => h, fun _ _ h => ⟨h.1, fun z => h.2.1 (List.mem_cons_of_mem _ z), h.2.2⟩, fun _ _ h => h, fun _ _ h => h⟩
theorem RS.drop {p : Addr} (h : RS g (m.hold p) H st) : RS g m H st := ⟨h.len, h.nd, fun a ha => h.hs a (List.mem_cons_of_mem _ ha), fun n a c e1 e2 => (h.rc n a c e1 e2).moves Moves.drop rfl⟩
/-- it is finished: a cell -/
theorem Moves.keep {K : PySem.W.Frag} {p : Addr} : Moves K (m.hold p) H (m.add p) H where
  tup := fun _ _ h => h
  rol := fun a xs h => ⟨fun z => by
    rcases List.mem_append.mp z with z | z
    · exact h.1 z
    · simp at z; exact h.2.1 (by rw [z]; exact List.mem_cons_self), fun z => h.2.1 (List.mem_cons_of_mem _ z), h.2.2⟩
  scr := fun _ _ h => h
  ref := fun n a h => by
    have h : m.cs[n]? = some a := h
    show (m.cs ++ [p])[n]? = some a
    rw [List.getElem?_append_left (lt_of_get h)]; exact h
theorem RS.keep {p : Addr} {c : Cell} (h : RS g (m.hold p) H st) (hr : p ∉ m.rs) (r : RC g (m.add p) H p c) : RS g (m.add p) H (st ++ [c]) := by
  have hpc : p ∉ m.cs := (h.hs p List.mem_cons_self).1
  have hlen : m.cs.length = st.length := h.len
  refine ⟨by simp [Mp.add, hlen], ?_, fun a ha => ?_, fun n a c' e1 e2 => ?_⟩
  · show (m.cs ++ [p]).Nodup
    rw [List.nodup_append]
    exact ⟨h.nd, by simp, fun a ha b hb => by simp at hb; subst hb; exact fun z => hpc (z ▸ ha)⟩
  · obtain ⟨h1, o', h2⟩ := h.hs a (List.mem_cons_of_mem _ ha)
    refine ⟨fun z => ?_, o', h2⟩
    rcases List.mem_append.mp z with z | z
    · exact h1 z
    · simp at z; subst z; exact hr ha
  · have e1 : (m.cs ++ [p])[n]? = some a := e1
    by_cases hn : n < m.cs.length
    · rw [List.getElem?_append_left hn] at e1
      rw [List.getElem?_append_left (by omega)] at e2
      exact (h.rc n a c' e1 e2).moves Moves.keep rfl
    · have hn' : n = m.cs.length := by
        by_cases q : n = m.cs.length
        · exact q
        · rw [List.getElem?_eq_none (by simp; omega)] at e1; cases e1
      subst hn'
      rw [List.getElem?_append_right (Nat.le_refl _)] at e1
      rw [hlen, List.getElem?_append_right (Nat.le_refl _)] at e2
      simp at e1 e2
      subst e1; subst e2
      exact r
theorem Grow.held {p : Addr} {m1 : Mp} {H1 : Hp} (h : Grow (m.hold p) H (m1.hold p) H1) : Grow m H m1 H1 := ⟨h.pre, (List.cons.inj h.rsv).2, h.frame, h.new, h.tup, h.frz⟩
end

/-! ### all refs below n -/
mutual
def D.lo (n : Nat) : D → Bool
  | .tup xs => D.loAll n xs
  | .rol xs => D.loAll n xs
  | .scr xs => D.loAll n xs
  | .ref k => decide (k < n)
  | _ => true
def D.loAll (n : Nat) : List D → Bool
  | [] => true
  | d :: ds => D.lo n d && D.loAll n ds
end
def Cell.lo (n : Nat) : Cell → Bool
  | .lst xs => D.loAll n xs
  | .ins _ fs => fs.all fun p => p.2.lo n
def ClosedAt (n : Nat) (st : Sto) : Prop := ∀ c ∈ st, c.lo n = true
abbrev Closed (st : Sto) : Prop := ClosedAt st.length st
section
variable {K : PySem.W.Frag} {m : Mp} {H : Hp} {n : Nat}
theorem get_take {α : Type} {l : List α} {k n : Nat} {a : α} (e : l[k]? = some a) (h : k < n) : (l.take n)[k]? = some a := by
  rw [List.getElem?_take_of_lt h]; exact e
theorem RL.take {a : Addr} {xs : List V} (h : RL m H a xs) : RL (m.take n) H a xs := ⟨fun z => h.1 (List.mem_of_mem_take z), h.2⟩
mutual
theorem RV.trunc : ∀ {d : D} {v : V}, RV K m H d v → d.lo n = true → RV K (m.take n) H d v
  | .non, _, h, _ => by cases h; exact .non
  | .bl _, _, h, _ => by cases h; exact .bl _
  | .int _, _, h, _ => by cases h; exact .int _
  | .str _, _, h, _ => by cases h; exact .str _
  | .tup ds, _, h, b => by
    cases h with
    | tup h1 h2 => exact .tup h1 (RVs.trunc h2 (by simpa [D.lo] using b))
  | .rol ds, _, h, b => by
    cases h with
    | rol h1 h2 => exact .rol h1.take (RVs.trunc h2 (by simpa [D.lo] using b))
  | .scr ds, _, h, b => by
    cases h with
    | scr h1 h2 => exact .scr h1 (RVs.trunc h2 (by simpa [D.lo] using b))
  | .ref k, _, h, b => by
    cases h with
    | ref h1 => exact .ref (get_take h1 (by simpa [D.lo] using b))
theorem RVs.trunc : ∀ {ds : List D} {vs : List V}, RVs K m H ds vs → D.loAll n ds = true → RVs K (m.take n) H ds vs
  | [], _, h, _ => by cases h; exact .nil
  | d :: ds, _, h, b => by
    cases h with
    | cons h1 h2 =>
      simp only [D.loAll, Bool.and_eq_true] at b
      exact .cons (RV.trunc h1 b.1) (RVs.trunc h2 b.2)
end
mutual
theorem RV.lo : ∀ {d : D} {v : V}, RV K m H d v → d.lo m.cs.length = true
  | .non, _, h => by simp [D.lo]
  | .bl _, _, h => by simp [D.lo]
  | .int _, _, h => by simp [D.lo]
  | .str _, _, h => by simp [D.lo]
  | .tup ds, _, h => by
    cases h with
    | tup h1 h2 => simp only [D.lo]; exact RVs.lo h2
  | .rol ds, _, h => by
    cases h with
    | rol h1 h2 => simp only [D.lo]; exact RVs.lo h2
  | .scr ds, _, h => by
    cases h with
    | scr h1 h2 => simp only [D.lo]; exact RVs.lo h2
  | .ref k, _, h => by
    cases h with
    | ref h1 =>
      simp only [D.lo, decide_eq_true_eq]
      exact lt_of_get h1
theorem RVs.lo : ∀ {ds : List D} {vs : List V}, RVs K m H ds vs → D.loAll m.cs.length ds = true
  | [], _, h => by simp [D.loAll]
  | d :: ds, _, h => by
    cases h with
    | cons h1 h2 => simp only [D.loAll, Bool.and_eq_true]; exact ⟨RV.lo h1, RVs.lo h2⟩
end
theorem RFs.trunc {ds : List (Str × D)} {vs : List (Str × V)} (h : RFs K m H ds vs) (b : (ds.all fun p => p.2.lo n) = true) : RFs K (m.take n) H ds vs := by
  induction h with
  | nil => exact .nil
  | cons r _ ih =>
    simp only [List.all_cons, Bool.and_eq_true] at b
    exact .cons (r.trunc b.1) (ih b.2)
theorem RFs.lo {ds : List (Str × D)} {vs : List (Str × V)} (h : RFs K m H ds vs) : (ds.all fun p => p.2.lo m.cs.length) = true := by
  induction h with
  | nil => rfl
  | cons r _ ih =>
    simp only [List.all_cons, Bool.and_eq_true]
    exact ⟨r.lo, ih⟩
theorem RC.trunc {g : G0} {a : Addr} {c : Cell} (h : RC g m H a c) (b : c.lo n = true) : RC g (m.take n) H a c := by
  cases c with
  | lst ds => obtain ⟨vs, r, q⟩ := h; exact ⟨vs, r.trunc b, q⟩
  | ins c fs => obtain ⟨dx, vs, r, q⟩ := h; exact ⟨dx, vs, r.trunc b, q⟩
theorem RC.lo {g : G0} {a : Addr} {c : Cell} (h : RC g m H a c) : c.lo m.cs.length = true := by
  cases c with
  | lst ds => obtain ⟨vs, r, q⟩ := h; exact r.lo
  | ins c fs => obtain ⟨dx, vs, r, q⟩ := h; exact r.lo
theorem RS.closed {g : G0} {st : Sto} (h : RS g m H st) : Closed st := fun c hc => by
  obtain ⟨n, hn⟩ := List.getElem?_of_mem hc
  obtain ⟨a, _, r⟩ := h.cell hn
  rw [← h.len]; exact r.lo
/-- fewer cells -/
theorem RS.trunc {g : G0} {st more : Sto} (h : RS g m H (st ++ more)) (c : Closed st) : RS g (m.take st.length) H st := by
  have hlen : m.cs.length = st.length + more.length := by rw [h.len, List.length_append]
  refine ⟨by show (m.cs.take _).length = _; rw [List.length_take]; omega, h.nd.sublist (List.take_sublist _ _), fun a ha => ?_, fun n a cl e1 e2 => ?_⟩
  · obtain ⟨h1, h2⟩ := h.hs a ha
    exact ⟨fun z => h1 (List.mem_of_mem_take z), h2⟩
  · have e1 : (m.cs.take st.length)[n]? = some a := e1
    have hn : n < st.length := lt_of_get e2
    rw [List.getElem?_take_of_lt hn] at e1
    exact (h.rc n a cl e1 (by rw [List.getElem?_append_left hn]; exact e2)).trunc (c cl (List.mem_of_getElem? e2))
/-- a run whose new cells are forgotten -/
theorem Grow.trunc {m' : Mp} {H' : Hp} (g : Grow m H m' H') (hn : m.cs.length ≤ n) : Grow m H (m'.take n) H' where
  pre := by
    obtain ⟨t, ht⟩ := g.pre
    show m.cs <+: m'.cs.take n
    rw [← ht, List.take_append, List.take_of_length_le hn]
    exact List.prefix_append _ _
  rsv := g.rsv
  frame := g.frame
  new := fun a h => g.new a (List.mem_of_mem_take h)
  tup := g.tup
  frz := g.frz
end
end QI

namespace QI
open PySem PySem.Spec PyProof.Rows L2

/-! ### ends -/
abbrev EK := Mp → Hp → Exn → Sto → Prop
def noE : EK := fun _ _ _ _ => False
def Fin {α : Type} (g : G0) (E : EK) (m : Mp) (H : Hp) (r : Rs α) (R : Mp → Hp → α → Sto → Prop) : Prop := match r with
  | .ok a st' => ∀ m' H', Grow m H m' H' → RS g m' H' st' → R m' H' a st'
  | .exn e st' => ∀ m' H', Grow m H m' H' → RS g m' H' st' → E m' H' e st'
  | .bad => False
section
variable {g : G0} {E : EK} {m m1 : Mp} {H H1 : Hp} {α β : Type}
theorem Fin.mono {r : Rs α} {R : Mp → Hp → α → Sto → Prop} (h : Fin g E m H r R) (gr : Grow m H m1 H1) : Fin g E m1 H1 r R := by
  cases r with
  | ok a st => exact fun m' H' g' rs => h m' H' (gr.trans g') rs
  | exn e st => exact fun m' H' g' rs => h m' H' (gr.trans g') rs
  | bad => exact h
theorem Fin.imp {r : Rs α} {R R' : Mp → Hp → α → Sto → Prop} (h : Fin g E m H r R) (f : ∀ m' H' a st', Grow m H m' H' → RS g m' H' st' → R m' H' a st' → R' m' H' a st') : Fin g E m H r R' := by
  cases r with
  | ok a st => exact fun m' H' g' rs => f m' H' a st g' rs (h m' H' g' rs)
  | exn e st => exact h
  | bad => exact h
theorem Fin.bind {r : Rs α} {f : α → Sto → Rs β} {R : Mp → Hp → β → Sto → Prop} (h : Fin g E m H (r.bind f) R) : Fin g E m H r (fun m1 H1 a st1 => Fin g E m1 H1 (f a st1) R) := by
  cases r with
  | ok a st => exact fun m' H' g' rs => Fin.mono (show Fin g E m H (f a st) R from h) g'
  | exn e st => exact h
  | bad => exact h
theorem Fin.here {a : α} {st : Sto} {R : Mp → Hp → α → Sto → Prop} (h : Fin g E m H (.ok a st) R) (rs : RS g m H st) : R m H a st := h m H (Grow.refl _ _) rs
end
def EndE (g : G0) (Q : VK) : Mp → Hp → D → Sto → Prop := fun m' H' d _ => ∀ v, RV g.K m' H' d v → Q v H'
def tI (g : G0) (E : EK) (I : IE) : TE := fun σ H Q => ∃ m env st, RE g.K m H env σ ∧ RS g m H st ∧ Fin g E m H (I env st) (EndE g Q)
def tIA (g : G0) (E : EK) (I : IL) : TA := fun σ H Q => ∃ m env st, RE g.K m H env σ ∧ RS g m H st ∧ Fin g E m H (I env st) (fun m' H' ds _ => ∀ vs, RVs g.K m' H' ds vs → Q vs H')
def tIT (g : G0) (E : EK) (I : IT) : TT := fun σ H Q => ∃ m env st, RE g.K m H env σ ∧ RS g m H st ∧ Fin g E m H (I env st) (fun _ H' b _ => Q b H')
section
variable (ct : String → Addr) (X : Cx) (E : EK)
structure SI (e : Expr) (I : IE) : Prop where
  pe : PE X e (tI (gx ct X) E I)
structure SA (es : List Expr) (I : IL) : Prop where
  pa : PA X es (tIA (gx ct X) E I)
structure SB (e : Expr) (I : IT) : Prop where
  pt : PT X e (tIT (gx ct X) E I)
structure SW (e : Expr) (I : IT) : Prop where
  pw : PW X e (tIT (gx ct X) E I)
end
theorem _root_.L2.PE.imp {X : Cx} {e : Expr} {t t' : TE} (h : PE X e t) (f : ∀ σ H Q, t' σ H Q → t σ H Q) : PE X e t' := ⟨fun pins s σ H Q I q => h.run pins s σ H Q I (f σ H Q q)⟩
theorem _root_.L2.PT.imp {X : Cx} {e : Expr} {t t' : TT} (h : PT X e t) (f : ∀ σ H Q, t' σ H Q → t σ H Q) : PT X e t' := ⟨fun pins s σ H Q I q => h.run pins s σ H Q I (f σ H Q q)⟩
theorem _root_.L2.PW.imp {X : Cx} {e : Expr} {t t' : TT} (h : PW X e t) (f : ∀ σ H Q, t' σ H Q → t σ H Q) : PW X e t' := ⟨fun wh pins s σ H Q I q => h.run wh pins s σ H Q I (f σ H Q q)⟩
theorem _root_.L2.PA.imp {X : Cx} {e : List Expr} {t t' : TA} (h : PA X e t) (f : ∀ σ H Q, t' σ H Q → t σ H Q) : PA X e t' := ⟨fun p pins s σ H Q I q => h.run p pins s σ H Q I (f σ H Q q)⟩
theorem _root_.L2.PE.or {X : Cx} {e : Expr} {t t' : TE} (h : PE X e t) (h' : PE X e t') : PE X e (fun σ H Q => t σ H Q ∨ t' σ H Q) := ⟨fun pins s σ H Q I q => q.elim (h.run pins s σ H Q I) (h'.run pins s σ H Q I)⟩
theorem _root_.L2.PE.both {X : Cx} {e : Expr} {t t' t2 : TE} (h : PE X e t) (h' : PE X e t') (f : ∀ σ H Q, t2 σ H Q → t σ H Q ∨ t' σ H Q) : PE X e t2 := (h.or h').imp f

section
variable {ct : String → Addr} {X : Cx} {E : EK} {pos : Pos} {a b c e : Expr} {A B C : IE}

/-! ### names, constants -/
def iVar (i : Nat) : IE := fun env st => match env[i]? with
  | some (some d) => .ok d st
  | _ => .bad
def iC (d : D) : IE := fun _ st => .ok d st
theorem si_var (i : Nat) {x : Str} (h : PE X (.Name x pos) (tVar i)) : SI ct X E (.Name x pos) (iVar i) := ⟨h.imp fun σ H Q ⟨m, env, st, re, rs, f⟩ => by
  unfold iVar at f
  split at f
  · rename_i d q
    obtain ⟨v, e, r⟩ := re.at_ i d q
    exact ⟨v, e, f.here rs v r⟩
  · exact f.elim⟩
theorem si_C {v : V} {d : D} (h : PE X e (tC v)) (r : ∀ m H, RV X.K m H d v) : SI ct X E e (iC d) := ⟨h.imp fun σ H Q ⟨m, env, st, re, rs, f⟩ => Fin.here f rs v (r _ _)⟩
theorem si_int {i j} : SI ct X E (.Constant (.int i) j pos) (iC (.int i)) := si_C pe_int fun _ _ => .int _
theorem si_bl {i j} : SI ct X E (.Constant (.bool i) j pos) (iC (.bl i)) := si_C pe_bl fun _ _ => .bl _
theorem si_non {j} : SI ct X E (.Constant .none j pos) (iC .non) := si_C pe_non fun _ _ => .non
theorem si_str {i j} : SI ct X E (.Constant (.str i) j pos) (iC (.str i)) := si_C pe_str fun _ _ => .str _

/-! ### operations -/
def OpS (g : G0) (E : EK) (f : D → D → Sto → Rs D) (r : R2) : Prop :=
  ∀ (m : Mp) (H : Hp) (st : Sto) (d e : D) (x y : V) (Q : VK), RS g m H st → RV g.K m H d x → RV g.K m H e y → Fin g E m H (f d e st) (EndE g Q) → r x y H Q
def iBin (f : D → D → Sto → Rs D) (A B : IE) : IE := fun env st => (A env st).bind fun d st1 => (B env st1).bind fun e st2 => f d e st2
def iUn (f : D → Sto → Rs D) (A : IE) : IE := fun env st => (A env st).bind f
theorem bin_tI {f : D → D → Sto → Rs D} {r : R2} (hr : OpS (gx ct X) E f r) {σ : L2.St} {H : Hp} {Q : VK} (h : tI (gx ct X) E (iBin f A B) σ H Q) : tOp r (tI (gx ct X) E A) (tI (gx ct X) E B) σ H Q := by
  obtain ⟨m, env, st, re, rs, fin⟩ := h
  refine ⟨m, env, st, re, rs, fin.bind.imp fun m1 H1 d st1 g1 rs1 q x rx => ?_⟩
  refine ⟨m1, env, st1, re.mono g1, rs1, q.bind.imp fun m2 H2 e st2 g2 rs2 q2 y ry => ?_⟩
  exact hr m2 H2 st2 d e x y Q rs2 (rx.mono g2) ry q2
theorem si_bin {op : Operator} {f : D → D → Sto → Rs D} {r : R2} (ho : OpR X (binaryOp op) r) (hr : OpS (gx ct X) E f r) (ha : SI ct X E a A) (hb : SI ct X E b B) : SI ct X E (.BinOp a op b pos) (iBin f A B) :=
  ⟨(pe_op ho ha.pe hb.pe).imp fun _ _ _ h => bin_tI hr h⟩
theorem si_cmp {op : CmpOp} {f : D → D → Sto → Rs D} {r : R2} (ho : OpR X (compareOp op) r) (hr : OpS (gx ct X) E f r) (ha : SI ct X E a A) (hb : SI ct X E b B) (hm : behindInMarks op b = false) : SI ct X E (.Compare a [op] [b] pos) (iBin f A B) :=
  ⟨(pe_cmpR ho ha.pe hb.pe hm).imp fun _ _ _ h => bin_tI hr h⟩
def toB : D → Sto → Rs Bool
  | .bl b, st => .ok b st
  | _, _ => .bad
def iTest (A : IE) : IT := fun env st => (A env st).bind toB
theorem test_tI {σ : L2.St} {H : Hp} {Q : Bool → Hp → Prop} (h : tIT (gx ct X) E (iTest A) σ H Q) : tI (gx ct X) E A σ H (fun x H' => ∃ k, x = .bl k ∧ Q k H') := by
  obtain ⟨m, env, st, re, rs, fin⟩ := h
  refine ⟨m, env, st, re, rs, fin.bind.imp fun m1 H1 d st1 g1 rs1 q x rx => ?_⟩
  cases d with
  | bl b => cases rx; exact ⟨b, rfl, Fin.here q rs1⟩
  | _ => exact (show False from q).elim
theorem sb_cmp {op : CmpOp} {f : D → D → Sto → Rs D} {r : R2} (ho : OpR X (compareOp op) r) (hr : OpS (gx ct X) E f r) (ha : SI ct X E a A) (hb : SI ct X E b B) (hm : behindInMarks op b = false) : SB ct X E (.Compare a [op] [b] pos) (iTest (iBin f A B)) :=
  ⟨(pt_cmpR ho ha.pe hb.pe hm).imp fun _ _ _ h => bin_tI hr (test_tI h)⟩

/-! arithmetic -/
def gSub : D → D → Sto → Rs D
  | .int i, .int j, st => .ok (.int (i - j)) st
  | _, _, _ => .bad
def gFdiv : D → D → Sto → Rs D
  | .int i, .int j, st => if 0 < j ∧ j.natAbs.log2 < 9000 then .ok (.int (i / j)) st else .bad
  | _, _, _ => .bad
def gMod : D → D → Sto → Rs D
  | .int i, .int j, st => if 0 < j then .ok (.int (i % j)) st else .bad
  | _, _, _ => .bad
def gPow : D → D → Sto → Rs D
  | .int i, .int j, st => if 0 ≤ j ∧ j ≤ 1000000 ∧ i.natAbs < 2 ^ 64 then .ok (.int (i ^ j.toNat)) st else .bad
  | _, _, _ => .bad
def gXor : D → D → Sto → Rs D
  | .int i, .int j, st => .ok (.int (Builtin.bitXor i j)) st
  | _, _, _ => .bad
def gAnd : D → D → Sto → Rs D
  | .int i, .int j, st => .ok (.int (Builtin.bitAnd i j)) st
  | _, _, _ => .bad
def listAt (st : Sto) : D → Option (List D)
  | .rol xs => some xs
  | .ref n => match st[n]? with
    | some (.lst xs) => some xs
    | _ => none
  | _ => none
def gAdd : D → D → Sto → Rs D
  | .int i, .int j, st => .ok (.int (i + j)) st
  | .tup xs, .tup ys, st => if xs.length + ys.length ≤ 16777216 then .ok (.tup (xs ++ ys)) st else .bad
  | .str x, .str y, st => if x.length + y.length ≤ 16777216 then .ok (.str (x ++ y)) st else .bad
  | d, e, st => match listAt st d, listAt st e with
    | some xs, some ys => if xs.length + ys.length ≤ 16777216 then .ok (.rol (xs ++ ys)) st else .bad
    | _, _ => .bad
def gMul : D → D → Sto → Rs D
  | .int i, .int j, st => if i.natAbs < 2 ^ 64 ∨ j.natAbs < 2 ^ 64 then .ok (.int (i * j)) st else .bad
  | d, .int k, st => match listAt st d with
    | some xs => if -(2 ^ 63) ≤ k ∧ k < 2 ^ 63 ∧ xs.length * k.toNat ≤ 16777216 then .ok (.rol (List.replicate k.toNat xs).flatten) st else .bad
    | _ => .bad
  | _, _, _ => .bad
theorem sl_eq : (sizeLine : Nat) = 16777216 := sizeLine_eq
theorem ops_int {f : D → D → Sto → Rs D} {C : Int → Int → Prop} {k : Int → Int → D} {kv : Int → Int → V} (g : G0)
    (h1 : ∀ d e st, f d e st ≠ .bad → ∃ i j, d = .int i ∧ e = .int j ∧ C i j ∧ f d e st = .ok (k i j) st) (hk : ∀ m H i j, RV g.K m H (k i j) (kv i j)) : OpS g E f (rI C kv) := by
  intro m H st d e x y Q rs rx ry fin
  have hb : f d e st ≠ .bad := fun z => by rw [z] at fin; exact fin
  obtain ⟨i, j, rfl, rfl, hc, q⟩ := h1 d e st hb
  cases rx; cases ry
  rw [q] at fin
  exact ⟨i, j, rfl, rfl, hc, fin.here rs _ (hk _ _ _ _)⟩
theorem ops_int0 {f : D → D → Sto → Rs D} {k : Int → Int → D} {kv : Int → Int → V} (g : G0)
    (h1 : ∀ d e st, f d e st ≠ .bad → ∃ i j, d = .int i ∧ e = .int j ∧ f d e st = .ok (k i j) st) (hk : ∀ m H i j, RV g.K m H (k i j) (kv i j)) : OpS g E f (rI0 kv) := by
  intro m H st d e x y Q rs rx ry fin
  have hb : f d e st ≠ .bad := fun z => by rw [z] at fin; exact fin
  obtain ⟨i, j, rfl, rfl, q⟩ := h1 d e st hb
  cases rx; cases ry
  rw [q] at fin
  exact ⟨i, j, rfl, rfl, fin.here rs _ (hk _ _ _ _)⟩
theorem si_sub (ha : SI ct X E a A) (hb : SI ct X E b B) : SI ct X E (.BinOp a .Sub b pos) (iBin gSub A B) :=
  si_bin op_sub (ops_int0 _ (k := fun i j => .int (i - j)) (fun d e st h => by
    cases d <;> cases e <;> first | exact absurd rfl h | exact ⟨_, _, rfl, rfl, rfl⟩) fun _ _ _ _ => .int _) ha hb
theorem si_xor (ha : SI ct X E a A) (hb : SI ct X E b B) : SI ct X E (.BinOp a .BitXor b pos) (iBin gXor A B) :=
  si_bin op_xor (ops_int0 _ (k := fun i j => .int (Builtin.bitXor i j)) (fun d e st h => by
    cases d <;> cases e <;> first | exact absurd rfl h | exact ⟨_, _, rfl, rfl, rfl⟩) fun _ _ _ _ => .int _) ha hb
theorem si_and (ha : SI ct X E a A) (hb : SI ct X E b B) : SI ct X E (.BinOp a .BitAnd b pos) (iBin gAnd A B) :=
  si_bin op_and (ops_int0 _ (k := fun i j => .int (Builtin.bitAnd i j)) (fun d e st h => by
    cases d <;> cases e <;> first | exact absurd rfl h | exact ⟨_, _, rfl, rfl, rfl⟩) fun _ _ _ _ => .int _) ha hb
theorem si_fdiv (ha : SI ct X E a A) (hb : SI ct X E b B) : SI ct X E (.BinOp a .FloorDiv b pos) (iBin gFdiv A B) :=
  si_bin op_fdivW (ops_int _ (k := fun i j => .int (i / j)) (fun d e st h => by
    cases d <;> cases e <;> first
      | exact absurd rfl h
      | (rename_i i j
         by_cases hc : 0 < j ∧ j.natAbs.log2 < 9000
         · exact ⟨_, _, rfl, rfl, hc, if_pos hc⟩
         · exact absurd (if_neg hc) h)) fun _ _ _ _ => .int _) ha hb
theorem si_mod (ha : SI ct X E a A) (hb : SI ct X E b B) : SI ct X E (.BinOp a .Mod b pos) (iBin gMod A B) :=
  si_bin op_mod (ops_int _ (k := fun i j => .int (i % j)) (fun d e st h => by
    cases d <;> cases e <;> first
      | exact absurd rfl h
      | (rename_i i j
         by_cases hc : 0 < j
         · exact ⟨_, _, rfl, rfl, hc, if_pos hc⟩
         · exact absurd (if_neg hc) h)) fun _ _ _ _ => .int _) ha hb
theorem si_pow (ha : SI ct X E a A) (hb : SI ct X E b B) : SI ct X E (.BinOp a .Pow b pos) (iBin gPow A B) :=
  si_bin op_pow (ops_int _ (k := fun i j => .int (i ^ j.toNat)) (fun d e st h => by
    cases d <;> cases e <;> first
      | exact absurd rfl h
      | (rename_i i j
         by_cases hc : 0 ≤ j ∧ j ≤ 1000000 ∧ i.natAbs < 2 ^ 64
         · exact ⟨_, _, rfl, rfl, hc, if_pos hc⟩
         · exact absurd (if_neg hc) h)) fun _ _ _ _ => .int _) ha hb
/-- a list that may be read and copied -/
theorem list_of {g : G0} {m : Mp} {H : Hp} {st : Sto} {d : D} {x : V} {xs : List D} (rs : RS g m H st) (r : RV g.K m H d x) (e : listAt st d = some xs) : ∃ p vs, x = .ref p ∧ H p = some (.lst vs) ∧ RVs g.K m H xs vs := by
  cases d with
  | rol ys =>
    cases e
    cases r with
    | rol h1 h2 => exact ⟨_, _, rfl, h1.2.2, h2⟩
  | ref n =>
    cases r with
    | ref h1 =>
      unfold listAt at e
      simp only at e
      split at e
      · rename_i ys q
        cases e
        obtain ⟨vs, h2, h3⟩ := rs.rc n _ _ h1 q
        exact ⟨_, vs, rfl, h3, h2⟩
      · cases e
  | _ => cases e
/-- a new list that is no cell -/
theorem rol_new {g : G0} {m : Mp} {H : Hp} {st : Sto} {xs : List D} {vs : List V} {Q : VK} (rs : RS g m H st) (r : RVs g.K m H xs vs) (f : Fin g E m H (.ok (.rol xs) st) (EndE g Q)) : ∀ p, H p = none → Q (.ref p) (upd H p (.lst vs)) := fun p hp => by
  have gr : Grow m H m (upd H p (.lst vs)) := Grow.laid hp
  exact f m _ gr (rs.laid hp) _ (.rol ⟨rs.notin hp, rs.nothold hp, upd_same⟩ (r.mono gr))
theorem tup_new {g : G0} {m : Mp} {H : Hp} {st : Sto} {xs : List D} {vs : List V} {Q : VK} (rs : RS g m H st) (r : RVs g.K m H xs vs) (f : Fin g E m H (.ok (.tup xs) st) (EndE g Q)) : ∀ p, H p = none → Q (.ref p) (upd H p (.tup vs)) := fun p hp => by
  have gr : Grow m H m (upd H p (.tup vs)) := Grow.laid hp
  exact f m _ gr (rs.laid hp) _ (.tup (.inl upd_same) (r.mono gr))
theorem nil_of {K : PySem.W.Frag} {m : Mp} {H : Hp} {xs : List D} {vs : List V} (r : RVs K m H xs vs) : vs = [] ↔ xs = [] := by
  cases r <;> simp
theorem ops_add {g : G0} : OpS g E gAdd (fun x y H Q => (∃ i j, x = .int i ∧ y = .int j ∧ Q (.int (i + j)) H) ∨ (rCatA g.K x y H Q ∨ ((∃ i j, x = .str i ∧ y = .str j ∧ i.length + j.length ≤ sizeLine ∧ Q (.str (i ++ j)) H) ∨ rCat x y H Q))) := by
  intro m H st d e x y Q rs rx ry fin
  unfold gAdd at fin
  split at fin
  · cases rx; cases ry
    exact .inl ⟨_, _, rfl, rfl, fin.here rs _ (.int _)⟩
  · cases rx with
    | tup h1 h2 =>
      cases ry with
      | tup h3 h4 =>
        split at fin
        · rename_i hz
          rw [h2.length, h4.length] at hz
          refine .inr (.inl ⟨_, _, _, _, rfl, rfl, h1.sq, h3.sq, by rw [sl_eq]; exact hz, fun z => ?_, fun _ z => ?_, fun _ _ => tup_new rs (h2.append h4) fin⟩)
          · have z' := (nil_of h2).mp z
            subst z'
            exact fin.here rs _ (.tup h3 h4)
          · have z' := (nil_of h4).mp z
            subst z'
            rw [List.append_nil] at fin
            exact fin.here rs _ (.tup h1 h2)
        · exact fin.elim
  · cases rx; cases ry
    split at fin
    · rename_i hz
      exact .inr (.inr (.inl ⟨_, _, rfl, rfl, by rw [sl_eq]; exact hz, fin.here rs _ (.str _)⟩))
    · exact fin.elim
  · split at fin
    · rename_i xs ys q1 q2
      split at fin
      · rename_i hz
        obtain ⟨p, vs, rfl, h1, r1⟩ := list_of rs rx q1
        obtain ⟨p2, ws, rfl, h2, r2⟩ := list_of rs ry q2
        rw [r1.length, r2.length] at hz
        exact .inr (.inr (.inr ⟨p, p2, vs, ws, rfl, rfl, h1, h2, by rw [sl_eq]; exact hz, rol_new rs (r1.append r2) fin⟩))
      · exact fin.elim
    · exact fin.elim
theorem si_add (ha : SI ct X E a A) (hb : SI ct X E b B) : SI ct X E (.BinOp a .Add b pos) (iBin gAdd A B) :=
  si_bin (op_add.or (op_catA.or (op_add_str.or op_cat))) ops_add ha hb
theorem ops_mul {g : G0} : OpS g E gMul (fun x y H Q => rI CMul (fun i j => .int (i * j)) x y H Q ∨ rRep x y H Q) := by
  intro m H st d e x y Q rs rx ry fin
  unfold gMul at fin
  split at fin
  · cases rx; cases ry
    split at fin
    · rename_i hc
      refine .inl ⟨_, _, rfl, rfl, ?_, fin.here rs _ (.int _)⟩
      rcases hc with h | h
      · exact .inl ⟨by omega, by omega⟩
      · exact .inr ⟨by omega, by omega⟩
    · exact fin.elim
  · cases ry
    split at fin
    · rename_i xs q1
      split at fin
      · rename_i hz
        obtain ⟨p, vs, rfl, h1, r1⟩ := list_of rs rx q1
        rw [r1.length] at hz
        exact .inr ⟨p, _, vs, rfl, rfl, h1, hz.1, hz.2.1, by rw [sl_eq]; exact hz.2.2, rol_new rs (r1.flat _) fin⟩
      · exact fin.elim
    · exact fin.elim
  · exact fin.elim
theorem si_mul (ha : SI ct X E a A) (hb : SI ct X E b B) : SI ct X E (.BinOp a .Mult b pos) (iBin gMul A B) :=
  si_bin (op_mul.or op_rep) ops_mul ha hb
end
end QI

namespace QI
open PySem PySem.Spec PyProof.Rows L2

/-! ### data without cells, as the library's plain data -/
mutual
def pdP : D → Option PyData
  | .non => some .none
  | .bl b => some (.bool b)
  | .int i => some (.int i)
  | .str x => some (.str x)
  | .tup xs => match pdPs xs with
    | some ys => some (.tuple ys)
    | none => none
  | .rol xs => match pdPs xs with
    | some ys => some (.list ys)
    | none => none
  | .scr xs => match pdPs xs with
    | some ys => some (.list ys)
    | none => none
  | .ref _ => none
def pdPs : List D → Option (List PyData)
  | [] => some []
  | d :: ds => match pdP d, pdPs ds with
    | some y, some ys => some (y :: ys)
    | _, _ => none
end
def pdS (st : Sto) : D → Option PyData
  | .ref n => match st[n]? with
    | some (.lst xs) => match pdPs xs with
      | some ys => some (.list ys)
      | none => none
    | _ => none
  | d => pdP d
section
variable {K : PySem.W.Frag} {m : Mp} {H : Hp}
mutual
theorem RV.dp : ∀ {d : D} {v : V} {p : PyData}, RV K m H d v → pdP d = some p → Dp K H v p
  | .non, _, _, h, e => by cases h; simp [pdP] at e; subst e; exact .non
  | .bl _, _, _, h, e => by cases h; simp [pdP] at e; subst e; exact .bl _
  | .int _, _, _, h, e => by cases h; simp [pdP] at e; subst e; exact .int _
  | .str _, _, _, h, e => by cases h; simp [pdP] at e; subst e; exact .str _
  | .tup ds, _, _, h, e => by
    cases h with
    | tup h1 h2 =>
      simp only [pdP] at e
      split at e
      · rename_i ys q
        cases e
        exact .tup h1.sq (RVs.dp h2 q)
      · cases e
  | .rol ds, _, _, h, e => by
    cases h with
    | rol h1 h2 =>
      simp only [pdP] at e
      split at e
      · rename_i ys q
        cases e
        exact .lst h1.sq (RVs.dp h2 q)
      · cases e
  | .scr ds, _, _, h, e => by
    cases h with
    | scr h1 h2 =>
      simp only [pdP] at e
      split at e
      · rename_i ys q
        cases e
        exact .lst h1.sq (RVs.dp h2 q)
      · cases e
  | .ref _, _, _, h, e => by simp [pdP] at e
theorem RVs.dp : ∀ {ds : List D} {vs : List V} {ps : List PyData}, RVs K m H ds vs → pdPs ds = some ps → DpAll K H vs ps
  | [], _, _, h, e => by cases h; simp [pdPs] at e; subst e; exact .nil
  | d :: ds, _, _, h, e => by
    cases h with
    | cons h1 h2 =>
      simp only [pdPs] at e
      split at e
      · rename_i y ys q1 q2
        cases e
        exact .cons (RV.dp h1 q1) (RVs.dp h2 q2)
      · cases e
end
theorem RV.dps {g : G0} {st : Sto} {d : D} {v : V} {p : PyData} (rs : RS g m H st) (h : RV g.K m H d v) (e : pdS st d = some p) : Dp g.K H v p := by
  cases d with
  | ref n =>
    cases h with
    | ref h1 =>
      simp only [pdS] at e
      split at e
      · rename_i xs q
        split at e
        · rename_i ys q2
          cases e
          obtain ⟨vs, r, h2⟩ := rs.rc n _ _ h1 q
          exact .lst (SqL.of h2) (r.dp q2)
        · cases e
      · cases e
  | _ => exact h.dp e
end
/-- the items of a list or a tuple -/
def seqAt (st : Sto) : D → Option (List D)
  | .tup xs => some xs
  | .rol xs => some xs
  | .scr xs => some xs
  | .ref n => match st[n]? with
    | some (.lst xs) => some xs
    | _ => none
  | _ => none
theorem seq_of {g : G0} {m : Mp} {H : Hp} {st : Sto} {d : D} {x : V} {xs : List D} (rs : RS g m H st) (r : RV g.K m H d x) (e : seqAt st d = some xs) : ∃ p vs, x = .ref p ∧ (SqL g.K H p vs ∨ SqT g.K H p vs) ∧ RVs g.K m H xs vs := by
  cases d with
  | tup ys =>
    cases e
    cases r with
    | tup h1 h2 => exact ⟨_, _, rfl, .inr h1.sq, h2⟩
  | rol ys =>
    cases e
    cases r with
    | rol h1 h2 => exact ⟨_, _, rfl, .inl h1.sq, h2⟩
  | scr ys =>
    cases e
    cases r with
    | scr h1 h2 => exact ⟨_, _, rfl, .inl h1.sq, h2⟩
  | ref n =>
    cases r with
    | ref h1 =>
      unfold seqAt at e
      simp only at e
      split at e
      · rename_i ys q
        cases e
        obtain ⟨vs, h2, h3⟩ := rs.rc n _ _ h1 q
        exact ⟨_, vs, rfl, .inl (SqL.of h3), h2⟩
      · cases e
  | _ => cases e

/-! ### comparisons -/
def gEq (st : Sto) : D → D → Option Bool
  | .int i, .int j => some (decide (i = j))
  | .str x, .str y => some (decide (x = y))
  | .bl x, .bl y => some (decide (x = y))
  | d, e => match pdS st d, pdS st e with
    | some a, some b => if SeqAt.shaped a = true ∧ SeqAt.shaped b = true then some (PyData.eqv a b) else none
    | _, _ => none
def fB (o : Option Bool) (st : Sto) : Rs D := match o with
  | some b => .ok (.bl b) st
  | none => .bad
def gEqE : D → D → Sto → Rs D := fun d e st => fB (gEq st d e) st
def gNeE : D → D → Sto → Rs D := fun d e st => fB ((gEq st d e).map (!·)) st
def gLt : D → D → Sto → Rs D
  | .int i, .int j, st => .ok (.bl (decide (i < j))) st
  | _, _, _ => .bad
def gLe : D → D → Sto → Rs D
  | .int i, .int j, st => .ok (.bl (decide (i ≤ j))) st
  | _, _, _ => .bad
def gGt : D → D → Sto → Rs D
  | .int i, .int j, st => .ok (.bl (decide (j < i))) st
  | _, _, _ => .bad
def gGe : D → D → Sto → Rs D
  | .int i, .int j, st => .ok (.bl (decide (j ≤ i))) st
  | _, _, _ => .bad
def D.isNon : D → Bool
  | .non => true
  | _ => false
def gIs : D → D → Sto → Rs D
  | d, .non, st => .ok (.bl d.isNon) st
  | _, _, _ => .bad
def gIsNot : D → D → Sto → Rs D
  | d, .non, st => .ok (.bl (!d.isNon)) st
  | _, _, _ => .bad
/-- == of plain items -/
def D.fv : D → Option V
  | .non => some .non
  | .bl b => some (.bl b)
  | .int i => some (.int i)
  | .str x => some (.str x)
  | _ => none
def D.eqF (d e : D) : Bool := match d.fv, e.fv with
  | some x, some y => eqV x y
  | _, _ => false
def D.flat (d : D) : Bool := d.fv.isSome
theorem fv_of {K : PySem.W.Frag} {m : Mp} {H : Hp} {d : D} {v : V} (h : RV K m H d v) (f : d.flat = true) : d.fv = some v ∧ flatV v = true := by
  cases d <;> cases h <;> first | exact ⟨rfl, rfl⟩ | (simp [D.flat, D.fv] at f)
theorem fvs_of {K : PySem.W.Frag} {m : Mp} {H : Hp} {d : D} {v : V} (h : RV K m H d v) (f : d.flat = true) : ∀ {ds : List D} {vs : List V}, RVs K m H ds vs → ds.all D.flat = true → vs.all flatV = true ∧ inV v vs = ds.any fun e => e.eqF d
  | [], _, r, _ => by cases r; exact ⟨rfl, rfl⟩
  | e :: ds, _, r, q => by
    cases r with
    | cons r1 r2 =>
      simp only [List.all_cons, Bool.and_eq_true] at q
      obtain ⟨h1, h2⟩ := fv_of r1 q.1
      obtain ⟨h3, h4⟩ := fv_of h f
      obtain ⟨h5, h6⟩ := fvs_of h f r2 q.2
      refine ⟨by simp only [List.all_cons, Bool.and_eq_true]; exact ⟨h2, h5⟩, ?_⟩
      unfold inV at h6 ⊢
      rw [List.any_cons, List.any_cons, h6]
      congr 1
      unfold D.eqF
      rw [h1, h3]
def gIn (st : Sto) (d e : D) : Option Bool := match seqAt st e with
  | some xs => if d.flat = true ∧ xs.all D.flat = true then some (xs.any fun y => y.eqF d) else none
  | none => none
def gInE : D → D → Sto → Rs D := fun d e st => fB (gIn st d e) st
def gNotInE : D → D → Sto → Rs D := fun d e st => fB ((gIn st d e).map (!·)) st

section
variable {ct : String → Addr} {X : Cx} {E : EK} {pos : Pos} {a b c e : Expr} {A B C : IE}
/-- a comparison's rule: op and what it gives -/
def CmpR (ct : String → Addr) (X : Cx) (E : EK) (op : CmpOp) (f : D → D → Sto → Rs D) : Prop := ∃ r, OpR X (compareOp op) r ∧ OpS (gx ct X) E f r
theorem fB_ok {g : G0} {m : Mp} {H : Hp} {st : Sto} {o : Option Bool} {Q : VK} (rs : RS g m H st) (fin : Fin g E m H (fB o st) (EndE g Q)) : ∃ b, o = some b ∧ Q (.bl b) H := by
  cases o with
  | none => exact fin.elim
  | some b => exact ⟨b, rfl, Fin.here fin rs _ (.bl b)⟩
theorem c_lt : CmpR ct X E .Lt gLt := ⟨_, op_lt, ops_int0 _ (k := fun i j => .bl (decide (i < j))) (fun d e st h => by
    cases d <;> cases e <;> first | exact absurd rfl h | exact ⟨_, _, rfl, rfl, rfl⟩) fun _ _ _ _ => .bl _⟩
theorem c_le : CmpR ct X E .LtE gLe := ⟨_, op_le, ops_int0 _ (k := fun i j => .bl (decide (i ≤ j))) (fun d e st h => by
    cases d <;> cases e <;> first | exact absurd rfl h | exact ⟨_, _, rfl, rfl, rfl⟩) fun _ _ _ _ => .bl _⟩
theorem c_gt : CmpR ct X E .Gt gGt := ⟨_, op_gt, ops_int0 _ (k := fun i j => .bl (decide (j < i))) (fun d e st h => by
    cases d <;> cases e <;> first | exact absurd rfl h | exact ⟨_, _, rfl, rfl, rfl⟩) fun _ _ _ _ => .bl _⟩
theorem c_ge : CmpR ct X E .GtE gGe := ⟨_, op_ge, ops_int0 _ (k := fun i j => .bl (decide (j ≤ i))) (fun d e st h => by
    cases d <;> cases e <;> first | exact absurd rfl h | exact ⟨_, _, rfl, rfl, rfl⟩) fun _ _ _ _ => .bl _⟩
theorem gEq_ok {g : G0} {m : Mp} {H : Hp} {st : Sto} {d e : D} {x y : V} {k : Bool} (rs : RS g m H st) (rx : RV g.K m H d x) (ry : RV g.K m H e y) (h : gEq st d e = some k) :
    (scal x y = true ∧ decide (x = y) = k) ∨ ∃ a b, Dp g.K H x a ∧ Dp g.K H y b ∧ SeqAt.shaped a = true ∧ SeqAt.shaped b = true ∧ PyData.eqv a b = k := by
  unfold gEq at h
  split at h
  · cases rx; cases ry; cases h
    exact .inl ⟨rfl, by simp⟩
  · cases rx; cases ry; cases h
    exact .inl ⟨rfl, by simp⟩
  · cases rx; cases ry; cases h
    exact .inl ⟨rfl, by simp⟩
  · split at h
    · rename_i p q h1 h2
      split at h
      · rename_i hs
        cases h
        exact .inr ⟨p, q, rx.dps rs h1, ry.dps rs h2, hs.1, hs.2, rfl⟩
      · cases h
    · cases h
theorem c_eq (hu : X.A.units + 64 < cLine) : CmpR ct X E .Eq gEqE := ⟨_, op_eq.or (op_eqD hu), fun m H st d e x y Q rs rx ry fin => by
  obtain ⟨k, h1, h2⟩ := fB_ok rs fin
  rcases gEq_ok rs rx ry h1 with ⟨hs, rfl⟩ | ⟨p, q, d1, d2, s1, s2, rfl⟩
  · exact .inl ⟨hs, h2⟩
  · exact .inr ⟨p, q, d1, d2, s1, s2, h2⟩⟩
theorem c_ne (hu : X.A.units + 64 < cLine) : CmpR ct X E .NotEq gNeE := ⟨_, op_ne.or (op_neD hu), fun m H st d e x y Q rs rx ry fin => by
  obtain ⟨k, h1, h2⟩ := fB_ok rs fin
  cases he : gEq st d e with
  | none => rw [he] at h1; cases h1
  | some k' =>
    rw [he] at h1
    cases h1
    rcases gEq_ok rs rx ry he with ⟨hs, rfl⟩ | ⟨p, q, d1, d2, s1, s2, rfl⟩
    · exact .inl ⟨hs, h2⟩
    · exact .inr ⟨p, q, d1, d2, s1, s2, h2⟩⟩
theorem isNon_of {K : PySem.W.Frag} {m : Mp} {H : Hp} {d : D} {v : V} (h : RV K m H d v) : decide (v = .non) = d.isNon := by
  cases h <;> simp [D.isNon]
theorem c_is : CmpR ct X E .Is gIs := ⟨_, op_isN, fun m H st d e x y Q rs rx ry fin => by
  unfold gIs at fin
  split at fin
  · cases ry
    exact ⟨rfl, by rw [isNon_of rx]; exact fin.here rs _ (.bl _)⟩
  · exact fin.elim⟩
theorem c_isnot : CmpR ct X E .IsNot gIsNot := ⟨_, op_notN, fun m H st d e x y Q rs rx ry fin => by
  unfold gIsNot at fin
  split at fin
  · cases ry
    exact ⟨rfl, by rw [isNon_of rx]; exact fin.here rs _ (.bl _)⟩
  · exact fin.elim⟩
theorem gIn_ok {g : G0} {m : Mp} {H : Hp} {st : Sto} {d e : D} {x y : V} {k : Bool} (rs : RS g m H st) (rx : RV g.K m H d x) (ry : RV g.K m H e y) (h : gIn st d e = some k) :
    ∃ p xs, y = .ref p ∧ (SqL g.K H p xs ∨ SqT g.K H p xs) ∧ flatV x = true ∧ xs.all flatV = true ∧ inV x xs = k := by
  unfold gIn at h
  split at h
  · rename_i xs q
    split at h
    · rename_i hf
      cases h
      obtain ⟨p, vs, rfl, hq, r⟩ := seq_of rs ry q
      obtain ⟨f1, f2⟩ := fvs_of rx hf.1 r hf.2
      exact ⟨p, vs, rfl, hq, (fv_of rx hf.1).2, f1, f2⟩
    · cases h
  · cases h
theorem c_in : CmpR ct X E .In gInE := ⟨_, op_in_seq, fun m H st d e x y Q rs rx ry fin => by
  obtain ⟨k, h1, h2⟩ := fB_ok rs fin
  obtain ⟨p, xs, rfl, hq, f1, f2, rfl⟩ := gIn_ok rs rx ry h1
  exact ⟨p, xs, rfl, hq, f1, f2, h2⟩⟩
theorem c_notin : CmpR ct X E .NotIn gNotInE := ⟨_, op_notIn_seq, fun m H st d e x y Q rs rx ry fin => by
  obtain ⟨k, h1, h2⟩ := fB_ok rs fin
  cases he : gIn st d e with
  | none => rw [he] at h1; cases h1
  | some k' =>
    rw [he] at h1
    cases h1
    obtain ⟨p, xs, rfl, hq, f1, f2, rfl⟩ := gIn_ok rs rx ry he
    exact ⟨p, xs, rfl, hq, f1, f2, h2⟩⟩
theorem si_c {op : CmpOp} {f : D → D → Sto → Rs D} (h : CmpR ct X E op f) (ha : SI ct X E a A) (hb : SI ct X E b B) (hm : behindInMarks op b = false := by first | exact nomark _ | rfl) : SI ct X E (.Compare a [op] [b] pos) (iBin f A B) := by
  obtain ⟨r, ho, hr⟩ := h
  exact si_cmp ho hr ha hb hm
theorem sb_c {op : CmpOp} {f : D → D → Sto → Rs D} (h : CmpR ct X E op f) (ha : SI ct X E a A) (hb : SI ct X E b B) (hm : behindInMarks op b = false := by first | exact nomark _ | rfl) : SB ct X E (.Compare a [op] [b] pos) (iTest (iBin f A B)) := by
  obtain ⟨r, ho, hr⟩ := h
  exact sb_cmp ho hr ha hb hm
/-- a op b op' c -/
def iChain (f f' : D → D → Sto → Rs D) (A B C : IE) : IE := fun env st => (A env st).bind fun d st1 => (B env st1).bind fun e st2 => (f d e st2).bind fun k st3 => match k with
  | .bl true => (C env st3).bind fun c st4 => f' e c st4
  | .bl false => .ok (.bl false) st3
  | _ => .bad
theorem chain_tI {f f' : D → D → Sto → Rs D} {r r' : R2} (hr : OpS (gx ct X) E f r) (hr' : OpS (gx ct X) E f' r') {σ : L2.St} {H : Hp} {Q : VK} (h : tI (gx ct X) E (iChain f f' A B C) σ H Q)
    : tChain r r' (tI (gx ct X) E A) (tI (gx ct X) E B) (tI (gx ct X) E C) σ H Q := by
  obtain ⟨m, env, st, re, rs, fin⟩ := h
  refine ⟨m, env, st, re, rs, fin.bind.imp fun m1 H1 d st1 g1 rs1 q x rx => ?_⟩
  have re1 := re.mono g1
  refine ⟨m1, env, st1, re1, rs1, q.bind.imp fun m2 H2 e st2 g2 rs2 q2 y ry => ?_⟩
  have re2 := re1.mono g2
  refine hr m2 H2 st2 d e x y _ rs2 (rx.mono g2) ry (q2.bind.imp fun m3 H3 k st3 g3 rs3 q3 z rz => ?_)
  split at q3
  · cases rz
    refine ⟨true, rfl, ?_⟩
    rw [if_pos rfl]
    refine ⟨m3, env, st3, re2.mono g3, rs3, q3.bind.imp fun m4 H4 c st4 g4 rs4 q4 w rw' => ?_⟩
    exact hr' m4 H4 st4 e c y w Q rs4 (ry.mono (g3.trans g4)) rw' q4
  · cases rz
    refine ⟨false, rfl, ?_⟩
    rw [if_neg Bool.false_ne_true]
    exact q3.here rs3 _ (.bl false)
  · exact q3.elim
theorem si_chain {op op' : CmpOp} {f f' : D → D → Sto → Rs D} (h : CmpR ct X E op f) (h' : CmpR ct X E op' f') (ha : SI ct X E a A) (hb : SI ct X E b B) (hc : SI ct X E c C) (hm : lastMarks [op, op'] [b, c] = false := by with_unfolding_all rfl) :
    SI ct X E (.Compare a [op, op'] [b, c] pos) (iChain f f' A B C) := by
  obtain ⟨r, ho, hr⟩ := h
  obtain ⟨r', ho', hr'⟩ := h'
  exact ⟨(pe_chain ho ho' ha.pe hb.pe hc.pe hm).imp fun _ _ _ q => chain_tI hr hr' q⟩
theorem sb_chain {op op' : CmpOp} {f f' : D → D → Sto → Rs D} (h : CmpR ct X E op f) (h' : CmpR ct X E op' f') (ha : SI ct X E a A) (hb : SI ct X E b B) (hc : SI ct X E c C) (hm : lastMarks [op, op'] [b, c] = false := by with_unfolding_all rfl) :
    SB ct X E (.Compare a [op, op'] [b, c] pos) (iTest (iChain f f' A B C)) := by
  obtain ⟨r, ho, hr⟩ := h
  obtain ⟨r', ho', hr'⟩ := h'
  exact ⟨(pt_chain ho ho' ha.pe hb.pe hc.pe hm).imp fun _ _ _ q => chain_tI hr hr' (test_tI q)⟩

/-! ### truth, and, or, not, if else -/
def gTru (st : Sto) : D → Option Bool
  | .non => some false
  | .bl b => some b
  | .int i => some (i != 0)
  | .str y => if y.length ≤ 16777216 then some ((y.length : Int) != 0) else none
  | d => match seqAt st d with
    | some xs => some (!xs.isEmpty)
    | none => none
theorem empty_of {K : PySem.W.Frag} {m : Mp} {H : Hp} {xs : List D} {vs : List V} (r : RVs K m H xs vs) : vs.isEmpty = xs.isEmpty := by cases r <;> rfl
theorem gTru_ok {g : G0} {m : Mp} {H : Hp} {st : Sto} {d : D} {x : V} {k : Bool} (rs : RS g m H st) (r : RV g.K m H d x) (e : gTru st d = some k) : TruV g.K x H k := by
  cases d with
  | non => cases r; cases e; rfl
  | bl b => cases r; cases e; rfl
  | int i => cases r; cases e; rfl
  | str y =>
    cases r
    simp only [gTru] at e
    split at e
    · rename_i hz
      cases e
      exact ⟨by rw [sl_eq]; exact hz, rfl⟩
    · cases e
  | _ =>
    simp only [gTru] at e
    split at e
    · rename_i xs q
      cases e
      obtain ⟨p, vs, rfl, hq, rv⟩ := seq_of rs r q
      rcases hq with hq | hq
      · exact .inl ⟨vs, hq, by rw [empty_of rv]⟩
      · exact .inr (.inl ⟨vs, hq, by rw [empty_of rv]⟩)
    · cases e
def fT (o : Option Bool) (st : Sto) : Rs Bool := match o with
  | some b => .ok b st
  | none => .bad
def iTru (A : IE) : IT := fun env st => (A env st).bind fun d st1 => fT (gTru st1 d) st1
theorem tru_tI {σ : L2.St} {H : Hp} {Q : Bool → Hp → Prop} (h : tIT (gx ct X) E (iTru A) σ H Q) : tI (gx ct X) E A σ H (fun x H' => ∃ k, TruV X.K x H' k ∧ Q k H') := by
  obtain ⟨m, env, st, re, rs, fin⟩ := h
  refine ⟨m, env, st, re, rs, fin.bind.imp fun m1 H1 d st1 g1 rs1 q x rx => ?_⟩
  cases hk : gTru st1 d with
  | none => rw [hk] at q; exact q.elim
  | some k => rw [hk] at q; exact ⟨k, gTru_ok rs1 rx hk, Fin.here q rs1⟩
theorem sb_tru (ha : SI ct X E a A) (he : ∀ whole, isTrue a X.env whole = (do let v ← whole; standAt a.pos; holding [v] (truthy v)) := by intro _; rfl) : SB ct X E a (iTru A) :=
  ⟨(pt_truth ha.pe he).imp fun _ _ _ h => tru_tI h⟩
def iAnd (T U : IT) : IT := fun env st => (T env st).bind fun b st1 => if b = true then U env st1 else .ok false st1
def iOr (T U : IT) : IT := fun env st => (T env st).bind fun b st1 => if b = true then .ok true st1 else U env st1
def iNot (T : IT) : IT := fun env st => (T env st).bind fun b st1 => .ok (!b) st1
variable {T U : IT} {rest : List Expr}
theorem sw_and1 (h : SB ct X E a T) : SW ct X E (.BoolOp .And [a] pos) T := ⟨pw_and1 h.pt⟩
theorem sw_or1 (h : SB ct X E a T) : SW ct X E (.BoolOp .Or [a] pos) T := ⟨pw_or1 h.pt⟩
theorem sw_and (h : SB ct X E a T) (h2 : SW ct X E (.BoolOp .And (b :: rest) pos) U) : SW ct X E (.BoolOp .And (a :: b :: rest) pos) (iAnd T U) :=
  ⟨(pw_and h.pt h2.pw).imp fun σ H Q ⟨m, env, st, re, rs, fin⟩ => ⟨m, env, st, re, rs, fin.bind.imp fun m1 H1 b st1 g1 rs1 q => by
    cases b with
    | true => rw [if_pos rfl] at q ⊢; exact ⟨m1, env, st1, re.mono g1, rs1, q⟩
    | false => rw [if_neg Bool.false_ne_true] at q ⊢; exact q.here rs1⟩⟩
theorem sw_or (h : SB ct X E a T) (h2 : SW ct X E (.BoolOp .Or (b :: rest) pos) U) : SW ct X E (.BoolOp .Or (a :: b :: rest) pos) (iOr T U) :=
  ⟨(pw_or h.pt h2.pw).imp fun σ H Q ⟨m, env, st, re, rs, fin⟩ => ⟨m, env, st, re, rs, fin.bind.imp fun m1 H1 b st1 g1 rs1 q => by
    cases b with
    | false => rw [if_neg Bool.false_ne_true] at q ⊢; exact ⟨m1, env, st1, re.mono g1, rs1, q⟩
    | true => rw [if_pos rfl] at q ⊢; exact q.here rs1⟩⟩
theorem sb_w (h : SW ct X E a T) : SB ct X E a T := ⟨h.pw.pt⟩
theorem sb_not (h : SB ct X E a T) : SB ct X E (.UnaryOp .Not a pos) (iNot T) :=
  ⟨(pt_not h.pt).imp fun σ H Q ⟨m, env, st, re, rs, fin⟩ => ⟨m, env, st, re, rs, fin.bind.imp fun m1 H1 b st1 g1 rs1 q => q.here rs1⟩⟩
def iIf (T : IT) (A B : IE) : IE := fun env st => (T env st).bind fun b st1 => if b = true then A env st1 else B env st1
theorem si_if (h : SB ct X E c T) (ha : SI ct X E a A) (hb : SI ct X E b B) : SI ct X E (.IfExp c a b pos) (iIf T A B) :=
  ⟨(pe_ifExp h.pt ha.pe hb.pe).imp fun σ H Q ⟨m, env, st, re, rs, fin⟩ => ⟨m, env, st, re, rs, fin.bind.imp fun m1 H1 b st1 g1 rs1 q => by
    cases b with
    | true => rw [if_pos rfl] at q ⊢; exact ⟨m1, env, st1, re.mono g1, rs1, q⟩
    | false => rw [if_neg Bool.false_ne_true] at q ⊢; exact ⟨m1, env, st1, re.mono g1, rs1, q⟩⟩⟩
/-- x and y, x or y, not x as values -/
def iAndV (A B : IE) : IE := fun env st => (A env st).bind fun d st1 => match gTru st1 d with
  | some true => B env st1
  | some false => .ok d st1
  | none => .bad
def iOrV (A B : IE) : IE := fun env st => (A env st).bind fun d st1 => match gTru st1 d with
  | some true => .ok d st1
  | some false => B env st1
  | none => .bad
def iNotV (A : IE) : IE := fun env st => (A env st).bind fun d st1 => fB ((gTru st1 d).map (!·)) st1
theorem si_one {op} (h : SI ct X E a A) : SI ct X E (.BoolOp op [a] pos) A := ⟨pe_one h.pe⟩
theorem si_andV (ha : SI ct X E a A) (hb : SI ct X E (.BoolOp .And (b :: rest) pos) B) : SI ct X E (.BoolOp .And (a :: b :: rest) pos) (iAndV A B) :=
  ⟨(pe_andT ha.pe hb.pe).imp fun σ H Q ⟨m, env, st, re, rs, fin⟩ => ⟨m, env, st, re, rs, fin.bind.imp fun m1 H1 d st1 g1 rs1 q x rx => by
    split at q
    · rename_i hk
      refine ⟨true, gTru_ok rs1 rx hk, ?_⟩
      rw [if_pos rfl]
      exact ⟨m1, env, st1, re.mono g1, rs1, q⟩
    · rename_i hk
      refine ⟨false, gTru_ok rs1 rx hk, ?_⟩
      rw [if_neg Bool.false_ne_true]
      exact q.here rs1 _ rx
    · exact q.elim⟩⟩
theorem si_orV (ha : SI ct X E a A) (hb : SI ct X E (.BoolOp .Or (b :: rest) pos) B) : SI ct X E (.BoolOp .Or (a :: b :: rest) pos) (iOrV A B) :=
  ⟨(pe_orT ha.pe hb.pe).imp fun σ H Q ⟨m, env, st, re, rs, fin⟩ => ⟨m, env, st, re, rs, fin.bind.imp fun m1 H1 d st1 g1 rs1 q x rx => by
    split at q
    · rename_i hk
      refine ⟨true, gTru_ok rs1 rx hk, ?_⟩
      rw [if_pos rfl]
      exact q.here rs1 _ rx
    · rename_i hk
      refine ⟨false, gTru_ok rs1 rx hk, ?_⟩
      rw [if_neg Bool.false_ne_true]
      exact ⟨m1, env, st1, re.mono g1, rs1, q⟩
    · exact q.elim⟩⟩
theorem si_notV (ha : SI ct X E a A) : SI ct X E (.UnaryOp .Not a pos) (iNotV A) :=
  ⟨(pe_notT ha.pe).imp fun σ H Q ⟨m, env, st, re, rs, fin⟩ => ⟨m, env, st, re, rs, fin.bind.imp fun m1 H1 d st1 g1 rs1 q x rx => by
    obtain ⟨k, h1, h2⟩ := fB_ok rs1 q
    cases hk : gTru st1 d with
    | none => rw [hk] at h1; cases h1
    | some k' =>
      rw [hk] at h1
      cases h1
      exact ⟨k', gTru_ok rs1 rx hk, h2⟩⟩⟩
def gNeg : D → Sto → Rs D
  | .int i, st => .ok (.int (-i)) st
  | _, _ => .bad
theorem si_neg (ha : SI ct X E a A) : SI ct X E (.UnaryOp .USub a pos) (iUn gNeg A) :=
  ⟨(pe_un un_neg ha.pe).imp fun σ H Q ⟨m, env, st, re, rs, fin⟩ => ⟨m, env, st, re, rs, fin.bind.imp fun m1 H1 d st1 g1 rs1 q x rx => by
    unfold gNeg at q
    split at q
    · cases rx
      exact ⟨_, rfl, q.here rs1 _ (.int _)⟩
    · exact q.elim⟩⟩
end
end QI

namespace QI
open PySem PySem.Spec PyProof.Rows L2

section
variable {ct : String → Addr} {X : Cx} {E : EK} {pos p2 : Pos} {a b c e : Expr} {es : List Expr} {A B C : IE} {L : IL}
/-! ### argument lists, displays -/
def iNil : IL := fun _ st => .ok [] st
def iCons (A : IE) (L : IL) : IL := fun env st => (A env st).bind fun d st1 => (L env st1).bind fun ds st2 => .ok (d :: ds) st2
theorem sa_nil : SA ct X E [] iNil := ⟨pa_nil.imp fun σ H Q ⟨m, env, st, re, rs, fin⟩ => Fin.here fin rs _ .nil⟩
theorem sa_cons (ha : SI ct X E e A) (hl : SA ct X E es L) (hs : starEach (e :: es) X.env = (false, eval e X.env) :: starEach es X.env := by rfl) : SA ct X E (e :: es) (iCons A L) :=
  ⟨(pa_cons ha.pe hl.pa hs).imp fun σ H Q ⟨m, env, st, re, rs, fin⟩ => ⟨m, env, st, re, rs, fin.bind.imp fun m1 H1 d st1 g1 rs1 q x rx =>
    ⟨m1, env, st1, re.mono g1, rs1, q.bind.imp fun m2 H2 ds st2 g2 rs2 q2 xs rxs => q2.here rs2 _ (.cons (rx.mono g2) rxs)⟩⟩⟩
/-- an expression that makes a new list -/
def tF (g : G0) (E : EK) (L : IL) : TE := fun σ H Q => ∃ m env st, RE g.K m H env σ ∧ RS g m H st ∧
  Fin g E m H (L env st) (fun m' H' ds _ => ∀ vs, RVs g.K m' H' ds vs → ∀ p, H' p = none → Q (.ref p) (upd H' p (.lst vs)))
variable (ct X E) in
structure SF (e : Expr) (L : IL) : Prop where
  pe : PE X e (tF (gx ct X) E L)
def iRol (L : IL) : IE := fun env st => (L env st).bind fun ds st1 => .ok (.rol ds) st1
def iCell (L : IL) : IE := fun env st => (L env st).bind fun ds st1 => .ok (.ref st1.length) (st1 ++ [.lst ds])
theorem si_rol (h : SF ct X E e L) : SI ct X E e (iRol L) := ⟨h.pe.imp fun σ H Q ⟨m, env, st, re, rs, fin⟩ => ⟨m, env, st, re, rs, fin.bind.imp fun m1 H1 ds st1 g1 rs1 q vs rv p hp =>
  rol_new rs1 rv q p hp⟩⟩
theorem si_cell (h : SF ct X E e L) : SI ct X E e (iCell L) := ⟨h.pe.imp fun σ H Q ⟨m, env, st, re, rs, fin⟩ => ⟨m, env, st, re, rs, fin.bind.imp fun m1 H1 ds st1 g1 rs1 q vs rv p hp => by
  have gr : Grow m1 H1 (m1.add p) (upd H1 p (.lst vs)) := Grow.adopt hp
  refine q _ _ gr (rs1.adopt hp ⟨vs, rv.mono gr, upd_same⟩) _ (.ref ?_)
  show (m1.cs ++ [p])[st1.length]? = some p
  rw [List.getElem?_append_right (by rw [rs1.len]; exact Nat.le_refl _), ← rs1.len]
  simp⟩⟩
def iTup (L : IL) : IE := fun env st => (L env st).bind fun ds st1 => if ds.length ≤ 16777216 then .ok (.tup ds) st1 else .bad
theorem si_tup {x1} (h : SA ct X E es L) : SI ct X E (.Tuple es x1 pos) (iTup L) := ⟨(pe_tup h.pa).imp fun σ H Q ⟨m, env, st, re, rs, fin⟩ => ⟨m, env, st, re, rs, fin.bind.imp fun m1 H1 ds st1 g1 rs1 q vs rv => by
  split at q
  · rename_i hz
    exact ⟨by rw [← rv.length, sl_eq]; exact hz, tup_new rs1 rv q⟩
  · exact q.elim⟩⟩
def iLst (L : IL) : IL := fun env st => (L env st).bind fun ds st1 => if ds.length ≤ 16777216 then .ok ds st1 else .bad
theorem sf_lst (h : SA ct X E es L) : SF ct X E (.List es pos) (iLst L) := ⟨(pe_lst h.pa).imp fun σ H Q ⟨m, env, st, re, rs, fin⟩ => ⟨m, env, st, re, rs, fin.bind.imp fun m1 H1 ds st1 g1 rs1 q vs rv => by
  split at q
  · rename_i hz
    exact ⟨by rw [← rv.length, sl_eq]; exact hz, q.here rs1 vs rv⟩
  · exact q.elim⟩⟩
/-- xs + ys, xs * k as new lists -/
def fLst (f : D → D → Sto → Rs D) : D → D → Sto → Rs (List D) := fun d e st => match f d e st with
  | .ok (.rol ds) st' => .ok ds st'
  | _ => .bad
def iBinL (f : D → D → Sto → Rs D) (A B : IE) : IL := fun env st => (A env st).bind fun d st1 => (B env st1).bind fun e st2 => fLst f d e st2
theorem sf_add (ha : SI ct X E a A) (hb : SI ct X E b B) : SF ct X E (.BinOp a .Add b pos) (iBinL gAdd A B) := ⟨(pe_op op_cat ha.pe hb.pe).imp fun σ H Q ⟨m, env, st, re, rs, fin⟩ =>
  ⟨m, env, st, re, rs, fin.bind.imp fun m1 H1 d st1 g1 rs1 q x rx => ⟨m1, env, st1, re.mono g1, rs1, q.bind.imp fun m2 H2 e st2 g2 rs2 q2 y ry => by
    unfold fLst at q2
    split at q2
    · rename_i ds st' he
      unfold gAdd at he
      split at he
      · cases he
      · split at he <;> cases he
      · split at he <;> cases he
      · split at he
        · rename_i xs ys q3 q4
          split at he
          · rename_i hz
            cases he
            obtain ⟨p, vs, rfl, h1, r1⟩ := list_of rs2 (rx.mono g2) q3
            obtain ⟨p', ws, rfl, h2, r2⟩ := list_of rs2 ry q4
            rw [r1.length, r2.length] at hz
            exact ⟨p, p', vs, ws, rfl, rfl, h1, h2, by rw [sl_eq]; exact hz, q2.here rs2 _ (r1.append r2)⟩
          · cases he
        · cases he
    · exact q2.elim⟩⟩⟩
theorem sf_mul (ha : SI ct X E a A) (hb : SI ct X E b B) : SF ct X E (.BinOp a .Mult b pos) (iBinL gMul A B) := ⟨(pe_op op_rep ha.pe hb.pe).imp fun σ H Q ⟨m, env, st, re, rs, fin⟩ =>
  ⟨m, env, st, re, rs, fin.bind.imp fun m1 H1 d st1 g1 rs1 q x rx => ⟨m1, env, st1, re.mono g1, rs1, q.bind.imp fun m2 H2 e st2 g2 rs2 q2 y ry => by
    unfold fLst at q2
    split at q2
    · rename_i ds st' he
      unfold gMul at he
      split at he
      · split at he <;> cases he
      · split at he
        · rename_i xs q3
          split at he
          · rename_i hz
            cases he
            cases ry
            obtain ⟨p, vs, rfl, h1, r1⟩ := list_of rs2 (rx.mono g2) q3
            rw [r1.length] at hz
            exact ⟨p, _, vs, rfl, rfl, h1, hz.1, hz.2.1, by rw [sl_eq]; exact hz.2.2, q2.here rs2 _ (r1.flat _)⟩
          · cases he
        · cases he
      · cases he
    · exact q2.elim⟩⟩⟩

/-! ### subscripts, slices -/
theorem RVs.atI {K : PySem.W.Frag} {m : Mp} {H : Hp} {ds : List D} {vs : List V} {i : Int} {d : D} (r : RVs K m H ds vs) (e : L2.atI ds i = some d) : ∃ v, L2.atI vs i = some v ∧ RV K m H d v := by
  unfold L2.atI at e ⊢
  rw [← r.length]
  cases h : ixN ds.length i with
  | none => rw [h] at e; cases e
  | some j =>
    rw [h] at e
    exact r.get e
def gIx : D → D → Sto → Rs D := fun d e st => match e with
  | .int i => match d with
    | .str z => if z.length ≤ 16777216 then (match atI z.cps.toList i with
      | some c => .ok (.str ⟨#[c]⟩) st
      | none => .bad) else .bad
    | _ => match seqAt st d with
      | some xs => match atI xs i with
        | some v => .ok v st
        | none => .bad
      | none => .bad
  | _ => .bad
theorem ops_ix {g : G0} : OpS g E gIx (rIx g.K) := by
  intro m H st d e x y Q rs rx ry fin
  unfold gIx at fin
  split at fin
  · cases ry
    split at fin
    · cases rx
      split at fin
      · rename_i hz
        split at fin
        · rename_i c hc
          exact .inr (.inr ⟨_, _, c, rfl, rfl, by rw [sl_eq]; exact hz, hc, fin.here rs _ (.str _)⟩)
        · exact fin.elim
      · exact fin.elim
    · split at fin
      · rename_i xs hq
        split at fin
        · rename_i v hv
          obtain ⟨p, vs, rfl, hs, r⟩ := seq_of rs rx hq
          obtain ⟨w, hw, rw'⟩ := r.atI hv
          rcases hs with hs | hs
          · exact .inl ⟨p, vs, _, w, rfl, rfl, hs, hw, fin.here rs _ rw'⟩
          · exact .inr (.inl ⟨p, vs, _, w, rfl, rfl, hs, hw, fin.here rs _ rw'⟩)
        · exact fin.elim
      · exact fin.elim
  · exact fin.elim
theorem si_ix (ha : SI ct X E a A) (hb : SI ct X E b B) (hs : PlainIx b := by exact fun _ _ => rfl) : SI ct X E (.Subscript a b pos) (iBin gIx A B) :=
  ⟨(pe_ix ix_seq ha.pe hb.pe hs).imp fun _ _ _ h => bin_tI ops_ix h⟩
abbrev IO := Ev → Sto → Rs (Option Int)
variable (ct X E) in
structure SO (e : Option Expr) (I : IO) : Prop where
  po : PO X e (fun σ H Q => ∃ m env st, RE X.K m H env σ ∧ RS (gx ct X) m H st ∧ Fin (gx ct X) E m H (I env st) (fun _ H' o _ => Q o H'))
theorem _root_.L2.PO.imp {X : Cx} {e : Option Expr} {t t' : TO} (h : PO X e t) (f : ∀ σ H Q, t' σ H Q → t σ H Q) : PO X e t' := ⟨fun pins s σ H Q I q => h.run pins s σ H Q I (f σ H Q q)⟩
def oNone : IO := fun _ st => .ok none st
def oSome (A : IE) : IO := fun env st => (A env st).bind fun d st1 => match d with
  | .int i => .ok (some i) st1
  | _ => .bad
theorem so_none : SO ct X E none oNone := ⟨po_none.imp fun σ H Q ⟨m, env, st, re, rs, fin⟩ => Fin.here fin rs⟩
theorem so_some (h : SI ct X E e A) : SO ct X E (some e) (oSome A) := ⟨(po_some h.pe).imp fun σ H Q ⟨m, env, st, re, rs, fin⟩ => ⟨m, env, st, re, rs, fin.bind.imp fun m1 H1 d st1 g1 rs1 q x rx => by
  split at q
  · cases rx; exact ⟨_, rfl, q.here rs1⟩
  · exact q.elim⟩⟩
def cut {α : Type} (xs : List α) (lo hi : Option Int) : List α := (xs.drop (HT.sIx xs.length 0 lo)).take (HT.sIx xs.length xs.length hi - HT.sIx xs.length 0 lo)
theorem RVs.cut {K : PySem.W.Frag} {m : Mp} {H : Hp} {ds : List D} {vs : List V} (r : RVs K m H ds vs) (lo hi : Option Int) : RVs K m H (QI.cut ds lo hi) (cutV vs lo hi) := by
  unfold QI.cut cutV
  rw [← r.length]
  exact (r.drop _).take _
theorem cut_whole {α : Type} {xs : List α} {lo hi : Option Int} (h : HT.sIx xs.length 0 lo = 0 ∧ HT.sIx xs.length xs.length hi = xs.length) : cut xs lo hi = xs := by
  unfold cut
  rw [h.1, h.2]
  simp
def gSl (d : D) (lo hi : Option Int) (st : Sto) : Rs D := match d with
  | .tup xs => .ok (.tup (cut xs lo hi)) st
  | .str z => if z.length ≤ 16777216 then .ok (.str (cutS z lo hi)) st else .bad
  | _ => match seqAt st d with
    | some xs => .ok (.rol (cut xs lo hi)) st
    | none => .bad
def iSl (A : IE) (lo hi : IO) : IE := fun env st => (A env st).bind fun d st1 => (lo env st1).bind fun l st2 => (hi env st2).bind fun h st3 => gSl d l h st3
variable {lo hi : Option Expr} {Lo Hi : IO}
theorem seqL_of {g : G0} {m : Mp} {H : Hp} {st : Sto} {d : D} {x : V} {xs : List D} (rs : RS g m H st) (r : RV g.K m H d x) (hn : ∀ ys, d ≠ .tup ys) (e : seqAt st d = some xs) : ∃ p vs, x = .ref p ∧ SqL g.K H p vs ∧ RVs g.K m H xs vs := by
  cases d with
  | tup ys => exact absurd rfl (hn ys)
  | rol ys =>
    cases e
    cases r with
    | rol h1 h2 => exact ⟨_, _, rfl, h1.sq, h2⟩
  | scr ys =>
    cases e
    cases r with
    | scr h1 h2 => exact ⟨_, _, rfl, h1.sq, h2⟩
  | ref n =>
    cases r with
    | ref h1 =>
      unfold seqAt at e
      simp only at e
      split at e
      · rename_i ys q
        cases e
        obtain ⟨vs, h2, h3⟩ := rs.rc n _ _ h1 q
        exact ⟨_, vs, rfl, SqL.of h3, h2⟩
      · cases e
  | _ => cases e
theorem sl_ok {m : Mp} {H : Hp} {st : Sto} {d : D} {x : V} {l h : Option Int} {Q : VK} {g : G0} (rs : RS g m H st) (rx : RV g.K m H d x) (fin : Fin g E m H (gSl d l h st) (EndE g Q)) :
    rSlA g.K x l h H Q ∨ ((∃ z, x = .str z ∧ z.length ≤ sizeLine ∧ Q (.str (cutS z l h)) H) ∨ rSlL g.K x l h H Q) := by
  unfold gSl at fin
  split at fin
  · rename_i xs
    cases rx with
    | tup h1 h2 =>
      refine .inl ⟨_, _, rfl, h1.sq, fun w => ?_, fun w => tup_new rs (h2.cut _ _) fin⟩
      rw [← h2.length] at w
      rw [cut_whole w] at fin
      exact fin.here rs _ (.tup h1 h2)
  · cases rx
    split at fin
    · rename_i hz
      exact .inr (.inl ⟨_, rfl, by rw [sl_eq]; exact hz, fin.here rs _ (.str _)⟩)
    · exact fin.elim
  · rename_i h1 h2
    split at fin
    · rename_i xs hq
      obtain ⟨p, vs, rfl, hs, r⟩ := seqL_of rs rx h1 hq
      exact .inr (.inr ⟨p, vs, rfl, hs, rol_new rs (r.cut _ _) fin⟩)
    · exact fin.elim
theorem si_sl (ha : SI ct X E a A) (hl : SO ct X E lo Lo) (hh : SO ct X E hi Hi) : SI ct X E (.Subscript a (.Slice lo hi none p2) pos) (iSl A Lo Hi) :=
  ⟨(pe_slice (sl_tupA.or (sl_str.or sl_list)) ha.pe hl.po hh.po).imp fun σ H Q ⟨m, env, st, re, rs, fin⟩ => ⟨m, env, st, re, rs, fin.bind.imp fun m1 H1 d st1 g1 rs1 q x rx =>
    ⟨m1, env, st1, re.mono g1, rs1, q.bind.imp fun m2 H2 l st2 g2 rs2 q2 => ⟨m2, env, st2, (re.mono g1).mono g2, rs2, q2.bind.imp fun m3 H3 h st3 g3 rs3 q3 => sl_ok rs3 ((rx.mono g2).mono g3) q3⟩⟩⟩⟩

/-! ### calls of built-ins -/
def CallS (g : G0) (E : EK) (f : List D → Sto → Rs D) (r : List V → Hp → VK → Prop) : Prop :=
  ∀ (m : Mp) (H : Hp) (st : Sto) (ds : List D) (vs : List V) (Q : VK), RS g m H st → RVs g.K m H ds vs → Fin g E m H (f ds st) (EndE g Q) → r vs H Q
def CB (ct : String → Addr) (X : Cx) (E : EK) (v : Value) (f : List D → Sto → Rs D) : Prop := ∃ r, CallR X v r ∧ CallS (gx ct X) E f r
def iCallB (f : List D → Sto → Rs D) (L : IL) : IE := fun env st => (L env st).bind f
theorem callB_tI {f : List D → Sto → Rs D} {r : List V → Hp → VK → Prop} (hr : CallS (gx ct X) E f r) {σ : L2.St} {H : Hp} {Q : VK} (h : tI (gx ct X) E (iCallB f L) σ H Q) : tCB r (tIA (gx ct X) E L) σ H Q := by
  obtain ⟨m, env, st, re, rs, fin⟩ := h
  exact ⟨m, env, st, re, rs, fin.bind.imp fun m1 H1 ds st1 g1 rs1 q vs rv => hr m1 H1 st1 ds vs Q rs1 rv q⟩
theorem si_callB {id : String} {f : List D → Sto → Rs D} {x : Str} {p : Pos} (hc : CB ct X E (.builtin id) f) (hg : Gl X x) (hm : X.mg x = none) (hv : bootBuiltins x = some (.builtin id)) (ha : SA ct X E (e :: es) L) (hn : x ≠ "__name__" := by decide) (hdb : (x == ("__debug__" : Str)) = false := by decide)
    (he : starEach (e :: es) X.env = (false, eval e X.env) :: starEach es X.env := by rfl) (hpl : (backTo pos (starEach es X.env)).any (·.1) = false := by rfl) : SI ct X E (.Call (.Name x p) (e :: es) [] pos) (iCallB f L) := by
  obtain ⟨r, hc, hr⟩ := hc
  exact ⟨(pe_callB hc hg hm hv ha.pa hn hdb he hpl).imp fun _ _ _ h => callB_tI hr h⟩
theorem si_callTy {T : String} {f : List D → Sto → Rs D} {x : Str} {p : Pos} (hc : CB ct X E (.type T) f) (hg : Gl X x) (hm : X.mg x = none) (hv : bootBuiltins x = some (.type T)) (ha : SA ct X E (e :: es) L) (hn : x ≠ "__name__" := by decide) (hdb : (x == ("__debug__" : Str)) = false := by decide)
    (he : starEach (e :: es) X.env = (false, eval e X.env) :: starEach es X.env := by rfl) (hpl : (backTo pos (starEach es X.env)).any (·.1) = false := by rfl) : SI ct X E (.Call (.Name x p) (e :: es) [] pos) (iCallB f L) := by
  obtain ⟨r, hc, hr⟩ := hc
  exact ⟨(pe_callTy hc hg hm hv ha.pa hn hdb he hpl).imp fun _ _ _ h => callB_tI hr h⟩
def gLen : List D → Sto → Rs D
  | [.str z], st => if z.length ≤ 16777216 then .ok (.int z.length) st else .bad
  | [d], st => match seqAt st d with
    | some xs => .ok (.int xs.length) st
    | none => .bad
  | _, _ => .bad
theorem cb_len : CB ct X E (.builtin "len") gLen := ⟨_, call_len_str.or call_len_seq, fun m H st ds vs Q rs rv fin => by
  unfold gLen at fin
  split at fin
  · cases rv with
    | cons r1 r2 =>
      cases r2; cases r1
      split at fin
      · rename_i hz
        exact .inl ⟨_, rfl, by rw [sl_eq]; exact hz, fin.here rs _ (.int _)⟩
      · exact fin.elim
  · cases rv with
    | cons r1 r2 =>
      cases r2
      split at fin
      · rename_i xs hq
        obtain ⟨p, ws, rfl, hs, r⟩ := seq_of rs r1 hq
        exact .inr ⟨p, ws, rfl, hs, by rw [← r.length]; exact fin.here rs _ (.int _)⟩
      · exact fin.elim
  · exact fin.elim⟩
def gAbs : List D → Sto → Rs D
  | [.int i], st => .ok (.int (if i < 0 then -i else i)) st
  | _, _ => .bad
theorem cb_abs : CB ct X E (.builtin "abs") gAbs := ⟨_, call_abs, fun m H st ds vs Q rs rv fin => by
  unfold gAbs at fin
  split at fin
  · cases rv with
    | cons r1 r2 => cases r2; cases r1; exact ⟨_, rfl, fin.here rs _ (.int _)⟩
  · exact fin.elim⟩
def gInt : List D → Sto → Rs D
  | [.int i], st => .ok (.int i) st
  | [.bl k], st => .ok (.int (if k then 1 else 0)) st
  | _, _ => .bad
theorem cb_int : CB ct X E (.type "int") gInt := ⟨_, call_int1, fun m H st ds vs Q rs rv fin => by
  unfold gInt at fin
  split at fin
  · cases rv with
    | cons r1 r2 => cases r2; cases r1; exact .inl ⟨_, rfl, fin.here rs _ (.int _)⟩
  · cases rv with
    | cons r1 r2 => cases r2; cases r1; exact .inr ⟨_, rfl, fin.here rs _ (.int _)⟩
  · exact fin.elim⟩
def ints? : List D → Option (List Int)
  | [] => some []
  | .int i :: ds => match ints? ds with
    | some ns => some (i :: ns)
    | none => none
  | _ :: _ => none
theorem ints_of {K : PySem.W.Frag} {m : Mp} {H : Hp} : ∀ {ds : List D} {vs : List V} {ns : List Int}, RVs K m H ds vs → ints? ds = some ns → vs = ns.map V.int
  | [], _, _, r, e => by cases r; cases e; rfl
  | d :: ds, _, _, r, e => by
    cases r with
    | cons r1 r2 =>
      cases d with
      | int i =>
        cases r1
        simp only [ints?] at e
        split at e
        · rename_i ns q
          cases e
          rw [ints_of r2 q]; rfl
        · cases e
      | _ => simp [ints?] at e
@[simp] theorem ints_map : ∀ ns : List Int, ints? (ns.map D.int) = some ns
  | [] => rfl
  | i :: ns => by simp [ints?, ints_map ns]
def maxL : List Int → Int
  | [] => 0
  | [i] => i
  | i :: ns => max i (maxL ns)
def minL : List Int → Int
  | [] => 0
  | [i] => i
  | i :: ns => min i (minL ns)
theorem maxL_is : ∀ {ns : List Int}, 0 < ns.length → ∀ {m : Int}, m ∈ ns → (∀ y, y ∈ ns → y ≤ m) → m = maxL ns
  | [], h, _, _, _ => absurd h (by simp)
  | [i], _, m, h1, h2 => by simp at h1; exact h1
  | i :: j :: ns, _, m, h1, h2 => by
    show m = max i (maxL (j :: ns))
    have hi := h2 i (by simp)
    have key : ∀ k, k ∈ (j :: ns) → k ≤ maxL (j :: ns) := by
      have : ∀ (l : List Int) (k : Int), k ∈ l → k ≤ maxL l := by
        intro l
        induction l with
        | nil => intro k hk; cases hk
        | cons a l ih =>
          intro k hk
          cases l with
          | nil => simp at hk; simp [maxL, hk]
          | cons b l =>
            show k ≤ max a (maxL (b :: l))
            rcases List.mem_cons.mp hk with rfl | hk
            · omega
            · have := ih k hk; omega
      exact this _
    have mem : maxL (j :: ns) ∈ (j :: ns) := by
      have : ∀ (l : List Int), 0 < l.length → maxL l ∈ l := by
        intro l
        induction l with
        | nil => intro h; simp at h
        | cons a l ih =>
          intro _
          cases l with
          | nil => simp [maxL]
          | cons b l =>
            show max a (maxL (b :: l)) ∈ _
            by_cases q : a ≤ maxL (b :: l)
            · rw [Int.max_eq_right q]; exact List.mem_cons_of_mem _ (ih (by simp))
            · rw [Int.max_eq_left (by omega)]; exact List.mem_cons_self
      exact this _ (by simp)
    have h3 := h2 _ (List.mem_cons_of_mem i mem)
    rcases List.mem_cons.mp h1 with rfl | h1
    · omega
    · have := key m h1; omega
theorem minL_is {ns : List Int} (h : 0 < ns.length) {m : Int} (h1 : m ∈ ns) (h2 : ∀ y, y ∈ ns → m ≤ y) : m = minL ns := by
  have e : ∀ l : List Int, minL l = - maxL (l.map fun i => -i) := by
    intro l
    induction l with
    | nil => rfl
    | cons a l ih =>
      cases l with
      | nil => simp [minL, maxL]
      | cons b l =>
        show min a (minL (b :: l)) = - max (-a) (maxL ((b :: l).map fun i => -i))
        rw [ih]; omega
  have := maxL_is (ns := ns.map fun i => -i) (by simpa using h) (m := -m) (List.mem_map.mpr ⟨m, h1, rfl⟩) (fun y hy => by
    obtain ⟨z, hz, rfl⟩ := List.mem_map.mp hy
    have := h2 z hz; omega)
  rw [e]; omega
def gMax : List D → Sto → Rs D
  | [.int i, .int j], st => .ok (.int (if j > i then j else i)) st
  | [d], st => match listAt st d with
    | some xs => match ints? xs with
      | some ns => if 0 < ns.length then .ok (.int (maxL ns)) st else .bad
      | none => .bad
    | none => .bad
  | _, _ => .bad
def gMin : List D → Sto → Rs D
  | [.int i, .int j], st => .ok (.int (if j < i then j else i)) st
  | [d], st => match listAt st d with
    | some xs => match ints? xs with
      | some ns => if 0 < ns.length then .ok (.int (minL ns)) st else .bad
      | none => .bad
    | none => .bad
  | _, _ => .bad
theorem cb_max (hc : X.calm = true) : CB ct X E (.builtin "max") gMax := ⟨_, (call_max2 hc).or (cr_max hc), fun m H st ds vs Q rs rv fin => by
  unfold gMax at fin
  split at fin
  · cases rv with
    | cons r1 r2 =>
      cases r2 with
      | cons r2 r3 => cases r3; cases r1; cases r2; exact .inl ⟨_, _, rfl, fin.here rs _ (.int _)⟩
  · cases rv with
    | cons r1 r2 =>
      cases r2
      split at fin
      · rename_i xs hq
        split at fin
        · rename_i ns hn
          split at fin
          · rename_i hz
            obtain ⟨p, ws, rfl, hs, r⟩ := list_of rs r1 hq
            have e := ints_of r hn
            subst e
            exact .inr ⟨p, ns, rfl, SqL.of hs, hz, fun k h1 h2 => by rw [maxL_is hz h1 h2]; exact fin.here rs _ (.int _)⟩
          · exact fin.elim
        · exact fin.elim
      · exact fin.elim
  · exact fin.elim⟩
theorem cb_min (hc : X.calm = true) : CB ct X E (.builtin "min") gMin := ⟨_, (call_min2 hc).or (cr_min hc), fun m H st ds vs Q rs rv fin => by
  unfold gMin at fin
  split at fin
  · cases rv with
    | cons r1 r2 =>
      cases r2 with
      | cons r2 r3 => cases r3; cases r1; cases r2; exact .inl ⟨_, _, rfl, fin.here rs _ (.int _)⟩
  · cases rv with
    | cons r1 r2 =>
      cases r2
      split at fin
      · rename_i xs hq
        split at fin
        · rename_i ns hn
          split at fin
          · rename_i hz
            obtain ⟨p, ws, rfl, hs, r⟩ := list_of rs r1 hq
            have e := ints_of r hn
            subst e
            exact .inr ⟨p, ns, rfl, SqL.of hs, hz, fun k h1 h2 => by rw [minL_is hz h1 h2]; exact fin.here rs _ (.int _)⟩
          · exact fin.elim
        · exact fin.elim
      · exact fin.elim
  · exact fin.elim⟩
def gSum : List D → Sto → Rs D
  | [d], st => match listAt st d with
    | some xs => match ints? xs with
      | some ns => .ok (.int ns.sum) st
      | none => .bad
    | none => .bad
  | _, _ => .bad
theorem cb_sum (hc : X.calm = true) : CB ct X E (.builtin "sum") gSum := ⟨_, cr_sum hc, fun m H st ds vs Q rs rv fin => by
  unfold gSum at fin
  split at fin
  · cases rv with
    | cons r1 r2 =>
      cases r2
      split at fin
      · rename_i xs hq
        split at fin
        · rename_i ns hn
          obtain ⟨p, ws, rfl, hs, r⟩ := list_of rs r1 hq
          have e := ints_of r hn
          subst e
          exact ⟨p, ns, rfl, SqL.of hs, fin.here rs _ (.int _)⟩
        · exact fin.elim
      · exact fin.elim
  · exact fin.elim⟩
def gTuple : List D → Sto → Rs D
  | [d], st => match seqAt st d with
    | some xs => .ok (.tup xs) st
    | none => .bad
  | _, _ => .bad
theorem cb_tuple : CB ct X E (.type "tuple") gTuple := ⟨_, call_tuple_of, fun m H st ds vs Q rs rv fin => by
  unfold gTuple at fin
  split at fin
  · rename_i d
    cases rv with
    | cons r1 r2 =>
      cases r2
      split at fin
      · rename_i xs hq
        by_cases ht : ∃ ys, d = .tup ys
        · obtain ⟨ys, rfl⟩ := ht
          cases hq
          cases r1 with
          | tup h1 h2 => exact ⟨_, _, rfl, .inr ⟨h1.sq, fin.here rs _ (.tup h1 h2)⟩⟩
        · obtain ⟨p, ws, rfl, hs, r⟩ := seqL_of rs r1 (fun ys z => ht ⟨ys, z⟩) hq
          exact ⟨p, ws, rfl, .inl ⟨hs, tup_new rs r fin⟩⟩
      · exact fin.elim
  · exact fin.elim⟩
/-- list(x) -/
def iListOf (L : IL) : IL := fun env st => (L env st).bind fun ds st1 => match ds with
  | [d] => match seqAt st1 d with
    | some xs => .ok xs st1
    | none => .bad
  | _ => .bad
theorem sf_list {p : Pos} (hg : Gl X "list") (hm : X.mg "list" = none) (ha : SA ct X E [a] L) (he : starEach [a] X.env = (false, eval a X.env) :: starEach [] X.env := by rfl) : SF ct X E (.Call (.Name "list" p) [a] [] pos) (iListOf L) :=
  ⟨(pe_callTy call_list_of hg hm boot_list ha.pa (by decide) (by decide) he (by rfl)).imp fun σ H Q ⟨m, env, st, re, rs, fin⟩ => ⟨m, env, st, re, rs, fin.bind.imp fun m1 H1 ds st1 g1 rs1 q vs rv => by
    split at q
    · cases rv with
      | cons r1 r2 =>
        cases r2
        split at q
        · rename_i xs hq
          obtain ⟨p, ws, rfl, hs, r⟩ := seq_of rs1 r1 hq
          exact ⟨p, ws, rfl, hs, q.here rs1 ws r⟩
        · exact q.elim
    · exact q.elim⟩⟩
end
end QI

namespace QI
open PySem PySem.Spec PyProof.Rows L2

/-! ### statements -/
def EndS (g : G0) (Dn : Ends) : Mp → Hp → Fl → Sto → Prop := fun m' H' fl _ => match fl with
  | .nx env' => ∀ σ', RE g.K m' H' env' σ' → Dn.nx σ' H'
  | .rt d => ∀ v, RV g.K m' H' d v → Dn.rt v H'
  | .bk env' => ∀ σ', RE g.K m' H' env' σ' → Dn.bk σ' H'
  | .ct env' => ∀ σ', RE g.K m' H' env' σ' → Dn.ct σ' H'
def tS (g : G0) (E : EK) (S : IS) : TS := fun Dn σ H => ∃ m env st, RE g.K m H env σ ∧ RS g m H st ∧ Fin g E m H (S env st) (EndS g Dn)
section
variable (ct : String → Addr) (X : Cx) (E : EK)
structure SS (st : Stmt) (S : IS) : Prop where
  ps : PS X st (tS (gx ct X) E S)
structure SSs (st : List Stmt) (S : IS) : Prop where
  pss : PSs X st (tS (gx ct X) E S)
end
theorem _root_.L2.PS.imp {X : Cx} {e : Stmt} {t t' : TS} (h : PS X e t) (f : ∀ D σ H, t' D σ H → t D σ H) : PS X e t' := ⟨fun pins s σ H D I q => h.run pins s σ H D I (f D σ H q)⟩
theorem _root_.L2.PSs.imp {X : Cx} {e : List Stmt} {t t' : TS} (h : PSs X e t) (f : ∀ D σ H, t' D σ H → t D σ H) : PSs X e t' := ⟨fun pins s σ H D I q => h.run pins s σ H D I (f D σ H q)⟩
theorem _root_.L2.PSs.both {X : Cx} {e : List Stmt} {t t' t2 : TS} (h : PSs X e t) (h' : PSs X e t') (f : ∀ D σ H, t2 D σ H → t D σ H ∨ t' D σ H) : PSs X e t2 := ⟨fun pins s σ H D I q => (f D σ H q).elim (h.run pins s σ H D I) (h'.run pins s σ H D I)⟩
theorem _root_.L2.PS.both {X : Cx} {e : Stmt} {t t' t2 : TS} (h : PS X e t) (h' : PS X e t') (f : ∀ D σ H, t2 D σ H → t D σ H ∨ t' D σ H) : PS X e t2 := ⟨fun pins s σ H D I q => (f D σ H q).elim (h.run pins s σ H D I) (h'.run pins s σ H D I)⟩

def sNil : IS := fun env st => .ok (.nx env) st
def sSeq (S T : IS) : IS := fun env st => (S env st).bind fun fl st1 => match fl with
  | .nx env1 => T env1 st1
  | fl => .ok fl st1
def sBreak : IS := fun env st => .ok (.bk env) st
def sCont : IS := fun env st => .ok (.ct env) st
def sRet (A : IE) : IS := fun env st => (A env st).bind fun d st1 => .ok (.rt d) st1
def sRetN : IS := fun _ st => .ok (.rt .non) st
def sDrop (A : IE) : IS := fun env st => (A env st).bind fun _ st1 => .ok (.nx env) st1
def sIf (T : IT) (S U : IS) : IS := fun env st => (T env st).bind fun b st1 => if b = true then S env st1 else U env st1
def sSet (i : Nat) (A : IE) : IS := fun env st => (A env st).bind fun d st1 => .ok (.nx (env.set i (some d))) st1
def sNever : IS := fun _ _ => .bad

section
variable {ct : String → Addr} {X : Cx} {E : EK} {pos p2 : Pos} {a b c e : Expr} {es : List Expr} {A B C : IE} {L : IL} {T : IT} {s : Stmt} {ss ss' : List Stmt} {S U : IS}
theorem ss_nil : SSs ct X E [] sNil := ⟨pss_nil.imp fun Dn σ H ⟨m, env, st, re, rs, fin⟩ => Fin.here fin rs σ re⟩
theorem ss_cons (h1 : SS ct X E s S) (h2 : SSs ct X E ss U) : SSs ct X E (s :: ss) (sSeq S U) :=
  ⟨(pss_cons h1.ps h2.pss).imp fun Dn σ H ⟨m, env, st, re, rs, fin⟩ => ⟨m, env, st, re, rs, fin.bind.imp fun m1 H1 fl st1 g1 rs1 q => by
    cases fl with
    | nx env1 => exact fun σ' re' => ⟨m1, env1, st1, re', rs1, q⟩
    | rt d => exact Fin.here (E := E) (show Fin _ E m1 H1 (.ok (.rt d) st1) (EndS _ Dn) from q) rs1
    | bk e1 => exact Fin.here (E := E) (show Fin _ E m1 H1 (.ok (.bk e1) st1) (EndS _ Dn) from q) rs1
    | ct e1 => exact Fin.here (E := E) (show Fin _ E m1 H1 (.ok (.ct e1) st1) (EndS _ Dn) from q) rs1⟩⟩
theorem ss_one (h1 : SS ct X E s S) : SSs ct X E [s] S := ⟨pss_one h1.ps⟩
theorem s_pass : SS ct X E (.Pass pos) sNil := ⟨ps_pass.imp fun Dn σ H ⟨m, env, st, re, rs, fin⟩ => Fin.here fin rs σ re⟩
theorem s_break : SS ct X E (.Break pos) sBreak := ⟨ps_break.imp fun Dn σ H ⟨m, env, st, re, rs, fin⟩ => Fin.here fin rs σ re⟩
theorem s_cont : SS ct X E (.Continue pos) sCont := ⟨ps_continue.imp fun Dn σ H ⟨m, env, st, re, rs, fin⟩ => Fin.here fin rs σ re⟩
theorem s_never : SS ct X E s sNever := ⟨ps_never.imp fun Dn σ H ⟨m, env, st, re, rs, fin⟩ => fin⟩
theorem ss_never : SSs ct X E ss sNever := ⟨pss_never.imp fun Dn σ H ⟨m, env, st, re, rs, fin⟩ => fin⟩
theorem s_ret (h : SI ct X E e A) : SS ct X E (.Return (some e) pos) (sRet A) := ⟨(ps_ret h.pe).imp fun Dn σ H ⟨m, env, st, re, rs, fin⟩ => ⟨m, env, st, re, rs, fin.bind.imp fun m1 H1 d st1 g1 rs1 q v rv => q.here rs1 v rv⟩⟩
theorem s_retN : SS ct X E (.Return none pos) sRetN := ⟨ps_retN.imp fun Dn σ H ⟨m, env, st, re, rs, fin⟩ => Fin.here fin rs .non .non⟩
theorem s_expr (h : SI ct X E e A) (hs : swapsWith e none pos.line X.env = pure false := by rfl) : SS ct X E (.Expr e pos) (sDrop A) :=
  ⟨(ps_expr h.pe hs).imp fun Dn σ H ⟨m, env, st, re, rs, fin⟩ => ⟨m, env, st, re, rs, fin.bind.imp fun m1 H1 d st1 g1 rs1 q v rv => q.here rs1 σ (re.mono g1)⟩⟩
theorem s_if (hc : SB ct X E c T) (ha : SSs ct X E ss S) (hb : SSs ct X E ss' U) : SS ct X E (.If c ss ss' pos) (sIf T S U) :=
  ⟨(ps_if hc.pt ha.pss hb.pss).imp fun Dn σ H ⟨m, env, st, re, rs, fin⟩ => ⟨m, env, st, re, rs, fin.bind.imp fun m1 H1 b st1 g1 rs1 q => by
    cases b with
    | true => rw [if_pos rfl] at q ⊢; exact ⟨m1, env, st1, re.mono g1, rs1, q⟩
    | false => rw [if_neg Bool.false_ne_true] at q ⊢; exact ⟨m1, env, st1, re.mono g1, rs1, q⟩⟩⟩
theorem s_set (i : Nat) {x : Str} {p' : Pos} (hN : X.N.Nodup) (h : SI ct X E e A) (hi : X.N[i]? = some x := by rfl) (hx : Loc X.env.scope x := by first | exact .inl rfl | exact .inr rfl) (hs : swapsWith e (some (.Name x p')) pos.line X.env = pure false := by rfl)
    (hf : X.fn x = true ∨ X.env.scope.names.lookup x = some .local := by first | exact .inl rfl | exact .inr rfl) : SS ct X E (.Assign [.Name x p'] e pos) (sSet i A) :=
  ⟨(ps_set (i := i) hN hi hx h.pe hs hf).imp fun Dn σ H ⟨m, env, st, re, rs, fin⟩ => ⟨m, env, st, re, rs, fin.bind.imp fun m1 H1 d st1 g1 rs1 q v rv => q.here rs1 _ ((re.mono g1).set rv i)⟩⟩
/-- a, b = x, y: local names -/
def sPar (is : List Nat) (L : IL) : IS := fun env st => (L env st).bind fun ds st1 => if ds.length = is.length then .ok (.nx ((is.zip ds).foldl (fun e p => e.set p.1 (some p.2)) env)) st1 else .bad
theorem s_par2 (i j : Nat) {x y : Str} {px py pt : Pos} {kt k2 pt2} (hc : X.calm = true) (hN : X.N.Nodup) (h : SA ct X E [a, b] L) (hi : X.N[i]? = some x := by rfl) (hj : X.N[j]? = some y := by rfl) (hij : i ≠ j := by decide)
    (hx : X.env.scope.names.lookup x = some .local := by rfl) (hy : X.env.scope.names.lookup y = some .local := by rfl)
    (hw : swappedStores [.Tuple [.Name x px, .Name y py] kt pt] (.Tuple [a, b] k2 pt2) X.env = pure (some [x, y]) := by rfl)
    (hs : swapsWithSole [.Tuple [.Name x px, .Name y py] kt pt] (.Tuple [a, b] k2 pt2) pos.line X.env = pure false := by rfl) :
    SS ct X E (.Assign [.Tuple [.Name x px, .Name y py] kt pt] (.Tuple [a, b] k2 pt2) pos) (sPar [i, j] L) :=
  ⟨(ps_par hc hN hi hj hij hx hy h.pa hw hs).imp fun Dn σ H ⟨m, env, st, re, rs, fin⟩ => ⟨m, env, st, re, rs, fin.bind.imp fun m1 H1 ds st1 g1 rs1 q vs rv => by
    split at q
    · rename_i hl
      match ds, hl with
      | [d, e], _ =>
        cases rv with
        | cons r1 r2 =>
          cases r2 with
          | cons r2 r3 =>
            cases r3
            exact ⟨_, _, rfl, q.here rs1 _ (((re.mono g1).set r1 i).set r2 j)⟩
    · exact q.elim⟩⟩
theorem s_par3 (i j l : Nat) {x y z : Str} {px py pz pt : Pos} {kt k2 pt2} (hc : X.calm = true) (hN : X.N.Nodup) (h : SA ct X E [a, b, c] L) (hi : X.N[i]? = some x := by rfl) (hj : X.N[j]? = some y := by rfl) (hl : X.N[l]? = some z := by rfl) (hij : i ≠ j := by decide) (hil : i ≠ l := by decide) (hjl : j ≠ l := by decide)
    (hx : X.env.scope.names.lookup x = some .local := by rfl) (hy : X.env.scope.names.lookup y = some .local := by rfl) (hz : X.env.scope.names.lookup z = some .local := by rfl)
    (hw : swappedStores [.Tuple [.Name x px, .Name y py, .Name z pz] kt pt] (.Tuple [a, b, c] k2 pt2) X.env = pure (some [x, y, z]) := by rfl)
    (hs : swapsWithSole [.Tuple [.Name x px, .Name y py, .Name z pz] kt pt] (.Tuple [a, b, c] k2 pt2) pos.line X.env = pure false := by rfl) :
    SS ct X E (.Assign [.Tuple [.Name x px, .Name y py, .Name z pz] kt pt] (.Tuple [a, b, c] k2 pt2) pos) (sPar [i, j, l] L) :=
  ⟨(ps_par3 hc hN hi hj hl hij hil hjl hx hy hz h.pa hw hs).imp fun Dn σ H ⟨m, env, st, re, rs, fin⟩ => ⟨m, env, st, re, rs, fin.bind.imp fun m1 H1 ds st1 g1 rs1 q vs rv => by
    split at q
    · rename_i hl
      match ds, hl with
      | [d, e, f], _ =>
        cases rv with
        | cons r1 r2 =>
          cases r2 with
          | cons r2 r3 =>
            cases r3 with
            | cons r3 r4 =>
              cases r4
              exact ⟨_, _, _, rfl, q.here rs1 _ ((((re.mono g1).set r1 i).set r2 j).set r3 l)⟩
    · exact q.elim⟩⟩
end

/-! ### patterns: names, tuples of patterns -/
inductive Pt where
  | nm (i : Nat) | tp (ps : List Pt)
mutual
def Pt.put : Pt → D → Ev → Option Ev
  | .nm i, d, env => some (env.set i (some d))
  | .tp ps, d, env => match d with
    | .tup ds => Pt.puts ps ds env
    | _ => none
def Pt.puts : List Pt → List D → Ev → Option Ev
  | [], [], env => some env
  | p :: ps, d :: ds, env => match Pt.put p d env with
    | some env' => Pt.puts ps ds env'
    | none => none
  | _, _, _ => none
end
mutual
def Pt.slots : Pt → List Nat
  | .nm i => [i]
  | .tp ps => Pt.slotsAll ps
def Pt.slotsAll : List Pt → List Nat
  | [] => []
  | p :: ps => Pt.slots p ++ Pt.slotsAll ps
end
mutual
def Pt.t (K : PySem.W.Frag) : Pt → TG
  | .nm i => gName i
  | .tp ps => gTup K ps.length (Pt.ts K ps)
def Pt.ts (K : PySem.W.Frag) : List Pt → TGs
  | [] => gNil
  | p :: ps => gCons (Pt.t K p) (Pt.ts K ps)
end
theorem wipe_set_in {σ : L2.St} {i : Nat} {o : Option V} : ∀ {vs : List Nat}, i ∈ vs → wipe (σ.set i o) vs = wipe σ vs
  | v :: vs, h => by
    show (wipe (σ.set i o) vs).set v none = (wipe σ vs).set v none
    by_cases hv : i ∈ vs
    · rw [wipe_set_in hv]
    · have e : v = i := by
        rcases List.mem_cons.mp h with z | z
        · exact z.symm
        · exact absurd z hv
      subst e
      have comm : ∀ (l : List Nat), v ∉ l → wipe (σ.set v o) l = (wipe σ l).set v o := by
        intro l
        induction l with
        | nil => intro _; rfl
        | cons x l ih =>
          intro hx
          simp only [List.mem_cons, not_or] at hx
          show (wipe (σ.set v o) l).set x none = ((wipe σ l).set x none).set v o
          rw [ih hx.2, List.set_comm _ _ hx.1]
      rw [comm vs hv, List.set_set]
section
variable {K : PySem.W.Frag} {m : Mp} {H : Hp}
mutual
theorem Pt.t_ok : ∀ (p : Pt) {d : D} {v : V} {env env' : Ev} {σ : L2.St} {g : G0} {Q : L2.St → Hp → Prop}, RE g.K m H env σ → RV g.K m H d v → p.put d env = some env' →
    (∀ σ', RE g.K m H env' σ' → (∀ vs : List Nat, (∀ i ∈ p.slots, i ∈ vs) → wipe σ' vs = wipe σ vs) → Q σ' H) → p.t g.K v σ H Q
  | .nm i, d, v, env, env', σ, g, Q, re, rv, e, h => by
    simp only [Pt.put, Option.some.injEq] at e
    subst e
    exact h _ (re.set rv i) fun vs hv => wipe_set_in (hv i (by simp [Pt.slots]))
  | .tp ps, d, v, env, env', σ, g, Q, re, rv, e, h => by
    cases d with
    | tup ds =>
      simp only [Pt.put] at e
      cases rv with
      | tup h1 h2 => exact ⟨_, _, rfl, h1.sq, by rw [← h2.length, Pt.puts_len ps e], Pt.ts_ok ps re h2 e (by simpa [Pt.slots] using h)⟩
    | _ => simp [Pt.put] at e
theorem Pt.ts_ok : ∀ (ps : List Pt) {ds : List D} {vs : List V} {env env' : Ev} {σ : L2.St} {g : G0} {Q : L2.St → Hp → Prop}, RE g.K m H env σ → RVs g.K m H ds vs → Pt.puts ps ds env = some env' →
    (∀ σ', RE g.K m H env' σ' → (∀ vs : List Nat, (∀ i ∈ Pt.slotsAll ps, i ∈ vs) → wipe σ' vs = wipe σ vs) → Q σ' H) → Pt.ts g.K ps vs σ H Q
  | [], ds, vs, env, env', σ, g, Q, re, rv, e, h => by
    cases ds with
    | nil =>
      cases rv
      simp only [Pt.puts, Option.some.injEq] at e
      subst e
      exact ⟨rfl, h _ re fun _ _ => rfl⟩
    | cons d ds => simp [Pt.puts] at e
  | p :: ps, ds, vs, env, env', σ, g, Q, re, rv, e, h => by
    cases ds with
    | nil => simp [Pt.puts] at e
    | cons d ds =>
      cases rv with
      | cons r1 r2 =>
        simp only [Pt.puts] at e
        split at e
        · rename_i env1 q
          refine ⟨_, _, rfl, Pt.t_ok p re r1 q fun σ1 re1 w1 => Pt.ts_ok ps re1 r2 e fun σ2 re2 w2 => h σ2 re2 fun vs hv => ?_⟩
          rw [w2 vs fun i hi => hv i (by simp [Pt.slotsAll, hi]), w1 vs fun i hi => hv i (by simp [Pt.slotsAll, hi])]
        · cases e
theorem Pt.puts_len : ∀ (ps : List Pt) {ds : List D} {env env' : Ev}, Pt.puts ps ds env = some env' → ds.length = ps.length
  | [], ds, env, env', e => by
    cases ds with
    | nil => rfl
    | cons d ds => simp [Pt.puts] at e
  | p :: ps, ds, env, env', e => by
    cases ds with
    | nil => simp [Pt.puts] at e
    | cons d ds =>
      simp only [Pt.puts] at e
      split at e
      · simp [Pt.puts_len ps e]
      · cases e
end
end
/-- a target that is a pattern -/
structure SP (X : Cx) (tg : Expr) (p : Pt) : Prop where
  pg : PG X tg (p.t X.K)
structure SPs (X : Cx) (tgs : List Expr) (ps : List Pt) : Prop where
  pgs : PGs X tgs (Pt.ts X.K ps)
section
variable {ct : String → Addr} {X : Cx} {E : EK} {pos p2 : Pos} {a b c e tg : Expr} {es : List Expr} {A B C : IE} {L : IL} {T : IT} {s : Stmt} {ss ss' : List Stmt} {S U : IS} {p : Pt} {ps : List Pt}
theorem sp_nm (i : Nat) {x : Str} (hN : X.N.Nodup) (hi : X.N[i]? = some x := by rfl) (hx : Loc X.env.scope x := by first | exact .inl rfl | exact .inr rfl) (hf : X.fn x = true ∨ X.env.scope.names.lookup x = some .local := by first | exact .inl rfl | exact .inr rfl) : SP X (.Name x pos) (.nm i) := ⟨by
  have q := pg_name (X := X) (pos := pos) (i := i) hN hi hx hf
  simpa only [Pt.t] using q⟩
theorem sps_nil : SPs X [] [] := ⟨by simpa only [Pt.ts] using pgs_nil⟩
theorem sps_cons (h : SP X e p) (h2 : SPs X es ps) (hs : (assignEach (e :: es) X.env).map (·.2) = assign e X.env :: (assignEach es X.env).map (·.2) := by rfl) : SPs X (e :: es) (p :: ps) := ⟨by
  have q := pgs_cons h.pg h2.pgs hs
  simpa only [Pt.ts] using q⟩
theorem sp_tp {k : Nat} (hc : X.calm = true) (h : SPs X es ps) (hn : (assignEach es X.env).length = ps.length := by rfl) (hst : (assignEach es X.env).findIdx? (·.1) = none := by rfl) : SP X (.Tuple es k pos) (.tp ps) := ⟨by
  have q := pg_tup (k := k) (pos := pos) hc h.pgs hn hst
  simpa only [Pt.t] using q⟩
/-- pattern = value -/
def sAsg (p : Pt) (A : IE) : IS := fun env st => (A env st).bind fun d st1 => match p.put d env with
  | some env1 => .ok (.nx env1) st1
  | none => .bad
theorem s_asg (h : SI ct X E e A) (hp : SP X tg p) (hs : swapsWithSole [tg] e pos.line X.env = pure false := by rfl) (hw : swappedStores [tg] e X.env = pure none := by rfl)
    (h1 : (assignEach [tg] X.env).map (·.2) = [assign tg X.env] := by rfl) : SS ct X E (.Assign [tg] e pos) (sAsg p A) :=
  ⟨(ps_asg h.pe hp.pg hs hw h1).imp fun Dn σ H ⟨m, env, st, re, rs, fin⟩ => ⟨m, env, st, re, rs, fin.bind.imp fun m1 H1 d st1 g1 rs1 q v rv => by
    split at q
    · rename_i env1 he
      exact Pt.t_ok (g := gx ct X) p (re.mono g1) rv he fun σ' re' _ => q.here rs1 σ' re'
    · exact q.elim⟩⟩

/-! ### while -/
def whileGo (T : IT) (S : IS) : Nat → Ev → Sto → Rs Fl
  | 0, _, _ => .bad
  | n + 1, env, st => (T env st).bind fun b st1 => if b = true then (S env st1).bind fun fl st2 => match fl with
      | .nx e => whileGo T S n e st2
      | .ct e => whileGo T S n e st2
      | .bk e => .ok (.nx e) st2
      | .rt d => .ok (.rt d) st2
    else .ok (.nx env) st1
def sWhile (n : Nat) (T : IT) (S : IS) : IS := fun env st => whileGo T S n env st
theorem s_while (n : Nat) (hp : PassesOwn (model X.prog X.w) X.A X.env X.xe) (hc : SB ct X E c T) (hb : SSs ct X E ss S) : SS ct X E (.While c ss [] pos) (sWhile n T S) :=
  ⟨(ps_while hp hc.pt hb.pss).imp fun Dn σ H ⟨m, env, st, re, rs, fin⟩ => by
    refine ⟨fun k σ H => ∃ m env st, RE X.K m H env σ ∧ RS (gx ct X) m H st ∧ Fin (gx ct X) E m H (whileGo T S k env st) (EndS (gx ct X) Dn), ⟨n, m, env, st, re, rs, fin⟩, ?_⟩
    rintro k σ H ⟨m, env, st, re, rs, fin⟩
    cases k with
    | zero => exact fin.elim
    | succ k =>
      refine ⟨m, env, st, re, rs, Fin.imp (Fin.bind (show Fin (gx ct X) E m H ((T env st).bind _) (EndS (gx ct X) Dn) from fin)) fun m1 H1 b st1 g1 rs1 q => ?_⟩
      cases b with
      | true =>
        rw [if_pos rfl] at q ⊢
        refine ⟨fun σ' H' => ∃ m env st, RE X.K m H' env σ' ∧ RS (gx ct X) m H' st ∧ Fin (gx ct X) E m H' (whileGo T S k env st) (EndS (gx ct X) Dn), fun σ' H' w => ⟨k, Nat.lt_succ_self k, w⟩, ?_⟩
        refine ⟨m1, env, st1, re.mono g1, rs1, q.bind.imp fun m2 H2 fl st2 g2 rs2 q2 => ?_⟩
        cases fl with
        | nx e => exact fun σ' re' => ⟨m2, e, st2, re', rs2, q2⟩
        | ct e => exact fun σ' re' => ⟨m2, e, st2, re', rs2, q2⟩
        | bk e => exact fun σ' re' => Fin.here (E := E) (show Fin (gx ct X) E m2 H2 (.ok (.nx e) st2) (EndS (gx ct X) Dn) from q2) rs2 σ' re'
        | rt d => exact Fin.here (E := E) (show Fin (gx ct X) E m2 H2 (.ok (.rt d) st2) (EndS (gx ct X) Dn) from q2) rs2
      | false =>
        rw [if_neg Bool.false_ne_true] at q ⊢
        exact Fin.here q rs1 σ (re.mono g1)⟩

/-! ### what is walked -/
/-- turn by turn: an item, or the end (some none); none: it can't be told -/
abbrev Wk := Nat → Sto → Option (Option D)
abbrev IW := Ev → Sto → Rs Wk
def WkOk (g : G0) (m0 : Mp) (H0 : Hp) (J : It) (wk : Wk) : Prop := ∀ (i : Nat) (m : Mp) (H : Hp) (st : Sto), Moves g.K m0 H0 m H → RS g m H st → match wk i st with
  | some (some d) => J.go i H ∧ ∀ x H', J.yld i H x H' → RS g m H' st ∧ Grow m H m H' ∧ RV g.K m H' d x
  | some none => J.stop i H
  | none => True
def tW (g : G0) (E : EK) (W : IW) : TI := fun σ H R => ∃ m env st, RE g.K m H env σ ∧ RS g m H st ∧ Fin g E m H (W env st) (fun m' H' wk _ => ∀ J, WkOk g m' H' J wk → R J H')
variable (ct X E) in
structure SWk (tg iter : Expr) (W : IW) : Prop where
  pi : PI X tg iter (tW (gx ct X) E W)
theorem _root_.L2.PI.imp {X : Cx} {tg e : Expr} {t t' : TI} (h : PI X tg e t) (f : ∀ σ H Q, t' σ H Q → t σ H Q) : PI X tg e t' := ⟨fun pins s σ H Q I q => h.run pins s σ H Q I (f σ H Q q)⟩
theorem _root_.L2.PI.both {X : Cx} {tg e : Expr} {t t' t2 : TI} (h : PI X tg e t) (h' : PI X tg e t') (f : ∀ σ H Q, t2 σ H Q → t σ H Q ∨ t' σ H Q) : PI X tg e t2 := ⟨fun pins s σ H Q I q => (f σ H Q q).elim (h.run pins s σ H Q I) (h'.run pins s σ H Q I)⟩
def wkSeq (xs : List D) : Wk := fun i _ => some xs[i]?
def wkLive (n : Nat) : Wk := fun i st => match st[n]? with
  | some (.lst xs) => some xs[i]?
  | _ => none
def wkRange (lo : Int) (n : Nat) : Wk := fun i _ => some (if i < n then some (.int (lo + i)) else none)
/-- a list or a tuple -/
def wkStr (x : Str) : Wk := fun i _ => match x.cps[i]? with
  | some c => some (some (.str ⟨#[c]⟩))
  | none => some none
def seqWk (st : Sto) (d : D) : Option Wk := match d with
  | .tup xs => some (wkSeq xs)
  | .rol xs => some (wkSeq xs)
  | .scr xs => some (wkSeq xs)
  | .ref n => match st[n]? with
    | some (.lst _) => some (wkLive n)
    | _ => none
  | .str x => some (wkStr x)
  | _ => none
def fW (o : Option Wk) (st : Sto) : Rs Wk := match o with
  | some w => .ok w st
  | none => .bad
def iWalk (A : IE) : IW := fun env st => (A env st).bind fun d st1 => fW (seqWk st1 d) st1
theorem wk_seqL {g : G0} {m0 : Mp} {H0 : Hp} {a : Addr} {xs : List D} {vs : List V} (h : ∀ m H, Moves g.K m0 H0 m H → SqL g.K H a vs ∧ RVs g.K m H xs vs) : WkOk g m0 H0 (Itl g.K a) (wkSeq xs) := fun i m H st mv rs => by
  obtain ⟨hs, r⟩ := h m H mv
  unfold wkSeq
  cases e : xs[i]? with
  | none =>
    have : xs.length ≤ i := List.getElem?_eq_none_iff.mp e
    exact ⟨vs, hs, by rw [← r.length]; exact this⟩
  | some d =>
    obtain ⟨v, hv, rv⟩ := r.get e
    refine ⟨⟨vs, v, hs, hv⟩, fun x H' y => ?_⟩
    obtain ⟨rfl, y⟩ := y
    have e2 := (y vs hs).symm.trans hv
    cases e2
    exact ⟨rs, Grow.refl _ _, rv⟩
theorem wk_seqT {g : G0} {m0 : Mp} {H0 : Hp} {a : Addr} {xs : List D} {vs : List V} (h : ∀ m H, Moves g.K m0 H0 m H → SqT g.K H a vs ∧ RVs g.K m H xs vs) : WkOk g m0 H0 (Itt g.K a) (wkSeq xs) := fun i m H st mv rs => by
  obtain ⟨hs, r⟩ := h m H mv
  unfold wkSeq
  cases e : xs[i]? with
  | none =>
    have : xs.length ≤ i := List.getElem?_eq_none_iff.mp e
    exact ⟨vs, hs, by rw [← r.length]; exact this⟩
  | some d =>
    obtain ⟨v, hv, rv⟩ := r.get e
    refine ⟨⟨vs, v, hs, hv⟩, fun x H' y => ?_⟩
    obtain ⟨rfl, y⟩ := y
    have e2 := (y vs hs).symm.trans hv
    cases e2
    exact ⟨rs, Grow.refl _ _, rv⟩
theorem wk_live {g : G0} {m0 : Mp} {H0 : Hp} {a : Addr} {n : Nat} (h : m0.cs[n]? = some a) : WkOk g m0 H0 (Itl g.K a) (wkLive n) := fun i m H st mv rs => by
  have hm := mv.ref n a h
  unfold wkLive
  split
  · rename_i dd hh
    split at hh
    · rename_i xs hq
      obtain ⟨vs, r, hH⟩ := rs.rc n a _ hm hq
      have e : xs[i]? = some dd := Option.some.inj hh
      obtain ⟨v, hv, rv⟩ := r.get e
      refine ⟨⟨vs, v, SqL.of hH, hv⟩, fun x H' y => ?_⟩
      obtain ⟨rfl, y⟩ := y
      have e2 := (y vs (SqL.of hH)).symm.trans hv
      cases e2
      exact ⟨rs, Grow.refl _ _, rv⟩
    · cases hh
  · rename_i hh
    split at hh
    · rename_i xs hq
      obtain ⟨vs, r, hH⟩ := rs.rc n a _ hm hq
      have e : xs[i]? = none := Option.some.inj hh
      exact ⟨vs, SqL.of hH, by rw [← r.length]; exact List.getElem?_eq_none_iff.mp e⟩
    · cases hh
  · trivial
theorem wk_str {g : G0} {m0 : Mp} {H0 : Hp} {x : Str} : WkOk g m0 H0 (Its x) (wkStr x) := fun i m H st mv rs => by
  unfold wkStr
  cases e : x.cps[i]? with
  | none => exact Array.getElem?_eq_none_iff.mp e
  | some c =>
    have hl : i < x.cps.size := by
      by_cases q : i < x.cps.size
      · exact q
      · rw [Array.getElem?_eq_none (by omega)] at e; cases e
    refine ⟨hl, fun v H' y => ?_⟩
    obtain ⟨rfl, c', hc, rfl⟩ := y
    rw [e] at hc; cases hc
    exact ⟨rs, Grow.refl _ _, .str _⟩
theorem w_walk (h : SI ct X E e A) : SWk ct X E tg e (iWalk A) :=
  ⟨(pi_list (tg := tg) h.pe).both ((pi_tup h.pe).both (pi_str h.pe) fun _ _ _ h => h) fun σ H R ⟨m, env, st, re, rs, fin⟩ => by
    have hf := fin.bind
    cases hA : A env st with
    | bad => rw [hA] at hf; exact hf.elim
    | exn e' st' => 
      refine .inl ⟨m, env, st, re, rs, ?_⟩
      rw [hA] at hf ⊢
      exact hf
    | ok d st1 =>
      rw [hA] at hf
      have hf : ∀ m1 H1, Grow m H m1 H1 → RS (gx ct X) m1 H1 st1 → Fin (gx ct X) E m1 H1 (fW (seqWk st1 d) st1) _ := hf
      cases hd : seqWk st1 d with
      | none =>
        rw [hd] at hf
        exact (hf m H (Grow.refl _ _) |> fun q => by
          refine .inl ⟨m, env, st, re, rs, ?_⟩
          rw [hA]
          exact fun m1 H1 g1 rs1 => (hf m1 H1 g1 rs1).elim)
      | some wk =>
        rw [hd] at hf
        cases d with
        | tup xs =>
          cases hd
          refine .inr (.inl ⟨m, env, st, re, rs, ?_⟩)
          rw [hA]
          intro m1 H1 g1 rs1 v rv
          cases rv with
          | tup h1 h2 => exact ⟨_, rfl, ⟨_, h1.sq⟩, Fin.here (hf m1 H1 g1 rs1) rs1 _ (wk_seqT fun m2 H2 mv => ⟨(mv.tup _ _ h1).sq, h2.moves mv⟩)⟩
        | rol xs =>
          cases hd
          refine .inl ⟨m, env, st, re, rs, ?_⟩
          rw [hA]
          intro m1 H1 g1 rs1 v rv
          cases rv with
          | rol h1 h2 => exact ⟨_, rfl, ⟨_, h1.sq⟩, Fin.here (hf m1 H1 g1 rs1) rs1 _ (wk_seqL fun m2 H2 mv => ⟨(mv.rol _ _ h1).sq, h2.moves mv⟩)⟩
        | scr xs =>
          cases hd
          refine .inl ⟨m, env, st, re, rs, ?_⟩
          rw [hA]
          intro m1 H1 g1 rs1 v rv
          cases rv with
          | scr h1 h2 => exact ⟨_, rfl, ⟨_, h1.sq⟩, Fin.here (hf m1 H1 g1 rs1) rs1 _ (wk_seqL fun m2 H2 mv => ⟨(mv.scr _ _ h1).sq, h2.moves mv⟩)⟩
        | ref n =>
          simp only [seqWk] at hd
          split at hd
          · rename_i xs hx
            cases hd
            refine .inl ⟨m, env, st, re, rs, ?_⟩
            rw [hA]
            intro m1 H1 g1 rs1 v rv
            cases rv with
            | ref h1 =>
              obtain ⟨vs, r, hH⟩ := rs1.rc n _ _ h1 hx
              exact ⟨_, rfl, ⟨_, SqL.of hH⟩, Fin.here (hf m1 H1 g1 rs1) rs1 _ (wk_live h1)⟩
          · cases hd
        | str x =>
          cases hd
          refine .inr (.inr ⟨m, env, st, re, rs, ?_⟩)
          rw [hA]
          intro m1 H1 g1 rs1 v rv
          cases rv
          exact ⟨_, rfl, Fin.here (hf m1 H1 g1 rs1) rs1 _ wk_str⟩
        | _ => cases hd⟩
end
end QI

namespace QI
open PySem PySem.Spec PyProof.Rows L2
section
variable {ct : String → Addr} {X : Cx} {E : EK} {pos p2 : Pos} {a b c e tg iter elt : Expr} {es ifs : List Expr} {A B C : IE} {L : IL} {T : IT} {s : Stmt} {ss ss' : List Stmt} {S U : IS} {p : Pt} {ps : List Pt} {W : IW}

/-! ### for -/
def forGo (wk : Wk) (p : Pt) (S : IS) : Nat → Nat → Ev → Sto → Rs Fl
  | 0, _, _, _ => .bad
  | n + 1, i, env, st => match wk i st with
    | none => .bad
    | some none => .ok (.nx env) st
    | some (some d) => match p.put d env with
      | none => .bad
      | some env1 => (S env1 st).bind fun fl st2 => match fl with
        | .nx e => forGo wk p S n (i + 1) e st2
        | .ct e => forGo wk p S n (i + 1) e st2
        | .bk e => .ok (.nx e) st2
        | .rt d => .ok (.rt d) st2
def sFor (n : Nat) (W : IW) (p : Pt) (S : IS) : IS := fun env st => (W env st).bind fun wk st1 => forGo wk p S n 0 env st1
theorem s_for (n : Nat) (hp : PassesOwn (model X.prog X.w) X.A X.env X.xe) (hc : X.calm = true) (hw : SWk ct X E tg iter W) (hg : SP X tg p) (hb : SSs ct X E ss S) (hs : ∀ x, foldedSetIterable iter X.env x = pure x := by intro _; rfl) :
    SS ct X E (.For tg iter ss [] pos) (sFor n W p S) :=
  ⟨(ps_for hp hc hw.pi hg.pg hb.pss hs).imp fun Dn σ H ⟨m, env, st, re, rs, fin⟩ => by
    refine ⟨m, env, st, re, rs, fin.bind.imp fun m1 H1 wk st1 g1 rs1 q J hJ => ?_⟩
    refine ⟨fun i k σ H => ∃ m env st, Moves X.K m1 H1 m H ∧ RE X.K m H env σ ∧ RS (gx ct X) m H st ∧ Fin (gx ct X) E m H (forGo wk p S k i env st) (EndS (gx ct X) Dn),
      ⟨n, m1, env, st1, (Grow.refl m1 H1).moves, re.mono g1, rs1, q⟩, ?_⟩
    rintro i k σ H ⟨m, env, st, mv, re, rs, fin⟩
    cases k with
    | zero => exact fin.elim
    | succ k =>
      have hw := hJ i m H st mv rs
      unfold forGo at fin
      cases hk : wk i st with
      | none => rw [hk] at fin; exact fin.elim
      | some o =>
        rw [hk] at fin hw
        cases o with
        | none => exact .inl ⟨hw, Fin.here fin rs σ re⟩
        | some d =>
          refine .inr ⟨hw.1, fun σ' H' => ∃ m env st, Moves X.K m1 H1 m H' ∧ RE X.K m H' env σ' ∧ RS (gx ct X) m H' st ∧ Fin (gx ct X) E m H' (forGo wk p S k (i + 1) env st) (EndS (gx ct X) Dn), fun σ' H' w => ⟨k, Nat.lt_succ_self k, w⟩, fun x H' y => ?_⟩
          obtain ⟨rs', gr, rv⟩ := hw.2 x H' y
          simp only at fin
          split at fin
          · exact fin.elim
          · rename_i env1 he
            refine Pt.t_ok (g := gx ct X) p (re.mono gr) rv he fun σ1 re1 _ => ?_
            have mv1 : Moves X.K m1 H1 m H' := ⟨fun a xs h => gr.moves.tup a xs (mv.tup a xs h), fun a xs h => (gr.moves (K := X.K)).rol a xs (mv.rol a xs h), fun a xs h => gr.moves.scr a xs (mv.scr a xs h), mv.ref⟩
            refine ⟨m, env1, st, re1, rs', (fin.mono gr).bind.imp fun m2 H2 fl st2 g2 rs2 q2 => ?_⟩
            have mv2 : Moves X.K m1 H1 m2 H2 := ⟨fun a xs h => g2.moves.tup a xs (mv1.tup a xs h), fun a xs h => (g2.moves (K := X.K)).rol a xs (mv1.rol a xs h), fun a xs h => g2.moves.scr a xs (mv1.scr a xs h), fun n a h => (g2.moves (K := X.K)).ref n a (mv1.ref n a h)⟩
            cases fl with
            | nx e => exact fun σ' re' => ⟨m2, e, st2, mv2, re', rs2, q2⟩
            | ct e => exact fun σ' re' => ⟨m2, e, st2, mv2, re', rs2, q2⟩
            | bk e => exact fun σ' re' => Fin.here (E := E) (show Fin (gx ct X) E m2 H2 (.ok (.nx e) st2) (EndS (gx ct X) Dn) from q2) rs2 σ' re'
            | rt d => exact Fin.here (E := E) (show Fin (gx ct X) E m2 H2 (.ok (.rt d) st2) (EndS (gx ct X) Dn) from q2) rs2⟩

/-! ### comprehensions -/
theorem Fin.strict {α β : Type} {g : G0} {E : EK} {m : Mp} {H : Hp} {r : Rs α} {f : α → Sto → Rs β} {R : Mp → Hp → β → Sto → Prop} (h : Fin g E m H (r.strict.bind f) R) : Fin g noE m H r (fun m1 H1 a st1 => Fin g E m1 H1 (f a st1) R) := by
  cases r with
  | ok a st => exact fun m' H' g' rs => Fin.mono (show Fin g E m H (f a st) R from h) g'
  | exn e st => exact (show False from h).elim
  | bad => exact h
def compGo (wk : Wk) (p : Pt) (T : IT) (A : IE) (vs : List Nat) (env : Ev) (fin : List D → Sto → Rs D) : Nat → Nat → List D → Sto → Rs D
  | 0, _, _, _ => .bad
  | n + 1, i, acc, st => match wk i st with
    | none => .bad
    | some none => fin acc st
    | some (some d) => match p.put d (wipeE env vs) with
      | none => .bad
      | some env1 => (T env1 st).strict.bind fun b st1 => if b = true then (A env1 st1).strict.bind fun y st2 =>
          if acc.length < 16777216 then compGo wk p T A vs env fin n (i + 1) (acc ++ [y]) st2 else .bad
        else compGo wk p T A vs env fin n (i + 1) acc st1
def fRol : List D → Sto → Rs D := fun acc st => .ok (.rol acc) st
def fCell : List D → Sto → Rs D := fun acc st => .ok (.ref st.length) (st ++ [.lst acc])
def iComp (fin : List D → Sto → Rs D) (n : Nat) (W : IW) (p : Pt) (T : IT) (A : IE) (vs : List Nat) : IE := fun env st => (W env st).bind fun wk st1 => compGo wk p T A vs env fin n 0 [] st1
structure STs (ct : String → Addr) (X : Cx) (ifs : List Expr) (T : IT) : Prop where
  pts : PTs X ifs (tIT (gx ct X) noE T)
def iYes : IT := fun _ st => .ok true st
theorem sts_nil : STs ct X [] iYes := ⟨⟨fun pins s σ H Q I ⟨m, env, st, re, rs, fin⟩ => pts_nil.run pins s σ H Q I (Fin.here fin rs)⟩⟩
theorem sts_one (h : SB ct X noE c T) : STs ct X [c] T := ⟨pts_one h.pt⟩
/-- what the end of a comprehension does with its list -/
def FinL (g : G0) (E : EK) (fin : List D → Sto → Rs D) : Prop := ∀ (m0 m : Mp) (H0 H : Hp) (q : Addr) (acc : List D) (vs : List V) (st : Sto) (Q : VK), Grow m0 H0 m H → RS g (m.hold q) H st → H0 q = none → q ∉ m.rs → H q = some (.lst vs) → RVs g.K (m.hold q) H acc vs →
  Fin g E m0 H0 (fin acc st) (EndE g Q) → Q (.ref q) H
theorem fin_rol {g : G0} : FinL g E fRol := fun m0 m H0 H q acc vs st Q gr rs h0 hr hq rv fin => by
  exact fin m H gr rs.drop _ (.rol ⟨(rs.hs q List.mem_cons_self).1, hr, hq⟩ (rv.moves Moves.drop))
theorem fin_cell {g : G0} : FinL g E fCell := fun m0 m H0 H q acc vs st Q gr rs h0 hr hq rv fin => by
  have gr' : Grow m0 H0 (m.add q) H := ⟨gr.pre.trans (List.prefix_append _ _), gr.rsv, gr.frame, fun a h => by
    rcases List.mem_append.mp h with z | z
    · exact gr.new a z
    · simp at z; subst z; exact .inr h0, gr.tup, gr.frz⟩
  refine fin (m.add q) H gr' (rs.keep hr ⟨vs, rv.moves Moves.keep, hq⟩) _ (.ref ?_)
  show (m.cs ++ [q])[st.length]? = some q
  have hl : m.cs.length = st.length := rs.len
  rw [List.getElem?_append_right (by omega), ← hl]
  simp
theorem si_comp {fin : List D → Sto → Rs D} (hf : FinL (gx ct X) E fin) (n : Nat) {scope : Scope} (own : List (Str × Nat)) (hc : X.calm = true) (hN : X.N.Nodup) (hw : SWk ct X E tg iter W) (ok : BlkOk X.N X.env.scope scope own)
    (hg : ∀ (s : Shared) (H : Hp) (C : Addr) (cl : List (Str × Addr)) (fp : List Addr), SP (X.blk s H scope (compEnvC scope cl C X.env) fp) tg p)
    (ht : ∀ (s : Shared) (H : Hp) (C : Addr) (cl : List (Str × Addr)) (fp : List Addr), STs ct (X.blk s H scope (compEnvC scope cl C X.env) fp) ifs T)
    (he : ∀ (s : Shared) (H : Hp) (C : Addr) (cl : List (Str × Addr)) (fp : List Addr), SI ct (X.blk s H scope (compEnvC scope cl C X.env) fp) noE elt A)
    (hv : ∀ i ∈ p.slots, i ∈ own.map (·.2) := by decide) (hs : ∀ x, foldedSetIterable iter X.env x = pure x := by intro _; rfl) :
    SI ct X E (.ListComp elt [⟨tg, iter, ifs, 0⟩] scope pos) (iComp fin n W p T A (own.map (·.2))) :=
  ⟨(pe_lc hc hN hw.pi ok (g := p.t X.K) (tt := tIT (gx ct X) noE T) (te := tI (gx ct X) noE A) (fun s H C cl fp => (hg s H C cl fp).pg) (fun s H C cl fp => (ht s H C cl fp).pts) (fun s H C cl fp => (he s H C cl fp).pe) hs).imp fun σ H0 Q ⟨m0, env, st, re, rs, fn⟩ => by
    refine ⟨m0, env, st, re, rs, fn.bind.imp fun m1 H1 wk st1 g1 rs1 q J hJ q' hq' => ?_⟩
    have re1 := re.mono g1
    refine ⟨fun i k H => ∃ m acc vs st, Grow m1 H1 m H ∧ Moves X.K m1 H1 (m.hold q') H ∧ RS (gx ct X) (m.hold q') H st ∧ q' ∉ m.rs ∧ H q' = some (.lst vs) ∧ RVs X.K (m.hold q') H acc vs ∧ Fin (gx ct X) E m1 H1 (compGo wk p T A (own.map (·.2)) env fin k i acc st) (EndE (gx ct X) Q),
      ⟨n, m1, [], [], st1, Grow.laid hq', Moves.hold hq', rs1.hold hq', rs1.nothold hq', upd_same, .nil, q⟩, ?_⟩
    rintro i k H ⟨m, acc, vs, st, gr, mv, rs, hr, hH, rv, fn⟩
    cases k with
    | zero => exact fn.elim
    | succ k =>
      have hw := hJ i (m.hold q') H st mv rs
      unfold compGo at fn
      cases hk : wk i st with
      | none => rw [hk] at fn; exact fn.elim
      | some o =>
        rw [hk] at fn hw
        cases o with
        | none => exact .inl ⟨hw, hf m1 m H1 H q' acc vs st Q gr rs hq' hr hH rv fn⟩
        | some d =>
          refine .inr ⟨hw.1, fun H' => ∃ m acc vs st, Grow m1 H1 m H' ∧ Moves X.K m1 H1 (m.hold q') H' ∧ RS (gx ct X) (m.hold q') H' st ∧ q' ∉ m.rs ∧ H' q' = some (.lst vs) ∧ RVs X.K (m.hold q') H' acc vs ∧ Fin (gx ct X) E m1 H1 (compGo wk p T A (own.map (·.2)) env fin k (i + 1) acc st) (EndE (gx ct X) Q), fun H' w => ⟨k, Nat.lt_succ_self k, w⟩, fun x H' y => ?_⟩
          obtain ⟨rs', g', rx⟩ := hw.2 x H' y
          simp only at fn
          split at fn
          · exact fn.elim
          · rename_i env1 he1
            have hqc : q' ∉ m.cs := (rs.hs q' List.mem_cons_self).1
            have mvt : ∀ {m2 : Mp} {H2 : Hp}, Grow (m.hold q') H (m2.hold q') H2 → Moves X.K m1 H1 (m2.hold q') H2 := fun g => ⟨fun a xs h => g.moves.tup a xs (mv.tup a xs h), fun a xs h => (g.moves (K := X.K)).rol a xs (mv.rol a xs h), fun a xs h => g.moves.scr a xs (mv.scr a xs h), fun n a h => (g.moves (K := X.K)).ref n a (mv.ref n a h)⟩
            have re2 : RE X.K (m.hold q') H' env σ := (re1.moves mv).moves g'.moves
            refine Pt.t_ok (g := gx ct X) p (re2.wipe (own.map (·.2))) rx he1 fun σ1 re3 w3 => ⟨?_, ?_⟩
            · rw [w3 _ hv]
              have : ∀ l : List Nat, wipe (wipe σ l) l = wipe σ l := by
                have in_none : ∀ (l : List Nat) (τ : L2.St) (k : List Nat), (∀ i ∈ l, i ∈ k) → wipe (wipe τ l) k = wipe τ k := by
                  intro l
                  induction l with
                  | nil => intro τ k _; rfl
                  | cons i l ih =>
                    intro τ k hk
                    show wipe ((wipe τ l).set i none) k = _
                    rw [wipe_set_in (hk i List.mem_cons_self)]
                    exact ih τ k fun j hj => hk j (List.mem_cons_of_mem _ hj)
                exact fun l => in_none l σ l fun _ h => h
              exact this _
            · -- the test
              have rsd : ∀ {m2 : Mp} {H2 : Hp}, Grow (m.hold q') H m2 H2 → ∃ m3 : Mp, m2 = m3.hold q' ∧ m3.rs = m.rs := fun {m2 H2} g => ⟨⟨m2.cs, m.rs⟩, by
                have := g.rsv
                obtain ⟨cs, rr⟩ := m2
                have e : rr = q' :: m.rs := this
                subst e
                rfl, rfl⟩
              cases hT : T env1 st with
              | bad => rw [hT] at fn; exact fn.elim
              | exn e' st' => rw [hT] at fn; exact (show False from fn).elim
              | ok bb st2 =>
                rw [hT] at fn
                refine ⟨m.hold q', env1, st, re3, rs', ?_⟩
                rw [hT]
                intro m2 H2 g2 rs2
                obtain ⟨m3, rfl, hr3⟩ := rsd (g'.trans g2)
                have fn : Fin (gx ct X) E m1 H1 (if bb = true then _ else _) (EndE (gx ct X) Q) := fn
                have gq := g'.trans g2
                have hH2 : H2 q' = some (.lst vs) := gq.frame _ _ hqc hH
                have rv2 := rv.mono gq
                cases bb with
                | false =>
                  rw [if_neg Bool.false_ne_true] at fn ⊢
                  exact ⟨m3, acc, vs, st2, gr.trans gq.held, mvt gq, rs2, by rw [hr3]; exact hr, hH2, rv2, fn⟩
                | true =>
                  rw [if_pos rfl] at fn ⊢
                  cases hA : A env1 st2 with
                  | bad => rw [hA] at fn; exact fn.elim
                  | exn e' st' => rw [hA] at fn; exact (show False from fn).elim
                  | ok y st3 =>
                    rw [hA] at fn
                    refine ⟨m3.hold q', env1, st2, re3.mono g2, rs2, ?_⟩
                    rw [hA]
                    intro m4 H4 g4 rs4 v rvy
                    have gq4 := gq.trans g4
                    obtain ⟨m5, rfl, hr5⟩ := rsd gq4
                    have hH4 : H4 q' = some (.lst vs) := gq4.frame _ _ hqc hH
                    have fn : Fin (gx ct X) E m1 H1 (if acc.length < 16777216 then _ else .bad) (EndE (gx ct X) Q) := fn
                    split at fn
                    · rename_i hz
                      have rv4 := rv.mono gq4
                      have wr : Moves X.K (m5.hold q') H4 (m5.hold q') (upd H4 q' (.lst (vs ++ [v]))) := Moves.held hH4
                      refine ⟨vs, hH4, by rw [← rv.length, sl_eq]; exact hz, m5, acc ++ [y], vs ++ [v], st3, ?_, ?_, rs4.held hH4, by rw [hr5]; exact hr, upd_same, (rv4.moves wr).append (.cons (rvy.moves wr) .nil), fn⟩
                      · have g6 := gr.trans gq4.held
                        have hn : ∀ a o, H1 a = some o → a ≠ q' := fun a o h => ne_of_none h hq'
                        exact ⟨g6.pre, g6.rsv, fun a o h1 h2 => by rw [upd_ne (hn a o h2)]; exact g6.frame a o h1 h2, g6.new, fun a o h2 => by rw [upd_ne (hn a _ h2)]; exact g6.tup a o h2, fun a o xs h2 => by rw [upd_ne (hn a _ h2)]; exact g6.frz a o xs h2⟩
                      · have mq := mvt gq4
                        exact ⟨fun a xs h => wr.tup a xs (mq.tup a xs h), fun a xs h => wr.rol a xs (mq.rol a xs h), fun a xs h => wr.scr a xs (mq.scr a xs h), fun n a h => wr.ref n a (mq.ref n a h)⟩
                    · exact fn.elim⟩
end
end QI

namespace QI
open PySem PySem.Spec PyProof.Rows L2 RZ

/-! ### enumerate(tuple) -/
theorem meets_enum1 {v : Value} {o : Obj} {H : Heap → Prop} (B : Begins v o H) :
    Meets (Builtin.«enumerate.__new__» ⟨[.type "enumerate", v], []⟩) (fun _ R s => H s.heap ∧
      R (.ok (.ret (.ref (s.heap.push o).objs.size))) { s with heap := (s.heap.push o).push { cls := .type "enumerate", data := .fields #[.none, .bool false, .ref s.heap.objs.size, rawInt 0, .none, .none] } }) :=
  .of_wp fun prog w A R s h => by
    obtain ⟨hp, g, d, tk, os⟩ := s; obtain ⟨h1, h⟩ := h
    have hsub := sub_enumerate
    have q1 : ∀ {A' : Around} {E : Value → Shared → Prop} {Q : Value → Shared → Prop}, Q (.ref hp.objs.size) ⟨hp.push o, g, d, tk, os⟩ → wpAny (model prog w) A' (pyIter v) Q E ⟨hp, g, d, tk, os⟩ :=
      fun q => B.iter prog w _ _ ⟨hp, g, d, tk, os⟩ _ h1 q
    wp_walk using q1
    refine wpAny_stack_any fun st => wpAny_pure ?_
    split
    · rename_i c _ _ _ _ _
      cases (c == Value.type "enumerate")
      · wp_walk using q1
        exact ⟨_, rfl, h⟩
      · wp_walk using q1
        exact ⟨_, rfl, h⟩
    · wp_walk using q1
      exact ⟨_, rfl, h⟩
theorem enum_begins1 {prog : Program} {w : World} {A : Around} {E : Value → Shared → Prop} {s : Shared} {v : Value} {o : Obj} {H : Heap → Prop} {Q : Value → Shared → Prop} (B : Begins v o H) (h1 : H s.heap)
    (h : ∀ h', IsEnum h' (s.heap.objs.size + 1) s.heap.objs.size 0 .none → h'.get? s.heap.objs.size = some o → h'.objs.size = s.heap.objs.size + 2 →
      (∀ b o, s.heap.get? b = some o → h'.get? b = some o) → Q (.ref (s.heap.objs.size + 1)) { s with heap := h' }) :
    wpAny (model prog w) A (call (.type "enumerate") [v]) Q E s := by
  refine callType_new F.called_enumerate (by decide) (F.typeCall_enumerate_1 _) (F.newCall_enumerate_1 _) (fun obj => F.args_object_init_2 obj _) F.entry_enumerate_new
    (meets_enum1 B) ⟨h1, ?_⟩
  have hz : (s.heap.push o).objs.size = s.heap.objs.size + 1 := Heap.size_push ..
  show _ ∧ _
  rw [hz]
  have he : IsEnum ((s.heap.push o).push { cls := .type "enumerate", data := .fields #[.none, .bool false, .ref s.heap.objs.size, rawInt 0, .none, .none] }) (s.heap.objs.size + 1) s.heap.objs.size 0 .none := by
    have := Heap.get?_push_size (s.heap.push o) (o := { cls := .type "enumerate", data := .fields #[.none, .bool false, .ref s.heap.objs.size, rawInt 0, .none, .none] }) rfl
    rw [hz] at this; exact this
  refine ⟨⟨_, he, rfl⟩, h _ he (Heap.get?_push_of_some _ (Heap.get?_push_size _ B.free)) (by rw [Heap.size_push, hz]) fun b o x => Heap.get?_push_of_some _ (Heap.get?_push_of_some _ x)⟩

def IteT (K : PySem.W.Frag) (a : Addr) : It :=
  ⟨fun i H => ∃ (xs : List V) (x : V), SqT K H a xs ∧ xs[i]? = some x, fun i H v H' => ∃ T x, v = .ref T ∧ H T = none ∧ H' = upd H T (.tup [.int (i : Nat), x]) ∧ ∀ xs, SqT K H a xs → xs[i]? = some x, fun i H => ∃ xs : List V, SqT K H a xs ∧ xs.length ≤ i⟩
theorem turn_enumT {P : Program} {w : World} {K : PySem.W.Frag} {elts : List Expr} {kk : Nat} {tpos : Pos} (a e it : Addr) (hai : a ≠ it) (hae : e ≠ a) :
    Turn P w K (.Tuple elts kk tpos) (IteT K a) [e, it] e (fun i h => (∃ old, IsEnum h e it ((i : Nat) : Int) old) ∧ h.IsTupleIter it a i ∧ e ≠ it) where
  mem := by simp
  obj := fun i h st b hb => by
    obtain ⟨⟨old, he⟩, ⟨o, ho, hc, hd⟩, _⟩ := st
    have e' : b = e ∨ b = it := by simpa using hb
    rcases e' with z | z
    · rw [z]; exact ⟨_, he, fun v q => nomatch q⟩
    · rw [z]; exact ⟨o, ho, fun v q => by rw [hd] at q; cases q⟩
  keep := fun i h h' st k => let ⟨⟨old, he⟩, hi, hne⟩ := st; ⟨⟨old, k e (by simp) _ he⟩, hi.at fun o q => k it (by simp) o q, hne⟩
  item := by
    intro X hP hw hK hc i pins s σ H E I hf st hg
    subst hP hw hK
    obtain ⟨⟨old, he⟩, hit, hne⟩ := st
    obtain ⟨xs, x, hq, hx⟩ := hg
    obtain ⟨its, rv, p, hz⟩ := I.tuple hq
    obtain ⟨u, hu, ru⟩ := rv.get hx
    have hel : e < s.heap.objs.size := Heap.lt_size he
    have hil : it < s.heap.objs.size := by obtain ⟨_, q, _⟩ := hit; exact Heap.lt_size q
    have hlt : i < its.toArray.size := by
      rw [List.size_toArray]; exact lt_of_get hu
    refine wpAny_pyNext_enum_itemD (Draws.tuple (prog := X.prog) (w := X.w) (A := X.A.in1) (I.ok.hd hc) it a hai its.toArray) he ⟨hit, p⟩ hlt hne (by simp [hne, hae]) fun x' h' tk hx' ho hst hT hsz hk => ?_
    have ex : x' = u := by
      have q1 : its.toArray[i]? = some x' := hx'
      simp only [List.getElem?_toArray] at q1
      rw [hu] at q1; cases q1; rfl
    subst ex
    obtain ⟨hit', _⟩ := hst
    refine ⟨_, rfl, wpAny_letOwnedTupleGo_enum (s := { s with heap := h', toks := tk + 1 }) ho fun h'' he' sb => ?_⟩
    have hT2 : h''.get? s.heap.objs.size = some { cls := .type "tuple", data := .seq #[.int i tk, x'] } := (sb.2 _ (Nat.ne_of_gt hel)).trans hT
    have new : ObjOk X.prog X.w (upd H s.heap.objs.size (.tup [.int (i : Nat), x])) h'' s.heap.objs.size (.tup [.int (i : Nat), x]) :=
      ⟨by show 2 ≤ sizeLine; decide, [.int i tk, x'], .cons ⟨_, rfl⟩ (.cons ru .nil), ⟨_, hT2, rfl, _, rfl⟩⟩
    have I1 : Inv X pins σ (upd H s.heap.objs.size (.tup [.int (i : Nat), x])) { s with heap := h'', toks := tk + 1 } :=
      I.turnedNew (ch := [e, it]) (fun b ob hb q => (sb.2 b (fun z => hb (by simp [z]))).trans (hk b ob (fun z => hb (by simp [z])) (fun z => hb (by simp [z])) q)) hf (Nat.le_refl _) new
    refine ⟨.ref s.heap.objs.size, _, I1, rfl, ⟨_, x, rfl, I.hok.fresh (Nat.le_refl _), rfl, fun ys hy => by rw [I.tuple_inj hy hq]; exact hx⟩, ⟨⟨x', ?_⟩, hit'.at fun o q => (sb.2 it (Ne.symm hne)).trans q, hne⟩, fun b hb => ?_⟩
    · have e1 : ((i + 1 : Nat) : Int) = (i : Int) + 1 := by omega
      rw [e1]; exact he'
    · have hb' : b < s.heap.objs.size := by
        have e' : b = e ∨ b = it := by simpa using hb
        rcases e' with z | z
        · rw [z]; exact hel
        · rw [z]; exact hil
      rw [upd_ne (Nat.ne_of_lt hb')]
      exact (hf b hb).1
  done := by
    intro X hP hw hK hc i pins s σ H E I hf st hg
    subst hP hw hK
    obtain ⟨⟨old, he⟩, hit, hne⟩ := st
    obtain ⟨xs, hq, hx⟩ := hg
    obtain ⟨its, rv, p, hz⟩ := I.tuple hq
    obtain ⟨f0, f1, f2, f3, f4, f5⟩ := hf it (by simp)
    have hl := rv.length
    have D : PySem.Draws X.prog X.w X.A.in1 it [it, a] i (fun _ _ => False) (fun j h => j = i ∧ h.IsTupleIter it a i ∧ h.IsTuple a its.toArray) :=
      ⟨fun _ _ st => let ⟨o, ho, _⟩ := st.2.1; ⟨o, ho⟩, fun _ _ _ st hk => ⟨st.1, st.2.1.at fun o e => hk it (by simp) o e, st.2.2.at fun o e => hk a (by simp) o e⟩,
        fun j s Q E hj hst hQ => absurd hst.1 (Nat.ne_of_lt hj), fun s Q E hst hE => wpAny_nextOf_tuple_end (I.ok.hd hc) hst.2.1 hst.2.2 (by simp; omega) hE⟩
    exact wpAny_pyNext_enum_endD D he ⟨rfl, hit, p⟩ fun h' eb => ⟨rfl, I.turned (t' := s.toks) (fun b o hb q => eb b o hb q) f0 f1 f3 f4 f5⟩
  self := fun A i s Q E st h => let ⟨⟨_, he⟩, _⟩ := st; wpAny_pyIter_enum he h
def iEnumT (K : PySem.W.Frag) (ta : TA) : TI := fun σ H R => ta σ H fun vs H1 => ∃ a xs, vs = [.ref a] ∧ SqT K H1 a xs ∧ R (IteT K a) H1
theorem pi_enumT {X : Cx} {e : Expr} {ta : TA} {p pos tpos : Pos} {elts : List Expr} {kk : Nat} (hg : Gl X "enumerate") (hm : X.mg "enumerate" = none) (ha : PA X [e] ta) (hs : starEach [e] X.env = [(false, eval e X.env)] := by rfl) :
    PI X (.Tuple elts kk tpos) (.Call (.Name "enumerate" p) [e] [] pos) (iEnumT X.K ta) := by
  refine ⟨fun pins s σ H R I h => ?_⟩
  refine Call_ (ld_blt I hg hm boot_enumerate (PyProof.Rows.callWith_type1 (thn (ha.run pos pins s σ H _ I h) fun us s1 ⟨vs, H1, I1, r1, q1⟩ => ?_) hs rfl))
  obtain ⟨a, xs, ex, hq, q⟩ := q1
  subst ex
  cases r1 with
  | cons r rr =>
    cases rr
    cases r
    obtain ⟨its, rv, p', hz⟩ := I1.tuple hq
    have hal : a < s1.heap.objs.size := p'.lt
    refine enum_begins1 (begins_tuple a its.toArray) p' fun h' he hit hsz hk => wpAny_pyIter_enum he ?_
    have I2 : Inv X pins σ H1 { s1 with heap := h' } := I1.kept (t' := s1.toks) hk
    refine ⟨s1.heap.objs.size + 1, [s1.heap.objs.size + 1, s1.heap.objs.size], _, _, H1, rfl, I2, turn_enumT a (s1.heap.objs.size + 1) s1.heap.objs.size (Nat.ne_of_lt hal) (Nat.ne_of_gt (Nat.lt_succ_of_lt hal)), ⟨⟨.none, he⟩, ⟨_, hit, rfl, rfl⟩, Nat.succ_ne_self _⟩, fun b hb => ?_, q⟩
    have e' : b = s1.heap.objs.size + 1 ∨ b = s1.heap.objs.size := by simpa using hb
    have hle : s1.heap.objs.size ≤ b := by
      rcases e' with z | z
      · rw [z]; exact Nat.le_add_right _ _
      · rw [z]; exact Nat.le_refl _
    exact I1.fpOk hle (I1.hok.fresh hle)

/-! ### the walks as evaluated -/
section
variable {ct : String → Addr} {X : Cx} {E : EK} {pos p2 p tpos : Pos} {a b c e tg iter elt : Expr} {es ifs elts : List Expr} {A B C : IE} {L : IL} {kk : Nat}
def fRange1 : List D → Sto → Rs Wk
  | [.int j], st => if -(2 ^ 62) ≤ j ∧ j < 2 ^ 62 then .ok (wkRange 0 j.toNat) st else .bad
  | _, _ => .bad
def fRange2 : List D → Sto → Rs Wk
  | [.int i, .int j], st => if -(2 ^ 62) ≤ i ∧ i < 2 ^ 62 ∧ -(2 ^ 62) ≤ j ∧ j < 2 ^ 62 then .ok (wkRange i (j - i).toNat) st else .bad
  | _, _ => .bad
def iWalkC (f : List D → Sto → Rs Wk) (L : IL) : IW := fun env st => (L env st).bind f
theorem wk_range {g : G0} {m0 : Mp} {H0 : Hp} {lo : Int} {n : Nat} : WkOk g m0 H0 (Itr lo n) (wkRange lo n) := fun i m H st mv rs => by
  unfold wkRange
  by_cases h : i < n
  · rw [if_pos h]
    refine ⟨h, fun x H' y => ?_⟩
    obtain ⟨rfl, rfl⟩ := y
    exact ⟨rs, Grow.refl _ _, .int _⟩
  · rw [if_neg h]
    exact Nat.le_of_not_lt h
theorem w_range1 (hg : Gl X "range") (hm : X.mg "range" = none) (ha : SA ct X E [a] L) (hs : starEach [a] X.env = [(false, eval a X.env)] := by rfl) : SWk ct X E tg (.Call (.Name "range" p) [a] [] pos) (iWalkC fRange1 L) :=
  ⟨(pi_range1 hg hm ha.pa hs).imp fun σ H R ⟨m, env, st, re, rs, fin⟩ => ⟨m, env, st, re, rs, fin.bind.imp fun m1 H1 ds st1 g1 rs1 q vs rv => by
    unfold fRange1 at q
    split at q
    · cases rv with
      | cons r1 r2 =>
        cases r2; cases r1
        split at q
        · rename_i hz
          exact ⟨_, rfl, hz.1, hz.2, Fin.here q rs1 _ wk_range⟩
        · exact q.elim
    · exact q.elim⟩⟩
theorem w_range2 (hg : Gl X "range") (hm : X.mg "range" = none) (ha : SA ct X E [a, b] L) (hs : starEach [a, b] X.env = [(false, eval a X.env), (false, eval b X.env)] := by rfl) (hs2 : starEach [b] X.env = [(false, eval b X.env)] := by rfl) : SWk ct X E tg (.Call (.Name "range" p) [a, b] [] pos) (iWalkC fRange2 L) :=
  ⟨(pi_range2 hg hm ha.pa hs hs2).imp fun σ H R ⟨m, env, st, re, rs, fin⟩ => ⟨m, env, st, re, rs, fin.bind.imp fun m1 H1 ds st1 g1 rs1 q vs rv => by
    unfold fRange2 at q
    split at q
    · cases rv with
      | cons r1 r2 =>
        cases r2 with
        | cons r2 r3 =>
          cases r3; cases r1; cases r2
          split at q
          · rename_i hz
            exact ⟨_, _, rfl, hz, Fin.here q rs1 _ wk_range⟩
          · exact q.elim
    · exact q.elim⟩⟩
/-- the kinds of walks over a list or a tuple -/
inductive WkS (g : G0) (m0 : Mp) (H0 : Hp) : V → Wk → Prop
  | l {a : Addr} {wk : Wk} : (∃ xs, SqL g.K H0 a xs) → WkOk g m0 H0 (Itl g.K a) wk → WkS g m0 H0 (.ref a) wk
  | t {a : Addr} {wk : Wk} : (∃ xs, SqT g.K H0 a xs) → WkOk g m0 H0 (Itt g.K a) wk → WkS g m0 H0 (.ref a) wk
/-- a list or a tuple, as it is walked -/
def seqWk2 (st : Sto) : D → Option (Bool × Wk)
  | .tup xs => some (true, wkSeq xs)
  | .rol xs => some (false, wkSeq xs)
  | .scr xs => some (false, wkSeq xs)
  | .ref n => match st[n]? with
    | some (.lst _) => some (false, wkLive n)
    | _ => none
  | _ => none
theorem wkL_of {g : G0} {m : Mp} {H : Hp} {st : Sto} {d : D} {x : V} {wk : Wk} (rs : RS g m H st) (r : RV g.K m H d x) (e : seqWk2 st d = some (false, wk)) : ∃ a, x = .ref a ∧ (∃ xs, SqL g.K H a xs) ∧ WkOk g m H (Itl g.K a) wk := by
  cases d with
  | rol xs =>
    cases e
    cases r with
    | rol h1 h2 => exact ⟨_, rfl, ⟨_, h1.sq⟩, wk_seqL fun m2 H2 mv => ⟨(mv.rol _ _ h1).sq, h2.moves mv⟩⟩
  | scr xs =>
    cases e
    cases r with
    | scr h1 h2 => exact ⟨_, rfl, ⟨_, h1.sq⟩, wk_seqL fun m2 H2 mv => ⟨(mv.scr _ _ h1).sq, h2.moves mv⟩⟩
  | ref n =>
    simp only [seqWk2] at e
    split at e
    · rename_i xs hx
      cases e
      cases r with
      | ref h1 =>
        obtain ⟨vs, r', hH⟩ := rs.rc n _ _ h1 hx
        exact ⟨_, rfl, ⟨_, SqL.of hH⟩, wk_live h1⟩
    · cases e
  | tup xs => simp [seqWk2] at e
  | _ => cases e
theorem wkT_of {g : G0} {m : Mp} {H : Hp} {st : Sto} {d : D} {x : V} {wk : Wk} (rs : RS g m H st) (r : RV g.K m H d x) (e : seqWk2 st d = some (true, wk)) : ∃ a, x = .ref a ∧ (∃ xs, SqT g.K H a xs) ∧ WkOk g m H (Itt g.K a) wk := by
  cases d with
  | tup xs =>
    cases e
    cases r with
    | tup h1 h2 => exact ⟨_, rfl, ⟨_, h1.sq⟩, wk_seqT fun m2 H2 mv => ⟨(mv.tup _ _ h1).sq, h2.moves mv⟩⟩
  | ref n =>
    simp only [seqWk2] at e
    split at e <;> cases e
  | rol xs => simp [seqWk2] at e
  | scr xs => simp [seqWk2] at e
  | _ => cases e
def wkEnum (wk : Wk) : Wk := fun i st => match wk i st with
  | some (some d) => some (some (.tup [.int (i : Nat), d]))
  | o => o
theorem wk_enumL {g : G0} {m0 : Mp} {H0 : Hp} {a : Addr} {wk : Wk} (h : WkOk g m0 H0 (Itl g.K a) wk) : WkOk g m0 H0 (Ite g.K a) (wkEnum wk) := fun i m H st mv rs => by
  have q := h i m H st mv rs
  unfold wkEnum
  cases e : wk i st with
  | none => trivial
  | some o =>
    rw [e] at q
    cases o with
    | none => exact q
    | some d =>
      refine ⟨q.1, fun v H' y => ?_⟩
      obtain ⟨T, x, rfl, hT, rfl, f⟩ := y
      obtain ⟨_, _, rv⟩ := q.2 x H ⟨rfl, f⟩
      have gr : Grow m H m (upd H T (.tup [.int (i : Nat), x])) := Grow.laid hT
      exact ⟨rs.laid hT, gr, .tup (.inl upd_same) (.cons (.int _) (.cons (rv.mono gr) .nil))⟩
theorem wk_enumT {g : G0} {m0 : Mp} {H0 : Hp} {a : Addr} {wk : Wk} (h : WkOk g m0 H0 (Itt g.K a) wk) : WkOk g m0 H0 (IteT g.K a) (wkEnum wk) := fun i m H st mv rs => by
  have q := h i m H st mv rs
  unfold wkEnum
  cases e : wk i st with
  | none => trivial
  | some o =>
    rw [e] at q
    cases o with
    | none => exact q
    | some d =>
      refine ⟨q.1, fun v H' y => ?_⟩
      obtain ⟨T, x, rfl, hT, rfl, f⟩ := y
      obtain ⟨_, _, rv⟩ := q.2 x H ⟨rfl, f⟩
      have gr : Grow m H m (upd H T (.tup [.int (i : Nat), x])) := Grow.laid hT
      exact ⟨rs.laid hT, gr, .tup (.inl upd_same) (.cons (.int _) (.cons (rv.mono gr) .nil))⟩
def fEnum : List D → Sto → Rs Wk
  | [d], st => match seqWk2 st d with
    | some (_, wk) => .ok (wkEnum wk) st
    | none => .bad
  | _, _ => .bad
theorem w_enum (hg : Gl X "enumerate") (hm : X.mg "enumerate" = none) (ha : SA ct X E [a] L) (hs : starEach [a] X.env = [(false, eval a X.env)] := by rfl) : SWk ct X E (.Tuple elts kk tpos) (.Call (.Name "enumerate" p) [a] [] pos) (iWalkC fEnum L) :=
  ⟨(pi_enum (elts := elts) (kk := kk) (tpos := tpos) (p := p) (pos := pos) hg hm ha.pa hs).both (pi_enumT hg hm ha.pa hs) fun σ H R ⟨m, env, st, re, rs, fin⟩ => by
    have hf := fin.bind
    cases hA : L env st with
    | bad => rw [hA] at hf; exact hf.elim
    | exn e' st' => exact .inl ⟨m, env, st, re, rs, by rw [hA] at hf ⊢; exact hf⟩
    | ok ds st1 =>
      rw [hA] at hf
      have hf : ∀ m1 H1, Grow m H m1 H1 → RS (gx ct X) m1 H1 st1 → Fin (gx ct X) E m1 H1 (fEnum ds st1) _ := hf
      unfold fEnum at hf
      split at hf
      · rename_i d
        split at hf
        · rename_i k wk hk
          cases k with
          | false =>
            refine .inl ⟨m, env, st, re, rs, ?_⟩
            rw [hA]
            intro m1 H1 g1 rs1 vs rv
            cases rv with
            | cons r1 r2 =>
              cases r2
              obtain ⟨a, rfl, ⟨xs, hs⟩, ok⟩ := wkL_of rs1 r1 hk
              exact ⟨a, xs, rfl, hs, Fin.here (hf m1 H1 g1 rs1) rs1 _ (wk_enumL ok)⟩
          | true =>
            refine .inr ⟨m, env, st, re, rs, ?_⟩
            rw [hA]
            intro m1 H1 g1 rs1 vs rv
            cases rv with
            | cons r1 r2 =>
              cases r2
              obtain ⟨a, rfl, ⟨xs, hs⟩, ok⟩ := wkT_of rs1 r1 hk
              exact ⟨a, xs, rfl, hs, Fin.here (hf m1 H1 g1 rs1) rs1 _ (wk_enumT ok)⟩
        · refine .inl ⟨m, env, st, re, rs, ?_⟩
          rw [hA]
          exact fun m1 H1 g1 rs1 => (hf m1 H1 g1 rs1).elim
      · refine .inl ⟨m, env, st, re, rs, ?_⟩
        rw [hA]
        exact fun m1 H1 g1 rs1 => (hf m1 H1 g1 rs1).elim⟩
def wkZip (wk wk' : Wk) : Wk := fun i st => match wk i st, wk' i st with
  | some (some d), some (some e) => some (some (.tup [d, e]))
  | some none, some _ => some none
  | some (some _), some none => some none
  | _, _ => none
theorem wk_zipL {g : G0} {m0 : Mp} {H0 : Hp} {a b : Addr} {wk wk' : Wk} (h : WkOk g m0 H0 (Itl g.K a) wk) (h' : WkOk g m0 H0 (Itl g.K b) wk') : WkOk g m0 H0 (Itz g.K a b) (wkZip wk wk') := fun i m H st mv rs => by
  have q := h i m H st mv rs
  have q' := h' i m H st mv rs
  unfold wkZip
  cases e : wk i st with
  | none => trivial
  | some o =>
    cases e' : wk' i st with
    | none => cases o <;> trivial
    | some o' =>
      rw [e] at q
      rw [e'] at q'
      cases o with
      | none =>
        obtain ⟨xs, hx, hl⟩ := q
        cases o' with
        | none => obtain ⟨ys, hy, _⟩ := q'; exact ⟨xs, ys, hx, hy, .inl hl⟩
        | some d' => obtain ⟨⟨ys, y, hy, _⟩, _⟩ := q'; exact ⟨xs, ys, hx, hy, .inl hl⟩
      | some d =>
        cases o' with
        | none => obtain ⟨ys, hy, hl⟩ := q'; obtain ⟨⟨xs, x, hx, _⟩, _⟩ := q; exact ⟨xs, ys, hx, hy, .inr hl⟩
        | some d' =>
          obtain ⟨⟨xs, x, hx, ex⟩, f⟩ := q
          obtain ⟨⟨ys, y, hy, ey⟩, f'⟩ := q'
          refine ⟨⟨xs, ys, x, y, hx, hy, ex, ey⟩, fun v H' yy => ?_⟩
          obtain ⟨T, x1, y1, rfl, hT, rfl, h1, h2⟩ := yy
          obtain ⟨_, _, r1⟩ := f x1 H ⟨rfl, h1⟩
          obtain ⟨_, _, r2⟩ := f' y1 H ⟨rfl, h2⟩
          have gr : Grow m H m (upd H T (.tup [x1, y1])) := Grow.laid hT
          exact ⟨rs.laid hT, gr, .tup (.inl upd_same) (.cons (r1.mono gr) (.cons (r2.mono gr) .nil))⟩
theorem wk_zipT {g : G0} {m0 : Mp} {H0 : Hp} {a b : Addr} {wk wk' : Wk} (h : WkOk g m0 H0 (Itt g.K a) wk) (h' : WkOk g m0 H0 (Itt g.K b) wk') : WkOk g m0 H0 (ItzT g.K a b) (wkZip wk wk') := fun i m H st mv rs => by
  have q := h i m H st mv rs
  have q' := h' i m H st mv rs
  unfold wkZip
  cases e : wk i st with
  | none => trivial
  | some o =>
    cases e' : wk' i st with
    | none => cases o <;> trivial
    | some o' =>
      rw [e] at q
      rw [e'] at q'
      cases o with
      | none =>
        obtain ⟨xs, hx, hl⟩ := q
        cases o' with
        | none => obtain ⟨ys, hy, _⟩ := q'; exact ⟨xs, ys, hx, hy, .inl hl⟩
        | some d' => obtain ⟨⟨ys, y, hy, _⟩, _⟩ := q'; exact ⟨xs, ys, hx, hy, .inl hl⟩
      | some d =>
        cases o' with
        | none => obtain ⟨ys, hy, hl⟩ := q'; obtain ⟨⟨xs, x, hx, _⟩, _⟩ := q; exact ⟨xs, ys, hx, hy, .inr hl⟩
        | some d' =>
          obtain ⟨⟨xs, x, hx, ex⟩, f⟩ := q
          obtain ⟨⟨ys, y, hy, ey⟩, f'⟩ := q'
          refine ⟨⟨xs, ys, x, y, hx, hy, ex, ey⟩, fun v H' yy => ?_⟩
          obtain ⟨T, x1, y1, rfl, hT, rfl, h1, h2⟩ := yy
          obtain ⟨_, _, r1⟩ := f x1 H ⟨rfl, h1⟩
          obtain ⟨_, _, r2⟩ := f' y1 H ⟨rfl, h2⟩
          have gr : Grow m H m (upd H T (.tup [x1, y1])) := Grow.laid hT
          exact ⟨rs.laid hT, gr, .tup (.inl upd_same) (.cons (r1.mono gr) (.cons (r2.mono gr) .nil))⟩
def fZip : List D → Sto → Rs Wk
  | [d, e], st => match seqWk2 st d, seqWk2 st e with
    | some (true, wk), some (true, wk') => .ok (wkZip wk wk') st
    | some (false, wk), some (false, wk') => .ok (wkZip wk wk') st
    | _, _ => .bad
  | _, _ => .bad
theorem w_zip (hg : Gl X "zip") (hm : X.mg "zip" = none) (ha : SA ct X E [a, b] L) (hs : starEach [a, b] X.env = (false, eval a X.env) :: starEach [b] X.env := by rfl) (hpl : (backTo pos (starEach [b] X.env)).any (·.1) = false := by rfl) :
    SWk ct X E (.Tuple elts kk tpos) (.Call (.Name "zip" p) [a, b] [] pos) (iWalkC fZip L) :=
  ⟨(pi_zipA hg hm ha.pa hs hpl).imp fun σ H R ⟨m, env, st, re, rs, fin⟩ => ⟨m, env, st, re, rs, fin.bind.imp fun m1 H1 ds st1 g1 rs1 q vs rv => by
    unfold fZip at q
    split at q
    · cases rv with
      | cons r1 r2 =>
        cases r2 with
        | cons r2 r3 =>
          cases r3
          split at q
          · rename_i k1 k2
            obtain ⟨a, rfl, ⟨xs, hx⟩, o1⟩ := wkT_of rs1 r1 k1
            obtain ⟨b, rfl, ⟨ys, hy⟩, o2⟩ := wkT_of rs1 r2 k2
            exact ⟨a, b, xs, ys, rfl, .inr ⟨hx, hy, Fin.here q rs1 _ (wk_zipT o1 o2)⟩⟩
          · rename_i k1 k2
            obtain ⟨a, rfl, ⟨xs, hx⟩, o1⟩ := wkL_of rs1 r1 k1
            obtain ⟨b, rfl, ⟨ys, hy⟩, o2⟩ := wkL_of rs1 r2 k2
            exact ⟨a, b, xs, ys, rfl, .inl ⟨hx, hy, Fin.here q rs1 _ (wk_zipL o1 o2)⟩⟩
          · exact q.elim
    · exact q.elim⟩⟩
end
end QI

namespace QI
open PySem PySem.Spec PyProof.Rows L2

/-! ### is of bools -/
section
variable {ct : String → Addr} {X : Cx} {E : EK} {pos : Pos} {a b c e : Expr} {A B C : IE}
def gIsB : D → D → Sto → Rs D
  | .bl x, .bl y, st => .ok (.bl (decide (x = y))) st
  | _, .bl _, st => .ok (.bl false) st
  | d, .non, st => .ok (.bl d.isNon) st
  | _, _, _ => .bad
theorem op_isB : OpR X (compareOp .Is) (fun x y H Q => ∃ b, y = .bl b ∧ (∀ a, x ≠ .flt a) ∧ (∀ a, x ≠ .byt a) ∧ Q (.bl (decide (x = .bl b))) H) := by
  intro pins s σ H x y v u Q I rx ry h
  obtain ⟨b, rfl, n1, n2, q⟩ := h
  cases ry
  cases x with
  | non => cases rx; exact wpAny_pure (a := Value.bool false) ⟨.bl false, H, I, rfl, by simpa using q⟩
  | bl a =>
    cases rx
    refine is_bool ⟨.bl (a == b), H, I, rfl, ?_⟩
    have e : decide (V.bl a = V.bl b) = (a == b) := dec_bl
    rw [← e]; exact q
  | int a => obtain ⟨t, rfl⟩ := rx; exact wpAny_pure (a := Value.bool false) ⟨.bl false, H, I, rfl, by simpa using q⟩
  | str a => obtain ⟨t, rfl⟩ := rx; exact wpAny_pure (a := Value.bool false) ⟨.bl false, H, I, rfl, by simpa using q⟩
  | byt a => exact absurd rfl (n2 a)
  | flt a => exact absurd rfl (n1 a)
  | ref a => cases rx; exact wpAny_pure (a := Value.bool false) ⟨.bl false, H, I, rfl, by simpa using q⟩
  | ty a => cases rx; exact wpAny_pure (a := Value.bool false) ⟨.bl false, H, I, rfl, by simpa using q⟩
theorem plain_of {K : PySem.W.Frag} {m : Mp} {H : Hp} {d : D} {v : V} (h : RV K m H d v) : (∀ a, v ≠ .flt a) ∧ (∀ a, v ≠ .byt a) := by
  cases h <;> exact ⟨(fun _ z => by cases z), (fun _ z => by cases z)⟩
theorem c_isB : CmpR ct X E .Is gIsB := ⟨_, op_isB.or op_isN, fun m H st d e x y Q rs rx ry fin => by
  unfold gIsB at fin
  split at fin
  · cases rx; cases ry
    refine .inl ⟨_, rfl, (plain_of (.bl _ : RV X.K m H _ _)).1, (plain_of (.bl _ : RV X.K m H _ _)).2, ?_⟩
    have q := fin.here rs _ (.bl _)
    rename_i x y
    rw [show decide (V.bl x = V.bl y) = decide (x = y) by simp]
    exact q
  · rename_i dd bb hn
    cases ry
    refine .inl ⟨_, rfl, (plain_of rx).1, (plain_of rx).2, ?_⟩
    have q := fin.here rs _ (.bl _)
    have hne : x ≠ .bl bb := fun z => by
      subst z
      cases rx
      exact hn _ rfl
    rw [decide_eq_false hne]
    exact q
  · cases ry
    exact .inr ⟨rfl, by rw [isNon_of rx]; exact fin.here rs _ (.bl _)⟩
  · exact fin.elim⟩

/-! ### isinstance with a built-in class -/
def D.kind (st : Sto) : D → Option String
  | .non => some "NoneType"
  | .bl _ => some "bool"
  | .int _ => some "int"
  | .str _ => some "str"
  | .tup _ => some "tuple"
  | .rol _ => some "list"
  | .scr _ => some "list"
  | .ref n => match st[n]? with
    | some (.lst _) => some "list"
    | _ => none
def isK (k T : String) : Bool := k == T || (k == "bool" && T == "int")
def kinds : List String := ["NoneType", "bool", "int", "str", "tuple", "list"]
def types : List String := ["bool", "int", "str", "tuple", "list"]
theorem kit_all : ∀ k ∈ kinds, ∀ T ∈ types, kitB k T = some (isK k T) := by decide +kernel
theorem kind_of {g : G0} {m : Mp} {H : Hp} {st : Sto} {d : D} {x : V} {k : String} (rs : RS g m H st) (r : RV g.K m H d x) (e : d.kind st = some k) : k ∈ kinds ∧ TyX g.K H x (.type k) := by
  cases d with
  | non => cases r; cases e; exact ⟨by decide, .base .non⟩
  | bl b => cases r; cases e; exact ⟨by decide, .base (.bl _)⟩
  | int b => cases r; cases e; exact ⟨by decide, .base (.int _)⟩
  | str b => cases r; cases e; exact ⟨by decide, .base (.str _)⟩
  | tup xs =>
    cases e
    cases r with
    | tup h1 h2 =>
      rcases h1 with h1 | ⟨o, its, n, h1, h3, _⟩
      · exact ⟨by decide, .base (.tup h1)⟩
      · exact ⟨by decide, .kTuple h1 h3⟩
  | rol xs =>
    cases e
    cases r with
    | rol h1 h2 => exact ⟨by decide, .base (.lst h1.2.2)⟩
  | scr xs =>
    cases e
    cases r with
    | scr h1 h2 =>
      rcases h1 with ⟨o, h1⟩ | ⟨o, its, n, h1, h3, _⟩
      · exact ⟨by decide, .base (.frz h1)⟩
      · exact ⟨by decide, .kList h1 h3⟩
  | ref n =>
    simp only [D.kind] at e
    split at e
    · rename_i xs hx
      cases e
      cases r with
      | ref h1 =>
        obtain ⟨vs, _, hH⟩ := rs.rc n _ _ h1 hx
        exact ⟨by decide, .base (.lst hH)⟩
    · cases e
def gIsi (T : String) : D → Sto → Rs D := fun d st => match d.kind st with
  | some k => .ok (.bl (isK k T)) st
  | none => .bad
theorem si_isi (T : String) {p p2 : Pos} {x : Str} (hg : Gl X "isinstance") (hm : X.mg "isinstance" = none) (hT : T ∈ types) (ha : SI ct X E a A) (hb : PE X (.Name x p2) (tC (.ty T)))
    (he : starEach [a, .Name x p2] X.env = (false, eval a X.env) :: starEach [.Name x p2] X.env := by rfl) (he2 : starEach [.Name x p2] X.env = (false, eval (.Name x p2) X.env) :: starEach [] X.env := by rfl) (hpl : (backTo pos (starEach [.Name x p2] X.env)).any (·.1) = false := by rfl) :
    SI ct X E (.Call (.Name "isinstance" p) [a, .Name x p2] [] pos) (iUn (gIsi T) A) :=
  ⟨(pe_callB call_isi hg hm boot_isinstance (pa_cons ha.pe (pa_cons hb pa_nil he2) he) (by decide) (by decide) he hpl).imp fun σ H Q ⟨m, env, st, re, rs, fin⟩ => ⟨m, env, st, re, rs, fin.bind.imp fun m1 H1 d st1 g1 rs1 q v rv => by
    unfold gIsi at q
    split at q
    · rename_i k hk
      obtain ⟨h1, h2⟩ := kind_of rs1 rv hk
      exact ⟨v, .ty T, .type k, .type T, isK k T, rfl, .ty T, h2, kit_ty (kit_all k h1 T hT), q.here rs1 _ (.bl _)⟩
    · exact q.elim⟩⟩
end

/-! ### methods of lists, stores into lists -/
def isLst (st : Sto) : D → Bool
  | .ref n => match st[n]? with
    | some (.lst _) => true
    | _ => false
  | _ => false
section
variable {ct : String → Addr} {X : Cx} {E : EK} {pos apos : Pos} {a b c e o : Expr} {es : List Expr} {A B C O : IE} {L : IL}
def MtS (g : G0) (E : EK) (f : D → List D → Sto → Rs D) (r : V → List V → Hp → VK → Prop) : Prop :=
  ∀ (m : Mp) (H : Hp) (st : Sto) (d : D) (ds : List D) (x : V) (vs : List V) (Q : VK), RS g m H st → RV g.K m H d x → RVs g.K m H ds vs → Fin g E m H (f d ds st) (EndE g Q) → r x vs H Q
def iMeth (f : D → List D → Sto → Rs D) (O : IE) (L : IL) : IE := fun env st => (O env st).bind fun d st1 => if isLst st1 d = true then (L env st1).bind fun ds st2 => f d ds st2 else .bad
theorem lst_ty {g : G0} {m : Mp} {H : Hp} {st : Sto} {d : D} {x : V} (rs : RS g m H st) (r : RV g.K m H d x) (h : isLst st d = true) : tyV g.K "list" x H := by
  cases d with
  | ref n =>
    simp only [isLst] at h
    split at h
    · rename_i xs hx
      cases r with
      | ref h1 =>
        obtain ⟨vs, _, hH⟩ := rs.rc n _ _ h1 hx
        exact .inl ⟨rfl, vs, SqL.of hH⟩
    · cases h
  | _ => simp [isLst] at h
theorem si_meth {name : Str} {id : String} {f : D → List D → Sto → Rs D} {r : V → List V → Hp → VK → Prop} (slot : Slot "list" name id) (hty : typeOf (.builtin id) = pure (.type "method_descriptor")) (hm : MtR X id r) (hr : MtS (gx ct X) E f r) (ho : SI ct X E o O) (ha : SA ct X E (e :: es) L)
    (h : PE X (.Call (.Attribute o name apos) (e :: es) [] pos) (tBM X.K "list" r (tI (gx ct X) E O) (tIA (gx ct X) E L))) :
    SI ct X E (.Call (.Attribute o name apos) (e :: es) [] pos) (iMeth f O L) :=
  ⟨h.imp fun σ H Q ⟨m, env, st, re, rs, fin⟩ => ⟨m, env, st, re, rs, fin.bind.imp fun m1 H1 d st1 g1 rs1 q x rx => by
    split at q
    · rename_i hl
      exact ⟨lst_ty rs1 rx hl, m1, env, st1, re.mono g1, rs1, q.bind.imp fun m2 H2 ds st2 g2 rs2 q2 vs rv => hr m2 H2 st2 d ds x vs Q rs2 (rx.mono g2) rv q2⟩
    · exact q.elim⟩⟩
def setL (st : Sto) (n : Nat) (xs : List D) : Sto := st.set n (.lst xs)
theorem write_lst {g : G0} {m : Mp} {H : Hp} {st : Sto} {n : Nat} {a : Addr} {xs ys : List D} {vs ws : List V} (rs : RS g m H st) (h1 : m.cs[n]? = some a) (hx : st[n]? = some (.lst xs)) (r : RVs g.K m H ys ws) : RS g m (upd H a (.lst ws)) (setL st n ys) ∧ Grow m H m (upd H a (.lst ws)) :=
  rs.write h1 hx fun gr => ⟨ws, r.mono gr, upd_same⟩
def gAppend : D → List D → Sto → Rs D
  | .ref n, [e], st => match st[n]? with
    | some (.lst xs) => if xs.length < 16777216 then .ok .non (setL st n (xs ++ [e])) else .bad
    | _ => .bad
  | _, _, _ => .bad
theorem mts_append {g : G0} : MtS g E gAppend rAppend := fun m H st d ds x vs Q rs rx rv fin => by
  unfold gAppend at fin
  split at fin
  · split at fin
    · rename_i xs hx
      split at fin
      · rename_i hz
        cases rx with
        | ref h1 =>
          cases rv with
          | cons r1 r2 =>
            cases r2
            obtain ⟨ws, r, hH⟩ := rs.rc _ _ _ h1 hx
            obtain ⟨rs', gr⟩ := write_lst (vs := ws) rs h1 hx (r.append (.cons r1 .nil))
            exact ⟨_, ws, _, rfl, rfl, hH, by rw [← r.length, sl_eq]; exact hz, fin m _ gr rs' _ .non⟩
      · exact fin.elim
    · exact fin.elim
  · exact fin.elim
theorem si_append (ho : SI ct X E o O) (ha : SA ct X E (e :: es) L) (hbase : attributeBase o "append" X.env (eval o X.env) = eval o X.env := by rfl)
    (hfew : ((backTo pos (starEach (e :: es) X.env)).all (fun x => !x.1) && (backToKw pos (keywordEach [] X.env)).all (fun x => x.1.isSome)
      && decide ((e :: es).length + ([] : List Keyword).length + (if ([] : List Keyword).isEmpty then 0 else 1) < 30)) = true := by rfl)
    (hline : (apos.endLine == pos.line) = true := by rfl) (hs : starEach (e :: es) X.env = (false, eval e X.env) :: starEach es X.env := by rfl) (hplain : (backTo pos (starEach es X.env)).any (·.1) = false := by rfl) : SI ct X E (.Call (.Attribute o "append" apos) (e :: es) [] pos) (iMeth gAppend O L) :=
  si_meth PySem.F.slot_list_append PySem.F.type_list_append mt_append mts_append ho ha (pe_bm PySem.F.plainAttrs_list PySem.F.slot_list_append PySem.F.type_list_append mt_append ho.pe ha.pa hbase hfew hline hs hplain)
def gExtend : D → List D → Sto → Rs D
  | .ref n, [e], st => match st[n]?, listAt st e with
    | some (.lst xs), some ys => if xs.length + ys.length ≤ 16777216 then .ok .non (setL st n (xs ++ ys)) else .bad
    | _, _ => .bad
  | _, _, _ => .bad
theorem mts_extend {g : G0} : MtS g E gExtend rExtend := fun m H st d ds x vs Q rs rx rv fin => by
  unfold gExtend at fin
  split at fin
  · split at fin
    · rename_i xs ys hx hy
      split at fin
      · rename_i hz
        cases rx with
        | ref h1 =>
          cases rv with
          | cons r1 r2 =>
            cases r2
            obtain ⟨ws, r, hH⟩ := rs.rc _ _ _ h1 hx
            obtain ⟨p, zs, rfl, hp, r'⟩ := list_of rs r1 hy
            obtain ⟨rs', gr⟩ := write_lst (vs := ws) rs h1 hx (r.append r')
            exact ⟨_, p, ws, zs, rfl, rfl, hH, hp, by rw [← r.length, ← r'.length, sl_eq]; exact hz, fin m _ gr rs' _ .non⟩
      · exact fin.elim
    · exact fin.elim
  · exact fin.elim
theorem si_extend (ho : SI ct X E o O) (ha : SA ct X E (e :: es) L) (hbase : attributeBase o "extend" X.env (eval o X.env) = eval o X.env := by rfl)
    (hfew : ((backTo pos (starEach (e :: es) X.env)).all (fun x => !x.1) && (backToKw pos (keywordEach [] X.env)).all (fun x => x.1.isSome)
      && decide ((e :: es).length + ([] : List Keyword).length + (if ([] : List Keyword).isEmpty then 0 else 1) < 30)) = true := by rfl)
    (hline : (apos.endLine == pos.line) = true := by rfl) (hs : starEach (e :: es) X.env = (false, eval e X.env) :: starEach es X.env := by rfl) (hplain : (backTo pos (starEach es X.env)).any (·.1) = false := by rfl) : SI ct X E (.Call (.Attribute o "extend" apos) (e :: es) [] pos) (iMeth gExtend O L) :=
  si_meth PySem.F.slot_list_extend PySem.F.type_list_extend mt_extend mts_extend ho ha (pe_bm PySem.F.plainAttrs_list PySem.F.slot_list_extend PySem.F.type_list_extend mt_extend ho.pe ha.pa hbase hfew hline hs hplain)
/-- o[i] = e -/
def gSetIx (o i v : D) (st : Sto) : Rs Unit := match o, i with
  | .ref n, .int k => match st[n]? with
    | some (.lst xs) => match ixN xs.length k with
      | some j => .ok () (setL st n (xs.set j v))
      | none => .bad
    | _ => .bad
  | _, _ => .bad
def sSetIx (O I A : IE) : IS := fun env st => (A env st).bind fun v st1 => (O env st1).bind fun o st2 => (I env st2).bind fun i st3 => (gSetIx o i v st3).bind fun _ st4 => .ok (.nx env) st4
theorem s_setIx {p : Pos} (ho : SI ct X E o O) (hi : SI ct X E b B) (he : SI ct X E e A)
    (ha : ∀ v, assign (.Subscript o b p) X.env v = (do
      let ov ← holding [v] (eval o X.env)
      let iv ← holding [v, ov] (eval b X.env)
      standAt p
      holding [v, ov, iv] (setItem ov iv v)
      release [v, ov, iv] []) := by intro _; rfl) (hs : swapsWithSole [.Subscript o b p] e pos.line X.env = pure false := by rfl) (hw : swappedStores [.Subscript o b p] e X.env = pure none := by rfl)
    (h1 : (assignEach [.Subscript o b p] X.env).map (·.2) = [assign (.Subscript o b p) X.env] := by rfl) : SS ct X E (.Assign [.Subscript o b p] e pos) (sSetIx O B A) :=
  ⟨(ps_asg he.pe (pg_sub ho.pe hi.pe set_list ha) hs hw h1).imp fun Dn σ H ⟨m, env, st, re, rs, fin⟩ => ⟨m, env, st, re, rs, fin.bind.imp fun m1 H1 d st1 g1 rs1 q v rv =>
    ⟨m1, env, st1, re.mono g1, rs1, q.bind.imp fun m2 H2 o' st2 g2 rs2 q2 x rx => ⟨m2, env, st2, (re.mono g1).mono g2, rs2, q2.bind.imp fun m3 H3 i st3 g3 rs3 q3 y ry => by
      unfold gSetIx at q3
      split at q3
      · split at q3
        · rename_i xs hx
          split at q3
          · rename_i j hj
            have rx' := rx.mono g3
            cases rx' with
            | ref h1 =>
              cases ry
              obtain ⟨ws, r, hH⟩ := rs3.rc _ _ _ h1 hx
              obtain ⟨rs', gr⟩ := write_lst (vs := ws) rs3 h1 hx (r.set j ((rv.mono g2).mono g3))
              exact ⟨_, ws, _, j, rfl, rfl, hH, by rw [← r.length]; exact hj, q3 m3 _ gr rs' σ ((((re.mono g1).mono g2).mono g3).mono gr)⟩
          · exact q3.elim
        · exact q3.elim
      · exact q3.elim⟩⟩⟩⟩
/-- name op= e -/
def sAug (i : Nat) (f : D → D → Sto → Rs D) (A : IE) : IS := fun env st => match env[i]? with
  | some (some d) => (A env st).bind fun e st1 => (f d e st1).bind fun r st2 => .ok (.nx (env.set i (some r))) st2
  | _ => .bad
def gAddI : D → D → Sto → Rs D
  | .int i, .int j, st => .ok (.int (i + j)) st
  | _, _, _ => .bad
theorem s_augAdd (i : Nat) {x : Str} {p' : Pos} (hN : X.N.Nodup) (he : SI ct X E e A) (hi : X.N[i]? = some x := by rfl) (hx : Loc X.env.scope x := by first | exact .inl rfl | exact .inr rfl) (hf : X.fn x = true ∨ X.env.scope.names.lookup x = some .local := by first | exact .inl rfl | exact .inr rfl) :
    SS ct X E (.AugAssign (.Name x p') .Add e pos) (sAug i gAddI A) :=
  ⟨(ps_aug hN hi hx he.pe ip_add hf).imp fun Dn σ H ⟨m, env, st, re, rs, fin⟩ => by
    unfold sAug at fin
    split at fin
    · rename_i d hd
      obtain ⟨v, hv, rv⟩ := re.at_ i d hd
      refine ⟨v, hv, m, env, st, re, rs, fin.bind.imp fun m1 H1 e st1 g1 rs1 q y ry => ?_⟩
      unfold gAddI at q
      split at q
      · cases rv; cases ry
        exact ⟨_, _, rfl, rfl, q.here rs1 _ ((re.mono g1).set (.int _) i)⟩
      · exact q.elim
    · exact fin.elim⟩
end

/-! ### defs -/
/-- what a call gives -/
def spI (g : G0) (n : Nat) (G : List D → Sto → Rs D) : Sp := fun vs H Q _ => ∃ m ds st, ds.length = n ∧ RVs g.K m H ds vs ∧ RS g m H st ∧ Fin g noE m H (G ds st) (EndE g Q)
section
variable {ct : String → Addr} {X : Cx} {E : EK} {pos p : Pos} {a b c e o : Expr} {es : List Expr} {A B C O : IE} {L L2 : IL} {k : Nat} {f : Addr} {fd : FuncData} {ps : List Str} {G : List D → Sto → Rs D} {x : Str} {dvs : List V} {us : List Value} {dds : List D}
/-- a call with n written arguments; dds: the defaults that fill up -/
def iCall (n : Nat) (G : List D → Sto → Rs D) (dds : List D) (L : IL) : IE := fun env st => (L env st).bind fun ds st1 => if ds.length = n then (G (ds ++ dds) st1).strict else .bad
theorem Fin.strictE {α : Type} {g : G0} {m : Mp} {H : Hp} {r : Rs α} {R : Mp → Hp → α → Sto → Prop} (h : Fin g E m H r.strict R) : Fin g noE m H r R := by
  cases r with
  | ok a st => exact h
  | exn e st => exact (show False from h).elim
  | bad => exact h
theorem fn_len {P : Program} {w : World} {K : PySem.W.Frag} {mg : Str → Option Value} {base : Heap} {CX : CXT} {sp : Sp} (F : FnOk P w K mg base CX k f fd ps sp) : ∀ vs H Q E, sp vs H Q E → vs.length = ps.length := F.len
theorem si_call (F : FnOk X.prog X.w X.K X.mg X.base CX0 k f fd ps (spI (gx ct X) ps.length G)) (hr : Room k X.A) (hg : Gl X x) (hm : X.mg x = some (.ref f)) (hk : PySem.W.keepIn X.K (.ref f) = true) (hb : Binds X.K fd ps us) (hd : Vals dvs us) (hdd : ∀ m H, RVs X.K m H dds dvs) (n : Nat) (hn : n + dds.length = ps.length)
    (ha : SA ct X E (e :: es) L) (hl : (e :: es).length = n := by rfl) (hdb : (x == ("__debug__" : Str)) = false := by decide) (he : starEach (e :: es) X.env = (false, eval e X.env) :: starEach es X.env := by rfl) (hpl : (backTo pos (starEach es X.env)).any (·.1) = false := by rfl) :
    SI ct X E (.Call (.Name x p) (e :: es) [] pos) (iCall n G dds L) :=
  ⟨(pe_call F hr hg hm hk hb hd pass0 ha.pa hdb he hpl).imp fun σ H Q ⟨m, env, st, re, rs, fin⟩ => ⟨m, env, st, re, rs, fin.bind.imp fun m1 H1 ds st1 g1 rs1 q vs rv => by
    split at q
    · rename_i hz
      exact ⟨m1, ds ++ dds, st1, by rw [List.length_append, hz, hn], rv.append (hdd _ _), rs1, q.strictE⟩
    · exact q.elim⟩⟩
/-! keywords -/
variable {kws : List Keyword} {ks : List Str} {kpos : Pos} {nm : Option Str}
variable (ct X E) in
structure SK (kws : List Keyword) (I : IL) : Prop where
  pk : PK X kws (tIA (gx ct X) E I)
theorem _root_.L2.PK.imp {X : Cx} {e : List Keyword} {t t' : TA} (h : PK X e t) (f : ∀ σ H Q, t' σ H Q → t σ H Q) : PK X e t' := ⟨fun p pins s σ H Q I q => h.run p pins s σ H Q I (f σ H Q q)⟩
theorem sk_nil : SK ct X E [] iNil := ⟨pk_nil.imp fun σ H Q ⟨m, env, st, re, rs, fin⟩ => Fin.here fin rs _ .nil⟩
theorem sk_cons (ha : SI ct X E e A) (hl : SK ct X E kws L) : SK ct X E (⟨nm, e, kpos⟩ :: kws) (iCons A L) :=
  ⟨(pk_cons ha.pe hl.pk).imp fun σ H Q ⟨m, env, st, re, rs, fin⟩ => ⟨m, env, st, re, rs, fin.bind.imp fun m1 H1 d st1 g1 rs1 q x rx =>
    ⟨m1, env, st1, re.mono g1, rs1, q.bind.imp fun m2 H2 ds st2 g2 rs2 q2 xs rxs => q2.here rs2 _ (.cons (rx.mono g2) rxs)⟩⟩⟩
/-- the keywords stand in the parameters' order, behind the positional ones; n of them in all -/
def iCallK (n : Nat) (G : List D → Sto → Rs D) (L L2 : IL) : IE := fun env st => (L env st).bind fun ds st1 => (L2 env st1).bind fun es st2 => if ds.length + es.length = n then (G (ds ++ es) st2).strict else .bad
theorem si_callK (F : FnOk X.prog X.w X.K X.mg X.base CX0 k f fd ps (spI (gx ct X) ps.length G)) (hr : Room k X.A) (hg : Gl X x) (hm : X.mg x = some (.ref f)) (hk : PySem.W.keepIn X.K (.ref f) = true)
    (hb : KBinds X.K fd ps ks (fun us ws => us ++ ws) (fun vs zs => vs ++ zs)) (ha : SA ct X E (e :: es) L) (hkw : SK ct X E kws L2)
    (hall : (backToKw pos (keywordEach kws X.env)).all (·.1.isSome) = true := by rfl) (hks : (backToKw pos (keywordEach kws X.env)).filterMap (·.1) = ks := by rfl)
    (hdb : (x == ("__debug__" : Str)) = false := by decide) (he : starEach (e :: es) X.env = (false, eval e X.env) :: starEach es X.env := by rfl)
    (hpl : ((backTo pos (starEach (e :: es) X.env)).any (·.1) || (backToKw pos (keywordEach kws X.env)).any (·.1.isNone)) = false := by rfl) : SI ct X E (.Call (.Name x p) (e :: es) kws pos) (iCallK ps.length G L L2) :=
  ⟨(pe_callK F hr hg hm hk hb pass0 ha.pa hkw.pk hall hks hdb he hpl).imp fun σ H Q ⟨m, env, st, re, rs, fin⟩ => ⟨m, env, st, re, rs, fin.bind.imp fun m1 H1 ds st1 g1 rs1 q vs rv =>
    ⟨m1, env, st1, re.mono g1, rs1, q.bind.imp fun m2 H2 es st2 g2 rs2 q2 zs rz => by
      split at q2
      · rename_i hz
        exact ⟨m2, ds ++ es, st2, by rw [List.length_append, hz], (rv.mono g2).append rz, rs2, q2.strictE⟩
      · exact q2.elim⟩⟩⟩
theorem pe_callK0 {sp : Sp} {g : List Value → List Value → List Value} {gV : List V → List V → List V} {tk : TA} (F : FnOk X.prog X.w X.K X.mg X.base CX0 k f fd ps sp) (hr : Room k X.A) (hg : Gl X x) (hm : X.mg x = some (.ref f)) (hk : PySem.W.keepIn X.K (.ref f) = true) (hb : KBinds X.K fd ps ks g gV)
    (hkw : PK X kws tk) (hall : (backToKw pos (keywordEach kws X.env)).all (·.1.isSome) = true := by rfl) (hks : (backToKw pos (keywordEach kws X.env)).filterMap (·.1) = ks := by rfl)
    (hdb : (x == ("__debug__" : Str)) = false := by decide)
    (hpl : ((backTo pos (starEach [] X.env)).any (·.1) || (backToKw pos (keywordEach kws X.env)).any (·.1.isNone)) = false := by rfl) :
    PE X (.Call (.Name x p) [] kws pos) (tCallK sp gV E0 tNil tk) := by
  refine ⟨fun pins s σ H Q I h => ?_⟩
  refine wpAny_Call_Name_kw (ld_glob I hg hm ?_ hdb)
  refine PySem.W.callWith_KW0 (h₀ := X.base) I.ok.mod.kin hk hall ?_ hpl
  refine thn (hkw.run pos pins s σ H _ I h) fun ws s2 ⟨zs, H2, I2, rz, q2⟩ => ⟨I2.kIn, ?_⟩
  rw [hks]
  exact run_fnk (us := []) F hr hb pass0 I2 .nil rz q2
theorem si_callK0 (F : FnOk X.prog X.w X.K X.mg X.base CX0 k f fd ps (spI (gx ct X) ps.length G)) (hr : Room k X.A) (hg : Gl X x) (hm : X.mg x = some (.ref f)) (hk : PySem.W.keepIn X.K (.ref f) = true)
    (hb : KBinds X.K fd ps ks (fun us ws => us ++ ws) (fun vs zs => vs ++ zs)) (hkw : SK ct X E kws L2)
    (hall : (backToKw pos (keywordEach kws X.env)).all (·.1.isSome) = true := by rfl) (hks : (backToKw pos (keywordEach kws X.env)).filterMap (·.1) = ks := by rfl)
    (hdb : (x == ("__debug__" : Str)) = false := by decide)
    (hpl : ((backTo pos (starEach [] X.env)).any (·.1) || (backToKw pos (keywordEach kws X.env)).any (·.1.isNone)) = false := by rfl) : SI ct X E (.Call (.Name x p) [] kws pos) (iCall ps.length G [] L2) :=
  ⟨(pe_callK0 F hr hg hm hk hb hkw.pk hall hks hdb hpl).imp fun σ H Q ⟨m, env, st, re, rs, fin⟩ => ⟨m, env, st, re, rs, fin.bind.imp fun m2 H2 es st2 g2 rs2 q2 zs rz => by
      split at q2
      · rename_i hz
        rw [List.append_nil] at q2
        exact ⟨m2, es, st2, hz, rz, rs2, q2.strictE⟩
      · exact q2.elim⟩⟩
end

end QI

namespace QI
open PySem PySem.Spec PyProof.Rows L2
/-! ### a def's body -/
/-- cells from n on are given out as lists that nobody writes (to a depth) -/
def fz (n : Nat) (st : Sto) : Nat → D → D
  | 0, d => d
  | k + 1, .ref i => if n ≤ i then match st[i]? with
      | some (.lst ds) => .rol (ds.map (fz n st k))
      | _ => .ref i
    else .ref i
  | k + 1, .tup ds => .tup (ds.map (fz n st k))
  | _ + 1, d => d
theorem fz_ok {g : G0} {m : Mp} {H : Hp} {st : Sto} {n : Nat} (rs : RS g m H st) : ∀ (k : Nat) {d : D} {v : V}, RV g.K m H d v → (fz n st k d).lo n = true → RV g.K (m.take n) H (fz n st k d) v
  | 0, d, v, r, h => r.trunc h
  | k + 1, d, v, r, h => by
    have all : ∀ {ds : List D} {vs : List V}, RVs g.K m H ds vs → D.loAll n (ds.map (fz n st k)) = true → RVs g.K (m.take n) H (ds.map (fz n st k)) vs := by
      intro ds
      induction ds with
      | nil => intro vs r _; cases r; exact .nil
      | cons d ds ih =>
        intro vs r h
        cases r with
        | cons r1 r2 =>
          simp only [List.map_cons, D.loAll, Bool.and_eq_true] at h
          exact .cons (fz_ok rs k r1 h.1) (ih r2 h.2)
    cases d with
    | ref i =>
      unfold fz at h ⊢
      split at h
      · rename_i hn
        rw [if_pos hn]
        split at h
        · rename_i ds hd
          cases r with
          | ref h1 =>
            obtain ⟨vs, r', hH⟩ := rs.rc _ _ _ h1 hd
            refine .rol ⟨fun z => ?_, fun z => (rs.hs _ z).1 (List.mem_of_getElem? h1), hH⟩ (all r' (by simpa [D.lo] using h))
            obtain ⟨j, hj⟩ := List.getElem?_of_mem (show _ ∈ m.cs.take n from z)
            have hjn : j < n := by
              have := lt_of_get hj
              rw [List.length_take] at this
              omega
            rw [List.getElem?_take_of_lt hjn] at hj
            have := nd_ix rs.nd hj h1
            omega
        · exact r.trunc h
      · rename_i hn
        rw [if_neg hn]
        exact r.trunc h
    | tup ds =>
      unfold fz at h ⊢
      cases r with
      | tup h1 h2 => exact .tup h1 (all h2 (by simpa [D.lo] using h))
    | non => exact r.trunc h
    | bl _ => exact r.trunc h
    | int _ => exact r.trunc h
    | str _ => exact r.trunc h
    | rol _ => exact r.trunc h
    | scr _ => exact r.trunc h
/-- what a body gives is what is said of the call -/
def Ref (st0 : Sto) (r : Rs Fl) : Rs D → Prop
  | .ok d st' => ∃ d' j k, (r = .ok (.rt d') (st' ++ j) ∨ (∃ e, r = .ok (.nx e) (st' ++ j) ∧ d' = .non)) ∧ fz st'.length (st' ++ j) k d' = d ∧ d.lo st'.length = true ∧ Closed st' ∧ st0.length ≤ st'.length
  | .exn e st' => ∃ j, r = .exn e (st' ++ j) ∧ e.d.lo st'.length = true ∧ Closed st' ∧ st0.length ≤ st'.length
  | .bad => True
theorem Ref.ret {st0 st' j : Sto} {r : Rs Fl} {d : D} (h : r = .ok (.rt d) (st' ++ j)) (h1 : d.lo st'.length = true) (h2 : Closed st') (h3 : st0.length ≤ st'.length) : Ref st0 r (.ok d st') := ⟨d, j, 0, .inl h, rfl, h1, h2, h3⟩
/-- the store stays -/
theorem Ref.same {st j : Sto} {r : Rs Fl} {d : D} (h : r = .ok (.rt d) (st ++ j)) (h1 : d.lo st.length = true) (h2 : Closed st) : Ref st r (.ok d st) := ⟨d, j, 0, .inl h, rfl, h1, h2, Nat.le_refl _⟩
theorem Ref.pure {st : Sto} {r : Rs Fl} {d : D} (h : r = .ok (.rt d) st) (h1 : d.lo st.length = true) (h2 : Closed st) : Ref st r (.ok d st) := ⟨d, [], 0, .inl (by rw [List.append_nil]; exact h), rfl, h1, h2, Nat.le_refl _⟩
theorem Ref.bad {st : Sto} {r : Rs Fl} : Ref st r .bad := trivial
def startE (N : List Str) (ds : List D) : Ev := ds.map some ++ List.replicate (N.length - ds.length) none
theorem RE.start {K : PySem.W.Frag} {m : Mp} {H : Hp} {N : List Str} {ds : List D} {vs : List V} (r : RVs K m H ds vs) : RE K m H (startE N ds) (L2.start N vs) := by
  refine ⟨by unfold startE L2.start; simp [r.length], fun i d e => ?_⟩
  unfold startE at e
  unfold L2.start
  by_cases hi : i < ds.length
  · rw [List.getElem?_append_left (by simpa using hi), List.getElem?_map] at e
    cases q : ds[i]? with
    | none => rw [q] at e; cases e
    | some d' =>
      rw [q] at e
      cases e
      obtain ⟨v, hv, rv⟩ := r.get q
      refine ⟨v, ?_, rv⟩
      rw [List.getElem?_append_left (by rw [List.length_map, ← r.length]; exact hi), List.getElem?_map, hv]; rfl
  · rw [List.getElem?_append_right (by simpa using hi), List.getElem?_replicate] at e
    split at e <;> cases e
section
variable {ct : String → Addr} {P : Program} {w : World} {K : PySem.W.Frag} {mg : Str → Option Value} {base : Heap} {x qual : Str} {st : Stmt} {f : Addr} {fd : FuncData} {N ps : List Str} {k : Nat} {G : List D → Sto → Rs D} {B : IS}
/-- the context of a def's body -/
abbrev bodyX (P : Program) (w : World) (K : PySem.W.Frag) (mg : Str → Option Value) (base : Heap) (N : List Str) (qual : Str) (st : Stmt) (f : Addr) (cdv : Value) (A : Around) (outer : List Env) (s : Shared) (H : Hp) (E : XK) : Cx :=
  (cxOf CX0 P w K mg base N qual (defScope st) f cdv A outer s H E).nox
theorem fin_ref {g : G0} {m : Mp} {H : Hp} {st0 : Sto} {r : Rs Fl} {gd : Rs D} {Q : VK} (hm : m.cs.length = st0.length) (hx : ∀ e s', gd ≠ .exn e s') (hr : Ref st0 r gd) (fin : Fin g noE m H gd (EndE g Q)) : Fin g noE m H r (EndS g { nx := fun _ H' => Q .non H', rt := Q }) := by
  cases gd with
  | bad => exact fin.elim
  | exn e st' => exact absurd rfl (hx e st')
  | ok d st' =>
    obtain ⟨d', j, k, h1, h2, h3, h4, h5⟩ := hr
    have key : ∀ m' H' v, Grow m H m' H' → RS g m' H' (st' ++ j) → RV g.K m' H' d' v → Q v H' := fun m' H' v gr rs rv => by
      have q : RV g.K (m'.take st'.length) H' d v := by rw [← h2]; exact fz_ok rs k rv (by rw [h2]; exact h3)
      exact fin (m'.take st'.length) H' (gr.trunc (by rw [hm]; exact h5)) (rs.trunc h4) v q
    rcases h1 with h1 | ⟨e, h1, rfl⟩
    · rw [h1]
      exact fun m' H' gr rs v rv => key m' H' v gr rs rv
    · rw [h1]
      exact fun m' H' gr rs σ' _ => key m' H' .non gr rs .non
theorem def_ok (F : Fun K x qual st f fd) (S : FnScope N ps (defScope st))
    (hB : ∀ (cdv : Value) (A : Around) (outer : List Env) (s : Shared) (H : Hp) (E : XK), Room k (A.deeper (envOfC qual (defScope st) s.heap.objs.size f cdv)) → SSs ct (bodyX P w K mg base N qual st f cdv A outer s H E) noE (defBody st) B)
    (hG : ∀ (ds : List D) (s : Sto), ds.length = ps.length → Closed s → D.loAll s.length ds = true → (∀ e s', G ds s ≠ .exn e s') ∧ Ref s (B (startE N ds) s) (G ds s)) : FnOk P w K mg base CX0 (k + 1) f fd ps (spI ⟨K, ct, P, w⟩ ps.length G) := by
  refine F.ok S (fun vs H Q E h => ?_) (fun cdv A outer s H vs Q E hr h => ?_)
  · obtain ⟨m, ds, st', h1, h2, _⟩ := h
    rw [← h2.length]; exact h1
  · obtain ⟨m, ds, st', h1, h2, h3, fin⟩ := h
    refine ⟨_, (hB cdv A outer s H E hr).pss, m, startE N ds, st', RE.start h2, h3, ?_⟩
    obtain ⟨hx, href⟩ := hG ds st' h1 h3.closed (by rw [← h3.len]; exact h2.lo)
    cases hg : G ds st' with
    | exn e s' => exact absurd hg (hx e s')
    | ok d s' => rw [hg] at fin href; exact fin_ref h3.len (fun _ _ z => by cases z) href fin
    | bad => rw [hg] at fin; exact fin.elim
end
end QI
namespace QI
open PySem PySem.Spec PyProof.Rows L2
/-! ### what is known of a def -/
/-- the positional values and the keywords' stand in the parameters' order -/
def gK {α : Type} (n l : Nat) (us ws : List α) : List α := if us.length = n ∧ ws.length = l then us ++ ws else []
structure Kn (ct : String → Addr) (P : Program) (w : World) (K : PySem.W.Frag) (mg : Str → Option Value) (base : Heap) (x : Str) (st : Stmt) (ps : List Str) (k : Nat) (G : List D → Sto → Rs D) (f : Addr) (fd : FuncData) : Prop where
  m : mg x = some (.ref f)
  fu : Fun K x x st f fd
  ok : FnOk P w K mg base CX0 k f fd ps (spI ⟨K, ct, P, w⟩ ps.length G)
section
variable {ct : String → Addr} {P : Program} {w : World} {K : PySem.W.Frag} {mg : Str → Option Value} {base : Heap} {x : Str} {st : Stmt} {ps : List Str} {k : Nat} {G : List D → Sto → Rs D} {f : Addr} {fd : FuncData}
theorem kb_of {qual : Str} (F : Fun K x qual st f fd) (ks : List Str) (n l : Nat) (h0 : 0 < ps.length)
    (h : ∀ (kV doc pm : Value) (an : Option Addr) (cdv ct : Value) (us ws : List Value), us.length = n → ws.length = l → bindArgs (PySem.W.fnOf x qual (defArgs st) (defBody st) (defScope st) .none kV doc pm an cdv ct) ⟨us, ks.zip ws⟩ = pure (ps.zip (us ++ ws))) : KBinds K fd ps ks (gK n l) (gK n l) := by
  obtain ⟨oc, od, kV, doc, pm, an, cdv, ct, osl, rfl, lk, hcd⟩ := F.ex
  refine ⟨fun s us ws _ hl => ?_, fun {vs us zs ws} r rz => ?_⟩
  · unfold gK at hl ⊢
    split at hl
    · rename_i hz
      rw [if_pos hz]
      exact .of_eq (h kV doc pm an cdv ct us ws hz.1 hz.2)
    · rw [List.length_nil] at hl; omega
  · unfold gK
    rw [r.length, rz.length]
    split
    · exact r.append rz
    · exact .nil
end
section
variable {ct : String → Addr} {X : Cx} {E : EK} {pos p : Pos} {a b c e o : Expr} {es : List Expr} {L L2 : IL} {k : Nat} {f : Addr} {fd : FuncData} {ps : List Str} {G : List D → Sto → Rs D} {x : Str} {kws : List Keyword} {ks : List Str} {st : Stmt}
/-- f(e, ..), every parameter written -/
theorem si_kn (F : Kn ct X.prog X.w X.K X.mg X.base x st ps k G f fd) (n : Nat) (hr : Room k X.A) (hb : ∀ (kV doc pm : Value) (an : Option Addr) (cdv ct : Value) (us : List Value), us.length = ps.length → bindArgs (PySem.W.fnOf x x (defArgs st) (defBody st) (defScope st) .none kV doc pm an cdv ct) ⟨us, []⟩ = pure (ps.zip us))
    (ha : SA ct X E (e :: es) L) (hn : ps.length = n := by rfl) (hg : Gl X x := by rfl) (hdb : (x == ("__debug__" : Str)) = false := by decide) (he : starEach (e :: es) X.env = (false, eval e X.env) :: starEach es X.env := by rfl) (hpl : (backTo pos (starEach es X.env)).any (·.1) = false := by rfl) :
    SI ct X E (.Call (.Name x p) (e :: es) [] pos) (iCall n G [] L) :=
  ⟨(pe_call F.ok hr hg F.m F.fu.kp (F.fu.binds hb) .nil pass0 ha.pa hdb he hpl).imp fun σ H Q ⟨m, env, st, re, rs, fin⟩ => ⟨m, env, st, re, rs, fin.bind.imp fun m1 H1 ds st1 g1 rs1 q vs rv => by
    split at q
    · rename_i hz
      rw [List.append_nil] at q
      exact ⟨m1, ds, st1, by rw [hz, hn], by rw [List.append_nil]; exact rv, rs1, q.strictE⟩
    · exact q.elim⟩⟩
def iCallKn (n l : Nat) (G : List D → Sto → Rs D) (L L2 : IL) : IE := fun env st => (L env st).bind fun ds st1 => (L2 env st1).bind fun es st2 => if ds.length = n ∧ es.length = l then (G (ds ++ es) st2).strict else .bad
theorem gK_rel {K : PySem.W.Frag} {m : Mp} {H : Hp} {ds es : List D} {vs zs : List V} {n l : Nat} (h : ds.length = n ∧ es.length = l) (r : RVs K m H ds vs) (r' : RVs K m H es zs) : RVs K m H (ds ++ es) (gK n l vs zs) := by
  unfold gK
  rw [if_pos (by rw [← r.length, ← r'.length]; exact h)]
  exact r.append r'
/-- f(e, .., k = v, ..): n written, l by keyword, in the parameters' order -/
theorem si_knK (F : Kn ct X.prog X.w X.K X.mg X.base x st ps k G f fd) (hr : Room k X.A) (n l : Nat) (hnl : n + l = ps.length) (h0 : 0 < ps.length)
    (hb : ∀ (kV doc pm : Value) (an : Option Addr) (cdv ct : Value) (us ws : List Value), us.length = n → ws.length = l → bindArgs (PySem.W.fnOf x x (defArgs st) (defBody st) (defScope st) .none kV doc pm an cdv ct) ⟨us, ks.zip ws⟩ = pure (ps.zip (us ++ ws)))
    (ha : SA ct X E (e :: es) L) (hkw : SK ct X E kws L2) (hg : Gl X x := by rfl)
    (hall : (backToKw pos (keywordEach kws X.env)).all (·.1.isSome) = true := by rfl) (hks : (backToKw pos (keywordEach kws X.env)).filterMap (·.1) = ks := by rfl)
    (hdb : (x == ("__debug__" : Str)) = false := by decide) (he : starEach (e :: es) X.env = (false, eval e X.env) :: starEach es X.env := by rfl)
    (hpl : ((backTo pos (starEach (e :: es) X.env)).any (·.1) || (backToKw pos (keywordEach kws X.env)).any (·.1.isNone)) = false := by rfl) : SI ct X E (.Call (.Name x p) (e :: es) kws pos) (iCallKn n l G L L2) :=
  ⟨(pe_callK F.ok hr hg F.m F.fu.kp (kb_of F.fu ks n l h0 hb) pass0 ha.pa hkw.pk hall hks hdb he hpl).imp fun σ H Q ⟨m, env, st, re, rs, fin⟩ => ⟨m, env, st, re, rs, fin.bind.imp fun m1 H1 ds st1 g1 rs1 q vs rv =>
    ⟨m1, env, st1, re.mono g1, rs1, q.bind.imp fun m2 H2 es st2 g2 rs2 q2 zs rz => by
      split at q2
      · rename_i hz
        exact ⟨m2, ds ++ es, st2, by rw [List.length_append, hz.1, hz.2, hnl], gK_rel hz (rv.mono g2) rz, rs2, q2.strictE⟩
      · exact q2.elim⟩⟩⟩
/-- f(k = v, ..) -/
theorem si_knK0 (F : Kn ct X.prog X.w X.K X.mg X.base x st ps k G f fd) (hr : Room k X.A) (l : Nat) (hnl : l = ps.length) (h0 : 0 < ps.length)
    (hb : ∀ (kV doc pm : Value) (an : Option Addr) (cdv ct : Value) (us ws : List Value), us.length = 0 → ws.length = l → bindArgs (PySem.W.fnOf x x (defArgs st) (defBody st) (defScope st) .none kV doc pm an cdv ct) ⟨us, ks.zip ws⟩ = pure (ps.zip (us ++ ws)))
    (hkw : SK ct X E kws L2) (hg : Gl X x := by rfl)
    (hall : (backToKw pos (keywordEach kws X.env)).all (·.1.isSome) = true := by rfl) (hks : (backToKw pos (keywordEach kws X.env)).filterMap (·.1) = ks := by rfl)
    (hdb : (x == ("__debug__" : Str)) = false := by decide)
    (hpl : ((backTo pos (starEach [] X.env)).any (·.1) || (backToKw pos (keywordEach kws X.env)).any (·.1.isNone)) = false := by rfl) : SI ct X E (.Call (.Name x p) [] kws pos) (iCallKn 0 l G iNil L2) :=
  ⟨(pe_callK0 F.ok hr hg F.m F.fu.kp (kb_of F.fu ks 0 l h0 hb) hkw.pk hall hks hdb hpl).imp fun σ H Q ⟨m, env, st, re, rs, fin⟩ => by
    refine ⟨m, env, st, re, rs, Fin.imp (Fin.bind (show Fin (gx ct X) E m H ((L2 env st).bind _) (EndE (gx ct X) Q) from fin)) fun m2 H2 es st2 g2 rs2 q2 zs rz => ?_⟩
    split at q2
    · rename_i hz
      exact ⟨m2, es, st2, by rw [hz.2, hnl], gK_rel hz .nil rz, rs2, q2.strictE⟩
    · exact q2.elim⟩
/-! list(range(n)) -/
def iListRange (A : IE) : IL := fun env st => (A env st).bind fun d st1 => match d with
  | .int n => if n ≤ 16777216 ∧ 0 ≤ n then .ok ((List.range n.toNat).map fun i => .int (i : Nat)) st1 else .bad
  | _ => .bad
theorem sf_listRange {A : IE} {p2 : Pos} {pos2 : Pos} (hc : X.calm = true) (hg : Gl X "list") (hm : X.mg "list" = none) (hg2 : Gl X "range") (hm2 : X.mg "range" = none) (ha : SI ct X E a A) (na : starEach [a] X.env = (false, eval a X.env) :: starEach [] X.env := by rfl)
    (nb : starEach [.Call (.Name "range" p2) [a] [] pos2] X.env = (false, eval (.Call (.Name "range" p2) [a] [] pos2) X.env) :: starEach [] X.env := by rfl) : SF ct X E (.Call (.Name "list" p) [.Call (.Name "range" p2) [a] [] pos2] [] pos) (iListRange A) :=
  ⟨(pe_listRg hc hg hm (prg_1 hg2 hm2 ha.pe na) nb).imp fun σ H Q ⟨m, env, st, re, rs, fin⟩ => ⟨m, env, st, re, rs, fin.bind.imp fun m1 H1 d st1 g1 rs1 q x rx => by
    split at q
    · rename_i n
      split at q
      · rename_i hz
        cases rx
        have rv : RVs X.K m1 H1 ((List.range n.toNat).map fun i => D.int (i : Nat)) (rgV 0 n) := by
          unfold rgV
          rw [show n - 0 = n by omega]
          have : ∀ l : List Nat, RVs X.K m1 H1 (l.map fun i => D.int (i : Nat)) (l.map fun i => V.int (0 + (i : Nat))) := by
            intro l
            induction l with
            | nil => exact .nil
            | cons i l ih => exact .cons (by show RV X.K m1 H1 (D.int (i : Nat)) (V.int (0 + (i : Nat))); rw [Int.zero_add]; exact .int _) ih
          exact this _
        exact ⟨n, rfl, ⟨by omega, by omega, by omega, by omega, by omega⟩, q.here rs1 _ rv⟩
      · exact q.elim
    · exact q.elim⟩⟩
end
end QI

/-! equations for evaluation -/
namespace QI
open PySem PySem.Spec PyProof.Rows L2
section
variable {env : Ev} {st : Sto} {A B C : IE} {L L' : IL} {T U : IT} {S R : IS}
@[simp] theorem ev_var (i : Nat) : iVar i env st = match env[i]? with | some (some d) => .ok d st | _ => .bad := rfl
@[simp] theorem ev_C (d : D) : iC d env st = .ok d st := rfl
@[simp] theorem ev_bin (f : D → D → Sto → Rs D) : iBin f A B env st = (A env st).bind fun d st1 => (B env st1).bind fun e st2 => f d e st2 := rfl
@[simp] theorem ev_un (f : D → Sto → Rs D) : iUn f A env st = (A env st).bind f := rfl
@[simp] theorem ev_test : iTest A env st = (A env st).bind toB := rfl
@[simp] theorem ev_chain (f f' : D → D → Sto → Rs D) : iChain f f' A B C env st = (A env st).bind fun d st1 => (B env st1).bind fun e st2 => (f d e st2).bind fun k st3 => match k with
  | .bl true => (C env st3).bind fun c st4 => f' e c st4
  | .bl false => .ok (.bl false) st3
  | _ => .bad := rfl
@[simp] theorem ev_tru : iTru A env st = (A env st).bind fun d st1 => fT (gTru st1 d) st1 := rfl
@[simp] theorem ev_and : iAnd T U env st = (T env st).bind fun b st1 => if b = true then U env st1 else .ok false st1 := rfl
@[simp] theorem ev_or : iOr T U env st = (T env st).bind fun b st1 => if b = true then .ok true st1 else U env st1 := rfl
@[simp] theorem ev_not : iNot T env st = (T env st).bind fun b st1 => .ok (!b) st1 := rfl
@[simp] theorem ev_if : iIf T A B env st = (T env st).bind fun b st1 => if b = true then A env st1 else B env st1 := rfl
@[simp] theorem ev_andV : iAndV A B env st = (A env st).bind fun d st1 => match gTru st1 d with
  | some true => B env st1
  | some false => .ok d st1
  | none => .bad := rfl
@[simp] theorem ev_orV : iOrV A B env st = (A env st).bind fun d st1 => match gTru st1 d with
  | some true => .ok d st1
  | some false => B env st1
  | none => .bad := rfl
@[simp] theorem ev_notV : iNotV A env st = (A env st).bind fun d st1 => fB ((gTru st1 d).map (!·)) st1 := rfl
@[simp] theorem ev_nil : iNil env st = .ok [] st := rfl
@[simp] theorem ev_cons : iCons A L env st = (A env st).bind fun d st1 => (L env st1).bind fun ds st2 => .ok (d :: ds) st2 := rfl
@[simp] theorem ev_rol : iRol L env st = (L env st).bind fun ds st1 => .ok (.rol ds) st1 := rfl
@[simp] theorem ev_cell : iCell L env st = (L env st).bind fun ds st1 => .ok (.ref st1.length) (st1 ++ [.lst ds]) := rfl
@[simp] theorem ev_tup : iTup L env st = (L env st).bind fun ds st1 => if ds.length ≤ 16777216 then .ok (.tup ds) st1 else .bad := rfl
@[simp] theorem ev_lst : iLst L env st = (L env st).bind fun ds st1 => if ds.length ≤ 16777216 then .ok ds st1 else .bad := rfl
@[simp] theorem ev_binL (f : D → D → Sto → Rs D) : iBinL f A B env st = (A env st).bind fun d st1 => (B env st1).bind fun e st2 => fLst f d e st2 := rfl
@[simp] theorem ev_oNone : oNone env st = .ok none st := rfl
@[simp] theorem ev_oSome : oSome A env st = (A env st).bind fun d st1 => match d with
  | .int i => .ok (some i) st1
  | _ => .bad := rfl
@[simp] theorem ev_sl (lo hi : IO) : iSl A lo hi env st = (A env st).bind fun d st1 => (lo env st1).bind fun l st2 => (hi env st2).bind fun h st3 => gSl d l h st3 := rfl
@[simp] theorem ev_callB (f : List D → Sto → Rs D) : iCallB f L env st = (L env st).bind f := rfl
@[simp] theorem ev_listOf : iListOf L env st = (L env st).bind fun ds st1 => match ds with
  | [d] => match seqAt st1 d with
    | some xs => .ok xs st1
    | none => .bad
  | _ => .bad := rfl
@[simp] theorem ev_listRange : iListRange A env st = (A env st).bind fun d st1 => match d with
  | .int n => if n ≤ 16777216 ∧ 0 ≤ n then .ok ((List.range n.toNat).map fun i => .int (i : Nat)) st1 else .bad
  | _ => .bad := rfl
@[simp] theorem ev_meth (f : D → List D → Sto → Rs D) : iMeth f A L env st = (A env st).bind fun d st1 => if isLst st1 d = true then (L env st1).bind fun ds st2 => f d ds st2 else .bad := rfl
@[simp] theorem ev_call (n : Nat) (G : List D → Sto → Rs D) (dds : List D) : iCall n G dds L env st = (L env st).bind fun ds st1 => if ds.length = n then (G (ds ++ dds) st1).strict else .bad := rfl
@[simp] theorem ev_callKn (n l : Nat) (G : List D → Sto → Rs D) : iCallKn n l G L L' env st = (L env st).bind fun ds st1 => (L' env st1).bind fun es st2 => if ds.length = n ∧ es.length = l then (G (ds ++ es) st2).strict else .bad := rfl
@[simp] theorem ev_comp (fin : List D → Sto → Rs D) (n : Nat) (W : IW) (p : Pt) (vs : List Nat) : iComp fin n W p T A vs env st = (W env st).bind fun wk st1 => compGo wk p T A vs env fin n 0 [] st1 := rfl
@[simp] theorem ev_yes : iYes env st = .ok true st := rfl
@[simp] theorem ev_walk : iWalk A env st = (A env st).bind fun d st1 => fW (seqWk st1 d) st1 := rfl
@[simp] theorem ev_walkC (f : List D → Sto → Rs Wk) : iWalkC f L env st = (L env st).bind f := rfl
@[simp] theorem ev_sNil : sNil env st = .ok (.nx env) st := rfl
@[simp] theorem ev_sSeq : sSeq S R env st = (S env st).bind fun fl st1 => match fl with
  | .nx env1 => R env1 st1
  | fl => .ok fl st1 := rfl
@[simp] theorem ev_sBreak : sBreak env st = .ok (.bk env) st := rfl
@[simp] theorem ev_sCont : sCont env st = .ok (.ct env) st := rfl
@[simp] theorem ev_sRet : sRet A env st = (A env st).bind fun d st1 => .ok (.rt d) st1 := rfl
@[simp] theorem ev_sRetN : sRetN env st = .ok (.rt .non) st := rfl
@[simp] theorem ev_sDrop : sDrop A env st = (A env st).bind fun _ st1 => .ok (.nx env) st1 := rfl
@[simp] theorem ev_sIf : sIf T S R env st = (T env st).bind fun b st1 => if b = true then S env st1 else R env st1 := rfl
@[simp] theorem ev_sSet (i : Nat) : sSet i A env st = (A env st).bind fun d st1 => .ok (.nx (env.set i (some d))) st1 := rfl
@[simp] theorem ev_sPar (is : List Nat) : sPar is L env st = (L env st).bind fun ds st1 => if ds.length = is.length then .ok (.nx ((is.zip ds).foldl (fun e p => e.set p.1 (some p.2)) env)) st1 else .bad := rfl
@[simp] theorem ev_sAsg (p : Pt) : sAsg p A env st = (A env st).bind fun d st1 => match p.put d env with
  | some env1 => .ok (.nx env1) st1
  | none => .bad := rfl
@[simp] theorem ev_sWhile (n : Nat) : sWhile n T S env st = whileGo T S n env st := rfl
@[simp] theorem ev_sFor (n : Nat) (W : IW) (p : Pt) : sFor n W p S env st = (W env st).bind fun wk st1 => forGo wk p S n 0 env st1 := rfl
@[simp] theorem ev_sSetIx : sSetIx A B C env st = (C env st).bind fun v st1 => (A env st1).bind fun o st2 => (B env st2).bind fun i st3 => (gSetIx o i v st3).bind fun _ st4 => .ok (.nx env) st4 := rfl
@[simp] theorem ev_sAug (i : Nat) (f : D → D → Sto → Rs D) : sAug i f A env st = match env[i]? with
  | some (some d) => (A env st).bind fun e st1 => (f d e st1).bind fun r st2 => .ok (.nx (env.set i (some r))) st2
  | _ => .bad := rfl
@[simp] theorem put_nm (i : Nat) (d : D) : (Pt.nm i).put d env = some (env.set i (some d)) := by simp only [Pt.put]
@[simp] theorem put_tp (ps : List Pt) (ds : List D) : (Pt.tp ps).put (.tup ds) env = Pt.puts ps ds env := by simp only [Pt.put]
@[simp] theorem puts_nil : Pt.puts [] [] env = some env := by simp only [Pt.puts]
@[simp] theorem puts_cons (p : Pt) (ps : List Pt) (d : D) (ds : List D) : Pt.puts (p :: ps) (d :: ds) env = match p.put d env with
  | some env' => Pt.puts ps ds env'
  | none => none := by cases h : p.put d env <;> simp only [Pt.puts, h]
end
/-! values -/
section
variable {st : Sto}
@[simp] theorem toB_bl (b : Bool) : toB (.bl b) st = .ok b st := rfl
@[simp] theorem fT_some (b : Bool) : fT (some b) st = .ok b st := rfl
@[simp] theorem fB_some (b : Bool) : fB (some b) st = .ok (.bl b) st := rfl
@[simp] theorem fW_some (w : Wk) : fW (some w) st = .ok w st := rfl
@[simp] theorem gAdd_int (i j : Int) : gAdd (.int i) (.int j) st = .ok (.int (i + j)) st := rfl
@[simp] theorem gAdd_tup (xs ys : List D) : gAdd (.tup xs) (.tup ys) st = if xs.length + ys.length ≤ 16777216 then .ok (.tup (xs ++ ys)) st else .bad := rfl
@[simp] theorem gAdd_rol (xs ys : List D) : gAdd (.rol xs) (.rol ys) st = if xs.length + ys.length ≤ 16777216 then .ok (.rol (xs ++ ys)) st else .bad := rfl
@[simp] theorem gSub_int (i j : Int) : gSub (.int i) (.int j) st = .ok (.int (i - j)) st := rfl
@[simp] theorem gMul_int (i j : Int) : gMul (.int i) (.int j) st = if i.natAbs < 2 ^ 64 ∨ j.natAbs < 2 ^ 64 then .ok (.int (i * j)) st else .bad := rfl
@[simp] theorem gFdiv_int (i j : Int) : gFdiv (.int i) (.int j) st = if 0 < j ∧ j.natAbs.log2 < 9000 then .ok (.int (i / j)) st else .bad := rfl
@[simp] theorem gMod_int (i j : Int) : gMod (.int i) (.int j) st = if 0 < j then .ok (.int (i % j)) st else .bad := rfl
@[simp] theorem gPow_int (i j : Int) : gPow (.int i) (.int j) st = if 0 ≤ j ∧ j ≤ 1000000 ∧ i.natAbs < 2 ^ 64 then .ok (.int (i ^ j.toNat)) st else .bad := rfl
@[simp] theorem gXor_int (i j : Int) : gXor (.int i) (.int j) st = .ok (.int (Builtin.bitXor i j)) st := rfl
@[simp] theorem gAnd_int (i j : Int) : gAnd (.int i) (.int j) st = .ok (.int (Builtin.bitAnd i j)) st := rfl
@[simp] theorem gNeg_int (i : Int) : gNeg (.int i) st = .ok (.int (-i)) st := rfl
@[simp] theorem gLt_int (i j : Int) : gLt (.int i) (.int j) st = .ok (.bl (decide (i < j))) st := rfl
@[simp] theorem gLe_int (i j : Int) : gLe (.int i) (.int j) st = .ok (.bl (decide (i ≤ j))) st := rfl
@[simp] theorem gGt_int (i j : Int) : gGt (.int i) (.int j) st = .ok (.bl (decide (j < i))) st := rfl
@[simp] theorem gGe_int (i j : Int) : gGe (.int i) (.int j) st = .ok (.bl (decide (j ≤ i))) st := rfl
@[simp] theorem gEqE_int (i j : Int) : gEqE (.int i) (.int j) st = .ok (.bl (decide (i = j))) st := rfl
@[simp] theorem gEqE_str (i j : Str) : gEqE (.str i) (.str j) st = .ok (.bl (decide (i = j))) st := rfl
@[simp] theorem gEqE_bl (i j : Bool) : gEqE (.bl i) (.bl j) st = .ok (.bl (decide (i = j))) st := rfl
@[simp] theorem gNeE_int (i j : Int) : gNeE (.int i) (.int j) st = .ok (.bl (!decide (i = j))) st := rfl
@[simp] theorem gNeE_str (i j : Str) : gNeE (.str i) (.str j) st = .ok (.bl (!decide (i = j))) st := rfl
@[simp] theorem gIsB_non (d : D) : gIsB d .non st = .ok (.bl d.isNon) st := by cases d <;> rfl
@[simp] theorem gIsB_bl (a b : Bool) : gIsB (.bl a) (.bl b) st = .ok (.bl (decide (a = b))) st := rfl
@[simp] theorem gIsB_int (a : Int) (b : Bool) : gIsB (.int a) (.bl b) st = .ok (.bl false) st := rfl
@[simp] theorem gIsB_str (a : Str) (b : Bool) : gIsB (.str a) (.bl b) st = .ok (.bl false) st := rfl
@[simp] theorem gIsB_tup (a : List D) (b : Bool) : gIsB (.tup a) (.bl b) st = .ok (.bl false) st := rfl
@[simp] theorem gIsB_nonb (b : Bool) : gIsB .non (.bl b) st = .ok (.bl false) st := rfl
@[simp] theorem gIsNot_non (d : D) : gIsNot d .non st = .ok (.bl (!d.isNon)) st := rfl
@[simp] theorem isNon_non : D.isNon .non = true := rfl
@[simp] theorem isNon_int (i : Int) : D.isNon (.int i) = false := rfl
@[simp] theorem isNon_bl (i : Bool) : D.isNon (.bl i) = false := rfl
@[simp] theorem isNon_str (i : Str) : D.isNon (.str i) = false := rfl
@[simp] theorem isNon_tup (i : List D) : D.isNon (.tup i) = false := rfl
@[simp] theorem gIsi_int (T : String) (i : Int) : gIsi T (.int i) st = .ok (.bl (isK "int" T)) st := rfl
@[simp] theorem gIsi_bl (T : String) (i : Bool) : gIsi T (.bl i) st = .ok (.bl (isK "bool" T)) st := rfl
@[simp] theorem gIsi_str (T : String) (i : Str) : gIsi T (.str i) st = .ok (.bl (isK "str" T)) st := rfl
@[simp] theorem gIsi_non (T : String) : gIsi T .non st = .ok (.bl (isK "NoneType" T)) st := rfl
@[simp] theorem gIsi_tup (T : String) (i : List D) : gIsi T (.tup i) st = .ok (.bl (isK "tuple" T)) st := rfl
@[simp] theorem gTru_bl (b : Bool) : gTru st (.bl b) = some b := rfl
@[simp] theorem gTru_int (i : Int) : gTru st (.int i) = some (i != 0) := rfl
@[simp] theorem gTru_non : gTru st .non = some false := rfl
@[simp] theorem seqAt_tup (xs : List D) : seqAt st (.tup xs) = some xs := rfl
@[simp] theorem seqAt_rol (xs : List D) : seqAt st (.rol xs) = some xs := rfl
@[simp] theorem seqAt_scr (xs : List D) : seqAt st (.scr xs) = some xs := rfl
theorem seqAt_ref {n : Nat} {xs : List D} (h : st[n]? = some (.lst xs)) : seqAt st (.ref n) = some xs := by simp only [seqAt, h]
theorem listAt_ref {n : Nat} {xs : List D} (h : st[n]? = some (.lst xs)) : listAt st (.ref n) = some xs := by simp only [listAt, h]
@[simp] theorem listAt_rol (xs : List D) : listAt st (.rol xs) = some xs := rfl
theorem isLst_ref {n : Nat} {xs : List D} (h : st[n]? = some (.lst xs)) : isLst st (.ref n) = true := by simp only [isLst, h]
@[simp] theorem gLen_tup (xs : List D) : gLen [.tup xs] st = .ok (.int xs.length) st := rfl
@[simp] theorem gLen_rol (xs : List D) : gLen [.rol xs] st = .ok (.int xs.length) st := rfl
@[simp] theorem gLen_scr (xs : List D) : gLen [.scr xs] st = .ok (.int xs.length) st := rfl
theorem gLen_ref {n : Nat} {xs : List D} (h : st[n]? = some (.lst xs)) : gLen [.ref n] st = .ok (.int xs.length) st := by
  simp only [gLen, seqAt_ref h]
@[simp] theorem gTuple_tup (xs : List D) : gTuple [.tup xs] st = .ok (.tup xs) st := rfl
@[simp] theorem gTuple_rol (xs : List D) : gTuple [.rol xs] st = .ok (.tup xs) st := rfl
theorem gTuple_ref {n : Nat} {xs : List D} (h : st[n]? = some (.lst xs)) : gTuple [.ref n] st = .ok (.tup xs) st := by
  simp only [gTuple, seqAt_ref h]
@[simp] theorem gInt_int (i : Int) : gInt [.int i] st = .ok (.int i) st := rfl
@[simp] theorem gAbs_int (i : Int) : gAbs [.int i] st = .ok (.int (if i < 0 then -i else i)) st := rfl
@[simp] theorem gMax_2 (i j : Int) : gMax [.int i, .int j] st = .ok (.int (if j > i then j else i)) st := rfl
@[simp] theorem gMin_2 (i j : Int) : gMin [.int i, .int j] st = .ok (.int (if j < i then j else i)) st := rfl
@[simp] theorem gSum_ints (ns : List Int) : gSum [.rol (ns.map D.int)] st = .ok (.int ns.sum) st := by simp [gSum]
theorem gIx_nat {d : D} {xs : List D} {i : Nat} {v : D} (h : seqAt st d = some xs) (hi : xs[i]? = some v) : gIx d (.int (i : Nat)) st = .ok v st := by
  unfold gIx
  cases d with
  | str z => cases h
  | _ => simp only [h, atI_nat hi]
@[simp] theorem gSl_tup (xs : List D) (lo hi : Option Int) : gSl (.tup xs) lo hi st = .ok (.tup (cut xs lo hi)) st := rfl
@[simp] theorem gSl_rol (xs : List D) (lo hi : Option Int) : gSl (.rol xs) lo hi st = .ok (.rol (cut xs lo hi)) st := rfl
theorem gSl_ref {n : Nat} {xs : List D} (h : st[n]? = some (.lst xs)) (lo hi : Option Int) : gSl (.ref n) lo hi st = .ok (.rol (cut xs lo hi)) st := by
  unfold gSl
  simp only [seqAt_ref h]
theorem cut_nat {α : Type} (xs : List α) (a b : Nat) : cut xs (some (a : Int)) (some (b : Int)) = (xs.drop (min a xs.length)).take (min b xs.length - min a xs.length) := by
  unfold cut
  rw [HT.sIx_nat, HT.sIx_nat]
theorem cut_seg {α : Type} (xs : List α) {a b : Nat} (hab : a ≤ b) (hb : b ≤ xs.length) : cut xs (some (a : Int)) (some (b : Int)) = (xs.drop a).take (b - a) := by
  rw [cut_nat, Nat.min_eq_left hb, Nat.min_eq_left (Nat.le_trans hab hb)]
theorem cut_to {α : Type} (xs : List α) (b : Nat) : cut xs none (some (b : Int)) = xs.take b := by
  unfold cut
  rw [HT.sIx_none, HT.sIx_nat, List.drop_zero, Nat.sub_zero]
  by_cases h : b ≤ xs.length
  · rw [Nat.min_eq_left h]
  · rw [Nat.min_eq_right (by omega), List.take_of_length_le (Nat.le_refl _), List.take_of_length_le (by omega)]
theorem cut_from {α : Type} (xs : List α) (a : Nat) : cut xs (some (a : Int)) none = xs.drop a := by
  unfold cut
  rw [HT.sIx_none, HT.sIx_nat]
  by_cases h : a ≤ xs.length
  · rw [Nat.min_eq_left h, List.take_of_length_le (by rw [List.length_drop]; omega)]
  · rw [Nat.min_eq_right (by omega), Nat.sub_self, List.drop_eq_nil_of_le (by omega : xs.length ≤ a)]
    simp
theorem gAppend_at {n : Nat} {xs : List D} {e : D} (h : st[n]? = some (.lst xs)) (hz : xs.length < 16777216) : gAppend (.ref n) [e] st = .ok .non (setL st n (xs ++ [e])) := by
  unfold gAppend
  simp only [h, if_pos hz]
theorem gSetIx_at {n : Nat} {xs : List D} {i : Nat} {e : D} (h : st[n]? = some (.lst xs)) (hi : i < xs.length) : gSetIx (.ref n) (.int (i : Nat)) e st = .ok () (setL st n (xs.set i e)) := by
  unfold gSetIx
  have : ixN xs.length (i : Int) = some i := by
    unfold ixN
    rw [if_pos (by omega), if_pos (by omega)]
    simp
  simp only [h, this]
end
/-! loops: the items that are walked -/
section
variable {wk : Wk} {p : Pt} {S : IS} {items : List D}
theorem for_inv (I : Nat → Ev → Sto → Prop) (hw : ∀ i env st, I i env st → wk i st = some items[i]?)
    (hs : ∀ (i : Nat) (d : D) (env : Ev) (st : Sto), items[i]? = some d → I i env st → ∃ env1, p.put d env = some env1 ∧ ∃ e2 st2, (S env1 st = .ok (.nx e2) st2 ∨ S env1 st = .ok (.ct e2) st2) ∧ I (i + 1) e2 st2) :
    ∀ (n i : Nat) (env : Ev) (st : Sto), i ≤ items.length → items.length < n + i → I i env st → ∃ e' st', forGo wk p S n i env st = .ok (.nx e') st' ∧ I items.length e' st'
  | 0, i, env, st, hi, hn, h => by omega
  | n + 1, i, env, st, hi, hn, h => by
    unfold forGo
    rw [hw i env st h]
    cases hd : items[i]? with
    | none =>
      have : items.length ≤ i := List.getElem?_eq_none_iff.mp hd
      have e : i = items.length := by omega
      subst e
      exact ⟨env, st, rfl, h⟩
    | some d =>
      obtain ⟨env1, h1, e2, st2, h2, h3⟩ := hs i d env st hd h
      simp only [h1]
      have hl : i < items.length := lt_of_get hd
      obtain ⟨e', st', h4, h5⟩ := for_inv I hw hs n (i + 1) e2 st2 hl (by omega) h3
      rcases h2 with h2 | h2 <;> (rw [h2]; exact ⟨e', st', h4, h5⟩)
/-- the same from the start, with the fuel that the ties have -/
theorem for_inv0 (I : Nat → Ev → Sto → Prop) (hw : ∀ i env st, I i env st → wk i st = some items[i]?)
    (hs : ∀ (i : Nat) (d : D) (env : Ev) (st : Sto), items[i]? = some d → I i env st → ∃ env1, p.put d env = some env1 ∧ ∃ e2 st2, (S env1 st = .ok (.nx e2) st2 ∨ S env1 st = .ok (.ct e2) st2) ∧ I (i + 1) e2 st2)
    {n : Nat} {env : Ev} {st : Sto} (hn : items.length < n) (h : I 0 env st) : ∃ e' st', forGo wk p S n 0 env st = .ok (.nx e') st' ∧ I items.length e' st' :=
  for_inv I hw hs n 0 env st (Nat.zero_le _) (by omega) h
theorem wkSeq_at (xs : List D) (i : Nat) (st : Sto) : wkSeq xs i st = some xs[i]? := rfl
theorem wkLive_at {n : Nat} {st : Sto} {xs : List D} (h : st[n]? = some (.lst xs)) (i : Nat) : wkLive n i st = some xs[i]? := by unfold wkLive; rw [h]
def rangeD (lo : Int) (n : Nat) : List D := (List.range n).map fun i => .int (lo + (i : Nat))
theorem wkRange_at (lo : Int) (n i : Nat) (st : Sto) : wkRange lo n i st = some (rangeD lo n)[i]? := by
  unfold wkRange rangeD
  by_cases h : i < n
  · rw [if_pos h]; simp [h]
  · rw [if_neg h]; simp [h]
@[simp] theorem rangeD_len (lo : Int) (n : Nat) : (rangeD lo n).length = n := by simp [rangeD]
theorem rangeD_get {lo : Int} {n i : Nat} {d : D} (h : (rangeD lo n)[i]? = some d) : i < n ∧ d = .int (lo + i) := by
  have hl := lt_of_get h
  rw [rangeD_len] at hl
  refine ⟨hl, ?_⟩
  simp only [rangeD, List.getElem?_map, List.getElem?_range hl, Option.map_some, Option.some.injEq] at h
  exact h.symm
def enumD (xs : List D) : List D := xs.mapIdx fun i d => .tup [.int (i : Nat), d]
theorem wkEnum_at {wk : Wk} {xs : List D} {st : Sto} {i : Nat} (h : wk i st = some xs[i]?) : wkEnum wk i st = some (enumD xs)[i]? := by
  unfold wkEnum enumD
  rw [h, List.getElem?_mapIdx]
  cases xs[i]? <;> rfl
@[simp] theorem enumD_len (xs : List D) : (enumD xs).length = xs.length := by simp [enumD]
theorem enumD_get {xs : List D} {i : Nat} {d : D} (h : (enumD xs)[i]? = some d) : ∃ e, xs[i]? = some e ∧ d = .tup [.int (i : Nat), e] := by
  unfold enumD at h
  rw [List.getElem?_mapIdx] at h
  cases q : xs[i]? with
  | none => rw [q] at h; cases h
  | some e => rw [q] at h; cases h; exact ⟨e, rfl, rfl⟩
def zipD (xs ys : List D) : List D := List.zipWith (fun a b => .tup [a, b]) xs ys
theorem wkZip_at {wk wk' : Wk} {xs ys : List D} {st : Sto} {i : Nat} (h : wk i st = some xs[i]?) (h' : wk' i st = some ys[i]?) : wkZip wk wk' i st = some (zipD xs ys)[i]? := by
  unfold wkZip zipD
  rw [h, h', List.getElem?_zipWith]
  cases xs[i]? <;> cases ys[i]? <;> rfl
@[simp] theorem zipD_len (xs ys : List D) : (zipD xs ys).length = min xs.length ys.length := by simp [zipD]
theorem zipD_get {xs ys : List D} {i : Nat} {d : D} (h : (zipD xs ys)[i]? = some d) : ∃ a b, xs[i]? = some a ∧ ys[i]? = some b ∧ d = .tup [a, b] := by
  unfold zipD at h
  rw [List.getElem?_zipWith] at h
  cases q : xs[i]? with
  | none => rw [q] at h; cases h
  | some a =>
    cases q' : ys[i]? with
    | none => rw [q, q'] at h; cases h
    | some b => rw [q, q'] at h; cases h; exact ⟨a, b, rfl, rfl, rfl⟩
/-- a comprehension -/
theorem comp_inv {T : IT} {A : IE} {vs : List Nat} {env : Ev} {fin : List D → Sto → Rs D} (I : Nat → List D → Sto → Prop) (hw : ∀ i acc st, I i acc st → wk i st = some items[i]?)
    (hs : ∀ (i : Nat) (d : D) (acc : List D) (st : Sto), items[i]? = some d → I i acc st → ∃ env1, p.put d (wipeE env vs) = some env1 ∧ ∃ b st1, T env1 st = .ok b st1 ∧
      ((b = false ∧ I (i + 1) acc st1) ∨ (b = true ∧ ∃ y st2, A env1 st1 = .ok y st2 ∧ I (i + 1) (acc ++ [y]) st2))) :
    ∀ (n i : Nat) (acc : List D) (st : Sto), i ≤ items.length → items.length < n + i → acc.length ≤ i → items.length < 16777216 → I i acc st → ∃ acc' st', compGo wk p T A vs env fin n i acc st = fin acc' st' ∧ I items.length acc' st'
  | 0, i, acc, st, hi, hn, _, _, h => by omega
  | n + 1, i, acc, st, hi, hn, ha, hz, h => by
    unfold compGo
    rw [hw i acc st h]
    cases hd : items[i]? with
    | none =>
      have : items.length ≤ i := List.getElem?_eq_none_iff.mp hd
      have e : i = items.length := by omega
      subst e
      exact ⟨acc, st, rfl, h⟩
    | some d =>
      obtain ⟨env1, h1, b, st1, h2, h3⟩ := hs i d acc st hd h
      have hl : i < items.length := lt_of_get hd
      simp only [h1, h2, Rs.strict_ok, Rs.bind_ok]
      rcases h3 with ⟨rfl, h3⟩ | ⟨rfl, y, st2, h3, h4⟩
      · simp only [Bool.false_eq_true, if_false]
        exact comp_inv I hw hs n (i + 1) acc st1 hl (by omega) (by omega) hz h3
      · simp only [if_true, h3, Rs.strict_ok, Rs.bind_ok]
        rw [if_pos (by omega)]
        exact comp_inv I hw hs n (i + 1) (acc ++ [y]) st2 hl (by omega) (by rw [List.length_append]; simp; omega) hz h4
theorem comp_inv0 {T : IT} {A : IE} {vs : List Nat} {env : Ev} {fin : List D → Sto → Rs D} (I : Nat → List D → Sto → Prop) (hw : ∀ i acc st, I i acc st → wk i st = some items[i]?)
    (hs : ∀ (i : Nat) (d : D) (acc : List D) (st : Sto), items[i]? = some d → I i acc st → ∃ env1, p.put d (wipeE env vs) = some env1 ∧ ∃ b st1, T env1 st = .ok b st1 ∧
      ((b = false ∧ I (i + 1) acc st1) ∨ (b = true ∧ ∃ y st2, A env1 st1 = .ok y st2 ∧ I (i + 1) (acc ++ [y]) st2)))
    {n : Nat} {st : Sto} (hn : items.length < n) (hz : items.length < 16777216) (h : I 0 [] st) : ∃ acc' st', compGo wk p T A vs env fin n 0 [] st = fin acc' st' ∧ I items.length acc' st' :=
  comp_inv I hw hs n 0 [] st (Nat.zero_le _) (by omega) (Nat.zero_le _) hz h
/-- a comprehension that changes nothing: by a function of the item (none: left out) -/
theorem comp_pure {T : IT} {A : IE} {vs : List Nat} {env : Ev} {fin : List D → Sto → Rs D} {st : Sto} (f : D → Option D) (hw : ∀ i, wk i st = some items[i]?)
    (hs : ∀ d ∈ items, ∃ env1, p.put d (wipeE env vs) = some env1 ∧ ((f d = none ∧ T env1 st = .ok false st) ∨ ∃ y, f d = some y ∧ T env1 st = .ok true st ∧ A env1 st = .ok y st))
    {n : Nat} (hn : items.length < n) (hz : items.length < 16777216) : compGo wk p T A vs env fin n 0 [] st = fin (items.filterMap f) st := by
  obtain ⟨acc', st', h1, h2, h3⟩ := comp_inv0 (wk := wk) (p := p) (T := T) (A := A) (vs := vs) (env := env) (fin := fin) (items := items) (fun i acc s => s = st ∧ acc = (items.take i).filterMap f) (fun i acc s h => by rw [h.1]; exact hw i)
    (fun i d acc s hd h => by
      obtain ⟨rfl, rfl⟩ := h
      obtain ⟨env1, h1, h2⟩ := hs d (List.mem_of_getElem? hd)
      refine ⟨env1, h1, ?_⟩
      rcases h2 with ⟨h2, h3⟩ | ⟨y, h2, h3, h4⟩
      · exact ⟨false, s, h3, .inl ⟨rfl, rfl, by rw [List.take_add_one, hd]; simp [List.filterMap_append, h2]⟩⟩
      · exact ⟨true, s, h3, .inr ⟨rfl, y, s, h4, rfl, by rw [List.take_add_one, hd]; simp [List.filterMap_append, h2]⟩⟩) hn hz ⟨rfl, rfl⟩
  rw [h1, h2, h3, List.take_length]
end
/-! lists of numbers -/
def tn (ns : List Nat) : D := .tup (ns.map fun n => .int (n : Nat))
def nats? : List D → Option (List Nat)
  | [] => some []
  | .int i :: ds => if 0 ≤ i then match nats? ds with
    | some ns => some (i.toNat :: ns)
    | none => none
    else none
  | _ :: _ => none
@[simp] theorem nats_map : ∀ ns : List Nat, nats? (ns.map fun n => D.int (n : Nat)) = some ns
  | [] => rfl
  | n :: ns => by simp [nats?, nats_map ns]
theorem nats_of : ∀ {ds : List D} {ns : List Nat}, nats? ds = some ns → ds = ns.map fun n => D.int (n : Nat)
  | [], _, h => by cases h; rfl
  | .int i :: ds, ns, h => by
    simp only [nats?] at h
    split at h
    · rename_i hi
      split at h
      · rename_i ms hm
        cases h
        rw [nats_of hm, List.map_cons, Int.toNat_of_nonneg hi]
      · cases h
    · cases h
  | .non :: ds, ns, h => by simp [nats?] at h
  | .bl _ :: ds, ns, h => by simp [nats?] at h
  | .str _ :: ds, ns, h => by simp [nats?] at h
  | .tup _ :: ds, ns, h => by simp [nats?] at h
  | .rol _ :: ds, ns, h => by simp [nats?] at h
  | .scr _ :: ds, ns, h => by simp [nats?] at h
  | .ref _ :: ds, ns, h => by simp [nats?] at h
@[simp] theorem lo_int (n : Nat) (i : Int) : D.lo n (.int i) = true := by simp [D.lo]
@[simp] theorem lo_non (n : Nat) : D.lo n .non = true := by simp [D.lo]
@[simp] theorem lo_bl (n : Nat) (i : Bool) : D.lo n (.bl i) = true := by simp [D.lo]
@[simp] theorem lo_str (n : Nat) (i : Str) : D.lo n (.str i) = true := by simp [D.lo]
@[simp] theorem lo_tup (n : Nat) (xs : List D) : D.lo n (.tup xs) = D.loAll n xs := by simp [D.lo]
@[simp] theorem lo_rol (n : Nat) (xs : List D) : D.lo n (.rol xs) = D.loAll n xs := by simp [D.lo]
@[simp] theorem lo_scr (n : Nat) (xs : List D) : D.lo n (.scr xs) = D.loAll n xs := by simp [D.lo]
@[simp] theorem lo_ref (n k : Nat) : D.lo n (.ref k) = decide (k < n) := by simp [D.lo]
@[simp] theorem loAll_nil (n : Nat) : D.loAll n [] = true := by simp [D.loAll]
@[simp] theorem loAll_cons (n : Nat) (d : D) (ds : List D) : D.loAll n (d :: ds) = (D.lo n d && D.loAll n ds) := by simp [D.loAll]
@[simp] theorem loAll_append (n : Nat) (ds es : List D) : D.loAll n (ds ++ es) = (D.loAll n ds && D.loAll n es) := by
  induction ds with
  | nil => simp
  | cons d ds ih => simp [ih, Bool.and_assoc]
theorem loAll_iff {n : Nat} {ds : List D} : D.loAll n ds = true ↔ ∀ d ∈ ds, D.lo n d = true := by
  induction ds with
  | nil => simp
  | cons d ds ih => simp [ih]
@[simp] theorem loAll_nats (n : Nat) (ns : List Nat) : D.loAll n (ns.map fun k => D.int (k : Nat)) = true := by
  rw [loAll_iff]; intro d hd; obtain ⟨k, _, rfl⟩ := List.mem_map.mp hd; simp
@[simp] theorem loAll_ints (n : Nat) (ns : List Int) : D.loAll n (ns.map D.int) = true := by
  rw [loAll_iff]; intro d hd; obtain ⟨k, _, rfl⟩ := List.mem_map.mp hd; simp
/-! closed stores -/
theorem closed_set {st : Sto} {n : Nat} {c : Cell} (h : Closed st) (hc : c.lo st.length = true) : Closed (st.set n c) := fun d hd => by
  rw [List.length_set]
  rcases List.mem_or_eq_of_mem_set hd with h1 | rfl
  · exact h d h1
  · exact hc
theorem closed_setL {st : Sto} {n : Nat} {xs : List D} (h : Closed st) (hc : D.loAll st.length xs = true) : Closed (setL st n xs) := closed_set h hc
@[simp] theorem setL_len (st : Sto) (n : Nat) (xs : List D) : (setL st n xs).length = st.length := by simp [setL]
theorem setL_get {st : Sto} {n : Nat} {xs : List D} (h : n < st.length) : (setL st n xs)[n]? = some (.lst xs) := by simp [setL, h]
theorem setL_ne {st : Sto} {n k : Nat} {xs : List D} (h : n ≠ k) : (setL st n xs)[k]? = st[k]? := by simp [setL, List.getElem?_set_ne h]
@[simp] theorem setL_setL (st : Sto) (n : Nat) (xs ys : List D) : setL (setL st n xs) n ys = setL st n ys := by simp [setL]
end QI

/-! a call as the run of its body -/
namespace QI
open PySem PySem.Spec PyProof.Rows L2
open Classical in
/-- what a value comes to at the end of a body: its new cells go if nothing holds them -/
noncomputable def trim (st0 : Sto) (d : D) (st' : Sto) : Rs D :=
  if st0.length ≤ st'.length ∧ d.lo st0.length = true ∧ Closed (st'.take st0.length) then .ok d (st'.take st0.length)
  else if st0.length ≤ st'.length ∧ d.lo st'.length = true ∧ Closed st' then .ok d st' else .bad
noncomputable def run (N : List Str) (B : IS) (ds : List D) (st0 : Sto) : Rs D := match B (startE N ds) st0 with
  | .ok (.rt d) st' => trim st0 d st'
  | .ok (.nx _) st' => trim st0 .non st'
  | _ => .bad
theorem trim_ref {st0 st' : Sto} {d : D} {r : Rs Fl} (h : r = .ok (.rt d) st' ∨ (∃ e, r = .ok (.nx e) st') ∧ d = .non) : (∀ e s', trim st0 d st' ≠ .exn e s') ∧ Ref st0 r (trim st0 d st') := by
  unfold trim
  split
  · rename_i hz
    refine ⟨fun e s' q => (nomatch q), ⟨d, st'.drop st0.length, 0, ?_, rfl, by rw [List.length_take, Nat.min_eq_left hz.1]; exact hz.2.1, hz.2.2, by rw [List.length_take, Nat.min_eq_left hz.1]; exact Nat.le_refl _⟩⟩
    rw [List.take_append_drop]
    rcases h with h | ⟨⟨e, h⟩, rfl⟩
    · exact .inl h
    · exact .inr ⟨e, h, rfl⟩
  · split
    · rename_i hz
      refine ⟨fun e s' q => (nomatch q), ⟨d, [], 0, ?_, rfl, hz.2.1, hz.2.2, hz.1⟩⟩
      rw [List.append_nil]
      rcases h with h | ⟨⟨e, h⟩, rfl⟩
      · exact .inl h
      · exact .inr ⟨e, h, rfl⟩
    · exact And.intro (fun e s' q => nomatch q) trivial
theorem run_ref {N : List Str} {B : IS} {ds : List D} {s : Sto} : (∀ e s', run N B ds s ≠ .exn e s') ∧ Ref s (B (startE N ds) s) (run N B ds s) := by
  unfold run
  cases h : B (startE N ds) s with
  | ok fl st' =>
    cases fl with
    | rt d => exact trim_ref (.inl rfl)
    | nx e => exact trim_ref (.inr ⟨⟨e, rfl⟩, rfl⟩)
    | bk e => exact And.intro (fun e s' q => nomatch q) trivial
    | ct e => exact And.intro (fun e s' q => nomatch q) trivial
  | exn e s' => exact And.intro (fun e s' q => nomatch q) trivial
  | bad => exact And.intro (fun e s' q => nomatch q) trivial
mutual
theorem D.lo_mono {n k : Nat} (h : n ≤ k) : ∀ {d : D}, d.lo n = true → d.lo k = true
  | .non, _ => by simp
  | .bl _, _ => by simp
  | .int _, _ => by simp
  | .str _, _ => by simp
  | .tup ds, b => by simp only [lo_tup] at b ⊢; exact D.loAll_mono h b
  | .rol ds, b => by simp only [lo_rol] at b ⊢; exact D.loAll_mono h b
  | .scr ds, b => by simp only [lo_scr] at b ⊢; exact D.loAll_mono h b
  | .ref i, b => by simp only [lo_ref, decide_eq_true_eq] at b ⊢; omega
theorem D.loAll_mono {n k : Nat} (h : n ≤ k) : ∀ {ds : List D}, D.loAll n ds = true → D.loAll k ds = true
  | [], _ => by simp
  | d :: ds, b => by
    simp only [loAll_cons, Bool.and_eq_true] at b ⊢
    exact ⟨D.lo_mono h b.1, D.loAll_mono h b.2⟩
end
theorem Cell.lo_mono {n k : Nat} (h : n ≤ k) {c : Cell} (hc : c.lo n = true) : c.lo k = true := by
  cases c with
  | lst xs => exact D.loAll_mono h hc
  | ins a fs =>
    simp only [Cell.lo, List.all_eq_true] at hc ⊢
    exact fun p hp => D.lo_mono h (hc p hp)
section
variable {ct : String → Addr} {P : Program} {w : World} {K : PySem.W.Frag} {mg : Str → Option Value} {base : Heap} {x : Str} {st : Stmt} {f : Addr} {fd : FuncData} {N ps : List Str} {k : Nat} {B : IS} {G : List D → Sto → Rs D}
theorem kn_of (m : mg x = some (.ref f)) (F : Fun K x x st f fd) (S : FnScope N ps (defScope st)) (hG : G = run N B)
    (hB : ∀ (f : Addr) (cdv : Value) (A : Around) (outer : List Env) (s : Shared) (H : Hp) (E : XK), Room k (A.deeper (envOfC x (defScope st) s.heap.objs.size f cdv)) → SSs ct (bodyX P w K mg base N x st f cdv A outer s H E) noE (defBody st) B) : Kn ct P w K mg base x st ps (k + 1) G f fd :=
  ⟨m, F, def_ok F S (fun cdv A outer s H E hr => hB f cdv A outer s H E hr) (fun ds s _ _ _ => by rw [hG]; exact run_ref)⟩
/-- nothing is known of it -/
theorem kn_bad (m : mg x = some (.ref f)) (F : Fun K x x st f fd) (S : FnScope N ps (defScope st)) : Kn ct P w K mg base x st ps k (fun _ _ => .bad) f fd := by
  exact ⟨m, F, ⟨fun vs H Q E h => (by obtain ⟨m, ds, st', h1, h2, _⟩ := h; rw [← h2.length]; exact h1), fun A outer s H args us vs Q E _ _ _ _ hs => (by obtain ⟨m, ds, st', h1, h2, h3, fin⟩ := hs; exact (show False from fin).elim)⟩⟩
theorem Kn.up {j : Nat} (h : Kn ct P w K mg base x st ps j G f fd) (hk : j ≤ k) : Kn ct P w K mg base x st ps k G f fd := ⟨h.m, h.fu, h.ok.mono hk⟩
end
/-- a run that leaves the store as it was -/
theorem run_pure {N : List Str} {B : IS} {ds : List D} {st : Sto} {d : D} (hc : Closed st) (hd : d.lo st.length = true) (h : B (startE N ds) st = .ok (.rt d) st) : run N B ds st = .ok d st := by
  unfold run
  rw [h]
  show trim st d st = _
  unfold trim
  rw [List.take_length, if_pos ⟨Nat.le_refl _, hd, hc⟩]
/-- a run that leaves new cells behind it -/
theorem run_more {N : List Str} {B : IS} {ds : List D} {st j : Sto} {d : D} (hc : Closed st) (hd : d.lo st.length = true) (h : B (startE N ds) st = .ok (.rt d) (st ++ j)) : run N B ds st = .ok d st := by
  unfold run
  rw [h]
  show trim st d (st ++ j) = _
  unfold trim
  rw [List.take_left, if_pos ⟨by simp, hd, hc⟩]
/-- a run that changes the store -/
theorem run_same {N : List Str} {B : IS} {ds : List D} {st st' : Sto} {d : D} (hl : st'.length = st.length) (hc : Closed st') (hd : d.lo st.length = true) (h : B (startE N ds) st = .ok (.rt d) st') : run N B ds st = .ok d st' := by
  unfold run
  rw [h]
  show trim st d st' = _
  unfold trim
  rw [← hl, List.take_length, if_pos ⟨Nat.le_refl _, by rw [hl]; exact hd, hc⟩]
/-- a run that gives a new cell -/
theorem run_cell {N : List Str} {B : IS} {ds : List D} {st : Sto} {xs : List D} (hc : Closed st) (hx : D.loAll (st.length + 1) xs = true) (h : B (startE N ds) st = .ok (.rt (.ref st.length)) (st ++ [.lst xs])) : run N B ds st = .ok (.ref st.length) (st ++ [.lst xs]) := by
  unfold run
  rw [h]
  show trim st _ _ = _
  unfold trim
  have hcl : Closed (st ++ [.lst xs]) := by
    intro c hm
    rcases List.mem_append.mp hm with h1 | h1
    · rw [List.length_append]
      exact Cell.lo_mono (by simp) (hc c h1)
    · rw [List.mem_singleton] at h1
      subst h1
      rw [List.length_append]
      exact hx
  rw [if_neg (by simp), if_pos ⟨by simp, by simp, hcl⟩]
end QI

/-! more for evaluation -/
namespace QI
open PySem PySem.Spec PyProof.Rows L2
/-- a comprehension that leaves out nothing and changes nothing -/
theorem comp_to {wk : Wk} {p : Pt} {items : List D} {T : IT} {A : IE} {vs : List Nat} {env : Ev} {fin : List D → Sto → Rs D} {st : Sto} (ys : List D) (hl : ys.length = items.length) (hw : ∀ i, wk i st = some items[i]?)
    (hs : ∀ (i : Nat) (d y : D), items[i]? = some d → ys[i]? = some y → ∃ env1, p.put d (wipeE env vs) = some env1 ∧ T env1 st = .ok true st ∧ A env1 st = .ok y st)
    {n : Nat} (hn : items.length < n) (hz : items.length < 16777216) : compGo wk p T A vs env fin n 0 [] st = fin ys st := by
  obtain ⟨acc', st', h1, h2, h3⟩ := comp_inv0 (wk := wk) (p := p) (T := T) (A := A) (vs := vs) (env := env) (fin := fin) (items := items) (fun i acc s => s = st ∧ acc = ys.take i) (fun i acc s h => by rw [h.1]; exact hw i)
    (fun i d acc s hd h => by
      obtain ⟨rfl, rfl⟩ := h
      have hi : i < ys.length := by rw [hl]; exact lt_of_get hd
      obtain ⟨env1, h1, h2, h3⟩ := hs i d ys[i] hd (List.getElem?_eq_getElem hi)
      exact ⟨env1, h1, true, s, h2, .inr ⟨rfl, ys[i], s, h3, rfl, by rw [List.take_add_one, List.getElem?_eq_getElem hi]; rfl⟩⟩) hn hz ⟨rfl, rfl⟩
  rw [h1, h2, h3, ← hl, List.take_length]
@[simp] theorem fRol_ok (ds : List D) (st : Sto) : fRol ds st = .ok (.rol ds) st := rfl
/-! a new cell at the end of the store -/
section
variable {st : Sto} {xs : List D}
@[simp] theorem get_end (c : Cell) : (st ++ [c])[st.length]? = some c := by simp
@[simp] theorem setL_end (ys : List D) : setL (st ++ [.lst xs]) st.length ys = st ++ [.lst ys] := by simp [setL]
@[simp] theorem seqAt_end : seqAt (st ++ [.lst xs]) (.ref st.length) = some xs := seqAt_ref (get_end _)
@[simp] theorem isLst_end : isLst (st ++ [.lst xs]) (.ref st.length) = true := isLst_ref (get_end _)
@[simp] theorem gLen_end : gLen [.ref st.length] (st ++ [.lst xs]) = .ok (.int xs.length) (st ++ [.lst xs]) := gLen_ref (get_end _)
@[simp] theorem gTuple_end : gTuple [.ref st.length] (st ++ [.lst xs]) = .ok (.tup xs) (st ++ [.lst xs]) := gTuple_ref (get_end _)
theorem closed_end (h : Closed st) (hx : D.loAll (st.length + 1) xs = true) : Closed (st ++ [.lst xs]) := by
  intro c hm
  rcases List.mem_append.mp hm with h1 | h1
  · rw [List.length_append]
    exact Cell.lo_mono (by simp) (h c h1)
  · rw [List.mem_singleton] at h1
    subst h1
    rw [List.length_append]
    exact hx
end
section
variable {st : Sto}
@[simp] theorem seqWk_tup (xs : List D) : seqWk st (.tup xs) = some (wkSeq xs) := rfl
@[simp] theorem seqWk_rol (xs : List D) : seqWk st (.rol xs) = some (wkSeq xs) := rfl
@[simp] theorem seqWk_scr (xs : List D) : seqWk st (.scr xs) = some (wkSeq xs) := rfl
@[simp] theorem seqWk2_tup (xs : List D) : seqWk2 st (.tup xs) = some (true, wkSeq xs) := rfl
@[simp] theorem seqWk2_rol (xs : List D) : seqWk2 st (.rol xs) = some (false, wkSeq xs) := rfl
@[simp] theorem seqWk2_scr (xs : List D) : seqWk2 st (.scr xs) = some (false, wkSeq xs) := rfl
theorem seqWk_ref {n : Nat} {xs : List D} (h : st[n]? = some (.lst xs)) : seqWk st (.ref n) = some (wkLive n) := by simp only [seqWk, h]
theorem seqWk2_ref {n : Nat} {xs : List D} (h : st[n]? = some (.lst xs)) : seqWk2 st (.ref n) = some (false, wkLive n) := by simp only [seqWk2, h]
theorem log2_9000 {n : Nat} (h : n < 18446744073709551616) : n.log2 < 9000 := by
  by_cases h0 : n = 0
  · subst h0; decide
  · rw [Nat.log2_lt h0]
    exact Nat.lt_of_lt_of_le (show n < 2 ^ 64 from h) (Nat.pow_le_pow_right (by omega) (by omega))
@[simp] theorem log2_lit {n : Nat} (hz : n < 18446744073709551616) : (n.log2 < 9000) = True := by simp [log2_9000 hz]
end
end QI

/-! == on rows of numbers -/
namespace QI
open PySem PySem.Spec PyProof.Rows L2
theorem pdPs_ints (is : List Int) : pdPs (is.map D.int) = some (is.map PyData.int) := by
  induction is with
  | nil => simp [pdPs]
  | cons i is ih => simp [pdPs, pdP, ih]
theorem shaped_tints (ns : List Int) : SeqAt.shaped (.tuple (ns.map PyData.int)) = true := by
  have h := PySem.W.shaped_ints ns
  simpa [SeqAt.shaped, PyData.canLay0, PyData.depth] using h
theorem eqv_tints (ns ms : List Int) : PyData.eqv (.tuple (ns.map PyData.int)) (.tuple (ms.map PyData.int)) = decide (ns = ms) := by
  rw [← SeqAt.same_eq_eqv _ _ (by simp only [SeqAt.noMix]; exact PySem.W.noMix_ints ns ms)]
  simp only [PySem.Spec.same]
  exact PySem.W.same_ints ns ms
theorem gEq_ints (st : Sto) (is js : List Int) : gEq st (.tup (is.map D.int)) (.tup (js.map D.int)) = some (decide (is = js)) := by
  unfold gEq
  simp only [pdS, pdP, pdPs_ints, shaped_tints, eqv_tints, and_self, if_true]
theorem seq_nx {S R : IS} {env e1 : Ev} {st st1 : Sto} (h : S env st = .ok (.nx e1) st1) : sSeq S R env st = R e1 st1 := by
  rw [ev_sSeq, h]; rfl
theorem seq_rt {S R : IS} {env : Ev} {st st1 : Sto} {d : D} (h : S env st = .ok (.rt d) st1) : sSeq S R env st = .ok (.rt d) st1 := by
  rw [ev_sSeq, h]; rfl
theorem if_t {T : IT} {S R : IS} {env : Ev} {st st1 : Sto} (h : T env st = .ok true st1) : sIf T S R env st = S env st1 := by
  rw [ev_sIf, h]; rfl
theorem if_f {T : IT} {S R : IS} {env : Ev} {st st1 : Sto} (h : T env st = .ok false st1) : sIf T S R env st = R env st1 := by
  rw [ev_sIf, h]; rfl
theorem comp_eq {fin : List D → Sto → Rs D} {n : Nat} {W : IW} {wk : Wk} {p : Pt} {T : IT} {A : IE} {vs : List Nat} {env : Ev} {st st1 : Sto} (h : W env st = .ok wk st1) : iComp fin n W p T A vs env st = compGo wk p T A vs env fin n 0 [] st1 := by
  rw [ev_comp, h]; rfl
theorem for_eq {n : Nat} {W : IW} {wk : Wk} {p : Pt} {S : IS} {env : Ev} {st st1 : Sto} (h : W env st = .ok wk st1) : sFor n W p S env st = forGo wk p S n 0 env st1 := by
  rw [ev_sFor, h]; rfl
theorem walkC_eq {f : List D → Sto → Rs Wk} {L : IL} {env : Ev} {st st1 st2 : Sto} {ds : List D} {wk : Wk} (h : L env st = .ok ds st1) (h2 : f ds st1 = .ok wk st2) : iWalkC f L env st = .ok wk st2 := by
  rw [ev_walkC, h]; exact h2
theorem fRange1_nat {st : Sto} {m : Nat} (h : m < 4611686018427387904) : fRange1 [.int (m : Nat)] st = .ok (wkRange 0 m) st := by
  unfold fRange1
  simp only
  rw [if_pos ⟨by omega, by omega⟩]
  rfl
end QI

/-! the law's promise -/
namespace QI
open PySem PySem.Spec PyProof.Rows L2
/-- of a script: true -/
def spL (n : Nat) (K : PySem.W.Frag) : Sp := fun vs H Q _ => ∃ (a : Addr) (ns : List Int), vs = [.ref a] ∧ RX K H a (ns.map V.int) ∧ ns.length ≤ n ∧ ∀ H', Q (.bl true) H'
theorem rvs_ints {K : PySem.W.Frag} {m : Mp} {H : Hp} : ∀ ns : List Int, RVs K m H (ns.map D.int) (ns.map V.int)
  | [] => .nil
  | n :: ns => .cons (.int n) (rvs_ints ns)
theorem law_imp {g : G0} {n : Nat} {G : List D → Sto → Rs D} (h : ∀ ns : List Int, ns.length ≤ n → G [.scr (ns.map D.int)] [] = .ok (.bl true) []) {vs : List V} {H : Hp} {Q : VK} {E : XK} (q : spL n g.K vs H Q E) : spI g 1 G vs H Q E := by
  obtain ⟨a, ns, rfl, hS, hn, hQ⟩ := q
  refine ⟨⟨[], []⟩, [.scr (ns.map D.int)], [], rfl, .cons (.scr hS (rvs_ints ns)) .nil, ⟨rfl, List.nodup_nil, fun a h => (by cases h), fun n a c h => (by cases h)⟩, ?_⟩
  rw [h ns hn]
  exact fun m' H' gr rs v rv => by cases rv; exact hQ H'
theorem law_sp {n : Nat} {K : PySem.W.Frag} {H : Hp} {a : Addr} {ns : List Int} (hn : ns.length ≤ n) (hO : Only H) (hS : SqL K H a (ns.map V.int)) : spL n K [.ref a] H (fun v _ => v = .bl true) fun _ _ _ => False := by
  refine ⟨a, ns, rfl, ?_, hn, fun _ => rfl⟩
  rcases hS with (h | ⟨o, h⟩) | h
  · rcases hO a with z | ⟨o, xs, z⟩
    · rw [z] at h; cases h
    · rw [z] at h; cases h
  · exact .inl ⟨o, h⟩
  · exact .inr h
theorem law_fn {ct : String → Addr} {P : Program} {w : World} {K : PySem.W.Frag} {mg : Str → Option Value} {base : Heap} {st : Stmt} {p : Str} {k n : Nat} {G : List D → Sto → Rs D} {f : Addr} {fd : FuncData} (h : Kn ct P w K mg base "law" st [p] k G f fd)
    (hG : ∀ ns : List Int, ns.length ≤ n → G [.scr (ns.map D.int)] [] = .ok (.bl true) []) : FnOk P w K mg base CX0 k f fd [p] (spL n K) := h.ok.imp fun _ _ _ _ q => law_imp (g := ⟨K, ct, P, w⟩) hG q
end QI

namespace QI
open PySem PySem.Spec PyProof.Rows L2
abbrev topS (i : Nat) : Stmt := PySem.Challenge.pw_whoevertakes_k59_frames_whole_cut_and_ch.main.body.getD i (.Pass ⟨0, 0, 0, 0⟩)
/-! xored -/
abbrev S_xored : Stmt := topS 4
abbrev N_xored : List Str := ["octets", "total", "octet"]
abbrev P_xored : List Str := ["octets"]
theorem sc_xored : FnScope N_xored P_xored (defScope S_xored) := ⟨rfl, rfl, rfl, by decide +kernel, rfl, by decide +kernel, by decide +kernel⟩
/-! weighed -/
abbrev S_weighed : Stmt := topS 5
abbrev N_weighed : List Str := ["octets", "place", "octet"]
abbrev P_weighed : List Str := ["octets"]
theorem sc_weighed : FnScope N_weighed P_weighed (defScope S_weighed) := ⟨rfl, rfl, rfl, by decide +kernel, rfl, by decide +kernel, by decide +kernel⟩
/-! head_of -/
abbrev S_head_of : Stmt := topS 6
abbrev N_head_of : List Str := ["kind", "long", "told"]
abbrev P_head_of : List Str := ["kind", "long"]
theorem sc_head_of : FnScope N_head_of P_head_of (defScope S_head_of) := ⟨rfl, rfl, rfl, by decide +kernel, rfl, by decide +kernel, by decide +kernel⟩
/-! foot_of -/
abbrev S_foot_of : Stmt := topS 7
abbrev N_foot_of : List Str := ["payload", "sums"]
abbrev P_foot_of : List Str := ["payload"]
theorem sc_foot_of : FnScope N_foot_of P_foot_of (defScope S_foot_of) := ⟨rfl, rfl, rfl, by decide +kernel, rfl, by decide +kernel, by decide +kernel⟩
/-! frame -/
abbrev S_frame : Stmt := topS 8
abbrev N_frame : List Str := ["kind", "payload"]
abbrev P_frame : List Str := ["kind", "payload"]
theorem sc_frame : FnScope N_frame P_frame (defScope S_frame) := ⟨rfl, rfl, rfl, by decide +kernel, rfl, by decide +kernel, by decide +kernel⟩
/-! frames_of -/
abbrev S_frames_of : Stmt := topS 9
abbrev N_frames_of : List Str := ["octets", "rows", "spot", "kind", "high", "low", "check", "long", "behind", "payload"]
abbrev P_frames_of : List Str := ["octets"]
theorem sc_frames_of : FnScope N_frames_of P_frames_of (defScope S_frames_of) := ⟨rfl, rfl, rfl, by decide +kernel, rfl, by decide +kernel, by decide +kernel⟩
/-! whole_octets -/
abbrev S_whole_octets : Stmt := topS 10
abbrev N_whole_octets : List Str := ["octets", "kind", "payload"]
abbrev P_whole_octets : List Str := ["octets"]
theorem sc_whole_octets : FnScope N_whole_octets P_whole_octets (defScope S_whole_octets) := ⟨rfl, rfl, rfl, by decide +kernel, rfl, by decide +kernel, by decide +kernel⟩
/-! _law_box -/
abbrev S_law_box : Stmt := topS 12
abbrev N_law_box : List Str := ["script", "k", "cell", "great"]
abbrev P_law_box : List Str := ["script", "k"]
theorem sc_law_box : FnScope N_law_box P_law_box (defScope S_law_box) := ⟨rfl, rfl, rfl, by decide +kernel, rfl, by decide +kernel, by decide +kernel⟩
/-! _law_take -/
abbrev S_law_take : Stmt := topS 13
abbrev N_law_take : List Str := ["box", "many", "digit", "raw"]
abbrev P_law_take : List Str := ["box", "many"]
theorem sc_law_take : FnScope N_law_take P_law_take (defScope S_law_take) := ⟨rfl, rfl, rfl, by decide +kernel, rfl, by decide +kernel, by decide +kernel⟩
/-! _law_pick -/
abbrev S_law_pick : Stmt := topS 14
abbrev N_law_pick : List Str := ["box", "some"]
abbrev P_law_pick : List Str := ["box", "some"]
theorem sc_law_pick : FnScope N_law_pick P_law_pick (defScope S_law_pick) := ⟨rfl, rfl, rfl, by decide +kernel, rfl, by decide +kernel, by decide +kernel⟩
/-! _law_same -/
abbrev S_law_same : Stmt := topS 15
abbrev N_law_same : List Str := ["told", "due", "one", "other"]
abbrev P_law_same : List Str := ["told", "due"]
theorem sc_law_same : FnScope N_law_same P_law_same (defScope S_law_same) := ⟨rfl, rfl, rfl, by decide +kernel, rfl, by decide +kernel, by decide +kernel⟩
/-! _law_frame -/
abbrev S_law_frame : Stmt := topS 16
abbrev N_law_frame : List Str := ["kind", "payload", "long", "first", "total", "place", "octet", "head"]
abbrev P_law_frame : List Str := ["kind", "payload"]
theorem sc_law_frame : FnScope N_law_frame P_law_frame (defScope S_law_frame) := ⟨rfl, rfl, rfl, by decide +kernel, rfl, by decide +kernel, by decide +kernel⟩
/-! _law_payload -/
abbrev S_law_payload : Stmt := topS 17
abbrev N_law_payload : List Str := ["box", "many", "turn"]
abbrev P_law_payload : List Str := ["box"]
theorem sc_law_payload : FnScope N_law_payload P_law_payload (defScope S_law_payload) := ⟨rfl, rfl, rfl, by decide +kernel, rfl, by decide +kernel, by decide +kernel⟩
/-! law -/
abbrev S_law : Stmt := topS 18
abbrev N_law : List Str := ["script", "k", "box", "turn", "rows", "octets", "ends", "kind", "payload", "cuts", "cut", "whole", "due", "spot", "bent", "start", "long", "at", "end"]
abbrev P_law : List Str := ["script"]
theorem sc_law : FnScope N_law P_law (defScope S_law) := ⟨rfl, rfl, rfl, by decide +kernel, rfl, by decide +kernel, by decide +kernel⟩
noncomputable section
def L_xored_1 : IS := sSet 1 (iBin gXor (iVar 1) (iVar 2))
def B_xored : IS := sSeq (sSet 1 (iC (.int 0))) (sSeq (sFor 16777215 (iWalk (iVar 0)) (.nm 2) (L_xored_1)) (sRet (iVar 1)))
def G_xored : List D → Sto → Rs D := run N_xored B_xored
def B_weighed : IS := sRet (iBin gMod (iCallB gSum (iCons (iComp fRol 16777215 (iWalkC fEnum (iCons (iVar 0) (iNil))) (.tp [.nm 1, .nm 2]) (iYes) (iBin gMul (iBin gAdd (iVar 1) (iC (.int 1))) (iVar 2)) [1, 2]) (iNil))) (iC (.int 65521)))
def G_weighed : List D → Sto → Rs D := run N_weighed B_weighed
def B_head_of : IS := sSeq (sSet 2 (iTup (iCons (iVar 0) (iCons (iBin gFdiv (iVar 1) (iC (.int 256))) (iCons (iBin gMod (iVar 1) (iC (.int 256))) (iNil)))))) (sRet (iBin gAdd (iVar 2) (iTup (iCons (iCall 1 G_xored [] (iCons (iVar 2) (iNil))) (iNil)))))
def G_head_of : List D → Sto → Rs D := run N_head_of B_head_of
def B_foot_of : IS := sSeq (sSet 1 (iCall 1 G_weighed [] (iCons (iVar 0) (iNil)))) (sRet (iTup (iCons (iCall 1 G_xored [] (iCons (iVar 0) (iNil))) (iCons (iBin gFdiv (iVar 1) (iC (.int 256))) (iCons (iBin gMod (iVar 1) (iC (.int 256))) (iNil))))))
def G_foot_of : List D → Sto → Rs D := run N_foot_of B_foot_of
def B_frame : IS := sRet (iBin gAdd (iBin gAdd (iCall 2 G_head_of [] (iCons (iVar 0) (iCons (iCallB gLen (iCons (iVar 1) (iNil))) (iNil)))) (iCallB gTuple (iCons (iVar 1) (iNil)))) (iCall 1 G_foot_of [] (iCons (iVar 1) (iNil))))
def G_frame : List D → Sto → Rs D := run N_frame B_frame
def T_frames_of_1 : IT := iTest (iBin gLt (iVar 2) (iCallB gLen (iCons (iVar 0) (iNil))))
def L_frames_of_1 : IS := sSeq (sIf (iTest (iBin gLt (iBin gSub (iCallB gLen (iCons (iVar 0) (iNil))) (iVar 2)) (iC (.int 4)))) (sRet (iTup (iCons (iCallB gTuple (iCons (iVar 1) (iNil))) (iCons (iTup (iCons (iC (.str (Str.ofString "torn"))) (iCons (iCallB gLen (iCons (iVar 1) (iNil))) (iNil)))) (iNil))))) (sNil)) (sSeq (sAsg (.tp [.nm 3, .nm 4, .nm 5, .nm 6]) (iSl (iVar 0) (oSome (iVar 2)) (oSome (iBin gAdd (iVar 2) (iC (.int 4)))))) (sSeq (sSet 7 (iBin gAdd (iBin gMul (iVar 4) (iC (.int 256))) (iVar 5))) (sSeq (sIf (iTest (iBin gNeE (iBin gIx (iCall 2 G_head_of [] (iCons (iVar 3) (iCons (iVar 7) (iNil)))) (iC (.int 3))) (iVar 6))) (sRet (iTup (iCons (iCallB gTuple (iCons (iVar 1) (iNil))) (iCons (iTup (iCons (iC (.str (Str.ofString "changed"))) (iCons (iCallB gLen (iCons (iVar 1) (iNil))) (iNil)))) (iNil))))) (sNil)) (sSeq (sSet 8 (iBin gAdd (iBin gAdd (iBin gAdd (iVar 2) (iC (.int 4))) (iVar 7)) (iC (.int 3)))) (sSeq (sIf (iTest (iBin gGt (iVar 8) (iCallB gLen (iCons (iVar 0) (iNil))))) (sRet (iTup (iCons (iCallB gTuple (iCons (iVar 1) (iNil))) (iCons (iTup (iCons (iC (.str (Str.ofString "torn"))) (iCons (iCallB gLen (iCons (iVar 1) (iNil))) (iNil)))) (iNil))))) (sNil)) (sSeq (sSet 9 (iSl (iVar 0) (oSome (iBin gAdd (iVar 2) (iC (.int 4)))) (oSome (iBin gAdd (iBin gAdd (iVar 2) (iC (.int 4))) (iVar 7))))) (sSeq (sIf (iTest (iBin gNeE (iCall 1 G_foot_of [] (iCons (iVar 9) (iNil))) (iSl (iVar 0) (oSome (iBin gSub (iVar 8) (iC (.int 3)))) (oSome (iVar 8))))) (sRet (iTup (iCons (iCallB gTuple (iCons (iVar 1) (iNil))) (iCons (iTup (iCons (iC (.str (Str.ofString "changed"))) (iCons (iCallB gLen (iCons (iVar 1) (iNil))) (iNil)))) (iNil))))) (sNil)) (sSeq (sDrop (iMeth gAppend (iVar 1) (iCons (iTup (iCons (iVar 3) (iCons (iVar 9) (iNil)))) (iNil)))) (sSet 2 (iVar 8))))))))))
def B_frames_of : IS := sSeq (sPar [1, 2, 0] (iCons (iCell (iLst (iNil))) (iCons (iC (.int 0)) (iCons (iCallB gTuple (iCons (iVar 0) (iNil))) (iNil))))) (sSeq (sWhile 16777215 (T_frames_of_1) (L_frames_of_1)) (sRet (iTup (iCons (iCallB gTuple (iCons (iVar 1) (iNil))) (iCons (iC .non) (iNil))))))
def G_frames_of : List D → Sto → Rs D := run N_frames_of B_frames_of
def B_whole_octets : IS := sRet (iCallB gSum (iCons (iComp fRol 16777215 (iWalk (iBin gIx (iCall 1 G_frames_of [] (iCons (iVar 0) (iNil))) (iC (.int 0)))) (.tp [.nm 1, .nm 2]) (iYes) (iBin gAdd (iBin gAdd (iC (.int 4)) (iCallB gLen (iCons (iVar 2) (iNil)))) (iC (.int 3))) [1, 2]) (iNil)))
def G_whole_octets : List D → Sto → Rs D := run N_whole_octets B_whole_octets
def B_law_box : IS := sSeq (sSet 2 (iBin gAdd (iBin gMul (iC (.int 28019)) (iVar 1)) (iC (.int 7703)))) (sSeq (sIf (iTest (iBin gLt (iVar 1) (iCallB gLen (iCons (iVar 0) (iNil))))) (sSet 2 (iCallB gAbs (iCons (iCallB gInt (iCons (iBin gIx (iVar 0) (iVar 1)) (iNil))) (iNil)))) (sIf (iTest (iBin gGt (iCallB gLen (iCons (iVar 0) (iNil))) (iC (.int 0)))) (sSet 2 (iBin gAdd (iVar 2) (iBin gMul (iBin gMod (iCallB gInt (iCons (iCallB gAbs (iCons (iCallB gInt (iCons (iBin gIx (iVar 0) (iBin gMod (iCallB gInt (iCons (iVar 1) (iNil))) (iCallB gLen (iCons (iVar 0) (iNil))))) (iNil))) (iNil))) (iNil))) (iC (.int 2147483563))) (iC (.int 97813))))) (sNil))) (sSeq (sSet 3 (iIf (iTest (iBin gGe (iVar 2) (iBin gPow (iC (.int 10)) (iC (.int 18))))) (iVar 2) (iC (.int 0)))) (sRet (iCell (iLst (iCons (iVar 3) (iCons (iBin gAdd (iBin gMod (iCallB gInt (iCons (iBin gAdd (iBin gMul (iBin gMod (iCallB gInt (iCons (iVar 2) (iNil))) (iC (.int 2147483563))) (iC (.int 54250003))) (iBin gMul (iC (.int 7703)) (iVar 1))) (iNil))) (iC (.int 2147483563))) (iC (.int 1))) (iNil))))))))
def G_law_box : List D → Sto → Rs D := run N_law_box B_law_box
def B_law_take : IS := sSeq (sIf (iTest (iBin gGt (iBin gIx (iVar 0) (iC (.int 0))) (iC (.int 0)))) (sSeq (sSet 2 (iBin gMod (iCallB gInt (iCons (iBin gIx (iVar 0) (iC (.int 0))) (iNil))) (iVar 1))) (sSeq (sSetIx (iVar 0) (iC (.int 0)) (iBin gFdiv (iBin gIx (iVar 0) (iC (.int 0))) (iVar 1))) (sRet (iVar 2)))) (sNil)) (sSeq (sSet 3 (iBin gMod (iCallB gInt (iCons (iBin gAdd (iBin gMul (iBin gIx (iVar 0) (iC (.int 1))) (iC (.int 39373))) (iC (.int 211))) (iNil))) (iC (.int 2147483647)))) (sSeq (sSetIx (iVar 0) (iC (.int 1)) (iBin gAdd (iBin gMod (iCallB gInt (iCons (iBin gAdd (iBin gMul (iVar 3) (iC (.int 40692))) (iC (.int 97))) (iNil))) (iC (.int 2147483563))) (iC (.int 1)))) (sRet (iBin gMod (iCallB gInt (iCons (iBin gFdiv (iBin gAdd (iBin gMul (iVar 3) (iC (.int 2147483629))) (iBin gIx (iVar 0) (iC (.int 1)))) (iC (.int 8263))) (iNil))) (iVar 1)))))
def G_law_take : List D → Sto → Rs D := run N_law_take B_law_take
def B_law_pick : IS := sRet (iBin gIx (iVar 1) (iCall 2 G_law_take [] (iCons (iVar 0) (iCons (iCallB gLen (iCons (iVar 1) (iNil))) (iNil)))))
def G_law_pick : List D → Sto → Rs D := run N_law_pick B_law_pick
def L_law_same_1 (G_law_same : List D → Sto → Rs D) : IS := sIf (iNot (iTru (iCall 2 G_law_same [] (iCons (iVar 2) (iCons (iVar 3) (iNil)))))) (sRet (iC (.bl false))) (sNil)
def B_law_same (G_law_same : List D → Sto → Rs D) : IS := sSeq (sIf (iTru (iUn (gIsi "tuple") (iVar 1))) (sSeq (sIf (iOr (iNot (iTru (iUn (gIsi "tuple") (iVar 0)))) (iTest (iBin gNeE (iCallB gLen (iCons (iVar 0) (iNil))) (iCallB gLen (iCons (iVar 1) (iNil)))))) (sRet (iC (.bl false))) (sNil)) (sSeq (sFor 16777215 (iWalkC fZip (iCons (iVar 0) (iCons (iVar 1) (iNil)))) (.tp [.nm 2, .nm 3]) (L_law_same_1 G_law_same)) (sRet (iC (.bl true))))) (sNil)) (sSeq (sIf (iTest (iBin gIsB (iVar 1) (iC .non))) (sRet (iBin gIsB (iVar 0) (iC .non))) (sNil)) (sSeq (sIf (iOr (iTest (iBin gIsB (iVar 1) (iC (.bl true)))) (iTest (iBin gIsB (iVar 1) (iC (.bl false))))) (sRet (iAndV (iUn (gIsi "bool") (iVar 0)) (iBin gEqE (iVar 0) (iVar 1)))) (sNil)) (sSeq (sIf (iTru (iUn (gIsi "int") (iVar 1))) (sRet (iAndV (iUn (gIsi "int") (iVar 0)) (iAndV (iNotV (iUn (gIsi "bool") (iVar 0))) (iBin gEqE (iVar 0) (iVar 1))))) (sNil)) (sRet (iAndV (iUn (gIsi "str") (iVar 0)) (iAndV (iUn (gIsi "str") (iVar 1)) (iBin gEqE (iVar 0) (iVar 1))))))))
def Gr_law_same : Nat → List D → Sto → Rs D
  | 0 => fun _ _ => .bad
  | k + 1 => run N_law_same (B_law_same (Gr_law_same k))
def G_law_same : List D → Sto → Rs D := Gr_law_same 8
def L_law_frame_1 : IS := sPar [3, 4] (iCons (iBin gXor (iVar 3) (iVar 6)) (iCons (iBin gAdd (iVar 4) (iBin gMul (iBin gAdd (iVar 5) (iC (.int 1))) (iVar 6))) (iNil)))
def B_law_frame : IS := sSeq (sPar [2, 3, 4] (iCons (iCallB gLen (iCons (iVar 1) (iNil))) (iCons (iC (.int 0)) (iCons (iC (.int 0)) (iNil))))) (sSeq (sFor 16777215 (iWalkC fEnum (iCons (iVar 1) (iNil))) (.tp [.nm 5, .nm 6]) (L_law_frame_1)) (sSeq (sSet 4 (iBin gMod (iCallB gInt (iCons (iVar 4) (iNil))) (iC (.int 65521)))) (sSeq (sSet 7 (iTup (iCons (iVar 0) (iCons (iBin gFdiv (iVar 2) (iC (.int 256))) (iCons (iBin gMod (iCallB gInt (iCons (iVar 2) (iNil))) (iC (.int 256))) (iNil)))))) (sRet (iBin gAdd (iBin gAdd (iBin gAdd (iVar 7) (iTup (iCons (iBin gXor (iBin gXor (iBin gIx (iVar 7) (iC (.int 0))) (iBin gIx (iVar 7) (iC (.int 1)))) (iBin gIx (iVar 7) (iC (.int 2)))) (iNil)))) (iCallB gTuple (iCons (iVar 1) (iNil)))) (iTup (iCons (iVar 3) (iCons (iBin gFdiv (iVar 4) (iC (.int 256))) (iCons (iBin gMod (iCallB gInt (iCons (iVar 4) (iNil))) (iC (.int 256))) (iNil))))))))))
def G_law_frame : List D → Sto → Rs D := run N_law_frame B_law_frame
def B_law_payload : IS := sSeq (sSet 1 (iCall 2 G_law_pick [] (iCons (iVar 0) (iCons (iRol (iLst (iCons (iC (.int 0)) (iCons (iC (.int 1)) (iCons (iC (.int 2)) (iCons (iC (.int 3)) (iCons (iC (.int 5)) (iCons (iC (.int 8)) (iCons (iC (.int 13)) (iCons (iC (.int 300)) (iNil))))))))))) (iNil))))) (sRet (iCallB gTuple (iCons (iComp fRol 16777215 (iWalkC fRange1 (iCons (iVar 1) (iNil))) (.nm 2) (iYes) (iCall 2 G_law_pick [] (iCons (iVar 0) (iCons (iRol (iLst (iCons (iC (.int 0)) (iCons (iC (.int 1)) (iCons (iC (.int 255)) (iCons (iCall 2 G_law_take [] (iCons (iVar 0) (iCons (iC (.int 256)) (iNil)))) (iNil))))))) (iNil)))) [2]) (iNil))))
def G_law_payload : List D → Sto → Rs D := run N_law_payload B_law_payload
def L_law_1 : IS := sSeq (sIf (iNot (iTru (iCall 2 G_law_same [] (iCons (iCallKn 1 1 G_frame (iCons (iVar 7) (iNil)) (iCons (iVar 8) (iNil))) (iCons (iCall 2 G_law_frame [] (iCons (iVar 7) (iCons (iVar 8) (iNil)))) (iNil)))))) (sRet (iC (.bl false))) (sNil)) (sSeq (sSet 5 (iBin gAdd (iVar 5) (iCall 2 G_law_frame [] (iCons (iVar 7) (iCons (iVar 8) (iNil)))))) (sDrop (iMeth gAppend (iVar 6) (iCons (iCallB gLen (iCons (iVar 5) (iNil))) (iNil)))))
def L_law_2 : IS := sSeq (sSet 11 (iCallB gLen (iCons (iComp fRol 16777215 (iWalk (iSl (iVar 6) (oSome (iC (.int 1))) (oNone))) (.nm 18) (iTest (iBin gLe (iVar 18) (iVar 10))) (iC (.int 1)) [18]) (iNil)))) (sSeq (sSet 12 (iTup (iCons (iSl (iVar 4) (oNone) (oSome (iVar 11))) (iCons (iIf (iTest (iBin gInE (iVar 10) (iVar 6))) (iC .non) (iTup (iCons (iC (.str (Str.ofString "torn"))) (iCons (iVar 11) (iNil))))) (iNil))))) (sIf (iOr (iNot (iTru (iCall 2 G_law_same [] (iCons (iCall 1 G_frames_of [] (iCons (iSl (iVar 5) (oNone) (oSome (iVar 10))) (iNil))) (iCons (iVar 12) (iNil)))))) (iNot (iTru (iCall 2 G_law_same [] (iCons (iCall 1 G_whole_octets [] (iCons (iSl (iVar 5) (oNone) (oSome (iVar 10))) (iNil))) (iCons (iBin gIx (iVar 6) (iVar 11)) (iNil))))))) (sRet (iC (.bl false))) (sNil)))
def L_law_3 : IS := sSeq (sSet 13 (iCall 2 G_law_take [] (iCons (iVar 2) (iCons (iCallB gLen (iCons (iVar 5) (iNil))) (iNil))))) (sSeq (sSet 11 (iCallB gLen (iCons (iComp fRol 16777215 (iWalk (iSl (iVar 6) (oSome (iC (.int 1))) (oNone))) (.nm 18) (iTest (iBin gLe (iVar 18) (iVar 13))) (iC (.int 1)) [18]) (iNil)))) (sSeq (sSet 14 (iBin gAdd (iBin gAdd (iSl (iVar 5) (oNone) (oSome (iVar 13))) (iTup (iCons (iBin gAnd (iBin gAdd (iBin gAdd (iBin gIx (iVar 5) (iVar 13)) (iC (.int 1))) (iCall 2 G_law_take [] (iCons (iVar 2) (iCons (iC (.int 255)) (iNil))))) (iC (.int 255))) (iNil)))) (iSl (iVar 5) (oSome (iBin gAdd (iVar 13) (iC (.int 1)))) (oNone)))) (sSeq (sIf (iNot (iTru (iCall 2 G_law_same [] (iCons (iCall 1 G_frames_of [] (iCons (iVar 14) (iNil))) (iCons (iTup (iCons (iSl (iVar 4) (oNone) (oSome (iVar 11))) (iCons (iTup (iCons (iC (.str (Str.ofString "changed"))) (iCons (iVar 11) (iNil)))) (iNil)))) (iNil)))))) (sRet (iC (.bl false))) (sNil)) (sSeq (sPar [15, 16] (iCons (iBin gAdd (iBin gIx (iVar 6) (iVar 11)) (iC (.int 4))) (iCons (iCallB gLen (iCons (iBin gIx (iBin gIx (iVar 4) (iVar 11)) (iC (.int 1))) (iNil))) (iNil)))) (sIf (iTest (iBin gGt (iVar 16) (iC (.int 1)))) (sSeq (sSet 17 (iBin gAdd (iVar 15) (iCall 2 G_law_take [] (iCons (iVar 2) (iCons (iBin gSub (iVar 16) (iC (.int 1))) (iNil)))))) (sSeq (sSet 14 (iBin gAdd (iBin gAdd (iSl (iVar 5) (oNone) (oSome (iVar 17))) (iTup (iCons (iBin gIx (iVar 5) (iBin gAdd (iVar 17) (iC (.int 1)))) (iCons (iBin gIx (iVar 5) (iVar 17)) (iNil))))) (iSl (iVar 5) (oSome (iBin gAdd (iVar 17) (iC (.int 2)))) (oNone)))) (sSeq (sSet 12 (iIf (iTest (iBin gEqE (iBin gIx (iVar 5) (iVar 17)) (iBin gIx (iVar 5) (iBin gAdd (iVar 17) (iC (.int 1)))))) (iTup (iCons (iVar 4) (iCons (iC .non) (iNil)))) (iTup (iCons (iSl (iVar 4) (oNone) (oSome (iVar 11))) (iCons (iTup (iCons (iC (.str (Str.ofString "changed"))) (iCons (iVar 11) (iNil)))) (iNil)))))) (sIf (iNot (iTru (iCall 2 G_law_same [] (iCons (iCall 1 G_frames_of [] (iCons (iVar 14) (iNil))) (iCons (iVar 12) (iNil)))))) (sRet (iC (.bl false))) (sNil))))) (sNil))))))
def L_law_4 : IS := sSeq (sSet 2 (iCall 2 G_law_box [] (iCons (iVar 0) (iCons (iVar 1) (iNil))))) (sSeq (sSet 4 (iCallB gTuple (iCons (iComp fRol 16777215 (iWalkC fRange1 (iCons (iBin gAdd (iC (.int 1)) (iCall 2 G_law_take [] (iCons (iVar 2) (iCons (iC (.int 3)) (iNil))))) (iNil))) (.nm 3) (iYes) (iTup (iCons (iCall 2 G_law_take [] (iCons (iVar 2) (iCons (iC (.int 256)) (iNil)))) (iCons (iCall 1 G_law_payload [] (iCons (iVar 2) (iNil))) (iNil)))) [3]) (iNil)))) (sSeq (sAsg (.tp [.nm 5, .nm 6]) (iTup (iCons (iTup (iNil)) (iCons (iCell (iLst (iCons (iC (.int 0)) (iNil)))) (iNil))))) (sSeq (sFor 16777215 (iWalk (iVar 4)) (.tp [.nm 7, .nm 8]) (L_law_1)) (sSeq (sIf (iNot (iTru (iCall 2 G_law_same [] (iCons (iCall 1 G_frames_of [] (iCons (iVar 5) (iNil))) (iCons (iTup (iCons (iVar 4) (iCons (iC .non) (iNil)))) (iNil)))))) (sRet (iC (.bl false))) (sNil)) (sSeq (sSet 9 (iIf (iTest (iBin gLt (iCallB gLen (iCons (iVar 5) (iNil))) (iC (.int 60)))) (iRol (iListRange (iCallB gLen (iCons (iVar 5) (iNil))))) (iBin gAdd (iComp fRol 16777215 (iWalkC fRange1 (iCons (iC (.int 20)) (iNil))) (.nm 3) (iYes) (iCall 2 G_law_take [] (iCons (iVar 2) (iCons (iCallB gLen (iCons (iVar 5) (iNil))) (iNil)))) [3]) (iSl (iVar 6) (oNone) (oSome (iUn gNeg (iC (.int 1)))))))) (sSeq (sFor 16777215 (iWalk (iVar 9)) (.nm 10) (L_law_2)) (sFor 16777215 (iWalkC fRange1 (iCons (iC (.int 12)) (iNil))) (.nm 3) (L_law_3))))))))
def B_law : IS := sSeq (sFor 16777215 (iWalkC fRange1 (iCons (iCallB gMax (iCons (iC (.int 3)) (iCons (iCallB gMin (iCons (iCallB gLen (iCons (iVar 0) (iNil))) (iCons (iC (.int 5)) (iNil)))) (iNil)))) (iNil))) (.nm 1) (L_law_4)) (sRet (iCall 2 G_law_same [] (iCons (iCall 2 G_frame [] (iCons (iC (.int 0)) (iCons (iTup (iCons (iC (.int 1)) (iCons (iC (.int 2)) (iNil)))) (iNil)))) (iCons (iTup (iCons (iC (.int 0)) (iCons (iC (.int 0)) (iCons (iC (.int 2)) (iCons (iC (.int 2)) (iCons (iC (.int 1)) (iCons (iC (.int 2)) (iCons (iC (.int 3)) (iCons (iC (.int 0)) (iCons (iC (.int 5)) (iNil))))))))))) (iNil)))))
def G_law : List D → Sto → Rs D := run N_law B_law
end
theorem D_xored {ct : String → Addr} {P : Program} {w : World} {K : PySem.W.Frag} {mg : Str → Option Value} {base : Heap}  : ∀ (f : Addr) (cdv : Value) (A : Around) (outer : List Env) (s : Shared) (H : Hp) (E : XK), Room 0 (A.deeper (envOfC "xored" (defScope S_xored) s.heap.objs.size f cdv)) → SSs ct (bodyX P w K mg base N_xored "xored" S_xored f cdv A outer s H E) noE (defBody S_xored) B_xored := fun f cdv A outer s H E hr =>
  ss_cons (s_set 1 sc_xored.nd (si_int)) (ss_cons (s_for 16777215 PassesOwn.never rfl (w_walk (si_var 0 (pv 0))) (sp_nm 2 sc_xored.nd) (ss_one (s_set 1 sc_xored.nd (si_xor (si_var 1 (pv 1)) (si_var 2 (pv 2)))))) (ss_one (s_ret (si_var 1 (pv 1)))))
theorem K_xored {ct : String → Addr} {P : Program} {w : World} {K : PySem.W.Frag} {mg : Str → Option Value} {base : Heap}  {f : Addr} {fd : FuncData} (mm : mg "xored" = some (.ref f)) (F : Fun K "xored" "xored" S_xored f fd) : Kn ct P w K mg base "xored" S_xored P_xored 1 G_xored f fd := kn_of mm F sc_xored rfl (D_xored )
theorem D_weighed {ct : String → Addr} {P : Program} {w : World} {K : PySem.W.Frag} {mg : Str → Option Value} {base : Heap} (mg_enumerate : mg "enumerate" = none) (mg_sum : mg "sum" = none) {tk_WEIGHED : Tok} (cg_WEIGHED : mg "WEIGHED" = some (Value.int 65521 tk_WEIGHED)) : ∀ (f : Addr) (cdv : Value) (A : Around) (outer : List Env) (s : Shared) (H : Hp) (E : XK), Room 0 (A.deeper (envOfC "weighed" (defScope S_weighed) s.heap.objs.size f cdv)) → SSs ct (bodyX P w K mg base N_weighed "weighed" S_weighed f cdv A outer s H E) noE (defBody S_weighed) B_weighed := fun f cdv A outer s H E hr =>
  ss_one (s_ret (si_mod (si_callB (cb_sum rfl) (by rfl) mg_sum (by first | exact boot_sum | decide +kernel) (sa_cons (si_comp (p := .tp [.nm 1, .nm 2]) fin_rol 16777215 [(("place" : Str), 1), (("octet" : Str), 2)] rfl sc_weighed.nd (w_enum (by rfl) mg_enumerate (sa_cons (si_var 0 (pv 0)) (sa_nil))) (blkOk_by (N := N_weighed) (sc := defScope S_weighed) (by decide +kernel)) (fun _ _ _ _ _ => sp_tp rfl (sps_cons (sp_nm 1 sc_weighed.nd) (sps_cons (sp_nm 2 sc_weighed.nd) (sps_nil)))) (fun _ _ _ _ _ => sts_nil) (fun _ _ _ _ _ => si_mul (si_add (si_var 1 (pv 1)) (si_int)) (si_var 2 (pv 2))) (by simp [Pt.slots, Pt.slotsAll])) (sa_nil))) (si_C (pe_glob (v := V.int 65521) (by rfl) cg_WEIGHED ⟨_, rfl⟩) (fun _ _ => .int _))))
theorem K_weighed {ct : String → Addr} {P : Program} {w : World} {K : PySem.W.Frag} {mg : Str → Option Value} {base : Heap} (mg_enumerate : mg "enumerate" = none) (mg_sum : mg "sum" = none) {tk_WEIGHED : Tok} (cg_WEIGHED : mg "WEIGHED" = some (Value.int 65521 tk_WEIGHED)) {f : Addr} {fd : FuncData} (mm : mg "weighed" = some (.ref f)) (F : Fun K "weighed" "weighed" S_weighed f fd) : Kn ct P w K mg base "weighed" S_weighed P_weighed 1 G_weighed f fd := kn_of mm F sc_weighed rfl (D_weighed mg_enumerate mg_sum cg_WEIGHED)
theorem D_head_of {ct : String → Addr} {P : Program} {w : World} {K : PySem.W.Frag} {mg : Str → Option Value} {base : Heap} {f_xored : Addr} {fd_xored : FuncData} (k_xored : Kn ct P w K mg base "xored" S_xored P_xored 1 G_xored f_xored fd_xored) : ∀ (f : Addr) (cdv : Value) (A : Around) (outer : List Env) (s : Shared) (H : Hp) (E : XK), Room 1 (A.deeper (envOfC "head_of" (defScope S_head_of) s.heap.objs.size f cdv)) → SSs ct (bodyX P w K mg base N_head_of "head_of" S_head_of f cdv A outer s H E) noE (defBody S_head_of) B_head_of := fun f cdv A outer s H E hr =>
  ss_cons (s_set 2 sc_head_of.nd (si_tup (sa_cons (si_var 0 (pv 0)) (sa_cons (si_fdiv (si_var 1 (pv 1)) (si_int)) (sa_cons (si_mod (si_var 1 (pv 1)) (si_int)) (sa_nil)))))) (ss_one (s_ret (si_add (si_var 2 (pv 2)) (si_tup (sa_cons (si_kn k_xored 1 (hr.mono (by decide)) (fun _ _ _ _ _ _ us hl => match us, hl with | [_], _ => rfl) (sa_cons (si_var 2 (pv 2)) (sa_nil))) (sa_nil))))))
theorem K_head_of {ct : String → Addr} {P : Program} {w : World} {K : PySem.W.Frag} {mg : Str → Option Value} {base : Heap} {f_xored : Addr} {fd_xored : FuncData} (k_xored : Kn ct P w K mg base "xored" S_xored P_xored 1 G_xored f_xored fd_xored) {f : Addr} {fd : FuncData} (mm : mg "head_of" = some (.ref f)) (F : Fun K "head_of" "head_of" S_head_of f fd) : Kn ct P w K mg base "head_of" S_head_of P_head_of 2 G_head_of f fd := kn_of mm F sc_head_of rfl (D_head_of k_xored)
theorem D_foot_of {ct : String → Addr} {P : Program} {w : World} {K : PySem.W.Frag} {mg : Str → Option Value} {base : Heap} {f_weighed : Addr} {fd_weighed : FuncData} (k_weighed : Kn ct P w K mg base "weighed" S_weighed P_weighed 1 G_weighed f_weighed fd_weighed) {f_xored : Addr} {fd_xored : FuncData} (k_xored : Kn ct P w K mg base "xored" S_xored P_xored 1 G_xored f_xored fd_xored) : ∀ (f : Addr) (cdv : Value) (A : Around) (outer : List Env) (s : Shared) (H : Hp) (E : XK), Room 1 (A.deeper (envOfC "foot_of" (defScope S_foot_of) s.heap.objs.size f cdv)) → SSs ct (bodyX P w K mg base N_foot_of "foot_of" S_foot_of f cdv A outer s H E) noE (defBody S_foot_of) B_foot_of := fun f cdv A outer s H E hr =>
  ss_cons (s_set 1 sc_foot_of.nd (si_kn k_weighed 1 (hr.mono (by decide)) (fun _ _ _ _ _ _ us hl => match us, hl with | [_], _ => rfl) (sa_cons (si_var 0 (pv 0)) (sa_nil)))) (ss_one (s_ret (si_tup (sa_cons (si_kn k_xored 1 (hr.mono (by decide)) (fun _ _ _ _ _ _ us hl => match us, hl with | [_], _ => rfl) (sa_cons (si_var 0 (pv 0)) (sa_nil))) (sa_cons (si_fdiv (si_var 1 (pv 1)) (si_int)) (sa_cons (si_mod (si_var 1 (pv 1)) (si_int)) (sa_nil)))))))
theorem K_foot_of {ct : String → Addr} {P : Program} {w : World} {K : PySem.W.Frag} {mg : Str → Option Value} {base : Heap} {f_weighed : Addr} {fd_weighed : FuncData} (k_weighed : Kn ct P w K mg base "weighed" S_weighed P_weighed 1 G_weighed f_weighed fd_weighed) {f_xored : Addr} {fd_xored : FuncData} (k_xored : Kn ct P w K mg base "xored" S_xored P_xored 1 G_xored f_xored fd_xored) {f : Addr} {fd : FuncData} (mm : mg "foot_of" = some (.ref f)) (F : Fun K "foot_of" "foot_of" S_foot_of f fd) : Kn ct P w K mg base "foot_of" S_foot_of P_foot_of 2 G_foot_of f fd := kn_of mm F sc_foot_of rfl (D_foot_of k_weighed k_xored)
theorem D_frame {ct : String → Addr} {P : Program} {w : World} {K : PySem.W.Frag} {mg : Str → Option Value} {base : Heap} (mg_len : mg "len" = none) (mg_tuple : mg "tuple" = none) {f_head_of : Addr} {fd_head_of : FuncData} (k_head_of : Kn ct P w K mg base "head_of" S_head_of P_head_of 2 G_head_of f_head_of fd_head_of) {f_foot_of : Addr} {fd_foot_of : FuncData} (k_foot_of : Kn ct P w K mg base "foot_of" S_foot_of P_foot_of 2 G_foot_of f_foot_of fd_foot_of) : ∀ (f : Addr) (cdv : Value) (A : Around) (outer : List Env) (s : Shared) (H : Hp) (E : XK), Room 2 (A.deeper (envOfC "frame" (defScope S_frame) s.heap.objs.size f cdv)) → SSs ct (bodyX P w K mg base N_frame "frame" S_frame f cdv A outer s H E) noE (defBody S_frame) B_frame := fun f cdv A outer s H E hr =>
  ss_one (s_ret (si_add (si_add (si_kn k_head_of 2 (hr.mono (by decide)) (fun _ _ _ _ _ _ us hl => match us, hl with | [_, _], _ => rfl) (sa_cons (si_var 0 (pv 0)) (sa_cons (si_callB (cb_len) (by rfl) mg_len (by first | exact boot_len | decide +kernel) (sa_cons (si_var 1 (pv 1)) (sa_nil))) (sa_nil)))) (si_callTy (cb_tuple) (by rfl) mg_tuple (by first | exact boot_tuple | decide +kernel) (sa_cons (si_var 1 (pv 1)) (sa_nil)))) (si_kn k_foot_of 1 (hr.mono (by decide)) (fun _ _ _ _ _ _ us hl => match us, hl with | [_], _ => rfl) (sa_cons (si_var 1 (pv 1)) (sa_nil)))))
theorem K_frame {ct : String → Addr} {P : Program} {w : World} {K : PySem.W.Frag} {mg : Str → Option Value} {base : Heap} (mg_len : mg "len" = none) (mg_tuple : mg "tuple" = none) {f_head_of : Addr} {fd_head_of : FuncData} (k_head_of : Kn ct P w K mg base "head_of" S_head_of P_head_of 2 G_head_of f_head_of fd_head_of) {f_foot_of : Addr} {fd_foot_of : FuncData} (k_foot_of : Kn ct P w K mg base "foot_of" S_foot_of P_foot_of 2 G_foot_of f_foot_of fd_foot_of) {f : Addr} {fd : FuncData} (mm : mg "frame" = some (.ref f)) (F : Fun K "frame" "frame" S_frame f fd) : Kn ct P w K mg base "frame" S_frame P_frame 3 G_frame f fd := kn_of mm F sc_frame rfl (D_frame mg_len mg_tuple k_head_of k_foot_of)
theorem D_frames_of {ct : String → Addr} {P : Program} {w : World} {K : PySem.W.Frag} {mg : Str → Option Value} {base : Heap} (mg_len : mg "len" = none) (mg_tuple : mg "tuple" = none) {tk_FOOT : Tok} (cg_FOOT : mg "FOOT" = some (Value.int 3 tk_FOOT)) {tk_HEAD : Tok} (cg_HEAD : mg "HEAD" = some (Value.int 4 tk_HEAD)) {f_head_of : Addr} {fd_head_of : FuncData} (k_head_of : Kn ct P w K mg base "head_of" S_head_of P_head_of 2 G_head_of f_head_of fd_head_of) {f_foot_of : Addr} {fd_foot_of : FuncData} (k_foot_of : Kn ct P w K mg base "foot_of" S_foot_of P_foot_of 2 G_foot_of f_foot_of fd_foot_of) : ∀ (f : Addr) (cdv : Value) (A : Around) (outer : List Env) (s : Shared) (H : Hp) (E : XK), Room 2 (A.deeper (envOfC "frames_of" (defScope S_frames_of) s.heap.objs.size f cdv)) → SSs ct (bodyX P w K mg base N_frames_of "frames_of" S_frames_of f cdv A outer s H E) noE (defBody S_frames_of) B_frames_of := fun f cdv A outer s H E hr =>
  ss_cons (s_par3 1 2 0 rfl sc_frames_of.nd (sa_cons (si_cell (sf_lst (sa_nil))) (sa_cons (si_int) (sa_cons (si_callTy (cb_tuple) (by rfl) mg_tuple (by first | exact boot_tuple | decide +kernel) (sa_cons (si_var 0 (pv 0)) (sa_nil))) (sa_nil))))) (ss_cons (s_while 16777215 PassesOwn.never (sb_c (c_lt) (si_var 2 (pv 2)) (si_callB (cb_len) (by rfl) mg_len (by first | exact boot_len | decide +kernel) (sa_cons (si_var 0 (pv 0)) (sa_nil)))) (ss_cons (s_if (sb_c (c_lt) (si_sub (si_callB (cb_len) (by rfl) mg_len (by first | exact boot_len | decide +kernel) (sa_cons (si_var 0 (pv 0)) (sa_nil))) (si_var 2 (pv 2))) (si_C (pe_glob (v := V.int 4) (by rfl) cg_HEAD ⟨_, rfl⟩) (fun _ _ => .int _))) (ss_one (s_ret (si_tup (sa_cons (si_callTy (cb_tuple) (by rfl) mg_tuple (by first | exact boot_tuple | decide +kernel) (sa_cons (si_var 1 (pv 1)) (sa_nil))) (sa_cons (si_tup (sa_cons (si_str) (sa_cons (si_callB (cb_len) (by rfl) mg_len (by first | exact boot_len | decide +kernel) (sa_cons (si_var 1 (pv 1)) (sa_nil))) (sa_nil)))) (sa_nil)))))) (ss_nil)) (ss_cons (s_asg (si_sl (si_var 0 (pv 0)) (so_some (si_var 2 (pv 2))) (so_some (si_add (si_var 2 (pv 2)) (si_C (pe_glob (v := V.int 4) (by rfl) cg_HEAD ⟨_, rfl⟩) (fun _ _ => .int _))))) (sp_tp rfl (sps_cons (sp_nm 3 sc_frames_of.nd) (sps_cons (sp_nm 4 sc_frames_of.nd) (sps_cons (sp_nm 5 sc_frames_of.nd) (sps_cons (sp_nm 6 sc_frames_of.nd) (sps_nil))))))) (ss_cons (s_set 7 sc_frames_of.nd (si_add (si_mul (si_var 4 (pv 4)) (si_int)) (si_var 5 (pv 5)))) (ss_cons (s_if (sb_c (c_ne hr.units) (si_ix (si_kn k_head_of 2 (hr.mono (by decide)) (fun _ _ _ _ _ _ us hl => match us, hl with | [_, _], _ => rfl) (sa_cons (si_var 3 (pv 3)) (sa_cons (si_var 7 (pv 7)) (sa_nil)))) (si_int)) (si_var 6 (pv 6))) (ss_one (s_ret (si_tup (sa_cons (si_callTy (cb_tuple) (by rfl) mg_tuple (by first | exact boot_tuple | decide +kernel) (sa_cons (si_var 1 (pv 1)) (sa_nil))) (sa_cons (si_tup (sa_cons (si_str) (sa_cons (si_callB (cb_len) (by rfl) mg_len (by first | exact boot_len | decide +kernel) (sa_cons (si_var 1 (pv 1)) (sa_nil))) (sa_nil)))) (sa_nil)))))) (ss_nil)) (ss_cons (s_set 8 sc_frames_of.nd (si_add (si_add (si_add (si_var 2 (pv 2)) (si_C (pe_glob (v := V.int 4) (by rfl) cg_HEAD ⟨_, rfl⟩) (fun _ _ => .int _))) (si_var 7 (pv 7))) (si_C (pe_glob (v := V.int 3) (by rfl) cg_FOOT ⟨_, rfl⟩) (fun _ _ => .int _)))) (ss_cons (s_if (sb_c (c_gt) (si_var 8 (pv 8)) (si_callB (cb_len) (by rfl) mg_len (by first | exact boot_len | decide +kernel) (sa_cons (si_var 0 (pv 0)) (sa_nil)))) (ss_one (s_ret (si_tup (sa_cons (si_callTy (cb_tuple) (by rfl) mg_tuple (by first | exact boot_tuple | decide +kernel) (sa_cons (si_var 1 (pv 1)) (sa_nil))) (sa_cons (si_tup (sa_cons (si_str) (sa_cons (si_callB (cb_len) (by rfl) mg_len (by first | exact boot_len | decide +kernel) (sa_cons (si_var 1 (pv 1)) (sa_nil))) (sa_nil)))) (sa_nil)))))) (ss_nil)) (ss_cons (s_set 9 sc_frames_of.nd (si_sl (si_var 0 (pv 0)) (so_some (si_add (si_var 2 (pv 2)) (si_C (pe_glob (v := V.int 4) (by rfl) cg_HEAD ⟨_, rfl⟩) (fun _ _ => .int _)))) (so_some (si_add (si_add (si_var 2 (pv 2)) (si_C (pe_glob (v := V.int 4) (by rfl) cg_HEAD ⟨_, rfl⟩) (fun _ _ => .int _))) (si_var 7 (pv 7)))))) (ss_cons (s_if (sb_c (c_ne hr.units) (si_kn k_foot_of 1 (hr.mono (by decide)) (fun _ _ _ _ _ _ us hl => match us, hl with | [_], _ => rfl) (sa_cons (si_var 9 (pv 9)) (sa_nil))) (si_sl (si_var 0 (pv 0)) (so_some (si_sub (si_var 8 (pv 8)) (si_C (pe_glob (v := V.int 3) (by rfl) cg_FOOT ⟨_, rfl⟩) (fun _ _ => .int _)))) (so_some (si_var 8 (pv 8))))) (ss_one (s_ret (si_tup (sa_cons (si_callTy (cb_tuple) (by rfl) mg_tuple (by first | exact boot_tuple | decide +kernel) (sa_cons (si_var 1 (pv 1)) (sa_nil))) (sa_cons (si_tup (sa_cons (si_str) (sa_cons (si_callB (cb_len) (by rfl) mg_len (by first | exact boot_len | decide +kernel) (sa_cons (si_var 1 (pv 1)) (sa_nil))) (sa_nil)))) (sa_nil)))))) (ss_nil)) (ss_cons (s_expr (si_append (si_var 1 (pv 1)) (sa_cons (si_tup (sa_cons (si_var 3 (pv 3)) (sa_cons (si_var 9 (pv 9)) (sa_nil)))) (sa_nil)))) (ss_one (s_set 2 sc_frames_of.nd (si_var 8 (pv 8)))))))))))))) (ss_one (s_ret (si_tup (sa_cons (si_callTy (cb_tuple) (by rfl) mg_tuple (by first | exact boot_tuple | decide +kernel) (sa_cons (si_var 1 (pv 1)) (sa_nil))) (sa_cons (si_non) (sa_nil)))))))
theorem K_frames_of {ct : String → Addr} {P : Program} {w : World} {K : PySem.W.Frag} {mg : Str → Option Value} {base : Heap} (mg_len : mg "len" = none) (mg_tuple : mg "tuple" = none) {tk_FOOT : Tok} (cg_FOOT : mg "FOOT" = some (Value.int 3 tk_FOOT)) {tk_HEAD : Tok} (cg_HEAD : mg "HEAD" = some (Value.int 4 tk_HEAD)) {f_head_of : Addr} {fd_head_of : FuncData} (k_head_of : Kn ct P w K mg base "head_of" S_head_of P_head_of 2 G_head_of f_head_of fd_head_of) {f_foot_of : Addr} {fd_foot_of : FuncData} (k_foot_of : Kn ct P w K mg base "foot_of" S_foot_of P_foot_of 2 G_foot_of f_foot_of fd_foot_of) {f : Addr} {fd : FuncData} (mm : mg "frames_of" = some (.ref f)) (F : Fun K "frames_of" "frames_of" S_frames_of f fd) : Kn ct P w K mg base "frames_of" S_frames_of P_frames_of 3 G_frames_of f fd := kn_of mm F sc_frames_of rfl (D_frames_of mg_len mg_tuple cg_FOOT cg_HEAD k_head_of k_foot_of)
theorem D_whole_octets {ct : String → Addr} {P : Program} {w : World} {K : PySem.W.Frag} {mg : Str → Option Value} {base : Heap} (mg_len : mg "len" = none) (mg_sum : mg "sum" = none) {tk_FOOT : Tok} (cg_FOOT : mg "FOOT" = some (Value.int 3 tk_FOOT)) {tk_HEAD : Tok} (cg_HEAD : mg "HEAD" = some (Value.int 4 tk_HEAD)) {f_frames_of : Addr} {fd_frames_of : FuncData} (k_frames_of : Kn ct P w K mg base "frames_of" S_frames_of P_frames_of 3 G_frames_of f_frames_of fd_frames_of) : ∀ (f : Addr) (cdv : Value) (A : Around) (outer : List Env) (s : Shared) (H : Hp) (E : XK), Room 3 (A.deeper (envOfC "whole_octets" (defScope S_whole_octets) s.heap.objs.size f cdv)) → SSs ct (bodyX P w K mg base N_whole_octets "whole_octets" S_whole_octets f cdv A outer s H E) noE (defBody S_whole_octets) B_whole_octets := fun f cdv A outer s H E hr =>
  ss_one (s_ret (si_callB (cb_sum rfl) (by rfl) mg_sum (by first | exact boot_sum | decide +kernel) (sa_cons (si_comp (p := .tp [.nm 1, .nm 2]) fin_rol 16777215 [(("kind" : Str), 1), (("payload" : Str), 2)] rfl sc_whole_octets.nd (w_walk (si_ix (si_kn k_frames_of 1 (hr.mono (by decide)) (fun _ _ _ _ _ _ us hl => match us, hl with | [_], _ => rfl) (sa_cons (si_var 0 (pv 0)) (sa_nil))) (si_int))) (blkOk_by (N := N_whole_octets) (sc := defScope S_whole_octets) (by decide +kernel)) (fun _ _ _ _ _ => sp_tp rfl (sps_cons (sp_nm 1 sc_whole_octets.nd) (sps_cons (sp_nm 2 sc_whole_octets.nd) (sps_nil)))) (fun _ _ _ _ _ => sts_nil) (fun _ _ _ _ _ => si_add (si_add (si_C (pe_glob (v := V.int 4) (by rfl) cg_HEAD ⟨_, rfl⟩) (fun _ _ => .int _)) (si_callB (cb_len) (by rfl) mg_len (by first | exact boot_len | decide +kernel) (sa_cons (si_var 2 (pv 2)) (sa_nil)))) (si_C (pe_glob (v := V.int 3) (by rfl) cg_FOOT ⟨_, rfl⟩) (fun _ _ => .int _))) (by simp [Pt.slots, Pt.slotsAll])) (sa_nil))))
theorem K_whole_octets {ct : String → Addr} {P : Program} {w : World} {K : PySem.W.Frag} {mg : Str → Option Value} {base : Heap} (mg_len : mg "len" = none) (mg_sum : mg "sum" = none) {tk_FOOT : Tok} (cg_FOOT : mg "FOOT" = some (Value.int 3 tk_FOOT)) {tk_HEAD : Tok} (cg_HEAD : mg "HEAD" = some (Value.int 4 tk_HEAD)) {f_frames_of : Addr} {fd_frames_of : FuncData} (k_frames_of : Kn ct P w K mg base "frames_of" S_frames_of P_frames_of 3 G_frames_of f_frames_of fd_frames_of) {f : Addr} {fd : FuncData} (mm : mg "whole_octets" = some (.ref f)) (F : Fun K "whole_octets" "whole_octets" S_whole_octets f fd) : Kn ct P w K mg base "whole_octets" S_whole_octets P_whole_octets 4 G_whole_octets f fd := kn_of mm F sc_whole_octets rfl (D_whole_octets mg_len mg_sum cg_FOOT cg_HEAD k_frames_of)
theorem D_law_box {ct : String → Addr} {P : Program} {w : World} {K : PySem.W.Frag} {mg : Str → Option Value} {base : Heap} (mg_abs : mg "abs" = none) (mg_int : mg "int" = none) (mg_len : mg "len" = none) : ∀ (f : Addr) (cdv : Value) (A : Around) (outer : List Env) (s : Shared) (H : Hp) (E : XK), Room 0 (A.deeper (envOfC "_law_box" (defScope S_law_box) s.heap.objs.size f cdv)) → SSs ct (bodyX P w K mg base N_law_box "_law_box" S_law_box f cdv A outer s H E) noE (defBody S_law_box) B_law_box := fun f cdv A outer s H E hr =>
  ss_cons (s_set 2 sc_law_box.nd (si_add (si_mul (si_int) (si_var 1 (pv 1))) (si_int))) (ss_cons (s_if (sb_c (c_lt) (si_var 1 (pv 1)) (si_callB (cb_len) (by rfl) mg_len (by first | exact boot_len | decide +kernel) (sa_cons (si_var 0 (pv 0)) (sa_nil)))) (ss_one (s_set 2 sc_law_box.nd (si_callB (cb_abs) (by rfl) mg_abs (by first | exact boot_abs | decide +kernel) (sa_cons (si_callTy (cb_int) (by rfl) mg_int (by first | exact boot_int | decide +kernel) (sa_cons (si_ix (si_var 0 (pv 0)) (si_var 1 (pv 1))) (sa_nil))) (sa_nil))))) (ss_one (s_if (sb_c (c_gt) (si_callB (cb_len) (by rfl) mg_len (by first | exact boot_len | decide +kernel) (sa_cons (si_var 0 (pv 0)) (sa_nil))) (si_int)) (ss_one (s_set 2 sc_law_box.nd (si_add (si_var 2 (pv 2)) (si_mul (si_mod (si_callTy (cb_int) (by rfl) mg_int (by first | exact boot_int | decide +kernel) (sa_cons (si_callB (cb_abs) (by rfl) mg_abs (by first | exact boot_abs | decide +kernel) (sa_cons (si_callTy (cb_int) (by rfl) mg_int (by first | exact boot_int | decide +kernel) (sa_cons (si_ix (si_var 0 (pv 0)) (si_mod (si_callTy (cb_int) (by rfl) mg_int (by first | exact boot_int | decide +kernel) (sa_cons (si_var 1 (pv 1)) (sa_nil))) (si_callB (cb_len) (by rfl) mg_len (by first | exact boot_len | decide +kernel) (sa_cons (si_var 0 (pv 0)) (sa_nil))))) (sa_nil))) (sa_nil))) (sa_nil))) (si_int)) (si_int))))) (ss_nil)))) (ss_cons (s_set 3 sc_law_box.nd (si_if (sb_c (c_ge) (si_var 2 (pv 2)) (si_pow (si_int) (si_int))) (si_var 2 (pv 2)) (si_int))) (ss_one (s_ret (si_cell (sf_lst (sa_cons (si_var 3 (pv 3)) (sa_cons (si_add (si_mod (si_callTy (cb_int) (by rfl) mg_int (by first | exact boot_int | decide +kernel) (sa_cons (si_add (si_mul (si_mod (si_callTy (cb_int) (by rfl) mg_int (by first | exact boot_int | decide +kernel) (sa_cons (si_var 2 (pv 2)) (sa_nil))) (si_int)) (si_int)) (si_mul (si_int) (si_var 1 (pv 1)))) (sa_nil))) (si_int)) (si_int)) (sa_nil)))))))))
theorem K_law_box {ct : String → Addr} {P : Program} {w : World} {K : PySem.W.Frag} {mg : Str → Option Value} {base : Heap} (mg_abs : mg "abs" = none) (mg_int : mg "int" = none) (mg_len : mg "len" = none) {f : Addr} {fd : FuncData} (mm : mg "_law_box" = some (.ref f)) (F : Fun K "_law_box" "_law_box" S_law_box f fd) : Kn ct P w K mg base "_law_box" S_law_box P_law_box 1 G_law_box f fd := kn_of mm F sc_law_box rfl (D_law_box mg_abs mg_int mg_len)
theorem D_law_take {ct : String → Addr} {P : Program} {w : World} {K : PySem.W.Frag} {mg : Str → Option Value} {base : Heap} (mg_int : mg "int" = none) : ∀ (f : Addr) (cdv : Value) (A : Around) (outer : List Env) (s : Shared) (H : Hp) (E : XK), Room 0 (A.deeper (envOfC "_law_take" (defScope S_law_take) s.heap.objs.size f cdv)) → SSs ct (bodyX P w K mg base N_law_take "_law_take" S_law_take f cdv A outer s H E) noE (defBody S_law_take) B_law_take := fun f cdv A outer s H E hr =>
  ss_cons (s_if (sb_c (c_gt) (si_ix (si_var 0 (pv 0)) (si_int)) (si_int)) (ss_cons (s_set 2 sc_law_take.nd (si_mod (si_callTy (cb_int) (by rfl) mg_int (by first | exact boot_int | decide +kernel) (sa_cons (si_ix (si_var 0 (pv 0)) (si_int)) (sa_nil))) (si_var 1 (pv 1)))) (ss_cons (s_setIx (si_var 0 (pv 0)) (si_int) (si_fdiv (si_ix (si_var 0 (pv 0)) (si_int)) (si_var 1 (pv 1)))) (ss_one (s_ret (si_var 2 (pv 2)))))) (ss_nil)) (ss_cons (s_set 3 sc_law_take.nd (si_mod (si_callTy (cb_int) (by rfl) mg_int (by first | exact boot_int | decide +kernel) (sa_cons (si_add (si_mul (si_ix (si_var 0 (pv 0)) (si_int)) (si_int)) (si_int)) (sa_nil))) (si_int))) (ss_cons (s_setIx (si_var 0 (pv 0)) (si_int) (si_add (si_mod (si_callTy (cb_int) (by rfl) mg_int (by first | exact boot_int | decide +kernel) (sa_cons (si_add (si_mul (si_var 3 (pv 3)) (si_int)) (si_int)) (sa_nil))) (si_int)) (si_int))) (ss_one (s_ret (si_mod (si_callTy (cb_int) (by rfl) mg_int (by first | exact boot_int | decide +kernel) (sa_cons (si_fdiv (si_add (si_mul (si_var 3 (pv 3)) (si_int)) (si_ix (si_var 0 (pv 0)) (si_int))) (si_int)) (sa_nil))) (si_var 1 (pv 1)))))))
theorem K_law_take {ct : String → Addr} {P : Program} {w : World} {K : PySem.W.Frag} {mg : Str → Option Value} {base : Heap} (mg_int : mg "int" = none) {f : Addr} {fd : FuncData} (mm : mg "_law_take" = some (.ref f)) (F : Fun K "_law_take" "_law_take" S_law_take f fd) : Kn ct P w K mg base "_law_take" S_law_take P_law_take 1 G_law_take f fd := kn_of mm F sc_law_take rfl (D_law_take mg_int)
theorem D_law_pick {ct : String → Addr} {P : Program} {w : World} {K : PySem.W.Frag} {mg : Str → Option Value} {base : Heap} (mg_len : mg "len" = none) {f_law_take : Addr} {fd_law_take : FuncData} (k_law_take : Kn ct P w K mg base "_law_take" S_law_take P_law_take 1 G_law_take f_law_take fd_law_take) : ∀ (f : Addr) (cdv : Value) (A : Around) (outer : List Env) (s : Shared) (H : Hp) (E : XK), Room 1 (A.deeper (envOfC "_law_pick" (defScope S_law_pick) s.heap.objs.size f cdv)) → SSs ct (bodyX P w K mg base N_law_pick "_law_pick" S_law_pick f cdv A outer s H E) noE (defBody S_law_pick) B_law_pick := fun f cdv A outer s H E hr =>
  ss_one (s_ret (si_ix (si_var 1 (pv 1)) (si_kn k_law_take 2 (hr.mono (by decide)) (fun _ _ _ _ _ _ us hl => match us, hl with | [_, _], _ => rfl) (sa_cons (si_var 0 (pv 0)) (sa_cons (si_callB (cb_len) (by rfl) mg_len (by first | exact boot_len | decide +kernel) (sa_cons (si_var 1 (pv 1)) (sa_nil))) (sa_nil))))))
theorem K_law_pick {ct : String → Addr} {P : Program} {w : World} {K : PySem.W.Frag} {mg : Str → Option Value} {base : Heap} (mg_len : mg "len" = none) {f_law_take : Addr} {fd_law_take : FuncData} (k_law_take : Kn ct P w K mg base "_law_take" S_law_take P_law_take 1 G_law_take f_law_take fd_law_take) {f : Addr} {fd : FuncData} (mm : mg "_law_pick" = some (.ref f)) (F : Fun K "_law_pick" "_law_pick" S_law_pick f fd) : Kn ct P w K mg base "_law_pick" S_law_pick P_law_pick 2 G_law_pick f fd := kn_of mm F sc_law_pick rfl (D_law_pick mg_len k_law_take)
theorem D_law_same {ct : String → Addr} {P : Program} {w : World} {K : PySem.W.Frag} {mg : Str → Option Value} {base : Heap} (mg_bool : mg "bool" = none) (mg_int : mg "int" = none) (mg_isinstance : mg "isinstance" = none) (mg_len : mg "len" = none) (mg_str : mg "str" = none) (mg_tuple : mg "tuple" = none) (mg_zip : mg "zip" = none) {G_law_same : List D → Sto → Rs D} {lv : Nat} (hlv : 0 ≤ lv) {f_law_same : Addr} {fd_law_same : FuncData} (k_law_same : Kn ct P w K mg base "_law_same" S_law_same P_law_same lv G_law_same f_law_same fd_law_same) : ∀ (f : Addr) (cdv : Value) (A : Around) (outer : List Env) (s : Shared) (H : Hp) (E : XK), Room lv (A.deeper (envOfC "_law_same" (defScope S_law_same) s.heap.objs.size f cdv)) → SSs ct (bodyX P w K mg base N_law_same "_law_same" S_law_same f cdv A outer s H E) noE (defBody S_law_same) (B_law_same G_law_same) := fun f cdv A outer s H E hr =>
  ss_cons (s_if (sb_tru (si_isi "tuple" (by rfl) mg_isinstance (by decide) (si_var 1 (pv 1)) (pe_bltn (by rfl) mg_tuple (by first | exact boot_tuple | decide +kernel) rfl))) (ss_cons (s_if (sb_w (sw_or (sb_not (sb_tru (si_isi "tuple" (by rfl) mg_isinstance (by decide) (si_var 0 (pv 0)) (pe_bltn (by rfl) mg_tuple (by first | exact boot_tuple | decide +kernel) rfl)))) (sw_or1 (sb_c (c_ne hr.units) (si_callB (cb_len) (by rfl) mg_len (by first | exact boot_len | decide +kernel) (sa_cons (si_var 0 (pv 0)) (sa_nil))) (si_callB (cb_len) (by rfl) mg_len (by first | exact boot_len | decide +kernel) (sa_cons (si_var 1 (pv 1)) (sa_nil))))))) (ss_one (s_ret (si_bl))) (ss_nil)) (ss_cons (s_for 16777215 PassesOwn.never rfl (w_zip (by rfl) mg_zip (sa_cons (si_var 0 (pv 0)) (sa_cons (si_var 1 (pv 1)) (sa_nil)))) (sp_tp rfl (sps_cons (sp_nm 2 sc_law_same.nd) (sps_cons (sp_nm 3 sc_law_same.nd) (sps_nil)))) (ss_one (s_if (sb_not (sb_tru (si_kn k_law_same 2 hr (fun _ _ _ _ _ _ us hl => match us, hl with | [_, _], _ => rfl) (sa_cons (si_var 2 (pv 2)) (sa_cons (si_var 3 (pv 3)) (sa_nil)))))) (ss_one (s_ret (si_bl))) (ss_nil)))) (ss_one (s_ret (si_bl))))) (ss_nil)) (ss_cons (s_if (sb_c (c_isB) (si_var 1 (pv 1)) (si_non)) (ss_one (s_ret (si_c (c_isB) (si_var 0 (pv 0)) (si_non)))) (ss_nil)) (ss_cons (s_if (sb_w (sw_or (sb_c (c_isB) (si_var 1 (pv 1)) (si_bl)) (sw_or1 (sb_c (c_isB) (si_var 1 (pv 1)) (si_bl))))) (ss_one (s_ret (si_andV (si_isi "bool" (by rfl) mg_isinstance (by decide) (si_var 0 (pv 0)) (pe_bltn (by rfl) mg_bool (by first | exact boot_bool | decide +kernel) rfl)) (si_one (si_c (c_eq hr.units) (si_var 0 (pv 0)) (si_var 1 (pv 1))))))) (ss_nil)) (ss_cons (s_if (sb_tru (si_isi "int" (by rfl) mg_isinstance (by decide) (si_var 1 (pv 1)) (pe_bltn (by rfl) mg_int (by first | exact boot_int | decide +kernel) rfl))) (ss_one (s_ret (si_andV (si_isi "int" (by rfl) mg_isinstance (by decide) (si_var 0 (pv 0)) (pe_bltn (by rfl) mg_int (by first | exact boot_int | decide +kernel) rfl)) (si_andV (si_notV (si_isi "bool" (by rfl) mg_isinstance (by decide) (si_var 0 (pv 0)) (pe_bltn (by rfl) mg_bool (by first | exact boot_bool | decide +kernel) rfl))) (si_one (si_c (c_eq hr.units) (si_var 0 (pv 0)) (si_var 1 (pv 1)))))))) (ss_nil)) (ss_one (s_ret (si_andV (si_isi "str" (by rfl) mg_isinstance (by decide) (si_var 0 (pv 0)) (pe_bltn (by rfl) mg_str (by first | exact boot_str | decide +kernel) rfl)) (si_andV (si_isi "str" (by rfl) mg_isinstance (by decide) (si_var 1 (pv 1)) (pe_bltn (by rfl) mg_str (by first | exact boot_str | decide +kernel) rfl)) (si_one (si_c (c_eq hr.units) (si_var 0 (pv 0)) (si_var 1 (pv 1)))))))))))
theorem KR_law_same {ct : String → Addr} {P : Program} {w : World} {K : PySem.W.Frag} {mg : Str → Option Value} {base : Heap} (mg_bool : mg "bool" = none) (mg_int : mg "int" = none) (mg_isinstance : mg "isinstance" = none) (mg_len : mg "len" = none) (mg_str : mg "str" = none) (mg_tuple : mg "tuple" = none) (mg_zip : mg "zip" = none) {f : Addr} {fd : FuncData} (mm : mg "_law_same" = some (.ref f)) (F : Fun K "_law_same" "_law_same" S_law_same f fd) : ∀ n : Nat, Kn ct P w K mg base "_law_same" S_law_same P_law_same (n + 0) (Gr_law_same n) f fd
  | 0 => kn_bad mm F sc_law_same
  | n + 1 => (kn_of mm F sc_law_same rfl (D_law_same mg_bool mg_int mg_isinstance mg_len mg_str mg_tuple mg_zip (Nat.le_add_left _ n) (KR_law_same mg_bool mg_int mg_isinstance mg_len mg_str mg_tuple mg_zip mm F n))).up (by omega)
theorem K_law_same {ct : String → Addr} {P : Program} {w : World} {K : PySem.W.Frag} {mg : Str → Option Value} {base : Heap} (mg_bool : mg "bool" = none) (mg_int : mg "int" = none) (mg_isinstance : mg "isinstance" = none) (mg_len : mg "len" = none) (mg_str : mg "str" = none) (mg_tuple : mg "tuple" = none) (mg_zip : mg "zip" = none) {f : Addr} {fd : FuncData} (mm : mg "_law_same" = some (.ref f)) (F : Fun K "_law_same" "_law_same" S_law_same f fd) : Kn ct P w K mg base "_law_same" S_law_same P_law_same 8 G_law_same f fd := KR_law_same mg_bool mg_int mg_isinstance mg_len mg_str mg_tuple mg_zip mm F 8
theorem D_law_frame {ct : String → Addr} {P : Program} {w : World} {K : PySem.W.Frag} {mg : Str → Option Value} {base : Heap} (mg_enumerate : mg "enumerate" = none) (mg_int : mg "int" = none) (mg_len : mg "len" = none) (mg_tuple : mg "tuple" = none) : ∀ (f : Addr) (cdv : Value) (A : Around) (outer : List Env) (s : Shared) (H : Hp) (E : XK), Room 0 (A.deeper (envOfC "_law_frame" (defScope S_law_frame) s.heap.objs.size f cdv)) → SSs ct (bodyX P w K mg base N_law_frame "_law_frame" S_law_frame f cdv A outer s H E) noE (defBody S_law_frame) B_law_frame := fun f cdv A outer s H E hr =>
  ss_cons (s_par3 2 3 4 rfl sc_law_frame.nd (sa_cons (si_callB (cb_len) (by rfl) mg_len (by first | exact boot_len | decide +kernel) (sa_cons (si_var 1 (pv 1)) (sa_nil))) (sa_cons (si_int) (sa_cons (si_int) (sa_nil))))) (ss_cons (s_for 16777215 PassesOwn.never rfl (w_enum (by rfl) mg_enumerate (sa_cons (si_var 1 (pv 1)) (sa_nil))) (sp_tp rfl (sps_cons (sp_nm 5 sc_law_frame.nd) (sps_cons (sp_nm 6 sc_law_frame.nd) (sps_nil)))) (ss_one (s_par2 3 4 rfl sc_law_frame.nd (sa_cons (si_xor (si_var 3 (pv 3)) (si_var 6 (pv 6))) (sa_cons (si_add (si_var 4 (pv 4)) (si_mul (si_add (si_var 5 (pv 5)) (si_int)) (si_var 6 (pv 6)))) (sa_nil)))))) (ss_cons (s_set 4 sc_law_frame.nd (si_mod (si_callTy (cb_int) (by rfl) mg_int (by first | exact boot_int | decide +kernel) (sa_cons (si_var 4 (pv 4)) (sa_nil))) (si_int))) (ss_cons (s_set 7 sc_law_frame.nd (si_tup (sa_cons (si_var 0 (pv 0)) (sa_cons (si_fdiv (si_var 2 (pv 2)) (si_int)) (sa_cons (si_mod (si_callTy (cb_int) (by rfl) mg_int (by first | exact boot_int | decide +kernel) (sa_cons (si_var 2 (pv 2)) (sa_nil))) (si_int)) (sa_nil)))))) (ss_one (s_ret (si_add (si_add (si_add (si_var 7 (pv 7)) (si_tup (sa_cons (si_xor (si_xor (si_ix (si_var 7 (pv 7)) (si_int)) (si_ix (si_var 7 (pv 7)) (si_int))) (si_ix (si_var 7 (pv 7)) (si_int))) (sa_nil)))) (si_callTy (cb_tuple) (by rfl) mg_tuple (by first | exact boot_tuple | decide +kernel) (sa_cons (si_var 1 (pv 1)) (sa_nil)))) (si_tup (sa_cons (si_var 3 (pv 3)) (sa_cons (si_fdiv (si_var 4 (pv 4)) (si_int)) (sa_cons (si_mod (si_callTy (cb_int) (by rfl) mg_int (by first | exact boot_int | decide +kernel) (sa_cons (si_var 4 (pv 4)) (sa_nil))) (si_int)) (sa_nil)))))))))))
theorem K_law_frame {ct : String → Addr} {P : Program} {w : World} {K : PySem.W.Frag} {mg : Str → Option Value} {base : Heap} (mg_enumerate : mg "enumerate" = none) (mg_int : mg "int" = none) (mg_len : mg "len" = none) (mg_tuple : mg "tuple" = none) {f : Addr} {fd : FuncData} (mm : mg "_law_frame" = some (.ref f)) (F : Fun K "_law_frame" "_law_frame" S_law_frame f fd) : Kn ct P w K mg base "_law_frame" S_law_frame P_law_frame 1 G_law_frame f fd := kn_of mm F sc_law_frame rfl (D_law_frame mg_enumerate mg_int mg_len mg_tuple)
theorem D_law_payload {ct : String → Addr} {P : Program} {w : World} {K : PySem.W.Frag} {mg : Str → Option Value} {base : Heap} (mg_range : mg "range" = none) (mg_tuple : mg "tuple" = none) {f_law_pick : Addr} {fd_law_pick : FuncData} (k_law_pick : Kn ct P w K mg base "_law_pick" S_law_pick P_law_pick 2 G_law_pick f_law_pick fd_law_pick) {f_law_take : Addr} {fd_law_take : FuncData} (k_law_take : Kn ct P w K mg base "_law_take" S_law_take P_law_take 1 G_law_take f_law_take fd_law_take) : ∀ (f : Addr) (cdv : Value) (A : Around) (outer : List Env) (s : Shared) (H : Hp) (E : XK), Room 2 (A.deeper (envOfC "_law_payload" (defScope S_law_payload) s.heap.objs.size f cdv)) → SSs ct (bodyX P w K mg base N_law_payload "_law_payload" S_law_payload f cdv A outer s H E) noE (defBody S_law_payload) B_law_payload := fun f cdv A outer s H E hr =>
  ss_cons (s_set 1 sc_law_payload.nd (si_kn k_law_pick 2 (hr.mono (by decide)) (fun _ _ _ _ _ _ us hl => match us, hl with | [_, _], _ => rfl) (sa_cons (si_var 0 (pv 0)) (sa_cons (si_rol (sf_lst (sa_cons (si_int) (sa_cons (si_int) (sa_cons (si_int) (sa_cons (si_int) (sa_cons (si_int) (sa_cons (si_int) (sa_cons (si_int) (sa_cons (si_int) (sa_nil))))))))))) (sa_nil))))) (ss_one (s_ret (si_callTy (cb_tuple) (by rfl) mg_tuple (by first | exact boot_tuple | decide +kernel) (sa_cons (si_comp (p := .nm 2) fin_rol 16777215 [(("turn" : Str), 2)] rfl sc_law_payload.nd (w_range1 (by rfl) mg_range (sa_cons (si_var 1 (pv 1)) (sa_nil))) (blkOk_by (N := N_law_payload) (sc := defScope S_law_payload) (by decide +kernel)) (fun _ _ _ _ _ => sp_nm 2 sc_law_payload.nd) (fun _ _ _ _ _ => sts_nil) (fun _ _ _ _ _ => si_kn k_law_pick 2 (hr.mono (by decide)) (fun _ _ _ _ _ _ us hl => match us, hl with | [_, _], _ => rfl) (sa_cons (si_var 0 (pv 0)) (sa_cons (si_rol (sf_lst (sa_cons (si_int) (sa_cons (si_int) (sa_cons (si_int) (sa_cons (si_kn k_law_take 2 (hr.mono (by decide)) (fun _ _ _ _ _ _ us hl => match us, hl with | [_, _], _ => rfl) (sa_cons (si_var 0 (pv 0)) (sa_cons (si_int) (sa_nil)))) (sa_nil))))))) (sa_nil)))) (by simp [Pt.slots, Pt.slotsAll])) (sa_nil)))))
theorem K_law_payload {ct : String → Addr} {P : Program} {w : World} {K : PySem.W.Frag} {mg : Str → Option Value} {base : Heap} (mg_range : mg "range" = none) (mg_tuple : mg "tuple" = none) {f_law_pick : Addr} {fd_law_pick : FuncData} (k_law_pick : Kn ct P w K mg base "_law_pick" S_law_pick P_law_pick 2 G_law_pick f_law_pick fd_law_pick) {f_law_take : Addr} {fd_law_take : FuncData} (k_law_take : Kn ct P w K mg base "_law_take" S_law_take P_law_take 1 G_law_take f_law_take fd_law_take) {f : Addr} {fd : FuncData} (mm : mg "_law_payload" = some (.ref f)) (F : Fun K "_law_payload" "_law_payload" S_law_payload f fd) : Kn ct P w K mg base "_law_payload" S_law_payload P_law_payload 3 G_law_payload f fd := kn_of mm F sc_law_payload rfl (D_law_payload mg_range mg_tuple k_law_pick k_law_take)
theorem D_law {ct : String → Addr} {P : Program} {w : World} {K : PySem.W.Frag} {mg : Str → Option Value} {base : Heap} (mg_len : mg "len" = none) (mg_list : mg "list" = none) (mg_max : mg "max" = none) (mg_min : mg "min" = none) (mg_range : mg "range" = none) (mg_tuple : mg "tuple" = none) {f_law_box : Addr} {fd_law_box : FuncData} (k_law_box : Kn ct P w K mg base "_law_box" S_law_box P_law_box 1 G_law_box f_law_box fd_law_box) {f_law_take : Addr} {fd_law_take : FuncData} (k_law_take : Kn ct P w K mg base "_law_take" S_law_take P_law_take 1 G_law_take f_law_take fd_law_take) {f_law_payload : Addr} {fd_law_payload : FuncData} (k_law_payload : Kn ct P w K mg base "_law_payload" S_law_payload P_law_payload 3 G_law_payload f_law_payload fd_law_payload) {f_law_same : Addr} {fd_law_same : FuncData} (k_law_same : Kn ct P w K mg base "_law_same" S_law_same P_law_same 8 G_law_same f_law_same fd_law_same) {f_law_frame : Addr} {fd_law_frame : FuncData} (k_law_frame : Kn ct P w K mg base "_law_frame" S_law_frame P_law_frame 1 G_law_frame f_law_frame fd_law_frame) {f_frame : Addr} {fd_frame : FuncData} (k_frame : Kn ct P w K mg base "frame" S_frame P_frame 3 G_frame f_frame fd_frame) {f_frames_of : Addr} {fd_frames_of : FuncData} (k_frames_of : Kn ct P w K mg base "frames_of" S_frames_of P_frames_of 3 G_frames_of f_frames_of fd_frames_of) {f_whole_octets : Addr} {fd_whole_octets : FuncData} (k_whole_octets : Kn ct P w K mg base "whole_octets" S_whole_octets P_whole_octets 4 G_whole_octets f_whole_octets fd_whole_octets) : ∀ (f : Addr) (cdv : Value) (A : Around) (outer : List Env) (s : Shared) (H : Hp) (E : XK), Room 8 (A.deeper (envOfC "law" (defScope S_law) s.heap.objs.size f cdv)) → SSs ct (bodyX P w K mg base N_law "law" S_law f cdv A outer s H E) noE (defBody S_law) B_law := fun f cdv A outer s H E hr =>
  ss_cons (s_for 16777215 PassesOwn.never rfl (w_range1 (by rfl) mg_range (sa_cons (si_callB (cb_max rfl) (by rfl) mg_max (by first | exact boot_max | decide +kernel) (sa_cons (si_int) (sa_cons (si_callB (cb_min rfl) (by rfl) mg_min (by first | exact boot_min | decide +kernel) (sa_cons (si_callB (cb_len) (by rfl) mg_len (by first | exact boot_len | decide +kernel) (sa_cons (si_var 0 (pv 0)) (sa_nil))) (sa_cons (si_int) (sa_nil)))) (sa_nil)))) (sa_nil))) (sp_nm 1 sc_law.nd) (ss_cons (s_set 2 sc_law.nd (si_kn k_law_box 2 (hr.mono (by decide)) (fun _ _ _ _ _ _ us hl => match us, hl with | [_, _], _ => rfl) (sa_cons (si_var 0 (pv 0)) (sa_cons (si_var 1 (pv 1)) (sa_nil))))) (ss_cons (s_set 4 sc_law.nd (si_callTy (cb_tuple) (by rfl) mg_tuple (by first | exact boot_tuple | decide +kernel) (sa_cons (si_comp (p := .nm 3) fin_rol 16777215 [(("turn" : Str), 3)] rfl sc_law.nd (w_range1 (by rfl) mg_range (sa_cons (si_add (si_int) (si_kn k_law_take 2 (hr.mono (by decide)) (fun _ _ _ _ _ _ us hl => match us, hl with | [_, _], _ => rfl) (sa_cons (si_var 2 (pv 2)) (sa_cons (si_int) (sa_nil))))) (sa_nil))) (blkOk_by (N := N_law) (sc := defScope S_law) (by decide +kernel)) (fun _ _ _ _ _ => sp_nm 3 sc_law.nd) (fun _ _ _ _ _ => sts_nil) (fun _ _ _ _ _ => si_tup (sa_cons (si_kn k_law_take 2 (hr.mono (by decide)) (fun _ _ _ _ _ _ us hl => match us, hl with | [_, _], _ => rfl) (sa_cons (si_var 2 (pv 2)) (sa_cons (si_int) (sa_nil)))) (sa_cons (si_kn k_law_payload 1 (hr.mono (by decide)) (fun _ _ _ _ _ _ us hl => match us, hl with | [_], _ => rfl) (sa_cons (si_var 2 (pv 2)) (sa_nil))) (sa_nil)))) (by simp [Pt.slots, Pt.slotsAll])) (sa_nil)))) (ss_cons (s_asg (si_tup (sa_cons (si_tup (sa_nil)) (sa_cons (si_cell (sf_lst (sa_cons (si_int) (sa_nil)))) (sa_nil)))) (sp_tp rfl (sps_cons (sp_nm 5 sc_law.nd) (sps_cons (sp_nm 6 sc_law.nd) (sps_nil))))) (ss_cons (s_for 16777215 PassesOwn.never rfl (w_walk (si_var 4 (pv 4))) (sp_tp rfl (sps_cons (sp_nm 7 sc_law.nd) (sps_cons (sp_nm 8 sc_law.nd) (sps_nil)))) (ss_cons (s_if (sb_not (sb_tru (si_kn k_law_same 2 (hr.mono (by decide)) (fun _ _ _ _ _ _ us hl => match us, hl with | [_, _], _ => rfl) (sa_cons (si_knK k_frame (hr.mono (by decide)) 1 1 rfl (by decide) (fun _ _ _ _ _ _ us ws h1 h2 => match us, ws, h1, h2 with | [_], [_], _, _ => rfl) (sa_cons (si_var 7 (pv 7)) (sa_nil)) (sk_cons (si_var 8 (pv 8)) (sk_nil))) (sa_cons (si_kn k_law_frame 2 (hr.mono (by decide)) (fun _ _ _ _ _ _ us hl => match us, hl with | [_, _], _ => rfl) (sa_cons (si_var 7 (pv 7)) (sa_cons (si_var 8 (pv 8)) (sa_nil)))) (sa_nil)))))) (ss_one (s_ret (si_bl))) (ss_nil)) (ss_cons (s_set 5 sc_law.nd (si_add (si_var 5 (pv 5)) (si_kn k_law_frame 2 (hr.mono (by decide)) (fun _ _ _ _ _ _ us hl => match us, hl with | [_, _], _ => rfl) (sa_cons (si_var 7 (pv 7)) (sa_cons (si_var 8 (pv 8)) (sa_nil)))))) (ss_one (s_expr (si_append (si_var 6 (pv 6)) (sa_cons (si_callB (cb_len) (by rfl) mg_len (by first | exact boot_len | decide +kernel) (sa_cons (si_var 5 (pv 5)) (sa_nil))) (sa_nil)))))))) (ss_cons (s_if (sb_not (sb_tru (si_kn k_law_same 2 (hr.mono (by decide)) (fun _ _ _ _ _ _ us hl => match us, hl with | [_, _], _ => rfl) (sa_cons (si_kn k_frames_of 1 (hr.mono (by decide)) (fun _ _ _ _ _ _ us hl => match us, hl with | [_], _ => rfl) (sa_cons (si_var 5 (pv 5)) (sa_nil))) (sa_cons (si_tup (sa_cons (si_var 4 (pv 4)) (sa_cons (si_non) (sa_nil)))) (sa_nil)))))) (ss_one (s_ret (si_bl))) (ss_nil)) (ss_cons (s_set 9 sc_law.nd (si_if (sb_c (c_lt) (si_callB (cb_len) (by rfl) mg_len (by first | exact boot_len | decide +kernel) (sa_cons (si_var 5 (pv 5)) (sa_nil))) (si_int)) (si_rol (sf_listRange rfl (by rfl) mg_list (by rfl) mg_range (si_callB (cb_len) (by rfl) mg_len (by first | exact boot_len | decide +kernel) (sa_cons (si_var 5 (pv 5)) (sa_nil))))) (si_add (si_comp (p := .nm 3) fin_rol 16777215 [(("turn" : Str), 3)] rfl sc_law.nd (w_range1 (by rfl) mg_range (sa_cons (si_int) (sa_nil))) (blkOk_by (N := N_law) (sc := defScope S_law) (by decide +kernel)) (fun _ _ _ _ _ => sp_nm 3 sc_law.nd) (fun _ _ _ _ _ => sts_nil) (fun _ _ _ _ _ => si_kn k_law_take 2 (hr.mono (by decide)) (fun _ _ _ _ _ _ us hl => match us, hl with | [_, _], _ => rfl) (sa_cons (si_var 2 (pv 2)) (sa_cons (si_callB (cb_len) (by rfl) mg_len (by first | exact boot_len | decide +kernel) (sa_cons (si_var 5 (pv 5)) (sa_nil))) (sa_nil)))) (by simp [Pt.slots, Pt.slotsAll])) (si_sl (si_var 6 (pv 6)) (so_none) (so_some (si_neg (si_int))))))) (ss_cons (s_for 16777215 PassesOwn.never rfl (w_walk (si_var 9 (pv 9))) (sp_nm 10 sc_law.nd) (ss_cons (s_set 11 sc_law.nd (si_callB (cb_len) (by rfl) mg_len (by first | exact boot_len | decide +kernel) (sa_cons (si_comp (p := .nm 18) fin_rol 16777215 [(("end" : Str), 18)] rfl sc_law.nd (w_walk (si_sl (si_var 6 (pv 6)) (so_some (si_int)) (so_none))) (blkOk_by (N := N_law) (sc := defScope S_law) (by decide +kernel)) (fun _ _ _ _ _ => sp_nm 18 sc_law.nd) (fun _ _ _ _ _ => sts_one (sb_c (c_le) (si_var 18 (pv 18)) (si_var 10 (pv 10)))) (fun _ _ _ _ _ => si_int) (by simp [Pt.slots, Pt.slotsAll])) (sa_nil)))) (ss_cons (s_set 12 sc_law.nd (si_tup (sa_cons (si_sl (si_var 4 (pv 4)) (so_none) (so_some (si_var 11 (pv 11)))) (sa_cons (si_if (sb_c (c_in) (si_var 10 (pv 10)) (si_var 6 (pv 6))) (si_non) (si_tup (sa_cons (si_str) (sa_cons (si_var 11 (pv 11)) (sa_nil))))) (sa_nil))))) (ss_one (s_if (sb_w (sw_or (sb_not (sb_tru (si_kn k_law_same 2 (hr.mono (by decide)) (fun _ _ _ _ _ _ us hl => match us, hl with | [_, _], _ => rfl) (sa_cons (si_kn k_frames_of 1 (hr.mono (by decide)) (fun _ _ _ _ _ _ us hl => match us, hl with | [_], _ => rfl) (sa_cons (si_sl (si_var 5 (pv 5)) (so_none) (so_some (si_var 10 (pv 10)))) (sa_nil))) (sa_cons (si_var 12 (pv 12)) (sa_nil)))))) (sw_or1 (sb_not (sb_tru (si_kn k_law_same 2 (hr.mono (by decide)) (fun _ _ _ _ _ _ us hl => match us, hl with | [_, _], _ => rfl) (sa_cons (si_kn k_whole_octets 1 (hr.mono (by decide)) (fun _ _ _ _ _ _ us hl => match us, hl with | [_], _ => rfl) (sa_cons (si_sl (si_var 5 (pv 5)) (so_none) (so_some (si_var 10 (pv 10)))) (sa_nil))) (sa_cons (si_ix (si_var 6 (pv 6)) (si_var 11 (pv 11))) (sa_nil))))))))) (ss_one (s_ret (si_bl))) (ss_nil)))))) (ss_one (s_for 16777215 PassesOwn.never rfl (w_range1 (by rfl) mg_range (sa_cons (si_int) (sa_nil))) (sp_nm 3 sc_law.nd) (ss_cons (s_set 13 sc_law.nd (si_kn k_law_take 2 (hr.mono (by decide)) (fun _ _ _ _ _ _ us hl => match us, hl with | [_, _], _ => rfl) (sa_cons (si_var 2 (pv 2)) (sa_cons (si_callB (cb_len) (by rfl) mg_len (by first | exact boot_len | decide +kernel) (sa_cons (si_var 5 (pv 5)) (sa_nil))) (sa_nil))))) (ss_cons (s_set 11 sc_law.nd (si_callB (cb_len) (by rfl) mg_len (by first | exact boot_len | decide +kernel) (sa_cons (si_comp (p := .nm 18) fin_rol 16777215 [(("end" : Str), 18)] rfl sc_law.nd (w_walk (si_sl (si_var 6 (pv 6)) (so_some (si_int)) (so_none))) (blkOk_by (N := N_law) (sc := defScope S_law) (by decide +kernel)) (fun _ _ _ _ _ => sp_nm 18 sc_law.nd) (fun _ _ _ _ _ => sts_one (sb_c (c_le) (si_var 18 (pv 18)) (si_var 13 (pv 13)))) (fun _ _ _ _ _ => si_int) (by simp [Pt.slots, Pt.slotsAll])) (sa_nil)))) (ss_cons (s_set 14 sc_law.nd (si_add (si_add (si_sl (si_var 5 (pv 5)) (so_none) (so_some (si_var 13 (pv 13)))) (si_tup (sa_cons (si_and (si_add (si_add (si_ix (si_var 5 (pv 5)) (si_var 13 (pv 13))) (si_int)) (si_kn k_law_take 2 (hr.mono (by decide)) (fun _ _ _ _ _ _ us hl => match us, hl with | [_, _], _ => rfl) (sa_cons (si_var 2 (pv 2)) (sa_cons (si_int) (sa_nil))))) (si_int)) (sa_nil)))) (si_sl (si_var 5 (pv 5)) (so_some (si_add (si_var 13 (pv 13)) (si_int))) (so_none)))) (ss_cons (s_if (sb_not (sb_tru (si_kn k_law_same 2 (hr.mono (by decide)) (fun _ _ _ _ _ _ us hl => match us, hl with | [_, _], _ => rfl) (sa_cons (si_kn k_frames_of 1 (hr.mono (by decide)) (fun _ _ _ _ _ _ us hl => match us, hl with | [_], _ => rfl) (sa_cons (si_var 14 (pv 14)) (sa_nil))) (sa_cons (si_tup (sa_cons (si_sl (si_var 4 (pv 4)) (so_none) (so_some (si_var 11 (pv 11)))) (sa_cons (si_tup (sa_cons (si_str) (sa_cons (si_var 11 (pv 11)) (sa_nil)))) (sa_nil)))) (sa_nil)))))) (ss_one (s_ret (si_bl))) (ss_nil)) (ss_cons (s_par2 15 16 rfl sc_law.nd (sa_cons (si_add (si_ix (si_var 6 (pv 6)) (si_var 11 (pv 11))) (si_int)) (sa_cons (si_callB (cb_len) (by rfl) mg_len (by first | exact boot_len | decide +kernel) (sa_cons (si_ix (si_ix (si_var 4 (pv 4)) (si_var 11 (pv 11))) (si_int)) (sa_nil))) (sa_nil)))) (ss_one (s_if (sb_c (c_gt) (si_var 16 (pv 16)) (si_int)) (ss_cons (s_set 17 sc_law.nd (si_add (si_var 15 (pv 15)) (si_kn k_law_take 2 (hr.mono (by decide)) (fun _ _ _ _ _ _ us hl => match us, hl with | [_, _], _ => rfl) (sa_cons (si_var 2 (pv 2)) (sa_cons (si_sub (si_var 16 (pv 16)) (si_int)) (sa_nil)))))) (ss_cons (s_set 14 sc_law.nd (si_add (si_add (si_sl (si_var 5 (pv 5)) (so_none) (so_some (si_var 17 (pv 17)))) (si_tup (sa_cons (si_ix (si_var 5 (pv 5)) (si_add (si_var 17 (pv 17)) (si_int))) (sa_cons (si_ix (si_var 5 (pv 5)) (si_var 17 (pv 17))) (sa_nil))))) (si_sl (si_var 5 (pv 5)) (so_some (si_add (si_var 17 (pv 17)) (si_int))) (so_none)))) (ss_cons (s_set 12 sc_law.nd (si_if (sb_c (c_eq hr.units) (si_ix (si_var 5 (pv 5)) (si_var 17 (pv 17))) (si_ix (si_var 5 (pv 5)) (si_add (si_var 17 (pv 17)) (si_int)))) (si_tup (sa_cons (si_var 4 (pv 4)) (sa_cons (si_non) (sa_nil)))) (si_tup (sa_cons (si_sl (si_var 4 (pv 4)) (so_none) (so_some (si_var 11 (pv 11)))) (sa_cons (si_tup (sa_cons (si_str) (sa_cons (si_var 11 (pv 11)) (sa_nil)))) (sa_nil)))))) (ss_one (s_if (sb_not (sb_tru (si_kn k_law_same 2 (hr.mono (by decide)) (fun _ _ _ _ _ _ us hl => match us, hl with | [_, _], _ => rfl) (sa_cons (si_kn k_frames_of 1 (hr.mono (by decide)) (fun _ _ _ _ _ _ us hl => match us, hl with | [_], _ => rfl) (sa_cons (si_var 14 (pv 14)) (sa_nil))) (sa_cons (si_var 12 (pv 12)) (sa_nil)))))) (ss_one (s_ret (si_bl))) (ss_nil)))))) (ss_nil)))))))))))))))))) (ss_one (s_ret (si_kn k_law_same 2 (hr.mono (by decide)) (fun _ _ _ _ _ _ us hl => match us, hl with | [_, _], _ => rfl) (sa_cons (si_kn k_frame 2 (hr.mono (by decide)) (fun _ _ _ _ _ _ us hl => match us, hl with | [_, _], _ => rfl) (sa_cons (si_int) (sa_cons (si_tup (sa_cons (si_int) (sa_cons (si_int) (sa_nil)))) (sa_nil)))) (sa_cons (si_tup (sa_cons (si_int) (sa_cons (si_int) (sa_cons (si_int) (sa_cons (si_int) (sa_cons (si_int) (sa_cons (si_int) (sa_cons (si_int) (sa_cons (si_int) (sa_cons (si_int) (sa_nil))))))))))) (sa_nil))))))
theorem K_law {ct : String → Addr} {P : Program} {w : World} {K : PySem.W.Frag} {mg : Str → Option Value} {base : Heap} (mg_len : mg "len" = none) (mg_list : mg "list" = none) (mg_max : mg "max" = none) (mg_min : mg "min" = none) (mg_range : mg "range" = none) (mg_tuple : mg "tuple" = none) {f_law_box : Addr} {fd_law_box : FuncData} (k_law_box : Kn ct P w K mg base "_law_box" S_law_box P_law_box 1 G_law_box f_law_box fd_law_box) {f_law_take : Addr} {fd_law_take : FuncData} (k_law_take : Kn ct P w K mg base "_law_take" S_law_take P_law_take 1 G_law_take f_law_take fd_law_take) {f_law_payload : Addr} {fd_law_payload : FuncData} (k_law_payload : Kn ct P w K mg base "_law_payload" S_law_payload P_law_payload 3 G_law_payload f_law_payload fd_law_payload) {f_law_same : Addr} {fd_law_same : FuncData} (k_law_same : Kn ct P w K mg base "_law_same" S_law_same P_law_same 8 G_law_same f_law_same fd_law_same) {f_law_frame : Addr} {fd_law_frame : FuncData} (k_law_frame : Kn ct P w K mg base "_law_frame" S_law_frame P_law_frame 1 G_law_frame f_law_frame fd_law_frame) {f_frame : Addr} {fd_frame : FuncData} (k_frame : Kn ct P w K mg base "frame" S_frame P_frame 3 G_frame f_frame fd_frame) {f_frames_of : Addr} {fd_frames_of : FuncData} (k_frames_of : Kn ct P w K mg base "frames_of" S_frames_of P_frames_of 3 G_frames_of f_frames_of fd_frames_of) {f_whole_octets : Addr} {fd_whole_octets : FuncData} (k_whole_octets : Kn ct P w K mg base "whole_octets" S_whole_octets P_whole_octets 4 G_whole_octets f_whole_octets fd_whole_octets) {f : Addr} {fd : FuncData} (mm : mg "law" = some (.ref f)) (F : Fun K "law" "law" S_law f fd) : Kn ct P w K mg base "law" S_law P_law 9 G_law f fd := kn_of mm F sc_law rfl (D_law mg_len mg_list mg_max mg_min mg_range mg_tuple k_law_box k_law_take k_law_payload k_law_same k_law_frame k_frame k_frames_of k_whole_octets)
end QI

namespace QI
open PySem PySem.Spec PyProof.Rows L2
/-! numbers as values -/
def nD (ns : List Nat) : List D := ns.map fun n => .int (n : Nat)
@[simp] theorem nD_nil : nD [] = [] := rfl
@[simp] theorem nD_cons (n : Nat) (ns : List Nat) : nD (n :: ns) = .int (n : Nat) :: nD ns := rfl
@[simp] theorem nD_len (ns : List Nat) : (nD ns).length = ns.length := by simp [nD]
theorem nD_app (a b : List Nat) : nD (a ++ b) = nD a ++ nD b := by simp [nD]
@[simp] theorem nD_get (ns : List Nat) (i : Nat) : (nD ns)[i]? = ns[i]?.map fun n => D.int (n : Nat) := by simp [nD]
theorem nD_take (ns : List Nat) (i : Nat) : (nD ns).take i = nD (ns.take i) := by simp [nD, List.map_take]
theorem nD_drop (ns : List Nat) (i : Nat) : (nD ns).drop i = nD (ns.drop i) := by simp [nD, List.map_drop]
@[simp] theorem nD_lo (k : Nat) (ns : List Nat) : D.loAll k (nD ns) = true := by simp [nD]
theorem nD_inj {a b : List Nat} (h : nD a = nD b) : a = b := by
  induction a generalizing b with
  | nil => cases b with | nil => rfl | cons _ _ => cases h
  | cons x a ih => cases b with
    | nil => cases h
    | cons y b =>
      simp only [nD_cons, List.cons.injEq, D.int.injEq] at h
      rw [ih h.2, Int.ofNat.inj h.1]
theorem nD_ints (ns : List Nat) : nD ns = (ns.map fun n => ((n : Nat) : Int)).map D.int := by simp [nD]
theorem gEq_nD (st : Sto) (a b : List Nat) : gEq st (.tup (nD a)) (.tup (nD b)) = some (decide (a = b)) := by
  rw [nD_ints, nD_ints, gEq_ints]
  congr 1
  by_cases h : a = b
  · subst h; simp
  · rw [decide_eq_false h, decide_eq_false]
    intro z
    exact h (nD_inj (by rw [nD_ints, nD_ints, z]))
theorem gNeE_nD (st : Sto) (a b : List Nat) : gNeE (.tup (nD a)) (.tup (nD b)) st = .ok (.bl (!decide (a = b))) st := by
  unfold gNeE
  rw [gEq_nD]; rfl
namespace F59
def xr (ns : List Nat) : Nat := ns.foldl (· ^^^ ·) 0
def ws : Nat → List Nat → Nat
  | _, [] => 0
  | k, n :: ns => (k + 1) * n + ws (k + 1) ns
def W (ns : List Nat) : Nat := ws 0 ns % 65521
def xh (k l : Nat) : Nat := (k ^^^ (l / 256)) ^^^ (l % 256)
def hd (k l : Nat) : List Nat := [k, l / 256, l % 256, xh k l]
def ft (p : List Nat) : List Nat := [xr p, W p / 256, W p % 256]
def fr (r : Nat × List Nat) : List Nat := hd r.1 r.2.length ++ r.2 ++ ft r.2
theorem nxor (a b : Nat) : Builtin.bitXor (a : Int) (b : Int) = ((a ^^^ b : Nat) : Int) := by
  rw [Bits.bitXor_pp (Int.natCast_nonneg a) (Int.natCast_nonneg b)]; rfl
theorem e_xored {st : Sto} (hc : Closed st) (ns : List Nat) (hn : ns.length < 1000000) : G_xored [.tup (nD ns)] st = .ok (.int (xr ns : Nat)) st := by
  refine run_pure hc (by simp) ?_
  obtain ⟨e', st', h1, h2, t, rfl⟩ := for_inv0 (wk := wkSeq (nD ns)) (p := .nm 2) (S := L_xored_1) (items := nD ns) (fun i env s => s = st ∧ ∃ t, env = [some (.tup (nD ns)), some (.int ((ns.take i).foldl (· ^^^ ·) 0 : Nat)), t])
    (fun i env s _ => wkSeq_at _ _ _)
    (fun i d env s hd h => by
      obtain ⟨rfl, t, rfl⟩ := h
      rw [nD_get] at hd
      cases q : ns[i]? with
      | none => rw [q] at hd; cases hd
      | some n =>
        rw [q] at hd
        cases hd
        refine ⟨_, put_nm _ _, [some (.tup (nD ns)), some (.int ((ns.take (i + 1)).foldl (· ^^^ ·) 0 : Nat)), some (.int (n : Nat))], s, .inl ?_, rfl, _, rfl⟩
        simp [L_xored_1, nxor, List.take_add_one, q])
    (n := 16777215) (env := [some (.tup (nD ns)), some (.int 0), none]) (st := st) (by simp; omega) ⟨rfl, none, by simp⟩
  have : B_xored (startE N_xored [.tup (nD ns)]) st = .ok (.rt (.int (xr ns : Nat))) st := by
    simp [B_xored, startE, seqWk, h1, h2]
    rfl
  exact this
theorem ws_app (k : Nat) (a b : List Nat) : ws k (a ++ b) = ws k a + ws (k + a.length) b := by
  induction a generalizing k with
  | nil => simp [ws]
  | cons x a ih => simp only [List.cons_append, ws, ih, List.length_cons]; rw [show k + 1 + a.length = k + (a.length + 1) by omega]; omega
theorem sum_ws (ns : List Nat) (k : Nat) : (ns.mapIdx fun i n => (((i + k + 1) * n : Nat) : Int)).sum = (ws k ns : Nat) := by
  induction ns generalizing k with
  | nil => rfl
  | cons n ns ih =>
    rw [List.mapIdx_cons, List.sum_cons]
    have := ih (k + 1)
    have e : (fun (i n : Nat) => (((i + (k + 1) + 1) * n : Nat) : Int)) = fun (i n : Nat) => (((i + 1 + k + 1) * n : Nat) : Int) := by
      funext i n; rw [show i + (k + 1) + 1 = i + 1 + k + 1 by omega]
    rw [e] at this
    rw [this]
    simp only [ws]
    push_cast
    simp
theorem e_weighed {st : Sto} (hc : Closed st) (ns : List Nat) (hn : ns.length < 1000000) (hb : ∀ n ∈ ns, n < 1000000) : G_weighed [.tup (nD ns)] st = .ok (.int (W ns : Nat)) st := by
  refine run_pure hc (by simp) ?_
  have hcomp := comp_to (wk := wkEnum (wkSeq (nD ns))) (p := .tp [.nm 1, .nm 2]) (T := iYes) (A := iBin gMul (iBin gAdd (iVar 1) (iC (.int 1))) (iVar 2)) (vs := [1, 2]) (env := [some (.tup (nD ns)), none, none]) (fin := fRol) (st := st) (items := enumD (nD ns))
    ((ns.mapIdx fun i n => (((i + 0 + 1) * n : Nat) : Int)).map D.int) (by simp) (fun i => wkEnum_at (wkSeq_at _ _ _)) (fun i d y hd hy => by
        obtain ⟨e, he, rfl⟩ := enumD_get hd
        rw [nD_get] at he
        rw [List.getElem?_map, List.getElem?_mapIdx] at hy
        cases q : ns[i]? with
        | none => rw [q] at he; cases he
        | some n =>
          rw [q] at he hy
          cases he
          cases hy
          refine ⟨_, by simp [wipeE]; rfl, rfl, ?_⟩
          have := hb n (List.mem_of_getElem? q)
          simp [wipeE]
          omega) (n := 16777215) (by simp; omega) (by simp; omega)
  have hs := sum_ws ns 0
  simp [B_weighed, startE, fEnum, hcomp, W, ← hs]
theorem e_head_of {st : Sto} (hc : Closed st) (k l : Nat) : G_head_of [.int k, .int l] st = .ok (.tup (nD (hd k l))) st := by
  refine run_pure hc (by simp) ?_
  have h := e_xored hc [k, l / 256, l % 256] (by simp)
  simp at h
  simp [B_head_of, startE, h, hd, xr, xh]
theorem e_foot_of {st : Sto} (hc : Closed st) (p : List Nat) (hn : p.length < 1000000) (hb : ∀ n ∈ p, n < 1000000) : G_foot_of [.tup (nD p)] st = .ok (.tup (nD (ft p))) st := by
  refine run_pure hc (by simp) ?_
  simp [B_foot_of, startE, e_weighed hc p hn hb, e_xored hc p hn, ft]
theorem hd_len (k l : Nat) : (hd k l).length = 4 := rfl
theorem ft_len (p : List Nat) : (ft p).length = 3 := rfl
theorem fr_len (r : Nat × List Nat) : (fr r).length = r.2.length + 7 := by simp [fr, hd_len, ft_len]; omega
theorem e_frame {st : Sto} (hc : Closed st) (k : Nat) (p : List Nat) (hn : p.length < 1000000) (hb : ∀ n ∈ p, n < 1000000) : G_frame [.int k, .tup (nD p)] st = .ok (.tup (nD (fr (k, p)))) st := by
  refine run_pure hc (by simp) ?_
  have h := e_head_of hc k p.length
  have z1 : 4 + p.length ≤ 16777216 := by omega
  have z2 : 4 + p.length + 3 ≤ 16777216 := by omega
  simp [B_frame, startE, e_foot_of hc p hn hb, h, fr, nD_app, hd_len, ft_len, z1, z2]
theorem e_law_frame {st : Sto} (hc : Closed st) (k : Nat) (p : List Nat) (hn : p.length < 1000000) (hb : ∀ n ∈ p, n < 1000000) : G_law_frame [.int k, .tup (nD p)] st = .ok (.tup (nD (fr (k, p)))) st := by
  refine run_pure hc (by simp) ?_
  obtain ⟨e', st', h1, h2, t1, t2, t3, rfl⟩ := for_inv0 (wk := wkEnum (wkSeq (nD p))) (p := .tp [.nm 5, .nm 6]) (S := L_law_frame_1) (items := enumD (nD p)) (fun i env s => s = st ∧ ∃ t1 t2 t3, env = [some (.int k), some (.tup (nD p)), some (.int p.length), some (.int (xr (p.take i) : Nat)), some (.int (ws 0 (p.take i) : Nat)), t1, t2, t3])
    (fun i env s _ => wkEnum_at (wkSeq_at _ _ _))
    (fun i d env s hd h => by
      obtain ⟨rfl, t1, t2, t3, rfl⟩ := h
      obtain ⟨e, he, rfl⟩ := enumD_get hd
      rw [nD_get] at he
      cases q : p[i]? with
      | none => rw [q] at he; cases he
      | some n =>
        rw [q] at he
        cases he
        have hl := lt_of_get q
        have := hb n (List.mem_of_getElem? q)
        refine ⟨_, by simp; rfl, _, s, .inl ?_, rfl, some (.int (i : Nat)), some (.int (n : Nat)), t3, rfl⟩
        simp [L_law_frame_1, nxor, List.take_add_one, q]
        rw [if_pos (by omega)]
        simp [xr, ws_app, ws, Nat.min_eq_left (Nat.le_of_lt hl)])
    (n := 16777215) (env := [some (.int k), some (.tup (nD p)), some (.int p.length), some (.int 0), some (.int 0), none, none, none]) (st := st) (by simp; omega) ⟨rfl, none, none, none, by simp [xr, ws]⟩
  have ht : List.take (enumD (nD p)).length p = p := by simp
  simp only [ht] at h1
  have c1 : ((p.length : Int) / 256) = ((p.length / 256 : Nat) : Int) := by omega
  have c2 : ((p.length : Int) % 256) = ((p.length % 256 : Nat) : Int) := by omega
  have z1 : 4 + p.length ≤ 16777216 := by omega
  have z2 : 4 + p.length + 3 ≤ 16777216 := by omega
  have g0 : gIx (.tup [.int k, .int (p.length / 256 : Nat), .int (p.length % 256 : Nat)]) (.int 0) st = .ok (.int k) st := rfl
  have g1 : gIx (.tup [.int k, .int (p.length / 256 : Nat), .int (p.length % 256 : Nat)]) (.int 1) st = .ok (.int (p.length / 256 : Nat)) st := rfl
  have g2 : gIx (.tup [.int k, .int (p.length / 256 : Nat), .int (p.length % 256 : Nat)]) (.int 2) st = .ok (.int (p.length % 256 : Nat)) st := rfl
  have c3 : ((ws 0 p : Int) % 65521) = (W p : Nat) := by simp [W]
  have c4 : ((W p : Int) % 256) = ((W p % 256 : Nat) : Int) := by omega
  have c5 : ((W p : Int) / 256) = ((W p / 256 : Nat) : Int) := by omega
  simp [-Int.natCast_ediv, -Int.natCast_emod, B_law_frame, startE, fEnum, h1, h2, c1, c2, c3, c4, c5, g0, g1, g2, nxor, z1, z2]
  rw [if_pos (by omega)]
  simp [fr, hd, xh, nD_app, ft]
inductive Tl
  | fin
  | torn
  | chg
def Tl.d : Tl → Nat → D
  | .fin, _ => .non
  | .torn, n => .tup [.str (Str.ofString "torn"), .int n]
  | .chg, n => .tup [.str (Str.ofString "changed"), .int n]
def rD (r : Nat × List Nat) : D := .tup [.int r.1, .tup (nD r.2)]
/-- what a reader of octets finds -/
inductive Ps : List Nat → List (Nat × List Nat) → Tl → Prop
  | nil : Ps [] [] .fin
  | short {o : List Nat} : 0 < o.length → o.length < 4 → Ps o [] .torn
  | head {k h l c : Nat} {r : List Nat} : xh k (h * 256 + l) ≠ c → Ps (k :: h :: l :: c :: r) [] .chg
  | torn {k h l c : Nat} {r : List Nat} : xh k (h * 256 + l) = c → r.length < h * 256 + l + 3 → Ps (k :: h :: l :: c :: r) [] .torn
  | foot {k h l c : Nat} {p q r : List Nat} : xh k (h * 256 + l) = c → p.length = h * 256 + l → q.length = 3 → ft p ≠ q → Ps (k :: h :: l :: c :: (p ++ (q ++ r))) [] .chg
  | step {k h l c : Nat} {p r : List Nat} {rs : List (Nat × List Nat)} {t : Tl} : xh k (h * 256 + l) = c → p.length = h * 256 + l → Ps r rs t → Ps (k :: h :: l :: c :: (p ++ (ft p ++ r))) ((k, p) :: rs) t
theorem cut_mid {all pre m post : List Nat} (h : all = pre ++ (m ++ post)) {b : Int} (hb : b = pre.length + m.length) : cut (nD all) (some (pre.length : Int)) (some b) = nD m := by
  rw [hb, show (pre.length : Int) + m.length = ((pre.length + m.length : Nat) : Int) by simp, cut_seg _ (by omega) (by simp [h]), nD_drop, nD_take, h]
  simp
/-- how the loop ends -/
def fOut (all : List Nat) (st : Sto) (acc : List D) (t : Tl) (R : Rs Fl) : Prop := match t with
  | .fin => ∃ ev, R = .ok (.nx (some (.tup (nD all)) :: some (.ref st.length) :: ev)) (st ++ [.lst acc])
  | t => R = .ok (.rt (.tup [.tup acc, t.d acc.length])) (st ++ [.lst acc])
theorem lp {all : List Nat} {st : Sto} (hc : Closed st) (hal : all.length < 100000) (hab : ∀ n ∈ all, n < 100000) {o : List Nat} {rs : List (Nat × List Nat)} {t : Tl} (h : Ps o rs t) :
    ∀ (pre : List Nat) (acc : List D) (f : Nat) (ev : Ev), ev.length = 7 → all = pre ++ o → o.length < f → acc.length ≤ pre.length → D.loAll (st.length + 1) acc = true →
      fOut all st (acc ++ rs.map rD) t (whileGo T_frames_of_1 L_frames_of_1 f (some (.tup (nD all)) :: some (.ref st.length) :: some (.int pre.length) :: ev) (st ++ [.lst acc])) := by
  induction h with
  | nil =>
    intro pre acc f ev hev ha hf hla hlo
    cases f with
    | zero => omega
    | succ f =>
      unfold whileGo
      subst ha
      simp [T_frames_of_1, fOut]
  | @short o h1 h2 =>
    intro pre acc f ev hev ha hf hla hlo
    cases f with
    | zero => omega
    | succ f =>
      unfold whileGo
      have hl : all.length = pre.length + o.length := by rw [ha, List.length_append]
      have z1 : pre.length < all.length := by omega
      have z2 : ((all.length : Int) - pre.length) < 4 := by omega
      have z3 : acc.length ≤ 16777216 := by omega
      simp [T_frames_of_1, L_frames_of_1, fOut, z1, z2, Tl.d]
  | @head k h l c r h1 =>
    intro pre acc f ev hev ha hf hla hlo
    cases f with
    | zero => omega
    | succ f =>
      unfold whileGo
      have hl : all.length = pre.length + (r.length + 4) := by rw [ha, List.length_append]; simp
      have z1 : pre.length < all.length := by omega
      have z2 : ¬ ((all.length : Int) - pre.length) < 4 := by omega
      have cm := cut_mid (all := all) (pre := pre) (m := [k, h, l, c]) (post := r) ha (b := (pre.length : Int) + 4) (by simp)
      have hh := hab h (by rw [ha]; simp)
      have c1 : ((h : Int) * 256 + l) = ((h * 256 + l : Nat) : Int) := by omega
      have hhd := e_head_of (closed_end hc hlo) k (h * 256 + l)
      have g3 : gIx (.tup (nD (hd k (h * 256 + l)))) (.int 3) (st ++ [.lst acc]) = .ok (.int (xh k (h * 256 + l) : Nat)) (st ++ [.lst acc]) := rfl
      have z4 : h < 18446744073709551616 := by omega
      match ev, hev with
      | [e3, e4, e5, e6, e7, e8, e9], _ =>
      have h1 : ¬ ((xh k (h * 256 + l) : Nat) : Int) = (c : Nat) := by omega
      have z3 : acc.length ≤ 16777216 := by omega
      simp [L_frames_of_1, T_frames_of_1, fOut, z1, z2, z3, Tl.d, cm, c1, hhd, g3, h1, -Int.natCast_add, -Int.natCast_mul]
  | @torn k h l c r h1 h2 =>
    intro pre acc f ev hev ha hf hla hlo
    cases f with
    | zero => omega
    | succ f =>
      unfold whileGo
      have hl : all.length = pre.length + (r.length + 4) := by rw [ha, List.length_append]; simp
      have z1 : pre.length < all.length := by omega
      have z2 : ¬ ((all.length : Int) - pre.length) < 4 := by omega
      have cm := cut_mid (all := all) (pre := pre) (m := [k, h, l, c]) (post := r) ha (b := (pre.length : Int) + 4) (by simp)
      have hh := hab h (by rw [ha]; simp)
      have c1 : ((h : Int) * 256 + l) = ((h * 256 + l : Nat) : Int) := by omega
      have hhd := e_head_of (closed_end hc hlo) k (h * 256 + l)
      have g3 : gIx (.tup (nD (hd k (h * 256 + l)))) (.int 3) (st ++ [.lst acc]) = .ok (.int (xh k (h * 256 + l) : Nat)) (st ++ [.lst acc]) := rfl
      have z4 : (all.length : Int) < (pre.length : Int) + 4 + (h * 256 + l : Nat) + 3 := by omega
      match ev, hev with
      | [e3, e4, e5, e6, e7, e8, e9], _ =>
      have h1 : ((xh k (h * 256 + l) : Nat) : Int) = (c : Nat) := by omega
      have z3 : acc.length ≤ 16777216 := by omega
      simp [L_frames_of_1, T_frames_of_1, fOut, z1, z2, z3, z4, Tl.d, cm, c1, hhd, g3, h1, -Int.natCast_add, -Int.natCast_mul]
  | @foot k h l c p q r h1 h2 h3 h4 =>
    intro pre acc f ev hev ha hf hla hlo
    cases f with
    | zero => omega
    | succ f =>
      unfold whileGo
      have hl : all.length = pre.length + (p.length + 3 + r.length + 4) := by rw [ha, List.length_append]; simp; omega
      have z1 : pre.length < all.length := by omega
      have z2 : ¬ ((all.length : Int) - pre.length) < 4 := by omega
      have cm := cut_mid (all := all) (pre := pre) (m := [k, h, l, c]) (post := p ++ (q ++ r)) ha (b := (pre.length : Int) + 4) (by simp)
      have hh := hab h (by rw [ha]; simp)
      have c1 : ((h : Int) * 256 + l) = ((h * 256 + l : Nat) : Int) := by omega
      have hhd := e_head_of (closed_end hc hlo) k (h * 256 + l)
      have g3 : gIx (.tup (nD (hd k (h * 256 + l)))) (.int 3) (st ++ [.lst acc]) = .ok (.int (xh k (h * 256 + l) : Nat)) (st ++ [.lst acc]) := rfl
      have z4 : ¬ (all.length : Int) < (pre.length : Int) + 4 + (h * 256 + l : Nat) + 3 := by omega
      have cm2 := cut_mid (all := all) (pre := pre ++ [k, h, l, c]) (m := p) (post := q ++ r) (by rw [ha]; simp) (b := (pre.length : Int) + 4 + (h * 256 + l : Nat)) (by rw [h2]; simp)
      have cm3 := cut_mid (all := all) (pre := pre ++ [k, h, l, c] ++ p) (m := q) (post := r) (by rw [ha]; simp) (b := (pre.length : Int) + 4 + (h * 256 + l : Nat) + 3) (by rw [h3]; simp; omega)
      rw [show (((pre ++ [k, h, l, c]).length : Nat) : Int) = (pre.length : Int) + 4 by simp] at cm2
      rw [show (((pre ++ [k, h, l, c] ++ p).length : Nat) : Int) = (pre.length : Int) + 4 + (h * 256 + l : Nat) + 3 - 3 by simp; omega] at cm3
      have hft := e_foot_of (closed_end hc hlo) p (by omega) (fun n hn => Nat.lt_trans (hab n (by rw [ha]; simp [hn])) (by decide))
      match ev, hev with
      | [e3, e4, e5, e6, e7, e8, e9], _ =>
      have h1 : ((xh k (h * 256 + l) : Nat) : Int) = (c : Nat) := by omega
      have z3 : acc.length ≤ 16777216 := by omega
      simp [L_frames_of_1, T_frames_of_1, fOut, z1, z2, z3, z4, Tl.d, cm, c1, hhd, g3, h1, cm2, cm3, hft, gNeE_nD, h4, -Int.natCast_add, -Int.natCast_mul, -Int.add_sub_cancel]
  | @step k h l c p r rs t h1 h2 h3 ih =>
    intro pre acc f ev hev ha hf hla hlo
    cases f with
    | zero => omega
    | succ f =>
      unfold whileGo
      have hl : all.length = pre.length + (p.length + 3 + r.length + 4) := by rw [ha, List.length_append]; simp [ft_len]; omega
      have z1 : pre.length < all.length := by omega
      have z2 : ¬ ((all.length : Int) - pre.length) < 4 := by omega
      have cm := cut_mid (all := all) (pre := pre) (m := [k, h, l, c]) (post := p ++ (ft p ++ r)) ha (b := (pre.length : Int) + 4) (by simp)
      have hh := hab h (by rw [ha]; simp)
      have c1 : ((h : Int) * 256 + l) = ((h * 256 + l : Nat) : Int) := by omega
      have hhd := e_head_of (closed_end hc hlo) k (h * 256 + l)
      have g3 : gIx (.tup (nD (hd k (h * 256 + l)))) (.int 3) (st ++ [.lst acc]) = .ok (.int (xh k (h * 256 + l) : Nat)) (st ++ [.lst acc]) := rfl
      have z4 : ¬ (all.length : Int) < (pre.length : Int) + 4 + (h * 256 + l : Nat) + 3 := by omega
      have cm2 := cut_mid (all := all) (pre := pre ++ [k, h, l, c]) (m := p) (post := ft p ++ r) (by rw [ha]; simp) (b := (pre.length : Int) + 4 + (h * 256 + l : Nat)) (by rw [h2]; simp)
      have cm3 := cut_mid (all := all) (pre := pre ++ [k, h, l, c] ++ p) (m := ft p) (post := r) (by rw [ha]; simp) (b := (pre.length : Int) + 4 + (h * 256 + l : Nat) + 3) (by rw [ft_len]; simp; omega)
      rw [show (((pre ++ [k, h, l, c]).length : Nat) : Int) = (pre.length : Int) + 4 by simp] at cm2
      rw [show (((pre ++ [k, h, l, c] ++ p).length : Nat) : Int) = (pre.length : Int) + 4 + (h * 256 + l : Nat) + 3 - 3 by simp; omega] at cm3
      have hft := e_foot_of (closed_end hc hlo) p (by omega) (fun n hn => Nat.lt_trans (hab n (by rw [ha]; simp [hn])) (by decide))
      match ev, hev with
      | [e3, e4, e5, e6, e7, e8, e9], _ =>
      have h1 : ((xh k (h * 256 + l) : Nat) : Int) = (c : Nat) := by omega
      have z3 : acc.length ≤ 16777216 := by omega
      have ih' := ih (pre ++ [k, h, l, c] ++ p ++ ft p) (acc ++ [rD (k, p)]) f [some (.int k), some (.int h), some (.int l), some (.int c), some (.int (h * 256 + l : Nat)), some (.int ((pre.length : Int) + 4 + (h * 256 + l : Nat) + 3)), some (.tup (nD p))] rfl (by rw [ha]; simp) (by simp [ft_len] at hf; omega) (by simp; omega) (by simp [hlo, rD])
      have e1 : (((pre ++ [k, h, l, c] ++ p ++ ft p).length : Nat) : Int) = (pre.length : Int) + 4 + (h * 256 + l : Nat) + 3 := by simp [ft_len]; omega
      rw [e1] at ih'
      have ga : gAppend (.ref st.length) [rD (k, p)] (st ++ [.lst acc]) = .ok .non (st ++ [.lst (acc ++ [rD (k, p)])]) := by
        rw [gAppend_at (get_end _) (by omega), setL_end]
      simp only [rD] at ga
      rw [List.map_cons, ← List.append_cons] at *
      simp [L_frames_of_1, T_frames_of_1, z1, z2, z3, z4, cm, c1, hhd, g3, h1, cm2, cm3, hft, gNeE_nD, ga, -Int.natCast_add, -Int.natCast_mul, -Int.add_sub_cancel]
      exact ih'
@[simp] theorem rD_lo (k : Nat) (rs : List (Nat × List Nat)) : D.loAll k (rs.map rD) = true := by
  rw [loAll_iff]; intro d hd; obtain ⟨r, _, rfl⟩ := List.mem_map.mp hd; simp [rD]
theorem Ps.len {o : List Nat} {rs : List (Nat × List Nat)} {t : Tl} (h : Ps o rs t) : rs.length ≤ o.length := by
  induction h with
  | step _ _ _ ih => simp; omega
  | _ => simp
theorem e_frames_of {st : Sto} (hc : Closed st) {o : List Nat} {rs : List (Nat × List Nat)} {t : Tl} (h : Ps o rs t) (hn : o.length < 100000) (hb : ∀ n ∈ o, n < 100000) : G_frames_of [.tup (nD o)] st = .ok (.tup [.tup (rs.map rD), t.d rs.length]) st := by
  have hl := h.len
  have hlo : D.lo st.length (.tup [.tup (rs.map rD), t.d rs.length]) = true := by cases t <;> simp [Tl.d]
  have z3 : rs.length ≤ 16777216 := by omega
  have q := lp hc hn hb h [] [] 16777215 [none, none, none, none, none, none, none] rfl rfl (by omega) (by simp) (by simp)
  simp only [List.nil_append, List.length_nil] at q
  refine run_more (j := [.lst (rs.map rD)]) hc hlo ?_
  cases t with
  | fin =>
    obtain ⟨ev, q⟩ := q
    simp [B_frames_of, startE] at q ⊢
    simp [q, Tl.d]
  | torn =>
    simp [B_frames_of, startE, fOut] at q ⊢
    simp [q, Tl.d]
  | chg =>
    simp [B_frames_of, startE, fOut] at q ⊢
    simp [q, Tl.d]
theorem e_whole_octets {st : Sto} (hc : Closed st) {o : List Nat} {rs : List (Nat × List Nat)} {t : Tl} (h : Ps o rs t) (hn : o.length < 100000) (hb : ∀ n ∈ o, n < 100000) : G_whole_octets [.tup (nD o)] st = .ok (.int ((rs.map fun r => ((r.2.length + 7 : Nat) : Int)).sum)) st := by
  refine run_pure hc (by simp) ?_
  have hl := h.len
  have hcomp := comp_to (wk := wkSeq (rs.map rD)) (p := .tp [.nm 1, .nm 2]) (T := iYes) (A := iBin gAdd (iBin gAdd (iC (.int 4)) (iCallB gLen (iCons (iVar 2) (iNil)))) (iC (.int 3))) (vs := [1, 2]) (env := [some (.tup (nD o)), none, none]) (fin := fRol) (st := st) (items := rs.map rD)
    ((rs.map fun r => ((r.2.length + 7 : Nat) : Int)).map D.int) (by simp) (fun i => wkSeq_at _ _ _) (fun i d y hd hy => by
        rw [List.getElem?_map] at hd
        rw [List.getElem?_map, List.getElem?_map] at hy
        cases q : rs[i]? with
        | none => rw [q] at hd; cases hd
        | some n =>
          rw [q] at hd hy
          cases hd
          cases hy
          refine ⟨_, by simp [wipeE, rD]; rfl, rfl, ?_⟩
          simp [wipeE]
          omega) (n := 16777215) (by simp; omega) (by simp; omega)
  have g0 : gIx (.tup [.tup (rs.map rD), t.d rs.length]) (.int 0) st = .ok (.tup (rs.map rD)) st := rfl
  have gs := gSum_ints (st := st) (rs.map fun r => ((r.2.length + 7 : Nat) : Int))
  simp only [B_whole_octets, startE, ev_sRet, ev_callB, ev_cons, ev_nil, ev_comp, ev_walk, ev_bin, ev_call, ev_C, ev_var]
  simp [e_frames_of hc h hn hb, g0] 
  simp only [hcomp, fRol_ok, Rs.bind_ok, gs]
  simp
end F59
end QI

/-! what a reader finds in whole, cut and changed octets -/
namespace QI
namespace F59
/-- the octets of rows -/
def oc : List (Nat × List Nat) → List Nat
  | [] => []
  | r :: rs => fr r ++ oc rs
/-- how many rows end at or before c -/
def wh : List (Nat × List Nat) → Nat → Nat
  | [], _ => 0
  | r :: rs, c => if (fr r).length ≤ c then wh rs (c - (fr r).length) + 1 else 0
def ol : List (Nat × List Nat) → Nat
  | [] => 0
  | r :: rs => (fr r).length + ol rs
theorem oc_len (rs : List (Nat × List Nat)) : (oc rs).length = ol rs := by
  induction rs with
  | nil => rfl
  | cons r rs ih => simp [oc, ol, ih]
theorem wh_le (rs : List (Nat × List Nat)) (c : Nat) : wh rs c ≤ rs.length := by
  induction rs generalizing c with
  | nil => simp [wh]
  | cons r rs ih => unfold wh; split <;> simp [ih]
theorem xh_self (k n : Nat) : xh k ((n / 256) * 256 + n % 256) = xh k n := by rw [show n / 256 * 256 + n % 256 = n by omega]
theorem fr_eq (k : Nat) (p r : List Nat) : fr (k, p) ++ r = k :: (p.length / 256) :: (p.length % 256) :: xh k p.length :: (p ++ (ft p ++ r)) := by simp [fr, hd]
theorem ps_step (k : Nat) (p r : List Nat) {rs : List (Nat × List Nat)} {t : Tl} (h : Ps r rs t) : Ps (fr (k, p) ++ r) ((k, p) :: rs) t := by
  rw [fr_eq]
  exact .step (xh_self _ _) (by omega) h
theorem ps_all : ∀ rs : List (Nat × List Nat), Ps (oc rs) rs .fin
  | [] => .nil
  | (k, p) :: rs => ps_step k p (oc rs) (ps_all rs)
theorem ps_cut : ∀ (rs : List (Nat × List Nat)) (c : Nat), c ≤ ol rs → Ps ((oc rs).take c) (rs.take (wh rs c)) (if c = ol (rs.take (wh rs c)) then .fin else .torn)
  | [], c, h => by
    have : c = 0 := by simpa [ol] using h
    subst this
    simp [oc, ol]
    exact .nil
  | (k, p) :: rs, c, h => by
    unfold wh
    split
    · rename_i hz
      have ih := ps_cut rs (c - (fr (k, p)).length) (by simp [ol] at h; omega)
      have e : (oc ((k, p) :: rs)).take c = fr (k, p) ++ (oc rs).take (c - (fr (k, p)).length) := by
        simp only [oc, List.take_append]
        rw [List.take_of_length_le hz]
      rw [e]
      have := ps_step k p _ ih
      simp only [List.take_succ_cons, ol]
      have e2 : (c = (fr (k, p)).length + ol (rs.take (wh rs (c - (fr (k, p)).length)))) = (c - (fr (k, p)).length = ol (rs.take (wh rs (c - (fr (k, p)).length)))) := by
        apply propext; omega
      simp only [e2]
      exact this
    · rename_i hz
      simp only [List.take_zero, ol]
      have e : (oc ((k, p) :: rs)).take c = (fr (k, p)).take c := by
        simp only [oc]
        rw [List.take_append_of_le_length (by omega)]
      rw [e]
      by_cases h0 : c = 0
      · subst h0
        simp
        exact .nil
      · rw [if_neg h0]
        have hl := fr_len (k, p)
        by_cases h4 : c < 4
        · exact .short (by rw [List.length_take]; omega) (by rw [List.length_take]; omega)
        · have := fr_eq k p []
          rw [List.append_nil] at this
          rw [this]
          match c, h4, hz, hl with
          | c' + 4, _, hz, hl =>
            simp only [List.take_succ_cons]
            refine .torn (xh_self _ _) ?_
            rw [List.length_take]
            have : p.length / 256 * 256 + p.length % 256 = p.length := by omega
            simp only at hl
            omega
theorem ps_front {r : List Nat} {rs : List (Nat × List Nat)} {t : Tl} (h : Ps r rs t) : ∀ A : List (Nat × List Nat), Ps (oc A ++ r) (A ++ rs) t
  | [] => h
  | (k, p) :: A => by
    simp only [oc, List.append_assoc, List.cons_append]
    exact ps_step k p _ (ps_front h A)
theorem xr_init (c : Nat) : ∀ (p : List Nat) (z : Nat), p.foldl (· ^^^ ·) (z ^^^ c) = p.foldl (· ^^^ ·) z ^^^ c
  | [], z => rfl
  | x :: p, z => by
    simp only [List.foldl_cons]
    rw [← xr_init c p, Nat.xor_assoc, Nat.xor_assoc, Nat.xor_comm c x]
theorem xr_set {a b : Nat} : ∀ (p : List Nat) (i z : Nat), p[i]? = some a → (p.set i b).foldl (· ^^^ ·) z = p.foldl (· ^^^ ·) z ^^^ (a ^^^ b)
  | [], i, z, h => by cases h
  | x :: p, 0, z, h => by
    cases h
    simp only [List.set_cons_zero, List.foldl_cons]
    rw [← xr_init, Nat.xor_assoc, ← Nat.xor_assoc a a b, Nat.xor_self, Nat.zero_xor]
  | x :: p, i + 1, z, h => by
    simp only [List.set_cons_succ, List.foldl_cons]
    exact xr_set p i _ (by simpa using h)
theorem xcl {a b c : Nat} (h : a ^^^ b = a ^^^ c) : b = c := by
  have := congrArg (fun t => a ^^^ t) h
  simpa [← Nat.xor_assoc] using this
theorem xcr {a b c : Nat} (h : b ^^^ a = c ^^^ a) : b = c := xcl (a := a) (by rw [Nat.xor_comm a b, Nat.xor_comm a c, h])
theorem xor_ne {x a b : Nat} (h : a ≠ b) : x ^^^ (a ^^^ b) ≠ x := by
  intro z
  have : a ^^^ b = 0 := xcl (a := x) (by rw [z]; simp)
  exact h (xcl (a := a) (by rw [this]; simp)).symm
theorem ft_set {p : List Nat} {i a b : Nat} (h : p[i]? = some a) (hab : a ≠ b) : ft (p.set i b) ≠ ft p := by
  intro z
  simp only [ft, List.cons.injEq] at z
  have := z.1
  unfold xr at this
  rw [xr_set p i 0 h] at this
  exact xor_ne hab this
def okR (r : Nat × List Nat) : Prop := r.1 < 256 ∧ r.2.length < 65536 ∧ ∀ n ∈ r.2, n < 256
theorem xh_ne1 {k b n : Nat} (h : k ≠ b) : xh b n ≠ xh k n := by
  unfold xh
  intro z
  apply h
  exact (xcr (xcr z)).symm
theorem ps_bent : ∀ (rs : List (Nat × List Nat)) (s a b : Nat), (∀ r ∈ rs, okR r) → (oc rs)[s]? = some a → a ≠ b → b < 256 → Ps ((oc rs).set s b) (rs.take (wh rs s)) .chg
  | [], s, a, b, _, h, _, _ => by cases h
  | (k, p) :: rs, s, a, b, hok, h, hab, hb => by
    have hk := hok _ List.mem_cons_self
    have e0 : oc ((k, p) :: rs) = fr (k, p) ++ oc rs := rfl
    unfold wh
    split
    · rename_i hz
      rw [e0] at h ⊢
      rw [List.getElem?_append_right hz] at h
      rw [List.set_append_right _ _ hz, List.take_succ_cons]
      exact ps_step k p _ (ps_bent rs _ a b (fun r hr => hok r (List.mem_cons_of_mem _ hr)) h hab hb)
    · rename_i hz
      rw [e0] at h ⊢
      rw [fr_eq] at h ⊢
      rw [List.take_zero]
      have hl := fr_len (k, p)
      have hx : p.length / 256 * 256 + p.length % 256 = p.length := by omega
      match s, hz, h with
      | 0, _, h =>
        cases h
        refine .head ?_
        rw [xh_self]
        exact xh_ne1 hab
      | 1, _, h =>
        cases h
        refine .head ?_
        unfold xh
        rw [show (b * 256 + p.length % 256) / 256 = b by omega, show (b * 256 + p.length % 256) % 256 = p.length % 256 by omega]
        intro z
        exact hab (xcl (xcr z)).symm
      | 2, _, h =>
        cases h
        refine .head ?_
        unfold xh
        rw [show (p.length / 256 * 256 + b) / 256 = p.length / 256 by omega, show (p.length / 256 * 256 + b) % 256 = b by omega]
        intro z
        exact hab (xcl z).symm
      | 3, _, h =>
        cases h
        refine .head ?_
        rw [xh_self]
        exact hab
      | s + 4, hz, h =>
        simp only [List.set_cons_succ]
        have h : (p ++ (ft p ++ oc rs))[s]? = some a := by simpa using h
        by_cases hs : s < p.length
        · rw [List.set_append_left _ _ hs]
          rw [List.getElem?_append_left hs] at h
          exact .foot (xh_self _ _) (by simp; omega) (ft_len _) (ft_set h hab)
        · rw [List.set_append_right _ _ (by omega)]
          rw [List.getElem?_append_right (by omega)] at h
          have h3 : s - p.length < (ft p).length := by rw [ft_len]; simp only at hl; omega
          rw [List.set_append_left _ _ h3]
          rw [List.getElem?_append_left h3] at h
          refine .foot (xh_self _ _) (by omega) (by simp [ft_len]) ?_
          intro z
          rw [z] at h
          rw [List.getElem?_set_self h3] at h
          exact hab (Option.some.inj h).symm
theorem ft_swap {u v : List Nat} {x y : Nat} (hx : x < 256) (hy : y < 256) (h : x ≠ y) : ft (u ++ y :: x :: v) ≠ ft (u ++ x :: y :: v) := by
  intro z
  simp only [ft, List.cons.injEq, and_true] at z
  have hw : W (u ++ y :: x :: v) = W (u ++ x :: y :: v) := by omega
  unfold W at hw
  rw [ws_app, ws_app] at hw
  simp only [ws] at hw
  generalize ws (0 + u.length + 1 + 1) v = t at hw
  generalize ws 0 u = t0 at hw
  generalize 0 + u.length = m at hw
  have e1 : (m + 1) * y + ((m + 1 + 1) * x + t) = ((m + 1) * (x + y) + t) + x := by
    rw [Nat.add_mul (m + 1) 1 x, Nat.mul_add]; omega
  have e2 : (m + 1) * x + ((m + 1 + 1) * y + t) = ((m + 1) * (x + y) + t) + y := by
    rw [Nat.add_mul (m + 1) 1 y, Nat.mul_add]; omega
  rw [e1, e2] at hw
  generalize (m + 1) * (x + y) + t = q at hw
  omega
theorem ps_swap (A B : List (Nat × List Nat)) (k : Nat) {u v : List Nat} {x y : Nat} (hx : x < 256) (hy : y < 256) (h : x ≠ y) :
    Ps (oc A ++ (hd k (u ++ x :: y :: v).length ++ ((u ++ y :: x :: v) ++ (ft (u ++ x :: y :: v) ++ oc B)))) A .chg := by
  have := ps_front (r := hd k (u ++ x :: y :: v).length ++ ((u ++ y :: x :: v) ++ (ft (u ++ x :: y :: v) ++ oc B))) (rs := []) (t := .chg)
    (by
      simp only [hd, List.cons_append, List.nil_append]
      exact .foot (xh_self _ _) (by simp; omega) (ft_len _) (ft_swap hx hy h)) A
  rw [List.append_nil] at this
  exact this
end F59
end QI

/-! the law's own defs -/
namespace QI
open PySem PySem.Spec PyProof.Rows L2
namespace F59
def bx (b : Int × Int) : Cell := .lst [.int b.1, .int b.2]
def okB (b : Int × Int) : Prop := 0 ≤ b.1 ∧ 1 ≤ b.2 ∧ b.2 ≤ 2147483563
section
variable {pre post : Sto} {b : Int × Int}
theorem mid_get (c : Cell) : (pre ++ c :: post)[pre.length]? = some c := by simp
theorem mid_set (xs : List D) (c : Cell) : setL (pre ++ c :: post) pre.length xs = pre ++ .lst xs :: post := by simp [setL]
theorem mid_closed {b b' : Int × Int} (h : Closed (pre ++ bx b :: post)) : Closed (pre ++ bx b' :: post) := by
  intro c hc
  have hl : (pre ++ bx b' :: post).length = (pre ++ bx b :: post).length := by simp
  rw [hl]
  rcases List.mem_append.mp hc with h1 | h1
  · exact h c (List.mem_append.mpr (.inl h1))
  · rcases List.mem_cons.mp h1 with rfl | h1
    · simp [bx, Cell.lo]
    · exact h c (List.mem_append.mpr (.inr (List.mem_cons_of_mem _ h1)))
theorem g0 : gIx (.ref pre.length) (.int 0) (pre ++ bx b :: post) = .ok (.int b.1) (pre ++ bx b :: post) := gIx_nat (i := 0) (seqAt_ref (mid_get _)) rfl
theorem g1 : gIx (.ref pre.length) (.int 1) (pre ++ bx b :: post) = .ok (.int b.2) (pre ++ bx b :: post) := gIx_nat (i := 1) (seqAt_ref (mid_get _)) rfl
theorem s0 (v : Int) : gSetIx (.ref pre.length) (.int 0) (.int v) (pre ++ bx b :: post) = .ok () (pre ++ bx (v, b.2) :: post) := by
  exact (gSetIx_at (i := 0) (xs := [.int b.1, .int b.2]) (mid_get (bx b)) (by simp)).trans (by rw [mid_set]; rfl)
theorem s1 (v : Int) : gSetIx (.ref pre.length) (.int 1) (.int v) (pre ++ bx b :: post) = .ok () (pre ++ bx (b.1, v) :: post) := by
  exact (gSetIx_at (i := 1) (xs := [.int b.1, .int b.2]) (mid_get (bx b)) (by simp)).trans (by rw [mid_set]; rfl)
theorem e_take (hc : Closed (pre ++ bx b :: post)) (hb : okB b) {m : Int} (h1 : 1 ≤ m) (h2 : m < 4294967296) :
    ∃ (d : Nat) (b' : Int × Int), okB b' ∧ (d : Int) < m ∧ G_law_take [.ref pre.length, .int m] (pre ++ bx b :: post) = .ok (.int d) (pre ++ bx b' :: post) := by
  obtain ⟨hb1, hb2, hb3⟩ := hb
  by_cases hg : 0 < b.1
  · refine ⟨(b.1 % m).toNat, (b.1 / m, b.2), ⟨Int.ediv_nonneg hb1 (by omega), hb2, hb3⟩, ?_, ?_⟩
    · rw [Int.toNat_of_nonneg (Int.emod_nonneg _ (by omega))]; exact Int.emod_lt_of_pos _ (by omega)
    · refine run_same (by simp) (mid_closed hc) (by simp) ?_
      rw [Int.toNat_of_nonneg (Int.emod_nonneg _ (by omega))]
      have z : m.natAbs.log2 < 9000 := log2_9000 (by omega)
      have z1 : 0 < m := by omega
      simp [B_law_take, startE, g0, s0, hg, z, z1]
  · generalize hr : (b.2 * 39373 + 211) % 2147483647 = raw
    generalize hx : (raw * 40692 + 97) % 2147483563 + 1 = x
    have hx1 : 1 ≤ x ∧ x ≤ 2147483563 := by omega
    have hr1 : 0 ≤ raw ∧ raw < 2147483647 := by omega
    refine ⟨((raw * 2147483629 + x) / 8263 % m).toNat, (b.1, x), ⟨hb1, hx1⟩, ?_, ?_⟩
    · rw [Int.toNat_of_nonneg (Int.emod_nonneg _ (by omega))]; exact Int.emod_lt_of_pos _ (by omega)
    · refine run_same (by simp) (mid_closed hc) (by simp) ?_
      rw [Int.toNat_of_nonneg (Int.emod_nonneg _ (by omega))]
      have z : Nat.log2 8263 < 9000 := log2_9000 (by omega)
      have z1 : 0 < m := by omega
      simp [B_law_take, startE, g0, g1, s1, hg, z, z1, hr, hx]
theorem e_pick (hc : Closed (pre ++ bx b :: post)) (hb : okB b) (xs : List Nat) (h1 : 1 ≤ xs.length) (h2 : xs.length < 1000) :
    ∃ v ∈ xs, ∃ b' : Int × Int, okB b' ∧ G_law_pick [.ref pre.length, .rol (nD xs)] (pre ++ bx b :: post) = .ok (.int (v : Nat)) (pre ++ bx b' :: post) := by
  obtain ⟨d, b', hb', hd, ht⟩ := e_take hc hb (m := xs.length) (by omega) (by omega)
  have hd' : d < xs.length := by omega
  refine ⟨xs[d], List.getElem_mem _, b', hb', run_same (by simp) (mid_closed hc) (by simp) ?_⟩
  have hg : gIx (.rol (nD xs)) (.int d) (pre ++ bx b' :: post) = .ok (.int (xs[d] : Nat)) (pre ++ bx b' :: post) := gIx_nat (xs := nD xs) rfl (by rw [nD_get, List.getElem?_eq_getElem hd']; rfl)
  simp [B_law_pick, startE, ht, hg]
theorem e_payload (hc : Closed (pre ++ bx b :: post)) (hb : okB b) :
    ∃ (p : List Nat) (b' : Int × Int), okB b' ∧ p.length ≤ 300 ∧ (∀ n ∈ p, n < 256) ∧ G_law_payload [.ref pre.length] (pre ++ bx b :: post) = .ok (.tup (nD p)) (pre ++ bx b' :: post) := by
  obtain ⟨m, hm, b1, hb1, ht⟩ := e_pick hc hb [0, 1, 2, 3, 5, 8, 13, 300] (by decide) (by decide)
  have hm3 : m ≤ 300 := by simp at hm; omega
  simp only [nD_cons, nD_nil] at ht
  obtain ⟨acc, st', h1, h2⟩ := comp_inv0 (wk := wkRange 0 m) (p := .nm 2) (T := iYes) (vs := [2]) (env := [some (.ref pre.length), some (.int m), none]) (fin := fRol) (items := rangeD 0 m)
    (A := iCall 2 G_law_pick [] (iCons (iVar 0) (iCons (iRol (iLst (iCons (iC (.int 0)) (iCons (iC (.int 1)) (iCons (iC (.int 255)) (iCons (iCall 2 G_law_take [] (iCons (iVar 0) (iCons (iC (.int 256)) (iNil)))) (iNil))))))) (iNil))))
    (fun i acc s => ∃ (p : List Nat) (b' : Int × Int), okB b' ∧ (∀ n ∈ p, n < 256) ∧ p.length = i ∧ acc = nD p ∧ s = pre ++ bx b' :: post)
    (fun i acc s _ => wkRange_at _ _ _ _)
    (fun i d acc s hd h => by
      obtain ⟨p, b2, hb2, hp, rfl, rfl, rfl⟩ := h
      obtain ⟨d3, b3, hb3, hd3, h3⟩ := e_take (post := post) (mid_closed hc) hb2 (m := 256) (by decide) (by decide)
      obtain ⟨v, hv, b4, hb4, h4⟩ := e_pick (post := post) (mid_closed hc) hb3 [0, 1, 255, d3] (by simp) (by simp)
      simp only [nD_cons, nD_nil] at h4
      refine ⟨_, rfl, true, _, rfl, .inr ⟨rfl, .int (v : Nat), _, ?_, p ++ [v], b4, hb4, ?_, by simp, by simp [nD_app], rfl⟩⟩
      · have e0 : ((0 : Nat) : Int) = 0 := rfl
        simp [wipeE, h3] at h4 ⊢
        simp [h4]
      · intro n hn
        rcases List.mem_append.mp hn with hn | hn
        · exact hp n hn
        · simp at hn hv
          subst hn
          omega)
    (n := 16777215) (st := pre ++ bx b1 :: post) (by simp; omega) (by simp; omega) ⟨[], b1, hb1, by simp, rfl, rfl, rfl⟩
  obtain ⟨p, b2, hb2, hp, hl, rfl, rfl⟩ := h2
  refine ⟨p, b2, hb2, by simp at hl; omega, hp, run_same (by simp) (mid_closed hc) (by simp) ?_⟩
  simp at ht
  show B_law_payload [some (.ref pre.length), none, none] _ = _
  unfold B_law_payload
  rw [seq_nx (e1 := [some (.ref pre.length), some (.int m), none]) (st1 := pre ++ bx b1 :: post) (by simp [ht])]
  have hr := (comp_eq (st := pre ++ bx b1 :: post) (W := iWalkC fRange1 (iCons (iVar 1) (iNil))) (wk := wkRange 0 m) (walkC_eq (ds := [.int m]) (by simp) (fRange1_nat (m := m) (by omega)))).trans h1
  simp [hr, -ev_comp]
theorem e_box {st : Sto} (hc : Closed st) (ns : List Int) (k : Nat) (hk : k < 1000) (hl : ns.length < 1000) : ∃ b, okB b ∧ G_law_box [.scr (ns.map D.int), .int k] st = .ok (.ref st.length) (st ++ [bx b]) := by
  have key : ∀ (B : IS) (cell : Int), 0 ≤ cell → B = sSeq (sSet 3 (iIf (iTest (iBin gGe (iVar 2) (iBin gPow (iC (.int 10)) (iC (.int 18))))) (iVar 2) (iC (.int 0)))) (sRet (iCell (iLst (iCons (iVar 3) (iCons (iBin gAdd (iBin gMod (iCallB gInt (iCons (iBin gAdd (iBin gMul (iBin gMod (iCallB gInt (iCons (iVar 2) (iNil))) (iC (.int 2147483563))) (iC (.int 54250003))) (iBin gMul (iC (.int 7703)) (iVar 1))) (iNil))) (iC (.int 2147483563))) (iC (.int 1))) (iNil)))))) →
      ∃ b, okB b ∧ B [some (.scr (ns.map D.int)), some (.int k), some (.int cell), none] st = .ok (.rt (.ref st.length)) (st ++ [bx b]) := by
    intro B cell h0 hB
    subst hB
    refine ⟨(if 1000000000000000000 ≤ cell then cell else 0, (cell % 2147483563 * 54250003 + 7703 * k) % 2147483563 + 1), ⟨?_, ?_, ?_⟩, ?_⟩
    · split <;> omega
    · omega
    · omega
    · have z : (cell % 2147483563).natAbs < 18446744073709551616 ∨ (54250003 : Int).natAbs < 18446744073709551616 := .inr (by decide)
      simp [bx]
      split <;> simp
  have run : ∀ b, okB b → B_law_box (startE N_law_box [.scr (ns.map D.int), .int k]) st = .ok (.rt (.ref st.length)) (st ++ [bx b]) → ∃ b, okB b ∧ G_law_box [.scr (ns.map D.int), .int k] st = .ok (.ref st.length) (st ++ [bx b]) := fun b hb h =>
    ⟨b, hb, run_cell hc (by simp) h⟩
  by_cases h1 : k < ns.length
  · have hg : gIx (.scr (ns.map D.int)) (.int k) st = .ok (.int ns[k]) st := gIx_nat (i := k) rfl (by simp [h1])
    obtain ⟨b, hb, h⟩ := key _ (if ns[k] < 0 then -ns[k] else ns[k]) (by split <;> omega) rfl
    refine run b hb ?_
    rw [← h]
    simp [B_law_box, startE, h1, hg]
  · by_cases h2 : 0 < ns.length
    · have h3 : k % ns.length < ns.length := Nat.mod_lt _ h2
      have hg : gIx (.scr (ns.map D.int)) (.int ((k % ns.length : Nat) : Int)) st = .ok (.int ns[k % ns.length]) st := gIx_nat (i := k % ns.length) rfl (by simp [h3])
      obtain ⟨b, hb, h⟩ := key _ (28019 * k + 7703 + (if ns[k % ns.length] < 0 then -ns[k % ns.length] else ns[k % ns.length]) % 2147483563 * 97813) (by have := Int.emod_nonneg (if ns[k % ns.length] < 0 then -ns[k % ns.length] else ns[k % ns.length]) (show (2147483563 : Int) ≠ 0 by decide); omega) rfl
      refine run b hb ?_
      rw [← h]
      have hi : (k : Int) % (ns.length : Int) = ((k % ns.length : Nat) : Int) := by omega
      simp [B_law_box, startE, h1, h2, hi, hg, -Int.natCast_emod]
    · obtain ⟨b, hb, h⟩ := key _ (28019 * k + 7703) (by omega) rfl
      refine run b hb ?_
      rw [← h]
      simp [B_law_box, startE, h1, h2]
end
/-- values that the law compares -/
def pl : Nat → D → Prop
  | 0, _ => False
  | n + 1, .tup xs => xs.length < 1000000 ∧ ∀ d ∈ xs, pl n d
  | _ + 1, .int _ => True
  | _ + 1, .str _ => True
  | _ + 1, .non => True
  | _ + 1, _ => False
theorem e_same {st : Sto} (hc : Closed st) : ∀ (n : Nat) (d : D), pl n d → Gr_law_same n [d, d] st = .ok (.bl true) st
  | 0, d, h => h.elim
  | n + 1, d, h => by
    show run N_law_same (B_law_same (Gr_law_same n)) [d, d] st = _
    refine run_pure hc (by simp) ?_
    show B_law_same (Gr_law_same n) [some d, some d, none, none] st = _
    unfold B_law_same
    cases d with
    | tup xs =>
      obtain ⟨hl, h⟩ := h
      have hall : ∀ d ∈ xs, Gr_law_same n [d, d] st = .ok (.bl true) st := fun d hd => e_same hc n d (h d hd)
      obtain ⟨e', st', h1, h2, t2, t3, rfl⟩ := for_inv0 (wk := wkZip (wkSeq xs) (wkSeq xs)) (p := .tp [.nm 2, .nm 3]) (S := L_law_same_1 (Gr_law_same n)) (items := zipD xs xs) (fun i env s => s = st ∧ ∃ t2 t3, env = [some (.tup xs), some (.tup xs), t2, t3])
        (fun i env s _ => wkZip_at (wkSeq_at _ _ _) (wkSeq_at _ _ _))
        (fun i d env s hd h => by
          obtain ⟨rfl, t2, t3, rfl⟩ := h
          obtain ⟨a, b, ha, hb, rfl⟩ := zipD_get hd
          rw [ha] at hb
          cases hb
          refine ⟨[some (.tup xs), some (.tup xs), some a, some a], by simp, _, s, .inl ?_, rfl, some a, some a, rfl⟩
          simp [L_law_same_1, hall a (List.mem_of_getElem? ha)])
        (n := 16777215) (env := [some (.tup xs), some (.tup xs), none, none]) (st := st) (by simp; omega) ⟨rfl, none, none, rfl⟩
      rw [h2] at h1
      have hz := (for_eq (st := st) (W := iWalkC fZip (iCons (iVar 0) (iCons (iVar 1) (iNil)))) (wk := wkZip (wkSeq xs) (wkSeq xs)) (walkC_eq (ds := [.tup xs, .tup xs]) (by simp) rfl)).trans h1
      simp [isK, hz, -ev_sFor]
    | int i => simp [isK]
    | str x => simp [isK]
    | non => simp [isK]
    | bl b => exact h.elim
    | rol xs => exact h.elim
    | scr xs => exact h.elim
    | ref n => exact h.elim
end F59
end QI

/-! where the rows end -/
namespace QI
open PySem PySem.Spec PyProof.Rows L2
namespace F59
def tl : Nat → List (Nat × List Nat) → List Nat
  | _, [] => []
  | z, r :: rs => (z + (fr r).length) :: tl (z + (fr r).length) rs
def en (rs : List (Nat × List Nat)) : List Nat := 0 :: tl 0 rs
theorem tl_app (z : Nat) (rs : List (Nat × List Nat)) (r : Nat × List Nat) : tl z (rs ++ [r]) = tl z rs ++ [z + ol rs + (fr r).length] := by
  induction rs generalizing z with
  | nil => simp [tl, ol]
  | cons a rs ih => simp [tl, ol, ih]; omega
theorem ol_app (rs : List (Nat × List Nat)) (r : Nat × List Nat) : ol (rs ++ [r]) = ol rs + (fr r).length := by
  induction rs with
  | nil => simp [ol]
  | cons a rs ih => simp [ol, ih]; omega
theorem oc_app (rs : List (Nat × List Nat)) (r : Nat × List Nat) : oc (rs ++ [r]) = oc rs ++ fr r := by
  induction rs with
  | nil => simp [oc]
  | cons a rs ih => simp [oc, ih]
theorem en_app (rs : List (Nat × List Nat)) (r : Nat × List Nat) : en (rs ++ [r]) = en rs ++ [ol (rs ++ [r])] := by simp [en, tl_app, ol_app]
theorem tl_get (rs : List (Nat × List Nat)) (z w : Nat) (h : w ≤ rs.length) : (z :: tl z rs)[w]? = some (z + ol (rs.take w)) := by
  induction rs generalizing z w with
  | nil => simp at h; subst h; simp [ol]
  | cons r rs ih =>
    cases w with
    | zero => simp [ol]
    | succ w =>
      rw [List.getElem?_cons_succ]
      simp only [tl, List.take_succ_cons, ol]
      rw [ih _ w (by simpa using h)]
      congr 1; omega
theorem en_get (rs : List (Nat × List Nat)) (w : Nat) (h : w ≤ rs.length) : (en rs)[w]? = some (ol (rs.take w)) := by
  have := tl_get rs 0 w h
  rw [Nat.zero_add] at this
  exact this
theorem tl_ge (rs : List (Nat × List Nat)) (z : Nat) : ∀ c ∈ tl z rs, z + 7 ≤ c := by
  induction rs generalizing z with
  | nil => intro c h; cases h
  | cons r rs ih =>
    intro c h
    have := fr_len r
    rcases List.mem_cons.mp h with rfl | h
    · omega
    · have := ih _ c h; omega
theorem tl_count (rs : List (Nat × List Nat)) (z c : Nat) (h : z ≤ c) : ((tl z rs).filter fun e => decide (e ≤ c)).length = wh rs (c - z) := by
  induction rs generalizing z with
  | nil => rfl
  | cons r rs ih =>
    simp only [tl, wh]
    by_cases hz : z + (fr r).length ≤ c
    · rw [List.filter_cons_of_pos (by simpa using hz), List.length_cons, ih _ hz, if_pos (by omega)]
      rw [show c - (z + (fr r).length) = c - z - (fr r).length by omega]
    · rw [List.filter_cons_of_neg (by simpa using hz), if_neg (by omega)]
      have : (tl (z + (fr r).length) rs).filter (fun e => decide (e ≤ c)) = [] := by
        rw [List.filter_eq_nil_iff]
        intro e he
        have := tl_ge rs _ e he
        simp; omega
      rw [this]; rfl
theorem tl_mem (rs : List (Nat × List Nat)) (z c : Nat) (h : z ≤ c) : c ∈ z :: tl z rs ↔ c - z = ol (rs.take (wh rs (c - z))) := by
  induction rs generalizing z with
  | nil => simp [tl, wh, ol]; omega
  | cons r rs ih =>
    have hl := fr_len r
    simp only [tl, wh]
    by_cases hz : (fr r).length ≤ c - z
    · rw [if_pos hz, List.take_succ_cons]
      simp only [ol]
      have := ih (z + (fr r).length) (by omega)
      rw [show c - (z + (fr r).length) = c - z - (fr r).length by omega] at this
      constructor
      · intro h
        rcases List.mem_cons.mp h with rfl | h
        · omega
        · have := this.mp h; omega
      · intro h
        refine List.mem_cons_of_mem _ (this.mpr ?_)
        omega
    · rw [if_neg hz]
      simp only [List.take_zero, ol]
      constructor
      · intro h
        rcases List.mem_cons.mp h with rfl | h
        · omega
        · rcases List.mem_cons.mp h with rfl | h
          · omega
          · have := tl_ge rs _ c h; omega
      · intro h
        have : c = z := by omega
        subst this
        exact List.mem_cons_self
theorem en_count (rs : List (Nat × List Nat)) (c : Nat) : (((en rs).drop 1).filter fun e => decide (e ≤ c)).length = wh rs c := by
  have := tl_count rs 0 c (Nat.zero_le _)
  simpa [en] using this
theorem en_mem (rs : List (Nat × List Nat)) (c : Nat) : c ∈ en rs ↔ c = ol (rs.take (wh rs c)) := by
  have := tl_mem rs 0 c (Nat.zero_le _)
  simpa [en] using this
theorem en_le (rs : List (Nat × List Nat)) : ∀ c ∈ en rs, c ≤ ol rs := by
  intro c h
  obtain ⟨w, hw⟩ := List.getElem?_of_mem h
  have key : ∀ (rs : List (Nat × List Nat)) (w : Nat), ol (rs.take w) ≤ ol rs := by
    intro rs
    induction rs with
    | nil => intro w; simp
    | cons r rs ih => intro w; cases w with
      | zero => simp [ol]
      | succ w => have := ih w; simp only [List.take_succ_cons, ol]; omega
  have hl : (en rs).length = rs.length + 1 := by
    have : ∀ (rs : List (Nat × List Nat)) (z : Nat), (tl z rs).length = rs.length := by
      intro rs
      induction rs with
      | nil => intro z; rfl
      | cons r rs ih => intro z; simp [tl, ih]
    simp [en, this]
  have : w < (en rs).length := lt_of_get hw
  rw [en_get rs w (by omega)] at hw
  cases hw
  exact key rs w
theorem en_len (rs : List (Nat × List Nat)) : (en rs).length = rs.length + 1 := by
  have : ∀ (rs : List (Nat × List Nat)) (z : Nat), (tl z rs).length = rs.length := by
    intro rs
    induction rs with
    | nil => intro z; rfl
    | cons r rs ih => intro z; simp [tl, ih]
  simp [en, this]
theorem ol_take_le (rs : List (Nat × List Nat)) (w : Nat) : ol (rs.take w) ≤ ol rs := by
  induction rs generalizing w with
  | nil => simp
  | cons r rs ih => cases w with
    | zero => simp [ol]
    | succ w => have := ih w; simp only [List.take_succ_cons, ol]; omega
theorem wh_lt (rs : List (Nat × List Nat)) (c : Nat) (h : c < ol rs) : wh rs c < rs.length := by
  induction rs generalizing c with
  | nil => simp [ol] at h
  | cons r rs ih =>
    simp only [wh, List.length_cons]
    simp only [ol] at h
    split
    · have := ih (c - (fr r).length) (by omega); omega
    · omega
theorem ol_bound (rs : List (Nat × List Nat)) (h : ∀ r ∈ rs, r.2.length ≤ 300) : ol rs ≤ rs.length * 307 := by
  induction rs with
  | nil => simp [ol]
  | cons r rs ih =>
    have h1 := h r List.mem_cons_self
    have h2 := ih fun r hr => h r (List.mem_cons_of_mem _ hr)
    have := fr_len r
    simp only [ol, List.length_cons]
    omega
theorem xor_lt {a b : Nat} (ha : a < 256) (hb : b < 256) : a ^^^ b < 256 := Nat.xor_lt_two_pow (n := 8) ha hb
theorem xr_lt (p : List Nat) (h : ∀ n ∈ p, n < 256) : xr p < 256 := by
  have : ∀ (p : List Nat) (z : Nat), z < 256 → (∀ n ∈ p, n < 256) → p.foldl (· ^^^ ·) z < 256 := by
    intro p
    induction p with
    | nil => intro z hz _; exact hz
    | cons a p ih => intro z hz h; exact ih _ (xor_lt hz (h a List.mem_cons_self)) fun n hn => h n (List.mem_cons_of_mem _ hn)
  exact this p 0 (by decide) h
theorem fr_lt {r : Nat × List Nat} (h : okR r) : ∀ n ∈ fr r, n < 256 := by
  obtain ⟨h1, h2, h3⟩ := h
  intro n hn
  simp only [fr, hd, ft, List.mem_append, List.mem_cons, List.not_mem_nil, or_false] at hn
  have hx : xh r.1 r.2.length < 256 := xor_lt (xor_lt h1 (by omega)) (by omega)
  have hxr := xr_lt r.2 h3
  have hW : W r.2 < 65536 := by unfold W; omega
  rcases hn with (h | h) | h
  · omega
  · exact h3 n h
  · omega
theorem oc_lt {rs : List (Nat × List Nat)} (h : ∀ r ∈ rs, okR r) : ∀ n ∈ oc rs, n < 256 := by
  induction rs with
  | nil => intro n hn; cases hn
  | cons r rs ih =>
    intro n hn
    rcases List.mem_append.mp hn with hn | hn
    · exact fr_lt (h r List.mem_cons_self) n hn
    · exact ih (fun r hr => h r (List.mem_cons_of_mem _ hr)) n hn
theorem sum_ol (rs : List (Nat × List Nat)) : (rs.map fun r => ((r.2.length + 7 : Nat) : Int)).sum = (ol rs : Nat) := by
  induction rs with
  | nil => rfl
  | cons r rs ih =>
    rw [List.map_cons, List.sum_cons, ih]
    simp only [ol, fr_len]
    omega
theorem nD_cut (ns : List Nat) (lo hi : Option Int) : cut (nD ns) lo hi = nD (cut ns lo hi) := by
  unfold cut
  rw [nD_drop, nD_take, nD_len]
theorem cut_sub {ns : List Nat} {lo hi : Option Int} : ∀ n ∈ cut ns lo hi, n ∈ ns := fun n h => List.mem_of_mem_drop (List.mem_of_mem_take h)
theorem cut_len {ns : List Nat} {lo hi : Option Int} : (cut ns lo hi).length ≤ ns.length := by
  unfold cut
  rw [List.length_take, List.length_drop]
  omega
end F59
end QI

/-! the law -/
namespace QI
open PySem PySem.Spec PyProof.Rows L2
namespace F59
section
variable {pre : Sto} {b : Int × Int}
theorem closed2 (h : Closed pre) (b : Int × Int) (es : List Nat) : Closed (pre ++ bx b :: [.lst (nD es)]) := by
  intro c hc
  rcases List.mem_append.mp hc with h1 | h1
  · exact Cell.lo_mono (by simp) (h c h1)
  · simp at h1
    rcases h1 with rfl | rfl
    · simp [bx, Cell.lo]
    · simp [Cell.lo]
theorem closed1 (h : Closed pre) (b : Int × Int) : Closed (pre ++ bx b :: []) := by
  intro c hc
  rcases List.mem_append.mp hc with h1 | h1
  · exact Cell.lo_mono (by simp) (h c h1)
  · simp at h1
    subst h1
    simp [bx, Cell.lo]
theorem get2 (c d : Cell) : (pre ++ c :: [d])[pre.length + 1]? = some d := by simp
theorem set2 (c : Cell) (xs ys : List D) : setL (pre ++ c :: [.lst xs]) (pre.length + 1) ys = pre ++ c :: [.lst ys] := by simp [setL]
theorem pl_nD (n : Nat) (l : List Nat) (h : l.length < 1000000) : pl (n + 2) (.tup (nD l)) := ⟨by simpa using h, fun d hd => by
  obtain ⟨k, _, rfl⟩ := List.mem_map.mp hd
  trivial⟩
theorem pl_out (rs : List (Nat × List Nat)) (t : Tl) (n : Nat) (h : rs.length < 1000000) (h2 : ∀ r ∈ rs, r.2.length < 1000000) : pl 8 (.tup [.tup (rs.map rD), t.d n]) := by
  refine ⟨by simp, fun d hd => ?_⟩
  simp at hd
  rcases hd with rfl | rfl
  · refine ⟨by simpa using h, fun d hd => ?_⟩
    obtain ⟨r, hr, rfl⟩ := List.mem_map.mp hd
    refine ⟨by simp, fun d hd => ?_⟩
    simp at hd
    rcases hd with rfl | rfl
    · trivial
    · exact pl_nD _ _ (h2 r hr)
  · cases t with
    | fin => trivial
    | torn => exact ⟨by simp, fun d hd => by simp at hd; rcases hd with rfl | rfl <;> trivial⟩
    | chg => exact ⟨by simp, fun d hd => by simp at hd; rcases hd with rfl | rfl <;> trivial⟩
theorem e_sameG {st : Sto} (hc : Closed st) {d : D} (h : pl 8 d) : G_law_same [d, d] st = .ok (.bl true) st := e_same hc 8 d h
def fle (c : Nat) : D → Option D
  | .int i => if i ≤ c then some (.int 1) else none
  | _ => none
/-- how many ends lie at or before -/
theorem e_whole (rs : List (Nat × List Nat)) (env : Ev) (j c : Nat) (hl : env.length = 19) (h6 : env[6]? = some (some (.ref (pre.length + 1)))) (hj : env[j]? = some (some (.int c))) (hj2 : j ≠ 18) (hr : rs.length < 1000) :
    iCallB gLen (iCons (iComp fRol 16777215 (iWalk (iSl (iVar 6) (oSome (iC (.int 1))) (oNone))) (.nm 18) (iTest (iBin gLe (iVar 18) (iVar j))) (iC (.int 1)) [18]) (iNil)) env (pre ++ bx b :: [.lst (nD (en rs))]) = .ok (.int (wh rs c : Nat)) (pre ++ bx b :: [.lst (nD (en rs))]) := by
  have hw : iWalk (iSl (iVar 6) (oSome (iC (.int 1))) (oNone)) env (pre ++ bx b :: [.lst (nD (en rs))]) = .ok (wkSeq (nD ((en rs).drop 1))) (pre ++ bx b :: [.lst (nD (en rs))]) := by
    have e1 : gSl (.ref (pre.length + 1)) (some 1) none (pre ++ bx b :: [.lst (nD (en rs))]) = .ok (.rol (nD ((en rs).drop 1))) (pre ++ bx b :: [.lst (nD (en rs))]) := by
      rw [gSl_ref (get2 _ _), show (1 : Int) = ((1 : Nat) : Int) from rfl, cut_from, nD_drop]
    simp [h6, e1]
  have hc := comp_pure (wk := wkSeq (nD ((en rs).drop 1))) (p := .nm 18) (T := iTest (iBin gLe (iVar 18) (iVar j))) (A := iC (.int 1)) (vs := [18]) (env := env) (fin := fRol) (st := pre ++ bx b :: [.lst (nD (en rs))]) (items := nD ((en rs).drop 1))
    (fle c) (fun i => wkSeq_at _ _ _) (fun d hd => by
        obtain ⟨n, _, rfl⟩ := List.mem_map.mp hd
        refine ⟨_, put_nm _ _, ?_⟩
        have g18 : ((wipeE env [18]).set 18 (some (.int (n : Nat))))[18]? = some (some (.int (n : Nat))) := by simp [wipeE, hl]
        have gj : ((wipeE env [18]).set 18 (some (.int (n : Nat))))[j]? = some (some (.int (c : Nat))) := by
          simp only [wipeE]
          rw [List.getElem?_set_ne (Ne.symm hj2), List.getElem?_set_ne (Ne.symm hj2), hj]
        by_cases hn : n ≤ c
        · exact .inr ⟨.int 1, by simp [fle, hn], by simp [g18, gj, hn], rfl⟩
        · exact .inl ⟨by simp [fle, hn], by simp [g18, gj, hn]⟩) (n := 16777215) (by simp [en_len]; omega) (by simp [en_len]; omega)
  have hlen : ∀ l : List Nat, ((nD l).filterMap (fle c)).length = (l.filter fun e => decide (e ≤ c)).length := by
    intro l
    induction l with
    | nil => rfl
    | cons n l ih =>
      by_cases hn : n ≤ c
      · rw [nD_cons, List.filterMap_cons_some (b := .int 1) (by simp [fle, hn]), List.filter_cons_of_pos (by simpa using hn)]
        simp only [List.length_cons, ih]
      · rw [nD_cons, List.filterMap_cons_none (by simp [fle, hn]), List.filter_cons_of_neg (by simpa using hn)]
        exact ih
  have hh := (comp_eq hw).trans hc
  simp only [ev_callB, ev_cons, ev_nil, hh, fRol_ok, Rs.bind_ok, gLen_rol, hlen, en_count]
/-- the law's locals in a turn -/
def E0 (sc : D) (k n : Nat) (rs : List (Nat × List Nat)) (o : List Nat) (t3 t7 t8 t9 t10 t11 t12 t13 t14 t15 t16 t17 t18 : Option D) : Ev :=
  [some sc, some (.int k), some (.ref n), t3, some (.tup (rs.map rD)), some (.tup (nD o)), some (.ref (n + 1)), t7, t8, t9, t10, t11, t12, t13, t14, t15, t16, t17, t18]
def okRs (rs : List (Nat × List Nat)) : Prop := rs.length ≤ 3 ∧ ∀ r ∈ rs, r.1 < 256 ∧ r.2.length ≤ 300 ∧ ∀ n ∈ r.2, n < 256
theorem okRs.ok {rs : List (Nat × List Nat)} (h : okRs rs) : ∀ r ∈ rs, okR r := fun r hr => ⟨(h.2 r hr).1, by have := (h.2 r hr).2.1; omega, (h.2 r hr).2.2⟩
theorem okRs.ol {rs : List (Nat × List Nat)} (h : okRs rs) : ol rs ≤ 921 := by
  have := ol_bound rs fun r hr => (h.2 r hr).2.1
  have := h.1
  omega
variable {sc : D} {k : Nat} {rs : List (Nat × List Nat)}
theorem loop1 (hc : Closed pre) (hrs : okRs rs) (t3 t7 t8 t9 t10 t11 t12 t13 t14 t15 t16 t17 t18 : Option D) : ∃ t7' t8', forGo (wkSeq (rs.map rD)) (.tp [.nm 7, .nm 8]) L_law_1 16777215 0 (E0 sc k pre.length rs [] t3 t7 t8 t9 t10 t11 t12 t13 t14 t15 t16 t17 t18) (pre ++ bx b :: [.lst (nD [0])]) =
    .ok (.nx (E0 sc k pre.length rs (oc rs) t3 t7' t8' t9 t10 t11 t12 t13 t14 t15 t16 t17 t18)) (pre ++ bx b :: [.lst (nD (en rs))]) := by
  obtain ⟨e', st', h1, rfl, t7', t8', rfl⟩ := for_inv0 (wk := wkSeq (rs.map rD)) (p := .tp [.nm 7, .nm 8]) (S := L_law_1) (items := rs.map rD) (fun i env s => s = pre ++ bx b :: [.lst (nD (en (rs.take i)))] ∧ ∃ t7 t8, env = E0 sc k pre.length rs (oc (rs.take i)) t3 t7 t8 t9 t10 t11 t12 t13 t14 t15 t16 t17 t18)
    (fun i env s _ => wkSeq_at _ _ _)
    (fun i d env s hd h => by
      obtain ⟨rfl, t7, t8, rfl⟩ := h
      rw [List.getElem?_map] at hd
      cases q : rs[i]? with
      | none => rw [q] at hd; cases hd
      | some r =>
        rw [q] at hd
        cases hd
        have hr := hrs.2 r (List.mem_of_getElem? q)
        have hl := hrs.1
        have ht : rs.take (i + 1) = rs.take i ++ [r] := by rw [List.take_add_one, q]; rfl
        have hcl := closed2 hc b (en (rs.take i))
        have hf := e_frame hcl r.1 r.2 (by omega) (fun n hn => by have := hr.2.2 n hn; omega)
        have hf2 := e_law_frame hcl r.1 r.2 (by omega) (fun n hn => by have := hr.2.2 n hn; omega)
        have hs := e_sameG hcl (pl_nD 6 (fr (r.1, r.2)) (by rw [fr_len]; simp only; omega))
        have hol : ol (rs.take i) ≤ 921 := Nat.le_trans (ol_take_le _ _) hrs.ol
        have hla : (oc (rs.take i)).length + (fr r).length ≤ 16777216 := by rw [oc_len, fr_len]; omega
        refine ⟨E0 sc k pre.length rs (oc (rs.take i)) t3 (some (.int r.1)) (some (.tup (nD r.2))) t9 t10 t11 t12 t13 t14 t15 t16 t17 t18, by simp [rD, E0], E0 sc k pre.length rs (oc (rs.take (i + 1))) t3 (some (.int r.1)) (some (.tup (nD r.2))) t9 t10 t11 t12 t13 t14 t15 t16 t17 t18, pre ++ bx b :: [.lst (nD (en (rs.take (i + 1))))], .inl ?_, rfl, some (.int r.1), some (.tup (nD r.2)), rfl⟩
        unfold L_law_1
        rw [seq_nx (e1 := E0 sc k pre.length rs (oc (rs.take i)) t3 (some (.int r.1)) (some (.tup (nD r.2))) t9 t10 t11 t12 t13 t14 t15 t16 t17 t18) (st1 := pre ++ bx b :: [.lst (nD (en (rs.take i)))]) (by simp [E0, hf, hf2, hs])]
        rw [seq_nx (e1 := E0 sc k pre.length rs (oc (rs.take (i + 1))) t3 (some (.int r.1)) (some (.tup (nD r.2))) t9 t10 t11 t12 t13 t14 t15 t16 t17 t18) (st1 := pre ++ bx b :: [.lst (nD (en (rs.take i)))]) (by simp [E0, hf2, hla, ht, oc_app, nD_app])]
        have ga : gAppend (.ref (pre.length + 1)) [.int (oc (rs.take (i + 1))).length] (pre ++ bx b :: [.lst (nD (en (rs.take i)))]) = .ok .non (pre ++ bx b :: [.lst (nD (en (rs.take (i + 1))))]) := by
          rw [gAppend_at (get2 _ _) (by simp [en_len]; omega), set2, ht, en_app, nD_app, oc_len]; rfl
        have hil : isLst (pre ++ bx b :: [.lst (nD (en (rs.take i)))]) (.ref (pre.length + 1)) = true := isLst_ref (get2 _ _)
        simp [E0, ga, hil])
    (n := 16777215) (env := E0 sc k pre.length rs [] t3 t7 t8 t9 t10 t11 t12 t13 t14 t15 t16 t17 t18) (st := pre ++ bx b :: [.lst (nD [0])]) (by have := hrs.1; simp; omega) ⟨rfl, t7, t8, rfl⟩
  refine ⟨t7', t8', ?_⟩
  rw [h1]
  simp
theorem fIn (es : List Nat) (c : Nat) (hs : (pre ++ bx b :: [.lst (nD es)])[pre.length + 1]? = some (.lst (nD es))) : gInE (.int c) (.ref (pre.length + 1)) (pre ++ bx b :: [.lst (nD es)]) = .ok (.bl (decide (c ∈ es))) (pre ++ bx b :: [.lst (nD es)]) := by
  have hall : (nD es).all D.flat = true := by
    rw [List.all_eq_true]; intro d hd; obtain ⟨n, _, rfl⟩ := List.mem_map.mp hd; rfl
  have hany : ((nD es).any fun y => y.eqF (.int c)) = decide (c ∈ es) := by
    rw [Bool.eq_iff_iff, List.any_eq_true, decide_eq_true_iff]
    have he : ∀ n : Nat, D.eqF (.int n) (.int c) = ((n : Int) == c) := fun n => by simp [D.eqF, D.fv, eqV]
    constructor
    · rintro ⟨d, hd, h⟩
      obtain ⟨n, hn, rfl⟩ := List.mem_map.mp hd
      rw [he] at h
      have : n = c := by have : (n : Int) = c := by simpa using h
                         omega
      exact this ▸ hn
    · intro h
      exact ⟨.int c, List.mem_map.mpr ⟨c, h, rfl⟩, by rw [he]; simp⟩
  unfold gInE gIn
  rw [seqAt_ref hs]
  simp only [hall, hany]
  rfl
theorem rD_cut (rs : List (Nat × List Nat)) (w : Nat) : cut (rs.map rD) none (some (w : Int)) = (rs.take w).map rD := by rw [cut_to, List.map_take]
theorem take_len {rs : List (Nat × List Nat)} {c : Nat} : (rs.take (wh rs c)).length = wh rs c := by rw [List.length_take, Nat.min_eq_left (wh_le _ _)]
theorem body2 (hc : Closed pre) (hrs : okRs rs) (c : Nat) (hcl : c ≤ ol rs) (t3 t7 t8 t9 t11 t12 t13 t14 t15 t16 t17 t18 : Option D) : ∃ t11' t12', L_law_2 (E0 sc k pre.length rs (oc rs) t3 t7 t8 t9 (some (.int c)) t11 t12 t13 t14 t15 t16 t17 t18) (pre ++ bx b :: [.lst (nD (en rs))]) =
    .ok (.nx (E0 sc k pre.length rs (oc rs) t3 t7 t8 t9 (some (.int c)) t11' t12' t13 t14 t15 t16 t17 t18)) (pre ++ bx b :: [.lst (nD (en rs))]) := by
  have hC := closed2 hc b (en rs)
  have hol := hrs.ol
  have hps := ps_cut rs c hcl
  have hlen : ((oc rs).take c).length < 100000 := by rw [List.length_take, oc_len]; omega
  have hlt : ∀ n ∈ (oc rs).take c, n < 100000 := fun n hn => by have := oc_lt hrs.ok n (List.mem_of_mem_take hn); omega
  have hf := e_frames_of hC hps hlen hlt
  have hw := e_whole_octets hC hps hlen hlt
  rw [take_len] at hf
  have hsame := e_sameG hC (pl_out (rs.take (wh rs c)) (if c = ol (rs.take (wh rs c)) then .fin else .torn) (wh rs c) (by rw [take_len]; have := wh_le rs c; have := hrs.1; omega) (fun r hr => by have := (hrs.2 r (List.mem_of_mem_take hr)).2.1; omega))
  have hsame2 := e_sameG hC (d := .int (ol (rs.take (wh rs c)) : Nat)) trivial
  rw [sum_ol] at hw
  have hwhole := e_whole (b := b) (pre := pre) rs (E0 sc k pre.length rs (oc rs) t3 t7 t8 t9 (some (.int c)) t11 t12 t13 t14 t15 t16 t17 t18) 10 c rfl rfl rfl (by decide) (by have := hrs.1; omega)
  refine ⟨some (.int (wh rs c : Nat)), some (.tup [.tup ((rs.take (wh rs c)).map rD), (if c = ol (rs.take (wh rs c)) then Tl.fin else .torn).d (wh rs c)]), ?_⟩
  unfold L_law_2
  rw [seq_nx (e1 := E0 sc k pre.length rs (oc rs) t3 t7 t8 t9 (some (.int c)) (some (.int (wh rs c : Nat))) t12 t13 t14 t15 t16 t17 t18) (st1 := pre ++ bx b :: [.lst (nD (en rs))]) (by rw [ev_sSet, hwhole]; rfl)]
  have hin := fIn (pre := pre) (b := b) (en rs) c (get2 _ _)
  rw [seq_nx (e1 := E0 sc k pre.length rs (oc rs) t3 t7 t8 t9 (some (.int c)) (some (.int (wh rs c : Nat))) (some (.tup [.tup ((rs.take (wh rs c)).map rD), (if c = ol (rs.take (wh rs c)) then Tl.fin else .torn).d (wh rs c)])) t13 t14 t15 t16 t17 t18) (st1 := pre ++ bx b :: [.lst (nD (en rs))]) (by
    by_cases hm : c = ol (rs.take (wh rs c))
    · have hm2 := (en_mem rs c).mpr hm
      rw [if_pos hm]
      simp [E0, rD_cut, hin, hm2, Tl.d]
    · have hm2 : c ∉ en rs := fun z => hm ((en_mem rs c).mp z)
      rw [if_neg hm]
      simp [E0, rD_cut, hin, hm2, Tl.d])]
  have hcut : cut (nD (oc rs)) none (some (c : Int)) = nD ((oc rs).take c) := by rw [cut_to, nD_take]
  have hix : gIx (.ref (pre.length + 1)) (.int (wh rs c : Nat)) (pre ++ bx b :: [.lst (nD (en rs))]) = .ok (.int (ol (rs.take (wh rs c)) : Nat)) (pre ++ bx b :: [.lst (nD (en rs))]) :=
    gIx_nat (seqAt_ref (get2 _ _)) (by rw [nD_get, en_get _ _ (wh_le _ _)]; rfl)
  simp [E0, hcut, hf, hsame, hw, hix, hsame2, -List.map_take]
theorem loop2 (hc : Closed pre) (hrs : okRs rs) (cs : List Nat) (hcs : ∀ c ∈ cs, c ≤ ol rs) (hcl : cs.length < 100000) (t3 t7 t8 t9 t10 t11 t12 t13 t14 t15 t16 t17 t18 : Option D) : ∃ t10' t11' t12', forGo (wkSeq (nD cs)) (.nm 10) L_law_2 16777215 0 (E0 sc k pre.length rs (oc rs) t3 t7 t8 t9 t10 t11 t12 t13 t14 t15 t16 t17 t18) (pre ++ bx b :: [.lst (nD (en rs))]) =
    .ok (.nx (E0 sc k pre.length rs (oc rs) t3 t7 t8 t9 t10' t11' t12' t13 t14 t15 t16 t17 t18)) (pre ++ bx b :: [.lst (nD (en rs))]) := by
  obtain ⟨e', st', h1, rfl, t10', t11', t12', rfl⟩ := for_inv0 (wk := wkSeq (nD cs)) (p := .nm 10) (S := L_law_2) (items := nD cs) (fun i env s => s = pre ++ bx b :: [.lst (nD (en rs))] ∧ ∃ t10 t11 t12, env = E0 sc k pre.length rs (oc rs) t3 t7 t8 t9 t10 t11 t12 t13 t14 t15 t16 t17 t18)
    (fun i env s _ => wkSeq_at _ _ _)
    (fun i d env s hd h => by
      obtain ⟨rfl, t10, t11, t12, rfl⟩ := h
      obtain ⟨c, hcm, rfl⟩ := List.mem_map.mp (List.mem_of_getElem? hd)
      obtain ⟨a, e, h⟩ := body2 (sc := sc) (k := k) (b := b) hc hrs c (hcs c hcm) t3 t7 t8 t9 t11 t12 t13 t14 t15 t16 t17 t18
      exact ⟨_, put_nm _ _, _, _, .inl h, rfl, _, _, _, rfl⟩)
    (n := 16777215) (env := E0 sc k pre.length rs (oc rs) t3 t7 t8 t9 t10 t11 t12 t13 t14 t15 t16 t17 t18) (st := pre ++ bx b :: [.lst (nD (en rs))]) (by simp; omega) ⟨rfl, t10, t11, t12, rfl⟩
  exact ⟨_, _, _, h1⟩
end
end F59
end QI

/-! the law: octets changed -/
namespace QI
open PySem PySem.Spec PyProof.Rows L2
namespace F59
theorem oc_app2 (A B : List (Nat × List Nat)) : oc (A ++ B) = oc A ++ oc B := by
  induction A with
  | nil => rfl
  | cons a A ih => simp [oc, ih]
/-- the row at w, two octets of it -/
theorem split_at {rs : List (Nat × List Nat)} {w : Nat} {r : Nat × List Nat} (h : rs[w]? = some r) {d : Nat} (hd2 : d + 1 < r.2.length) :
    ∃ (u v : List Nat) (x y : Nat), r.2 = u ++ x :: y :: v ∧ u.length = d ∧ oc rs = (oc (rs.take w) ++ (hd r.1 r.2.length ++ u)) ++ x :: y :: (v ++ (ft r.2 ++ oc (rs.drop (w + 1)))) := by
  obtain ⟨k, p⟩ := r
  simp only at hd2 ⊢
  have hp : p = p.take d ++ p[d] :: p[d + 1] :: p.drop (d + 2) := by
    have h1 : p.drop d = p[d] :: p.drop (d + 1) := List.drop_eq_getElem_cons (by omega)
    have h2 : p.drop (d + 1) = p[d + 1] :: p.drop (d + 2) := List.drop_eq_getElem_cons hd2
    rw [← h2, ← h1, List.take_append_drop]
  refine ⟨p.take d, p.drop (d + 2), p[d], p[d + 1], hp, by rw [List.length_take]; omega, ?_⟩
  have hw : w < rs.length := lt_of_get h
  have hrs : rs = rs.take w ++ (k, p) :: rs.drop (w + 1) := by
    have : rs[w] = (k, p) := by rw [List.getElem?_eq_getElem hw] at h; exact Option.some.inj h
    rw [← this, List.getElem_cons_drop, List.take_append_drop]
  have e1 : oc rs = oc (rs.take w) ++ (fr (k, p) ++ oc (rs.drop (w + 1))) := by
    conv => lhs; rw [hrs]
    rw [oc_app2]; rfl
  rw [e1]
  simp only [fr, List.append_assoc]
  congr 2
  have : ∀ z : List Nat, p ++ z = p.take d ++ p[d] :: p[d + 1] :: (p.drop (d + 2) ++ z) := fun z =>
    (congrArg (· ++ z) hp).trans (by simp only [List.append_assoc, List.cons_append])
  exact this _
section
variable {pre : Sto} {b : Int × Int} {sc : D} {k : Nat} {rs : List (Nat × List Nat)}
theorem e_chg (hc : Closed pre) (hrs : okRs rs) {o : List Nat} {w : Nat} {t : Tl} (hp : Ps o (rs.take w) t) (hw : w ≤ rs.length) (ho : o.length < 100000) (hlt : ∀ n ∈ o, n < 256) :
    G_frames_of [.tup (nD o)] (pre ++ bx b :: [.lst (nD (en rs))]) = .ok (.tup [.tup ((rs.take w).map rD), t.d w]) (pre ++ bx b :: [.lst (nD (en rs))]) ∧
    G_law_same [.tup [.tup ((rs.take w).map rD), t.d w], .tup [.tup ((rs.take w).map rD), t.d w]] (pre ++ bx b :: [.lst (nD (en rs))]) = .ok (.bl true) (pre ++ bx b :: [.lst (nD (en rs))]) := by
  have hC := closed2 hc b (en rs)
  have hf := e_frames_of hC hp ho (fun n hn => by have := hlt n hn; omega)
  rw [List.length_take, Nat.min_eq_left hw] at hf
  exact ⟨hf, e_sameG hC (pl_out (rs.take w) t w (by rw [List.length_take]; have := hrs.1; omega) (fun r hr => by have := (hrs.2 r (List.mem_of_mem_take hr)).2.1; omega))⟩
theorem body3 (hc : Closed pre) (hb : okB b) (hrs : okRs rs) (h0 : 1 ≤ rs.length) (t3 t7 t8 t9 t10 t11 t12 t13 t14 t15 t16 t17 t18 : Option D) : ∃ b' t11' t12' t13' t14' t15' t16' t17', okB b' ∧ L_law_3 (E0 sc k pre.length rs (oc rs) t3 t7 t8 t9 t10 t11 t12 t13 t14 t15 t16 t17 t18) (pre ++ bx b :: [.lst (nD (en rs))]) =
    .ok (.nx (E0 sc k pre.length rs (oc rs) t3 t7 t8 t9 t10 t11' t12' t13' t14' t15' t16' t17' t18)) (pre ++ bx b' :: [.lst (nD (en rs))]) := by
  have hol := hrs.ol
  have hol1 : 1 ≤ ol rs := by
    cases rs with
    | nil => simp at h0
    | cons r rs => have := fr_len r; simp only [ol]; omega
  obtain ⟨s, b1, hb1, hs, ht1⟩ := e_take (closed2 hc b (en rs)) hb (m := ol rs) (by omega) (by omega)
  have hs' : s < ol rs := by omega
  have hsl : s < (oc rs).length := by rw [oc_len]; exact hs'
  generalize ha : (oc rs)[s] = a
  have ha2 : (oc rs)[s]? = some a := by rw [List.getElem?_eq_getElem hsl, ha]
  have ha3 : a < 256 := oc_lt hrs.ok a (List.mem_of_getElem? ha2)
  obtain ⟨d, b2, hb2, hd, ht2⟩ := e_take (closed2 hc b1 (en rs)) hb1 (m := 255) (by decide) (by decide)
  have hw := wh_lt rs s hs'
  have hbent := ps_bent rs s a ((a + 1 + d) % 256) hrs.ok ha2 (by omega) (by omega)
  obtain ⟨hf, hsame⟩ := e_chg (b := b2) hc hrs hbent (Nat.le_of_lt hw) (by rw [List.length_set, oc_len]; omega) (fun n hn => by
    rcases List.mem_or_eq_of_mem_set hn with hn | rfl
    · exact oc_lt hrs.ok n hn
    · omega)
  generalize hwg : wh rs s = w at *
  have hset : (oc rs).set s ((a + 1 + d) % 256) = (oc rs).take s ++ ((a + 1 + d) % 256) :: (oc rs).drop (s + 1) := by
    rw [List.set_eq_take_append_cons_drop, if_pos hsl]
  have hC1 := closed2 hc b1 (en rs)
  have hC2 := closed2 hc b2 (en rs)
  unfold L_law_3
  rw [seq_nx (e1 := E0 sc k pre.length rs (oc rs) t3 t7 t8 t9 t10 t11 t12 (some (.int s)) t14 t15 t16 t17 t18) (st1 := pre ++ bx b1 :: [.lst (nD (en rs))]) (by simp [E0, oc_len, ht1])]
  have hwhole := e_whole (b := b1) (pre := pre) rs (E0 sc k pre.length rs (oc rs) t3 t7 t8 t9 t10 t11 t12 (some (.int s)) t14 t15 t16 t17 t18) 13 s rfl rfl rfl (by decide) (by have := hrs.1; omega)
  rw [hwg] at hwhole
  rw [seq_nx (e1 := E0 sc k pre.length rs (oc rs) t3 t7 t8 t9 t10 (some (.int w)) t12 (some (.int s)) t14 t15 t16 t17 t18) (st1 := pre ++ bx b1 :: [.lst (nD (en rs))]) (by rw [ev_sSet, hwhole]; rfl)]
  have c1 : cut (nD (oc rs)) none (some (s : Int)) = nD ((oc rs).take s) := by rw [cut_to, nD_take]
  have c2 : cut (nD (oc rs)) (some ((s : Int) + 1)) none = nD ((oc rs).drop (s + 1)) := by rw [show (s : Int) + 1 = ((s + 1 : Nat) : Int) from rfl, cut_from, nD_drop]
  have g1 : ∀ st : Sto, gIx (.tup (nD (oc rs))) (.int s) st = .ok (.int a) st := fun st => gIx_nat (xs := nD (oc rs)) rfl (by rw [nD_get, ha2]; rfl)
  have ba : Builtin.bitAnd ((a : Int) + 1 + d) 255 = (((a + 1 + d) % 256 : Nat) : Int) := by
    rw [PyProof.Rows.bitAnd_m8]; omega
  have z1 : ((oc rs).take s).length + 1 ≤ 16777216 := by rw [List.length_take, oc_len]; omega
  have z2 : ((oc rs).take s).length + 1 + ((oc rs).drop (s + 1)).length ≤ 16777216 := by rw [List.length_take, List.length_drop, oc_len]; omega
  rw [seq_nx (e1 := E0 sc k pre.length rs (oc rs) t3 t7 t8 t9 t10 (some (.int w)) t12 (some (.int s)) (some (.tup (nD ((oc rs).set s ((a + 1 + d) % 256))))) t15 t16 t17 t18) (st1 := pre ++ bx b2 :: [.lst (nD (en rs))]) (by
    rw [hset, nD_app, nD_cons]
    have e1 : iSl (iVar 5) oNone (oSome (iVar 13)) (E0 sc k pre.length rs (oc rs) t3 t7 t8 t9 t10 (some (.int w)) t12 (some (.int s)) t14 t15 t16 t17 t18) (pre ++ bx b1 :: [.lst (nD (en rs))]) = .ok (.tup (nD ((oc rs).take s))) (pre ++ bx b1 :: [.lst (nD (en rs))]) := by simp [E0, c1]
    have e2 : iTup (iCons (iBin gAnd (iBin gAdd (iBin gAdd (iBin gIx (iVar 5) (iVar 13)) (iC (.int 1))) (iCall 2 G_law_take [] (iCons (iVar 2) (iCons (iC (.int 255)) (iNil))))) (iC (.int 255))) (iNil)) (E0 sc k pre.length rs (oc rs) t3 t7 t8 t9 t10 (some (.int w)) t12 (some (.int s)) t14 t15 t16 t17 t18) (pre ++ bx b1 :: [.lst (nD (en rs))]) = .ok (.tup [.int ((a + 1 + d) % 256 : Nat)]) (pre ++ bx b2 :: [.lst (nD (en rs))]) := by simp [E0, g1, ht2, ba]
    have e3 : iSl (iVar 5) (oSome (iBin gAdd (iVar 13) (iC (.int 1)))) oNone (E0 sc k pre.length rs (oc rs) t3 t7 t8 t9 t10 (some (.int w)) t12 (some (.int s)) t14 t15 t16 t17 t18) (pre ++ bx b2 :: [.lst (nD (en rs))]) = .ok (.tup (nD ((oc rs).drop (s + 1)))) (pre ++ bx b2 :: [.lst (nD (en rs))]) := by simp [E0, c2]
    simp only [ev_sSet, ev_bin, e1, e2, e3, Rs.bind_ok, gAdd_tup, nD_len, List.length_append, List.length_cons, List.length_nil, Nat.zero_add, z1, z2, if_true]
    simp [E0])]
  have w0 : cut (rs.map rD) none (some (w : Int)) = (rs.take w).map rD := rD_cut rs w
  rw [seq_nx (e1 := E0 sc k pre.length rs (oc rs) t3 t7 t8 t9 t10 (some (.int w)) t12 (some (.int s)) (some (.tup (nD ((oc rs).set s ((a + 1 + d) % 256))))) t15 t16 t17 t18) (st1 := pre ++ bx b2 :: [.lst (nD (en rs))]) (by simp only [Tl.d] at hf hsame; simp [E0, hf, hsame, w0, -List.map_take])]
  have hrw : rs[w]? = some rs[w] := List.getElem?_eq_getElem hw
  generalize hrg : rs[w] = r at hrw
  have hrm := hrs.2 r (List.mem_of_getElem? hrw)
  have hix : gIx (.ref (pre.length + 1)) (.int (w : Nat)) (pre ++ bx b2 :: [.lst (nD (en rs))]) = .ok (.int (ol (rs.take w) : Nat)) (pre ++ bx b2 :: [.lst (nD (en rs))]) :=
    gIx_nat (seqAt_ref (get2 _ _)) (by rw [nD_get, en_get _ _ (Nat.le_of_lt hw)]; rfl)
  have hi2 : ∀ st : Sto, gIx (.tup (rs.map rD)) (.int (w : Nat)) st = .ok (rD r) st := fun st => gIx_nat (xs := rs.map rD) rfl (by rw [List.getElem?_map, hrw]; rfl)
  have hi3 : ∀ st : Sto, gIx (.tup [.int r.1, .tup (nD r.2)]) (.int 1) st = .ok (.tup (nD r.2)) st := fun st => rfl
  rw [seq_nx (e1 := E0 sc k pre.length rs (oc rs) t3 t7 t8 t9 t10 (some (.int w)) t12 (some (.int s)) (some (.tup (nD ((oc rs).set s ((a + 1 + d) % 256))))) (some (.int (ol (rs.take w) + 4 : Nat))) (some (.int r.2.length)) t17 t18) (st1 := pre ++ bx b2 :: [.lst (nD (en rs))]) (by simp [E0, hix, hi2, rD, hi3])]
  by_cases hlong : 1 < r.2.length
  · have hlI : (1 : Int) < r.2.length := by omega
    rw [if_t (st1 := pre ++ bx b2 :: [.lst (nD (en rs))]) (by simp [E0, hlI])]
    obtain ⟨d2, b3, hb3, hd2, ht3⟩ := e_take hC2 hb2 (m := (r.2.length : Int) - 1) (by omega) (by omega)
    obtain ⟨u, v, x, y, hp, hu, ho⟩ := split_at hrw (d := d2) (by omega)
    rw [seq_nx (e1 := E0 sc k pre.length rs (oc rs) t3 t7 t8 t9 t10 (some (.int w)) t12 (some (.int s)) (some (.tup (nD ((oc rs).set s ((a + 1 + d) % 256))))) (some (.int (ol (rs.take w) + 4 : Nat))) (some (.int r.2.length)) (some (.int (ol (rs.take w) + 4 + d2 : Nat))) t18) (st1 := pre ++ bx b3 :: [.lst (nD (en rs))]) (by simp [E0, ht3])]
    generalize hF : oc (rs.take w) ++ (F59.hd r.1 r.2.length ++ u) = F at ho
    generalize hG : v ++ (ft r.2 ++ oc (rs.drop (w + 1))) = G at ho
    have hFl : F.length = ol (rs.take w) + 4 + d2 := by rw [← hF]; simp [oc_len, hd_len, hu]; omega
    rw [← hFl]
    have c3 : cut (nD (oc rs)) none (some (F.length : Int)) = nD F := by rw [cut_to, nD_take, ho, List.take_left]
    have c4 : cut (nD (oc rs)) (some ((F.length : Int) + 2)) none = nD G := by
      rw [show (F.length : Int) + 2 = ((F.length + 2 : Nat) : Int) from rfl, cut_from, nD_drop, ho, ← List.drop_drop, List.drop_left]; rfl
    have g3 : ∀ st : Sto, gIx (.tup (nD (oc rs))) (.int F.length) st = .ok (.int x) st := fun st => gIx_nat (xs := nD (oc rs)) rfl (by rw [nD_get, ho, List.getElem?_append_right (Nat.le_refl _), Nat.sub_self]; rfl)
    have g4 : ∀ st : Sto, gIx (.tup (nD (oc rs))) (.int ((F.length : Int) + 1)) st = .ok (.int y) st := fun st => by
      rw [show (F.length : Int) + 1 = ((F.length + 1 : Nat) : Int) from rfl]
      exact gIx_nat (xs := nD (oc rs)) rfl (by rw [nD_get, ho, List.getElem?_append_right (by omega), show F.length + 1 - F.length = 1 by omega]; rfl)
    have hFG : F.length + G.length ≤ 921 := by
      have := congrArg List.length ho
      rw [oc_len] at this
      simp at this
      omega
    have z3 : F.length + 2 ≤ 16777216 := by omega
    have z4 : F.length + 2 + G.length ≤ 16777216 := by omega
    have hC3 := closed2 hc b3 (en rs)
    rw [seq_nx (e1 := E0 sc k pre.length rs (oc rs) t3 t7 t8 t9 t10 (some (.int w)) t12 (some (.int s)) (some (.tup (nD (F ++ y :: x :: G)))) (some (.int (ol (rs.take w) + 4 : Nat))) (some (.int r.2.length)) (some (.int F.length)) t18) (st1 := pre ++ bx b3 :: [.lst (nD (en rs))]) (by simp [E0, c3, c4, g3, g4, z3, z4, nD_app])]
    have hxy : x < 256 ∧ y < 256 := ⟨oc_lt hrs.ok x (by rw [ho]; simp), oc_lt hrs.ok y (by rw [ho]; simp)⟩
    by_cases hne : x = y
    · subst hne
      rw [seq_nx (e1 := E0 sc k pre.length rs (oc rs) t3 t7 t8 t9 t10 (some (.int w)) (some (.tup [.tup (rs.map rD), .non])) (some (.int s)) (some (.tup (nD (F ++ x :: x :: G)))) (some (.int (ol (rs.take w) + 4 : Nat))) (some (.int r.2.length)) (some (.int F.length)) t18) (st1 := pre ++ bx b3 :: [.lst (nD (en rs))]) (by simp [E0, g3, g4])]
      have hq := e_chg (b := b3) (w := rs.length) (t := .fin) hc hrs (by rw [List.take_length]; exact ps_all rs) (Nat.le_refl _) (by rw [oc_len]; omega) (oc_lt hrs.ok)
      rw [ho, List.take_length] at hq
      simp only [Tl.d] at hq
      exact ⟨b3, _, _, _, _, _, _, _, hb3, (if_f (st1 := pre ++ bx b3 :: [.lst (nD (en rs))]) (by simp [E0, hq.1, hq.2])).trans rfl⟩
    · rw [seq_nx (e1 := E0 sc k pre.length rs (oc rs) t3 t7 t8 t9 t10 (some (.int w)) (some (.tup [.tup ((rs.take w).map rD), Tl.chg.d w])) (some (.int s)) (some (.tup (nD (F ++ y :: x :: G)))) (some (.int (ol (rs.take w) + 4 : Nat))) (some (.int r.2.length)) (some (.int F.length)) t18) (st1 := pre ++ bx b3 :: [.lst (nD (en rs))]) (by
        have hne2 : ¬ (x : Int) = y := by omega
        simp [E0, g3, g4, hne, hne2, w0, Tl.d, -List.map_take])]
      have hps : Ps (F ++ y :: x :: G) (rs.take w) .chg := by
        have := ps_swap (rs.take w) (rs.drop (w + 1)) r.1 (u := u) (v := v) hxy.1 hxy.2 hne
        rw [← hp] at this
        rw [← hF, ← hG]
        simpa using this
      have hq := e_chg (b := b3) hc hrs hps (Nat.le_of_lt hw) (by simp; omega) (fun n hn => by
        refine oc_lt hrs.ok n ?_
        rw [ho]
        simp at hn ⊢
        rcases hn with h | h | h | h
        · exact .inl h
        · exact .inr (.inr (.inl h))
        · exact .inr (.inl h)
        · exact .inr (.inr (.inr h)))
      exact ⟨b3, _, _, _, _, _, _, _, hb3, (if_f (st1 := pre ++ bx b3 :: [.lst (nD (en rs))]) (by simp [E0, Tl.d] at hq ⊢; simp [hq.1, hq.2])).trans rfl⟩
  · have hlI : ¬ (1 : Int) < r.2.length := by omega
    rw [if_f (st1 := pre ++ bx b2 :: [.lst (nD (en rs))]) (by simp [E0, hlI])]
    exact ⟨b2, _, _, _, _, _, _, _, hb2, rfl⟩
theorem loop3 (hc : Closed pre) (hb : okB b) (hrs : okRs rs) (h0 : 1 ≤ rs.length) (t3 t7 t8 t9 t10 t11 t12 t13 t14 t15 t16 t17 t18 : Option D) : ∃ b' t3' t11' t12' t13' t14' t15' t16' t17', okB b' ∧ forGo (wkRange 0 12) (.nm 3) L_law_3 16777215 0 (E0 sc k pre.length rs (oc rs) t3 t7 t8 t9 t10 t11 t12 t13 t14 t15 t16 t17 t18) (pre ++ bx b :: [.lst (nD (en rs))]) =
    .ok (.nx (E0 sc k pre.length rs (oc rs) t3' t7 t8 t9 t10 t11' t12' t13' t14' t15' t16' t17' t18)) (pre ++ bx b' :: [.lst (nD (en rs))]) := by
  obtain ⟨e', st', h1, b', hb', rfl, t3', t11', t12', t13', t14', t15', t16', t17', rfl⟩ := for_inv0 (wk := wkRange 0 12) (p := .nm 3) (S := L_law_3) (items := rangeD 0 12) (fun i env s => ∃ b, okB b ∧ s = pre ++ bx b :: [.lst (nD (en rs))] ∧ ∃ t3 t11 t12 t13 t14 t15 t16 t17, env = E0 sc k pre.length rs (oc rs) t3 t7 t8 t9 t10 t11 t12 t13 t14 t15 t16 t17 t18)
    (fun i env s _ => wkRange_at _ _ _ _)
    (fun i d env s hd h => by
      obtain ⟨b, hb, rfl, t3, t11, t12, t13, t14, t15, t16, t17, rfl⟩ := h
      obtain ⟨b', a1, a2, a3, a4, a5, a6, a7, hb', h⟩ := body3 (sc := sc) (k := k) hc hb hrs h0 (some d) t7 t8 t9 t10 t11 t12 t13 t14 t15 t16 t17 t18
      exact ⟨_, put_nm _ _, _, _, .inl h, b', hb', rfl, _, _, _, _, _, _, _, _, rfl⟩)
    (n := 16777215) (env := E0 sc k pre.length rs (oc rs) t3 t7 t8 t9 t10 t11 t12 t13 t14 t15 t16 t17 t18) (st := pre ++ bx b :: [.lst (nD (en rs))]) (by simp) ⟨b, hb, rfl, t3, t11, t12, t13, t14, t15, t16, t17, rfl⟩
  exact ⟨b', _, _, _, _, _, _, _, _, hb', h1⟩
end
end F59
end QI

/-! the law, whole -/
namespace QI
open PySem PySem.Spec PyProof.Rows L2
namespace F59
section
variable {pre : Sto} {b : Int × Int} {sc : D} {k : Nat} {rs : List (Nat × List Nat)}
theorem e_rows (hc : Closed pre) (hb : okB b) (t3 t4 : Option D) (ev : Ev) :
    ∃ (rs : List (Nat × List Nat)) (b' : Int × Int), okB b' ∧ okRs rs ∧ 1 ≤ rs.length ∧ iComp fRol 16777215 (iWalkC fRange1 (iCons (iBin gAdd (iC (.int 1)) (iCall 2 G_law_take [] (iCons (iVar 2) (iCons (iC (.int 3)) (iNil))))) (iNil))) (.nm 3) (iYes) (iTup (iCons (iCall 2 G_law_take [] (iCons (iVar 2) (iCons (iC (.int 256)) (iNil)))) (iCons (iCall 1 G_law_payload [] (iCons (iVar 2) (iNil))) (iNil)))) [3]
      (some sc :: some (.int k) :: some (.ref pre.length) :: t3 :: t4 :: ev) (pre ++ bx b :: []) = .ok (.rol (rs.map rD)) (pre ++ bx b' :: []) := by
  obtain ⟨d, b1, hb1, hd, ht⟩ := e_take (closed1 hc b) hb (m := 3) (by decide) (by decide)
  obtain ⟨acc, st', h1, rs, b2, hb2, hl, hrs, rfl, rfl⟩ := comp_inv0 (wk := wkRange 0 (1 + d)) (p := .nm 3) (T := iYes) (vs := [3]) (env := some sc :: some (.int k) :: some (.ref pre.length) :: t3 :: t4 :: ev) (fin := fRol) (items := rangeD 0 (1 + d))
    (A := iTup (iCons (iCall 2 G_law_take [] (iCons (iVar 2) (iCons (iC (.int 256)) (iNil)))) (iCons (iCall 1 G_law_payload [] (iCons (iVar 2) (iNil))) (iNil))))
    (fun i acc s => ∃ (rs : List (Nat × List Nat)) (b' : Int × Int), okB b' ∧ rs.length = i ∧ (∀ r ∈ rs, r.1 < 256 ∧ r.2.length ≤ 300 ∧ ∀ n ∈ r.2, n < 256) ∧ acc = rs.map rD ∧ s = pre ++ bx b' :: [])
    (fun i acc s _ => wkRange_at _ _ _ _)
    (fun i z acc s hd h => by
      obtain ⟨rs, b2, hb2, hl, hrs, rfl, rfl⟩ := h
      obtain ⟨q, b3, hb3, hq, h3⟩ := e_take (closed1 hc b2) hb2 (m := 256) (by decide) (by decide)
      obtain ⟨p, b4, hb4, hp1, hp2, h4⟩ := e_payload (closed1 hc b3) hb3
      refine ⟨_, rfl, true, _, rfl, .inr ⟨rfl, rD (q, p), _, ?_, rs ++ [(q, p)], b4, hb4, by simp [hl], ?_, by simp, rfl⟩⟩
      · simp [wipeE, h3, h4, rD]
      · intro r hr
        rcases List.mem_append.mp hr with hr | hr
        · exact hrs r hr
        · rw [List.mem_singleton] at hr
          subst hr
          exact ⟨by simp only; omega, hp1, hp2⟩)
    (n := 16777215) (st := pre ++ bx b1 :: []) (by simp; omega) (by simp; omega) ⟨[], b1, hb1, rfl, by simp, rfl, rfl⟩
  rw [rangeD_len] at hl
  refine ⟨rs, b2, hb2, ⟨by omega, hrs⟩, by omega, ?_⟩
  exact (comp_eq (walkC_eq (ds := [.int (1 + d : Nat)]) (st1 := pre ++ bx b1 :: []) (by simp [ht]) (fRange1_nat (by omega)))).trans h1
theorem e_cuts (hc : Closed pre) (hb : okB b) (hrs : okRs rs) (h0 : 1 ≤ rs.length) (t3 t7 t8 t9 t10 t11 t12 t13 t14 t15 t16 t17 t18 : Option D) :
    ∃ (cs : List Nat) (b' : Int × Int), okB b' ∧ (∀ c ∈ cs, c ≤ ol rs) ∧ cs.length < 100000 ∧
      iIf (iTest (iBin gLt (iCallB gLen (iCons (iVar 5) (iNil))) (iC (.int 60)))) (iRol (iListRange (iCallB gLen (iCons (iVar 5) (iNil))))) (iBin gAdd (iComp fRol 16777215 (iWalkC fRange1 (iCons (iC (.int 20)) (iNil))) (.nm 3) (iYes) (iCall 2 G_law_take [] (iCons (iVar 2) (iCons (iCallB gLen (iCons (iVar 5) (iNil))) (iNil)))) [3]) (iSl (iVar 6) (oNone) (oSome (iUn gNeg (iC (.int 1))))))
        (E0 sc k pre.length rs (oc rs) t3 t7 t8 t9 t10 t11 t12 t13 t14 t15 t16 t17 t18) (pre ++ bx b :: [.lst (nD (en rs))]) = .ok (.rol (nD cs)) (pre ++ bx b' :: [.lst (nD (en rs))]) := by
  have hol := hrs.ol
  have hol1 : 1 ≤ ol rs := by
    cases rs with
    | nil => simp at h0
    | cons r rs => have := fr_len r; simp only [ol]; omega
  by_cases hz : ol rs < 60
  · refine ⟨List.range (ol rs), b, hb, fun c hc => by have := List.mem_range.mp hc; omega, by simp; omega, ?_⟩
    have hz1 : (ol rs : Int) < 60 := by omega
    have hz2 : (ol rs : Int) ≤ 16777216 := by omega
    simp [E0, oc_len, hz1, hz2]
    rfl
  · obtain ⟨acc, st', h1, cs, b2, hb2, hl, hcs, rfl, rfl⟩ := comp_inv0 (wk := wkRange 0 20) (p := .nm 3) (T := iYes) (vs := [3]) (env := E0 sc k pre.length rs (oc rs) t3 t7 t8 t9 t10 t11 t12 t13 t14 t15 t16 t17 t18) (fin := fRol) (items := rangeD 0 20)
      (A := iCall 2 G_law_take [] (iCons (iVar 2) (iCons (iCallB gLen (iCons (iVar 5) (iNil))) (iNil))))
      (fun i acc s => ∃ (cs : List Nat) (b' : Int × Int), okB b' ∧ cs.length = i ∧ (∀ c ∈ cs, c ≤ ol rs) ∧ acc = nD cs ∧ s = pre ++ bx b' :: [.lst (nD (en rs))])
      (fun i acc s _ => wkRange_at _ _ _ _)
      (fun i z acc s hd h => by
        obtain ⟨cs, b2, hb2, hl, hcs, rfl, rfl⟩ := h
        obtain ⟨q, b3, hb3, hq, h3⟩ := e_take (closed2 hc b2 (en rs)) hb2 (m := ol rs) (by omega) (by omega)
        refine ⟨_, rfl, true, _, rfl, .inr ⟨rfl, .int (q : Nat), _, ?_, cs ++ [q], b3, hb3, by simp [hl], ?_, by simp [nD_app], rfl⟩⟩
        · simp [wipeE, E0, oc_len, h3]
        · intro r hr
          rcases List.mem_append.mp hr with hr | hr
          · exact hcs r hr
          · rw [List.mem_singleton] at hr
            subst hr
            omega)
      (n := 16777215) (st := pre ++ bx b :: [.lst (nD (en rs))]) (by simp) (by simp) ⟨[], b, hb, rfl, by simp, rfl, rfl⟩
    rw [rangeD_len] at hl
    have hcl := cut_len (ns := en rs) (lo := none) (hi := some (-1))
    rw [en_len] at hcl
    have hr3 := hrs.1
    have hsl : iSl (iVar 6) (oNone) (oSome (iUn gNeg (iC (.int 1)))) (E0 sc k pre.length rs (oc rs) t3 t7 t8 t9 t10 t11 t12 t13 t14 t15 t16 t17 t18) (pre ++ bx b2 :: [.lst (nD (en rs))]) = .ok (.rol (nD (cut (en rs) none (some (-1))))) (pre ++ bx b2 :: [.lst (nD (en rs))]) := by
      have := gSl_ref (get2 (pre := pre) (bx b2) (.lst (nD (en rs)))) none (some (-1))
      rw [nD_cut] at this
      simp [E0, this]
    have hcomp := (comp_eq (W := iWalkC fRange1 (iCons (iC (.int 20)) (iNil))) (st := pre ++ bx b :: [.lst (nD (en rs))]) (walkC_eq (ds := [.int (20 : Nat)]) (st1 := pre ++ bx b :: [.lst (nD (en rs))]) rfl (fRange1_nat (by omega)))).trans h1
    refine ⟨cs ++ cut (en rs) none (some (-1)), b2, hb2, ?_, by rw [List.length_append]; omega, ?_⟩
    · intro c hcm
      rcases List.mem_append.mp hcm with h | h
      · exact hcs c h
      · exact en_le rs c (cut_sub c h)
    · have ht : iTest (iBin gLt (iCallB gLen (iCons (iVar 5) (iNil))) (iC (.int 60))) (E0 sc k pre.length rs (oc rs) t3 t7 t8 t9 t10 t11 t12 t13 t14 t15 t16 t17 t18) (pre ++ bx b :: [.lst (nD (en rs))]) = .ok false (pre ++ bx b :: [.lst (nD (en rs))]) := by
        simp [E0, oc_len]; omega
      rw [ev_if, ht]
      simp only [Rs.bind_ok, Bool.false_eq_true, if_false]
      rw [ev_bin, hcomp]
      simp only [fRol_ok, Rs.bind_ok, hsl, gAdd_rol, nD_len]
      rw [if_pos (by omega), nD_app]
theorem turn {st : Sto} (hc : Closed st) (ns : List Int) (hns : ns.length < 1000) (hk : k < 1000) (t2 t3 t4 t5 t6 t7 t8 t9 t10 t11 t12 t13 t14 t15 t16 t17 t18 : Option D) :
    ∃ ev st', ev.length = 18 ∧ Closed st' ∧ st.length ≤ st'.length ∧ L_law_4 [some (.scr (ns.map D.int)), some (.int k), t2, t3, t4, t5, t6, t7, t8, t9, t10, t11, t12, t13, t14, t15, t16, t17, t18] st = .ok (.nx (some (.scr (ns.map D.int)) :: ev)) st' := by
  obtain ⟨b, hb, h1⟩ := e_box hc ns k hk hns
  obtain ⟨rs, b1, hb1, hrs, h0, h2⟩ := e_rows (sc := .scr (ns.map D.int)) (k := k) hc hb t3 t4 [t5, t6, t7, t8, t9, t10, t11, t12, t13, t14, t15, t16, t17, t18]
  obtain ⟨t7', t8', h3⟩ := loop1 (sc := .scr (ns.map D.int)) (k := k) (b := b1) hc hrs t3 t7 t8 t9 t10 t11 t12 t13 t14 t15 t16 t17 t18
  have hol := hrs.ol
  have hq := e_chg (b := b1) (w := rs.length) (t := .fin) hc hrs (by rw [List.take_length]; exact ps_all rs) (Nat.le_refl _) (by rw [oc_len]; omega) (oc_lt hrs.ok)
  rw [List.take_length] at hq
  simp only [Tl.d] at hq
  obtain ⟨cs, b2, hb2, hcs, hcl, h4⟩ := e_cuts (sc := .scr (ns.map D.int)) (k := k) hc hb1 hrs h0 t3 t7' t8' t9 t10 t11 t12 t13 t14 t15 t16 t17 t18
  obtain ⟨t10', t11', t12', h5⟩ := loop2 (sc := .scr (ns.map D.int)) (k := k) (b := b2) hc hrs cs hcs hcl t3 t7' t8' (some (.rol (nD cs))) t10 t11 t12 t13 t14 t15 t16 t17 t18
  obtain ⟨b3, t3', t11'', t12'', t13', t14', t15', t16', t17', hb3, h6⟩ := loop3 (sc := .scr (ns.map D.int)) (k := k) hc hb2 hrs h0 t3 t7' t8' (some (.rol (nD cs))) t10' t11' t12' t13 t14 t15 t16 t17 t18
  suffices main : L_law_4 [some (.scr (ns.map D.int)), some (.int k), t2, t3, t4, t5, t6, t7, t8, t9, t10, t11, t12, t13, t14, t15, t16, t17, t18] st = .ok (.nx (E0 (.scr (ns.map D.int)) k st.length rs (oc rs) t3' t7' t8' (some (.rol (nD cs))) t10' t11'' t12'' t13' t14' t15' t16' t17' t18)) (st ++ bx b3 :: [.lst (nD (en rs))]) from ⟨_, _, rfl, closed2 hc b3 (en rs), by simp, main⟩
  unfold L_law_4
  rw [seq_nx (e1 := [some (.scr (ns.map D.int)), some (.int k), some (.ref st.length), t3, t4, t5, t6, t7, t8, t9, t10, t11, t12, t13, t14, t15, t16, t17, t18]) (st1 := st ++ bx b :: []) (by simp [h1])]
  rw [seq_nx (e1 := [some (.scr (ns.map D.int)), some (.int k), some (.ref st.length), t3, some (.tup (rs.map rD)), t5, t6, t7, t8, t9, t10, t11, t12, t13, t14, t15, t16, t17, t18]) (st1 := st ++ bx b1 :: []) (by rw [ev_sSet, ev_callB, ev_cons, h2]; rfl)]
  rw [seq_nx (e1 := E0 (.scr (ns.map D.int)) k st.length rs [] t3 t7 t8 t9 t10 t11 t12 t13 t14 t15 t16 t17 t18) (st1 := st ++ bx b1 :: [.lst (nD [0])]) (by simp [E0])]
  rw [seq_nx ((for_eq (st1 := st ++ bx b1 :: [.lst (nD [0])]) (by simp [E0])).trans h3)]
  rw [seq_nx (e1 := E0 (.scr (ns.map D.int)) k st.length rs (oc rs) t3 t7' t8' t9 t10 t11 t12 t13 t14 t15 t16 t17 t18) (st1 := st ++ bx b1 :: [.lst (nD (en rs))]) (by simp [E0, hq.1, hq.2])]
  rw [seq_nx (e1 := E0 (.scr (ns.map D.int)) k st.length rs (oc rs) t3 t7' t8' (some (.rol (nD cs))) t10 t11 t12 t13 t14 t15 t16 t17 t18) (st1 := st ++ bx b2 :: [.lst (nD (en rs))]) (by rw [ev_sSet, h4]; rfl)]
  rw [seq_nx ((for_eq (st1 := st ++ bx b2 :: [.lst (nD (en rs))]) (by simp [E0])).trans h5)]
  exact (for_eq (walkC_eq (ds := [.int (12 : Nat)]) (st1 := st ++ bx b2 :: [.lst (nD (en rs))]) rfl (fRange1_nat (by omega)))).trans h6
end
end F59
end QI

/-! the law holds -/
namespace QI
open PySem PySem.Spec PyProof.Rows L2
namespace F59
theorem e_law (ns : List Int) (hns : ns.length < 1000) : G_law [.scr (ns.map D.int)] [] = .ok (.bl true) [] := by
  have hend : ∀ {st : Sto}, Closed st → ∀ env : Ev, sRet (iCall 2 G_law_same [] (iCons (iCall 2 G_frame [] (iCons (iC (.int 0)) (iCons (iTup (iCons (iC (.int 1)) (iCons (iC (.int 2)) (iNil)))) (iNil)))) (iCons (iTup (iCons (iC (.int 0)) (iCons (iC (.int 0)) (iCons (iC (.int 2)) (iCons (iC (.int 2)) (iCons (iC (.int 1)) (iCons (iC (.int 2)) (iCons (iC (.int 3)) (iCons (iC (.int 0)) (iCons (iC (.int 5)) (iNil))))))))))) (iNil)))) env st = .ok (.rt (.bl true)) st := by
    intro st hc env
    have h1 := e_frame hc 0 [1, 2] (by decide) (by decide)
    have h2 := e_sameG hc (pl_nD 6 (fr (0, [1, 2])) (by decide))
    have h3 : nD (fr (0, [1, 2])) = [.int 0, .int 0, .int 2, .int 2, .int 1, .int 2, .int 3, .int 0, .int 5] := rfl
    rw [h3] at h1 h2
    simp at h1
    simp [h1, h2]
  obtain ⟨m, hm, hr⟩ : ∃ m : Nat, m < 1000 ∧ ∀ (env : Ev) (st : Sto), iCons (iCallB gMax (iCons (iC (.int 3)) (iCons (iCallB gMin (iCons (iCallB gLen (iCons (iVar 0) (iNil))) (iCons (iC (.int 5)) (iNil)))) (iNil)))) (iNil) (some (.scr (ns.map D.int)) :: env) st = .ok [.int (m : Nat)] st := by
    by_cases h5 : 5 < ns.length
    · exact ⟨5, by decide, fun env st => by
        have h5' : (5 : Int) < ns.length := by omega
        simp [h5']⟩
    · by_cases h3 : 3 < ns.length
      · exact ⟨ns.length, hns, fun env st => by
          have h5' : ¬ (5 : Int) < ns.length := by omega
          have h3' : (3 : Int) < ns.length := by omega
          simp [h5', h3']⟩
      · exact ⟨3, by decide, fun env st => by
          have h5' : ¬ (5 : Int) < ns.length := by omega
          have h3' : ¬ (3 : Int) < ns.length := by omega
          simp [h5', h3']⟩
  obtain ⟨e', st', h1, hc', ev, hev, rfl⟩ := for_inv0 (wk := wkRange 0 m) (p := .nm 1) (S := L_law_4) (items := rangeD 0 m) (fun i env s => Closed s ∧ ∃ ev, ev.length = 18 ∧ env = some (.scr (ns.map D.int)) :: ev)
    (fun i env s _ => wkRange_at _ _ _ _)
    (fun i d env s hd h => by
      obtain ⟨hc, ev, hev, rfl⟩ := h
      obtain ⟨hi, rfl⟩ := rangeD_get hd
      rw [Int.zero_add]
      match ev, hev with
      | [t1, t2, t3, t4, t5, t6, t7, t8, t9, t10, t11, t12, t13, t14, t15, t16, t17, t18], _ =>
        obtain ⟨ev, st', h1, h2, _, h3⟩ := turn hc ns hns (k := i) (by omega) t2 t3 t4 t5 t6 t7 t8 t9 t10 t11 t12 t13 t14 t15 t16 t17 t18
        exact ⟨_, put_nm _ _, _, _, .inl h3, h2, ev, h1, rfl⟩)
    (n := 16777215) (env := some (.scr (ns.map D.int)) :: List.replicate 18 none) (st := []) (by simp; omega) ⟨fun c hc => (by cases hc), List.replicate 18 none, rfl, rfl⟩
  have hB : B_law (startE N_law [.scr (ns.map D.int)]) [] = .ok (.rt (.bl true)) st' := by
    show B_law (some (.scr (ns.map D.int)) :: List.replicate 18 none) [] = _
    unfold B_law
    rw [seq_nx ((for_eq (walkC_eq (hr _ _) (fRange1_nat (by omega)))).trans h1)]
    exact hend hc' _
  show run N_law B_law _ _ = _
  unfold run
  rw [hB]
  show trim [] (.bl true) st' = _
  unfold trim
  rw [if_pos ⟨Nat.zero_le _, by simp, fun c hc => by simp at hc⟩]
  simp
end F59
end QI

namespace QI
open PySem PySem.Spec PyProof.Rows L2
theorem all_mk {l : PySem.W.OpenLaw} {w : World} {K : PySem.W.Frag} {h : Heap} {mg : Str → Option Value} {fa f_xored f_weighed f_head_of f_foot_of f_frame f_frames_of f_whole_octets f_law_box f_law_take f_law_pick f_law_same f_law_frame f_law_payload f_law : Addr} (X : K.In h) (G : h.Ns mainGlobals mg) (hfa : mg "law" = some (.ref fa))
    {od_xored an_xored od_weighed an_weighed od_head_of an_head_of od_foot_of an_foot_of od_frame an_frame od_frames_of an_frames_of od_whole_octets an_whole_octets od_law_box an_law_box od_law_take an_law_take od_law_pick an_law_pick od_law_same an_law_same od_law_frame an_law_frame od_law_payload an_law_payload od_law an_law : Option Addr} {sl_xored sl_weighed sl_head_of sl_foot_of sl_frame sl_frames_of sl_whole_octets sl_law_box sl_law_take sl_law_pick sl_law_same sl_law_frame sl_law_payload sl_law : Array (Option Value)} {oc_xored kV_xored dc_xored pm_xored cd_xored ct_xored oc_weighed kV_weighed dc_weighed pm_weighed cd_weighed ct_weighed oc_head_of kV_head_of dc_head_of pm_head_of cd_head_of ct_head_of oc_foot_of kV_foot_of dc_foot_of pm_foot_of cd_foot_of ct_foot_of oc_frame kV_frame dc_frame pm_frame cd_frame ct_frame oc_frames_of kV_frames_of dc_frames_of pm_frames_of cd_frames_of ct_frames_of oc_whole_octets kV_whole_octets dc_whole_octets pm_whole_octets cd_whole_octets ct_whole_octets oc_law_box kV_law_box dc_law_box pm_law_box cd_law_box ct_law_box oc_law_take kV_law_take dc_law_take pm_law_take cd_law_take ct_law_take oc_law_pick kV_law_pick dc_law_pick pm_law_pick cd_law_pick ct_law_pick oc_law_same kV_law_same dc_law_same pm_law_same cd_law_same ct_law_same oc_law_frame kV_law_frame dc_law_frame pm_law_frame cd_law_frame ct_law_frame oc_law_payload kV_law_payload dc_law_payload pm_law_payload cd_law_payload ct_law_payload oc_law kV_law dc_law pm_law cd_law ct_law : Value} {tk_FOOT tk_HEAD tk_WEIGHED : Tok}
    (a_xored : PySem.W.nsIn K mainGlobals "xored" = some (some (.ref f_xored))) (l_xored : K.lookup f_xored = some ⟨oc_xored, od_xored, .func (PySem.W.fnOf "xored" "xored" (defArgs S_xored) (defBody S_xored) (defScope S_xored) .none kV_xored dc_xored pm_xored an_xored cd_xored ct_xored), sl_xored⟩) (c_xored : PySem.W.codeIn K cd_xored "xored" = true) (k_xored : PySem.W.keepIn K (.ref f_xored) = true)
    (a_weighed : PySem.W.nsIn K mainGlobals "weighed" = some (some (.ref f_weighed))) (l_weighed : K.lookup f_weighed = some ⟨oc_weighed, od_weighed, .func (PySem.W.fnOf "weighed" "weighed" (defArgs S_weighed) (defBody S_weighed) (defScope S_weighed) .none kV_weighed dc_weighed pm_weighed an_weighed cd_weighed ct_weighed), sl_weighed⟩) (c_weighed : PySem.W.codeIn K cd_weighed "weighed" = true) (k_weighed : PySem.W.keepIn K (.ref f_weighed) = true)
    (a_head_of : PySem.W.nsIn K mainGlobals "head_of" = some (some (.ref f_head_of))) (l_head_of : K.lookup f_head_of = some ⟨oc_head_of, od_head_of, .func (PySem.W.fnOf "head_of" "head_of" (defArgs S_head_of) (defBody S_head_of) (defScope S_head_of) .none kV_head_of dc_head_of pm_head_of an_head_of cd_head_of ct_head_of), sl_head_of⟩) (c_head_of : PySem.W.codeIn K cd_head_of "head_of" = true) (k_head_of : PySem.W.keepIn K (.ref f_head_of) = true)
    (a_foot_of : PySem.W.nsIn K mainGlobals "foot_of" = some (some (.ref f_foot_of))) (l_foot_of : K.lookup f_foot_of = some ⟨oc_foot_of, od_foot_of, .func (PySem.W.fnOf "foot_of" "foot_of" (defArgs S_foot_of) (defBody S_foot_of) (defScope S_foot_of) .none kV_foot_of dc_foot_of pm_foot_of an_foot_of cd_foot_of ct_foot_of), sl_foot_of⟩) (c_foot_of : PySem.W.codeIn K cd_foot_of "foot_of" = true) (k_foot_of : PySem.W.keepIn K (.ref f_foot_of) = true)
    (a_frame : PySem.W.nsIn K mainGlobals "frame" = some (some (.ref f_frame))) (l_frame : K.lookup f_frame = some ⟨oc_frame, od_frame, .func (PySem.W.fnOf "frame" "frame" (defArgs S_frame) (defBody S_frame) (defScope S_frame) .none kV_frame dc_frame pm_frame an_frame cd_frame ct_frame), sl_frame⟩) (c_frame : PySem.W.codeIn K cd_frame "frame" = true) (k_frame : PySem.W.keepIn K (.ref f_frame) = true)
    (a_frames_of : PySem.W.nsIn K mainGlobals "frames_of" = some (some (.ref f_frames_of))) (l_frames_of : K.lookup f_frames_of = some ⟨oc_frames_of, od_frames_of, .func (PySem.W.fnOf "frames_of" "frames_of" (defArgs S_frames_of) (defBody S_frames_of) (defScope S_frames_of) .none kV_frames_of dc_frames_of pm_frames_of an_frames_of cd_frames_of ct_frames_of), sl_frames_of⟩) (c_frames_of : PySem.W.codeIn K cd_frames_of "frames_of" = true) (k_frames_of : PySem.W.keepIn K (.ref f_frames_of) = true)
    (a_whole_octets : PySem.W.nsIn K mainGlobals "whole_octets" = some (some (.ref f_whole_octets))) (l_whole_octets : K.lookup f_whole_octets = some ⟨oc_whole_octets, od_whole_octets, .func (PySem.W.fnOf "whole_octets" "whole_octets" (defArgs S_whole_octets) (defBody S_whole_octets) (defScope S_whole_octets) .none kV_whole_octets dc_whole_octets pm_whole_octets an_whole_octets cd_whole_octets ct_whole_octets), sl_whole_octets⟩) (c_whole_octets : PySem.W.codeIn K cd_whole_octets "whole_octets" = true) (k_whole_octets : PySem.W.keepIn K (.ref f_whole_octets) = true)
    (a_law_box : PySem.W.nsIn K mainGlobals "_law_box" = some (some (.ref f_law_box))) (l_law_box : K.lookup f_law_box = some ⟨oc_law_box, od_law_box, .func (PySem.W.fnOf "_law_box" "_law_box" (defArgs S_law_box) (defBody S_law_box) (defScope S_law_box) .none kV_law_box dc_law_box pm_law_box an_law_box cd_law_box ct_law_box), sl_law_box⟩) (c_law_box : PySem.W.codeIn K cd_law_box "_law_box" = true) (k_law_box : PySem.W.keepIn K (.ref f_law_box) = true)
    (a_law_take : PySem.W.nsIn K mainGlobals "_law_take" = some (some (.ref f_law_take))) (l_law_take : K.lookup f_law_take = some ⟨oc_law_take, od_law_take, .func (PySem.W.fnOf "_law_take" "_law_take" (defArgs S_law_take) (defBody S_law_take) (defScope S_law_take) .none kV_law_take dc_law_take pm_law_take an_law_take cd_law_take ct_law_take), sl_law_take⟩) (c_law_take : PySem.W.codeIn K cd_law_take "_law_take" = true) (k_law_take : PySem.W.keepIn K (.ref f_law_take) = true)
    (a_law_pick : PySem.W.nsIn K mainGlobals "_law_pick" = some (some (.ref f_law_pick))) (l_law_pick : K.lookup f_law_pick = some ⟨oc_law_pick, od_law_pick, .func (PySem.W.fnOf "_law_pick" "_law_pick" (defArgs S_law_pick) (defBody S_law_pick) (defScope S_law_pick) .none kV_law_pick dc_law_pick pm_law_pick an_law_pick cd_law_pick ct_law_pick), sl_law_pick⟩) (c_law_pick : PySem.W.codeIn K cd_law_pick "_law_pick" = true) (k_law_pick : PySem.W.keepIn K (.ref f_law_pick) = true)
    (a_law_same : PySem.W.nsIn K mainGlobals "_law_same" = some (some (.ref f_law_same))) (l_law_same : K.lookup f_law_same = some ⟨oc_law_same, od_law_same, .func (PySem.W.fnOf "_law_same" "_law_same" (defArgs S_law_same) (defBody S_law_same) (defScope S_law_same) .none kV_law_same dc_law_same pm_law_same an_law_same cd_law_same ct_law_same), sl_law_same⟩) (c_law_same : PySem.W.codeIn K cd_law_same "_law_same" = true) (k_law_same : PySem.W.keepIn K (.ref f_law_same) = true)
    (a_law_frame : PySem.W.nsIn K mainGlobals "_law_frame" = some (some (.ref f_law_frame))) (l_law_frame : K.lookup f_law_frame = some ⟨oc_law_frame, od_law_frame, .func (PySem.W.fnOf "_law_frame" "_law_frame" (defArgs S_law_frame) (defBody S_law_frame) (defScope S_law_frame) .none kV_law_frame dc_law_frame pm_law_frame an_law_frame cd_law_frame ct_law_frame), sl_law_frame⟩) (c_law_frame : PySem.W.codeIn K cd_law_frame "_law_frame" = true) (k_law_frame : PySem.W.keepIn K (.ref f_law_frame) = true)
    (a_law_payload : PySem.W.nsIn K mainGlobals "_law_payload" = some (some (.ref f_law_payload))) (l_law_payload : K.lookup f_law_payload = some ⟨oc_law_payload, od_law_payload, .func (PySem.W.fnOf "_law_payload" "_law_payload" (defArgs S_law_payload) (defBody S_law_payload) (defScope S_law_payload) .none kV_law_payload dc_law_payload pm_law_payload an_law_payload cd_law_payload ct_law_payload), sl_law_payload⟩) (c_law_payload : PySem.W.codeIn K cd_law_payload "_law_payload" = true) (k_law_payload : PySem.W.keepIn K (.ref f_law_payload) = true)
    (a_law : PySem.W.nsIn K mainGlobals "law" = some (some (.ref f_law))) (l_law : K.lookup f_law = some ⟨oc_law, od_law, .func (PySem.W.fnOf "law" "law" (defArgs S_law) (defBody S_law) (defScope S_law) .none kV_law dc_law pm_law an_law cd_law ct_law), sl_law⟩) (c_law : PySem.W.codeIn K cd_law "law" = true) (k_law : PySem.W.keepIn K (.ref f_law) = true)
    (z_abs : PySem.W.nsIn K mainGlobals "abs" = some none)
    (z_bool : PySem.W.nsIn K mainGlobals "bool" = some none)
    (z_enumerate : PySem.W.nsIn K mainGlobals "enumerate" = some none)
    (z_int : PySem.W.nsIn K mainGlobals "int" = some none)
    (z_isinstance : PySem.W.nsIn K mainGlobals "isinstance" = some none)
    (z_len : PySem.W.nsIn K mainGlobals "len" = some none)
    (z_list : PySem.W.nsIn K mainGlobals "list" = some none)
    (z_max : PySem.W.nsIn K mainGlobals "max" = some none)
    (z_min : PySem.W.nsIn K mainGlobals "min" = some none)
    (z_range : PySem.W.nsIn K mainGlobals "range" = some none)
    (z_str : PySem.W.nsIn K mainGlobals "str" = some none)
    (z_sum : PySem.W.nsIn K mainGlobals "sum" = some none)
    (z_tuple : PySem.W.nsIn K mainGlobals "tuple" = some none)
    (z_zip : PySem.W.nsIn K mainGlobals "zip" = some none)
    (v_FOOT : PySem.W.nsIn K mainGlobals "FOOT" = some (some (Value.int 3 tk_FOOT)))
    (v_HEAD : PySem.W.nsIn K mainGlobals "HEAD" = some (some (Value.int 4 tk_HEAD)))
    (v_WEIGHED : PySem.W.nsIn K mainGlobals "WEIGHED" = some (some (Value.int 65521 tk_WEIGHED)))
    (hG : ∀ ns : List Int, ns.length ≤ 63 → G_law [.scr (ns.map D.int)] [] = .ok (.bl true) []) :
    ∃ fd : FuncData, (∀ (s : Shared) (v : Value), BindsTo s fd ⟨[v], []⟩ [("script", v)]) ∧ ∀ base : Heap, K.In base → base.Ns mainGlobals mg → FnOk l.prog w K mg base CX0 9 fa fd ["script"] (spL 63 K) := by
  have e := hfa.symm.trans (PySem.W.mg_of X G a_law)
  cases e
  refine ⟨PySem.W.fnOf "law" "law" (defArgs S_law) (defBody S_law) (defScope S_law) .none kV_law dc_law pm_law an_law cd_law ct_law, fun s v => .of_eq rfl, fun base _ _ => ?_⟩
  have h_xored : Kn (fun _ => fa) l.prog w K mg base "xored" S_xored P_xored 1 G_xored f_xored _ := K_xored  (PySem.W.mg_of X G a_xored) (fun_mk (st := S_xored) l_xored c_xored k_xored)
  have h_weighed : Kn (fun _ => fa) l.prog w K mg base "weighed" S_weighed P_weighed 1 G_weighed f_weighed _ := K_weighed (PySem.W.mg_none_of X G z_enumerate) (PySem.W.mg_none_of X G z_sum) (PySem.W.mg_of X G v_WEIGHED) (PySem.W.mg_of X G a_weighed) (fun_mk (st := S_weighed) l_weighed c_weighed k_weighed)
  have h_head_of : Kn (fun _ => fa) l.prog w K mg base "head_of" S_head_of P_head_of 2 G_head_of f_head_of _ := K_head_of h_xored (PySem.W.mg_of X G a_head_of) (fun_mk (st := S_head_of) l_head_of c_head_of k_head_of)
  have h_foot_of : Kn (fun _ => fa) l.prog w K mg base "foot_of" S_foot_of P_foot_of 2 G_foot_of f_foot_of _ := K_foot_of h_weighed h_xored (PySem.W.mg_of X G a_foot_of) (fun_mk (st := S_foot_of) l_foot_of c_foot_of k_foot_of)
  have h_frame : Kn (fun _ => fa) l.prog w K mg base "frame" S_frame P_frame 3 G_frame f_frame _ := K_frame (PySem.W.mg_none_of X G z_len) (PySem.W.mg_none_of X G z_tuple) h_head_of h_foot_of (PySem.W.mg_of X G a_frame) (fun_mk (st := S_frame) l_frame c_frame k_frame)
  have h_frames_of : Kn (fun _ => fa) l.prog w K mg base "frames_of" S_frames_of P_frames_of 3 G_frames_of f_frames_of _ := K_frames_of (PySem.W.mg_none_of X G z_len) (PySem.W.mg_none_of X G z_tuple) (PySem.W.mg_of X G v_FOOT) (PySem.W.mg_of X G v_HEAD) h_head_of h_foot_of (PySem.W.mg_of X G a_frames_of) (fun_mk (st := S_frames_of) l_frames_of c_frames_of k_frames_of)
  have h_whole_octets : Kn (fun _ => fa) l.prog w K mg base "whole_octets" S_whole_octets P_whole_octets 4 G_whole_octets f_whole_octets _ := K_whole_octets (PySem.W.mg_none_of X G z_len) (PySem.W.mg_none_of X G z_sum) (PySem.W.mg_of X G v_FOOT) (PySem.W.mg_of X G v_HEAD) h_frames_of (PySem.W.mg_of X G a_whole_octets) (fun_mk (st := S_whole_octets) l_whole_octets c_whole_octets k_whole_octets)
  have h_law_box : Kn (fun _ => fa) l.prog w K mg base "_law_box" S_law_box P_law_box 1 G_law_box f_law_box _ := K_law_box (PySem.W.mg_none_of X G z_abs) (PySem.W.mg_none_of X G z_int) (PySem.W.mg_none_of X G z_len) (PySem.W.mg_of X G a_law_box) (fun_mk (st := S_law_box) l_law_box c_law_box k_law_box)
  have h_law_take : Kn (fun _ => fa) l.prog w K mg base "_law_take" S_law_take P_law_take 1 G_law_take f_law_take _ := K_law_take (PySem.W.mg_none_of X G z_int) (PySem.W.mg_of X G a_law_take) (fun_mk (st := S_law_take) l_law_take c_law_take k_law_take)
  have h_law_pick : Kn (fun _ => fa) l.prog w K mg base "_law_pick" S_law_pick P_law_pick 2 G_law_pick f_law_pick _ := K_law_pick (PySem.W.mg_none_of X G z_len) h_law_take (PySem.W.mg_of X G a_law_pick) (fun_mk (st := S_law_pick) l_law_pick c_law_pick k_law_pick)
  have h_law_same : Kn (fun _ => fa) l.prog w K mg base "_law_same" S_law_same P_law_same 8 G_law_same f_law_same _ := K_law_same (PySem.W.mg_none_of X G z_bool) (PySem.W.mg_none_of X G z_int) (PySem.W.mg_none_of X G z_isinstance) (PySem.W.mg_none_of X G z_len) (PySem.W.mg_none_of X G z_str) (PySem.W.mg_none_of X G z_tuple) (PySem.W.mg_none_of X G z_zip) (PySem.W.mg_of X G a_law_same) (fun_mk (st := S_law_same) l_law_same c_law_same k_law_same)
  have h_law_frame : Kn (fun _ => fa) l.prog w K mg base "_law_frame" S_law_frame P_law_frame 1 G_law_frame f_law_frame _ := K_law_frame (PySem.W.mg_none_of X G z_enumerate) (PySem.W.mg_none_of X G z_int) (PySem.W.mg_none_of X G z_len) (PySem.W.mg_none_of X G z_tuple) (PySem.W.mg_of X G a_law_frame) (fun_mk (st := S_law_frame) l_law_frame c_law_frame k_law_frame)
  have h_law_payload : Kn (fun _ => fa) l.prog w K mg base "_law_payload" S_law_payload P_law_payload 3 G_law_payload f_law_payload _ := K_law_payload (PySem.W.mg_none_of X G z_range) (PySem.W.mg_none_of X G z_tuple) h_law_pick h_law_take (PySem.W.mg_of X G a_law_payload) (fun_mk (st := S_law_payload) l_law_payload c_law_payload k_law_payload)
  have h_law : Kn (fun _ => fa) l.prog w K mg base "law" S_law P_law 9 G_law fa _ := K_law (PySem.W.mg_none_of X G z_len) (PySem.W.mg_none_of X G z_list) (PySem.W.mg_none_of X G z_max) (PySem.W.mg_none_of X G z_min) (PySem.W.mg_none_of X G z_range) (PySem.W.mg_none_of X G z_tuple) h_law_box h_law_take h_law_payload h_law_same h_law_frame h_frame h_frames_of h_whole_octets (PySem.W.mg_of X G a_law) (fun_mk (st := S_law) l_law c_law k_law)
  exact law_fn h_law hG
end QI
open PySem PySem.W PyProof.Rows
set_option maxHeartbeats 0 in
theorem PySem.Challenge.cw_whoevertakes_k59_frames_whole_cut_and_ch_holds : PySem.Challenge.rw_whoevertakes_k59_frames_whole_cut_and_ch.Holds := by
  w_on; o_law; k_head; (case hw => w_witness2)
  k_fill
  refine L2.walk_of (l := PySem.Challenge.rw_whoevertakes_k59_frames_whole_cut_and_ch) (n := 63) (k := 9) (x := "script") (CX := fun _ => L2.CX0) (sp := fun w => QI.spL 63 _) rfl (by decide) rfl ⟨rfl, by decide, by decide⟩ (fun w h Y => PySem.W.kIn_of Y) ?F (fun _ _ a ns hl hO hS => QI.law_sp hl hO hS) (fun _ _ _ _ _ h => h)
  case F =>
    intro w mg fa h KX G hmg
    refine' QI.all_mk KX G hmg ?a_xored ?l_xored ?c_xored ?k_xored ?a_weighed ?l_weighed ?c_weighed ?k_weighed ?a_head_of ?l_head_of ?c_head_of ?k_head_of ?a_foot_of ?l_foot_of ?c_foot_of ?k_foot_of ?a_frame ?l_frame ?c_frame ?k_frame ?a_frames_of ?l_frames_of ?c_frames_of ?k_frames_of ?a_whole_octets ?l_whole_octets ?c_whole_octets ?k_whole_octets ?a_law_box ?l_law_box ?c_law_box ?k_law_box ?a_law_take ?l_law_take ?c_law_take ?k_law_take ?a_law_pick ?l_law_pick ?c_law_pick ?k_law_pick ?a_law_same ?l_law_same ?c_law_same ?k_law_same ?a_law_frame ?l_law_frame ?c_law_frame ?k_law_frame ?a_law_payload ?l_law_payload ?c_law_payload ?k_law_payload ?a_law ?l_law ?c_law ?k_law ?z_abs ?z_bool ?z_enumerate ?z_int ?z_isinstance ?z_len ?z_list ?z_max ?z_min ?z_range ?z_str ?z_sum ?z_tuple ?z_zip ?v_FOOT ?v_HEAD ?v_WEIGHED (fun ns h => QI.F59.e_law ns (by omega))
    (case a_xored => k_is); (case l_xored => k_is); (case c_xored => k_is); (case k_xored => k_is); (case a_weighed => k_is); (case l_weighed => k_is); (case c_weighed => k_is); (case k_weighed => k_is); (case a_head_of => k_is); (case l_head_of => k_is); (case c_head_of => k_is); (case k_head_of => k_is); (case a_foot_of => k_is); (case l_foot_of => k_is); (case c_foot_of => k_is); (case k_foot_of => k_is); (case a_frame => k_is); (case l_frame => k_is); (case c_frame => k_is); (case k_frame => k_is); (case a_frames_of => k_is); (case l_frames_of => k_is); (case c_frames_of => k_is); (case k_frames_of => k_is); (case a_whole_octets => k_is); (case l_whole_octets => k_is); (case c_whole_octets => k_is); (case k_whole_octets => k_is); (case a_law_box => k_is); (case l_law_box => k_is); (case c_law_box => k_is); (case k_law_box => k_is); (case a_law_take => k_is); (case l_law_take => k_is); (case c_law_take => k_is); (case k_law_take => k_is); (case a_law_pick => k_is); (case l_law_pick => k_is); (case c_law_pick => k_is); (case k_law_pick => k_is); (case a_law_same => k_is); (case l_law_same => k_is); (case c_law_same => k_is); (case k_law_same => k_is); (case a_law_frame => k_is); (case l_law_frame => k_is); (case c_law_frame => k_is); (case k_law_frame => k_is); (case a_law_payload => k_is); (case l_law_payload => k_is); (case c_law_payload => k_is); (case k_law_payload => k_is); (case a_law => k_is); (case l_law => k_is); (case c_law => k_is); (case k_law => k_is); (case z_abs => k_is); (case z_bool => k_is); (case z_enumerate => k_is); (case z_int => k_is); (case z_isinstance => k_is); (case z_len => k_is); (case z_list => k_is); (case z_max => k_is); (case z_min => k_is); (case z_range => k_is); (case z_str => k_is); (case z_sum => k_is); (case z_tuple => k_is); (case z_zip => k_is); (case v_FOOT => k_is); (case v_HEAD => k_is); (case v_WEIGHED => k_is)
