import PyProof.Rows.All
import Wide.All
import OpenK.AllK
import Wide.FinOn
import HandS.ForMost
import HandS.Flow
import HandS.Wide
import HandS.WideMore
import HandS.TupLe
import HandS.TupAny
import HandS.TupMul
import HandS.Style
import HandS.Zip
import HandS.Deep
import HandS.Conv
import HandS.IsInst
import HandS.Defaults
import KE.GoesMore
import KE.GoesEnum
import HandS.Small
import HandS.DictTup
import KE.KDictDisplayH
import HandS.More
import PySem.Challenge.RW_whoevertakes_k35_machines_coded
set_option Elab.async false
set_option linter.all false
set_option maxRecDepth 100000
set_option maxHeartbeats 8000000
/-! a small language of values (trees, cells), its evaluation, and its tie to the layer's judgements -/
namespace QI
open PySem PySem.Spec PyProof.Rows L2

/-- a value: plain data (rol: a list that nobody writes; scr: one of the object's or the text's own); ref: the n-th cell of the store -/
inductive D where
  | non | bl (b : Bool) | int (i : Int) | str (x : Str) | tup (xs : List D) | rol (xs : List D) | scr (xs : List D) | ref (n : Nat)
inductive Cell where
  | lst (xs : List D) | ins (c : String) (fs : List (Str × D)) | dk (kvs : List (Key × D)) | dt (kvs : List (List Key × D))
abbrev Sto := List Cell
abbrev Ev := List (Option D)
structure Exn where
  c : String
  d : D
inductive Rs (α : Type) where
  | ok (a : α) (st : Sto) | exn (e : Exn) (st : Sto) | bad
def Rs.bind {α β : Type} (r : Rs α) (f : α → Sto → Rs β) : Rs β := match r with
  | .ok a st => f a st
  | .exn e st => .exn e st
  | .bad => .bad
@[simp] theorem Rs.bind_ok {α β : Type} (a : α) (st : Sto) (f : α → Sto → Rs β) : (Rs.ok a st).bind f = f a st := id rfl
@[simp] theorem Rs.bind_exn {α β : Type} (e : Exn) (st : Sto) (f : α → Sto → Rs β) : (Rs.exn e st).bind f = .exn e st := id rfl
@[simp] theorem Rs.bind_bad {α β : Type} (f : α → Sto → Rs β) : (Rs.bad : Rs α).bind f = .bad := id rfl
/-- no exception -/
def Rs.strict {α : Type} (r : Rs α) : Rs α := match r with
  | .ok a st => .ok a st
  | _ => .bad
@[simp] theorem Rs.strict_ok {α : Type} (a : α) (st : Sto) : (Rs.ok a st).strict = .ok a st := id rfl
@[simp] theorem Rs.strict_exn {α : Type} (e : Exn) (st : Sto) : (Rs.exn e st : Rs α).strict = .bad := id rfl
@[simp] theorem Rs.strict_bad {α : Type} : (Rs.bad : Rs α).strict = .bad := id rfl
abbrev IE := Ev → Sto → Rs D
abbrev IL := Ev → Sto → Rs (List D)
abbrev IT := Ev → Sto → Rs Bool
inductive Fl where
  | nx (e : Ev) | rt (d : D) | bk (e : Ev) | ct (e : Ev)
abbrev IS := Ev → Sto → Rs Fl

/-- where the cells stand; what is kept for a list in the making -/
structure Mp where
  cs : List Addr
  rs : List Addr
def Mp.add (m : Mp) (p : Addr) : Mp := ⟨m.cs ++ [p], m.rs⟩
def Mp.hold (m : Mp) (p : Addr) : Mp := ⟨m.cs, p :: m.rs⟩
def Mp.take (m : Mp) (n : Nat) : Mp := ⟨m.cs.take n, m.rs⟩

/-- a tuple that stands for good -/
def ST (_ : PySem.W.Frag) (H : Hp) (a : Addr) (xs : List V) : Prop := H a = some (.tup xs)
theorem ST.sq {K : PySem.W.Frag} {H : Hp} {a : Addr} {xs : List V} (h : ST K H a xs) : SqT K H a xs := .inl (.inl h)
/-- a list that nobody writes: no cell -/
def RL (m : Mp) (H : Hp) (a : Addr) (xs : List V) : Prop := a ∉ m.cs ∧ a ∉ m.rs ∧ H a = some (.lst xs)
theorem RL.sq {K : PySem.W.Frag} {m : Mp} {H : Hp} {a : Addr} {xs : List V} (h : RL m H a xs) : SqL K H a xs := .inl (.inl h.2.2)
/-- a list known to the object, or of the text -/
def RX (K : PySem.W.Frag) (H : Hp) (a : Addr) (xs : List V) : Prop :=
  (∃ o, H a = some (.frz o (.lst xs))) ∨ ∃ (o : Obj) (its : Array Value) (n : Nat), K.lookup a = some o ∧ o.cls = .type "list" ∧ o.dict = none ∧ o.data = .seq its n ∧ its.size ≤ sizeLine ∧ Vals xs its.toList
theorem RX.sq {K : PySem.W.Frag} {H : Hp} {a : Addr} {xs : List V} (h : RX K H a xs) : SqL K H a xs := by
  rcases h with ⟨o, h⟩ | h
  · exact .inl (.inr ⟨o, h⟩)
  · exact .inr h

mutual
inductive RV (K : PySem.W.Frag) (m : Mp) (H : Hp) : D → V → Prop
  | non : RV K m H .non .non
  | bl (b : Bool) : RV K m H (.bl b) (.bl b)
  | int (i : Int) : RV K m H (.int i) (.int i)
  | str (x : Str) : RV K m H (.str x) (.str x)
  | tup {a : Addr} {vs : List V} {ds : List D} : ST K H a vs → RVs K m H ds vs → RV K m H (.tup ds) (.ref a)
  | rol {a : Addr} {vs : List V} {ds : List D} : RL m H a vs → RVs K m H ds vs → RV K m H (.rol ds) (.ref a)
  | scr {a : Addr} {vs : List V} {ds : List D} : RX K H a vs → RVs K m H ds vs → RV K m H (.scr ds) (.ref a)
  | ref {n : Nat} {a : Addr} : m.cs[n]? = some a → RV K m H (.ref n) (.ref a)
inductive RVs (K : PySem.W.Frag) (m : Mp) (H : Hp) : List D → List V → Prop
  | nil : RVs K m H [] []
  | cons {d : D} {ds : List D} {v : V} {vs : List V} : RV K m H d v → RVs K m H ds vs → RVs K m H (d :: ds) (v :: vs)
end

/-- what a run may do: new cells behind the old ones; all that is tracked and no cell stays -/
structure Grow (m : Mp) (H : Hp) (m' : Mp) (H' : Hp) : Prop where
  pre : m.cs <+: m'.cs
  rsv : m'.rs = m.rs
  frame : ∀ a o, a ∉ m.cs → H a = some o → H' a = some o
  new : ∀ a ∈ m'.cs, a ∈ m.cs ∨ H a = none
  tup : ∀ a xs, H a = some (.tup xs) → H' a = some (.tup xs)
  frz : ∀ a o xs, H a = some (.frz o (.lst xs)) → H' a = some (.frz o (.lst xs))
theorem Grow.refl (m : Mp) (H : Hp) : Grow m H m H := ⟨List.prefix_refl _, rfl, fun _ _ _ h => h, fun _ h => .inl h, fun _ _ h => h, fun _ _ _ h => h⟩
theorem Grow.trans {m m1 m2 : Mp} {H H1 H2 : Hp} (a : Grow m H m1 H1) (b : Grow m1 H1 m2 H2) : Grow m H m2 H2 where
  pre := a.pre.trans b.pre
  rsv := b.rsv.trans a.rsv
  frame := fun p o hn e => b.frame p o (fun q => by
    rcases a.new p q with z | z
    · exact hn z
    · rw [e] at z; cases z) (a.frame p o hn e)
  new := fun p q => by
    rcases b.new p q with z | z
    · exact a.new p z
    · by_cases hp : p ∈ m.cs
      · exact .inl hp
      · right
        cases e : H p with
        | none => rfl
        | some o => rw [a.frame p o hp e] at z; cases z
  tup := fun p xs e => b.tup p xs (a.tup p xs e)
  frz := fun p o xs e => b.frz p o xs (a.frz p o xs e)

section
variable {K : PySem.W.Frag} {m m' : Mp} {H H' : Hp}
theorem ST.mono {a : Addr} {xs : List V} (g : Grow m H m' H') (h : ST K H a xs) : ST K H' a xs := g.tup _ _ h
theorem RL.mono {a : Addr} {xs : List V} (g : Grow m H m' H') (h : RL m H a xs) : RL m' H' a xs := by
  obtain ⟨h1, h2, h3⟩ := h
  refine ⟨fun z => ?_, by rw [g.rsv]; exact h2, g.frame _ _ h1 h3⟩
  rcases g.new a z with q | q
  · exact h1 q
  · rw [h3] at q; cases q
theorem RX.mono {a : Addr} {xs : List V} (g : Grow m H m' H') (h : RX K H a xs) : RX K H' a xs := by
  rcases h with ⟨o, h⟩ | h
  · exact .inl ⟨o, g.frz _ _ _ h⟩
  · exact .inr h
theorem pre_get {α : Type} {l l' : List α} (h : l <+: l') {n : Nat} {a : α} (e : l[n]? = some a) : l'[n]? = some a := by
  obtain ⟨t, rfl⟩ := h
  have hl : n < l.length := by
    by_cases q : n < l.length
    · exact q
    · rw [List.getElem?_eq_none (by omega)] at e; cases e
  rw [List.getElem?_append_left hl]; exact e
/-- a relation of values that goes from one state to another -/
structure Moves (K : PySem.W.Frag) (m : Mp) (H : Hp) (m' : Mp) (H' : Hp) : Prop where
  tup : ∀ a xs, ST K H a xs → ST K H' a xs
  rol : ∀ a xs, RL m H a xs → RL m' H' a xs
  scr : ∀ a xs, RX K H a xs → RX K H' a xs
  ref : ∀ (n : Nat) (a : Addr), m.cs[n]? = some a → m'.cs[n]? = some a
theorem Grow.moves (g : Grow m H m' H') : Moves K m H m' H' := ⟨fun _ _ h => h.mono g, fun _ _ h => h.mono g, fun _ _ h => h.mono g, fun _ _ h => pre_get g.pre h⟩
mutual
theorem RV.moves (g : Moves K m H m' H') : ∀ {d : D} {v : V}, RV K m H d v → RV K m' H' d v
  | .non, _, h => by cases h; exact .non
  | .bl _, _, h => by cases h; exact .bl _
  | .int _, _, h => by cases h; exact .int _
  | .str _, _, h => by cases h; exact .str _
  | .tup ds, _, h => by
    cases h with
    | tup h1 h2 => exact .tup (g.tup _ _ h1) (RVs.moves g h2)
  | .rol ds, _, h => by
    cases h with
    | rol h1 h2 => exact .rol (g.rol _ _ h1) (RVs.moves g h2)
  | .scr ds, _, h => by
    cases h with
    | scr h1 h2 => exact .scr (g.scr _ _ h1) (RVs.moves g h2)
  | .ref n, _, h => by
    cases h with
    | ref h1 => exact .ref (g.ref _ _ h1)
theorem RVs.moves (g : Moves K m H m' H') : ∀ {ds : List D} {vs : List V}, RVs K m H ds vs → RVs K m' H' ds vs
  | [], _, h => by cases h; exact .nil
  | d :: ds, _, h => by
    cases h with
    | cons h1 h2 => exact .cons (RV.moves g h1) (RVs.moves g h2)
end
theorem RV.mono (g : Grow m H m' H') {d : D} {v : V} (h : RV K m H d v) : RV K m' H' d v := h.moves g.moves
theorem RVs.mono (g : Grow m H m' H') {ds : List D} {vs : List V} (h : RVs K m H ds vs) : RVs K m' H' ds vs := h.moves g.moves
theorem RVs.length : ∀ {ds : List D} {vs : List V}, RVs K m H ds vs → ds.length = vs.length
  | [], _, h => by cases h; rfl
  | d :: ds, _, h => by
    cases h with
    | cons h1 h2 => simp [RVs.length h2]
theorem RVs.append : ∀ {ds es : List D} {vs ws : List V}, RVs K m H ds vs → RVs K m H es ws → RVs K m H (ds ++ es) (vs ++ ws)
  | [], _, _, _, h, h' => by cases h; exact h'
  | d :: ds, _, _, _, h, h' => by
    cases h with
    | cons h1 h2 => exact .cons h1 (RVs.append h2 h')
theorem RVs.get : ∀ {ds : List D} {vs : List V} {i : Nat} {d : D}, RVs K m H ds vs → ds[i]? = some d → ∃ v, vs[i]? = some v ∧ RV K m H d v
  | [], _, _, _, h, e => by simp at e
  | d :: ds, _, 0, _, h, e => by
    cases h with
    | cons h1 h2 =>
      simp at e; subst e
      exact ⟨_, by simp, h1⟩
  | d :: ds, _, i + 1, _, h, e => by
    cases h with
    | cons h1 h2 =>
      obtain ⟨v, e2, r⟩ := RVs.get (i := i) h2 (by simpa using e)
      exact ⟨v, by simpa using e2, r⟩
theorem RVs.get_of : ∀ {ds : List D} {vs : List V} {i : Nat} {v : V}, RVs K m H ds vs → vs[i]? = some v → ∃ d, ds[i]? = some d ∧ RV K m H d v
  | [], _, _, _, h, e => by cases h; simp at e
  | d :: ds, _, 0, _, h, e => by
    cases h with
    | cons h1 h2 =>
      simp at e; subst e
      exact ⟨_, by simp, h1⟩
  | d :: ds, _, i + 1, _, h, e => by
    cases h with
    | cons h1 h2 =>
      obtain ⟨v, e2, r⟩ := RVs.get_of (i := i) h2 (by simpa using e)
      exact ⟨v, by simpa using e2, r⟩
theorem RVs.take : ∀ {ds : List D} {vs : List V} (n : Nat), RVs K m H ds vs → RVs K m H (ds.take n) (vs.take n)
  | _, _, 0, _ => by simp; exact .nil
  | [], _, n + 1, h => by cases h; exact .nil
  | d :: ds, _, n + 1, h => by
    cases h with
    | cons h1 h2 => exact .cons h1 (RVs.take n h2)
theorem RVs.drop : ∀ {ds : List D} {vs : List V} (n : Nat), RVs K m H ds vs → RVs K m H (ds.drop n) (vs.drop n)
  | _, _, 0, h => h
  | [], _, n + 1, h => by cases h; exact .nil
  | d :: ds, _, n + 1, h => by
    cases h with
    | cons h1 h2 => exact RVs.drop n h2
theorem RVs.set : ∀ {ds : List D} {vs : List V} {d : D} {v : V} (n : Nat), RV K m H d v → RVs K m H ds vs → RVs K m H (ds.set n d) (vs.set n v)
  | [], _, _, _, n, _, h => by cases h; exact .nil
  | d :: ds, _, _, _, 0, r, h => by
    cases h with
    | cons h1 h2 => exact .cons r h2
  | d :: ds, _, _, _, n + 1, r, h => by
    cases h with
    | cons h1 h2 => exact .cons h1 (RVs.set n r h2)
theorem RVs.eraseIdx : ∀ {ds : List D} {vs : List V} (n : Nat), RVs K m H ds vs → RVs K m H (ds.eraseIdx n) (vs.eraseIdx n)
  | [], _, n, h => by cases h; exact .nil
  | d :: ds, _, 0, h => by
    cases h with
    | cons h1 h2 => exact h2
  | d :: ds, _, n + 1, h => by
    cases h with
    | cons h1 h2 => exact .cons h1 (RVs.eraseIdx n h2)
theorem RVs.dropLast {ds : List D} {vs : List V} (h : RVs K m H ds vs) : RVs K m H ds.dropLast vs.dropLast := by
  rw [List.dropLast_eq_take, List.dropLast_eq_take, ← h.length]; exact h.take _
theorem RVs.reverse {ds : List D} {vs : List V} (h : RVs K m H ds vs) : RVs K m H ds.reverse vs.reverse := by
  induction ds generalizing vs with
  | nil => cases h; exact .nil
  | cons d ds ih =>
    cases h with
    | cons h1 h2 =>
      rw [List.reverse_cons, List.reverse_cons]
      exact (ih h2).append (.cons h1 .nil)
theorem RVs.flat {ds : List D} {vs : List V} (h : RVs K m H ds vs) : ∀ k : Nat, RVs K m H (List.replicate k ds).flatten (List.replicate k vs).flatten
  | 0 => .nil
  | k + 1 => by
    rw [List.replicate_succ, List.replicate_succ, List.flatten_cons, List.flatten_cons]
    exact h.append (RVs.flat h k)
end

/-! ### the store -/
inductive RFs {κ : Type} (K : PySem.W.Frag) (m : Mp) (H : Hp) : List (κ × D) → List (κ × V) → Prop
  | nil : RFs K m H [] []
  | cons {f : κ} {d : D} {v : V} {ds : List (κ × D)} {vs : List (κ × V)} : RV K m H d v → RFs K m H ds vs → RFs K m H ((f, d) :: ds) ((f, v) :: vs)
theorem RFs.moves {κ : Type} {K : PySem.W.Frag} {m m' : Mp} {H H' : Hp} (g : Moves K m H m' H') {ds : List (κ × D)} {vs : List (κ × V)} (h : RFs K m H ds vs) : RFs K m' H' ds vs := by
  induction h with
  | nil => exact .nil
  | cons r _ ih => exact .cons (r.moves g) ih

/-- the world of a proof: the written part, where the text's own classes stand -/
structure G0 where
  K : PySem.W.Frag
  ct : String → Addr
  P : Program
  w : World
abbrev gx (ct : String → Addr) (X : Cx) : G0 := ⟨X.K, ct, X.prog, X.w⟩

def RC (g : G0) (m : Mp) (H : Hp) (a : Addr) : Cell → Prop
  | .lst ds => ∃ vs, RVs g.K m H ds vs ∧ H a = some (.lst vs)
  | .ins c fs => ∃ dx vs, RFs g.K m H fs vs ∧ H a = some (.ins (g.ct c) dx vs)
  | .dk kvs => ∃ vs, RFs g.K m H kvs vs ∧ H a = some (.dK vs)
  | .dt kvs => ∃ vs, RFs g.K m H kvs vs ∧ H a = some (.dT vs)
structure RS (g : G0) (m : Mp) (H : Hp) (st : Sto) : Prop where
  len : m.cs.length = st.length
  nd : m.cs.Nodup
  hs : ∀ a ∈ m.rs, a ∉ m.cs ∧ ∃ o, H a = some o
  rc : ∀ (n : Nat) (a : Addr) (c : Cell), m.cs[n]? = some a → st[n]? = some c → RC g m H a c
structure RE (K : PySem.W.Frag) (m : Mp) (H : Hp) (env : Ev) (σ : L2.St) : Prop where
  len : env.length = σ.length
  at_ : ∀ (i : Nat) (d : D), env[i]? = some (some d) → ∃ v, σ[i]? = some (some v) ∧ RV K m H d v
def wipeE (env : Ev) : List Nat → Ev
  | [] => env
  | v :: vs => (wipeE env vs).set v none
section
variable {g : G0} {m m' : Mp} {H H' : Hp} {env : Ev} {σ : L2.St} {st : Sto}
theorem RE.moves (gr : Moves g.K m H m' H') (h : RE g.K m H env σ) : RE g.K m' H' env σ := ⟨h.len, fun i d e => let ⟨v, e2, r⟩ := h.at_ i d e; ⟨v, e2, r.moves gr⟩⟩
theorem RE.mono (gr : Grow m H m' H') (h : RE g.K m H env σ) : RE g.K m' H' env σ := h.moves gr.moves
theorem RE.set {d : D} {v : V} (h : RE g.K m H env σ) (r : RV g.K m H d v) (i : Nat) : RE g.K m H (env.set i (some d)) (σ.set i (some v)) := by
  refine ⟨by simp [h.len], fun j e q => ?_⟩
  by_cases hj : i = j
  · subst hj
    by_cases hl : i < env.length
    · rw [List.getElem?_set_self hl] at q
      cases q
      exact ⟨v, List.getElem?_set_self (by rw [← h.len]; exact hl), r⟩
    · rw [List.getElem?_eq_none (by simpa using hl)] at q; cases q
  · rw [List.getElem?_set_ne hj] at q
    obtain ⟨w, e2, r2⟩ := h.at_ j e q
    exact ⟨w, by rw [List.getElem?_set_ne hj]; exact e2, r2⟩
theorem RE.setNone (h : RE g.K m H env σ) (i : Nat) : RE g.K m H (env.set i none) (σ.set i none) := by
  refine ⟨by simp [h.len], fun j e q => ?_⟩
  by_cases hj : i = j
  · subst hj
    by_cases hl : i < env.length
    · rw [List.getElem?_set_self hl] at q; cases q
    · rw [List.getElem?_eq_none (by simpa using hl)] at q; cases q
  · rw [List.getElem?_set_ne hj] at q
    obtain ⟨w, e2, r2⟩ := h.at_ j e q
    exact ⟨w, by rw [List.getElem?_set_ne hj]; exact e2, r2⟩
theorem RE.wipe (h : RE g.K m H env σ) : ∀ vs : List Nat, RE g.K m H (wipeE env vs) (wipe σ vs)
  | [] => h
  | v :: vs => (RE.wipe h vs).setNone v
theorem lt_of_get {α : Type} {l : List α} {n : Nat} {a : α} (e : l[n]? = some a) : n < l.length := by
  by_cases q : n < l.length
  · exact q
  · rw [List.getElem?_eq_none (by omega)] at e; cases e
theorem RS.cell (h : RS g m H st) {n : Nat} {c : Cell} (e : st[n]? = some c) : ∃ a, m.cs[n]? = some a ∧ RC g m H a c := by
  have hm : n < m.cs.length := by rw [h.len]; exact lt_of_get e
  exact ⟨m.cs[n], by simp [hm], h.rc n _ c (by simp [hm]) e⟩
theorem RC.mut {a : Addr} {c : Cell} (h : RC g m H a c) : ∃ o, H a = some o ∧ (∀ xs, o ≠ .tup xs) ∧ ∀ o' xs, o ≠ .frz o' (.lst xs) := by
  cases c with
  | lst ds => obtain ⟨vs, _, q⟩ := h; exact ⟨_, q, (fun _ z => by cases z), (fun _ _ z => by cases z)⟩
  | ins c fs => obtain ⟨dx, vs, _, q⟩ := h; exact ⟨_, q, (fun _ z => by cases z), (fun _ _ z => by cases z)⟩
  | dk kvs => obtain ⟨vs, _, q⟩ := h; exact ⟨_, q, (fun _ z => by cases z), (fun _ _ z => by cases z)⟩
  | dt kvs => obtain ⟨vs, _, q⟩ := h; exact ⟨_, q, (fun _ z => by cases z), (fun _ _ z => by cases z)⟩
theorem RS.has (h : RS g m H st) {a : Addr} (q : a ∈ m.cs) : ∃ o, H a = some o := by
  obtain ⟨n, hn⟩ := List.getElem?_of_mem q
  have hs : n < st.length := by rw [← h.len]; exact lt_of_get hn
  obtain ⟨o, e, _⟩ := (h.rc n a st[n] hn (by simp [hs])).mut
  exact ⟨o, e⟩
theorem RS.notin (h : RS g m H st) {a : Addr} (q : H a = none) : a ∉ m.cs := fun z => by
  obtain ⟨o, e⟩ := h.has z
  rw [q] at e; cases e
theorem RS.nothold (h : RS g m H st) {a : Addr} (q : H a = none) : a ∉ m.rs := fun z => by
  obtain ⟨_, o, e⟩ := h.hs a z
  rw [q] at e; cases e
theorem RC.moves {a : Addr} {c : Cell} (gr : Moves g.K m H m' H') (e : H' a = H a) (h : RC g m H a c) : RC g m' H' a c := by
  cases c with
  | lst ds => obtain ⟨vs, r, q⟩ := h; exact ⟨vs, r.moves gr, by rw [e]; exact q⟩
  | ins c fs => obtain ⟨dx, vs, r, q⟩ := h; exact ⟨dx, vs, r.moves gr, by rw [e]; exact q⟩
  | dk kvs => obtain ⟨vs, r, q⟩ := h; exact ⟨vs, r.moves gr, by rw [e]; exact q⟩
  | dt kvs => obtain ⟨vs, r, q⟩ := h; exact ⟨vs, r.moves gr, by rw [e]; exact q⟩
/-- a new object that is no cell (a tuple, a list) -/
theorem Grow.laid {p : Addr} {o : HO} (hp : H p = none) : Grow m H m (upd H p o) :=
  ⟨List.prefix_refl _, rfl, fun a u _ e => by rw [upd_ne (ne_of_none e hp)]; exact e, fun _ h => .inl h, fun a u e => by rw [upd_ne (ne_of_none e hp)]; exact e, fun a o u e => by rw [upd_ne (ne_of_none e hp)]; exact e⟩
theorem RS.laid (h : RS g m H st) {p : Addr} {o : HO} (hp : H p = none) : RS g m (upd H p o) st := by
  have gr : Grow m H m (upd H p o) := Grow.laid hp
  refine ⟨h.len, h.nd, fun a ha => ?_, fun n a c e1 e2 => ?_⟩
  · obtain ⟨h1, o, h2⟩ := h.hs a ha
    exact ⟨h1, o, gr.frame _ _ h1 h2⟩
  · have hne : a ≠ p := by
      obtain ⟨u, q⟩ := h.has (List.mem_of_getElem? e1)
      exact ne_of_none q hp
    exact (h.rc n a c e1 e2).moves gr.moves (upd_ne hne)
/-- a new cell -/
theorem Grow.adopt {p : Addr} (hp : H p = none) {o : HO} : Grow m H (m.add p) (upd H p o) :=
  ⟨List.prefix_append _ _, rfl, fun a u _ e => by rw [upd_ne (ne_of_none e hp)]; exact e, fun a h => by
    rcases List.mem_append.mp h with z | z
    · exact .inl z
    · simp at z; subst z; exact .inr hp, fun a u e => by rw [upd_ne (ne_of_none e hp)]; exact e, fun a o u e => by rw [upd_ne (ne_of_none e hp)]; exact e⟩
theorem RS.adopt (h : RS g m H st) {p : Addr} (hp : H p = none) {o : HO} {c : Cell} (r : RC g (m.add p) (upd H p o) p c) : RS g (m.add p) (upd H p o) (st ++ [c]) := by
  have gr : Grow m H (m.add p) (upd H p o) := Grow.adopt hp
  refine ⟨by simp [Mp.add, h.len], ?_, fun a ha => ?_, fun n a c' e1 e2 => ?_⟩
  · show (m.cs ++ [p]).Nodup
    rw [List.nodup_append]
    exact ⟨h.nd, by simp, fun a ha b hb => by simp at hb; subst hb; exact fun z => h.notin hp (z ▸ ha)⟩
  · obtain ⟨h1, o', h2⟩ := h.hs a ha
    refine ⟨fun z => ?_, o', gr.frame _ _ h1 h2⟩
    rcases List.mem_append.mp z with z | z
    · exact h1 z
    · simp at z; subst z; rw [hp] at h2; cases h2
  · have e1 : (m.cs ++ [p])[n]? = some a := e1
    by_cases hn : n < m.cs.length
    · rw [List.getElem?_append_left hn] at e1
      rw [List.getElem?_append_left (by rw [← h.len]; exact hn)] at e2
      have hne : a ≠ p := by
        obtain ⟨u, q⟩ := h.has (List.mem_of_getElem? e1)
        exact ne_of_none q hp
      exact (h.rc n a c' e1 e2).moves gr.moves (upd_ne hne)
    · have hn' : n = m.cs.length := by
        by_cases q : n = m.cs.length
        · exact q
        · rw [List.getElem?_eq_none (by simp; omega)] at e1; cases e1
      subst hn'
      rw [List.getElem?_append_right (Nat.le_refl _)] at e1
      rw [h.len, List.getElem?_append_right (Nat.le_refl _)] at e2
      simp at e1 e2
      subst e1; subst e2
      exact r
/-- the n-th cell is written -/
theorem Grow.cell {n : Nat} {a : Addr} {o : HO} (e : m.cs[n]? = some a) {u : HO} (hu : H a = some u) (h1 : ∀ xs, u ≠ .tup xs) (h2 : ∀ o' xs, u ≠ .frz o' (.lst xs)) : Grow m H m (upd H a o) :=
  ⟨List.prefix_refl _, rfl, fun b v hn q => by rw [upd_ne (fun z => hn (by rw [z]; exact List.mem_of_getElem? e))]; exact q, fun _ h => .inl h,
    fun b xs q => by rw [upd_ne (fun z => by rw [z, hu] at q; cases q; exact h1 _ rfl)]; exact q, fun b o' xs q => by rw [upd_ne (fun z => by rw [z, hu] at q; cases q; exact h2 _ _ rfl)]; exact q⟩
theorem RS.write (h : RS g m H st) {n : Nat} {a : Addr} {c c0 : Cell} {o : HO} (e : m.cs[n]? = some a) (e0 : st[n]? = some c0) (r : Grow m H m (upd H a o) → RC g m (upd H a o) a c) : RS g m (upd H a o) (st.set n c) ∧ Grow m H m (upd H a o) := by
  obtain ⟨u, hu, h1, h2⟩ := (h.rc n a c0 e e0).mut
  have gr : Grow m H m (upd H a o) := Grow.cell e hu h1 h2
  refine ⟨⟨by simp [h.len], h.nd, fun b hb => ?_, fun k b c' e1 e2 => ?_⟩, gr⟩
  · obtain ⟨h1, o', h2⟩ := h.hs b hb
    exact ⟨h1, o', gr.frame _ _ h1 h2⟩
  · by_cases hk : n = k
    · subst hk
      rw [e] at e1; cases e1
      rw [List.getElem?_set_self (lt_of_get e0)] at e2; cases e2
      exact r gr
    · rw [List.getElem?_set_ne hk] at e2
      have hne : b ≠ a := fun z => by
        subst z
        exact hk (nd_ix h.nd e e1)
      exact (h.rc k b c' e1 e2).moves gr.moves (upd_ne hne)
/-! a list in the making -/
theorem Moves.hold {K : PySem.W.Frag} {p : Addr} {o : HO} (hp : H p = none) : Moves K m H (m.hold p) (upd H p o) where
  tup := fun a xs h => h.mono (Grow.laid (m := m) hp)
  rol := fun a xs h => by
    obtain ⟨h1, h2, h3⟩ := h
    refine ⟨h1, fun z => ?_, by rw [upd_ne (ne_of_none h3 hp)]; exact h3⟩
    rcases List.mem_cons.mp z with z | z
    · subst z; rw [hp] at h3; cases h3
    · exact h2 z
  scr := fun a xs h => h.mono (Grow.laid (m := m) hp)
  ref := fun _ _ h => h
theorem RS.hold (h : RS g m H st) {p : Addr} {o : HO} (hp : H p = none) : RS g (m.hold p) (upd H p o) st := by
  refine ⟨h.len, h.nd, fun a ha => ?_, fun n a c e1 e2 => ?_⟩
  · rcases List.mem_cons.mp ha with z | z
    · subst z; exact ⟨h.notin hp, o, upd_same⟩
    · obtain ⟨h1, o', h2⟩ := h.hs a z
      exact ⟨h1, o', by rw [upd_ne (ne_of_none h2 hp)]; exact h2⟩
  · have hne : a ≠ p := by
      obtain ⟨u, q⟩ := h.has (List.mem_of_getElem? e1)
      exact ne_of_none q hp
    exact (h.rc n a c e1 e2).moves (Moves.hold hp) (upd_ne hne)
/-- the held list is written -/
theorem Moves.held {K : PySem.W.Frag} {p : Addr} {o : HO} {xs : List V} (hp : H p = some (.lst xs)) : Moves K (m.hold p) H (m.hold p) (upd H p o) where
  tup := fun a ys h => by
    have h : H a = some (.tup ys) := h
    show upd H p o a = _
    rw [upd_ne (fun z => by rw [z, hp] at h; cases h)]; exact h
  rol := fun a ys h => ⟨h.1, h.2.1, by rw [upd_ne (fun z => h.2.1 (by rw [z]; exact List.mem_cons_self))]; exact h.2.2⟩
  scr := fun a ys h => by
    rcases h with ⟨u, h⟩ | h
    · exact .inl ⟨u, by rw [upd_ne (fun z => by rw [z, hp] at h; cases h)]; exact h⟩
    · exact .inr h
  ref := fun _ _ h => h
theorem RS.held (h : RS g (m.hold p) H st) {o : HO} {xs : List V} (hp : H p = some (.lst xs)) : RS g (m.hold p) (upd H p o) st := by
  have hpc : p ∉ m.cs := (h.hs p List.mem_cons_self).1
  refine ⟨h.len, h.nd, fun a ha => ?_, fun n a c e1 e2 => ?_⟩
  · obtain ⟨h1, o', h2⟩ := h.hs a ha
    by_cases z : a = p
    · subst z; exact ⟨h1, o, upd_same⟩
    · exact ⟨h1, o', by rw [upd_ne z]; exact h2⟩
  · exact (h.rc n a c e1 e2).moves (Moves.held hp) (upd_ne (fun z => hpc (by rw [← z]; exact List.mem_of_getElem? e1)))
/-- it is finished: a list that nobody writes -/
theorem Moves.drop {K : PySem.W.Frag} {p : Addr} : Moves K (m.hold p) H m H := ⟨fun _ _ h => h, fun _ _ h => ⟨h.1, fun z => h.2.1 (List.mem_cons_of_mem _ z), h.2.2⟩, fun _ _ h => h, fun _ _ h => h⟩
theorem RS.drop {p : Addr} (h : RS g (m.hold p) H st) : RS g m H st := ⟨h.len, h.nd, fun a ha => h.hs a (List.mem_cons_of_mem _ ha), fun n a c e1 e2 => (h.rc n a c e1 e2).moves Moves.drop rfl⟩
/-- it is finished: a cell -/
theorem Moves.keep {K : PySem.W.Frag} {p : Addr} : Moves K (m.hold p) H (m.add p) H where
  tup := fun _ _ h => h
  rol := fun a xs h => ⟨fun z => by
    rcases List.mem_append.mp z with z | z
    · exact h.1 z
    · simp at z; exact h.2.1 (by rw [z]; exact List.mem_cons_self), fun z => h.2.1 (List.mem_cons_of_mem _ z), h.2.2⟩
  scr := fun _ _ h => h
  ref := fun n a h => by
    have h : m.cs[n]? = some a := h
    show (m.cs ++ [p])[n]? = some a
    rw [List.getElem?_append_left (lt_of_get h)]; exact h
theorem RS.keep {p : Addr} {c : Cell} (h : RS g (m.hold p) H st) (hr : p ∉ m.rs) (r : RC g (m.add p) H p c) : RS g (m.add p) H (st ++ [c]) := by
  have hpc : p ∉ m.cs := (h.hs p List.mem_cons_self).1
  have hlen : m.cs.length = st.length := h.len
  refine ⟨by simp [Mp.add, hlen], ?_, fun a ha => ?_, fun n a c' e1 e2 => ?_⟩
  · show (m.cs ++ [p]).Nodup
    rw [List.nodup_append]
    exact ⟨h.nd, by simp, fun a ha b hb => by simp at hb; subst hb; exact fun z => hpc (z ▸ ha)⟩
  · obtain ⟨h1, o', h2⟩ := h.hs a (List.mem_cons_of_mem _ ha)
    refine ⟨fun z => ?_, o', h2⟩
    rcases List.mem_append.mp z with z | z
    · exact h1 z
    · simp at z; subst z; exact hr ha
  · have e1 : (m.cs ++ [p])[n]? = some a := e1
    by_cases hn : n < m.cs.length
    · rw [List.getElem?_append_left hn] at e1
      rw [List.getElem?_append_left (by omega)] at e2
      exact (h.rc n a c' e1 e2).moves Moves.keep rfl
    · have hn' : n = m.cs.length := by
        by_cases q : n = m.cs.length
        · exact q
        · rw [List.getElem?_eq_none (by simp; omega)] at e1; cases e1
      subst hn'
      rw [List.getElem?_append_right (Nat.le_refl _)] at e1
      rw [hlen, List.getElem?_append_right (Nat.le_refl _)] at e2
      simp at e1 e2
      subst e1; subst e2
      exact r
theorem Grow.held {p : Addr} {m1 : Mp} {H1 : Hp} (h : Grow (m.hold p) H (m1.hold p) H1) : Grow m H m1 H1 := ⟨h.pre, (List.cons.inj h.rsv).2, h.frame, h.new, h.tup, h.frz⟩
end

/-! ### all refs below n -/
mutual
def D.lo (n : Nat) : D → Bool
  | .tup xs => D.loAll n xs
  | .rol xs => D.loAll n xs
  | .scr xs => D.loAll n xs
  | .ref k => decide (k < n)
  | _ => true
def D.loAll (n : Nat) : List D → Bool
  | [] => true
  | d :: ds => D.lo n d && D.loAll n ds
end
def Cell.lo (n : Nat) : Cell → Bool
  | .lst xs => D.loAll n xs
  | .ins _ fs => fs.all fun p => p.2.lo n
  | .dk kvs => kvs.all fun p => p.2.lo n
  | .dt kvs => kvs.all fun p => p.2.lo n
def ClosedAt (n : Nat) (st : Sto) : Prop := ∀ c ∈ st, c.lo n = true
abbrev Closed (st : Sto) : Prop := ClosedAt st.length st
section
variable {K : PySem.W.Frag} {m : Mp} {H : Hp} {n : Nat}
theorem get_take {α : Type} {l : List α} {k n : Nat} {a : α} (e : l[k]? = some a) (h : k < n) : (l.take n)[k]? = some a := by
  rw [List.getElem?_take_of_lt h]; exact e
theorem RL.take {a : Addr} {xs : List V} (h : RL m H a xs) : RL (m.take n) H a xs := ⟨fun z => h.1 (List.mem_of_mem_take z), h.2⟩
mutual
theorem RV.trunc : ∀ {d : D} {v : V}, RV K m H d v → d.lo n = true → RV K (m.take n) H d v
  | .non, _, h, _ => by cases h; exact .non
  | .bl _, _, h, _ => by cases h; exact .bl _
  | .int _, _, h, _ => by cases h; exact .int _
  | .str _, _, h, _ => by cases h; exact .str _
  | .tup ds, _, h, b => by
    cases h with
    | tup h1 h2 => exact .tup h1 (RVs.trunc h2 (by simpa [D.lo] using b))
  | .rol ds, _, h, b => by
    cases h with
    | rol h1 h2 => exact .rol h1.take (RVs.trunc h2 (by simpa [D.lo] using b))
  | .scr ds, _, h, b => by
    cases h with
    | scr h1 h2 => exact .scr h1 (RVs.trunc h2 (by simpa [D.lo] using b))
  | .ref k, _, h, b => by
    cases h with
    | ref h1 => exact .ref (get_take h1 (by simpa [D.lo] using b))
theorem RVs.trunc : ∀ {ds : List D} {vs : List V}, RVs K m H ds vs → D.loAll n ds = true → RVs K (m.take n) H ds vs
  | [], _, h, _ => by cases h; exact .nil
  | d :: ds, _, h, b => by
    cases h with
    | cons h1 h2 =>
      simp only [D.loAll, Bool.and_eq_true] at b
      exact .cons (RV.trunc h1 b.1) (RVs.trunc h2 b.2)
end
mutual
theorem RV.lo : ∀ {d : D} {v : V}, RV K m H d v → d.lo m.cs.length = true
  | .non, _, h => by simp [D.lo]
  | .bl _, _, h => by simp [D.lo]
  | .int _, _, h => by simp [D.lo]
  | .str _, _, h => by simp [D.lo]
  | .tup ds, _, h => by
    cases h with
    | tup h1 h2 => simp only [D.lo]; exact RVs.lo h2
  | .rol ds, _, h => by
    cases h with
    | rol h1 h2 => simp only [D.lo]; exact RVs.lo h2
  | .scr ds, _, h => by
    cases h with
    | scr h1 h2 => simp only [D.lo]; exact RVs.lo h2
  | .ref k, _, h => by
    cases h with
    | ref h1 =>
      simp only [D.lo, decide_eq_true_eq]
      exact lt_of_get h1
theorem RVs.lo : ∀ {ds : List D} {vs : List V}, RVs K m H ds vs → D.loAll m.cs.length ds = true
  | [], _, h => by simp [D.loAll]
  | d :: ds, _, h => by
    cases h with
    | cons h1 h2 => simp only [D.loAll, Bool.and_eq_true]; exact ⟨RV.lo h1, RVs.lo h2⟩
end
theorem RFs.trunc {κ : Type} {ds : List (κ × D)} {vs : List (κ × V)} (h : RFs K m H ds vs) (b : (ds.all fun p => p.2.lo n) = true) : RFs K (m.take n) H ds vs := by
  induction h with
  | nil => exact .nil
  | cons r _ ih =>
    simp only [List.all_cons, Bool.and_eq_true] at b
    exact .cons (r.trunc b.1) (ih b.2)
theorem RFs.lo {κ : Type} {ds : List (κ × D)} {vs : List (κ × V)} (h : RFs K m H ds vs) : (ds.all fun p => p.2.lo m.cs.length) = true := by
  induction h with
  | nil => rfl
  | cons r _ ih =>
    simp only [List.all_cons, Bool.and_eq_true]
    exact ⟨r.lo, ih⟩
theorem RC.trunc {g : G0} {a : Addr} {c : Cell} (h : RC g m H a c) (b : c.lo n = true) : RC g (m.take n) H a c := by
  cases c with
  | lst ds => obtain ⟨vs, r, q⟩ := h; exact ⟨vs, r.trunc b, q⟩
  | ins c fs => obtain ⟨dx, vs, r, q⟩ := h; exact ⟨dx, vs, r.trunc b, q⟩
  | dk kvs => obtain ⟨vs, r, q⟩ := h; exact ⟨vs, r.trunc b, q⟩
  | dt kvs => obtain ⟨vs, r, q⟩ := h; exact ⟨vs, r.trunc b, q⟩
theorem RC.lo {g : G0} {a : Addr} {c : Cell} (h : RC g m H a c) : c.lo m.cs.length = true := by
  cases c with
  | lst ds => obtain ⟨vs, r, q⟩ := h; exact r.lo
  | ins c fs => obtain ⟨dx, vs, r, q⟩ := h; exact r.lo
  | dk kvs => obtain ⟨vs, r, q⟩ := h; exact r.lo
  | dt kvs => obtain ⟨vs, r, q⟩ := h; exact r.lo
theorem RS.closed {g : G0} {st : Sto} (h : RS g m H st) : Closed st := fun c hc => by
  obtain ⟨n, hn⟩ := List.getElem?_of_mem hc
  obtain ⟨a, _, r⟩ := h.cell hn
  rw [← h.len]; exact r.lo
/-- fewer cells -/
theorem RS.trunc {g : G0} {st more : Sto} (h : RS g m H (st ++ more)) (c : Closed st) : RS g (m.take st.length) H st := by
  have hlen : m.cs.length = st.length + more.length := by rw [h.len, List.length_append]
  refine ⟨by show (m.cs.take _).length = _; rw [List.length_take]; omega, h.nd.sublist (List.take_sublist _ _), fun a ha => ?_, fun n a cl e1 e2 => ?_⟩
  · obtain ⟨h1, h2⟩ := h.hs a ha
    exact ⟨fun z => h1 (List.mem_of_mem_take z), h2⟩
  · have e1 : (m.cs.take st.length)[n]? = some a := e1
    have hn : n < st.length := lt_of_get e2
    rw [List.getElem?_take_of_lt hn] at e1
    exact (h.rc n a cl e1 (by rw [List.getElem?_append_left hn]; exact e2)).trunc (c cl (List.mem_of_getElem? e2))
/-- a run whose new cells are forgotten -/
theorem Grow.trunc {m' : Mp} {H' : Hp} (g : Grow m H m' H') (hn : m.cs.length ≤ n) : Grow m H (m'.take n) H' where
  pre := by
    obtain ⟨t, ht⟩ := g.pre
    show m.cs <+: m'.cs.take n
    rw [← ht, List.take_append, List.take_of_length_le hn]
    exact List.prefix_append _ _
  rsv := g.rsv
  frame := g.frame
  new := fun a h => g.new a (List.mem_of_mem_take h)
  tup := g.tup
  frz := g.frz
end
end QI

namespace QI
open PySem PySem.Spec PyProof.Rows L2

/-! ### ends -/
abbrev EK := Mp → Hp → Exn → Sto → Prop
def noE : EK := fun _ _ _ _ => False
def Fin {α : Type} (g : G0) (E : EK) (m : Mp) (H : Hp) (r : Rs α) (R : Mp → Hp → α → Sto → Prop) : Prop := match r with
  | .ok a st' => ∀ m' H', Grow m H m' H' → RS g m' H' st' → R m' H' a st'
  | .exn e st' => ∀ m' H', Grow m H m' H' → RS g m' H' st' → E m' H' e st'
  | .bad => False
section
variable {g : G0} {E : EK} {m m1 : Mp} {H H1 : Hp} {α β : Type}
theorem Fin.mono {r : Rs α} {R : Mp → Hp → α → Sto → Prop} (h : Fin g E m H r R) (gr : Grow m H m1 H1) : Fin g E m1 H1 r R := by
  cases r with
  | ok a st => exact fun m' H' g' rs => h m' H' (gr.trans g') rs
  | exn e st => exact fun m' H' g' rs => h m' H' (gr.trans g') rs
  | bad => exact h
theorem Fin.imp {r : Rs α} {R R' : Mp → Hp → α → Sto → Prop} (h : Fin g E m H r R) (f : ∀ m' H' a st', Grow m H m' H' → RS g m' H' st' → R m' H' a st' → R' m' H' a st') : Fin g E m H r R' := by
  cases r with
  | ok a st => exact fun m' H' g' rs => f m' H' a st g' rs (h m' H' g' rs)
  | exn e st => exact h
  | bad => exact h
theorem Fin.bind {r : Rs α} {f : α → Sto → Rs β} {R : Mp → Hp → β → Sto → Prop} (h : Fin g E m H (r.bind f) R) : Fin g E m H r (fun m1 H1 a st1 => Fin g E m1 H1 (f a st1) R) := by
  cases r with
  | ok a st => exact fun m' H' g' rs => Fin.mono (show Fin g E m H (f a st) R from h) g'
  | exn e st => exact h
  | bad => exact h
theorem Fin.here {a : α} {st : Sto} {R : Mp → Hp → α → Sto → Prop} (h : Fin g E m H (.ok a st) R) (rs : RS g m H st) : R m H a st := h m H (Grow.refl _ _) rs
end
def EndE (g : G0) (Q : VK) : Mp → Hp → D → Sto → Prop := fun m' H' d _ => ∀ v, RV g.K m' H' d v → Q v H'
def tI (g : G0) (E : EK) (I : IE) : TE := fun σ H Q => ∃ m env st, RE g.K m H env σ ∧ RS g m H st ∧ Fin g E m H (I env st) (EndE g Q)
def tIA (g : G0) (E : EK) (I : IL) : TA := fun σ H Q => ∃ m env st, RE g.K m H env σ ∧ RS g m H st ∧ Fin g E m H (I env st) (fun m' H' ds _ => ∀ vs, RVs g.K m' H' ds vs → Q vs H')
def tIT (g : G0) (E : EK) (I : IT) : TT := fun σ H Q => ∃ m env st, RE g.K m H env σ ∧ RS g m H st ∧ Fin g E m H (I env st) (fun _ H' b _ => Q b H')
section
variable (ct : String → Addr) (X : Cx) (E : EK)
structure SI (e : Expr) (I : IE) : Prop where
  pe : PE X e (tI (gx ct X) E I)
structure SA (es : List Expr) (I : IL) : Prop where
  pa : PA X es (tIA (gx ct X) E I)
structure SB (e : Expr) (I : IT) : Prop where
  pt : PT X e (tIT (gx ct X) E I)
structure SW (e : Expr) (I : IT) : Prop where
  pw : PW X e (tIT (gx ct X) E I)
end
theorem _root_.L2.PE.imp {X : Cx} {e : Expr} {t t' : TE} (h : PE X e t) (f : ∀ σ H Q, t' σ H Q → t σ H Q) : PE X e t' := ⟨fun pins s σ H Q I q => h.run pins s σ H Q I (f σ H Q q)⟩
theorem _root_.L2.PT.imp {X : Cx} {e : Expr} {t t' : TT} (h : PT X e t) (f : ∀ σ H Q, t' σ H Q → t σ H Q) : PT X e t' := ⟨fun pins s σ H Q I q => h.run pins s σ H Q I (f σ H Q q)⟩
theorem _root_.L2.PW.imp {X : Cx} {e : Expr} {t t' : TT} (h : PW X e t) (f : ∀ σ H Q, t' σ H Q → t σ H Q) : PW X e t' := ⟨fun wh pins s σ H Q I q => h.run wh pins s σ H Q I (f σ H Q q)⟩
theorem _root_.L2.PA.imp {X : Cx} {e : List Expr} {t t' : TA} (h : PA X e t) (f : ∀ σ H Q, t' σ H Q → t σ H Q) : PA X e t' := ⟨fun p pins s σ H Q I q => h.run p pins s σ H Q I (f σ H Q q)⟩
theorem _root_.L2.PE.or {X : Cx} {e : Expr} {t t' : TE} (h : PE X e t) (h' : PE X e t') : PE X e (fun σ H Q => t σ H Q ∨ t' σ H Q) := ⟨fun pins s σ H Q I q => q.elim (h.run pins s σ H Q I) (h'.run pins s σ H Q I)⟩
theorem _root_.L2.PE.both {X : Cx} {e : Expr} {t t' t2 : TE} (h : PE X e t) (h' : PE X e t') (f : ∀ σ H Q, t2 σ H Q → t σ H Q ∨ t' σ H Q) : PE X e t2 := (h.or h').imp f

section
variable {ct : String → Addr} {X : Cx} {E : EK} {pos : Pos} {a b c e : Expr} {A B C : IE}

/-! ### names, constants -/
def iVar (i : Nat) : IE := fun env st => match env[i]? with
  | some (some d) => .ok d st
  | _ => .bad
def iC (d : D) : IE := fun _ st => .ok d st
theorem si_var (i : Nat) {x : Str} (h : PE X (.Name x pos) (tVar i)) : SI ct X E (.Name x pos) (iVar i) := ⟨h.imp fun σ H Q ⟨m, env, st, re, rs, f⟩ => by
  unfold iVar at f
  split at f
  · rename_i d q
    obtain ⟨v, e, r⟩ := re.at_ i d q
    exact ⟨v, e, f.here rs v r⟩
  · exact f.elim⟩
theorem si_C {v : V} {d : D} (h : PE X e (tC v)) (r : ∀ m H, RV X.K m H d v) : SI ct X E e (iC d) := ⟨h.imp fun σ H Q ⟨m, env, st, re, rs, f⟩ => Fin.here f rs v (r _ _)⟩
theorem si_int {i j} : SI ct X E (.Constant (.int i) j pos) (iC (.int i)) := si_C pe_int fun _ _ => .int _
theorem si_bl {i j} : SI ct X E (.Constant (.bool i) j pos) (iC (.bl i)) := si_C pe_bl fun _ _ => .bl _
theorem si_non {j} : SI ct X E (.Constant .none j pos) (iC .non) := si_C pe_non fun _ _ => .non
theorem si_str {i j} : SI ct X E (.Constant (.str i) j pos) (iC (.str i)) := si_C pe_str fun _ _ => .str _

/-! ### operations -/
def OpS (g : G0) (E : EK) (f : D → D → Sto → Rs D) (r : R2) : Prop :=
  ∀ (m : Mp) (H : Hp) (st : Sto) (d e : D) (x y : V) (Q : VK), RS g m H st → RV g.K m H d x → RV g.K m H e y → Fin g E m H (f d e st) (EndE g Q) → r x y H Q
def iBin (f : D → D → Sto → Rs D) (A B : IE) : IE := fun env st => (A env st).bind fun d st1 => (B env st1).bind fun e st2 => f d e st2
def iUn (f : D → Sto → Rs D) (A : IE) : IE := fun env st => (A env st).bind f
theorem bin_tI {f : D → D → Sto → Rs D} {r : R2} (hr : OpS (gx ct X) E f r) {σ : L2.St} {H : Hp} {Q : VK} (h : tI (gx ct X) E (iBin f A B) σ H Q) : tOp r (tI (gx ct X) E A) (tI (gx ct X) E B) σ H Q := by
  obtain ⟨m, env, st, re, rs, fin⟩ := h
  refine ⟨m, env, st, re, rs, fin.bind.imp fun m1 H1 d st1 g1 rs1 q x rx => ?_⟩
  refine ⟨m1, env, st1, re.mono g1, rs1, q.bind.imp fun m2 H2 e st2 g2 rs2 q2 y ry => ?_⟩
  exact hr m2 H2 st2 d e x y Q rs2 (rx.mono g2) ry q2
theorem si_bin {op : Operator} {f : D → D → Sto → Rs D} {r : R2} (ho : OpR X (binaryOp op) r) (hr : OpS (gx ct X) E f r) (ha : SI ct X E a A) (hb : SI ct X E b B) : SI ct X E (.BinOp a op b pos) (iBin f A B) :=
  ⟨(pe_op ho ha.pe hb.pe).imp fun _ _ _ h => bin_tI hr h⟩
theorem si_cmp {op : CmpOp} {f : D → D → Sto → Rs D} {r : R2} (ho : OpR X (compareOp op) r) (hr : OpS (gx ct X) E f r) (ha : SI ct X E a A) (hb : SI ct X E b B) (hm : behindInMarks op b = false) : SI ct X E (.Compare a [op] [b] pos) (iBin f A B) :=
  ⟨(pe_cmpR ho ha.pe hb.pe hm).imp fun _ _ _ h => bin_tI hr h⟩
def toB : D → Sto → Rs Bool
  | .bl b, st => .ok b st
  | _, _ => .bad
def iTest (A : IE) : IT := fun env st => (A env st).bind toB
theorem test_tI {σ : L2.St} {H : Hp} {Q : Bool → Hp → Prop} (h : tIT (gx ct X) E (iTest A) σ H Q) : tI (gx ct X) E A σ H (fun x H' => ∃ k, x = .bl k ∧ Q k H') := by
  obtain ⟨m, env, st, re, rs, fin⟩ := h
  refine ⟨m, env, st, re, rs, fin.bind.imp fun m1 H1 d st1 g1 rs1 q x rx => ?_⟩
  cases d with
  | bl b => cases rx; exact ⟨b, rfl, Fin.here q rs1⟩
  | _ => exact (show False from q).elim
theorem sb_cmp {op : CmpOp} {f : D → D → Sto → Rs D} {r : R2} (ho : OpR X (compareOp op) r) (hr : OpS (gx ct X) E f r) (ha : SI ct X E a A) (hb : SI ct X E b B) (hm : behindInMarks op b = false) : SB ct X E (.Compare a [op] [b] pos) (iTest (iBin f A B)) :=
  ⟨(pt_cmpR ho ha.pe hb.pe hm).imp fun _ _ _ h => bin_tI hr (test_tI h)⟩

/-! arithmetic -/
def gSub : D → D → Sto → Rs D
  | .int i, .int j, st => .ok (.int (i - j)) st
  | _, _, _ => .bad
def gFdiv : D → D → Sto → Rs D
  | .int i, .int j, st => if 0 < j ∧ j.natAbs.log2 < 9000 then .ok (.int (i / j)) st else .bad
  | _, _, _ => .bad
def gMod : D → D → Sto → Rs D
  | .int i, .int j, st => if 0 < j then .ok (.int (i % j)) st else .bad
  | _, _, _ => .bad
def gPow : D → D → Sto → Rs D
  | .int i, .int j, st => if 0 ≤ j ∧ j ≤ 1000000 ∧ i.natAbs < 2 ^ 64 then .ok (.int (i ^ j.toNat)) st else .bad
  | _, _, _ => .bad
def gXor : D → D → Sto → Rs D
  | .int i, .int j, st => .ok (.int (Builtin.bitXor i j)) st
  | _, _, _ => .bad
def gAnd : D → D → Sto → Rs D
  | .int i, .int j, st => .ok (.int (Builtin.bitAnd i j)) st
  | _, _, _ => .bad
def listAt (st : Sto) : D → Option (List D)
  | .rol xs => some xs
  | .ref n => match st[n]? with
    | some (.lst xs) => some xs
    | _ => none
  | _ => none
def gAdd : D → D → Sto → Rs D
  | .int i, .int j, st => .ok (.int (i + j)) st
  | .tup xs, .tup ys, st => if xs.length + ys.length ≤ 16777216 then .ok (.tup (xs ++ ys)) st else .bad
  | .str x, .str y, st => if x.length + y.length ≤ 16777216 then .ok (.str (x ++ y)) st else .bad
  | d, e, st => match listAt st d, listAt st e with
    | some xs, some ys => if xs.length + ys.length ≤ 16777216 then .ok (.rol (xs ++ ys)) st else .bad
    | _, _ => .bad
def gMul : D → D → Sto → Rs D
  | .int i, .int j, st => if i.natAbs < 2 ^ 64 ∨ j.natAbs < 2 ^ 64 then .ok (.int (i * j)) st else .bad
  | d, .int k, st => match listAt st d with
    | some xs => if -(2 ^ 63) ≤ k ∧ k < 2 ^ 63 ∧ xs.length * k.toNat ≤ 16777216 then .ok (.rol (List.replicate k.toNat xs).flatten) st else .bad
    | _ => .bad
  | _, _, _ => .bad
theorem sl_eq : (sizeLine : Nat) = 16777216 := sizeLine_eq
theorem ops_int {f : D → D → Sto → Rs D} {C : Int → Int → Prop} {k : Int → Int → D} {kv : Int → Int → V} (g : G0)
    (h1 : ∀ d e st, f d e st ≠ .bad → ∃ i j, d = .int i ∧ e = .int j ∧ C i j ∧ f d e st = .ok (k i j) st) (hk : ∀ m H i j, RV g.K m H (k i j) (kv i j)) : OpS g E f (rI C kv) := by
  intro m H st d e x y Q rs rx ry fin
  have hb : f d e st ≠ .bad := fun z => by rw [z] at fin; exact fin
  obtain ⟨i, j, rfl, rfl, hc, q⟩ := h1 d e st hb
  cases rx; cases ry
  rw [q] at fin
  exact ⟨i, j, rfl, rfl, hc, fin.here rs _ (hk _ _ _ _)⟩
theorem ops_int0 {f : D → D → Sto → Rs D} {k : Int → Int → D} {kv : Int → Int → V} (g : G0)
    (h1 : ∀ d e st, f d e st ≠ .bad → ∃ i j, d = .int i ∧ e = .int j ∧ f d e st = .ok (k i j) st) (hk : ∀ m H i j, RV g.K m H (k i j) (kv i j)) : OpS g E f (rI0 kv) := by
  intro m H st d e x y Q rs rx ry fin
  have hb : f d e st ≠ .bad := fun z => by rw [z] at fin; exact fin
  obtain ⟨i, j, rfl, rfl, q⟩ := h1 d e st hb
  cases rx; cases ry
  rw [q] at fin
  exact ⟨i, j, rfl, rfl, fin.here rs _ (hk _ _ _ _)⟩
theorem si_sub (ha : SI ct X E a A) (hb : SI ct X E b B) : SI ct X E (.BinOp a .Sub b pos) (iBin gSub A B) :=
  si_bin op_sub (ops_int0 _ (k := fun i j => .int (i - j)) (fun d e st h => by
    cases d <;> cases e <;> first | exact absurd rfl h | exact ⟨_, _, rfl, rfl, rfl⟩) fun _ _ _ _ => .int _) ha hb
theorem si_xor (ha : SI ct X E a A) (hb : SI ct X E b B) : SI ct X E (.BinOp a .BitXor b pos) (iBin gXor A B) :=
  si_bin op_xor (ops_int0 _ (k := fun i j => .int (Builtin.bitXor i j)) (fun d e st h => by
    cases d <;> cases e <;> first | exact absurd rfl h | exact ⟨_, _, rfl, rfl, rfl⟩) fun _ _ _ _ => .int _) ha hb
theorem si_and (ha : SI ct X E a A) (hb : SI ct X E b B) : SI ct X E (.BinOp a .BitAnd b pos) (iBin gAnd A B) :=
  si_bin op_and (ops_int0 _ (k := fun i j => .int (Builtin.bitAnd i j)) (fun d e st h => by
    cases d <;> cases e <;> first | exact absurd rfl h | exact ⟨_, _, rfl, rfl, rfl⟩) fun _ _ _ _ => .int _) ha hb
theorem si_fdiv (ha : SI ct X E a A) (hb : SI ct X E b B) : SI ct X E (.BinOp a .FloorDiv b pos) (iBin gFdiv A B) :=
  si_bin op_fdivW (ops_int _ (k := fun i j => .int (i / j)) (fun d e st h => by
    cases d <;> cases e <;> first
      | exact absurd rfl h
      | (rename_i i j
         by_cases hc : 0 < j ∧ j.natAbs.log2 < 9000
         · exact ⟨_, _, rfl, rfl, hc, if_pos hc⟩
         · exact absurd (if_neg hc) h)) fun _ _ _ _ => .int _) ha hb
theorem si_mod (ha : SI ct X E a A) (hb : SI ct X E b B) : SI ct X E (.BinOp a .Mod b pos) (iBin gMod A B) :=
  si_bin op_mod (ops_int _ (k := fun i j => .int (i % j)) (fun d e st h => by
    cases d <;> cases e <;> first
      | exact absurd rfl h
      | (rename_i i j
         by_cases hc : 0 < j
         · exact ⟨_, _, rfl, rfl, hc, if_pos hc⟩
         · exact absurd (if_neg hc) h)) fun _ _ _ _ => .int _) ha hb
theorem si_pow (ha : SI ct X E a A) (hb : SI ct X E b B) : SI ct X E (.BinOp a .Pow b pos) (iBin gPow A B) :=
  si_bin op_pow (ops_int _ (k := fun i j => .int (i ^ j.toNat)) (fun d e st h => by
    cases d <;> cases e <;> first
      | exact absurd rfl h
      | (rename_i i j
         by_cases hc : 0 ≤ j ∧ j ≤ 1000000 ∧ i.natAbs < 2 ^ 64
         · exact ⟨_, _, rfl, rfl, hc, if_pos hc⟩
         · exact absurd (if_neg hc) h)) fun _ _ _ _ => .int _) ha hb
/-- a list that may be read and copied -/
theorem list_of {g : G0} {m : Mp} {H : Hp} {st : Sto} {d : D} {x : V} {xs : List D} (rs : RS g m H st) (r : RV g.K m H d x) (e : listAt st d = some xs) : ∃ p vs, x = .ref p ∧ H p = some (.lst vs) ∧ RVs g.K m H xs vs := by
  cases d with
  | rol ys =>
    cases e
    cases r with
    | rol h1 h2 => exact ⟨_, _, rfl, h1.2.2, h2⟩
  | ref n =>
    cases r with
    | ref h1 =>
      unfold listAt at e
      simp only at e
      split at e
      · rename_i ys q
        cases e
        obtain ⟨vs, h2, h3⟩ := rs.rc n _ _ h1 q
        exact ⟨_, vs, rfl, h3, h2⟩
      · cases e
  | _ => cases e
/-- a new list that is no cell -/
theorem rol_new {g : G0} {m : Mp} {H : Hp} {st : Sto} {xs : List D} {vs : List V} {Q : VK} (rs : RS g m H st) (r : RVs g.K m H xs vs) (f : Fin g E m H (.ok (.rol xs) st) (EndE g Q)) : ∀ p, H p = none → Q (.ref p) (upd H p (.lst vs)) := fun p hp => by
  have gr : Grow m H m (upd H p (.lst vs)) := Grow.laid hp
  exact f m _ gr (rs.laid hp) _ (.rol ⟨rs.notin hp, rs.nothold hp, upd_same⟩ (r.mono gr))
theorem tup_new {g : G0} {m : Mp} {H : Hp} {st : Sto} {xs : List D} {vs : List V} {Q : VK} (rs : RS g m H st) (r : RVs g.K m H xs vs) (f : Fin g E m H (.ok (.tup xs) st) (EndE g Q)) : ∀ p, H p = none → Q (.ref p) (upd H p (.tup vs)) := fun p hp => by
  have gr : Grow m H m (upd H p (.tup vs)) := Grow.laid hp
  exact f m _ gr (rs.laid hp) _ (.tup upd_same (r.mono gr))
theorem nil_of {K : PySem.W.Frag} {m : Mp} {H : Hp} {xs : List D} {vs : List V} (r : RVs K m H xs vs) : vs = [] ↔ xs = [] := by
  cases r <;> simp
theorem ops_add {g : G0} : OpS g E gAdd (fun x y H Q => (∃ i j, x = .int i ∧ y = .int j ∧ Q (.int (i + j)) H) ∨ (rCatA g.K x y H Q ∨ ((∃ i j, x = .str i ∧ y = .str j ∧ i.length + j.length ≤ sizeLine ∧ Q (.str (i ++ j)) H) ∨ rCat x y H Q))) := by
  intro m H st d e x y Q rs rx ry fin
  unfold gAdd at fin
  split at fin
  · cases rx; cases ry
    exact .inl ⟨_, _, rfl, rfl, fin.here rs _ (.int _)⟩
  · cases rx with
    | tup h1 h2 =>
      cases ry with
      | tup h3 h4 =>
        split at fin
        · rename_i hz
          rw [h2.length, h4.length] at hz
          refine .inr (.inl ⟨_, _, _, _, rfl, rfl, h1.sq, h3.sq, by rw [sl_eq]; exact hz, fun z => ?_, fun _ z => ?_, fun _ _ => tup_new rs (h2.append h4) fin⟩)
          · have z' := (nil_of h2).mp z
            subst z'
            exact fin.here rs _ (.tup h3 h4)
          · have z' := (nil_of h4).mp z
            subst z'
            rw [List.append_nil] at fin
            exact fin.here rs _ (.tup h1 h2)
        · exact fin.elim
  · cases rx; cases ry
    split at fin
    · rename_i hz
      exact .inr (.inr (.inl ⟨_, _, rfl, rfl, by rw [sl_eq]; exact hz, fin.here rs _ (.str _)⟩))
    · exact fin.elim
  · split at fin
    · rename_i xs ys q1 q2
      split at fin
      · rename_i hz
        obtain ⟨p, vs, rfl, h1, r1⟩ := list_of rs rx q1
        obtain ⟨p2, ws, rfl, h2, r2⟩ := list_of rs ry q2
        rw [r1.length, r2.length] at hz
        exact .inr (.inr (.inr ⟨p, p2, vs, ws, rfl, rfl, h1, h2, by rw [sl_eq]; exact hz, rol_new rs (r1.append r2) fin⟩))
      · exact fin.elim
    · exact fin.elim
theorem si_add (ha : SI ct X E a A) (hb : SI ct X E b B) : SI ct X E (.BinOp a .Add b pos) (iBin gAdd A B) :=
  si_bin (op_add.or (op_catA.or (op_add_str.or op_cat))) ops_add ha hb
theorem ops_mul {g : G0} : OpS g E gMul (fun x y H Q => rI CMul (fun i j => .int (i * j)) x y H Q ∨ rRep x y H Q) := by
  intro m H st d e x y Q rs rx ry fin
  unfold gMul at fin
  split at fin
  · cases rx; cases ry
    split at fin
    · rename_i hc
      refine .inl ⟨_, _, rfl, rfl, ?_, fin.here rs _ (.int _)⟩
      rcases hc with h | h
      · exact .inl ⟨by omega, by omega⟩
      · exact .inr ⟨by omega, by omega⟩
    · exact fin.elim
  · cases ry
    split at fin
    · rename_i xs q1
      split at fin
      · rename_i hz
        obtain ⟨p, vs, rfl, h1, r1⟩ := list_of rs rx q1
        rw [r1.length] at hz
        exact .inr ⟨p, _, vs, rfl, rfl, h1, hz.1, hz.2.1, by rw [sl_eq]; exact hz.2.2, rol_new rs (r1.flat _) fin⟩
      · exact fin.elim
    · exact fin.elim
  · exact fin.elim
theorem si_mul (ha : SI ct X E a A) (hb : SI ct X E b B) : SI ct X E (.BinOp a .Mult b pos) (iBin gMul A B) :=
  si_bin (op_mul.or op_rep) ops_mul ha hb
end
end QI

namespace QI
open PySem PySem.Spec PyProof.Rows L2

/-! ### data without cells, as the library's plain data -/
mutual
def pdP : D → Option PyData
  | .non => some .none
  | .bl b => some (.bool b)
  | .int i => some (.int i)
  | .str x => some (.str x)
  | .tup xs => match pdPs xs with
    | some ys => some (.tuple ys)
    | none => none
  | .rol xs => match pdPs xs with
    | some ys => some (.list ys)
    | none => none
  | .scr xs => match pdPs xs with
    | some ys => some (.list ys)
    | none => none
  | .ref _ => none
def pdPs : List D → Option (List PyData)
  | [] => some []
  | d :: ds => match pdP d, pdPs ds with
    | some y, some ys => some (y :: ys)
    | _, _ => none
end
def pdS (st : Sto) : D → Option PyData
  | .ref n => match st[n]? with
    | some (.lst xs) => match pdPs xs with
      | some ys => some (.list ys)
      | none => none
    | _ => none
  | d => pdP d
section
variable {K : PySem.W.Frag} {m : Mp} {H : Hp}
mutual
theorem RV.dp : ∀ {d : D} {v : V} {p : PyData}, RV K m H d v → pdP d = some p → Dp K H v p
  | .non, _, _, h, e => by cases h; simp [pdP] at e; subst e; exact .non
  | .bl _, _, _, h, e => by cases h; simp [pdP] at e; subst e; exact .bl _
  | .int _, _, _, h, e => by cases h; simp [pdP] at e; subst e; exact .int _
  | .str _, _, _, h, e => by cases h; simp [pdP] at e; subst e; exact .str _
  | .tup ds, _, _, h, e => by
    cases h with
    | tup h1 h2 =>
      simp only [pdP] at e
      split at e
      · rename_i ys q
        cases e
        exact .tup h1.sq (RVs.dp h2 q)
      · cases e
  | .rol ds, _, _, h, e => by
    cases h with
    | rol h1 h2 =>
      simp only [pdP] at e
      split at e
      · rename_i ys q
        cases e
        exact .lst h1.sq (RVs.dp h2 q)
      · cases e
  | .scr ds, _, _, h, e => by
    cases h with
    | scr h1 h2 =>
      simp only [pdP] at e
      split at e
      · rename_i ys q
        cases e
        exact .lst h1.sq (RVs.dp h2 q)
      · cases e
  | .ref _, _, _, h, e => by simp [pdP] at e
theorem RVs.dp : ∀ {ds : List D} {vs : List V} {ps : List PyData}, RVs K m H ds vs → pdPs ds = some ps → DpAll K H vs ps
  | [], _, _, h, e => by cases h; simp [pdPs] at e; subst e; exact .nil
  | d :: ds, _, _, h, e => by
    cases h with
    | cons h1 h2 =>
      simp only [pdPs] at e
      split at e
      · rename_i y ys q1 q2
        cases e
        exact .cons (RV.dp h1 q1) (RVs.dp h2 q2)
      · cases e
end
theorem RV.dps {g : G0} {st : Sto} {d : D} {v : V} {p : PyData} (rs : RS g m H st) (h : RV g.K m H d v) (e : pdS st d = some p) : Dp g.K H v p := by
  cases d with
  | ref n =>
    cases h with
    | ref h1 =>
      simp only [pdS] at e
      split at e
      · rename_i xs q
        split at e
        · rename_i ys q2
          cases e
          obtain ⟨vs, r, h2⟩ := rs.rc n _ _ h1 q
          exact .lst (SqL.of h2) (r.dp q2)
        · cases e
      · cases e
  | _ => exact h.dp e
end
/-- the items of a list or a tuple -/
def seqAt (st : Sto) : D → Option (List D)
  | .tup xs => some xs
  | .rol xs => some xs
  | .scr xs => some xs
  | .ref n => match st[n]? with
    | some (.lst xs) => some xs
    | _ => none
  | _ => none
theorem seq_of {g : G0} {m : Mp} {H : Hp} {st : Sto} {d : D} {x : V} {xs : List D} (rs : RS g m H st) (r : RV g.K m H d x) (e : seqAt st d = some xs) : ∃ p vs, x = .ref p ∧ (SqL g.K H p vs ∨ SqT g.K H p vs) ∧ RVs g.K m H xs vs := by
  cases d with
  | tup ys =>
    cases e
    cases r with
    | tup h1 h2 => exact ⟨_, _, rfl, .inr h1.sq, h2⟩
  | rol ys =>
    cases e
    cases r with
    | rol h1 h2 => exact ⟨_, _, rfl, .inl h1.sq, h2⟩
  | scr ys =>
    cases e
    cases r with
    | scr h1 h2 => exact ⟨_, _, rfl, .inl h1.sq, h2⟩
  | ref n =>
    cases r with
    | ref h1 =>
      unfold seqAt at e
      simp only at e
      split at e
      · rename_i ys q
        cases e
        obtain ⟨vs, h2, h3⟩ := rs.rc n _ _ h1 q
        exact ⟨_, vs, rfl, .inl (SqL.of h3), h2⟩
      · cases e
  | _ => cases e

/-! ### comparisons -/
def gEq (st : Sto) : D → D → Option Bool
  | .int i, .int j => some (decide (i = j))
  | .str x, .str y => some (decide (x = y))
  | .bl x, .bl y => some (decide (x = y))
  | d, e => match pdS st d, pdS st e with
    | some a, some b => if SeqAt.shaped a = true ∧ SeqAt.shaped b = true then some (PyData.eqv a b) else none
    | _, _ => none
def fB (o : Option Bool) (st : Sto) : Rs D := match o with
  | some b => .ok (.bl b) st
  | none => .bad
def gEqE : D → D → Sto → Rs D := fun d e st => fB (gEq st d e) st
def gNeE : D → D → Sto → Rs D := fun d e st => fB ((gEq st d e).map (!·)) st
def gLt : D → D → Sto → Rs D
  | .int i, .int j, st => .ok (.bl (decide (i < j))) st
  | _, _, _ => .bad
def gLe : D → D → Sto → Rs D
  | .int i, .int j, st => .ok (.bl (decide (i ≤ j))) st
  | _, _, _ => .bad
def gGt : D → D → Sto → Rs D
  | .int i, .int j, st => .ok (.bl (decide (j < i))) st
  | _, _, _ => .bad
def gGe : D → D → Sto → Rs D
  | .int i, .int j, st => .ok (.bl (decide (j ≤ i))) st
  | _, _, _ => .bad
def D.isNon : D → Bool
  | .non => true
  | _ => false
def gIs : D → D → Sto → Rs D
  | d, .non, st => .ok (.bl d.isNon) st
  | _, _, _ => .bad
def gIsNot : D → D → Sto → Rs D
  | d, .non, st => .ok (.bl (!d.isNon)) st
  | _, _, _ => .bad
/-- == of plain items -/
def D.fv : D → Option V
  | .non => some .non
  | .bl b => some (.bl b)
  | .int i => some (.int i)
  | .str x => some (.str x)
  | _ => none
def D.eqF (d e : D) : Bool := match d.fv, e.fv with
  | some x, some y => eqV x y
  | _, _ => false
def D.flat (d : D) : Bool := d.fv.isSome
theorem fv_of {K : PySem.W.Frag} {m : Mp} {H : Hp} {d : D} {v : V} (h : RV K m H d v) (f : d.flat = true) : d.fv = some v ∧ flatV v = true := by
  cases d <;> cases h <;> first | exact ⟨rfl, rfl⟩ | (simp [D.flat, D.fv] at f)
theorem fvs_of {K : PySem.W.Frag} {m : Mp} {H : Hp} {d : D} {v : V} (h : RV K m H d v) (f : d.flat = true) : ∀ {ds : List D} {vs : List V}, RVs K m H ds vs → ds.all D.flat = true → vs.all flatV = true ∧ inV v vs = ds.any fun e => e.eqF d
  | [], _, r, _ => by cases r; exact ⟨rfl, rfl⟩
  | e :: ds, _, r, q => by
    cases r with
    | cons r1 r2 =>
      simp only [List.all_cons, Bool.and_eq_true] at q
      obtain ⟨h1, h2⟩ := fv_of r1 q.1
      obtain ⟨h3, h4⟩ := fv_of h f
      obtain ⟨h5, h6⟩ := fvs_of h f r2 q.2
      refine ⟨by simp only [List.all_cons, Bool.and_eq_true]; exact ⟨h2, h5⟩, ?_⟩
      unfold inV at h6 ⊢
      rw [List.any_cons, List.any_cons, h6]
      congr 1
      unfold D.eqF
      rw [h1, h3]
def gIn (st : Sto) (d e : D) : Option Bool := match seqAt st e with
  | some xs => if d.flat = true ∧ xs.all D.flat = true then some (xs.any fun y => y.eqF d) else none
  | none => none
def gInE : D → D → Sto → Rs D := fun d e st => fB (gIn st d e) st
def gNotInE : D → D → Sto → Rs D := fun d e st => fB ((gIn st d e).map (!·)) st

section
variable {ct : String → Addr} {X : Cx} {E : EK} {pos : Pos} {a b c e : Expr} {A B C : IE}
/-- a comparison's rule: op and what it gives -/
def CmpR (ct : String → Addr) (X : Cx) (E : EK) (op : CmpOp) (f : D → D → Sto → Rs D) : Prop := ∃ r, OpR X (compareOp op) r ∧ OpS (gx ct X) E f r
theorem fB_ok {g : G0} {m : Mp} {H : Hp} {st : Sto} {o : Option Bool} {Q : VK} (rs : RS g m H st) (fin : Fin g E m H (fB o st) (EndE g Q)) : ∃ b, o = some b ∧ Q (.bl b) H := by
  cases o with
  | none => exact fin.elim
  | some b => exact ⟨b, rfl, Fin.here fin rs _ (.bl b)⟩
theorem c_lt : CmpR ct X E .Lt gLt := ⟨_, op_lt, ops_int0 _ (k := fun i j => .bl (decide (i < j))) (fun d e st h => by
    cases d <;> cases e <;> first | exact absurd rfl h | exact ⟨_, _, rfl, rfl, rfl⟩) fun _ _ _ _ => .bl _⟩
theorem c_le : CmpR ct X E .LtE gLe := ⟨_, op_le, ops_int0 _ (k := fun i j => .bl (decide (i ≤ j))) (fun d e st h => by
    cases d <;> cases e <;> first | exact absurd rfl h | exact ⟨_, _, rfl, rfl, rfl⟩) fun _ _ _ _ => .bl _⟩
theorem c_gt : CmpR ct X E .Gt gGt := ⟨_, op_gt, ops_int0 _ (k := fun i j => .bl (decide (j < i))) (fun d e st h => by
    cases d <;> cases e <;> first | exact absurd rfl h | exact ⟨_, _, rfl, rfl, rfl⟩) fun _ _ _ _ => .bl _⟩
theorem c_ge : CmpR ct X E .GtE gGe := ⟨_, op_ge, ops_int0 _ (k := fun i j => .bl (decide (j ≤ i))) (fun d e st h => by
    cases d <;> cases e <;> first | exact absurd rfl h | exact ⟨_, _, rfl, rfl, rfl⟩) fun _ _ _ _ => .bl _⟩
theorem gEq_ok {g : G0} {m : Mp} {H : Hp} {st : Sto} {d e : D} {x y : V} {k : Bool} (rs : RS g m H st) (rx : RV g.K m H d x) (ry : RV g.K m H e y) (h : gEq st d e = some k) :
    (scal x y = true ∧ decide (x = y) = k) ∨ ∃ a b, Dp g.K H x a ∧ Dp g.K H y b ∧ SeqAt.shaped a = true ∧ SeqAt.shaped b = true ∧ PyData.eqv a b = k := by
  unfold gEq at h
  split at h
  · cases rx; cases ry; cases h
    exact .inl ⟨rfl, by simp⟩
  · cases rx; cases ry; cases h
    exact .inl ⟨rfl, by simp⟩
  · cases rx; cases ry; cases h
    exact .inl ⟨rfl, by simp⟩
  · split at h
    · rename_i p q h1 h2
      split at h
      · rename_i hs
        cases h
        exact .inr ⟨p, q, rx.dps rs h1, ry.dps rs h2, hs.1, hs.2, rfl⟩
      · cases h
    · cases h
theorem c_eq (hu : X.A.units + 64 < cLine) : CmpR ct X E .Eq gEqE := ⟨_, op_eq.or (op_eqD hu), fun m H st d e x y Q rs rx ry fin => by
  obtain ⟨k, h1, h2⟩ := fB_ok rs fin
  rcases gEq_ok rs rx ry h1 with ⟨hs, rfl⟩ | ⟨p, q, d1, d2, s1, s2, rfl⟩
  · exact .inl ⟨hs, h2⟩
  · exact .inr ⟨p, q, d1, d2, s1, s2, h2⟩⟩
theorem c_ne (hu : X.A.units + 64 < cLine) : CmpR ct X E .NotEq gNeE := ⟨_, op_ne.or (op_neD hu), fun m H st d e x y Q rs rx ry fin => by
  obtain ⟨k, h1, h2⟩ := fB_ok rs fin
  cases he : gEq st d e with
  | none => rw [he] at h1; cases h1
  | some k' =>
    rw [he] at h1
    cases h1
    rcases gEq_ok rs rx ry he with ⟨hs, rfl⟩ | ⟨p, q, d1, d2, s1, s2, rfl⟩
    · exact .inl ⟨hs, h2⟩
    · exact .inr ⟨p, q, d1, d2, s1, s2, h2⟩⟩
theorem isNon_of {K : PySem.W.Frag} {m : Mp} {H : Hp} {d : D} {v : V} (h : RV K m H d v) : decide (v = .non) = d.isNon := by
  cases h <;> simp [D.isNon]
theorem c_is : CmpR ct X E .Is gIs := ⟨_, op_isN, fun m H st d e x y Q rs rx ry fin => by
  unfold gIs at fin
  split at fin
  · cases ry
    exact ⟨rfl, by rw [isNon_of rx]; exact fin.here rs _ (.bl _)⟩
  · exact fin.elim⟩
theorem c_isnot : CmpR ct X E .IsNot gIsNot := ⟨_, op_notN, fun m H st d e x y Q rs rx ry fin => by
  unfold gIsNot at fin
  split at fin
  · cases ry
    exact ⟨rfl, by rw [isNon_of rx]; exact fin.here rs _ (.bl _)⟩
  · exact fin.elim⟩
theorem gIn_ok {g : G0} {m : Mp} {H : Hp} {st : Sto} {d e : D} {x y : V} {k : Bool} (rs : RS g m H st) (rx : RV g.K m H d x) (ry : RV g.K m H e y) (h : gIn st d e = some k) :
    ∃ p xs, y = .ref p ∧ (SqL g.K H p xs ∨ SqT g.K H p xs) ∧ flatV x = true ∧ xs.all flatV = true ∧ inV x xs = k := by
  unfold gIn at h
  split at h
  · rename_i xs q
    split at h
    · rename_i hf
      cases h
      obtain ⟨p, vs, rfl, hq, r⟩ := seq_of rs ry q
      obtain ⟨f1, f2⟩ := fvs_of rx hf.1 r hf.2
      exact ⟨p, vs, rfl, hq, (fv_of rx hf.1).2, f1, f2⟩
    · cases h
  · cases h
theorem c_in : CmpR ct X E .In gInE := ⟨_, op_in_seq, fun m H st d e x y Q rs rx ry fin => by
  obtain ⟨k, h1, h2⟩ := fB_ok rs fin
  obtain ⟨p, xs, rfl, hq, f1, f2, rfl⟩ := gIn_ok rs rx ry h1
  exact ⟨p, xs, rfl, hq, f1, f2, h2⟩⟩
theorem c_notin : CmpR ct X E .NotIn gNotInE := ⟨_, op_notIn_seq, fun m H st d e x y Q rs rx ry fin => by
  obtain ⟨k, h1, h2⟩ := fB_ok rs fin
  cases he : gIn st d e with
  | none => rw [he] at h1; cases h1
  | some k' =>
    rw [he] at h1
    cases h1
    obtain ⟨p, xs, rfl, hq, f1, f2, rfl⟩ := gIn_ok rs rx ry he
    exact ⟨p, xs, rfl, hq, f1, f2, h2⟩⟩
theorem si_c {op : CmpOp} {f : D → D → Sto → Rs D} (h : CmpR ct X E op f) (ha : SI ct X E a A) (hb : SI ct X E b B) (hm : behindInMarks op b = false := by first | exact nomark _ | rfl) : SI ct X E (.Compare a [op] [b] pos) (iBin f A B) := by
  obtain ⟨r, ho, hr⟩ := h
  exact si_cmp ho hr ha hb hm
theorem sb_c {op : CmpOp} {f : D → D → Sto → Rs D} (h : CmpR ct X E op f) (ha : SI ct X E a A) (hb : SI ct X E b B) (hm : behindInMarks op b = false := by first | exact nomark _ | rfl) : SB ct X E (.Compare a [op] [b] pos) (iTest (iBin f A B)) := by
  obtain ⟨r, ho, hr⟩ := h
  exact sb_cmp ho hr ha hb hm
/-- a op b op' c -/
def iChain (f f' : D → D → Sto → Rs D) (A B C : IE) : IE := fun env st => (A env st).bind fun d st1 => (B env st1).bind fun e st2 => (f d e st2).bind fun k st3 => match k with
  | .bl true => (C env st3).bind fun c st4 => f' e c st4
  | .bl false => .ok (.bl false) st3
  | _ => .bad
theorem chain_tI {f f' : D → D → Sto → Rs D} {r r' : R2} (hr : OpS (gx ct X) E f r) (hr' : OpS (gx ct X) E f' r') {σ : L2.St} {H : Hp} {Q : VK} (h : tI (gx ct X) E (iChain f f' A B C) σ H Q)
    : tChain r r' (tI (gx ct X) E A) (tI (gx ct X) E B) (tI (gx ct X) E C) σ H Q := by
  obtain ⟨m, env, st, re, rs, fin⟩ := h
  refine ⟨m, env, st, re, rs, fin.bind.imp fun m1 H1 d st1 g1 rs1 q x rx => ?_⟩
  have re1 := re.mono g1
  refine ⟨m1, env, st1, re1, rs1, q.bind.imp fun m2 H2 e st2 g2 rs2 q2 y ry => ?_⟩
  have re2 := re1.mono g2
  refine hr m2 H2 st2 d e x y _ rs2 (rx.mono g2) ry (q2.bind.imp fun m3 H3 k st3 g3 rs3 q3 z rz => ?_)
  split at q3
  · cases rz
    refine ⟨true, rfl, ?_⟩
    rw [if_pos rfl]
    refine ⟨m3, env, st3, re2.mono g3, rs3, q3.bind.imp fun m4 H4 c st4 g4 rs4 q4 w rw' => ?_⟩
    exact hr' m4 H4 st4 e c y w Q rs4 (ry.mono (g3.trans g4)) rw' q4
  · cases rz
    refine ⟨false, rfl, ?_⟩
    rw [if_neg Bool.false_ne_true]
    exact q3.here rs3 _ (.bl false)
  · exact q3.elim
theorem si_chain {op op' : CmpOp} {f f' : D → D → Sto → Rs D} (h : CmpR ct X E op f) (h' : CmpR ct X E op' f') (ha : SI ct X E a A) (hb : SI ct X E b B) (hc : SI ct X E c C) (hm : lastMarks [op, op'] [b, c] = false := by with_unfolding_all rfl) :
    SI ct X E (.Compare a [op, op'] [b, c] pos) (iChain f f' A B C) := by
  obtain ⟨r, ho, hr⟩ := h
  obtain ⟨r', ho', hr'⟩ := h'
  exact ⟨(pe_chain ho ho' ha.pe hb.pe hc.pe hm).imp fun _ _ _ q => chain_tI hr hr' q⟩
theorem sb_chain {op op' : CmpOp} {f f' : D → D → Sto → Rs D} (h : CmpR ct X E op f) (h' : CmpR ct X E op' f') (ha : SI ct X E a A) (hb : SI ct X E b B) (hc : SI ct X E c C) (hm : lastMarks [op, op'] [b, c] = false := by with_unfolding_all rfl) :
    SB ct X E (.Compare a [op, op'] [b, c] pos) (iTest (iChain f f' A B C)) := by
  obtain ⟨r, ho, hr⟩ := h
  obtain ⟨r', ho', hr'⟩ := h'
  exact ⟨(pt_chain ho ho' ha.pe hb.pe hc.pe hm).imp fun _ _ _ q => chain_tI hr hr' (test_tI q)⟩

/-! ### truth, and, or, not, if else -/
def gTru (st : Sto) : D → Option Bool
  | .non => some false
  | .bl b => some b
  | .int i => some (i != 0)
  | .str y => if y.length ≤ 16777216 then some ((y.length : Int) != 0) else none
  | d => match seqAt st d with
    | some xs => some (!xs.isEmpty)
    | none => none
theorem empty_of {K : PySem.W.Frag} {m : Mp} {H : Hp} {xs : List D} {vs : List V} (r : RVs K m H xs vs) : vs.isEmpty = xs.isEmpty := by cases r <;> rfl
theorem gTru_ok {g : G0} {m : Mp} {H : Hp} {st : Sto} {d : D} {x : V} {k : Bool} (rs : RS g m H st) (r : RV g.K m H d x) (e : gTru st d = some k) : TruV g.K x H k := by
  cases d with
  | non => cases r; cases e; rfl
  | bl b => cases r; cases e; rfl
  | int i => cases r; cases e; rfl
  | str y =>
    cases r
    simp only [gTru] at e
    split at e
    · rename_i hz
      cases e
      exact ⟨by rw [sl_eq]; exact hz, rfl⟩
    · cases e
  | _ =>
    simp only [gTru] at e
    split at e
    · rename_i xs q
      cases e
      obtain ⟨p, vs, rfl, hq, rv⟩ := seq_of rs r q
      rcases hq with hq | hq
      · exact .inl ⟨vs, hq, by rw [empty_of rv]⟩
      · exact .inr (.inl ⟨vs, hq, by rw [empty_of rv]⟩)
    · cases e
def fT (o : Option Bool) (st : Sto) : Rs Bool := match o with
  | some b => .ok b st
  | none => .bad
def iTru (A : IE) : IT := fun env st => (A env st).bind fun d st1 => fT (gTru st1 d) st1
theorem tru_tI {σ : L2.St} {H : Hp} {Q : Bool → Hp → Prop} (h : tIT (gx ct X) E (iTru A) σ H Q) : tI (gx ct X) E A σ H (fun x H' => ∃ k, TruV X.K x H' k ∧ Q k H') := by
  obtain ⟨m, env, st, re, rs, fin⟩ := h
  refine ⟨m, env, st, re, rs, fin.bind.imp fun m1 H1 d st1 g1 rs1 q x rx => ?_⟩
  cases hk : gTru st1 d with
  | none => rw [hk] at q; exact q.elim
  | some k => rw [hk] at q; exact ⟨k, gTru_ok rs1 rx hk, Fin.here q rs1⟩
theorem sb_tru (ha : SI ct X E a A) (he : ∀ whole, isTrue a X.env whole = (do let v ← whole; standAt a.pos; holding [v] (truthy v)) := by intro _; rfl) : SB ct X E a (iTru A) :=
  ⟨(pt_truth ha.pe he).imp fun _ _ _ h => tru_tI h⟩
def iAnd (T U : IT) : IT := fun env st => (T env st).bind fun b st1 => if b = true then U env st1 else .ok false st1
def iOr (T U : IT) : IT := fun env st => (T env st).bind fun b st1 => if b = true then .ok true st1 else U env st1
def iNot (T : IT) : IT := fun env st => (T env st).bind fun b st1 => .ok (!b) st1
variable {T U : IT} {rest : List Expr}
theorem sw_and1 (h : SB ct X E a T) : SW ct X E (.BoolOp .And [a] pos) T := ⟨pw_and1 h.pt⟩
theorem sw_or1 (h : SB ct X E a T) : SW ct X E (.BoolOp .Or [a] pos) T := ⟨pw_or1 h.pt⟩
theorem sw_and (h : SB ct X E a T) (h2 : SW ct X E (.BoolOp .And (b :: rest) pos) U) : SW ct X E (.BoolOp .And (a :: b :: rest) pos) (iAnd T U) :=
  ⟨(pw_and h.pt h2.pw).imp fun σ H Q ⟨m, env, st, re, rs, fin⟩ => ⟨m, env, st, re, rs, fin.bind.imp fun m1 H1 b st1 g1 rs1 q => by
    cases b with
    | true => rw [if_pos rfl] at q ⊢; exact ⟨m1, env, st1, re.mono g1, rs1, q⟩
    | false => rw [if_neg Bool.false_ne_true] at q ⊢; exact q.here rs1⟩⟩
theorem sw_or (h : SB ct X E a T) (h2 : SW ct X E (.BoolOp .Or (b :: rest) pos) U) : SW ct X E (.BoolOp .Or (a :: b :: rest) pos) (iOr T U) :=
  ⟨(pw_or h.pt h2.pw).imp fun σ H Q ⟨m, env, st, re, rs, fin⟩ => ⟨m, env, st, re, rs, fin.bind.imp fun m1 H1 b st1 g1 rs1 q => by
    cases b with
    | false => rw [if_neg Bool.false_ne_true] at q ⊢; exact ⟨m1, env, st1, re.mono g1, rs1, q⟩
    | true => rw [if_pos rfl] at q ⊢; exact q.here rs1⟩⟩
theorem sb_w (h : SW ct X E a T) : SB ct X E a T := ⟨h.pw.pt⟩
theorem sb_not (h : SB ct X E a T) : SB ct X E (.UnaryOp .Not a pos) (iNot T) :=
  ⟨(pt_not h.pt).imp fun σ H Q ⟨m, env, st, re, rs, fin⟩ => ⟨m, env, st, re, rs, fin.bind.imp fun m1 H1 b st1 g1 rs1 q => q.here rs1⟩⟩
def iIf (T : IT) (A B : IE) : IE := fun env st => (T env st).bind fun b st1 => if b = true then A env st1 else B env st1
theorem si_if (h : SB ct X E c T) (ha : SI ct X E a A) (hb : SI ct X E b B) : SI ct X E (.IfExp c a b pos) (iIf T A B) :=
  ⟨(pe_ifExp h.pt ha.pe hb.pe).imp fun σ H Q ⟨m, env, st, re, rs, fin⟩ => ⟨m, env, st, re, rs, fin.bind.imp fun m1 H1 b st1 g1 rs1 q => by
    cases b with
    | true => rw [if_pos rfl] at q ⊢; exact ⟨m1, env, st1, re.mono g1, rs1, q⟩
    | false => rw [if_neg Bool.false_ne_true] at q ⊢; exact ⟨m1, env, st1, re.mono g1, rs1, q⟩⟩⟩
/-- x and y, x or y, not x as values -/
def iAndV (A B : IE) : IE := fun env st => (A env st).bind fun d st1 => match gTru st1 d with
  | some true => B env st1
  | some false => .ok d st1
  | none => .bad
def iOrV (A B : IE) : IE := fun env st => (A env st).bind fun d st1 => match gTru st1 d with
  | some true => .ok d st1
  | some false => B env st1
  | none => .bad
def iNotV (A : IE) : IE := fun env st => (A env st).bind fun d st1 => fB ((gTru st1 d).map (!·)) st1
theorem si_one {op} (h : SI ct X E a A) : SI ct X E (.BoolOp op [a] pos) A := ⟨pe_one h.pe⟩
theorem si_andV (ha : SI ct X E a A) (hb : SI ct X E (.BoolOp .And (b :: rest) pos) B) : SI ct X E (.BoolOp .And (a :: b :: rest) pos) (iAndV A B) :=
  ⟨(pe_andT ha.pe hb.pe).imp fun σ H Q ⟨m, env, st, re, rs, fin⟩ => ⟨m, env, st, re, rs, fin.bind.imp fun m1 H1 d st1 g1 rs1 q x rx => by
    split at q
    · rename_i hk
      refine ⟨true, gTru_ok rs1 rx hk, ?_⟩
      rw [if_pos rfl]
      exact ⟨m1, env, st1, re.mono g1, rs1, q⟩
    · rename_i hk
      refine ⟨false, gTru_ok rs1 rx hk, ?_⟩
      rw [if_neg Bool.false_ne_true]
      exact q.here rs1 _ rx
    · exact q.elim⟩⟩
theorem si_orV (ha : SI ct X E a A) (hb : SI ct X E (.BoolOp .Or (b :: rest) pos) B) : SI ct X E (.BoolOp .Or (a :: b :: rest) pos) (iOrV A B) :=
  ⟨(pe_orT ha.pe hb.pe).imp fun σ H Q ⟨m, env, st, re, rs, fin⟩ => ⟨m, env, st, re, rs, fin.bind.imp fun m1 H1 d st1 g1 rs1 q x rx => by
    split at q
    · rename_i hk
      refine ⟨true, gTru_ok rs1 rx hk, ?_⟩
      rw [if_pos rfl]
      exact q.here rs1 _ rx
    · rename_i hk
      refine ⟨false, gTru_ok rs1 rx hk, ?_⟩
      rw [if_neg Bool.false_ne_true]
      exact ⟨m1, env, st1, re.mono g1, rs1, q⟩
    · exact q.elim⟩⟩
theorem si_notV (ha : SI ct X E a A) : SI ct X E (.UnaryOp .Not a pos) (iNotV A) :=
  ⟨(pe_notT ha.pe).imp fun σ H Q ⟨m, env, st, re, rs, fin⟩ => ⟨m, env, st, re, rs, fin.bind.imp fun m1 H1 d st1 g1 rs1 q x rx => by
    obtain ⟨k, h1, h2⟩ := fB_ok rs1 q
    cases hk : gTru st1 d with
    | none => rw [hk] at h1; cases h1
    | some k' =>
      rw [hk] at h1
      cases h1
      exact ⟨k', gTru_ok rs1 rx hk, h2⟩⟩⟩
def gNeg : D → Sto → Rs D
  | .int i, st => .ok (.int (-i)) st
  | _, _ => .bad
theorem si_neg (ha : SI ct X E a A) : SI ct X E (.UnaryOp .USub a pos) (iUn gNeg A) :=
  ⟨(pe_un un_neg ha.pe).imp fun σ H Q ⟨m, env, st, re, rs, fin⟩ => ⟨m, env, st, re, rs, fin.bind.imp fun m1 H1 d st1 g1 rs1 q x rx => by
    unfold gNeg at q
    split at q
    · cases rx
      exact ⟨_, rfl, q.here rs1 _ (.int _)⟩
    · exact q.elim⟩⟩
end
end QI

namespace QI
open PySem PySem.Spec PyProof.Rows L2

section
variable {ct : String → Addr} {X : Cx} {E : EK} {pos p2 : Pos} {a b c e : Expr} {es : List Expr} {A B C : IE} {L : IL}
/-! ### argument lists, displays -/
def iNil : IL := fun _ st => .ok [] st
def iCons (A : IE) (L : IL) : IL := fun env st => (A env st).bind fun d st1 => (L env st1).bind fun ds st2 => .ok (d :: ds) st2
theorem sa_nil : SA ct X E [] iNil := ⟨pa_nil.imp fun σ H Q ⟨m, env, st, re, rs, fin⟩ => Fin.here fin rs _ .nil⟩
theorem sa_cons (ha : SI ct X E e A) (hl : SA ct X E es L) (hs : starEach (e :: es) X.env = (false, eval e X.env) :: starEach es X.env := by rfl) : SA ct X E (e :: es) (iCons A L) :=
  ⟨(pa_cons ha.pe hl.pa hs).imp fun σ H Q ⟨m, env, st, re, rs, fin⟩ => ⟨m, env, st, re, rs, fin.bind.imp fun m1 H1 d st1 g1 rs1 q x rx =>
    ⟨m1, env, st1, re.mono g1, rs1, q.bind.imp fun m2 H2 ds st2 g2 rs2 q2 xs rxs => q2.here rs2 _ (.cons (rx.mono g2) rxs)⟩⟩⟩
/-- an expression that makes a new list -/
def tF (g : G0) (E : EK) (L : IL) : TE := fun σ H Q => ∃ m env st, RE g.K m H env σ ∧ RS g m H st ∧
  Fin g E m H (L env st) (fun m' H' ds _ => ∀ vs, RVs g.K m' H' ds vs → ∀ p, H' p = none → Q (.ref p) (upd H' p (.lst vs)))
variable (ct X E) in
structure SF (e : Expr) (L : IL) : Prop where
  pe : PE X e (tF (gx ct X) E L)
def iRol (L : IL) : IE := fun env st => (L env st).bind fun ds st1 => .ok (.rol ds) st1
def iCell (L : IL) : IE := fun env st => (L env st).bind fun ds st1 => .ok (.ref st1.length) (st1 ++ [.lst ds])
theorem si_rol (h : SF ct X E e L) : SI ct X E e (iRol L) := ⟨h.pe.imp fun σ H Q ⟨m, env, st, re, rs, fin⟩ => ⟨m, env, st, re, rs, fin.bind.imp fun m1 H1 ds st1 g1 rs1 q vs rv p hp =>
  rol_new rs1 rv q p hp⟩⟩
theorem si_cell (h : SF ct X E e L) : SI ct X E e (iCell L) := ⟨h.pe.imp fun σ H Q ⟨m, env, st, re, rs, fin⟩ => ⟨m, env, st, re, rs, fin.bind.imp fun m1 H1 ds st1 g1 rs1 q vs rv p hp => by
  have gr : Grow m1 H1 (m1.add p) (upd H1 p (.lst vs)) := Grow.adopt hp
  refine q _ _ gr (rs1.adopt hp ⟨vs, rv.mono gr, upd_same⟩) _ (.ref ?_)
  show (m1.cs ++ [p])[st1.length]? = some p
  rw [List.getElem?_append_right (by rw [rs1.len]; exact Nat.le_refl _), ← rs1.len]
  simp⟩⟩
def iTup (L : IL) : IE := fun env st => (L env st).bind fun ds st1 => if ds.length ≤ 16777216 then .ok (.tup ds) st1 else .bad
theorem si_tup {x1} (h : SA ct X E es L) : SI ct X E (.Tuple es x1 pos) (iTup L) := ⟨(pe_tup h.pa).imp fun σ H Q ⟨m, env, st, re, rs, fin⟩ => ⟨m, env, st, re, rs, fin.bind.imp fun m1 H1 ds st1 g1 rs1 q vs rv => by
  split at q
  · rename_i hz
    exact ⟨by rw [← rv.length, sl_eq]; exact hz, tup_new rs1 rv q⟩
  · exact q.elim⟩⟩
def iLst (L : IL) : IL := fun env st => (L env st).bind fun ds st1 => if ds.length ≤ 16777216 then .ok ds st1 else .bad
theorem sf_lst (h : SA ct X E es L) : SF ct X E (.List es pos) (iLst L) := ⟨(pe_lst h.pa).imp fun σ H Q ⟨m, env, st, re, rs, fin⟩ => ⟨m, env, st, re, rs, fin.bind.imp fun m1 H1 ds st1 g1 rs1 q vs rv => by
  split at q
  · rename_i hz
    exact ⟨by rw [← rv.length, sl_eq]; exact hz, q.here rs1 vs rv⟩
  · exact q.elim⟩⟩
/-- xs + ys, xs * k as new lists -/
def fLst (f : D → D → Sto → Rs D) : D → D → Sto → Rs (List D) := fun d e st => match f d e st with
  | .ok (.rol ds) st' => .ok ds st'
  | _ => .bad
def iBinL (f : D → D → Sto → Rs D) (A B : IE) : IL := fun env st => (A env st).bind fun d st1 => (B env st1).bind fun e st2 => fLst f d e st2
theorem sf_add (ha : SI ct X E a A) (hb : SI ct X E b B) : SF ct X E (.BinOp a .Add b pos) (iBinL gAdd A B) := ⟨(pe_op op_cat ha.pe hb.pe).imp fun σ H Q ⟨m, env, st, re, rs, fin⟩ =>
  ⟨m, env, st, re, rs, fin.bind.imp fun m1 H1 d st1 g1 rs1 q x rx => ⟨m1, env, st1, re.mono g1, rs1, q.bind.imp fun m2 H2 e st2 g2 rs2 q2 y ry => by
    unfold fLst at q2
    split at q2
    · rename_i ds st' he
      unfold gAdd at he
      split at he
      · cases he
      · split at he <;> cases he
      · split at he <;> cases he
      · split at he
        · rename_i xs ys q3 q4
          split at he
          · rename_i hz
            cases he
            obtain ⟨p, vs, rfl, h1, r1⟩ := list_of rs2 (rx.mono g2) q3
            obtain ⟨p', ws, rfl, h2, r2⟩ := list_of rs2 ry q4
            rw [r1.length, r2.length] at hz
            exact ⟨p, p', vs, ws, rfl, rfl, h1, h2, by rw [sl_eq]; exact hz, q2.here rs2 _ (r1.append r2)⟩
          · cases he
        · cases he
    · exact q2.elim⟩⟩⟩
theorem sf_mul (ha : SI ct X E a A) (hb : SI ct X E b B) : SF ct X E (.BinOp a .Mult b pos) (iBinL gMul A B) := ⟨(pe_op op_rep ha.pe hb.pe).imp fun σ H Q ⟨m, env, st, re, rs, fin⟩ =>
  ⟨m, env, st, re, rs, fin.bind.imp fun m1 H1 d st1 g1 rs1 q x rx => ⟨m1, env, st1, re.mono g1, rs1, q.bind.imp fun m2 H2 e st2 g2 rs2 q2 y ry => by
    unfold fLst at q2
    split at q2
    · rename_i ds st' he
      unfold gMul at he
      split at he
      · split at he <;> cases he
      · split at he
        · rename_i xs q3
          split at he
          · rename_i hz
            cases he
            cases ry
            obtain ⟨p, vs, rfl, h1, r1⟩ := list_of rs2 (rx.mono g2) q3
            rw [r1.length] at hz
            exact ⟨p, _, vs, rfl, rfl, h1, hz.1, hz.2.1, by rw [sl_eq]; exact hz.2.2, q2.here rs2 _ (r1.flat _)⟩
          · cases he
        · cases he
      · cases he
    · exact q2.elim⟩⟩⟩

/-! ### subscripts, slices -/
theorem RVs.atI {K : PySem.W.Frag} {m : Mp} {H : Hp} {ds : List D} {vs : List V} {i : Int} {d : D} (r : RVs K m H ds vs) (e : L2.atI ds i = some d) : ∃ v, L2.atI vs i = some v ∧ RV K m H d v := by
  unfold L2.atI at e ⊢
  rw [← r.length]
  cases h : ixN ds.length i with
  | none => rw [h] at e; cases e
  | some j =>
    rw [h] at e
    exact r.get e
def gIx : D → D → Sto → Rs D := fun d e st => match e with
  | .int i => match d with
    | .str z => if z.length ≤ 16777216 then (match atI z.cps.toList i with
      | some c => .ok (.str ⟨#[c]⟩) st
      | none => .bad) else .bad
    | _ => match seqAt st d with
      | some xs => match atI xs i with
        | some v => .ok v st
        | none => .bad
      | none => .bad
  | _ => .bad
theorem ops_ix {g : G0} : OpS g E gIx (rIx g.K) := by
  intro m H st d e x y Q rs rx ry fin
  unfold gIx at fin
  split at fin
  · cases ry
    split at fin
    · cases rx
      split at fin
      · rename_i hz
        split at fin
        · rename_i c hc
          exact .inr (.inr ⟨_, _, c, rfl, rfl, by rw [sl_eq]; exact hz, hc, fin.here rs _ (.str _)⟩)
        · exact fin.elim
      · exact fin.elim
    · split at fin
      · rename_i xs hq
        split at fin
        · rename_i v hv
          obtain ⟨p, vs, rfl, hs, r⟩ := seq_of rs rx hq
          obtain ⟨w, hw, rw'⟩ := r.atI hv
          rcases hs with hs | hs
          · exact .inl ⟨p, vs, _, w, rfl, rfl, hs, hw, fin.here rs _ rw'⟩
          · exact .inr (.inl ⟨p, vs, _, w, rfl, rfl, hs, hw, fin.here rs _ rw'⟩)
        · exact fin.elim
      · exact fin.elim
  · exact fin.elim
theorem si_ix (ha : SI ct X E a A) (hb : SI ct X E b B) (hs : PlainIx b := by exact fun _ _ => rfl) : SI ct X E (.Subscript a b pos) (iBin gIx A B) :=
  ⟨(pe_ix ix_seq ha.pe hb.pe hs).imp fun _ _ _ h => bin_tI ops_ix h⟩
abbrev IO := Ev → Sto → Rs (Option Int)
variable (ct X E) in
structure SO (e : Option Expr) (I : IO) : Prop where
  po : PO X e (fun σ H Q => ∃ m env st, RE X.K m H env σ ∧ RS (gx ct X) m H st ∧ Fin (gx ct X) E m H (I env st) (fun _ H' o _ => Q o H'))
theorem _root_.L2.PO.imp {X : Cx} {e : Option Expr} {t t' : TO} (h : PO X e t) (f : ∀ σ H Q, t' σ H Q → t σ H Q) : PO X e t' := ⟨fun pins s σ H Q I q => h.run pins s σ H Q I (f σ H Q q)⟩
def oNone : IO := fun _ st => .ok none st
def oSome (A : IE) : IO := fun env st => (A env st).bind fun d st1 => match d with
  | .int i => .ok (some i) st1
  | _ => .bad
theorem so_none : SO ct X E none oNone := ⟨po_none.imp fun σ H Q ⟨m, env, st, re, rs, fin⟩ => Fin.here fin rs⟩
theorem so_some (h : SI ct X E e A) : SO ct X E (some e) (oSome A) := ⟨(po_some h.pe).imp fun σ H Q ⟨m, env, st, re, rs, fin⟩ => ⟨m, env, st, re, rs, fin.bind.imp fun m1 H1 d st1 g1 rs1 q x rx => by
  split at q
  · cases rx; exact ⟨_, rfl, q.here rs1⟩
  · exact q.elim⟩⟩
def cut {α : Type} (xs : List α) (lo hi : Option Int) : List α := (xs.drop (HT.sIx xs.length 0 lo)).take (HT.sIx xs.length xs.length hi - HT.sIx xs.length 0 lo)
theorem RVs.cut {K : PySem.W.Frag} {m : Mp} {H : Hp} {ds : List D} {vs : List V} (r : RVs K m H ds vs) (lo hi : Option Int) : RVs K m H (QI.cut ds lo hi) (cutV vs lo hi) := by
  unfold QI.cut cutV
  rw [← r.length]
  exact (r.drop _).take _
theorem cut_whole {α : Type} {xs : List α} {lo hi : Option Int} (h : HT.sIx xs.length 0 lo = 0 ∧ HT.sIx xs.length xs.length hi = xs.length) : cut xs lo hi = xs := by
  unfold cut
  rw [h.1, h.2]
  simp
def gSl (d : D) (lo hi : Option Int) (st : Sto) : Rs D := match d with
  | .tup xs => .ok (.tup (cut xs lo hi)) st
  | .str z => if z.length ≤ 16777216 then .ok (.str (cutS z lo hi)) st else .bad
  | _ => match seqAt st d with
    | some xs => .ok (.rol (cut xs lo hi)) st
    | none => .bad
def iSl (A : IE) (lo hi : IO) : IE := fun env st => (A env st).bind fun d st1 => (lo env st1).bind fun l st2 => (hi env st2).bind fun h st3 => gSl d l h st3
variable {lo hi : Option Expr} {Lo Hi : IO}
theorem seqL_of {g : G0} {m : Mp} {H : Hp} {st : Sto} {d : D} {x : V} {xs : List D} (rs : RS g m H st) (r : RV g.K m H d x) (hn : ∀ ys, d ≠ .tup ys) (e : seqAt st d = some xs) : ∃ p vs, x = .ref p ∧ SqL g.K H p vs ∧ RVs g.K m H xs vs := by
  cases d with
  | tup ys => exact absurd rfl (hn ys)
  | rol ys =>
    cases e
    cases r with
    | rol h1 h2 => exact ⟨_, _, rfl, h1.sq, h2⟩
  | scr ys =>
    cases e
    cases r with
    | scr h1 h2 => exact ⟨_, _, rfl, h1.sq, h2⟩
  | ref n =>
    cases r with
    | ref h1 =>
      unfold seqAt at e
      simp only at e
      split at e
      · rename_i ys q
        cases e
        obtain ⟨vs, h2, h3⟩ := rs.rc n _ _ h1 q
        exact ⟨_, vs, rfl, SqL.of h3, h2⟩
      · cases e
  | _ => cases e
theorem sl_ok {m : Mp} {H : Hp} {st : Sto} {d : D} {x : V} {l h : Option Int} {Q : VK} {g : G0} (rs : RS g m H st) (rx : RV g.K m H d x) (fin : Fin g E m H (gSl d l h st) (EndE g Q)) :
    rSlA g.K x l h H Q ∨ ((∃ z, x = .str z ∧ z.length ≤ sizeLine ∧ Q (.str (cutS z l h)) H) ∨ rSlL g.K x l h H Q) := by
  unfold gSl at fin
  split at fin
  · rename_i xs
    cases rx with
    | tup h1 h2 =>
      refine .inl ⟨_, _, rfl, h1.sq, fun w => ?_, fun w => tup_new rs (h2.cut _ _) fin⟩
      rw [← h2.length] at w
      rw [cut_whole w] at fin
      exact fin.here rs _ (.tup h1 h2)
  · cases rx
    split at fin
    · rename_i hz
      exact .inr (.inl ⟨_, rfl, by rw [sl_eq]; exact hz, fin.here rs _ (.str _)⟩)
    · exact fin.elim
  · rename_i h1 h2
    split at fin
    · rename_i xs hq
      obtain ⟨p, vs, rfl, hs, r⟩ := seqL_of rs rx h1 hq
      exact .inr (.inr ⟨p, vs, rfl, hs, rol_new rs (r.cut _ _) fin⟩)
    · exact fin.elim
theorem si_sl (ha : SI ct X E a A) (hl : SO ct X E lo Lo) (hh : SO ct X E hi Hi) : SI ct X E (.Subscript a (.Slice lo hi none p2) pos) (iSl A Lo Hi) :=
  ⟨(pe_slice (sl_tupA.or (sl_str.or sl_list)) ha.pe hl.po hh.po).imp fun σ H Q ⟨m, env, st, re, rs, fin⟩ => ⟨m, env, st, re, rs, fin.bind.imp fun m1 H1 d st1 g1 rs1 q x rx =>
    ⟨m1, env, st1, re.mono g1, rs1, q.bind.imp fun m2 H2 l st2 g2 rs2 q2 => ⟨m2, env, st2, (re.mono g1).mono g2, rs2, q2.bind.imp fun m3 H3 h st3 g3 rs3 q3 => sl_ok rs3 ((rx.mono g2).mono g3) q3⟩⟩⟩⟩

/-! ### calls of built-ins -/
def CallS (g : G0) (E : EK) (f : List D → Sto → Rs D) (r : List V → Hp → VK → Prop) : Prop :=
  ∀ (m : Mp) (H : Hp) (st : Sto) (ds : List D) (vs : List V) (Q : VK), RS g m H st → RVs g.K m H ds vs → Fin g E m H (f ds st) (EndE g Q) → r vs H Q
def CB (ct : String → Addr) (X : Cx) (E : EK) (v : Value) (f : List D → Sto → Rs D) : Prop := ∃ r, CallR X v r ∧ CallS (gx ct X) E f r
def iCallB (f : List D → Sto → Rs D) (L : IL) : IE := fun env st => (L env st).bind f
theorem callB_tI {f : List D → Sto → Rs D} {r : List V → Hp → VK → Prop} (hr : CallS (gx ct X) E f r) {σ : L2.St} {H : Hp} {Q : VK} (h : tI (gx ct X) E (iCallB f L) σ H Q) : tCB r (tIA (gx ct X) E L) σ H Q := by
  obtain ⟨m, env, st, re, rs, fin⟩ := h
  exact ⟨m, env, st, re, rs, fin.bind.imp fun m1 H1 ds st1 g1 rs1 q vs rv => hr m1 H1 st1 ds vs Q rs1 rv q⟩
theorem si_callB {id : String} {f : List D → Sto → Rs D} {x : Str} {p : Pos} (hc : CB ct X E (.builtin id) f) (hg : Gl X x) (hm : X.mg x = none) (hv : bootBuiltins x = some (.builtin id)) (ha : SA ct X E (e :: es) L) (hn : x ≠ "__name__" := by decide) (hdb : (x == ("__debug__" : Str)) = false := by decide)
    (he : starEach (e :: es) X.env = (false, eval e X.env) :: starEach es X.env := by rfl) (hpl : (backTo pos (starEach es X.env)).any (·.1) = false := by rfl) : SI ct X E (.Call (.Name x p) (e :: es) [] pos) (iCallB f L) := by
  obtain ⟨r, hc, hr⟩ := hc
  exact ⟨(pe_callB hc hg hm hv ha.pa hn hdb he hpl).imp fun _ _ _ h => callB_tI hr h⟩
theorem si_callTy {T : String} {f : List D → Sto → Rs D} {x : Str} {p : Pos} (hc : CB ct X E (.type T) f) (hg : Gl X x) (hm : X.mg x = none) (hv : bootBuiltins x = some (.type T)) (ha : SA ct X E (e :: es) L) (hn : x ≠ "__name__" := by decide) (hdb : (x == ("__debug__" : Str)) = false := by decide)
    (he : starEach (e :: es) X.env = (false, eval e X.env) :: starEach es X.env := by rfl) (hpl : (backTo pos (starEach es X.env)).any (·.1) = false := by rfl) : SI ct X E (.Call (.Name x p) (e :: es) [] pos) (iCallB f L) := by
  obtain ⟨r, hc, hr⟩ := hc
  exact ⟨(pe_callTy hc hg hm hv ha.pa hn hdb he hpl).imp fun _ _ _ h => callB_tI hr h⟩
def gLen : List D → Sto → Rs D
  | [.str z], st => if z.length ≤ 16777216 then .ok (.int z.length) st else .bad
  | [d], st => match seqAt st d with
    | some xs => .ok (.int xs.length) st
    | none => .bad
  | _, _ => .bad
theorem cb_len : CB ct X E (.builtin "len") gLen := ⟨_, call_len_str.or call_len_seq, fun m H st ds vs Q rs rv fin => by
  unfold gLen at fin
  split at fin
  · cases rv with
    | cons r1 r2 =>
      cases r2; cases r1
      split at fin
      · rename_i hz
        exact .inl ⟨_, rfl, by rw [sl_eq]; exact hz, fin.here rs _ (.int _)⟩
      · exact fin.elim
  · cases rv with
    | cons r1 r2 =>
      cases r2
      split at fin
      · rename_i xs hq
        obtain ⟨p, ws, rfl, hs, r⟩ := seq_of rs r1 hq
        exact .inr ⟨p, ws, rfl, hs, by rw [← r.length]; exact fin.here rs _ (.int _)⟩
      · exact fin.elim
  · exact fin.elim⟩
def gAbs : List D → Sto → Rs D
  | [.int i], st => .ok (.int (if i < 0 then -i else i)) st
  | _, _ => .bad
theorem cb_abs : CB ct X E (.builtin "abs") gAbs := ⟨_, call_abs, fun m H st ds vs Q rs rv fin => by
  unfold gAbs at fin
  split at fin
  · cases rv with
    | cons r1 r2 => cases r2; cases r1; exact ⟨_, rfl, fin.here rs _ (.int _)⟩
  · exact fin.elim⟩
def gInt : List D → Sto → Rs D
  | [.int i], st => .ok (.int i) st
  | [.bl k], st => .ok (.int (if k then 1 else 0)) st
  | _, _ => .bad
theorem cb_int : CB ct X E (.type "int") gInt := ⟨_, call_int1, fun m H st ds vs Q rs rv fin => by
  unfold gInt at fin
  split at fin
  · cases rv with
    | cons r1 r2 => cases r2; cases r1; exact .inl ⟨_, rfl, fin.here rs _ (.int _)⟩
  · cases rv with
    | cons r1 r2 => cases r2; cases r1; exact .inr ⟨_, rfl, fin.here rs _ (.int _)⟩
  · exact fin.elim⟩
def ints? : List D → Option (List Int)
  | [] => some []
  | .int i :: ds => match ints? ds with
    | some ns => some (i :: ns)
    | none => none
  | _ :: _ => none
theorem ints_of {K : PySem.W.Frag} {m : Mp} {H : Hp} : ∀ {ds : List D} {vs : List V} {ns : List Int}, RVs K m H ds vs → ints? ds = some ns → vs = ns.map V.int
  | [], _, _, r, e => by cases r; cases e; rfl
  | d :: ds, _, _, r, e => by
    cases r with
    | cons r1 r2 =>
      cases d with
      | int i =>
        cases r1
        simp only [ints?] at e
        split at e
        · rename_i ns q
          cases e
          rw [ints_of r2 q]; rfl
        · cases e
      | _ => simp [ints?] at e
@[simp] theorem ints_map : ∀ ns : List Int, ints? (ns.map D.int) = some ns
  | [] => rfl
  | i :: ns => by simp [ints?, ints_map ns]
def maxL : List Int → Int
  | [] => 0
  | [i] => i
  | i :: ns => max i (maxL ns)
def minL : List Int → Int
  | [] => 0
  | [i] => i
  | i :: ns => min i (minL ns)
theorem maxL_is : ∀ {ns : List Int}, 0 < ns.length → ∀ {m : Int}, m ∈ ns → (∀ y, y ∈ ns → y ≤ m) → m = maxL ns
  | [], h, _, _, _ => absurd h (by simp)
  | [i], _, m, h1, h2 => by simp at h1; exact h1
  | i :: j :: ns, _, m, h1, h2 => by
    show m = max i (maxL (j :: ns))
    have hi := h2 i (by simp)
    have key : ∀ k, k ∈ (j :: ns) → k ≤ maxL (j :: ns) := by
      have : ∀ (l : List Int) (k : Int), k ∈ l → k ≤ maxL l := by
        intro l
        induction l with
        | nil => intro k hk; cases hk
        | cons a l ih =>
          intro k hk
          cases l with
          | nil => simp at hk; simp [maxL, hk]
          | cons b l =>
            show k ≤ max a (maxL (b :: l))
            rcases List.mem_cons.mp hk with rfl | hk
            · omega
            · have := ih k hk; omega
      exact this _
    have mem : maxL (j :: ns) ∈ (j :: ns) := by
      have : ∀ (l : List Int), 0 < l.length → maxL l ∈ l := by
        intro l
        induction l with
        | nil => intro h; simp at h
        | cons a l ih =>
          intro _
          cases l with
          | nil => simp [maxL]
          | cons b l =>
            show max a (maxL (b :: l)) ∈ _
            by_cases q : a ≤ maxL (b :: l)
            · rw [Int.max_eq_right q]; exact List.mem_cons_of_mem _ (ih (by simp))
            · rw [Int.max_eq_left (by omega)]; exact List.mem_cons_self
      exact this _ (by simp)
    have h3 := h2 _ (List.mem_cons_of_mem i mem)
    rcases List.mem_cons.mp h1 with rfl | h1
    · omega
    · have := key m h1; omega
theorem minL_is {ns : List Int} (h : 0 < ns.length) {m : Int} (h1 : m ∈ ns) (h2 : ∀ y, y ∈ ns → m ≤ y) : m = minL ns := by
  have e : ∀ l : List Int, minL l = - maxL (l.map fun i => -i) := by
    intro l
    induction l with
    | nil => rfl
    | cons a l ih =>
      cases l with
      | nil => simp [minL, maxL]
      | cons b l =>
        show min a (minL (b :: l)) = - max (-a) (maxL ((b :: l).map fun i => -i))
        rw [ih]; omega
  have := maxL_is (ns := ns.map fun i => -i) (by simpa using h) (m := -m) (List.mem_map.mpr ⟨m, h1, rfl⟩) (fun y hy => by
    obtain ⟨z, hz, rfl⟩ := List.mem_map.mp hy
    have := h2 z hz; omega)
  rw [e]; omega
def gMax : List D → Sto → Rs D
  | [.int i, .int j], st => .ok (.int (if j > i then j else i)) st
  | [d], st => match listAt st d with
    | some xs => match ints? xs with
      | some ns => if 0 < ns.length then .ok (.int (maxL ns)) st else .bad
      | none => .bad
    | none => .bad
  | _, _ => .bad
def gMin : List D → Sto → Rs D
  | [.int i, .int j], st => .ok (.int (if j < i then j else i)) st
  | [d], st => match listAt st d with
    | some xs => match ints? xs with
      | some ns => if 0 < ns.length then .ok (.int (minL ns)) st else .bad
      | none => .bad
    | none => .bad
  | _, _ => .bad
theorem cb_max (hc : X.calm = true) : CB ct X E (.builtin "max") gMax := ⟨_, (call_max2 hc).or (cr_max hc), fun m H st ds vs Q rs rv fin => by
  unfold gMax at fin
  split at fin
  · cases rv with
    | cons r1 r2 =>
      cases r2 with
      | cons r2 r3 => cases r3; cases r1; cases r2; exact .inl ⟨_, _, rfl, fin.here rs _ (.int _)⟩
  · cases rv with
    | cons r1 r2 =>
      cases r2
      split at fin
      · rename_i xs hq
        split at fin
        · rename_i ns hn
          split at fin
          · rename_i hz
            obtain ⟨p, ws, rfl, hs, r⟩ := list_of rs r1 hq
            have e := ints_of r hn
            subst e
            exact .inr ⟨p, ns, rfl, SqL.of hs, hz, fun k h1 h2 => by rw [maxL_is hz h1 h2]; exact fin.here rs _ (.int _)⟩
          · exact fin.elim
        · exact fin.elim
      · exact fin.elim
  · exact fin.elim⟩
theorem cb_min (hc : X.calm = true) : CB ct X E (.builtin "min") gMin := ⟨_, (call_min2 hc).or (cr_min hc), fun m H st ds vs Q rs rv fin => by
  unfold gMin at fin
  split at fin
  · cases rv with
    | cons r1 r2 =>
      cases r2 with
      | cons r2 r3 => cases r3; cases r1; cases r2; exact .inl ⟨_, _, rfl, fin.here rs _ (.int _)⟩
  · cases rv with
    | cons r1 r2 =>
      cases r2
      split at fin
      · rename_i xs hq
        split at fin
        · rename_i ns hn
          split at fin
          · rename_i hz
            obtain ⟨p, ws, rfl, hs, r⟩ := list_of rs r1 hq
            have e := ints_of r hn
            subst e
            exact .inr ⟨p, ns, rfl, SqL.of hs, hz, fun k h1 h2 => by rw [minL_is hz h1 h2]; exact fin.here rs _ (.int _)⟩
          · exact fin.elim
        · exact fin.elim
      · exact fin.elim
  · exact fin.elim⟩
def gSum : List D → Sto → Rs D
  | [d], st => match listAt st d with
    | some xs => match ints? xs with
      | some ns => .ok (.int ns.sum) st
      | none => .bad
    | none => .bad
  | _, _ => .bad
theorem cb_sum (hc : X.calm = true) : CB ct X E (.builtin "sum") gSum := ⟨_, cr_sum hc, fun m H st ds vs Q rs rv fin => by
  unfold gSum at fin
  split at fin
  · cases rv with
    | cons r1 r2 =>
      cases r2
      split at fin
      · rename_i xs hq
        split at fin
        · rename_i ns hn
          obtain ⟨p, ws, rfl, hs, r⟩ := list_of rs r1 hq
          have e := ints_of r hn
          subst e
          exact ⟨p, ns, rfl, SqL.of hs, fin.here rs _ (.int _)⟩
        · exact fin.elim
      · exact fin.elim
  · exact fin.elim⟩
def gTuple : List D → Sto → Rs D
  | [d], st => match seqAt st d with
    | some xs => .ok (.tup xs) st
    | none => .bad
  | _, _ => .bad
theorem cb_tuple : CB ct X E (.type "tuple") gTuple := ⟨_, call_tuple_of, fun m H st ds vs Q rs rv fin => by
  unfold gTuple at fin
  split at fin
  · rename_i d
    cases rv with
    | cons r1 r2 =>
      cases r2
      split at fin
      · rename_i xs hq
        by_cases ht : ∃ ys, d = .tup ys
        · obtain ⟨ys, rfl⟩ := ht
          cases hq
          cases r1 with
          | tup h1 h2 => exact ⟨_, _, rfl, .inr ⟨h1.sq, fin.here rs _ (.tup h1 h2)⟩⟩
        · obtain ⟨p, ws, rfl, hs, r⟩ := seqL_of rs r1 (fun ys z => ht ⟨ys, z⟩) hq
          exact ⟨p, ws, rfl, .inl ⟨hs, tup_new rs r fin⟩⟩
      · exact fin.elim
  · exact fin.elim⟩
/-- list(x) -/
def iListOf (L : IL) : IL := fun env st => (L env st).bind fun ds st1 => match ds with
  | [d] => match seqAt st1 d with
    | some xs => .ok xs st1
    | none => .bad
  | _ => .bad
theorem sf_list {p : Pos} (hg : Gl X "list") (hm : X.mg "list" = none) (ha : SA ct X E [a] L) (he : starEach [a] X.env = (false, eval a X.env) :: starEach [] X.env := by rfl) : SF ct X E (.Call (.Name "list" p) [a] [] pos) (iListOf L) :=
  ⟨(pe_callTy call_list_of hg hm boot_list ha.pa (by decide) (by decide) he (by rfl)).imp fun σ H Q ⟨m, env, st, re, rs, fin⟩ => ⟨m, env, st, re, rs, fin.bind.imp fun m1 H1 ds st1 g1 rs1 q vs rv => by
    split at q
    · cases rv with
      | cons r1 r2 =>
        cases r2
        split at q
        · rename_i xs hq
          obtain ⟨p, ws, rfl, hs, r⟩ := seq_of rs1 r1 hq
          exact ⟨p, ws, rfl, hs, q.here rs1 ws r⟩
        · exact q.elim
    · exact q.elim⟩⟩
end
end QI

namespace QI
open PySem PySem.Spec PyProof.Rows L2

/-! ### statements -/
def EndS (g : G0) (Dn : Ends) : Mp → Hp → Fl → Sto → Prop := fun m' H' fl _ => match fl with
  | .nx env' => ∀ σ', RE g.K m' H' env' σ' → Dn.nx σ' H'
  | .rt d => ∀ v, RV g.K m' H' d v → Dn.rt v H'
  | .bk env' => ∀ σ', RE g.K m' H' env' σ' → Dn.bk σ' H'
  | .ct env' => ∀ σ', RE g.K m' H' env' σ' → Dn.ct σ' H'
def tS (g : G0) (E : EK) (S : IS) : TS := fun Dn σ H => ∃ m env st, RE g.K m H env σ ∧ RS g m H st ∧ Fin g E m H (S env st) (EndS g Dn)
section
variable (ct : String → Addr) (X : Cx) (E : EK)
structure SS (st : Stmt) (S : IS) : Prop where
  ps : PS X st (tS (gx ct X) E S)
structure SSs (st : List Stmt) (S : IS) : Prop where
  pss : PSs X st (tS (gx ct X) E S)
end
theorem _root_.L2.PS.imp {X : Cx} {e : Stmt} {t t' : TS} (h : PS X e t) (f : ∀ D σ H, t' D σ H → t D σ H) : PS X e t' := ⟨fun pins s σ H D I q => h.run pins s σ H D I (f D σ H q)⟩
theorem _root_.L2.PSs.imp {X : Cx} {e : List Stmt} {t t' : TS} (h : PSs X e t) (f : ∀ D σ H, t' D σ H → t D σ H) : PSs X e t' := ⟨fun pins s σ H D I q => h.run pins s σ H D I (f D σ H q)⟩
theorem _root_.L2.PSs.both {X : Cx} {e : List Stmt} {t t' t2 : TS} (h : PSs X e t) (h' : PSs X e t') (f : ∀ D σ H, t2 D σ H → t D σ H ∨ t' D σ H) : PSs X e t2 := ⟨fun pins s σ H D I q => (f D σ H q).elim (h.run pins s σ H D I) (h'.run pins s σ H D I)⟩
theorem _root_.L2.PS.both {X : Cx} {e : Stmt} {t t' t2 : TS} (h : PS X e t) (h' : PS X e t') (f : ∀ D σ H, t2 D σ H → t D σ H ∨ t' D σ H) : PS X e t2 := ⟨fun pins s σ H D I q => (f D σ H q).elim (h.run pins s σ H D I) (h'.run pins s σ H D I)⟩

def sNil : IS := fun env st => .ok (.nx env) st
def sSeq (S T : IS) : IS := fun env st => (S env st).bind fun fl st1 => match fl with
  | .nx env1 => T env1 st1
  | fl => .ok fl st1
def sBreak : IS := fun env st => .ok (.bk env) st
def sCont : IS := fun env st => .ok (.ct env) st
def sRet (A : IE) : IS := fun env st => (A env st).bind fun d st1 => .ok (.rt d) st1
def sRetN : IS := fun _ st => .ok (.rt .non) st
def sDrop (A : IE) : IS := fun env st => (A env st).bind fun _ st1 => .ok (.nx env) st1
def sIf (T : IT) (S U : IS) : IS := fun env st => (T env st).bind fun b st1 => if b = true then S env st1 else U env st1
def sSet (i : Nat) (A : IE) : IS := fun env st => (A env st).bind fun d st1 => .ok (.nx (env.set i (some d))) st1
def sNever : IS := fun _ _ => .bad

section
variable {ct : String → Addr} {X : Cx} {E : EK} {pos p2 : Pos} {a b c e : Expr} {es : List Expr} {A B C : IE} {L : IL} {T : IT} {s : Stmt} {ss ss' : List Stmt} {S U : IS}
theorem ss_nil : SSs ct X E [] sNil := ⟨pss_nil.imp fun Dn σ H ⟨m, env, st, re, rs, fin⟩ => Fin.here fin rs σ re⟩
theorem ss_cons (h1 : SS ct X E s S) (h2 : SSs ct X E ss U) : SSs ct X E (s :: ss) (sSeq S U) :=
  ⟨(pss_cons h1.ps h2.pss).imp fun Dn σ H ⟨m, env, st, re, rs, fin⟩ => ⟨m, env, st, re, rs, fin.bind.imp fun m1 H1 fl st1 g1 rs1 q => by
    cases fl with
    | nx env1 => exact fun σ' re' => ⟨m1, env1, st1, re', rs1, q⟩
    | rt d => exact Fin.here (E := E) (show Fin _ E m1 H1 (.ok (.rt d) st1) (EndS _ Dn) from q) rs1
    | bk e1 => exact Fin.here (E := E) (show Fin _ E m1 H1 (.ok (.bk e1) st1) (EndS _ Dn) from q) rs1
    | ct e1 => exact Fin.here (E := E) (show Fin _ E m1 H1 (.ok (.ct e1) st1) (EndS _ Dn) from q) rs1⟩⟩
theorem ss_one (h1 : SS ct X E s S) : SSs ct X E [s] S := ⟨pss_one h1.ps⟩
theorem s_pass : SS ct X E (.Pass pos) sNil := ⟨ps_pass.imp fun Dn σ H ⟨m, env, st, re, rs, fin⟩ => Fin.here fin rs σ re⟩
theorem s_break : SS ct X E (.Break pos) sBreak := ⟨ps_break.imp fun Dn σ H ⟨m, env, st, re, rs, fin⟩ => Fin.here fin rs σ re⟩
theorem s_cont : SS ct X E (.Continue pos) sCont := ⟨ps_continue.imp fun Dn σ H ⟨m, env, st, re, rs, fin⟩ => Fin.here fin rs σ re⟩
theorem s_never : SS ct X E s sNever := ⟨ps_never.imp fun Dn σ H ⟨m, env, st, re, rs, fin⟩ => fin⟩
theorem ss_never : SSs ct X E ss sNever := ⟨pss_never.imp fun Dn σ H ⟨m, env, st, re, rs, fin⟩ => fin⟩
theorem s_ret (h : SI ct X E e A) : SS ct X E (.Return (some e) pos) (sRet A) := ⟨(ps_ret h.pe).imp fun Dn σ H ⟨m, env, st, re, rs, fin⟩ => ⟨m, env, st, re, rs, fin.bind.imp fun m1 H1 d st1 g1 rs1 q v rv => q.here rs1 v rv⟩⟩
theorem s_retN : SS ct X E (.Return none pos) sRetN := ⟨ps_retN.imp fun Dn σ H ⟨m, env, st, re, rs, fin⟩ => Fin.here fin rs .non .non⟩
theorem s_expr (h : SI ct X E e A) (hs : swapsWith e none pos.line X.env = pure false := by rfl) : SS ct X E (.Expr e pos) (sDrop A) :=
  ⟨(ps_expr h.pe hs).imp fun Dn σ H ⟨m, env, st, re, rs, fin⟩ => ⟨m, env, st, re, rs, fin.bind.imp fun m1 H1 d st1 g1 rs1 q v rv => q.here rs1 σ (re.mono g1)⟩⟩
theorem s_if (hc : SB ct X E c T) (ha : SSs ct X E ss S) (hb : SSs ct X E ss' U) : SS ct X E (.If c ss ss' pos) (sIf T S U) :=
  ⟨(ps_if hc.pt ha.pss hb.pss).imp fun Dn σ H ⟨m, env, st, re, rs, fin⟩ => ⟨m, env, st, re, rs, fin.bind.imp fun m1 H1 b st1 g1 rs1 q => by
    cases b with
    | true => rw [if_pos rfl] at q ⊢; exact ⟨m1, env, st1, re.mono g1, rs1, q⟩
    | false => rw [if_neg Bool.false_ne_true] at q ⊢; exact ⟨m1, env, st1, re.mono g1, rs1, q⟩⟩⟩
theorem s_set (i : Nat) {x : Str} {p' : Pos} (hN : X.N.Nodup) (h : SI ct X E e A) (hi : X.N[i]? = some x := by rfl) (hx : Loc X.env.scope x := by first | exact .inl rfl | exact .inr rfl) (hs : swapsWith e (some (.Name x p')) pos.line X.env = pure false := by rfl)
    (hf : X.fn x = true ∨ X.env.scope.names.lookup x = some .local := by first | exact .inl rfl | exact .inr rfl) : SS ct X E (.Assign [.Name x p'] e pos) (sSet i A) :=
  ⟨(ps_set (i := i) hN hi hx h.pe hs hf).imp fun Dn σ H ⟨m, env, st, re, rs, fin⟩ => ⟨m, env, st, re, rs, fin.bind.imp fun m1 H1 d st1 g1 rs1 q v rv => q.here rs1 _ ((re.mono g1).set rv i)⟩⟩
/-- a, b = x, y: local names -/
def sPar (is : List Nat) (L : IL) : IS := fun env st => (L env st).bind fun ds st1 => if ds.length = is.length then .ok (.nx ((is.zip ds).foldl (fun e p => e.set p.1 (some p.2)) env)) st1 else .bad
theorem s_par2 (i j : Nat) {x y : Str} {px py pt : Pos} {kt k2 pt2} (hc : X.calm = true) (hN : X.N.Nodup) (h : SA ct X E [a, b] L) (hi : X.N[i]? = some x := by rfl) (hj : X.N[j]? = some y := by rfl) (hij : i ≠ j := by decide)
    (hx : X.env.scope.names.lookup x = some .local := by rfl) (hy : X.env.scope.names.lookup y = some .local := by rfl)
    (hw : swappedStores [.Tuple [.Name x px, .Name y py] kt pt] (.Tuple [a, b] k2 pt2) X.env = pure (some [x, y]) := by rfl)
    (hs : swapsWithSole [.Tuple [.Name x px, .Name y py] kt pt] (.Tuple [a, b] k2 pt2) pos.line X.env = pure false := by rfl) :
    SS ct X E (.Assign [.Tuple [.Name x px, .Name y py] kt pt] (.Tuple [a, b] k2 pt2) pos) (sPar [i, j] L) :=
  ⟨(ps_par hc hN hi hj hij hx hy h.pa hw hs).imp fun Dn σ H ⟨m, env, st, re, rs, fin⟩ => ⟨m, env, st, re, rs, fin.bind.imp fun m1 H1 ds st1 g1 rs1 q vs rv => by
    split at q
    · rename_i hl
      match ds, hl with
      | [d, e], _ =>
        cases rv with
        | cons r1 r2 =>
          cases r2 with
          | cons r2 r3 =>
            cases r3
            exact ⟨_, _, rfl, q.here rs1 _ (((re.mono g1).set r1 i).set r2 j)⟩
    · exact q.elim⟩⟩
theorem s_par3 (i j l : Nat) {x y z : Str} {px py pz pt : Pos} {kt k2 pt2} (hc : X.calm = true) (hN : X.N.Nodup) (h : SA ct X E [a, b, c] L) (hi : X.N[i]? = some x := by rfl) (hj : X.N[j]? = some y := by rfl) (hl : X.N[l]? = some z := by rfl) (hij : i ≠ j := by decide) (hil : i ≠ l := by decide) (hjl : j ≠ l := by decide)
    (hx : X.env.scope.names.lookup x = some .local := by rfl) (hy : X.env.scope.names.lookup y = some .local := by rfl) (hz : X.env.scope.names.lookup z = some .local := by rfl)
    (hw : swappedStores [.Tuple [.Name x px, .Name y py, .Name z pz] kt pt] (.Tuple [a, b, c] k2 pt2) X.env = pure (some [x, y, z]) := by rfl)
    (hs : swapsWithSole [.Tuple [.Name x px, .Name y py, .Name z pz] kt pt] (.Tuple [a, b, c] k2 pt2) pos.line X.env = pure false := by rfl) :
    SS ct X E (.Assign [.Tuple [.Name x px, .Name y py, .Name z pz] kt pt] (.Tuple [a, b, c] k2 pt2) pos) (sPar [i, j, l] L) :=
  ⟨(ps_par3 hc hN hi hj hl hij hil hjl hx hy hz h.pa hw hs).imp fun Dn σ H ⟨m, env, st, re, rs, fin⟩ => ⟨m, env, st, re, rs, fin.bind.imp fun m1 H1 ds st1 g1 rs1 q vs rv => by
    split at q
    · rename_i hl
      match ds, hl with
      | [d, e, f], _ =>
        cases rv with
        | cons r1 r2 =>
          cases r2 with
          | cons r2 r3 =>
            cases r3 with
            | cons r3 r4 =>
              cases r4
              exact ⟨_, _, _, rfl, q.here rs1 _ ((((re.mono g1).set r1 i).set r2 j).set r3 l)⟩
    · exact q.elim⟩⟩
end

/-! ### patterns: names, tuples of patterns -/
inductive Pt where
  | nm (i : Nat) | tp (ps : List Pt)
mutual
def Pt.put : Pt → D → Ev → Option Ev
  | .nm i, d, env => some (env.set i (some d))
  | .tp ps, d, env => match d with
    | .tup ds => Pt.puts ps ds env
    | _ => none
def Pt.puts : List Pt → List D → Ev → Option Ev
  | [], [], env => some env
  | p :: ps, d :: ds, env => match Pt.put p d env with
    | some env' => Pt.puts ps ds env'
    | none => none
  | _, _, _ => none
end
mutual
def Pt.slots : Pt → List Nat
  | .nm i => [i]
  | .tp ps => Pt.slotsAll ps
def Pt.slotsAll : List Pt → List Nat
  | [] => []
  | p :: ps => Pt.slots p ++ Pt.slotsAll ps
end
mutual
def Pt.t (K : PySem.W.Frag) : Pt → TG
  | .nm i => gName i
  | .tp ps => gTup K ps.length (Pt.ts K ps)
def Pt.ts (K : PySem.W.Frag) : List Pt → TGs
  | [] => gNil
  | p :: ps => gCons (Pt.t K p) (Pt.ts K ps)
end
theorem wipe_set_in {σ : L2.St} {i : Nat} {o : Option V} : ∀ {vs : List Nat}, i ∈ vs → wipe (σ.set i o) vs = wipe σ vs
  | v :: vs, h => by
    show (wipe (σ.set i o) vs).set v none = (wipe σ vs).set v none
    by_cases hv : i ∈ vs
    · rw [wipe_set_in hv]
    · have e : v = i := by
        rcases List.mem_cons.mp h with z | z
        · exact z.symm
        · exact absurd z hv
      subst e
      have comm : ∀ (l : List Nat), v ∉ l → wipe (σ.set v o) l = (wipe σ l).set v o := by
        intro l
        induction l with
        | nil => intro _; rfl
        | cons x l ih =>
          intro hx
          simp only [List.mem_cons, not_or] at hx
          show (wipe (σ.set v o) l).set x none = ((wipe σ l).set x none).set v o
          rw [ih hx.2, List.set_comm _ _ hx.1]
      rw [comm vs hv, List.set_set]
section
variable {K : PySem.W.Frag} {m : Mp} {H : Hp}
mutual
theorem Pt.t_ok : ∀ (p : Pt) {d : D} {v : V} {env env' : Ev} {σ : L2.St} {g : G0} {Q : L2.St → Hp → Prop}, RE g.K m H env σ → RV g.K m H d v → p.put d env = some env' →
    (∀ σ', RE g.K m H env' σ' → (∀ vs : List Nat, (∀ i ∈ p.slots, i ∈ vs) → wipe σ' vs = wipe σ vs) → Q σ' H) → p.t g.K v σ H Q
  | .nm i, d, v, env, env', σ, g, Q, re, rv, e, h => by
    simp only [Pt.put, Option.some.injEq] at e
    subst e
    exact h _ (re.set rv i) fun vs hv => wipe_set_in (hv i (by simp [Pt.slots]))
  | .tp ps, d, v, env, env', σ, g, Q, re, rv, e, h => by
    cases d with
    | tup ds =>
      simp only [Pt.put] at e
      cases rv with
      | tup h1 h2 => exact ⟨_, _, rfl, h1.sq, by rw [← h2.length, Pt.puts_len ps e], Pt.ts_ok ps re h2 e (by simpa [Pt.slots] using h)⟩
    | _ => simp [Pt.put] at e
theorem Pt.ts_ok : ∀ (ps : List Pt) {ds : List D} {vs : List V} {env env' : Ev} {σ : L2.St} {g : G0} {Q : L2.St → Hp → Prop}, RE g.K m H env σ → RVs g.K m H ds vs → Pt.puts ps ds env = some env' →
    (∀ σ', RE g.K m H env' σ' → (∀ vs : List Nat, (∀ i ∈ Pt.slotsAll ps, i ∈ vs) → wipe σ' vs = wipe σ vs) → Q σ' H) → Pt.ts g.K ps vs σ H Q
  | [], ds, vs, env, env', σ, g, Q, re, rv, e, h => by
    cases ds with
    | nil =>
      cases rv
      simp only [Pt.puts, Option.some.injEq] at e
      subst e
      exact ⟨rfl, h _ re fun _ _ => rfl⟩
    | cons d ds => simp [Pt.puts] at e
  | p :: ps, ds, vs, env, env', σ, g, Q, re, rv, e, h => by
    cases ds with
    | nil => simp [Pt.puts] at e
    | cons d ds =>
      cases rv with
      | cons r1 r2 =>
        simp only [Pt.puts] at e
        split at e
        · rename_i env1 q
          refine ⟨_, _, rfl, Pt.t_ok p re r1 q fun σ1 re1 w1 => Pt.ts_ok ps re1 r2 e fun σ2 re2 w2 => h σ2 re2 fun vs hv => ?_⟩
          rw [w2 vs fun i hi => hv i (by simp [Pt.slotsAll, hi]), w1 vs fun i hi => hv i (by simp [Pt.slotsAll, hi])]
        · cases e
theorem Pt.puts_len : ∀ (ps : List Pt) {ds : List D} {env env' : Ev}, Pt.puts ps ds env = some env' → ds.length = ps.length
  | [], ds, env, env', e => by
    cases ds with
    | nil => rfl
    | cons d ds => simp [Pt.puts] at e
  | p :: ps, ds, env, env', e => by
    cases ds with
    | nil => simp [Pt.puts] at e
    | cons d ds =>
      simp only [Pt.puts] at e
      split at e
      · simp [Pt.puts_len ps e]
      · cases e
end
end
/-- a target that is a pattern -/
structure SP (X : Cx) (tg : Expr) (p : Pt) : Prop where
  pg : PG X tg (p.t X.K)
structure SPs (X : Cx) (tgs : List Expr) (ps : List Pt) : Prop where
  pgs : PGs X tgs (Pt.ts X.K ps)
section
variable {ct : String → Addr} {X : Cx} {E : EK} {pos p2 : Pos} {a b c e tg : Expr} {es : List Expr} {A B C : IE} {L : IL} {T : IT} {s : Stmt} {ss ss' : List Stmt} {S U : IS} {p : Pt} {ps : List Pt}
theorem sp_nm (i : Nat) {x : Str} (hN : X.N.Nodup) (hi : X.N[i]? = some x := by rfl) (hx : Loc X.env.scope x := by first | exact .inl rfl | exact .inr rfl) (hf : X.fn x = true ∨ X.env.scope.names.lookup x = some .local := by first | exact .inl rfl | exact .inr rfl) : SP X (.Name x pos) (.nm i) := ⟨by
  have q := pg_name (X := X) (pos := pos) (i := i) hN hi hx hf
  simpa only [Pt.t] using q⟩
theorem sps_nil : SPs X [] [] := ⟨by simpa only [Pt.ts] using pgs_nil⟩
theorem sps_cons (h : SP X e p) (h2 : SPs X es ps) (hs : (assignEach (e :: es) X.env).map (·.2) = assign e X.env :: (assignEach es X.env).map (·.2) := by rfl) : SPs X (e :: es) (p :: ps) := ⟨by
  have q := pgs_cons h.pg h2.pgs hs
  simpa only [Pt.ts] using q⟩
theorem sp_tp {k : Nat} (hc : X.calm = true) (h : SPs X es ps) (hn : (assignEach es X.env).length = ps.length := by rfl) (hst : (assignEach es X.env).findIdx? (·.1) = none := by rfl) : SP X (.Tuple es k pos) (.tp ps) := ⟨by
  have q := pg_tup (k := k) (pos := pos) hc h.pgs hn hst
  simpa only [Pt.t] using q⟩
/-- pattern = value -/
def sAsg (p : Pt) (A : IE) : IS := fun env st => (A env st).bind fun d st1 => match p.put d env with
  | some env1 => .ok (.nx env1) st1
  | none => .bad
theorem s_asg (h : SI ct X E e A) (hp : SP X tg p) (hs : swapsWithSole [tg] e pos.line X.env = pure false := by rfl) (hw : swappedStores [tg] e X.env = pure none := by rfl)
    (h1 : (assignEach [tg] X.env).map (·.2) = [assign tg X.env] := by rfl) : SS ct X E (.Assign [tg] e pos) (sAsg p A) :=
  ⟨(ps_asg h.pe hp.pg hs hw h1).imp fun Dn σ H ⟨m, env, st, re, rs, fin⟩ => ⟨m, env, st, re, rs, fin.bind.imp fun m1 H1 d st1 g1 rs1 q v rv => by
    split at q
    · rename_i env1 he
      exact Pt.t_ok (g := gx ct X) p (re.mono g1) rv he fun σ' re' _ => q.here rs1 σ' re'
    · exact q.elim⟩⟩

/-! ### while -/
def whileGo (T : IT) (S : IS) : Nat → Ev → Sto → Rs Fl
  | 0, _, _ => .bad
  | n + 1, env, st => (T env st).bind fun b st1 => if b = true then (S env st1).bind fun fl st2 => match fl with
      | .nx e => whileGo T S n e st2
      | .ct e => whileGo T S n e st2
      | .bk e => .ok (.nx e) st2
      | .rt d => .ok (.rt d) st2
    else .ok (.nx env) st1
def sWhile (n : Nat) (T : IT) (S : IS) : IS := fun env st => whileGo T S n env st
theorem s_while (n : Nat) (hp : PassesOwn (model X.prog X.w) X.A X.env X.xe) (hc : SB ct X E c T) (hb : SSs ct X E ss S) : SS ct X E (.While c ss [] pos) (sWhile n T S) :=
  ⟨(ps_while hp hc.pt hb.pss).imp fun Dn σ H ⟨m, env, st, re, rs, fin⟩ => by
    refine ⟨fun k σ H => ∃ m env st, RE X.K m H env σ ∧ RS (gx ct X) m H st ∧ Fin (gx ct X) E m H (whileGo T S k env st) (EndS (gx ct X) Dn), ⟨n, m, env, st, re, rs, fin⟩, ?_⟩
    rintro k σ H ⟨m, env, st, re, rs, fin⟩
    cases k with
    | zero => exact fin.elim
    | succ k =>
      refine ⟨m, env, st, re, rs, Fin.imp (Fin.bind (show Fin (gx ct X) E m H ((T env st).bind _) (EndS (gx ct X) Dn) from fin)) fun m1 H1 b st1 g1 rs1 q => ?_⟩
      cases b with
      | true =>
        rw [if_pos rfl] at q ⊢
        refine ⟨fun σ' H' => ∃ m env st, RE X.K m H' env σ' ∧ RS (gx ct X) m H' st ∧ Fin (gx ct X) E m H' (whileGo T S k env st) (EndS (gx ct X) Dn), fun σ' H' w => ⟨k, Nat.lt_succ_self k, w⟩, ?_⟩
        refine ⟨m1, env, st1, re.mono g1, rs1, q.bind.imp fun m2 H2 fl st2 g2 rs2 q2 => ?_⟩
        cases fl with
        | nx e => exact fun σ' re' => ⟨m2, e, st2, re', rs2, q2⟩
        | ct e => exact fun σ' re' => ⟨m2, e, st2, re', rs2, q2⟩
        | bk e => exact fun σ' re' => Fin.here (E := E) (show Fin (gx ct X) E m2 H2 (.ok (.nx e) st2) (EndS (gx ct X) Dn) from q2) rs2 σ' re'
        | rt d => exact Fin.here (E := E) (show Fin (gx ct X) E m2 H2 (.ok (.rt d) st2) (EndS (gx ct X) Dn) from q2) rs2
      | false =>
        rw [if_neg Bool.false_ne_true] at q ⊢
        exact Fin.here q rs1 σ (re.mono g1)⟩

/-! ### what is walked -/
/-- turn by turn: an item, or the end (some none); none: it can't be told -/
abbrev Wk := Nat → Sto → Option (Option D)
abbrev IW := Ev → Sto → Rs Wk
def WkOk (g : G0) (m0 : Mp) (H0 : Hp) (J : It) (wk : Wk) : Prop := ∀ (i : Nat) (m : Mp) (H : Hp) (st : Sto), Moves g.K m0 H0 m H → RS g m H st → match wk i st with
  | some (some d) => J.go i H ∧ ∀ x H', J.yld i H x H' → RS g m H' st ∧ Grow m H m H' ∧ RV g.K m H' d x
  | some none => J.stop i H
  | none => True
def tW (g : G0) (E : EK) (W : IW) : TI := fun σ H R => ∃ m env st, RE g.K m H env σ ∧ RS g m H st ∧ Fin g E m H (W env st) (fun m' H' wk _ => ∀ J, WkOk g m' H' J wk → R J H')
variable (ct X E) in
structure SWk (tg iter : Expr) (W : IW) : Prop where
  pi : PI X tg iter (tW (gx ct X) E W)
theorem _root_.L2.PI.imp {X : Cx} {tg e : Expr} {t t' : TI} (h : PI X tg e t) (f : ∀ σ H Q, t' σ H Q → t σ H Q) : PI X tg e t' := ⟨fun pins s σ H Q I q => h.run pins s σ H Q I (f σ H Q q)⟩
theorem _root_.L2.PI.both {X : Cx} {tg e : Expr} {t t' t2 : TI} (h : PI X tg e t) (h' : PI X tg e t') (f : ∀ σ H Q, t2 σ H Q → t σ H Q ∨ t' σ H Q) : PI X tg e t2 := ⟨fun pins s σ H Q I q => (f σ H Q q).elim (h.run pins s σ H Q I) (h'.run pins s σ H Q I)⟩
def wkSeq (xs : List D) : Wk := fun i _ => some xs[i]?
def wkLive (n : Nat) : Wk := fun i st => match st[n]? with
  | some (.lst xs) => some xs[i]?
  | _ => none
def wkRange (lo : Int) (n : Nat) : Wk := fun i _ => some (if i < n then some (.int (lo + i)) else none)
/-- a list or a tuple -/
def wkStr (x : Str) : Wk := fun i _ => match x.cps[i]? with
  | some c => some (some (.str ⟨#[c]⟩))
  | none => some none
def seqWk (st : Sto) (d : D) : Option Wk := match d with
  | .tup xs => some (wkSeq xs)
  | .rol xs => some (wkSeq xs)
  | .scr xs => some (wkSeq xs)
  | .ref n => match st[n]? with
    | some (.lst _) => some (wkLive n)
    | _ => none
  | .str x => some (wkStr x)
  | _ => none
def fW (o : Option Wk) (st : Sto) : Rs Wk := match o with
  | some w => .ok w st
  | none => .bad
def iWalk (A : IE) : IW := fun env st => (A env st).bind fun d st1 => fW (seqWk st1 d) st1
theorem wk_seqL {g : G0} {m0 : Mp} {H0 : Hp} {a : Addr} {xs : List D} {vs : List V} (h : ∀ m H, Moves g.K m0 H0 m H → SqL g.K H a vs ∧ RVs g.K m H xs vs) : WkOk g m0 H0 (Itl g.K a) (wkSeq xs) := fun i m H st mv rs => by
  obtain ⟨hs, r⟩ := h m H mv
  unfold wkSeq
  cases e : xs[i]? with
  | none =>
    have : xs.length ≤ i := List.getElem?_eq_none_iff.mp e
    exact ⟨vs, hs, by rw [← r.length]; exact this⟩
  | some d =>
    obtain ⟨v, hv, rv⟩ := r.get e
    refine ⟨⟨vs, v, hs, hv⟩, fun x H' y => ?_⟩
    obtain ⟨rfl, y⟩ := y
    have e2 := (y vs hs).symm.trans hv
    cases e2
    exact ⟨rs, Grow.refl _ _, rv⟩
theorem wk_seqT {g : G0} {m0 : Mp} {H0 : Hp} {a : Addr} {xs : List D} {vs : List V} (h : ∀ m H, Moves g.K m0 H0 m H → SqT g.K H a vs ∧ RVs g.K m H xs vs) : WkOk g m0 H0 (Itt g.K a) (wkSeq xs) := fun i m H st mv rs => by
  obtain ⟨hs, r⟩ := h m H mv
  unfold wkSeq
  cases e : xs[i]? with
  | none =>
    have : xs.length ≤ i := List.getElem?_eq_none_iff.mp e
    exact ⟨vs, hs, by rw [← r.length]; exact this⟩
  | some d =>
    obtain ⟨v, hv, rv⟩ := r.get e
    refine ⟨⟨vs, v, hs, hv⟩, fun x H' y => ?_⟩
    obtain ⟨rfl, y⟩ := y
    have e2 := (y vs hs).symm.trans hv
    cases e2
    exact ⟨rs, Grow.refl _ _, rv⟩
theorem wk_live {g : G0} {m0 : Mp} {H0 : Hp} {a : Addr} {n : Nat} (h : m0.cs[n]? = some a) : WkOk g m0 H0 (Itl g.K a) (wkLive n) := fun i m H st mv rs => by
  have hm := mv.ref n a h
  unfold wkLive
  split
  · rename_i dd hh
    split at hh
    · rename_i xs hq
      obtain ⟨vs, r, hH⟩ := rs.rc n a _ hm hq
      have e : xs[i]? = some dd := Option.some.inj hh
      obtain ⟨v, hv, rv⟩ := r.get e
      refine ⟨⟨vs, v, SqL.of hH, hv⟩, fun x H' y => ?_⟩
      obtain ⟨rfl, y⟩ := y
      have e2 := (y vs (SqL.of hH)).symm.trans hv
      cases e2
      exact ⟨rs, Grow.refl _ _, rv⟩
    · cases hh
  · rename_i hh
    split at hh
    · rename_i xs hq
      obtain ⟨vs, r, hH⟩ := rs.rc n a _ hm hq
      have e : xs[i]? = none := Option.some.inj hh
      exact ⟨vs, SqL.of hH, by rw [← r.length]; exact List.getElem?_eq_none_iff.mp e⟩
    · cases hh
  · trivial
theorem wk_str {g : G0} {m0 : Mp} {H0 : Hp} {x : Str} : WkOk g m0 H0 (Its x) (wkStr x) := fun i m H st mv rs => by
  unfold wkStr
  cases e : x.cps[i]? with
  | none => exact Array.getElem?_eq_none_iff.mp e
  | some c =>
    have hl : i < x.cps.size := by
      by_cases q : i < x.cps.size
      · exact q
      · rw [Array.getElem?_eq_none (by omega)] at e; cases e
    refine ⟨hl, fun v H' y => ?_⟩
    obtain ⟨rfl, c', hc, rfl⟩ := y
    rw [e] at hc; cases hc
    exact ⟨rs, Grow.refl _ _, .str _⟩
theorem w_walk (h : SI ct X E e A) : SWk ct X E tg e (iWalk A) :=
  ⟨(pi_list (tg := tg) h.pe).both ((pi_tup h.pe).both (pi_str h.pe) fun _ _ _ h => h) fun σ H R ⟨m, env, st, re, rs, fin⟩ => by
    have hf := fin.bind
    cases hA : A env st with
    | bad => rw [hA] at hf; exact hf.elim
    | exn e' st' => 
      refine .inl ⟨m, env, st, re, rs, ?_⟩
      rw [hA] at hf ⊢
      exact hf
    | ok d st1 =>
      rw [hA] at hf
      have hf : ∀ m1 H1, Grow m H m1 H1 → RS (gx ct X) m1 H1 st1 → Fin (gx ct X) E m1 H1 (fW (seqWk st1 d) st1) _ := hf
      cases hd : seqWk st1 d with
      | none =>
        rw [hd] at hf
        exact (hf m H (Grow.refl _ _) |> fun q => by
          refine .inl ⟨m, env, st, re, rs, ?_⟩
          rw [hA]
          exact fun m1 H1 g1 rs1 => (hf m1 H1 g1 rs1).elim)
      | some wk =>
        rw [hd] at hf
        cases d with
        | tup xs =>
          cases hd
          refine .inr (.inl ⟨m, env, st, re, rs, ?_⟩)
          rw [hA]
          intro m1 H1 g1 rs1 v rv
          cases rv with
          | tup h1 h2 => exact ⟨_, rfl, ⟨_, h1.sq⟩, Fin.here (hf m1 H1 g1 rs1) rs1 _ (wk_seqT fun m2 H2 mv => ⟨(mv.tup _ _ h1).sq, h2.moves mv⟩)⟩
        | rol xs =>
          cases hd
          refine .inl ⟨m, env, st, re, rs, ?_⟩
          rw [hA]
          intro m1 H1 g1 rs1 v rv
          cases rv with
          | rol h1 h2 => exact ⟨_, rfl, ⟨_, h1.sq⟩, Fin.here (hf m1 H1 g1 rs1) rs1 _ (wk_seqL fun m2 H2 mv => ⟨(mv.rol _ _ h1).sq, h2.moves mv⟩)⟩
        | scr xs =>
          cases hd
          refine .inl ⟨m, env, st, re, rs, ?_⟩
          rw [hA]
          intro m1 H1 g1 rs1 v rv
          cases rv with
          | scr h1 h2 => exact ⟨_, rfl, ⟨_, h1.sq⟩, Fin.here (hf m1 H1 g1 rs1) rs1 _ (wk_seqL fun m2 H2 mv => ⟨(mv.scr _ _ h1).sq, h2.moves mv⟩)⟩
        | ref n =>
          simp only [seqWk] at hd
          split at hd
          · rename_i xs hx
            cases hd
            refine .inl ⟨m, env, st, re, rs, ?_⟩
            rw [hA]
            intro m1 H1 g1 rs1 v rv
            cases rv with
            | ref h1 =>
              obtain ⟨vs, r, hH⟩ := rs1.rc n _ _ h1 hx
              exact ⟨_, rfl, ⟨_, SqL.of hH⟩, Fin.here (hf m1 H1 g1 rs1) rs1 _ (wk_live h1)⟩
          · cases hd
        | str x =>
          cases hd
          refine .inr (.inr ⟨m, env, st, re, rs, ?_⟩)
          rw [hA]
          intro m1 H1 g1 rs1 v rv
          cases rv
          exact ⟨_, rfl, Fin.here (hf m1 H1 g1 rs1) rs1 _ wk_str⟩
        | _ => cases hd⟩
end
end QI

namespace QI
open PySem PySem.Spec PyProof.Rows L2
section
variable {ct : String → Addr} {X : Cx} {E : EK} {pos p2 : Pos} {a b c e tg iter elt : Expr} {es ifs : List Expr} {A B C : IE} {L : IL} {T : IT} {s : Stmt} {ss ss' : List Stmt} {S U : IS} {p : Pt} {ps : List Pt} {W : IW}

/-! ### for -/
def forGo (wk : Wk) (p : Pt) (S : IS) : Nat → Nat → Ev → Sto → Rs Fl
  | 0, _, _, _ => .bad
  | n + 1, i, env, st => match wk i st with
    | none => .bad
    | some none => .ok (.nx env) st
    | some (some d) => match p.put d env with
      | none => .bad
      | some env1 => (S env1 st).bind fun fl st2 => match fl with
        | .nx e => forGo wk p S n (i + 1) e st2
        | .ct e => forGo wk p S n (i + 1) e st2
        | .bk e => .ok (.nx e) st2
        | .rt d => .ok (.rt d) st2
def sFor (n : Nat) (W : IW) (p : Pt) (S : IS) : IS := fun env st => (W env st).bind fun wk st1 => forGo wk p S n 0 env st1
theorem s_for (n : Nat) (hp : PassesOwn (model X.prog X.w) X.A X.env X.xe) (hc : X.calm = true) (hw : SWk ct X E tg iter W) (hg : SP X tg p) (hb : SSs ct X E ss S) (hs : ∀ x, foldedSetIterable iter X.env x = pure x := by intro _; rfl) :
    SS ct X E (.For tg iter ss [] pos) (sFor n W p S) :=
  ⟨(ps_for hp hc hw.pi hg.pg hb.pss hs).imp fun Dn σ H ⟨m, env, st, re, rs, fin⟩ => by
    refine ⟨m, env, st, re, rs, fin.bind.imp fun m1 H1 wk st1 g1 rs1 q J hJ => ?_⟩
    refine ⟨fun i k σ H => ∃ m env st, Moves X.K m1 H1 m H ∧ RE X.K m H env σ ∧ RS (gx ct X) m H st ∧ Fin (gx ct X) E m H (forGo wk p S k i env st) (EndS (gx ct X) Dn),
      ⟨n, m1, env, st1, (Grow.refl m1 H1).moves, re.mono g1, rs1, q⟩, ?_⟩
    rintro i k σ H ⟨m, env, st, mv, re, rs, fin⟩
    cases k with
    | zero => exact fin.elim
    | succ k =>
      have hw := hJ i m H st mv rs
      unfold forGo at fin
      cases hk : wk i st with
      | none => rw [hk] at fin; exact fin.elim
      | some o =>
        rw [hk] at fin hw
        cases o with
        | none => exact .inl ⟨hw, Fin.here fin rs σ re⟩
        | some d =>
          refine .inr ⟨hw.1, fun σ' H' => ∃ m env st, Moves X.K m1 H1 m H' ∧ RE X.K m H' env σ' ∧ RS (gx ct X) m H' st ∧ Fin (gx ct X) E m H' (forGo wk p S k (i + 1) env st) (EndS (gx ct X) Dn), fun σ' H' w => ⟨k, Nat.lt_succ_self k, w⟩, fun x H' y => ?_⟩
          obtain ⟨rs', gr, rv⟩ := hw.2 x H' y
          simp only at fin
          split at fin
          · exact fin.elim
          · rename_i env1 he
            refine Pt.t_ok (g := gx ct X) p (re.mono gr) rv he fun σ1 re1 _ => ?_
            have mv1 : Moves X.K m1 H1 m H' := ⟨fun a xs h => gr.moves.tup a xs (mv.tup a xs h), fun a xs h => (gr.moves (K := X.K)).rol a xs (mv.rol a xs h), fun a xs h => gr.moves.scr a xs (mv.scr a xs h), mv.ref⟩
            refine ⟨m, env1, st, re1, rs', (fin.mono gr).bind.imp fun m2 H2 fl st2 g2 rs2 q2 => ?_⟩
            have mv2 : Moves X.K m1 H1 m2 H2 := ⟨fun a xs h => g2.moves.tup a xs (mv1.tup a xs h), fun a xs h => (g2.moves (K := X.K)).rol a xs (mv1.rol a xs h), fun a xs h => g2.moves.scr a xs (mv1.scr a xs h), fun n a h => (g2.moves (K := X.K)).ref n a (mv1.ref n a h)⟩
            cases fl with
            | nx e => exact fun σ' re' => ⟨m2, e, st2, mv2, re', rs2, q2⟩
            | ct e => exact fun σ' re' => ⟨m2, e, st2, mv2, re', rs2, q2⟩
            | bk e => exact fun σ' re' => Fin.here (E := E) (show Fin (gx ct X) E m2 H2 (.ok (.nx e) st2) (EndS (gx ct X) Dn) from q2) rs2 σ' re'
            | rt d => exact Fin.here (E := E) (show Fin (gx ct X) E m2 H2 (.ok (.rt d) st2) (EndS (gx ct X) Dn) from q2) rs2⟩

/-! ### comprehensions -/
theorem Fin.strict {α β : Type} {g : G0} {E : EK} {m : Mp} {H : Hp} {r : Rs α} {f : α → Sto → Rs β} {R : Mp → Hp → β → Sto → Prop} (h : Fin g E m H (r.strict.bind f) R) : Fin g noE m H r (fun m1 H1 a st1 => Fin g E m1 H1 (f a st1) R) := by
  cases r with
  | ok a st => exact fun m' H' g' rs => Fin.mono (show Fin g E m H (f a st) R from h) g'
  | exn e st => exact (show False from h).elim
  | bad => exact h
def compGo (wk : Wk) (p : Pt) (T : IT) (A : IE) (vs : List Nat) (env : Ev) (fin : List D → Sto → Rs D) : Nat → Nat → List D → Sto → Rs D
  | 0, _, _, _ => .bad
  | n + 1, i, acc, st => match wk i st with
    | none => .bad
    | some none => fin acc st
    | some (some d) => match p.put d (wipeE env vs) with
      | none => .bad
      | some env1 => (T env1 st).strict.bind fun b st1 => if b = true then (A env1 st1).strict.bind fun y st2 =>
          if acc.length < 16777216 then compGo wk p T A vs env fin n (i + 1) (acc ++ [y]) st2 else .bad
        else compGo wk p T A vs env fin n (i + 1) acc st1
def fRol : List D → Sto → Rs D := fun acc st => .ok (.rol acc) st
def fCell : List D → Sto → Rs D := fun acc st => .ok (.ref st.length) (st ++ [.lst acc])
def iComp (fin : List D → Sto → Rs D) (n : Nat) (W : IW) (p : Pt) (T : IT) (A : IE) (vs : List Nat) : IE := fun env st => (W env st).bind fun wk st1 => compGo wk p T A vs env fin n 0 [] st1
structure STs (ct : String → Addr) (X : Cx) (ifs : List Expr) (T : IT) : Prop where
  pts : PTs X ifs (tIT (gx ct X) noE T)
def iYes : IT := fun _ st => .ok true st
theorem sts_nil : STs ct X [] iYes := ⟨⟨fun pins s σ H Q I ⟨m, env, st, re, rs, fin⟩ => pts_nil.run pins s σ H Q I (Fin.here fin rs)⟩⟩
theorem sts_one (h : SB ct X noE c T) : STs ct X [c] T := ⟨pts_one h.pt⟩
/-- what the end of a comprehension does with its list -/
def FinL (g : G0) (E : EK) (fin : List D → Sto → Rs D) : Prop := ∀ (m0 m : Mp) (H0 H : Hp) (q : Addr) (acc : List D) (vs : List V) (st : Sto) (Q : VK), Grow m0 H0 m H → RS g (m.hold q) H st → H0 q = none → q ∉ m.rs → H q = some (.lst vs) → RVs g.K (m.hold q) H acc vs →
  Fin g E m0 H0 (fin acc st) (EndE g Q) → Q (.ref q) H
theorem fin_rol {g : G0} : FinL g E fRol := fun m0 m H0 H q acc vs st Q gr rs h0 hr hq rv fin => by
  exact fin m H gr rs.drop _ (.rol ⟨(rs.hs q List.mem_cons_self).1, hr, hq⟩ (rv.moves Moves.drop))
theorem fin_cell {g : G0} : FinL g E fCell := fun m0 m H0 H q acc vs st Q gr rs h0 hr hq rv fin => by
  have gr' : Grow m0 H0 (m.add q) H := ⟨gr.pre.trans (List.prefix_append _ _), gr.rsv, gr.frame, fun a h => by
    rcases List.mem_append.mp h with z | z
    · exact gr.new a z
    · simp at z; subst z; exact .inr h0, gr.tup, gr.frz⟩
  refine fin (m.add q) H gr' (rs.keep hr ⟨vs, rv.moves Moves.keep, hq⟩) _ (.ref ?_)
  show (m.cs ++ [q])[st.length]? = some q
  have hl : m.cs.length = st.length := rs.len
  rw [List.getElem?_append_right (by omega), ← hl]
  simp
theorem comp_tI {fin : List D → Sto → Rs D} (hf : FinL (gx ct X) E fin) (n : Nat) {vs0 : List Nat} (hv : ∀ i ∈ p.slots, i ∈ vs0) {σ : L2.St} {H0 : Hp} {Q : VK} (h : tI (gx ct X) E (iComp fin n W p T A vs0) σ H0 Q) : tLc (tW (gx ct X) E W) (p.t X.K) (tIT (gx ct X) noE T) (tI (gx ct X) noE A) vs0 σ H0 Q := by
    obtain ⟨m0, env, st, re, rs, fn⟩ := h
    refine ⟨m0, env, st, re, rs, fn.bind.imp fun m1 H1 wk st1 g1 rs1 q J hJ q' hq' => ?_⟩
    have re1 := re.mono g1
    refine ⟨fun i k H => ∃ m acc vs st, Grow m1 H1 m H ∧ Moves X.K m1 H1 (m.hold q') H ∧ RS (gx ct X) (m.hold q') H st ∧ q' ∉ m.rs ∧ H q' = some (.lst vs) ∧ RVs X.K (m.hold q') H acc vs ∧ Fin (gx ct X) E m1 H1 (compGo wk p T A (vs0) env fin k i acc st) (EndE (gx ct X) Q),
      ⟨n, m1, [], [], st1, Grow.laid hq', Moves.hold hq', rs1.hold hq', rs1.nothold hq', upd_same, .nil, q⟩, ?_⟩
    rintro i k H ⟨m, acc, vs, st, gr, mv, rs, hr, hH, rv, fn⟩
    cases k with
    | zero => exact fn.elim
    | succ k =>
      have hw := hJ i (m.hold q') H st mv rs
      unfold compGo at fn
      cases hk : wk i st with
      | none => rw [hk] at fn; exact fn.elim
      | some o =>
        rw [hk] at fn hw
        cases o with
        | none => exact .inl ⟨hw, hf m1 m H1 H q' acc vs st Q gr rs hq' hr hH rv fn⟩
        | some d =>
          refine .inr ⟨hw.1, fun H' => ∃ m acc vs st, Grow m1 H1 m H' ∧ Moves X.K m1 H1 (m.hold q') H' ∧ RS (gx ct X) (m.hold q') H' st ∧ q' ∉ m.rs ∧ H' q' = some (.lst vs) ∧ RVs X.K (m.hold q') H' acc vs ∧ Fin (gx ct X) E m1 H1 (compGo wk p T A (vs0) env fin k (i + 1) acc st) (EndE (gx ct X) Q), fun H' w => ⟨k, Nat.lt_succ_self k, w⟩, fun x H' y => ?_⟩
          obtain ⟨rs', g', rx⟩ := hw.2 x H' y
          simp only at fn
          split at fn
          · exact fn.elim
          · rename_i env1 he1
            have hqc : q' ∉ m.cs := (rs.hs q' List.mem_cons_self).1
            have mvt : ∀ {m2 : Mp} {H2 : Hp}, Grow (m.hold q') H (m2.hold q') H2 → Moves X.K m1 H1 (m2.hold q') H2 := fun g => ⟨fun a xs h => g.moves.tup a xs (mv.tup a xs h), fun a xs h => (g.moves (K := X.K)).rol a xs (mv.rol a xs h), fun a xs h => g.moves.scr a xs (mv.scr a xs h), fun n a h => (g.moves (K := X.K)).ref n a (mv.ref n a h)⟩
            have re2 : RE X.K (m.hold q') H' env σ := (re1.moves mv).moves g'.moves
            refine Pt.t_ok (g := gx ct X) p (re2.wipe (vs0)) rx he1 fun σ1 re3 w3 => ⟨?_, ?_⟩
            · rw [w3 _ hv]
              have : ∀ l : List Nat, wipe (wipe σ l) l = wipe σ l := by
                have in_none : ∀ (l : List Nat) (τ : L2.St) (k : List Nat), (∀ i ∈ l, i ∈ k) → wipe (wipe τ l) k = wipe τ k := by
                  intro l
                  induction l with
                  | nil => intro τ k _; rfl
                  | cons i l ih =>
                    intro τ k hk
                    show wipe ((wipe τ l).set i none) k = _
                    rw [wipe_set_in (hk i List.mem_cons_self)]
                    exact ih τ k fun j hj => hk j (List.mem_cons_of_mem _ hj)
                exact fun l => in_none l σ l fun _ h => h
              exact this _
            · -- the test
              have rsd : ∀ {m2 : Mp} {H2 : Hp}, Grow (m.hold q') H m2 H2 → ∃ m3 : Mp, m2 = m3.hold q' ∧ m3.rs = m.rs := fun {m2 H2} g => ⟨⟨m2.cs, m.rs⟩, by
                have := g.rsv
                obtain ⟨cs, rr⟩ := m2
                have e : rr = q' :: m.rs := this
                subst e
                rfl, rfl⟩
              cases hT : T env1 st with
              | bad => rw [hT] at fn; exact fn.elim
              | exn e' st' => rw [hT] at fn; exact (show False from fn).elim
              | ok bb st2 =>
                rw [hT] at fn
                refine ⟨m.hold q', env1, st, re3, rs', ?_⟩
                rw [hT]
                intro m2 H2 g2 rs2
                obtain ⟨m3, rfl, hr3⟩ := rsd (g'.trans g2)
                have fn : Fin (gx ct X) E m1 H1 (if bb = true then _ else _) (EndE (gx ct X) Q) := fn
                have gq := g'.trans g2
                have hH2 : H2 q' = some (.lst vs) := gq.frame _ _ hqc hH
                have rv2 := rv.mono gq
                cases bb with
                | false =>
                  rw [if_neg Bool.false_ne_true] at fn ⊢
                  exact ⟨m3, acc, vs, st2, gr.trans gq.held, mvt gq, rs2, by rw [hr3]; exact hr, hH2, rv2, fn⟩
                | true =>
                  rw [if_pos rfl] at fn ⊢
                  cases hA : A env1 st2 with
                  | bad => rw [hA] at fn; exact fn.elim
                  | exn e' st' => rw [hA] at fn; exact (show False from fn).elim
                  | ok y st3 =>
                    rw [hA] at fn
                    refine ⟨m3.hold q', env1, st2, re3.mono g2, rs2, ?_⟩
                    rw [hA]
                    intro m4 H4 g4 rs4 v rvy
                    have gq4 := gq.trans g4
                    obtain ⟨m5, rfl, hr5⟩ := rsd gq4
                    have hH4 : H4 q' = some (.lst vs) := gq4.frame _ _ hqc hH
                    have fn : Fin (gx ct X) E m1 H1 (if acc.length < 16777216 then _ else .bad) (EndE (gx ct X) Q) := fn
                    split at fn
                    · rename_i hz
                      have rv4 := rv.mono gq4
                      have wr : Moves X.K (m5.hold q') H4 (m5.hold q') (upd H4 q' (.lst (vs ++ [v]))) := Moves.held hH4
                      refine ⟨vs, hH4, by rw [← rv.length, sl_eq]; exact hz, m5, acc ++ [y], vs ++ [v], st3, ?_, ?_, rs4.held hH4, by rw [hr5]; exact hr, upd_same, (rv4.moves wr).append (.cons (rvy.moves wr) .nil), fn⟩
                      · have g6 := gr.trans gq4.held
                        have hn : ∀ a o, H1 a = some o → a ≠ q' := fun a o h => ne_of_none h hq'
                        exact ⟨g6.pre, g6.rsv, fun a o h1 h2 => by rw [upd_ne (hn a o h2)]; exact g6.frame a o h1 h2, g6.new, fun a o h2 => by rw [upd_ne (hn a _ h2)]; exact g6.tup a o h2, fun a o xs h2 => by rw [upd_ne (hn a _ h2)]; exact g6.frz a o xs h2⟩
                      · have mq := mvt gq4
                        exact ⟨fun a xs h => wr.tup a xs (mq.tup a xs h), fun a xs h => wr.rol a xs (mq.rol a xs h), fun a xs h => wr.scr a xs (mq.scr a xs h), fun n a h => wr.ref n a (mq.ref n a h)⟩
                    · exact fn.elim
theorem si_comp {fin : List D → Sto → Rs D} (hf : FinL (gx ct X) E fin) (n : Nat) {scope : Scope} (own : List (Str × Nat)) (hc : X.calm = true) (hN : X.N.Nodup) (hw : SWk ct X E tg iter W) (ok : BlkOk X.N X.env.scope scope own)
    (hg : ∀ (s : Shared) (H : Hp) (C : Addr) (cl : List (Str × Addr)) (fp : List Addr), SP (X.blk s H scope (compEnvC scope cl C X.env) fp) tg p)
    (ht : ∀ (s : Shared) (H : Hp) (C : Addr) (cl : List (Str × Addr)) (fp : List Addr), STs ct (X.blk s H scope (compEnvC scope cl C X.env) fp) ifs T)
    (he : ∀ (s : Shared) (H : Hp) (C : Addr) (cl : List (Str × Addr)) (fp : List Addr), SI ct (X.blk s H scope (compEnvC scope cl C X.env) fp) noE elt A)
    (hv : ∀ i ∈ p.slots, i ∈ own.map (·.2) := by decide) (hs : ∀ x, foldedSetIterable iter X.env x = pure x := by intro _; rfl) :
    SI ct X E (.ListComp elt [⟨tg, iter, ifs, 0⟩] scope pos) (iComp fin n W p T A (own.map (·.2))) :=
  ⟨(pe_lc hc hN hw.pi ok (g := p.t X.K) (tt := tIT (gx ct X) noE T) (te := tI (gx ct X) noE A) (fun s H C cl fp => (hg s H C cl fp).pg) (fun s H C cl fp => (ht s H C cl fp).pts) (fun s H C cl fp => (he s H C cl fp).pe) hs).imp fun σ H0 Q h => comp_tI hf n hv h⟩
theorem s_setComp (i : Nat) {y : Str} {py spos : Pos} {fin : List D → Sto → Rs D} (hf : FinL (gx ct X) E fin) (n : Nat) {scope : Scope} (own : List (Str × Nat)) (hc : X.calm = true) (hN : X.N.Nodup) (hy : X.N[i]? = some y) (hyl : X.env.scope.names.lookup y = some .local) (hsw : swapsWith (.ListComp elt [⟨tg, iter, ifs, 0⟩] scope pos) (some (.Name y py)) spos.line X.env = pure true) (hw : SWk ct X E tg iter W) (ok : BlkOk X.N X.env.scope scope own)
    (hg : ∀ (s : Shared) (H : Hp) (C : Addr) (cl : List (Str × Addr)) (fp : List Addr), SP (X.blk s H scope (compEnvC scope cl C X.env) fp) tg p)
    (ht : ∀ (s : Shared) (H : Hp) (C : Addr) (cl : List (Str × Addr)) (fp : List Addr), STs ct (X.blk s H scope (compEnvC scope cl C X.env) fp) ifs T)
    (he : ∀ (s : Shared) (H : Hp) (C : Addr) (cl : List (Str × Addr)) (fp : List Addr), SI ct (X.blk s H scope (compEnvC scope cl C X.env) fp) noE elt A)
    (hv : ∀ i ∈ p.slots, i ∈ own.map (·.2) := by decide) (hs : ∀ x, foldedSetIterable iter X.env x = pure x := by intro _; rfl) :
    SS ct X E (.Assign [.Name y py] (.ListComp elt [⟨tg, iter, ifs, 0⟩] scope pos) spos) (sSet i (iComp fin n W p T A (own.map (·.2)))) :=
  ⟨(ps_setLc (i := i) hc hN hy hyl hsw hw.pi ok (g := p.t X.K) (tt := tIT (gx ct X) noE T) (te := tI (gx ct X) noE A) (fun s H C cl fp => (hg s H C cl fp).pg) (fun s H C cl fp => (ht s H C cl fp).pts) (fun s H C cl fp => (he s H C cl fp).pe) hs).imp fun Dn σ H0 ⟨m, env, st, re, rs, fn⟩ =>
    comp_tI hf n hv (Q := fun x H1 => gName i x σ H1 Dn.nx) ⟨m, env, st, re, rs, fn.bind.imp fun m1 H1 d st1 g1 rs1 q v rv => q.here rs1 _ ((re.mono g1).set rv i)⟩⟩

end
end QI

namespace QI
open PySem PySem.Spec PyProof.Rows L2 RZ

/-! ### enumerate(tuple) -/
theorem meets_enum1 {v : Value} {o : Obj} {H : Heap → Prop} (B : Begins v o H) :
    Meets (Builtin.«enumerate.__new__» ⟨[.type "enumerate", v], []⟩) (fun _ R s => H s.heap ∧
      R (.ok (.ret (.ref (s.heap.push o).objs.size))) { s with heap := (s.heap.push o).push { cls := .type "enumerate", data := .fields #[.none, .bool false, .ref s.heap.objs.size, rawInt 0, .none, .none] } }) :=
  .of_wp fun prog w A R s h => by
    obtain ⟨hp, g, d, tk, os⟩ := s; obtain ⟨h1, h⟩ := h
    have hsub := sub_enumerate
    have q1 : ∀ {A' : Around} {E : Value → Shared → Prop} {Q : Value → Shared → Prop}, Q (.ref hp.objs.size) ⟨hp.push o, g, d, tk, os⟩ → wpAny (model prog w) A' (pyIter v) Q E ⟨hp, g, d, tk, os⟩ :=
      fun q => B.iter prog w _ _ ⟨hp, g, d, tk, os⟩ _ h1 q
    wp_walk using q1
    refine wpAny_stack_any fun st => wpAny_pure ?_
    split
    · rename_i c _ _ _ _ _
      cases (c == Value.type "enumerate")
      · wp_walk using q1
        exact ⟨_, rfl, h⟩
      · wp_walk using q1
        exact ⟨_, rfl, h⟩
    · wp_walk using q1
      exact ⟨_, rfl, h⟩
theorem enum_begins1 {prog : Program} {w : World} {A : Around} {E : Value → Shared → Prop} {s : Shared} {v : Value} {o : Obj} {H : Heap → Prop} {Q : Value → Shared → Prop} (B : Begins v o H) (h1 : H s.heap)
    (h : ∀ h', IsEnum h' (s.heap.objs.size + 1) s.heap.objs.size 0 .none → h'.get? s.heap.objs.size = some o → h'.objs.size = s.heap.objs.size + 2 →
      (∀ b o, s.heap.get? b = some o → h'.get? b = some o) → Q (.ref (s.heap.objs.size + 1)) { s with heap := h' }) :
    wpAny (model prog w) A (call (.type "enumerate") [v]) Q E s := by
  refine callType_new F.called_enumerate (by decide) (F.typeCall_enumerate_1 _) (F.newCall_enumerate_1 _) (fun obj => F.args_object_init_2 obj _) F.entry_enumerate_new
    (meets_enum1 B) ⟨h1, ?_⟩
  have hz : (s.heap.push o).objs.size = s.heap.objs.size + 1 := Heap.size_push ..
  show _ ∧ _
  rw [hz]
  have he : IsEnum ((s.heap.push o).push { cls := .type "enumerate", data := .fields #[.none, .bool false, .ref s.heap.objs.size, rawInt 0, .none, .none] }) (s.heap.objs.size + 1) s.heap.objs.size 0 .none := by
    have := Heap.get?_push_size (s.heap.push o) (o := { cls := .type "enumerate", data := .fields #[.none, .bool false, .ref s.heap.objs.size, rawInt 0, .none, .none] }) rfl
    rw [hz] at this; exact this
  refine ⟨⟨_, he, rfl⟩, h _ he (Heap.get?_push_of_some _ (Heap.get?_push_size _ B.free)) (by rw [Heap.size_push, hz]) fun b o x => Heap.get?_push_of_some _ (Heap.get?_push_of_some _ x)⟩

def IteT (K : PySem.W.Frag) (a : Addr) : It :=
  ⟨fun i H => ∃ (xs : List V) (x : V), SqT K H a xs ∧ xs[i]? = some x, fun i H v H' => ∃ T x, v = .ref T ∧ H T = none ∧ H' = upd H T (.tup [.int (i : Nat), x]) ∧ ∀ xs, SqT K H a xs → xs[i]? = some x, fun i H => ∃ xs : List V, SqT K H a xs ∧ xs.length ≤ i⟩
theorem turn_enumT {P : Program} {w : World} {K : PySem.W.Frag} {elts : List Expr} {kk : Nat} {tpos : Pos} (a e it : Addr) (hai : a ≠ it) (hae : e ≠ a) :
    Turn P w K (.Tuple elts kk tpos) (IteT K a) [e, it] e (fun i h => (∃ old, IsEnum h e it ((i : Nat) : Int) old) ∧ h.IsTupleIter it a i ∧ e ≠ it) where
  mem := by simp
  obj := fun i h st b hb => by
    obtain ⟨⟨old, he⟩, ⟨o, ho, hc, hd⟩, _⟩ := st
    have e' : b = e ∨ b = it := by simpa using hb
    rcases e' with z | z
    · rw [z]; exact ⟨_, he, fun v q => nomatch q⟩
    · rw [z]; exact ⟨o, ho, fun v q => by rw [hd] at q; cases q⟩
  keep := fun i h h' st k => let ⟨⟨old, he⟩, hi, hne⟩ := st; ⟨⟨old, k e (by simp) _ he⟩, hi.at fun o q => k it (by simp) o q, hne⟩
  item := by
    intro X hP hw hK hc i pins s σ H E I hf st hg
    subst hP hw hK
    obtain ⟨⟨old, he⟩, hit, hne⟩ := st
    obtain ⟨xs, x, hq, hx⟩ := hg
    obtain ⟨its, rv, p, hz⟩ := I.tuple hq
    obtain ⟨u, hu, ru⟩ := rv.get hx
    have hel : e < s.heap.objs.size := Heap.lt_size he
    have hil : it < s.heap.objs.size := by obtain ⟨_, q, _⟩ := hit; exact Heap.lt_size q
    have hlt : i < its.toArray.size := by
      rw [List.size_toArray]; exact lt_of_get hu
    refine wpAny_pyNext_enum_itemD (Draws.tuple (prog := X.prog) (w := X.w) (A := X.A.in1) (I.ok.hd hc) it a hai its.toArray) he ⟨hit, p⟩ hlt hne (by simp [hne, hae]) fun x' h' tk hx' ho hst hT hsz hk => ?_
    have ex : x' = u := by
      have q1 : its.toArray[i]? = some x' := hx'
      simp only [List.getElem?_toArray] at q1
      rw [hu] at q1; cases q1; rfl
    subst ex
    obtain ⟨hit', _⟩ := hst
    refine ⟨_, rfl, wpAny_letOwnedTupleGo_enum (s := { s with heap := h', toks := tk + 1 }) ho fun h'' he' sb => ?_⟩
    have hT2 : h''.get? s.heap.objs.size = some { cls := .type "tuple", data := .seq #[.int i tk, x'] } := (sb.2 _ (Nat.ne_of_gt hel)).trans hT
    have new : ObjOk X.prog X.w (upd H s.heap.objs.size (.tup [.int (i : Nat), x])) h'' s.heap.objs.size (.tup [.int (i : Nat), x]) :=
      ⟨by show 2 ≤ sizeLine; decide, [.int i tk, x'], .cons ⟨_, rfl⟩ (.cons ru .nil), ⟨_, hT2, rfl, _, rfl⟩⟩
    have I1 : Inv X pins σ (upd H s.heap.objs.size (.tup [.int (i : Nat), x])) { s with heap := h'', toks := tk + 1 } :=
      I.turnedNew (ch := [e, it]) (fun b ob hb q => (sb.2 b (fun z => hb (by simp [z]))).trans (hk b ob (fun z => hb (by simp [z])) (fun z => hb (by simp [z])) q)) hf (Nat.le_refl _) new
    refine ⟨.ref s.heap.objs.size, _, I1, rfl, ⟨_, x, rfl, I.hok.fresh (Nat.le_refl _), rfl, fun ys hy => by rw [I.tuple_inj hy hq]; exact hx⟩, ⟨⟨x', ?_⟩, hit'.at fun o q => (sb.2 it (Ne.symm hne)).trans q, hne⟩, fun b hb => ?_⟩
    · have e1 : ((i + 1 : Nat) : Int) = (i : Int) + 1 := by omega
      rw [e1]; exact he'
    · have hb' : b < s.heap.objs.size := by
        have e' : b = e ∨ b = it := by simpa using hb
        rcases e' with z | z
        · rw [z]; exact hel
        · rw [z]; exact hil
      rw [upd_ne (Nat.ne_of_lt hb')]
      exact (hf b hb).1
  done := by
    intro X hP hw hK hc i pins s σ H E I hf st hg
    subst hP hw hK
    obtain ⟨⟨old, he⟩, hit, hne⟩ := st
    obtain ⟨xs, hq, hx⟩ := hg
    obtain ⟨its, rv, p, hz⟩ := I.tuple hq
    obtain ⟨f0, f1, f2, f3, f4, f5⟩ := hf it (by simp)
    have hl := rv.length
    have D : PySem.Draws X.prog X.w X.A.in1 it [it, a] i (fun _ _ => False) (fun j h => j = i ∧ h.IsTupleIter it a i ∧ h.IsTuple a its.toArray) :=
      ⟨fun _ _ st => let ⟨o, ho, _⟩ := st.2.1; ⟨o, ho⟩, fun _ _ _ st hk => ⟨st.1, st.2.1.at fun o e => hk it (by simp) o e, st.2.2.at fun o e => hk a (by simp) o e⟩,
        fun j s Q E hj hst hQ => absurd hst.1 (Nat.ne_of_lt hj), fun s Q E hst hE => wpAny_nextOf_tuple_end (I.ok.hd hc) hst.2.1 hst.2.2 (by simp; omega) hE⟩
    exact wpAny_pyNext_enum_endD D he ⟨rfl, hit, p⟩ fun h' eb => ⟨rfl, I.turned (t' := s.toks) (fun b o hb q => eb b o hb q) f0 f1 f3 f4 f5⟩
  self := fun A i s Q E st h => let ⟨⟨_, he⟩, _⟩ := st; wpAny_pyIter_enum he h
def iEnumT (K : PySem.W.Frag) (ta : TA) : TI := fun σ H R => ta σ H fun vs H1 => ∃ a xs, vs = [.ref a] ∧ SqT K H1 a xs ∧ R (IteT K a) H1
theorem pi_enumT {X : Cx} {e : Expr} {ta : TA} {p pos tpos : Pos} {elts : List Expr} {kk : Nat} (hg : Gl X "enumerate") (hm : X.mg "enumerate" = none) (ha : PA X [e] ta) (hs : starEach [e] X.env = [(false, eval e X.env)] := by rfl) :
    PI X (.Tuple elts kk tpos) (.Call (.Name "enumerate" p) [e] [] pos) (iEnumT X.K ta) := by
  refine ⟨fun pins s σ H R I h => ?_⟩
  refine Call_ (ld_blt I hg hm boot_enumerate (PyProof.Rows.callWith_type1 (thn (ha.run pos pins s σ H _ I h) fun us s1 ⟨vs, H1, I1, r1, q1⟩ => ?_) hs rfl))
  obtain ⟨a, xs, ex, hq, q⟩ := q1
  subst ex
  cases r1 with
  | cons r rr =>
    cases rr
    cases r
    obtain ⟨its, rv, p', hz⟩ := I1.tuple hq
    have hal : a < s1.heap.objs.size := p'.lt
    refine enum_begins1 (begins_tuple a its.toArray) p' fun h' he hit hsz hk => wpAny_pyIter_enum he ?_
    have I2 : Inv X pins σ H1 { s1 with heap := h' } := I1.kept (t' := s1.toks) hk
    refine ⟨s1.heap.objs.size + 1, [s1.heap.objs.size + 1, s1.heap.objs.size], _, _, H1, rfl, I2, turn_enumT a (s1.heap.objs.size + 1) s1.heap.objs.size (Nat.ne_of_lt hal) (Nat.ne_of_gt (Nat.lt_succ_of_lt hal)), ⟨⟨.none, he⟩, ⟨_, hit, rfl, rfl⟩, Nat.succ_ne_self _⟩, fun b hb => ?_, q⟩
    have e' : b = s1.heap.objs.size + 1 ∨ b = s1.heap.objs.size := by simpa using hb
    have hle : s1.heap.objs.size ≤ b := by
      rcases e' with z | z
      · rw [z]; exact Nat.le_add_right _ _
      · rw [z]; exact Nat.le_refl _
    exact I1.fpOk hle (I1.hok.fresh hle)

/-! ### the walks as evaluated -/
section
variable {ct : String → Addr} {X : Cx} {E : EK} {pos p2 p tpos : Pos} {a b c e tg iter elt : Expr} {es ifs elts : List Expr} {A B C : IE} {L : IL} {kk : Nat}
def fRange1 : List D → Sto → Rs Wk
  | [.int j], st => if -(2 ^ 62) ≤ j ∧ j < 2 ^ 62 then .ok (wkRange 0 j.toNat) st else .bad
  | _, _ => .bad
def fRange2 : List D → Sto → Rs Wk
  | [.int i, .int j], st => if -(2 ^ 62) ≤ i ∧ i < 2 ^ 62 ∧ -(2 ^ 62) ≤ j ∧ j < 2 ^ 62 then .ok (wkRange i (j - i).toNat) st else .bad
  | _, _ => .bad
def iWalkC (f : List D → Sto → Rs Wk) (L : IL) : IW := fun env st => (L env st).bind f
theorem wk_range {g : G0} {m0 : Mp} {H0 : Hp} {lo : Int} {n : Nat} : WkOk g m0 H0 (Itr lo n) (wkRange lo n) := fun i m H st mv rs => by
  unfold wkRange
  by_cases h : i < n
  · rw [if_pos h]
    refine ⟨h, fun x H' y => ?_⟩
    obtain ⟨rfl, rfl⟩ := y
    exact ⟨rs, Grow.refl _ _, .int _⟩
  · rw [if_neg h]
    exact Nat.le_of_not_lt h
theorem w_range1 (hg : Gl X "range") (hm : X.mg "range" = none) (ha : SA ct X E [a] L) (hs : starEach [a] X.env = [(false, eval a X.env)] := by rfl) : SWk ct X E tg (.Call (.Name "range" p) [a] [] pos) (iWalkC fRange1 L) :=
  ⟨(pi_range1 hg hm ha.pa hs).imp fun σ H R ⟨m, env, st, re, rs, fin⟩ => ⟨m, env, st, re, rs, fin.bind.imp fun m1 H1 ds st1 g1 rs1 q vs rv => by
    unfold fRange1 at q
    split at q
    · cases rv with
      | cons r1 r2 =>
        cases r2; cases r1
        split at q
        · rename_i hz
          exact ⟨_, rfl, hz.1, hz.2, Fin.here q rs1 _ wk_range⟩
        · exact q.elim
    · exact q.elim⟩⟩
theorem w_range2 (hg : Gl X "range") (hm : X.mg "range" = none) (ha : SA ct X E [a, b] L) (hs : starEach [a, b] X.env = [(false, eval a X.env), (false, eval b X.env)] := by rfl) (hs2 : starEach [b] X.env = [(false, eval b X.env)] := by rfl) : SWk ct X E tg (.Call (.Name "range" p) [a, b] [] pos) (iWalkC fRange2 L) :=
  ⟨(pi_range2 hg hm ha.pa hs hs2).imp fun σ H R ⟨m, env, st, re, rs, fin⟩ => ⟨m, env, st, re, rs, fin.bind.imp fun m1 H1 ds st1 g1 rs1 q vs rv => by
    unfold fRange2 at q
    split at q
    · cases rv with
      | cons r1 r2 =>
        cases r2 with
        | cons r2 r3 =>
          cases r3; cases r1; cases r2
          split at q
          · rename_i hz
            exact ⟨_, _, rfl, hz, Fin.here q rs1 _ wk_range⟩
          · exact q.elim
    · exact q.elim⟩⟩
/-- the kinds of walks over a list or a tuple -/
inductive WkS (g : G0) (m0 : Mp) (H0 : Hp) : V → Wk → Prop
  | l {a : Addr} {wk : Wk} : (∃ xs, SqL g.K H0 a xs) → WkOk g m0 H0 (Itl g.K a) wk → WkS g m0 H0 (.ref a) wk
  | t {a : Addr} {wk : Wk} : (∃ xs, SqT g.K H0 a xs) → WkOk g m0 H0 (Itt g.K a) wk → WkS g m0 H0 (.ref a) wk
/-- a list or a tuple, as it is walked -/
def seqWk2 (st : Sto) : D → Option (Bool × Wk)
  | .tup xs => some (true, wkSeq xs)
  | .rol xs => some (false, wkSeq xs)
  | .scr xs => some (false, wkSeq xs)
  | .ref n => match st[n]? with
    | some (.lst _) => some (false, wkLive n)
    | _ => none
  | _ => none
theorem wkL_of {g : G0} {m : Mp} {H : Hp} {st : Sto} {d : D} {x : V} {wk : Wk} (rs : RS g m H st) (r : RV g.K m H d x) (e : seqWk2 st d = some (false, wk)) : ∃ a, x = .ref a ∧ (∃ xs, SqL g.K H a xs) ∧ WkOk g m H (Itl g.K a) wk := by
  cases d with
  | rol xs =>
    cases e
    cases r with
    | rol h1 h2 => exact ⟨_, rfl, ⟨_, h1.sq⟩, wk_seqL fun m2 H2 mv => ⟨(mv.rol _ _ h1).sq, h2.moves mv⟩⟩
  | scr xs =>
    cases e
    cases r with
    | scr h1 h2 => exact ⟨_, rfl, ⟨_, h1.sq⟩, wk_seqL fun m2 H2 mv => ⟨(mv.scr _ _ h1).sq, h2.moves mv⟩⟩
  | ref n =>
    simp only [seqWk2] at e
    split at e
    · rename_i xs hx
      cases e
      cases r with
      | ref h1 =>
        obtain ⟨vs, r', hH⟩ := rs.rc n _ _ h1 hx
        exact ⟨_, rfl, ⟨_, SqL.of hH⟩, wk_live h1⟩
    · cases e
  | tup xs => simp [seqWk2] at e
  | _ => cases e
theorem wkT_of {g : G0} {m : Mp} {H : Hp} {st : Sto} {d : D} {x : V} {wk : Wk} (rs : RS g m H st) (r : RV g.K m H d x) (e : seqWk2 st d = some (true, wk)) : ∃ a, x = .ref a ∧ (∃ xs, SqT g.K H a xs) ∧ WkOk g m H (Itt g.K a) wk := by
  cases d with
  | tup xs =>
    cases e
    cases r with
    | tup h1 h2 => exact ⟨_, rfl, ⟨_, h1.sq⟩, wk_seqT fun m2 H2 mv => ⟨(mv.tup _ _ h1).sq, h2.moves mv⟩⟩
  | ref n =>
    simp only [seqWk2] at e
    split at e <;> cases e
  | rol xs => simp [seqWk2] at e
  | scr xs => simp [seqWk2] at e
  | _ => cases e
def wkEnum (wk : Wk) : Wk := fun i st => match wk i st with
  | some (some d) => some (some (.tup [.int (i : Nat), d]))
  | o => o
theorem wk_enumL {g : G0} {m0 : Mp} {H0 : Hp} {a : Addr} {wk : Wk} (h : WkOk g m0 H0 (Itl g.K a) wk) : WkOk g m0 H0 (Ite g.K a) (wkEnum wk) := fun i m H st mv rs => by
  have q := h i m H st mv rs
  unfold wkEnum
  cases e : wk i st with
  | none => trivial
  | some o =>
    rw [e] at q
    cases o with
    | none => exact q
    | some d =>
      refine ⟨q.1, fun v H' y => ?_⟩
      obtain ⟨T, x, rfl, hT, rfl, f⟩ := y
      obtain ⟨_, _, rv⟩ := q.2 x H ⟨rfl, f⟩
      have gr : Grow m H m (upd H T (.tup [.int (i : Nat), x])) := Grow.laid hT
      exact ⟨rs.laid hT, gr, .tup upd_same (.cons (.int _) (.cons (rv.mono gr) .nil))⟩
theorem wk_enumT {g : G0} {m0 : Mp} {H0 : Hp} {a : Addr} {wk : Wk} (h : WkOk g m0 H0 (Itt g.K a) wk) : WkOk g m0 H0 (IteT g.K a) (wkEnum wk) := fun i m H st mv rs => by
  have q := h i m H st mv rs
  unfold wkEnum
  cases e : wk i st with
  | none => trivial
  | some o =>
    rw [e] at q
    cases o with
    | none => exact q
    | some d =>
      refine ⟨q.1, fun v H' y => ?_⟩
      obtain ⟨T, x, rfl, hT, rfl, f⟩ := y
      obtain ⟨_, _, rv⟩ := q.2 x H ⟨rfl, f⟩
      have gr : Grow m H m (upd H T (.tup [.int (i : Nat), x])) := Grow.laid hT
      exact ⟨rs.laid hT, gr, .tup upd_same (.cons (.int _) (.cons (rv.mono gr) .nil))⟩
def fEnum : List D → Sto → Rs Wk
  | [d], st => match seqWk2 st d with
    | some (_, wk) => .ok (wkEnum wk) st
    | none => .bad
  | _, _ => .bad
theorem w_enum (hg : Gl X "enumerate") (hm : X.mg "enumerate" = none) (ha : SA ct X E [a] L) (hs : starEach [a] X.env = [(false, eval a X.env)] := by rfl) : SWk ct X E (.Tuple elts kk tpos) (.Call (.Name "enumerate" p) [a] [] pos) (iWalkC fEnum L) :=
  ⟨(pi_enum (elts := elts) (kk := kk) (tpos := tpos) (p := p) (pos := pos) hg hm ha.pa hs).both (pi_enumT hg hm ha.pa hs) fun σ H R ⟨m, env, st, re, rs, fin⟩ => by
    have hf := fin.bind
    cases hA : L env st with
    | bad => rw [hA] at hf; exact hf.elim
    | exn e' st' => exact .inl ⟨m, env, st, re, rs, by rw [hA] at hf ⊢; exact hf⟩
    | ok ds st1 =>
      rw [hA] at hf
      have hf : ∀ m1 H1, Grow m H m1 H1 → RS (gx ct X) m1 H1 st1 → Fin (gx ct X) E m1 H1 (fEnum ds st1) _ := hf
      unfold fEnum at hf
      split at hf
      · rename_i d
        split at hf
        · rename_i k wk hk
          cases k with
          | false =>
            refine .inl ⟨m, env, st, re, rs, ?_⟩
            rw [hA]
            intro m1 H1 g1 rs1 vs rv
            cases rv with
            | cons r1 r2 =>
              cases r2
              obtain ⟨a, rfl, ⟨xs, hs⟩, ok⟩ := wkL_of rs1 r1 hk
              exact ⟨a, xs, rfl, hs, Fin.here (hf m1 H1 g1 rs1) rs1 _ (wk_enumL ok)⟩
          | true =>
            refine .inr ⟨m, env, st, re, rs, ?_⟩
            rw [hA]
            intro m1 H1 g1 rs1 vs rv
            cases rv with
            | cons r1 r2 =>
              cases r2
              obtain ⟨a, rfl, ⟨xs, hs⟩, ok⟩ := wkT_of rs1 r1 hk
              exact ⟨a, xs, rfl, hs, Fin.here (hf m1 H1 g1 rs1) rs1 _ (wk_enumT ok)⟩
        · refine .inl ⟨m, env, st, re, rs, ?_⟩
          rw [hA]
          exact fun m1 H1 g1 rs1 => (hf m1 H1 g1 rs1).elim
      · refine .inl ⟨m, env, st, re, rs, ?_⟩
        rw [hA]
        exact fun m1 H1 g1 rs1 => (hf m1 H1 g1 rs1).elim⟩
def wkZip (wk wk' : Wk) : Wk := fun i st => match wk i st, wk' i st with
  | some (some d), some (some e) => some (some (.tup [d, e]))
  | some none, some _ => some none
  | some (some _), some none => some none
  | _, _ => none
theorem wk_zipL {g : G0} {m0 : Mp} {H0 : Hp} {a b : Addr} {wk wk' : Wk} (h : WkOk g m0 H0 (Itl g.K a) wk) (h' : WkOk g m0 H0 (Itl g.K b) wk') : WkOk g m0 H0 (Itz g.K a b) (wkZip wk wk') := fun i m H st mv rs => by
  have q := h i m H st mv rs
  have q' := h' i m H st mv rs
  unfold wkZip
  cases e : wk i st with
  | none => trivial
  | some o =>
    cases e' : wk' i st with
    | none => cases o <;> trivial
    | some o' =>
      rw [e] at q
      rw [e'] at q'
      cases o with
      | none =>
        obtain ⟨xs, hx, hl⟩ := q
        cases o' with
        | none => obtain ⟨ys, hy, _⟩ := q'; exact ⟨xs, ys, hx, hy, .inl hl⟩
        | some d' => obtain ⟨⟨ys, y, hy, _⟩, _⟩ := q'; exact ⟨xs, ys, hx, hy, .inl hl⟩
      | some d =>
        cases o' with
        | none => obtain ⟨ys, hy, hl⟩ := q'; obtain ⟨⟨xs, x, hx, _⟩, _⟩ := q; exact ⟨xs, ys, hx, hy, .inr hl⟩
        | some d' =>
          obtain ⟨⟨xs, x, hx, ex⟩, f⟩ := q
          obtain ⟨⟨ys, y, hy, ey⟩, f'⟩ := q'
          refine ⟨⟨xs, ys, x, y, hx, hy, ex, ey⟩, fun v H' yy => ?_⟩
          obtain ⟨T, x1, y1, rfl, hT, rfl, h1, h2⟩ := yy
          obtain ⟨_, _, r1⟩ := f x1 H ⟨rfl, h1⟩
          obtain ⟨_, _, r2⟩ := f' y1 H ⟨rfl, h2⟩
          have gr : Grow m H m (upd H T (.tup [x1, y1])) := Grow.laid hT
          exact ⟨rs.laid hT, gr, .tup upd_same (.cons (r1.mono gr) (.cons (r2.mono gr) .nil))⟩
theorem wk_zipT {g : G0} {m0 : Mp} {H0 : Hp} {a b : Addr} {wk wk' : Wk} (h : WkOk g m0 H0 (Itt g.K a) wk) (h' : WkOk g m0 H0 (Itt g.K b) wk') : WkOk g m0 H0 (ItzT g.K a b) (wkZip wk wk') := fun i m H st mv rs => by
  have q := h i m H st mv rs
  have q' := h' i m H st mv rs
  unfold wkZip
  cases e : wk i st with
  | none => trivial
  | some o =>
    cases e' : wk' i st with
    | none => cases o <;> trivial
    | some o' =>
      rw [e] at q
      rw [e'] at q'
      cases o with
      | none =>
        obtain ⟨xs, hx, hl⟩ := q
        cases o' with
        | none => obtain ⟨ys, hy, _⟩ := q'; exact ⟨xs, ys, hx, hy, .inl hl⟩
        | some d' => obtain ⟨⟨ys, y, hy, _⟩, _⟩ := q'; exact ⟨xs, ys, hx, hy, .inl hl⟩
      | some d =>
        cases o' with
        | none => obtain ⟨ys, hy, hl⟩ := q'; obtain ⟨⟨xs, x, hx, _⟩, _⟩ := q; exact ⟨xs, ys, hx, hy, .inr hl⟩
        | some d' =>
          obtain ⟨⟨xs, x, hx, ex⟩, f⟩ := q
          obtain ⟨⟨ys, y, hy, ey⟩, f'⟩ := q'
          refine ⟨⟨xs, ys, x, y, hx, hy, ex, ey⟩, fun v H' yy => ?_⟩
          obtain ⟨T, x1, y1, rfl, hT, rfl, h1, h2⟩ := yy
          obtain ⟨_, _, r1⟩ := f x1 H ⟨rfl, h1⟩
          obtain ⟨_, _, r2⟩ := f' y1 H ⟨rfl, h2⟩
          have gr : Grow m H m (upd H T (.tup [x1, y1])) := Grow.laid hT
          exact ⟨rs.laid hT, gr, .tup upd_same (.cons (r1.mono gr) (.cons (r2.mono gr) .nil))⟩
def fZip : List D → Sto → Rs Wk
  | [d, e], st => match seqWk2 st d, seqWk2 st e with
    | some (true, wk), some (true, wk') => .ok (wkZip wk wk') st
    | some (false, wk), some (false, wk') => .ok (wkZip wk wk') st
    | _, _ => .bad
  | _, _ => .bad
theorem w_zip (hg : Gl X "zip") (hm : X.mg "zip" = none) (ha : SA ct X E [a, b] L) (hs : starEach [a, b] X.env = (false, eval a X.env) :: starEach [b] X.env := by rfl) (hpl : (backTo pos (starEach [b] X.env)).any (·.1) = false := by rfl) :
    SWk ct X E (.Tuple elts kk tpos) (.Call (.Name "zip" p) [a, b] [] pos) (iWalkC fZip L) :=
  ⟨(pi_zipA hg hm ha.pa hs hpl).imp fun σ H R ⟨m, env, st, re, rs, fin⟩ => ⟨m, env, st, re, rs, fin.bind.imp fun m1 H1 ds st1 g1 rs1 q vs rv => by
    unfold fZip at q
    split at q
    · cases rv with
      | cons r1 r2 =>
        cases r2 with
        | cons r2 r3 =>
          cases r3
          split at q
          · rename_i k1 k2
            obtain ⟨a, rfl, ⟨xs, hx⟩, o1⟩ := wkT_of rs1 r1 k1
            obtain ⟨b, rfl, ⟨ys, hy⟩, o2⟩ := wkT_of rs1 r2 k2
            exact ⟨a, b, xs, ys, rfl, .inr ⟨hx, hy, Fin.here q rs1 _ (wk_zipT o1 o2)⟩⟩
          · rename_i k1 k2
            obtain ⟨a, rfl, ⟨xs, hx⟩, o1⟩ := wkL_of rs1 r1 k1
            obtain ⟨b, rfl, ⟨ys, hy⟩, o2⟩ := wkL_of rs1 r2 k2
            exact ⟨a, b, xs, ys, rfl, .inl ⟨hx, hy, Fin.here q rs1 _ (wk_zipL o1 o2)⟩⟩
          · exact q.elim
    · exact q.elim⟩⟩
end
end QI

namespace QI
open PySem PySem.Spec PyProof.Rows L2

/-! ### is of bools -/
section
variable {ct : String → Addr} {X : Cx} {E : EK} {pos : Pos} {a b c e : Expr} {A B C : IE}
def gIsB : D → D → Sto → Rs D
  | .bl x, .bl y, st => .ok (.bl (decide (x = y))) st
  | _, .bl _, st => .ok (.bl false) st
  | d, .non, st => .ok (.bl d.isNon) st
  | _, _, _ => .bad
theorem op_isB : OpR X (compareOp .Is) (fun x y H Q => ∃ b, y = .bl b ∧ (∀ a, x ≠ .flt a) ∧ (∀ a, x ≠ .byt a) ∧ Q (.bl (decide (x = .bl b))) H) := by
  intro pins s σ H x y v u Q I rx ry h
  obtain ⟨b, rfl, n1, n2, q⟩ := h
  cases ry
  cases x with
  | non => cases rx; exact wpAny_pure (a := Value.bool false) ⟨.bl false, H, I, rfl, by simpa using q⟩
  | bl a =>
    cases rx
    refine is_bool ⟨.bl (a == b), H, I, rfl, ?_⟩
    have e : decide (V.bl a = V.bl b) = (a == b) := dec_bl
    rw [← e]; exact q
  | int a => obtain ⟨t, rfl⟩ := rx; exact wpAny_pure (a := Value.bool false) ⟨.bl false, H, I, rfl, by simpa using q⟩
  | str a => obtain ⟨t, rfl⟩ := rx; exact wpAny_pure (a := Value.bool false) ⟨.bl false, H, I, rfl, by simpa using q⟩
  | byt a => exact absurd rfl (n2 a)
  | flt a => exact absurd rfl (n1 a)
  | ref a => cases rx; exact wpAny_pure (a := Value.bool false) ⟨.bl false, H, I, rfl, by simpa using q⟩
  | ty a => cases rx; exact wpAny_pure (a := Value.bool false) ⟨.bl false, H, I, rfl, by simpa using q⟩
theorem plain_of {K : PySem.W.Frag} {m : Mp} {H : Hp} {d : D} {v : V} (h : RV K m H d v) : (∀ a, v ≠ .flt a) ∧ (∀ a, v ≠ .byt a) := by
  cases h <;> exact ⟨(fun _ z => by cases z), (fun _ z => by cases z)⟩
theorem c_isB : CmpR ct X E .Is gIsB := ⟨_, op_isB.or op_isN, fun m H st d e x y Q rs rx ry fin => by
  unfold gIsB at fin
  split at fin
  · cases rx; cases ry
    refine .inl ⟨_, rfl, (plain_of (.bl _ : RV X.K m H _ _)).1, (plain_of (.bl _ : RV X.K m H _ _)).2, ?_⟩
    have q := fin.here rs _ (.bl _)
    rename_i x y
    rw [show decide (V.bl x = V.bl y) = decide (x = y) by simp]
    exact q
  · rename_i dd bb hn
    cases ry
    refine .inl ⟨_, rfl, (plain_of rx).1, (plain_of rx).2, ?_⟩
    have q := fin.here rs _ (.bl _)
    have hne : x ≠ .bl bb := fun z => by
      subst z
      cases rx
      exact hn _ rfl
    rw [decide_eq_false hne]
    exact q
  · cases ry
    exact .inr ⟨rfl, by rw [isNon_of rx]; exact fin.here rs _ (.bl _)⟩
  · exact fin.elim⟩

/-! ### isinstance with a built-in class -/
def D.kind (st : Sto) : D → Option String
  | .non => some "NoneType"
  | .bl _ => some "bool"
  | .int _ => some "int"
  | .str _ => some "str"
  | .tup _ => some "tuple"
  | .rol _ => some "list"
  | .scr _ => some "list"
  | .ref n => match st[n]? with
    | some (.lst _) => some "list"
    | _ => none
def isK (k T : String) : Bool := k == T || (k == "bool" && T == "int")
def kinds : List String := ["NoneType", "bool", "int", "str", "tuple", "list"]
def types : List String := ["bool", "int", "str", "tuple", "list"]
theorem kit_all : ∀ k ∈ kinds, ∀ T ∈ types, kitB k T = some (isK k T) := by decide +kernel
theorem kind_of {g : G0} {m : Mp} {H : Hp} {st : Sto} {d : D} {x : V} {k : String} (rs : RS g m H st) (r : RV g.K m H d x) (e : d.kind st = some k) : k ∈ kinds ∧ TyX g.K H x (.type k) := by
  cases d with
  | non => cases r; cases e; exact ⟨by decide, .base .non⟩
  | bl b => cases r; cases e; exact ⟨by decide, .base (.bl _)⟩
  | int b => cases r; cases e; exact ⟨by decide, .base (.int _)⟩
  | str b => cases r; cases e; exact ⟨by decide, .base (.str _)⟩
  | tup xs =>
    cases e
    cases r with
    | tup h1 h2 =>
      exact ⟨by decide, .base (.tup h1)⟩
  | rol xs =>
    cases e
    cases r with
    | rol h1 h2 => exact ⟨by decide, .base (.lst h1.2.2)⟩
  | scr xs =>
    cases e
    cases r with
    | scr h1 h2 =>
      rcases h1 with ⟨o, h1⟩ | ⟨o, its, n, h1, h3, _⟩
      · exact ⟨by decide, .base (.frz h1)⟩
      · exact ⟨by decide, .kList h1 h3⟩
  | ref n =>
    simp only [D.kind] at e
    split at e
    · rename_i xs hx
      cases e
      cases r with
      | ref h1 =>
        obtain ⟨vs, _, hH⟩ := rs.rc n _ _ h1 hx
        exact ⟨by decide, .base (.lst hH)⟩
    · cases e
def gIsi (T : String) : D → Sto → Rs D := fun d st => match d.kind st with
  | some k => .ok (.bl (isK k T)) st
  | none => .bad
theorem si_isi (T : String) {p p2 : Pos} {x : Str} (hg : Gl X "isinstance") (hm : X.mg "isinstance" = none) (hT : T ∈ types) (ha : SI ct X E a A) (hb : PE X (.Name x p2) (tC (.ty T)))
    (he : starEach [a, .Name x p2] X.env = (false, eval a X.env) :: starEach [.Name x p2] X.env := by rfl) (he2 : starEach [.Name x p2] X.env = (false, eval (.Name x p2) X.env) :: starEach [] X.env := by rfl) (hpl : (backTo pos (starEach [.Name x p2] X.env)).any (·.1) = false := by rfl) :
    SI ct X E (.Call (.Name "isinstance" p) [a, .Name x p2] [] pos) (iUn (gIsi T) A) :=
  ⟨(pe_callB call_isi hg hm boot_isinstance (pa_cons ha.pe (pa_cons hb pa_nil he2) he) (by decide) (by decide) he hpl).imp fun σ H Q ⟨m, env, st, re, rs, fin⟩ => ⟨m, env, st, re, rs, fin.bind.imp fun m1 H1 d st1 g1 rs1 q v rv => by
    unfold gIsi at q
    split at q
    · rename_i k hk
      obtain ⟨h1, h2⟩ := kind_of rs1 rv hk
      exact ⟨v, .ty T, .type k, .type T, isK k T, rfl, .ty T, h2, kit_ty (kit_all k h1 T hT), q.here rs1 _ (.bl _)⟩
    · exact q.elim⟩⟩
end

/-! ### methods of lists, stores into lists -/
def isLst (st : Sto) : D → Bool
  | .ref n => match st[n]? with
    | some (.lst _) => true
    | _ => false
  | _ => false
section
variable {ct : String → Addr} {X : Cx} {E : EK} {pos apos : Pos} {a b c e o : Expr} {es : List Expr} {A B C O : IE} {L : IL}
def MtS (g : G0) (E : EK) (f : D → List D → Sto → Rs D) (r : V → List V → Hp → VK → Prop) : Prop :=
  ∀ (m : Mp) (H : Hp) (st : Sto) (d : D) (ds : List D) (x : V) (vs : List V) (Q : VK), RS g m H st → RV g.K m H d x → RVs g.K m H ds vs → Fin g E m H (f d ds st) (EndE g Q) → r x vs H Q
def iMeth (f : D → List D → Sto → Rs D) (O : IE) (L : IL) : IE := fun env st => (O env st).bind fun d st1 => if isLst st1 d = true then (L env st1).bind fun ds st2 => f d ds st2 else .bad
theorem lst_ty {g : G0} {m : Mp} {H : Hp} {st : Sto} {d : D} {x : V} (rs : RS g m H st) (r : RV g.K m H d x) (h : isLst st d = true) : tyV g.K "list" x H := by
  cases d with
  | ref n =>
    simp only [isLst] at h
    split at h
    · rename_i xs hx
      cases r with
      | ref h1 =>
        obtain ⟨vs, _, hH⟩ := rs.rc n _ _ h1 hx
        exact .inl ⟨rfl, vs, SqL.of hH⟩
    · cases h
  | _ => simp [isLst] at h
theorem si_meth {name : Str} {id : String} {f : D → List D → Sto → Rs D} {r : V → List V → Hp → VK → Prop} (slot : Slot "list" name id) (hty : typeOf (.builtin id) = pure (.type "method_descriptor")) (hm : MtR X id r) (hr : MtS (gx ct X) E f r) (ho : SI ct X E o O) (ha : SA ct X E (e :: es) L)
    (h : PE X (.Call (.Attribute o name apos) (e :: es) [] pos) (tBM X.K "list" r (tI (gx ct X) E O) (tIA (gx ct X) E L))) :
    SI ct X E (.Call (.Attribute o name apos) (e :: es) [] pos) (iMeth f O L) :=
  ⟨h.imp fun σ H Q ⟨m, env, st, re, rs, fin⟩ => ⟨m, env, st, re, rs, fin.bind.imp fun m1 H1 d st1 g1 rs1 q x rx => by
    split at q
    · rename_i hl
      exact ⟨lst_ty rs1 rx hl, m1, env, st1, re.mono g1, rs1, q.bind.imp fun m2 H2 ds st2 g2 rs2 q2 vs rv => hr m2 H2 st2 d ds x vs Q rs2 (rx.mono g2) rv q2⟩
    · exact q.elim⟩⟩
def setL (st : Sto) (n : Nat) (xs : List D) : Sto := st.set n (.lst xs)
theorem write_lst {g : G0} {m : Mp} {H : Hp} {st : Sto} {n : Nat} {a : Addr} {xs ys : List D} {vs ws : List V} (rs : RS g m H st) (h1 : m.cs[n]? = some a) (hx : st[n]? = some (.lst xs)) (r : RVs g.K m H ys ws) : RS g m (upd H a (.lst ws)) (setL st n ys) ∧ Grow m H m (upd H a (.lst ws)) :=
  rs.write h1 hx fun gr => ⟨ws, r.mono gr, upd_same⟩
def gAppend : D → List D → Sto → Rs D
  | .ref n, [e], st => match st[n]? with
    | some (.lst xs) => if xs.length < 16777216 then .ok .non (setL st n (xs ++ [e])) else .bad
    | _ => .bad
  | _, _, _ => .bad
theorem mts_append {g : G0} : MtS g E gAppend rAppend := fun m H st d ds x vs Q rs rx rv fin => by
  unfold gAppend at fin
  split at fin
  · split at fin
    · rename_i xs hx
      split at fin
      · rename_i hz
        cases rx with
        | ref h1 =>
          cases rv with
          | cons r1 r2 =>
            cases r2
            obtain ⟨ws, r, hH⟩ := rs.rc _ _ _ h1 hx
            obtain ⟨rs', gr⟩ := write_lst (vs := ws) rs h1 hx (r.append (.cons r1 .nil))
            exact ⟨_, ws, _, rfl, rfl, hH, by rw [← r.length, sl_eq]; exact hz, fin m _ gr rs' _ .non⟩
      · exact fin.elim
    · exact fin.elim
  · exact fin.elim
theorem si_append (ho : SI ct X E o O) (ha : SA ct X E (e :: es) L) (hbase : attributeBase o "append" X.env (eval o X.env) = eval o X.env := by rfl)
    (hfew : ((backTo pos (starEach (e :: es) X.env)).all (fun x => !x.1) && (backToKw pos (keywordEach [] X.env)).all (fun x => x.1.isSome)
      && decide ((e :: es).length + ([] : List Keyword).length + (if ([] : List Keyword).isEmpty then 0 else 1) < 30)) = true := by rfl)
    (hline : (apos.endLine == pos.line) = true := by rfl) (hs : starEach (e :: es) X.env = (false, eval e X.env) :: starEach es X.env := by rfl) (hplain : (backTo pos (starEach es X.env)).any (·.1) = false := by rfl) : SI ct X E (.Call (.Attribute o "append" apos) (e :: es) [] pos) (iMeth gAppend O L) :=
  si_meth PySem.F.slot_list_append PySem.F.type_list_append mt_append mts_append ho ha (pe_bm PySem.F.plainAttrs_list PySem.F.slot_list_append PySem.F.type_list_append mt_append ho.pe ha.pa hbase hfew hline hs hplain)
def gExtend : D → List D → Sto → Rs D
  | .ref n, [e], st => match st[n]?, listAt st e with
    | some (.lst xs), some ys => if xs.length + ys.length ≤ 16777216 then .ok .non (setL st n (xs ++ ys)) else .bad
    | _, _ => .bad
  | _, _, _ => .bad
theorem mts_extend {g : G0} : MtS g E gExtend rExtend := fun m H st d ds x vs Q rs rx rv fin => by
  unfold gExtend at fin
  split at fin
  · split at fin
    · rename_i xs ys hx hy
      split at fin
      · rename_i hz
        cases rx with
        | ref h1 =>
          cases rv with
          | cons r1 r2 =>
            cases r2
            obtain ⟨ws, r, hH⟩ := rs.rc _ _ _ h1 hx
            obtain ⟨p, zs, rfl, hp, r'⟩ := list_of rs r1 hy
            obtain ⟨rs', gr⟩ := write_lst (vs := ws) rs h1 hx (r.append r')
            exact ⟨_, p, ws, zs, rfl, rfl, hH, hp, by rw [← r.length, ← r'.length, sl_eq]; exact hz, fin m _ gr rs' _ .non⟩
      · exact fin.elim
    · exact fin.elim
  · exact fin.elim
theorem si_extend (ho : SI ct X E o O) (ha : SA ct X E (e :: es) L) (hbase : attributeBase o "extend" X.env (eval o X.env) = eval o X.env := by rfl)
    (hfew : ((backTo pos (starEach (e :: es) X.env)).all (fun x => !x.1) && (backToKw pos (keywordEach [] X.env)).all (fun x => x.1.isSome)
      && decide ((e :: es).length + ([] : List Keyword).length + (if ([] : List Keyword).isEmpty then 0 else 1) < 30)) = true := by rfl)
    (hline : (apos.endLine == pos.line) = true := by rfl) (hs : starEach (e :: es) X.env = (false, eval e X.env) :: starEach es X.env := by rfl) (hplain : (backTo pos (starEach es X.env)).any (·.1) = false := by rfl) : SI ct X E (.Call (.Attribute o "extend" apos) (e :: es) [] pos) (iMeth gExtend O L) :=
  si_meth PySem.F.slot_list_extend PySem.F.type_list_extend mt_extend mts_extend ho ha (pe_bm PySem.F.plainAttrs_list PySem.F.slot_list_extend PySem.F.type_list_extend mt_extend ho.pe ha.pa hbase hfew hline hs hplain)
/-- o[i] = e -/
def gSetIx (o i v : D) (st : Sto) : Rs Unit := match o, i with
  | .ref n, .int k => match st[n]? with
    | some (.lst xs) => match ixN xs.length k with
      | some j => .ok () (setL st n (xs.set j v))
      | none => .bad
    | _ => .bad
  | _, _ => .bad
def sSetIx (O I A : IE) : IS := fun env st => (A env st).bind fun v st1 => (O env st1).bind fun o st2 => (I env st2).bind fun i st3 => (gSetIx o i v st3).bind fun _ st4 => .ok (.nx env) st4
theorem s_setIx {p : Pos} (ho : SI ct X E o O) (hi : SI ct X E b B) (he : SI ct X E e A)
    (ha : ∀ v, assign (.Subscript o b p) X.env v = (do
      let ov ← holding [v] (eval o X.env)
      let iv ← holding [v, ov] (eval b X.env)
      standAt p
      holding [v, ov, iv] (setItem ov iv v)
      release [v, ov, iv] []) := by intro _; rfl) (hs : swapsWithSole [.Subscript o b p] e pos.line X.env = pure false := by rfl) (hw : swappedStores [.Subscript o b p] e X.env = pure none := by rfl)
    (h1 : (assignEach [.Subscript o b p] X.env).map (·.2) = [assign (.Subscript o b p) X.env] := by rfl) : SS ct X E (.Assign [.Subscript o b p] e pos) (sSetIx O B A) :=
  ⟨(ps_asg he.pe (pg_sub ho.pe hi.pe set_list ha) hs hw h1).imp fun Dn σ H ⟨m, env, st, re, rs, fin⟩ => ⟨m, env, st, re, rs, fin.bind.imp fun m1 H1 d st1 g1 rs1 q v rv =>
    ⟨m1, env, st1, re.mono g1, rs1, q.bind.imp fun m2 H2 o' st2 g2 rs2 q2 x rx => ⟨m2, env, st2, (re.mono g1).mono g2, rs2, q2.bind.imp fun m3 H3 i st3 g3 rs3 q3 y ry => by
      unfold gSetIx at q3
      split at q3
      · split at q3
        · rename_i xs hx
          split at q3
          · rename_i j hj
            have rx' := rx.mono g3
            cases rx' with
            | ref h1 =>
              cases ry
              obtain ⟨ws, r, hH⟩ := rs3.rc _ _ _ h1 hx
              obtain ⟨rs', gr⟩ := write_lst (vs := ws) rs3 h1 hx (r.set j ((rv.mono g2).mono g3))
              exact ⟨_, ws, _, j, rfl, rfl, hH, by rw [← r.length]; exact hj, q3 m3 _ gr rs' σ ((((re.mono g1).mono g2).mono g3).mono gr)⟩
          · exact q3.elim
        · exact q3.elim
      · exact q3.elim⟩⟩⟩⟩
/-- name op= e -/
def sAug (i : Nat) (f : D → D → Sto → Rs D) (A : IE) : IS := fun env st => match env[i]? with
  | some (some d) => (A env st).bind fun e st1 => (f d e st1).bind fun r st2 => .ok (.nx (env.set i (some r))) st2
  | _ => .bad
def gAddI : D → D → Sto → Rs D
  | .int i, .int j, st => .ok (.int (i + j)) st
  | _, _, _ => .bad
theorem s_augAdd (i : Nat) {x : Str} {p' : Pos} (hN : X.N.Nodup) (he : SI ct X E e A) (hi : X.N[i]? = some x := by rfl) (hx : Loc X.env.scope x := by first | exact .inl rfl | exact .inr rfl) (hf : X.fn x = true ∨ X.env.scope.names.lookup x = some .local := by first | exact .inl rfl | exact .inr rfl) :
    SS ct X E (.AugAssign (.Name x p') .Add e pos) (sAug i gAddI A) :=
  ⟨(ps_aug hN hi hx he.pe ip_add hf).imp fun Dn σ H ⟨m, env, st, re, rs, fin⟩ => by
    unfold sAug at fin
    split at fin
    · rename_i d hd
      obtain ⟨v, hv, rv⟩ := re.at_ i d hd
      refine ⟨v, hv, m, env, st, re, rs, fin.bind.imp fun m1 H1 e st1 g1 rs1 q y ry => ?_⟩
      unfold gAddI at q
      split at q
      · cases rv; cases ry
        exact ⟨_, _, rfl, rfl, q.here rs1 _ ((re.mono g1).set (.int _) i)⟩
      · exact q.elim
    · exact fin.elim⟩
end

/-! ### defs -/
/-- what a call gives -/
def spI (g : G0) (n : Nat) (G : List D → Sto → Rs D) : Sp := fun vs H Q _ => ∃ m ds st, ds.length = n ∧ RVs g.K m H ds vs ∧ RS g m H st ∧ Fin g noE m H (G ds st) (EndE g Q)
section
variable {ct : String → Addr} {X : Cx} {E : EK} {pos p : Pos} {a b c e o : Expr} {es : List Expr} {A B C O : IE} {L L2 : IL} {k : Nat} {f : Addr} {fd : FuncData} {ps : List Str} {G : List D → Sto → Rs D} {x : Str} {dvs : List V} {us : List Value} {dds : List D}
/-- a call with n written arguments; dds: the defaults that fill up -/
def iCall (n : Nat) (G : List D → Sto → Rs D) (dds : List D) (L : IL) : IE := fun env st => (L env st).bind fun ds st1 => if ds.length = n then (G (ds ++ dds) st1).strict else .bad
theorem Fin.strictE {α : Type} {g : G0} {m : Mp} {H : Hp} {r : Rs α} {R : Mp → Hp → α → Sto → Prop} (h : Fin g E m H r.strict R) : Fin g noE m H r R := by
  cases r with
  | ok a st => exact h
  | exn e st => exact (show False from h).elim
  | bad => exact h
theorem fn_len {P : Program} {w : World} {K : PySem.W.Frag} {mg : Str → Option Value} {base : Heap} {CX : CXT} {sp : Sp} (F : FnOk P w K mg base CX k f fd ps sp) : ∀ vs H Q E, sp vs H Q E → vs.length = ps.length := F.len
theorem si_call (F : FnOk X.prog X.w X.K X.mg X.base CX0 k f fd ps (spI (gx ct X) ps.length G)) (hr : Room k X.A) (hg : Gl X x) (hm : X.mg x = some (.ref f)) (hk : PySem.W.keepIn X.K (.ref f) = true) (hb : Binds X.K fd ps us) (hd : Vals dvs us) (hdd : ∀ m H, RVs X.K m H dds dvs) (n : Nat) (hn : n + dds.length = ps.length)
    (ha : SA ct X E (e :: es) L) (hl : (e :: es).length = n := by rfl) (hdb : (x == ("__debug__" : Str)) = false := by decide) (he : starEach (e :: es) X.env = (false, eval e X.env) :: starEach es X.env := by rfl) (hpl : (backTo pos (starEach es X.env)).any (·.1) = false := by rfl) :
    SI ct X E (.Call (.Name x p) (e :: es) [] pos) (iCall n G dds L) :=
  ⟨(pe_call F hr hg hm hk hb hd pass0 ha.pa hdb he hpl).imp fun σ H Q ⟨m, env, st, re, rs, fin⟩ => ⟨m, env, st, re, rs, fin.bind.imp fun m1 H1 ds st1 g1 rs1 q vs rv => by
    split at q
    · rename_i hz
      exact ⟨m1, ds ++ dds, st1, by rw [List.length_append, hz, hn], rv.append (hdd _ _), rs1, q.strictE⟩
    · exact q.elim⟩⟩
/-! keywords -/
variable {kws : List Keyword} {ks : List Str} {kpos : Pos} {nm : Option Str}
variable (ct X E) in
structure SK (kws : List Keyword) (I : IL) : Prop where
  pk : PK X kws (tIA (gx ct X) E I)
theorem _root_.L2.PK.imp {X : Cx} {e : List Keyword} {t t' : TA} (h : PK X e t) (f : ∀ σ H Q, t' σ H Q → t σ H Q) : PK X e t' := ⟨fun p pins s σ H Q I q => h.run p pins s σ H Q I (f σ H Q q)⟩
theorem sk_nil : SK ct X E [] iNil := ⟨pk_nil.imp fun σ H Q ⟨m, env, st, re, rs, fin⟩ => Fin.here fin rs _ .nil⟩
theorem sk_cons (ha : SI ct X E e A) (hl : SK ct X E kws L) : SK ct X E (⟨nm, e, kpos⟩ :: kws) (iCons A L) :=
  ⟨(pk_cons ha.pe hl.pk).imp fun σ H Q ⟨m, env, st, re, rs, fin⟩ => ⟨m, env, st, re, rs, fin.bind.imp fun m1 H1 d st1 g1 rs1 q x rx =>
    ⟨m1, env, st1, re.mono g1, rs1, q.bind.imp fun m2 H2 ds st2 g2 rs2 q2 xs rxs => q2.here rs2 _ (.cons (rx.mono g2) rxs)⟩⟩⟩
/-- the keywords stand in the parameters' order, behind the positional ones; n of them in all -/
def iCallK (n : Nat) (G : List D → Sto → Rs D) (L L2 : IL) : IE := fun env st => (L env st).bind fun ds st1 => (L2 env st1).bind fun es st2 => if ds.length + es.length = n then (G (ds ++ es) st2).strict else .bad
theorem si_callK (F : FnOk X.prog X.w X.K X.mg X.base CX0 k f fd ps (spI (gx ct X) ps.length G)) (hr : Room k X.A) (hg : Gl X x) (hm : X.mg x = some (.ref f)) (hk : PySem.W.keepIn X.K (.ref f) = true)
    (hb : KBinds X.K fd ps ks (fun us ws => us ++ ws) (fun vs zs => vs ++ zs)) (ha : SA ct X E (e :: es) L) (hkw : SK ct X E kws L2)
    (hall : (backToKw pos (keywordEach kws X.env)).all (·.1.isSome) = true := by rfl) (hks : (backToKw pos (keywordEach kws X.env)).filterMap (·.1) = ks := by rfl)
    (hdb : (x == ("__debug__" : Str)) = false := by decide) (he : starEach (e :: es) X.env = (false, eval e X.env) :: starEach es X.env := by rfl)
    (hpl : ((backTo pos (starEach (e :: es) X.env)).any (·.1) || (backToKw pos (keywordEach kws X.env)).any (·.1.isNone)) = false := by rfl) : SI ct X E (.Call (.Name x p) (e :: es) kws pos) (iCallK ps.length G L L2) :=
  ⟨(pe_callK F hr hg hm hk hb pass0 ha.pa hkw.pk hall hks hdb he hpl).imp fun σ H Q ⟨m, env, st, re, rs, fin⟩ => ⟨m, env, st, re, rs, fin.bind.imp fun m1 H1 ds st1 g1 rs1 q vs rv =>
    ⟨m1, env, st1, re.mono g1, rs1, q.bind.imp fun m2 H2 es st2 g2 rs2 q2 zs rz => by
      split at q2
      · rename_i hz
        exact ⟨m2, ds ++ es, st2, by rw [List.length_append, hz], (rv.mono g2).append rz, rs2, q2.strictE⟩
      · exact q2.elim⟩⟩⟩
theorem pe_callK0 {sp : Sp} {g : List Value → List Value → List Value} {gV : List V → List V → List V} {tk : TA} (F : FnOk X.prog X.w X.K X.mg X.base CX0 k f fd ps sp) (hr : Room k X.A) (hg : Gl X x) (hm : X.mg x = some (.ref f)) (hk : PySem.W.keepIn X.K (.ref f) = true) (hb : KBinds X.K fd ps ks g gV)
    (hkw : PK X kws tk) (hall : (backToKw pos (keywordEach kws X.env)).all (·.1.isSome) = true := by rfl) (hks : (backToKw pos (keywordEach kws X.env)).filterMap (·.1) = ks := by rfl)
    (hdb : (x == ("__debug__" : Str)) = false := by decide)
    (hpl : ((backTo pos (starEach [] X.env)).any (·.1) || (backToKw pos (keywordEach kws X.env)).any (·.1.isNone)) = false := by rfl) :
    PE X (.Call (.Name x p) [] kws pos) (tCallK sp gV E0 tNil tk) := by
  refine ⟨fun pins s σ H Q I h => ?_⟩
  refine wpAny_Call_Name_kw (ld_glob I hg hm ?_ hdb)
  refine PySem.W.callWith_KW0 (h₀ := X.base) I.ok.mod.kin hk hall ?_ hpl
  refine thn (hkw.run pos pins s σ H _ I h) fun ws s2 ⟨zs, H2, I2, rz, q2⟩ => ⟨I2.kIn, ?_⟩
  rw [hks]
  exact run_fnk (us := []) F hr hb pass0 I2 .nil rz q2
theorem si_callK0 (F : FnOk X.prog X.w X.K X.mg X.base CX0 k f fd ps (spI (gx ct X) ps.length G)) (hr : Room k X.A) (hg : Gl X x) (hm : X.mg x = some (.ref f)) (hk : PySem.W.keepIn X.K (.ref f) = true)
    (hb : KBinds X.K fd ps ks (fun us ws => us ++ ws) (fun vs zs => vs ++ zs)) (hkw : SK ct X E kws L2)
    (hall : (backToKw pos (keywordEach kws X.env)).all (·.1.isSome) = true := by rfl) (hks : (backToKw pos (keywordEach kws X.env)).filterMap (·.1) = ks := by rfl)
    (hdb : (x == ("__debug__" : Str)) = false := by decide)
    (hpl : ((backTo pos (starEach [] X.env)).any (·.1) || (backToKw pos (keywordEach kws X.env)).any (·.1.isNone)) = false := by rfl) : SI ct X E (.Call (.Name x p) [] kws pos) (iCall ps.length G [] L2) :=
  ⟨(pe_callK0 F hr hg hm hk hb hkw.pk hall hks hdb hpl).imp fun σ H Q ⟨m, env, st, re, rs, fin⟩ => ⟨m, env, st, re, rs, fin.bind.imp fun m2 H2 es st2 g2 rs2 q2 zs rz => by
      split at q2
      · rename_i hz
        rw [List.append_nil] at q2
        exact ⟨m2, es, st2, hz, rz, rs2, q2.strictE⟩
      · exact q2.elim⟩⟩
end

end QI

namespace QI
open PySem PySem.Spec PyProof.Rows L2
/-! ### a def's body -/
/-- cells from n on are given out as lists that nobody writes (to a depth) -/
def fz (n : Nat) (st : Sto) : Nat → D → D
  | 0, d => d
  | k + 1, .ref i => if n ≤ i then match st[i]? with
      | some (.lst ds) => .rol (ds.map (fz n st k))
      | _ => .ref i
    else .ref i
  | k + 1, .tup ds => .tup (ds.map (fz n st k))
  | _ + 1, d => d
theorem fz_ok {g : G0} {m : Mp} {H : Hp} {st : Sto} {n : Nat} (rs : RS g m H st) : ∀ (k : Nat) {d : D} {v : V}, RV g.K m H d v → (fz n st k d).lo n = true → RV g.K (m.take n) H (fz n st k d) v
  | 0, d, v, r, h => r.trunc h
  | k + 1, d, v, r, h => by
    have all : ∀ {ds : List D} {vs : List V}, RVs g.K m H ds vs → D.loAll n (ds.map (fz n st k)) = true → RVs g.K (m.take n) H (ds.map (fz n st k)) vs := by
      intro ds
      induction ds with
      | nil => intro vs r _; cases r; exact .nil
      | cons d ds ih =>
        intro vs r h
        cases r with
        | cons r1 r2 =>
          simp only [List.map_cons, D.loAll, Bool.and_eq_true] at h
          exact .cons (fz_ok rs k r1 h.1) (ih r2 h.2)
    cases d with
    | ref i =>
      unfold fz at h ⊢
      split at h
      · rename_i hn
        rw [if_pos hn]
        split at h
        · rename_i ds hd
          cases r with
          | ref h1 =>
            obtain ⟨vs, r', hH⟩ := rs.rc _ _ _ h1 hd
            refine .rol ⟨fun z => ?_, fun z => (rs.hs _ z).1 (List.mem_of_getElem? h1), hH⟩ (all r' (by simpa [D.lo] using h))
            obtain ⟨j, hj⟩ := List.getElem?_of_mem (show _ ∈ m.cs.take n from z)
            have hjn : j < n := by
              have := lt_of_get hj
              rw [List.length_take] at this
              omega
            rw [List.getElem?_take_of_lt hjn] at hj
            have := nd_ix rs.nd hj h1
            omega
        · exact r.trunc h
      · rename_i hn
        rw [if_neg hn]
        exact r.trunc h
    | tup ds =>
      unfold fz at h ⊢
      cases r with
      | tup h1 h2 => exact .tup h1 (all h2 (by simpa [D.lo] using h))
    | non => exact r.trunc h
    | bl _ => exact r.trunc h
    | int _ => exact r.trunc h
    | str _ => exact r.trunc h
    | rol _ => exact r.trunc h
    | scr _ => exact r.trunc h
/-- what a body gives is what is said of the call -/
def Ref (st0 : Sto) (r : Rs Fl) : Rs D → Prop
  | .ok d st' => ∃ d' j k, (r = .ok (.rt d') (st' ++ j) ∨ (∃ e, r = .ok (.nx e) (st' ++ j) ∧ d' = .non)) ∧ fz st'.length (st' ++ j) k d' = d ∧ d.lo st'.length = true ∧ Closed st' ∧ st0.length ≤ st'.length
  | .exn e st' => ∃ j, r = .exn e (st' ++ j) ∧ e.d.lo st'.length = true ∧ Closed st' ∧ st0.length ≤ st'.length
  | .bad => True
theorem Ref.ret {st0 st' j : Sto} {r : Rs Fl} {d : D} (h : r = .ok (.rt d) (st' ++ j)) (h1 : d.lo st'.length = true) (h2 : Closed st') (h3 : st0.length ≤ st'.length) : Ref st0 r (.ok d st') := ⟨d, j, 0, .inl h, rfl, h1, h2, h3⟩
/-- the store stays -/
theorem Ref.same {st j : Sto} {r : Rs Fl} {d : D} (h : r = .ok (.rt d) (st ++ j)) (h1 : d.lo st.length = true) (h2 : Closed st) : Ref st r (.ok d st) := ⟨d, j, 0, .inl h, rfl, h1, h2, Nat.le_refl _⟩
theorem Ref.pure {st : Sto} {r : Rs Fl} {d : D} (h : r = .ok (.rt d) st) (h1 : d.lo st.length = true) (h2 : Closed st) : Ref st r (.ok d st) := ⟨d, [], 0, .inl (by rw [List.append_nil]; exact h), rfl, h1, h2, Nat.le_refl _⟩
theorem Ref.bad {st : Sto} {r : Rs Fl} : Ref st r .bad := trivial
def startE (N : List Str) (ds : List D) : Ev := ds.map some ++ List.replicate (N.length - ds.length) none
theorem RE.start {K : PySem.W.Frag} {m : Mp} {H : Hp} {N : List Str} {ds : List D} {vs : List V} (r : RVs K m H ds vs) : RE K m H (startE N ds) (L2.start N vs) := by
  refine ⟨by unfold startE L2.start; simp [r.length], fun i d e => ?_⟩
  unfold startE at e
  unfold L2.start
  by_cases hi : i < ds.length
  · rw [List.getElem?_append_left (by simpa using hi), List.getElem?_map] at e
    cases q : ds[i]? with
    | none => rw [q] at e; cases e
    | some d' =>
      rw [q] at e
      cases e
      obtain ⟨v, hv, rv⟩ := r.get q
      refine ⟨v, ?_, rv⟩
      rw [List.getElem?_append_left (by rw [List.length_map, ← r.length]; exact hi), List.getElem?_map, hv]; rfl
  · rw [List.getElem?_append_right (by simpa using hi), List.getElem?_replicate] at e
    split at e <;> cases e
section
variable {ct : String → Addr} {P : Program} {w : World} {K : PySem.W.Frag} {mg : Str → Option Value} {base : Heap} {x qual : Str} {st : Stmt} {f : Addr} {fd : FuncData} {N ps : List Str} {k : Nat} {G : List D → Sto → Rs D} {B : IS}
/-- the context of a def's body -/
abbrev bodyX (P : Program) (w : World) (K : PySem.W.Frag) (mg : Str → Option Value) (base : Heap) (N : List Str) (qual : Str) (st : Stmt) (f : Addr) (cdv : Value) (A : Around) (outer : List Env) (s : Shared) (H : Hp) (E : XK) : Cx :=
  (cxOf CX0 P w K mg base N qual (defScope st) f cdv A outer s H E).nox
theorem fin_ref {g : G0} {m : Mp} {H : Hp} {st0 : Sto} {r : Rs Fl} {gd : Rs D} {Q : VK} (hm : m.cs.length = st0.length) (hx : ∀ e s', gd ≠ .exn e s') (hr : Ref st0 r gd) (fin : Fin g noE m H gd (EndE g Q)) : Fin g noE m H r (EndS g { nx := fun _ H' => Q .non H', rt := Q }) := by
  cases gd with
  | bad => exact fin.elim
  | exn e st' => exact absurd rfl (hx e st')
  | ok d st' =>
    obtain ⟨d', j, k, h1, h2, h3, h4, h5⟩ := hr
    have key : ∀ m' H' v, Grow m H m' H' → RS g m' H' (st' ++ j) → RV g.K m' H' d' v → Q v H' := fun m' H' v gr rs rv => by
      have q : RV g.K (m'.take st'.length) H' d v := by rw [← h2]; exact fz_ok rs k rv (by rw [h2]; exact h3)
      exact fin (m'.take st'.length) H' (gr.trunc (by rw [hm]; exact h5)) (rs.trunc h4) v q
    rcases h1 with h1 | ⟨e, h1, rfl⟩
    · rw [h1]
      exact fun m' H' gr rs v rv => key m' H' v gr rs rv
    · rw [h1]
      exact fun m' H' gr rs σ' _ => key m' H' .non gr rs .non
theorem def_ok (F : Fun K x qual st f fd) (S : FnScope N ps (defScope st))
    (hB : ∀ (cdv : Value) (A : Around) (outer : List Env) (s : Shared) (H : Hp) (E : XK), Room k (A.deeper (envOfC qual (defScope st) s.heap.objs.size f cdv)) → SSs ct (bodyX P w K mg base N qual st f cdv A outer s H E) noE (defBody st) B)
    (hG : ∀ (ds : List D) (s : Sto), ds.length = ps.length → Closed s → D.loAll s.length ds = true → (∀ e s', G ds s ≠ .exn e s') ∧ Ref s (B (startE N ds) s) (G ds s)) : FnOk P w K mg base CX0 (k + 1) f fd ps (spI ⟨K, ct, P, w⟩ ps.length G) := by
  refine F.ok S (fun vs H Q E h => ?_) (fun cdv A outer s H vs Q E hr h => ?_)
  · obtain ⟨m, ds, st', h1, h2, _⟩ := h
    rw [← h2.length]; exact h1
  · obtain ⟨m, ds, st', h1, h2, h3, fin⟩ := h
    refine ⟨_, (hB cdv A outer s H E hr).pss, m, startE N ds, st', RE.start h2, h3, ?_⟩
    obtain ⟨hx, href⟩ := hG ds st' h1 h3.closed (by rw [← h3.len]; exact h2.lo)
    cases hg : G ds st' with
    | exn e s' => exact absurd hg (hx e s')
    | ok d s' => rw [hg] at fin href; exact fin_ref h3.len (fun _ _ z => by cases z) href fin
    | bad => rw [hg] at fin; exact fin.elim
end
end QI
namespace QI
open PySem PySem.Spec PyProof.Rows L2
/-! ### what is known of a def -/
/-- the positional values and the keywords' stand in the parameters' order -/
def gK {α : Type} (n l : Nat) (us ws : List α) : List α := if us.length = n ∧ ws.length = l then us ++ ws else []
structure Kn (ct : String → Addr) (P : Program) (w : World) (K : PySem.W.Frag) (mg : Str → Option Value) (base : Heap) (x : Str) (st : Stmt) (ps : List Str) (k : Nat) (G : List D → Sto → Rs D) (f : Addr) (fd : FuncData) : Prop where
  m : mg x = some (.ref f)
  fu : Fun K x x st f fd
  ok : FnOk P w K mg base CX0 k f fd ps (spI ⟨K, ct, P, w⟩ ps.length G)
section
variable {ct : String → Addr} {P : Program} {w : World} {K : PySem.W.Frag} {mg : Str → Option Value} {base : Heap} {x : Str} {st : Stmt} {ps : List Str} {k : Nat} {G : List D → Sto → Rs D} {f : Addr} {fd : FuncData}
theorem kb_of {qual : Str} (F : Fun K x qual st f fd) (ks : List Str) (n l : Nat) (h0 : 0 < ps.length)
    (h : ∀ (kV doc pm : Value) (an : Option Addr) (cdv ct : Value) (us ws : List Value), us.length = n → ws.length = l → bindArgs (PySem.W.fnOf x qual (defArgs st) (defBody st) (defScope st) .none kV doc pm an cdv ct) ⟨us, ks.zip ws⟩ = pure (ps.zip (us ++ ws))) : KBinds K fd ps ks (gK n l) (gK n l) := by
  obtain ⟨oc, od, kV, doc, pm, an, cdv, ct, osl, rfl, lk, hcd⟩ := F.ex
  refine ⟨fun s us ws _ hl => ?_, fun {vs us zs ws} r rz => ?_⟩
  · unfold gK at hl ⊢
    split at hl
    · rename_i hz
      rw [if_pos hz]
      exact .of_eq (h kV doc pm an cdv ct us ws hz.1 hz.2)
    · rw [List.length_nil] at hl; omega
  · unfold gK
    rw [r.length, rz.length]
    split
    · exact r.append rz
    · exact .nil
end
section
variable {ct : String → Addr} {X : Cx} {E : EK} {pos p : Pos} {a b c e o : Expr} {es : List Expr} {L L2 : IL} {k : Nat} {f : Addr} {fd : FuncData} {ps : List Str} {G : List D → Sto → Rs D} {x : Str} {kws : List Keyword} {ks : List Str} {st : Stmt}
/-- f(e, ..), every parameter written -/
theorem si_kn (F : Kn ct X.prog X.w X.K X.mg X.base x st ps k G f fd) (n : Nat) (hr : Room k X.A) (hb : ∀ (kV doc pm : Value) (an : Option Addr) (cdv ct : Value) (us : List Value), us.length = ps.length → bindArgs (PySem.W.fnOf x x (defArgs st) (defBody st) (defScope st) .none kV doc pm an cdv ct) ⟨us, []⟩ = pure (ps.zip us))
    (ha : SA ct X E (e :: es) L) (hn : ps.length = n := by rfl) (hg : Gl X x := by rfl) (hdb : (x == ("__debug__" : Str)) = false := by decide) (he : starEach (e :: es) X.env = (false, eval e X.env) :: starEach es X.env := by rfl) (hpl : (backTo pos (starEach es X.env)).any (·.1) = false := by rfl) :
    SI ct X E (.Call (.Name x p) (e :: es) [] pos) (iCall n G [] L) :=
  ⟨(pe_call F.ok hr hg F.m F.fu.kp (F.fu.binds hb) .nil pass0 ha.pa hdb he hpl).imp fun σ H Q ⟨m, env, st, re, rs, fin⟩ => ⟨m, env, st, re, rs, fin.bind.imp fun m1 H1 ds st1 g1 rs1 q vs rv => by
    split at q
    · rename_i hz
      rw [List.append_nil] at q
      exact ⟨m1, ds, st1, by rw [hz, hn], by rw [List.append_nil]; exact rv, rs1, q.strictE⟩
    · exact q.elim⟩⟩
def iCallKn (n l : Nat) (G : List D → Sto → Rs D) (L L2 : IL) : IE := fun env st => (L env st).bind fun ds st1 => (L2 env st1).bind fun es st2 => if ds.length = n ∧ es.length = l then (G (ds ++ es) st2).strict else .bad
theorem gK_rel {K : PySem.W.Frag} {m : Mp} {H : Hp} {ds es : List D} {vs zs : List V} {n l : Nat} (h : ds.length = n ∧ es.length = l) (r : RVs K m H ds vs) (r' : RVs K m H es zs) : RVs K m H (ds ++ es) (gK n l vs zs) := by
  unfold gK
  rw [if_pos (by rw [← r.length, ← r'.length]; exact h)]
  exact r.append r'
/-- f(e, .., k = v, ..): n written, l by keyword, in the parameters' order -/
theorem si_knK (F : Kn ct X.prog X.w X.K X.mg X.base x st ps k G f fd) (hr : Room k X.A) (n l : Nat) (hnl : n + l = ps.length) (h0 : 0 < ps.length)
    (hb : ∀ (kV doc pm : Value) (an : Option Addr) (cdv ct : Value) (us ws : List Value), us.length = n → ws.length = l → bindArgs (PySem.W.fnOf x x (defArgs st) (defBody st) (defScope st) .none kV doc pm an cdv ct) ⟨us, ks.zip ws⟩ = pure (ps.zip (us ++ ws)))
    (ha : SA ct X E (e :: es) L) (hkw : SK ct X E kws L2) (hg : Gl X x := by rfl)
    (hall : (backToKw pos (keywordEach kws X.env)).all (·.1.isSome) = true := by rfl) (hks : (backToKw pos (keywordEach kws X.env)).filterMap (·.1) = ks := by rfl)
    (hdb : (x == ("__debug__" : Str)) = false := by decide) (he : starEach (e :: es) X.env = (false, eval e X.env) :: starEach es X.env := by rfl)
    (hpl : ((backTo pos (starEach (e :: es) X.env)).any (·.1) || (backToKw pos (keywordEach kws X.env)).any (·.1.isNone)) = false := by rfl) : SI ct X E (.Call (.Name x p) (e :: es) kws pos) (iCallKn n l G L L2) :=
  ⟨(pe_callK F.ok hr hg F.m F.fu.kp (kb_of F.fu ks n l h0 hb) pass0 ha.pa hkw.pk hall hks hdb he hpl).imp fun σ H Q ⟨m, env, st, re, rs, fin⟩ => ⟨m, env, st, re, rs, fin.bind.imp fun m1 H1 ds st1 g1 rs1 q vs rv =>
    ⟨m1, env, st1, re.mono g1, rs1, q.bind.imp fun m2 H2 es st2 g2 rs2 q2 zs rz => by
      split at q2
      · rename_i hz
        exact ⟨m2, ds ++ es, st2, by rw [List.length_append, hz.1, hz.2, hnl], gK_rel hz (rv.mono g2) rz, rs2, q2.strictE⟩
      · exact q2.elim⟩⟩⟩
/-- f(k = v, ..) -/
theorem si_knK0 (F : Kn ct X.prog X.w X.K X.mg X.base x st ps k G f fd) (hr : Room k X.A) (l : Nat) (hnl : l = ps.length) (h0 : 0 < ps.length)
    (hb : ∀ (kV doc pm : Value) (an : Option Addr) (cdv ct : Value) (us ws : List Value), us.length = 0 → ws.length = l → bindArgs (PySem.W.fnOf x x (defArgs st) (defBody st) (defScope st) .none kV doc pm an cdv ct) ⟨us, ks.zip ws⟩ = pure (ps.zip (us ++ ws)))
    (hkw : SK ct X E kws L2) (hg : Gl X x := by rfl)
    (hall : (backToKw pos (keywordEach kws X.env)).all (·.1.isSome) = true := by rfl) (hks : (backToKw pos (keywordEach kws X.env)).filterMap (·.1) = ks := by rfl)
    (hdb : (x == ("__debug__" : Str)) = false := by decide)
    (hpl : ((backTo pos (starEach [] X.env)).any (·.1) || (backToKw pos (keywordEach kws X.env)).any (·.1.isNone)) = false := by rfl) : SI ct X E (.Call (.Name x p) [] kws pos) (iCallKn 0 l G iNil L2) :=
  ⟨(pe_callK0 F.ok hr hg F.m F.fu.kp (kb_of F.fu ks 0 l h0 hb) hkw.pk hall hks hdb hpl).imp fun σ H Q ⟨m, env, st, re, rs, fin⟩ => by
    refine ⟨m, env, st, re, rs, Fin.imp (Fin.bind (show Fin (gx ct X) E m H ((L2 env st).bind _) (EndE (gx ct X) Q) from fin)) fun m2 H2 es st2 g2 rs2 q2 zs rz => ?_⟩
    split at q2
    · rename_i hz
      exact ⟨m2, es, st2, by rw [hz.2, hnl], gK_rel hz .nil rz, rs2, q2.strictE⟩
    · exact q2.elim⟩
/-! list(range(n)) -/
def iListRange (A : IE) : IL := fun env st => (A env st).bind fun d st1 => match d with
  | .int n => if n ≤ 16777216 ∧ 0 ≤ n then .ok ((List.range n.toNat).map fun i => .int (i : Nat)) st1 else .bad
  | _ => .bad
theorem sf_listRange {A : IE} {p2 : Pos} {pos2 : Pos} (hc : X.calm = true) (hg : Gl X "list") (hm : X.mg "list" = none) (hg2 : Gl X "range") (hm2 : X.mg "range" = none) (ha : SI ct X E a A) (na : starEach [a] X.env = (false, eval a X.env) :: starEach [] X.env := by rfl)
    (nb : starEach [.Call (.Name "range" p2) [a] [] pos2] X.env = (false, eval (.Call (.Name "range" p2) [a] [] pos2) X.env) :: starEach [] X.env := by rfl) : SF ct X E (.Call (.Name "list" p) [.Call (.Name "range" p2) [a] [] pos2] [] pos) (iListRange A) :=
  ⟨(pe_listRg hc hg hm (prg_1 hg2 hm2 ha.pe na) nb).imp fun σ H Q ⟨m, env, st, re, rs, fin⟩ => ⟨m, env, st, re, rs, fin.bind.imp fun m1 H1 d st1 g1 rs1 q x rx => by
    split at q
    · rename_i n
      split at q
      · rename_i hz
        cases rx
        have rv : RVs X.K m1 H1 ((List.range n.toNat).map fun i => D.int (i : Nat)) (rgV 0 n) := by
          unfold rgV
          rw [show n - 0 = n by omega]
          have : ∀ l : List Nat, RVs X.K m1 H1 (l.map fun i => D.int (i : Nat)) (l.map fun i => V.int (0 + (i : Nat))) := by
            intro l
            induction l with
            | nil => exact .nil
            | cons i l ih => exact .cons (by show RV X.K m1 H1 (D.int (i : Nat)) (V.int (0 + (i : Nat))); rw [Int.zero_add]; exact .int _) ih
          exact this _
        exact ⟨n, rfl, ⟨by omega, by omega, by omega, by omega, by omega⟩, q.here rs1 _ rv⟩
      · exact q.elim
    · exact q.elim⟩⟩
end
end QI

/-! dicts -/
namespace QI
open PySem PySem.Spec PyProof.Rows L2
section
variable {κ : Type} [DecidableEq κ]
def valD (kvs : List (κ × D)) (k : κ) : Option D := (kvs.find? fun kv => decide (kv.1 = k)).map (·.2)
def putD (kvs : List (κ × D)) (k : κ) (v : D) : List (κ × D) :=
  if (kvs.any fun kv => decide (kv.1 = k)) = true then kvs.map (fun kv => if kv.1 = k then (kv.1, v) else kv) else kvs ++ [(k, v)]
variable {K : PySem.W.Frag} {m : Mp} {H : Hp}
/-- what stands there, on both sides -/
inductive RO (K : PySem.W.Frag) (m : Mp) (H : Hp) : Option D → Option V → Prop
  | none : RO K m H none none
  | some {d : D} {v : V} : RV K m H d v → RO K m H (some d) (some v)
theorem RFs.val {ds : List (κ × D)} {vs : List (κ × V)} (h : RFs K m H ds vs) (k : κ) : RO K m H (valD ds k) (valV vs k) := by
  induction h with
  | nil => exact .none
  | @cons f d v ds vs r _ ih =>
    by_cases e : f = k
    · subst e
      simp only [valD, valV, List.find?_cons, decide_true, Option.map_some]
      exact .some r
    · simp only [valD, valV, List.find?_cons, decide_eq_false e]
      exact ih
theorem RFs.any {ds : List (κ × D)} {vs : List (κ × V)} (h : RFs K m H ds vs) (k : κ) : (ds.any fun kv => decide (kv.1 = k)) = vs.any fun kv => decide (kv.1 = k) := by
  induction h with
  | nil => rfl
  | cons r _ ih => simp only [List.any_cons, ih]
theorem RFs.repl {ds : List (κ × D)} {vs : List (κ × V)} (h : RFs K m H ds vs) (k : κ) {d : D} {v : V} (r : RV K m H d v) : RFs K m H (ds.map fun kv => if kv.1 = k then (kv.1, d) else kv) (vs.map fun kv => if kv.1 = k then (kv.1, v) else kv) := by
  induction h with
  | nil => exact .nil
  | @cons f d' v' ds vs r' _ ih =>
    simp only [List.map_cons]
    by_cases e : f = k
    · simp only [e, if_true]; exact .cons r ih
    · simp only [e, if_false]; exact .cons r' ih
theorem RFs.snoc {ds : List (κ × D)} {vs : List (κ × V)} (h : RFs K m H ds vs) (k : κ) {d : D} {v : V} (r : RV K m H d v) : RFs K m H (ds ++ [(k, d)]) (vs ++ [(k, v)]) := by
  induction h with
  | nil => exact .cons r .nil
  | cons r' _ ih => exact .cons r' ih
theorem RFs.put {ds : List (κ × D)} {vs : List (κ × V)} (h : RFs K m H ds vs) (k : κ) {d : D} {v : V} (r : RV K m H d v) : RFs K m H (putD ds k d) (putK vs k v) := by
  unfold putD putK
  rw [h.any k]
  split
  · exact h.repl k r
  · exact h.snoc k r
theorem RFs.len {ds : List (κ × D)} {vs : List (κ × V)} (h : RFs K m H ds vs) : ds.length = vs.length := by
  induction h with
  | nil => rfl
  | cons _ _ ih => simp [ih]
end
/-- a key -/
def D.key : D → Option Key
  | .int i => some (.inl i)
  | .str x => some (.inr x)
  | _ => none
def D.keys : List D → Option (List Key)
  | [] => some []
  | d :: ds => match d.key, D.keys ds with
    | some k, some ks => some (k :: ks)
    | _, _ => none
section
variable {K : PySem.W.Frag} {m : Mp} {H : Hp}
theorem RV.key {d : D} {v : V} {k : Key} (r : RV K m H d v) (h : d.key = some k) : v = kV k := by
  cases d with
  | int i => cases h; cases r; rfl
  | str i => cases h; cases r; rfl
  | _ => cases h
theorem RVs.keys : ∀ {ds : List D} {vs : List V} {ks : List Key}, RVs K m H ds vs → D.keys ds = some ks → vs = ks.map kV
  | [], _, _, r, h => by cases r; cases h; rfl
  | d :: ds, _, ks, r, h => by
    cases r with
    | cons r1 r2 =>
      simp only [D.keys] at h
      split at h
      · rename_i k ks' hk hks
        cases h
        rw [r1.key hk, r2.keys hks, List.map_cons]
      · cases h
end
/-- what the dict d holds at y -/
def gDat (st : Sto) : D → D → Option (Option D)
  | .ref n, y => match st[n]? with
    | some (.dk kvs) => y.key.map (valD kvs)
    | some (.dt kvs) => match y with
      | .tup ys => (D.keys ys).map (valD kvs)
      | _ => none
    | _ => none
  | _, _ => none
theorem gDat_ok {g : G0} {m : Mp} {H : Hp} {st : Sto} {d y : D} {x v : V} {o : Option D} (rs : RS g m H st) (rx : RV g.K m H d x) (ry : RV g.K m H y v) (h : gDat st d y = some o) : ∃ a ov, x = .ref a ∧ DGet H a v ov ∧ RO g.K m H o ov := by
  cases d with
  | ref n =>
    cases rx with
    | @ref _ a h1 =>
      simp only [gDat] at h
      split at h
      · rename_i kvs hk
        obtain ⟨vs, r, hH⟩ := rs.rc _ _ _ h1 hk
        cases hy : y.key with
        | none => rw [hy] at h; cases h
        | some k =>
          rw [hy] at h
          cases h
          rw [ry.key hy]
          exact ⟨a, _, rfl, .k hH, r.val k⟩
      · rename_i kvs hk
        obtain ⟨vs, r, hH⟩ := rs.rc _ _ _ h1 hk
        split at h
        · rename_i ys
          cases hy : D.keys ys with
          | none => rw [hy] at h; cases h
          | some ks =>
            rw [hy] at h
            cases h
            cases ry with
            | tup h2 h3 =>
              have := h3.keys hy
              subst this
              exact ⟨a, _, rfl, .t hH h2, r.val ks⟩
        · cases h
      · cases h
  | _ => simp [gDat] at h
/-- a rule of two kinds: which, is seen in the values -/
def gOr (c : Sto → D → D → Bool) (f g : D → D → Sto → Rs D) : D → D → Sto → Rs D := fun d e st => if c st d e = true then f d e st else g d e st
section
variable {ct : String → Addr} {X : Cx} {E : EK} {pos : Pos} {a b c e o : Expr} {A B C : IE}
theorem or_tI {c : Sto → D → D → Bool} {f g : D → D → Sto → Rs D} {σ : L2.St} {H : Hp} {Q : VK} (h : tI (gx ct X) E (iBin (gOr c f g) A B) σ H Q) : tI (gx ct X) E (iBin f A B) σ H Q ∨ tI (gx ct X) E (iBin g A B) σ H Q := by
  obtain ⟨m, env, st, re, rs, fin⟩ := h
  cases hA : A env st with
  | bad => refine .inl ⟨m, env, st, re, rs, ?_⟩; unfold iBin at fin ⊢; rw [hA] at fin ⊢; exact fin
  | exn e' s' => refine .inl ⟨m, env, st, re, rs, ?_⟩; unfold iBin at fin ⊢; rw [hA] at fin ⊢; exact fin
  | ok d st1 =>
    cases hB : B env st1 with
    | bad => refine .inl ⟨m, env, st, re, rs, ?_⟩; unfold iBin at fin ⊢; rw [hA] at fin ⊢; simp only [Rs.bind_ok, hB] at fin ⊢; exact fin
    | exn e' s' => refine .inl ⟨m, env, st, re, rs, ?_⟩; unfold iBin at fin ⊢; rw [hA] at fin ⊢; simp only [Rs.bind_ok, hB] at fin ⊢; exact fin
    | ok e st2 =>
      unfold iBin at fin
      simp only [hA, Rs.bind_ok, hB, gOr] at fin
      split at fin
      · exact .inl ⟨m, env, st, re, rs, by unfold iBin; simp only [hA, Rs.bind_ok, hB]; exact fin⟩
      · exact .inr ⟨m, env, st, re, rs, by unfold iBin; simp only [hA, Rs.bind_ok, hB]; exact fin⟩
def isD (st : Sto) : D → Bool
  | .ref n => match st[n]? with
    | some (.dk _) => true
    | some (.dt _) => true
    | _ => false
  | _ => false
def gDix : D → D → Sto → Rs D := fun d y st => match gDat st d y with
  | some (some v) => .ok v st
  | _ => .bad
theorem ops_dix {g : G0} : OpS g E gDix (fun x y H Q => ∃ a v, x = .ref a ∧ DGet H a y (some v) ∧ Q v H) := by
  intro m H st d e x y Q rs rx ry fin
  unfold gDix at fin
  split at fin
  · rename_i v hv
    obtain ⟨a, ov, rfl, hd, ro⟩ := gDat_ok rs rx ry hv
    cases ro with
    | some r => exact ⟨a, _, rfl, hd, fin.here rs _ r⟩
  · exact fin.elim
def gDin (neg : Bool) : D → D → Sto → Rs D := fun y d st => match gDat st d y with
  | some o => .ok (.bl (o.isSome != neg)) st
  | none => .bad
theorem ops_din {g : G0} {neg : Bool} : OpS g E (gDin neg) (fun y x H Q => ∃ a o, x = .ref a ∧ DGet H a y o ∧ Q (.bl (o.isSome != neg)) H) := by
  intro m H st d e x y Q rs rx ry fin
  unfold gDin at fin
  split at fin
  · rename_i o ho
    obtain ⟨a, ov, rfl, hd, ro⟩ := gDat_ok rs ry rx ho
    have : o.isSome = ov.isSome := by cases ro <;> rfl
    rw [this] at fin
    exact ⟨a, _, rfl, hd, fin.here rs _ (.bl _)⟩
  · exact fin.elim
/-- a[b], of rows and of dicts -/
def gIxD : D → D → Sto → Rs D := gOr (fun st d _ => isD st d) gDix gIx
theorem si_ixD (hu : X.A.units + 1 < cLine) (ha : SI ct X E a A) (hb : SI ct X E b B) (hs : PlainIx b := by exact fun _ _ => rfl) (hs2 : NoSl b := by exact fun _ _ => rfl) : SI ct X E (.Subscript a b pos) (iBin gIxD A B) :=
  ⟨(pe_dget hu ha.pe hb.pe hs2).both (pe_ix ix_seq ha.pe hb.pe hs) fun σ H Q h => (or_tI h).imp (fun h => bin_tI ops_dix h) (fun h => bin_tI ops_ix h)⟩
theorem op_in_dict (hu : X.A.units + 1 < cLine) : OpR X (compareOp .In) (fun y x H Q => ∃ a o, x = .ref a ∧ DGet H a y o ∧ Q (.bl (o.isSome != false)) H) := by
  intro pins s σ H y x v u Q I ry rx h
  obtain ⟨a, o, rfl, hd, q⟩ := h
  cases (show u = Value.ref a from rx)
  refine d_in hu I hd ry fun s' I' => ⟨.bl o.isSome, H, I', rfl, ?_⟩
  simpa using q
theorem op_notIn_dict (hu : X.A.units + 1 < cLine) : OpR X (compareOp .NotIn) (fun y x H Q => ∃ a o, x = .ref a ∧ DGet H a y o ∧ Q (.bl (o.isSome != true)) H) := by
  intro pins s σ H y x v u Q I ry rx h
  obtain ⟨a, o, rfl, hd, q⟩ := h
  cases (show u = Value.ref a from rx)
  refine d_notIn hu I hd ry fun s' I' => ⟨.bl (!o.isSome), H, I', rfl, ?_⟩
  cases o <;> simpa using q
theorem ops_or {g : G0} {c : Sto → D → D → Bool} {f f' : D → D → Sto → Rs D} {r r' : R2} (h : OpS g E f r) (h' : OpS g E f' r') : OpS g E (gOr c f f') (fun x y H Q => r x y H Q ∨ r' x y H Q) := by
  intro m H st d e x y Q rs rx ry fin
  unfold gOr at fin
  split at fin
  · exact .inl (h m H st d e x y Q rs rx ry fin)
  · exact .inr (h' m H st d e x y Q rs rx ry fin)
def gInD : D → D → Sto → Rs D := gOr (fun st _ d => isD st d) (gDin false) gInE
def gNotInD : D → D → Sto → Rs D := gOr (fun st _ d => isD st d) (gDin true) gNotInE
/-- in, of rows and of dicts -/
theorem c_inD (hu : X.A.units + 1 < cLine) : CmpR ct X E .In gInD := by
  obtain ⟨r, h1, h2⟩ := c_in (ct := ct) (X := X) (E := E)
  exact ⟨_, (op_in_dict hu).or h1, ops_or ops_din h2⟩
theorem c_notinD (hu : X.A.units + 1 < cLine) : CmpR ct X E .NotIn gNotInD := by
  obtain ⟨r, h1, h2⟩ := c_notin (ct := ct) (X := X) (E := E)
  exact ⟨_, (op_notIn_dict hu).or h1, ops_or ops_din h2⟩
/-- d[y] = v -/
def gDput (st : Sto) (o y v : D) : Option Sto := match o with
  | .ref n => match st[n]? with
    | some (.dk kvs) => match y.key with
      | some k => if kvs.length < 16777216 then some (st.set n (.dk (putD kvs k v))) else none
      | none => none
    | some (.dt kvs) => match y with
      | .tup ys => match D.keys ys with
        | some k => if kvs.length < 16777216 then some (st.set n (.dt (putD kvs k v))) else none
        | none => none
      | _ => none
    | _ => none
  | _ => none
theorem gDput_ok {g : G0} {m : Mp} {H : Hp} {st st' : Sto} {o y v : D} {xo xy xv : V} (rs : RS g m H st) (ro : RV g.K m H o xo) (ry : RV g.K m H y xy) (rv : RV g.K m H v xv) (h : gDput st o y v = some st') :
    ∃ a H', xo = .ref a ∧ DPut H a xy xv H' ∧ RS g m H' st' ∧ Grow m H m H' := by
  unfold gDput at h
  split at h
  · rename_i n
    cases ro with
    | @ref _ a h1 =>
      split at h
      · rename_i kvs hk
        obtain ⟨vs, r, hH⟩ := rs.rc _ _ _ h1 hk
        split at h
        · rename_i k hy
          split at h
          · rename_i hz
            cases h
            rw [ry.key hy]
            obtain ⟨rs', gr⟩ := rs.write (c := .dk (putD kvs k v)) (o := .dK (putK vs k xv)) h1 hk fun gr => ⟨_, (r.moves gr.moves).put k (rv.mono gr), upd_same⟩
            exact ⟨a, _, rfl, .k hH (by rw [← r.len, sl_eq]; exact hz), rs', gr⟩
          · cases h
        · cases h
      · rename_i kvs hk
        obtain ⟨vs, r, hH⟩ := rs.rc _ _ _ h1 hk
        split at h
        · rename_i ys
          split at h
          · rename_i k hy
            split at h
            · rename_i hz
              cases h
              cases ry with
              | tup h2 h3 =>
                have e := h3.keys hy
                subst e
                obtain ⟨rs', gr⟩ := rs.write (c := .dt (putD kvs k v)) (o := .dT (putK vs k xv)) h1 hk fun gr => ⟨_, (r.moves gr.moves).put k (rv.mono gr), upd_same⟩
                exact ⟨a, _, rfl, .t hH h2 (by rw [← r.len, sl_eq]; exact hz), rs', gr⟩
            · cases h
          · cases h
        · cases h
      · cases h
  · cases h
/-- o[i] = v, of lists and of dicts -/
def gSetIxD (o i v : D) (st : Sto) : Rs Unit := if isD st o = true then (match gDput st o i v with
  | some st' => .ok () st'
  | none => .bad) else gSetIx o i v st
theorem _root_.L2.PSet.or {X : Cx} {t t' : TSet} (h : PSet X t) (h' : PSet X t') : PSet X (fun o i v H Q => t o i v H Q ∨ t' o i v H Q) := fun pins s σ H o i v ov iv u Q I ro ri rv q => q.elim (h pins s σ H o i v ov iv u Q I ro ri rv) (h' pins s σ H o i v ov iv u Q I ro ri rv)
def rSet2 : TSet := fun o i v H Q => rSetD o i v H Q ∨ rSetL o i v H Q
theorem set_ok {g : G0} {m : Mp} {H : Hp} {st : Sto} {o i v : D} {xo xi xv : V} {Q : Hp → Prop} {R : Mp → Hp → Unit → Sto → Prop} (rs : RS g m H st) (ro : RV g.K m H o xo) (ri : RV g.K m H i xi) (rv : RV g.K m H v xv) (fin : Fin g E m H (gSetIxD o i v st) R)
    (h : ∀ m' H' st', Grow m H m' H' → RS g m' H' st' → R m' H' () st' → Q H') : rSet2 xo xi xv H Q := by
  unfold gSetIxD at fin
  split at fin
  · split at fin
    · rename_i st' hst
      obtain ⟨a, H', rfl, hp, rs', gr⟩ := gDput_ok rs ro ri rv hst
      exact .inl ⟨a, H', rfl, hp, h m H' st' gr rs' (fin m H' gr rs')⟩
    · exact fin.elim
  · unfold gSetIx at fin
    split at fin
    · split at fin
      · rename_i xs hx
        split at fin
        · rename_i j hj
          cases ro with
          | ref h1 =>
            cases ri
            obtain ⟨ws, r, hH⟩ := rs.rc _ _ _ h1 hx
            obtain ⟨rs', gr⟩ := write_lst (vs := ws) rs h1 hx (r.set j rv)
            exact .inr ⟨_, ws, _, j, rfl, rfl, hH, by rw [← r.length]; exact hj, h m _ _ gr rs' (fin m _ gr rs')⟩
        · exact fin.elim
      · exact fin.elim
    · exact fin.elim
def sSetIxD (O I A : IE) : IS := fun env st => (A env st).bind fun v st1 => (O env st1).bind fun o st2 => (I env st2).bind fun i st3 => (gSetIxD o i v st3).bind fun _ st4 => .ok (.nx env) st4
theorem s_setIxD {O : IE} {p : Pos} (hu : X.A.units + 1 < cLine) (ho : SI ct X E o O) (hi : SI ct X E b B) (he : SI ct X E e A)
    (ha : ∀ v, assign (.Subscript o b p) X.env v = (do
      let ov ← holding [v] (eval o X.env)
      let iv ← holding [v, ov] (eval b X.env)
      standAt p
      holding [v, ov, iv] (setItem ov iv v)
      release [v, ov, iv] []) := by intro _; rfl) (hs : swapsWithSole [.Subscript o b p] e pos.line X.env = pure false := by rfl) (hw : swappedStores [.Subscript o b p] e X.env = pure none := by rfl)
    (h1 : (assignEach [.Subscript o b p] X.env).map (·.2) = [assign (.Subscript o b p) X.env] := by rfl) : SS ct X E (.Assign [.Subscript o b p] e pos) (sSetIxD O B A) :=
  ⟨(ps_asg he.pe (pg_sub ho.pe hi.pe ((set_dict hu).or set_list) ha) hs hw h1).imp fun Dn σ H ⟨m, env, st, re, rs, fin⟩ => ⟨m, env, st, re, rs, fin.bind.imp fun m1 H1 d st1 g1 rs1 q v rv =>
    ⟨m1, env, st1, re.mono g1, rs1, q.bind.imp fun m2 H2 o' st2 g2 rs2 q2 x rx => ⟨m2, env, st2, (re.mono g1).mono g2, rs2, q2.bind.imp fun m3 H3 i st3 g3 rs3 q3 y ry =>
      set_ok rs3 (rx.mono g3) ry ((rv.mono g2).mono g3) q3.bind fun m' H' st' gr rs' q4 => q4.here rs' σ ((((re.mono g1).mono g2).mono g3).mono gr)⟩⟩⟩⟩
theorem get_list : PGet X (rIxL X.K) := by
  intro pins s σ H x y v u Q I rx ry h
  obtain ⟨p, xs, i, z, rfl, rfl, hq, he, q⟩ := h
  cases rx
  obtain ⟨t, rfl⟩ := ry
  obtain ⟨its, r, pl, hz⟩ := I.list hq
  obtain ⟨j, h1, h2, h3, h4, h5⟩ := atI_get he
  obtain ⟨w, ew, rw'⟩ := r.get h2
  have hl := r.length
  have hn := line63
  have fin : EP X pins σ Q w s := ⟨z, H, I, rw', q⟩
  by_cases h0 : 0 ≤ i
  · have hj : i.toNat = j := by
      rw [seqIndex_of h0 h5] at h1
      exact Option.some.inj h1
    exact wpAny_getItem_list pl.isList h0 (by omega) (by rw [hj]; simpa using ew) fin
  · have hj : (i + (its.toArray.size : Int)).toNat = j := by
      rw [seqIndex_neg (by omega) h4] at h1
      rw [List.size_toArray, ← hl]
      exact Option.some.inj h1
    exact wpAny_getItem_list_neg pl.isList (by omega) (by rw [List.size_toArray] <;> omega) (by omega) (by rw [hj]; simpa using ew) fin
theorem get_dict (hu : X.A.units + 1 < cLine) : PGet X (fun x y H Q => ∃ a v, x = .ref a ∧ DGet H a y (some v) ∧ Q v H) := by
  intro pins s σ H x y v u Q I rx ry h
  obtain ⟨a, z, rfl, hd, q⟩ := h
  cases (show v = Value.ref a from rx)
  exact d_getItem hu I hd ry fun w' s' I' rw' => ⟨z, H, I', rw', q⟩
theorem _root_.L2.PGet.or {t t' : V → V → Hp → VK → Prop} (h : PGet X t) (h' : PGet X t') : PGet X (fun x y H Q => t x y H Q ∨ t' x y H Q) := fun pins s σ H x y v u Q I rx ry q => q.elim (h pins s σ H x y v u Q I rx ry) (h' pins s σ H x y v u Q I rx ry)
def gGetL : D → D → Sto → Rs D := fun d y st => match y with
  | .int i => match listAt st d with
    | some xs => match atI xs i with
      | some v => .ok v st
      | none => .bad
    | none => .bad
  | _ => .bad
theorem ops_getL {g : G0} : OpS g E gGetL (rIxL g.K) := by
  intro m H st d e x y Q rs rx ry fin
  unfold gGetL at fin
  split at fin
  · cases ry
    split at fin
    · rename_i xs hq
      split at fin
      · rename_i v hv
        obtain ⟨p, vs, rfl, hs, r⟩ := list_of rs rx hq
        obtain ⟨w, hw, rw'⟩ := r.atI hv
        exact ⟨p, vs, _, w, rfl, rfl, SqL.of hs, hw, fin.here rs _ rw'⟩
      · exact fin.elim
    · exact fin.elim
  · exact fin.elim
def gGetD : D → D → Sto → Rs D := gOr (fun st d _ => isD st d) gDix gGetL
/-- o[i] += e -/
def sAugIx (f : D → D → Sto → Rs D) (O I A : IE) : IS := fun env st => (O env st).bind fun o st1 => (I env st1).bind fun i st2 => (gGetD o i st2).bind fun x st3 => (A env st3).bind fun y st4 => (f x y st4).bind fun z st5 => (gSetIxD o i z st5).bind fun _ st6 => .ok (.nx env) st6
theorem s_augIx {O : IE} {p : Pos} (hu : X.A.units + 1 < cLine) (ho : SI ct X E o O) (hi : SI ct X E b B) (he : SI ct X E e A)
    (ha : ∀ ov iv new, augStore b ov iv new = (do holding [new, ov, iv] (setItem ov iv new); release [new, ov, iv] []; pure .next) := by intros; rfl) : SS ct X E (.AugAssign (.Subscript o b p) .Add e pos) (sAugIx gAddI O B A) :=
  ⟨(ps_augS ho.pe hi.pe ((get_dict hu).or get_list) he.pe ip_add ((set_dict hu).or set_list) ha).imp fun Dn σ H ⟨m, env, st, re, rs, fin⟩ => ⟨m, env, st, re, rs, fin.bind.imp fun m1 H1 o' st1 g1 rs1 q xo ro =>
    ⟨m1, env, st1, re.mono g1, rs1, q.bind.imp fun m2 H2 i st2 g2 rs2 q2 xi ri => by
      show (fun x y H Q => (∃ a v, x = .ref a ∧ DGet H a y (some v) ∧ Q v H) ∨ rIxL (gx ct X).K x y H Q) xo xi H2 (fun x H3 => tI (gx ct X) E A σ H3 fun y H4 => ipI (fun i j => i + j) x y H4 fun z H5 => rSet2 xo xi z H5 fun H6 => Dn.nx σ H6)
      refine (ops_or (E := E) (g := gx ct X) ops_dix ops_getL) m2 H2 st2 o' i xo xi (fun x H3 => tI (gx ct X) E A σ H3 fun y H4 => ipI (fun i j => i + j) x y H4 fun z H5 => rSet2 xo xi z H5 fun H6 => Dn.nx σ H6) rs2 (ro.mono g2) ri (Fin.imp (Fin.bind q2) fun m3 H3 x st3 g3 rs3 q3 xv rx => ?_)
      refine ⟨m3, env, st3, ((re.mono g1).mono g2).mono g3, rs3, Fin.imp (Fin.bind q3) fun m4 H4 y st4 g4 rs4 q4 yv ry => ?_⟩
      unfold gAddI at q4
      split at q4
      · have rx' := rx.mono g4
        cases rx'; cases ry
        simp only [Rs.bind_ok] at q4
        exact ⟨_, _, rfl, rfl, set_ok rs4 (((ro.mono g2).mono g3).mono g4) ((ri.mono g3).mono g4) (.int _) q4.bind fun m' H' st' gr rs' q5 => q5.here rs' σ (((((re.mono g1).mono g2).mono g3).mono g4).mono gr)⟩
      · exact q4.elim⟩⟩⟩
end
end QI

/-! dict displays -/
namespace QI
open PySem PySem.Spec PyProof.Rows L2
section
variable {g : G0} {m : Mp} {H : Hp} {st : Sto}
theorem Moves.addD {K : PySem.W.Frag} {p : Addr} {o o0 : HO} (hp : H p = some o0) (h1 : ∀ xs, o0 ≠ .tup xs) (h2 : ∀ xs, o0 ≠ .lst xs) (h3 : ∀ u xs, o0 ≠ .frz u (.lst xs)) : Moves K m H (m.add p) (upd H p o) where
  tup := fun a xs h => by
    have h : H a = some (.tup xs) := h
    show upd H p o a = _
    rw [upd_ne (fun z => by rw [z, hp] at h; exact h1 xs (Option.some.inj h))]; exact h
  rol := fun a xs h => by
    have hne : a ≠ p := fun z => by
      have := h.2.2
      rw [z, hp] at this
      exact h2 xs (Option.some.inj this)
    refine ⟨fun z => ?_, h.2.1, by rw [upd_ne hne]; exact h.2.2⟩
    rcases List.mem_append.mp z with z | z
    · exact h.1 z
    · simp at z; exact hne z
  scr := fun a xs h => by
    rcases h with ⟨u, h⟩ | h
    · exact .inl ⟨u, by rw [upd_ne (fun z => by rw [z, hp] at h; exact h3 u xs (Option.some.inj h))]; exact h⟩
    · exact .inr h
  ref := fun n a h => by
    show (m.cs ++ [p])[n]? = some a
    rw [List.getElem?_append_left (lt_of_get h)]; exact h
theorem RS.adoptD (h : RS g m H st) {p : Addr} {o o0 : HO} (hp : H p = some o0) (h1 : ∀ xs, o0 ≠ .tup xs) (h2 : ∀ xs, o0 ≠ .lst xs) (h3 : ∀ u xs, o0 ≠ .frz u (.lst xs)) (hn : p ∉ m.cs) (hr : p ∉ m.rs) {c : Cell} (r : RC g (m.add p) (upd H p o) p c) : RS g (m.add p) (upd H p o) (st ++ [c]) := by
  refine ⟨by simp [Mp.add, h.len], ?_, fun a ha => ?_, fun n a c' e1 e2 => ?_⟩
  · show (m.cs ++ [p]).Nodup
    rw [List.nodup_append]
    exact ⟨h.nd, by simp, fun a ha b hb => by simp at hb; subst hb; exact fun z => hn (z ▸ ha)⟩
  · obtain ⟨k1, o', k2⟩ := h.hs a ha
    have hne : a ≠ p := fun z => hr (by rw [← z]; exact ha)
    refine ⟨fun z => ?_, o', by rw [upd_ne hne]; exact k2⟩
    rcases List.mem_append.mp z with z | z
    · exact k1 z
    · simp at z; exact hne z
  · have e1 : (m.cs ++ [p])[n]? = some a := e1
    by_cases hl : n < m.cs.length
    · rw [List.getElem?_append_left hl] at e1
      rw [List.getElem?_append_left (by rw [← h.len]; exact hl)] at e2
      have hne : a ≠ p := fun z => hn (by rw [← z]; exact List.mem_of_getElem? e1)
      exact (h.rc n a c' e1 e2).moves (Moves.addD hp h1 h2 h3) (upd_ne hne)
    · have hn' : n = m.cs.length := by
        by_cases q : n = m.cs.length
        · exact q
        · rw [List.getElem?_eq_none (by simp; omega)] at e1; cases e1
      subst hn'
      rw [List.getElem?_append_right (Nat.le_refl _)] at e1
      rw [h.len, List.getElem?_append_right (Nat.le_refl _)] at e2
      simp at e1 e2
      subst e1 e2
      exact r
theorem Grow.adoptD {m2 : Mp} {H2 : Hp} {p : Addr} {o o0 : HO} (hp : H p = none) (gr : Grow m (upd H p o0) m2 H2) : Grow m H (m2.add p) (upd H2 p o) where
  pre := gr.pre.trans (List.prefix_append _ _)
  rsv := gr.rsv
  frame := fun a u ha e => by
    have hne := ne_of_none e hp
    rw [upd_ne hne]
    exact gr.frame a u ha (by rw [upd_ne hne]; exact e)
  new := fun a ha => by
    rcases List.mem_append.mp ha with z | z
    · rcases gr.new a z with q | q
      · exact .inl q
      · by_cases hne : a = p
        · subst hne; exact .inr hp
        · rw [upd_ne hne] at q; exact .inr q
    · simp at z; subst z; exact .inr hp
  tup := fun a xs e => by
    have hne := ne_of_none e hp
    rw [upd_ne hne]
    exact gr.tup a xs (by rw [upd_ne hne]; exact e)
  frz := fun a u xs e => by
    have hne := ne_of_none e hp
    rw [upd_ne hne]
    exact gr.frz a u xs (by rw [upd_ne hne]; exact e)
end
abbrev IP := Ev → Sto → Rs (List (D × D))
inductive RPs (K : PySem.W.Frag) (m : Mp) (H : Hp) : List (D × D) → List (V × V) → Prop
  | nil : RPs K m H [] []
  | cons {d e : D} {v u : V} {ds : List (D × D)} {vs : List (V × V)} : RV K m H d v → RV K m H e u → RPs K m H ds vs → RPs K m H ((d, e) :: ds) ((v, u) :: vs)
section
variable {ct : String → Addr} {X : Cx} {E : EK} {pos : Pos} {a b : Expr} {A B : IE} {ks : List (Option Expr)} {vs : List Expr} {I : IP}
variable (ct X E) in
structure SPr (pos : Pos) (keys : List (Option Expr)) (values : List Expr) (I : IP) : Prop where
  ex : ∃ trs, PPs X pos keys values trs ∧ ∀ (σ : L2.St) (H : Hp) (Q : List (V × V) → Hp → Prop), (∃ m env st, RE X.K m H env σ ∧ RS (gx ct X) m H st ∧ Fin (gx ct X) E m H (I env st) (fun m' H' ps _ => ∀ vs, RPs X.K m' H' ps vs → Q vs H')) → tPairs trs σ H Q
def ipNil : IP := fun _ st => .ok [] st
def ipCons (A B : IE) (I : IP) : IP := fun env st => (A env st).bind fun d st1 => (B env st1).bind fun e st2 => (I env st2).bind fun ps st3 => .ok ((d, e) :: ps) st3
theorem sps_nilD : SPr ct X E pos [] [] ipNil := ⟨[], pps_nil, fun σ H Q ⟨m, env, st, re, rs, fin⟩ => Fin.here fin rs _ .nil⟩
theorem sps_consD (ha : SI ct X E a A) (hb : SI ct X E b B) (hr : SPr ct X E pos ks vs I) : SPr ct X E pos (some a :: ks) (b :: vs) (ipCons A B I) := by
  obtain ⟨trs, h1, h2⟩ := hr.ex
  exact ⟨_, pps_cons ha.pe hb.pe h1, fun σ H Q ⟨m, env, st, re, rs, fin⟩ => ⟨m, env, st, re, rs, fin.bind.imp fun m1 H1 d st1 g1 rs1 q x rx =>
    ⟨m1, env, st1, re.mono g1, rs1, q.bind.imp fun m2 H2 e st2 g2 rs2 q2 y ry => h2 σ H2 _ ⟨m2, env, st2, RE.mono (g := gx ct X) g2 (RE.mono (g := gx ct X) g1 re), rs2, q2.bind.imp fun m3 H3 ps st3 g3 rs3 q3 zs rz =>
      q3.here rs3 _ (.cons ((rx.mono g2).mono g3) (ry.mono g3) rz)⟩⟩⟩⟩
def keyed : List (D × D) → Option (List (Key × D))
  | [] => some []
  | (d, e) :: ps => match d.key, keyed ps with
    | some k, some kvs => some ((k, e) :: kvs)
    | _, _ => none
def keyedT : List (D × D) → Option (List (List Key × D))
  | [] => some []
  | (.tup ds, e) :: ps => match D.keys ds, keyedT ps with
    | some k, some kvs => some ((k, e) :: kvs)
    | _, _ => none
  | _ :: _ => none
def mergeD {κ : Type} [DecidableEq κ] (kvs more : List (κ × D)) : List (κ × D) := more.foldl (fun acc kv => putD acc kv.1 kv.2) kvs
theorem RFs.merge {K : PySem.W.Frag} {m : Mp} {H : Hp} {ds : List (Key × D)} {ws : List (Key × V)} (h : RFs K m H ds ws) : ∀ {ds0 : List (Key × D)} {ws0 : List (Key × V)}, RFs K m H ds0 ws0 → RFs K m H (mergeD ds0 ds) (mergeK ws0 ws) := by
  induction h with
  | nil => exact fun h => h
  | @cons f d v ds ws r _ ih => exact fun {ds0 ws0} h0 => ih (h0.put f r)
theorem keyed_ok {K : PySem.W.Frag} {m : Mp} {H : Hp} : ∀ {ps : List (D × D)} {zs : List (V × V)} {kvs : List (Key × D)}, RPs K m H ps zs → keyed ps = some kvs → ∃ ws, RFs K m H kvs ws ∧ zs = ws.map fun kv => (kV kv.1, kv.2)
  | [], _, _, r, h => by cases r; cases h; exact ⟨[], .nil, rfl⟩
  | (d, e) :: ps, _, kvs, r, h => by
    cases r with
    | cons r1 r2 r3 =>
      simp only [keyed] at h
      split at h
      · rename_i k kvs' hk hks
        cases h
        obtain ⟨ws, h1, h2⟩ := keyed_ok r3 hks
        exact ⟨(k, _) :: ws, .cons r2 h1, by rw [r1.key hk, h2]; rfl⟩
      · cases h
/-- {k: v, ..}, keys ints and texts: a new cell -/
def iDisp (I : IP) : IE := fun env st => (I env st).bind fun ps st1 => match keyed ps with
  | some kvs => if kvs.length ≤ 15 then .ok (.ref st1.length) (st1 ++ [.dk (mergeD [] kvs)]) else .bad
  | none => .bad
theorem si_disp (h : SPr ct X E pos ks vs I) (hall : ks.all (·.isSome) = true) (hl : ks.length = vs.length) (h0 : ks ≠ []) (h15 : ks.length ≤ 15) : SI ct X E (.Dict ks vs pos) (iDisp I) := by
  obtain ⟨trs, h1, h2⟩ := h.ex
  refine ⟨(pe_disp h1 hall hl h0 h15).imp fun σ H Q ⟨m, env, st, re, rs, fin⟩ p hp => h2 _ _ _ ⟨m, env, st, re.mono (Grow.laid hp), rs.laid hp, ?_⟩⟩
  unfold iDisp at fin
  cases hI : I env st with
  | bad => rw [hI] at fin; exact fin.elim
  | exn e s' => rw [hI] at fin; exact Fin.mono (show Fin (gx ct X) E m H (.exn e s') _ from fin) (Grow.laid hp)
  | ok ps st1 =>
    rw [hI] at fin
    intro m2 H2 gr rs2 zs rz
    have hpc : p ∉ m.cs := rs.notin hp
    have hp2 : H2 p = some (.dK []) := gr.frame _ _ hpc upd_same
    have hn : p ∉ m2.cs := fun z => by
      rcases gr.new p z with q | q
      · exact hpc q
      · rw [upd_same] at q; cases q
    have hr : p ∉ m2.rs := by rw [gr.rsv]; exact rs.nothold hp
    simp only [Rs.bind_ok] at fin
    split at fin
    · rename_i kvs hk
      split at fin
      · rename_i hz
        obtain ⟨ws, w1, w2⟩ := keyed_ok rz hk
        refine ⟨hp2, ws, w2, by rw [← w1.len]; exact hz, ?_⟩
        have mv : Moves X.K m2 H2 (m2.add p) (upd H2 p (.dK (mergeK [] ws))) := Moves.addD hp2 (fun _ z => nomatch z) (fun _ z => nomatch z) (fun _ _ z => nomatch z)
        refine fin (m2.add p) _ (Grow.adoptD hp gr) (rs2.adoptD hp2 (fun _ z => nomatch z) (fun _ z => nomatch z) (fun _ _ z => nomatch z) hn hr ⟨_, (w1.moves mv).merge .nil, upd_same⟩) _ (.ref ?_)
        show (m2.cs ++ [p])[st1.length]? = some p
        rw [← rs2.len, List.getElem?_append_right (Nat.le_refl _)]
        simp
      · exact fin.elim
    · exact fin.elim
/-- {} -/
def iDk0 : IE := fun _ st => .ok (.ref st.length) (st ++ [.dk []])
def iDt0 : IE := fun _ st => .ok (.ref st.length) (st ++ [.dt []])
theorem si_dk0 : SI ct X E (.Dict [] [] pos) iDk0 := ⟨pe_dnewK.imp fun σ H Q ⟨m, env, st, re, rs, fin⟩ p hp => by
  refine fin (m.add p) _ (Grow.adopt hp) (rs.adopt hp ⟨[], .nil, upd_same⟩) _ (.ref ?_)
  show (m.cs ++ [p])[st.length]? = some p
  rw [← rs.len, List.getElem?_append_right (Nat.le_refl _)]
  simp⟩
theorem si_dt0 : SI ct X E (.Dict [] [] pos) iDt0 := ⟨pe_dnewT.imp fun σ H Q ⟨m, env, st, re, rs, fin⟩ p hp => by
  refine fin (m.add p) _ (Grow.adopt hp) (rs.adopt hp ⟨[], .nil, upd_same⟩) _ (.ref ?_)
  show (m.cs ++ [p])[st.length]? = some p
  rw [← rs.len, List.getElem?_append_right (Nat.le_refl _)]
  simp⟩
end
/-! {(..): v, ..} -/
def mergeT (kvs more : List (List Key × V)) : List (List Key × V) := more.foldl (fun acc kv => putK acc kv.1 kv.2) kvs
def PT2 (H : Hp) : List (List Key × V) → List (V × V) → Prop
  | [], [] => True
  | kv :: kvs, p :: ps => (∃ b, p.1 = .ref b ∧ H b = some (.tup (kv.1.map kV)) ∧ p.2 = kv.2) ∧ PT2 H kvs ps
  | _, _ => False
def tDispT (trs : List (TE × TE)) : TE := fun σ H Q => ∀ p, H p = none → tPairs trs σ (upd H p (.dT [])) fun ps H2 => H2 p = some (.dT []) ∧ ∃ kvs : List (List Key × V), PT2 H2 kvs ps ∧ kvs.length ≤ 15 ∧ Q (.ref p) (upd H2 p (.dT (mergeT [] kvs)))
theorem carriesT {P : Program} {w : World} {H : Hp} {h : Heap} (ok : HOk P w H h) : ∀ {kvs : List (List Key × V)} {ps : List (V × V)} {ws : List (Value × Value)}, PT2 H kvs ps → VV ps ws → ∃ rs : List (List Key × Addr × Value), CarriesH (tupleKind (mixKind P w)) h ws rs ∧ KT H kvs rs
  | [], [], _, _, r => by cases r; exact ⟨[], True.intro, .nil⟩
  | kv :: kvs, p :: ps, _, x, r => by
    obtain ⟨⟨b, h1, h2, h3⟩, x⟩ := x
    cases r with
    | @cons a q as qs hq t =>
      obtain ⟨rs, c, k⟩ := carriesT ok x t
      obtain ⟨q1, q2⟩ := q
      obtain ⟨r1, r2⟩ := hq
      rw [h1] at r1
      cases (show q1 = Value.ref b from r1)
      exact ⟨(kv.1, b, q2) :: rs, ⟨rfl, rfl, key_of ok h2, c⟩, .cons ⟨rfl, h2, by rw [← h3]; exact r2⟩ k⟩
  | [], _ :: _, _, x, _ => x.elim
  | _ :: _, [], _, x, _ => x.elim
theorem KT_merge {H : Hp} : ∀ {more : List (List Key × V)} {rs : List (List Key × Addr × Value)}, KT H more rs → ∀ {kvs : List (List Key × V)} {xs : List (List Key × Addr × Value)}, KT H kvs xs → KT H (mergeT kvs more) (storedAllH xs rs) := by
  intro more rs r
  unfold KT at r
  induction r with
  | nil => exact fun q => q
  | @cons p q ps qs h t ih =>
    intro kvs xs r0
    have e : KT H (putK kvs p.1 p.2) (storedH xs q.1 q.2.1 q.2.2) := by
      have := KT.put r0 p.1 h.2.1 h.2.2
      rw [← h.1]; exact this
    exact ih e
theorem mergeT_len : ∀ (more kvs : List (List Key × V)), (mergeT kvs more).length ≤ kvs.length + more.length
  | [], kvs => by show kvs.length ≤ kvs.length + 0; omega
  | p :: r, kvs => by
    have h1 := mergeT_len r (putK kvs p.1 p.2)
    have h2 := length_putK kvs p.1 p.2
    show (mergeT (putK kvs p.1 p.2) r).length ≤ _
    rw [List.length_cons]; omega
theorem pe_dispT {X : Cx} {pos : Pos} {keys : List (Option Expr)} {values : List Expr} {trs : List (TE × TE)} (hu : X.A.units + 1 < cLine) (h : PPs X pos keys values trs) (hall : keys.all (·.isSome) = true) (hl : keys.length = values.length) (h0 : keys ≠ [])
    (h15 : keys.length ≤ 15) : PE X (.Dict keys values pos) (tDispT trs) := by
  refine ⟨fun pins s σ H Q I q => ?_⟩
  have hn := I.hok.fresh (Nat.le_refl s.heap.objs.size)
  have I1 := I.laid (a := s.heap.objs.size) (o := .dT []) (h' := s.heap.push { cls := .type "dict", data := .dict #[] }) (t' := s.toks) (fun _ _ q => Heap.get?_push_of_some _ q) (Nat.le_refl _) (dt_empty s.heap I.big)
  have hlen := pairTrees_length keys values X.env pos hall hl
  have hne : pairTrees keys values X.env pos ≠ [] := fun z => by
    rw [z] at hlen
    exact h0 (List.length_eq_zero_iff.mp hlen.symm)
  rw [arm_eval_Dict, zip_pairTrees keys values X.env pos hall hl, dictDisplay_pairs _ hne (by omega)]
  refine wpAny_bind (wpAny_standAt (wpAny_bind ?_))
  refine wpAny_subDictH (knd := tupleKind (mixKind X.prog X.w)) (Q := fun d s' => wpAny (model X.prog X.w) X.A (pure (Value.ref d)) (EP X pins σ Q) X.xe s') (show X.A.units < cLine by omega) (by omega) ?_
  refine thn (h.run pins _ σ _ _ I1 (q _ hn)) fun ws s2 ⟨ps, H2, I2, rel, e, kvs, ep, lk, q2⟩ => ?_
  obtain ⟨rs, c, rk⟩ := carriesT I2.hok ep rel
  obtain ⟨z, hd, xs0, r0, dd⟩ := dt_of I2.hok e
  cases r0
  refine ⟨rs, c, dd, fun h' tk dd' hs => wpAny_pure ⟨.ref s.heap.objs.size, _, ?_, rfl, q2⟩⟩
  have hz : (mergeT [] kvs).length ≤ sizeLine := by
    have h1 := mergeT_len kvs []
    rw [List.length_nil] at h1
    rw [sizeLine_eq]; omega
  have rm := KT_merge rk (kvs := []) (xs := []) .nil
  obtain ⟨qo, es, epp, hq, k2, k3, k4, k5, k6⟩ := id dd'
  refine d_write I2 (by rw [e]; exact True.intro) hs ⟨qo, hq⟩ ⟨hz, hd, _, rm.keeps fun c ys ec => ?_, qo, es, epp, hq, k2, k3, k4, k6⟩
  rw [upd_ne (ne_of ec e (fun z => nomatch z))]
  exact ec
theorem keyedT_ok {K : PySem.W.Frag} {m : Mp} {H : Hp} : ∀ {ps : List (D × D)} {zs : List (V × V)} {kvs : List (List Key × D)}, RPs K m H ps zs → keyedT ps = some kvs → ∃ ws, RFs K m H kvs ws ∧ PT2 H ws zs
  | [], _, _, r, h => by cases r; cases h; exact ⟨[], .nil, True.intro⟩
  | (.tup ds, e) :: ps, _, kvs, r, h => by
    cases r with
    | cons r1 r2 r3 =>
      simp only [keyedT] at h
      split at h
      · rename_i k kvs' hk hks
        cases h
        obtain ⟨ws, h1, h2⟩ := keyedT_ok r3 hks
        cases r1 with
        | tup a1 a2 =>
          have := a2.keys hk
          subst this
          exact ⟨(k, _) :: ws, .cons r2 h1, ⟨_, rfl, a1, rfl⟩, h2⟩
      · cases h
  | (.non, _) :: _, _, _, _, h => by cases h
  | (.bl _, _) :: _, _, _, _, h => by cases h
  | (.int _, _) :: _, _, _, _, h => by cases h
  | (.str _, _) :: _, _, _, _, h => by cases h
  | (.rol _, _) :: _, _, _, _, h => by cases h
  | (.scr _, _) :: _, _, _, _, h => by cases h
  | (.ref _, _) :: _, _, _, _, h => by cases h
theorem RFs.mergeT {K : PySem.W.Frag} {m : Mp} {H : Hp} {ds : List (List Key × D)} {ws : List (List Key × V)} (h : RFs K m H ds ws) : ∀ {ds0 : List (List Key × D)} {ws0 : List (List Key × V)}, RFs K m H ds0 ws0 → RFs K m H (mergeD ds0 ds) (QI.mergeT ws0 ws) := by
  induction h with
  | nil => exact fun h => h
  | @cons f d v ds ws r _ ih => exact fun {ds0 ws0} h0 => ih (h0.put f r)
section
variable {ct : String → Addr} {X : Cx} {E : EK} {pos apos cpos : Pos} {a b e o : Expr} {A B O : IE} {ks : List (Option Expr)} {vs : List Expr} {I : IP}
/-- {(..): v, ..}: a new cell -/
def iDispT (I : IP) : IE := fun env st => (I env st).bind fun ps st1 => match keyedT ps with
  | some kvs => if kvs.length ≤ 15 then .ok (.ref st1.length) (st1 ++ [.dt (mergeD [] kvs)]) else .bad
  | none => .bad
theorem si_dispT (hu : X.A.units + 1 < cLine) (h : SPr ct X E pos ks vs I) (hall : ks.all (·.isSome) = true) (hl : ks.length = vs.length) (h0 : ks ≠ []) (h15 : ks.length ≤ 15) : SI ct X E (.Dict ks vs pos) (iDispT I) := by
  obtain ⟨trs, h1, h2⟩ := h.ex
  refine ⟨(pe_dispT hu h1 hall hl h0 h15).imp fun σ H Q ⟨m, env, st, re, rs, fin⟩ p hp => h2 _ _ _ ⟨m, env, st, re.mono (Grow.laid hp), rs.laid hp, ?_⟩⟩
  unfold iDispT at fin
  cases hI : I env st with
  | bad => rw [hI] at fin; exact fin.elim
  | exn e s' => rw [hI] at fin; exact Fin.mono (show Fin (gx ct X) E m H (.exn e s') _ from fin) (Grow.laid hp)
  | ok ps st1 =>
    rw [hI] at fin
    intro m2 H2 gr rs2 zs rz
    have hpc : p ∉ m.cs := rs.notin hp
    have hp2 : H2 p = some (.dT []) := gr.frame _ _ hpc upd_same
    have hn : p ∉ m2.cs := fun z => by
      rcases gr.new p z with q | q
      · exact hpc q
      · rw [upd_same] at q; cases q
    have hr : p ∉ m2.rs := by rw [gr.rsv]; exact rs.nothold hp
    simp only [Rs.bind_ok] at fin
    split at fin
    · rename_i kvs hk
      split at fin
      · rename_i hz
        obtain ⟨ws, w1, w2⟩ := keyedT_ok rz hk
        refine ⟨hp2, ws, w2, by rw [← w1.len]; exact hz, ?_⟩
        have mv : Moves X.K m2 H2 (m2.add p) (upd H2 p (.dT (QI.mergeT [] ws))) := Moves.addD hp2 (fun _ z => nomatch z) (fun _ z => nomatch z) (fun _ _ z => nomatch z)
        refine fin (m2.add p) _ (Grow.adoptD hp gr) (rs2.adoptD hp2 (fun _ z => nomatch z) (fun _ z => nomatch z) (fun _ _ z => nomatch z) hn hr ⟨_, (w1.moves mv).mergeT .nil, upd_same⟩) _ (.ref ?_)
        show (m2.cs ++ [p])[st1.length]? = some p
        rw [← rs2.len, List.getElem?_append_right (Nat.le_refl _)]
        simp
      · exact fin.elim
    · exact fin.elim
theorem isD_ok {g : G0} {m : Mp} {H : Hp} {st : Sto} {d : D} {x : V} (rs : RS g m H st) (rx : RV g.K m H d x) (h : isD st d = true) : ∃ a, x = .ref a ∧ IsD H a := by
  cases d with
  | ref n =>
    cases rx with
    | @ref _ a h1 =>
      simp only [isD] at h
      split at h
      · rename_i kvs hk
        obtain ⟨vs, _, hH⟩ := rs.rc _ _ _ h1 hk
        exact ⟨a, rfl, .inl ⟨_, .inl hH⟩⟩
      · rename_i kvs hk
        obtain ⟨vs, _, hH⟩ := rs.rc _ _ _ h1 hk
        exact ⟨a, rfl, .inr ⟨_, .inl hH⟩⟩
      · cases h
  | _ => simp [isD] at h
/-- d.get(e), d.get(e, b) -/
def iDget1 (O A : IE) : IE := fun env st => (O env st).bind fun o st1 => if isD st1 o = true then (A env st1).bind fun y st2 => match gDat st2 o y with
    | some (some v) => .ok v st2
    | some none => .ok .non st2
    | none => .bad
  else .bad
def iDget2 (O A B : IE) : IE := fun env st => (O env st).bind fun o st1 => if isD st1 o = true then (A env st1).bind fun y st2 => (B env st2).bind fun z st3 => match gDat st3 o y with
    | some (some v) => .ok v st3
    | some none => .ok z st3
    | none => .bad
  else .bad
theorem si_dget1 (hu : X.A.units + 1 < cLine) (ho : SI ct X E o O) (ha : SI ct X E a A) (mm : M1 X o "get" apos a cpos) : SI ct X E (.Call (.Attribute o "get" apos) [a] [] cpos) (iDget1 O A) :=
  ⟨(pe_dget1 hu ho.pe ha.pe mm).imp fun σ H Q ⟨m, env, st, re, rs, fin⟩ => ⟨m, env, st, re, rs, fin.bind.imp fun m1 H1 d st1 g1 rs1 q x rx => by
    split at q
    · rename_i hd
      obtain ⟨a, rfl, isd⟩ := isD_ok rs1 rx hd
      refine ⟨a, rfl, isd, m1, env, st1, re.mono g1, rs1, q.bind.imp fun m2 H2 y st2 g2 rs2 q2 v ry => ?_⟩
      split at q2
      · rename_i z hz
        obtain ⟨a', ov, e, hg, ro⟩ := gDat_ok rs2 (rx.mono g2) ry hz
        cases e
        cases ro with
        | some r => exact ⟨_, hg, q2.here rs2 _ r⟩
      · rename_i hz
        obtain ⟨a', ov, e, hg, ro⟩ := gDat_ok rs2 (rx.mono g2) ry hz
        cases e
        cases ro
        exact ⟨_, hg, q2.here rs2 _ .non⟩
      · exact q2.elim
    · exact q.elim⟩⟩
theorem si_dget2 (hu : X.A.units + 1 < cLine) (ho : SI ct X E o O) (ha : SI ct X E a A) (hb : SI ct X E b B) (mm : M2 X o "get" apos a b cpos) : SI ct X E (.Call (.Attribute o "get" apos) [a, b] [] cpos) (iDget2 O A B) :=
  ⟨(pe_dget2 hu ho.pe ha.pe hb.pe mm).imp fun σ H Q ⟨m, env, st, re, rs, fin⟩ => ⟨m, env, st, re, rs, fin.bind.imp fun m1 H1 d st1 g1 rs1 q x rx => by
    split at q
    · rename_i hd
      obtain ⟨a, rfl, isd⟩ := isD_ok rs1 rx hd
      refine ⟨a, rfl, isd, m1, env, st1, re.mono g1, rs1, q.bind.imp fun m2 H2 y st2 g2 rs2 q2 v ry => ⟨m2, env, st2, (re.mono g1).mono g2, rs2, q2.bind.imp fun m3 H3 z st3 g3 rs3 q3 u rz => ?_⟩⟩
      split at q3
      · rename_i w hw
        obtain ⟨a', ov, e, hg, ro⟩ := gDat_ok rs3 ((rx.mono g2).mono g3) (ry.mono g3) hw
        cases e
        cases ro with
        | some r => exact ⟨_, hg, q3.here rs3 _ r⟩
      · rename_i hw
        obtain ⟨a', ov, e, hg, ro⟩ := gDat_ok rs3 ((rx.mono g2).mono g3) (ry.mono g3) hw
        cases e
        cases ro
        exact ⟨_, hg, q3.here rs3 _ rz⟩
      · exact q3.elim
    · exact q.elim⟩⟩
end
end QI

/-! more methods of lists, in over rows of rows -/
namespace QI
open PySem PySem.Spec PyProof.Rows L2
def isLst2 (st : Sto) : D → Bool
  | .ref n => match st[n]? with
    | some (.lst _) => true
    | _ => false
  | .rol _ => true
  | .scr _ => true
  | _ => false
theorem lst_ty2 {g : G0} {m : Mp} {H : Hp} {st : Sto} {d : D} {x : V} (rs : RS g m H st) (r : RV g.K m H d x) (h : isLst2 st d = true) : tyV g.K "list" x H := by
  cases d with
  | ref n => exact lst_ty rs r h
  | rol xs => cases r with | rol h1 h2 => exact .inl ⟨rfl, _, h1.sq⟩
  | scr xs => cases r with | scr h1 h2 => exact .inl ⟨rfl, _, h1.sq⟩
  | _ => simp [isLst2] at h
section
variable {ct : String → Addr} {X : Cx} {E : EK} {pos apos : Pos} {a b c e o : Expr} {es : List Expr} {A B C O : IE} {L : IL}
def iMeth0 (f : D → List D → Sto → Rs D) (O : IE) : IE := fun env st => (O env st).bind fun d st1 => if isLst2 st1 d = true then f d [] st1 else .bad
def iMethR (f : D → List D → Sto → Rs D) (O : IE) (L : IL) : IE := fun env st => (O env st).bind fun d st1 => if isLst2 st1 d = true then (L env st1).bind fun ds st2 => f d ds st2 else .bad
theorem si_meth0 {name : Str} {f : D → List D → Sto → Rs D} {r : V → List V → Hp → VK → Prop} (hr : MtS (gx ct X) E f r) (h : PE X (.Call (.Attribute o name apos) [] [] pos) (tBM0 X.K "list" r (tI (gx ct X) E O))) :
    SI ct X E (.Call (.Attribute o name apos) [] [] pos) (iMeth0 f O) :=
  ⟨h.imp fun σ H Q ⟨m, env, st, re, rs, fin⟩ => ⟨m, env, st, re, rs, fin.bind.imp fun m1 H1 d st1 g1 rs1 q x rx => by
    split at q
    · rename_i hl
      exact ⟨lst_ty2 rs1 rx hl, hr m1 H1 st1 d [] x [] Q rs1 rx .nil q⟩
    · exact q.elim⟩⟩
theorem si_methR {name : Str} {f : D → List D → Sto → Rs D} {r : V → List V → Hp → VK → Prop} (hr : MtS (gx ct X) E f r)
    (h : PE X (.Call (.Attribute o name apos) (e :: es) [] pos) (tBM X.K "list" r (tI (gx ct X) E O) (tIA (gx ct X) E L))) :
    SI ct X E (.Call (.Attribute o name apos) (e :: es) [] pos) (iMethR f O L) :=
  ⟨h.imp fun σ H Q ⟨m, env, st, re, rs, fin⟩ => ⟨m, env, st, re, rs, fin.bind.imp fun m1 H1 d st1 g1 rs1 q x rx => by
    split at q
    · rename_i hl
      exact ⟨lst_ty2 rs1 rx hl, m1, env, st1, re.mono g1, rs1, q.bind.imp fun m2 H2 ds st2 g2 rs2 q2 vs rv => hr m2 H2 st2 d ds x vs Q rs2 (rx.mono g2) rv q2⟩
    · exact q.elim⟩⟩
/-- l.pop() -/
def gPop : D → List D → Sto → Rs D
  | .ref n, [], st => match st[n]? with
    | some (.lst xs) => match xs[xs.length - 1]? with
      | some y => .ok y (setL st n xs.dropLast)
      | none => .bad
    | _ => .bad
  | _, _, _ => .bad
theorem mts_pop {g : G0} : MtS g E gPop rPop := fun m H st d ds x vs Q rs rx rv fin => by
  unfold gPop at fin
  split at fin
  · split at fin
    · rename_i xs hx
      split at fin
      · rename_i y hy
        cases rx with
        | ref h1 =>
          cases rv
          obtain ⟨ws, r, hH⟩ := rs.rc _ _ _ h1 hx
          obtain ⟨v, hv, rv'⟩ := r.get hy
          obtain ⟨rs', gr⟩ := write_lst (vs := ws) rs h1 hx r.dropLast
          exact ⟨_, ws, v, rfl, rfl, hH, by rw [← r.length]; exact hv, fin m _ gr rs' _ (rv'.mono gr)⟩
      · exact fin.elim
    · exact fin.elim
  · exact fin.elim
theorem si_pop (ho : SI ct X E o O) (hbase : attributeBase o "pop" X.env (eval o X.env) = eval o X.env := by rfl) (hline : (apos.endLine == pos.line) = true := by rfl) : SI ct X E (.Call (.Attribute o "pop" apos) [] [] pos) (iMeth0 gPop O) :=
  si_meth0 mts_pop (pe_bm0 PySem.F.plainAttrs_list PySem.F.slot_list_pop PySem.F.type_list_pop mt_pop ho.pe hbase hline)
/-- l.pop(i) -/
def gPopAt : D → List D → Sto → Rs D
  | .ref n, [.int i], st => match st[n]? with
    | some (.lst xs) => if -(2 ^ 63) ≤ i ∧ i < 2 ^ 63 then (match seqIndex? i xs.length with
      | some k => match xs[k]? with
        | some y => .ok y (setL st n (xs.eraseIdx k))
        | none => .bad
      | none => .bad) else .bad
    | _ => .bad
  | _, _, _ => .bad
theorem RVs.erase {K : PySem.W.Frag} {m : Mp} {H : Hp} : ∀ {ds : List D} {vs : List V} (k : Nat), RVs K m H ds vs → RVs K m H (ds.eraseIdx k) (vs.eraseIdx k)
  | [], _, _, h => by cases h; exact .nil
  | d :: ds, _, 0, h => by cases h with | cons h1 h2 => exact h2
  | d :: ds, _, k + 1, h => by cases h with | cons h1 h2 => exact .cons h1 (RVs.erase k h2)
theorem mts_popAt {g : G0} : MtS g E gPopAt rPopAt := fun m H st d ds x vs Q rs rx rv fin => by
  unfold gPopAt at fin
  split at fin
  · split at fin
    · rename_i xs hx
      split at fin
      · rename_i hi
        split at fin
        · rename_i k hk
          split at fin
          · rename_i y hy
            cases rx with
            | ref h1 =>
              cases rv with
              | cons r1 r2 =>
                cases r2
                cases r1
                obtain ⟨ws, r, hH⟩ := rs.rc _ _ _ h1 hx
                obtain ⟨v, hv, rv'⟩ := r.get hy
                obtain ⟨rs', gr⟩ := write_lst (vs := ws) rs h1 hx (r.erase k)
                exact ⟨_, ws, _, k, v, rfl, rfl, hH, hi.1, hi.2, by rw [← r.length]; exact hk, hv, fin m _ gr rs' _ (rv'.mono gr)⟩
          · exact fin.elim
        · exact fin.elim
      · exact fin.elim
    · exact fin.elim
  · exact fin.elim
theorem si_popAt (ho : SI ct X E o O) (ha : SA ct X E (e :: es) L) (hbase : attributeBase o "pop" X.env (eval o X.env) = eval o X.env := by rfl)
    (hfew : ((backTo pos (starEach (e :: es) X.env)).all (fun x => !x.1) && (backToKw pos (keywordEach [] X.env)).all (fun x => x.1.isSome)
      && decide ((e :: es).length + ([] : List Keyword).length + (if ([] : List Keyword).isEmpty then 0 else 1) < 30)) = true := by rfl)
    (hline : (apos.endLine == pos.line) = true := by rfl) (hs : starEach (e :: es) X.env = (false, eval e X.env) :: starEach es X.env := by rfl) (hplain : (backTo pos (starEach es X.env)).any (·.1) = false := by rfl) : SI ct X E (.Call (.Attribute o "pop" apos) (e :: es) [] pos) (iMethR gPopAt O L) :=
  si_methR mts_popAt (pe_bm PySem.F.plainAttrs_list PySem.F.slot_list_pop PySem.F.type_list_pop mt_popAt ho.pe ha.pa hbase hfew hline hs hplain)
/-- l.insert(i, y) -/
def gInsert : D → List D → Sto → Rs D
  | .ref n, [.int i, y], st => match st[n]? with
    | some (.lst xs) => if xs.length < 16777216 ∧ 0 ≤ i ∧ i < 2 ^ 63 then .ok .non (setL st n (xs.take i.toNat ++ [y] ++ xs.drop i.toNat)) else .bad
    | _ => .bad
  | _, _, _ => .bad
theorem mts_insert {g : G0} : MtS g E gInsert (fun x vs H Q => ∃ (l : Addr) (xs : List V) (i : Int) (y : V), x = .ref l ∧ vs = [.int i, y] ∧ H l = some (.lst xs) ∧ xs.length < sizeLine ∧ 0 ≤ i ∧ i < 2 ^ 63 ∧
    Q .non (upd H l (.lst (xs.take i.toNat ++ [y] ++ xs.drop i.toNat)))) := fun m H st d ds x vs Q rs rx rv fin => by
  unfold gInsert at fin
  split at fin
  · split at fin
    · rename_i xs hx
      split at fin
      · rename_i hi
        cases rx with
        | ref h1 =>
          cases rv with
          | cons r1 r2 =>
            cases r1
            cases r2 with
            | cons r2 r3 =>
              cases r3
              obtain ⟨ws, r, hH⟩ := rs.rc _ _ _ h1 hx
              obtain ⟨rs', gr⟩ := write_lst (vs := ws) rs h1 hx (((r.take _).append (.cons r2 .nil)).append (r.drop _))
              exact ⟨_, ws, _, _, rfl, rfl, hH, by rw [← r.length, sl_eq]; exact hi.1, hi.2.1, hi.2.2, fin m _ gr rs' _ .non⟩
      · exact fin.elim
    · exact fin.elim
  · exact fin.elim
theorem si_insert (ho : SI ct X E o O) (ha : SA ct X E (e :: es) L) (hbase : attributeBase o "insert" X.env (eval o X.env) = eval o X.env := by rfl)
    (hfew : ((backTo pos (starEach (e :: es) X.env)).all (fun x => !x.1) && (backToKw pos (keywordEach [] X.env)).all (fun x => x.1.isSome)
      && decide ((e :: es).length + ([] : List Keyword).length + (if ([] : List Keyword).isEmpty then 0 else 1) < 30)) = true := by rfl)
    (hline : (apos.endLine == pos.line) = true := by rfl) (hs : starEach (e :: es) X.env = (false, eval e X.env) :: starEach es X.env := by rfl) (hplain : (backTo pos (starEach es X.env)).any (·.1) = false := by rfl) : SI ct X E (.Call (.Attribute o "insert" apos) (e :: es) [] pos) (iMethR gInsert O L) :=
  si_methR mts_insert (pe_bm PySem.F.plainAttrs_list PySem.F.slot_list_insert PySem.F.type_list_insert mt_insert ho.pe ha.pa hbase hfew hline hs hplain)
/-- the place of the first equal one -/
def firstEq (ps : List PyData) (p : PyData) : Option Nat := ps.findIdx? fun z => PyData.eqv z p
def pdL (st : Sto) (d : D) : Option (List PyData) := match seqAt st d with
  | some xs => pdPs xs
  | none => none
/-- l.index(y) -/
def gIndex : D → List D → Sto → Rs D := fun d ds st => match ds with
  | [y] => if isLst2 st d = true then (match pdL st d, pdP y with
    | some ps, some p => if SeqAt.shaped (.list ps) = true ∧ SeqAt.shaped p = true then (match firstEq ps p with
      | some j => .ok (.int (j : Nat)) st
      | none => .bad) else .bad
    | _, _ => .bad) else .bad
  | _ => .bad
theorem lst_dp {g : G0} {m : Mp} {H : Hp} {st : Sto} {d : D} {x : V} {ps : List PyData} (rs : RS g m H st) (rx : RV g.K m H d x) (hl : isLst2 st d = true) (h : pdL st d = some ps) : ∃ a, x = .ref a ∧ Dp g.K H (.ref a) (.list ps) := by
  cases d with
  | ref n =>
    simp only [isLst2] at hl
    split at hl
    · rename_i xs hx
      cases rx with
      | @ref _ a h1 =>
        obtain ⟨vs, r, hH⟩ := rs.rc _ _ _ h1 hx
        simp only [pdL, seqAt, hx] at h
        exact ⟨a, rfl, .lst (SqL.of hH) (r.dp h)⟩
    · cases hl
  | rol xs => cases rx with | rol h1 h2 => exact ⟨_, rfl, .lst h1.sq (h2.dp h)⟩
  | scr xs => cases rx with | scr h1 h2 => exact ⟨_, rfl, .lst h1.sq (h2.dp h)⟩
  | _ => simp [isLst2] at hl
theorem firstEq_ok {ps : List PyData} {p : PyData} {j : Nat} (h : firstEq ps p = some j) : ∃ z, ps[j]? = some z ∧ PyData.eqv z p = true ∧ ∀ (m : Nat) (z' : PyData), m < j → ps[m]? = some z' → PyData.eqv z' p = false := by
  unfold firstEq at h
  rw [List.findIdx?_eq_some_iff_getElem] at h
  obtain ⟨hj, h1, h2⟩ := h
  refine ⟨ps[j], List.getElem?_eq_getElem hj, h1, fun m z' hm hz => ?_⟩
  have hml : m < ps.length := by omega
  have := h2 m hm
  rw [List.getElem?_eq_getElem hml] at hz
  cases hz
  simpa using this
theorem mts_index {g : G0} : MtS g E gIndex (rIndexD g.K) := fun m H st d ds x vs Q rs rx rv fin => by
  unfold gIndex at fin
  split at fin
  · split at fin
    · rename_i hl
      split at fin
      · rename_i ps p hps hp
        split at fin
        · rename_i hs
          split at fin
          · rename_i j hj
            cases rv with
            | cons r1 r2 =>
              cases r2
              obtain ⟨a, rfl, hd⟩ := lst_dp rs rx hl hps
              obtain ⟨z, h1, h2, h3⟩ := firstEq_ok hj
              exact ⟨a, _, p, ps, j, z, rfl, rfl, hd, r1.dp hp, hs.1, hs.2, h1, h2, h3, fin.here rs _ (.int _)⟩
          · exact fin.elim
        · exact fin.elim
      · exact fin.elim
    · exact fin.elim
  · exact fin.elim
theorem si_index (hu : X.A.units + 65 < cLine) (ho : SI ct X E o O) (ha : SA ct X E (e :: es) L) (hbase : attributeBase o "index" X.env (eval o X.env) = eval o X.env := by rfl)
    (hfew : ((backTo pos (starEach (e :: es) X.env)).all (fun x => !x.1) && (backToKw pos (keywordEach [] X.env)).all (fun x => x.1.isSome)
      && decide ((e :: es).length + ([] : List Keyword).length + (if ([] : List Keyword).isEmpty then 0 else 1) < 30)) = true := by rfl)
    (hline : (apos.endLine == pos.line) = true := by rfl) (hs : starEach (e :: es) X.env = (false, eval e X.env) :: starEach es X.env := by rfl) (hplain : (backTo pos (starEach es X.env)).any (·.1) = false := by rfl) : SI ct X E (.Call (.Attribute o "index" apos) (e :: es) [] pos) (iMethR gIndex O L) :=
  si_methR mts_index (pe_bm PySem.F.plainAttrs_list PySem.F.slot_list_index PySem.F.type_list_index (mt_indexD hu) ho.pe ha.pa hbase hfew hline hs hplain)
/-- y in l, by data -/
def gInP (neg : Bool) : D → D → Sto → Rs D := fun y d st => if isLst2 st d = true then (match pdL st d, pdP y with
    | some ps, some p => if SeqAt.shaped (.list ps) = true ∧ SeqAt.shaped p = true then .ok (.bl ((ps.any fun z => PyData.eqv z p) != neg)) st else .bad
    | _, _ => .bad) else .bad
theorem ops_inP {g : G0} : OpS g E (gInP false) (rInD g.K) := by
  intro m H st y d v x Q rs ry rx fin
  unfold gInP at fin
  split at fin
  · rename_i hl
    split at fin
    · rename_i ps p hps hp
      split at fin
      · rename_i hs
        obtain ⟨a, rfl, hd⟩ := lst_dp rs rx hl hps
        refine ⟨p, ps, ry.dp hp, hd, hs.2, hs.1, ?_⟩
        have := fin.here rs _ (.bl _)
        simpa using this
      · exact fin.elim
    · exact fin.elim
  · exact fin.elim
theorem ops_notInP {g : G0} : OpS g E (gInP true) (rNotInD g.K) := by
  intro m H st y d v x Q rs ry rx fin
  unfold gInP at fin
  split at fin
  · rename_i hl
    split at fin
    · rename_i ps p hps hp
      split at fin
      · rename_i hs
        obtain ⟨a, rfl, hd⟩ := lst_dp rs rx hl hps
        refine ⟨p, ps, ry.dp hp, hd, hs.2, hs.1, ?_⟩
        have := fin.here rs _ (.bl _)
        simpa using this
      · exact fin.elim
    · exact fin.elim
  · exact fin.elim
theorem c_inP (hu : X.A.units + 65 < cLine) : CmpR ct X E .In (gInP false) := ⟨_, op_inD hu, ops_inP⟩
theorem c_notinP (hu : X.A.units + 65 < cLine) : CmpR ct X E .NotIn (gInP true) := ⟨_, op_notInD hu, ops_notInP⟩
end
theorem _root_.L2.Room.u1 {k : Nat} {A : Around} (r : Room k A) : A.units + 1 < cLine := by have := r.un; omega
theorem _root_.L2.Room.u65 {k : Nat} {A : Around} (r : Room k A) : A.units + 65 < cLine := by have := r.un; omega
end QI

/-! tuple * int, few times -/
namespace QI
open PySem PySem.Spec PyProof.Rows L2
theorem tuple_mul1 (l : Addr) (items : Array Value) (n : Nat) (dd : Option Addr) (sl : Array (Option Value)) (x : Int) (u : Tok) (c0 : (decide (x < -(2 ^ 63)) || decide (x ≥ 2 ^ 63)) = false) (c1 : (items.isEmpty || x == 1) = true) :
    Meets (Builtin.«tuple.__mul__» ⟨[.ref l, .int x u], []⟩) (fun _ R s => s.heap.get? l = some { cls := .type "tuple", dict := dd, data := .seq items n, slots := sl } ∧ R (.ok (.ret (Value.ref l))) s) :=
  .of_wp fun prog w A R s h => by
    obtain ⟨hp, g, d, tk, os⟩ := s
    obtain ⟨hl, h⟩ := h
    have f1 := AutoSeq1.idx_int
    wp_walk using wpAny_loadPart' hl
    repeat (first
      | (refine wpAny_ite_false (decide_eq_false (by rw [c0]; exact Bool.false_ne_true)) ?_; wp_walk using wpAny_loadPart' hl)
      | (refine wpAny_ite_true (decide_eq_true c1) ?_; wp_walk using wpAny_loadPart' hl))
    exact ⟨_, rfl, h⟩
theorem tuple_mul0 (l : Addr) (items : Array Value) (n : Nat) (dd : Option Addr) (sl : Array (Option Value)) (x : Int) (u : Tok) (c0 : (decide (x < -(2 ^ 63)) || decide (x ≥ 2 ^ 63)) = false) (c1 : (items.isEmpty || x == 1) = false) (c2 : (decide (x ≤ 0) || items.isEmpty) = true) :
    Meets (Builtin.«tuple.__mul__» ⟨[.ref l, .int x u], []⟩) (fun _ R s => s.heap.get? l = some { cls := .type "tuple", dict := dd, data := .seq items n, slots := sl } ∧
      R (.ok (.ret (Value.ref s.heap.objs.size))) { s with heap := s.heap.push { cls := Value.type "tuple", data := Data.seq #[] }, toks := s.toks }) :=
  .of_wp fun prog w A R s h => by
    obtain ⟨hp, g, d, tk, os⟩ := s
    obtain ⟨hl, h⟩ := h
    have f1 := AutoSeq1.idx_int
    wp_walk using wpAny_loadPart' hl
    repeat (first
      | (refine wpAny_ite_false (decide_eq_false (by rw [c0]; exact Bool.false_ne_true)) ?_; wp_walk using wpAny_loadPart' hl)
      | (refine wpAny_ite_false (decide_eq_false (by rw [c1]; exact Bool.false_ne_true)) ?_; wp_walk using wpAny_loadPart' hl)
      | (refine wpAny_ite_true (decide_eq_true c2) ?_; wp_walk using wpAny_loadPart' hl))
    exact ⟨_, rfl, h⟩
def rRepS (K : PySem.W.Frag) : R2 := fun x y H Q => ∃ l k xs, x = .ref l ∧ y = .int k ∧ SqT K H l xs ∧ -(2 ^ 63) ≤ k ∧ k < 2 ^ 63 ∧ (((xs = [] ∨ k = 1) ∧ Q (.ref l) H) ∨ (xs ≠ [] ∧ k ≤ 0 ∧ ∀ p, H p = none → Q (.ref p) (upd H p (.tup []))))
section
variable {X : Cx}
theorem op_repS : OpR X (binaryOp .Mult) (rRepS X.K) := by
  intro pins s σ H x y v u Q I rx ry h
  obtain ⟨l, k, xs, rfl, rfl, hT, h1, h2, h⟩ := h
  cases rx
  obtain ⟨t, rfl⟩ := ry
  obtain ⟨its, r, ⟨⟨cls, dd, data, sl⟩, ho, hc, n, hd⟩, hs⟩ := I.tuple hT
  simp only at hc hd
  subst hc hd
  have hle : its.length = xs.length := r.length.symm
  have c0 : (decide (k < -(2 ^ 63)) || decide (k ≥ 2 ^ 63)) = false := by
    rw [decide_eq_false (by omega), decide_eq_false (by omega)] <;> rfl
  have he : its.toArray.isEmpty = xs.isEmpty := by
    cases its with
    | nil => cases xs with
      | nil => rfl
      | cons a b => simp at hle
    | cons a b => cases xs with
      | nil => simp at hle
      | cons a b => rfl
  rcases h with ⟨h3, q⟩ | ⟨h3, h4, q⟩
  · have c1 : (its.toArray.isEmpty || k == 1) = true := by
      rw [he]
      rcases h3 with rfl | rfl
      · rfl
      · simp
    exact wpAny_binaryOp_repeat_ref (T := "tuple") (U := "int") (by decide) ⟨_, ho, rfl⟩ (fun s' => typeIs_int s' k t) noFill_tuple_mul F.fills_int_mul F.slot_int_rmul repeat_tuple F.slot_int_index.lookup
      (call_meets F.slot_int_rmul (typeIs_int s k t) F.entry_int_rmul (F.args_int_rmul_2 _ _) (int_rmul_tuple k t l its.toArray n dd sl)
        ⟨ho, rfl, ⟨_, ho, rfl⟩, call_meets F.slot_tuple_mul ⟨_, ho, rfl⟩ F.entry_tuple_mul (F.args_tuple_mul_2 _ _) (tuple_mul1 l its.toArray n dd sl k t c0 c1) ⟨ho, ⟨.ref l, H, I, rfl, q⟩⟩⟩)
  · have hx : xs.isEmpty = false := by
      cases xs with
      | nil => exact absurd rfl h3
      | cons a b => rfl
    have c1 : (its.toArray.isEmpty || k == 1) = false := by
      rw [he, hx, Bool.false_or]
      exact beq_eq_false_iff_ne.mpr (by omega)
    have c2 : (decide (k ≤ 0) || its.toArray.isEmpty) = true := by rw [decide_eq_true h4]; rfl
    refine wpAny_binaryOp_repeat_ref (T := "tuple") (U := "int") (by decide) ⟨_, ho, rfl⟩ (fun s' => typeIs_int s' k t) noFill_tuple_mul F.fills_int_mul F.slot_int_rmul repeat_tuple F.slot_int_index.lookup
      (call_meets F.slot_int_rmul (typeIs_int s k t) F.entry_int_rmul (F.args_int_rmul_2 _ _) (int_rmul_tuple k t l its.toArray n dd sl)
        ⟨ho, rfl, ⟨_, ho, rfl⟩, call_meets F.slot_tuple_mul ⟨_, ho, rfl⟩ F.entry_tuple_mul (F.args_tuple_mul_2 _ _) (tuple_mul0 l its.toArray n dd sl k t c0 c1 c2) ⟨ho, ?_⟩⟩)
    have hf := I.hok.fresh (Nat.le_refl s.heap.objs.size)
    refine ⟨.ref s.heap.objs.size, upd H s.heap.objs.size (.tup []), I.laid (t' := s.toks) (fun b u e => Heap.get?_push_of_some _ e) (Nat.le_refl _) ?_, rfl, q _ hf⟩
    exact ⟨Nat.zero_le _, [], .nil, ⟨_, Heap.get?_push_size _ rfl, rfl, _, rfl⟩⟩
end
def gMulT : D → D → Sto → Rs D := fun d e st => match d, e with
  | .tup xs, .int k => if -(2 ^ 63) ≤ k ∧ k < 2 ^ 63 then
      (if xs.isEmpty = true ∨ k = 1 then .ok (.tup xs) st else if k ≤ 0 then .ok (.tup []) st else if k ≤ 1000 ∧ xs.length ≤ 1000 then .ok (.tup (List.replicate k.toNat xs).flatten) st else .bad) else .bad
  | _, _ => .bad
theorem ops_mulT {E : EK} {g : G0} : OpS g E gMulT (fun x y H Q => rRepS g.K x y H Q ∨ rRepT g.K x y H Q) := by
  intro m H st d e x y Q rs rx ry fin
  unfold gMulT at fin
  split at fin
  · rename_i xs k
    cases ry
    cases rx with
    | @tup a vs _ h1 h2 =>
      have hem : vs = [] ↔ xs.isEmpty = true := by
        have := h2.length
        constructor
        · rintro rfl
          cases xs with
          | nil => rfl
          | cons _ _ => simp at this
        · intro z
          cases xs with
          | nil => cases vs with
            | nil => rfl
            | cons _ _ => simp at this
          | cons _ _ => cases z
      split at fin
      · rename_i hk
        split at fin
        · rename_i hz
          exact .inl ⟨_, k, vs, rfl, rfl, h1.sq, hk.1, hk.2, .inl ⟨hz.imp hem.mpr id, fin.here rs _ (.tup h1 h2)⟩⟩
        · rename_i hz
          split at fin
          · rename_i h0
            refine .inl ⟨_, k, vs, rfl, rfl, h1.sq, hk.1, hk.2, .inr ⟨fun z => hz (.inl (hem.mp z)), h0, ?_⟩⟩
            exact tup_new rs .nil fin
          · split at fin
            · rename_i h0 hb
              refine .inr ⟨_, k, vs, rfl, rfl, h1.sq, fun z => hz (.inl (hem.mp z)), ?_, hb.1, by rw [← h2.length]; exact hb.2, ?_⟩
              · have : ¬ k = 1 := fun z => hz (.inr z)
                omega
              · exact tup_new rs (h2.flat _) fin
            · exact fin.elim
      · exact fin.elim
  · exact fin.elim
section
variable {ct : String → Addr} {X : Cx} {E : EK} {pos : Pos} {a b : Expr} {A B : IE}
def isTup : D → Bool
  | .tup _ => true
  | _ => false
/-- a * b, of numbers, lists and tuples -/
def gMulA : D → D → Sto → Rs D := gOr (fun _ d _ => isTup d) gMulT gMul
theorem si_mulA (ha : SI ct X E a A) (hb : SI ct X E b B) : SI ct X E (.BinOp a .Mult b pos) (iBin gMulA A B) :=
  si_bin ((op_repS.or op_repT).or (op_mul.or op_rep)) (ops_or ops_mulT ops_mul) ha hb
@[simp] theorem gMulA_tup (xs : List D) (e : D) (st : Sto) : gMulA (.tup xs) e st = gMulT (.tup xs) e st := id rfl
@[simp] theorem gMulA_int (i : Int) (e : D) (st : Sto) : gMulA (.int i) e st = gMul (.int i) e st := id rfl
end
end QI

/-! equations for evaluation -/
namespace QI
open PySem PySem.Spec PyProof.Rows L2
section
variable {env : Ev} {st : Sto} {A B C : IE} {L L' : IL} {T U : IT} {S R : IS}
@[simp] theorem ev_var (i : Nat) : iVar i env st = match env[i]? with | some (some d) => .ok d st | _ => .bad := id rfl
@[simp] theorem ev_C (d : D) : iC d env st = .ok d st := id rfl
@[simp] theorem ev_bin (f : D → D → Sto → Rs D) : iBin f A B env st = (A env st).bind fun d st1 => (B env st1).bind fun e st2 => f d e st2 := id rfl
@[simp] theorem ev_un (f : D → Sto → Rs D) : iUn f A env st = (A env st).bind f := id rfl
@[simp] theorem ev_test : iTest A env st = (A env st).bind toB := id rfl
@[simp] theorem ev_chain (f f' : D → D → Sto → Rs D) : iChain f f' A B C env st = (A env st).bind fun d st1 => (B env st1).bind fun e st2 => (f d e st2).bind fun k st3 => match k with
  | .bl true => (C env st3).bind fun c st4 => f' e c st4
  | .bl false => .ok (.bl false) st3
  | _ => .bad := id rfl
@[simp] theorem ev_tru : iTru A env st = (A env st).bind fun d st1 => fT (gTru st1 d) st1 := id rfl
@[simp] theorem ev_and : iAnd T U env st = (T env st).bind fun b st1 => if b = true then U env st1 else .ok false st1 := id rfl
@[simp] theorem ev_or : iOr T U env st = (T env st).bind fun b st1 => if b = true then .ok true st1 else U env st1 := id rfl
@[simp] theorem ev_not : iNot T env st = (T env st).bind fun b st1 => .ok (!b) st1 := id rfl
@[simp] theorem ev_if : iIf T A B env st = (T env st).bind fun b st1 => if b = true then A env st1 else B env st1 := id rfl
@[simp] theorem ev_andV : iAndV A B env st = (A env st).bind fun d st1 => match gTru st1 d with
  | some true => B env st1
  | some false => .ok d st1
  | none => .bad := id rfl
@[simp] theorem ev_orV : iOrV A B env st = (A env st).bind fun d st1 => match gTru st1 d with
  | some true => .ok d st1
  | some false => B env st1
  | none => .bad := id rfl
@[simp] theorem ev_notV : iNotV A env st = (A env st).bind fun d st1 => fB ((gTru st1 d).map (!·)) st1 := id rfl
@[simp] theorem ev_nil : iNil env st = .ok [] st := id rfl
@[simp] theorem ev_cons : iCons A L env st = (A env st).bind fun d st1 => (L env st1).bind fun ds st2 => .ok (d :: ds) st2 := id rfl
@[simp] theorem ev_rol : iRol L env st = (L env st).bind fun ds st1 => .ok (.rol ds) st1 := id rfl
@[simp] theorem ev_cell : iCell L env st = (L env st).bind fun ds st1 => .ok (.ref st1.length) (st1 ++ [.lst ds]) := id rfl
@[simp] theorem ev_tup : iTup L env st = (L env st).bind fun ds st1 => if ds.length ≤ 16777216 then .ok (.tup ds) st1 else .bad := id rfl
@[simp] theorem ev_lst : iLst L env st = (L env st).bind fun ds st1 => if ds.length ≤ 16777216 then .ok ds st1 else .bad := id rfl
@[simp] theorem ev_binL (f : D → D → Sto → Rs D) : iBinL f A B env st = (A env st).bind fun d st1 => (B env st1).bind fun e st2 => fLst f d e st2 := id rfl
@[simp] theorem ev_oNone : oNone env st = .ok none st := id rfl
@[simp] theorem ev_oSome : oSome A env st = (A env st).bind fun d st1 => match d with
  | .int i => .ok (some i) st1
  | _ => .bad := id rfl
@[simp] theorem ev_sl (lo hi : IO) : iSl A lo hi env st = (A env st).bind fun d st1 => (lo env st1).bind fun l st2 => (hi env st2).bind fun h st3 => gSl d l h st3 := id rfl
@[simp] theorem ev_callB (f : List D → Sto → Rs D) : iCallB f L env st = (L env st).bind f := id rfl
@[simp] theorem ev_listOf : iListOf L env st = (L env st).bind fun ds st1 => match ds with
  | [d] => match seqAt st1 d with
    | some xs => .ok xs st1
    | none => .bad
  | _ => .bad := id rfl
@[simp] theorem ev_listRange : iListRange A env st = (A env st).bind fun d st1 => match d with
  | .int n => if n ≤ 16777216 ∧ 0 ≤ n then .ok ((List.range n.toNat).map fun i => .int (i : Nat)) st1 else .bad
  | _ => .bad := id rfl
@[simp] theorem ev_meth (f : D → List D → Sto → Rs D) : iMeth f A L env st = (A env st).bind fun d st1 => if isLst st1 d = true then (L env st1).bind fun ds st2 => f d ds st2 else .bad := id rfl
@[simp] theorem ev_call (n : Nat) (G : List D → Sto → Rs D) (dds : List D) : iCall n G dds L env st = (L env st).bind fun ds st1 => if ds.length = n then (G (ds ++ dds) st1).strict else .bad := id rfl
@[simp] theorem ev_callKn (n l : Nat) (G : List D → Sto → Rs D) : iCallKn n l G L L' env st = (L env st).bind fun ds st1 => (L' env st1).bind fun es st2 => if ds.length = n ∧ es.length = l then (G (ds ++ es) st2).strict else .bad := id rfl
@[simp] theorem ev_comp (fin : List D → Sto → Rs D) (n : Nat) (W : IW) (p : Pt) (vs : List Nat) : iComp fin n W p T A vs env st = (W env st).bind fun wk st1 => compGo wk p T A vs env fin n 0 [] st1 := id rfl
@[simp] theorem ev_yes : iYes env st = .ok true st := id rfl
@[simp] theorem ev_walk : iWalk A env st = (A env st).bind fun d st1 => fW (seqWk st1 d) st1 := id rfl
@[simp] theorem ev_walkC (f : List D → Sto → Rs Wk) : iWalkC f L env st = (L env st).bind f := id rfl
@[simp] theorem ev_sNil : sNil env st = .ok (.nx env) st := id rfl
@[simp] theorem ev_sSeq : sSeq S R env st = (S env st).bind fun fl st1 => match fl with
  | .nx env1 => R env1 st1
  | fl => .ok fl st1 := id rfl
@[simp] theorem ev_sBreak : sBreak env st = .ok (.bk env) st := id rfl
@[simp] theorem ev_sCont : sCont env st = .ok (.ct env) st := id rfl
@[simp] theorem ev_sRet : sRet A env st = (A env st).bind fun d st1 => .ok (.rt d) st1 := id rfl
@[simp] theorem ev_sRetN : sRetN env st = .ok (.rt .non) st := id rfl
@[simp] theorem ev_sDrop : sDrop A env st = (A env st).bind fun _ st1 => .ok (.nx env) st1 := id rfl
@[simp] theorem ev_sIf : sIf T S R env st = (T env st).bind fun b st1 => if b = true then S env st1 else R env st1 := id rfl
@[simp] theorem ev_sSet (i : Nat) : sSet i A env st = (A env st).bind fun d st1 => .ok (.nx (env.set i (some d))) st1 := id rfl
@[simp] theorem ev_sPar (is : List Nat) : sPar is L env st = (L env st).bind fun ds st1 => if ds.length = is.length then .ok (.nx ((is.zip ds).foldl (fun e p => e.set p.1 (some p.2)) env)) st1 else .bad := id rfl
@[simp] theorem ev_sAsg (p : Pt) : sAsg p A env st = (A env st).bind fun d st1 => match p.put d env with
  | some env1 => .ok (.nx env1) st1
  | none => .bad := id rfl
@[simp] theorem ev_sWhile (n : Nat) : sWhile n T S env st = whileGo T S n env st := id rfl
@[simp] theorem ev_sFor (n : Nat) (W : IW) (p : Pt) : sFor n W p S env st = (W env st).bind fun wk st1 => forGo wk p S n 0 env st1 := id rfl
@[simp] theorem ev_sSetIx : sSetIx A B C env st = (C env st).bind fun v st1 => (A env st1).bind fun o st2 => (B env st2).bind fun i st3 => (gSetIx o i v st3).bind fun _ st4 => .ok (.nx env) st4 := id rfl
@[simp] theorem ev_sAug (i : Nat) (f : D → D → Sto → Rs D) : sAug i f A env st = match env[i]? with
  | some (some d) => (A env st).bind fun e st1 => (f d e st1).bind fun r st2 => .ok (.nx (env.set i (some r))) st2
  | _ => .bad := id rfl
@[simp] theorem put_nm (i : Nat) (d : D) : (Pt.nm i).put d env = some (env.set i (some d)) := by simp only [Pt.put]
@[simp] theorem put_tp (ps : List Pt) (ds : List D) : (Pt.tp ps).put (.tup ds) env = Pt.puts ps ds env := by simp only [Pt.put]
@[simp] theorem puts_nil : Pt.puts [] [] env = some env := by simp only [Pt.puts]
@[simp] theorem puts_cons (p : Pt) (ps : List Pt) (d : D) (ds : List D) : Pt.puts (p :: ps) (d :: ds) env = match p.put d env with
  | some env' => Pt.puts ps ds env'
  | none => none := by cases h : p.put d env <;> simp only [Pt.puts, h]
end
/-! values -/
section
variable {st : Sto}
@[simp] theorem toB_bl (b : Bool) : toB (.bl b) st = .ok b st := id rfl
@[simp] theorem fT_some (b : Bool) : fT (some b) st = .ok b st := id rfl
@[simp] theorem fB_some (b : Bool) : fB (some b) st = .ok (.bl b) st := id rfl
@[simp] theorem fW_some (w : Wk) : fW (some w) st = .ok w st := id rfl
@[simp] theorem gAdd_int (i j : Int) : gAdd (.int i) (.int j) st = .ok (.int (i + j)) st := id rfl
@[simp] theorem gAdd_tup (xs ys : List D) : gAdd (.tup xs) (.tup ys) st = if xs.length + ys.length ≤ 16777216 then .ok (.tup (xs ++ ys)) st else .bad := id rfl
@[simp] theorem gAdd_rol (xs ys : List D) : gAdd (.rol xs) (.rol ys) st = if xs.length + ys.length ≤ 16777216 then .ok (.rol (xs ++ ys)) st else .bad := id rfl
@[simp] theorem gSub_int (i j : Int) : gSub (.int i) (.int j) st = .ok (.int (i - j)) st := id rfl
@[simp] theorem gMul_int (i j : Int) : gMul (.int i) (.int j) st = if i.natAbs < 2 ^ 64 ∨ j.natAbs < 2 ^ 64 then .ok (.int (i * j)) st else .bad := id rfl
@[simp] theorem gFdiv_int (i j : Int) : gFdiv (.int i) (.int j) st = if 0 < j ∧ j.natAbs.log2 < 9000 then .ok (.int (i / j)) st else .bad := id rfl
@[simp] theorem gMod_int (i j : Int) : gMod (.int i) (.int j) st = if 0 < j then .ok (.int (i % j)) st else .bad := id rfl
@[simp] theorem gPow_int (i j : Int) : gPow (.int i) (.int j) st = if 0 ≤ j ∧ j ≤ 1000000 ∧ i.natAbs < 2 ^ 64 then .ok (.int (i ^ j.toNat)) st else .bad := id rfl
@[simp] theorem gXor_int (i j : Int) : gXor (.int i) (.int j) st = .ok (.int (Builtin.bitXor i j)) st := id rfl
@[simp] theorem gAnd_int (i j : Int) : gAnd (.int i) (.int j) st = .ok (.int (Builtin.bitAnd i j)) st := id rfl
@[simp] theorem gNeg_int (i : Int) : gNeg (.int i) st = .ok (.int (-i)) st := id rfl
@[simp] theorem gLt_int (i j : Int) : gLt (.int i) (.int j) st = .ok (.bl (decide (i < j))) st := id rfl
@[simp] theorem gLe_int (i j : Int) : gLe (.int i) (.int j) st = .ok (.bl (decide (i ≤ j))) st := id rfl
@[simp] theorem gGt_int (i j : Int) : gGt (.int i) (.int j) st = .ok (.bl (decide (j < i))) st := id rfl
@[simp] theorem gGe_int (i j : Int) : gGe (.int i) (.int j) st = .ok (.bl (decide (j ≤ i))) st := id rfl
@[simp] theorem gEqE_int (i j : Int) : gEqE (.int i) (.int j) st = .ok (.bl (decide (i = j))) st := id rfl
@[simp] theorem gEqE_str (i j : Str) : gEqE (.str i) (.str j) st = .ok (.bl (decide (i = j))) st := id rfl
@[simp] theorem gEqE_bl (i j : Bool) : gEqE (.bl i) (.bl j) st = .ok (.bl (decide (i = j))) st := id rfl
@[simp] theorem gNeE_int (i j : Int) : gNeE (.int i) (.int j) st = .ok (.bl (!decide (i = j))) st := id rfl
@[simp] theorem gNeE_str (i j : Str) : gNeE (.str i) (.str j) st = .ok (.bl (!decide (i = j))) st := id rfl
@[simp] theorem gIsB_non (d : D) : gIsB d .non st = .ok (.bl d.isNon) st := by cases d <;> rfl
@[simp] theorem gIsB_bl (a b : Bool) : gIsB (.bl a) (.bl b) st = .ok (.bl (decide (a = b))) st := id rfl
@[simp] theorem gIsB_int (a : Int) (b : Bool) : gIsB (.int a) (.bl b) st = .ok (.bl false) st := id rfl
@[simp] theorem gIsB_str (a : Str) (b : Bool) : gIsB (.str a) (.bl b) st = .ok (.bl false) st := id rfl
@[simp] theorem gIsB_tup (a : List D) (b : Bool) : gIsB (.tup a) (.bl b) st = .ok (.bl false) st := id rfl
@[simp] theorem gIsB_nonb (b : Bool) : gIsB .non (.bl b) st = .ok (.bl false) st := id rfl
@[simp] theorem gIsNot_non (d : D) : gIsNot d .non st = .ok (.bl (!d.isNon)) st := id rfl
@[simp] theorem isNon_non : D.isNon .non = true := id rfl
@[simp] theorem isNon_int (i : Int) : D.isNon (.int i) = false := id rfl
@[simp] theorem isNon_bl (i : Bool) : D.isNon (.bl i) = false := id rfl
@[simp] theorem isNon_str (i : Str) : D.isNon (.str i) = false := id rfl
@[simp] theorem isNon_tup (i : List D) : D.isNon (.tup i) = false := id rfl
@[simp] theorem gIsi_int (T : String) (i : Int) : gIsi T (.int i) st = .ok (.bl (isK "int" T)) st := id rfl
@[simp] theorem gIsi_bl (T : String) (i : Bool) : gIsi T (.bl i) st = .ok (.bl (isK "bool" T)) st := id rfl
@[simp] theorem gIsi_str (T : String) (i : Str) : gIsi T (.str i) st = .ok (.bl (isK "str" T)) st := id rfl
@[simp] theorem gIsi_non (T : String) : gIsi T .non st = .ok (.bl (isK "NoneType" T)) st := id rfl
@[simp] theorem gIsi_tup (T : String) (i : List D) : gIsi T (.tup i) st = .ok (.bl (isK "tuple" T)) st := id rfl
@[simp] theorem gTru_bl (b : Bool) : gTru st (.bl b) = some b := id rfl
@[simp] theorem gTru_int (i : Int) : gTru st (.int i) = some (i != 0) := id rfl
@[simp] theorem gTru_non : gTru st .non = some false := id rfl
@[simp] theorem seqAt_tup (xs : List D) : seqAt st (.tup xs) = some xs := id rfl
@[simp] theorem seqAt_rol (xs : List D) : seqAt st (.rol xs) = some xs := id rfl
@[simp] theorem seqAt_scr (xs : List D) : seqAt st (.scr xs) = some xs := id rfl
theorem seqAt_ref {n : Nat} {xs : List D} (h : st[n]? = some (.lst xs)) : seqAt st (.ref n) = some xs := by simp only [seqAt, h]
theorem listAt_ref {n : Nat} {xs : List D} (h : st[n]? = some (.lst xs)) : listAt st (.ref n) = some xs := by simp only [listAt, h]
@[simp] theorem listAt_rol (xs : List D) : listAt st (.rol xs) = some xs := id rfl
theorem isLst_ref {n : Nat} {xs : List D} (h : st[n]? = some (.lst xs)) : isLst st (.ref n) = true := by simp only [isLst, h]
@[simp] theorem gLen_tup (xs : List D) : gLen [.tup xs] st = .ok (.int xs.length) st := id rfl
@[simp] theorem gLen_rol (xs : List D) : gLen [.rol xs] st = .ok (.int xs.length) st := id rfl
@[simp] theorem gLen_scr (xs : List D) : gLen [.scr xs] st = .ok (.int xs.length) st := id rfl
theorem gLen_ref {n : Nat} {xs : List D} (h : st[n]? = some (.lst xs)) : gLen [.ref n] st = .ok (.int xs.length) st := by
  simp only [gLen, seqAt_ref h]
@[simp] theorem gTuple_tup (xs : List D) : gTuple [.tup xs] st = .ok (.tup xs) st := id rfl
@[simp] theorem gTuple_rol (xs : List D) : gTuple [.rol xs] st = .ok (.tup xs) st := id rfl
theorem gTuple_ref {n : Nat} {xs : List D} (h : st[n]? = some (.lst xs)) : gTuple [.ref n] st = .ok (.tup xs) st := by
  simp only [gTuple, seqAt_ref h]
@[simp] theorem gInt_int (i : Int) : gInt [.int i] st = .ok (.int i) st := id rfl
@[simp] theorem gAbs_int (i : Int) : gAbs [.int i] st = .ok (.int (if i < 0 then -i else i)) st := id rfl
@[simp] theorem gMax_2 (i j : Int) : gMax [.int i, .int j] st = .ok (.int (if j > i then j else i)) st := id rfl
@[simp] theorem gMin_2 (i j : Int) : gMin [.int i, .int j] st = .ok (.int (if j < i then j else i)) st := id rfl
@[simp] theorem gSum_ints (ns : List Int) : gSum [.rol (ns.map D.int)] st = .ok (.int ns.sum) st := by simp [gSum]
theorem gIx_nat {d : D} {xs : List D} {i : Nat} {v : D} (h : seqAt st d = some xs) (hi : xs[i]? = some v) : gIx d (.int (i : Nat)) st = .ok v st := by
  unfold gIx
  cases d with
  | str z => cases h
  | _ => simp only [h, atI_nat hi]
@[simp] theorem gSl_tup (xs : List D) (lo hi : Option Int) : gSl (.tup xs) lo hi st = .ok (.tup (cut xs lo hi)) st := id rfl
@[simp] theorem gSl_rol (xs : List D) (lo hi : Option Int) : gSl (.rol xs) lo hi st = .ok (.rol (cut xs lo hi)) st := id rfl
theorem gSl_ref {n : Nat} {xs : List D} (h : st[n]? = some (.lst xs)) (lo hi : Option Int) : gSl (.ref n) lo hi st = .ok (.rol (cut xs lo hi)) st := by
  unfold gSl
  simp only [seqAt_ref h]
theorem cut_nat {α : Type} (xs : List α) (a b : Nat) : cut xs (some (a : Int)) (some (b : Int)) = (xs.drop (min a xs.length)).take (min b xs.length - min a xs.length) := by
  unfold cut
  rw [HT.sIx_nat, HT.sIx_nat]
theorem cut_seg {α : Type} (xs : List α) {a b : Nat} (hab : a ≤ b) (hb : b ≤ xs.length) : cut xs (some (a : Int)) (some (b : Int)) = (xs.drop a).take (b - a) := by
  rw [cut_nat, Nat.min_eq_left hb, Nat.min_eq_left (Nat.le_trans hab hb)]
theorem cut_to {α : Type} (xs : List α) (b : Nat) : cut xs none (some (b : Int)) = xs.take b := by
  unfold cut
  rw [HT.sIx_none, HT.sIx_nat, List.drop_zero, Nat.sub_zero]
  by_cases h : b ≤ xs.length
  · rw [Nat.min_eq_left h]
  · rw [Nat.min_eq_right (by omega), List.take_of_length_le (Nat.le_refl _), List.take_of_length_le (by omega)]
theorem cut_from {α : Type} (xs : List α) (a : Nat) : cut xs (some (a : Int)) none = xs.drop a := by
  unfold cut
  rw [HT.sIx_none, HT.sIx_nat]
  by_cases h : a ≤ xs.length
  · rw [Nat.min_eq_left h, List.take_of_length_le (by rw [List.length_drop]; omega)]
  · rw [Nat.min_eq_right (by omega), Nat.sub_self, List.drop_eq_nil_of_le (by omega : xs.length ≤ a)]
    simp
theorem gAppend_at {n : Nat} {xs : List D} {e : D} (h : st[n]? = some (.lst xs)) (hz : xs.length < 16777216) : gAppend (.ref n) [e] st = .ok .non (setL st n (xs ++ [e])) := by
  unfold gAppend
  simp only [h, if_pos hz]
theorem gSetIx_at {n : Nat} {xs : List D} {i : Nat} {e : D} (h : st[n]? = some (.lst xs)) (hi : i < xs.length) : gSetIx (.ref n) (.int (i : Nat)) e st = .ok () (setL st n (xs.set i e)) := by
  unfold gSetIx
  have : ixN xs.length (i : Int) = some i := by
    unfold ixN
    rw [if_pos (by omega), if_pos (by omega)]
    simp
  simp only [h, this]
end
/-! loops: the items that are walked -/
section
variable {wk : Wk} {p : Pt} {S : IS} {items : List D}
theorem for_inv (I : Nat → Ev → Sto → Prop) (hw : ∀ i env st, I i env st → wk i st = some items[i]?)
    (hs : ∀ (i : Nat) (d : D) (env : Ev) (st : Sto), items[i]? = some d → I i env st → ∃ env1, p.put d env = some env1 ∧ ∃ e2 st2, (S env1 st = .ok (.nx e2) st2 ∨ S env1 st = .ok (.ct e2) st2) ∧ I (i + 1) e2 st2) :
    ∀ (n i : Nat) (env : Ev) (st : Sto), i ≤ items.length → items.length < n + i → I i env st → ∃ e' st', forGo wk p S n i env st = .ok (.nx e') st' ∧ I items.length e' st'
  | 0, i, env, st, hi, hn, h => by omega
  | n + 1, i, env, st, hi, hn, h => by
    unfold forGo
    rw [hw i env st h]
    cases hd : items[i]? with
    | none =>
      have : items.length ≤ i := List.getElem?_eq_none_iff.mp hd
      have e : i = items.length := by omega
      subst e
      exact ⟨env, st, rfl, h⟩
    | some d =>
      obtain ⟨env1, h1, e2, st2, h2, h3⟩ := hs i d env st hd h
      simp only [h1]
      have hl : i < items.length := lt_of_get hd
      obtain ⟨e', st', h4, h5⟩ := for_inv I hw hs n (i + 1) e2 st2 hl (by omega) h3
      rcases h2 with h2 | h2 <;> (rw [h2]; exact ⟨e', st', h4, h5⟩)
/-- the same from the start, with the fuel that the ties have -/
theorem for_inv0 (I : Nat → Ev → Sto → Prop) (hw : ∀ i env st, I i env st → wk i st = some items[i]?)
    (hs : ∀ (i : Nat) (d : D) (env : Ev) (st : Sto), items[i]? = some d → I i env st → ∃ env1, p.put d env = some env1 ∧ ∃ e2 st2, (S env1 st = .ok (.nx e2) st2 ∨ S env1 st = .ok (.ct e2) st2) ∧ I (i + 1) e2 st2)
    {n : Nat} {env : Ev} {st : Sto} (hn : items.length < n) (h : I 0 env st) : ∃ e' st', forGo wk p S n 0 env st = .ok (.nx e') st' ∧ I items.length e' st' :=
  for_inv I hw hs n 0 env st (Nat.zero_le _) (by omega) h
theorem wkSeq_at (xs : List D) (i : Nat) (st : Sto) : wkSeq xs i st = some xs[i]? := rfl
theorem wkLive_at {n : Nat} {st : Sto} {xs : List D} (h : st[n]? = some (.lst xs)) (i : Nat) : wkLive n i st = some xs[i]? := by unfold wkLive; rw [h]
def rangeD (lo : Int) (n : Nat) : List D := (List.range n).map fun i => .int (lo + (i : Nat))
theorem wkRange_at (lo : Int) (n i : Nat) (st : Sto) : wkRange lo n i st = some (rangeD lo n)[i]? := by
  unfold wkRange rangeD
  by_cases h : i < n
  · rw [if_pos h]; simp [h]
  · rw [if_neg h]; simp [h]
@[simp] theorem rangeD_len (lo : Int) (n : Nat) : (rangeD lo n).length = n := by simp [rangeD]
theorem rangeD_get {lo : Int} {n i : Nat} {d : D} (h : (rangeD lo n)[i]? = some d) : i < n ∧ d = .int (lo + i) := by
  have hl := lt_of_get h
  rw [rangeD_len] at hl
  refine ⟨hl, ?_⟩
  simp only [rangeD, List.getElem?_map, List.getElem?_range hl, Option.map_some, Option.some.injEq] at h
  exact h.symm
def enumD (xs : List D) : List D := xs.mapIdx fun i d => .tup [.int (i : Nat), d]
theorem wkEnum_at {wk : Wk} {xs : List D} {st : Sto} {i : Nat} (h : wk i st = some xs[i]?) : wkEnum wk i st = some (enumD xs)[i]? := by
  unfold wkEnum enumD
  rw [h, List.getElem?_mapIdx]
  cases xs[i]? <;> rfl
@[simp] theorem enumD_len (xs : List D) : (enumD xs).length = xs.length := by simp [enumD]
theorem enumD_get {xs : List D} {i : Nat} {d : D} (h : (enumD xs)[i]? = some d) : ∃ e, xs[i]? = some e ∧ d = .tup [.int (i : Nat), e] := by
  unfold enumD at h
  rw [List.getElem?_mapIdx] at h
  cases q : xs[i]? with
  | none => rw [q] at h; cases h
  | some e => rw [q] at h; cases h; exact ⟨e, rfl, rfl⟩
def zipD (xs ys : List D) : List D := List.zipWith (fun a b => .tup [a, b]) xs ys
theorem wkZip_at {wk wk' : Wk} {xs ys : List D} {st : Sto} {i : Nat} (h : wk i st = some xs[i]?) (h' : wk' i st = some ys[i]?) : wkZip wk wk' i st = some (zipD xs ys)[i]? := by
  unfold wkZip zipD
  rw [h, h', List.getElem?_zipWith]
  cases xs[i]? <;> cases ys[i]? <;> rfl
@[simp] theorem zipD_len (xs ys : List D) : (zipD xs ys).length = min xs.length ys.length := by simp [zipD]
theorem zipD_get {xs ys : List D} {i : Nat} {d : D} (h : (zipD xs ys)[i]? = some d) : ∃ a b, xs[i]? = some a ∧ ys[i]? = some b ∧ d = .tup [a, b] := by
  unfold zipD at h
  rw [List.getElem?_zipWith] at h
  cases q : xs[i]? with
  | none => rw [q] at h; cases h
  | some a =>
    cases q' : ys[i]? with
    | none => rw [q, q'] at h; cases h
    | some b => rw [q, q'] at h; cases h; exact ⟨a, b, rfl, rfl, rfl⟩
/-- a comprehension -/
theorem comp_inv {T : IT} {A : IE} {vs : List Nat} {env : Ev} {fin : List D → Sto → Rs D} (I : Nat → List D → Sto → Prop) (hw : ∀ i acc st, I i acc st → wk i st = some items[i]?)
    (hs : ∀ (i : Nat) (d : D) (acc : List D) (st : Sto), items[i]? = some d → I i acc st → ∃ env1, p.put d (wipeE env vs) = some env1 ∧ ∃ b st1, T env1 st = .ok b st1 ∧
      ((b = false ∧ I (i + 1) acc st1) ∨ (b = true ∧ ∃ y st2, A env1 st1 = .ok y st2 ∧ I (i + 1) (acc ++ [y]) st2))) :
    ∀ (n i : Nat) (acc : List D) (st : Sto), i ≤ items.length → items.length < n + i → acc.length ≤ i → items.length < 16777216 → I i acc st → ∃ acc' st', compGo wk p T A vs env fin n i acc st = fin acc' st' ∧ I items.length acc' st'
  | 0, i, acc, st, hi, hn, _, _, h => by omega
  | n + 1, i, acc, st, hi, hn, ha, hz, h => by
    unfold compGo
    rw [hw i acc st h]
    cases hd : items[i]? with
    | none =>
      have : items.length ≤ i := List.getElem?_eq_none_iff.mp hd
      have e : i = items.length := by omega
      subst e
      exact ⟨acc, st, rfl, h⟩
    | some d =>
      obtain ⟨env1, h1, b, st1, h2, h3⟩ := hs i d acc st hd h
      have hl : i < items.length := lt_of_get hd
      simp only [h1, h2, Rs.strict_ok, Rs.bind_ok]
      rcases h3 with ⟨rfl, h3⟩ | ⟨rfl, y, st2, h3, h4⟩
      · simp only [Bool.false_eq_true, if_false]
        exact comp_inv I hw hs n (i + 1) acc st1 hl (by omega) (by omega) hz h3
      · simp only [if_true, h3, Rs.strict_ok, Rs.bind_ok]
        rw [if_pos (by omega)]
        exact comp_inv I hw hs n (i + 1) (acc ++ [y]) st2 hl (by omega) (by rw [List.length_append]; simp; omega) hz h4
theorem comp_inv0 {T : IT} {A : IE} {vs : List Nat} {env : Ev} {fin : List D → Sto → Rs D} (I : Nat → List D → Sto → Prop) (hw : ∀ i acc st, I i acc st → wk i st = some items[i]?)
    (hs : ∀ (i : Nat) (d : D) (acc : List D) (st : Sto), items[i]? = some d → I i acc st → ∃ env1, p.put d (wipeE env vs) = some env1 ∧ ∃ b st1, T env1 st = .ok b st1 ∧
      ((b = false ∧ I (i + 1) acc st1) ∨ (b = true ∧ ∃ y st2, A env1 st1 = .ok y st2 ∧ I (i + 1) (acc ++ [y]) st2)))
    {n : Nat} {st : Sto} (hn : items.length < n) (hz : items.length < 16777216) (h : I 0 [] st) : ∃ acc' st', compGo wk p T A vs env fin n 0 [] st = fin acc' st' ∧ I items.length acc' st' :=
  comp_inv I hw hs n 0 [] st (Nat.zero_le _) (by omega) (Nat.zero_le _) hz h
/-- a comprehension that changes nothing: by a function of the item (none: left out) -/
theorem comp_pure {T : IT} {A : IE} {vs : List Nat} {env : Ev} {fin : List D → Sto → Rs D} {st : Sto} (f : D → Option D) (hw : ∀ i, wk i st = some items[i]?)
    (hs : ∀ d ∈ items, ∃ env1, p.put d (wipeE env vs) = some env1 ∧ ((f d = none ∧ T env1 st = .ok false st) ∨ ∃ y, f d = some y ∧ T env1 st = .ok true st ∧ A env1 st = .ok y st))
    {n : Nat} (hn : items.length < n) (hz : items.length < 16777216) : compGo wk p T A vs env fin n 0 [] st = fin (items.filterMap f) st := by
  obtain ⟨acc', st', h1, h2, h3⟩ := comp_inv0 (wk := wk) (p := p) (T := T) (A := A) (vs := vs) (env := env) (fin := fin) (items := items) (fun i acc s => s = st ∧ acc = (items.take i).filterMap f) (fun i acc s h => by rw [h.1]; exact hw i)
    (fun i d acc s hd h => by
      obtain ⟨rfl, rfl⟩ := h
      obtain ⟨env1, h1, h2⟩ := hs d (List.mem_of_getElem? hd)
      refine ⟨env1, h1, ?_⟩
      rcases h2 with ⟨h2, h3⟩ | ⟨y, h2, h3, h4⟩
      · exact ⟨false, s, h3, .inl ⟨rfl, rfl, by rw [List.take_add_one, hd]; simp [List.filterMap_append, h2]⟩⟩
      · exact ⟨true, s, h3, .inr ⟨rfl, y, s, h4, rfl, by rw [List.take_add_one, hd]; simp [List.filterMap_append, h2]⟩⟩) hn hz ⟨rfl, rfl⟩
  rw [h1, h2, h3, List.take_length]
end
/-! lists of numbers -/
def tn (ns : List Nat) : D := .tup (ns.map fun n => .int (n : Nat))
def nats? : List D → Option (List Nat)
  | [] => some []
  | .int i :: ds => if 0 ≤ i then match nats? ds with
    | some ns => some (i.toNat :: ns)
    | none => none
    else none
  | _ :: _ => none
@[simp] theorem nats_map : ∀ ns : List Nat, nats? (ns.map fun n => D.int (n : Nat)) = some ns
  | [] => rfl
  | n :: ns => by simp [nats?, nats_map ns]
theorem nats_of : ∀ {ds : List D} {ns : List Nat}, nats? ds = some ns → ds = ns.map fun n => D.int (n : Nat)
  | [], _, h => by cases h; rfl
  | .int i :: ds, ns, h => by
    simp only [nats?] at h
    split at h
    · rename_i hi
      split at h
      · rename_i ms hm
        cases h
        rw [nats_of hm, List.map_cons, Int.toNat_of_nonneg hi]
      · cases h
    · cases h
  | .non :: ds, ns, h => by simp [nats?] at h
  | .bl _ :: ds, ns, h => by simp [nats?] at h
  | .str _ :: ds, ns, h => by simp [nats?] at h
  | .tup _ :: ds, ns, h => by simp [nats?] at h
  | .rol _ :: ds, ns, h => by simp [nats?] at h
  | .scr _ :: ds, ns, h => by simp [nats?] at h
  | .ref _ :: ds, ns, h => by simp [nats?] at h
@[simp] theorem lo_int (n : Nat) (i : Int) : D.lo n (.int i) = true := by simp [D.lo]
@[simp] theorem lo_non (n : Nat) : D.lo n .non = true := by simp [D.lo]
@[simp] theorem lo_bl (n : Nat) (i : Bool) : D.lo n (.bl i) = true := by simp [D.lo]
@[simp] theorem lo_str (n : Nat) (i : Str) : D.lo n (.str i) = true := by simp [D.lo]
@[simp] theorem lo_tup (n : Nat) (xs : List D) : D.lo n (.tup xs) = D.loAll n xs := by simp [D.lo]
@[simp] theorem lo_rol (n : Nat) (xs : List D) : D.lo n (.rol xs) = D.loAll n xs := by simp [D.lo]
@[simp] theorem lo_scr (n : Nat) (xs : List D) : D.lo n (.scr xs) = D.loAll n xs := by simp [D.lo]
@[simp] theorem lo_ref (n k : Nat) : D.lo n (.ref k) = decide (k < n) := by simp [D.lo]
@[simp] theorem loAll_nil (n : Nat) : D.loAll n [] = true := by simp [D.loAll]
@[simp] theorem loAll_cons (n : Nat) (d : D) (ds : List D) : D.loAll n (d :: ds) = (D.lo n d && D.loAll n ds) := by simp [D.loAll]
@[simp] theorem loAll_append (n : Nat) (ds es : List D) : D.loAll n (ds ++ es) = (D.loAll n ds && D.loAll n es) := by
  induction ds with
  | nil => simp
  | cons d ds ih => simp [ih, Bool.and_assoc]
theorem loAll_iff {n : Nat} {ds : List D} : D.loAll n ds = true ↔ ∀ d ∈ ds, D.lo n d = true := by
  induction ds with
  | nil => simp
  | cons d ds ih => simp [ih]
@[simp] theorem loAll_nats (n : Nat) (ns : List Nat) : D.loAll n (ns.map fun k => D.int (k : Nat)) = true := by
  rw [loAll_iff]; intro d hd; obtain ⟨k, _, rfl⟩ := List.mem_map.mp hd; simp
@[simp] theorem loAll_ints (n : Nat) (ns : List Int) : D.loAll n (ns.map D.int) = true := by
  rw [loAll_iff]; intro d hd; obtain ⟨k, _, rfl⟩ := List.mem_map.mp hd; simp
/-! closed stores -/
theorem closed_set {st : Sto} {n : Nat} {c : Cell} (h : Closed st) (hc : c.lo st.length = true) : Closed (st.set n c) := fun d hd => by
  rw [List.length_set]
  rcases List.mem_or_eq_of_mem_set hd with h1 | rfl
  · exact h d h1
  · exact hc
theorem closed_setL {st : Sto} {n : Nat} {xs : List D} (h : Closed st) (hc : D.loAll st.length xs = true) : Closed (setL st n xs) := closed_set h hc
@[simp] theorem setL_len (st : Sto) (n : Nat) (xs : List D) : (setL st n xs).length = st.length := by simp [setL]
theorem setL_get {st : Sto} {n : Nat} {xs : List D} (h : n < st.length) : (setL st n xs)[n]? = some (.lst xs) := by simp [setL, h]
theorem setL_ne {st : Sto} {n k : Nat} {xs : List D} (h : n ≠ k) : (setL st n xs)[k]? = st[k]? := by simp [setL, List.getElem?_set_ne h]
@[simp] theorem setL_setL (st : Sto) (n : Nat) (xs ys : List D) : setL (setL st n xs) n ys = setL st n ys := by simp [setL]
end QI

/-! a call as the run of its body -/
namespace QI
open PySem PySem.Spec PyProof.Rows L2
open Classical in
/-- what a value comes to at the end of a body: its new cells go if nothing holds them -/
noncomputable def trim (st0 : Sto) (d : D) (st' : Sto) : Rs D :=
  if st0.length ≤ st'.length ∧ d.lo st0.length = true ∧ Closed (st'.take st0.length) then .ok d (st'.take st0.length)
  else if st0.length ≤ st'.length ∧ d.lo st'.length = true ∧ Closed st' then .ok d st' else .bad
noncomputable def run (N : List Str) (B : IS) (ds : List D) (st0 : Sto) : Rs D := match B (startE N ds) st0 with
  | .ok (.rt d) st' => trim st0 d st'
  | .ok (.nx _) st' => trim st0 .non st'
  | _ => .bad
theorem trim_ref {st0 st' : Sto} {d : D} {r : Rs Fl} (h : r = .ok (.rt d) st' ∨ (∃ e, r = .ok (.nx e) st') ∧ d = .non) : (∀ e s', trim st0 d st' ≠ .exn e s') ∧ Ref st0 r (trim st0 d st') := by
  unfold trim
  split
  · rename_i hz
    refine ⟨fun e s' q => (nomatch q), ⟨d, st'.drop st0.length, 0, ?_, rfl, by rw [List.length_take, Nat.min_eq_left hz.1]; exact hz.2.1, hz.2.2, by rw [List.length_take, Nat.min_eq_left hz.1]; exact Nat.le_refl _⟩⟩
    rw [List.take_append_drop]
    rcases h with h | ⟨⟨e, h⟩, rfl⟩
    · exact .inl h
    · exact .inr ⟨e, h, rfl⟩
  · split
    · rename_i hz
      refine ⟨fun e s' q => (nomatch q), ⟨d, [], 0, ?_, rfl, hz.2.1, hz.2.2, hz.1⟩⟩
      rw [List.append_nil]
      rcases h with h | ⟨⟨e, h⟩, rfl⟩
      · exact .inl h
      · exact .inr ⟨e, h, rfl⟩
    · exact And.intro (fun e s' q => nomatch q) trivial
theorem run_ref {N : List Str} {B : IS} {ds : List D} {s : Sto} : (∀ e s', run N B ds s ≠ .exn e s') ∧ Ref s (B (startE N ds) s) (run N B ds s) := by
  unfold run
  cases h : B (startE N ds) s with
  | ok fl st' =>
    cases fl with
    | rt d => exact trim_ref (.inl rfl)
    | nx e => exact trim_ref (.inr ⟨⟨e, rfl⟩, rfl⟩)
    | bk e => exact And.intro (fun e s' q => nomatch q) trivial
    | ct e => exact And.intro (fun e s' q => nomatch q) trivial
  | exn e s' => exact And.intro (fun e s' q => nomatch q) trivial
  | bad => exact And.intro (fun e s' q => nomatch q) trivial
mutual
theorem D.lo_mono {n k : Nat} (h : n ≤ k) : ∀ {d : D}, d.lo n = true → d.lo k = true
  | .non, _ => by simp
  | .bl _, _ => by simp
  | .int _, _ => by simp
  | .str _, _ => by simp
  | .tup ds, b => by simp only [lo_tup] at b ⊢; exact D.loAll_mono h b
  | .rol ds, b => by simp only [lo_rol] at b ⊢; exact D.loAll_mono h b
  | .scr ds, b => by simp only [lo_scr] at b ⊢; exact D.loAll_mono h b
  | .ref i, b => by simp only [lo_ref, decide_eq_true_eq] at b ⊢; omega
theorem D.loAll_mono {n k : Nat} (h : n ≤ k) : ∀ {ds : List D}, D.loAll n ds = true → D.loAll k ds = true
  | [], _ => by simp
  | d :: ds, b => by
    simp only [loAll_cons, Bool.and_eq_true] at b ⊢
    exact ⟨D.lo_mono h b.1, D.loAll_mono h b.2⟩
end
theorem Cell.lo_mono {n k : Nat} (h : n ≤ k) {c : Cell} (hc : c.lo n = true) : c.lo k = true := by
  cases c with
  | lst xs => exact D.loAll_mono h hc
  | ins a fs =>
    simp only [Cell.lo, List.all_eq_true] at hc ⊢
    exact fun p hp => D.lo_mono h (hc p hp)
  | dk kvs =>
    simp only [Cell.lo, List.all_eq_true] at hc ⊢
    exact fun p hp => D.lo_mono h (hc p hp)
  | dt kvs =>
    simp only [Cell.lo, List.all_eq_true] at hc ⊢
    exact fun p hp => D.lo_mono h (hc p hp)
section
variable {ct : String → Addr} {P : Program} {w : World} {K : PySem.W.Frag} {mg : Str → Option Value} {base : Heap} {x : Str} {st : Stmt} {f : Addr} {fd : FuncData} {N ps : List Str} {k : Nat} {B : IS} {G : List D → Sto → Rs D}
theorem kn_of (m : mg x = some (.ref f)) (F : Fun K x x st f fd) (S : FnScope N ps (defScope st)) (hG : G = run N B)
    (hB : ∀ (f : Addr) (cdv : Value) (A : Around) (outer : List Env) (s : Shared) (H : Hp) (E : XK), Room k (A.deeper (envOfC x (defScope st) s.heap.objs.size f cdv)) → SSs ct (bodyX P w K mg base N x st f cdv A outer s H E) noE (defBody st) B) : Kn ct P w K mg base x st ps (k + 1) G f fd :=
  ⟨m, F, def_ok F S (fun cdv A outer s H E hr => hB f cdv A outer s H E hr) (fun ds s _ _ _ => by rw [hG]; exact run_ref)⟩
/-- nothing is known of it -/
theorem kn_bad (m : mg x = some (.ref f)) (F : Fun K x x st f fd) (S : FnScope N ps (defScope st)) : Kn ct P w K mg base x st ps k (fun _ _ => .bad) f fd := by
  exact ⟨m, F, ⟨fun vs H Q E h => (by obtain ⟨m, ds, st', h1, h2, _⟩ := h; rw [← h2.length]; exact h1), fun A outer s H args us vs Q E _ _ _ _ hs => (by obtain ⟨m, ds, st', h1, h2, h3, fin⟩ := hs; exact (show False from fin).elim)⟩⟩
theorem Kn.up {j : Nat} (h : Kn ct P w K mg base x st ps j G f fd) (hk : j ≤ k) : Kn ct P w K mg base x st ps k G f fd := ⟨h.m, h.fu, h.ok.mono hk⟩
end
/-- a run that leaves the store as it was -/
theorem run_pure {N : List Str} {B : IS} {ds : List D} {st : Sto} {d : D} (hc : Closed st) (hd : d.lo st.length = true) (h : B (startE N ds) st = .ok (.rt d) st) : run N B ds st = .ok d st := by
  unfold run
  rw [h]
  show trim st d st = _
  unfold trim
  rw [List.take_length, if_pos ⟨Nat.le_refl _, hd, hc⟩]
/-- a run that leaves new cells behind it -/
theorem run_more {N : List Str} {B : IS} {ds : List D} {st j : Sto} {d : D} (hc : Closed st) (hd : d.lo st.length = true) (h : B (startE N ds) st = .ok (.rt d) (st ++ j)) : run N B ds st = .ok d st := by
  unfold run
  rw [h]
  show trim st d (st ++ j) = _
  unfold trim
  rw [List.take_left, if_pos ⟨by simp, hd, hc⟩]
/-- a run that changes the store -/
theorem run_same {N : List Str} {B : IS} {ds : List D} {st st' : Sto} {d : D} (hl : st'.length = st.length) (hc : Closed st') (hd : d.lo st.length = true) (h : B (startE N ds) st = .ok (.rt d) st') : run N B ds st = .ok d st' := by
  unfold run
  rw [h]
  show trim st d st' = _
  unfold trim
  rw [← hl, List.take_length, if_pos ⟨Nat.le_refl _, by rw [hl]; exact hd, hc⟩]
/-- a run that gives a new cell -/
theorem run_cell {N : List Str} {B : IS} {ds : List D} {st : Sto} {xs : List D} (hc : Closed st) (hx : D.loAll (st.length + 1) xs = true) (h : B (startE N ds) st = .ok (.rt (.ref st.length)) (st ++ [.lst xs])) : run N B ds st = .ok (.ref st.length) (st ++ [.lst xs]) := by
  unfold run
  rw [h]
  show trim st _ _ = _
  unfold trim
  have hcl : Closed (st ++ [.lst xs]) := by
    intro c hm
    rcases List.mem_append.mp hm with h1 | h1
    · rw [List.length_append]
      exact Cell.lo_mono (by simp) (hc c h1)
    · rw [List.mem_singleton] at h1
      subst h1
      rw [List.length_append]
      exact hx
  rw [if_neg (by simp), if_pos ⟨by simp, by simp, hcl⟩]
end QI

/-! more for evaluation -/
namespace QI
open PySem PySem.Spec PyProof.Rows L2
/-- a comprehension that leaves out nothing and changes nothing -/
theorem comp_to {wk : Wk} {p : Pt} {items : List D} {T : IT} {A : IE} {vs : List Nat} {env : Ev} {fin : List D → Sto → Rs D} {st : Sto} (ys : List D) (hl : ys.length = items.length) (hw : ∀ i, wk i st = some items[i]?)
    (hs : ∀ (i : Nat) (d y : D), items[i]? = some d → ys[i]? = some y → ∃ env1, p.put d (wipeE env vs) = some env1 ∧ T env1 st = .ok true st ∧ A env1 st = .ok y st)
    {n : Nat} (hn : items.length < n) (hz : items.length < 16777216) : compGo wk p T A vs env fin n 0 [] st = fin ys st := by
  obtain ⟨acc', st', h1, h2, h3⟩ := comp_inv0 (wk := wk) (p := p) (T := T) (A := A) (vs := vs) (env := env) (fin := fin) (items := items) (fun i acc s => s = st ∧ acc = ys.take i) (fun i acc s h => by rw [h.1]; exact hw i)
    (fun i d acc s hd h => by
      obtain ⟨rfl, rfl⟩ := h
      have hi : i < ys.length := by rw [hl]; exact lt_of_get hd
      obtain ⟨env1, h1, h2, h3⟩ := hs i d ys[i] hd (List.getElem?_eq_getElem hi)
      exact ⟨env1, h1, true, s, h2, .inr ⟨rfl, ys[i], s, h3, rfl, by rw [List.take_add_one, List.getElem?_eq_getElem hi]; rfl⟩⟩) hn hz ⟨rfl, rfl⟩
  rw [h1, h2, h3, ← hl, List.take_length]
@[simp] theorem fRol_ok (ds : List D) (st : Sto) : fRol ds st = .ok (.rol ds) st := id rfl
/-! a new cell at the end of the store -/
section
variable {st : Sto} {xs : List D}
@[simp] theorem get_end (c : Cell) : (st ++ [c])[st.length]? = some c := by simp
@[simp] theorem setL_end (ys : List D) : setL (st ++ [.lst xs]) st.length ys = st ++ [.lst ys] := by simp [setL]
@[simp] theorem seqAt_end : seqAt (st ++ [.lst xs]) (.ref st.length) = some xs := seqAt_ref (get_end _)
@[simp] theorem isLst_end : isLst (st ++ [.lst xs]) (.ref st.length) = true := isLst_ref (get_end _)
@[simp] theorem gLen_end : gLen [.ref st.length] (st ++ [.lst xs]) = .ok (.int xs.length) (st ++ [.lst xs]) := gLen_ref (get_end _)
@[simp] theorem gTuple_end : gTuple [.ref st.length] (st ++ [.lst xs]) = .ok (.tup xs) (st ++ [.lst xs]) := gTuple_ref (get_end _)
theorem closed_end (h : Closed st) (hx : D.loAll (st.length + 1) xs = true) : Closed (st ++ [.lst xs]) := by
  intro c hm
  rcases List.mem_append.mp hm with h1 | h1
  · rw [List.length_append]
    exact Cell.lo_mono (by simp) (h c h1)
  · rw [List.mem_singleton] at h1
    subst h1
    rw [List.length_append]
    exact hx
end
section
variable {st : Sto}
@[simp] theorem seqWk_tup (xs : List D) : seqWk st (.tup xs) = some (wkSeq xs) := id rfl
@[simp] theorem seqWk_rol (xs : List D) : seqWk st (.rol xs) = some (wkSeq xs) := id rfl
@[simp] theorem seqWk_scr (xs : List D) : seqWk st (.scr xs) = some (wkSeq xs) := id rfl
@[simp] theorem seqWk2_tup (xs : List D) : seqWk2 st (.tup xs) = some (true, wkSeq xs) := id rfl
@[simp] theorem seqWk2_rol (xs : List D) : seqWk2 st (.rol xs) = some (false, wkSeq xs) := id rfl
@[simp] theorem seqWk2_scr (xs : List D) : seqWk2 st (.scr xs) = some (false, wkSeq xs) := id rfl
theorem seqWk_ref {n : Nat} {xs : List D} (h : st[n]? = some (.lst xs)) : seqWk st (.ref n) = some (wkLive n) := by simp only [seqWk, h]
theorem seqWk2_ref {n : Nat} {xs : List D} (h : st[n]? = some (.lst xs)) : seqWk2 st (.ref n) = some (false, wkLive n) := by simp only [seqWk2, h]
theorem log2_9000 {n : Nat} (h : n < 18446744073709551616) : n.log2 < 9000 := by
  by_cases h0 : n = 0
  · subst h0; decide
  · rw [Nat.log2_lt h0]
    exact Nat.lt_of_lt_of_le (show n < 2 ^ 64 from h) (Nat.pow_le_pow_right (by omega) (by omega))
@[simp] theorem log2_lit {n : Nat} (hz : n < 18446744073709551616) : (n.log2 < 9000) = True := by simp [log2_9000 hz]
end
end QI

/-! == on rows of numbers -/
namespace QI
open PySem PySem.Spec PyProof.Rows L2
theorem pdPs_ints (is : List Int) : pdPs (is.map D.int) = some (is.map PyData.int) := by
  induction is with
  | nil => simp [pdPs]
  | cons i is ih => simp [pdPs, pdP, ih]
theorem shaped_tints (ns : List Int) : SeqAt.shaped (.tuple (ns.map PyData.int)) = true := by
  have h := PySem.W.shaped_ints ns
  simpa [SeqAt.shaped, PyData.canLay0, PyData.depth] using h
theorem eqv_tints (ns ms : List Int) : PyData.eqv (.tuple (ns.map PyData.int)) (.tuple (ms.map PyData.int)) = decide (ns = ms) := by
  rw [← SeqAt.same_eq_eqv _ _ (by simp only [SeqAt.noMix]; exact PySem.W.noMix_ints ns ms)]
  simp only [PySem.Spec.same]
  exact PySem.W.same_ints ns ms
theorem gEq_ints (st : Sto) (is js : List Int) : gEq st (.tup (is.map D.int)) (.tup (js.map D.int)) = some (decide (is = js)) := by
  unfold gEq
  simp only [pdS, pdP, pdPs_ints, shaped_tints, eqv_tints, and_self, if_true]
theorem seq_nx {S R : IS} {env e1 : Ev} {st st1 : Sto} (h : S env st = .ok (.nx e1) st1) : sSeq S R env st = R e1 st1 := by
  rw [ev_sSeq, h]; rfl
theorem seq_rt {S R : IS} {env : Ev} {st st1 : Sto} {d : D} (h : S env st = .ok (.rt d) st1) : sSeq S R env st = .ok (.rt d) st1 := by
  rw [ev_sSeq, h]; rfl
theorem if_t {T : IT} {S R : IS} {env : Ev} {st st1 : Sto} (h : T env st = .ok true st1) : sIf T S R env st = S env st1 := by
  rw [ev_sIf, h]; rfl
theorem if_f {T : IT} {S R : IS} {env : Ev} {st st1 : Sto} (h : T env st = .ok false st1) : sIf T S R env st = R env st1 := by
  rw [ev_sIf, h]; rfl
theorem comp_eq {fin : List D → Sto → Rs D} {n : Nat} {W : IW} {wk : Wk} {p : Pt} {T : IT} {A : IE} {vs : List Nat} {env : Ev} {st st1 : Sto} (h : W env st = .ok wk st1) : iComp fin n W p T A vs env st = compGo wk p T A vs env fin n 0 [] st1 := by
  rw [ev_comp, h]; rfl
theorem for_eq {n : Nat} {W : IW} {wk : Wk} {p : Pt} {S : IS} {env : Ev} {st st1 : Sto} (h : W env st = .ok wk st1) : sFor n W p S env st = forGo wk p S n 0 env st1 := by
  rw [ev_sFor, h]; rfl
theorem walkC_eq {f : List D → Sto → Rs Wk} {L : IL} {env : Ev} {st st1 st2 : Sto} {ds : List D} {wk : Wk} (h : L env st = .ok ds st1) (h2 : f ds st1 = .ok wk st2) : iWalkC f L env st = .ok wk st2 := by
  rw [ev_walkC, h]; exact h2
theorem fRange1_nat {st : Sto} {m : Nat} (h : m < 4611686018427387904) : fRange1 [.int (m : Nat)] st = .ok (wkRange 0 m) st := by
  unfold fRange1
  simp only
  rw [if_pos ⟨by omega, by omega⟩]
  rfl
end QI

/-! the law's promise -/
namespace QI
open PySem PySem.Spec PyProof.Rows L2
/-- of a script: true -/
def spL (n : Nat) (K : PySem.W.Frag) : Sp := fun vs H Q _ => ∃ (a : Addr) (ns : List Int), vs = [.ref a] ∧ RX K H a (ns.map V.int) ∧ ns.length ≤ n ∧ ∀ H', Q (.bl true) H'
theorem rvs_ints {K : PySem.W.Frag} {m : Mp} {H : Hp} : ∀ ns : List Int, RVs K m H (ns.map D.int) (ns.map V.int)
  | [] => .nil
  | n :: ns => .cons (.int n) (rvs_ints ns)
theorem law_imp {g : G0} {n : Nat} {G : List D → Sto → Rs D} (h : ∀ ns : List Int, ns.length ≤ n → G [.scr (ns.map D.int)] [] = .ok (.bl true) []) {vs : List V} {H : Hp} {Q : VK} {E : XK} (q : spL n g.K vs H Q E) : spI g 1 G vs H Q E := by
  obtain ⟨a, ns, rfl, hS, hn, hQ⟩ := q
  refine ⟨⟨[], []⟩, [.scr (ns.map D.int)], [], rfl, .cons (.scr hS (rvs_ints ns)) .nil, ⟨rfl, List.nodup_nil, fun a h => (by cases h), fun n a c h => (by cases h)⟩, ?_⟩
  rw [h ns hn]
  exact fun m' H' gr rs v rv => by cases rv; exact hQ H'
theorem law_sp {n : Nat} {K : PySem.W.Frag} {H : Hp} {a : Addr} {ns : List Int} (hn : ns.length ≤ n) (hO : Only H) (hS : SqL K H a (ns.map V.int)) : spL n K [.ref a] H (fun v _ => v = .bl true) fun _ _ _ => False := by
  refine ⟨a, ns, rfl, ?_, hn, fun _ => rfl⟩
  rcases hS with (h | ⟨o, h⟩) | h
  · rcases hO a with z | ⟨o, xs, z⟩
    · rw [z] at h; cases h
    · rw [z] at h; cases h
  · exact .inl ⟨o, h⟩
  · exact .inr h
theorem law_fn {ct : String → Addr} {P : Program} {w : World} {K : PySem.W.Frag} {mg : Str → Option Value} {base : Heap} {st : Stmt} {p : Str} {k n : Nat} {G : List D → Sto → Rs D} {f : Addr} {fd : FuncData} (h : Kn ct P w K mg base "law" st [p] k G f fd)
    (hG : ∀ ns : List Int, ns.length ≤ n → G [.scr (ns.map D.int)] [] = .ok (.bl true) []) : FnOk P w K mg base CX0 k f fd [p] (spL n K) := h.ok.imp fun _ _ _ _ q => law_imp (g := ⟨K, ct, P, w⟩) hG q
end QI

namespace QI
open PySem PySem.Spec PyProof.Rows L2
/-! numbers as values -/
def nD (ns : List Nat) : List D := ns.map fun n => .int (n : Nat)
@[simp] theorem nD_nil : nD [] = [] := rfl
@[simp] theorem nD_cons (n : Nat) (ns : List Nat) : nD (n :: ns) = .int (n : Nat) :: nD ns := rfl
@[simp] theorem nD_len (ns : List Nat) : (nD ns).length = ns.length := by simp [nD]
theorem nD_app (a b : List Nat) : nD (a ++ b) = nD a ++ nD b := by simp [nD]
@[simp] theorem nD_get (ns : List Nat) (i : Nat) : (nD ns)[i]? = ns[i]?.map fun n => D.int (n : Nat) := by simp [nD]
theorem nD_take (ns : List Nat) (i : Nat) : (nD ns).take i = nD (ns.take i) := by simp [nD, List.map_take]
theorem nD_drop (ns : List Nat) (i : Nat) : (nD ns).drop i = nD (ns.drop i) := by simp [nD, List.map_drop]
@[simp] theorem nD_lo (k : Nat) (ns : List Nat) : D.loAll k (nD ns) = true := by simp [nD]
theorem nD_inj {a b : List Nat} (h : nD a = nD b) : a = b := by
  induction a generalizing b with
  | nil => cases b with | nil => rfl | cons _ _ => cases h
  | cons x a ih => cases b with
    | nil => cases h
    | cons y b =>
      simp only [nD_cons, List.cons.injEq, D.int.injEq] at h
      rw [ih h.2, Int.ofNat.inj h.1]
theorem nD_ints (ns : List Nat) : nD ns = (ns.map fun n => ((n : Nat) : Int)).map D.int := by simp [nD]
theorem gEq_nD (st : Sto) (a b : List Nat) : gEq st (.tup (nD a)) (.tup (nD b)) = some (decide (a = b)) := by
  rw [nD_ints, nD_ints, gEq_ints]
  congr 1
  by_cases h : a = b
  · subst h; simp
  · rw [decide_eq_false h, decide_eq_false]
    intro z
    exact h (nD_inj (by rw [nD_ints, nD_ints, z]))
theorem gNeE_nD (st : Sto) (a b : List Nat) : gNeE (.tup (nD a)) (.tup (nD b)) st = .ok (.bl (!decide (a = b))) st := by
  unfold gNeE
  rw [gEq_nD]; rfl
end QI

/-! constants of the text (tuples, dicts), defaults, all, xs[::-1] -/
namespace QI
open PySem PySem.Spec PyProof.Rows L2
section
variable {ct : String → Addr} {X : Cx} {E : EK} {pos p p1 p2 p3 apos cpos : Pos} {a b e o : Expr} {es : List Expr} {A B O : IE} {L : IL} {x : Str}
/-- a tuple of texts that stands at the top -/
structure CT (K : PySem.W.Frag) (mg : Str → Option Value) (x : Str) (cs : List Str) (q : Addr) : Prop where
  m : mg x = some (.ref q)
  t : ∃ (o : Obj) (its : Array Value) (n : Nat), K.lookup q = some o ∧ o.cls = .type "tuple" ∧ o.data = .seq its n ∧ its.size ≤ sizeLine ∧ Vals (cs.map V.str) its.toList
theorem CT.sq {q : Addr} {cs : List Str} (h : CT X.K X.mg x cs q) (H : Hp) : SqT X.K H q (cs.map V.str) := .inr h.t
/-- a in NAME, a not in NAME -/
def iInC (neg : Bool) (cs : List Str) (A : IE) : IE := fun env st => (A env st).bind fun d st1 => match d with
  | .str z => .ok (.bl (neg != cs.any fun c => decide (c = z))) st1
  | _ => .bad
theorem inV_strs (z : Str) (cs : List Str) : inV (.str z) (cs.map V.str) = cs.any fun c => decide (c = z) := by
  unfold inV
  rw [List.any_map]
  congr 1
theorem flat_strs (cs : List Str) : (cs.map V.str).all flatV = true := by
  rw [List.all_eq_true]
  intro v hv
  obtain ⟨c, _, rfl⟩ := List.mem_map.mp hv
  rfl
theorem inC_tI {neg : Bool} {cs : List Str} {q : Addr} (h : CT X.K X.mg x cs q) {σ : L2.St} {H : Hp} {Q : VK} (hh : tI (gx ct X) E (iInC neg cs A) σ H Q) : tI (gx ct X) E A σ H (fun y H1 => tC (.ref q) σ H1 fun z H2 => rIn X.K neg y z H2 Q) := by
  obtain ⟨m, env, st, re, rs, fin⟩ := hh
  refine ⟨m, env, st, re, rs, fin.bind.imp fun m1 H1 d st1 g1 rs1 q1 y ry => ?_⟩
  cases d with
  | str z =>
    cases ry
    refine ⟨q, cs.map V.str, rfl, .inr (h.sq H1), rfl, flat_strs cs, ?_⟩
    rw [inV_strs]
    have := q1.here rs1 _ (.bl _)
    cases neg <;> simpa using this
  | _ => exact q1.elim
theorem si_inC {q : Addr} {cs : List Str} (hg : Gl X x) (h : CT X.K X.mg x cs q) (ha : SI ct X E a A) (hd : (x == ("__debug__" : Str)) = false := by decide) (hm : behindInMarks .In (.Name x p) = false := by first | exact nomark _ | rfl) : SI ct X E (.Compare a [.In] [.Name x p] pos) (iInC false cs A) :=
  ⟨(pe_cmpR op_in_seq ha.pe (pe_glob (v := .ref q) hg h.m rfl hd) hm).imp fun _ _ _ hh => inC_tI h hh⟩
theorem si_notinC {q : Addr} {cs : List Str} (hg : Gl X x) (h : CT X.K X.mg x cs q) (ha : SI ct X E a A) (hd : (x == ("__debug__" : Str)) = false := by decide) (hm : behindInMarks .NotIn (.Name x p) = false := by first | exact nomark _ | rfl) : SI ct X E (.Compare a [.NotIn] [.Name x p] pos) (iInC true cs A) :=
  ⟨(pe_cmpR op_notIn_seq ha.pe (pe_glob (v := .ref q) hg h.m rfl hd) hm).imp fun _ _ _ hh => inC_tI h hh⟩
theorem sb_inC {q : Addr} {cs : List Str} (hg : Gl X x) (h : CT X.K X.mg x cs q) (ha : SI ct X E a A) (hd : (x == ("__debug__" : Str)) = false := by decide) (hm : behindInMarks .In (.Name x p) = false := by first | exact nomark _ | rfl) : SB ct X E (.Compare a [.In] [.Name x p] pos) (iTest (iInC false cs A)) :=
  ⟨(pt_cmpR op_in_seq ha.pe (pe_glob (v := .ref q) hg h.m rfl hd) hm).imp fun _ _ _ hh => inC_tI h (test_tI hh)⟩
theorem sb_notinC {q : Addr} {cs : List Str} (hg : Gl X x) (h : CT X.K X.mg x cs q) (ha : SI ct X E a A) (hd : (x == ("__debug__" : Str)) = false := by decide) (hm : behindInMarks .NotIn (.Name x p) = false := by first | exact nomark _ | rfl) : SB ct X E (.Compare a [.NotIn] [.Name x p] pos) (iTest (iInC true cs A)) :=
  ⟨(pt_cmpR op_notIn_seq ha.pe (pe_glob (v := .ref q) hg h.m rfl hd) hm).imp fun _ _ _ hh => inC_tI h (test_tI hh)⟩
/-- a dict of numbers by texts that stands at the top -/
structure CD (K : PySem.W.Frag) (w : World) (mg : Str → Option Value) (x : Str) (kvs : List (Str × Int)) (q : Addr) : Prop where
  m : mg x = some (.ref q)
  t : ∀ kv ∈ kvs, KDct K w q kv.1 (.int kv.2)
def ofC (kvs : List (Str × Int)) (z : Str) : Option Int := (kvs.find? fun kv => decide (kv.1 = z)).map (·.2)
theorem ofC_mem {kvs : List (Str × Int)} {z : Str} {i : Int} (h : ofC kvs z = some i) : (z, i) ∈ kvs := by
  unfold ofC at h
  rw [Option.map_eq_some_iff] at h
  obtain ⟨kv, h1, h2⟩ := h
  have h3 := List.find?_some h1
  have h4 := List.mem_of_find?_eq_some h1
  simp only [decide_eq_true_eq] at h3
  obtain ⟨k, v⟩ := kv
  simp only at h2 h3
  rw [← h2, ← h3]; exact h4
/-- NAME[a] -/
def iIxC (kvs : List (Str × Int)) (A : IE) : IE := fun env st => (A env st).bind fun d st1 => match d with
  | .str z => match ofC kvs z with
    | some i => .ok (.int i) st1
    | none => .bad
  | _ => .bad
theorem si_ixC {q : Addr} {kvs : List (Str × Int)} (hg : Gl X x) (h : CD X.K X.w X.mg x kvs q) (ha : SI ct X E a A) (hd : (x == ("__debug__" : Str)) = false := by decide) (hs : PlainIx a := by exact fun _ _ => rfl) : SI ct X E (.Subscript (.Name x p) a pos) (iIxC kvs A) :=
  ⟨(pe_ix ix_kdict (pe_glob (v := .ref q) hg h.m rfl hd) ha.pe hs).imp fun σ H Q ⟨m, env, st, re, rs, fin⟩ => ⟨m, env, st, re, rs, fin.bind.imp fun m1 H1 d st1 g1 rs1 q1 y ry => by
    cases d with
    | str z =>
      cases ry
      cases hk : ofC kvs z with
      | none => simp only [hk] at q1; exact (show False from q1).elim
      | some i => simp only [hk] at q1; exact ⟨q, z, .int i, rfl, rfl, h.t _ (ofC_mem hk), Fin.here q1 rs1 _ (.int _)⟩
    | _ => exact (show False from q1).elim⟩⟩
/-- xs[::-1] -/
def iRev (A : IE) : IE := fun env st => (A env st).bind fun d st1 => match listAt st1 d with
  | some xs => .ok (.rol xs.reverse) st1
  | none => .bad
theorem si_rev {k : Nat} (ha : SI ct X E a A) : SI ct X E (.Subscript a (.Slice none none (some (.UnaryOp .USub (.Constant (.int 1) k p1) p2)) p3) pos) (iRev A) :=
  ⟨(pe_revL ha.pe).imp fun σ H Q ⟨m, env, st, re, rs, fin⟩ => ⟨m, env, st, re, rs, fin.bind.imp fun m1 H1 d st1 g1 rs1 q1 y ry => by
    split at q1
    · rename_i xs hx
      obtain ⟨r, vs, rfl, hs, rv⟩ := list_of rs1 ry hx
      exact ⟨r, vs, rfl, SqL.of hs, rol_new rs1 rv.reverse q1⟩
    · exact q1.elim⟩⟩
def bls? : List D → Option (List Bool)
  | [] => some []
  | .bl b :: ds => match bls? ds with
    | some bs => some (b :: bs)
    | none => none
  | _ :: _ => none
theorem bls_of {K : PySem.W.Frag} {m : Mp} {H : Hp} : ∀ {ds : List D} {vs : List V} {bs : List Bool}, RVs K m H ds vs → bls? ds = some bs → vs = bs.map V.bl
  | [], _, _, r, e => by cases r; cases e; rfl
  | d :: ds, _, _, r, e => by
    cases r with
    | cons r1 r2 =>
      cases d with
      | bl i =>
        cases r1
        simp only [bls?] at e
        split at e
        · rename_i bs hb
          cases e
          rw [bls_of r2 hb]; rfl
        · cases e
      | _ => simp [bls?] at e
def gAll : List D → Sto → Rs D
  | [d], st => match listAt st d with
    | some xs => match bls? xs with
      | some bs => .ok (.bl (bs.all id)) st
      | none => .bad
    | none => .bad
  | _, _ => .bad
def gAny : List D → Sto → Rs D
  | [d], st => match listAt st d with
    | some xs => match bls? xs with
      | some bs => .ok (.bl (bs.any id)) st
      | none => .bad
    | none => .bad
  | _, _ => .bad
theorem cb_all (hc : X.calm = true) : CB ct X E (.builtin "all") gAll := ⟨_, cr_all hc, fun m H st ds vs Q rs rv fin => by
  unfold gAll at fin
  split at fin
  · cases rv with
    | cons r1 r2 =>
      cases r2
      split at fin
      · rename_i xs hq
        split at fin
        · rename_i bs hn
          obtain ⟨p, ws, rfl, hs, r⟩ := list_of rs r1 hq
          have e := bls_of r hn
          subst e
          exact ⟨p, bs, rfl, SqL.of hs, fin.here rs _ (.bl _)⟩
        · exact fin.elim
      · exact fin.elim
  · exact fin.elim⟩
theorem cb_any (hc : X.calm = true) : CB ct X E (.builtin "any") gAny := ⟨_, cr_any hc, fun m H st ds vs Q rs rv fin => by
  unfold gAny at fin
  split at fin
  · cases rv with
    | cons r1 r2 =>
      cases r2
      split at fin
      · rename_i xs hq
        split at fin
        · rename_i bs hn
          obtain ⟨p, ws, rfl, hs, r⟩ := list_of rs r1 hq
          have e := bls_of r hn
          subst e
          exact ⟨p, bs, rfl, SqL.of hs, fin.here rs _ (.bl _)⟩
        · exact fin.elim
      · exact fin.elim
  · exact fin.elim⟩
@[simp] theorem ev_inC (neg : Bool) (cs : List Str) (env : Ev) (st : Sto) : iInC neg cs A env st = (A env st).bind fun d st1 => match d with
  | .str z => .ok (.bl (neg != cs.any fun c => decide (c = z))) st1
  | _ => .bad := id rfl
@[simp] theorem ev_ixC (kvs : List (Str × Int)) (env : Ev) (st : Sto) : iIxC kvs A env st = (A env st).bind fun d st1 => match d with
  | .str z => match ofC kvs z with
    | some i => .ok (.int i) st1
    | none => .bad
  | _ => .bad := id rfl
@[simp] theorem ev_rev (env : Ev) (st : Sto) : iRev A env st = (A env st).bind fun d st1 => match listAt st1 d with
  | some xs => .ok (.rol xs.reverse) st1
  | none => .bad := id rfl
end
/-! defs with defaults -/
structure KnD (ct : String → Addr) (P : Program) (w : World) (K : PySem.W.Frag) (mg : Str → Option Value) (base : Heap) (x : Str) (st : Stmt) (ps : List Str) (k : Nat) (G : List D → Sto → Rs D) (dds : List D) (f : Addr) (fd : FuncData) : Prop where
  m : mg x = some (.ref f)
  fu : ∃ dvs : List V, (∀ (m : Mp) (H : Hp), RVs K m H dds dvs) ∧ FunD K x x (defArgs st) (defBody st) (defScope st) dvs [] f fd
  ok : FnOk P w K mg base CX0 k f fd ps (spI ⟨K, ct, P, w⟩ ps.length G)
section
variable {ct : String → Addr} {P : Program} {w : World} {K : PySem.W.Frag} {mg : Str → Option Value} {base : Heap} {x : Str} {st : Stmt} {f : Addr} {fd : FuncData} {N ps : List Str} {k : Nat} {B : IS} {G : List D → Sto → Rs D} {dds : List D} {dvs : List V}
theorem knD_of (m : mg x = some (.ref f)) (hv : ∀ (m : Mp) (H : Hp), RVs K m H dds dvs) (F : FunD K x x (defArgs st) (defBody st) (defScope st) dvs [] f fd) (S : FnScope N ps (defScope st)) (hG : G = run N B)
    (hB : ∀ (f : Addr) (cdv : Value) (A : Around) (outer : List Env) (s : Shared) (H : Hp) (E : XK), Room k (A.deeper (envOfC x (defScope st) s.heap.objs.size f cdv)) → SSs ct (bodyX P w K mg base N x st f cdv A outer s H E) noE (defBody st) B) : KnD ct P w K mg base x st ps (k + 1) G dds f fd := by
  refine ⟨m, ⟨dvs, hv, F⟩, F.ok S (fun vs H Q E h => ?_) (fun cdv A outer s H vs Q E hr h => ?_)⟩
  · obtain ⟨m, ds, st', h1, h2, _⟩ := h
    rw [← h2.length]; exact h1
  · obtain ⟨m, ds, st', h1, h2, h3, fin⟩ := h
    refine ⟨_, PSs.nox (hB f cdv A outer s H E hr).pss, m, startE N ds, st', RE.start h2, h3, ?_⟩
    obtain ⟨hx, href⟩ : (∀ e s', G ds st' ≠ .exn e s') ∧ Ref st' (B (startE N ds) st') (G ds st') := by rw [hG]; exact run_ref
    cases hg : G ds st' with
    | exn e s' => exact absurd hg (hx e s')
    | ok d s' => rw [hg] at fin href; exact fin_ref h3.len (fun _ _ z => by cases z) href fin
    | bad => rw [hg] at fin; exact fin.elim
end
section
variable {ct : String → Addr} {X : Cx} {E : EK} {pos p : Pos} {a b c e o : Expr} {es : List Expr} {L : IL} {k : Nat} {f : Addr} {fd : FuncData} {ps : List Str} {G : List D → Sto → Rs D} {x : Str} {st : Stmt} {dds : List D}
/-- f(e, ..), n parameters written, the defaults from the j-th on -/
theorem si_knD {rs0 : List D} (F : KnD ct X.prog X.w X.K X.mg X.base x st ps k G dds f fd) (n j : Nat) (hr : Room k X.A) (h0 : dds ≠ []) (hj : j ≤ dds.length)
    (hb : ∀ (dvs : List V), dvs.length = dds.length → ∀ (T : Addr) (kV doc pm : Value) (an : Option Addr) (cdv ct : Value) (us its : List Value), us.length = n → its.length = dvs.length →
      ∃ k, bindArgs (PySem.W.fnOf x x (defArgs st) (defBody st) (defScope st) (.ref T) kV doc pm an cdv ct) ⟨us, []⟩ = seqItems? (.ref T) >>= k ∧ k (some its.toArray) = pure (ps.zip (us ++ its.drop j)))
    (ha : SA ct X E (e :: es) L) (hn : n + (dds.length - j) = ps.length := by rfl) (hg : Gl X x := by rfl) (hdb : (x == ("__debug__" : Str)) = false := by decide) (he : starEach (e :: es) X.env = (false, eval e X.env) :: starEach es X.env := by rfl) (hpl : (backTo pos (starEach es X.env)).any (·.1) = false := by rfl) (hrs : dds.drop j = rs0 := by rfl) :
    SI ct X E (.Call (.Name x p) (e :: es) [] pos) (iCall n G rs0 L) := by
  subst hrs
  obtain ⟨dvs, hv, fu⟩ := F.fu
  have hl : dds.length = dvs.length := (hv ⟨[], []⟩ fun _ => none).length
  obtain ⟨ds, hds, hbind⟩ := fu.binds1 n j (by intro z; subst z; exact h0 (List.eq_nil_of_length_eq_zero (by rw [hl]; rfl))) (by rw [← hl]; exact hn) (hb dvs hl.symm)
  refine ⟨(pe_call F.ok hr hg F.m fu.kp hbind hds pass0 ha.pa hdb he hpl).imp fun σ H Q ⟨m, env, st, re, rs, fin⟩ => ⟨m, env, st, re, rs, fin.bind.imp fun m1 H1 ds st1 g1 rs1 q vs rv => ?_⟩⟩
  split at q
  · rename_i hz
    exact ⟨m1, ds ++ dds.drop j, st1, by rw [List.length_append, List.length_drop, hz]; exact hn, rv.append ((hv m1 H1).drop j), rs1, q.strictE⟩
  · exact q.elim
end
end QI

namespace QI
open PySem PySem.Spec PyProof.Rows L2
abbrev topS (i : Nat) : Stmt := PySem.Challenge.pw_whoevertakes_k35_machines_coded.main.body.getD i (.Pass ⟨0, 0, 0, 0⟩)
/-! is_int -/
abbrev S_is_int : Stmt := topS 4
abbrev N_is_int : List Str := ["value"]
abbrev P_is_int : List Str := ["value"]
theorem sc_is_int : FnScope N_is_int P_is_int (defScope S_is_int) := ⟨rfl, rfl, rfl, by decide +kernel, rfl, by decide +kernel, by decide +kernel⟩
/-! is_number -/
abbrev S_is_number : Stmt := topS 5
abbrev N_is_number : List Str := ["value", "least", "most"]
abbrev P_is_number : List Str := ["value", "least", "most"]
theorem sc_is_number : FnScope N_is_number P_is_number (defScope S_is_number) := ⟨rfl, rfl, rfl, by decide +kernel, rfl, by decide +kernel, by decide +kernel⟩
/-! is_tuple -/
abbrev S_is_tuple : Stmt := topS 6
abbrev N_is_tuple : List Str := ["value", "many"]
abbrev P_is_tuple : List Str := ["value", "many"]
theorem sc_is_tuple : FnScope N_is_tuple P_is_tuple (defScope S_is_tuple) := ⟨rfl, rfl, rfl, by decide +kernel, rfl, by decide +kernel, by decide +kernel⟩
/-! is_numbers -/
abbrev S_is_numbers : Stmt := topS 7
abbrev N_is_numbers : List Str := ["value", "many", "least", "most", "one"]
abbrev P_is_numbers : List Str := ["value", "many", "least", "most"]
theorem sc_is_numbers : FnScope N_is_numbers P_is_numbers (defScope S_is_numbers) := ⟨rfl, rfl, rfl, by decide +kernel, rfl, by decide +kernel, by decide +kernel⟩
/-! is_line -/
abbrev S_is_line : Stmt := topS 17
abbrev N_is_line : List Str := ["value", "place", "many", "tops", "sends", "one"]
abbrev P_is_line : List Str := ["value", "place", "many", "tops", "sends"]
theorem sc_is_line : FnScope N_is_line P_is_line (defScope S_is_line) := ⟨rfl, rfl, rfl, by decide +kernel, rfl, by decide +kernel, by decide +kernel⟩
/-! check_code -/
abbrev S_check_code : Stmt := topS 18
abbrev N_check_code : List Str := ["value", "tops", "sends", "entries", "lines", "place", "line"]
abbrev P_check_code : List Str := ["value"]
theorem sc_check_code : FnScope N_check_code P_check_code (defScope S_check_code) := ⟨rfl, rfl, rfl, by decide +kernel, rfl, by decide +kernel, by decide +kernel⟩
/-! send_lines -/
abbrev S_send_lines : Stmt := topS 20
abbrev N_send_lines : List Str := ["letter", "times", "left"]
abbrev P_send_lines : List Str := ["letter", "times"]
theorem sc_send_lines : FnScope N_send_lines P_send_lines (defScope S_send_lines) := ⟨rfl, rfl, rfl, by decide +kernel, rfl, by decide +kernel, by decide +kernel⟩
/-! placed -/
abbrev S_placed : Stmt := topS 21
abbrev N_placed : List Str := ["lines", "first", "found", "spot", "line", "is_jump"]
abbrev P_placed : List Str := ["lines", "first"]
theorem sc_placed : FnScope N_placed P_placed (defScope S_placed) := ⟨rfl, rfl, rfl, by decide +kernel, rfl, by decide +kernel, by decide +kernel⟩
/-! code_of_rules -/
abbrev S_code_of_rules : Stmt := topS 22
abbrev N_code_of_rules : List Str := ["tops", "sends", "rules", "entries", "lines", "rule"]
abbrev P_code_of_rules : List Str := ["tops", "sends", "rules"]
theorem sc_code_of_rules : FnScope N_code_of_rules P_code_of_rules (defScope S_code_of_rules) := ⟨rfl, rfl, rfl, by decide +kernel, rfl, by decide +kernel, by decide +kernel⟩
/-! standing_lines -/
abbrev S_standing_lines : Stmt := topS 23
abbrev N_standing_lines : List Str := ["many", "standing", "following", "sent", "found", "letter", "times"]
abbrev P_standing_lines : List Str := ["many", "standing", "following", "sent"]
theorem sc_standing_lines : FnScope N_standing_lines P_standing_lines (defScope S_standing_lines) := ⟨rfl, rfl, rfl, by decide +kernel, rfl, by decide +kernel, by decide +kernel⟩
/-! code_of_machine -/
abbrev S_code_of_machine : Stmt := topS 24
abbrev N_code_of_machine : List Str := ["machine", "many", "rules", "letter", "rule", "standing", "block", "tail"]
abbrev P_code_of_machine : List Str := ["machine"]
theorem sc_code_of_machine : FnScope N_code_of_machine P_code_of_machine (defScope S_code_of_machine) := ⟨rfl, rfl, rfl, by decide +kernel, rfl, by decide +kernel, by decide +kernel⟩
/-! _law_box -/
abbrev S_law_box : Stmt := topS 26
abbrev N_law_box : List Str := ["script", "k", "cell", "great"]
abbrev P_law_box : List Str := ["script", "k"]
theorem sc_law_box : FnScope N_law_box P_law_box (defScope S_law_box) := ⟨rfl, rfl, rfl, by decide +kernel, rfl, by decide +kernel, by decide +kernel⟩
/-! _law_take -/
abbrev S_law_take : Stmt := topS 27
abbrev N_law_take : List Str := ["box", "many", "digit", "raw"]
abbrev P_law_take : List Str := ["box", "many"]
theorem sc_law_take : FnScope N_law_take P_law_take (defScope S_law_take) := ⟨rfl, rfl, rfl, by decide +kernel, rfl, by decide +kernel, by decide +kernel⟩
/-! _law_pick -/
abbrev S_law_pick : Stmt := topS 28
abbrev N_law_pick : List Str := ["box", "some"]
abbrev P_law_pick : List Str := ["box", "some"]
theorem sc_law_pick : FnScope N_law_pick P_law_pick (defScope S_law_pick) := ⟨rfl, rfl, rfl, by decide +kernel, rfl, by decide +kernel, by decide +kernel⟩
/-! _law_same -/
abbrev S_law_same : Stmt := topS 29
abbrev N_law_same : List Str := ["told", "due", "one", "other"]
abbrev P_law_same : List Str := ["told", "due"]
theorem sc_law_same : FnScope N_law_same P_law_same (defScope S_law_same) := ⟨rfl, rfl, rfl, by decide +kernel, rfl, by decide +kernel, by decide +kernel⟩
/-! _law_code_run -/
abbrev S_law_code_run : Stmt := topS 30
abbrev N_law_code_run : List Str := ["code", "registers", "letter", "row", "sent", "place", "gone_by", "turn", "line"]
abbrev P_law_code_run : List Str := ["code", "registers", "letter"]
theorem sc_law_code_run : FnScope N_law_code_run P_law_code_run (defScope S_law_code_run) := ⟨rfl, rfl, rfl, by decide +kernel, rfl, by decide +kernel, by decide +kernel⟩
/-! _law_code_rows -/
abbrev S_law_code_rows : Stmt := topS 31
abbrev N_law_code_rows : List Str := ["code", "rows", "steps", "spot", "met", "found", "letter", "row", "sent", "gone_by"]
abbrev P_law_code_rows : List Str := ["code"]
theorem sc_law_code_rows : FnScope N_law_code_rows P_law_code_rows (defScope S_law_code_rows) := ⟨rfl, rfl, rfl, by decide +kernel, rfl, by decide +kernel, by decide +kernel⟩
/-! _law_drawn_code -/
abbrev S_law_drawn_code : Stmt := topS 32
abbrev N_law_drawn_code : List Str := ["box", "tops", "sends", "takes", "many", "lines", "place", "way", "reg", "letter"]
abbrev P_law_drawn_code : List Str := ["box"]
theorem sc_law_drawn_code : FnScope N_law_drawn_code P_law_drawn_code (defScope S_law_drawn_code) := ⟨rfl, rfl, rfl, by decide +kernel, rfl, by decide +kernel, by decide +kernel⟩
/-! _law_like_machine -/
abbrev S_law_like_machine : Stmt := topS 33
abbrev N_law_like_machine : List Str := ["code", "machine", "line", "spot", "letter", "row", "sent", "gone_by", "following", "due"]
abbrev P_law_like_machine : List Str := ["code", "machine"]
theorem sc_law_like_machine : FnScope N_law_like_machine P_law_like_machine (defScope S_law_like_machine) := ⟨rfl, rfl, rfl, by decide +kernel, rfl, by decide +kernel, by decide +kernel⟩
/-! _law_drawn_machine -/
abbrev S_law_drawn_machine : Stmt := topS 34
abbrev N_law_drawn_machine : List Str := ["box", "many", "takes", "sends", "rows", "standing", "letter", "row"]
abbrev P_law_drawn_machine : List Str := ["box"]
theorem sc_law_drawn_machine : FnScope N_law_drawn_machine P_law_drawn_machine (defScope S_law_drawn_machine) := ⟨rfl, rfl, rfl, by decide +kernel, rfl, by decide +kernel, by decide +kernel⟩
/-! law -/
abbrev S_law : Stmt := topS 35
abbrev N_law : List Str := ["script", "k", "box", "machine", "rows", "steps", "code", "found", "row", "sent"]
abbrev P_law : List Str := ["script"]
theorem sc_law : FnScope N_law P_law (defScope S_law) := ⟨rfl, rfl, rfl, by decide +kernel, rfl, by decide +kernel, by decide +kernel⟩
noncomputable section
def B_is_int : IS := sRet (iAndV (iUn (gIsi "int") (iVar 0)) (iNotV (iUn (gIsi "bool") (iVar 0))))
def G_is_int : List D → Sto → Rs D := run N_is_int B_is_int
def B_is_number : IS := sRet (iAndV (iCall 1 G_is_int [] (iCons (iVar 0) (iNil))) (iAndV (iBin gGe (iVar 0) (iVar 1)) (iOrV (iBin gIsB (iVar 2) (iC .non)) (iBin gLe (iVar 0) (iVar 2)))))
def G_is_number : List D → Sto → Rs D := run N_is_number B_is_number
def B_is_tuple : IS := sRet (iAndV (iUn (gIsi "tuple") (iVar 0)) (iOrV (iBin gIsB (iVar 1) (iC .non)) (iBin gEqE (iCallB gLen (iCons (iVar 0) (iNil))) (iVar 1))))
def G_is_tuple : List D → Sto → Rs D := run N_is_tuple B_is_tuple
def B_is_numbers : IS := sRet (iAndV (iCall 2 G_is_tuple [] (iCons (iVar 0) (iCons (iVar 1) (iNil)))) (iBin gEqE (iCallB gLen (iCons (iComp fRol 16777215 (iWalk (iVar 0)) (.nm 4) (iNot (iTru (iCall 3 G_is_number [] (iCons (iVar 4) (iCons (iVar 2) (iCons (iVar 3) (iNil))))))) (iVar 4) [4]) (iNil))) (iC (.int 0))))
def G_is_numbers : List D → Sto → Rs D := run N_is_numbers B_is_numbers
def B_is_line : IS := sSeq (sIf (iOr (iNot (iTru (iUn (gIsi "tuple") (iVar 0)))) (iOr (iTest (iBin gEqE (iCallB gLen (iCons (iVar 0) (iNil))) (iC (.int 0)))) (iOr (iNot (iTru (iUn (gIsi "str") (iBin gIx (iVar 0) (iC (.int 0)))))) (iTest (iInC true [Str.ofString "raise", Str.ofString "clear", Str.ofString "send", Str.ofString "under", Str.ofString "go", Str.ofString "stop"] (iBin gIx (iVar 0) (iC (.int 0)))))))) (sRet (iC (.bl false))) (sNil)) (sSeq (sIf (iOr (iTest (iBin gNeE (iCallB gLen (iCons (iVar 0) (iNil))) (iBin gAdd (iC (.int 1)) (iIxC [(Str.ofString "raise", 2), (Str.ofString "clear", 1), (Str.ofString "send", 2), (Str.ofString "under", 3), (Str.ofString "go", 1), (Str.ofString "stop", 0)] (iBin gIx (iVar 0) (iC (.int 0))))))) (iNot (iTru (iCallB gAll (iCons (iComp fRol 16777215 (iWalk (iSl (iVar 0) (oSome (iC (.int 1))) (oNone))) (.nm 5) (iYes) (iCall 1 G_is_number [.int 0, .non] (iCons (iVar 5) (iNil))) [5]) (iNil)))))) (sRet (iC (.bl false))) (sNil)) (sSeq (sIf (iAnd (iTest (iBin gInE (iBin gIx (iVar 0) (iC (.int 0))) (iTup (iCons (iC (.str (Str.ofString "raise"))) (iCons (iC (.str (Str.ofString "clear"))) (iCons (iC (.str (Str.ofString "under"))) (iCons (iC (.str (Str.ofString "send"))) (iNil)))))))) (iTest (iBin gGe (iBin gIx (iVar 0) (iC (.int 1))) (iIf (iTest (iBin gEqE (iBin gIx (iVar 0) (iC (.int 0))) (iC (.str (Str.ofString "send"))))) (iVar 4) (iCallB gLen (iCons (iVar 3) (iNil))))))) (sRet (iC (.bl false))) (sNil)) (sSeq (sIf (iAnd (iTest (iBin gInE (iBin gIx (iVar 0) (iC (.int 0))) (iTup (iCons (iC (.str (Str.ofString "raise"))) (iCons (iC (.str (Str.ofString "under"))) (iCons (iC (.str (Str.ofString "send"))) (iNil))))))) (iTest (iBin gGt (iBin gIx (iVar 0) (iC (.int 2))) (iC (.int 999))))) (sRet (iC (.bl false))) (sNil)) (sSeq (sIf (iAnd (iTest (iBin gInE (iBin gIx (iVar 0) (iC (.int 0))) (iTup (iCons (iC (.str (Str.ofString "under"))) (iCons (iC (.str (Str.ofString "go"))) (iNil)))))) (iNot (iTest (iChain gLt gLt (iVar 1) (iBin gIx (iVar 0) (iUn gNeg (iC (.int 1)))) (iVar 2))))) (sRet (iC (.bl false))) (sNil)) (sRet (iOrV (iBin gEqE (iBin gIx (iVar 0) (iC (.int 0))) (iC (.str (Str.ofString "stop")))) (iBin gLt (iBin gAdd (iVar 1) (iC (.int 1))) (iVar 2))))))))
def G_is_line : List D → Sto → Rs D := run N_is_line B_is_line
def L_check_code_1 : IS := sIf (iNot (iTru (iCall 5 G_is_line [] (iCons (iVar 6) (iCons (iVar 5) (iCons (iCallB gLen (iCons (iVar 4) (iNil))) (iCons (iVar 1) (iCons (iVar 2) (iNil))))))))) (sNever) (sNil)
def B_check_code : IS := sSeq (sIf (iNot (iTru (iCall 2 G_is_tuple [] (iCons (iVar 0) (iCons (iC (.int 4)) (iNil)))))) (sNever) (sNil)) (sSeq (sAsg (.tp [.nm 1, .nm 2, .nm 3, .nm 4]) (iVar 0)) (sSeq (sIf (iOr (iNot (iTru (iCall 1 G_is_tuple [.non] (iCons (iVar 1) (iNil))))) (iOr (iTest (iBin gGt (iCallB gLen (iCons (iVar 1) (iNil))) (iC (.int 4)))) (iNot (iTru (iCall 4 G_is_numbers [] (iCons (iVar 1) (iCons (iCallB gLen (iCons (iVar 1) (iNil))) (iCons (iC (.int 1)) (iCons (iC (.int 71)) (iNil)))))))))) (sNever) (sNil)) (sSeq (sIf (iNot (iTru (iCall 3 G_is_number [] (iCons (iVar 2) (iCons (iC (.int 0)) (iCons (iC (.int 4)) (iNil))))))) (sNever) (sNil)) (sSeq (sIf (iOr (iNot (iTru (iCall 1 G_is_tuple [.non] (iCons (iVar 4) (iNil))))) (iNot (iTest (iChain gLe gLe (iC (.int 1)) (iCallB gLen (iCons (iVar 4) (iNil))) (iC (.int 4000)))))) (sNever) (sNil)) (sSeq (sIf (iOr (iNot (iTru (iCall 1 G_is_tuple [.non] (iCons (iVar 3) (iNil))))) (iNot (iTest (iChain gLe gLe (iC (.int 1)) (iCallB gLen (iCons (iVar 3) (iNil))) (iC (.int 3)))))) (sNever) (sNil)) (sSeq (sIf (iNot (iTru (iCall 4 G_is_numbers [] (iCons (iVar 3) (iCons (iCallB gLen (iCons (iVar 3) (iNil))) (iCons (iC (.int 0)) (iCons (iBin gSub (iCallB gLen (iCons (iVar 4) (iNil))) (iC (.int 1))) (iNil)))))))) (sNever) (sNil)) (sSeq (sFor 16777215 (iWalkC fEnum (iCons (iVar 4) (iNil))) (.tp [.nm 5, .nm 6]) (L_check_code_1)) (sRet (iVar 0)))))))))
def G_check_code : List D → Sto → Rs D := run N_check_code B_check_code
def B_send_lines : IS := sSeq (sSet 2 (iBin gMod (iVar 1) (iC (.int 999)))) (sRet (iBin gAdd (iBin gMul (iRol (iLst (iCons (iTup (iCons (iC (.str (Str.ofString "send"))) (iCons (iVar 0) (iCons (iC (.int 999)) (iNil))))) (iNil)))) (iBin gFdiv (iVar 1) (iC (.int 999)))) (iIf (iTest (iBin gGt (iVar 2) (iC (.int 0)))) (iRol (iLst (iCons (iTup (iCons (iC (.str (Str.ofString "send"))) (iCons (iVar 0) (iCons (iVar 2) (iNil))))) (iNil)))) (iRol (iLst (iNil))))))
def G_send_lines : List D → Sto → Rs D := run N_send_lines B_send_lines
def L_placed_1 : IS := sSeq (sSet 5 (iBin gInE (iBin gIx (iVar 4) (iC (.int 0))) (iTup (iCons (iC (.str (Str.ofString "under"))) (iCons (iC (.str (Str.ofString "go"))) (iNil)))))) (sDrop (iMeth gAppend (iVar 2) (iCons (iIf (iTru (iVar 5)) (iBin gAdd (iSl (iVar 4) (oNone) (oSome (iUn gNeg (iC (.int 1))))) (iTup (iCons (iBin gAdd (iBin gAdd (iVar 1) (iVar 3)) (iBin gIx (iVar 4) (iUn gNeg (iC (.int 1))))) (iNil)))) (iVar 4)) (iNil))))
def B_placed : IS := sSeq (sSet 2 (iCell (iLst (iNil)))) (sSeq (sFor 16777215 (iWalkC fEnum (iCons (iVar 0) (iNil))) (.tp [.nm 3, .nm 4]) (L_placed_1)) (sRet (iVar 2)))
def G_placed : List D → Sto → Rs D := run N_placed B_placed
def L_code_of_rules_1 : IS := sSeq (sDrop (iMeth gAppend (iVar 3) (iCons (iCallB gLen (iCons (iVar 4) (iNil))) (iNil)))) (sDrop (iMeth gExtend (iVar 4) (iCons (iCall 2 G_placed [] (iCons (iBin gAdd (iRol (iListOf (iCons (iVar 5) (iNil)))) (iRol (iLst (iCons (iTup (iCons (iC (.str (Str.ofString "stop"))) (iNil))) (iNil))))) (iCons (iCallB gLen (iCons (iVar 4) (iNil))) (iNil)))) (iNil))))
def B_code_of_rules : IS := sSeq (sPar [3, 4] (iCons (iCell (iLst (iNil))) (iCons (iCell (iLst (iNil))) (iNil)))) (sSeq (sFor 16777215 (iWalk (iVar 2)) (.nm 5) (L_code_of_rules_1)) (sRet (iTup (iCons (iCallB gTuple (iCons (iVar 0) (iNil))) (iCons (iVar 1) (iCons (iCallB gTuple (iCons (iVar 3) (iNil))) (iCons (iCallB gTuple (iCons (iVar 4) (iNil))) (iNil))))))))
def G_code_of_rules : List D → Sto → Rs D := run N_code_of_rules B_code_of_rules
def L_standing_lines_1 : IS := sDrop (iMeth gExtend (iVar 4) (iCons (iCall 2 G_send_lines [] (iCons (iVar 5) (iCons (iVar 6) (iNil)))) (iNil)))
def B_standing_lines : IS := sSeq (sSet 4 (iIf (iTest (iBin gEqE (iVar 2) (iVar 1))) (iCell (iLst (iNil))) (iCell (iLst (iCons (iTup (iCons (iC (.str (Str.ofString "raise"))) (iCons (iC (.int 0)) (iCons (iBin gMod (iBin gSub (iVar 2) (iVar 1)) (iVar 0)) (iNil))))) (iNil)))))) (sSeq (sFor 16777215 (iWalkC fEnum (iCons (iVar 3) (iNil))) (.tp [.nm 5, .nm 6]) (L_standing_lines_1)) (sRet (iVar 4)))
def G_standing_lines : List D → Sto → Rs D := run N_standing_lines B_standing_lines
def L_code_of_machine_1 : IS := sSeq (sSet 6 (iCall 4 G_standing_lines [] (iCons (iVar 1) (iCons (iVar 5) (iCons (iBin gIx (iBin gIx (iBin gIx (iVar 0) (iVar 5)) (iVar 3)) (iC (.int 0))) (iCons (iBin gIx (iBin gIx (iBin gIx (iVar 0) (iVar 5)) (iVar 3)) (iC (.int 1))) (iNil))))))) (sIf (iTest (iBin gEqE (iVar 5) (iBin gSub (iVar 1) (iC (.int 1))))) (sSet 4 (iVar 6)) (sSeq (sSet 7 (iIf (iTest (iBin gGt (iCallB gLen (iCons (iVar 4) (iNil))) (iC (.int 0)))) (iRol (iLst (iCons (iTup (iCons (iC (.str (Str.ofString "go"))) (iCons (iBin gAdd (iCallB gLen (iCons (iVar 4) (iNil))) (iC (.int 1))) (iNil)))) (iNil)))) (iRol (iLst (iNil))))) (sSet 4 (iBin gAdd (iBin gAdd (iBin gAdd (iRol (iLst (iCons (iTup (iCons (iC (.str (Str.ofString "under"))) (iCons (iC (.int 0)) (iCons (iBin gAdd (iVar 5) (iC (.int 1))) (iCons (iBin gAdd (iBin gAdd (iCallB gLen (iCons (iVar 6) (iNil))) (iCallB gLen (iCons (iVar 7) (iNil)))) (iC (.int 1))) (iNil)))))) (iNil)))) (iVar 6)) (iVar 7)) (iVar 4)))))
def L_code_of_machine_2 : IS := sSeq (sSet 4 (iRol (iLst (iNil)))) (sSeq (sFor 16777215 (iWalk (iRev (iRol (iListRange (iVar 1))))) (.nm 5) (L_code_of_machine_1)) (sDrop (iMeth gAppend (iVar 2) (iCons (iVar 4) (iNil)))))
def B_code_of_machine : IS := sSeq (sPar [1, 2] (iCons (iCallB gLen (iCons (iVar 0) (iNil))) (iCons (iCell (iLst (iNil))) (iNil)))) (sSeq (sFor 16777215 (iWalkC fRange1 (iCons (iCallB gLen (iCons (iBin gIx (iVar 0) (iC (.int 0))) (iNil))) (iNil))) (.nm 3) (L_code_of_machine_2)) (sRet (iCall 3 G_code_of_rules [] (iCons (iIf (iTest (iBin gGt (iVar 1) (iC (.int 1)))) (iTup (iCons (iBin gSub (iVar 1) (iC (.int 1))) (iNil))) (iTup (iNil))) (iCons (iCallB gLen (iCons (iBin gIx (iBin gIx (iBin gIx (iVar 0) (iC (.int 0))) (iC (.int 0))) (iC (.int 1))) (iNil))) (iCons (iVar 2) (iNil)))))))
def G_code_of_machine : List D → Sto → Rs D := run N_code_of_machine B_code_of_machine
def B_law_box : IS := sSeq (sSet 2 (iBin gAdd (iBin gMul (iC (.int 28019)) (iVar 1)) (iC (.int 7703)))) (sSeq (sIf (iTest (iBin gLt (iVar 1) (iCallB gLen (iCons (iVar 0) (iNil))))) (sSet 2 (iCallB gAbs (iCons (iCallB gInt (iCons (iBin gIx (iVar 0) (iVar 1)) (iNil))) (iNil)))) (sIf (iTest (iBin gGt (iCallB gLen (iCons (iVar 0) (iNil))) (iC (.int 0)))) (sSet 2 (iBin gAdd (iVar 2) (iBin gMul (iBin gMod (iCallB gInt (iCons (iCallB gAbs (iCons (iCallB gInt (iCons (iBin gIx (iVar 0) (iBin gMod (iCallB gInt (iCons (iVar 1) (iNil))) (iCallB gLen (iCons (iVar 0) (iNil))))) (iNil))) (iNil))) (iNil))) (iC (.int 2147483563))) (iC (.int 97813))))) (sNil))) (sSeq (sSet 3 (iIf (iTest (iBin gGe (iVar 2) (iBin gPow (iC (.int 10)) (iC (.int 18))))) (iVar 2) (iC (.int 0)))) (sRet (iCell (iLst (iCons (iVar 3) (iCons (iBin gAdd (iBin gMod (iCallB gInt (iCons (iBin gAdd (iBin gMul (iBin gMod (iCallB gInt (iCons (iVar 2) (iNil))) (iC (.int 2147483563))) (iC (.int 54250003))) (iBin gMul (iC (.int 7703)) (iVar 1))) (iNil))) (iC (.int 2147483563))) (iC (.int 1))) (iNil))))))))
def G_law_box : List D → Sto → Rs D := run N_law_box B_law_box
def B_law_take : IS := sSeq (sIf (iTest (iBin gGt (iBin gIx (iVar 0) (iC (.int 0))) (iC (.int 0)))) (sSeq (sSet 2 (iBin gMod (iCallB gInt (iCons (iBin gIx (iVar 0) (iC (.int 0))) (iNil))) (iVar 1))) (sSeq (sSetIx (iVar 0) (iC (.int 0)) (iBin gFdiv (iBin gIx (iVar 0) (iC (.int 0))) (iVar 1))) (sRet (iVar 2)))) (sNil)) (sSeq (sSet 3 (iBin gMod (iCallB gInt (iCons (iBin gAdd (iBin gMul (iBin gIx (iVar 0) (iC (.int 1))) (iC (.int 39373))) (iC (.int 211))) (iNil))) (iC (.int 2147483647)))) (sSeq (sSetIx (iVar 0) (iC (.int 1)) (iBin gAdd (iBin gMod (iCallB gInt (iCons (iBin gAdd (iBin gMul (iVar 3) (iC (.int 40692))) (iC (.int 97))) (iNil))) (iC (.int 2147483563))) (iC (.int 1)))) (sRet (iBin gMod (iCallB gInt (iCons (iBin gFdiv (iBin gAdd (iBin gMul (iVar 3) (iC (.int 2147483629))) (iBin gIx (iVar 0) (iC (.int 1)))) (iC (.int 8263))) (iNil))) (iVar 1)))))
def G_law_take : List D → Sto → Rs D := run N_law_take B_law_take
def B_law_pick : IS := sRet (iBin gIx (iVar 1) (iCall 2 G_law_take [] (iCons (iVar 0) (iCons (iCallB gLen (iCons (iVar 1) (iNil))) (iNil)))))
def G_law_pick : List D → Sto → Rs D := run N_law_pick B_law_pick
def L_law_same_1 (G_law_same : List D → Sto → Rs D) : IS := sIf (iNot (iTru (iCall 2 G_law_same [] (iCons (iVar 2) (iCons (iVar 3) (iNil)))))) (sRet (iC (.bl false))) (sNil)
def B_law_same (G_law_same : List D → Sto → Rs D) : IS := sSeq (sIf (iTru (iUn (gIsi "tuple") (iVar 1))) (sSeq (sIf (iOr (iNot (iTru (iUn (gIsi "tuple") (iVar 0)))) (iTest (iBin gNeE (iCallB gLen (iCons (iVar 0) (iNil))) (iCallB gLen (iCons (iVar 1) (iNil)))))) (sRet (iC (.bl false))) (sNil)) (sSeq (sFor 16777215 (iWalkC fZip (iCons (iVar 0) (iCons (iVar 1) (iNil)))) (.tp [.nm 2, .nm 3]) (L_law_same_1 G_law_same)) (sRet (iC (.bl true))))) (sNil)) (sSeq (sIf (iTest (iBin gIsB (iVar 1) (iC .non))) (sRet (iBin gIsB (iVar 0) (iC .non))) (sNil)) (sSeq (sIf (iOr (iTest (iBin gIsB (iVar 1) (iC (.bl true)))) (iTest (iBin gIsB (iVar 1) (iC (.bl false))))) (sRet (iAndV (iUn (gIsi "bool") (iVar 0)) (iBin gEqE (iVar 0) (iVar 1)))) (sNil)) (sSeq (sIf (iTru (iUn (gIsi "int") (iVar 1))) (sRet (iAndV (iUn (gIsi "int") (iVar 0)) (iAndV (iNotV (iUn (gIsi "bool") (iVar 0))) (iBin gEqE (iVar 0) (iVar 1))))) (sNil)) (sRet (iAndV (iUn (gIsi "str") (iVar 0)) (iAndV (iUn (gIsi "str") (iVar 1)) (iBin gEqE (iVar 0) (iVar 1))))))))
def Gr_law_same : Nat → List D → Sto → Rs D
  | 0 => fun _ _ => .bad
  | k + 1 => run N_law_same (B_law_same (Gr_law_same k))
def G_law_same : List D → Sto → Rs D := Gr_law_same 8
def L_law_code_run_1 : IS := sSeq (sPar [8, 6] (iCons (iBin gIx (iBin gIx (iVar 0) (iC (.int 3))) (iVar 5)) (iCons (iBin gAdd (iVar 6) (iC (.int 1))) (iNil)))) (sSeq (sSet 5 (iBin gAdd (iVar 5) (iC (.int 1)))) (sSeq (sIf (iTest (iBin gEqE (iBin gIx (iVar 8) (iC (.int 0))) (iC (.str (Str.ofString "stop"))))) (sRet (iTup (iCons (iCallB gTuple (iCons (iVar 3) (iNil))) (iCons (iCallB gTuple (iCons (iVar 4) (iNil))) (iCons (iVar 6) (iNil)))))) (sNil)) (sIf (iTest (iBin gEqE (iBin gIx (iVar 8) (iC (.int 0))) (iC (.str (Str.ofString "raise"))))) (sSetIx (iVar 3) (iBin gIx (iVar 8) (iC (.int 1))) (iBin gMod (iCallB gInt (iCons (iBin gAdd (iBin gIx (iVar 3) (iBin gIx (iVar 8) (iC (.int 1)))) (iBin gIx (iVar 8) (iC (.int 2)))) (iNil))) (iBin gAdd (iBin gIx (iBin gIx (iVar 0) (iC (.int 0))) (iBin gIx (iVar 8) (iC (.int 1)))) (iC (.int 1))))) (sIf (iTest (iBin gEqE (iBin gIx (iVar 8) (iC (.int 0))) (iC (.str (Str.ofString "clear"))))) (sSetIx (iVar 3) (iBin gIx (iVar 8) (iC (.int 1))) (iC (.int 0))) (sIf (iTest (iBin gEqE (iBin gIx (iVar 8) (iC (.int 0))) (iC (.str (Str.ofString "send"))))) (sSetIx (iVar 4) (iBin gIx (iVar 8) (iC (.int 1))) (iBin gAdd (iBin gIx (iVar 4) (iBin gIx (iVar 8) (iC (.int 1)))) (iBin gIx (iVar 8) (iC (.int 2))))) (sIf (iOr (iTest (iBin gEqE (iBin gIx (iVar 8) (iC (.int 0))) (iC (.str (Str.ofString "go"))))) (iNot (iTest (iBin gLt (iBin gIx (iVar 3) (iBin gIx (iVar 8) (iC (.int 1)))) (iBin gIx (iVar 8) (iC (.int 2))))))) (sSet 5 (iBin gIx (iVar 8) (iBin gSub (iCallB gLen (iCons (iVar 8) (iNil))) (iC (.int 1))))) (sNil)))))))
def B_law_code_run : IS := sSeq (sAsg (.tp [.nm 3, .nm 4, .nm 5, .nm 6]) (iTup (iCons (iCell (iListOf (iCons (iVar 1) (iNil)))) (iCons (iCell (iBinL gMul (iRol (iLst (iCons (iC (.int 0)) (iNil)))) (iBin gIx (iVar 0) (iC (.int 1))))) (iCons (iBin gIx (iBin gIx (iVar 0) (iC (.int 2))) (iVar 2)) (iCons (iC (.int 0)) (iNil))))))) (sSeq (sFor 16777215 (iWalkC fRange1 (iCons (iBin gAdd (iCallB gLen (iCons (iBin gIx (iVar 0) (iC (.int 3))) (iNil))) (iC (.int 1))) (iNil))) (.nm 7) (L_law_code_run_1)) (sRet (iC .non)))
def G_law_code_run : List D → Sto → Rs D := run N_law_code_run B_law_code_run
def L_law_code_rows_1 : IS := sSeq (sAsg (.tp [.nm 7, .nm 8, .nm 9]) (iCall 3 G_law_code_run [] (iCons (iVar 0) (iCons (iBin gIx (iVar 1) (iVar 3)) (iCons (iVar 6) (iNil)))))) (sSeq (sDrop (iMeth gAppend (iVar 5) (iCons (iTup (iCons (iVar 7) (iCons (iVar 8) (iNil)))) (iNil)))) (sIf (iTest (iBin gNotInD (iVar 7) (iVar 4))) (sSeq (sSetIxD (iVar 4) (iVar 7) (iC (.bl true))) (sDrop (iMeth gAppend (iVar 1) (iCons (iVar 7) (iNil))))) (sNil)))
def T_law_code_rows_2 : IT := iTest (iBin gLt (iVar 3) (iCallB gLen (iCons (iVar 1) (iNil))))
def L_law_code_rows_2 : IS := sSeq (sSet 5 (iCell (iLst (iNil)))) (sSeq (sFor 16777215 (iWalkC fRange1 (iCons (iCallB gLen (iCons (iBin gIx (iVar 0) (iC (.int 2))) (iNil))) (iNil))) (.nm 6) (L_law_code_rows_1)) (sSeq (sDrop (iMeth gAppend (iVar 2) (iCons (iVar 5) (iNil)))) (sSet 3 (iBin gAdd (iVar 3) (iC (.int 1))))))
def B_law_code_rows : IS := sSeq (sPar [1, 2, 3] (iCons (iCell (iLst (iCons (iBin gMulA (iTup (iCons (iC (.int 0)) (iNil))) (iCallB gLen (iCons (iBin gIx (iVar 0) (iC (.int 0))) (iNil)))) (iNil)))) (iCons (iCell (iLst (iNil))) (iCons (iC (.int 0)) (iNil))))) (sSeq (sSet 4 (iDispT (ipCons (iBin gIx (iVar 1) (iC (.int 0))) (iC (.bl true)) (ipNil)))) (sSeq (sWhile 16777215 (T_law_code_rows_2) (L_law_code_rows_2)) (sRet (iTup (iCons (iVar 1) (iCons (iVar 2) (iNil)))))))
def G_law_code_rows : List D → Sto → Rs D := run N_law_code_rows B_law_code_rows
def L_law_drawn_code_1 : IS := sSeq (sSet 7 (iCall 2 G_law_take [] (iCons (iVar 0) (iCons (iC (.int 8)) (iNil))))) (sIf (iAnd (iTest (iBin gLt (iVar 7) (iC (.int 2)))) (iTest (iBin gNeE (iVar 1) (iTup (iNil))))) (sDrop (iMeth gAppend (iVar 5) (iCons (iTup (iCons (iC (.str (Str.ofString "raise"))) (iCons (iCall 2 G_law_take [] (iCons (iVar 0) (iCons (iCallB gLen (iCons (iVar 1) (iNil))) (iNil)))) (iCons (iBin gAdd (iC (.int 1)) (iCall 2 G_law_take [] (iCons (iVar 0) (iCons (iC (.int 4)) (iNil))))) (iNil))))) (iNil)))) (sIf (iAnd (iTest (iBin gEqE (iVar 7) (iC (.int 2)))) (iTest (iBin gNeE (iVar 1) (iTup (iNil))))) (sDrop (iMeth gAppend (iVar 5) (iCons (iTup (iCons (iC (.str (Str.ofString "clear"))) (iCons (iCall 2 G_law_take [] (iCons (iVar 0) (iCons (iCallB gLen (iCons (iVar 1) (iNil))) (iNil)))) (iNil)))) (iNil)))) (sIf (iAnd (iTest (iBin gEqE (iVar 7) (iC (.int 3)))) (iTest (iBin gGt (iVar 2) (iC (.int 0))))) (sDrop (iMeth gAppend (iVar 5) (iCons (iTup (iCons (iC (.str (Str.ofString "send"))) (iCons (iCall 2 G_law_take [] (iCons (iVar 0) (iCons (iVar 2) (iNil)))) (iCons (iBin gAdd (iC (.int 1)) (iCall 2 G_law_take [] (iCons (iVar 0) (iCons (iC (.int 3)) (iNil))))) (iNil))))) (iNil)))) (sIf (iAnd (iTest (iBin gLt (iVar 7) (iC (.int 7)))) (iTest (iBin gNeE (iVar 1) (iTup (iNil))))) (sDrop (iMeth gAppend (iVar 5) (iCons (iTup (iCons (iC (.str (Str.ofString "under"))) (iCons (iCall 2 G_law_take [] (iCons (iVar 0) (iCons (iCallB gLen (iCons (iVar 1) (iNil))) (iNil)))) (iCons (iCall 2 G_law_take [] (iCons (iVar 0) (iCons (iC (.int 5)) (iNil)))) (iCons (iBin gAdd (iBin gAdd (iVar 6) (iC (.int 1))) (iCall 2 G_law_take [] (iCons (iVar 0) (iCons (iCallB gMin (iCons (iC (.int 6)) (iCons (iBin gSub (iBin gSub (iVar 4) (iC (.int 1))) (iVar 6)) (iNil)))) (iNil))))) (iNil)))))) (iNil)))) (sDrop (iMeth gAppend (iVar 5) (iCons (iIf (iTest (iBin gGt (iCall 2 G_law_take [] (iCons (iVar 0) (iCons (iC (.int 3)) (iNil)))) (iC (.int 0)))) (iTup (iCons (iC (.str (Str.ofString "go"))) (iCons (iBin gAdd (iBin gAdd (iVar 6) (iC (.int 1))) (iCall 2 G_law_take [] (iCons (iVar 0) (iCons (iCallB gMin (iCons (iC (.int 4)) (iCons (iBin gSub (iBin gSub (iVar 4) (iC (.int 1))) (iVar 6)) (iNil)))) (iNil))))) (iNil)))) (iTup (iCons (iC (.str (Str.ofString "stop"))) (iNil)))) (iNil))))))))
def B_law_drawn_code : IS := sSeq (sSet 1 (iCallB gTuple (iCons (iComp fRol 16777215 (iWalkC fRange1 (iCons (iCall 2 G_law_take [] (iCons (iVar 0) (iCons (iC (.int 3)) (iNil)))) (iNil))) (.nm 8) (iYes) (iBin gAdd (iC (.int 1)) (iCall 2 G_law_take [] (iCons (iVar 0) (iCons (iC (.int 3)) (iNil))))) [8]) (iNil)))) (sSeq (sAsg (.tp [.nm 2, .nm 3, .nm 4]) (iTup (iCons (iCall 2 G_law_take [] (iCons (iVar 0) (iCons (iC (.int 3)) (iNil)))) (iCons (iBin gAdd (iC (.int 1)) (iCall 2 G_law_take [] (iCons (iVar 0) (iCons (iC (.int 2)) (iNil))))) (iCons (iBin gAdd (iC (.int 3)) (iCall 2 G_law_take [] (iCons (iVar 0) (iCons (iC (.int 14)) (iNil))))) (iNil)))))) (sSeq (sSet 5 (iCell (iLst (iNil)))) (sSeq (sFor 16777215 (iWalkC fRange1 (iCons (iBin gSub (iVar 4) (iC (.int 1))) (iNil))) (.nm 6) (L_law_drawn_code_1)) (sRet (iTup (iCons (iVar 1) (iCons (iVar 2) (iCons (iCallB gTuple (iCons (iComp fRol 16777215 (iWalkC fRange1 (iCons (iVar 3) (iNil))) (.nm 9) (iYes) (iCall 2 G_law_take [] (iCons (iVar 0) (iCons (iVar 4) (iNil)))) [9]) (iNil))) (iCons (iBin gAdd (iCallB gTuple (iCons (iVar 5) (iNil))) (iTup (iCons (iTup (iCons (iC (.str (Str.ofString "stop"))) (iNil))) (iNil)))) (iNil))))))))))
def G_law_drawn_code : List D → Sto → Rs D := run N_law_drawn_code B_law_drawn_code
def L_law_like_machine_1 : IS := sSeq (sAsg (.tp [.nm 5, .nm 6, .nm 7]) (iCall 3 G_law_code_run [] (iCons (iVar 0) (iCons (iBin gIx (iBin gIx (iVar 2) (iVar 3)) (iC (.int 0))) (iCons (iVar 4) (iNil)))))) (sSeq (sAsg (.tp [.nm 8, .nm 9]) (iBin gIx (iBin gIx (iVar 1) (iBin gIx (iBin gIx (iVar 2) (iVar 3)) (iC (.int 1)))) (iVar 4))) (sSeq (sIf (iNot (iTru (iCall 2 G_law_same [] (iCons (iVar 6) (iCons (iVar 9) (iNil)))))) (sRet (iC (.bl false))) (sNil)) (sIf (iTest (iBin (gInP true) (iTup (iCons (iVar 5) (iCons (iVar 8) (iNil)))) (iVar 2))) (sDrop (iMeth gAppend (iVar 2) (iCons (iTup (iCons (iVar 5) (iCons (iVar 8) (iNil)))) (iNil)))) (sNil))))
def T_law_like_machine_2 : IT := iTest (iBin gLt (iVar 3) (iCallB gLen (iCons (iVar 2) (iNil))))
def L_law_like_machine_2 : IS := sSeq (sFor 16777215 (iWalkC fRange1 (iCons (iCallB gLen (iCons (iBin gIx (iVar 1) (iC (.int 0))) (iNil))) (iNil))) (.nm 4) (L_law_like_machine_1)) (sSet 3 (iBin gAdd (iVar 3) (iC (.int 1))))
def B_law_like_machine : IS := sSeq (sPar [2, 3] (iCons (iCell (iLst (iCons (iTup (iCons (iBin gMulA (iTup (iCons (iC (.int 0)) (iNil))) (iCallB gLen (iCons (iBin gIx (iVar 0) (iC (.int 0))) (iNil)))) (iCons (iC (.int 0)) (iNil)))) (iNil)))) (iCons (iC (.int 0)) (iNil)))) (sSeq (sWhile 16777215 (T_law_like_machine_2) (L_law_like_machine_2)) (sRet (iC (.bl true))))
def G_law_like_machine : List D → Sto → Rs D := run N_law_like_machine B_law_like_machine
def L_law_drawn_machine_1 : IS := sDrop (iMeth gAppend (iVar 7) (iCons (iTup (iCons (iCall 2 G_law_take [] (iCons (iVar 0) (iCons (iVar 1) (iNil)))) (iCons (iCallB gTuple (iCons (iComp fRol 16777215 (iWalkC fRange1 (iCons (iVar 3) (iNil))) (.nm 6) (iYes) (iCall 2 G_law_take [] (iCons (iVar 0) (iCons (iC (.int 3)) (iNil)))) [6]) (iNil))) (iNil)))) (iNil)))
def L_law_drawn_machine_2 : IS := sSeq (sSet 7 (iCell (iLst (iCons (iTup (iCons (iBin gMod (iCallB gInt (iCons (iBin gAdd (iVar 5) (iC (.int 1))) (iNil))) (iVar 1)) (iCons (iCallB gTuple (iCons (iComp fRol 16777215 (iWalkC fRange1 (iCons (iVar 3) (iNil))) (.nm 6) (iYes) (iCall 2 G_law_pick [] (iCons (iVar 0) (iCons (iRol (iLst (iCons (iC (.int 0)) (iCons (iC (.int 0)) (iCons (iC (.int 1)) (iCons (iC (.int 2)) (iCons (iC (.int 900)) (iCons (iC (.int 1296)) (iCons (iC (.int 2997)) (iNil)))))))))) (iNil)))) [6]) (iNil))) (iNil)))) (iNil))))) (sSeq (sFor 16777215 (iWalkC fRange1 (iCons (iBin gSub (iVar 2) (iC (.int 1))) (iNil))) (.nm 6) (L_law_drawn_machine_1)) (sDrop (iMeth gAppend (iVar 4) (iCons (iCallB gTuple (iCons (iVar 7) (iNil))) (iNil)))))
def B_law_drawn_machine : IS := sSeq (sPar [1, 2, 3] (iCons (iBin gAdd (iC (.int 1)) (iCall 2 G_law_take [] (iCons (iVar 0) (iCons (iC (.int 12)) (iNil))))) (iCons (iBin gAdd (iC (.int 1)) (iCall 2 G_law_take [] (iCons (iVar 0) (iCons (iC (.int 3)) (iNil))))) (iCons (iCall 2 G_law_take [] (iCons (iVar 0) (iCons (iC (.int 4)) (iNil)))) (iNil))))) (sSeq (sSet 4 (iCell (iLst (iNil)))) (sSeq (sFor 16777215 (iWalkC fRange1 (iCons (iVar 1) (iNil))) (.nm 5) (L_law_drawn_machine_2)) (sRet (iCallB gTuple (iCons (iVar 4) (iNil))))))
def G_law_drawn_machine : List D → Sto → Rs D := run N_law_drawn_machine B_law_drawn_machine
def L_law_1 : IS := sSeq (sSet 2 (iCall 2 G_law_box [] (iCons (iVar 0) (iCons (iVar 1) (iNil))))) (sSeq (sSet 3 (iCall 1 G_law_drawn_machine [] (iCons (iVar 2) (iNil)))) (sSeq (sIf (iTest (iBin gEqE (iBin gMod (iVar 1) (iC (.int 3))) (iC (.int 0)))) (sSeq (sAsg (.tp [.nm 4, .nm 5]) (iCall 1 G_law_code_rows [] (iCons (iCall 1 G_law_drawn_code [] (iCons (iVar 2) (iNil))) (iNil)))) (sSet 3 (iCallB gTuple (iCons (iComp fRol 16777215 (iWalk (iVar 5)) (.nm 7) (iYes) (iCallB gTuple (iCons (iComp fRol 16777215 (iWalk (iVar 7)) (.tp [.nm 8, .nm 9]) (iYes) (iTup (iCons (iMethR gIndex (iVar 4) (iCons (iVar 8) (iNil))) (iCons (iVar 9) (iNil)))) [8, 9]) (iNil))) [7]) (iNil))))) (sNil)) (sSeq (sSet 6 (iCallKn 0 1 G_code_of_machine iNil (iCons (iVar 3) (iNil)))) (sIf (iOr (iTest (iBin gNeE (iCall 1 G_check_code [] (iCons (iVar 6) (iNil))) (iVar 6))) (iOr (iTest (iBin gNeE (iCallB gLen (iCons (iBin gIx (iVar 6) (iC (.int 2))) (iNil))) (iCallB gLen (iCons (iBin gIx (iVar 3) (iC (.int 0))) (iNil))))) (iNot (iTru (iCall 2 G_law_like_machine [] (iCons (iVar 6) (iCons (iVar 3) (iNil)))))))) (sRet (iC (.bl false))) (sNil)))))
def B_law : IS := sSeq (sFor 16777215 (iWalkC fRange1 (iCons (iCallB gMax (iCons (iC (.int 3)) (iCons (iCallB gMin (iCons (iCallB gLen (iCons (iVar 0) (iNil))) (iCons (iC (.int 8)) (iNil)))) (iNil)))) (iNil))) (.nm 1) (L_law_1)) (sRet (iC (.bl true)))
def G_law : List D → Sto → Rs D := run N_law B_law
end
theorem D_is_int {ct : String → Addr} {P : Program} {w : World} {K : PySem.W.Frag} {mg : Str → Option Value} {base : Heap} (mg_bool : mg "bool" = none) (mg_int : mg "int" = none) (mg_isinstance : mg "isinstance" = none) : ∀ (f : Addr) (cdv : Value) (A : Around) (outer : List Env) (s : Shared) (H : Hp) (E : XK), Room 0 (A.deeper (envOfC "is_int" (defScope S_is_int) s.heap.objs.size f cdv)) → SSs ct (bodyX P w K mg base N_is_int "is_int" S_is_int f cdv A outer s H E) noE (defBody S_is_int) B_is_int := fun f cdv A outer s H E hr =>
  ss_one (s_ret (si_andV (si_isi "int" (by rfl) mg_isinstance (by decide) (si_var 0 (pv 0)) (pe_bltn (by rfl) mg_int (by first | exact boot_int | decide +kernel) rfl)) (si_one (si_notV (si_isi "bool" (by rfl) mg_isinstance (by decide) (si_var 0 (pv 0)) (pe_bltn (by rfl) mg_bool (by first | exact boot_bool | decide +kernel) rfl))))))
theorem K_is_int {ct : String → Addr} {P : Program} {w : World} {K : PySem.W.Frag} {mg : Str → Option Value} {base : Heap} (mg_bool : mg "bool" = none) (mg_int : mg "int" = none) (mg_isinstance : mg "isinstance" = none) {f : Addr} {fd : FuncData} (mm : mg "is_int" = some (.ref f)) (F : Fun K "is_int" "is_int" S_is_int f fd) : Kn ct P w K mg base "is_int" S_is_int P_is_int 1 G_is_int f fd := kn_of mm F sc_is_int rfl (D_is_int mg_bool mg_int mg_isinstance)
theorem D_is_number {ct : String → Addr} {P : Program} {w : World} {K : PySem.W.Frag} {mg : Str → Option Value} {base : Heap} {f_is_int : Addr} {fd_is_int : FuncData} (k_is_int : Kn ct P w K mg base "is_int" S_is_int P_is_int 1 G_is_int f_is_int fd_is_int) : ∀ (f : Addr) (cdv : Value) (A : Around) (outer : List Env) (s : Shared) (H : Hp) (E : XK), Room 1 (A.deeper (envOfC "is_number" (defScope S_is_number) s.heap.objs.size f cdv)) → SSs ct (bodyX P w K mg base N_is_number "is_number" S_is_number f cdv A outer s H E) noE (defBody S_is_number) B_is_number := fun f cdv A outer s H E hr =>
  ss_one (s_ret (si_andV (si_kn k_is_int 1 (hr.mono (by decide)) (fun _ _ _ _ _ _ us hl => match us, hl with | [_], _ => rfl) (sa_cons (si_var 0 (pv 0)) (sa_nil))) (si_andV (si_c (c_ge) (si_var 0 (pv 0)) (si_var 1 (pv 1))) (si_one (si_orV (si_c (c_isB) (si_var 2 (pv 2)) (si_non)) (si_one (si_c (c_le) (si_var 0 (pv 0)) (si_var 2 (pv 2)))))))))
theorem K_is_number {ct : String → Addr} {P : Program} {w : World} {K : PySem.W.Frag} {mg : Str → Option Value} {base : Heap} {f_is_int : Addr} {fd_is_int : FuncData} (k_is_int : Kn ct P w K mg base "is_int" S_is_int P_is_int 1 G_is_int f_is_int fd_is_int) {f : Addr} {fd : FuncData} (mm : mg "is_number" = some (.ref f)) (F : FunD K "is_number" "is_number" (defArgs S_is_number) (defBody S_is_number) (defScope S_is_number) [V.int 0, V.non] [] f fd) : KnD ct P w K mg base "is_number" S_is_number P_is_number 2 G_is_number [.int 0, .non] f fd := knD_of mm (fun _ _ => .cons (.int _) (.cons .non (.nil))) F sc_is_number rfl (D_is_number k_is_int)
theorem D_is_tuple {ct : String → Addr} {P : Program} {w : World} {K : PySem.W.Frag} {mg : Str → Option Value} {base : Heap} (mg_isinstance : mg "isinstance" = none) (mg_len : mg "len" = none) (mg_tuple : mg "tuple" = none) : ∀ (f : Addr) (cdv : Value) (A : Around) (outer : List Env) (s : Shared) (H : Hp) (E : XK), Room 0 (A.deeper (envOfC "is_tuple" (defScope S_is_tuple) s.heap.objs.size f cdv)) → SSs ct (bodyX P w K mg base N_is_tuple "is_tuple" S_is_tuple f cdv A outer s H E) noE (defBody S_is_tuple) B_is_tuple := fun f cdv A outer s H E hr =>
  ss_one (s_ret (si_andV (si_isi "tuple" (by rfl) mg_isinstance (by decide) (si_var 0 (pv 0)) (pe_bltn (by rfl) mg_tuple (by first | exact boot_tuple | decide +kernel) rfl)) (si_one (si_orV (si_c (c_isB) (si_var 1 (pv 1)) (si_non)) (si_one (si_c (c_eq hr.units) (si_callB (cb_len) (by rfl) mg_len (by first | exact boot_len | decide +kernel) (sa_cons (si_var 0 (pv 0)) (sa_nil))) (si_var 1 (pv 1))))))))
theorem K_is_tuple {ct : String → Addr} {P : Program} {w : World} {K : PySem.W.Frag} {mg : Str → Option Value} {base : Heap} (mg_isinstance : mg "isinstance" = none) (mg_len : mg "len" = none) (mg_tuple : mg "tuple" = none) {f : Addr} {fd : FuncData} (mm : mg "is_tuple" = some (.ref f)) (F : FunD K "is_tuple" "is_tuple" (defArgs S_is_tuple) (defBody S_is_tuple) (defScope S_is_tuple) [V.non] [] f fd) : KnD ct P w K mg base "is_tuple" S_is_tuple P_is_tuple 1 G_is_tuple [.non] f fd := knD_of mm (fun _ _ => .cons .non (.nil)) F sc_is_tuple rfl (D_is_tuple mg_isinstance mg_len mg_tuple)
theorem D_is_numbers {ct : String → Addr} {P : Program} {w : World} {K : PySem.W.Frag} {mg : Str → Option Value} {base : Heap} (mg_len : mg "len" = none) {f_is_tuple : Addr} {fd_is_tuple : FuncData} (k_is_tuple : KnD ct P w K mg base "is_tuple" S_is_tuple P_is_tuple 1 G_is_tuple [.non] f_is_tuple fd_is_tuple) {f_is_number : Addr} {fd_is_number : FuncData} (k_is_number : KnD ct P w K mg base "is_number" S_is_number P_is_number 2 G_is_number [.int 0, .non] f_is_number fd_is_number) : ∀ (f : Addr) (cdv : Value) (A : Around) (outer : List Env) (s : Shared) (H : Hp) (E : XK), Room 2 (A.deeper (envOfC "is_numbers" (defScope S_is_numbers) s.heap.objs.size f cdv)) → SSs ct (bodyX P w K mg base N_is_numbers "is_numbers" S_is_numbers f cdv A outer s H E) noE (defBody S_is_numbers) B_is_numbers := fun f cdv A outer s H E hr =>
  ss_one (s_ret (si_andV (si_knD k_is_tuple 2 1 (hr.mono (by decide)) (by decide) (by decide) (fun dvs hd _ _ _ _ _ _ _ us its h1 h2 => match dvs, hd, us, its, h1, h2 with | [_], _, [_, _], [_], _, _ => ⟨_, rfl, rfl⟩) (sa_cons (si_var 0 (pv 0)) (sa_cons (si_var 1 (pv 1)) (sa_nil)))) (si_one (si_c (c_eq hr.units) (si_callB (cb_len) (by rfl) mg_len (by first | exact boot_len | decide +kernel) (sa_cons (si_comp (p := .nm 4) fin_rol 16777215 [(("one" : Str), 4)] rfl sc_is_numbers.nd (w_walk (si_var 0 (pv 0))) (blkOk_by (N := N_is_numbers) (sc := defScope S_is_numbers) (by decide +kernel)) (fun _ _ _ _ _ => sp_nm 4 sc_is_numbers.nd) (fun _ _ _ _ _ => sts_one (sb_not (sb_tru (si_knD k_is_number 3 2 (hr.mono (by decide)) (by decide) (by decide) (fun dvs hd _ _ _ _ _ _ _ us its h1 h2 => match dvs, hd, us, its, h1, h2 with | [_, _], _, [_, _, _], [_, _], _, _ => ⟨_, rfl, rfl⟩) (sa_cons (si_var 4 (pv 4)) (sa_cons (si_var 2 (pv 2)) (sa_cons (si_var 3 (pv 3)) (sa_nil)))))))) (fun _ _ _ _ _ => si_var 4 (pv 4)) (by simp [Pt.slots, Pt.slotsAll])) (sa_nil))) (si_int)))))
theorem K_is_numbers {ct : String → Addr} {P : Program} {w : World} {K : PySem.W.Frag} {mg : Str → Option Value} {base : Heap} (mg_len : mg "len" = none) {f_is_tuple : Addr} {fd_is_tuple : FuncData} (k_is_tuple : KnD ct P w K mg base "is_tuple" S_is_tuple P_is_tuple 1 G_is_tuple [.non] f_is_tuple fd_is_tuple) {f_is_number : Addr} {fd_is_number : FuncData} (k_is_number : KnD ct P w K mg base "is_number" S_is_number P_is_number 2 G_is_number [.int 0, .non] f_is_number fd_is_number) {f : Addr} {fd : FuncData} (mm : mg "is_numbers" = some (.ref f)) (F : FunD K "is_numbers" "is_numbers" (defArgs S_is_numbers) (defBody S_is_numbers) (defScope S_is_numbers) [V.int 0, V.non] [] f fd) : KnD ct P w K mg base "is_numbers" S_is_numbers P_is_numbers 3 G_is_numbers [.int 0, .non] f fd := knD_of mm (fun _ _ => .cons (.int _) (.cons .non (.nil))) F sc_is_numbers rfl (D_is_numbers mg_len k_is_tuple k_is_number)
theorem D_is_line {ct : String → Addr} {P : Program} {w : World} {K : PySem.W.Frag} {mg : Str → Option Value} {base : Heap} (mg_all : mg "all" = none) (mg_isinstance : mg "isinstance" = none) (mg_len : mg "len" = none) (mg_str : mg "str" = none) (mg_tuple : mg "tuple" = none) {q_ARGUMENTS : Addr} (cg_ARGUMENTS : CD K w mg "ARGUMENTS" [(Str.ofString "raise", 2), (Str.ofString "clear", 1), (Str.ofString "send", 2), (Str.ofString "under", 3), (Str.ofString "go", 1), (Str.ofString "stop", 0)] q_ARGUMENTS) {tk_MOST_TIMES : Tok} (cg_MOST_TIMES : mg "MOST_TIMES" = some (Value.int 999 tk_MOST_TIMES)) {q_WORDS : Addr} (cg_WORDS : CT K mg "WORDS" [Str.ofString "raise", Str.ofString "clear", Str.ofString "send", Str.ofString "under", Str.ofString "go", Str.ofString "stop"] q_WORDS) {f_is_number : Addr} {fd_is_number : FuncData} (k_is_number : KnD ct P w K mg base "is_number" S_is_number P_is_number 2 G_is_number [.int 0, .non] f_is_number fd_is_number) : ∀ (f : Addr) (cdv : Value) (A : Around) (outer : List Env) (s : Shared) (H : Hp) (E : XK), Room 2 (A.deeper (envOfC "is_line" (defScope S_is_line) s.heap.objs.size f cdv)) → SSs ct (bodyX P w K mg base N_is_line "is_line" S_is_line f cdv A outer s H E) noE (defBody S_is_line) B_is_line := fun f cdv A outer s H E hr =>
  ss_cons (s_if (sb_w (sw_or (sb_not (sb_tru (si_isi "tuple" (by rfl) mg_isinstance (by decide) (si_var 0 (pv 0)) (pe_bltn (by rfl) mg_tuple (by first | exact boot_tuple | decide +kernel) rfl)))) (sw_or (sb_c (c_eq hr.units) (si_callB (cb_len) (by rfl) mg_len (by first | exact boot_len | decide +kernel) (sa_cons (si_var 0 (pv 0)) (sa_nil))) (si_int)) (sw_or (sb_not (sb_tru (si_isi "str" (by rfl) mg_isinstance (by decide) (si_ix (si_var 0 (pv 0)) (si_int)) (pe_bltn (by rfl) mg_str (by first | exact boot_str | decide +kernel) rfl)))) (sw_or1 (sb_notinC (by rfl) cg_WORDS (si_ix (si_var 0 (pv 0)) (si_int)))))))) (ss_one (s_ret (si_bl))) (ss_nil)) (ss_cons (s_if (sb_w (sw_or (sb_c (c_ne hr.units) (si_callB (cb_len) (by rfl) mg_len (by first | exact boot_len | decide +kernel) (sa_cons (si_var 0 (pv 0)) (sa_nil))) (si_add (si_int) (si_ixC (by rfl) cg_ARGUMENTS (si_ix (si_var 0 (pv 0)) (si_int))))) (sw_or1 (sb_not (sb_tru (si_callB (cb_all rfl) (by rfl) mg_all (by first | exact boot_all | decide +kernel) (sa_cons (si_comp (p := .nm 5) fin_rol 16777215 [(("one" : Str), 5)] rfl sc_is_line.nd (w_walk (si_sl (si_var 0 (pv 0)) (so_some (si_int)) (so_none))) (blkOk_by (N := N_is_line) (sc := defScope S_is_line) (by decide +kernel)) (fun _ _ _ _ _ => sp_nm 5 sc_is_line.nd) (fun _ _ _ _ _ => sts_nil) (fun _ _ _ _ _ => si_knD k_is_number 1 0 (hr.mono (by decide)) (by decide) (by decide) (fun dvs hd _ _ _ _ _ _ _ us its h1 h2 => match dvs, hd, us, its, h1, h2 with | [_, _], _, [_], [_, _], _, _ => ⟨_, rfl, rfl⟩) (sa_cons (si_var 5 (pv 5)) (sa_nil))) (by simp [Pt.slots, Pt.slotsAll])) (sa_nil)))))))) (ss_one (s_ret (si_bl))) (ss_nil)) (ss_cons (s_if (sb_w (sw_and (sb_c (c_in) (si_ix (si_var 0 (pv 0)) (si_int)) (si_tup (sa_cons (si_str) (sa_cons (si_str) (sa_cons (si_str) (sa_cons (si_str) (sa_nil))))))) (sw_and1 (sb_c (c_ge) (si_ix (si_var 0 (pv 0)) (si_int)) (si_if (sb_c (c_eq hr.units) (si_ix (si_var 0 (pv 0)) (si_int)) (si_str)) (si_var 4 (pv 4)) (si_callB (cb_len) (by rfl) mg_len (by first | exact boot_len | decide +kernel) (sa_cons (si_var 3 (pv 3)) (sa_nil)))))))) (ss_one (s_ret (si_bl))) (ss_nil)) (ss_cons (s_if (sb_w (sw_and (sb_c (c_in) (si_ix (si_var 0 (pv 0)) (si_int)) (si_tup (sa_cons (si_str) (sa_cons (si_str) (sa_cons (si_str) (sa_nil)))))) (sw_and1 (sb_c (c_gt) (si_ix (si_var 0 (pv 0)) (si_int)) (si_C (pe_glob (v := V.int 999) (by rfl) cg_MOST_TIMES ⟨_, rfl⟩) (fun _ _ => .int _)))))) (ss_one (s_ret (si_bl))) (ss_nil)) (ss_cons (s_if (sb_w (sw_and (sb_c (c_in) (si_ix (si_var 0 (pv 0)) (si_int)) (si_tup (sa_cons (si_str) (sa_cons (si_str) (sa_nil))))) (sw_and1 (sb_not (sb_chain (c_lt) (c_lt) (si_var 1 (pv 1)) (si_ix (si_var 0 (pv 0)) (si_neg (si_int))) (si_var 2 (pv 2))))))) (ss_one (s_ret (si_bl))) (ss_nil)) (ss_one (s_ret (si_orV (si_c (c_eq hr.units) (si_ix (si_var 0 (pv 0)) (si_int)) (si_str)) (si_one (si_c (c_lt) (si_add (si_var 1 (pv 1)) (si_int)) (si_var 2 (pv 2)))))))))))
theorem K_is_line {ct : String → Addr} {P : Program} {w : World} {K : PySem.W.Frag} {mg : Str → Option Value} {base : Heap} (mg_all : mg "all" = none) (mg_isinstance : mg "isinstance" = none) (mg_len : mg "len" = none) (mg_str : mg "str" = none) (mg_tuple : mg "tuple" = none) {q_ARGUMENTS : Addr} (cg_ARGUMENTS : CD K w mg "ARGUMENTS" [(Str.ofString "raise", 2), (Str.ofString "clear", 1), (Str.ofString "send", 2), (Str.ofString "under", 3), (Str.ofString "go", 1), (Str.ofString "stop", 0)] q_ARGUMENTS) {tk_MOST_TIMES : Tok} (cg_MOST_TIMES : mg "MOST_TIMES" = some (Value.int 999 tk_MOST_TIMES)) {q_WORDS : Addr} (cg_WORDS : CT K mg "WORDS" [Str.ofString "raise", Str.ofString "clear", Str.ofString "send", Str.ofString "under", Str.ofString "go", Str.ofString "stop"] q_WORDS) {f_is_number : Addr} {fd_is_number : FuncData} (k_is_number : KnD ct P w K mg base "is_number" S_is_number P_is_number 2 G_is_number [.int 0, .non] f_is_number fd_is_number) {f : Addr} {fd : FuncData} (mm : mg "is_line" = some (.ref f)) (F : Fun K "is_line" "is_line" S_is_line f fd) : Kn ct P w K mg base "is_line" S_is_line P_is_line 3 G_is_line f fd := kn_of mm F sc_is_line rfl (D_is_line mg_all mg_isinstance mg_len mg_str mg_tuple cg_ARGUMENTS cg_MOST_TIMES cg_WORDS k_is_number)
theorem D_check_code {ct : String → Addr} {P : Program} {w : World} {K : PySem.W.Frag} {mg : Str → Option Value} {base : Heap} (mg_enumerate : mg "enumerate" = none) (mg_len : mg "len" = none) {tk_MOST_LINES : Tok} (cg_MOST_LINES : mg "MOST_LINES" = some (Value.int 4000 tk_MOST_LINES)) {tk_MOST_SENT : Tok} (cg_MOST_SENT : mg "MOST_SENT" = some (Value.int 4 tk_MOST_SENT)) {tk_MOST_TAKEN : Tok} (cg_MOST_TAKEN : mg "MOST_TAKEN" = some (Value.int 3 tk_MOST_TAKEN)) {tk_MOST_TOP : Tok} (cg_MOST_TOP : mg "MOST_TOP" = some (Value.int 71 tk_MOST_TOP)) {tk_MOST_TOPS : Tok} (cg_MOST_TOPS : mg "MOST_TOPS" = some (Value.int 4 tk_MOST_TOPS)) {f_is_tuple : Addr} {fd_is_tuple : FuncData} (k_is_tuple : KnD ct P w K mg base "is_tuple" S_is_tuple P_is_tuple 1 G_is_tuple [.non] f_is_tuple fd_is_tuple) {f_is_numbers : Addr} {fd_is_numbers : FuncData} (k_is_numbers : KnD ct P w K mg base "is_numbers" S_is_numbers P_is_numbers 3 G_is_numbers [.int 0, .non] f_is_numbers fd_is_numbers) {f_is_number : Addr} {fd_is_number : FuncData} (k_is_number : KnD ct P w K mg base "is_number" S_is_number P_is_number 2 G_is_number [.int 0, .non] f_is_number fd_is_number) {f_is_line : Addr} {fd_is_line : FuncData} (k_is_line : Kn ct P w K mg base "is_line" S_is_line P_is_line 3 G_is_line f_is_line fd_is_line) : ∀ (f : Addr) (cdv : Value) (A : Around) (outer : List Env) (s : Shared) (H : Hp) (E : XK), Room 3 (A.deeper (envOfC "check_code" (defScope S_check_code) s.heap.objs.size f cdv)) → SSs ct (bodyX P w K mg base N_check_code "check_code" S_check_code f cdv A outer s H E) noE (defBody S_check_code) B_check_code := fun f cdv A outer s H E hr =>
  ss_cons (s_if (sb_not (sb_tru (si_knD k_is_tuple 2 1 (hr.mono (by decide)) (by decide) (by decide) (fun dvs hd _ _ _ _ _ _ _ us its h1 h2 => match dvs, hd, us, its, h1, h2 with | [_], _, [_, _], [_], _, _ => ⟨_, rfl, rfl⟩) (sa_cons (si_var 0 (pv 0)) (sa_cons (si_int) (sa_nil)))))) (ss_one (s_never)) (ss_nil)) (ss_cons (s_asg (si_var 0 (pv 0)) (sp_tp rfl (sps_cons (sp_nm 1 sc_check_code.nd) (sps_cons (sp_nm 2 sc_check_code.nd) (sps_cons (sp_nm 3 sc_check_code.nd) (sps_cons (sp_nm 4 sc_check_code.nd) (sps_nil))))))) (ss_cons (s_if (sb_w (sw_or (sb_not (sb_tru (si_knD k_is_tuple 1 0 (hr.mono (by decide)) (by decide) (by decide) (fun dvs hd _ _ _ _ _ _ _ us its h1 h2 => match dvs, hd, us, its, h1, h2 with | [_], _, [_], [_], _, _ => ⟨_, rfl, rfl⟩) (sa_cons (si_var 1 (pv 1)) (sa_nil))))) (sw_or (sb_c (c_gt) (si_callB (cb_len) (by rfl) mg_len (by first | exact boot_len | decide +kernel) (sa_cons (si_var 1 (pv 1)) (sa_nil))) (si_C (pe_glob (v := V.int 4) (by rfl) cg_MOST_TOPS ⟨_, rfl⟩) (fun _ _ => .int _))) (sw_or1 (sb_not (sb_tru (si_knD k_is_numbers 4 2 (hr.mono (by decide)) (by decide) (by decide) (fun dvs hd _ _ _ _ _ _ _ us its h1 h2 => match dvs, hd, us, its, h1, h2 with | [_, _], _, [_, _, _, _], [_, _], _, _ => ⟨_, rfl, rfl⟩) (sa_cons (si_var 1 (pv 1)) (sa_cons (si_callB (cb_len) (by rfl) mg_len (by first | exact boot_len | decide +kernel) (sa_cons (si_var 1 (pv 1)) (sa_nil))) (sa_cons (si_int) (sa_cons (si_C (pe_glob (v := V.int 71) (by rfl) cg_MOST_TOP ⟨_, rfl⟩) (fun _ _ => .int _)) (sa_nil)))))))))))) (ss_one (s_never)) (ss_nil)) (ss_cons (s_if (sb_not (sb_tru (si_knD k_is_number 3 2 (hr.mono (by decide)) (by decide) (by decide) (fun dvs hd _ _ _ _ _ _ _ us its h1 h2 => match dvs, hd, us, its, h1, h2 with | [_, _], _, [_, _, _], [_, _], _, _ => ⟨_, rfl, rfl⟩) (sa_cons (si_var 2 (pv 2)) (sa_cons (si_int) (sa_cons (si_C (pe_glob (v := V.int 4) (by rfl) cg_MOST_SENT ⟨_, rfl⟩) (fun _ _ => .int _)) (sa_nil))))))) (ss_one (s_never)) (ss_nil)) (ss_cons (s_if (sb_w (sw_or (sb_not (sb_tru (si_knD k_is_tuple 1 0 (hr.mono (by decide)) (by decide) (by decide) (fun dvs hd _ _ _ _ _ _ _ us its h1 h2 => match dvs, hd, us, its, h1, h2 with | [_], _, [_], [_], _, _ => ⟨_, rfl, rfl⟩) (sa_cons (si_var 4 (pv 4)) (sa_nil))))) (sw_or1 (sb_not (sb_chain (c_le) (c_le) (si_int) (si_callB (cb_len) (by rfl) mg_len (by first | exact boot_len | decide +kernel) (sa_cons (si_var 4 (pv 4)) (sa_nil))) (si_C (pe_glob (v := V.int 4000) (by rfl) cg_MOST_LINES ⟨_, rfl⟩) (fun _ _ => .int _))))))) (ss_one (s_never)) (ss_nil)) (ss_cons (s_if (sb_w (sw_or (sb_not (sb_tru (si_knD k_is_tuple 1 0 (hr.mono (by decide)) (by decide) (by decide) (fun dvs hd _ _ _ _ _ _ _ us its h1 h2 => match dvs, hd, us, its, h1, h2 with | [_], _, [_], [_], _, _ => ⟨_, rfl, rfl⟩) (sa_cons (si_var 3 (pv 3)) (sa_nil))))) (sw_or1 (sb_not (sb_chain (c_le) (c_le) (si_int) (si_callB (cb_len) (by rfl) mg_len (by first | exact boot_len | decide +kernel) (sa_cons (si_var 3 (pv 3)) (sa_nil))) (si_C (pe_glob (v := V.int 3) (by rfl) cg_MOST_TAKEN ⟨_, rfl⟩) (fun _ _ => .int _))))))) (ss_one (s_never)) (ss_nil)) (ss_cons (s_if (sb_not (sb_tru (si_knD k_is_numbers 4 2 (hr.mono (by decide)) (by decide) (by decide) (fun dvs hd _ _ _ _ _ _ _ us its h1 h2 => match dvs, hd, us, its, h1, h2 with | [_, _], _, [_, _, _, _], [_, _], _, _ => ⟨_, rfl, rfl⟩) (sa_cons (si_var 3 (pv 3)) (sa_cons (si_callB (cb_len) (by rfl) mg_len (by first | exact boot_len | decide +kernel) (sa_cons (si_var 3 (pv 3)) (sa_nil))) (sa_cons (si_int) (sa_cons (si_sub (si_callB (cb_len) (by rfl) mg_len (by first | exact boot_len | decide +kernel) (sa_cons (si_var 4 (pv 4)) (sa_nil))) (si_int)) (sa_nil)))))))) (ss_one (s_never)) (ss_nil)) (ss_cons (s_for 16777215 PassesOwn.never rfl (w_enum (by rfl) mg_enumerate (sa_cons (si_var 4 (pv 4)) (sa_nil))) (sp_tp rfl (sps_cons (sp_nm 5 sc_check_code.nd) (sps_cons (sp_nm 6 sc_check_code.nd) (sps_nil)))) (ss_one (s_if (sb_not (sb_tru (si_kn k_is_line 5 (hr.mono (by decide)) (fun _ _ _ _ _ _ us hl => match us, hl with | [_, _, _, _, _], _ => rfl) (sa_cons (si_var 6 (pv 6)) (sa_cons (si_var 5 (pv 5)) (sa_cons (si_callB (cb_len) (by rfl) mg_len (by first | exact boot_len | decide +kernel) (sa_cons (si_var 4 (pv 4)) (sa_nil))) (sa_cons (si_var 1 (pv 1)) (sa_cons (si_var 2 (pv 2)) (sa_nil))))))))) (ss_one (s_never)) (ss_nil)))) (ss_one (s_ret (si_var 0 (pv 0)))))))))))
theorem K_check_code {ct : String → Addr} {P : Program} {w : World} {K : PySem.W.Frag} {mg : Str → Option Value} {base : Heap} (mg_enumerate : mg "enumerate" = none) (mg_len : mg "len" = none) {tk_MOST_LINES : Tok} (cg_MOST_LINES : mg "MOST_LINES" = some (Value.int 4000 tk_MOST_LINES)) {tk_MOST_SENT : Tok} (cg_MOST_SENT : mg "MOST_SENT" = some (Value.int 4 tk_MOST_SENT)) {tk_MOST_TAKEN : Tok} (cg_MOST_TAKEN : mg "MOST_TAKEN" = some (Value.int 3 tk_MOST_TAKEN)) {tk_MOST_TOP : Tok} (cg_MOST_TOP : mg "MOST_TOP" = some (Value.int 71 tk_MOST_TOP)) {tk_MOST_TOPS : Tok} (cg_MOST_TOPS : mg "MOST_TOPS" = some (Value.int 4 tk_MOST_TOPS)) {f_is_tuple : Addr} {fd_is_tuple : FuncData} (k_is_tuple : KnD ct P w K mg base "is_tuple" S_is_tuple P_is_tuple 1 G_is_tuple [.non] f_is_tuple fd_is_tuple) {f_is_numbers : Addr} {fd_is_numbers : FuncData} (k_is_numbers : KnD ct P w K mg base "is_numbers" S_is_numbers P_is_numbers 3 G_is_numbers [.int 0, .non] f_is_numbers fd_is_numbers) {f_is_number : Addr} {fd_is_number : FuncData} (k_is_number : KnD ct P w K mg base "is_number" S_is_number P_is_number 2 G_is_number [.int 0, .non] f_is_number fd_is_number) {f_is_line : Addr} {fd_is_line : FuncData} (k_is_line : Kn ct P w K mg base "is_line" S_is_line P_is_line 3 G_is_line f_is_line fd_is_line) {f : Addr} {fd : FuncData} (mm : mg "check_code" = some (.ref f)) (F : Fun K "check_code" "check_code" S_check_code f fd) : Kn ct P w K mg base "check_code" S_check_code P_check_code 4 G_check_code f fd := kn_of mm F sc_check_code rfl (D_check_code mg_enumerate mg_len cg_MOST_LINES cg_MOST_SENT cg_MOST_TAKEN cg_MOST_TOP cg_MOST_TOPS k_is_tuple k_is_numbers k_is_number k_is_line)
theorem D_send_lines {ct : String → Addr} {P : Program} {w : World} {K : PySem.W.Frag} {mg : Str → Option Value} {base : Heap} {tk_MOST_TIMES : Tok} (cg_MOST_TIMES : mg "MOST_TIMES" = some (Value.int 999 tk_MOST_TIMES)) : ∀ (f : Addr) (cdv : Value) (A : Around) (outer : List Env) (s : Shared) (H : Hp) (E : XK), Room 0 (A.deeper (envOfC "send_lines" (defScope S_send_lines) s.heap.objs.size f cdv)) → SSs ct (bodyX P w K mg base N_send_lines "send_lines" S_send_lines f cdv A outer s H E) noE (defBody S_send_lines) B_send_lines := fun f cdv A outer s H E hr =>
  ss_cons (s_set 2 sc_send_lines.nd (si_mod (si_var 1 (pv 1)) (si_C (pe_glob (v := V.int 999) (by rfl) cg_MOST_TIMES ⟨_, rfl⟩) (fun _ _ => .int _)))) (ss_one (s_ret (si_add (si_mul (si_rol (sf_lst (sa_cons (si_tup (sa_cons (si_str) (sa_cons (si_var 0 (pv 0)) (sa_cons (si_C (pe_glob (v := V.int 999) (by rfl) cg_MOST_TIMES ⟨_, rfl⟩) (fun _ _ => .int _)) (sa_nil))))) (sa_nil)))) (si_fdiv (si_var 1 (pv 1)) (si_C (pe_glob (v := V.int 999) (by rfl) cg_MOST_TIMES ⟨_, rfl⟩) (fun _ _ => .int _)))) (si_if (sb_c (c_gt) (si_var 2 (pv 2)) (si_int)) (si_rol (sf_lst (sa_cons (si_tup (sa_cons (si_str) (sa_cons (si_var 0 (pv 0)) (sa_cons (si_var 2 (pv 2)) (sa_nil))))) (sa_nil)))) (si_rol (sf_lst (sa_nil)))))))
theorem K_send_lines {ct : String → Addr} {P : Program} {w : World} {K : PySem.W.Frag} {mg : Str → Option Value} {base : Heap} {tk_MOST_TIMES : Tok} (cg_MOST_TIMES : mg "MOST_TIMES" = some (Value.int 999 tk_MOST_TIMES)) {f : Addr} {fd : FuncData} (mm : mg "send_lines" = some (.ref f)) (F : Fun K "send_lines" "send_lines" S_send_lines f fd) : Kn ct P w K mg base "send_lines" S_send_lines P_send_lines 1 G_send_lines f fd := kn_of mm F sc_send_lines rfl (D_send_lines cg_MOST_TIMES)
theorem D_placed {ct : String → Addr} {P : Program} {w : World} {K : PySem.W.Frag} {mg : Str → Option Value} {base : Heap} (mg_enumerate : mg "enumerate" = none) : ∀ (f : Addr) (cdv : Value) (A : Around) (outer : List Env) (s : Shared) (H : Hp) (E : XK), Room 0 (A.deeper (envOfC "placed" (defScope S_placed) s.heap.objs.size f cdv)) → SSs ct (bodyX P w K mg base N_placed "placed" S_placed f cdv A outer s H E) noE (defBody S_placed) B_placed := fun f cdv A outer s H E hr =>
  ss_cons (s_set 2 sc_placed.nd (si_cell (sf_lst (sa_nil)))) (ss_cons (s_for 16777215 PassesOwn.never rfl (w_enum (by rfl) mg_enumerate (sa_cons (si_var 0 (pv 0)) (sa_nil))) (sp_tp rfl (sps_cons (sp_nm 3 sc_placed.nd) (sps_cons (sp_nm 4 sc_placed.nd) (sps_nil)))) (ss_cons (s_set 5 sc_placed.nd (si_c (c_in) (si_ix (si_var 4 (pv 4)) (si_int)) (si_tup (sa_cons (si_str) (sa_cons (si_str) (sa_nil)))))) (ss_one (s_expr (si_append (si_var 2 (pv 2)) (sa_cons (si_if (sb_tru (si_var 5 (pv 5))) (si_add (si_sl (si_var 4 (pv 4)) (so_none) (so_some (si_neg (si_int)))) (si_tup (sa_cons (si_add (si_add (si_var 1 (pv 1)) (si_var 3 (pv 3))) (si_ix (si_var 4 (pv 4)) (si_neg (si_int)))) (sa_nil)))) (si_var 4 (pv 4))) (sa_nil))))))) (ss_one (s_ret (si_var 2 (pv 2)))))
theorem K_placed {ct : String → Addr} {P : Program} {w : World} {K : PySem.W.Frag} {mg : Str → Option Value} {base : Heap} (mg_enumerate : mg "enumerate" = none) {f : Addr} {fd : FuncData} (mm : mg "placed" = some (.ref f)) (F : Fun K "placed" "placed" S_placed f fd) : Kn ct P w K mg base "placed" S_placed P_placed 1 G_placed f fd := kn_of mm F sc_placed rfl (D_placed mg_enumerate)
theorem D_code_of_rules {ct : String → Addr} {P : Program} {w : World} {K : PySem.W.Frag} {mg : Str → Option Value} {base : Heap} (mg_len : mg "len" = none) (mg_list : mg "list" = none) (mg_tuple : mg "tuple" = none) {f_placed : Addr} {fd_placed : FuncData} (k_placed : Kn ct P w K mg base "placed" S_placed P_placed 1 G_placed f_placed fd_placed) : ∀ (f : Addr) (cdv : Value) (A : Around) (outer : List Env) (s : Shared) (H : Hp) (E : XK), Room 1 (A.deeper (envOfC "code_of_rules" (defScope S_code_of_rules) s.heap.objs.size f cdv)) → SSs ct (bodyX P w K mg base N_code_of_rules "code_of_rules" S_code_of_rules f cdv A outer s H E) noE (defBody S_code_of_rules) B_code_of_rules := fun f cdv A outer s H E hr =>
  ss_cons (s_par2 3 4 rfl sc_code_of_rules.nd (sa_cons (si_cell (sf_lst (sa_nil))) (sa_cons (si_cell (sf_lst (sa_nil))) (sa_nil)))) (ss_cons (s_for 16777215 PassesOwn.never rfl (w_walk (si_var 2 (pv 2))) (sp_nm 5 sc_code_of_rules.nd) (ss_cons (s_expr (si_append (si_var 3 (pv 3)) (sa_cons (si_callB (cb_len) (by rfl) mg_len (by first | exact boot_len | decide +kernel) (sa_cons (si_var 4 (pv 4)) (sa_nil))) (sa_nil)))) (ss_one (s_expr (si_extend (si_var 4 (pv 4)) (sa_cons (si_kn k_placed 2 (hr.mono (by decide)) (fun _ _ _ _ _ _ us hl => match us, hl with | [_, _], _ => rfl) (sa_cons (si_add (si_rol (sf_list (by rfl) mg_list (sa_cons (si_var 5 (pv 5)) (sa_nil)))) (si_rol (sf_lst (sa_cons (si_tup (sa_cons (si_str) (sa_nil))) (sa_nil))))) (sa_cons (si_callB (cb_len) (by rfl) mg_len (by first | exact boot_len | decide +kernel) (sa_cons (si_var 4 (pv 4)) (sa_nil))) (sa_nil)))) (sa_nil))))))) (ss_one (s_ret (si_tup (sa_cons (si_callTy (cb_tuple) (by rfl) mg_tuple (by first | exact boot_tuple | decide +kernel) (sa_cons (si_var 0 (pv 0)) (sa_nil))) (sa_cons (si_var 1 (pv 1)) (sa_cons (si_callTy (cb_tuple) (by rfl) mg_tuple (by first | exact boot_tuple | decide +kernel) (sa_cons (si_var 3 (pv 3)) (sa_nil))) (sa_cons (si_callTy (cb_tuple) (by rfl) mg_tuple (by first | exact boot_tuple | decide +kernel) (sa_cons (si_var 4 (pv 4)) (sa_nil))) (sa_nil)))))))))
theorem K_code_of_rules {ct : String → Addr} {P : Program} {w : World} {K : PySem.W.Frag} {mg : Str → Option Value} {base : Heap} (mg_len : mg "len" = none) (mg_list : mg "list" = none) (mg_tuple : mg "tuple" = none) {f_placed : Addr} {fd_placed : FuncData} (k_placed : Kn ct P w K mg base "placed" S_placed P_placed 1 G_placed f_placed fd_placed) {f : Addr} {fd : FuncData} (mm : mg "code_of_rules" = some (.ref f)) (F : Fun K "code_of_rules" "code_of_rules" S_code_of_rules f fd) : Kn ct P w K mg base "code_of_rules" S_code_of_rules P_code_of_rules 2 G_code_of_rules f fd := kn_of mm F sc_code_of_rules rfl (D_code_of_rules mg_len mg_list mg_tuple k_placed)
theorem D_standing_lines {ct : String → Addr} {P : Program} {w : World} {K : PySem.W.Frag} {mg : Str → Option Value} {base : Heap} (mg_enumerate : mg "enumerate" = none) {f_send_lines : Addr} {fd_send_lines : FuncData} (k_send_lines : Kn ct P w K mg base "send_lines" S_send_lines P_send_lines 1 G_send_lines f_send_lines fd_send_lines) : ∀ (f : Addr) (cdv : Value) (A : Around) (outer : List Env) (s : Shared) (H : Hp) (E : XK), Room 1 (A.deeper (envOfC "standing_lines" (defScope S_standing_lines) s.heap.objs.size f cdv)) → SSs ct (bodyX P w K mg base N_standing_lines "standing_lines" S_standing_lines f cdv A outer s H E) noE (defBody S_standing_lines) B_standing_lines := fun f cdv A outer s H E hr =>
  ss_cons (s_set 4 sc_standing_lines.nd (si_if (sb_c (c_eq hr.units) (si_var 2 (pv 2)) (si_var 1 (pv 1))) (si_cell (sf_lst (sa_nil))) (si_cell (sf_lst (sa_cons (si_tup (sa_cons (si_str) (sa_cons (si_int) (sa_cons (si_mod (si_sub (si_var 2 (pv 2)) (si_var 1 (pv 1))) (si_var 0 (pv 0))) (sa_nil))))) (sa_nil)))))) (ss_cons (s_for 16777215 PassesOwn.never rfl (w_enum (by rfl) mg_enumerate (sa_cons (si_var 3 (pv 3)) (sa_nil))) (sp_tp rfl (sps_cons (sp_nm 5 sc_standing_lines.nd) (sps_cons (sp_nm 6 sc_standing_lines.nd) (sps_nil)))) (ss_one (s_expr (si_extend (si_var 4 (pv 4)) (sa_cons (si_kn k_send_lines 2 (hr.mono (by decide)) (fun _ _ _ _ _ _ us hl => match us, hl with | [_, _], _ => rfl) (sa_cons (si_var 5 (pv 5)) (sa_cons (si_var 6 (pv 6)) (sa_nil)))) (sa_nil)))))) (ss_one (s_ret (si_var 4 (pv 4)))))
theorem K_standing_lines {ct : String → Addr} {P : Program} {w : World} {K : PySem.W.Frag} {mg : Str → Option Value} {base : Heap} (mg_enumerate : mg "enumerate" = none) {f_send_lines : Addr} {fd_send_lines : FuncData} (k_send_lines : Kn ct P w K mg base "send_lines" S_send_lines P_send_lines 1 G_send_lines f_send_lines fd_send_lines) {f : Addr} {fd : FuncData} (mm : mg "standing_lines" = some (.ref f)) (F : Fun K "standing_lines" "standing_lines" S_standing_lines f fd) : Kn ct P w K mg base "standing_lines" S_standing_lines P_standing_lines 2 G_standing_lines f fd := kn_of mm F sc_standing_lines rfl (D_standing_lines mg_enumerate k_send_lines)
theorem D_code_of_machine {ct : String → Addr} {P : Program} {w : World} {K : PySem.W.Frag} {mg : Str → Option Value} {base : Heap} (mg_len : mg "len" = none) (mg_list : mg "list" = none) (mg_range : mg "range" = none) {f_standing_lines : Addr} {fd_standing_lines : FuncData} (k_standing_lines : Kn ct P w K mg base "standing_lines" S_standing_lines P_standing_lines 2 G_standing_lines f_standing_lines fd_standing_lines) {f_code_of_rules : Addr} {fd_code_of_rules : FuncData} (k_code_of_rules : Kn ct P w K mg base "code_of_rules" S_code_of_rules P_code_of_rules 2 G_code_of_rules f_code_of_rules fd_code_of_rules) : ∀ (f : Addr) (cdv : Value) (A : Around) (outer : List Env) (s : Shared) (H : Hp) (E : XK), Room 2 (A.deeper (envOfC "code_of_machine" (defScope S_code_of_machine) s.heap.objs.size f cdv)) → SSs ct (bodyX P w K mg base N_code_of_machine "code_of_machine" S_code_of_machine f cdv A outer s H E) noE (defBody S_code_of_machine) B_code_of_machine := fun f cdv A outer s H E hr =>
  ss_cons (s_par2 1 2 rfl sc_code_of_machine.nd (sa_cons (si_callB (cb_len) (by rfl) mg_len (by first | exact boot_len | decide +kernel) (sa_cons (si_var 0 (pv 0)) (sa_nil))) (sa_cons (si_cell (sf_lst (sa_nil))) (sa_nil)))) (ss_cons (s_for 16777215 PassesOwn.never rfl (w_range1 (by rfl) mg_range (sa_cons (si_callB (cb_len) (by rfl) mg_len (by first | exact boot_len | decide +kernel) (sa_cons (si_ix (si_var 0 (pv 0)) (si_int)) (sa_nil))) (sa_nil))) (sp_nm 3 sc_code_of_machine.nd) (ss_cons (s_set 4 sc_code_of_machine.nd (si_rol (sf_lst (sa_nil)))) (ss_cons (s_for 16777215 PassesOwn.never rfl (w_walk (si_rev (si_rol (sf_listRange rfl (by rfl) mg_list (by rfl) mg_range (si_var 1 (pv 1)))))) (sp_nm 5 sc_code_of_machine.nd) (ss_cons (s_set 6 sc_code_of_machine.nd (si_kn k_standing_lines 4 (hr.mono (by decide)) (fun _ _ _ _ _ _ us hl => match us, hl with | [_, _, _, _], _ => rfl) (sa_cons (si_var 1 (pv 1)) (sa_cons (si_var 5 (pv 5)) (sa_cons (si_ix (si_ix (si_ix (si_var 0 (pv 0)) (si_var 5 (pv 5))) (si_var 3 (pv 3))) (si_int)) (sa_cons (si_ix (si_ix (si_ix (si_var 0 (pv 0)) (si_var 5 (pv 5))) (si_var 3 (pv 3))) (si_int)) (sa_nil))))))) (ss_one (s_if (sb_c (c_eq hr.units) (si_var 5 (pv 5)) (si_sub (si_var 1 (pv 1)) (si_int))) (ss_one (s_set 4 sc_code_of_machine.nd (si_var 6 (pv 6)))) (ss_cons (s_set 7 sc_code_of_machine.nd (si_if (sb_c (c_gt) (si_callB (cb_len) (by rfl) mg_len (by first | exact boot_len | decide +kernel) (sa_cons (si_var 4 (pv 4)) (sa_nil))) (si_int)) (si_rol (sf_lst (sa_cons (si_tup (sa_cons (si_str) (sa_cons (si_add (si_callB (cb_len) (by rfl) mg_len (by first | exact boot_len | decide +kernel) (sa_cons (si_var 4 (pv 4)) (sa_nil))) (si_int)) (sa_nil)))) (sa_nil)))) (si_rol (sf_lst (sa_nil))))) (ss_one (s_set 4 sc_code_of_machine.nd (si_add (si_add (si_add (si_rol (sf_lst (sa_cons (si_tup (sa_cons (si_str) (sa_cons (si_int) (sa_cons (si_add (si_var 5 (pv 5)) (si_int)) (sa_cons (si_add (si_add (si_callB (cb_len) (by rfl) mg_len (by first | exact boot_len | decide +kernel) (sa_cons (si_var 6 (pv 6)) (sa_nil))) (si_callB (cb_len) (by rfl) mg_len (by first | exact boot_len | decide +kernel) (sa_cons (si_var 7 (pv 7)) (sa_nil)))) (si_int)) (sa_nil)))))) (sa_nil)))) (si_var 6 (pv 6))) (si_var 7 (pv 7))) (si_var 4 (pv 4)))))))))) (ss_one (s_expr (si_append (si_var 2 (pv 2)) (sa_cons (si_var 4 (pv 4)) (sa_nil)))))))) (ss_one (s_ret (si_kn k_code_of_rules 3 (hr.mono (by decide)) (fun _ _ _ _ _ _ us hl => match us, hl with | [_, _, _], _ => rfl) (sa_cons (si_if (sb_c (c_gt) (si_var 1 (pv 1)) (si_int)) (si_tup (sa_cons (si_sub (si_var 1 (pv 1)) (si_int)) (sa_nil))) (si_tup (sa_nil))) (sa_cons (si_callB (cb_len) (by rfl) mg_len (by first | exact boot_len | decide +kernel) (sa_cons (si_ix (si_ix (si_ix (si_var 0 (pv 0)) (si_int)) (si_int)) (si_int)) (sa_nil))) (sa_cons (si_var 2 (pv 2)) (sa_nil))))))))
theorem K_code_of_machine {ct : String → Addr} {P : Program} {w : World} {K : PySem.W.Frag} {mg : Str → Option Value} {base : Heap} (mg_len : mg "len" = none) (mg_list : mg "list" = none) (mg_range : mg "range" = none) {f_standing_lines : Addr} {fd_standing_lines : FuncData} (k_standing_lines : Kn ct P w K mg base "standing_lines" S_standing_lines P_standing_lines 2 G_standing_lines f_standing_lines fd_standing_lines) {f_code_of_rules : Addr} {fd_code_of_rules : FuncData} (k_code_of_rules : Kn ct P w K mg base "code_of_rules" S_code_of_rules P_code_of_rules 2 G_code_of_rules f_code_of_rules fd_code_of_rules) {f : Addr} {fd : FuncData} (mm : mg "code_of_machine" = some (.ref f)) (F : Fun K "code_of_machine" "code_of_machine" S_code_of_machine f fd) : Kn ct P w K mg base "code_of_machine" S_code_of_machine P_code_of_machine 3 G_code_of_machine f fd := kn_of mm F sc_code_of_machine rfl (D_code_of_machine mg_len mg_list mg_range k_standing_lines k_code_of_rules)
theorem D_law_box {ct : String → Addr} {P : Program} {w : World} {K : PySem.W.Frag} {mg : Str → Option Value} {base : Heap} (mg_abs : mg "abs" = none) (mg_int : mg "int" = none) (mg_len : mg "len" = none) : ∀ (f : Addr) (cdv : Value) (A : Around) (outer : List Env) (s : Shared) (H : Hp) (E : XK), Room 0 (A.deeper (envOfC "_law_box" (defScope S_law_box) s.heap.objs.size f cdv)) → SSs ct (bodyX P w K mg base N_law_box "_law_box" S_law_box f cdv A outer s H E) noE (defBody S_law_box) B_law_box := fun f cdv A outer s H E hr =>
  ss_cons (s_set 2 sc_law_box.nd (si_add (si_mul (si_int) (si_var 1 (pv 1))) (si_int))) (ss_cons (s_if (sb_c (c_lt) (si_var 1 (pv 1)) (si_callB (cb_len) (by rfl) mg_len (by first | exact boot_len | decide +kernel) (sa_cons (si_var 0 (pv 0)) (sa_nil)))) (ss_one (s_set 2 sc_law_box.nd (si_callB (cb_abs) (by rfl) mg_abs (by first | exact boot_abs | decide +kernel) (sa_cons (si_callTy (cb_int) (by rfl) mg_int (by first | exact boot_int | decide +kernel) (sa_cons (si_ix (si_var 0 (pv 0)) (si_var 1 (pv 1))) (sa_nil))) (sa_nil))))) (ss_one (s_if (sb_c (c_gt) (si_callB (cb_len) (by rfl) mg_len (by first | exact boot_len | decide +kernel) (sa_cons (si_var 0 (pv 0)) (sa_nil))) (si_int)) (ss_one (s_set 2 sc_law_box.nd (si_add (si_var 2 (pv 2)) (si_mul (si_mod (si_callTy (cb_int) (by rfl) mg_int (by first | exact boot_int | decide +kernel) (sa_cons (si_callB (cb_abs) (by rfl) mg_abs (by first | exact boot_abs | decide +kernel) (sa_cons (si_callTy (cb_int) (by rfl) mg_int (by first | exact boot_int | decide +kernel) (sa_cons (si_ix (si_var 0 (pv 0)) (si_mod (si_callTy (cb_int) (by rfl) mg_int (by first | exact boot_int | decide +kernel) (sa_cons (si_var 1 (pv 1)) (sa_nil))) (si_callB (cb_len) (by rfl) mg_len (by first | exact boot_len | decide +kernel) (sa_cons (si_var 0 (pv 0)) (sa_nil))))) (sa_nil))) (sa_nil))) (sa_nil))) (si_int)) (si_int))))) (ss_nil)))) (ss_cons (s_set 3 sc_law_box.nd (si_if (sb_c (c_ge) (si_var 2 (pv 2)) (si_pow (si_int) (si_int))) (si_var 2 (pv 2)) (si_int))) (ss_one (s_ret (si_cell (sf_lst (sa_cons (si_var 3 (pv 3)) (sa_cons (si_add (si_mod (si_callTy (cb_int) (by rfl) mg_int (by first | exact boot_int | decide +kernel) (sa_cons (si_add (si_mul (si_mod (si_callTy (cb_int) (by rfl) mg_int (by first | exact boot_int | decide +kernel) (sa_cons (si_var 2 (pv 2)) (sa_nil))) (si_int)) (si_int)) (si_mul (si_int) (si_var 1 (pv 1)))) (sa_nil))) (si_int)) (si_int)) (sa_nil)))))))))
theorem K_law_box {ct : String → Addr} {P : Program} {w : World} {K : PySem.W.Frag} {mg : Str → Option Value} {base : Heap} (mg_abs : mg "abs" = none) (mg_int : mg "int" = none) (mg_len : mg "len" = none) {f : Addr} {fd : FuncData} (mm : mg "_law_box" = some (.ref f)) (F : Fun K "_law_box" "_law_box" S_law_box f fd) : Kn ct P w K mg base "_law_box" S_law_box P_law_box 1 G_law_box f fd := kn_of mm F sc_law_box rfl (D_law_box mg_abs mg_int mg_len)
theorem D_law_take {ct : String → Addr} {P : Program} {w : World} {K : PySem.W.Frag} {mg : Str → Option Value} {base : Heap} (mg_int : mg "int" = none) : ∀ (f : Addr) (cdv : Value) (A : Around) (outer : List Env) (s : Shared) (H : Hp) (E : XK), Room 0 (A.deeper (envOfC "_law_take" (defScope S_law_take) s.heap.objs.size f cdv)) → SSs ct (bodyX P w K mg base N_law_take "_law_take" S_law_take f cdv A outer s H E) noE (defBody S_law_take) B_law_take := fun f cdv A outer s H E hr =>
  ss_cons (s_if (sb_c (c_gt) (si_ix (si_var 0 (pv 0)) (si_int)) (si_int)) (ss_cons (s_set 2 sc_law_take.nd (si_mod (si_callTy (cb_int) (by rfl) mg_int (by first | exact boot_int | decide +kernel) (sa_cons (si_ix (si_var 0 (pv 0)) (si_int)) (sa_nil))) (si_var 1 (pv 1)))) (ss_cons (s_setIx (si_var 0 (pv 0)) (si_int) (si_fdiv (si_ix (si_var 0 (pv 0)) (si_int)) (si_var 1 (pv 1)))) (ss_one (s_ret (si_var 2 (pv 2)))))) (ss_nil)) (ss_cons (s_set 3 sc_law_take.nd (si_mod (si_callTy (cb_int) (by rfl) mg_int (by first | exact boot_int | decide +kernel) (sa_cons (si_add (si_mul (si_ix (si_var 0 (pv 0)) (si_int)) (si_int)) (si_int)) (sa_nil))) (si_int))) (ss_cons (s_setIx (si_var 0 (pv 0)) (si_int) (si_add (si_mod (si_callTy (cb_int) (by rfl) mg_int (by first | exact boot_int | decide +kernel) (sa_cons (si_add (si_mul (si_var 3 (pv 3)) (si_int)) (si_int)) (sa_nil))) (si_int)) (si_int))) (ss_one (s_ret (si_mod (si_callTy (cb_int) (by rfl) mg_int (by first | exact boot_int | decide +kernel) (sa_cons (si_fdiv (si_add (si_mul (si_var 3 (pv 3)) (si_int)) (si_ix (si_var 0 (pv 0)) (si_int))) (si_int)) (sa_nil))) (si_var 1 (pv 1)))))))
theorem K_law_take {ct : String → Addr} {P : Program} {w : World} {K : PySem.W.Frag} {mg : Str → Option Value} {base : Heap} (mg_int : mg "int" = none) {f : Addr} {fd : FuncData} (mm : mg "_law_take" = some (.ref f)) (F : Fun K "_law_take" "_law_take" S_law_take f fd) : Kn ct P w K mg base "_law_take" S_law_take P_law_take 1 G_law_take f fd := kn_of mm F sc_law_take rfl (D_law_take mg_int)
theorem D_law_pick {ct : String → Addr} {P : Program} {w : World} {K : PySem.W.Frag} {mg : Str → Option Value} {base : Heap} (mg_len : mg "len" = none) {f_law_take : Addr} {fd_law_take : FuncData} (k_law_take : Kn ct P w K mg base "_law_take" S_law_take P_law_take 1 G_law_take f_law_take fd_law_take) : ∀ (f : Addr) (cdv : Value) (A : Around) (outer : List Env) (s : Shared) (H : Hp) (E : XK), Room 1 (A.deeper (envOfC "_law_pick" (defScope S_law_pick) s.heap.objs.size f cdv)) → SSs ct (bodyX P w K mg base N_law_pick "_law_pick" S_law_pick f cdv A outer s H E) noE (defBody S_law_pick) B_law_pick := fun f cdv A outer s H E hr =>
  ss_one (s_ret (si_ix (si_var 1 (pv 1)) (si_kn k_law_take 2 (hr.mono (by decide)) (fun _ _ _ _ _ _ us hl => match us, hl with | [_, _], _ => rfl) (sa_cons (si_var 0 (pv 0)) (sa_cons (si_callB (cb_len) (by rfl) mg_len (by first | exact boot_len | decide +kernel) (sa_cons (si_var 1 (pv 1)) (sa_nil))) (sa_nil))))))
theorem K_law_pick {ct : String → Addr} {P : Program} {w : World} {K : PySem.W.Frag} {mg : Str → Option Value} {base : Heap} (mg_len : mg "len" = none) {f_law_take : Addr} {fd_law_take : FuncData} (k_law_take : Kn ct P w K mg base "_law_take" S_law_take P_law_take 1 G_law_take f_law_take fd_law_take) {f : Addr} {fd : FuncData} (mm : mg "_law_pick" = some (.ref f)) (F : Fun K "_law_pick" "_law_pick" S_law_pick f fd) : Kn ct P w K mg base "_law_pick" S_law_pick P_law_pick 2 G_law_pick f fd := kn_of mm F sc_law_pick rfl (D_law_pick mg_len k_law_take)
theorem D_law_same {ct : String → Addr} {P : Program} {w : World} {K : PySem.W.Frag} {mg : Str → Option Value} {base : Heap} (mg_bool : mg "bool" = none) (mg_int : mg "int" = none) (mg_isinstance : mg "isinstance" = none) (mg_len : mg "len" = none) (mg_str : mg "str" = none) (mg_tuple : mg "tuple" = none) (mg_zip : mg "zip" = none) {G_law_same : List D → Sto → Rs D} {lv : Nat} (hlv : 0 ≤ lv) {f_law_same : Addr} {fd_law_same : FuncData} (k_law_same : Kn ct P w K mg base "_law_same" S_law_same P_law_same lv G_law_same f_law_same fd_law_same) : ∀ (f : Addr) (cdv : Value) (A : Around) (outer : List Env) (s : Shared) (H : Hp) (E : XK), Room lv (A.deeper (envOfC "_law_same" (defScope S_law_same) s.heap.objs.size f cdv)) → SSs ct (bodyX P w K mg base N_law_same "_law_same" S_law_same f cdv A outer s H E) noE (defBody S_law_same) (B_law_same G_law_same) := fun f cdv A outer s H E hr =>
  ss_cons (s_if (sb_tru (si_isi "tuple" (by rfl) mg_isinstance (by decide) (si_var 1 (pv 1)) (pe_bltn (by rfl) mg_tuple (by first | exact boot_tuple | decide +kernel) rfl))) (ss_cons (s_if (sb_w (sw_or (sb_not (sb_tru (si_isi "tuple" (by rfl) mg_isinstance (by decide) (si_var 0 (pv 0)) (pe_bltn (by rfl) mg_tuple (by first | exact boot_tuple | decide +kernel) rfl)))) (sw_or1 (sb_c (c_ne hr.units) (si_callB (cb_len) (by rfl) mg_len (by first | exact boot_len | decide +kernel) (sa_cons (si_var 0 (pv 0)) (sa_nil))) (si_callB (cb_len) (by rfl) mg_len (by first | exact boot_len | decide +kernel) (sa_cons (si_var 1 (pv 1)) (sa_nil))))))) (ss_one (s_ret (si_bl))) (ss_nil)) (ss_cons (s_for 16777215 PassesOwn.never rfl (w_zip (by rfl) mg_zip (sa_cons (si_var 0 (pv 0)) (sa_cons (si_var 1 (pv 1)) (sa_nil)))) (sp_tp rfl (sps_cons (sp_nm 2 sc_law_same.nd) (sps_cons (sp_nm 3 sc_law_same.nd) (sps_nil)))) (ss_one (s_if (sb_not (sb_tru (si_kn k_law_same 2 hr (fun _ _ _ _ _ _ us hl => match us, hl with | [_, _], _ => rfl) (sa_cons (si_var 2 (pv 2)) (sa_cons (si_var 3 (pv 3)) (sa_nil)))))) (ss_one (s_ret (si_bl))) (ss_nil)))) (ss_one (s_ret (si_bl))))) (ss_nil)) (ss_cons (s_if (sb_c (c_isB) (si_var 1 (pv 1)) (si_non)) (ss_one (s_ret (si_c (c_isB) (si_var 0 (pv 0)) (si_non)))) (ss_nil)) (ss_cons (s_if (sb_w (sw_or (sb_c (c_isB) (si_var 1 (pv 1)) (si_bl)) (sw_or1 (sb_c (c_isB) (si_var 1 (pv 1)) (si_bl))))) (ss_one (s_ret (si_andV (si_isi "bool" (by rfl) mg_isinstance (by decide) (si_var 0 (pv 0)) (pe_bltn (by rfl) mg_bool (by first | exact boot_bool | decide +kernel) rfl)) (si_one (si_c (c_eq hr.units) (si_var 0 (pv 0)) (si_var 1 (pv 1))))))) (ss_nil)) (ss_cons (s_if (sb_tru (si_isi "int" (by rfl) mg_isinstance (by decide) (si_var 1 (pv 1)) (pe_bltn (by rfl) mg_int (by first | exact boot_int | decide +kernel) rfl))) (ss_one (s_ret (si_andV (si_isi "int" (by rfl) mg_isinstance (by decide) (si_var 0 (pv 0)) (pe_bltn (by rfl) mg_int (by first | exact boot_int | decide +kernel) rfl)) (si_andV (si_notV (si_isi "bool" (by rfl) mg_isinstance (by decide) (si_var 0 (pv 0)) (pe_bltn (by rfl) mg_bool (by first | exact boot_bool | decide +kernel) rfl))) (si_one (si_c (c_eq hr.units) (si_var 0 (pv 0)) (si_var 1 (pv 1)))))))) (ss_nil)) (ss_one (s_ret (si_andV (si_isi "str" (by rfl) mg_isinstance (by decide) (si_var 0 (pv 0)) (pe_bltn (by rfl) mg_str (by first | exact boot_str | decide +kernel) rfl)) (si_andV (si_isi "str" (by rfl) mg_isinstance (by decide) (si_var 1 (pv 1)) (pe_bltn (by rfl) mg_str (by first | exact boot_str | decide +kernel) rfl)) (si_one (si_c (c_eq hr.units) (si_var 0 (pv 0)) (si_var 1 (pv 1)))))))))))
theorem KR_law_same {ct : String → Addr} {P : Program} {w : World} {K : PySem.W.Frag} {mg : Str → Option Value} {base : Heap} (mg_bool : mg "bool" = none) (mg_int : mg "int" = none) (mg_isinstance : mg "isinstance" = none) (mg_len : mg "len" = none) (mg_str : mg "str" = none) (mg_tuple : mg "tuple" = none) (mg_zip : mg "zip" = none) {f : Addr} {fd : FuncData} (mm : mg "_law_same" = some (.ref f)) (F : Fun K "_law_same" "_law_same" S_law_same f fd) : ∀ n : Nat, Kn ct P w K mg base "_law_same" S_law_same P_law_same (n + 0) (Gr_law_same n) f fd
  | 0 => kn_bad mm F sc_law_same
  | n + 1 => (kn_of mm F sc_law_same rfl (D_law_same mg_bool mg_int mg_isinstance mg_len mg_str mg_tuple mg_zip (Nat.le_add_left _ n) (KR_law_same mg_bool mg_int mg_isinstance mg_len mg_str mg_tuple mg_zip mm F n))).up (by omega)
theorem K_law_same {ct : String → Addr} {P : Program} {w : World} {K : PySem.W.Frag} {mg : Str → Option Value} {base : Heap} (mg_bool : mg "bool" = none) (mg_int : mg "int" = none) (mg_isinstance : mg "isinstance" = none) (mg_len : mg "len" = none) (mg_str : mg "str" = none) (mg_tuple : mg "tuple" = none) (mg_zip : mg "zip" = none) {f : Addr} {fd : FuncData} (mm : mg "_law_same" = some (.ref f)) (F : Fun K "_law_same" "_law_same" S_law_same f fd) : Kn ct P w K mg base "_law_same" S_law_same P_law_same 8 G_law_same f fd := KR_law_same mg_bool mg_int mg_isinstance mg_len mg_str mg_tuple mg_zip mm F 8
theorem D_law_code_run {ct : String → Addr} {P : Program} {w : World} {K : PySem.W.Frag} {mg : Str → Option Value} {base : Heap} (mg_int : mg "int" = none) (mg_len : mg "len" = none) (mg_list : mg "list" = none) (mg_range : mg "range" = none) (mg_tuple : mg "tuple" = none) : ∀ (f : Addr) (cdv : Value) (A : Around) (outer : List Env) (s : Shared) (H : Hp) (E : XK), Room 0 (A.deeper (envOfC "_law_code_run" (defScope S_law_code_run) s.heap.objs.size f cdv)) → SSs ct (bodyX P w K mg base N_law_code_run "_law_code_run" S_law_code_run f cdv A outer s H E) noE (defBody S_law_code_run) B_law_code_run := fun f cdv A outer s H E hr =>
  ss_cons (s_asg (si_tup (sa_cons (si_cell (sf_list (by rfl) mg_list (sa_cons (si_var 1 (pv 1)) (sa_nil)))) (sa_cons (si_cell (sf_mul (si_rol (sf_lst (sa_cons (si_int) (sa_nil)))) (si_ix (si_var 0 (pv 0)) (si_int)))) (sa_cons (si_ix (si_ix (si_var 0 (pv 0)) (si_int)) (si_var 2 (pv 2))) (sa_cons (si_int) (sa_nil)))))) (sp_tp rfl (sps_cons (sp_nm 3 sc_law_code_run.nd) (sps_cons (sp_nm 4 sc_law_code_run.nd) (sps_cons (sp_nm 5 sc_law_code_run.nd) (sps_cons (sp_nm 6 sc_law_code_run.nd) (sps_nil))))))) (ss_cons (s_for 16777215 PassesOwn.never rfl (w_range1 (by rfl) mg_range (sa_cons (si_add (si_callB (cb_len) (by rfl) mg_len (by first | exact boot_len | decide +kernel) (sa_cons (si_ix (si_var 0 (pv 0)) (si_int)) (sa_nil))) (si_int)) (sa_nil))) (sp_nm 7 sc_law_code_run.nd) (ss_cons (s_par2 8 6 rfl sc_law_code_run.nd (sa_cons (si_ix (si_ix (si_var 0 (pv 0)) (si_int)) (si_var 5 (pv 5))) (sa_cons (si_add (si_var 6 (pv 6)) (si_int)) (sa_nil)))) (ss_cons (s_set 5 sc_law_code_run.nd (si_add (si_var 5 (pv 5)) (si_int))) (ss_cons (s_if (sb_c (c_eq hr.units) (si_ix (si_var 8 (pv 8)) (si_int)) (si_str)) (ss_one (s_ret (si_tup (sa_cons (si_callTy (cb_tuple) (by rfl) mg_tuple (by first | exact boot_tuple | decide +kernel) (sa_cons (si_var 3 (pv 3)) (sa_nil))) (sa_cons (si_callTy (cb_tuple) (by rfl) mg_tuple (by first | exact boot_tuple | decide +kernel) (sa_cons (si_var 4 (pv 4)) (sa_nil))) (sa_cons (si_var 6 (pv 6)) (sa_nil))))))) (ss_nil)) (ss_one (s_if (sb_c (c_eq hr.units) (si_ix (si_var 8 (pv 8)) (si_int)) (si_str)) (ss_one (s_setIx (si_var 3 (pv 3)) (si_ix (si_var 8 (pv 8)) (si_int)) (si_mod (si_callTy (cb_int) (by rfl) mg_int (by first | exact boot_int | decide +kernel) (sa_cons (si_add (si_ix (si_var 3 (pv 3)) (si_ix (si_var 8 (pv 8)) (si_int))) (si_ix (si_var 8 (pv 8)) (si_int))) (sa_nil))) (si_add (si_ix (si_ix (si_var 0 (pv 0)) (si_int)) (si_ix (si_var 8 (pv 8)) (si_int))) (si_int))))) (ss_one (s_if (sb_c (c_eq hr.units) (si_ix (si_var 8 (pv 8)) (si_int)) (si_str)) (ss_one (s_setIx (si_var 3 (pv 3)) (si_ix (si_var 8 (pv 8)) (si_int)) (si_int))) (ss_one (s_if (sb_c (c_eq hr.units) (si_ix (si_var 8 (pv 8)) (si_int)) (si_str)) (ss_one (s_setIx (si_var 4 (pv 4)) (si_ix (si_var 8 (pv 8)) (si_int)) (si_add (si_ix (si_var 4 (pv 4)) (si_ix (si_var 8 (pv 8)) (si_int))) (si_ix (si_var 8 (pv 8)) (si_int))))) (ss_one (s_if (sb_w (sw_or (sb_c (c_eq hr.units) (si_ix (si_var 8 (pv 8)) (si_int)) (si_str)) (sw_or1 (sb_not (sb_c (c_lt) (si_ix (si_var 3 (pv 3)) (si_ix (si_var 8 (pv 8)) (si_int))) (si_ix (si_var 8 (pv 8)) (si_int))))))) (ss_one (s_set 5 sc_law_code_run.nd (si_ix (si_var 8 (pv 8)) (si_sub (si_callB (cb_len) (by rfl) mg_len (by first | exact boot_len | decide +kernel) (sa_cons (si_var 8 (pv 8)) (sa_nil))) (si_int))))) (ss_nil))))))))))))) (ss_one (s_ret (si_non))))
theorem K_law_code_run {ct : String → Addr} {P : Program} {w : World} {K : PySem.W.Frag} {mg : Str → Option Value} {base : Heap} (mg_int : mg "int" = none) (mg_len : mg "len" = none) (mg_list : mg "list" = none) (mg_range : mg "range" = none) (mg_tuple : mg "tuple" = none) {f : Addr} {fd : FuncData} (mm : mg "_law_code_run" = some (.ref f)) (F : Fun K "_law_code_run" "_law_code_run" S_law_code_run f fd) : Kn ct P w K mg base "_law_code_run" S_law_code_run P_law_code_run 1 G_law_code_run f fd := kn_of mm F sc_law_code_run rfl (D_law_code_run mg_int mg_len mg_list mg_range mg_tuple)
theorem D_law_code_rows {ct : String → Addr} {P : Program} {w : World} {K : PySem.W.Frag} {mg : Str → Option Value} {base : Heap} (mg_len : mg "len" = none) (mg_range : mg "range" = none) {f_law_code_run : Addr} {fd_law_code_run : FuncData} (k_law_code_run : Kn ct P w K mg base "_law_code_run" S_law_code_run P_law_code_run 1 G_law_code_run f_law_code_run fd_law_code_run) : ∀ (f : Addr) (cdv : Value) (A : Around) (outer : List Env) (s : Shared) (H : Hp) (E : XK), Room 1 (A.deeper (envOfC "_law_code_rows" (defScope S_law_code_rows) s.heap.objs.size f cdv)) → SSs ct (bodyX P w K mg base N_law_code_rows "_law_code_rows" S_law_code_rows f cdv A outer s H E) noE (defBody S_law_code_rows) B_law_code_rows := fun f cdv A outer s H E hr =>
  ss_cons (s_par3 1 2 3 rfl sc_law_code_rows.nd (sa_cons (si_cell (sf_lst (sa_cons (si_mulA (si_tup (sa_cons (si_int) (sa_nil))) (si_callB (cb_len) (by rfl) mg_len (by first | exact boot_len | decide +kernel) (sa_cons (si_ix (si_var 0 (pv 0)) (si_int)) (sa_nil)))) (sa_nil)))) (sa_cons (si_cell (sf_lst (sa_nil))) (sa_cons (si_int) (sa_nil))))) (ss_cons (s_set 4 sc_law_code_rows.nd (si_dispT hr.u1 (sps_consD (si_ix (si_var 1 (pv 1)) (si_int)) (si_bl) (sps_nilD)) rfl rfl (by decide) (by decide))) (ss_cons (s_while 16777215 PassesOwn.never (sb_c (c_lt) (si_var 3 (pv 3)) (si_callB (cb_len) (by rfl) mg_len (by first | exact boot_len | decide +kernel) (sa_cons (si_var 1 (pv 1)) (sa_nil)))) (ss_cons (s_set 5 sc_law_code_rows.nd (si_cell (sf_lst (sa_nil)))) (ss_cons (s_for 16777215 PassesOwn.never rfl (w_range1 (by rfl) mg_range (sa_cons (si_callB (cb_len) (by rfl) mg_len (by first | exact boot_len | decide +kernel) (sa_cons (si_ix (si_var 0 (pv 0)) (si_int)) (sa_nil))) (sa_nil))) (sp_nm 6 sc_law_code_rows.nd) (ss_cons (s_asg (si_kn k_law_code_run 3 (hr.mono (by decide)) (fun _ _ _ _ _ _ us hl => match us, hl with | [_, _, _], _ => rfl) (sa_cons (si_var 0 (pv 0)) (sa_cons (si_ix (si_var 1 (pv 1)) (si_var 3 (pv 3))) (sa_cons (si_var 6 (pv 6)) (sa_nil))))) (sp_tp rfl (sps_cons (sp_nm 7 sc_law_code_rows.nd) (sps_cons (sp_nm 8 sc_law_code_rows.nd) (sps_cons (sp_nm 9 sc_law_code_rows.nd) (sps_nil)))))) (ss_cons (s_expr (si_append (si_var 5 (pv 5)) (sa_cons (si_tup (sa_cons (si_var 7 (pv 7)) (sa_cons (si_var 8 (pv 8)) (sa_nil)))) (sa_nil)))) (ss_one (s_if (sb_c (c_notinD hr.u1) (si_var 7 (pv 7)) (si_var 4 (pv 4))) (ss_cons (s_setIxD hr.u1 (si_var 4 (pv 4)) (si_var 7 (pv 7)) (si_bl)) (ss_one (s_expr (si_append (si_var 1 (pv 1)) (sa_cons (si_var 7 (pv 7)) (sa_nil)))))) (ss_nil)))))) (ss_cons (s_expr (si_append (si_var 2 (pv 2)) (sa_cons (si_var 5 (pv 5)) (sa_nil)))) (ss_one (s_set 3 sc_law_code_rows.nd (si_add (si_var 3 (pv 3)) (si_int)))))))) (ss_one (s_ret (si_tup (sa_cons (si_var 1 (pv 1)) (sa_cons (si_var 2 (pv 2)) (sa_nil))))))))
theorem K_law_code_rows {ct : String → Addr} {P : Program} {w : World} {K : PySem.W.Frag} {mg : Str → Option Value} {base : Heap} (mg_len : mg "len" = none) (mg_range : mg "range" = none) {f_law_code_run : Addr} {fd_law_code_run : FuncData} (k_law_code_run : Kn ct P w K mg base "_law_code_run" S_law_code_run P_law_code_run 1 G_law_code_run f_law_code_run fd_law_code_run) {f : Addr} {fd : FuncData} (mm : mg "_law_code_rows" = some (.ref f)) (F : Fun K "_law_code_rows" "_law_code_rows" S_law_code_rows f fd) : Kn ct P w K mg base "_law_code_rows" S_law_code_rows P_law_code_rows 2 G_law_code_rows f fd := kn_of mm F sc_law_code_rows rfl (D_law_code_rows mg_len mg_range k_law_code_run)
theorem D_law_drawn_code {ct : String → Addr} {P : Program} {w : World} {K : PySem.W.Frag} {mg : Str → Option Value} {base : Heap} (mg_len : mg "len" = none) (mg_min : mg "min" = none) (mg_range : mg "range" = none) (mg_tuple : mg "tuple" = none) {f_law_take : Addr} {fd_law_take : FuncData} (k_law_take : Kn ct P w K mg base "_law_take" S_law_take P_law_take 1 G_law_take f_law_take fd_law_take) : ∀ (f : Addr) (cdv : Value) (A : Around) (outer : List Env) (s : Shared) (H : Hp) (E : XK), Room 1 (A.deeper (envOfC "_law_drawn_code" (defScope S_law_drawn_code) s.heap.objs.size f cdv)) → SSs ct (bodyX P w K mg base N_law_drawn_code "_law_drawn_code" S_law_drawn_code f cdv A outer s H E) noE (defBody S_law_drawn_code) B_law_drawn_code := fun f cdv A outer s H E hr =>
  ss_cons (s_set 1 sc_law_drawn_code.nd (si_callTy (cb_tuple) (by rfl) mg_tuple (by first | exact boot_tuple | decide +kernel) (sa_cons (si_comp (p := .nm 8) fin_rol 16777215 [(("reg" : Str), 8)] rfl sc_law_drawn_code.nd (w_range1 (by rfl) mg_range (sa_cons (si_kn k_law_take 2 (hr.mono (by decide)) (fun _ _ _ _ _ _ us hl => match us, hl with | [_, _], _ => rfl) (sa_cons (si_var 0 (pv 0)) (sa_cons (si_int) (sa_nil)))) (sa_nil))) (blkOk_by (N := N_law_drawn_code) (sc := defScope S_law_drawn_code) (by decide +kernel)) (fun _ _ _ _ _ => sp_nm 8 sc_law_drawn_code.nd) (fun _ _ _ _ _ => sts_nil) (fun _ _ _ _ _ => si_add (si_int) (si_kn k_law_take 2 (hr.mono (by decide)) (fun _ _ _ _ _ _ us hl => match us, hl with | [_, _], _ => rfl) (sa_cons (si_var 0 (pv 0)) (sa_cons (si_int) (sa_nil))))) (by simp [Pt.slots, Pt.slotsAll])) (sa_nil)))) (ss_cons (s_asg (si_tup (sa_cons (si_kn k_law_take 2 (hr.mono (by decide)) (fun _ _ _ _ _ _ us hl => match us, hl with | [_, _], _ => rfl) (sa_cons (si_var 0 (pv 0)) (sa_cons (si_int) (sa_nil)))) (sa_cons (si_add (si_int) (si_kn k_law_take 2 (hr.mono (by decide)) (fun _ _ _ _ _ _ us hl => match us, hl with | [_, _], _ => rfl) (sa_cons (si_var 0 (pv 0)) (sa_cons (si_int) (sa_nil))))) (sa_cons (si_add (si_int) (si_kn k_law_take 2 (hr.mono (by decide)) (fun _ _ _ _ _ _ us hl => match us, hl with | [_, _], _ => rfl) (sa_cons (si_var 0 (pv 0)) (sa_cons (si_int) (sa_nil))))) (sa_nil))))) (sp_tp rfl (sps_cons (sp_nm 2 sc_law_drawn_code.nd) (sps_cons (sp_nm 3 sc_law_drawn_code.nd) (sps_cons (sp_nm 4 sc_law_drawn_code.nd) (sps_nil)))))) (ss_cons (s_set 5 sc_law_drawn_code.nd (si_cell (sf_lst (sa_nil)))) (ss_cons (s_for 16777215 PassesOwn.never rfl (w_range1 (by rfl) mg_range (sa_cons (si_sub (si_var 4 (pv 4)) (si_int)) (sa_nil))) (sp_nm 6 sc_law_drawn_code.nd) (ss_cons (s_set 7 sc_law_drawn_code.nd (si_kn k_law_take 2 (hr.mono (by decide)) (fun _ _ _ _ _ _ us hl => match us, hl with | [_, _], _ => rfl) (sa_cons (si_var 0 (pv 0)) (sa_cons (si_int) (sa_nil))))) (ss_one (s_if (sb_w (sw_and (sb_c (c_lt) (si_var 7 (pv 7)) (si_int)) (sw_and1 (sb_c (c_ne hr.units) (si_var 1 (pv 1)) (si_tup (sa_nil)))))) (ss_one (s_expr (si_append (si_var 5 (pv 5)) (sa_cons (si_tup (sa_cons (si_str) (sa_cons (si_kn k_law_take 2 (hr.mono (by decide)) (fun _ _ _ _ _ _ us hl => match us, hl with | [_, _], _ => rfl) (sa_cons (si_var 0 (pv 0)) (sa_cons (si_callB (cb_len) (by rfl) mg_len (by first | exact boot_len | decide +kernel) (sa_cons (si_var 1 (pv 1)) (sa_nil))) (sa_nil)))) (sa_cons (si_add (si_int) (si_kn k_law_take 2 (hr.mono (by decide)) (fun _ _ _ _ _ _ us hl => match us, hl with | [_, _], _ => rfl) (sa_cons (si_var 0 (pv 0)) (sa_cons (si_int) (sa_nil))))) (sa_nil))))) (sa_nil))))) (ss_one (s_if (sb_w (sw_and (sb_c (c_eq hr.units) (si_var 7 (pv 7)) (si_int)) (sw_and1 (sb_c (c_ne hr.units) (si_var 1 (pv 1)) (si_tup (sa_nil)))))) (ss_one (s_expr (si_append (si_var 5 (pv 5)) (sa_cons (si_tup (sa_cons (si_str) (sa_cons (si_kn k_law_take 2 (hr.mono (by decide)) (fun _ _ _ _ _ _ us hl => match us, hl with | [_, _], _ => rfl) (sa_cons (si_var 0 (pv 0)) (sa_cons (si_callB (cb_len) (by rfl) mg_len (by first | exact boot_len | decide +kernel) (sa_cons (si_var 1 (pv 1)) (sa_nil))) (sa_nil)))) (sa_nil)))) (sa_nil))))) (ss_one (s_if (sb_w (sw_and (sb_c (c_eq hr.units) (si_var 7 (pv 7)) (si_int)) (sw_and1 (sb_c (c_gt) (si_var 2 (pv 2)) (si_int))))) (ss_one (s_expr (si_append (si_var 5 (pv 5)) (sa_cons (si_tup (sa_cons (si_str) (sa_cons (si_kn k_law_take 2 (hr.mono (by decide)) (fun _ _ _ _ _ _ us hl => match us, hl with | [_, _], _ => rfl) (sa_cons (si_var 0 (pv 0)) (sa_cons (si_var 2 (pv 2)) (sa_nil)))) (sa_cons (si_add (si_int) (si_kn k_law_take 2 (hr.mono (by decide)) (fun _ _ _ _ _ _ us hl => match us, hl with | [_, _], _ => rfl) (sa_cons (si_var 0 (pv 0)) (sa_cons (si_int) (sa_nil))))) (sa_nil))))) (sa_nil))))) (ss_one (s_if (sb_w (sw_and (sb_c (c_lt) (si_var 7 (pv 7)) (si_int)) (sw_and1 (sb_c (c_ne hr.units) (si_var 1 (pv 1)) (si_tup (sa_nil)))))) (ss_one (s_expr (si_append (si_var 5 (pv 5)) (sa_cons (si_tup (sa_cons (si_str) (sa_cons (si_kn k_law_take 2 (hr.mono (by decide)) (fun _ _ _ _ _ _ us hl => match us, hl with | [_, _], _ => rfl) (sa_cons (si_var 0 (pv 0)) (sa_cons (si_callB (cb_len) (by rfl) mg_len (by first | exact boot_len | decide +kernel) (sa_cons (si_var 1 (pv 1)) (sa_nil))) (sa_nil)))) (sa_cons (si_kn k_law_take 2 (hr.mono (by decide)) (fun _ _ _ _ _ _ us hl => match us, hl with | [_, _], _ => rfl) (sa_cons (si_var 0 (pv 0)) (sa_cons (si_int) (sa_nil)))) (sa_cons (si_add (si_add (si_var 6 (pv 6)) (si_int)) (si_kn k_law_take 2 (hr.mono (by decide)) (fun _ _ _ _ _ _ us hl => match us, hl with | [_, _], _ => rfl) (sa_cons (si_var 0 (pv 0)) (sa_cons (si_callB (cb_min rfl) (by rfl) mg_min (by first | exact boot_min | decide +kernel) (sa_cons (si_int) (sa_cons (si_sub (si_sub (si_var 4 (pv 4)) (si_int)) (si_var 6 (pv 6))) (sa_nil)))) (sa_nil))))) (sa_nil)))))) (sa_nil))))) (ss_one (s_expr (si_append (si_var 5 (pv 5)) (sa_cons (si_if (sb_c (c_gt) (si_kn k_law_take 2 (hr.mono (by decide)) (fun _ _ _ _ _ _ us hl => match us, hl with | [_, _], _ => rfl) (sa_cons (si_var 0 (pv 0)) (sa_cons (si_int) (sa_nil)))) (si_int)) (si_tup (sa_cons (si_str) (sa_cons (si_add (si_add (si_var 6 (pv 6)) (si_int)) (si_kn k_law_take 2 (hr.mono (by decide)) (fun _ _ _ _ _ _ us hl => match us, hl with | [_, _], _ => rfl) (sa_cons (si_var 0 (pv 0)) (sa_cons (si_callB (cb_min rfl) (by rfl) mg_min (by first | exact boot_min | decide +kernel) (sa_cons (si_int) (sa_cons (si_sub (si_sub (si_var 4 (pv 4)) (si_int)) (si_var 6 (pv 6))) (sa_nil)))) (sa_nil))))) (sa_nil)))) (si_tup (sa_cons (si_str) (sa_nil)))) (sa_nil))))))))))))))) (ss_one (s_ret (si_tup (sa_cons (si_var 1 (pv 1)) (sa_cons (si_var 2 (pv 2)) (sa_cons (si_callTy (cb_tuple) (by rfl) mg_tuple (by first | exact boot_tuple | decide +kernel) (sa_cons (si_comp (p := .nm 9) fin_rol 16777215 [(("letter" : Str), 9)] rfl sc_law_drawn_code.nd (w_range1 (by rfl) mg_range (sa_cons (si_var 3 (pv 3)) (sa_nil))) (blkOk_by (N := N_law_drawn_code) (sc := defScope S_law_drawn_code) (by decide +kernel)) (fun _ _ _ _ _ => sp_nm 9 sc_law_drawn_code.nd) (fun _ _ _ _ _ => sts_nil) (fun _ _ _ _ _ => si_kn k_law_take 2 (hr.mono (by decide)) (fun _ _ _ _ _ _ us hl => match us, hl with | [_, _], _ => rfl) (sa_cons (si_var 0 (pv 0)) (sa_cons (si_var 4 (pv 4)) (sa_nil)))) (by simp [Pt.slots, Pt.slotsAll])) (sa_nil))) (sa_cons (si_add (si_callTy (cb_tuple) (by rfl) mg_tuple (by first | exact boot_tuple | decide +kernel) (sa_cons (si_var 5 (pv 5)) (sa_nil))) (si_tup (sa_cons (si_tup (sa_cons (si_str) (sa_nil))) (sa_nil)))) (sa_nil)))))))))))
theorem K_law_drawn_code {ct : String → Addr} {P : Program} {w : World} {K : PySem.W.Frag} {mg : Str → Option Value} {base : Heap} (mg_len : mg "len" = none) (mg_min : mg "min" = none) (mg_range : mg "range" = none) (mg_tuple : mg "tuple" = none) {f_law_take : Addr} {fd_law_take : FuncData} (k_law_take : Kn ct P w K mg base "_law_take" S_law_take P_law_take 1 G_law_take f_law_take fd_law_take) {f : Addr} {fd : FuncData} (mm : mg "_law_drawn_code" = some (.ref f)) (F : Fun K "_law_drawn_code" "_law_drawn_code" S_law_drawn_code f fd) : Kn ct P w K mg base "_law_drawn_code" S_law_drawn_code P_law_drawn_code 2 G_law_drawn_code f fd := kn_of mm F sc_law_drawn_code rfl (D_law_drawn_code mg_len mg_min mg_range mg_tuple k_law_take)
theorem D_law_like_machine {ct : String → Addr} {P : Program} {w : World} {K : PySem.W.Frag} {mg : Str → Option Value} {base : Heap} (mg_len : mg "len" = none) (mg_range : mg "range" = none) {f_law_code_run : Addr} {fd_law_code_run : FuncData} (k_law_code_run : Kn ct P w K mg base "_law_code_run" S_law_code_run P_law_code_run 1 G_law_code_run f_law_code_run fd_law_code_run) {f_law_same : Addr} {fd_law_same : FuncData} (k_law_same : Kn ct P w K mg base "_law_same" S_law_same P_law_same 8 G_law_same f_law_same fd_law_same) : ∀ (f : Addr) (cdv : Value) (A : Around) (outer : List Env) (s : Shared) (H : Hp) (E : XK), Room 8 (A.deeper (envOfC "_law_like_machine" (defScope S_law_like_machine) s.heap.objs.size f cdv)) → SSs ct (bodyX P w K mg base N_law_like_machine "_law_like_machine" S_law_like_machine f cdv A outer s H E) noE (defBody S_law_like_machine) B_law_like_machine := fun f cdv A outer s H E hr =>
  ss_cons (s_par2 2 3 rfl sc_law_like_machine.nd (sa_cons (si_cell (sf_lst (sa_cons (si_tup (sa_cons (si_mulA (si_tup (sa_cons (si_int) (sa_nil))) (si_callB (cb_len) (by rfl) mg_len (by first | exact boot_len | decide +kernel) (sa_cons (si_ix (si_var 0 (pv 0)) (si_int)) (sa_nil)))) (sa_cons (si_int) (sa_nil)))) (sa_nil)))) (sa_cons (si_int) (sa_nil)))) (ss_cons (s_while 16777215 PassesOwn.never (sb_c (c_lt) (si_var 3 (pv 3)) (si_callB (cb_len) (by rfl) mg_len (by first | exact boot_len | decide +kernel) (sa_cons (si_var 2 (pv 2)) (sa_nil)))) (ss_cons (s_for 16777215 PassesOwn.never rfl (w_range1 (by rfl) mg_range (sa_cons (si_callB (cb_len) (by rfl) mg_len (by first | exact boot_len | decide +kernel) (sa_cons (si_ix (si_var 1 (pv 1)) (si_int)) (sa_nil))) (sa_nil))) (sp_nm 4 sc_law_like_machine.nd) (ss_cons (s_asg (si_kn k_law_code_run 3 (hr.mono (by decide)) (fun _ _ _ _ _ _ us hl => match us, hl with | [_, _, _], _ => rfl) (sa_cons (si_var 0 (pv 0)) (sa_cons (si_ix (si_ix (si_var 2 (pv 2)) (si_var 3 (pv 3))) (si_int)) (sa_cons (si_var 4 (pv 4)) (sa_nil))))) (sp_tp rfl (sps_cons (sp_nm 5 sc_law_like_machine.nd) (sps_cons (sp_nm 6 sc_law_like_machine.nd) (sps_cons (sp_nm 7 sc_law_like_machine.nd) (sps_nil)))))) (ss_cons (s_asg (si_ix (si_ix (si_var 1 (pv 1)) (si_ix (si_ix (si_var 2 (pv 2)) (si_var 3 (pv 3))) (si_int))) (si_var 4 (pv 4))) (sp_tp rfl (sps_cons (sp_nm 8 sc_law_like_machine.nd) (sps_cons (sp_nm 9 sc_law_like_machine.nd) (sps_nil))))) (ss_cons (s_if (sb_not (sb_tru (si_kn k_law_same 2 (hr.mono (by decide)) (fun _ _ _ _ _ _ us hl => match us, hl with | [_, _], _ => rfl) (sa_cons (si_var 6 (pv 6)) (sa_cons (si_var 9 (pv 9)) (sa_nil)))))) (ss_one (s_ret (si_bl))) (ss_nil)) (ss_one (s_if (sb_c (c_notinP hr.u65) (si_tup (sa_cons (si_var 5 (pv 5)) (sa_cons (si_var 8 (pv 8)) (sa_nil)))) (si_var 2 (pv 2))) (ss_one (s_expr (si_append (si_var 2 (pv 2)) (sa_cons (si_tup (sa_cons (si_var 5 (pv 5)) (sa_cons (si_var 8 (pv 8)) (sa_nil)))) (sa_nil))))) (ss_nil))))))) (ss_one (s_set 3 sc_law_like_machine.nd (si_add (si_var 3 (pv 3)) (si_int)))))) (ss_one (s_ret (si_bl))))
theorem K_law_like_machine {ct : String → Addr} {P : Program} {w : World} {K : PySem.W.Frag} {mg : Str → Option Value} {base : Heap} (mg_len : mg "len" = none) (mg_range : mg "range" = none) {f_law_code_run : Addr} {fd_law_code_run : FuncData} (k_law_code_run : Kn ct P w K mg base "_law_code_run" S_law_code_run P_law_code_run 1 G_law_code_run f_law_code_run fd_law_code_run) {f_law_same : Addr} {fd_law_same : FuncData} (k_law_same : Kn ct P w K mg base "_law_same" S_law_same P_law_same 8 G_law_same f_law_same fd_law_same) {f : Addr} {fd : FuncData} (mm : mg "_law_like_machine" = some (.ref f)) (F : Fun K "_law_like_machine" "_law_like_machine" S_law_like_machine f fd) : Kn ct P w K mg base "_law_like_machine" S_law_like_machine P_law_like_machine 9 G_law_like_machine f fd := kn_of mm F sc_law_like_machine rfl (D_law_like_machine mg_len mg_range k_law_code_run k_law_same)
theorem D_law_drawn_machine {ct : String → Addr} {P : Program} {w : World} {K : PySem.W.Frag} {mg : Str → Option Value} {base : Heap} (mg_int : mg "int" = none) (mg_range : mg "range" = none) (mg_tuple : mg "tuple" = none) {f_law_take : Addr} {fd_law_take : FuncData} (k_law_take : Kn ct P w K mg base "_law_take" S_law_take P_law_take 1 G_law_take f_law_take fd_law_take) {f_law_pick : Addr} {fd_law_pick : FuncData} (k_law_pick : Kn ct P w K mg base "_law_pick" S_law_pick P_law_pick 2 G_law_pick f_law_pick fd_law_pick) : ∀ (f : Addr) (cdv : Value) (A : Around) (outer : List Env) (s : Shared) (H : Hp) (E : XK), Room 2 (A.deeper (envOfC "_law_drawn_machine" (defScope S_law_drawn_machine) s.heap.objs.size f cdv)) → SSs ct (bodyX P w K mg base N_law_drawn_machine "_law_drawn_machine" S_law_drawn_machine f cdv A outer s H E) noE (defBody S_law_drawn_machine) B_law_drawn_machine := fun f cdv A outer s H E hr =>
  ss_cons (s_par3 1 2 3 rfl sc_law_drawn_machine.nd (sa_cons (si_add (si_int) (si_kn k_law_take 2 (hr.mono (by decide)) (fun _ _ _ _ _ _ us hl => match us, hl with | [_, _], _ => rfl) (sa_cons (si_var 0 (pv 0)) (sa_cons (si_int) (sa_nil))))) (sa_cons (si_add (si_int) (si_kn k_law_take 2 (hr.mono (by decide)) (fun _ _ _ _ _ _ us hl => match us, hl with | [_, _], _ => rfl) (sa_cons (si_var 0 (pv 0)) (sa_cons (si_int) (sa_nil))))) (sa_cons (si_kn k_law_take 2 (hr.mono (by decide)) (fun _ _ _ _ _ _ us hl => match us, hl with | [_, _], _ => rfl) (sa_cons (si_var 0 (pv 0)) (sa_cons (si_int) (sa_nil)))) (sa_nil))))) (ss_cons (s_set 4 sc_law_drawn_machine.nd (si_cell (sf_lst (sa_nil)))) (ss_cons (s_for 16777215 PassesOwn.never rfl (w_range1 (by rfl) mg_range (sa_cons (si_var 1 (pv 1)) (sa_nil))) (sp_nm 5 sc_law_drawn_machine.nd) (ss_cons (s_set 7 sc_law_drawn_machine.nd (si_cell (sf_lst (sa_cons (si_tup (sa_cons (si_mod (si_callTy (cb_int) (by rfl) mg_int (by first | exact boot_int | decide +kernel) (sa_cons (si_add (si_var 5 (pv 5)) (si_int)) (sa_nil))) (si_var 1 (pv 1))) (sa_cons (si_callTy (cb_tuple) (by rfl) mg_tuple (by first | exact boot_tuple | decide +kernel) (sa_cons (si_comp (p := .nm 6) fin_rol 16777215 [(("letter" : Str), 6)] rfl sc_law_drawn_machine.nd (w_range1 (by rfl) mg_range (sa_cons (si_var 3 (pv 3)) (sa_nil))) (blkOk_by (N := N_law_drawn_machine) (sc := defScope S_law_drawn_machine) (by decide +kernel)) (fun _ _ _ _ _ => sp_nm 6 sc_law_drawn_machine.nd) (fun _ _ _ _ _ => sts_nil) (fun _ _ _ _ _ => si_kn k_law_pick 2 (hr.mono (by decide)) (fun _ _ _ _ _ _ us hl => match us, hl with | [_, _], _ => rfl) (sa_cons (si_var 0 (pv 0)) (sa_cons (si_rol (sf_lst (sa_cons (si_int) (sa_cons (si_int) (sa_cons (si_int) (sa_cons (si_int) (sa_cons (si_int) (sa_cons (si_int) (sa_cons (si_int) (sa_nil)))))))))) (sa_nil)))) (by simp [Pt.slots, Pt.slotsAll])) (sa_nil))) (sa_nil)))) (sa_nil))))) (ss_cons (s_for 16777215 PassesOwn.never rfl (w_range1 (by rfl) mg_range (sa_cons (si_sub (si_var 2 (pv 2)) (si_int)) (sa_nil))) (sp_nm 6 sc_law_drawn_machine.nd) (ss_one (s_expr (si_append (si_var 7 (pv 7)) (sa_cons (si_tup (sa_cons (si_kn k_law_take 2 (hr.mono (by decide)) (fun _ _ _ _ _ _ us hl => match us, hl with | [_, _], _ => rfl) (sa_cons (si_var 0 (pv 0)) (sa_cons (si_var 1 (pv 1)) (sa_nil)))) (sa_cons (si_callTy (cb_tuple) (by rfl) mg_tuple (by first | exact boot_tuple | decide +kernel) (sa_cons (si_comp (p := .nm 6) fin_rol 16777215 [(("letter" : Str), 6)] rfl sc_law_drawn_machine.nd (w_range1 (by rfl) mg_range (sa_cons (si_var 3 (pv 3)) (sa_nil))) (blkOk_by (N := N_law_drawn_machine) (sc := defScope S_law_drawn_machine) (by decide +kernel)) (fun _ _ _ _ _ => sp_nm 6 sc_law_drawn_machine.nd) (fun _ _ _ _ _ => sts_nil) (fun _ _ _ _ _ => si_kn k_law_take 2 (hr.mono (by decide)) (fun _ _ _ _ _ _ us hl => match us, hl with | [_, _], _ => rfl) (sa_cons (si_var 0 (pv 0)) (sa_cons (si_int) (sa_nil)))) (by simp [Pt.slots, Pt.slotsAll])) (sa_nil))) (sa_nil)))) (sa_nil)))))) (ss_one (s_expr (si_append (si_var 4 (pv 4)) (sa_cons (si_callTy (cb_tuple) (by rfl) mg_tuple (by first | exact boot_tuple | decide +kernel) (sa_cons (si_var 7 (pv 7)) (sa_nil))) (sa_nil)))))))) (ss_one (s_ret (si_callTy (cb_tuple) (by rfl) mg_tuple (by first | exact boot_tuple | decide +kernel) (sa_cons (si_var 4 (pv 4)) (sa_nil)))))))
theorem K_law_drawn_machine {ct : String → Addr} {P : Program} {w : World} {K : PySem.W.Frag} {mg : Str → Option Value} {base : Heap} (mg_int : mg "int" = none) (mg_range : mg "range" = none) (mg_tuple : mg "tuple" = none) {f_law_take : Addr} {fd_law_take : FuncData} (k_law_take : Kn ct P w K mg base "_law_take" S_law_take P_law_take 1 G_law_take f_law_take fd_law_take) {f_law_pick : Addr} {fd_law_pick : FuncData} (k_law_pick : Kn ct P w K mg base "_law_pick" S_law_pick P_law_pick 2 G_law_pick f_law_pick fd_law_pick) {f : Addr} {fd : FuncData} (mm : mg "_law_drawn_machine" = some (.ref f)) (F : Fun K "_law_drawn_machine" "_law_drawn_machine" S_law_drawn_machine f fd) : Kn ct P w K mg base "_law_drawn_machine" S_law_drawn_machine P_law_drawn_machine 3 G_law_drawn_machine f fd := kn_of mm F sc_law_drawn_machine rfl (D_law_drawn_machine mg_int mg_range mg_tuple k_law_take k_law_pick)
theorem D_law {ct : String → Addr} {P : Program} {w : World} {K : PySem.W.Frag} {mg : Str → Option Value} {base : Heap} (mg_len : mg "len" = none) (mg_max : mg "max" = none) (mg_min : mg "min" = none) (mg_range : mg "range" = none) (mg_tuple : mg "tuple" = none) {f_law_box : Addr} {fd_law_box : FuncData} (k_law_box : Kn ct P w K mg base "_law_box" S_law_box P_law_box 1 G_law_box f_law_box fd_law_box) {f_law_drawn_machine : Addr} {fd_law_drawn_machine : FuncData} (k_law_drawn_machine : Kn ct P w K mg base "_law_drawn_machine" S_law_drawn_machine P_law_drawn_machine 3 G_law_drawn_machine f_law_drawn_machine fd_law_drawn_machine) {f_law_code_rows : Addr} {fd_law_code_rows : FuncData} (k_law_code_rows : Kn ct P w K mg base "_law_code_rows" S_law_code_rows P_law_code_rows 2 G_law_code_rows f_law_code_rows fd_law_code_rows) {f_law_drawn_code : Addr} {fd_law_drawn_code : FuncData} (k_law_drawn_code : Kn ct P w K mg base "_law_drawn_code" S_law_drawn_code P_law_drawn_code 2 G_law_drawn_code f_law_drawn_code fd_law_drawn_code) {f_code_of_machine : Addr} {fd_code_of_machine : FuncData} (k_code_of_machine : Kn ct P w K mg base "code_of_machine" S_code_of_machine P_code_of_machine 3 G_code_of_machine f_code_of_machine fd_code_of_machine) {f_check_code : Addr} {fd_check_code : FuncData} (k_check_code : Kn ct P w K mg base "check_code" S_check_code P_check_code 4 G_check_code f_check_code fd_check_code) {f_law_like_machine : Addr} {fd_law_like_machine : FuncData} (k_law_like_machine : Kn ct P w K mg base "_law_like_machine" S_law_like_machine P_law_like_machine 9 G_law_like_machine f_law_like_machine fd_law_like_machine) : ∀ (f : Addr) (cdv : Value) (A : Around) (outer : List Env) (s : Shared) (H : Hp) (E : XK), Room 9 (A.deeper (envOfC "law" (defScope S_law) s.heap.objs.size f cdv)) → SSs ct (bodyX P w K mg base N_law "law" S_law f cdv A outer s H E) noE (defBody S_law) B_law := fun f cdv A outer s H E hr =>
  ss_cons (s_for 16777215 PassesOwn.never rfl (w_range1 (by rfl) mg_range (sa_cons (si_callB (cb_max rfl) (by rfl) mg_max (by first | exact boot_max | decide +kernel) (sa_cons (si_int) (sa_cons (si_callB (cb_min rfl) (by rfl) mg_min (by first | exact boot_min | decide +kernel) (sa_cons (si_callB (cb_len) (by rfl) mg_len (by first | exact boot_len | decide +kernel) (sa_cons (si_var 0 (pv 0)) (sa_nil))) (sa_cons (si_int) (sa_nil)))) (sa_nil)))) (sa_nil))) (sp_nm 1 sc_law.nd) (ss_cons (s_set 2 sc_law.nd (si_kn k_law_box 2 (hr.mono (by decide)) (fun _ _ _ _ _ _ us hl => match us, hl with | [_, _], _ => rfl) (sa_cons (si_var 0 (pv 0)) (sa_cons (si_var 1 (pv 1)) (sa_nil))))) (ss_cons (s_set 3 sc_law.nd (si_kn k_law_drawn_machine 1 (hr.mono (by decide)) (fun _ _ _ _ _ _ us hl => match us, hl with | [_], _ => rfl) (sa_cons (si_var 2 (pv 2)) (sa_nil)))) (ss_cons (s_if (sb_c (c_eq hr.units) (si_mod (si_var 1 (pv 1)) (si_int)) (si_int)) (ss_cons (s_asg (si_kn k_law_code_rows 1 (hr.mono (by decide)) (fun _ _ _ _ _ _ us hl => match us, hl with | [_], _ => rfl) (sa_cons (si_kn k_law_drawn_code 1 (hr.mono (by decide)) (fun _ _ _ _ _ _ us hl => match us, hl with | [_], _ => rfl) (sa_cons (si_var 2 (pv 2)) (sa_nil))) (sa_nil))) (sp_tp rfl (sps_cons (sp_nm 4 sc_law.nd) (sps_cons (sp_nm 5 sc_law.nd) (sps_nil))))) (ss_one (s_set 3 sc_law.nd (si_callTy (cb_tuple) (by rfl) mg_tuple (by first | exact boot_tuple | decide +kernel) (sa_cons (si_comp (p := .nm 7) fin_rol 16777215 [(("found" : Str), 7)] rfl sc_law.nd (w_walk (si_var 5 (pv 5))) (blkOk_by (N := N_law) (sc := defScope S_law) (by decide +kernel)) (fun _ _ _ _ _ => sp_nm 7 sc_law.nd) (fun _ _ _ _ _ => sts_nil) (fun _ _ _ _ _ => si_callTy (cb_tuple) (by rfl) mg_tuple (by first | exact boot_tuple | decide +kernel) (sa_cons (si_comp (p := .tp [.nm 8, .nm 9]) fin_rol 16777215 [(("row" : Str), 8), (("sent" : Str), 9)] rfl sc_law.nd (w_walk (si_var 7 (pv 7))) (blkOk_by (N := N_law) (sc := { kind := .function, names := [(".0", .local), ("found", .local), ("tuple", .globalImplicit), ("rows", .cell)], isGenerator := false, isCoroutine := false }) (by decide +kernel)) (fun _ _ _ _ _ => sp_tp rfl (sps_cons (sp_nm 8 sc_law.nd) (sps_cons (sp_nm 9 sc_law.nd) (sps_nil)))) (fun _ _ _ _ _ => sts_nil) (fun _ _ _ _ _ => si_tup (sa_cons (si_index hr.u65 (si_var 4 (pv 4)) (sa_cons (si_var 8 (pv 8)) (sa_nil))) (sa_cons (si_var 9 (pv 9)) (sa_nil)))) (by simp [Pt.slots, Pt.slotsAll])) (sa_nil))) (by simp [Pt.slots, Pt.slotsAll])) (sa_nil)))))) (ss_nil)) (ss_cons (s_set 6 sc_law.nd (si_knK0 k_code_of_machine (hr.mono (by decide)) 1 rfl (by decide) (fun _ _ _ _ _ _ us ws h1 h2 => match us, ws, h1, h2 with | [], [_], _, _ => rfl) (sk_cons (si_var 3 (pv 3)) (sk_nil)))) (ss_one (s_if (sb_w (sw_or (sb_c (c_ne hr.units) (si_kn k_check_code 1 (hr.mono (by decide)) (fun _ _ _ _ _ _ us hl => match us, hl with | [_], _ => rfl) (sa_cons (si_var 6 (pv 6)) (sa_nil))) (si_var 6 (pv 6))) (sw_or (sb_c (c_ne hr.units) (si_callB (cb_len) (by rfl) mg_len (by first | exact boot_len | decide +kernel) (sa_cons (si_ix (si_var 6 (pv 6)) (si_int)) (sa_nil))) (si_callB (cb_len) (by rfl) mg_len (by first | exact boot_len | decide +kernel) (sa_cons (si_ix (si_var 3 (pv 3)) (si_int)) (sa_nil)))) (sw_or1 (sb_not (sb_tru (si_kn k_law_like_machine 2 (hr.mono (by decide)) (fun _ _ _ _ _ _ us hl => match us, hl with | [_, _], _ => rfl) (sa_cons (si_var 6 (pv 6)) (sa_cons (si_var 3 (pv 3)) (sa_nil)))))))))) (ss_one (s_ret (si_bl))) (ss_nil)))))))) (ss_one (s_ret (si_bl)))
theorem K_law {ct : String → Addr} {P : Program} {w : World} {K : PySem.W.Frag} {mg : Str → Option Value} {base : Heap} (mg_len : mg "len" = none) (mg_max : mg "max" = none) (mg_min : mg "min" = none) (mg_range : mg "range" = none) (mg_tuple : mg "tuple" = none) {f_law_box : Addr} {fd_law_box : FuncData} (k_law_box : Kn ct P w K mg base "_law_box" S_law_box P_law_box 1 G_law_box f_law_box fd_law_box) {f_law_drawn_machine : Addr} {fd_law_drawn_machine : FuncData} (k_law_drawn_machine : Kn ct P w K mg base "_law_drawn_machine" S_law_drawn_machine P_law_drawn_machine 3 G_law_drawn_machine f_law_drawn_machine fd_law_drawn_machine) {f_law_code_rows : Addr} {fd_law_code_rows : FuncData} (k_law_code_rows : Kn ct P w K mg base "_law_code_rows" S_law_code_rows P_law_code_rows 2 G_law_code_rows f_law_code_rows fd_law_code_rows) {f_law_drawn_code : Addr} {fd_law_drawn_code : FuncData} (k_law_drawn_code : Kn ct P w K mg base "_law_drawn_code" S_law_drawn_code P_law_drawn_code 2 G_law_drawn_code f_law_drawn_code fd_law_drawn_code) {f_code_of_machine : Addr} {fd_code_of_machine : FuncData} (k_code_of_machine : Kn ct P w K mg base "code_of_machine" S_code_of_machine P_code_of_machine 3 G_code_of_machine f_code_of_machine fd_code_of_machine) {f_check_code : Addr} {fd_check_code : FuncData} (k_check_code : Kn ct P w K mg base "check_code" S_check_code P_check_code 4 G_check_code f_check_code fd_check_code) {f_law_like_machine : Addr} {fd_law_like_machine : FuncData} (k_law_like_machine : Kn ct P w K mg base "_law_like_machine" S_law_like_machine P_law_like_machine 9 G_law_like_machine f_law_like_machine fd_law_like_machine) {f : Addr} {fd : FuncData} (mm : mg "law" = some (.ref f)) (F : Fun K "law" "law" S_law f fd) : Kn ct P w K mg base "law" S_law P_law 10 G_law f fd := kn_of mm F sc_law rfl (D_law mg_len mg_max mg_min mg_range mg_tuple k_law_box k_law_drawn_machine k_law_code_rows k_law_drawn_code k_code_of_machine k_check_code k_law_like_machine)
end QI

/-! the defs that every law has -/
namespace QI
open PySem PySem.Spec PyProof.Rows L2
namespace LC
def bx (b : Int × Int) : Cell := .lst [.int b.1, .int b.2]
def okB (b : Int × Int) : Prop := 0 ≤ b.1 ∧ 1 ≤ b.2 ∧ b.2 ≤ 2147483563
section
variable {pre post : Sto} {b : Int × Int}
theorem mid_get (c : Cell) : (pre ++ c :: post)[pre.length]? = some c := by simp
theorem mid_set (xs : List D) (c : Cell) : setL (pre ++ c :: post) pre.length xs = pre ++ .lst xs :: post := by simp [setL]
theorem mid_closed {b b' : Int × Int} (h : Closed (pre ++ bx b :: post)) : Closed (pre ++ bx b' :: post) := by
  intro c hc
  have hl : (pre ++ bx b' :: post).length = (pre ++ bx b :: post).length := by simp
  rw [hl]
  rcases List.mem_append.mp hc with h1 | h1
  · exact h c (List.mem_append.mpr (.inl h1))
  · rcases List.mem_cons.mp h1 with rfl | h1
    · simp [bx, Cell.lo]
    · exact h c (List.mem_append.mpr (.inr (List.mem_cons_of_mem _ h1)))
theorem g0 : gIx (.ref pre.length) (.int 0) (pre ++ bx b :: post) = .ok (.int b.1) (pre ++ bx b :: post) := gIx_nat (i := 0) (seqAt_ref (mid_get _)) rfl
theorem g1 : gIx (.ref pre.length) (.int 1) (pre ++ bx b :: post) = .ok (.int b.2) (pre ++ bx b :: post) := gIx_nat (i := 1) (seqAt_ref (mid_get _)) rfl
theorem s0 (v : Int) : gSetIx (.ref pre.length) (.int 0) (.int v) (pre ++ bx b :: post) = .ok () (pre ++ bx (v, b.2) :: post) := by
  exact (gSetIx_at (i := 0) (xs := [.int b.1, .int b.2]) (mid_get (bx b)) (by simp)).trans (by rw [mid_set]; rfl)
theorem s1 (v : Int) : gSetIx (.ref pre.length) (.int 1) (.int v) (pre ++ bx b :: post) = .ok () (pre ++ bx (b.1, v) :: post) := by
  exact (gSetIx_at (i := 1) (xs := [.int b.1, .int b.2]) (mid_get (bx b)) (by simp)).trans (by rw [mid_set]; rfl)
theorem e_take (hc : Closed (pre ++ bx b :: post)) (hb : okB b) {m : Int} (h1 : 1 ≤ m) (h2 : m < 4294967296) :
    ∃ (d : Nat) (b' : Int × Int), okB b' ∧ (d : Int) < m ∧ G_law_take [.ref pre.length, .int m] (pre ++ bx b :: post) = .ok (.int d) (pre ++ bx b' :: post) := by
  obtain ⟨hb1, hb2, hb3⟩ := hb
  by_cases hg : 0 < b.1
  · refine ⟨(b.1 % m).toNat, (b.1 / m, b.2), ⟨Int.ediv_nonneg hb1 (by omega), hb2, hb3⟩, ?_, ?_⟩
    · rw [Int.toNat_of_nonneg (Int.emod_nonneg _ (by omega))]; exact Int.emod_lt_of_pos _ (by omega)
    · refine run_same (by simp) (mid_closed hc) (by simp) ?_
      rw [Int.toNat_of_nonneg (Int.emod_nonneg _ (by omega))]
      have z : m.natAbs.log2 < 9000 := log2_9000 (by omega)
      have z1 : 0 < m := by omega
      simp [B_law_take, startE, g0, s0, hg, z, z1]
  · generalize hr : (b.2 * 39373 + 211) % 2147483647 = raw
    generalize hx : (raw * 40692 + 97) % 2147483563 + 1 = x
    have hx1 : 1 ≤ x ∧ x ≤ 2147483563 := by omega
    have hr1 : 0 ≤ raw ∧ raw < 2147483647 := by omega
    refine ⟨((raw * 2147483629 + x) / 8263 % m).toNat, (b.1, x), ⟨hb1, hx1⟩, ?_, ?_⟩
    · rw [Int.toNat_of_nonneg (Int.emod_nonneg _ (by omega))]; exact Int.emod_lt_of_pos _ (by omega)
    · refine run_same (by simp) (mid_closed hc) (by simp) ?_
      rw [Int.toNat_of_nonneg (Int.emod_nonneg _ (by omega))]
      have z : Nat.log2 8263 < 9000 := log2_9000 (by omega)
      have z1 : 0 < m := by omega
      simp [B_law_take, startE, g0, g1, s1, hg, z, z1, hr, hx]
theorem e_pick (hc : Closed (pre ++ bx b :: post)) (hb : okB b) (xs : List Nat) (h1 : 1 ≤ xs.length) (h2 : xs.length < 1000) :
    ∃ v ∈ xs, ∃ b' : Int × Int, okB b' ∧ G_law_pick [.ref pre.length, .rol (nD xs)] (pre ++ bx b :: post) = .ok (.int (v : Nat)) (pre ++ bx b' :: post) := by
  obtain ⟨d, b', hb', hd, ht⟩ := e_take hc hb (m := xs.length) (by omega) (by omega)
  have hd' : d < xs.length := by omega
  refine ⟨xs[d], List.getElem_mem _, b', hb', run_same (by simp) (mid_closed hc) (by simp) ?_⟩
  have hg : gIx (.rol (nD xs)) (.int d) (pre ++ bx b' :: post) = .ok (.int (xs[d] : Nat)) (pre ++ bx b' :: post) := gIx_nat (xs := nD xs) rfl (by rw [nD_get, List.getElem?_eq_getElem hd']; rfl)
  simp [B_law_pick, startE, ht, hg]
theorem e_box {st : Sto} (hc : Closed st) (ns : List Int) (k : Nat) (hk : k < 1000) (hl : ns.length < 1000) : ∃ b, okB b ∧ G_law_box [.scr (ns.map D.int), .int k] st = .ok (.ref st.length) (st ++ [bx b]) := by
  have key : ∀ (B : IS) (cell : Int), 0 ≤ cell → B = sSeq (sSet 3 (iIf (iTest (iBin gGe (iVar 2) (iBin gPow (iC (.int 10)) (iC (.int 18))))) (iVar 2) (iC (.int 0)))) (sRet (iCell (iLst (iCons (iVar 3) (iCons (iBin gAdd (iBin gMod (iCallB gInt (iCons (iBin gAdd (iBin gMul (iBin gMod (iCallB gInt (iCons (iVar 2) (iNil))) (iC (.int 2147483563))) (iC (.int 54250003))) (iBin gMul (iC (.int 7703)) (iVar 1))) (iNil))) (iC (.int 2147483563))) (iC (.int 1))) (iNil)))))) →
      ∃ b, okB b ∧ B [some (.scr (ns.map D.int)), some (.int k), some (.int cell), none] st = .ok (.rt (.ref st.length)) (st ++ [bx b]) := by
    intro B cell h0 hB
    subst hB
    refine ⟨(if 1000000000000000000 ≤ cell then cell else 0, (cell % 2147483563 * 54250003 + 7703 * k) % 2147483563 + 1), ⟨?_, ?_, ?_⟩, ?_⟩
    · split <;> omega
    · omega
    · omega
    · have z : (cell % 2147483563).natAbs < 18446744073709551616 ∨ (54250003 : Int).natAbs < 18446744073709551616 := .inr (by decide)
      simp [bx]
      split <;> simp
  have run : ∀ b, okB b → B_law_box (startE N_law_box [.scr (ns.map D.int), .int k]) st = .ok (.rt (.ref st.length)) (st ++ [bx b]) → ∃ b, okB b ∧ G_law_box [.scr (ns.map D.int), .int k] st = .ok (.ref st.length) (st ++ [bx b]) := fun b hb h =>
    ⟨b, hb, run_cell hc (by simp) h⟩
  by_cases h1 : k < ns.length
  · have hg : gIx (.scr (ns.map D.int)) (.int k) st = .ok (.int ns[k]) st := gIx_nat (i := k) rfl (by simp [h1])
    obtain ⟨b, hb, h⟩ := key _ (if ns[k] < 0 then -ns[k] else ns[k]) (by split <;> omega) rfl
    refine run b hb ?_
    rw [← h]
    simp [B_law_box, startE, h1, hg]
  · by_cases h2 : 0 < ns.length
    · have h3 : k % ns.length < ns.length := Nat.mod_lt _ h2
      have hg : gIx (.scr (ns.map D.int)) (.int ((k % ns.length : Nat) : Int)) st = .ok (.int ns[k % ns.length]) st := gIx_nat (i := k % ns.length) rfl (by simp [h3])
      obtain ⟨b, hb, h⟩ := key _ (28019 * k + 7703 + (if ns[k % ns.length] < 0 then -ns[k % ns.length] else ns[k % ns.length]) % 2147483563 * 97813) (by have := Int.emod_nonneg (if ns[k % ns.length] < 0 then -ns[k % ns.length] else ns[k % ns.length]) (show (2147483563 : Int) ≠ 0 by decide); omega) rfl
      refine run b hb ?_
      rw [← h]
      have hi : (k : Int) % (ns.length : Int) = ((k % ns.length : Nat) : Int) := by omega
      simp [B_law_box, startE, h1, h2, hi, hg, -Int.natCast_emod]
    · obtain ⟨b, hb, h⟩ := key _ (28019 * k + 7703) (by omega) rfl
      refine run b hb ?_
      rw [← h]
      simp [B_law_box, startE, h1, h2]
end
/-- values that the law compares -/
def pl : Nat → D → Prop
  | 0, _ => False
  | n + 1, .tup xs => xs.length < 1000000 ∧ ∀ d ∈ xs, pl n d
  | _ + 1, .int _ => True
  | _ + 1, .str _ => True
  | _ + 1, .non => True
  | _ + 1, _ => False
theorem e_same {st : Sto} (hc : Closed st) : ∀ (n : Nat) (d : D), pl n d → Gr_law_same n [d, d] st = .ok (.bl true) st
  | 0, d, h => h.elim
  | n + 1, d, h => by
    show run N_law_same (B_law_same (Gr_law_same n)) [d, d] st = _
    refine run_pure hc (by simp) ?_
    show B_law_same (Gr_law_same n) [some d, some d, none, none] st = _
    unfold B_law_same
    cases d with
    | tup xs =>
      obtain ⟨hl, h⟩ := h
      have hall : ∀ d ∈ xs, Gr_law_same n [d, d] st = .ok (.bl true) st := fun d hd => e_same hc n d (h d hd)
      obtain ⟨e', st', h1, h2, t2, t3, rfl⟩ := for_inv0 (wk := wkZip (wkSeq xs) (wkSeq xs)) (p := .tp [.nm 2, .nm 3]) (S := L_law_same_1 (Gr_law_same n)) (items := zipD xs xs) (fun i env s => s = st ∧ ∃ t2 t3, env = [some (.tup xs), some (.tup xs), t2, t3])
        (fun i env s _ => wkZip_at (wkSeq_at _ _ _) (wkSeq_at _ _ _))
        (fun i d env s hd h => by
          obtain ⟨rfl, t2, t3, rfl⟩ := h
          obtain ⟨a, b, ha, hb, rfl⟩ := zipD_get hd
          rw [ha] at hb
          cases hb
          refine ⟨[some (.tup xs), some (.tup xs), some a, some a], by simp, _, s, .inl ?_, rfl, some a, some a, rfl⟩
          simp [L_law_same_1, hall a (List.mem_of_getElem? ha)])
        (n := 16777215) (env := [some (.tup xs), some (.tup xs), none, none]) (st := st) (by simp; omega) ⟨rfl, none, none, rfl⟩
      rw [h2] at h1
      have hz := (for_eq (st := st) (W := iWalkC fZip (iCons (iVar 0) (iCons (iVar 1) (iNil)))) (wk := wkZip (wkSeq xs) (wkSeq xs)) (walkC_eq (ds := [.tup xs, .tup xs]) (by simp) rfl)).trans h1
      simp [isK, hz, -ev_sFor]
    | int i => simp [isK]
    | str x => simp [isK]
    | non => simp [isK]
    | bl b => exact h.elim
    | rol xs => exact h.elim
    | scr xs => exact h.elim
    | ref n => exact h.elim
end LC
end QI

/-! codes and what they do -/
namespace QI
open PySem PySem.Spec PyProof.Rows L2
namespace F33
inductive Ln
  | raise (r k : Nat)
  | clear (r : Nat)
  | send (s k : Nat)
  | under (r k t : Nat)
  | go (t : Nat)
  | stop
def Ln.d : Ln → D
  | .raise r k => .tup [.str (Str.ofString "raise"), .int r, .int k]
  | .clear r => .tup [.str (Str.ofString "clear"), .int r]
  | .send s k => .tup [.str (Str.ofString "send"), .int s, .int k]
  | .under r k t => .tup [.str (Str.ofString "under"), .int r, .int k, .int t]
  | .go t => .tup [.str (Str.ofString "go"), .int t]
  | .stop => .tup [.str (Str.ofString "stop")]
structure Cd where
  tops : List Nat
  sends : Nat
  ent : List Nat
  lines : List Ln
def Cd.d (c : Cd) : D := .tup [.tup (nD c.tops), .int c.sends, .tup (nD c.ent), .tup (c.lines.map Ln.d)]
/-- one line done: the row, what is sent, the place -/
def Ln.ok (c : Cd) (place : Nat) : Ln → Prop
  | .raise r k => r < c.tops.length ∧ k < 1000
  | .clear r => r < c.tops.length
  | .send s k => s < c.sends ∧ k < 1000
  | .under r k t => r < c.tops.length ∧ place < t ∧ t < c.lines.length
  | .go t => place < t ∧ t < c.lines.length
  | .stop => True
structure Cd.Ok (c : Cd) : Prop where
  lines : ∀ (i : Nat) (l : Ln), c.lines[i]? = some l → l.ok c i
  last : c.lines[c.lines.length - 1]? = some .stop
  len : 1 ≤ c.lines.length ∧ c.lines.length ≤ 4000
  ent : ∀ e ∈ c.ent, e < c.lines.length
  tops : c.tops.length ≤ 100 ∧ ∀ t ∈ c.tops, t < 1000
  sends : c.sends ≤ 100
/-- what a code does from a place on -/
inductive Go (c : Cd) : List Nat → List Nat → Nat → Nat → List Nat → List Nat → Nat → Prop
  | stop {row sent : List Nat} {p w : Nat} : c.lines[p]? = some .stop → Go c row sent p w row sent w
  | raise {row sent row' sent' : List Nat} {p w w' r k : Nat} : c.lines[p]? = some (.raise r k) → Go c (row.set r ((row.getD r 0 + k) % (c.tops.getD r 0 + 1))) sent (p + 1) (w + 1) row' sent' w' → Go c row sent p w row' sent' w'
  | clear {row sent row' sent' : List Nat} {p w w' r : Nat} : c.lines[p]? = some (.clear r) → Go c (row.set r 0) sent (p + 1) (w + 1) row' sent' w' → Go c row sent p w row' sent' w'
  | send {row sent row' sent' : List Nat} {p w w' s k : Nat} : c.lines[p]? = some (.send s k) → Go c row (sent.set s (sent.getD s 0 + k)) (p + 1) (w + 1) row' sent' w' → Go c row sent p w row' sent' w'
  | over {row sent row' sent' : List Nat} {p w w' r k t : Nat} : c.lines[p]? = some (.under r k t) → k ≤ row.getD r 0 → Go c row sent t (w + 1) row' sent' w' → Go c row sent p w row' sent' w'
  | under {row sent row' sent' : List Nat} {p w w' r k t : Nat} : c.lines[p]? = some (.under r k t) → ¬ k ≤ row.getD r 0 → Go c row sent (p + 1) (w + 1) row' sent' w' → Go c row sent p w row' sent' w'
  | go {row sent row' sent' : List Nat} {p w w' t : Nat} : c.lines[p]? = some (.go t) → Go c row sent t (w + 1) row' sent' w' → Go c row sent p w row' sent' w'
theorem Go.ex {c : Cd} (h : c.Ok) : ∀ (n p w : Nat) (row sent : List Nat), p < c.lines.length → c.lines.length ≤ n + p → ∃ row' sent' w', Go c row sent p w row' sent' w' ∧ w' + 1 ≤ w + n
  | 0, p, w, row, sent, hp, hn => by omega
  | n + 1, p, w, row, sent, hp, hn => by
    have hl : c.lines[p]? = some c.lines[p] := List.getElem?_eq_getElem hp
    have hk := h.lines p _ hl
    have hns : c.lines[p] ≠ .stop → p + 1 < c.lines.length := fun z => by
      by_cases e : p + 1 < c.lines.length
      · exact e
      · have : p = c.lines.length - 1 := by omega
        have hlast := h.last
        rw [← this, hl] at hlast
        exact absurd (Option.some.inj hlast) z
    generalize c.lines[p] = l at hl hk hns
    cases l with
    | stop => exact ⟨row, sent, w, .stop hl, by omega⟩
    | raise r k =>
      obtain ⟨a, b, d, g, e⟩ := Go.ex h n (p + 1) (w + 1) _ sent (hns (by simp)) (by omega)
      exact ⟨a, b, d, .raise hl g, by omega⟩
    | clear r =>
      obtain ⟨a, b, d, g, e⟩ := Go.ex h n (p + 1) (w + 1) _ sent (hns (by simp)) (by omega)
      exact ⟨a, b, d, .clear hl g, by omega⟩
    | send s k =>
      obtain ⟨a, b, d, g, e⟩ := Go.ex h n (p + 1) (w + 1) row _ (hns (by simp)) (by omega)
      exact ⟨a, b, d, .send hl g, by omega⟩
    | under r k t =>
      obtain ⟨k1, k2, k3⟩ := hk
      by_cases hz : k ≤ row.getD r 0
      · obtain ⟨a, b, d, g, e⟩ := Go.ex h n t (w + 1) row sent k3 (by omega)
        exact ⟨a, b, d, .over hl hz g, by omega⟩
      · obtain ⟨a, b, d, g, e⟩ := Go.ex h n (p + 1) (w + 1) row sent (hns (by simp)) (by omega)
        exact ⟨a, b, d, .under hl hz g, by omega⟩
    | go t =>
      obtain ⟨k1, k2⟩ := hk
      obtain ⟨a, b, d, g, e⟩ := Go.ex h n t (w + 1) row sent k2 (by omega)
      exact ⟨a, b, d, .go hl g, by omega⟩
theorem nD_set (ns : List Nat) (i n : Nat) : (nD ns).set i (.int n) = nD (ns.set i n) := by simp [nD, List.map_set]
/-- the two lists of a run stand at the end of the store -/
def S2 (st : Sto) (row sent : List Nat) : Sto := st ++ [.lst (nD row), .lst (nD sent)]
section
variable {st : Sto} {row sent : List Nat}
theorem s2_0 : (S2 st row sent)[st.length]? = some (.lst (nD row)) := by simp [S2]
theorem s2_1 : (S2 st row sent)[st.length + 1]? = some (.lst (nD sent)) := by simp [S2]
theorem s2_set0 (xs : List Nat) : setL (S2 st row sent) st.length (nD xs) = S2 st xs sent := by simp [S2, setL]
theorem s2_set1 (xs : List Nat) : setL (S2 st row sent) (st.length + 1) (nD xs) = S2 st row xs := by simp [S2, setL]
theorem s2_ix0 {r : Nat} (h : r < row.length) : gIx (.ref st.length) (.int r) (S2 st row sent) = .ok (.int (row.getD r 0 : Nat)) (S2 st row sent) :=
  gIx_nat (seqAt_ref s2_0) (by rw [nD_get, List.getElem?_eq_getElem h]; simp [List.getD, h])
theorem s2_ix1 {r : Nat} (h : r < sent.length) : gIx (.ref (st.length + 1)) (.int r) (S2 st row sent) = .ok (.int (sent.getD r 0 : Nat)) (S2 st row sent) :=
  gIx_nat (seqAt_ref s2_1) (by rw [nD_get, List.getElem?_eq_getElem h]; simp [List.getD, h])
theorem s2_st0 {r : Nat} (h : r < row.length) (n : Nat) : gSetIx (.ref st.length) (.int r) (.int n) (S2 st row sent) = .ok () (S2 st (row.set r n) sent) := by
  rw [gSetIx_at s2_0 (by simpa using h), nD_set, s2_set0]
theorem s2_st1 {r : Nat} (h : r < sent.length) (n : Nat) : gSetIx (.ref (st.length + 1)) (.int r) (.int n) (S2 st row sent) = .ok () (S2 st row (sent.set r n)) := by
  rw [gSetIx_at s2_1 (by simpa using h), nD_set, s2_set1]
end
theorem top_ix {c : Cd} {r : Nat} (h : r < c.tops.length) (st : Sto) : gIx (.tup (nD c.tops)) (.int r) st = .ok (.int (c.tops.getD r 0 : Nat)) st :=
  gIx_nat (xs := nD c.tops) rfl (by rw [nD_get, List.getElem?_eq_getElem h]; simp [List.getD, h])
theorem line_ix {c : Cd} {p : Nat} {l : Ln} (h : c.lines[p]? = some l) (st : Sto) : gIx (.tup (c.lines.map Ln.d)) (.int p) st = .ok l.d st :=
  gIx_nat (xs := c.lines.map Ln.d) rfl (by rw [List.getElem?_map, h]; rfl)
@[simp] theorem ix_0 (d : D) (ds : List D) (st : Sto) : gIx (.tup (d :: ds)) (.int 0) st = .ok d st := gIx_nat (i := 0) rfl rfl
@[simp] theorem ix_1 (d e : D) (ds : List D) (st : Sto) : gIx (.tup (d :: e :: ds)) (.int 1) st = .ok e st := gIx_nat (i := 1) rfl rfl
@[simp] theorem ix_2 (d e f : D) (ds : List D) (st : Sto) : gIx (.tup (d :: e :: f :: ds)) (.int 2) st = .ok f st := gIx_nat (i := 2) rfl rfl
@[simp] theorem ix_3 (d e f g : D) (ds : List D) (st : Sto) : gIx (.tup (d :: e :: f :: g :: ds)) (.int 3) st = .ok g st := gIx_nat (i := 3) rfl rfl
theorem ix_m2 (d e : D) (st : Sto) : gIx (.tup [d, e]) (.int (-1)) st = .ok e st := rfl
theorem ix_m4 (d e f g : D) (st : Sto) : gIx (.tup [d, e, f, g]) (.int (-1)) st = .ok g st := rfl
theorem s_ne : (Str.ofString "raise" = Str.ofString "stop") = False ∧ (Str.ofString "clear" = Str.ofString "stop") = False ∧ (Str.ofString "send" = Str.ofString "stop") = False ∧ (Str.ofString "under" = Str.ofString "stop") = False ∧ (Str.ofString "go" = Str.ofString "stop") = False := by
  refine ⟨?_, ?_, ?_, ?_, ?_⟩ <;> exact eq_false (by decide)
theorem s_ne2 : (Str.ofString "clear" = Str.ofString "raise") = False ∧ (Str.ofString "send" = Str.ofString "raise") = False ∧ (Str.ofString "under" = Str.ofString "raise") = False ∧ (Str.ofString "go" = Str.ofString "raise") = False := by
  refine ⟨?_, ?_, ?_, ?_⟩ <;> exact eq_false (by decide)
theorem s_ne3 : (Str.ofString "send" = Str.ofString "clear") = False ∧ (Str.ofString "under" = Str.ofString "clear") = False ∧ (Str.ofString "go" = Str.ofString "clear") = False := by
  refine ⟨?_, ?_, ?_⟩ <;> exact eq_false (by decide)
theorem s_ne4 : (Str.ofString "under" = Str.ofString "send") = False ∧ (Str.ofString "go" = Str.ofString "send") = False ∧ (Str.ofString "under" = Str.ofString "go") = False := by
  refine ⟨?_, ?_, ?_⟩ <;> exact eq_false (by decide)
theorem while_eq (n : Nat) (T : IT) (S : IS) (env : Ev) (st : Sto) : sWhile n T S env st = whileGo T S n env st := rfl
theorem isD_lst {st : Sto} {n : Nat} {xs : List D} (h : st[n]? = some (.lst xs)) : isD st (.ref n) = false := by simp only [isD, h]
theorem gGetD_lst {st : Sto} {n i : Nat} {xs : List D} {v : D} (h : st[n]? = some (.lst xs)) (hi : xs[i]? = some v) : gGetD (.ref n) (.int (i : Nat)) st = .ok v st := by
  unfold gGetD gOr
  simp only [isD_lst h, Bool.false_eq_true, if_false, gGetL, listAt_ref h, atI_nat hi]
theorem gSetIxD_lst {st : Sto} {n : Nat} {xs : List D} {i v : D} (h : st[n]? = some (.lst xs)) : gSetIxD (.ref n) i v st = gSetIx (.ref n) i v st := by
  unfold gSetIxD
  simp only [isD_lst h, Bool.false_eq_true, if_false]
theorem Go.keeps {c : Cd} {row sent row' sent' : List Nat} {p w w' : Nat} (h : Go c row sent p w row' sent' w') : row'.length = row.length ∧ sent'.length = sent.length := by
  induction h with
  | stop => exact ⟨rfl, rfl⟩
  | raise _ _ ih => simpa using ih
  | clear _ _ ih => simpa using ih
  | send _ _ ih => simpa using ih
  | over _ _ _ ih => exact ih
  | under _ _ _ ih => exact ih
  | go _ _ ih => exact ih
/-- rows stay within their tops -/
def Cd.In (c : Cd) (row : List Nat) : Prop := row.length = c.tops.length ∧ ∀ (r x t : Nat), row[r]? = some x → c.tops[r]? = some t → x ≤ t
theorem In_set {c : Cd} {row : List Nat} {r x : Nat} (h : c.In row) (hx : x ≤ c.tops.getD r 0) : c.In (row.set r x) := by
  refine ⟨by simpa using h.1, fun j y t h1 h2 => ?_⟩
  by_cases e : r = j
  · subst e
    have hl : r < row.length := by
      have := lt_of_get h1
      simpa using this
    rw [List.getElem?_set_self hl] at h1
    cases h1
    simpa [List.getD, h2] using hx
  · rw [List.getElem?_set_ne e] at h1
    exact h.2 j y t h1 h2
theorem Go.ins {c : Cd} {row sent row' sent' : List Nat} {p w w' : Nat} (h : Go c row sent p w row' sent' w') : c.In row → c.In row' := by
  induction h with
  | stop => exact id
  | raise _ _ ih => exact fun h => ih (In_set h (Nat.le_of_lt_succ (Nat.mod_lt _ (Nat.succ_pos _))))
  | clear _ _ ih => exact fun h => ih (In_set h (Nat.zero_le _))
  | send _ _ ih => exact ih
  | over _ _ _ ih => exact ih
  | under _ _ _ ih => exact ih
  | go _ _ ih => exact ih
theorem Go.le {c : Cd} {row sent row' sent' : List Nat} {p w w' : Nat} (h : Go c row sent p w row' sent' w') : w ≤ w' := by
  induction h with
  | stop => exact Nat.le_refl _
  | _ => omega
end F33
end QI

/-! the law's own run of a code -/
namespace QI
open PySem PySem.Spec PyProof.Rows L2
namespace F33
theorem Go.lt {c : Cd} {row sent row' sent' : List Nat} {p w w' : Nat} (h : Go c row sent p w row' sent' w') : p < c.lines.length := by
  cases h <;> exact lt_of_get (by assumption)
theorem Go.few {c : Cd} (hc : c.Ok) {row sent row' sent' : List Nat} {p w w' : Nat} (h : Go c row sent p w row' sent' w') : ∀ (i x : Nat), sent'[i]? = some x → x ≤ sent.getD i 0 + 999 * (w' - w) := by
  induction h with
  | stop hl => intro i x hx; simp [List.getD, hx]
  | @raise row sent row' sent' p w w' r k hl g ih => intro i x hx; have := ih i x hx; have := g.le; omega
  | @clear row sent row' sent' p w w' r hl g ih => intro i x hx; have := ih i x hx; have := g.le; omega
  | @send row sent row' sent' p w w' s k hl g ih =>
    intro i x hx
    have h1 := ih i x hx
    have h2 := g.le
    have h3 := (hc.lines _ _ hl).2
    have h4 : (sent.set s (sent.getD s 0 + k)).getD i 0 ≤ sent.getD i 0 + k := by
      simp only [List.getD_eq_getElem?_getD, List.getElem?_set]
      split
      · rename_i e; subst e
        split
        · simp
        · simp
      · omega
    omega
  | @over row sent row' sent' p w w' r k t hl hz g ih => intro i x hx; have := ih i x hx; have := g.le; omega
  | @under row sent row' sent' p w w' r k t hl hz g ih => intro i x hx; have := ih i x hx; have := g.le; omega
  | @go row sent row' sent' p w w' t hl g ih => intro i x hx; have := ih i x hx; have := g.le; omega
def R1 (c : Cd) (a b : D) (st : Sto) (p w : Nat) (t7 t8 : Option D) : Ev := [some c.d, some a, some b, some (.ref st.length), some (.ref (st.length + 1)), some (.int p), some (.int w), t7, t8]
theorem for_step {wk : Wk} {p : Pt} {S : IS} {n i : Nat} {env env1 e2 : Ev} {st st2 : Sto} {d : D} (h1 : wk i st = some (some d)) (h2 : p.put d env = some env1) (h3 : S env1 st = .ok (.nx e2) st2) : forGo wk p S (n + 1) i env st = forGo wk p S n (i + 1) e2 st2 := by
  rw [forGo]
  simp only [h1, h2, h3, Rs.bind_ok]
theorem for_ret {wk : Wk} {p : Pt} {S : IS} {n i : Nat} {env env1 : Ev} {st st2 : Sto} {d r : D} (h1 : wk i st = some (some d)) (h2 : p.put d env = some env1) (h3 : S env1 st = .ok (.rt r) st2) : forGo wk p S (n + 1) i env st = .ok (.rt r) st2 := by
  rw [forGo]
  simp only [h1, h2, h3, Rs.bind_ok]
theorem wk_r {n i : Nat} (h : i < n) (st : Sto) : wkRange 0 n i st = some (some (.int (i : Nat))) := by
  unfold wkRange
  rw [if_pos h]; simp
theorem run_law {c : Cd} (hc : c.Ok) {a b : D} {st : Sto} {row sent row' sent' : List Nat} {p v w' : Nat} (h : Go c row sent p v row' sent' w') : ∀ w : Nat, v = w + 1 → row.length = c.tops.length → sent.length = c.sends → ∀ (f i : Nat) (t7 t8 : Option D), i ≤ p → c.lines.length + 1 < f + i → forGo (wkRange 0 (c.lines.length + 1)) (.nm 7) L_law_code_run_1 f i (R1 c a b st p w t7 t8) (S2 st row sent) = .ok (.rt (.tup [.tup (nD row'), .tup (nD sent'), .int w'])) (S2 st row' sent') := by
  induction h with
  | @stop row sent p v hl =>
    intro w hv hr hs f i t7 t8 hi hf
    subst hv
    have hp := lt_of_get hl
    cases f with
    | zero => omega
    | succ f =>
      refine for_ret (wk_r (by omega) _) (put_nm _ _) ?_
      have g0 : gTuple [.ref st.length] (S2 st row sent) = .ok (.tup (nD row)) (S2 st row sent) := gTuple_ref s2_0
      have g1 : gTuple [.ref (st.length + 1)] (S2 st row sent) = .ok (.tup (nD sent)) (S2 st row sent) := gTuple_ref s2_1
      simp [L_law_code_run_1, R1, Cd.d, line_ix hl, Ln.d, g0, g1]
  | @raise row sent row' sent' p v w' r k hl g ih =>
    intro w hv hr hs f i t7 t8 hi hf
    subst hv
    have hp := lt_of_get hl
    cases f with
    | zero => omega
    | succ f =>
      obtain ⟨k1, k2⟩ := hc.lines p _ hl
      have h' := ih (w + 1) rfl (by simpa using hr) hs f (i + 1) (some (.int (i : Nat))) (some (Ln.raise r k).d) (by omega) (by omega)
      have e1 : ((row.getD r 0 : Int) + k) % ((c.tops.getD r 0 : Int) + 1) = (((row.getD r 0 + k) % (c.tops.getD r 0 + 1) : Nat) : Int) := by push_cast; rfl
      have z1 : (0 : Int) < (c.tops.getD r 0 : Int) + 1 := by omega
      rw [for_step (wk_r (by omega) _) (put_nm _ _) (e2 := R1 c a b st (p + 1) (w + 1) (some (.int (i : Nat))) (some (Ln.raise r k).d)) (st2 := S2 st (row.set r ((row.getD r 0 + k) % (c.tops.getD r 0 + 1))) sent) ?_]
      · exact h'
      · show L_law_code_run_1 (R1 c a b st p w (some (.int (i : Nat))) t8) (S2 st row sent) = _
        unfold L_law_code_run_1
        rw [seq_nx (e1 := R1 c a b st p (w + 1) (some (.int (i : Nat))) (some (Ln.raise r k).d)) (st1 := S2 st row sent) (by simp [R1, Cd.d, line_ix hl])]
        rw [seq_nx (e1 := R1 c a b st (p + 1) (w + 1) (some (.int (i : Nat))) (some (Ln.raise r k).d)) (st1 := S2 st row sent) (by simp [R1])]
        rw [seq_nx (e1 := R1 c a b st (p + 1) (w + 1) (some (.int (i : Nat))) (some (Ln.raise r k).d)) (st1 := S2 st row sent) (by simp [R1, Ln.d, s_ne])]
        simp only [R1, Ln.d, Cd.d]
        simp [s_ne2, s_ne3, s_ne4, s2_ix0 (by omega : r < row.length), top_ix k1, z1, e1, s2_st0 (by omega : r < row.length), -List.getD_eq_getElem?_getD, -Int.natCast_emod, -Int.natCast_add]
  | @clear row sent row' sent' p v w' r hl g ih =>
    intro w hv hr hs f i t7 t8 hi hf
    subst hv
    have hp := lt_of_get hl
    cases f with
    | zero => omega
    | succ f =>
      have k1 : r < c.tops.length := hc.lines p _ hl
      have h' := ih (w + 1) rfl (by simpa using hr) hs f (i + 1) (some (.int (i : Nat))) (some (Ln.clear r).d) (by omega) (by omega)
      have e0 : gSetIx (.ref st.length) (.int r) (.int 0) (S2 st row sent) = .ok () (S2 st (row.set r 0) sent) := s2_st0 (st := st) (sent := sent) (by omega : r < row.length) 0
      rw [for_step (wk_r (by omega) _) (put_nm _ _) (e2 := R1 c a b st (p + 1) (w + 1) (some (.int (i : Nat))) (some (Ln.clear r).d)) (st2 := S2 st (row.set r 0) sent) ?_]
      · exact h'
      · show L_law_code_run_1 (R1 c a b st p w (some (.int (i : Nat))) t8) (S2 st row sent) = _
        unfold L_law_code_run_1
        rw [seq_nx (e1 := R1 c a b st p (w + 1) (some (.int (i : Nat))) (some (Ln.clear r).d)) (st1 := S2 st row sent) (by simp [R1, Cd.d, line_ix hl])]
        rw [seq_nx (e1 := R1 c a b st (p + 1) (w + 1) (some (.int (i : Nat))) (some (Ln.clear r).d)) (st1 := S2 st row sent) (by simp [R1])]
        rw [seq_nx (e1 := R1 c a b st (p + 1) (w + 1) (some (.int (i : Nat))) (some (Ln.clear r).d)) (st1 := S2 st row sent) (by simp [R1, Ln.d, s_ne])]
        simp only [R1, Ln.d, Cd.d]
        simp [s_ne2, s_ne3, s_ne4, e0, -List.getD_eq_getElem?_getD, -Int.natCast_emod, -Int.natCast_add]
  | @send row sent row' sent' p v w' s k hl g ih =>
    intro w hv hr hs f i t7 t8 hi hf
    subst hv
    have hp := lt_of_get hl
    cases f with
    | zero => omega
    | succ f =>
      obtain ⟨k1, k2⟩ := hc.lines p _ hl
      have h' := ih (w + 1) rfl hr (by simpa using hs) f (i + 1) (some (.int (i : Nat))) (some (Ln.send s k).d) (by omega) (by omega)
      have e1 : ((sent.getD s 0 : Int) + k) = ((sent.getD s 0 + k : Nat) : Int) := by push_cast; rfl
      rw [for_step (wk_r (by omega) _) (put_nm _ _) (e2 := R1 c a b st (p + 1) (w + 1) (some (.int (i : Nat))) (some (Ln.send s k).d)) (st2 := S2 st row (sent.set s (sent.getD s 0 + k))) ?_]
      · exact h'
      · show L_law_code_run_1 (R1 c a b st p w (some (.int (i : Nat))) t8) (S2 st row sent) = _
        unfold L_law_code_run_1
        rw [seq_nx (e1 := R1 c a b st p (w + 1) (some (.int (i : Nat))) (some (Ln.send s k).d)) (st1 := S2 st row sent) (by simp [R1, Cd.d, line_ix hl])]
        rw [seq_nx (e1 := R1 c a b st (p + 1) (w + 1) (some (.int (i : Nat))) (some (Ln.send s k).d)) (st1 := S2 st row sent) (by simp [R1])]
        rw [seq_nx (e1 := R1 c a b st (p + 1) (w + 1) (some (.int (i : Nat))) (some (Ln.send s k).d)) (st1 := S2 st row sent) (by simp [R1, Ln.d, s_ne])]
        simp only [R1, Ln.d, Cd.d]
        simp [s_ne2, s_ne3, s_ne4, e1, s2_ix1 (by omega : s < sent.length), s2_st1 (by omega : s < sent.length), -List.getD_eq_getElem?_getD, -Int.natCast_emod, -Int.natCast_add]
  | @over row sent row' sent' p v w' r k t1 hl hz g ih =>
    intro w hv hr hs f i t7 t8 hi hf
    subst hv
    have hp := lt_of_get hl
    cases f with
    | zero => omega
    | succ f =>
      obtain ⟨k1, k2, k3⟩ := hc.lines p _ hl
      have h' := ih (w + 1) rfl hr hs f (i + 1) (some (.int (i : Nat))) (some (Ln.under r k t1).d) (by omega) (by omega)
      have z1 : (k : Int) ≤ (row.getD r 0 : Nat) := by omega
      have z2 : ¬ (row.getD r 0 : Int) < (k : Nat) := by omega
      rw [for_step (wk_r (by omega) _) (put_nm _ _) (e2 := R1 c a b st t1 (w + 1) (some (.int (i : Nat))) (some (Ln.under r k t1).d)) (st2 := S2 st row sent) ?_]
      · exact h'
      · show L_law_code_run_1 (R1 c a b st p w (some (.int (i : Nat))) t8) (S2 st row sent) = _
        unfold L_law_code_run_1
        rw [seq_nx (e1 := R1 c a b st p (w + 1) (some (.int (i : Nat))) (some (Ln.under r k t1).d)) (st1 := S2 st row sent) (by simp [R1, Cd.d, line_ix hl])]
        rw [seq_nx (e1 := R1 c a b st (p + 1) (w + 1) (some (.int (i : Nat))) (some (Ln.under r k t1).d)) (st1 := S2 st row sent) (by simp [R1])]
        rw [seq_nx (e1 := R1 c a b st (p + 1) (w + 1) (some (.int (i : Nat))) (some (Ln.under r k t1).d)) (st1 := S2 st row sent) (by simp [R1, Ln.d, s_ne])]
        simp only [R1, Ln.d, Cd.d]
        simp [s_ne2, s_ne3, s_ne4, s2_ix0 (by omega : r < row.length), z1, z2, hz, -List.getD_eq_getElem?_getD, -Int.natCast_emod, -Int.natCast_add]
  | @under row sent row' sent' p v w' r k t1 hl hz g ih =>
    intro w hv hr hs f i t7 t8 hi hf
    subst hv
    have hp := lt_of_get hl
    cases f with
    | zero => omega
    | succ f =>
      obtain ⟨k1, k2, k3⟩ := hc.lines p _ hl
      have h' := ih (w + 1) rfl hr hs f (i + 1) (some (.int (i : Nat))) (some (Ln.under r k t1).d) (by omega) (by omega)
      have z1 : (row.getD r 0 : Int) < (k : Nat) := by omega
      rw [for_step (wk_r (by omega) _) (put_nm _ _) (e2 := R1 c a b st (p + 1) (w + 1) (some (.int (i : Nat))) (some (Ln.under r k t1).d)) (st2 := S2 st row sent) ?_]
      · exact h'
      · show L_law_code_run_1 (R1 c a b st p w (some (.int (i : Nat))) t8) (S2 st row sent) = _
        unfold L_law_code_run_1
        rw [seq_nx (e1 := R1 c a b st p (w + 1) (some (.int (i : Nat))) (some (Ln.under r k t1).d)) (st1 := S2 st row sent) (by simp [R1, Cd.d, line_ix hl])]
        rw [seq_nx (e1 := R1 c a b st (p + 1) (w + 1) (some (.int (i : Nat))) (some (Ln.under r k t1).d)) (st1 := S2 st row sent) (by simp [R1])]
        rw [seq_nx (e1 := R1 c a b st (p + 1) (w + 1) (some (.int (i : Nat))) (some (Ln.under r k t1).d)) (st1 := S2 st row sent) (by simp [R1, Ln.d, s_ne])]
        simp only [R1, Ln.d, Cd.d]
        simp [s_ne2, s_ne3, s_ne4, s2_ix0 (by omega : r < row.length), z1, hz, -List.getD_eq_getElem?_getD, -Int.natCast_emod, -Int.natCast_add]
  | @go row sent row' sent' p v w' t1 hl g ih =>
    intro w hv hr hs f i t7 t8 hi hf
    subst hv
    have hp := lt_of_get hl
    cases f with
    | zero => omega
    | succ f =>
      obtain ⟨k1, k2⟩ := hc.lines p _ hl
      have h' := ih (w + 1) rfl hr hs f (i + 1) (some (.int (i : Nat))) (some (Ln.go t1).d) (by omega) (by omega)
      rw [for_step (wk_r (by omega) _) (put_nm _ _) (e2 := R1 c a b st t1 (w + 1) (some (.int (i : Nat))) (some (Ln.go t1).d)) (st2 := S2 st row sent) ?_]
      · exact h'
      · show L_law_code_run_1 (R1 c a b st p w (some (.int (i : Nat))) t8) (S2 st row sent) = _
        unfold L_law_code_run_1
        rw [seq_nx (e1 := R1 c a b st p (w + 1) (some (.int (i : Nat))) (some (Ln.go t1).d)) (st1 := S2 st row sent) (by simp [R1, Cd.d, line_ix hl])]
        rw [seq_nx (e1 := R1 c a b st (p + 1) (w + 1) (some (.int (i : Nat))) (some (Ln.go t1).d)) (st1 := S2 st row sent) (by simp [R1])]
        rw [seq_nx (e1 := R1 c a b st (p + 1) (w + 1) (some (.int (i : Nat))) (some (Ln.go t1).d)) (st1 := S2 st row sent) (by simp [R1, Ln.d, s_ne])]
        simp only [R1, Ln.d, Cd.d]
        simp [s_ne2, s_ne3, s_ne4, -List.getD_eq_getElem?_getD, -Int.natCast_emod, -Int.natCast_add]
theorem e_law_code_run {c : Cd} (hc : c.Ok) {st : Sto} (hcl : Closed st) {row : List Nat} {l e : Nat} (hr : row.length = c.tops.length) (hl : c.ent[l]? = some e) {row' sent' : List Nat} {w' : Nat} (h : Go c row (List.replicate c.sends 0) e 1 row' sent' w') :
    G_law_code_run [c.d, .tup (nD row), .int l] st = .ok (.tup [.tup (nD row'), .tup (nD sent'), .int w']) st := by
  have hlen := hc.len
  have h1 := run_law hc (a := .tup (nD row)) (b := .int l) (st := st) h 0 rfl hr (by simp) 16777215 0 none none (Nat.zero_le _) (by omega)
  refine run_more (j := [.lst (nD row'), .lst (nD sent')]) hcl (by simp) ?_
  show B_law_code_run [some c.d, some (.tup (nD row)), some (.int l), none, none, none, none, none, none] st = _
  unfold B_law_code_run
  have z1 := hc.sends
  have hl2 : ∀ st : Sto, gIx (.tup (nD c.ent)) (.int l) st = .ok (.int e) st := fun st => gIx_nat (xs := nD c.ent) rfl (by rw [nD_get, hl]; rfl)
  have hm : gMul (.rol [.int 0]) (.int c.sends) (st ++ [.lst (nD row)]) = .ok (.rol (nD (List.replicate c.sends 0))) (st ++ [.lst (nD row)]) := by
    simp only [gMul, listAt_rol]
    rw [if_pos ⟨by omega, by omega, by simp; omega⟩]
    simp [nD]
  rw [seq_nx (e1 := R1 c (.tup (nD row)) (.int l) st e 0 none none) (st1 := S2 st row (List.replicate c.sends 0)) (by
    simp [R1, Cd.d, hl2, hm, fLst, S2])]
  rw [seq_rt ((for_eq (walkC_eq (ds := [.int (c.lines.length + 1 : Nat)]) (st1 := S2 st row (List.replicate c.sends 0)) (by simp [R1, Cd.d]) (fRange1_nat (by omega)))).trans h1)]
  simp only [S2]
/-- what the law's run gives -/
theorem runs {c : Cd} (hc : c.Ok) {row : List Nat} {l : Nat} (hr : c.In row) (hl : l < c.ent.length) : ∃ row' sent' w', c.In row' ∧ sent'.length = c.sends ∧ (∀ (i x : Nat), sent'[i]? = some x → x ≤ 999 * c.lines.length) ∧ ∀ st : Sto, Closed st →
    G_law_code_run [c.d, .tup (nD row), .int l] st = .ok (.tup [.tup (nD row'), .tup (nD sent'), .int (w' : Nat)]) st := by
  have he : c.ent[l]? = some c.ent[l] := List.getElem?_eq_getElem hl
  have hel := hc.ent _ (List.mem_of_getElem? he)
  generalize c.ent[l] = e at he hel
  obtain ⟨row', sent', w', g, hw⟩ := Go.ex hc (c.lines.length - e) e 1 row (List.replicate c.sends 0) hel (by omega)
  have hlen := hc.len
  refine ⟨row', sent', w', g.ins hr, by rw [g.keeps.2]; simp, fun i x hx => ?_, fun st hcl => e_law_code_run hc hcl hr.1 he g⟩
  have h1 := g.few hc i x hx
  have h2 : (List.replicate c.sends 0).getD i 0 = 0 := by rw [List.getD_eq_getElem?_getD, List.getElem?_replicate]; split <;> rfl
  have h3 := g.le
  rw [h2] at h1
  have h4 : 999 * (w' - 1) ≤ 999 * c.lines.length := Nat.mul_le_mul_left _ (by omega)
  omega
end F33
end QI

/-! the rows that a code comes to -/
namespace QI
open PySem PySem.Spec PyProof.Rows L2
namespace F33
open Classical in
/-- row and sends behind a letter -/
noncomputable def nx (c : Cd) (row : List Nat) (l : Nat) : List Nat × List Nat :=
  if h : c.Ok ∧ c.In row ∧ l < c.ent.length then ((runs h.1 h.2.1 h.2.2).choose, (runs h.1 h.2.1 h.2.2).choose_spec.choose) else ([], [])
theorem nx_ok {c : Cd} (hc : c.Ok) {row : List Nat} {l : Nat} (hr : c.In row) (hl : l < c.ent.length) : c.In (nx c row l).1 ∧ (nx c row l).2.length = c.sends ∧ (∀ (i x : Nat), (nx c row l).2[i]? = some x → x ≤ 999 * c.lines.length) ∧ ∃ w', ∀ st : Sto, Closed st →
    G_law_code_run [c.d, .tup (nD row), .int l] st = .ok (.tup [.tup (nD (nx c row l).1), .tup (nD (nx c row l).2), .int (w' : Nat)]) st := by
  have h : c.Ok ∧ c.In row ∧ l < c.ent.length := ⟨hc, hr, hl⟩
  have e : nx c row l = ((runs h.1 h.2.1 h.2.2).choose, (runs h.1 h.2.1 h.2.2).choose_spec.choose) := by unfold nx; rw [dif_pos h]
  rw [e]
  obtain ⟨w', h1, h2, h3, h4⟩ := (runs h.1 h.2.1 h.2.2).choose_spec.choose_spec
  exact ⟨h1, h2, h3, w', h4⟩
/-- the rows met, letter by letter -/
noncomputable def addL (c : Cd) (row : List Nat) (rows : List (List Nat)) : Nat → List (List Nat)
  | 0 => rows
  | l + 1 => if (nx c row l).1 ∈ addL c row rows l then addL c row rows l else addL c row rows l ++ [(nx c row l).1]
theorem addL_pre (c : Cd) (row : List Nat) (rows : List (List Nat)) (l : Nat) : rows <+: addL c row rows l := by
  induction l with
  | zero => exact List.prefix_refl _
  | succ l ih =>
    simp only [addL]
    split
    · exact ih
    · exact ih.trans (List.prefix_append _ _)
theorem addL_nd (c : Cd) (row : List Nat) {rows : List (List Nat)} (h : rows.Nodup) (l : Nat) : (addL c row rows l).Nodup := by
  induction l with
  | zero => exact h
  | succ l ih =>
    simp only [addL]
    split
    · exact ih
    · rename_i hz
      rw [List.nodup_append]
      exact ⟨ih, by simp, fun a ha b hb => by simp at hb; subst hb; exact fun z => hz (z ▸ ha)⟩
theorem addL_in {c : Cd} (hc : c.Ok) {row : List Nat} (hr : c.In row) {rows : List (List Nat)} (h : ∀ r ∈ rows, c.In r) (l : Nat) (hl : l ≤ c.ent.length) : ∀ r ∈ addL c row rows l, c.In r := by
  induction l with
  | zero => exact h
  | succ l ih =>
    simp only [addL]
    split
    · exact ih (by omega)
    · intro r hm
      rcases List.mem_append.mp hm with hm | hm
      · exact ih (by omega) r hm
      · simp at hm
        subst hm
        exact (nx_ok hc hr (by omega)).1
theorem len_filter (B : Nat) : ∀ l : List Nat, l.Nodup → l.length ≤ (l.filter fun x => decide (x ≠ B)).length + 1
  | [], _ => by simp
  | x :: l, h => by
    rw [List.nodup_cons] at h
    by_cases e : x = B
    · subst e
      have : l.filter (fun y => decide (y ≠ x)) = l := by
        rw [List.filter_eq_self]
        intro a ha
        have : a ≠ x := fun z => h.1 (z ▸ ha)
        simpa using this
      rw [List.filter_cons_of_neg (by simp), this]
      simp
    · rw [List.filter_cons_of_pos (by simpa using e)]
      have := len_filter B l h.2
      simp only [List.length_cons]
      omega
theorem nodup_le : ∀ (B : Nat) (l : List Nat), l.Nodup → (∀ x ∈ l, x < B) → l.length ≤ B
  | 0, l, _, h => by
    cases l with
    | nil => simp
    | cons x l => exact absurd (h x List.mem_cons_self) (by omega)
  | B + 1, l, hn, h => by
    have h1 := nodup_le B (l.filter fun x => decide (x ≠ B)) (hn.sublist List.filter_sublist) (fun x hx => by
      have h2 := List.mem_filter.mp hx
      have h3 := h x h2.1
      have : x ≠ B := by simpa using h2.2
      omega)
    have := len_filter B l hn
    omega
/-- a row as a number -/
def enc : List Nat → List Nat → Nat
  | [], _ => 0
  | _ :: _, [] => 0
  | t :: ts, x :: xs => x + (t + 1) * enc ts xs
def many : List Nat → Nat
  | [] => 1
  | t :: ts => (t + 1) * many ts
def Fit : List Nat → List Nat → Prop
  | [], [] => True
  | t :: ts, x :: xs => x ≤ t ∧ Fit ts xs
  | _, _ => False
theorem fit_of : ∀ {ts xs : List Nat}, xs.length = ts.length → (∀ (r x t : Nat), xs[r]? = some x → ts[r]? = some t → x ≤ t) → Fit ts xs
  | [], [], _, _ => trivial
  | [], _ :: _, h, _ => by simp at h
  | _ :: _, [], h, _ => by simp at h
  | t :: ts, x :: xs, h, h2 => ⟨h2 0 x t rfl rfl, fit_of (by simpa using h) fun r a b h3 h4 => h2 (r + 1) a b (by simpa using h3) (by simpa using h4)⟩
theorem enc_lt : ∀ {ts xs : List Nat}, Fit ts xs → enc ts xs < many ts
  | [], [], _ => by simp [enc, many]
  | t :: ts, x :: xs, h => by
    have := enc_lt h.2
    have h1 := h.1
    simp only [enc, many]
    have : (t + 1) * (enc ts xs + 1) ≤ (t + 1) * many ts := Nat.mul_le_mul_left _ this
    rw [Nat.mul_add] at this
    omega
  | [], _ :: _, h => h.elim
  | _ :: _, [], h => h.elim
theorem enc_inj : ∀ {ts xs ys : List Nat}, Fit ts xs → Fit ts ys → enc ts xs = enc ts ys → xs = ys
  | [], [], [], _, _, _ => rfl
  | t :: ts, x :: xs, y :: ys, h1, h2, h => by
    simp only [enc] at h
    have e1 : x = y := by
      have a := congrArg (· % (t + 1)) h
      simp only [Nat.add_mul_mod_self_left] at a
      rw [Nat.mod_eq_of_lt (by have := h1.1; omega), Nat.mod_eq_of_lt (by have := h2.1; omega)] at a
      exact a
    subst e1
    have e2 : enc ts xs = enc ts ys := Nat.eq_of_mul_eq_mul_left (Nat.succ_pos t) (show (t + 1) * enc ts xs = (t + 1) * enc ts ys by omega)
    rw [enc_inj h1.2 h2.2 e2]
  | [], [], _ :: _, _, h, _ => h.elim
  | [], _ :: _, _, h, _, _ => h.elim
  | _ :: _, [], _, h, _, _ => h.elim
  | _ :: _, _ :: _, [], _, h, _ => h.elim
theorem rows_le {c : Cd} {rows : List (List Nat)} (h : rows.Nodup) (hin : ∀ r ∈ rows, c.In r) : rows.length ≤ many c.tops := by
  have hf : ∀ r ∈ rows, Fit c.tops r := fun r hr => fit_of (hin r hr).1 (hin r hr).2
  have := nodup_le (many c.tops) (rows.map (enc c.tops)) ?_ ?_
  · simpa using this
  · clear hin
    induction rows with
    | nil => simp
    | cons r rows ih =>
      rw [List.map_cons, List.nodup_cons]
      rw [List.nodup_cons] at h
      refine ⟨fun z => ?_, ih h.2 fun r hr => hf r (List.mem_cons_of_mem _ hr)⟩
      obtain ⟨q, hq, e⟩ := List.mem_map.mp z
      exact h.1 (enc_inj (hf q (List.mem_cons_of_mem _ hq)) (hf r List.mem_cons_self) e ▸ hq)
  · intro x hx
    obtain ⟨r, hr, rfl⟩ := List.mem_map.mp hx
    exact enc_lt (hf r hr)
/-- the rows met when n rows are worked through -/
noncomputable def bf (c : Cd) : Nat → List (List Nat)
  | 0 => [List.replicate c.tops.length 0]
  | n + 1 => match (bf c n)[n]? with
    | some row => addL c row (bf c n) c.ent.length
    | none => bf c n
theorem bf_pre (c : Cd) (n : Nat) : bf c n <+: bf c (n + 1) := by
  simp only [bf]
  split
  · exact addL_pre _ _ _ _
  · exact List.prefix_refl _
theorem bf_ok {c : Cd} (hc : c.Ok) (n : Nat) : (bf c n).Nodup ∧ ∀ r ∈ bf c n, c.In r := by
  induction n with
  | zero =>
    refine ⟨by simp [bf], fun r hr => ?_⟩
    simp [bf] at hr
    subst hr
    refine ⟨by simp, fun i x t h1 h2 => ?_⟩
    rw [List.getElem?_replicate] at h1
    split at h1
    · cases h1; exact Nat.zero_le _
    · cases h1
  | succ n ih =>
    simp only [bf]
    split
    · rename_i row h
      exact ⟨addL_nd c row ih.1 _, addL_in hc (ih.2 row (List.mem_of_getElem? h)) ih.2 _ (Nat.le_refl _)⟩
    · exact ih
/-- the walk ends -/
theorem bf_end {c : Cd} (hc : c.Ok) : ∃ N, N ≤ many c.tops ∧ (bf c N).length = N ∧ ∀ n, n < N → n < (bf c n).length := by
  have key : ∀ M : Nat, (∃ N, N ≤ M ∧ (bf c N).length = N ∧ ∀ n, n < N → n < (bf c n).length) ∨ ∀ n, n ≤ M → n < (bf c n).length := by
    intro M
    induction M with
    | zero => right; intro n hn; have : n = 0 := by omega
              subst this; simp [bf]
    | succ M ih =>
      rcases ih with ⟨N, h1, h2, h3⟩ | ih
      · exact .inl ⟨N, by omega, h2, h3⟩
      · by_cases e : M + 1 < (bf c (M + 1)).length
        · right
          intro n hn
          by_cases z : n ≤ M
          · exact ih n z
          · have : n = M + 1 := by omega
            subst this; exact e
        · left
          have h1 := ih M (Nat.le_refl _)
          have h2 := (bf_pre c M).length_le
          exact ⟨M + 1, Nat.le_refl _, by omega, fun n hn => ih n (by omega)⟩
  rcases key (many c.tops) with h | h
  · exact h
  · have h1 := h (many c.tops) (Nat.le_refl _)
    have h2 := rows_le (bf_ok hc (many c.tops)).1 (bf_ok hc (many c.tops)).2
    omega
end F33
end QI

/-! machine_of_code -/
namespace QI
open PySem PySem.Spec PyProof.Rows L2
namespace F33
def rwD (r : List Nat) : D := .tup (nD r)
def kyR (r : List Nat) : List Key := r.map fun n : Nat => Sum.inl (n : Int)
theorem keys_nD (r : List Nat) : D.keys (nD r) = some (kyR r) := by
  induction r with
  | nil => rfl
  | cons n r ih =>
    simp only [nD_cons, D.keys, D.key, ih]
    rfl
theorem kyR_inj {a b : List Nat} (h : kyR a = kyR b) : a = b := by
  induction a generalizing b with
  | nil => cases b with
    | nil => rfl
    | cons _ _ => cases h
  | cons x a ih => cases b with
    | nil => cases h
    | cons y b =>
      simp only [kyR, List.map_cons, List.cons.injEq, Sum.inl.injEq] at h
      rw [Int.ofNat.inj h.1, ih h.2]
/-- the dict of rows: v tells what stands at a row, by its place -/
def plc (v : Nat → D) (rows : List (List Nat)) : List (List Key × D) := rows.mapIdx fun i r => (kyR r, v i)
theorem plc_app (v : Nat → D) (rows : List (List Nat)) (r : List Nat) : plc v (rows ++ [r]) = plc v rows ++ [(kyR r, v rows.length)] := by
  simp [plc, List.mapIdx_append]
theorem plc_len (v : Nat → D) (rows : List (List Nat)) : (plc v rows).length = rows.length := by simp [plc]
theorem plc_none {v : Nat → D} {rows : List (List Nat)} {r : List Nat} (h : r ∉ rows) : valD (plc v rows) (kyR r) = none := by
  unfold valD
  rw [Option.map_eq_none_iff, List.find?_eq_none]
  intro p hp
  obtain ⟨i, hi, e⟩ := List.mem_mapIdx.mp hp
  subst e
  simp only [decide_eq_true_eq]
  intro z
  exact h (kyR_inj z ▸ List.getElem_mem hi)
theorem plc_some {v : Nat → D} {rows : List (List Nat)} {r : List Nat} {i : Nat} (hn : rows.Nodup) (h : rows[i]? = some r) : valD (plc v rows) (kyR r) = some (v i) := by
  induction rows generalizing v i with
  | nil => cases h
  | cons q rows ih =>
    rw [List.nodup_cons] at hn
    have e : plc v (q :: rows) = (kyR q, v 0) :: plc (fun i => v (i + 1)) rows := by simp [plc, List.mapIdx_cons]
    rw [e]
    unfold valD
    cases i with
    | zero =>
      cases h
      simp
    | succ i =>
      have h : rows[i]? = some r := by simpa using h
      have hne : ¬ kyR q = kyR r := fun z => hn.1 (kyR_inj z ▸ List.mem_of_getElem? h)
      rw [List.find?_cons_of_neg (by simpa using hne)]
      exact ih (v := fun i => v (i + 1)) hn.2 h
theorem plc_put {v : Nat → D} {rows : List (List Nat)} {r : List Nat} (h : r ∉ rows) : putD (plc v rows) (kyR r) (v rows.length) = plc v (rows ++ [r]) := by
  unfold putD
  rw [if_neg, plc_app]
  intro z
  obtain ⟨p, hp, e⟩ := List.any_eq_true.mp z
  obtain ⟨i, hi, e2⟩ := List.mem_mapIdx.mp hp
  subst e2
  simp only [decide_eq_true_eq] at e
  exact h (kyR_inj e ▸ List.getElem_mem hi)
theorem addL_succ (c : Cd) (row : List Nat) (rows : List (List Nat)) (l : Nat) : addL c row rows (l + 1) = if (nx c row l).1 ∈ addL c row rows l then addL c row rows l else addL c row rows l ++ [(nx c row l).1] := rfl
def Pln (ds : List D) : Prop := ∀ n, D.loAll n ds = true
def PlnS (g : Sto) : Prop := ∀ (n : Nat), ∀ c ∈ g, Cell.lo n c = true
theorem rwD_lo (n : Nat) (rows : List (List Nat)) : D.loAll n (rows.map rwD) = true := by
  rw [loAll_iff]; intro d hd; obtain ⟨r, _, rfl⟩ := List.mem_map.mp hd; simp [rwD]
theorem gMul0 (n : Nat) (h : n ≤ 1000) (st : Sto) : gMulA (.tup [.int 0]) (.int (n : Nat)) st = .ok (rwD (List.replicate n 0)) st := by
  rw [gMulA_tup]
  unfold gMulT
  simp only []
  rw [if_pos ⟨by omega, by omega⟩]
  by_cases h1 : n = 1
  · subst h1
    simp [rwD]
  · rw [if_neg (by simp; omega)]
    by_cases h0 : n = 0
    · subst h0
      simp [rwD]
    · rw [if_neg (by omega), if_pos ⟨by omega, by simp⟩]
      simp [rwD, nD, List.flatten_replicate_singleton]
theorem plnS_app {g : Sto} {steps : List D} (h : PlnS g) (hs : Pln steps) : PlnS (g ++ [.lst steps]) := fun n x hx => by
  rcases List.mem_append.mp hx with h1 | h1
  · exact h n x h1
  · rw [List.mem_singleton] at h1; subst h1; exact hs n
end F33
end QI

/-! the law's own rows of a code -/
namespace QI
open PySem PySem.Spec PyProof.Rows L2
/-- a run whose value keeps the new cells -/
theorem run_keep {N : List Str} {B : IS} {ds : List D} {st st' : Sto} {d : D} (hn : d.lo st.length = false) (hl : st.length ≤ st'.length) (hd : d.lo st'.length = true) (hc : Closed st') (h : B (startE N ds) st = .ok (.rt d) st') : run N B ds st = .ok d st' := by
  unfold run
  rw [h]
  show trim st _ _ = _
  unfold trim
  rw [if_neg (by simp [hn]), if_pos ⟨hl, hd, hc⟩]
namespace F33
/-- the store of _law_code_rows: rows, refs of what was found, the dict, old finds, the finds in the making -/
def LS (st : Sto) (rows : List (List Nat)) (refs : List D) (g : Sto) (fnd : List D) : Sto := st ++ (.lst (rows.map rwD) :: .lst refs :: .dt (plc (fun _ => .bl true) rows) :: (g ++ [.lst fnd]))
def L0 (st : Sto) (rows : List (List Nat)) (refs : List D) (g : Sto) : Sto := st ++ (.lst (rows.map rwD) :: .lst refs :: .dt (plc (fun _ => .bl true) rows) :: g)
section
variable {c : Cd} {st g : Sto} {rows : List (List Nat)} {refs fnd : List D}
theorem ls_0 : (LS st rows refs g fnd)[st.length]? = some (.lst (rows.map rwD)) := by simp [LS]
theorem ls_1 : (LS st rows refs g fnd)[st.length + 1]? = some (.lst refs) := by
  unfold LS
  rw [List.getElem?_append_right (by omega), show st.length + 1 - st.length = 1 by omega]; rfl
theorem ls_2 : (LS st rows refs g fnd)[st.length + 2]? = some (.dt (plc (fun _ => .bl true) rows)) := by
  unfold LS
  rw [List.getElem?_append_right (by omega), show st.length + 2 - st.length = 2 by omega]; rfl
theorem ls_3 : (LS st rows refs g fnd)[st.length + 3 + g.length]? = some (.lst fnd) := by
  unfold LS
  rw [List.getElem?_append_right (by omega), show st.length + 3 + g.length - st.length = g.length + 1 + 1 + 1 by omega]
  simp
theorem ls_put {r : List Nat} (h : r ∉ rows) : setL ((LS st rows refs g fnd).set (st.length + 2) (.dt (plc (fun _ => .bl true) (rows ++ [r])))) st.length ((rows.map rwD) ++ [rwD r]) = LS st (rows ++ [r]) refs g fnd := by
  unfold LS setL
  rw [List.set_append_right _ _ (by omega), show st.length + 2 - st.length = 2 by omega, List.set_append_right _ _ (by omega), Nat.sub_self]
  simp
theorem ls_set3 (ys : List D) : setL (LS st rows refs g fnd) (st.length + 3 + g.length) ys = LS st rows refs g ys := by
  unfold LS setL
  rw [List.set_append_right _ _ (by omega), show st.length + 3 + g.length - st.length = g.length + 1 + 1 + 1 by omega]
  simp
theorem ls_dat {r : List Nat} : gDat (LS st rows refs g fnd) (.ref (st.length + 2)) (rwD r) = some (valD (plc (fun _ => .bl true) rows) (kyR r)) := by
  unfold gDat rwD
  simp only [ls_2, keys_nD]
  rfl
theorem ls_isD : isD (LS st rows refs g fnd) (.ref (st.length + 2)) = true := by simp only [isD, ls_2]
theorem l0_len : (L0 st rows refs g).length = st.length + 3 + g.length := by simp [L0]; omega
theorem l0_new : L0 st rows refs g ++ [.lst []] = LS st rows refs g [] := by simp [L0, LS]
theorem l0_0 : (L0 st rows refs g)[st.length]? = some (.lst (rows.map rwD)) := by simp [L0]
theorem l0_1 : (L0 st rows refs g)[st.length + 1]? = some (.lst refs) := by
  unfold L0
  rw [List.getElem?_append_right (by omega), show st.length + 1 - st.length = 1 by omega]; rfl
theorem ls_fin (ys : List D) : setL (LS st rows refs g fnd) (st.length + 1) ys = L0 st rows ys (g ++ [.lst fnd]) := by
  unfold LS L0 setL
  rw [List.set_append_right _ _ (by omega), show st.length + 1 - st.length = 1 by omega]
  simp
theorem l0_closed (hc : Closed st) (hr : D.loAll (st.length + 3 + g.length) refs = true) (hg : PlnS g) : Closed (L0 st rows refs g) := by
  intro x hx
  rw [l0_len]
  rcases List.mem_append.mp hx with h | h
  · exact Cell.lo_mono (by omega) (hc x h)
  · rcases List.mem_cons.mp h with rfl | h
    · exact rwD_lo _ _
    · rcases List.mem_cons.mp h with rfl | h
      · exact hr
      · rcases List.mem_cons.mp h with rfl | h
        · simp only [Cell.lo, List.all_eq_true]
          intro p hp
          obtain ⟨i, hi, e⟩ := List.mem_mapIdx.mp hp
          subst e
          simp
        · exact hg _ x h
theorem ls_closed (hc : Closed st) (hr : D.loAll (st.length + 3 + g.length) refs = true) (hg : PlnS g) (hs : Pln fnd) : Closed (LS st rows refs g fnd) := by
  have h1 : LS st rows refs g fnd = L0 st rows refs (g ++ [.lst fnd]) := by simp [LS, L0]
  rw [h1]
  exact l0_closed hc (D.loAll_mono (by simp) hr) (plnS_app hg hs)
theorem ldin_at {rows : List (List Nat)} {r : List Nat} (hn : rows.Nodup) : gNotInD (rwD r) (.ref (st.length + 2)) (LS st rows refs g fnd) = .ok (.bl (decide (r ∉ rows))) (LS st rows refs g fnd) := by
  unfold gNotInD gOr
  simp only [ls_isD, if_true, gDin, ls_dat]
  by_cases h : r ∈ rows
  · obtain ⟨i, hi⟩ := List.getElem?_of_mem h
    rw [plc_some hn hi]
    simp [h]
  · rw [plc_none h]
    simp [h]
/-- what is found for a row, letter by letter -/
noncomputable def fnd1 (c : Cd) (row : List Nat) (l : Nat) : List D := (List.range l).map fun l => .tup [rwD (nx c row l).1, .tup (nD (nx c row l).2)]
theorem fnd1_succ (c : Cd) (row : List Nat) (l : Nat) : fnd1 c row (l + 1) = fnd1 c row l ++ [.tup [rwD (nx c row l).1, .tup (nD (nx c row l).2)]] := by
  simp [fnd1, List.range_succ]
theorem fnd1_len (c : Cd) (row : List Nat) (l : Nat) : (fnd1 c row l).length = l := by simp [fnd1]
theorem fnd1_pln (c : Cd) (row : List Nat) (l : Nat) : Pln (fnd1 c row l) := by
  intro n
  rw [loAll_iff]
  intro d hd
  obtain ⟨l, _, rfl⟩ := List.mem_map.mp hd
  simp [rwD]
def F1 (c : Cd) (st g : Sto) (n : Nat) (t6 t7 t8 t9 : Option D) : Ev := [some c.d, some (.ref st.length), some (.ref (st.length + 1)), some (.int n), some (.ref (st.length + 2)), some (.ref (st.length + 3 + g.length)), t6, t7, t8, t9]
theorem l_step (hc : c.Ok) (hcl : Closed st) (href : D.loAll (st.length + 3 + g.length) refs = true) (hg : PlnS g) (hs : Pln fnd) (hn : rows.Nodup) {n : Nat} {row : List Nat} (hrow : rows[n]? = some row) (hin : c.In row) {l : Nat} (hl : l < c.ent.length) (hrl : rows.length < 100000) (hsl : fnd.length < 100000) {rows' : List (List Nat)}
    (hr' : rows' = if (nx c row l).1 ∈ rows then rows else rows ++ [(nx c row l).1]) (t7 t8 t9 : Option D) : ∃ t7' t8' t9', L_law_code_rows_1 (F1 c st g n (some (.int l)) t7 t8 t9) (LS st rows refs g fnd) =
      .ok (.nx (F1 c st g n (some (.int l)) t7' t8' t9')) (LS st rows' refs g (fnd ++ [.tup [rwD (nx c row l).1, .tup (nD (nx c row l).2)]])) := by
  obtain ⟨w', hrun⟩ := (nx_ok hc hin hl).2.2.2
  have hr := hrun _ (ls_closed (rows := rows) hcl href hg hs)
  have hix : gIx (.ref st.length) (.int n) (LS st rows refs g fnd) = .ok (.tup (nD row)) (LS st rows refs g fnd) := gIx_nat (seqAt_ref ls_0) (by rw [List.getElem?_map, hrow]; rfl)
  refine ⟨some (rwD (nx c row l).1), some (.tup (nD (nx c row l).2)), some (.int (w' : Nat)), ?_⟩
  unfold L_law_code_rows_1
  rw [seq_nx (e1 := F1 c st g n (some (.int l)) (some (rwD (nx c row l).1)) (some (.tup (nD (nx c row l).2))) (some (.int (w' : Nat)))) (st1 := LS st rows refs g fnd) (by simp [F1, hix, hr, rwD])]
  have hil : isLst (LS st rows refs g fnd) (.ref (st.length + 3 + g.length)) = true := isLst_ref ls_3
  have hap : gAppend (.ref (st.length + 3 + g.length)) [.tup [rwD (nx c row l).1, .tup (nD (nx c row l).2)]] (LS st rows refs g fnd) = .ok .non (LS st rows refs g (fnd ++ [.tup [rwD (nx c row l).1, .tup (nD (nx c row l).2)]])) := by
    rw [gAppend_at ls_3 (by omega), ls_set3]
  rw [seq_nx (e1 := F1 c st g n (some (.int l)) (some (rwD (nx c row l).1)) (some (.tup (nD (nx c row l).2))) (some (.int (w' : Nat)))) (st1 := LS st rows refs g (fnd ++ [.tup [rwD (nx c row l).1, .tup (nD (nx c row l).2)]])) (by simp [F1, hil, hap])]
  generalize fnd ++ [.tup [rwD (nx c row l).1, .tup (nD (nx c row l).2)]] = fn2
  have hin2 := ldin_at (st := st) (g := g) (refs := refs) (fnd := fn2) (r := (nx c row l).1) hn
  by_cases hz : (nx c row l).1 ∈ rows
  · rw [if_pos hz] at hr'
    subst hr'
    simp [F1, hin2, hz]
  · rw [if_neg hz] at hr'
    subst hr'
    have hset : gSetIxD (.ref (st.length + 2)) (rwD (nx c row l).1) (.bl true) (LS st rows refs g fn2) = .ok () ((LS st rows refs g fn2).set (st.length + 2) (.dt (plc (fun _ => .bl true) (rows ++ [(nx c row l).1])))) := by
      unfold gSetIxD
      rw [if_pos ls_isD]
      have : gDput (LS st rows refs g fn2) (.ref (st.length + 2)) (rwD (nx c row l).1) (.bl true) = some ((LS st rows refs g fn2).set (st.length + 2) (.dt (plc (fun _ => .bl true) (rows ++ [(nx c row l).1])))) := by
        unfold gDput rwD
        simp only [ls_2, keys_nD]
        rw [if_pos (by rw [plc_len]; omega)]
        rw [← plc_put (v := fun _ => D.bl true) hz]
      rw [this]
    have hx0 : ((LS st rows refs g fn2).set (st.length + 2) (.dt (plc (fun _ => .bl true) (rows ++ [(nx c row l).1]))))[st.length]? = some (.lst (rows.map rwD)) := by
      rw [List.getElem?_set_ne (by omega), ls_0]
    have hap : gAppend (.ref st.length) [rwD (nx c row l).1] ((LS st rows refs g fn2).set (st.length + 2) (.dt (plc (fun _ => .bl true) (rows ++ [(nx c row l).1])))) = .ok .non (LS st (rows ++ [(nx c row l).1]) refs g fn2) := by
      rw [gAppend_at hx0 (by simp; omega), ls_put hz]
    have hil : isLst ((LS st rows refs g fn2).set (st.length + 2) (.dt (plc (fun _ => .bl true) (rows ++ [(nx c row l).1])))) (.ref st.length) = true := isLst_ref hx0
    have hsx : ∀ (O I A : IE) (env : Ev) (s : Sto), sSetIxD O I A env s = (A env s).bind fun v st1 => (O env st1).bind fun o st2 => (I env st2).bind fun i st3 => (gSetIxD o i v st3).bind fun _ st4 => .ok (.nx env) st4 := fun _ _ _ _ _ => rfl
    simp [F1, hin2, hz, hsx, hset, hil, hap]
theorem l_letters {n : Nat} (hc : c.Ok) (hcl : Closed st) (href : D.loAll (st.length + 3 + g.length) refs = true) (hg : PlnS g) (hn : rows.Nodup) (hri : ∀ r ∈ rows, c.In r) (hmany : many c.tops < 10000) (hent : c.ent.length < 10000) {row : List Nat} (hrow : rows[n]? = some row) (t6 t7 t8 t9 : Option D) : ∃ t6' t7' t8' t9',
    forGo (wkRange 0 c.ent.length) (.nm 6) L_law_code_rows_1 16777215 0 (F1 c st g n t6 t7 t8 t9) (LS st rows refs g []) = .ok (.nx (F1 c st g n t6' t7' t8' t9')) (LS st (addL c row rows c.ent.length) refs g (fnd1 c row c.ent.length)) := by
  have hin := hri row (List.mem_of_getElem? hrow)
  obtain ⟨e', st', h1, ⟨t6', t7', t8', t9', rfl⟩, rfl⟩ := for_inv0 (wk := wkRange 0 c.ent.length) (p := .nm 6) (S := L_law_code_rows_1) (items := rangeD 0 c.ent.length) (fun l env s => (∃ t6 t7 t8 t9, env = F1 c st g n t6 t7 t8 t9) ∧ s = LS st (addL c row rows l) refs g (fnd1 c row l))
    (fun i env s _ => wkRange_at _ _ _ _)
    (fun l d env s hd h => by
      obtain ⟨⟨t6, t7, t8, t9, rfl⟩, rfl⟩ := h
      obtain ⟨hl, rfl⟩ := rangeD_get hd
      rw [Int.zero_add]
      have hnl := addL_nd c row hn l
      have hil := addL_in hc hin hri l (by omega)
      have hrow' : (addL c row rows l)[n]? = some row := by
        obtain ⟨z, hz⟩ := addL_pre c row rows l
        rw [← hz, List.getElem?_append_left (lt_of_get hrow)]; exact hrow
      have hfew := rows_le hnl hil
      obtain ⟨a, b, d, h⟩ := l_step (st := st) (g := g) hc hcl href hg (fnd1_pln c row l) hnl hrow' hin hl (by omega) (by rw [fnd1_len]; omega) (addL_succ c row rows l) t7 t8 t9
      rw [← fnd1_succ] at h
      exact ⟨_, put_nm _ _, _, _, .inl h, ⟨_, a, b, d, rfl⟩, rfl⟩)
    (n := 16777215) (env := F1 c st g n t6 t7 t8 t9) (st := LS st rows refs g []) (by simp; omega) ⟨⟨t6, t7, t8, t9, rfl⟩, rfl⟩
  rw [rangeD_len] at h1
  exact ⟨_, _, _, _, h1⟩
/-- the finds behind n rows, and the refs to them -/
noncomputable def fns (c : Cd) (N : Nat) (n : Nat) : Sto := (List.range n).map fun k => .lst (fnd1 c ((bf c N).getD k []) c.ent.length)
def rfs (k n : Nat) : List D := (List.range n).map fun i => .ref (k + 3 + i)
theorem bf_pre2 (c : Cd) {n m : Nat} (h : n ≤ m) : bf c n <+: bf c m := by
  induction h with
  | refl => exact List.prefix_refl _
  | step _ ih => exact ih.trans (bf_pre c _)
theorem bf_at {c : Cd} {n m : Nat} (h : n ≤ m) {k : Nat} {r : List Nat} (hr : (bf c n)[k]? = some r) : (bf c m)[k]? = some r := by
  obtain ⟨z, hz⟩ := bf_pre2 c h
  rw [← hz, List.getElem?_append_left (lt_of_get hr)]; exact hr
theorem fns_len (c : Cd) (N n : Nat) : (fns c N n).length = n := by simp [fns]
theorem fns_pln (c : Cd) (N n : Nat) : PlnS (fns c N n) := by
  intro k x hx
  obtain ⟨i, _, rfl⟩ := List.mem_map.mp hx
  exact fnd1_pln c _ _ k
theorem refs_lo (k n m : Nat) (h : k + 3 + n ≤ m) : D.loAll m (rfs k n) = true := by
  rw [loAll_iff]
  intro d hd
  obtain ⟨i, hi, rfl⟩ := List.mem_map.mp hd
  have := List.mem_range.mp hi
  simp; omega
theorem refs_succ (k n : Nat) : rfs k (n + 1) = rfs k n ++ [.ref (k + 3 + n)] := by simp [rfs, List.range_succ]
theorem refs_len (k n : Nat) : (rfs k n).length = n := by simp [rfs]
def F2 (c : Cd) (st : Sto) (n : Nat) (t5 t6 t7 t8 t9 : Option D) : Ev := [some c.d, some (.ref st.length), some (.ref (st.length + 1)), some (.int n), some (.ref (st.length + 2)), t5, t6, t7, t8, t9]
theorem l_row (hc : c.Ok) (hcl : Closed st) {n N : Nat} (hN : ∀ k, k < N → k < (bf c k).length) (hn : n < N) (hmany : many c.tops < 10000) (hent : c.ent.length < 10000) (t5 t6 t7 t8 t9 : Option D) :
    ∃ t5' t6' t7' t8' t9', L_law_code_rows_2 (F2 c st n t5 t6 t7 t8 t9) (L0 st (bf c n) (rfs st.length n) (fns c N n)) = .ok (.nx (F2 c st (n + 1) t5' t6' t7' t8' t9')) (L0 st (bf c (n + 1)) (rfs st.length (n + 1)) (fns c N (n + 1))) := by
  obtain ⟨row, hr⟩ : ∃ row, (bf c n)[n]? = some row := ⟨_, List.getElem?_eq_getElem (hN n hn)⟩
  have hb : bf c (n + 1) = addL c row (bf c n) c.ent.length := by simp only [bf]; rw [hr]
  have hf : fns c N (n + 1) = fns c N n ++ [.lst (fnd1 c row c.ent.length)] := by
    have : (bf c N).getD n [] = row := by rw [List.getD_eq_getElem?_getD, bf_at (by omega) hr]; rfl
    unfold fns
    rw [List.range_succ, List.map_append, List.map_cons, this]; rfl
  obtain ⟨h1, h2⟩ := bf_ok hc n
  obtain ⟨t6', t7', t8', t9', hl⟩ := l_letters (g := fns c N n) (refs := rfs st.length n) hc hcl (refs_lo _ _ _ (by rw [fns_len]; omega)) (fns_pln c N n) h1 h2 hmany hent (row := row) hr t6 t7 t8 t9
  have hrows := rows_le h1 h2
  have hN2 : n < 10000 := by have := lt_of_get hr; omega
  refine ⟨some (.ref (st.length + 3 + (fns c N n).length)), t6', t7', t8', t9', ?_⟩
  unfold L_law_code_rows_2
  rw [seq_nx (e1 := F1 c st (fns c N n) n t6 t7 t8 t9) (st1 := LS st (bf c n) (rfs st.length n) (fns c N n) []) (by simp [F2, F1, l0_len, l0_new])]
  rw [seq_nx ((for_eq (walkC_eq (ds := [.int (c.ent.length : Nat)]) (st1 := LS st (bf c n) (rfs st.length n) (fns c N n) []) (by simp [F1, Cd.d]) (fRange1_nat (by omega)))).trans hl)]
  have hap : gAppend (.ref (st.length + 1)) [.ref (st.length + 3 + (fns c N n).length)] (LS st (addL c row (bf c n) c.ent.length) (rfs st.length n) (fns c N n) (fnd1 c row c.ent.length)) = .ok .non (L0 st (bf c (n + 1)) (rfs st.length (n + 1)) (fns c N (n + 1))) := by
    rw [gAppend_at ls_1 (by rw [refs_len]; omega), ls_fin, hb, hf, refs_succ, fns_len]
  have hil : isLst (LS st (addL c row (bf c n) c.ent.length) (rfs st.length n) (fns c N n) (fnd1 c row c.ent.length)) (.ref (st.length + 1)) = true := isLst_ref ls_1
  rw [seq_nx (e1 := F1 c st (fns c N n) n t6' t7' t8' t9') (st1 := L0 st (bf c (n + 1)) (rfs st.length (n + 1)) (fns c N (n + 1))) (by simp [F1, hil, hap])]
  simp [F1, F2]
theorem l_loop (hc : c.Ok) (hcl : Closed st) {N : Nat} (hN : ∀ k, k < N → k < (bf c k).length) (hend : (bf c N).length = N) (hmany : many c.tops < 10000) (hent : c.ent.length < 10000) : ∀ (k n f : Nat) (t5 t6 t7 t8 t9 : Option D), n + k = N → k < f →
    ∃ t5' t6' t7' t8' t9', whileGo T_law_code_rows_2 L_law_code_rows_2 f (F2 c st n t5 t6 t7 t8 t9) (L0 st (bf c n) (rfs st.length n) (fns c N n)) = .ok (.nx (F2 c st N t5' t6' t7' t8' t9')) (L0 st (bf c N) (rfs st.length N) (fns c N N))
  | k, n, 0, t4, t5, t6, t7, t8, hk, hf => by omega
  | 0, n, f + 1, t5, t6, t7, t8, t9, hk, hf => by
    have : n = N := by omega
    subst this
    refine ⟨t5, t6, t7, t8, t9, ?_⟩
    have h0 : gLen [.ref st.length] (L0 st (bf c n) (rfs st.length n) (fns c n n)) = .ok (.int n) (L0 st (bf c n) (rfs st.length n) (fns c n n)) := by rw [gLen_ref l0_0]; simp [hend]
    unfold whileGo
    simp [T_law_code_rows_2, F2, h0]
  | k + 1, n, f + 1, t5, t6, t7, t8, t9, hk, hf => by
    have h0 : gLen [.ref st.length] (L0 st (bf c n) (rfs st.length n) (fns c N n)) = .ok (.int (bf c n).length) (L0 st (bf c n) (rfs st.length n) (fns c N n)) := by rw [gLen_ref l0_0]; simp
    obtain ⟨a5, a6, a7, a8, a9, hrow⟩ := l_row hc hcl hN (n := n) (by omega) hmany hent t5 t6 t7 t8 t9
    obtain ⟨b5, b6, b7, b8, b9, hrest⟩ := l_loop hc hcl hN hend hmany hent k (n + 1) f a5 a6 a7 a8 a9 (by omega) (by omega)
    refine ⟨b5, b6, b7, b8, b9, ?_⟩
    unfold whileGo
    have hT : T_law_code_rows_2 (F2 c st n t5 t6 t7 t8 t9) (L0 st (bf c n) (rfs st.length n) (fns c N n)) = .ok true (L0 st (bf c n) (rfs st.length n) (fns c N n)) := by
      have : (n : Int) < (bf c n).length := by have := hN n (by omega); omega
      simp [T_law_code_rows_2, F2, h0, this]
    rw [hT]
    simp only [Rs.bind_ok, if_true, hrow, hrest]
end
theorem e_law_code_rows {c : Cd} {st : Sto} (hc : c.Ok) (hcl : Closed st) {N : Nat} (hN : ∀ k, k < N → k < (bf c k).length) (hend : (bf c N).length = N) (hmany : many c.tops < 10000) (hent : c.ent.length < 10000) :
    G_law_code_rows [c.d] st = .ok (.tup [.ref st.length, .ref (st.length + 1)]) (L0 st (bf c N) (rfs st.length N) (fns c N N)) ∧ Closed (L0 st (bf c N) (rfs st.length N) (fns c N N)) := by
  have hb := rows_le (bf_ok hc N).1 (bf_ok hc N).2
  have hclo : Closed (L0 st (bf c N) (rfs st.length N) (fns c N N)) := l0_closed hcl (refs_lo _ _ _ (by rw [fns_len]; omega)) (fns_pln c N N)
  refine ⟨?_, hclo⟩
  obtain ⟨t5, t6, t7, t8, t9, hl⟩ := l_loop (st := st) hc hcl hN hend hmany hent N 0 16777215 none none none none none (by omega) (by omega)
  refine run_keep (by simp) (by rw [l0_len]; omega) (by rw [l0_len]; simp; omega) hclo ?_
  show B_law_code_rows [some c.d, none, none, none, none, none, none, none, none, none] st = _
  unfold B_law_code_rows
  have z2 := hc.tops.1
  have hm := gMul0 c.tops.length (by omega)
  have hk : keyedT [(rwD (List.replicate c.tops.length 0), D.bl true)] = some [(kyR (List.replicate c.tops.length 0), D.bl true)] := by
    simp only [keyedT, rwD, keys_nD]
  rw [seq_nx (e1 := [some c.d, some (.ref st.length), some (.ref (st.length + 1)), some (.int 0), none, none, none, none, none, none]) (st1 := st ++ [.lst [rwD (List.replicate c.tops.length 0)], .lst []]) (by
    simp [Cd.d, hm])]
  have hix : gIx (.ref st.length) (.int 0) (st ++ [.lst [rwD (List.replicate c.tops.length 0)], .lst []]) = .ok (rwD (List.replicate c.tops.length 0)) (st ++ [.lst [rwD (List.replicate c.tops.length 0)], .lst []]) := gIx_nat (i := 0) (seqAt_ref (xs := [rwD (List.replicate c.tops.length 0)]) (by simp)) rfl
  rw [seq_nx (e1 := F2 c st 0 none none none none none) (st1 := L0 st (bf c 0) (rfs st.length 0) (fns c N 0)) (by
    simp [F2, hix, iDispT, ipCons, ipNil, hk, L0, bf, fns, rfs, plc, mergeD, putD])]
  rw [seq_nx ((while_eq 16777215 _ _ _ _).trans hl)]
  simp [F2]
end F33
end QI

/-! the law's machine of what was found -/
namespace QI
open PySem PySem.Spec PyProof.Rows L2
theorem shaped_list {ps : List PyData} (h : ∀ p ∈ ps, p.canLay0 = true ∧ p.depth ≤ 63) : SeqAt.shaped (.list ps) = true := by
  have h1 : PyData.canLayAll0 ps = true ∧ PyData.depthAll ps ≤ 63 := by
    induction ps with
    | nil => simp [PyData.canLayAll0, PyData.depthAll]
    | cons p ps ih =>
      have h2 := h p List.mem_cons_self
      have h3 := ih fun q hq => h q (List.mem_cons_of_mem _ hq)
      simp only [PyData.canLayAll0, PyData.depthAll, h2.1, h3.1, Bool.and_self, true_and]
      omega
  show (PyData.canLay0 (.list ps) && decide (PyData.depth (.list ps) ≤ 64)) = true
  rw [Bool.and_eq_true]
  exact ⟨by simp only [PyData.canLay0]; exact h1.1, decide_eq_true (by simp only [PyData.depth]; omega)⟩
namespace F33
def rwP (r : List Nat) : PyData := .tuple ((r.map fun n => ((n : Nat) : Int)).map PyData.int)
theorem pdP_rw (r : List Nat) : pdP (rwD r) = some (rwP r) := by
  unfold rwD rwP
  simp only [pdP, nD_ints, pdPs_ints]
theorem pdPs_rw (rows : List (List Nat)) : pdPs (rows.map rwD) = some (rows.map rwP) := by
  induction rows with
  | nil => simp [pdPs]
  | cons r rows ih => simp [pdPs, pdP_rw, ih]
theorem rwP_ok (r : List Nat) : (rwP r).canLay0 = true ∧ (rwP r).depth ≤ 63 := by
  refine ⟨SeqAt.canLay_of_shaped (shaped_tints _), ?_⟩
  unfold rwP
  generalize (r.map fun n => ((n : Nat) : Int)) = ns
  have : PyData.depthAll (ns.map PyData.int) ≤ 1 := by
    induction ns with
    | nil => simp [PyData.depthAll]
    | cons n ns ih => simp only [List.map_cons, PyData.depthAll, PyData.depth]; omega
  simp only [PyData.depth]
  omega
theorem rwP_eqv (a b : List Nat) : PyData.eqv (rwP a) (rwP b) = decide (a = b) := by
  unfold rwP
  rw [eqv_tints]
  by_cases h : a = b
  · subst h; simp
  · rw [decide_eq_false h, decide_eq_false]
    intro z
    exact h (nD_inj (by rw [nD_ints, nD_ints, z]))
theorem firstEq_rw {rows : List (List Nat)} (hn : rows.Nodup) {i : Nat} {r : List Nat} (h : rows[i]? = some r) : firstEq (rows.map rwP) (rwP r) = some i := by
  unfold firstEq
  rw [List.findIdx?_eq_some_iff_getElem]
  have hi := lt_of_get h
  refine ⟨by simpa using hi, ?_, ?_⟩
  · simp only [List.getElem_map, rwP_eqv]
    rw [List.getElem?_eq_getElem hi] at h
    simpa using Option.some.inj h
  · intro j hj
    simp only [List.getElem_map, rwP_eqv]
    rw [List.getElem?_eq_getElem hi] at h
    have h := Option.some.inj h
    have : rows[j] ≠ r := fun z => by
      exact List.pairwise_iff_getElem.mp hn j i (by omega) hi hj (by rw [z, h])
    simpa using this
theorem e_index {st : Sto} {k : Nat} {rows : List (List Nat)} (hk : st[k]? = some (.lst (rows.map rwD))) (hn : rows.Nodup) {i : Nat} {r : List Nat} (h : rows[i]? = some r) : gIndex (.ref k) [rwD r] st = .ok (.int (i : Nat)) st := by
  have h1 : isLst2 st (.ref k) = true := by simp only [isLst2, hk]
  have h2 : pdL st (.ref k) = some (rows.map rwP) := by simp only [pdL, seqAt_ref hk, pdPs_rw]
  have h3 : SeqAt.shaped (.list (rows.map rwP)) = true := shaped_list fun p hp => by
    obtain ⟨r, _, rfl⟩ := List.mem_map.mp hp
    exact rwP_ok r
  have h4 : SeqAt.shaped (rwP r) = true := shaped_tints _
  unfold gIndex
  simp only [h1, if_true, h2, pdP_rw, h3, h4, and_self, firstEq_rw hn h]
/-- the steps of a row -/
noncomputable def stp (c : Cd) (row : List Nat) (rows : List (List Nat)) : Nat → List D
  | 0 => []
  | l + 1 => stp c row rows l ++ [.tup [.int ((addL c row rows (l + 1)).idxOf (nx c row l).1 : Nat), .tup (nD (nx c row l).2)]]
theorem stp_len (c : Cd) (row : List Nat) (rows : List (List Nat)) (l : Nat) : (stp c row rows l).length = l := by
  induction l with
  | zero => rfl
  | succ l ih => simp [stp, ih]
theorem stp_pln (c : Cd) (row : List Nat) (rows : List (List Nat)) (l : Nat) : Pln (stp c row rows l) := by
  induction l with
  | zero => intro n; simp [stp]
  | succ l ih => intro n; simp [stp, ih n]
theorem mem_addL (c : Cd) (row : List Nat) (rows : List (List Nat)) (l : Nat) : (nx c row l).1 ∈ addL c row rows (l + 1) := by
  rw [addL_succ]
  split
  · assumption
  · simp
/-- the machine behind n rows -/
noncomputable def mch (c : Cd) : Nat → List D
  | 0 => []
  | n + 1 => match (bf c n)[n]? with
    | some row => mch c n ++ [.tup (stp c row (bf c n) c.ent.length)]
    | none => mch c n
theorem mch_pln (c : Cd) : ∀ n, Pln (mch c n)
  | 0 => fun _ => by simp [mch]
  | n + 1 => fun k => by
    simp only [mch]
    split
    · simp [mch_pln c n k, stp_pln c _ _ _ k]
    · exact mch_pln c n k
theorem mch_len {c : Cd} {N : Nat} (h : ∀ n, n < N → n < (bf c n).length) : ∀ n, n ≤ N → (mch c n).length = n
  | 0, _ => rfl
  | n + 1, hn => by
    simp only [mch]
    rw [List.getElem?_eq_getElem (h n (by omega))]
    simp [mch_len h n (by omega)]
theorem idx_pre {a b : List (List Nat)} (h : a <+: b) (hn : b.Nodup) {r : List Nat} (hr : r ∈ a) : b[a.idxOf r]? = some r := by
  obtain ⟨z, rfl⟩ := h
  have hl := List.idxOf_lt_length_of_mem hr
  rw [List.getElem?_append_left hl, List.getElem?_eq_getElem hl]
  simp
theorem addL_mono (c : Cd) (row : List Nat) (rows : List (List Nat)) {l m : Nat} (h : l ≤ m) : addL c row rows l <+: addL c row rows m := by
  induction h with
  | refl => exact List.prefix_refl _
  | step _ ih =>
    refine ih.trans ?_
    rw [addL_succ]
    split
    · exact List.prefix_refl _
    · exact List.prefix_append _ _
/-- each step of the machine stands where the row stands among all rows -/
theorem stp_get {c : Cd} {row : List Nat} {rows : List (List Nat)} {m l : Nat} (h : l < m) : (stp c row rows m)[l]? = some (.tup [.int ((addL c row rows (l + 1)).idxOf (nx c row l).1 : Nat), .tup (nD (nx c row l).2)]) := by
  induction m with
  | zero => omega
  | succ m ih =>
    simp only [stp]
    by_cases e : l = m
    · subst e
      rw [List.getElem?_append_right (by rw [stp_len]; omega), stp_len]
      simp
    · rw [List.getElem?_append_left (by rw [stp_len]; omega)]
      exact ih (by omega)
theorem mch_get {c : Cd} {N : Nat} (hN : ∀ k, k < N → k < (bf c k).length) : ∀ (n k : Nat) (_ : n ≤ N) (hk : k < n), (mch c n)[k]? = some (.tup (stp c ((bf c N).getD k []) (bf c k) c.ent.length))
  | 0, k, _, hk => by omega
  | n + 1, k, hn, hk => by
    obtain ⟨row, hr⟩ : ∃ row, (bf c n)[n]? = some row := ⟨_, List.getElem?_eq_getElem (hN n (by omega))⟩
    have hm : mch c (n + 1) = mch c n ++ [.tup (stp c row (bf c n) c.ent.length)] := by simp only [mch]; rw [hr]
    rw [hm]
    by_cases e : k = n
    · subst e
      rw [List.getElem?_append_right (by rw [mch_len hN k (by omega)]; omega), mch_len hN k (by omega)]
      have : (bf c N).getD k [] = row := by rw [List.getD_eq_getElem?_getD, bf_at (m := N) (by omega) hr]; rfl
      rw [this]
      simp
    · rw [List.getElem?_append_left (by rw [mch_len hN n (by omega)]; omega)]
      exact mch_get hN n k (by omega) (by omega)
theorem l0_3 {st : Sto} {rows : List (List Nat)} {refs : List D} {g : Sto} {k : Nat} {x : Cell} (h : g[k]? = some x) : (L0 st rows refs g)[st.length + 3 + k]? = some x := by
  unfold L0
  rw [List.getElem?_append_right (by omega), show st.length + 3 + k - st.length = k + 1 + 1 + 1 by omega]
  simpa using h
/-- the machine that the law makes -/
theorem e_law_machine {c : Cd} {st : Sto} (hc : c.Ok) {N : Nat} (hN : ∀ k, k < N → k < (bf c k).length) (hend : (bf c N).length = N) (hmany : many c.tops < 10000) (hent : c.ent.length < 10000) {env : Ev} (hlen : env.length = 10) (h4 : env[4]? = some (some (.ref st.length))) (h10 : env[5]? = some (some (.ref (st.length + 1)))) :
    iComp fRol 16777215 (iWalk (iVar 5)) (.nm 7) (iYes) (iCallB gTuple (iCons (iComp fRol 16777215 (iWalk (iVar 7)) (.tp [.nm 8, .nm 9]) (iYes) (iTup (iCons (iMethR gIndex (iVar 4) (iCons (iVar 8) (iNil))) (iCons (iVar 9) (iNil)))) [8, 9]) (iNil))) [7] env (L0 st (bf c N) (rfs st.length N) (fns c N N)) = .ok (.rol (mch c N)) (L0 st (bf c N) (rfs st.length N) (fns c N N)) := by
  have hb := rows_le (bf_ok hc N).1 (bf_ok hc N).2
  have hnd := (bf_ok hc N).1
  have hw : iWalk (iVar 5) env (L0 st (bf c N) (rfs st.length N) (fns c N N)) = .ok (wkLive (st.length + 1)) (L0 st (bf c N) (rfs st.length N) (fns c N N)) := by
    simp [h10, seqWk_ref l0_1]
  rw [comp_eq hw]
  refine comp_to (items := rfs st.length N) (mch c N) (by rw [refs_len, mch_len hN N (Nat.le_refl _)]) (fun i => wkLive_at l0_1 i) ?_ (by rw [refs_len]; omega) (by rw [refs_len]; omega)
  intro k d y hd hy
  have hk : k < N := by have := lt_of_get hd; rw [refs_len] at this; exact this
  have hd2 : (rfs st.length N)[k]? = some (.ref (st.length + 3 + k)) := by simp [rfs, hk]
  rw [hd2] at hd
  cases hd
  rw [mch_get hN N k (Nat.le_refl _) hk] at hy
  cases hy
  have hfk : (L0 st (bf c N) (rfs st.length N) (fns c N N))[st.length + 3 + k]? = some (.lst (fnd1 c ((bf c N).getD k []) c.ent.length)) := l0_3 (by simp [fns, hk])
  have hrk : (bf c k)[k]? = some ((bf c N).getD k []) := by
    obtain ⟨row, hr⟩ : ∃ row, (bf c k)[k]? = some row := ⟨_, List.getElem?_eq_getElem (hN k hk)⟩
    rw [List.getD_eq_getElem?_getD, bf_at (m := N) (by omega) hr, hr]; rfl
  have hb1 : bf c (k + 1) = addL c ((bf c N).getD k []) (bf c k) c.ent.length := by simp only [bf]; rw [hrk]
  generalize (bf c N).getD k [] = row at hfk hrk hb1
  refine ⟨(wipeE env [7]).set 7 (some (.ref (st.length + 3 + k))), put_nm _ _, rfl, ?_⟩
  have hin : iComp fRol 16777215 (iWalk (iVar 7)) (.tp [.nm 8, .nm 9]) (iYes) (iTup (iCons (iMethR gIndex (iVar 4) (iCons (iVar 8) (iNil))) (iCons (iVar 9) (iNil)))) [8, 9] ((wipeE env [7]).set 7 (some (.ref (st.length + 3 + k)))) (L0 st (bf c N) (rfs st.length N) (fns c N N)) = .ok (.rol (stp c row (bf c k) c.ent.length)) (L0 st (bf c N) (rfs st.length N) (fns c N N)) := by
    have hw : iWalk (iVar 7) ((wipeE env [7]).set 7 (some (.ref (st.length + 3 + k)))) (L0 st (bf c N) (rfs st.length N) (fns c N N)) = .ok (wkLive (st.length + 3 + k)) (L0 st (bf c N) (rfs st.length N) (fns c N N)) := by
      have : ((wipeE env [7]).set 7 (some (.ref (st.length + 3 + k))))[7]? = some (some (.ref (st.length + 3 + k))) := by
        rw [List.getElem?_set_self]; simp [wipeE]; omega
      simp [this, seqWk_ref hfk]
    rw [comp_eq hw]
    refine comp_to (items := fnd1 c row c.ent.length) (stp c row (bf c k) c.ent.length) (by rw [fnd1_len, stp_len]) (fun i => wkLive_at hfk i) ?_ (by rw [fnd1_len]; omega) (by rw [fnd1_len]; omega)
    intro l d y hd hy
    have hl : l < c.ent.length := by have := lt_of_get hd; rw [fnd1_len] at this; exact this
    have hd2 : (fnd1 c row c.ent.length)[l]? = some (.tup [rwD (nx c row l).1, .tup (nD (nx c row l).2)]) := by simp [fnd1, hl]
    rw [hd2] at hd
    cases hd
    rw [stp_get hl] at hy
    cases hy
    have hi : (bf c N)[(addL c row (bf c k) (l + 1)).idxOf (nx c row l).1]? = some (nx c row l).1 := by
      refine idx_pre ?_ hnd (mem_addL c row _ l)
      refine (addL_mono c row (bf c k) (show l + 1 ≤ c.ent.length by omega)).trans ?_
      rw [← hb1]
      exact bf_pre2 c (by omega)
    have hx := e_index (st := L0 st (bf c N) (rfs st.length N) (fns c N N)) l0_0 hnd hi
    have hl2 : isLst2 (L0 st (bf c N) (rfs st.length N) (fns c N N)) (.ref st.length) = true := by simp only [isLst2, l0_0]
    have e0 : ∀ (f : D → List D → Sto → Rs D) (O : IE) (L : IL) (env : Ev) (st : Sto), iMethR f O L env st = (O env st).bind fun d st1 => if isLst2 st1 d = true then (L env st1).bind fun ds st2 => f d ds st2 else .bad := fun _ _ _ _ _ => rfl
    refine ⟨_, by rw [put_tp]; simp only [puts_cons, puts_nil, put_nm]; rfl, rfl, ?_⟩
    generalize hE : (((wipeE ((wipeE env [7]).set 7 (some (.ref (st.length + 3 + k)))) [8, 9]).set 8 (some (rwD (nx c row l).1))).set 9 (some (.tup (nD (nx c row l).2)))) = E
    have k4 : E[4]? = some (some (.ref st.length)) := by subst hE; simp [wipeE, List.getElem?_set, h4]
    have k8 : E[8]? = some (some (rwD (nx c row l).1)) := by subst hE; simp [wipeE, List.getElem?_set, hlen]
    have k9 : E[9]? = some (some (.tup (nD (nx c row l).2))) := by subst hE; simp [wipeE, List.getElem?_set, hlen]
    simp [e0, k4, k8, k9, hl2, hx]
  rw [ev_callB, ev_cons, hin]
  simp
end F33
end QI

/-! the law's drawn codes -/
namespace QI
open PySem PySem.Spec PyProof.Rows L2
theorem run_moved {N : List Str} {B : IS} {ds : List D} {st st' j : Sto} {d : D} (hl : st'.length = st.length) (hc : Closed st') (hd : d.lo st.length = true) (h : B (startE N ds) st = .ok (.rt d) (st' ++ j)) : run N B ds st = .ok d st' := by
  unfold run
  rw [h]
  show trim st _ _ = _
  unfold trim
  rw [← hl, List.take_left, if_pos ⟨by simp, by rw [hl]; exact hd, hc⟩]
open LC
/-- a draw, for any rest of the store -/
theorem LC.tk {pre post : Sto} {b : Int × Int} (hc : ∀ b, Closed (pre ++ bx b :: post)) (hb : okB b) (m : Nat) (h1 : 1 ≤ m) (h2 : m < 1000000) :
    ∃ (d : Nat) (b' : Int × Int), okB b' ∧ d < m ∧ G_law_take [.ref pre.length, .int (m : Nat)] (pre ++ bx b :: post) = .ok (.int d) (pre ++ bx b' :: post) := by
  obtain ⟨d, b', h3, h4, h5⟩ := e_take (hc b) hb (m := (m : Nat)) (by omega) (by omega)
  exact ⟨d, b', h3, by omega, h5⟩
namespace F33
/-- a line of a code with so many tops, sends, lines -/
def okL (nt ns many place : Nat) : Ln → Prop
  | .raise r k => r < nt ∧ k < 1000
  | .clear r => r < nt
  | .send s k => s < ns ∧ k < 1000
  | .under r k t => r < nt ∧ place < t ∧ t < many
  | .go t => place < t ∧ t < many
  | .stop => True
/-- a drawn code -/
structure Cd.Dr (c : Cd) : Prop where
  ok : c.Ok
  tops : c.tops.length ≤ 2 ∧ ∀ t ∈ c.tops, t ≤ 3
  ent : 1 ≤ c.ent.length ∧ c.ent.length ≤ 2
  lines : c.lines.length ≤ 350
  sends : c.sends ≤ 2
def DS (pre : Sto) (b : Int × Int) (post : Sto) (ls : List Ln) : Sto := pre ++ bx b :: (post ++ [.lst (ls.map Ln.d)])
section
variable {pre post : Sto} {b : Int × Int}
theorem Ln.d_lo (l : Ln) (n : Nat) : D.lo n l.d = true := by cases l <;> simp [Ln.d]
theorem lns_lo (n : Nat) (ls : List Ln) : D.loAll n (ls.map Ln.d) = true := by
  rw [loAll_iff]; intro d hd; obtain ⟨l, _, rfl⟩ := List.mem_map.mp hd; exact l.d_lo n
theorem ds_closed (hc : ∀ b, Closed (pre ++ bx b :: post)) (b : Int × Int) (xs : List D) (hx : ∀ n, D.loAll n xs = true) : Closed (pre ++ bx b :: (post ++ [.lst xs])) := by
  have h := closed_end (xs := xs) (hc b) (hx _)
  simpa using h
theorem ds_get (xs : List D) : (pre ++ bx b :: (post ++ [.lst xs]))[pre.length + 1 + post.length]? = some (.lst xs) := by
  rw [List.getElem?_append_right (by omega), show pre.length + 1 + post.length - pre.length = post.length + 1 by omega]
  simp
theorem ds_set (xs ys : List D) : setL (pre ++ bx b :: (post ++ [.lst xs])) (pre.length + 1 + post.length) ys = pre ++ bx b :: (post ++ [.lst ys]) := by
  unfold setL
  rw [List.set_append_right _ _ (by omega), show pre.length + 1 + post.length - pre.length = post.length + 1 by omega]
  simp
theorem ds_isLst (xs : List D) : isLst (pre ++ bx b :: (post ++ [.lst xs])) (.ref (pre.length + 1 + post.length)) = true := isLst_ref (ds_get xs)
theorem ds_app {xs : List D} (h : xs.length < 100000) (d : D) : gAppend (.ref (pre.length + 1 + post.length)) [d] (pre ++ bx b :: (post ++ [.lst xs])) = .ok .non (pre ++ bx b :: (post ++ [.lst (xs ++ [d])])) := by
  rw [gAppend_at (ds_get xs) (by omega), ds_set]
def V0 (pre post : Sto) (tops : List Nat) (sends takes many : Nat) (t6 t7 t8 t9 : Option D) : Ev := [some (.ref pre.length), some (.tup (nD tops)), some (.int sends), some (.int takes), some (.int many), some (.ref (pre.length + 1 + post.length)), t6, t7, t8, t9]
noncomputable def S_ra : IS := sDrop (iMeth gAppend (iVar 5) (iCons (iTup (iCons (iC (.str (Str.ofString "raise"))) (iCons (iCall 2 G_law_take [] (iCons (iVar 0) (iCons (iCallB gLen (iCons (iVar 1) (iNil))) (iNil)))) (iCons (iBin gAdd (iC (.int 1)) (iCall 2 G_law_take [] (iCons (iVar 0) (iCons (iC (.int 4)) (iNil))))) (iNil))))) (iNil)))
noncomputable def S_cl : IS := sDrop (iMeth gAppend (iVar 5) (iCons (iTup (iCons (iC (.str (Str.ofString "clear"))) (iCons (iCall 2 G_law_take [] (iCons (iVar 0) (iCons (iCallB gLen (iCons (iVar 1) (iNil))) (iNil)))) (iNil)))) (iNil)))
noncomputable def S_se : IS := sDrop (iMeth gAppend (iVar 5) (iCons (iTup (iCons (iC (.str (Str.ofString "send"))) (iCons (iCall 2 G_law_take [] (iCons (iVar 0) (iCons (iVar 2) (iNil)))) (iCons (iBin gAdd (iC (.int 1)) (iCall 2 G_law_take [] (iCons (iVar 0) (iCons (iC (.int 3)) (iNil))))) (iNil))))) (iNil)))
noncomputable def S_un : IS := sDrop (iMeth gAppend (iVar 5) (iCons (iTup (iCons (iC (.str (Str.ofString "under"))) (iCons (iCall 2 G_law_take [] (iCons (iVar 0) (iCons (iCallB gLen (iCons (iVar 1) (iNil))) (iNil)))) (iCons (iCall 2 G_law_take [] (iCons (iVar 0) (iCons (iC (.int 5)) (iNil)))) (iCons (iBin gAdd (iBin gAdd (iVar 6) (iC (.int 1))) (iCall 2 G_law_take [] (iCons (iVar 0) (iCons (iCallB gMin (iCons (iC (.int 6)) (iCons (iBin gSub (iBin gSub (iVar 4) (iC (.int 1))) (iVar 6)) (iNil)))) (iNil))))) (iNil)))))) (iNil)))
noncomputable def S_el : IS := sDrop (iMeth gAppend (iVar 5) (iCons (iIf (iTest (iBin gGt (iCall 2 G_law_take [] (iCons (iVar 0) (iCons (iC (.int 3)) (iNil)))) (iC (.int 0)))) (iTup (iCons (iC (.str (Str.ofString "go"))) (iCons (iBin gAdd (iBin gAdd (iVar 6) (iC (.int 1))) (iCall 2 G_law_take [] (iCons (iVar 0) (iCons (iCallB gMin (iCons (iC (.int 4)) (iCons (iBin gSub (iBin gSub (iVar 4) (iC (.int 1))) (iVar 6)) (iNil)))) (iNil))))) (iNil)))) (iTup (iCons (iC (.str (Str.ofString "stop"))) (iNil)))) (iNil)))
noncomputable def C_1 : IT := iAnd (iTest (iBin gLt (iVar 7) (iC (.int 2)))) (iTest (iBin gNeE (iVar 1) (iTup (iNil))))
noncomputable def C_2 : IT := iAnd (iTest (iBin gEqE (iVar 7) (iC (.int 2)))) (iTest (iBin gNeE (iVar 1) (iTup (iNil))))
noncomputable def C_3 : IT := iAnd (iTest (iBin gEqE (iVar 7) (iC (.int 3)))) (iTest (iBin gGt (iVar 2) (iC (.int 0))))
noncomputable def C_4 : IT := iAnd (iTest (iBin gLt (iVar 7) (iC (.int 7)))) (iTest (iBin gNeE (iVar 1) (iTup (iNil))))
theorem L1_eq : L_law_drawn_code_1 = sSeq (sSet 7 (iCall 2 G_law_take [] (iCons (iVar 0) (iCons (iC (.int 8)) (iNil))))) (sIf C_1 S_ra (sIf C_2 S_cl (sIf C_3 S_se (sIf C_4 S_un S_el)))) := rfl
section
variable {tops : List Nat} {sends takes many place way : Nat} {ls : List Ln} {t8 t9 : Option D}
theorem hne (st : Sto) : gNeE (.tup (nD tops)) (.tup []) st = .ok (.bl (!decide (tops = []))) st := gNeE_nD st tops []
theorem ec1 (st : Sto) : C_1 (V0 pre post tops sends takes many (some (.int place)) (some (.int way)) t8 t9) st = .ok (decide (way < 2 ∧ tops ≠ [])) st := by
  have e : decide ((way : Int) < 2) = decide (way < 2) := by congr 1; simp; omega
  by_cases h : way < 2 <;> simp [C_1, V0, hne, e, h]
theorem ec2 (st : Sto) : C_2 (V0 pre post tops sends takes many (some (.int place)) (some (.int way)) t8 t9) st = .ok (decide (way = 2 ∧ tops ≠ [])) st := by
  have e : decide ((way : Int) = 2) = decide (way = 2) := by congr 1; simp; omega
  by_cases h : way = 2 <;> simp [C_2, V0, hne, e, h]
theorem ec3 (st : Sto) : C_3 (V0 pre post tops sends takes many (some (.int place)) (some (.int way)) t8 t9) st = .ok (decide (way = 3 ∧ 0 < sends)) st := by
  have e : decide ((way : Int) = 3) = decide (way = 3) := by congr 1; simp; omega
  by_cases h : way = 3 <;> simp [C_3, V0, hne, e, h]
theorem ec4 (st : Sto) : C_4 (V0 pre post tops sends takes many (some (.int place)) (some (.int way)) t8 t9) st = .ok (decide (way < 7 ∧ tops ≠ [])) st := by
  have e : decide ((way : Int) < 7) = decide (way < 7) := by congr 1; simp; omega
  by_cases h : way < 7 <;> simp [C_4, V0, hne, e, h]
/-- what a statement of a line does -/
def Adds (S : IS) (pre post : Sto) (b : Int × Int) (tops : List Nat) (sends takes many place way : Nat) (ls : List Ln) (t8 t9 : Option D) : Prop :=
  ∃ (l : Ln) (b' : Int × Int), okB b' ∧ okL tops.length sends many place l ∧ S (V0 pre post tops sends takes many (some (.int place)) (some (.int way)) t8 t9) (DS pre b post ls) = .ok (.nx (V0 pre post tops sends takes many (some (.int place)) (some (.int way)) t8 t9)) (DS pre b' post (ls ++ [l]))
theorem ds_cl (hc : ∀ b, Closed (pre ++ bx b :: post)) (ls : List Ln) : ∀ b, Closed (pre ++ bx b :: (post ++ [.lst (ls.map Ln.d)])) := fun b => ds_closed hc b (ls.map Ln.d) (fun n => lns_lo n ls)
theorem ds_fin (h : ls.length < 100000) (b : Int × Int) (l : Ln) : gAppend (.ref (pre.length + 1 + post.length)) [l.d] (DS pre b post ls) = .ok .non (DS pre b post (ls ++ [l])) := by
  unfold DS
  rw [ds_app (by simpa using h)]; simp
theorem ds_il (b : Int × Int) : isLst (DS pre b post ls) (.ref (pre.length + 1 + post.length)) = true := ds_isLst _
theorem a_ra (hc : ∀ b, Closed (pre ++ bx b :: post)) (hb : okB b) (ht0 : tops ≠ []) (ht : tops.length ≤ 2) (hl : ls.length < 1000) : Adds S_ra pre post b tops sends takes many place way ls t8 t9 := by
  have hp : 1 ≤ tops.length := by cases tops <;> simp_all
  obtain ⟨d1, b1, hb1, hd1, h1⟩ := LC.tk (ds_cl hc ls) hb tops.length hp (by omega)
  obtain ⟨d2, b2, hb2, hd2, h2⟩ := LC.tk (ds_cl hc ls) hb1 4 (by omega) (by omega)
  have h1 : G_law_take [.ref pre.length, .int tops.length] (DS pre b post ls) = .ok (.int d1) (DS pre b1 post ls) := h1
  have h2 : G_law_take [.ref pre.length, .int 4] (DS pre b1 post ls) = .ok (.int d2) (DS pre b2 post ls) := h2
  have e : (1 : Int) + d2 = ((1 + d2 : Nat) : Int) := by push_cast; rfl
  refine ⟨.raise d1 (1 + d2), b2, hb2, ⟨hd1, by omega⟩, ?_⟩
  have f := ds_fin (pre := pre) (post := post) (ls := ls) (by omega) b2 (.raise d1 (1 + d2))
  simp only [Ln.d] at f
  simp [S_ra, V0, ds_il, h1, h2, e, f, -Int.natCast_add]
theorem a_cl (hc : ∀ b, Closed (pre ++ bx b :: post)) (hb : okB b) (ht0 : tops ≠ []) (ht : tops.length ≤ 2) (hl : ls.length < 1000) : Adds S_cl pre post b tops sends takes many place way ls t8 t9 := by
  have hp : 1 ≤ tops.length := by cases tops <;> simp_all
  obtain ⟨d1, b1, hb1, hd1, h1⟩ := LC.tk (ds_cl hc ls) hb tops.length hp (by omega)
  have h1 : G_law_take [.ref pre.length, .int tops.length] (DS pre b post ls) = .ok (.int d1) (DS pre b1 post ls) := h1
  refine ⟨.clear d1, b1, hb1, hd1, ?_⟩
  have f := ds_fin (pre := pre) (post := post) (ls := ls) (by omega) b1 (.clear d1)
  simp only [Ln.d] at f
  simp [S_cl, V0, ds_il, h1, f, -Int.natCast_add]
theorem a_se (hc : ∀ b, Closed (pre ++ bx b :: post)) (hb : okB b) (hp : 0 < sends) (hs : sends ≤ 2) (hl : ls.length < 1000) : Adds S_se pre post b tops sends takes many place way ls t8 t9 := by
  obtain ⟨d1, b1, hb1, hd1, h1⟩ := LC.tk (ds_cl hc ls) hb sends hp (by omega)
  obtain ⟨d2, b2, hb2, hd2, h2⟩ := LC.tk (ds_cl hc ls) hb1 3 (by omega) (by omega)
  have h1 : G_law_take [.ref pre.length, .int sends] (DS pre b post ls) = .ok (.int d1) (DS pre b1 post ls) := h1
  have h2 : G_law_take [.ref pre.length, .int 3] (DS pre b1 post ls) = .ok (.int d2) (DS pre b2 post ls) := h2
  have e : (1 : Int) + d2 = ((1 + d2 : Nat) : Int) := by push_cast; rfl
  refine ⟨.send d1 (1 + d2), b2, hb2, ⟨hd1, by omega⟩, ?_⟩
  have f := ds_fin (pre := pre) (post := post) (ls := ls) (by omega) b2 (.send d1 (1 + d2))
  simp only [Ln.d] at f
  simp [S_se, V0, ds_il, h1, h2, e, f, -Int.natCast_add]
theorem min_nat (a x y : Nat) (h : y + 1 ≤ x) : (if (x : Int) - 1 - y < (a : Int) then (x : Int) - 1 - y else (a : Int)) = ((min a (x - 1 - y) : Nat) : Int) := by
  split <;> omega
theorem a_un (hc : ∀ b, Closed (pre ++ bx b :: post)) (hb : okB b) (ht0 : tops ≠ []) (ht : tops.length ≤ 2) (hpl : place + 1 < many) (hl : ls.length < 1000) : Adds S_un pre post b tops sends takes many place way ls t8 t9 := by
  have hp : 1 ≤ tops.length := by cases tops <;> simp_all
  obtain ⟨d1, b1, hb1, hd1, h1⟩ := LC.tk (ds_cl hc ls) hb tops.length hp (by omega)
  obtain ⟨d2, b2, hb2, hd2, h2⟩ := LC.tk (ds_cl hc ls) hb1 5 (by omega) (by omega)
  obtain ⟨d3, b3, hb3, hd3, h3⟩ := LC.tk (ds_cl hc ls) hb2 (min 6 (many - 1 - place)) (by omega) (by omega)
  have h1 : G_law_take [.ref pre.length, .int tops.length] (DS pre b post ls) = .ok (.int d1) (DS pre b1 post ls) := h1
  have h2 : G_law_take [.ref pre.length, .int 5] (DS pre b1 post ls) = .ok (.int d2) (DS pre b2 post ls) := h2
  have h3 : G_law_take [.ref pre.length, .int ((min 6 (many - 1 - place) : Nat) : Int)] (DS pre b2 post ls) = .ok (.int d3) (DS pre b3 post ls) := h3
  have em : ∀ st : Sto, gMin [.int 6, .int ((many : Int) - 1 - place)] st = .ok (.int ((min 6 (many - 1 - place) : Nat) : Int)) st := fun st => by
    rw [gMin_2, ← min_nat 6 many place (by omega)]; rfl
  have e : (place : Int) + 1 + d3 = ((place + 1 + d3 : Nat) : Int) := by push_cast; rfl
  refine ⟨.under d1 d2 (place + 1 + d3), b3, hb3, ⟨hd1, by omega, by omega⟩, ?_⟩
  have f := ds_fin (pre := pre) (post := post) (ls := ls) (by omega) b3 (.under d1 d2 (place + 1 + d3))
  simp only [Ln.d] at f
  simp [S_un, V0, ds_il, h1, h2, h3, em, e, f, -Int.natCast_add, -gMin_2]
theorem a_el (hc : ∀ b, Closed (pre ++ bx b :: post)) (hb : okB b) (hpl : place + 1 < many) (hl : ls.length < 1000) : Adds S_el pre post b tops sends takes many place way ls t8 t9 := by
  obtain ⟨d2, b2, hb2, hd2, h2⟩ := LC.tk (ds_cl hc ls) hb 3 (by omega) (by omega)
  have h2 : G_law_take [.ref pre.length, .int 3] (DS pre b post ls) = .ok (.int d2) (DS pre b2 post ls) := h2
  by_cases hz : 0 < d2
  · obtain ⟨d3, b3, hb3, hd3, h3⟩ := LC.tk (ds_cl hc ls) hb2 (min 4 (many - 1 - place)) (by omega) (by omega)
    have h3 : G_law_take [.ref pre.length, .int ((min 4 (many - 1 - place) : Nat) : Int)] (DS pre b2 post ls) = .ok (.int d3) (DS pre b3 post ls) := h3
    have em : ∀ st : Sto, gMin [.int 4, .int ((many : Int) - 1 - place)] st = .ok (.int ((min 4 (many - 1 - place) : Nat) : Int)) st := fun st => by
      rw [gMin_2, ← min_nat 4 many place (by omega)]; rfl
    have e : (place : Int) + 1 + d3 = ((place + 1 + d3 : Nat) : Int) := by push_cast; rfl
    refine ⟨.go (place + 1 + d3), b3, hb3, ⟨by omega, by omega⟩, ?_⟩
    have f := ds_fin (pre := pre) (post := post) (ls := ls) (by omega) b3 (.go (place + 1 + d3))
    simp only [Ln.d] at f
    simp [S_el, V0, ds_il, h2, hz, h3, em, e, f, -Int.natCast_add, -gMin_2]
  · refine ⟨.stop, b2, hb2, trivial, ?_⟩
    have f := ds_fin (pre := pre) (post := post) (ls := ls) (by omega) b2 .stop
    simp only [Ln.d] at f
    simp [S_el, V0, ds_il, h2, hz, f]
theorem d_line (hc : ∀ b, Closed (pre ++ bx b :: post)) (hb : okB b) (hpl : place + 1 < many) (hm : many ≤ 16) (ht : tops.length ≤ 2) (hs : sends ≤ 2) (hl : ls.length = place) (t7 : Option D) :
    ∃ (l : Ln) (b' : Int × Int) (t7' : Option D), okB b' ∧ okL tops.length sends many place l ∧
      L_law_drawn_code_1 (V0 pre post tops sends takes many (some (.int place)) t7 t8 t9) (DS pre b post ls) = .ok (.nx (V0 pre post tops sends takes many (some (.int place)) t7' t8 t9)) (DS pre b' post (ls ++ [l])) := by
  obtain ⟨way, b1, hb1, hway, h1⟩ := LC.tk (ds_cl hc ls) hb 8 (by decide) (by decide)
  have h1 : G_law_take [.ref pre.length, .int 8] (DS pre b post ls) = .ok (.int way) (DS pre b1 post ls) := h1
  rw [L1_eq, seq_nx (e1 := V0 pre post tops sends takes many (some (.int place)) (some (.int way)) t8 t9) (st1 := DS pre b1 post ls) (by simp [V0, h1])]
  have fin : ∀ {S : IS}, Adds S pre post b1 tops sends takes many place way ls t8 t9 → ∃ (l : Ln) (b' : Int × Int) (t7' : Option D), okB b' ∧ okL tops.length sends many place l ∧
      S (V0 pre post tops sends takes many (some (.int place)) (some (.int way)) t8 t9) (DS pre b1 post ls) = .ok (.nx (V0 pre post tops sends takes many (some (.int place)) t7' t8 t9)) (DS pre b' post (ls ++ [l])) := fun ⟨l, b', x1, x2, x3⟩ => ⟨l, b', _, x1, x2, x3⟩
  by_cases c1 : way < 2 ∧ tops ≠ []
  · rw [if_t (by rw [ec1, decide_eq_true c1])]
    exact fin (a_ra hc hb1 c1.2 ht (by omega))
  rw [if_f (by rw [ec1, decide_eq_false c1])]
  by_cases c2 : way = 2 ∧ tops ≠ []
  · rw [if_t (by rw [ec2, decide_eq_true c2])]
    exact fin (a_cl hc hb1 c2.2 ht (by omega))
  rw [if_f (by rw [ec2, decide_eq_false c2])]
  by_cases c3 : way = 3 ∧ 0 < sends
  · rw [if_t (by rw [ec3, decide_eq_true c3])]
    exact fin (a_se hc hb1 c3.2 hs (by omega))
  rw [if_f (by rw [ec3, decide_eq_false c3])]
  by_cases c4 : way < 7 ∧ tops ≠ []
  · rw [if_t (by rw [ec4, decide_eq_true c4])]
    exact fin (a_un hc hb1 c4.2 ht hpl (by omega))
  rw [if_f (by rw [ec4, decide_eq_false c4])]
  exact fin (a_el hc hb1 hpl (by omega))
end
end
end F33
end QI

/-! the law's drawn codes, whole -/
namespace QI
open PySem PySem.Spec PyProof.Rows L2
open LC
namespace F33
section
variable {pre post : Sto} {b : Int × Int}
theorem d_tops (hc : ∀ b, Closed (pre ++ bx b :: post)) (hb : okB b) (e1 e2 e3 e4 e5 e6 e7 : Option D) : ∃ (ts : List Nat) (b' : Int × Int), okB b' ∧ ts.length ≤ 2 ∧ (∀ t ∈ ts, t ≤ 3) ∧
    iComp fRol 16777215 (iWalkC fRange1 (iCons (iCall 2 G_law_take [] (iCons (iVar 0) (iCons (iC (.int 3)) (iNil)))) (iNil))) (.nm 8) (iYes) (iBin gAdd (iC (.int 1)) (iCall 2 G_law_take [] (iCons (iVar 0) (iCons (iC (.int 3)) (iNil))))) [8] [some (.ref pre.length), e1, e2, e3, e4, e5, e6, e7, none, none] (pre ++ bx b :: post) = .ok (.rol (nD ts)) (pre ++ bx b' :: post) := by
  obtain ⟨d, b1, hb1, hd, h1⟩ := LC.tk hc hb 3 (by omega) (by omega)
  have h1 : G_law_take [.ref pre.length, .int 3] (pre ++ bx b :: post) = .ok (.int d) (pre ++ bx b1 :: post) := h1
  obtain ⟨acc, st', h2, ts, b2, hb2, hl, hts, rfl, rfl⟩ := comp_inv0 (wk := wkRange 0 d) (p := .nm 8) (T := iYes) (vs := [8]) (env := [some (.ref pre.length), e1, e2, e3, e4, e5, e6, e7, none, none]) (fin := fRol) (items := rangeD 0 d)
    (A := iBin gAdd (iC (.int 1)) (iCall 2 G_law_take [] (iCons (iVar 0) (iCons (iC (.int 3)) (iNil)))))
    (fun i acc s => ∃ (ts : List Nat) (b' : Int × Int), okB b' ∧ ts.length = i ∧ (∀ t ∈ ts, t ≤ 3) ∧ acc = nD ts ∧ s = pre ++ bx b' :: post)
    (fun i acc s _ => wkRange_at _ _ _ _)
    (fun i z acc s hd h => by
      obtain ⟨ts, b2, hb2, hl, hts, rfl, rfl⟩ := h
      obtain ⟨q, b3, hb3, hq, h3⟩ := LC.tk hc hb2 3 (by omega) (by omega)
      have h3 : G_law_take [.ref pre.length, .int 3] (pre ++ bx b2 :: post) = .ok (.int q) (pre ++ bx b3 :: post) := h3
      have e : (1 : Int) + q = ((1 + q : Nat) : Int) := by push_cast; rfl
      refine ⟨_, rfl, true, _, rfl, .inr ⟨rfl, .int (1 + q : Nat), pre ++ bx b3 :: post, ?_, ts ++ [1 + q], b3, hb3, by simp [hl], ?_, by simp [nD_app], rfl⟩⟩
      · simp [wipeE, h3, e, -Int.natCast_add]
      · intro r hr
        rcases List.mem_append.mp hr with hr | hr
        · exact hts r hr
        · rw [List.mem_singleton] at hr
          omega)
    (n := 16777215) (st := pre ++ bx b1 :: post) (by simp; omega) (by simp; omega) ⟨[], b1, hb1, rfl, by simp, rfl, rfl⟩
  rw [rangeD_len] at hl
  refine ⟨ts, b2, hb2, by omega, hts, ?_⟩
  exact (comp_eq (walkC_eq (ds := [.int (d : Nat)]) (st1 := pre ++ bx b1 :: post) (by simp [h1]) (fRange1_nat (by omega)))).trans h2
theorem d_ent (hc : ∀ b, Closed (pre ++ bx b :: post)) (hb : okB b) {takes many : Nat} (hm : 1 ≤ many ∧ many ≤ 16) (ht : takes ≤ 2) (e1 e2 e5 e6 e7 e8 : Option D) : ∃ (es : List Nat) (b' : Int × Int), okB b' ∧ es.length = takes ∧ (∀ t ∈ es, t < many) ∧
    iComp fRol 16777215 (iWalkC fRange1 (iCons (iVar 3) (iNil))) (.nm 9) (iYes) (iCall 2 G_law_take [] (iCons (iVar 0) (iCons (iVar 4) (iNil)))) [9] [some (.ref pre.length), e1, e2, some (.int takes), some (.int many), e5, e6, e7, e8, none] (pre ++ bx b :: post) = .ok (.rol (nD es)) (pre ++ bx b' :: post) := by
  obtain ⟨acc, st', h2, ts, b2, hb2, hl, hts, rfl, rfl⟩ := comp_inv0 (wk := wkRange 0 takes) (p := .nm 9) (T := iYes) (vs := [9]) (env := [some (.ref pre.length), e1, e2, some (.int takes), some (.int many), e5, e6, e7, e8, none]) (fin := fRol) (items := rangeD 0 takes)
    (A := iCall 2 G_law_take [] (iCons (iVar 0) (iCons (iVar 4) (iNil))))
    (fun i acc s => ∃ (ts : List Nat) (b' : Int × Int), okB b' ∧ ts.length = i ∧ (∀ t ∈ ts, t < many) ∧ acc = nD ts ∧ s = pre ++ bx b' :: post)
    (fun i acc s _ => wkRange_at _ _ _ _)
    (fun i z acc s hd h => by
      obtain ⟨ts, b2, hb2, hl, hts, rfl, rfl⟩ := h
      obtain ⟨q, b3, hb3, hq, h3⟩ := LC.tk hc hb2 many (by omega) (by omega)
      refine ⟨_, rfl, true, _, rfl, .inr ⟨rfl, .int (q : Nat), pre ++ bx b3 :: post, ?_, ts ++ [q], b3, hb3, by simp [hl], ?_, by simp [nD_app], rfl⟩⟩
      · simp [wipeE, h3]
      · intro r hr
        rcases List.mem_append.mp hr with hr | hr
        · exact hts r hr
        · rw [List.mem_singleton] at hr
          omega)
    (n := 16777215) (st := pre ++ bx b :: post) (by simp; omega) (by simp; omega) ⟨[], b, hb, rfl, by simp, rfl, rfl⟩
  rw [rangeD_len] at hl
  refine ⟨ts, b2, hb2, by omega, hts, ?_⟩
  exact (comp_eq (walkC_eq (ds := [.int (takes : Nat)]) (st1 := pre ++ bx b :: post) (by simp) (fRange1_nat (by omega)))).trans h2
theorem okL_ok {c : Cd} {place : Nat} {l : Ln} (h : okL c.tops.length c.sends c.lines.length place l) : l.ok c place := by
  cases l <;> exact h
theorem d_loop (hc : ∀ b, Closed (pre ++ bx b :: post)) (hb : okB b) {tops : List Nat} {sends takes many : Nat} (hm : 1 ≤ many ∧ many ≤ 16) (ht : tops.length ≤ 2) (hs : sends ≤ 2) (t6 t7 t8 t9 : Option D) :
    ∃ (ls : List Ln) (b' : Int × Int) (t6' t7' : Option D), okB b' ∧ ls.length = many - 1 ∧ (∀ (i : Nat) (l : Ln), ls[i]? = some l → okL tops.length sends many i l) ∧
      sFor 16777215 (iWalkC fRange1 (iCons (iBin gSub (iVar 4) (iC (.int 1))) (iNil))) (.nm 6) (L_law_drawn_code_1) (V0 pre post tops sends takes many t6 t7 t8 t9) (DS pre b post []) = .ok (.nx (V0 pre post tops sends takes many t6' t7' t8 t9)) (DS pre b' post ls) := by
  obtain ⟨e', st', h1, ls, b2, t6', t7', hb2, hl, hls, rfl, rfl⟩ := for_inv0 (wk := wkRange 0 (many - 1)) (p := .nm 6) (S := L_law_drawn_code_1) (items := rangeD 0 (many - 1)) (fun i env s => ∃ (ls : List Ln) (b' : Int × Int) (t6 t7 : Option D), okB b' ∧ ls.length = i ∧ (∀ (i : Nat) (l : Ln), ls[i]? = some l → okL tops.length sends many i l) ∧ env = V0 pre post tops sends takes many t6 t7 t8 t9 ∧ s = DS pre b' post ls)
    (fun i env s _ => wkRange_at _ _ _ _)
    (fun i d env s hd h => by
      obtain ⟨ls, b2, t6, t7, hb2, hl, hls, rfl, rfl⟩ := h
      obtain ⟨hi, rfl⟩ := rangeD_get hd
      rw [Int.zero_add]
      obtain ⟨l, b3, t7', hb3, hok, h3⟩ := d_line (t8 := t8) (t9 := t9) (takes := takes) hc hb2 (place := i) (many := many) (by omega) hm.2 ht hs hl t7
      refine ⟨V0 pre post tops sends takes many (some (.int i)) t7 t8 t9, put_nm _ _, _, _, .inl h3, ls ++ [l], b3, _, _, hb3, by simp [hl], ?_, rfl, rfl⟩
      intro j x hx
      by_cases e : j < ls.length
      · rw [List.getElem?_append_left e] at hx
        exact hls j x hx
      · have := lt_of_get hx
        rw [List.length_append, List.length_singleton] at this
        have : j = ls.length := by omega
        subst this
        rw [List.getElem?_append_right (Nat.le_refl _), Nat.sub_self] at hx
        cases hx
        rw [hl]; exact hok)
    (n := 16777215) (env := V0 pre post tops sends takes many t6 t7 t8 t9) (st := DS pre b post []) (by simp; omega) ⟨[], b, t6, t7, hb, rfl, fun i l h => (nomatch h), rfl, rfl⟩
  rw [rangeD_len] at hl
  refine ⟨ls, b2, t6', t7', hb2, hl, hls, ?_⟩
  have e : (many : Int) - 1 = ((many - 1 : Nat) : Int) := by omega
  exact (for_eq (walkC_eq (ds := [.int (many - 1 : Nat)]) (st1 := DS pre b post []) (by simp [V0, e]) (fRange1_nat (by omega)))).trans h1
theorem e_drawn (hc : ∀ b, Closed (pre ++ bx b :: post)) (hb : okB b) : ∃ (c : Cd) (b' : Int × Int), okB b' ∧ c.Dr ∧ c.lines.length ≤ 16 ∧ G_law_drawn_code [.ref pre.length] (pre ++ bx b :: post) = .ok c.d (pre ++ bx b' :: post) := by
  obtain ⟨tops, b1, hb1, ht1, ht2, h1⟩ := d_tops hc hb none none none none none none none
  obtain ⟨sends, b2, hb2, hs, h2⟩ := LC.tk hc hb1 3 (by omega) (by omega)
  obtain ⟨tk, b3, hb3, htk, h3⟩ := LC.tk hc hb2 2 (by omega) (by omega)
  obtain ⟨mn, b4, hb4, hmn, h4⟩ := LC.tk hc hb3 14 (by omega) (by omega)
  have h2 : G_law_take [.ref pre.length, .int 3] (pre ++ bx b1 :: post) = .ok (.int sends) (pre ++ bx b2 :: post) := h2
  have h3 : G_law_take [.ref pre.length, .int 2] (pre ++ bx b2 :: post) = .ok (.int tk) (pre ++ bx b3 :: post) := h3
  have h4 : G_law_take [.ref pre.length, .int 14] (pre ++ bx b3 :: post) = .ok (.int mn) (pre ++ bx b4 :: post) := h4
  obtain ⟨ls, b5, t6, t7, hb5, hl, hls, h5⟩ := d_loop hc hb4 (tops := tops) (sends := sends) (takes := 1 + tk) (many := 3 + mn) (by omega) ht1 (by omega) none none none none
  obtain ⟨es, b6, hb6, he1, he2, h6⟩ := d_ent (ds_cl hc ls) hb5 (takes := 1 + tk) (many := 3 + mn) (by omega) (by omega) (some (.tup (nD tops))) (some (.int sends)) (some (.ref (pre.length + 1 + post.length))) t6 t7 none
  have hd : (⟨tops, sends, es, ls ++ [.stop]⟩ : Cd).Dr := by
    refine ⟨⟨fun i l h => okL_ok ?_, ?_, ?_, ?_, ?_, ?_⟩, ⟨ht1, ht2⟩, ?_, ?_, by show sends ≤ 2; omega⟩
    · show okL tops.length sends (ls ++ [Ln.stop]).length i l
      have hL : (ls ++ [Ln.stop]).length = 3 + mn := by simp; omega
      rw [hL]
      by_cases e : i < ls.length
      · exact hls i l (by rw [← h]; exact (List.getElem?_append_left e).symm)
      · have h' : (ls ++ [Ln.stop])[i]? = some l := h
        have := lt_of_get h'
        rw [hL] at this
        have : i = ls.length := by omega
        subst this
        rw [List.getElem?_append_right (Nat.le_refl _), Nat.sub_self] at h'
        cases h'
        trivial
    · show (ls ++ [Ln.stop])[(ls ++ [Ln.stop]).length - 1]? = some .stop
      simp
    · show 1 ≤ (ls ++ [Ln.stop]).length ∧ (ls ++ [Ln.stop]).length ≤ 4000
      simp; omega
    · intro e he
      show e < (ls ++ [Ln.stop]).length
      have := he2 e he
      simp; omega
    · exact ⟨by show tops.length ≤ 100; omega, fun t h => by have := ht2 t h; omega⟩
    · show sends ≤ 100; omega
    · show 1 ≤ es.length ∧ es.length ≤ 2
      omega
    · show (ls ++ [Ln.stop]).length ≤ 350
      simp; omega
  refine ⟨⟨tops, sends, es, ls ++ [.stop]⟩, b6, hb6, hd, by show (ls ++ [Ln.stop]).length ≤ 16; simp; omega, ?_⟩
  refine run_moved (j := [.lst (ls.map Ln.d)]) (by simp) (hc b6) (by simp [Cd.d, Ln.d, lns_lo]) ?_
  show B_law_drawn_code [some (.ref pre.length), none, none, none, none, none, none, none, none, none] (pre ++ bx b :: post) = _
  unfold B_law_drawn_code
  rw [seq_nx (e1 := [some (.ref pre.length), some (.tup (nD tops)), none, none, none, none, none, none, none, none]) (st1 := pre ++ bx b1 :: post) (by
    rw [ev_sSet, ev_callB, ev_cons, h1]; rfl)]
  have e1 : (1 : Int) + tk = ((1 + tk : Nat) : Int) := by push_cast; rfl
  have e2 : (3 : Int) + mn = ((3 + mn : Nat) : Int) := by push_cast; rfl
  rw [seq_nx (e1 := [some (.ref pre.length), some (.tup (nD tops)), some (.int sends), some (.int (1 + tk : Nat)), some (.int (3 + mn : Nat)), none, none, none, none, none]) (st1 := pre ++ bx b4 :: post) (by
    simp [h2, h3, h4, e1, e2, -Int.natCast_add])]
  have el : (pre ++ bx b4 :: post).length = pre.length + 1 + post.length := by simp; omega
  rw [seq_nx (e1 := V0 pre post tops sends (1 + tk) (3 + mn) none none none none) (st1 := DS pre b4 post []) (by
    simp only [ev_sSet, ev_cell, ev_lst, ev_nil, Rs.bind_ok]
    simp [V0, DS]
    omega)]
  rw [seq_nx h5]
  have hg := ds_get (pre := pre) (post := post) (b := b6) (ls.map Ln.d)
  have ht := gTuple_ref hg
  unfold V0 DS
  rw [ev_sRet, ev_tup]
  simp only [ev_cons, ev_callB, ev_nil, h6, ev_var, Rs.bind_ok, gTuple_rol, List.getElem?_cons_zero, List.getElem?_cons_succ]
  simp only [ev_bin, ev_callB, ev_cons, ev_var, ev_nil, List.getElem?_cons_zero, List.getElem?_cons_succ, Rs.bind_ok, ht]
  have hls2 : ls.length ≤ 16777215 := by omega
  simp [Cd.d, Ln.d, hls2]
end
end F33
end QI

/-! check_code -/
namespace QI
open PySem PySem.Spec PyProof.Rows L2
open LC
namespace F33
theorem wne : (Str.ofString "raise" = Str.ofString "clear") = False ∧ (Str.ofString "raise" = Str.ofString "send") = False ∧ (Str.ofString "raise" = Str.ofString "under") = False ∧ (Str.ofString "raise" = Str.ofString "go") = False ∧ (Str.ofString "raise" = Str.ofString "stop") = False ∧ (Str.ofString "clear" = Str.ofString "raise") = False ∧ (Str.ofString "clear" = Str.ofString "send") = False ∧ (Str.ofString "clear" = Str.ofString "under") = False ∧ (Str.ofString "clear" = Str.ofString "go") = False ∧ (Str.ofString "clear" = Str.ofString "stop") = False ∧ (Str.ofString "send" = Str.ofString "raise") = False ∧ (Str.ofString "send" = Str.ofString "clear") = False ∧ (Str.ofString "send" = Str.ofString "under") = False ∧ (Str.ofString "send" = Str.ofString "go") = False ∧ (Str.ofString "send" = Str.ofString "stop") = False ∧ (Str.ofString "under" = Str.ofString "raise") = False ∧ (Str.ofString "under" = Str.ofString "clear") = False ∧ (Str.ofString "under" = Str.ofString "send") = False ∧ (Str.ofString "under" = Str.ofString "go") = False ∧ (Str.ofString "under" = Str.ofString "stop") = False ∧ (Str.ofString "go" = Str.ofString "raise") = False ∧ (Str.ofString "go" = Str.ofString "clear") = False ∧ (Str.ofString "go" = Str.ofString "send") = False ∧ (Str.ofString "go" = Str.ofString "under") = False ∧ (Str.ofString "go" = Str.ofString "stop") = False ∧ (Str.ofString "stop" = Str.ofString "raise") = False ∧ (Str.ofString "stop" = Str.ofString "clear") = False ∧ (Str.ofString "stop" = Str.ofString "send") = False ∧ (Str.ofString "stop" = Str.ofString "under") = False ∧ (Str.ofString "stop" = Str.ofString "go") = False := by
  refine ⟨?_, ?_, ?_, ?_, ?_, ?_, ?_, ?_, ?_, ?_, ?_, ?_, ?_, ?_, ?_, ?_, ?_, ?_, ?_, ?_, ?_, ?_, ?_, ?_, ?_, ?_, ?_, ?_, ?_, ?_⟩ <;> exact eq_false (by decide)
theorem e_is_int {st : Sto} (hc : Closed st) (i : Int) : G_is_int [.int i] st = .ok (.bl true) st := by
  refine run_pure hc (by simp) ?_
  show B_is_int [some (.int i)] st = _
  simp [B_is_int, isK]
theorem e_num0 {st : Sto} (hc : Closed st) {i a : Int} (h : a ≤ i) : G_is_number [.int i, .int a, .non] st = .ok (.bl true) st := by
  refine run_pure hc (by simp) ?_
  show B_is_number [some (.int i), some (.int a), some .non] st = _
  simp [B_is_number, e_is_int hc, h]
theorem e_num1 {st : Sto} (hc : Closed st) {i a b : Int} (h : a ≤ i) (h2 : i ≤ b) : G_is_number [.int i, .int a, .int b] st = .ok (.bl true) st := by
  refine run_pure hc (by simp) ?_
  show B_is_number [some (.int i), some (.int a), some (.int b)] st = _
  simp [B_is_number, e_is_int hc, h, h2]
theorem e_tuple0 {st : Sto} (hc : Closed st) (xs : List D) : G_is_tuple [.tup xs, .non] st = .ok (.bl true) st := by
  refine run_pure hc (by simp) ?_
  show B_is_tuple [some (.tup xs), some .non] st = _
  simp [B_is_tuple, isK]
theorem e_tuple1 {st : Sto} (hc : Closed st) (xs : List D) : G_is_tuple [.tup xs, .int xs.length] st = .ok (.bl true) st := by
  refine run_pure hc (by simp) ?_
  show B_is_tuple [some (.tup xs), some (.int xs.length)] st = _
  simp [B_is_tuple, isK]
theorem e_numbers {st : Sto} (hc : Closed st) {ns : List Nat} {a b : Int} (hl : ns.length < 10000) (h : ∀ n ∈ ns, a ≤ (n : Int) ∧ (n : Int) ≤ b) : G_is_numbers [.tup (nD ns), .int ns.length, .int a, .int b] st = .ok (.bl true) st := by
  refine run_pure hc (by simp) ?_
  show B_is_numbers [some (.tup (nD ns)), some (.int ns.length), some (.int a), some (.int b), none] st = _
  have h1 := e_tuple1 hc (nD ns)
  rw [nD_len] at h1
  have h2 : compGo (wkSeq (nD ns)) (.nm 4) (iNot (iTru (iCall 3 G_is_number [] (iCons (iVar 4) (iCons (iVar 2) (iCons (iVar 3) (iNil))))))) (iVar 4) [4] [some (.tup (nD ns)), some (.int ns.length), some (.int a), some (.int b), none] fRol 16777215 0 [] st = fRol ((nD ns).filterMap fun _ => none) st := by
    refine comp_pure (items := nD ns) (fun _ => none) (fun i => wkSeq_at _ _ _) ?_ (by simp; omega) (by simp; omega)
    intro d hd
    obtain ⟨n, hn, rfl⟩ := List.mem_map.mp hd
    obtain ⟨h3, h4⟩ := h n hn
    exact ⟨_, put_nm _ _, .inl ⟨rfl, by simp [wipeE, e_num1 hc h3 h4]⟩⟩
  have h3 : (nD ns).filterMap (fun _ => (none : Option D)) = [] := by simp
  rw [h3] at h2
  have hw : iWalk (iVar 0) [some (.tup (nD ns)), some (.int ns.length), some (.int a), some (.int b), none] st = .ok (wkSeq (nD ns)) st := by simp
  have h4 := (comp_eq (fin := fRol) (n := 16777215) (p := .nm 4) (T := iNot (iTru (iCall 3 G_is_number [] (iCons (iVar 4) (iCons (iVar 2) (iCons (iVar 3) (iNil))))))) (A := iVar 4) (vs := [4]) hw).trans h2
  unfold B_is_numbers
  rw [ev_sRet, ev_andV, ev_call]
  simp only [ev_cons, ev_nil, ev_var, List.getElem?_cons_zero, List.getElem?_cons_succ, Rs.bind_ok]
  simp only [List.length_cons, List.length_nil, if_true, List.append_nil, h1, Rs.strict_ok, Rs.bind_ok, gTru_bl]
  rw [ev_bin, ev_callB, ev_cons, h4]
  simp
theorem in_any (st : Sto) (x : Str) (cs : List Str) : gInE (.str x) (.tup (cs.map D.str)) st = .ok (.bl (cs.any fun c => decide (c = x))) st := by
  have : gIn st (.str x) (.tup (cs.map D.str)) = some (cs.any fun c => decide (c = x)) := by
    unfold gIn
    have h1 : (cs.map D.str).all D.flat = true := by
      rw [List.all_eq_true]; intro d hd; obtain ⟨c, _, rfl⟩ := List.mem_map.mp hd; rfl
    simp only [seqAt_tup]
    rw [if_pos ⟨rfl, h1⟩, List.any_map]
    congr 2
  unfold gInE
  rw [this]; rfl
theorem in_4 (st : Sto) (x a b c d : Str) : gInE (.str x) (.tup [.str a, .str b, .str c, .str d]) st = .ok (.bl (decide (a = x) || (decide (b = x) || (decide (c = x) || decide (d = x))))) st := by
  have := in_any st x [a, b, c, d]
  simpa using this
theorem in_3 (st : Sto) (x a b c : Str) : gInE (.str x) (.tup [.str a, .str b, .str c]) st = .ok (.bl (decide (a = x) || (decide (b = x) || decide (c = x)))) st := by
  have := in_any st x [a, b, c]
  simpa using this
theorem in_2 (st : Sto) (x a b : Str) : gInE (.str x) (.tup [.str a, .str b]) st = .ok (.bl (decide (a = x) || decide (b = x))) st := by
  have := in_any st x [a, b]
  simpa using this
theorem e_allnum {st : Sto} (hc : Closed st) {w : Str} {ns : List Nat} {e1 e2 e3 e4 : Option D} (hl : ns.length < 100) : iComp fRol 16777215 (iWalk (iSl (iVar 0) (oSome (iC (.int 1))) (oNone))) (.nm 5) (iYes) (iCall 1 G_is_number [.int 0, .non] (iCons (iVar 5) (iNil))) [5] [some (.tup (.str w :: nD ns)), e1, e2, e3, e4, none] st = .ok (.rol (List.replicate ns.length (.bl true))) st := by
  have hcut : cut (D.str w :: nD ns) (some 1) none = nD ns := by
    have := cut_from (D.str w :: nD ns) 1
    simpa using this
  have hw : iWalk (iSl (iVar 0) (oSome (iC (.int 1))) (oNone)) [some (.tup (.str w :: nD ns)), e1, e2, e3, e4, none] st = .ok (wkSeq (nD ns)) st := by simp [hcut]
  rw [comp_eq hw]
  refine comp_to (items := nD ns) (List.replicate ns.length (.bl true)) (by simp) (fun i => wkSeq_at _ _ _) ?_ (by simp; omega) (by simp; omega)
  intro i d y hd hy
  rw [nD_get] at hd
  cases hx : ns[i]? with
  | none => rw [hx] at hd; cases hd
  | some n =>
    rw [hx] at hd
    cases hd
    rw [List.getElem?_replicate] at hy
    split at hy
    · cases hy
      exact ⟨_, put_nm _ _, rfl, by simp [wipeE, e_num0 hc (show (0 : Int) ≤ (n : Nat) by omega)]⟩
    · cases hy
/-- lines that check_code lets by -/
def Ln.ck (nt ns many place : Nat) : Ln → Prop
  | .raise r k => r < nt ∧ k ≤ 999 ∧ place + 1 < many
  | .clear r => r < nt ∧ place + 1 < many
  | .send s k => s < ns ∧ k ≤ 999 ∧ place + 1 < many
  | .under r k t => r < nt ∧ k ≤ 999 ∧ place < t ∧ t < many
  | .go t => place < t ∧ t < many
  | .stop => True
theorem e_is_line {st : Sto} (hc : Closed st) {nt ns many place : Nat} {l : Ln} (h : l.ck nt ns many place) {tops : List Nat} (ht : tops.length = nt) : G_is_line [l.d, .int place, .int many, .tup (nD tops), .int ns] st = .ok (.bl true) st := by
  refine run_pure hc (by simp) ?_
  show B_is_line [some l.d, some (.int place), some (.int many), some (.tup (nD tops)), some (.int ns), none] st = _
  have all0 : gAll [.rol []] st = .ok (.bl true) st := rfl
  have all1 : gAll [.rol [.bl true]] st = .ok (.bl true) st := rfl
  have all2 : gAll [.rol [.bl true, .bl true]] st = .ok (.bl true) st := rfl
  have all3 : gAll [.rol [.bl true, .bl true, .bl true]] st = .ok (.bl true) st := rfl
  unfold B_is_line
  cases l with
  | raise r k =>
    obtain ⟨h1, h2, h3⟩ := h
    have ha := e_allnum hc (w := Str.ofString "raise") (ns := [r, k]) (e1 := some (.int place)) (e2 := some (.int many)) (e3 := some (.tup (nD tops))) (e4 := some (.int ns)) (by simp)
    simp only [nD_cons, nD_nil, List.length_cons, List.length_nil, List.replicate_succ, List.replicate_zero] at ha
    have x1 : ¬ (tops.length : Int) ≤ (r : Int) := by omega
    have x2 : ¬ (999 : Int) < (k : Int) := by omega
    have x3 : (place : Int) + 1 < (many : Int) := by omega
    simp [Ln.d, isK, ofC, wne, in_4, in_3, in_2, -ev_comp, ha, all2, x1, x2, x3]
  | clear r =>
    obtain ⟨h1, h3⟩ := h
    have ha := e_allnum hc (w := Str.ofString "clear") (ns := [r]) (e1 := some (.int place)) (e2 := some (.int many)) (e3 := some (.tup (nD tops))) (e4 := some (.int ns)) (by simp)
    simp only [nD_cons, nD_nil, List.length_cons, List.length_nil, List.replicate_succ, List.replicate_zero] at ha
    have x1 : ¬ (tops.length : Int) ≤ (r : Int) := by omega
    have x3 : (place : Int) + 1 < (many : Int) := by omega
    simp [Ln.d, isK, ofC, wne, in_4, in_3, in_2, -ev_comp, ha, all1, x1, x3]
  | send r k =>
    obtain ⟨h1, h2, h3⟩ := h
    have ha := e_allnum hc (w := Str.ofString "send") (ns := [r, k]) (e1 := some (.int place)) (e2 := some (.int many)) (e3 := some (.tup (nD tops))) (e4 := some (.int ns)) (by simp)
    simp only [nD_cons, nD_nil, List.length_cons, List.length_nil, List.replicate_succ, List.replicate_zero] at ha
    have x1 : ¬ (ns : Int) ≤ (r : Int) := by omega
    have x2 : ¬ (999 : Int) < (k : Int) := by omega
    have x3 : (place : Int) + 1 < (many : Int) := by omega
    simp [Ln.d, isK, ofC, wne, in_4, in_3, in_2, -ev_comp, ha, all2, x1, x2, x3]
  | under r k t =>
    obtain ⟨h1, h2, h3, h4⟩ := h
    have ha := e_allnum hc (w := Str.ofString "under") (ns := [r, k, t]) (e1 := some (.int place)) (e2 := some (.int many)) (e3 := some (.tup (nD tops))) (e4 := some (.int ns)) (by simp)
    simp only [nD_cons, nD_nil, List.length_cons, List.length_nil, List.replicate_succ, List.replicate_zero] at ha
    have x1 : ¬ (tops.length : Int) ≤ (r : Int) := by omega
    have x2 : ¬ (999 : Int) < (k : Int) := by omega
    have x3 : (place : Int) < (t : Int) := by omega
    have x4 : (t : Int) < (many : Int) := by omega
    have x5 : (place : Int) + 1 < (many : Int) := by omega
    simp [Ln.d, isK, ofC, wne, in_4, in_3, in_2, ix_m4, -ev_comp, ha, all3, x1, x2, x3, x4, x5]
  | go t =>
    obtain ⟨h3, h4⟩ := h
    have ha := e_allnum hc (w := Str.ofString "go") (ns := [t]) (e1 := some (.int place)) (e2 := some (.int many)) (e3 := some (.tup (nD tops))) (e4 := some (.int ns)) (by simp)
    simp only [nD_cons, nD_nil, List.length_cons, List.length_nil, List.replicate_succ, List.replicate_zero] at ha
    have x3 : (place : Int) < (t : Int) := by omega
    have x4 : (t : Int) < (many : Int) := by omega
    have x5 : (place : Int) + 1 < (many : Int) := by omega
    simp [Ln.d, isK, ofC, wne, in_4, in_3, in_2, ix_m2, -ev_comp, ha, all1, x3, x4, x5]
  | stop =>
    have ha := e_allnum hc (w := Str.ofString "stop") (ns := []) (e1 := some (.int place)) (e2 := some (.int many)) (e3 := some (.tup (nD tops))) (e4 := some (.int ns)) (by simp)
    simp only [nD_nil, List.length_nil, List.replicate_zero] at ha
    simp [Ln.d, isK, ofC, wne, in_4, in_3, in_2, -ev_comp, ha, all0]
/-- codes that check_code lets by -/
structure Cd.Ck (c : Cd) : Prop where
  tops : c.tops.length ≤ 4 ∧ ∀ t ∈ c.tops, 1 ≤ t ∧ t ≤ 71
  sends : c.sends ≤ 4
  len : 1 ≤ c.lines.length ∧ c.lines.length ≤ 4000
  ent : 1 ≤ c.ent.length ∧ c.ent.length ≤ 3 ∧ ∀ e ∈ c.ent, e < c.lines.length
  lines : ∀ (i : Nat) (l : Ln), c.lines[i]? = some l → l.ck c.tops.length c.sends c.lines.length i
theorem e_check {c : Cd} (h : c.Ck) {st : Sto} (hc : Closed st) : G_check_code [c.d] st = .ok c.d st := by
  refine run_pure hc (by simp [Cd.d, lns_lo]) ?_
  show B_check_code [some c.d, none, none, none, none, none, none] st = _
  obtain ⟨k1, k2⟩ := h.tops
  have k3 := h.sends
  obtain ⟨k4, k5⟩ := h.len
  obtain ⟨k6, k7, k8⟩ := h.ent
  have t1 : G_is_tuple [c.d, .int 4] st = .ok (.bl true) st := e_tuple1 hc [.tup (nD c.tops), .int c.sends, .tup (nD c.ent), .tup (c.lines.map Ln.d)]
  have t2 := e_tuple0 hc (nD c.tops)
  have t3 := e_tuple0 hc (c.lines.map Ln.d)
  have t4 := e_tuple0 hc (nD c.ent)
  have n1 := e_numbers hc (ns := c.tops) (a := 1) (b := 71) (by omega) (fun n hn => by have := k2 n hn; omega)
  have n2 := e_num1 hc (i := (c.sends : Nat)) (a := 0) (b := 4) (by omega) (by omega)
  have n3 := e_numbers hc (ns := c.ent) (a := 0) (b := (c.lines.length : Int) - 1) (by omega) (fun n hn => by have := k8 n hn; omega)
  have y1 : ¬ (4 : Int) < (c.tops.length : Int) := by omega
  have y2 : (1 : Int) ≤ (c.lines.length : Int) := by omega
  have y3 : (c.lines.length : Int) ≤ 4000 := by omega
  have y4 : (1 : Int) ≤ (c.ent.length : Int) := by omega
  have y5 : (c.ent.length : Int) ≤ 3 := by omega
  have hd : c.d = .tup [.tup (nD c.tops), .int c.sends, .tup (nD c.ent), .tup (c.lines.map Ln.d)] := rfl
  let E (a b : Option D) : Ev := [some c.d, some (.tup (nD c.tops)), some (.int c.sends), some (.tup (nD c.ent)), some (.tup (c.lines.map Ln.d)), a, b]
  have hE : ∀ a b, E a b = [some c.d, some (.tup (nD c.tops)), some (.int c.sends), some (.tup (nD c.ent)), some (.tup (c.lines.map Ln.d)), a, b] := fun _ _ => rfl
  obtain ⟨e', st', h1, ⟨a, b, he⟩, hst⟩ := for_inv0 (wk := wkEnum (wkSeq (c.lines.map Ln.d))) (p := .tp [.nm 5, .nm 6]) (S := L_check_code_1) (items := enumD (c.lines.map Ln.d)) (fun i env s => (∃ a b, env = E a b) ∧ s = st)
    (fun i env s _ => wkEnum_at (wkSeq_at _ _ _))
    (fun i d env s hdi hh => by
      obtain ⟨⟨a, b, rfl⟩, rfl⟩ := hh
      obtain ⟨e, he, rfl⟩ := enumD_get hdi
      rw [List.getElem?_map] at he
      cases hll : c.lines[i]? with
      | none => rw [hll] at he; cases he
      | some l =>
        rw [hll] at he
        cases he
        have hline := e_is_line hc (h.lines i l hll) (tops := c.tops) rfl
        have main : L_check_code_1 (E (some (.int (i : Nat))) (some l.d)) s = .ok (.nx (E (some (.int (i : Nat))) (some l.d))) s := by
          simp [L_check_code_1, hE, hline]
        exact ⟨_, by simp only [put_tp, puts_cons, puts_nil, put_nm]; rfl, _, _, .inl main, ⟨_, _, rfl⟩, rfl⟩)
    (n := 16777215) (env := E none none) (st := st) (by simp; omega) ⟨⟨none, none, rfl⟩, rfl⟩
  rw [he, hst] at h1
  unfold B_check_code
  rw [seq_nx (e1 := [some c.d, none, none, none, none, none, none]) (st1 := st) (by simp [t1])]
  rw [seq_nx (e1 := E none none) (st1 := st) (by rw [hE, hd]; simp)]
  rw [seq_nx (e1 := E none none) (st1 := st) (by simp [hE, t2, y1, n1])]
  rw [seq_nx (e1 := E none none) (st1 := st) (by simp [hE, n2])]
  rw [seq_nx (e1 := E none none) (st1 := st) (by simp [hE, t3, y2, y3])]
  rw [seq_nx (e1 := E none none) (st1 := st) (by simp [hE, t4, y4, y5])]
  rw [seq_nx (e1 := E none none) (st1 := st) (by simp [hE, n3])]
  rw [seq_nx ((for_eq (walkC_eq (f := fEnum) (wk := wkEnum (wkSeq (c.lines.map Ln.d))) (ds := [.tup (c.lines.map Ln.d)]) (st1 := st) (by simp [hE]) rfl)).trans h1)]
  simp [hE]
end F33
end QI

/-! lines of standings -/
namespace QI
open PySem PySem.Spec PyProof.Rows L2
open LC
namespace F33
theorem get_app2 {α : Type} {a b : List α} {p : Nat} {x : α} (h : (a ++ b)[p]? = some x) : a[p]? = some x ∨ ∃ q, p = a.length + q ∧ b[q]? = some x := by
  by_cases e : p < a.length
  · rw [List.getElem?_append_left e] at h
    exact .inl h
  · rw [List.getElem?_append_right (by omega)] at h
    exact .inr ⟨p - a.length, by omega, h⟩
/-- a line whose jumps are told by how many lines on, one of n -/
def relA (nt ns n p : Nat) : Ln → Prop
  | .raise r k => r < nt ∧ k ≤ 999
  | .clear r => r < nt
  | .send s k => s < ns ∧ k ≤ 999
  | .under r k t => r < nt ∧ k ≤ 999 ∧ 1 ≤ t ∧ p + t ≤ n
  | .go t => 1 ≤ t ∧ p + t ≤ n
  | .stop => True
def RelL (nt ns : Nat) (ls : List Ln) : Prop := ∀ (p : Nat) (l : Ln), ls[p]? = some l → relA nt ns ls.length p l
theorem relA_up {nt ns n p o m : Nat} {l : Ln} (h : relA nt ns n p l) (hm : o + n ≤ m) : relA nt ns m (o + p) l := by
  cases l with
  | under r k t => exact ⟨h.1, h.2.1, h.2.2.1, by have := h.2.2.2; omega⟩
  | go t => exact ⟨h.1, by have := h.2; omega⟩
  | _ => exact h
theorem relL_app {nt ns : Nat} {a b : List Ln} (ha : RelL nt ns a) (hb : RelL nt ns b) : RelL nt ns (a ++ b) := by
  intro p l h0
  rcases get_app2 h0 with h | ⟨q, rfl, h⟩
  · have := relA_up (o := 0) (m := (a ++ b).length) (ha p l h) (by simp)
    rwa [Nat.zero_add] at this
  · exact relA_up (hb q l h) (by simp)
theorem relL_one {nt ns : Nat} {l : Ln} (h : relA nt ns 1 0 l) : RelL nt ns [l] := by
  intro p x hx
  match p, hx with
  | 0, hx => cases hx; exact h
theorem relL_nil {nt ns : Nat} : RelL nt ns [] := fun p l h => nomatch h
theorem relL_under {nt ns r k : Nat} {a : List Ln} (hr : r < nt) (hk : k ≤ 999) (ha : RelL nt ns a) : RelL nt ns (.under r k (a.length + 1) :: a) := by
  intro p x hx
  match p, hx with
  | 0, hx => cases hx; exact ⟨hr, hk, by omega, by simp⟩
  | p + 1, hx =>
    have := relA_up (o := 1) (m := (Ln.under r k (a.length + 1) :: a).length) (ha p x hx) (by simp; omega)
    rw [Nat.add_comm p 1]; exact this
theorem relL_else {nt ns r k : Nat} {a b : List Ln} (hr : r < nt) (hk : k ≤ 999) (ha : RelL nt ns a) (hb : RelL nt ns b) : RelL nt ns (.under r k (a.length + 2) :: (a ++ .go (b.length + 1) :: b)) := by
  intro p x hx
  match p, hx with
  | 0, hx => cases hx; exact ⟨hr, hk, by omega, by simp⟩
  | p + 1, hx0 =>
    rcases get_app2 hx0 with hx | ⟨q, rfl, hx⟩
    · have := relA_up (o := 1) (m := (Ln.under r k (a.length + 2) :: (a ++ .go (b.length + 1) :: b)).length) (ha p x hx) (by simp; omega)
      rw [Nat.add_comm p 1]; exact this
    · match q, hx with
      | 0, hx => cases hx; exact ⟨by omega, by simp; omega⟩
      | q + 1, hx =>
        have := relA_up (o := 1 + a.length + 1) (m := (Ln.under r k (a.length + 2) :: (a ++ .go (b.length + 1) :: b)).length) (hb q x hx) (by simp; omega)
        rwa [show 1 + a.length + 1 + q = a.length + (q + 1) + 1 by omega] at this
/-- the lines that send a letter so many times -/
def sl (s k : Nat) : List Ln := List.replicate (k / 999) (.send s 999) ++ if k % 999 = 0 then [] else [.send s (k % 999)]
def sls : Nat → List Nat → List Ln
  | _, [] => []
  | i, t :: ts => sl i t ++ sls (i + 1) ts
theorem sl_len (s k : Nat) (h : k ≤ 16000) : (sl s k).length ≤ 17 := by
  unfold sl
  split <;> simp <;> omega
theorem sls_len : ∀ (i : Nat) (ts : List Nat), (∀ t ∈ ts, t ≤ 16000) → (sls i ts).length ≤ 17 * ts.length
  | _, [], _ => by simp [sls]
  | i, t :: ts, h => by
    have h1 := sl_len i t (h t List.mem_cons_self)
    have h2 := sls_len (i + 1) ts fun x hx => h x (List.mem_cons_of_mem _ hx)
    simp only [sls, List.length_append, List.length_cons]
    omega
theorem sls_app : ∀ (i : Nat) (a b : List Nat), sls i (a ++ b) = sls i a ++ sls (i + a.length) b
  | i, [], b => by simp [sls]
  | i, t :: a, b => by
    simp only [List.cons_append, sls, sls_app (i + 1) a b, List.length_cons, List.append_assoc]
    rw [show i + 1 + a.length = i + (a.length + 1) by omega]
theorem sl_rel {nt ns s k : Nat} (h : s < ns) : RelL nt ns (sl s k) := by
  refine relL_app ?_ ?_
  · intro p l hl
    rw [List.getElem?_replicate] at hl
    split at hl
    · cases hl; exact ⟨h, by omega⟩
    · cases hl
  · split
    · exact relL_nil
    · exact relL_one ⟨h, by omega⟩
theorem sls_rel {nt ns : Nat} : ∀ (i : Nat) (ts : List Nat), i + ts.length ≤ ns → RelL nt ns (sls i ts)
  | _, [], _ => relL_nil
  | i, t :: ts, h => relL_app (sl_rel (by simp at h; omega)) (sls_rel (i + 1) ts (by simp at h; omega))
theorem e_send_lines {st : Sto} (hc : Closed st) {s k : Nat} (h2 : k ≤ 16000) : G_send_lines [.int s, .int k] st = .ok (.rol ((sl s k).map Ln.d)) st := by
  refine run_pure hc (by simp [lns_lo]) ?_
  show B_send_lines [some (.int s), some (.int k), none] st = _
  have e1 : (k : Int) % 999 = ((k % 999 : Nat) : Int) := by omega
  have e2 : (k : Int) / 999 = ((k / 999 : Nat) : Int) := by omega
  have e3 : Nat.log2 999 < 9000 := log2_9000 (by omega)
  have hm : ∀ st : Sto, gMul (.rol [.tup [.str (Str.ofString "send"), .int s, .int 999]]) (.int (k / 999 : Nat)) st = .ok (.rol ((List.replicate (k / 999) (Ln.send s 999)).map Ln.d)) st := fun st => by
    simp only [gMul, listAt_rol]
    rw [if_pos ⟨by omega, by omega, by simp; omega⟩]
    have hq0 : (((k / 999 : Nat) : Int)).toNat = k / 999 := by omega
    rw [hq0]
    simp [Ln.d]
  have hq : k / 999 ≤ 16 := by omega
  by_cases hz : k % 999 = 0
  · have hz2 : ¬ (0 : Int) < ((k % 999 : Nat) : Int) := by omega
    have hq2 : k / 999 ≤ 16777216 := by omega
    simp [B_send_lines, e1, e2, e3, hm, sl, hz, hq2, -Int.natCast_emod, -Int.natCast_ediv]
  · have hz2 : (0 : Int) < ((k % 999 : Nat) : Int) := by omega
    have hz3 : 0 < k % 999 := by omega
    have hq2 : k / 999 + 1 ≤ 16777216 := by omega
    have hq3 : k / 999 ≤ 16777215 := by omega
    simp [B_send_lines, e1, e2, e3, hm, sl, hz, hz3, hq2, hq3, Ln.d, -Int.natCast_emod, -Int.natCast_ediv]
/-- the lines of one standing -/
def blk (many s f : Nat) (sent : List Nat) : List Ln := (if f = s then [] else [.raise 0 ((f + many - s) % many)]) ++ sls 0 sent
theorem blk_len {many s f : Nat} {sent : List Nat} (h : ∀ t ∈ sent, t ≤ 16000) : (blk many s f sent).length ≤ 1 + 17 * sent.length := by
  have := sls_len 0 sent h
  unfold blk
  split <;> simp <;> omega
theorem blk_rel {many s f nt ns : Nat} {sent : List Nat} (hm : 1 ≤ many ∧ many ≤ 900) (hs : s < many) (hf : f < many) (hn : sent.length ≤ ns) (ht : 1 < many → 0 < nt) : RelL nt ns (blk many s f sent) := by
  refine relL_app ?_ (sls_rel 0 sent (by omega))
  split
  · exact relL_nil
  · have := Nat.mod_lt (f + many - s) (show 0 < many by omega)
    exact relL_one ⟨ht (by omega), by omega⟩
theorem e_standing_lines {st : Sto} (hc : Closed st) {many s f : Nat} {sent : List Nat} (hm : 1 ≤ many) (hs : s < many) (hf : f < many) (hl : sent.length < 100) (ht : ∀ t ∈ sent, t ≤ 16000) :
    G_standing_lines [.int many, .int s, .int f, .tup (nD sent)] st = .ok (.ref st.length) (st ++ [.lst ((blk many s f sent).map Ln.d)]) := by
  refine run_cell hc (lns_lo _ _) ?_
  show B_standing_lines [some (.int many), some (.int s), some (.int f), some (.tup (nD sent)), none, none, none] st = _
  unfold B_standing_lines
  generalize hz : (if f = s then [] else [Ln.raise 0 ((f + many - s) % many)]) = zs
  have hz1 : zs.length ≤ 1 := by rw [← hz]; split <;> simp
  have hfirst : sSet 4 (iIf (iTest (iBin gEqE (iVar 2) (iVar 1))) (iCell (iLst (iNil))) (iCell (iLst (iCons (iTup (iCons (iC (.str (Str.ofString "raise"))) (iCons (iC (.int 0)) (iCons (iBin gMod (iBin gSub (iVar 2) (iVar 1)) (iVar 0)) (iNil))))) (iNil))))) [some (.int many), some (.int s), some (.int f), some (.tup (nD sent)), none, none, none] st = .ok (.nx [some (.int many), some (.int s), some (.int f), some (.tup (nD sent)), some (.ref st.length), none, none]) (st ++ [.lst (zs.map Ln.d)]) := by
    by_cases e : f = s
    · subst e
      simp at hz
      subst hz
      simp
    · have e1 : ((f : Int) - s) % many = (((f + many - s) % many : Nat) : Int) := by
        have : (f : Int) - s = ((f + many - s : Nat) : Int) - many := by omega
        rw [this, Int.sub_emod_right]; rfl
      have e2 : ¬ (f : Int) = s := by omega
      have e3 : (0 : Int) < many := by omega
      rw [if_neg e] at hz
      subst hz
      have e4 : 0 < many := hm
      simp [e, e1, e2, e3, e4, Ln.d, -Int.natCast_emod]
  obtain ⟨e', st', h1, ⟨a, b, he⟩, hst⟩ := for_inv0 (wk := wkEnum (wkSeq (nD sent))) (p := .tp [.nm 5, .nm 6]) (S := L_standing_lines_1) (items := enumD (nD sent)) (fun i env s' => (∃ a b, env = [some (.int many), some (.int s), some (.int f), some (.tup (nD sent)), some (.ref st.length), a, b]) ∧ s' = st ++ [.lst ((zs ++ sls 0 (sent.take i)).map Ln.d)])
    (fun i env s _ => wkEnum_at (wkSeq_at _ _ _))
    (fun i d env s' hdi hh => by
      obtain ⟨⟨a, b, rfl⟩, rfl⟩ := hh
      obtain ⟨e, he, rfl⟩ := enumD_get hdi
      rw [nD_get] at he
      cases hll : sent[i]? with
      | none => rw [hll] at he; cases he
      | some t =>
        rw [hll] at he
        cases he
        have htt := ht t (List.mem_of_getElem? hll)
        have htk : sent.take (i + 1) = sent.take i ++ [t] := by rw [List.take_add_one, hll]; rfl
        have hlen2 := sls_len 0 (sent.take i) (fun x hx => ht x (List.mem_of_mem_take hx))
        have hlen3 := sl_len i t htt
        have hil : (sent.take i).length = i := by have := lt_of_get hll; rw [List.length_take]; omega
        have hsl : sls 0 (sent.take (i + 1)) = sls 0 (sent.take i) ++ sl i t := by
          rw [htk, sls_app, hil]; simp [sls]
        rw [hsl]
        have hi2 := lt_of_get hll
        have hxl : (zs ++ sls 0 (sent.take i)).length ≤ 5000 := by rw [List.length_append]; rw [hil] at hlen2; omega
        generalize hxs : zs ++ sls 0 (sent.take i) = xs at hxl
        have hassoc : zs ++ (sls 0 (sent.take i) ++ sl i t) = xs ++ sl i t := by rw [← hxs]; simp
        rw [hassoc]
        have hcl : Closed (st ++ [.lst (xs.map Ln.d)]) := closed_end hc (lns_lo _ _)
        have hs := e_send_lines hcl (s := i) htt
        have he : gExtend (.ref st.length) [.rol ((sl i t).map Ln.d)] (st ++ [.lst (xs.map Ln.d)]) = .ok .non (st ++ [.lst ((xs ++ sl i t).map Ln.d)]) := by
          unfold gExtend
          simp only [get_end, listAt_rol]
          rw [if_pos (by simp; omega), setL_end]
          simp
        have main : L_standing_lines_1 [some (.int many), some (.int s), some (.int f), some (.tup (nD sent)), some (.ref st.length), some (.int (i : Nat)), some (.int (t : Nat))] (st ++ [.lst (xs.map Ln.d)]) = .ok (.nx [some (.int many), some (.int s), some (.int f), some (.tup (nD sent)), some (.ref st.length), some (.int (i : Nat)), some (.int (t : Nat))]) (st ++ [.lst ((xs ++ sl i t).map Ln.d)]) := by
          simp [L_standing_lines_1, hs]
          have he' := he
          simp at he'
          simp [he']
        exact ⟨_, by simp only [put_tp, puts_cons, puts_nil, put_nm]; rfl, _, _, .inl main, ⟨_, _, rfl⟩, rfl⟩)
    (n := 16777215) (env := [some (.int many), some (.int s), some (.int f), some (.tup (nD sent)), some (.ref st.length), none, none]) (st := st ++ [.lst (zs.map Ln.d)]) (by simp; omega) ⟨⟨none, none, rfl⟩, by simp [sls]⟩
  rw [enumD_len, nD_len, List.take_length] at hst
  rw [he, hst] at h1
  rw [seq_nx hfirst]
  rw [seq_nx ((for_eq (walkC_eq (f := fEnum) (wk := wkEnum (wkSeq (nD sent))) (ds := [.tup (nD sent)]) (st1 := st ++ [.lst (zs.map Ln.d)]) (by simp) rfl)).trans h1)]
  have hb : zs ++ sls 0 sent = blk many s f sent := by rw [← hz]; rfl
  simp only [hb]
  simp
end F33
end QI

/-! code_of_machine -/
namespace QI
open PySem PySem.Spec PyProof.Rows L2
open LC
namespace F33
def absL (first p : Nat) : Ln → Ln
  | .under r k t => .under r k (first + p + t)
  | .go t => .go (first + p + t)
  | l => l
/-- a rule, placed, with its stop -/
def pl0 (o : Nat) (r : List Ln) : List Ln := (r ++ [Ln.stop]).mapIdx fun p l => absL o p l
theorem pl0_len (o : Nat) (r : List Ln) : (pl0 o r).length = r.length + 1 := by simp [pl0]
theorem e_placed {st : Sto} (hc : Closed st) (rl : List Ln) (first : Nat) (hl : rl.length < 10000) : G_placed [.rol (rl.map Ln.d), .int first] st = .ok (.ref st.length) (st ++ [.lst ((rl.mapIdx fun p l => absL first p l).map Ln.d)]) := by
  refine run_cell hc (lns_lo _ _) ?_
  show B_placed [some (.rol (rl.map Ln.d)), some (.int first), none, none, none, none] st = _
  unfold B_placed
  obtain ⟨e', st', h1, ⟨t3, t4, t5, rfl⟩, rfl⟩ := for_inv0 (wk := wkEnum (wkSeq (rl.map Ln.d))) (p := .tp [.nm 3, .nm 4]) (S := L_placed_1) (items := enumD (rl.map Ln.d)) (fun i env s => (∃ t3 t4 t5, env = [some (.rol (rl.map Ln.d)), some (.int first), some (.ref st.length), t3, t4, t5]) ∧ s = st ++ [.lst (((rl.mapIdx fun p l => absL first p l).take i).map Ln.d)])
    (fun i env s _ => wkEnum_at (wkSeq_at _ _ _))
    (fun i d env s hdi hh => by
      obtain ⟨⟨t3, t4, t5, rfl⟩, rfl⟩ := hh
      obtain ⟨e, he, rfl⟩ := enumD_get hdi
      rw [List.getElem?_map] at he
      cases hx : rl[i]? with
      | none => rw [hx] at he; cases he
      | some l =>
        rw [hx] at he
        cases he
        have hi := lt_of_get hx
        have e2 : (rl.mapIdx fun p l => absL first p l).take (i + 1) = (rl.mapIdx fun p l => absL first p l).take i ++ [absL first i l] := by
          rw [List.take_add_one, List.getElem?_mapIdx, hx]; rfl
        rw [e2]
        have hlen : ((rl.mapIdx fun p l => absL first p l).take i).length < 16777216 := by simp; omega
        generalize (rl.mapIdx fun p l => absL first p l).take i = xs at hlen
        have main : L_placed_1 [some (.rol (rl.map Ln.d)), some (.int first), some (.ref st.length), some (.int (i : Nat)), some l.d, t5] (st ++ [.lst (xs.map Ln.d)]) = .ok (.nx [some (.rol (rl.map Ln.d)), some (.int first), some (.ref st.length), some (.int (i : Nat)), some l.d, some (.bl (match l with | .under _ _ _ => true | .go _ => true | _ => false))]) (st ++ [.lst ((xs ++ [absL first i l]).map Ln.d)]) := by
          have ha : gAppend (.ref st.length) [(absL first i l).d] (st ++ [.lst (xs.map Ln.d)]) = .ok .non (st ++ [.lst ((xs ++ [absL first i l]).map Ln.d)]) := by
            rw [gAppend_at (get_end _) (by simpa using hlen), setL_end]; simp
          have cut3 : ∀ a b c d : D, cut [a, b, c, d] none (some (-1)) = [a, b, c] := fun _ _ _ _ => rfl
          have cut2 : ∀ a b : D, cut [a, b] none (some (-1)) = [a] := fun _ _ => rfl
          have x1 : ∀ t : Nat, (first : Int) + i + t = ((first + i + t : Nat) : Int) := fun t => by push_cast; rfl
          cases l <;> simp only [absL, Ln.d] at ha <;> simp [L_placed_1, Ln.d, absL, in_2, wne, cut3, cut2, ix_m2, ix_m4, x1, ha, -Int.natCast_add]
        exact ⟨_, by simp only [put_tp, puts_cons, puts_nil, put_nm]; rfl, _, _, .inl main, ⟨_, _, _, rfl⟩, rfl⟩)
    (n := 16777215) (env := [some (.rol (rl.map Ln.d)), some (.int first), some (.ref st.length), none, none, none]) (st := st ++ [.lst []]) (by simp; omega) ⟨⟨none, none, none, rfl⟩, by simp⟩
  rw [seq_nx (e1 := [some (.rol (rl.map Ln.d)), some (.int first), some (.ref st.length), none, none, none]) (st1 := st ++ [.lst []]) (by simp)]
  rw [enumD_len, List.length_map, List.take_of_length_le (by simp)] at h1
  rw [seq_nx ((for_eq (walkC_eq (f := fEnum) (wk := wkEnum (wkSeq (rl.map Ln.d))) (ds := [.rol (rl.map Ln.d)]) (st1 := st ++ [.lst []]) (by simp) rfl)).trans h1)]
  simp
/-- the lines of the first rules -/
def lsN (rl : Nat → List Ln) : Nat → List Ln
  | 0 => []
  | n + 1 => lsN rl n ++ pl0 (lsN rl n).length (rl n)
def esN (rl : Nat → List Ln) (n : Nat) : List Nat := (List.range n).map fun k => (lsN rl k).length
theorem esN_succ (rl : Nat → List Ln) (n : Nat) : esN rl (n + 1) = esN rl n ++ [(lsN rl n).length] := by simp [esN, List.range_succ]
theorem esN_len (rl : Nat → List Ln) (n : Nat) : (esN rl n).length = n := by simp [esN]
theorem lsN_len (rl : Nat → List Ln) (b : Nat) (h : ∀ k, (rl k).length ≤ b) : ∀ n, (lsN rl n).length ≤ n * (b + 1)
  | 0 => by simp [lsN]
  | n + 1 => by
    have h1 := lsN_len rl b h n
    have h2 := h n
    simp only [lsN, List.length_append, pl0_len]
    rw [Nat.add_mul]; omega
/-- a list value: of its own or a cell behind the rules -/
def LV (st junk : Sto) (V : D) (xs : List D) : Prop := V = .rol xs ∨ ∃ n, V = .ref (st.length + 1 + n) ∧ junk[n]? = some (.lst xs)
def RSt (st : Sto) (rules : List D) (junk : Sto) : Sto := st ++ .lst rules :: junk
section
variable {st junk : Sto} {rules xs : List D} {V : D}
theorem rst_0 : (RSt st rules junk)[st.length]? = some (.lst rules) := mid_get _
theorem rst_len : (RSt st rules junk).length = st.length + 1 + junk.length := by simp [RSt]; omega
theorem rst_at {k : Nat} {c : Cell} (h : junk[k]? = some c) : (RSt st rules junk)[st.length + 1 + k]? = some c := by
  unfold RSt
  rw [List.getElem?_append_right (by omega), show st.length + 1 + k - st.length = k + 1 by omega]
  simpa using h
theorem rst_new (c : Cell) : RSt st rules junk ++ [c] = RSt st rules (junk ++ [c]) := by simp [RSt]
theorem LV.list (h : LV st junk V xs) (rules : List D) : listAt (RSt st rules junk) V = some xs := by
  rcases h with rfl | ⟨n, rfl, h⟩
  · rfl
  · exact listAt_ref (rst_at h)
theorem LV.seq (h : LV st junk V xs) (rules : List D) : seqAt (RSt st rules junk) V = some xs := by
  rcases h with rfl | ⟨n, rfl, h⟩
  · rfl
  · exact seqAt_ref (rst_at h)
theorem LV.len (h : LV st junk V xs) (rules : List D) : gLen [V] (RSt st rules junk) = .ok (.int xs.length) (RSt st rules junk) := by
  rcases h with rfl | ⟨n, rfl, h⟩
  · simp
  · exact gLen_ref (rst_at h)
theorem LV.more (h : LV st junk V xs) (j : Sto) : LV st (junk ++ j) V xs := by
  rcases h with rfl | ⟨n, rfl, h⟩
  · exact .inl rfl
  · exact .inr ⟨n, rfl, by rw [List.getElem?_append_left (lt_of_get h)]; exact h⟩
theorem LV.lo (h : LV st junk V xs) (hx : ∀ k, D.loAll k xs = true) : D.lo (st.length + 1 + junk.length) V = true := by
  rcases h with rfl | ⟨n, rfl, h⟩
  · simpa using hx _
  · have := lt_of_get h
    simp; omega
theorem rst_closed (hc : Closed st) (hj : PlnS junk) (hr : D.loAll (st.length + 1 + junk.length) rules = true) : Closed (RSt st rules junk) := by
  intro x hx
  rw [rst_len]
  rcases List.mem_append.mp hx with h | h
  · exact Cell.lo_mono (by omega) (hc x h)
  · rcases List.mem_cons.mp h with rfl | h
    · exact hr
    · exact hj _ x h
theorem gAdd_LV {S : Sto} {xs ys : List D} {e : D} (h : listAt S e = some ys) (hl : xs.length + ys.length ≤ 16777216) : gAdd (.rol xs) e S = .ok (.rol (xs ++ ys)) S := by
  show (match listAt S (.rol xs), listAt S e with
    | some xs, some ys => if xs.length + ys.length ≤ 16777216 then (Rs.ok (D.rol (xs ++ ys)) S : Rs D) else .bad
    | _, _ => .bad) = _
  rw [h]
  simp [hl]
end
/-! machines -/
def mstep (a : Nat × List Nat) : D := .tup [.int a.1, .tup (nD a.2)]
def mrow (r : List (Nat × List Nat)) : D := .tup (r.map mstep)
def mD (M : List (List (Nat × List Nat))) : D := .tup (M.map mrow)
structure Mk (M : List (List (Nat × List Nat))) (takes sends : Nat) : Prop where
  many : 1 ≤ M.length ∧ M.length ≤ 16
  row : ∀ r ∈ M, r.length = takes ∧ ∀ a ∈ r, a.1 < M.length ∧ a.2.length = sends ∧ ∀ x ∈ a.2, x ≤ 16000
  takes : 1 ≤ takes ∧ takes ≤ 3
  sends : sends ≤ 3
def stM (M : List (List (Nat × List Nat))) (s l : Nat) : Nat × List Nat := (M.getD s []).getD l (0, [])
theorem Mk.rowlen {M : List (List (Nat × List Nat))} {takes sends : Nat} (h : Mk M takes sends) {s : Nat} (hs : s < M.length) : (M.getD s []).length = takes := by
  have e : M.getD s [] = M[s] := by simp [List.getD, hs]
  rw [e]
  exact (h.row _ (List.getElem_mem hs)).1
theorem Mk.st {M : List (List (Nat × List Nat))} {takes sends : Nat} (h : Mk M takes sends) {s l : Nat} (hs : s < M.length) (hl : l < takes) : (stM M s l).1 < M.length ∧ (stM M s l).2.length = sends ∧ ∀ x ∈ (stM M s l).2, x ≤ 16000 := by
  have e : M.getD s [] = M[s] := by simp [List.getD, hs]
  have h1 := h.row _ (List.getElem_mem hs)
  have hl2 : l < M[s].length := by rw [h1.1]; exact hl
  have e2 : stM M s l = M[s][l] := by unfold stM; rw [e]; simp [List.getD, hl2]
  rw [e2]
  exact h1.2 _ (List.getElem_mem hl2)
theorem m_ix1 {M : List (List (Nat × List Nat))} {s : Nat} (hs : s < M.length) (st : Sto) : gIx (mD M) (.int s) st = .ok (mrow (M.getD s [])) st :=
  gIx_nat (xs := M.map mrow) rfl (by rw [List.getElem?_map, List.getElem?_eq_getElem hs]; simp [List.getD, hs])
theorem m_ix2 {M : List (List (Nat × List Nat))} {s l : Nat} (hl : l < (M.getD s []).length) (st : Sto) : gIx (mrow (M.getD s [])) (.int l) st = .ok (mstep (stM M s l)) st :=
  gIx_nat (xs := (M.getD s []).map mstep) rfl (by rw [List.getElem?_map, List.getElem?_eq_getElem hl]; unfold stM; rw [List.getD_eq_getElem?_getD (l := M.getD s []), List.getElem?_eq_getElem hl]; rfl)
theorem mD_lo (M : List (List (Nat × List Nat))) (k : Nat) : D.lo k (mD M) = true := by
  have : D.loAll k (M.map mrow) = true := by
    rw [loAll_iff]
    intro d hd
    obtain ⟨r, _, rfl⟩ := List.mem_map.mp hd
    have : D.loAll k (r.map mstep) = true := by
      rw [loAll_iff]
      intro d hd
      obtain ⟨a, _, rfl⟩ := List.mem_map.mp hd
      simp [mstep]
    simpa [mrow] using this
  simpa [mD] using this
/-- the block of a standing -/
def bkM (M : List (List (Nat × List Nat))) (l s : Nat) : List Ln := blk M.length s (stM M s l).1 (stM M s l).2
/-- the rule of a letter, its last standings' part -/
def rulJ (M : List (List (Nat × List Nat))) (l : Nat) : Nat → List Ln
  | 0 => []
  | j + 1 => if j = 0 then bkM M l (M.length - 1) else if (rulJ M l j).length = 0 then .under 0 (M.length - 1 - j + 1) ((bkM M l (M.length - 1 - j)).length + 1) :: bkM M l (M.length - 1 - j)
      else .under 0 (M.length - 1 - j + 1) ((bkM M l (M.length - 1 - j)).length + 2) :: (bkM M l (M.length - 1 - j) ++ .go ((rulJ M l j).length + 1) :: rulJ M l j)
section
variable {M : List (List (Nat × List Nat))} {takes sends : Nat}
theorem bkM_len (h : Mk M takes sends) {l s : Nat} (hl : l < takes) (hs : s < M.length) : (bkM M l s).length ≤ 52 := by
  obtain ⟨h1, h2, h3⟩ := h.st hs hl
  have := blk_len (many := M.length) (s := s) (f := (stM M s l).1) h3
  have hs3 := h.sends
  unfold bkM
  rw [h2] at this
  omega
theorem rulJ_len (h : Mk M takes sends) {l : Nat} (hl : l < takes) : ∀ j, j ≤ M.length → (rulJ M l j).length ≤ j * 54
  | 0, _ => by simp [rulJ]
  | j + 1, hj => by
    have h1 := rulJ_len h hl j (by omega)
    have hm := h.many
    have h2 := bkM_len h hl (s := M.length - 1) (by omega)
    have h3 := bkM_len h hl (s := M.length - 1 - j) (by omega)
    simp only [rulJ]
    split
    · omega
    · split
      · simp only [List.length_cons]; omega
      · simp only [List.length_cons, List.length_append]; omega
theorem bkM_rel (h : Mk M takes sends) {l s nt : Nat} (hl : l < takes) (hs : s < M.length) (ht : 1 < M.length → 0 < nt) : RelL nt sends (bkM M l s) := by
  obtain ⟨h1, h2, h3⟩ := h.st hs hl
  have hm := h.many
  exact blk_rel ⟨hm.1, by omega⟩ hs h1 (by omega) ht
theorem rulJ_rel (h : Mk M takes sends) {l nt : Nat} (hl : l < takes) (ht : 1 < M.length → 0 < nt) : ∀ j, j ≤ M.length → RelL nt sends (rulJ M l j)
  | 0, _ => relL_nil
  | j + 1, hj => by
    have hm := h.many
    simp only [rulJ]
    split
    · exact bkM_rel h hl (by omega) ht
    · have hb := bkM_rel (nt := nt) h hl (s := M.length - 1 - j) (by omega) ht
      split
      · exact relL_under (ht (by omega)) (by omega) hb
      · exact relL_else (ht (by omega)) (by omega) hb (rulJ_rel h hl ht j (by omega))
end
end F33
end QI

/-! code_of_machine, the rules -/
namespace QI
open PySem PySem.Spec PyProof.Rows L2
open LC
namespace F33
section
variable {M : List (List (Nat × List Nat))} {takes sends l j : Nat} {st junk : Sto} {rules : List D} {V : D}
def CE (M : List (List (Nat × List Nat))) (st : Sto) (t3 t4 t5 t6 t7 : Option D) : Ev := [some (mD M), some (.int M.length), some (.ref st.length), t3, t4, t5, t6, t7]
theorem c_step (h : Mk M takes sends) (hl : l < takes) (hj : j < M.length) (hc : Closed st) (hjk : PlnS junk) (hr : D.loAll (st.length + 1 + junk.length) rules = true) (hV : LV st junk V ((rulJ M l j).map Ln.d)) (t6 t7 : Option D) :
    ∃ (V' : D) (jm : Sto) (t6' t7' : Option D), PlnS (junk ++ jm) ∧ LV st (junk ++ jm) V' ((rulJ M l (j + 1)).map Ln.d) ∧
      L_code_of_machine_1 (CE M st (some (.int l)) (some V) (some (.int (M.length - 1 - j : Nat))) t6 t7) (RSt st rules junk) = .ok (.nx (CE M st (some (.int l)) (some V') (some (.int (M.length - 1 - j : Nat))) t6' t7')) (RSt st rules (junk ++ jm)) := by
  have hm := h.many
  have hs : M.length - 1 - j < M.length := by omega
  obtain ⟨k1, k2, k3⟩ := h.st hs hl
  have hcl := rst_closed hc hjk hr
  have hsd := h.sends
  have e1 := e_standing_lines hcl (many := M.length) (s := M.length - 1 - j) hm.1 hs k1 (by omega) k3
  rw [rst_len, rst_new] at e1
  have hbl := bkM_len h hl hs
  have hb : blk M.length (M.length - 1 - j) (stM M (M.length - 1 - j) l).1 (stM M (M.length - 1 - j) l).2 = bkM M l (M.length - 1 - j) := rfl
  rw [hb] at e1
  have i1 := m_ix1 hs (RSt st rules junk)
  have i2 := m_ix2 (M := M) (s := M.length - 1 - j) (l := l) (by rw [h.rowlen hs]; exact hl) (RSt st rules junk)
  have hrl := rulJ_len h hl j (by omega)
  have hjb : (junk ++ [.lst ((bkM M l (M.length - 1 - j)).map Ln.d)])[junk.length]? = some (.lst ((bkM M l (M.length - 1 - j)).map Ln.d)) := by simp
  have hjk2 : PlnS (junk ++ [.lst ((bkM M l (M.length - 1 - j)).map Ln.d)]) := plnS_app hjk (fun n => lns_lo n _)
  have hV2 := hV.more [.lst ((bkM M l (M.length - 1 - j)).map Ln.d)]
  have hrl2 : (rulJ M l j).length ≤ 900 := by have : j * 54 ≤ 16 * 54 := Nat.mul_le_mul_right _ (by omega); omega
  have hfirst : sSet 6 (iCall 4 G_standing_lines [] (iCons (iVar 1) (iCons (iVar 5) (iCons (iBin gIx (iBin gIx (iBin gIx (iVar 0) (iVar 5)) (iVar 3)) (iC (.int 0))) (iCons (iBin gIx (iBin gIx (iBin gIx (iVar 0) (iVar 5)) (iVar 3)) (iC (.int 1))) (iNil)))))) (CE M st (some (.int l)) (some V) (some (.int (M.length - 1 - j : Nat))) t6 t7) (RSt st rules junk) = .ok (.nx (CE M st (some (.int l)) (some V) (some (.int (M.length - 1 - j : Nat))) (some (.ref (st.length + 1 + junk.length))) t7)) (RSt st rules (junk ++ [.lst ((bkM M l (M.length - 1 - j)).map Ln.d)])) := by
    simp [CE, i1, i2, mstep, e1, -List.getD_eq_getElem?_getD]
  unfold L_code_of_machine_1
  rw [seq_nx hfirst]
  generalize hJ : junk ++ [.lst ((bkM M l (M.length - 1 - j)).map Ln.d)] = J at hjb hjk2 hV2
  by_cases hj0 : j = 0
  · subst hj0
    refine ⟨.ref (st.length + 1 + junk.length), [.lst ((bkM M l (M.length - 1 - 0)).map Ln.d)], some (.ref (st.length + 1 + junk.length)), t7, by rw [hJ]; exact hjk2, by rw [hJ]; exact .inr ⟨junk.length, rfl, by simpa [rulJ] using hjb⟩, ?_⟩
    have x : ((M.length - 1 - 0 : Nat) : Int) = (M.length : Int) - 1 := by omega
    rw [hJ, x]
    simp [CE]
  · have x : ¬ ((M.length - 1 - j : Nat) : Int) = (M.length : Int) - 1 := by omega
    have lb : gLen [.ref (st.length + 1 + junk.length)] (RSt st rules J) = .ok (.int (bkM M l (M.length - 1 - j)).length) (RSt st rules J) := by
      rw [gLen_ref (rst_at hjb)]; simp
    have lV := hV2.len rules
    rw [List.length_map] at lV
    have ab : listAt (RSt st rules J) (.ref (st.length + 1 + junk.length)) = some ((bkM M l (M.length - 1 - j)).map Ln.d) := listAt_ref (rst_at hjb)
    have aV := hV2.list rules
    generalize hs' : M.length - 1 - j = s at *
    have x1 : (s : Int) + 1 = ((s + 1 : Nat) : Int) := by push_cast; rfl
    by_cases hz : (rulJ M l j).length = 0
    · refine ⟨.rol ((rulJ M l (j + 1)).map Ln.d), [.lst ((bkM M l s).map Ln.d)], some (.ref (st.length + 1 + junk.length)), some (.rol []), by rw [hJ]; exact hjk2, by rw [hJ]; exact .inl rfl, ?_⟩
      rw [hJ]
      have hR : rulJ M l (j + 1) = .under 0 (s + 1) ((bkM M l s).length + 1) :: bkM M l s := by
        simp only [rulJ, hj0, hz, if_false, if_true, hs']
      rw [hR]
      have hV0 : rulJ M l j = [] := List.eq_nil_of_length_eq_zero hz
      rw [hV0] at aV lV
      have x2 : ((bkM M l s).length : Int) + 0 + 1 = (((bkM M l s).length + 1 : Nat) : Int) := by push_cast; omega
      have g1 := gAdd_LV (S := RSt st rules J) (xs := [(Ln.under 0 (s + 1) ((bkM M l s).length + 1)).d]) ab (by simp; omega)
      have g3 := gAdd_LV (S := RSt st rules J) (xs := (Ln.under 0 (s + 1) ((bkM M l s).length + 1)).d :: (bkM M l s).map Ln.d) aV (by simp; omega)
      simp only [Ln.d, List.cons_append, List.nil_append, List.map_nil, List.append_nil] at g1 g3
      simp only [List.length_nil] at lV
      have hz3 : (bkM M l s).length + 1 ≤ 16777216 := by omega
      have g1' : gAdd (.rol [.tup [.str (Str.ofString "under"), .int 0, .int (s + 1 : Nat), .int ((bkM M l s).length + 1 : Nat)]]) (.ref (st.length + 1 + junk.length)) (RSt st rules J) = .ok (.rol (.tup [.str (Str.ofString "under"), .int 0, .int (s + 1 : Nat), .int ((bkM M l s).length + 1 : Nat)] :: (bkM M l s).map Ln.d)) (RSt st rules J) := g1
      have g3' : gAdd (.rol (.tup [.str (Str.ofString "under"), .int 0, .int (s + 1 : Nat), .int ((bkM M l s).length + 1 : Nat)] :: (bkM M l s).map Ln.d)) V (RSt st rules J) = .ok (.rol (.tup [.str (Str.ofString "under"), .int 0, .int (s + 1 : Nat), .int ((bkM M l s).length + 1 : Nat)] :: (bkM M l s).map Ln.d)) (RSt st rules J) := g3
      have lV' : gLen [V] (RSt st rules J) = .ok (.int 0) (RSt st rules J) := lV
      have x2' : ((bkM M l s).length : Int) + 1 = (((bkM M l s).length + 1 : Nat) : Int) := by push_cast; rfl
      simp [CE, x, lV', lb, x1, x2', g1', g3', hz3, Ln.d, -Int.natCast_add]
    · refine ⟨.rol ((rulJ M l (j + 1)).map Ln.d), [.lst ((bkM M l s).map Ln.d)], some (.ref (st.length + 1 + junk.length)), some (.rol [(Ln.go ((rulJ M l j).length + 1)).d]), by rw [hJ]; exact hjk2, by rw [hJ]; exact .inl rfl, ?_⟩
      rw [hJ]
      have hR : rulJ M l (j + 1) = .under 0 (s + 1) ((bkM M l s).length + 2) :: (bkM M l s ++ .go ((rulJ M l j).length + 1) :: rulJ M l j) := by
        simp only [rulJ, hj0, hz, if_false, hs']
      rw [hR]
      have g1' : gAdd (.rol [.tup [.str (Str.ofString "under"), .int 0, .int (s + 1 : Nat), .int ((bkM M l s).length + 2 : Nat)]]) (.ref (st.length + 1 + junk.length)) (RSt st rules J) = .ok (.rol (.tup [.str (Str.ofString "under"), .int 0, .int (s + 1 : Nat), .int ((bkM M l s).length + 2 : Nat)] :: (bkM M l s).map Ln.d)) (RSt st rules J) :=
        gAdd_LV (xs := [.tup [.str (Str.ofString "under"), .int 0, .int (s + 1 : Nat), .int ((bkM M l s).length + 2 : Nat)]]) ab (by simp; omega)
      have g3' : gAdd (.rol (.tup [.str (Str.ofString "under"), .int 0, .int (s + 1 : Nat), .int ((bkM M l s).length + 2 : Nat)] :: ((bkM M l s).map Ln.d ++ [.tup [.str (Str.ofString "go"), .int ((rulJ M l j).length + 1 : Nat)]]))) V (RSt st rules J) = .ok (.rol (.tup [.str (Str.ofString "under"), .int 0, .int (s + 1 : Nat), .int ((bkM M l s).length + 2 : Nat)] :: ((bkM M l s).map Ln.d ++ [.tup [.str (Str.ofString "go"), .int ((rulJ M l j).length + 1 : Nat)]]) ++ (rulJ M l j).map Ln.d)) (RSt st rules J) :=
        gAdd_LV aV (by simp; omega)
      have x2 : ((bkM M l s).length : Int) + 1 + 1 = (((bkM M l s).length + 2 : Nat) : Int) := by push_cast; omega
      have x3 : ((rulJ M l j).length : Int) + 1 = (((rulJ M l j).length + 1 : Nat) : Int) := by push_cast; rfl
      have hz2 : 0 < (rulJ M l j).length := by omega
      have hz3 : (bkM M l s).length + 1 + 1 ≤ 16777216 := by omega
      simp [CE, x, lV, lb, x1, x2, x3, hz2, g1', g3', hz3, Ln.d, -Int.natCast_add]
end
end F33
end QI

/-! code_of_machine, whole -/
namespace QI
open PySem PySem.Spec PyProof.Rows L2
open LC
namespace F33
def revD (n : Nat) : List D := ((List.range n).map fun i => D.int (i : Nat)).reverse
theorem revD_len (n : Nat) : (revD n).length = n := by simp [revD]
theorem revD_get {n j : Nat} {d : D} (h : (revD n)[j]? = some d) : j < n ∧ d = .int (n - 1 - j : Nat) := by
  have hj := lt_of_get h
  rw [revD_len] at hj
  refine ⟨hj, ?_⟩
  unfold revD at h
  rw [List.getElem?_reverse (by simpa using hj)] at h
  simp only [List.length_map, List.length_range, List.getElem?_map] at h
  rw [List.getElem?_range (by omega)] at h
  simpa using h.symm
section
variable {M : List (List (Nat × List Nat))} {takes sends : Nat} {st : Sto}
theorem c_inner (h : Mk M takes sends) {l : Nat} (hl : l < takes) (hc : Closed st) {junk : Sto} (hjk : PlnS junk) {rules : List D} (hr : D.loAll (st.length + 1 + junk.length) rules = true) (t5 t6 t7 : Option D) :
    ∃ (V : D) (jm : Sto) (t5' t6' t7' : Option D), PlnS (junk ++ jm) ∧ LV st (junk ++ jm) V ((rulJ M l M.length).map Ln.d) ∧
      sFor 16777215 (iWalk (iRev (iRol (iListRange (iVar 1))))) (.nm 5) (L_code_of_machine_1) (CE M st (some (.int l)) (some (.rol [])) t5 t6 t7) (RSt st rules junk) = .ok (.nx (CE M st (some (.int l)) (some V) t5' t6' t7')) (RSt st rules (junk ++ jm)) := by
  have hm := h.many
  obtain ⟨e', st', h1, V, jm, t5', t6', t7', hp, hV, he, hst⟩ := for_inv0 (wk := wkSeq (revD M.length)) (p := .nm 5) (S := L_code_of_machine_1) (items := revD M.length) (fun j env s => ∃ (V : D) (jm : Sto) (t5 t6 t7 : Option D), PlnS (junk ++ jm) ∧ LV st (junk ++ jm) V ((rulJ M l j).map Ln.d) ∧ env = CE M st (some (.int l)) (some V) t5 t6 t7 ∧ s = RSt st rules (junk ++ jm))
    (fun i env s _ => wkSeq_at _ _ _)
    (fun j d env s hd hh => by
      obtain ⟨V, jm, t5, t6, t7, hp, hV, rfl, rfl⟩ := hh
      obtain ⟨hj, rfl⟩ := revD_get hd
      obtain ⟨V', jm', t6', t7', hp', hV', hs⟩ := c_step (rules := rules) h hl hj hc hp (D.loAll_mono (by simp) hr) hV t6 t7
      exact ⟨_, put_nm _ _, _, _, .inl hs, V', jm ++ jm', _, t6', t7', by rw [← List.append_assoc]; exact hp', by rw [← List.append_assoc]; exact hV', rfl, by rw [List.append_assoc]⟩)
    (n := 16777215) (env := CE M st (some (.int l)) (some (.rol [])) t5 t6 t7) (st := RSt st rules junk) (by rw [revD_len]; omega) ⟨.rol [], [], t5, t6, t7, by simpa using hjk, .inl rfl, rfl, by simp⟩
  rw [revD_len] at hV
  rw [he, hst] at h1
  refine ⟨V, jm, t5', t6', t7', hp, hV, ?_⟩
  have hml : (M.length : Int) ≤ 16777216 := by omega
  exact (for_eq (wk := wkSeq (revD M.length)) (st1 := RSt st rules junk) (by simp [CE, hml]; rfl)).trans h1
theorem c_outer (h : Mk M takes sends) (hc : Closed st) : ∃ (rules : List D) (junk : Sto) (t3 t4 t5 t6 t7 : Option D), PlnS junk ∧ rules.length = takes ∧ D.loAll (st.length + 1 + junk.length) rules = true ∧ (∀ (l : Nat) (d : D), rules[l]? = some d → LV st junk d ((rulJ M l M.length).map Ln.d)) ∧
      forGo (wkRange 0 takes) (.nm 3) L_code_of_machine_2 16777215 0 (CE M st none none none none none) (RSt st [] []) = .ok (.nx (CE M st t3 t4 t5 t6 t7)) (RSt st rules junk) := by
  have htk := h.takes
  obtain ⟨e', st', h1, rules, junk, t3, t4, t5, t6, t7, hp, hlen, hlo, hall, he, hst⟩ := for_inv0 (wk := wkRange 0 takes) (p := .nm 3) (S := L_code_of_machine_2) (items := rangeD 0 takes) (fun i env s => ∃ (rules : List D) (junk : Sto) (t3 t4 t5 t6 t7 : Option D), PlnS junk ∧ rules.length = i ∧ D.loAll (st.length + 1 + junk.length) rules = true ∧ (∀ (l : Nat) (d : D), rules[l]? = some d → LV st junk d ((rulJ M l M.length).map Ln.d)) ∧ env = CE M st t3 t4 t5 t6 t7 ∧ s = RSt st rules junk)
    (fun i env s _ => wkRange_at _ _ _ _)
    (fun i d env s hd hh => by
      obtain ⟨rules, junk, t3, t4, t5, t6, t7, hp, hlen, hlo, hall, rfl, rfl⟩ := hh
      obtain ⟨hi, rfl⟩ := rangeD_get hd
      rw [Int.zero_add]
      obtain ⟨V, jm, t5', t6', t7', hp', hV, hin⟩ := c_inner h hi hc hp hlo t5 t6 t7
      have hVlo := hV.lo (fun k => lns_lo k _)
      have hlo' : D.loAll (st.length + 1 + (junk ++ jm).length) rules = true := D.loAll_mono (by simp) hlo
      have main : L_code_of_machine_2 (CE M st (some (.int (i : Nat))) t4 t5 t6 t7) (RSt st rules junk) = .ok (.nx (CE M st (some (.int (i : Nat))) (some V) t5' t6' t7')) (RSt st (rules ++ [V]) (junk ++ jm)) := by
        unfold L_code_of_machine_2
        rw [seq_nx (e1 := CE M st (some (.int (i : Nat))) (some (.rol [])) t5 t6 t7) (st1 := RSt st rules junk) (by simp [CE])]
        rw [seq_nx hin]
        have hil : isLst (RSt st rules (junk ++ jm)) (.ref st.length) = true := isLst_ref rst_0
        have hap : gAppend (.ref st.length) [V] (RSt st rules (junk ++ jm)) = .ok .non (RSt st (rules ++ [V]) (junk ++ jm)) := by
          rw [gAppend_at rst_0 (by omega)]
          unfold RSt
          rw [mid_set]
        simp [CE, hil, hap]
      refine ⟨_, put_nm _ _, _, _, .inl main, rules ++ [V], junk ++ jm, _, _, t5', t6', t7', hp', by simp [hlen], by rw [loAll_append, hlo', Bool.true_and, loAll_cons, hVlo]; rfl, ?_, rfl, rfl⟩
      intro l d hd0
      rcases get_app2 hd0 with hd | ⟨q, rfl, hd⟩
      · exact (hall l d hd).more jm
      · match q, hd with
        | 0, hd => cases hd; rw [hlen]; exact hV)
    (n := 16777215) (env := CE M st none none none none none) (st := RSt st [] []) (by simp; omega) ⟨[], [], none, none, none, none, none, fun _ _ h => (nomatch h), rfl, by simp, fun l d h => (nomatch h), rfl, rfl⟩
  rw [rangeD_len] at hlen
  rw [he, hst] at h1
  exact ⟨rules, junk, t3, t4, t5, t6, t7, hp, hlen, hlo, hall, h1⟩
end
/-! code_of_rules -/
section
variable {st junk : Sto} {es : List Nat} {ls : List Ln}
def RS2 (st : Sto) (es : List Nat) (ls : List Ln) (junk : Sto) : Sto := st ++ .lst (nD es) :: .lst (ls.map Ln.d) :: junk
theorem rs_0 : (RS2 st es ls junk)[st.length]? = some (.lst (nD es)) := by simp [RS2]
theorem rs_1 : (RS2 st es ls junk)[st.length + 1]? = some (.lst (ls.map Ln.d)) := by
  unfold RS2
  rw [List.getElem?_append_right (by omega), show st.length + 1 - st.length = 1 by omega]; rfl
theorem rs_old {k : Nat} {c : Cell} (h : st[k]? = some c) : (RS2 st es ls junk)[k]? = some c := by
  unfold RS2
  rw [List.getElem?_append_left (lt_of_get h)]; exact h
theorem rs_app0 (h : es.length < 10000) (n : Nat) : gAppend (.ref st.length) [.int n] (RS2 st es ls junk) = .ok .non (RS2 st (es ++ [n]) ls junk) := by
  rw [gAppend_at rs_0 (by simp; omega)]
  simp [RS2, setL, nD_app]
theorem rs_ext {e : D} {xs : List Ln} (he : listAt (RS2 st es ls junk) e = some (xs.map Ln.d)) (h : ls.length + xs.length < 100000) : gExtend (.ref (st.length + 1)) [e] (RS2 st es ls junk) = .ok .non (RS2 st es (ls ++ xs) junk) := by
  unfold gExtend
  simp only [rs_1, he]
  rw [if_pos (by simp; omega)]
  unfold RS2 setL
  rw [List.set_append_right _ _ (by omega), show st.length + 1 - st.length = 1 by omega]
  simp
theorem rs_closed (hc : Closed st) (hj : PlnS junk) : Closed (RS2 st es ls junk) := by
  intro x hx
  rcases List.mem_append.mp hx with h | h
  · exact Cell.lo_mono (by simp [RS2]) (hc x h)
  · rcases List.mem_cons.mp h with rfl | h
    · exact nD_lo _ _
    · rcases List.mem_cons.mp h with rfl | h
      · exact lns_lo _ _
      · exact hj _ x h
/-- a list value of an older store -/
def LO (st : Sto) (V : D) (xs : List D) : Prop := V = .rol xs ∨ ∃ n, V = .ref n ∧ st[n]? = some (.lst xs)
def R5 (a b : D) (sends : Nat) (st : Sto) (t5 : Option D) : Ev := [some a, some (.int sends), some b, some (.ref st.length), some (.ref (st.length + 1)), t5]
theorem r_step {a b V : D} {sends : Nat} {rl : List Ln} (hc : Closed st) (hj : PlnS junk) (he : es.length < 1000) (hl : ls.length < 5000) (hr : LO st V (rl.map Ln.d)) (hrl : rl.length ≤ 900) :
    L_code_of_rules_1 (R5 a b sends st (some V)) (RS2 st es ls junk) = .ok (.nx (R5 a b sends st (some V))) (RS2 st (es ++ [ls.length]) (ls ++ pl0 ls.length rl) (junk ++ [.lst ((pl0 ls.length rl).map Ln.d)])) := by
  unfold L_code_of_rules_1
  have h1 : gLen [.ref (st.length + 1)] (RS2 st es ls junk) = .ok (.int ls.length) (RS2 st es ls junk) := by rw [gLen_ref rs_1]; simp
  have h1' : gLen [.ref (st.length + 1)] (RS2 st (es ++ [ls.length]) ls junk) = .ok (.int ls.length) (RS2 st (es ++ [ls.length]) ls junk) := by rw [gLen_ref rs_1]; simp
  rw [seq_nx (e1 := R5 a b sends st (some V)) (st1 := RS2 st (es ++ [ls.length]) ls junk) (by
    have := isLst_ref (rs_0 (st := st) (es := es) (ls := ls) (junk := junk))
    simp [R5, h1, this, rs_app0 (st := st) (es := es) (ls := ls) (junk := junk) (by omega) ls.length])]
  have hp := e_placed (rs_closed (es := es ++ [ls.length]) (ls := ls) hc hj) (rl ++ [Ln.stop]) ls.length (by simp; omega)
  have hpl : (rl ++ [Ln.stop]).mapIdx (fun p l => absL ls.length p l) = pl0 ls.length rl := rfl
  rw [hpl] at hp
  have hst : RS2 st (es ++ [ls.length]) ls junk ++ [.lst ((pl0 ls.length rl).map Ln.d)] = RS2 st (es ++ [ls.length]) ls (junk ++ [.lst ((pl0 ls.length rl).map Ln.d)]) := by simp [RS2]
  have hg : (RS2 st (es ++ [ls.length]) ls junk ++ [.lst ((pl0 ls.length rl).map Ln.d)])[(RS2 st (es ++ [ls.length]) ls junk).length]? = some (.lst ((pl0 ls.length rl).map Ln.d)) := get_end _
  have hlen2 : (pl0 ls.length rl).length ≤ 901 := by rw [pl0_len]; omega
  generalize pl0 ls.length rl = zs at hp hst hg hlen2
  rw [hst] at hp hg
  have hx := rs_ext (st := st) (es := es ++ [ls.length]) (ls := ls) (junk := junk ++ [.lst (zs.map Ln.d)]) (listAt_ref hg) (by omega)
  have hil : isLst (RS2 st (es ++ [ls.length]) ls junk) (.ref (st.length + 1)) = true := isLst_ref rs_1
  have hla : seqAt (RS2 st (es ++ [ls.length]) ls junk) V = some (rl.map Ln.d) := by
    rcases hr with rfl | ⟨n, rfl, hr⟩
    · rfl
    · exact seqAt_ref (rs_old hr)
  have hml : (rl ++ [Ln.stop]).map Ln.d = rl.map Ln.d ++ [.tup [.str (Str.ofString "stop")]] := by simp [Ln.d]
  rw [hml] at hp
  have hr2 : rl.length + 1 ≤ 16777216 := by omega
  simp [R5, hil, hla, hr2, h1', hp, hx]
end
def cdN (tops : List Nat) (sends takes : Nat) (rl : Nat → List Ln) : Cd := ⟨tops, sends, esN rl takes, lsN rl takes⟩
theorem e_code_of_rules {st : Sto} {tops : List Nat} {sends takes n : Nat} {rs : List D} {rl : Nat → List Ln} (hc : Closed st) (htk : rs.length = takes) (h3 : takes ≤ 3) (hn : st[n]? = some (.lst rs)) (hrs : ∀ (l : Nat) (d : D), rs[l]? = some d → LO st d ((rl l).map Ln.d)) (hlen : ∀ l, l < takes → (rl l).length ≤ 900) :
    G_code_of_rules [.tup (nD tops), .int sends, .ref n] st = .ok (cdN tops sends takes rl).d st := by
  have hlsl : ∀ i, i ≤ takes → (lsN rl i).length ≤ i * 901 := by
    intro i
    induction i with
    | zero => intro _; simp [lsN]
    | succ i ih =>
      intro hi
      have h1 := ih (by omega)
      have h2 := hlen i (by omega)
      simp only [lsN, List.length_append, pl0_len]
      omega
  obtain ⟨e', st', h1, junk, t5, hj, he, hst⟩ := for_inv0 (wk := wkLive n) (p := .nm 5) (S := L_code_of_rules_1) (items := rs) (fun i env s => ∃ (junk : Sto) (t5 : Option D), PlnS junk ∧ env = R5 (.tup (nD tops)) (.ref n) sends st t5 ∧ s = RS2 st (esN rl i) (lsN rl i) junk)
    (fun i env s hh => by
      obtain ⟨junk, t5, _, _, rfl⟩ := hh
      exact wkLive_at (rs_old hn) i)
    (fun i d env s hd hh => by
      obtain ⟨junk, t5, hj, rfl, rfl⟩ := hh
      have hi := lt_of_get hd
      have h2 := hlsl i (by omega)
      have h5 : i * 901 ≤ 3 * 901 := Nat.mul_le_mul_right _ (by omega)
      have hs := r_step (a := .tup (nD tops)) (b := .ref n) (sends := sends) (es := esN rl i) (ls := lsN rl i) hc hj (by rw [esN_len]; omega) (by omega) (hrs i d hd) (hlen i (by omega))
      exact ⟨_, put_nm _ _, _, _, .inl hs, junk ++ [.lst ((pl0 (lsN rl i).length (rl i)).map Ln.d)], some d, plnS_app hj (fun n => lns_lo n _), rfl, by rw [esN_succ]; rfl⟩)
    (n := 16777215) (env := R5 (.tup (nD tops)) (.ref n) sends st none) (st := RS2 st [] [] []) (by omega) ⟨[], none, fun _ _ h => (nomatch h), rfl, rfl⟩
  rw [htk] at hst
  rw [he, hst] at h1
  refine run_more (j := .lst (nD (esN rl takes)) :: .lst ((lsN rl takes).map Ln.d) :: junk) hc (by simp [Cd.d, cdN, lns_lo]) ?_
  show B_code_of_rules [some (.tup (nD tops)), some (.int sends), some (.ref n), none, none, none] st = _
  unfold B_code_of_rules
  rw [seq_nx (e1 := R5 (.tup (nD tops)) (.ref n) sends st none) (st1 := RS2 st [] [] []) (by simp [R5, RS2])]
  rw [seq_nx ((for_eq (wk := wkLive n) (st1 := RS2 st [] [] []) (by simp [R5, seqWk_ref (rs_old hn)])).trans h1)]
  have g0 := gTuple_ref (rs_0 (st := st) (es := esN rl takes) (ls := lsN rl takes) (junk := junk))
  have g1 := gTuple_ref (rs_1 (st := st) (es := esN rl takes) (ls := lsN rl takes) (junk := junk))
  simp [R5, g0, g1, Cd.d, cdN]
  simp only [RS2]
/-- the code of a machine -/
def cM (M : List (List (Nat × List Nat))) (takes sends : Nat) : Cd := cdN (if 1 < M.length then [M.length - 1] else []) sends takes fun l => rulJ M l M.length
theorem e_code_of_machine {M : List (List (Nat × List Nat))} {takes sends : Nat} (h : Mk M takes sends) {st : Sto} (hc : Closed st) : G_code_of_machine [mD M] st = .ok (cM M takes sends).d st := by
  have hm := h.many
  have htk := h.takes
  obtain ⟨rules, junk, t3, t4, t5, t6, t7, hp, hlen, hlo, hall, h1⟩ := c_outer h hc
  have hcl := rst_closed hc hp hlo
  have hrl : ∀ l, l < takes → (rulJ M l M.length).length ≤ 900 := fun l hl => by
    have h1 := rulJ_len h hl M.length (Nat.le_refl _)
    have h2 : M.length * 54 ≤ 16 * 54 := Nat.mul_le_mul_right _ (by omega)
    omega
  have h2 := e_code_of_rules (tops := if 1 < M.length then [M.length - 1] else []) (sends := sends) (rl := fun l => rulJ M l M.length) hcl hlen (by omega) rst_0 (fun l d hd => by
    rcases hall l d hd with rfl | ⟨n, rfl, h⟩
    · exact .inl rfl
    · exact .inr ⟨_, rfl, rst_at h⟩) hrl
  refine run_more (j := .lst rules :: junk) hc (by simp [Cd.d, lns_lo]) ?_
  show B_code_of_machine [some (mD M), none, none, none, none, none, none, none] st = _
  unfold B_code_of_machine
  have hlM : ∀ st : Sto, gLen [mD M] st = .ok (.int M.length) st := fun st => by simp [mD]
  rw [seq_nx (e1 := CE M st none none none none none) (st1 := RSt st [] []) (by simp [CE, hlM, RSt])]
  have i0 : ∀ st : Sto, gIx (mD M) (.int 0) st = .ok (mrow (M.getD 0 [])) st := fun st => by
    have := m_ix1 (M := M) (s := 0) (by omega) st
    exact this
  have i00 : ∀ st : Sto, gIx (mrow (M.getD 0 [])) (.int 0) st = .ok (mstep (stM M 0 0)) st := fun st => by
    have := m_ix2 (M := M) (s := 0) (l := 0) (by rw [h.rowlen (by omega)]; omega) st
    exact this
  have l0 : ∀ st : Sto, gLen [mrow (M.getD 0 [])] st = .ok (.int takes) st := fun st => by simp [mrow, h.rowlen (show 0 < M.length by omega), -List.getD_eq_getElem?_getD]
  have hsl := (h.st (s := 0) (l := 0) (by omega) (by omega)).2.1
  rw [seq_nx ((for_eq (walkC_eq (f := fRange1) (ds := [.int (takes : Nat)]) (st1 := RSt st [] []) (by simp [CE, i0, l0, -List.getD_eq_getElem?_getD]) (fRange1_nat (by omega)))).trans h1)]
  by_cases hz : 1 < M.length
  · have z1 : (1 : Int) < M.length := by omega
    have z2 : (M.length : Int) - 1 = ((M.length - 1 : Nat) : Int) := by omega
    rw [if_pos hz] at h2
    simp only [nD_cons, nD_nil] at h2
    simp [CE, z1, z2, hz, i0, i00, mstep, hsl, h2, cM, -List.getD_eq_getElem?_getD, -Int.natCast_sub]
    rfl
  · have z1 : ¬ (1 : Int) < M.length := by omega
    rw [if_neg hz] at h2
    simp only [nD_nil] at h2
    simp [CE, z1, hz, i0, i00, mstep, hsl, h2, cM, -List.getD_eq_getElem?_getD]
    rfl
end F33
end QI

/-! the code of a machine does what the machine does -/
namespace QI
open PySem PySem.Spec PyProof.Rows L2
open LC
namespace F33
def AbsC (nt ns : Nat) (ls : List Ln) : Prop := ∀ (p : Nat) (l : Ln), ls[p]? = some l → l.ck nt ns ls.length p
theorem ck_up {nt ns n m p : Nat} {l : Ln} (h : l.ck nt ns n p) (hm : n ≤ m) : l.ck nt ns m p := by
  cases l with
  | raise r k => exact ⟨h.1, h.2.1, by have := h.2.2; omega⟩
  | clear r => exact ⟨h.1, by have := h.2; omega⟩
  | send r k => exact ⟨h.1, h.2.1, by have := h.2.2; omega⟩
  | under r k t => exact ⟨h.1, h.2.1, h.2.2.1, by have := h.2.2.2; omega⟩
  | go t => exact ⟨h.1, by have := h.2; omega⟩
  | stop => trivial
theorem absC_app {nt ns : Nat} {ls rl : List Ln} (h : AbsC nt ns ls) (hr : RelL nt ns rl) : AbsC nt ns (ls ++ pl0 ls.length rl) := by
  intro p l h0
  have hn : (ls ++ pl0 ls.length rl).length = ls.length + rl.length + 1 := by rw [List.length_append, pl0_len]; omega
  rw [hn]
  rcases get_app2 h0 with hx | ⟨q, rfl, hx⟩
  · exact ck_up (h p l hx) (by omega)
  · unfold pl0 at hx
    rw [List.getElem?_mapIdx] at hx
    cases hq : (rl ++ [Ln.stop])[q]? with
    | none => rw [hq] at hx; cases hx
    | some x =>
      rw [hq] at hx
      cases hx
      rcases get_app2 hq with hy | ⟨z, rfl, hy⟩
      · have hrel := hr q x hy
        have hql := lt_of_get hy
        cases x with
        | raise r k => exact ⟨hrel.1, hrel.2, by omega⟩
        | clear r => exact ⟨hrel, by omega⟩
        | send r k => exact ⟨hrel.1, hrel.2, by omega⟩
        | under r k t => exact ⟨hrel.1, hrel.2.1, by have := hrel.2.2.1; omega, by have := hrel.2.2.2; omega⟩
        | go t => exact ⟨by have := hrel.1; omega, by have := hrel.2; omega⟩
        | stop => trivial
      · match z, hy with
        | 0, hy => cases hy; trivial
theorem ck_ok {c : Cd} {p : Nat} {l : Ln} (h : l.ck c.tops.length c.sends c.lines.length p) : l.ok c p := by
  cases l with
  | raise r k => exact ⟨h.1, by have := h.2.1; omega⟩
  | clear r => exact h.1
  | send r k => exact ⟨h.1, by have := h.2.1; omega⟩
  | under r k t => exact ⟨h.1, h.2.2.1, h.2.2.2⟩
  | go t => exact h
  | stop => trivial
theorem lsN_absC {nt ns : Nat} {rl : Nat → List Ln} {takes : Nat} (h : ∀ l, l < takes → RelL nt ns (rl l)) : ∀ n, n ≤ takes → AbsC nt ns (lsN rl n)
  | 0, _ => fun p l h => nomatch h
  | n + 1, hn => absC_app (lsN_absC h n (by omega)) (h n (by omega))
theorem lsN_pre (rl : Nat → List Ln) {n m : Nat} (h : n ≤ m) : lsN rl n <+: lsN rl m := by
  induction h with
  | refl => exact List.prefix_refl _
  | step _ ih => exact ih.trans (List.prefix_append _ _)
theorem pre_get {α : Type} {a b : List α} (h : a <+: b) {i : Nat} {x : α} (hx : a[i]? = some x) : b[i]? = some x := by
  obtain ⟨z, rfl⟩ := h
  rw [List.getElem?_append_left (lt_of_get hx)]; exact hx
section
variable {M : List (List (Nat × List Nat))} {takes sends : Nat}
def tpM (M : List (List (Nat × List Nat))) : List Nat := if 1 < M.length then [M.length - 1] else []
theorem tpM_pos (h : 1 < M.length) : 0 < (tpM M).length := by simp [tpM, h]
theorem cM_len (h : Mk M takes sends) : (cM M takes sends).lines.length ≤ 2703 := by
  have hm := h.many
  have htk := h.takes
  have key : ∀ i, i ≤ takes → (lsN (fun l => rulJ M l M.length) i).length ≤ i * 901 := by
    intro i
    induction i with
    | zero => intro _; simp [lsN]
    | succ i ih =>
      intro hi
      have h1 := ih (by omega)
      have h2 := rulJ_len h (show i < takes by omega) M.length (Nat.le_refl _)
      have h3 : M.length * 54 ≤ 16 * 54 := Nat.mul_le_mul_right _ (by omega)
      simp only [lsN, List.length_append, pl0_len]
      omega
  have h1 := key takes (Nat.le_refl _)
  have h2 : takes * 901 ≤ 3 * 901 := Nat.mul_le_mul_right _ (by omega)
  show (lsN (fun l => rulJ M l M.length) takes).length ≤ 2703
  omega
theorem cM_ck (h : Mk M takes sends) : (cM M takes sends).Ck := by
  have hm := h.many
  have htk := h.takes
  have hsd := h.sends
  have hl := cM_len h
  have hlast : 1 ≤ (cM M takes sends).lines.length := by
    obtain ⟨k, rfl⟩ : ∃ k, takes = k + 1 := ⟨takes - 1, by omega⟩
    show 1 ≤ (lsN (fun l => rulJ M l M.length) (k + 1)).length
    simp only [lsN, List.length_append, pl0_len]
    omega
  refine ⟨⟨?_, ?_⟩, by show sends ≤ 4; omega, ⟨hlast, by omega⟩, ⟨by show 1 ≤ (esN _ takes).length; rw [esN_len]; omega, by show (esN _ takes).length ≤ 3; rw [esN_len]; omega, ?_⟩, ?_⟩
  · show (tpM M).length ≤ 4
    unfold tpM; split <;> simp
  · intro t ht
    have ht : t ∈ tpM M := ht
    unfold tpM at ht
    split at ht
    · simp at ht; omega
    · simp at ht
  · intro e he
    have he : e ∈ esN (fun l => rulJ M l M.length) takes := he
    unfold esN at he
    obtain ⟨k, hk, rfl⟩ := List.mem_map.mp he
    have hk := List.mem_range.mp hk
    have := (lsN_pre (fun l => rulJ M l M.length) (show k + 1 ≤ takes by omega)).length_le
    show (lsN (fun l => rulJ M l M.length) k).length < (lsN (fun l => rulJ M l M.length) takes).length
    simp only [lsN, List.length_append, pl0_len] at this
    omega
  · exact lsN_absC (nt := (tpM M).length) (ns := sends) (takes := takes) (fun l hl => rulJ_rel h hl (fun hz => tpM_pos hz) M.length (Nat.le_refl _)) takes (Nat.le_refl _)
theorem cM_ok (h : Mk M takes sends) : (cM M takes sends).Ok := by
  have hk := cM_ck h
  have htk := h.takes
  refine ⟨fun i l hi => ck_ok (hk.lines i l hi), ?_, hk.len, hk.ent.2.2, ⟨by have := hk.tops.1; omega, fun t ht => by have := hk.tops.2 t ht; omega⟩, by have := hk.sends; omega⟩
  obtain ⟨k, rfl⟩ : ∃ k, takes = k + 1 := ⟨takes - 1, by omega⟩
  show (lsN (fun l => rulJ M l M.length) (k + 1))[(lsN (fun l => rulJ M l M.length) (k + 1)).length - 1]? = _
  simp only [lsN, List.length_append, pl0_len]
  rw [List.getElem?_append_right (by omega)]
  unfold pl0
  rw [List.getElem?_mapIdx, List.getElem?_append_right (by omega)]
  have : (lsN (fun l => rulJ M l M.length) k).length + ((rulJ M k M.length).length + 1) - 1 - (lsN (fun l => rulJ M l M.length) k).length - (rulJ M k M.length).length = 0 := by omega
  rw [this]
  rfl
end
/-! what segments do -/
section
variable {c : Cd} {o n m : Nat} {row row' row2 sent sent' sent2 : List Nat}
def At (c : Cd) (o : Nat) (xs : List Ln) : Prop := ∀ (p : Nat) (l : Ln), xs[p]? = some l → c.lines[o + p]? = some (absL o p l)
theorem absL_add (o k p : Nat) (l : Ln) : absL o (k + p) l = absL (o + k) p l := by
  cases l <;> simp only [absL] <;> congr 1 <;> omega
theorem At.left {a b : List Ln} (h : At c o (a ++ b)) : At c o a := fun p l hp => h p l (by rw [List.getElem?_append_left (lt_of_get hp)]; exact hp)
theorem At.right {a b : List Ln} (h : At c o (a ++ b)) : At c (o + a.length) b := fun p l hp => by
  have := h (a.length + p) l (by rw [List.getElem?_append_right (by omega), show a.length + p - a.length = p by omega]; exact hp)
  rw [absL_add] at this
  rw [show o + a.length + p = o + (a.length + p) by omega]; exact this
theorem At.head {l : Ln} {b : List Ln} (h : At c o (l :: b)) : c.lines[o]? = some (absL o 0 l) := h 0 l rfl
theorem At.tail {l : Ln} {b : List Ln} (h : At c o (l :: b)) : At c (o + 1) b := At.right (a := [l]) h
def Tr (c : Cd) (o n : Nat) (row sent row' sent' : List Nat) : Prop := ∃ e, ∀ (v : Nat) (R S : List Nat) (V : Nat), Go c row' sent' (o + n) (v + e) R S V → Go c row sent o v R S V
theorem Tr.refl : Tr c o 0 row sent row sent := ⟨0, fun _ _ _ _ h => h⟩
theorem Tr.comp (h1 : Tr c o n row sent row' sent') (h2 : Tr c (o + n) m row' sent' row2 sent2) : Tr c o (n + m) row sent row2 sent2 := by
  obtain ⟨e1, h1⟩ := h1
  obtain ⟨e2, h2⟩ := h2
  refine ⟨e1 + e2, fun v R S V h => h1 v R S V (h2 (v + e1) R S V ?_)⟩
  rw [Nat.add_assoc o n m, Nat.add_assoc v e1 e2]; exact h
theorem tr_send {pre rest : List Nat} {x k : Nat} (h : c.lines[o]? = some (.send pre.length k)) : Tr c o 1 row (pre ++ x :: rest) row (pre ++ (x + k) :: rest) := by
  refine ⟨1, fun v R S V g => .send h ?_⟩
  have h1 : (pre ++ x :: rest).getD pre.length 0 = x := by simp [List.getD]
  rw [h1]
  simpa using g
theorem tr_rep {pre rest : List Nat} {a : Nat} : ∀ (q o x : Nat), At c o (List.replicate q (.send pre.length a)) → Tr c o q row (pre ++ x :: rest) row (pre ++ (x + q * a) :: rest)
  | 0, o, x, _ => by simpa using Tr.refl
  | q + 1, o, x, h => by
    rw [List.replicate_succ] at h
    have h1 := tr_send (row := row) (x := x) (rest := rest) h.head
    have h2 := tr_rep (pre := pre) (rest := rest) q (o + 1) (x + a) h.tail
    have := h1.comp h2
    rw [Nat.add_comm 1 q] at this
    rw [show x + (q + 1) * a = x + a + q * a by rw [Nat.add_mul]; omega]
    exact this
theorem tr_sl {pre rest : List Nat} {k : Nat} (h : At c o (sl pre.length k)) : Tr c o (sl pre.length k).length row (pre ++ 0 :: rest) row (pre ++ k :: rest) := by
  have h1 := tr_rep (row := row) (pre := pre) (rest := rest) (k / 999) o 0 h.left
  have h2 := h.right
  rw [List.length_replicate] at h2
  have hl : (sl pre.length k).length = k / 999 + (if k % 999 = 0 then [] else [Ln.send pre.length (k % 999)]).length := by simp [sl]
  rw [hl]
  by_cases hz : k % 999 = 0
  · rw [if_pos hz]
    have e : 0 + k / 999 * 999 = k := by omega
    rw [e] at h1
    exact h1
  · rw [if_neg hz] at h2 ⊢
    have h3 := tr_send (row := row) (x := 0 + k / 999 * 999) (rest := rest) h2.head
    have e : 0 + k / 999 * 999 + k % 999 = k := by omega
    rw [e] at h3
    exact h1.comp h3
theorem tr_sls : ∀ (ts pre : List Nat) (o : Nat), At c o (sls pre.length ts) → Tr c o (sls pre.length ts).length row (pre ++ List.replicate ts.length 0) row (pre ++ ts)
  | [], pre, o, _ => by simpa [sls] using Tr.refl
  | t :: ts, pre, o, h => by
    have h1 := tr_sl (row := row) (rest := List.replicate ts.length 0) (At.left (b := sls (pre.length + 1) ts) h)
    have e : pre.length + 1 = (pre ++ [t]).length := by simp
    have h2' : At c (o + (sl pre.length t).length) (sls (pre ++ [t]).length ts) := by rw [← e]; exact At.right (a := sl pre.length t) h
    have h2 := tr_sls ts (pre ++ [t]) _ h2'
    rw [← e] at h2
    simp only [sls, List.length_append, List.length_cons, List.replicate_succ]
    have h2 : Tr c (o + (sl pre.length t).length) (sls (pre.length + 1) ts).length row (pre ++ t :: List.replicate ts.length 0) row (pre ++ t :: ts) := by simpa using h2
    exact h1.comp h2
def rowOf (many s : Nat) : List Nat := if 1 < many then [s] else []
theorem tr_blk {many s f : Nat} {ts : List Nat} (ht : c.tops = if 1 < many then [many - 1] else []) (hs : s < many) (hf : f < many) (h : At c o (blk many s f ts)) : Tr c o (blk many s f ts).length (rowOf many s) (List.replicate ts.length 0) (rowOf many f) ts := by
  have h1 := h.left
  have h2 := h.right
  have hl : (blk many s f ts).length = (if f = s then [] else [Ln.raise 0 ((f + many - s) % many)]).length + (sls 0 ts).length := by simp [blk]
  rw [hl]
  have h3 := tr_sls (row := rowOf many f) ts [] _ h2
  simp only [List.nil_append, List.length_nil] at h3
  refine Tr.comp ?_ h3
  by_cases e : f = s
  · rw [if_pos e]
    subst e
    exact Tr.refl
  · rw [if_neg e] at h1 ⊢
    have hm : 1 < many := by omega
    refine ⟨1, fun v R S V g => .raise h1.head ?_⟩
    have e1 : (rowOf many s).set 0 (((rowOf many s).getD 0 0 + (f + many - s) % many) % (c.tops.getD 0 0 + 1)) = rowOf many f := by
      rw [ht]
      simp only [rowOf, hm, if_true, List.getD_cons_zero, List.set_cons_zero]
      rw [show many - 1 + 1 = many by omega, Nat.add_mod_mod]
      have : (s + (f + many - s)) % many = f := by
        rw [show s + (f + many - s) = f + many by omega, Nat.add_mod_right, Nat.mod_eq_of_lt hf]
      rw [this]
    rw [e1]
    exact g
end
section
variable {M : List (List (Nat × List Nat))} {takes sends : Nat} {c : Cd}
theorem tr_rul (h : Mk M takes sends) (ht : c.tops = if 1 < M.length then [M.length - 1] else []) {l : Nat} (hl : l < takes) : ∀ (j x o : Nat), j ≤ M.length → M.length - j ≤ x → x < M.length → At c o (rulJ M l j) →
    Tr c o (rulJ M l j).length (rowOf M.length x) (List.replicate sends 0) (rowOf M.length (stM M x l).1) (stM M x l).2
  | 0, x, o, hj, h1, h2, _ => by omega
  | j + 1, x, o, hj, h1, h2, hat => by
    have hm := h.many
    obtain ⟨k1, k2, k3⟩ := h.st h2 hl
    have hb : ∀ o, At c o (bkM M l x) → Tr c o (bkM M l x).length (rowOf M.length x) (List.replicate sends 0) (rowOf M.length (stM M x l).1) (stM M x l).2 := fun o ha => by
      have := tr_blk (ts := (stM M x l).2) ht h2 k1 ha
      rw [k2] at this
      exact this
    simp only [rulJ] at hat ⊢
    by_cases hj0 : j = 0
    · rw [if_pos hj0] at hat ⊢
      have : x = M.length - 1 := by omega
      subst this
      exact hb o hat
    · rw [if_neg hj0] at hat ⊢
      have hm2 : 1 < M.length := by omega
      have hrow : (rowOf M.length x).getD 0 0 = x := by simp [rowOf, hm2]
      by_cases hz : (rulJ M l j).length = 0
      · rw [if_pos hz] at hat ⊢
        by_cases hx : x = M.length - 1 - j
        · subst hx
          obtain ⟨e, he⟩ := hb (o + 1) hat.tail
          refine ⟨1 + e, fun v R S V g => .under hat.head (by rw [hrow]; omega) (he (v + 1) R S V ?_)⟩
          rw [List.length_cons] at g
          rw [show o + 1 + (bkM M l (M.length - 1 - j)).length = o + ((bkM M l (M.length - 1 - j)).length + 1) by omega, show v + 1 + e = v + (1 + e) by omega]
          exact g
        · obtain ⟨e, he⟩ := tr_rul h ht hl j x (o + ((bkM M l (M.length - 1 - j)).length + 1)) (by omega) (by omega) h2 (fun p q hp => by
            have := lt_of_get hp; omega)
          refine ⟨1 + e, fun v R S V g => .over hat.head (by rw [hrow]; omega) ?_⟩
          rw [Nat.add_zero]
          refine he (v + 1) R S V ?_
          rw [List.length_cons] at g
          rw [hz, Nat.add_zero, show v + 1 + e = v + (1 + e) by omega]
          exact g
      · rw [if_neg hz] at hat ⊢
        by_cases hx : x = M.length - 1 - j
        · subst hx
          have ht1 := hat.tail
          obtain ⟨e, he⟩ := hb (o + 1) ht1.left
          have hgo := ht1.right.head
          refine ⟨1 + e + 1, fun v R S V g => .under hat.head (by rw [hrow]; omega) (he (v + 1) R S V (.go hgo ?_))⟩
          simp only [List.length_cons, List.length_append] at g
          rw [show o + 1 + (bkM M l (M.length - 1 - j)).length + 0 + ((rulJ M l j).length + 1) = o + ((bkM M l (M.length - 1 - j)).length + ((rulJ M l j).length + 1) + 1) by omega, show v + 1 + e + 1 = v + (1 + e + 1) by omega]
          exact g
        · have ht2 : At c (o + ((bkM M l (M.length - 1 - j)).length + 2)) (rulJ M l j) := by
            have := hat.tail.right.tail
            rw [show o + 1 + (bkM M l (M.length - 1 - j)).length + 1 = o + ((bkM M l (M.length - 1 - j)).length + 2) by omega] at this
            exact this
          obtain ⟨e, he⟩ := tr_rul h ht hl j x (o + ((bkM M l (M.length - 1 - j)).length + 2)) (by omega) (by omega) h2 ht2
          refine ⟨1 + e, fun v R S V g => .over hat.head (by rw [hrow]; omega) ?_⟩
          rw [Nat.add_zero]
          refine he (v + 1) R S V ?_
          simp only [List.length_cons, List.length_append] at g
          rw [show o + ((bkM M l (M.length - 1 - j)).length + 2) + (rulJ M l j).length = o + ((bkM M l (M.length - 1 - j)).length + ((rulJ M l j).length + 1) + 1) by omega, show v + 1 + e = v + (1 + e) by omega]
          exact g
/-- the law's run of the machine's code -/
theorem run_cM (h : Mk M takes sends) {l x : Nat} (hl : l < takes) (hx : x < M.length) : ∃ w : Nat, ∀ st : Sto, Closed st → G_law_code_run [(cM M takes sends).d, .tup (nD (rowOf M.length x)), .int l] st = .ok (.tup [.tup (nD (rowOf M.length (stM M x l).1)), .tup (nD (stM M x l).2), .int (w : Nat)]) st := by
  have hok := cM_ok h
  have hl0 : (lsN (fun l => rulJ M l M.length) (l + 1)) = lsN (fun l => rulJ M l M.length) l ++ pl0 (lsN (fun l => rulJ M l M.length) l).length (rulJ M l M.length) := rfl
  have hat0 : ∀ (p : Nat) (q : Ln), (rulJ M l M.length ++ [Ln.stop])[p]? = some q → (cM M takes sends).lines[(lsN (fun l => rulJ M l M.length) l).length + p]? = some (absL (lsN (fun l => rulJ M l M.length) l).length p q) := fun p q hp => by
    refine pre_get (lsN_pre (fun l => rulJ M l M.length) (show l + 1 ≤ takes by omega)) ?_
    rw [hl0, List.getElem?_append_right (by omega), Nat.add_sub_cancel_left]
    unfold pl0
    rw [List.getElem?_mapIdx, hp]; rfl
  have hat : At (cM M takes sends) (lsN (fun l => rulJ M l M.length) l).length (rulJ M l M.length ++ [Ln.stop]) := hat0
  obtain ⟨e, he⟩ := tr_rul (c := cM M takes sends) h rfl hl M.length x _ (Nat.le_refl _) (by omega) hx hat.left
  have hstop := hat.right.head
  have g := he 1 _ _ _ (.stop hstop)
  have hent : (cM M takes sends).ent[l]? = some (lsN (fun l => rulJ M l M.length) l).length := by
    show (esN (fun l => rulJ M l M.length) takes)[l]? = _
    unfold esN
    rw [List.getElem?_map, List.getElem?_range hl]; rfl
  refine ⟨_, fun st hc => e_law_code_run hok hc ?_ hent g⟩
  show (rowOf M.length x).length = (tpM M).length
  unfold rowOf tpM
  split <;> rfl
end
end F33
end QI

/-! the law's walk of pairs -/
namespace QI
open PySem PySem.Spec PyProof.Rows L2
open LC
theorem shaped_tuple {ps : List PyData} (h : ∀ p ∈ ps, p.canLay0 = true ∧ p.depth ≤ 63) : SeqAt.shaped (.tuple ps) = true := by
  have h1 : PyData.canLayAll0 ps = true ∧ PyData.depthAll ps ≤ 63 := by
    induction ps with
    | nil => simp [PyData.canLayAll0, PyData.depthAll]
    | cons p ps ih =>
      have h2 := h p List.mem_cons_self
      have h3 := ih fun q hq => h q (List.mem_cons_of_mem _ hq)
      simp only [PyData.canLayAll0, PyData.depthAll, h2.1, h3.1, Bool.and_self, true_and]
      omega
  show (PyData.canLay0 (.tuple ps) && decide (PyData.depth (.tuple ps) ≤ 64)) = true
  rw [Bool.and_eq_true]
  exact ⟨by simp only [PyData.canLay0]; exact h1.1, decide_eq_true (by simp only [PyData.depth]; omega)⟩
/-- plain data: what pdP gives, well shaped and equal to itself -/
def okPD : Nat → D → Prop
  | 0, _ => False
  | n + 1, .tup xs => ∀ d ∈ xs, okPD n d
  | _ + 1, .int _ => True
  | _ + 1, .str x => PyData.strOk x = true
  | _ + 1, .non => True
  | _ + 1, _ => False
theorem pd_of : ∀ (n : Nat) (d : D), okPD n d → ∃ p, pdP d = some p ∧ p.canLay0 = true ∧ p.depth ≤ n ∧ PyData.eqv p p = true
  | 0, d, h => h.elim
  | n + 1, d, h => by
    cases d with
    | tup xs =>
      have key : ∀ ys : List D, (∀ d ∈ ys, okPD n d) → ∃ ps, pdPs ys = some ps ∧ PyData.canLayAll0 ps = true ∧ PyData.depthAll ps ≤ n ∧ PyData.eqvAll ps ps = true := by
        intro ys
        induction ys with
        | nil => exact fun _ => ⟨[], by simp [pdPs], by simp [PyData.canLayAll0], by simp [PyData.depthAll], by simp [PyData.eqvAll]⟩
        | cons y ys ih =>
          intro hy
          obtain ⟨p, a1, a2, a3, a4⟩ := pd_of n y (hy y List.mem_cons_self)
          obtain ⟨ps, b1, b2, b3, b4⟩ := ih fun d hd => hy d (List.mem_cons_of_mem _ hd)
          exact ⟨p :: ps, by simp [pdPs, a1, b1], by simp [PyData.canLayAll0, a2, b2], by simp only [PyData.depthAll]; omega, by simp [PyData.eqvAll, a4, b4]⟩
      obtain ⟨ps, b1, b2, b3, b4⟩ := key xs h
      exact ⟨.tuple ps, by simp [pdP, b1], by simp [PyData.canLay0, b2], by simp only [PyData.depth]; omega, by simp [PyData.eqv, b4]⟩
    | int i => exact ⟨.int i, by simp [pdP], by simp [PyData.canLay0], by simp [PyData.depth], by simp [PyData.eqv]⟩
    | str x =>
      have h : PyData.strOk x = true := h
      exact ⟨.str x, by simp [pdP], by simp [PyData.canLay0, h], by simp [PyData.depth], by simp [PyData.eqv]⟩
    | non => exact ⟨.none, by simp [pdP], by simp [PyData.canLay0], by simp [PyData.depth], by simp [PyData.eqv]⟩
    | bl b => exact h.elim
    | rol xs => exact h.elim
    | scr xs => exact h.elim
    | ref n => exact h.elim
/-- a != a -/
theorem gNeE_self {n : Nat} {xs : List D} (h : okPD n (.tup xs)) (hn : n ≤ 64) (st : Sto) : gNeE (.tup xs) (.tup xs) st = .ok (.bl false) st := by
  obtain ⟨p, h1, h2, h3, h4⟩ := pd_of n _ h
  have h5 : SeqAt.shaped p = true := by
    show (PyData.canLay0 p && decide (PyData.depth p ≤ 64)) = true
    rw [h2, decide_eq_true (show PyData.depth p ≤ 64 by omega)]; rfl
  unfold gNeE gEq
  simp only [pdS, h1, h5, h4, and_self, if_true]
  rfl
theorem okPD_nD (n : Nat) (ns : List Nat) : okPD (n + 2) (.tup (nD ns)) := fun d hd => by
  obtain ⟨x, _, rfl⟩ := List.mem_map.mp hd
  trivial
namespace F33
theorem strOk_words : PyData.strOk (Str.ofString "go") = true ∧ PyData.strOk (Str.ofString "under") = true ∧ PyData.strOk (Str.ofString "raise") = true ∧ PyData.strOk (Str.ofString "clear") = true ∧ PyData.strOk (Str.ofString "send") = true ∧ PyData.strOk (Str.ofString "stop") = true := by
  refine ⟨?_, ?_, ?_, ?_, ?_, ?_⟩ <;> decide +kernel
theorem Ln.pd (l : Ln) (n : Nat) : okPD (n + 2) l.d := by
  obtain ⟨s1, s2, s3, s4, s5, s6⟩ := strOk_words
  cases l <;> simp [Ln.d, okPD, s1, s2, s3, s4, s5, s6]
theorem Cd.ne (c : Cd) (st : Sto) : gNeE c.d c.d st = .ok (.bl false) st := by
  refine gNeE_self (n := 4) (fun d hd => ?_) (by omega) st
  simp only [List.mem_cons, List.not_mem_nil, or_false] at hd
  rcases hd with rfl | rfl | rfl | rfl
  · exact okPD_nD 1 _
  · trivial
  · exact okPD_nD 1 _
  · intro d hd
    obtain ⟨l, _, rfl⟩ := List.mem_map.mp hd
    exact l.pd 0
/-- a pair of the walk -/
def prD (many s : Nat) : D := .tup [.tup (nD (rowOf many s)), .int s]
def prP (many s : Nat) : PyData := .tuple [rwP (rowOf many s), .int s]
theorem pdP_pr (many s : Nat) : pdP (prD many s) = some (prP many s) := by
  unfold prD prP rwP
  simp only [pdP, pdPs, nD_ints, pdPs_ints]
theorem pdPs_pr (many : Nat) (ss : List Nat) : pdPs (ss.map (prD many)) = some (ss.map (prP many)) := by
  induction ss with
  | nil => simp [pdPs]
  | cons s ss ih => simp [pdPs, pdP_pr, ih]
theorem prP_ok (many s : Nat) : (prP many s).canLay0 = true ∧ (prP many s).depth ≤ 63 := by
  have h1 := rwP_ok (rowOf many s)
  refine ⟨by simp [prP, PyData.canLay0, PyData.canLayAll0, h1.1], ?_⟩
  have h2 : (rwP (rowOf many s)).depth ≤ 2 := by
    unfold rwP
    generalize ((rowOf many s).map fun n => ((n : Nat) : Int)) = ns
    have : PyData.depthAll (ns.map PyData.int) ≤ 1 := by
      induction ns with
      | nil => simp [PyData.depthAll]
      | cons n ns ih => simp only [List.map_cons, PyData.depthAll, PyData.depth]; omega
    simp only [PyData.depth]; omega
  simp only [prP, PyData.depth, PyData.depthAll]
  omega
theorem prP_eqv (many a b : Nat) : PyData.eqv (prP many a) (prP many b) = decide (a = b) := by
  have h1 : PyData.eqv (rwP (rowOf many a)) (rwP (rowOf many b)) = decide (rowOf many a = rowOf many b) := rwP_eqv _ _
  simp only [prP, PyData.eqv, PyData.eqvAll, h1, Bool.and_true]
  by_cases e : a = b
  · subst e; simp
  · have : ¬ ((a : Int) = (b : Int)) := by omega
    simp [e, this]
theorem e_in {st : Sto} {k many s : Nat} {ss : List Nat} (hk : st[k]? = some (.lst (ss.map (prD many)))) : gInP true (prD many s) (.ref k) st = .ok (.bl (decide (s ∉ ss))) st := by
  have h1 : isLst2 st (.ref k) = true := by simp only [isLst2, hk]
  have h2 : pdL st (.ref k) = some (ss.map (prP many)) := by simp only [pdL, seqAt_ref hk, pdPs_pr]
  have h3 : SeqAt.shaped (.list (ss.map (prP many))) = true := shaped_list fun p hp => by
    obtain ⟨r, _, rfl⟩ := List.mem_map.mp hp
    exact prP_ok many r
  have h4 : SeqAt.shaped (prP many s) = true := shaped_tuple fun p hp => by
    simp only [List.mem_cons, List.not_mem_nil, or_false] at hp
    rcases hp with rfl | rfl
    · exact rwP_ok _
    · simp [PyData.canLay0, PyData.depth]
  have h5 : (ss.map (prP many)).any (fun z => PyData.eqv z (prP many s)) = decide (s ∈ ss) := by
    rw [List.any_map, Bool.eq_iff_iff, List.any_eq_true, decide_eq_true_eq]
    constructor
    · rintro ⟨x, hx, hz⟩
      simp only [Function.comp, prP_eqv, decide_eq_true_eq] at hz
      exact hz ▸ hx
    · intro hx
      exact ⟨s, hx, by simp [prP_eqv]⟩
  unfold gInP
  simp only [h1, if_true, h2, pdP_pr, h3, h4, and_self, h5]
  by_cases e : s ∈ ss <;> simp [e]
section
variable {M : List (List (Nat × List Nat))} {takes sends : Nat} {st : Sto}
def WS (st : Sto) (many : Nat) (ss : List Nat) : Sto := st ++ [.lst (ss.map (prD many))]
def WE (c m : D) (st : Sto) (spot : Nat) (t4 t5 t6 t7 t8 t9 : Option D) : Ev := [some c, some m, some (.ref st.length), some (.int spot), t4, t5, t6, t7, t8, t9]
theorem ws_get (many : Nat) (ss : List Nat) : (WS st many ss)[st.length]? = some (.lst (ss.map (prD many))) := get_end _
theorem prD_lo (many s k : Nat) : D.lo k (prD many s) = true := by simp [prD]
theorem ws_closed (hc : Closed st) (many : Nat) (ss : List Nat) : Closed (WS st many ss) := closed_end hc (by
  rw [loAll_iff]; intro d hd; obtain ⟨s, _, rfl⟩ := List.mem_map.mp hd; exact prD_lo _ _ _)
theorem w_letter (h : Mk M takes sends) (hc : Closed st) {ss : List Nat} {spot x l : Nat} (hx : ss[spot]? = some x) (hxm : x < M.length) (hl : l < takes) (hfew : ss.length < 1000) (t5 t6 t7 t8 t9 : Option D) :
    ∃ (ss' : List Nat) (t5' t6' t7' t8' t9' : Option D), (ss' = if (stM M x l).1 ∈ ss then ss else ss ++ [(stM M x l).1]) ∧
      L_law_like_machine_1 (WE (cM M takes sends).d (mD M) st spot (some (.int l)) t5 t6 t7 t8 t9) (WS st M.length ss) = .ok (.nx (WE (cM M takes sends).d (mD M) st spot (some (.int l)) t5' t6' t7' t8' t9')) (WS st M.length ss') := by
  obtain ⟨k1, k2, k3⟩ := h.st hxm hl
  obtain ⟨w, hrun⟩ := run_cM h hl hxm
  have hr := hrun _ (ws_closed hc M.length ss)
  have i1 : gIx (.ref st.length) (.int spot) (WS st M.length ss) = .ok (prD M.length x) (WS st M.length ss) := gIx_nat (seqAt_ref (ws_get _ _)) (by rw [List.getElem?_map, hx]; rfl)
  have i2 := m_ix1 hxm (WS st M.length ss)
  have i3 := m_ix2 (M := M) (s := x) (l := l) (by rw [h.rowlen hxm]; exact hl) (WS st M.length ss)
  have hsd := h.sends
  have hsame : G_law_same [.tup (nD (stM M x l).2), .tup (nD (stM M x l).2)] (WS st M.length ss) = .ok (.bl true) (WS st M.length ss) := by
    refine e_same (ws_closed hc _ _) 8 _ ⟨by simp; omega, fun d hd => ?_⟩
    obtain ⟨z, _, rfl⟩ := List.mem_map.mp hd
    trivial
  have hin := e_in (s := (stM M x l).1) (ws_get (st := st) M.length ss)
  refine ⟨_, some (.tup (nD (rowOf M.length (stM M x l).1))), some (.tup (nD (stM M x l).2)), some (.int (w : Nat)), some (.int (stM M x l).1), some (.tup (nD (stM M x l).2)), rfl, ?_⟩
  unfold L_law_like_machine_1
  rw [seq_nx (e1 := WE (cM M takes sends).d (mD M) st spot (some (.int l)) (some (.tup (nD (rowOf M.length (stM M x l).1)))) (some (.tup (nD (stM M x l).2))) (some (.int (w : Nat))) t8 t9) (st1 := WS st M.length ss) (by simp [WE, i1, prD, hr])]
  rw [seq_nx (e1 := WE (cM M takes sends).d (mD M) st spot (some (.int l)) (some (.tup (nD (rowOf M.length (stM M x l).1)))) (some (.tup (nD (stM M x l).2))) (some (.int (w : Nat))) (some (.int (stM M x l).1)) (some (.tup (nD (stM M x l).2)))) (st1 := WS st M.length ss) (by simp [WE, i1, prD, i2, i3, mstep, -List.getD_eq_getElem?_getD])]
  rw [seq_nx (e1 := WE (cM M takes sends).d (mD M) st spot (some (.int l)) (some (.tup (nD (rowOf M.length (stM M x l).1)))) (some (.tup (nD (stM M x l).2))) (some (.int (w : Nat))) (some (.int (stM M x l).1)) (some (.tup (nD (stM M x l).2)))) (st1 := WS st M.length ss) (by simp [WE, hsame])]
  have hin' : gInP true (.tup [.tup (nD (rowOf M.length (stM M x l).1)), .int (stM M x l).1]) (.ref st.length) (WS st M.length ss) = .ok (.bl (decide ((stM M x l).1 ∉ ss))) (WS st M.length ss) := hin
  by_cases hz : (stM M x l).1 ∈ ss
  · simp [WE, hin', hz]
  · have hil : isLst (WS st M.length ss) (.ref st.length) = true := isLst_ref (ws_get _ _)
    have hap : gAppend (.ref st.length) [.tup [.tup (nD (rowOf M.length (stM M x l).1)), .int (stM M x l).1]] (WS st M.length ss) = .ok .non (WS st M.length (ss ++ [(stM M x l).1])) := by
      rw [gAppend_at (ws_get _ _) (by simp; omega)]
      unfold WS
      rw [setL_end]; simp [prD]
    simp [WE, hin', hz, hil, hap]
def OkSS (M : List (List (Nat × List Nat))) (ss : List Nat) : Prop := ss.Nodup ∧ ∀ x ∈ ss, x < M.length
theorem OkSS.few {ss : List Nat} (h : OkSS M ss) : ss.length ≤ M.length := nodup_le M.length ss h.1 h.2
theorem w_row (h : Mk M takes sends) (hc : Closed st) {ss : List Nat} {spot : Nat} (hs : spot < ss.length) (hss : OkSS M ss) (t4 t5 t6 t7 t8 t9 : Option D) : ∃ (ss' : List Nat) (t4' t5' t6' t7' t8' t9' : Option D), OkSS M ss' ∧ ss.length ≤ ss'.length ∧
    L_law_like_machine_2 (WE (cM M takes sends).d (mD M) st spot t4 t5 t6 t7 t8 t9) (WS st M.length ss) = .ok (.nx (WE (cM M takes sends).d (mD M) st (spot + 1) t4' t5' t6' t7' t8' t9')) (WS st M.length ss') := by
  have hm := h.many
  have htk := h.takes
  have hx : ss[spot]? = some ss[spot] := List.getElem?_eq_getElem hs
  have hxm := hss.2 _ (List.getElem_mem hs)
  generalize ss[spot] = x at hx hxm
  obtain ⟨e', st', h1, ss', t4', t5', t6', t7', t8', t9', hok, hpre, he, hst⟩ := for_inv0 (wk := wkRange 0 takes) (p := .nm 4) (S := L_law_like_machine_1) (items := rangeD 0 takes) (fun i env s => ∃ (ss' : List Nat) (t4 t5 t6 t7 t8 t9 : Option D), OkSS M ss' ∧ ss <+: ss' ∧ env = WE (cM M takes sends).d (mD M) st spot t4 t5 t6 t7 t8 t9 ∧ s = WS st M.length ss')
    (fun i env s _ => wkRange_at _ _ _ _)
    (fun i d env s hd hh => by
      obtain ⟨ss', t4, t5, t6, t7, t8, t9, hok, hpre, rfl, rfl⟩ := hh
      obtain ⟨hi, rfl⟩ := rangeD_get hd
      rw [Int.zero_add]
      have hf := hok.few
      obtain ⟨ss2, a5, a6, a7, a8, a9, hss2, hs2⟩ := w_letter h hc (pre_get hpre hx) hxm hi (by omega) t5 t6 t7 t8 t9
      refine ⟨_, put_nm _ _, _, _, .inl hs2, ss2, _, a5, a6, a7, a8, a9, ?_, ?_, rfl, rfl⟩
      · rw [hss2]
        split
        · exact hok
        · rename_i hz
          refine ⟨?_, fun y hy => ?_⟩
          · rw [List.nodup_append]
            exact ⟨hok.1, by simp, fun a ha b hb => by simp at hb; subst hb; exact fun z => hz (z ▸ ha)⟩
          · rcases List.mem_append.mp hy with hy | hy
            · exact hok.2 y hy
            · rw [List.mem_singleton] at hy
              subst hy; exact (h.st hxm hi).1
      · rw [hss2]
        split
        · exact hpre
        · exact hpre.trans (List.prefix_append _ _))
    (n := 16777215) (env := WE (cM M takes sends).d (mD M) st spot t4 t5 t6 t7 t8 t9) (st := WS st M.length ss) (by simp; omega) ⟨ss, t4, t5, t6, t7, t8, t9, hss, List.prefix_refl _, rfl, rfl⟩
  rw [he, hst] at h1
  refine ⟨ss', t4', t5', t6', t7', t8', t9', hok, hpre.length_le, ?_⟩
  have i0 : gIx (mD M) (.int 0) (WS st M.length ss) = .ok (mrow (M.getD 0 [])) (WS st M.length ss) := by
    have := m_ix1 (M := M) (s := 0) (by omega) (WS st M.length ss)
    exact this
  have l0 : gLen [mrow (M.getD 0 [])] (WS st M.length ss) = .ok (.int takes) (WS st M.length ss) := by simp [mrow, h.rowlen (show 0 < M.length by omega), -List.getD_eq_getElem?_getD]
  unfold L_law_like_machine_2
  rw [seq_nx ((for_eq (walkC_eq (f := fRange1) (ds := [.int (takes : Nat)]) (st1 := WS st M.length ss) (by simp [WE, i0, l0, -List.getD_eq_getElem?_getD]) (fRange1_nat (by omega)))).trans h1)]
  simp [WE]
theorem w_loop (h : Mk M takes sends) (hc : Closed st) : ∀ (k spot f : Nat) (ss : List Nat) (t4 t5 t6 t7 t8 t9 : Option D), M.length ≤ spot + k → k < f → OkSS M ss → ∃ (ss' : List Nat) (e' : Ev),
      whileGo T_law_like_machine_2 L_law_like_machine_2 f (WE (cM M takes sends).d (mD M) st spot t4 t5 t6 t7 t8 t9) (WS st M.length ss) = .ok (.nx e') (WS st M.length ss')
  | k, spot, 0, ss, t4, t5, t6, t7, t8, t9, hk, hf, hss => by omega
  | k, spot, f + 1, ss, t4, t5, t6, t7, t8, t9, hk, hf, hss => by
    have hlen : gLen [.ref st.length] (WS st M.length ss) = .ok (.int ss.length) (WS st M.length ss) := by rw [gLen_ref (ws_get _ _)]; simp
    have hfew := hss.few
    by_cases hs : spot < ss.length
    · obtain ⟨k, rfl⟩ : ∃ j, k = j + 1 := ⟨k - 1, by omega⟩
      obtain ⟨ss1, a4, a5, a6, a7, a8, a9, hok, _, h1⟩ := w_row h hc hs hss t4 t5 t6 t7 t8 t9
      obtain ⟨ss2, e', h2⟩ := w_loop h hc k (spot + 1) f ss1 a4 a5 a6 a7 a8 a9 (by omega) (by omega) hok
      refine ⟨ss2, e', ?_⟩
      unfold whileGo
      have hT : T_law_like_machine_2 (WE (cM M takes sends).d (mD M) st spot t4 t5 t6 t7 t8 t9) (WS st M.length ss) = .ok true (WS st M.length ss) := by
        simp [T_law_like_machine_2, WE, hlen, hs]
      rw [hT]
      simp only [Rs.bind_ok, if_true, h1, h2]
    · refine ⟨ss, WE (cM M takes sends).d (mD M) st spot t4 t5 t6 t7 t8 t9, ?_⟩
      unfold whileGo
      have hT : T_law_like_machine_2 (WE (cM M takes sends).d (mD M) st spot t4 t5 t6 t7 t8 t9) (WS st M.length ss) = .ok false (WS st M.length ss) := by
        simp [T_law_like_machine_2, WE, hlen]; omega
      rw [hT]
      simp only [Rs.bind_ok, Bool.false_eq_true, if_false]
theorem e_like (h : Mk M takes sends) (hc : Closed st) : G_law_like_machine [(cM M takes sends).d, mD M] st = .ok (.bl true) st := by
  have hm := h.many
  obtain ⟨ss', e', h1⟩ := w_loop h hc M.length 0 16777215 [0] none none none none none none (by omega) (by omega) ⟨by simp, fun x hx => by simp at hx; omega⟩
  refine run_more (j := [.lst (ss'.map (prD M.length))]) hc (by simp) ?_
  show B_law_like_machine [some (cM M takes sends).d, some (mD M), none, none, none, none, none, none, none, none] st = _
  unfold B_law_like_machine
  have ht : (cM M takes sends).tops.length ≤ 1000 := by have := (cM_ck h).tops.1; omega
  have hmul := gMul0 (cM M takes sends).tops.length ht
  have hrep : List.replicate (cM M takes sends).tops.length 0 = rowOf M.length 0 := by
    show List.replicate (tpM M).length 0 = _
    unfold tpM rowOf
    split <;> rfl
  rw [hrep] at hmul
  have i0 : ∀ st : Sto, gIx (cM M takes sends).d (.int 0) st = .ok (.tup (nD (cM M takes sends).tops)) st := fun st => by simp [Cd.d]
  rw [seq_nx (e1 := WE (cM M takes sends).d (mD M) st 0 none none none none none none) (st1 := WS st M.length [0]) (by
    simp [i0, hmul, WE, WS, prD, rwD])]
  rw [seq_nx ((while_eq 16777215 _ _ _ _).trans h1)]
  simp [WS]
end
end F33
end QI

/-! drawn machines -/
namespace QI
open PySem PySem.Spec PyProof.Rows L2
open LC
namespace LC
/-- new cells behind a store with a box in it -/
def PX (pre post : Sto) (b : Int × Int) (cs : Sto) : Sto := pre ++ bx b :: (post ++ cs)
section
variable {pre post cs : Sto} {b : Int × Int}
theorem px_get (k : Nat) : (PX pre post b cs)[pre.length + 1 + post.length + k]? = cs[k]? := by
  unfold PX
  rw [List.getElem?_append_right (by omega), show pre.length + 1 + post.length + k - pre.length = post.length + k + 1 by omega, List.getElem?_cons_succ, List.getElem?_append_right (by omega), show post.length + k - post.length = k by omega]
theorem px_set (k : Nat) (xs : List D) : setL (PX pre post b cs) (pre.length + 1 + post.length + k) xs = PX pre post b (cs.set k (.lst xs)) := by
  unfold PX setL
  rw [List.set_append_right _ _ (by omega), show pre.length + 1 + post.length + k - pre.length = post.length + k + 1 by omega, List.set_cons_succ, List.set_append_right _ _ (by omega), show post.length + k - post.length = k by omega]
theorem px_len : (PX pre post b cs).length = pre.length + 1 + post.length + cs.length := by simp [PX]; omega
theorem px_new (c : Cell) : PX pre post b cs ++ [c] = PX pre post b (cs ++ [c]) := by simp [PX]
theorem px_app (j : Sto) : PX pre post b cs = (pre ++ bx b :: post) ++ cs := by simp [PX]
theorem px_closed (hc : ∀ b, Closed (pre ++ bx b :: post)) (h : ∀ c ∈ cs, ∀ n, Cell.lo n c = true) (b : Int × Int) : Closed (PX pre post b cs) := by
  intro x hx
  rw [px_app []] at hx ⊢
  rcases List.mem_append.mp hx with h1 | h1
  · exact Cell.lo_mono (by simp) (hc b x h1)
  · exact h x h1 _
theorem px_tk (hc : ∀ b, Closed (pre ++ bx b :: post)) (h : ∀ c ∈ cs, ∀ n, Cell.lo n c = true) (hb : okB b) (m : Nat) (h1 : 1 ≤ m) (h2 : m < 1000000) :
    ∃ (d : Nat) (b' : Int × Int), okB b' ∧ d < m ∧ G_law_take [.ref pre.length, .int (m : Nat)] (PX pre post b cs) = .ok (.int d) (PX pre post b' cs) := tk (px_closed hc h) hb m h1 h2
end
end LC
namespace F33
section
variable {pre post cs : Sto} {b : Int × Int}
theorem PXz (pre post : Sto) (b : Int × Int) (cs : Sto) : pre ++ bx b :: (post ++ cs) = PX pre post b cs := rfl
theorem dm_picks (hc : ∀ b, Closed (pre ++ bx b :: post)) (hcs : ∀ c ∈ cs, ∀ n, Cell.lo n c = true) (hb : okB b) {sends : Nat} (hs : sends ≤ 3) {env : Ev} (hlen : env.length = 8) (h0 : env[0]? = some (some (.ref pre.length))) (h3 : env[3]? = some (some (.int sends))) : ∃ (ns : List Nat) (b' : Int × Int), okB b' ∧ ns.length = sends ∧ (∀ n ∈ ns, n ≤ 16000) ∧
    iComp fRol 16777215 (iWalkC fRange1 (iCons (iVar 3) (iNil))) (.nm 6) (iYes) (iCall 2 G_law_pick [] (iCons (iVar 0) (iCons (iRol (iLst (iCons (iC (.int 0)) (iCons (iC (.int 0)) (iCons (iC (.int 1)) (iCons (iC (.int 2)) (iCons (iC (.int 900)) (iCons (iC (.int 1296)) (iCons (iC (.int 2997)) (iNil)))))))))) (iNil)))) [6] env (PX pre post b cs) = .ok (.rol (nD ns)) (PX pre post b' cs) := by
  obtain ⟨acc, st', h2, ns, b2, hb2, hl, hns, rfl, rfl⟩ := comp_inv0 (wk := wkRange 0 sends) (p := .nm 6) (T := iYes) (vs := [6]) (env := env) (fin := fRol) (items := rangeD 0 sends)
    (A := iCall 2 G_law_pick [] (iCons (iVar 0) (iCons (iRol (iLst (iCons (iC (.int 0)) (iCons (iC (.int 0)) (iCons (iC (.int 1)) (iCons (iC (.int 2)) (iCons (iC (.int 900)) (iCons (iC (.int 1296)) (iCons (iC (.int 2997)) (iNil)))))))))) (iNil))))
    (fun i acc s => ∃ (ns : List Nat) (b' : Int × Int), okB b' ∧ ns.length = i ∧ (∀ n ∈ ns, n ≤ 16000) ∧ acc = nD ns ∧ s = PX pre post b' cs)
    (fun i acc s _ => wkRange_at _ _ _ _)
    (fun i z acc s hz h => by
      obtain ⟨ns, b2, hb2, hl, hns, rfl, rfl⟩ := h
      obtain ⟨hi, rfl⟩ := rangeD_get hz
      obtain ⟨v, hv, b3, hb3, h4⟩ := e_pick (pre := pre) (post := post ++ cs) (px_closed hc hcs b2) hb2 [0, 0, 1, 2, 900, 1296, 2997] (by simp) (by simp)
      have h4 : G_law_pick [.ref pre.length, .rol [.int 0, .int 0, .int 1, .int 2, .int 900, .int 1296, .int 2997]] (PX pre post b2 cs) = .ok (.int v) (PX pre post b3 cs) := h4
      have k0 : ((wipeE env [6]).set 6 (some (.int (0 + (i : Nat)))))[0]? = some (some (.ref pre.length)) := by simp [wipeE, List.getElem?_set, h0]
      refine ⟨_, put_nm _ _, true, _, rfl, .inr ⟨rfl, .int (v : Nat), PX pre post b3 cs, ?_, ns ++ [v], b3, hb3, by simp [hl], ?_, by simp [nD_app], rfl⟩⟩
      · simp only [ev_call, ev_cons, ev_var, k0, Rs.bind_ok, ev_rol, ev_lst, ev_C, ev_nil]
        simp [h4]
      · intro r hr
        rcases List.mem_append.mp hr with hr | hr
        · exact hns r hr
        · rw [List.mem_singleton] at hr
          subst hr
          simp only [List.mem_cons, List.not_mem_nil, or_false] at hv
          omega)
    (n := 16777215) (st := PX pre post b cs) (by simp; omega) (by simp; omega) ⟨[], b, hb, rfl, by simp, rfl, rfl⟩
  rw [rangeD_len] at hl
  refine ⟨ns, b2, hb2, hl, hns, ?_⟩
  exact (comp_eq (walkC_eq (ds := [.int (sends : Nat)]) (st1 := PX pre post b cs) (by simp [h3]) (fRange1_nat (by omega)))).trans h2
theorem dm_takes (hc : ∀ b, Closed (pre ++ bx b :: post)) (hcs : ∀ c ∈ cs, ∀ n, Cell.lo n c = true) (hb : okB b) {sends : Nat} (hs : sends ≤ 3) {env : Ev} (hlen : env.length = 8) (h0 : env[0]? = some (some (.ref pre.length))) (h3 : env[3]? = some (some (.int sends))) : ∃ (ns : List Nat) (b' : Int × Int), okB b' ∧ ns.length = sends ∧ (∀ n ∈ ns, n ≤ 16000) ∧
    iComp fRol 16777215 (iWalkC fRange1 (iCons (iVar 3) (iNil))) (.nm 6) (iYes) (iCall 2 G_law_take [] (iCons (iVar 0) (iCons (iC (.int 3)) (iNil)))) [6] env (PX pre post b cs) = .ok (.rol (nD ns)) (PX pre post b' cs) := by
  obtain ⟨acc, st', h2, ns, b2, hb2, hl, hns, rfl, rfl⟩ := comp_inv0 (wk := wkRange 0 sends) (p := .nm 6) (T := iYes) (vs := [6]) (env := env) (fin := fRol) (items := rangeD 0 sends)
    (A := iCall 2 G_law_take [] (iCons (iVar 0) (iCons (iC (.int 3)) (iNil))))
    (fun i acc s => ∃ (ns : List Nat) (b' : Int × Int), okB b' ∧ ns.length = i ∧ (∀ n ∈ ns, n ≤ 16000) ∧ acc = nD ns ∧ s = PX pre post b' cs)
    (fun i acc s _ => wkRange_at _ _ _ _)
    (fun i z acc s hz h => by
      obtain ⟨ns, b2, hb2, hl, hns, rfl, rfl⟩ := h
      obtain ⟨hi, rfl⟩ := rangeD_get hz
      obtain ⟨v, b3, hb3, hv, h4⟩ := px_tk hc hcs hb2 3 (by omega) (by omega)
      have h4 : G_law_take [.ref pre.length, .int 3] (PX pre post b2 cs) = .ok (.int v) (PX pre post b3 cs) := h4
      have k0 : ((wipeE env [6]).set 6 (some (.int (0 + (i : Nat)))))[0]? = some (some (.ref pre.length)) := by simp [wipeE, List.getElem?_set, h0]
      refine ⟨_, put_nm _ _, true, _, rfl, .inr ⟨rfl, .int (v : Nat), PX pre post b3 cs, ?_, ns ++ [v], b3, hb3, by simp [hl], ?_, by simp [nD_app], rfl⟩⟩
      · simp only [ev_call, ev_cons, ev_var, k0, Rs.bind_ok, ev_C, ev_nil]
        simp [h4]
      · intro r hr
        rcases List.mem_append.mp hr with hr | hr
        · exact hns r hr
        · rw [List.mem_singleton] at hr
          omega)
    (n := 16777215) (st := PX pre post b cs) (by simp; omega) (by simp; omega) ⟨[], b, hb, rfl, by simp, rfl, rfl⟩
  rw [rangeD_len] at hl
  refine ⟨ns, b2, hb2, hl, hns, ?_⟩
  exact (comp_eq (walkC_eq (ds := [.int (sends : Nat)]) (st1 := PX pre post b cs) (by simp [h3]) (fRange1_nat (by omega)))).trans h2
def DE (pre post : Sto) (many takes sends : Nat) (t5 t6 t7 : Option D) : Ev := [some (.ref pre.length), some (.int many), some (.int takes), some (.int sends), some (.ref (pre.length + 1 + post.length)), t5, t6, t7]
/-- a good step -/
def okA (many sends : Nat) (a : Nat × List Nat) : Prop := a.1 < many ∧ a.2.length = sends ∧ ∀ x ∈ a.2, x ≤ 16000
def RC2 (rws : List (List (Nat × List Nat))) (old : Sto) (cur : List (Nat × List Nat)) : Sto := .lst (rws.map mrow) :: (old ++ [.lst (cur.map mstep)])
theorem mrows_lo (k : Nat) (rws : List (List (Nat × List Nat))) : D.loAll k (rws.map mrow) = true := by
  have := mD_lo rws k
  simpa [mD] using this
theorem msteps_lo (k : Nat) (r : List (Nat × List Nat)) : D.loAll k (r.map mstep) = true := by
  rw [loAll_iff]; intro d hd; obtain ⟨a, _, rfl⟩ := List.mem_map.mp hd; simp [mstep]
theorem rc2_plain {rws : List (List (Nat × List Nat))} {old : Sto} {cur : List (Nat × List Nat)} (ho : PlnS old) : ∀ c ∈ RC2 rws old cur, ∀ n, Cell.lo n c = true := by
  intro c hc n
  rcases List.mem_cons.mp hc with rfl | hc
  · exact mrows_lo n rws
  · rcases List.mem_append.mp hc with hc | hc
    · exact ho n c hc
    · rw [List.mem_singleton] at hc
      subst hc; exact msteps_lo n cur
theorem rc2_cur {rws : List (List (Nat × List Nat))} {old : Sto} {cur : List (Nat × List Nat)} : (PX pre post b (RC2 rws old cur))[pre.length + 1 + post.length + (1 + old.length)]? = some (.lst (cur.map mstep)) := by
  rw [px_get, RC2, show 1 + old.length = old.length + 1 by omega, List.getElem?_cons_succ]
  simp
theorem rc2_app {rws : List (List (Nat × List Nat))} {old : Sto} {cur : List (Nat × List Nat)} (h : cur.length < 1000) (a : Nat × List Nat) : gAppend (.ref (pre.length + 1 + post.length + (1 + old.length))) [mstep a] (PX pre post b (RC2 rws old cur)) = .ok .non (PX pre post b (RC2 rws old (cur ++ [a]))) := by
  rw [gAppend_at rc2_cur (by simp; omega), px_set]
  unfold RC2
  rw [show 1 + old.length = old.length + 1 by omega, List.set_cons_succ, List.set_append_right _ _ (by omega)]
  simp
theorem dm_row (hc : ∀ b, Closed (pre ++ bx b :: post)) (hb : okB b) {many takes sends s : Nat} (hm : 1 ≤ many ∧ many ≤ 12) (ht : 1 ≤ takes ∧ takes ≤ 3) (hs : sends ≤ 3) {rws : List (List (Nat × List Nat))} {old : Sto} (ho : PlnS old) (hr : rws.length < 1000) (t6 t7 : Option D) :
    ∃ (cur : List (Nat × List Nat)) (b' : Int × Int) (t6' t7' : Option D), okB b' ∧ cur.length = takes ∧ (∀ a ∈ cur, okA many sends a) ∧
      L_law_drawn_machine_2 (DE pre post many takes sends (some (.int s)) t6 t7) (PX pre post b (.lst (rws.map mrow) :: old)) = .ok (.nx (DE pre post many takes sends (some (.int s)) t6' t7')) (PX pre post b' (.lst ((rws ++ [cur]).map mrow) :: (old ++ [.lst (cur.map mstep)]))) := by
  have hpl : ∀ c ∈ (.lst (rws.map mrow) :: old : Sto), ∀ n, Cell.lo n c = true := fun c hc n => by
    rcases List.mem_cons.mp hc with rfl | hc
    · exact mrows_lo n rws
    · exact ho n c hc
  obtain ⟨ns, b1, hb1, hn1, hn2, h1⟩ := dm_picks (env := DE pre post many takes sends (some (.int s)) t6 t7) hc hpl hb hs rfl rfl rfl
  have e1 : ((s : Int) + 1) % many = (((s + 1) % many : Nat) : Int) := by push_cast; rfl
  have hmp : (0 : Int) < many := by omega
  have hmp2 : 0 < many := by omega
  have hz : (PX pre post b1 (.lst (rws.map mrow) :: old)).length = pre.length + 1 + post.length + (1 + old.length) := by rw [px_len]; simp; omega
  have hfirst : sSet 7 (iCell (iLst (iCons (iTup (iCons (iBin gMod (iCallB gInt (iCons (iBin gAdd (iVar 5) (iC (.int 1))) (iNil))) (iVar 1)) (iCons (iCallB gTuple (iCons (iComp fRol 16777215 (iWalkC fRange1 (iCons (iVar 3) (iNil))) (.nm 6) (iYes) (iCall 2 G_law_pick [] (iCons (iVar 0) (iCons (iRol (iLst (iCons (iC (.int 0)) (iCons (iC (.int 0)) (iCons (iC (.int 1)) (iCons (iC (.int 2)) (iCons (iC (.int 900)) (iCons (iC (.int 1296)) (iCons (iC (.int 2997)) (iNil)))))))))) (iNil)))) [6]) (iNil))) (iNil)))) (iNil)))) (DE pre post many takes sends (some (.int s)) t6 t7) (PX pre post b (.lst (rws.map mrow) :: old)) = .ok (.nx (DE pre post many takes sends (some (.int s)) t6 (some (.ref (pre.length + 1 + post.length + (1 + old.length)))))) (PX pre post b1 (RC2 rws old [((s + 1) % many, ns)])) := by
    have hm1 : iBin gMod (iCallB gInt (iCons (iBin gAdd (iVar 5) (iC (.int 1))) (iNil))) (iVar 1) (DE pre post many takes sends (some (.int s)) t6 t7) (PX pre post b (.lst (rws.map mrow) :: old)) = .ok (.int ((s + 1) % many : Nat)) (PX pre post b (.lst (rws.map mrow) :: old)) := by
      simp [DE, hmp, hmp2, e1, -Int.natCast_emod]
    rw [ev_sSet, ev_cell, ev_lst, ev_cons, ev_tup, ev_cons, hm1]
    simp only [Rs.bind_ok, ev_cons, ev_callB, h1, gTuple_rol, ev_nil, List.length_cons, List.length_nil]
    simp [hz, px_new, RC2, mstep, DE]
  obtain ⟨e', st', h2, cur, b2, t6', hb2, hcl, hca, he, hst⟩ := for_inv0 (wk := wkRange 0 (takes - 1)) (p := .nm 6) (S := L_law_drawn_machine_1) (items := rangeD 0 (takes - 1)) (fun i env s' => ∃ (cur : List (Nat × List Nat)) (b' : Int × Int) (t6 : Option D), okB b' ∧ cur.length = i + 1 ∧ (∀ a ∈ cur, okA many sends a) ∧ env = DE pre post many takes sends (some (.int s)) t6 (some (.ref (pre.length + 1 + post.length + (1 + old.length)))) ∧ s' = PX pre post b' (RC2 rws old cur))
    (fun i env s _ => wkRange_at _ _ _ _)
    (fun i d env s' hd hh => by
      obtain ⟨cur, b2, t6, hb2, hcl, hca, rfl, rfl⟩ := hh
      obtain ⟨hi, rfl⟩ := rangeD_get hd
      rw [Int.zero_add]
      obtain ⟨v, b3, hb3, hv, h3⟩ := px_tk hc (rc2_plain (rws := rws) (cur := cur) ho) hb2 many hm.1 (by omega)
      obtain ⟨ms, b4, hb4, hm1, hm2, h4⟩ := dm_takes (env := DE pre post many takes sends (some (.int s)) (some (.int (i : Nat))) (some (.ref (pre.length + 1 + post.length + (1 + old.length))))) hc (rc2_plain (rws := rws) (cur := cur) ho) hb3 hs rfl rfl rfl
      have hil : isLst (PX pre post b2 (RC2 rws old cur)) (.ref (pre.length + 1 + post.length + (1 + old.length))) = true := isLst_ref rc2_cur
      have ha := rc2_app (pre := pre) (post := post) (b := b4) (rws := rws) (old := old) (cur := cur) (by omega) (v, ms)
      have main : L_law_drawn_machine_1 (DE pre post many takes sends (some (.int s)) (some (.int (i : Nat))) (some (.ref (pre.length + 1 + post.length + (1 + old.length))))) (PX pre post b2 (RC2 rws old cur)) = .ok (.nx (DE pre post many takes sends (some (.int s)) (some (.int (i : Nat))) (some (.ref (pre.length + 1 + post.length + (1 + old.length)))))) (PX pre post b4 (RC2 rws old (cur ++ [(v, ms)]))) := by
        have hv7 : iVar 7 (DE pre post many takes sends (some (.int s)) (some (.int (i : Nat))) (some (.ref (pre.length + 1 + post.length + (1 + old.length))))) (PX pre post b2 (RC2 rws old cur)) = .ok (.ref (pre.length + 1 + post.length + (1 + old.length))) (PX pre post b2 (RC2 rws old cur)) := rfl
        have htk : iCall 2 G_law_take [] (iCons (iVar 0) (iCons (iVar 1) (iNil))) (DE pre post many takes sends (some (.int s)) (some (.int (i : Nat))) (some (.ref (pre.length + 1 + post.length + (1 + old.length))))) (PX pre post b2 (RC2 rws old cur)) = .ok (.int v) (PX pre post b3 (RC2 rws old cur)) := by
          simp [DE, h3]
        unfold L_law_drawn_machine_1
        rw [ev_sDrop, ev_meth, hv7]
        simp only [Rs.bind_ok, hil, if_true]
        rw [ev_cons, ev_tup, ev_cons, htk]
        simp only [Rs.bind_ok, ev_cons, ev_callB, h4, gTuple_rol, ev_nil, List.length_cons, List.length_nil]
        have ha' : gAppend (.ref (pre.length + 1 + post.length + (1 + old.length))) [.tup [.int v, .tup (nD ms)]] (PX pre post b4 (RC2 rws old cur)) = .ok .non (PX pre post b4 (RC2 rws old (cur ++ [(v, ms)]))) := ha
        simp [ha']
      refine ⟨_, put_nm _ _, _, _, .inl main, cur ++ [(v, ms)], b4, _, hb4, by simp [hcl], ?_, rfl, rfl⟩
      intro a ha
      rcases List.mem_append.mp ha with ha | ha
      · exact hca a ha
      · rw [List.mem_singleton] at ha
        subst ha; exact ⟨hv, hm1, hm2⟩)
    (n := 16777215) (env := DE pre post many takes sends (some (.int s)) t6 (some (.ref (pre.length + 1 + post.length + (1 + old.length))))) (st := PX pre post b1 (RC2 rws old [((s + 1) % many, ns)])) (by simp; omega) ⟨[((s + 1) % many, ns)], b1, t6, hb1, rfl, fun a ha => by
      rw [List.mem_singleton] at ha
      subst ha; exact ⟨Nat.mod_lt _ hmp2, hn1, hn2⟩, rfl, rfl⟩
  rw [rangeD_len] at hcl
  rw [he, hst] at h2
  refine ⟨cur, b2, t6', some (.ref (pre.length + 1 + post.length + (1 + old.length))), hb2, by omega, hca, ?_⟩
  have e2 : (takes : Int) - 1 = ((takes - 1 : Nat) : Int) := by omega
  unfold L_law_drawn_machine_2
  rw [seq_nx hfirst]
  rw [seq_nx ((for_eq (walkC_eq (f := fRange1) (ds := [.int (takes - 1 : Nat)]) (st1 := PX pre post b1 (RC2 rws old [((s + 1) % many, ns)])) (by simp [DE, e2, -Int.natCast_sub]) (fRange1_nat (by omega)))).trans h2)]
  have g0 : (PX pre post b2 (RC2 rws old cur))[pre.length + 1 + post.length]? = some (.lst (rws.map mrow)) := px_get 0
  have hil : isLst (PX pre post b2 (RC2 rws old cur)) (.ref (pre.length + 1 + post.length)) = true := isLst_ref g0
  have gt := gTuple_ref (rc2_cur (pre := pre) (post := post) (b := b2) (rws := rws) (old := old) (cur := cur))
  have hap : gAppend (.ref (pre.length + 1 + post.length)) [.tup (cur.map mstep)] (PX pre post b2 (RC2 rws old cur)) = .ok .non (PX pre post b2 (.lst ((rws ++ [cur]).map mrow) :: (old ++ [.lst (cur.map mstep)]))) := by
    rw [gAppend_at g0 (by simp; omega)]
    have := px_set (pre := pre) (post := post) (b := b2) (cs := RC2 rws old cur) 0 (rws.map mrow ++ [.tup (cur.map mstep)])
    rw [Nat.add_zero] at this
    rw [this]
    simp [RC2, mrow]
  simp [DE, hil, gt, hap]
theorem e_drawn_machine (hc : ∀ b, Closed (pre ++ bx b :: post)) (hb : okB b) : ∃ (M : List (List (Nat × List Nat))) (takes sends : Nat) (b' : Int × Int), okB b' ∧ Mk M takes sends ∧ G_law_drawn_machine [.ref pre.length] (pre ++ bx b :: post) = .ok (mD M) (pre ++ bx b' :: post) := by
  obtain ⟨x1, b1, hb1, hx1, h1⟩ := LC.tk hc hb 12 (by omega) (by omega)
  obtain ⟨x2, b2, hb2, hx2, h2⟩ := LC.tk hc hb1 3 (by omega) (by omega)
  obtain ⟨x3, b3, hb3, hx3, h3⟩ := LC.tk hc hb2 4 (by omega) (by omega)
  have h1 : G_law_take [.ref pre.length, .int 12] (pre ++ bx b :: post) = .ok (.int x1) (pre ++ bx b1 :: post) := h1
  have h2 : G_law_take [.ref pre.length, .int 3] (pre ++ bx b1 :: post) = .ok (.int x2) (pre ++ bx b2 :: post) := h2
  have h3 : G_law_take [.ref pre.length, .int 4] (pre ++ bx b2 :: post) = .ok (.int x3) (pre ++ bx b3 :: post) := h3
  obtain ⟨e', st', h4, rws, old, b4, t5, t6, t7, hb4, ho, hl, hall, he, hst⟩ := for_inv0 (wk := wkRange 0 (1 + x1)) (p := .nm 5) (S := L_law_drawn_machine_2) (items := rangeD 0 (1 + x1)) (fun i env s => ∃ (rws : List (List (Nat × List Nat))) (old : Sto) (b' : Int × Int) (t5 t6 t7 : Option D), okB b' ∧ PlnS old ∧ rws.length = i ∧ (∀ r ∈ rws, r.length = 1 + x2 ∧ ∀ a ∈ r, okA (1 + x1) x3 a) ∧ env = DE pre post (1 + x1) (1 + x2) x3 t5 t6 t7 ∧ s = PX pre post b' (.lst (rws.map mrow) :: old))
    (fun i env s _ => wkRange_at _ _ _ _)
    (fun i d env s hd hh => by
      obtain ⟨rws, old, b4, t5, t6, t7, hb4, ho, hl, hall, rfl, rfl⟩ := hh
      obtain ⟨hi, rfl⟩ := rangeD_get hd
      rw [Int.zero_add]
      obtain ⟨cur, b5, t6', t7', hb5, hcl, hca, hs⟩ := dm_row (s := i) (rws := rws) hc hb4 (many := 1 + x1) (takes := 1 + x2) (sends := x3) (by omega) (by omega) (by omega) ho (by omega) t6 t7
      refine ⟨_, put_nm _ _, _, _, .inl hs, rws ++ [cur], old ++ [.lst (cur.map mstep)], b5, _, t6', t7', hb5, plnS_app ho (fun n => msteps_lo n cur), by simp [hl], ?_, rfl, rfl⟩
      intro r hr
      rcases List.mem_append.mp hr with hr | hr
      · exact hall r hr
      · rw [List.mem_singleton] at hr
        subst hr; exact ⟨hcl, hca⟩)
    (n := 16777215) (env := DE pre post (1 + x1) (1 + x2) x3 none none none) (st := PX pre post b3 [.lst []]) (by simp; omega) ⟨[], [], b3, none, none, none, hb3, fun _ _ h => (nomatch h), rfl, by simp, rfl, rfl⟩
  rw [rangeD_len] at hl
  rw [he, hst] at h4
  refine ⟨rws, 1 + x2, x3, b4, hb4, ⟨by omega, fun r hr => ?_, by omega, by omega⟩, ?_⟩
  · rw [hl]; exact hall r hr
  · refine run_moved (j := .lst (rws.map mrow) :: old) (by simp) (hc b4) (mD_lo _ _) ?_
    show B_law_drawn_machine [some (.ref pre.length), none, none, none, none, none, none, none] (pre ++ bx b :: post) = _
    unfold B_law_drawn_machine
    have e1 : (1 : Int) + x1 = ((1 + x1 : Nat) : Int) := by push_cast; rfl
    have e2 : (1 : Int) + x2 = ((1 + x2 : Nat) : Int) := by push_cast; rfl
    rw [seq_nx (e1 := [some (.ref pre.length), some (.int (1 + x1 : Nat)), some (.int (1 + x2 : Nat)), some (.int x3), none, none, none, none]) (st1 := pre ++ bx b3 :: post) (by simp [h1, h2, h3, e1, e2, -Int.natCast_add])]
    have e0 : pre ++ bx b3 :: post = PX pre post b3 [] := by simp [PX]
    rw [e0]
    rw [seq_nx (e1 := DE pre post (1 + x1) (1 + x2) x3 none none none) (st1 := PX pre post b3 [.lst []]) (by simp [DE, px_len, px_new])]
    rw [seq_nx ((for_eq (walkC_eq (f := fRange1) (ds := [.int (1 + x1 : Nat)]) (st1 := PX pre post b3 [.lst []]) (by simp [DE]) (fRange1_nat (by omega)))).trans h4)]
    have g0 : (PX pre post b4 (.lst (rws.map mrow) :: old))[pre.length + 1 + post.length]? = some (.lst (rws.map mrow)) := px_get 0
    have gt := gTuple_ref g0
    have hfin : PX pre post b4 (.lst (rws.map mrow) :: old) = (pre ++ bx b4 :: post) ++ (.lst (rws.map mrow) :: old) := px_app []
    rw [← hfin]
    simp [DE, gt, mD]
end
end F33
end QI

/-! the law, whole -/
namespace QI
open PySem PySem.Spec PyProof.Rows L2
open LC
namespace F33
theorem many_le : ∀ {ts : List Nat}, (∀ t ∈ ts, t ≤ 3) → many ts ≤ 4 ^ ts.length
  | [], _ => by simp [many]
  | t :: ts, h => by
    have h1 := many_le fun x hx => h x (List.mem_cons_of_mem _ hx)
    have h2 := h t List.mem_cons_self
    simp only [many, List.length_cons, Nat.pow_succ]
    rw [Nat.mul_comm (4 ^ ts.length) 4]
    exact Nat.mul_le_mul (by omega) h1
theorem Cd.Dr.many {c : Cd} (h : c.Dr) : many c.tops ≤ 16 := by
  have h1 := many_le h.tops.2
  have h2 : 4 ^ c.tops.length ≤ 4 ^ 2 := Nat.pow_le_pow_right (by omega) h.tops.1
  omega
/-- the machine of a code, as a list -/
noncomputable def mM (c : Cd) (N : Nat) : List (List (Nat × List Nat)) := (List.range N).map fun k => (List.range c.ent.length).map fun l => ((addL c ((bf c N).getD k []) (bf c k) (l + 1)).idxOf (nx c ((bf c N).getD k []) l).1, (nx c ((bf c N).getD k []) l).2)
theorem mM_eq {c : Cd} {N : Nat} (hN : ∀ k, k < N → k < (bf c k).length) : D.tup (mch c N) = mD (mM c N) := by
  unfold mD
  congr 1
  refine List.ext_getElem? fun k => ?_
  by_cases hk : k < N
  · rw [mch_get hN N k (Nat.le_refl _) hk]
    unfold mM
    rw [List.getElem?_map, List.getElem?_map, List.getElem?_range hk]
    simp only [Option.map_some, mrow]
    congr 2
    refine List.ext_getElem? fun l => ?_
    by_cases hl : l < c.ent.length
    · rw [stp_get hl, List.getElem?_map, List.getElem?_map, List.getElem?_range hl]
      rfl
    · rw [List.getElem?_eq_none (by rw [stp_len]; omega), List.getElem?_eq_none (by simp; omega)]
  · rw [List.getElem?_eq_none (by rw [mch_len hN N (Nat.le_refl _)]; omega), List.getElem?_eq_none (by simp [mM]; omega)]
theorem mM_mk {c : Cd} (hd : c.Dr) (hl16 : c.lines.length ≤ 16) {N : Nat} (hN1 : N ≤ many c.tops) (hN : ∀ k, k < N → k < (bf c k).length) (hend : (bf c N).length = N) : Mk (mM c N) c.ent.length c.sends := by
  have hent := hd.ent
  have hsd := hd.sends
  have hm := hd.many
  have hN0 : 1 ≤ N := by
    have := (bf_pre2 c (Nat.zero_le N)).length_le
    simp [bf] at this
    omega
  have hlen : (mM c N).length = N := by simp [mM]
  refine ⟨by rw [hlen]; omega, fun r hr => ?_, by omega, by omega⟩
  rw [hlen]
  unfold mM at hr
  obtain ⟨k, hk, rfl⟩ := List.mem_map.mp hr
  have hk := List.mem_range.mp hk
  obtain ⟨row, hrow⟩ : ∃ row, (bf c k)[k]? = some row := ⟨_, List.getElem?_eq_getElem (hN k hk)⟩
  have hgd : (bf c N).getD k [] = row := by rw [List.getD_eq_getElem?_getD, bf_at (m := N) (by omega) hrow]; rfl
  rw [hgd]
  have hin := (bf_ok hd.ok k).2 row (List.mem_of_getElem? hrow)
  have hb1 : bf c (k + 1) = addL c row (bf c k) c.ent.length := by simp only [bf]; rw [hrow]
  refine ⟨by simp, fun a ha => ?_⟩
  obtain ⟨l, hl, rfl⟩ := List.mem_map.mp ha
  have hl := List.mem_range.mp hl
  obtain ⟨n1, n2, n3, _⟩ := nx_ok hd.ok hin hl
  refine ⟨?_, n2, fun x hx => ?_⟩
  · have hi : (bf c N)[(addL c row (bf c k) (l + 1)).idxOf (nx c row l).1]? = some (nx c row l).1 := by
      refine idx_pre ?_ (bf_ok hd.ok N).1 (mem_addL c row _ l)
      refine (addL_mono c row (bf c k) (show l + 1 ≤ c.ent.length by omega)).trans ?_
      rw [← hb1]
      exact bf_pre2 c (by omega)
    have := lt_of_get hi
    omega
  · obtain ⟨i, hi⟩ := List.getElem?_of_mem hx
    have h1 := n3 i x hi
    have h2 : 999 * c.lines.length ≤ 999 * 16 := Nat.mul_le_mul_left _ hl16
    omega
theorem cl1 {st : Sto} (hc : Closed st) (b : Int × Int) : Closed (st ++ bx b :: []) := closed_end hc (by simp)
/-- the law's test of a machine -/
theorem l_test {M : List (List (Nat × List Nat))} {takes sends : Nat} (h : Mk M takes sends) {st : Sto} (hc : Closed st) {sc bxd : D} {k : Nat} (t4 t5 t6 t7 t8 t9 : Option D) :
    sSeq (sSet 6 (iCallKn 0 1 G_code_of_machine iNil (iCons (iVar 3) (iNil)))) (sIf (iOr (iTest (iBin gNeE (iCall 1 G_check_code [] (iCons (iVar 6) (iNil))) (iVar 6))) (iOr (iTest (iBin gNeE (iCallB gLen (iCons (iBin gIx (iVar 6) (iC (.int 2))) (iNil))) (iCallB gLen (iCons (iBin gIx (iVar 3) (iC (.int 0))) (iNil))))) (iNot (iTru (iCall 2 G_law_like_machine [] (iCons (iVar 6) (iCons (iVar 3) (iNil)))))))) (sRet (iC (.bl false))) (sNil)) [some sc, some (.int k), some bxd, some (mD M), t4, t5, t6, t7, t8, t9] st = .ok (.nx [some sc, some (.int k), some bxd, some (mD M), t4, t5, some (cM M takes sends).d, t7, t8, t9]) st := by
  have e1 := e_code_of_machine h hc
  have e2 := e_check (cM_ck h) hc
  have e3 := e_like h hc
  have e4 := Cd.ne (cM M takes sends) st
  have hm := h.many
  have i2 : gIx (cM M takes sends).d (.int 2) st = .ok (.tup (nD (cM M takes sends).ent)) st := by simp [Cd.d]
  have l2 : (cM M takes sends).ent.length = takes := esN_len _ _
  have i0 : gIx (mD M) (.int 0) st = .ok (mrow (M.getD 0 [])) st := by
    have := m_ix1 (M := M) (s := 0) (by omega) st
    exact this
  have l0 : gLen [mrow (M.getD 0 [])] st = .ok (.int takes) st := by simp [mrow, h.rowlen (show 0 < M.length by omega), -List.getD_eq_getElem?_getD]
  generalize cM M takes sends = c at *
  rw [seq_nx (e1 := [some sc, some (.int k), some bxd, some (mD M), t4, t5, some c.d, t7, t8, t9]) (st1 := st) (by simp [e1])]
  simp [e2, e3, e4, i2, l2, i0, l0, -List.getD_eq_getElem?_getD]
theorem turn {st : Sto} (hc : Closed st) (ns : List Int) (hns : ns.length < 1000) {k : Nat} (hk : k < 1000) (t2 t3 t4 t5 t6 t7 t8 t9 : Option D) :
    ∃ ev st', ev.length = 8 ∧ Closed st' ∧ L_law_1 (some (.scr (ns.map D.int)) :: some (.int k) :: [t2, t3, t4, t5, t6, t7, t8, t9]) st = .ok (.nx (some (.scr (ns.map D.int)) :: some (.int k) :: ev)) st' := by
  obtain ⟨b, hb, h1⟩ := e_box hc ns k hk hns
  have h0 : ∀ b, Closed (st ++ bx b :: []) := fun b => cl1 hc b
  obtain ⟨M, takes, sends, b1, hb1, hM, h2⟩ := e_drawn_machine (pre := st) (post := []) h0 hb
  unfold L_law_1
  rw [seq_nx (e1 := some (.scr (ns.map D.int)) :: some (.int k) :: [some (.ref st.length), t3, t4, t5, t6, t7, t8, t9]) (st1 := st ++ bx b :: []) (by simp [h1])]
  rw [seq_nx (e1 := some (.scr (ns.map D.int)) :: some (.int k) :: [some (.ref st.length), some (mD M), t4, t5, t6, t7, t8, t9]) (st1 := st ++ bx b1 :: []) (by simp [h2])]
  by_cases hz : (k : Int) % 3 = 0
  · obtain ⟨c, b2, hb2, hd, hl, h3⟩ := e_drawn (pre := st) (post := []) h0 hb1
    obtain ⟨N, hN1, hend, hN⟩ := bf_end hd.ok
    have hm := hd.many
    have hent := hd.ent
    obtain ⟨h4, hcl⟩ := e_law_code_rows (st := st ++ bx b2 :: []) hd.ok (cl1 hc b2) hN hend (by omega) (by omega)
    have h5 := e_law_machine (st := st ++ bx b2 :: []) hd.ok hN hend (by omega) (by omega) (env := some (.scr (ns.map D.int)) :: some (.int k) :: [some (.ref st.length), some (mD M), some (.ref (st ++ bx b2 :: []).length), some (.ref ((st ++ bx b2 :: []).length + 1)), t6, t7, t8, t9]) rfl rfl rfl
    have hmk := mM_mk hd hl hN1 hN hend
    generalize hst : L0 (st ++ bx b2 :: []) (bf c N) (rfs (st ++ bx b2 :: []).length N) (fns c N N) = stz at h4 hcl h5
    generalize hn : (st ++ bx b2 :: []).length = nz at h4 h5 hst
    have hif : sIf (iTest (iBin gEqE (iBin gMod (iVar 1) (iC (.int 3))) (iC (.int 0)))) (sSeq (sAsg (.tp [.nm 4, .nm 5]) (iCall 1 G_law_code_rows [] (iCons (iCall 1 G_law_drawn_code [] (iCons (iVar 2) (iNil))) (iNil)))) (sSet 3 (iCallB gTuple (iCons (iComp fRol 16777215 (iWalk (iVar 5)) (.nm 7) (iYes) (iCallB gTuple (iCons (iComp fRol 16777215 (iWalk (iVar 7)) (.tp [.nm 8, .nm 9]) (iYes) (iTup (iCons (iMethR gIndex (iVar 4) (iCons (iVar 8) (iNil))) (iCons (iVar 9) (iNil)))) [8, 9]) (iNil))) [7]) (iNil))))) (sNil) (some (.scr (ns.map D.int)) :: some (.int k) :: [some (.ref st.length), some (mD M), t4, t5, t6, t7, t8, t9]) (st ++ bx b1 :: []) = .ok (.nx (some (.scr (ns.map D.int)) :: some (.int k) :: [some (.ref st.length), some (mD (mM c N)), some (.ref nz), some (.ref (nz + 1)), t6, t7, t8, t9])) stz := by
      rw [if_t (st1 := st ++ bx b1 :: []) (by simp [hz])]
      rw [seq_nx (e1 := some (.scr (ns.map D.int)) :: some (.int k) :: [some (.ref st.length), some (mD M), some (.ref nz), some (.ref (nz + 1)), t6, t7, t8, t9]) (st1 := stz) (by simp [h3, h4])]
      rw [ev_sSet, ev_callB, ev_cons, h5]
      simp [mM_eq hN]
    rw [seq_nx hif]
    exact ⟨_, stz, rfl, hcl, l_test hmk hcl _ _ _ _ _ _⟩
  · have hif : sIf (iTest (iBin gEqE (iBin gMod (iVar 1) (iC (.int 3))) (iC (.int 0)))) (sSeq (sAsg (.tp [.nm 4, .nm 5]) (iCall 1 G_law_code_rows [] (iCons (iCall 1 G_law_drawn_code [] (iCons (iVar 2) (iNil))) (iNil)))) (sSet 3 (iCallB gTuple (iCons (iComp fRol 16777215 (iWalk (iVar 5)) (.nm 7) (iYes) (iCallB gTuple (iCons (iComp fRol 16777215 (iWalk (iVar 7)) (.tp [.nm 8, .nm 9]) (iYes) (iTup (iCons (iMethR gIndex (iVar 4) (iCons (iVar 8) (iNil))) (iCons (iVar 9) (iNil)))) [8, 9]) (iNil))) [7]) (iNil))))) (sNil) (some (.scr (ns.map D.int)) :: some (.int k) :: [some (.ref st.length), some (mD M), t4, t5, t6, t7, t8, t9]) (st ++ bx b1 :: []) = .ok (.nx (some (.scr (ns.map D.int)) :: some (.int k) :: [some (.ref st.length), some (mD M), t4, t5, t6, t7, t8, t9])) (st ++ bx b1 :: []) := by
      rw [if_f (st1 := st ++ bx b1 :: []) (by simp [hz])]
      simp
    rw [seq_nx hif]
    exact ⟨_, st ++ bx b1 :: [], rfl, h0 b1, l_test hM (h0 b1) _ _ _ _ _ _⟩
theorem e_law (ns : List Int) (hns : ns.length < 1000) : G_law [.scr (ns.map D.int)] [] = .ok (.bl true) [] := by
  have hc0 : Closed [] := fun c hc => by cases hc
  obtain ⟨m, hm, hr⟩ : ∃ m : Nat, m < 1000 ∧ ∀ (env : Ev) (st : Sto), iCons (iCallB gMax (iCons (iC (.int 3)) (iCons (iCallB gMin (iCons (iCallB gLen (iCons (iVar 0) (iNil))) (iCons (iC (.int 8)) (iNil)))) (iNil)))) (iNil) (some (.scr (ns.map D.int)) :: env) st = .ok [.int (m : Nat)] st := by
    by_cases h5 : 8 < ns.length
    · exact ⟨8, by decide, fun env st => by
        have h5' : (8 : Int) < ns.length := by omega
        simp [h5']⟩
    · by_cases h3 : 3 < ns.length
      · exact ⟨ns.length, hns, fun env st => by
          have h5' : ¬ (8 : Int) < ns.length := by omega
          have h3' : (3 : Int) < ns.length := by omega
          simp [h5', h3']⟩
      · exact ⟨3, by decide, fun env st => by
          have h5' : ¬ (8 : Int) < ns.length := by omega
          have h3' : ¬ (3 : Int) < ns.length := by omega
          simp [h5', h3']⟩
  obtain ⟨e', st', h1, hc', k', ev, hev, rfl⟩ := for_inv0 (wk := wkRange 0 m) (p := .nm 1) (S := L_law_1) (items := rangeD 0 m) (fun i env s => Closed s ∧ ∃ (t2 : Option D) (ev : Ev), ev.length = 8 ∧ env = some (.scr (ns.map D.int)) :: t2 :: ev)
    (fun i env s _ => wkRange_at _ _ _ _)
    (fun i d env s hd h => by
      obtain ⟨hc, t2, ev, hev, rfl⟩ := h
      obtain ⟨hi, rfl⟩ := rangeD_get hd
      rw [Int.zero_add]
      match ev, hev with
      | [t2, t3, t4, t5, t6, t7, t8, t9], _ =>
        obtain ⟨ev, st', h1, h2, h3⟩ := turn hc ns hns (k := i) (by omega) t2 t3 t4 t5 t6 t7 t8 t9
        exact ⟨_, put_nm _ _, _, _, .inl h3, h2, _, ev, h1, rfl⟩)
    (n := 16777215) (env := some (.scr (ns.map D.int)) :: none :: List.replicate 8 none) (st := []) (by simp; omega) ⟨hc0, none, List.replicate 8 none, rfl, rfl⟩
  have hB : B_law (startE N_law [.scr (ns.map D.int)]) [] = .ok (.rt (.bl true)) st' := by
    show B_law (some (.scr (ns.map D.int)) :: none :: List.replicate 8 none) [] = _
    unfold B_law
    rw [seq_nx ((for_eq (walkC_eq (hr _ _) (fRange1_nat (by omega)))).trans h1)]
    simp
  show run N_law B_law _ _ = _
  unfold run
  rw [hB]
  show trim [] (.bl true) st' = _
  unfold trim
  rw [if_pos ⟨Nat.zero_le _, by simp, fun c hc => by simp at hc⟩]
  simp
end F33
end QI

namespace QI
open PySem PySem.Spec PyProof.Rows L2
theorem all_mk {l : PySem.W.OpenLaw} {w : World} {K : PySem.W.Frag} {h : Heap} {mg : Str → Option Value} {fa f_is_int f_is_number f_is_tuple f_is_numbers f_is_line f_check_code f_send_lines f_placed f_code_of_rules f_standing_lines f_code_of_machine f_law_box f_law_take f_law_pick f_law_same f_law_code_run f_law_code_rows f_law_drawn_code f_law_like_machine f_law_drawn_machine f_law : Addr} (X : K.In h) (G : h.Ns mainGlobals mg) (hfa : mg "law" = some (.ref fa))
    {od_is_int an_is_int od_is_number an_is_number od_is_tuple an_is_tuple od_is_numbers an_is_numbers od_is_line an_is_line od_check_code an_check_code od_send_lines an_send_lines od_placed an_placed od_code_of_rules an_code_of_rules od_standing_lines an_standing_lines od_code_of_machine an_code_of_machine od_law_box an_law_box od_law_take an_law_take od_law_pick an_law_pick od_law_same an_law_same od_law_code_run an_law_code_run od_law_code_rows an_law_code_rows od_law_drawn_code an_law_drawn_code od_law_like_machine an_law_like_machine od_law_drawn_machine an_law_drawn_machine od_law an_law : Option Addr} {sl_is_int sl_is_number sl_is_tuple sl_is_numbers sl_is_line sl_check_code sl_send_lines sl_placed sl_code_of_rules sl_standing_lines sl_code_of_machine sl_law_box sl_law_take sl_law_pick sl_law_same sl_law_code_run sl_law_code_rows sl_law_drawn_code sl_law_like_machine sl_law_drawn_machine sl_law : Array (Option Value)} {oc_is_int kV_is_int dc_is_int pm_is_int cd_is_int ct_is_int oc_is_number kV_is_number dc_is_number pm_is_number cd_is_number ct_is_number oc_is_tuple kV_is_tuple dc_is_tuple pm_is_tuple cd_is_tuple ct_is_tuple oc_is_numbers kV_is_numbers dc_is_numbers pm_is_numbers cd_is_numbers ct_is_numbers oc_is_line kV_is_line dc_is_line pm_is_line cd_is_line ct_is_line oc_check_code kV_check_code dc_check_code pm_check_code cd_check_code ct_check_code oc_send_lines kV_send_lines dc_send_lines pm_send_lines cd_send_lines ct_send_lines oc_placed kV_placed dc_placed pm_placed cd_placed ct_placed oc_code_of_rules kV_code_of_rules dc_code_of_rules pm_code_of_rules cd_code_of_rules ct_code_of_rules oc_standing_lines kV_standing_lines dc_standing_lines pm_standing_lines cd_standing_lines ct_standing_lines oc_code_of_machine kV_code_of_machine dc_code_of_machine pm_code_of_machine cd_code_of_machine ct_code_of_machine oc_law_box kV_law_box dc_law_box pm_law_box cd_law_box ct_law_box oc_law_take kV_law_take dc_law_take pm_law_take cd_law_take ct_law_take oc_law_pick kV_law_pick dc_law_pick pm_law_pick cd_law_pick ct_law_pick oc_law_same kV_law_same dc_law_same pm_law_same cd_law_same ct_law_same oc_law_code_run kV_law_code_run dc_law_code_run pm_law_code_run cd_law_code_run ct_law_code_run oc_law_code_rows kV_law_code_rows dc_law_code_rows pm_law_code_rows cd_law_code_rows ct_law_code_rows oc_law_drawn_code kV_law_drawn_code dc_law_drawn_code pm_law_drawn_code cd_law_drawn_code ct_law_drawn_code oc_law_like_machine kV_law_like_machine dc_law_like_machine pm_law_like_machine cd_law_like_machine ct_law_like_machine oc_law_drawn_machine kV_law_drawn_machine dc_law_drawn_machine pm_law_drawn_machine cd_law_drawn_machine ct_law_drawn_machine oc_law kV_law dc_law pm_law cd_law ct_law : Value} {tk_MOST_LINES tk_MOST_SENT tk_MOST_TAKEN tk_MOST_TIMES tk_MOST_TOP tk_MOST_TOPS : Tok}
    (a_is_int : PySem.W.nsIn K mainGlobals "is_int" = some (some (.ref f_is_int))) (l_is_int : K.lookup f_is_int = some ⟨oc_is_int, od_is_int, .func (PySem.W.fnOf "is_int" "is_int" (defArgs S_is_int) (defBody S_is_int) (defScope S_is_int) .none kV_is_int dc_is_int pm_is_int an_is_int cd_is_int ct_is_int), sl_is_int⟩) (c_is_int : PySem.W.codeIn K cd_is_int "is_int" = true) (k_is_int : PySem.W.keepIn K (.ref f_is_int) = true)
    {dT_is_number : Addr} {odT_is_number : Option Addr} {nT_is_number : Nat} {slT_is_number : Array (Option Value)} {tkT0_is_number : Tok}
    (a_is_number : PySem.W.nsIn K mainGlobals "is_number" = some (some (.ref f_is_number))) (l_is_number : K.lookup f_is_number = some ⟨oc_is_number, od_is_number, .func (PySem.W.fnOf "is_number" "is_number" (defArgs S_is_number) (defBody S_is_number) (defScope S_is_number) (.ref dT_is_number) kV_is_number dc_is_number pm_is_number an_is_number cd_is_number ct_is_number), sl_is_number⟩) (t_is_number : K.lookup dT_is_number = some ⟨.type "tuple", odT_is_number, .seq #[.int 0 tkT0_is_number, .none] nT_is_number, slT_is_number⟩) (c_is_number : PySem.W.codeIn K cd_is_number "is_number" = true) (k_is_number : PySem.W.keepIn K (.ref f_is_number) = true)
    {dT_is_tuple : Addr} {odT_is_tuple : Option Addr} {nT_is_tuple : Nat} {slT_is_tuple : Array (Option Value)}
    (a_is_tuple : PySem.W.nsIn K mainGlobals "is_tuple" = some (some (.ref f_is_tuple))) (l_is_tuple : K.lookup f_is_tuple = some ⟨oc_is_tuple, od_is_tuple, .func (PySem.W.fnOf "is_tuple" "is_tuple" (defArgs S_is_tuple) (defBody S_is_tuple) (defScope S_is_tuple) (.ref dT_is_tuple) kV_is_tuple dc_is_tuple pm_is_tuple an_is_tuple cd_is_tuple ct_is_tuple), sl_is_tuple⟩) (t_is_tuple : K.lookup dT_is_tuple = some ⟨.type "tuple", odT_is_tuple, .seq #[.none] nT_is_tuple, slT_is_tuple⟩) (c_is_tuple : PySem.W.codeIn K cd_is_tuple "is_tuple" = true) (k_is_tuple : PySem.W.keepIn K (.ref f_is_tuple) = true)
    {dT_is_numbers : Addr} {odT_is_numbers : Option Addr} {nT_is_numbers : Nat} {slT_is_numbers : Array (Option Value)} {tkT0_is_numbers : Tok}
    (a_is_numbers : PySem.W.nsIn K mainGlobals "is_numbers" = some (some (.ref f_is_numbers))) (l_is_numbers : K.lookup f_is_numbers = some ⟨oc_is_numbers, od_is_numbers, .func (PySem.W.fnOf "is_numbers" "is_numbers" (defArgs S_is_numbers) (defBody S_is_numbers) (defScope S_is_numbers) (.ref dT_is_numbers) kV_is_numbers dc_is_numbers pm_is_numbers an_is_numbers cd_is_numbers ct_is_numbers), sl_is_numbers⟩) (t_is_numbers : K.lookup dT_is_numbers = some ⟨.type "tuple", odT_is_numbers, .seq #[.int 0 tkT0_is_numbers, .none] nT_is_numbers, slT_is_numbers⟩) (c_is_numbers : PySem.W.codeIn K cd_is_numbers "is_numbers" = true) (k_is_numbers : PySem.W.keepIn K (.ref f_is_numbers) = true)
    (a_is_line : PySem.W.nsIn K mainGlobals "is_line" = some (some (.ref f_is_line))) (l_is_line : K.lookup f_is_line = some ⟨oc_is_line, od_is_line, .func (PySem.W.fnOf "is_line" "is_line" (defArgs S_is_line) (defBody S_is_line) (defScope S_is_line) .none kV_is_line dc_is_line pm_is_line an_is_line cd_is_line ct_is_line), sl_is_line⟩) (c_is_line : PySem.W.codeIn K cd_is_line "is_line" = true) (k_is_line : PySem.W.keepIn K (.ref f_is_line) = true)
    (a_check_code : PySem.W.nsIn K mainGlobals "check_code" = some (some (.ref f_check_code))) (l_check_code : K.lookup f_check_code = some ⟨oc_check_code, od_check_code, .func (PySem.W.fnOf "check_code" "check_code" (defArgs S_check_code) (defBody S_check_code) (defScope S_check_code) .none kV_check_code dc_check_code pm_check_code an_check_code cd_check_code ct_check_code), sl_check_code⟩) (c_check_code : PySem.W.codeIn K cd_check_code "check_code" = true) (k_check_code : PySem.W.keepIn K (.ref f_check_code) = true)
    (a_send_lines : PySem.W.nsIn K mainGlobals "send_lines" = some (some (.ref f_send_lines))) (l_send_lines : K.lookup f_send_lines = some ⟨oc_send_lines, od_send_lines, .func (PySem.W.fnOf "send_lines" "send_lines" (defArgs S_send_lines) (defBody S_send_lines) (defScope S_send_lines) .none kV_send_lines dc_send_lines pm_send_lines an_send_lines cd_send_lines ct_send_lines), sl_send_lines⟩) (c_send_lines : PySem.W.codeIn K cd_send_lines "send_lines" = true) (k_send_lines : PySem.W.keepIn K (.ref f_send_lines) = true)
    (a_placed : PySem.W.nsIn K mainGlobals "placed" = some (some (.ref f_placed))) (l_placed : K.lookup f_placed = some ⟨oc_placed, od_placed, .func (PySem.W.fnOf "placed" "placed" (defArgs S_placed) (defBody S_placed) (defScope S_placed) .none kV_placed dc_placed pm_placed an_placed cd_placed ct_placed), sl_placed⟩) (c_placed : PySem.W.codeIn K cd_placed "placed" = true) (k_placed : PySem.W.keepIn K (.ref f_placed) = true)
    (a_code_of_rules : PySem.W.nsIn K mainGlobals "code_of_rules" = some (some (.ref f_code_of_rules))) (l_code_of_rules : K.lookup f_code_of_rules = some ⟨oc_code_of_rules, od_code_of_rules, .func (PySem.W.fnOf "code_of_rules" "code_of_rules" (defArgs S_code_of_rules) (defBody S_code_of_rules) (defScope S_code_of_rules) .none kV_code_of_rules dc_code_of_rules pm_code_of_rules an_code_of_rules cd_code_of_rules ct_code_of_rules), sl_code_of_rules⟩) (c_code_of_rules : PySem.W.codeIn K cd_code_of_rules "code_of_rules" = true) (k_code_of_rules : PySem.W.keepIn K (.ref f_code_of_rules) = true)
    (a_standing_lines : PySem.W.nsIn K mainGlobals "standing_lines" = some (some (.ref f_standing_lines))) (l_standing_lines : K.lookup f_standing_lines = some ⟨oc_standing_lines, od_standing_lines, .func (PySem.W.fnOf "standing_lines" "standing_lines" (defArgs S_standing_lines) (defBody S_standing_lines) (defScope S_standing_lines) .none kV_standing_lines dc_standing_lines pm_standing_lines an_standing_lines cd_standing_lines ct_standing_lines), sl_standing_lines⟩) (c_standing_lines : PySem.W.codeIn K cd_standing_lines "standing_lines" = true) (k_standing_lines : PySem.W.keepIn K (.ref f_standing_lines) = true)
    (a_code_of_machine : PySem.W.nsIn K mainGlobals "code_of_machine" = some (some (.ref f_code_of_machine))) (l_code_of_machine : K.lookup f_code_of_machine = some ⟨oc_code_of_machine, od_code_of_machine, .func (PySem.W.fnOf "code_of_machine" "code_of_machine" (defArgs S_code_of_machine) (defBody S_code_of_machine) (defScope S_code_of_machine) .none kV_code_of_machine dc_code_of_machine pm_code_of_machine an_code_of_machine cd_code_of_machine ct_code_of_machine), sl_code_of_machine⟩) (c_code_of_machine : PySem.W.codeIn K cd_code_of_machine "code_of_machine" = true) (k_code_of_machine : PySem.W.keepIn K (.ref f_code_of_machine) = true)
    (a_law_box : PySem.W.nsIn K mainGlobals "_law_box" = some (some (.ref f_law_box))) (l_law_box : K.lookup f_law_box = some ⟨oc_law_box, od_law_box, .func (PySem.W.fnOf "_law_box" "_law_box" (defArgs S_law_box) (defBody S_law_box) (defScope S_law_box) .none kV_law_box dc_law_box pm_law_box an_law_box cd_law_box ct_law_box), sl_law_box⟩) (c_law_box : PySem.W.codeIn K cd_law_box "_law_box" = true) (k_law_box : PySem.W.keepIn K (.ref f_law_box) = true)
    (a_law_take : PySem.W.nsIn K mainGlobals "_law_take" = some (some (.ref f_law_take))) (l_law_take : K.lookup f_law_take = some ⟨oc_law_take, od_law_take, .func (PySem.W.fnOf "_law_take" "_law_take" (defArgs S_law_take) (defBody S_law_take) (defScope S_law_take) .none kV_law_take dc_law_take pm_law_take an_law_take cd_law_take ct_law_take), sl_law_take⟩) (c_law_take : PySem.W.codeIn K cd_law_take "_law_take" = true) (k_law_take : PySem.W.keepIn K (.ref f_law_take) = true)
    (a_law_pick : PySem.W.nsIn K mainGlobals "_law_pick" = some (some (.ref f_law_pick))) (l_law_pick : K.lookup f_law_pick = some ⟨oc_law_pick, od_law_pick, .func (PySem.W.fnOf "_law_pick" "_law_pick" (defArgs S_law_pick) (defBody S_law_pick) (defScope S_law_pick) .none kV_law_pick dc_law_pick pm_law_pick an_law_pick cd_law_pick ct_law_pick), sl_law_pick⟩) (c_law_pick : PySem.W.codeIn K cd_law_pick "_law_pick" = true) (k_law_pick : PySem.W.keepIn K (.ref f_law_pick) = true)
    (a_law_same : PySem.W.nsIn K mainGlobals "_law_same" = some (some (.ref f_law_same))) (l_law_same : K.lookup f_law_same = some ⟨oc_law_same, od_law_same, .func (PySem.W.fnOf "_law_same" "_law_same" (defArgs S_law_same) (defBody S_law_same) (defScope S_law_same) .none kV_law_same dc_law_same pm_law_same an_law_same cd_law_same ct_law_same), sl_law_same⟩) (c_law_same : PySem.W.codeIn K cd_law_same "_law_same" = true) (k_law_same : PySem.W.keepIn K (.ref f_law_same) = true)
    (a_law_code_run : PySem.W.nsIn K mainGlobals "_law_code_run" = some (some (.ref f_law_code_run))) (l_law_code_run : K.lookup f_law_code_run = some ⟨oc_law_code_run, od_law_code_run, .func (PySem.W.fnOf "_law_code_run" "_law_code_run" (defArgs S_law_code_run) (defBody S_law_code_run) (defScope S_law_code_run) .none kV_law_code_run dc_law_code_run pm_law_code_run an_law_code_run cd_law_code_run ct_law_code_run), sl_law_code_run⟩) (c_law_code_run : PySem.W.codeIn K cd_law_code_run "_law_code_run" = true) (k_law_code_run : PySem.W.keepIn K (.ref f_law_code_run) = true)
    (a_law_code_rows : PySem.W.nsIn K mainGlobals "_law_code_rows" = some (some (.ref f_law_code_rows))) (l_law_code_rows : K.lookup f_law_code_rows = some ⟨oc_law_code_rows, od_law_code_rows, .func (PySem.W.fnOf "_law_code_rows" "_law_code_rows" (defArgs S_law_code_rows) (defBody S_law_code_rows) (defScope S_law_code_rows) .none kV_law_code_rows dc_law_code_rows pm_law_code_rows an_law_code_rows cd_law_code_rows ct_law_code_rows), sl_law_code_rows⟩) (c_law_code_rows : PySem.W.codeIn K cd_law_code_rows "_law_code_rows" = true) (k_law_code_rows : PySem.W.keepIn K (.ref f_law_code_rows) = true)
    (a_law_drawn_code : PySem.W.nsIn K mainGlobals "_law_drawn_code" = some (some (.ref f_law_drawn_code))) (l_law_drawn_code : K.lookup f_law_drawn_code = some ⟨oc_law_drawn_code, od_law_drawn_code, .func (PySem.W.fnOf "_law_drawn_code" "_law_drawn_code" (defArgs S_law_drawn_code) (defBody S_law_drawn_code) (defScope S_law_drawn_code) .none kV_law_drawn_code dc_law_drawn_code pm_law_drawn_code an_law_drawn_code cd_law_drawn_code ct_law_drawn_code), sl_law_drawn_code⟩) (c_law_drawn_code : PySem.W.codeIn K cd_law_drawn_code "_law_drawn_code" = true) (k_law_drawn_code : PySem.W.keepIn K (.ref f_law_drawn_code) = true)
    (a_law_like_machine : PySem.W.nsIn K mainGlobals "_law_like_machine" = some (some (.ref f_law_like_machine))) (l_law_like_machine : K.lookup f_law_like_machine = some ⟨oc_law_like_machine, od_law_like_machine, .func (PySem.W.fnOf "_law_like_machine" "_law_like_machine" (defArgs S_law_like_machine) (defBody S_law_like_machine) (defScope S_law_like_machine) .none kV_law_like_machine dc_law_like_machine pm_law_like_machine an_law_like_machine cd_law_like_machine ct_law_like_machine), sl_law_like_machine⟩) (c_law_like_machine : PySem.W.codeIn K cd_law_like_machine "_law_like_machine" = true) (k_law_like_machine : PySem.W.keepIn K (.ref f_law_like_machine) = true)
    (a_law_drawn_machine : PySem.W.nsIn K mainGlobals "_law_drawn_machine" = some (some (.ref f_law_drawn_machine))) (l_law_drawn_machine : K.lookup f_law_drawn_machine = some ⟨oc_law_drawn_machine, od_law_drawn_machine, .func (PySem.W.fnOf "_law_drawn_machine" "_law_drawn_machine" (defArgs S_law_drawn_machine) (defBody S_law_drawn_machine) (defScope S_law_drawn_machine) .none kV_law_drawn_machine dc_law_drawn_machine pm_law_drawn_machine an_law_drawn_machine cd_law_drawn_machine ct_law_drawn_machine), sl_law_drawn_machine⟩) (c_law_drawn_machine : PySem.W.codeIn K cd_law_drawn_machine "_law_drawn_machine" = true) (k_law_drawn_machine : PySem.W.keepIn K (.ref f_law_drawn_machine) = true)
    (a_law : PySem.W.nsIn K mainGlobals "law" = some (some (.ref f_law))) (l_law : K.lookup f_law = some ⟨oc_law, od_law, .func (PySem.W.fnOf "law" "law" (defArgs S_law) (defBody S_law) (defScope S_law) .none kV_law dc_law pm_law an_law cd_law ct_law), sl_law⟩) (c_law : PySem.W.codeIn K cd_law "law" = true) (k_law : PySem.W.keepIn K (.ref f_law) = true)
    (z_abs : PySem.W.nsIn K mainGlobals "abs" = some none)
    (z_all : PySem.W.nsIn K mainGlobals "all" = some none)
    (z_bool : PySem.W.nsIn K mainGlobals "bool" = some none)
    (z_enumerate : PySem.W.nsIn K mainGlobals "enumerate" = some none)
    (z_int : PySem.W.nsIn K mainGlobals "int" = some none)
    (z_isinstance : PySem.W.nsIn K mainGlobals "isinstance" = some none)
    (z_len : PySem.W.nsIn K mainGlobals "len" = some none)
    (z_list : PySem.W.nsIn K mainGlobals "list" = some none)
    (z_max : PySem.W.nsIn K mainGlobals "max" = some none)
    (z_min : PySem.W.nsIn K mainGlobals "min" = some none)
    (z_range : PySem.W.nsIn K mainGlobals "range" = some none)
    (z_str : PySem.W.nsIn K mainGlobals "str" = some none)
    (z_tuple : PySem.W.nsIn K mainGlobals "tuple" = some none)
    (z_zip : PySem.W.nsIn K mainGlobals "zip" = some none)
    {q_ARGUMENTS : Addr} {es_ARGUMENTS : Array DictEntry} {nC_ARGUMENTS : Nat} {tk0_ARGUMENTS tk1_ARGUMENTS tk2_ARGUMENTS tk3_ARGUMENTS tk4_ARGUMENTS tk5_ARGUMENTS : Tok} (v_ARGUMENTS : PySem.W.nsIn K mainGlobals "ARGUMENTS" = some (some (.ref q_ARGUMENTS))) (l_ARGUMENTS : K.lookup q_ARGUMENTS = some ⟨.type "dict", none, .dict es_ARGUMENTS nC_ARGUMENTS, #[]⟩) (h_ARGUMENTS : PySem.W.KeysLit w.params es_ARGUMENTS.toList)
    (e0_ARGUMENTS : PySem.W.nsIn K q_ARGUMENTS "raise" = some (some (.int 2 tk0_ARGUMENTS)))
    (e1_ARGUMENTS : PySem.W.nsIn K q_ARGUMENTS "clear" = some (some (.int 1 tk1_ARGUMENTS)))
    (e2_ARGUMENTS : PySem.W.nsIn K q_ARGUMENTS "send" = some (some (.int 2 tk2_ARGUMENTS)))
    (e3_ARGUMENTS : PySem.W.nsIn K q_ARGUMENTS "under" = some (some (.int 3 tk3_ARGUMENTS)))
    (e4_ARGUMENTS : PySem.W.nsIn K q_ARGUMENTS "go" = some (some (.int 1 tk4_ARGUMENTS)))
    (e5_ARGUMENTS : PySem.W.nsIn K q_ARGUMENTS "stop" = some (some (.int 0 tk5_ARGUMENTS)))
    (v_MOST_LINES : PySem.W.nsIn K mainGlobals "MOST_LINES" = some (some (Value.int 4000 tk_MOST_LINES)))
    (v_MOST_SENT : PySem.W.nsIn K mainGlobals "MOST_SENT" = some (some (Value.int 4 tk_MOST_SENT)))
    (v_MOST_TAKEN : PySem.W.nsIn K mainGlobals "MOST_TAKEN" = some (some (Value.int 3 tk_MOST_TAKEN)))
    (v_MOST_TIMES : PySem.W.nsIn K mainGlobals "MOST_TIMES" = some (some (Value.int 999 tk_MOST_TIMES)))
    (v_MOST_TOP : PySem.W.nsIn K mainGlobals "MOST_TOP" = some (some (Value.int 71 tk_MOST_TOP)))
    (v_MOST_TOPS : PySem.W.nsIn K mainGlobals "MOST_TOPS" = some (some (Value.int 4 tk_MOST_TOPS)))
    {q_WORDS : Addr} {odC_WORDS : Option Addr} {nC_WORDS : Nat} {slC_WORDS : Array (Option Value)} {tk0_WORDS tk1_WORDS tk2_WORDS tk3_WORDS tk4_WORDS tk5_WORDS : Tok} (v_WORDS : PySem.W.nsIn K mainGlobals "WORDS" = some (some (.ref q_WORDS))) (l_WORDS : K.lookup q_WORDS = some ⟨.type "tuple", odC_WORDS, .seq #[.str (Str.ofString "raise") tk0_WORDS, .str (Str.ofString "clear") tk1_WORDS, .str (Str.ofString "send") tk2_WORDS, .str (Str.ofString "under") tk3_WORDS, .str (Str.ofString "go") tk4_WORDS, .str (Str.ofString "stop") tk5_WORDS] nC_WORDS, slC_WORDS⟩)
    (hG : ∀ ns : List Int, ns.length ≤ 63 → G_law [.scr (ns.map D.int)] [] = .ok (.bl true) []) :
    ∃ fd : FuncData, (∀ (s : Shared) (v : Value), BindsTo s fd ⟨[v], []⟩ [("script", v)]) ∧ ∀ base : Heap, K.In base → base.Ns mainGlobals mg → FnOk l.prog w K mg base CX0 10 fa fd ["script"] (spL 63 K) := by
  have e := hfa.symm.trans (PySem.W.mg_of X G a_law)
  cases e
  refine ⟨PySem.W.fnOf "law" "law" (defArgs S_law) (defBody S_law) (defScope S_law) .none kV_law dc_law pm_law an_law cd_law ct_law, fun s v => .of_eq rfl, fun base _ _ => ?_⟩
  have h_is_int : Kn (fun _ => fa) l.prog w K mg base "is_int" S_is_int P_is_int 1 G_is_int f_is_int _ := K_is_int (PySem.W.mg_none_of X G z_bool) (PySem.W.mg_none_of X G z_int) (PySem.W.mg_none_of X G z_isinstance) (PySem.W.mg_of X G a_is_int) (fun_mk (st := S_is_int) l_is_int c_is_int k_is_int)
  have h_is_number : KnD (fun _ => fa) l.prog w K mg base "is_number" S_is_number P_is_number 2 G_is_number [.int 0, .non] f_is_number _ := K_is_number h_is_int (PySem.W.mg_of X G a_is_number) ⟨⟨_, _, _, _, _, _, _, _, _, _, rfl, l_is_number, c_is_number, .inr ⟨by decide, _, _, [_, _], _, rfl, t_is_number, rfl, .cons ⟨_, rfl⟩ (.cons rfl (.nil))⟩, .inl rfl⟩, k_is_number⟩
  have h_is_tuple : KnD (fun _ => fa) l.prog w K mg base "is_tuple" S_is_tuple P_is_tuple 1 G_is_tuple [.non] f_is_tuple _ := K_is_tuple (PySem.W.mg_none_of X G z_isinstance) (PySem.W.mg_none_of X G z_len) (PySem.W.mg_none_of X G z_tuple) (PySem.W.mg_of X G a_is_tuple) ⟨⟨_, _, _, _, _, _, _, _, _, _, rfl, l_is_tuple, c_is_tuple, .inr ⟨by decide, _, _, [_], _, rfl, t_is_tuple, rfl, .cons rfl (.nil)⟩, .inl rfl⟩, k_is_tuple⟩
  have h_is_numbers : KnD (fun _ => fa) l.prog w K mg base "is_numbers" S_is_numbers P_is_numbers 3 G_is_numbers [.int 0, .non] f_is_numbers _ := K_is_numbers (PySem.W.mg_none_of X G z_len) h_is_tuple h_is_number (PySem.W.mg_of X G a_is_numbers) ⟨⟨_, _, _, _, _, _, _, _, _, _, rfl, l_is_numbers, c_is_numbers, .inr ⟨by decide, _, _, [_, _], _, rfl, t_is_numbers, rfl, .cons ⟨_, rfl⟩ (.cons rfl (.nil))⟩, .inl rfl⟩, k_is_numbers⟩
  have h_is_line : Kn (fun _ => fa) l.prog w K mg base "is_line" S_is_line P_is_line 3 G_is_line f_is_line _ := K_is_line (PySem.W.mg_none_of X G z_all) (PySem.W.mg_none_of X G z_isinstance) (PySem.W.mg_none_of X G z_len) (PySem.W.mg_none_of X G z_str) (PySem.W.mg_none_of X G z_tuple) ⟨PySem.W.mg_of X G v_ARGUMENTS, fun kv hkv => by simp only [List.mem_cons, List.not_mem_nil, or_false] at hkv; rcases hkv with rfl | rfl | rfl | rfl | rfl | rfl; exact ⟨_, _, _, l_ARGUMENTS, h_ARGUMENTS, e0_ARGUMENTS, ⟨_, rfl⟩⟩; exact ⟨_, _, _, l_ARGUMENTS, h_ARGUMENTS, e1_ARGUMENTS, ⟨_, rfl⟩⟩; exact ⟨_, _, _, l_ARGUMENTS, h_ARGUMENTS, e2_ARGUMENTS, ⟨_, rfl⟩⟩; exact ⟨_, _, _, l_ARGUMENTS, h_ARGUMENTS, e3_ARGUMENTS, ⟨_, rfl⟩⟩; exact ⟨_, _, _, l_ARGUMENTS, h_ARGUMENTS, e4_ARGUMENTS, ⟨_, rfl⟩⟩; exact ⟨_, _, _, l_ARGUMENTS, h_ARGUMENTS, e5_ARGUMENTS, ⟨_, rfl⟩⟩⟩ (PySem.W.mg_of X G v_MOST_TIMES) ⟨PySem.W.mg_of X G v_WORDS, ⟨_, _, _, l_WORDS, rfl, rfl, (show 6 ≤ sizeLine from by decide), .cons ⟨_, rfl⟩ (.cons ⟨_, rfl⟩ (.cons ⟨_, rfl⟩ (.cons ⟨_, rfl⟩ (.cons ⟨_, rfl⟩ (.cons ⟨_, rfl⟩ (.nil))))))⟩⟩ h_is_number (PySem.W.mg_of X G a_is_line) (fun_mk (st := S_is_line) l_is_line c_is_line k_is_line)
  have h_check_code : Kn (fun _ => fa) l.prog w K mg base "check_code" S_check_code P_check_code 4 G_check_code f_check_code _ := K_check_code (PySem.W.mg_none_of X G z_enumerate) (PySem.W.mg_none_of X G z_len) (PySem.W.mg_of X G v_MOST_LINES) (PySem.W.mg_of X G v_MOST_SENT) (PySem.W.mg_of X G v_MOST_TAKEN) (PySem.W.mg_of X G v_MOST_TOP) (PySem.W.mg_of X G v_MOST_TOPS) h_is_tuple h_is_numbers h_is_number h_is_line (PySem.W.mg_of X G a_check_code) (fun_mk (st := S_check_code) l_check_code c_check_code k_check_code)
  have h_send_lines : Kn (fun _ => fa) l.prog w K mg base "send_lines" S_send_lines P_send_lines 1 G_send_lines f_send_lines _ := K_send_lines (PySem.W.mg_of X G v_MOST_TIMES) (PySem.W.mg_of X G a_send_lines) (fun_mk (st := S_send_lines) l_send_lines c_send_lines k_send_lines)
  have h_placed : Kn (fun _ => fa) l.prog w K mg base "placed" S_placed P_placed 1 G_placed f_placed _ := K_placed (PySem.W.mg_none_of X G z_enumerate) (PySem.W.mg_of X G a_placed) (fun_mk (st := S_placed) l_placed c_placed k_placed)
  have h_code_of_rules : Kn (fun _ => fa) l.prog w K mg base "code_of_rules" S_code_of_rules P_code_of_rules 2 G_code_of_rules f_code_of_rules _ := K_code_of_rules (PySem.W.mg_none_of X G z_len) (PySem.W.mg_none_of X G z_list) (PySem.W.mg_none_of X G z_tuple) h_placed (PySem.W.mg_of X G a_code_of_rules) (fun_mk (st := S_code_of_rules) l_code_of_rules c_code_of_rules k_code_of_rules)
  have h_standing_lines : Kn (fun _ => fa) l.prog w K mg base "standing_lines" S_standing_lines P_standing_lines 2 G_standing_lines f_standing_lines _ := K_standing_lines (PySem.W.mg_none_of X G z_enumerate) h_send_lines (PySem.W.mg_of X G a_standing_lines) (fun_mk (st := S_standing_lines) l_standing_lines c_standing_lines k_standing_lines)
  have h_code_of_machine : Kn (fun _ => fa) l.prog w K mg base "code_of_machine" S_code_of_machine P_code_of_machine 3 G_code_of_machine f_code_of_machine _ := K_code_of_machine (PySem.W.mg_none_of X G z_len) (PySem.W.mg_none_of X G z_list) (PySem.W.mg_none_of X G z_range) h_standing_lines h_code_of_rules (PySem.W.mg_of X G a_code_of_machine) (fun_mk (st := S_code_of_machine) l_code_of_machine c_code_of_machine k_code_of_machine)
  have h_law_box : Kn (fun _ => fa) l.prog w K mg base "_law_box" S_law_box P_law_box 1 G_law_box f_law_box _ := K_law_box (PySem.W.mg_none_of X G z_abs) (PySem.W.mg_none_of X G z_int) (PySem.W.mg_none_of X G z_len) (PySem.W.mg_of X G a_law_box) (fun_mk (st := S_law_box) l_law_box c_law_box k_law_box)
  have h_law_take : Kn (fun _ => fa) l.prog w K mg base "_law_take" S_law_take P_law_take 1 G_law_take f_law_take _ := K_law_take (PySem.W.mg_none_of X G z_int) (PySem.W.mg_of X G a_law_take) (fun_mk (st := S_law_take) l_law_take c_law_take k_law_take)
  have h_law_pick : Kn (fun _ => fa) l.prog w K mg base "_law_pick" S_law_pick P_law_pick 2 G_law_pick f_law_pick _ := K_law_pick (PySem.W.mg_none_of X G z_len) h_law_take (PySem.W.mg_of X G a_law_pick) (fun_mk (st := S_law_pick) l_law_pick c_law_pick k_law_pick)
  have h_law_same : Kn (fun _ => fa) l.prog w K mg base "_law_same" S_law_same P_law_same 8 G_law_same f_law_same _ := K_law_same (PySem.W.mg_none_of X G z_bool) (PySem.W.mg_none_of X G z_int) (PySem.W.mg_none_of X G z_isinstance) (PySem.W.mg_none_of X G z_len) (PySem.W.mg_none_of X G z_str) (PySem.W.mg_none_of X G z_tuple) (PySem.W.mg_none_of X G z_zip) (PySem.W.mg_of X G a_law_same) (fun_mk (st := S_law_same) l_law_same c_law_same k_law_same)
  have h_law_code_run : Kn (fun _ => fa) l.prog w K mg base "_law_code_run" S_law_code_run P_law_code_run 1 G_law_code_run f_law_code_run _ := K_law_code_run (PySem.W.mg_none_of X G z_int) (PySem.W.mg_none_of X G z_len) (PySem.W.mg_none_of X G z_list) (PySem.W.mg_none_of X G z_range) (PySem.W.mg_none_of X G z_tuple) (PySem.W.mg_of X G a_law_code_run) (fun_mk (st := S_law_code_run) l_law_code_run c_law_code_run k_law_code_run)
  have h_law_code_rows : Kn (fun _ => fa) l.prog w K mg base "_law_code_rows" S_law_code_rows P_law_code_rows 2 G_law_code_rows f_law_code_rows _ := K_law_code_rows (PySem.W.mg_none_of X G z_len) (PySem.W.mg_none_of X G z_range) h_law_code_run (PySem.W.mg_of X G a_law_code_rows) (fun_mk (st := S_law_code_rows) l_law_code_rows c_law_code_rows k_law_code_rows)
  have h_law_drawn_code : Kn (fun _ => fa) l.prog w K mg base "_law_drawn_code" S_law_drawn_code P_law_drawn_code 2 G_law_drawn_code f_law_drawn_code _ := K_law_drawn_code (PySem.W.mg_none_of X G z_len) (PySem.W.mg_none_of X G z_min) (PySem.W.mg_none_of X G z_range) (PySem.W.mg_none_of X G z_tuple) h_law_take (PySem.W.mg_of X G a_law_drawn_code) (fun_mk (st := S_law_drawn_code) l_law_drawn_code c_law_drawn_code k_law_drawn_code)
  have h_law_like_machine : Kn (fun _ => fa) l.prog w K mg base "_law_like_machine" S_law_like_machine P_law_like_machine 9 G_law_like_machine f_law_like_machine _ := K_law_like_machine (PySem.W.mg_none_of X G z_len) (PySem.W.mg_none_of X G z_range) h_law_code_run h_law_same (PySem.W.mg_of X G a_law_like_machine) (fun_mk (st := S_law_like_machine) l_law_like_machine c_law_like_machine k_law_like_machine)
  have h_law_drawn_machine : Kn (fun _ => fa) l.prog w K mg base "_law_drawn_machine" S_law_drawn_machine P_law_drawn_machine 3 G_law_drawn_machine f_law_drawn_machine _ := K_law_drawn_machine (PySem.W.mg_none_of X G z_int) (PySem.W.mg_none_of X G z_range) (PySem.W.mg_none_of X G z_tuple) h_law_take h_law_pick (PySem.W.mg_of X G a_law_drawn_machine) (fun_mk (st := S_law_drawn_machine) l_law_drawn_machine c_law_drawn_machine k_law_drawn_machine)
  have h_law : Kn (fun _ => fa) l.prog w K mg base "law" S_law P_law 10 G_law fa _ := K_law (PySem.W.mg_none_of X G z_len) (PySem.W.mg_none_of X G z_max) (PySem.W.mg_none_of X G z_min) (PySem.W.mg_none_of X G z_range) (PySem.W.mg_none_of X G z_tuple) h_law_box h_law_drawn_machine h_law_code_rows h_law_drawn_code h_code_of_machine h_check_code h_law_like_machine (PySem.W.mg_of X G a_law) (fun_mk (st := S_law) l_law c_law k_law)
  exact law_fn h_law hG
end QI
open PySem PySem.W PyProof.Rows
set_option maxHeartbeats 0 in
theorem PySem.Challenge.cw_whoevertakes_k35_machines_coded_holds : PySem.Challenge.rw_whoevertakes_k35_machines_coded.Holds := by
  w_on; o_law; k_head; (case hw => w_witness2)
  k_fill
  refine L2.walk_of (l := PySem.Challenge.rw_whoevertakes_k35_machines_coded) (n := 63) (k := 10) (x := "script") (CX := fun _ => L2.CX0) (sp := fun w => QI.spL 63 _) rfl (by decide) rfl ⟨rfl, by decide, by decide⟩ (fun w h Y => PySem.W.kIn_of Y) ?F (fun _ _ a ns hl hO hS => QI.law_sp hl hO hS) (fun _ _ _ _ _ h => h)
  case F =>
    intro w mg fa h KX G hmg
    refine' QI.all_mk KX G hmg ?a_is_int ?l_is_int ?c_is_int ?k_is_int ?a_is_number ?l_is_number ?t_is_number ?c_is_number ?k_is_number ?a_is_tuple ?l_is_tuple ?t_is_tuple ?c_is_tuple ?k_is_tuple ?a_is_numbers ?l_is_numbers ?t_is_numbers ?c_is_numbers ?k_is_numbers ?a_is_line ?l_is_line ?c_is_line ?k_is_line ?a_check_code ?l_check_code ?c_check_code ?k_check_code ?a_send_lines ?l_send_lines ?c_send_lines ?k_send_lines ?a_placed ?l_placed ?c_placed ?k_placed ?a_code_of_rules ?l_code_of_rules ?c_code_of_rules ?k_code_of_rules ?a_standing_lines ?l_standing_lines ?c_standing_lines ?k_standing_lines ?a_code_of_machine ?l_code_of_machine ?c_code_of_machine ?k_code_of_machine ?a_law_box ?l_law_box ?c_law_box ?k_law_box ?a_law_take ?l_law_take ?c_law_take ?k_law_take ?a_law_pick ?l_law_pick ?c_law_pick ?k_law_pick ?a_law_same ?l_law_same ?c_law_same ?k_law_same ?a_law_code_run ?l_law_code_run ?c_law_code_run ?k_law_code_run ?a_law_code_rows ?l_law_code_rows ?c_law_code_rows ?k_law_code_rows ?a_law_drawn_code ?l_law_drawn_code ?c_law_drawn_code ?k_law_drawn_code ?a_law_like_machine ?l_law_like_machine ?c_law_like_machine ?k_law_like_machine ?a_law_drawn_machine ?l_law_drawn_machine ?c_law_drawn_machine ?k_law_drawn_machine ?a_law ?l_law ?c_law ?k_law ?z_abs ?z_all ?z_bool ?z_enumerate ?z_int ?z_isinstance ?z_len ?z_list ?z_max ?z_min ?z_range ?z_str ?z_tuple ?z_zip ?v_ARGUMENTS ?l_ARGUMENTS ?h_ARGUMENTS ?e0_ARGUMENTS ?e1_ARGUMENTS ?e2_ARGUMENTS ?e3_ARGUMENTS ?e4_ARGUMENTS ?e5_ARGUMENTS ?v_MOST_LINES ?v_MOST_SENT ?v_MOST_TAKEN ?v_MOST_TIMES ?v_MOST_TOP ?v_MOST_TOPS ?v_WORDS ?l_WORDS (fun ns h => QI.F33.e_law ns (by omega))
    (case a_is_int => k_is); (case l_is_int => k_is); (case c_is_int => k_is); (case k_is_int => k_is); (case a_is_number => k_is); (case l_is_number => k_is); (case t_is_number => k_is); (case c_is_number => k_is); (case k_is_number => k_is); (case a_is_tuple => k_is); (case l_is_tuple => k_is); (case t_is_tuple => k_is); (case c_is_tuple => k_is); (case k_is_tuple => k_is); (case a_is_numbers => k_is); (case l_is_numbers => k_is); (case t_is_numbers => k_is); (case c_is_numbers => k_is); (case k_is_numbers => k_is); (case a_is_line => k_is); (case l_is_line => k_is); (case c_is_line => k_is); (case k_is_line => k_is); (case a_check_code => k_is); (case l_check_code => k_is); (case c_check_code => k_is); (case k_check_code => k_is); (case a_send_lines => k_is); (case l_send_lines => k_is); (case c_send_lines => k_is); (case k_send_lines => k_is); (case a_placed => k_is); (case l_placed => k_is); (case c_placed => k_is); (case k_placed => k_is); (case a_code_of_rules => k_is); (case l_code_of_rules => k_is); (case c_code_of_rules => k_is); (case k_code_of_rules => k_is); (case a_standing_lines => k_is); (case l_standing_lines => k_is); (case c_standing_lines => k_is); (case k_standing_lines => k_is); (case a_code_of_machine => k_is); (case l_code_of_machine => k_is); (case c_code_of_machine => k_is); (case k_code_of_machine => k_is); (case a_law_box => k_is); (case l_law_box => k_is); (case c_law_box => k_is); (case k_law_box => k_is); (case a_law_take => k_is); (case l_law_take => k_is); (case c_law_take => k_is); (case k_law_take => k_is); (case a_law_pick => k_is); (case l_law_pick => k_is); (case c_law_pick => k_is); (case k_law_pick => k_is); (case a_law_same => k_is); (case l_law_same => k_is); (case c_law_same => k_is); (case k_law_same => k_is); (case a_law_code_run => k_is); (case l_law_code_run => k_is); (case c_law_code_run => k_is); (case k_law_code_run => k_is); (case a_law_code_rows => k_is); (case l_law_code_rows => k_is); (case c_law_code_rows => k_is); (case k_law_code_rows => k_is); (case a_law_drawn_code => k_is); (case l_law_drawn_code => k_is); (case c_law_drawn_code => k_is); (case k_law_drawn_code => k_is); (case a_law_like_machine => k_is); (case l_law_like_machine => k_is); (case c_law_like_machine => k_is); (case k_law_like_machine => k_is); (case a_law_drawn_machine => k_is); (case l_law_drawn_machine => k_is); (case c_law_drawn_machine => k_is); (case k_law_drawn_machine => k_is); (case a_law => k_is); (case l_law => k_is); (case c_law => k_is); (case k_law => k_is); (case z_abs => k_is); (case z_all => k_is); (case z_bool => k_is); (case z_enumerate => k_is); (case z_int => k_is); (case z_isinstance => k_is); (case z_len => k_is); (case z_list => k_is); (case z_max => k_is); (case z_min => k_is); (case z_range => k_is); (case z_str => k_is); (case z_tuple => k_is); (case z_zip => k_is); (case v_ARGUMENTS => k_is); (case l_ARGUMENTS => k_is); (case h_ARGUMENTS => repeat' (first | exact trivial | refine ⟨⟨_, _, rfl, rfl⟩, ?_⟩)); (case e0_ARGUMENTS => k_is); (case e1_ARGUMENTS => k_is); (case e2_ARGUMENTS => k_is); (case e3_ARGUMENTS => k_is); (case e4_ARGUMENTS => k_is); (case e5_ARGUMENTS => k_is); (case v_MOST_LINES => k_is); (case v_MOST_SENT => k_is); (case v_MOST_TAKEN => k_is); (case v_MOST_TIMES => k_is); (case v_MOST_TOP => k_is); (case v_MOST_TOPS => k_is); (case v_WORDS => k_is); (case l_WORDS => k_is)
