import PyProof.Rows.All
import Wide.All
import OpenK.AllK
import Wide.FinOn
import HandS.ForMost
import HandS.Flow
import HandS.Wide
import HandS.WideMore
import HandS.TupLe
import HandS.TupAny
import HandS.TupMul
import HandS.Style
import HandS.Zip
import HandS.Deep
import HandS.Conv
import HandS.IsInst
import HandS.Defaults
import KE.GoesMore
import KE.GoesEnum
import HandS.Small
import HandS.DictTup
import KE.KDictDisplayH
import HandS.More
import HandS.ForSpec
import KE.KSuper
import KE.KExcSuper
import HandS.ExcIs
import KE.KExcIs
import KE.GoesZip
import PySem.Challenge.RW_whoevertakes_k32_what_is_a_code
set_option Elab.async false
set_option linter.all false
set_option maxRecDepth 100000
set_option maxHeartbeats 8000000
/-! a small language of values (trees, cells), its evaluation, and its tie to the layer's judgements -/
namespace QI
open PySem PySem.Spec PyProof.Rows L2

/-- a value: plain data (rol: a list that nobody writes; scr: one of the object's or the text's own); ref: the n-th cell of the store -/
inductive D where
  | non | bl (b : Bool) | int (i : Int) | str (x : Str) | tup (xs : List D) | rol (xs : List D) | scr (xs : List D) | ref (n : Nat)
inductive Cell where
  | lst (xs : List D) | ins (c : String) (fs : List (Str × D)) | dk (kvs : List (Key × D)) | dt (kvs : List (List Key × D))
abbrev Sto := List Cell
abbrev Ev := List (Option D)
structure Exn where
  c : String
  d : D
inductive Rs (α : Type) where
  | ok (a : α) (st : Sto) | exn (e : Exn) (st : Sto) | bad
def Rs.bind {α β : Type} (r : Rs α) (f : α → Sto → Rs β) : Rs β := match r with
  | .ok a st => f a st
  | .exn e st => .exn e st
  | .bad => .bad
@[simp] theorem Rs.bind_ok {α β : Type} (a : α) (st : Sto) (f : α → Sto → Rs β) : (Rs.ok a st).bind f = f a st := id rfl
@[simp] theorem Rs.bind_exn {α β : Type} (e : Exn) (st : Sto) (f : α → Sto → Rs β) : (Rs.exn e st).bind f = .exn e st := id rfl
@[simp] theorem Rs.bind_bad {α β : Type} (f : α → Sto → Rs β) : (Rs.bad : Rs α).bind f = .bad := id rfl
/-- no exception -/
def Rs.strict {α : Type} (r : Rs α) : Rs α := match r with
  | .ok a st => .ok a st
  | _ => .bad
@[simp] theorem Rs.strict_ok {α : Type} (a : α) (st : Sto) : (Rs.ok a st).strict = .ok a st := id rfl
@[simp] theorem Rs.strict_exn {α : Type} (e : Exn) (st : Sto) : (Rs.exn e st : Rs α).strict = .bad := id rfl
@[simp] theorem Rs.strict_bad {α : Type} : (Rs.bad : Rs α).strict = .bad := id rfl
abbrev IE := Ev → Sto → Rs D
abbrev IL := Ev → Sto → Rs (List D)
abbrev IT := Ev → Sto → Rs Bool
inductive Fl where
  | nx (e : Ev) | rt (d : D) | bk (e : Ev) | ct (e : Ev)
abbrev IS := Ev → Sto → Rs Fl

/-- where the cells stand; what is kept for a list in the making -/
structure Mp where
  cs : List Addr
  rs : List Addr
def Mp.add (m : Mp) (p : Addr) : Mp := ⟨m.cs ++ [p], m.rs⟩
def Mp.hold (m : Mp) (p : Addr) : Mp := ⟨m.cs, p :: m.rs⟩
def Mp.take (m : Mp) (n : Nat) : Mp := ⟨m.cs.take n, m.rs⟩

/-- a tuple that stands for good -/
def ST (_ : PySem.W.Frag) (H : Hp) (a : Addr) (xs : List V) : Prop := H a = some (.tup xs)
theorem ST.sq {K : PySem.W.Frag} {H : Hp} {a : Addr} {xs : List V} (h : ST K H a xs) : SqT K H a xs := .inl (.inl h)
/-- a list that nobody writes: no cell -/
def RL (m : Mp) (H : Hp) (a : Addr) (xs : List V) : Prop := a ∉ m.cs ∧ a ∉ m.rs ∧ H a = some (.lst xs)
theorem RL.sq {K : PySem.W.Frag} {m : Mp} {H : Hp} {a : Addr} {xs : List V} (h : RL m H a xs) : SqL K H a xs := .inl (.inl h.2.2)
/-- a list known to the object, or of the text -/
def RX (K : PySem.W.Frag) (H : Hp) (a : Addr) (xs : List V) : Prop :=
  (∃ o, H a = some (.frz o (.lst xs))) ∨ ∃ (o : Obj) (its : Array Value) (n : Nat), K.lookup a = some o ∧ o.cls = .type "list" ∧ o.dict = none ∧ o.data = .seq its n ∧ its.size ≤ sizeLine ∧ Vals xs its.toList
theorem RX.sq {K : PySem.W.Frag} {H : Hp} {a : Addr} {xs : List V} (h : RX K H a xs) : SqL K H a xs := by
  rcases h with ⟨o, h⟩ | h
  · exact .inl (.inr ⟨o, h⟩)
  · exact .inr h

mutual
inductive RV (K : PySem.W.Frag) (m : Mp) (H : Hp) : D → V → Prop
  | non : RV K m H .non .non
  | bl (b : Bool) : RV K m H (.bl b) (.bl b)
  | int (i : Int) : RV K m H (.int i) (.int i)
  | str (x : Str) : RV K m H (.str x) (.str x)
  | tup {a : Addr} {vs : List V} {ds : List D} : ST K H a vs → RVs K m H ds vs → RV K m H (.tup ds) (.ref a)
  | rol {a : Addr} {vs : List V} {ds : List D} : RL m H a vs → RVs K m H ds vs → RV K m H (.rol ds) (.ref a)
  | scr {a : Addr} {vs : List V} {ds : List D} : RX K H a vs → RVs K m H ds vs → RV K m H (.scr ds) (.ref a)
  | ref {n : Nat} {a : Addr} : m.cs[n]? = some a → RV K m H (.ref n) (.ref a)
inductive RVs (K : PySem.W.Frag) (m : Mp) (H : Hp) : List D → List V → Prop
  | nil : RVs K m H [] []
  | cons {d : D} {ds : List D} {v : V} {vs : List V} : RV K m H d v → RVs K m H ds vs → RVs K m H (d :: ds) (v :: vs)
end

/-- what a run may do: new cells behind the old ones; all that is tracked and no cell stays -/
structure Grow (m : Mp) (H : Hp) (m' : Mp) (H' : Hp) : Prop where
  pre : m.cs <+: m'.cs
  rsv : m'.rs = m.rs
  frame : ∀ a o, a ∉ m.cs → H a = some o → H' a = some o
  new : ∀ a ∈ m'.cs, a ∈ m.cs ∨ H a = none
  tup : ∀ a xs, H a = some (.tup xs) → H' a = some (.tup xs)
  frz : ∀ a o xs, H a = some (.frz o (.lst xs)) → H' a = some (.frz o (.lst xs))
theorem Grow.refl (m : Mp) (H : Hp) : Grow m H m H := ⟨List.prefix_refl _, rfl, fun _ _ _ h => h, fun _ h => .inl h, fun _ _ h => h, fun _ _ _ h => h⟩
theorem Grow.trans {m m1 m2 : Mp} {H H1 H2 : Hp} (a : Grow m H m1 H1) (b : Grow m1 H1 m2 H2) : Grow m H m2 H2 where
  pre := a.pre.trans b.pre
  rsv := b.rsv.trans a.rsv
  frame := fun p o hn e => b.frame p o (fun q => by
    rcases a.new p q with z | z
    · exact hn z
    · rw [e] at z; cases z) (a.frame p o hn e)
  new := fun p q => by
    rcases b.new p q with z | z
    · exact a.new p z
    · by_cases hp : p ∈ m.cs
      · exact .inl hp
      · right
        cases e : H p with
        | none => rfl
        | some o => rw [a.frame p o hp e] at z; cases z
  tup := fun p xs e => b.tup p xs (a.tup p xs e)
  frz := fun p o xs e => b.frz p o xs (a.frz p o xs e)

section
variable {K : PySem.W.Frag} {m m' : Mp} {H H' : Hp}
theorem ST.mono {a : Addr} {xs : List V} (g : Grow m H m' H') (h : ST K H a xs) : ST K H' a xs := g.tup _ _ h
theorem RL.mono {a : Addr} {xs : List V} (g : Grow m H m' H') (h : RL m H a xs) : RL m' H' a xs := by
  obtain ⟨h1, h2, h3⟩ := h
  refine ⟨fun z => ?_, by rw [g.rsv]; exact h2, g.frame _ _ h1 h3⟩
  rcases g.new a z with q | q
  · exact h1 q
  · rw [h3] at q; cases q
theorem RX.mono {a : Addr} {xs : List V} (g : Grow m H m' H') (h : RX K H a xs) : RX K H' a xs := by
  rcases h with ⟨o, h⟩ | h
  · exact .inl ⟨o, g.frz _ _ _ h⟩
  · exact .inr h
theorem pre_get {α : Type} {l l' : List α} (h : l <+: l') {n : Nat} {a : α} (e : l[n]? = some a) : l'[n]? = some a := by
  obtain ⟨t, rfl⟩ := h
  have hl : n < l.length := by
    by_cases q : n < l.length
    · exact q
    · rw [List.getElem?_eq_none (by omega)] at e; cases e
  rw [List.getElem?_append_left hl]; exact e
/-- a relation of values that goes from one state to another -/
structure Moves (K : PySem.W.Frag) (m : Mp) (H : Hp) (m' : Mp) (H' : Hp) : Prop where
  tup : ∀ a xs, ST K H a xs → ST K H' a xs
  rol : ∀ a xs, RL m H a xs → RL m' H' a xs
  scr : ∀ a xs, RX K H a xs → RX K H' a xs
  ref : ∀ (n : Nat) (a : Addr), m.cs[n]? = some a → m'.cs[n]? = some a
theorem Grow.moves (g : Grow m H m' H') : Moves K m H m' H' := ⟨fun _ _ h => h.mono g, fun _ _ h => h.mono g, fun _ _ h => h.mono g, fun _ _ h => pre_get g.pre h⟩
mutual
theorem RV.moves (g : Moves K m H m' H') : ∀ {d : D} {v : V}, RV K m H d v → RV K m' H' d v
  | .non, _, h => by cases h; exact .non
  | .bl _, _, h => by cases h; exact .bl _
  | .int _, _, h => by cases h; exact .int _
  | .str _, _, h => by cases h; exact .str _
  | .tup ds, _, h => by
    cases h with
    | tup h1 h2 => exact .tup (g.tup _ _ h1) (RVs.moves g h2)
  | .rol ds, _, h => by
    cases h with
    | rol h1 h2 => exact .rol (g.rol _ _ h1) (RVs.moves g h2)
  | .scr ds, _, h => by
    cases h with
    | scr h1 h2 => exact .scr (g.scr _ _ h1) (RVs.moves g h2)
  | .ref n, _, h => by
    cases h with
    | ref h1 => exact .ref (g.ref _ _ h1)
theorem RVs.moves (g : Moves K m H m' H') : ∀ {ds : List D} {vs : List V}, RVs K m H ds vs → RVs K m' H' ds vs
  | [], _, h => by cases h; exact .nil
  | d :: ds, _, h => by
    cases h with
    | cons h1 h2 => exact .cons (RV.moves g h1) (RVs.moves g h2)
end
theorem RV.mono (g : Grow m H m' H') {d : D} {v : V} (h : RV K m H d v) : RV K m' H' d v := h.moves g.moves
theorem RVs.mono (g : Grow m H m' H') {ds : List D} {vs : List V} (h : RVs K m H ds vs) : RVs K m' H' ds vs := h.moves g.moves
theorem RVs.length : ∀ {ds : List D} {vs : List V}, RVs K m H ds vs → ds.length = vs.length
  | [], _, h => by cases h; rfl
  | d :: ds, _, h => by
    cases h with
    | cons h1 h2 => simp [RVs.length h2]
theorem RVs.append : ∀ {ds es : List D} {vs ws : List V}, RVs K m H ds vs → RVs K m H es ws → RVs K m H (ds ++ es) (vs ++ ws)
  | [], _, _, _, h, h' => by cases h; exact h'
  | d :: ds, _, _, _, h, h' => by
    cases h with
    | cons h1 h2 => exact .cons h1 (RVs.append h2 h')
theorem RVs.get : ∀ {ds : List D} {vs : List V} {i : Nat} {d : D}, RVs K m H ds vs → ds[i]? = some d → ∃ v, vs[i]? = some v ∧ RV K m H d v
  | [], _, _, _, h, e => by simp at e
  | d :: ds, _, 0, _, h, e => by
    cases h with
    | cons h1 h2 =>
      simp at e; subst e
      exact ⟨_, by simp, h1⟩
  | d :: ds, _, i + 1, _, h, e => by
    cases h with
    | cons h1 h2 =>
      obtain ⟨v, e2, r⟩ := RVs.get (i := i) h2 (by simpa using e)
      exact ⟨v, by simpa using e2, r⟩
theorem RVs.get_of : ∀ {ds : List D} {vs : List V} {i : Nat} {v : V}, RVs K m H ds vs → vs[i]? = some v → ∃ d, ds[i]? = some d ∧ RV K m H d v
  | [], _, _, _, h, e => by cases h; simp at e
  | d :: ds, _, 0, _, h, e => by
    cases h with
    | cons h1 h2 =>
      simp at e; subst e
      exact ⟨_, by simp, h1⟩
  | d :: ds, _, i + 1, _, h, e => by
    cases h with
    | cons h1 h2 =>
      obtain ⟨v, e2, r⟩ := RVs.get_of (i := i) h2 (by simpa using e)
      exact ⟨v, by simpa using e2, r⟩
theorem RVs.take : ∀ {ds : List D} {vs : List V} (n : Nat), RVs K m H ds vs → RVs K m H (ds.take n) (vs.take n)
  | _, _, 0, _ => by simp; exact .nil
  | [], _, n + 1, h => by cases h; exact .nil
  | d :: ds, _, n + 1, h => by
    cases h with
    | cons h1 h2 => exact .cons h1 (RVs.take n h2)
theorem RVs.drop : ∀ {ds : List D} {vs : List V} (n : Nat), RVs K m H ds vs → RVs K m H (ds.drop n) (vs.drop n)
  | _, _, 0, h => h
  | [], _, n + 1, h => by cases h; exact .nil
  | d :: ds, _, n + 1, h => by
    cases h with
    | cons h1 h2 => exact RVs.drop n h2
theorem RVs.set : ∀ {ds : List D} {vs : List V} {d : D} {v : V} (n : Nat), RV K m H d v → RVs K m H ds vs → RVs K m H (ds.set n d) (vs.set n v)
  | [], _, _, _, n, _, h => by cases h; exact .nil
  | d :: ds, _, _, _, 0, r, h => by
    cases h with
    | cons h1 h2 => exact .cons r h2
  | d :: ds, _, _, _, n + 1, r, h => by
    cases h with
    | cons h1 h2 => exact .cons h1 (RVs.set n r h2)
theorem RVs.eraseIdx : ∀ {ds : List D} {vs : List V} (n : Nat), RVs K m H ds vs → RVs K m H (ds.eraseIdx n) (vs.eraseIdx n)
  | [], _, n, h => by cases h; exact .nil
  | d :: ds, _, 0, h => by
    cases h with
    | cons h1 h2 => exact h2
  | d :: ds, _, n + 1, h => by
    cases h with
    | cons h1 h2 => exact .cons h1 (RVs.eraseIdx n h2)
theorem RVs.dropLast {ds : List D} {vs : List V} (h : RVs K m H ds vs) : RVs K m H ds.dropLast vs.dropLast := by
  rw [List.dropLast_eq_take, List.dropLast_eq_take, ← h.length]; exact h.take _
theorem RVs.reverse {ds : List D} {vs : List V} (h : RVs K m H ds vs) : RVs K m H ds.reverse vs.reverse := by
  induction ds generalizing vs with
  | nil => cases h; exact .nil
  | cons d ds ih =>
    cases h with
    | cons h1 h2 =>
      rw [List.reverse_cons, List.reverse_cons]
      exact (ih h2).append (.cons h1 .nil)
theorem RVs.flat {ds : List D} {vs : List V} (h : RVs K m H ds vs) : ∀ k : Nat, RVs K m H (List.replicate k ds).flatten (List.replicate k vs).flatten
  | 0 => .nil
  | k + 1 => by
    rw [List.replicate_succ, List.replicate_succ, List.flatten_cons, List.flatten_cons]
    exact h.append (RVs.flat h k)
end

/-! ### the store -/
inductive RFs {κ : Type} (K : PySem.W.Frag) (m : Mp) (H : Hp) : List (κ × D) → List (κ × V) → Prop
  | nil : RFs K m H [] []
  | cons {f : κ} {d : D} {v : V} {ds : List (κ × D)} {vs : List (κ × V)} : RV K m H d v → RFs K m H ds vs → RFs K m H ((f, d) :: ds) ((f, v) :: vs)
theorem RFs.moves {κ : Type} {K : PySem.W.Frag} {m m' : Mp} {H H' : Hp} (g : Moves K m H m' H') {ds : List (κ × D)} {vs : List (κ × V)} (h : RFs K m H ds vs) : RFs K m' H' ds vs := by
  induction h with
  | nil => exact .nil
  | cons r _ ih => exact .cons (r.moves g) ih

/-- the world of a proof: the written part, where the text's own classes stand -/
structure G0 where
  K : PySem.W.Frag
  ct : String → Addr
  P : Program
  w : World
abbrev gx (ct : String → Addr) (X : Cx) : G0 := ⟨X.K, ct, X.prog, X.w⟩

def RC (g : G0) (m : Mp) (H : Hp) (a : Addr) : Cell → Prop
  | .lst ds => ∃ vs, RVs g.K m H ds vs ∧ H a = some (.lst vs)
  | .ins c fs => ∃ dx vs, RFs g.K m H fs vs ∧ H a = some (.ins (g.ct c) dx vs)
  | .dk kvs => ∃ vs, RFs g.K m H kvs vs ∧ H a = some (.dK vs)
  | .dt kvs => ∃ vs, RFs g.K m H kvs vs ∧ H a = some (.dT vs)
structure RS (g : G0) (m : Mp) (H : Hp) (st : Sto) : Prop where
  len : m.cs.length = st.length
  nd : m.cs.Nodup
  hs : ∀ a ∈ m.rs, a ∉ m.cs ∧ ∃ o, H a = some o
  rc : ∀ (n : Nat) (a : Addr) (c : Cell), m.cs[n]? = some a → st[n]? = some c → RC g m H a c
structure RE (K : PySem.W.Frag) (m : Mp) (H : Hp) (env : Ev) (σ : L2.St) : Prop where
  len : env.length = σ.length
  at_ : ∀ (i : Nat) (d : D), env[i]? = some (some d) → ∃ v, σ[i]? = some (some v) ∧ RV K m H d v
def wipeE (env : Ev) : List Nat → Ev
  | [] => env
  | v :: vs => (wipeE env vs).set v none
section
variable {g : G0} {m m' : Mp} {H H' : Hp} {env : Ev} {σ : L2.St} {st : Sto}
theorem RE.moves (gr : Moves g.K m H m' H') (h : RE g.K m H env σ) : RE g.K m' H' env σ := ⟨h.len, fun i d e => let ⟨v, e2, r⟩ := h.at_ i d e; ⟨v, e2, r.moves gr⟩⟩
theorem RE.mono (gr : Grow m H m' H') (h : RE g.K m H env σ) : RE g.K m' H' env σ := h.moves gr.moves
theorem RE.set {d : D} {v : V} (h : RE g.K m H env σ) (r : RV g.K m H d v) (i : Nat) : RE g.K m H (env.set i (some d)) (σ.set i (some v)) := by
  refine ⟨by simp [h.len], fun j e q => ?_⟩
  by_cases hj : i = j
  · subst hj
    by_cases hl : i < env.length
    · rw [List.getElem?_set_self hl] at q
      cases q
      exact ⟨v, List.getElem?_set_self (by rw [← h.len]; exact hl), r⟩
    · rw [List.getElem?_eq_none (by simpa using hl)] at q; cases q
  · rw [List.getElem?_set_ne hj] at q
    obtain ⟨w, e2, r2⟩ := h.at_ j e q
    exact ⟨w, by rw [List.getElem?_set_ne hj]; exact e2, r2⟩
theorem RE.setNone (h : RE g.K m H env σ) (i : Nat) : RE g.K m H (env.set i none) (σ.set i none) := by
  refine ⟨by simp [h.len], fun j e q => ?_⟩
  by_cases hj : i = j
  · subst hj
    by_cases hl : i < env.length
    · rw [List.getElem?_set_self hl] at q; cases q
    · rw [List.getElem?_eq_none (by simpa using hl)] at q; cases q
  · rw [List.getElem?_set_ne hj] at q
    obtain ⟨w, e2, r2⟩ := h.at_ j e q
    exact ⟨w, by rw [List.getElem?_set_ne hj]; exact e2, r2⟩
theorem RE.wipe (h : RE g.K m H env σ) : ∀ vs : List Nat, RE g.K m H (wipeE env vs) (wipe σ vs)
  | [] => h
  | v :: vs => (RE.wipe h vs).setNone v
theorem lt_of_get {α : Type} {l : List α} {n : Nat} {a : α} (e : l[n]? = some a) : n < l.length := by
  by_cases q : n < l.length
  · exact q
  · rw [List.getElem?_eq_none (by omega)] at e; cases e
theorem RS.cell (h : RS g m H st) {n : Nat} {c : Cell} (e : st[n]? = some c) : ∃ a, m.cs[n]? = some a ∧ RC g m H a c := by
  have hm : n < m.cs.length := by rw [h.len]; exact lt_of_get e
  exact ⟨m.cs[n], by simp [hm], h.rc n _ c (by simp [hm]) e⟩
theorem RC.mut {a : Addr} {c : Cell} (h : RC g m H a c) : ∃ o, H a = some o ∧ (∀ xs, o ≠ .tup xs) ∧ ∀ o' xs, o ≠ .frz o' (.lst xs) := by
  cases c with
  | lst ds => obtain ⟨vs, _, q⟩ := h; exact ⟨_, q, (fun _ z => by cases z), (fun _ _ z => by cases z)⟩
  | ins c fs => obtain ⟨dx, vs, _, q⟩ := h; exact ⟨_, q, (fun _ z => by cases z), (fun _ _ z => by cases z)⟩
  | dk kvs => obtain ⟨vs, _, q⟩ := h; exact ⟨_, q, (fun _ z => by cases z), (fun _ _ z => by cases z)⟩
  | dt kvs => obtain ⟨vs, _, q⟩ := h; exact ⟨_, q, (fun _ z => by cases z), (fun _ _ z => by cases z)⟩
theorem RS.has (h : RS g m H st) {a : Addr} (q : a ∈ m.cs) : ∃ o, H a = some o := by
  obtain ⟨n, hn⟩ := List.getElem?_of_mem q
  have hs : n < st.length := by rw [← h.len]; exact lt_of_get hn
  obtain ⟨o, e, _⟩ := (h.rc n a st[n] hn (by simp [hs])).mut
  exact ⟨o, e⟩
theorem RS.notin (h : RS g m H st) {a : Addr} (q : H a = none) : a ∉ m.cs := fun z => by
  obtain ⟨o, e⟩ := h.has z
  rw [q] at e; cases e
theorem RS.nothold (h : RS g m H st) {a : Addr} (q : H a = none) : a ∉ m.rs := fun z => by
  obtain ⟨_, o, e⟩ := h.hs a z
  rw [q] at e; cases e
theorem RC.moves {a : Addr} {c : Cell} (gr : Moves g.K m H m' H') (e : H' a = H a) (h : RC g m H a c) : RC g m' H' a c := by
  cases c with
  | lst ds => obtain ⟨vs, r, q⟩ := h; exact ⟨vs, r.moves gr, by rw [e]; exact q⟩
  | ins c fs => obtain ⟨dx, vs, r, q⟩ := h; exact ⟨dx, vs, r.moves gr, by rw [e]; exact q⟩
  | dk kvs => obtain ⟨vs, r, q⟩ := h; exact ⟨vs, r.moves gr, by rw [e]; exact q⟩
  | dt kvs => obtain ⟨vs, r, q⟩ := h; exact ⟨vs, r.moves gr, by rw [e]; exact q⟩
/-- a new object that is no cell (a tuple, a list) -/
theorem Grow.laid {p : Addr} {o : HO} (hp : H p = none) : Grow m H m (upd H p o) :=
  ⟨List.prefix_refl _, rfl, fun a u _ e => by rw [upd_ne (ne_of_none e hp)]; exact e, fun _ h => .inl h, fun a u e => by rw [upd_ne (ne_of_none e hp)]; exact e, fun a o u e => by rw [upd_ne (ne_of_none e hp)]; exact e⟩
theorem RS.laid (h : RS g m H st) {p : Addr} {o : HO} (hp : H p = none) : RS g m (upd H p o) st := by
  have gr : Grow m H m (upd H p o) := Grow.laid hp
  refine ⟨h.len, h.nd, fun a ha => ?_, fun n a c e1 e2 => ?_⟩
  · obtain ⟨h1, o, h2⟩ := h.hs a ha
    exact ⟨h1, o, gr.frame _ _ h1 h2⟩
  · have hne : a ≠ p := by
      obtain ⟨u, q⟩ := h.has (List.mem_of_getElem? e1)
      exact ne_of_none q hp
    exact (h.rc n a c e1 e2).moves gr.moves (upd_ne hne)
/-- a new cell -/
theorem Grow.adopt {p : Addr} (hp : H p = none) {o : HO} : Grow m H (m.add p) (upd H p o) :=
  ⟨List.prefix_append _ _, rfl, fun a u _ e => by rw [upd_ne (ne_of_none e hp)]; exact e, fun a h => by
    rcases List.mem_append.mp h with z | z
    · exact .inl z
    · simp at z; subst z; exact .inr hp, fun a u e => by rw [upd_ne (ne_of_none e hp)]; exact e, fun a o u e => by rw [upd_ne (ne_of_none e hp)]; exact e⟩
theorem RS.adopt (h : RS g m H st) {p : Addr} (hp : H p = none) {o : HO} {c : Cell} (r : RC g (m.add p) (upd H p o) p c) : RS g (m.add p) (upd H p o) (st ++ [c]) := by
  have gr : Grow m H (m.add p) (upd H p o) := Grow.adopt hp
  refine ⟨by simp [Mp.add, h.len], ?_, fun a ha => ?_, fun n a c' e1 e2 => ?_⟩
  · show (m.cs ++ [p]).Nodup
    rw [List.nodup_append]
    exact ⟨h.nd, by simp, fun a ha b hb => by simp at hb; subst hb; exact fun z => h.notin hp (z ▸ ha)⟩
  · obtain ⟨h1, o', h2⟩ := h.hs a ha
    refine ⟨fun z => ?_, o', gr.frame _ _ h1 h2⟩
    rcases List.mem_append.mp z with z | z
    · exact h1 z
    · simp at z; subst z; rw [hp] at h2; cases h2
  · have e1 : (m.cs ++ [p])[n]? = some a := e1
    by_cases hn : n < m.cs.length
    · rw [List.getElem?_append_left hn] at e1
      rw [List.getElem?_append_left (by rw [← h.len]; exact hn)] at e2
      have hne : a ≠ p := by
        obtain ⟨u, q⟩ := h.has (List.mem_of_getElem? e1)
        exact ne_of_none q hp
      exact (h.rc n a c' e1 e2).moves gr.moves (upd_ne hne)
    · have hn' : n = m.cs.length := by
        by_cases q : n = m.cs.length
        · exact q
        · rw [List.getElem?_eq_none (by simp; omega)] at e1; cases e1
      subst hn'
      rw [List.getElem?_append_right (Nat.le_refl _)] at e1
      rw [h.len, List.getElem?_append_right (Nat.le_refl _)] at e2
      simp at e1 e2
      subst e1; subst e2
      exact r
/-- the n-th cell is written -/
theorem Grow.cell {n : Nat} {a : Addr} {o : HO} (e : m.cs[n]? = some a) {u : HO} (hu : H a = some u) (h1 : ∀ xs, u ≠ .tup xs) (h2 : ∀ o' xs, u ≠ .frz o' (.lst xs)) : Grow m H m (upd H a o) :=
  ⟨List.prefix_refl _, rfl, fun b v hn q => by rw [upd_ne (fun z => hn (by rw [z]; exact List.mem_of_getElem? e))]; exact q, fun _ h => .inl h,
    fun b xs q => by rw [upd_ne (fun z => by rw [z, hu] at q; cases q; exact h1 _ rfl)]; exact q, fun b o' xs q => by rw [upd_ne (fun z => by rw [z, hu] at q; cases q; exact h2 _ _ rfl)]; exact q⟩
theorem RS.write (h : RS g m H st) {n : Nat} {a : Addr} {c c0 : Cell} {o : HO} (e : m.cs[n]? = some a) (e0 : st[n]? = some c0) (r : Grow m H m (upd H a o) → RC g m (upd H a o) a c) : RS g m (upd H a o) (st.set n c) ∧ Grow m H m (upd H a o) := by
  obtain ⟨u, hu, h1, h2⟩ := (h.rc n a c0 e e0).mut
  have gr : Grow m H m (upd H a o) := Grow.cell e hu h1 h2
  refine ⟨⟨by simp [h.len], h.nd, fun b hb => ?_, fun k b c' e1 e2 => ?_⟩, gr⟩
  · obtain ⟨h1, o', h2⟩ := h.hs b hb
    exact ⟨h1, o', gr.frame _ _ h1 h2⟩
  · by_cases hk : n = k
    · subst hk
      rw [e] at e1; cases e1
      rw [List.getElem?_set_self (lt_of_get e0)] at e2; cases e2
      exact r gr
    · rw [List.getElem?_set_ne hk] at e2
      have hne : b ≠ a := fun z => by
        subst z
        exact hk (nd_ix h.nd e e1)
      exact (h.rc k b c' e1 e2).moves gr.moves (upd_ne hne)
/-! a list in the making -/
theorem Moves.hold {K : PySem.W.Frag} {p : Addr} {o : HO} (hp : H p = none) : Moves K m H (m.hold p) (upd H p o) where
  tup := fun a xs h => h.mono (Grow.laid (m := m) hp)
  rol := fun a xs h => by
    obtain ⟨h1, h2, h3⟩ := h
    refine ⟨h1, fun z => ?_, by rw [upd_ne (ne_of_none h3 hp)]; exact h3⟩
    rcases List.mem_cons.mp z with z | z
    · subst z; rw [hp] at h3; cases h3
    · exact h2 z
  scr := fun a xs h => h.mono (Grow.laid (m := m) hp)
  ref := fun _ _ h => h
theorem RS.hold (h : RS g m H st) {p : Addr} {o : HO} (hp : H p = none) : RS g (m.hold p) (upd H p o) st := by
  refine ⟨h.len, h.nd, fun a ha => ?_, fun n a c e1 e2 => ?_⟩
  · rcases List.mem_cons.mp ha with z | z
    · subst z; exact ⟨h.notin hp, o, upd_same⟩
    · obtain ⟨h1, o', h2⟩ := h.hs a z
      exact ⟨h1, o', by rw [upd_ne (ne_of_none h2 hp)]; exact h2⟩
  · have hne : a ≠ p := by
      obtain ⟨u, q⟩ := h.has (List.mem_of_getElem? e1)
      exact ne_of_none q hp
    exact (h.rc n a c e1 e2).moves (Moves.hold hp) (upd_ne hne)
/-- the held list is written -/
theorem Moves.held {K : PySem.W.Frag} {p : Addr} {o : HO} {xs : List V} (hp : H p = some (.lst xs)) : Moves K (m.hold p) H (m.hold p) (upd H p o) where
  tup := fun a ys h => by
    have h : H a = some (.tup ys) := h
    show upd H p o a = _
    rw [upd_ne (fun z => by rw [z, hp] at h; cases h)]; exact h
  rol := fun a ys h => ⟨h.1, h.2.1, by rw [upd_ne (fun z => h.2.1 (by rw [z]; exact List.mem_cons_self))]; exact h.2.2⟩
  scr := fun a ys h => by
    rcases h with ⟨u, h⟩ | h
    · exact .inl ⟨u, by rw [upd_ne (fun z => by rw [z, hp] at h; cases h)]; exact h⟩
    · exact .inr h
  ref := fun _ _ h => h
theorem RS.held (h : RS g (m.hold p) H st) {o : HO} {xs : List V} (hp : H p = some (.lst xs)) : RS g (m.hold p) (upd H p o) st := by
  have hpc : p ∉ m.cs := (h.hs p List.mem_cons_self).1
  refine ⟨h.len, h.nd, fun a ha => ?_, fun n a c e1 e2 => ?_⟩
  · obtain ⟨h1, o', h2⟩ := h.hs a ha
    by_cases z : a = p
    · subst z; exact ⟨h1, o, upd_same⟩
    · exact ⟨h1, o', by rw [upd_ne z]; exact h2⟩
  · exact (h.rc n a c e1 e2).moves (Moves.held hp) (upd_ne (fun z => hpc (by rw [← z]; exact List.mem_of_getElem? e1)))
/-- it is finished: a list that nobody writes -/
theorem Moves.drop {K : PySem.W.Frag} {p : Addr} : Moves K (m.hold p) H m H := ⟨fun _ _ h => h, fun _ _ h => ⟨h.1, fun z => h.2.1 (List.mem_cons_of_mem _ z), h.2.2⟩, fun _ _ h => h, fun _ _ h => h⟩
theorem RS.drop {p : Addr} (h : RS g (m.hold p) H st) : RS g m H st := ⟨h.len, h.nd, fun a ha => h.hs a (List.mem_cons_of_mem _ ha), fun n a c e1 e2 => (h.rc n a c e1 e2).moves Moves.drop rfl⟩
/-- it is finished: a cell -/
theorem Moves.keep {K : PySem.W.Frag} {p : Addr} : Moves K (m.hold p) H (m.add p) H where
  tup := fun _ _ h => h
  rol := fun a xs h => ⟨fun z => by
    rcases List.mem_append.mp z with z | z
    · exact h.1 z
    · simp at z; exact h.2.1 (by rw [z]; exact List.mem_cons_self), fun z => h.2.1 (List.mem_cons_of_mem _ z), h.2.2⟩
  scr := fun _ _ h => h
  ref := fun n a h => by
    have h : m.cs[n]? = some a := h
    show (m.cs ++ [p])[n]? = some a
    rw [List.getElem?_append_left (lt_of_get h)]; exact h
theorem RS.keep {p : Addr} {c : Cell} (h : RS g (m.hold p) H st) (hr : p ∉ m.rs) (r : RC g (m.add p) H p c) : RS g (m.add p) H (st ++ [c]) := by
  have hpc : p ∉ m.cs := (h.hs p List.mem_cons_self).1
  have hlen : m.cs.length = st.length := h.len
  refine ⟨by simp [Mp.add, hlen], ?_, fun a ha => ?_, fun n a c' e1 e2 => ?_⟩
  · show (m.cs ++ [p]).Nodup
    rw [List.nodup_append]
    exact ⟨h.nd, by simp, fun a ha b hb => by simp at hb; subst hb; exact fun z => hpc (z ▸ ha)⟩
  · obtain ⟨h1, o', h2⟩ := h.hs a (List.mem_cons_of_mem _ ha)
    refine ⟨fun z => ?_, o', h2⟩
    rcases List.mem_append.mp z with z | z
    · exact h1 z
    · simp at z; subst z; exact hr ha
  · have e1 : (m.cs ++ [p])[n]? = some a := e1
    by_cases hn : n < m.cs.length
    · rw [List.getElem?_append_left hn] at e1
      rw [List.getElem?_append_left (by omega)] at e2
      exact (h.rc n a c' e1 e2).moves Moves.keep rfl
    · have hn' : n = m.cs.length := by
        by_cases q : n = m.cs.length
        · exact q
        · rw [List.getElem?_eq_none (by simp; omega)] at e1; cases e1
      subst hn'
      rw [List.getElem?_append_right (Nat.le_refl _)] at e1
      rw [hlen, List.getElem?_append_right (Nat.le_refl _)] at e2
      simp at e1 e2
      subst e1; subst e2
      exact r
theorem Grow.held {p : Addr} {m1 : Mp} {H1 : Hp} (h : Grow (m.hold p) H (m1.hold p) H1) : Grow m H m1 H1 := ⟨h.pre, (List.cons.inj h.rsv).2, h.frame, h.new, h.tup, h.frz⟩
end

/-! ### all refs below n -/
mutual
def D.lo (n : Nat) : D → Bool
  | .tup xs => D.loAll n xs
  | .rol xs => D.loAll n xs
  | .scr xs => D.loAll n xs
  | .ref k => decide (k < n)
  | _ => true
def D.loAll (n : Nat) : List D → Bool
  | [] => true
  | d :: ds => D.lo n d && D.loAll n ds
end
def Cell.lo (n : Nat) : Cell → Bool
  | .lst xs => D.loAll n xs
  | .ins _ fs => fs.all fun p => p.2.lo n
  | .dk kvs => kvs.all fun p => p.2.lo n
  | .dt kvs => kvs.all fun p => p.2.lo n
def ClosedAt (n : Nat) (st : Sto) : Prop := ∀ c ∈ st, c.lo n = true
abbrev Closed (st : Sto) : Prop := ClosedAt st.length st
section
variable {K : PySem.W.Frag} {m : Mp} {H : Hp} {n : Nat}
theorem get_take {α : Type} {l : List α} {k n : Nat} {a : α} (e : l[k]? = some a) (h : k < n) : (l.take n)[k]? = some a := by
  rw [List.getElem?_take_of_lt h]; exact e
theorem RL.take {a : Addr} {xs : List V} (h : RL m H a xs) : RL (m.take n) H a xs := ⟨fun z => h.1 (List.mem_of_mem_take z), h.2⟩
mutual
theorem RV.trunc : ∀ {d : D} {v : V}, RV K m H d v → d.lo n = true → RV K (m.take n) H d v
  | .non, _, h, _ => by cases h; exact .non
  | .bl _, _, h, _ => by cases h; exact .bl _
  | .int _, _, h, _ => by cases h; exact .int _
  | .str _, _, h, _ => by cases h; exact .str _
  | .tup ds, _, h, b => by
    cases h with
    | tup h1 h2 => exact .tup h1 (RVs.trunc h2 (by simpa [D.lo] using b))
  | .rol ds, _, h, b => by
    cases h with
    | rol h1 h2 => exact .rol h1.take (RVs.trunc h2 (by simpa [D.lo] using b))
  | .scr ds, _, h, b => by
    cases h with
    | scr h1 h2 => exact .scr h1 (RVs.trunc h2 (by simpa [D.lo] using b))
  | .ref k, _, h, b => by
    cases h with
    | ref h1 => exact .ref (get_take h1 (by simpa [D.lo] using b))
theorem RVs.trunc : ∀ {ds : List D} {vs : List V}, RVs K m H ds vs → D.loAll n ds = true → RVs K (m.take n) H ds vs
  | [], _, h, _ => by cases h; exact .nil
  | d :: ds, _, h, b => by
    cases h with
    | cons h1 h2 =>
      simp only [D.loAll, Bool.and_eq_true] at b
      exact .cons (RV.trunc h1 b.1) (RVs.trunc h2 b.2)
end
mutual
theorem RV.lo : ∀ {d : D} {v : V}, RV K m H d v → d.lo m.cs.length = true
  | .non, _, h => by simp [D.lo]
  | .bl _, _, h => by simp [D.lo]
  | .int _, _, h => by simp [D.lo]
  | .str _, _, h => by simp [D.lo]
  | .tup ds, _, h => by
    cases h with
    | tup h1 h2 => simp only [D.lo]; exact RVs.lo h2
  | .rol ds, _, h => by
    cases h with
    | rol h1 h2 => simp only [D.lo]; exact RVs.lo h2
  | .scr ds, _, h => by
    cases h with
    | scr h1 h2 => simp only [D.lo]; exact RVs.lo h2
  | .ref k, _, h => by
    cases h with
    | ref h1 =>
      simp only [D.lo, decide_eq_true_eq]
      exact lt_of_get h1
theorem RVs.lo : ∀ {ds : List D} {vs : List V}, RVs K m H ds vs → D.loAll m.cs.length ds = true
  | [], _, h => by simp [D.loAll]
  | d :: ds, _, h => by
    cases h with
    | cons h1 h2 => simp only [D.loAll, Bool.and_eq_true]; exact ⟨RV.lo h1, RVs.lo h2⟩
end
theorem RFs.trunc {κ : Type} {ds : List (κ × D)} {vs : List (κ × V)} (h : RFs K m H ds vs) (b : (ds.all fun p => p.2.lo n) = true) : RFs K (m.take n) H ds vs := by
  induction h with
  | nil => exact .nil
  | cons r _ ih =>
    simp only [List.all_cons, Bool.and_eq_true] at b
    exact .cons (r.trunc b.1) (ih b.2)
theorem RFs.lo {κ : Type} {ds : List (κ × D)} {vs : List (κ × V)} (h : RFs K m H ds vs) : (ds.all fun p => p.2.lo m.cs.length) = true := by
  induction h with
  | nil => rfl
  | cons r _ ih =>
    simp only [List.all_cons, Bool.and_eq_true]
    exact ⟨r.lo, ih⟩
theorem RC.trunc {g : G0} {a : Addr} {c : Cell} (h : RC g m H a c) (b : c.lo n = true) : RC g (m.take n) H a c := by
  cases c with
  | lst ds => obtain ⟨vs, r, q⟩ := h; exact ⟨vs, r.trunc b, q⟩
  | ins c fs => obtain ⟨dx, vs, r, q⟩ := h; exact ⟨dx, vs, r.trunc b, q⟩
  | dk kvs => obtain ⟨vs, r, q⟩ := h; exact ⟨vs, r.trunc b, q⟩
  | dt kvs => obtain ⟨vs, r, q⟩ := h; exact ⟨vs, r.trunc b, q⟩
theorem RC.lo {g : G0} {a : Addr} {c : Cell} (h : RC g m H a c) : c.lo m.cs.length = true := by
  cases c with
  | lst ds => obtain ⟨vs, r, q⟩ := h; exact r.lo
  | ins c fs => obtain ⟨dx, vs, r, q⟩ := h; exact r.lo
  | dk kvs => obtain ⟨vs, r, q⟩ := h; exact r.lo
  | dt kvs => obtain ⟨vs, r, q⟩ := h; exact r.lo
theorem RS.closed {g : G0} {st : Sto} (h : RS g m H st) : Closed st := fun c hc => by
  obtain ⟨n, hn⟩ := List.getElem?_of_mem hc
  obtain ⟨a, _, r⟩ := h.cell hn
  rw [← h.len]; exact r.lo
/-- fewer cells -/
theorem RS.trunc {g : G0} {st more : Sto} (h : RS g m H (st ++ more)) (c : Closed st) : RS g (m.take st.length) H st := by
  have hlen : m.cs.length = st.length + more.length := by rw [h.len, List.length_append]
  refine ⟨by show (m.cs.take _).length = _; rw [List.length_take]; omega, h.nd.sublist (List.take_sublist _ _), fun a ha => ?_, fun n a cl e1 e2 => ?_⟩
  · obtain ⟨h1, h2⟩ := h.hs a ha
    exact ⟨fun z => h1 (List.mem_of_mem_take z), h2⟩
  · have e1 : (m.cs.take st.length)[n]? = some a := e1
    have hn : n < st.length := lt_of_get e2
    rw [List.getElem?_take_of_lt hn] at e1
    exact (h.rc n a cl e1 (by rw [List.getElem?_append_left hn]; exact e2)).trunc (c cl (List.mem_of_getElem? e2))
/-- a run whose new cells are forgotten -/
theorem Grow.trunc {m' : Mp} {H' : Hp} (g : Grow m H m' H') (hn : m.cs.length ≤ n) : Grow m H (m'.take n) H' where
  pre := by
    obtain ⟨t, ht⟩ := g.pre
    show m.cs <+: m'.cs.take n
    rw [← ht, List.take_append, List.take_of_length_le hn]
    exact List.prefix_append _ _
  rsv := g.rsv
  frame := g.frame
  new := fun a h => g.new a (List.mem_of_mem_take h)
  tup := g.tup
  frz := g.frz
end
end QI

namespace QI
open PySem PySem.Spec PyProof.Rows L2

/-! ### ends -/
abbrev EK := Mp → Hp → Exn → Sto → Prop
def noE : EK := fun _ _ _ _ => False
def Fin {α : Type} (g : G0) (E : EK) (m : Mp) (H : Hp) (r : Rs α) (R : Mp → Hp → α → Sto → Prop) : Prop := match r with
  | .ok a st' => ∀ m' H', Grow m H m' H' → RS g m' H' st' → R m' H' a st'
  | .exn e st' => ∀ m' H', Grow m H m' H' → RS g m' H' st' → E m' H' e st'
  | .bad => False
section
variable {g : G0} {E : EK} {m m1 : Mp} {H H1 : Hp} {α β : Type}
theorem Fin.mono {r : Rs α} {R : Mp → Hp → α → Sto → Prop} (h : Fin g E m H r R) (gr : Grow m H m1 H1) : Fin g E m1 H1 r R := by
  cases r with
  | ok a st => exact fun m' H' g' rs => h m' H' (gr.trans g') rs
  | exn e st => exact fun m' H' g' rs => h m' H' (gr.trans g') rs
  | bad => exact h
theorem Fin.imp {r : Rs α} {R R' : Mp → Hp → α → Sto → Prop} (h : Fin g E m H r R) (f : ∀ m' H' a st', Grow m H m' H' → RS g m' H' st' → R m' H' a st' → R' m' H' a st') : Fin g E m H r R' := by
  cases r with
  | ok a st => exact fun m' H' g' rs => f m' H' a st g' rs (h m' H' g' rs)
  | exn e st => exact h
  | bad => exact h
theorem Fin.bind {r : Rs α} {f : α → Sto → Rs β} {R : Mp → Hp → β → Sto → Prop} (h : Fin g E m H (r.bind f) R) : Fin g E m H r (fun m1 H1 a st1 => Fin g E m1 H1 (f a st1) R) := by
  cases r with
  | ok a st => exact fun m' H' g' rs => Fin.mono (show Fin g E m H (f a st) R from h) g'
  | exn e st => exact h
  | bad => exact h
theorem Fin.here {a : α} {st : Sto} {R : Mp → Hp → α → Sto → Prop} (h : Fin g E m H (.ok a st) R) (rs : RS g m H st) : R m H a st := h m H (Grow.refl _ _) rs
end
def EndE (g : G0) (Q : VK) : Mp → Hp → D → Sto → Prop := fun m' H' d _ => ∀ v, RV g.K m' H' d v → Q v H'
def tI (g : G0) (E : EK) (I : IE) : TE := fun σ H Q => ∃ m env st, RE g.K m H env σ ∧ RS g m H st ∧ Fin g E m H (I env st) (EndE g Q)
def tIA (g : G0) (E : EK) (I : IL) : TA := fun σ H Q => ∃ m env st, RE g.K m H env σ ∧ RS g m H st ∧ Fin g E m H (I env st) (fun m' H' ds _ => ∀ vs, RVs g.K m' H' ds vs → Q vs H')
def tIT (g : G0) (E : EK) (I : IT) : TT := fun σ H Q => ∃ m env st, RE g.K m H env σ ∧ RS g m H st ∧ Fin g E m H (I env st) (fun _ H' b _ => Q b H')
section
variable (ct : String → Addr) (X : Cx) (E : EK)
structure SI (e : Expr) (I : IE) : Prop where
  pe : PE X e (tI (gx ct X) E I)
structure SA (es : List Expr) (I : IL) : Prop where
  pa : PA X es (tIA (gx ct X) E I)
structure SB (e : Expr) (I : IT) : Prop where
  pt : PT X e (tIT (gx ct X) E I)
structure SW (e : Expr) (I : IT) : Prop where
  pw : PW X e (tIT (gx ct X) E I)
end
theorem _root_.L2.PE.imp {X : Cx} {e : Expr} {t t' : TE} (h : PE X e t) (f : ∀ σ H Q, t' σ H Q → t σ H Q) : PE X e t' := ⟨fun pins s σ H Q I q => h.run pins s σ H Q I (f σ H Q q)⟩
theorem _root_.L2.PT.imp {X : Cx} {e : Expr} {t t' : TT} (h : PT X e t) (f : ∀ σ H Q, t' σ H Q → t σ H Q) : PT X e t' := ⟨fun pins s σ H Q I q => h.run pins s σ H Q I (f σ H Q q)⟩
theorem _root_.L2.PW.imp {X : Cx} {e : Expr} {t t' : TT} (h : PW X e t) (f : ∀ σ H Q, t' σ H Q → t σ H Q) : PW X e t' := ⟨fun wh pins s σ H Q I q => h.run wh pins s σ H Q I (f σ H Q q)⟩
theorem _root_.L2.PA.imp {X : Cx} {e : List Expr} {t t' : TA} (h : PA X e t) (f : ∀ σ H Q, t' σ H Q → t σ H Q) : PA X e t' := ⟨fun p pins s σ H Q I q => h.run p pins s σ H Q I (f σ H Q q)⟩
theorem _root_.L2.PE.or {X : Cx} {e : Expr} {t t' : TE} (h : PE X e t) (h' : PE X e t') : PE X e (fun σ H Q => t σ H Q ∨ t' σ H Q) := ⟨fun pins s σ H Q I q => q.elim (h.run pins s σ H Q I) (h'.run pins s σ H Q I)⟩
theorem _root_.L2.PE.both {X : Cx} {e : Expr} {t t' t2 : TE} (h : PE X e t) (h' : PE X e t') (f : ∀ σ H Q, t2 σ H Q → t σ H Q ∨ t' σ H Q) : PE X e t2 := (h.or h').imp f

section
variable {ct : String → Addr} {X : Cx} {E : EK} {pos : Pos} {a b c e : Expr} {A B C : IE}

/-! ### names, constants -/
def iVar (i : Nat) : IE := fun env st => match env[i]? with
  | some (some d) => .ok d st
  | _ => .bad
def iC (d : D) : IE := fun _ st => .ok d st
theorem si_var (i : Nat) {x : Str} (h : PE X (.Name x pos) (tVar i)) : SI ct X E (.Name x pos) (iVar i) := ⟨h.imp fun σ H Q ⟨m, env, st, re, rs, f⟩ => by
  unfold iVar at f
  split at f
  · rename_i d q
    obtain ⟨v, e, r⟩ := re.at_ i d q
    exact ⟨v, e, f.here rs v r⟩
  · exact f.elim⟩
theorem si_C {v : V} {d : D} (h : PE X e (tC v)) (r : ∀ m H, RV X.K m H d v) : SI ct X E e (iC d) := ⟨h.imp fun σ H Q ⟨m, env, st, re, rs, f⟩ => Fin.here f rs v (r _ _)⟩
theorem si_int {i j} : SI ct X E (.Constant (.int i) j pos) (iC (.int i)) := si_C pe_int fun _ _ => .int _
theorem si_bl {i j} : SI ct X E (.Constant (.bool i) j pos) (iC (.bl i)) := si_C pe_bl fun _ _ => .bl _
theorem si_non {j} : SI ct X E (.Constant .none j pos) (iC .non) := si_C pe_non fun _ _ => .non
theorem si_str {i j} : SI ct X E (.Constant (.str i) j pos) (iC (.str i)) := si_C pe_str fun _ _ => .str _

/-! ### operations -/
def OpS (g : G0) (E : EK) (f : D → D → Sto → Rs D) (r : R2) : Prop :=
  ∀ (m : Mp) (H : Hp) (st : Sto) (d e : D) (x y : V) (Q : VK), RS g m H st → RV g.K m H d x → RV g.K m H e y → Fin g E m H (f d e st) (EndE g Q) → r x y H Q
def iBin (f : D → D → Sto → Rs D) (A B : IE) : IE := fun env st => (A env st).bind fun d st1 => (B env st1).bind fun e st2 => f d e st2
def iUn (f : D → Sto → Rs D) (A : IE) : IE := fun env st => (A env st).bind f
theorem bin_tI {f : D → D → Sto → Rs D} {r : R2} (hr : OpS (gx ct X) E f r) {σ : L2.St} {H : Hp} {Q : VK} (h : tI (gx ct X) E (iBin f A B) σ H Q) : tOp r (tI (gx ct X) E A) (tI (gx ct X) E B) σ H Q := by
  obtain ⟨m, env, st, re, rs, fin⟩ := h
  refine ⟨m, env, st, re, rs, fin.bind.imp fun m1 H1 d st1 g1 rs1 q x rx => ?_⟩
  refine ⟨m1, env, st1, re.mono g1, rs1, q.bind.imp fun m2 H2 e st2 g2 rs2 q2 y ry => ?_⟩
  exact hr m2 H2 st2 d e x y Q rs2 (rx.mono g2) ry q2
theorem si_bin {op : Operator} {f : D → D → Sto → Rs D} {r : R2} (ho : OpR X (binaryOp op) r) (hr : OpS (gx ct X) E f r) (ha : SI ct X E a A) (hb : SI ct X E b B) : SI ct X E (.BinOp a op b pos) (iBin f A B) :=
  ⟨(pe_op ho ha.pe hb.pe).imp fun _ _ _ h => bin_tI hr h⟩
theorem si_cmp {op : CmpOp} {f : D → D → Sto → Rs D} {r : R2} (ho : OpR X (compareOp op) r) (hr : OpS (gx ct X) E f r) (ha : SI ct X E a A) (hb : SI ct X E b B) (hm : behindInMarks op b = false) : SI ct X E (.Compare a [op] [b] pos) (iBin f A B) :=
  ⟨(pe_cmpR ho ha.pe hb.pe hm).imp fun _ _ _ h => bin_tI hr h⟩
def toB : D → Sto → Rs Bool
  | .bl b, st => .ok b st
  | _, _ => .bad
def iTest (A : IE) : IT := fun env st => (A env st).bind toB
theorem test_tI {σ : L2.St} {H : Hp} {Q : Bool → Hp → Prop} (h : tIT (gx ct X) E (iTest A) σ H Q) : tI (gx ct X) E A σ H (fun x H' => ∃ k, x = .bl k ∧ Q k H') := by
  obtain ⟨m, env, st, re, rs, fin⟩ := h
  refine ⟨m, env, st, re, rs, fin.bind.imp fun m1 H1 d st1 g1 rs1 q x rx => ?_⟩
  cases d with
  | bl b => cases rx; exact ⟨b, rfl, Fin.here q rs1⟩
  | _ => exact (show False from q).elim
theorem sb_cmp {op : CmpOp} {f : D → D → Sto → Rs D} {r : R2} (ho : OpR X (compareOp op) r) (hr : OpS (gx ct X) E f r) (ha : SI ct X E a A) (hb : SI ct X E b B) (hm : behindInMarks op b = false) : SB ct X E (.Compare a [op] [b] pos) (iTest (iBin f A B)) :=
  ⟨(pt_cmpR ho ha.pe hb.pe hm).imp fun _ _ _ h => bin_tI hr (test_tI h)⟩

/-! arithmetic -/
def gSub : D → D → Sto → Rs D
  | .int i, .int j, st => .ok (.int (i - j)) st
  | _, _, _ => .bad
def gFdiv : D → D → Sto → Rs D
  | .int i, .int j, st => if 0 < j ∧ j.natAbs.log2 < 9000 then .ok (.int (i / j)) st else .bad
  | _, _, _ => .bad
def gMod : D → D → Sto → Rs D
  | .int i, .int j, st => if 0 < j then .ok (.int (i % j)) st else .bad
  | _, _, _ => .bad
def gPow : D → D → Sto → Rs D
  | .int i, .int j, st => if 0 ≤ j ∧ j ≤ 1000000 ∧ i.natAbs < 2 ^ 64 then .ok (.int (i ^ j.toNat)) st else .bad
  | _, _, _ => .bad
def gXor : D → D → Sto → Rs D
  | .int i, .int j, st => .ok (.int (Builtin.bitXor i j)) st
  | _, _, _ => .bad
def gAnd : D → D → Sto → Rs D
  | .int i, .int j, st => .ok (.int (Builtin.bitAnd i j)) st
  | _, _, _ => .bad
def listAt (st : Sto) : D → Option (List D)
  | .rol xs => some xs
  | .ref n => match st[n]? with
    | some (.lst xs) => some xs
    | _ => none
  | _ => none
def gAdd : D → D → Sto → Rs D
  | .int i, .int j, st => .ok (.int (i + j)) st
  | .tup xs, .tup ys, st => if xs.length + ys.length ≤ 16777216 then .ok (.tup (xs ++ ys)) st else .bad
  | .str x, .str y, st => if x.length + y.length ≤ 16777216 then .ok (.str (x ++ y)) st else .bad
  | d, e, st => match listAt st d, listAt st e with
    | some xs, some ys => if xs.length + ys.length ≤ 16777216 then .ok (.rol (xs ++ ys)) st else .bad
    | _, _ => .bad
def gMul : D → D → Sto → Rs D
  | .int i, .int j, st => if i.natAbs < 2 ^ 64 ∨ j.natAbs < 2 ^ 64 then .ok (.int (i * j)) st else .bad
  | d, .int k, st => match listAt st d with
    | some xs => if -(2 ^ 63) ≤ k ∧ k < 2 ^ 63 ∧ xs.length * k.toNat ≤ 16777216 then .ok (.rol (List.replicate k.toNat xs).flatten) st else .bad
    | _ => .bad
  | _, _, _ => .bad
theorem sl_eq : (sizeLine : Nat) = 16777216 := sizeLine_eq
theorem ops_int {f : D → D → Sto → Rs D} {C : Int → Int → Prop} {k : Int → Int → D} {kv : Int → Int → V} (g : G0)
    (h1 : ∀ d e st, f d e st ≠ .bad → ∃ i j, d = .int i ∧ e = .int j ∧ C i j ∧ f d e st = .ok (k i j) st) (hk : ∀ m H i j, RV g.K m H (k i j) (kv i j)) : OpS g E f (rI C kv) := by
  intro m H st d e x y Q rs rx ry fin
  have hb : f d e st ≠ .bad := fun z => by rw [z] at fin; exact fin
  obtain ⟨i, j, rfl, rfl, hc, q⟩ := h1 d e st hb
  cases rx; cases ry
  rw [q] at fin
  exact ⟨i, j, rfl, rfl, hc, fin.here rs _ (hk _ _ _ _)⟩
theorem ops_int0 {f : D → D → Sto → Rs D} {k : Int → Int → D} {kv : Int → Int → V} (g : G0)
    (h1 : ∀ d e st, f d e st ≠ .bad → ∃ i j, d = .int i ∧ e = .int j ∧ f d e st = .ok (k i j) st) (hk : ∀ m H i j, RV g.K m H (k i j) (kv i j)) : OpS g E f (rI0 kv) := by
  intro m H st d e x y Q rs rx ry fin
  have hb : f d e st ≠ .bad := fun z => by rw [z] at fin; exact fin
  obtain ⟨i, j, rfl, rfl, q⟩ := h1 d e st hb
  cases rx; cases ry
  rw [q] at fin
  exact ⟨i, j, rfl, rfl, fin.here rs _ (hk _ _ _ _)⟩
theorem si_sub (ha : SI ct X E a A) (hb : SI ct X E b B) : SI ct X E (.BinOp a .Sub b pos) (iBin gSub A B) :=
  si_bin op_sub (ops_int0 _ (k := fun i j => .int (i - j)) (fun d e st h => by
    cases d <;> cases e <;> first | exact absurd rfl h | exact ⟨_, _, rfl, rfl, rfl⟩) fun _ _ _ _ => .int _) ha hb
theorem si_xor (ha : SI ct X E a A) (hb : SI ct X E b B) : SI ct X E (.BinOp a .BitXor b pos) (iBin gXor A B) :=
  si_bin op_xor (ops_int0 _ (k := fun i j => .int (Builtin.bitXor i j)) (fun d e st h => by
    cases d <;> cases e <;> first | exact absurd rfl h | exact ⟨_, _, rfl, rfl, rfl⟩) fun _ _ _ _ => .int _) ha hb
theorem si_and (ha : SI ct X E a A) (hb : SI ct X E b B) : SI ct X E (.BinOp a .BitAnd b pos) (iBin gAnd A B) :=
  si_bin op_and (ops_int0 _ (k := fun i j => .int (Builtin.bitAnd i j)) (fun d e st h => by
    cases d <;> cases e <;> first | exact absurd rfl h | exact ⟨_, _, rfl, rfl, rfl⟩) fun _ _ _ _ => .int _) ha hb
theorem si_fdiv (ha : SI ct X E a A) (hb : SI ct X E b B) : SI ct X E (.BinOp a .FloorDiv b pos) (iBin gFdiv A B) :=
  si_bin op_fdivW (ops_int _ (k := fun i j => .int (i / j)) (fun d e st h => by
    cases d <;> cases e <;> first
      | exact absurd rfl h
      | (rename_i i j
         by_cases hc : 0 < j ∧ j.natAbs.log2 < 9000
         · exact ⟨_, _, rfl, rfl, hc, if_pos hc⟩
         · exact absurd (if_neg hc) h)) fun _ _ _ _ => .int _) ha hb
theorem si_mod (ha : SI ct X E a A) (hb : SI ct X E b B) : SI ct X E (.BinOp a .Mod b pos) (iBin gMod A B) :=
  si_bin op_mod (ops_int _ (k := fun i j => .int (i % j)) (fun d e st h => by
    cases d <;> cases e <;> first
      | exact absurd rfl h
      | (rename_i i j
         by_cases hc : 0 < j
         · exact ⟨_, _, rfl, rfl, hc, if_pos hc⟩
         · exact absurd (if_neg hc) h)) fun _ _ _ _ => .int _) ha hb
theorem si_pow (ha : SI ct X E a A) (hb : SI ct X E b B) : SI ct X E (.BinOp a .Pow b pos) (iBin gPow A B) :=
  si_bin op_pow (ops_int _ (k := fun i j => .int (i ^ j.toNat)) (fun d e st h => by
    cases d <;> cases e <;> first
      | exact absurd rfl h
      | (rename_i i j
         by_cases hc : 0 ≤ j ∧ j ≤ 1000000 ∧ i.natAbs < 2 ^ 64
         · exact ⟨_, _, rfl, rfl, hc, if_pos hc⟩
         · exact absurd (if_neg hc) h)) fun _ _ _ _ => .int _) ha hb
/-- a list that may be read and copied -/
theorem list_of {g : G0} {m : Mp} {H : Hp} {st : Sto} {d : D} {x : V} {xs : List D} (rs : RS g m H st) (r : RV g.K m H d x) (e : listAt st d = some xs) : ∃ p vs, x = .ref p ∧ H p = some (.lst vs) ∧ RVs g.K m H xs vs := by
  cases d with
  | rol ys =>
    cases e
    cases r with
    | rol h1 h2 => exact ⟨_, _, rfl, h1.2.2, h2⟩
  | ref n =>
    cases r with
    | ref h1 =>
      unfold listAt at e
      simp only at e
      split at e
      · rename_i ys q
        cases e
        obtain ⟨vs, h2, h3⟩ := rs.rc n _ _ h1 q
        exact ⟨_, vs, rfl, h3, h2⟩
      · cases e
  | _ => cases e
/-- a new list that is no cell -/
theorem rol_new {g : G0} {m : Mp} {H : Hp} {st : Sto} {xs : List D} {vs : List V} {Q : VK} (rs : RS g m H st) (r : RVs g.K m H xs vs) (f : Fin g E m H (.ok (.rol xs) st) (EndE g Q)) : ∀ p, H p = none → Q (.ref p) (upd H p (.lst vs)) := fun p hp => by
  have gr : Grow m H m (upd H p (.lst vs)) := Grow.laid hp
  exact f m _ gr (rs.laid hp) _ (.rol ⟨rs.notin hp, rs.nothold hp, upd_same⟩ (r.mono gr))
theorem tup_new {g : G0} {m : Mp} {H : Hp} {st : Sto} {xs : List D} {vs : List V} {Q : VK} (rs : RS g m H st) (r : RVs g.K m H xs vs) (f : Fin g E m H (.ok (.tup xs) st) (EndE g Q)) : ∀ p, H p = none → Q (.ref p) (upd H p (.tup vs)) := fun p hp => by
  have gr : Grow m H m (upd H p (.tup vs)) := Grow.laid hp
  exact f m _ gr (rs.laid hp) _ (.tup upd_same (r.mono gr))
theorem nil_of {K : PySem.W.Frag} {m : Mp} {H : Hp} {xs : List D} {vs : List V} (r : RVs K m H xs vs) : vs = [] ↔ xs = [] := by
  cases r <;> simp
theorem ops_add {g : G0} : OpS g E gAdd (fun x y H Q => (∃ i j, x = .int i ∧ y = .int j ∧ Q (.int (i + j)) H) ∨ (rCatA g.K x y H Q ∨ ((∃ i j, x = .str i ∧ y = .str j ∧ i.length + j.length ≤ sizeLine ∧ Q (.str (i ++ j)) H) ∨ rCat x y H Q))) := by
  intro m H st d e x y Q rs rx ry fin
  unfold gAdd at fin
  split at fin
  · cases rx; cases ry
    exact .inl ⟨_, _, rfl, rfl, fin.here rs _ (.int _)⟩
  · cases rx with
    | tup h1 h2 =>
      cases ry with
      | tup h3 h4 =>
        split at fin
        · rename_i hz
          rw [h2.length, h4.length] at hz
          refine .inr (.inl ⟨_, _, _, _, rfl, rfl, h1.sq, h3.sq, by rw [sl_eq]; exact hz, fun z => ?_, fun _ z => ?_, fun _ _ => tup_new rs (h2.append h4) fin⟩)
          · have z' := (nil_of h2).mp z
            subst z'
            exact fin.here rs _ (.tup h3 h4)
          · have z' := (nil_of h4).mp z
            subst z'
            rw [List.append_nil] at fin
            exact fin.here rs _ (.tup h1 h2)
        · exact fin.elim
  · cases rx; cases ry
    split at fin
    · rename_i hz
      exact .inr (.inr (.inl ⟨_, _, rfl, rfl, by rw [sl_eq]; exact hz, fin.here rs _ (.str _)⟩))
    · exact fin.elim
  · split at fin
    · rename_i xs ys q1 q2
      split at fin
      · rename_i hz
        obtain ⟨p, vs, rfl, h1, r1⟩ := list_of rs rx q1
        obtain ⟨p2, ws, rfl, h2, r2⟩ := list_of rs ry q2
        rw [r1.length, r2.length] at hz
        exact .inr (.inr (.inr ⟨p, p2, vs, ws, rfl, rfl, h1, h2, by rw [sl_eq]; exact hz, rol_new rs (r1.append r2) fin⟩))
      · exact fin.elim
    · exact fin.elim
theorem si_add (ha : SI ct X E a A) (hb : SI ct X E b B) : SI ct X E (.BinOp a .Add b pos) (iBin gAdd A B) :=
  si_bin (op_add.or (op_catA.or (op_add_str.or op_cat))) ops_add ha hb
theorem ops_mul {g : G0} : OpS g E gMul (fun x y H Q => rI CMul (fun i j => .int (i * j)) x y H Q ∨ rRep x y H Q) := by
  intro m H st d e x y Q rs rx ry fin
  unfold gMul at fin
  split at fin
  · cases rx; cases ry
    split at fin
    · rename_i hc
      refine .inl ⟨_, _, rfl, rfl, ?_, fin.here rs _ (.int _)⟩
      rcases hc with h | h
      · exact .inl ⟨by omega, by omega⟩
      · exact .inr ⟨by omega, by omega⟩
    · exact fin.elim
  · cases ry
    split at fin
    · rename_i xs q1
      split at fin
      · rename_i hz
        obtain ⟨p, vs, rfl, h1, r1⟩ := list_of rs rx q1
        rw [r1.length] at hz
        exact .inr ⟨p, _, vs, rfl, rfl, h1, hz.1, hz.2.1, by rw [sl_eq]; exact hz.2.2, rol_new rs (r1.flat _) fin⟩
      · exact fin.elim
    · exact fin.elim
  · exact fin.elim
theorem si_mul (ha : SI ct X E a A) (hb : SI ct X E b B) : SI ct X E (.BinOp a .Mult b pos) (iBin gMul A B) :=
  si_bin (op_mul.or op_rep) ops_mul ha hb
end
end QI

namespace QI
open PySem PySem.Spec PyProof.Rows L2

/-! ### data without cells, as the library's plain data -/
mutual
def pdP : D → Option PyData
  | .non => some .none
  | .bl b => some (.bool b)
  | .int i => some (.int i)
  | .str x => some (.str x)
  | .tup xs => match pdPs xs with
    | some ys => some (.tuple ys)
    | none => none
  | .rol xs => match pdPs xs with
    | some ys => some (.list ys)
    | none => none
  | .scr xs => match pdPs xs with
    | some ys => some (.list ys)
    | none => none
  | .ref _ => none
def pdPs : List D → Option (List PyData)
  | [] => some []
  | d :: ds => match pdP d, pdPs ds with
    | some y, some ys => some (y :: ys)
    | _, _ => none
end
def pdS (st : Sto) : D → Option PyData
  | .ref n => match st[n]? with
    | some (.lst xs) => match pdPs xs with
      | some ys => some (.list ys)
      | none => none
    | _ => none
  | d => pdP d
section
variable {K : PySem.W.Frag} {m : Mp} {H : Hp}
mutual
theorem RV.dp : ∀ {d : D} {v : V} {p : PyData}, RV K m H d v → pdP d = some p → Dp K H v p
  | .non, _, _, h, e => by cases h; simp [pdP] at e; subst e; exact .non
  | .bl _, _, _, h, e => by cases h; simp [pdP] at e; subst e; exact .bl _
  | .int _, _, _, h, e => by cases h; simp [pdP] at e; subst e; exact .int _
  | .str _, _, _, h, e => by cases h; simp [pdP] at e; subst e; exact .str _
  | .tup ds, _, _, h, e => by
    cases h with
    | tup h1 h2 =>
      simp only [pdP] at e
      split at e
      · rename_i ys q
        cases e
        exact .tup h1.sq (RVs.dp h2 q)
      · cases e
  | .rol ds, _, _, h, e => by
    cases h with
    | rol h1 h2 =>
      simp only [pdP] at e
      split at e
      · rename_i ys q
        cases e
        exact .lst h1.sq (RVs.dp h2 q)
      · cases e
  | .scr ds, _, _, h, e => by
    cases h with
    | scr h1 h2 =>
      simp only [pdP] at e
      split at e
      · rename_i ys q
        cases e
        exact .lst h1.sq (RVs.dp h2 q)
      · cases e
  | .ref _, _, _, h, e => by simp [pdP] at e
theorem RVs.dp : ∀ {ds : List D} {vs : List V} {ps : List PyData}, RVs K m H ds vs → pdPs ds = some ps → DpAll K H vs ps
  | [], _, _, h, e => by cases h; simp [pdPs] at e; subst e; exact .nil
  | d :: ds, _, _, h, e => by
    cases h with
    | cons h1 h2 =>
      simp only [pdPs] at e
      split at e
      · rename_i y ys q1 q2
        cases e
        exact .cons (RV.dp h1 q1) (RVs.dp h2 q2)
      · cases e
end
theorem RV.dps {g : G0} {st : Sto} {d : D} {v : V} {p : PyData} (rs : RS g m H st) (h : RV g.K m H d v) (e : pdS st d = some p) : Dp g.K H v p := by
  cases d with
  | ref n =>
    cases h with
    | ref h1 =>
      simp only [pdS] at e
      split at e
      · rename_i xs q
        split at e
        · rename_i ys q2
          cases e
          obtain ⟨vs, r, h2⟩ := rs.rc n _ _ h1 q
          exact .lst (SqL.of h2) (r.dp q2)
        · cases e
      · cases e
  | _ => exact h.dp e
end
/-- the items of a list or a tuple -/
def seqAt (st : Sto) : D → Option (List D)
  | .tup xs => some xs
  | .rol xs => some xs
  | .scr xs => some xs
  | .ref n => match st[n]? with
    | some (.lst xs) => some xs
    | _ => none
  | _ => none
theorem seq_of {g : G0} {m : Mp} {H : Hp} {st : Sto} {d : D} {x : V} {xs : List D} (rs : RS g m H st) (r : RV g.K m H d x) (e : seqAt st d = some xs) : ∃ p vs, x = .ref p ∧ (SqL g.K H p vs ∨ SqT g.K H p vs) ∧ RVs g.K m H xs vs := by
  cases d with
  | tup ys =>
    cases e
    cases r with
    | tup h1 h2 => exact ⟨_, _, rfl, .inr h1.sq, h2⟩
  | rol ys =>
    cases e
    cases r with
    | rol h1 h2 => exact ⟨_, _, rfl, .inl h1.sq, h2⟩
  | scr ys =>
    cases e
    cases r with
    | scr h1 h2 => exact ⟨_, _, rfl, .inl h1.sq, h2⟩
  | ref n =>
    cases r with
    | ref h1 =>
      unfold seqAt at e
      simp only at e
      split at e
      · rename_i ys q
        cases e
        obtain ⟨vs, h2, h3⟩ := rs.rc n _ _ h1 q
        exact ⟨_, vs, rfl, .inl (SqL.of h3), h2⟩
      · cases e
  | _ => cases e

/-! ### comparisons -/
def gEq (st : Sto) : D → D → Option Bool
  | .int i, .int j => some (decide (i = j))
  | .str x, .str y => some (decide (x = y))
  | .bl x, .bl y => some (decide (x = y))
  | d, e => match pdS st d, pdS st e with
    | some a, some b => if SeqAt.shaped a = true ∧ SeqAt.shaped b = true then some (PyData.eqv a b) else none
    | _, _ => none
def fB (o : Option Bool) (st : Sto) : Rs D := match o with
  | some b => .ok (.bl b) st
  | none => .bad
def gEqE : D → D → Sto → Rs D := fun d e st => fB (gEq st d e) st
def gNeE : D → D → Sto → Rs D := fun d e st => fB ((gEq st d e).map (!·)) st
def gLt : D → D → Sto → Rs D
  | .int i, .int j, st => .ok (.bl (decide (i < j))) st
  | _, _, _ => .bad
def gLe : D → D → Sto → Rs D
  | .int i, .int j, st => .ok (.bl (decide (i ≤ j))) st
  | _, _, _ => .bad
def gGt : D → D → Sto → Rs D
  | .int i, .int j, st => .ok (.bl (decide (j < i))) st
  | _, _, _ => .bad
def gGe : D → D → Sto → Rs D
  | .int i, .int j, st => .ok (.bl (decide (j ≤ i))) st
  | _, _, _ => .bad
def D.isNon : D → Bool
  | .non => true
  | _ => false
def gIs : D → D → Sto → Rs D
  | d, .non, st => .ok (.bl d.isNon) st
  | _, _, _ => .bad
def gIsNot : D → D → Sto → Rs D
  | d, .non, st => .ok (.bl (!d.isNon)) st
  | _, _, _ => .bad
/-- == of plain items -/
def D.fv : D → Option V
  | .non => some .non
  | .bl b => some (.bl b)
  | .int i => some (.int i)
  | .str x => some (.str x)
  | _ => none
def D.eqF (d e : D) : Bool := match d.fv, e.fv with
  | some x, some y => eqV x y
  | _, _ => false
def D.flat (d : D) : Bool := d.fv.isSome
theorem fv_of {K : PySem.W.Frag} {m : Mp} {H : Hp} {d : D} {v : V} (h : RV K m H d v) (f : d.flat = true) : d.fv = some v ∧ flatV v = true := by
  cases d <;> cases h <;> first | exact ⟨rfl, rfl⟩ | (simp [D.flat, D.fv] at f)
theorem fvs_of {K : PySem.W.Frag} {m : Mp} {H : Hp} {d : D} {v : V} (h : RV K m H d v) (f : d.flat = true) : ∀ {ds : List D} {vs : List V}, RVs K m H ds vs → ds.all D.flat = true → vs.all flatV = true ∧ inV v vs = ds.any fun e => e.eqF d
  | [], _, r, _ => by cases r; exact ⟨rfl, rfl⟩
  | e :: ds, _, r, q => by
    cases r with
    | cons r1 r2 =>
      simp only [List.all_cons, Bool.and_eq_true] at q
      obtain ⟨h1, h2⟩ := fv_of r1 q.1
      obtain ⟨h3, h4⟩ := fv_of h f
      obtain ⟨h5, h6⟩ := fvs_of h f r2 q.2
      refine ⟨by simp only [List.all_cons, Bool.and_eq_true]; exact ⟨h2, h5⟩, ?_⟩
      unfold inV at h6 ⊢
      rw [List.any_cons, List.any_cons, h6]
      congr 1
      unfold D.eqF
      rw [h1, h3]
def gIn (st : Sto) (d e : D) : Option Bool := match seqAt st e with
  | some xs => if d.flat = true ∧ xs.all D.flat = true then some (xs.any fun y => y.eqF d) else none
  | none => none
def gInE : D → D → Sto → Rs D := fun d e st => fB (gIn st d e) st
def gNotInE : D → D → Sto → Rs D := fun d e st => fB ((gIn st d e).map (!·)) st

section
variable {ct : String → Addr} {X : Cx} {E : EK} {pos : Pos} {a b c e : Expr} {A B C : IE}
/-- a comparison's rule: op and what it gives -/
def CmpR (ct : String → Addr) (X : Cx) (E : EK) (op : CmpOp) (f : D → D → Sto → Rs D) : Prop := ∃ r, OpR X (compareOp op) r ∧ OpS (gx ct X) E f r
theorem fB_ok {g : G0} {m : Mp} {H : Hp} {st : Sto} {o : Option Bool} {Q : VK} (rs : RS g m H st) (fin : Fin g E m H (fB o st) (EndE g Q)) : ∃ b, o = some b ∧ Q (.bl b) H := by
  cases o with
  | none => exact fin.elim
  | some b => exact ⟨b, rfl, Fin.here fin rs _ (.bl b)⟩
theorem c_lt : CmpR ct X E .Lt gLt := ⟨_, op_lt, ops_int0 _ (k := fun i j => .bl (decide (i < j))) (fun d e st h => by
    cases d <;> cases e <;> first | exact absurd rfl h | exact ⟨_, _, rfl, rfl, rfl⟩) fun _ _ _ _ => .bl _⟩
theorem c_le : CmpR ct X E .LtE gLe := ⟨_, op_le, ops_int0 _ (k := fun i j => .bl (decide (i ≤ j))) (fun d e st h => by
    cases d <;> cases e <;> first | exact absurd rfl h | exact ⟨_, _, rfl, rfl, rfl⟩) fun _ _ _ _ => .bl _⟩
theorem c_gt : CmpR ct X E .Gt gGt := ⟨_, op_gt, ops_int0 _ (k := fun i j => .bl (decide (j < i))) (fun d e st h => by
    cases d <;> cases e <;> first | exact absurd rfl h | exact ⟨_, _, rfl, rfl, rfl⟩) fun _ _ _ _ => .bl _⟩
theorem c_ge : CmpR ct X E .GtE gGe := ⟨_, op_ge, ops_int0 _ (k := fun i j => .bl (decide (j ≤ i))) (fun d e st h => by
    cases d <;> cases e <;> first | exact absurd rfl h | exact ⟨_, _, rfl, rfl, rfl⟩) fun _ _ _ _ => .bl _⟩
theorem gEq_ok {g : G0} {m : Mp} {H : Hp} {st : Sto} {d e : D} {x y : V} {k : Bool} (rs : RS g m H st) (rx : RV g.K m H d x) (ry : RV g.K m H e y) (h : gEq st d e = some k) :
    (scal x y = true ∧ decide (x = y) = k) ∨ ∃ a b, Dp g.K H x a ∧ Dp g.K H y b ∧ SeqAt.shaped a = true ∧ SeqAt.shaped b = true ∧ PyData.eqv a b = k := by
  unfold gEq at h
  split at h
  · cases rx; cases ry; cases h
    exact .inl ⟨rfl, by simp⟩
  · cases rx; cases ry; cases h
    exact .inl ⟨rfl, by simp⟩
  · cases rx; cases ry; cases h
    exact .inl ⟨rfl, by simp⟩
  · split at h
    · rename_i p q h1 h2
      split at h
      · rename_i hs
        cases h
        exact .inr ⟨p, q, rx.dps rs h1, ry.dps rs h2, hs.1, hs.2, rfl⟩
      · cases h
    · cases h
theorem c_eq (hu : X.A.units + 64 < cLine) : CmpR ct X E .Eq gEqE := ⟨_, op_eq.or (op_eqD hu), fun m H st d e x y Q rs rx ry fin => by
  obtain ⟨k, h1, h2⟩ := fB_ok rs fin
  rcases gEq_ok rs rx ry h1 with ⟨hs, rfl⟩ | ⟨p, q, d1, d2, s1, s2, rfl⟩
  · exact .inl ⟨hs, h2⟩
  · exact .inr ⟨p, q, d1, d2, s1, s2, h2⟩⟩
theorem c_ne (hu : X.A.units + 64 < cLine) : CmpR ct X E .NotEq gNeE := ⟨_, op_ne.or (op_neD hu), fun m H st d e x y Q rs rx ry fin => by
  obtain ⟨k, h1, h2⟩ := fB_ok rs fin
  cases he : gEq st d e with
  | none => rw [he] at h1; cases h1
  | some k' =>
    rw [he] at h1
    cases h1
    rcases gEq_ok rs rx ry he with ⟨hs, rfl⟩ | ⟨p, q, d1, d2, s1, s2, rfl⟩
    · exact .inl ⟨hs, h2⟩
    · exact .inr ⟨p, q, d1, d2, s1, s2, h2⟩⟩
theorem isNon_of {K : PySem.W.Frag} {m : Mp} {H : Hp} {d : D} {v : V} (h : RV K m H d v) : decide (v = .non) = d.isNon := by
  cases h <;> simp [D.isNon]
theorem c_is : CmpR ct X E .Is gIs := ⟨_, op_isN, fun m H st d e x y Q rs rx ry fin => by
  unfold gIs at fin
  split at fin
  · cases ry
    exact ⟨rfl, by rw [isNon_of rx]; exact fin.here rs _ (.bl _)⟩
  · exact fin.elim⟩
theorem c_isnot : CmpR ct X E .IsNot gIsNot := ⟨_, op_notN, fun m H st d e x y Q rs rx ry fin => by
  unfold gIsNot at fin
  split at fin
  · cases ry
    exact ⟨rfl, by rw [isNon_of rx]; exact fin.here rs _ (.bl _)⟩
  · exact fin.elim⟩
theorem gIn_ok {g : G0} {m : Mp} {H : Hp} {st : Sto} {d e : D} {x y : V} {k : Bool} (rs : RS g m H st) (rx : RV g.K m H d x) (ry : RV g.K m H e y) (h : gIn st d e = some k) :
    ∃ p xs, y = .ref p ∧ (SqL g.K H p xs ∨ SqT g.K H p xs) ∧ flatV x = true ∧ xs.all flatV = true ∧ inV x xs = k := by
  unfold gIn at h
  split at h
  · rename_i xs q
    split at h
    · rename_i hf
      cases h
      obtain ⟨p, vs, rfl, hq, r⟩ := seq_of rs ry q
      obtain ⟨f1, f2⟩ := fvs_of rx hf.1 r hf.2
      exact ⟨p, vs, rfl, hq, (fv_of rx hf.1).2, f1, f2⟩
    · cases h
  · cases h
theorem c_in : CmpR ct X E .In gInE := ⟨_, op_in_seq, fun m H st d e x y Q rs rx ry fin => by
  obtain ⟨k, h1, h2⟩ := fB_ok rs fin
  obtain ⟨p, xs, rfl, hq, f1, f2, rfl⟩ := gIn_ok rs rx ry h1
  exact ⟨p, xs, rfl, hq, f1, f2, h2⟩⟩
theorem c_notin : CmpR ct X E .NotIn gNotInE := ⟨_, op_notIn_seq, fun m H st d e x y Q rs rx ry fin => by
  obtain ⟨k, h1, h2⟩ := fB_ok rs fin
  cases he : gIn st d e with
  | none => rw [he] at h1; cases h1
  | some k' =>
    rw [he] at h1
    cases h1
    obtain ⟨p, xs, rfl, hq, f1, f2, rfl⟩ := gIn_ok rs rx ry he
    exact ⟨p, xs, rfl, hq, f1, f2, h2⟩⟩
theorem si_c {op : CmpOp} {f : D → D → Sto → Rs D} (h : CmpR ct X E op f) (ha : SI ct X E a A) (hb : SI ct X E b B) (hm : behindInMarks op b = false := by first | exact nomark _ | rfl) : SI ct X E (.Compare a [op] [b] pos) (iBin f A B) := by
  obtain ⟨r, ho, hr⟩ := h
  exact si_cmp ho hr ha hb hm
theorem sb_c {op : CmpOp} {f : D → D → Sto → Rs D} (h : CmpR ct X E op f) (ha : SI ct X E a A) (hb : SI ct X E b B) (hm : behindInMarks op b = false := by first | exact nomark _ | rfl) : SB ct X E (.Compare a [op] [b] pos) (iTest (iBin f A B)) := by
  obtain ⟨r, ho, hr⟩ := h
  exact sb_cmp ho hr ha hb hm
/-- a op b op' c -/
def iChain (f f' : D → D → Sto → Rs D) (A B C : IE) : IE := fun env st => (A env st).bind fun d st1 => (B env st1).bind fun e st2 => (f d e st2).bind fun k st3 => match k with
  | .bl true => (C env st3).bind fun c st4 => f' e c st4
  | .bl false => .ok (.bl false) st3
  | _ => .bad
theorem chain_tI {f f' : D → D → Sto → Rs D} {r r' : R2} (hr : OpS (gx ct X) E f r) (hr' : OpS (gx ct X) E f' r') {σ : L2.St} {H : Hp} {Q : VK} (h : tI (gx ct X) E (iChain f f' A B C) σ H Q)
    : tChain r r' (tI (gx ct X) E A) (tI (gx ct X) E B) (tI (gx ct X) E C) σ H Q := by
  obtain ⟨m, env, st, re, rs, fin⟩ := h
  refine ⟨m, env, st, re, rs, fin.bind.imp fun m1 H1 d st1 g1 rs1 q x rx => ?_⟩
  have re1 := re.mono g1
  refine ⟨m1, env, st1, re1, rs1, q.bind.imp fun m2 H2 e st2 g2 rs2 q2 y ry => ?_⟩
  have re2 := re1.mono g2
  refine hr m2 H2 st2 d e x y _ rs2 (rx.mono g2) ry (q2.bind.imp fun m3 H3 k st3 g3 rs3 q3 z rz => ?_)
  split at q3
  · cases rz
    refine ⟨true, rfl, ?_⟩
    rw [if_pos rfl]
    refine ⟨m3, env, st3, re2.mono g3, rs3, q3.bind.imp fun m4 H4 c st4 g4 rs4 q4 w rw' => ?_⟩
    exact hr' m4 H4 st4 e c y w Q rs4 (ry.mono (g3.trans g4)) rw' q4
  · cases rz
    refine ⟨false, rfl, ?_⟩
    rw [if_neg Bool.false_ne_true]
    exact q3.here rs3 _ (.bl false)
  · exact q3.elim
theorem si_chain {op op' : CmpOp} {f f' : D → D → Sto → Rs D} (h : CmpR ct X E op f) (h' : CmpR ct X E op' f') (ha : SI ct X E a A) (hb : SI ct X E b B) (hc : SI ct X E c C) (hm : lastMarks [op, op'] [b, c] = false := by with_unfolding_all rfl) :
    SI ct X E (.Compare a [op, op'] [b, c] pos) (iChain f f' A B C) := by
  obtain ⟨r, ho, hr⟩ := h
  obtain ⟨r', ho', hr'⟩ := h'
  exact ⟨(pe_chain ho ho' ha.pe hb.pe hc.pe hm).imp fun _ _ _ q => chain_tI hr hr' q⟩
theorem sb_chain {op op' : CmpOp} {f f' : D → D → Sto → Rs D} (h : CmpR ct X E op f) (h' : CmpR ct X E op' f') (ha : SI ct X E a A) (hb : SI ct X E b B) (hc : SI ct X E c C) (hm : lastMarks [op, op'] [b, c] = false := by with_unfolding_all rfl) :
    SB ct X E (.Compare a [op, op'] [b, c] pos) (iTest (iChain f f' A B C)) := by
  obtain ⟨r, ho, hr⟩ := h
  obtain ⟨r', ho', hr'⟩ := h'
  exact ⟨(pt_chain ho ho' ha.pe hb.pe hc.pe hm).imp fun _ _ _ q => chain_tI hr hr' (test_tI q)⟩

/-! ### truth, and, or, not, if else -/
def gTru (st : Sto) : D → Option Bool
  | .non => some false
  | .bl b => some b
  | .int i => some (i != 0)
  | .str y => if y.length ≤ 16777216 then some ((y.length : Int) != 0) else none
  | d => match seqAt st d with
    | some xs => some (!xs.isEmpty)
    | none => none
theorem empty_of {K : PySem.W.Frag} {m : Mp} {H : Hp} {xs : List D} {vs : List V} (r : RVs K m H xs vs) : vs.isEmpty = xs.isEmpty := by cases r <;> rfl
theorem gTru_ok {g : G0} {m : Mp} {H : Hp} {st : Sto} {d : D} {x : V} {k : Bool} (rs : RS g m H st) (r : RV g.K m H d x) (e : gTru st d = some k) : TruV g.K x H k := by
  cases d with
  | non => cases r; cases e; rfl
  | bl b => cases r; cases e; rfl
  | int i => cases r; cases e; rfl
  | str y =>
    cases r
    simp only [gTru] at e
    split at e
    · rename_i hz
      cases e
      exact ⟨by rw [sl_eq]; exact hz, rfl⟩
    · cases e
  | _ =>
    simp only [gTru] at e
    split at e
    · rename_i xs q
      cases e
      obtain ⟨p, vs, rfl, hq, rv⟩ := seq_of rs r q
      rcases hq with hq | hq
      · exact .inl ⟨vs, hq, by rw [empty_of rv]⟩
      · exact .inr (.inl ⟨vs, hq, by rw [empty_of rv]⟩)
    · cases e
def fT (o : Option Bool) (st : Sto) : Rs Bool := match o with
  | some b => .ok b st
  | none => .bad
def iTru (A : IE) : IT := fun env st => (A env st).bind fun d st1 => fT (gTru st1 d) st1
theorem tru_tI {σ : L2.St} {H : Hp} {Q : Bool → Hp → Prop} (h : tIT (gx ct X) E (iTru A) σ H Q) : tI (gx ct X) E A σ H (fun x H' => ∃ k, TruV X.K x H' k ∧ Q k H') := by
  obtain ⟨m, env, st, re, rs, fin⟩ := h
  refine ⟨m, env, st, re, rs, fin.bind.imp fun m1 H1 d st1 g1 rs1 q x rx => ?_⟩
  cases hk : gTru st1 d with
  | none => rw [hk] at q; exact q.elim
  | some k => rw [hk] at q; exact ⟨k, gTru_ok rs1 rx hk, Fin.here q rs1⟩
theorem sb_tru (ha : SI ct X E a A) (he : ∀ whole, isTrue a X.env whole = (do let v ← whole; standAt a.pos; holding [v] (truthy v)) := by intro _; rfl) : SB ct X E a (iTru A) :=
  ⟨(pt_truth ha.pe he).imp fun _ _ _ h => tru_tI h⟩
def iAnd (T U : IT) : IT := fun env st => (T env st).bind fun b st1 => if b = true then U env st1 else .ok false st1
def iOr (T U : IT) : IT := fun env st => (T env st).bind fun b st1 => if b = true then .ok true st1 else U env st1
def iNot (T : IT) : IT := fun env st => (T env st).bind fun b st1 => .ok (!b) st1
variable {T U : IT} {rest : List Expr}
theorem sw_and1 (h : SB ct X E a T) : SW ct X E (.BoolOp .And [a] pos) T := ⟨pw_and1 h.pt⟩
theorem sw_or1 (h : SB ct X E a T) : SW ct X E (.BoolOp .Or [a] pos) T := ⟨pw_or1 h.pt⟩
theorem sw_and (h : SB ct X E a T) (h2 : SW ct X E (.BoolOp .And (b :: rest) pos) U) : SW ct X E (.BoolOp .And (a :: b :: rest) pos) (iAnd T U) :=
  ⟨(pw_and h.pt h2.pw).imp fun σ H Q ⟨m, env, st, re, rs, fin⟩ => ⟨m, env, st, re, rs, fin.bind.imp fun m1 H1 b st1 g1 rs1 q => by
    cases b with
    | true => rw [if_pos rfl] at q ⊢; exact ⟨m1, env, st1, re.mono g1, rs1, q⟩
    | false => rw [if_neg Bool.false_ne_true] at q ⊢; exact q.here rs1⟩⟩
theorem sw_or (h : SB ct X E a T) (h2 : SW ct X E (.BoolOp .Or (b :: rest) pos) U) : SW ct X E (.BoolOp .Or (a :: b :: rest) pos) (iOr T U) :=
  ⟨(pw_or h.pt h2.pw).imp fun σ H Q ⟨m, env, st, re, rs, fin⟩ => ⟨m, env, st, re, rs, fin.bind.imp fun m1 H1 b st1 g1 rs1 q => by
    cases b with
    | false => rw [if_neg Bool.false_ne_true] at q ⊢; exact ⟨m1, env, st1, re.mono g1, rs1, q⟩
    | true => rw [if_pos rfl] at q ⊢; exact q.here rs1⟩⟩
theorem sb_w (h : SW ct X E a T) : SB ct X E a T := ⟨h.pw.pt⟩
theorem sb_not (h : SB ct X E a T) : SB ct X E (.UnaryOp .Not a pos) (iNot T) :=
  ⟨(pt_not h.pt).imp fun σ H Q ⟨m, env, st, re, rs, fin⟩ => ⟨m, env, st, re, rs, fin.bind.imp fun m1 H1 b st1 g1 rs1 q => q.here rs1⟩⟩
def iIf (T : IT) (A B : IE) : IE := fun env st => (T env st).bind fun b st1 => if b = true then A env st1 else B env st1
theorem si_if (h : SB ct X E c T) (ha : SI ct X E a A) (hb : SI ct X E b B) : SI ct X E (.IfExp c a b pos) (iIf T A B) :=
  ⟨(pe_ifExp h.pt ha.pe hb.pe).imp fun σ H Q ⟨m, env, st, re, rs, fin⟩ => ⟨m, env, st, re, rs, fin.bind.imp fun m1 H1 b st1 g1 rs1 q => by
    cases b with
    | true => rw [if_pos rfl] at q ⊢; exact ⟨m1, env, st1, re.mono g1, rs1, q⟩
    | false => rw [if_neg Bool.false_ne_true] at q ⊢; exact ⟨m1, env, st1, re.mono g1, rs1, q⟩⟩⟩
/-- x and y, x or y, not x as values -/
def iAndV (A B : IE) : IE := fun env st => (A env st).bind fun d st1 => match gTru st1 d with
  | some true => B env st1
  | some false => .ok d st1
  | none => .bad
def iOrV (A B : IE) : IE := fun env st => (A env st).bind fun d st1 => match gTru st1 d with
  | some true => .ok d st1
  | some false => B env st1
  | none => .bad
def iNotV (A : IE) : IE := fun env st => (A env st).bind fun d st1 => fB ((gTru st1 d).map (!·)) st1
theorem si_one {op} (h : SI ct X E a A) : SI ct X E (.BoolOp op [a] pos) A := ⟨pe_one h.pe⟩
theorem si_andV (ha : SI ct X E a A) (hb : SI ct X E (.BoolOp .And (b :: rest) pos) B) : SI ct X E (.BoolOp .And (a :: b :: rest) pos) (iAndV A B) :=
  ⟨(pe_andT ha.pe hb.pe).imp fun σ H Q ⟨m, env, st, re, rs, fin⟩ => ⟨m, env, st, re, rs, fin.bind.imp fun m1 H1 d st1 g1 rs1 q x rx => by
    split at q
    · rename_i hk
      refine ⟨true, gTru_ok rs1 rx hk, ?_⟩
      rw [if_pos rfl]
      exact ⟨m1, env, st1, re.mono g1, rs1, q⟩
    · rename_i hk
      refine ⟨false, gTru_ok rs1 rx hk, ?_⟩
      rw [if_neg Bool.false_ne_true]
      exact q.here rs1 _ rx
    · exact q.elim⟩⟩
theorem si_orV (ha : SI ct X E a A) (hb : SI ct X E (.BoolOp .Or (b :: rest) pos) B) : SI ct X E (.BoolOp .Or (a :: b :: rest) pos) (iOrV A B) :=
  ⟨(pe_orT ha.pe hb.pe).imp fun σ H Q ⟨m, env, st, re, rs, fin⟩ => ⟨m, env, st, re, rs, fin.bind.imp fun m1 H1 d st1 g1 rs1 q x rx => by
    split at q
    · rename_i hk
      refine ⟨true, gTru_ok rs1 rx hk, ?_⟩
      rw [if_pos rfl]
      exact q.here rs1 _ rx
    · rename_i hk
      refine ⟨false, gTru_ok rs1 rx hk, ?_⟩
      rw [if_neg Bool.false_ne_true]
      exact ⟨m1, env, st1, re.mono g1, rs1, q⟩
    · exact q.elim⟩⟩
theorem si_notV (ha : SI ct X E a A) : SI ct X E (.UnaryOp .Not a pos) (iNotV A) :=
  ⟨(pe_notT ha.pe).imp fun σ H Q ⟨m, env, st, re, rs, fin⟩ => ⟨m, env, st, re, rs, fin.bind.imp fun m1 H1 d st1 g1 rs1 q x rx => by
    obtain ⟨k, h1, h2⟩ := fB_ok rs1 q
    cases hk : gTru st1 d with
    | none => rw [hk] at h1; cases h1
    | some k' =>
      rw [hk] at h1
      cases h1
      exact ⟨k', gTru_ok rs1 rx hk, h2⟩⟩⟩
def gNeg : D → Sto → Rs D
  | .int i, st => .ok (.int (-i)) st
  | _, _ => .bad
theorem si_neg (ha : SI ct X E a A) : SI ct X E (.UnaryOp .USub a pos) (iUn gNeg A) :=
  ⟨(pe_un un_neg ha.pe).imp fun σ H Q ⟨m, env, st, re, rs, fin⟩ => ⟨m, env, st, re, rs, fin.bind.imp fun m1 H1 d st1 g1 rs1 q x rx => by
    unfold gNeg at q
    split at q
    · cases rx
      exact ⟨_, rfl, q.here rs1 _ (.int _)⟩
    · exact q.elim⟩⟩
end
end QI

namespace QI
open PySem PySem.Spec PyProof.Rows L2

section
variable {ct : String → Addr} {X : Cx} {E : EK} {pos p2 : Pos} {a b c e : Expr} {es : List Expr} {A B C : IE} {L : IL}
/-! ### argument lists, displays -/
def iNil : IL := fun _ st => .ok [] st
def iCons (A : IE) (L : IL) : IL := fun env st => (A env st).bind fun d st1 => (L env st1).bind fun ds st2 => .ok (d :: ds) st2
theorem sa_nil : SA ct X E [] iNil := ⟨pa_nil.imp fun σ H Q ⟨m, env, st, re, rs, fin⟩ => Fin.here fin rs _ .nil⟩
theorem sa_cons (ha : SI ct X E e A) (hl : SA ct X E es L) (hs : starEach (e :: es) X.env = (false, eval e X.env) :: starEach es X.env := by rfl) : SA ct X E (e :: es) (iCons A L) :=
  ⟨(pa_cons ha.pe hl.pa hs).imp fun σ H Q ⟨m, env, st, re, rs, fin⟩ => ⟨m, env, st, re, rs, fin.bind.imp fun m1 H1 d st1 g1 rs1 q x rx =>
    ⟨m1, env, st1, re.mono g1, rs1, q.bind.imp fun m2 H2 ds st2 g2 rs2 q2 xs rxs => q2.here rs2 _ (.cons (rx.mono g2) rxs)⟩⟩⟩
/-- an expression that makes a new list -/
def tF (g : G0) (E : EK) (L : IL) : TE := fun σ H Q => ∃ m env st, RE g.K m H env σ ∧ RS g m H st ∧
  Fin g E m H (L env st) (fun m' H' ds _ => ∀ vs, RVs g.K m' H' ds vs → ∀ p, H' p = none → Q (.ref p) (upd H' p (.lst vs)))
variable (ct X E) in
structure SF (e : Expr) (L : IL) : Prop where
  pe : PE X e (tF (gx ct X) E L)
def iRol (L : IL) : IE := fun env st => (L env st).bind fun ds st1 => .ok (.rol ds) st1
def iCell (L : IL) : IE := fun env st => (L env st).bind fun ds st1 => .ok (.ref st1.length) (st1 ++ [.lst ds])
theorem si_rol (h : SF ct X E e L) : SI ct X E e (iRol L) := ⟨h.pe.imp fun σ H Q ⟨m, env, st, re, rs, fin⟩ => ⟨m, env, st, re, rs, fin.bind.imp fun m1 H1 ds st1 g1 rs1 q vs rv p hp =>
  rol_new rs1 rv q p hp⟩⟩
theorem si_cell (h : SF ct X E e L) : SI ct X E e (iCell L) := ⟨h.pe.imp fun σ H Q ⟨m, env, st, re, rs, fin⟩ => ⟨m, env, st, re, rs, fin.bind.imp fun m1 H1 ds st1 g1 rs1 q vs rv p hp => by
  have gr : Grow m1 H1 (m1.add p) (upd H1 p (.lst vs)) := Grow.adopt hp
  refine q _ _ gr (rs1.adopt hp ⟨vs, rv.mono gr, upd_same⟩) _ (.ref ?_)
  show (m1.cs ++ [p])[st1.length]? = some p
  rw [List.getElem?_append_right (by rw [rs1.len]; exact Nat.le_refl _), ← rs1.len]
  simp⟩⟩
def iTup (L : IL) : IE := fun env st => (L env st).bind fun ds st1 => if ds.length ≤ 16777216 then .ok (.tup ds) st1 else .bad
theorem si_tup {x1} (h : SA ct X E es L) : SI ct X E (.Tuple es x1 pos) (iTup L) := ⟨(pe_tup h.pa).imp fun σ H Q ⟨m, env, st, re, rs, fin⟩ => ⟨m, env, st, re, rs, fin.bind.imp fun m1 H1 ds st1 g1 rs1 q vs rv => by
  split at q
  · rename_i hz
    exact ⟨by rw [← rv.length, sl_eq]; exact hz, tup_new rs1 rv q⟩
  · exact q.elim⟩⟩
def iLst (L : IL) : IL := fun env st => (L env st).bind fun ds st1 => if ds.length ≤ 16777216 then .ok ds st1 else .bad
theorem sf_lst (h : SA ct X E es L) : SF ct X E (.List es pos) (iLst L) := ⟨(pe_lst h.pa).imp fun σ H Q ⟨m, env, st, re, rs, fin⟩ => ⟨m, env, st, re, rs, fin.bind.imp fun m1 H1 ds st1 g1 rs1 q vs rv => by
  split at q
  · rename_i hz
    exact ⟨by rw [← rv.length, sl_eq]; exact hz, q.here rs1 vs rv⟩
  · exact q.elim⟩⟩
/-- xs + ys, xs * k as new lists -/
def fLst (f : D → D → Sto → Rs D) : D → D → Sto → Rs (List D) := fun d e st => match f d e st with
  | .ok (.rol ds) st' => .ok ds st'
  | _ => .bad
def iBinL (f : D → D → Sto → Rs D) (A B : IE) : IL := fun env st => (A env st).bind fun d st1 => (B env st1).bind fun e st2 => fLst f d e st2
theorem sf_add (ha : SI ct X E a A) (hb : SI ct X E b B) : SF ct X E (.BinOp a .Add b pos) (iBinL gAdd A B) := ⟨(pe_op op_cat ha.pe hb.pe).imp fun σ H Q ⟨m, env, st, re, rs, fin⟩ =>
  ⟨m, env, st, re, rs, fin.bind.imp fun m1 H1 d st1 g1 rs1 q x rx => ⟨m1, env, st1, re.mono g1, rs1, q.bind.imp fun m2 H2 e st2 g2 rs2 q2 y ry => by
    unfold fLst at q2
    split at q2
    · rename_i ds st' he
      unfold gAdd at he
      split at he
      · cases he
      · split at he <;> cases he
      · split at he <;> cases he
      · split at he
        · rename_i xs ys q3 q4
          split at he
          · rename_i hz
            cases he
            obtain ⟨p, vs, rfl, h1, r1⟩ := list_of rs2 (rx.mono g2) q3
            obtain ⟨p', ws, rfl, h2, r2⟩ := list_of rs2 ry q4
            rw [r1.length, r2.length] at hz
            exact ⟨p, p', vs, ws, rfl, rfl, h1, h2, by rw [sl_eq]; exact hz, q2.here rs2 _ (r1.append r2)⟩
          · cases he
        · cases he
    · exact q2.elim⟩⟩⟩
theorem sf_mul (ha : SI ct X E a A) (hb : SI ct X E b B) : SF ct X E (.BinOp a .Mult b pos) (iBinL gMul A B) := ⟨(pe_op op_rep ha.pe hb.pe).imp fun σ H Q ⟨m, env, st, re, rs, fin⟩ =>
  ⟨m, env, st, re, rs, fin.bind.imp fun m1 H1 d st1 g1 rs1 q x rx => ⟨m1, env, st1, re.mono g1, rs1, q.bind.imp fun m2 H2 e st2 g2 rs2 q2 y ry => by
    unfold fLst at q2
    split at q2
    · rename_i ds st' he
      unfold gMul at he
      split at he
      · split at he <;> cases he
      · split at he
        · rename_i xs q3
          split at he
          · rename_i hz
            cases he
            cases ry
            obtain ⟨p, vs, rfl, h1, r1⟩ := list_of rs2 (rx.mono g2) q3
            rw [r1.length] at hz
            exact ⟨p, _, vs, rfl, rfl, h1, hz.1, hz.2.1, by rw [sl_eq]; exact hz.2.2, q2.here rs2 _ (r1.flat _)⟩
          · cases he
        · cases he
      · cases he
    · exact q2.elim⟩⟩⟩

/-! ### subscripts, slices -/
theorem RVs.atI {K : PySem.W.Frag} {m : Mp} {H : Hp} {ds : List D} {vs : List V} {i : Int} {d : D} (r : RVs K m H ds vs) (e : L2.atI ds i = some d) : ∃ v, L2.atI vs i = some v ∧ RV K m H d v := by
  unfold L2.atI at e ⊢
  rw [← r.length]
  cases h : ixN ds.length i with
  | none => rw [h] at e; cases e
  | some j =>
    rw [h] at e
    exact r.get e
def gIx : D → D → Sto → Rs D := fun d e st => match e with
  | .int i => match d with
    | .str z => if z.length ≤ 16777216 then (match atI z.cps.toList i with
      | some c => .ok (.str ⟨#[c]⟩) st
      | none => .bad) else .bad
    | _ => match seqAt st d with
      | some xs => match atI xs i with
        | some v => .ok v st
        | none => .bad
      | none => .bad
  | _ => .bad
theorem ops_ix {g : G0} : OpS g E gIx (rIx g.K) := by
  intro m H st d e x y Q rs rx ry fin
  unfold gIx at fin
  split at fin
  · cases ry
    split at fin
    · cases rx
      split at fin
      · rename_i hz
        split at fin
        · rename_i c hc
          exact .inr (.inr ⟨_, _, c, rfl, rfl, by rw [sl_eq]; exact hz, hc, fin.here rs _ (.str _)⟩)
        · exact fin.elim
      · exact fin.elim
    · split at fin
      · rename_i xs hq
        split at fin
        · rename_i v hv
          obtain ⟨p, vs, rfl, hs, r⟩ := seq_of rs rx hq
          obtain ⟨w, hw, rw'⟩ := r.atI hv
          rcases hs with hs | hs
          · exact .inl ⟨p, vs, _, w, rfl, rfl, hs, hw, fin.here rs _ rw'⟩
          · exact .inr (.inl ⟨p, vs, _, w, rfl, rfl, hs, hw, fin.here rs _ rw'⟩)
        · exact fin.elim
      · exact fin.elim
  · exact fin.elim
theorem si_ix (ha : SI ct X E a A) (hb : SI ct X E b B) (hs : PlainIx b := by exact fun _ _ => rfl) : SI ct X E (.Subscript a b pos) (iBin gIx A B) :=
  ⟨(pe_ix ix_seq ha.pe hb.pe hs).imp fun _ _ _ h => bin_tI ops_ix h⟩
abbrev IO := Ev → Sto → Rs (Option Int)
variable (ct X E) in
structure SO (e : Option Expr) (I : IO) : Prop where
  po : PO X e (fun σ H Q => ∃ m env st, RE X.K m H env σ ∧ RS (gx ct X) m H st ∧ Fin (gx ct X) E m H (I env st) (fun _ H' o _ => Q o H'))
theorem _root_.L2.PO.imp {X : Cx} {e : Option Expr} {t t' : TO} (h : PO X e t) (f : ∀ σ H Q, t' σ H Q → t σ H Q) : PO X e t' := ⟨fun pins s σ H Q I q => h.run pins s σ H Q I (f σ H Q q)⟩
def oNone : IO := fun _ st => .ok none st
def oSome (A : IE) : IO := fun env st => (A env st).bind fun d st1 => match d with
  | .int i => .ok (some i) st1
  | _ => .bad
theorem so_none : SO ct X E none oNone := ⟨po_none.imp fun σ H Q ⟨m, env, st, re, rs, fin⟩ => Fin.here fin rs⟩
theorem so_some (h : SI ct X E e A) : SO ct X E (some e) (oSome A) := ⟨(po_some h.pe).imp fun σ H Q ⟨m, env, st, re, rs, fin⟩ => ⟨m, env, st, re, rs, fin.bind.imp fun m1 H1 d st1 g1 rs1 q x rx => by
  split at q
  · cases rx; exact ⟨_, rfl, q.here rs1⟩
  · exact q.elim⟩⟩
def cut {α : Type} (xs : List α) (lo hi : Option Int) : List α := (xs.drop (HT.sIx xs.length 0 lo)).take (HT.sIx xs.length xs.length hi - HT.sIx xs.length 0 lo)
theorem RVs.cut {K : PySem.W.Frag} {m : Mp} {H : Hp} {ds : List D} {vs : List V} (r : RVs K m H ds vs) (lo hi : Option Int) : RVs K m H (QI.cut ds lo hi) (cutV vs lo hi) := by
  unfold QI.cut cutV
  rw [← r.length]
  exact (r.drop _).take _
theorem cut_whole {α : Type} {xs : List α} {lo hi : Option Int} (h : HT.sIx xs.length 0 lo = 0 ∧ HT.sIx xs.length xs.length hi = xs.length) : cut xs lo hi = xs := by
  unfold cut
  rw [h.1, h.2]
  simp
def gSl (d : D) (lo hi : Option Int) (st : Sto) : Rs D := match d with
  | .tup xs => .ok (.tup (cut xs lo hi)) st
  | .str z => if z.length ≤ 16777216 then .ok (.str (cutS z lo hi)) st else .bad
  | _ => match seqAt st d with
    | some xs => .ok (.rol (cut xs lo hi)) st
    | none => .bad
def iSl (A : IE) (lo hi : IO) : IE := fun env st => (A env st).bind fun d st1 => (lo env st1).bind fun l st2 => (hi env st2).bind fun h st3 => gSl d l h st3
variable {lo hi : Option Expr} {Lo Hi : IO}
theorem seqL_of {g : G0} {m : Mp} {H : Hp} {st : Sto} {d : D} {x : V} {xs : List D} (rs : RS g m H st) (r : RV g.K m H d x) (hn : ∀ ys, d ≠ .tup ys) (e : seqAt st d = some xs) : ∃ p vs, x = .ref p ∧ SqL g.K H p vs ∧ RVs g.K m H xs vs := by
  cases d with
  | tup ys => exact absurd rfl (hn ys)
  | rol ys =>
    cases e
    cases r with
    | rol h1 h2 => exact ⟨_, _, rfl, h1.sq, h2⟩
  | scr ys =>
    cases e
    cases r with
    | scr h1 h2 => exact ⟨_, _, rfl, h1.sq, h2⟩
  | ref n =>
    cases r with
    | ref h1 =>
      unfold seqAt at e
      simp only at e
      split at e
      · rename_i ys q
        cases e
        obtain ⟨vs, h2, h3⟩ := rs.rc n _ _ h1 q
        exact ⟨_, vs, rfl, SqL.of h3, h2⟩
      · cases e
  | _ => cases e
theorem sl_ok {m : Mp} {H : Hp} {st : Sto} {d : D} {x : V} {l h : Option Int} {Q : VK} {g : G0} (rs : RS g m H st) (rx : RV g.K m H d x) (fin : Fin g E m H (gSl d l h st) (EndE g Q)) :
    rSlA g.K x l h H Q ∨ ((∃ z, x = .str z ∧ z.length ≤ sizeLine ∧ Q (.str (cutS z l h)) H) ∨ rSlL g.K x l h H Q) := by
  unfold gSl at fin
  split at fin
  · rename_i xs
    cases rx with
    | tup h1 h2 =>
      refine .inl ⟨_, _, rfl, h1.sq, fun w => ?_, fun w => tup_new rs (h2.cut _ _) fin⟩
      rw [← h2.length] at w
      rw [cut_whole w] at fin
      exact fin.here rs _ (.tup h1 h2)
  · cases rx
    split at fin
    · rename_i hz
      exact .inr (.inl ⟨_, rfl, by rw [sl_eq]; exact hz, fin.here rs _ (.str _)⟩)
    · exact fin.elim
  · rename_i h1 h2
    split at fin
    · rename_i xs hq
      obtain ⟨p, vs, rfl, hs, r⟩ := seqL_of rs rx h1 hq
      exact .inr (.inr ⟨p, vs, rfl, hs, rol_new rs (r.cut _ _) fin⟩)
    · exact fin.elim
theorem si_sl (ha : SI ct X E a A) (hl : SO ct X E lo Lo) (hh : SO ct X E hi Hi) : SI ct X E (.Subscript a (.Slice lo hi none p2) pos) (iSl A Lo Hi) :=
  ⟨(pe_slice (sl_tupA.or (sl_str.or sl_list)) ha.pe hl.po hh.po).imp fun σ H Q ⟨m, env, st, re, rs, fin⟩ => ⟨m, env, st, re, rs, fin.bind.imp fun m1 H1 d st1 g1 rs1 q x rx =>
    ⟨m1, env, st1, re.mono g1, rs1, q.bind.imp fun m2 H2 l st2 g2 rs2 q2 => ⟨m2, env, st2, (re.mono g1).mono g2, rs2, q2.bind.imp fun m3 H3 h st3 g3 rs3 q3 => sl_ok rs3 ((rx.mono g2).mono g3) q3⟩⟩⟩⟩

/-! ### calls of built-ins -/
def CallS (g : G0) (E : EK) (f : List D → Sto → Rs D) (r : List V → Hp → VK → Prop) : Prop :=
  ∀ (m : Mp) (H : Hp) (st : Sto) (ds : List D) (vs : List V) (Q : VK), RS g m H st → RVs g.K m H ds vs → Fin g E m H (f ds st) (EndE g Q) → r vs H Q
def CB (ct : String → Addr) (X : Cx) (E : EK) (v : Value) (f : List D → Sto → Rs D) : Prop := ∃ r, CallR X v r ∧ CallS (gx ct X) E f r
def iCallB (f : List D → Sto → Rs D) (L : IL) : IE := fun env st => (L env st).bind f
theorem callB_tI {f : List D → Sto → Rs D} {r : List V → Hp → VK → Prop} (hr : CallS (gx ct X) E f r) {σ : L2.St} {H : Hp} {Q : VK} (h : tI (gx ct X) E (iCallB f L) σ H Q) : tCB r (tIA (gx ct X) E L) σ H Q := by
  obtain ⟨m, env, st, re, rs, fin⟩ := h
  exact ⟨m, env, st, re, rs, fin.bind.imp fun m1 H1 ds st1 g1 rs1 q vs rv => hr m1 H1 st1 ds vs Q rs1 rv q⟩
theorem si_callB {id : String} {f : List D → Sto → Rs D} {x : Str} {p : Pos} (hc : CB ct X E (.builtin id) f) (hg : Gl X x) (hm : X.mg x = none) (hv : bootBuiltins x = some (.builtin id)) (ha : SA ct X E (e :: es) L) (hn : x ≠ "__name__" := by decide) (hdb : (x == ("__debug__" : Str)) = false := by decide)
    (he : starEach (e :: es) X.env = (false, eval e X.env) :: starEach es X.env := by rfl) (hpl : (backTo pos (starEach es X.env)).any (·.1) = false := by rfl) : SI ct X E (.Call (.Name x p) (e :: es) [] pos) (iCallB f L) := by
  obtain ⟨r, hc, hr⟩ := hc
  exact ⟨(pe_callB hc hg hm hv ha.pa hn hdb he hpl).imp fun _ _ _ h => callB_tI hr h⟩
theorem si_callTy {T : String} {f : List D → Sto → Rs D} {x : Str} {p : Pos} (hc : CB ct X E (.type T) f) (hg : Gl X x) (hm : X.mg x = none) (hv : bootBuiltins x = some (.type T)) (ha : SA ct X E (e :: es) L) (hn : x ≠ "__name__" := by decide) (hdb : (x == ("__debug__" : Str)) = false := by decide)
    (he : starEach (e :: es) X.env = (false, eval e X.env) :: starEach es X.env := by rfl) (hpl : (backTo pos (starEach es X.env)).any (·.1) = false := by rfl) : SI ct X E (.Call (.Name x p) (e :: es) [] pos) (iCallB f L) := by
  obtain ⟨r, hc, hr⟩ := hc
  exact ⟨(pe_callTy hc hg hm hv ha.pa hn hdb he hpl).imp fun _ _ _ h => callB_tI hr h⟩
def gLen : List D → Sto → Rs D
  | [.str z], st => if z.length ≤ 16777216 then .ok (.int z.length) st else .bad
  | [d], st => match seqAt st d with
    | some xs => .ok (.int xs.length) st
    | none => .bad
  | _, _ => .bad
theorem cb_len : CB ct X E (.builtin "len") gLen := ⟨_, call_len_str.or call_len_seq, fun m H st ds vs Q rs rv fin => by
  unfold gLen at fin
  split at fin
  · cases rv with
    | cons r1 r2 =>
      cases r2; cases r1
      split at fin
      · rename_i hz
        exact .inl ⟨_, rfl, by rw [sl_eq]; exact hz, fin.here rs _ (.int _)⟩
      · exact fin.elim
  · cases rv with
    | cons r1 r2 =>
      cases r2
      split at fin
      · rename_i xs hq
        obtain ⟨p, ws, rfl, hs, r⟩ := seq_of rs r1 hq
        exact .inr ⟨p, ws, rfl, hs, by rw [← r.length]; exact fin.here rs _ (.int _)⟩
      · exact fin.elim
  · exact fin.elim⟩
def gAbs : List D → Sto → Rs D
  | [.int i], st => .ok (.int (if i < 0 then -i else i)) st
  | _, _ => .bad
theorem cb_abs : CB ct X E (.builtin "abs") gAbs := ⟨_, call_abs, fun m H st ds vs Q rs rv fin => by
  unfold gAbs at fin
  split at fin
  · cases rv with
    | cons r1 r2 => cases r2; cases r1; exact ⟨_, rfl, fin.here rs _ (.int _)⟩
  · exact fin.elim⟩
def gInt : List D → Sto → Rs D
  | [.int i], st => .ok (.int i) st
  | [.bl k], st => .ok (.int (if k then 1 else 0)) st
  | _, _ => .bad
theorem cb_int : CB ct X E (.type "int") gInt := ⟨_, call_int1, fun m H st ds vs Q rs rv fin => by
  unfold gInt at fin
  split at fin
  · cases rv with
    | cons r1 r2 => cases r2; cases r1; exact .inl ⟨_, rfl, fin.here rs _ (.int _)⟩
  · cases rv with
    | cons r1 r2 => cases r2; cases r1; exact .inr ⟨_, rfl, fin.here rs _ (.int _)⟩
  · exact fin.elim⟩
def ints? : List D → Option (List Int)
  | [] => some []
  | .int i :: ds => match ints? ds with
    | some ns => some (i :: ns)
    | none => none
  | _ :: _ => none
theorem ints_of {K : PySem.W.Frag} {m : Mp} {H : Hp} : ∀ {ds : List D} {vs : List V} {ns : List Int}, RVs K m H ds vs → ints? ds = some ns → vs = ns.map V.int
  | [], _, _, r, e => by cases r; cases e; rfl
  | d :: ds, _, _, r, e => by
    cases r with
    | cons r1 r2 =>
      cases d with
      | int i =>
        cases r1
        simp only [ints?] at e
        split at e
        · rename_i ns q
          cases e
          rw [ints_of r2 q]; rfl
        · cases e
      | _ => simp [ints?] at e
@[simp] theorem ints_map : ∀ ns : List Int, ints? (ns.map D.int) = some ns
  | [] => rfl
  | i :: ns => by simp [ints?, ints_map ns]
def maxL : List Int → Int
  | [] => 0
  | [i] => i
  | i :: ns => max i (maxL ns)
def minL : List Int → Int
  | [] => 0
  | [i] => i
  | i :: ns => min i (minL ns)
theorem maxL_is : ∀ {ns : List Int}, 0 < ns.length → ∀ {m : Int}, m ∈ ns → (∀ y, y ∈ ns → y ≤ m) → m = maxL ns
  | [], h, _, _, _ => absurd h (by simp)
  | [i], _, m, h1, h2 => by simp at h1; exact h1
  | i :: j :: ns, _, m, h1, h2 => by
    show m = max i (maxL (j :: ns))
    have hi := h2 i (by simp)
    have key : ∀ k, k ∈ (j :: ns) → k ≤ maxL (j :: ns) := by
      have : ∀ (l : List Int) (k : Int), k ∈ l → k ≤ maxL l := by
        intro l
        induction l with
        | nil => intro k hk; cases hk
        | cons a l ih =>
          intro k hk
          cases l with
          | nil => simp at hk; simp [maxL, hk]
          | cons b l =>
            show k ≤ max a (maxL (b :: l))
            rcases List.mem_cons.mp hk with rfl | hk
            · omega
            · have := ih k hk; omega
      exact this _
    have mem : maxL (j :: ns) ∈ (j :: ns) := by
      have : ∀ (l : List Int), 0 < l.length → maxL l ∈ l := by
        intro l
        induction l with
        | nil => intro h; simp at h
        | cons a l ih =>
          intro _
          cases l with
          | nil => simp [maxL]
          | cons b l =>
            show max a (maxL (b :: l)) ∈ _
            by_cases q : a ≤ maxL (b :: l)
            · rw [Int.max_eq_right q]; exact List.mem_cons_of_mem _ (ih (by simp))
            · rw [Int.max_eq_left (by omega)]; exact List.mem_cons_self
      exact this _ (by simp)
    have h3 := h2 _ (List.mem_cons_of_mem i mem)
    rcases List.mem_cons.mp h1 with rfl | h1
    · omega
    · have := key m h1; omega
theorem minL_is {ns : List Int} (h : 0 < ns.length) {m : Int} (h1 : m ∈ ns) (h2 : ∀ y, y ∈ ns → m ≤ y) : m = minL ns := by
  have e : ∀ l : List Int, minL l = - maxL (l.map fun i => -i) := by
    intro l
    induction l with
    | nil => rfl
    | cons a l ih =>
      cases l with
      | nil => simp [minL, maxL]
      | cons b l =>
        show min a (minL (b :: l)) = - max (-a) (maxL ((b :: l).map fun i => -i))
        rw [ih]; omega
  have := maxL_is (ns := ns.map fun i => -i) (by simpa using h) (m := -m) (List.mem_map.mpr ⟨m, h1, rfl⟩) (fun y hy => by
    obtain ⟨z, hz, rfl⟩ := List.mem_map.mp hy
    have := h2 z hz; omega)
  rw [e]; omega
def gMax : List D → Sto → Rs D
  | [.int i, .int j], st => .ok (.int (if j > i then j else i)) st
  | [d], st => match listAt st d with
    | some xs => match ints? xs with
      | some ns => if 0 < ns.length then .ok (.int (maxL ns)) st else .bad
      | none => .bad
    | none => .bad
  | _, _ => .bad
def gMin : List D → Sto → Rs D
  | [.int i, .int j], st => .ok (.int (if j < i then j else i)) st
  | [d], st => match listAt st d with
    | some xs => match ints? xs with
      | some ns => if 0 < ns.length then .ok (.int (minL ns)) st else .bad
      | none => .bad
    | none => .bad
  | _, _ => .bad
theorem cb_max (hc : X.calm = true) : CB ct X E (.builtin "max") gMax := ⟨_, (call_max2 hc).or (cr_max hc), fun m H st ds vs Q rs rv fin => by
  unfold gMax at fin
  split at fin
  · cases rv with
    | cons r1 r2 =>
      cases r2 with
      | cons r2 r3 => cases r3; cases r1; cases r2; exact .inl ⟨_, _, rfl, fin.here rs _ (.int _)⟩
  · cases rv with
    | cons r1 r2 =>
      cases r2
      split at fin
      · rename_i xs hq
        split at fin
        · rename_i ns hn
          split at fin
          · rename_i hz
            obtain ⟨p, ws, rfl, hs, r⟩ := list_of rs r1 hq
            have e := ints_of r hn
            subst e
            exact .inr ⟨p, ns, rfl, SqL.of hs, hz, fun k h1 h2 => by rw [maxL_is hz h1 h2]; exact fin.here rs _ (.int _)⟩
          · exact fin.elim
        · exact fin.elim
      · exact fin.elim
  · exact fin.elim⟩
theorem cb_min (hc : X.calm = true) : CB ct X E (.builtin "min") gMin := ⟨_, (call_min2 hc).or (cr_min hc), fun m H st ds vs Q rs rv fin => by
  unfold gMin at fin
  split at fin
  · cases rv with
    | cons r1 r2 =>
      cases r2 with
      | cons r2 r3 => cases r3; cases r1; cases r2; exact .inl ⟨_, _, rfl, fin.here rs _ (.int _)⟩
  · cases rv with
    | cons r1 r2 =>
      cases r2
      split at fin
      · rename_i xs hq
        split at fin
        · rename_i ns hn
          split at fin
          · rename_i hz
            obtain ⟨p, ws, rfl, hs, r⟩ := list_of rs r1 hq
            have e := ints_of r hn
            subst e
            exact .inr ⟨p, ns, rfl, SqL.of hs, hz, fun k h1 h2 => by rw [minL_is hz h1 h2]; exact fin.here rs _ (.int _)⟩
          · exact fin.elim
        · exact fin.elim
      · exact fin.elim
  · exact fin.elim⟩
def gSum : List D → Sto → Rs D
  | [d], st => match listAt st d with
    | some xs => match ints? xs with
      | some ns => .ok (.int ns.sum) st
      | none => .bad
    | none => .bad
  | _, _ => .bad
theorem cb_sum (hc : X.calm = true) : CB ct X E (.builtin "sum") gSum := ⟨_, cr_sum hc, fun m H st ds vs Q rs rv fin => by
  unfold gSum at fin
  split at fin
  · cases rv with
    | cons r1 r2 =>
      cases r2
      split at fin
      · rename_i xs hq
        split at fin
        · rename_i ns hn
          obtain ⟨p, ws, rfl, hs, r⟩ := list_of rs r1 hq
          have e := ints_of r hn
          subst e
          exact ⟨p, ns, rfl, SqL.of hs, fin.here rs _ (.int _)⟩
        · exact fin.elim
      · exact fin.elim
  · exact fin.elim⟩
def gTuple : List D → Sto → Rs D
  | [d], st => match seqAt st d with
    | some xs => .ok (.tup xs) st
    | none => .bad
  | _, _ => .bad
theorem cb_tuple : CB ct X E (.type "tuple") gTuple := ⟨_, call_tuple_of, fun m H st ds vs Q rs rv fin => by
  unfold gTuple at fin
  split at fin
  · rename_i d
    cases rv with
    | cons r1 r2 =>
      cases r2
      split at fin
      · rename_i xs hq
        by_cases ht : ∃ ys, d = .tup ys
        · obtain ⟨ys, rfl⟩ := ht
          cases hq
          cases r1 with
          | tup h1 h2 => exact ⟨_, _, rfl, .inr ⟨h1.sq, fin.here rs _ (.tup h1 h2)⟩⟩
        · obtain ⟨p, ws, rfl, hs, r⟩ := seqL_of rs r1 (fun ys z => ht ⟨ys, z⟩) hq
          exact ⟨p, ws, rfl, .inl ⟨hs, tup_new rs r fin⟩⟩
      · exact fin.elim
  · exact fin.elim⟩
/-- list(x) -/
def iListOf (L : IL) : IL := fun env st => (L env st).bind fun ds st1 => match ds with
  | [d] => match seqAt st1 d with
    | some xs => .ok xs st1
    | none => .bad
  | _ => .bad
theorem sf_list {p : Pos} (hg : Gl X "list") (hm : X.mg "list" = none) (ha : SA ct X E [a] L) (he : starEach [a] X.env = (false, eval a X.env) :: starEach [] X.env := by rfl) : SF ct X E (.Call (.Name "list" p) [a] [] pos) (iListOf L) :=
  ⟨(pe_callTy call_list_of hg hm boot_list ha.pa (by decide) (by decide) he (by rfl)).imp fun σ H Q ⟨m, env, st, re, rs, fin⟩ => ⟨m, env, st, re, rs, fin.bind.imp fun m1 H1 ds st1 g1 rs1 q vs rv => by
    split at q
    · cases rv with
      | cons r1 r2 =>
        cases r2
        split at q
        · rename_i xs hq
          obtain ⟨p, ws, rfl, hs, r⟩ := seq_of rs1 r1 hq
          exact ⟨p, ws, rfl, hs, q.here rs1 ws r⟩
        · exact q.elim
    · exact q.elim⟩⟩
end
end QI

namespace QI
open PySem PySem.Spec PyProof.Rows L2

/-! ### statements -/
def EndS (g : G0) (Dn : Ends) : Mp → Hp → Fl → Sto → Prop := fun m' H' fl _ => match fl with
  | .nx env' => ∀ σ', RE g.K m' H' env' σ' → Dn.nx σ' H'
  | .rt d => ∀ v, RV g.K m' H' d v → Dn.rt v H'
  | .bk env' => ∀ σ', RE g.K m' H' env' σ' → Dn.bk σ' H'
  | .ct env' => ∀ σ', RE g.K m' H' env' σ' → Dn.ct σ' H'
def tS (g : G0) (E : EK) (S : IS) : TS := fun Dn σ H => ∃ m env st, RE g.K m H env σ ∧ RS g m H st ∧ Fin g E m H (S env st) (EndS g Dn)
section
variable (ct : String → Addr) (X : Cx) (E : EK)
structure SS (st : Stmt) (S : IS) : Prop where
  ps : PS X st (tS (gx ct X) E S)
structure SSs (st : List Stmt) (S : IS) : Prop where
  pss : PSs X st (tS (gx ct X) E S)
end
theorem _root_.L2.PS.imp {X : Cx} {e : Stmt} {t t' : TS} (h : PS X e t) (f : ∀ D σ H, t' D σ H → t D σ H) : PS X e t' := ⟨fun pins s σ H D I q => h.run pins s σ H D I (f D σ H q)⟩
theorem _root_.L2.PSs.imp {X : Cx} {e : List Stmt} {t t' : TS} (h : PSs X e t) (f : ∀ D σ H, t' D σ H → t D σ H) : PSs X e t' := ⟨fun pins s σ H D I q => h.run pins s σ H D I (f D σ H q)⟩
theorem _root_.L2.PSs.both {X : Cx} {e : List Stmt} {t t' t2 : TS} (h : PSs X e t) (h' : PSs X e t') (f : ∀ D σ H, t2 D σ H → t D σ H ∨ t' D σ H) : PSs X e t2 := ⟨fun pins s σ H D I q => (f D σ H q).elim (h.run pins s σ H D I) (h'.run pins s σ H D I)⟩
theorem _root_.L2.PS.both {X : Cx} {e : Stmt} {t t' t2 : TS} (h : PS X e t) (h' : PS X e t') (f : ∀ D σ H, t2 D σ H → t D σ H ∨ t' D σ H) : PS X e t2 := ⟨fun pins s σ H D I q => (f D σ H q).elim (h.run pins s σ H D I) (h'.run pins s σ H D I)⟩

def sNil : IS := fun env st => .ok (.nx env) st
def sSeq (S T : IS) : IS := fun env st => (S env st).bind fun fl st1 => match fl with
  | .nx env1 => T env1 st1
  | fl => .ok fl st1
def sBreak : IS := fun env st => .ok (.bk env) st
def sCont : IS := fun env st => .ok (.ct env) st
def sRet (A : IE) : IS := fun env st => (A env st).bind fun d st1 => .ok (.rt d) st1
def sRetN : IS := fun _ st => .ok (.rt .non) st
def sDrop (A : IE) : IS := fun env st => (A env st).bind fun _ st1 => .ok (.nx env) st1
def sIf (T : IT) (S U : IS) : IS := fun env st => (T env st).bind fun b st1 => if b = true then S env st1 else U env st1
def sSet (i : Nat) (A : IE) : IS := fun env st => (A env st).bind fun d st1 => .ok (.nx (env.set i (some d))) st1
def sNever : IS := fun _ _ => .bad

section
variable {ct : String → Addr} {X : Cx} {E : EK} {pos p2 : Pos} {a b c e : Expr} {es : List Expr} {A B C : IE} {L : IL} {T : IT} {s : Stmt} {ss ss' : List Stmt} {S U : IS}
theorem ss_nil : SSs ct X E [] sNil := ⟨pss_nil.imp fun Dn σ H ⟨m, env, st, re, rs, fin⟩ => Fin.here fin rs σ re⟩
theorem ss_cons (h1 : SS ct X E s S) (h2 : SSs ct X E ss U) : SSs ct X E (s :: ss) (sSeq S U) :=
  ⟨(pss_cons h1.ps h2.pss).imp fun Dn σ H ⟨m, env, st, re, rs, fin⟩ => ⟨m, env, st, re, rs, fin.bind.imp fun m1 H1 fl st1 g1 rs1 q => by
    cases fl with
    | nx env1 => exact fun σ' re' => ⟨m1, env1, st1, re', rs1, q⟩
    | rt d => exact Fin.here (E := E) (show Fin _ E m1 H1 (.ok (.rt d) st1) (EndS _ Dn) from q) rs1
    | bk e1 => exact Fin.here (E := E) (show Fin _ E m1 H1 (.ok (.bk e1) st1) (EndS _ Dn) from q) rs1
    | ct e1 => exact Fin.here (E := E) (show Fin _ E m1 H1 (.ok (.ct e1) st1) (EndS _ Dn) from q) rs1⟩⟩
theorem ss_one (h1 : SS ct X E s S) : SSs ct X E [s] S := ⟨pss_one h1.ps⟩
theorem s_pass : SS ct X E (.Pass pos) sNil := ⟨ps_pass.imp fun Dn σ H ⟨m, env, st, re, rs, fin⟩ => Fin.here fin rs σ re⟩
theorem s_break : SS ct X E (.Break pos) sBreak := ⟨ps_break.imp fun Dn σ H ⟨m, env, st, re, rs, fin⟩ => Fin.here fin rs σ re⟩
theorem s_cont : SS ct X E (.Continue pos) sCont := ⟨ps_continue.imp fun Dn σ H ⟨m, env, st, re, rs, fin⟩ => Fin.here fin rs σ re⟩
theorem s_never : SS ct X E s sNever := ⟨ps_never.imp fun Dn σ H ⟨m, env, st, re, rs, fin⟩ => fin⟩
theorem ss_never : SSs ct X E ss sNever := ⟨pss_never.imp fun Dn σ H ⟨m, env, st, re, rs, fin⟩ => fin⟩
theorem s_ret (h : SI ct X E e A) : SS ct X E (.Return (some e) pos) (sRet A) := ⟨(ps_ret h.pe).imp fun Dn σ H ⟨m, env, st, re, rs, fin⟩ => ⟨m, env, st, re, rs, fin.bind.imp fun m1 H1 d st1 g1 rs1 q v rv => q.here rs1 v rv⟩⟩
theorem s_retN : SS ct X E (.Return none pos) sRetN := ⟨ps_retN.imp fun Dn σ H ⟨m, env, st, re, rs, fin⟩ => Fin.here fin rs .non .non⟩
theorem s_expr (h : SI ct X E e A) (hs : swapsWith e none pos.line X.env = pure false := by rfl) : SS ct X E (.Expr e pos) (sDrop A) :=
  ⟨(ps_expr h.pe hs).imp fun Dn σ H ⟨m, env, st, re, rs, fin⟩ => ⟨m, env, st, re, rs, fin.bind.imp fun m1 H1 d st1 g1 rs1 q v rv => q.here rs1 σ (re.mono g1)⟩⟩
theorem s_if (hc : SB ct X E c T) (ha : SSs ct X E ss S) (hb : SSs ct X E ss' U) : SS ct X E (.If c ss ss' pos) (sIf T S U) :=
  ⟨(ps_if hc.pt ha.pss hb.pss).imp fun Dn σ H ⟨m, env, st, re, rs, fin⟩ => ⟨m, env, st, re, rs, fin.bind.imp fun m1 H1 b st1 g1 rs1 q => by
    cases b with
    | true => rw [if_pos rfl] at q ⊢; exact ⟨m1, env, st1, re.mono g1, rs1, q⟩
    | false => rw [if_neg Bool.false_ne_true] at q ⊢; exact ⟨m1, env, st1, re.mono g1, rs1, q⟩⟩⟩
theorem s_set (i : Nat) {x : Str} {p' : Pos} (hN : X.N.Nodup) (h : SI ct X E e A) (hi : X.N[i]? = some x := by rfl) (hx : Loc X.env.scope x := by first | exact .inl rfl | exact .inr rfl) (hs : swapsWith e (some (.Name x p')) pos.line X.env = pure false := by rfl)
    (hf : X.fn x = true ∨ X.env.scope.names.lookup x = some .local := by first | exact .inl rfl | exact .inr rfl) : SS ct X E (.Assign [.Name x p'] e pos) (sSet i A) :=
  ⟨(ps_set (i := i) hN hi hx h.pe hs hf).imp fun Dn σ H ⟨m, env, st, re, rs, fin⟩ => ⟨m, env, st, re, rs, fin.bind.imp fun m1 H1 d st1 g1 rs1 q v rv => q.here rs1 _ ((re.mono g1).set rv i)⟩⟩
/-- a, b = x, y: local names -/
def sPar (is : List Nat) (L : IL) : IS := fun env st => (L env st).bind fun ds st1 => if ds.length = is.length then .ok (.nx ((is.zip ds).foldl (fun e p => e.set p.1 (some p.2)) env)) st1 else .bad
theorem s_par2 (i j : Nat) {x y : Str} {px py pt : Pos} {kt k2 pt2} (hc : X.calm = true) (hN : X.N.Nodup) (h : SA ct X E [a, b] L) (hi : X.N[i]? = some x := by rfl) (hj : X.N[j]? = some y := by rfl) (hij : i ≠ j := by decide)
    (hx : X.env.scope.names.lookup x = some .local := by rfl) (hy : X.env.scope.names.lookup y = some .local := by rfl)
    (hw : swappedStores [.Tuple [.Name x px, .Name y py] kt pt] (.Tuple [a, b] k2 pt2) X.env = pure (some [x, y]) := by rfl)
    (hs : swapsWithSole [.Tuple [.Name x px, .Name y py] kt pt] (.Tuple [a, b] k2 pt2) pos.line X.env = pure false := by rfl) :
    SS ct X E (.Assign [.Tuple [.Name x px, .Name y py] kt pt] (.Tuple [a, b] k2 pt2) pos) (sPar [i, j] L) :=
  ⟨(ps_par hc hN hi hj hij hx hy h.pa hw hs).imp fun Dn σ H ⟨m, env, st, re, rs, fin⟩ => ⟨m, env, st, re, rs, fin.bind.imp fun m1 H1 ds st1 g1 rs1 q vs rv => by
    split at q
    · rename_i hl
      match ds, hl with
      | [d, e], _ =>
        cases rv with
        | cons r1 r2 =>
          cases r2 with
          | cons r2 r3 =>
            cases r3
            exact ⟨_, _, rfl, q.here rs1 _ (((re.mono g1).set r1 i).set r2 j)⟩
    · exact q.elim⟩⟩
theorem s_par3 (i j l : Nat) {x y z : Str} {px py pz pt : Pos} {kt k2 pt2} (hc : X.calm = true) (hN : X.N.Nodup) (h : SA ct X E [a, b, c] L) (hi : X.N[i]? = some x := by rfl) (hj : X.N[j]? = some y := by rfl) (hl : X.N[l]? = some z := by rfl) (hij : i ≠ j := by decide) (hil : i ≠ l := by decide) (hjl : j ≠ l := by decide)
    (hx : X.env.scope.names.lookup x = some .local := by rfl) (hy : X.env.scope.names.lookup y = some .local := by rfl) (hz : X.env.scope.names.lookup z = some .local := by rfl)
    (hw : swappedStores [.Tuple [.Name x px, .Name y py, .Name z pz] kt pt] (.Tuple [a, b, c] k2 pt2) X.env = pure (some [x, y, z]) := by rfl)
    (hs : swapsWithSole [.Tuple [.Name x px, .Name y py, .Name z pz] kt pt] (.Tuple [a, b, c] k2 pt2) pos.line X.env = pure false := by rfl) :
    SS ct X E (.Assign [.Tuple [.Name x px, .Name y py, .Name z pz] kt pt] (.Tuple [a, b, c] k2 pt2) pos) (sPar [i, j, l] L) :=
  ⟨(ps_par3 hc hN hi hj hl hij hil hjl hx hy hz h.pa hw hs).imp fun Dn σ H ⟨m, env, st, re, rs, fin⟩ => ⟨m, env, st, re, rs, fin.bind.imp fun m1 H1 ds st1 g1 rs1 q vs rv => by
    split at q
    · rename_i hl
      match ds, hl with
      | [d, e, f], _ =>
        cases rv with
        | cons r1 r2 =>
          cases r2 with
          | cons r2 r3 =>
            cases r3 with
            | cons r3 r4 =>
              cases r4
              exact ⟨_, _, _, rfl, q.here rs1 _ ((((re.mono g1).set r1 i).set r2 j).set r3 l)⟩
    · exact q.elim⟩⟩
end

/-! ### patterns: names, tuples of patterns -/
inductive Pt where
  | nm (i : Nat) | tp (ps : List Pt)
mutual
def Pt.put : Pt → D → Ev → Option Ev
  | .nm i, d, env => some (env.set i (some d))
  | .tp ps, d, env => match d with
    | .tup ds => Pt.puts ps ds env
    | _ => none
def Pt.puts : List Pt → List D → Ev → Option Ev
  | [], [], env => some env
  | p :: ps, d :: ds, env => match Pt.put p d env with
    | some env' => Pt.puts ps ds env'
    | none => none
  | _, _, _ => none
end
mutual
def Pt.slots : Pt → List Nat
  | .nm i => [i]
  | .tp ps => Pt.slotsAll ps
def Pt.slotsAll : List Pt → List Nat
  | [] => []
  | p :: ps => Pt.slots p ++ Pt.slotsAll ps
end
mutual
def Pt.t (K : PySem.W.Frag) : Pt → TG
  | .nm i => gName i
  | .tp ps => gTup K ps.length (Pt.ts K ps)
def Pt.ts (K : PySem.W.Frag) : List Pt → TGs
  | [] => gNil
  | p :: ps => gCons (Pt.t K p) (Pt.ts K ps)
end
theorem wipe_set_in {σ : L2.St} {i : Nat} {o : Option V} : ∀ {vs : List Nat}, i ∈ vs → wipe (σ.set i o) vs = wipe σ vs
  | v :: vs, h => by
    show (wipe (σ.set i o) vs).set v none = (wipe σ vs).set v none
    by_cases hv : i ∈ vs
    · rw [wipe_set_in hv]
    · have e : v = i := by
        rcases List.mem_cons.mp h with z | z
        · exact z.symm
        · exact absurd z hv
      subst e
      have comm : ∀ (l : List Nat), v ∉ l → wipe (σ.set v o) l = (wipe σ l).set v o := by
        intro l
        induction l with
        | nil => intro _; rfl
        | cons x l ih =>
          intro hx
          simp only [List.mem_cons, not_or] at hx
          show (wipe (σ.set v o) l).set x none = ((wipe σ l).set x none).set v o
          rw [ih hx.2, List.set_comm _ _ hx.1]
      rw [comm vs hv, List.set_set]
section
variable {K : PySem.W.Frag} {m : Mp} {H : Hp}
mutual
theorem Pt.t_ok : ∀ (p : Pt) {d : D} {v : V} {env env' : Ev} {σ : L2.St} {g : G0} {Q : L2.St → Hp → Prop}, RE g.K m H env σ → RV g.K m H d v → p.put d env = some env' →
    (∀ σ', RE g.K m H env' σ' → (∀ vs : List Nat, (∀ i ∈ p.slots, i ∈ vs) → wipe σ' vs = wipe σ vs) → Q σ' H) → p.t g.K v σ H Q
  | .nm i, d, v, env, env', σ, g, Q, re, rv, e, h => by
    simp only [Pt.put, Option.some.injEq] at e
    subst e
    exact h _ (re.set rv i) fun vs hv => wipe_set_in (hv i (by simp [Pt.slots]))
  | .tp ps, d, v, env, env', σ, g, Q, re, rv, e, h => by
    cases d with
    | tup ds =>
      simp only [Pt.put] at e
      cases rv with
      | tup h1 h2 => exact ⟨_, _, rfl, h1.sq, by rw [← h2.length, Pt.puts_len ps e], Pt.ts_ok ps re h2 e (by simpa [Pt.slots] using h)⟩
    | _ => simp [Pt.put] at e
theorem Pt.ts_ok : ∀ (ps : List Pt) {ds : List D} {vs : List V} {env env' : Ev} {σ : L2.St} {g : G0} {Q : L2.St → Hp → Prop}, RE g.K m H env σ → RVs g.K m H ds vs → Pt.puts ps ds env = some env' →
    (∀ σ', RE g.K m H env' σ' → (∀ vs : List Nat, (∀ i ∈ Pt.slotsAll ps, i ∈ vs) → wipe σ' vs = wipe σ vs) → Q σ' H) → Pt.ts g.K ps vs σ H Q
  | [], ds, vs, env, env', σ, g, Q, re, rv, e, h => by
    cases ds with
    | nil =>
      cases rv
      simp only [Pt.puts, Option.some.injEq] at e
      subst e
      exact ⟨rfl, h _ re fun _ _ => rfl⟩
    | cons d ds => simp [Pt.puts] at e
  | p :: ps, ds, vs, env, env', σ, g, Q, re, rv, e, h => by
    cases ds with
    | nil => simp [Pt.puts] at e
    | cons d ds =>
      cases rv with
      | cons r1 r2 =>
        simp only [Pt.puts] at e
        split at e
        · rename_i env1 q
          refine ⟨_, _, rfl, Pt.t_ok p re r1 q fun σ1 re1 w1 => Pt.ts_ok ps re1 r2 e fun σ2 re2 w2 => h σ2 re2 fun vs hv => ?_⟩
          rw [w2 vs fun i hi => hv i (by simp [Pt.slotsAll, hi]), w1 vs fun i hi => hv i (by simp [Pt.slotsAll, hi])]
        · cases e
theorem Pt.puts_len : ∀ (ps : List Pt) {ds : List D} {env env' : Ev}, Pt.puts ps ds env = some env' → ds.length = ps.length
  | [], ds, env, env', e => by
    cases ds with
    | nil => rfl
    | cons d ds => simp [Pt.puts] at e
  | p :: ps, ds, env, env', e => by
    cases ds with
    | nil => simp [Pt.puts] at e
    | cons d ds =>
      simp only [Pt.puts] at e
      split at e
      · simp [Pt.puts_len ps e]
      · cases e
end
end
/-- a target that is a pattern -/
structure SP (X : Cx) (tg : Expr) (p : Pt) : Prop where
  pg : PG X tg (p.t X.K)
structure SPs (X : Cx) (tgs : List Expr) (ps : List Pt) : Prop where
  pgs : PGs X tgs (Pt.ts X.K ps)
section
variable {ct : String → Addr} {X : Cx} {E : EK} {pos p2 : Pos} {a b c e tg : Expr} {es : List Expr} {A B C : IE} {L : IL} {T : IT} {s : Stmt} {ss ss' : List Stmt} {S U : IS} {p : Pt} {ps : List Pt}
theorem sp_nm (i : Nat) {x : Str} (hN : X.N.Nodup) (hi : X.N[i]? = some x := by rfl) (hx : Loc X.env.scope x := by first | exact .inl rfl | exact .inr rfl) (hf : X.fn x = true ∨ X.env.scope.names.lookup x = some .local := by first | exact .inl rfl | exact .inr rfl) : SP X (.Name x pos) (.nm i) := ⟨by
  have q := pg_name (X := X) (pos := pos) (i := i) hN hi hx hf
  simpa only [Pt.t] using q⟩
theorem sps_nil : SPs X [] [] := ⟨by simpa only [Pt.ts] using pgs_nil⟩
theorem sps_cons (h : SP X e p) (h2 : SPs X es ps) (hs : (assignEach (e :: es) X.env).map (·.2) = assign e X.env :: (assignEach es X.env).map (·.2) := by rfl) : SPs X (e :: es) (p :: ps) := ⟨by
  have q := pgs_cons h.pg h2.pgs hs
  simpa only [Pt.ts] using q⟩
theorem sp_tp {k : Nat} (hc : X.calm = true) (h : SPs X es ps) (hn : (assignEach es X.env).length = ps.length := by rfl) (hst : (assignEach es X.env).findIdx? (·.1) = none := by rfl) : SP X (.Tuple es k pos) (.tp ps) := ⟨by
  have q := pg_tup (k := k) (pos := pos) hc h.pgs hn hst
  simpa only [Pt.t] using q⟩
/-- pattern = value -/
def sAsg (p : Pt) (A : IE) : IS := fun env st => (A env st).bind fun d st1 => match p.put d env with
  | some env1 => .ok (.nx env1) st1
  | none => .bad
theorem s_asg (h : SI ct X E e A) (hp : SP X tg p) (hs : swapsWithSole [tg] e pos.line X.env = pure false := by rfl) (hw : swappedStores [tg] e X.env = pure none := by rfl)
    (h1 : (assignEach [tg] X.env).map (·.2) = [assign tg X.env] := by rfl) : SS ct X E (.Assign [tg] e pos) (sAsg p A) :=
  ⟨(ps_asg h.pe hp.pg hs hw h1).imp fun Dn σ H ⟨m, env, st, re, rs, fin⟩ => ⟨m, env, st, re, rs, fin.bind.imp fun m1 H1 d st1 g1 rs1 q v rv => by
    split at q
    · rename_i env1 he
      exact Pt.t_ok (g := gx ct X) p (re.mono g1) rv he fun σ' re' _ => q.here rs1 σ' re'
    · exact q.elim⟩⟩

/-! ### while -/
def whileGo (T : IT) (S : IS) : Nat → Ev → Sto → Rs Fl
  | 0, _, _ => .bad
  | n + 1, env, st => (T env st).bind fun b st1 => if b = true then (S env st1).bind fun fl st2 => match fl with
      | .nx e => whileGo T S n e st2
      | .ct e => whileGo T S n e st2
      | .bk e => .ok (.nx e) st2
      | .rt d => .ok (.rt d) st2
    else .ok (.nx env) st1
def sWhile (n : Nat) (T : IT) (S : IS) : IS := fun env st => whileGo T S n env st
theorem s_while (n : Nat) (hp : PassesOwn (model X.prog X.w) X.A X.env X.xe) (hc : SB ct X E c T) (hb : SSs ct X E ss S) : SS ct X E (.While c ss [] pos) (sWhile n T S) :=
  ⟨(ps_while hp hc.pt hb.pss).imp fun Dn σ H ⟨m, env, st, re, rs, fin⟩ => by
    refine ⟨fun k σ H => ∃ m env st, RE X.K m H env σ ∧ RS (gx ct X) m H st ∧ Fin (gx ct X) E m H (whileGo T S k env st) (EndS (gx ct X) Dn), ⟨n, m, env, st, re, rs, fin⟩, ?_⟩
    rintro k σ H ⟨m, env, st, re, rs, fin⟩
    cases k with
    | zero => exact fin.elim
    | succ k =>
      refine ⟨m, env, st, re, rs, Fin.imp (Fin.bind (show Fin (gx ct X) E m H ((T env st).bind _) (EndS (gx ct X) Dn) from fin)) fun m1 H1 b st1 g1 rs1 q => ?_⟩
      cases b with
      | true =>
        rw [if_pos rfl] at q ⊢
        refine ⟨fun σ' H' => ∃ m env st, RE X.K m H' env σ' ∧ RS (gx ct X) m H' st ∧ Fin (gx ct X) E m H' (whileGo T S k env st) (EndS (gx ct X) Dn), fun σ' H' w => ⟨k, Nat.lt_succ_self k, w⟩, ?_⟩
        refine ⟨m1, env, st1, re.mono g1, rs1, q.bind.imp fun m2 H2 fl st2 g2 rs2 q2 => ?_⟩
        cases fl with
        | nx e => exact fun σ' re' => ⟨m2, e, st2, re', rs2, q2⟩
        | ct e => exact fun σ' re' => ⟨m2, e, st2, re', rs2, q2⟩
        | bk e => exact fun σ' re' => Fin.here (E := E) (show Fin (gx ct X) E m2 H2 (.ok (.nx e) st2) (EndS (gx ct X) Dn) from q2) rs2 σ' re'
        | rt d => exact Fin.here (E := E) (show Fin (gx ct X) E m2 H2 (.ok (.rt d) st2) (EndS (gx ct X) Dn) from q2) rs2
      | false =>
        rw [if_neg Bool.false_ne_true] at q ⊢
        exact Fin.here q rs1 σ (re.mono g1)⟩

/-! ### what is walked -/
/-- turn by turn: an item, or the end (some none); none: it can't be told -/
abbrev Wk := Nat → Sto → Option (Option D)
abbrev IW := Ev → Sto → Rs Wk
def WkOk (g : G0) (m0 : Mp) (H0 : Hp) (J : It) (wk : Wk) : Prop := ∀ (i : Nat) (m : Mp) (H : Hp) (st : Sto), Moves g.K m0 H0 m H → RS g m H st → match wk i st with
  | some (some d) => J.go i H ∧ ∀ x H', J.yld i H x H' → RS g m H' st ∧ Grow m H m H' ∧ RV g.K m H' d x
  | some none => J.stop i H
  | none => True
def tW (g : G0) (E : EK) (W : IW) : TI := fun σ H R => ∃ m env st, RE g.K m H env σ ∧ RS g m H st ∧ Fin g E m H (W env st) (fun m' H' wk _ => ∀ J, WkOk g m' H' J wk → R J H')
variable (ct X E) in
structure SWk (tg iter : Expr) (W : IW) : Prop where
  pi : PI X tg iter (tW (gx ct X) E W)
theorem _root_.L2.PI.imp {X : Cx} {tg e : Expr} {t t' : TI} (h : PI X tg e t) (f : ∀ σ H Q, t' σ H Q → t σ H Q) : PI X tg e t' := ⟨fun pins s σ H Q I q => h.run pins s σ H Q I (f σ H Q q)⟩
theorem _root_.L2.PI.both {X : Cx} {tg e : Expr} {t t' t2 : TI} (h : PI X tg e t) (h' : PI X tg e t') (f : ∀ σ H Q, t2 σ H Q → t σ H Q ∨ t' σ H Q) : PI X tg e t2 := ⟨fun pins s σ H Q I q => (f σ H Q q).elim (h.run pins s σ H Q I) (h'.run pins s σ H Q I)⟩
def wkSeq (xs : List D) : Wk := fun i _ => some xs[i]?
def wkLive (n : Nat) : Wk := fun i st => match st[n]? with
  | some (.lst xs) => some xs[i]?
  | _ => none
def wkRange (lo : Int) (n : Nat) : Wk := fun i _ => some (if i < n then some (.int (lo + i)) else none)
/-- a list or a tuple -/
def wkStr (x : Str) : Wk := fun i _ => match x.cps[i]? with
  | some c => some (some (.str ⟨#[c]⟩))
  | none => some none
def seqWk (st : Sto) (d : D) : Option Wk := match d with
  | .tup xs => some (wkSeq xs)
  | .rol xs => some (wkSeq xs)
  | .scr xs => some (wkSeq xs)
  | .ref n => match st[n]? with
    | some (.lst _) => some (wkLive n)
    | _ => none
  | .str x => some (wkStr x)
  | _ => none
def fW (o : Option Wk) (st : Sto) : Rs Wk := match o with
  | some w => .ok w st
  | none => .bad
def iWalk (A : IE) : IW := fun env st => (A env st).bind fun d st1 => fW (seqWk st1 d) st1
theorem wk_seqL {g : G0} {m0 : Mp} {H0 : Hp} {a : Addr} {xs : List D} {vs : List V} (h : ∀ m H, Moves g.K m0 H0 m H → SqL g.K H a vs ∧ RVs g.K m H xs vs) : WkOk g m0 H0 (Itl g.K a) (wkSeq xs) := fun i m H st mv rs => by
  obtain ⟨hs, r⟩ := h m H mv
  unfold wkSeq
  cases e : xs[i]? with
  | none =>
    have : xs.length ≤ i := List.getElem?_eq_none_iff.mp e
    exact ⟨vs, hs, by rw [← r.length]; exact this⟩
  | some d =>
    obtain ⟨v, hv, rv⟩ := r.get e
    refine ⟨⟨vs, v, hs, hv⟩, fun x H' y => ?_⟩
    obtain ⟨rfl, y⟩ := y
    have e2 := (y vs hs).symm.trans hv
    cases e2
    exact ⟨rs, Grow.refl _ _, rv⟩
theorem wk_seqT {g : G0} {m0 : Mp} {H0 : Hp} {a : Addr} {xs : List D} {vs : List V} (h : ∀ m H, Moves g.K m0 H0 m H → SqT g.K H a vs ∧ RVs g.K m H xs vs) : WkOk g m0 H0 (Itt g.K a) (wkSeq xs) := fun i m H st mv rs => by
  obtain ⟨hs, r⟩ := h m H mv
  unfold wkSeq
  cases e : xs[i]? with
  | none =>
    have : xs.length ≤ i := List.getElem?_eq_none_iff.mp e
    exact ⟨vs, hs, by rw [← r.length]; exact this⟩
  | some d =>
    obtain ⟨v, hv, rv⟩ := r.get e
    refine ⟨⟨vs, v, hs, hv⟩, fun x H' y => ?_⟩
    obtain ⟨rfl, y⟩ := y
    have e2 := (y vs hs).symm.trans hv
    cases e2
    exact ⟨rs, Grow.refl _ _, rv⟩
theorem wk_live {g : G0} {m0 : Mp} {H0 : Hp} {a : Addr} {n : Nat} (h : m0.cs[n]? = some a) : WkOk g m0 H0 (Itl g.K a) (wkLive n) := fun i m H st mv rs => by
  have hm := mv.ref n a h
  unfold wkLive
  split
  · rename_i dd hh
    split at hh
    · rename_i xs hq
      obtain ⟨vs, r, hH⟩ := rs.rc n a _ hm hq
      have e : xs[i]? = some dd := Option.some.inj hh
      obtain ⟨v, hv, rv⟩ := r.get e
      refine ⟨⟨vs, v, SqL.of hH, hv⟩, fun x H' y => ?_⟩
      obtain ⟨rfl, y⟩ := y
      have e2 := (y vs (SqL.of hH)).symm.trans hv
      cases e2
      exact ⟨rs, Grow.refl _ _, rv⟩
    · cases hh
  · rename_i hh
    split at hh
    · rename_i xs hq
      obtain ⟨vs, r, hH⟩ := rs.rc n a _ hm hq
      have e : xs[i]? = none := Option.some.inj hh
      exact ⟨vs, SqL.of hH, by rw [← r.length]; exact List.getElem?_eq_none_iff.mp e⟩
    · cases hh
  · trivial
theorem wk_str {g : G0} {m0 : Mp} {H0 : Hp} {x : Str} : WkOk g m0 H0 (Its x) (wkStr x) := fun i m H st mv rs => by
  unfold wkStr
  cases e : x.cps[i]? with
  | none => exact Array.getElem?_eq_none_iff.mp e
  | some c =>
    have hl : i < x.cps.size := by
      by_cases q : i < x.cps.size
      · exact q
      · rw [Array.getElem?_eq_none (by omega)] at e; cases e
    refine ⟨hl, fun v H' y => ?_⟩
    obtain ⟨rfl, c', hc, rfl⟩ := y
    rw [e] at hc; cases hc
    exact ⟨rs, Grow.refl _ _, .str _⟩
theorem w_walk (h : SI ct X E e A) : SWk ct X E tg e (iWalk A) :=
  ⟨(pi_list (tg := tg) h.pe).both ((pi_tup h.pe).both (pi_str h.pe) fun _ _ _ h => h) fun σ H R ⟨m, env, st, re, rs, fin⟩ => by
    have hf := fin.bind
    cases hA : A env st with
    | bad => rw [hA] at hf; exact hf.elim
    | exn e' st' => 
      refine .inl ⟨m, env, st, re, rs, ?_⟩
      rw [hA] at hf ⊢
      exact hf
    | ok d st1 =>
      rw [hA] at hf
      have hf : ∀ m1 H1, Grow m H m1 H1 → RS (gx ct X) m1 H1 st1 → Fin (gx ct X) E m1 H1 (fW (seqWk st1 d) st1) _ := hf
      cases hd : seqWk st1 d with
      | none =>
        rw [hd] at hf
        exact (hf m H (Grow.refl _ _) |> fun q => by
          refine .inl ⟨m, env, st, re, rs, ?_⟩
          rw [hA]
          exact fun m1 H1 g1 rs1 => (hf m1 H1 g1 rs1).elim)
      | some wk =>
        rw [hd] at hf
        cases d with
        | tup xs =>
          cases hd
          refine .inr (.inl ⟨m, env, st, re, rs, ?_⟩)
          rw [hA]
          intro m1 H1 g1 rs1 v rv
          cases rv with
          | tup h1 h2 => exact ⟨_, rfl, ⟨_, h1.sq⟩, Fin.here (hf m1 H1 g1 rs1) rs1 _ (wk_seqT fun m2 H2 mv => ⟨(mv.tup _ _ h1).sq, h2.moves mv⟩)⟩
        | rol xs =>
          cases hd
          refine .inl ⟨m, env, st, re, rs, ?_⟩
          rw [hA]
          intro m1 H1 g1 rs1 v rv
          cases rv with
          | rol h1 h2 => exact ⟨_, rfl, ⟨_, h1.sq⟩, Fin.here (hf m1 H1 g1 rs1) rs1 _ (wk_seqL fun m2 H2 mv => ⟨(mv.rol _ _ h1).sq, h2.moves mv⟩)⟩
        | scr xs =>
          cases hd
          refine .inl ⟨m, env, st, re, rs, ?_⟩
          rw [hA]
          intro m1 H1 g1 rs1 v rv
          cases rv with
          | scr h1 h2 => exact ⟨_, rfl, ⟨_, h1.sq⟩, Fin.here (hf m1 H1 g1 rs1) rs1 _ (wk_seqL fun m2 H2 mv => ⟨(mv.scr _ _ h1).sq, h2.moves mv⟩)⟩
        | ref n =>
          simp only [seqWk] at hd
          split at hd
          · rename_i xs hx
            cases hd
            refine .inl ⟨m, env, st, re, rs, ?_⟩
            rw [hA]
            intro m1 H1 g1 rs1 v rv
            cases rv with
            | ref h1 =>
              obtain ⟨vs, r, hH⟩ := rs1.rc n _ _ h1 hx
              exact ⟨_, rfl, ⟨_, SqL.of hH⟩, Fin.here (hf m1 H1 g1 rs1) rs1 _ (wk_live h1)⟩
          · cases hd
        | str x =>
          cases hd
          refine .inr (.inr ⟨m, env, st, re, rs, ?_⟩)
          rw [hA]
          intro m1 H1 g1 rs1 v rv
          cases rv
          exact ⟨_, rfl, Fin.here (hf m1 H1 g1 rs1) rs1 _ wk_str⟩
        | _ => cases hd⟩
end
end QI

namespace QI
open PySem PySem.Spec PyProof.Rows L2
section
variable {ct : String → Addr} {X : Cx} {E : EK} {pos p2 : Pos} {a b c e tg iter elt : Expr} {es ifs : List Expr} {A B C : IE} {L : IL} {T : IT} {s : Stmt} {ss ss' : List Stmt} {S U : IS} {p : Pt} {ps : List Pt} {W : IW}

/-! ### for -/
def forGo (wk : Wk) (p : Pt) (S : IS) : Nat → Nat → Ev → Sto → Rs Fl
  | 0, _, _, _ => .bad
  | n + 1, i, env, st => match wk i st with
    | none => .bad
    | some none => .ok (.nx env) st
    | some (some d) => match p.put d env with
      | none => .bad
      | some env1 => (S env1 st).bind fun fl st2 => match fl with
        | .nx e => forGo wk p S n (i + 1) e st2
        | .ct e => forGo wk p S n (i + 1) e st2
        | .bk e => .ok (.nx e) st2
        | .rt d => .ok (.rt d) st2
def sFor (n : Nat) (W : IW) (p : Pt) (S : IS) : IS := fun env st => (W env st).bind fun wk st1 => forGo wk p S n 0 env st1
theorem s_for (n : Nat) (hp : PassesOwn (model X.prog X.w) X.A X.env X.xe) (hc : X.calm = true) (hw : SWk ct X E tg iter W) (hg : SP X tg p) (hb : SSs ct X E ss S) (hs : ∀ x, foldedSetIterable iter X.env x = pure x := by intro _; rfl) :
    SS ct X E (.For tg iter ss [] pos) (sFor n W p S) :=
  ⟨(ps_for hp hc hw.pi hg.pg hb.pss hs).imp fun Dn σ H ⟨m, env, st, re, rs, fin⟩ => by
    refine ⟨m, env, st, re, rs, fin.bind.imp fun m1 H1 wk st1 g1 rs1 q J hJ => ?_⟩
    refine ⟨fun i k σ H => ∃ m env st, Moves X.K m1 H1 m H ∧ RE X.K m H env σ ∧ RS (gx ct X) m H st ∧ Fin (gx ct X) E m H (forGo wk p S k i env st) (EndS (gx ct X) Dn),
      ⟨n, m1, env, st1, (Grow.refl m1 H1).moves, re.mono g1, rs1, q⟩, ?_⟩
    rintro i k σ H ⟨m, env, st, mv, re, rs, fin⟩
    cases k with
    | zero => exact fin.elim
    | succ k =>
      have hw := hJ i m H st mv rs
      unfold forGo at fin
      cases hk : wk i st with
      | none => rw [hk] at fin; exact fin.elim
      | some o =>
        rw [hk] at fin hw
        cases o with
        | none => exact .inl ⟨hw, Fin.here fin rs σ re⟩
        | some d =>
          refine .inr ⟨hw.1, fun σ' H' => ∃ m env st, Moves X.K m1 H1 m H' ∧ RE X.K m H' env σ' ∧ RS (gx ct X) m H' st ∧ Fin (gx ct X) E m H' (forGo wk p S k (i + 1) env st) (EndS (gx ct X) Dn), fun σ' H' w => ⟨k, Nat.lt_succ_self k, w⟩, fun x H' y => ?_⟩
          obtain ⟨rs', gr, rv⟩ := hw.2 x H' y
          simp only at fin
          split at fin
          · exact fin.elim
          · rename_i env1 he
            refine Pt.t_ok (g := gx ct X) p (re.mono gr) rv he fun σ1 re1 _ => ?_
            have mv1 : Moves X.K m1 H1 m H' := ⟨fun a xs h => gr.moves.tup a xs (mv.tup a xs h), fun a xs h => (gr.moves (K := X.K)).rol a xs (mv.rol a xs h), fun a xs h => gr.moves.scr a xs (mv.scr a xs h), mv.ref⟩
            refine ⟨m, env1, st, re1, rs', (fin.mono gr).bind.imp fun m2 H2 fl st2 g2 rs2 q2 => ?_⟩
            have mv2 : Moves X.K m1 H1 m2 H2 := ⟨fun a xs h => g2.moves.tup a xs (mv1.tup a xs h), fun a xs h => (g2.moves (K := X.K)).rol a xs (mv1.rol a xs h), fun a xs h => g2.moves.scr a xs (mv1.scr a xs h), fun n a h => (g2.moves (K := X.K)).ref n a (mv1.ref n a h)⟩
            cases fl with
            | nx e => exact fun σ' re' => ⟨m2, e, st2, mv2, re', rs2, q2⟩
            | ct e => exact fun σ' re' => ⟨m2, e, st2, mv2, re', rs2, q2⟩
            | bk e => exact fun σ' re' => Fin.here (E := E) (show Fin (gx ct X) E m2 H2 (.ok (.nx e) st2) (EndS (gx ct X) Dn) from q2) rs2 σ' re'
            | rt d => exact Fin.here (E := E) (show Fin (gx ct X) E m2 H2 (.ok (.rt d) st2) (EndS (gx ct X) Dn) from q2) rs2⟩

/-! ### comprehensions -/
theorem Fin.strict {α β : Type} {g : G0} {E : EK} {m : Mp} {H : Hp} {r : Rs α} {f : α → Sto → Rs β} {R : Mp → Hp → β → Sto → Prop} (h : Fin g E m H (r.strict.bind f) R) : Fin g noE m H r (fun m1 H1 a st1 => Fin g E m1 H1 (f a st1) R) := by
  cases r with
  | ok a st => exact fun m' H' g' rs => Fin.mono (show Fin g E m H (f a st) R from h) g'
  | exn e st => exact (show False from h).elim
  | bad => exact h
def compGo (wk : Wk) (p : Pt) (T : IT) (A : IE) (vs : List Nat) (env : Ev) (fin : List D → Sto → Rs D) : Nat → Nat → List D → Sto → Rs D
  | 0, _, _, _ => .bad
  | n + 1, i, acc, st => match wk i st with
    | none => .bad
    | some none => fin acc st
    | some (some d) => match p.put d (wipeE env vs) with
      | none => .bad
      | some env1 => (T env1 st).strict.bind fun b st1 => if b = true then (A env1 st1).strict.bind fun y st2 =>
          if acc.length < 16777216 then compGo wk p T A vs env fin n (i + 1) (acc ++ [y]) st2 else .bad
        else compGo wk p T A vs env fin n (i + 1) acc st1
def fRol : List D → Sto → Rs D := fun acc st => .ok (.rol acc) st
def fCell : List D → Sto → Rs D := fun acc st => .ok (.ref st.length) (st ++ [.lst acc])
def iComp (fin : List D → Sto → Rs D) (n : Nat) (W : IW) (p : Pt) (T : IT) (A : IE) (vs : List Nat) : IE := fun env st => (W env st).bind fun wk st1 => compGo wk p T A vs env fin n 0 [] st1
structure STs (ct : String → Addr) (X : Cx) (ifs : List Expr) (T : IT) : Prop where
  pts : PTs X ifs (tIT (gx ct X) noE T)
def iYes : IT := fun _ st => .ok true st
theorem sts_nil : STs ct X [] iYes := ⟨⟨fun pins s σ H Q I ⟨m, env, st, re, rs, fin⟩ => pts_nil.run pins s σ H Q I (Fin.here fin rs)⟩⟩
theorem sts_one (h : SB ct X noE c T) : STs ct X [c] T := ⟨pts_one h.pt⟩
/-- what the end of a comprehension does with its list -/
def FinL (g : G0) (E : EK) (fin : List D → Sto → Rs D) : Prop := ∀ (m0 m : Mp) (H0 H : Hp) (q : Addr) (acc : List D) (vs : List V) (st : Sto) (Q : VK), Grow m0 H0 m H → RS g (m.hold q) H st → H0 q = none → q ∉ m.rs → H q = some (.lst vs) → RVs g.K (m.hold q) H acc vs →
  Fin g E m0 H0 (fin acc st) (EndE g Q) → Q (.ref q) H
theorem fin_rol {g : G0} : FinL g E fRol := fun m0 m H0 H q acc vs st Q gr rs h0 hr hq rv fin => by
  exact fin m H gr rs.drop _ (.rol ⟨(rs.hs q List.mem_cons_self).1, hr, hq⟩ (rv.moves Moves.drop))
theorem fin_cell {g : G0} : FinL g E fCell := fun m0 m H0 H q acc vs st Q gr rs h0 hr hq rv fin => by
  have gr' : Grow m0 H0 (m.add q) H := ⟨gr.pre.trans (List.prefix_append _ _), gr.rsv, gr.frame, fun a h => by
    rcases List.mem_append.mp h with z | z
    · exact gr.new a z
    · simp at z; subst z; exact .inr h0, gr.tup, gr.frz⟩
  refine fin (m.add q) H gr' (rs.keep hr ⟨vs, rv.moves Moves.keep, hq⟩) _ (.ref ?_)
  show (m.cs ++ [q])[st.length]? = some q
  have hl : m.cs.length = st.length := rs.len
  rw [List.getElem?_append_right (by omega), ← hl]
  simp
theorem comp_tI {fin : List D → Sto → Rs D} (hf : FinL (gx ct X) E fin) (n : Nat) {vs0 : List Nat} (hv : ∀ i ∈ p.slots, i ∈ vs0) {σ : L2.St} {H0 : Hp} {Q : VK} (h : tI (gx ct X) E (iComp fin n W p T A vs0) σ H0 Q) : tLc (tW (gx ct X) E W) (p.t X.K) (tIT (gx ct X) noE T) (tI (gx ct X) noE A) vs0 σ H0 Q := by
    obtain ⟨m0, env, st, re, rs, fn⟩ := h
    refine ⟨m0, env, st, re, rs, fn.bind.imp fun m1 H1 wk st1 g1 rs1 q J hJ q' hq' => ?_⟩
    have re1 := re.mono g1
    refine ⟨fun i k H => ∃ m acc vs st, Grow m1 H1 m H ∧ Moves X.K m1 H1 (m.hold q') H ∧ RS (gx ct X) (m.hold q') H st ∧ q' ∉ m.rs ∧ H q' = some (.lst vs) ∧ RVs X.K (m.hold q') H acc vs ∧ Fin (gx ct X) E m1 H1 (compGo wk p T A (vs0) env fin k i acc st) (EndE (gx ct X) Q),
      ⟨n, m1, [], [], st1, Grow.laid hq', Moves.hold hq', rs1.hold hq', rs1.nothold hq', upd_same, .nil, q⟩, ?_⟩
    rintro i k H ⟨m, acc, vs, st, gr, mv, rs, hr, hH, rv, fn⟩
    cases k with
    | zero => exact fn.elim
    | succ k =>
      have hw := hJ i (m.hold q') H st mv rs
      unfold compGo at fn
      cases hk : wk i st with
      | none => rw [hk] at fn; exact fn.elim
      | some o =>
        rw [hk] at fn hw
        cases o with
        | none => exact .inl ⟨hw, hf m1 m H1 H q' acc vs st Q gr rs hq' hr hH rv fn⟩
        | some d =>
          refine .inr ⟨hw.1, fun H' => ∃ m acc vs st, Grow m1 H1 m H' ∧ Moves X.K m1 H1 (m.hold q') H' ∧ RS (gx ct X) (m.hold q') H' st ∧ q' ∉ m.rs ∧ H' q' = some (.lst vs) ∧ RVs X.K (m.hold q') H' acc vs ∧ Fin (gx ct X) E m1 H1 (compGo wk p T A (vs0) env fin k (i + 1) acc st) (EndE (gx ct X) Q), fun H' w => ⟨k, Nat.lt_succ_self k, w⟩, fun x H' y => ?_⟩
          obtain ⟨rs', g', rx⟩ := hw.2 x H' y
          simp only at fn
          split at fn
          · exact fn.elim
          · rename_i env1 he1
            have hqc : q' ∉ m.cs := (rs.hs q' List.mem_cons_self).1
            have mvt : ∀ {m2 : Mp} {H2 : Hp}, Grow (m.hold q') H (m2.hold q') H2 → Moves X.K m1 H1 (m2.hold q') H2 := fun g => ⟨fun a xs h => g.moves.tup a xs (mv.tup a xs h), fun a xs h => (g.moves (K := X.K)).rol a xs (mv.rol a xs h), fun a xs h => g.moves.scr a xs (mv.scr a xs h), fun n a h => (g.moves (K := X.K)).ref n a (mv.ref n a h)⟩
            have re2 : RE X.K (m.hold q') H' env σ := (re1.moves mv).moves g'.moves
            refine Pt.t_ok (g := gx ct X) p (re2.wipe (vs0)) rx he1 fun σ1 re3 w3 => ⟨?_, ?_⟩
            · rw [w3 _ hv]
              have : ∀ l : List Nat, wipe (wipe σ l) l = wipe σ l := by
                have in_none : ∀ (l : List Nat) (τ : L2.St) (k : List Nat), (∀ i ∈ l, i ∈ k) → wipe (wipe τ l) k = wipe τ k := by
                  intro l
                  induction l with
                  | nil => intro τ k _; rfl
                  | cons i l ih =>
                    intro τ k hk
                    show wipe ((wipe τ l).set i none) k = _
                    rw [wipe_set_in (hk i List.mem_cons_self)]
                    exact ih τ k fun j hj => hk j (List.mem_cons_of_mem _ hj)
                exact fun l => in_none l σ l fun _ h => h
              exact this _
            · -- the test
              have rsd : ∀ {m2 : Mp} {H2 : Hp}, Grow (m.hold q') H m2 H2 → ∃ m3 : Mp, m2 = m3.hold q' ∧ m3.rs = m.rs := fun {m2 H2} g => ⟨⟨m2.cs, m.rs⟩, by
                have := g.rsv
                obtain ⟨cs, rr⟩ := m2
                have e : rr = q' :: m.rs := this
                subst e
                rfl, rfl⟩
              cases hT : T env1 st with
              | bad => rw [hT] at fn; exact fn.elim
              | exn e' st' => rw [hT] at fn; exact (show False from fn).elim
              | ok bb st2 =>
                rw [hT] at fn
                refine ⟨m.hold q', env1, st, re3, rs', ?_⟩
                rw [hT]
                intro m2 H2 g2 rs2
                obtain ⟨m3, rfl, hr3⟩ := rsd (g'.trans g2)
                have fn : Fin (gx ct X) E m1 H1 (if bb = true then _ else _) (EndE (gx ct X) Q) := fn
                have gq := g'.trans g2
                have hH2 : H2 q' = some (.lst vs) := gq.frame _ _ hqc hH
                have rv2 := rv.mono gq
                cases bb with
                | false =>
                  rw [if_neg Bool.false_ne_true] at fn ⊢
                  exact ⟨m3, acc, vs, st2, gr.trans gq.held, mvt gq, rs2, by rw [hr3]; exact hr, hH2, rv2, fn⟩
                | true =>
                  rw [if_pos rfl] at fn ⊢
                  cases hA : A env1 st2 with
                  | bad => rw [hA] at fn; exact fn.elim
                  | exn e' st' => rw [hA] at fn; exact (show False from fn).elim
                  | ok y st3 =>
                    rw [hA] at fn
                    refine ⟨m3.hold q', env1, st2, re3.mono g2, rs2, ?_⟩
                    rw [hA]
                    intro m4 H4 g4 rs4 v rvy
                    have gq4 := gq.trans g4
                    obtain ⟨m5, rfl, hr5⟩ := rsd gq4
                    have hH4 : H4 q' = some (.lst vs) := gq4.frame _ _ hqc hH
                    have fn : Fin (gx ct X) E m1 H1 (if acc.length < 16777216 then _ else .bad) (EndE (gx ct X) Q) := fn
                    split at fn
                    · rename_i hz
                      have rv4 := rv.mono gq4
                      have wr : Moves X.K (m5.hold q') H4 (m5.hold q') (upd H4 q' (.lst (vs ++ [v]))) := Moves.held hH4
                      refine ⟨vs, hH4, by rw [← rv.length, sl_eq]; exact hz, m5, acc ++ [y], vs ++ [v], st3, ?_, ?_, rs4.held hH4, by rw [hr5]; exact hr, upd_same, (rv4.moves wr).append (.cons (rvy.moves wr) .nil), fn⟩
                      · have g6 := gr.trans gq4.held
                        have hn : ∀ a o, H1 a = some o → a ≠ q' := fun a o h => ne_of_none h hq'
                        exact ⟨g6.pre, g6.rsv, fun a o h1 h2 => by rw [upd_ne (hn a o h2)]; exact g6.frame a o h1 h2, g6.new, fun a o h2 => by rw [upd_ne (hn a _ h2)]; exact g6.tup a o h2, fun a o xs h2 => by rw [upd_ne (hn a _ h2)]; exact g6.frz a o xs h2⟩
                      · have mq := mvt gq4
                        exact ⟨fun a xs h => wr.tup a xs (mq.tup a xs h), fun a xs h => wr.rol a xs (mq.rol a xs h), fun a xs h => wr.scr a xs (mq.scr a xs h), fun n a h => wr.ref n a (mq.ref n a h)⟩
                    · exact fn.elim
theorem si_comp {fin : List D → Sto → Rs D} (hf : FinL (gx ct X) E fin) (n : Nat) {scope : Scope} (own : List (Str × Nat)) (hc : X.calm = true) (hN : X.N.Nodup) (hw : SWk ct X E tg iter W) (ok : BlkOk X.N X.env.scope scope own)
    (hg : ∀ (s : Shared) (H : Hp) (C : Addr) (cl : List (Str × Addr)) (fp : List Addr), SP (X.blk s H scope (compEnvC scope cl C X.env) fp) tg p)
    (ht : ∀ (s : Shared) (H : Hp) (C : Addr) (cl : List (Str × Addr)) (fp : List Addr), STs ct (X.blk s H scope (compEnvC scope cl C X.env) fp) ifs T)
    (he : ∀ (s : Shared) (H : Hp) (C : Addr) (cl : List (Str × Addr)) (fp : List Addr), SI ct (X.blk s H scope (compEnvC scope cl C X.env) fp) noE elt A)
    (hv : ∀ i ∈ p.slots, i ∈ own.map (·.2) := by decide) (hs : ∀ x, foldedSetIterable iter X.env x = pure x := by intro _; rfl) :
    SI ct X E (.ListComp elt [⟨tg, iter, ifs, 0⟩] scope pos) (iComp fin n W p T A (own.map (·.2))) :=
  ⟨(pe_lc hc hN hw.pi ok (g := p.t X.K) (tt := tIT (gx ct X) noE T) (te := tI (gx ct X) noE A) (fun s H C cl fp => (hg s H C cl fp).pg) (fun s H C cl fp => (ht s H C cl fp).pts) (fun s H C cl fp => (he s H C cl fp).pe) hs).imp fun σ H0 Q h => comp_tI hf n hv h⟩
theorem s_setComp (i : Nat) {y : Str} {py spos : Pos} {fin : List D → Sto → Rs D} (hf : FinL (gx ct X) E fin) (n : Nat) {scope : Scope} (own : List (Str × Nat)) (hc : X.calm = true) (hN : X.N.Nodup) (hy : X.N[i]? = some y) (hyl : X.env.scope.names.lookup y = some .local) (hsw : swapsWith (.ListComp elt [⟨tg, iter, ifs, 0⟩] scope pos) (some (.Name y py)) spos.line X.env = pure true) (hw : SWk ct X E tg iter W) (ok : BlkOk X.N X.env.scope scope own)
    (hg : ∀ (s : Shared) (H : Hp) (C : Addr) (cl : List (Str × Addr)) (fp : List Addr), SP (X.blk s H scope (compEnvC scope cl C X.env) fp) tg p)
    (ht : ∀ (s : Shared) (H : Hp) (C : Addr) (cl : List (Str × Addr)) (fp : List Addr), STs ct (X.blk s H scope (compEnvC scope cl C X.env) fp) ifs T)
    (he : ∀ (s : Shared) (H : Hp) (C : Addr) (cl : List (Str × Addr)) (fp : List Addr), SI ct (X.blk s H scope (compEnvC scope cl C X.env) fp) noE elt A)
    (hv : ∀ i ∈ p.slots, i ∈ own.map (·.2) := by decide) (hs : ∀ x, foldedSetIterable iter X.env x = pure x := by intro _; rfl) :
    SS ct X E (.Assign [.Name y py] (.ListComp elt [⟨tg, iter, ifs, 0⟩] scope pos) spos) (sSet i (iComp fin n W p T A (own.map (·.2)))) :=
  ⟨(ps_setLc (i := i) hc hN hy hyl hsw hw.pi ok (g := p.t X.K) (tt := tIT (gx ct X) noE T) (te := tI (gx ct X) noE A) (fun s H C cl fp => (hg s H C cl fp).pg) (fun s H C cl fp => (ht s H C cl fp).pts) (fun s H C cl fp => (he s H C cl fp).pe) hs).imp fun Dn σ H0 ⟨m, env, st, re, rs, fn⟩ =>
    comp_tI hf n hv (Q := fun x H1 => gName i x σ H1 Dn.nx) ⟨m, env, st, re, rs, fn.bind.imp fun m1 H1 d st1 g1 rs1 q v rv => q.here rs1 _ ((re.mono g1).set rv i)⟩⟩

end
end QI

namespace QI
open PySem PySem.Spec PyProof.Rows L2 RZ

/-! ### enumerate(tuple) -/
theorem meets_enum1 {v : Value} {o : Obj} {H : Heap → Prop} (B : Begins v o H) :
    Meets (Builtin.«enumerate.__new__» ⟨[.type "enumerate", v], []⟩) (fun _ R s => H s.heap ∧
      R (.ok (.ret (.ref (s.heap.push o).objs.size))) { s with heap := (s.heap.push o).push { cls := .type "enumerate", data := .fields #[.none, .bool false, .ref s.heap.objs.size, rawInt 0, .none, .none] } }) :=
  .of_wp fun prog w A R s h => by
    obtain ⟨hp, g, d, tk, os⟩ := s; obtain ⟨h1, h⟩ := h
    have hsub := sub_enumerate
    have q1 : ∀ {A' : Around} {E : Value → Shared → Prop} {Q : Value → Shared → Prop}, Q (.ref hp.objs.size) ⟨hp.push o, g, d, tk, os⟩ → wpAny (model prog w) A' (pyIter v) Q E ⟨hp, g, d, tk, os⟩ :=
      fun q => B.iter prog w _ _ ⟨hp, g, d, tk, os⟩ _ h1 q
    wp_walk using q1
    refine wpAny_stack_any fun st => wpAny_pure ?_
    split
    · rename_i c _ _ _ _ _
      cases (c == Value.type "enumerate")
      · wp_walk using q1
        exact ⟨_, rfl, h⟩
      · wp_walk using q1
        exact ⟨_, rfl, h⟩
    · wp_walk using q1
      exact ⟨_, rfl, h⟩
theorem enum_begins1 {prog : Program} {w : World} {A : Around} {E : Value → Shared → Prop} {s : Shared} {v : Value} {o : Obj} {H : Heap → Prop} {Q : Value → Shared → Prop} (B : Begins v o H) (h1 : H s.heap)
    (h : ∀ h', IsEnum h' (s.heap.objs.size + 1) s.heap.objs.size 0 .none → h'.get? s.heap.objs.size = some o → h'.objs.size = s.heap.objs.size + 2 →
      (∀ b o, s.heap.get? b = some o → h'.get? b = some o) → Q (.ref (s.heap.objs.size + 1)) { s with heap := h' }) :
    wpAny (model prog w) A (call (.type "enumerate") [v]) Q E s := by
  refine callType_new F.called_enumerate (by decide) (F.typeCall_enumerate_1 _) (F.newCall_enumerate_1 _) (fun obj => F.args_object_init_2 obj _) F.entry_enumerate_new
    (meets_enum1 B) ⟨h1, ?_⟩
  have hz : (s.heap.push o).objs.size = s.heap.objs.size + 1 := Heap.size_push ..
  show _ ∧ _
  rw [hz]
  have he : IsEnum ((s.heap.push o).push { cls := .type "enumerate", data := .fields #[.none, .bool false, .ref s.heap.objs.size, rawInt 0, .none, .none] }) (s.heap.objs.size + 1) s.heap.objs.size 0 .none := by
    have := Heap.get?_push_size (s.heap.push o) (o := { cls := .type "enumerate", data := .fields #[.none, .bool false, .ref s.heap.objs.size, rawInt 0, .none, .none] }) rfl
    rw [hz] at this; exact this
  refine ⟨⟨_, he, rfl⟩, h _ he (Heap.get?_push_of_some _ (Heap.get?_push_size _ B.free)) (by rw [Heap.size_push, hz]) fun b o x => Heap.get?_push_of_some _ (Heap.get?_push_of_some _ x)⟩

def IteT (K : PySem.W.Frag) (a : Addr) : It :=
  ⟨fun i H => ∃ (xs : List V) (x : V), SqT K H a xs ∧ xs[i]? = some x, fun i H v H' => ∃ T x, v = .ref T ∧ H T = none ∧ H' = upd H T (.tup [.int (i : Nat), x]) ∧ ∀ xs, SqT K H a xs → xs[i]? = some x, fun i H => ∃ xs : List V, SqT K H a xs ∧ xs.length ≤ i⟩
theorem turn_enumT {P : Program} {w : World} {K : PySem.W.Frag} {elts : List Expr} {kk : Nat} {tpos : Pos} (a e it : Addr) (hai : a ≠ it) (hae : e ≠ a) :
    Turn P w K (.Tuple elts kk tpos) (IteT K a) [e, it] e (fun i h => (∃ old, IsEnum h e it ((i : Nat) : Int) old) ∧ h.IsTupleIter it a i ∧ e ≠ it) where
  mem := by simp
  obj := fun i h st b hb => by
    obtain ⟨⟨old, he⟩, ⟨o, ho, hc, hd⟩, _⟩ := st
    have e' : b = e ∨ b = it := by simpa using hb
    rcases e' with z | z
    · rw [z]; exact ⟨_, he, fun v q => nomatch q⟩
    · rw [z]; exact ⟨o, ho, fun v q => by rw [hd] at q; cases q⟩
  keep := fun i h h' st k => let ⟨⟨old, he⟩, hi, hne⟩ := st; ⟨⟨old, k e (by simp) _ he⟩, hi.at fun o q => k it (by simp) o q, hne⟩
  item := by
    intro X hP hw hK hc i pins s σ H E I hf st hg
    subst hP hw hK
    obtain ⟨⟨old, he⟩, hit, hne⟩ := st
    obtain ⟨xs, x, hq, hx⟩ := hg
    obtain ⟨its, rv, p, hz⟩ := I.tuple hq
    obtain ⟨u, hu, ru⟩ := rv.get hx
    have hel : e < s.heap.objs.size := Heap.lt_size he
    have hil : it < s.heap.objs.size := by obtain ⟨_, q, _⟩ := hit; exact Heap.lt_size q
    have hlt : i < its.toArray.size := by
      rw [List.size_toArray]; exact lt_of_get hu
    refine wpAny_pyNext_enum_itemD (Draws.tuple (prog := X.prog) (w := X.w) (A := X.A.in1) (I.ok.hd hc) it a hai its.toArray) he ⟨hit, p⟩ hlt hne (by simp [hne, hae]) fun x' h' tk hx' ho hst hT hsz hk => ?_
    have ex : x' = u := by
      have q1 : its.toArray[i]? = some x' := hx'
      simp only [List.getElem?_toArray] at q1
      rw [hu] at q1; cases q1; rfl
    subst ex
    obtain ⟨hit', _⟩ := hst
    refine ⟨_, rfl, wpAny_letOwnedTupleGo_enum (s := { s with heap := h', toks := tk + 1 }) ho fun h'' he' sb => ?_⟩
    have hT2 : h''.get? s.heap.objs.size = some { cls := .type "tuple", data := .seq #[.int i tk, x'] } := (sb.2 _ (Nat.ne_of_gt hel)).trans hT
    have new : ObjOk X.prog X.w (upd H s.heap.objs.size (.tup [.int (i : Nat), x])) h'' s.heap.objs.size (.tup [.int (i : Nat), x]) :=
      ⟨by show 2 ≤ sizeLine; decide, [.int i tk, x'], .cons ⟨_, rfl⟩ (.cons ru .nil), ⟨_, hT2, rfl, _, rfl⟩⟩
    have I1 : Inv X pins σ (upd H s.heap.objs.size (.tup [.int (i : Nat), x])) { s with heap := h'', toks := tk + 1 } :=
      I.turnedNew (ch := [e, it]) (fun b ob hb q => (sb.2 b (fun z => hb (by simp [z]))).trans (hk b ob (fun z => hb (by simp [z])) (fun z => hb (by simp [z])) q)) hf (Nat.le_refl _) new
    refine ⟨.ref s.heap.objs.size, _, I1, rfl, ⟨_, x, rfl, I.hok.fresh (Nat.le_refl _), rfl, fun ys hy => by rw [I.tuple_inj hy hq]; exact hx⟩, ⟨⟨x', ?_⟩, hit'.at fun o q => (sb.2 it (Ne.symm hne)).trans q, hne⟩, fun b hb => ?_⟩
    · have e1 : ((i + 1 : Nat) : Int) = (i : Int) + 1 := by omega
      rw [e1]; exact he'
    · have hb' : b < s.heap.objs.size := by
        have e' : b = e ∨ b = it := by simpa using hb
        rcases e' with z | z
        · rw [z]; exact hel
        · rw [z]; exact hil
      rw [upd_ne (Nat.ne_of_lt hb')]
      exact (hf b hb).1
  done := by
    intro X hP hw hK hc i pins s σ H E I hf st hg
    subst hP hw hK
    obtain ⟨⟨old, he⟩, hit, hne⟩ := st
    obtain ⟨xs, hq, hx⟩ := hg
    obtain ⟨its, rv, p, hz⟩ := I.tuple hq
    obtain ⟨f0, f1, f2, f3, f4, f5⟩ := hf it (by simp)
    have hl := rv.length
    have D : PySem.Draws X.prog X.w X.A.in1 it [it, a] i (fun _ _ => False) (fun j h => j = i ∧ h.IsTupleIter it a i ∧ h.IsTuple a its.toArray) :=
      ⟨fun _ _ st => let ⟨o, ho, _⟩ := st.2.1; ⟨o, ho⟩, fun _ _ _ st hk => ⟨st.1, st.2.1.at fun o e => hk it (by simp) o e, st.2.2.at fun o e => hk a (by simp) o e⟩,
        fun j s Q E hj hst hQ => absurd hst.1 (Nat.ne_of_lt hj), fun s Q E hst hE => wpAny_nextOf_tuple_end (I.ok.hd hc) hst.2.1 hst.2.2 (by simp; omega) hE⟩
    exact wpAny_pyNext_enum_endD D he ⟨rfl, hit, p⟩ fun h' eb => ⟨rfl, I.turned (t' := s.toks) (fun b o hb q => eb b o hb q) f0 f1 f3 f4 f5⟩
  self := fun A i s Q E st h => let ⟨⟨_, he⟩, _⟩ := st; wpAny_pyIter_enum he h
def iEnumT (K : PySem.W.Frag) (ta : TA) : TI := fun σ H R => ta σ H fun vs H1 => ∃ a xs, vs = [.ref a] ∧ SqT K H1 a xs ∧ R (IteT K a) H1
theorem pi_enumT {X : Cx} {e : Expr} {ta : TA} {p pos tpos : Pos} {elts : List Expr} {kk : Nat} (hg : Gl X "enumerate") (hm : X.mg "enumerate" = none) (ha : PA X [e] ta) (hs : starEach [e] X.env = [(false, eval e X.env)] := by rfl) :
    PI X (.Tuple elts kk tpos) (.Call (.Name "enumerate" p) [e] [] pos) (iEnumT X.K ta) := by
  refine ⟨fun pins s σ H R I h => ?_⟩
  refine Call_ (ld_blt I hg hm boot_enumerate (PyProof.Rows.callWith_type1 (thn (ha.run pos pins s σ H _ I h) fun us s1 ⟨vs, H1, I1, r1, q1⟩ => ?_) hs rfl))
  obtain ⟨a, xs, ex, hq, q⟩ := q1
  subst ex
  cases r1 with
  | cons r rr =>
    cases rr
    cases r
    obtain ⟨its, rv, p', hz⟩ := I1.tuple hq
    have hal : a < s1.heap.objs.size := p'.lt
    refine enum_begins1 (begins_tuple a its.toArray) p' fun h' he hit hsz hk => wpAny_pyIter_enum he ?_
    have I2 : Inv X pins σ H1 { s1 with heap := h' } := I1.kept (t' := s1.toks) hk
    refine ⟨s1.heap.objs.size + 1, [s1.heap.objs.size + 1, s1.heap.objs.size], _, _, H1, rfl, I2, turn_enumT a (s1.heap.objs.size + 1) s1.heap.objs.size (Nat.ne_of_lt hal) (Nat.ne_of_gt (Nat.lt_succ_of_lt hal)), ⟨⟨.none, he⟩, ⟨_, hit, rfl, rfl⟩, Nat.succ_ne_self _⟩, fun b hb => ?_, q⟩
    have e' : b = s1.heap.objs.size + 1 ∨ b = s1.heap.objs.size := by simpa using hb
    have hle : s1.heap.objs.size ≤ b := by
      rcases e' with z | z
      · rw [z]; exact Nat.le_add_right _ _
      · rw [z]; exact Nat.le_refl _
    exact I1.fpOk hle (I1.hok.fresh hle)

/-! ### the walks as evaluated -/
section
variable {ct : String → Addr} {X : Cx} {E : EK} {pos p2 p tpos : Pos} {a b c e tg iter elt : Expr} {es ifs elts : List Expr} {A B C : IE} {L : IL} {kk : Nat}
def fRange1 : List D → Sto → Rs Wk
  | [.int j], st => if -(2 ^ 62) ≤ j ∧ j < 2 ^ 62 then .ok (wkRange 0 j.toNat) st else .bad
  | _, _ => .bad
def fRange2 : List D → Sto → Rs Wk
  | [.int i, .int j], st => if -(2 ^ 62) ≤ i ∧ i < 2 ^ 62 ∧ -(2 ^ 62) ≤ j ∧ j < 2 ^ 62 then .ok (wkRange i (j - i).toNat) st else .bad
  | _, _ => .bad
def iWalkC (f : List D → Sto → Rs Wk) (L : IL) : IW := fun env st => (L env st).bind f
theorem wk_range {g : G0} {m0 : Mp} {H0 : Hp} {lo : Int} {n : Nat} : WkOk g m0 H0 (Itr lo n) (wkRange lo n) := fun i m H st mv rs => by
  unfold wkRange
  by_cases h : i < n
  · rw [if_pos h]
    refine ⟨h, fun x H' y => ?_⟩
    obtain ⟨rfl, rfl⟩ := y
    exact ⟨rs, Grow.refl _ _, .int _⟩
  · rw [if_neg h]
    exact Nat.le_of_not_lt h
theorem w_range1 (hg : Gl X "range") (hm : X.mg "range" = none) (ha : SA ct X E [a] L) (hs : starEach [a] X.env = [(false, eval a X.env)] := by rfl) : SWk ct X E tg (.Call (.Name "range" p) [a] [] pos) (iWalkC fRange1 L) :=
  ⟨(pi_range1 hg hm ha.pa hs).imp fun σ H R ⟨m, env, st, re, rs, fin⟩ => ⟨m, env, st, re, rs, fin.bind.imp fun m1 H1 ds st1 g1 rs1 q vs rv => by
    unfold fRange1 at q
    split at q
    · cases rv with
      | cons r1 r2 =>
        cases r2; cases r1
        split at q
        · rename_i hz
          exact ⟨_, rfl, hz.1, hz.2, Fin.here q rs1 _ wk_range⟩
        · exact q.elim
    · exact q.elim⟩⟩
theorem w_range2 (hg : Gl X "range") (hm : X.mg "range" = none) (ha : SA ct X E [a, b] L) (hs : starEach [a, b] X.env = [(false, eval a X.env), (false, eval b X.env)] := by rfl) (hs2 : starEach [b] X.env = [(false, eval b X.env)] := by rfl) : SWk ct X E tg (.Call (.Name "range" p) [a, b] [] pos) (iWalkC fRange2 L) :=
  ⟨(pi_range2 hg hm ha.pa hs hs2).imp fun σ H R ⟨m, env, st, re, rs, fin⟩ => ⟨m, env, st, re, rs, fin.bind.imp fun m1 H1 ds st1 g1 rs1 q vs rv => by
    unfold fRange2 at q
    split at q
    · cases rv with
      | cons r1 r2 =>
        cases r2 with
        | cons r2 r3 =>
          cases r3; cases r1; cases r2
          split at q
          · rename_i hz
            exact ⟨_, _, rfl, hz, Fin.here q rs1 _ wk_range⟩
          · exact q.elim
    · exact q.elim⟩⟩
/-- the kinds of walks over a list or a tuple -/
inductive WkS (g : G0) (m0 : Mp) (H0 : Hp) : V → Wk → Prop
  | l {a : Addr} {wk : Wk} : (∃ xs, SqL g.K H0 a xs) → WkOk g m0 H0 (Itl g.K a) wk → WkS g m0 H0 (.ref a) wk
  | t {a : Addr} {wk : Wk} : (∃ xs, SqT g.K H0 a xs) → WkOk g m0 H0 (Itt g.K a) wk → WkS g m0 H0 (.ref a) wk
/-- a list or a tuple, as it is walked -/
def seqWk2 (st : Sto) : D → Option (Bool × Wk)
  | .tup xs => some (true, wkSeq xs)
  | .rol xs => some (false, wkSeq xs)
  | .scr xs => some (false, wkSeq xs)
  | .ref n => match st[n]? with
    | some (.lst _) => some (false, wkLive n)
    | _ => none
  | _ => none
theorem wkL_of {g : G0} {m : Mp} {H : Hp} {st : Sto} {d : D} {x : V} {wk : Wk} (rs : RS g m H st) (r : RV g.K m H d x) (e : seqWk2 st d = some (false, wk)) : ∃ a, x = .ref a ∧ (∃ xs, SqL g.K H a xs) ∧ WkOk g m H (Itl g.K a) wk := by
  cases d with
  | rol xs =>
    cases e
    cases r with
    | rol h1 h2 => exact ⟨_, rfl, ⟨_, h1.sq⟩, wk_seqL fun m2 H2 mv => ⟨(mv.rol _ _ h1).sq, h2.moves mv⟩⟩
  | scr xs =>
    cases e
    cases r with
    | scr h1 h2 => exact ⟨_, rfl, ⟨_, h1.sq⟩, wk_seqL fun m2 H2 mv => ⟨(mv.scr _ _ h1).sq, h2.moves mv⟩⟩
  | ref n =>
    simp only [seqWk2] at e
    split at e
    · rename_i xs hx
      cases e
      cases r with
      | ref h1 =>
        obtain ⟨vs, r', hH⟩ := rs.rc n _ _ h1 hx
        exact ⟨_, rfl, ⟨_, SqL.of hH⟩, wk_live h1⟩
    · cases e
  | tup xs => simp [seqWk2] at e
  | _ => cases e
theorem wkT_of {g : G0} {m : Mp} {H : Hp} {st : Sto} {d : D} {x : V} {wk : Wk} (rs : RS g m H st) (r : RV g.K m H d x) (e : seqWk2 st d = some (true, wk)) : ∃ a, x = .ref a ∧ (∃ xs, SqT g.K H a xs) ∧ WkOk g m H (Itt g.K a) wk := by
  cases d with
  | tup xs =>
    cases e
    cases r with
    | tup h1 h2 => exact ⟨_, rfl, ⟨_, h1.sq⟩, wk_seqT fun m2 H2 mv => ⟨(mv.tup _ _ h1).sq, h2.moves mv⟩⟩
  | ref n =>
    simp only [seqWk2] at e
    split at e <;> cases e
  | rol xs => simp [seqWk2] at e
  | scr xs => simp [seqWk2] at e
  | _ => cases e
def wkEnum (wk : Wk) : Wk := fun i st => match wk i st with
  | some (some d) => some (some (.tup [.int (i : Nat), d]))
  | o => o
theorem wk_enumL {g : G0} {m0 : Mp} {H0 : Hp} {a : Addr} {wk : Wk} (h : WkOk g m0 H0 (Itl g.K a) wk) : WkOk g m0 H0 (Ite g.K a) (wkEnum wk) := fun i m H st mv rs => by
  have q := h i m H st mv rs
  unfold wkEnum
  cases e : wk i st with
  | none => trivial
  | some o =>
    rw [e] at q
    cases o with
    | none => exact q
    | some d =>
      refine ⟨q.1, fun v H' y => ?_⟩
      obtain ⟨T, x, rfl, hT, rfl, f⟩ := y
      obtain ⟨_, _, rv⟩ := q.2 x H ⟨rfl, f⟩
      have gr : Grow m H m (upd H T (.tup [.int (i : Nat), x])) := Grow.laid hT
      exact ⟨rs.laid hT, gr, .tup upd_same (.cons (.int _) (.cons (rv.mono gr) .nil))⟩
theorem wk_enumT {g : G0} {m0 : Mp} {H0 : Hp} {a : Addr} {wk : Wk} (h : WkOk g m0 H0 (Itt g.K a) wk) : WkOk g m0 H0 (IteT g.K a) (wkEnum wk) := fun i m H st mv rs => by
  have q := h i m H st mv rs
  unfold wkEnum
  cases e : wk i st with
  | none => trivial
  | some o =>
    rw [e] at q
    cases o with
    | none => exact q
    | some d =>
      refine ⟨q.1, fun v H' y => ?_⟩
      obtain ⟨T, x, rfl, hT, rfl, f⟩ := y
      obtain ⟨_, _, rv⟩ := q.2 x H ⟨rfl, f⟩
      have gr : Grow m H m (upd H T (.tup [.int (i : Nat), x])) := Grow.laid hT
      exact ⟨rs.laid hT, gr, .tup upd_same (.cons (.int _) (.cons (rv.mono gr) .nil))⟩
def fEnum : List D → Sto → Rs Wk
  | [d], st => match seqWk2 st d with
    | some (_, wk) => .ok (wkEnum wk) st
    | none => .bad
  | _, _ => .bad
theorem w_enum (hg : Gl X "enumerate") (hm : X.mg "enumerate" = none) (ha : SA ct X E [a] L) (hs : starEach [a] X.env = [(false, eval a X.env)] := by rfl) : SWk ct X E (.Tuple elts kk tpos) (.Call (.Name "enumerate" p) [a] [] pos) (iWalkC fEnum L) :=
  ⟨(pi_enum (elts := elts) (kk := kk) (tpos := tpos) (p := p) (pos := pos) hg hm ha.pa hs).both (pi_enumT hg hm ha.pa hs) fun σ H R ⟨m, env, st, re, rs, fin⟩ => by
    have hf := fin.bind
    cases hA : L env st with
    | bad => rw [hA] at hf; exact hf.elim
    | exn e' st' => exact .inl ⟨m, env, st, re, rs, by rw [hA] at hf ⊢; exact hf⟩
    | ok ds st1 =>
      rw [hA] at hf
      have hf : ∀ m1 H1, Grow m H m1 H1 → RS (gx ct X) m1 H1 st1 → Fin (gx ct X) E m1 H1 (fEnum ds st1) _ := hf
      unfold fEnum at hf
      split at hf
      · rename_i d
        split at hf
        · rename_i k wk hk
          cases k with
          | false =>
            refine .inl ⟨m, env, st, re, rs, ?_⟩
            rw [hA]
            intro m1 H1 g1 rs1 vs rv
            cases rv with
            | cons r1 r2 =>
              cases r2
              obtain ⟨a, rfl, ⟨xs, hs⟩, ok⟩ := wkL_of rs1 r1 hk
              exact ⟨a, xs, rfl, hs, Fin.here (hf m1 H1 g1 rs1) rs1 _ (wk_enumL ok)⟩
          | true =>
            refine .inr ⟨m, env, st, re, rs, ?_⟩
            rw [hA]
            intro m1 H1 g1 rs1 vs rv
            cases rv with
            | cons r1 r2 =>
              cases r2
              obtain ⟨a, rfl, ⟨xs, hs⟩, ok⟩ := wkT_of rs1 r1 hk
              exact ⟨a, xs, rfl, hs, Fin.here (hf m1 H1 g1 rs1) rs1 _ (wk_enumT ok)⟩
        · refine .inl ⟨m, env, st, re, rs, ?_⟩
          rw [hA]
          exact fun m1 H1 g1 rs1 => (hf m1 H1 g1 rs1).elim
      · refine .inl ⟨m, env, st, re, rs, ?_⟩
        rw [hA]
        exact fun m1 H1 g1 rs1 => (hf m1 H1 g1 rs1).elim⟩
def wkZip (wk wk' : Wk) : Wk := fun i st => match wk i st, wk' i st with
  | some (some d), some (some e) => some (some (.tup [d, e]))
  | some none, some _ => some none
  | some (some _), some none => some none
  | _, _ => none
theorem wk_zipL {g : G0} {m0 : Mp} {H0 : Hp} {a b : Addr} {wk wk' : Wk} (h : WkOk g m0 H0 (Itl g.K a) wk) (h' : WkOk g m0 H0 (Itl g.K b) wk') : WkOk g m0 H0 (Itz g.K a b) (wkZip wk wk') := fun i m H st mv rs => by
  have q := h i m H st mv rs
  have q' := h' i m H st mv rs
  unfold wkZip
  cases e : wk i st with
  | none => trivial
  | some o =>
    cases e' : wk' i st with
    | none => cases o <;> trivial
    | some o' =>
      rw [e] at q
      rw [e'] at q'
      cases o with
      | none =>
        obtain ⟨xs, hx, hl⟩ := q
        cases o' with
        | none => obtain ⟨ys, hy, _⟩ := q'; exact ⟨xs, ys, hx, hy, .inl hl⟩
        | some d' => obtain ⟨⟨ys, y, hy, _⟩, _⟩ := q'; exact ⟨xs, ys, hx, hy, .inl hl⟩
      | some d =>
        cases o' with
        | none => obtain ⟨ys, hy, hl⟩ := q'; obtain ⟨⟨xs, x, hx, _⟩, _⟩ := q; exact ⟨xs, ys, hx, hy, .inr hl⟩
        | some d' =>
          obtain ⟨⟨xs, x, hx, ex⟩, f⟩ := q
          obtain ⟨⟨ys, y, hy, ey⟩, f'⟩ := q'
          refine ⟨⟨xs, ys, x, y, hx, hy, ex, ey⟩, fun v H' yy => ?_⟩
          obtain ⟨T, x1, y1, rfl, hT, rfl, h1, h2⟩ := yy
          obtain ⟨_, _, r1⟩ := f x1 H ⟨rfl, h1⟩
          obtain ⟨_, _, r2⟩ := f' y1 H ⟨rfl, h2⟩
          have gr : Grow m H m (upd H T (.tup [x1, y1])) := Grow.laid hT
          exact ⟨rs.laid hT, gr, .tup upd_same (.cons (r1.mono gr) (.cons (r2.mono gr) .nil))⟩
theorem wk_zipT {g : G0} {m0 : Mp} {H0 : Hp} {a b : Addr} {wk wk' : Wk} (h : WkOk g m0 H0 (Itt g.K a) wk) (h' : WkOk g m0 H0 (Itt g.K b) wk') : WkOk g m0 H0 (ItzT g.K a b) (wkZip wk wk') := fun i m H st mv rs => by
  have q := h i m H st mv rs
  have q' := h' i m H st mv rs
  unfold wkZip
  cases e : wk i st with
  | none => trivial
  | some o =>
    cases e' : wk' i st with
    | none => cases o <;> trivial
    | some o' =>
      rw [e] at q
      rw [e'] at q'
      cases o with
      | none =>
        obtain ⟨xs, hx, hl⟩ := q
        cases o' with
        | none => obtain ⟨ys, hy, _⟩ := q'; exact ⟨xs, ys, hx, hy, .inl hl⟩
        | some d' => obtain ⟨⟨ys, y, hy, _⟩, _⟩ := q'; exact ⟨xs, ys, hx, hy, .inl hl⟩
      | some d =>
        cases o' with
        | none => obtain ⟨ys, hy, hl⟩ := q'; obtain ⟨⟨xs, x, hx, _⟩, _⟩ := q; exact ⟨xs, ys, hx, hy, .inr hl⟩
        | some d' =>
          obtain ⟨⟨xs, x, hx, ex⟩, f⟩ := q
          obtain ⟨⟨ys, y, hy, ey⟩, f'⟩ := q'
          refine ⟨⟨xs, ys, x, y, hx, hy, ex, ey⟩, fun v H' yy => ?_⟩
          obtain ⟨T, x1, y1, rfl, hT, rfl, h1, h2⟩ := yy
          obtain ⟨_, _, r1⟩ := f x1 H ⟨rfl, h1⟩
          obtain ⟨_, _, r2⟩ := f' y1 H ⟨rfl, h2⟩
          have gr : Grow m H m (upd H T (.tup [x1, y1])) := Grow.laid hT
          exact ⟨rs.laid hT, gr, .tup upd_same (.cons (r1.mono gr) (.cons (r2.mono gr) .nil))⟩
def fZip : List D → Sto → Rs Wk
  | [d, e], st => match seqWk2 st d, seqWk2 st e with
    | some (true, wk), some (true, wk') => .ok (wkZip wk wk') st
    | some (false, wk), some (false, wk') => .ok (wkZip wk wk') st
    | _, _ => .bad
  | _, _ => .bad
theorem w_zip (hg : Gl X "zip") (hm : X.mg "zip" = none) (ha : SA ct X E [a, b] L) (hs : starEach [a, b] X.env = (false, eval a X.env) :: starEach [b] X.env := by rfl) (hpl : (backTo pos (starEach [b] X.env)).any (·.1) = false := by rfl) :
    SWk ct X E (.Tuple elts kk tpos) (.Call (.Name "zip" p) [a, b] [] pos) (iWalkC fZip L) :=
  ⟨(pi_zipA hg hm ha.pa hs hpl).imp fun σ H R ⟨m, env, st, re, rs, fin⟩ => ⟨m, env, st, re, rs, fin.bind.imp fun m1 H1 ds st1 g1 rs1 q vs rv => by
    unfold fZip at q
    split at q
    · cases rv with
      | cons r1 r2 =>
        cases r2 with
        | cons r2 r3 =>
          cases r3
          split at q
          · rename_i k1 k2
            obtain ⟨a, rfl, ⟨xs, hx⟩, o1⟩ := wkT_of rs1 r1 k1
            obtain ⟨b, rfl, ⟨ys, hy⟩, o2⟩ := wkT_of rs1 r2 k2
            exact ⟨a, b, xs, ys, rfl, .inr ⟨hx, hy, Fin.here q rs1 _ (wk_zipT o1 o2)⟩⟩
          · rename_i k1 k2
            obtain ⟨a, rfl, ⟨xs, hx⟩, o1⟩ := wkL_of rs1 r1 k1
            obtain ⟨b, rfl, ⟨ys, hy⟩, o2⟩ := wkL_of rs1 r2 k2
            exact ⟨a, b, xs, ys, rfl, .inl ⟨hx, hy, Fin.here q rs1 _ (wk_zipL o1 o2)⟩⟩
          · exact q.elim
    · exact q.elim⟩⟩
end
end QI

namespace QI
open PySem PySem.Spec PyProof.Rows L2

/-! ### is of bools -/
section
variable {ct : String → Addr} {X : Cx} {E : EK} {pos : Pos} {a b c e : Expr} {A B C : IE}
def gIsB : D → D → Sto → Rs D
  | .bl x, .bl y, st => .ok (.bl (decide (x = y))) st
  | _, .bl _, st => .ok (.bl false) st
  | d, .non, st => .ok (.bl d.isNon) st
  | _, _, _ => .bad
theorem op_isB : OpR X (compareOp .Is) (fun x y H Q => ∃ b, y = .bl b ∧ (∀ a, x ≠ .flt a) ∧ (∀ a, x ≠ .byt a) ∧ Q (.bl (decide (x = .bl b))) H) := by
  intro pins s σ H x y v u Q I rx ry h
  obtain ⟨b, rfl, n1, n2, q⟩ := h
  cases ry
  cases x with
  | non => cases rx; exact wpAny_pure (a := Value.bool false) ⟨.bl false, H, I, rfl, by simpa using q⟩
  | bl a =>
    cases rx
    refine is_bool ⟨.bl (a == b), H, I, rfl, ?_⟩
    have e : decide (V.bl a = V.bl b) = (a == b) := dec_bl
    rw [← e]; exact q
  | int a => obtain ⟨t, rfl⟩ := rx; exact wpAny_pure (a := Value.bool false) ⟨.bl false, H, I, rfl, by simpa using q⟩
  | str a => obtain ⟨t, rfl⟩ := rx; exact wpAny_pure (a := Value.bool false) ⟨.bl false, H, I, rfl, by simpa using q⟩
  | byt a => exact absurd rfl (n2 a)
  | flt a => exact absurd rfl (n1 a)
  | ref a => cases rx; exact wpAny_pure (a := Value.bool false) ⟨.bl false, H, I, rfl, by simpa using q⟩
  | ty a => cases rx; exact wpAny_pure (a := Value.bool false) ⟨.bl false, H, I, rfl, by simpa using q⟩
theorem plain_of {K : PySem.W.Frag} {m : Mp} {H : Hp} {d : D} {v : V} (h : RV K m H d v) : (∀ a, v ≠ .flt a) ∧ (∀ a, v ≠ .byt a) := by
  cases h <;> exact ⟨(fun _ z => by cases z), (fun _ z => by cases z)⟩
theorem c_isB : CmpR ct X E .Is gIsB := ⟨_, op_isB.or op_isN, fun m H st d e x y Q rs rx ry fin => by
  unfold gIsB at fin
  split at fin
  · cases rx; cases ry
    refine .inl ⟨_, rfl, (plain_of (.bl _ : RV X.K m H _ _)).1, (plain_of (.bl _ : RV X.K m H _ _)).2, ?_⟩
    have q := fin.here rs _ (.bl _)
    rename_i x y
    rw [show decide (V.bl x = V.bl y) = decide (x = y) by simp]
    exact q
  · rename_i dd bb hn
    cases ry
    refine .inl ⟨_, rfl, (plain_of rx).1, (plain_of rx).2, ?_⟩
    have q := fin.here rs _ (.bl _)
    have hne : x ≠ .bl bb := fun z => by
      subst z
      cases rx
      exact hn _ rfl
    rw [decide_eq_false hne]
    exact q
  · cases ry
    exact .inr ⟨rfl, by rw [isNon_of rx]; exact fin.here rs _ (.bl _)⟩
  · exact fin.elim⟩

/-! ### isinstance with a built-in class -/
def D.kind (st : Sto) : D → Option String
  | .non => some "NoneType"
  | .bl _ => some "bool"
  | .int _ => some "int"
  | .str _ => some "str"
  | .tup _ => some "tuple"
  | .rol _ => some "list"
  | .scr _ => some "list"
  | .ref n => match st[n]? with
    | some (.lst _) => some "list"
    | _ => none
def isK (k T : String) : Bool := k == T || (k == "bool" && T == "int")
def kinds : List String := ["NoneType", "bool", "int", "str", "tuple", "list"]
def types : List String := ["bool", "int", "str", "tuple", "list"]
theorem kit_all : ∀ k ∈ kinds, ∀ T ∈ types, kitB k T = some (isK k T) := by decide +kernel
theorem kind_of {g : G0} {m : Mp} {H : Hp} {st : Sto} {d : D} {x : V} {k : String} (rs : RS g m H st) (r : RV g.K m H d x) (e : d.kind st = some k) : k ∈ kinds ∧ TyX g.K H x (.type k) := by
  cases d with
  | non => cases r; cases e; exact ⟨by decide, .base .non⟩
  | bl b => cases r; cases e; exact ⟨by decide, .base (.bl _)⟩
  | int b => cases r; cases e; exact ⟨by decide, .base (.int _)⟩
  | str b => cases r; cases e; exact ⟨by decide, .base (.str _)⟩
  | tup xs =>
    cases e
    cases r with
    | tup h1 h2 =>
      exact ⟨by decide, .base (.tup h1)⟩
  | rol xs =>
    cases e
    cases r with
    | rol h1 h2 => exact ⟨by decide, .base (.lst h1.2.2)⟩
  | scr xs =>
    cases e
    cases r with
    | scr h1 h2 =>
      rcases h1 with ⟨o, h1⟩ | ⟨o, its, n, h1, h3, _⟩
      · exact ⟨by decide, .base (.frz h1)⟩
      · exact ⟨by decide, .kList h1 h3⟩
  | ref n =>
    simp only [D.kind] at e
    split at e
    · rename_i xs hx
      cases e
      cases r with
      | ref h1 =>
        obtain ⟨vs, _, hH⟩ := rs.rc n _ _ h1 hx
        exact ⟨by decide, .base (.lst hH)⟩
    · cases e
def gIsi (T : String) : D → Sto → Rs D := fun d st => match d.kind st with
  | some k => .ok (.bl (isK k T)) st
  | none => .bad
theorem si_isi (T : String) {p p2 : Pos} {x : Str} (hg : Gl X "isinstance") (hm : X.mg "isinstance" = none) (hT : T ∈ types) (ha : SI ct X E a A) (hb : PE X (.Name x p2) (tC (.ty T)))
    (he : starEach [a, .Name x p2] X.env = (false, eval a X.env) :: starEach [.Name x p2] X.env := by rfl) (he2 : starEach [.Name x p2] X.env = (false, eval (.Name x p2) X.env) :: starEach [] X.env := by rfl) (hpl : (backTo pos (starEach [.Name x p2] X.env)).any (·.1) = false := by rfl) :
    SI ct X E (.Call (.Name "isinstance" p) [a, .Name x p2] [] pos) (iUn (gIsi T) A) :=
  ⟨(pe_callB call_isi hg hm boot_isinstance (pa_cons ha.pe (pa_cons hb pa_nil he2) he) (by decide) (by decide) he hpl).imp fun σ H Q ⟨m, env, st, re, rs, fin⟩ => ⟨m, env, st, re, rs, fin.bind.imp fun m1 H1 d st1 g1 rs1 q v rv => by
    unfold gIsi at q
    split at q
    · rename_i k hk
      obtain ⟨h1, h2⟩ := kind_of rs1 rv hk
      exact ⟨v, .ty T, .type k, .type T, isK k T, rfl, .ty T, h2, kit_ty (kit_all k h1 T hT), q.here rs1 _ (.bl _)⟩
    · exact q.elim⟩⟩
end

/-! ### methods of lists, stores into lists -/
def isLst (st : Sto) : D → Bool
  | .ref n => match st[n]? with
    | some (.lst _) => true
    | _ => false
  | _ => false
section
variable {ct : String → Addr} {X : Cx} {E : EK} {pos apos : Pos} {a b c e o : Expr} {es : List Expr} {A B C O : IE} {L : IL}
def MtS (g : G0) (E : EK) (f : D → List D → Sto → Rs D) (r : V → List V → Hp → VK → Prop) : Prop :=
  ∀ (m : Mp) (H : Hp) (st : Sto) (d : D) (ds : List D) (x : V) (vs : List V) (Q : VK), RS g m H st → RV g.K m H d x → RVs g.K m H ds vs → Fin g E m H (f d ds st) (EndE g Q) → r x vs H Q
def iMeth (f : D → List D → Sto → Rs D) (O : IE) (L : IL) : IE := fun env st => (O env st).bind fun d st1 => if isLst st1 d = true then (L env st1).bind fun ds st2 => f d ds st2 else .bad
theorem lst_ty {g : G0} {m : Mp} {H : Hp} {st : Sto} {d : D} {x : V} (rs : RS g m H st) (r : RV g.K m H d x) (h : isLst st d = true) : tyV g.K "list" x H := by
  cases d with
  | ref n =>
    simp only [isLst] at h
    split at h
    · rename_i xs hx
      cases r with
      | ref h1 =>
        obtain ⟨vs, _, hH⟩ := rs.rc n _ _ h1 hx
        exact .inl ⟨rfl, vs, SqL.of hH⟩
    · cases h
  | _ => simp [isLst] at h
theorem si_meth {name : Str} {id : String} {f : D → List D → Sto → Rs D} {r : V → List V → Hp → VK → Prop} (slot : Slot "list" name id) (hty : typeOf (.builtin id) = pure (.type "method_descriptor")) (hm : MtR X id r) (hr : MtS (gx ct X) E f r) (ho : SI ct X E o O) (ha : SA ct X E (e :: es) L)
    (h : PE X (.Call (.Attribute o name apos) (e :: es) [] pos) (tBM X.K "list" r (tI (gx ct X) E O) (tIA (gx ct X) E L))) :
    SI ct X E (.Call (.Attribute o name apos) (e :: es) [] pos) (iMeth f O L) :=
  ⟨h.imp fun σ H Q ⟨m, env, st, re, rs, fin⟩ => ⟨m, env, st, re, rs, fin.bind.imp fun m1 H1 d st1 g1 rs1 q x rx => by
    split at q
    · rename_i hl
      exact ⟨lst_ty rs1 rx hl, m1, env, st1, re.mono g1, rs1, q.bind.imp fun m2 H2 ds st2 g2 rs2 q2 vs rv => hr m2 H2 st2 d ds x vs Q rs2 (rx.mono g2) rv q2⟩
    · exact q.elim⟩⟩
def setL (st : Sto) (n : Nat) (xs : List D) : Sto := st.set n (.lst xs)
theorem write_lst {g : G0} {m : Mp} {H : Hp} {st : Sto} {n : Nat} {a : Addr} {xs ys : List D} {vs ws : List V} (rs : RS g m H st) (h1 : m.cs[n]? = some a) (hx : st[n]? = some (.lst xs)) (r : RVs g.K m H ys ws) : RS g m (upd H a (.lst ws)) (setL st n ys) ∧ Grow m H m (upd H a (.lst ws)) :=
  rs.write h1 hx fun gr => ⟨ws, r.mono gr, upd_same⟩
def gAppend : D → List D → Sto → Rs D
  | .ref n, [e], st => match st[n]? with
    | some (.lst xs) => if xs.length < 16777216 then .ok .non (setL st n (xs ++ [e])) else .bad
    | _ => .bad
  | _, _, _ => .bad
theorem mts_append {g : G0} : MtS g E gAppend rAppend := fun m H st d ds x vs Q rs rx rv fin => by
  unfold gAppend at fin
  split at fin
  · split at fin
    · rename_i xs hx
      split at fin
      · rename_i hz
        cases rx with
        | ref h1 =>
          cases rv with
          | cons r1 r2 =>
            cases r2
            obtain ⟨ws, r, hH⟩ := rs.rc _ _ _ h1 hx
            obtain ⟨rs', gr⟩ := write_lst (vs := ws) rs h1 hx (r.append (.cons r1 .nil))
            exact ⟨_, ws, _, rfl, rfl, hH, by rw [← r.length, sl_eq]; exact hz, fin m _ gr rs' _ .non⟩
      · exact fin.elim
    · exact fin.elim
  · exact fin.elim
theorem si_append (ho : SI ct X E o O) (ha : SA ct X E (e :: es) L) (hbase : attributeBase o "append" X.env (eval o X.env) = eval o X.env := by rfl)
    (hfew : ((backTo pos (starEach (e :: es) X.env)).all (fun x => !x.1) && (backToKw pos (keywordEach [] X.env)).all (fun x => x.1.isSome)
      && decide ((e :: es).length + ([] : List Keyword).length + (if ([] : List Keyword).isEmpty then 0 else 1) < 30)) = true := by rfl)
    (hline : (apos.endLine == pos.line) = true := by rfl) (hs : starEach (e :: es) X.env = (false, eval e X.env) :: starEach es X.env := by rfl) (hplain : (backTo pos (starEach es X.env)).any (·.1) = false := by rfl) : SI ct X E (.Call (.Attribute o "append" apos) (e :: es) [] pos) (iMeth gAppend O L) :=
  si_meth PySem.F.slot_list_append PySem.F.type_list_append mt_append mts_append ho ha (pe_bm PySem.F.plainAttrs_list PySem.F.slot_list_append PySem.F.type_list_append mt_append ho.pe ha.pa hbase hfew hline hs hplain)
def gExtend : D → List D → Sto → Rs D
  | .ref n, [e], st => match st[n]?, listAt st e with
    | some (.lst xs), some ys => if xs.length + ys.length ≤ 16777216 then .ok .non (setL st n (xs ++ ys)) else .bad
    | _, _ => .bad
  | _, _, _ => .bad
theorem mts_extend {g : G0} : MtS g E gExtend rExtend := fun m H st d ds x vs Q rs rx rv fin => by
  unfold gExtend at fin
  split at fin
  · split at fin
    · rename_i xs ys hx hy
      split at fin
      · rename_i hz
        cases rx with
        | ref h1 =>
          cases rv with
          | cons r1 r2 =>
            cases r2
            obtain ⟨ws, r, hH⟩ := rs.rc _ _ _ h1 hx
            obtain ⟨p, zs, rfl, hp, r'⟩ := list_of rs r1 hy
            obtain ⟨rs', gr⟩ := write_lst (vs := ws) rs h1 hx (r.append r')
            exact ⟨_, p, ws, zs, rfl, rfl, hH, hp, by rw [← r.length, ← r'.length, sl_eq]; exact hz, fin m _ gr rs' _ .non⟩
      · exact fin.elim
    · exact fin.elim
  · exact fin.elim
theorem si_extend (ho : SI ct X E o O) (ha : SA ct X E (e :: es) L) (hbase : attributeBase o "extend" X.env (eval o X.env) = eval o X.env := by rfl)
    (hfew : ((backTo pos (starEach (e :: es) X.env)).all (fun x => !x.1) && (backToKw pos (keywordEach [] X.env)).all (fun x => x.1.isSome)
      && decide ((e :: es).length + ([] : List Keyword).length + (if ([] : List Keyword).isEmpty then 0 else 1) < 30)) = true := by rfl)
    (hline : (apos.endLine == pos.line) = true := by rfl) (hs : starEach (e :: es) X.env = (false, eval e X.env) :: starEach es X.env := by rfl) (hplain : (backTo pos (starEach es X.env)).any (·.1) = false := by rfl) : SI ct X E (.Call (.Attribute o "extend" apos) (e :: es) [] pos) (iMeth gExtend O L) :=
  si_meth PySem.F.slot_list_extend PySem.F.type_list_extend mt_extend mts_extend ho ha (pe_bm PySem.F.plainAttrs_list PySem.F.slot_list_extend PySem.F.type_list_extend mt_extend ho.pe ha.pa hbase hfew hline hs hplain)
/-- o[i] = e -/
def gSetIx (o i v : D) (st : Sto) : Rs Unit := match o, i with
  | .ref n, .int k => match st[n]? with
    | some (.lst xs) => match ixN xs.length k with
      | some j => .ok () (setL st n (xs.set j v))
      | none => .bad
    | _ => .bad
  | _, _ => .bad
def sSetIx (O I A : IE) : IS := fun env st => (A env st).bind fun v st1 => (O env st1).bind fun o st2 => (I env st2).bind fun i st3 => (gSetIx o i v st3).bind fun _ st4 => .ok (.nx env) st4
theorem s_setIx {p : Pos} (ho : SI ct X E o O) (hi : SI ct X E b B) (he : SI ct X E e A)
    (ha : ∀ v, assign (.Subscript o b p) X.env v = (do
      let ov ← holding [v] (eval o X.env)
      let iv ← holding [v, ov] (eval b X.env)
      standAt p
      holding [v, ov, iv] (setItem ov iv v)
      release [v, ov, iv] []) := by intro _; rfl) (hs : swapsWithSole [.Subscript o b p] e pos.line X.env = pure false := by rfl) (hw : swappedStores [.Subscript o b p] e X.env = pure none := by rfl)
    (h1 : (assignEach [.Subscript o b p] X.env).map (·.2) = [assign (.Subscript o b p) X.env] := by rfl) : SS ct X E (.Assign [.Subscript o b p] e pos) (sSetIx O B A) :=
  ⟨(ps_asg he.pe (pg_sub ho.pe hi.pe set_list ha) hs hw h1).imp fun Dn σ H ⟨m, env, st, re, rs, fin⟩ => ⟨m, env, st, re, rs, fin.bind.imp fun m1 H1 d st1 g1 rs1 q v rv =>
    ⟨m1, env, st1, re.mono g1, rs1, q.bind.imp fun m2 H2 o' st2 g2 rs2 q2 x rx => ⟨m2, env, st2, (re.mono g1).mono g2, rs2, q2.bind.imp fun m3 H3 i st3 g3 rs3 q3 y ry => by
      unfold gSetIx at q3
      split at q3
      · split at q3
        · rename_i xs hx
          split at q3
          · rename_i j hj
            have rx' := rx.mono g3
            cases rx' with
            | ref h1 =>
              cases ry
              obtain ⟨ws, r, hH⟩ := rs3.rc _ _ _ h1 hx
              obtain ⟨rs', gr⟩ := write_lst (vs := ws) rs3 h1 hx (r.set j ((rv.mono g2).mono g3))
              exact ⟨_, ws, _, j, rfl, rfl, hH, by rw [← r.length]; exact hj, q3 m3 _ gr rs' σ ((((re.mono g1).mono g2).mono g3).mono gr)⟩
          · exact q3.elim
        · exact q3.elim
      · exact q3.elim⟩⟩⟩⟩
/-- name op= e -/
def sAug (i : Nat) (f : D → D → Sto → Rs D) (A : IE) : IS := fun env st => match env[i]? with
  | some (some d) => (A env st).bind fun e st1 => (f d e st1).bind fun r st2 => .ok (.nx (env.set i (some r))) st2
  | _ => .bad
def gAddI : D → D → Sto → Rs D
  | .int i, .int j, st => .ok (.int (i + j)) st
  | _, _, _ => .bad
theorem s_augAdd (i : Nat) {x : Str} {p' : Pos} (hN : X.N.Nodup) (he : SI ct X E e A) (hi : X.N[i]? = some x := by rfl) (hx : Loc X.env.scope x := by first | exact .inl rfl | exact .inr rfl) (hf : X.fn x = true ∨ X.env.scope.names.lookup x = some .local := by first | exact .inl rfl | exact .inr rfl) :
    SS ct X E (.AugAssign (.Name x p') .Add e pos) (sAug i gAddI A) :=
  ⟨(ps_aug hN hi hx he.pe ip_add hf).imp fun Dn σ H ⟨m, env, st, re, rs, fin⟩ => by
    unfold sAug at fin
    split at fin
    · rename_i d hd
      obtain ⟨v, hv, rv⟩ := re.at_ i d hd
      refine ⟨v, hv, m, env, st, re, rs, fin.bind.imp fun m1 H1 e st1 g1 rs1 q y ry => ?_⟩
      unfold gAddI at q
      split at q
      · cases rv; cases ry
        exact ⟨_, _, rfl, rfl, q.here rs1 _ ((re.mono g1).set (.int _) i)⟩
      · exact q.elim
    · exact fin.elim⟩
end

/-! ### defs -/
/-- what a call gives -/
def spI (g : G0) (n : Nat) (G : List D → Sto → Rs D) : Sp := fun vs H Q _ => ∃ m ds st, ds.length = n ∧ RVs g.K m H ds vs ∧ RS g m H st ∧ Fin g noE m H (G ds st) (EndE g Q)
section
variable {ct : String → Addr} {X : Cx} {E : EK} {pos p : Pos} {a b c e o : Expr} {es : List Expr} {A B C O : IE} {L L2 : IL} {k : Nat} {f : Addr} {fd : FuncData} {ps : List Str} {G : List D → Sto → Rs D} {x : Str} {dvs : List V} {us : List Value} {dds : List D}
/-- a call with n written arguments; dds: the defaults that fill up -/
def iCall (n : Nat) (G : List D → Sto → Rs D) (dds : List D) (L : IL) : IE := fun env st => (L env st).bind fun ds st1 => if ds.length = n then (G (ds ++ dds) st1).strict else .bad
theorem Fin.strictE {α : Type} {g : G0} {m : Mp} {H : Hp} {r : Rs α} {R : Mp → Hp → α → Sto → Prop} (h : Fin g E m H r.strict R) : Fin g noE m H r R := by
  cases r with
  | ok a st => exact h
  | exn e st => exact (show False from h).elim
  | bad => exact h
theorem fn_len {P : Program} {w : World} {K : PySem.W.Frag} {mg : Str → Option Value} {base : Heap} {CX : CXT} {sp : Sp} (F : FnOk P w K mg base CX k f fd ps sp) : ∀ vs H Q E, sp vs H Q E → vs.length = ps.length := F.len
theorem si_call (F : FnOk X.prog X.w X.K X.mg X.base CX0 k f fd ps (spI (gx ct X) ps.length G)) (hr : Room k X.A) (hg : Gl X x) (hm : X.mg x = some (.ref f)) (hk : PySem.W.keepIn X.K (.ref f) = true) (hb : Binds X.K fd ps us) (hd : Vals dvs us) (hdd : ∀ m H, RVs X.K m H dds dvs) (n : Nat) (hn : n + dds.length = ps.length)
    (ha : SA ct X E (e :: es) L) (hl : (e :: es).length = n := by rfl) (hdb : (x == ("__debug__" : Str)) = false := by decide) (he : starEach (e :: es) X.env = (false, eval e X.env) :: starEach es X.env := by rfl) (hpl : (backTo pos (starEach es X.env)).any (·.1) = false := by rfl) :
    SI ct X E (.Call (.Name x p) (e :: es) [] pos) (iCall n G dds L) :=
  ⟨(pe_call F hr hg hm hk hb hd pass0 ha.pa hdb he hpl).imp fun σ H Q ⟨m, env, st, re, rs, fin⟩ => ⟨m, env, st, re, rs, fin.bind.imp fun m1 H1 ds st1 g1 rs1 q vs rv => by
    split at q
    · rename_i hz
      exact ⟨m1, ds ++ dds, st1, by rw [List.length_append, hz, hn], rv.append (hdd _ _), rs1, q.strictE⟩
    · exact q.elim⟩⟩
/-! keywords -/
variable {kws : List Keyword} {ks : List Str} {kpos : Pos} {nm : Option Str}
variable (ct X E) in
structure SK (kws : List Keyword) (I : IL) : Prop where
  pk : PK X kws (tIA (gx ct X) E I)
theorem _root_.L2.PK.imp {X : Cx} {e : List Keyword} {t t' : TA} (h : PK X e t) (f : ∀ σ H Q, t' σ H Q → t σ H Q) : PK X e t' := ⟨fun p pins s σ H Q I q => h.run p pins s σ H Q I (f σ H Q q)⟩
theorem sk_nil : SK ct X E [] iNil := ⟨pk_nil.imp fun σ H Q ⟨m, env, st, re, rs, fin⟩ => Fin.here fin rs _ .nil⟩
theorem sk_cons (ha : SI ct X E e A) (hl : SK ct X E kws L) : SK ct X E (⟨nm, e, kpos⟩ :: kws) (iCons A L) :=
  ⟨(pk_cons ha.pe hl.pk).imp fun σ H Q ⟨m, env, st, re, rs, fin⟩ => ⟨m, env, st, re, rs, fin.bind.imp fun m1 H1 d st1 g1 rs1 q x rx =>
    ⟨m1, env, st1, re.mono g1, rs1, q.bind.imp fun m2 H2 ds st2 g2 rs2 q2 xs rxs => q2.here rs2 _ (.cons (rx.mono g2) rxs)⟩⟩⟩
/-- the keywords stand in the parameters' order, behind the positional ones; n of them in all -/
def iCallK (n : Nat) (G : List D → Sto → Rs D) (L L2 : IL) : IE := fun env st => (L env st).bind fun ds st1 => (L2 env st1).bind fun es st2 => if ds.length + es.length = n then (G (ds ++ es) st2).strict else .bad
theorem si_callK (F : FnOk X.prog X.w X.K X.mg X.base CX0 k f fd ps (spI (gx ct X) ps.length G)) (hr : Room k X.A) (hg : Gl X x) (hm : X.mg x = some (.ref f)) (hk : PySem.W.keepIn X.K (.ref f) = true)
    (hb : KBinds X.K fd ps ks (fun us ws => us ++ ws) (fun vs zs => vs ++ zs)) (ha : SA ct X E (e :: es) L) (hkw : SK ct X E kws L2)
    (hall : (backToKw pos (keywordEach kws X.env)).all (·.1.isSome) = true := by rfl) (hks : (backToKw pos (keywordEach kws X.env)).filterMap (·.1) = ks := by rfl)
    (hdb : (x == ("__debug__" : Str)) = false := by decide) (he : starEach (e :: es) X.env = (false, eval e X.env) :: starEach es X.env := by rfl)
    (hpl : ((backTo pos (starEach (e :: es) X.env)).any (·.1) || (backToKw pos (keywordEach kws X.env)).any (·.1.isNone)) = false := by rfl) : SI ct X E (.Call (.Name x p) (e :: es) kws pos) (iCallK ps.length G L L2) :=
  ⟨(pe_callK F hr hg hm hk hb pass0 ha.pa hkw.pk hall hks hdb he hpl).imp fun σ H Q ⟨m, env, st, re, rs, fin⟩ => ⟨m, env, st, re, rs, fin.bind.imp fun m1 H1 ds st1 g1 rs1 q vs rv =>
    ⟨m1, env, st1, re.mono g1, rs1, q.bind.imp fun m2 H2 es st2 g2 rs2 q2 zs rz => by
      split at q2
      · rename_i hz
        exact ⟨m2, ds ++ es, st2, by rw [List.length_append, hz], (rv.mono g2).append rz, rs2, q2.strictE⟩
      · exact q2.elim⟩⟩⟩
theorem pe_callK0 {sp : Sp} {g : List Value → List Value → List Value} {gV : List V → List V → List V} {tk : TA} (F : FnOk X.prog X.w X.K X.mg X.base CX0 k f fd ps sp) (hr : Room k X.A) (hg : Gl X x) (hm : X.mg x = some (.ref f)) (hk : PySem.W.keepIn X.K (.ref f) = true) (hb : KBinds X.K fd ps ks g gV)
    (hkw : PK X kws tk) (hall : (backToKw pos (keywordEach kws X.env)).all (·.1.isSome) = true := by rfl) (hks : (backToKw pos (keywordEach kws X.env)).filterMap (·.1) = ks := by rfl)
    (hdb : (x == ("__debug__" : Str)) = false := by decide)
    (hpl : ((backTo pos (starEach [] X.env)).any (·.1) || (backToKw pos (keywordEach kws X.env)).any (·.1.isNone)) = false := by rfl) :
    PE X (.Call (.Name x p) [] kws pos) (tCallK sp gV E0 tNil tk) := by
  refine ⟨fun pins s σ H Q I h => ?_⟩
  refine wpAny_Call_Name_kw (ld_glob I hg hm ?_ hdb)
  refine PySem.W.callWith_KW0 (h₀ := X.base) I.ok.mod.kin hk hall ?_ hpl
  refine thn (hkw.run pos pins s σ H _ I h) fun ws s2 ⟨zs, H2, I2, rz, q2⟩ => ⟨I2.kIn, ?_⟩
  rw [hks]
  exact run_fnk (us := []) F hr hb pass0 I2 .nil rz q2
theorem si_callK0 (F : FnOk X.prog X.w X.K X.mg X.base CX0 k f fd ps (spI (gx ct X) ps.length G)) (hr : Room k X.A) (hg : Gl X x) (hm : X.mg x = some (.ref f)) (hk : PySem.W.keepIn X.K (.ref f) = true)
    (hb : KBinds X.K fd ps ks (fun us ws => us ++ ws) (fun vs zs => vs ++ zs)) (hkw : SK ct X E kws L2)
    (hall : (backToKw pos (keywordEach kws X.env)).all (·.1.isSome) = true := by rfl) (hks : (backToKw pos (keywordEach kws X.env)).filterMap (·.1) = ks := by rfl)
    (hdb : (x == ("__debug__" : Str)) = false := by decide)
    (hpl : ((backTo pos (starEach [] X.env)).any (·.1) || (backToKw pos (keywordEach kws X.env)).any (·.1.isNone)) = false := by rfl) : SI ct X E (.Call (.Name x p) [] kws pos) (iCall ps.length G [] L2) :=
  ⟨(pe_callK0 F hr hg hm hk hb hkw.pk hall hks hdb hpl).imp fun σ H Q ⟨m, env, st, re, rs, fin⟩ => ⟨m, env, st, re, rs, fin.bind.imp fun m2 H2 es st2 g2 rs2 q2 zs rz => by
      split at q2
      · rename_i hz
        rw [List.append_nil] at q2
        exact ⟨m2, es, st2, hz, rz, rs2, q2.strictE⟩
      · exact q2.elim⟩⟩
end

end QI

namespace QI
open PySem PySem.Spec PyProof.Rows L2
/-! ### a def's body -/
/-- cells from n on are given out as lists that nobody writes (to a depth) -/
def fz (n : Nat) (st : Sto) : Nat → D → D
  | 0, d => d
  | k + 1, .ref i => if n ≤ i then match st[i]? with
      | some (.lst ds) => .rol (ds.map (fz n st k))
      | _ => .ref i
    else .ref i
  | k + 1, .tup ds => .tup (ds.map (fz n st k))
  | _ + 1, d => d
theorem fz_ok {g : G0} {m : Mp} {H : Hp} {st : Sto} {n : Nat} (rs : RS g m H st) : ∀ (k : Nat) {d : D} {v : V}, RV g.K m H d v → (fz n st k d).lo n = true → RV g.K (m.take n) H (fz n st k d) v
  | 0, d, v, r, h => r.trunc h
  | k + 1, d, v, r, h => by
    have all : ∀ {ds : List D} {vs : List V}, RVs g.K m H ds vs → D.loAll n (ds.map (fz n st k)) = true → RVs g.K (m.take n) H (ds.map (fz n st k)) vs := by
      intro ds
      induction ds with
      | nil => intro vs r _; cases r; exact .nil
      | cons d ds ih =>
        intro vs r h
        cases r with
        | cons r1 r2 =>
          simp only [List.map_cons, D.loAll, Bool.and_eq_true] at h
          exact .cons (fz_ok rs k r1 h.1) (ih r2 h.2)
    cases d with
    | ref i =>
      unfold fz at h ⊢
      split at h
      · rename_i hn
        rw [if_pos hn]
        split at h
        · rename_i ds hd
          cases r with
          | ref h1 =>
            obtain ⟨vs, r', hH⟩ := rs.rc _ _ _ h1 hd
            refine .rol ⟨fun z => ?_, fun z => (rs.hs _ z).1 (List.mem_of_getElem? h1), hH⟩ (all r' (by simpa [D.lo] using h))
            obtain ⟨j, hj⟩ := List.getElem?_of_mem (show _ ∈ m.cs.take n from z)
            have hjn : j < n := by
              have := lt_of_get hj
              rw [List.length_take] at this
              omega
            rw [List.getElem?_take_of_lt hjn] at hj
            have := nd_ix rs.nd hj h1
            omega
        · exact r.trunc h
      · rename_i hn
        rw [if_neg hn]
        exact r.trunc h
    | tup ds =>
      unfold fz at h ⊢
      cases r with
      | tup h1 h2 => exact .tup h1 (all h2 (by simpa [D.lo] using h))
    | non => exact r.trunc h
    | bl _ => exact r.trunc h
    | int _ => exact r.trunc h
    | str _ => exact r.trunc h
    | rol _ => exact r.trunc h
    | scr _ => exact r.trunc h
/-- what a body gives is what is said of the call -/
def Ref (st0 : Sto) (r : Rs Fl) : Rs D → Prop
  | .ok d st' => ∃ d' j k, (r = .ok (.rt d') (st' ++ j) ∨ (∃ e, r = .ok (.nx e) (st' ++ j) ∧ d' = .non)) ∧ fz st'.length (st' ++ j) k d' = d ∧ d.lo st'.length = true ∧ Closed st' ∧ st0.length ≤ st'.length
  | .exn e st' => ∃ j, r = .exn e (st' ++ j) ∧ e.d.lo st'.length = true ∧ Closed st' ∧ st0.length ≤ st'.length
  | .bad => True
theorem Ref.ret {st0 st' j : Sto} {r : Rs Fl} {d : D} (h : r = .ok (.rt d) (st' ++ j)) (h1 : d.lo st'.length = true) (h2 : Closed st') (h3 : st0.length ≤ st'.length) : Ref st0 r (.ok d st') := ⟨d, j, 0, .inl h, rfl, h1, h2, h3⟩
/-- the store stays -/
theorem Ref.same {st j : Sto} {r : Rs Fl} {d : D} (h : r = .ok (.rt d) (st ++ j)) (h1 : d.lo st.length = true) (h2 : Closed st) : Ref st r (.ok d st) := ⟨d, j, 0, .inl h, rfl, h1, h2, Nat.le_refl _⟩
theorem Ref.pure {st : Sto} {r : Rs Fl} {d : D} (h : r = .ok (.rt d) st) (h1 : d.lo st.length = true) (h2 : Closed st) : Ref st r (.ok d st) := ⟨d, [], 0, .inl (by rw [List.append_nil]; exact h), rfl, h1, h2, Nat.le_refl _⟩
theorem Ref.bad {st : Sto} {r : Rs Fl} : Ref st r .bad := trivial
def startE (N : List Str) (ds : List D) : Ev := ds.map some ++ List.replicate (N.length - ds.length) none
theorem RE.start {K : PySem.W.Frag} {m : Mp} {H : Hp} {N : List Str} {ds : List D} {vs : List V} (r : RVs K m H ds vs) : RE K m H (startE N ds) (L2.start N vs) := by
  refine ⟨by unfold startE L2.start; simp [r.length], fun i d e => ?_⟩
  unfold startE at e
  unfold L2.start
  by_cases hi : i < ds.length
  · rw [List.getElem?_append_left (by simpa using hi), List.getElem?_map] at e
    cases q : ds[i]? with
    | none => rw [q] at e; cases e
    | some d' =>
      rw [q] at e
      cases e
      obtain ⟨v, hv, rv⟩ := r.get q
      refine ⟨v, ?_, rv⟩
      rw [List.getElem?_append_left (by rw [List.length_map, ← r.length]; exact hi), List.getElem?_map, hv]; rfl
  · rw [List.getElem?_append_right (by simpa using hi), List.getElem?_replicate] at e
    split at e <;> cases e
section
variable {ct : String → Addr} {P : Program} {w : World} {K : PySem.W.Frag} {mg : Str → Option Value} {base : Heap} {x qual : Str} {st : Stmt} {f : Addr} {fd : FuncData} {N ps : List Str} {k : Nat} {G : List D → Sto → Rs D} {B : IS}
/-- the context of a def's body -/
abbrev bodyX (P : Program) (w : World) (K : PySem.W.Frag) (mg : Str → Option Value) (base : Heap) (N : List Str) (qual : Str) (st : Stmt) (f : Addr) (cdv : Value) (A : Around) (outer : List Env) (s : Shared) (H : Hp) (E : XK) : Cx :=
  (cxOf CX0 P w K mg base N qual (defScope st) f cdv A outer s H E).nox
theorem fin_ref {g : G0} {m : Mp} {H : Hp} {st0 : Sto} {r : Rs Fl} {gd : Rs D} {Q : VK} (hm : m.cs.length = st0.length) (hx : ∀ e s', gd ≠ .exn e s') (hr : Ref st0 r gd) (fin : Fin g noE m H gd (EndE g Q)) : Fin g noE m H r (EndS g { nx := fun _ H' => Q .non H', rt := Q }) := by
  cases gd with
  | bad => exact fin.elim
  | exn e st' => exact absurd rfl (hx e st')
  | ok d st' =>
    obtain ⟨d', j, k, h1, h2, h3, h4, h5⟩ := hr
    have key : ∀ m' H' v, Grow m H m' H' → RS g m' H' (st' ++ j) → RV g.K m' H' d' v → Q v H' := fun m' H' v gr rs rv => by
      have q : RV g.K (m'.take st'.length) H' d v := by rw [← h2]; exact fz_ok rs k rv (by rw [h2]; exact h3)
      exact fin (m'.take st'.length) H' (gr.trunc (by rw [hm]; exact h5)) (rs.trunc h4) v q
    rcases h1 with h1 | ⟨e, h1, rfl⟩
    · rw [h1]
      exact fun m' H' gr rs v rv => key m' H' v gr rs rv
    · rw [h1]
      exact fun m' H' gr rs σ' _ => key m' H' .non gr rs .non
theorem def_ok (F : Fun K x qual st f fd) (S : FnScope N ps (defScope st))
    (hB : ∀ (cdv : Value) (A : Around) (outer : List Env) (s : Shared) (H : Hp) (E : XK), Room k (A.deeper (envOfC qual (defScope st) s.heap.objs.size f cdv)) → SSs ct (bodyX P w K mg base N qual st f cdv A outer s H E) noE (defBody st) B)
    (hG : ∀ (ds : List D) (s : Sto), ds.length = ps.length → Closed s → D.loAll s.length ds = true → (∀ e s', G ds s ≠ .exn e s') ∧ Ref s (B (startE N ds) s) (G ds s)) : FnOk P w K mg base CX0 (k + 1) f fd ps (spI ⟨K, ct, P, w⟩ ps.length G) := by
  refine F.ok S (fun vs H Q E h => ?_) (fun cdv A outer s H vs Q E hr h => ?_)
  · obtain ⟨m, ds, st', h1, h2, _⟩ := h
    rw [← h2.length]; exact h1
  · obtain ⟨m, ds, st', h1, h2, h3, fin⟩ := h
    refine ⟨_, (hB cdv A outer s H E hr).pss, m, startE N ds, st', RE.start h2, h3, ?_⟩
    obtain ⟨hx, href⟩ := hG ds st' h1 h3.closed (by rw [← h3.len]; exact h2.lo)
    cases hg : G ds st' with
    | exn e s' => exact absurd hg (hx e s')
    | ok d s' => rw [hg] at fin href; exact fin_ref h3.len (fun _ _ z => by cases z) href fin
    | bad => rw [hg] at fin; exact fin.elim
end
end QI
namespace QI
open PySem PySem.Spec PyProof.Rows L2
/-! ### what is known of a def -/
/-- the positional values and the keywords' stand in the parameters' order -/
def gK {α : Type} (n l : Nat) (us ws : List α) : List α := if us.length = n ∧ ws.length = l then us ++ ws else []
structure Kn (ct : String → Addr) (P : Program) (w : World) (K : PySem.W.Frag) (mg : Str → Option Value) (base : Heap) (x : Str) (st : Stmt) (ps : List Str) (k : Nat) (G : List D → Sto → Rs D) (f : Addr) (fd : FuncData) : Prop where
  m : mg x = some (.ref f)
  fu : Fun K x x st f fd
  ok : FnOk P w K mg base CX0 k f fd ps (spI ⟨K, ct, P, w⟩ ps.length G)
section
variable {ct : String → Addr} {P : Program} {w : World} {K : PySem.W.Frag} {mg : Str → Option Value} {base : Heap} {x : Str} {st : Stmt} {ps : List Str} {k : Nat} {G : List D → Sto → Rs D} {f : Addr} {fd : FuncData}
theorem kb_of {qual : Str} (F : Fun K x qual st f fd) (ks : List Str) (n l : Nat) (h0 : 0 < ps.length)
    (h : ∀ (kV doc pm : Value) (an : Option Addr) (cdv ct : Value) (us ws : List Value), us.length = n → ws.length = l → bindArgs (PySem.W.fnOf x qual (defArgs st) (defBody st) (defScope st) .none kV doc pm an cdv ct) ⟨us, ks.zip ws⟩ = pure (ps.zip (us ++ ws))) : KBinds K fd ps ks (gK n l) (gK n l) := by
  obtain ⟨oc, od, kV, doc, pm, an, cdv, ct, osl, rfl, lk, hcd⟩ := F.ex
  refine ⟨fun s us ws _ hl => ?_, fun {vs us zs ws} r rz => ?_⟩
  · unfold gK at hl ⊢
    split at hl
    · rename_i hz
      rw [if_pos hz]
      exact .of_eq (h kV doc pm an cdv ct us ws hz.1 hz.2)
    · rw [List.length_nil] at hl; omega
  · unfold gK
    rw [r.length, rz.length]
    split
    · exact r.append rz
    · exact .nil
end
section
variable {ct : String → Addr} {X : Cx} {E : EK} {pos p : Pos} {a b c e o : Expr} {es : List Expr} {L L2 : IL} {k : Nat} {f : Addr} {fd : FuncData} {ps : List Str} {G : List D → Sto → Rs D} {x : Str} {kws : List Keyword} {ks : List Str} {st : Stmt}
/-- f(e, ..), every parameter written -/
theorem si_kn (F : Kn ct X.prog X.w X.K X.mg X.base x st ps k G f fd) (n : Nat) (hr : Room k X.A) (hb : ∀ (kV doc pm : Value) (an : Option Addr) (cdv ct : Value) (us : List Value), us.length = ps.length → bindArgs (PySem.W.fnOf x x (defArgs st) (defBody st) (defScope st) .none kV doc pm an cdv ct) ⟨us, []⟩ = pure (ps.zip us))
    (ha : SA ct X E (e :: es) L) (hn : ps.length = n := by rfl) (hg : Gl X x := by rfl) (hdb : (x == ("__debug__" : Str)) = false := by decide) (he : starEach (e :: es) X.env = (false, eval e X.env) :: starEach es X.env := by rfl) (hpl : (backTo pos (starEach es X.env)).any (·.1) = false := by rfl) :
    SI ct X E (.Call (.Name x p) (e :: es) [] pos) (iCall n G [] L) :=
  ⟨(pe_call F.ok hr hg F.m F.fu.kp (F.fu.binds hb) .nil pass0 ha.pa hdb he hpl).imp fun σ H Q ⟨m, env, st, re, rs, fin⟩ => ⟨m, env, st, re, rs, fin.bind.imp fun m1 H1 ds st1 g1 rs1 q vs rv => by
    split at q
    · rename_i hz
      rw [List.append_nil] at q
      exact ⟨m1, ds, st1, by rw [hz, hn], by rw [List.append_nil]; exact rv, rs1, q.strictE⟩
    · exact q.elim⟩⟩
def iCallKn (n l : Nat) (G : List D → Sto → Rs D) (L L2 : IL) : IE := fun env st => (L env st).bind fun ds st1 => (L2 env st1).bind fun es st2 => if ds.length = n ∧ es.length = l then (G (ds ++ es) st2).strict else .bad
theorem gK_rel {K : PySem.W.Frag} {m : Mp} {H : Hp} {ds es : List D} {vs zs : List V} {n l : Nat} (h : ds.length = n ∧ es.length = l) (r : RVs K m H ds vs) (r' : RVs K m H es zs) : RVs K m H (ds ++ es) (gK n l vs zs) := by
  unfold gK
  rw [if_pos (by rw [← r.length, ← r'.length]; exact h)]
  exact r.append r'
/-- f(e, .., k = v, ..): n written, l by keyword, in the parameters' order -/
theorem si_knK (F : Kn ct X.prog X.w X.K X.mg X.base x st ps k G f fd) (hr : Room k X.A) (n l : Nat) (hnl : n + l = ps.length) (h0 : 0 < ps.length)
    (hb : ∀ (kV doc pm : Value) (an : Option Addr) (cdv ct : Value) (us ws : List Value), us.length = n → ws.length = l → bindArgs (PySem.W.fnOf x x (defArgs st) (defBody st) (defScope st) .none kV doc pm an cdv ct) ⟨us, ks.zip ws⟩ = pure (ps.zip (us ++ ws)))
    (ha : SA ct X E (e :: es) L) (hkw : SK ct X E kws L2) (hg : Gl X x := by rfl)
    (hall : (backToKw pos (keywordEach kws X.env)).all (·.1.isSome) = true := by rfl) (hks : (backToKw pos (keywordEach kws X.env)).filterMap (·.1) = ks := by rfl)
    (hdb : (x == ("__debug__" : Str)) = false := by decide) (he : starEach (e :: es) X.env = (false, eval e X.env) :: starEach es X.env := by rfl)
    (hpl : ((backTo pos (starEach (e :: es) X.env)).any (·.1) || (backToKw pos (keywordEach kws X.env)).any (·.1.isNone)) = false := by rfl) : SI ct X E (.Call (.Name x p) (e :: es) kws pos) (iCallKn n l G L L2) :=
  ⟨(pe_callK F.ok hr hg F.m F.fu.kp (kb_of F.fu ks n l h0 hb) pass0 ha.pa hkw.pk hall hks hdb he hpl).imp fun σ H Q ⟨m, env, st, re, rs, fin⟩ => ⟨m, env, st, re, rs, fin.bind.imp fun m1 H1 ds st1 g1 rs1 q vs rv =>
    ⟨m1, env, st1, re.mono g1, rs1, q.bind.imp fun m2 H2 es st2 g2 rs2 q2 zs rz => by
      split at q2
      · rename_i hz
        exact ⟨m2, ds ++ es, st2, by rw [List.length_append, hz.1, hz.2, hnl], gK_rel hz (rv.mono g2) rz, rs2, q2.strictE⟩
      · exact q2.elim⟩⟩⟩
/-- f(k = v, ..) -/
theorem si_knK0 (F : Kn ct X.prog X.w X.K X.mg X.base x st ps k G f fd) (hr : Room k X.A) (l : Nat) (hnl : l = ps.length) (h0 : 0 < ps.length)
    (hb : ∀ (kV doc pm : Value) (an : Option Addr) (cdv ct : Value) (us ws : List Value), us.length = 0 → ws.length = l → bindArgs (PySem.W.fnOf x x (defArgs st) (defBody st) (defScope st) .none kV doc pm an cdv ct) ⟨us, ks.zip ws⟩ = pure (ps.zip (us ++ ws)))
    (hkw : SK ct X E kws L2) (hg : Gl X x := by rfl)
    (hall : (backToKw pos (keywordEach kws X.env)).all (·.1.isSome) = true := by rfl) (hks : (backToKw pos (keywordEach kws X.env)).filterMap (·.1) = ks := by rfl)
    (hdb : (x == ("__debug__" : Str)) = false := by decide)
    (hpl : ((backTo pos (starEach [] X.env)).any (·.1) || (backToKw pos (keywordEach kws X.env)).any (·.1.isNone)) = false := by rfl) : SI ct X E (.Call (.Name x p) [] kws pos) (iCallKn 0 l G iNil L2) :=
  ⟨(pe_callK0 F.ok hr hg F.m F.fu.kp (kb_of F.fu ks 0 l h0 hb) hkw.pk hall hks hdb hpl).imp fun σ H Q ⟨m, env, st, re, rs, fin⟩ => by
    refine ⟨m, env, st, re, rs, Fin.imp (Fin.bind (show Fin (gx ct X) E m H ((L2 env st).bind _) (EndE (gx ct X) Q) from fin)) fun m2 H2 es st2 g2 rs2 q2 zs rz => ?_⟩
    split at q2
    · rename_i hz
      exact ⟨m2, es, st2, by rw [hz.2, hnl], gK_rel hz .nil rz, rs2, q2.strictE⟩
    · exact q2.elim⟩
/-! list(range(n)) -/
def iListRange (A : IE) : IL := fun env st => (A env st).bind fun d st1 => match d with
  | .int n => if n ≤ 16777216 ∧ 0 ≤ n then .ok ((List.range n.toNat).map fun i => .int (i : Nat)) st1 else .bad
  | _ => .bad
theorem sf_listRange {A : IE} {p2 : Pos} {pos2 : Pos} (hc : X.calm = true) (hg : Gl X "list") (hm : X.mg "list" = none) (hg2 : Gl X "range") (hm2 : X.mg "range" = none) (ha : SI ct X E a A) (na : starEach [a] X.env = (false, eval a X.env) :: starEach [] X.env := by rfl)
    (nb : starEach [.Call (.Name "range" p2) [a] [] pos2] X.env = (false, eval (.Call (.Name "range" p2) [a] [] pos2) X.env) :: starEach [] X.env := by rfl) : SF ct X E (.Call (.Name "list" p) [.Call (.Name "range" p2) [a] [] pos2] [] pos) (iListRange A) :=
  ⟨(pe_listRg hc hg hm (prg_1 hg2 hm2 ha.pe na) nb).imp fun σ H Q ⟨m, env, st, re, rs, fin⟩ => ⟨m, env, st, re, rs, fin.bind.imp fun m1 H1 d st1 g1 rs1 q x rx => by
    split at q
    · rename_i n
      split at q
      · rename_i hz
        cases rx
        have rv : RVs X.K m1 H1 ((List.range n.toNat).map fun i => D.int (i : Nat)) (rgV 0 n) := by
          unfold rgV
          rw [show n - 0 = n by omega]
          have : ∀ l : List Nat, RVs X.K m1 H1 (l.map fun i => D.int (i : Nat)) (l.map fun i => V.int (0 + (i : Nat))) := by
            intro l
            induction l with
            | nil => exact .nil
            | cons i l ih => exact .cons (by show RV X.K m1 H1 (D.int (i : Nat)) (V.int (0 + (i : Nat))); rw [Int.zero_add]; exact .int _) ih
          exact this _
        exact ⟨n, rfl, ⟨by omega, by omega, by omega, by omega, by omega⟩, q.here rs1 _ rv⟩
      · exact q.elim
    · exact q.elim⟩⟩
end
end QI

/-! dicts -/
namespace QI
open PySem PySem.Spec PyProof.Rows L2
section
variable {κ : Type} [DecidableEq κ]
def valD (kvs : List (κ × D)) (k : κ) : Option D := (kvs.find? fun kv => decide (kv.1 = k)).map (·.2)
def putD (kvs : List (κ × D)) (k : κ) (v : D) : List (κ × D) :=
  if (kvs.any fun kv => decide (kv.1 = k)) = true then kvs.map (fun kv => if kv.1 = k then (kv.1, v) else kv) else kvs ++ [(k, v)]
variable {K : PySem.W.Frag} {m : Mp} {H : Hp}
/-- what stands there, on both sides -/
inductive RO (K : PySem.W.Frag) (m : Mp) (H : Hp) : Option D → Option V → Prop
  | none : RO K m H none none
  | some {d : D} {v : V} : RV K m H d v → RO K m H (some d) (some v)
theorem RFs.val {ds : List (κ × D)} {vs : List (κ × V)} (h : RFs K m H ds vs) (k : κ) : RO K m H (valD ds k) (valV vs k) := by
  induction h with
  | nil => exact .none
  | @cons f d v ds vs r _ ih =>
    by_cases e : f = k
    · subst e
      simp only [valD, valV, List.find?_cons, decide_true, Option.map_some]
      exact .some r
    · simp only [valD, valV, List.find?_cons, decide_eq_false e]
      exact ih
theorem RFs.any {ds : List (κ × D)} {vs : List (κ × V)} (h : RFs K m H ds vs) (k : κ) : (ds.any fun kv => decide (kv.1 = k)) = vs.any fun kv => decide (kv.1 = k) := by
  induction h with
  | nil => rfl
  | cons r _ ih => simp only [List.any_cons, ih]
theorem RFs.repl {ds : List (κ × D)} {vs : List (κ × V)} (h : RFs K m H ds vs) (k : κ) {d : D} {v : V} (r : RV K m H d v) : RFs K m H (ds.map fun kv => if kv.1 = k then (kv.1, d) else kv) (vs.map fun kv => if kv.1 = k then (kv.1, v) else kv) := by
  induction h with
  | nil => exact .nil
  | @cons f d' v' ds vs r' _ ih =>
    simp only [List.map_cons]
    by_cases e : f = k
    · simp only [e, if_true]; exact .cons r ih
    · simp only [e, if_false]; exact .cons r' ih
theorem RFs.snoc {ds : List (κ × D)} {vs : List (κ × V)} (h : RFs K m H ds vs) (k : κ) {d : D} {v : V} (r : RV K m H d v) : RFs K m H (ds ++ [(k, d)]) (vs ++ [(k, v)]) := by
  induction h with
  | nil => exact .cons r .nil
  | cons r' _ ih => exact .cons r' ih
theorem RFs.put {ds : List (κ × D)} {vs : List (κ × V)} (h : RFs K m H ds vs) (k : κ) {d : D} {v : V} (r : RV K m H d v) : RFs K m H (putD ds k d) (putK vs k v) := by
  unfold putD putK
  rw [h.any k]
  split
  · exact h.repl k r
  · exact h.snoc k r
theorem RFs.len {ds : List (κ × D)} {vs : List (κ × V)} (h : RFs K m H ds vs) : ds.length = vs.length := by
  induction h with
  | nil => rfl
  | cons _ _ ih => simp [ih]
end
/-- a key -/
def D.key : D → Option Key
  | .int i => some (.inl i)
  | .str x => some (.inr x)
  | _ => none
def D.keys : List D → Option (List Key)
  | [] => some []
  | d :: ds => match d.key, D.keys ds with
    | some k, some ks => some (k :: ks)
    | _, _ => none
section
variable {K : PySem.W.Frag} {m : Mp} {H : Hp}
theorem RV.key {d : D} {v : V} {k : Key} (r : RV K m H d v) (h : d.key = some k) : v = kV k := by
  cases d with
  | int i => cases h; cases r; rfl
  | str i => cases h; cases r; rfl
  | _ => cases h
theorem RVs.keys : ∀ {ds : List D} {vs : List V} {ks : List Key}, RVs K m H ds vs → D.keys ds = some ks → vs = ks.map kV
  | [], _, _, r, h => by cases r; cases h; rfl
  | d :: ds, _, ks, r, h => by
    cases r with
    | cons r1 r2 =>
      simp only [D.keys] at h
      split at h
      · rename_i k ks' hk hks
        cases h
        rw [r1.key hk, r2.keys hks, List.map_cons]
      · cases h
end
/-- what the dict d holds at y -/
def gDat (st : Sto) : D → D → Option (Option D)
  | .ref n, y => match st[n]? with
    | some (.dk kvs) => y.key.map (valD kvs)
    | some (.dt kvs) => match y with
      | .tup ys => (D.keys ys).map (valD kvs)
      | _ => none
    | _ => none
  | _, _ => none
theorem gDat_ok {g : G0} {m : Mp} {H : Hp} {st : Sto} {d y : D} {x v : V} {o : Option D} (rs : RS g m H st) (rx : RV g.K m H d x) (ry : RV g.K m H y v) (h : gDat st d y = some o) : ∃ a ov, x = .ref a ∧ DGet H a v ov ∧ RO g.K m H o ov := by
  cases d with
  | ref n =>
    cases rx with
    | @ref _ a h1 =>
      simp only [gDat] at h
      split at h
      · rename_i kvs hk
        obtain ⟨vs, r, hH⟩ := rs.rc _ _ _ h1 hk
        cases hy : y.key with
        | none => rw [hy] at h; cases h
        | some k =>
          rw [hy] at h
          cases h
          rw [ry.key hy]
          exact ⟨a, _, rfl, .k hH, r.val k⟩
      · rename_i kvs hk
        obtain ⟨vs, r, hH⟩ := rs.rc _ _ _ h1 hk
        split at h
        · rename_i ys
          cases hy : D.keys ys with
          | none => rw [hy] at h; cases h
          | some ks =>
            rw [hy] at h
            cases h
            cases ry with
            | tup h2 h3 =>
              have := h3.keys hy
              subst this
              exact ⟨a, _, rfl, .t hH h2, r.val ks⟩
        · cases h
      · cases h
  | _ => simp [gDat] at h
/-- a rule of two kinds: which, is seen in the values -/
def gOr (c : Sto → D → D → Bool) (f g : D → D → Sto → Rs D) : D → D → Sto → Rs D := fun d e st => if c st d e = true then f d e st else g d e st
section
variable {ct : String → Addr} {X : Cx} {E : EK} {pos : Pos} {a b c e o : Expr} {A B C : IE}
theorem or_tI {c : Sto → D → D → Bool} {f g : D → D → Sto → Rs D} {σ : L2.St} {H : Hp} {Q : VK} (h : tI (gx ct X) E (iBin (gOr c f g) A B) σ H Q) : tI (gx ct X) E (iBin f A B) σ H Q ∨ tI (gx ct X) E (iBin g A B) σ H Q := by
  obtain ⟨m, env, st, re, rs, fin⟩ := h
  cases hA : A env st with
  | bad => refine .inl ⟨m, env, st, re, rs, ?_⟩; unfold iBin at fin ⊢; rw [hA] at fin ⊢; exact fin
  | exn e' s' => refine .inl ⟨m, env, st, re, rs, ?_⟩; unfold iBin at fin ⊢; rw [hA] at fin ⊢; exact fin
  | ok d st1 =>
    cases hB : B env st1 with
    | bad => refine .inl ⟨m, env, st, re, rs, ?_⟩; unfold iBin at fin ⊢; rw [hA] at fin ⊢; simp only [Rs.bind_ok, hB] at fin ⊢; exact fin
    | exn e' s' => refine .inl ⟨m, env, st, re, rs, ?_⟩; unfold iBin at fin ⊢; rw [hA] at fin ⊢; simp only [Rs.bind_ok, hB] at fin ⊢; exact fin
    | ok e st2 =>
      unfold iBin at fin
      simp only [hA, Rs.bind_ok, hB, gOr] at fin
      split at fin
      · exact .inl ⟨m, env, st, re, rs, by unfold iBin; simp only [hA, Rs.bind_ok, hB]; exact fin⟩
      · exact .inr ⟨m, env, st, re, rs, by unfold iBin; simp only [hA, Rs.bind_ok, hB]; exact fin⟩
def isD (st : Sto) : D → Bool
  | .ref n => match st[n]? with
    | some (.dk _) => true
    | some (.dt _) => true
    | _ => false
  | _ => false
def gDix : D → D → Sto → Rs D := fun d y st => match gDat st d y with
  | some (some v) => .ok v st
  | _ => .bad
theorem ops_dix {g : G0} : OpS g E gDix (fun x y H Q => ∃ a v, x = .ref a ∧ DGet H a y (some v) ∧ Q v H) := by
  intro m H st d e x y Q rs rx ry fin
  unfold gDix at fin
  split at fin
  · rename_i v hv
    obtain ⟨a, ov, rfl, hd, ro⟩ := gDat_ok rs rx ry hv
    cases ro with
    | some r => exact ⟨a, _, rfl, hd, fin.here rs _ r⟩
  · exact fin.elim
def gDin (neg : Bool) : D → D → Sto → Rs D := fun y d st => match gDat st d y with
  | some o => .ok (.bl (o.isSome != neg)) st
  | none => .bad
theorem ops_din {g : G0} {neg : Bool} : OpS g E (gDin neg) (fun y x H Q => ∃ a o, x = .ref a ∧ DGet H a y o ∧ Q (.bl (o.isSome != neg)) H) := by
  intro m H st d e x y Q rs rx ry fin
  unfold gDin at fin
  split at fin
  · rename_i o ho
    obtain ⟨a, ov, rfl, hd, ro⟩ := gDat_ok rs ry rx ho
    have : o.isSome = ov.isSome := by cases ro <;> rfl
    rw [this] at fin
    exact ⟨a, _, rfl, hd, fin.here rs _ (.bl _)⟩
  · exact fin.elim
/-- a[b], of rows and of dicts -/
def gIxD : D → D → Sto → Rs D := gOr (fun st d _ => isD st d) gDix gIx
theorem si_ixD (hu : X.A.units + 1 < cLine) (ha : SI ct X E a A) (hb : SI ct X E b B) (hs : PlainIx b := by exact fun _ _ => rfl) (hs2 : NoSl b := by exact fun _ _ => rfl) : SI ct X E (.Subscript a b pos) (iBin gIxD A B) :=
  ⟨(pe_dget hu ha.pe hb.pe hs2).both (pe_ix ix_seq ha.pe hb.pe hs) fun σ H Q h => (or_tI h).imp (fun h => bin_tI ops_dix h) (fun h => bin_tI ops_ix h)⟩
theorem op_in_dict (hu : X.A.units + 1 < cLine) : OpR X (compareOp .In) (fun y x H Q => ∃ a o, x = .ref a ∧ DGet H a y o ∧ Q (.bl (o.isSome != false)) H) := by
  intro pins s σ H y x v u Q I ry rx h
  obtain ⟨a, o, rfl, hd, q⟩ := h
  cases (show u = Value.ref a from rx)
  refine d_in hu I hd ry fun s' I' => ⟨.bl o.isSome, H, I', rfl, ?_⟩
  simpa using q
theorem op_notIn_dict (hu : X.A.units + 1 < cLine) : OpR X (compareOp .NotIn) (fun y x H Q => ∃ a o, x = .ref a ∧ DGet H a y o ∧ Q (.bl (o.isSome != true)) H) := by
  intro pins s σ H y x v u Q I ry rx h
  obtain ⟨a, o, rfl, hd, q⟩ := h
  cases (show u = Value.ref a from rx)
  refine d_notIn hu I hd ry fun s' I' => ⟨.bl (!o.isSome), H, I', rfl, ?_⟩
  cases o <;> simpa using q
theorem ops_or {g : G0} {c : Sto → D → D → Bool} {f f' : D → D → Sto → Rs D} {r r' : R2} (h : OpS g E f r) (h' : OpS g E f' r') : OpS g E (gOr c f f') (fun x y H Q => r x y H Q ∨ r' x y H Q) := by
  intro m H st d e x y Q rs rx ry fin
  unfold gOr at fin
  split at fin
  · exact .inl (h m H st d e x y Q rs rx ry fin)
  · exact .inr (h' m H st d e x y Q rs rx ry fin)
def gInD : D → D → Sto → Rs D := gOr (fun st _ d => isD st d) (gDin false) gInE
def gNotInD : D → D → Sto → Rs D := gOr (fun st _ d => isD st d) (gDin true) gNotInE
/-- in, of rows and of dicts -/
theorem c_inD (hu : X.A.units + 1 < cLine) : CmpR ct X E .In gInD := by
  obtain ⟨r, h1, h2⟩ := c_in (ct := ct) (X := X) (E := E)
  exact ⟨_, (op_in_dict hu).or h1, ops_or ops_din h2⟩
theorem c_notinD (hu : X.A.units + 1 < cLine) : CmpR ct X E .NotIn gNotInD := by
  obtain ⟨r, h1, h2⟩ := c_notin (ct := ct) (X := X) (E := E)
  exact ⟨_, (op_notIn_dict hu).or h1, ops_or ops_din h2⟩
/-- d[y] = v -/
def gDput (st : Sto) (o y v : D) : Option Sto := match o with
  | .ref n => match st[n]? with
    | some (.dk kvs) => match y.key with
      | some k => if kvs.length < 16777216 then some (st.set n (.dk (putD kvs k v))) else none
      | none => none
    | some (.dt kvs) => match y with
      | .tup ys => match D.keys ys with
        | some k => if kvs.length < 16777216 then some (st.set n (.dt (putD kvs k v))) else none
        | none => none
      | _ => none
    | _ => none
  | _ => none
theorem gDput_ok {g : G0} {m : Mp} {H : Hp} {st st' : Sto} {o y v : D} {xo xy xv : V} (rs : RS g m H st) (ro : RV g.K m H o xo) (ry : RV g.K m H y xy) (rv : RV g.K m H v xv) (h : gDput st o y v = some st') :
    ∃ a H', xo = .ref a ∧ DPut H a xy xv H' ∧ RS g m H' st' ∧ Grow m H m H' := by
  unfold gDput at h
  split at h
  · rename_i n
    cases ro with
    | @ref _ a h1 =>
      split at h
      · rename_i kvs hk
        obtain ⟨vs, r, hH⟩ := rs.rc _ _ _ h1 hk
        split at h
        · rename_i k hy
          split at h
          · rename_i hz
            cases h
            rw [ry.key hy]
            obtain ⟨rs', gr⟩ := rs.write (c := .dk (putD kvs k v)) (o := .dK (putK vs k xv)) h1 hk fun gr => ⟨_, (r.moves gr.moves).put k (rv.mono gr), upd_same⟩
            exact ⟨a, _, rfl, .k hH (by rw [← r.len, sl_eq]; exact hz), rs', gr⟩
          · cases h
        · cases h
      · rename_i kvs hk
        obtain ⟨vs, r, hH⟩ := rs.rc _ _ _ h1 hk
        split at h
        · rename_i ys
          split at h
          · rename_i k hy
            split at h
            · rename_i hz
              cases h
              cases ry with
              | tup h2 h3 =>
                have e := h3.keys hy
                subst e
                obtain ⟨rs', gr⟩ := rs.write (c := .dt (putD kvs k v)) (o := .dT (putK vs k xv)) h1 hk fun gr => ⟨_, (r.moves gr.moves).put k (rv.mono gr), upd_same⟩
                exact ⟨a, _, rfl, .t hH h2 (by rw [← r.len, sl_eq]; exact hz), rs', gr⟩
            · cases h
          · cases h
        · cases h
      · cases h
  · cases h
/-- o[i] = v, of lists and of dicts -/
def gSetIxD (o i v : D) (st : Sto) : Rs Unit := if isD st o = true then (match gDput st o i v with
  | some st' => .ok () st'
  | none => .bad) else gSetIx o i v st
theorem _root_.L2.PSet.or {X : Cx} {t t' : TSet} (h : PSet X t) (h' : PSet X t') : PSet X (fun o i v H Q => t o i v H Q ∨ t' o i v H Q) := fun pins s σ H o i v ov iv u Q I ro ri rv q => q.elim (h pins s σ H o i v ov iv u Q I ro ri rv) (h' pins s σ H o i v ov iv u Q I ro ri rv)
def rSet2 : TSet := fun o i v H Q => rSetD o i v H Q ∨ rSetL o i v H Q
theorem set_ok {g : G0} {m : Mp} {H : Hp} {st : Sto} {o i v : D} {xo xi xv : V} {Q : Hp → Prop} {R : Mp → Hp → Unit → Sto → Prop} (rs : RS g m H st) (ro : RV g.K m H o xo) (ri : RV g.K m H i xi) (rv : RV g.K m H v xv) (fin : Fin g E m H (gSetIxD o i v st) R)
    (h : ∀ m' H' st', Grow m H m' H' → RS g m' H' st' → R m' H' () st' → Q H') : rSet2 xo xi xv H Q := by
  unfold gSetIxD at fin
  split at fin
  · split at fin
    · rename_i st' hst
      obtain ⟨a, H', rfl, hp, rs', gr⟩ := gDput_ok rs ro ri rv hst
      exact .inl ⟨a, H', rfl, hp, h m H' st' gr rs' (fin m H' gr rs')⟩
    · exact fin.elim
  · unfold gSetIx at fin
    split at fin
    · split at fin
      · rename_i xs hx
        split at fin
        · rename_i j hj
          cases ro with
          | ref h1 =>
            cases ri
            obtain ⟨ws, r, hH⟩ := rs.rc _ _ _ h1 hx
            obtain ⟨rs', gr⟩ := write_lst (vs := ws) rs h1 hx (r.set j rv)
            exact .inr ⟨_, ws, _, j, rfl, rfl, hH, by rw [← r.length]; exact hj, h m _ _ gr rs' (fin m _ gr rs')⟩
        · exact fin.elim
      · exact fin.elim
    · exact fin.elim
def sSetIxD (O I A : IE) : IS := fun env st => (A env st).bind fun v st1 => (O env st1).bind fun o st2 => (I env st2).bind fun i st3 => (gSetIxD o i v st3).bind fun _ st4 => .ok (.nx env) st4
theorem s_setIxD {O : IE} {p : Pos} (hu : X.A.units + 1 < cLine) (ho : SI ct X E o O) (hi : SI ct X E b B) (he : SI ct X E e A)
    (ha : ∀ v, assign (.Subscript o b p) X.env v = (do
      let ov ← holding [v] (eval o X.env)
      let iv ← holding [v, ov] (eval b X.env)
      standAt p
      holding [v, ov, iv] (setItem ov iv v)
      release [v, ov, iv] []) := by intro _; rfl) (hs : swapsWithSole [.Subscript o b p] e pos.line X.env = pure false := by rfl) (hw : swappedStores [.Subscript o b p] e X.env = pure none := by rfl)
    (h1 : (assignEach [.Subscript o b p] X.env).map (·.2) = [assign (.Subscript o b p) X.env] := by rfl) : SS ct X E (.Assign [.Subscript o b p] e pos) (sSetIxD O B A) :=
  ⟨(ps_asg he.pe (pg_sub ho.pe hi.pe ((set_dict hu).or set_list) ha) hs hw h1).imp fun Dn σ H ⟨m, env, st, re, rs, fin⟩ => ⟨m, env, st, re, rs, fin.bind.imp fun m1 H1 d st1 g1 rs1 q v rv =>
    ⟨m1, env, st1, re.mono g1, rs1, q.bind.imp fun m2 H2 o' st2 g2 rs2 q2 x rx => ⟨m2, env, st2, (re.mono g1).mono g2, rs2, q2.bind.imp fun m3 H3 i st3 g3 rs3 q3 y ry =>
      set_ok rs3 (rx.mono g3) ry ((rv.mono g2).mono g3) q3.bind fun m' H' st' gr rs' q4 => q4.here rs' σ ((((re.mono g1).mono g2).mono g3).mono gr)⟩⟩⟩⟩
theorem get_list : PGet X (rIxL X.K) := by
  intro pins s σ H x y v u Q I rx ry h
  obtain ⟨p, xs, i, z, rfl, rfl, hq, he, q⟩ := h
  cases rx
  obtain ⟨t, rfl⟩ := ry
  obtain ⟨its, r, pl, hz⟩ := I.list hq
  obtain ⟨j, h1, h2, h3, h4, h5⟩ := atI_get he
  obtain ⟨w, ew, rw'⟩ := r.get h2
  have hl := r.length
  have hn := line63
  have fin : EP X pins σ Q w s := ⟨z, H, I, rw', q⟩
  by_cases h0 : 0 ≤ i
  · have hj : i.toNat = j := by
      rw [seqIndex_of h0 h5] at h1
      exact Option.some.inj h1
    exact wpAny_getItem_list pl.isList h0 (by omega) (by rw [hj]; simpa using ew) fin
  · have hj : (i + (its.toArray.size : Int)).toNat = j := by
      rw [seqIndex_neg (by omega) h4] at h1
      rw [List.size_toArray, ← hl]
      exact Option.some.inj h1
    exact wpAny_getItem_list_neg pl.isList (by omega) (by rw [List.size_toArray] <;> omega) (by omega) (by rw [hj]; simpa using ew) fin
theorem get_dict (hu : X.A.units + 1 < cLine) : PGet X (fun x y H Q => ∃ a v, x = .ref a ∧ DGet H a y (some v) ∧ Q v H) := by
  intro pins s σ H x y v u Q I rx ry h
  obtain ⟨a, z, rfl, hd, q⟩ := h
  cases (show v = Value.ref a from rx)
  exact d_getItem hu I hd ry fun w' s' I' rw' => ⟨z, H, I', rw', q⟩
theorem _root_.L2.PGet.or {t t' : V → V → Hp → VK → Prop} (h : PGet X t) (h' : PGet X t') : PGet X (fun x y H Q => t x y H Q ∨ t' x y H Q) := fun pins s σ H x y v u Q I rx ry q => q.elim (h pins s σ H x y v u Q I rx ry) (h' pins s σ H x y v u Q I rx ry)
def gGetL : D → D → Sto → Rs D := fun d y st => match y with
  | .int i => match listAt st d with
    | some xs => match atI xs i with
      | some v => .ok v st
      | none => .bad
    | none => .bad
  | _ => .bad
theorem ops_getL {g : G0} : OpS g E gGetL (rIxL g.K) := by
  intro m H st d e x y Q rs rx ry fin
  unfold gGetL at fin
  split at fin
  · cases ry
    split at fin
    · rename_i xs hq
      split at fin
      · rename_i v hv
        obtain ⟨p, vs, rfl, hs, r⟩ := list_of rs rx hq
        obtain ⟨w, hw, rw'⟩ := r.atI hv
        exact ⟨p, vs, _, w, rfl, rfl, SqL.of hs, hw, fin.here rs _ rw'⟩
      · exact fin.elim
    · exact fin.elim
  · exact fin.elim
def gGetD : D → D → Sto → Rs D := gOr (fun st d _ => isD st d) gDix gGetL
/-- o[i] += e -/
def sAugIx (f : D → D → Sto → Rs D) (O I A : IE) : IS := fun env st => (O env st).bind fun o st1 => (I env st1).bind fun i st2 => (gGetD o i st2).bind fun x st3 => (A env st3).bind fun y st4 => (f x y st4).bind fun z st5 => (gSetIxD o i z st5).bind fun _ st6 => .ok (.nx env) st6
theorem s_augIx {O : IE} {p : Pos} (hu : X.A.units + 1 < cLine) (ho : SI ct X E o O) (hi : SI ct X E b B) (he : SI ct X E e A)
    (ha : ∀ ov iv new, augStore b ov iv new = (do holding [new, ov, iv] (setItem ov iv new); release [new, ov, iv] []; pure .next) := by intros; rfl) : SS ct X E (.AugAssign (.Subscript o b p) .Add e pos) (sAugIx gAddI O B A) :=
  ⟨(ps_augS ho.pe hi.pe ((get_dict hu).or get_list) he.pe ip_add ((set_dict hu).or set_list) ha).imp fun Dn σ H ⟨m, env, st, re, rs, fin⟩ => ⟨m, env, st, re, rs, fin.bind.imp fun m1 H1 o' st1 g1 rs1 q xo ro =>
    ⟨m1, env, st1, re.mono g1, rs1, q.bind.imp fun m2 H2 i st2 g2 rs2 q2 xi ri => by
      show (fun x y H Q => (∃ a v, x = .ref a ∧ DGet H a y (some v) ∧ Q v H) ∨ rIxL (gx ct X).K x y H Q) xo xi H2 (fun x H3 => tI (gx ct X) E A σ H3 fun y H4 => ipI (fun i j => i + j) x y H4 fun z H5 => rSet2 xo xi z H5 fun H6 => Dn.nx σ H6)
      refine (ops_or (E := E) (g := gx ct X) ops_dix ops_getL) m2 H2 st2 o' i xo xi (fun x H3 => tI (gx ct X) E A σ H3 fun y H4 => ipI (fun i j => i + j) x y H4 fun z H5 => rSet2 xo xi z H5 fun H6 => Dn.nx σ H6) rs2 (ro.mono g2) ri (Fin.imp (Fin.bind q2) fun m3 H3 x st3 g3 rs3 q3 xv rx => ?_)
      refine ⟨m3, env, st3, ((re.mono g1).mono g2).mono g3, rs3, Fin.imp (Fin.bind q3) fun m4 H4 y st4 g4 rs4 q4 yv ry => ?_⟩
      unfold gAddI at q4
      split at q4
      · have rx' := rx.mono g4
        cases rx'; cases ry
        simp only [Rs.bind_ok] at q4
        exact ⟨_, _, rfl, rfl, set_ok rs4 (((ro.mono g2).mono g3).mono g4) ((ri.mono g3).mono g4) (.int _) q4.bind fun m' H' st' gr rs' q5 => q5.here rs' σ (((((re.mono g1).mono g2).mono g3).mono g4).mono gr)⟩
      · exact q4.elim⟩⟩⟩
end
end QI

/-! dict displays -/
namespace QI
open PySem PySem.Spec PyProof.Rows L2
section
variable {g : G0} {m : Mp} {H : Hp} {st : Sto}
theorem Moves.addD {K : PySem.W.Frag} {p : Addr} {o o0 : HO} (hp : H p = some o0) (h1 : ∀ xs, o0 ≠ .tup xs) (h2 : ∀ xs, o0 ≠ .lst xs) (h3 : ∀ u xs, o0 ≠ .frz u (.lst xs)) : Moves K m H (m.add p) (upd H p o) where
  tup := fun a xs h => by
    have h : H a = some (.tup xs) := h
    show upd H p o a = _
    rw [upd_ne (fun z => by rw [z, hp] at h; exact h1 xs (Option.some.inj h))]; exact h
  rol := fun a xs h => by
    have hne : a ≠ p := fun z => by
      have := h.2.2
      rw [z, hp] at this
      exact h2 xs (Option.some.inj this)
    refine ⟨fun z => ?_, h.2.1, by rw [upd_ne hne]; exact h.2.2⟩
    rcases List.mem_append.mp z with z | z
    · exact h.1 z
    · simp at z; exact hne z
  scr := fun a xs h => by
    rcases h with ⟨u, h⟩ | h
    · exact .inl ⟨u, by rw [upd_ne (fun z => by rw [z, hp] at h; exact h3 u xs (Option.some.inj h))]; exact h⟩
    · exact .inr h
  ref := fun n a h => by
    show (m.cs ++ [p])[n]? = some a
    rw [List.getElem?_append_left (lt_of_get h)]; exact h
theorem RS.adoptD (h : RS g m H st) {p : Addr} {o o0 : HO} (hp : H p = some o0) (h1 : ∀ xs, o0 ≠ .tup xs) (h2 : ∀ xs, o0 ≠ .lst xs) (h3 : ∀ u xs, o0 ≠ .frz u (.lst xs)) (hn : p ∉ m.cs) (hr : p ∉ m.rs) {c : Cell} (r : RC g (m.add p) (upd H p o) p c) : RS g (m.add p) (upd H p o) (st ++ [c]) := by
  refine ⟨by simp [Mp.add, h.len], ?_, fun a ha => ?_, fun n a c' e1 e2 => ?_⟩
  · show (m.cs ++ [p]).Nodup
    rw [List.nodup_append]
    exact ⟨h.nd, by simp, fun a ha b hb => by simp at hb; subst hb; exact fun z => hn (z ▸ ha)⟩
  · obtain ⟨k1, o', k2⟩ := h.hs a ha
    have hne : a ≠ p := fun z => hr (by rw [← z]; exact ha)
    refine ⟨fun z => ?_, o', by rw [upd_ne hne]; exact k2⟩
    rcases List.mem_append.mp z with z | z
    · exact k1 z
    · simp at z; exact hne z
  · have e1 : (m.cs ++ [p])[n]? = some a := e1
    by_cases hl : n < m.cs.length
    · rw [List.getElem?_append_left hl] at e1
      rw [List.getElem?_append_left (by rw [← h.len]; exact hl)] at e2
      have hne : a ≠ p := fun z => hn (by rw [← z]; exact List.mem_of_getElem? e1)
      exact (h.rc n a c' e1 e2).moves (Moves.addD hp h1 h2 h3) (upd_ne hne)
    · have hn' : n = m.cs.length := by
        by_cases q : n = m.cs.length
        · exact q
        · rw [List.getElem?_eq_none (by simp; omega)] at e1; cases e1
      subst hn'
      rw [List.getElem?_append_right (Nat.le_refl _)] at e1
      rw [h.len, List.getElem?_append_right (Nat.le_refl _)] at e2
      simp at e1 e2
      subst e1 e2
      exact r
theorem Grow.adoptD {m2 : Mp} {H2 : Hp} {p : Addr} {o o0 : HO} (hp : H p = none) (gr : Grow m (upd H p o0) m2 H2) : Grow m H (m2.add p) (upd H2 p o) where
  pre := gr.pre.trans (List.prefix_append _ _)
  rsv := gr.rsv
  frame := fun a u ha e => by
    have hne := ne_of_none e hp
    rw [upd_ne hne]
    exact gr.frame a u ha (by rw [upd_ne hne]; exact e)
  new := fun a ha => by
    rcases List.mem_append.mp ha with z | z
    · rcases gr.new a z with q | q
      · exact .inl q
      · by_cases hne : a = p
        · subst hne; exact .inr hp
        · rw [upd_ne hne] at q; exact .inr q
    · simp at z; subst z; exact .inr hp
  tup := fun a xs e => by
    have hne := ne_of_none e hp
    rw [upd_ne hne]
    exact gr.tup a xs (by rw [upd_ne hne]; exact e)
  frz := fun a u xs e => by
    have hne := ne_of_none e hp
    rw [upd_ne hne]
    exact gr.frz a u xs (by rw [upd_ne hne]; exact e)
end
abbrev IP := Ev → Sto → Rs (List (D × D))
inductive RPs (K : PySem.W.Frag) (m : Mp) (H : Hp) : List (D × D) → List (V × V) → Prop
  | nil : RPs K m H [] []
  | cons {d e : D} {v u : V} {ds : List (D × D)} {vs : List (V × V)} : RV K m H d v → RV K m H e u → RPs K m H ds vs → RPs K m H ((d, e) :: ds) ((v, u) :: vs)
section
variable {ct : String → Addr} {X : Cx} {E : EK} {pos : Pos} {a b : Expr} {A B : IE} {ks : List (Option Expr)} {vs : List Expr} {I : IP}
variable (ct X E) in
structure SPr (pos : Pos) (keys : List (Option Expr)) (values : List Expr) (I : IP) : Prop where
  ex : ∃ trs, PPs X pos keys values trs ∧ ∀ (σ : L2.St) (H : Hp) (Q : List (V × V) → Hp → Prop), (∃ m env st, RE X.K m H env σ ∧ RS (gx ct X) m H st ∧ Fin (gx ct X) E m H (I env st) (fun m' H' ps _ => ∀ vs, RPs X.K m' H' ps vs → Q vs H')) → tPairs trs σ H Q
def ipNil : IP := fun _ st => .ok [] st
def ipCons (A B : IE) (I : IP) : IP := fun env st => (A env st).bind fun d st1 => (B env st1).bind fun e st2 => (I env st2).bind fun ps st3 => .ok ((d, e) :: ps) st3
theorem sps_nilD : SPr ct X E pos [] [] ipNil := ⟨[], pps_nil, fun σ H Q ⟨m, env, st, re, rs, fin⟩ => Fin.here fin rs _ .nil⟩
theorem sps_consD (ha : SI ct X E a A) (hb : SI ct X E b B) (hr : SPr ct X E pos ks vs I) : SPr ct X E pos (some a :: ks) (b :: vs) (ipCons A B I) := by
  obtain ⟨trs, h1, h2⟩ := hr.ex
  exact ⟨_, pps_cons ha.pe hb.pe h1, fun σ H Q ⟨m, env, st, re, rs, fin⟩ => ⟨m, env, st, re, rs, fin.bind.imp fun m1 H1 d st1 g1 rs1 q x rx =>
    ⟨m1, env, st1, re.mono g1, rs1, q.bind.imp fun m2 H2 e st2 g2 rs2 q2 y ry => h2 σ H2 _ ⟨m2, env, st2, RE.mono (g := gx ct X) g2 (RE.mono (g := gx ct X) g1 re), rs2, q2.bind.imp fun m3 H3 ps st3 g3 rs3 q3 zs rz =>
      q3.here rs3 _ (.cons ((rx.mono g2).mono g3) (ry.mono g3) rz)⟩⟩⟩⟩
def keyed : List (D × D) → Option (List (Key × D))
  | [] => some []
  | (d, e) :: ps => match d.key, keyed ps with
    | some k, some kvs => some ((k, e) :: kvs)
    | _, _ => none
def keyedT : List (D × D) → Option (List (List Key × D))
  | [] => some []
  | (.tup ds, e) :: ps => match D.keys ds, keyedT ps with
    | some k, some kvs => some ((k, e) :: kvs)
    | _, _ => none
  | _ :: _ => none
def mergeD {κ : Type} [DecidableEq κ] (kvs more : List (κ × D)) : List (κ × D) := more.foldl (fun acc kv => putD acc kv.1 kv.2) kvs
theorem RFs.merge {K : PySem.W.Frag} {m : Mp} {H : Hp} {ds : List (Key × D)} {ws : List (Key × V)} (h : RFs K m H ds ws) : ∀ {ds0 : List (Key × D)} {ws0 : List (Key × V)}, RFs K m H ds0 ws0 → RFs K m H (mergeD ds0 ds) (mergeK ws0 ws) := by
  induction h with
  | nil => exact fun h => h
  | @cons f d v ds ws r _ ih => exact fun {ds0 ws0} h0 => ih (h0.put f r)
theorem keyed_ok {K : PySem.W.Frag} {m : Mp} {H : Hp} : ∀ {ps : List (D × D)} {zs : List (V × V)} {kvs : List (Key × D)}, RPs K m H ps zs → keyed ps = some kvs → ∃ ws, RFs K m H kvs ws ∧ zs = ws.map fun kv => (kV kv.1, kv.2)
  | [], _, _, r, h => by cases r; cases h; exact ⟨[], .nil, rfl⟩
  | (d, e) :: ps, _, kvs, r, h => by
    cases r with
    | cons r1 r2 r3 =>
      simp only [keyed] at h
      split at h
      · rename_i k kvs' hk hks
        cases h
        obtain ⟨ws, h1, h2⟩ := keyed_ok r3 hks
        exact ⟨(k, _) :: ws, .cons r2 h1, by rw [r1.key hk, h2]; rfl⟩
      · cases h
/-- {k: v, ..}, keys ints and texts: a new cell -/
def iDisp (I : IP) : IE := fun env st => (I env st).bind fun ps st1 => match keyed ps with
  | some kvs => if kvs.length ≤ 15 then .ok (.ref st1.length) (st1 ++ [.dk (mergeD [] kvs)]) else .bad
  | none => .bad
theorem si_disp (h : SPr ct X E pos ks vs I) (hall : ks.all (·.isSome) = true) (hl : ks.length = vs.length) (h0 : ks ≠ []) (h15 : ks.length ≤ 15) : SI ct X E (.Dict ks vs pos) (iDisp I) := by
  obtain ⟨trs, h1, h2⟩ := h.ex
  refine ⟨(pe_disp h1 hall hl h0 h15).imp fun σ H Q ⟨m, env, st, re, rs, fin⟩ p hp => h2 _ _ _ ⟨m, env, st, re.mono (Grow.laid hp), rs.laid hp, ?_⟩⟩
  unfold iDisp at fin
  cases hI : I env st with
  | bad => rw [hI] at fin; exact fin.elim
  | exn e s' => rw [hI] at fin; exact Fin.mono (show Fin (gx ct X) E m H (.exn e s') _ from fin) (Grow.laid hp)
  | ok ps st1 =>
    rw [hI] at fin
    intro m2 H2 gr rs2 zs rz
    have hpc : p ∉ m.cs := rs.notin hp
    have hp2 : H2 p = some (.dK []) := gr.frame _ _ hpc upd_same
    have hn : p ∉ m2.cs := fun z => by
      rcases gr.new p z with q | q
      · exact hpc q
      · rw [upd_same] at q; cases q
    have hr : p ∉ m2.rs := by rw [gr.rsv]; exact rs.nothold hp
    simp only [Rs.bind_ok] at fin
    split at fin
    · rename_i kvs hk
      split at fin
      · rename_i hz
        obtain ⟨ws, w1, w2⟩ := keyed_ok rz hk
        refine ⟨hp2, ws, w2, by rw [← w1.len]; exact hz, ?_⟩
        have mv : Moves X.K m2 H2 (m2.add p) (upd H2 p (.dK (mergeK [] ws))) := Moves.addD hp2 (fun _ z => nomatch z) (fun _ z => nomatch z) (fun _ _ z => nomatch z)
        refine fin (m2.add p) _ (Grow.adoptD hp gr) (rs2.adoptD hp2 (fun _ z => nomatch z) (fun _ z => nomatch z) (fun _ _ z => nomatch z) hn hr ⟨_, (w1.moves mv).merge .nil, upd_same⟩) _ (.ref ?_)
        show (m2.cs ++ [p])[st1.length]? = some p
        rw [← rs2.len, List.getElem?_append_right (Nat.le_refl _)]
        simp
      · exact fin.elim
    · exact fin.elim
/-- {} -/
def iDk0 : IE := fun _ st => .ok (.ref st.length) (st ++ [.dk []])
def iDt0 : IE := fun _ st => .ok (.ref st.length) (st ++ [.dt []])
theorem si_dk0 : SI ct X E (.Dict [] [] pos) iDk0 := ⟨pe_dnewK.imp fun σ H Q ⟨m, env, st, re, rs, fin⟩ p hp => by
  refine fin (m.add p) _ (Grow.adopt hp) (rs.adopt hp ⟨[], .nil, upd_same⟩) _ (.ref ?_)
  show (m.cs ++ [p])[st.length]? = some p
  rw [← rs.len, List.getElem?_append_right (Nat.le_refl _)]
  simp⟩
theorem si_dt0 : SI ct X E (.Dict [] [] pos) iDt0 := ⟨pe_dnewT.imp fun σ H Q ⟨m, env, st, re, rs, fin⟩ p hp => by
  refine fin (m.add p) _ (Grow.adopt hp) (rs.adopt hp ⟨[], .nil, upd_same⟩) _ (.ref ?_)
  show (m.cs ++ [p])[st.length]? = some p
  rw [← rs.len, List.getElem?_append_right (Nat.le_refl _)]
  simp⟩
end
/-! {(..): v, ..} -/
def mergeT (kvs more : List (List Key × V)) : List (List Key × V) := more.foldl (fun acc kv => putK acc kv.1 kv.2) kvs
def PT2 (H : Hp) : List (List Key × V) → List (V × V) → Prop
  | [], [] => True
  | kv :: kvs, p :: ps => (∃ b, p.1 = .ref b ∧ H b = some (.tup (kv.1.map kV)) ∧ p.2 = kv.2) ∧ PT2 H kvs ps
  | _, _ => False
def tDispT (trs : List (TE × TE)) : TE := fun σ H Q => ∀ p, H p = none → tPairs trs σ (upd H p (.dT [])) fun ps H2 => H2 p = some (.dT []) ∧ ∃ kvs : List (List Key × V), PT2 H2 kvs ps ∧ kvs.length ≤ 15 ∧ Q (.ref p) (upd H2 p (.dT (mergeT [] kvs)))
theorem carriesT {P : Program} {w : World} {H : Hp} {h : Heap} (ok : HOk P w H h) : ∀ {kvs : List (List Key × V)} {ps : List (V × V)} {ws : List (Value × Value)}, PT2 H kvs ps → VV ps ws → ∃ rs : List (List Key × Addr × Value), CarriesH (tupleKind (mixKind P w)) h ws rs ∧ KT H kvs rs
  | [], [], _, _, r => by cases r; exact ⟨[], True.intro, .nil⟩
  | kv :: kvs, p :: ps, _, x, r => by
    obtain ⟨⟨b, h1, h2, h3⟩, x⟩ := x
    cases r with
    | @cons a q as qs hq t =>
      obtain ⟨rs, c, k⟩ := carriesT ok x t
      obtain ⟨q1, q2⟩ := q
      obtain ⟨r1, r2⟩ := hq
      rw [h1] at r1
      cases (show q1 = Value.ref b from r1)
      exact ⟨(kv.1, b, q2) :: rs, ⟨rfl, rfl, key_of ok h2, c⟩, .cons ⟨rfl, h2, by rw [← h3]; exact r2⟩ k⟩
  | [], _ :: _, _, x, _ => x.elim
  | _ :: _, [], _, x, _ => x.elim
theorem KT_merge {H : Hp} : ∀ {more : List (List Key × V)} {rs : List (List Key × Addr × Value)}, KT H more rs → ∀ {kvs : List (List Key × V)} {xs : List (List Key × Addr × Value)}, KT H kvs xs → KT H (mergeT kvs more) (storedAllH xs rs) := by
  intro more rs r
  unfold KT at r
  induction r with
  | nil => exact fun q => q
  | @cons p q ps qs h t ih =>
    intro kvs xs r0
    have e : KT H (putK kvs p.1 p.2) (storedH xs q.1 q.2.1 q.2.2) := by
      have := KT.put r0 p.1 h.2.1 h.2.2
      rw [← h.1]; exact this
    exact ih e
theorem mergeT_len : ∀ (more kvs : List (List Key × V)), (mergeT kvs more).length ≤ kvs.length + more.length
  | [], kvs => by show kvs.length ≤ kvs.length + 0; omega
  | p :: r, kvs => by
    have h1 := mergeT_len r (putK kvs p.1 p.2)
    have h2 := length_putK kvs p.1 p.2
    show (mergeT (putK kvs p.1 p.2) r).length ≤ _
    rw [List.length_cons]; omega
theorem pe_dispT {X : Cx} {pos : Pos} {keys : List (Option Expr)} {values : List Expr} {trs : List (TE × TE)} (hu : X.A.units + 1 < cLine) (h : PPs X pos keys values trs) (hall : keys.all (·.isSome) = true) (hl : keys.length = values.length) (h0 : keys ≠ [])
    (h15 : keys.length ≤ 15) : PE X (.Dict keys values pos) (tDispT trs) := by
  refine ⟨fun pins s σ H Q I q => ?_⟩
  have hn := I.hok.fresh (Nat.le_refl s.heap.objs.size)
  have I1 := I.laid (a := s.heap.objs.size) (o := .dT []) (h' := s.heap.push { cls := .type "dict", data := .dict #[] }) (t' := s.toks) (fun _ _ q => Heap.get?_push_of_some _ q) (Nat.le_refl _) (dt_empty s.heap I.big)
  have hlen := pairTrees_length keys values X.env pos hall hl
  have hne : pairTrees keys values X.env pos ≠ [] := fun z => by
    rw [z] at hlen
    exact h0 (List.length_eq_zero_iff.mp hlen.symm)
  rw [arm_eval_Dict, zip_pairTrees keys values X.env pos hall hl, dictDisplay_pairs _ hne (by omega)]
  refine wpAny_bind (wpAny_standAt (wpAny_bind ?_))
  refine wpAny_subDictH (knd := tupleKind (mixKind X.prog X.w)) (Q := fun d s' => wpAny (model X.prog X.w) X.A (pure (Value.ref d)) (EP X pins σ Q) X.xe s') (show X.A.units < cLine by omega) (by omega) ?_
  refine thn (h.run pins _ σ _ _ I1 (q _ hn)) fun ws s2 ⟨ps, H2, I2, rel, e, kvs, ep, lk, q2⟩ => ?_
  obtain ⟨rs, c, rk⟩ := carriesT I2.hok ep rel
  obtain ⟨z, hd, xs0, r0, dd⟩ := dt_of I2.hok e
  cases r0
  refine ⟨rs, c, dd, fun h' tk dd' hs => wpAny_pure ⟨.ref s.heap.objs.size, _, ?_, rfl, q2⟩⟩
  have hz : (mergeT [] kvs).length ≤ sizeLine := by
    have h1 := mergeT_len kvs []
    rw [List.length_nil] at h1
    rw [sizeLine_eq]; omega
  have rm := KT_merge rk (kvs := []) (xs := []) .nil
  obtain ⟨qo, es, epp, hq, k2, k3, k4, k5, k6⟩ := id dd'
  refine d_write I2 (by rw [e]; exact True.intro) hs ⟨qo, hq⟩ ⟨hz, hd, _, rm.keeps fun c ys ec => ?_, qo, es, epp, hq, k2, k3, k4, k6⟩
  rw [upd_ne (ne_of ec e (fun z => nomatch z))]
  exact ec
theorem keyedT_ok {K : PySem.W.Frag} {m : Mp} {H : Hp} : ∀ {ps : List (D × D)} {zs : List (V × V)} {kvs : List (List Key × D)}, RPs K m H ps zs → keyedT ps = some kvs → ∃ ws, RFs K m H kvs ws ∧ PT2 H ws zs
  | [], _, _, r, h => by cases r; cases h; exact ⟨[], .nil, True.intro⟩
  | (.tup ds, e) :: ps, _, kvs, r, h => by
    cases r with
    | cons r1 r2 r3 =>
      simp only [keyedT] at h
      split at h
      · rename_i k kvs' hk hks
        cases h
        obtain ⟨ws, h1, h2⟩ := keyedT_ok r3 hks
        cases r1 with
        | tup a1 a2 =>
          have := a2.keys hk
          subst this
          exact ⟨(k, _) :: ws, .cons r2 h1, ⟨_, rfl, a1, rfl⟩, h2⟩
      · cases h
  | (.non, _) :: _, _, _, _, h => by cases h
  | (.bl _, _) :: _, _, _, _, h => by cases h
  | (.int _, _) :: _, _, _, _, h => by cases h
  | (.str _, _) :: _, _, _, _, h => by cases h
  | (.rol _, _) :: _, _, _, _, h => by cases h
  | (.scr _, _) :: _, _, _, _, h => by cases h
  | (.ref _, _) :: _, _, _, _, h => by cases h
theorem RFs.mergeT {K : PySem.W.Frag} {m : Mp} {H : Hp} {ds : List (List Key × D)} {ws : List (List Key × V)} (h : RFs K m H ds ws) : ∀ {ds0 : List (List Key × D)} {ws0 : List (List Key × V)}, RFs K m H ds0 ws0 → RFs K m H (mergeD ds0 ds) (QI.mergeT ws0 ws) := by
  induction h with
  | nil => exact fun h => h
  | @cons f d v ds ws r _ ih => exact fun {ds0 ws0} h0 => ih (h0.put f r)
section
variable {ct : String → Addr} {X : Cx} {E : EK} {pos apos cpos : Pos} {a b e o : Expr} {A B O : IE} {ks : List (Option Expr)} {vs : List Expr} {I : IP}
/-- {(..): v, ..}: a new cell -/
def iDispT (I : IP) : IE := fun env st => (I env st).bind fun ps st1 => match keyedT ps with
  | some kvs => if kvs.length ≤ 15 then .ok (.ref st1.length) (st1 ++ [.dt (mergeD [] kvs)]) else .bad
  | none => .bad
theorem si_dispT (hu : X.A.units + 1 < cLine) (h : SPr ct X E pos ks vs I) (hall : ks.all (·.isSome) = true) (hl : ks.length = vs.length) (h0 : ks ≠ []) (h15 : ks.length ≤ 15) : SI ct X E (.Dict ks vs pos) (iDispT I) := by
  obtain ⟨trs, h1, h2⟩ := h.ex
  refine ⟨(pe_dispT hu h1 hall hl h0 h15).imp fun σ H Q ⟨m, env, st, re, rs, fin⟩ p hp => h2 _ _ _ ⟨m, env, st, re.mono (Grow.laid hp), rs.laid hp, ?_⟩⟩
  unfold iDispT at fin
  cases hI : I env st with
  | bad => rw [hI] at fin; exact fin.elim
  | exn e s' => rw [hI] at fin; exact Fin.mono (show Fin (gx ct X) E m H (.exn e s') _ from fin) (Grow.laid hp)
  | ok ps st1 =>
    rw [hI] at fin
    intro m2 H2 gr rs2 zs rz
    have hpc : p ∉ m.cs := rs.notin hp
    have hp2 : H2 p = some (.dT []) := gr.frame _ _ hpc upd_same
    have hn : p ∉ m2.cs := fun z => by
      rcases gr.new p z with q | q
      · exact hpc q
      · rw [upd_same] at q; cases q
    have hr : p ∉ m2.rs := by rw [gr.rsv]; exact rs.nothold hp
    simp only [Rs.bind_ok] at fin
    split at fin
    · rename_i kvs hk
      split at fin
      · rename_i hz
        obtain ⟨ws, w1, w2⟩ := keyedT_ok rz hk
        refine ⟨hp2, ws, w2, by rw [← w1.len]; exact hz, ?_⟩
        have mv : Moves X.K m2 H2 (m2.add p) (upd H2 p (.dT (QI.mergeT [] ws))) := Moves.addD hp2 (fun _ z => nomatch z) (fun _ z => nomatch z) (fun _ _ z => nomatch z)
        refine fin (m2.add p) _ (Grow.adoptD hp gr) (rs2.adoptD hp2 (fun _ z => nomatch z) (fun _ z => nomatch z) (fun _ _ z => nomatch z) hn hr ⟨_, (w1.moves mv).mergeT .nil, upd_same⟩) _ (.ref ?_)
        show (m2.cs ++ [p])[st1.length]? = some p
        rw [← rs2.len, List.getElem?_append_right (Nat.le_refl _)]
        simp
      · exact fin.elim
    · exact fin.elim
theorem isD_ok {g : G0} {m : Mp} {H : Hp} {st : Sto} {d : D} {x : V} (rs : RS g m H st) (rx : RV g.K m H d x) (h : isD st d = true) : ∃ a, x = .ref a ∧ IsD H a := by
  cases d with
  | ref n =>
    cases rx with
    | @ref _ a h1 =>
      simp only [isD] at h
      split at h
      · rename_i kvs hk
        obtain ⟨vs, _, hH⟩ := rs.rc _ _ _ h1 hk
        exact ⟨a, rfl, .inl ⟨_, .inl hH⟩⟩
      · rename_i kvs hk
        obtain ⟨vs, _, hH⟩ := rs.rc _ _ _ h1 hk
        exact ⟨a, rfl, .inr ⟨_, .inl hH⟩⟩
      · cases h
  | _ => simp [isD] at h
/-- d.get(e), d.get(e, b) -/
def iDget1 (O A : IE) : IE := fun env st => (O env st).bind fun o st1 => if isD st1 o = true then (A env st1).bind fun y st2 => match gDat st2 o y with
    | some (some v) => .ok v st2
    | some none => .ok .non st2
    | none => .bad
  else .bad
def iDget2 (O A B : IE) : IE := fun env st => (O env st).bind fun o st1 => if isD st1 o = true then (A env st1).bind fun y st2 => (B env st2).bind fun z st3 => match gDat st3 o y with
    | some (some v) => .ok v st3
    | some none => .ok z st3
    | none => .bad
  else .bad
theorem si_dget1 (hu : X.A.units + 1 < cLine) (ho : SI ct X E o O) (ha : SI ct X E a A) (mm : M1 X o "get" apos a cpos) : SI ct X E (.Call (.Attribute o "get" apos) [a] [] cpos) (iDget1 O A) :=
  ⟨(pe_dget1 hu ho.pe ha.pe mm).imp fun σ H Q ⟨m, env, st, re, rs, fin⟩ => ⟨m, env, st, re, rs, fin.bind.imp fun m1 H1 d st1 g1 rs1 q x rx => by
    split at q
    · rename_i hd
      obtain ⟨a, rfl, isd⟩ := isD_ok rs1 rx hd
      refine ⟨a, rfl, isd, m1, env, st1, re.mono g1, rs1, q.bind.imp fun m2 H2 y st2 g2 rs2 q2 v ry => ?_⟩
      split at q2
      · rename_i z hz
        obtain ⟨a', ov, e, hg, ro⟩ := gDat_ok rs2 (rx.mono g2) ry hz
        cases e
        cases ro with
        | some r => exact ⟨_, hg, q2.here rs2 _ r⟩
      · rename_i hz
        obtain ⟨a', ov, e, hg, ro⟩ := gDat_ok rs2 (rx.mono g2) ry hz
        cases e
        cases ro
        exact ⟨_, hg, q2.here rs2 _ .non⟩
      · exact q2.elim
    · exact q.elim⟩⟩
theorem si_dget2 (hu : X.A.units + 1 < cLine) (ho : SI ct X E o O) (ha : SI ct X E a A) (hb : SI ct X E b B) (mm : M2 X o "get" apos a b cpos) : SI ct X E (.Call (.Attribute o "get" apos) [a, b] [] cpos) (iDget2 O A B) :=
  ⟨(pe_dget2 hu ho.pe ha.pe hb.pe mm).imp fun σ H Q ⟨m, env, st, re, rs, fin⟩ => ⟨m, env, st, re, rs, fin.bind.imp fun m1 H1 d st1 g1 rs1 q x rx => by
    split at q
    · rename_i hd
      obtain ⟨a, rfl, isd⟩ := isD_ok rs1 rx hd
      refine ⟨a, rfl, isd, m1, env, st1, re.mono g1, rs1, q.bind.imp fun m2 H2 y st2 g2 rs2 q2 v ry => ⟨m2, env, st2, (re.mono g1).mono g2, rs2, q2.bind.imp fun m3 H3 z st3 g3 rs3 q3 u rz => ?_⟩⟩
      split at q3
      · rename_i w hw
        obtain ⟨a', ov, e, hg, ro⟩ := gDat_ok rs3 ((rx.mono g2).mono g3) (ry.mono g3) hw
        cases e
        cases ro with
        | some r => exact ⟨_, hg, q3.here rs3 _ r⟩
      · rename_i hw
        obtain ⟨a', ov, e, hg, ro⟩ := gDat_ok rs3 ((rx.mono g2).mono g3) (ry.mono g3) hw
        cases e
        cases ro
        exact ⟨_, hg, q3.here rs3 _ rz⟩
      · exact q3.elim
    · exact q.elim⟩⟩
end
end QI

/-! more methods of lists, in over rows of rows -/
namespace QI
open PySem PySem.Spec PyProof.Rows L2
def isLst2 (st : Sto) : D → Bool
  | .ref n => match st[n]? with
    | some (.lst _) => true
    | _ => false
  | .rol _ => true
  | .scr _ => true
  | _ => false
theorem lst_ty2 {g : G0} {m : Mp} {H : Hp} {st : Sto} {d : D} {x : V} (rs : RS g m H st) (r : RV g.K m H d x) (h : isLst2 st d = true) : tyV g.K "list" x H := by
  cases d with
  | ref n => exact lst_ty rs r h
  | rol xs => cases r with | rol h1 h2 => exact .inl ⟨rfl, _, h1.sq⟩
  | scr xs => cases r with | scr h1 h2 => exact .inl ⟨rfl, _, h1.sq⟩
  | _ => simp [isLst2] at h
section
variable {ct : String → Addr} {X : Cx} {E : EK} {pos apos : Pos} {a b c e o : Expr} {es : List Expr} {A B C O : IE} {L : IL}
def iMeth0 (f : D → List D → Sto → Rs D) (O : IE) : IE := fun env st => (O env st).bind fun d st1 => if isLst2 st1 d = true then f d [] st1 else .bad
def iMethR (f : D → List D → Sto → Rs D) (O : IE) (L : IL) : IE := fun env st => (O env st).bind fun d st1 => if isLst2 st1 d = true then (L env st1).bind fun ds st2 => f d ds st2 else .bad
theorem si_meth0 {name : Str} {f : D → List D → Sto → Rs D} {r : V → List V → Hp → VK → Prop} (hr : MtS (gx ct X) E f r) (h : PE X (.Call (.Attribute o name apos) [] [] pos) (tBM0 X.K "list" r (tI (gx ct X) E O))) :
    SI ct X E (.Call (.Attribute o name apos) [] [] pos) (iMeth0 f O) :=
  ⟨h.imp fun σ H Q ⟨m, env, st, re, rs, fin⟩ => ⟨m, env, st, re, rs, fin.bind.imp fun m1 H1 d st1 g1 rs1 q x rx => by
    split at q
    · rename_i hl
      exact ⟨lst_ty2 rs1 rx hl, hr m1 H1 st1 d [] x [] Q rs1 rx .nil q⟩
    · exact q.elim⟩⟩
theorem si_methR {name : Str} {f : D → List D → Sto → Rs D} {r : V → List V → Hp → VK → Prop} (hr : MtS (gx ct X) E f r)
    (h : PE X (.Call (.Attribute o name apos) (e :: es) [] pos) (tBM X.K "list" r (tI (gx ct X) E O) (tIA (gx ct X) E L))) :
    SI ct X E (.Call (.Attribute o name apos) (e :: es) [] pos) (iMethR f O L) :=
  ⟨h.imp fun σ H Q ⟨m, env, st, re, rs, fin⟩ => ⟨m, env, st, re, rs, fin.bind.imp fun m1 H1 d st1 g1 rs1 q x rx => by
    split at q
    · rename_i hl
      exact ⟨lst_ty2 rs1 rx hl, m1, env, st1, re.mono g1, rs1, q.bind.imp fun m2 H2 ds st2 g2 rs2 q2 vs rv => hr m2 H2 st2 d ds x vs Q rs2 (rx.mono g2) rv q2⟩
    · exact q.elim⟩⟩
/-- l.pop() -/
def gPop : D → List D → Sto → Rs D
  | .ref n, [], st => match st[n]? with
    | some (.lst xs) => match xs[xs.length - 1]? with
      | some y => .ok y (setL st n xs.dropLast)
      | none => .bad
    | _ => .bad
  | _, _, _ => .bad
theorem mts_pop {g : G0} : MtS g E gPop rPop := fun m H st d ds x vs Q rs rx rv fin => by
  unfold gPop at fin
  split at fin
  · split at fin
    · rename_i xs hx
      split at fin
      · rename_i y hy
        cases rx with
        | ref h1 =>
          cases rv
          obtain ⟨ws, r, hH⟩ := rs.rc _ _ _ h1 hx
          obtain ⟨v, hv, rv'⟩ := r.get hy
          obtain ⟨rs', gr⟩ := write_lst (vs := ws) rs h1 hx r.dropLast
          exact ⟨_, ws, v, rfl, rfl, hH, by rw [← r.length]; exact hv, fin m _ gr rs' _ (rv'.mono gr)⟩
      · exact fin.elim
    · exact fin.elim
  · exact fin.elim
theorem si_pop (ho : SI ct X E o O) (hbase : attributeBase o "pop" X.env (eval o X.env) = eval o X.env := by rfl) (hline : (apos.endLine == pos.line) = true := by rfl) : SI ct X E (.Call (.Attribute o "pop" apos) [] [] pos) (iMeth0 gPop O) :=
  si_meth0 mts_pop (pe_bm0 PySem.F.plainAttrs_list PySem.F.slot_list_pop PySem.F.type_list_pop mt_pop ho.pe hbase hline)
/-- l.pop(i) -/
def gPopAt : D → List D → Sto → Rs D
  | .ref n, [.int i], st => match st[n]? with
    | some (.lst xs) => if -(2 ^ 63) ≤ i ∧ i < 2 ^ 63 then (match seqIndex? i xs.length with
      | some k => match xs[k]? with
        | some y => .ok y (setL st n (xs.eraseIdx k))
        | none => .bad
      | none => .bad) else .bad
    | _ => .bad
  | _, _, _ => .bad
theorem RVs.erase {K : PySem.W.Frag} {m : Mp} {H : Hp} : ∀ {ds : List D} {vs : List V} (k : Nat), RVs K m H ds vs → RVs K m H (ds.eraseIdx k) (vs.eraseIdx k)
  | [], _, _, h => by cases h; exact .nil
  | d :: ds, _, 0, h => by cases h with | cons h1 h2 => exact h2
  | d :: ds, _, k + 1, h => by cases h with | cons h1 h2 => exact .cons h1 (RVs.erase k h2)
theorem mts_popAt {g : G0} : MtS g E gPopAt rPopAt := fun m H st d ds x vs Q rs rx rv fin => by
  unfold gPopAt at fin
  split at fin
  · split at fin
    · rename_i xs hx
      split at fin
      · rename_i hi
        split at fin
        · rename_i k hk
          split at fin
          · rename_i y hy
            cases rx with
            | ref h1 =>
              cases rv with
              | cons r1 r2 =>
                cases r2
                cases r1
                obtain ⟨ws, r, hH⟩ := rs.rc _ _ _ h1 hx
                obtain ⟨v, hv, rv'⟩ := r.get hy
                obtain ⟨rs', gr⟩ := write_lst (vs := ws) rs h1 hx (r.erase k)
                exact ⟨_, ws, _, k, v, rfl, rfl, hH, hi.1, hi.2, by rw [← r.length]; exact hk, hv, fin m _ gr rs' _ (rv'.mono gr)⟩
          · exact fin.elim
        · exact fin.elim
      · exact fin.elim
    · exact fin.elim
  · exact fin.elim
theorem si_popAt (ho : SI ct X E o O) (ha : SA ct X E (e :: es) L) (hbase : attributeBase o "pop" X.env (eval o X.env) = eval o X.env := by rfl)
    (hfew : ((backTo pos (starEach (e :: es) X.env)).all (fun x => !x.1) && (backToKw pos (keywordEach [] X.env)).all (fun x => x.1.isSome)
      && decide ((e :: es).length + ([] : List Keyword).length + (if ([] : List Keyword).isEmpty then 0 else 1) < 30)) = true := by rfl)
    (hline : (apos.endLine == pos.line) = true := by rfl) (hs : starEach (e :: es) X.env = (false, eval e X.env) :: starEach es X.env := by rfl) (hplain : (backTo pos (starEach es X.env)).any (·.1) = false := by rfl) : SI ct X E (.Call (.Attribute o "pop" apos) (e :: es) [] pos) (iMethR gPopAt O L) :=
  si_methR mts_popAt (pe_bm PySem.F.plainAttrs_list PySem.F.slot_list_pop PySem.F.type_list_pop mt_popAt ho.pe ha.pa hbase hfew hline hs hplain)
/-- l.insert(i, y) -/
def gInsert : D → List D → Sto → Rs D
  | .ref n, [.int i, y], st => match st[n]? with
    | some (.lst xs) => if xs.length < 16777216 ∧ 0 ≤ i ∧ i < 2 ^ 63 then .ok .non (setL st n (xs.take i.toNat ++ [y] ++ xs.drop i.toNat)) else .bad
    | _ => .bad
  | _, _, _ => .bad
theorem mts_insert {g : G0} : MtS g E gInsert (fun x vs H Q => ∃ (l : Addr) (xs : List V) (i : Int) (y : V), x = .ref l ∧ vs = [.int i, y] ∧ H l = some (.lst xs) ∧ xs.length < sizeLine ∧ 0 ≤ i ∧ i < 2 ^ 63 ∧
    Q .non (upd H l (.lst (xs.take i.toNat ++ [y] ++ xs.drop i.toNat)))) := fun m H st d ds x vs Q rs rx rv fin => by
  unfold gInsert at fin
  split at fin
  · split at fin
    · rename_i xs hx
      split at fin
      · rename_i hi
        cases rx with
        | ref h1 =>
          cases rv with
          | cons r1 r2 =>
            cases r1
            cases r2 with
            | cons r2 r3 =>
              cases r3
              obtain ⟨ws, r, hH⟩ := rs.rc _ _ _ h1 hx
              obtain ⟨rs', gr⟩ := write_lst (vs := ws) rs h1 hx (((r.take _).append (.cons r2 .nil)).append (r.drop _))
              exact ⟨_, ws, _, _, rfl, rfl, hH, by rw [← r.length, sl_eq]; exact hi.1, hi.2.1, hi.2.2, fin m _ gr rs' _ .non⟩
      · exact fin.elim
    · exact fin.elim
  · exact fin.elim
theorem si_insert (ho : SI ct X E o O) (ha : SA ct X E (e :: es) L) (hbase : attributeBase o "insert" X.env (eval o X.env) = eval o X.env := by rfl)
    (hfew : ((backTo pos (starEach (e :: es) X.env)).all (fun x => !x.1) && (backToKw pos (keywordEach [] X.env)).all (fun x => x.1.isSome)
      && decide ((e :: es).length + ([] : List Keyword).length + (if ([] : List Keyword).isEmpty then 0 else 1) < 30)) = true := by rfl)
    (hline : (apos.endLine == pos.line) = true := by rfl) (hs : starEach (e :: es) X.env = (false, eval e X.env) :: starEach es X.env := by rfl) (hplain : (backTo pos (starEach es X.env)).any (·.1) = false := by rfl) : SI ct X E (.Call (.Attribute o "insert" apos) (e :: es) [] pos) (iMethR gInsert O L) :=
  si_methR mts_insert (pe_bm PySem.F.plainAttrs_list PySem.F.slot_list_insert PySem.F.type_list_insert mt_insert ho.pe ha.pa hbase hfew hline hs hplain)
/-- the place of the first equal one -/
def firstEq (ps : List PyData) (p : PyData) : Option Nat := ps.findIdx? fun z => PyData.eqv z p
def pdL (st : Sto) (d : D) : Option (List PyData) := match seqAt st d with
  | some xs => pdPs xs
  | none => none
/-- l.index(y) -/
def gIndex : D → List D → Sto → Rs D := fun d ds st => match ds with
  | [y] => if isLst2 st d = true then (match pdL st d, pdP y with
    | some ps, some p => if SeqAt.shaped (.list ps) = true ∧ SeqAt.shaped p = true then (match firstEq ps p with
      | some j => .ok (.int (j : Nat)) st
      | none => .bad) else .bad
    | _, _ => .bad) else .bad
  | _ => .bad
theorem lst_dp {g : G0} {m : Mp} {H : Hp} {st : Sto} {d : D} {x : V} {ps : List PyData} (rs : RS g m H st) (rx : RV g.K m H d x) (hl : isLst2 st d = true) (h : pdL st d = some ps) : ∃ a, x = .ref a ∧ Dp g.K H (.ref a) (.list ps) := by
  cases d with
  | ref n =>
    simp only [isLst2] at hl
    split at hl
    · rename_i xs hx
      cases rx with
      | @ref _ a h1 =>
        obtain ⟨vs, r, hH⟩ := rs.rc _ _ _ h1 hx
        simp only [pdL, seqAt, hx] at h
        exact ⟨a, rfl, .lst (SqL.of hH) (r.dp h)⟩
    · cases hl
  | rol xs => cases rx with | rol h1 h2 => exact ⟨_, rfl, .lst h1.sq (h2.dp h)⟩
  | scr xs => cases rx with | scr h1 h2 => exact ⟨_, rfl, .lst h1.sq (h2.dp h)⟩
  | _ => simp [isLst2] at hl
theorem firstEq_ok {ps : List PyData} {p : PyData} {j : Nat} (h : firstEq ps p = some j) : ∃ z, ps[j]? = some z ∧ PyData.eqv z p = true ∧ ∀ (m : Nat) (z' : PyData), m < j → ps[m]? = some z' → PyData.eqv z' p = false := by
  unfold firstEq at h
  rw [List.findIdx?_eq_some_iff_getElem] at h
  obtain ⟨hj, h1, h2⟩ := h
  refine ⟨ps[j], List.getElem?_eq_getElem hj, h1, fun m z' hm hz => ?_⟩
  have hml : m < ps.length := by omega
  have := h2 m hm
  rw [List.getElem?_eq_getElem hml] at hz
  cases hz
  simpa using this
theorem mts_index {g : G0} : MtS g E gIndex (rIndexD g.K) := fun m H st d ds x vs Q rs rx rv fin => by
  unfold gIndex at fin
  split at fin
  · split at fin
    · rename_i hl
      split at fin
      · rename_i ps p hps hp
        split at fin
        · rename_i hs
          split at fin
          · rename_i j hj
            cases rv with
            | cons r1 r2 =>
              cases r2
              obtain ⟨a, rfl, hd⟩ := lst_dp rs rx hl hps
              obtain ⟨z, h1, h2, h3⟩ := firstEq_ok hj
              exact ⟨a, _, p, ps, j, z, rfl, rfl, hd, r1.dp hp, hs.1, hs.2, h1, h2, h3, fin.here rs _ (.int _)⟩
          · exact fin.elim
        · exact fin.elim
      · exact fin.elim
    · exact fin.elim
  · exact fin.elim
theorem si_index (hu : X.A.units + 65 < cLine) (ho : SI ct X E o O) (ha : SA ct X E (e :: es) L) (hbase : attributeBase o "index" X.env (eval o X.env) = eval o X.env := by rfl)
    (hfew : ((backTo pos (starEach (e :: es) X.env)).all (fun x => !x.1) && (backToKw pos (keywordEach [] X.env)).all (fun x => x.1.isSome)
      && decide ((e :: es).length + ([] : List Keyword).length + (if ([] : List Keyword).isEmpty then 0 else 1) < 30)) = true := by rfl)
    (hline : (apos.endLine == pos.line) = true := by rfl) (hs : starEach (e :: es) X.env = (false, eval e X.env) :: starEach es X.env := by rfl) (hplain : (backTo pos (starEach es X.env)).any (·.1) = false := by rfl) : SI ct X E (.Call (.Attribute o "index" apos) (e :: es) [] pos) (iMethR gIndex O L) :=
  si_methR mts_index (pe_bm PySem.F.plainAttrs_list PySem.F.slot_list_index PySem.F.type_list_index (mt_indexD hu) ho.pe ha.pa hbase hfew hline hs hplain)
/-- y in l, by data -/
def gInP (neg : Bool) : D → D → Sto → Rs D := fun y d st => if isLst2 st d = true then (match pdL st d, pdP y with
    | some ps, some p => if SeqAt.shaped (.list ps) = true ∧ SeqAt.shaped p = true then .ok (.bl ((ps.any fun z => PyData.eqv z p) != neg)) st else .bad
    | _, _ => .bad) else .bad
theorem ops_inP {g : G0} : OpS g E (gInP false) (rInD g.K) := by
  intro m H st y d v x Q rs ry rx fin
  unfold gInP at fin
  split at fin
  · rename_i hl
    split at fin
    · rename_i ps p hps hp
      split at fin
      · rename_i hs
        obtain ⟨a, rfl, hd⟩ := lst_dp rs rx hl hps
        refine ⟨p, ps, ry.dp hp, hd, hs.2, hs.1, ?_⟩
        have := fin.here rs _ (.bl _)
        simpa using this
      · exact fin.elim
    · exact fin.elim
  · exact fin.elim
theorem ops_notInP {g : G0} : OpS g E (gInP true) (rNotInD g.K) := by
  intro m H st y d v x Q rs ry rx fin
  unfold gInP at fin
  split at fin
  · rename_i hl
    split at fin
    · rename_i ps p hps hp
      split at fin
      · rename_i hs
        obtain ⟨a, rfl, hd⟩ := lst_dp rs rx hl hps
        refine ⟨p, ps, ry.dp hp, hd, hs.2, hs.1, ?_⟩
        have := fin.here rs _ (.bl _)
        simpa using this
      · exact fin.elim
    · exact fin.elim
  · exact fin.elim
theorem c_inP (hu : X.A.units + 65 < cLine) : CmpR ct X E .In (gInP false) := ⟨_, op_inD hu, ops_inP⟩
theorem c_notinP (hu : X.A.units + 65 < cLine) : CmpR ct X E .NotIn (gInP true) := ⟨_, op_notInD hu, ops_notInP⟩
end
theorem _root_.L2.Room.u1 {k : Nat} {A : Around} (r : Room k A) : A.units + 1 < cLine := by have := r.un; omega
theorem _root_.L2.Room.u65 {k : Nat} {A : Around} (r : Room k A) : A.units + 65 < cLine := by have := r.un; omega
end QI

/-! tuple * int, few times -/
namespace QI
open PySem PySem.Spec PyProof.Rows L2
theorem tuple_mul1 (l : Addr) (items : Array Value) (n : Nat) (dd : Option Addr) (sl : Array (Option Value)) (x : Int) (u : Tok) (c0 : (decide (x < -(2 ^ 63)) || decide (x ≥ 2 ^ 63)) = false) (c1 : (items.isEmpty || x == 1) = true) :
    Meets (Builtin.«tuple.__mul__» ⟨[.ref l, .int x u], []⟩) (fun _ R s => s.heap.get? l = some { cls := .type "tuple", dict := dd, data := .seq items n, slots := sl } ∧ R (.ok (.ret (Value.ref l))) s) :=
  .of_wp fun prog w A R s h => by
    obtain ⟨hp, g, d, tk, os⟩ := s
    obtain ⟨hl, h⟩ := h
    have f1 := AutoSeq1.idx_int
    wp_walk using wpAny_loadPart' hl
    repeat (first
      | (refine wpAny_ite_false (decide_eq_false (by rw [c0]; exact Bool.false_ne_true)) ?_; wp_walk using wpAny_loadPart' hl)
      | (refine wpAny_ite_true (decide_eq_true c1) ?_; wp_walk using wpAny_loadPart' hl))
    exact ⟨_, rfl, h⟩
theorem tuple_mul0 (l : Addr) (items : Array Value) (n : Nat) (dd : Option Addr) (sl : Array (Option Value)) (x : Int) (u : Tok) (c0 : (decide (x < -(2 ^ 63)) || decide (x ≥ 2 ^ 63)) = false) (c1 : (items.isEmpty || x == 1) = false) (c2 : (decide (x ≤ 0) || items.isEmpty) = true) :
    Meets (Builtin.«tuple.__mul__» ⟨[.ref l, .int x u], []⟩) (fun _ R s => s.heap.get? l = some { cls := .type "tuple", dict := dd, data := .seq items n, slots := sl } ∧
      R (.ok (.ret (Value.ref s.heap.objs.size))) { s with heap := s.heap.push { cls := Value.type "tuple", data := Data.seq #[] }, toks := s.toks }) :=
  .of_wp fun prog w A R s h => by
    obtain ⟨hp, g, d, tk, os⟩ := s
    obtain ⟨hl, h⟩ := h
    have f1 := AutoSeq1.idx_int
    wp_walk using wpAny_loadPart' hl
    repeat (first
      | (refine wpAny_ite_false (decide_eq_false (by rw [c0]; exact Bool.false_ne_true)) ?_; wp_walk using wpAny_loadPart' hl)
      | (refine wpAny_ite_false (decide_eq_false (by rw [c1]; exact Bool.false_ne_true)) ?_; wp_walk using wpAny_loadPart' hl)
      | (refine wpAny_ite_true (decide_eq_true c2) ?_; wp_walk using wpAny_loadPart' hl))
    exact ⟨_, rfl, h⟩
def rRepS (K : PySem.W.Frag) : R2 := fun x y H Q => ∃ l k xs, x = .ref l ∧ y = .int k ∧ SqT K H l xs ∧ -(2 ^ 63) ≤ k ∧ k < 2 ^ 63 ∧ (((xs = [] ∨ k = 1) ∧ Q (.ref l) H) ∨ (xs ≠ [] ∧ k ≤ 0 ∧ ∀ p, H p = none → Q (.ref p) (upd H p (.tup []))))
section
variable {X : Cx}
theorem op_repS : OpR X (binaryOp .Mult) (rRepS X.K) := by
  intro pins s σ H x y v u Q I rx ry h
  obtain ⟨l, k, xs, rfl, rfl, hT, h1, h2, h⟩ := h
  cases rx
  obtain ⟨t, rfl⟩ := ry
  obtain ⟨its, r, ⟨⟨cls, dd, data, sl⟩, ho, hc, n, hd⟩, hs⟩ := I.tuple hT
  simp only at hc hd
  subst hc hd
  have hle : its.length = xs.length := r.length.symm
  have c0 : (decide (k < -(2 ^ 63)) || decide (k ≥ 2 ^ 63)) = false := by
    rw [decide_eq_false (by omega), decide_eq_false (by omega)] <;> rfl
  have he : its.toArray.isEmpty = xs.isEmpty := by
    cases its with
    | nil => cases xs with
      | nil => rfl
      | cons a b => simp at hle
    | cons a b => cases xs with
      | nil => simp at hle
      | cons a b => rfl
  rcases h with ⟨h3, q⟩ | ⟨h3, h4, q⟩
  · have c1 : (its.toArray.isEmpty || k == 1) = true := by
      rw [he]
      rcases h3 with rfl | rfl
      · rfl
      · simp
    exact wpAny_binaryOp_repeat_ref (T := "tuple") (U := "int") (by decide) ⟨_, ho, rfl⟩ (fun s' => typeIs_int s' k t) noFill_tuple_mul F.fills_int_mul F.slot_int_rmul repeat_tuple F.slot_int_index.lookup
      (call_meets F.slot_int_rmul (typeIs_int s k t) F.entry_int_rmul (F.args_int_rmul_2 _ _) (int_rmul_tuple k t l its.toArray n dd sl)
        ⟨ho, rfl, ⟨_, ho, rfl⟩, call_meets F.slot_tuple_mul ⟨_, ho, rfl⟩ F.entry_tuple_mul (F.args_tuple_mul_2 _ _) (tuple_mul1 l its.toArray n dd sl k t c0 c1) ⟨ho, ⟨.ref l, H, I, rfl, q⟩⟩⟩)
  · have hx : xs.isEmpty = false := by
      cases xs with
      | nil => exact absurd rfl h3
      | cons a b => rfl
    have c1 : (its.toArray.isEmpty || k == 1) = false := by
      rw [he, hx, Bool.false_or]
      exact beq_eq_false_iff_ne.mpr (by omega)
    have c2 : (decide (k ≤ 0) || its.toArray.isEmpty) = true := by rw [decide_eq_true h4]; rfl
    refine wpAny_binaryOp_repeat_ref (T := "tuple") (U := "int") (by decide) ⟨_, ho, rfl⟩ (fun s' => typeIs_int s' k t) noFill_tuple_mul F.fills_int_mul F.slot_int_rmul repeat_tuple F.slot_int_index.lookup
      (call_meets F.slot_int_rmul (typeIs_int s k t) F.entry_int_rmul (F.args_int_rmul_2 _ _) (int_rmul_tuple k t l its.toArray n dd sl)
        ⟨ho, rfl, ⟨_, ho, rfl⟩, call_meets F.slot_tuple_mul ⟨_, ho, rfl⟩ F.entry_tuple_mul (F.args_tuple_mul_2 _ _) (tuple_mul0 l its.toArray n dd sl k t c0 c1 c2) ⟨ho, ?_⟩⟩)
    have hf := I.hok.fresh (Nat.le_refl s.heap.objs.size)
    refine ⟨.ref s.heap.objs.size, upd H s.heap.objs.size (.tup []), I.laid (t' := s.toks) (fun b u e => Heap.get?_push_of_some _ e) (Nat.le_refl _) ?_, rfl, q _ hf⟩
    exact ⟨Nat.zero_le _, [], .nil, ⟨_, Heap.get?_push_size _ rfl, rfl, _, rfl⟩⟩
end
def gMulT : D → D → Sto → Rs D := fun d e st => match d, e with
  | .tup xs, .int k => if -(2 ^ 63) ≤ k ∧ k < 2 ^ 63 then
      (if xs.isEmpty = true ∨ k = 1 then .ok (.tup xs) st else if k ≤ 0 then .ok (.tup []) st else if k ≤ 1000 ∧ xs.length ≤ 1000 then .ok (.tup (List.replicate k.toNat xs).flatten) st else .bad) else .bad
  | _, _ => .bad
theorem ops_mulT {E : EK} {g : G0} : OpS g E gMulT (fun x y H Q => rRepS g.K x y H Q ∨ rRepT g.K x y H Q) := by
  intro m H st d e x y Q rs rx ry fin
  unfold gMulT at fin
  split at fin
  · rename_i xs k
    cases ry
    cases rx with
    | @tup a vs _ h1 h2 =>
      have hem : vs = [] ↔ xs.isEmpty = true := by
        have := h2.length
        constructor
        · rintro rfl
          cases xs with
          | nil => rfl
          | cons _ _ => simp at this
        · intro z
          cases xs with
          | nil => cases vs with
            | nil => rfl
            | cons _ _ => simp at this
          | cons _ _ => cases z
      split at fin
      · rename_i hk
        split at fin
        · rename_i hz
          exact .inl ⟨_, k, vs, rfl, rfl, h1.sq, hk.1, hk.2, .inl ⟨hz.imp hem.mpr id, fin.here rs _ (.tup h1 h2)⟩⟩
        · rename_i hz
          split at fin
          · rename_i h0
            refine .inl ⟨_, k, vs, rfl, rfl, h1.sq, hk.1, hk.2, .inr ⟨fun z => hz (.inl (hem.mp z)), h0, ?_⟩⟩
            exact tup_new rs .nil fin
          · split at fin
            · rename_i h0 hb
              refine .inr ⟨_, k, vs, rfl, rfl, h1.sq, fun z => hz (.inl (hem.mp z)), ?_, hb.1, by rw [← h2.length]; exact hb.2, ?_⟩
              · have : ¬ k = 1 := fun z => hz (.inr z)
                omega
              · exact tup_new rs (h2.flat _) fin
            · exact fin.elim
      · exact fin.elim
  · exact fin.elim
section
variable {ct : String → Addr} {X : Cx} {E : EK} {pos : Pos} {a b : Expr} {A B : IE}
def isTup : D → Bool
  | .tup _ => true
  | _ => false
/-- a * b, of numbers, lists and tuples -/
def gMulA : D → D → Sto → Rs D := gOr (fun _ d _ => isTup d) gMulT gMul
theorem si_mulA (ha : SI ct X E a A) (hb : SI ct X E b B) : SI ct X E (.BinOp a .Mult b pos) (iBin gMulA A B) :=
  si_bin ((op_repS.or op_repT).or (op_mul.or op_rep)) (ops_or ops_mulT ops_mul) ha hb
@[simp] theorem gMulA_tup (xs : List D) (e : D) (st : Sto) : gMulA (.tup xs) e st = gMulT (.tup xs) e st := id rfl
@[simp] theorem gMulA_int (i : Int) (e : D) (st : Sto) : gMulA (.int i) e st = gMul (.int i) e st := id rfl
end
end QI

/-! equations for evaluation -/
namespace QI
open PySem PySem.Spec PyProof.Rows L2
section
variable {env : Ev} {st : Sto} {A B C : IE} {L L' : IL} {T U : IT} {S R : IS}
@[simp] theorem ev_var (i : Nat) : iVar i env st = match env[i]? with | some (some d) => .ok d st | _ => .bad := id rfl
@[simp] theorem ev_C (d : D) : iC d env st = .ok d st := id rfl
@[simp] theorem ev_bin (f : D → D → Sto → Rs D) : iBin f A B env st = (A env st).bind fun d st1 => (B env st1).bind fun e st2 => f d e st2 := id rfl
@[simp] theorem ev_un (f : D → Sto → Rs D) : iUn f A env st = (A env st).bind f := id rfl
@[simp] theorem ev_test : iTest A env st = (A env st).bind toB := id rfl
@[simp] theorem ev_chain (f f' : D → D → Sto → Rs D) : iChain f f' A B C env st = (A env st).bind fun d st1 => (B env st1).bind fun e st2 => (f d e st2).bind fun k st3 => match k with
  | .bl true => (C env st3).bind fun c st4 => f' e c st4
  | .bl false => .ok (.bl false) st3
  | _ => .bad := id rfl
@[simp] theorem ev_tru : iTru A env st = (A env st).bind fun d st1 => fT (gTru st1 d) st1 := id rfl
@[simp] theorem ev_and : iAnd T U env st = (T env st).bind fun b st1 => if b = true then U env st1 else .ok false st1 := id rfl
@[simp] theorem ev_or : iOr T U env st = (T env st).bind fun b st1 => if b = true then .ok true st1 else U env st1 := id rfl
@[simp] theorem ev_not : iNot T env st = (T env st).bind fun b st1 => .ok (!b) st1 := id rfl
@[simp] theorem ev_if : iIf T A B env st = (T env st).bind fun b st1 => if b = true then A env st1 else B env st1 := id rfl
@[simp] theorem ev_andV : iAndV A B env st = (A env st).bind fun d st1 => match gTru st1 d with
  | some true => B env st1
  | some false => .ok d st1
  | none => .bad := id rfl
@[simp] theorem ev_orV : iOrV A B env st = (A env st).bind fun d st1 => match gTru st1 d with
  | some true => .ok d st1
  | some false => B env st1
  | none => .bad := id rfl
@[simp] theorem ev_notV : iNotV A env st = (A env st).bind fun d st1 => fB ((gTru st1 d).map (!·)) st1 := id rfl
@[simp] theorem ev_nil : iNil env st = .ok [] st := id rfl
@[simp] theorem ev_cons : iCons A L env st = (A env st).bind fun d st1 => (L env st1).bind fun ds st2 => .ok (d :: ds) st2 := id rfl
@[simp] theorem ev_rol : iRol L env st = (L env st).bind fun ds st1 => .ok (.rol ds) st1 := id rfl
@[simp] theorem ev_cell : iCell L env st = (L env st).bind fun ds st1 => .ok (.ref st1.length) (st1 ++ [.lst ds]) := id rfl
@[simp] theorem ev_tup : iTup L env st = (L env st).bind fun ds st1 => if ds.length ≤ 16777216 then .ok (.tup ds) st1 else .bad := id rfl
@[simp] theorem ev_lst : iLst L env st = (L env st).bind fun ds st1 => if ds.length ≤ 16777216 then .ok ds st1 else .bad := id rfl
@[simp] theorem ev_binL (f : D → D → Sto → Rs D) : iBinL f A B env st = (A env st).bind fun d st1 => (B env st1).bind fun e st2 => fLst f d e st2 := id rfl
@[simp] theorem ev_oNone : oNone env st = .ok none st := id rfl
@[simp] theorem ev_oSome : oSome A env st = (A env st).bind fun d st1 => match d with
  | .int i => .ok (some i) st1
  | _ => .bad := id rfl
@[simp] theorem ev_sl (lo hi : IO) : iSl A lo hi env st = (A env st).bind fun d st1 => (lo env st1).bind fun l st2 => (hi env st2).bind fun h st3 => gSl d l h st3 := id rfl
@[simp] theorem ev_callB (f : List D → Sto → Rs D) : iCallB f L env st = (L env st).bind f := id rfl
@[simp] theorem ev_listOf : iListOf L env st = (L env st).bind fun ds st1 => match ds with
  | [d] => match seqAt st1 d with
    | some xs => .ok xs st1
    | none => .bad
  | _ => .bad := id rfl
@[simp] theorem ev_listRange : iListRange A env st = (A env st).bind fun d st1 => match d with
  | .int n => if n ≤ 16777216 ∧ 0 ≤ n then .ok ((List.range n.toNat).map fun i => .int (i : Nat)) st1 else .bad
  | _ => .bad := id rfl
@[simp] theorem ev_meth (f : D → List D → Sto → Rs D) : iMeth f A L env st = (A env st).bind fun d st1 => if isLst st1 d = true then (L env st1).bind fun ds st2 => f d ds st2 else .bad := id rfl
@[simp] theorem ev_call (n : Nat) (G : List D → Sto → Rs D) (dds : List D) : iCall n G dds L env st = (L env st).bind fun ds st1 => if ds.length = n then (G (ds ++ dds) st1).strict else .bad := id rfl
@[simp] theorem ev_callKn (n l : Nat) (G : List D → Sto → Rs D) : iCallKn n l G L L' env st = (L env st).bind fun ds st1 => (L' env st1).bind fun es st2 => if ds.length = n ∧ es.length = l then (G (ds ++ es) st2).strict else .bad := id rfl
@[simp] theorem ev_comp (fin : List D → Sto → Rs D) (n : Nat) (W : IW) (p : Pt) (vs : List Nat) : iComp fin n W p T A vs env st = (W env st).bind fun wk st1 => compGo wk p T A vs env fin n 0 [] st1 := id rfl
@[simp] theorem ev_yes : iYes env st = .ok true st := id rfl
@[simp] theorem ev_walk : iWalk A env st = (A env st).bind fun d st1 => fW (seqWk st1 d) st1 := id rfl
@[simp] theorem ev_walkC (f : List D → Sto → Rs Wk) : iWalkC f L env st = (L env st).bind f := id rfl
@[simp] theorem ev_sNil : sNil env st = .ok (.nx env) st := id rfl
@[simp] theorem ev_sSeq : sSeq S R env st = (S env st).bind fun fl st1 => match fl with
  | .nx env1 => R env1 st1
  | fl => .ok fl st1 := id rfl
@[simp] theorem ev_sBreak : sBreak env st = .ok (.bk env) st := id rfl
@[simp] theorem ev_sCont : sCont env st = .ok (.ct env) st := id rfl
@[simp] theorem ev_sRet : sRet A env st = (A env st).bind fun d st1 => .ok (.rt d) st1 := id rfl
@[simp] theorem ev_sRetN : sRetN env st = .ok (.rt .non) st := id rfl
@[simp] theorem ev_sDrop : sDrop A env st = (A env st).bind fun _ st1 => .ok (.nx env) st1 := id rfl
@[simp] theorem ev_sIf : sIf T S R env st = (T env st).bind fun b st1 => if b = true then S env st1 else R env st1 := id rfl
@[simp] theorem ev_sSet (i : Nat) : sSet i A env st = (A env st).bind fun d st1 => .ok (.nx (env.set i (some d))) st1 := id rfl
@[simp] theorem ev_sPar (is : List Nat) : sPar is L env st = (L env st).bind fun ds st1 => if ds.length = is.length then .ok (.nx ((is.zip ds).foldl (fun e p => e.set p.1 (some p.2)) env)) st1 else .bad := id rfl
@[simp] theorem ev_sAsg (p : Pt) : sAsg p A env st = (A env st).bind fun d st1 => match p.put d env with
  | some env1 => .ok (.nx env1) st1
  | none => .bad := id rfl
@[simp] theorem ev_sWhile (n : Nat) : sWhile n T S env st = whileGo T S n env st := id rfl
@[simp] theorem ev_sFor (n : Nat) (W : IW) (p : Pt) : sFor n W p S env st = (W env st).bind fun wk st1 => forGo wk p S n 0 env st1 := id rfl
@[simp] theorem ev_sSetIx : sSetIx A B C env st = (C env st).bind fun v st1 => (A env st1).bind fun o st2 => (B env st2).bind fun i st3 => (gSetIx o i v st3).bind fun _ st4 => .ok (.nx env) st4 := id rfl
@[simp] theorem ev_sAug (i : Nat) (f : D → D → Sto → Rs D) : sAug i f A env st = match env[i]? with
  | some (some d) => (A env st).bind fun e st1 => (f d e st1).bind fun r st2 => .ok (.nx (env.set i (some r))) st2
  | _ => .bad := id rfl
@[simp] theorem put_nm (i : Nat) (d : D) : (Pt.nm i).put d env = some (env.set i (some d)) := by simp only [Pt.put]
@[simp] theorem put_tp (ps : List Pt) (ds : List D) : (Pt.tp ps).put (.tup ds) env = Pt.puts ps ds env := by simp only [Pt.put]
@[simp] theorem puts_nil : Pt.puts [] [] env = some env := by simp only [Pt.puts]
@[simp] theorem puts_cons (p : Pt) (ps : List Pt) (d : D) (ds : List D) : Pt.puts (p :: ps) (d :: ds) env = match p.put d env with
  | some env' => Pt.puts ps ds env'
  | none => none := by cases h : p.put d env <;> simp only [Pt.puts, h]
end
/-! values -/
section
variable {st : Sto}
@[simp] theorem toB_bl (b : Bool) : toB (.bl b) st = .ok b st := id rfl
@[simp] theorem fT_some (b : Bool) : fT (some b) st = .ok b st := id rfl
@[simp] theorem fB_some (b : Bool) : fB (some b) st = .ok (.bl b) st := id rfl
@[simp] theorem fW_some (w : Wk) : fW (some w) st = .ok w st := id rfl
@[simp] theorem gAdd_int (i j : Int) : gAdd (.int i) (.int j) st = .ok (.int (i + j)) st := id rfl
@[simp] theorem gAdd_tup (xs ys : List D) : gAdd (.tup xs) (.tup ys) st = if xs.length + ys.length ≤ 16777216 then .ok (.tup (xs ++ ys)) st else .bad := id rfl
@[simp] theorem gAdd_rol (xs ys : List D) : gAdd (.rol xs) (.rol ys) st = if xs.length + ys.length ≤ 16777216 then .ok (.rol (xs ++ ys)) st else .bad := id rfl
@[simp] theorem gSub_int (i j : Int) : gSub (.int i) (.int j) st = .ok (.int (i - j)) st := id rfl
@[simp] theorem gMul_int (i j : Int) : gMul (.int i) (.int j) st = if i.natAbs < 2 ^ 64 ∨ j.natAbs < 2 ^ 64 then .ok (.int (i * j)) st else .bad := id rfl
@[simp] theorem gFdiv_int (i j : Int) : gFdiv (.int i) (.int j) st = if 0 < j ∧ j.natAbs.log2 < 9000 then .ok (.int (i / j)) st else .bad := id rfl
@[simp] theorem gMod_int (i j : Int) : gMod (.int i) (.int j) st = if 0 < j then .ok (.int (i % j)) st else .bad := id rfl
@[simp] theorem gPow_int (i j : Int) : gPow (.int i) (.int j) st = if 0 ≤ j ∧ j ≤ 1000000 ∧ i.natAbs < 2 ^ 64 then .ok (.int (i ^ j.toNat)) st else .bad := id rfl
@[simp] theorem gXor_int (i j : Int) : gXor (.int i) (.int j) st = .ok (.int (Builtin.bitXor i j)) st := id rfl
@[simp] theorem gAnd_int (i j : Int) : gAnd (.int i) (.int j) st = .ok (.int (Builtin.bitAnd i j)) st := id rfl
@[simp] theorem gNeg_int (i : Int) : gNeg (.int i) st = .ok (.int (-i)) st := id rfl
@[simp] theorem gLt_int (i j : Int) : gLt (.int i) (.int j) st = .ok (.bl (decide (i < j))) st := id rfl
@[simp] theorem gLe_int (i j : Int) : gLe (.int i) (.int j) st = .ok (.bl (decide (i ≤ j))) st := id rfl
@[simp] theorem gGt_int (i j : Int) : gGt (.int i) (.int j) st = .ok (.bl (decide (j < i))) st := id rfl
@[simp] theorem gGe_int (i j : Int) : gGe (.int i) (.int j) st = .ok (.bl (decide (j ≤ i))) st := id rfl
@[simp] theorem gEqE_int (i j : Int) : gEqE (.int i) (.int j) st = .ok (.bl (decide (i = j))) st := id rfl
@[simp] theorem gEqE_str (i j : Str) : gEqE (.str i) (.str j) st = .ok (.bl (decide (i = j))) st := id rfl
@[simp] theorem gEqE_bl (i j : Bool) : gEqE (.bl i) (.bl j) st = .ok (.bl (decide (i = j))) st := id rfl
@[simp] theorem gNeE_int (i j : Int) : gNeE (.int i) (.int j) st = .ok (.bl (!decide (i = j))) st := id rfl
@[simp] theorem gNeE_str (i j : Str) : gNeE (.str i) (.str j) st = .ok (.bl (!decide (i = j))) st := id rfl
@[simp] theorem gIsB_non (d : D) : gIsB d .non st = .ok (.bl d.isNon) st := by cases d <;> rfl
@[simp] theorem gIsB_bl (a b : Bool) : gIsB (.bl a) (.bl b) st = .ok (.bl (decide (a = b))) st := id rfl
@[simp] theorem gIsB_int (a : Int) (b : Bool) : gIsB (.int a) (.bl b) st = .ok (.bl false) st := id rfl
@[simp] theorem gIsB_str (a : Str) (b : Bool) : gIsB (.str a) (.bl b) st = .ok (.bl false) st := id rfl
@[simp] theorem gIsB_tup (a : List D) (b : Bool) : gIsB (.tup a) (.bl b) st = .ok (.bl false) st := id rfl
@[simp] theorem gIsB_nonb (b : Bool) : gIsB .non (.bl b) st = .ok (.bl false) st := id rfl
@[simp] theorem gIsNot_non (d : D) : gIsNot d .non st = .ok (.bl (!d.isNon)) st := id rfl
@[simp] theorem isNon_non : D.isNon .non = true := id rfl
@[simp] theorem isNon_int (i : Int) : D.isNon (.int i) = false := id rfl
@[simp] theorem isNon_bl (i : Bool) : D.isNon (.bl i) = false := id rfl
@[simp] theorem isNon_str (i : Str) : D.isNon (.str i) = false := id rfl
@[simp] theorem isNon_tup (i : List D) : D.isNon (.tup i) = false := id rfl
@[simp] theorem gIsi_int (T : String) (i : Int) : gIsi T (.int i) st = .ok (.bl (isK "int" T)) st := id rfl
@[simp] theorem gIsi_bl (T : String) (i : Bool) : gIsi T (.bl i) st = .ok (.bl (isK "bool" T)) st := id rfl
@[simp] theorem gIsi_str (T : String) (i : Str) : gIsi T (.str i) st = .ok (.bl (isK "str" T)) st := id rfl
@[simp] theorem gIsi_non (T : String) : gIsi T .non st = .ok (.bl (isK "NoneType" T)) st := id rfl
@[simp] theorem gIsi_tup (T : String) (i : List D) : gIsi T (.tup i) st = .ok (.bl (isK "tuple" T)) st := id rfl
@[simp] theorem gTru_bl (b : Bool) : gTru st (.bl b) = some b := id rfl
@[simp] theorem gTru_int (i : Int) : gTru st (.int i) = some (i != 0) := id rfl
@[simp] theorem gTru_non : gTru st .non = some false := id rfl
@[simp] theorem seqAt_tup (xs : List D) : seqAt st (.tup xs) = some xs := id rfl
@[simp] theorem seqAt_rol (xs : List D) : seqAt st (.rol xs) = some xs := id rfl
@[simp] theorem seqAt_scr (xs : List D) : seqAt st (.scr xs) = some xs := id rfl
theorem seqAt_ref {n : Nat} {xs : List D} (h : st[n]? = some (.lst xs)) : seqAt st (.ref n) = some xs := by simp only [seqAt, h]
theorem listAt_ref {n : Nat} {xs : List D} (h : st[n]? = some (.lst xs)) : listAt st (.ref n) = some xs := by simp only [listAt, h]
@[simp] theorem listAt_rol (xs : List D) : listAt st (.rol xs) = some xs := id rfl
theorem isLst_ref {n : Nat} {xs : List D} (h : st[n]? = some (.lst xs)) : isLst st (.ref n) = true := by simp only [isLst, h]
@[simp] theorem gLen_tup (xs : List D) : gLen [.tup xs] st = .ok (.int xs.length) st := id rfl
@[simp] theorem gLen_rol (xs : List D) : gLen [.rol xs] st = .ok (.int xs.length) st := id rfl
@[simp] theorem gLen_scr (xs : List D) : gLen [.scr xs] st = .ok (.int xs.length) st := id rfl
theorem gLen_ref {n : Nat} {xs : List D} (h : st[n]? = some (.lst xs)) : gLen [.ref n] st = .ok (.int xs.length) st := by
  simp only [gLen, seqAt_ref h]
@[simp] theorem gTuple_tup (xs : List D) : gTuple [.tup xs] st = .ok (.tup xs) st := id rfl
@[simp] theorem gTuple_rol (xs : List D) : gTuple [.rol xs] st = .ok (.tup xs) st := id rfl
theorem gTuple_ref {n : Nat} {xs : List D} (h : st[n]? = some (.lst xs)) : gTuple [.ref n] st = .ok (.tup xs) st := by
  simp only [gTuple, seqAt_ref h]
@[simp] theorem gInt_int (i : Int) : gInt [.int i] st = .ok (.int i) st := id rfl
@[simp] theorem gAbs_int (i : Int) : gAbs [.int i] st = .ok (.int (if i < 0 then -i else i)) st := id rfl
@[simp] theorem gMax_2 (i j : Int) : gMax [.int i, .int j] st = .ok (.int (if j > i then j else i)) st := id rfl
@[simp] theorem gMin_2 (i j : Int) : gMin [.int i, .int j] st = .ok (.int (if j < i then j else i)) st := id rfl
@[simp] theorem gSum_ints (ns : List Int) : gSum [.rol (ns.map D.int)] st = .ok (.int ns.sum) st := by simp [gSum]
theorem gIx_nat {d : D} {xs : List D} {i : Nat} {v : D} (h : seqAt st d = some xs) (hi : xs[i]? = some v) : gIx d (.int (i : Nat)) st = .ok v st := by
  unfold gIx
  cases d with
  | str z => cases h
  | _ => simp only [h, atI_nat hi]
@[simp] theorem gSl_tup (xs : List D) (lo hi : Option Int) : gSl (.tup xs) lo hi st = .ok (.tup (cut xs lo hi)) st := id rfl
@[simp] theorem gSl_rol (xs : List D) (lo hi : Option Int) : gSl (.rol xs) lo hi st = .ok (.rol (cut xs lo hi)) st := id rfl
theorem gSl_ref {n : Nat} {xs : List D} (h : st[n]? = some (.lst xs)) (lo hi : Option Int) : gSl (.ref n) lo hi st = .ok (.rol (cut xs lo hi)) st := by
  unfold gSl
  simp only [seqAt_ref h]
theorem cut_nat {α : Type} (xs : List α) (a b : Nat) : cut xs (some (a : Int)) (some (b : Int)) = (xs.drop (min a xs.length)).take (min b xs.length - min a xs.length) := by
  unfold cut
  rw [HT.sIx_nat, HT.sIx_nat]
theorem cut_seg {α : Type} (xs : List α) {a b : Nat} (hab : a ≤ b) (hb : b ≤ xs.length) : cut xs (some (a : Int)) (some (b : Int)) = (xs.drop a).take (b - a) := by
  rw [cut_nat, Nat.min_eq_left hb, Nat.min_eq_left (Nat.le_trans hab hb)]
theorem cut_to {α : Type} (xs : List α) (b : Nat) : cut xs none (some (b : Int)) = xs.take b := by
  unfold cut
  rw [HT.sIx_none, HT.sIx_nat, List.drop_zero, Nat.sub_zero]
  by_cases h : b ≤ xs.length
  · rw [Nat.min_eq_left h]
  · rw [Nat.min_eq_right (by omega), List.take_of_length_le (Nat.le_refl _), List.take_of_length_le (by omega)]
theorem cut_from {α : Type} (xs : List α) (a : Nat) : cut xs (some (a : Int)) none = xs.drop a := by
  unfold cut
  rw [HT.sIx_none, HT.sIx_nat]
  by_cases h : a ≤ xs.length
  · rw [Nat.min_eq_left h, List.take_of_length_le (by rw [List.length_drop]; omega)]
  · rw [Nat.min_eq_right (by omega), Nat.sub_self, List.drop_eq_nil_of_le (by omega : xs.length ≤ a)]
    simp
theorem gAppend_at {n : Nat} {xs : List D} {e : D} (h : st[n]? = some (.lst xs)) (hz : xs.length < 16777216) : gAppend (.ref n) [e] st = .ok .non (setL st n (xs ++ [e])) := by
  unfold gAppend
  simp only [h, if_pos hz]
theorem gSetIx_at {n : Nat} {xs : List D} {i : Nat} {e : D} (h : st[n]? = some (.lst xs)) (hi : i < xs.length) : gSetIx (.ref n) (.int (i : Nat)) e st = .ok () (setL st n (xs.set i e)) := by
  unfold gSetIx
  have : ixN xs.length (i : Int) = some i := by
    unfold ixN
    rw [if_pos (by omega), if_pos (by omega)]
    simp
  simp only [h, this]
end
/-! loops: the items that are walked -/
section
variable {wk : Wk} {p : Pt} {S : IS} {items : List D}
theorem for_inv (I : Nat → Ev → Sto → Prop) (hw : ∀ i env st, I i env st → wk i st = some items[i]?)
    (hs : ∀ (i : Nat) (d : D) (env : Ev) (st : Sto), items[i]? = some d → I i env st → ∃ env1, p.put d env = some env1 ∧ ∃ e2 st2, (S env1 st = .ok (.nx e2) st2 ∨ S env1 st = .ok (.ct e2) st2) ∧ I (i + 1) e2 st2) :
    ∀ (n i : Nat) (env : Ev) (st : Sto), i ≤ items.length → items.length < n + i → I i env st → ∃ e' st', forGo wk p S n i env st = .ok (.nx e') st' ∧ I items.length e' st'
  | 0, i, env, st, hi, hn, h => by omega
  | n + 1, i, env, st, hi, hn, h => by
    unfold forGo
    rw [hw i env st h]
    cases hd : items[i]? with
    | none =>
      have : items.length ≤ i := List.getElem?_eq_none_iff.mp hd
      have e : i = items.length := by omega
      subst e
      exact ⟨env, st, rfl, h⟩
    | some d =>
      obtain ⟨env1, h1, e2, st2, h2, h3⟩ := hs i d env st hd h
      simp only [h1]
      have hl : i < items.length := lt_of_get hd
      obtain ⟨e', st', h4, h5⟩ := for_inv I hw hs n (i + 1) e2 st2 hl (by omega) h3
      rcases h2 with h2 | h2 <;> (rw [h2]; exact ⟨e', st', h4, h5⟩)
/-- the same from the start, with the fuel that the ties have -/
theorem for_inv0 (I : Nat → Ev → Sto → Prop) (hw : ∀ i env st, I i env st → wk i st = some items[i]?)
    (hs : ∀ (i : Nat) (d : D) (env : Ev) (st : Sto), items[i]? = some d → I i env st → ∃ env1, p.put d env = some env1 ∧ ∃ e2 st2, (S env1 st = .ok (.nx e2) st2 ∨ S env1 st = .ok (.ct e2) st2) ∧ I (i + 1) e2 st2)
    {n : Nat} {env : Ev} {st : Sto} (hn : items.length < n) (h : I 0 env st) : ∃ e' st', forGo wk p S n 0 env st = .ok (.nx e') st' ∧ I items.length e' st' :=
  for_inv I hw hs n 0 env st (Nat.zero_le _) (by omega) h
theorem wkSeq_at (xs : List D) (i : Nat) (st : Sto) : wkSeq xs i st = some xs[i]? := rfl
theorem wkLive_at {n : Nat} {st : Sto} {xs : List D} (h : st[n]? = some (.lst xs)) (i : Nat) : wkLive n i st = some xs[i]? := by unfold wkLive; rw [h]
def rangeD (lo : Int) (n : Nat) : List D := (List.range n).map fun i => .int (lo + (i : Nat))
theorem wkRange_at (lo : Int) (n i : Nat) (st : Sto) : wkRange lo n i st = some (rangeD lo n)[i]? := by
  unfold wkRange rangeD
  by_cases h : i < n
  · rw [if_pos h]; simp [h]
  · rw [if_neg h]; simp [h]
@[simp] theorem rangeD_len (lo : Int) (n : Nat) : (rangeD lo n).length = n := by simp [rangeD]
theorem rangeD_get {lo : Int} {n i : Nat} {d : D} (h : (rangeD lo n)[i]? = some d) : i < n ∧ d = .int (lo + i) := by
  have hl := lt_of_get h
  rw [rangeD_len] at hl
  refine ⟨hl, ?_⟩
  simp only [rangeD, List.getElem?_map, List.getElem?_range hl, Option.map_some, Option.some.injEq] at h
  exact h.symm
def enumD (xs : List D) : List D := xs.mapIdx fun i d => .tup [.int (i : Nat), d]
theorem wkEnum_at {wk : Wk} {xs : List D} {st : Sto} {i : Nat} (h : wk i st = some xs[i]?) : wkEnum wk i st = some (enumD xs)[i]? := by
  unfold wkEnum enumD
  rw [h, List.getElem?_mapIdx]
  cases xs[i]? <;> rfl
@[simp] theorem enumD_len (xs : List D) : (enumD xs).length = xs.length := by simp [enumD]
theorem enumD_get {xs : List D} {i : Nat} {d : D} (h : (enumD xs)[i]? = some d) : ∃ e, xs[i]? = some e ∧ d = .tup [.int (i : Nat), e] := by
  unfold enumD at h
  rw [List.getElem?_mapIdx] at h
  cases q : xs[i]? with
  | none => rw [q] at h; cases h
  | some e => rw [q] at h; cases h; exact ⟨e, rfl, rfl⟩
def zipD (xs ys : List D) : List D := List.zipWith (fun a b => .tup [a, b]) xs ys
theorem wkZip_at {wk wk' : Wk} {xs ys : List D} {st : Sto} {i : Nat} (h : wk i st = some xs[i]?) (h' : wk' i st = some ys[i]?) : wkZip wk wk' i st = some (zipD xs ys)[i]? := by
  unfold wkZip zipD
  rw [h, h', List.getElem?_zipWith]
  cases xs[i]? <;> cases ys[i]? <;> rfl
@[simp] theorem zipD_len (xs ys : List D) : (zipD xs ys).length = min xs.length ys.length := by simp [zipD]
theorem zipD_get {xs ys : List D} {i : Nat} {d : D} (h : (zipD xs ys)[i]? = some d) : ∃ a b, xs[i]? = some a ∧ ys[i]? = some b ∧ d = .tup [a, b] := by
  unfold zipD at h
  rw [List.getElem?_zipWith] at h
  cases q : xs[i]? with
  | none => rw [q] at h; cases h
  | some a =>
    cases q' : ys[i]? with
    | none => rw [q, q'] at h; cases h
    | some b => rw [q, q'] at h; cases h; exact ⟨a, b, rfl, rfl, rfl⟩
/-- a comprehension -/
theorem comp_inv {T : IT} {A : IE} {vs : List Nat} {env : Ev} {fin : List D → Sto → Rs D} (I : Nat → List D → Sto → Prop) (hw : ∀ i acc st, I i acc st → wk i st = some items[i]?)
    (hs : ∀ (i : Nat) (d : D) (acc : List D) (st : Sto), items[i]? = some d → I i acc st → ∃ env1, p.put d (wipeE env vs) = some env1 ∧ ∃ b st1, T env1 st = .ok b st1 ∧
      ((b = false ∧ I (i + 1) acc st1) ∨ (b = true ∧ ∃ y st2, A env1 st1 = .ok y st2 ∧ I (i + 1) (acc ++ [y]) st2))) :
    ∀ (n i : Nat) (acc : List D) (st : Sto), i ≤ items.length → items.length < n + i → acc.length ≤ i → items.length < 16777216 → I i acc st → ∃ acc' st', compGo wk p T A vs env fin n i acc st = fin acc' st' ∧ I items.length acc' st'
  | 0, i, acc, st, hi, hn, _, _, h => by omega
  | n + 1, i, acc, st, hi, hn, ha, hz, h => by
    unfold compGo
    rw [hw i acc st h]
    cases hd : items[i]? with
    | none =>
      have : items.length ≤ i := List.getElem?_eq_none_iff.mp hd
      have e : i = items.length := by omega
      subst e
      exact ⟨acc, st, rfl, h⟩
    | some d =>
      obtain ⟨env1, h1, b, st1, h2, h3⟩ := hs i d acc st hd h
      have hl : i < items.length := lt_of_get hd
      simp only [h1, h2, Rs.strict_ok, Rs.bind_ok]
      rcases h3 with ⟨rfl, h3⟩ | ⟨rfl, y, st2, h3, h4⟩
      · simp only [Bool.false_eq_true, if_false]
        exact comp_inv I hw hs n (i + 1) acc st1 hl (by omega) (by omega) hz h3
      · simp only [if_true, h3, Rs.strict_ok, Rs.bind_ok]
        rw [if_pos (by omega)]
        exact comp_inv I hw hs n (i + 1) (acc ++ [y]) st2 hl (by omega) (by rw [List.length_append]; simp; omega) hz h4
theorem comp_inv0 {T : IT} {A : IE} {vs : List Nat} {env : Ev} {fin : List D → Sto → Rs D} (I : Nat → List D → Sto → Prop) (hw : ∀ i acc st, I i acc st → wk i st = some items[i]?)
    (hs : ∀ (i : Nat) (d : D) (acc : List D) (st : Sto), items[i]? = some d → I i acc st → ∃ env1, p.put d (wipeE env vs) = some env1 ∧ ∃ b st1, T env1 st = .ok b st1 ∧
      ((b = false ∧ I (i + 1) acc st1) ∨ (b = true ∧ ∃ y st2, A env1 st1 = .ok y st2 ∧ I (i + 1) (acc ++ [y]) st2)))
    {n : Nat} {st : Sto} (hn : items.length < n) (hz : items.length < 16777216) (h : I 0 [] st) : ∃ acc' st', compGo wk p T A vs env fin n 0 [] st = fin acc' st' ∧ I items.length acc' st' :=
  comp_inv I hw hs n 0 [] st (Nat.zero_le _) (by omega) (Nat.zero_le _) hz h
/-- a comprehension that changes nothing: by a function of the item (none: left out) -/
theorem comp_pure {T : IT} {A : IE} {vs : List Nat} {env : Ev} {fin : List D → Sto → Rs D} {st : Sto} (f : D → Option D) (hw : ∀ i, wk i st = some items[i]?)
    (hs : ∀ d ∈ items, ∃ env1, p.put d (wipeE env vs) = some env1 ∧ ((f d = none ∧ T env1 st = .ok false st) ∨ ∃ y, f d = some y ∧ T env1 st = .ok true st ∧ A env1 st = .ok y st))
    {n : Nat} (hn : items.length < n) (hz : items.length < 16777216) : compGo wk p T A vs env fin n 0 [] st = fin (items.filterMap f) st := by
  obtain ⟨acc', st', h1, h2, h3⟩ := comp_inv0 (wk := wk) (p := p) (T := T) (A := A) (vs := vs) (env := env) (fin := fin) (items := items) (fun i acc s => s = st ∧ acc = (items.take i).filterMap f) (fun i acc s h => by rw [h.1]; exact hw i)
    (fun i d acc s hd h => by
      obtain ⟨rfl, rfl⟩ := h
      obtain ⟨env1, h1, h2⟩ := hs d (List.mem_of_getElem? hd)
      refine ⟨env1, h1, ?_⟩
      rcases h2 with ⟨h2, h3⟩ | ⟨y, h2, h3, h4⟩
      · exact ⟨false, s, h3, .inl ⟨rfl, rfl, by rw [List.take_add_one, hd]; simp [List.filterMap_append, h2]⟩⟩
      · exact ⟨true, s, h3, .inr ⟨rfl, y, s, h4, rfl, by rw [List.take_add_one, hd]; simp [List.filterMap_append, h2]⟩⟩) hn hz ⟨rfl, rfl⟩
  rw [h1, h2, h3, List.take_length]
end
/-! lists of numbers -/
def tn (ns : List Nat) : D := .tup (ns.map fun n => .int (n : Nat))
def nats? : List D → Option (List Nat)
  | [] => some []
  | .int i :: ds => if 0 ≤ i then match nats? ds with
    | some ns => some (i.toNat :: ns)
    | none => none
    else none
  | _ :: _ => none
@[simp] theorem nats_map : ∀ ns : List Nat, nats? (ns.map fun n => D.int (n : Nat)) = some ns
  | [] => rfl
  | n :: ns => by simp [nats?, nats_map ns]
theorem nats_of : ∀ {ds : List D} {ns : List Nat}, nats? ds = some ns → ds = ns.map fun n => D.int (n : Nat)
  | [], _, h => by cases h; rfl
  | .int i :: ds, ns, h => by
    simp only [nats?] at h
    split at h
    · rename_i hi
      split at h
      · rename_i ms hm
        cases h
        rw [nats_of hm, List.map_cons, Int.toNat_of_nonneg hi]
      · cases h
    · cases h
  | .non :: ds, ns, h => by simp [nats?] at h
  | .bl _ :: ds, ns, h => by simp [nats?] at h
  | .str _ :: ds, ns, h => by simp [nats?] at h
  | .tup _ :: ds, ns, h => by simp [nats?] at h
  | .rol _ :: ds, ns, h => by simp [nats?] at h
  | .scr _ :: ds, ns, h => by simp [nats?] at h
  | .ref _ :: ds, ns, h => by simp [nats?] at h
@[simp] theorem lo_int (n : Nat) (i : Int) : D.lo n (.int i) = true := by simp [D.lo]
@[simp] theorem lo_non (n : Nat) : D.lo n .non = true := by simp [D.lo]
@[simp] theorem lo_bl (n : Nat) (i : Bool) : D.lo n (.bl i) = true := by simp [D.lo]
@[simp] theorem lo_str (n : Nat) (i : Str) : D.lo n (.str i) = true := by simp [D.lo]
@[simp] theorem lo_tup (n : Nat) (xs : List D) : D.lo n (.tup xs) = D.loAll n xs := by simp [D.lo]
@[simp] theorem lo_rol (n : Nat) (xs : List D) : D.lo n (.rol xs) = D.loAll n xs := by simp [D.lo]
@[simp] theorem lo_scr (n : Nat) (xs : List D) : D.lo n (.scr xs) = D.loAll n xs := by simp [D.lo]
@[simp] theorem lo_ref (n k : Nat) : D.lo n (.ref k) = decide (k < n) := by simp [D.lo]
@[simp] theorem loAll_nil (n : Nat) : D.loAll n [] = true := by simp [D.loAll]
@[simp] theorem loAll_cons (n : Nat) (d : D) (ds : List D) : D.loAll n (d :: ds) = (D.lo n d && D.loAll n ds) := by simp [D.loAll]
@[simp] theorem loAll_append (n : Nat) (ds es : List D) : D.loAll n (ds ++ es) = (D.loAll n ds && D.loAll n es) := by
  induction ds with
  | nil => simp
  | cons d ds ih => simp [ih, Bool.and_assoc]
theorem loAll_iff {n : Nat} {ds : List D} : D.loAll n ds = true ↔ ∀ d ∈ ds, D.lo n d = true := by
  induction ds with
  | nil => simp
  | cons d ds ih => simp [ih]
@[simp] theorem loAll_nats (n : Nat) (ns : List Nat) : D.loAll n (ns.map fun k => D.int (k : Nat)) = true := by
  rw [loAll_iff]; intro d hd; obtain ⟨k, _, rfl⟩ := List.mem_map.mp hd; simp
@[simp] theorem loAll_ints (n : Nat) (ns : List Int) : D.loAll n (ns.map D.int) = true := by
  rw [loAll_iff]; intro d hd; obtain ⟨k, _, rfl⟩ := List.mem_map.mp hd; simp
/-! closed stores -/
theorem closed_set {st : Sto} {n : Nat} {c : Cell} (h : Closed st) (hc : c.lo st.length = true) : Closed (st.set n c) := fun d hd => by
  rw [List.length_set]
  rcases List.mem_or_eq_of_mem_set hd with h1 | rfl
  · exact h d h1
  · exact hc
theorem closed_setL {st : Sto} {n : Nat} {xs : List D} (h : Closed st) (hc : D.loAll st.length xs = true) : Closed (setL st n xs) := closed_set h hc
@[simp] theorem setL_len (st : Sto) (n : Nat) (xs : List D) : (setL st n xs).length = st.length := by simp [setL]
theorem setL_get {st : Sto} {n : Nat} {xs : List D} (h : n < st.length) : (setL st n xs)[n]? = some (.lst xs) := by simp [setL, h]
theorem setL_ne {st : Sto} {n k : Nat} {xs : List D} (h : n ≠ k) : (setL st n xs)[k]? = st[k]? := by simp [setL, List.getElem?_set_ne h]
@[simp] theorem setL_setL (st : Sto) (n : Nat) (xs ys : List D) : setL (setL st n xs) n ys = setL st n ys := by simp [setL]
end QI

/-! a call as the run of its body -/
namespace QI
open PySem PySem.Spec PyProof.Rows L2
open Classical in
/-- what a value comes to at the end of a body: its new cells go if nothing holds them -/
noncomputable def trim (st0 : Sto) (d : D) (st' : Sto) : Rs D :=
  if st0.length ≤ st'.length ∧ d.lo st0.length = true ∧ Closed (st'.take st0.length) then .ok d (st'.take st0.length)
  else if st0.length ≤ st'.length ∧ d.lo st'.length = true ∧ Closed st' then .ok d st' else .bad
noncomputable def run (N : List Str) (B : IS) (ds : List D) (st0 : Sto) : Rs D := match B (startE N ds) st0 with
  | .ok (.rt d) st' => trim st0 d st'
  | .ok (.nx _) st' => trim st0 .non st'
  | _ => .bad
theorem trim_ref {st0 st' : Sto} {d : D} {r : Rs Fl} (h : r = .ok (.rt d) st' ∨ (∃ e, r = .ok (.nx e) st') ∧ d = .non) : (∀ e s', trim st0 d st' ≠ .exn e s') ∧ Ref st0 r (trim st0 d st') := by
  unfold trim
  split
  · rename_i hz
    refine ⟨fun e s' q => (nomatch q), ⟨d, st'.drop st0.length, 0, ?_, rfl, by rw [List.length_take, Nat.min_eq_left hz.1]; exact hz.2.1, hz.2.2, by rw [List.length_take, Nat.min_eq_left hz.1]; exact Nat.le_refl _⟩⟩
    rw [List.take_append_drop]
    rcases h with h | ⟨⟨e, h⟩, rfl⟩
    · exact .inl h
    · exact .inr ⟨e, h, rfl⟩
  · split
    · rename_i hz
      refine ⟨fun e s' q => (nomatch q), ⟨d, [], 0, ?_, rfl, hz.2.1, hz.2.2, hz.1⟩⟩
      rw [List.append_nil]
      rcases h with h | ⟨⟨e, h⟩, rfl⟩
      · exact .inl h
      · exact .inr ⟨e, h, rfl⟩
    · exact And.intro (fun e s' q => nomatch q) trivial
theorem run_ref {N : List Str} {B : IS} {ds : List D} {s : Sto} : (∀ e s', run N B ds s ≠ .exn e s') ∧ Ref s (B (startE N ds) s) (run N B ds s) := by
  unfold run
  cases h : B (startE N ds) s with
  | ok fl st' =>
    cases fl with
    | rt d => exact trim_ref (.inl rfl)
    | nx e => exact trim_ref (.inr ⟨⟨e, rfl⟩, rfl⟩)
    | bk e => exact And.intro (fun e s' q => nomatch q) trivial
    | ct e => exact And.intro (fun e s' q => nomatch q) trivial
  | exn e s' => exact And.intro (fun e s' q => nomatch q) trivial
  | bad => exact And.intro (fun e s' q => nomatch q) trivial
mutual
theorem D.lo_mono {n k : Nat} (h : n ≤ k) : ∀ {d : D}, d.lo n = true → d.lo k = true
  | .non, _ => by simp
  | .bl _, _ => by simp
  | .int _, _ => by simp
  | .str _, _ => by simp
  | .tup ds, b => by simp only [lo_tup] at b ⊢; exact D.loAll_mono h b
  | .rol ds, b => by simp only [lo_rol] at b ⊢; exact D.loAll_mono h b
  | .scr ds, b => by simp only [lo_scr] at b ⊢; exact D.loAll_mono h b
  | .ref i, b => by simp only [lo_ref, decide_eq_true_eq] at b ⊢; omega
theorem D.loAll_mono {n k : Nat} (h : n ≤ k) : ∀ {ds : List D}, D.loAll n ds = true → D.loAll k ds = true
  | [], _ => by simp
  | d :: ds, b => by
    simp only [loAll_cons, Bool.and_eq_true] at b ⊢
    exact ⟨D.lo_mono h b.1, D.loAll_mono h b.2⟩
end
theorem Cell.lo_mono {n k : Nat} (h : n ≤ k) {c : Cell} (hc : c.lo n = true) : c.lo k = true := by
  cases c with
  | lst xs => exact D.loAll_mono h hc
  | ins a fs =>
    simp only [Cell.lo, List.all_eq_true] at hc ⊢
    exact fun p hp => D.lo_mono h (hc p hp)
  | dk kvs =>
    simp only [Cell.lo, List.all_eq_true] at hc ⊢
    exact fun p hp => D.lo_mono h (hc p hp)
  | dt kvs =>
    simp only [Cell.lo, List.all_eq_true] at hc ⊢
    exact fun p hp => D.lo_mono h (hc p hp)
section
variable {ct : String → Addr} {P : Program} {w : World} {K : PySem.W.Frag} {mg : Str → Option Value} {base : Heap} {x : Str} {st : Stmt} {f : Addr} {fd : FuncData} {N ps : List Str} {k : Nat} {B : IS} {G : List D → Sto → Rs D}
theorem kn_of (m : mg x = some (.ref f)) (F : Fun K x x st f fd) (S : FnScope N ps (defScope st)) (hG : G = run N B)
    (hB : ∀ (f : Addr) (cdv : Value) (A : Around) (outer : List Env) (s : Shared) (H : Hp) (E : XK), Room k (A.deeper (envOfC x (defScope st) s.heap.objs.size f cdv)) → SSs ct (bodyX P w K mg base N x st f cdv A outer s H E) noE (defBody st) B) : Kn ct P w K mg base x st ps (k + 1) G f fd :=
  ⟨m, F, def_ok F S (fun cdv A outer s H E hr => hB f cdv A outer s H E hr) (fun ds s _ _ _ => by rw [hG]; exact run_ref)⟩
/-- nothing is known of it -/
theorem kn_bad (m : mg x = some (.ref f)) (F : Fun K x x st f fd) (S : FnScope N ps (defScope st)) : Kn ct P w K mg base x st ps k (fun _ _ => .bad) f fd := by
  exact ⟨m, F, ⟨fun vs H Q E h => (by obtain ⟨m, ds, st', h1, h2, _⟩ := h; rw [← h2.length]; exact h1), fun A outer s H args us vs Q E _ _ _ _ hs => (by obtain ⟨m, ds, st', h1, h2, h3, fin⟩ := hs; exact (show False from fin).elim)⟩⟩
theorem Kn.up {j : Nat} (h : Kn ct P w K mg base x st ps j G f fd) (hk : j ≤ k) : Kn ct P w K mg base x st ps k G f fd := ⟨h.m, h.fu, h.ok.mono hk⟩
end
/-- a run that leaves the store as it was -/
theorem run_pure {N : List Str} {B : IS} {ds : List D} {st : Sto} {d : D} (hc : Closed st) (hd : d.lo st.length = true) (h : B (startE N ds) st = .ok (.rt d) st) : run N B ds st = .ok d st := by
  unfold run
  rw [h]
  show trim st d st = _
  unfold trim
  rw [List.take_length, if_pos ⟨Nat.le_refl _, hd, hc⟩]
/-- a run that leaves new cells behind it -/
theorem run_more {N : List Str} {B : IS} {ds : List D} {st j : Sto} {d : D} (hc : Closed st) (hd : d.lo st.length = true) (h : B (startE N ds) st = .ok (.rt d) (st ++ j)) : run N B ds st = .ok d st := by
  unfold run
  rw [h]
  show trim st d (st ++ j) = _
  unfold trim
  rw [List.take_left, if_pos ⟨by simp, hd, hc⟩]
/-- a run that changes the store -/
theorem run_same {N : List Str} {B : IS} {ds : List D} {st st' : Sto} {d : D} (hl : st'.length = st.length) (hc : Closed st') (hd : d.lo st.length = true) (h : B (startE N ds) st = .ok (.rt d) st') : run N B ds st = .ok d st' := by
  unfold run
  rw [h]
  show trim st d st' = _
  unfold trim
  rw [← hl, List.take_length, if_pos ⟨Nat.le_refl _, by rw [hl]; exact hd, hc⟩]
/-- a run that gives a new cell -/
theorem run_cell {N : List Str} {B : IS} {ds : List D} {st : Sto} {xs : List D} (hc : Closed st) (hx : D.loAll (st.length + 1) xs = true) (h : B (startE N ds) st = .ok (.rt (.ref st.length)) (st ++ [.lst xs])) : run N B ds st = .ok (.ref st.length) (st ++ [.lst xs]) := by
  unfold run
  rw [h]
  show trim st _ _ = _
  unfold trim
  have hcl : Closed (st ++ [.lst xs]) := by
    intro c hm
    rcases List.mem_append.mp hm with h1 | h1
    · rw [List.length_append]
      exact Cell.lo_mono (by simp) (hc c h1)
    · rw [List.mem_singleton] at h1
      subst h1
      rw [List.length_append]
      exact hx
  rw [if_neg (by simp), if_pos ⟨by simp, by simp, hcl⟩]
end QI

/-! more for evaluation -/
namespace QI
open PySem PySem.Spec PyProof.Rows L2
/-- a comprehension that leaves out nothing and changes nothing -/
theorem comp_to {wk : Wk} {p : Pt} {items : List D} {T : IT} {A : IE} {vs : List Nat} {env : Ev} {fin : List D → Sto → Rs D} {st : Sto} (ys : List D) (hl : ys.length = items.length) (hw : ∀ i, wk i st = some items[i]?)
    (hs : ∀ (i : Nat) (d y : D), items[i]? = some d → ys[i]? = some y → ∃ env1, p.put d (wipeE env vs) = some env1 ∧ T env1 st = .ok true st ∧ A env1 st = .ok y st)
    {n : Nat} (hn : items.length < n) (hz : items.length < 16777216) : compGo wk p T A vs env fin n 0 [] st = fin ys st := by
  obtain ⟨acc', st', h1, h2, h3⟩ := comp_inv0 (wk := wk) (p := p) (T := T) (A := A) (vs := vs) (env := env) (fin := fin) (items := items) (fun i acc s => s = st ∧ acc = ys.take i) (fun i acc s h => by rw [h.1]; exact hw i)
    (fun i d acc s hd h => by
      obtain ⟨rfl, rfl⟩ := h
      have hi : i < ys.length := by rw [hl]; exact lt_of_get hd
      obtain ⟨env1, h1, h2, h3⟩ := hs i d ys[i] hd (List.getElem?_eq_getElem hi)
      exact ⟨env1, h1, true, s, h2, .inr ⟨rfl, ys[i], s, h3, rfl, by rw [List.take_add_one, List.getElem?_eq_getElem hi]; rfl⟩⟩) hn hz ⟨rfl, rfl⟩
  rw [h1, h2, h3, ← hl, List.take_length]
@[simp] theorem fRol_ok (ds : List D) (st : Sto) : fRol ds st = .ok (.rol ds) st := id rfl
/-! a new cell at the end of the store -/
section
variable {st : Sto} {xs : List D}
@[simp] theorem get_end (c : Cell) : (st ++ [c])[st.length]? = some c := by simp
@[simp] theorem setL_end (ys : List D) : setL (st ++ [.lst xs]) st.length ys = st ++ [.lst ys] := by simp [setL]
@[simp] theorem seqAt_end : seqAt (st ++ [.lst xs]) (.ref st.length) = some xs := seqAt_ref (get_end _)
@[simp] theorem isLst_end : isLst (st ++ [.lst xs]) (.ref st.length) = true := isLst_ref (get_end _)
@[simp] theorem gLen_end : gLen [.ref st.length] (st ++ [.lst xs]) = .ok (.int xs.length) (st ++ [.lst xs]) := gLen_ref (get_end _)
@[simp] theorem gTuple_end : gTuple [.ref st.length] (st ++ [.lst xs]) = .ok (.tup xs) (st ++ [.lst xs]) := gTuple_ref (get_end _)
theorem closed_end (h : Closed st) (hx : D.loAll (st.length + 1) xs = true) : Closed (st ++ [.lst xs]) := by
  intro c hm
  rcases List.mem_append.mp hm with h1 | h1
  · rw [List.length_append]
    exact Cell.lo_mono (by simp) (h c h1)
  · rw [List.mem_singleton] at h1
    subst h1
    rw [List.length_append]
    exact hx
end
section
variable {st : Sto}
@[simp] theorem seqWk_tup (xs : List D) : seqWk st (.tup xs) = some (wkSeq xs) := id rfl
@[simp] theorem seqWk_rol (xs : List D) : seqWk st (.rol xs) = some (wkSeq xs) := id rfl
@[simp] theorem seqWk_scr (xs : List D) : seqWk st (.scr xs) = some (wkSeq xs) := id rfl
@[simp] theorem seqWk2_tup (xs : List D) : seqWk2 st (.tup xs) = some (true, wkSeq xs) := id rfl
@[simp] theorem seqWk2_rol (xs : List D) : seqWk2 st (.rol xs) = some (false, wkSeq xs) := id rfl
@[simp] theorem seqWk2_scr (xs : List D) : seqWk2 st (.scr xs) = some (false, wkSeq xs) := id rfl
theorem seqWk_ref {n : Nat} {xs : List D} (h : st[n]? = some (.lst xs)) : seqWk st (.ref n) = some (wkLive n) := by simp only [seqWk, h]
theorem seqWk2_ref {n : Nat} {xs : List D} (h : st[n]? = some (.lst xs)) : seqWk2 st (.ref n) = some (false, wkLive n) := by simp only [seqWk2, h]
theorem log2_9000 {n : Nat} (h : n < 18446744073709551616) : n.log2 < 9000 := by
  by_cases h0 : n = 0
  · subst h0; decide
  · rw [Nat.log2_lt h0]
    exact Nat.lt_of_lt_of_le (show n < 2 ^ 64 from h) (Nat.pow_le_pow_right (by omega) (by omega))
@[simp] theorem log2_lit {n : Nat} (hz : n < 18446744073709551616) : (n.log2 < 9000) = True := by simp [log2_9000 hz]
end
end QI

/-! == on rows of numbers -/
namespace QI
open PySem PySem.Spec PyProof.Rows L2
theorem pdPs_ints (is : List Int) : pdPs (is.map D.int) = some (is.map PyData.int) := by
  induction is with
  | nil => simp [pdPs]
  | cons i is ih => simp [pdPs, pdP, ih]
theorem shaped_tints (ns : List Int) : SeqAt.shaped (.tuple (ns.map PyData.int)) = true := by
  have h := PySem.W.shaped_ints ns
  simpa [SeqAt.shaped, PyData.canLay0, PyData.depth] using h
theorem eqv_tints (ns ms : List Int) : PyData.eqv (.tuple (ns.map PyData.int)) (.tuple (ms.map PyData.int)) = decide (ns = ms) := by
  rw [← SeqAt.same_eq_eqv _ _ (by simp only [SeqAt.noMix]; exact PySem.W.noMix_ints ns ms)]
  simp only [PySem.Spec.same]
  exact PySem.W.same_ints ns ms
theorem gEq_ints (st : Sto) (is js : List Int) : gEq st (.tup (is.map D.int)) (.tup (js.map D.int)) = some (decide (is = js)) := by
  unfold gEq
  simp only [pdS, pdP, pdPs_ints, shaped_tints, eqv_tints, and_self, if_true]
theorem seq_nx {S R : IS} {env e1 : Ev} {st st1 : Sto} (h : S env st = .ok (.nx e1) st1) : sSeq S R env st = R e1 st1 := by
  rw [ev_sSeq, h]; rfl
theorem seq_rt {S R : IS} {env : Ev} {st st1 : Sto} {d : D} (h : S env st = .ok (.rt d) st1) : sSeq S R env st = .ok (.rt d) st1 := by
  rw [ev_sSeq, h]; rfl
theorem if_t {T : IT} {S R : IS} {env : Ev} {st st1 : Sto} (h : T env st = .ok true st1) : sIf T S R env st = S env st1 := by
  rw [ev_sIf, h]; rfl
theorem if_f {T : IT} {S R : IS} {env : Ev} {st st1 : Sto} (h : T env st = .ok false st1) : sIf T S R env st = R env st1 := by
  rw [ev_sIf, h]; rfl
theorem comp_eq {fin : List D → Sto → Rs D} {n : Nat} {W : IW} {wk : Wk} {p : Pt} {T : IT} {A : IE} {vs : List Nat} {env : Ev} {st st1 : Sto} (h : W env st = .ok wk st1) : iComp fin n W p T A vs env st = compGo wk p T A vs env fin n 0 [] st1 := by
  rw [ev_comp, h]; rfl
theorem for_eq {n : Nat} {W : IW} {wk : Wk} {p : Pt} {S : IS} {env : Ev} {st st1 : Sto} (h : W env st = .ok wk st1) : sFor n W p S env st = forGo wk p S n 0 env st1 := by
  rw [ev_sFor, h]; rfl
theorem walkC_eq {f : List D → Sto → Rs Wk} {L : IL} {env : Ev} {st st1 st2 : Sto} {ds : List D} {wk : Wk} (h : L env st = .ok ds st1) (h2 : f ds st1 = .ok wk st2) : iWalkC f L env st = .ok wk st2 := by
  rw [ev_walkC, h]; exact h2
theorem fRange1_nat {st : Sto} {m : Nat} (h : m < 4611686018427387904) : fRange1 [.int (m : Nat)] st = .ok (wkRange 0 m) st := by
  unfold fRange1
  simp only
  rw [if_pos ⟨by omega, by omega⟩]
  rfl
end QI

/-! the law's promise -/
namespace QI
open PySem PySem.Spec PyProof.Rows L2
/-- of a script: true -/
def spL (n : Nat) (K : PySem.W.Frag) : Sp := fun vs H Q _ => ∃ (a : Addr) (ns : List Int), vs = [.ref a] ∧ RX K H a (ns.map V.int) ∧ ns.length ≤ n ∧ ∀ H', Q (.bl true) H'
theorem rvs_ints {K : PySem.W.Frag} {m : Mp} {H : Hp} : ∀ ns : List Int, RVs K m H (ns.map D.int) (ns.map V.int)
  | [] => .nil
  | n :: ns => .cons (.int n) (rvs_ints ns)
theorem law_imp {g : G0} {n : Nat} {G : List D → Sto → Rs D} (h : ∀ ns : List Int, ns.length ≤ n → G [.scr (ns.map D.int)] [] = .ok (.bl true) []) {vs : List V} {H : Hp} {Q : VK} {E : XK} (q : spL n g.K vs H Q E) : spI g 1 G vs H Q E := by
  obtain ⟨a, ns, rfl, hS, hn, hQ⟩ := q
  refine ⟨⟨[], []⟩, [.scr (ns.map D.int)], [], rfl, .cons (.scr hS (rvs_ints ns)) .nil, ⟨rfl, List.nodup_nil, fun a h => (by cases h), fun n a c h => (by cases h)⟩, ?_⟩
  rw [h ns hn]
  exact fun m' H' gr rs v rv => by cases rv; exact hQ H'
theorem law_sp {n : Nat} {K : PySem.W.Frag} {H : Hp} {a : Addr} {ns : List Int} (hn : ns.length ≤ n) (hO : Only H) (hS : SqL K H a (ns.map V.int)) : spL n K [.ref a] H (fun v _ => v = .bl true) fun _ _ _ => False := by
  refine ⟨a, ns, rfl, ?_, hn, fun _ => rfl⟩
  rcases hS with (h | ⟨o, h⟩) | h
  · rcases hO a with z | ⟨o, xs, z⟩
    · rw [z] at h; cases h
    · rw [z] at h; cases h
  · exact .inl ⟨o, h⟩
  · exact .inr h
theorem law_fn {ct : String → Addr} {P : Program} {w : World} {K : PySem.W.Frag} {mg : Str → Option Value} {base : Heap} {st : Stmt} {p : Str} {k n : Nat} {G : List D → Sto → Rs D} {f : Addr} {fd : FuncData} (h : Kn ct P w K mg base "law" st [p] k G f fd)
    (hG : ∀ ns : List Int, ns.length ≤ n → G [.scr (ns.map D.int)] [] = .ok (.bl true) []) : FnOk P w K mg base CX0 k f fd [p] (spL n K) := h.ok.imp fun _ _ _ _ q => law_imp (g := ⟨K, ct, P, w⟩) hG q
end QI

namespace QI
open PySem PySem.Spec PyProof.Rows L2
/-! numbers as values -/
def nD (ns : List Nat) : List D := ns.map fun n => .int (n : Nat)
@[simp] theorem nD_nil : nD [] = [] := rfl
@[simp] theorem nD_cons (n : Nat) (ns : List Nat) : nD (n :: ns) = .int (n : Nat) :: nD ns := rfl
@[simp] theorem nD_len (ns : List Nat) : (nD ns).length = ns.length := by simp [nD]
theorem nD_app (a b : List Nat) : nD (a ++ b) = nD a ++ nD b := by simp [nD]
@[simp] theorem nD_get (ns : List Nat) (i : Nat) : (nD ns)[i]? = ns[i]?.map fun n => D.int (n : Nat) := by simp [nD]
theorem nD_take (ns : List Nat) (i : Nat) : (nD ns).take i = nD (ns.take i) := by simp [nD, List.map_take]
theorem nD_drop (ns : List Nat) (i : Nat) : (nD ns).drop i = nD (ns.drop i) := by simp [nD, List.map_drop]
@[simp] theorem nD_lo (k : Nat) (ns : List Nat) : D.loAll k (nD ns) = true := by simp [nD]
theorem nD_inj {a b : List Nat} (h : nD a = nD b) : a = b := by
  induction a generalizing b with
  | nil => cases b with | nil => rfl | cons _ _ => cases h
  | cons x a ih => cases b with
    | nil => cases h
    | cons y b =>
      simp only [nD_cons, List.cons.injEq, D.int.injEq] at h
      rw [ih h.2, Int.ofNat.inj h.1]
theorem nD_ints (ns : List Nat) : nD ns = (ns.map fun n => ((n : Nat) : Int)).map D.int := by simp [nD]
theorem gEq_nD (st : Sto) (a b : List Nat) : gEq st (.tup (nD a)) (.tup (nD b)) = some (decide (a = b)) := by
  rw [nD_ints, nD_ints, gEq_ints]
  congr 1
  by_cases h : a = b
  · subst h; simp
  · rw [decide_eq_false h, decide_eq_false]
    intro z
    exact h (nD_inj (by rw [nD_ints, nD_ints, z]))
theorem gNeE_nD (st : Sto) (a b : List Nat) : gNeE (.tup (nD a)) (.tup (nD b)) st = .ok (.bl (!decide (a = b))) st := by
  unfold gNeE
  rw [gEq_nD]; rfl
end QI

/-! str of a number -/
namespace QI
open PySem PySem.Spec PyProof.Rows L2
section
variable {ct : String → Addr} {X : Cx} {E : EK}
def gStr : List D → Sto → Rs D
  | [.int i], st => if i.natAbs.log2 < 1920 then .ok (.str (toString i)) st else .bad
  | _, _ => .bad
theorem cb_str : CB ct X E (.type "str") gStr := ⟨_, call_str_int, fun m H st ds vs Q rs rv fin => by
  unfold gStr at fin
  split at fin
  · split at fin
    · rename_i hz
      cases rv with
      | cons r1 r2 => cases r2; cases r1; exact ⟨_, rfl, hz, fin.here rs _ (.str _)⟩
    · exact fin.elim
  · exact fin.elim⟩
end
end QI

/-! constants of the text (tuples, dicts), defaults, all, xs[::-1] -/
namespace QI
open PySem PySem.Spec PyProof.Rows L2
section
variable {ct : String → Addr} {X : Cx} {E : EK} {pos p p1 p2 p3 apos cpos : Pos} {a b e o : Expr} {es : List Expr} {A B O : IE} {L : IL} {x : Str}
/-- a tuple of texts that stands at the top -/
structure CT (K : PySem.W.Frag) (mg : Str → Option Value) (x : Str) (cs : List Str) (q : Addr) : Prop where
  m : mg x = some (.ref q)
  t : ∃ (o : Obj) (its : Array Value) (n : Nat), K.lookup q = some o ∧ o.cls = .type "tuple" ∧ o.data = .seq its n ∧ its.size ≤ sizeLine ∧ Vals (cs.map V.str) its.toList
theorem CT.sq {q : Addr} {cs : List Str} (h : CT X.K X.mg x cs q) (H : Hp) : SqT X.K H q (cs.map V.str) := .inr h.t
/-- a in NAME, a not in NAME -/
def iInC (neg : Bool) (cs : List Str) (A : IE) : IE := fun env st => (A env st).bind fun d st1 => match d with
  | .str z => .ok (.bl (neg != cs.any fun c => decide (c = z))) st1
  | _ => .bad
theorem inV_strs (z : Str) (cs : List Str) : inV (.str z) (cs.map V.str) = cs.any fun c => decide (c = z) := by
  unfold inV
  rw [List.any_map]
  congr 1
theorem flat_strs (cs : List Str) : (cs.map V.str).all flatV = true := by
  rw [List.all_eq_true]
  intro v hv
  obtain ⟨c, _, rfl⟩ := List.mem_map.mp hv
  rfl
theorem inC_tI {neg : Bool} {cs : List Str} {q : Addr} (h : CT X.K X.mg x cs q) {σ : L2.St} {H : Hp} {Q : VK} (hh : tI (gx ct X) E (iInC neg cs A) σ H Q) : tI (gx ct X) E A σ H (fun y H1 => tC (.ref q) σ H1 fun z H2 => rIn X.K neg y z H2 Q) := by
  obtain ⟨m, env, st, re, rs, fin⟩ := hh
  refine ⟨m, env, st, re, rs, fin.bind.imp fun m1 H1 d st1 g1 rs1 q1 y ry => ?_⟩
  cases d with
  | str z =>
    cases ry
    refine ⟨q, cs.map V.str, rfl, .inr (h.sq H1), rfl, flat_strs cs, ?_⟩
    rw [inV_strs]
    have := q1.here rs1 _ (.bl _)
    cases neg <;> simpa using this
  | _ => exact q1.elim
theorem si_inC {q : Addr} {cs : List Str} (hg : Gl X x) (h : CT X.K X.mg x cs q) (ha : SI ct X E a A) (hd : (x == ("__debug__" : Str)) = false := by decide) (hm : behindInMarks .In (.Name x p) = false := by first | exact nomark _ | rfl) : SI ct X E (.Compare a [.In] [.Name x p] pos) (iInC false cs A) :=
  ⟨(pe_cmpR op_in_seq ha.pe (pe_glob (v := .ref q) hg h.m rfl hd) hm).imp fun _ _ _ hh => inC_tI h hh⟩
theorem si_notinC {q : Addr} {cs : List Str} (hg : Gl X x) (h : CT X.K X.mg x cs q) (ha : SI ct X E a A) (hd : (x == ("__debug__" : Str)) = false := by decide) (hm : behindInMarks .NotIn (.Name x p) = false := by first | exact nomark _ | rfl) : SI ct X E (.Compare a [.NotIn] [.Name x p] pos) (iInC true cs A) :=
  ⟨(pe_cmpR op_notIn_seq ha.pe (pe_glob (v := .ref q) hg h.m rfl hd) hm).imp fun _ _ _ hh => inC_tI h hh⟩
theorem sb_inC {q : Addr} {cs : List Str} (hg : Gl X x) (h : CT X.K X.mg x cs q) (ha : SI ct X E a A) (hd : (x == ("__debug__" : Str)) = false := by decide) (hm : behindInMarks .In (.Name x p) = false := by first | exact nomark _ | rfl) : SB ct X E (.Compare a [.In] [.Name x p] pos) (iTest (iInC false cs A)) :=
  ⟨(pt_cmpR op_in_seq ha.pe (pe_glob (v := .ref q) hg h.m rfl hd) hm).imp fun _ _ _ hh => inC_tI h (test_tI hh)⟩
theorem sb_notinC {q : Addr} {cs : List Str} (hg : Gl X x) (h : CT X.K X.mg x cs q) (ha : SI ct X E a A) (hd : (x == ("__debug__" : Str)) = false := by decide) (hm : behindInMarks .NotIn (.Name x p) = false := by first | exact nomark _ | rfl) : SB ct X E (.Compare a [.NotIn] [.Name x p] pos) (iTest (iInC true cs A)) :=
  ⟨(pt_cmpR op_notIn_seq ha.pe (pe_glob (v := .ref q) hg h.m rfl hd) hm).imp fun _ _ _ hh => inC_tI h (test_tI hh)⟩
/-- a dict of numbers by texts that stands at the top -/
structure CD (K : PySem.W.Frag) (w : World) (mg : Str → Option Value) (x : Str) (kvs : List (Str × Int)) (q : Addr) : Prop where
  m : mg x = some (.ref q)
  t : ∀ kv ∈ kvs, KDct K w q kv.1 (.int kv.2)
def ofC (kvs : List (Str × Int)) (z : Str) : Option Int := (kvs.find? fun kv => decide (kv.1 = z)).map (·.2)
theorem ofC_mem {kvs : List (Str × Int)} {z : Str} {i : Int} (h : ofC kvs z = some i) : (z, i) ∈ kvs := by
  unfold ofC at h
  rw [Option.map_eq_some_iff] at h
  obtain ⟨kv, h1, h2⟩ := h
  have h3 := List.find?_some h1
  have h4 := List.mem_of_find?_eq_some h1
  simp only [decide_eq_true_eq] at h3
  obtain ⟨k, v⟩ := kv
  simp only at h2 h3
  rw [← h2, ← h3]; exact h4
/-- NAME[a] -/
def iIxC (kvs : List (Str × Int)) (A : IE) : IE := fun env st => (A env st).bind fun d st1 => match d with
  | .str z => match ofC kvs z with
    | some i => .ok (.int i) st1
    | none => .bad
  | _ => .bad
theorem si_ixC {q : Addr} {kvs : List (Str × Int)} (hg : Gl X x) (h : CD X.K X.w X.mg x kvs q) (ha : SI ct X E a A) (hd : (x == ("__debug__" : Str)) = false := by decide) (hs : PlainIx a := by exact fun _ _ => rfl) : SI ct X E (.Subscript (.Name x p) a pos) (iIxC kvs A) :=
  ⟨(pe_ix ix_kdict (pe_glob (v := .ref q) hg h.m rfl hd) ha.pe hs).imp fun σ H Q ⟨m, env, st, re, rs, fin⟩ => ⟨m, env, st, re, rs, fin.bind.imp fun m1 H1 d st1 g1 rs1 q1 y ry => by
    cases d with
    | str z =>
      cases ry
      cases hk : ofC kvs z with
      | none => simp only [hk] at q1; exact (show False from q1).elim
      | some i => simp only [hk] at q1; exact ⟨q, z, .int i, rfl, rfl, h.t _ (ofC_mem hk), Fin.here q1 rs1 _ (.int _)⟩
    | _ => exact (show False from q1).elim⟩⟩
/-- xs[::-1] -/
def iRev (A : IE) : IE := fun env st => (A env st).bind fun d st1 => match listAt st1 d with
  | some xs => .ok (.rol xs.reverse) st1
  | none => .bad
theorem si_rev {k : Nat} (ha : SI ct X E a A) : SI ct X E (.Subscript a (.Slice none none (some (.UnaryOp .USub (.Constant (.int 1) k p1) p2)) p3) pos) (iRev A) :=
  ⟨(pe_revL ha.pe).imp fun σ H Q ⟨m, env, st, re, rs, fin⟩ => ⟨m, env, st, re, rs, fin.bind.imp fun m1 H1 d st1 g1 rs1 q1 y ry => by
    split at q1
    · rename_i xs hx
      obtain ⟨r, vs, rfl, hs, rv⟩ := list_of rs1 ry hx
      exact ⟨r, vs, rfl, SqL.of hs, rol_new rs1 rv.reverse q1⟩
    · exact q1.elim⟩⟩
def bls? : List D → Option (List Bool)
  | [] => some []
  | .bl b :: ds => match bls? ds with
    | some bs => some (b :: bs)
    | none => none
  | _ :: _ => none
theorem bls_of {K : PySem.W.Frag} {m : Mp} {H : Hp} : ∀ {ds : List D} {vs : List V} {bs : List Bool}, RVs K m H ds vs → bls? ds = some bs → vs = bs.map V.bl
  | [], _, _, r, e => by cases r; cases e; rfl
  | d :: ds, _, _, r, e => by
    cases r with
    | cons r1 r2 =>
      cases d with
      | bl i =>
        cases r1
        simp only [bls?] at e
        split at e
        · rename_i bs hb
          cases e
          rw [bls_of r2 hb]; rfl
        · cases e
      | _ => simp [bls?] at e
def gAll : List D → Sto → Rs D
  | [d], st => match listAt st d with
    | some xs => match bls? xs with
      | some bs => .ok (.bl (bs.all id)) st
      | none => .bad
    | none => .bad
  | _, _ => .bad
def gAny : List D → Sto → Rs D
  | [d], st => match listAt st d with
    | some xs => match bls? xs with
      | some bs => .ok (.bl (bs.any id)) st
      | none => .bad
    | none => .bad
  | _, _ => .bad
theorem cb_all (hc : X.calm = true) : CB ct X E (.builtin "all") gAll := ⟨_, cr_all hc, fun m H st ds vs Q rs rv fin => by
  unfold gAll at fin
  split at fin
  · cases rv with
    | cons r1 r2 =>
      cases r2
      split at fin
      · rename_i xs hq
        split at fin
        · rename_i bs hn
          obtain ⟨p, ws, rfl, hs, r⟩ := list_of rs r1 hq
          have e := bls_of r hn
          subst e
          exact ⟨p, bs, rfl, SqL.of hs, fin.here rs _ (.bl _)⟩
        · exact fin.elim
      · exact fin.elim
  · exact fin.elim⟩
theorem cb_any (hc : X.calm = true) : CB ct X E (.builtin "any") gAny := ⟨_, cr_any hc, fun m H st ds vs Q rs rv fin => by
  unfold gAny at fin
  split at fin
  · cases rv with
    | cons r1 r2 =>
      cases r2
      split at fin
      · rename_i xs hq
        split at fin
        · rename_i bs hn
          obtain ⟨p, ws, rfl, hs, r⟩ := list_of rs r1 hq
          have e := bls_of r hn
          subst e
          exact ⟨p, bs, rfl, SqL.of hs, fin.here rs _ (.bl _)⟩
        · exact fin.elim
      · exact fin.elim
  · exact fin.elim⟩
@[simp] theorem ev_inC (neg : Bool) (cs : List Str) (env : Ev) (st : Sto) : iInC neg cs A env st = (A env st).bind fun d st1 => match d with
  | .str z => .ok (.bl (neg != cs.any fun c => decide (c = z))) st1
  | _ => .bad := id rfl
@[simp] theorem ev_ixC (kvs : List (Str × Int)) (env : Ev) (st : Sto) : iIxC kvs A env st = (A env st).bind fun d st1 => match d with
  | .str z => match ofC kvs z with
    | some i => .ok (.int i) st1
    | none => .bad
  | _ => .bad := id rfl
@[simp] theorem ev_rev (env : Ev) (st : Sto) : iRev A env st = (A env st).bind fun d st1 => match listAt st1 d with
  | some xs => .ok (.rol xs.reverse) st1
  | none => .bad := id rfl
end
/-! defs with defaults -/
structure KnD (ct : String → Addr) (P : Program) (w : World) (K : PySem.W.Frag) (mg : Str → Option Value) (base : Heap) (x : Str) (st : Stmt) (ps : List Str) (k : Nat) (G : List D → Sto → Rs D) (dds : List D) (f : Addr) (fd : FuncData) : Prop where
  m : mg x = some (.ref f)
  fu : ∃ dvs : List V, (∀ (m : Mp) (H : Hp), RVs K m H dds dvs) ∧ FunD K x x (defArgs st) (defBody st) (defScope st) dvs [] f fd
  ok : FnOk P w K mg base CX0 k f fd ps (spI ⟨K, ct, P, w⟩ ps.length G)
section
variable {ct : String → Addr} {P : Program} {w : World} {K : PySem.W.Frag} {mg : Str → Option Value} {base : Heap} {x : Str} {st : Stmt} {f : Addr} {fd : FuncData} {N ps : List Str} {k : Nat} {B : IS} {G : List D → Sto → Rs D} {dds : List D} {dvs : List V}
theorem knD_of (m : mg x = some (.ref f)) (hv : ∀ (m : Mp) (H : Hp), RVs K m H dds dvs) (F : FunD K x x (defArgs st) (defBody st) (defScope st) dvs [] f fd) (S : FnScope N ps (defScope st)) (hG : G = run N B)
    (hB : ∀ (f : Addr) (cdv : Value) (A : Around) (outer : List Env) (s : Shared) (H : Hp) (E : XK), Room k (A.deeper (envOfC x (defScope st) s.heap.objs.size f cdv)) → SSs ct (bodyX P w K mg base N x st f cdv A outer s H E) noE (defBody st) B) : KnD ct P w K mg base x st ps (k + 1) G dds f fd := by
  refine ⟨m, ⟨dvs, hv, F⟩, F.ok S (fun vs H Q E h => ?_) (fun cdv A outer s H vs Q E hr h => ?_)⟩
  · obtain ⟨m, ds, st', h1, h2, _⟩ := h
    rw [← h2.length]; exact h1
  · obtain ⟨m, ds, st', h1, h2, h3, fin⟩ := h
    refine ⟨_, PSs.nox (hB f cdv A outer s H E hr).pss, m, startE N ds, st', RE.start h2, h3, ?_⟩
    obtain ⟨hx, href⟩ : (∀ e s', G ds st' ≠ .exn e s') ∧ Ref st' (B (startE N ds) st') (G ds st') := by rw [hG]; exact run_ref
    cases hg : G ds st' with
    | exn e s' => exact absurd hg (hx e s')
    | ok d s' => rw [hg] at fin href; exact fin_ref h3.len (fun _ _ z => by cases z) href fin
    | bad => rw [hg] at fin; exact fin.elim
end
section
variable {ct : String → Addr} {X : Cx} {E : EK} {pos p : Pos} {a b c e o : Expr} {es : List Expr} {L : IL} {k : Nat} {f : Addr} {fd : FuncData} {ps : List Str} {G : List D → Sto → Rs D} {x : Str} {st : Stmt} {dds : List D}
/-- f(e, ..), n parameters written, the defaults from the j-th on -/
theorem si_knD {rs0 : List D} (F : KnD ct X.prog X.w X.K X.mg X.base x st ps k G dds f fd) (n j : Nat) (hr : Room k X.A) (h0 : dds ≠ []) (hj : j ≤ dds.length)
    (hb : ∀ (dvs : List V), dvs.length = dds.length → ∀ (T : Addr) (kV doc pm : Value) (an : Option Addr) (cdv ct : Value) (us its : List Value), us.length = n → its.length = dvs.length →
      ∃ k, bindArgs (PySem.W.fnOf x x (defArgs st) (defBody st) (defScope st) (.ref T) kV doc pm an cdv ct) ⟨us, []⟩ = seqItems? (.ref T) >>= k ∧ k (some its.toArray) = pure (ps.zip (us ++ its.drop j)))
    (ha : SA ct X E (e :: es) L) (hn : n + (dds.length - j) = ps.length := by rfl) (hg : Gl X x := by rfl) (hdb : (x == ("__debug__" : Str)) = false := by decide) (he : starEach (e :: es) X.env = (false, eval e X.env) :: starEach es X.env := by rfl) (hpl : (backTo pos (starEach es X.env)).any (·.1) = false := by rfl) (hrs : dds.drop j = rs0 := by rfl) :
    SI ct X E (.Call (.Name x p) (e :: es) [] pos) (iCall n G rs0 L) := by
  subst hrs
  obtain ⟨dvs, hv, fu⟩ := F.fu
  have hl : dds.length = dvs.length := (hv ⟨[], []⟩ fun _ => none).length
  obtain ⟨ds, hds, hbind⟩ := fu.binds1 n j (by intro z; subst z; exact h0 (List.eq_nil_of_length_eq_zero (by rw [hl]; rfl))) (by rw [← hl]; exact hn) (hb dvs hl.symm)
  refine ⟨(pe_call F.ok hr hg F.m fu.kp hbind hds pass0 ha.pa hdb he hpl).imp fun σ H Q ⟨m, env, st, re, rs, fin⟩ => ⟨m, env, st, re, rs, fin.bind.imp fun m1 H1 ds st1 g1 rs1 q vs rv => ?_⟩⟩
  split at q
  · rename_i hz
    exact ⟨m1, ds ++ dds.drop j, st1, by rw [List.length_append, List.length_drop, hz]; exact hn, rv.append ((hv m1 H1).drop j), rs1, q.strictE⟩
  · exact q.elim
end
end QI

/-! an own exception over ValueError whose __init__ says super().__init__(text) and keeps one value -/
namespace QX
open PySem PySem.W PySem.Calls PyProof.Rows PySem.HandSPX
def iA (f : Str) (p1 p2 : Pos) : Arguments := { posonlyargs := [], args := [{ arg := "self", annotation := none, pos := p1 }, { arg := f, annotation := none, pos := p2 }], vararg := none, kwonlyargs := [], kw_defaults := [], kwarg := none, defaults := [] }
def iB (f tx : Str) (q1 q2 q3 q4 q5 q6 q7 q8 q9 q10 : Pos) (j : Nat) : List Stmt :=
  [.Expr (.Call (.Attribute (.Call (.Name "super" q1) [] [] q2) "__init__" q3) [.Constant (.str tx) j q4] [] q5) q6,
   .Assign [.Attribute (.Name "self" q7) f q8] (.Name f q9) q10]
def iS (f : Str) : Scope := { kind := .function, names := [("self", .local), (f, .local), (PySem.Str.ofString "__class__", .free), (PySem.Str.ofString "super", .globalImplicit)], isGenerator := false, isCoroutine := false, more := [] }
/-- what the written part says of the class at C (its name nm, its field f) and of its __init__, at fI -/
structure OwnTxt (prog : Program) (K : Frag) (mg : Str → Option Value) (C fI : Addr) (nmC f : Str) : Prop where
  gC : mg nmC = some (.ref C)
  nS : mg "super" = none
  mS : (prog.main.scope.names.lookup (PySem.Str.ofString "super")).isSome = false
  cls : ∃ nm q N bs bm sn sub ab col dd k0 k1 k2 k3 k5, K.lookup C = some (excClassObj nm q C N bs bm true sn sub ab col dd k0 k1 k2 k3 k5 "ValueError.__new__") ∧ refsVE bm = true
  xI : excInitIn K C veTail "ValueError.__new__" = true
  sa : findIn K (.ref C) "__setattr__" = some (some (.builtin "object.__setattr__"))
  ga : findIn K (.ref C) "__getattribute__" = some (some (.builtin "BaseException.__getattribute__"))
  gg : findIn K (.ref C) "__getattr__" = some none
  noN : findIn K (.ref C) f = some none
  iC : findIn K (.ref C) "__init__" = some (some (.ref fI))
  tC : typeIn K (.ref fI) = some (.type "function")
  kC : keepIn K (.ref C) = true
  exC : subIn K (.ref C) (.type "BaseException") = some true
  veC : subIn K (.ref C) (.type "ValueError") = some true
  sCC : mroIn K C (.ref C) = some true
  sup : ks_superIn K C C "__init__" = some (some (.builtin "ValueError.__init__"))
  opq : nsIn K cStatics "thirdparty.any" = some none
  tyC : typeIn K (.ref C) = some (.type "type")
  hdC : hasDictIn K C = true
  fn : ∃ (tx qual : Str) (oc ccl cl : Value) (od cdd cld : Option Addr) (kV doc pm : Value) (an : Option Addr) (cda cc : Addr) (ct : Value) (osl ccs csl : Array (Option Value)) (vs : Array Value) (file : Str) (tf : Tok) (p1 p2 q1 q2 q3 q4 q5 q6 q7 q8 q9 q10 : Pos) (j : Nat),
    (q3.endLine == q5.line) = true ∧ K.lookup fI = some ⟨oc, od, .func (ksFn "__init__" qual (iA f p1 p2) (iB f tx q1 q2 q3 q4 q5 q6 q7 q8 q9 q10 j) (iS f) .none kV doc pm an (.ref cda) ct cc), osl⟩ ∧ codeIn K (.ref cda) qual = true ∧
    K.lookup cda = some ⟨ccl, cdd, .fields vs, ccs⟩ ∧ vs[2]? = some (.str file tf) ∧ (prog.main.file == file) = true ∧
    K.lookup cc = some ⟨cl, cld, .cell (some (.ref C)), csl⟩
theorem one_size (v : Value) : [v].length ≤ sizeLine := by
  rw [sizeLine_eq]
  exact (by decide : 1 ≤ 16777216)
theorem at_of_any {α : Type} {M : Model} {A : Around} {c : Code} {t : Sem α} {Q : α → Shared → Prop} {E : Value → Shared → Prop} {s : Shared} (h : wpAny M A t Q E s) : PySem.wpAt M A c t Q E s := fun Γ p _ hin => h Γ p hin
theorem eval_sup (q1 q2 q3 q4 q5 : Pos) (j : Nat) (tx : Str) (env : Env) (hl : (q3.endLine == q5.line) = true) : eval (.Call (.Attribute (.Call (.Name "super" q1) [] [] q2) "__init__" q3) [.Constant (.str tx) j q4] [] q5) env = (do
          let ov ← attributeBase (.Call (.Name "super" q1) [] [] q2) "__init__" env (eval (.Call (.Name "super" q1) [] [] q2) env)
          standAt q3.atName
          let __x ← holding [ov] (getMethod ov "__init__" (do
            let r ← importBound (.Call (.Name "super" q1) [] [] q2) env
            pure (r.getD true)))
          match __x with
            | (f, first) => callWith q5 f first (backTo q5 (starEach [.Constant (.str tx) j q4] env)) []) := by
  rw [eval]
  have hf : methodCallForm ([Expr.Constant (.str tx) j q4].length + ([] : List Keyword).length) (backTo q5 (starEach [.Constant (.str tx) j q4] env)) (backToKw q5 (keywordEach [] env)) = true := by rfl
  unfold methodCall
  rw [hf]
  unfold methodCallPos
  rw [hl]
  rfl
section
variable {f tx qual : Str} {p1 p2 q1 q2 q3 q4 q5 q6 q7 q8 q9 q10 : Pos} {j : Nat} {kV doc pm cdv ct : Value} {an : Option Addr} {cc L fI x : Addr} {v : Value}
theorem bind_init (hf : f = "value" ∨ f = "at") : bindArgs (ksFn "__init__" qual (iA f p1 p2) (iB f tx q1 q2 q3 q4 q5 q6 q7 q8 q9 q10 j) (iS f) .none kV doc pm an cdv ct cc) ⟨[.ref x, v], []⟩ = pure [((PySem.Str.ofString "self"), .ref x), (f, v)] := by
  rcases hf with rfl | rfl <;> first | rfl | with_unfolding_all rfl
theorem noCell (hf : f = "value" ∨ f = "at") : ∀ x ∈ (iS f).names, x.2 ≠ NameKind.cell := by
  rcases hf with rfl | rfl <;> decide
theorem locals_of (hf : f = "value" ∨ f = "at") : ∀ y ∈ ([("self", .ref x), (f, v)] : List (Str × Value)), List.lookup y.1 (iS f).names = some NameKind.local := by
  intro y hy
  simp only [List.mem_cons, List.not_mem_nil, or_false] at hy
  rcases hf with rfl | rfl <;> rcases hy with rfl | rfl <;> rfl
theorem look_self (hf : f = "value" ∨ f = "at") : List.lookup (PySem.Str.ofString "self") ([("self", .ref x), (f, v)] : List (Str × Value)).reverse = some (Value.ref x) := by
  rcases hf with rfl | rfl <;> rfl
theorem look_f (hf : f = "value" ∨ f = "at") : List.lookup f ([("self", .ref x), (f, v)] : List (Str × Value)).reverse = some v := by
  rcases hf with rfl | rfl <;> rfl
theorem noDebug (hf : f = "value" ∨ f = "at") : (f == ("__debug__" : Str)) = false := by
  rcases hf with rfl | rfl <;> decide
theorem kind_super (hf : f = "value" ∨ f = "at") : (callEnv (ksFn "__init__" qual (iA f p1 p2) (iB f tx q1 q2 q3 q4 q5 q6 q7 q8 q9 q10 j) (iS f) .none kV doc pm an cdv ct cc) L fI).kindOf (Str.ofString "super") = some NameKind.globalImplicit := by
  rcases hf with rfl | rfl <;> rfl
theorem kind_cls (hf : f = "value" ∨ f = "at") : (callEnv (ksFn "__init__" qual (iA f p1 p2) (iB f tx q1 q2 q3 q4 q5 q6 q7 q8 q9 q10 j) (iS f) .none kV doc pm an cdv ct cc) L fI).kindOf (Str.ofString "__class__") = some NameKind.free := by
  rcases hf with rfl | rfl <;> rfl
theorem kind_self (hf : f = "value" ∨ f = "at") : (callEnv (ksFn "__init__" qual (iA f p1 p2) (iB f tx q1 q2 q3 q4 q5 q6 q7 q8 q9 q10 j) (iS f) .none kV doc pm an cdv ct cc) L fI).kindOf "self" = some NameKind.local := by
  rcases hf with rfl | rfl <;> rfl
theorem kind_f (hf : f = "value" ∨ f = "at") : (callEnv (ksFn "__init__" qual (iA f p1 p2) (iB f tx q1 q2 q3 q4 q5 q6 q7 q8 q9 q10 j) (iS f) .none kV doc pm an cdv ct cc) L fI).kindOf f = some NameKind.local := by
  rcases hf with rfl | rfl <;> rfl
end
/-- what is left of a fresh exception at x behind its __init__ -/
structure InitEnd (hp h' : Heap) (x C dx : Addr) (f : Str) (v : Value) : Prop where
  keep : ∀ b o, hp.get? b = some o → h'.get? b = some o
  obj : ∃ vs, h'.get? x = some { cls := .ref C, dict := some dx, data := .fields vs } ∧ vs[1]? = some .none
  dbig : hp.objs.size ≤ dx
  dne : dx ≠ x
  ns : h'.Ns1 dx (fun y => if y = f then some v else none)
section
variable {prog : Program} {w : World} {A : Around} {E : Value → Shared → Prop} {R : Result → Shared → Prop} {K : Frag} {mg mb : Str → Option Value} {C fI : Addr} {nmC f : Str}
theorem own_init (T : OwnTxt prog K mg C fI nmC f) (hf : f = "value" ∨ f = "at") {hp : Heap} {g : Array GenState} {dr : Drawn} {tk : Nat} {os : OsState} {v : Value} (X : K.In hp) (hlim : hp.NoLimit) (hG : hp.Ns mainGlobals mg) (hB : hp.Ns builtinsNs mb) (hb : mb "super" = some (.type "super")) (hroom : A.depth < recursionLimit)
    (hq : ∀ h' tk' dx, InitEnd hp h' (hp.objs.size + 1) C dx f v → R (.ok (.ret .none)) ⟨h', g, dr, tk', os⟩) :
    codeAny (model prog w) A (.call (.ref fI) ⟨[.ref (hp.objs.size + 1), v], []⟩) R ⟨(hp.push (kdv_tup [v])).push (excO C hp.objs.size), g, dr, tk, os⟩ := by
  obtain ⟨tx, qual, oc, ccl, cl, od, cdd, cld, kV, doc, pm, an, cda, cc, ct, osl, ccs, csl, vs, file, tf, p1, p2, q1, q2, q3, q4, q5, q6, q7, q8, q9, q10, j, hl, ho, hcd, hcda, hvs, hfile, hcc⟩ := T.fn
  have k : ∀ b o, hp.get? b = some o → ((hp.push (kdv_tup [v])).push (excO C hp.objs.size)).get? b = some o := fun b o e => Heap.get?_push_of_some _ (Heap.get?_push_of_some _ e)
  have hget : ((hp.push (kdv_tup [v])).push (excO C hp.objs.size)).get? (hp.objs.size + 1) = some (excO C hp.objs.size) := by heap_get
  have hsz : ((hp.push (kdv_tup [v])).push (excO C hp.objs.size)).objs.size = hp.objs.size + 2 := by simp
  generalize hh : (hp.push (kdv_tup [v])).push (excO C hp.objs.size) = h0 at k hget hsz
  have X0 : K.In h0 := X.keeps k
  obtain ⟨nm, q, N, bs, bm, sn, sub, ab, col, dd, k0, k1', k2, k3, k5, hC, hbm⟩ := T.cls
  have hcl : clsIn K C = some { name := nm, bases := bs, mro := .ref C :: bm, ns := N, qualname := q, hasDict := true, slotNames := sn, subclasses := sub, abstract := ab, collection := col, hasDel := false } := by unfold clsIn; rw [hC] <;> rfl
  refine ks_codeAny_call_defAt (binds := [("self", .ref (hp.objs.size + 1)), (f, v)]) hroom (X0 _ _ ho) rfl (hlim.keeps k) (codeRec_of X0 hcd) rfl (BindsTo.of_eq (bind_init hf)) (noCell hf) (locals_of hf) (fun h₀ hn kk => ?_) rfl rfl rfl
  have k1 : ∀ b o, hp.get? b = some o → h₀.get? b = some o := fun b o e => kk b o (k b o e)
  have X1 : K.In h₀ := X.keeps k1
  have hx1 := kk _ _ hget
  have hmS : (fun x => List.lookup x ([("self", Value.ref (hp.objs.size + 1)), (f, v)] : List (Str × Value)).reverse) "self" = some (.ref (hp.objs.size + 1)) := look_self hf
  have hmF : (fun x => List.lookup x ([("self", Value.ref (hp.objs.size + 1)), (f, v)] : List (Str × Value)).reverse) f = some v := look_f hf
  have fr : Fr hp h0.objs.size h₀ (fun x => List.lookup x ([("self", Value.ref (hp.objs.size + 1)), (f, v)] : List (Str × Value)).reverse) := ⟨hn, k1, by rw [hsz]; omega⟩
  generalize (fun x => List.lookup x ([("self", Value.ref (hp.objs.size + 1)), (f, v)] : List (Str × Value)).reverse) = m at hn hmS hmF fr
  have hnx : hp.get? (hp.objs.size + 1) = none := by
    cases e : hp.get? (hp.objs.size + 1) with
    | none => rfl
    | some o => exact absurd (Nat.lt_of_succ_lt (Heap.lt_size e)) (Nat.lt_irrefl _)
  have nw : News hp h0.objs.size h₀ [(hp.objs.size + 1, excO C hp.objs.size)] := fun p hp' => by
    simp only [List.mem_singleton] at hp'
    subst hp'
    exact ⟨hx1, by show hp.objs.size + 1 ≠ h0.objs.size; rw [hsz]; omega, hnx⟩
  refine ks_wpAt_execs_cons ?_
  refine ks_wpAt_Expr_any ?_ rfl rfl
  refine ks_wpAt_MethodCall (he := eval_sup q1 q2 q3 q4 q5 j tx _ hl) ?_
  refine ks_wpAt_super_base (f := fI) (cc := cda) (kind_super hf) (kind_cls hf) (by decide) rfl (X1 _ _ ho) rfl rfl rfl (X1 _ _ hcda) rfl hvs hfile T.mS ?_
  refine ks_loadName_global rfl (kind_super hf) (loadGlobal_builtin (hG.keeps k1) T.nS (hB.keeps k1) hb ⟨rfl, ?_⟩)
  refine wpAny_loadName_free rfl (kind_cls hf) (c := cc) rfl ⟨_, X1 _ _ hcc, rfl⟩ ?_
  refine wpAny_loadName_local rfl (kind_self hf) hn hmS ?_
  refine ks_wpAny_isType_cls (X1 _ _ hC) rfl ⟨rfl, ?_⟩
  refine ks_wpAny_call_super (X1 _ _ hC) rfl hx1 rfl (fun c z => by cases z) (looks_mroIn X1 T.sCC) (fun h2 hso kk2 => ?_)
  obtain ⟨fr2, nw2, lt2⟩ := ks_newsPush (s := ⟨h₀, g, dr, tk + 2, os⟩) fr nw rfl hso kk2
  refine kxs_method (i := "ValueError.__init__") kxs_ValueError fr2 X nw2 (List.mem_cons_self) (ox := excO C hp.objs.size) (odx := none) ⟨(nw2 (hp.objs.size + 1, excO C hp.objs.size) (by simp)).1, rfl, rfl, trivial⟩ T.opq T.sup T.veC (by decide) (fun u h3 fr3 nw3 lt3 => ?_)
  refine kxs_callWith1 nw3 List.mem_cons_self ?_ rfl rfl
  refine spliced_cons (wpAny_Constant_str (k := j) (pos := q4) (wpAny_pure ⟨kxs_at nw3 List.mem_cons_self, ?_⟩))
  have n1 : u ≠ hp.objs.size + 1 := fun z => Nat.lt_irrefl _ (z ▸ lt3 _ (List.mem_cons_of_mem _ List.mem_cons_self))
  have n2 : h₀.objs.size ≠ hp.objs.size + 1 := fun z => Nat.lt_irrefl _ (z ▸ lt2 _ List.mem_cons_self)
  refine kxs_call (x := hp.objs.size + 1) (C := C) (t := hp.objs.size) (dv := none) (c2 := .none) fr3 X nw3 F.excBase_ValueError T.xI List.mem_cons_self (.tail n1 (.tail n2 (.head (fun p z => absurd z List.not_mem_nil)))) (one_size _) (fun t' h4 fr4 nw4 lt4 => ?_)
  show PySem.wpAt _ _ _ (execs _ _) _ _ _
  refine ks_wpAt_execs_cons (ks_wpAt_Assign_Attr (at_of_any ?_) rfl)
  refine wpAny_Name (wpAny_loadName_local rfl (kind_f hf) fr4.ns hmF ?_) (noDebug hf)
  refine wpAny_Name (wpAny_loadName_local rfl (kind_self hf) fr4.ns hmS ?_) (by decide)
  have X4 : K.In h4 := X.keeps fr4.keep
  have hx4 : h4.get? (hp.objs.size + 1) = some (excO C t') := (nw4 (hp.objs.size + 1, excO C t') (by simp)).1
  refine set_plain X4 (ox := excO C t') (od := none) ⟨hx4, rfl, rfl, trivial⟩ T.sa ?_
  refine exc_osa X4 hx4 hcl (show refsVE (.ref C :: bm) = true from hbm) rfl T.noN (fun h₅ tk₅ dx k₅ dn dne hx₅ hn₅ => ?_)
  show PySem.wpAt _ _ _ (execs _ _) _ _ _
  refine at_of_any (wpAny_execs_nil (hq h₅ tk₅ dx ⟨fun b o e => k₅ b o (fun z => ?_) (fr4.keep b o e), ⟨_, hx₅, rfl⟩, ?_, dne, hn₅⟩))
  · rw [z, hnx] at e; cases e
  · exact Nat.le_trans (Nat.le_of_lt (Nat.lt_of_le_of_lt (by rw [hsz] at *; omega) fr4.ns.lt)) dn
/-- a made exception -/
structure OwnMade (h h' : Heap) (e C d : Addr) (f : Str) (v : Value) : Prop where
  keep : ∀ b o, h.get? b = some o → h'.get? b = some o
  new : h.objs.size ≤ e
  obj : ∃ oe vs, h'.get? e = some oe ∧ oe.cls = .ref C ∧ oe.dict = some d ∧ oe.data = .fields vs ∧ vs[1]? = some .none
  dbig : h.objs.size ≤ d
  dne : d ≠ e
  ns : h'.Ns1 d (fun y => if y = f then some v else none)
theorem own_made (T : OwnTxt prog K mg C fI nmC f) (hf : f = "value" ∨ f = "at") {s : Shared} {v : Value} (X : K.In s.heap) (hlim : s.heap.NoLimit) (hG : s.heap.Ns mainGlobals mg) (hB : s.heap.Ns builtinsNs mb) (hb : mb "super" = some (.type "super")) (hroom : A.depth + 1 < recursionLimit)
    (hq : ∀ h' tk e d, OwnMade s.heap h' e C d f v → R (.ok (.ret (.ref e))) { s with heap := h', toks := tk }) :
    codeAny (model prog w) A (.call (.ref C) ⟨[v], []⟩) R s := by
  obtain ⟨nm, q, N, bs, bm, sn, sub, ab, col, dd, k0, k1, k2, k3, k5, hC, hbm⟩ := T.cls
  obtain ⟨hp, g, dr, tk, os⟩ := s
  refine call_own F.excBase_ValueError (fun X => refsVE_contains X bm hbm) (X _ _ hC) (looks_findIn X T.iC) (fun self => bind_fn X self T.tC) (one_size v) ?_
  refine own_init T hf X hlim hG hB hb ?_ fun h' tk' dx M => ?_
  · show A.depth + 1 < recursionLimit
    exact hroom
  · obtain ⟨vs, ho, hv⟩ := M.obj
    exact ⟨rfl, hq h' tk' (hp.objs.size + 1) dx ⟨M.keep, Nat.le_succ _, ⟨_, _, ho, rfl, rfl, rfl, hv⟩, M.dbig, M.dne, M.ns⟩⟩
end
end QX
namespace L2
open PySem PySem.Spec PyProof.Rows
theorem relO_own {v : V} {v' : Value} {n : Str} (r : RelV v v') (f : Str) : RelO (List.lookup f [(n, v)]) (if f = n then some v' else none) := by
  by_cases hw : f = n
  · subst hw
    rw [if_pos rfl]
    have q : List.lookup f [(f, v)] = some v := by simp [List.lookup]
    rw [q]
    exact r
  · rw [if_neg hw]
    have qw : (f == n) = false := by simpa using hw
    have q2 : List.lookup f [(n, v)] = none := by simp [List.lookup, qw]
    rw [q2]
    trivial
section
variable {X : Cx} {C fI : Addr} {nmC f : Str}
/-- what stands in the text's heap stands still -/
theorem Inv.ofBase {pins : List (Addr × Obj)} {σ : St} {H : Hp} {s : Shared} (I : Inv X pins σ H s) {b : Addr} {o : Obj} (h : X.base.get? b = some o) : s.heap.get? b = some o := by
  have ok := I.ok
  have mod' : Mod ((b, o) :: X.K) X.mg X.base := ⟨fun a u e => by
    by_cases z : a = b
    · subst z
      simp [List.lookup] at e
      rw [h, e]
    · have : (a == b) = false := by simpa using z
      simp only [List.lookup, this] at e
      exact ok.mod.kin a u e, ok.mod.glob, ok.mod.blt, ok.mod.nolimit⟩
  let X' : Cx := { X with K := (b, o) :: X.K }
  have ok' : X'.Ok := ⟨mod', ok.kind, ok.glob, ok.blt, ok.above, ok.inj, ok.has, ok.cab, ok.hd, ok.frames, ok.stk, ok.exf, ok.bs, ok.bsz, ok.noex, ok.exfs, ok.funs, ok.frf⟩
  have I' : Inv X' pins σ H s := ⟨ok', I.os, I.bare, I.base, I.loc, I.cell, I.free, I.freeC, I.pin, I.hok, I.len⟩
  exact I'.kIn b o (by simp [X', List.lookup])
/-- C(e) -/
def tMkOwn (C : Addr) (f : Str) (ta : TA) : St → Hp → XK → Prop := fun σ H Q => ta σ H fun vs H1 => ∃ v, vs = [v] ∧ ∀ d, H1 d = none → Q (.ref C) (some d) (upd H1 d (.xd [(f, v)]))
theorem pmk_own1 {a : Expr} {ta : TA} {p pos : Pos} {k : Nat} (T : QX.OwnTxt X.prog X.K X.mg C fI nmC f) (hf : f = "value" ∨ f = "at") (hr : Room k X.A) (hk : 0 < k) (ha : PA X [a] ta) (hg : Gl X nmC) (hd : (nmC == ("__debug__" : Str)) = false)
    (he : starEach (a :: []) X.env = (false, eval a X.env) :: starEach [] X.env := by rfl) (hpl : (backTo pos (starEach [] X.env)).any (·.1) = false := by rfl) :
    PMk X (.Call (.Name nmC p) [a] [] pos) (tMkOwn C f ta) := by
  intro pins s σ H Q I h
  refine wpAny_Call_Name_kw (ld_glob I hg T.gC ?_ hd)
  refine PySem.W.callWith_K (h₀ := X.base) I.ok.mod.kin T.kC (thn (ha.run pos pins s σ H _ I h) fun us s1 hh => ?_) he hpl
  obtain ⟨vs, H1, I1, r1, v, ev, q1⟩ := hh
  subst ev
  refine ⟨I1.kIn, ?_⟩
  cases r1 with
  | cons rv rn =>
    rename_i v' us'
    cases rn
    show wpAny _ _ (call (.ref C) [v']) _ _ _
    have hlim := I1.nolimit
    obtain ⟨mb, hB, hmb⟩ := I1.ok.mod.blt
    have hG := I1.ok.mod.glob.keeps (h' := s1.heap) (fun b o e => I1.ofBase e)
    have hB' := hB.keeps (h' := s1.heap) (fun b o e => I1.ofBase e)
    obtain ⟨hp, g, dr, tk, os⟩ := s1
    refine wpAny_call (QX.own_made T hf I1.kIn hlim hG hB' ((hmb _ (by decide)).trans (by rfl)) (by have := hr.dp; omega) fun h' tk' e d M => ?_)
    show MkP X pins σ Q (.ref e) ⟨h', g, dr, tk', os⟩
    obtain ⟨oe, fv, hoe, hc, hd, hdat, h1⟩ := M.obj
    have hns := M.ns
    obtain ⟨G', g1, g2⟩ := restrict h' fun b => decide (b ≠ e)
    have gk : ∀ b, b ≠ e → G'.get? b = h'.get? b := fun b hb => g1 b (decide_eq_true hb)
    have ge : G'.get? e = none := g2 e (by simp)
    have old : ∀ b o, hp.get? b = some o → G'.get? b = some o := fun b o q => (gk b (Nat.ne_of_lt (Nat.lt_of_lt_of_le (Heap.lt_size q) M.new))).trans (M.keep b o q)
    have ob : ObjOk X.prog X.w (upd H1 d (.xd [(f, v)])) G' d (.xd [(f, v)]) :=
      ⟨_, hns.at (fun o q => (gk d M.dne).trans q), fun f => relO_own rv f⟩
    have J : Inv X pins σ (upd H1 d (.xd [(f, v)])) ⟨G', g, dr, tk', os⟩ := I1.laid (t' := tk') old M.dbig ob
    refine ⟨e, oe, fv, ⟨G', g, dr, tk', os⟩, _, .ref C, some d, rfl, J, fun b o q => ?_, ge, hoe, ⟨hc, hd⟩, hdat, h1, ?_, rfl, I1.bare, raises_own T.exC T.tyC, q1 d (I1.hok.fresh M.dbig)⟩
    · by_cases hb : b = e
      · have q' : G'.get? b = some o := q
        rw [hb, ge] at q'; cases q'
      · exact (gk b hb).symm.trans q
    · rw [upd_ne (Ne.symm M.dne)]
      exact I1.hok.fresh M.new
/-- raise C(e) -/
def tRaiseOwn (C : Addr) (f : Str) (W : WX) (ta : TA) : TS := fun _ σ H => tMkOwn C f ta σ H fun cls d H' => W cls d σ H'
theorem ps_raiseOwn {a : Expr} {ta : TA} {W : WX} {p pos pos2 : Pos} {k : Nat} (hc : X.calm = true) (T : QX.OwnTxt X.prog X.K X.mg C fI nmC f) (hf : f = "value" ∨ f = "at") (hr : Room k X.A) (hk : 0 < k) (tk : Takes X W) (ha : PA X [a] ta) (hg : Gl X nmC) (hd : (nmC == ("__debug__" : Str)) = false)
    (he : starEach (a :: []) X.env = (false, eval a X.env) :: starEach [] X.env := by rfl) (hpl : (backTo pos (starEach [] X.env)).any (·.1) = false := by rfl) :
    PS X (.Raise (some (.Call (.Name nmC p) [a] [] pos)) none pos2) (tRaiseOwn C f W ta) := ps_raise hc tk (pmk_own1 T hf hr hk ha hg hd he hpl)
/-- e.f, e the exception that the suite holds (at a; its class cls, its dict d) -/
def tByOwn (C : Addr) (f : Str) (a : Addr) (cls : Value) (d : Option Addr) (te : TE) : TE := fun σ H Q => te σ H fun x H1 => x = .ref a ∧ cls = .ref C ∧ ∃ (dd : Addr) (v : V), d = some dd ∧ H1 dd = some (.xd [(f, v)]) ∧ Q v H1
theorem pe_byOwn {a : Addr} {oe : Obj} {cls : Value} {d : Option Addr} {pn : List (Addr × Obj)} {e : Expr} {te : TE} {pos : Pos} (T : QX.OwnTxt X.prog X.K X.mg C fI nmC f) (hz : Zc cls d oe) (hf : ∃ vs, oe.data = .fields vs) (he : PE (X.suite a ((a, oe) :: pn)) e te)
    (hb : attributeBase e f X.env (eval e X.env) = eval e X.env := by rfl) :
    PE (X.suite a ((a, oe) :: pn)) (.Attribute e f pos) (tByOwn C f a cls d te) := by
  refine ⟨fun pins s σ H Q I h => ?_⟩
  refine attr_of hb (thn (he.run pins s σ H _ I h) fun u s1 hh => ?_)
  obtain ⟨x, H1, I1, rx, ex, ec, dd, v, ed, ea, q⟩ := hh
  subst ex
  obtain rfl : u = Value.ref a := rx
  subst ec
  subst ed
  obtain ⟨ha, _⟩ := I1.pin (a, oe) (List.mem_append_left _ List.mem_cons_self)
  obtain ⟨vs, hd⟩ := hf
  have hx : ObjOk X.prog X.w H1 s1.heap dd (.xd [(f, v)]) := I1.hok dd _ ea
  obtain ⟨mA, hns, hr⟩ := hx
  obtain ⟨od, ho, hl⟩ := lookIn_ns hns
  have l : List.lookup f [(f, v)] = some v := by simp [List.lookup]
  obtain ⟨u, hu, ru⟩ := RelO.some_of (v := v) (o := mA f) (by rw [← l]; exact hr f)
  have J : PySem.W.InstAt s1.heap a oe C (some od) := ⟨ha, hz.1, by unfold PySem.W.notCls; rw [hd] <;> rfl, by rw [hz.2]; exact ho⟩
  exact HandSPX.exc_get I1.kIn J T.ga T.gg T.exC (PySem.W.findObj_own T.hdC T.noN rfl (by rw [hl, hu])) (handed_of ru) ⟨v, H1, I1.tok _, ru, q⟩
end
end L2

/-! own exceptions among the evaluators: raise C(e), calls of defs that may raise, try .. except B as e -/
namespace QI
open PySem PySem.Spec PyProof.Rows L2
/-- the one field of an own exception -/
def fld (c : String) : Str := if c = "Refused" then "value" else "at"
theorem fld_ok (c : String) : fld c = "value" ∨ fld c = "at" := by
  unfold fld
  split
  · exact .inl rfl
  · exact .inr rfl
/-- what an exception is to the layer: its class, its own dict (new) with the one field -/
def EX (g : G0) (E : XK) : EK := fun m' H' e _ => ∀ dd v, RV g.K m' H' e.d v → H' dd = none → E (.ref (g.ct e.c)) (some dd) (upd H' dd (.xd [(fld e.c, v)]))
/-- what leaves is looked for -/
structure TX (X : Cx) (E : XK) : Prop where
  tk : Takes X (fun cls d _ H => E cls d H)
theorem TX.pass {X : Cx} {E : XK} (h : TX X E) : Passes (L2.CX X.prog X.w) X E := fun pins σ H s e s' I c => passAt h.tk σ pins H s e s' I c
theorem TX.ofW {X : Cx} {W : WX} (h : Takes X W) : TX X (fun cls d H => ∀ σ, W cls d σ H) := ⟨fun u s' ⟨a, B, sI, pins, σ, H, cls, d, h1, h2, h3, h4, h5, h6, h7, h8, h9⟩ => h u s' ⟨a, B, sI, pins, σ, H, cls, d, h1, h2, h3, h4, h5, h6, h7, h8, h9 σ⟩⟩

/-! ### raise -/
def sRaise (c : String) (L : IL) : IS := fun env st => (L env st).bind fun ds st1 => match ds with
  | [d] => .exn ⟨c, d⟩ st1
  | _ => .bad
section
variable {ct : String → Addr} {X : Cx} {E : XK} {pos p pos2 : Pos} {a : Expr} {L : IL} {k : Nat} {fI : Addr} {c : String} {nmC : Str}
theorem s_raise (hc : X.calm = true) (T : QX.OwnTxt X.prog X.K X.mg (ct c) fI nmC (fld c)) (hr : Room k X.A) (hk : 0 < k) (tx : TX X E) (ha : SA ct X (EX (gx ct X) E) [a] L) (hg : Gl X nmC := by rfl) (hd : (nmC == ("__debug__" : Str)) = false := by decide)
    (he : starEach (a :: []) X.env = (false, eval a X.env) :: starEach [] X.env := by rfl) (hpl : (backTo pos (starEach [] X.env)).any (·.1) = false := by rfl) :
    SS ct X (EX (gx ct X) E) (.Raise (some (.Call (.Name nmC p) [a] [] pos)) none pos2) (sRaise c L) :=
  ⟨(ps_raiseOwn hc T (fld_ok c) hr hk tx.tk ha.pa hg hd he hpl).imp fun Dn σ H ⟨m, env, st, re, rs, fin⟩ => ⟨m, env, st, re, rs, fin.bind.imp fun m1 H1 ds st1 g1 rs1 q vs rv => by
    split at q
    · rename_i d
      cases rv with
      | cons rd rn =>
        cases rn
        exact ⟨_, rfl, fun dd hdd => q m1 H1 (Grow.refl _ _) rs1 dd _ rd hdd⟩
    · exact q.elim⟩⟩
end
/-! ### a def that may raise -/
def spIX (g : G0) (n : Nat) (G : List D → Sto → Rs D) : Sp := fun vs H Q E => ∃ m ds st, ds.length = n ∧ RVs g.K m H ds vs ∧ RS g m H st ∧ Fin g (EX g E) m H (G ds st) (EndE g Q)
open Classical in
noncomputable def trimX (st0 : Sto) (e : Exn) (st' : Sto) : Rs D :=
  if st0.length ≤ st'.length ∧ e.d.lo st0.length = true ∧ Closed (st'.take st0.length) then .exn e (st'.take st0.length)
  else if st0.length ≤ st'.length ∧ e.d.lo st'.length = true ∧ Closed st' then .exn e st' else .bad
noncomputable def runX (N : List Str) (B : IS) (ds : List D) (st0 : Sto) : Rs D := match B (startE N ds) st0 with
  | .ok (.rt d) st' => trim st0 d st'
  | .ok (.nx _) st' => trim st0 .non st'
  | .exn e st' => trimX st0 e st'
  | _ => .bad
theorem trimX_ref {st0 st' : Sto} {e : Exn} {r : Rs Fl} (h : r = .exn e st') : Ref st0 r (trimX st0 e st') := by
  unfold trimX
  split
  · rename_i hz
    exact ⟨st'.drop st0.length, by rw [List.take_append_drop]; exact h, by rw [List.length_take, Nat.min_eq_left hz.1]; exact hz.2.1, hz.2.2, by rw [List.length_take, Nat.min_eq_left hz.1]; exact Nat.le_refl _⟩
  · split
    · rename_i hz
      exact ⟨[], by rw [List.append_nil]; exact h, hz.2.1, hz.2.2, hz.1⟩
    · exact trivial
theorem runX_ref {N : List Str} {B : IS} {ds : List D} {s : Sto} : Ref s (B (startE N ds) s) (runX N B ds s) := by
  unfold runX
  cases h : B (startE N ds) s with
  | ok fl st' =>
    cases fl with
    | rt d => exact (trim_ref (.inl rfl)).2
    | nx e => exact (trim_ref (.inr ⟨⟨e, rfl⟩, rfl⟩)).2
    | bk e => exact trivial
    | ct e => exact trivial
  | exn e s' => exact trimX_ref rfl
  | bad => exact trivial
theorem fin_refX {g : G0} {m : Mp} {H : Hp} {st0 : Sto} {r : Rs Fl} {gd : Rs D} {Q : VK} {E : XK} (hm : m.cs.length = st0.length) (hr : Ref st0 r gd) (fin : Fin g (EX g E) m H gd (EndE g Q)) : Fin g (EX g E) m H r (EndS g { nx := fun _ H' => Q .non H', rt := Q }) := by
  cases gd with
  | bad => exact fin.elim
  | exn e st' =>
    obtain ⟨j, h1, h3, h4, h5⟩ := hr
    rw [h1]
    exact fun m' H' gr rs dd v rv hdd => fin (m'.take st'.length) H' (gr.trunc (by rw [hm]; exact h5)) (rs.trunc h4) dd v (rv.trunc h3) hdd
  | ok d st' =>
    obtain ⟨d', j, k, h1, h2, h3, h4, h5⟩ := hr
    have key : ∀ m' H' v, Grow m H m' H' → RS g m' H' (st' ++ j) → RV g.K m' H' d' v → Q v H' := fun m' H' v gr rs rv => by
      have q : RV g.K (m'.take st'.length) H' d v := by rw [← h2]; exact fz_ok rs k rv (by rw [h2]; exact h3)
      exact fin (m'.take st'.length) H' (gr.trunc (by rw [hm]; exact h5)) (rs.trunc h4) v q
    rcases h1 with h1 | ⟨e, h1, rfl⟩
    · rw [h1]
      exact fun m' H' gr rs v rv => key m' H' v gr rs rv
    · rw [h1]
      exact fun m' H' gr rs σ' _ => key m' H' .non gr rs .non
section
variable {ct : String → Addr} {P : Program} {w : World} {K : PySem.W.Frag} {mg : Str → Option Value} {base : Heap} {x : Str} {st : Stmt} {f : Addr} {fd : FuncData} {N ps : List Str} {k : Nat} {B : IS} {G : List D → Sto → Rs D}
/-- the context of a raising def's body -/
abbrev bodyXX (P : Program) (w : World) (K : PySem.W.Frag) (mg : Str → Option Value) (base : Heap) (N : List Str) (qual : Str) (st : Stmt) (f : Addr) (cdv : Value) (A : Around) (outer : List Env) (s : Shared) (H : Hp) (E : XK) : Cx :=
  cxOf (L2.CX P w) P w K mg base N qual (defScope st) f cdv A outer s H E
structure KnX (ct : String → Addr) (P : Program) (w : World) (K : PySem.W.Frag) (mg : Str → Option Value) (base : Heap) (x : Str) (st : Stmt) (ps : List Str) (k : Nat) (G : List D → Sto → Rs D) (f : Addr) (fd : FuncData) : Prop where
  m : mg x = some (.ref f)
  fu : Fun K x x st f fd
  ok : FnOk P w K mg base (L2.CX P w) k f fd ps (spIX ⟨K, ct, P, w⟩ ps.length G)
theorem knX_of (m : mg x = some (.ref f)) (F : Fun K x x st f fd) (S : FnScope N ps (defScope st)) (hG : G = runX N B)
    (hB : ∀ (f : Addr) (cdv : Value) (A : Around) (outer : List Env) (s : Shared) (H : Hp) (E : XK), Room k (A.deeper (envOfC x (defScope st) s.heap.objs.size f cdv)) → TX (bodyXX P w K mg base N x st f cdv A outer s H E) E → SSs ct (bodyXX P w K mg base N x st f cdv A outer s H E) (EX ⟨K, ct, P, w⟩ E) (defBody st) B) : KnX ct P w K mg base x st ps (k + 1) G f fd := by
  refine ⟨m, F, F.okX S (fun vs H Q E h => ?_) (fun cdv A outer s H vs Q E hr h => ?_)⟩
  · obtain ⟨m, ds, st', h1, h2, _⟩ := h
    rw [← h2.length]; exact h1
  · obtain ⟨m, ds, st', h1, h2, h3, fin⟩ := h
    refine ⟨_, (hB f cdv A outer s H E hr ⟨takes_of rfl rfl rfl rfl⟩).pss, m, startE N ds, st', RE.start h2, h3, ?_⟩
    have href : Ref st' (B (startE N ds) st') (G ds st') := by rw [hG]; exact runX_ref
    exact fin_refX h3.len href fin
end
def iCallX (n l : Nat) (G : List D → Sto → Rs D) (L Lk : IL) : IE := fun env st => (L env st).bind fun ds st1 => (Lk env st1).bind fun es st2 => if ds.length = n ∧ es.length = l then G (ds ++ es) st2 else .bad
section
variable {ct : String → Addr} {X : Cx} {E : XK} {pos p : Pos} {a e : Expr} {es : List Expr} {L Lk : IL} {k : Nat} {f : Addr} {fd : FuncData} {ps ks : List Str} {G : List D → Sto → Rs D} {x : Str} {kws : List Keyword} {st : Stmt}
theorem pe_callK0X {sp : Sp} {E : XK} {g : List Value → List Value → List Value} {gV : List V → List V → List V} {tk : TA} (F : FnOk X.prog X.w X.K X.mg X.base (L2.CX X.prog X.w) k f fd ps sp) (hr : Room k X.A) (hg : Gl X x) (hm : X.mg x = some (.ref f)) (hk : PySem.W.keepIn X.K (.ref f) = true) (hb : KBinds X.K fd ps ks g gV) (hp : Passes (L2.CX X.prog X.w) X E)
    (hkw : PK X kws tk) (hall : (backToKw pos (keywordEach kws X.env)).all (·.1.isSome) = true := by rfl) (hks : (backToKw pos (keywordEach kws X.env)).filterMap (·.1) = ks := by rfl)
    (hdb : (x == ("__debug__" : Str)) = false := by decide)
    (hpl : ((backTo pos (starEach [] X.env)).any (·.1) || (backToKw pos (keywordEach kws X.env)).any (·.1.isNone)) = false := by rfl) :
    PE X (.Call (.Name x p) [] kws pos) (tCallK sp gV E tNil tk) := by
  refine ⟨fun pins s σ H Q I h => ?_⟩
  refine wpAny_Call_Name_kw (ld_glob I hg hm ?_ hdb)
  refine PySem.W.callWith_KW0 (h₀ := X.base) I.ok.mod.kin hk hall ?_ hpl
  refine thn (hkw.run pos pins s σ H _ I h) fun ws s2 ⟨zs, H2, I2, rz, q2⟩ => ⟨I2.kIn, ?_⟩
  rw [hks]
  exact run_fnk (us := []) F hr hb hp I2 .nil rz q2
/-- f(k = v, ..), f may raise -/
theorem si_knXK0 (F : KnX ct X.prog X.w X.K X.mg X.base x st ps k G f fd) (hr : Room k X.A) (tx : TX X E) (l : Nat) (hnl : l = ps.length) (h0 : 0 < ps.length)
    (hb : ∀ (kV doc pm : Value) (an : Option Addr) (cdv ct : Value) (us ws : List Value), us.length = 0 → ws.length = l → bindArgs (PySem.W.fnOf x x (defArgs st) (defBody st) (defScope st) .none kV doc pm an cdv ct) ⟨us, ks.zip ws⟩ = pure (ps.zip (us ++ ws)))
    (hkw : SK ct X (EX (gx ct X) E) kws Lk) (hg : Gl X x := by rfl)
    (hall : (backToKw pos (keywordEach kws X.env)).all (·.1.isSome) = true := by rfl) (hks : (backToKw pos (keywordEach kws X.env)).filterMap (·.1) = ks := by rfl)
    (hdb : (x == ("__debug__" : Str)) = false := by decide)
    (hpl : ((backTo pos (starEach [] X.env)).any (·.1) || (backToKw pos (keywordEach kws X.env)).any (·.1.isNone)) = false := by rfl) : SI ct X (EX (gx ct X) E) (.Call (.Name x p) [] kws pos) (iCallX 0 l G iNil Lk) :=
  ⟨(pe_callK0X F.ok hr hg F.m F.fu.kp (kb_of F.fu ks 0 l h0 hb) tx.pass hkw.pk hall hks hdb hpl).imp fun σ H Q ⟨m, env, st, re, rs, fin⟩ => by
    refine ⟨m, env, st, re, rs, Fin.imp (Fin.bind (show Fin (gx ct X) (EX (gx ct X) E) m H ((Lk env st).bind _) (EndE (gx ct X) Q) from fin)) fun m2 H2 es st2 g2 rs2 q2 zs rz => ?_⟩
    split at q2
    · rename_i hz
      exact ⟨m2, es, st2, by rw [hz.2, hnl], gK_rel hz .nil rz, rs2, q2⟩
    · exact q2.elim⟩
def iCallX0 (n : Nat) (G : List D → Sto → Rs D) (L : IL) : IE := fun env st => (L env st).bind fun ds st1 => if ds.length = n then G ds st1 else .bad
/-- f(e, ..), f may raise -/
theorem si_knX (F : KnX ct X.prog X.w X.K X.mg X.base x st ps k G f fd) (n : Nat) (hr : Room k X.A) (tx : TX X E) (hb : ∀ (kV doc pm : Value) (an : Option Addr) (cdv ct : Value) (us : List Value), us.length = ps.length → bindArgs (PySem.W.fnOf x x (defArgs st) (defBody st) (defScope st) .none kV doc pm an cdv ct) ⟨us, []⟩ = pure (ps.zip us))
    (ha : SA ct X (EX (gx ct X) E) (e :: es) L) (hn : ps.length = n := by rfl) (hg : Gl X x := by rfl) (hdb : (x == ("__debug__" : Str)) = false := by decide) (he : starEach (e :: es) X.env = (false, eval e X.env) :: starEach es X.env := by rfl) (hpl : (backTo pos (starEach es X.env)).any (·.1) = false := by rfl) :
    SI ct X (EX (gx ct X) E) (.Call (.Name x p) (e :: es) [] pos) (iCallX0 n G L) :=
  ⟨(pe_call F.ok hr hg F.m F.fu.kp (F.fu.binds hb) .nil tx.pass ha.pa hdb he hpl).imp fun σ H Q ⟨m, env, st, re, rs, fin⟩ => ⟨m, env, st, re, rs, fin.bind.imp fun m1 H1 ds st1 g1 rs1 q vs rv => by
    split at q
    · rename_i hz
      rw [List.append_nil]
      exact ⟨m1, ds, st1, by rw [hz, hn], rv, rs1, q⟩
    · exact q.elim⟩⟩
end
/-! ### try: S / except B as e: return .. -/
def sTry (cs : List String) (S : IS) (W : Exn → Sto → Rs D) : IS := fun env st => match S env st with
  | .exn e st' => if e.c ∈ cs then (W e st').bind fun d st2 => .ok (.rt d) st2 else .bad
  | r => r
/-- what the suite finds: its exception in slot i -/
def tSui (g : G0) (i : Nat) (W : Exn → Sto → Rs D) (a : Addr) (cls : Value) (d : Option Addr) : TS := fun Dn σ H => ∃ m st e dd v, (i < σ.length → σ[i]? = some (some (.ref a))) ∧ cls = .ref (g.ct e.c) ∧ d = some dd ∧ H dd = some (.xd [(fld e.c, v)]) ∧
  RS g m H st ∧ RV g.K m H e.d v ∧ Fin g noE m H (W e st) (EndE g Dn.rt)
section
variable {ct : String → Addr} {X : Cx} {pos p pos' np : Pos} {body suite : List Stmt} {b₀ : Stmt} {S : IS} {W : Exn → Sto → Rs D} {x n : Str} {c : Value} {cs : List String}
theorem s_try (i : Nat) (hs : X.stack = X.env :: X.outer) (hf : X.env.frame = some X.env.locals) (hN : X.N.Nodup) (hi : X.N[i]? = some n) (hln : X.env.kindOf n = some .local) (hc : Names X x c)
    (hm : ∀ c' ∈ cs, PySem.W.exmOne X.K (.ref (ct c')) c = some true)
    (hb : ∀ (E : XK) (pn : List (Addr × Obj)) (xe : Value → Shared → Prop), TX (X.tr pn xe) E → SSs ct (X.tr pn xe) (EX (gx ct X) E) body S)
    (hsu : ∀ (a : Addr) (oe : Obj) (cls : Value) (d : Option Addr) (pn : List (Addr × Obj)), Zc cls d oe → (∃ vs, oe.data = .fields vs) → PSs (X.suite a ((a, oe) :: pn)) (b₀ :: suite) (tSui (gx ct X) i W a cls d)) :
    SS ct X noE (.Try body [.ExceptHandler (some (.Name x np)) (some n) (b₀ :: suite) pos'] [] [] pos) (sTry cs S W) := by
  refine ⟨(ps_try_as (i := i) (tb := fun W' => tS (gx ct X) (EX (gx ct X) (fun cls d H => ∀ σ, W' cls d σ H)) S) (ts := tSui (gx ct X) i W) (Wout := fun _ _ _ _ => False) hs hf hN hi hln hc takes0 (fun W' pn xe tk _ => (hb _ pn xe (TX.ofW tk)).pss) hsu).imp fun Dn σ H ⟨m, env, st, re, rs, fin⟩ => ⟨m, env, st, re, rs, ?_⟩⟩
  unfold sTry at fin
  cases h : S env st with
  | ok fl st' => rw [h] at fin; exact fin
  | bad => rw [h] at fin; exact fin.elim
  | exn e st' =>
    rw [h] at fin
    simp only at fin
    intro m' H' gr rs' dd v rv hdd σ'
    by_cases hcs : e.c ∈ cs
    · rw [if_pos hcs] at fin
      refine ⟨true, hm _ hcs, fun _ a ha => ⟨m', st', e, dd, v, fun hl => ?_, rfl, rfl, upd_same, rs'.laid hdd, rv.mono (Grow.laid hdd), ?_⟩, fun z => Bool.noConfusion z⟩
      · rw [List.getElem?_set_self (by simpa using hl)]
      · have q := (Fin.bind fin).mono (gr.trans (Grow.laid (o := .xd [(fld e.c, v)]) hdd))
        exact q.imp fun m2 H2 d2 st2 g2 rs2 q2 w rw' => q2.here rs2 w rw'
    · rw [if_neg hcs] at fin
      exact fin.elim
end
/-! ### in a suite: isinstance(e, C), e.f -/
section
variable {X : Cx} {a D : Addr} {oe : Obj} {pn : List (Addr × Obj)}
def rIsX (K : PySem.W.Frag) (D a : Addr) (dd : Addr) (fs : List (Str × V)) : List V → Hp → VK → Prop := fun xs H Q => ∃ (cv : Addr) (b : Bool), xs = [.ref a, .ref cv] ∧ H dd = some (.xd fs) ∧ PySem.W.kitOne K (.ref D) (.ref cv) = some b ∧ Q (.bl b) H
theorem call_isX {dd : Addr} {f : Str} {v : V} (C : ExcC X.K D) (hcl : (PySem.W.clsIn X.K D).isSome = true) (hz : Zc (.ref D) (some dd) oe) (hf : ∃ vs, oe.data = .fields vs) : CallR (X.suite a ((a, oe) :: pn)) (.builtin "isinstance") (rIsX X.K D a dd [(f, v)]) := by
  intro pins s σ H xs us Q I r h
  obtain ⟨cv, b, rfl, hdd, hk, q⟩ := h
  obtain ⟨u1, u2, rfl, r1, r2⟩ := vals2 r
  obtain rfl : u1 = Value.ref a := r1
  obtain rfl : u2 = Value.ref cv := r2
  obtain ⟨ha, _⟩ := I.pin (a, oe) (List.mem_append_left _ List.mem_cons_self)
  obtain ⟨vs, hd⟩ := hf
  have hx : ObjOk X.prog X.w H s.heap dd (.xd [(f, v)]) := I.hok dd _ hdd
  obtain ⟨mA, hns, hr⟩ := hx
  obtain ⟨od, ho, hl⟩ := lookIn_ns hns
  have J : PySem.W.InstAt s.heap a oe D (some od) := ⟨ha, hz.1, by unfold PySem.W.notCls; rw [hd] <;> rfl, by rw [hz.2]; exact ho⟩
  exact PySem.W.kia_one (PySem.W.kitx_exc hcl C.hg C.hk C.hs C.ha C.hn C.ht C.hm) I.kIn J hk (by intro z; cases z) fun tk => ⟨.bl b, H, I.tok tk, rfl, q⟩
theorem pe_cls {x : Str} {p : Pos} {C : Addr} (hg : Gl X x) (hm : X.mg x = some (.ref C)) (hd : (x == ("__debug__" : Str)) = false := by decide) : PE X (.Name x p) (tC (.ref C)) :=
  ⟨fun pins s σ H Q I h => ld_glob I hg hm ⟨.ref C, H, I, rfl, h⟩ hd⟩
end
theorem pe_nvr {X : Cx} {e : Expr} : PE X e (fun _ _ _ => False) := ⟨fun _ _ _ _ _ _ h => h.elim⟩
section
variable {ct : String → Addr} {X : Cx} {C fI : Addr} {c : String} {nmC n t1 t2 : Str} {i : Nat}
def wIs (c : String) (t1 : Str) : Exn → Sto → Rs D := fun e st => if e.c = c then .ok (.tup [.str t1, e.d]) st else .bad
/-- return (t1, e.f) if isinstance(e, C) else (t2, 0) -/
theorem suite_is {p1 p2 p3 p4 p5 p6 p7 p8 p9 p10 p11 p12 p13 : Pos} {j1 j2 j3 : Nat} {x1 x2} (T : QX.OwnTxt X.prog X.K X.mg (ct c) fI nmC (fld c)) (E : ExcC X.K (ct c)) (hcl : (PySem.W.clsIn X.K (ct c)).isSome = true) (hgI : Gl X "isinstance") (hmI : X.mg "isinstance" = none) (hgC : Gl X nmC) (hd : (nmC == ("__debug__" : Str)) = false) (hi : X.N[i]? = some n)
    (hv : ∀ (a : Addr) (pn : List (Addr × Obj)) (p : Pos), PE (X.suite a pn) (.Name n p) (tVar i)) (hb : ∀ p, attributeBase (.Name n p) (fld c) X.env (eval (.Name n p) X.env) = eval (.Name n p) X.env)
    (he1 : starEach [.Name n p2, .Name nmC p3] X.env = (false, eval (.Name n p2) X.env) :: starEach [.Name nmC p3] X.env := by rfl) (he2 : starEach [.Name nmC p3] X.env = (false, eval (.Name nmC p3) X.env) :: starEach [] X.env := by rfl) (hpl : (backTo p4 (starEach [.Name nmC p3] X.env)).any (·.1) = false := by rfl)
    (he3 : starEach [.Constant (.str t1) j1 p5, .Attribute (.Name n p6) (fld c) p7] X.env = (false, eval (.Constant (.str t1) j1 p5) X.env) :: starEach [.Attribute (.Name n p6) (fld c) p7] X.env := by rfl) (he4 : starEach [.Attribute (.Name n p6) (fld c) p7] X.env = (false, eval (.Attribute (.Name n p6) (fld c) p7) X.env) :: starEach [] X.env := by rfl)
    (a : Addr) (oe : Obj) (cls : Value) (d : Option Addr) (pn : List (Addr × Obj)) (hz : Zc cls d oe) (hf : ∃ vs, oe.data = .fields vs) :
    PSs (X.suite a ((a, oe) :: pn)) [.Return (some (.IfExp (.Call (.Name "isinstance" p1) [.Name n p2, .Name nmC p3] [] p4) (.Tuple [.Constant (.str t1) j1 p5, .Attribute (.Name n p6) (fld c) p7] x1 p8) (.Tuple [.Constant (.str t2) j2 p9, .Constant (.int 0) j3 p10] x2 p11) p12)) p13] (tSui (gx ct X) i (wIs c t1) a cls d) := by
  refine ⟨fun pins s σ H D I h => ?_⟩
  obtain ⟨m, st, e, dd, v, hσ, rfl, rfl, hdd, rs, rv, fin⟩ := h
  unfold wIs at fin
  split at fin
  · rename_i hec
    subst hec
    have hi' : i < σ.length := by
      rw [I.len]
      exact (List.getElem?_eq_some_iff.mp hi).1
    have hσ' := hσ hi'
    refine (pss_one (ps_ret (pe_ifExp (pt_val (pe_callB (call_isX (f := fld e.c) (v := v) E hcl hz hf) hgI hmI boot_isinstance (pa_cons (hv _ _ p2) (pa_cons (pe_cls hgC T.gC hd) pa_nil he2) he1) (by decide) (by decide) he1 hpl)) (pe_tup (pa_cons pe_str (pa_cons (pe_byOwn T hz hf (hv _ _ p6) (hb p6)) pa_nil he4) he3)) pe_nvr))).run pins s σ H D I ?_
    refine ⟨_, hσ', ⟨ct e.c, true, rfl, hdd, by simp [PySem.W.kitOne], true, rfl, ?_⟩⟩
    show if true = true then _ else _
    rw [if_pos rfl]
    refine ⟨_, hσ', rfl, rfl, dd, v, rfl, hdd, by rw [PySem.sizeLine_eq]; exact (by decide : 2 ≤ 16777216), fun p hp => ?_⟩
    exact fin m (upd H p (.tup [.str t1, v])) (Grow.laid hp) (rs.laid hp) _ (.tup (show ST _ _ _ _ from upd_same) (.cons (.str _) (.cons (rv.mono (Grow.laid hp)) .nil)))
  · exact fin.elim
end
/-- what «except B» takes -/
theorem exm_of {K : PySem.W.Frag} {C B : Addr} (h1 : PySem.W.subIn K (.ref C) (.type "BaseException") = some true) (h2 : PySem.W.isClsIn K B = true) (h3 : PySem.W.typeIn K (.ref B) = some (.type "type")) (h4 : PySem.W.subIn K (.ref C) (.ref B) = some true) (h5 : PySem.W.subIn K (.ref B) (.type "BaseException") = some true) :
    PySem.W.exmOne K (.ref C) (.ref B) = some true := by
  have h2' : (PySem.W.clsIn K B).isSome = true := h2
  unfold PySem.W.exmOne PySem.W.kitCls
  simp only [h1, h2', h3, h4, h5]
  rfl
@[simp] theorem ev_raise (c : String) (L : IL) (env : Ev) (st : Sto) : sRaise c L env st = (L env st).bind fun ds st1 => match ds with
  | [d] => .exn ⟨c, d⟩ st1
  | _ => .bad := id rfl
@[simp] theorem ev_callX (n l : Nat) (G : List D → Sto → Rs D) (L Lk : IL) (env : Ev) (st : Sto) : iCallX n l G L Lk env st = (L env st).bind fun ds st1 => (Lk env st1).bind fun es st2 => if ds.length = n ∧ es.length = l then G (ds ++ es) st2 else .bad := id rfl
@[simp] theorem ev_callX0 (n : Nat) (G : List D → Sto → Rs D) (L : IL) (env : Ev) (st : Sto) : iCallX0 n G L env st = (L env st).bind fun ds st1 => if ds.length = n then G ds st1 else .bad := id rfl
end QI

/-! zip of lists, tuples, texts in any mix -/
namespace QI
open PySem PySem.Spec PyProof.Rows L2
/-- a source -/
inductive VS | lst (a : Addr) | tup (a : Addr) | txt (x : Str)
def VS.v : VS → V
  | .lst a => .ref a
  | .tup a => .ref a
  | .txt x => .str x
def chV (x : Str) : List V := x.cps.toList.map fun c => V.str ⟨#[c]⟩
def VS.has (K : PySem.W.Frag) (H : Hp) (xs : List V) : VS → Prop
  | .lst a => SqL K H a xs
  | .tup a => SqT K H a xs
  | .txt x => xs = chV x
def VS.fp (it : Addr) : VS → List Addr
  | .lst a => [it, a]
  | .tup a => [it, a]
  | .txt _ => [it]
def VS.ap (it : Addr) : VS → Prop
  | .lst a => a ≠ it
  | .tup a => a ≠ it
  | .txt _ => True
def VS.itAt (it : Addr) (i : Nat) (h : Heap) : VS → Prop
  | .lst a => h.IsListIter it a i
  | .tup a => h.IsTupleIter it a i
  | .txt x => (∃ t, h.IsStrIter it (strIterType x) x t i) ∧ i ≤ x.cps.size
theorem VS.itKeep {it : Addr} {i : Nat} {h h' : Heap} {c : VS} (s : c.itAt it i h) (k : ∀ o, h.get? it = some o → h'.get? it = some o) : c.itAt it i h' := by
  cases c with
  | lst a => exact Heap.IsListIter.at s fun o q => k o q
  | tup a => exact Heap.IsTupleIter.at s fun o q => k o q
  | txt x =>
    obtain ⟨⟨t, o, ho, h1, h2⟩, hi⟩ := s
    exact ⟨⟨t, o, k o ho, h1, h2⟩, hi⟩
theorem VS.itGet {it : Addr} {i : Nat} {h : Heap} {c : VS} (s : c.itAt it i h) : ∃ o, h.get? it = some o ∧ ∀ v : Option Value, o.data ≠ .cell v := by
  cases c with
  | lst a => obtain ⟨o, ho, h1, h2⟩ := s; exact ⟨o, ho, fun v q => by rw [h2] at q; cases q⟩
  | tup a => obtain ⟨o, ho, h1, h2⟩ := s; exact ⟨o, ho, fun v q => by rw [h2] at q; cases q⟩
  | txt x => obtain ⟨⟨t, o, ho, h1, h2⟩, hi⟩ := s; exact ⟨o, ho, fun v q => by rw [h2] at q; cases q⟩
theorem VS.mem (it : Addr) (c : VS) : it ∈ c.fp it := by cases c <;> simp [VS.fp]
section
variable {X : Cx} {pins : List (Addr × Obj)} {σ : L2.St} {H : Hp} {s : Shared}
/-- one draw -/
theorem src_draw (I : Inv X pins σ H s) (hc : X.calm = true) {c : VS} {xs : List V} (h : c.has X.K H xs) {it : Addr} (ha : c.ap it) {i : Nat} (hi : c.itAt it i s.heap) :
    ∃ n P St, PySem.Draws X.prog X.w X.A.in1 it (c.fp it) n P St ∧ St i s.heap ∧ i ≤ n ∧ (i < n ↔ i < xs.length) ∧ (∀ h', i < n → St (i + 1) h' → c.itAt it (i + 1) h') ∧ ∀ u, P i u → ∃ x, xs[i]? = some x ∧ RelV x u := by
  cases c with
  | lst a =>
    obtain ⟨its, rv, p, hz⟩ := I.list h
    by_cases hl : i < xs.length
    · refine ⟨_, _, _, Draws.list (prog := X.prog) (w := X.w) (A := X.A.in1) (I.ok.hd hc) it a ha its.toArray, ⟨hi, p.isList⟩, ?_, ?_, fun h' _ st => st.1, fun u hu => ?_⟩
      · rw [List.size_toArray, ← rv.length]; omega
      · rw [List.size_toArray, ← rv.length]
      · have q : its[i]? = some u := by simpa using hu
        obtain ⟨x, hx⟩ : ∃ x, xs[i]? = some x := ⟨_, List.getElem?_eq_getElem hl⟩
        obtain ⟨u', hu', ru⟩ := rv.get hx
        rw [q] at hu'; cases hu'
        exact ⟨x, hx, ru⟩
    · refine ⟨i, fun _ _ => False, fun j h => j = i ∧ h.IsListIter it a i ∧ h.IsList a its.toArray, ⟨fun _ _ st => let ⟨o, ho, _⟩ := st.2.1; ⟨o, ho⟩, fun _ _ _ st hk => ⟨st.1, st.2.1.at fun o e => hk it (by simp [VS.fp]) o e, st.2.2.at fun o e => hk a (by simp [VS.fp]) o e⟩,
        fun j s Q E hj hst hQ => absurd hst.1 (Nat.ne_of_lt hj), fun s Q E hst hE => wpAny_nextOf_list_end (I.ok.hd hc) hst.2.1 hst.2.2 (by have := rv.length; simp; omega) hE⟩, ⟨rfl, hi, p.isList⟩, Nat.le_refl _, ⟨fun z => absurd z (Nat.lt_irrefl _), fun z => absurd z hl⟩, fun h' z => absurd z (Nat.lt_irrefl _), fun u hu => hu.elim⟩
  | tup a =>
    obtain ⟨its, rv, p, hz⟩ := I.tuple h
    by_cases hl : i < xs.length
    · refine ⟨_, _, _, Draws.tuple (prog := X.prog) (w := X.w) (A := X.A.in1) (I.ok.hd hc) it a ha its.toArray, ⟨hi, p⟩, ?_, ?_, fun h' _ st => st.1, fun u hu => ?_⟩
      · rw [List.size_toArray, ← rv.length]; omega
      · rw [List.size_toArray, ← rv.length]
      · have q : its[i]? = some u := by simpa using hu
        obtain ⟨x, hx⟩ : ∃ x, xs[i]? = some x := ⟨_, List.getElem?_eq_getElem hl⟩
        obtain ⟨u', hu', ru⟩ := rv.get hx
        rw [q] at hu'; cases hu'
        exact ⟨x, hx, ru⟩
    · refine ⟨i, fun _ _ => False, fun j h => j = i ∧ h.IsTupleIter it a i ∧ h.IsTuple a its.toArray, ⟨fun _ _ st => let ⟨o, ho, _⟩ := st.2.1; ⟨o, ho⟩, fun _ _ _ st hk => ⟨st.1, st.2.1.at fun o e => hk it (by simp [VS.fp]) o e, st.2.2.at fun o e => hk a (by simp [VS.fp]) o e⟩,
        fun j s Q E hj hst hQ => absurd hst.1 (Nat.ne_of_lt hj), fun s Q E hst hE => wpAny_nextOf_tuple_end (I.ok.hd hc) hst.2.1 hst.2.2 (by have := rv.length; simp; omega) hE⟩, ⟨rfl, hi, p⟩, Nat.le_refl _, ⟨fun z => absurd z (Nat.lt_irrefl _), fun z => absurd z hl⟩, fun h' z => absurd z (Nat.lt_irrefl _), fun u hu => hu.elim⟩
  | txt x =>
    obtain ⟨⟨t, hit⟩, hle⟩ := hi
    have hx : xs = chV x := h
    subst hx
    have hlen : (chV x).length = x.cps.size := by simp [chV]
    refine ⟨_, _, _, Draws.text (prog := X.prog) (w := X.w) (A := X.A.in1) (I.ok.hd hc) it x t, hit, hle, by rw [hlen], fun h' hl st => ⟨⟨t, st⟩, hl⟩, fun u hu => ?_⟩
    obtain ⟨c, tk, hcx, rfl⟩ := hu
    refine ⟨.str ⟨#[c]⟩, ?_, ⟨tk, rfl⟩⟩
    unfold chV
    rw [List.getElem?_map, Array.getElem?_toList, hcx]; rfl
end
/-- the pairs of two sources -/
def ItzM (K : PySem.W.Frag) (c d : VS) : It :=
  ⟨fun i H => ∃ (xs ys : List V) (x y : V), c.has K H xs ∧ d.has K H ys ∧ xs[i]? = some x ∧ ys[i]? = some y,
   fun i H v H' => ∃ T x y, v = .ref T ∧ H T = none ∧ H' = upd H T (.tup [x, y]) ∧ (∀ xs, c.has K H xs → xs[i]? = some x) ∧ ∀ ys, d.has K H ys → ys[i]? = some y,
   fun i H => ∃ xs ys : List V, c.has K H xs ∧ d.has K H ys ∧ (xs.length ≤ i ∨ ys.length ≤ i)⟩
theorem has_inj {X : Cx} {pins : List (Addr × Obj)} {σ : L2.St} {H : Hp} {s : Shared} (I : Inv X pins σ H s) {c : VS} {xs ys : List V} (h1 : c.has X.K H xs) (h2 : c.has X.K H ys) : xs = ys := by
  cases c with
  | lst a => exact I.list_inj h1 h2
  | tup a => exact I.tuple_inj h1 h2
  | txt x => exact (show xs = chV x from h1).trans (show ys = chV x from h2).symm
theorem turn_zipM {P : Program} {w : World} {K : PySem.W.Frag} {elts : List Expr} {kk : Nat} {tpos : Pos} {c d : VS} {z TI TO i1 i2 : Addr} (sep : ZipSep2 z TI TO i1 i2 (c.fp i1) (d.fp i2)) (hc1 : c.ap i1) (hd1 : d.ap i2) :
    Turn P w K (.Tuple elts kk tpos) (ItzM K c d) [z, TI, TO, i1, i2] z (fun i h => IsZip h z TI TO .none ∧ IsTupOf2 h TI (.ref i1) (.ref i2) ∧ (∃ x y, IsTupOf2 h TO x y) ∧ c.itAt i1 i h ∧ d.itAt i2 i h) where
  mem := by simp
  obj := fun i h st b hb => by
    obtain ⟨h1, h2, ⟨x, y, h3⟩, h4, h5⟩ := st
    simp only [List.mem_cons, List.not_mem_nil, or_false] at hb
    rcases hb with rfl | rfl | rfl | rfl | rfl
    · exact ⟨_, h1, fun v q => nomatch q⟩
    · exact ⟨_, h2, fun v q => nomatch q⟩
    · exact ⟨_, h3, fun v q => nomatch q⟩
    · exact VS.itGet (c := c) h4
    · exact VS.itGet (c := d) h5
  keep := fun i h h' st k => by
    obtain ⟨h1, h2, ⟨x, y, h3⟩, h4, h5⟩ := st
    exact ⟨k z (by simp) _ h1, k TI (by simp) _ h2, ⟨x, y, k TO (by simp) _ h3⟩, VS.itKeep (c := c) h4 fun o q => k i1 (by simp) o q, VS.itKeep (c := d) h5 fun o q => k i2 (by simp) o q⟩
  item := by
    intro X hP hw hK hc i pins s σ H E I hf st hg
    subst hP hw hK
    obtain ⟨h1, h2, ⟨a1, a2, h3⟩, h4, h5⟩ := st
    obtain ⟨xs, ys, x, y, hx, hy, ex, ey⟩ := hg
    obtain ⟨n1, P1, St1, D1, s1, l1, lt1, n1', p1⟩ := src_draw I hc hx hc1 h4
    obtain ⟨n2, P2, St2, D2, s2, l2, lt2, n2', p2⟩ := src_draw I hc hy hd1 h5
    have hi1 : i < n1 := lt1.mpr (lt_of_get ex)
    have hi2 : i < n2 := lt2.mpr (lt_of_get ey)
    refine wpAny_pyNext_zipD2_item sep D1 D2 h1 h2 h3 s1 s2 hi1 hi2 fun u1 u2 h' tk q1 q2 hz hTO s1' s2' hT hsz hk => ?_
    obtain ⟨x', ex', rx⟩ := p1 u1 q1
    obtain ⟨y', ey', ry⟩ := p2 u2 q2
    rw [ex] at ex'; cases ex'
    rw [ey] at ey'; cases ey'
    have hzl : z < s.heap.objs.size := Heap.lt_size h1
    refine ⟨_, rfl, wpAny_letOwnedTupleGo_zip (s := { s with heap := h', toks := tk }) hz fun h'' hz' sb => ?_⟩
    have hT2 : h''.get? s.heap.objs.size = some { cls := .type "tuple", data := .seq #[u1, u2] } := (sb.2 _ (Nat.ne_of_gt hzl)).trans hT
    have new : ObjOk X.prog X.w (upd H s.heap.objs.size (.tup [x, y])) h'' s.heap.objs.size (.tup [x, y]) :=
      ⟨by show 2 ≤ sizeLine; decide, [u1, u2], .cons rx (.cons ry .nil), ⟨_, hT2, rfl, _, rfl⟩⟩
    have I1 : Inv X pins σ (upd H s.heap.objs.size (.tup [x, y])) { s with heap := h'', toks := tk } :=
      I.turnedNew (ch := [z, TO, i1, i2]) (fun b ob hb q => (sb.2 b (fun e => hb (by simp [e]))).trans (hk b ob (fun e => hb (by simp [e])) (fun e => hb (by simp [e])) (fun e => hb (by simp [e])) (fun e => hb (by simp [e])) q))
        (fun b hb => hf b (by
          simp only [List.mem_cons, List.not_mem_nil, or_false] at hb ⊢
          rcases hb with e | e | e | e <;> simp [e])) (Nat.le_refl _) new
    refine ⟨.ref s.heap.objs.size, _, I1, rfl, ⟨_, x, y, rfl, I.hok.fresh (Nat.le_refl _), rfl, fun zs hzs => by rw [has_inj I hzs hx]; exact ex, fun zs hzs => by rw [has_inj I hzs hy]; exact ey⟩, ⟨hz', ?_, ⟨u1, u2, (sb.2 TO sep.TOz).trans hTO⟩, ?_, ?_⟩, fun b hb => ?_⟩
    · exact (sb.2 TI sep.TIz).trans (hk TI _ sep.TIz sep.TITO sep.TIi1 sep.TIi2 h2)
    · exact VS.itKeep (c := c) (n1' h' hi1 s1') fun o q => (sb.2 i1 (fun e => sep.zf1 (e ▸ sep.mem1))).trans q
    · exact VS.itKeep (c := d) (n2' h' hi2 s2') fun o q => (sb.2 i2 (fun e => sep.zf2 (e ▸ sep.mem2))).trans q
    · have hb' : b < s.heap.objs.size := by
        simp only [List.mem_cons, List.not_mem_nil, or_false] at hb
        rcases hb with rfl | rfl | rfl | rfl | rfl
        · exact hzl
        · exact Heap.lt_size h2
        · exact Heap.lt_size h3
        · obtain ⟨o, ho, _⟩ := VS.itGet (c := c) h4; exact Heap.lt_size ho
        · obtain ⟨o, ho, _⟩ := VS.itGet (c := d) h5; exact Heap.lt_size ho
      rw [upd_ne (Nat.ne_of_lt hb')]
      exact (hf b hb).1
  done := by
    intro X hP hw hK hc i pins s σ H E I hf st hg
    subst hP hw hK
    obtain ⟨h1, h2, ⟨a1, a2, h3⟩, h4, h5⟩ := st
    obtain ⟨xs, ys, hx, hy, hl⟩ := hg
    obtain ⟨n1, P1, St1, D1, s1, l1, lt1, n1', p1⟩ := src_draw I hc hx hc1 h4
    obtain ⟨n2, P2, St2, D2, s2, l2, lt2, n2', p2⟩ := src_draw I hc hy hd1 h5
    refine wpAny_pyNext_zipD2_end sep D1 D2 h1 h2 h3 s1 s2 l1 l2 ?_ fun h' tk hk => ⟨rfl, ?_⟩
    · rcases hl with hl | hl
      · left
        have : ¬ i < n1 := fun q => absurd (lt1.mp q) (by omega)
        omega
      · right
        have : ¬ i < n2 := fun q => absurd (lt2.mp q) (by omega)
        omega
    · exact I.turnedL (ch := [z, TO, i1, i2]) (t' := tk) (fun b ob hb q => hk b ob (fun e => hb (by simp [e])) (fun e => hb (by simp [e])) (fun e => hb (by simp [e])) (fun e => hb (by simp [e])) q) (fun b hb => hf b (by
          simp only [List.mem_cons, List.not_mem_nil, or_false] at hb ⊢
          rcases hb with e | e | e | e <;> simp [e]))
  self := fun A i s Q E st h => wpAny_pyIter_zip st.1 h
def iZipM (K : PySem.W.Frag) (ta : TA) : TI := fun σ H R => ta σ H fun vs H1 => ∃ (c d : VS) (xs ys : List V), vs = [c.v, d.v] ∧ c.has K H1 xs ∧ d.has K H1 ys ∧ R (ItzM K c d) H1
/-- where a source begins -/
theorem src_begins {X : Cx} {pins : List (Addr × Obj)} {σ : L2.St} {H : Hp} {s : Shared} (I : Inv X pins σ H s) {c : VS} {xs : List V} (h : c.has X.K H xs) {u : Value} (r : RelV c.v u) : ∃ o P, Begins u o P ∧ P s.heap ∧ (∀ (h' : Heap) (it : Addr), h'.get? it = some o → c.itAt it 0 h') ∧ (∀ b ∈ c.fp s.heap.objs.size, b ≠ s.heap.objs.size → b < s.heap.objs.size) ∧ ∀ it, s.heap.objs.size ≤ it → c.ap it := by
  cases c with
  | lst a =>
    obtain ⟨its, rv, p, hz⟩ := I.list h
    obtain rfl : u = .ref a := r
    have hl : a < s.heap.objs.size := by obtain ⟨o, n, ho, _⟩ := p; exact Heap.lt_size ho
    refine ⟨_, _, begins_list a its.toArray, p.isList, fun h' it g => ⟨_, g, rfl, rfl⟩, fun b hb hn => ?_, fun it hit => Nat.ne_of_lt (Nat.lt_of_lt_of_le hl hit)⟩
    simp only [VS.fp, List.mem_cons, List.not_mem_nil, or_false] at hb
    rcases hb with e | e
    · exact absurd e hn
    · rw [e]; exact hl
  | tup a =>
    obtain ⟨its, rv, p, hz⟩ := I.tuple h
    obtain rfl : u = .ref a := r
    have hl : a < s.heap.objs.size := p.lt
    refine ⟨_, _, begins_tuple a its.toArray, p, fun h' it g => ⟨_, g, rfl, rfl⟩, fun b hb hn => ?_, fun it hit => Nat.ne_of_lt (Nat.lt_of_lt_of_le hl hit)⟩
    simp only [VS.fp, List.mem_cons, List.not_mem_nil, or_false] at hb
    rcases hb with e | e
    · exact absurd e hn
    · rw [e]; exact hl
  | txt x =>
    obtain ⟨t, rfl⟩ := (show ∃ t, u = .str x t from r)
    refine ⟨_, _, begins_text x t, trivial, fun h' it g => ⟨⟨t, _, g, rfl, rfl⟩, Nat.zero_le _⟩, fun b hb hn => ?_, fun it hit => trivial⟩
    simp only [VS.fp, List.mem_singleton] at hb
    exact absurd hb hn
theorem fp_split (c : VS) (it N : Addr) (h : ∀ b ∈ c.fp N, b ≠ N → b < N) : ∃ l, c.fp it = it :: l ∧ ∀ b ∈ l, b < N ∨ b = N := by
  cases c with
  | lst a =>
    refine ⟨[a], rfl, fun b hb => ?_⟩
    rw [List.mem_singleton] at hb
    subst hb
    by_cases e : b = N
    · exact .inr e
    · exact .inl (h b (by simp [VS.fp]) e)
  | tup a =>
    refine ⟨[a], rfl, fun b hb => ?_⟩
    rw [List.mem_singleton] at hb
    subst hb
    by_cases e : b = N
    · exact .inr e
    · exact .inl (h b (by simp [VS.fp]) e)
  | txt x => exact ⟨[], rfl, fun b hb => nomatch hb⟩
theorem pi_zipM {X : Cx} {e e2 : Expr} {ta : TA} {p pos tpos : Pos} {elts : List Expr} {kk : Nat} (hg : Gl X "zip") (hm : X.mg "zip" = none) (ha : PA X [e, e2] ta) (hs : starEach [e, e2] X.env = (false, eval e X.env) :: starEach [e2] X.env := by rfl) (hpl : (backTo pos (starEach [e2] X.env)).any (·.1) = false := by rfl) :
    PI X (.Tuple elts kk tpos) (.Call (.Name "zip" p) [e, e2] [] pos) (iZipM X.K ta) := by
  refine ⟨fun pins s σ H R I h => ?_⟩
  refine Call_ (ld_blt I hg hm boot_zip (PyProof.Rows.callWith_type1 (thn (ha.run pos pins s σ H _ I h) fun us s1 ⟨vs, H1, I1, r1, q1⟩ => ?_) hs hpl))
  obtain ⟨c, d, xs, ys, ex, hx, hy, q⟩ := q1
  subst ex
  cases r1 with
  | cons ru rr =>
    cases rr with
    | cons rv rn =>
      cases rn
      obtain ⟨o1, P1, B1, hP1, at1, fp1, ap1⟩ := src_begins I1 hx ru
      obtain ⟨o2, P2, B2, hP2, at2, fp2, ap2⟩ := src_begins I1 hy rv
      refine zip_begins2 B1 B2 hP1 hP2 fun h' hz hTI hTO g1 g2 hsz hk => wpAny_pyIter_zip hz ?_
      have I2 : Inv X pins σ H1 { s1 with heap := h' } := I1.kept (t' := s1.toks) hk
      have a1 := ap1 s1.heap.objs.size (Nat.le_refl _)
      have a2 := ap2 (s1.heap.objs.size + 1) (Nat.le_succ _)
      obtain ⟨l1, e1, b1⟩ : ∃ l, c.fp s1.heap.objs.size = s1.heap.objs.size :: l ∧ ∀ b ∈ l, b < s1.heap.objs.size := by
        cases c with
        | lst a => exact ⟨[a], rfl, fun b hb => by rw [List.mem_singleton] at hb; subst hb; exact fp1 b (by simp [VS.fp]) a1⟩
        | tup a => exact ⟨[a], rfl, fun b hb => by rw [List.mem_singleton] at hb; subst hb; exact fp1 b (by simp [VS.fp]) a1⟩
        | txt x => exact ⟨[], rfl, fun b hb => nomatch hb⟩
      have a3 := ap2 s1.heap.objs.size (Nat.le_refl _)
      obtain ⟨l2, e2', b2⟩ : ∃ l, d.fp (s1.heap.objs.size + 1) = (s1.heap.objs.size + 1) :: l ∧ ∀ b ∈ l, b < s1.heap.objs.size := by
        cases d with
        | lst a => exact ⟨[a], rfl, fun b hb => by rw [List.mem_singleton] at hb; subst hb; exact fp2 b (by simp [VS.fp]) a3⟩
        | tup a => exact ⟨[a], rfl, fun b hb => by rw [List.mem_singleton] at hb; subst hb; exact fp2 b (by simp [VS.fp]) a3⟩
        | txt x => exact ⟨[], rfl, fun b hb => nomatch hb⟩
      have sep : ZipSep2 (s1.heap.objs.size + 4) (s1.heap.objs.size + 2) (s1.heap.objs.size + 3) s1.heap.objs.size (s1.heap.objs.size + 1) (c.fp s1.heap.objs.size) (d.fp (s1.heap.objs.size + 1)) := by
        rw [e1, e2']
        exact zip_sep2 b1 b2
      refine ⟨s1.heap.objs.size + 4, [s1.heap.objs.size + 4, s1.heap.objs.size + 2, s1.heap.objs.size + 3, s1.heap.objs.size, s1.heap.objs.size + 1], _, _, H1, rfl, I2, turn_zipM sep a1 a2, ⟨hz, hTI, ⟨_, _, hTO⟩, at1 h' _ g1, at2 h' _ g2⟩, fun b hb => ?_, q⟩
      have hle : s1.heap.objs.size ≤ b := by
        simp only [List.mem_cons, List.not_mem_nil, or_false] at hb
        rcases hb with e | e | e | e | e <;> rw [e] <;> first | exact Nat.le_add_right _ _ | exact Nat.le_refl _
      exact I1.fpOk hle (I1.hok.fresh hle)
/-! ### as evaluated -/
def srcW (st : Sto) : D → Option Wk
  | .tup xs => some (wkSeq xs)
  | .rol xs => some (wkSeq xs)
  | .scr xs => some (wkSeq xs)
  | .str x => some (wkStr x)
  | .ref n => match st[n]? with
    | some (.lst _) => some (wkLive n)
    | _ => none
  | _ => none
def WkSrc (g : G0) (m0 : Mp) (H0 : Hp) (c : VS) (wk : Wk) : Prop := ∀ (i : Nat) (m : Mp) (H : Hp) (st : Sto), Moves g.K m0 H0 m H → RS g m H st → match wk i st with
  | some (some d) => (∃ xs x, c.has g.K H xs ∧ xs[i]? = some x) ∧ ∀ x, (∀ xs, c.has g.K H xs → xs[i]? = some x) → RV g.K m H d x
  | some none => ∃ xs, c.has g.K H xs ∧ xs.length ≤ i
  | none => True
theorem wkSrcL {g : G0} {m0 : Mp} {H0 : Hp} {a : Addr} {wk : Wk} (h : WkOk g m0 H0 (Itl g.K a) wk) : WkSrc g m0 H0 (.lst a) wk := fun i m H st mv rs => by
  have q := h i m H st mv rs
  cases e : wk i st with
  | none => trivial
  | some o =>
    rw [e] at q
    cases o with
    | none => exact q
    | some d => exact ⟨q.1, fun x hx => (q.2 x H ⟨rfl, hx⟩).2.2⟩
theorem wkSrcT {g : G0} {m0 : Mp} {H0 : Hp} {a : Addr} {wk : Wk} (h : WkOk g m0 H0 (Itt g.K a) wk) : WkSrc g m0 H0 (.tup a) wk := fun i m H st mv rs => by
  have q := h i m H st mv rs
  cases e : wk i st with
  | none => trivial
  | some o =>
    rw [e] at q
    cases o with
    | none => exact q
    | some d => exact ⟨q.1, fun x hx => (q.2 x H ⟨rfl, hx⟩).2.2⟩
theorem wkSrcS {g : G0} {m0 : Mp} {H0 : Hp} {x : Str} : WkSrc g m0 H0 (.txt x) (wkStr x) := fun i m H st mv rs => by
  have hg : (chV x)[i]? = x.cps[i]?.map fun c => V.str ⟨#[c]⟩ := by
    unfold chV
    rw [List.getElem?_map, Array.getElem?_toList]
  unfold wkStr
  cases e : x.cps[i]? with
  | none => exact ⟨chV x, rfl, by simp [chV]; exact Array.getElem?_eq_none_iff.mp e⟩
  | some c =>
    rw [e] at hg
    refine ⟨⟨chV x, _, rfl, hg⟩, fun v hv => ?_⟩
    have := hv (chV x) rfl
    rw [hg] at this
    cases this
    exact .str _
theorem srcW_of {g : G0} {m : Mp} {H : Hp} {st : Sto} {d : D} {v : V} {wk : Wk} (rs : RS g m H st) (r : RV g.K m H d v) (e : srcW st d = some wk) : ∃ (c : VS) (xs : List V), v = c.v ∧ c.has g.K H xs ∧ WkSrc g m H c wk := by
  cases d with
  | tup xs =>
    obtain ⟨a, rfl, ⟨ys, hy⟩, ok⟩ := wkT_of rs r (show seqWk2 st (.tup xs) = some (true, wk) by simp only [srcW] at e; cases e; rfl)
    exact ⟨.tup a, ys, rfl, hy, wkSrcT ok⟩
  | rol xs =>
    obtain ⟨a, rfl, ⟨ys, hy⟩, ok⟩ := wkL_of rs r (show seqWk2 st (.rol xs) = some (false, wk) by simp only [srcW] at e; cases e; rfl)
    exact ⟨.lst a, ys, rfl, hy, wkSrcL ok⟩
  | scr xs =>
    obtain ⟨a, rfl, ⟨ys, hy⟩, ok⟩ := wkL_of rs r (show seqWk2 st (.scr xs) = some (false, wk) by simp only [srcW] at e; cases e; rfl)
    exact ⟨.lst a, ys, rfl, hy, wkSrcL ok⟩
  | ref n =>
    simp only [srcW] at e
    split at e
    · rename_i xs hx
      obtain ⟨a, rfl, ⟨ys, hy⟩, ok⟩ := wkL_of rs r (show seqWk2 st (.ref n) = some (false, wk) by cases e; simp only [seqWk2, hx])
      exact ⟨.lst a, ys, rfl, hy, wkSrcL ok⟩
    · cases e
  | str x =>
    cases e
    cases r
    exact ⟨.txt x, chV x, rfl, rfl, wkSrcS⟩
  | non => cases e
  | bl _ => cases e
  | int _ => cases e
theorem wk_zipM {g : G0} {m0 : Mp} {H0 : Hp} {c d : VS} {wk wk' : Wk} (h : WkSrc g m0 H0 c wk) (h' : WkSrc g m0 H0 d wk') : WkOk g m0 H0 (ItzM g.K c d) (wkZip wk wk') := fun i m H st mv rs => by
  have q := h i m H st mv rs
  have q' := h' i m H st mv rs
  unfold wkZip
  cases e : wk i st with
  | none => trivial
  | some o =>
    cases e' : wk' i st with
    | none => cases o <;> trivial
    | some o' =>
      rw [e] at q
      rw [e'] at q'
      cases o with
      | none =>
        obtain ⟨xs, hx, hl⟩ := q
        cases o' with
        | none => obtain ⟨ys, hy, _⟩ := q'; exact ⟨xs, ys, hx, hy, .inl hl⟩
        | some d' => obtain ⟨⟨ys, y, hy, _⟩, _⟩ := q'; exact ⟨xs, ys, hx, hy, .inl hl⟩
      | some d =>
        cases o' with
        | none => obtain ⟨ys, hy, hl⟩ := q'; obtain ⟨⟨xs, x, hx, _⟩, _⟩ := q; exact ⟨xs, ys, hx, hy, .inr hl⟩
        | some d' =>
          obtain ⟨⟨xs, x, hx, ex⟩, f⟩ := q
          obtain ⟨⟨ys, y, hy, ey⟩, f'⟩ := q'
          refine ⟨⟨xs, ys, x, y, hx, hy, ex, ey⟩, fun v H' yy => ?_⟩
          obtain ⟨T, x1, y1, rfl, hT, rfl, h1, h2⟩ := yy
          have r1 := f x1 h1
          have r2 := f' y1 h2
          have gr : Grow m H m (upd H T (.tup [x1, y1])) := Grow.laid hT
          exact ⟨rs.laid hT, gr, .tup upd_same (.cons (r1.mono gr) (.cons (r2.mono gr) .nil))⟩
def fZipM : List D → Sto → Rs Wk
  | [d, e], st => match srcW st d, srcW st e with
    | some wk, some wk' => .ok (wkZip wk wk') st
    | _, _ => .bad
  | _, _ => .bad
section
variable {ct : String → Addr} {X : Cx} {E : EK} {pos p tpos : Pos} {a b : Expr} {elts : List Expr} {L : IL} {kk : Nat}
theorem w_zipM (hg : Gl X "zip") (hm : X.mg "zip" = none) (ha : SA ct X E [a, b] L) (hs : starEach [a, b] X.env = (false, eval a X.env) :: starEach [b] X.env := by rfl) (hpl : (backTo pos (starEach [b] X.env)).any (·.1) = false := by rfl) :
    SWk ct X E (.Tuple elts kk tpos) (.Call (.Name "zip" p) [a, b] [] pos) (iWalkC fZipM L) :=
  ⟨(pi_zipM hg hm ha.pa hs hpl).imp fun σ H R ⟨m, env, st, re, rs, fin⟩ => ⟨m, env, st, re, rs, fin.bind.imp fun m1 H1 ds st1 g1 rs1 q vs rv => by
    unfold fZipM at q
    split at q
    · cases rv with
      | cons r1 r2 =>
        cases r2 with
        | cons r2 r3 =>
          cases r3
          split at q
          · rename_i k1 k2
            obtain ⟨c, xs, rfl, hx, o1⟩ := srcW_of rs1 r1 k1
            obtain ⟨d, ys, rfl, hy, o2⟩ := srcW_of rs1 r2 k2
            exact ⟨c, d, xs, ys, rfl, hx, hy, Fin.here q rs1 _ (wk_zipM o1 o2)⟩
          · exact q.elim
    · exact q.elim⟩⟩
end
end QI

/-! another suite: if not isinstance(e, C) or isinstance(e, D1) or isinstance(e, D2): return ..; return (t1, e.f) -/
namespace QI
open PySem PySem.Spec PyProof.Rows L2
section
variable {ct : String → Addr} {X : Cx} {C fI : Addr} {c : String} {nmC n t1 t2 n1 n2 : Str} {i : Nat}
theorem suite_nots {p1 p2 p3 p4 p5 p6 p7 p8 p9 r1 r2 r3 r4 r5 r6 r7 r8 s1 s2 s3 s4 s5 s6 s7 : Pos} {j1 j2 j3 : Nat} {x1 x2} {d1 d2 : Addr} (T : QX.OwnTxt X.prog X.K X.mg (ct c) fI nmC (fld c)) (E : ExcC X.K (ct c)) (hcl : (PySem.W.clsIn X.K (ct c)).isSome = true) (hgI : Gl X "isinstance") (hmI : X.mg "isinstance" = none) (hgC : Gl X nmC ∧ Gl X n1 ∧ Gl X n2) (hd : (nmC == ("__debug__" : Str)) = false ∧ (n1 == ("__debug__" : Str)) = false ∧ (n2 == ("__debug__" : Str)) = false)
    (g1 : X.mg n1 = some (.ref d1)) (g2 : X.mg n2 = some (.ref d2)) (k1 : PySem.W.kitOne X.K (.ref (ct c)) (.ref d1) = some false) (k2 : PySem.W.kitOne X.K (.ref (ct c)) (.ref d2) = some false) (hi : X.N[i]? = some n)
    (hv : ∀ (a : Addr) (pn : List (Addr × Obj)) (p : Pos), PE (X.suite a pn) (.Name n p) (tVar i)) (hb : ∀ p, attributeBase (.Name n p) (fld c) X.env (eval (.Name n p) X.env) = eval (.Name n p) X.env)
    (he1 : ∀ (m : Str) (p p' : Pos), starEach [.Name n p, .Name m p'] X.env = (false, eval (.Name n p) X.env) :: starEach [.Name m p'] X.env := by intros; rfl) (he2 : ∀ (m : Str) (p' : Pos), starEach [.Name m p'] X.env = (false, eval (.Name m p') X.env) :: starEach [] X.env := by intros; rfl) (hpl : ∀ (m : Str) (p p' : Pos), (backTo p (starEach [.Name m p'] X.env)).any (·.1) = false := by intros; rfl)
    (he3 : starEach [.Constant (.str t1) j1 p5, .Attribute (.Name n p6) (fld c) p7] X.env = (false, eval (.Constant (.str t1) j1 p5) X.env) :: starEach [.Attribute (.Name n p6) (fld c) p7] X.env := by rfl) (he4 : starEach [.Attribute (.Name n p6) (fld c) p7] X.env = (false, eval (.Attribute (.Name n p6) (fld c) p7) X.env) :: starEach [] X.env := by rfl)
    (a : Addr) (oe : Obj) (cls : Value) (d : Option Addr) (pn : List (Addr × Obj)) (hz : Zc cls d oe) (hf : ∃ vs, oe.data = .fields vs) :
    PSs (X.suite a ((a, oe) :: pn)) [.If (.BoolOp .Or [.UnaryOp .Not (.Call (.Name "isinstance" p1) [.Name n p2, .Name nmC p3] [] p4) r1, .Call (.Name "isinstance" r2) [.Name n r3, .Name n1 r4] [] r5, .Call (.Name "isinstance" r6) [.Name n r7, .Name n2 r8] [] s1] s2) [.Return (some (.Tuple [.Constant (.str t2) j2 s3, .Constant (.int 0) j3 s4] x2 s5)) s6] [] s7,
      .Return (some (.Tuple [.Constant (.str t1) j1 p5, .Attribute (.Name n p6) (fld c) p7] x1 p8)) p9] (tSui (gx ct X) i (wIs c t1) a cls d) := by
  refine ⟨fun pins s σ H D I h => ?_⟩
  obtain ⟨m, st, e, dd, v, hσ, rfl, rfl, hdd, rs, rv, fin⟩ := h
  unfold wIs at fin
  split at fin
  · rename_i hec
    subst hec
    have hi' : i < σ.length := by
      rw [I.len]
      exact (List.getElem?_eq_some_iff.mp hi).1
    have hσ' := hσ hi'
    have isx : ∀ {m : Str} {dC : Addr} {p p' p'' p3 : Pos}, Gl X m → (m == ("__debug__" : Str)) = false → X.mg m = some (.ref dC) → PE (X.suite a ((a, oe) :: pn)) (.Call (.Name "isinstance" p) [.Name n p', .Name m p''] [] p3) (tCB (rIsX X.K (ct e.c) a dd [(fld e.c, v)]) (tCons (tVar i) (tCons (tC (.ref dC)) tNil))) :=
      fun hg hd' hm' => pe_callB (call_isX (f := fld e.c) (v := v) E hcl hz hf) hgI hmI boot_isinstance (pa_cons (hv _ _ _) (pa_cons (pe_cls hg hm' hd') pa_nil (he2 _ _)) (he1 _ _ _)) (by decide) (by decide) (he1 _ _ _) (hpl _ _ _)
    refine (pss_cons (ps_if (PW.pt (pw_or (pt_not (pt_val (isx hgC.1 hd.1 T.gC))) (pw_or (pt_val (isx hgC.2.1 hd.2.1 g1)) (pw_or1 (pt_val (isx hgC.2.2 hd.2.2 g2)))))) (pss_never) pss_nil)
      (pss_one (ps_ret (pe_tup (pa_cons pe_str (pa_cons (pe_byOwn T hz hf (hv _ _ p6) (hb p6)) pa_nil he4) he3))))).run pins s σ H D I ?_
    refine ⟨_, hσ', ⟨ct e.c, true, rfl, hdd, by simp [PySem.W.kitOne], true, rfl, ?_⟩⟩
    show if (!true) = true then _ else _
    rw [if_neg (by decide)]
    refine ⟨_, hσ', ⟨d1, false, rfl, hdd, k1, false, rfl, ?_⟩⟩
    show if false = true then _ else _
    rw [if_neg (by decide)]
    refine ⟨_, hσ', ⟨d2, false, rfl, hdd, k2, false, rfl, ?_⟩⟩
    show if false = true then _ else _
    rw [if_neg (by decide)]
    refine ⟨_, hσ', rfl, rfl, dd, v, rfl, hdd, by rw [PySem.sizeLine_eq]; exact (by decide : 2 ≤ 16777216), fun p hp => ?_⟩
    exact fin m (upd H p (.tup [.str t1, v])) (Grow.laid hp) (rs.laid hp) _ (.tup (show ST _ _ _ _ from upd_same) (.cons (.str _) (.cons (rv.mono (Grow.laid hp)) .nil)))
  · exact fin.elim
end
end QI

namespace QI
open PySem PySem.Spec PyProof.Rows L2
abbrev topS (i : Nat) : Stmt := PySem.Challenge.pw_whoevertakes_k32_what_is_a_code.main.body.getD i (.Pass ⟨0, 0, 0, 0⟩)
/-! is_int -/
abbrev S_is_int : Stmt := topS 6
abbrev N_is_int : List Str := ["value"]
abbrev P_is_int : List Str := ["value"]
theorem sc_is_int : FnScope N_is_int P_is_int (defScope S_is_int) := ⟨rfl, rfl, rfl, by decide +kernel, rfl, by decide +kernel, by decide +kernel⟩
/-! is_number -/
abbrev S_is_number : Stmt := topS 7
abbrev N_is_number : List Str := ["value", "least", "most"]
abbrev P_is_number : List Str := ["value", "least", "most"]
theorem sc_is_number : FnScope N_is_number P_is_number (defScope S_is_number) := ⟨rfl, rfl, rfl, by decide +kernel, rfl, by decide +kernel, by decide +kernel⟩
/-! is_tuple -/
abbrev S_is_tuple : Stmt := topS 8
abbrev N_is_tuple : List Str := ["value", "many"]
abbrev P_is_tuple : List Str := ["value", "many"]
theorem sc_is_tuple : FnScope N_is_tuple P_is_tuple (defScope S_is_tuple) := ⟨rfl, rfl, rfl, by decide +kernel, rfl, by decide +kernel, by decide +kernel⟩
/-! is_numbers -/
abbrev S_is_numbers : Stmt := topS 9
abbrev N_is_numbers : List Str := ["value", "many", "least", "most", "one"]
abbrev P_is_numbers : List Str := ["value", "many", "least", "most"]
theorem sc_is_numbers : FnScope N_is_numbers P_is_numbers (defScope S_is_numbers) := ⟨rfl, rfl, rfl, by decide +kernel, rfl, by decide +kernel, by decide +kernel⟩
/-! is_line -/
abbrev S_is_line : Stmt := topS 19
abbrev N_is_line : List Str := ["value", "place", "many", "tops", "sends", "one"]
abbrev P_is_line : List Str := ["value", "place", "many", "tops", "sends"]
theorem sc_is_line : FnScope N_is_line P_is_line (defScope S_is_line) := ⟨rfl, rfl, rfl, by decide +kernel, rfl, by decide +kernel, by decide +kernel⟩
/-! check_code -/
abbrev S_check_code : Stmt := topS 20
abbrev N_check_code : List Str := ["value", "tops", "sends", "entries", "lines", "place", "line"]
abbrev P_check_code : List Str := ["value"]
theorem sc_check_code : FnScope N_check_code P_check_code (defScope S_check_code) := ⟨rfl, rfl, rfl, by decide +kernel, rfl, by decide +kernel, by decide +kernel⟩
/-! _law_box -/
abbrev S_law_box : Stmt := topS 22
abbrev N_law_box : List Str := ["script", "k", "cell", "great"]
abbrev P_law_box : List Str := ["script", "k"]
theorem sc_law_box : FnScope N_law_box P_law_box (defScope S_law_box) := ⟨rfl, rfl, rfl, by decide +kernel, rfl, by decide +kernel, by decide +kernel⟩
/-! _law_take -/
abbrev S_law_take : Stmt := topS 23
abbrev N_law_take : List Str := ["box", "many", "digit", "raw"]
abbrev P_law_take : List Str := ["box", "many"]
theorem sc_law_take : FnScope N_law_take P_law_take (defScope S_law_take) := ⟨rfl, rfl, rfl, by decide +kernel, rfl, by decide +kernel, by decide +kernel⟩
/-! _law_same -/
abbrev S_law_same : Stmt := topS 24
abbrev N_law_same : List Str := ["told", "due", "one", "other"]
abbrev P_law_same : List Str := ["told", "due"]
theorem sc_law_same : FnScope N_law_same P_law_same (defScope S_law_same) := ⟨rfl, rfl, rfl, by decide +kernel, rfl, by decide +kernel, by decide +kernel⟩
/-! _law_drawn_code -/
abbrev S_law_drawn_code : Stmt := topS 25
abbrev N_law_drawn_code : List Str := ["box", "tops", "sends", "takes", "many", "lines", "place", "way", "reg", "letter"]
abbrev P_law_drawn_code : List Str := ["box"]
theorem sc_law_drawn_code : FnScope N_law_drawn_code P_law_drawn_code (defScope S_law_drawn_code) := ⟨rfl, rfl, rfl, by decide +kernel, rfl, by decide +kernel, by decide +kernel⟩
/-! _law_number -/
abbrev S_law_number : Stmt := topS 26
abbrev N_law_number : List Str := ["value", "least", "most"]
abbrev P_law_number : List Str := ["value", "least", "most"]
theorem sc_law_number : FnScope N_law_number P_law_number (defScope S_law_number) := ⟨rfl, rfl, rfl, by decide +kernel, rfl, by decide +kernel, by decide +kernel⟩
/-! _law_is_line -/
abbrev S_law_is_line : Stmt := topS 27
abbrev N_law_is_line : List Str := ["code", "place", "line", "many", "kinds", "kind", "value", "least", "most"]
abbrev P_law_is_line : List Str := ["code", "place"]
theorem sc_law_is_line : FnScope N_law_is_line P_law_is_line (defScope S_law_is_line) := ⟨rfl, rfl, rfl, by decide +kernel, rfl, by decide +kernel, by decide +kernel⟩
/-! _law_code_fault -/
abbrev S_law_code_fault : Stmt := topS 28
abbrev N_law_code_fault : List Str := ["value", "wrong", "place", "top"]
abbrev P_law_code_fault : List Str := ["value"]
theorem sc_law_code_fault : FnScope N_law_code_fault P_law_code_fault (defScope S_law_code_fault) := ⟨rfl, rfl, rfl, by decide +kernel, rfl, by decide +kernel, by decide +kernel⟩
/-! _law_told -/
abbrev S_law_told : Stmt := topS 29
abbrev N_law_told : List Str := ["value", "e"]
abbrev P_law_told : List Str := ["value"]
theorem sc_law_told : FnScope N_law_told P_law_told (defScope S_law_told) := ⟨rfl, rfl, rfl, by decide +kernel, rfl, by decide +kernel, by decide +kernel⟩
/-! _law_bent -/
abbrev S_law_bent : Stmt := topS 30
abbrev N_law_bent : List Str := ["box", "code", "tops", "sends", "entries", "lines", "at", "found", "some", "bad"]
abbrev P_law_bent : List Str := ["box", "code"]
theorem sc_law_bent : FnScope N_law_bent P_law_bent (defScope S_law_bent) := ⟨rfl, rfl, rfl, by decide +kernel, rfl, by decide +kernel, by decide +kernel⟩
/-! law -/
abbrev S_law : Stmt := topS 31
abbrev N_law : List Str := ["script", "k", "box", "code", "value", "at"]
abbrev P_law : List Str := ["script"]
theorem sc_law : FnScope N_law P_law (defScope S_law) := ⟨rfl, rfl, rfl, by decide +kernel, rfl, by decide +kernel, by decide +kernel⟩
noncomputable section
def B_is_int : IS := sRet (iAndV (iUn (gIsi "int") (iVar 0)) (iNotV (iUn (gIsi "bool") (iVar 0))))
def G_is_int : List D → Sto → Rs D := run N_is_int B_is_int
def B_is_number : IS := sRet (iAndV (iCall 1 G_is_int [] (iCons (iVar 0) (iNil))) (iAndV (iBin gGe (iVar 0) (iVar 1)) (iOrV (iBin gIsB (iVar 2) (iC .non)) (iBin gLe (iVar 0) (iVar 2)))))
def G_is_number : List D → Sto → Rs D := run N_is_number B_is_number
def B_is_tuple : IS := sRet (iAndV (iUn (gIsi "tuple") (iVar 0)) (iOrV (iBin gIsB (iVar 1) (iC .non)) (iBin gEqE (iCallB gLen (iCons (iVar 0) (iNil))) (iVar 1))))
def G_is_tuple : List D → Sto → Rs D := run N_is_tuple B_is_tuple
def B_is_numbers : IS := sRet (iAndV (iCall 2 G_is_tuple [] (iCons (iVar 0) (iCons (iVar 1) (iNil)))) (iBin gEqE (iCallB gLen (iCons (iComp fRol 16777215 (iWalk (iVar 0)) (.nm 4) (iNot (iTru (iCall 3 G_is_number [] (iCons (iVar 4) (iCons (iVar 2) (iCons (iVar 3) (iNil))))))) (iVar 4) [4]) (iNil))) (iC (.int 0))))
def G_is_numbers : List D → Sto → Rs D := run N_is_numbers B_is_numbers
def B_is_line : IS := sSeq (sIf (iOr (iNot (iTru (iUn (gIsi "tuple") (iVar 0)))) (iOr (iTest (iBin gEqE (iCallB gLen (iCons (iVar 0) (iNil))) (iC (.int 0)))) (iOr (iNot (iTru (iUn (gIsi "str") (iBin gIx (iVar 0) (iC (.int 0)))))) (iTest (iInC true [Str.ofString "raise", Str.ofString "clear", Str.ofString "send", Str.ofString "under", Str.ofString "go", Str.ofString "stop"] (iBin gIx (iVar 0) (iC (.int 0)))))))) (sRet (iC (.bl false))) (sNil)) (sSeq (sIf (iOr (iTest (iBin gNeE (iCallB gLen (iCons (iVar 0) (iNil))) (iBin gAdd (iC (.int 1)) (iIxC [(Str.ofString "raise", 2), (Str.ofString "clear", 1), (Str.ofString "send", 2), (Str.ofString "under", 3), (Str.ofString "go", 1), (Str.ofString "stop", 0)] (iBin gIx (iVar 0) (iC (.int 0))))))) (iNot (iTru (iCallB gAll (iCons (iComp fRol 16777215 (iWalk (iSl (iVar 0) (oSome (iC (.int 1))) (oNone))) (.nm 5) (iYes) (iCall 1 G_is_number [.int 0, .non] (iCons (iVar 5) (iNil))) [5]) (iNil)))))) (sRet (iC (.bl false))) (sNil)) (sSeq (sIf (iAnd (iTest (iBin gInE (iBin gIx (iVar 0) (iC (.int 0))) (iTup (iCons (iC (.str (Str.ofString "raise"))) (iCons (iC (.str (Str.ofString "clear"))) (iCons (iC (.str (Str.ofString "under"))) (iCons (iC (.str (Str.ofString "send"))) (iNil)))))))) (iTest (iBin gGe (iBin gIx (iVar 0) (iC (.int 1))) (iIf (iTest (iBin gEqE (iBin gIx (iVar 0) (iC (.int 0))) (iC (.str (Str.ofString "send"))))) (iVar 4) (iCallB gLen (iCons (iVar 3) (iNil))))))) (sRet (iC (.bl false))) (sNil)) (sSeq (sIf (iAnd (iTest (iBin gInE (iBin gIx (iVar 0) (iC (.int 0))) (iTup (iCons (iC (.str (Str.ofString "raise"))) (iCons (iC (.str (Str.ofString "under"))) (iCons (iC (.str (Str.ofString "send"))) (iNil))))))) (iTest (iBin gGt (iBin gIx (iVar 0) (iC (.int 2))) (iC (.int 999))))) (sRet (iC (.bl false))) (sNil)) (sSeq (sIf (iAnd (iTest (iBin gInE (iBin gIx (iVar 0) (iC (.int 0))) (iTup (iCons (iC (.str (Str.ofString "under"))) (iCons (iC (.str (Str.ofString "go"))) (iNil)))))) (iNot (iTest (iChain gLt gLt (iVar 1) (iBin gIx (iVar 0) (iUn gNeg (iC (.int 1)))) (iVar 2))))) (sRet (iC (.bl false))) (sNil)) (sRet (iOrV (iBin gEqE (iBin gIx (iVar 0) (iC (.int 0))) (iC (.str (Str.ofString "stop")))) (iBin gLt (iBin gAdd (iVar 1) (iC (.int 1))) (iVar 2))))))))
def G_is_line : List D → Sto → Rs D := run N_is_line B_is_line
def L_check_code_1 : IS := sIf (iNot (iTru (iCall 5 G_is_line [] (iCons (iVar 6) (iCons (iVar 5) (iCons (iCallB gLen (iCons (iVar 4) (iNil))) (iCons (iVar 1) (iCons (iVar 2) (iNil))))))))) (sRaise "BadCode" (iCons (iVar 5) (iNil))) (sNil)
def B_check_code : IS := sSeq (sIf (iNot (iTru (iCall 2 G_is_tuple [] (iCons (iVar 0) (iCons (iC (.int 4)) (iNil)))))) (sRaise "BadCode" (iCons (iUn gNeg (iC (.int 1))) (iNil))) (sNil)) (sSeq (sAsg (.tp [.nm 1, .nm 2, .nm 3, .nm 4]) (iVar 0)) (sSeq (sIf (iOr (iNot (iTru (iCall 1 G_is_tuple [.non] (iCons (iVar 1) (iNil))))) (iOr (iTest (iBin gGt (iCallB gLen (iCons (iVar 1) (iNil))) (iC (.int 4)))) (iNot (iTru (iCall 4 G_is_numbers [] (iCons (iVar 1) (iCons (iCallB gLen (iCons (iVar 1) (iNil))) (iCons (iC (.int 1)) (iCons (iC (.int 71)) (iNil)))))))))) (sRaise "BadCode" (iCons (iUn gNeg (iC (.int 2))) (iNil))) (sNil)) (sSeq (sIf (iNot (iTru (iCall 3 G_is_number [] (iCons (iVar 2) (iCons (iC (.int 0)) (iCons (iC (.int 4)) (iNil))))))) (sRaise "BadCode" (iCons (iUn gNeg (iC (.int 3))) (iNil))) (sNil)) (sSeq (sIf (iOr (iNot (iTru (iCall 1 G_is_tuple [.non] (iCons (iVar 4) (iNil))))) (iNot (iTest (iChain gLe gLe (iC (.int 1)) (iCallB gLen (iCons (iVar 4) (iNil))) (iC (.int 4000)))))) (sRaise "BadCode" (iCons (iUn gNeg (iC (.int 4))) (iNil))) (sNil)) (sSeq (sIf (iOr (iNot (iTru (iCall 1 G_is_tuple [.non] (iCons (iVar 3) (iNil))))) (iNot (iTest (iChain gLe gLe (iC (.int 1)) (iCallB gLen (iCons (iVar 3) (iNil))) (iC (.int 3)))))) (sRaise "BadCode" (iCons (iUn gNeg (iC (.int 5))) (iNil))) (sNil)) (sSeq (sIf (iNot (iTru (iCall 4 G_is_numbers [] (iCons (iVar 3) (iCons (iCallB gLen (iCons (iVar 3) (iNil))) (iCons (iC (.int 0)) (iCons (iBin gSub (iCallB gLen (iCons (iVar 4) (iNil))) (iC (.int 1))) (iNil)))))))) (sRaise "BadCode" (iCons (iUn gNeg (iC (.int 5))) (iNil))) (sNil)) (sSeq (sFor 16777215 (iWalkC fEnum (iCons (iVar 4) (iNil))) (.tp [.nm 5, .nm 6]) (L_check_code_1)) (sRet (iVar 0)))))))))
def G_check_code : List D → Sto → Rs D := runX N_check_code B_check_code
def B_law_box : IS := sSeq (sSet 2 (iBin gAdd (iBin gMul (iC (.int 28019)) (iVar 1)) (iC (.int 7703)))) (sSeq (sIf (iTest (iBin gLt (iVar 1) (iCallB gLen (iCons (iVar 0) (iNil))))) (sSet 2 (iCallB gAbs (iCons (iCallB gInt (iCons (iBin gIx (iVar 0) (iVar 1)) (iNil))) (iNil)))) (sIf (iTest (iBin gGt (iCallB gLen (iCons (iVar 0) (iNil))) (iC (.int 0)))) (sSet 2 (iBin gAdd (iVar 2) (iBin gMul (iBin gMod (iCallB gInt (iCons (iCallB gAbs (iCons (iCallB gInt (iCons (iBin gIx (iVar 0) (iBin gMod (iCallB gInt (iCons (iVar 1) (iNil))) (iCallB gLen (iCons (iVar 0) (iNil))))) (iNil))) (iNil))) (iNil))) (iC (.int 2147483563))) (iC (.int 97813))))) (sNil))) (sSeq (sSet 3 (iIf (iTest (iBin gGe (iVar 2) (iBin gPow (iC (.int 10)) (iC (.int 18))))) (iVar 2) (iC (.int 0)))) (sRet (iCell (iLst (iCons (iVar 3) (iCons (iBin gAdd (iBin gMod (iCallB gInt (iCons (iBin gAdd (iBin gMul (iBin gMod (iCallB gInt (iCons (iVar 2) (iNil))) (iC (.int 2147483563))) (iC (.int 54250003))) (iBin gMul (iC (.int 7703)) (iVar 1))) (iNil))) (iC (.int 2147483563))) (iC (.int 1))) (iNil))))))))
def G_law_box : List D → Sto → Rs D := run N_law_box B_law_box
def B_law_take : IS := sSeq (sIf (iTest (iBin gGt (iBin gIx (iVar 0) (iC (.int 0))) (iC (.int 0)))) (sSeq (sSet 2 (iBin gMod (iCallB gInt (iCons (iBin gIx (iVar 0) (iC (.int 0))) (iNil))) (iVar 1))) (sSeq (sSetIx (iVar 0) (iC (.int 0)) (iBin gFdiv (iBin gIx (iVar 0) (iC (.int 0))) (iVar 1))) (sRet (iVar 2)))) (sNil)) (sSeq (sSet 3 (iBin gMod (iCallB gInt (iCons (iBin gAdd (iBin gMul (iBin gIx (iVar 0) (iC (.int 1))) (iC (.int 39373))) (iC (.int 211))) (iNil))) (iC (.int 2147483647)))) (sSeq (sSetIx (iVar 0) (iC (.int 1)) (iBin gAdd (iBin gMod (iCallB gInt (iCons (iBin gAdd (iBin gMul (iVar 3) (iC (.int 40692))) (iC (.int 97))) (iNil))) (iC (.int 2147483563))) (iC (.int 1)))) (sRet (iBin gMod (iCallB gInt (iCons (iBin gFdiv (iBin gAdd (iBin gMul (iVar 3) (iC (.int 2147483629))) (iBin gIx (iVar 0) (iC (.int 1)))) (iC (.int 8263))) (iNil))) (iVar 1)))))
def G_law_take : List D → Sto → Rs D := run N_law_take B_law_take
def L_law_same_1 (G_law_same : List D → Sto → Rs D) : IS := sIf (iNot (iTru (iCall 2 G_law_same [] (iCons (iVar 2) (iCons (iVar 3) (iNil)))))) (sRet (iC (.bl false))) (sNil)
def B_law_same (G_law_same : List D → Sto → Rs D) : IS := sSeq (sIf (iTru (iUn (gIsi "tuple") (iVar 1))) (sSeq (sIf (iOr (iNot (iTru (iUn (gIsi "tuple") (iVar 0)))) (iTest (iBin gNeE (iCallB gLen (iCons (iVar 0) (iNil))) (iCallB gLen (iCons (iVar 1) (iNil)))))) (sRet (iC (.bl false))) (sNil)) (sSeq (sFor 16777215 (iWalkC fZip (iCons (iVar 0) (iCons (iVar 1) (iNil)))) (.tp [.nm 2, .nm 3]) (L_law_same_1 G_law_same)) (sRet (iC (.bl true))))) (sNil)) (sSeq (sIf (iTest (iBin gIsB (iVar 1) (iC .non))) (sRet (iBin gIsB (iVar 0) (iC .non))) (sNil)) (sSeq (sIf (iOr (iTest (iBin gIsB (iVar 1) (iC (.bl true)))) (iTest (iBin gIsB (iVar 1) (iC (.bl false))))) (sRet (iAndV (iUn (gIsi "bool") (iVar 0)) (iBin gEqE (iVar 0) (iVar 1)))) (sNil)) (sSeq (sIf (iTru (iUn (gIsi "int") (iVar 1))) (sRet (iAndV (iUn (gIsi "int") (iVar 0)) (iAndV (iNotV (iUn (gIsi "bool") (iVar 0))) (iBin gEqE (iVar 0) (iVar 1))))) (sNil)) (sRet (iAndV (iUn (gIsi "str") (iVar 0)) (iAndV (iUn (gIsi "str") (iVar 1)) (iBin gEqE (iVar 0) (iVar 1))))))))
def Gr_law_same : Nat → List D → Sto → Rs D
  | 0 => fun _ _ => .bad
  | k + 1 => run N_law_same (B_law_same (Gr_law_same k))
def G_law_same : List D → Sto → Rs D := Gr_law_same 8
def L_law_drawn_code_1 : IS := sSeq (sSet 7 (iCall 2 G_law_take [] (iCons (iVar 0) (iCons (iC (.int 8)) (iNil))))) (sIf (iAnd (iTest (iBin gLt (iVar 7) (iC (.int 2)))) (iTest (iBin gNeE (iVar 1) (iTup (iNil))))) (sDrop (iMeth gAppend (iVar 5) (iCons (iTup (iCons (iC (.str (Str.ofString "raise"))) (iCons (iCall 2 G_law_take [] (iCons (iVar 0) (iCons (iCallB gLen (iCons (iVar 1) (iNil))) (iNil)))) (iCons (iBin gAdd (iC (.int 1)) (iCall 2 G_law_take [] (iCons (iVar 0) (iCons (iC (.int 4)) (iNil))))) (iNil))))) (iNil)))) (sIf (iAnd (iTest (iBin gEqE (iVar 7) (iC (.int 2)))) (iTest (iBin gNeE (iVar 1) (iTup (iNil))))) (sDrop (iMeth gAppend (iVar 5) (iCons (iTup (iCons (iC (.str (Str.ofString "clear"))) (iCons (iCall 2 G_law_take [] (iCons (iVar 0) (iCons (iCallB gLen (iCons (iVar 1) (iNil))) (iNil)))) (iNil)))) (iNil)))) (sIf (iAnd (iTest (iBin gEqE (iVar 7) (iC (.int 3)))) (iTest (iBin gGt (iVar 2) (iC (.int 0))))) (sDrop (iMeth gAppend (iVar 5) (iCons (iTup (iCons (iC (.str (Str.ofString "send"))) (iCons (iCall 2 G_law_take [] (iCons (iVar 0) (iCons (iVar 2) (iNil)))) (iCons (iBin gAdd (iC (.int 1)) (iCall 2 G_law_take [] (iCons (iVar 0) (iCons (iC (.int 3)) (iNil))))) (iNil))))) (iNil)))) (sIf (iAnd (iTest (iBin gLt (iVar 7) (iC (.int 7)))) (iTest (iBin gNeE (iVar 1) (iTup (iNil))))) (sDrop (iMeth gAppend (iVar 5) (iCons (iTup (iCons (iC (.str (Str.ofString "under"))) (iCons (iCall 2 G_law_take [] (iCons (iVar 0) (iCons (iCallB gLen (iCons (iVar 1) (iNil))) (iNil)))) (iCons (iCall 2 G_law_take [] (iCons (iVar 0) (iCons (iC (.int 5)) (iNil)))) (iCons (iBin gAdd (iBin gAdd (iVar 6) (iC (.int 1))) (iCall 2 G_law_take [] (iCons (iVar 0) (iCons (iCallB gMin (iCons (iC (.int 6)) (iCons (iBin gSub (iBin gSub (iVar 4) (iC (.int 1))) (iVar 6)) (iNil)))) (iNil))))) (iNil)))))) (iNil)))) (sDrop (iMeth gAppend (iVar 5) (iCons (iIf (iTest (iBin gGt (iCall 2 G_law_take [] (iCons (iVar 0) (iCons (iC (.int 3)) (iNil)))) (iC (.int 0)))) (iTup (iCons (iC (.str (Str.ofString "go"))) (iCons (iBin gAdd (iBin gAdd (iVar 6) (iC (.int 1))) (iCall 2 G_law_take [] (iCons (iVar 0) (iCons (iCallB gMin (iCons (iC (.int 4)) (iCons (iBin gSub (iBin gSub (iVar 4) (iC (.int 1))) (iVar 6)) (iNil)))) (iNil))))) (iNil)))) (iTup (iCons (iC (.str (Str.ofString "stop"))) (iNil)))) (iNil))))))))
def B_law_drawn_code : IS := sSeq (sSet 1 (iCallB gTuple (iCons (iComp fRol 16777215 (iWalkC fRange1 (iCons (iCall 2 G_law_take [] (iCons (iVar 0) (iCons (iC (.int 3)) (iNil)))) (iNil))) (.nm 8) (iYes) (iBin gAdd (iC (.int 1)) (iCall 2 G_law_take [] (iCons (iVar 0) (iCons (iC (.int 3)) (iNil))))) [8]) (iNil)))) (sSeq (sAsg (.tp [.nm 2, .nm 3, .nm 4]) (iTup (iCons (iCall 2 G_law_take [] (iCons (iVar 0) (iCons (iC (.int 3)) (iNil)))) (iCons (iBin gAdd (iC (.int 1)) (iCall 2 G_law_take [] (iCons (iVar 0) (iCons (iC (.int 2)) (iNil))))) (iCons (iBin gAdd (iC (.int 3)) (iCall 2 G_law_take [] (iCons (iVar 0) (iCons (iC (.int 14)) (iNil))))) (iNil)))))) (sSeq (sSet 5 (iCell (iLst (iNil)))) (sSeq (sFor 16777215 (iWalkC fRange1 (iCons (iBin gSub (iVar 4) (iC (.int 1))) (iNil))) (.nm 6) (L_law_drawn_code_1)) (sRet (iTup (iCons (iVar 1) (iCons (iVar 2) (iCons (iCallB gTuple (iCons (iComp fRol 16777215 (iWalkC fRange1 (iCons (iVar 3) (iNil))) (.nm 9) (iYes) (iCall 2 G_law_take [] (iCons (iVar 0) (iCons (iVar 4) (iNil)))) [9]) (iNil))) (iCons (iBin gAdd (iCallB gTuple (iCons (iVar 5) (iNil))) (iTup (iCons (iTup (iCons (iC (.str (Str.ofString "stop"))) (iNil))) (iNil)))) (iNil))))))))))
def G_law_drawn_code : List D → Sto → Rs D := run N_law_drawn_code B_law_drawn_code
def B_law_number : IS := sRet (iAndV (iUn (gIsi "int") (iVar 0)) (iAndV (iNotV (iUn (gIsi "bool") (iVar 0))) (iChain gLe gLe (iVar 1) (iVar 0) (iVar 2))))
def G_law_number : List D → Sto → Rs D := run N_law_number B_law_number
def L_law_is_line_1 : IS := sSeq (sAsg (.tp [.nm 7, .nm 8]) (iBin gIxD (iDisp (ipCons (iC (.str (Str.ofString "r"))) (iTup (iCons (iC (.int 0)) (iCons (iBin gSub (iCallB gLen (iCons (iBin gIx (iVar 0) (iC (.int 0))) (iNil))) (iC (.int 1))) (iNil)))) (ipCons (iC (.str (Str.ofString "l"))) (iTup (iCons (iC (.int 0)) (iCons (iBin gSub (iBin gIx (iVar 0) (iC (.int 1))) (iC (.int 1))) (iNil)))) (ipCons (iC (.str (Str.ofString "k"))) (iTup (iCons (iC (.int 0)) (iCons (iC (.int 999)) (iNil)))) (ipCons (iC (.str (Str.ofString "j"))) (iTup (iCons (iBin gAdd (iVar 1) (iC (.int 1))) (iCons (iBin gSub (iVar 3) (iC (.int 1))) (iNil)))) (ipNil)))))) (iVar 5))) (sIf (iNot (iTru (iCall 3 G_law_number [] (iCons (iVar 6) (iCons (iVar 7) (iCons (iVar 8) (iNil))))))) (sRet (iC (.bl false))) (sNil))
def B_law_is_line : IS := sSeq (sPar [2, 3] (iCons (iBin gIx (iBin gIx (iVar 0) (iC (.int 3))) (iVar 1)) (iCons (iCallB gLen (iCons (iBin gIx (iVar 0) (iC (.int 3))) (iNil))) (iNil)))) (sSeq (sIf (iOr (iNot (iTru (iUn (gIsi "tuple") (iVar 2)))) (iOr (iTest (iBin gEqE (iVar 2) (iTup (iNil)))) (iNot (iTru (iUn (gIsi "str") (iBin gIx (iVar 2) (iC (.int 0)))))))) (sRet (iC (.bl false))) (sNil)) (sSeq (sSet 4 (iDisp (ipCons (iC (.str (Str.ofString "raise"))) (iC (.str (Str.ofString "rk"))) (ipCons (iC (.str (Str.ofString "clear"))) (iC (.str (Str.ofString "r"))) (ipCons (iC (.str (Str.ofString "send"))) (iC (.str (Str.ofString "lk"))) (ipCons (iC (.str (Str.ofString "under"))) (iC (.str (Str.ofString "rkj"))) (ipCons (iC (.str (Str.ofString "go"))) (iC (.str (Str.ofString "j"))) (ipCons (iC (.str (Str.ofString "stop"))) (iC (.str (Str.ofString ""))) (ipNil))))))))) (sSeq (sIf (iOr (iTest (iBin gNotInD (iBin gIx (iVar 2) (iC (.int 0))) (iVar 4))) (iOr (iTest (iBin gNeE (iCallB gLen (iCons (iVar 2) (iNil))) (iBin gAdd (iC (.int 1)) (iCallB gLen (iCons (iBin gIxD (iVar 4) (iBin gIx (iVar 2) (iC (.int 0)))) (iNil)))))) (iAnd (iTest (iBin gEqE (iBin gAdd (iVar 1) (iC (.int 1))) (iVar 3))) (iTest (iBin gNeE (iBin gIx (iVar 2) (iC (.int 0))) (iC (.str (Str.ofString "stop")))))))) (sRet (iC (.bl false))) (sNil)) (sSeq (sFor 16777215 (iWalkC fZipM (iCons (iBin gIxD (iVar 4) (iBin gIx (iVar 2) (iC (.int 0)))) (iCons (iSl (iVar 2) (oSome (iC (.int 1))) (oNone)) (iNil)))) (.tp [.nm 5, .nm 6]) (L_law_is_line_1)) (sRet (iC (.bl true)))))))
def G_law_is_line : List D → Sto → Rs D := run N_law_is_line B_law_is_line
def B_law_code_fault : IS := sSeq (sIf (iOr (iNot (iTru (iUn (gIsi "tuple") (iVar 0)))) (iTest (iBin gNeE (iCallB gLen (iCons (iVar 0) (iNil))) (iC (.int 4))))) (sRet (iBin gSub (iC (.int 0)) (iC (.int 1)))) (sNil)) (sSeq (sIf (iOr (iNot (iTru (iUn (gIsi "tuple") (iBin gIx (iVar 0) (iC (.int 0)))))) (iOr (iTest (iBin gGt (iCallB gLen (iCons (iBin gIx (iVar 0) (iC (.int 0))) (iNil))) (iC (.int 4)))) (iTest (iBin gNeE (iComp fRol 16777215 (iWalk (iBin gIx (iVar 0) (iC (.int 0)))) (.nm 3) (iNot (iTru (iCall 3 G_law_number [] (iCons (iVar 3) (iCons (iC (.int 1)) (iCons (iC (.int 71)) (iNil))))))) (iC (.int 1)) [3]) (iRol (iLst (iNil))))))) (sRet (iBin gSub (iC (.int 0)) (iC (.int 2)))) (sNil)) (sSeq (sIf (iNot (iTru (iCall 3 G_law_number [] (iCons (iBin gIx (iVar 0) (iC (.int 1))) (iCons (iC (.int 0)) (iCons (iC (.int 4)) (iNil))))))) (sRet (iBin gSub (iC (.int 0)) (iC (.int 3)))) (sNil)) (sSeq (sIf (iOr (iNot (iTru (iUn (gIsi "tuple") (iBin gIx (iVar 0) (iC (.int 3)))))) (iOr (iTest (iBin gEqE (iBin gIx (iVar 0) (iC (.int 3))) (iTup (iNil)))) (iTest (iBin gGt (iCallB gLen (iCons (iBin gIx (iVar 0) (iC (.int 3))) (iNil))) (iC (.int 4000)))))) (sRet (iBin gSub (iC (.int 0)) (iC (.int 4)))) (sNil)) (sSeq (sIf (iOr (iNot (iTru (iUn (gIsi "tuple") (iBin gIx (iVar 0) (iC (.int 2)))))) (iOr (iNot (iTest (iChain gLe gLe (iC (.int 1)) (iCallB gLen (iCons (iBin gIx (iVar 0) (iC (.int 2))) (iNil))) (iC (.int 3))))) (iTest (iBin gNeE (iComp fRol 16777215 (iWalk (iBin gIx (iVar 0) (iC (.int 2)))) (.nm 2) (iNot (iTru (iCall 3 G_law_number [] (iCons (iVar 2) (iCons (iC (.int 0)) (iCons (iBin gSub (iCallB gLen (iCons (iBin gIx (iVar 0) (iC (.int 3))) (iNil))) (iC (.int 1))) (iNil))))))) (iC (.int 1)) [2]) (iRol (iLst (iNil))))))) (sRet (iBin gSub (iC (.int 0)) (iC (.int 5)))) (sNil)) (sSeq (sSet 1 (iComp fRol 16777215 (iWalkC fRange1 (iCons (iCallB gLen (iCons (iBin gIx (iVar 0) (iC (.int 3))) (iNil))) (iNil))) (.nm 2) (iNot (iTru (iCall 2 G_law_is_line [] (iCons (iVar 0) (iCons (iVar 2) (iNil)))))) (iVar 2) [2])) (sRet (iIf (iTest (iBin gNeE (iVar 1) (iRol (iLst (iNil))))) (iBin gIx (iVar 1) (iC (.int 0))) (iC .non))))))))
def G_law_code_fault : List D → Sto → Rs D := run N_law_code_fault B_law_code_fault
def B_law_told : IS := sTry ["BadCode"] (sRet (iTup (iCons (iC (.str (Str.ofString "code"))) (iCons (iCallX 0 1 G_check_code iNil (iCons (iVar 0) (iNil))) (iNil))))) (wIs "BadCode" (Str.ofString "bad"))
def G_law_told : List D → Sto → Rs D := run N_law_told B_law_told
def L_law_bent_1 : IS := sDrop (iMeth gAppend (iVar 7) (iCons (iTup (iCons (iVar 2) (iCons (iVar 3) (iCons (iVar 4) (iCons (iBin gAdd (iBin gAdd (iSl (iVar 5) (oNone) (oSome (iVar 6))) (iTup (iCons (iVar 9) (iNil)))) (iSl (iVar 5) (oSome (iBin gAdd (iVar 6) (iC (.int 1)))) (oNone))) (iNil)))))) (iNil)))
def B_law_bent : IS := sSeq (sAsg (.tp [.nm 2, .nm 3, .nm 4, .nm 5]) (iVar 1)) (sSeq (sSet 6 (iCall 2 G_law_take [] (iCons (iVar 0) (iCons (iCallB gLen (iCons (iVar 5) (iNil))) (iNil))))) (sSeq (sSet 7 (iCell (iLst (iCons (iVar 1) (iCons (iC .non) (iCons (iTup (iNil)) (iCons (iC (.int 0)) (iCons (iRol (iListOf (iCons (iVar 1) (iNil)))) (iCons (iSl (iVar 1) (oNone) (oSome (iC (.int 3)))) (iCons (iBin gAdd (iVar 1) (iTup (iCons (iC (.int 0)) (iNil)))) (iCons (iTup (iCons (iRol (iListOf (iCons (iVar 2) (iNil)))) (iCons (iVar 3) (iCons (iVar 4) (iCons (iVar 5) (iNil)))))) (iCons (iTup (iCons (iBin gAdd (iVar 2) (iTup (iCons (iC (.int 0)) (iNil)))) (iCons (iVar 3) (iCons (iVar 4) (iCons (iVar 5) (iNil)))))) (iCons (iTup (iCons (iBin gAdd (iVar 2) (iTup (iCons (iC (.int 72)) (iNil)))) (iCons (iVar 3) (iCons (iVar 4) (iCons (iVar 5) (iNil)))))) (iNil)))))))))))))) (sSeq (sSet 7 (iCell (iBinL gAdd (iVar 7) (iRol (iLst (iCons (iTup (iCons (iBin gMulA (iTup (iCons (iC (.int 1)) (iNil))) (iC (.int 5))) (iCons (iVar 3) (iCons (iVar 4) (iCons (iVar 5) (iNil)))))) (iCons (iTup (iCons (iTup (iCons (iC (.bl true)) (iNil))) (iCons (iVar 3) (iCons (iVar 4) (iCons (iVar 5) (iNil)))))) (iCons (iTup (iCons (iVar 2) (iCons (iC (.int 5)) (iCons (iVar 4) (iCons (iVar 5) (iNil)))))) (iCons (iTup (iCons (iVar 2) (iCons (iC .non) (iCons (iVar 4) (iCons (iVar 5) (iNil)))))) (iCons (iTup (iCons (iVar 2) (iCons (iVar 3) (iCons (iTup (iNil)) (iCons (iVar 5) (iNil)))))) (iNil))))))))))) (sSeq (sSet 7 (iCell (iBinL gAdd (iVar 7) (iRol (iLst (iCons (iTup (iCons (iVar 2) (iCons (iVar 3) (iCons (iBin gMulA (iTup (iCons (iC (.int 0)) (iNil))) (iC (.int 4))) (iCons (iVar 5) (iNil)))))) (iCons (iTup (iCons (iVar 2) (iCons (iVar 3) (iCons (iTup (iCons (iCallB gLen (iCons (iVar 5) (iNil))) (iNil))) (iCons (iVar 5) (iNil)))))) (iCons (iTup (iCons (iVar 2) (iCons (iVar 3) (iCons (iRol (iLst (iCons (iC (.int 0)) (iNil)))) (iCons (iVar 5) (iNil)))))) (iNil))))))))) (sSeq (sSet 7 (iCell (iBinL gAdd (iVar 7) (iRol (iLst (iCons (iTup (iCons (iVar 2) (iCons (iVar 3) (iCons (iVar 4) (iCons (iTup (iNil)) (iNil)))))) (iCons (iTup (iCons (iVar 2) (iCons (iVar 3) (iCons (iVar 4) (iCons (iRol (iListOf (iCons (iVar 5) (iNil)))) (iNil)))))) (iCons (iTup (iCons (iVar 2) (iCons (iVar 3) (iCons (iVar 4) (iCons (iSl (iVar 5) (oNone) (oSome (iUn gNeg (iC (.int 1))))) (iNil)))))) (iNil))))))))) (sSeq (sSet 8 (iRol (iLst (iCons (iTup (iCons (iC (.str (Str.ofString "raise"))) (iCons (iCallB gLen (iCons (iVar 2) (iNil))) (iCons (iC (.int 1)) (iNil))))) (iCons (iTup (iCons (iC (.str (Str.ofString "raise"))) (iCons (iC (.int 0)) (iCons (iC (.int 1000)) (iNil))))) (iCons (iTup (iCons (iC (.str (Str.ofString "clear"))) (iNil))) (iCons (iTup (iCons (iC (.str (Str.ofString "send"))) (iCons (iVar 3) (iCons (iC (.int 1)) (iNil))))) (iCons (iTup (iCons (iC (.str (Str.ofString "under"))) (iCons (iC (.int 0)) (iCons (iC (.int 1)) (iCons (iVar 6) (iNil)))))) (iCons (iTup (iCons (iC (.str (Str.ofString "go"))) (iCons (iVar 6) (iNil)))) (iCons (iTup (iCons (iC (.str (Str.ofString "go"))) (iCons (iCallB gLen (iCons (iVar 5) (iNil))) (iNil)))) (iNil))))))))))) (sSeq (sFor 16777215 (iWalk (iBin gAdd (iVar 8) (iRol (iLst (iCons (iTup (iCons (iC (.str (Str.ofString "stop"))) (iCons (iC (.int 0)) (iNil)))) (iCons (iRol (iLst (iCons (iC (.str (Str.ofString "stop"))) (iNil)))) (iCons (iTup (iCons (iC (.str (Str.ofString "halt"))) (iNil))) (iCons (iTup (iCons (iC (.int 0)) (iNil))) (iCons (iC .non) (iCons (iTup (iNil)) (iCons (iTup (iCons (iC (.str (Str.ofString "go"))) (iCons (iC (.bl true)) (iNil)))) (iNil)))))))))))) (.nm 9) (L_law_bent_1)) (sRet (iVar 7)))))))))
def G_law_bent : List D → Sto → Rs D := run N_law_bent B_law_bent
def L_law_1 : IS := sSeq (sSet 5 (iCall 1 G_law_code_fault [] (iCons (iVar 4) (iNil)))) (sIf (iNot (iTru (iCall 2 G_law_same [] (iCons (iCall 1 G_law_told [] (iCons (iVar 4) (iNil))) (iCons (iIf (iTest (iBin gIsB (iVar 5) (iC .non))) (iTup (iCons (iC (.str (Str.ofString "code"))) (iCons (iVar 4) (iNil)))) (iTup (iCons (iC (.str (Str.ofString "bad"))) (iCons (iVar 5) (iNil))))) (iNil)))))) (sRet (iC (.bl false))) (sNil))
def L_law_2 : IS := sSeq (sSet 2 (iCall 2 G_law_box [] (iCons (iVar 0) (iCons (iVar 1) (iNil))))) (sSeq (sSet 3 (iCall 1 G_law_drawn_code [] (iCons (iVar 2) (iNil)))) (sFor 16777215 (iWalk (iCall 2 G_law_bent [] (iCons (iVar 2) (iCons (iVar 3) (iNil))))) (.nm 4) (L_law_1)))
def B_law : IS := sSeq (sFor 16777215 (iWalkC fRange1 (iCons (iCallB gMax (iCons (iC (.int 3)) (iCons (iCallB gMin (iCons (iCallB gLen (iCons (iVar 0) (iNil))) (iCons (iC (.int 7)) (iNil)))) (iNil)))) (iNil))) (.nm 1) (L_law_2)) (sRet (iC (.bl true)))
def G_law : List D → Sto → Rs D := run N_law B_law
end
theorem D_is_int {ct : String → Addr} {P : Program} {w : World} {K : PySem.W.Frag} {mg : Str → Option Value} {base : Heap} (mg_bool : mg "bool" = none) (mg_int : mg "int" = none) (mg_isinstance : mg "isinstance" = none) : ∀ (f : Addr) (cdv : Value) (A : Around) (outer : List Env) (s : Shared) (H : Hp) (E : XK), Room 0 (A.deeper (envOfC "is_int" (defScope S_is_int) s.heap.objs.size f cdv)) → SSs ct (bodyX P w K mg base N_is_int "is_int" S_is_int f cdv A outer s H E) noE (defBody S_is_int) B_is_int := fun f cdv A outer s H E hr =>
  ss_one (s_ret (si_andV (si_isi "int" (by rfl) mg_isinstance (by decide) (si_var 0 (pv 0)) (pe_bltn (by rfl) mg_int (by first | exact boot_int | decide +kernel) rfl)) (si_one (si_notV (si_isi "bool" (by rfl) mg_isinstance (by decide) (si_var 0 (pv 0)) (pe_bltn (by rfl) mg_bool (by first | exact boot_bool | decide +kernel) rfl))))))
theorem K_is_int {ct : String → Addr} {P : Program} {w : World} {K : PySem.W.Frag} {mg : Str → Option Value} {base : Heap} (mg_bool : mg "bool" = none) (mg_int : mg "int" = none) (mg_isinstance : mg "isinstance" = none) {f : Addr} {fd : FuncData} (mm : mg "is_int" = some (.ref f)) (F : Fun K "is_int" "is_int" S_is_int f fd) : Kn ct P w K mg base "is_int" S_is_int P_is_int 1 G_is_int f fd := kn_of mm F sc_is_int rfl (D_is_int mg_bool mg_int mg_isinstance)
theorem D_is_number {ct : String → Addr} {P : Program} {w : World} {K : PySem.W.Frag} {mg : Str → Option Value} {base : Heap} {f_is_int : Addr} {fd_is_int : FuncData} (k_is_int : Kn ct P w K mg base "is_int" S_is_int P_is_int 1 G_is_int f_is_int fd_is_int) : ∀ (f : Addr) (cdv : Value) (A : Around) (outer : List Env) (s : Shared) (H : Hp) (E : XK), Room 1 (A.deeper (envOfC "is_number" (defScope S_is_number) s.heap.objs.size f cdv)) → SSs ct (bodyX P w K mg base N_is_number "is_number" S_is_number f cdv A outer s H E) noE (defBody S_is_number) B_is_number := fun f cdv A outer s H E hr =>
  ss_one (s_ret (si_andV (si_kn k_is_int 1 (hr.mono (by decide)) (fun _ _ _ _ _ _ us hl => match us, hl with | [_], _ => rfl) (sa_cons (si_var 0 (pv 0)) (sa_nil))) (si_andV (si_c (c_ge) (si_var 0 (pv 0)) (si_var 1 (pv 1))) (si_one (si_orV (si_c (c_isB) (si_var 2 (pv 2)) (si_non)) (si_one (si_c (c_le) (si_var 0 (pv 0)) (si_var 2 (pv 2)))))))))
theorem K_is_number {ct : String → Addr} {P : Program} {w : World} {K : PySem.W.Frag} {mg : Str → Option Value} {base : Heap} {f_is_int : Addr} {fd_is_int : FuncData} (k_is_int : Kn ct P w K mg base "is_int" S_is_int P_is_int 1 G_is_int f_is_int fd_is_int) {f : Addr} {fd : FuncData} (mm : mg "is_number" = some (.ref f)) (F : FunD K "is_number" "is_number" (defArgs S_is_number) (defBody S_is_number) (defScope S_is_number) [V.int 0, V.non] [] f fd) : KnD ct P w K mg base "is_number" S_is_number P_is_number 2 G_is_number [.int 0, .non] f fd := knD_of mm (fun _ _ => .cons (.int _) (.cons .non (.nil))) F sc_is_number rfl (D_is_number k_is_int)
theorem D_is_tuple {ct : String → Addr} {P : Program} {w : World} {K : PySem.W.Frag} {mg : Str → Option Value} {base : Heap} (mg_isinstance : mg "isinstance" = none) (mg_len : mg "len" = none) (mg_tuple : mg "tuple" = none) : ∀ (f : Addr) (cdv : Value) (A : Around) (outer : List Env) (s : Shared) (H : Hp) (E : XK), Room 0 (A.deeper (envOfC "is_tuple" (defScope S_is_tuple) s.heap.objs.size f cdv)) → SSs ct (bodyX P w K mg base N_is_tuple "is_tuple" S_is_tuple f cdv A outer s H E) noE (defBody S_is_tuple) B_is_tuple := fun f cdv A outer s H E hr =>
  ss_one (s_ret (si_andV (si_isi "tuple" (by rfl) mg_isinstance (by decide) (si_var 0 (pv 0)) (pe_bltn (by rfl) mg_tuple (by first | exact boot_tuple | decide +kernel) rfl)) (si_one (si_orV (si_c (c_isB) (si_var 1 (pv 1)) (si_non)) (si_one (si_c (c_eq hr.units) (si_callB (cb_len) (by rfl) mg_len (by first | exact boot_len | decide +kernel) (sa_cons (si_var 0 (pv 0)) (sa_nil))) (si_var 1 (pv 1))))))))
theorem K_is_tuple {ct : String → Addr} {P : Program} {w : World} {K : PySem.W.Frag} {mg : Str → Option Value} {base : Heap} (mg_isinstance : mg "isinstance" = none) (mg_len : mg "len" = none) (mg_tuple : mg "tuple" = none) {f : Addr} {fd : FuncData} (mm : mg "is_tuple" = some (.ref f)) (F : FunD K "is_tuple" "is_tuple" (defArgs S_is_tuple) (defBody S_is_tuple) (defScope S_is_tuple) [V.non] [] f fd) : KnD ct P w K mg base "is_tuple" S_is_tuple P_is_tuple 1 G_is_tuple [.non] f fd := knD_of mm (fun _ _ => .cons .non (.nil)) F sc_is_tuple rfl (D_is_tuple mg_isinstance mg_len mg_tuple)
theorem D_is_numbers {ct : String → Addr} {P : Program} {w : World} {K : PySem.W.Frag} {mg : Str → Option Value} {base : Heap} (mg_len : mg "len" = none) {f_is_tuple : Addr} {fd_is_tuple : FuncData} (k_is_tuple : KnD ct P w K mg base "is_tuple" S_is_tuple P_is_tuple 1 G_is_tuple [.non] f_is_tuple fd_is_tuple) {f_is_number : Addr} {fd_is_number : FuncData} (k_is_number : KnD ct P w K mg base "is_number" S_is_number P_is_number 2 G_is_number [.int 0, .non] f_is_number fd_is_number) : ∀ (f : Addr) (cdv : Value) (A : Around) (outer : List Env) (s : Shared) (H : Hp) (E : XK), Room 2 (A.deeper (envOfC "is_numbers" (defScope S_is_numbers) s.heap.objs.size f cdv)) → SSs ct (bodyX P w K mg base N_is_numbers "is_numbers" S_is_numbers f cdv A outer s H E) noE (defBody S_is_numbers) B_is_numbers := fun f cdv A outer s H E hr =>
  ss_one (s_ret (si_andV (si_knD k_is_tuple 2 1 (hr.mono (by decide)) (by decide) (by decide) (fun dvs hd _ _ _ _ _ _ _ us its h1 h2 => match dvs, hd, us, its, h1, h2 with | [_], _, [_, _], [_], _, _ => ⟨_, rfl, rfl⟩) (sa_cons (si_var 0 (pv 0)) (sa_cons (si_var 1 (pv 1)) (sa_nil)))) (si_one (si_c (c_eq hr.units) (si_callB (cb_len) (by rfl) mg_len (by first | exact boot_len | decide +kernel) (sa_cons (si_comp (p := .nm 4) fin_rol 16777215 [(("one" : Str), 4)] rfl sc_is_numbers.nd (w_walk (si_var 0 (pv 0))) (blkOk_by (N := N_is_numbers) (sc := defScope S_is_numbers) (by decide +kernel)) (fun _ _ _ _ _ => sp_nm 4 sc_is_numbers.nd) (fun _ _ _ _ _ => sts_one (sb_not (sb_tru (si_knD k_is_number 3 2 (hr.mono (by decide)) (by decide) (by decide) (fun dvs hd _ _ _ _ _ _ _ us its h1 h2 => match dvs, hd, us, its, h1, h2 with | [_, _], _, [_, _, _], [_, _], _, _ => ⟨_, rfl, rfl⟩) (sa_cons (si_var 4 (pv 4)) (sa_cons (si_var 2 (pv 2)) (sa_cons (si_var 3 (pv 3)) (sa_nil)))))))) (fun _ _ _ _ _ => si_var 4 (pv 4)) (by simp [Pt.slots, Pt.slotsAll])) (sa_nil))) (si_int)))))
theorem K_is_numbers {ct : String → Addr} {P : Program} {w : World} {K : PySem.W.Frag} {mg : Str → Option Value} {base : Heap} (mg_len : mg "len" = none) {f_is_tuple : Addr} {fd_is_tuple : FuncData} (k_is_tuple : KnD ct P w K mg base "is_tuple" S_is_tuple P_is_tuple 1 G_is_tuple [.non] f_is_tuple fd_is_tuple) {f_is_number : Addr} {fd_is_number : FuncData} (k_is_number : KnD ct P w K mg base "is_number" S_is_number P_is_number 2 G_is_number [.int 0, .non] f_is_number fd_is_number) {f : Addr} {fd : FuncData} (mm : mg "is_numbers" = some (.ref f)) (F : FunD K "is_numbers" "is_numbers" (defArgs S_is_numbers) (defBody S_is_numbers) (defScope S_is_numbers) [V.int 0, V.non] [] f fd) : KnD ct P w K mg base "is_numbers" S_is_numbers P_is_numbers 3 G_is_numbers [.int 0, .non] f fd := knD_of mm (fun _ _ => .cons (.int _) (.cons .non (.nil))) F sc_is_numbers rfl (D_is_numbers mg_len k_is_tuple k_is_number)
theorem D_is_line {ct : String → Addr} {P : Program} {w : World} {K : PySem.W.Frag} {mg : Str → Option Value} {base : Heap} (mg_all : mg "all" = none) (mg_isinstance : mg "isinstance" = none) (mg_len : mg "len" = none) (mg_str : mg "str" = none) (mg_tuple : mg "tuple" = none) {q_ARGUMENTS : Addr} (cg_ARGUMENTS : CD K w mg "ARGUMENTS" [(Str.ofString "raise", 2), (Str.ofString "clear", 1), (Str.ofString "send", 2), (Str.ofString "under", 3), (Str.ofString "go", 1), (Str.ofString "stop", 0)] q_ARGUMENTS) {tk_MOST_TIMES : Tok} (cg_MOST_TIMES : mg "MOST_TIMES" = some (Value.int 999 tk_MOST_TIMES)) {q_WORDS : Addr} (cg_WORDS : CT K mg "WORDS" [Str.ofString "raise", Str.ofString "clear", Str.ofString "send", Str.ofString "under", Str.ofString "go", Str.ofString "stop"] q_WORDS) {f_is_number : Addr} {fd_is_number : FuncData} (k_is_number : KnD ct P w K mg base "is_number" S_is_number P_is_number 2 G_is_number [.int 0, .non] f_is_number fd_is_number) : ∀ (f : Addr) (cdv : Value) (A : Around) (outer : List Env) (s : Shared) (H : Hp) (E : XK), Room 2 (A.deeper (envOfC "is_line" (defScope S_is_line) s.heap.objs.size f cdv)) → SSs ct (bodyX P w K mg base N_is_line "is_line" S_is_line f cdv A outer s H E) noE (defBody S_is_line) B_is_line := fun f cdv A outer s H E hr =>
  ss_cons (s_if (sb_w (sw_or (sb_not (sb_tru (si_isi "tuple" (by rfl) mg_isinstance (by decide) (si_var 0 (pv 0)) (pe_bltn (by rfl) mg_tuple (by first | exact boot_tuple | decide +kernel) rfl)))) (sw_or (sb_c (c_eq hr.units) (si_callB (cb_len) (by rfl) mg_len (by first | exact boot_len | decide +kernel) (sa_cons (si_var 0 (pv 0)) (sa_nil))) (si_int)) (sw_or (sb_not (sb_tru (si_isi "str" (by rfl) mg_isinstance (by decide) (si_ix (si_var 0 (pv 0)) (si_int)) (pe_bltn (by rfl) mg_str (by first | exact boot_str | decide +kernel) rfl)))) (sw_or1 (sb_notinC (by rfl) cg_WORDS (si_ix (si_var 0 (pv 0)) (si_int)))))))) (ss_one (s_ret (si_bl))) (ss_nil)) (ss_cons (s_if (sb_w (sw_or (sb_c (c_ne hr.units) (si_callB (cb_len) (by rfl) mg_len (by first | exact boot_len | decide +kernel) (sa_cons (si_var 0 (pv 0)) (sa_nil))) (si_add (si_int) (si_ixC (by rfl) cg_ARGUMENTS (si_ix (si_var 0 (pv 0)) (si_int))))) (sw_or1 (sb_not (sb_tru (si_callB (cb_all rfl) (by rfl) mg_all (by first | exact boot_all | decide +kernel) (sa_cons (si_comp (p := .nm 5) fin_rol 16777215 [(("one" : Str), 5)] rfl sc_is_line.nd (w_walk (si_sl (si_var 0 (pv 0)) (so_some (si_int)) (so_none))) (blkOk_by (N := N_is_line) (sc := defScope S_is_line) (by decide +kernel)) (fun _ _ _ _ _ => sp_nm 5 sc_is_line.nd) (fun _ _ _ _ _ => sts_nil) (fun _ _ _ _ _ => si_knD k_is_number 1 0 (hr.mono (by decide)) (by decide) (by decide) (fun dvs hd _ _ _ _ _ _ _ us its h1 h2 => match dvs, hd, us, its, h1, h2 with | [_, _], _, [_], [_, _], _, _ => ⟨_, rfl, rfl⟩) (sa_cons (si_var 5 (pv 5)) (sa_nil))) (by simp [Pt.slots, Pt.slotsAll])) (sa_nil)))))))) (ss_one (s_ret (si_bl))) (ss_nil)) (ss_cons (s_if (sb_w (sw_and (sb_c (c_in) (si_ix (si_var 0 (pv 0)) (si_int)) (si_tup (sa_cons (si_str) (sa_cons (si_str) (sa_cons (si_str) (sa_cons (si_str) (sa_nil))))))) (sw_and1 (sb_c (c_ge) (si_ix (si_var 0 (pv 0)) (si_int)) (si_if (sb_c (c_eq hr.units) (si_ix (si_var 0 (pv 0)) (si_int)) (si_str)) (si_var 4 (pv 4)) (si_callB (cb_len) (by rfl) mg_len (by first | exact boot_len | decide +kernel) (sa_cons (si_var 3 (pv 3)) (sa_nil)))))))) (ss_one (s_ret (si_bl))) (ss_nil)) (ss_cons (s_if (sb_w (sw_and (sb_c (c_in) (si_ix (si_var 0 (pv 0)) (si_int)) (si_tup (sa_cons (si_str) (sa_cons (si_str) (sa_cons (si_str) (sa_nil)))))) (sw_and1 (sb_c (c_gt) (si_ix (si_var 0 (pv 0)) (si_int)) (si_C (pe_glob (v := V.int 999) (by rfl) cg_MOST_TIMES ⟨_, rfl⟩) (fun _ _ => .int _)))))) (ss_one (s_ret (si_bl))) (ss_nil)) (ss_cons (s_if (sb_w (sw_and (sb_c (c_in) (si_ix (si_var 0 (pv 0)) (si_int)) (si_tup (sa_cons (si_str) (sa_cons (si_str) (sa_nil))))) (sw_and1 (sb_not (sb_chain (c_lt) (c_lt) (si_var 1 (pv 1)) (si_ix (si_var 0 (pv 0)) (si_neg (si_int))) (si_var 2 (pv 2))))))) (ss_one (s_ret (si_bl))) (ss_nil)) (ss_one (s_ret (si_orV (si_c (c_eq hr.units) (si_ix (si_var 0 (pv 0)) (si_int)) (si_str)) (si_one (si_c (c_lt) (si_add (si_var 1 (pv 1)) (si_int)) (si_var 2 (pv 2)))))))))))
theorem K_is_line {ct : String → Addr} {P : Program} {w : World} {K : PySem.W.Frag} {mg : Str → Option Value} {base : Heap} (mg_all : mg "all" = none) (mg_isinstance : mg "isinstance" = none) (mg_len : mg "len" = none) (mg_str : mg "str" = none) (mg_tuple : mg "tuple" = none) {q_ARGUMENTS : Addr} (cg_ARGUMENTS : CD K w mg "ARGUMENTS" [(Str.ofString "raise", 2), (Str.ofString "clear", 1), (Str.ofString "send", 2), (Str.ofString "under", 3), (Str.ofString "go", 1), (Str.ofString "stop", 0)] q_ARGUMENTS) {tk_MOST_TIMES : Tok} (cg_MOST_TIMES : mg "MOST_TIMES" = some (Value.int 999 tk_MOST_TIMES)) {q_WORDS : Addr} (cg_WORDS : CT K mg "WORDS" [Str.ofString "raise", Str.ofString "clear", Str.ofString "send", Str.ofString "under", Str.ofString "go", Str.ofString "stop"] q_WORDS) {f_is_number : Addr} {fd_is_number : FuncData} (k_is_number : KnD ct P w K mg base "is_number" S_is_number P_is_number 2 G_is_number [.int 0, .non] f_is_number fd_is_number) {f : Addr} {fd : FuncData} (mm : mg "is_line" = some (.ref f)) (F : Fun K "is_line" "is_line" S_is_line f fd) : Kn ct P w K mg base "is_line" S_is_line P_is_line 3 G_is_line f fd := kn_of mm F sc_is_line rfl (D_is_line mg_all mg_isinstance mg_len mg_str mg_tuple cg_ARGUMENTS cg_MOST_TIMES cg_WORDS k_is_number)
theorem D_check_code {ct : String → Addr} {P : Program} {w : World} {K : PySem.W.Frag} {mg : Str → Option Value} {base : Heap} (mg_enumerate : mg "enumerate" = none) (mg_len : mg "len" = none) {tk_MOST_LINES : Tok} (cg_MOST_LINES : mg "MOST_LINES" = some (Value.int 4000 tk_MOST_LINES)) {tk_MOST_SENT : Tok} (cg_MOST_SENT : mg "MOST_SENT" = some (Value.int 4 tk_MOST_SENT)) {tk_MOST_TAKEN : Tok} (cg_MOST_TAKEN : mg "MOST_TAKEN" = some (Value.int 3 tk_MOST_TAKEN)) {tk_MOST_TOP : Tok} (cg_MOST_TOP : mg "MOST_TOP" = some (Value.int 71 tk_MOST_TOP)) {tk_MOST_TOPS : Tok} (cg_MOST_TOPS : mg "MOST_TOPS" = some (Value.int 4 tk_MOST_TOPS)) {fI_BadCode : Addr} (o_BadCode : QX.OwnTxt P K mg (ct "BadCode") fI_BadCode "BadCode" (fld "BadCode")) {f_is_tuple : Addr} {fd_is_tuple : FuncData} (k_is_tuple : KnD ct P w K mg base "is_tuple" S_is_tuple P_is_tuple 1 G_is_tuple [.non] f_is_tuple fd_is_tuple) {f_is_numbers : Addr} {fd_is_numbers : FuncData} (k_is_numbers : KnD ct P w K mg base "is_numbers" S_is_numbers P_is_numbers 3 G_is_numbers [.int 0, .non] f_is_numbers fd_is_numbers) {f_is_number : Addr} {fd_is_number : FuncData} (k_is_number : KnD ct P w K mg base "is_number" S_is_number P_is_number 2 G_is_number [.int 0, .non] f_is_number fd_is_number) {f_is_line : Addr} {fd_is_line : FuncData} (k_is_line : Kn ct P w K mg base "is_line" S_is_line P_is_line 3 G_is_line f_is_line fd_is_line) : ∀ (f : Addr) (cdv : Value) (A : Around) (outer : List Env) (s : Shared) (H : Hp) (E : XK), Room 3 (A.deeper (envOfC "check_code" (defScope S_check_code) s.heap.objs.size f cdv)) → TX (bodyXX P w K mg base N_check_code "check_code" S_check_code f cdv A outer s H E) E → SSs ct (bodyXX P w K mg base N_check_code "check_code" S_check_code f cdv A outer s H E) (EX ⟨K, ct, P, w⟩ E) (defBody S_check_code) B_check_code := fun f cdv A outer s H E hr tx =>
  ss_cons (s_if (sb_not (sb_tru (si_knD k_is_tuple 2 1 (hr.mono (by decide)) (by decide) (by decide) (fun dvs hd _ _ _ _ _ _ _ us its h1 h2 => match dvs, hd, us, its, h1, h2 with | [_], _, [_, _], [_], _, _ => ⟨_, rfl, rfl⟩) (sa_cons (si_var 0 (pv 0)) (sa_cons (si_int) (sa_nil)))))) (ss_one (s_raise rfl o_BadCode hr (by decide) tx (sa_cons (si_neg (si_int)) (sa_nil)))) (ss_nil)) (ss_cons (s_asg (si_var 0 (pv 0)) (sp_tp rfl (sps_cons (sp_nm 1 sc_check_code.nd) (sps_cons (sp_nm 2 sc_check_code.nd) (sps_cons (sp_nm 3 sc_check_code.nd) (sps_cons (sp_nm 4 sc_check_code.nd) (sps_nil))))))) (ss_cons (s_if (sb_w (sw_or (sb_not (sb_tru (si_knD k_is_tuple 1 0 (hr.mono (by decide)) (by decide) (by decide) (fun dvs hd _ _ _ _ _ _ _ us its h1 h2 => match dvs, hd, us, its, h1, h2 with | [_], _, [_], [_], _, _ => ⟨_, rfl, rfl⟩) (sa_cons (si_var 1 (pv 1)) (sa_nil))))) (sw_or (sb_c (c_gt) (si_callB (cb_len) (by rfl) mg_len (by first | exact boot_len | decide +kernel) (sa_cons (si_var 1 (pv 1)) (sa_nil))) (si_C (pe_glob (v := V.int 4) (by rfl) cg_MOST_TOPS ⟨_, rfl⟩) (fun _ _ => .int _))) (sw_or1 (sb_not (sb_tru (si_knD k_is_numbers 4 2 (hr.mono (by decide)) (by decide) (by decide) (fun dvs hd _ _ _ _ _ _ _ us its h1 h2 => match dvs, hd, us, its, h1, h2 with | [_, _], _, [_, _, _, _], [_, _], _, _ => ⟨_, rfl, rfl⟩) (sa_cons (si_var 1 (pv 1)) (sa_cons (si_callB (cb_len) (by rfl) mg_len (by first | exact boot_len | decide +kernel) (sa_cons (si_var 1 (pv 1)) (sa_nil))) (sa_cons (si_int) (sa_cons (si_C (pe_glob (v := V.int 71) (by rfl) cg_MOST_TOP ⟨_, rfl⟩) (fun _ _ => .int _)) (sa_nil)))))))))))) (ss_one (s_raise rfl o_BadCode hr (by decide) tx (sa_cons (si_neg (si_int)) (sa_nil)))) (ss_nil)) (ss_cons (s_if (sb_not (sb_tru (si_knD k_is_number 3 2 (hr.mono (by decide)) (by decide) (by decide) (fun dvs hd _ _ _ _ _ _ _ us its h1 h2 => match dvs, hd, us, its, h1, h2 with | [_, _], _, [_, _, _], [_, _], _, _ => ⟨_, rfl, rfl⟩) (sa_cons (si_var 2 (pv 2)) (sa_cons (si_int) (sa_cons (si_C (pe_glob (v := V.int 4) (by rfl) cg_MOST_SENT ⟨_, rfl⟩) (fun _ _ => .int _)) (sa_nil))))))) (ss_one (s_raise rfl o_BadCode hr (by decide) tx (sa_cons (si_neg (si_int)) (sa_nil)))) (ss_nil)) (ss_cons (s_if (sb_w (sw_or (sb_not (sb_tru (si_knD k_is_tuple 1 0 (hr.mono (by decide)) (by decide) (by decide) (fun dvs hd _ _ _ _ _ _ _ us its h1 h2 => match dvs, hd, us, its, h1, h2 with | [_], _, [_], [_], _, _ => ⟨_, rfl, rfl⟩) (sa_cons (si_var 4 (pv 4)) (sa_nil))))) (sw_or1 (sb_not (sb_chain (c_le) (c_le) (si_int) (si_callB (cb_len) (by rfl) mg_len (by first | exact boot_len | decide +kernel) (sa_cons (si_var 4 (pv 4)) (sa_nil))) (si_C (pe_glob (v := V.int 4000) (by rfl) cg_MOST_LINES ⟨_, rfl⟩) (fun _ _ => .int _))))))) (ss_one (s_raise rfl o_BadCode hr (by decide) tx (sa_cons (si_neg (si_int)) (sa_nil)))) (ss_nil)) (ss_cons (s_if (sb_w (sw_or (sb_not (sb_tru (si_knD k_is_tuple 1 0 (hr.mono (by decide)) (by decide) (by decide) (fun dvs hd _ _ _ _ _ _ _ us its h1 h2 => match dvs, hd, us, its, h1, h2 with | [_], _, [_], [_], _, _ => ⟨_, rfl, rfl⟩) (sa_cons (si_var 3 (pv 3)) (sa_nil))))) (sw_or1 (sb_not (sb_chain (c_le) (c_le) (si_int) (si_callB (cb_len) (by rfl) mg_len (by first | exact boot_len | decide +kernel) (sa_cons (si_var 3 (pv 3)) (sa_nil))) (si_C (pe_glob (v := V.int 3) (by rfl) cg_MOST_TAKEN ⟨_, rfl⟩) (fun _ _ => .int _))))))) (ss_one (s_raise rfl o_BadCode hr (by decide) tx (sa_cons (si_neg (si_int)) (sa_nil)))) (ss_nil)) (ss_cons (s_if (sb_not (sb_tru (si_knD k_is_numbers 4 2 (hr.mono (by decide)) (by decide) (by decide) (fun dvs hd _ _ _ _ _ _ _ us its h1 h2 => match dvs, hd, us, its, h1, h2 with | [_, _], _, [_, _, _, _], [_, _], _, _ => ⟨_, rfl, rfl⟩) (sa_cons (si_var 3 (pv 3)) (sa_cons (si_callB (cb_len) (by rfl) mg_len (by first | exact boot_len | decide +kernel) (sa_cons (si_var 3 (pv 3)) (sa_nil))) (sa_cons (si_int) (sa_cons (si_sub (si_callB (cb_len) (by rfl) mg_len (by first | exact boot_len | decide +kernel) (sa_cons (si_var 4 (pv 4)) (sa_nil))) (si_int)) (sa_nil)))))))) (ss_one (s_raise rfl o_BadCode hr (by decide) tx (sa_cons (si_neg (si_int)) (sa_nil)))) (ss_nil)) (ss_cons (s_for 16777215 PassesOwn.leaving rfl (w_enum (by rfl) mg_enumerate (sa_cons (si_var 4 (pv 4)) (sa_nil))) (sp_tp rfl (sps_cons (sp_nm 5 sc_check_code.nd) (sps_cons (sp_nm 6 sc_check_code.nd) (sps_nil)))) (ss_one (s_if (sb_not (sb_tru (si_kn k_is_line 5 (hr.mono (by decide)) (fun _ _ _ _ _ _ us hl => match us, hl with | [_, _, _, _, _], _ => rfl) (sa_cons (si_var 6 (pv 6)) (sa_cons (si_var 5 (pv 5)) (sa_cons (si_callB (cb_len) (by rfl) mg_len (by first | exact boot_len | decide +kernel) (sa_cons (si_var 4 (pv 4)) (sa_nil))) (sa_cons (si_var 1 (pv 1)) (sa_cons (si_var 2 (pv 2)) (sa_nil))))))))) (ss_one (s_raise rfl o_BadCode hr (by decide) tx (sa_cons (si_var 5 (pv 5)) (sa_nil)))) (ss_nil)))) (ss_one (s_ret (si_var 0 (pv 0)))))))))))
theorem K_check_code {ct : String → Addr} {P : Program} {w : World} {K : PySem.W.Frag} {mg : Str → Option Value} {base : Heap} (mg_enumerate : mg "enumerate" = none) (mg_len : mg "len" = none) {tk_MOST_LINES : Tok} (cg_MOST_LINES : mg "MOST_LINES" = some (Value.int 4000 tk_MOST_LINES)) {tk_MOST_SENT : Tok} (cg_MOST_SENT : mg "MOST_SENT" = some (Value.int 4 tk_MOST_SENT)) {tk_MOST_TAKEN : Tok} (cg_MOST_TAKEN : mg "MOST_TAKEN" = some (Value.int 3 tk_MOST_TAKEN)) {tk_MOST_TOP : Tok} (cg_MOST_TOP : mg "MOST_TOP" = some (Value.int 71 tk_MOST_TOP)) {tk_MOST_TOPS : Tok} (cg_MOST_TOPS : mg "MOST_TOPS" = some (Value.int 4 tk_MOST_TOPS)) {fI_BadCode : Addr} (o_BadCode : QX.OwnTxt P K mg (ct "BadCode") fI_BadCode "BadCode" (fld "BadCode")) {f_is_tuple : Addr} {fd_is_tuple : FuncData} (k_is_tuple : KnD ct P w K mg base "is_tuple" S_is_tuple P_is_tuple 1 G_is_tuple [.non] f_is_tuple fd_is_tuple) {f_is_numbers : Addr} {fd_is_numbers : FuncData} (k_is_numbers : KnD ct P w K mg base "is_numbers" S_is_numbers P_is_numbers 3 G_is_numbers [.int 0, .non] f_is_numbers fd_is_numbers) {f_is_number : Addr} {fd_is_number : FuncData} (k_is_number : KnD ct P w K mg base "is_number" S_is_number P_is_number 2 G_is_number [.int 0, .non] f_is_number fd_is_number) {f_is_line : Addr} {fd_is_line : FuncData} (k_is_line : Kn ct P w K mg base "is_line" S_is_line P_is_line 3 G_is_line f_is_line fd_is_line) {f : Addr} {fd : FuncData} (mm : mg "check_code" = some (.ref f)) (F : Fun K "check_code" "check_code" S_check_code f fd) : KnX ct P w K mg base "check_code" S_check_code P_check_code 4 G_check_code f fd := knX_of mm F sc_check_code rfl (D_check_code mg_enumerate mg_len cg_MOST_LINES cg_MOST_SENT cg_MOST_TAKEN cg_MOST_TOP cg_MOST_TOPS o_BadCode k_is_tuple k_is_numbers k_is_number k_is_line)
theorem D_law_box {ct : String → Addr} {P : Program} {w : World} {K : PySem.W.Frag} {mg : Str → Option Value} {base : Heap} (mg_abs : mg "abs" = none) (mg_int : mg "int" = none) (mg_len : mg "len" = none) : ∀ (f : Addr) (cdv : Value) (A : Around) (outer : List Env) (s : Shared) (H : Hp) (E : XK), Room 0 (A.deeper (envOfC "_law_box" (defScope S_law_box) s.heap.objs.size f cdv)) → SSs ct (bodyX P w K mg base N_law_box "_law_box" S_law_box f cdv A outer s H E) noE (defBody S_law_box) B_law_box := fun f cdv A outer s H E hr =>
  ss_cons (s_set 2 sc_law_box.nd (si_add (si_mul (si_int) (si_var 1 (pv 1))) (si_int))) (ss_cons (s_if (sb_c (c_lt) (si_var 1 (pv 1)) (si_callB (cb_len) (by rfl) mg_len (by first | exact boot_len | decide +kernel) (sa_cons (si_var 0 (pv 0)) (sa_nil)))) (ss_one (s_set 2 sc_law_box.nd (si_callB (cb_abs) (by rfl) mg_abs (by first | exact boot_abs | decide +kernel) (sa_cons (si_callTy (cb_int) (by rfl) mg_int (by first | exact boot_int | decide +kernel) (sa_cons (si_ix (si_var 0 (pv 0)) (si_var 1 (pv 1))) (sa_nil))) (sa_nil))))) (ss_one (s_if (sb_c (c_gt) (si_callB (cb_len) (by rfl) mg_len (by first | exact boot_len | decide +kernel) (sa_cons (si_var 0 (pv 0)) (sa_nil))) (si_int)) (ss_one (s_set 2 sc_law_box.nd (si_add (si_var 2 (pv 2)) (si_mul (si_mod (si_callTy (cb_int) (by rfl) mg_int (by first | exact boot_int | decide +kernel) (sa_cons (si_callB (cb_abs) (by rfl) mg_abs (by first | exact boot_abs | decide +kernel) (sa_cons (si_callTy (cb_int) (by rfl) mg_int (by first | exact boot_int | decide +kernel) (sa_cons (si_ix (si_var 0 (pv 0)) (si_mod (si_callTy (cb_int) (by rfl) mg_int (by first | exact boot_int | decide +kernel) (sa_cons (si_var 1 (pv 1)) (sa_nil))) (si_callB (cb_len) (by rfl) mg_len (by first | exact boot_len | decide +kernel) (sa_cons (si_var 0 (pv 0)) (sa_nil))))) (sa_nil))) (sa_nil))) (sa_nil))) (si_int)) (si_int))))) (ss_nil)))) (ss_cons (s_set 3 sc_law_box.nd (si_if (sb_c (c_ge) (si_var 2 (pv 2)) (si_pow (si_int) (si_int))) (si_var 2 (pv 2)) (si_int))) (ss_one (s_ret (si_cell (sf_lst (sa_cons (si_var 3 (pv 3)) (sa_cons (si_add (si_mod (si_callTy (cb_int) (by rfl) mg_int (by first | exact boot_int | decide +kernel) (sa_cons (si_add (si_mul (si_mod (si_callTy (cb_int) (by rfl) mg_int (by first | exact boot_int | decide +kernel) (sa_cons (si_var 2 (pv 2)) (sa_nil))) (si_int)) (si_int)) (si_mul (si_int) (si_var 1 (pv 1)))) (sa_nil))) (si_int)) (si_int)) (sa_nil)))))))))
theorem K_law_box {ct : String → Addr} {P : Program} {w : World} {K : PySem.W.Frag} {mg : Str → Option Value} {base : Heap} (mg_abs : mg "abs" = none) (mg_int : mg "int" = none) (mg_len : mg "len" = none) {f : Addr} {fd : FuncData} (mm : mg "_law_box" = some (.ref f)) (F : Fun K "_law_box" "_law_box" S_law_box f fd) : Kn ct P w K mg base "_law_box" S_law_box P_law_box 1 G_law_box f fd := kn_of mm F sc_law_box rfl (D_law_box mg_abs mg_int mg_len)
theorem D_law_take {ct : String → Addr} {P : Program} {w : World} {K : PySem.W.Frag} {mg : Str → Option Value} {base : Heap} (mg_int : mg "int" = none) : ∀ (f : Addr) (cdv : Value) (A : Around) (outer : List Env) (s : Shared) (H : Hp) (E : XK), Room 0 (A.deeper (envOfC "_law_take" (defScope S_law_take) s.heap.objs.size f cdv)) → SSs ct (bodyX P w K mg base N_law_take "_law_take" S_law_take f cdv A outer s H E) noE (defBody S_law_take) B_law_take := fun f cdv A outer s H E hr =>
  ss_cons (s_if (sb_c (c_gt) (si_ix (si_var 0 (pv 0)) (si_int)) (si_int)) (ss_cons (s_set 2 sc_law_take.nd (si_mod (si_callTy (cb_int) (by rfl) mg_int (by first | exact boot_int | decide +kernel) (sa_cons (si_ix (si_var 0 (pv 0)) (si_int)) (sa_nil))) (si_var 1 (pv 1)))) (ss_cons (s_setIx (si_var 0 (pv 0)) (si_int) (si_fdiv (si_ix (si_var 0 (pv 0)) (si_int)) (si_var 1 (pv 1)))) (ss_one (s_ret (si_var 2 (pv 2)))))) (ss_nil)) (ss_cons (s_set 3 sc_law_take.nd (si_mod (si_callTy (cb_int) (by rfl) mg_int (by first | exact boot_int | decide +kernel) (sa_cons (si_add (si_mul (si_ix (si_var 0 (pv 0)) (si_int)) (si_int)) (si_int)) (sa_nil))) (si_int))) (ss_cons (s_setIx (si_var 0 (pv 0)) (si_int) (si_add (si_mod (si_callTy (cb_int) (by rfl) mg_int (by first | exact boot_int | decide +kernel) (sa_cons (si_add (si_mul (si_var 3 (pv 3)) (si_int)) (si_int)) (sa_nil))) (si_int)) (si_int))) (ss_one (s_ret (si_mod (si_callTy (cb_int) (by rfl) mg_int (by first | exact boot_int | decide +kernel) (sa_cons (si_fdiv (si_add (si_mul (si_var 3 (pv 3)) (si_int)) (si_ix (si_var 0 (pv 0)) (si_int))) (si_int)) (sa_nil))) (si_var 1 (pv 1)))))))
theorem K_law_take {ct : String → Addr} {P : Program} {w : World} {K : PySem.W.Frag} {mg : Str → Option Value} {base : Heap} (mg_int : mg "int" = none) {f : Addr} {fd : FuncData} (mm : mg "_law_take" = some (.ref f)) (F : Fun K "_law_take" "_law_take" S_law_take f fd) : Kn ct P w K mg base "_law_take" S_law_take P_law_take 1 G_law_take f fd := kn_of mm F sc_law_take rfl (D_law_take mg_int)
theorem D_law_same {ct : String → Addr} {P : Program} {w : World} {K : PySem.W.Frag} {mg : Str → Option Value} {base : Heap} (mg_bool : mg "bool" = none) (mg_int : mg "int" = none) (mg_isinstance : mg "isinstance" = none) (mg_len : mg "len" = none) (mg_str : mg "str" = none) (mg_tuple : mg "tuple" = none) (mg_zip : mg "zip" = none) {G_law_same : List D → Sto → Rs D} {lv : Nat} (hlv : 0 ≤ lv) {f_law_same : Addr} {fd_law_same : FuncData} (k_law_same : Kn ct P w K mg base "_law_same" S_law_same P_law_same lv G_law_same f_law_same fd_law_same) : ∀ (f : Addr) (cdv : Value) (A : Around) (outer : List Env) (s : Shared) (H : Hp) (E : XK), Room lv (A.deeper (envOfC "_law_same" (defScope S_law_same) s.heap.objs.size f cdv)) → SSs ct (bodyX P w K mg base N_law_same "_law_same" S_law_same f cdv A outer s H E) noE (defBody S_law_same) (B_law_same G_law_same) := fun f cdv A outer s H E hr =>
  ss_cons (s_if (sb_tru (si_isi "tuple" (by rfl) mg_isinstance (by decide) (si_var 1 (pv 1)) (pe_bltn (by rfl) mg_tuple (by first | exact boot_tuple | decide +kernel) rfl))) (ss_cons (s_if (sb_w (sw_or (sb_not (sb_tru (si_isi "tuple" (by rfl) mg_isinstance (by decide) (si_var 0 (pv 0)) (pe_bltn (by rfl) mg_tuple (by first | exact boot_tuple | decide +kernel) rfl)))) (sw_or1 (sb_c (c_ne hr.units) (si_callB (cb_len) (by rfl) mg_len (by first | exact boot_len | decide +kernel) (sa_cons (si_var 0 (pv 0)) (sa_nil))) (si_callB (cb_len) (by rfl) mg_len (by first | exact boot_len | decide +kernel) (sa_cons (si_var 1 (pv 1)) (sa_nil))))))) (ss_one (s_ret (si_bl))) (ss_nil)) (ss_cons (s_for 16777215 PassesOwn.never rfl (w_zip (by rfl) mg_zip (sa_cons (si_var 0 (pv 0)) (sa_cons (si_var 1 (pv 1)) (sa_nil)))) (sp_tp rfl (sps_cons (sp_nm 2 sc_law_same.nd) (sps_cons (sp_nm 3 sc_law_same.nd) (sps_nil)))) (ss_one (s_if (sb_not (sb_tru (si_kn k_law_same 2 hr (fun _ _ _ _ _ _ us hl => match us, hl with | [_, _], _ => rfl) (sa_cons (si_var 2 (pv 2)) (sa_cons (si_var 3 (pv 3)) (sa_nil)))))) (ss_one (s_ret (si_bl))) (ss_nil)))) (ss_one (s_ret (si_bl))))) (ss_nil)) (ss_cons (s_if (sb_c (c_isB) (si_var 1 (pv 1)) (si_non)) (ss_one (s_ret (si_c (c_isB) (si_var 0 (pv 0)) (si_non)))) (ss_nil)) (ss_cons (s_if (sb_w (sw_or (sb_c (c_isB) (si_var 1 (pv 1)) (si_bl)) (sw_or1 (sb_c (c_isB) (si_var 1 (pv 1)) (si_bl))))) (ss_one (s_ret (si_andV (si_isi "bool" (by rfl) mg_isinstance (by decide) (si_var 0 (pv 0)) (pe_bltn (by rfl) mg_bool (by first | exact boot_bool | decide +kernel) rfl)) (si_one (si_c (c_eq hr.units) (si_var 0 (pv 0)) (si_var 1 (pv 1))))))) (ss_nil)) (ss_cons (s_if (sb_tru (si_isi "int" (by rfl) mg_isinstance (by decide) (si_var 1 (pv 1)) (pe_bltn (by rfl) mg_int (by first | exact boot_int | decide +kernel) rfl))) (ss_one (s_ret (si_andV (si_isi "int" (by rfl) mg_isinstance (by decide) (si_var 0 (pv 0)) (pe_bltn (by rfl) mg_int (by first | exact boot_int | decide +kernel) rfl)) (si_andV (si_notV (si_isi "bool" (by rfl) mg_isinstance (by decide) (si_var 0 (pv 0)) (pe_bltn (by rfl) mg_bool (by first | exact boot_bool | decide +kernel) rfl))) (si_one (si_c (c_eq hr.units) (si_var 0 (pv 0)) (si_var 1 (pv 1)))))))) (ss_nil)) (ss_one (s_ret (si_andV (si_isi "str" (by rfl) mg_isinstance (by decide) (si_var 0 (pv 0)) (pe_bltn (by rfl) mg_str (by first | exact boot_str | decide +kernel) rfl)) (si_andV (si_isi "str" (by rfl) mg_isinstance (by decide) (si_var 1 (pv 1)) (pe_bltn (by rfl) mg_str (by first | exact boot_str | decide +kernel) rfl)) (si_one (si_c (c_eq hr.units) (si_var 0 (pv 0)) (si_var 1 (pv 1)))))))))))
theorem KR_law_same {ct : String → Addr} {P : Program} {w : World} {K : PySem.W.Frag} {mg : Str → Option Value} {base : Heap} (mg_bool : mg "bool" = none) (mg_int : mg "int" = none) (mg_isinstance : mg "isinstance" = none) (mg_len : mg "len" = none) (mg_str : mg "str" = none) (mg_tuple : mg "tuple" = none) (mg_zip : mg "zip" = none) {f : Addr} {fd : FuncData} (mm : mg "_law_same" = some (.ref f)) (F : Fun K "_law_same" "_law_same" S_law_same f fd) : ∀ n : Nat, Kn ct P w K mg base "_law_same" S_law_same P_law_same (n + 0) (Gr_law_same n) f fd
  | 0 => kn_bad mm F sc_law_same
  | n + 1 => (kn_of mm F sc_law_same rfl (D_law_same mg_bool mg_int mg_isinstance mg_len mg_str mg_tuple mg_zip (Nat.le_add_left _ n) (KR_law_same mg_bool mg_int mg_isinstance mg_len mg_str mg_tuple mg_zip mm F n))).up (by omega)
theorem K_law_same {ct : String → Addr} {P : Program} {w : World} {K : PySem.W.Frag} {mg : Str → Option Value} {base : Heap} (mg_bool : mg "bool" = none) (mg_int : mg "int" = none) (mg_isinstance : mg "isinstance" = none) (mg_len : mg "len" = none) (mg_str : mg "str" = none) (mg_tuple : mg "tuple" = none) (mg_zip : mg "zip" = none) {f : Addr} {fd : FuncData} (mm : mg "_law_same" = some (.ref f)) (F : Fun K "_law_same" "_law_same" S_law_same f fd) : Kn ct P w K mg base "_law_same" S_law_same P_law_same 8 G_law_same f fd := KR_law_same mg_bool mg_int mg_isinstance mg_len mg_str mg_tuple mg_zip mm F 8
theorem D_law_drawn_code {ct : String → Addr} {P : Program} {w : World} {K : PySem.W.Frag} {mg : Str → Option Value} {base : Heap} (mg_len : mg "len" = none) (mg_min : mg "min" = none) (mg_range : mg "range" = none) (mg_tuple : mg "tuple" = none) {f_law_take : Addr} {fd_law_take : FuncData} (k_law_take : Kn ct P w K mg base "_law_take" S_law_take P_law_take 1 G_law_take f_law_take fd_law_take) : ∀ (f : Addr) (cdv : Value) (A : Around) (outer : List Env) (s : Shared) (H : Hp) (E : XK), Room 1 (A.deeper (envOfC "_law_drawn_code" (defScope S_law_drawn_code) s.heap.objs.size f cdv)) → SSs ct (bodyX P w K mg base N_law_drawn_code "_law_drawn_code" S_law_drawn_code f cdv A outer s H E) noE (defBody S_law_drawn_code) B_law_drawn_code := fun f cdv A outer s H E hr =>
  ss_cons (s_set 1 sc_law_drawn_code.nd (si_callTy (cb_tuple) (by rfl) mg_tuple (by first | exact boot_tuple | decide +kernel) (sa_cons (si_comp (p := .nm 8) fin_rol 16777215 [(("reg" : Str), 8)] rfl sc_law_drawn_code.nd (w_range1 (by rfl) mg_range (sa_cons (si_kn k_law_take 2 (hr.mono (by decide)) (fun _ _ _ _ _ _ us hl => match us, hl with | [_, _], _ => rfl) (sa_cons (si_var 0 (pv 0)) (sa_cons (si_int) (sa_nil)))) (sa_nil))) (blkOk_by (N := N_law_drawn_code) (sc := defScope S_law_drawn_code) (by decide +kernel)) (fun _ _ _ _ _ => sp_nm 8 sc_law_drawn_code.nd) (fun _ _ _ _ _ => sts_nil) (fun _ _ _ _ _ => si_add (si_int) (si_kn k_law_take 2 (hr.mono (by decide)) (fun _ _ _ _ _ _ us hl => match us, hl with | [_, _], _ => rfl) (sa_cons (si_var 0 (pv 0)) (sa_cons (si_int) (sa_nil))))) (by simp [Pt.slots, Pt.slotsAll])) (sa_nil)))) (ss_cons (s_asg (si_tup (sa_cons (si_kn k_law_take 2 (hr.mono (by decide)) (fun _ _ _ _ _ _ us hl => match us, hl with | [_, _], _ => rfl) (sa_cons (si_var 0 (pv 0)) (sa_cons (si_int) (sa_nil)))) (sa_cons (si_add (si_int) (si_kn k_law_take 2 (hr.mono (by decide)) (fun _ _ _ _ _ _ us hl => match us, hl with | [_, _], _ => rfl) (sa_cons (si_var 0 (pv 0)) (sa_cons (si_int) (sa_nil))))) (sa_cons (si_add (si_int) (si_kn k_law_take 2 (hr.mono (by decide)) (fun _ _ _ _ _ _ us hl => match us, hl with | [_, _], _ => rfl) (sa_cons (si_var 0 (pv 0)) (sa_cons (si_int) (sa_nil))))) (sa_nil))))) (sp_tp rfl (sps_cons (sp_nm 2 sc_law_drawn_code.nd) (sps_cons (sp_nm 3 sc_law_drawn_code.nd) (sps_cons (sp_nm 4 sc_law_drawn_code.nd) (sps_nil)))))) (ss_cons (s_set 5 sc_law_drawn_code.nd (si_cell (sf_lst (sa_nil)))) (ss_cons (s_for 16777215 PassesOwn.never rfl (w_range1 (by rfl) mg_range (sa_cons (si_sub (si_var 4 (pv 4)) (si_int)) (sa_nil))) (sp_nm 6 sc_law_drawn_code.nd) (ss_cons (s_set 7 sc_law_drawn_code.nd (si_kn k_law_take 2 (hr.mono (by decide)) (fun _ _ _ _ _ _ us hl => match us, hl with | [_, _], _ => rfl) (sa_cons (si_var 0 (pv 0)) (sa_cons (si_int) (sa_nil))))) (ss_one (s_if (sb_w (sw_and (sb_c (c_lt) (si_var 7 (pv 7)) (si_int)) (sw_and1 (sb_c (c_ne hr.units) (si_var 1 (pv 1)) (si_tup (sa_nil)))))) (ss_one (s_expr (si_append (si_var 5 (pv 5)) (sa_cons (si_tup (sa_cons (si_str) (sa_cons (si_kn k_law_take 2 (hr.mono (by decide)) (fun _ _ _ _ _ _ us hl => match us, hl with | [_, _], _ => rfl) (sa_cons (si_var 0 (pv 0)) (sa_cons (si_callB (cb_len) (by rfl) mg_len (by first | exact boot_len | decide +kernel) (sa_cons (si_var 1 (pv 1)) (sa_nil))) (sa_nil)))) (sa_cons (si_add (si_int) (si_kn k_law_take 2 (hr.mono (by decide)) (fun _ _ _ _ _ _ us hl => match us, hl with | [_, _], _ => rfl) (sa_cons (si_var 0 (pv 0)) (sa_cons (si_int) (sa_nil))))) (sa_nil))))) (sa_nil))))) (ss_one (s_if (sb_w (sw_and (sb_c (c_eq hr.units) (si_var 7 (pv 7)) (si_int)) (sw_and1 (sb_c (c_ne hr.units) (si_var 1 (pv 1)) (si_tup (sa_nil)))))) (ss_one (s_expr (si_append (si_var 5 (pv 5)) (sa_cons (si_tup (sa_cons (si_str) (sa_cons (si_kn k_law_take 2 (hr.mono (by decide)) (fun _ _ _ _ _ _ us hl => match us, hl with | [_, _], _ => rfl) (sa_cons (si_var 0 (pv 0)) (sa_cons (si_callB (cb_len) (by rfl) mg_len (by first | exact boot_len | decide +kernel) (sa_cons (si_var 1 (pv 1)) (sa_nil))) (sa_nil)))) (sa_nil)))) (sa_nil))))) (ss_one (s_if (sb_w (sw_and (sb_c (c_eq hr.units) (si_var 7 (pv 7)) (si_int)) (sw_and1 (sb_c (c_gt) (si_var 2 (pv 2)) (si_int))))) (ss_one (s_expr (si_append (si_var 5 (pv 5)) (sa_cons (si_tup (sa_cons (si_str) (sa_cons (si_kn k_law_take 2 (hr.mono (by decide)) (fun _ _ _ _ _ _ us hl => match us, hl with | [_, _], _ => rfl) (sa_cons (si_var 0 (pv 0)) (sa_cons (si_var 2 (pv 2)) (sa_nil)))) (sa_cons (si_add (si_int) (si_kn k_law_take 2 (hr.mono (by decide)) (fun _ _ _ _ _ _ us hl => match us, hl with | [_, _], _ => rfl) (sa_cons (si_var 0 (pv 0)) (sa_cons (si_int) (sa_nil))))) (sa_nil))))) (sa_nil))))) (ss_one (s_if (sb_w (sw_and (sb_c (c_lt) (si_var 7 (pv 7)) (si_int)) (sw_and1 (sb_c (c_ne hr.units) (si_var 1 (pv 1)) (si_tup (sa_nil)))))) (ss_one (s_expr (si_append (si_var 5 (pv 5)) (sa_cons (si_tup (sa_cons (si_str) (sa_cons (si_kn k_law_take 2 (hr.mono (by decide)) (fun _ _ _ _ _ _ us hl => match us, hl with | [_, _], _ => rfl) (sa_cons (si_var 0 (pv 0)) (sa_cons (si_callB (cb_len) (by rfl) mg_len (by first | exact boot_len | decide +kernel) (sa_cons (si_var 1 (pv 1)) (sa_nil))) (sa_nil)))) (sa_cons (si_kn k_law_take 2 (hr.mono (by decide)) (fun _ _ _ _ _ _ us hl => match us, hl with | [_, _], _ => rfl) (sa_cons (si_var 0 (pv 0)) (sa_cons (si_int) (sa_nil)))) (sa_cons (si_add (si_add (si_var 6 (pv 6)) (si_int)) (si_kn k_law_take 2 (hr.mono (by decide)) (fun _ _ _ _ _ _ us hl => match us, hl with | [_, _], _ => rfl) (sa_cons (si_var 0 (pv 0)) (sa_cons (si_callB (cb_min rfl) (by rfl) mg_min (by first | exact boot_min | decide +kernel) (sa_cons (si_int) (sa_cons (si_sub (si_sub (si_var 4 (pv 4)) (si_int)) (si_var 6 (pv 6))) (sa_nil)))) (sa_nil))))) (sa_nil)))))) (sa_nil))))) (ss_one (s_expr (si_append (si_var 5 (pv 5)) (sa_cons (si_if (sb_c (c_gt) (si_kn k_law_take 2 (hr.mono (by decide)) (fun _ _ _ _ _ _ us hl => match us, hl with | [_, _], _ => rfl) (sa_cons (si_var 0 (pv 0)) (sa_cons (si_int) (sa_nil)))) (si_int)) (si_tup (sa_cons (si_str) (sa_cons (si_add (si_add (si_var 6 (pv 6)) (si_int)) (si_kn k_law_take 2 (hr.mono (by decide)) (fun _ _ _ _ _ _ us hl => match us, hl with | [_, _], _ => rfl) (sa_cons (si_var 0 (pv 0)) (sa_cons (si_callB (cb_min rfl) (by rfl) mg_min (by first | exact boot_min | decide +kernel) (sa_cons (si_int) (sa_cons (si_sub (si_sub (si_var 4 (pv 4)) (si_int)) (si_var 6 (pv 6))) (sa_nil)))) (sa_nil))))) (sa_nil)))) (si_tup (sa_cons (si_str) (sa_nil)))) (sa_nil))))))))))))))) (ss_one (s_ret (si_tup (sa_cons (si_var 1 (pv 1)) (sa_cons (si_var 2 (pv 2)) (sa_cons (si_callTy (cb_tuple) (by rfl) mg_tuple (by first | exact boot_tuple | decide +kernel) (sa_cons (si_comp (p := .nm 9) fin_rol 16777215 [(("letter" : Str), 9)] rfl sc_law_drawn_code.nd (w_range1 (by rfl) mg_range (sa_cons (si_var 3 (pv 3)) (sa_nil))) (blkOk_by (N := N_law_drawn_code) (sc := defScope S_law_drawn_code) (by decide +kernel)) (fun _ _ _ _ _ => sp_nm 9 sc_law_drawn_code.nd) (fun _ _ _ _ _ => sts_nil) (fun _ _ _ _ _ => si_kn k_law_take 2 (hr.mono (by decide)) (fun _ _ _ _ _ _ us hl => match us, hl with | [_, _], _ => rfl) (sa_cons (si_var 0 (pv 0)) (sa_cons (si_var 4 (pv 4)) (sa_nil)))) (by simp [Pt.slots, Pt.slotsAll])) (sa_nil))) (sa_cons (si_add (si_callTy (cb_tuple) (by rfl) mg_tuple (by first | exact boot_tuple | decide +kernel) (sa_cons (si_var 5 (pv 5)) (sa_nil))) (si_tup (sa_cons (si_tup (sa_cons (si_str) (sa_nil))) (sa_nil)))) (sa_nil)))))))))))
theorem K_law_drawn_code {ct : String → Addr} {P : Program} {w : World} {K : PySem.W.Frag} {mg : Str → Option Value} {base : Heap} (mg_len : mg "len" = none) (mg_min : mg "min" = none) (mg_range : mg "range" = none) (mg_tuple : mg "tuple" = none) {f_law_take : Addr} {fd_law_take : FuncData} (k_law_take : Kn ct P w K mg base "_law_take" S_law_take P_law_take 1 G_law_take f_law_take fd_law_take) {f : Addr} {fd : FuncData} (mm : mg "_law_drawn_code" = some (.ref f)) (F : Fun K "_law_drawn_code" "_law_drawn_code" S_law_drawn_code f fd) : Kn ct P w K mg base "_law_drawn_code" S_law_drawn_code P_law_drawn_code 2 G_law_drawn_code f fd := kn_of mm F sc_law_drawn_code rfl (D_law_drawn_code mg_len mg_min mg_range mg_tuple k_law_take)
theorem D_law_number {ct : String → Addr} {P : Program} {w : World} {K : PySem.W.Frag} {mg : Str → Option Value} {base : Heap} (mg_bool : mg "bool" = none) (mg_int : mg "int" = none) (mg_isinstance : mg "isinstance" = none) : ∀ (f : Addr) (cdv : Value) (A : Around) (outer : List Env) (s : Shared) (H : Hp) (E : XK), Room 0 (A.deeper (envOfC "_law_number" (defScope S_law_number) s.heap.objs.size f cdv)) → SSs ct (bodyX P w K mg base N_law_number "_law_number" S_law_number f cdv A outer s H E) noE (defBody S_law_number) B_law_number := fun f cdv A outer s H E hr =>
  ss_one (s_ret (si_andV (si_isi "int" (by rfl) mg_isinstance (by decide) (si_var 0 (pv 0)) (pe_bltn (by rfl) mg_int (by first | exact boot_int | decide +kernel) rfl)) (si_andV (si_notV (si_isi "bool" (by rfl) mg_isinstance (by decide) (si_var 0 (pv 0)) (pe_bltn (by rfl) mg_bool (by first | exact boot_bool | decide +kernel) rfl))) (si_one (si_chain (c_le) (c_le) (si_var 1 (pv 1)) (si_var 0 (pv 0)) (si_var 2 (pv 2)))))))
theorem K_law_number {ct : String → Addr} {P : Program} {w : World} {K : PySem.W.Frag} {mg : Str → Option Value} {base : Heap} (mg_bool : mg "bool" = none) (mg_int : mg "int" = none) (mg_isinstance : mg "isinstance" = none) {f : Addr} {fd : FuncData} (mm : mg "_law_number" = some (.ref f)) (F : Fun K "_law_number" "_law_number" S_law_number f fd) : Kn ct P w K mg base "_law_number" S_law_number P_law_number 1 G_law_number f fd := kn_of mm F sc_law_number rfl (D_law_number mg_bool mg_int mg_isinstance)
theorem D_law_is_line {ct : String → Addr} {P : Program} {w : World} {K : PySem.W.Frag} {mg : Str → Option Value} {base : Heap} (mg_isinstance : mg "isinstance" = none) (mg_len : mg "len" = none) (mg_str : mg "str" = none) (mg_tuple : mg "tuple" = none) (mg_zip : mg "zip" = none) {f_law_number : Addr} {fd_law_number : FuncData} (k_law_number : Kn ct P w K mg base "_law_number" S_law_number P_law_number 1 G_law_number f_law_number fd_law_number) : ∀ (f : Addr) (cdv : Value) (A : Around) (outer : List Env) (s : Shared) (H : Hp) (E : XK), Room 1 (A.deeper (envOfC "_law_is_line" (defScope S_law_is_line) s.heap.objs.size f cdv)) → SSs ct (bodyX P w K mg base N_law_is_line "_law_is_line" S_law_is_line f cdv A outer s H E) noE (defBody S_law_is_line) B_law_is_line := fun f cdv A outer s H E hr =>
  ss_cons (s_par2 2 3 rfl sc_law_is_line.nd (sa_cons (si_ix (si_ix (si_var 0 (pv 0)) (si_int)) (si_var 1 (pv 1))) (sa_cons (si_callB (cb_len) (by rfl) mg_len (by first | exact boot_len | decide +kernel) (sa_cons (si_ix (si_var 0 (pv 0)) (si_int)) (sa_nil))) (sa_nil)))) (ss_cons (s_if (sb_w (sw_or (sb_not (sb_tru (si_isi "tuple" (by rfl) mg_isinstance (by decide) (si_var 2 (pv 2)) (pe_bltn (by rfl) mg_tuple (by first | exact boot_tuple | decide +kernel) rfl)))) (sw_or (sb_c (c_eq hr.units) (si_var 2 (pv 2)) (si_tup (sa_nil))) (sw_or1 (sb_not (sb_tru (si_isi "str" (by rfl) mg_isinstance (by decide) (si_ix (si_var 2 (pv 2)) (si_int)) (pe_bltn (by rfl) mg_str (by first | exact boot_str | decide +kernel) rfl)))))))) (ss_one (s_ret (si_bl))) (ss_nil)) (ss_cons (s_set 4 sc_law_is_line.nd (si_disp (sps_consD (si_str) (si_str) (sps_consD (si_str) (si_str) (sps_consD (si_str) (si_str) (sps_consD (si_str) (si_str) (sps_consD (si_str) (si_str) (sps_consD (si_str) (si_str) (sps_nilD))))))) rfl rfl (by decide) (by decide))) (ss_cons (s_if (sb_w (sw_or (sb_c (c_notinD hr.u1) (si_ix (si_var 2 (pv 2)) (si_int)) (si_var 4 (pv 4))) (sw_or (sb_c (c_ne hr.units) (si_callB (cb_len) (by rfl) mg_len (by first | exact boot_len | decide +kernel) (sa_cons (si_var 2 (pv 2)) (sa_nil))) (si_add (si_int) (si_callB (cb_len) (by rfl) mg_len (by first | exact boot_len | decide +kernel) (sa_cons (si_ixD hr.u1 (si_var 4 (pv 4)) (si_ix (si_var 2 (pv 2)) (si_int))) (sa_nil))))) (sw_or1 (sb_w (sw_and (sb_c (c_eq hr.units) (si_add (si_var 1 (pv 1)) (si_int)) (si_var 3 (pv 3))) (sw_and1 (sb_c (c_ne hr.units) (si_ix (si_var 2 (pv 2)) (si_int)) (si_str))))))))) (ss_one (s_ret (si_bl))) (ss_nil)) (ss_cons (s_for 16777215 PassesOwn.never rfl (w_zipM (by rfl) mg_zip (sa_cons (si_ixD hr.u1 (si_var 4 (pv 4)) (si_ix (si_var 2 (pv 2)) (si_int))) (sa_cons (si_sl (si_var 2 (pv 2)) (so_some (si_int)) (so_none)) (sa_nil)))) (sp_tp rfl (sps_cons (sp_nm 5 sc_law_is_line.nd) (sps_cons (sp_nm 6 sc_law_is_line.nd) (sps_nil)))) (ss_cons (s_asg (si_ixD hr.u1 (si_disp (sps_consD (si_str) (si_tup (sa_cons (si_int) (sa_cons (si_sub (si_callB (cb_len) (by rfl) mg_len (by first | exact boot_len | decide +kernel) (sa_cons (si_ix (si_var 0 (pv 0)) (si_int)) (sa_nil))) (si_int)) (sa_nil)))) (sps_consD (si_str) (si_tup (sa_cons (si_int) (sa_cons (si_sub (si_ix (si_var 0 (pv 0)) (si_int)) (si_int)) (sa_nil)))) (sps_consD (si_str) (si_tup (sa_cons (si_int) (sa_cons (si_int) (sa_nil)))) (sps_consD (si_str) (si_tup (sa_cons (si_add (si_var 1 (pv 1)) (si_int)) (sa_cons (si_sub (si_var 3 (pv 3)) (si_int)) (sa_nil)))) (sps_nilD))))) rfl rfl (by decide) (by decide)) (si_var 5 (pv 5))) (sp_tp rfl (sps_cons (sp_nm 7 sc_law_is_line.nd) (sps_cons (sp_nm 8 sc_law_is_line.nd) (sps_nil))))) (ss_one (s_if (sb_not (sb_tru (si_kn k_law_number 3 (hr.mono (by decide)) (fun _ _ _ _ _ _ us hl => match us, hl with | [_, _, _], _ => rfl) (sa_cons (si_var 6 (pv 6)) (sa_cons (si_var 7 (pv 7)) (sa_cons (si_var 8 (pv 8)) (sa_nil))))))) (ss_one (s_ret (si_bl))) (ss_nil))))) (ss_one (s_ret (si_bl)))))))
theorem K_law_is_line {ct : String → Addr} {P : Program} {w : World} {K : PySem.W.Frag} {mg : Str → Option Value} {base : Heap} (mg_isinstance : mg "isinstance" = none) (mg_len : mg "len" = none) (mg_str : mg "str" = none) (mg_tuple : mg "tuple" = none) (mg_zip : mg "zip" = none) {f_law_number : Addr} {fd_law_number : FuncData} (k_law_number : Kn ct P w K mg base "_law_number" S_law_number P_law_number 1 G_law_number f_law_number fd_law_number) {f : Addr} {fd : FuncData} (mm : mg "_law_is_line" = some (.ref f)) (F : Fun K "_law_is_line" "_law_is_line" S_law_is_line f fd) : Kn ct P w K mg base "_law_is_line" S_law_is_line P_law_is_line 2 G_law_is_line f fd := kn_of mm F sc_law_is_line rfl (D_law_is_line mg_isinstance mg_len mg_str mg_tuple mg_zip k_law_number)
theorem D_law_code_fault {ct : String → Addr} {P : Program} {w : World} {K : PySem.W.Frag} {mg : Str → Option Value} {base : Heap} (mg_isinstance : mg "isinstance" = none) (mg_len : mg "len" = none) (mg_range : mg "range" = none) (mg_tuple : mg "tuple" = none) {f_law_number : Addr} {fd_law_number : FuncData} (k_law_number : Kn ct P w K mg base "_law_number" S_law_number P_law_number 1 G_law_number f_law_number fd_law_number) {f_law_is_line : Addr} {fd_law_is_line : FuncData} (k_law_is_line : Kn ct P w K mg base "_law_is_line" S_law_is_line P_law_is_line 2 G_law_is_line f_law_is_line fd_law_is_line) : ∀ (f : Addr) (cdv : Value) (A : Around) (outer : List Env) (s : Shared) (H : Hp) (E : XK), Room 2 (A.deeper (envOfC "_law_code_fault" (defScope S_law_code_fault) s.heap.objs.size f cdv)) → SSs ct (bodyX P w K mg base N_law_code_fault "_law_code_fault" S_law_code_fault f cdv A outer s H E) noE (defBody S_law_code_fault) B_law_code_fault := fun f cdv A outer s H E hr =>
  ss_cons (s_if (sb_w (sw_or (sb_not (sb_tru (si_isi "tuple" (by rfl) mg_isinstance (by decide) (si_var 0 (pv 0)) (pe_bltn (by rfl) mg_tuple (by first | exact boot_tuple | decide +kernel) rfl)))) (sw_or1 (sb_c (c_ne hr.units) (si_callB (cb_len) (by rfl) mg_len (by first | exact boot_len | decide +kernel) (sa_cons (si_var 0 (pv 0)) (sa_nil))) (si_int))))) (ss_one (s_ret (si_sub (si_int) (si_int)))) (ss_nil)) (ss_cons (s_if (sb_w (sw_or (sb_not (sb_tru (si_isi "tuple" (by rfl) mg_isinstance (by decide) (si_ix (si_var 0 (pv 0)) (si_int)) (pe_bltn (by rfl) mg_tuple (by first | exact boot_tuple | decide +kernel) rfl)))) (sw_or (sb_c (c_gt) (si_callB (cb_len) (by rfl) mg_len (by first | exact boot_len | decide +kernel) (sa_cons (si_ix (si_var 0 (pv 0)) (si_int)) (sa_nil))) (si_int)) (sw_or1 (sb_c (c_ne hr.units) (si_comp (p := .nm 3) fin_rol 16777215 [(("top" : Str), 3)] rfl sc_law_code_fault.nd (w_walk (si_ix (si_var 0 (pv 0)) (si_int))) (blkOk_by (N := N_law_code_fault) (sc := defScope S_law_code_fault) (by decide +kernel)) (fun _ _ _ _ _ => sp_nm 3 sc_law_code_fault.nd) (fun _ _ _ _ _ => sts_one (sb_not (sb_tru (si_kn k_law_number 3 (hr.mono (by decide)) (fun _ _ _ _ _ _ us hl => match us, hl with | [_, _, _], _ => rfl) (sa_cons (si_var 3 (pv 3)) (sa_cons (si_int) (sa_cons (si_int) (sa_nil)))))))) (fun _ _ _ _ _ => si_int) (by simp [Pt.slots, Pt.slotsAll])) (si_rol (sf_lst (sa_nil)))))))) (ss_one (s_ret (si_sub (si_int) (si_int)))) (ss_nil)) (ss_cons (s_if (sb_not (sb_tru (si_kn k_law_number 3 (hr.mono (by decide)) (fun _ _ _ _ _ _ us hl => match us, hl with | [_, _, _], _ => rfl) (sa_cons (si_ix (si_var 0 (pv 0)) (si_int)) (sa_cons (si_int) (sa_cons (si_int) (sa_nil))))))) (ss_one (s_ret (si_sub (si_int) (si_int)))) (ss_nil)) (ss_cons (s_if (sb_w (sw_or (sb_not (sb_tru (si_isi "tuple" (by rfl) mg_isinstance (by decide) (si_ix (si_var 0 (pv 0)) (si_int)) (pe_bltn (by rfl) mg_tuple (by first | exact boot_tuple | decide +kernel) rfl)))) (sw_or (sb_c (c_eq hr.units) (si_ix (si_var 0 (pv 0)) (si_int)) (si_tup (sa_nil))) (sw_or1 (sb_c (c_gt) (si_callB (cb_len) (by rfl) mg_len (by first | exact boot_len | decide +kernel) (sa_cons (si_ix (si_var 0 (pv 0)) (si_int)) (sa_nil))) (si_int)))))) (ss_one (s_ret (si_sub (si_int) (si_int)))) (ss_nil)) (ss_cons (s_if (sb_w (sw_or (sb_not (sb_tru (si_isi "tuple" (by rfl) mg_isinstance (by decide) (si_ix (si_var 0 (pv 0)) (si_int)) (pe_bltn (by rfl) mg_tuple (by first | exact boot_tuple | decide +kernel) rfl)))) (sw_or (sb_not (sb_chain (c_le) (c_le) (si_int) (si_callB (cb_len) (by rfl) mg_len (by first | exact boot_len | decide +kernel) (sa_cons (si_ix (si_var 0 (pv 0)) (si_int)) (sa_nil))) (si_int))) (sw_or1 (sb_c (c_ne hr.units) (si_comp (p := .nm 2) fin_rol 16777215 [(("place" : Str), 2)] rfl sc_law_code_fault.nd (w_walk (si_ix (si_var 0 (pv 0)) (si_int))) (blkOk_by (N := N_law_code_fault) (sc := defScope S_law_code_fault) (by decide +kernel)) (fun _ _ _ _ _ => sp_nm 2 sc_law_code_fault.nd) (fun _ _ _ _ _ => sts_one (sb_not (sb_tru (si_kn k_law_number 3 (hr.mono (by decide)) (fun _ _ _ _ _ _ us hl => match us, hl with | [_, _, _], _ => rfl) (sa_cons (si_var 2 (pv 2)) (sa_cons (si_int) (sa_cons (si_sub (si_callB (cb_len) (by rfl) mg_len (by first | exact boot_len | decide +kernel) (sa_cons (si_ix (si_var 0 (pv 0)) (si_int)) (sa_nil))) (si_int)) (sa_nil)))))))) (fun _ _ _ _ _ => si_int) (by simp [Pt.slots, Pt.slotsAll])) (si_rol (sf_lst (sa_nil)))))))) (ss_one (s_ret (si_sub (si_int) (si_int)))) (ss_nil)) (ss_cons (s_setComp 1 (y := "wrong") (p := .nm 2) fin_rol 16777215 [(("place" : Str), 2)] rfl sc_law_code_fault.nd rfl rfl (sw_true rfl rfl rfl (by decide +kernel)) (w_range1 (by rfl) mg_range (sa_cons (si_callB (cb_len) (by rfl) mg_len (by first | exact boot_len | decide +kernel) (sa_cons (si_ix (si_var 0 (pv 0)) (si_int)) (sa_nil))) (sa_nil))) (blkOk_by (N := N_law_code_fault) (sc := defScope S_law_code_fault) (by decide +kernel)) (fun _ _ _ _ _ => sp_nm 2 sc_law_code_fault.nd) (fun _ _ _ _ _ => sts_one (sb_not (sb_tru (si_kn k_law_is_line 2 (hr.mono (by decide)) (fun _ _ _ _ _ _ us hl => match us, hl with | [_, _], _ => rfl) (sa_cons (si_var 0 (pv 0)) (sa_cons (si_var 2 (pv 2)) (sa_nil))))))) (fun _ _ _ _ _ => si_var 2 (pv 2)) (by simp [Pt.slots, Pt.slotsAll])) (ss_one (s_ret (si_if (sb_c (c_ne hr.units) (si_var 1 (pv 1)) (si_rol (sf_lst (sa_nil)))) (si_ix (si_var 1 (pv 1)) (si_int)) (si_non)))))))))
theorem K_law_code_fault {ct : String → Addr} {P : Program} {w : World} {K : PySem.W.Frag} {mg : Str → Option Value} {base : Heap} (mg_isinstance : mg "isinstance" = none) (mg_len : mg "len" = none) (mg_range : mg "range" = none) (mg_tuple : mg "tuple" = none) {f_law_number : Addr} {fd_law_number : FuncData} (k_law_number : Kn ct P w K mg base "_law_number" S_law_number P_law_number 1 G_law_number f_law_number fd_law_number) {f_law_is_line : Addr} {fd_law_is_line : FuncData} (k_law_is_line : Kn ct P w K mg base "_law_is_line" S_law_is_line P_law_is_line 2 G_law_is_line f_law_is_line fd_law_is_line) {f : Addr} {fd : FuncData} (mm : mg "_law_code_fault" = some (.ref f)) (F : Fun K "_law_code_fault" "_law_code_fault" S_law_code_fault f fd) : Kn ct P w K mg base "_law_code_fault" S_law_code_fault P_law_code_fault 3 G_law_code_fault f fd := kn_of mm F sc_law_code_fault rfl (D_law_code_fault mg_isinstance mg_len mg_range mg_tuple k_law_number k_law_is_line)
theorem D_law_told {ct : String → Addr} {P : Program} {w : World} {K : PySem.W.Frag} {mg : Str → Option Value} {base : Heap} (mg_isinstance : mg "isinstance" = none) {c_OwnError : Addr} (g_OwnError : mg "OwnError" = some (.ref c_OwnError)) {fI_BadCode : Addr} (o_BadCode : QX.OwnTxt P K mg (ct "BadCode") fI_BadCode "BadCode" (fld "BadCode")) (em_OwnError_BadCode : PySem.W.exmOne K (.ref (ct "BadCode")) (.ref c_OwnError) = some true) (x_BadCode : ExcC K (ct "BadCode")) (cl_BadCode : (PySem.W.clsIn K (ct "BadCode")).isSome = true) {c_Refused : Addr} (g_Refused : mg "Refused" = some (.ref c_Refused)) (kn_Refused_BadCode : PySem.W.kitOne K (.ref (ct "BadCode")) (.ref c_Refused) = some false) {c_BadOctets : Addr} (g_BadOctets : mg "BadOctets" = some (.ref c_BadOctets)) (kn_BadOctets_BadCode : PySem.W.kitOne K (.ref (ct "BadCode")) (.ref c_BadOctets) = some false) {f_check_code : Addr} {fd_check_code : FuncData} (k_check_code : KnX ct P w K mg base "check_code" S_check_code P_check_code 4 G_check_code f_check_code fd_check_code) : ∀ (f : Addr) (cdv : Value) (A : Around) (outer : List Env) (s : Shared) (H : Hp) (E : XK), Room 4 (A.deeper (envOfC "_law_told" (defScope S_law_told) s.heap.objs.size f cdv)) → SSs ct (bodyX P w K mg base N_law_told "_law_told" S_law_told f cdv A outer s H E) noE (defBody S_law_told) B_law_told := fun f cdv A outer s H E hr =>
  ss_one (s_try 1 rfl rfl sc_law_told.nd rfl rfl ⟨rfl, by decide, .inl g_OwnError⟩ (fun c' hc => by simp only [List.mem_cons, List.not_mem_nil, or_false] at hc; rcases hc with rfl; exact em_OwnError_BadCode) (fun E pn xe tx => ss_one (s_ret (si_tup (sa_cons (si_str) (sa_cons (si_knXK0 k_check_code (hr.mono (by decide)) tx 1 rfl (by decide) (fun _ _ _ _ _ _ us ws h1 h2 => match us, ws, h1, h2 with | [], [_], _, _ => rfl) (sk_cons (si_var 0 (pv 0)) (sk_nil))) (sa_nil)))))) (suite_nots (X := bodyX P w K mg base N_law_told "_law_told" S_law_told f cdv A outer s H E) o_BadCode x_BadCode cl_BadCode (by rfl) mg_isinstance ⟨by rfl, by rfl, by rfl⟩ ⟨by decide, by decide, by decide⟩ g_Refused g_BadOctets kn_Refused_BadCode kn_BadOctets_BadCode rfl (fun _ _ _ => pv 1) (fun _ => rfl)))
theorem K_law_told {ct : String → Addr} {P : Program} {w : World} {K : PySem.W.Frag} {mg : Str → Option Value} {base : Heap} (mg_isinstance : mg "isinstance" = none) {c_OwnError : Addr} (g_OwnError : mg "OwnError" = some (.ref c_OwnError)) {fI_BadCode : Addr} (o_BadCode : QX.OwnTxt P K mg (ct "BadCode") fI_BadCode "BadCode" (fld "BadCode")) (em_OwnError_BadCode : PySem.W.exmOne K (.ref (ct "BadCode")) (.ref c_OwnError) = some true) (x_BadCode : ExcC K (ct "BadCode")) (cl_BadCode : (PySem.W.clsIn K (ct "BadCode")).isSome = true) {c_Refused : Addr} (g_Refused : mg "Refused" = some (.ref c_Refused)) (kn_Refused_BadCode : PySem.W.kitOne K (.ref (ct "BadCode")) (.ref c_Refused) = some false) {c_BadOctets : Addr} (g_BadOctets : mg "BadOctets" = some (.ref c_BadOctets)) (kn_BadOctets_BadCode : PySem.W.kitOne K (.ref (ct "BadCode")) (.ref c_BadOctets) = some false) {f_check_code : Addr} {fd_check_code : FuncData} (k_check_code : KnX ct P w K mg base "check_code" S_check_code P_check_code 4 G_check_code f_check_code fd_check_code) {f : Addr} {fd : FuncData} (mm : mg "_law_told" = some (.ref f)) (F : Fun K "_law_told" "_law_told" S_law_told f fd) : Kn ct P w K mg base "_law_told" S_law_told P_law_told 5 G_law_told f fd := kn_of mm F sc_law_told rfl (D_law_told mg_isinstance g_OwnError o_BadCode em_OwnError_BadCode x_BadCode cl_BadCode g_Refused kn_Refused_BadCode g_BadOctets kn_BadOctets_BadCode k_check_code)
theorem D_law_bent {ct : String → Addr} {P : Program} {w : World} {K : PySem.W.Frag} {mg : Str → Option Value} {base : Heap} (mg_len : mg "len" = none) (mg_list : mg "list" = none) {f_law_take : Addr} {fd_law_take : FuncData} (k_law_take : Kn ct P w K mg base "_law_take" S_law_take P_law_take 1 G_law_take f_law_take fd_law_take) : ∀ (f : Addr) (cdv : Value) (A : Around) (outer : List Env) (s : Shared) (H : Hp) (E : XK), Room 1 (A.deeper (envOfC "_law_bent" (defScope S_law_bent) s.heap.objs.size f cdv)) → SSs ct (bodyX P w K mg base N_law_bent "_law_bent" S_law_bent f cdv A outer s H E) noE (defBody S_law_bent) B_law_bent := fun f cdv A outer s H E hr =>
  ss_cons (s_asg (si_var 1 (pv 1)) (sp_tp rfl (sps_cons (sp_nm 2 sc_law_bent.nd) (sps_cons (sp_nm 3 sc_law_bent.nd) (sps_cons (sp_nm 4 sc_law_bent.nd) (sps_cons (sp_nm 5 sc_law_bent.nd) (sps_nil))))))) (ss_cons (s_set 6 sc_law_bent.nd (si_kn k_law_take 2 (hr.mono (by decide)) (fun _ _ _ _ _ _ us hl => match us, hl with | [_, _], _ => rfl) (sa_cons (si_var 0 (pv 0)) (sa_cons (si_callB (cb_len) (by rfl) mg_len (by first | exact boot_len | decide +kernel) (sa_cons (si_var 5 (pv 5)) (sa_nil))) (sa_nil))))) (ss_cons (s_set 7 sc_law_bent.nd (si_cell (sf_lst (sa_cons (si_var 1 (pv 1)) (sa_cons (si_non) (sa_cons (si_tup (sa_nil)) (sa_cons (si_int) (sa_cons (si_rol (sf_list (by rfl) mg_list (sa_cons (si_var 1 (pv 1)) (sa_nil)))) (sa_cons (si_sl (si_var 1 (pv 1)) (so_none) (so_some (si_int))) (sa_cons (si_add (si_var 1 (pv 1)) (si_tup (sa_cons (si_int) (sa_nil)))) (sa_cons (si_tup (sa_cons (si_rol (sf_list (by rfl) mg_list (sa_cons (si_var 2 (pv 2)) (sa_nil)))) (sa_cons (si_var 3 (pv 3)) (sa_cons (si_var 4 (pv 4)) (sa_cons (si_var 5 (pv 5)) (sa_nil)))))) (sa_cons (si_tup (sa_cons (si_add (si_var 2 (pv 2)) (si_tup (sa_cons (si_int) (sa_nil)))) (sa_cons (si_var 3 (pv 3)) (sa_cons (si_var 4 (pv 4)) (sa_cons (si_var 5 (pv 5)) (sa_nil)))))) (sa_cons (si_tup (sa_cons (si_add (si_var 2 (pv 2)) (si_tup (sa_cons (si_int) (sa_nil)))) (sa_cons (si_var 3 (pv 3)) (sa_cons (si_var 4 (pv 4)) (sa_cons (si_var 5 (pv 5)) (sa_nil)))))) (sa_nil)))))))))))))) (ss_cons (s_set 7 sc_law_bent.nd (si_cell (sf_add (si_var 7 (pv 7)) (si_rol (sf_lst (sa_cons (si_tup (sa_cons (si_mulA (si_tup (sa_cons (si_int) (sa_nil))) (si_int)) (sa_cons (si_var 3 (pv 3)) (sa_cons (si_var 4 (pv 4)) (sa_cons (si_var 5 (pv 5)) (sa_nil)))))) (sa_cons (si_tup (sa_cons (si_tup (sa_cons (si_bl) (sa_nil))) (sa_cons (si_var 3 (pv 3)) (sa_cons (si_var 4 (pv 4)) (sa_cons (si_var 5 (pv 5)) (sa_nil)))))) (sa_cons (si_tup (sa_cons (si_var 2 (pv 2)) (sa_cons (si_int) (sa_cons (si_var 4 (pv 4)) (sa_cons (si_var 5 (pv 5)) (sa_nil)))))) (sa_cons (si_tup (sa_cons (si_var 2 (pv 2)) (sa_cons (si_non) (sa_cons (si_var 4 (pv 4)) (sa_cons (si_var 5 (pv 5)) (sa_nil)))))) (sa_cons (si_tup (sa_cons (si_var 2 (pv 2)) (sa_cons (si_var 3 (pv 3)) (sa_cons (si_tup (sa_nil)) (sa_cons (si_var 5 (pv 5)) (sa_nil)))))) (sa_nil))))))))))) (ss_cons (s_set 7 sc_law_bent.nd (si_cell (sf_add (si_var 7 (pv 7)) (si_rol (sf_lst (sa_cons (si_tup (sa_cons (si_var 2 (pv 2)) (sa_cons (si_var 3 (pv 3)) (sa_cons (si_mulA (si_tup (sa_cons (si_int) (sa_nil))) (si_int)) (sa_cons (si_var 5 (pv 5)) (sa_nil)))))) (sa_cons (si_tup (sa_cons (si_var 2 (pv 2)) (sa_cons (si_var 3 (pv 3)) (sa_cons (si_tup (sa_cons (si_callB (cb_len) (by rfl) mg_len (by first | exact boot_len | decide +kernel) (sa_cons (si_var 5 (pv 5)) (sa_nil))) (sa_nil))) (sa_cons (si_var 5 (pv 5)) (sa_nil)))))) (sa_cons (si_tup (sa_cons (si_var 2 (pv 2)) (sa_cons (si_var 3 (pv 3)) (sa_cons (si_rol (sf_lst (sa_cons (si_int) (sa_nil)))) (sa_cons (si_var 5 (pv 5)) (sa_nil)))))) (sa_nil))))))))) (ss_cons (s_set 7 sc_law_bent.nd (si_cell (sf_add (si_var 7 (pv 7)) (si_rol (sf_lst (sa_cons (si_tup (sa_cons (si_var 2 (pv 2)) (sa_cons (si_var 3 (pv 3)) (sa_cons (si_var 4 (pv 4)) (sa_cons (si_tup (sa_nil)) (sa_nil)))))) (sa_cons (si_tup (sa_cons (si_var 2 (pv 2)) (sa_cons (si_var 3 (pv 3)) (sa_cons (si_var 4 (pv 4)) (sa_cons (si_rol (sf_list (by rfl) mg_list (sa_cons (si_var 5 (pv 5)) (sa_nil)))) (sa_nil)))))) (sa_cons (si_tup (sa_cons (si_var 2 (pv 2)) (sa_cons (si_var 3 (pv 3)) (sa_cons (si_var 4 (pv 4)) (sa_cons (si_sl (si_var 5 (pv 5)) (so_none) (so_some (si_neg (si_int)))) (sa_nil)))))) (sa_nil))))))))) (ss_cons (s_set 8 sc_law_bent.nd (si_rol (sf_lst (sa_cons (si_tup (sa_cons (si_str) (sa_cons (si_callB (cb_len) (by rfl) mg_len (by first | exact boot_len | decide +kernel) (sa_cons (si_var 2 (pv 2)) (sa_nil))) (sa_cons (si_int) (sa_nil))))) (sa_cons (si_tup (sa_cons (si_str) (sa_cons (si_int) (sa_cons (si_int) (sa_nil))))) (sa_cons (si_tup (sa_cons (si_str) (sa_nil))) (sa_cons (si_tup (sa_cons (si_str) (sa_cons (si_var 3 (pv 3)) (sa_cons (si_int) (sa_nil))))) (sa_cons (si_tup (sa_cons (si_str) (sa_cons (si_int) (sa_cons (si_int) (sa_cons (si_var 6 (pv 6)) (sa_nil)))))) (sa_cons (si_tup (sa_cons (si_str) (sa_cons (si_var 6 (pv 6)) (sa_nil)))) (sa_cons (si_tup (sa_cons (si_str) (sa_cons (si_callB (cb_len) (by rfl) mg_len (by first | exact boot_len | decide +kernel) (sa_cons (si_var 5 (pv 5)) (sa_nil))) (sa_nil)))) (sa_nil))))))))))) (ss_cons (s_for 16777215 PassesOwn.never rfl (w_walk (si_add (si_var 8 (pv 8)) (si_rol (sf_lst (sa_cons (si_tup (sa_cons (si_str) (sa_cons (si_int) (sa_nil)))) (sa_cons (si_rol (sf_lst (sa_cons (si_str) (sa_nil)))) (sa_cons (si_tup (sa_cons (si_str) (sa_nil))) (sa_cons (si_tup (sa_cons (si_int) (sa_nil))) (sa_cons (si_non) (sa_cons (si_tup (sa_nil)) (sa_cons (si_tup (sa_cons (si_str) (sa_cons (si_bl) (sa_nil)))) (sa_nil)))))))))))) (sp_nm 9 sc_law_bent.nd) (ss_one (s_expr (si_append (si_var 7 (pv 7)) (sa_cons (si_tup (sa_cons (si_var 2 (pv 2)) (sa_cons (si_var 3 (pv 3)) (sa_cons (si_var 4 (pv 4)) (sa_cons (si_add (si_add (si_sl (si_var 5 (pv 5)) (so_none) (so_some (si_var 6 (pv 6)))) (si_tup (sa_cons (si_var 9 (pv 9)) (sa_nil)))) (si_sl (si_var 5 (pv 5)) (so_some (si_add (si_var 6 (pv 6)) (si_int))) (so_none))) (sa_nil)))))) (sa_nil)))))) (ss_one (s_ret (si_var 7 (pv 7)))))))))))
theorem K_law_bent {ct : String → Addr} {P : Program} {w : World} {K : PySem.W.Frag} {mg : Str → Option Value} {base : Heap} (mg_len : mg "len" = none) (mg_list : mg "list" = none) {f_law_take : Addr} {fd_law_take : FuncData} (k_law_take : Kn ct P w K mg base "_law_take" S_law_take P_law_take 1 G_law_take f_law_take fd_law_take) {f : Addr} {fd : FuncData} (mm : mg "_law_bent" = some (.ref f)) (F : Fun K "_law_bent" "_law_bent" S_law_bent f fd) : Kn ct P w K mg base "_law_bent" S_law_bent P_law_bent 2 G_law_bent f fd := kn_of mm F sc_law_bent rfl (D_law_bent mg_len mg_list k_law_take)
theorem D_law {ct : String → Addr} {P : Program} {w : World} {K : PySem.W.Frag} {mg : Str → Option Value} {base : Heap} (mg_len : mg "len" = none) (mg_max : mg "max" = none) (mg_min : mg "min" = none) (mg_range : mg "range" = none) {f_law_box : Addr} {fd_law_box : FuncData} (k_law_box : Kn ct P w K mg base "_law_box" S_law_box P_law_box 1 G_law_box f_law_box fd_law_box) {f_law_drawn_code : Addr} {fd_law_drawn_code : FuncData} (k_law_drawn_code : Kn ct P w K mg base "_law_drawn_code" S_law_drawn_code P_law_drawn_code 2 G_law_drawn_code f_law_drawn_code fd_law_drawn_code) {f_law_bent : Addr} {fd_law_bent : FuncData} (k_law_bent : Kn ct P w K mg base "_law_bent" S_law_bent P_law_bent 2 G_law_bent f_law_bent fd_law_bent) {f_law_code_fault : Addr} {fd_law_code_fault : FuncData} (k_law_code_fault : Kn ct P w K mg base "_law_code_fault" S_law_code_fault P_law_code_fault 3 G_law_code_fault f_law_code_fault fd_law_code_fault) {f_law_same : Addr} {fd_law_same : FuncData} (k_law_same : Kn ct P w K mg base "_law_same" S_law_same P_law_same 8 G_law_same f_law_same fd_law_same) {f_law_told : Addr} {fd_law_told : FuncData} (k_law_told : Kn ct P w K mg base "_law_told" S_law_told P_law_told 5 G_law_told f_law_told fd_law_told) : ∀ (f : Addr) (cdv : Value) (A : Around) (outer : List Env) (s : Shared) (H : Hp) (E : XK), Room 8 (A.deeper (envOfC "law" (defScope S_law) s.heap.objs.size f cdv)) → SSs ct (bodyX P w K mg base N_law "law" S_law f cdv A outer s H E) noE (defBody S_law) B_law := fun f cdv A outer s H E hr =>
  ss_cons (s_for 16777215 PassesOwn.never rfl (w_range1 (by rfl) mg_range (sa_cons (si_callB (cb_max rfl) (by rfl) mg_max (by first | exact boot_max | decide +kernel) (sa_cons (si_int) (sa_cons (si_callB (cb_min rfl) (by rfl) mg_min (by first | exact boot_min | decide +kernel) (sa_cons (si_callB (cb_len) (by rfl) mg_len (by first | exact boot_len | decide +kernel) (sa_cons (si_var 0 (pv 0)) (sa_nil))) (sa_cons (si_int) (sa_nil)))) (sa_nil)))) (sa_nil))) (sp_nm 1 sc_law.nd) (ss_cons (s_set 2 sc_law.nd (si_kn k_law_box 2 (hr.mono (by decide)) (fun _ _ _ _ _ _ us hl => match us, hl with | [_, _], _ => rfl) (sa_cons (si_var 0 (pv 0)) (sa_cons (si_var 1 (pv 1)) (sa_nil))))) (ss_cons (s_set 3 sc_law.nd (si_kn k_law_drawn_code 1 (hr.mono (by decide)) (fun _ _ _ _ _ _ us hl => match us, hl with | [_], _ => rfl) (sa_cons (si_var 2 (pv 2)) (sa_nil)))) (ss_one (s_for 16777215 PassesOwn.never rfl (w_walk (si_kn k_law_bent 2 (hr.mono (by decide)) (fun _ _ _ _ _ _ us hl => match us, hl with | [_, _], _ => rfl) (sa_cons (si_var 2 (pv 2)) (sa_cons (si_var 3 (pv 3)) (sa_nil))))) (sp_nm 4 sc_law.nd) (ss_cons (s_set 5 sc_law.nd (si_kn k_law_code_fault 1 (hr.mono (by decide)) (fun _ _ _ _ _ _ us hl => match us, hl with | [_], _ => rfl) (sa_cons (si_var 4 (pv 4)) (sa_nil)))) (ss_one (s_if (sb_not (sb_tru (si_kn k_law_same 2 (hr.mono (by decide)) (fun _ _ _ _ _ _ us hl => match us, hl with | [_, _], _ => rfl) (sa_cons (si_kn k_law_told 1 (hr.mono (by decide)) (fun _ _ _ _ _ _ us hl => match us, hl with | [_], _ => rfl) (sa_cons (si_var 4 (pv 4)) (sa_nil))) (sa_cons (si_if (sb_c (c_isB) (si_var 5 (pv 5)) (si_non)) (si_tup (sa_cons (si_str) (sa_cons (si_var 4 (pv 4)) (sa_nil)))) (si_tup (sa_cons (si_str) (sa_cons (si_var 5 (pv 5)) (sa_nil))))) (sa_nil)))))) (ss_one (s_ret (si_bl))) (ss_nil))))))))) (ss_one (s_ret (si_bl)))
theorem K_law {ct : String → Addr} {P : Program} {w : World} {K : PySem.W.Frag} {mg : Str → Option Value} {base : Heap} (mg_len : mg "len" = none) (mg_max : mg "max" = none) (mg_min : mg "min" = none) (mg_range : mg "range" = none) {f_law_box : Addr} {fd_law_box : FuncData} (k_law_box : Kn ct P w K mg base "_law_box" S_law_box P_law_box 1 G_law_box f_law_box fd_law_box) {f_law_drawn_code : Addr} {fd_law_drawn_code : FuncData} (k_law_drawn_code : Kn ct P w K mg base "_law_drawn_code" S_law_drawn_code P_law_drawn_code 2 G_law_drawn_code f_law_drawn_code fd_law_drawn_code) {f_law_bent : Addr} {fd_law_bent : FuncData} (k_law_bent : Kn ct P w K mg base "_law_bent" S_law_bent P_law_bent 2 G_law_bent f_law_bent fd_law_bent) {f_law_code_fault : Addr} {fd_law_code_fault : FuncData} (k_law_code_fault : Kn ct P w K mg base "_law_code_fault" S_law_code_fault P_law_code_fault 3 G_law_code_fault f_law_code_fault fd_law_code_fault) {f_law_same : Addr} {fd_law_same : FuncData} (k_law_same : Kn ct P w K mg base "_law_same" S_law_same P_law_same 8 G_law_same f_law_same fd_law_same) {f_law_told : Addr} {fd_law_told : FuncData} (k_law_told : Kn ct P w K mg base "_law_told" S_law_told P_law_told 5 G_law_told f_law_told fd_law_told) {f : Addr} {fd : FuncData} (mm : mg "law" = some (.ref f)) (F : Fun K "law" "law" S_law f fd) : Kn ct P w K mg base "law" S_law P_law 9 G_law f fd := kn_of mm F sc_law rfl (D_law mg_len mg_max mg_min mg_range k_law_box k_law_drawn_code k_law_bent k_law_code_fault k_law_same k_law_told)
end QI

/-! the defs that every law has -/
namespace QI
open PySem PySem.Spec PyProof.Rows L2
namespace LC
def bx (b : Int × Int) : Cell := .lst [.int b.1, .int b.2]
def okB (b : Int × Int) : Prop := 0 ≤ b.1 ∧ 1 ≤ b.2 ∧ b.2 ≤ 2147483563
section
variable {pre post : Sto} {b : Int × Int}
theorem mid_get (c : Cell) : (pre ++ c :: post)[pre.length]? = some c := by simp
theorem mid_set (xs : List D) (c : Cell) : setL (pre ++ c :: post) pre.length xs = pre ++ .lst xs :: post := by simp [setL]
theorem mid_closed {b b' : Int × Int} (h : Closed (pre ++ bx b :: post)) : Closed (pre ++ bx b' :: post) := by
  intro c hc
  have hl : (pre ++ bx b' :: post).length = (pre ++ bx b :: post).length := by simp
  rw [hl]
  rcases List.mem_append.mp hc with h1 | h1
  · exact h c (List.mem_append.mpr (.inl h1))
  · rcases List.mem_cons.mp h1 with rfl | h1
    · simp [bx, Cell.lo]
    · exact h c (List.mem_append.mpr (.inr (List.mem_cons_of_mem _ h1)))
theorem g0 : gIx (.ref pre.length) (.int 0) (pre ++ bx b :: post) = .ok (.int b.1) (pre ++ bx b :: post) := gIx_nat (i := 0) (seqAt_ref (mid_get _)) rfl
theorem g1 : gIx (.ref pre.length) (.int 1) (pre ++ bx b :: post) = .ok (.int b.2) (pre ++ bx b :: post) := gIx_nat (i := 1) (seqAt_ref (mid_get _)) rfl
theorem s0 (v : Int) : gSetIx (.ref pre.length) (.int 0) (.int v) (pre ++ bx b :: post) = .ok () (pre ++ bx (v, b.2) :: post) := by
  exact (gSetIx_at (i := 0) (xs := [.int b.1, .int b.2]) (mid_get (bx b)) (by simp)).trans (by rw [mid_set]; rfl)
theorem s1 (v : Int) : gSetIx (.ref pre.length) (.int 1) (.int v) (pre ++ bx b :: post) = .ok () (pre ++ bx (b.1, v) :: post) := by
  exact (gSetIx_at (i := 1) (xs := [.int b.1, .int b.2]) (mid_get (bx b)) (by simp)).trans (by rw [mid_set]; rfl)
theorem e_take (hc : Closed (pre ++ bx b :: post)) (hb : okB b) {m : Int} (h1 : 1 ≤ m) (h2 : m < 4294967296) :
    ∃ (d : Nat) (b' : Int × Int), okB b' ∧ (d : Int) < m ∧ G_law_take [.ref pre.length, .int m] (pre ++ bx b :: post) = .ok (.int d) (pre ++ bx b' :: post) := by
  obtain ⟨hb1, hb2, hb3⟩ := hb
  by_cases hg : 0 < b.1
  · refine ⟨(b.1 % m).toNat, (b.1 / m, b.2), ⟨Int.ediv_nonneg hb1 (by omega), hb2, hb3⟩, ?_, ?_⟩
    · rw [Int.toNat_of_nonneg (Int.emod_nonneg _ (by omega))]; exact Int.emod_lt_of_pos _ (by omega)
    · refine run_same (by simp) (mid_closed hc) (by simp) ?_
      rw [Int.toNat_of_nonneg (Int.emod_nonneg _ (by omega))]
      have z : m.natAbs.log2 < 9000 := log2_9000 (by omega)
      have z1 : 0 < m := by omega
      simp [B_law_take, startE, g0, s0, hg, z, z1]
  · generalize hr : (b.2 * 39373 + 211) % 2147483647 = raw
    generalize hx : (raw * 40692 + 97) % 2147483563 + 1 = x
    have hx1 : 1 ≤ x ∧ x ≤ 2147483563 := by omega
    have hr1 : 0 ≤ raw ∧ raw < 2147483647 := by omega
    refine ⟨((raw * 2147483629 + x) / 8263 % m).toNat, (b.1, x), ⟨hb1, hx1⟩, ?_, ?_⟩
    · rw [Int.toNat_of_nonneg (Int.emod_nonneg _ (by omega))]; exact Int.emod_lt_of_pos _ (by omega)
    · refine run_same (by simp) (mid_closed hc) (by simp) ?_
      rw [Int.toNat_of_nonneg (Int.emod_nonneg _ (by omega))]
      have z : Nat.log2 8263 < 9000 := log2_9000 (by omega)
      have z1 : 0 < m := by omega
      simp [B_law_take, startE, g0, g1, s1, hg, z, z1, hr, hx]
theorem e_box {st : Sto} (hc : Closed st) (ns : List Int) (k : Nat) (hk : k < 1000) (hl : ns.length < 1000) : ∃ b, okB b ∧ G_law_box [.scr (ns.map D.int), .int k] st = .ok (.ref st.length) (st ++ [bx b]) := by
  have key : ∀ (B : IS) (cell : Int), 0 ≤ cell → B = sSeq (sSet 3 (iIf (iTest (iBin gGe (iVar 2) (iBin gPow (iC (.int 10)) (iC (.int 18))))) (iVar 2) (iC (.int 0)))) (sRet (iCell (iLst (iCons (iVar 3) (iCons (iBin gAdd (iBin gMod (iCallB gInt (iCons (iBin gAdd (iBin gMul (iBin gMod (iCallB gInt (iCons (iVar 2) (iNil))) (iC (.int 2147483563))) (iC (.int 54250003))) (iBin gMul (iC (.int 7703)) (iVar 1))) (iNil))) (iC (.int 2147483563))) (iC (.int 1))) (iNil)))))) →
      ∃ b, okB b ∧ B [some (.scr (ns.map D.int)), some (.int k), some (.int cell), none] st = .ok (.rt (.ref st.length)) (st ++ [bx b]) := by
    intro B cell h0 hB
    subst hB
    refine ⟨(if 1000000000000000000 ≤ cell then cell else 0, (cell % 2147483563 * 54250003 + 7703 * k) % 2147483563 + 1), ⟨?_, ?_, ?_⟩, ?_⟩
    · split <;> omega
    · omega
    · omega
    · have z : (cell % 2147483563).natAbs < 18446744073709551616 ∨ (54250003 : Int).natAbs < 18446744073709551616 := .inr (by decide)
      simp [bx]
      split <;> simp
  have run : ∀ b, okB b → B_law_box (startE N_law_box [.scr (ns.map D.int), .int k]) st = .ok (.rt (.ref st.length)) (st ++ [bx b]) → ∃ b, okB b ∧ G_law_box [.scr (ns.map D.int), .int k] st = .ok (.ref st.length) (st ++ [bx b]) := fun b hb h =>
    ⟨b, hb, run_cell hc (by simp) h⟩
  by_cases h1 : k < ns.length
  · have hg : gIx (.scr (ns.map D.int)) (.int k) st = .ok (.int ns[k]) st := gIx_nat (i := k) rfl (by simp [h1])
    obtain ⟨b, hb, h⟩ := key _ (if ns[k] < 0 then -ns[k] else ns[k]) (by split <;> omega) rfl
    refine run b hb ?_
    rw [← h]
    simp [B_law_box, startE, h1, hg]
  · by_cases h2 : 0 < ns.length
    · have h3 : k % ns.length < ns.length := Nat.mod_lt _ h2
      have hg : gIx (.scr (ns.map D.int)) (.int ((k % ns.length : Nat) : Int)) st = .ok (.int ns[k % ns.length]) st := gIx_nat (i := k % ns.length) rfl (by simp [h3])
      obtain ⟨b, hb, h⟩ := key _ (28019 * k + 7703 + (if ns[k % ns.length] < 0 then -ns[k % ns.length] else ns[k % ns.length]) % 2147483563 * 97813) (by have := Int.emod_nonneg (if ns[k % ns.length] < 0 then -ns[k % ns.length] else ns[k % ns.length]) (show (2147483563 : Int) ≠ 0 by decide); omega) rfl
      refine run b hb ?_
      rw [← h]
      have hi : (k : Int) % (ns.length : Int) = ((k % ns.length : Nat) : Int) := by omega
      simp [B_law_box, startE, h1, h2, hi, hg, -Int.natCast_emod]
    · obtain ⟨b, hb, h⟩ := key _ (28019 * k + 7703) (by omega) rfl
      refine run b hb ?_
      rw [← h]
      simp [B_law_box, startE, h1, h2]
end
/-- values that the law compares -/
def pl : Nat → D → Prop
  | 0, _ => False
  | n + 1, .tup xs => xs.length < 1000000 ∧ ∀ d ∈ xs, pl n d
  | _ + 1, .int _ => True
  | _ + 1, .str _ => True
  | _ + 1, .non => True
  | _ + 1, _ => False
theorem e_same {st : Sto} (hc : Closed st) : ∀ (n : Nat) (d : D), pl n d → Gr_law_same n [d, d] st = .ok (.bl true) st
  | 0, d, h => h.elim
  | n + 1, d, h => by
    show run N_law_same (B_law_same (Gr_law_same n)) [d, d] st = _
    refine run_pure hc (by simp) ?_
    show B_law_same (Gr_law_same n) [some d, some d, none, none] st = _
    unfold B_law_same
    cases d with
    | tup xs =>
      obtain ⟨hl, h⟩ := h
      have hall : ∀ d ∈ xs, Gr_law_same n [d, d] st = .ok (.bl true) st := fun d hd => e_same hc n d (h d hd)
      obtain ⟨e', st', h1, h2, t2, t3, rfl⟩ := for_inv0 (wk := wkZip (wkSeq xs) (wkSeq xs)) (p := .tp [.nm 2, .nm 3]) (S := L_law_same_1 (Gr_law_same n)) (items := zipD xs xs) (fun i env s => s = st ∧ ∃ t2 t3, env = [some (.tup xs), some (.tup xs), t2, t3])
        (fun i env s _ => wkZip_at (wkSeq_at _ _ _) (wkSeq_at _ _ _))
        (fun i d env s hd h => by
          obtain ⟨rfl, t2, t3, rfl⟩ := h
          obtain ⟨a, b, ha, hb, rfl⟩ := zipD_get hd
          rw [ha] at hb
          cases hb
          refine ⟨[some (.tup xs), some (.tup xs), some a, some a], by simp, _, s, .inl ?_, rfl, some a, some a, rfl⟩
          simp [L_law_same_1, hall a (List.mem_of_getElem? ha)])
        (n := 16777215) (env := [some (.tup xs), some (.tup xs), none, none]) (st := st) (by simp; omega) ⟨rfl, none, none, rfl⟩
      rw [h2] at h1
      have hz := (for_eq (st := st) (W := iWalkC fZip (iCons (iVar 0) (iCons (iVar 1) (iNil)))) (wk := wkZip (wkSeq xs) (wkSeq xs)) (walkC_eq (ds := [.tup xs, .tup xs]) (by simp) rfl)).trans h1
      simp [isK, hz, -ev_sFor]
    | int i => simp [isK]
    | str x => simp [isK]
    | non => simp [isK]
    | bl b => exact h.elim
    | rol xs => exact h.elim
    | scr xs => exact h.elim
    | ref n => exact h.elim
end LC
end QI

/-! numbers, tuples, of any value -/
namespace QI
open PySem PySem.Spec PyProof.Rows L2
open LC
namespace F32
/-- an int from a to b -/
def numIn (a b : Int) : D → Bool
  | .int i => decide (a ≤ i) && decide (i ≤ b)
  | _ => false
def numGe (a : Int) : D → Bool
  | .int i => decide (a ≤ i)
  | _ => false
def isI : D → Bool
  | .int _ => true
  | _ => false
def isT : D → Bool
  | .tup _ => true
  | _ => false
def isS : D → Bool
  | .str _ => true
  | _ => false
theorem k_int {d : D} (h : D.lo 0 d = true) (st : Sto) : gIsi "int" d st = .ok (.bl (match d with | .int _ => true | .bl _ => true | _ => false)) st := by
  cases d <;> first | rfl | (simp at h)
theorem k_bool {d : D} (h : D.lo 0 d = true) (st : Sto) : gIsi "bool" d st = .ok (.bl (match d with | .bl _ => true | _ => false)) st := by
  cases d <;> first | rfl | (simp at h)
theorem k_tuple {d : D} (h : D.lo 0 d = true) (st : Sto) : gIsi "tuple" d st = .ok (.bl (isT d)) st := by
  cases d <;> first | rfl | (simp at h)
theorem k_str {d : D} (h : D.lo 0 d = true) (st : Sto) : gIsi "str" d st = .ok (.bl (isS d)) st := by
  cases d <;> first | rfl | (simp at h)
theorem lo_any {d : D} (h : D.lo 0 d = true) (n : Nat) : D.lo n d = true := D.lo_mono (Nat.zero_le n) h
section
variable {st : Sto} {d : D}
theorem e_is_int (hc : Closed st) (h : D.lo 0 d = true) : G_is_int [d] st = .ok (.bl (isI d)) st := by
  refine run_pure hc (by simp) ?_
  show B_is_int [some d] st = _
  have h1 := k_int h st
  have h2 := k_bool h st
  cases d <;> first | (simp at h; done) | (simp [B_is_int, h1, h2, isI, isK])
theorem e_num (hc : Closed st) (h : D.lo 0 d = true) (a : Int) : G_is_number [d, .int a, .non] st = .ok (.bl (numGe a d)) st := by
  refine run_pure hc (by simp) ?_
  show B_is_number [some d, some (.int a), some .non] st = _
  have h1 := e_is_int hc h
  cases d with
  | int i =>
    by_cases hz : a ≤ i <;> simp [B_is_number, h1, isI, numGe, hz]
  | ref n => simp at h
  | _ => simp [B_is_number, h1, isI, numGe]
theorem e_num2 (hc : Closed st) (h : D.lo 0 d = true) (a b : Int) : G_is_number [d, .int a, .int b] st = .ok (.bl (numIn a b d)) st := by
  refine run_pure hc (by simp) ?_
  show B_is_number [some d, some (.int a), some (.int b)] st = _
  have h1 := e_is_int hc h
  cases d with
  | int i =>
    by_cases hz : a ≤ i <;> simp [B_is_number, h1, isI, numIn, hz]
  | ref n => simp at h
  | _ => simp [B_is_number, h1, isI, numIn]
theorem e_law_num (hc : Closed st) (h : D.lo 0 d = true) (a b : Int) : G_law_number [d, .int a, .int b] st = .ok (.bl (numIn a b d)) st := by
  refine run_pure hc (by simp) ?_
  show B_law_number [some d, some (.int a), some (.int b)] st = _
  have h1 := k_int h st
  have h2 := k_bool h st
  cases d with
  | int i =>
    by_cases hz : a ≤ i <;> simp [B_law_number, h1, h2, numIn, hz, isK]
  | ref n => simp at h
  | _ => simp [B_law_number, h1, h2, numIn, isK]
theorem e_tuple0 (hc : Closed st) (h : D.lo 0 d = true) : G_is_tuple [d, .non] st = .ok (.bl (isT d)) st := by
  refine run_pure hc (by simp) ?_
  show B_is_tuple [some d, some .non] st = _
  have h1 := k_tuple h st
  cases d <;> first | (simp at h; done) | (simp [B_is_tuple, h1, isT, isK])
theorem e_tuple1 (hc : Closed st) (h : D.lo 0 d = true) (n : Int) : G_is_tuple [d, .int n] st = .ok (.bl (match d with | .tup xs => decide ((xs.length : Int) = n) | _ => false)) st := by
  refine run_pure hc (by simp) ?_
  show B_is_tuple [some d, some (.int n)] st = _
  have h1 := k_tuple h st
  cases d <;> first | (simp at h; done) | (simp [B_is_tuple, h1, isT, isK])
theorem lo_mem {xs : List D} (h : D.loAll 0 xs = true) : ∀ x ∈ xs, D.lo 0 x = true := loAll_iff.mp h
theorem all_filter (f : D → Bool) (xs : List D) : (xs.filterMap fun d => if f d = true then none else some d) = [] ↔ xs.all f = true := by
  induction xs with
  | nil => simp
  | cons x xs ih =>
    by_cases h : f x = true
    · simp [List.filterMap_cons, h]
    · simp [List.filterMap_cons, h]
theorem e_numbers {xs : List D} (hc : Closed st) (h : D.loAll 0 xs = true) (hl : xs.length < 10000) (a b : Int) : G_is_numbers [.tup xs, .int xs.length, .int a, .int b] st = .ok (.bl (xs.all (numIn a b))) st := by
  refine run_pure hc (by simp) ?_
  show B_is_numbers [some (.tup xs), some (.int xs.length), some (.int a), some (.int b), none] st = _
  have h1 := e_tuple1 hc (d := .tup xs) (by simpa using h) xs.length
  simp only [decide_true] at h1
  have h2 : compGo (wkSeq xs) (.nm 4) (iNot (iTru (iCall 3 G_is_number [] (iCons (iVar 4) (iCons (iVar 2) (iCons (iVar 3) (iNil))))))) (iVar 4) [4] [some (.tup xs), some (.int xs.length), some (.int a), some (.int b), none] fRol 16777215 0 [] st = fRol (xs.filterMap fun d => if numIn a b d = true then none else some d) st := by
    refine comp_pure (items := xs) (fun d => if numIn a b d = true then none else some d) (fun i => wkSeq_at _ _ _) ?_ (by omega) (by omega)
    intro d hd
    have h3 := e_num2 hc (lo_mem h d hd) a b
    refine ⟨_, put_nm _ _, ?_⟩
    by_cases hz : numIn a b d = true
    · rw [hz] at h3
      exact .inl ⟨by rw [if_pos hz], by simp [wipeE, h3]⟩
    · have hz' : numIn a b d = false := by simpa using hz
      rw [hz'] at h3
      exact .inr ⟨d, by rw [if_neg hz], by simp [wipeE, h3], by simp [wipeE]⟩
  have hw : iWalk (iVar 0) [some (.tup xs), some (.int xs.length), some (.int a), some (.int b), none] st = .ok (wkSeq xs) st := by simp
  have h4 := (comp_eq (fin := fRol) (n := 16777215) (p := .nm 4) (T := iNot (iTru (iCall 3 G_is_number [] (iCons (iVar 4) (iCons (iVar 2) (iCons (iVar 3) (iNil))))))) (A := iVar 4) (vs := [4]) hw).trans h2
  unfold B_is_numbers
  rw [ev_sRet, ev_andV, ev_call]
  simp only [ev_cons, ev_nil, ev_var, List.getElem?_cons_zero, List.getElem?_cons_succ, Rs.bind_ok]
  simp only [List.length_cons, List.length_nil, if_true, List.append_nil, h1, Rs.strict_ok, Rs.bind_ok, gTru_bl]
  rw [ev_bin, ev_callB, ev_cons, h4]
  by_cases hz : xs.all (numIn a b) = true
  · rw [(all_filter (numIn a b) xs).mpr hz, hz]
    simp
  · have hne : (xs.filterMap fun d => if numIn a b d = true then none else some d) ≠ [] := fun z => hz ((all_filter _ _).mp z)
    have hz' : xs.all (numIn a b) = false := by simpa using hz
    rw [hz']
    generalize (xs.filterMap fun d => if numIn a b d = true then none else some d) = ys at hne
    cases ys with
    | nil => exact absurd rfl hne
    | cons y ys =>
      have : ¬ ((ys.length : Int) + 1 = 0) := by omega
      simp [this]
theorem ones_ne (k : Nat) : gNeE (.rol (List.replicate k (.int 1))) (.rol []) st = .ok (.bl (decide (k ≠ 0))) st := by
  have h1 : List.replicate k (D.int 1) = (List.replicate k (1 : Int)).map D.int := by simp
  have k1 : SeqAt.shaped (.list ((List.replicate k (1 : Int)).map PyData.int)) = true := PySem.W.shaped_ints _
  have k2 : SeqAt.shaped (.list []) = true := by decide +kernel
  unfold gNeE gEq
  simp only [pdS, pdP, h1, pdPs_ints, pdPs, k1, k2, and_self, if_true]
  cases k with
  | zero => simp [PyData.eqv, PyData.eqvAll, fB]
  | succ k => simp [List.replicate_succ, PyData.eqv, PyData.eqvAll, fB]
/-- the law's look at numbers: how many are none -/
def bad1 (a b : Int) (xs : List D) : Nat := (xs.filter fun d => !numIn a b d).length
theorem bad1_0 (a b : Int) (xs : List D) : decide (bad1 a b xs ≠ 0) = !(xs.all (numIn a b)) := by
  unfold bad1
  induction xs with
  | nil => simp
  | cons x xs ih =>
    by_cases h : numIn a b x = true
    · simp only [List.filter_cons, h, Bool.not_true, Bool.false_eq_true, if_false, List.all_cons, Bool.true_and]
      exact ih
    · have h' : numIn a b x = false := by simpa using h
      simp [List.filter_cons, h']
theorem e_bads {xs : List D} (hc : Closed st) (h : D.loAll 0 xs = true) (hl : xs.length < 10000) (a b : Int) {v : Nat} {env : Ev} {A B : IE} (hv : v < env.length) (hA : ∀ e : Ev, (∀ j, j ≠ v → e[j]? = env[j]?) → A e st = .ok (.int a) st) (hB : ∀ e : Ev, (∀ j, j ≠ v → e[j]? = env[j]?) → B e st = .ok (.int b) st) :
    compGo (wkSeq xs) (.nm v) (iNot (iTru (iCall 3 G_law_number [] (iCons (iVar v) (iCons A (iCons B (iNil))))))) (iC (.int 1)) [v] env fRol 16777215 0 [] st = .ok (.rol (List.replicate (bad1 a b xs) (.int 1))) st := by
  have h2 : compGo (wkSeq xs) (.nm v) (iNot (iTru (iCall 3 G_law_number [] (iCons (iVar v) (iCons A (iCons B (iNil))))))) (iC (.int 1)) [v] env fRol 16777215 0 [] st = fRol (xs.filterMap fun d => if numIn a b d = true then none else some (.int 1)) st := by
    refine comp_pure (items := xs) (fun d => if numIn a b d = true then none else some (.int 1)) (fun i => wkSeq_at _ _ _) ?_ (by omega) (by omega)
    intro d hd
    have h3 := e_law_num hc (lo_mem h d hd) a b
    have hev : ((wipeE env [v]).set v (some d))[v]? = some (some d) := by
      rw [List.getElem?_set_self]; simp [wipeE]; exact hv
    have hj : ∀ j, j ≠ v → ((wipeE env [v]).set v (some d))[j]? = env[j]? := fun j hj => by
      rw [List.getElem?_set_ne (Ne.symm hj)]
      simp only [wipeE]
      rw [List.getElem?_set_ne (Ne.symm hj)]
    have h4 := hA _ hj
    have h5 := hB _ hj
    refine ⟨_, put_nm _ _, ?_⟩
    by_cases hz : numIn a b d = true
    · rw [hz] at h3
      exact .inl ⟨by rw [if_pos hz], by simp only [ev_not, ev_tru, ev_call, ev_cons, ev_nil, ev_var, hev, h4, h5, Rs.bind_ok, List.length_cons, List.length_nil, if_true, List.append_nil, h3, Rs.strict_ok]; rfl⟩
    · have hz' : numIn a b d = false := by simpa using hz
      rw [hz'] at h3
      exact .inr ⟨.int 1, by rw [if_neg hz], by simp only [ev_not, ev_tru, ev_call, ev_cons, ev_nil, ev_var, hev, h4, h5, Rs.bind_ok, List.length_cons, List.length_nil, if_true, List.append_nil, h3, Rs.strict_ok]; rfl, rfl⟩
  rw [h2]
  have h6 : (xs.filterMap fun d => if numIn a b d = true then none else some (D.int 1)) = List.replicate (bad1 a b xs) (.int 1) := by
    unfold bad1
    clear h h2 hl hA hB
    induction xs with
    | nil => rfl
    | cons x xs ih =>
      by_cases hz : numIn a b x = true
      · simp [List.filterMap_cons, List.filter_cons, hz, ih]
      · have hz' : numIn a b x = false := by simpa using hz
        simp [List.filterMap_cons, List.filter_cons, hz', ih, List.replicate_succ]
  rw [h6]
  unfold fRol
  rfl
end
end F32
end QI

/-! a line, whole: is_line of any value -/
namespace QI
open PySem PySem.Spec PyProof.Rows L2
open LC
namespace F32
@[simp] theorem ix_0 (d : D) (ds : List D) (st : Sto) : gIx (.tup (d :: ds)) (.int 0) st = .ok d st := gIx_nat (i := 0) rfl rfl
@[simp] theorem ix_1 (d e : D) (ds : List D) (st : Sto) : gIx (.tup (d :: e :: ds)) (.int 1) st = .ok e st := gIx_nat (i := 1) rfl rfl
@[simp] theorem ix_2 (d e f : D) (ds : List D) (st : Sto) : gIx (.tup (d :: e :: f :: ds)) (.int 2) st = .ok f st := gIx_nat (i := 2) rfl rfl
@[simp] theorem ix_3 (d e f g : D) (ds : List D) (st : Sto) : gIx (.tup (d :: e :: f :: g :: ds)) (.int 3) st = .ok g st := gIx_nat (i := 3) rfl rfl
theorem ix_m2 (d e : D) (st : Sto) : gIx (.tup [d, e]) (.int (-1)) st = .ok e st := rfl
theorem ix_m4 (d e f g : D) (st : Sto) : gIx (.tup [d, e, f, g]) (.int (-1)) st = .ok g st := rfl
theorem wne : (Str.ofString "raise" = Str.ofString "clear") = False ∧ (Str.ofString "raise" = Str.ofString "send") = False ∧ (Str.ofString "raise" = Str.ofString "under") = False ∧ (Str.ofString "raise" = Str.ofString "go") = False ∧ (Str.ofString "raise" = Str.ofString "stop") = False ∧ (Str.ofString "clear" = Str.ofString "raise") = False ∧ (Str.ofString "clear" = Str.ofString "send") = False ∧ (Str.ofString "clear" = Str.ofString "under") = False ∧ (Str.ofString "clear" = Str.ofString "go") = False ∧ (Str.ofString "clear" = Str.ofString "stop") = False ∧ (Str.ofString "send" = Str.ofString "raise") = False ∧ (Str.ofString "send" = Str.ofString "clear") = False ∧ (Str.ofString "send" = Str.ofString "under") = False ∧ (Str.ofString "send" = Str.ofString "go") = False ∧ (Str.ofString "send" = Str.ofString "stop") = False ∧ (Str.ofString "under" = Str.ofString "raise") = False ∧ (Str.ofString "under" = Str.ofString "clear") = False ∧ (Str.ofString "under" = Str.ofString "send") = False ∧ (Str.ofString "under" = Str.ofString "go") = False ∧ (Str.ofString "under" = Str.ofString "stop") = False ∧ (Str.ofString "go" = Str.ofString "raise") = False ∧ (Str.ofString "go" = Str.ofString "clear") = False ∧ (Str.ofString "go" = Str.ofString "send") = False ∧ (Str.ofString "go" = Str.ofString "under") = False ∧ (Str.ofString "go" = Str.ofString "stop") = False ∧ (Str.ofString "stop" = Str.ofString "raise") = False ∧ (Str.ofString "stop" = Str.ofString "clear") = False ∧ (Str.ofString "stop" = Str.ofString "send") = False ∧ (Str.ofString "stop" = Str.ofString "under") = False ∧ (Str.ofString "stop" = Str.ofString "go") = False := by
  refine ⟨?_, ?_, ?_, ?_, ?_, ?_, ?_, ?_, ?_, ?_, ?_, ?_, ?_, ?_, ?_, ?_, ?_, ?_, ?_, ?_, ?_, ?_, ?_, ?_, ?_, ?_, ?_, ?_, ?_, ?_⟩ <;> exact eq_false (by decide)
theorem in_any (st : Sto) (x : Str) (cs : List Str) : gInE (.str x) (.tup (cs.map D.str)) st = .ok (.bl (cs.any fun c => decide (c = x))) st := by
  have : gIn st (.str x) (.tup (cs.map D.str)) = some (cs.any fun c => decide (c = x)) := by
    unfold gIn
    have h1 : (cs.map D.str).all D.flat = true := by
      rw [List.all_eq_true]; intro d hd; obtain ⟨c, _, rfl⟩ := List.mem_map.mp hd; rfl
    simp only [seqAt_tup]
    rw [if_pos ⟨rfl, h1⟩, List.any_map]
    congr 2
  unfold gInE
  rw [this]; rfl
theorem in_4 (st : Sto) (x a b c d : Str) : gInE (.str x) (.tup [.str a, .str b, .str c, .str d]) st = .ok (.bl (decide (a = x) || (decide (b = x) || (decide (c = x) || decide (d = x))))) st := by
  have := in_any st x [a, b, c, d]
  simpa using this
theorem in_3 (st : Sto) (x a b c : Str) : gInE (.str x) (.tup [.str a, .str b, .str c]) st = .ok (.bl (decide (a = x) || (decide (b = x) || decide (c = x)))) st := by
  have := in_any st x [a, b, c]
  simpa using this
theorem in_2 (st : Sto) (x a b : Str) : gInE (.str x) (.tup [.str a, .str b]) st = .ok (.bl (decide (a = x) || decide (b = x))) st := by
  have := in_any st x [a, b]
  simpa using this
noncomputable def CL1 : IT := iOr (iNot (iTru (iUn (gIsi "tuple") (iVar 0)))) (iOr (iTest (iBin gEqE (iCallB gLen (iCons (iVar 0) (iNil))) (iC (.int 0)))) (iOr (iNot (iTru (iUn (gIsi "str") (iBin gIx (iVar 0) (iC (.int 0)))))) (iTest (iInC true [Str.ofString "raise", Str.ofString "clear", Str.ofString "send", Str.ofString "under", Str.ofString "go", Str.ofString "stop"] (iBin gIx (iVar 0) (iC (.int 0)))))))
noncomputable def CL2 : IT := iOr (iTest (iBin gNeE (iCallB gLen (iCons (iVar 0) (iNil))) (iBin gAdd (iC (.int 1)) (iIxC [(Str.ofString "raise", 2), (Str.ofString "clear", 1), (Str.ofString "send", 2), (Str.ofString "under", 3), (Str.ofString "go", 1), (Str.ofString "stop", 0)] (iBin gIx (iVar 0) (iC (.int 0))))))) (iNot (iTru (iCallB gAll (iCons (iComp fRol 16777215 (iWalk (iSl (iVar 0) (oSome (iC (.int 1))) (oNone))) (.nm 5) (iYes) (iCall 1 G_is_number [.int 0, .non] (iCons (iVar 5) (iNil))) [5]) (iNil)))))
noncomputable def CL3 : IT := iAnd (iTest (iBin gInE (iBin gIx (iVar 0) (iC (.int 0))) (iTup (iCons (iC (.str (Str.ofString "raise"))) (iCons (iC (.str (Str.ofString "clear"))) (iCons (iC (.str (Str.ofString "under"))) (iCons (iC (.str (Str.ofString "send"))) (iNil)))))))) (iTest (iBin gGe (iBin gIx (iVar 0) (iC (.int 1))) (iIf (iTest (iBin gEqE (iBin gIx (iVar 0) (iC (.int 0))) (iC (.str (Str.ofString "send"))))) (iVar 4) (iCallB gLen (iCons (iVar 3) (iNil))))))
noncomputable def CL4 : IT := iAnd (iTest (iBin gInE (iBin gIx (iVar 0) (iC (.int 0))) (iTup (iCons (iC (.str (Str.ofString "raise"))) (iCons (iC (.str (Str.ofString "under"))) (iCons (iC (.str (Str.ofString "send"))) (iNil))))))) (iTest (iBin gGt (iBin gIx (iVar 0) (iC (.int 2))) (iC (.int 999))))
noncomputable def CL5 : IT := iAnd (iTest (iBin gInE (iBin gIx (iVar 0) (iC (.int 0))) (iTup (iCons (iC (.str (Str.ofString "under"))) (iCons (iC (.str (Str.ofString "go"))) (iNil)))))) (iNot (iTest (iChain gLt gLt (iVar 1) (iBin gIx (iVar 0) (iUn gNeg (iC (.int 1)))) (iVar 2))))
noncomputable def SL : IS := sRet (iOrV (iBin gEqE (iBin gIx (iVar 0) (iC (.int 0))) (iC (.str (Str.ofString "stop")))) (iBin gLt (iBin gAdd (iVar 1) (iC (.int 1))) (iVar 2)))
noncomputable def RF : IS := sRet (iC (.bl false))
noncomputable def TL : IS := sSeq (sIf CL3 RF (sNil)) (sSeq (sIf CL4 RF (sNil)) (sSeq (sIf CL5 RF (sNil)) SL))
theorem BL_eq : B_is_line = sSeq (sIf CL1 RF (sNil)) (sSeq (sIf CL2 RF (sNil)) TL) := rfl
def lineOk (nt : Nat) (ns : Int) (place many : Nat) : D → Bool
  | .tup (.str w :: args) =>
    match args with
    | [] => decide (w = Str.ofString "stop")
    | [a] => if w = Str.ofString "clear" then numIn 0 ((nt : Int) - 1) a && decide (place + 1 < many) else if w = Str.ofString "go" then numIn ((place : Int) + 1) ((many : Int) - 1) a else false
    | [a, b] => if w = Str.ofString "raise" then numIn 0 ((nt : Int) - 1) a && (numIn 0 999 b && decide (place + 1 < many)) else if w = Str.ofString "send" then numIn 0 (ns - 1) a && (numIn 0 999 b && decide (place + 1 < many)) else false
    | [a, b, c] => if w = Str.ofString "under" then numIn 0 ((nt : Int) - 1) a && (numIn 0 999 b && numIn ((place : Int) + 1) ((many : Int) - 1) c) else false
    | _ => false
  | _ => false
theorem bls_map (bs : List Bool) : bls? (bs.map D.bl) = some bs := by
  induction bs with
  | nil => rfl
  | cons b bs ih => simp [bls?, ih]
theorem g_all (st : Sto) (bs : List Bool) : gAll [.rol (bs.map D.bl)] st = .ok (.bl (bs.all id)) st := by
  have h : gAll [.rol (bs.map D.bl)] st = (match bls? (bs.map D.bl) with | some bs => .ok (.bl (bs.all id)) st | none => .bad) := rfl
  rw [h, bls_map]
section
variable {st : Sto} {e1 e2 e3 e4 : Option D} {w : Str} {args : List D}
theorem e_all (hc : Closed st) (h : D.loAll 0 args = true) (hl : args.length < 10000) : iComp fRol 16777215 (iWalk (iSl (iVar 0) (oSome (iC (.int 1))) (oNone))) (.nm 5) (iYes) (iCall 1 G_is_number [.int 0, .non] (iCons (iVar 5) (iNil))) [5] [some (.tup (.str w :: args)), e1, e2, e3, e4, none] st = .ok (.rol ((args.map (numGe 0)).map D.bl)) st := by
  have hcut : cut (D.str w :: args) (some 1) none = args := by
    have := cut_from (D.str w :: args) 1
    simpa using this
  have hw : iWalk (iSl (iVar 0) (oSome (iC (.int 1))) (oNone)) [some (.tup (.str w :: args)), e1, e2, e3, e4, none] st = .ok (wkSeq args) st := by simp [hcut]
  rw [comp_eq hw]
  refine comp_to (items := args) ((args.map (numGe 0)).map D.bl) (by simp) (fun i => wkSeq_at _ _ _) ?_ (by omega) (by omega)
  intro i d y hd hy
  rw [List.getElem?_map, List.getElem?_map, hd] at hy
  cases hy
  have h3 := e_num hc (lo_mem h d (List.mem_of_getElem? hd)) 0
  exact ⟨_, put_nm _ _, rfl, by simp [wipeE, h3]⟩
theorem c2 (hc : Closed st) (h : D.loAll 0 args = true) (hl : args.length < 10000) {n : Nat} (hn : ofC [(Str.ofString "raise", 2), (Str.ofString "clear", 1), (Str.ofString "send", 2), (Str.ofString "under", 3), (Str.ofString "go", 1), (Str.ofString "stop", 0)] w = some (n : Int)) : CL2 [some (.tup (.str w :: args)), e1, e2, e3, e4, none] st = .ok (decide (args.length ≠ n) || !(args.all (numGe 0))) st := by
  have ha := e_all (st := st) (e1 := e1) (e2 := e2) (e3 := e3) (e4 := e4) (w := w) hc h hl
  have hg := g_all st (args.map (numGe 0))
  have hall : (args.map (numGe 0)).all id = args.all (numGe 0) := by simp [List.all_map, Function.comp_def]
  rw [hall] at hg
  generalize (args.map (numGe 0)).map D.bl = L at ha hg
  by_cases hz : args.length = n
  · subst hz
    have e1 : (args.length : Int) + 1 = 1 + (args.length : Int) := by omega
    simp [CL2, -ev_comp, ha, hg, hn, e1]
  · have : ¬ (args.length : Int) + 1 = 1 + (n : Int) := by omega
    simp [CL2, -ev_comp, hn, this, hz]
theorem c1_word (h : (decide (w = Str.ofString "raise") || (decide (w = Str.ofString "clear") || (decide (w = Str.ofString "send") || (decide (w = Str.ofString "under") || (decide (w = Str.ofString "go") || decide (w = Str.ofString "stop")))))) = true) : CL1 [some (.tup (.str w :: args)), e1, e2, e3, e4, none] st = .ok false st := by
  have hl : ¬ (args.length : Int) + 1 = 0 := by omega
  simp only [Bool.or_eq_true, decide_eq_true_eq] at h
  rcases h with rfl | rfl | rfl | rfl | rfl | rfl <;> simp [CL1, isK, hl]
end
section
variable {st : Sto} {tops : List D} {ns : Int} {place many : Nat} {i j k : Int}
theorem tl_raise (hi : 0 ≤ i) (hj : 0 ≤ j) : TL [some (.tup [.str (Str.ofString "raise"), .int i, .int j]), some (.int place), some (.int many), some (.tup tops), some (.int ns), none] st = .ok (.rt (.bl (numIn 0 ((tops.length : Int) - 1) (.int i) && (numIn 0 999 (.int j) && decide (place + 1 < many))))) st := by
  by_cases h1 : i ≤ (tops.length : Int) - 1
  · have h1' : ¬ (tops.length : Int) ≤ i := by omega
    by_cases h2 : j ≤ 999
    · have h2' : ¬ 999 < j := by omega
      by_cases h3 : place + 1 < many
      · have h3' : (place : Int) + 1 < many := by omega
        simp [TL, CL3, CL4, CL5, SL, RF, in_4, in_3, in_2, wne, numIn, hi, hj, h1, h1', h2, h2', h3, h3']
      · have h3' : ¬ (place : Int) + 1 < many := by omega
        simp [TL, CL3, CL4, CL5, SL, RF, in_4, in_3, in_2, wne, numIn, hi, hj, h1, h1', h2, h2', h3, h3']
    · have h2' : 999 < j := by omega
      simp [TL, CL3, CL4, CL5, SL, RF, in_4, in_3, in_2, wne, numIn, hi, hj, h1, h1', h2, h2']
  · have h1' : (tops.length : Int) ≤ i := by omega
    simp [TL, CL3, CL4, CL5, SL, RF, in_4, in_3, in_2, wne, numIn, hi, hj, h1, h1']
theorem tl_send (hi : 0 ≤ i) (hj : 0 ≤ j) : TL [some (.tup [.str (Str.ofString "send"), .int i, .int j]), some (.int place), some (.int many), some (.tup tops), some (.int ns), none] st = .ok (.rt (.bl (numIn 0 (ns - 1) (.int i) && (numIn 0 999 (.int j) && decide (place + 1 < many))))) st := by
  by_cases h1 : i ≤ ns - 1
  · have h1' : ¬ ns ≤ i := by omega
    by_cases h2 : j ≤ 999
    · have h2' : ¬ 999 < j := by omega
      by_cases h3 : place + 1 < many
      · have h3' : (place : Int) + 1 < many := by omega
        simp [TL, CL3, CL4, CL5, SL, RF, in_4, in_3, in_2, wne, numIn, hi, hj, h1, h1', h2, h2', h3, h3']
      · have h3' : ¬ (place : Int) + 1 < many := by omega
        simp [TL, CL3, CL4, CL5, SL, RF, in_4, in_3, in_2, wne, numIn, hi, hj, h1, h1', h2, h2', h3, h3']
    · have h2' : 999 < j := by omega
      simp [TL, CL3, CL4, CL5, SL, RF, in_4, in_3, in_2, wne, numIn, hi, hj, h1, h1', h2, h2']
  · have h1' : ns ≤ i := by omega
    simp [TL, CL3, CL4, CL5, SL, RF, in_4, in_3, in_2, wne, numIn, hi, hj, h1, h1']
theorem tl_clear (hi : 0 ≤ i) : TL [some (.tup [.str (Str.ofString "clear"), .int i]), some (.int place), some (.int many), some (.tup tops), some (.int ns), none] st = .ok (.rt (.bl (numIn 0 ((tops.length : Int) - 1) (.int i) && decide (place + 1 < many)))) st := by
  by_cases h1 : i ≤ (tops.length : Int) - 1
  · have h1' : ¬ (tops.length : Int) ≤ i := by omega
    by_cases h3 : place + 1 < many
    · have h3' : (place : Int) + 1 < many := by omega
      simp [TL, CL3, CL4, CL5, SL, RF, in_4, in_3, in_2, wne, numIn, hi, h1, h1', h3, h3']
    · have h3' : ¬ (place : Int) + 1 < many := by omega
      simp [TL, CL3, CL4, CL5, SL, RF, in_4, in_3, in_2, wne, numIn, hi, h1, h1', h3, h3']
  · have h1' : (tops.length : Int) ≤ i := by omega
    simp [TL, CL3, CL4, CL5, SL, RF, in_4, in_3, in_2, wne, numIn, hi, h1, h1']
theorem tl_go (hi : 0 ≤ i) : TL [some (.tup [.str (Str.ofString "go"), .int i]), some (.int place), some (.int many), some (.tup tops), some (.int ns), none] st = .ok (.rt (.bl (numIn ((place : Int) + 1) ((many : Int) - 1) (.int i)))) st := by
  by_cases h1 : (place : Int) + 1 ≤ i
  · have h1' : (place : Int) < i := by omega
    by_cases h2 : i ≤ (many : Int) - 1
    · have h2' : i < (many : Int) := by omega
      have h3' : (place : Int) + 1 < many := by omega
      simp [TL, CL3, CL4, CL5, SL, RF, in_4, in_3, in_2, ix_m2, wne, numIn, hi, h1, h1', h2, h2', h3']
    · have h2' : ¬ i < (many : Int) := by omega
      simp [TL, CL3, CL4, CL5, SL, RF, in_4, in_3, in_2, ix_m2, wne, numIn, hi, h1, h1', h2, h2']
  · have h1' : ¬ (place : Int) < i := by omega
    simp [TL, CL3, CL4, CL5, SL, RF, in_4, in_3, in_2, ix_m2, wne, numIn, hi, h1, h1']
theorem tl_stop : TL [some (.tup [.str (Str.ofString "stop")]), some (.int place), some (.int many), some (.tup tops), some (.int ns), none] st = .ok (.rt (.bl true)) st := by
  simp [TL, CL3, CL4, CL5, SL, RF, in_4, in_3, in_2, wne]
theorem tl_under (hi : 0 ≤ i) (hj : 0 ≤ j) (hk : 0 ≤ k) : TL [some (.tup [.str (Str.ofString "under"), .int i, .int j, .int k]), some (.int place), some (.int many), some (.tup tops), some (.int ns), none] st = .ok (.rt (.bl (numIn 0 ((tops.length : Int) - 1) (.int i) && (numIn 0 999 (.int j) && numIn ((place : Int) + 1) ((many : Int) - 1) (.int k))))) st := by
  by_cases h1 : i ≤ (tops.length : Int) - 1
  · have h1' : ¬ (tops.length : Int) ≤ i := by omega
    by_cases h2 : j ≤ 999
    · have h2' : ¬ 999 < j := by omega
      by_cases h3 : (place : Int) + 1 ≤ k
      · have h3' : (place : Int) < k := by omega
        by_cases h4 : k ≤ (many : Int) - 1
        · have h4' : k < (many : Int) := by omega
          have h5' : (place : Int) + 1 < many := by omega
          simp [TL, CL3, CL4, CL5, SL, RF, in_4, in_3, in_2, ix_m4, wne, numIn, hi, hj, h1, h1', h2, h2', h3, h3', h4, h4', h5']
        · have h4' : ¬ k < (many : Int) := by omega
          simp [TL, CL3, CL4, CL5, SL, RF, in_4, in_3, in_2, ix_m4, wne, numIn, hi, hj, h1, h1', h2, h2', h3, h3', h4, h4']
      · have h3' : ¬ (place : Int) < k := by omega
        simp [TL, CL3, CL4, CL5, SL, RF, in_4, in_3, in_2, ix_m4, wne, numIn, hi, hj, h1, h1', h2, h2', h3, h3']
    · have h2' : 999 < j := by omega
      simp [TL, CL3, CL4, CL5, SL, RF, in_4, in_3, in_2, wne, numIn, hi, hj, h1, h1', h2, h2']
  · have h1' : (tops.length : Int) ≤ i := by omega
    simp [TL, CL3, CL4, CL5, SL, RF, in_4, in_3, in_2, wne, numIn, hi, hj, h1, h1']
end
theorem numGe_int {d : D} {a : Int} (h : numGe a d = true) : ∃ i, d = .int i ∧ a ≤ i := by
  cases d <;> simp [numGe] at h
  exact ⟨_, rfl, h⟩
theorem numIn_no {d : D} (h : numGe 0 d = false) {a b : Int} (ha : 0 ≤ a) : numIn a b d = false := by
  cases d <;> simp [numGe] at h <;> simp [numIn]
  omega
section
variable {st : Sto} {tops args : List D} {w : Str} {ns : Int} {place many : Nat}
def lEnv (d : D) (place many : Nat) (tops : List D) (ns : Int) : Ev := [some d, some (.int place), some (.int many), some (.tup tops), some (.int ns), none]
theorem line_of (hc : Closed st) (h : D.loAll 0 args = true) (hl : args.length < 10000) {n : Nat} (hn : ofC [(Str.ofString "raise", 2), (Str.ofString "clear", 1), (Str.ofString "send", 2), (Str.ofString "under", 3), (Str.ofString "go", 1), (Str.ofString "stop", 0)] w = some (n : Int))
    (hw : (decide (w = Str.ofString "raise") || (decide (w = Str.ofString "clear") || (decide (w = Str.ofString "send") || (decide (w = Str.ofString "under") || (decide (w = Str.ofString "go") || decide (w = Str.ofString "stop")))))) = true) {b : Bool}
    (T : args.length = n → args.all (numGe 0) = true → TL (lEnv (.tup (.str w :: args)) place many tops ns) st = .ok (.rt (.bl b)) st)
    (F : args.length ≠ n ∨ args.all (numGe 0) = false → b = false) :
    B_is_line (lEnv (.tup (.str w :: args)) place many tops ns) st = .ok (.rt (.bl b)) st := by
  rw [BL_eq]
  have k1 : CL1 (lEnv (.tup (.str w :: args)) place many tops ns) st = .ok false st := c1_word hw
  have k2 : CL2 (lEnv (.tup (.str w :: args)) place many tops ns) st = _ := c2 hc h hl hn
  rw [seq_nx (e1 := lEnv (.tup (.str w :: args)) place many tops ns) (st1 := st) (by rw [if_f k1]; rfl)]
  by_cases hz : args.length = n
  · cases hy : args.all (numGe 0) with
    | true =>
      have k3 : CL2 (lEnv (.tup (.str w :: args)) place many tops ns) st = .ok false st := by rw [k2, hy]; simp [hz]
      rw [seq_nx (e1 := lEnv (.tup (.str w :: args)) place many tops ns) (st1 := st) (by rw [if_f k3]; rfl)]
      exact T hz hy
    | false =>
      rw [F (.inr hy)]
      have k3 : CL2 (lEnv (.tup (.str w :: args)) place many tops ns) st = .ok true st := by rw [k2, hy]; simp
      exact seq_rt (by rw [if_t k3]; rfl)
  · rw [F (.inl hz)]
    have k3 : CL2 (lEnv (.tup (.str w :: args)) place many tops ns) st = .ok true st := by rw [k2]; simp [hz]
    exact seq_rt (by rw [if_t k3]; rfl)
theorem line_no {d : D} (h1 : CL1 (lEnv d place many tops ns) st = .ok true st) : B_is_line (lEnv d place many tops ns) st = .ok (.rt (.bl false)) st := by
  rw [BL_eq]
  exact seq_rt (by rw [if_t h1]; rfl)
theorem w_ne (hw : ¬ (decide (w = Str.ofString "raise") || (decide (w = Str.ofString "clear") || (decide (w = Str.ofString "send") || (decide (w = Str.ofString "under") || (decide (w = Str.ofString "go") || decide (w = Str.ofString "stop")))))) = true) : ¬ w = Str.ofString "raise" ∧ ¬ w = Str.ofString "clear" ∧ ¬ w = Str.ofString "send" ∧ ¬ w = Str.ofString "under" ∧ ¬ w = Str.ofString "go" ∧ ¬ w = Str.ofString "stop" := by
  simp only [Bool.or_eq_true, decide_eq_true_eq, not_or] at hw
  exact hw
theorem two_no {a b : D} {x y z : Int} {q : Bool} (hx : 0 ≤ x) (h : [a, b].all (numGe 0) = false) : (numIn x y a && (numIn 0 z b && q)) = false := by
  by_cases k : numGe 0 a = true
  · have k2 : numGe 0 b = false := by simpa [k] using h
    simp [numIn_no k2]
  · have k' : numGe 0 a = false := by simpa using k
    simp [numIn_no k' hx]
theorem lineOk_len {n : Nat} (hw : ofC [(Str.ofString "raise", 2), (Str.ofString "clear", 1), (Str.ofString "send", 2), (Str.ofString "under", 3), (Str.ofString "go", 1), (Str.ofString "stop", 0)] w = some (n : Int)) (h : args.length ≠ n) {nt : Nat} : lineOk nt ns place many (.tup (.str w :: args)) = false := by
  have k1 : w = Str.ofString "raise" → n = 2 := by rintro rfl; have : (2 : Int) = n := by simpa [ofC, wne] using hw
                                                   omega
  have k2 : w = Str.ofString "clear" → n = 1 := by rintro rfl; have : (1 : Int) = n := by simpa [ofC, wne] using hw
                                                   omega
  have k3 : w = Str.ofString "send" → n = 2 := by rintro rfl; have : (2 : Int) = n := by simpa [ofC, wne] using hw
                                                  omega
  have k4 : w = Str.ofString "under" → n = 3 := by rintro rfl; have : (3 : Int) = n := by simpa [ofC, wne] using hw
                                                   omega
  have k5 : w = Str.ofString "go" → n = 1 := by rintro rfl; have : (1 : Int) = n := by simpa [ofC, wne] using hw
                                                omega
  have k6 : w = Str.ofString "stop" → n = 0 := by rintro rfl; have : (0 : Int) = n := by simpa [ofC, wne] using hw
                                                  omega
  rcases args with _ | ⟨a, _ | ⟨b, _ | ⟨c, _ | ⟨e, args⟩⟩⟩⟩
  · have q : ¬ w = Str.ofString "stop" := fun z => h (by simp [k6 z])
    simp [lineOk, q]
  · have q1 : ¬ w = Str.ofString "clear" := fun z => h (by simp [k2 z])
    have q2 : ¬ w = Str.ofString "go" := fun z => h (by simp [k5 z])
    simp [lineOk, q1, q2]
  · have q1 : ¬ w = Str.ofString "raise" := fun z => h (by simp [k1 z])
    have q2 : ¬ w = Str.ofString "send" := fun z => h (by simp [k3 z])
    simp [lineOk, q1, q2]
  · have q1 : ¬ w = Str.ofString "under" := fun z => h (by simp [k4 z])
    simp [lineOk, q1]
  · rfl
theorem e_is_lineB {d : D} (hc : Closed st) (hd : D.lo 0 d = true) (hlen : ∀ xs, d = .tup xs → xs.length < 10000) :
    B_is_line (lEnv d place many tops ns) st = .ok (.rt (.bl (lineOk tops.length ns place many d))) st := by
  cases d with
  | tup xs =>
    have hlx := hlen xs rfl
    cases xs with
    | nil => exact line_no (by simp [lEnv, CL1, isK])
    | cons x args =>
      have ha : D.loAll 0 args = true := by
        rw [D.lo] at hd
        rw [loAll_iff] at hd ⊢
        exact fun y hy => hd y (List.mem_cons_of_mem _ hy)
      have hx : D.lo 0 x = true := by
        rw [D.lo] at hd
        rw [loAll_iff] at hd
        exact hd x (by simp)
      have hla : args.length < 10000 := by simp at hlx; omega
      have hl0 : ¬ (args.length : Int) + 1 = 0 := by omega
      cases x with
      | str w =>
        by_cases hw : (decide (w = Str.ofString "raise") || (decide (w = Str.ofString "clear") || (decide (w = Str.ofString "send") || (decide (w = Str.ofString "under") || (decide (w = Str.ofString "go") || decide (w = Str.ofString "stop")))))) = true
        · have hw0 := hw
          simp only [Bool.or_eq_true, decide_eq_true_eq] at hw
          rcases hw with rfl | rfl | rfl | rfl | rfl | rfl
          · refine line_of hc ha hla (n := 2) (by simp [ofC, wne]) hw0 ?_ ?_
            · intro h1 h2
              rcases args with _ | ⟨a, _ | ⟨b, _ | ⟨c, args⟩⟩⟩ <;> simp at h1
              simp only [List.all_cons, Bool.and_eq_true] at h2
              obtain ⟨i, rfl, hi⟩ := numGe_int h2.1
              obtain ⟨j, rfl, hj⟩ := numGe_int h2.2.1
              rw [lEnv, tl_raise hi hj]
              simp [lineOk, wne]
            · rintro (h | h)
              · exact lineOk_len (n := 2) (by simp [ofC, wne]) h
              · rcases args with _ | ⟨a, _ | ⟨b, _ | ⟨c, args⟩⟩⟩
                · cases h
                · exact lineOk_len (n := 2) (by simp [ofC, wne]) (by simp)
                · simpa [lineOk, wne] using two_no (x := 0) (q := decide (place + 1 < many)) (by omega) h
                · exact lineOk_len (n := 2) (by simp [ofC, wne]) (by simp)
          · refine line_of hc ha hla (n := 1) (by simp [ofC, wne]) hw0 ?_ ?_
            · intro h1 h2
              rcases args with _ | ⟨a, _ | ⟨b, args⟩⟩ <;> simp at h1
              simp only [List.all_cons, Bool.and_eq_true] at h2
              obtain ⟨i, rfl, hi⟩ := numGe_int h2.1
              rw [lEnv, tl_clear hi]
              simp [lineOk, wne]
            · rintro (h | h)
              · exact lineOk_len (n := 1) (by simp [ofC, wne]) h
              · rcases args with _ | ⟨a, _ | ⟨b, args⟩⟩
                · cases h
                · have k' : numGe 0 a = false := by simpa using h
                  simp [lineOk, wne, numIn_no k']
                · exact lineOk_len (n := 1) (by simp [ofC, wne]) (by simp)
          · refine line_of hc ha hla (n := 2) (by simp [ofC, wne]) hw0 ?_ ?_
            · intro h1 h2
              rcases args with _ | ⟨a, _ | ⟨b, _ | ⟨c, args⟩⟩⟩ <;> simp at h1
              simp only [List.all_cons, Bool.and_eq_true] at h2
              obtain ⟨i, rfl, hi⟩ := numGe_int h2.1
              obtain ⟨j, rfl, hj⟩ := numGe_int h2.2.1
              rw [lEnv, tl_send hi hj]
              simp [lineOk, wne]
            · rintro (h | h)
              · exact lineOk_len (n := 2) (by simp [ofC, wne]) h
              · rcases args with _ | ⟨a, _ | ⟨b, _ | ⟨c, args⟩⟩⟩
                · cases h
                · exact lineOk_len (n := 2) (by simp [ofC, wne]) (by simp)
                · simpa [lineOk, wne] using two_no (x := 0) (q := decide (place + 1 < many)) (by omega) h
                · exact lineOk_len (n := 2) (by simp [ofC, wne]) (by simp)
          · refine line_of hc ha hla (n := 3) (by simp [ofC, wne]) hw0 ?_ ?_
            · intro h1 h2
              rcases args with _ | ⟨a, _ | ⟨b, _ | ⟨c, _ | ⟨e, args⟩⟩⟩⟩ <;> simp at h1
              simp only [List.all_cons, Bool.and_eq_true] at h2
              obtain ⟨i, rfl, hi⟩ := numGe_int h2.1
              obtain ⟨j, rfl, hj⟩ := numGe_int h2.2.1
              obtain ⟨k, rfl, hk⟩ := numGe_int h2.2.2.1
              rw [lEnv, tl_under hi hj hk]
              simp [lineOk, wne]
            · rintro (h | h)
              · exact lineOk_len (n := 3) (by simp [ofC, wne]) h
              · rcases args with _ | ⟨a, _ | ⟨b, _ | ⟨c, _ | ⟨e, args⟩⟩⟩⟩
                · cases h
                · exact lineOk_len (n := 3) (by simp [ofC, wne]) (by simp)
                · exact lineOk_len (n := 3) (by simp [ofC, wne]) (by simp)
                · by_cases kc : numGe 0 c = true
                  · have h' : [a, b].all (numGe 0) = false := by simpa [kc] using h
                    simpa [lineOk, wne] using two_no (x := 0) (q := numIn ((place : Int) + 1) ((many : Int) - 1) c) (by omega) h'
                  · have k' : numGe 0 c = false := by simpa using kc
                    simp [lineOk, wne, numIn_no k' (a := (place : Int) + 1) (by omega)]
                · exact lineOk_len (n := 3) (by simp [ofC, wne]) (by simp)
          · refine line_of hc ha hla (n := 1) (by simp [ofC, wne]) hw0 ?_ ?_
            · intro h1 h2
              rcases args with _ | ⟨a, _ | ⟨b, args⟩⟩ <;> simp at h1
              simp only [List.all_cons, Bool.and_eq_true] at h2
              obtain ⟨i, rfl, hi⟩ := numGe_int h2.1
              rw [lEnv, tl_go hi]
              simp [lineOk, wne]
            · rintro (h | h)
              · exact lineOk_len (n := 1) (by simp [ofC, wne]) h
              · rcases args with _ | ⟨a, _ | ⟨b, args⟩⟩
                · cases h
                · have k' : numGe 0 a = false := by simpa using h
                  simp [lineOk, wne, numIn_no k' (a := (place : Int) + 1) (by omega)]
                · exact lineOk_len (n := 1) (by simp [ofC, wne]) (by simp)
          · refine line_of hc ha hla (n := 0) (by simp [ofC, wne]) hw0 ?_ ?_
            · intro h1 h2
              rcases args with _ | ⟨a, args⟩ <;> simp at h1
              rw [lEnv, tl_stop]
              simp [lineOk]
            · rintro (h | h)
              · exact lineOk_len (n := 0) (by simp [ofC, wne]) h
              · rcases args with _ | ⟨a, args⟩
                · cases h
                · exact lineOk_len (n := 0) (by simp [ofC, wne]) (by simp)
        · obtain ⟨h1, h2, h3, h4, h5, h6⟩ := w_ne hw
          have hl : lineOk tops.length ns place many (.tup (.str w :: args)) = false := by
            rcases args with _ | ⟨a, _ | ⟨b, _ | ⟨c, _ | ⟨e, args⟩⟩⟩⟩ <;> simp [lineOk, h1, h2, h3, h4, h5, h6]
          rw [hl]
          have g1 : ¬ Str.ofString "raise" = w := fun z => h1 z.symm
          have g2 : ¬ Str.ofString "clear" = w := fun z => h2 z.symm
          have g3 : ¬ Str.ofString "send" = w := fun z => h3 z.symm
          have g4 : ¬ Str.ofString "under" = w := fun z => h4 z.symm
          have g5 : ¬ Str.ofString "go" = w := fun z => h5 z.symm
          have g6 : ¬ Str.ofString "stop" = w := fun z => h6 z.symm
          exact line_no (by simp [lEnv, CL1, isK, hl0, h1, h2, h3, h4, h5, h6, g1, g2, g3, g4, g5, g6])
      | ref n => simp at hx
      | _ => exact line_no (by simp [lEnv, CL1, isK, hl0, k_str hx, isS])
  | ref n => simp at hd
  | _ => exact line_no (by simp [lEnv, CL1, isK, k_tuple hd, isT])
theorem e_is_line {d : D} (hc : Closed st) (hd : D.lo 0 d = true) (hlen : ∀ xs, d = .tup xs → xs.length < 10000) :
    G_is_line [d, .int place, .int many, .tup tops, .int ns] st = .ok (.bl (lineOk tops.length ns place many d)) st := by
  refine run_pure hc (by simp) ?_
  exact e_is_lineB hc hd hlen
end
end F32
end QI

/-! the law's look at a line -/
namespace QI
open PySem PySem.Spec PyProof.Rows L2
section
variable {wk : Wk} {p : Pt} {S : IS} {items : List D}
/-- a loop that looks for something and leaves when it is met -/
theorem for_find (I : Nat → Ev → Sto → Prop) (ok : Nat → D → Bool) (Bad : Nat → Rs Fl → Prop)
    (hb : ∀ i r, Bad i r → (∃ d st, r = .ok (.rt d) st) ∨ ∃ e st, r = .exn e st)
    (hw : ∀ i env st, I i env st → wk i st = some items[i]?)
    (hs : ∀ (i : Nat) (d : D) (env : Ev) (st : Sto), items[i]? = some d → I i env st → ∃ env1, p.put d env = some env1 ∧ ((ok i d = true ∧ ∃ e2 st2, S env1 st = .ok (.nx e2) st2 ∧ I (i + 1) e2 st2) ∨ (ok i d = false ∧ Bad i (S env1 st)))) :
    ∀ (n i : Nat) (env : Ev) (st : Sto), i ≤ items.length → items.length < n + i → I i env st →
      ((∀ j d, i ≤ j → items[j]? = some d → ok j d = true) ∧ ∃ e' st', forGo wk p S n i env st = .ok (.nx e') st' ∧ I items.length e' st') ∨
      (∃ k d, i ≤ k ∧ items[k]? = some d ∧ ok k d = false ∧ (∀ j d, i ≤ j → j < k → items[j]? = some d → ok j d = true) ∧ Bad k (forGo wk p S n i env st))
  | 0, i, env, st, hi, hn, h => by omega
  | n + 1, i, env, st, hi, hn, h => by
    unfold forGo
    rw [hw i env st h]
    cases hd : items[i]? with
    | none =>
      have : items.length ≤ i := List.getElem?_eq_none_iff.mp hd
      have e : i = items.length := by omega
      subst e
      refine .inl ⟨fun j d hj hjd => ?_, env, st, rfl, h⟩
      rw [List.getElem?_eq_none_iff.mpr hj] at hjd
      cases hjd
    | some d =>
      obtain ⟨env1, h1, h2⟩ := hs i d env st hd h
      simp only [h1]
      have hl : i < items.length := lt_of_get hd
      rcases h2 with ⟨hok, e2, st2, h3, h4⟩ | ⟨hok, h3⟩
      · simp only [h3, Rs.bind_ok]
        rcases for_find I ok Bad hb hw hs n (i + 1) e2 st2 hl (by omega) h4 with ⟨h5, h6⟩ | ⟨k, d', h5, h6, h7, h8, h9⟩
        · refine .inl ⟨fun j d' hj hjd => ?_, h6⟩
          by_cases hji : j = i
          · subst hji; rw [hd] at hjd; cases hjd; exact hok
          · exact h5 j d' (by omega) hjd
        · refine .inr ⟨k, d', by omega, h6, h7, fun j d'' hj hjk hjd => ?_, h9⟩
          by_cases hji : j = i
          · subst hji; rw [hd] at hjd; cases hjd; exact hok
          · exact h8 j d'' (by omega) hjk hjd
      · refine .inr ⟨i, d, Nat.le_refl _, hd, hok, fun j d'' hj hjk _ => absurd hjk (by omega), ?_⟩
        rcases hb _ _ h3 with ⟨r, s, hr⟩ | ⟨e, s, hr⟩
        · rw [hr] at h3 ⊢; exact h3
        · rw [hr] at h3 ⊢; exact h3
end
theorem ixD_k {st : Sto} {n : Nat} {kvs : List (Key × D)} {k : Str} {v : D} (h : st[n]? = some (.dk kvs)) (hv : valD kvs (.inr k) = some v) : gIxD (.ref n) (.str k) st = .ok v st := by
  unfold gIxD gOr
  rw [if_pos (by simp [isD, h])]
  unfold gDix
  have : gDat st (.ref n) (.str k) = some (some v) := by simp only [gDat, h, D.key, Option.map_some, hv]
  rw [this]
theorem notinD_k {st : Sto} {n : Nat} {kvs : List (Key × D)} {k : Str} (h : st[n]? = some (.dk kvs)) : gNotInD (.str k) (.ref n) st = .ok (.bl (!(valD kvs (.inr k)).isSome)) st := by
  unfold gNotInD gOr
  rw [if_pos (by simp [isD, h])]
  unfold gDin
  have : gDat st (.ref n) (.str k) = some (valD kvs (.inr k)) := by simp only [gDat, h, D.key, Option.map_some]
  rw [this]
  cases valD kvs (.inr k) <;> rfl
theorem disp_at {I : IP} {env : Ev} {st st1 : Sto} {ps : List (D × D)} {kvs : List (Key × D)} (h : I env st = .ok ps st1) (hk : keyed ps = some kvs) (hl : kvs.length ≤ 15) : iDisp I env st = .ok (.ref st1.length) (st1 ++ [.dk (mergeD [] kvs)]) := by
  unfold iDisp
  rw [h]
  simp only [Rs.bind_ok, hk, if_pos hl]
open LC
namespace F32
noncomputable def GA0 : IS := sPar [2, 3] (iCons (iBin gIx (iBin gIx (iVar 0) (iC (.int 3))) (iVar 1)) (iCons (iCallB gLen (iCons (iBin gIx (iVar 0) (iC (.int 3))) (iNil))) (iNil)))
noncomputable def CG1 : IT := iOr (iNot (iTru (iUn (gIsi "tuple") (iVar 2)))) (iOr (iTest (iBin gEqE (iVar 2) (iTup (iNil)))) (iNot (iTru (iUn (gIsi "str") (iBin gIx (iVar 2) (iC (.int 0)))))))
noncomputable def GA2 : IS := sSet 4 (iDisp (ipCons (iC (.str (Str.ofString "raise"))) (iC (.str (Str.ofString "rk"))) (ipCons (iC (.str (Str.ofString "clear"))) (iC (.str (Str.ofString "r"))) (ipCons (iC (.str (Str.ofString "send"))) (iC (.str (Str.ofString "lk"))) (ipCons (iC (.str (Str.ofString "under"))) (iC (.str (Str.ofString "rkj"))) (ipCons (iC (.str (Str.ofString "go"))) (iC (.str (Str.ofString "j"))) (ipCons (iC (.str (Str.ofString "stop"))) (iC (.str (Str.ofString ""))) (ipNil))))))))
noncomputable def CG3 : IT := iOr (iTest (iBin gNotInD (iBin gIx (iVar 2) (iC (.int 0))) (iVar 4))) (iOr (iTest (iBin gNeE (iCallB gLen (iCons (iVar 2) (iNil))) (iBin gAdd (iC (.int 1)) (iCallB gLen (iCons (iBin gIxD (iVar 4) (iBin gIx (iVar 2) (iC (.int 0)))) (iNil)))))) (iAnd (iTest (iBin gEqE (iBin gAdd (iVar 1) (iC (.int 1))) (iVar 3))) (iTest (iBin gNeE (iBin gIx (iVar 2) (iC (.int 0))) (iC (.str (Str.ofString "stop")))))))
noncomputable def GA4 : IS := sFor 16777215 (iWalkC fZipM (iCons (iBin gIxD (iVar 4) (iBin gIx (iVar 2) (iC (.int 0)))) (iCons (iSl (iVar 2) (oSome (iC (.int 1))) (oNone)) (iNil)))) (.tp [.nm 5, .nm 6]) (L_law_is_line_1)
theorem BG_eq : B_law_is_line = sSeq GA0 (sSeq (sIf CG1 RF (sNil)) (sSeq GA2 (sSeq (sIf CG3 RF (sNil)) (sSeq GA4 (sRet (iC (.bl true))))))) := rfl
def K0 : List (Key × D) := [(.inr (Str.ofString "raise"), .str (Str.ofString "rk")), (.inr (Str.ofString "clear"), .str (Str.ofString "r")), (.inr (Str.ofString "send"), .str (Str.ofString "lk")), (.inr (Str.ofString "under"), .str (Str.ofString "rkj")), (.inr (Str.ofString "go"), .str (Str.ofString "j")), (.inr (Str.ofString "stop"), .str (Str.ofString ""))]
theorem k0_m : mergeD [] K0 = K0 := rfl
def J0 (nt : Nat) (ns : Int) (place many : Nat) : List (Key × D) := [(.inr (Str.ofString "r"), .tup [.int 0, .int ((nt : Int) - 1)]), (.inr (Str.ofString "l"), .tup [.int 0, .int (ns - 1)]), (.inr (Str.ofString "k"), .tup [.int 0, .int 999]), (.inr (Str.ofString "j"), .tup [.int ((place : Int) + 1), .int ((many : Int) - 1)])]
theorem j0_m (nt : Nat) (ns : Int) (place many : Nat) : mergeD [] (J0 nt ns place many) = J0 nt ns place many := rfl
/-- what the law's dict says of a kind -/
def bOk (nt : Nat) (ns : Int) (place many : Nat) (x : Str) (d : D) : Bool := match valD (J0 nt ns place many) (.inr x) with
  | some (.tup [.int lo, .int hi]) => numIn lo hi d
  | _ => false
def gE (code line : D) (place many n : Nat) (v5 v6 v7 v8 : Option D) : Ev := [some code, some (.int place), some line, some (.int many), some (.ref n), v5, v6, v7, v8]
section
variable {st : Sto} {tops lines args : List D} {ent line : D} {w : Str} {ns : Int} {place many : Nat}
theorem g_step {tops lines : List D} (hc : Closed st) {x : Str} {lo hi : Int} (hx : valD (J0 tops.length ns place many) (.inr x) = some (.tup [.int lo, .int hi])) {d : D} (hd : D.lo 0 d = true) (n : Nat) (t7 t8 : Option D) :
    L_law_is_line_1 (gE (.tup [.tup tops, .int ns, ent, .tup lines]) line place many n (some (.str x)) (some d) t7 t8) st =
      if numIn lo hi d = true then .ok (.nx (gE (.tup [.tup tops, .int ns, ent, .tup lines]) line place many n (some (.str x)) (some d) (some (.int lo)) (some (.int hi)))) (st ++ [.dk (J0 tops.length ns place many)])
      else .ok (.rt (.bl false)) (st ++ [.dk (J0 tops.length ns place many)]) := by
  have hc2 : Closed (st ++ [.dk (J0 tops.length ns place many)]) := by
    intro c hcm
    rcases List.mem_append.mp hcm with h | h
    · exact Cell.lo_mono (by simp) (hc c h)
    · rw [List.mem_singleton] at h; subst h; simp [Cell.lo, J0]
  have hix : gIxD (.ref st.length) (.str x) (st ++ [.dk (J0 tops.length ns place many)]) = .ok (.tup [.int lo, .int hi]) (st ++ [.dk (J0 tops.length ns place many)]) := ixD_k (by simp) hx
  have hn := e_law_num hc2 hd lo hi
  unfold L_law_is_line_1
  rw [seq_nx (e1 := gE (.tup [.tup tops, .int ns, ent, .tup lines]) line place many n (some (.str x)) (some d) (some (.int lo)) (some (.int hi))) (st1 := st ++ [.dk (J0 tops.length ns place many)])]
  · by_cases hz : numIn lo hi d = true
    · rw [hz] at hn
      simp [gE, hn, hz]
    · have hz' : numIn lo hi d = false := by simpa using hz
      rw [hz'] at hn
      simp [gE, hn, hz']
  · rw [ev_sAsg, ev_bin, disp_at (ps := [(.str (Str.ofString "r"), .tup [.int 0, .int ((tops.length : Int) - 1)]), (.str (Str.ofString "l"), .tup [.int 0, .int (ns - 1)]), (.str (Str.ofString "k"), .tup [.int 0, .int 999]), (.str (Str.ofString "j"), .tup [.int ((place : Int) + 1), .int ((many : Int) - 1)])]) (st1 := st) (kvs := J0 tops.length ns place many) (by simp [gE, ipCons, ipNil]) rfl (by simp [J0])]
    rw [j0_m]
    simp [gE, hix]
theorem rep_len (xs : List Str) (ds : List D) : ((xs.map D.str).zipWith (fun a b => D.tup [a, b]) ds).length = min xs.length ds.length := by simp
theorem pln_j (nt : Nat) (ns : Int) (place many k n : Nat) : ∀ c ∈ (.dk K0 :: List.replicate k (.dk (J0 nt ns place many)) : Sto), Cell.lo n c = true := by
  intro c hc
  rcases List.mem_cons.mp hc with rfl | h
  · simp [Cell.lo, K0]
  · rw [(List.mem_replicate.mp h).2]; simp [Cell.lo, J0]
theorem gs_closed (hc : Closed st) (nt : Nat) (ns : Int) (place many k : Nat) : Closed (st ++ .dk K0 :: List.replicate k (.dk (J0 nt ns place many))) := by
  intro c hcm
  rcases List.mem_append.mp hcm with h | h
  · exact Cell.lo_mono (by simp) (hc c h)
  · exact pln_j _ _ _ _ _ _ c h
theorem g_loop {tops lines : List D} {kw : Str} {ks : List Str} (hc : Closed st) (hk : ∀ (i : Nat) (s : Sto), wkStr kw i s = some ((ks.map D.str)[i]?)) (hks : ∀ x ∈ ks, ∃ lo hi, valD (J0 tops.length ns place many) (.inr x) = some (.tup [.int lo, .int hi])) (ha : D.loAll 0 args = true) (hla : args.length < 10000) (t5 t6 t7 t8 : Option D) :
    ∃ k, (((ks.zip args).all fun p => bOk tops.length ns place many p.1 p.2) = true ∧ ∃ e', forGo (wkZip (wkStr kw) (wkSeq args)) (.tp [.nm 5, .nm 6]) L_law_is_line_1 16777215 0 (gE (.tup [.tup tops, .int ns, ent, .tup lines]) line place many st.length t5 t6 t7 t8) (st ++ [.dk K0]) = .ok (.nx e') (st ++ .dk K0 :: List.replicate k (.dk (J0 tops.length ns place many)))) ∨
      (((ks.zip args).all fun p => bOk tops.length ns place many p.1 p.2) = false ∧ forGo (wkZip (wkStr kw) (wkSeq args)) (.tp [.nm 5, .nm 6]) L_law_is_line_1 16777215 0 (gE (.tup [.tup tops, .int ns, ent, .tup lines]) line place many st.length t5 t6 t7 t8) (st ++ [.dk K0]) = .ok (.rt (.bl false)) (st ++ .dk K0 :: List.replicate k (.dk (J0 tops.length ns place many)))) := by
  have hz : ∀ (i : Nat), ((zipD (ks.map D.str) args)[i]? = none ∧ (ks.zip args)[i]? = none) ∨ ∃ x d, x ∈ ks ∧ d ∈ args ∧ (zipD (ks.map D.str) args)[i]? = some (.tup [.str x, d]) ∧ (ks.zip args)[i]? = some (x, d) := by
    intro i
    unfold zipD
    rw [show ks.zip args = List.zipWith Prod.mk ks args from rfl, List.getElem?_zipWith, List.getElem?_zipWith, List.getElem?_map]
    cases h1 : ks[i]? with
    | none => exact .inl ⟨by simp, by simp⟩
    | some x =>
      cases h2 : args[i]? with
      | none => exact .inl ⟨by simp, by simp⟩
      | some d => exact .inr ⟨x, d, List.mem_of_getElem? h1, List.mem_of_getElem? h2, by simp, by simp⟩
  have hlo := loAll_iff.mp ha
  rcases for_find (wk := wkZip (wkStr kw) (wkSeq args)) (p := .tp [.nm 5, .nm 6]) (S := L_law_is_line_1) (items := zipD (ks.map D.str) args)
    (fun i env s => (∃ t5 t6 t7 t8, env = gE (.tup [.tup tops, .int ns, ent, .tup lines]) line place many st.length t5 t6 t7 t8) ∧ ∃ k, s = st ++ .dk K0 :: List.replicate k (.dk (J0 tops.length ns place many)))
    (fun i _ => match (ks.zip args)[i]? with | some p => bOk tops.length ns place many p.1 p.2 | none => true)
    (fun _ r => ∃ k, r = .ok (.rt (.bl false)) (st ++ .dk K0 :: List.replicate k (.dk (J0 tops.length ns place many))))
    (fun i r ⟨k, hr⟩ => .inl ⟨_, _, hr⟩)
    (fun i env s _ => wkZip_at (hk i s) (wkSeq_at args i s))
    (fun i d env s hd h => by
      obtain ⟨⟨t5, t6, t7, t8, rfl⟩, k, rfl⟩ := h
      rcases hz i with ⟨h1, _⟩ | ⟨x, d', hx, hd', h1, h2⟩
      · rw [h1] at hd; cases hd
      · rw [h1] at hd
        cases hd
        obtain ⟨lo, hi, hv⟩ := hks x hx
        have hstep := g_step (ent := ent) (line := line) (lines := lines) (gs_closed hc tops.length ns place many k) hv (hlo d' hd') st.length t7 t8
        refine ⟨gE (.tup [.tup tops, .int ns, ent, .tup lines]) line place many st.length (some (.str x)) (some d') t7 t8, by simp [gE, put_tp, puts_cons, puts_nil, put_nm], ?_⟩
        have hb : bOk tops.length ns place many x d' = numIn lo hi d' := by unfold bOk; rw [hv]
        have hrep : (st ++ .dk K0 :: List.replicate k (.dk (J0 tops.length ns place many))) ++ [Cell.dk (J0 tops.length ns place many)] = st ++ .dk K0 :: List.replicate (k + 1) (.dk (J0 tops.length ns place many)) := by
          simp [List.replicate_succ']
        rw [hrep] at hstep
        simp only [h2]
        by_cases hz : numIn lo hi d' = true
        · rw [if_pos hz] at hstep
          exact .inl ⟨by rw [hb]; exact hz, _, _, hstep, ⟨_, _, _, _, rfl⟩, _, rfl⟩
        · rw [if_neg hz] at hstep
          exact .inr ⟨by rw [hb]; simpa using hz, _, hstep⟩)
    16777215 0 (gE (.tup [.tup tops, .int ns, ent, .tup lines]) line place many st.length t5 t6 t7 t8) (st ++ [.dk K0]) (Nat.zero_le _) (by simp; omega) ⟨⟨_, _, _, _, rfl⟩, 0, rfl⟩ with ⟨h1, e', st', h2, _, k, rfl⟩ | ⟨i, d, _, h1, h2, _, k, h3⟩
  · refine ⟨k, .inl ⟨?_, e', h2⟩⟩
    rw [List.all_eq_true]
    intro p hp
    obtain ⟨i, hi⟩ := List.mem_iff_getElem?.mp hp
    rcases hz i with ⟨_, h3⟩ | ⟨x, d', _, _, h3, h4⟩
    · rw [h3] at hi; cases hi
    · have := h1 i _ (Nat.zero_le _) h3
      rw [hi] at this
      exact this
  · refine ⟨k, .inr ⟨?_, h3⟩⟩
    rcases hz i with ⟨h4, _⟩ | ⟨x, d', _, _, h4, h5⟩
    · rw [h4] at h1; cases h1
    · rw [h5] at h2
      rw [List.all_eq_false]
      exact ⟨_, List.mem_of_getElem? h5, by simpa using h2⟩
/-- a word and its kinds -/
structure Wd (w kw : Str) (ks : List Str) : Prop where
  v : valD K0 (.inr w) = some (.str kw)
  n : kw.length = ks.length
  at' : ∀ (i : Nat) (s : Sto), wkStr kw i s = some ((ks.map D.str)[i]?)
  kd : ∀ (nt : Nat) (ns : Int) (place many : Nat), ∀ x ∈ ks, ∃ lo hi, valD (J0 nt ns place many) (.inr x) = some (.tup [.int lo, .int hi])
  few : ks.length ≤ 3
def gG (nt : Nat) (ns : Int) (place many : Nat) (w : Str) (ks : List Str) (args : List D) : Bool :=
  decide (args.length = ks.length) && ((!decide (place + 1 = many) || decide (w = Str.ofString "stop")) && (ks.zip args).all fun p => bOk nt ns place many p.1 p.2)
theorem g_word {tops lines : List D} {kw : Str} {ks : List Str} (hc : Closed st) (W : Wd w kw ks) (hp : lines[place]? = some (.tup (.str w :: args))) (hm : many = lines.length) (hsm : ∀ st : Sto, gEqE (.tup (.str w :: args)) (.tup []) st = .ok (.bl false) st) (ha : D.loAll 0 args = true) (hla : args.length < 10000) :
    ∃ j, B_law_is_line [some (.tup [.tup tops, .int ns, ent, .tup lines]), some (.int place), none, none, none, none, none, none, none] st = .ok (.rt (.bl (gG tops.length ns place many w ks args))) (st ++ j) := by
  have hix : ∀ s : Sto, gIx (.tup lines) (.int place) s = .ok (.tup (.str w :: args)) s := fun s => gIx_nat rfl hp
  let E (t4 t5 t6 t7 t8 : Option D) : Ev := [some (.tup [.tup tops, .int ns, ent, .tup lines]), some (.int place), some (.tup (.str w :: args)), some (.int many), t4, t5, t6, t7, t8]
  rw [BG_eq]
  rw [seq_nx (e1 := E none none none none none) (st1 := st) (by simp [GA0, hix, hm, E])]
  have c1 : CG1 (E none none none none none) st = .ok false st := by simp [CG1, E, hsm, isK]
  rw [seq_nx (e1 := E none none none none none) (st1 := st) (by rw [if_f c1]; rfl)]
  rw [seq_nx (e1 := E (some (.ref st.length)) none none none none) (st1 := st ++ [.dk K0])]
  · have hk : (st ++ [Cell.dk K0])[st.length]? = some (.dk K0) := by simp
    have h1 := ixD_k hk W.v
    have h2 := notinD_k (k := w) hk
    rw [W.v] at h2
    have hfew := W.few
    have h3 : gLen [.str kw] (st ++ [.dk K0]) = .ok (.int (ks.length : Nat)) (st ++ [.dk K0]) := by
      unfold gLen
      simp only
      rw [W.n, if_pos (by omega)]
    by_cases hz : args.length = ks.length
    · have hz' : (args.length : Int) + 1 = 1 + (ks.length : Int) := by omega
      have c3 : CG3 (E (some (.ref st.length)) none none none none) (st ++ [.dk K0]) = .ok (decide (place + 1 = many) && !decide (w = Str.ofString "stop")) (st ++ [.dk K0]) := by
        by_cases h4 : place + 1 = many
        · have h4' : (place : Int) + 1 = many := by omega
          simp [CG3, E, h2, h1, h3, hz', h4, h4']
        · have h4' : ¬ (place : Int) + 1 = many := by omega
          simp [CG3, E, h2, h1, h3, hz', h4, h4']
      by_cases hb : (decide (place + 1 = many) && !decide (w = Str.ofString "stop")) = true
      · rw [hb] at c3
        have : gG tops.length ns place many w ks args = false := by
          unfold gG
          have : (!decide (place + 1 = many) || decide (w = Str.ofString "stop")) = false := by
            revert hb; cases decide (place + 1 = many) <;> cases decide (w = Str.ofString "stop") <;> simp
          rw [this]; simp
        rw [this]
        exact ⟨[.dk K0], seq_rt (by rw [if_t c3]; rfl)⟩
      · have hb' : (decide (place + 1 = many) && !decide (w = Str.ofString "stop")) = false := by simpa using hb
        rw [hb'] at c3
        rw [seq_nx (e1 := E (some (.ref st.length)) none none none none) (st1 := st ++ [.dk K0]) (by rw [if_f c3]; rfl)]
        have hg : gG tops.length ns place many w ks args = ((ks.zip args).all fun p => bOk tops.length ns place many p.1 p.2) := by
          unfold gG
          have : (!decide (place + 1 = many) || decide (w = Str.ofString "stop")) = true := by
            revert hb'; cases decide (place + 1 = many) <;> cases decide (w = Str.ofString "stop") <;> simp
          rw [this, decide_eq_true hz]; simp
        have hcut : cut (D.str w :: args) (some 1) none = args := by
          have := cut_from (D.str w :: args) 1
          simpa using this
        obtain ⟨k, h⟩ := g_loop (ent := ent) (line := .tup (.str w :: args)) (lines := lines) (tops := tops) hc W.at' (W.kd tops.length ns place many) ha hla none none none none
        have hw : iWalkC fZipM (iCons (iBin gIxD (iVar 4) (iBin gIx (iVar 2) (iC (.int 0)))) (iCons (iSl (iVar 2) (oSome (iC (.int 1))) (oNone)) (iNil))) (E (some (.ref st.length)) none none none none) (st ++ [.dk K0]) = .ok (wkZip (wkStr kw) (wkSeq args)) (st ++ [.dk K0]) :=
          walkC_eq (ds := [.str kw, .tup args]) (st1 := st ++ [.dk K0]) (by simp [E, h1, hcut]) rfl
        have hf : ∀ r, forGo (wkZip (wkStr kw) (wkSeq args)) (.tp [.nm 5, .nm 6]) L_law_is_line_1 16777215 0 (gE (.tup [.tup tops, .int ns, ent, .tup lines]) (.tup (.str w :: args)) place many st.length none none none none) (st ++ [.dk K0]) = r → GA4 (E (some (.ref st.length)) none none none none) (st ++ [.dk K0]) = r := fun r hr => (for_eq hw).trans hr
        refine ⟨.dk K0 :: List.replicate k (.dk (J0 tops.length ns place many)), ?_⟩
        rw [hg]
        rcases h with ⟨h4, e', h5⟩ | ⟨h4, h5⟩
        · rw [h4, seq_nx (hf _ h5)]; rfl
        · rw [h4, seq_rt (hf _ h5)]
    · have hz' : ¬ (args.length : Int) + 1 = 1 + (ks.length : Int) := by omega
      have c3 : CG3 (E (some (.ref st.length)) none none none none) (st ++ [.dk K0]) = .ok true (st ++ [.dk K0]) := by
        simp [CG3, E, h2, h1, h3, hz']
      have : gG tops.length ns place many w ks args = false := by unfold gG; rw [decide_eq_false hz]; rfl
      rw [this]
      exact ⟨[.dk K0], seq_rt (by rw [if_t c3]; rfl)⟩
  · have hd := disp_at (env := E none none none none none) (st := st) (st1 := st) (I := ipCons (iC (.str (Str.ofString "raise"))) (iC (.str (Str.ofString "rk"))) (ipCons (iC (.str (Str.ofString "clear"))) (iC (.str (Str.ofString "r"))) (ipCons (iC (.str (Str.ofString "send"))) (iC (.str (Str.ofString "lk"))) (ipCons (iC (.str (Str.ofString "under"))) (iC (.str (Str.ofString "rkj"))) (ipCons (iC (.str (Str.ofString "go"))) (iC (.str (Str.ofString "j"))) (ipCons (iC (.str (Str.ofString "stop"))) (iC (.str (Str.ofString ""))) (ipNil)))))))
      (ps := K0.map fun kv => (match kv.1 with | .inl i => .int i | .inr x => .str x, kv.2)) (kvs := K0) (by simp [ipCons, ipNil, K0]) rfl (by simp [K0])
    rw [k0_m] at hd
    unfold GA2
    rw [ev_sSet, hd]
    simp [E]
theorem wd_raise : Wd (Str.ofString "raise") (Str.ofString "rk") [Str.ofString "r", Str.ofString "k"] where
  v := rfl
  n := rfl
  at' := fun i s => match i with | 0 => rfl | 1 => rfl | i + 2 => rfl
  kd := fun nt ns place many x hx => by
    rcases List.mem_cons.mp hx with rfl | hx
    · exact ⟨_, _, rfl⟩
    · rcases List.mem_cons.mp hx with rfl | hx
      · exact ⟨_, _, rfl⟩
      · cases hx
  few := by decide
theorem wd_clear : Wd (Str.ofString "clear") (Str.ofString "r") [Str.ofString "r"] where
  v := rfl
  n := rfl
  at' := fun i s => match i with | 0 => rfl | i + 1 => rfl
  kd := fun nt ns place many x hx => by
    rcases List.mem_cons.mp hx with rfl | hx
    · exact ⟨_, _, rfl⟩
    · cases hx
  few := by decide
theorem wd_send : Wd (Str.ofString "send") (Str.ofString "lk") [Str.ofString "l", Str.ofString "k"] where
  v := rfl
  n := rfl
  at' := fun i s => match i with | 0 => rfl | 1 => rfl | i + 2 => rfl
  kd := fun nt ns place many x hx => by
    rcases List.mem_cons.mp hx with rfl | hx
    · exact ⟨_, _, rfl⟩
    · rcases List.mem_cons.mp hx with rfl | hx
      · exact ⟨_, _, rfl⟩
      · cases hx
  few := by decide
theorem wd_under : Wd (Str.ofString "under") (Str.ofString "rkj") [Str.ofString "r", Str.ofString "k", Str.ofString "j"] where
  v := rfl
  n := rfl
  at' := fun i s => match i with | 0 => rfl | 1 => rfl | 2 => rfl | i + 3 => rfl
  kd := fun nt ns place many x hx => by
    rcases List.mem_cons.mp hx with rfl | hx
    · exact ⟨_, _, rfl⟩
    · rcases List.mem_cons.mp hx with rfl | hx
      · exact ⟨_, _, rfl⟩
      · rcases List.mem_cons.mp hx with rfl | hx
        · exact ⟨_, _, rfl⟩
        · cases hx
  few := by decide
theorem wd_go : Wd (Str.ofString "go") (Str.ofString "j") [Str.ofString "j"] where
  v := rfl
  n := rfl
  at' := fun i s => match i with | 0 => rfl | i + 1 => rfl
  kd := fun nt ns place many x hx => by
    rcases List.mem_cons.mp hx with rfl | hx
    · exact ⟨_, _, rfl⟩
    · cases hx
  few := by decide
theorem wd_stop : Wd (Str.ofString "stop") (Str.ofString "") [] where
  v := rfl
  n := rfl
  at' := fun i s => rfl
  kd := fun nt ns place many x hx => nomatch hx
  few := by decide
end
end F32
end QI

/-! plain values; the law's look at a line, whole -/
namespace QI
open PySem PySem.Spec PyProof.Rows L2
def D.atom : D → Bool
  | .non => true
  | .bl _ => true
  | .int _ => true
  | .str x => PyData.strOk x
  | _ => false
/-- plain values, so deep at the most, no tuple or list too long -/
def Vl : Nat → D → Prop
  | 0, d => d.atom = true
  | n + 1, d => d.atom = true ∨ ∃ xs, (d = .tup xs ∨ d = .rol xs) ∧ xs.length < 10000 ∧ ∀ x ∈ xs, Vl n x
theorem Vl.at {n : Nat} {d : D} (h : d.atom = true) : Vl n d := by
  cases n with
  | zero => exact h
  | succ n => exact .inl h
theorem Vl.tup {n : Nat} {xs : List D} (h : Vl (n + 1) (.tup xs)) : xs.length < 10000 ∧ ∀ x ∈ xs, Vl n x := by
  rcases h with h | ⟨ys, h1, h2, h3⟩
  · cases h
  · rcases h1 with h1 | h1
    · cases h1; exact ⟨h2, h3⟩
    · cases h1
theorem Vl.lo : ∀ (n : Nat) (d : D), Vl n d → ∀ k, D.lo k d = true
  | 0, d, h, k => by cases d <;> first | rfl | (exact absurd h (by decide)) | (cases h)
  | n + 1, d, h, k => by
    rcases h with h | ⟨xs, h1, _, h3⟩
    · cases d <;> first | rfl | (cases h)
    · have : D.loAll k xs = true := loAll_iff.mpr fun x hx => Vl.lo n x (h3 x hx) k
      rcases h1 with rfl | rfl <;> simpa using this
theorem pd_atom {d : D} (h : d.atom = true) : ∃ p, pdP d = some p ∧ p.canLay0 = true ∧ p.depth ≤ 1 := by
  cases d with
  | non => exact ⟨_, rfl, by simp [PyData.canLay0], by simp [PyData.depth]⟩
  | bl b => exact ⟨_, rfl, by simp [PyData.canLay0], by simp [PyData.depth]⟩
  | int b => exact ⟨_, rfl, by simp [PyData.canLay0], by simp [PyData.depth]⟩
  | str b => exact ⟨_, rfl, by simp only [PyData.canLay0]; exact h, by simp [PyData.depth]⟩
  | _ => cases h
theorem pdPs_all {k : Nat} : ∀ {xs : List D}, (∀ x ∈ xs, ∃ p, pdP x = some p ∧ p.canLay0 = true ∧ p.depth ≤ k) → ∃ ps, pdPs xs = some ps ∧ ps.length = xs.length ∧ PyData.canLayAll0 ps = true ∧ PyData.depthAll ps ≤ k
  | [], _ => ⟨[], by simp [pdPs], rfl, by simp [PyData.canLayAll0], by simp [PyData.depthAll]⟩
  | x :: xs, h => by
    obtain ⟨p, h1, h2, h3⟩ := h x List.mem_cons_self
    obtain ⟨ps, h4, h5, h6, h7⟩ := pdPs_all fun y hy => h y (List.mem_cons_of_mem _ hy)
    refine ⟨p :: ps, by simp only [pdPs, h1, h4], by simp [h5], by simp only [PyData.canLayAll0, h2, h6, Bool.and_self], ?_⟩
    simp only [PyData.depthAll]
    omega
theorem Vl.pd : ∀ (n : Nat) (d : D), Vl n d → ∃ p, pdP d = some p ∧ p.canLay0 = true ∧ p.depth ≤ n + 1
  | 0, d, h => pd_atom h
  | n + 1, d, h => by
    rcases h with h | ⟨xs, h1, _, h3⟩
    · obtain ⟨p, h1, h2, h3⟩ := pd_atom h
      exact ⟨p, h1, h2, by omega⟩
    · obtain ⟨ps, h4, h5, h6, h7⟩ := pdPs_all fun x hx => Vl.pd n x (h3 x hx)
      rcases h1 with rfl | rfl
      · exact ⟨.tuple ps, by simp only [pdP, h4], by simp only [PyData.canLay0]; exact h6, by simp only [PyData.depth]; omega⟩
      · exact ⟨.list ps, by simp only [pdP, h4], by simp only [PyData.canLay0]; exact h6, by simp only [PyData.depth]; omega⟩
theorem shp {p : PyData} (h : p.canLay0 = true) (h2 : p.depth ≤ 64) : SeqAt.shaped p = true := by
  show (PyData.canLay0 p && decide (PyData.depth p ≤ 64)) = true
  rw [Bool.and_eq_true]
  exact ⟨h, decide_eq_true h2⟩
/-- a == () -/
theorem eq_nil {n : Nat} {xs : List D} (h : Vl n (.tup xs)) (hn : n ≤ 60) (st : Sto) : gEqE (.tup xs) (.tup []) st = .ok (.bl (decide (xs = []))) st := by
  obtain ⟨p, h1, h2, h3⟩ := h.pd
  have h1' := h1
  simp only [pdP] at h1'
  split at h1'
  · rename_i ys hy
    cases h1'
    have k1 : SeqAt.shaped (.tuple ys) = true := shp h2 (by omega)
    have k2 : SeqAt.shaped (.tuple []) = true := by decide +kernel
    unfold gEqE gEq
    simp only [pdS, h1, show pdP (.tup []) = some (.tuple []) from by simp [pdP, pdPs], k1, k2, and_self, if_true]
    cases xs with
    | nil => simp [pdPs] at hy; subst hy; simp [PyData.eqv, PyData.eqvAll, fB]
    | cons x xs =>
      simp only [pdPs] at hy
      split at hy
      · cases hy; simp [PyData.eqv, PyData.eqvAll, fB]
      · cases hy
  · cases h1'
open LC
namespace F32
section
variable {st : Sto} {tops lines args : List D} {ent line : D} {w : Str} {ns : Int} {place many : Nat}
theorem gG_raise {nt : Nat} (h : place < many) : gG nt ns place many (Str.ofString "raise") [Str.ofString "r", Str.ofString "k"] args = lineOk nt ns place many (.tup (.str (Str.ofString "raise") :: args)) := by
  have e : decide (place + 1 < many) = !decide (place + 1 = many) := by
    by_cases z : place + 1 = many
    · simp [z]
    · rw [decide_eq_true (show place + 1 < many by omega), decide_eq_false z]; rfl
  rcases args with _ | ⟨a, _ | ⟨b, _ | ⟨c, _ | ⟨f, args⟩⟩⟩⟩
  · simp [gG, lineOk, wne]
  · simp [gG, lineOk, wne]
  · have k1 : bOk nt ns place many (Str.ofString "r") a = numIn 0 ((nt : Int) - 1) a := rfl
    have k2 : bOk nt ns place many (Str.ofString "k") b = numIn 0 999 b := rfl
    simp only [gG, lineOk, wne, if_true, e, List.zip_cons_cons, List.zip_nil_left, List.all_cons, List.all_nil, k1, k2, List.length_cons, List.length_nil, decide_true, decide_false, Bool.or_false, Bool.and_true, Bool.true_and]
    cases decide (place + 1 = many) <;> cases numIn 0 ((nt : Int) - 1) a <;> cases numIn 0 999 b <;> rfl
  · simp [gG, lineOk, wne]
  · simp [gG, lineOk, wne]
theorem gG_send {nt : Nat} (h : place < many) : gG nt ns place many (Str.ofString "send") [Str.ofString "l", Str.ofString "k"] args = lineOk nt ns place many (.tup (.str (Str.ofString "send") :: args)) := by
  have e : decide (place + 1 < many) = !decide (place + 1 = many) := by
    by_cases z : place + 1 = many
    · simp [z]
    · rw [decide_eq_true (show place + 1 < many by omega), decide_eq_false z]; rfl
  rcases args with _ | ⟨a, _ | ⟨b, _ | ⟨c, _ | ⟨f, args⟩⟩⟩⟩
  · simp [gG, lineOk, wne]
  · simp [gG, lineOk, wne]
  · have k1 : bOk nt ns place many (Str.ofString "l") a = numIn 0 (ns - 1) a := rfl
    have k2 : bOk nt ns place many (Str.ofString "k") b = numIn 0 999 b := rfl
    simp only [gG, lineOk, wne, if_true, if_false, e, List.zip_cons_cons, List.zip_nil_left, List.all_cons, List.all_nil, k1, k2, List.length_cons, List.length_nil, decide_true, decide_false, Bool.or_false, Bool.and_true, Bool.true_and]
    cases decide (place + 1 = many) <;> cases numIn 0 (ns - 1) a <;> cases numIn 0 999 b <;> rfl
  · simp [gG, lineOk, wne]
  · simp [gG, lineOk, wne]
theorem gG_clear {nt : Nat} (h : place < many) : gG nt ns place many (Str.ofString "clear") [Str.ofString "r"] args = lineOk nt ns place many (.tup (.str (Str.ofString "clear") :: args)) := by
  have e : decide (place + 1 < many) = !decide (place + 1 = many) := by
    by_cases z : place + 1 = many
    · simp [z]
    · rw [decide_eq_true (show place + 1 < many by omega), decide_eq_false z]; rfl
  rcases args with _ | ⟨a, _ | ⟨b, _ | ⟨c, _ | ⟨f, args⟩⟩⟩⟩
  · simp [gG, lineOk, wne]
  · have k1 : bOk nt ns place many (Str.ofString "r") a = numIn 0 ((nt : Int) - 1) a := rfl
    simp only [gG, lineOk, wne, if_true, if_false, e, List.zip_cons_cons, List.zip_nil_left, List.all_cons, List.all_nil, k1, List.length_cons, List.length_nil, decide_true, decide_false, Bool.or_false, Bool.and_true, Bool.true_and]
    cases decide (place + 1 = many) <;> cases numIn 0 ((nt : Int) - 1) a <;> rfl
  · simp [gG, lineOk, wne]
  · simp [gG, lineOk, wne]
  · simp [gG, lineOk, wne]
theorem gG_go {nt : Nat} (h : place < many) : gG nt ns place many (Str.ofString "go") [Str.ofString "j"] args = lineOk nt ns place many (.tup (.str (Str.ofString "go") :: args)) := by
  rcases args with _ | ⟨a, _ | ⟨b, _ | ⟨c, _ | ⟨f, args⟩⟩⟩⟩
  · simp [gG, lineOk, wne]
  · have k1 : bOk nt ns place many (Str.ofString "j") a = numIn ((place : Int) + 1) ((many : Int) - 1) a := rfl
    have e : place + 1 = many → numIn ((place : Int) + 1) ((many : Int) - 1) a = false := by
      intro z
      cases a <;> simp [numIn]
      omega
    simp only [gG, lineOk, wne, if_true, if_false, List.zip_cons_cons, List.zip_nil_left, List.all_cons, List.all_nil, k1, List.length_cons, List.length_nil, decide_true, decide_false, Bool.or_false, Bool.and_true, Bool.true_and]
    by_cases z : place + 1 = many
    · rw [e z]; simp
    · simp [z]
  · simp [gG, lineOk, wne]
  · simp [gG, lineOk, wne]
  · simp [gG, lineOk, wne]
theorem gG_under {nt : Nat} (h : place < many) : gG nt ns place many (Str.ofString "under") [Str.ofString "r", Str.ofString "k", Str.ofString "j"] args = lineOk nt ns place many (.tup (.str (Str.ofString "under") :: args)) := by
  rcases args with _ | ⟨a, _ | ⟨b, _ | ⟨c, _ | ⟨f, args⟩⟩⟩⟩
  · simp [gG, lineOk, wne]
  · simp [gG, lineOk, wne]
  · simp [gG, lineOk, wne]
  · have k1 : bOk nt ns place many (Str.ofString "r") a = numIn 0 ((nt : Int) - 1) a := rfl
    have k2 : bOk nt ns place many (Str.ofString "k") b = numIn 0 999 b := rfl
    have k3 : bOk nt ns place many (Str.ofString "j") c = numIn ((place : Int) + 1) ((many : Int) - 1) c := rfl
    have e : place + 1 = many → numIn ((place : Int) + 1) ((many : Int) - 1) c = false := by
      intro z
      cases c <;> simp [numIn]
      omega
    simp only [gG, lineOk, wne, if_true, if_false, List.zip_cons_cons, List.zip_nil_left, List.all_cons, List.all_nil, k1, k2, k3, List.length_cons, List.length_nil, decide_true, decide_false, Bool.or_false, Bool.and_true, Bool.true_and]
    by_cases z : place + 1 = many
    · rw [e z]; simp
    · simp [z]
  · simp [gG, lineOk, wne]
theorem gG_stop {nt : Nat} : gG nt ns place many (Str.ofString "stop") [] args = lineOk nt ns place many (.tup (.str (Str.ofString "stop") :: args)) := by
  rcases args with _ | ⟨a, _ | ⟨b, _ | ⟨c, _ | ⟨f, args⟩⟩⟩⟩
  · simp [gG, lineOk]
  · simp [gG, lineOk, wne]
  · simp [gG, lineOk, wne]
  · simp [gG, lineOk, wne]
  · simp [gG, lineOk]
def gN (code line : D) (place many : Nat) (t4 : Option D) : Ev := [some code, some (.int place), some line, some (.int many), t4, none, none, none, none]
theorem g_ent {tops lines : List D} (hp : lines[place]? = some line) (hm : many = lines.length) : GA0 [some (.tup [.tup tops, .int ns, ent, .tup lines]), some (.int place), none, none, none, none, none, none, none] st = .ok (.nx (gN (.tup [.tup tops, .int ns, ent, .tup lines]) line place many none)) st := by
  have hix : ∀ s : Sto, gIx (.tup lines) (.int place) s = .ok line s := fun s => gIx_nat rfl hp
  simp [GA0, hix, hm, gN]
theorem g_no {code : D} (h1 : CG1 (gN code line place many none) st = .ok true st) {R : IS} : sSeq (sIf CG1 RF (sNil)) R (gN code line place many none) st = .ok (.rt (.bl false)) st := seq_rt (by rw [if_t h1]; rfl)
theorem g_noword {tops lines : List D} (hw : valD K0 (.inr w) = none) (hp : lines[place]? = some (.tup (.str w :: args))) (hm : many = lines.length) (hsm : ∀ st : Sto, gEqE (.tup (.str w :: args)) (.tup []) st = .ok (.bl false) st) :
    B_law_is_line [some (.tup [.tup tops, .int ns, ent, .tup lines]), some (.int place), none, none, none, none, none, none, none] st = .ok (.rt (.bl false)) (st ++ [.dk K0]) := by
  rw [BG_eq, seq_nx (g_ent hp hm)]
  have c1 : CG1 (gN (.tup [.tup tops, .int ns, ent, .tup lines]) (.tup (.str w :: args)) place many none) st = .ok false st := by simp [CG1, gN, hsm, isK]
  rw [seq_nx (e1 := gN (.tup [.tup tops, .int ns, ent, .tup lines]) (.tup (.str w :: args)) place many none) (st1 := st) (by rw [if_f c1]; rfl)]
  have hd := disp_at (env := gN (.tup [.tup tops, .int ns, ent, .tup lines]) (.tup (.str w :: args)) place many none) (st := st) (st1 := st) (I := ipCons (iC (.str (Str.ofString "raise"))) (iC (.str (Str.ofString "rk"))) (ipCons (iC (.str (Str.ofString "clear"))) (iC (.str (Str.ofString "r"))) (ipCons (iC (.str (Str.ofString "send"))) (iC (.str (Str.ofString "lk"))) (ipCons (iC (.str (Str.ofString "under"))) (iC (.str (Str.ofString "rkj"))) (ipCons (iC (.str (Str.ofString "go"))) (iC (.str (Str.ofString "j"))) (ipCons (iC (.str (Str.ofString "stop"))) (iC (.str (Str.ofString ""))) (ipNil)))))))
      (ps := K0.map fun kv => (match kv.1 with | .inl i => .int i | .inr x => .str x, kv.2)) (kvs := K0) (by simp [ipCons, ipNil, K0]) rfl (by simp [K0])
  rw [k0_m] at hd
  rw [seq_nx (e1 := gN (.tup [.tup tops, .int ns, ent, .tup lines]) (.tup (.str w :: args)) place many (some (.ref st.length))) (st1 := st ++ [.dk K0]) (by unfold GA2; rw [ev_sSet, hd]; simp [gN])]
  have h2 := notinD_k (k := w) (show (st ++ [Cell.dk K0])[st.length]? = some (.dk K0) by simp)
  rw [hw] at h2
  have c3 : CG3 (gN (.tup [.tup tops, .int ns, ent, .tup lines]) (.tup (.str w :: args)) place many (some (.ref st.length))) (st ++ [.dk K0]) = .ok true (st ++ [.dk K0]) := by simp [CG3, gN, h2]
  exact seq_rt (by rw [if_t c3]; rfl)
theorem vk0 (h1 : ¬ w = Str.ofString "raise") (h2 : ¬ w = Str.ofString "clear") (h3 : ¬ w = Str.ofString "send") (h4 : ¬ w = Str.ofString "under") (h5 : ¬ w = Str.ofString "go") (h6 : ¬ w = Str.ofString "stop") : valD K0 (.inr w) = none := by
  have g1 : ¬ Str.ofString "raise" = w := fun z => h1 z.symm
  have g2 : ¬ Str.ofString "clear" = w := fun z => h2 z.symm
  have g3 : ¬ Str.ofString "send" = w := fun z => h3 z.symm
  have g4 : ¬ Str.ofString "under" = w := fun z => h4 z.symm
  have g5 : ¬ Str.ofString "go" = w := fun z => h5 z.symm
  have g6 : ¬ Str.ofString "stop" = w := fun z => h6 z.symm
  simp [valD, K0, g1, g2, g3, g4, g5, g6]
theorem e_law_is_line {tops lines : List D} (hc : Closed st) (hp : lines[place]? = some line) (hv : Vl 50 line) : G_law_is_line [.tup [.tup tops, .int ns, ent, .tup lines], .int place] st = .ok (.bl (lineOk tops.length ns place lines.length line)) st := by
  have hpl : place < lines.length := lt_of_get hp
  obtain ⟨j, h⟩ : ∃ j, B_law_is_line [some (.tup [.tup tops, .int ns, ent, .tup lines]), some (.int place), none, none, none, none, none, none, none] st = .ok (.rt (.bl (lineOk tops.length ns place lines.length line))) (st ++ j) := by
    have no : ∀ {b : Bool}, b = false → CG1 (gN (.tup [.tup tops, .int ns, ent, .tup lines]) line place lines.length none) st = .ok true st → ∃ j, B_law_is_line [some (.tup [.tup tops, .int ns, ent, .tup lines]), some (.int place), none, none, none, none, none, none, none] st = .ok (.rt (.bl b)) (st ++ j) := by
      intro b hb h1
      refine ⟨[], ?_⟩
      rw [BG_eq, seq_nx (g_ent hp rfl), g_no h1, hb, List.append_nil]
    cases line with
    | tup xs =>
      cases xs with
      | nil => exact no rfl (by simp [CG1, gN, isK, eq_nil hv (by omega)])
      | cons x args =>
        have hlx := hv.tup
        have hsm : ∀ st : Sto, gEqE (.tup (x :: args)) (.tup []) st = .ok (.bl false) st := fun st => by rw [eq_nil hv (by omega)]; rfl
        have ha : D.loAll 0 args = true := loAll_iff.mpr fun y hy => (hlx.2 y (List.mem_cons_of_mem _ hy)).lo _ _ 0
        have hla : args.length < 10000 := by have := hlx.1; simp at this; omega
        have hx : D.lo 0 x = true := (hlx.2 x List.mem_cons_self).lo _ _ 0
        cases x with
        | str w =>
          by_cases w1 : w = Str.ofString "raise"
          · subst w1
            rw [← gG_raise hpl]; exact g_word hc wd_raise hp rfl hsm ha hla
          by_cases w2 : w = Str.ofString "clear"
          · subst w2
            rw [← gG_clear hpl]; exact g_word hc wd_clear hp rfl hsm ha hla
          by_cases w3 : w = Str.ofString "send"
          · subst w3
            rw [← gG_send hpl]; exact g_word hc wd_send hp rfl hsm ha hla
          by_cases w4 : w = Str.ofString "under"
          · subst w4
            rw [← gG_under hpl]; exact g_word hc wd_under hp rfl hsm ha hla
          by_cases w5 : w = Str.ofString "go"
          · subst w5
            rw [← gG_go hpl]; exact g_word hc wd_go hp rfl hsm ha hla
          by_cases w6 : w = Str.ofString "stop"
          · subst w6
            rw [← gG_stop]; exact g_word hc wd_stop hp rfl hsm ha hla
          have hl : lineOk tops.length ns place lines.length (.tup (.str w :: args)) = false := by
            rcases args with _ | ⟨a, _ | ⟨b, _ | ⟨c, _ | ⟨e, args⟩⟩⟩⟩ <;> simp [lineOk, w1, w2, w3, w4, w5, w6]
          rw [hl]
          exact ⟨[.dk K0], g_noword (vk0 w1 w2 w3 w4 w5 w6) hp rfl hsm⟩
        | ref n => simp at hx
        | _ => exact no rfl (by simp [CG1, gN, isK, hsm, k_str hx, isS])
    | ref n => exact absurd (hv.lo _ _ 0) (by simp)
    | _ => exact no rfl (by simp [CG1, gN, isK, k_tuple (hv.lo _ _ 0), isT])
  exact run_more hc (by simp) h
end
end F32
end QI

/-! check_code and the law's look at a code -/
namespace QI
open PySem PySem.Spec PyProof.Rows L2
theorem runX_more {N : List Str} {B : IS} {ds : List D} {st j : Sto} {d : D} (hc : Closed st) (hd : d.lo st.length = true) (h : B (startE N ds) st = .ok (.rt d) (st ++ j)) : runX N B ds st = .ok d st := by
  unfold runX
  rw [h]
  show trim st d (st ++ j) = _
  unfold trim
  rw [List.take_left, if_pos ⟨by simp, hd, hc⟩]
theorem runX_exn {N : List Str} {B : IS} {ds : List D} {st j : Sto} {e : Exn} (hc : Closed st) (hd : e.d.lo st.length = true) (h : B (startE N ds) st = .exn e (st ++ j)) : runX N B ds st = .exn e st := by
  unfold runX
  rw [h]
  show trimX st e (st ++ j) = _
  unfold trimX
  rw [List.take_left, if_pos ⟨by simp, hd, hc⟩]
theorem seq_ex {S R : IS} {env : Ev} {st s : Sto} {e : Exn} (h : S env st = .exn e s) : sSeq S R env st = .exn e s := by
  rw [ev_sSeq, h]; rfl
/-- the first place where something fails -/
theorem wr_first {ok : Nat → Bool} : ∀ (n : Nat), ((∀ j, j < n → ok j = true) → ((List.range n).filterMap fun i => if ok i = true then none else some (D.int (i : Nat))) = []) ∧
    ∀ k, k < n → ok k = false → (∀ j, j < k → ok j = true) → ∃ ys, ((List.range n).filterMap fun i => if ok i = true then none else some (D.int (i : Nat))) = .int (k : Nat) :: ys
  | 0 => ⟨fun _ => rfl, fun k hk => absurd hk (by omega)⟩
  | n + 1 => by
    obtain ⟨h1, h2⟩ := wr_first (ok := ok) n
    rw [List.range_succ, List.filterMap_append]
    refine ⟨fun h => ?_, fun k hk hb hj => ?_⟩
    · rw [h1 fun j hj => h j (by omega)]
      simp [h n (by omega)]
    · by_cases hkn : k = n
      · subst hkn
        rw [h1 hj]
        exact ⟨[], by simp [hb]⟩
      · obtain ⟨ys, h3⟩ := h2 k (by omega) hb hj
        rw [h3]
        exact ⟨_, rfl⟩
open LC
namespace F32
noncomputable def CK0 : IT := iNot (iTru (iCall 2 G_is_tuple [] (iCons (iVar 0) (iCons (iC (.int 4)) (iNil)))))
noncomputable def CK2 : IT := iOr (iNot (iTru (iCall 1 G_is_tuple [.non] (iCons (iVar 1) (iNil))))) (iOr (iTest (iBin gGt (iCallB gLen (iCons (iVar 1) (iNil))) (iC (.int 4)))) (iNot (iTru (iCall 4 G_is_numbers [] (iCons (iVar 1) (iCons (iCallB gLen (iCons (iVar 1) (iNil))) (iCons (iC (.int 1)) (iCons (iC (.int 71)) (iNil)))))))))
noncomputable def CK3 : IT := iNot (iTru (iCall 3 G_is_number [] (iCons (iVar 2) (iCons (iC (.int 0)) (iCons (iC (.int 4)) (iNil))))))
noncomputable def CK4 : IT := iOr (iNot (iTru (iCall 1 G_is_tuple [.non] (iCons (iVar 4) (iNil))))) (iNot (iTest (iChain gLe gLe (iC (.int 1)) (iCallB gLen (iCons (iVar 4) (iNil))) (iC (.int 4000)))))
noncomputable def CK5 : IT := iOr (iNot (iTru (iCall 1 G_is_tuple [.non] (iCons (iVar 3) (iNil))))) (iNot (iTest (iChain gLe gLe (iC (.int 1)) (iCallB gLen (iCons (iVar 3) (iNil))) (iC (.int 3)))))
noncomputable def CK6 : IT := iNot (iTru (iCall 4 G_is_numbers [] (iCons (iVar 3) (iCons (iCallB gLen (iCons (iVar 3) (iNil))) (iCons (iC (.int 0)) (iCons (iBin gSub (iCallB gLen (iCons (iVar 4) (iNil))) (iC (.int 1))) (iNil)))))))
theorem BK_eq : B_check_code = (sSeq (sIf CK0 (sRaise "BadCode" (iCons (iUn gNeg (iC (.int 1))) (iNil))) (sNil)) (sSeq (sAsg (.tp [.nm 1, .nm 2, .nm 3, .nm 4]) (iVar 0)) (sSeq (sIf CK2 (sRaise "BadCode" (iCons (iUn gNeg (iC (.int 2))) (iNil))) (sNil)) (sSeq (sIf CK3 (sRaise "BadCode" (iCons (iUn gNeg (iC (.int 3))) (iNil))) (sNil)) (sSeq (sIf CK4 (sRaise "BadCode" (iCons (iUn gNeg (iC (.int 4))) (iNil))) (sNil)) (sSeq (sIf CK5 (sRaise "BadCode" (iCons (iUn gNeg (iC (.int 5))) (iNil))) (sNil)) (sSeq (sIf CK6 (sRaise "BadCode" (iCons (iUn gNeg (iC (.int 5))) (iNil))) (sNil)) (sSeq (sFor 16777215 (iWalkC fEnum (iCons (iVar 4) (iNil))) (.tp [.nm 5, .nm 6]) (L_check_code_1)) (sRet (iVar 0)))))))))) := rfl
noncomputable def CF0 : IT := iOr (iNot (iTru (iUn (gIsi "tuple") (iVar 0)))) (iTest (iBin gNeE (iCallB gLen (iCons (iVar 0) (iNil))) (iC (.int 4))))
noncomputable def CF1 : IT := iOr (iNot (iTru (iUn (gIsi "tuple") (iBin gIx (iVar 0) (iC (.int 0)))))) (iOr (iTest (iBin gGt (iCallB gLen (iCons (iBin gIx (iVar 0) (iC (.int 0))) (iNil))) (iC (.int 4)))) (iTest (iBin gNeE (iComp fRol 16777215 (iWalk (iBin gIx (iVar 0) (iC (.int 0)))) (.nm 3) (iNot (iTru (iCall 3 G_law_number [] (iCons (iVar 3) (iCons (iC (.int 1)) (iCons (iC (.int 71)) (iNil))))))) (iC (.int 1)) [3]) (iRol (iLst (iNil))))))
noncomputable def CF2 : IT := iNot (iTru (iCall 3 G_law_number [] (iCons (iBin gIx (iVar 0) (iC (.int 1))) (iCons (iC (.int 0)) (iCons (iC (.int 4)) (iNil))))))
noncomputable def CF3 : IT := iOr (iNot (iTru (iUn (gIsi "tuple") (iBin gIx (iVar 0) (iC (.int 3)))))) (iOr (iTest (iBin gEqE (iBin gIx (iVar 0) (iC (.int 3))) (iTup (iNil)))) (iTest (iBin gGt (iCallB gLen (iCons (iBin gIx (iVar 0) (iC (.int 3))) (iNil))) (iC (.int 4000)))))
noncomputable def CF4 : IT := iOr (iNot (iTru (iUn (gIsi "tuple") (iBin gIx (iVar 0) (iC (.int 2)))))) (iOr (iNot (iTest (iChain gLe gLe (iC (.int 1)) (iCallB gLen (iCons (iBin gIx (iVar 0) (iC (.int 2))) (iNil))) (iC (.int 3))))) (iTest (iBin gNeE (iComp fRol 16777215 (iWalk (iBin gIx (iVar 0) (iC (.int 2)))) (.nm 2) (iNot (iTru (iCall 3 G_law_number [] (iCons (iVar 2) (iCons (iC (.int 0)) (iCons (iBin gSub (iCallB gLen (iCons (iBin gIx (iVar 0) (iC (.int 3))) (iNil))) (iC (.int 1))) (iNil))))))) (iC (.int 1)) [2]) (iRol (iLst (iNil))))))
theorem BF_eq : B_law_code_fault = (sSeq (sIf CF0 (sRet (iBin gSub (iC (.int 0)) (iC (.int 1)))) (sNil)) (sSeq (sIf CF1 (sRet (iBin gSub (iC (.int 0)) (iC (.int 2)))) (sNil)) (sSeq (sIf CF2 (sRet (iBin gSub (iC (.int 0)) (iC (.int 3)))) (sNil)) (sSeq (sIf CF3 (sRet (iBin gSub (iC (.int 0)) (iC (.int 4)))) (sNil)) (sSeq (sIf CF4 (sRet (iBin gSub (iC (.int 0)) (iC (.int 5)))) (sNil)) (sSeq (sSet 1 (iComp fRol 16777215 (iWalkC fRange1 (iCons (iCallB gLen (iCons (iBin gIx (iVar 0) (iC (.int 3))) (iNil))) (iNil))) (.nm 2) (iNot (iTru (iCall 2 G_law_is_line [] (iCons (iVar 0) (iCons (iVar 2) (iNil)))))) (iVar 2) [2])) (sRet (iIf (iTest (iBin gNeE (iVar 1) (iRol (iLst (iNil))))) (iBin gIx (iVar 1) (iC (.int 0))) (iC .non))))))))) := rfl
def fTops : D → Bool
  | .tup ts => decide (ts.length ≤ 4) && ts.all (numIn 1 71)
  | _ => false
def fLin : D → Bool
  | .tup ls => decide (1 ≤ ls.length) && decide (ls.length ≤ 4000)
  | _ => false
def fEnt (n : Nat) : D → Bool
  | .tup es => (decide (1 ≤ es.length) && decide (es.length ≤ 3)) && es.all (numIn 0 ((n : Int) - 1))
  | _ => false
def okI (nt : Nat) (ns : Int) (ls : List D) (i : Nat) : Bool := match ls[i]? with
  | some l => lineOk nt ns i ls.length l
  | none => true
section
variable {st : Sto} {t s e l : D} {v5 v6 : Option D}
theorem tup_lo {n : Nat} {xs : List D} (h : Vl (n + 1) (.tup xs)) : D.loAll 0 xs = true := loAll_iff.mpr fun x hx => (h.tup.2 x hx).lo _ _ 0
def kE (t s e l : D) (v5 v6 : Option D) : Ev := [some (.tup [t, s, e, l]), some t, some s, some e, some l, v5, v6]
theorem k2 (hc : Closed st) {n : Nat} (h : Vl (n + 1) t) : CK2 (kE t s e l v5 v6) st = .ok (!fTops t) st := by
  have h0 := e_tuple0 hc (h.lo _ _ 0)
  cases t with
  | tup ts =>
    have hl := h.tup.1
    have h1 := e_numbers hc (tup_lo h) hl 1 71
    simp only [isT] at h0
    by_cases hz : ts.length ≤ 4
    · have hz' : ¬ (4 : Int) < ts.length := by omega
      simp [CK2, kE, h0, h1, hz, hz', fTops]
    · have hz' : (4 : Int) < ts.length := by omega
      simp [CK2, kE, h0, hz, hz', fTops]
  | _ =>
    simp only [isT] at h0
    simp [CK2, kE, h0, fTops]
theorem k3 (hc : Closed st) {n : Nat} (h : Vl n s) : CK3 (kE t s e l v5 v6) st = .ok (!numIn 0 4 s) st := by
  have h0 := e_num2 hc (h.lo _ _ 0) 0 4
  simp [CK3, kE, h0]
theorem k4 (hc : Closed st) {n : Nat} (h : Vl (n + 1) l) : CK4 (kE t s e l v5 v6) st = .ok (!fLin l) st := by
  have h0 := e_tuple0 hc (h.lo _ _ 0)
  cases l with
  | tup ls =>
    simp only [isT] at h0
    by_cases hz : 1 ≤ ls.length
    · have hz' : (1 : Int) ≤ ls.length := by omega
      by_cases hy : ls.length ≤ 4000
      · have hy' : (ls.length : Int) ≤ 4000 := by omega
        simp [CK4, kE, h0, hz, hz', hy, hy', fLin]
      · have hy' : ¬ (ls.length : Int) ≤ 4000 := by omega
        simp [CK4, kE, h0, hz, hz', hy, hy', fLin]
    · have hz' : ¬ (1 : Int) ≤ ls.length := by omega
      simp [CK4, kE, h0, hz, hz', fLin]
  | _ =>
    simp only [isT] at h0
    simp [CK4, kE, h0, fLin]
theorem k56 (hc : Closed st) {n : Nat} {ls : List D} (h : Vl (n + 1) e) : ∃ b1 b2, CK5 (kE t s e (.tup ls) v5 v6) st = .ok b1 st ∧ ((b1 = true ∧ fEnt ls.length e = false) ∨ (b1 = false ∧ CK6 (kE t s e (.tup ls) v5 v6) st = .ok b2 st ∧ b2 = !fEnt ls.length e)) := by
  have h0 := e_tuple0 hc (h.lo _ _ 0)
  cases e with
  | tup es =>
    have hl := h.tup.1
    have h1 := e_numbers hc (tup_lo h) hl 0 ((ls.length : Int) - 1)
    simp only [isT] at h0
    by_cases hz : 1 ≤ es.length
    · have hz' : (1 : Int) ≤ es.length := by omega
      by_cases hy : es.length ≤ 3
      · have hy' : (es.length : Int) ≤ 3 := by omega
        exact ⟨false, !(es.all (numIn 0 ((ls.length : Int) - 1))), by simp [CK5, kE, h0, hz', hy'], .inr ⟨rfl, by simp [CK6, kE, h1], by simp [fEnt, hz, hy]⟩⟩
      · have hy' : ¬ (es.length : Int) ≤ 3 := by omega
        exact ⟨true, true, by simp [CK5, kE, h0, hz', hy'], .inl ⟨rfl, by simp [fEnt, hy]⟩⟩
    · have hz' : ¬ (1 : Int) ≤ es.length := by omega
      exact ⟨true, true, by simp [CK5, kE, h0, hz'], .inl ⟨rfl, by simp [fEnt, hz]⟩⟩
  | _ =>
    simp only [isT] at h0
    exact ⟨true, true, by simp [CK5, kE, h0], .inl ⟨rfl, rfl⟩⟩
theorem bdx (a : Int) (env : Ev) : sRaise "BadCode" (iCons (iUn gNeg (iC (.int a))) (iNil)) env st = .exn ⟨"BadCode", .int (-a)⟩ st := by simp
end
/-- what is told of a value -/
inductive Ft : D → Option Int → Prop
  | shape {d : D} (h : ∀ t s e l, d ≠ .tup [t, s, e, l]) : Ft d (some (-1))
  | tops {t s e l : D} (h : fTops t = false) : Ft (.tup [t, s, e, l]) (some (-2))
  | sends {t s e l : D} (h : fTops t = true) (h2 : numIn 0 4 s = false) : Ft (.tup [t, s, e, l]) (some (-3))
  | lin {t s e l : D} (h : fTops t = true) (h2 : numIn 0 4 s = true) (h3 : fLin l = false) : Ft (.tup [t, s, e, l]) (some (-4))
  | ent {t s e : D} {ls : List D} (h : fTops t = true) (h2 : numIn 0 4 s = true) (h3 : fLin (.tup ls) = true) (h4 : fEnt ls.length e = false) : Ft (.tup [t, s, e, .tup ls]) (some (-5))
  | line {ts ls : List D} {ns : Int} {e : D} {k : Nat} (h : fTops (.tup ts) = true) (h2 : numIn 0 4 (.int ns) = true) (h3 : fLin (.tup ls) = true) (h4 : fEnt ls.length e = true) (h5 : k < ls.length) (h6 : okI ts.length ns ls k = false) (h7 : ∀ j, j < k → okI ts.length ns ls j = true) : Ft (.tup [.tup ts, .int ns, e, .tup ls]) (some (k : Nat))
  | ok {ts ls : List D} {ns : Int} {e : D} (h : fTops (.tup ts) = true) (h2 : numIn 0 4 (.int ns) = true) (h3 : fLin (.tup ls) = true) (h4 : fEnt ls.length e = true) (h7 : ∀ j, j < ls.length → okI ts.length ns ls j = true) : Ft (.tup [.tup ts, .int ns, e, .tup ls]) none
theorem first_of (ok : Nat → Bool) : ∀ n : Nat, (∀ j, j < n → ok j = true) ∨ ∃ k, k < n ∧ ok k = false ∧ ∀ j, j < k → ok j = true
  | 0 => .inl fun j hj => absurd hj (by omega)
  | n + 1 => by
    rcases first_of ok n with h | ⟨k, h1, h2, h3⟩
    · cases hn : ok n with
      | true =>
        refine .inl fun j hj => ?_
        by_cases z : j = n
        · subst z; exact hn
        · exact h j (by omega)
      | false => exact .inr ⟨n, by omega, hn, h⟩
    · exact .inr ⟨k, by omega, h2, h3⟩
theorem ft_ex (d : D) : ∃ o, Ft d o := by
  by_cases h0 : ∃ t s e l, d = .tup [t, s, e, l]
  · obtain ⟨t, s, e, l, rfl⟩ := h0
    cases h1 : fTops t with
    | false => exact ⟨_, .tops h1⟩
    | true =>
      cases h2 : numIn 0 4 s with
      | false => exact ⟨_, .sends h1 h2⟩
      | true =>
        cases h3 : fLin l with
        | false => exact ⟨_, .lin h1 h2 h3⟩
        | true =>
          cases l with
          | tup ls =>
            cases h4 : fEnt ls.length e with
            | false => exact ⟨_, .ent h1 h2 h3 h4⟩
            | true =>
              cases t with
              | tup ts =>
                cases s with
                | int ns =>
                  rcases first_of (okI ts.length ns ls) ls.length with h | ⟨k, h5, h6, h7⟩
                  · exact ⟨_, .ok h1 h2 h3 h4 h⟩
                  · exact ⟨_, .line h1 h2 h3 h4 h5 h6 h7⟩
                | _ => cases h2
              | _ => cases h1
          | _ => cases h3
  · exact ⟨_, .shape fun t s e l z => h0 ⟨t, s, e, l, z⟩⟩
section
variable {st : Sto} {t s e l d : D} {o : Option Int}
theorem four {xs : List D} (h : ∀ t s e l, D.tup xs ≠ .tup [t, s, e, l]) : ¬ xs.length = 4 := by
  intro z
  rcases xs with _ | ⟨a, _ | ⟨b, _ | ⟨c, _ | ⟨f, _ | ⟨g, xs⟩⟩⟩⟩⟩ <;> simp at z
  exact h _ _ _ _ rfl
theorem vl4 (h : Vl 40 (.tup [t, s, e, l])) : Vl 39 t ∧ Vl 39 s ∧ Vl 39 e ∧ Vl 39 l := by
  have := h.tup.2
  exact ⟨this t (by simp), this s (by simp), this e (by simp), this l (by simp)⟩
theorem check_line (hc : Closed st) {ts ls : List D} {ns : Int} {e : D} (hl : Vl 39 (.tup ls)) (hn : ls.length ≤ 4000) :
    ((∀ j, j < ls.length → okI ts.length ns ls j = true) → ∃ v5 v6, forGo (wkEnum (wkSeq ls)) (.tp [.nm 5, .nm 6]) L_check_code_1 16777215 0 (kE (.tup ts) (.int ns) e (.tup ls) none none) st = .ok (.nx (kE (.tup ts) (.int ns) e (.tup ls) v5 v6)) st) ∧
    (∀ k, k < ls.length → okI ts.length ns ls k = false → (∀ j, j < k → okI ts.length ns ls j = true) → forGo (wkEnum (wkSeq ls)) (.tp [.nm 5, .nm 6]) L_check_code_1 16777215 0 (kE (.tup ts) (.int ns) e (.tup ls) none none) st = .exn ⟨"BadCode", .int (k : Nat)⟩ st) := by
  rcases for_find (wk := wkEnum (wkSeq ls)) (p := .tp [.nm 5, .nm 6]) (S := L_check_code_1) (items := enumD ls) (fun i env s => (∃ a b, env = kE (.tup ts) (.int ns) e (.tup ls) a b) ∧ s = st) (fun i _ => okI ts.length ns ls i) (fun i r => r = .exn ⟨"BadCode", .int (i : Nat)⟩ st)
    (fun i r h => .inr ⟨_, _, h⟩) (fun i env s _ => wkEnum_at (wkSeq_at _ _ _))
    (fun i d env s hdi hh => by
      obtain ⟨⟨a, b, rfl⟩, rfl⟩ := hh
      obtain ⟨l, hle, rfl⟩ := enumD_get hdi
      have hv : Vl 38 l := hl.tup.2 l (List.mem_of_getElem? hle)
      have hline := e_is_line hc (place := i) (many := ls.length) (tops := ts) (ns := ns) (hv.lo _ _ 0) (fun xs z => by subst z; exact hv.tup.1)
      have hok : okI ts.length ns ls i = lineOk ts.length ns i ls.length l := by unfold okI; rw [hle]
      refine ⟨kE (.tup ts) (.int ns) e (.tup ls) (some (.int (i : Nat))) (some l), by simp [kE, put_tp, puts_cons, puts_nil, put_nm], ?_⟩
      by_cases hz : lineOk ts.length ns i ls.length l = true
      · rw [hz] at hline
        exact .inl ⟨by rw [hok]; exact hz, _, _, (by simp [L_check_code_1, kE, hline]; exact ⟨rfl, rfl⟩), ⟨⟨_, _, rfl⟩, rfl⟩⟩
      · have hz' : lineOk ts.length ns i ls.length l = false := by simpa using hz
        rw [hz'] at hline
        exact .inr ⟨by rw [hok]; exact hz', by simp [L_check_code_1, kE, hline]⟩)
    16777215 0 (kE (.tup ts) (.int ns) e (.tup ls) none none) st (Nat.zero_le _) (by simp; omega) ⟨⟨none, none, rfl⟩, rfl⟩ with ⟨h1, e', st', h2, ⟨a, b, rfl⟩, rfl⟩ | ⟨i, d, _, h1, h2, h3, h4⟩
  · refine ⟨fun _ => ⟨a, b, h2⟩, fun k hk hb _ => ?_⟩
    have hlt : k < (enumD ls).length := by simpa using hk
    have := h1 k _ (Nat.zero_le _) (List.getElem?_eq_getElem hlt)
    rw [hb] at this; cases this
  · have hi : i < ls.length := by have := lt_of_get h1; simpa using this
    refine ⟨fun hall => ?_, fun k hk hb hj => ?_⟩
    · rw [hall i hi] at h2; cases h2
    · have : i = k := by
        rcases Nat.lt_trichotomy i k with z | z | z
        · rw [hj i z] at h2; cases h2
        · exact z
        · have hlt : k < (enumD ls).length := by simpa using hk
          have := h3 k _ (Nat.zero_le _) z (List.getElem?_eq_getElem hlt)
          rw [hb] at this; cases this
      subst this
      exact h4
theorem e_check (hc : Closed st) (hv : Vl 40 d) (hf : Ft d o) : G_check_code [d] st = (match o with | none => .ok d st | some a => .exn ⟨"BadCode", .int a⟩ st) := by
  have raise : ∀ {a : Int}, B_check_code [some d, none, none, none, none, none, none] st = .exn ⟨"BadCode", .int a⟩ st → G_check_code [d] st = .exn ⟨"BadCode", .int a⟩ st := fun {a} h => runX_exn (j := []) hc (by simp) (by rw [List.append_nil]; exact h)
  have go4 : ∀ {t s e l : D} {R : IS}, d = .tup [t, s, e, l] → sSeq (sIf CK0 (sRaise "BadCode" (iCons (iUn gNeg (iC (.int 1))) (iNil))) (sNil)) (sSeq (sAsg (.tp [.nm 1, .nm 2, .nm 3, .nm 4]) (iVar 0)) R) [some d, none, none, none, none, none, none] st = R (kE t s e l none none) st := by
    rintro t s e l R rfl
    have h0 := e_tuple1 hc (hv.lo _ _ 0) 4
    have c0 : CK0 [some (.tup [t, s, e, l]), none, none, none, none, none, none] st = .ok false st := by simp [CK0, h0]
    rw [seq_nx (e1 := [some (.tup [t, s, e, l]), none, none, none, none, none, none]) (st1 := st) (by rw [if_f c0]; rfl)]
    rw [seq_nx (e1 := kE t s e l none none) (st1 := st) (by simp [kE])]
  cases hf with
  | shape h =>
    refine raise ?_
    have h0 : G_is_tuple [d, .int 4] st = .ok (.bl false) st := by
      have q := e_tuple1 hc (hv.lo _ _ 0) 4
      clear go4 raise
      cases d with
      | tup xs =>
        have z := four h
        have z' : ¬ (xs.length : Int) = 4 := by omega
        simp only [z', decide_false] at q
        exact q
      | _ => exact q
    have c0 : CK0 [some d, none, none, none, none, none, none] st = .ok true st := by simp [CK0, h0]
    rw [BK_eq]
    exact seq_ex (by rw [if_t c0]; exact bdx 1 _)
  | @tops t s e l h =>
    obtain ⟨v1, v2, v3, v4⟩ := vl4 hv
    refine raise ?_
    have c := k2 (s := s) (e := e) (l := l) (v5 := none) (v6 := none) hc v1
    rw [h] at c
    rw [BK_eq, go4 rfl]
    exact seq_ex (by rw [if_t c]; exact bdx 2 _)
  | @sends t s e l h h2 =>
    obtain ⟨v1, v2, v3, v4⟩ := vl4 hv
    refine raise ?_
    have c2 := k2 (s := s) (e := e) (l := l) (v5 := none) (v6 := none) hc v1
    have c3 := k3 (t := t) (e := e) (l := l) (v5 := none) (v6 := none) hc v2
    rw [h] at c2
    rw [h2] at c3
    rw [BK_eq, go4 rfl, seq_nx (e1 := kE t s e l none none) (st1 := st) (by rw [if_f c2]; rfl)]
    exact seq_ex (by rw [if_t c3]; exact bdx 3 _)
  | @lin t s e l h h2 h3 =>
    obtain ⟨v1, v2, v3, v4⟩ := vl4 hv
    refine raise ?_
    have c2 := k2 (s := s) (e := e) (l := l) (v5 := none) (v6 := none) hc v1
    have c3 := k3 (t := t) (e := e) (l := l) (v5 := none) (v6 := none) hc v2
    have c4 := k4 (t := t) (s := s) (e := e) (v5 := none) (v6 := none) hc v4
    rw [h] at c2
    rw [h2] at c3
    rw [h3] at c4
    rw [BK_eq, go4 rfl, seq_nx (e1 := kE t s e l none none) (st1 := st) (by rw [if_f c2]; rfl), seq_nx (e1 := kE t s e l none none) (st1 := st) (by rw [if_f c3]; rfl)]
    exact seq_ex (by rw [if_t c4]; exact bdx 4 _)
  | @ent t s e ls h h2 h3 h4 =>
    obtain ⟨v1, v2, v3, v4⟩ := vl4 hv
    refine raise ?_
    have c2 := k2 (s := s) (e := e) (l := .tup ls) (v5 := none) (v6 := none) hc v1
    have c3 := k3 (t := t) (e := e) (l := .tup ls) (v5 := none) (v6 := none) hc v2
    have c4 := k4 (t := t) (s := s) (e := e) (v5 := none) (v6 := none) hc v4
    rw [h] at c2
    rw [h2] at c3
    rw [h3] at c4
    obtain ⟨b1, b2, c5, q⟩ := k56 (t := t) (s := s) (v5 := none) (v6 := none) (ls := ls) hc v3
    rw [BK_eq, go4 rfl, seq_nx (e1 := kE t s e (.tup ls) none none) (st1 := st) (by rw [if_f c2]; rfl), seq_nx (e1 := kE t s e (.tup ls) none none) (st1 := st) (by rw [if_f c3]; rfl), seq_nx (e1 := kE t s e (.tup ls) none none) (st1 := st) (by rw [if_f c4]; rfl)]
    rcases q with ⟨rfl, _⟩ | ⟨rfl, c6, rfl⟩
    · exact seq_ex (by rw [if_t c5]; exact bdx 5 _)
    · rw [h4] at c6
      rw [seq_nx (e1 := kE t s e (.tup ls) none none) (st1 := st) (by rw [if_f c5]; rfl)]
      exact seq_ex (by rw [if_t c6]; exact bdx 5 _)
  | @line ts ls ns e k h h2 h3 h4 h5 h6 h7 =>
    obtain ⟨v1, v2, v3, v4⟩ := vl4 hv
    refine raise ?_
    have c2 := k2 (s := .int ns) (e := e) (l := .tup ls) (v5 := none) (v6 := none) hc v1
    have c3 := k3 (t := .tup ts) (e := e) (l := .tup ls) (v5 := none) (v6 := none) hc v2
    have c4 := k4 (t := .tup ts) (s := .int ns) (e := e) (v5 := none) (v6 := none) hc v4
    rw [h] at c2
    rw [h2] at c3
    rw [h3] at c4
    obtain ⟨b1, b2, c5, q⟩ := k56 (t := .tup ts) (s := .int ns) (v5 := none) (v6 := none) (ls := ls) hc v3
    rcases q with ⟨_, q⟩ | ⟨rfl, c6, rfl⟩
    · rw [h4] at q; cases q
    rw [h4] at c6
    have hn : ls.length ≤ 4000 := by simp [fLin] at h3; exact h3.2
    have hloop := (check_line (ts := ts) (ns := ns) (e := e) hc v4 hn).2 k h5 h6 h7
    rw [BK_eq, go4 rfl, seq_nx (e1 := kE (.tup ts) (.int ns) e (.tup ls) none none) (st1 := st) (by rw [if_f c2]; rfl), seq_nx (e1 := kE (.tup ts) (.int ns) e (.tup ls) none none) (st1 := st) (by rw [if_f c3]; rfl), seq_nx (e1 := kE (.tup ts) (.int ns) e (.tup ls) none none) (st1 := st) (by rw [if_f c4]; rfl), seq_nx (e1 := kE (.tup ts) (.int ns) e (.tup ls) none none) (st1 := st) (by rw [if_f c5]; rfl), seq_nx (e1 := kE (.tup ts) (.int ns) e (.tup ls) none none) (st1 := st) (by rw [if_f c6]; rfl)]
    exact seq_ex ((for_eq (walkC_eq (f := fEnum) (wk := wkEnum (wkSeq ls)) (ds := [.tup ls]) (st1 := st) (by simp [kE]) rfl)).trans hloop)
  | @ok ts ls ns e h h2 h3 h4 h7 =>
    obtain ⟨v1, v2, v3, v4⟩ := vl4 hv
    have c2 := k2 (s := .int ns) (e := e) (l := .tup ls) (v5 := none) (v6 := none) hc v1
    have c3 := k3 (t := .tup ts) (e := e) (l := .tup ls) (v5 := none) (v6 := none) hc v2
    have c4 := k4 (t := .tup ts) (s := .int ns) (e := e) (v5 := none) (v6 := none) hc v4
    rw [h] at c2
    rw [h2] at c3
    rw [h3] at c4
    obtain ⟨b1, b2, c5, q⟩ := k56 (t := .tup ts) (s := .int ns) (v5 := none) (v6 := none) (ls := ls) hc v3
    rcases q with ⟨_, q⟩ | ⟨rfl, c6, rfl⟩
    · rw [h4] at q; cases q
    rw [h4] at c6
    have hn : ls.length ≤ 4000 := by simp [fLin] at h3; exact h3.2
    obtain ⟨a, b, hloop⟩ := (check_line (ts := ts) (ns := ns) (e := e) hc v4 hn).1 h7
    refine runX_more (j := []) hc (hv.lo _ _ _) ?_
    show B_check_code [some (.tup [.tup ts, .int ns, e, .tup ls]), none, none, none, none, none, none] st = _
    rw [List.append_nil, BK_eq, go4 rfl, seq_nx (e1 := kE (.tup ts) (.int ns) e (.tup ls) none none) (st1 := st) (by rw [if_f c2]; rfl), seq_nx (e1 := kE (.tup ts) (.int ns) e (.tup ls) none none) (st1 := st) (by rw [if_f c3]; rfl), seq_nx (e1 := kE (.tup ts) (.int ns) e (.tup ls) none none) (st1 := st) (by rw [if_f c4]; rfl), seq_nx (e1 := kE (.tup ts) (.int ns) e (.tup ls) none none) (st1 := st) (by rw [if_f c5]; rfl), seq_nx (e1 := kE (.tup ts) (.int ns) e (.tup ls) none none) (st1 := st) (by rw [if_f c6]; rfl)]
    rw [seq_nx ((for_eq (walkC_eq (f := fEnum) (wk := wkEnum (wkSeq ls)) (ds := [.tup ls]) (st1 := st) (by simp [kE]) rfl)).trans hloop)]
    simp [kE]
end
end F32
end QI

/-! the law's look at a code; what is told -/
namespace QI
open PySem PySem.Spec PyProof.Rows L2
open LC
namespace F32
theorem Vl.up : ∀ {n m : Nat} {d : D}, Vl n d → n ≤ m → Vl m d
  | 0, m, d, h, _ => Vl.at h
  | n + 1, 0, d, h, hm => absurd hm (by omega)
  | n + 1, m + 1, d, h, hm => by
    rcases h with h | ⟨xs, h1, h2, h3⟩
    · exact .inl h
    · exact .inr ⟨xs, h1, h2, fun x hx => Vl.up (h3 x hx) (by omega)⟩
def fE (d : D) (v1 v2 v3 : Option D) : Ev := [some d, v1, v2, v3]
section
variable {st : Sto} {t s e l d : D} {v1 v2 v3 : Option D} {o : Option Int}
theorem cf1 (hc : Closed st) {n : Nat} (h : Vl (n + 1) t) : CF1 (fE (.tup [t, s, e, l]) v1 v2 v3) st = .ok (!fTops t) st := by
  have h0 := k_tuple (h.lo _ _ 0) st
  cases t with
  | tup ts =>
    have hl := h.tup.1
    simp only [isT] at h0
    by_cases hz : ts.length ≤ 4
    · have hz' : ¬ (4 : Int) < ts.length := by omega
      have h1 := e_bads hc (tup_lo h) hl 1 71 (v := 3) (env := fE (.tup [.tup ts, s, e, l]) v1 v2 v3) (A := iC (.int 1)) (B := iC (.int 71)) (by simp [fE]) (fun _ _ => rfl) (fun _ _ => rfl)
      have h2 := (comp_eq (fin := fRol) (n := 16777215) (p := .nm 3) (W := iWalk (iBin gIx (iVar 0) (iC (.int 0)))) (T := iNot (iTru (iCall 3 G_law_number [] (iCons (iVar 3) (iCons (iC (.int 1)) (iCons (iC (.int 71)) (iNil))))))) (A := iC (.int 1)) (vs := [3]) (env := fE (.tup [.tup ts, s, e, l]) v1 v2 v3) (st := st) (st1 := st) (wk := wkSeq ts) (by simp [fE])).trans h1
      have h3 := ones_ne (st := st) (bad1 1 71 ts)
      rw [bad1_0] at h3
      unfold fE at h2
      simp [CF1, fE, isK, hz, hz', fTops, -ev_comp, h2, h3]
    · have hz' : (4 : Int) < ts.length := by omega
      simp [CF1, fE, isK, hz, hz', fTops]
  | _ =>
    simp only [isT] at h0
    simp [CF1, fE, h0, fTops]
theorem cf2 (hc : Closed st) {n : Nat} (h : Vl n s) : CF2 (fE (.tup [t, s, e, l]) v1 v2 v3) st = .ok (!numIn 0 4 s) st := by
  have h0 := e_law_num hc (h.lo _ _ 0) 0 4
  simp [CF2, fE, h0]
theorem cf3 (hc : Closed st) (h : Vl 39 l) : CF3 (fE (.tup [t, s, e, l]) v1 v2 v3) st = .ok (!fLin l) st := by
  have h0 := k_tuple (h.lo _ _ 0) st
  cases l with
  | tup ls =>
    have hq := eq_nil h (by omega) st
    by_cases hz : 1 ≤ ls.length
    · have hz' : ¬ ls = [] := by rintro rfl; simp at hz
      simp only [hz', decide_false] at hq
      by_cases hy : ls.length ≤ 4000
      · have hy' : ¬ 4000 < (ls.length : Int) := by omega
        simp [CF3, fE, isK, hq, hz, hz', hy, hy', fLin]
      · have hy' : 4000 < (ls.length : Int) := by omega
        simp [CF3, fE, isK, hq, hz, hz', hy, hy', fLin]
    · have hz' : ls = [] := by
        cases ls with
        | nil => rfl
        | cons x xs => simp at hz
      subst hz'
      simp at hq
      simp [CF3, fE, isK, hq, fLin]
  | _ =>
    simp only [isT] at h0
    simp [CF3, fE, h0, fLin]
theorem cf4 (hc : Closed st) {n : Nat} {ls : List D} (h : Vl (n + 1) e) : CF4 (fE (.tup [t, s, e, .tup ls]) v1 v2 v3) st = .ok (!fEnt ls.length e) st := by
  have h0 := k_tuple (h.lo _ _ 0) st
  cases e with
  | tup es =>
    have hl := h.tup.1
    by_cases hz : 1 ≤ es.length
    · have hz' : (1 : Int) ≤ es.length := by omega
      by_cases hy : es.length ≤ 3
      · have hy' : (es.length : Int) ≤ 3 := by omega
        have h1 := e_bads hc (tup_lo h) hl 0 ((ls.length : Int) - 1) (v := 2) (env := fE (.tup [t, s, .tup es, .tup ls]) v1 v2 v3) (A := iC (.int 0)) (B := iBin gSub (iCallB gLen (iCons (iBin gIx (iVar 0) (iC (.int 3))) (iNil))) (iC (.int 1))) (by simp [fE]) (fun _ _ => rfl) (fun e' he => by
          have := he 0 (by omega)
          simp [fE] at this
          simp [this])
        have h2 := (comp_eq (fin := fRol) (n := 16777215) (p := .nm 2) (W := iWalk (iBin gIx (iVar 0) (iC (.int 2)))) (T := iNot (iTru (iCall 3 G_law_number [] (iCons (iVar 2) (iCons (iC (.int 0)) (iCons (iBin gSub (iCallB gLen (iCons (iBin gIx (iVar 0) (iC (.int 3))) (iNil))) (iC (.int 1))) (iNil))))))) (A := iC (.int 1)) (vs := [2]) (env := fE (.tup [t, s, .tup es, .tup ls]) v1 v2 v3) (st := st) (st1 := st) (wk := wkSeq es) (by simp [fE])).trans h1
        have h3 := ones_ne (st := st) (bad1 0 ((ls.length : Int) - 1) es)
        rw [bad1_0] at h3
        unfold fE at h2
        simp [CF4, fE, isK, hz, hz', hy, hy', fEnt, -ev_comp, h2, h3]
      · have hy' : ¬ (es.length : Int) ≤ 3 := by omega
        simp [CF4, fE, isK, hz, hz', hy, hy', fEnt]
    · have hz' : ¬ (1 : Int) ≤ es.length := by omega
      simp [CF4, fE, isK, hz, hz', fEnt]
  | _ =>
    simp only [isT] at h0
    simp [CF4, fE, h0, fEnt]
theorem wrongs (hc : Closed st) {ts ls : List D} {ns : Int} (hl : Vl 39 (.tup ls)) (hn : ls.length ≤ 4000) :
    compGo (wkRange 0 ls.length) (.nm 2) (iNot (iTru (iCall 2 G_law_is_line [] (iCons (iVar 0) (iCons (iVar 2) (iNil)))))) (iVar 2) [2] (fE (.tup [.tup ts, .int ns, e, .tup ls]) v1 v2 v3) fRol 16777215 0 [] st = fRol ((List.range ls.length).filterMap fun i => if okI ts.length ns ls i = true then none else some (.int (i : Nat))) st := by
  have h := comp_pure (wk := wkRange 0 ls.length) (p := .nm 2) (items := rangeD 0 ls.length) (T := iNot (iTru (iCall 2 G_law_is_line [] (iCons (iVar 0) (iCons (iVar 2) (iNil)))))) (A := iVar 2) (vs := [2]) (env := fE (.tup [.tup ts, .int ns, e, .tup ls]) v1 v2 v3) (fin := fRol) (st := st) (fun d => match d with | .int i => if okI ts.length ns ls i.toNat = true then none else some d | _ => none) (fun i => wkRange_at _ _ _ _) (fun d hd => by
    obtain ⟨i, hi, rfl⟩ := List.mem_map.mp hd
    have hi := List.mem_range.mp hi
    rw [Int.zero_add]
    obtain ⟨l, hle⟩ : ∃ l, ls[i]? = some l := ⟨_, List.getElem?_eq_getElem hi⟩
    have hv : Vl 38 l := hl.tup.2 l (List.mem_of_getElem? hle)
    have hg := e_law_is_line (ent := e) (ns := ns) (tops := ts) hc hle (show Vl 50 l from by
      exact Vl.up hv (by omega))
    have hok : okI ts.length ns ls i = lineOk ts.length ns i ls.length l := by unfold okI; rw [hle]
    refine ⟨fE (.tup [.tup ts, .int ns, e, .tup ls]) v1 (some (.int i)) v3, by simp [fE, wipeE, put_nm], ?_⟩
    by_cases hz : lineOk ts.length ns i ls.length l = true
    · rw [hz] at hg
      exact .inl ⟨by simp [hok, hz], by simp [fE, hg]⟩
    · have hz' : lineOk ts.length ns i ls.length l = false := by simpa using hz
      rw [hz'] at hg
      exact .inr ⟨.int i, by simp [hok, hz'], by simp [fE, hg], by simp [fE]⟩) (n := 16777215) (by simp; omega) (by simp; omega)
  rw [h]
  congr 1
  unfold rangeD
  rw [List.filterMap_map]
  congr 1
  funext i
  simp
theorem wr_ints (n : Nat) (ok : Nat → Bool) : ∀ x ∈ ((List.range n).filterMap fun i => if ok i = true then none else some (D.int (i : Nat))), ∃ i : Int, x = .int i := by
  intro x hx
  obtain ⟨i, _, h⟩ := List.mem_filterMap.mp hx
  split at h
  · cases h
  · cases h; exact ⟨_, rfl⟩
theorem wr_ne (xs : List D) : (∀ x ∈ xs, ∃ i : Int, x = .int i) → gNeE (.rol xs) (.rol []) st = .ok (.bl (!decide (xs = []))) st := by
  intro h
  obtain ⟨ns, rfl⟩ : ∃ ns : List Int, xs = ns.map D.int := by
    induction xs with
    | nil => exact ⟨[], rfl⟩
    | cons x xs ih =>
      obtain ⟨i, rfl⟩ := h x (by simp)
      obtain ⟨ns, rfl⟩ := ih fun y hy => h y (by simp [hy])
      exact ⟨i :: ns, rfl⟩
  have k1 : SeqAt.shaped (.list (ns.map PyData.int)) = true := PySem.W.shaped_ints _
  have k2 : SeqAt.shaped (.list []) = true := by decide +kernel
  unfold gNeE gEq
  simp only [pdS, pdP, pdPs_ints, pdPs, k1, k2, and_self, if_true]
  cases ns with
  | nil => simp [PyData.eqv, PyData.eqvAll, fB]
  | cons n ns => simp [PyData.eqv, PyData.eqvAll, fB]
theorem e_fault (hc : Closed st) (hv : Vl 40 d) (hf : Ft d o) : G_law_code_fault [d] st = .ok (match o with | none => .non | some a => .int a) st := by
  have rt : ∀ {a : D}, D.lo 0 a = true → B_law_code_fault [some d, none, none, none] st = .ok (.rt a) st → G_law_code_fault [d] st = .ok a st := fun {a} h0 h => run_pure hc (D.lo_mono (Nat.zero_le _) h0) h
  have out : ∀ (a b : Int) (env : Ev), sRet (iBin gSub (iC (.int a)) (iC (.int b))) env st = .ok (.rt (.int (a - b))) st := fun a b env => by simp
  have c0 : ∀ {t s e l : D}, d = .tup [t, s, e, l] → CF0 [some d, none, none, none] st = .ok false st := by
    rintro t s e l rfl
    simp [CF0, isK]
  cases hf with
  | shape h =>
    refine rt rfl ?_
    have h0 : CF0 [some d, none, none, none] st = .ok true st := by
      have q := k_tuple (hv.lo _ _ 0) st
      clear c0 rt
      cases d with
      | tup xs =>
        have z := four h
        have z' : ¬ (xs.length : Int) = 4 := by omega
        simp [CF0, isK, z']
      | _ => simp [CF0, q, isT]
    rw [BF_eq]
    exact seq_rt (by rw [if_t h0]; exact out 0 1 _)
  | @tops t s e l h =>
    obtain ⟨v1, v2, v3, v4⟩ := vl4 hv
    refine rt rfl ?_
    have c := cf1 (s := s) (e := e) (l := l) (v1 := none) (v2 := none) (v3 := none) hc v1
    rw [h] at c
    rw [BF_eq, seq_nx (e1 := fE (.tup [t, s, e, l]) none none none) (st1 := st) (by rw [if_f (c0 rfl)]; rfl)]
    exact seq_rt (by rw [if_t c]; exact out 0 2 _)
  | @sends t s e l h h2 =>
    obtain ⟨v1, v2, v3, v4⟩ := vl4 hv
    refine rt rfl ?_
    have c1 := cf1 (s := s) (e := e) (l := l) (v1 := none) (v2 := none) (v3 := none) hc v1
    have c2 := cf2 (t := t) (e := e) (l := l) (v1 := none) (v2 := none) (v3 := none) hc v2
    rw [h] at c1
    rw [h2] at c2
    rw [BF_eq, seq_nx (e1 := fE (.tup [t, s, e, l]) none none none) (st1 := st) (by rw [if_f (c0 rfl)]; rfl), seq_nx (e1 := fE (.tup [t, s, e, l]) none none none) (st1 := st) (by rw [if_f c1]; rfl)]
    exact seq_rt (by rw [if_t c2]; exact out 0 3 _)
  | @lin t s e l h h2 h3 =>
    obtain ⟨v1, v2, v3, v4⟩ := vl4 hv
    refine rt rfl ?_
    have c1 := cf1 (s := s) (e := e) (l := l) (v1 := none) (v2 := none) (v3 := none) hc v1
    have c2 := cf2 (t := t) (e := e) (l := l) (v1 := none) (v2 := none) (v3 := none) hc v2
    have c3 := cf3 (t := t) (s := s) (e := e) (v1 := none) (v2 := none) (v3 := none) hc v4
    rw [h] at c1
    rw [h2] at c2
    rw [h3] at c3
    rw [BF_eq, seq_nx (e1 := fE (.tup [t, s, e, l]) none none none) (st1 := st) (by rw [if_f (c0 rfl)]; rfl), seq_nx (e1 := fE (.tup [t, s, e, l]) none none none) (st1 := st) (by rw [if_f c1]; rfl), seq_nx (e1 := fE (.tup [t, s, e, l]) none none none) (st1 := st) (by rw [if_f c2]; rfl)]
    exact seq_rt (by rw [if_t c3]; exact out 0 4 _)
  | @ent t s e ls h h2 h3 h4 =>
    obtain ⟨v1, v2, v3, v4⟩ := vl4 hv
    refine rt rfl ?_
    have c1 := cf1 (s := s) (e := e) (l := .tup ls) (v1 := none) (v2 := none) (v3 := none) hc v1
    have c2 := cf2 (t := t) (e := e) (l := .tup ls) (v1 := none) (v2 := none) (v3 := none) hc v2
    have c3 := cf3 (t := t) (s := s) (e := e) (v1 := none) (v2 := none) (v3 := none) hc v4
    have c4 := cf4 (t := t) (s := s) (ls := ls) (v1 := none) (v2 := none) (v3 := none) hc v3
    rw [h] at c1
    rw [h2] at c2
    rw [h3] at c3
    rw [h4] at c4
    rw [BF_eq, seq_nx (e1 := fE (.tup [t, s, e, .tup ls]) none none none) (st1 := st) (by rw [if_f (c0 rfl)]; rfl), seq_nx (e1 := fE (.tup [t, s, e, .tup ls]) none none none) (st1 := st) (by rw [if_f c1]; rfl), seq_nx (e1 := fE (.tup [t, s, e, .tup ls]) none none none) (st1 := st) (by rw [if_f c2]; rfl), seq_nx (e1 := fE (.tup [t, s, e, .tup ls]) none none none) (st1 := st) (by rw [if_f c3]; rfl)]
    exact seq_rt (by rw [if_t c4]; exact out 0 5 _)
  | @line ts ls ns e k h h2 h3 h4 h5 h6 h7 =>
    obtain ⟨v1, v2, v3, v4⟩ := vl4 hv
    refine rt rfl ?_
    have c1 := cf1 (s := .int ns) (e := e) (l := .tup ls) (v1 := none) (v2 := none) (v3 := none) hc v1
    have c2 := cf2 (t := .tup ts) (e := e) (l := .tup ls) (v1 := none) (v2 := none) (v3 := none) hc v2
    have c3 := cf3 (t := .tup ts) (s := .int ns) (e := e) (v1 := none) (v2 := none) (v3 := none) hc v4
    have c4 := cf4 (t := .tup ts) (s := .int ns) (ls := ls) (v1 := none) (v2 := none) (v3 := none) hc v3
    rw [h] at c1
    rw [h2] at c2
    rw [h3] at c3
    rw [h4] at c4
    have hn : ls.length ≤ 4000 := by simp [fLin] at h3; exact h3.2
    have hw := wrongs (v1 := none) (v2 := none) (v3 := none) (ts := ts) (ns := ns) (e := e) hc v4 hn
    obtain ⟨ys, hy⟩ := (wr_first (ok := okI ts.length ns ls) ls.length).2 k h5 h6 h7
    have hne := wr_ne (st := st) _ (wr_ints ls.length (okI ts.length ns ls))
    rw [hy] at hw hne
    have hlen : (.int (k : Nat) :: ys : List D).length ≤ 4000 := by
      rw [← hy]
      refine Nat.le_trans (List.length_filterMap_le _ _) ?_
      simp; omega
    have hfr : fRol (.int (k : Nat) :: ys) st = .ok (.rol (.int (k : Nat) :: ys)) st := rfl
    rw [hfr] at hw
    rw [BF_eq, seq_nx (e1 := fE (.tup [.tup ts, .int ns, e, .tup ls]) none none none) (st1 := st) (by rw [if_f (c0 rfl)]; rfl), seq_nx (e1 := fE (.tup [.tup ts, .int ns, e, .tup ls]) none none none) (st1 := st) (by rw [if_f c1]; rfl), seq_nx (e1 := fE (.tup [.tup ts, .int ns, e, .tup ls]) none none none) (st1 := st) (by rw [if_f c2]; rfl), seq_nx (e1 := fE (.tup [.tup ts, .int ns, e, .tup ls]) none none none) (st1 := st) (by rw [if_f c3]; rfl), seq_nx (e1 := fE (.tup [.tup ts, .int ns, e, .tup ls]) none none none) (st1 := st) (by rw [if_f c4]; rfl)]
    have hcp := (comp_eq (fin := fRol) (n := 16777215) (p := .nm 2) (T := iNot (iTru (iCall 2 G_law_is_line [] (iCons (iVar 0) (iCons (iVar 2) (iNil)))))) (A := iVar 2) (vs := [2]) (walkC_eq (ds := [.int (ls.length : Nat)]) (st := st) (st1 := st) (L := iCons (iCallB gLen (iCons (iBin gIx (iVar 0) (iC (.int 3))) (iNil))) (iNil)) (env := fE (.tup [.tup ts, .int ns, e, .tup ls]) none none none) (by simp [fE]) (fRange1_nat (by omega)))).trans hw
    rw [seq_nx (e1 := fE (.tup [.tup ts, .int ns, e, .tup ls]) (some (.rol (.int (k : Nat) :: ys))) none none) (st1 := st) (by rw [ev_sSet, hcp]; simp [fE])]
    have h0 : gIx (.rol (.int (k : Nat) :: ys)) (.int 0) st = .ok (.int (k : Nat)) st := gIx_nat (i := 0) rfl rfl
    simp at hne
    simp [fE, hne, h0]
  | @ok ts ls ns e h h2 h3 h4 h7 =>
    obtain ⟨v1, v2, v3, v4⟩ := vl4 hv
    refine rt rfl ?_
    have c1 := cf1 (s := .int ns) (e := e) (l := .tup ls) (v1 := none) (v2 := none) (v3 := none) hc v1
    have c2 := cf2 (t := .tup ts) (e := e) (l := .tup ls) (v1 := none) (v2 := none) (v3 := none) hc v2
    have c3 := cf3 (t := .tup ts) (s := .int ns) (e := e) (v1 := none) (v2 := none) (v3 := none) hc v4
    have c4 := cf4 (t := .tup ts) (s := .int ns) (ls := ls) (v1 := none) (v2 := none) (v3 := none) hc v3
    rw [h] at c1
    rw [h2] at c2
    rw [h3] at c3
    rw [h4] at c4
    have hn : ls.length ≤ 4000 := by simp [fLin] at h3; exact h3.2
    have hw := wrongs (v1 := none) (v2 := none) (v3 := none) (ts := ts) (ns := ns) (e := e) hc v4 hn
    have hy := (wr_first (ok := okI ts.length ns ls) ls.length).1 h7
    have hne := wr_ne (st := st) _ (wr_ints ls.length (okI ts.length ns ls))
    rw [hy] at hw hne
    have hfr : fRol [] st = .ok (.rol []) st := rfl
    rw [hfr] at hw
    rw [BF_eq, seq_nx (e1 := fE (.tup [.tup ts, .int ns, e, .tup ls]) none none none) (st1 := st) (by rw [if_f (c0 rfl)]; rfl), seq_nx (e1 := fE (.tup [.tup ts, .int ns, e, .tup ls]) none none none) (st1 := st) (by rw [if_f c1]; rfl), seq_nx (e1 := fE (.tup [.tup ts, .int ns, e, .tup ls]) none none none) (st1 := st) (by rw [if_f c2]; rfl), seq_nx (e1 := fE (.tup [.tup ts, .int ns, e, .tup ls]) none none none) (st1 := st) (by rw [if_f c3]; rfl), seq_nx (e1 := fE (.tup [.tup ts, .int ns, e, .tup ls]) none none none) (st1 := st) (by rw [if_f c4]; rfl)]
    have hcp := (comp_eq (fin := fRol) (n := 16777215) (p := .nm 2) (T := iNot (iTru (iCall 2 G_law_is_line [] (iCons (iVar 0) (iCons (iVar 2) (iNil)))))) (A := iVar 2) (vs := [2]) (walkC_eq (ds := [.int (ls.length : Nat)]) (st := st) (st1 := st) (L := iCons (iCallB gLen (iCons (iBin gIx (iVar 0) (iC (.int 3))) (iNil))) (iNil)) (env := fE (.tup [.tup ts, .int ns, e, .tup ls]) none none none) (by simp [fE]) (fRange1_nat (by omega)))).trans hw
    rw [seq_nx (e1 := fE (.tup [.tup ts, .int ns, e, .tup ls]) (some (.rol [])) none none) (st1 := st) (by rw [ev_sSet, hcp]; simp [fE])]
    simp at hne
    simp [fE, hne]
theorem try_ok {cs : List String} {S : IS} {W : Exn → Sto → Rs D} {env : Ev} {st st' : Sto} {fl : Fl} (h : S env st = .ok fl st') : sTry cs S W env st = .ok fl st' := by
  unfold sTry
  rw [h]
theorem try_exn {cs : List String} {S : IS} {W : Exn → Sto → Rs D} {env : Ev} {st st' st2 : Sto} {e : Exn} {d : D} (h : S env st = .exn e st') (hc : e.c ∈ cs) (hW : W e st' = .ok d st2) : sTry cs S W env st = .ok (.rt d) st2 := by
  unfold sTry
  rw [h]
  simp only [hc, if_true, hW, Rs.bind_ok]
/-- what is told -/
theorem e_told (hc : Closed st) (hv : Vl 40 d) (hf : Ft d o) : G_law_told [d] st = .ok (match o with | none => .tup [.str (Str.ofString "code"), d] | some a => .tup [.str (Str.ofString "bad"), .int a]) st := by
  have h := e_check hc hv hf
  cases o with
  | none =>
    refine run_pure hc (by simp [hv.lo]) ?_
    show B_law_told [some d, none] st = _
    unfold B_law_told
    exact try_ok (by simp [h])
  | some a =>
    refine run_pure hc (by simp) ?_
    show B_law_told [some d, none] st = _
    unfold B_law_told
    exact try_exn (e := ⟨"BadCode", .int a⟩) (st' := st) (by simp [h]) (by simp) (by simp [wIs])
end
end F32
end QI

/-! the law's drawn codes -/
namespace QI
open PySem PySem.Spec PyProof.Rows L2
theorem run_moved {N : List Str} {B : IS} {ds : List D} {st st' j : Sto} {d : D} (hl : st'.length = st.length) (hc : Closed st') (hd : d.lo st.length = true) (h : B (startE N ds) st = .ok (.rt d) (st' ++ j)) : run N B ds st = .ok d st' := by
  unfold run
  rw [h]
  show trim st _ _ = _
  unfold trim
  rw [← hl, List.take_left, if_pos ⟨by simp, by rw [hl]; exact hd, hc⟩]
open LC
/-- a draw, for any rest of the store -/
theorem LC.tk {pre post : Sto} {b : Int × Int} (hc : ∀ b, Closed (pre ++ bx b :: post)) (hb : okB b) (m : Nat) (h1 : 1 ≤ m) (h2 : m < 1000000) :
    ∃ (d : Nat) (b' : Int × Int), okB b' ∧ d < m ∧ G_law_take [.ref pre.length, .int (m : Nat)] (pre ++ bx b :: post) = .ok (.int d) (pre ++ bx b' :: post) := by
  obtain ⟨d, b', h3, h4, h5⟩ := e_take (hc b) hb (m := (m : Nat)) (by omega) (by omega)
  exact ⟨d, b', h3, by omega, h5⟩
namespace F32
inductive Ln
  | raise (r k : Nat)
  | clear (r : Nat)
  | send (s k : Nat)
  | under (r k t : Nat)
  | go (t : Nat)
  | stop
def Ln.d : Ln → D
  | .raise r k => .tup [.str (Str.ofString "raise"), .int r, .int k]
  | .clear r => .tup [.str (Str.ofString "clear"), .int r]
  | .send s k => .tup [.str (Str.ofString "send"), .int s, .int k]
  | .under r k t => .tup [.str (Str.ofString "under"), .int r, .int k, .int t]
  | .go t => .tup [.str (Str.ofString "go"), .int t]
  | .stop => .tup [.str (Str.ofString "stop")]
structure Cd where
  tops : List Nat
  sends : Nat
  ent : List Nat
  lines : List Ln
def Cd.d (c : Cd) : D := .tup [.tup (nD c.tops), .int c.sends, .tup (nD c.ent), .tup (c.lines.map Ln.d)]
/-- one line done: the row, what is sent, the place -/
def Ln.ok (c : Cd) (place : Nat) : Ln → Prop
  | .raise r k => r < c.tops.length ∧ k < 1000
  | .clear r => r < c.tops.length
  | .send s k => s < c.sends ∧ k < 1000
  | .under r k t => r < c.tops.length ∧ place < t ∧ t < c.lines.length
  | .go t => place < t ∧ t < c.lines.length
  | .stop => True
structure Cd.Ok (c : Cd) : Prop where
  lines : ∀ (i : Nat) (l : Ln), c.lines[i]? = some l → l.ok c i
  last : c.lines[c.lines.length - 1]? = some .stop
  len : 1 ≤ c.lines.length ∧ c.lines.length ≤ 1000
  ent : ∀ e ∈ c.ent, e < c.lines.length
  tops : c.tops.length ≤ 100 ∧ ∀ t ∈ c.tops, t < 1000
  sends : c.sends ≤ 100
/-- a line of a code with so many tops, sends, lines -/
def okL (nt ns many place : Nat) : Ln → Prop
  | .raise r k => r < nt ∧ k < 1000
  | .clear r => r < nt
  | .send s k => s < ns ∧ k < 1000
  | .under r k t => r < nt ∧ place < t ∧ t < many
  | .go t => place < t ∧ t < many
  | .stop => True
/-- a drawn code -/
structure Cd.Dr (c : Cd) : Prop where
  ok : c.Ok
  tops : c.tops.length ≤ 2 ∧ ∀ t ∈ c.tops, t ≤ 3
  ent : 1 ≤ c.ent.length ∧ c.ent.length ≤ 2
  lines : c.lines.length ≤ 100
  sends : c.sends ≤ 2
def DS (pre : Sto) (b : Int × Int) (post : Sto) (ls : List Ln) : Sto := pre ++ bx b :: (post ++ [.lst (ls.map Ln.d)])
section
variable {pre post : Sto} {b : Int × Int}
theorem Ln.d_lo (l : Ln) (n : Nat) : D.lo n l.d = true := by cases l <;> simp [Ln.d]
theorem lns_lo (n : Nat) (ls : List Ln) : D.loAll n (ls.map Ln.d) = true := by
  rw [loAll_iff]; intro d hd; obtain ⟨l, _, rfl⟩ := List.mem_map.mp hd; exact l.d_lo n
theorem ds_closed (hc : ∀ b, Closed (pre ++ bx b :: post)) (b : Int × Int) (xs : List D) (hx : ∀ n, D.loAll n xs = true) : Closed (pre ++ bx b :: (post ++ [.lst xs])) := by
  have h := closed_end (xs := xs) (hc b) (hx _)
  simpa using h
theorem ds_get (xs : List D) : (pre ++ bx b :: (post ++ [.lst xs]))[pre.length + 1 + post.length]? = some (.lst xs) := by
  rw [List.getElem?_append_right (by omega), show pre.length + 1 + post.length - pre.length = post.length + 1 by omega]
  simp
theorem ds_set (xs ys : List D) : setL (pre ++ bx b :: (post ++ [.lst xs])) (pre.length + 1 + post.length) ys = pre ++ bx b :: (post ++ [.lst ys]) := by
  unfold setL
  rw [List.set_append_right _ _ (by omega), show pre.length + 1 + post.length - pre.length = post.length + 1 by omega]
  simp
theorem ds_isLst (xs : List D) : isLst (pre ++ bx b :: (post ++ [.lst xs])) (.ref (pre.length + 1 + post.length)) = true := isLst_ref (ds_get xs)
theorem ds_app {xs : List D} (h : xs.length < 100000) (d : D) : gAppend (.ref (pre.length + 1 + post.length)) [d] (pre ++ bx b :: (post ++ [.lst xs])) = .ok .non (pre ++ bx b :: (post ++ [.lst (xs ++ [d])])) := by
  rw [gAppend_at (ds_get xs) (by omega), ds_set]
def V0 (pre post : Sto) (tops : List Nat) (sends takes many : Nat) (t6 t7 t8 t9 : Option D) : Ev := [some (.ref pre.length), some (.tup (nD tops)), some (.int sends), some (.int takes), some (.int many), some (.ref (pre.length + 1 + post.length)), t6, t7, t8, t9]
noncomputable def S_ra : IS := sDrop (iMeth gAppend (iVar 5) (iCons (iTup (iCons (iC (.str (Str.ofString "raise"))) (iCons (iCall 2 G_law_take [] (iCons (iVar 0) (iCons (iCallB gLen (iCons (iVar 1) (iNil))) (iNil)))) (iCons (iBin gAdd (iC (.int 1)) (iCall 2 G_law_take [] (iCons (iVar 0) (iCons (iC (.int 4)) (iNil))))) (iNil))))) (iNil)))
noncomputable def S_cl : IS := sDrop (iMeth gAppend (iVar 5) (iCons (iTup (iCons (iC (.str (Str.ofString "clear"))) (iCons (iCall 2 G_law_take [] (iCons (iVar 0) (iCons (iCallB gLen (iCons (iVar 1) (iNil))) (iNil)))) (iNil)))) (iNil)))
noncomputable def S_se : IS := sDrop (iMeth gAppend (iVar 5) (iCons (iTup (iCons (iC (.str (Str.ofString "send"))) (iCons (iCall 2 G_law_take [] (iCons (iVar 0) (iCons (iVar 2) (iNil)))) (iCons (iBin gAdd (iC (.int 1)) (iCall 2 G_law_take [] (iCons (iVar 0) (iCons (iC (.int 3)) (iNil))))) (iNil))))) (iNil)))
noncomputable def S_un : IS := sDrop (iMeth gAppend (iVar 5) (iCons (iTup (iCons (iC (.str (Str.ofString "under"))) (iCons (iCall 2 G_law_take [] (iCons (iVar 0) (iCons (iCallB gLen (iCons (iVar 1) (iNil))) (iNil)))) (iCons (iCall 2 G_law_take [] (iCons (iVar 0) (iCons (iC (.int 5)) (iNil)))) (iCons (iBin gAdd (iBin gAdd (iVar 6) (iC (.int 1))) (iCall 2 G_law_take [] (iCons (iVar 0) (iCons (iCallB gMin (iCons (iC (.int 6)) (iCons (iBin gSub (iBin gSub (iVar 4) (iC (.int 1))) (iVar 6)) (iNil)))) (iNil))))) (iNil)))))) (iNil)))
noncomputable def S_el : IS := sDrop (iMeth gAppend (iVar 5) (iCons (iIf (iTest (iBin gGt (iCall 2 G_law_take [] (iCons (iVar 0) (iCons (iC (.int 3)) (iNil)))) (iC (.int 0)))) (iTup (iCons (iC (.str (Str.ofString "go"))) (iCons (iBin gAdd (iBin gAdd (iVar 6) (iC (.int 1))) (iCall 2 G_law_take [] (iCons (iVar 0) (iCons (iCallB gMin (iCons (iC (.int 4)) (iCons (iBin gSub (iBin gSub (iVar 4) (iC (.int 1))) (iVar 6)) (iNil)))) (iNil))))) (iNil)))) (iTup (iCons (iC (.str (Str.ofString "stop"))) (iNil)))) (iNil)))
noncomputable def C_1 : IT := iAnd (iTest (iBin gLt (iVar 7) (iC (.int 2)))) (iTest (iBin gNeE (iVar 1) (iTup (iNil))))
noncomputable def C_2 : IT := iAnd (iTest (iBin gEqE (iVar 7) (iC (.int 2)))) (iTest (iBin gNeE (iVar 1) (iTup (iNil))))
noncomputable def C_3 : IT := iAnd (iTest (iBin gEqE (iVar 7) (iC (.int 3)))) (iTest (iBin gGt (iVar 2) (iC (.int 0))))
noncomputable def C_4 : IT := iAnd (iTest (iBin gLt (iVar 7) (iC (.int 7)))) (iTest (iBin gNeE (iVar 1) (iTup (iNil))))
theorem L1_eq : L_law_drawn_code_1 = sSeq (sSet 7 (iCall 2 G_law_take [] (iCons (iVar 0) (iCons (iC (.int 8)) (iNil))))) (sIf C_1 S_ra (sIf C_2 S_cl (sIf C_3 S_se (sIf C_4 S_un S_el)))) := rfl
section
variable {tops : List Nat} {sends takes many place way : Nat} {ls : List Ln} {t8 t9 : Option D}
theorem hne (st : Sto) : gNeE (.tup (nD tops)) (.tup []) st = .ok (.bl (!decide (tops = []))) st := gNeE_nD st tops []
theorem ec1 (st : Sto) : C_1 (V0 pre post tops sends takes many (some (.int place)) (some (.int way)) t8 t9) st = .ok (decide (way < 2 ∧ tops ≠ [])) st := by
  have e : decide ((way : Int) < 2) = decide (way < 2) := by congr 1; simp; omega
  by_cases h : way < 2 <;> simp [C_1, V0, hne, e, h]
theorem ec2 (st : Sto) : C_2 (V0 pre post tops sends takes many (some (.int place)) (some (.int way)) t8 t9) st = .ok (decide (way = 2 ∧ tops ≠ [])) st := by
  have e : decide ((way : Int) = 2) = decide (way = 2) := by congr 1; simp; omega
  by_cases h : way = 2 <;> simp [C_2, V0, hne, e, h]
theorem ec3 (st : Sto) : C_3 (V0 pre post tops sends takes many (some (.int place)) (some (.int way)) t8 t9) st = .ok (decide (way = 3 ∧ 0 < sends)) st := by
  have e : decide ((way : Int) = 3) = decide (way = 3) := by congr 1; simp; omega
  by_cases h : way = 3 <;> simp [C_3, V0, hne, e, h]
theorem ec4 (st : Sto) : C_4 (V0 pre post tops sends takes many (some (.int place)) (some (.int way)) t8 t9) st = .ok (decide (way < 7 ∧ tops ≠ [])) st := by
  have e : decide ((way : Int) < 7) = decide (way < 7) := by congr 1; simp; omega
  by_cases h : way < 7 <;> simp [C_4, V0, hne, e, h]
/-- what a statement of a line does -/
def Adds (S : IS) (pre post : Sto) (b : Int × Int) (tops : List Nat) (sends takes many place way : Nat) (ls : List Ln) (t8 t9 : Option D) : Prop :=
  ∃ (l : Ln) (b' : Int × Int), okB b' ∧ okL tops.length sends many place l ∧ S (V0 pre post tops sends takes many (some (.int place)) (some (.int way)) t8 t9) (DS pre b post ls) = .ok (.nx (V0 pre post tops sends takes many (some (.int place)) (some (.int way)) t8 t9)) (DS pre b' post (ls ++ [l]))
theorem ds_cl (hc : ∀ b, Closed (pre ++ bx b :: post)) (ls : List Ln) : ∀ b, Closed (pre ++ bx b :: (post ++ [.lst (ls.map Ln.d)])) := fun b => ds_closed hc b (ls.map Ln.d) (fun n => lns_lo n ls)
theorem ds_fin (h : ls.length < 100000) (b : Int × Int) (l : Ln) : gAppend (.ref (pre.length + 1 + post.length)) [l.d] (DS pre b post ls) = .ok .non (DS pre b post (ls ++ [l])) := by
  unfold DS
  rw [ds_app (by simpa using h)]; simp
theorem ds_il (b : Int × Int) : isLst (DS pre b post ls) (.ref (pre.length + 1 + post.length)) = true := ds_isLst _
theorem a_ra (hc : ∀ b, Closed (pre ++ bx b :: post)) (hb : okB b) (ht0 : tops ≠ []) (ht : tops.length ≤ 2) (hl : ls.length < 1000) : Adds S_ra pre post b tops sends takes many place way ls t8 t9 := by
  have hp : 1 ≤ tops.length := by cases tops <;> simp_all
  obtain ⟨d1, b1, hb1, hd1, h1⟩ := LC.tk (ds_cl hc ls) hb tops.length hp (by omega)
  obtain ⟨d2, b2, hb2, hd2, h2⟩ := LC.tk (ds_cl hc ls) hb1 4 (by omega) (by omega)
  have h1 : G_law_take [.ref pre.length, .int tops.length] (DS pre b post ls) = .ok (.int d1) (DS pre b1 post ls) := h1
  have h2 : G_law_take [.ref pre.length, .int 4] (DS pre b1 post ls) = .ok (.int d2) (DS pre b2 post ls) := h2
  have e : (1 : Int) + d2 = ((1 + d2 : Nat) : Int) := by push_cast; rfl
  refine ⟨.raise d1 (1 + d2), b2, hb2, ⟨hd1, by omega⟩, ?_⟩
  have f := ds_fin (pre := pre) (post := post) (ls := ls) (by omega) b2 (.raise d1 (1 + d2))
  simp only [Ln.d] at f
  simp [S_ra, V0, ds_il, h1, h2, e, f, -Int.natCast_add]
theorem a_cl (hc : ∀ b, Closed (pre ++ bx b :: post)) (hb : okB b) (ht0 : tops ≠ []) (ht : tops.length ≤ 2) (hl : ls.length < 1000) : Adds S_cl pre post b tops sends takes many place way ls t8 t9 := by
  have hp : 1 ≤ tops.length := by cases tops <;> simp_all
  obtain ⟨d1, b1, hb1, hd1, h1⟩ := LC.tk (ds_cl hc ls) hb tops.length hp (by omega)
  have h1 : G_law_take [.ref pre.length, .int tops.length] (DS pre b post ls) = .ok (.int d1) (DS pre b1 post ls) := h1
  refine ⟨.clear d1, b1, hb1, hd1, ?_⟩
  have f := ds_fin (pre := pre) (post := post) (ls := ls) (by omega) b1 (.clear d1)
  simp only [Ln.d] at f
  simp [S_cl, V0, ds_il, h1, f, -Int.natCast_add]
theorem a_se (hc : ∀ b, Closed (pre ++ bx b :: post)) (hb : okB b) (hp : 0 < sends) (hs : sends ≤ 2) (hl : ls.length < 1000) : Adds S_se pre post b tops sends takes many place way ls t8 t9 := by
  obtain ⟨d1, b1, hb1, hd1, h1⟩ := LC.tk (ds_cl hc ls) hb sends hp (by omega)
  obtain ⟨d2, b2, hb2, hd2, h2⟩ := LC.tk (ds_cl hc ls) hb1 3 (by omega) (by omega)
  have h1 : G_law_take [.ref pre.length, .int sends] (DS pre b post ls) = .ok (.int d1) (DS pre b1 post ls) := h1
  have h2 : G_law_take [.ref pre.length, .int 3] (DS pre b1 post ls) = .ok (.int d2) (DS pre b2 post ls) := h2
  have e : (1 : Int) + d2 = ((1 + d2 : Nat) : Int) := by push_cast; rfl
  refine ⟨.send d1 (1 + d2), b2, hb2, ⟨hd1, by omega⟩, ?_⟩
  have f := ds_fin (pre := pre) (post := post) (ls := ls) (by omega) b2 (.send d1 (1 + d2))
  simp only [Ln.d] at f
  simp [S_se, V0, ds_il, h1, h2, e, f, -Int.natCast_add]
theorem min_nat (a x y : Nat) (h : y + 1 ≤ x) : (if (x : Int) - 1 - y < (a : Int) then (x : Int) - 1 - y else (a : Int)) = ((min a (x - 1 - y) : Nat) : Int) := by
  split <;> omega
theorem a_un (hc : ∀ b, Closed (pre ++ bx b :: post)) (hb : okB b) (ht0 : tops ≠ []) (ht : tops.length ≤ 2) (hpl : place + 1 < many) (hl : ls.length < 1000) : Adds S_un pre post b tops sends takes many place way ls t8 t9 := by
  have hp : 1 ≤ tops.length := by cases tops <;> simp_all
  obtain ⟨d1, b1, hb1, hd1, h1⟩ := LC.tk (ds_cl hc ls) hb tops.length hp (by omega)
  obtain ⟨d2, b2, hb2, hd2, h2⟩ := LC.tk (ds_cl hc ls) hb1 5 (by omega) (by omega)
  obtain ⟨d3, b3, hb3, hd3, h3⟩ := LC.tk (ds_cl hc ls) hb2 (min 6 (many - 1 - place)) (by omega) (by omega)
  have h1 : G_law_take [.ref pre.length, .int tops.length] (DS pre b post ls) = .ok (.int d1) (DS pre b1 post ls) := h1
  have h2 : G_law_take [.ref pre.length, .int 5] (DS pre b1 post ls) = .ok (.int d2) (DS pre b2 post ls) := h2
  have h3 : G_law_take [.ref pre.length, .int ((min 6 (many - 1 - place) : Nat) : Int)] (DS pre b2 post ls) = .ok (.int d3) (DS pre b3 post ls) := h3
  have em : ∀ st : Sto, gMin [.int 6, .int ((many : Int) - 1 - place)] st = .ok (.int ((min 6 (many - 1 - place) : Nat) : Int)) st := fun st => by
    rw [gMin_2, ← min_nat 6 many place (by omega)]; rfl
  have e : (place : Int) + 1 + d3 = ((place + 1 + d3 : Nat) : Int) := by push_cast; rfl
  refine ⟨.under d1 d2 (place + 1 + d3), b3, hb3, ⟨hd1, by omega, by omega⟩, ?_⟩
  have f := ds_fin (pre := pre) (post := post) (ls := ls) (by omega) b3 (.under d1 d2 (place + 1 + d3))
  simp only [Ln.d] at f
  simp [S_un, V0, ds_il, h1, h2, h3, em, e, f, -Int.natCast_add, -gMin_2]
theorem a_el (hc : ∀ b, Closed (pre ++ bx b :: post)) (hb : okB b) (hpl : place + 1 < many) (hl : ls.length < 1000) : Adds S_el pre post b tops sends takes many place way ls t8 t9 := by
  obtain ⟨d2, b2, hb2, hd2, h2⟩ := LC.tk (ds_cl hc ls) hb 3 (by omega) (by omega)
  have h2 : G_law_take [.ref pre.length, .int 3] (DS pre b post ls) = .ok (.int d2) (DS pre b2 post ls) := h2
  by_cases hz : 0 < d2
  · obtain ⟨d3, b3, hb3, hd3, h3⟩ := LC.tk (ds_cl hc ls) hb2 (min 4 (many - 1 - place)) (by omega) (by omega)
    have h3 : G_law_take [.ref pre.length, .int ((min 4 (many - 1 - place) : Nat) : Int)] (DS pre b2 post ls) = .ok (.int d3) (DS pre b3 post ls) := h3
    have em : ∀ st : Sto, gMin [.int 4, .int ((many : Int) - 1 - place)] st = .ok (.int ((min 4 (many - 1 - place) : Nat) : Int)) st := fun st => by
      rw [gMin_2, ← min_nat 4 many place (by omega)]; rfl
    have e : (place : Int) + 1 + d3 = ((place + 1 + d3 : Nat) : Int) := by push_cast; rfl
    refine ⟨.go (place + 1 + d3), b3, hb3, ⟨by omega, by omega⟩, ?_⟩
    have f := ds_fin (pre := pre) (post := post) (ls := ls) (by omega) b3 (.go (place + 1 + d3))
    simp only [Ln.d] at f
    simp [S_el, V0, ds_il, h2, hz, h3, em, e, f, -Int.natCast_add, -gMin_2]
  · refine ⟨.stop, b2, hb2, trivial, ?_⟩
    have f := ds_fin (pre := pre) (post := post) (ls := ls) (by omega) b2 .stop
    simp only [Ln.d] at f
    simp [S_el, V0, ds_il, h2, hz, f]
theorem d_line (hc : ∀ b, Closed (pre ++ bx b :: post)) (hb : okB b) (hpl : place + 1 < many) (hm : many ≤ 16) (ht : tops.length ≤ 2) (hs : sends ≤ 2) (hl : ls.length = place) (t7 : Option D) :
    ∃ (l : Ln) (b' : Int × Int) (t7' : Option D), okB b' ∧ okL tops.length sends many place l ∧
      L_law_drawn_code_1 (V0 pre post tops sends takes many (some (.int place)) t7 t8 t9) (DS pre b post ls) = .ok (.nx (V0 pre post tops sends takes many (some (.int place)) t7' t8 t9)) (DS pre b' post (ls ++ [l])) := by
  obtain ⟨way, b1, hb1, hway, h1⟩ := LC.tk (ds_cl hc ls) hb 8 (by decide) (by decide)
  have h1 : G_law_take [.ref pre.length, .int 8] (DS pre b post ls) = .ok (.int way) (DS pre b1 post ls) := h1
  rw [L1_eq, seq_nx (e1 := V0 pre post tops sends takes many (some (.int place)) (some (.int way)) t8 t9) (st1 := DS pre b1 post ls) (by simp [V0, h1])]
  have fin : ∀ {S : IS}, Adds S pre post b1 tops sends takes many place way ls t8 t9 → ∃ (l : Ln) (b' : Int × Int) (t7' : Option D), okB b' ∧ okL tops.length sends many place l ∧
      S (V0 pre post tops sends takes many (some (.int place)) (some (.int way)) t8 t9) (DS pre b1 post ls) = .ok (.nx (V0 pre post tops sends takes many (some (.int place)) t7' t8 t9)) (DS pre b' post (ls ++ [l])) := fun ⟨l, b', x1, x2, x3⟩ => ⟨l, b', _, x1, x2, x3⟩
  by_cases c1 : way < 2 ∧ tops ≠ []
  · rw [if_t (by rw [ec1, decide_eq_true c1])]
    exact fin (a_ra hc hb1 c1.2 ht (by omega))
  rw [if_f (by rw [ec1, decide_eq_false c1])]
  by_cases c2 : way = 2 ∧ tops ≠ []
  · rw [if_t (by rw [ec2, decide_eq_true c2])]
    exact fin (a_cl hc hb1 c2.2 ht (by omega))
  rw [if_f (by rw [ec2, decide_eq_false c2])]
  by_cases c3 : way = 3 ∧ 0 < sends
  · rw [if_t (by rw [ec3, decide_eq_true c3])]
    exact fin (a_se hc hb1 c3.2 hs (by omega))
  rw [if_f (by rw [ec3, decide_eq_false c3])]
  by_cases c4 : way < 7 ∧ tops ≠ []
  · rw [if_t (by rw [ec4, decide_eq_true c4])]
    exact fin (a_un hc hb1 c4.2 ht hpl (by omega))
  rw [if_f (by rw [ec4, decide_eq_false c4])]
  exact fin (a_el hc hb1 hpl (by omega))
end
end
end F32
end QI

/-! the law's drawn codes, whole -/
namespace QI
open PySem PySem.Spec PyProof.Rows L2
open LC
namespace F32
section
variable {pre post : Sto} {b : Int × Int}
theorem d_tops (hc : ∀ b, Closed (pre ++ bx b :: post)) (hb : okB b) (e1 e2 e3 e4 e5 e6 e7 : Option D) : ∃ (ts : List Nat) (b' : Int × Int), okB b' ∧ ts.length ≤ 2 ∧ (∀ t ∈ ts, t ≤ 3) ∧
    iComp fRol 16777215 (iWalkC fRange1 (iCons (iCall 2 G_law_take [] (iCons (iVar 0) (iCons (iC (.int 3)) (iNil)))) (iNil))) (.nm 8) (iYes) (iBin gAdd (iC (.int 1)) (iCall 2 G_law_take [] (iCons (iVar 0) (iCons (iC (.int 3)) (iNil))))) [8] [some (.ref pre.length), e1, e2, e3, e4, e5, e6, e7, none, none] (pre ++ bx b :: post) = .ok (.rol (nD ts)) (pre ++ bx b' :: post) := by
  obtain ⟨d, b1, hb1, hd, h1⟩ := LC.tk hc hb 3 (by omega) (by omega)
  have h1 : G_law_take [.ref pre.length, .int 3] (pre ++ bx b :: post) = .ok (.int d) (pre ++ bx b1 :: post) := h1
  obtain ⟨acc, st', h2, ts, b2, hb2, hl, hts, rfl, rfl⟩ := comp_inv0 (wk := wkRange 0 d) (p := .nm 8) (T := iYes) (vs := [8]) (env := [some (.ref pre.length), e1, e2, e3, e4, e5, e6, e7, none, none]) (fin := fRol) (items := rangeD 0 d)
    (A := iBin gAdd (iC (.int 1)) (iCall 2 G_law_take [] (iCons (iVar 0) (iCons (iC (.int 3)) (iNil)))))
    (fun i acc s => ∃ (ts : List Nat) (b' : Int × Int), okB b' ∧ ts.length = i ∧ (∀ t ∈ ts, t ≤ 3) ∧ acc = nD ts ∧ s = pre ++ bx b' :: post)
    (fun i acc s _ => wkRange_at _ _ _ _)
    (fun i z acc s hd h => by
      obtain ⟨ts, b2, hb2, hl, hts, rfl, rfl⟩ := h
      obtain ⟨q, b3, hb3, hq, h3⟩ := LC.tk hc hb2 3 (by omega) (by omega)
      have h3 : G_law_take [.ref pre.length, .int 3] (pre ++ bx b2 :: post) = .ok (.int q) (pre ++ bx b3 :: post) := h3
      have e : (1 : Int) + q = ((1 + q : Nat) : Int) := by push_cast; rfl
      refine ⟨_, rfl, true, _, rfl, .inr ⟨rfl, .int (1 + q : Nat), pre ++ bx b3 :: post, ?_, ts ++ [1 + q], b3, hb3, by simp [hl], ?_, by simp [nD_app], rfl⟩⟩
      · simp [wipeE, h3, e, -Int.natCast_add]
      · intro r hr
        rcases List.mem_append.mp hr with hr | hr
        · exact hts r hr
        · rw [List.mem_singleton] at hr
          omega)
    (n := 16777215) (st := pre ++ bx b1 :: post) (by simp; omega) (by simp; omega) ⟨[], b1, hb1, rfl, by simp, rfl, rfl⟩
  rw [rangeD_len] at hl
  refine ⟨ts, b2, hb2, by omega, hts, ?_⟩
  exact (comp_eq (walkC_eq (ds := [.int (d : Nat)]) (st1 := pre ++ bx b1 :: post) (by simp [h1]) (fRange1_nat (by omega)))).trans h2
theorem d_ent (hc : ∀ b, Closed (pre ++ bx b :: post)) (hb : okB b) {takes many : Nat} (hm : 1 ≤ many ∧ many ≤ 16) (ht : takes ≤ 2) (e1 e2 e5 e6 e7 e8 : Option D) : ∃ (es : List Nat) (b' : Int × Int), okB b' ∧ es.length = takes ∧ (∀ t ∈ es, t < many) ∧
    iComp fRol 16777215 (iWalkC fRange1 (iCons (iVar 3) (iNil))) (.nm 9) (iYes) (iCall 2 G_law_take [] (iCons (iVar 0) (iCons (iVar 4) (iNil)))) [9] [some (.ref pre.length), e1, e2, some (.int takes), some (.int many), e5, e6, e7, e8, none] (pre ++ bx b :: post) = .ok (.rol (nD es)) (pre ++ bx b' :: post) := by
  obtain ⟨acc, st', h2, ts, b2, hb2, hl, hts, rfl, rfl⟩ := comp_inv0 (wk := wkRange 0 takes) (p := .nm 9) (T := iYes) (vs := [9]) (env := [some (.ref pre.length), e1, e2, some (.int takes), some (.int many), e5, e6, e7, e8, none]) (fin := fRol) (items := rangeD 0 takes)
    (A := iCall 2 G_law_take [] (iCons (iVar 0) (iCons (iVar 4) (iNil))))
    (fun i acc s => ∃ (ts : List Nat) (b' : Int × Int), okB b' ∧ ts.length = i ∧ (∀ t ∈ ts, t < many) ∧ acc = nD ts ∧ s = pre ++ bx b' :: post)
    (fun i acc s _ => wkRange_at _ _ _ _)
    (fun i z acc s hd h => by
      obtain ⟨ts, b2, hb2, hl, hts, rfl, rfl⟩ := h
      obtain ⟨q, b3, hb3, hq, h3⟩ := LC.tk hc hb2 many (by omega) (by omega)
      refine ⟨_, rfl, true, _, rfl, .inr ⟨rfl, .int (q : Nat), pre ++ bx b3 :: post, ?_, ts ++ [q], b3, hb3, by simp [hl], ?_, by simp [nD_app], rfl⟩⟩
      · simp [wipeE, h3]
      · intro r hr
        rcases List.mem_append.mp hr with hr | hr
        · exact hts r hr
        · rw [List.mem_singleton] at hr
          omega)
    (n := 16777215) (st := pre ++ bx b :: post) (by simp; omega) (by simp; omega) ⟨[], b, hb, rfl, by simp, rfl, rfl⟩
  rw [rangeD_len] at hl
  refine ⟨ts, b2, hb2, by omega, hts, ?_⟩
  exact (comp_eq (walkC_eq (ds := [.int (takes : Nat)]) (st1 := pre ++ bx b :: post) (by simp) (fRange1_nat (by omega)))).trans h2
theorem okL_ok {c : Cd} {place : Nat} {l : Ln} (h : okL c.tops.length c.sends c.lines.length place l) : l.ok c place := by
  cases l <;> exact h
theorem d_loop (hc : ∀ b, Closed (pre ++ bx b :: post)) (hb : okB b) {tops : List Nat} {sends takes many : Nat} (hm : 1 ≤ many ∧ many ≤ 16) (ht : tops.length ≤ 2) (hs : sends ≤ 2) (t6 t7 t8 t9 : Option D) :
    ∃ (ls : List Ln) (b' : Int × Int) (t6' t7' : Option D), okB b' ∧ ls.length = many - 1 ∧ (∀ (i : Nat) (l : Ln), ls[i]? = some l → okL tops.length sends many i l) ∧
      sFor 16777215 (iWalkC fRange1 (iCons (iBin gSub (iVar 4) (iC (.int 1))) (iNil))) (.nm 6) (L_law_drawn_code_1) (V0 pre post tops sends takes many t6 t7 t8 t9) (DS pre b post []) = .ok (.nx (V0 pre post tops sends takes many t6' t7' t8 t9)) (DS pre b' post ls) := by
  obtain ⟨e', st', h1, ls, b2, t6', t7', hb2, hl, hls, rfl, rfl⟩ := for_inv0 (wk := wkRange 0 (many - 1)) (p := .nm 6) (S := L_law_drawn_code_1) (items := rangeD 0 (many - 1)) (fun i env s => ∃ (ls : List Ln) (b' : Int × Int) (t6 t7 : Option D), okB b' ∧ ls.length = i ∧ (∀ (i : Nat) (l : Ln), ls[i]? = some l → okL tops.length sends many i l) ∧ env = V0 pre post tops sends takes many t6 t7 t8 t9 ∧ s = DS pre b' post ls)
    (fun i env s _ => wkRange_at _ _ _ _)
    (fun i d env s hd h => by
      obtain ⟨ls, b2, t6, t7, hb2, hl, hls, rfl, rfl⟩ := h
      obtain ⟨hi, rfl⟩ := rangeD_get hd
      rw [Int.zero_add]
      obtain ⟨l, b3, t7', hb3, hok, h3⟩ := d_line (t8 := t8) (t9 := t9) (takes := takes) hc hb2 (place := i) (many := many) (by omega) hm.2 ht hs hl t7
      refine ⟨V0 pre post tops sends takes many (some (.int i)) t7 t8 t9, put_nm _ _, _, _, .inl h3, ls ++ [l], b3, _, _, hb3, by simp [hl], ?_, rfl, rfl⟩
      intro j x hx
      by_cases e : j < ls.length
      · rw [List.getElem?_append_left e] at hx
        exact hls j x hx
      · have := lt_of_get hx
        rw [List.length_append, List.length_singleton] at this
        have : j = ls.length := by omega
        subst this
        rw [List.getElem?_append_right (Nat.le_refl _), Nat.sub_self] at hx
        cases hx
        rw [hl]; exact hok)
    (n := 16777215) (env := V0 pre post tops sends takes many t6 t7 t8 t9) (st := DS pre b post []) (by simp; omega) ⟨[], b, t6, t7, hb, rfl, fun i l h => (nomatch h), rfl, rfl⟩
  rw [rangeD_len] at hl
  refine ⟨ls, b2, t6', t7', hb2, hl, hls, ?_⟩
  have e : (many : Int) - 1 = ((many - 1 : Nat) : Int) := by omega
  exact (for_eq (walkC_eq (ds := [.int (many - 1 : Nat)]) (st1 := DS pre b post []) (by simp [V0, e]) (fRange1_nat (by omega)))).trans h1
theorem e_drawn (hc : ∀ b, Closed (pre ++ bx b :: post)) (hb : okB b) : ∃ (c : Cd) (b' : Int × Int), okB b' ∧ c.Dr ∧ c.lines.length ≤ 16 ∧ G_law_drawn_code [.ref pre.length] (pre ++ bx b :: post) = .ok c.d (pre ++ bx b' :: post) := by
  obtain ⟨tops, b1, hb1, ht1, ht2, h1⟩ := d_tops hc hb none none none none none none none
  obtain ⟨sends, b2, hb2, hs, h2⟩ := LC.tk hc hb1 3 (by omega) (by omega)
  obtain ⟨tk, b3, hb3, htk, h3⟩ := LC.tk hc hb2 2 (by omega) (by omega)
  obtain ⟨mn, b4, hb4, hmn, h4⟩ := LC.tk hc hb3 14 (by omega) (by omega)
  have h2 : G_law_take [.ref pre.length, .int 3] (pre ++ bx b1 :: post) = .ok (.int sends) (pre ++ bx b2 :: post) := h2
  have h3 : G_law_take [.ref pre.length, .int 2] (pre ++ bx b2 :: post) = .ok (.int tk) (pre ++ bx b3 :: post) := h3
  have h4 : G_law_take [.ref pre.length, .int 14] (pre ++ bx b3 :: post) = .ok (.int mn) (pre ++ bx b4 :: post) := h4
  obtain ⟨ls, b5, t6, t7, hb5, hl, hls, h5⟩ := d_loop hc hb4 (tops := tops) (sends := sends) (takes := 1 + tk) (many := 3 + mn) (by omega) ht1 (by omega) none none none none
  obtain ⟨es, b6, hb6, he1, he2, h6⟩ := d_ent (ds_cl hc ls) hb5 (takes := 1 + tk) (many := 3 + mn) (by omega) (by omega) (some (.tup (nD tops))) (some (.int sends)) (some (.ref (pre.length + 1 + post.length))) t6 t7 none
  have hd : (⟨tops, sends, es, ls ++ [.stop]⟩ : Cd).Dr := by
    refine ⟨⟨fun i l h => okL_ok ?_, ?_, ?_, ?_, ?_, ?_⟩, ⟨ht1, ht2⟩, ?_, ?_, by show sends ≤ 2; omega⟩
    · show okL tops.length sends (ls ++ [Ln.stop]).length i l
      have hL : (ls ++ [Ln.stop]).length = 3 + mn := by simp; omega
      rw [hL]
      by_cases e : i < ls.length
      · exact hls i l (by rw [← h]; exact (List.getElem?_append_left e).symm)
      · have h' : (ls ++ [Ln.stop])[i]? = some l := h
        have := lt_of_get h'
        rw [hL] at this
        have : i = ls.length := by omega
        subst this
        rw [List.getElem?_append_right (Nat.le_refl _), Nat.sub_self] at h'
        cases h'
        trivial
    · show (ls ++ [Ln.stop])[(ls ++ [Ln.stop]).length - 1]? = some .stop
      simp
    · show 1 ≤ (ls ++ [Ln.stop]).length ∧ (ls ++ [Ln.stop]).length ≤ 1000
      simp; omega
    · intro e he
      show e < (ls ++ [Ln.stop]).length
      have := he2 e he
      simp; omega
    · exact ⟨by show tops.length ≤ 100; omega, fun t h => by have := ht2 t h; omega⟩
    · show sends ≤ 100; omega
    · show 1 ≤ es.length ∧ es.length ≤ 2
      omega
    · show (ls ++ [Ln.stop]).length ≤ 100
      simp; omega
  refine ⟨⟨tops, sends, es, ls ++ [.stop]⟩, b6, hb6, hd, by show (ls ++ [Ln.stop]).length ≤ 16; simp; omega, ?_⟩
  refine run_moved (j := [.lst (ls.map Ln.d)]) (by simp) (hc b6) (by simp [Cd.d, Ln.d, lns_lo]) ?_
  show B_law_drawn_code [some (.ref pre.length), none, none, none, none, none, none, none, none, none] (pre ++ bx b :: post) = _
  unfold B_law_drawn_code
  rw [seq_nx (e1 := [some (.ref pre.length), some (.tup (nD tops)), none, none, none, none, none, none, none, none]) (st1 := pre ++ bx b1 :: post) (by
    rw [ev_sSet, ev_callB, ev_cons, h1]; rfl)]
  have e1 : (1 : Int) + tk = ((1 + tk : Nat) : Int) := by push_cast; rfl
  have e2 : (3 : Int) + mn = ((3 + mn : Nat) : Int) := by push_cast; rfl
  rw [seq_nx (e1 := [some (.ref pre.length), some (.tup (nD tops)), some (.int sends), some (.int (1 + tk : Nat)), some (.int (3 + mn : Nat)), none, none, none, none, none]) (st1 := pre ++ bx b4 :: post) (by
    simp [h2, h3, h4, e1, e2, -Int.natCast_add])]
  have el : (pre ++ bx b4 :: post).length = pre.length + 1 + post.length := by simp; omega
  rw [seq_nx (e1 := V0 pre post tops sends (1 + tk) (3 + mn) none none none none) (st1 := DS pre b4 post []) (by
    simp only [ev_sSet, ev_cell, ev_lst, ev_nil, Rs.bind_ok]
    simp [V0, DS]
    omega)]
  rw [seq_nx h5]
  have hg := ds_get (pre := pre) (post := post) (b := b6) (ls.map Ln.d)
  have ht := gTuple_ref hg
  unfold V0 DS
  rw [ev_sRet, ev_tup]
  simp only [ev_cons, ev_callB, ev_nil, h6, ev_var, Rs.bind_ok, gTuple_rol, List.getElem?_cons_zero, List.getElem?_cons_succ]
  simp only [ev_bin, ev_callB, ev_cons, ev_var, ev_nil, List.getElem?_cons_zero, List.getElem?_cons_succ, Rs.bind_ok, ht]
  have hls2 : ls.length ≤ 16777215 := by omega
  simp [Cd.d, Ln.d, hls2]
end
end F32
end QI

/-! codes with one thing changed -/
namespace QI
open PySem PySem.Spec PyProof.Rows L2
theorem cut_m1 {α : Type} (xs : List α) : cut xs none (some (-1)) = xs.dropLast := by
  unfold cut
  rw [HT.sIx_none]
  have h : HT.sIx xs.length xs.length (some (-1)) = xs.length - 1 := by
    simp only [HT.sIx]
    split <;> omega
  rw [h, List.dropLast_eq_take]
  simp
theorem gAdd_ref {st : Sto} {n : Nat} {xs ys : List D} (h : st[n]? = some (.lst xs)) : gAdd (.ref n) (.rol ys) st = if xs.length + ys.length ≤ 16777216 then .ok (.rol (xs ++ ys)) st else .bad := by
  have h1 : listAt st (.ref n) = some xs := by simp only [listAt, h]
  have h2 : listAt st (.rol ys) = some ys := rfl
  show (match listAt st (.ref n), listAt st (.rol ys) with | some xs, some ys => (if xs.length + ys.length ≤ 16777216 then Rs.ok (D.rol (xs ++ ys)) st else Rs.bad) | _, _ => Rs.bad) = _
  rw [h1, h2]
open LC
namespace F32
noncomputable def BN0 : IS := sAsg (.tp [.nm 2, .nm 3, .nm 4, .nm 5]) (iVar 1)
noncomputable def BN1 : IS := sSet 6 (iCall 2 G_law_take [] (iCons (iVar 0) (iCons (iCallB gLen (iCons (iVar 5) (iNil))) (iNil))))
noncomputable def BN2 : IS := sSet 7 (iCell (iLst (iCons (iVar 1) (iCons (iC .non) (iCons (iTup (iNil)) (iCons (iC (.int 0)) (iCons (iRol (iListOf (iCons (iVar 1) (iNil)))) (iCons (iSl (iVar 1) (oNone) (oSome (iC (.int 3)))) (iCons (iBin gAdd (iVar 1) (iTup (iCons (iC (.int 0)) (iNil)))) (iCons (iTup (iCons (iRol (iListOf (iCons (iVar 2) (iNil)))) (iCons (iVar 3) (iCons (iVar 4) (iCons (iVar 5) (iNil)))))) (iCons (iTup (iCons (iBin gAdd (iVar 2) (iTup (iCons (iC (.int 0)) (iNil)))) (iCons (iVar 3) (iCons (iVar 4) (iCons (iVar 5) (iNil)))))) (iCons (iTup (iCons (iBin gAdd (iVar 2) (iTup (iCons (iC (.int 72)) (iNil)))) (iCons (iVar 3) (iCons (iVar 4) (iCons (iVar 5) (iNil)))))) (iNil)))))))))))))
noncomputable def BN3 : IS := sSet 7 (iCell (iBinL gAdd (iVar 7) (iRol (iLst (iCons (iTup (iCons (iBin gMulA (iTup (iCons (iC (.int 1)) (iNil))) (iC (.int 5))) (iCons (iVar 3) (iCons (iVar 4) (iCons (iVar 5) (iNil)))))) (iCons (iTup (iCons (iTup (iCons (iC (.bl true)) (iNil))) (iCons (iVar 3) (iCons (iVar 4) (iCons (iVar 5) (iNil)))))) (iCons (iTup (iCons (iVar 2) (iCons (iC (.int 5)) (iCons (iVar 4) (iCons (iVar 5) (iNil)))))) (iCons (iTup (iCons (iVar 2) (iCons (iC .non) (iCons (iVar 4) (iCons (iVar 5) (iNil)))))) (iCons (iTup (iCons (iVar 2) (iCons (iVar 3) (iCons (iTup (iNil)) (iCons (iVar 5) (iNil)))))) (iNil))))))))))
noncomputable def BN4 : IS := sSet 7 (iCell (iBinL gAdd (iVar 7) (iRol (iLst (iCons (iTup (iCons (iVar 2) (iCons (iVar 3) (iCons (iBin gMulA (iTup (iCons (iC (.int 0)) (iNil))) (iC (.int 4))) (iCons (iVar 5) (iNil)))))) (iCons (iTup (iCons (iVar 2) (iCons (iVar 3) (iCons (iTup (iCons (iCallB gLen (iCons (iVar 5) (iNil))) (iNil))) (iCons (iVar 5) (iNil)))))) (iCons (iTup (iCons (iVar 2) (iCons (iVar 3) (iCons (iRol (iLst (iCons (iC (.int 0)) (iNil)))) (iCons (iVar 5) (iNil)))))) (iNil))))))))
noncomputable def BN5 : IS := sSet 7 (iCell (iBinL gAdd (iVar 7) (iRol (iLst (iCons (iTup (iCons (iVar 2) (iCons (iVar 3) (iCons (iVar 4) (iCons (iTup (iNil)) (iNil)))))) (iCons (iTup (iCons (iVar 2) (iCons (iVar 3) (iCons (iVar 4) (iCons (iRol (iListOf (iCons (iVar 5) (iNil)))) (iNil)))))) (iCons (iTup (iCons (iVar 2) (iCons (iVar 3) (iCons (iVar 4) (iCons (iSl (iVar 5) (oNone) (oSome (iUn gNeg (iC (.int 1))))) (iNil)))))) (iNil))))))))
noncomputable def BN6 : IS := sSet 8 (iRol (iLst (iCons (iTup (iCons (iC (.str (Str.ofString "raise"))) (iCons (iCallB gLen (iCons (iVar 2) (iNil))) (iCons (iC (.int 1)) (iNil))))) (iCons (iTup (iCons (iC (.str (Str.ofString "raise"))) (iCons (iC (.int 0)) (iCons (iC (.int 1000)) (iNil))))) (iCons (iTup (iCons (iC (.str (Str.ofString "clear"))) (iNil))) (iCons (iTup (iCons (iC (.str (Str.ofString "send"))) (iCons (iVar 3) (iCons (iC (.int 1)) (iNil))))) (iCons (iTup (iCons (iC (.str (Str.ofString "under"))) (iCons (iC (.int 0)) (iCons (iC (.int 1)) (iCons (iVar 6) (iNil)))))) (iCons (iTup (iCons (iC (.str (Str.ofString "go"))) (iCons (iVar 6) (iNil)))) (iCons (iTup (iCons (iC (.str (Str.ofString "go"))) (iCons (iCallB gLen (iCons (iVar 5) (iNil))) (iNil)))) (iNil))))))))))
noncomputable def BN7 : IS := sFor 16777215 (iWalk (iBin gAdd (iVar 8) (iRol (iLst (iCons (iTup (iCons (iC (.str (Str.ofString "stop"))) (iCons (iC (.int 0)) (iNil)))) (iCons (iRol (iLst (iCons (iC (.str (Str.ofString "stop"))) (iNil)))) (iCons (iTup (iCons (iC (.str (Str.ofString "halt"))) (iNil))) (iCons (iTup (iCons (iC (.int 0)) (iNil))) (iCons (iC .non) (iCons (iTup (iNil)) (iCons (iTup (iCons (iC (.str (Str.ofString "go"))) (iCons (iC (.bl true)) (iNil)))) (iNil)))))))))))) (.nm 9) (L_law_bent_1)
theorem BN_eq : B_law_bent = (sSeq BN0 (sSeq BN1 (sSeq BN2 (sSeq BN3 (sSeq BN4 (sSeq BN5 (sSeq BN6 (sSeq BN7 (sRet (iVar 7)))))))))) := rfl
def cdD (ts : List D) (s : D) (es ls : List D) : D := .tup [.tup ts, s, .tup es, .tup ls]
def W4 (t s e l : D) : D := .tup [t, s, e, l]
def X1 (ts : List D) (s : D) (es ls : List D) : List D := [cdD ts s es ls, .non, .tup [], .int 0, .rol [.tup ts, s, .tup es, .tup ls], .tup [.tup ts, s, .tup es], .tup [.tup ts, s, .tup es, .tup ls, .int 0], W4 (.rol ts) s (.tup es) (.tup ls), W4 (.tup (ts ++ [.int 0])) s (.tup es) (.tup ls), W4 (.tup (ts ++ [.int 72])) s (.tup es) (.tup ls)]
def X2 (ts : List D) (s : D) (es ls : List D) : List D := [W4 (.tup [.int 1, .int 1, .int 1, .int 1, .int 1]) s (.tup es) (.tup ls), W4 (.tup [.bl true]) s (.tup es) (.tup ls), W4 (.tup ts) (.int 5) (.tup es) (.tup ls), W4 (.tup ts) .non (.tup es) (.tup ls), W4 (.tup ts) s (.tup []) (.tup ls)]
def X3 (ts : List D) (s : D) (es ls : List D) : List D := [W4 (.tup ts) s (.tup [.int 0, .int 0, .int 0, .int 0]) (.tup ls), W4 (.tup ts) s (.tup [.int ls.length]) (.tup ls), W4 (.tup ts) s (.rol [.int 0]) (.tup ls)]
def X4 (ts : List D) (s : D) (es ls : List D) : List D := [W4 (.tup ts) s (.tup es) (.tup []), W4 (.tup ts) s (.tup es) (.rol ls), W4 (.tup ts) s (.tup es) (.tup ls.dropLast)]
def X5 (ts : List D) (s : D) (n at' : Nat) : List D := [.tup [.str (Str.ofString "raise"), .int ts.length, .int 1], .tup [.str (Str.ofString "raise"), .int 0, .int 1000], .tup [.str (Str.ofString "clear")], .tup [.str (Str.ofString "send"), s, .int 1], .tup [.str (Str.ofString "under"), .int 0, .int 1, .int at'], .tup [.str (Str.ofString "go"), .int at'], .tup [.str (Str.ofString "go"), .int n]]
def X6 : List D := [.tup [.str (Str.ofString "stop"), .int 0], .rol [.str (Str.ofString "stop")], .tup [.str (Str.ofString "halt")], .tup [.int 0], .non, .tup [], .tup [.str (Str.ofString "go"), .bl true]]
def Y (ts : List D) (s : D) (es ls : List D) (at' : Nat) (bad : D) : D := W4 (.tup ts) s (.tup es) (.tup (ls.take at' ++ [bad] ++ ls.drop (at' + 1)))
section
variable {ts es ls : List D} {s : D}
variable {st : Sto} {n : Nat}
def bEnv (n : Nat) (ts : List D) (s : D) (es ls : List D) (v6 v7 v8 v9 : Option D) : Ev := [some (.ref n), some (cdD ts s es ls), some (.tup ts), some s, some (.tup es), some (.tup ls), v6, v7, v8, v9]
theorem b_2 (hn : ls.length < 1000) (hts : ts.length < 1000) (v6 v7 v8 v9 : Option D) : BN2 (bEnv n ts s es ls v6 v7 v8 v9) st = .ok (.nx (bEnv n ts s es ls v6 (some (.ref st.length)) v8 v9)) (st ++ [.lst (X1 ts s es ls)]) := by
  have h3 : cut [D.tup ts, s, D.tup es, D.tup ls] none (some (3 : Int)) = [D.tup ts, s, D.tup es] := cut_to _ 3
  have k1 : ts.length + 1 ≤ 16777216 := by omega
  simp [BN2, bEnv, cdD, h3, seqAt, X1, W4, k1]
theorem b_3 (hn : ls.length < 1000) {k : Nat} (hk : st[k]? = some (.lst (X1 ts s es ls))) (v6 v8 v9 : Option D) : BN3 (bEnv n ts s es ls v6 (some (.ref k)) v8 v9) st = .ok (.nx (bEnv n ts s es ls v6 (some (.ref st.length)) v8 v9)) (st ++ [.lst (X1 ts s es ls ++ X2 ts s es ls)]) := by
  have hm : gMulT (.tup [.int 1]) (.int 5) st = .ok (.tup [.int 1, .int 1, .int 1, .int 1, .int 1]) st := rfl
  have ha := gAdd_ref (ys := X2 ts s es ls) hk
  rw [if_pos (by simp [X1, X2])] at ha
  have hf : fLst gAdd (.ref k) (.rol (X2 ts s es ls)) st = .ok (X1 ts s es ls ++ X2 ts s es ls) st := by unfold fLst; rw [ha]
  unfold X2 W4 at hf
  simp [BN3, bEnv, hm, hf]
  simp [X2, W4]
theorem b_4 (hn : ls.length < 1000) {k : Nat} (hk : st[k]? = some (.lst (X1 ts s es ls ++ X2 ts s es ls))) (v6 v8 v9 : Option D) : BN4 (bEnv n ts s es ls v6 (some (.ref k)) v8 v9) st = .ok (.nx (bEnv n ts s es ls v6 (some (.ref st.length)) v8 v9)) (st ++ [.lst (X1 ts s es ls ++ X2 ts s es ls ++ X3 ts s es ls)]) := by
  have hm : gMulT (.tup [.int 0]) (.int 4) st = .ok (.tup [.int 0, .int 0, .int 0, .int 0]) st := rfl
  have ha := gAdd_ref (ys := X3 ts s es ls) hk
  rw [if_pos (by simp [X1, X2, X3])] at ha
  have hf : fLst gAdd (.ref k) (.rol (X3 ts s es ls)) st = .ok (X1 ts s es ls ++ X2 ts s es ls ++ X3 ts s es ls) st := by unfold fLst; rw [ha]
  unfold X3 W4 at hf
  simp [BN4, bEnv, hm, hf]
  simp [X3, W4]
theorem b_5 (hn : ls.length < 1000) {k : Nat} (hk : st[k]? = some (.lst (X1 ts s es ls ++ X2 ts s es ls ++ X3 ts s es ls))) (v6 v8 v9 : Option D) : BN5 (bEnv n ts s es ls v6 (some (.ref k)) v8 v9) st = .ok (.nx (bEnv n ts s es ls v6 (some (.ref st.length)) v8 v9)) (st ++ [.lst (X1 ts s es ls ++ X2 ts s es ls ++ X3 ts s es ls ++ X4 ts s es ls)]) := by
  have ha := gAdd_ref (ys := X4 ts s es ls) hk
  rw [if_pos (by simp [X1, X2, X3, X4])] at ha
  have hf : fLst gAdd (.ref k) (.rol (X4 ts s es ls)) st = .ok (X1 ts s es ls ++ X2 ts s es ls ++ X3 ts s es ls ++ X4 ts s es ls) st := by unfold fLst; rw [ha]
  unfold X4 W4 at hf
  have hc := cut_m1 ls
  simp [BN5, bEnv, hc, seqAt, hf]
  simp [X4, W4]
theorem b_6 (hn : ls.length < 1000) (at' : Nat) (v7 v8 v9 : Option D) : BN6 (bEnv n ts s es ls (some (.int at')) v7 v8 v9) st = .ok (.nx (bEnv n ts s es ls (some (.int at')) v7 (some (.rol (X5 ts s ls.length at'))) v9)) st := by
  simp [BN6, bEnv, X5]
end
end F32
end QI

/-! codes with one thing changed, whole -/
namespace QI
open PySem PySem.Spec PyProof.Rows L2
theorem run_far {N : List Str} {B : IS} {ds : List D} {st st' : Sto} {d : D} (hno : d.lo st.length = false) (hl : st.length ≤ st'.length) (hd : d.lo st'.length = true) (hc : Closed st') (h : B (startE N ds) st = .ok (.rt d) st') : run N B ds st = .ok d st' := by
  unfold run
  rw [h]
  show trim st _ _ = _
  unfold trim
  rw [if_neg (by simp [hno]), if_pos ⟨hl, hd, hc⟩]
open LC
namespace F32
theorem vt {n : Nat} {xs : List D} (hl : xs.length < 10000) (h : ∀ x ∈ xs, Vl n x) : Vl (n + 1) (.tup xs) := .inr ⟨xs, .inl rfl, hl, h⟩
theorem vr {n : Nat} {xs : List D} (hl : xs.length < 10000) (h : ∀ x ∈ xs, Vl n x) : Vl (n + 1) (.rol xs) := .inr ⟨xs, .inr rfl, hl, h⟩
theorem v_w4 {n : Nat} {t s e l : D} (h1 : Vl n t) (h2 : Vl n s) (h3 : Vl n e) (h4 : Vl n l) : Vl (n + 1) (W4 t s e l) := vt (by simp) (fun x hx => by
  simp only [List.mem_cons, List.not_mem_nil, or_false] at hx
  rcases hx with rfl | rfl | rfl | rfl <;> assumption)
section
variable {ts es ls : List D} {s : D}
/-- the parts of a code -/
structure Pt4 (ts : List D) (s : D) (es ls : List D) : Prop where
  t : ts.length < 100 ∧ ∀ x ∈ ts, Vl 5 x
  s : Vl 5 s
  e : es.length < 100 ∧ ∀ x ∈ es, Vl 5 x
  l : ls.length < 1000 ∧ ∀ x ∈ ls, Vl 5 x
theorem Pt4.vt' (h : Pt4 ts s es ls) : Vl 6 (.tup ts) := vt (by have := h.t.1; omega) h.t.2
theorem Pt4.ve (h : Pt4 ts s es ls) : Vl 6 (.tup es) := vt (by have := h.e.1; omega) h.e.2
theorem Pt4.vl (h : Pt4 ts s es ls) : Vl 6 (.tup ls) := vt (by have := h.l.1; omega) h.l.2
theorem Pt4.vs (h : Pt4 ts s es ls) : Vl 6 s := Vl.up h.s (by omega)
theorem v_ints {n : Nat} {xs : List D} (hl : xs.length < 10000) (h : ∀ x ∈ xs, x.atom = true) : Vl (n + 1) (.tup xs) := vt hl fun x hx => Vl.at (h x hx)
theorem v_x1 (h : Pt4 ts s es ls) : ∀ x ∈ X1 ts s es ls, Vl 7 x := by
  have a := h.vt'; have b := h.ve; have c := h.vl; have d := h.vs
  have add : ∀ i : Int, Vl 6 (.tup (ts ++ [.int i])) := fun i => vt (by have := h.t.1; simp; omega) (fun x hx => by
    rcases List.mem_append.mp hx with hx | hx
    · exact h.t.2 x hx
    · rw [List.mem_singleton] at hx; subst hx; exact Vl.at rfl)
  intro x hx
  simp only [X1, List.mem_cons, List.not_mem_nil, or_false] at hx
  rcases hx with rfl | rfl | rfl | rfl | rfl | rfl | rfl | rfl | rfl | rfl
  · exact v_w4 a d b c
  · exact Vl.at rfl
  · exact vt (by simp) (fun x hx => nomatch hx)
  · exact Vl.at rfl
  · exact vr (by simp) (fun x hx => by
      simp only [List.mem_cons, List.not_mem_nil, or_false] at hx
      rcases hx with rfl | rfl | rfl | rfl <;> assumption)
  · exact vt (by simp) (fun x hx => by
      simp only [List.mem_cons, List.not_mem_nil, or_false] at hx
      rcases hx with rfl | rfl | rfl <;> assumption)
  · exact vt (by simp) (fun x hx => by
      simp only [List.mem_cons, List.not_mem_nil, or_false] at hx
      rcases hx with rfl | rfl | rfl | rfl | rfl <;> first | assumption | exact Vl.at rfl)
  · exact v_w4 (vr (by have := h.t.1; omega) h.t.2) d b c
  · exact v_w4 (add 0) d b c
  · exact v_w4 (add 72) d b c
theorem v_x2 (h : Pt4 ts s es ls) : ∀ x ∈ X2 ts s es ls, Vl 7 x := by
  have a := h.vt'; have b := h.ve; have c := h.vl; have d := h.vs
  intro x hx
  simp only [X2, List.mem_cons, List.not_mem_nil, or_false] at hx
  rcases hx with rfl | rfl | rfl | rfl | rfl
  · exact v_w4 (v_ints (by simp) (by decide +kernel)) d b c
  · exact v_w4 (v_ints (by simp) (by decide +kernel)) d b c
  · exact v_w4 a (Vl.at rfl) b c
  · exact v_w4 a (Vl.at rfl) b c
  · exact v_w4 a d (v_ints (by simp) (by decide +kernel)) c
theorem v_x3 (h : Pt4 ts s es ls) : ∀ x ∈ X3 ts s es ls, Vl 7 x := by
  have a := h.vt'; have b := h.ve; have c := h.vl; have d := h.vs
  intro x hx
  simp only [X3, List.mem_cons, List.not_mem_nil, or_false] at hx
  rcases hx with rfl | rfl | rfl
  · exact v_w4 a d (v_ints (by simp) (by decide +kernel)) c
  · exact v_w4 a d (v_ints (by simp) (by intro x hx; rw [List.mem_singleton] at hx; subst hx; rfl)) c
  · exact v_w4 a d (vr (by simp) (fun x hx => by rw [List.mem_singleton] at hx; subst hx; exact Vl.at rfl)) c
theorem v_x4 (h : Pt4 ts s es ls) : ∀ x ∈ X4 ts s es ls, Vl 7 x := by
  have a := h.vt'; have b := h.ve; have c := h.vl; have d := h.vs
  intro x hx
  simp only [X4, List.mem_cons, List.not_mem_nil, or_false] at hx
  rcases hx with rfl | rfl | rfl
  · exact v_w4 a d b (v_ints (by simp) (by decide +kernel))
  · exact v_w4 a d b (vr (by have := h.l.1; omega) h.l.2)
  · exact v_w4 a d b (vt (by have := h.l.1; simp; omega) (fun x hx => by rw [List.dropLast_eq_take] at hx; exact h.l.2 x (List.mem_of_mem_take hx)))
theorem at_w : (D.str (Str.ofString "raise")).atom = true ∧ (D.str (Str.ofString "clear")).atom = true ∧ (D.str (Str.ofString "send")).atom = true ∧ (D.str (Str.ofString "under")).atom = true ∧ (D.str (Str.ofString "go")).atom = true ∧ (D.str (Str.ofString "stop")).atom = true ∧ (D.str (Str.ofString "halt")).atom = true := by decide +kernel
theorem v_x5 (hs : s.atom = true) (n at' : Nat) : ∀ x ∈ X5 ts s n at', Vl 5 x := by
  obtain ⟨w1, w2, w3, w4, w5, w6, w7⟩ := at_w
  intro x hx
  simp only [X5, List.mem_cons, List.not_mem_nil, or_false] at hx
  rcases hx with rfl | rfl | rfl | rfl | rfl | rfl | rfl <;> refine v_ints (by simp) fun x hx => ?_ <;> simp only [List.mem_cons, List.not_mem_nil, or_false] at hx
  · rcases hx with rfl | rfl | rfl <;> first | assumption | rfl
  · rcases hx with rfl | rfl | rfl <;> first | assumption | rfl
  · subst hx; assumption
  · rcases hx with rfl | rfl | rfl <;> first | assumption | rfl
  · rcases hx with rfl | rfl | rfl | rfl <;> first | assumption | rfl
  · rcases hx with rfl | rfl <;> first | assumption | rfl
  · rcases hx with rfl | rfl <;> first | assumption | rfl
theorem v_x6 : ∀ x ∈ X6, Vl 5 x := by
  obtain ⟨w1, w2, w3, w4, w5, w6, w7⟩ := at_w
  intro x hx
  simp only [X6, List.mem_cons, List.not_mem_nil, or_false] at hx
  rcases hx with rfl | rfl | rfl | rfl | rfl | rfl | rfl
  · exact v_ints (by simp) (by intro x hx; simp only [List.mem_cons, List.not_mem_nil, or_false] at hx; rcases hx with rfl | rfl <;> first | assumption | rfl)
  · exact vr (by simp) (fun x hx => by rw [List.mem_singleton] at hx; subst hx; exact Vl.at w6)
  · exact v_ints (by simp) (by intro x hx; rw [List.mem_singleton] at hx; subst hx; exact w7)
  · exact v_ints (by simp) (by intro x hx; rw [List.mem_singleton] at hx; subst hx; rfl)
  · exact Vl.at rfl
  · exact v_ints (by simp) (fun x hx => nomatch hx)
  · exact v_ints (by simp) (by intro x hx; simp only [List.mem_cons, List.not_mem_nil, or_false] at hx; rcases hx with rfl | rfl <;> first | assumption | rfl)
theorem v_y (h : Pt4 ts s es ls) {bad : D} (hb : Vl 5 bad) (at' : Nat) : Vl 7 (Y ts s es ls at' bad) := by
  have a := h.vt'; have b := h.ve; have d := h.vs
  refine v_w4 a d b (vt ?_ fun x hx => ?_)
  · have := h.l.1
    simp
    omega
  · rcases List.mem_append.mp hx with hx | hx
    · rcases List.mem_append.mp hx with hx | hx
      · exact h.l.2 x (List.mem_of_mem_take hx)
      · rw [List.mem_singleton] at hx; subst hx; exact hb
    · exact h.l.2 x (List.mem_of_mem_drop hx)
def XA (ts : List D) (s : D) (es ls : List D) : List D := X1 ts s es ls ++ X2 ts s es ls ++ X3 ts s es ls ++ X4 ts s es ls
def XX (ts : List D) (s : D) (es ls : List D) (at' : Nat) : List D := XA ts s es ls ++ (X5 ts s ls.length at' ++ X6).map (Y ts s es ls at')
theorem v_xa (h : Pt4 ts s es ls) : ∀ x ∈ XA ts s es ls, Vl 7 x := by
  intro x hx
  simp only [XA, List.mem_append] at hx
  rcases hx with ((hx | hx) | hx) | hx
  · exact v_x1 h x hx
  · exact v_x2 h x hx
  · exact v_x3 h x hx
  · exact v_x4 h x hx
theorem v_xx (h : Pt4 ts s es ls) (hs : s.atom = true) (at' : Nat) : ∀ x ∈ XX ts s es ls at', Vl 7 x := by
  intro x hx
  rcases List.mem_append.mp hx with hx | hx
  · exact v_xa h x hx
  · obtain ⟨bad, hb, rfl⟩ := List.mem_map.mp hx
    rcases List.mem_append.mp hb with hb | hb
    · exact v_y h (v_x5 hs _ _ bad hb) at'
    · exact v_y h (v_x6 bad hb) at'
theorem xx_len (at' : Nat) : (XX ts s es ls at').length = 35 := by simp [XX, XA, X1, X2, X3, X4, X5, X6]
theorem v_loA {n : Nat} {xs : List D} (h : ∀ x ∈ xs, Vl n x) (k : Nat) : D.loAll k xs = true := loAll_iff.mpr fun x hx => (h x hx).lo _ _ k
/-- the store while bent codes are gathered -/
def QS (st : Sto) (b : Int × Int) (ts : List D) (s : D) (es ls : List D) (acc : List D) : Sto := (st ++ [bx b] ++ [.lst (X1 ts s es ls)] ++ [.lst (X1 ts s es ls ++ X2 ts s es ls)] ++ [.lst (X1 ts s es ls ++ X2 ts s es ls ++ X3 ts s es ls)]) ++ [.lst acc]
theorem qs_closed {st : Sto} {b : Int × Int} (hc : Closed st) (h : Pt4 ts s es ls) {acc : List D} (ha : ∀ x ∈ acc, Vl 7 x) : Closed (QS st b ts s es ls acc) := by
  refine closed_end (closed_end (closed_end (closed_end (closed_end hc (by simp)) (v_loA (v_x1 h) _)) (v_loA (n := 7) ?_ _)) (v_loA (n := 7) ?_ _)) (v_loA ha _)
  · intro x hx
    rcases List.mem_append.mp hx with hx | hx
    · exact v_x1 h x hx
    · exact v_x2 h x hx
  · intro x hx
    rcases List.mem_append.mp hx with hx | hx
    · rcases List.mem_append.mp hx with hx | hx
      · exact v_x1 h x hx
      · exact v_x2 h x hx
    · exact v_x3 h x hx
theorem qs_len {st : Sto} {b : Int × Int} {acc : List D} : (QS st b ts s es ls acc).length = st.length + 5 := by simp [QS]
theorem qs_get {st : Sto} {b : Int × Int} {acc : List D} : (QS st b ts s es ls acc)[st.length + 4]? = some (.lst acc) := by
  have : (st ++ [bx b] ++ [.lst (X1 ts s es ls)] ++ [.lst (X1 ts s es ls ++ X2 ts s es ls)] ++ [.lst (X1 ts s es ls ++ X2 ts s es ls ++ X3 ts s es ls)] : Sto).length = st.length + 4 := by simp
  unfold QS
  rw [List.getElem?_append_right (by omega), this, Nat.sub_self]
  rfl
theorem qs_set {st : Sto} {b : Int × Int} {acc xs : List D} : setL (QS st b ts s es ls acc) (st.length + 4) xs = QS st b ts s es ls xs := by
  have : (st ++ [bx b] ++ [.lst (X1 ts s es ls)] ++ [.lst (X1 ts s es ls ++ X2 ts s es ls)] ++ [.lst (X1 ts s es ls ++ X2 ts s es ls ++ X3 ts s es ls)] : Sto).length = st.length + 4 := by simp
  unfold QS setL
  rw [List.set_append_right _ _ (by omega), this, Nat.sub_self]
  rfl
theorem b_step {st : Sto} {b : Int × Int} {acc : List D} {at' n : Nat} (hl : ls.length < 1000) (ha : acc.length < 1000) (bad : D) (v8 : Option D) : L_law_bent_1 (bEnv n ts s es ls (some (.int at')) (some (.ref (st.length + 4))) v8 (some bad)) (QS st b ts s es ls acc) = .ok (.nx (bEnv n ts s es ls (some (.int at')) (some (.ref (st.length + 4))) v8 (some bad))) (QS st b ts s es ls (acc ++ [Y ts s es ls at' bad])) := by
  have hap : gAppend (.ref (st.length + 4)) [Y ts s es ls at' bad] (QS st b ts s es ls acc) = .ok .non (QS st b ts s es ls (acc ++ [Y ts s es ls at' bad])) := by
    rw [gAppend_at qs_get (by omega), qs_set]
  have hil : isLst (QS st b ts s es ls acc) (.ref (st.length + 4)) = true := isLst_ref qs_get
  have h1 := cut_to ls at'
  have h2 : cut ls (some ((at' : Int) + 1)) none = ls.drop (at' + 1) := by
    have := cut_from ls (at' + 1)
    push_cast at this
    exact this
  have k1 : (ls.take at').length + 1 ≤ 16777216 := by simp; omega
  have k2 : (ls.take at').length + 1 + (ls.drop (at' + 1)).length ≤ 16777216 := by simp; omega
  unfold Y W4 at hap
  unfold L_law_bent_1
  have ev : iTup (iCons (iVar 2) (iCons (iVar 3) (iCons (iVar 4) (iCons (iBin gAdd (iBin gAdd (iSl (iVar 5) (oNone) (oSome (iVar 6))) (iTup (iCons (iVar 9) (iNil)))) (iSl (iVar 5) (oSome (iBin gAdd (iVar 6) (iC (.int 1)))) (oNone))) (iNil))))) (bEnv n ts s es ls (some (.int at')) (some (.ref (st.length + 4))) v8 (some bad)) (QS st b ts s es ls acc) = .ok (.tup [.tup ts, s, .tup es, .tup (ls.take at' ++ [bad] ++ ls.drop (at' + 1))]) (QS st b ts s es ls acc) := by
    have e1 : iBin gAdd (iSl (iVar 5) (oNone) (oSome (iVar 6))) (iTup (iCons (iVar 9) (iNil))) (bEnv n ts s es ls (some (.int at')) (some (.ref (st.length + 4))) v8 (some bad)) (QS st b ts s es ls acc) = .ok (.tup (ls.take at' ++ [bad])) (QS st b ts s es ls acc) := by
      simp only [List.length_take] at k1
      simp [bEnv, h1, k1]
    have e2 : iSl (iVar 5) (oSome (iBin gAdd (iVar 6) (iC (.int 1)))) (oNone) (bEnv n ts s es ls (some (.int at')) (some (.ref (st.length + 4))) v8 (some bad)) (QS st b ts s es ls acc) = .ok (.tup (ls.drop (at' + 1))) (QS st b ts s es ls acc) := by
      simp [bEnv, h2]
    have e3 : iBin gAdd (iBin gAdd (iSl (iVar 5) (oNone) (oSome (iVar 6))) (iTup (iCons (iVar 9) (iNil)))) (iSl (iVar 5) (oSome (iBin gAdd (iVar 6) (iC (.int 1)))) (oNone)) (bEnv n ts s es ls (some (.int at')) (some (.ref (st.length + 4))) v8 (some bad)) (QS st b ts s es ls acc) = .ok (.tup (ls.take at' ++ [bad] ++ ls.drop (at' + 1))) (QS st b ts s es ls acc) := by
      rw [ev_bin, e1]
      simp only [Rs.bind_ok, e2, gAdd_tup]
      rw [if_pos (by simp; omega)]
    unfold bEnv at e3 ⊢
    simp [-ev_bin, -ev_sl, e3]
  unfold bEnv at ev ⊢
  simp only [List.append_assoc, List.cons_append, List.nil_append] at ev hap
  simp [-ev_tup, ev, hil, hap]
  simp [Y, W4]
theorem e_bent {st : Sto} {b : Int × Int} (hc : Closed st) (hb : okB b) (h : Pt4 ts s es ls) (hs : s.atom = true) (hl0 : 1 ≤ ls.length) : ∃ (b' : Int × Int) (at' : Nat), okB b' ∧
    G_law_bent [.ref st.length, cdD ts s es ls] (st ++ [bx b]) = .ok (.ref (st.length + 4)) (QS st b' ts s es ls (XX ts s es ls at')) := by
  have hl := h.l.1
  obtain ⟨at', b1, hb1, hat, h1⟩ := LC.tk (post := []) (fun b => closed_end hc (by simp)) hb ls.length hl0 (by omega)
  refine ⟨b1, at', hb1, run_far (by simp) (by rw [qs_len]; simp) (by rw [qs_len]; simp) (qs_closed hc h (v_xx h hs at')) ?_⟩
  show B_law_bent [some (.ref st.length), some (cdD ts s es ls), none, none, none, none, none, none, none, none] (st ++ [bx b]) = _
  rw [BN_eq]
  rw [seq_nx (e1 := bEnv st.length ts s es ls none none none none) (st1 := st ++ [bx b]) (by simp [BN0, bEnv, cdD])]
  rw [seq_nx (e1 := bEnv st.length ts s es ls (some (.int at')) none none none) (st1 := st ++ [bx b1]) (by simp [BN1, bEnv, h1])]
  rw [seq_nx (b_2 (ts := ts) (s := s) (es := es) (st := st ++ [bx b1]) hl (by have := h.t.1; omega) _ _ _ _)]
  rw [seq_nx (b_3 (ts := ts) (s := s) (es := es) (st := st ++ [bx b1] ++ [Cell.lst (X1 ts s es ls)]) hl (k := (st ++ [bx b1]).length) (by simp) _ _ _)]
  rw [seq_nx (b_4 (ts := ts) (s := s) (es := es) (st := st ++ [bx b1] ++ [Cell.lst (X1 ts s es ls)] ++ [Cell.lst (X1 ts s es ls ++ X2 ts s es ls)]) hl (k := (st ++ [bx b1] ++ [Cell.lst (X1 ts s es ls)] : Sto).length) (by rw [List.getElem?_append_right (Nat.le_refl _)]; simp) _ _ _)]
  rw [seq_nx (b_5 (ts := ts) (s := s) (es := es) (st := st ++ [bx b1] ++ [Cell.lst (X1 ts s es ls)] ++ [Cell.lst (X1 ts s es ls ++ X2 ts s es ls)] ++ [Cell.lst (X1 ts s es ls ++ X2 ts s es ls ++ X3 ts s es ls)]) hl (k := (st ++ [bx b1] ++ [Cell.lst (X1 ts s es ls)] ++ [Cell.lst (X1 ts s es ls ++ X2 ts s es ls)] : Sto).length) (by rw [List.getElem?_append_right (Nat.le_refl _)]; simp) _ _ _)]
  rw [seq_nx (b_6 hl at' _ _ _)]
  have hlen : (st ++ [bx b1] ++ [Cell.lst (X1 ts s es ls)] ++ [Cell.lst (X1 ts s es ls ++ X2 ts s es ls)] ++ [Cell.lst (X1 ts s es ls ++ X2 ts s es ls ++ X3 ts s es ls)] : Sto).length = st.length + 4 := by simp
  rw [hlen]
  obtain ⟨e', st', h2, ⟨v9, rfl⟩, rfl⟩ := for_inv0 (wk := wkSeq (X5 ts s ls.length at' ++ X6)) (p := .nm 9) (S := L_law_bent_1) (items := X5 ts s ls.length at' ++ X6) (fun i env sx => (∃ v9, env = bEnv st.length ts s es ls (some (.int at')) (some (.ref (st.length + 4))) (some (.rol (X5 ts s ls.length at'))) v9) ∧ sx = QS st b1 ts s es ls (XA ts s es ls ++ ((X5 ts s ls.length at' ++ X6).take i).map (Y ts s es ls at')))
    (fun i env s _ => wkSeq_at _ _ _)
    (fun i bad env sx hd hh => by
      obtain ⟨⟨v9, rfl⟩, rfl⟩ := hh
      refine ⟨bEnv st.length ts s es ls (some (.int at')) (some (.ref (st.length + 4))) (some (.rol (X5 ts s ls.length at'))) (some bad), by simp [bEnv, put_nm], _, _, .inl (b_step hl ?_ bad _), ⟨_, rfl⟩, ?_⟩
      · have : i ≤ 14 := by have := lt_of_get hd; simp [X5, X6] at this; omega
        simp [XA, X1, X2, X3, X4, X5, X6]; omega
      · rw [List.take_add_one, hd]
        simp)
    (n := 16777215) (env := bEnv st.length ts s es ls (some (.int at')) (some (.ref (st.length + 4))) (some (.rol (X5 ts s ls.length at'))) none) (st := QS st b1 ts s es ls (XA ts s es ls)) (by simp [X5, X6]) ⟨⟨none, rfl⟩, by simp⟩
  rw [List.take_length] at h2
  have hw : iWalk (iBin gAdd (iVar 8) (iRol (iLst (iCons (iTup (iCons (iC (.str (Str.ofString "stop"))) (iCons (iC (.int 0)) (iNil)))) (iCons (iRol (iLst (iCons (iC (.str (Str.ofString "stop"))) (iNil)))) (iCons (iTup (iCons (iC (.str (Str.ofString "halt"))) (iNil))) (iCons (iTup (iCons (iC (.int 0)) (iNil))) (iCons (iC .non) (iCons (iTup (iNil)) (iCons (iTup (iCons (iC (.str (Str.ofString "go"))) (iCons (iC (.bl true)) (iNil)))) (iNil))))))))))) (bEnv st.length ts s es ls (some (.int at')) (some (.ref (st.length + 4))) (some (.rol (X5 ts s ls.length at'))) none) (QS st b1 ts s es ls (XA ts s es ls)) = .ok (wkSeq (X5 ts s ls.length at' ++ X6)) (QS st b1 ts s es ls (XA ts s es ls)) := by
    have k : (X5 ts s ls.length at').length + X6.length ≤ 16777216 := by simp [X5, X6]
    unfold X6 at k
    have e := gAdd_rol (st := QS st b1 ts s es ls (XA ts s es ls)) (X5 ts s ls.length at') X6
    unfold X6 at e
    rw [if_pos k] at e
    simp [bEnv, e, seqWk, X6]
  have h3 := (for_eq (n := 16777215) (p := .nm 9) (S := L_law_bent_1) hw).trans h2
  have h4 : BN7 (bEnv st.length ts s es ls (some (.int at')) (some (.ref (st.length + 4))) (some (.rol (X5 ts s ls.length at'))) none) (QS st b1 ts s es ls (XA ts s es ls)) = _ := h3
  refine Eq.trans (seq_nx h4) ?_
  simp [bEnv, XX]
end
end F32
end QI

/-! the law, whole -/
namespace QI
open PySem PySem.Spec PyProof.Rows L2
open LC
namespace F32
theorem pl_in {d : D} {a b : Int} (h : numIn a b d = true) (n : Nat) : pl (n + 1) d := by
  cases d <;> simp [numIn] at h
  trivial
theorem pl_line {nt : Nat} {ns : Int} {place many : Nat} {l : D} (h : lineOk nt ns place many l = true) (n : Nat) : pl (n + 2) l := by
  have two : ∀ {xs : List D}, xs.length < 1000000 → (∀ x ∈ xs, pl (n + 1) x) → pl (n + 2) (.tup xs) := fun h1 h2 => ⟨h1, h2⟩
  have st : ∀ w : Str, pl (n + 1) (.str w) := fun w => trivial
  unfold lineOk at h
  split at h
  · rename_i w args
    split at h
    · exact two (by simp) (fun x hx => by rw [List.mem_singleton] at hx; subst hx; exact st _)
    · rename_i a
      refine two (by simp) (fun x hx => ?_)
      simp only [List.mem_cons, List.not_mem_nil, or_false] at hx
      rcases hx with rfl | rfl
      · exact st _
      · split at h
        · rw [Bool.and_eq_true] at h; exact pl_in h.1 n
        · split at h
          · exact pl_in h n
          · cases h
    · rename_i a b
      refine two (by simp) (fun x hx => ?_)
      simp only [List.mem_cons, List.not_mem_nil, or_false] at hx
      rcases hx with rfl | rfl | rfl
      · exact st _
      · split at h
        · rw [Bool.and_eq_true] at h; exact pl_in h.1 n
        · split at h
          · rw [Bool.and_eq_true] at h; exact pl_in h.1 n
          · cases h
      · split at h
        · simp only [Bool.and_eq_true] at h; exact pl_in h.2.1 n
        · split at h
          · simp only [Bool.and_eq_true] at h; exact pl_in h.2.1 n
          · cases h
    · rename_i a b c
      refine two (by simp) (fun x hx => ?_)
      simp only [List.mem_cons, List.not_mem_nil, or_false] at hx
      split at h
      · simp only [Bool.and_eq_true] at h
        rcases hx with rfl | rfl | rfl | rfl
        · exact st _
        · exact pl_in h.1 n
        · exact pl_in h.2.1 n
        · exact pl_in h.2.2 n
      · cases h
    · cases h
  · cases h
theorem pl_ok {d : D} (h : Ft d none) : pl 7 d := by
  cases h with
  | @ok ts ls ns e h h2 h3 h4 h7 =>
    refine ⟨by simp, fun x hx => ?_⟩
    simp only [List.mem_cons, List.not_mem_nil, or_false] at hx
    rcases hx with rfl | rfl | rfl | rfl
    · simp only [fTops, Bool.and_eq_true, decide_eq_true_eq, List.all_eq_true] at h
      exact ⟨by omega, fun x hx => pl_in (h.2 x hx) 4⟩
    · trivial
    · cases x with
      | tup es =>
        simp only [fEnt, Bool.and_eq_true, decide_eq_true_eq, List.all_eq_true] at h4
        exact ⟨by omega, fun x hx => pl_in (h4.2 x hx) 4⟩
      | _ => cases h4
    · simp only [fLin, Bool.and_eq_true, decide_eq_true_eq] at h3
      refine ⟨by omega, fun x hx => ?_⟩
      obtain ⟨i, hi⟩ := List.mem_iff_getElem?.mp hx
      have hlt := lt_of_get hi
      have := h7 i hlt
      unfold okI at this
      rw [hi] at this
      exact pl_line this 3
def lE (sc : D) (k : Nat) (r : D) (v3 v4 v5 : Option D) : Ev := [some sc, some (.int k), some r, v3, v4, v5]
theorem l_one {st : Sto} (hc : Closed st) {d : D} (hv : Vl 40 d) {sc : D} {k : Nat} {r : D} (v3 v5 : Option D) : ∃ v5', L_law_1 (lE sc k r v3 (some d) v5) st = .ok (.nx (lE sc k r v3 (some d) v5')) st := by
  obtain ⟨o, hf⟩ := ft_ex d
  have h1 := e_fault hc hv hf
  have h2 := e_told hc hv hf
  cases o with
  | none =>
    have h3 : G_law_same [.tup [.str (Str.ofString "code"), d], .tup [.str (Str.ofString "code"), d]] st = .ok (.bl true) st := e_same hc 8 _ ⟨by simp, fun x hx => by
      simp only [List.mem_cons, List.not_mem_nil, or_false] at hx
      rcases hx with rfl | rfl
      · trivial
      · exact pl_ok hf⟩
    simp only at h1 h2
    refine ⟨some .non, ?_⟩
    unfold L_law_1
    rw [seq_nx (e1 := lE sc k r v3 (some d) (some .non)) (st1 := st) (by simp [lE, h1])]
    simp [lE, h2, h3]
  | some a =>
    have h3 : G_law_same [.tup [.str (Str.ofString "bad"), .int a], .tup [.str (Str.ofString "bad"), .int a]] st = .ok (.bl true) st := e_same hc 8 _ (by simp [pl])
    simp only at h1 h2
    refine ⟨some (.int a), ?_⟩
    unfold L_law_1
    rw [seq_nx (e1 := lE sc k r v3 (some d) (some (.int a))) (st1 := st) (by simp [lE, h1])]
    simp [lE, h2, h3]
theorem dr_pt {c : Cd} (h : c.Dr) : Pt4 (nD c.tops) (.int c.sends) (nD c.ent) (c.lines.map Ln.d) where
  t := ⟨by have := h.tops.1; simp; omega, fun x hx => by obtain ⟨n, _, rfl⟩ := List.mem_map.mp hx; exact Vl.at rfl⟩
  s := Vl.at rfl
  e := ⟨by have := h.ent.2; simp; omega, fun x hx => by obtain ⟨n, _, rfl⟩ := List.mem_map.mp hx; exact Vl.at rfl⟩
  l := ⟨by have := h.lines; simp; omega, fun x hx => by
    obtain ⟨l, _, rfl⟩ := List.mem_map.mp hx
    obtain ⟨w1, w2, w3, w4, w5, w6, w7⟩ := at_w
    cases l <;> refine v_ints (by simp) fun x hx => ?_ <;> simp only [List.mem_cons, List.not_mem_nil, or_false] at hx
    · rcases hx with rfl | rfl | rfl <;> first | assumption | rfl
    · rcases hx with rfl | rfl <;> first | assumption | rfl
    · rcases hx with rfl | rfl | rfl <;> first | assumption | rfl
    · rcases hx with rfl | rfl | rfl | rfl <;> first | assumption | rfl
    · rcases hx with rfl | rfl <;> first | assumption | rfl
    · subst hx; assumption⟩
theorem turn {st : Sto} (hc : Closed st) (ns : List Int) (hns : ns.length < 1000) {k : Nat} (hk : k < 1000) (v2 v3 v4 v5 : Option D) : ∃ (ev : Ev) (st' : Sto), ev.length = 4 ∧ Closed st' ∧ L_law_2 (some (.scr (ns.map D.int)) :: some (.int k) :: [v2, v3, v4, v5]) st = .ok (.nx (some (.scr (ns.map D.int)) :: some (.int k) :: ev)) st' := by
  obtain ⟨b, hb, h1⟩ := e_box hc ns k hk hns
  obtain ⟨c, b1, hb1, hd, hl16, h2⟩ := e_drawn (pre := st) (post := []) (fun b => closed_end hc (by simp)) hb
  have hl1 : 1 ≤ (c.lines.map Ln.d).length := by have := hd.ok.len.1; simpa using this
  have hp := dr_pt hd
  obtain ⟨b2, at', hb2, h3⟩ := e_bent hc hb1 hp rfl hl1
  have hxx := v_xx hp rfl at'
  have hcl := qs_closed (b := b2) hc hp hxx
  have h2 : G_law_drawn_code [.ref st.length] (st ++ [bx b]) = .ok c.d (st ++ [bx b1]) := h2
  have h3 : G_law_bent [.ref st.length, c.d] (st ++ [bx b1]) = .ok (.ref (st.length + 4)) (QS st b2 (nD c.tops) (.int c.sends) (nD c.ent) (c.lines.map Ln.d) (XX (nD c.tops) (.int c.sends) (nD c.ent) (c.lines.map Ln.d) at')) := h3
  have hg := qs_get (st := st) (b := b2) (ts := nD c.tops) (s := .int c.sends) (es := nD c.ent) (ls := c.lines.map Ln.d) (acc := XX (nD c.tops) (.int c.sends) (nD c.ent) (c.lines.map Ln.d) at')
  generalize QS st b2 (nD c.tops) (.int c.sends) (nD c.ent) (c.lines.map Ln.d) (XX (nD c.tops) (.int c.sends) (nD c.ent) (c.lines.map Ln.d) at') = S at h3 hcl hg
  have hxl := xx_len (ts := nD c.tops) (s := .int c.sends) (es := nD c.ent) (ls := c.lines.map Ln.d) at'
  generalize XX (nD c.tops) (.int c.sends) (nD c.ent) (c.lines.map Ln.d) at' = xs at hxx hg hxl
  obtain ⟨e', st', h4, ⟨v4', v5', rfl⟩, rfl⟩ := for_inv0 (wk := wkLive (st.length + 4)) (p := .nm 4) (S := L_law_1) (items := xs) (fun i env s => (∃ v4 v5, env = lE (.scr (ns.map D.int)) k (.ref st.length) (some c.d) v4 v5) ∧ s = S)
    (fun i env s h => by rw [h.2]; exact wkLive_at hg i)
    (fun i d env s hd h => by
      obtain ⟨⟨v4, v5, rfl⟩, rfl⟩ := h
      obtain ⟨v5', h⟩ := l_one hcl (Vl.up (hxx d (List.mem_of_getElem? hd)) (by omega)) (sc := .scr (ns.map D.int)) (k := k) (r := .ref st.length) (some c.d) v5
      exact ⟨lE (.scr (ns.map D.int)) k (.ref st.length) (some c.d) (some d) v5, by simp [lE, put_nm], _, _, .inl h, ⟨_, _, rfl⟩, rfl⟩)
    (n := 16777215) (env := lE (.scr (ns.map D.int)) k (.ref st.length) (some c.d) v4 v5) (st := S) (by omega) ⟨⟨_, _, rfl⟩, rfl⟩
  refine ⟨[some (.ref st.length), some c.d, v4', v5'], st', rfl, hcl, ?_⟩
  unfold L_law_2
  rw [seq_nx (e1 := lE (.scr (ns.map D.int)) k (.ref st.length) v3 v4 v5) (st1 := st ++ [bx b]) (by simp [lE, h1])]
  rw [seq_nx (e1 := lE (.scr (ns.map D.int)) k (.ref st.length) (some c.d) v4 v5) (st1 := st ++ [bx b1]) (by simp [lE, h2])]
  have hw : iWalk (iCall 2 G_law_bent [] (iCons (iVar 2) (iCons (iVar 3) (iNil)))) (lE (.scr (ns.map D.int)) k (.ref st.length) (some c.d) v4 v5) (st ++ [bx b1]) = .ok (wkLive (st.length + 4)) st' := by
    simp [lE, h3, seqWk, hg]
  exact (for_eq hw).trans h4
theorem e_law (ns : List Int) (hns : ns.length < 1000) : G_law [.scr (ns.map D.int)] [] = .ok (.bl true) [] := by
  have hc0 : Closed [] := fun c hc => by cases hc
  obtain ⟨m, hm, hr⟩ : ∃ m : Nat, m < 1000 ∧ ∀ (env : Ev) (st : Sto), iCons (iCallB gMax (iCons (iC (.int 3)) (iCons (iCallB gMin (iCons (iCallB gLen (iCons (iVar 0) (iNil))) (iCons (iC (.int 7)) (iNil)))) (iNil)))) (iNil) (some (.scr (ns.map D.int)) :: env) st = .ok [.int (m : Nat)] st := by
    by_cases h5 : 7 < ns.length
    · exact ⟨7, by decide, fun env st => by
        have h5' : (7 : Int) < ns.length := by omega
        simp [h5']⟩
    · by_cases h3 : 3 < ns.length
      · exact ⟨ns.length, hns, fun env st => by
          have h5' : ¬ (7 : Int) < ns.length := by omega
          have h3' : (3 : Int) < ns.length := by omega
          simp [h5', h3']⟩
      · exact ⟨3, by decide, fun env st => by
          have h5' : ¬ (7 : Int) < ns.length := by omega
          have h3' : ¬ (3 : Int) < ns.length := by omega
          simp [h5', h3']⟩
  obtain ⟨e', st', h1, hc', k', ev, hev, rfl⟩ := for_inv0 (wk := wkRange 0 m) (p := .nm 1) (S := L_law_2) (items := rangeD 0 m) (fun i env s => Closed s ∧ ∃ (t2 : Option D) (ev : Ev), ev.length = 4 ∧ env = some (.scr (ns.map D.int)) :: t2 :: ev)
    (fun i env s _ => wkRange_at _ _ _ _)
    (fun i d env s hd h => by
      obtain ⟨hc, t2, ev, hev, rfl⟩ := h
      obtain ⟨hi, rfl⟩ := rangeD_get hd
      rw [Int.zero_add]
      match ev, hev with
      | [t3, t4, t5, t6], _ =>
        obtain ⟨ev, st', h1, h2, h3⟩ := turn hc ns hns (k := i) (by omega) t3 t4 t5 t6
        exact ⟨_, put_nm _ _, _, _, .inl h3, h2, _, ev, h1, rfl⟩)
    (n := 16777215) (env := some (.scr (ns.map D.int)) :: none :: List.replicate 4 none) (st := []) (by simp; omega) ⟨hc0, none, List.replicate 4 none, rfl, rfl⟩
  have hB : B_law (startE N_law [.scr (ns.map D.int)]) [] = .ok (.rt (.bl true)) st' := by
    show B_law (some (.scr (ns.map D.int)) :: none :: List.replicate 4 none) [] = _
    unfold B_law
    rw [seq_nx ((for_eq (walkC_eq (hr _ _) (fRange1_nat (by omega)))).trans h1)]
    simp
  show run N_law B_law _ _ = _
  unfold run
  rw [hB]
  show trim [] (.bl true) st' = _
  unfold trim
  rw [if_pos ⟨Nat.zero_le _, by simp, fun c hc => by simp at hc⟩]
  simp
end F32
end QI

namespace QI
open PySem PySem.Spec PyProof.Rows L2
theorem all_mk {l : PySem.W.OpenLaw} {w : World} {K : PySem.W.Frag} {h : Heap} {mg : Str → Option Value} {fa f_is_int f_is_number f_is_tuple f_is_numbers f_is_line f_check_code f_law_box f_law_take f_law_same f_law_drawn_code f_law_number f_law_is_line f_law_code_fault f_law_told f_law_bent f_law : Addr} (X : K.In h) (G : h.Ns mainGlobals mg) (hfa : mg "law" = some (.ref fa))
    {od_is_int an_is_int od_is_number an_is_number od_is_tuple an_is_tuple od_is_numbers an_is_numbers od_is_line an_is_line od_check_code an_check_code od_law_box an_law_box od_law_take an_law_take od_law_same an_law_same od_law_drawn_code an_law_drawn_code od_law_number an_law_number od_law_is_line an_law_is_line od_law_code_fault an_law_code_fault od_law_told an_law_told od_law_bent an_law_bent od_law an_law : Option Addr} {sl_is_int sl_is_number sl_is_tuple sl_is_numbers sl_is_line sl_check_code sl_law_box sl_law_take sl_law_same sl_law_drawn_code sl_law_number sl_law_is_line sl_law_code_fault sl_law_told sl_law_bent sl_law : Array (Option Value)} {oc_is_int kV_is_int dc_is_int pm_is_int cd_is_int ct_is_int oc_is_number kV_is_number dc_is_number pm_is_number cd_is_number ct_is_number oc_is_tuple kV_is_tuple dc_is_tuple pm_is_tuple cd_is_tuple ct_is_tuple oc_is_numbers kV_is_numbers dc_is_numbers pm_is_numbers cd_is_numbers ct_is_numbers oc_is_line kV_is_line dc_is_line pm_is_line cd_is_line ct_is_line oc_check_code kV_check_code dc_check_code pm_check_code cd_check_code ct_check_code oc_law_box kV_law_box dc_law_box pm_law_box cd_law_box ct_law_box oc_law_take kV_law_take dc_law_take pm_law_take cd_law_take ct_law_take oc_law_same kV_law_same dc_law_same pm_law_same cd_law_same ct_law_same oc_law_drawn_code kV_law_drawn_code dc_law_drawn_code pm_law_drawn_code cd_law_drawn_code ct_law_drawn_code oc_law_number kV_law_number dc_law_number pm_law_number cd_law_number ct_law_number oc_law_is_line kV_law_is_line dc_law_is_line pm_law_is_line cd_law_is_line ct_law_is_line oc_law_code_fault kV_law_code_fault dc_law_code_fault pm_law_code_fault cd_law_code_fault ct_law_code_fault oc_law_told kV_law_told dc_law_told pm_law_told cd_law_told ct_law_told oc_law_bent kV_law_bent dc_law_bent pm_law_bent cd_law_bent ct_law_bent oc_law kV_law dc_law pm_law cd_law ct_law : Value} {tk_MOST_LINES tk_MOST_SENT tk_MOST_TAKEN tk_MOST_TIMES tk_MOST_TOP tk_MOST_TOPS : Tok}
    (a_is_int : PySem.W.nsIn K mainGlobals "is_int" = some (some (.ref f_is_int))) (l_is_int : K.lookup f_is_int = some ⟨oc_is_int, od_is_int, .func (PySem.W.fnOf "is_int" "is_int" (defArgs S_is_int) (defBody S_is_int) (defScope S_is_int) .none kV_is_int dc_is_int pm_is_int an_is_int cd_is_int ct_is_int), sl_is_int⟩) (c_is_int : PySem.W.codeIn K cd_is_int "is_int" = true) (k_is_int : PySem.W.keepIn K (.ref f_is_int) = true)
    {dT_is_number : Addr} {odT_is_number : Option Addr} {nT_is_number : Nat} {slT_is_number : Array (Option Value)} {tkT0_is_number : Tok}
    (a_is_number : PySem.W.nsIn K mainGlobals "is_number" = some (some (.ref f_is_number))) (l_is_number : K.lookup f_is_number = some ⟨oc_is_number, od_is_number, .func (PySem.W.fnOf "is_number" "is_number" (defArgs S_is_number) (defBody S_is_number) (defScope S_is_number) (.ref dT_is_number) kV_is_number dc_is_number pm_is_number an_is_number cd_is_number ct_is_number), sl_is_number⟩) (t_is_number : K.lookup dT_is_number = some ⟨.type "tuple", odT_is_number, .seq #[.int 0 tkT0_is_number, .none] nT_is_number, slT_is_number⟩) (c_is_number : PySem.W.codeIn K cd_is_number "is_number" = true) (k_is_number : PySem.W.keepIn K (.ref f_is_number) = true)
    {dT_is_tuple : Addr} {odT_is_tuple : Option Addr} {nT_is_tuple : Nat} {slT_is_tuple : Array (Option Value)}
    (a_is_tuple : PySem.W.nsIn K mainGlobals "is_tuple" = some (some (.ref f_is_tuple))) (l_is_tuple : K.lookup f_is_tuple = some ⟨oc_is_tuple, od_is_tuple, .func (PySem.W.fnOf "is_tuple" "is_tuple" (defArgs S_is_tuple) (defBody S_is_tuple) (defScope S_is_tuple) (.ref dT_is_tuple) kV_is_tuple dc_is_tuple pm_is_tuple an_is_tuple cd_is_tuple ct_is_tuple), sl_is_tuple⟩) (t_is_tuple : K.lookup dT_is_tuple = some ⟨.type "tuple", odT_is_tuple, .seq #[.none] nT_is_tuple, slT_is_tuple⟩) (c_is_tuple : PySem.W.codeIn K cd_is_tuple "is_tuple" = true) (k_is_tuple : PySem.W.keepIn K (.ref f_is_tuple) = true)
    {dT_is_numbers : Addr} {odT_is_numbers : Option Addr} {nT_is_numbers : Nat} {slT_is_numbers : Array (Option Value)} {tkT0_is_numbers : Tok}
    (a_is_numbers : PySem.W.nsIn K mainGlobals "is_numbers" = some (some (.ref f_is_numbers))) (l_is_numbers : K.lookup f_is_numbers = some ⟨oc_is_numbers, od_is_numbers, .func (PySem.W.fnOf "is_numbers" "is_numbers" (defArgs S_is_numbers) (defBody S_is_numbers) (defScope S_is_numbers) (.ref dT_is_numbers) kV_is_numbers dc_is_numbers pm_is_numbers an_is_numbers cd_is_numbers ct_is_numbers), sl_is_numbers⟩) (t_is_numbers : K.lookup dT_is_numbers = some ⟨.type "tuple", odT_is_numbers, .seq #[.int 0 tkT0_is_numbers, .none] nT_is_numbers, slT_is_numbers⟩) (c_is_numbers : PySem.W.codeIn K cd_is_numbers "is_numbers" = true) (k_is_numbers : PySem.W.keepIn K (.ref f_is_numbers) = true)
    (a_is_line : PySem.W.nsIn K mainGlobals "is_line" = some (some (.ref f_is_line))) (l_is_line : K.lookup f_is_line = some ⟨oc_is_line, od_is_line, .func (PySem.W.fnOf "is_line" "is_line" (defArgs S_is_line) (defBody S_is_line) (defScope S_is_line) .none kV_is_line dc_is_line pm_is_line an_is_line cd_is_line ct_is_line), sl_is_line⟩) (c_is_line : PySem.W.codeIn K cd_is_line "is_line" = true) (k_is_line : PySem.W.keepIn K (.ref f_is_line) = true)
    (a_check_code : PySem.W.nsIn K mainGlobals "check_code" = some (some (.ref f_check_code))) (l_check_code : K.lookup f_check_code = some ⟨oc_check_code, od_check_code, .func (PySem.W.fnOf "check_code" "check_code" (defArgs S_check_code) (defBody S_check_code) (defScope S_check_code) .none kV_check_code dc_check_code pm_check_code an_check_code cd_check_code ct_check_code), sl_check_code⟩) (c_check_code : PySem.W.codeIn K cd_check_code "check_code" = true) (k_check_code : PySem.W.keepIn K (.ref f_check_code) = true)
    (a_law_box : PySem.W.nsIn K mainGlobals "_law_box" = some (some (.ref f_law_box))) (l_law_box : K.lookup f_law_box = some ⟨oc_law_box, od_law_box, .func (PySem.W.fnOf "_law_box" "_law_box" (defArgs S_law_box) (defBody S_law_box) (defScope S_law_box) .none kV_law_box dc_law_box pm_law_box an_law_box cd_law_box ct_law_box), sl_law_box⟩) (c_law_box : PySem.W.codeIn K cd_law_box "_law_box" = true) (k_law_box : PySem.W.keepIn K (.ref f_law_box) = true)
    (a_law_take : PySem.W.nsIn K mainGlobals "_law_take" = some (some (.ref f_law_take))) (l_law_take : K.lookup f_law_take = some ⟨oc_law_take, od_law_take, .func (PySem.W.fnOf "_law_take" "_law_take" (defArgs S_law_take) (defBody S_law_take) (defScope S_law_take) .none kV_law_take dc_law_take pm_law_take an_law_take cd_law_take ct_law_take), sl_law_take⟩) (c_law_take : PySem.W.codeIn K cd_law_take "_law_take" = true) (k_law_take : PySem.W.keepIn K (.ref f_law_take) = true)
    (a_law_same : PySem.W.nsIn K mainGlobals "_law_same" = some (some (.ref f_law_same))) (l_law_same : K.lookup f_law_same = some ⟨oc_law_same, od_law_same, .func (PySem.W.fnOf "_law_same" "_law_same" (defArgs S_law_same) (defBody S_law_same) (defScope S_law_same) .none kV_law_same dc_law_same pm_law_same an_law_same cd_law_same ct_law_same), sl_law_same⟩) (c_law_same : PySem.W.codeIn K cd_law_same "_law_same" = true) (k_law_same : PySem.W.keepIn K (.ref f_law_same) = true)
    (a_law_drawn_code : PySem.W.nsIn K mainGlobals "_law_drawn_code" = some (some (.ref f_law_drawn_code))) (l_law_drawn_code : K.lookup f_law_drawn_code = some ⟨oc_law_drawn_code, od_law_drawn_code, .func (PySem.W.fnOf "_law_drawn_code" "_law_drawn_code" (defArgs S_law_drawn_code) (defBody S_law_drawn_code) (defScope S_law_drawn_code) .none kV_law_drawn_code dc_law_drawn_code pm_law_drawn_code an_law_drawn_code cd_law_drawn_code ct_law_drawn_code), sl_law_drawn_code⟩) (c_law_drawn_code : PySem.W.codeIn K cd_law_drawn_code "_law_drawn_code" = true) (k_law_drawn_code : PySem.W.keepIn K (.ref f_law_drawn_code) = true)
    (a_law_number : PySem.W.nsIn K mainGlobals "_law_number" = some (some (.ref f_law_number))) (l_law_number : K.lookup f_law_number = some ⟨oc_law_number, od_law_number, .func (PySem.W.fnOf "_law_number" "_law_number" (defArgs S_law_number) (defBody S_law_number) (defScope S_law_number) .none kV_law_number dc_law_number pm_law_number an_law_number cd_law_number ct_law_number), sl_law_number⟩) (c_law_number : PySem.W.codeIn K cd_law_number "_law_number" = true) (k_law_number : PySem.W.keepIn K (.ref f_law_number) = true)
    (a_law_is_line : PySem.W.nsIn K mainGlobals "_law_is_line" = some (some (.ref f_law_is_line))) (l_law_is_line : K.lookup f_law_is_line = some ⟨oc_law_is_line, od_law_is_line, .func (PySem.W.fnOf "_law_is_line" "_law_is_line" (defArgs S_law_is_line) (defBody S_law_is_line) (defScope S_law_is_line) .none kV_law_is_line dc_law_is_line pm_law_is_line an_law_is_line cd_law_is_line ct_law_is_line), sl_law_is_line⟩) (c_law_is_line : PySem.W.codeIn K cd_law_is_line "_law_is_line" = true) (k_law_is_line : PySem.W.keepIn K (.ref f_law_is_line) = true)
    (a_law_code_fault : PySem.W.nsIn K mainGlobals "_law_code_fault" = some (some (.ref f_law_code_fault))) (l_law_code_fault : K.lookup f_law_code_fault = some ⟨oc_law_code_fault, od_law_code_fault, .func (PySem.W.fnOf "_law_code_fault" "_law_code_fault" (defArgs S_law_code_fault) (defBody S_law_code_fault) (defScope S_law_code_fault) .none kV_law_code_fault dc_law_code_fault pm_law_code_fault an_law_code_fault cd_law_code_fault ct_law_code_fault), sl_law_code_fault⟩) (c_law_code_fault : PySem.W.codeIn K cd_law_code_fault "_law_code_fault" = true) (k_law_code_fault : PySem.W.keepIn K (.ref f_law_code_fault) = true)
    (a_law_told : PySem.W.nsIn K mainGlobals "_law_told" = some (some (.ref f_law_told))) (l_law_told : K.lookup f_law_told = some ⟨oc_law_told, od_law_told, .func (PySem.W.fnOf "_law_told" "_law_told" (defArgs S_law_told) (defBody S_law_told) (defScope S_law_told) .none kV_law_told dc_law_told pm_law_told an_law_told cd_law_told ct_law_told), sl_law_told⟩) (c_law_told : PySem.W.codeIn K cd_law_told "_law_told" = true) (k_law_told : PySem.W.keepIn K (.ref f_law_told) = true)
    (a_law_bent : PySem.W.nsIn K mainGlobals "_law_bent" = some (some (.ref f_law_bent))) (l_law_bent : K.lookup f_law_bent = some ⟨oc_law_bent, od_law_bent, .func (PySem.W.fnOf "_law_bent" "_law_bent" (defArgs S_law_bent) (defBody S_law_bent) (defScope S_law_bent) .none kV_law_bent dc_law_bent pm_law_bent an_law_bent cd_law_bent ct_law_bent), sl_law_bent⟩) (c_law_bent : PySem.W.codeIn K cd_law_bent "_law_bent" = true) (k_law_bent : PySem.W.keepIn K (.ref f_law_bent) = true)
    (a_law : PySem.W.nsIn K mainGlobals "law" = some (some (.ref f_law))) (l_law : K.lookup f_law = some ⟨oc_law, od_law, .func (PySem.W.fnOf "law" "law" (defArgs S_law) (defBody S_law) (defScope S_law) .none kV_law dc_law pm_law an_law cd_law ct_law), sl_law⟩) (c_law : PySem.W.codeIn K cd_law "law" = true) (k_law : PySem.W.keepIn K (.ref f_law) = true)
    (z_abs : PySem.W.nsIn K mainGlobals "abs" = some none)
    (z_all : PySem.W.nsIn K mainGlobals "all" = some none)
    (z_bool : PySem.W.nsIn K mainGlobals "bool" = some none)
    (z_enumerate : PySem.W.nsIn K mainGlobals "enumerate" = some none)
    (z_int : PySem.W.nsIn K mainGlobals "int" = some none)
    (z_isinstance : PySem.W.nsIn K mainGlobals "isinstance" = some none)
    (z_len : PySem.W.nsIn K mainGlobals "len" = some none)
    (z_list : PySem.W.nsIn K mainGlobals "list" = some none)
    (z_max : PySem.W.nsIn K mainGlobals "max" = some none)
    (z_min : PySem.W.nsIn K mainGlobals "min" = some none)
    (z_range : PySem.W.nsIn K mainGlobals "range" = some none)
    (z_str : PySem.W.nsIn K mainGlobals "str" = some none)
    (z_tuple : PySem.W.nsIn K mainGlobals "tuple" = some none)
    (z_zip : PySem.W.nsIn K mainGlobals "zip" = some none)
    {q_ARGUMENTS : Addr} {es_ARGUMENTS : Array DictEntry} {nC_ARGUMENTS : Nat} {tk0_ARGUMENTS tk1_ARGUMENTS tk2_ARGUMENTS tk3_ARGUMENTS tk4_ARGUMENTS tk5_ARGUMENTS : Tok} (v_ARGUMENTS : PySem.W.nsIn K mainGlobals "ARGUMENTS" = some (some (.ref q_ARGUMENTS))) (l_ARGUMENTS : K.lookup q_ARGUMENTS = some ⟨.type "dict", none, .dict es_ARGUMENTS nC_ARGUMENTS, #[]⟩) (h_ARGUMENTS : PySem.W.KeysLit w.params es_ARGUMENTS.toList)
    (e0_ARGUMENTS : PySem.W.nsIn K q_ARGUMENTS "raise" = some (some (.int 2 tk0_ARGUMENTS)))
    (e1_ARGUMENTS : PySem.W.nsIn K q_ARGUMENTS "clear" = some (some (.int 1 tk1_ARGUMENTS)))
    (e2_ARGUMENTS : PySem.W.nsIn K q_ARGUMENTS "send" = some (some (.int 2 tk2_ARGUMENTS)))
    (e3_ARGUMENTS : PySem.W.nsIn K q_ARGUMENTS "under" = some (some (.int 3 tk3_ARGUMENTS)))
    (e4_ARGUMENTS : PySem.W.nsIn K q_ARGUMENTS "go" = some (some (.int 1 tk4_ARGUMENTS)))
    (e5_ARGUMENTS : PySem.W.nsIn K q_ARGUMENTS "stop" = some (some (.int 0 tk5_ARGUMENTS)))
    (v_MOST_LINES : PySem.W.nsIn K mainGlobals "MOST_LINES" = some (some (Value.int 4000 tk_MOST_LINES)))
    (v_MOST_SENT : PySem.W.nsIn K mainGlobals "MOST_SENT" = some (some (Value.int 4 tk_MOST_SENT)))
    (v_MOST_TAKEN : PySem.W.nsIn K mainGlobals "MOST_TAKEN" = some (some (Value.int 3 tk_MOST_TAKEN)))
    (v_MOST_TIMES : PySem.W.nsIn K mainGlobals "MOST_TIMES" = some (some (Value.int 999 tk_MOST_TIMES)))
    (v_MOST_TOP : PySem.W.nsIn K mainGlobals "MOST_TOP" = some (some (Value.int 71 tk_MOST_TOP)))
    (v_MOST_TOPS : PySem.W.nsIn K mainGlobals "MOST_TOPS" = some (some (Value.int 4 tk_MOST_TOPS)))
    {q_WORDS : Addr} {odC_WORDS : Option Addr} {nC_WORDS : Nat} {slC_WORDS : Array (Option Value)} {tk0_WORDS tk1_WORDS tk2_WORDS tk3_WORDS tk4_WORDS tk5_WORDS : Tok} (v_WORDS : PySem.W.nsIn K mainGlobals "WORDS" = some (some (.ref q_WORDS))) (l_WORDS : K.lookup q_WORDS = some ⟨.type "tuple", odC_WORDS, .seq #[.str (Str.ofString "raise") tk0_WORDS, .str (Str.ofString "clear") tk1_WORDS, .str (Str.ofString "send") tk2_WORDS, .str (Str.ofString "under") tk3_WORDS, .str (Str.ofString "go") tk4_WORDS, .str (Str.ofString "stop") tk5_WORDS] nC_WORDS, slC_WORDS⟩)
    (z_super : PySem.W.nsIn K mainGlobals "super" = some none)
    (y_main : (l.prog.main.scope.names.lookup (PySem.Str.ofString "super")).isSome = false)
    (y_opq : PySem.W.nsIn K PySem.cStatics "thirdparty.any" = some none)
    {c_BadCode : Addr}
    (ac_BadCode : PySem.W.nsIn K mainGlobals "BadCode" = some (some (.ref c_BadCode)))
    (ex_BadCode : PySem.W.subIn K (.ref c_BadCode) (.type "BaseException") = some true)
    (ty_BadCode : PySem.W.typeIn K (.ref c_BadCode) = some (.type "type"))
    (ic_BadCode : PySem.W.isClsIn K c_BadCode = true)
    (ga_BadCode : PySem.W.findIn K (.ref c_BadCode) "__getattribute__" = some (some (.builtin "BaseException.__getattribute__")))
    (gg_BadCode : PySem.W.findIn K (.ref c_BadCode) "__getattr__" = some none)
    (hd_BadCode : PySem.W.hasDictIn K c_BadCode = true)
    (xa_BadCode : PySem.W.findIn K (.ref c_BadCode) "__class__" = some (some (.builtin "object.__class__")))
    (xm_BadCode : PySem.W.mroIn K c_BadCode (.type "object") = some true)
    {fI_BadCode : Addr} {nm_BadCode qn_BadCode : Str} {N_BadCode : Addr} {bs_BadCode : List Value} {b_BadCode : Addr} {sn_BadCode : List Str} {sub_BadCode : List Value} {ab_BadCode : Bool} {co_BadCode : Option Bool} {dd_BadCode : Option Addr} {m0_BadCode m1_BadCode m2_BadCode m3_BadCode m5_BadCode : Option Value}
    {tx_BadCode ql_BadCode : Str} {oi_BadCode ccl_BadCode cl_BadCode : Value} {od_BadCode cdd_BadCode cld_BadCode : Option Addr} {kV_BadCode dc_BadCode pm_BadCode : Value} {an_BadCode : Option Addr} {cd_BadCode cc_BadCode : Addr} {ct_BadCode : Value} {sl_BadCode ccs_BadCode csl_BadCode : Array (Option Value)} {vs_BadCode : Array Value} {fl_BadCode : Str} {tf_BadCode : Tok} {p1_BadCode p2_BadCode q1_BadCode q2_BadCode q3_BadCode q4_BadCode q5_BadCode q6_BadCode q7_BadCode q8_BadCode q9_BadCode q10_BadCode : Pos} {j_BadCode : Nat}
    (lc_BadCode : K.lookup c_BadCode = some (excClassObj nm_BadCode qn_BadCode c_BadCode N_BadCode bs_BadCode [.ref b_BadCode, .type "ValueError", .type "Exception", .type "BaseException", .type "object"] true sn_BadCode sub_BadCode ab_BadCode co_BadCode dd_BadCode m0_BadCode m1_BadCode m2_BadCode m3_BadCode m5_BadCode "ValueError.__new__"))
    (xi_BadCode : PySem.W.excInitIn K c_BadCode PySem.HandSPX.veTail "ValueError.__new__" = true)
    (sa_BadCode : PySem.W.findIn K (.ref c_BadCode) "__setattr__" = some (some (.builtin "object.__setattr__")))
    (no_BadCode : PySem.W.findIn K (.ref c_BadCode) "at" = some none)
    (in_BadCode : PySem.W.findIn K (.ref c_BadCode) "__init__" = some (some (.ref fI_BadCode)))
    (ti_BadCode : PySem.W.typeIn K (.ref fI_BadCode) = some (.type "function"))
    (kc_BadCode : PySem.W.keepIn K (.ref c_BadCode) = true)
    (ve_BadCode : PySem.W.subIn K (.ref c_BadCode) (.type "ValueError") = some true)
    (cc1_BadCode : PySem.W.mroIn K c_BadCode (.ref c_BadCode) = some true)
    (su_BadCode : PySem.W.ks_superIn K c_BadCode c_BadCode "__init__" = some (some (.builtin "ValueError.__init__")))
    (lf_BadCode : K.lookup fI_BadCode = some ⟨oi_BadCode, od_BadCode, .func (PySem.W.ksFn "__init__" ql_BadCode (QX.iA "at" p1_BadCode p2_BadCode) (QX.iB "at" tx_BadCode q1_BadCode q2_BadCode q3_BadCode q4_BadCode q5_BadCode q6_BadCode q7_BadCode q8_BadCode q9_BadCode q10_BadCode j_BadCode) (QX.iS "at") .none kV_BadCode dc_BadCode pm_BadCode an_BadCode (.ref cd_BadCode) ct_BadCode cc_BadCode), sl_BadCode⟩)
    (ci_BadCode : PySem.W.codeIn K (.ref cd_BadCode) ql_BadCode = true)
    (ld_BadCode : K.lookup cd_BadCode = some ⟨ccl_BadCode, cdd_BadCode, .fields vs_BadCode, ccs_BadCode⟩)
    (vv_BadCode : vs_BadCode[2]? = some (.str fl_BadCode tf_BadCode))
    (ff_BadCode : (l.prog.main.file == fl_BadCode) = true)
    (le_BadCode : K.lookup cc_BadCode = some ⟨cl_BadCode, cld_BadCode, .cell (some (.ref c_BadCode)), csl_BadCode⟩)
    (hl_BadCode : (q3_BadCode.endLine == q5_BadCode.line) = true)
    {c_BadOctets : Addr}
    (ac_BadOctets : PySem.W.nsIn K mainGlobals "BadOctets" = some (some (.ref c_BadOctets)))
    (ex_BadOctets : PySem.W.subIn K (.ref c_BadOctets) (.type "BaseException") = some true)
    (ty_BadOctets : PySem.W.typeIn K (.ref c_BadOctets) = some (.type "type"))
    (ic_BadOctets : PySem.W.isClsIn K c_BadOctets = true)
    {c_OwnError : Addr}
    (ac_OwnError : PySem.W.nsIn K mainGlobals "OwnError" = some (some (.ref c_OwnError)))
    (ex_OwnError : PySem.W.subIn K (.ref c_OwnError) (.type "BaseException") = some true)
    (ty_OwnError : PySem.W.typeIn K (.ref c_OwnError) = some (.type "type"))
    (ic_OwnError : PySem.W.isClsIn K c_OwnError = true)
    {c_Refused : Addr}
    (ac_Refused : PySem.W.nsIn K mainGlobals "Refused" = some (some (.ref c_Refused)))
    (ex_Refused : PySem.W.subIn K (.ref c_Refused) (.type "BaseException") = some true)
    (ty_Refused : PySem.W.typeIn K (.ref c_Refused) = some (.type "type"))
    (ic_Refused : PySem.W.isClsIn K c_Refused = true)
    (y_get : PySem.W.specialIn K (.builtin "object.__class__") "__get__" = some (some (.builtin "getset_descriptor.__get__")))
    (y_tak : PySem.W.takesIn K (.builtin "object.__class__") = some true)
    (sb_OwnError_BadCode : PySem.W.subIn K (.ref c_BadCode) (.ref c_OwnError) = some true)
    (kn_BadOctets_BadCode : PySem.W.kitOne K (.ref c_BadCode) (.ref c_BadOctets) = some false)
    (kn_Refused_BadCode : PySem.W.kitOne K (.ref c_BadCode) (.ref c_Refused) = some false)
    (hG : ∀ ns : List Int, ns.length ≤ 63 → G_law [.scr (ns.map D.int)] [] = .ok (.bl true) []) :
    ∃ fd : FuncData, (∀ (s : Shared) (v : Value), BindsTo s fd ⟨[v], []⟩ [("script", v)]) ∧ ∀ base : Heap, K.In base → base.Ns mainGlobals mg → FnOk l.prog w K mg base CX0 9 fa fd ["script"] (spL 63 K) := by
  have e := hfa.symm.trans (PySem.W.mg_of X G a_law)
  cases e
  refine ⟨PySem.W.fnOf "law" "law" (defArgs S_law) (defBody S_law) (defScope S_law) .none kV_law dc_law pm_law an_law cd_law ct_law, fun s v => .of_eq rfl, fun base _ _ => ?_⟩
  have xo_BadCode : QX.OwnTxt l.prog K mg ((fun s => if s = "BadCode" then c_BadCode else if s = "BadOctets" then c_BadOctets else if s = "OwnError" then c_OwnError else if s = "Refused" then c_Refused else fa) "BadCode") fI_BadCode "BadCode" (fld "BadCode") := (show QX.OwnTxt l.prog K mg c_BadCode fI_BadCode "BadCode" "at" from ⟨PySem.W.mg_of X G ac_BadCode, PySem.W.mg_none_of X G z_super, y_main, ⟨_, _, _, _, _, _, _, _, _, _, _, _, _, _, _, lc_BadCode, rfl⟩, xi_BadCode, sa_BadCode, ga_BadCode, gg_BadCode, no_BadCode, in_BadCode, ti_BadCode, kc_BadCode, ex_BadCode, ve_BadCode, cc1_BadCode, su_BadCode, y_opq, ty_BadCode, hd_BadCode, ⟨_, _, _, _, _, _, _, _, _, _, _, _, _, _, _, _, _, _, _, _, _, _, _, _, _, _, _, _, _, _, _, _, _, _, hl_BadCode, lf_BadCode, ci_BadCode, ld_BadCode, vv_BadCode, ff_BadCode, le_BadCode⟩⟩)
  have xx_BadCode : ExcC K ((fun s => if s = "BadCode" then c_BadCode else if s = "BadOctets" then c_BadOctets else if s = "OwnError" then c_OwnError else if s = "Refused" then c_Refused else fa) "BadCode") := (show ExcC K c_BadCode from ⟨ga_BadCode, gg_BadCode, ex_BadCode, hd_BadCode, xa_BadCode, y_get, y_tak, xm_BadCode⟩)
  have h_is_int : Kn (fun s => if s = "BadCode" then c_BadCode else if s = "BadOctets" then c_BadOctets else if s = "OwnError" then c_OwnError else if s = "Refused" then c_Refused else fa) l.prog w K mg base "is_int" S_is_int P_is_int 1 G_is_int f_is_int _ := K_is_int (PySem.W.mg_none_of X G z_bool) (PySem.W.mg_none_of X G z_int) (PySem.W.mg_none_of X G z_isinstance) (PySem.W.mg_of X G a_is_int) (fun_mk (st := S_is_int) l_is_int c_is_int k_is_int)
  have h_is_number : KnD (fun s => if s = "BadCode" then c_BadCode else if s = "BadOctets" then c_BadOctets else if s = "OwnError" then c_OwnError else if s = "Refused" then c_Refused else fa) l.prog w K mg base "is_number" S_is_number P_is_number 2 G_is_number [.int 0, .non] f_is_number _ := K_is_number h_is_int (PySem.W.mg_of X G a_is_number) ⟨⟨_, _, _, _, _, _, _, _, _, _, rfl, l_is_number, c_is_number, .inr ⟨by decide, _, _, [_, _], _, rfl, t_is_number, rfl, .cons ⟨_, rfl⟩ (.cons rfl (.nil))⟩, .inl rfl⟩, k_is_number⟩
  have h_is_tuple : KnD (fun s => if s = "BadCode" then c_BadCode else if s = "BadOctets" then c_BadOctets else if s = "OwnError" then c_OwnError else if s = "Refused" then c_Refused else fa) l.prog w K mg base "is_tuple" S_is_tuple P_is_tuple 1 G_is_tuple [.non] f_is_tuple _ := K_is_tuple (PySem.W.mg_none_of X G z_isinstance) (PySem.W.mg_none_of X G z_len) (PySem.W.mg_none_of X G z_tuple) (PySem.W.mg_of X G a_is_tuple) ⟨⟨_, _, _, _, _, _, _, _, _, _, rfl, l_is_tuple, c_is_tuple, .inr ⟨by decide, _, _, [_], _, rfl, t_is_tuple, rfl, .cons rfl (.nil)⟩, .inl rfl⟩, k_is_tuple⟩
  have h_is_numbers : KnD (fun s => if s = "BadCode" then c_BadCode else if s = "BadOctets" then c_BadOctets else if s = "OwnError" then c_OwnError else if s = "Refused" then c_Refused else fa) l.prog w K mg base "is_numbers" S_is_numbers P_is_numbers 3 G_is_numbers [.int 0, .non] f_is_numbers _ := K_is_numbers (PySem.W.mg_none_of X G z_len) h_is_tuple h_is_number (PySem.W.mg_of X G a_is_numbers) ⟨⟨_, _, _, _, _, _, _, _, _, _, rfl, l_is_numbers, c_is_numbers, .inr ⟨by decide, _, _, [_, _], _, rfl, t_is_numbers, rfl, .cons ⟨_, rfl⟩ (.cons rfl (.nil))⟩, .inl rfl⟩, k_is_numbers⟩
  have h_is_line : Kn (fun s => if s = "BadCode" then c_BadCode else if s = "BadOctets" then c_BadOctets else if s = "OwnError" then c_OwnError else if s = "Refused" then c_Refused else fa) l.prog w K mg base "is_line" S_is_line P_is_line 3 G_is_line f_is_line _ := K_is_line (PySem.W.mg_none_of X G z_all) (PySem.W.mg_none_of X G z_isinstance) (PySem.W.mg_none_of X G z_len) (PySem.W.mg_none_of X G z_str) (PySem.W.mg_none_of X G z_tuple) ⟨PySem.W.mg_of X G v_ARGUMENTS, fun kv hkv => by simp only [List.mem_cons, List.not_mem_nil, or_false] at hkv; rcases hkv with rfl | rfl | rfl | rfl | rfl | rfl; exact ⟨_, _, _, l_ARGUMENTS, h_ARGUMENTS, e0_ARGUMENTS, ⟨_, rfl⟩⟩; exact ⟨_, _, _, l_ARGUMENTS, h_ARGUMENTS, e1_ARGUMENTS, ⟨_, rfl⟩⟩; exact ⟨_, _, _, l_ARGUMENTS, h_ARGUMENTS, e2_ARGUMENTS, ⟨_, rfl⟩⟩; exact ⟨_, _, _, l_ARGUMENTS, h_ARGUMENTS, e3_ARGUMENTS, ⟨_, rfl⟩⟩; exact ⟨_, _, _, l_ARGUMENTS, h_ARGUMENTS, e4_ARGUMENTS, ⟨_, rfl⟩⟩; exact ⟨_, _, _, l_ARGUMENTS, h_ARGUMENTS, e5_ARGUMENTS, ⟨_, rfl⟩⟩⟩ (PySem.W.mg_of X G v_MOST_TIMES) ⟨PySem.W.mg_of X G v_WORDS, ⟨_, _, _, l_WORDS, rfl, rfl, (show 6 ≤ sizeLine from by decide), .cons ⟨_, rfl⟩ (.cons ⟨_, rfl⟩ (.cons ⟨_, rfl⟩ (.cons ⟨_, rfl⟩ (.cons ⟨_, rfl⟩ (.cons ⟨_, rfl⟩ (.nil))))))⟩⟩ h_is_number (PySem.W.mg_of X G a_is_line) (fun_mk (st := S_is_line) l_is_line c_is_line k_is_line)
  have h_check_code : KnX (fun s => if s = "BadCode" then c_BadCode else if s = "BadOctets" then c_BadOctets else if s = "OwnError" then c_OwnError else if s = "Refused" then c_Refused else fa) l.prog w K mg base "check_code" S_check_code P_check_code 4 G_check_code f_check_code _ := K_check_code (PySem.W.mg_none_of X G z_enumerate) (PySem.W.mg_none_of X G z_len) (PySem.W.mg_of X G v_MOST_LINES) (PySem.W.mg_of X G v_MOST_SENT) (PySem.W.mg_of X G v_MOST_TAKEN) (PySem.W.mg_of X G v_MOST_TOP) (PySem.W.mg_of X G v_MOST_TOPS) xo_BadCode h_is_tuple h_is_numbers h_is_number h_is_line (PySem.W.mg_of X G a_check_code) (fun_mk (st := S_check_code) l_check_code c_check_code k_check_code)
  have h_law_box : Kn (fun s => if s = "BadCode" then c_BadCode else if s = "BadOctets" then c_BadOctets else if s = "OwnError" then c_OwnError else if s = "Refused" then c_Refused else fa) l.prog w K mg base "_law_box" S_law_box P_law_box 1 G_law_box f_law_box _ := K_law_box (PySem.W.mg_none_of X G z_abs) (PySem.W.mg_none_of X G z_int) (PySem.W.mg_none_of X G z_len) (PySem.W.mg_of X G a_law_box) (fun_mk (st := S_law_box) l_law_box c_law_box k_law_box)
  have h_law_take : Kn (fun s => if s = "BadCode" then c_BadCode else if s = "BadOctets" then c_BadOctets else if s = "OwnError" then c_OwnError else if s = "Refused" then c_Refused else fa) l.prog w K mg base "_law_take" S_law_take P_law_take 1 G_law_take f_law_take _ := K_law_take (PySem.W.mg_none_of X G z_int) (PySem.W.mg_of X G a_law_take) (fun_mk (st := S_law_take) l_law_take c_law_take k_law_take)
  have h_law_same : Kn (fun s => if s = "BadCode" then c_BadCode else if s = "BadOctets" then c_BadOctets else if s = "OwnError" then c_OwnError else if s = "Refused" then c_Refused else fa) l.prog w K mg base "_law_same" S_law_same P_law_same 8 G_law_same f_law_same _ := K_law_same (PySem.W.mg_none_of X G z_bool) (PySem.W.mg_none_of X G z_int) (PySem.W.mg_none_of X G z_isinstance) (PySem.W.mg_none_of X G z_len) (PySem.W.mg_none_of X G z_str) (PySem.W.mg_none_of X G z_tuple) (PySem.W.mg_none_of X G z_zip) (PySem.W.mg_of X G a_law_same) (fun_mk (st := S_law_same) l_law_same c_law_same k_law_same)
  have h_law_drawn_code : Kn (fun s => if s = "BadCode" then c_BadCode else if s = "BadOctets" then c_BadOctets else if s = "OwnError" then c_OwnError else if s = "Refused" then c_Refused else fa) l.prog w K mg base "_law_drawn_code" S_law_drawn_code P_law_drawn_code 2 G_law_drawn_code f_law_drawn_code _ := K_law_drawn_code (PySem.W.mg_none_of X G z_len) (PySem.W.mg_none_of X G z_min) (PySem.W.mg_none_of X G z_range) (PySem.W.mg_none_of X G z_tuple) h_law_take (PySem.W.mg_of X G a_law_drawn_code) (fun_mk (st := S_law_drawn_code) l_law_drawn_code c_law_drawn_code k_law_drawn_code)
  have h_law_number : Kn (fun s => if s = "BadCode" then c_BadCode else if s = "BadOctets" then c_BadOctets else if s = "OwnError" then c_OwnError else if s = "Refused" then c_Refused else fa) l.prog w K mg base "_law_number" S_law_number P_law_number 1 G_law_number f_law_number _ := K_law_number (PySem.W.mg_none_of X G z_bool) (PySem.W.mg_none_of X G z_int) (PySem.W.mg_none_of X G z_isinstance) (PySem.W.mg_of X G a_law_number) (fun_mk (st := S_law_number) l_law_number c_law_number k_law_number)
  have h_law_is_line : Kn (fun s => if s = "BadCode" then c_BadCode else if s = "BadOctets" then c_BadOctets else if s = "OwnError" then c_OwnError else if s = "Refused" then c_Refused else fa) l.prog w K mg base "_law_is_line" S_law_is_line P_law_is_line 2 G_law_is_line f_law_is_line _ := K_law_is_line (PySem.W.mg_none_of X G z_isinstance) (PySem.W.mg_none_of X G z_len) (PySem.W.mg_none_of X G z_str) (PySem.W.mg_none_of X G z_tuple) (PySem.W.mg_none_of X G z_zip) h_law_number (PySem.W.mg_of X G a_law_is_line) (fun_mk (st := S_law_is_line) l_law_is_line c_law_is_line k_law_is_line)
  have h_law_code_fault : Kn (fun s => if s = "BadCode" then c_BadCode else if s = "BadOctets" then c_BadOctets else if s = "OwnError" then c_OwnError else if s = "Refused" then c_Refused else fa) l.prog w K mg base "_law_code_fault" S_law_code_fault P_law_code_fault 3 G_law_code_fault f_law_code_fault _ := K_law_code_fault (PySem.W.mg_none_of X G z_isinstance) (PySem.W.mg_none_of X G z_len) (PySem.W.mg_none_of X G z_range) (PySem.W.mg_none_of X G z_tuple) h_law_number h_law_is_line (PySem.W.mg_of X G a_law_code_fault) (fun_mk (st := S_law_code_fault) l_law_code_fault c_law_code_fault k_law_code_fault)
  have h_law_told : Kn (fun s => if s = "BadCode" then c_BadCode else if s = "BadOctets" then c_BadOctets else if s = "OwnError" then c_OwnError else if s = "Refused" then c_Refused else fa) l.prog w K mg base "_law_told" S_law_told P_law_told 5 G_law_told f_law_told _ := K_law_told (PySem.W.mg_none_of X G z_isinstance) (PySem.W.mg_of X G ac_OwnError) xo_BadCode (show PySem.W.exmOne K (.ref ((fun s => if s = "BadCode" then c_BadCode else if s = "BadOctets" then c_BadOctets else if s = "OwnError" then c_OwnError else if s = "Refused" then c_Refused else fa) "BadCode")) (.ref c_OwnError) = some true from exm_of ex_BadCode ic_OwnError ty_OwnError sb_OwnError_BadCode ex_OwnError) xx_BadCode (show (PySem.W.clsIn K ((fun s => if s = "BadCode" then c_BadCode else if s = "BadOctets" then c_BadOctets else if s = "OwnError" then c_OwnError else if s = "Refused" then c_Refused else fa) "BadCode")).isSome = true from ic_BadCode) (PySem.W.mg_of X G ac_Refused) (show PySem.W.kitOne K (.ref ((fun s => if s = "BadCode" then c_BadCode else if s = "BadOctets" then c_BadOctets else if s = "OwnError" then c_OwnError else if s = "Refused" then c_Refused else fa) "BadCode")) (.ref c_Refused) = some false from kn_Refused_BadCode) (PySem.W.mg_of X G ac_BadOctets) (show PySem.W.kitOne K (.ref ((fun s => if s = "BadCode" then c_BadCode else if s = "BadOctets" then c_BadOctets else if s = "OwnError" then c_OwnError else if s = "Refused" then c_Refused else fa) "BadCode")) (.ref c_BadOctets) = some false from kn_BadOctets_BadCode) h_check_code (PySem.W.mg_of X G a_law_told) (fun_mk (st := S_law_told) l_law_told c_law_told k_law_told)
  have h_law_bent : Kn (fun s => if s = "BadCode" then c_BadCode else if s = "BadOctets" then c_BadOctets else if s = "OwnError" then c_OwnError else if s = "Refused" then c_Refused else fa) l.prog w K mg base "_law_bent" S_law_bent P_law_bent 2 G_law_bent f_law_bent _ := K_law_bent (PySem.W.mg_none_of X G z_len) (PySem.W.mg_none_of X G z_list) h_law_take (PySem.W.mg_of X G a_law_bent) (fun_mk (st := S_law_bent) l_law_bent c_law_bent k_law_bent)
  have h_law : Kn (fun s => if s = "BadCode" then c_BadCode else if s = "BadOctets" then c_BadOctets else if s = "OwnError" then c_OwnError else if s = "Refused" then c_Refused else fa) l.prog w K mg base "law" S_law P_law 9 G_law fa _ := K_law (PySem.W.mg_none_of X G z_len) (PySem.W.mg_none_of X G z_max) (PySem.W.mg_none_of X G z_min) (PySem.W.mg_none_of X G z_range) h_law_box h_law_drawn_code h_law_bent h_law_code_fault h_law_same h_law_told (PySem.W.mg_of X G a_law) (fun_mk (st := S_law) l_law c_law k_law)
  exact law_fn h_law hG
end QI
open PySem PySem.W PyProof.Rows
set_option maxHeartbeats 0 in
theorem PySem.Challenge.cw_whoevertakes_k32_what_is_a_code_holds : PySem.Challenge.rw_whoevertakes_k32_what_is_a_code.Holds := by
  w_on; o_law; k_head; (case hw => w_witness2)
  k_fill
  refine L2.walk_of (l := PySem.Challenge.rw_whoevertakes_k32_what_is_a_code) (n := 63) (k := 9) (x := "script") (CX := fun _ => L2.CX0) (sp := fun w => QI.spL 63 _) rfl (by decide) rfl ⟨rfl, by decide, by decide⟩ (fun w h Y => PySem.W.kIn_of Y) ?F (fun _ _ a ns hl hO hS => QI.law_sp hl hO hS) (fun _ _ _ _ _ h => h)
  case F =>
    intro w mg fa h KX G hmg
    refine' QI.all_mk KX G hmg ?a_is_int ?l_is_int ?c_is_int ?k_is_int ?a_is_number ?l_is_number ?t_is_number ?c_is_number ?k_is_number ?a_is_tuple ?l_is_tuple ?t_is_tuple ?c_is_tuple ?k_is_tuple ?a_is_numbers ?l_is_numbers ?t_is_numbers ?c_is_numbers ?k_is_numbers ?a_is_line ?l_is_line ?c_is_line ?k_is_line ?a_check_code ?l_check_code ?c_check_code ?k_check_code ?a_law_box ?l_law_box ?c_law_box ?k_law_box ?a_law_take ?l_law_take ?c_law_take ?k_law_take ?a_law_same ?l_law_same ?c_law_same ?k_law_same ?a_law_drawn_code ?l_law_drawn_code ?c_law_drawn_code ?k_law_drawn_code ?a_law_number ?l_law_number ?c_law_number ?k_law_number ?a_law_is_line ?l_law_is_line ?c_law_is_line ?k_law_is_line ?a_law_code_fault ?l_law_code_fault ?c_law_code_fault ?k_law_code_fault ?a_law_told ?l_law_told ?c_law_told ?k_law_told ?a_law_bent ?l_law_bent ?c_law_bent ?k_law_bent ?a_law ?l_law ?c_law ?k_law ?z_abs ?z_all ?z_bool ?z_enumerate ?z_int ?z_isinstance ?z_len ?z_list ?z_max ?z_min ?z_range ?z_str ?z_tuple ?z_zip ?v_ARGUMENTS ?l_ARGUMENTS ?h_ARGUMENTS ?e0_ARGUMENTS ?e1_ARGUMENTS ?e2_ARGUMENTS ?e3_ARGUMENTS ?e4_ARGUMENTS ?e5_ARGUMENTS ?v_MOST_LINES ?v_MOST_SENT ?v_MOST_TAKEN ?v_MOST_TIMES ?v_MOST_TOP ?v_MOST_TOPS ?v_WORDS ?l_WORDS ?z_super ?y_main ?y_opq ?ac_BadCode ?ex_BadCode ?ty_BadCode ?ic_BadCode ?ga_BadCode ?gg_BadCode ?hd_BadCode ?xa_BadCode ?xm_BadCode ?lc_BadCode ?xi_BadCode ?sa_BadCode ?no_BadCode ?in_BadCode ?ti_BadCode ?kc_BadCode ?ve_BadCode ?cc1_BadCode ?su_BadCode ?lf_BadCode ?ci_BadCode ?ld_BadCode ?vv_BadCode ?ff_BadCode ?le_BadCode ?hl_BadCode ?ac_BadOctets ?ex_BadOctets ?ty_BadOctets ?ic_BadOctets ?ac_OwnError ?ex_OwnError ?ty_OwnError ?ic_OwnError ?ac_Refused ?ex_Refused ?ty_Refused ?ic_Refused ?y_get ?y_tak ?sb_OwnError_BadCode ?kn_BadOctets_BadCode ?kn_Refused_BadCode (fun ns h => QI.F32.e_law ns (by omega))
    (case a_is_int => k_is); (case l_is_int => k_is); (case c_is_int => k_is); (case k_is_int => k_is); (case a_is_number => k_is); (case l_is_number => k_is); (case t_is_number => first | exact rfl | k_is); (case c_is_number => k_is); (case k_is_number => k_is); (case a_is_tuple => k_is); (case l_is_tuple => k_is); (case t_is_tuple => first | exact rfl | k_is); (case c_is_tuple => k_is); (case k_is_tuple => k_is); (case a_is_numbers => k_is); (case l_is_numbers => k_is); (case t_is_numbers => first | exact rfl | k_is); (case c_is_numbers => k_is); (case k_is_numbers => k_is); (case a_is_line => k_is); (case l_is_line => k_is); (case c_is_line => k_is); (case k_is_line => k_is); (case a_check_code => k_is); (case l_check_code => k_is); (case c_check_code => k_is); (case k_check_code => k_is); (case a_law_box => k_is); (case l_law_box => k_is); (case c_law_box => k_is); (case k_law_box => k_is); (case a_law_take => k_is); (case l_law_take => k_is); (case c_law_take => k_is); (case k_law_take => k_is); (case a_law_same => k_is); (case l_law_same => k_is); (case c_law_same => k_is); (case k_law_same => k_is); (case a_law_drawn_code => k_is); (case l_law_drawn_code => k_is); (case c_law_drawn_code => k_is); (case k_law_drawn_code => k_is); (case a_law_number => k_is); (case l_law_number => k_is); (case c_law_number => k_is); (case k_law_number => k_is); (case a_law_is_line => k_is); (case l_law_is_line => k_is); (case c_law_is_line => k_is); (case k_law_is_line => k_is); (case a_law_code_fault => k_is); (case l_law_code_fault => k_is); (case c_law_code_fault => k_is); (case k_law_code_fault => k_is); (case a_law_told => k_is); (case l_law_told => k_is); (case c_law_told => k_is); (case k_law_told => k_is); (case a_law_bent => k_is); (case l_law_bent => k_is); (case c_law_bent => k_is); (case k_law_bent => k_is); (case a_law => k_is); (case l_law => k_is); (case c_law => k_is); (case k_law => k_is); (case z_abs => k_is); (case z_all => k_is); (case z_bool => k_is); (case z_enumerate => k_is); (case z_int => k_is); (case z_isinstance => k_is); (case z_len => k_is); (case z_list => k_is); (case z_max => k_is); (case z_min => k_is); (case z_range => k_is); (case z_str => k_is); (case z_tuple => k_is); (case z_zip => k_is); (case v_ARGUMENTS => k_is); (case l_ARGUMENTS => k_is); (case h_ARGUMENTS => repeat' (first | exact trivial | refine ⟨⟨_, _, rfl, rfl⟩, ?_⟩)); (case e0_ARGUMENTS => first | exact rfl | k_is); (case e1_ARGUMENTS => first | exact rfl | k_is); (case e2_ARGUMENTS => first | exact rfl | k_is); (case e3_ARGUMENTS => first | exact rfl | k_is); (case e4_ARGUMENTS => first | exact rfl | k_is); (case e5_ARGUMENTS => first | exact rfl | k_is); (case v_MOST_LINES => k_is); (case v_MOST_SENT => k_is); (case v_MOST_TAKEN => k_is); (case v_MOST_TIMES => k_is); (case v_MOST_TOP => k_is); (case v_MOST_TOPS => k_is); (case v_WORDS => k_is); (case l_WORDS => k_is); (case z_super => k_is); (case y_main => first | exact rfl | k_is); (case y_opq => first | exact rfl | k_is); (case ac_BadCode => first | exact rfl | k_is); (case ex_BadCode => first | exact rfl | k_is); (case ty_BadCode => first | exact rfl | k_is); (case ic_BadCode => first | exact rfl | k_is); (case ga_BadCode => first | exact rfl | k_is); (case gg_BadCode => first | exact rfl | k_is); (case hd_BadCode => first | exact rfl | k_is); (case xa_BadCode => first | exact rfl | k_is); (case xm_BadCode => first | exact rfl | k_is); (case lc_BadCode => first | exact rfl | k_is); (case xi_BadCode => first | exact rfl | k_is); (case sa_BadCode => first | exact rfl | k_is); (case no_BadCode => first | exact rfl | k_is); (case in_BadCode => first | exact rfl | k_is); (case ti_BadCode => first | exact rfl | k_is); (case kc_BadCode => first | exact rfl | k_is); (case ve_BadCode => first | exact rfl | k_is); (case cc1_BadCode => first | exact rfl | k_is); (case su_BadCode => first | exact rfl | k_is); (case lf_BadCode => first | exact rfl | k_is); (case ci_BadCode => first | exact rfl | k_is); (case ld_BadCode => first | exact rfl | k_is); (case vv_BadCode => first | exact rfl | k_is); (case ff_BadCode => first | exact rfl | k_is); (case le_BadCode => first | exact rfl | k_is); (case hl_BadCode => first | exact rfl | k_is); (case ac_BadOctets => first | exact rfl | k_is); (case ex_BadOctets => first | exact rfl | k_is); (case ty_BadOctets => first | exact rfl | k_is); (case ic_BadOctets => first | exact rfl | k_is); (case ac_OwnError => first | exact rfl | k_is); (case ex_OwnError => first | exact rfl | k_is); (case ty_OwnError => first | exact rfl | k_is); (case ic_OwnError => first | exact rfl | k_is); (case ac_Refused => first | exact rfl | k_is); (case ex_Refused => first | exact rfl | k_is); (case ty_Refused => first | exact rfl | k_is); (case ic_Refused => first | exact rfl | k_is); (case y_get => first | exact rfl | k_is); (case y_tak => first | exact rfl | k_is); (case sb_OwnError_BadCode => first | exact rfl | k_is); (case kn_BadOctets_BadCode => first | exact rfl | k_is); (case kn_Refused_BadCode => first | exact rfl | k_is)
