import PyProof.Rows.All
import Wide.All
import OpenK.AllK
import Wide.FinOn
import HandS.ForMost
import HandS.IsInst
import HandS.TupAny
import HandS.TupMul
import HandS.Style
import HandS.Conv
import PyProof.Rows.IntBool
import PyProof.TwoTypesSub
import KE.KUnpackStar
import KE.KRevSl
import HandS.ReplaceLit
import HandS.Dict
import HandS.More
import HandS.Ends
import HandS.Head0
import HandS.Head1
import HandS.Head2
import HandS.HeadHook1
import HandS.HeadHook2
import HandS.HeadHook3
import HandS.Codes
import PyProof.StrLawsRepr
import PyProof.FitsInt
import PyProof.Rows.StrCase
import HandS.ReplaceList
import PySem.Challenge.RW_kindsbyworth_k04_terms_there_and_back
set_option Elab.async false
set_option linter.all false
set_option maxRecDepth 100000
set_option maxHeartbeats 0
/-! MP1: values of a small functional Python (D), its store, how they lie in the layer's heap; the readings by functions. -/
namespace MP
open PySem L2

/-! ### values, store, results -/
inductive D where
  | non
  | bl (b : Bool)
  | int (i : Int)
  | str (x : Str)
  | tup (xs : List D)
  | lst (xs : List D)
  | frz (xs : List D)
  | dic (kvs : List (Key × D))
  | ref (n : Nat)
  deriving Inhabited

inductive O where
  | lst (xs : List D)
  | dic (kvs : List (Key × D))
  /-- a dict while it is walked -/
  | fdic (kvs : List (Key × D))
  deriving Inhabited

abbrev Sto := List O
abbrev Env := List (Option D)

inductive R (α : Type) where
  | ok (a : α) (S : Sto)
  | bad

abbrev M (α : Type) := Sto → R α
def M.pure {α : Type} (a : α) : M α := fun S => .ok a S
def M.bind {α β : Type} (m : M α) (f : α → M β) : M β := fun S => match m S with
  | .ok a S' => f a S'
  | .bad => .bad
instance : Monad M where
  pure := M.pure
  bind := M.bind
def M.fail {α : Type} : M α := fun _ => .bad
def M.of {α : Type} : Option α → M α
  | some a => M.pure a
  | none => M.fail
def M.get : M Sto := fun S => .ok S S
def M.put (S : Sto) : M Unit := fun _ => .ok () S

@[simp] theorem bind_run {α β : Type} (m : M α) (f : α → M β) (S : Sto) : (m >>= f) S = match m S with | .ok a S' => f a S' | .bad => .bad := rfl
@[simp] theorem pure_run {α : Type} (a : α) (S : Sto) : (pure a : M α) S = .ok a S := rfl
@[simp] theorem mpure_run {α : Type} (a : α) (S : Sto) : (M.pure a : M α) S = .ok a S := rfl
@[simp] theorem fail_run {α : Type} (S : Sto) : (M.fail : M α) S = .bad := rfl
@[simp] theorem of_some {α : Type} (a : α) (S : Sto) : (M.of (some a)) S = .ok a S := rfl
@[simp] theorem of_none {α : Type} (S : Sto) : (M.of (none : Option α)) S = .bad := rfl
@[simp] theorem get_run (S : Sto) : M.get S = .ok S S := rfl
@[simp] theorem put_run (S T : Sto) : M.put T S = .ok () T := rfl

/-! ### how a value lies in the heap. η: where the store's objects stand -/
def KTup (K : PySem.W.Frag) (a : Addr) (vs : List V) : Prop :=
  ∃ (o : Obj) (its : Array Value) (n : Nat), K.lookup a = some o ∧ o.cls = .type "tuple" ∧ o.data = .seq its n ∧ its.size ≤ sizeLine ∧ Vals vs its.toList
def KLst (K : PySem.W.Frag) (a : Addr) (vs : List V) : Prop :=
  ∃ (o : Obj) (its : Array Value) (n : Nat), K.lookup a = some o ∧ o.cls = .type "list" ∧ o.dict = none ∧ o.data = .seq its n ∧ its.size ≤ sizeLine ∧ Vals vs its.toList
def TupAt (K : PySem.W.Frag) (η : List Addr) (H : Hp) (a : Addr) (vs : List V) : Prop := (H a = some (.tup vs) ∧ a ∉ η) ∨ KTup K a vs
def LstAt (η : List Addr) (H : Hp) (a : Addr) (vs : List V) : Prop := H a = some (.lst vs) ∧ a ∉ η
/-- a list that is read alone (the script) -/
def FrzAt (K : PySem.W.Frag) (η : List Addr) (H : Hp) (a : Addr) (vs : List V) : Prop := (Rd H a (.lst vs) ∧ a ∉ η) ∨ KLst K a vs
def DicAt (η : List Addr) (H : Hp) (a : Addr) (kvs : List (Key × V)) : Prop := H a = some (.dK kvs) ∧ a ∉ η
theorem TupAt.sq {K : PySem.W.Frag} {η : List Addr} {H : Hp} {a : Addr} {vs : List V} (h : TupAt K η H a vs) : SqT K H a vs := by
  rcases h with h | h
  · exact .inl (.inl h.1)
  · exact .inr h
theorem LstAt.sq {K : PySem.W.Frag} {η : List Addr} {H : Hp} {a : Addr} {vs : List V} (h : LstAt η H a vs) : SqL K H a vs := .inl (.inl h.1)
theorem FrzAt.sq {K : PySem.W.Frag} {η : List Addr} {H : Hp} {a : Addr} {vs : List V} (h : FrzAt K η H a vs) : SqL K H a vs := by
  rcases h with h | h
  · exact .inl h.1
  · exact .inr h

mutual
inductive Rep (K : PySem.W.Frag) (η : List Addr) (H : Hp) : D → V → Prop
  | non : Rep K η H .non .non
  | bl (b : Bool) : Rep K η H (.bl b) (.bl b)
  | int (i : Int) : Rep K η H (.int i) (.int i)
  | str (x : Str) : Rep K η H (.str x) (.str x)
  | tup {a : Addr} {vs : List V} {ds : List D} : TupAt K η H a vs → Reps K η H ds vs → Rep K η H (.tup ds) (.ref a)
  | lst {a : Addr} {vs : List V} {ds : List D} : LstAt η H a vs → Reps K η H ds vs → Rep K η H (.lst ds) (.ref a)
  | frz {a : Addr} {vs : List V} {ds : List D} : FrzAt K η H a vs → Reps K η H ds vs → Rep K η H (.frz ds) (.ref a)
  | dic {a : Addr} {kvs : List (Key × V)} {kds : List (Key × D)} : DicAt η H a kvs → Repk K η H kds kvs → Rep K η H (.dic kds) (.ref a)
  | ref {n : Nat} {a : Addr} : η[n]? = some a → Rep K η H (.ref n) (.ref a)
inductive Reps (K : PySem.W.Frag) (η : List Addr) (H : Hp) : List D → List V → Prop
  | nil : Reps K η H [] []
  | cons {d : D} {v : V} {ds : List D} {vs : List V} : Rep K η H d v → Reps K η H ds vs → Reps K η H (d :: ds) (v :: vs)
inductive Repk (K : PySem.W.Frag) (η : List Addr) (H : Hp) : List (Key × D) → List (Key × V) → Prop
  | nil : Repk K η H [] []
  | cons {k : Key} {d : D} {v : V} {ds : List (Key × D)} {vs : List (Key × V)} : Rep K η H d v → Repk K η H ds vs → Repk K η H ((k, d) :: ds) ((k, v) :: vs)
end

structure Grow (η : List Addr) (H : Hp) (η' : List Addr) (H' : Hp) : Prop where
  pre : ∃ μ, η' = η ++ μ ∧ ∀ a ∈ μ, a ∉ η ∧ H a = none
  keep : ∀ a o, a ∉ η → H a = some o → H' a = some o
  frz : ∀ a o u, H a = some (.frz o u) → H' a = some (.frz o u)

theorem Grow.refl (η : List Addr) (H : Hp) : Grow η H η H := ⟨⟨[], by simp, fun _ h => nomatch h⟩, fun _ _ _ h => h, fun _ _ _ h => h⟩
theorem Grow.notin {η η' : List Addr} {H H' : Hp} (g : Grow η H η' H') {a : Addr} {o : HO} (h : H a = some o) (n : a ∉ η) : a ∉ η' := by
  obtain ⟨μ, e, hμ⟩ := g.pre
  subst e
  intro hm
  rcases List.mem_append.mp hm with hm | hm
  · exact n hm
  · have := (hμ a hm).2
    rw [h] at this
    cases this
theorem Grow.trans {η η1 η2 : List Addr} {H H1 H2 : Hp} (g : Grow η H η1 H1) (g' : Grow η1 H1 η2 H2) : Grow η H η2 H2 := by
  obtain ⟨μ, e, hμ⟩ := g.pre
  obtain ⟨ν, e', hν⟩ := g'.pre
  refine ⟨⟨μ ++ ν, by rw [e', e, List.append_assoc], fun a ha => ?_⟩, fun a o n h => g'.keep a o (g.notin h n) (g.keep a o n h), fun a o u h => g'.frz a o u (g.frz a o u h)⟩
  rcases List.mem_append.mp ha with ha | ha
  · exact hμ a ha
  · obtain ⟨n1, z⟩ := hν a ha
    have n0 : a ∉ η := fun q => n1 (by rw [e]; exact List.mem_append_left _ q)
    refine ⟨n0, ?_⟩
    cases q : H a with
    | none => rfl
    | some o =>
      have := g.keep a o n0 q
      rw [z] at this
      cases this
theorem Grow.rd {η η' : List Addr} {H H' : Hp} (g : Grow η H η' H') {a : Addr} {u : HO} (r : Rd H a u) (n : a ∉ η) : Rd H' a u ∧ a ∉ η' := by
  rcases r with r | ⟨o, r⟩
  · exact ⟨.inl (g.keep _ _ n r), g.notin r n⟩
  · exact ⟨.inr ⟨o, g.keep _ _ n r⟩, g.notin r n⟩

mutual
theorem Rep.grow {K : PySem.W.Frag} {η η' : List Addr} {H H' : Hp} (g : Grow η H η' H') : ∀ {d : D} {v : V}, Rep K η H d v → Rep K η' H' d v
  | _, _, .non => .non
  | _, _, .bl b => .bl b
  | _, _, .int i => .int i
  | _, _, .str x => .str x
  | _, _, .tup h hs => by
    refine .tup ?_ (Reps.grow g hs)
    rcases h with h | h
    · exact .inl ⟨g.keep _ _ h.2 h.1, g.notin h.1 h.2⟩
    · exact .inr h
  | _, _, .lst h hs => .lst ⟨g.keep _ _ h.2 h.1, g.notin h.1 h.2⟩ (Reps.grow g hs)
  | _, _, .frz h hs => by
    refine .frz ?_ (Reps.grow g hs)
    rcases h with h | h
    · exact .inl (g.rd h.1 h.2)
    · exact .inr h
  | _, _, .dic h hs => .dic ⟨g.keep _ _ h.2 h.1, g.notin h.1 h.2⟩ (Repk.grow g hs)
  | _, _, .ref h => by
    obtain ⟨μ, e, _⟩ := g.pre
    refine .ref ?_
    rw [e, List.getElem?_append_left (List.getElem?_eq_some_iff.mp h).1]
    exact h
theorem Reps.grow {K : PySem.W.Frag} {η η' : List Addr} {H H' : Hp} (g : Grow η H η' H') : ∀ {ds : List D} {vs : List V}, Reps K η H ds vs → Reps K η' H' ds vs
  | _, _, .nil => .nil
  | _, _, .cons h hs => .cons (Rep.grow g h) (Reps.grow g hs)
theorem Repk.grow {K : PySem.W.Frag} {η η' : List Addr} {H H' : Hp} (g : Grow η H η' H') : ∀ {ds : List (Key × D)} {vs : List (Key × V)}, Repk K η H ds vs → Repk K η' H' ds vs
  | _, _, .nil => .nil
  | _, _, .cons h hs => .cons (Rep.grow g h) (Repk.grow g hs)
end

section
variable {K : PySem.W.Frag} {η : List Addr} {H : Hp}
theorem Reps.length : ∀ {ds : List D} {vs : List V}, Reps K η H ds vs → ds.length = vs.length
  | _, _, .nil => rfl
  | _, _, .cons _ t => by simp [Reps.length t]
theorem Reps.get : ∀ {ds : List D} {vs : List V} {i : Nat} {d : D}, Reps K η H ds vs → ds[i]? = some d → ∃ v, vs[i]? = some v ∧ Rep K η H d v
  | _, _, _, _, .nil, e => by simp at e
  | _, _, 0, _, .cons r _, e => by simp at e; subst e; exact ⟨_, rfl, r⟩
  | _, _, i + 1, d, .cons _ t, e => by
    obtain ⟨v, h1, h2⟩ := Reps.get (i := i) (d := d) t (by simpa using e)
    exact ⟨v, by simpa using h1, h2⟩
theorem Reps.getV : ∀ {ds : List D} {vs : List V} {i : Nat} {v : V}, Reps K η H ds vs → vs[i]? = some v → ∃ d, ds[i]? = some d ∧ Rep K η H d v
  | _, _, _, _, .nil, e => by simp at e
  | _, _, 0, _, .cons r _, e => by simp at e; subst e; exact ⟨_, rfl, r⟩
  | _, _, i + 1, d, .cons _ t, e => by
    obtain ⟨v, h1, h2⟩ := Reps.getV (i := i) (v := d) t (by simpa using e)
    exact ⟨v, by simpa using h1, h2⟩
theorem Reps.append : ∀ {ds es : List D} {vs ws : List V}, Reps K η H ds vs → Reps K η H es ws → Reps K η H (ds ++ es) (vs ++ ws)
  | _, _, _, _, .nil, s => s
  | _, _, _, _, .cons r t, s => .cons r (Reps.append t s)
theorem Reps.take : ∀ {ds : List D} {vs : List V} (n : Nat), Reps K η H ds vs → Reps K η H (ds.take n) (vs.take n)
  | _, _, 0, _ => by simp; exact .nil
  | _, _, _ + 1, .nil => by simp; exact .nil
  | _, _, n + 1, .cons r t => .cons r (Reps.take n t)
theorem Reps.drop : ∀ {ds : List D} {vs : List V} (n : Nat), Reps K η H ds vs → Reps K η H (ds.drop n) (vs.drop n)
  | _, _, 0, r => r
  | _, _, _ + 1, .nil => .nil
  | _, _, n + 1, .cons _ t => Reps.drop n t
theorem Reps.set {d : D} {v : V} (r : Rep K η H d v) : ∀ {ds : List D} {vs : List V} (i : Nat), Reps K η H ds vs → Reps K η H (ds.set i d) (vs.set i v)
  | _, _, _, .nil => .nil
  | _, _, 0, .cons _ t => .cons r t
  | _, _, i + 1, .cons q t => .cons q (Reps.set r i t)
theorem Reps.eraseIdx : ∀ {ds : List D} {vs : List V} (i : Nat), Reps K η H ds vs → Reps K η H (ds.eraseIdx i) (vs.eraseIdx i)
  | _, _, _, .nil => .nil
  | _, _, 0, .cons _ t => t
  | _, _, i + 1, .cons q t => .cons q (Reps.eraseIdx i t)
theorem Reps.dropLast : ∀ {ds : List D} {vs : List V}, Reps K η H ds vs → Reps K η H ds.dropLast vs.dropLast
  | _, _, .nil => .nil
  | _, _, .cons q .nil => .nil
  | _, _, .cons q (.cons q' t) => .cons q (Reps.dropLast (.cons q' t))
theorem Reps.reverse {ds : List D} {vs : List V} (h : Reps K η H ds vs) : Reps K η H ds.reverse vs.reverse := by
  induction ds generalizing vs with
  | nil => cases h; exact .nil
  | cons d ds ih =>
    cases h with
    | cons r t =>
      rw [List.reverse_cons, List.reverse_cons]
      exact (ih t).append (.cons r .nil)
theorem Reps.replicate {ds : List D} {vs : List V} (h : Reps K η H ds vs) : ∀ n : Nat, Reps K η H (List.replicate n ds).flatten (List.replicate n vs).flatten
  | 0 => .nil
  | n + 1 => by
    rw [List.replicate_succ, List.replicate_succ, List.flatten_cons, List.flatten_cons]
    exact h.append (Reps.replicate h n)
theorem Reps.ints : ∀ (ns : List Int), Reps K η H (ns.map D.int) (ns.map V.int)
  | [] => .nil
  | n :: r => .cons (.int n) (Reps.ints r)
theorem Reps.strs : ∀ (ns : List Str), Reps K η H (ns.map D.str) (ns.map V.str)
  | [] => .nil
  | n :: r => .cons (.str n) (Reps.strs r)
end

/-! ### the store -/
def OAt (K : PySem.W.Frag) (η : List Addr) (H : Hp) (a : Addr) : O → Prop
  | .lst ds => ∃ vs, H a = some (.lst vs) ∧ Reps K η H ds vs
  | .dic ds => ∃ vs, H a = some (.dK vs) ∧ Repk K η H ds vs
  | .fdic ds => ∃ o vs, H a = some (.frz o (.dK vs)) ∧ Repk K η H ds vs
structure StoOk (K : PySem.W.Frag) (η : List Addr) (H : Hp) (S : Sto) : Prop where
  len : η.length = S.length
  nd : η.Nodup
  look : ∀ (n : Nat) (o : O) (a : Addr), S[n]? = some o → η[n]? = some a → OAt K η H a o
def Trk (u : HO) : Prop := (∃ vs, u = .lst vs) ∨ (∃ vs, u = .dK vs) ∨ ∃ o vs, u = .frz o (.dK vs)
theorem OAt.trk {K : PySem.W.Frag} {η : List Addr} {H : Hp} {a : Addr} {o : O} (h : OAt K η H a o) : ∃ u, H a = some u ∧ Trk u := by
  cases o with
  | lst ds => obtain ⟨vs, e, _⟩ := h; exact ⟨_, e, .inl ⟨vs, rfl⟩⟩
  | dic ds => obtain ⟨vs, e, _⟩ := h; exact ⟨_, e, .inr (.inl ⟨vs, rfl⟩)⟩
  | fdic ds => obtain ⟨o, vs, e, _⟩ := h; exact ⟨_, e, .inr (.inr ⟨o, vs, rfl⟩)⟩
theorem StoOk.tracked {K : PySem.W.Frag} {η : List Addr} {H : Hp} {S : Sto} (s : StoOk K η H S) {a : Addr} (h : a ∈ η) : ∃ u, H a = some u ∧ Trk u := by
  obtain ⟨n, hn, e⟩ := List.getElem_of_mem h
  have h1 : η[n]? = some a := by rw [List.getElem?_eq_getElem hn, e]
  have hn' : n < S.length := by rw [← s.len]; exact hn
  exact (s.look n _ a (List.getElem?_eq_getElem hn') h1).trk
theorem StoOk.fresh {K : PySem.W.Frag} {η : List Addr} {H : Hp} {S : Sto} (s : StoOk K η H S) {p : Addr} (h : H p = none) : p ∉ η := fun hm => by
  obtain ⟨u, e, _⟩ := s.tracked hm
  rw [h] at e
  cases e

theorem OAt.grow {K : PySem.W.Frag} {η η' : List Addr} {H H' : Hp} (g : Grow η H η' H') {a : Addr} {o : O} (h : OAt K η H a o) (e : H' a = H a) : OAt K η' H' a o := by
  cases o with
  | lst ds =>
    obtain ⟨vs, h1, h2⟩ := h
    exact ⟨vs, by rw [e]; exact h1, h2.grow g⟩
  | dic ds =>
    obtain ⟨vs, h1, h2⟩ := h
    exact ⟨vs, by rw [e]; exact h1, h2.grow g⟩
  | fdic ds =>
    obtain ⟨o, vs, h1, h2⟩ := h
    exact ⟨o, vs, by rw [e]; exact h1, h2.grow g⟩

/-- a new tracked thing that is no object of the store -/
theorem grow_new {K : PySem.W.Frag} {η : List Addr} {H : Hp} {S : Sto} (s : StoOk K η H S) {p : Addr} {u : HO} (hp : H p = none) : Grow η H η (upd H p u) :=
  ⟨⟨[], by simp, fun _ h => nomatch h⟩, fun a o _ h => by rw [upd_ne (ne_of_none h hp)]; exact h, fun a o u h => by rw [upd_ne (ne_of_none h hp)]; exact h⟩
theorem StoOk.laid {K : PySem.W.Frag} {η : List Addr} {H : Hp} {S : Sto} (s : StoOk K η H S) {p : Addr} {u : HO} (hp : H p = none) : StoOk K η (upd H p u) S :=
  ⟨s.len, s.nd, fun n o a h1 h2 => (s.look n o a h1 h2).grow (grow_new s hp) (upd_ne fun e => s.fresh hp (e ▸ List.mem_of_getElem? h2))⟩
/-- a new object of the store -/
theorem grow_push {K : PySem.W.Frag} {η : List Addr} {H : Hp} {S : Sto} (s : StoOk K η H S) {p : Addr} {u : HO} (hp : H p = none) : Grow η H (η ++ [p]) (upd H p u) :=
  ⟨⟨[p], rfl, fun a ha => by
    rw [List.mem_singleton] at ha
    subst ha
    exact ⟨s.fresh hp, hp⟩⟩, fun a o _ h => by rw [upd_ne (ne_of_none h hp)]; exact h, fun a o u h => by rw [upd_ne (ne_of_none h hp)]; exact h⟩
theorem StoOk.pushO {K : PySem.W.Frag} {η : List Addr} {H : Hp} {S : Sto} (s : StoOk K η H S) {p : Addr} {u : HO} {oo : O} (hp : H p = none) (hr : OAt K (η ++ [p]) (upd H p u) p oo) :
    StoOk K (η ++ [p]) (upd H p u) (S ++ [oo]) := by
  have g := grow_push (u := u) s hp
  refine ⟨by simp [s.len], ?_, fun n o a h1 h2 => ?_⟩
  · rw [List.nodup_append]
    refine ⟨s.nd, by simp, fun a ha b hb => ?_⟩
    rw [List.mem_singleton] at hb
    subst hb
    exact fun e => s.fresh hp (e ▸ ha)
  · by_cases hn : n < S.length
    · rw [List.getElem?_append_left hn] at h1
      rw [List.getElem?_append_left (by rw [s.len]; exact hn)] at h2
      exact (s.look n o a h1 h2).grow g (upd_ne fun e => s.fresh hp (e ▸ List.mem_of_getElem? h2))
    · have hn1 : n = S.length := by
        have := (List.getElem?_eq_some_iff.mp h1).1
        simp at this
        omega
      subst hn1
      rw [List.getElem?_append_right (Nat.le_refl _)] at h1
      rw [List.getElem?_append_right (by rw [s.len]; exact Nat.le_refl _)] at h2
      simp at h1
      simp [s.len] at h2
      subst h1; subst h2
      exact hr
theorem StoOk.push {K : PySem.W.Frag} {η : List Addr} {H : Hp} {S : Sto} (s : StoOk K η H S) {p : Addr} {ds : List D} {vs : List V} (hp : H p = none) (hr : Reps K η H ds vs) :
    StoOk K (η ++ [p]) (upd H p (.lst vs)) (S ++ [.lst ds]) := s.pushO hp ⟨vs, upd_same, hr.grow (grow_push (u := .lst vs) s hp)⟩
/-- an object of the store turns -/
theorem grow_set {K : PySem.W.Frag} {η : List Addr} {H : Hp} {S : Sto} (s : StoOk K η H S) {a : Addr} {u : HO} (ha : a ∈ η) (hf : ∀ o w, H a ≠ some (.frz o w)) : Grow η H η (upd H a u) :=
  ⟨⟨[], by simp, fun _ h => nomatch h⟩, fun b o nb h => by rw [upd_ne (show b ≠ a from fun e => nb (by rw [e]; exact ha))]; exact h, fun b o w h => by rw [upd_ne (show b ≠ a from fun e => hf o w (by rw [← e]; exact h))]; exact h⟩
theorem StoOk.setO {K : PySem.W.Frag} {η : List Addr} {H : Hp} {S : Sto} (s : StoOk K η H S) {n : Nat} {a : Addr} {u : HO} {oo : O} (ha : η[n]? = some a) (hf : ∀ o w, H a ≠ some (.frz o w)) (hr : OAt K η (upd H a u) a oo) :
    StoOk K η (upd H a u) (S.set n oo) := by
  have hm : a ∈ η := List.mem_of_getElem? ha
  have g := grow_set (u := u) s hm hf
  refine ⟨by simp [s.len], s.nd, fun m o b h1 h2 => ?_⟩
  by_cases hmn : m = n
  · subst hmn
    rw [ha] at h2
    cases h2
    have hl : m < S.length := by
      rw [← s.len]
      exact (List.getElem?_eq_some_iff.mp ha).1
    rw [List.getElem?_set_self hl] at h1
    cases h1
    exact hr
  · rw [List.getElem?_set_ne (Ne.symm hmn)] at h1
    refine (s.look m o b h1 h2).grow g (upd_ne fun e => hmn ?_)
    subst e
    obtain ⟨i1, e1⟩ := List.getElem?_eq_some_iff.mp h2
    obtain ⟨i2, e2⟩ := List.getElem?_eq_some_iff.mp ha
    exact (List.getElem_inj s.nd).mp (e1.trans e2.symm)
theorem StoOk.set {K : PySem.W.Frag} {η : List Addr} {H : Hp} {S : Sto} (s : StoOk K η H S) {n : Nat} {a : Addr} {ds : List D} {vs : List V} (ha : η[n]? = some a) (hf : ∀ o w, H a ≠ some (.frz o w)) (hr : Reps K η H ds vs) :
    StoOk K η (upd H a (.lst vs)) (S.set n (.lst ds)) := s.setO ha hf ⟨vs, upd_same, hr.grow (grow_set (u := .lst vs) s (List.mem_of_getElem? ha) hf)⟩

/-! ### slots -/
structure SRel (K : PySem.W.Frag) (η : List Addr) (H : Hp) (σ : St) (ρ : Env) : Prop where
  len : ρ.length = σ.length
  look : ∀ (i : Nat) (d : D), ρ[i]? = some (some d) → ∃ v, σ[i]? = some (some v) ∧ Rep K η H d v
theorem SRel.grow {K : PySem.W.Frag} {η η' : List Addr} {H H' : Hp} {σ : St} {ρ : Env} (h : SRel K η H σ ρ) (g : Grow η H η' H') : SRel K η' H' σ ρ :=
  ⟨h.len, fun i d e => let ⟨v, h1, h2⟩ := h.look i d e; ⟨v, h1, h2.grow g⟩⟩
theorem SRel.set {K : PySem.W.Frag} {η : List Addr} {H : Hp} {σ : St} {ρ : Env} (h : SRel K η H σ ρ) {d : D} {v : V} (r : Rep K η H d v) (i : Nat) : SRel K η H (σ.set i (some v)) (ρ.set i (some d)) := by
  refine ⟨by simp [h.len], fun j e hj => ?_⟩
  by_cases hij : i = j
  · subst hij
    have hl : i < ρ.length := by
      have := (List.getElem?_eq_some_iff.mp hj).1
      simpa using this
    rw [List.getElem?_set_self hl] at hj
    cases hj
    exact ⟨v, List.getElem?_set_self (by rw [← h.len]; exact hl), r⟩
  · rw [List.getElem?_set_ne hij] at hj
    rw [List.getElem?_set_ne hij]
    exact h.look j e hj

/-! ### what a run gives -/
def Good (K : PySem.W.Frag) (η : List Addr) (H : Hp) (S' : Sto) (d : D) : VK := fun v H' => ∃ η', Grow η H η' H' ∧ StoOk K η' H' S' ∧ Rep K η' H' d v
abbrev Wp (β : Type) := (β → Shared → Prop) → (Value → Shared → Prop) → Shared → Prop
abbrev sem {β : Type} (X : Cx) (t : Sem β) : Wp β := fun Q E s => wpAny (model X.prog X.w) X.A t Q E s
/-- behind W (from slots σ, heap H, store at η) the result r: its value in rel to what W gives -/
def Out {α β : Type} (τ : Nat) (X : Cx) (pins : List (Addr × Obj)) (η : List Addr) (H : Hp) (rel : L2.St → List Addr → Hp → α → β → Prop) (r : R α) (W : Wp β) (s : Shared) : Prop :=
  match r with
  | .bad => True
  | .ok a S' => ∀ E : Value → Shared → Prop, W (fun u s' => τ ≤ s'.toks ∧ ∃ σ' η' H', Inv X pins σ' H' s' ∧ Grow η H η' H' ∧ StoOk X.K η' H' S' ∧ rel σ' η' H' a u) E s
def relV (K : PySem.W.Frag) (σ : L2.St) : L2.St → List Addr → Hp → D → Value → Prop := fun σ' η H d u => σ' = σ ∧ ∃ v, RelV v u ∧ Rep K η H d v
def relL (K : PySem.W.Frag) (σ : L2.St) : L2.St → List Addr → Hp → List D → List Value → Prop := fun σ' η H ds us => σ' = σ ∧ ∃ vs, Vals vs us ∧ Reps K η H ds vs
def relB (σ : L2.St) : L2.St → List Addr → Hp → Bool → Bool → Prop := fun σ' _ _ a b => σ' = σ ∧ a = b

section
variable {X : Cx} {pins : List (Addr × Obj)} {σ : L2.St} {η : List Addr} {H : Hp} {s : Shared}
theorem out_ok {t : Sem Value} {d : D} {S' : Sto} (tk : τ ≤ s.toks) (h : ∀ E, wpAny (model X.prog X.w) X.A t (EP (X.wish E) pins σ (Good X.K η H S' d)) E s) : Out τ X pins η H (relV X.K σ) (.ok d S') (sem X t) s := by
  intro E
  refine wpAny_mono (PySem.wpAny_toks (h E)) (fun u s' q => ?_) fun _ _ z => z.2
  obtain ⟨hk, v, H', I', r, η', g, st, rp⟩ := q
  exact ⟨Nat.le_trans tk hk, σ, η', H', I'.unwish, g, st, rfl, v, r, rp⟩
theorem out_tt {t : Sem Bool} {b : Bool} {S' : Sto} (tk : τ ≤ s.toks) (h : ∀ E, wpAny (model X.prog X.w) X.A t (TP (X.wish E) pins σ (fun c H' => b = c ∧ ∃ η', Grow η H η' H' ∧ StoOk X.K η' H' S')) E s) : Out τ X pins η H (relB σ) (.ok b S') (sem X t) s := by
  intro E
  refine wpAny_mono (PySem.wpAny_toks (h E)) (fun u s' q => ?_) fun _ _ z => z.2
  obtain ⟨hk, H', I', e, η', g, st⟩ := q
  exact ⟨Nat.le_trans tk hk, σ, η', H', I'.unwish, g, st, rfl, e⟩
/-- one after another -/
theorem Out.seq {α β γ δ : Type} {rel : L2.St → List Addr → Hp → α → β → Prop} {rel2 : L2.St → List Addr → Hp → γ → δ → Prop} {m : M α} {f : α → M γ} {S : Sto} {t1 : Sem β} {W : Wp δ} {W2 : β → Wp δ}
    (hT : ∀ Q E, wpAny (model X.prog X.w) X.A t1 (fun u s' => W2 u Q E s') E s → W Q E s) (h1 : Out τ X pins η H rel (m S) (sem X t1) s)
    (h2 : ∀ u s1 σ1 η1 H1 a S1, m S = .ok a S1 → τ ≤ s1.toks → Inv X pins σ1 H1 s1 → Grow η H η1 H1 → StoOk X.K η1 H1 S1 → rel σ1 η1 H1 a u → Out τ X pins η H rel2 (f a S1) (W2 u) s1) :
    Out τ X pins η H rel2 ((m >>= f) S) W s := by
  show Out τ X pins η H rel2 (match m S with | .ok a S' => f a S' | .bad => .bad) W s
  cases q : m S with
  | bad => trivial
  | ok a S1 =>
    rw [q] at h1
    show Out τ X pins η H rel2 (f a S1) W s
    cases q2 : f a S1 with
    | bad => trivial
    | ok c S2 =>
      intro E
      refine hT _ E (wpAny_mono (h1 E) (fun u s1 z => ?_) fun _ _ z => z)
      obtain ⟨tk, σ1, η1, H1, I1, g1, st1, r1⟩ := z
      have k := h2 u s1 σ1 η1 H1 a S1 q tk I1 g1 st1 r1
      rw [q2] at k
      exact k E
def MonoW {β : Type} (W : Wp β) : Prop := ∀ Q Q' E s, (∀ u s, Q u s → Q' u s) → W Q E s → W Q' E s
theorem mono_sem {β : Type} (t : Sem β) : MonoW (sem X t) := fun _ _ _ _ h w => wpAny_mono w h fun _ _ z => z
theorem mono_then {β γ : Type} (t : Sem β) {W : β → Wp γ} (h : ∀ u, MonoW (W u)) : MonoW (fun Q E s => wpAny (model X.prog X.w) X.A t (fun u s' => W u Q E s') E s) := fun Q Q' E s hQ w => wpAny_mono w (fun u s' z => h u Q Q' E s' hQ z) fun _ _ z => z
/-- the base of an Out further back -/
theorem Out.back {α β : Type} {η1 : List Addr} {H1 : Hp} {rel : L2.St → List Addr → Hp → α → β → Prop} {r : R α} {W : Wp β} (hm : MonoW W) (g : Grow η H η1 H1) (h : Out τ X pins η1 H1 rel r W s) : Out τ X pins η H rel r W s := by
  cases r with
  | bad => trivial
  | ok a S' =>
    intro E
    refine hm _ _ E s (fun u s1 z => ?_) (h E)
    obtain ⟨tk, σ1, η1, H1, I1, g1, st1, r1⟩ := z
    exact ⟨tk, σ1, η1, H1, I1, g.trans g1, st1, r1⟩
theorem Out.via {α β : Type} {rel : L2.St → List Addr → Hp → α → β → Prop} {r : R α} {W W' : Wp β} (hv : ∀ Q E, W' Q E s → W Q E s) (h : Out τ X pins η H rel r W' s) : Out τ X pins η H rel r W s := by
  cases r with
  | bad => trivial
  | ok a S' => exact fun E => hv _ E (h E)
/-- no exception is asked for -/
theorem Out.never {α β : Type} {rel : L2.St → List Addr → Hp → α → β → Prop} {r : R α} {t : Sem β} (h : ∀ a S', r = .ok a S' → wpAny (model X.prog X.w) X.A t (fun u s' => τ ≤ s'.toks ∧ ∃ σ' η' H', Inv X pins σ' H' s' ∧ Grow η H η' H' ∧ StoOk X.K η' H' S' ∧ rel σ' η' H' a u) (fun _ _ => False) s) :
    Out τ X pins η H rel r (sem X t) s := by
  cases r with
  | bad => trivial
  | ok a S' => exact fun E => wpAny_mono (h a S' rfl) (fun _ _ z => z) fun _ _ z => z.elim
end

/-! ### judgements of expressions by functions -/
def PD (τ : Nat) (X : Cx) (e : Expr) (g : Env → M D) : Prop := ∀ (pins : List (Addr × Obj)) (s : Shared) (σ : L2.St) (H : Hp) (ρ : Env) (η : List Addr) (S : Sto),
  Inv X pins σ H s → τ ≤ s.toks → SRel X.K η H σ ρ → StoOk X.K η H S → Out τ X pins η H (relV X.K σ) (g ρ S) (sem X (eval e X.env)) s
def PDB (τ : Nat) (X : Cx) (e : Expr) (g : Env → M Bool) : Prop := ∀ (pins : List (Addr × Obj)) (s : Shared) (σ : L2.St) (H : Hp) (ρ : Env) (η : List Addr) (S : Sto),
  Inv X pins σ H s → τ ≤ s.toks → SRel X.K η H σ ρ → StoOk X.K η H S → Out τ X pins η H (relB σ) (g ρ S) (sem X (isTrue e X.env (eval e X.env))) s
def PDL (τ : Nat) (X : Cx) (es : List Expr) (g : Env → M (List D)) : Prop := ∀ (pos : Pos) (pins : List (Addr × Obj)) (s : Shared) (σ : L2.St) (H : Hp) (ρ : Env) (η : List Addr) (S : Sto),
  Inv X pins σ H s → τ ≤ s.toks → SRel X.K η H σ ρ → StoOk X.K η H S → Out τ X pins η H (relL X.K σ) (g ρ S) (sem X (spliced (backTo pos (starEach es X.env)))) s

/-- a PE without parts of ours -/
theorem pd_of {X : Cx} {e : Expr} {g : Env → M D} (h : ∀ (E : Value → Shared → Prop) (σ : L2.St) (H : Hp) (ρ : Env) (η : List Addr) (S : Sto) (d : D) (S' : Sto), SRel X.K η H σ ρ → StoOk X.K η H S → g ρ S = .ok d S' →
    ∃ t, PE (X.wish E) e t ∧ t σ H (Good X.K η H S' d)) : PD τ X e g := by
  intro pins s σ H ρ η S I tk sr st
  cases q : g ρ S with
  | bad => trivial
  | ok d S' =>
    refine out_ok tk fun E => ?_
    obtain ⟨t, ht, hq⟩ := h E σ H ρ η S d S' sr st q
    exact ht.run pins s σ H _ (I.wish E) hq

/-! ### operations by values -/
def Op1 (τ : Nat) (X : Cx) (f : Value → Sem Value) (g : D → M D) : Prop := ∀ (pins : List (Addr × Obj)) (s : Shared) (σ : L2.St) (H : Hp) (η : List Addr) (S : Sto) (x : V) (v : Value) (d : D),
  Inv X pins σ H s → τ ≤ s.toks → StoOk X.K η H S → RelV x v → Rep X.K η H d x → Out τ X pins η H (relV X.K σ) (g d S) (sem X (f v)) s
def Op2 (τ : Nat) (X : Cx) (f : Value → Value → Sem Value) (g : D → D → M D) : Prop := ∀ (pins : List (Addr × Obj)) (s : Shared) (σ : L2.St) (H : Hp) (η : List Addr) (S : Sto) (x y : V) (v u : Value) (d e : D),
  Inv X pins σ H s → τ ≤ s.toks → StoOk X.K η H S → RelV x v → RelV y u → Rep X.K η H d x → Rep X.K η H e y → Out τ X pins η H (relV X.K σ) (g d e S) (sem X (f v u)) s
def OpL (τ : Nat) (X : Cx) (f : List Value → Sem Value) (g : List D → M D) : Prop := ∀ (pins : List (Addr × Obj)) (s : Shared) (σ : L2.St) (H : Hp) (η : List Addr) (S : Sto) (xs : List V) (us : List Value) (ds : List D),
  Inv X pins σ H s → τ ≤ s.toks → StoOk X.K η H S → Vals xs us → Reps X.K η H ds xs → Out τ X pins η H (relV X.K σ) (g ds S) (sem X (f us)) s
end MP

/-! MP2: the operations of built-in types, by functions over D. -/
namespace MP
open PySem L2

abbrev SL : Nat := 16777216
theorem sl_le {n : Nat} (h : n ≤ SL) : n ≤ sizeLine := by rw [sizeLine_eq]; exact h
theorem sl_lt {n : Nat} (h : n < SL) : n < sizeLine := by rw [sizeLine_eq]; exact h

/-! ### the items of a list; new lists and tuples -/
def items (S : Sto) : D → Option (List D)
  | .lst ds => some ds
  | .ref n => match S[n]? with
    | some (.lst ds) => some ds
    | _ => none
  | _ => none
def itemsR (S : Sto) : D → Option (List D)
  | .frz ds => some ds
  | d => items S d
def newL (m : Bool) (ds : List D) : M D := fun S => if m then .ok (.ref S.length) (S ++ [.lst ds]) else .ok (.lst ds) S

section
variable {K : PySem.W.Frag} {η : List Addr} {H : Hp} {S : Sto}
theorem items_at {d : D} {ds : List D} {x : V} (st : StoOk K η H S) (r : Rep K η H d x) (h : items S d = some ds) : ∃ a vs, x = .ref a ∧ H a = some (.lst vs) ∧ Reps K η H ds vs := by
  cases r with
  | lst h1 h2 => cases h; exact ⟨_, _, rfl, h1.1, h2⟩
  | @ref n a h1 =>
    have h : (match S[n]? with | some (.lst ds) => some ds | _ => none) = some ds := h
    cases q : S[n]? with
    | none => rw [q] at h; cases h
    | some o =>
      cases o with
      | lst es =>
        rw [q] at h
        cases h
        obtain ⟨vs, h3, h4⟩ := st.look n _ a q h1
        exact ⟨a, vs, rfl, h3, h4⟩
      | dic es => rw [q] at h; cases h
      | fdic es => rw [q] at h; cases h
  | _ => cases h
theorem itemsR_at {d : D} {ds : List D} {x : V} (st : StoOk K η H S) (r : Rep K η H d x) (h : itemsR S d = some ds) : ∃ a vs, x = .ref a ∧ SqL K H a vs ∧ Reps K η H ds vs := by
  cases r with
  | frz h1 h2 => cases h; exact ⟨_, _, rfl, h1.sq, h2⟩
  | non => cases h
  | bl => cases h
  | int => cases h
  | str => cases h
  | tup => cases h
  | dic => cases h
  | lst h1 h2 =>
    obtain ⟨a, vs, e, h3, h4⟩ := items_at st (.lst h1 h2) h
    exact ⟨a, vs, e, SqL.of h3, h4⟩
  | ref h1 =>
    obtain ⟨a, vs, e, h3, h4⟩ := items_at st (.ref h1) h
    exact ⟨a, vs, e, SqL.of h3, h4⟩
theorem good_here {d : D} {v : V} (st : StoOk K η H S) (r : Rep K η H d v) : Good K η H S d v H := ⟨η, .refl _ _, st, r⟩
theorem good_newL {m : Bool} {ds : List D} {vs : List V} {p : Addr} {d : D} {S' : Sto} (st : StoOk K η H S) (hr : Reps K η H ds vs) (hp : H p = none) (h : newL m ds S = .ok d S') : Good K η H S' d (.ref p) (upd H p (.lst vs)) := by
  unfold newL at h
  cases m with
  | true =>
    rw [if_pos rfl] at h
    cases h
    refine ⟨η ++ [p], grow_push st hp, st.push hp hr, .ref ?_⟩
    rw [← st.len, List.getElem?_append_right (Nat.le_refl _)]
    simp
  | false =>
    rw [if_neg Bool.false_ne_true] at h
    cases h
    exact ⟨η, grow_new st hp, st.laid hp, .lst ⟨upd_same, st.fresh hp⟩ (hr.grow (grow_new st hp))⟩
theorem good_newT {ds : List D} {vs : List V} {p : Addr} (st : StoOk K η H S) (hr : Reps K η H ds vs) (hp : H p = none) : Good K η H S (.tup ds) (.ref p) (upd H p (.tup vs)) :=
  ⟨η, grow_new st hp, st.laid hp, .tup (.inl ⟨upd_same, st.fresh hp⟩) (hr.grow (grow_new st hp))⟩
theorem good_set {n : Nat} {a : Addr} {ds : List D} {vs : List V} {d : D} {v : V} (st : StoOk K η H S) (ha : η[n]? = some a) (hf : ∀ o w, H a ≠ some (.frz o w)) (hr : Reps K η H ds vs) (r : Rep K η H d v) : Good K η H (S.set n (.lst ds)) d v (upd H a (.lst vs)) :=
  ⟨η, grow_set st (List.mem_of_getElem? ha) hf, st.set ha hf hr, r.grow (grow_set st (List.mem_of_getElem? ha) hf)⟩
theorem nofrz {a : Addr} {u : HO} (h : H a = some u) (hu : ∀ o w, u ≠ .frz o w) : ∀ o w, H a ≠ some (.frz o w) := fun o w e => by
  rw [h] at e
  exact hu o w (Option.some.inj e)
theorem nofrzL {a : Addr} {vs : List V} (h : H a = some (.lst vs)) : ∀ o w, H a ≠ some (.frz o w) := nofrz h fun _ _ e => by cases e
theorem nofrzD {a : Addr} {vs : List (Key × V)} (h : H a = some (.dK vs)) : ∀ o w, H a ≠ some (.frz o w) := nofrz h fun _ _ e => by cases e
end

/-! ### + -/
def b2 (b : Bool) : Int := if b = true then 1 else 0
def addD (m : Bool) (d e : D) : M D := match d, e with
  | .int i, .int j => pure (.int (i + j))
  | .bl a, .int j => pure (.int (b2 a + j))
  | .int i, .bl b => pure (.int (i + b2 b))
  | .str x, .str y => if x.length + y.length ≤ SL then pure (.str (x ++ y)) else M.fail
  | .tup xs, .tup ys => if xs.length + ys.length ≤ SL then pure (.tup (xs ++ ys)) else M.fail
  | d, e => fun S => match items S d, items S e with
    | some xs, some ys => if xs.length + ys.length ≤ SL then newL m (xs ++ ys) S else .bad
    | _, _ => .bad
section
variable {X : Cx}
theorem add_lists {m : Bool} {pins : List (Addr × Obj)} {s : Shared} {σ : L2.St} {H : Hp} {η : List Addr} {S : Sto} {x y : V} {v u : Value} {d e : D} (I : Inv X pins σ H s) (tk : τ ≤ s.toks) (st : StoOk X.K η H S) (rx : RelV x v) (ry : RelV y u)
    (rd : Rep X.K η H d x) (re : Rep X.K η H e y) : Out τ X pins η H (relV X.K σ) (match items S d, items S e with
      | some xs, some ys => if xs.length + ys.length ≤ SL then newL m (xs ++ ys) S else .bad
      | _, _ => .bad) (sem X (binaryOp .Add v u)) s := by
  cases q1 : items S d with
  | none => trivial
  | some xs =>
    cases q2 : items S e with
    | none => trivial
    | some ys =>
      by_cases hz : xs.length + ys.length ≤ SL
      · dsimp only
        rw [if_pos hz]
        obtain ⟨a, vs, rfl, h1, h2⟩ := items_at st rd q1
        obtain ⟨b, ws, rfl, h3, h4⟩ := items_at st re q2
        cases q3 : newL m (xs ++ ys) S with
        | bad => trivial
        | ok d' S' =>
          exact out_ok tk fun E => op_cat (X := X.wish E) pins s σ H _ _ v u _ (I.wish E) rx ry ⟨a, b, vs, ws, rfl, rfl, h1, h3, sl_le (by rw [← h2.length, ← h4.length]; exact hz), fun p hp => good_newL st (h2.append h4) hp q3⟩
      · dsimp only
        rw [if_neg hz]
        trivial
theorem op_addD (m : Bool) : Op2 τ X (binaryOp .Add) (addD m) := by
  intro pins s σ H η S x y v u d e I tk st rx ry rd re
  have key := add_lists (m := m) I tk st rx ry rd re
  cases rd with
  | int i =>
    cases re with
    | int j => exact out_ok tk fun E => op_add (X := X.wish E) pins s σ H _ _ v u _ (I.wish E) rx ry ⟨i, j, rfl, rfl, good_here st (.int _)⟩
    | bl b =>
      obtain ⟨t, rfl⟩ := rx
      cases ry
      exact out_ok tk fun E => PySem.add_int_bool ⟨.int (i + b2 b), H, (I.wish E).tok _, ⟨_, rfl⟩, good_here st (.int _)⟩
    | _ => exact key
  | bl a =>
    cases re with
    | int j =>
      obtain ⟨t, rfl⟩ := ry
      cases rx
      exact out_ok tk fun E => PySem.IntBool.add_bool_int ⟨.int (b2 a + j), H, (I.wish E).tok _, ⟨_, rfl⟩, good_here st (.int _)⟩
    | _ => exact key
  | str a =>
    cases re with
    | str b =>
      show Out τ X pins η H (relV X.K σ) ((if a.length + b.length ≤ SL then pure (D.str (a ++ b)) else M.fail : M D) S) _ s
      by_cases hz : a.length + b.length ≤ SL
      · rw [if_pos hz]
        exact out_ok tk fun E => op_add_str (X := X.wish E) pins s σ H _ _ v u _ (I.wish E) rx ry ⟨a, b, rfl, rfl, sl_le hz, good_here st (.str _)⟩
      · rw [if_neg hz]
        trivial
    | _ => exact key
  | @tup a vs ds h1 h2 =>
    cases re with
    | @tup b ws es h3 h4 =>
      show Out τ X pins η H (relV X.K σ) ((if ds.length + es.length ≤ SL then pure (D.tup (ds ++ es)) else M.fail : M D) S) _ s
      by_cases hz : ds.length + es.length ≤ SL
      · rw [if_pos hz]
        refine out_ok tk fun E => op_catA (X := X.wish E) pins s σ H _ _ v u _ (I.wish E) rx ry ⟨a, b, vs, ws, rfl, rfl, h1.sq, h3.sq, sl_le (by rw [← h2.length, ← h4.length]; exact hz), fun e => ?_, fun _ e => ?_, fun _ _ p hp => good_newT st (h2.append h4) hp⟩
        · subst e
          cases h2
          exact good_here st (.tup h3 h4)
        · subst e
          cases h4
          rw [List.append_nil]
          exact good_here st (.tup h1 h2)
      · rw [if_neg hz]
        trivial
    | _ => exact key
  | _ => cases re <;> exact key
end

/-! ### - * // % ** -/
theorem rep_size (c : Array Nat) : ∀ (n : Nat) (acc : Array Nat), (List.foldl (fun x1 x2 => x1 ++ x2) acc (List.replicate n c)).size = acc.size + n * c.size
  | 0, acc => by simp
  | n + 1, acc => by
    rw [List.replicate_succ, List.foldl_cons, rep_size c n, Array.size_append, Nat.succ_mul]
    omega
def subD : D → D → M D
  | .int i, .int j => pure (.int (i - j))
  | .bl a, .int j => pure (.int (b2 a - j))
  | .int i, .bl b => pure (.int (i - b2 b))
  | _, _ => M.fail
def mulD : D → D → M D
  | .int i, .int j => if (-(2 ^ 64) < i ∧ i < 2 ^ 64) ∨ (-(2 ^ 64) < j ∧ j < 2 ^ 64) then pure (.int (i * j)) else M.fail
  | .str x, .int k => if 2 ≤ k ∧ k ≤ 1000 ∧ 1 ≤ x.length ∧ x.length ≤ 1000 then pure (.str ⟨(List.replicate k.toNat x.cps).foldl (· ++ ·) #[]⟩) else M.fail
  | .tup xs, .int k => if xs ≠ [] ∧ 2 ≤ k ∧ k ≤ 1000 ∧ xs.length ≤ 1000 then pure (.tup (List.replicate k.toNat xs).flatten) else M.fail
  | _, _ => M.fail
def fdivD : D → D → M D
  | .int i, .int j => if 0 < j ∧ j < 1073741824 then pure (.int (i / j)) else M.fail
  | _, _ => M.fail
def modD : D → D → M D
  | .int i, .int j => if 0 < j then pure (.int (i % j)) else M.fail
  | _, _ => M.fail
def powD : D → D → M D
  | .int i, .int j => if 0 ≤ j ∧ j ≤ 1000000 ∧ i.natAbs < 2 ^ 64 then pure (.int (i ^ j.toNat)) else M.fail
  | _, _ => M.fail
section
variable {X : Cx}
theorem op_subD : Op2 τ X (binaryOp .Sub) subD := by
  intro pins s σ H η S x y v u d e I tk st rx ry rd re
  cases rd with
  | int i =>
    cases re with
    | int j => exact out_ok tk fun E => op_sub (X := X.wish E) pins s σ H _ _ v u _ (I.wish E) rx ry ⟨i, j, rfl, rfl, good_here st (.int _)⟩
    | bl b =>
      obtain ⟨t, rfl⟩ := rx
      cases ry
      exact out_ok tk fun E => PySem.IntBool.sub_int_bool ⟨.int (i - b2 b), H, (I.wish E).tok _, ⟨_, rfl⟩, good_here st (.int _)⟩
    | _ => trivial
  | bl a =>
    cases re with
    | int j =>
      obtain ⟨t, rfl⟩ := ry
      cases rx
      exact out_ok tk fun E => PySem.IntBool.sub_bool_int ⟨.int (b2 a - j), H, (I.wish E).tok _, ⟨_, rfl⟩, good_here st (.int _)⟩
    | _ => trivial
  | _ => cases re <;> trivial
theorem op_fdivD : Op2 τ X (binaryOp .FloorDiv) fdivD := by
  intro pins s σ H η S x y v u d e I tk st rx ry rd re
  cases rd with
  | int i =>
    cases re with
    | int j =>
      show Out τ X pins η H (relV X.K σ) ((if 0 < j ∧ j < 1073741824 then pure (.int (i / j)) else M.fail : M D) S) _ s
      by_cases hz : 0 < j ∧ j < 1073741824
      · rw [if_pos hz]
        exact out_ok tk fun E => op_fdiv (X := X.wish E) pins s σ H _ _ v u _ (I.wish E) rx ry ⟨i, j, rfl, rfl, hz, good_here st (.int _)⟩
      · rw [if_neg hz]; trivial
    | _ => trivial
  | _ => cases re <;> trivial
theorem op_modD : Op2 τ X (binaryOp .Mod) modD := by
  intro pins s σ H η S x y v u d e I tk st rx ry rd re
  cases rd with
  | int i =>
    cases re with
    | int j =>
      show Out τ X pins η H (relV X.K σ) ((if 0 < j then pure (.int (i % j)) else M.fail : M D) S) _ s
      by_cases hz : 0 < j
      · rw [if_pos hz]
        exact out_ok tk fun E => op_mod (X := X.wish E) pins s σ H _ _ v u _ (I.wish E) rx ry ⟨i, j, rfl, rfl, hz, good_here st (.int _)⟩
      · rw [if_neg hz]; trivial
    | _ => trivial
  | _ => cases re <;> trivial
theorem op_powD : Op2 τ X (binaryOp .Pow) powD := by
  intro pins s σ H η S x y v u d e I tk st rx ry rd re
  cases rd with
  | int i =>
    cases re with
    | int j =>
      show Out τ X pins η H (relV X.K σ) ((if 0 ≤ j ∧ j ≤ 1000000 ∧ i.natAbs < 2 ^ 64 then pure (.int (i ^ j.toNat)) else M.fail : M D) S) _ s
      by_cases hz : 0 ≤ j ∧ j ≤ 1000000 ∧ i.natAbs < 2 ^ 64
      · rw [if_pos hz]
        exact out_ok tk fun E => op_pow (X := X.wish E) pins s σ H _ _ v u _ (I.wish E) rx ry ⟨i, j, rfl, rfl, hz, good_here st (.int _)⟩
      · rw [if_neg hz]; trivial
    | _ => trivial
  | _ => cases re <;> trivial
theorem op_mulD : Op2 τ X (binaryOp .Mult) mulD := by
  intro pins s σ H η S x y v u d e I tk st rx ry rd re
  cases rd with
  | int i =>
    cases re with
    | int j =>
      show Out τ X pins η H (relV X.K σ) ((if (-(2 ^ 64) < i ∧ i < 2 ^ 64) ∨ (-(2 ^ 64) < j ∧ j < 2 ^ 64) then pure (.int (i * j)) else M.fail : M D) S) _ s
      by_cases hz : (-(2 ^ 64) < i ∧ i < 2 ^ 64) ∨ (-(2 ^ 64) < j ∧ j < 2 ^ 64)
      · rw [if_pos hz]
        exact out_ok tk fun E => op_mul (X := X.wish E) pins s σ H _ _ v u _ (I.wish E) rx ry ⟨i, j, rfl, rfl, hz, good_here st (.int _)⟩
      · rw [if_neg hz]; trivial
    | _ => trivial
  | str a =>
    cases re with
    | int k =>
      show Out τ X pins η H (relV X.K σ) ((if 2 ≤ k ∧ k ≤ 1000 ∧ 1 ≤ a.length ∧ a.length ≤ 1000 then pure (.str ⟨(List.replicate k.toNat a.cps).foldl (· ++ ·) #[]⟩) else M.fail : M D) S) _ s
      by_cases hz : 2 ≤ k ∧ k ≤ 1000 ∧ 1 ≤ a.length ∧ a.length ≤ 1000
      · rw [if_pos hz]
        obtain ⟨h1, h2, h3, h4⟩ := hz
        obtain ⟨t, rfl⟩ := rx
        obtain ⟨t', rfl⟩ := ry
        refine out_ok tk fun E => P.mul_str ?_ ?_ ?_ ?_
        · simp; omega
        · intro _ _
          have : (1000 : Int) ≤ (2 ^ 63 - 1) / k := by
            rw [Int.le_ediv_iff_mul_le (by omega)]
            omega
          omega
        · intro _ _
          show decide (a.length * k.toNat > sizeLine) = false
          rw [decide_eq_false_iff_not, sizeLine_eq]
          have : a.length * k.toNat ≤ 1000 * 1000 := Nat.mul_le_mul h4 (by omega)
          omega
        · have c1 : ¬ k < 1 := by omega
          have c2 : ¬ (k == 1 || a.length == 0) = true := by
            rw [Bool.or_eq_true, beq_iff_eq, beq_iff_eq]
            omega
          rw [if_neg c1, if_neg c2]
          refine ⟨sl_le ?_, ⟨.str _, _, (I.wish E).tok _, ⟨_, rfl⟩, good_here st (.str _)⟩⟩
          show (List.foldl (fun x1 x2 => x1 ++ x2) #[] (List.replicate k.toNat a.cps)).size ≤ SL
          rw [rep_size]
          have : k.toNat * a.length ≤ 1000 * 1000 := Nat.mul_le_mul (by omega) h4
          show 0 + k.toNat * a.length ≤ 16777216
          omega
      · rw [if_neg hz]; trivial
    | _ => trivial
  | @tup a vs ds h1 h2 =>
    cases re with
    | int k =>
      show Out τ X pins η H (relV X.K σ) ((if ds ≠ [] ∧ 2 ≤ k ∧ k ≤ 1000 ∧ ds.length ≤ 1000 then pure (.tup (List.replicate k.toNat ds).flatten) else M.fail : M D) S) _ s
      by_cases hz : ds ≠ [] ∧ 2 ≤ k ∧ k ≤ 1000 ∧ ds.length ≤ 1000
      · rw [if_pos hz]
        obtain ⟨z1, z2, z3, z4⟩ := hz
        refine out_ok tk fun E => op_repT (X := X.wish E) pins s σ H _ _ v u _ (I.wish E) rx ry ⟨a, k, vs, rfl, rfl, h1.sq, fun z => z1 ?_, z2, z3, by rw [← h2.length]; exact z4, fun p hp => good_newT st (h2.replicate _) hp⟩
        subst z
        cases h2
        rfl
      · rw [if_neg hz]; trivial
    | _ => trivial
  | _ => cases re <;> trivial
end
end MP

/-! MP3: data; comparisons, in, is, subscripts, slices. -/
namespace MP
open PySem L2

/-! ### data -/
def keyP : Key → PyData
  | .inl i => .int i
  | .inr x => .str x
mutual
def deep : D → Option PyData
  | .non => some .none
  | .bl b => some (.bool b)
  | .int i => some (.int i)
  | .str x => some (.str x)
  | .tup xs => (deeps xs).map .tuple
  | .lst xs => (deeps xs).map .list
  | .frz _ => none
  | .dic kvs => (deepk kvs).map .dict
  | .ref _ => none
def deeps : List D → Option (List PyData)
  | [] => some []
  | x :: xs => match deep x, deeps xs with
    | some a, some b => some (a :: b)
    | _, _ => none
def deepk : List (Key × D) → Option (List (PyData × PyData))
  | [] => some []
  | (k, x) :: xs => match deep x, deepk xs with
    | some a, some b => some ((keyP k, a) :: b)
    | _, _ => none
end
section
variable {X : Cx} {pins : List (Addr × Obj)} {σ : L2.St} {H : Hp} {s : Shared} {η : List Addr}
theorem keys_read {P : Program} {w : World} {h : Heap} : ∀ {vs : List (Key × Value)} {es : List DictEntry}, Pairs (mixKind P w) es vs → ReadsAll h (es.map (·.key)) ((vs.map (·.1)).map keyP) []
  | _, _, .nil => .nil
  | _, _, .cons (e := e) (kv := kv) hk hv hr => by
    have key : Reads h e.key (keyP kv.1) [] := by
      rcases keyIs_shape hk with ⟨i, t, e1, e2⟩ | ⟨x, t, e1, e2⟩
      · rw [e1, e2]; exact Reads.int i t
      · rw [e1, e2]; exact Reads.str x t
    exact ReadsAll.cons (as := []) (bs := []) key (keys_read hr)
theorem vals_pairs {P : Program} {w : World} : ∀ {kvs : List (Key × V)} {vs : List (Key × Value)} {es : List DictEntry}, KV kvs vs → Pairs (mixKind P w) es vs → Vals (kvs.map (·.2)) (es.map (·.val)) ∧ kvs.map (·.1) = vs.map (·.1)
  | _, _, _, .nil, .nil => ⟨.nil, rfl⟩
  | _, _, _, .cons h1 h2, .cons _ hv hr => by
    obtain ⟨a, b⟩ := vals_pairs h2 hr
    refine ⟨.cons (by dsimp only; rw [hv]; exact h1.2) a, ?_⟩
    rw [List.map_cons, List.map_cons, h1.1, b]
theorem repk_vals {K : PySem.W.Frag} : ∀ {kds : List (Key × D)} {kvs : List (Key × V)}, Repk K η H kds kvs → Reps K η H (kds.map (·.2)) (kvs.map (·.2)) ∧ kds.map (·.1) = kvs.map (·.1)
  | _, _, .nil => ⟨.nil, rfl⟩
  | _, _, .cons h1 h2 => by
    obtain ⟨a, b⟩ := repk_vals h2
    exact ⟨.cons h1 a, by rw [List.map_cons, List.map_cons, b]⟩
theorem deepk_split : ∀ {kds : List (Key × D)} {ps : List (PyData × PyData)}, deepk kds = some ps → deeps (kds.map (·.2)) = some (ps.map (·.2)) ∧ (kds.map (·.1)).map keyP = ps.map (·.1)
  | [], _, h => by cases h; exact ⟨rfl, rfl⟩
  | (k, x) :: r, ps, h => by
    cases q1 : deep x with
    | none => simp [deepk, q1] at h
    | some a =>
      cases q2 : deepk r with
      | none => simp [deepk, q1, q2] at h
      | some b =>
        simp [deepk, q1, q2] at h
        subst h
        obtain ⟨e1, e2⟩ := deepk_split q2
        exact ⟨by simp [deeps, q1, e1], by simp; simpa using e2⟩
mutual
theorem rep_reads (hb : ∃ o, X.base.get? sysModules = some o) (I : Inv X pins σ H s) : ∀ {d : D} {v : V} {p : PyData} {u : Value}, Rep X.K η H d v → deep d = some p → RelV v u → ∃ as, Reads s.heap u p as ∧ sysModules ∉ as
  | _, _, _, _, .non, h, r => by cases h; cases r; exact ⟨_, Reads.none, by simp⟩
  | _, _, _, _, .bl b, h, r => by cases h; cases r; exact ⟨_, Reads.bool b, by simp⟩
  | _, _, _, _, .int i, h, r => by cases h; obtain ⟨t, rfl⟩ := r; exact ⟨_, Reads.int i t, by simp⟩
  | _, _, _, _, .str x, h, r => by cases h; obtain ⟨t, rfl⟩ := r; exact ⟨_, Reads.str x t, by simp⟩
  | _, _, _, _, .tup (ds := ds) h1 h2, h, r => by
    cases q : deeps ds with
    | none => simp [deep, q] at h
    | some ps =>
      simp [deep, q] at h
      subst h
      cases r
      obtain ⟨its, rv, ⟨o, ho, hc, n, hd⟩, _⟩ := I.tuple h1.sq
      obtain ⟨as, hr, hs⟩ := reps_reads hb I h2 q rv
      exact ⟨_, Reads.tuple ho hc hd (by simpa using hr), hs⟩
  | _, _, _, _, .lst (a := a) (ds := ds) h1 h2, h, r => by
    cases q : deeps ds with
    | none => simp [deep, q] at h
    | some ps =>
      simp [deep, q] at h
      subst h
      cases r
      obtain ⟨its, rv, ⟨o, n, ho, hc, _, hd⟩, _⟩ := I.list (LstAt.sq (K := X.K) h1)
      obtain ⟨as, hr, hs⟩ := reps_reads hb I h2 q rv
      refine ⟨_, Reads.list ho hc hd (by simpa using hr), fun z => ?_⟩
      rcases List.mem_cons.mp z with z | z
      · obtain ⟨ob, eb⟩ := hb
        have := (I.bs _ _ eb).2
        rw [z, h1.1] at this
        cases this
      · exact hs z
  | _, _, _, _, .frz h1 h2, h, r => by cases h
  | _, _, _, _, .dic (a := a) (kvs := kvs) (kds := kds) h1 h2, h, r => by
    cases q : deepk kds with
    | none => simp [deep, q] at h
    | some ps =>
      simp [deep, q] at h
      subst h
      cases r
      obtain ⟨_, hne, vs, hkv, o, es, ep, ho, hx, hd, _, hp, _⟩ := I.hok a _ h1.1
      obtain ⟨rv, e1⟩ := vals_pairs hkv hp
      obtain ⟨rk, e2⟩ := repk_vals h2
      obtain ⟨e3, e4⟩ := deepk_split q
      obtain ⟨as, hr, hs⟩ := repk_reads hb I h2 q rv
      have hk := keys_read (h := s.heap) hp
      rw [← e1, ← e2, e4] at hk
      refine ⟨_, Reads.dict ho hx.1 hd hk hr, fun z => ?_⟩
      rcases List.mem_cons.mp z with z | z
      · simp [z] at hne
      · exact hs (by simpa using z)
  | _, _, _, _, .ref h1, h, r => by cases h
theorem reps_reads (hb : ∃ o, X.base.get? sysModules = some o) (I : Inv X pins σ H s) : ∀ {ds : List D} {vs : List V} {ps : List PyData} {us : List Value}, Reps X.K η H ds vs → deeps ds = some ps → Vals vs us → ∃ as, ReadsAll s.heap us ps as ∧ sysModules ∉ as
  | _, _, _, _, .nil, h, r => by cases h; cases r; exact ⟨_, ReadsAll.nil, by simp⟩
  | _, _, _, _, .cons (d := d) (ds := ds) h1 h2, h, r => by
    cases r with
    | cons r1 r2 =>
      cases q1 : deep d with
      | none => simp [deeps, q1] at h
      | some a =>
        cases q2 : deeps ds with
        | none => simp [deeps, q1, q2] at h
        | some b =>
          simp [deeps, q1, q2] at h
          subst h
          obtain ⟨as, a1, a2⟩ := rep_reads hb I h1 q1 r1
          obtain ⟨bs, b1, b2⟩ := reps_reads hb I h2 q2 r2
          exact ⟨_, ReadsAll.cons a1 b1, by simp [a2, b2]⟩
theorem repk_reads (hb : ∃ o, X.base.get? sysModules = some o) (I : Inv X pins σ H s) : ∀ {ds : List (Key × D)} {vs : List (Key × V)} {ps : List (PyData × PyData)} {us : List Value}, Repk X.K η H ds vs → deepk ds = some ps → Vals (vs.map (·.2)) us → ∃ as, ReadsAll s.heap us (ps.map (·.2)) as ∧ sysModules ∉ as
  | _, _, _, _, .nil, h, r => by cases h; cases r; exact ⟨_, ReadsAll.nil, by simp⟩
  | _, _, _, _, .cons (d := d) (ds := ds) h1 h2, h, r => by
    cases r with
    | cons r1 r2 =>
      cases q1 : deep d with
      | none => simp [deepk, q1] at h
      | some a =>
        cases q2 : deepk ds with
        | none => simp [deepk, q1, q2] at h
        | some b =>
          simp [deepk, q1, q2] at h
          subst h
          obtain ⟨as, a1, a2⟩ := rep_reads hb I h1 q1 r1
          obtain ⟨bs, b1, b2⟩ := repk_reads hb I h2 q2 r2
          exact ⟨_, ReadsAll.cons a1 b1, by simp [a2, b2]⟩
end
end
end MP

/-! MP4: repr, comparisons, in, is, subscripts, slices. -/
namespace MP
open PySem L2

structure Ck (n : Nat) (X : Cx) : Prop where
  calm : X.calm = true
  gd : X.A.guards = some []
  rm : Room n X.A
  sm : ∃ o, X.base.get? sysModules = some o
  nd : X.N.Nodup
theorem Ck.units {n : Nat} {X : Cx} (c : Ck n X) {k : Nat} (h : k ≤ 190) : X.A.units + k < cLine := by
  have := c.rm.un
  omega

/-! ### repr -/
def reprD (d : D) : M D := match deep d with
  | some p => if p.showable = true ∧ p.depth ≤ 150 ∧ p.shown.length ≤ SL then pure (.str p.shown) else M.fail
  | none => M.fail
section
variable {X : Cx} {n : Nat}
theorem call_reprD (c : Ck n X) : Op1 τ X (fun v => call (.builtin "repr") [v]) reprD := by
  intro pins s σ H η S x v d I tk st rx rd
  unfold reprD
  cases q : deep d with
  | none => trivial
  | some p =>
    dsimp only
    by_cases hz : p.showable = true ∧ p.depth ≤ 150 ∧ p.shown.length ≤ SL
    · rw [if_pos hz]
      obtain ⟨h1, h2, h3⟩ := hz
      obtain ⟨as, hr, hs⟩ := rep_reads c.sm I rd q rx
      refine out_ok tk fun E => ?_
      cases hr with
      | none => exact PySem.P.repr_of_none ⟨.str _, H, (I.wish E).tok _, ⟨_, rfl⟩, by simp only [PyData.shown]; exact good_here st (.str _)⟩
      | bool b => exact PySem.P.repr_of_bool ⟨.str _, H, (I.wish E).tok _, ⟨_, rfl⟩, by simp only [PyData.shown]; exact good_here st (.str _)⟩
      | int i t => exact PySem.P.repr_of_int (by simpa [PyData.showable] using h1) ⟨.str _, H, (I.wish E).tok _, ⟨_, rfl⟩, by simp only [PyData.shown]; exact good_here st (.str _)⟩
      | str y t =>
        simp only [PyData.shown] at h3
        exact PySem.P.repr_of_str (hsz := sl_le h3) ⟨.str _, H, (I.wish E).tok _, ⟨_, rfl⟩, by simp only [PyData.shown]; exact good_here st (.str _)⟩
      | list a1 a2 a3 a4 =>
        refine repr_of_reads' (.list a1 a2 a3 a4) h1 (fun _ => hs) c.gd (c.units (by omega)) (fun _ _ e => e) (hsz := sl_le h3) ?_
        intro h' u' tk' hk
        exact ⟨.str _, H, (I.wish E).kept hk, ⟨_, rfl⟩, good_here st (.str _)⟩
      | tuple a1 a2 a3 a4 =>
        refine repr_of_reads' (.tuple a1 a2 a3 a4) h1 (fun _ => hs) c.gd (c.units (by omega)) (fun _ _ e => e) (hsz := sl_le h3) ?_
        intro h' u' tk' hk
        exact ⟨.str _, H, (I.wish E).kept hk, ⟨_, rfl⟩, good_here st (.str _)⟩
      | dict a1 a2 a3 a4 a5 =>
        refine repr_of_reads' (.dict a1 a2 a3 a4 a5) h1 (fun _ => hs) c.gd (c.units (by omega)) (fun _ _ e => e) (hsz := sl_le h3) ?_
        intro h' u' tk' hk
        exact ⟨.str _, H, (I.wish E).kept hk, ⟨_, rfl⟩, good_here st (.str _)⟩
    · rw [if_neg hz]; trivial
end

/-! ### == and != -/
def scalE : D → D → Option Bool
  | .non, .non => some true
  | .int i, .int j => some (decide (i = j))
  | .bl a, .bl b => some (decide (a = b))
  | .str x, .str y => some (decide (x = y))
  | .non, .int _ => some false
  | .non, .bl _ => some false
  | .non, .str _ => some false
  | .int _, .non => some false
  | .bl _, .non => some false
  | .str _, .non => some false
  | .int _, .str _ => some false
  | .str _, .int _ => some false
  | .bl _, .str _ => some false
  | .str _, .bl _ => some false
  | _, _ => none
def emptE (S : Sto) : D → D → Option Bool
  | .tup xs, .tup ys => if (xs.isEmpty || ys.isEmpty) = true then some (xs.isEmpty && ys.isEmpty) else none
  | d, e => match items S d, items S e with
    | some xs, some ys => if (xs.isEmpty || ys.isEmpty) = true then some (xs.isEmpty && ys.isEmpty) else none
    | _, _ => none
def dataE (d e : D) : Option Bool := match deep d, deep e with
  | some a, some b => if a.canLay0 = true ∧ b.canLay0 = true ∧ a.depth ≤ 150 then some (PyData.eqv a b) else none
  | _, _ => none
def eqE (S : Sto) (d e : D) : Option Bool := match scalE d e with
  | some b => some b
  | none => match emptE S d e with
    | some b => some b
    | none => dataE d e
def eqD (d e : D) : M D := fun S => match eqE S d e with
  | some b => .ok (.bl b) S
  | none => .bad
def neD (d e : D) : M D := fun S => match eqE S d e with
  | some b => .ok (.bl (!b)) S
  | none => .bad

section
variable {X : Cx} {n : Nat} {pins : List (Addr × Obj)} {s : Shared} {σ : L2.St} {H : Hp} {η : List Addr} {S : Sto} {x y : V} {v u : Value} {d e : D} {E : Value → Shared → Prop}
theorem scalE_ok {b : Bool} (rd : Rep X.K η H d x) (re : Rep X.K η H e y) (h : scalE d e = some b) : scal x y = true ∧ decide (x = y) = b := by
  cases rd <;> cases re <;> first
    | (cases h; done)
    | (simp only [scalE, Option.some.injEq] at h
       subst h
       refine ⟨rfl, ?_⟩
       simp)
theorem empty_reps {ds : List D} {vs : List V} (h : Reps X.K η H ds vs) : ds.isEmpty = vs.isEmpty := by
  cases h <;> rfl
/-- both ways of a comparison of two sequences of which one is empty -/
theorem emptE_ok {b : Bool} (I : Inv X pins σ H s) (c : Ck n X) (st : StoOk X.K η H S) (rx : RelV x v) (ry : RelV y u) (rd : Rep X.K η H d x) (re : Rep X.K η H e y) (h : emptE S d e = some b) :
    SeqAt.RcAt X.A s v u b ∧ SeqAt.RcNeAt X.A s v u (!b) := by
  have hu : X.A.units < cLine := c.units (k := 0) (by omega)
  have lists : ∀ {ds es : List D}, items S d = some ds → items S e = some es → (if (ds.isEmpty || es.isEmpty) = true then some (ds.isEmpty && es.isEmpty) else none) = some b → SeqAt.RcAt X.A s v u b ∧ SeqAt.RcNeAt X.A s v u (!b) := by
    intro ds es h1 h2 h3
    obtain ⟨a1, vs, rfl, k1, k2⟩ := items_at st rd h1
    obtain ⟨a2, ws, rfl, k3, k4⟩ := items_at st re h2
    cases rx
    cases ry
    obtain ⟨its, r1, p1, _⟩ := I.list (SqL.of (K := X.K) k1)
    obtain ⟨its2, r2, p2, _⟩ := I.list (SqL.of (K := X.K) k3)
    have l1 : ds.length = its.length := k2.length.trans r1.length
    have l2 : es.length = its2.length := k4.length.trans r2.length
    by_cases hz : its.toArray.size = its2.toArray.size
    · have e0 : its.length = its2.length := by simpa using hz
      have hb : its = [] := by
        split at h3
        · rename_i hc
          cases ds with
          | nil => exact List.eq_nil_of_length_eq_zero (by rw [← l1]; rfl)
          | cons _ _ =>
            cases es with
            | nil => exact List.eq_nil_of_length_eq_zero (by rw [e0, ← l2]; rfl)
            | cons _ _ => simp at hc
        · cases h3
      subst hb
      have e1 : its2 = [] := List.eq_nil_of_length_eq_zero (by rw [← e0]; rfl)
      subst e1
      have d1 : ds = [] := List.eq_nil_of_length_eq_zero l1
      have d2 : es = [] := List.eq_nil_of_length_eq_zero l2
      subst d1; subst d2
      have : b = true := by simpa using h3.symm
      subst this
      exact ⟨SeqAt.RcAt.lists (e := fun _ => true) p1.isList p2.isList hz hu (fun j h1 => absurd h1 (by simp)), SeqAt.RcNeAt.lists (e := fun _ => true) p1.isList p2.isList hz hu (fun j h1 => absurd h1 (by simp))⟩
    · have : b = false := by
        split at h3
        · cases ds with
          | nil =>
            cases es with
            | nil => exact absurd (by simp [← l1, ← l2]) hz
            | cons _ _ => simpa using h3.symm
          | cons _ _ => simpa using h3.symm
        · cases h3
      subst this
      have hne : (its.toArray.size != its2.toArray.size) = true := by simpa using hz
      exact ⟨SeqAt.RcAt.lists_lengths p1.isList p2.isList hne hu, SeqAt.RcNeAt.lists_lengths p1.isList p2.isList hne hu⟩
  cases rd with
  | @tup a1 vs ds h1 h2 =>
    cases re with
    | @tup a2 ws es h3 h4 =>
      have h : (if (ds.isEmpty || es.isEmpty) = true then some (ds.isEmpty && es.isEmpty) else none) = some b := h
      cases rx
      cases ry
      obtain ⟨its, r1, p1, _⟩ := I.tuple h1.sq
      obtain ⟨its2, r2, p2, _⟩ := I.tuple h3.sq
      have l1 : ds.length = its.length := h2.length.trans r1.length
      have l2 : es.length = its2.length := h4.length.trans r2.length
      have no : ∀ j, j < its.toArray.size → j < its2.toArray.size → False := by
        intro j g1 g2
        split at h
        · rename_i hc
          cases ds with
          | nil => simp [← l1] at g1
          | cons _ _ =>
            cases es with
            | nil => simp [← l2] at g2
            | cons _ _ => simp at hc
        · cases h
      have hb : b = ((List.range (min its.toArray.size its2.toArray.size)).all (fun _ => true) && its.toArray.size == its2.toArray.size) := by
        have ea : (List.range (min its.toArray.size its2.toArray.size)).all (fun _ => true) = true := by simp
        rw [ea, Bool.true_and]
        split at h
        · rename_i hc
          have h := Option.some.inj h
          rw [← h]
          have e1 : ds.isEmpty = decide (its.length = 0) := by rw [← l1]; cases ds <;> simp
          have e2 : es.isEmpty = decide (its2.length = 0) := by rw [← l2]; cases es <;> simp
          rw [e1, e2] at hc ⊢
          simp only [List.size_toArray]
          by_cases z1 : its.length = 0
          · by_cases z2 : its2.length = 0
            · simp [z1, z2]
            · have : ¬ its.length = its2.length := by omega
              simp [z1, z2]
              omega
          · have z2 : its2.length = 0 := by simpa [z1] using hc
            have : ¬ its.length = its2.length := by omega
            simp [z1, z2]
        · cases h
      refine ⟨?_, ?_⟩
      · rw [hb]
        exact SeqAt.RcAt.tuples (e := fun _ => true) p1 p2 hu (fun j g1 g2 => (no j g1 g2).elim)
      · rw [hb]
        exact SeqAt.RcNeAt.tuples (e := fun _ => true) p1 p2 hu (fun j g1 g2 => (no j g1 g2).elim)
    | _ => cases h
  | @lst a1 vs ds h1 h2 =>
    have h : (match items S (.lst ds), items S e with
      | some xs, some ys => if (xs.isEmpty || ys.isEmpty) = true then some (xs.isEmpty && ys.isEmpty) else none
      | _, _ => none) = some b := h
    cases q2 : items S e with
    | none => rw [q2] at h; cases h
    | some es =>
      rw [q2] at h
      exact lists rfl q2 h
  | @ref m a1 h1 =>
    have h : (match items S (.ref m), items S e with
      | some xs, some ys => if (xs.isEmpty || ys.isEmpty) = true then some (xs.isEmpty && ys.isEmpty) else none
      | _, _ => none) = some b := h
    cases q1 : items S (.ref m) with
    | none => rw [q1] at h; cases h
    | some ds =>
      cases q2 : items S e with
      | none => rw [q1, q2] at h; cases h
      | some es =>
        rw [q1, q2] at h
        exact lists q1 q2 h
  | _ => cases h
theorem op_eqDD (c : Ck n X) : Op2 τ X (compareOp .Eq) eqD := by
  intro pins s σ H η S x y v u d e I tk st rx ry rd re
  unfold eqD
  cases q : eqE S d e with
  | none => trivial
  | some b =>
    refine out_ok tk fun E => ?_
    unfold eqE at q
    cases q1 : scalE d e with
    | some b' =>
      rw [q1] at q
      cases q
      obtain ⟨h1, h2⟩ := scalE_ok rd re q1
      refine op_eq (X := X.wish E) pins s σ H _ _ v u _ (I.wish E) rx ry ⟨h1, ?_⟩
      rw [h2]
      exact good_here st (.bl _)
    | none =>
      rw [q1] at q
      cases q2 : emptE S d e with
      | some b' =>
        simp only [q2] at q
        cases q
        exact (emptE_ok I c st rx ry rd re q2).1 X.prog X.w E _ ⟨.bl _, H, I.wish E, rfl, good_here st (.bl _)⟩
      | none =>
        simp only [q2] at q
        unfold dataE at q
        cases q3 : deep d with
        | none => rw [q3] at q; cases q
        | some a =>
          cases q4 : deep e with
          | none => rw [q3, q4] at q; cases q
          | some b' =>
            rw [q3, q4] at q
            dsimp only at q
            split at q
            · rename_i hz
              cases q
              obtain ⟨as, r1, _⟩ := rep_reads c.sm I rd q3 rx
              obtain ⟨bs, r2, _⟩ := rep_reads c.sm I re q4 ry
              exact SeqAt.compareEq_reads r1 r2 hz.1 hz.2.1 (c.units (Nat.le_trans (Nat.min_le_left _ _) (by omega))) ⟨.bl _, H, I.wish E, rfl, good_here st (.bl _)⟩
            · cases q
theorem op_neDD (c : Ck n X) : Op2 τ X (compareOp .NotEq) neD := by
  intro pins s σ H η S x y v u d e I tk st rx ry rd re
  unfold neD
  cases q : eqE S d e with
  | none => trivial
  | some b =>
    refine out_ok tk fun E => ?_
    unfold eqE at q
    cases q1 : scalE d e with
    | some b' =>
      rw [q1] at q
      cases q
      obtain ⟨h1, h2⟩ := scalE_ok rd re q1
      refine op_ne (X := X.wish E) pins s σ H _ _ v u _ (I.wish E) rx ry ⟨h1, ?_⟩
      rw [h2]
      exact good_here st (.bl _)
    | none =>
      rw [q1] at q
      cases q2 : emptE S d e with
      | some b' =>
        simp only [q2] at q
        cases q
        exact (emptE_ok I c st rx ry rd re q2).2 X.prog X.w E _ ⟨.bl _, H, I.wish E, rfl, good_here st (.bl _)⟩
      | none =>
        simp only [q2] at q
        unfold dataE at q
        cases q3 : deep d with
        | none => rw [q3] at q; cases q
        | some a =>
          cases q4 : deep e with
          | none => rw [q3, q4] at q; cases q
          | some b' =>
            rw [q3, q4] at q
            dsimp only at q
            split at q
            · rename_i hz
              cases q
              obtain ⟨as, r1, _⟩ := rep_reads c.sm I rd q3 rx
              obtain ⟨bs, r2, _⟩ := rep_reads c.sm I re q4 ry
              exact SeqAt.compareNe_reads r1 r2 hz.1 hz.2.1 (c.units (Nat.le_trans (Nat.min_le_left _ _) (by omega))) ⟨.bl _, H, I.wish E, rfl, good_here st (.bl _)⟩
            · cases q
end
end MP

/-! MP5: order, in, is, subscripts, slices, built-in functions. -/
namespace MP
open PySem L2

/-! ### order -/
def ltS (x y : Str) : Bool := decide (x.cps.toList < y.cps.toList)
def ltD : D → D → M D
  | .int i, .int j => pure (.bl (decide (i < j)))
  | .str x, .str y => pure (.bl (ltS x y))
  | _, _ => M.fail
def leD : D → D → M D
  | .int i, .int j => pure (.bl (decide (i ≤ j)))
  | .str x, .str y => pure (.bl (!ltS y x))
  | _, _ => M.fail
def gtD : D → D → M D
  | .int i, .int j => pure (.bl (decide (j < i)))
  | .str x, .str y => pure (.bl (ltS y x))
  | _, _ => M.fail
def geD : D → D → M D
  | .int i, .int j => pure (.bl (decide (j ≤ i)))
  | .str x, .str y => pure (.bl (!ltS x y))
  | _, _ => M.fail
section
variable {X : Cx}
theorem op_ltDD : Op2 τ X (compareOp .Lt) ltD := by
  intro pins s σ H η S x y v u d e I tk st rx ry rd re
  cases rd with
  | int i =>
    cases re with
    | int j => exact out_ok tk fun E => op_lt (X := X.wish E) pins s σ H _ _ v u _ (I.wish E) rx ry ⟨i, j, rfl, rfl, good_here st (.bl _)⟩
    | _ => trivial
  | str i =>
    cases re with
    | str j => exact out_ok tk fun E => op_lt_str (X := X.wish E) pins s σ H _ _ v u _ (I.wish E) rx ry ⟨i, j, rfl, rfl, good_here st (.bl _)⟩
    | _ => trivial
  | _ => cases re <;> trivial
theorem op_leDD : Op2 τ X (compareOp .LtE) leD := by
  intro pins s σ H η S x y v u d e I tk st rx ry rd re
  cases rd with
  | int i =>
    cases re with
    | int j => exact out_ok tk fun E => op_le (X := X.wish E) pins s σ H _ _ v u _ (I.wish E) rx ry ⟨i, j, rfl, rfl, good_here st (.bl _)⟩
    | _ => trivial
  | str i =>
    cases re with
    | str j => exact out_ok tk fun E => op_le_str (X := X.wish E) pins s σ H _ _ v u _ (I.wish E) rx ry ⟨i, j, rfl, rfl, good_here st (.bl _)⟩
    | _ => trivial
  | _ => cases re <;> trivial
theorem op_gtDD : Op2 τ X (compareOp .Gt) gtD := by
  intro pins s σ H η S x y v u d e I tk st rx ry rd re
  cases rd with
  | int i =>
    cases re with
    | int j => exact out_ok tk fun E => op_gt (X := X.wish E) pins s σ H _ _ v u _ (I.wish E) rx ry ⟨i, j, rfl, rfl, good_here st (.bl _)⟩
    | _ => trivial
  | str i =>
    cases re with
    | str j => exact out_ok tk fun E => op_gt_str (X := X.wish E) pins s σ H _ _ v u _ (I.wish E) rx ry ⟨i, j, rfl, rfl, good_here st (.bl _)⟩
    | _ => trivial
  | _ => cases re <;> trivial
theorem op_geDD : Op2 τ X (compareOp .GtE) geD := by
  intro pins s σ H η S x y v u d e I tk st rx ry rd re
  cases rd with
  | int i =>
    cases re with
    | int j => exact out_ok tk fun E => op_ge (X := X.wish E) pins s σ H _ _ v u _ (I.wish E) rx ry ⟨i, j, rfl, rfl, good_here st (.bl _)⟩
    | _ => trivial
  | str i =>
    cases re with
    | str j => exact out_ok tk fun E => op_ge_str (X := X.wish E) pins s σ H _ _ v u _ (I.wish E) rx ry ⟨i, j, rfl, rfl, good_here st (.bl _)⟩
    | _ => trivial
  | _ => cases re <;> trivial
end

/-! ### in, not in -/
def flatD : D → Bool
  | .non => true
  | .bl _ => true
  | .int _ => true
  | .str _ => true
  | _ => false
def eqF : D → D → Bool
  | .non, .non => true
  | .bl a, .bl b => a == b
  | .bl a, .int b => (if a then 1 else 0) == b
  | .int a, .bl b => a == (if b then 1 else 0)
  | .int a, .int b => a == b
  | .str a, .str b => a == b
  | _, _ => false
def sign? (x : Str) : Option Nat := match x.cps.toList with
  | [c] => some c
  | _ => none
def seqIn (d : D) (xs : List D) : Option Bool := if flatD d = true ∧ xs.all flatD = true then some (xs.any fun y => eqF y d) else none
/-! dicts -/
def keyD : D → Option Key
  | .int i => some (.inl i)
  | .str z => some (.inr z)
  | _ => none
def dicE (S : Sto) : D → Option (List (Key × D))
  | .dic kvs => some kvs
  | .ref n => match S[n]? with
    | some (.dic kvs) => some kvs
    | some (.fdic kvs) => some kvs
    | _ => none
  | _ => none
def lookK (kvs : List (Key × D)) (k : Key) : Option D := (kvs.find? fun p => decide (p.1 = k)).map (·.2)
theorem keyD_ok {K : PySem.W.Frag} {η : List Addr} {H : Hp} {d : D} {x : V} {k : Key} (r : Rep K η H d x) (h : keyD d = some k) : x = kV k := by
  cases r <;> first | (cases h; rfl) | cases h
theorem dicE_ok {K : PySem.W.Frag} {η : List Addr} {H : Hp} {S : Sto} {d : D} {x : V} {kds : List (Key × D)} (st : StoOk K η H S) (r : Rep K η H d x) (h : dicE S d = some kds) : ∃ a kvs, x = .ref a ∧ Rd H a (.dK kvs) ∧ Repk K η H kds kvs := by
  cases r with
  | dic h1 h2 => cases h; exact ⟨_, _, rfl, .inl h1.1, h2⟩
  | @ref n a h1 =>
    have h : (match S[n]? with | some (.dic kvs) => some kvs | some (.fdic kvs) => some kvs | _ => none) = some kds := h
    cases q : S[n]? with
    | none => rw [q] at h; cases h
    | some o =>
      rw [q] at h
      cases o with
      | lst _ => cases h
      | dic es => cases h; obtain ⟨vs, h3, h4⟩ := st.look n _ a q h1; exact ⟨a, vs, rfl, .inl h3, h4⟩
      | fdic es => cases h; obtain ⟨o, vs, h3, h4⟩ := st.look n _ a q h1; exact ⟨a, vs, rfl, .inr ⟨o, h3⟩, h4⟩
  | _ => cases h
theorem lookK_ok {K : PySem.W.Frag} {η : List Addr} {H : Hp} {k : Key} : ∀ {kds : List (Key × D)} {kvs : List (Key × V)}, Repk K η H kds kvs → (∀ d, lookK kds k = some d → ∃ v, valV kvs k = some v ∧ Rep K η H d v) ∧ (lookK kds k = none → valV kvs k = none)
  | _, _, .nil => ⟨fun d h => (by cases h), fun _ => rfl⟩
  | _, _, .cons (k := k') (d := d') (v := v') (ds := ds) (vs := vs) r t => by
    obtain ⟨i1, i2⟩ := lookK_ok (k := k) t
    by_cases e : k' = k
    · refine ⟨fun d h => ⟨v', valV_pos (p := (k', v')) e, ?_⟩, fun h => ?_⟩
      · simp [lookK, List.find?_cons, e] at h
        rw [← h]; exact r
      · simp [lookK, List.find?_cons, e] at h
    · have e1 : lookK ((k', d') :: ds) k = lookK ds k := by simp [lookK, List.find?_cons, e]
      refine ⟨fun d h => ?_, fun h => ?_⟩
      · rw [e1] at h
        obtain ⟨v, h1, h2⟩ := i1 d h
        exact ⟨v, by rw [valV_neg (p := (k', v')) e]; exact h1, h2⟩
      · rw [e1] at h
        rw [valV_neg (p := (k', v')) e]
        exact i2 h
def dicIn (S : Sto) (d e : D) : Option Bool := match dicE S e, keyD d with
  | some kvs, some k => some (lookK kvs k).isSome
  | _, _ => none
def inE (S : Sto) (d e : D) : Option Bool := match e with
  | .str z => match d with
    | .str x => match sign? x with
      | some c => some (decide (c ∈ z.cps.toList))
      | none => none
    | _ => none
  | .tup xs => seqIn d xs
  | e => match items S e with
    | some xs => seqIn d xs
    | none => dicIn S d e
def inD (d e : D) : M D := fun S => match inE S d e with
  | some b => .ok (.bl b) S
  | none => .bad
def notInD (d e : D) : M D := fun S => match inE S d e with
  | some b => .ok (.bl (!b)) S
  | none => .bad
section
variable {X : Cx} {η : List Addr} {H : Hp}
theorem flat_ok {d : D} {x : V} (r : Rep X.K η H d x) (h : flatD d = true) : flatV x = true := by
  cases r <;> first | rfl | cases h
theorem flats_ok : ∀ {ds : List D} {vs : List V}, Reps X.K η H ds vs → ds.all flatD = true → vs.all flatV = true
  | _, _, .nil, _ => rfl
  | _, _, .cons r t, h => by
    rw [List.all_cons, Bool.and_eq_true] at h
    rw [List.all_cons, Bool.and_eq_true]
    exact ⟨flat_ok r h.1, flats_ok t h.2⟩
theorem eqF_ok {d e : D} {x y : V} (r : Rep X.K η H d x) (q : Rep X.K η H e y) (h1 : flatD d = true) (h2 : flatD e = true) : eqV x y = eqF d e := by
  cases r <;> cases q <;> first | rfl | cases h1 | cases h2
theorem inV_ok {d : D} {x : V} (r : Rep X.K η H d x) (h1 : flatD d = true) : ∀ {ds : List D} {vs : List V}, Reps X.K η H ds vs → ds.all flatD = true → inV x vs = ds.any fun y => eqF y d
  | _, _, .nil, _ => rfl
  | _, _, .cons q t, h => by
    rw [List.all_cons, Bool.and_eq_true] at h
    have ih := inV_ok r h1 t h.2
    unfold inV at ih ⊢
    rw [List.any_cons, List.any_cons, ih, eqF_ok q r h.1 h1]
theorem sign_ok {x : Str} {c : Nat} (h : sign? x = some c) : x = ⟨#[c]⟩ := by
  obtain ⟨⟨l⟩⟩ := x
  unfold sign? at h
  match l, h with
  | [c'], h => cases h; rfl
theorem inE_ok {pins : List (Addr × Obj)} {s : Shared} {σ : L2.St} {S : Sto} {x y : V} {v u : Value} {d e : D} {b : Bool} {E : Value → Shared → Prop} (I : Inv X pins σ H s) (st : StoOk X.K η H S) (rx : RelV x v) (ry : RelV y u) (rd : Rep X.K η H d x) (re : Rep X.K η H e y)
    (hu : X.A.units + 1 < cLine) (h : inE S d e = some b) : wpAny (model X.prog X.w) X.A (compareOp .In v u) (EP (X.wish E) pins σ (Good X.K η H S (.bl b))) E s ∧ wpAny (model X.prog X.w) X.A (compareOp .NotIn v u) (EP (X.wish E) pins σ (Good X.K η H S (.bl (!b)))) E s := by
  have seq : ∀ {p : Addr} {ds : List D} {vs : List V}, y = .ref p → (SqL X.K H p vs ∨ SqT X.K H p vs) → Reps X.K η H ds vs → seqIn d ds = some b →
      wpAny (model X.prog X.w) X.A (compareOp .In v u) (EP (X.wish E) pins σ (Good X.K η H S (.bl b))) E s ∧ wpAny (model X.prog X.w) X.A (compareOp .NotIn v u) (EP (X.wish E) pins σ (Good X.K η H S (.bl (!b)))) E s := by
    intro p ds vs ey hs hr hq
    unfold seqIn at hq
    split at hq
    · rename_i hz
      have hq := Option.some.inj hq
      have e1 := inV_ok rd hz.1 hr hz.2
      rw [hq] at e1
      refine ⟨op_in_seq (X := X.wish E) pins s σ H x y v u _ (I.wish E) rx ry ⟨p, vs, ey, hs, flat_ok rd hz.1, flats_ok hr hz.2, ?_⟩, op_notIn_seq (X := X.wish E) pins s σ H x y v u _ (I.wish E) rx ry ⟨p, vs, ey, hs, flat_ok rd hz.1, flats_ok hr hz.2, ?_⟩⟩
      · rw [e1]; exact good_here st (.bl _)
      · rw [e1]; exact good_here st (.bl _)
    · cases hq
  have dc : dicIn S d e = some b → wpAny (model X.prog X.w) X.A (compareOp .In v u) (EP (X.wish E) pins σ (Good X.K η H S (.bl b))) E s ∧ wpAny (model X.prog X.w) X.A (compareOp .NotIn v u) (EP (X.wish E) pins σ (Good X.K η H S (.bl (!b)))) E s := by
    intro hq
    unfold dicIn at hq
    cases q1 : dicE S e with
    | none => rw [q1] at hq; cases hq
    | some kds =>
      cases q2 : keyD d with
      | none => rw [q1, q2] at hq; cases hq
      | some k =>
        rw [q1, q2] at hq
        have hq := Option.some.inj hq
        obtain ⟨a, kvs, e1, hr, rk⟩ := dicE_ok st re q1
        have ek := keyD_ok rd q2
        obtain ⟨i1, i2⟩ := lookK_ok (k := k) rk
        have hb : (valV kvs k).isSome = b := by
          rw [← hq]
          cases q3 : lookK kds k with
          | none => rw [i2 q3]; rfl
          | some d' => obtain ⟨v', h1, _⟩ := i1 d' q3; rw [h1]; rfl
        subst e1
        subst ek
        cases ry
        have g : DGet H a (kV k) (valV kvs k) := .inl ⟨kvs, k, hr, rfl, rfl⟩
        refine ⟨d_in (X := X.wish E) hu (I.wish E) g rx fun s' I' => ?_, d_notIn (X := X.wish E) hu (I.wish E) g rx fun s' I' => ?_⟩
        · rw [hb]; exact ⟨.bl b, H, I', rfl, good_here st (.bl _)⟩
        · rw [hb]; exact ⟨.bl (!b), H, I', rfl, good_here st (.bl _)⟩
  cases re with
  | str z =>
    cases rd with
    | str a =>
      have h : (match sign? a with | some c => some (decide (c ∈ z.cps.toList)) | none => none) = some b := h
      cases q : sign? a with
      | none => rw [q] at h; cases h
      | some c =>
        rw [q] at h
        have hb := Option.some.inj h
        have e1 := sign_ok q
        subst e1
        subst hb
        exact ⟨op_in_sign (X := X.wish E) pins s σ H _ _ v u _ (I.wish E) rx ry ⟨c, z, rfl, rfl, good_here st (.bl _)⟩, op_notIn_sign (X := X.wish E) pins s σ H _ _ v u _ (I.wish E) rx ry ⟨c, z, rfl, rfl, good_here st (.bl _)⟩⟩
    | _ => cases h
  | tup h1 h2 => exact seq rfl (.inr h1.sq) h2 h
  | lst h1 h2 => exact seq rfl (.inl h1.sq) h2 h
  | @ref m a h1 =>
    have h : (match items S (.ref m) with | some xs => seqIn d xs | none => dicIn S d (.ref m)) = some b := h
    cases q : items S (.ref m) with
    | none => rw [q] at h; exact dc h
    | some xs =>
      rw [q] at h
      obtain ⟨a', vs, e1, h3, h4⟩ := items_at st (.ref h1) q
      exact seq e1 (.inl (SqL.of h3)) h4 h
  | _ => exact dc h
theorem op_inDD (hu : X.A.units + 1 < cLine) : Op2 τ X (compareOp .In) inD := by
  intro pins s σ H η S x y v u d e I tk st rx ry rd re
  unfold inD
  cases q : inE S d e with
  | none => trivial
  | some b => exact out_ok tk fun E => (inE_ok I st rx ry rd re hu q).1
theorem op_notInDD (hu : X.A.units + 1 < cLine) : Op2 τ X (compareOp .NotIn) notInD := by
  intro pins s σ H η S x y v u d e I tk st rx ry rd re
  unfold notInD
  cases q : inE S d e with
  | none => trivial
  | some b => exact out_ok tk fun E => (inE_ok I st rx ry rd re hu q).2
end

/-! ### is, is not -/
def isE : D → D → Option Bool
  | .non, .non => some true
  | .bl a, .bl b => some (decide (a = b))
  | .bl _, .non => some false
  | .int _, .non => some false
  | .str _, .non => some false
  | .tup _, .non => some false
  | .lst _, .non => some false
  | .frz _, .non => some false
  | .dic _, .non => some false
  | .ref _, .non => some false
  | _, _ => none
def isD (d e : D) : M D := M.of ((isE d e).map .bl)
def isNotD (d e : D) : M D := M.of ((isE d e).map fun b => .bl (!b))
section
variable {X : Cx}
theorem op_isDD : Op2 τ X (compareOp .Is) isD := by
  intro pins s σ H η S x y v u d e I tk st rx ry rd re
  have nn : ∀ b, y = .non → decide (x = .non) = b → Out τ X pins η H (relV X.K σ) (.ok (.bl b) S) (sem X (compareOp .Is v u)) s := fun b e1 e2 =>
    out_ok tk fun E => op_isN (X := X.wish E) pins s σ H x y v u _ (I.wish E) rx ry ⟨e1, by rw [e2]; exact good_here st (.bl _)⟩
  cases re with
  | non => cases rd <;> exact nn _ rfl (by simp)
  | bl b =>
    cases rd with
    | bl a => exact out_ok tk fun E => op_isBl (X := X.wish E) pins s σ H _ _ v u _ (I.wish E) rx ry ⟨a, b, rfl, rfl, good_here st (.bl _)⟩
    | _ => trivial
  | _ => cases rd <;> trivial
theorem op_isNotDD : Op2 τ X (compareOp .IsNot) isNotD := by
  intro pins s σ H η S x y v u d e I tk st rx ry rd re
  have nn : ∀ b, y = .non → decide (x = .non) = b → Out τ X pins η H (relV X.K σ) (.ok (.bl (!b)) S) (sem X (compareOp .IsNot v u)) s := fun b e1 e2 =>
    out_ok tk fun E => op_notN (X := X.wish E) pins s σ H x y v u _ (I.wish E) rx ry ⟨e1, by rw [e2]; exact good_here st (.bl _)⟩
  cases re with
  | non => cases rd <;> exact nn _ rfl (by simp)
  | bl b =>
    cases rd with
    | bl a => exact out_ok tk fun E => op_notBl (X := X.wish E) pins s σ H _ _ v u _ (I.wish E) rx ry ⟨a, b, rfl, rfl, good_here st (.bl _)⟩
    | _ => trivial
  | _ => cases rd <;> trivial
end

/-! ### subscripts -/
def ixE (S : Sto) (d : D) (i : Int) : Option D := match d with
  | .tup xs => atI xs i
  | .str z => if z.length ≤ SL then (atI z.cps.toList i).map fun c => .str ⟨#[c]⟩ else none
  | d => (itemsR S d).bind fun xs => atI xs i
def dicIx (S : Sto) (d : D) (k : Key) : R D := match (dicE S d).bind (lookK · k) with
  | some e => .ok e S
  | none => .bad
def ixD : D → D → M D
  | d, .int i => fun S => match ixE S d i with
    | some e => .ok e S
    | none => dicIx S d (.inl i)
  | d, .str z => fun S => dicIx S d (.inr z)
  | _, _ => M.fail
section
variable {X : Cx} {η : List Addr} {H : Hp}
theorem tail_dict {A : Around} {E : Value → Shared → Prop} {s : Shared} {value slice : Expr} {o i : Value} {Q : Value → Shared → Prop} (hs : ∀ o i, subscripted slice false o i = operate [o, i] (getItem o i)) (hT : s.TypeIs o "dict") (h₂ : wpAny (model X.prog X.w) A (getItem o i) Q E s) :
    wpAny (model X.prog X.w) A (PyProof.Rows.subscriptTail value slice o i) Q E s := by
  unfold PyProof.Rows.subscriptTail
  refine wpAny_bind ?_
  rw [getitemInPython_of_ne hT.not_modules]
  refine wpAny_bind (wpAny_specialOf hT PySem.F.slot_dict_getitem.lookup ?_)
  have fin : wpAny (model X.prog X.w) A (subscripted slice false o i) (fun r s₃ => wpAny (model X.prog X.w) A (letTemporaryGo value o r >>= fun _ => pure r) Q E s₃) E s := by
    rw [hs o i]
    exact wpAny_operating (wpAny_mono h₂ (fun r s₃ h₃ => wpAny_bind (wpAny_letTemporaryGo (wpAny_pure h₃))) fun _ _ x => x)
  first
    | exact wpAny_pure (wpAny_bind fin)
    | exact wpAny_bind (wpAny_pure (wpAny_bind fin))
    | exact wpAny_bind fin
theorem dicIx_ok {value slice : Expr} (hu : X.A.units + 1 < cLine) (hs : ∀ o i, subscripted slice false o i = operate [o, i] (getItem o i)) {pins : List (Addr × Obj)} {s : Shared} {σ : L2.St} {S : Sto} {x y : V} {v u : Value} {d e : D} {k : Key} (I : Inv X pins σ H s) (tk : τ ≤ s.toks) (st : StoOk X.K η H S) (rx : RelV x v) (ry : RelV y u) (rd : Rep X.K η H d x) (re : Rep X.K η H e y) (hk : keyD e = some k) :
    Out τ X pins η H (relV X.K σ) (dicIx S d k) (sem X (PyProof.Rows.subscriptTail value slice v u)) s := by
  unfold dicIx
  cases q : (dicE S d).bind (lookK · k) with
  | none => trivial
  | some e' =>
    cases q1 : dicE S d with
    | none => rw [q1] at q; cases q
    | some kds =>
      rw [q1] at q
      obtain ⟨a, kvs, e1, hr, rk⟩ := dicE_ok st rd q1
      obtain ⟨v', h1, h2⟩ := (lookK_ok (k := k) rk).1 e' q
      have ek := keyD_ok re hk
      subst e1
      subst ek
      cases rx
      have g : DGet H a (kV k) (some v') := .inl ⟨kvs, k, hr, rfl, h1.symm⟩
      exact out_ok tk fun E => tail_dict hs (dict_typeIs I g) (d_getItem (X := X.wish E) hu (I.wish E) g ry fun w' s' I' r' => ⟨v', H, I', r', good_here st h2⟩)
theorem at_ok {K : PySem.W.Frag} {ds : List D} {vs : List V} {i : Int} {d : D} (h : Reps K η H ds vs) (e : atI ds i = some d) : ∃ v, atI vs i = some v ∧ Rep K η H d v := by
  unfold atI at e ⊢
  rw [← h.length]
  cases q : ixN ds.length i with
  | none => rw [q] at e; cases e
  | some j =>
    rw [q] at e
    exact h.get e
theorem op_ixD {value slice : Expr} (hu : X.A.units + 1 < cLine) (hs : ∀ o i, subscripted slice false o i = operate [o, i] (getItem o i)) : Op2 τ X (PyProof.Rows.subscriptTail value slice) ixD := by
  intro pins s σ H η S x y v u d e I tk st rx ry rd re
  cases re with
  | int i =>
    show Out τ X pins η H (relV X.K σ) (match ixE S d i with | some e => .ok e S | none => dicIx S d (.inl i)) _ s
    cases q : ixE S d i with
    | none => exact dicIx_ok hu hs I tk st rx ry rd (.int i) rfl
    | some e' =>
      refine out_ok tk fun E => ?_
      have seq : ∀ {p : Addr} {ds : List D} {vs : List V}, x = .ref p → SqL X.K H p vs → Reps X.K η H ds vs → atI ds i = some e' → wpAny (model X.prog X.w) X.A (PyProof.Rows.subscriptTail value slice v u) (EP (X.wish E) pins σ (Good X.K η H S e')) E s := by
        intro p ds vs ex hl hr ha
        obtain ⟨w, h1, h2⟩ := at_ok hr ha
        exact ix_list (X := X.wish E) value slice pins s σ H x _ v u _ (I.wish E) rx ry ⟨p, vs, i, w, ex, rfl, hl, h1, good_here st h2⟩ (hs _ _)
      cases rd with
      | tup h1 h2 =>
        obtain ⟨w, h3, h4⟩ := at_ok h2 q
        exact ix_tup (X := X.wish E) value slice pins s σ H _ _ v u _ (I.wish E) rx ry ⟨_, _, i, w, rfl, rfl, h1.sq, h3, good_here st h4⟩ (hs _ _)
      | str z =>
        have q : (if z.length ≤ SL then (atI z.cps.toList i).map fun c => D.str ⟨#[c]⟩ else none) = some e' := q
        split at q
        · rename_i hz
          cases qa : atI z.cps.toList i with
          | none => rw [qa] at q; cases q
          | some c =>
            rw [qa] at q
            cases q
            exact ix_str (X := X.wish E) value slice pins s σ H _ _ v u _ (I.wish E) rx ry ⟨z, i, c, rfl, rfl, sl_le hz, qa, good_here st (.str _)⟩ (hs _ _)
        · cases q
      | lst h1 h2 => exact seq rfl h1.sq h2 q
      | frz h1 h2 => exact seq rfl h1.sq h2 q
      | @ref m a h1 =>
        have q : (itemsR S (.ref m)).bind (fun xs => atI xs i) = some e' := q
        cases qa : itemsR S (.ref m) with
        | none => rw [qa] at q; cases q
        | some xs =>
          rw [qa] at q
          obtain ⟨a', vs, e1, h3, h4⟩ := itemsR_at st (.ref h1) qa
          exact seq e1 h3 h4 q
      | _ => cases q
  | str z => exact dicIx_ok hu hs I tk st rx ry rd (.str z) rfl
  | _ => trivial
end

/-! ### slices -/
def cutL {α : Type} (xs : List α) (lo hi : Option Int) : List α := (xs.drop (HT.sIx xs.length 0 lo)).take (HT.sIx xs.length xs.length hi - HT.sIx xs.length 0 lo)
def sliceE (m : Bool) (d : D) (lo hi : Option Int) : M D := match d with
  | .tup xs => pure (.tup (cutL xs lo hi))
  | .str z => if z.length ≤ SL then pure (.str (cutS z lo hi)) else M.fail
  | d => fun S => match itemsR S d with
    | some xs => newL m (cutL xs lo hi) S
    | none => .bad
theorem cut_ok {K : PySem.W.Frag} {η : List Addr} {H : Hp} {ds : List D} {vs : List V} (h : Reps K η H ds vs) (lo hi : Option Int) : Reps K η H (cutL ds lo hi) (cutV vs lo hi) := by
  unfold cutL cutV
  rw [← h.length]
  exact (h.drop _).take _
section
variable {X : Cx}
theorem sl_okD {m : Bool} {pins : List (Addr × Obj)} {s : Shared} {σ : L2.St} {H : Hp} {η : List Addr} {S S' : Sto} {x : V} {v vl vu : Value} {lo hi : Option Int} {sl : Addr} {d d' : D} {E : Value → Shared → Prop} (I : Inv X pins σ H s) (st : StoOk X.K η H S) (rx : RelV x v) (rd : Rep X.K η H d x)
    (hs : s.heap.IsSliceOf sl vl vu .none) (pl : IsPart vl lo) (pu : IsPart vu hi) (h : sliceE m d lo hi S = .ok d' S') :
    ∃ T id, typeLookup (.type T) "__getitem__" = pure (some (.builtin id)) ∧ s.TypeIs v T ∧ wpAny (model X.prog X.w) X.A (getItem v (.ref sl)) (EP (X.wish E) pins σ (Good X.K η H S' d')) E s := by
  have seq : ∀ {p : Addr} {ds : List D} {vs : List V}, x = .ref p → SqL X.K H p vs → Reps X.K η H ds vs → newL m (cutL ds lo hi) S = .ok d' S' →
      ∃ T id, typeLookup (.type T) "__getitem__" = pure (some (.builtin id)) ∧ s.TypeIs v T ∧ wpAny (model X.prog X.w) X.A (getItem v (.ref sl)) (EP (X.wish E) pins σ (Good X.K η H S' d')) E s := by
    intro p ds vs ex hl hr hn
    exact sl_list (X := X.wish E) pins s σ H x v vl vu lo hi sl _ (I.wish E) rx hs pl pu ⟨p, vs, ex, hl, fun q hq => good_newL st (cut_ok hr lo hi) hq hn⟩
  cases rd with
  | @tup a vs ds h1 h2 =>
    cases h
    refine sl_tupA (X := X.wish E) pins s σ H _ v vl vu lo hi sl _ (I.wish E) rx hs pl pu ⟨a, vs, rfl, h1.sq, fun hw => ?_, fun _ q hq => good_newT st (cut_ok h2 lo hi) hq⟩
    have e : cutL ds lo hi = ds := by
      unfold cutL
      rw [h2.length, hw.1, hw.2, List.drop_zero, Nat.sub_zero, ← h2.length, List.take_length]
    rw [e]
    exact good_here st (.tup h1 h2)
  | str z =>
    have h : (if z.length ≤ SL then pure (D.str (cutS z lo hi)) else M.fail : M D) S = .ok d' S' := h
    split at h
    · rename_i hz
      cases h
      exact sl_str (X := X.wish E) pins s σ H _ v vl vu lo hi sl _ (I.wish E) rx hs pl pu ⟨z, rfl, sl_le hz, good_here st (.str _)⟩
    · cases h
  | lst h1 h2 => exact seq rfl h1.sq h2 h
  | frz h1 h2 => exact seq rfl h1.sq h2 h
  | @ref n a h1 =>
    have h : (match itemsR S (.ref n) with | some xs => newL m (cutL xs lo hi) S | none => .bad) = .ok d' S' := h
    cases qa : itemsR S (.ref n) with
    | none => rw [qa] at h; cases h
    | some xs =>
      rw [qa] at h
      obtain ⟨a', vs, e1, h3, h4⟩ := itemsR_at st (.ref h1) qa
      exact seq e1 h3 h4 h
  | _ => cases h
end
end MP

/-! MP6: built-in functions and methods, truth, stores. -/
namespace MP
open PySem L2

section
variable {K : PySem.W.Frag} {η : List Addr} {H : Hp}
/-- one value, two -/
theorem one_of {ds : List D} {xs : List V} {d : D} (h : Reps K η H [d] xs) : ∃ x, xs = [x] ∧ Rep K η H d x := by
  cases h with
  | cons r t => cases t; exact ⟨_, rfl, r⟩
theorem two_of {xs : List V} {d e : D} (h : Reps K η H [d, e] xs) : ∃ x y, xs = [x, y] ∧ Rep K η H d x ∧ Rep K η H e y := by
  cases h with
  | cons r t =>
    cases t with
    | cons r2 t2 => cases t2; exact ⟨_, _, rfl, r, r2⟩
theorem nil_of {xs : List V} (h : Reps K η H [] xs) : xs = [] := by cases h; rfl
def ints? : List D → Option (List Int)
  | [] => some []
  | .int i :: r => (ints? r).map (i :: ·)
  | _ => none
def bools? : List D → Option (List Bool)
  | [] => some []
  | .bl i :: r => (bools? r).map (i :: ·)
  | _ => none
def strs? : List D → Option (List Str)
  | [] => some []
  | .str i :: r => (strs? r).map (i :: ·)
  | _ => none
theorem ints_ok : ∀ {ds : List D} {vs : List V} {ns : List Int}, Reps K η H ds vs → ints? ds = some ns → vs = ns.map V.int
  | _, _, _, .nil, h => by cases h; rfl
  | _, _, ns, .cons (ds := r) q t, h => by
    cases q <;> first | (cases h; done) | skip
    rename_i i
    cases e : ints? r with
    | none => simp [ints?, e] at h
    | some ms =>
      simp [ints?, e] at h
      subst h
      rw [ints_ok t e]
      rfl
theorem bools_ok : ∀ {ds : List D} {vs : List V} {ns : List Bool}, Reps K η H ds vs → bools? ds = some ns → vs = ns.map V.bl
  | _, _, _, .nil, h => by cases h; rfl
  | _, _, ns, .cons (ds := r) q t, h => by
    cases q <;> first | (cases h; done) | skip
    rename_i i
    cases e : bools? r with
    | none => simp [bools?, e] at h
    | some ms =>
      simp [bools?, e] at h
      subst h
      rw [bools_ok t e]
      rfl
theorem strs_ok : ∀ {ds : List D} {vs : List V} {ns : List Str}, Reps K η H ds vs → strs? ds = some ns → vs = ns.map V.str
  | _, _, _, .nil, h => by cases h; rfl
  | _, _, ns, .cons (ds := r) q t, h => by
    cases q <;> first | (cases h; done) | skip
    rename_i i
    cases e : strs? r with
    | none => simp [strs?, e] at h
    | some ms =>
      simp [strs?, e] at h
      subst h
      rw [strs_ok t e]
      rfl
@[simp] theorem ints_map : ∀ ns : List Int, ints? (ns.map D.int) = some ns
  | [] => rfl
  | n :: r => by simp [ints?, ints_map r]
@[simp] theorem bools_map : ∀ ns : List Bool, bools? (ns.map D.bl) = some ns
  | [] => rfl
  | n :: r => by simp [bools?, bools_map r]
@[simp] theorem strs_map : ∀ ns : List Str, strs? (ns.map D.str) = some ns
  | [] => rfl
  | n :: r => by simp [strs?, strs_map r]
end

theorem Repk.length {K : PySem.W.Frag} {η : List Addr} {H : Hp} : ∀ {ds : List (Key × D)} {vs : List (Key × V)}, Repk K η H ds vs → ds.length = vs.length
  | _, _, .nil => rfl
  | _, _, .cons _ t => by simp [Repk.length t]
/-! ### functions -/
def lenE (S : Sto) : D → Option Nat
  | .tup xs => some xs.length
  | .str z => if z.length ≤ SL then some z.length else none
  | d => match itemsR S d with
    | some xs => some xs.length
    | none => (dicE S d).map List.length
def lenD : List D → M D
  | [d] => fun S => match lenE S d with
    | some n => .ok (.int n) S
    | none => .bad
  | _ => M.fail
def listD (m : Bool) : List D → M D
  | [.tup xs] => newL m xs
  | [d] => fun S => match itemsR S d with
    | some xs => newL m xs S
    | none => .bad
  | _ => M.fail
def tupleD : List D → M D
  | [.tup xs] => pure (.tup xs)
  | [d] => fun S => match itemsR S d with
    | some xs => .ok (.tup xs) S
    | none => .bad
  | _ => M.fail
def sumD : List D → M D
  | [d] => fun S => match (itemsR S d).bind ints? with
    | some ns => .ok (.int ns.sum) S
    | none => .bad
  | _ => M.fail
def allD : List D → M D
  | [d] => fun S => match (itemsR S d).bind bools? with
    | some bs => .ok (.bl (bs.all id)) S
    | none => .bad
  | _ => M.fail
def anyD : List D → M D
  | [d] => fun S => match (itemsR S d).bind bools? with
    | some bs => .ok (.bl (bs.any id)) S
    | none => .bad
  | _ => M.fail
def minD : List D → M D
  | [.int i, .int j] => pure (.int (if j < i then j else i))
  | _ => M.fail
def intD : List D → M D
  | [.int i] => pure (.int i)
  | [.bl b] => pure (.int (if b then 1 else 0))
  | [.str x] => match intText? x with
    | some n => if x.length ≤ 640 then pure (.int n) else M.fail
    | none => M.fail
  | _ => M.fail
def strD : List D → M D
  | [.int i] => if i.natAbs.log2 < 1920 then pure (.str (toString i)) else M.fail
  | [.str x] => pure (.str x)
  | [.bl b] => pure (.str (if b = true then "True" else "False"))
  | _ => M.fail
section
variable {X : Cx} {n : Nat}
/-- from a list's items -/
theorem fromItems {pins : List (Addr × Obj)} {s : Shared} {σ : L2.St} {H : Hp} {η : List Addr} {S : Sto} {d : D} {ds : List D} {xs : List V} (st : StoOk X.K η H S) (rd : Reps X.K η H [d] xs) (q : itemsR S d = some ds) : ∃ p vs, xs = [.ref p] ∧ SqL X.K H p vs ∧ Reps X.K η H ds vs := by
  obtain ⟨x, e1, r⟩ := one_of (ds := []) rd
  obtain ⟨a, vs, e2, h1, h2⟩ := itemsR_at st r q
  exact ⟨a, vs, by rw [e1, e2], h1, h2⟩
theorem call_lenDD : OpL τ X (fun us => call (.builtin "len") us) lenD := by
  intro pins s σ H η S xs us ds I tk st rv rd
  match ds, rd with
  | [], _ => trivial
  | _ :: _ :: _, _ => trivial
  | [d], rd =>
    show Out τ X pins η H (relV X.K σ) (match lenE S d with | some n => .ok (.int n) S | none => .bad) _ s
    cases q : lenE S d with
    | none => trivial
    | some k =>
      refine out_ok tk fun E => ?_
      obtain ⟨x, e1, r⟩ := one_of (ds := []) rd
      subst e1
      have seq : ∀ {ds : List D}, itemsR S d = some ds → ds.length = k → wpAny (model X.prog X.w) X.A (call (.builtin "len") us) (EP (X.wish E) pins σ (Good X.K η H S (.int k))) E s := by
        intro ds h1 h2
        obtain ⟨a, vs, e2, h3, h4⟩ := itemsR_at st r h1
        refine call_len_seq (X := X.wish E) pins s σ H _ us _ (I.wish E) rv ⟨a, vs, by rw [e2], .inl h3, ?_⟩
        rw [← h4.length, h2]
        exact good_here st (.int _)
      have dcl : (dicE S d).map List.length = some k → wpAny (model X.prog X.w) X.A (call (.builtin "len") us) (EP (X.wish E) pins σ (Good X.K η H S (.int k))) E s := by
        intro hq
        cases q1 : dicE S d with
        | none => rw [q1] at hq; cases hq
        | some kds =>
          rw [q1] at hq
          have hq : kds.length = k := Option.some.inj hq
          obtain ⟨a, kvs, e2, h3, h4⟩ := dicE_ok st r q1
          subst e2
          obtain ⟨u, rfl, r1⟩ := vals1 rv
          cases r1
          refine d_len (X := X.wish E) (I.wish E) h3 fun t s' I' => ⟨.int k, H, I', ?_, good_here st (.int _)⟩
          rw [← h4.length, hq]
          exact ⟨_, rfl⟩
      cases r with
      | @tup a vs es h1 h2 =>
        cases q
        refine call_len_seq (X := X.wish E) pins s σ H _ us _ (I.wish E) rv ⟨a, vs, rfl, .inr h1.sq, ?_⟩
        rw [← h2.length]
        exact good_here st (.int _)
      | str z =>
        have q : (if z.length ≤ SL then some z.length else none) = some k := q
        split at q
        · rename_i hz
          cases q
          exact call_len_str (X := X.wish E) pins s σ H _ us _ (I.wish E) rv ⟨z, rfl, sl_le hz, good_here st (.int _)⟩
        · cases q
      | lst h1 h2 => cases q; exact seq rfl rfl
      | frz h1 h2 => cases q; exact seq rfl rfl
      | @ref m a h1 =>
        have q : (match itemsR S (.ref m) with | some xs => some xs.length | none => (dicE S (.ref m)).map List.length) = some k := q
        cases qa : itemsR S (.ref m) with
        | none => rw [qa] at q; exact dcl q
        | some es =>
          rw [qa] at q
          exact seq qa (Option.some.inj q)
      | _ => exact dcl q
theorem call_listDD (m : Bool) : OpL τ X (fun us => call (.type "list") us) (listD m) := by
  intro pins s σ H η S xs us ds I tk st rv rd
  have gen : ∀ (d : D), Reps X.K η H [d] xs → Out τ X pins η H (relV X.K σ) (match itemsR S d with | some es => newL m es S | none => .bad) (sem X (call (.type "list") us)) s := by
    intro d rd
    cases q : itemsR S d with
    | none => trivial
    | some es =>
      dsimp only
      cases q2 : newL m es S with
      | bad => trivial
      | ok d' S' =>
        obtain ⟨p, vs, e1, h1, h2⟩ := fromItems (pins := pins) (s := s) (σ := σ) st rd q
        exact out_ok tk fun E => call_list_of (X := X.wish E) pins s σ H _ us _ (I.wish E) rv ⟨p, vs, e1, .inl h1, fun l hl => good_newL st h2 hl q2⟩
  match ds, rd with
  | [], _ => trivial
  | a :: _ :: _, _ => cases a <;> trivial
  | [.tup es], rd =>
    show Out τ X pins η H (relV X.K σ) (newL m es S) _ s
    cases q2 : newL m es S with
    | bad => trivial
    | ok d' S' =>
      obtain ⟨x, e1, r⟩ := one_of (ds := []) rd
      cases r with
      | @tup a vs _ h1 h2 => exact out_ok tk fun E => call_list_of (X := X.wish E) pins s σ H _ us _ (I.wish E) rv ⟨a, vs, e1, .inr h1.sq, fun l hl => good_newL st h2 hl q2⟩
  | [.non], rd => exact gen _ rd
  | [.bl _], rd => exact gen _ rd
  | [.int _], rd => exact gen _ rd
  | [.str _], rd => exact gen _ rd
  | [.lst _], rd => exact gen _ rd
  | [.frz _], rd => exact gen _ rd
  | [.dic _], rd => exact gen _ rd
  | [.ref _], rd => exact gen _ rd
theorem call_tupleDD : OpL τ X (fun us => call (.type "tuple") us) tupleD := by
  intro pins s σ H η S xs us ds I tk st rv rd
  have gen : ∀ (d : D), Reps X.K η H [d] xs → Out τ X pins η H (relV X.K σ) (match itemsR S d with | some es => .ok (.tup es) S | none => .bad) (sem X (call (.type "tuple") us)) s := by
    intro d rd
    cases q : itemsR S d with
    | none => trivial
    | some es =>
      obtain ⟨p, vs, e1, h1, h2⟩ := fromItems (pins := pins) (s := s) (σ := σ) st rd q
      exact out_ok tk fun E => call_tuple_of (X := X.wish E) pins s σ H _ us _ (I.wish E) rv ⟨p, vs, e1, .inl ⟨h1, fun l hl => good_newT st h2 hl⟩⟩
  match ds, rd with
  | [], _ => trivial
  | a :: _ :: _, _ => cases a <;> trivial
  | [.tup es], rd =>
    obtain ⟨x, e1, r⟩ := one_of (ds := []) rd
    cases r with
    | @tup a vs _ h1 h2 => exact out_ok tk fun E => call_tuple_of (X := X.wish E) pins s σ H _ us _ (I.wish E) rv ⟨a, vs, e1, .inr ⟨h1.sq, good_here st (.tup h1 h2)⟩⟩
  | [.non], rd => exact gen _ rd
  | [.bl _], rd => exact gen _ rd
  | [.int _], rd => exact gen _ rd
  | [.str _], rd => exact gen _ rd
  | [.lst _], rd => exact gen _ rd
  | [.frz _], rd => exact gen _ rd
  | [.dic _], rd => exact gen _ rd
  | [.ref _], rd => exact gen _ rd
theorem call_sumDD (c : Ck n X) : OpL τ X (fun us => call (.builtin "sum") us) sumD := by
  intro pins s σ H η S xs us ds I tk st rv rd
  match ds, rd with
  | [], _ => trivial
  | _ :: _ :: _, _ => trivial
  | [d], rd =>
    show Out τ X pins η H (relV X.K σ) (match (itemsR S d).bind ints? with | some ns => .ok (.int ns.sum) S | none => .bad) _ s
    cases q : itemsR S d with
    | none => trivial
    | some es =>
      dsimp only [Option.bind]
      cases q2 : ints? es with
      | none => trivial
      | some ns =>
        obtain ⟨p, vs, e1, h1, h2⟩ := fromItems (pins := pins) (s := s) (σ := σ) st rd q
        have := ints_ok h2 q2
        subst this
        exact out_ok tk fun E => cr_sum (X := X.wish E) c.calm pins s σ H _ us _ (I.wish E) rv ⟨p, ns, e1, h1, good_here st (.int _)⟩
theorem call_allDD (c : Ck n X) : OpL τ X (fun us => call (.builtin "all") us) allD := by
  intro pins s σ H η S xs us ds I tk st rv rd
  match ds, rd with
  | [], _ => trivial
  | _ :: _ :: _, _ => trivial
  | [d], rd =>
    show Out τ X pins η H (relV X.K σ) (match (itemsR S d).bind bools? with | some bs => .ok (.bl (bs.all id)) S | none => .bad) _ s
    cases q : itemsR S d with
    | none => trivial
    | some es =>
      dsimp only [Option.bind]
      cases q2 : bools? es with
      | none => trivial
      | some ns =>
        obtain ⟨p, vs, e1, h1, h2⟩ := fromItems (pins := pins) (s := s) (σ := σ) st rd q
        have := bools_ok h2 q2
        subst this
        exact out_ok tk fun E => cr_all (X := X.wish E) c.calm pins s σ H _ us _ (I.wish E) rv ⟨p, ns, e1, h1, good_here st (.bl _)⟩
theorem call_anyDD (c : Ck n X) : OpL τ X (fun us => call (.builtin "any") us) anyD := by
  intro pins s σ H η S xs us ds I tk st rv rd
  match ds, rd with
  | [], _ => trivial
  | _ :: _ :: _, _ => trivial
  | [d], rd =>
    show Out τ X pins η H (relV X.K σ) (match (itemsR S d).bind bools? with | some bs => .ok (.bl (bs.any id)) S | none => .bad) _ s
    cases q : itemsR S d with
    | none => trivial
    | some es =>
      dsimp only [Option.bind]
      cases q2 : bools? es with
      | none => trivial
      | some ns =>
        obtain ⟨p, vs, e1, h1, h2⟩ := fromItems (pins := pins) (s := s) (σ := σ) st rd q
        have := bools_ok h2 q2
        subst this
        exact out_ok tk fun E => cr_any (X := X.wish E) c.calm pins s σ H _ us _ (I.wish E) rv ⟨p, ns, e1, h1, good_here st (.bl _)⟩
theorem call_minDD (c : Ck n X) : OpL τ X (fun us => call (.builtin "min") us) minD := by
  intro pins s σ H η S xs us ds I tk st rv rd
  cases q : minD ds S with
  | bad => trivial
  | ok d' S' =>
    unfold minD at q
    split at q
    · cases q
      obtain ⟨x, y, e1, r1, r2⟩ := two_of rd
      cases r1
      cases r2
      exact out_ok tk fun E => call_min2 (X := X.wish E) c.calm pins s σ H _ us _ (I.wish E) rv ⟨_, _, e1, good_here st (.int _)⟩
    · cases q
theorem call_intDD : OpL τ X (fun us => call (.type "int") us) intD := by
  intro pins s σ H η S xs us ds I tk st rv rd
  cases q : intD ds S with
  | bad => trivial
  | ok d' S' =>
    unfold intD at q
    split at q
    · cases q
      obtain ⟨x, e1, r1⟩ := one_of (ds := []) rd
      cases r1
      exact out_ok tk fun E => call_int1 (X := X.wish E) pins s σ H _ us _ (I.wish E) rv (.inl ⟨_, e1, good_here st (.int _)⟩)
    · cases q
      obtain ⟨x, e1, r1⟩ := one_of (ds := []) rd
      cases r1
      exact out_ok tk fun E => call_int1 (X := X.wish E) pins s σ H _ us _ (I.wish E) rv (.inr ⟨_, e1, good_here st (.int _)⟩)
    · rename_i x
      cases hn : intText? x with
      | none => rw [hn] at q; cases q
      | some n =>
        rw [hn] at q
        have q : (if x.length ≤ 640 then pure (D.int n) else M.fail : M D) S = .ok d' S' := q
        by_cases hz : x.length ≤ 640
        · rw [if_pos hz] at q
          cases q
          obtain ⟨x, e1, r1⟩ := one_of (ds := []) rd
          cases r1
          exact out_ok tk fun E => call_int_str (X := X.wish E) pins s σ H _ us _ (I.wish E) rv ⟨_, n, e1, hn, hz, good_here st (.int _)⟩
        · rw [if_neg hz] at q
          cases q
    · cases q
theorem call_strDD : OpL τ X (fun us => call (.type "str") us) strD := by
  intro pins s σ H η S xs us ds I tk st rv rd
  cases q : strD ds S with
  | bad => trivial
  | ok d' S' =>
    unfold strD at q
    split at q
    · split at q
      · rename_i hz
        cases q
        obtain ⟨x, e1, r1⟩ := one_of (ds := []) rd
        cases r1
        exact out_ok tk fun E => call_str_int (X := X.wish E) pins s σ H _ us _ (I.wish E) rv ⟨_, e1, hz, good_here st (.str _)⟩
      · cases q
    · cases q
      obtain ⟨x, e1, r1⟩ := one_of (ds := []) rd
      cases r1
      subst e1
      cases rv with
      | cons rv1 rv2 =>
        cases rv2
        obtain ⟨t, rfl⟩ := rv1
        exact out_ok tk fun E => PySem.P.str_of_str ⟨.str _, H, I.wish E, ⟨t, rfl⟩, good_here st (.str _)⟩
    · cases q
      obtain ⟨x, e1, r1⟩ := one_of (ds := []) rd
      cases r1
      subst e1
      cases rv with
      | cons rv1 rv2 =>
        cases rv2
        cases rv1
        exact out_ok tk fun E => PySem.P.str_of_bool ⟨.str _, H, (I.wish E).tok _, ⟨_, rfl⟩, good_here st (.str _)⟩
    · cases q
end

/-! ### isinstance of built-in classes -/
inductive Ty where
  | int | str | bool | tup | lst | dict
  deriving DecidableEq, Inhabited
def Ty.name : Ty → String
  | .int => "int" | .str => "str" | .bool => "bool" | .tup => "tuple" | .lst => "list" | .dict => "dict"
def tyD : D → String
  | .non => "NoneType" | .bl _ => "bool" | .int _ => "int" | .str _ => "str" | .tup _ => "tuple" | .lst _ => "list" | .frz _ => "list" | .dic _ => "dict" | .ref _ => "list"
def isiD (t : Ty) : D → Bool
  | .non => false
  | .bl _ => match t with | .int => true | .bool => true | _ => false
  | .int _ => match t with | .int => true | _ => false
  | .str _ => match t with | .str => true | _ => false
  | .tup _ => match t with | .tup => true | _ => false
  | .lst _ => match t with | .lst => true | _ => false
  | .frz _ => match t with | .lst => true | _ => false
  | .dic _ => match t with | .dict => true | _ => false
  | .ref _ => match t with | .lst => true | _ => false
theorem kit_none : ∀ t : Ty, kitB "NoneType" t.name = some false := by intro t; cases t <;> decide +kernel
theorem kit_bool : ∀ t : Ty, kitB "bool" t.name = some (match t with | .int => true | .bool => true | _ => false) := by intro t; cases t <;> decide +kernel
theorem kit_int : ∀ t : Ty, kitB "int" t.name = some (match t with | .int => true | _ => false) := by intro t; cases t <;> decide +kernel
theorem kit_str : ∀ t : Ty, kitB "str" t.name = some (match t with | .str => true | _ => false) := by intro t; cases t <;> decide +kernel
theorem kit_tup : ∀ t : Ty, kitB "tuple" t.name = some (match t with | .tup => true | _ => false) := by intro t; cases t <;> decide +kernel
theorem kit_lst : ∀ t : Ty, kitB "list" t.name = some (match t with | .lst => true | _ => false) := by intro t; cases t <;> decide +kernel
theorem kit_dic : ∀ t : Ty, kitB "dict" t.name = some (match t with | .dict => true | _ => false) := by intro t; cases t <;> decide +kernel
theorem kitD (t : Ty) (d : D) : kitB (tyD d) t.name = some (isiD t d) := by
  cases d with
  | non => exact kit_none t
  | bl _ => exact kit_bool t
  | int _ => exact kit_int t
  | str _ => exact kit_str t
  | tup _ => exact kit_tup t
  | lst _ => exact kit_lst t
  | frz _ => exact kit_lst t
  | dic _ => exact kit_dic t
  | ref _ => exact kit_lst t
theorem ty_of {K : PySem.W.Frag} {η : List Addr} {H : Hp} {S : Sto} {d : D} {x : V} (st : StoOk K η H S) (r : Rep K η H d x) (nr : ∀ n, d ≠ .ref n) : TyX K H x (.type (tyD d)) := by
  cases r with
  | non => exact .base .non
  | bl b => exact .base (.bl b)
  | int i => exact .base (.int i)
  | str i => exact .base (.str i)
  | tup h _ =>
    rcases h with h | ⟨o, its, n, h1, h2, _⟩
    · exact .base (.tup h.1)
    · exact .kTuple h1 h2
  | lst h _ => exact .base (.lst h.1)
  | frz h _ =>
    rcases h with ⟨h | ⟨o, h⟩, _⟩ | ⟨o, its, n, h1, h2, _⟩
    · exact .base (.lst h)
    · exact .base (.frz h)
    · exact .kList h1 h2
  | dic h _ => exact .base (.dK h.1)
  | @ref n a h =>
    exact absurd rfl (nr n)
def isinstD (t : Ty) : D → M D
  | .ref _ => M.fail
  | d => pure (.bl (isiD t d))
section
variable {X : Cx}
theorem call_isinstD (t : Ty) : Op1 τ X (fun v => call (.builtin "isinstance") [v, .type t.name]) (isinstD t) := by
  intro pins s σ H η S x v d I tk st rx rd
  by_cases nr : ∃ n, d = .ref n
  · obtain ⟨n, rfl⟩ := nr
    trivial
  · have nr : ∀ n, d ≠ .ref n := fun n e => nr ⟨n, e⟩
    have e : isinstD t d S = .ok (.bl (isiD t d)) S := by
      cases d <;> first | rfl | exact absurd rfl (nr _)
    rw [e]
    exact out_ok tk fun E => call_isi (X := X.wish E) pins s σ H [x, .ty t.name] [v, .type t.name] _ (I.wish E) (.cons rx (.cons rfl .nil)) ⟨x, .ty t.name, .type (tyD d), .type t.name, isiD t d, rfl, .ty _, ty_of st rd nr, kit_ty (kitD t d), good_here st (.bl _)⟩
end

/-! ### truth -/
def truE (S : Sto) : D → Option Bool
  | .non => some false
  | .bl b => some b
  | .int i => some (i != 0)
  | .str y => if y.length ≤ SL then some ((y.length : Int) != 0) else none
  | .tup xs => some (!xs.isEmpty)
  | .dic kvs => some (!kvs.isEmpty)
  | d => match itemsR S d with
    | some xs => some (!xs.isEmpty)
    | none => none
def truD (d : D) : M Bool := fun S => match truE S d with
  | some b => .ok b S
  | none => .bad
section
variable {X : Cx}
theorem tru_okD {pins : List (Addr × Obj)} {s : Shared} {σ : L2.St} {H : Hp} {η : List Addr} {S : Sto} {x : V} {v : Value} {d : D} (I : Inv X pins σ H s) (tk : τ ≤ s.toks) (st : StoOk X.K η H S) (rx : RelV x v) (rd : Rep X.K η H d x) : Out τ X pins η H (relB σ) (truD d S) (sem X (truthy v)) s := by
  unfold truD
  cases q : truE S d with
  | none => trivial
  | some b =>
    refine out_tt tk fun E => ?_
    refine tru_ok (X := X.wish E) pins s σ H x v _ (I.wish E) rx ⟨b, ?_, rfl, η, .refl _ _, st⟩
    have seq : ∀ {p : Addr} {ds : List D} {vs : List V}, SqL X.K H p vs → Reps X.K η H ds vs → (!ds.isEmpty) = b → TruV X.K (.ref p) H b := by
      intro p ds vs h1 h2 h3
      exact .inl ⟨vs, h1, by rw [← empty_reps h2, h3]⟩
    cases rd with
    | non => cases q; rfl
    | bl b' => cases q; rfl
    | int i => cases q; rfl
    | str y =>
      have q : (if y.length ≤ SL then some ((y.length : Int) != 0) else none) = some b := q
      split at q
      · rename_i hz
        exact ⟨sl_le hz, (Option.some.inj q).symm⟩
      · cases q
    | @tup a vs ds h1 h2 =>
      cases q
      exact .inr (.inl ⟨vs, h1.sq, by rw [empty_reps h2]⟩)
    | lst h1 h2 => exact seq h1.sq h2 (Option.some.inj q)
    | frz h1 h2 => exact seq h1.sq h2 (Option.some.inj q)
    | @dic a kvs kds h1 h2 =>
      cases q
      refine .inr (.inr ⟨kvs, h1.1, ?_⟩)
      cases h2 <;> rfl
    | @ref m a h1 =>
      have q : (match itemsR S (.ref m) with | some xs => some (!xs.isEmpty) | none => none) = some b := q
      cases qa : itemsR S (.ref m) with
      | none => rw [qa] at q; cases q
      | some es =>
        rw [qa] at q
        obtain ⟨a', vs, e1, h3, h4⟩ := itemsR_at st (.ref h1) qa
        rw [e1]
        exact seq h3 h4 (Option.some.inj q)
end

/-! ### methods: the receiver, the arguments -/
def appendD (d : D) (ds : List D) : M D := fun S => match d, ds with
  | .ref n, [e] => match S[n]? with
    | some (.lst xs) => if xs.length < SL then .ok .non (S.set n (.lst (xs ++ [e]))) else .bad
    | _ => .bad
  | _, _ => .bad
def extendD (d : D) (ds : List D) : M D := fun S => match d, ds with
  | .ref n, [e] => match S[n]?, items S e with
    | some (.lst xs), some ys => if xs.length + ys.length ≤ SL then .ok .non (S.set n (.lst (xs ++ ys))) else .bad
    | _, _ => .bad
  | _, _ => .bad
def popD (d : D) (ds : List D) : M D := fun S => match d, ds with
  | .ref n, [] => match S[n]? with
    | some (.lst xs) => match xs[xs.length - 1]? with
      | some e => .ok e (S.set n (.lst xs.dropLast))
      | none => .bad
    | _ => .bad
  | .ref n, [.int i] => match S[n]? with
    | some (.lst xs) => match ixN xs.length i with
      | some j => match xs[j]? with
        | some e => .ok e (S.set n (.lst (xs.eraseIdx j)))
        | none => .bad
      | none => .bad
    | _ => .bad
  | _, _ => .bad
def seqItems (S : Sto) : D → Option (List D)
  | .tup xs => some xs
  | d => itemsR S d
def joinD (d : D) (ds : List D) : M D := fun S => match d, ds with
  | .str a, [e] => match (seqItems S e).bind strs? with
    | some ys => if (ys.map (fun y : Str => y.length)).sum + ys.length * a.length ≤ SL then .ok (.str (Txt.join a ys)) S else .bad
    | none => .bad
  | _, _ => .bad
def splitD (m : Bool) (d : D) (ds : List D) : M D := fun S => match d, ds with
  | .str a, [.str b] => if (b.length == 0) = false ∧ a.length + 2 ≤ SL then newL m ((Txt.split a b).map D.str) S else .bad
  | _, _ => .bad
def countD (d : D) (ds : List D) : M D := fun S => match d, ds with
  | .str a, [.str b] => .ok (.int (Txt.count a b)) S
  | _, _ => .bad
def upperD (d : D) (ds : List D) : M D := fun S => match d, ds with
  | .str a, [] => if a.length ≤ 5592405 then .ok (.str (Txt.upper a)) S else .bad
  | _, _ => .bad
/-- a method of a built-in type T: what it asks of the receiver's type, its run -/
def Mt (τ : Nat) (X : Cx) (T : String) (id : String) (g : D → List D → M D) : Prop := ∀ (pins : List (Addr × Obj)) (s : Shared) (σ : L2.St) (H : Hp) (η : List Addr) (S : Sto) (x : V) (xs : List V) (v : Value) (us : List Value) (d : D) (ds : List D),
  Inv X pins σ H s → τ ≤ s.toks → StoOk X.K η H S → RelV x v → Vals xs us → Rep X.K η H d x → Reps X.K η H ds xs → Out τ X pins η H (relV X.K σ) (g d ds S) (sem X (call (.builtin id) (v :: us))) s
section
variable {X : Cx}
theorem sto_look {K : PySem.W.Frag} {η : List Addr} {H : Hp} {S : Sto} {n : Nat} {a : Addr} {xs : List D} (st : StoOk K η H S) (h : η[n]? = some a) (q : S[n]? = some (.lst xs)) : ∃ vs, H a = some (.lst vs) ∧ Reps K η H xs vs := st.look n _ a q h
theorem mt_appendD : Mt τ X "list" "list.append" appendD := by
  intro pins s σ H η S x xs v us d ds I tk st rx rv rd rds
  cases q : appendD d ds S with
  | bad => trivial
  | ok d' S' =>
    unfold appendD at q
    split at q
    · cases rd with
      | @ref n a h1 =>
        split at q
        · rename_i ys hq
          split at q
          · rename_i hz
            cases q
            obtain ⟨y, e1, r1⟩ := one_of (ds := []) rds
            obtain ⟨vs, h2, h3⟩ := sto_look st h1 hq
            exact out_ok tk fun E => mt_append (X := X.wish E) pins s σ H _ xs v us _ (I.wish E) rx rv ⟨a, vs, y, rfl, e1, h2, sl_lt (by rw [← h3.length]; exact hz), good_set st h1 (nofrzL h2) (h3.append (.cons r1 .nil)) .non⟩
          · cases q
        · cases q
    · cases q
theorem mt_extendD : Mt τ X "list" "list.extend" extendD := by
  intro pins s σ H η S x xs v us d ds I tk st rx rv rd rds
  cases q : extendD d ds S with
  | bad => trivial
  | ok d' S' =>
    unfold extendD at q
    split at q
    · cases rd with
      | @ref n a h1 =>
        split at q
        · rename_i ys zs hq hq2
          split at q
          · rename_i hz
            cases q
            obtain ⟨y, e1, r1⟩ := one_of (ds := []) rds
            obtain ⟨vs, h2, h3⟩ := sto_look st h1 hq
            obtain ⟨b, ws, e2, h4, h5⟩ := items_at st r1 hq2
            exact out_ok tk fun E => mt_extend (X := X.wish E) pins s σ H _ xs v us _ (I.wish E) rx rv ⟨a, b, vs, ws, rfl, by rw [e1, e2], h2, h4, sl_le (by rw [← h3.length, ← h5.length]; exact hz), good_set st h1 (nofrzL h2) (h3.append h5) .non⟩
          · cases q
        · cases q
    · cases q
theorem mt_popD : Mt τ X "list" "list.pop" popD := by
  intro pins s σ H η S x xs v us d ds I tk st rx rv rd rds
  cases q : popD d ds S with
  | bad => trivial
  | ok d' S' =>
    unfold popD at q
    split at q
    · cases rd with
      | @ref n a h1 =>
        split at q
        · rename_i ys hq
          split at q
          · rename_i e he
            cases q
            obtain ⟨vs, h2, h3⟩ := sto_look st h1 hq
            obtain ⟨y, h4, h5⟩ := h3.get he
            exact out_ok tk fun E => mt_pop (X := X.wish E) pins s σ H _ xs v us _ (I.wish E) rx rv ⟨a, vs, y, rfl, nil_of rds, h2, by rw [← h3.length]; exact h4, good_set st h1 (nofrzL h2) h3.dropLast h5⟩
          · cases q
        · cases q
    · cases rd with
      | @ref n a h1 =>
        split at q
        · rename_i ys hq
          split at q
          · rename_i j hj
            split at q
            · rename_i e he
              cases q
              obtain ⟨z, e1, r1⟩ := one_of (ds := []) rds
              cases r1
              obtain ⟨vs, h2, h3⟩ := sto_look st h1 hq
              obtain ⟨y, h4, h5⟩ := h3.get he
              obtain ⟨g1, g2, g3, g4⟩ := ixN_seq hj
              have hl : ys.length ≤ sizeLine := by
                obtain ⟨hz, _⟩ := I.hok a _ h2
                rw [h3.length]
                exact hz
              rw [sizeLine_eq] at hl
              refine out_ok tk fun E => mt_popAt (X := X.wish E) pins s σ H _ xs v us _ (I.wish E) rx rv ⟨a, vs, _, j, y, rfl, e1, h2, by omega, by omega, by rw [← h3.length]; exact g1, h4, good_set st h1 (nofrzL h2) (h3.eraseIdx j) h5⟩
            · cases q
          · cases q
        · cases q
    · cases q
theorem mt_joinD : Mt τ X "str" "str.join" joinD := by
  intro pins s σ H η S x xs v us d ds I tk st rx rv rd rds
  cases q : joinD d ds S with
  | bad => trivial
  | ok d' S' =>
    unfold joinD at q
    split at q
    · rename_i a e
      cases rd
      obtain ⟨y, e1, r1⟩ := one_of (ds := []) rds
      have fin : ∀ {zs : List D} {p : Addr} {vs : List V}, y = .ref p → (SqL X.K H p vs ∨ SqT X.K H p vs) → Reps X.K η H zs vs → (match strs? zs with | some ys => if (ys.map (fun y : Str => y.length)).sum + ys.length * a.length ≤ SL then R.ok (D.str (Txt.join a ys)) S else .bad | none => .bad) = .ok d' S' →
          Out τ X pins η H (relV X.K σ) (.ok d' S') (sem X (call (.builtin "str.join") (v :: us))) s := by
        intro zs p vs ey hs hr hq
        cases q2 : strs? zs with
        | none => rw [q2] at hq; cases hq
        | some ys =>
          rw [q2] at hq
          dsimp only at hq
          split at hq
          · rename_i hz
            cases hq
            have := strs_ok hr q2
            subst this
            exact out_ok tk fun E => mt_join (X := X.wish E) pins s σ H _ xs v us _ (I.wish E) rx rv ⟨a, p, ys, rfl, by rw [e1, ey], hs, hz, good_here st (.str _)⟩
          · cases hq
      cases r1 with
      | tup h1 h2 => exact fin rfl (.inr h1.sq) h2 q
      | lst h1 h2 => exact fin rfl (.inl h1.sq) h2 q
      | frz h1 h2 => exact fin rfl (.inl h1.sq) h2 q
      | @ref m b h1 =>
        have q : (match (itemsR S (.ref m)).bind strs? with | some ys => if (ys.map (fun y : Str => y.length)).sum + ys.length * a.length ≤ SL then R.ok (D.str (Txt.join a ys)) S else .bad | none => .bad) = .ok d' S' := q
        cases qa : itemsR S (.ref m) with
        | none => rw [qa] at q; cases q
        | some zs =>
          rw [qa] at q
          obtain ⟨a', vs, e2, h3, h4⟩ := itemsR_at st (.ref h1) qa
          exact fin e2 (.inl h3) h4 q
      | _ => cases q
    · cases q
theorem mt_splitD (m : Bool) : Mt τ X "str" "str.split" (splitD m) := by
  intro pins s σ H η S x xs v us d ds I tk st rx rv rd rds
  cases q : splitD m d ds S with
  | bad => trivial
  | ok d' S' =>
    unfold splitD at q
    split at q
    · rename_i a b
      split at q
      · rename_i hz
        cases rd
        obtain ⟨y, e1, r1⟩ := one_of (ds := []) rds
        cases r1
        exact out_ok tk fun E => mt_split (X := X.wish E) pins s σ H _ xs v us _ (I.wish E) rx rv ⟨a, b, rfl, e1, hz.1, sl_le hz.2, fun p hp => good_newL st (Reps.strs _) hp q⟩
      · cases q
    · cases q
theorem mt_countD : Mt τ X "str" "str.count" countD := by
  intro pins s σ H η S x xs v us d ds I tk st rx rv rd rds
  cases q : countD d ds S with
  | bad => trivial
  | ok d' S' =>
    unfold countD at q
    split at q
    · rename_i a b
      cases q
      cases rd
      obtain ⟨y, e1, r1⟩ := one_of (ds := []) rds
      cases r1
      exact out_ok tk fun E => mt_count (X := X.wish E) pins s σ H _ xs v us _ (I.wish E) rx rv ⟨a, b, rfl, e1, good_here st (.int _)⟩
    · cases q
theorem mt_upperD : Mt τ X "str" "str.upper" upperD := by
  intro pins s σ H η S x xs v us d ds I tk st rx rv rd rds
  cases q : upperD d ds S with
  | bad => trivial
  | ok d' S' =>
    unfold upperD at q
    split at q
    · rename_i a
      split at q
      · rename_i hz
        cases q
        cases rd
        exact out_ok tk fun E => mt_upper (X := X.wish E) pins s σ H _ xs v us _ (I.wish E) rx rv ⟨a, rfl, nil_of rds, hz, good_here st (.str _)⟩
      · cases q
    · cases q
end

/-! ### o[i] = v -/
def putD (kvs : List (Key × D)) (k : Key) (v : D) : List (Key × D) :=
  if (kvs.any fun kv => decide (kv.1 = k)) = true then kvs.map (fun kv => if kv.1 = k then (kv.1, v) else kv) else kvs ++ [(k, v)]
def setD (o i d : D) : M Unit := fun S => match o with
  | .ref n => match S[n]? with
    | some (.lst xs) => match i with
      | .int k => match ixN xs.length k with
        | some j => .ok () (S.set n (.lst (xs.set j d)))
        | none => .bad
      | _ => .bad
    | some (.dic kvs) => match keyD i with
      | some k => if kvs.length < SL then .ok () (S.set n (.dic (putD kvs k d))) else .bad
      | none => .bad
    | _ => .bad
  | _ => .bad
theorem repk_any {K : PySem.W.Frag} {η : List Addr} {H : Hp} {k : Key} : ∀ {kds : List (Key × D)} {kvs : List (Key × V)}, Repk K η H kds kvs → (kds.any fun kv => decide (kv.1 = k)) = kvs.any fun kv => decide (kv.1 = k)
  | _, _, .nil => rfl
  | _, _, .cons r t => by rw [List.any_cons, List.any_cons, repk_any t]
theorem repk_repl {K : PySem.W.Frag} {η : List Addr} {H : Hp} {k : Key} {d : D} {v : V} (r : Rep K η H d v) : ∀ {kds : List (Key × D)} {kvs : List (Key × V)}, Repk K η H kds kvs → Repk K η H (kds.map fun kv => if kv.1 = k then (kv.1, d) else kv) (kvs.map fun kv => if kv.1 = k then (kv.1, v) else kv)
  | _, _, .nil => .nil
  | _, _, .cons (k := k') q t => by
    rw [List.map_cons, List.map_cons]
    by_cases e : k' = k
    · rw [if_pos e, if_pos e]; exact .cons r (repk_repl r t)
    · rw [if_neg e, if_neg e]; exact .cons q (repk_repl r t)
theorem repk_snoc {K : PySem.W.Frag} {η : List Addr} {H : Hp} {k : Key} {d : D} {v : V} (r : Rep K η H d v) : ∀ {kds : List (Key × D)} {kvs : List (Key × V)}, Repk K η H kds kvs → Repk K η H (kds ++ [(k, d)]) (kvs ++ [(k, v)])
  | _, _, .nil => .cons r .nil
  | _, _, .cons q t => .cons q (repk_snoc r t)
theorem repk_put {K : PySem.W.Frag} {η : List Addr} {H : Hp} {k : Key} {d : D} {v : V} (r : Rep K η H d v) {kds : List (Key × D)} {kvs : List (Key × V)} (h : Repk K η H kds kvs) : Repk K η H (putD kds k d) (putK kvs k v) := by
  unfold putD putK
  rw [repk_any h]
  split
  · exact repk_repl r h
  · exact repk_snoc r h
def relU (σ : L2.St) : L2.St → List Addr → Hp → Unit → Unit → Prop := fun σ' _ _ _ _ => σ' = σ
section
variable {X : Cx}
theorem set_okD {pins : List (Addr × Obj)} {s : Shared} {σ : L2.St} {H : Hp} {η : List Addr} {S : Sto} {o i x : V} {ov iv u : Value} {od id d : D} (I : Inv X pins σ H s) (tk : τ ≤ s.toks) (st : StoOk X.K η H S) (ro : RelV o ov) (ri : RelV i iv) (rx : RelV x u) (r1 : Rep X.K η H od o) (r2 : Rep X.K η H id i) (r3 : Rep X.K η H d x) (hu : X.A.units + 1 < cLine) :
    Out τ X pins η H (relU σ) (setD od id d S) (sem X (setItem ov iv u)) s := by
  cases q : setD od id d S with
  | bad => trivial
  | ok z S' =>
    unfold setD at q
    cases r1 <;> try (cases q; done)
    rename_i n a h1
    dsimp only at q
    cases qn : S[n]? with
    | none => rw [qn] at q; cases q
    | some oo =>
      rw [qn] at q
      cases oo with
      | fdic _ => cases q
      | lst xs =>
        cases r2 <;> try (cases q; done)
        rename_i k
        dsimp only at q
        split at q
        · rename_i j hj
          cases q
          obtain ⟨vs, h2, h3⟩ := sto_look st h1 qn
          intro E
          refine wpAny_mono (PySem.wpAny_toks (set_list (X := X.wish E) pins s σ H _ _ x ov iv u (fun H' => H' = upd H a (.lst (vs.set j x))) (I.wish E) ro ri rx ⟨a, vs, k, j, rfl, rfl, h2, by rw [← h3.length]; exact hj, rfl⟩)) (fun _ s' z => ?_) fun _ _ z => z.2
          obtain ⟨hk, H', I', e⟩ := z
          subst e
          exact ⟨Nat.le_trans tk hk, σ, η, _, I'.unwish, grow_set st (List.mem_of_getElem? h1) (nofrzL h2), st.set h1 (nofrzL h2) (h3.set r3 j), rfl⟩
        · cases q
      | dic kds =>
        dsimp only at q
        split at q
        · rename_i k hk
          split at q
          · rename_i hz
            cases q
            obtain ⟨kvs, h2, h3⟩ := st.look n _ a qn h1
            have ek := keyD_ok r2 hk
            subst ek
            cases ro
            intro E
            have gp : DPut H a (kV k) x (upd H a (.dK (putK kvs k x))) := DPut.k h2 (sl_lt (by rw [← h3.length]; exact hz))
            refine wpAny_mono (PySem.wpAny_toks (d_setItem (X := X.wish E) (Q := fun _ s' => Inv (X.wish E) pins σ (upd H a (.dK (putK kvs k x))) s') hu (I.wish E) gp ri rx fun s' I' => I')) (fun _ s' z => ?_) fun _ _ z => z.2
            have g := grow_set (u := .dK (putK kvs k x)) st (List.mem_of_getElem? h1) (nofrzD h2)
            exact ⟨Nat.le_trans tk z.1, σ, η, _, z.2.unwish, g, st.setO h1 (nofrzD h2) ⟨_, upd_same, (repk_put r3 h3).grow g⟩, rfl⟩
          · cases q
        · cases q
end
end MP

/-! MP7: expressions put together. -/
namespace MP
open PySem L2
section
variable {X : Cx} {n : Nat} {a b c e : Expr} {ga gb gc : Env → M D} {pos : Pos}

/-! ### names, constants -/
theorem pd_const {g : Env → M D} {d : D} {v : V} (hg : ∀ ρ S, g ρ S = .ok d S) (h : ∀ E, PE (X.wish E) e (tC v)) (hr : ∀ η H, Rep X.K η H d v) : PD τ X e g := by
  refine pd_of fun E σ H ρ η S d' S' sr st q => ⟨_, h E, ?_⟩
  rw [hg] at q
  cases q
  exact good_here st (hr η H)
theorem pd_var {i : Nat} {x : Str} (hN : X.N[i]? = some x) (hv : Vis X.env.scope x) (hd : (x == ("__debug__" : Str)) = false) (hcd : (x == ("__classdict__" : Str)) = false) : PD τ X (.Name x pos) (fun ρ => M.of ((ρ[i]?).bind id)) := by
  refine pd_of fun E σ H ρ η S d S' sr st q => ⟨_, pe_var (X := X.wish E) hN hv hd hcd, ?_⟩
  cases q1 : ρ[i]? with
  | none => rw [q1] at q; cases q
  | some o =>
    cases o with
    | none => rw [q1] at q; cases q
    | some d' =>
      rw [q1] at q
      cases q
      obtain ⟨v, h1, h2⟩ := sr.look i _ q1
      exact ⟨v, h1, good_here st h2⟩

/-! ### two parts -/
theorem two_parts {f : D → D → M D} {T : Sem Value} {K2 : Value → Value → Sem Value} (ha : PD τ X a ga) (hb : PD τ X b gb) (ho : Op2 τ X K2 f) {pins : List (Addr × Obj)} {s : Shared} {σ : L2.St} {H : Hp} {ρ : Env} {η : List Addr} {S : Sto}
    (hT : ∀ Q E, wpAny (model X.prog X.w) X.A (eval a X.env) (fun v s1 => wpAny (model X.prog X.w) X.A (eval b X.env) (fun u s2 => wpAny (model X.prog X.w) X.A (K2 v u) Q E s2) E s1) E s → wpAny (model X.prog X.w) X.A T Q E s)
    (I : Inv X pins σ H s) (tk : τ ≤ s.toks) (sr : SRel X.K η H σ ρ) (st : StoOk X.K η H S) : Out τ X pins η H (relV X.K σ) ((ga ρ >>= fun d => gb ρ >>= fun e => f d e) S) (sem X T) s := by
  refine Out.seq (t1 := eval a X.env) (W2 := fun v Q E s1 => wpAny (model X.prog X.w) X.A (eval b X.env) (fun u s2 => wpAny (model X.prog X.w) X.A (K2 v u) Q E s2) E s1) hT (ha pins s σ H ρ η S I tk sr st) ?_
  rintro v s1 σ1 η1 H1 d S1 _ tk1 I1 g1 st1 ⟨rfl, x, rx, rd⟩
  refine Out.back (mono_then _ fun u => mono_sem _) g1 ?_
  refine Out.seq (t1 := eval b X.env) (W2 := fun u => sem X (K2 v u)) (fun Q E h => h) (hb pins s1 σ1 H1 ρ η1 S1 I1 tk1 (sr.grow g1) st1) ?_
  rintro u s2 σ2 η2 H2 e S2 _ tk2 I2 g2 st2 ⟨rfl, y, ry, re⟩
  exact Out.back (mono_sem _) g2 (ho pins s2 σ2 H2 η2 S2 x y v u d e I2 tk2 st2 rx ry (rd.grow g2) re)
theorem pd_bin {op : Operator} {f : D → D → M D} (ho : Op2 τ X (binaryOp op) f) (ha : PD τ X a ga) (hb : PD τ X b gb) : PD τ X (.BinOp a op b pos) (fun ρ => ga ρ >>= fun d => gb ρ >>= fun e => f d e) :=
  fun pins s σ H ρ η S I tk sr st => two_parts ha hb ho (fun Q E h => wpAny_BinOp h) I tk sr st
theorem pd_cmp {op : CmpOp} {f : D → D → M D} (ho : Op2 τ X (compareOp op) f) (ha : PD τ X a ga) (hb : PD τ X b gb) (hm : behindInMarks op b = false) : PD τ X (.Compare a [op] [b] pos) (fun ρ => ga ρ >>= fun d => gb ρ >>= fun e => f d e) :=
  fun pins s σ H ρ η S I tk sr st => two_parts ha hb ho (fun Q E h => wpAny_Compare1 h hm) I tk sr st
theorem pd_ix (hu : X.A.units + 1 < cLine) (ha : PD τ X a ga) (hb : PD τ X b gb) (hs : ∀ o i, subscripted b false o i = operate [o, i] (getItem o i)) : PD τ X (.Subscript a b pos) (fun ρ => ga ρ >>= fun d => gb ρ >>= fun e => ixD d e) :=
  fun pins s σ H ρ η S I tk sr st => two_parts ha hb (op_ixD (value := a) hu hs) (fun Q E h => PyProof.Rows.Subscript_ h) I tk sr st

/-! ### tests -/
def asB : D → M Bool
  | .bl b => pure b
  | _ => M.fail
theorem asB_ok {pins : List (Addr × Obj)} {s : Shared} {σ : L2.St} {H : Hp} {η : List Addr} {S : Sto} {x : V} {v : Value} {d : D} (I : Inv X pins σ H s) (tk : τ ≤ s.toks) (st : StoOk X.K η H S) (rx : RelV x v) (rd : Rep X.K η H d x) : Out τ X pins η H (relB σ) (asB d S) (sem X (truthy v)) s := by
  cases rd with
  | bl b => exact tru_okD I tk st rx (.bl b)
  | _ => trivial
theorem pdb_val (ha : PD τ X a ga) (he : ∀ whole, isTrue a X.env whole = (do let v ← whole; standAt a.pos; holding [v] (truthy v))) : PDB τ X a (fun ρ => ga ρ >>= truD) := by
  intro pins s σ H ρ η S I tk sr st
  refine Out.seq (t1 := eval a X.env) (W2 := fun v => sem X (truthy v)) (fun Q E h => PyProof.Rows.isTrue_plain h (he _)) (ha pins s σ H ρ η S I tk sr st) ?_
  rintro v s1 σ1 η1 H1 d S1 _ tk1 I1 g1 st1 ⟨rfl, x, rx, rd⟩
  exact Out.back (mono_sem _) g1 (tru_okD I1 tk1 st1 rx rd)
theorem pdb_cmp {op : CmpOp} {f : D → D → M D} (ho : Op2 τ X (compareOp op) f) (ha : PD τ X a ga) (hb : PD τ X b gb) (hm : behindInMarks op b = false) : PDB τ X (.Compare a [op] [b] pos) (fun ρ => ga ρ >>= fun d => gb ρ >>= fun e => f d e >>= asB) := by
  intro pins s σ H ρ η S I tk sr st
  refine Out.seq (t1 := eval a X.env) (W2 := fun v Q E s1 => wpAny (model X.prog X.w) X.A (eval b X.env) (fun u s2 => wpAny (model X.prog X.w) X.A (compareOp op v u) (fun z s3 => wpAny (model X.prog X.w) X.A (truthy z) Q E s3) E s2) E s1)
    (fun Q E h => wpAny_isTrue_Compare1 h hm) (ha pins s σ H ρ η S I tk sr st) ?_
  rintro v s1 σ1 η1 H1 d S1 _ tk1 I1 g1 st1 ⟨rfl, x, rx, rd⟩
  refine Out.back (mono_then _ fun u => mono_then _ fun z => mono_sem _) g1 ?_
  refine Out.seq (t1 := eval b X.env) (W2 := fun u Q E s2 => wpAny (model X.prog X.w) X.A (compareOp op v u) (fun z s3 => wpAny (model X.prog X.w) X.A (truthy z) Q E s3) E s2) (fun Q E h => h) (hb pins s1 σ1 H1 ρ η1 S1 I1 tk1 (sr.grow g1) st1) ?_
  rintro u s2 σ2 η2 H2 e S2 _ tk2 I2 g2 st2 ⟨rfl, y, ry, re⟩
  refine Out.back (mono_then _ fun z => mono_sem _) g2 ?_
  refine Out.seq (t1 := compareOp op v u) (W2 := fun z => sem X (truthy z)) (fun Q E h => h) (ho pins s2 σ2 H2 η2 S2 x y v u d e I2 tk2 st2 rx ry (rd.grow g2) re) ?_
  rintro z s3 σ3 η3 H3 d3 S3 _ tk3 I3 g3 st3 ⟨rfl, y3, r3, re3⟩
  exact Out.back (mono_sem _) g3 (asB_ok I3 tk3 st3 r3 re3)
theorem pdb_not {gt : Env → M Bool} (ha : PDB τ X a gt) : PDB τ X (.UnaryOp .Not a pos) (fun ρ => gt ρ >>= fun b => pure (!b)) := by
  intro pins s σ H ρ η S I tk sr st
  refine Out.seq (t1 := isTrue a X.env (eval a X.env)) (W2 := fun b Q E s' => Q (!b) s') (fun Q E h => PyProof.Rows.isTrue_not h) (ha pins s σ H ρ η S I tk sr st) ?_
  rintro v s1 σ1 η1 H1 d S1 _ tk1 I1 g1 st1 ⟨rfl, rfl⟩
  exact fun E => ⟨tk1, _, η1, H1, I1, g1, st1, rfl, rfl⟩
theorem pd_not (ha : PD τ X a ga) : PD τ X (.UnaryOp .Not a pos) (fun ρ => ga ρ >>= fun d => asB d >>= fun b => pure (.bl (!b))) := by
  intro pins s σ H ρ η S I tk sr st
  refine Out.seq (t1 := eval a X.env) (W2 := fun v => sem X (unaryOp .Not v)) (fun Q E h => PyProof.Rows.UnaryOp_ h) (ha pins s σ H ρ η S I tk sr st) ?_
  rintro v s1 σ1 η1 H1 d S1 _ tk1 I1 g1 st1 ⟨rfl, x, rx, rd⟩
  refine Out.back (mono_sem _) g1 ?_
  refine Out.seq (t1 := truthy v) (W2 := fun b Q E s' => Q (.bool (!b)) s') (fun Q E h => PyProof.Rows.not_of h) (asB_ok I1 tk1 st1 rx rd) ?_
  rintro b s2 σ2 η2 H2 d2 S2 _ tk2 I2 g2 st2 ⟨rfl, rfl⟩
  exact fun E => ⟨tk2, _, η2, H2, I2, g2, st2, rfl, .bl _, rfl, .bl _⟩
/-- a and rest as values, as tests -/
theorem pd_and {rest : List Expr} (ha : PD τ X a ga) (hb : PD τ X (.BoolOp .And (b :: rest) pos) gb) : PD τ X (.BoolOp .And (a :: b :: rest) pos) (fun ρ => ga ρ >>= fun d => asB d >>= fun t => if t = true then gb ρ else pure (.bl false)) := by
  intro pins s σ H ρ η S I tk sr st
  refine Out.seq (t1 := eval a X.env) (W2 := fun v Q E s1 => wpAny (model X.prog X.w) X.A (truthy v) (fun t s2 => if t then wpAny (model X.prog X.w) X.A (eval (.BoolOp .And (b :: rest) pos) X.env) Q E s2 else Q v s2) E s1)
    (fun Q E h => PyProof.Rows.BoolOp_and h) (ha pins s σ H ρ η S I tk sr st) ?_
  rintro v s1 σ1 η1 H1 d S1 _ tk1 I1 g1 st1 ⟨rfl, x, rx, rd⟩
  cases rd with
  | bl t =>
    cases rx
    cases t with
    | true => exact Out.via (fun Q E h => wpAny_truthy_bool h) (Out.back (mono_sem _) g1 (hb pins s1 σ1 H1 ρ η1 S1 I1 tk1 (sr.grow g1) st1))
    | false => exact fun E => wpAny_truthy_bool ⟨tk1, _, η1, H1, I1, g1, st1, rfl, .bl _, rfl, .bl _⟩
  | _ => trivial
theorem pd_or {rest : List Expr} (ha : PD τ X a ga) (hb : PD τ X (.BoolOp .Or (b :: rest) pos) gb) : PD τ X (.BoolOp .Or (a :: b :: rest) pos) (fun ρ => ga ρ >>= fun d => asB d >>= fun t => if t = true then pure (.bl true) else gb ρ) := by
  intro pins s σ H ρ η S I tk sr st
  refine Out.seq (t1 := eval a X.env) (W2 := fun v Q E s1 => wpAny (model X.prog X.w) X.A (truthy v) (fun t s2 => if t then Q v s2 else wpAny (model X.prog X.w) X.A (eval (.BoolOp .Or (b :: rest) pos) X.env) Q E s2) E s1)
    (fun Q E h => PyProof.Rows.BoolOp_or h) (ha pins s σ H ρ η S I tk sr st) ?_
  rintro v s1 σ1 η1 H1 d S1 _ tk1 I1 g1 st1 ⟨rfl, x, rx, rd⟩
  cases rd with
  | bl t =>
    cases rx
    cases t with
    | false => exact Out.via (fun Q E h => wpAny_truthy_bool h) (Out.back (mono_sem _) g1 (hb pins s1 σ1 H1 ρ η1 S1 I1 tk1 (sr.grow g1) st1))
    | true => exact fun E => wpAny_truthy_bool ⟨tk1, _, η1, H1, I1, g1, st1, rfl, .bl _, rfl, .bl _⟩
  | _ => trivial
theorem pd_one {op : BoolOp} (ha : PD τ X a ga) : PD τ X (.BoolOp op [a] pos) ga := fun pins s σ H ρ η S I tk sr st => Out.via (fun Q E h => PyProof.Rows.BoolOp_one h) (ha pins s σ H ρ η S I tk sr st)
/-- tests, whatever their whole is -/
def PDW (τ : Nat) (X : Cx) (e : Expr) (g : Env → M Bool) : Prop := ∀ (whole : Sem Value) (pins : List (Addr × Obj)) (s : Shared) (σ : L2.St) (H : Hp) (ρ : Env) (η : List Addr) (S : Sto),
  Inv X pins σ H s → τ ≤ s.toks → SRel X.K η H σ ρ → StoOk X.K η H S → Out τ X pins η H (relB σ) (g ρ S) (sem X (isTrue e X.env whole)) s
theorem pdw_and_nil : PDW τ X (.BoolOp .And [] pos) (fun _ => pure true) := fun whole pins s σ H ρ η S I tk sr st E => PyProof.Rows.isTrue_and_nil ⟨tk, σ, η, H, I, .refl _ _, st, rfl, rfl⟩
theorem pdw_or_nil : PDW τ X (.BoolOp .Or [] pos) (fun _ => pure false) := fun whole pins s σ H ρ η S I tk sr st E => PyProof.Rows.isTrue_or_nil ⟨tk, σ, η, H, I, .refl _ _, st, rfl, rfl⟩
theorem pdw_and {rest : List Expr} {gt gr : Env → M Bool} (ha : PDB τ X a gt) (hb : PDW τ X (.BoolOp .And rest pos) gr) : PDW τ X (.BoolOp .And (a :: rest) pos) (fun ρ => gt ρ >>= fun t => if t = true then gr ρ else pure false) := by
  intro whole pins s σ H ρ η S I tk sr st
  refine Out.seq (t1 := isTrue a X.env (eval a X.env)) (W2 := fun t Q E s1 => if t then wpAny (model X.prog X.w) X.A (isTrue (.BoolOp .And rest pos) X.env whole) Q E s1 else Q false s1) (fun Q E h => PyProof.Rows.isTrue_and h) (ha pins s σ H ρ η S I tk sr st) ?_
  rintro t s1 σ1 η1 H1 d S1 _ tk1 I1 g1 st1 ⟨rfl, rfl⟩
  cases d with
  | true => exact Out.back (mono_sem _) g1 (hb whole pins s1 σ1 H1 ρ η1 S1 I1 tk1 (sr.grow g1) st1)
  | false => exact fun E => ⟨tk1, _, η1, H1, I1, g1, st1, rfl, rfl⟩
theorem pdw_or {rest : List Expr} {gt gr : Env → M Bool} (ha : PDB τ X a gt) (hb : PDW τ X (.BoolOp .Or rest pos) gr) : PDW τ X (.BoolOp .Or (a :: rest) pos) (fun ρ => gt ρ >>= fun t => if t = true then pure true else gr ρ) := by
  intro whole pins s σ H ρ η S I tk sr st
  refine Out.seq (t1 := isTrue a X.env (eval a X.env)) (W2 := fun t Q E s1 => if t then Q true s1 else wpAny (model X.prog X.w) X.A (isTrue (.BoolOp .Or rest pos) X.env whole) Q E s1) (fun Q E h => PyProof.Rows.isTrue_or h) (ha pins s σ H ρ η S I tk sr st) ?_
  rintro t s1 σ1 η1 H1 d S1 _ tk1 I1 g1 st1 ⟨rfl, rfl⟩
  cases d with
  | false => exact Out.back (mono_sem _) g1 (hb whole pins s1 σ1 H1 ρ η1 S1 I1 tk1 (sr.grow g1) st1)
  | true => exact fun E => ⟨tk1, _, η1, H1, I1, g1, st1, rfl, rfl⟩
theorem PDW.pdb {g : Env → M Bool} (h : PDW τ X e g) : PDB τ X e g := fun pins s σ H ρ η S I tk sr st => h _ pins s σ H ρ η S I tk sr st
theorem pd_ife {gt : Env → M Bool} (hc : PDB τ X c gt) (ha : PD τ X a ga) (hb : PD τ X b gb) : PD τ X (.IfExp c a b pos) (fun ρ => gt ρ >>= fun t => if t = true then ga ρ else gb ρ) := by
  intro pins s σ H ρ η S I tk sr st
  refine Out.seq (t1 := isTrue c X.env (eval c X.env)) (W2 := fun t Q E s1 => if t then wpAny (model X.prog X.w) X.A (eval a X.env) Q E s1 else wpAny (model X.prog X.w) X.A (eval b X.env) Q E s1) (fun Q E h => wpAny_IfExp h) (hc pins s σ H ρ η S I tk sr st) ?_
  rintro t s1 σ1 η1 H1 d S1 _ tk1 I1 g1 st1 ⟨rfl, rfl⟩
  cases d with
  | true => exact Out.back (mono_sem _) g1 (ha pins s1 σ1 H1 ρ η1 S1 I1 tk1 (sr.grow g1) st1)
  | false => exact Out.back (mono_sem _) g1 (hb pins s1 σ1 H1 ρ η1 S1 I1 tk1 (sr.grow g1) st1)
/-- a op b op' c -/
theorem pd_chain {op op' : CmpOp} {f f' : D → D → M D} (ho : Op2 τ X (compareOp op) f) (ho' : Op2 τ X (compareOp op') f') (ha : PD τ X a ga) (hb : PD τ X b gb) (hc : PD τ X c gc) (hm : lastMarks [op, op'] [b, c] = false) :
    PD τ X (.Compare a [op, op'] [b, c] pos) (fun ρ => ga ρ >>= fun d => gb ρ >>= fun e => f d e >>= fun z => asB z >>= fun t => if t = true then gc ρ >>= fun e' => f' e e' else pure (.bl false)) := by
  intro pins s σ H ρ η S I tk sr st
  refine Out.seq (t1 := eval a X.env) (W2 := fun v => sem X (compareChain pos v [op, op'] [eval b X.env, eval c X.env])) (fun Q E h => PyProof.Rows.Compare_chain h hm) (ha pins s σ H ρ η S I tk sr st) ?_
  rintro v s1 σ1 η1 H1 d S1 _ tk1 I1 g1 st1 ⟨rfl, x, rx, rd⟩
  refine Out.back (mono_sem _) g1 ?_
  refine Out.seq (t1 := eval b X.env) (W2 := fun u Q E s2 => wpAny (model X.prog X.w) X.A (compareOp op v u) (fun z s3 => wpAny (model X.prog X.w) X.A (truthy z)
    (fun t s4 => if t then wpAny (model X.prog X.w) X.A (compareChain pos u [op'] [eval c X.env]) Q E s4 else Q z s4) E s3) E s2) (fun Q E h => PyProof.Rows.chain_link h) (hb pins s1 σ1 H1 ρ η1 S1 I1 tk1 (sr.grow g1) st1) ?_
  rintro u s2 σ2 η2 H2 e S2 _ tk2 I2 g2 st2 ⟨rfl, y, ry, re⟩
  refine Out.back (mono_then _ fun z => mono_then _ fun t => ?_) g2 ?_
  · intro Q Q' E s' hQ w
    cases t with
    | true => exact wpAny_mono w hQ fun _ _ z => z
    | false => exact hQ _ _ w
  refine Out.seq (t1 := compareOp op v u) (W2 := fun z Q E s3 => wpAny (model X.prog X.w) X.A (truthy z) (fun t s4 => if t then wpAny (model X.prog X.w) X.A (compareChain pos u [op'] [eval c X.env]) Q E s4 else Q z s4) E s3) (fun Q E h => h)
    (ho pins s2 σ2 H2 η2 S2 x y v u d e I2 tk2 st2 rx ry (rd.grow g2) re) ?_
  rintro z s3 σ3 η3 H3 d3 S3 _ tk3 I3 g3 st3 ⟨rfl, y3, r3, re3⟩
  cases re3 with
  | bl t =>
    cases r3
    cases t with
    | false => exact fun E => wpAny_truthy_bool ⟨tk3, _, η3, H3, I3, g3, st3, rfl, .bl _, rfl, .bl _⟩
    | true =>
      refine Out.via (fun Q E h => wpAny_truthy_bool h) (Out.back (mono_sem _) g3 ?_)
      show Out τ X pins η3 H3 _ ((gc ρ >>= fun e' => f' e e') S3) _ _
      refine Out.seq (t1 := eval c X.env) (W2 := fun w => sem X (compareOp op' u w)) (fun Q E h => PyProof.Rows.chain_last h) (hc pins s3 σ3 H3 ρ η3 S3 I3 tk3 ((sr.grow g1).grow (g2.trans g3)) st3) ?_
      rintro w s4 σ4 η4 H4 e4 S4 _ tk4 I4 g4 st4 ⟨rfl, y4, r4, re4⟩
      exact Out.back (mono_sem _) g4 (ho' pins s4 σ4 H4 η4 S4 y y4 u w e e4 I4 tk4 st4 ry r4 (re.grow (g3.trans g4)) re4)
  | _ => trivial
theorem pdb_chain {op op' : CmpOp} {f f' : D → D → M D} (ho : Op2 τ X (compareOp op) f) (ho' : Op2 τ X (compareOp op') f') (ha : PD τ X a ga) (hb : PD τ X b gb) (hc : PD τ X c gc) (hm : lastMarks [op, op'] [b, c] = false) :
    PDB τ X (.Compare a [op, op'] [b, c] pos) (fun ρ => ga ρ >>= fun d => gb ρ >>= fun e => f d e >>= fun z => asB z >>= fun t => if t = true then gc ρ >>= fun e' => f' e e' >>= asB else pure false) := by
  intro pins s σ H ρ η S I tk sr st
  refine Out.seq (t1 := eval a X.env) (W2 := fun v => sem X (testChain pos v [op, op'] [eval b X.env, eval c X.env])) (fun Q E h => PyProof.Rows.isTrue_chain h hm) (ha pins s σ H ρ η S I tk sr st) ?_
  rintro v s1 σ1 η1 H1 d S1 _ tk1 I1 g1 st1 ⟨rfl, x, rx, rd⟩
  refine Out.back (mono_sem _) g1 ?_
  refine Out.seq (t1 := eval b X.env) (W2 := fun u Q E s2 => wpAny (model X.prog X.w) X.A (compareOp op v u) (fun z s3 => wpAny (model X.prog X.w) X.A (truthy z)
    (fun t s4 => if t then wpAny (model X.prog X.w) X.A (testChain pos u [op'] [eval c X.env]) Q E s4 else Q false s4) E s3) E s2) (fun Q E h => PyProof.Rows.test_link h) (hb pins s1 σ1 H1 ρ η1 S1 I1 tk1 (sr.grow g1) st1) ?_
  rintro u s2 σ2 η2 H2 e S2 _ tk2 I2 g2 st2 ⟨rfl, y, ry, re⟩
  refine Out.back (mono_then _ fun z => mono_then _ fun t => ?_) g2 ?_
  · intro Q Q' E s' hQ w
    cases t with
    | true => exact wpAny_mono w hQ fun _ _ z => z
    | false => exact hQ _ _ w
  refine Out.seq (t1 := compareOp op v u) (W2 := fun z Q E s3 => wpAny (model X.prog X.w) X.A (truthy z) (fun t s4 => if t then wpAny (model X.prog X.w) X.A (testChain pos u [op'] [eval c X.env]) Q E s4 else Q false s4) E s3) (fun Q E h => h)
    (ho pins s2 σ2 H2 η2 S2 x y v u d e I2 tk2 st2 rx ry (rd.grow g2) re) ?_
  rintro z s3 σ3 η3 H3 d3 S3 _ tk3 I3 g3 st3 ⟨rfl, y3, r3, re3⟩
  cases re3 with
  | bl t =>
    cases r3
    cases t with
    | false => exact fun E => wpAny_truthy_bool ⟨tk3, _, η3, H3, I3, g3, st3, rfl, rfl⟩
    | true =>
      refine Out.via (fun Q E h => wpAny_truthy_bool h) (Out.back (mono_sem _) g3 ?_)
      show Out τ X pins η3 H3 _ ((gc ρ >>= fun e' => f' e e' >>= asB) S3) _ _
      refine Out.seq (t1 := eval c X.env) (W2 := fun w Q E s4 => wpAny (model X.prog X.w) X.A (compareOp op' u w) (fun z s5 => wpAny (model X.prog X.w) X.A (truthy z) Q E s5) E s4) (fun Q E h => PyProof.Rows.test_last h) (hc pins s3 σ3 H3 ρ η3 S3 I3 tk3 ((sr.grow g1).grow (g2.trans g3)) st3) ?_
      rintro w s4 σ4 η4 H4 e4 S4 _ tk4 I4 g4 st4 ⟨rfl, y4, r4, re4⟩
      refine Out.back (mono_then _ fun z => mono_sem _) g4 ?_
      refine Out.seq (t1 := compareOp op' u w) (W2 := fun z => sem X (truthy z)) (fun Q E h => h) (ho' pins s4 σ4 H4 η4 S4 y y4 u w e e4 I4 tk4 st4 ry r4 (re.grow (g3.trans g4)) re4) ?_
      rintro z s5 σ5 η5 H5 d5 S5 _ tk5 I5 g5 st5 ⟨rfl, y5, r5, re5⟩
      exact Out.back (mono_sem _) g5 (asB_ok I5 tk5 st5 r5 re5)
  | _ => trivial
end

/-! ### lists of expressions -/
section
variable {X : Cx} {e : Expr} {es : List Expr}
theorem pdl_nil : PDL τ X [] (fun _ => pure []) := fun pos pins s σ H ρ η S I tk sr st E => Calls.spliced_nil ⟨tk, σ, η, H, I, .refl _ _, st, rfl, [], .nil, .nil⟩
theorem pdl_cons {ga : Env → M D} {gr : Env → M (List D)} (ha : PD τ X e ga) (hr : PDL τ X es gr) (hs : starEach (e :: es) X.env = (false, eval e X.env) :: starEach es X.env) : PDL τ X (e :: es) (fun ρ => ga ρ >>= fun d => gr ρ >>= fun ds => pure (d :: ds)) := by
  intro pos pins s σ H ρ η S I tk sr st
  rw [hs]
  refine Out.seq (t1 := eval e X.env) (W2 := fun v Q E s1 => wpAny (model X.prog X.w) X.A (spliced (backTo pos (starEach es X.env))) (fun vs s2 => Q (v :: vs) s2) E s1) (fun Q E h => Calls.spliced_cons h) (ha pins s σ H ρ η S I tk sr st) ?_
  rintro v s1 σ1 η1 H1 d S1 _ tk1 I1 g1 st1 ⟨rfl, x, rx, rd⟩
  refine Out.back (fun Q Q' E s' hQ w => wpAny_mono w (fun vs s2 z => hQ _ _ z) fun _ _ z => z) g1 ?_
  refine Out.seq (t1 := spliced (backTo pos (starEach es X.env))) (W2 := fun vs Q E s2 => Q (v :: vs) s2) (fun Q E h => h) (hr pos pins s1 σ1 H1 ρ η1 S1 I1 tk1 (sr.grow g1) st1) ?_
  rintro vs s2 σ2 η2 H2 ds S2 _ tk2 I2 g2 st2 ⟨rfl, xs, rxs, rds⟩
  exact fun E => ⟨tk2, _, η2, H2, I2, g2, st2, rfl, x :: xs, .cons rx rxs, .cons (rd.grow g2) rds⟩
theorem pd_tup {g : Env → M (List D)} {k : Nat} {pos : Pos} (h : PDL τ X es g) (hl : ∀ ρ S ds S', g ρ S = .ok ds S' → ds.length ≤ SL) : PD τ X (.Tuple es k pos) (fun ρ => g ρ >>= fun ds => pure (.tup ds)) := by
  intro pins s σ H ρ η S I tk sr st
  refine Out.seq (t1 := spliced (backTo pos (starEach es X.env))) (W2 := fun vs Q E s1 => vs.length ≤ sizeLine ∧ Q (.ref s1.heap.objs.size) { s1 with heap := s1.heap.push { cls := .type "tuple", data := .seq vs.toArray } }) (fun Q E h => wpAny_Tuple_spliced h) (h pos pins s σ H ρ η S I tk sr st) ?_
  rintro vs s1 σ1 η1 H1 ds S1 q1 tk1 I1 g1 st1 ⟨rfl, xs, rxs, rds⟩
  intro E
  have z : xs.length ≤ sizeLine := by rw [← rds.length]; exact sl_le (hl _ _ _ _ q1)
  have hf : H1 s1.heap.objs.size = none := I1.hok.fresh (Nat.le_refl _)
  obtain ⟨η2, g2, st2, r2⟩ := good_newT st1 rds hf
  refine ⟨by rw [← rxs.length]; exact z, tk1, σ1, η2, _, I1.laid (t' := s1.toks) (fun b u e => Heap.get?_push_of_some _ e) (Nat.le_refl _) ?_, g1.trans g2, st2, rfl, .ref _, rfl, r2⟩
  exact ⟨z, vs, rxs, ⟨_, Heap.get?_push_size _ rfl, rfl, _, rfl⟩⟩
theorem pd_lst {g : Env → M (List D)} {m : Bool} {pos : Pos} (h : PDL τ X es g) (hl : ∀ ρ S ds S', g ρ S = .ok ds S' → ds.length ≤ SL) : PD τ X (.List es pos) (fun ρ => g ρ >>= fun ds => newL m ds) := by
  intro pins s σ H ρ η S I tk sr st
  refine Out.seq (t1 := spliced (backTo pos (starEach es X.env))) (W2 := fun vs Q E s1 => vs.length ≤ sizeLine ∧ Q (.ref s1.heap.objs.size) { s1 with heap := s1.heap.push { cls := .type "list", data := .seq vs.toArray } }) (fun Q E h => wpAny_List_spliced h) (h pos pins s σ H ρ η S I tk sr st) ?_
  rintro vs s1 σ1 η1 H1 ds S1 q1 tk1 I1 g1 st1 ⟨rfl, xs, rxs, rds⟩
  cases q2 : newL m ds S1 with
  | bad => trivial
  | ok d S2 =>
    intro E
    have z : xs.length ≤ sizeLine := by rw [← rds.length]; exact sl_le (hl _ _ _ _ q1)
    have hf : H1 s1.heap.objs.size = none := I1.hok.fresh (Nat.le_refl _)
    obtain ⟨η2, g2, st2, r2⟩ := good_newL st1 rds hf q2
    refine ⟨by rw [← rxs.length]; exact z, tk1, σ1, η2, _, I1.laid (t' := s1.toks) (fun b u e => Heap.get?_push_of_some _ e) (Nat.le_refl _) ?_, g1.trans g2, st2, rfl, .ref _, rfl, r2⟩
    exact ⟨z, vs, 0, rxs, Heap.get?_push_size _ rfl⟩

/-! ### calls -/
theorem pd_fnB {x : Str} {id : String} {f : List D → M D} {g : Env → M (List D)} {p pos : Pos} (ho : OpL τ X (fun us => call (.builtin id) us) f) (hg : Gl X x) (hm : X.mg x = none) (hv : bootBuiltins x = some (.builtin id)) (ha : PDL τ X (e :: es) g) (hn : x ≠ "__name__") (hdb : (x == ("__debug__" : Str)) = false)
    (he : starEach (e :: es) X.env = (false, eval e X.env) :: starEach es X.env) (hpl : (backTo pos (starEach es X.env)).any (·.1) = false) : PD τ X (.Call (.Name x p) (e :: es) [] pos) (fun ρ => g ρ >>= f) := by
  intro pins s σ H ρ η S I tk sr st
  refine Out.seq (t1 := spliced (backTo pos (starEach (e :: es) X.env))) (W2 := fun us => sem X (call (.builtin id) us)) (fun Q E h => wpAny_Call_Name_kw (ld_blt I hg hm hv (PyProof.Rows.callWith_builtin1 h he hpl) hn hdb)) (ha pos pins s σ H ρ η S I tk sr st) ?_
  rintro us s1 σ1 η1 H1 ds S1 q1 tk1 I1 g1 st1 ⟨rfl, xs, rxs, rds⟩
  exact Out.back (mono_sem _) g1 (ho pins s1 σ1 H1 η1 S1 xs us ds I1 tk1 st1 rxs rds)
theorem pd_fnT {x : Str} {T : String} {f : List D → M D} {g : Env → M (List D)} {p pos : Pos} (ho : OpL τ X (fun us => call (.type T) us) f) (hg : Gl X x) (hm : X.mg x = none) (hv : bootBuiltins x = some (.type T)) (ha : PDL τ X (e :: es) g) (hn : x ≠ "__name__") (hdb : (x == ("__debug__" : Str)) = false)
    (he : starEach (e :: es) X.env = (false, eval e X.env) :: starEach es X.env) (hpl : (backTo pos (starEach es X.env)).any (·.1) = false) : PD τ X (.Call (.Name x p) (e :: es) [] pos) (fun ρ => g ρ >>= f) := by
  intro pins s σ H ρ η S I tk sr st
  refine Out.seq (t1 := spliced (backTo pos (starEach (e :: es) X.env))) (W2 := fun us => sem X (call (.type T) us)) (fun Q E h => wpAny_Call_Name_kw (ld_blt I hg hm hv (PyProof.Rows.callWith_type1 h he hpl) hn hdb)) (ha pos pins s σ H ρ η S I tk sr st) ?_
  rintro us s1 σ1 η1 H1 ds S1 q1 tk1 I1 g1 st1 ⟨rfl, xs, rxs, rds⟩
  exact Out.back (mono_sem _) g1 (ho pins s1 σ1 H1 η1 S1 xs us ds I1 tk1 st1 rxs rds)
/-- one argument -/
theorem opL_of_op1 {f : Value → Sem Value} {F : List Value → Sem Value} {g : D → M D} (h : Op1 τ X f g) (hF : ∀ u, F [u] = f u) : OpL τ X F (fun ds => match ds with | [d] => g d | _ => M.fail) := by
  intro pins s σ H η S xs us ds I tk st rv rd
  match ds, rd with
  | [], _ => trivial
  | _ :: _ :: _, _ => trivial
  | [d], rd =>
    obtain ⟨x, e1, r⟩ := one_of (ds := []) rd
    subst e1
    cases rv with
    | cons rv1 rv2 =>
      cases rv2
      rw [hF]
      exact h pins s σ H η S x _ d I tk st rv1 r
/-- isinstance(e, T) -/
theorem pd_isi {ga : Env → M D} {t : Ty} {p p2 pos : Pos} (ha : PD τ X e ga) (hg : Gl X "isinstance") (hm : X.mg "isinstance" = none) (hgT : Gl X (Str.ofString t.name)) (hmT : X.mg (Str.ofString t.name) = none)
    (he : starEach (e :: [.Name (Str.ofString t.name) p2]) X.env = (false, eval e X.env) :: starEach [.Name (Str.ofString t.name) p2] X.env) :
    PD τ X (.Call (.Name "isinstance" p) [e, .Name (Str.ofString t.name) p2] [] pos) (fun ρ => ga ρ >>= isinstD t) := by
  intro pins s σ H ρ η S I tk sr st
  have hT : bootBuiltins (Str.ofString t.name) = some (.type t.name) := by cases t <;> decide +kernel
  have hT2 : Str.ofString t.name ≠ "__name__" := by cases t <;> decide
  have hT3 : (Str.ofString t.name == ("__debug__" : Str)) = false := by cases t <;> decide
  have hs2 : starEach [.Name (Str.ofString t.name) p2] X.env = [(false, eval (.Name (Str.ofString t.name) p2) X.env)] := rfl
  refine Out.seq (t1 := eval e X.env) (W2 := fun v Q E s1 => wpAny (model X.prog X.w) X.A (spliced (backTo pos (starEach [.Name (Str.ofString t.name) p2] X.env))) (fun vs s2 => wpAny (model X.prog X.w) X.A (call (.builtin "isinstance") (v :: vs)) Q E s2) E s1)
    (fun Q E h => wpAny_Call_Name_kw (ld_blt (u := .builtin "isinstance") I hg hm (by decide +kernel) (PyProof.Rows.callWith_builtin1 (by rw [he]; exact Calls.spliced_cons h) he rfl) (by decide) (by decide))) (ha pins s σ H ρ η S I tk sr st) ?_
  rintro v s1 σ1 η1 H1 d S1 _ tk1 I1 g1 st1 ⟨rfl, x, rx, rd⟩
  refine Out.via (fun Q E h => ?_) (Out.back (mono_sem _) g1 (call_isinstD t pins s1 σ1 H1 η1 S1 x v d I1 tk1 st1 rx rd))
  exact Calls.spliced_cons (ld_blt I1 hgT hmT hT (Calls.spliced_nil h) hT2 hT3)

/-! ### methods -/
/-- the receiver of a method, looked at where it was evaluated -/
def rcL : D → M Unit := fun d S => match d with
  | .ref n => match S[n]? with
    | some (.lst _) => .ok () S
    | _ => .bad
  | _ => .bad
def rcS : D → M Unit
  | .str _ => pure ()
  | _ => M.fail
theorem pd_meth {rc : D → M Unit} {T id : String} {name : Str} {o : Expr} {go : Env → M D} {g : Env → M (List D)} {f : D → List D → M D} {apos cpos : Pos} (pa : PlainAttrs T) (slot : Slot T name id) (hty : typeOf (.builtin id) = pure (.type "method_descriptor")) (hm : Mt τ X T id f)
    (ht : ∀ {η : List Addr} {H : Hp} {S : Sto} {d : D} {x : V} {S' : Sto}, StoOk X.K η H S → Rep X.K η H d x → rc d S = .ok () S' → S' = S ∧ tyV X.K T x H)
    (ho : PD τ X o go) (ha : PDL τ X (e :: es) g) (hbase : attributeBase o name X.env (eval o X.env) = eval o X.env)
    (hfew : ((backTo cpos (starEach (e :: es) X.env)).all (fun x => !x.1) && (backToKw cpos (keywordEach [] X.env)).all (fun x => x.1.isSome) && decide ((e :: es).length + ([] : List Keyword).length + (if ([] : List Keyword).isEmpty then 0 else 1) < 30)) = true)
    (hline : (apos.endLine == cpos.line) = true) (hs : starEach (e :: es) X.env = (false, eval e X.env) :: starEach es X.env) (hplain : (backTo cpos (starEach es X.env)).any (·.1) = false) :
    PD τ X (.Call (.Attribute o name apos) (e :: es) [] cpos) (fun ρ => go ρ >>= fun d => rc d >>= fun _ => g ρ >>= fun ds => f d ds) := by
  intro pins s σ H ρ η S I tk sr st
  refine Out.seq (t1 := eval o X.env) (W2 := fun v Q E s1 => MethodOn X.prog X.w X.A name cpos v (backTo cpos (starEach (e :: es) X.env)) Q E s1) (fun Q E h => wpAny_Call_method_late hbase hfew hline rfl h) (ho pins s σ H ρ η S I tk sr st) ?_
  rintro v s1 σ1 η1 H1 d S1 _ tk1 I1 g1 st1 ⟨rfl, x, rx, rd⟩
  rw [bind_run]
  cases qr : rc d S1 with
  | bad => trivial
  | ok _ S1' =>
  obtain ⟨eS, hty'⟩ := ht st1 rd qr
  have eS := eS.symm
  subst eS
  dsimp only
  have key : Out τ X pins η1 H1 (relV X.K σ1) ((g ρ >>= fun ds => f d ds) S1) (fun Q E s1 => wpAny (model X.prog X.w) X.A (spliced (backTo cpos (starEach (e :: es) X.env))) (fun us s2 => wpAny (model X.prog X.w) X.A (call (.builtin id) (v :: us)) Q E s2) E s1) s1 := by
    refine Out.seq (t1 := spliced (backTo cpos (starEach (e :: es) X.env))) (W2 := fun us => sem X (call (.builtin id) (v :: us))) (fun Q E h => h) (ha cpos pins s1 σ1 H1 ρ η1 S1 I1 tk1 (sr.grow g1) st1) ?_
    rintro us s2 σ2 η2 H2 ds S2 q2 tk2 I2 g2 st2 ⟨rfl, xs, rxs, rds⟩
    exact Out.back (mono_sem _) g2 (hm pins s2 σ2 H2 η2 S2 x xs v us d ds I2 tk2 st2 rx rxs (rd.grow g2) rds)
  have key := Out.back (mono_then _ fun us => mono_sem _) g1 key
  cases q : (g ρ >>= fun ds => f d ds) S1 with
  | bad => trivial
  | ok d' S' =>
    rw [q] at key
    intro E
    obtain ⟨h1, h2⟩ := tyV_is I1 rx hty'
    exact ⟨T, id, pa, slot, hty, h1, h2, Calls.callWith_builtin (by rw [hs]; show (false || (backTo cpos (starEach es X.env)).any (·.1)) = false; rw [hplain]; rfl) (by rw [hs]; exact Calls.evalArgs_plain (by rw [hs] at key; exact key E))⟩
end
end MP

/-! MP8: slices; own functions. -/
namespace MP
open PySem L2
/-! ### slices -/
def POD (τ : Nat) (X : Cx) (o : Option Expr) (g : Env → M (Option Int)) : Prop := ∀ (pins : List (Addr × Obj)) (s : Shared) (σ : L2.St) (H : Hp) (ρ : Env) (η : List Addr) (S : Sto),
  Inv X pins σ H s → τ ≤ s.toks → SRel X.K η H σ ρ → StoOk X.K η H S → Out τ X pins η H (fun σ' _ _ (i : Option Int) (u : Value) => σ' = σ ∧ IsPart u i) (g ρ S) (sem X (evalPart o X.env)) s
def asI : D → M (Option Int)
  | .int i => pure (some i)
  | _ => M.fail
section
variable {X : Cx} {e : Expr} {lo hi : Option Expr} {pos p2 : Pos}
theorem pod_none : POD τ X none (fun _ => pure none) := by
  intro pins s σ H ρ η S I tk sr st E
  rw [evalPart_none]
  exact wpAny_pure ⟨tk, σ, η, H, I, .refl _ _, st, rfl, .none⟩
theorem pod_some {g : Env → M D} (h : PD τ X e g) : POD τ X (some e) (fun ρ => g ρ >>= asI) := by
  intro pins s σ H ρ η S I tk sr st
  rw [evalPart_some]
  refine Out.seq (t1 := eval e X.env) (W2 := fun v Q E s' => Q v s') (fun Q E h => h) (h pins s σ H ρ η S I tk sr st) ?_
  rintro v s1 σ1 η1 H1 d S1 _ tk1 I1 g1 st1 ⟨rfl, x, rx, rd⟩
  cases rd with
  | int i =>
    obtain ⟨t, rfl⟩ := rx
    exact fun E => ⟨tk1, _, η1, H1, I1, g1, st1, rfl, .int i t⟩
  | _ => trivial
theorem pd_slice {m : Bool} {ge : Env → M D} {gl gh : Env → M (Option Int)} (he : PD τ X e ge) (hl : POD τ X lo gl) (hh : POD τ X hi gh) : PD τ X (.Subscript e (.Slice lo hi none p2) pos) (fun ρ => ge ρ >>= fun d => gl ρ >>= fun l => gh ρ >>= fun h => sliceE m d l h) := by
  intro pins s σ H ρ η S I tk sr st
  refine Out.seq (t1 := eval e X.env) (W2 := fun v Q E s1 => wpAny (model X.prog X.w) X.A (evalPart lo X.env) (fun vl s2 => wpAny (model X.prog X.w) X.A (evalPart hi X.env) (fun vu s3 =>
    wpAny (model X.prog X.w) X.A (PyProof.Rows.subscriptTail e (.Slice lo hi none p2) v (.ref s3.heap.objs.size)) Q E { s3 with heap := s3.heap.push { cls := .type "slice", data := .fields #[vl, vu, .none] } }) E s2) E s1)
    (fun Q E h => PyProof.Rows.Subscript_ (wpAny_mono h (fun v s1 z => wpAny_Slice (wpAny_mono z (fun vl s2 z2 => wpAny_mono z2 (fun vu s3 z3 => by rw [evalPart_none]; exact wpAny_pure z3) fun _ _ z => z) fun _ _ z => z)) fun _ _ z => z)) (he pins s σ H ρ η S I tk sr st) ?_
  rintro v s1 σ1 η1 H1 d S1 _ tk1 I1 g1 st1 ⟨rfl, x, rx, rd⟩
  have mono3 : ∀ v vl, MonoW (fun Q E s2 => wpAny (model X.prog X.w) X.A (evalPart hi X.env) (fun vu s3 => wpAny (model X.prog X.w) X.A (PyProof.Rows.subscriptTail e (.Slice lo hi none p2) v (.ref s3.heap.objs.size)) Q E { s3 with heap := s3.heap.push { cls := .type "slice", data := .fields #[vl, vu, .none] } }) E s2) :=
    fun v vl Q Q' E s hQ w => wpAny_mono w (fun vu s3 z => wpAny_mono z hQ fun _ _ z => z) fun _ _ z => z
  refine Out.back (fun Q Q' E s hQ w => wpAny_mono w (fun vl s2 z => mono3 v vl Q Q' E s2 hQ z) fun _ _ z => z) g1 ?_
  refine Out.seq (t1 := evalPart lo X.env) (W2 := fun vl Q E s2 => wpAny (model X.prog X.w) X.A (evalPart hi X.env) (fun vu s3 =>
    wpAny (model X.prog X.w) X.A (PyProof.Rows.subscriptTail e (.Slice lo hi none p2) v (.ref s3.heap.objs.size)) Q E { s3 with heap := s3.heap.push { cls := .type "slice", data := .fields #[vl, vu, .none] } }) E s2) (fun Q E h => h) (hl pins s1 σ1 H1 ρ η1 S1 I1 tk1 (sr.grow g1) st1) ?_
  rintro vl s2 σ2 η2 H2 l S2 _ tk2 I2 g2 st2 ⟨rfl, pl⟩
  refine Out.back (mono3 v vl) g2 ?_
  refine Out.seq (t1 := evalPart hi X.env) (W2 := fun vu Q E s3 => wpAny (model X.prog X.w) X.A (PyProof.Rows.subscriptTail e (.Slice lo hi none p2) v (.ref s3.heap.objs.size)) Q E { s3 with heap := s3.heap.push { cls := .type "slice", data := .fields #[vl, vu, .none] } }) (fun Q E h => h) (hh pins s2 σ2 H2 ρ η2 S2 I2 tk2 ((sr.grow g1).grow g2) st2) ?_
  rintro vu s3 σ3 η3 H3 h S3 _ tk3 I3 g3 st3 ⟨rfl, pu⟩
  have I4 : Inv X pins σ3 H3 { s3 with heap := s3.heap.push { cls := .type "slice", data := .fields #[vl, vu, .none] } } := I3.kept (t' := s3.toks) fun b ob q => Heap.get?_push_of_some _ q
  cases q : sliceE m d l h S3 with
  | bad => trivial
  | ok d' S' =>
    have key : Out τ X pins η3 H3 (relV X.K σ3) (.ok d' S') (sem X (PyProof.Rows.subscriptTail e (.Slice lo hi none p2) v (.ref s3.heap.objs.size))) { s3 with heap := s3.heap.push { cls := .type "slice", data := .fields #[vl, vu, .none] } } := by
      refine out_ok tk3 fun E => ?_
      obtain ⟨T, id, hT, ht, hg⟩ := sl_okD (E := E) I4 st3 rx (rd.grow (g2.trans g3)) (Heap.IsSliceOf.new ..) pl pu q
      exact PyProof.Rows.tail_any (ops := [.ref s3.heap.objs.size, v]) ht hT hg (by with_unfolding_all rfl)
    have key2 := Out.back (mono_sem _) g3 key
    exact fun E => key2 E
end
end MP

/-! MP9: functions, statements. -/
namespace MP
open PySem L2
/-! ### flows -/
inductive Fl where
  | next (ρ : Env)
  | ret (d : D)
  | brk (ρ : Env)
  | cont (ρ : Env)
def relF (K : PySem.W.Frag) : L2.St → List Addr → Hp → Fl → Flow → Prop := fun σ η H f u => match f, u with
  | .next ρ, .next => SRel K η H σ ρ
  | .brk ρ, .brk => SRel K η H σ ρ
  | .cont ρ, .cont => SRel K η H σ ρ
  | .ret d, .ret w => ∃ v, RelV v w ∧ Rep K η H d v
  | _, _ => False
def relE (K : PySem.W.Frag) : L2.St → List Addr → Hp → Env → Unit → Prop := fun σ η H ρ _ => SRel K η H σ ρ
def PSD (τ : Nat) (X : Cx) (st : Stmt) (g : Env → M Fl) : Prop := ∀ (pins : List (Addr × Obj)) (s : Shared) (σ : L2.St) (H : Hp) (ρ : Env) (η : List Addr) (S : Sto),
  Inv X pins σ H s → τ ≤ s.toks → SRel X.K η H σ ρ → StoOk X.K η H S → Out τ X pins η H (relF X.K) (g ρ S) (sem X (exec st X.env)) s
def PSDs (τ : Nat) (X : Cx) (sts : List Stmt) (g : Env → M Fl) : Prop := ∀ (pins : List (Addr × Obj)) (s : Shared) (σ : L2.St) (H : Hp) (ρ : Env) (η : List Addr) (S : Sto),
  Inv X pins σ H s → τ ≤ s.toks → SRel X.K η H σ ρ → StoOk X.K η H S → Out τ X pins η H (relF X.K) (g ρ S) (sem X (execs sts X.env)) s
def PGD (τ : Nat) (X : Cx) (tg : Expr) (g : D → Env → M Env) : Prop := ∀ (pins : List (Addr × Obj)) (s : Shared) (σ : L2.St) (H : Hp) (ρ : Env) (η : List Addr) (S : Sto) (v : V) (u : Value) (d : D),
  Inv X pins σ H s → τ ≤ s.toks → SRel X.K η H σ ρ → StoOk X.K η H S → RelV v u → Rep X.K η H d v → Out τ X pins η H (relE X.K) (g d ρ S) (sem X (assign tg X.env u)) s

/-! ### functions -/
def FnD (τ : Nat) (P : Program) (w : World) (K : PySem.W.Frag) (mg : Str → Option Value) (base : Heap) (n : Nat) (f : Addr) (fd : FuncData) (ps : List Str) (g : List D → M D) : Prop :=
  ∀ (A : Around) (outer : List PySem.Env) (s : Shared) (H : Hp) (args : Args) (us : List Value) (vs : List V) (ds : List D) (η : List Addr) (S : Sto) (d : D) (S' : Sto), Room n A → A.guards = some [] → τ ≤ s.toks → Env0 P w K mg base A outer s H → BindsTo s fd args (ps.zip us) → Vals vs us →
    Reps K η H ds vs → ds.length = ps.length → StoOk K η H S → g ds S = .ok d S' →
    codeAny (model P w) A (.call (.ref f) args) (fun r s' => ∃ u v η' H', r = .ok (.ret u) ∧ τ ≤ s'.toks ∧ s'.os = s.os ∧ PyProof.Rows.AllBare s'.gens ∧ Un (frs outer) [] H H' s.heap s'.heap ∧ HOk P w H' s'.heap ∧ Grow η H η' H' ∧ StoOk K η' H' S' ∧ RelV v u ∧ Rep K η' H' d v) s
section
variable {X : Cx} {n : Nat}
theorem run_fnD {f : Addr} {fd : FuncData} {ps : List Str} {g : List D → M D} (F : FnD τ X.prog X.w X.K X.mg X.base n f fd ps g) (c : Ck n X) (hb : Binds X.K fd ps []) {pins : List (Addr × Obj)} {s : Shared} {σ : L2.St} {H : Hp} {η : List Addr} {S : Sto} {xs : List V} {us : List Value} {ds : List D}
    (I : Inv X pins σ H s) (tk : τ ≤ s.toks) (st : StoOk X.K η H S) (rv : Vals xs us) (rd : Reps X.K η H ds xs) (hl : ds.length = ps.length) : Out τ X pins η H (relV X.K σ) (g ds S) (sem X (call (.ref f) us)) s := by
  refine Out.never fun d S' q => ?_
  have hu : us.length = ps.length := by rw [← rv.length, ← rd.length]; exact hl
  have hbt := hb s us I.kIn (by rw [List.append_nil]; exact hu)
  rw [List.append_nil] at hbt
  refine wpAny_call (codeAny_mono (F X.A X.stack s H ⟨us, []⟩ us xs ds η S d S' c.rm c.gd tk I.env0 hbt rv rd hl st q) fun r s' z => ?_)
  obtain ⟨u, v, η', H', e, tk', os, bare, un, hok, g1, st1, ru, rp⟩ := z
  subst e
  exact ⟨tk', σ, η', H', I.call' (ch := []) os un hok bare (fun b hb => absurd hb (by simp)), g1, st1, rfl, v, ru, rp⟩
theorem pd_call {e : Expr} {es : List Expr} {x : Str} {f : Addr} {fd : FuncData} {ps : List Str} {g : List D → M D} {gl : Env → M (List D)} {p pos : Pos} (F : FnD τ X.prog X.w X.K X.mg X.base n f fd ps g) (c : Ck n X) (hg : Gl X x) (hm : X.mg x = some (.ref f)) (hk : PySem.W.keepIn X.K (.ref f) = true) (hb : Binds X.K fd ps [])
    (ha : PDL τ X (e :: es) gl) (hl : ∀ ρ S ds S', gl ρ S = .ok ds S' → ds.length = ps.length) (hdb : (x == ("__debug__" : Str)) = false) (he : starEach (e :: es) X.env = (false, eval e X.env) :: starEach es X.env) (hpl : (backTo pos (starEach es X.env)).any (·.1) = false) :
    PD τ X (.Call (.Name x p) (e :: es) [] pos) (fun ρ => gl ρ >>= g) := by
  intro pins s σ H ρ η S I tk sr st
  refine Out.seq (t1 := spliced (backTo pos (starEach (e :: es) X.env))) (W2 := fun us Q E s1 => X.K.In s1.heap ∧ wpAny (model X.prog X.w) X.A (call (.ref f) us) Q E s1)
    (fun Q E h => wpAny_Call_Name_kw (ld_glob I hg hm (PySem.W.callWith_K (h₀ := X.base) I.ok.mod.kin hk h he hpl) hdb)) (ha pos pins s σ H ρ η S I tk sr st) ?_
  rintro us s1 σ1 η1 H1 ds S1 q1 tk1 I1 g1 st1 ⟨rfl, xs, rxs, rds⟩
  exact Out.via (fun Q E h => ⟨I1.kIn, h⟩) (Out.back (mono_sem _) g1 (run_fnD F c hb I1 tk1 st1 rxs rds (hl _ _ _ _ q1)))
end

/-! ### a def by its body -/
def startD (k : Nat) (ds : List D) : Env := ds.map some ++ List.replicate (k - ds.length) none
def bodyD (k : Nat) (g : Env → M Fl) (ds : List D) : M D := g (startD k ds) >>= fun f => match f with
  | .ret d => pure d
  | .next _ => pure .non
  | _ => M.fail
theorem srel_start {K : PySem.W.Frag} {η : List Addr} {H : Hp} {N : List Str} {ds : List D} {vs : List V} (h : Reps K η H ds vs) : SRel K η H (L2.start N vs) (startD N.length ds) := by
  unfold L2.start startD
  refine ⟨by simp [h.length], fun i d e => ?_⟩
  by_cases hi : i < ds.length
  · rw [List.getElem?_append_left (by simpa using hi), List.getElem?_map] at e
    cases q : ds[i]? with
    | none => rw [q] at e; cases e
    | some d' =>
      rw [q] at e
      cases e
      obtain ⟨v, h1, h2⟩ := h.get q
      exact ⟨v, by rw [List.getElem?_append_left (by simpa [← h.length] using hi), List.getElem?_map, h1]; rfl, h2⟩
  · rw [List.getElem?_append_right (by simpa using hi), List.getElem?_replicate] at e
    split at e <;> cases e
theorem fnd_of {P : Program} {w : World} {K : PySem.W.Frag} {mg : Str → Option Value} {base : Heap} {k : Nat} {x qual : Str} {sm : Stmt} {f : Addr} {fd : FuncData} {N ps : List Str} {g : Env → M Fl} (hsm : ∃ o, base.get? sysModules = some o) (F : Fun K x qual sm f fd) (Sc : FnScope N ps (defScope sm))
    (hbody : ∀ X : Cx, X.prog = P → X.w = w → X.K = K → X.mg = mg → X.base = base → X.N = N → X.env.scope = defScope sm → (∀ x, X.fn x = true) → Ck k X → PSDs τ X (defBody sm) g) :
    FnD τ P w K mg base (k + 1) f fd ps (bodyD N.length g) := by
  obtain ⟨oc, od, kV, doc, pm, an, cdv, ct, osl, rfl, lk, hcd⟩ := F.ex
  intro A outer s H args us vs ds η S d S' hr hgd tk e0 hb rv rd hl st q
  have KX : K.In s.heap := e0.mod.kin.keeps fun b o e => (e0.bs b o e).1
  have lim : s.heap.NoLimit := e0.mod.nolimit.keeps fun b o e => (e0.bs b o e).1
  have hkind : ∀ y ∈ ps.zip us, (defScope sm).names.lookup y.1 = some .local ∨ ((defScope sm).names.lookup y.1 = some .cell ∧ ((cellsFrom (s.heap.objs.size + 1) (defScope sm).names []).lookup y.1).isSome = true) := fun ⟨m, v⟩ hy => by
    rcases Sc.par m (List.of_mem_zip hy).1 with z | z
    · exact .inl z
    · exact .inr ⟨z, PySem.W.cellsFrom_some _ _ _ (.inl z)⟩
  refine codeAny_call_function hr.depth (KX _ _ lk) rfl Sc.co Sc.gen rfl (PySem.W.codeRec_of KX hcd) (hb _ _ _ _ ?_)
  refine wpAny_mono (PySem.wpAny_toks (wpAny_newFunctionEnv_cells (Q := fun env s1 => env = newEnv (defScope sm) s.heap.objs.size mainGlobals (cellsFrom (s.heap.objs.size + 1) (defScope sm).names []) (qual ++ ".<locals>.") (some f) cdv none builtinsNs ∧
    InCallC s env.locals (bindL env.kindOf (ps.zip us) fun _ => none) env.cells (bindC env.kindOf (ps.zip us) fun _ => none) s1) Sc.kind hkind fun env he s1 y => ⟨he, y⟩)) (fun env s1 z => ?_) fun _ _ z => z.2
  obtain ⟨tk1, he, y⟩ := z
  subst he
  refine ⟨lim.keeps y.toInCall.keep, codeAny_func ?_⟩
  have I := inv_start (CX := CX0) (E := E0) (cd := cdv) (f := f) (qual := qual) Sc hr.hd e0 (by rw [← rd.length]; exact hl) rv y
  have g0 : Grow η H η H := .refl _ _
  have sr := srel_start (N := N) rd
  have hq : ∃ fl, g (startD N.length ds) S = .ok fl S' ∧ (fl = .ret d ∨ (∃ ρ, fl = .next ρ) ∧ d = .non) := by
    unfold bodyD at q
    rw [bind_run] at q
    cases z : g (startD N.length ds) S with
    | bad => rw [z] at q; cases q
    | ok fl S2 =>
      rw [z] at q
      cases fl with
      | ret d' => cases q; exact ⟨_, rfl, .inl rfl⟩
      | next ρ => cases q; exact ⟨_, rfl, .inr ⟨⟨ρ, rfl⟩, rfl⟩⟩
      | brk => cases q
      | cont => cases q
  obtain ⟨fl, hg, hfl⟩ := hq
  have key := hbody (cxOf CX0 P w K mg base N qual (defScope sm) f cdv A outer s H E0) rfl rfl rfl rfl rfl rfl rfl (fun _ => rfl) ⟨rfl, hgd, hr.deeper _, hsm, Sc.nd⟩ [] s1 (L2.start N vs) H (startD N.length ds) η S I (Nat.le_trans tk tk1) sr st
  rw [hg] at key
  refine wpAny_mono (key (fun _ _ => False)) (fun fw s' z => ?_) fun _ _ z => z.elim
  obtain ⟨tk2, σ2, η2, H2, I2, g2, st2, r2⟩ := z
  rcases hfl with rfl | ⟨⟨ρ, rfl⟩, rfl⟩
  · cases fw with
    | ret u =>
      obtain ⟨v, ru, rp⟩ := r2
      exact ⟨u, v, η2, H2, rfl, tk2, I2.os, I2.bare, I2.base, I2.hok, g2, st2, ru, rp⟩
    | next => exact r2.elim
    | brk => exact r2.elim
    | cont => exact r2.elim
  · cases fw with
    | next => exact ⟨.none, .non, η2, H2, rfl, tk2, I2.os, I2.bare, I2.base, I2.hok, g2, st2, rfl, .non⟩
    | ret u => exact r2.elim
    | brk => exact r2.elim
    | cont => exact r2.elim
end MP

/-! MP10: statements. -/
namespace MP
open PySem L2
section
variable {X : Cx} {st : Stmt} {rest : List Stmt} {e c : Expr} {pos : Pos}
/-! ### blocks -/
def thenF (g : Env → M Fl) (f : Fl) : M Fl := match f with
  | .next ρ => g ρ
  | f => pure f
theorem psd_nil : PSDs τ X [] (fun ρ => pure (.next ρ)) := fun pins s σ H ρ η S I tk sr st' E => wpAny_execs_nil ⟨tk, σ, η, H, I, .refl _ _, st', sr⟩
theorem psd_cons {g1 g2 : Env → M Fl} (h1 : PSD τ X st g1) (h2 : PSDs τ X rest g2) : PSDs τ X (st :: rest) (fun ρ => g1 ρ >>= thenF g2) := by
  intro pins s σ H ρ η S I tk sr st'
  refine Out.seq (t1 := exec st X.env) (W2 := fun f Q E s' => match f with | .next => wpAny (model X.prog X.w) X.A (execs rest X.env) Q E s' | f => Q f s') (fun Q E h => wpAny_execs_cons h) (h1 pins s σ H ρ η S I tk sr st') ?_
  intro f s1 σ1 η1 H1 fl S1 _ tk1 I1 g1 st1 r1
  cases fl with
  | next ρ1 =>
    cases f with
    | next => exact Out.back (mono_sem _) g1 (h2 pins s1 σ1 H1 ρ1 η1 S1 I1 tk1 r1 st1)
    | _ => exact r1.elim
  | ret d =>
    cases f with
    | ret u => exact fun E => ⟨tk1, σ1, η1, H1, I1, g1, st1, r1⟩
    | _ => exact r1.elim
  | brk d =>
    cases f with
    | brk => exact fun E => ⟨tk1, σ1, η1, H1, I1, g1, st1, r1⟩
    | _ => exact r1.elim
  | cont d =>
    cases f with
    | cont => exact fun E => ⟨tk1, σ1, η1, H1, I1, g1, st1, r1⟩
    | _ => exact r1.elim
theorem psd_pass : PSD τ X (.Pass pos) (fun ρ => pure (.next ρ)) := fun pins s σ H ρ η S I tk sr st' E => wpAny_Pass ⟨tk, σ, η, H, I, .refl _ _, st', sr⟩
theorem psd_brk : PSD τ X (.Break pos) (fun ρ => pure (.brk ρ)) := fun pins s σ H ρ η S I tk sr st' E => wpAny_Break ⟨tk, σ, η, H, I, .refl _ _, st', sr⟩
theorem psd_cont : PSD τ X (.Continue pos) (fun ρ => pure (.cont ρ)) := fun pins s σ H ρ η S I tk sr st' E => wpAny_Continue ⟨tk, σ, η, H, I, .refl _ _, st', sr⟩
theorem psd_ret {g : Env → M D} (h : PD τ X e g) : PSD τ X (.Return (some e) pos) (fun ρ => g ρ >>= fun d => pure (.ret d)) := by
  intro pins s σ H ρ η S I tk sr st'
  refine Out.seq (t1 := eval e X.env) (W2 := fun v Q E s' => Q (.ret v) s') (fun Q E h => wpAny_Return_some h) (h pins s σ H ρ η S I tk sr st') ?_
  rintro v s1 σ1 η1 H1 d S1 _ tk1 I1 g1 st1 ⟨rfl, x, rx, rd⟩
  exact fun E => ⟨tk1, _, η1, H1, I1, g1, st1, x, rx, rd⟩
theorem psd_expr {g : Env → M D} (h : PD τ X e g) (hs : swapsWith e none pos.line X.env = pure false) : PSD τ X (.Expr e pos) (fun ρ => g ρ >>= fun _ => pure (.next ρ)) := by
  intro pins s σ H ρ η S I tk sr st'
  refine Out.seq (t1 := eval e X.env) (W2 := fun v Q E s' => Q .next s') (fun Q E h => wpAny_Expr_any h I.quiet hs) (h pins s σ H ρ η S I tk sr st') ?_
  rintro v s1 σ1 η1 H1 d S1 _ tk1 I1 g1 st1 ⟨rfl, x, rx, rd⟩
  exact fun E => ⟨tk1, _, η1, H1, I1, g1, st1, sr.grow g1⟩
theorem psd_if {a b : List Stmt} {gt : Env → M Bool} {ga gb : Env → M Fl} (hc : PDB τ X c gt) (ha : PSDs τ X a ga) (hb : PSDs τ X b gb) : PSD τ X (.If c a b pos) (fun ρ => gt ρ >>= fun t => if t = true then ga ρ else gb ρ) := by
  intro pins s σ H ρ η S I tk sr st'
  refine Out.seq (t1 := isTrue c X.env (eval c X.env)) (W2 := fun t Q E s1 => if t then wpAny (model X.prog X.w) X.A (execs a X.env) Q E s1 else wpAny (model X.prog X.w) X.A (execs b X.env) Q E s1) (fun Q E h => wpAny_If h) (hc pins s σ H ρ η S I tk sr st') ?_
  rintro t s1 σ1 η1 H1 d S1 _ tk1 I1 g1 st1 ⟨rfl, rfl⟩
  cases d with
  | true => exact Out.back (mono_sem _) g1 (ha pins s1 σ1 H1 ρ η1 S1 I1 tk1 (sr.grow g1) st1)
  | false => exact Out.back (mono_sem _) g1 (hb pins s1 σ1 H1 ρ η1 S1 I1 tk1 (sr.grow g1) st1)

/-! ### targets -/
theorem store_out {pins : List (Addr × Obj)} {s : Shared} {σ : L2.St} {H : Hp} {ρ : Env} {η : List Addr} {S : Sto} {v : V} {u : Value} {d : D} {i : Nat} {x : Str} {β : Type} {b : β} (I : Inv X pins σ H s) (tk : τ ≤ s.toks) (sr : SRel X.K η H σ ρ) (st' : StoOk X.K η H S) (hN : X.N.Nodup) (hi : X.N[i]? = some x) (hx : Loc X.env.scope x)
    (hf : X.fn x = true ∨ X.env.scope.names.lookup x = some .local) (r : RelV v u) (rd : Rep X.K η H d v) (E : Value → Shared → Prop) :
    wpAny (model X.prog X.w) X.A (storeName X.env x u) (fun _ s' => τ ≤ s'.toks ∧ ∃ σ' η' H', Inv X pins σ' H' s' ∧ Grow η H η' H' ∧ StoOk X.K η' H' S ∧ SRel X.K η' H' σ' (ρ.set i (some d))) E s := by
  refine wpAny_mono (PySem.wpAny_toks (store_ok (Q := fun _ s' => Inv X pins (σ.set i (some v)) H s') I hN hi hx r (fun s' I' => I') hf)) (fun _ s' z => ?_) fun _ _ z => z.2
  exact ⟨Nat.le_trans tk z.1, _, η, H, z.2, .refl _ _, st', sr.set rd i⟩
theorem pgd_name {i : Nat} {x : Str} (hN : X.N.Nodup) (hi : X.N[i]? = some x) (hx : Loc X.env.scope x) (hf : X.fn x = true ∨ X.env.scope.names.lookup x = some .local) : PGD τ X (.Name x pos) (fun d ρ => pure (ρ.set i (some d))) := by
  intro pins s σ H ρ η S v u d I tk sr st' r rd E
  exact wpAny_assign_Name (store_out (β := Unit) (b := ()) I tk sr st' hN hi hx hf r rd E)
/-- name = e -/
theorem psd_set {i : Nat} {x : Str} {pos' : Pos} {g : Env → M D} (hN : X.N.Nodup) (hi : X.N[i]? = some x) (hx : Loc X.env.scope x) (hf : X.fn x = true ∨ X.env.scope.names.lookup x = some .local) (h : PD τ X e g) (hs : swapsWith e (some (.Name x pos')) pos.line X.env = pure false) :
    PSD τ X (.Assign [.Name x pos'] e pos) (fun ρ => g ρ >>= fun d => pure (.next (ρ.set i (some d)))) := by
  intro pins s σ H ρ η S I tk sr st'
  refine Out.seq (t1 := eval e X.env) (W2 := fun v Q E s1 => wpAny (model X.prog X.w) X.A (storeName X.env x v) (fun _ => Q .next) E s1) (fun Q E h => wpAny_Assign_Name h hs) (h pins s σ H ρ η S I tk sr st') ?_
  rintro v s1 σ1 η1 H1 d S1 _ tk1 I1 g1 st1 ⟨rfl, y, ry, rd⟩
  intro E
  refine wpAny_mono (store_out (β := Unit) (b := ()) I1 tk1 (sr.grow g1) st1 hN hi hx hf ry rd E) (fun _ s2 z => ?_) fun _ _ z => z
  obtain ⟨tk2, σ2, η2, H2, I2, g2, st2, r2⟩ := z
  exact ⟨tk2, σ2, η2, H2, I2, g1.trans g2, st2, r2⟩
/-- target = e -/
theorem psd_asg {tg : Expr} {g : Env → M D} {ga : D → Env → M Env} (h : PD τ X e g) (ht : PGD τ X tg ga) (hs : swapsWithSole [tg] e pos.line X.env = pure false) (hw : swappedStores [tg] e X.env = pure none) (h1 : (assignEach [tg] X.env).map (·.2) = [assign tg X.env]) :
    PSD τ X (.Assign [tg] e pos) (fun ρ => g ρ >>= fun d => ga d ρ >>= fun ρ' => pure (.next ρ')) := by
  intro pins s σ H ρ η S I tk sr st'
  refine Out.seq (t1 := eval e X.env) (W2 := fun v Q E s1 => wpAny (model X.prog X.w) X.A (assign tg X.env v) (fun _ => Q .next) E s1) (fun Q E h => wpAny_Assign_stores (wpAny_mono h (fun v s1 z => by rw [h1]; exact z) fun _ _ z => z) hs hw) (h pins s σ H ρ η S I tk sr st') ?_
  rintro v s1 σ1 η1 H1 d S1 _ tk1 I1 g1 st1 ⟨rfl, y, ry, rd⟩
  refine Out.back (fun Q Q' E s' hQ w => wpAny_mono w (fun _ s2 z => hQ _ _ z) fun _ _ z => z) g1 ?_
  refine Out.seq (t1 := assign tg X.env v) (W2 := fun _ Q E s2 => Q .next s2) (fun Q E h => h) (ht pins s1 σ1 H1 ρ η1 S1 y v d I1 tk1 (sr.grow g1) st1 ry rd) ?_
  intro _ s2 σ2 η2 H2 ρ2 S2 _ tk2 I2 g2 st2 r2
  exact fun E => ⟨tk2, σ2, η2, H2, I2, g2, st2, r2⟩
/-- o[i] = .. -/
theorem pgd_sub {o i : Expr} {go gi : Env → M D} (hu : X.A.units + 1 < cLine) (ho : PD τ X o go) (hi : PD τ X i gi)
    (ha : ∀ v, assign (.Subscript o i pos) X.env v = (do
      let ov ← holding [v] (eval o X.env)
      let iv ← holding [v, ov] (eval i X.env)
      standAt pos
      holding [v, ov, iv] (setItem ov iv v)
      release [v, ov, iv] [])) : PGD τ X (.Subscript o i pos) (fun d ρ => go ρ >>= fun od => gi ρ >>= fun id => setD od id d >>= fun _ => pure ρ) := by
  intro pins s σ H ρ η S v u d I tk sr st' r rd
  rw [ha]
  refine Out.seq (t1 := eval o X.env) (W2 := fun ov Q E s1 => wpAny (model X.prog X.w) X.A (eval i X.env) (fun iv s2 => wpAny (model X.prog X.w) X.A (setItem ov iv u) (fun _ s3 => Q () s3) E s2) E s1)
    (fun Q E h => wpAny_bind (wpAny_holding (wpAny_mono h (fun ov s1 z => wpAny_bind (wpAny_holding (wpAny_mono z (fun iv s2 z2 => wpAny_bind (wpAny_standAt (wpAny_bind (wpAny_holding (wpAny_mono z2 (fun _ s3 z3 => wpAny_release z3) fun _ _ z => z))))) fun _ _ z => z))) fun _ _ z => z))) (ho pins s σ H ρ η S I tk sr st') ?_
  rintro ov s1 σ1 η1 H1 od S1 _ tk1 I1 g1 st1 ⟨rfl, y, ry, rod⟩
  refine Out.back (fun Q Q' E s' hQ w => wpAny_mono w (fun _ s2 z => wpAny_mono z (fun _ s3 z => hQ _ _ z) fun _ _ z => z) fun _ _ z => z) g1 ?_
  refine Out.seq (t1 := eval i X.env) (W2 := fun iv Q E s2 => wpAny (model X.prog X.w) X.A (setItem ov iv u) (fun _ s3 => Q () s3) E s2) (fun Q E h => h) (hi pins s1 σ1 H1 ρ η1 S1 I1 tk1 (sr.grow g1) st1) ?_
  rintro iv s2 σ2 η2 H2 id S2 _ tk2 I2 g2 st2 ⟨rfl, y2, ry2, rid⟩
  refine Out.back (fun Q Q' E s' hQ w => wpAny_mono w (fun _ s3 z => hQ _ _ z) fun _ _ z => z) g2 ?_
  refine Out.seq (t1 := setItem ov iv u) (W2 := fun _ Q E s2 => Q () s2) (fun Q E h => h) (set_okD I2 tk2 st2 ry ry2 r (rod.grow g2) rid (rd.grow (g1.trans g2)) hu) ?_
  intro _ s3 σ3 η3 H3 _ S3 _ tk3 I3 g3 st3 r3
  have r3 : σ3 = σ2 := r3
  subst r3
  exact fun E => ⟨tk3, _, η3, H3, I3, g3, st3, sr.grow (g1.trans (g2.trans g3))⟩
/-- several targets, one after another -/
def PGDs (τ : Nat) (X : Cx) (ts : List Expr) (g : List D → Env → M Env) : Prop := ∀ (pins : List (Addr × Obj)) (s : Shared) (σ : L2.St) (H : Hp) (ρ : Env) (η : List Addr) (S : Sto) (vs : List V) (us : List Value) (ds : List D),
  Inv X pins σ H s → τ ≤ s.toks → SRel X.K η H σ ρ → StoOk X.K η H S → Vals vs us → Reps X.K η H ds vs → Out τ X pins η H (relE X.K) (g ds ρ S) (sem X (PySem.assignInOrder ((assignEach ts X.env).map (·.2)) us)) s
def asgs : List (D → Env → M Env) → List D → Env → M Env
  | [], [], ρ => pure ρ
  | g :: gs, d :: ds, ρ => g d ρ >>= fun ρ' => asgs gs ds ρ'
  | _, _, _ => M.fail
end
end MP

/-! MP11: what is walked; for. -/
namespace MP
open PySem L2
inductive Src where
  | fix (xs : List D)
  | ref (n : Nat)
  /-- enumerate of a tracked list -/
  | enr (n : Nat)
/-- none: it can't be told; some none: no more -/
def Src.at (S : Sto) (i : Nat) : Src → Option (Option D)
  | .fix xs => some xs[i]?
  | .ref n => match S[n]? with
    | some (.lst xs) => some xs[i]?
    | _ => none
  | .enr n => match S[n]? with
    | some (.lst xs) => some (xs[i]?.map fun d => .tup [.int i, d])
    | _ => none
def Src.len (S : Sto) : Src → Nat
  | .fix xs => xs.length
  | .ref n => match S[n]? with
    | some (.lst xs) => xs.length
    | _ => 0
  | .enr n => match S[n]? with
    | some (.lst xs) => xs.length
    | _ => 0
structure Drv (K : PySem.W.Frag) (J : It) (src : Src) (η1 : List Addr) (H1 : Hp) : Prop where
  go : ∀ {η : List Addr} {H : Hp} {S : Sto} {i : Nat} {d : D}, Grow η1 H1 η H → StoOk K η H S → src.at S i = some (some d) → J.go i H
  yld : ∀ {η : List Addr} {H H' : Hp} {S : Sto} {i : Nat} {d : D} {x : V}, Grow η1 H1 η H → StoOk K η H S → src.at S i = some (some d) → J.yld i H x H' → Grow η H η H' ∧ StoOk K η H' S ∧ Rep K η H' d x
  stop : ∀ {η : List Addr} {H : Hp} {S : Sto} {i : Nat}, Grow η1 H1 η H → StoOk K η H S → src.at S i = some none → J.stop i H
def IterOk (τ : Nat) (X : Cx) (pins : List (Addr × Obj)) (σ : L2.St) (η : List Addr) (H : Hp) (tg : Expr) (src : Src) (S1 : Sto) (itv : Value) (s2 : Shared) : Prop :=
  τ ≤ s2.toks ∧ ∃ η1 H1 it fp tn J, itv = .ref it ∧ Inv X pins σ H1 s2 ∧ Grow η H η1 H1 ∧ StoOk X.K η1 H1 S1 ∧ Turn X.prog X.w X.K tg J fp it tn ∧ tn 0 s2.heap ∧ (∀ b ∈ fp, FpOk X pins H1 b) ∧ Drv X.K J src η1 H1
def PID (τ : Nat) (X : Cx) (tg iter : Expr) (g : Env → M Src) : Prop := ∀ (pins : List (Addr × Obj)) (s : Shared) (σ : L2.St) (H : Hp) (ρ : Env) (η : List Addr) (S : Sto) (src : Src) (S1 : Sto),
  Inv X pins σ H s → τ ≤ s.toks → SRel X.K η H σ ρ → StoOk X.K η H S → g ρ S = .ok src S1 →
  wpAny (model X.prog X.w) X.A (eval iter X.env) (fun v s1 => wpAny (model X.prog X.w) X.A (pyIter v) (IterOk τ X pins σ η H tg src S1) (fun _ _ => False) s1) (fun _ _ => False) s

/-! ### sources -/
section
variable {K : PySem.W.Frag} {η1 : List Addr} {H1 : Hp}
theorem drv_lst {a : Addr} {ds : List D} {vs : List V} (h : LstAt η1 H1 a vs) (hr : Reps K η1 H1 ds vs) : Drv K (Itl K a) (.fix ds) η1 H1 where
  go := fun {η H S i d} g st e => by
    have h' : LstAt η H a vs := ⟨g.keep _ _ h.2 h.1, g.notin h.1 h.2⟩
    obtain ⟨v, h1, _⟩ := (hr.grow g).get (Option.some.inj e)
    exact ⟨vs, v, h'.sq, h1⟩
  yld := fun {η H H' S i d x} g st e y => by
    have h' : LstAt η H a vs := ⟨g.keep _ _ h.2 h.1, g.notin h.1 h.2⟩
    obtain ⟨e1, y⟩ := y
    subst e1
    obtain ⟨v, h1, h2⟩ := (hr.grow g).get (Option.some.inj e)
    have := y vs h'.sq
    rw [h1] at this
    cases this
    exact ⟨.refl _ _, st, h2⟩
  stop := fun {η H S i} g st e => by
    have h' : LstAt η H a vs := ⟨g.keep _ _ h.2 h.1, g.notin h.1 h.2⟩
    have e : ds[i]? = none := Option.some.inj e
    exact ⟨vs, h'.sq, by rw [← hr.length]; exact List.getElem?_eq_none_iff.mp e⟩
theorem drv_tup {a : Addr} {ds : List D} {vs : List V} (h : TupAt K η1 H1 a vs) (hr : Reps K η1 H1 ds vs) : Drv K (Itt K a) (.fix ds) η1 H1 := by
  have hh : ∀ {η : List Addr} {H : Hp}, Grow η1 H1 η H → TupAt K η H a vs := fun {η H} g => by
    rcases h with h | h
    · exact .inl ⟨g.keep _ _ h.2 h.1, g.notin h.1 h.2⟩
    · exact .inr h
  refine ⟨fun {η H S i d} g st e => ?_, fun {η H H' S i d x} g st e y => ?_, fun {η H S i} g st e => ?_⟩
  · obtain ⟨v, h1, _⟩ := (hr.grow g).get (Option.some.inj e)
    exact ⟨vs, v, (hh g).sq, h1⟩
  · obtain ⟨e1, y⟩ := y
    subst e1
    obtain ⟨v, h1, h2⟩ := (hr.grow g).get (Option.some.inj e)
    have := y vs (hh g).sq
    rw [h1] at this
    cases this
    exact ⟨.refl _ _, st, h2⟩
  · have e : ds[i]? = none := Option.some.inj e
    exact ⟨vs, (hh g).sq, by rw [← hr.length]; exact List.getElem?_eq_none_iff.mp e⟩
theorem ref_look {a : Addr} {n : Nat} (h : η1[n]? = some a) {η : List Addr} {H : Hp} {S : Sto} {ds : List D} (g : Grow η1 H1 η H) (st : StoOk K η H S) (q : S[n]? = some (.lst ds)) : ∃ vs, H a = some (.lst vs) ∧ Reps K η H ds vs := by
  obtain ⟨μ, e, _⟩ := g.pre
  have h2 : η[n]? = some a := by rw [e, List.getElem?_append_left (List.getElem?_eq_some_iff.mp h).1]; exact h
  exact st.look n _ a q h2
theorem drv_ref {a : Addr} {n : Nat} (h : η1[n]? = some a) : Drv K (Itl K a) (.ref n) η1 H1 := by
  have hh : ∀ {S : Sto} {i : Nat} {o : Option D}, (Src.ref n).at S i = some o → ∃ ds, S[n]? = some (.lst ds) ∧ ds[i]? = o := fun {S i o} e => by
    cases q : S[n]? with
    | none => simp only [Src.at, q] at e; cases e
    | some oo =>
      cases oo with
      | lst ds => simp only [Src.at, q] at e; exact ⟨ds, rfl, Option.some.inj e⟩
      | dic _ => simp only [Src.at, q] at e; cases e
      | fdic _ => simp only [Src.at, q] at e; cases e
  refine ⟨fun {η H S i d} g st e => ?_, fun {η H H' S i d x} g st e y => ?_, fun {η H S i} g st e => ?_⟩
  · obtain ⟨ds, q, e⟩ := hh e
    obtain ⟨vs, h3, h4⟩ := ref_look h g st q
    obtain ⟨v, h1, _⟩ := h4.get e
    exact ⟨vs, v, SqL.of h3, h1⟩
  · obtain ⟨ds, q, e⟩ := hh e
    obtain ⟨vs, h3, h4⟩ := ref_look h g st q
    obtain ⟨e1, y⟩ := y
    subst e1
    obtain ⟨v, h1, h2⟩ := h4.get e
    have := y vs (SqL.of h3)
    rw [h1] at this
    cases this
    exact ⟨.refl _ _, st, h2⟩
  · obtain ⟨ds, q, e⟩ := hh e
    obtain ⟨vs, h3, h4⟩ := ref_look h g st q
    exact ⟨vs, SqL.of h3, by rw [← h4.length]; exact List.getElem?_eq_none_iff.mp e⟩
/-- each item in a new pair -/
theorem enu_yld {η : List Addr} {H H' : Hp} {S : Sto} {i : Nat} {d : D} {v x : V} {T : Addr} (st : StoOk K η H S) (hT : H T = none) (hH : H' = upd H T (.tup [.int (i : Nat), v])) (hx : x = .ref T) (r : Rep K η H d v) : Grow η H η H' ∧ StoOk K η H' S ∧ Rep K η H' (.tup [.int (i : Nat), d]) x := by
  subst hH hx
  have g := grow_new (u := .tup [.int (i : Nat), v]) st hT
  exact ⟨g, st.laid hT, .tup (.inl ⟨upd_same, st.fresh hT⟩) (.cons (.int _) (.cons (r.grow g) .nil))⟩
theorem drv_enr {a : Addr} {n : Nat} (h : η1[n]? = some a) : Drv K (Ite K a) (.enr n) η1 H1 := by
  have hh : ∀ {S : Sto} {i : Nat} {o : Option D}, (Src.enr n).at S i = some o → ∃ ds, S[n]? = some (.lst ds) ∧ ds[i]?.map (fun d => D.tup [.int i, d]) = o := fun {S i o} e => by
    cases q : S[n]? with
    | none => simp only [Src.at, q] at e; cases e
    | some oo =>
      cases oo with
      | lst ds => simp only [Src.at, q] at e; exact ⟨ds, rfl, Option.some.inj e⟩
      | dic _ => simp only [Src.at, q] at e; cases e
      | fdic _ => simp only [Src.at, q] at e; cases e
  refine ⟨fun {η H S i d} g st e => ?_, fun {η H H' S i d x} g st e y => ?_, fun {η H S i} g st e => ?_⟩
  · obtain ⟨ds, q, e⟩ := hh e
    obtain ⟨vs, h3, h4⟩ := ref_look h g st q
    obtain ⟨d', e', _⟩ := Option.map_eq_some_iff.mp e
    obtain ⟨v, h1, _⟩ := h4.get e'
    exact ⟨vs, v, SqL.of h3, h1⟩
  · obtain ⟨ds, q, e⟩ := hh e
    obtain ⟨vs, h3, h4⟩ := ref_look h g st q
    obtain ⟨d', e', rfl⟩ := Option.map_eq_some_iff.mp e
    obtain ⟨T, z, e1, hT, eH, y⟩ := y
    obtain ⟨v, h1, h2⟩ := h4.get e'
    have := y vs (SqL.of h3)
    rw [h1] at this
    cases this
    exact enu_yld st hT eH e1 h2
  · obtain ⟨ds, q, e⟩ := hh e
    obtain ⟨vs, h3, h4⟩ := ref_look h g st q
    exact ⟨vs, SqL.of h3, by rw [← h4.length]; exact List.getElem?_eq_none_iff.mp (Option.map_eq_none_iff.mp e)⟩
def rangeL (lo : Int) (n : Nat) : List D := (List.range n).map fun i => D.int (lo + (i : Nat))
theorem drv_rng (lo : Int) (n : Nat) : Drv K (Itr lo n) (.fix (rangeL lo n)) η1 H1 := by
  refine ⟨fun {η H S i d} g st e => ?_, fun {η H H' S i d x} g st e y => ?_, fun {η H S i} g st e => ?_⟩
  · have e : (rangeL lo n)[i]? = some d := Option.some.inj e
    have := (List.getElem?_eq_some_iff.mp e).1
    show i < n
    simpa [rangeL] using this
  · obtain ⟨e1, y⟩ := y
    subst e1
    have e : (rangeL lo n)[i]? = some d := Option.some.inj e
    have hi := (List.getElem?_eq_some_iff.mp e).1
    have hi : i < n := by simpa [rangeL] using hi
    simp [rangeL, hi] at e
    subst e
    subst y
    exact ⟨.refl _ _, st, .int _⟩
  · have e : (rangeL lo n)[i]? = none := Option.some.inj e
    have := List.getElem?_eq_none_iff.mp e
    show n ≤ i
    simpa [rangeL] using this
def signsL (x : Str) : List D := x.cps.toList.map fun c => D.str ⟨#[c]⟩
theorem drv_str (x : Str) : Drv K (Its x) (.fix (signsL x)) η1 H1 := by
  refine ⟨fun {η H S i d} g st e => ?_, fun {η H H' S i d v} g st e y => ?_, fun {η H S i} g st e => ?_⟩
  · have e : (signsL x)[i]? = some d := Option.some.inj e
    have := (List.getElem?_eq_some_iff.mp e).1
    show i < x.cps.size
    simpa [signsL] using this
  · obtain ⟨e1, c, hc, y⟩ := y
    subst e1
    have e : (signsL x)[i]? = some d := Option.some.inj e
    unfold signsL at e
    rw [List.getElem?_map, Array.getElem?_toList, hc] at e
    cases e
    subst y
    exact ⟨.refl _ _, st, .str _⟩
  · have e : (signsL x)[i]? = none := Option.some.inj e
    have := List.getElem?_eq_none_iff.mp e
    show x.cps.size ≤ i
    simpa [signsL] using this
end

def keyC : Key → D
  | .inl i => .int i
  | .inr z => .str z
theorem rep_C {K : PySem.W.Frag} {η : List Addr} {H : Hp} (k : Key) : Rep K η H (keyC k) (kV k) := by
  cases k with
  | inl i => exact .int i
  | inr z => exact .str z
theorem drv_keys {K : PySem.W.Frag} {η1 : List Addr} {H1 : Hp} {a : Addr} {o : Obj} {kvs : List (Key × V)} {kds : List (Key × D)} (h : H1 a = some (.frz o (.dK kvs))) (he : kds.map (·.1) = kvs.map (·.1)) : Drv K (Itk a o kvs) (.fix (kds.map fun p => keyC p.1)) η1 H1 := by
  have hl : kds.length = kvs.length := by simpa using congrArg List.length he
  have e2 : (kds.map fun p => keyC p.1) = kvs.map fun p => keyC p.1 := by
    have := congrArg (List.map keyC) he
    rw [List.map_map, List.map_map] at this
    exact this
  rw [e2]
  refine ⟨fun {η H S i d} g st e => ?_, fun {η H H' S i d x} g st e y => ?_, fun {η H S i} g st e => ?_⟩
  · have e : (kvs.map fun p => keyC p.1)[i]? = some d := Option.some.inj e
    have := (List.getElem?_eq_some_iff.mp e).1
    exact ⟨g.frz _ _ _ h, by simpa using this⟩
  · obtain ⟨e1, k, v, hk, y⟩ := y
    subst e1 y
    have e : (kvs.map fun p => keyC p.1)[i]? = some d := Option.some.inj e
    rw [List.getElem?_map, hk] at e
    cases e
    exact ⟨.refl _ _, st, rep_C k⟩
  · have e : (kvs.map fun p => keyC p.1)[i]? = none := Option.some.inj e
    have := List.getElem?_eq_none_iff.mp e
    exact ⟨g.frz _ _ _ h, by simpa using this⟩
def seqSrc (d : D) : M Src := fun S => match d with
  | .tup xs => .ok (.fix xs) S
  | .lst xs => .ok (.fix xs) S
  | .str x => .ok (.fix (signsL x)) S
  | .ref n => match S[n]? with
    | some (.lst _) => .ok (.ref n) S
    | some (.dic kvs) => .ok (.fix (kvs.map fun p => keyC p.1)) (S.set n (.fdic kvs))
    | some (.fdic kvs) => .ok (.fix (kvs.map fun p => keyC p.1)) S
    | _ => .bad
  | _ => .bad
section
variable {X : Cx} {tg e : Expr}
theorem it_one {pins : List (Addr × Obj)} {σ : L2.St} {H H1 : Hp} {η η1 : List Addr} {s : Shared} {src : Src} {S1 : Sto} {J : It} {tn : Nat → Heap → Prop} {tk : Nat} (I : Inv X pins σ H1 s) (htk : τ ≤ tk) (g1 : Grow η H η1 H1) (st : StoOk X.K η1 H1 S1) (o : Obj)
    (T : Turn X.prog X.w X.K tg J [s.heap.objs.size] s.heap.objs.size tn) (h0 : tn 0 (s.heap.push o)) (dr : Drv X.K J src η1 H1) : IterOk τ X pins σ η H tg src S1 (.ref s.heap.objs.size) { s with heap := s.heap.push o, toks := tk } := by
  refine ⟨htk, η1, H1, s.heap.objs.size, [s.heap.objs.size], tn, J, rfl, I.kept fun b ob e => Heap.get?_push_of_some _ e, g1, st, T, h0, fun b hb => ?_, dr⟩
  have e : b = s.heap.objs.size := by simpa using hb
  subst e
  exact I.fpOk (Nat.le_refl _) (I.hok.fresh (Nat.le_refl _))
theorem pid_seq {g : Env → M D} (h : PD τ X e g) : PID τ X tg e (fun ρ => g ρ >>= seqSrc) := by
  intro pins s σ H ρ η S src S1 I tk sr st q
  have q : (g ρ >>= seqSrc) S = .ok src S1 := q
  rw [bind_run] at q
  have key := h pins s σ H ρ η S I tk sr st
  cases q1 : g ρ S with
  | bad => rw [q1] at q; cases q
  | ok d S2 =>
    rw [q1] at q key
    refine wpAny_mono (key (fun _ _ => False)) (fun v s1 z => ?_) fun _ _ z => z
    obtain ⟨tk1, σ1, η1, H1, I1, g1, st1, e1, x, rx, rd⟩ := z
    subst e1
    cases rd with
    | tup h1 h2 =>
      cases q
      cases rx
      obtain ⟨its, rv, p, hz⟩ := I1.tuple h1.sq
      exact wpAny_pyIter_tuple (show s1.heap.IsTuple _ its.toArray from p) (it_one I1 tk1 g1 st1 _ (turn_tuple _ _) ⟨_, Heap.get?_push_size _ rfl, rfl, rfl⟩ (drv_tup h1 h2))
    | lst h1 h2 =>
      cases q
      cases rx
      obtain ⟨its, rv, p, hz⟩ := I1.list (LstAt.sq (K := X.K) h1)
      exact wpAny_pyIter_list p.isList (it_one I1 tk1 g1 st1 _ (turn_list _ _) ⟨_, Heap.get?_push_size _ rfl, rfl, rfl⟩ (drv_lst h1 h2))
    | @ref n a h1 =>
      have q : (match S2[n]? with | some (O.lst _) => R.ok (Src.ref n) S2 | some (O.dic kvs) => R.ok (Src.fix (kvs.map fun (p : Key × D) => keyC p.1)) (S2.set n (.fdic kvs)) | some (O.fdic kvs) => R.ok (Src.fix (kvs.map fun (p : Key × D) => keyC p.1)) S2 | _ => R.bad) = .ok src S1 := q
      cases rx
      cases qn : S2[n]? with
      | none => rw [qn] at q; cases q
      | some oo =>
        rw [qn] at q
        cases oo with
        | lst ds =>
          cases q
          obtain ⟨vs, ha, _⟩ := st1.look n _ a qn h1
          obtain ⟨its, rv, p, hz⟩ := I1.list (SqL.of (K := X.K) ha)
          exact wpAny_pyIter_list p.isList (it_one I1 tk1 g1 st1 _ (turn_list _ _) ⟨_, Heap.get?_push_size _ rfl, rfl, rfl⟩ (drv_ref h1))
        | dic kds =>
          cases q
          obtain ⟨vs, ha, hk⟩ := st1.look n _ a qn h1
          obtain ⟨od, I2⟩ := I1.lock ha trivial
          have nf := nofrzD ha
          have g2 := grow_set (u := .frz od (.dK vs)) st1 (List.mem_of_getElem? h1) nf
          have st2 : StoOk X.K η1 (upd H1 a (.frz od (.dK vs))) (S2.set n (.fdic kds)) := st1.setO h1 nf ⟨od, vs, upd_same, hk.grow g2⟩
          obtain ⟨hs, hgd, hx, es, ep, vs', hdt, hsz, kv, hm⟩ := I2.frzK (upd_same (a := a))
          refine iter_keys hs hgd hx hdt (it_one I2 tk1 (g1.trans g2) st2 _ (turn_keys _ hdt) ⟨_, Heap.get?_push_size _ rfl, rfl, ?_⟩ (drv_keys upd_same (repk_vals hk).2))
          rw [hsz] <;> rfl
        | fdic kds =>
          cases q
          obtain ⟨od, vs, ha, hk⟩ := st1.look n _ a qn h1
          obtain ⟨hs, hgd, hx, es, ep, vs', hdt, hsz, kv, hm⟩ := I1.frzK ha
          refine iter_keys hs hgd hx hdt (it_one I1 tk1 g1 st1 _ (turn_keys _ hdt) ⟨_, Heap.get?_push_size _ rfl, rfl, ?_⟩ (drv_keys ha (repk_vals hk).2))
          rw [hsz] <;> rfl
    | str y =>
      cases q
      obtain ⟨t, rfl⟩ := rx
      cases ha : y.cps.all (· < 128)
      · exact wpAny_pyIter_wide ha (it_one I1 tk1 g1 st1 _ (turn_str _ y t "str_iterator" (.inr rfl)) ⟨_, Heap.get?_push_size _ rfl, rfl, rfl⟩ (drv_str y))
      · exact wpAny_pyIter_ascii ha (it_one I1 tk1 g1 st1 _ (turn_str _ y t "str_ascii_iterator" (.inl rfl)) ⟨_, Heap.get?_push_size _ rfl, rfl, rfl⟩ (drv_str y))
    | _ => cases q
end
end MP

/-! MP12: range, for. -/
namespace MP
open PySem L2
/-! ### range -/
def rngSrc (ds : List D) : M Src := fun S => match ds with
  | [.int j] => if -(2 ^ 62) ≤ j ∧ j < 2 ^ 62 then .ok (.fix (rangeL 0 j.toNat)) S else .bad
  | [.int i, .int j] => if (-(2 ^ 62) ≤ i ∧ i < 2 ^ 62) ∧ -(2 ^ 62) ≤ j ∧ j < 2 ^ 62 then .ok (.fix (rangeL i (j - i).toNat)) S else .bad
  | _ => .bad
section
variable {X : Cx} {tg : Expr}
theorem rng_one {pins : List (Addr × Obj)} {σ : L2.St} {H H1 : Hp} {η η1 : List Addr} {s : Shared} {S1 : Sto} {E : Value → Shared → Prop} {lo hi : Int} {t u v : Tok} {tk : Nat} (I : Inv X pins σ H1 s) (htk : τ ≤ tk) (g1 : Grow η H η1 H1) (st : StoOk X.K η1 H1 S1) (h1 : -(2 ^ 62) ≤ lo) (h2 : lo < 2 ^ 62) (h3 : -(2 ^ 62) ≤ hi) (h4 : hi < 2 ^ 62) :
    wpAny (model X.prog X.w) X.A (pyIter (.ref s.heap.objs.size)) (IterOk τ X pins σ η H tg (.fix (rangeL lo (hi - lo).toNat)) S1) E { s with heap := s.heap.push { cls := .type "range", data := .fields #[.int lo t, .int hi u, .int 1 v] }, toks := tk } := by
  refine wpAny_pyIter_range (IsRange.new ..) (small_one h1 h2 h3 h4) ?_
  have I1 : Inv X pins σ H1 { s with heap := s.heap.push { cls := .type "range", data := .fields #[.int lo t, .int hi u, .int 1 v] }, toks := tk } := I.kept fun b o e => Heap.get?_push_of_some _ e
  refine it_one (tk := tk) I1 htk g1 st _ (turn_range _ lo (hi - lo).toNat) ?_ (drv_rng lo _)
  have e1 : lo + ((0 : Nat) : Int) * 1 = lo := by simp
  have e2 : (((hi - lo).toNat : Nat) : Int) - ((0 : Nat) : Int) = Builtin.Range.rangeSize lo hi 1 := by rw [rangeSize_one]; split <;> omega
  show IsRangeIter _ _ (lo + ((0 : Nat) : Int) * 1) ((((hi - lo).toNat : Nat) : Int) - ((0 : Nat) : Int)) 1
  rw [e1, e2]
  exact Heap.get?_push_size _ rfl
theorem pid_range {e : Expr} {es : List Expr} {gl : Env → M (List D)} {p pos : Pos} (hg : Gl X "range") (hm : X.mg "range" = none) (ha : PDL τ X (e :: es) gl) (he : starEach (e :: es) X.env = (false, eval e X.env) :: starEach es X.env) (hpl : (backTo pos (starEach es X.env)).any (·.1) = false) :
    PID τ X tg (.Call (.Name "range" p) (e :: es) [] pos) (fun ρ => gl ρ >>= rngSrc) := by
  intro pins s σ H ρ η S src S1 I tk sr st q
  have q : (gl ρ >>= rngSrc) S = .ok src S1 := q
  rw [bind_run] at q
  have key := ha pos pins s σ H ρ η S I tk sr st
  cases q1 : gl ρ S with
  | bad => rw [q1] at q; cases q
  | ok ds S2 =>
    rw [q1] at q key
    refine wpAny_Call_Name_kw (ld_blt (u := .type "range") I hg hm (by decide +kernel) (PyProof.Rows.callWith_type1 (wpAny_mono (key (fun _ _ => False)) (fun us s1 z => ?_) fun _ _ z => z) he hpl))
    obtain ⟨tk1, σ1, η1, H1, I1, g1, st1, e1, vs, rv, rd⟩ := z
    subst e1
    cases rd with
    | nil => cases q
    | cons r1 rr =>
      cases rr with
      | nil =>
        cases rv with
        | cons v1 vr =>
          cases vr
          cases r1 <;> try cases q
          rename_i j
          obtain ⟨t, rfl⟩ := v1
          have q : (if -(2 ^ 62) ≤ j ∧ j < 2 ^ 62 then R.ok (Src.fix (rangeL 0 j.toNat)) S2 else .bad) = .ok src S1 := q
          split at q
          · rename_i hj
            cases q
            have := fun (t u v : Tok) (tk : Nat) (h : τ ≤ tk) => rng_one (X := X) (tg := tg) (E := fun _ _ => False) (lo := 0) (hi := j) (t := t) (u := u) (v := v) (tk := tk) I1 h g1 st1 (by omega) (by omega) hj.1 hj.2
            simp only [Int.sub_zero] at this
            exact call_range_1 (this _ _ _ _ (Nat.le_trans tk1 (by first | exact Nat.le_refl _ | omega)))
          · cases q
      | cons r2 rr =>
        cases rr with
        | nil =>
          cases rv with
          | cons v1 vr =>
            cases vr with
            | cons v2 vr =>
              cases vr
              cases r1 <;> try cases q
              cases r2 <;> try cases q
              rename_i i j
              obtain ⟨t, rfl⟩ := v1
              obtain ⟨t', rfl⟩ := v2
              have q : (if (-(2 ^ 62) ≤ i ∧ i < 2 ^ 62) ∧ -(2 ^ 62) ≤ j ∧ j < 2 ^ 62 then R.ok (Src.fix (rangeL i (j - i).toNat)) S2 else .bad) = .ok src S1 := q
              split at q
              · rename_i hj
                cases q
                exact call_range_2 (rng_one I1 (Nat.le_trans tk1 (Nat.le_add_right _ _)) g1 st1 hj.1.1 hj.1.2 hj.2.1 hj.2.2)
              · cases q
        | cons r3 rr =>
          cases r1 <;> try cases q
          cases r2 <;> cases q

/-! ### for -/
def loopF (src : Src) (asg : D → Env → M Env) (body : Env → M Fl) : Nat → Nat → Env → M Fl
  | 0, _, _ => M.fail
  | k + 1, i, ρ => fun S => match src.at S i with
    | none => .bad
    | some none => .ok (.next ρ) S
    | some (some d) => (asg d ρ >>= fun ρ1 => body ρ1 >>= fun fl => match fl with
      | .next ρ2 => loopF src asg body k (i + 1) ρ2
      | .cont ρ2 => loopF src asg body k (i + 1) ρ2
      | .brk ρ2 => pure (.next ρ2)
      | .ret d => pure (.ret d)) S
def forF (asg : D → Env → M Env) (body : Env → M Fl) (ρ : Env) (src : Src) : M Fl := fun S => loopF src asg body (src.len S + 1) 0 ρ S
theorem psd_for {iter : Expr} {body : List Stmt} {pos : Pos} {gi : Env → M Src} {ga : D → Env → M Env} {gb : Env → M Fl} (hc : X.calm = true) (hi : PID τ X tg iter gi) (hg : PGD τ X tg ga) (hb : PSDs τ X body gb)
    (hs : ∀ x, foldedSetIterable iter X.env x = pure x) : PSD τ X (.For tg iter body [] pos) (fun ρ => gi ρ >>= forF ga gb ρ) := by
  intro pins s σ H ρ η S I tk sr st
  refine Out.never fun fl S' q => ?_
  have q : (gi ρ >>= forF ga gb ρ) S = .ok fl S' := q
  rw [bind_run] at q
  cases q1 : gi ρ S with
  | bad => rw [q1] at q; cases q
  | ok src S1 =>
    rw [q1] at q
    have q : loopF src ga gb (src.len S1 + 1) 0 ρ S1 = .ok fl S' := q
    revert q
    generalize src.len S1 + 1 = fuel
    intro q
    refine wpAny_For (wpAny_mono (hi pins s σ H ρ η S src S1 I tk sr st q1) (fun v s1 h1 => wpAny_mono h1 (fun itv s2 h2 => ?_) fun _ _ z => z.elim) fun _ _ z => z.elim) hs
    obtain ⟨tk2, η2, H2, it, fp, tn, J, e, I2, g2, st2, T, tn2, f2, dr⟩ := h2
    subst e
    have stat : ∀ {H' : Hp}, (∀ b ∈ fp, H' b = none) → ∀ b ∈ fp, FpOk X pins H' b := fun hn b hb => ⟨hn b hb, (f2 b hb).2⟩
    refine codeAny_forLoop_any (fun n s' => τ ≤ s'.toks ∧ ∃ i σ' η' H' ρ' S2, Inv X pins σ' H' s' ∧ tn i s'.heap ∧ (∀ b ∈ fp, H' b = none) ∧ Grow η2 H2 η' H' ∧ StoOk X.K η' H' S2 ∧ SRel X.K η' H' σ' ρ' ∧ loopF src ga gb n i ρ' S2 = .ok fl S') ?_ fuel ⟨tk2, 0, σ, η2, H2, ρ, S1, I2, tn2, fun b hb => (f2 b hb).1, .refl _ _, st2, sr.grow g2, q⟩
    rintro n s3 ⟨tk3, i, σ3, η3, H3, ρ3, S3, I3, tn3, fr3, g3, st3, sr3, q3⟩
    cases n with
    | zero => cases q3
    | succ k =>
      unfold loopF at q3
      rcases qa : src.at S3 i with _ | _ | d
      · rw [qa] at q3
        cases q3
      · rw [qa] at q3
        cases q3
        refine wpAny_mono (PySem.wpAny_toks (T.done X rfl rfl rfl hc i pins s3 σ3 H3 _ I3 (stat fr3) tn3 (dr.stop g3 st3 qa))) (fun r s4 z => ?_) fun _ _ z => z.2
        obtain ⟨tk4, hr, I4⟩ := z
        subst hr
        exact wpAny_execs_nil ⟨Nat.le_trans tk3 tk4, σ3, η3, H3, I4, g2.trans g3, st3, sr3⟩
      · rw [qa] at q3
        refine wpAny_mono (PySem.wpAny_toks (T.item X rfl rfl rfl hc i pins s3 σ3 H3 _ I3 (stat fr3) tn3 (dr.go g3 st3 qa))) (fun r s4 z => ?_) fun _ _ z => z.2
        obtain ⟨tk4, u, hr, h4⟩ := z
        subst hr
        refine wpAny_mono (PySem.wpAny_toks h4) (fun _ s5 z => ?_) fun _ _ z => z.2
        obtain ⟨tk5, x, H5, I5, r5, y5, tn5, fr5⟩ := z
        have tk5 : τ ≤ s5.toks := Nat.le_trans tk3 (Nat.le_trans tk4 tk5)
        obtain ⟨g5, st5, rd5⟩ := dr.yld g3 st3 qa y5
        have I5' := I5.pinned (stat fr5) (T.obj _ _ tn5)
        simp only [bind_run] at q3
        have keyA := hg _ s5 σ3 H5 ρ3 η3 S3 x u d I5' tk5 (sr3.grow g5) st5 r5 rd5
        cases qb : ga d ρ3 S3 with
        | bad => rw [qb] at q3; cases q3
        | ok ρ6 S6 =>
          rw [qb] at q3 keyA
          refine wpAny_mono (keyA _) (fun _ s6 z => ?_) fun _ _ z => z
          obtain ⟨tk6, σ6, η6, H6, I6, g6, st6, sr6⟩ := z
          have keyB := hb _ s6 σ6 H6 ρ6 η6 S6 I6 tk6 sr6 st6
          simp only [bind_run] at q3
          cases qc : gb ρ6 S6 with
          | bad => rw [qc] at q3; cases q3
          | ok fl7 S7 =>
            rw [qc] at q3 keyB
            refine wpAny_mono (keyB _) (fun f s7 z => ?_) fun _ _ z => z
            obtain ⟨tk7, σ7, η7, H7, I7, g7, st7, r7⟩ := z
            have gg : Grow η2 H2 η7 H7 := g3.trans (g5.trans (g6.trans g7))
            have again : ∀ {ρ7 : Env}, SRel X.K η7 H7 σ7 ρ7 → loopF src ga gb k (i + 1) ρ7 S7 = .ok fl S' → ∃ m, m < k + 1 ∧ τ ≤ s7.toks ∧ ∃ i σ' η' H' ρ' S2, Inv X pins σ' H' s7 ∧ tn i s7.heap ∧ (∀ b ∈ fp, H' b = none) ∧ Grow η2 H2 η' H' ∧ StoOk X.K η' H' S2 ∧ SRel X.K η' H' σ' ρ' ∧ loopF src ga gb m i ρ' S2 = .ok fl S' := fun {ρ7} sr7 q7 => by
              refine ⟨k, Nat.lt_succ_self _, tk7, i + 1, σ7, η7, H7, ρ7, S7, I7.unpinned, T.keep _ _ _ tn5 fun b hb o e => (I7.pin (b, o) (List.mem_append_right _ (List.mem_append_right _ (mem_pinsAt hb e)))).1, fun b hb => ?_, gg, st7, sr7, q7⟩
              obtain ⟨o, e, d⟩ := T.obj _ _ tn5 b hb
              exact (I7.pin (b, o) (List.mem_append_right _ (List.mem_append_right _ (mem_pinsAt hb e)))).2.1
            cases fl7 with
            | next ρ7 =>
              cases f with
              | next => exact again r7 q3
              | _ => exact r7.elim
            | cont ρ7 =>
              cases f with
              | cont => exact again r7 q3
              | _ => exact r7.elim
            | brk ρ7 =>
              cases f with
              | brk =>
                cases q3
                exact ⟨tk7, σ7, η7, H7, I7.unpinned, g2.trans gg, st7, r7⟩
              | _ => exact r7.elim
            | ret d7 =>
              cases f with
              | ret u7 =>
                cases q3
                exact ⟨tk7, σ7, η7, H7, I7.unpinned, g2.trans gg, st7, r7⟩
              | _ => exact r7.elim
end
/-! ### the loop over a fixed list, as a recursion -/
def forL (asg : D → Env → M Env) (body : Env → M Fl) : List D → Env → M Fl
  | [], ρ => pure (.next ρ)
  | d :: ds, ρ => asg d ρ >>= fun ρ1 => body ρ1 >>= fun fl => match fl with
    | .next ρ2 => forL asg body ds ρ2
    | .cont ρ2 => forL asg body ds ρ2
    | .brk ρ2 => pure (.next ρ2)
    | .ret d => pure (.ret d)
theorem loopF_fix (asg : D → Env → M Env) (body : Env → M Fl) (xs : List D) : ∀ (k i : Nat) (ρ : Env), i ≤ xs.length → xs.length < i + k → loopF (.fix xs) asg body k i ρ = forL asg body (xs.drop i) ρ
  | 0, i, ρ, h0, h => by omega
  | k + 1, i, ρ, h0, h => by
    funext S
    unfold loopF
    show (match (some xs[i]? : Option (Option D)) with | none => _ | some none => _ | some (some d) => _) = _
    by_cases hi : i < xs.length
    · rw [List.getElem?_eq_getElem hi, List.drop_eq_getElem_cons hi]
      simp only [forL, fun ρ2 => loopF_fix asg body xs k (i + 1) ρ2 (by omega) (by omega)]
    · rw [List.getElem?_eq_none (by omega), List.drop_eq_nil_of_le (by omega)]
      rfl
theorem forF_fix (asg : D → Env → M Env) (body : Env → M Fl) (xs : List D) (ρ : Env) : forF asg body ρ (.fix xs) = forL asg body xs ρ := by
  funext S
  unfold forF
  rw [loopF_fix asg body xs _ _ _ (by omega) (by simp [Src.len])]
  rfl
end MP

/-! MP13: list comprehensions. -/
namespace MP
open PySem L2
/-! ### tests of a clause -/
def PTD (τ : Nat) (X : Cx) (ifs : List Expr) (g : Env → M Bool) : Prop := ∀ (pins : List (Addr × Obj)) (s : Shared) (σ : L2.St) (H : Hp) (ρ : Env) (η : List Addr) (S : Sto),
  Inv X pins σ H s → τ ≤ s.toks → SRel X.K η H σ ρ → StoOk X.K η H S → Out τ X pins η H (relB σ) (g ρ S) (sem X (forIn ifs true fun c r => if r = true then do let ok ← isTrue c X.env (eval c X.env); pure (ForInStep.yield ok) else pure (ForInStep.yield r))) s
theorem ptd_nil {X : Cx} : PTD τ X [] (fun _ => pure true) := fun pins s σ H ρ η S I tk sr st E => wpAny_tests_nil ⟨tk, σ, η, H, I, .refl _ _, st, rfl, rfl⟩
theorem ptd_one {X : Cx} {c : Expr} {g : Env → M Bool} (h : PDB τ X c g) : PTD τ X [c] g := fun pins s σ H ρ η S I tk sr st => by
  have := h pins s σ H ρ η S I tk sr st
  cases q : g ρ S with
  | bad => exact trivial
  | ok b S1 =>
    rw [q] at this
    exact fun E => wpAny_tests_one (this E)
def wipeE (ρ : Env) : List Nat → Env
  | [] => ρ
  | v :: vs => (wipeE ρ vs).set v none
theorem wipeE_length (ρ : Env) : ∀ vs : List Nat, (wipeE ρ vs).length = ρ.length
  | [] => rfl
  | v :: vs => by unfold wipeE; rw [List.length_set, wipeE_length ρ vs]
theorem wipeE_some {ρ : Env} {i : Nat} {d : D} : ∀ {vs : List Nat}, (wipeE ρ vs)[i]? = some (some d) → ρ[i]? = some (some d) ∧ i ∉ vs
  | [], h => ⟨h, by simp⟩
  | v :: vs, h => by
    unfold wipeE at h
    by_cases hi : v = i
    · subst hi
      by_cases hv : v < (wipeE ρ vs).length
      · rw [List.getElem?_set_self hv] at h; cases h
      · rw [List.getElem?_eq_none (by rw [List.length_set]; omega)] at h; cases h
    · rw [List.getElem?_set_ne hi] at h
      obtain ⟨h1, h2⟩ := wipeE_some h
      exact ⟨h1, fun m => by exact (List.mem_cons.mp m).elim (fun z => hi z.symm) h2⟩
theorem wipeE_set (ρ : Env) (v : Nat) : ∀ vs : List Nat, wipeE (ρ.set v none) vs = (wipeE ρ vs).set v none
  | [] => rfl
  | w :: vs => by
    unfold wipeE
    rw [wipeE_set ρ v vs]
    by_cases h : v = w
    · subst h; rfl
    · exact List.set_comm none none h
theorem wipeE_idem (ρ : Env) : ∀ vs : List Nat, wipeE (wipeE ρ vs) vs = wipeE ρ vs
  | [] => rfl
  | w :: vs => by
    show (wipeE ((wipeE ρ vs).set w none) vs).set w none = (wipeE ρ vs).set w none
    rw [wipeE_set, wipeE_idem ρ vs]
    simp
section
variable {K : PySem.W.Frag} {η : List Addr} {H : Hp} {σ : L2.St} {ρ : Env}
theorem SRel.wipe (h : SRel K η H σ ρ) (vs : List Nat) : SRel K η H (L2.wipe σ vs) (wipeE ρ vs) := by
  refine ⟨by rw [wipe_length, wipeE_length, h.len], fun i d e => ?_⟩
  obtain ⟨e1, e2⟩ := wipeE_some e
  obtain ⟨v, h1, h2⟩ := h.look i d e1
  exact ⟨v, by rw [wipe_out e2]; exact h1, h2⟩
theorem SRel.wipeR (h : SRel K η H σ ρ) (vs : List Nat) : SRel K η H σ (wipeE ρ vs) := by
  refine ⟨by rw [wipeE_length, h.len], fun i d e => h.look i d (wipeE_some e).1⟩
end
def lcF (src : Src) (ga : D → Env → M Env) (gt : Env → M Bool) (ge : Env → M D) (ρw : Env) : Nat → Nat → List D → M (List D)
  | 0, _, _ => M.fail
  | k + 1, i, acc => fun S => match src.at S i with
    | none => .bad
    | some none => .ok acc S
    | some (some d) => (ga d ρw >>= fun ρ1 => gt ρ1 >>= fun b => if b = true then ge ρ1 >>= fun y => if acc.length < SL then lcF src ga gt ge ρw k (i + 1) (acc ++ [y]) else M.fail else lcF src ga gt ge ρw k (i + 1) acc) S
def lcS (m : Bool) (ga : D → Env → M Env) (gt : Env → M Bool) (ge : Env → M D) (ρw : Env) (src : Src) : M D := fun S => (lcF src ga gt ge ρw (src.len S + 1) 0 [] >>= fun acc => newL m acc) S
theorem thnG {α : Type} {t : Sem α} {Q Q' : α → Shared → Prop} {M : Model} {A : Around} {P : Shared → Prop} {E : Value → Shared → Prop} {s : Shared} (h : wpAny M A t Q (fun _ s => P s ∧ False) s) (hQ : ∀ a s, Q a s → Q' a s) : wpAny M A t Q' E s := wpAny_mono h hQ fun _ _ z => False.elim z.2
def LRec (h : Heap) (D : Addr) (its : List Value) : Prop := ∃ n, h.get? D = some { cls := .type "list", dict := none, data := .seq its.toArray n, slots := #[] }
section
variable {X : Cx}
theorem lcd_core {pins : List (Addr × Obj)} {s : Shared} {σ : L2.St} {H : Hp} {ρ : Env} {η : List Addr} {S S' : Sto} {d : D} {elt tg iter : Expr} {ifs : List Expr} {scope : Scope} {own : List (Str × Nat)} {pos pos' : Pos} {m : Bool} {gi : Env → M Src} {ga : D → Env → M Env} {gt : Env → M Bool} {ge : Env → M D} {use : Option (Value → Sem Unit)} {Qf E : Value → Shared → Prop}
    (hc : X.calm = true) (hN : X.N.Nodup) (I : Inv X pins σ H s) (tk : τ ≤ s.toks) (sr : SRel X.K η H σ ρ) (st : StoOk X.K η H S) (hi : PID τ X tg iter gi) (ok : BlkOk X.N X.env.scope scope own)
    (hg : ∀ (s : Shared) (H : Hp) (C : Addr) (cl : List (Str × Addr)) (fp : List Addr), PGD τ (X.blk s H scope (compEnvC scope cl C X.env) fp) tg ga)
    (hw : ∀ d ρ S ρ' S', ga d ρ S = .ok ρ' S' → wipeE ρ' (own.map (·.2)) = wipeE ρ (own.map (·.2)))
    (ht : ∀ (s : Shared) (H : Hp) (C : Addr) (cl : List (Str × Addr)) (fp : List Addr), PTD τ (X.blk s H scope (compEnvC scope cl C X.env) fp) ifs gt)
    (he : ∀ (s : Shared) (H : Hp) (C : Addr) (cl : List (Str × Addr)) (fp : List Addr), PD τ (X.blk s H scope (compEnvC scope cl C X.env) fp) elt ge) (hs : ∀ x, foldedSetIterable iter X.env x = pure x)
    (q : (gi ρ >>= lcS m ga gt ge (wipeE ρ (own.map (·.2)))) S = .ok d S')
    (hRR : ∀ L C s' mm η' H', Inv X pins σ H' s' → τ ≤ s'.toks → Grow η H η' H' → StoOk X.K η' H' S' → Rep X.K η' H' d (.ref L) → s'.heap.Ns C mm → FpOk X pins H' C → compPost (model X.prog X.w) X.A E use Qf (.ref L) C (.ok .next) s') :
    wpAny (model X.prog X.w) X.A (comprehension (.ListComp elt [⟨tg, iter, ifs, 0⟩] scope pos) scope X.env pos' (newList []) false (eval iter X.env) use) Qf E s := by
  have hfree : ∀ y ∈ scope.names, y.2 = .free → ∃ c, X.env.cells.lookup y.1 = some c := fun y hy e => by
    rcases ok.free y hy e with k | k
    · exact I.ok.has _ (.inl k)
    · exact I.ok.has _ (.inr k)
  rw [bind_run] at q
  cases q1 : gi ρ S with
  | bad => rw [q1] at q; cases q
  | ok src S1 =>
    rw [q1] at q
    have q : (lcF src ga gt ge (wipeE ρ (own.map (·.2))) (src.len S1 + 1) 0 [] >>= fun acc => newL m acc) S1 = .ok d S' := q
    revert q
    generalize src.len S1 + 1 = fuel
    intro q
    refine wpAny_comprehension_free (use := use) rfl hs (closure_ok hfree) ok.kind (fun y hy e => by rw [ok.uniq y hy, e])
      (wpAny_mono (hi pins s σ H ρ η S src S1 I tk sr st q1) (fun xv s1 hx => wpAny_mono hx (fun itv s2 h2 => ?_) fun _ _ z => z.elim) fun _ _ z => z.elim)
    obtain ⟨tk2, η2, H2, it, fp, tn, J, e, I2, g2, st2, T, tn2, f2, dr⟩ := h2
    subst e
    refine wpAny_newObj_type (newEnv_comp ?_) (by show 0 ≤ sizeLine; decide)
    generalize hD : s2.heap.objs.size = L
    have hDn : H2 L = none := I2.hok.fresh (Nat.le_of_eq hD)
    generalize hs3 : ({ s2 with heap := s2.heap.push { cls := .type "list", data := .seq ([] : List Value).toArray } } : Shared) = s3
    have tk3 : τ ≤ s3.toks := by rw [← hs3]; exact tk2
    have I3 : Inv X pins σ H2 s3 := by
      rw [← hs3]
      exact I2.kept (t' := s2.toks) (fun b o e => Heap.get?_push_of_some _ e)
    have h3 : s3.heap = s2.heap.push { cls := .type "list", data := .seq ([] : List Value).toArray } := by rw [← hs3]
    have rec3 : LRec s3.heap L [] := ⟨0, by rw [h3, ← hD]; exact Heap.get?_push_size _ rfl⟩
    have sz : ∀ b ∈ fp, b < s2.heap.objs.size := fun b hb => by
      obtain ⟨o, e, _⟩ := T.obj _ _ tn2 b hb
      exact Heap.lt_size e
    have f3 : ∀ b ∈ fp ++ [L], FpOk X pins H2 b ∧ b < s3.heap.objs.size := fun b hb => by
      rcases List.mem_append.mp hb with hb | hb
      · exact ⟨f2 b hb, by rw [h3, Heap.size_push]; exact Nat.lt_succ_of_lt (sz b hb)⟩
      · have e : b = L := by simpa using hb
        subst e
        exact ⟨I2.fpOk (Nat.le_of_eq hD) hDn, by rw [h3, Heap.size_push, hD]; exact Nat.lt_succ_self _⟩
    have hLfp : L ∉ fp := fun hb => by have := sz L hb; rw [hD] at this; exact Nat.lt_irrefl _ this
    have tn3 : tn 0 s3.heap := T.keep _ _ _ tn2 fun b _ o e => by rw [h3]; exact Heap.get?_push_of_some _ e
    have I4 := block_start I3 ok hN f3
    have pg := hg s3 H2 s3.heap.objs.size (cellsFrom (s3.heap.objs.size + 1) scope.names (cloFrom X.env.cells scope.names [])) (fp ++ [L])
    have pt := ht s3 H2 s3.heap.objs.size (cellsFrom (s3.heap.objs.size + 1) scope.names (cloFrom X.env.cells scope.names [])) (fp ++ [L])
    have pe := he s3 H2 s3.heap.objs.size (cellsFrom (s3.heap.objs.size + 1) scope.names (cloFrom X.env.cells scope.names [])) (fp ++ [L])
    show codeAny _ _ (.compStart (.ListComp elt [⟨tg, iter, ifs, 0⟩] scope pos) 0 (.ref it) (.ref L) (compEnvC scope (cellsFrom (s3.heap.objs.size + 1) scope.names (cloFrom X.env.cells scope.names [])) s3.heap.objs.size X.env)) (compPost (model X.prog X.w) X.A E use Qf (.ref L) s3.heap.objs.size) { s3 with heap := pushCells (s3.heap.push { cls := .type "dict", data := .dict #[] }) scope.names }
    generalize hce : compEnvC scope (cellsFrom (s3.heap.objs.size + 1) scope.names (cloFrom X.env.cells scope.names [])) s3.heap.objs.size X.env = ce at I4 pg pt pe ⊢
    have cL : ce.locals = s3.heap.objs.size := by subst hce; rfl
    generalize hs4 : ({ s3 with heap := pushCells (s3.heap.push { cls := .type "dict", data := .dict #[] }) scope.names } : Shared) = s4 at I4 ⊢
    have k4 : ∀ b o, s3.heap.get? b = some o → s4.heap.get? b = some o := fun b o e => by rw [← hs4]; exact pushCells_keeps _ _ _ _ (Heap.get?_push_of_some _ e)
    have tk4 : τ ≤ s4.toks := by rw [← hs4]; exact tk3
    have tn4 : tn 0 s4.heap := T.keep _ _ _ tn3 fun b _ o e => k4 b o e
    have rec4 : LRec s4.heap L [] := let ⟨n, e⟩ := rec3; ⟨n, k4 _ _ e⟩
    generalize hfs : fp ++ [L] = fq at I4 pg pt pe f3
    have inq : ∀ {b}, b ∈ fp → b ∈ fq := fun hb => by rw [← hfs]; exact List.mem_append_left _ hb
    have inL : L ∈ fq := by rw [← hfs]; exact List.mem_append_right _ (by simp)
    have inv : ∀ {b}, b ∈ fq → b ∈ fp ∨ b = L := fun {b} hb => by
      rw [← hfs] at hb
      rcases List.mem_append.mp hb with hb | hb
      · exact .inl hb
      · exact .inr (by simpa using hb)
    have stat : ∀ {σ' : L2.St} {H' : Hp} {s' : Shared}, Inv (X.blk s3 H2 scope ce fq) [] σ' H' s' → (∀ b ∈ fq, H' b = none) → ∀ b ∈ fq, FpOk (X.blk s3 H2 scope ce fq) [] H' b := fun {σ' H' s'} I' hn b hb =>
      ⟨hn b hb, (I'.ok.exf b hb).1, I'.ok.exfs b hb, .inl hb, fun x c e => (I'.ok.exf b hb).2 x c e, fun p hp => absurd (show p ∈ ([] : List (Addr × Obj)) ++ [] from hp) (by simp)⟩
    have loop : codeAny (model X.prog X.w) X.A (.compLoop (.ListComp elt [⟨tg, iter, ifs, 0⟩] scope pos) 0 (.ref it) (.ref L) ce) (compPost (model X.prog X.w) X.A E use Qf (.ref L) s3.heap.objs.size) s4 := by
      refine compLoop_any (fun n s' => τ ≤ s'.toks ∧ ∃ i σ' η' H' S2 acc vs its, Inv (X.blk s3 H2 scope ce fq) [] σ' H' s' ∧ tn i s'.heap ∧ (∀ b ∈ fq, H' b = none) ∧ Grow η2 H2 η' H' ∧ StoOk X.K η' H' S2 ∧ SRel X.K η' H' σ' (wipeE ρ (own.map (·.2))) ∧ LRec s'.heap L its ∧ Vals vs its ∧ Reps X.K η' H' acc vs ∧ acc.length ≤ SL ∧
        (lcF src ga gt ge (wipeE ρ (own.map (·.2))) n i acc >>= fun acc => newL m acc) S2 = .ok d S') ?_ fuel ⟨tk4, 0, _, η2, H2, S1, [], [], [], I4, tn4, fun b hb => (f3 b hb).1.1, .refl _ _, st2, (sr.grow g2).wipe _, rec4, .nil, .nil, Nat.zero_le _, q⟩
      rintro n s5 ⟨tk5, i, σ5, η5, H5, S5, acc, vs, its, I5, tn5, n5, g5, st5, sr5, rec5, rv5, rd5, ln5, q5⟩
      -- the new list's record is pinned through the turn
      have obj5 : ∀ b ∈ [L], ∃ o, s5.heap.get? b = some o ∧ ∀ v, o.data ≠ .cell v := fun b hb => by
        have e : b = L := by simpa using hb
        subst e
        obtain ⟨n, e⟩ := rec5
        exact ⟨_, e, fun v h => by cases h⟩
      have Ip5 := I5.pinned (fp := [L]) (fun b hb => by
        have e : b = L := by simpa using hb
        subst e
        exact stat I5 n5 b inL) obj5
      have fp5 : ∀ b ∈ fp, FpOk (X.blk s3 H2 scope ce fq) ([] ++ pinsAt [L] s5.heap) H5 b := fun b hb => by
        obtain ⟨a1, a2, a3, a4, a5, a6⟩ := stat I5 n5 b (inq hb)
        refine ⟨a1, a2, a3, a4, a5, fun p hp => ?_⟩
        have hp : p ∈ pinsAt [L] s5.heap := by simpa using hp
        have : p.1 = L := by simpa using (of_pinsAt hp).1
        rw [this]
        exact fun z => hLfp (by rw [z]; exact hb)
      have recOf : ∀ {s' : Shared} {σ' : L2.St} {H' : Hp}, Inv (X.blk s3 H2 scope ce fq) ([] ++ pinsAt [L] s5.heap) σ' H' s' → LRec s'.heap L its := fun {s' σ' H'} I' => by
        obtain ⟨n, e⟩ := rec5
        exact ⟨n, (I'.pin (L, _) (List.mem_append_right _ (List.mem_append_right _ (mem_pinsAt (by simp) e)))).1⟩
      have noneOf : ∀ {s' : Shared} {σ' : L2.St} {H' : Hp}, Inv (X.blk s3 H2 scope ce fq) ([] ++ pinsAt [L] s5.heap) σ' H' s' → H' L = none := fun {s' σ' H'} I' => by
        obtain ⟨n, e⟩ := rec5
        exact (I'.pin (L, _) (List.mem_append_right _ (List.mem_append_right _ (mem_pinsAt (by simp) e)))).2.1
      cases n with
      | zero => cases q5
      | succ k =>
        rw [bind_run] at q5
        unfold lcF at q5
        rcases qa : src.at S5 i with _ | _ | d5
        · rw [qa] at q5
          cases q5
        · rw [qa] at q5
          have q5 : newL m acc S5 = .ok d S' := q5
          refine thnG (PySem.wpAny_toks (T.done (X.blk s3 H2 scope ce fq) rfl rfl rfl hc i _ s5 _ H5 (fun _ _ => False) Ip5 fp5 tn5 (dr.stop g5 st5 qa))) fun r s6 z => ?_
          obtain ⟨tk6, hr, I6⟩ := z
          subst hr
          have rec6 := recOf I6
          have hL5 : H5 L = none := n5 L inL
          obtain ⟨nn, e6⟩ := rec6
          have hokD : HOk X.prog X.w (upd H5 L (.lst vs)) s6.heap := fun b u e => by
            by_cases hb : b = L
            · subst hb
              rw [upd_same] at e
              cases e
              exact ⟨sl_le (by rw [← rd5.length]; exact ln5), its, nn, rv5, e6⟩
            · rw [upd_ne hb] at e
              exact (I6.hok b u e).stay (fun c v _ q => q) (fun c q => by rw [upd_ne (ne_of_none q hL5)]; exact q) fun c xs q => by rw [upd_ne (ne_of_none q hL5)]; exact q
          have unD : Un (frs X.stack) fq H2 (upd H5 L (.lst vs)) s3.heap s6.heap :=
            { keep := I6.base.keep
              slot := I6.base.slot
              free := fun b o e n hx => by rw [upd_ne (fun z => hx (by rw [z]; exact inL))]; exact I6.base.free b o e n hx
              there := I6.base.there
              tups := fun b xs e => by rw [upd_ne (ne_of_none (I6.base.tups b xs e) hL5)]; exact I6.base.tups b xs e
              frzs := fun b o u e => by rw [upd_ne (ne_of_none (I6.base.frzs b o u e) hL5)]; exact I6.base.frzs b o u e
              tbls := fun b ps e => by
                obtain ⟨mo, z⟩ := I6.base.tbls b ps e
                exact ⟨mo, by rw [upd_ne (ne_of_none z hL5)]; exact z⟩ }
          have I7 : Inv X pins σ (upd H5 L (.lst vs)) s6 := I3.call' (ch := fq) I6.os unD hokD I6.bare fun b hb => ⟨(f3 b hb).1.2.2.2.1, (f3 b hb).1.2.1, (f3 b hb).1.2.2.2.2.1, (f3 b hb).1.2.2.2.2.2⟩
          obtain ⟨η7, g7, st7, r7⟩ := good_newL st5 rd5 hL5 q5
          have nC : (upd H5 L (.lst vs)) s3.heap.objs.size = none := by
            have z : H5 ce.locals = none := I6.free
            rw [cL] at z
            rw [upd_ne (fun e => by have := (f3 L inL).2; rw [e] at this; exact Nat.lt_irrefl _ this)]
            exact z
          obtain ⟨mm, hn, _⟩ := I6.loc
          have hn : s6.heap.Ns ce.locals mm := hn
          rw [cL] at hn
          exact hRR L s3.heap.objs.size s6 mm η7 _ I7 (Nat.le_trans tk5 tk6) (g2.trans (g5.trans g7)) st7 r7 hn (I3.fpOk (Nat.le_refl _) nC)
        · rw [qa] at q5
          refine thnG (PySem.wpAny_toks (T.item (X.blk s3 H2 scope ce fq) rfl rfl rfl hc i _ s5 _ H5 (fun _ _ => False) Ip5 fp5 tn5 (dr.go g5 st5 qa))) fun r s6 z => ?_
          obtain ⟨tk6, u, hr, h6⟩ := z
          subst hr
          refine thnG (PySem.wpAny_toks h6) fun _ s7 z => ?_
          obtain ⟨tk7, x, H7, I7, r7, y7, tn7, n7⟩ := z
          have tk7 : τ ≤ s7.toks := Nat.le_trans tk5 (Nat.le_trans tk6 tk7)
          obtain ⟨g7, st7, rd7⟩ := dr.yld g5 st5 qa y7
          have rec7 := recOf I7
          have nL7 : H7 L = none := noneOf I7
          have n7q : ∀ b ∈ fq, H7 b = none := fun b hb => by
            rcases inv hb with hb | rfl
            · exact n7 b hb
            · exact nL7
          have I7u := (I7.unpinned (pins := []))
          have obj7 : ∀ b ∈ fq, ∃ o, s7.heap.get? b = some o ∧ ∀ v, o.data ≠ .cell v := fun b hb => by
            rcases inv hb with hb | rfl
            · exact T.obj _ _ tn7 b hb
            · obtain ⟨n, e⟩ := rec7
              exact ⟨_, e, fun v h => by cases h⟩
          have I7' := I7u.pinned (stat I7u n7q) obj7
          simp only [bind_run] at q5
          have keyA := pg _ s7 σ5 H7 (wipeE ρ (own.map (·.2))) η5 S5 x u d5 I7' tk7 (sr5.grow g7) st7 r7 rd7
          cases qb : ga d5 (wipeE ρ (own.map (·.2))) S5 with
          | bad => rw [qb] at q5; cases q5
          | ok ρ8 S8 =>
            have hw8 := hw _ _ _ _ _ qb
            rw [qb] at q5 keyA
            refine wpAny_mono (keyA _) (fun _ s8 z => ?_) fun _ _ z => z
            obtain ⟨tk8, σ8, η8, H8, I8, g8, st8, sr8⟩ := z
            have keyT := pt _ s8 σ8 H8 ρ8 η8 S8 I8 tk8 sr8 st8
            simp only [bind_run] at q5
            cases qt : gt ρ8 S8 with
            | bad => rw [qt] at q5; cases q5
            | ok b S9 =>
              rw [qt] at q5 keyT
              refine wpAny_mono (keyT _) (fun b9 s9 z => ?_) fun _ _ z => z
              obtain ⟨tk9, σ9, η9, H9, I9, g9, st9, e9, eb⟩ := z
              subst e9 eb
              have sr9 : ∀ {η' : List Addr} {H' : Hp}, Grow η8 H8 η' H' → SRel X.K η' H' σ9 (wipeE ρ (own.map (·.2))) := fun g => by
                have := (sr8.grow g).wipeR (own.map (·.2))
                rw [hw8, wipeE_idem] at this
                exact this
              have pin' : ∀ {s' : Shared} {σ' : L2.St} {H' : Hp}, Inv (X.blk s3 H2 scope ce fq) ([] ++ pinsAt fq s7.heap) σ' H' s' → ∀ b ∈ fq, ∀ o, s7.heap.get? b = some o → s'.heap.get? b = some o ∧ H' b = none := fun {s' σ' H'} I' b hb o e =>
                let z := I'.pin (b, o) (List.mem_append_right _ (List.mem_append_right _ (mem_pinsAt hb e)))
                ⟨z.1, z.2.1⟩
              cases b with
              | false =>
                simp only [Bool.false_eq_true, if_false] at q5 ⊢
                refine ⟨k, Nat.lt_succ_self _, tk9, i + 1, σ9, η9, H9, S9, acc, vs, its, I9.unpinned (pins := []), T.keep _ _ _ tn7 fun b hb o e => (pin' I9 b (inq hb) o e).1, fun b hb => ?_, g5.trans (g7.trans (g8.trans g9)), st9, sr9 g9, ?_, rv5, rd5.grow (g7.trans (g8.trans g9)), ln5, ?_⟩
                · obtain ⟨o, e, _⟩ := obj7 b hb
                  exact (pin' I9 b hb o e).2
                · obtain ⟨n, e⟩ := rec7
                  exact ⟨n, (pin' I9 L inL _ e).1⟩
                · rw [bind_run]; exact q5
              | true =>
                simp only [if_true] at q5 ⊢
                have keyE := pe _ s9 σ9 H9 ρ8 η9 S9 I9 tk9 (sr8.grow g9) st9
                simp only [bind_run] at q5
                cases qe : ge ρ8 S9 with
                | bad => rw [qe] at q5; cases q5
                | ok y S10 =>
                  rw [qe] at q5 keyE
                  refine wpAny_mono (keyE _) (fun z10 s10 z => ?_) fun _ _ z => z
                  obtain ⟨tk10, σ10, η10, H10, I10, g10, st10, e10, yv, ry, rdy⟩ := z
                  subst e10
                  obtain ⟨n7r, e7⟩ := rec7
                  have eL := pin' I10 L inL _ e7
                  by_cases hln : acc.length < SL
                  · simp only [hln, if_true] at q5
                    have hlv : its.length = acc.length := by rw [rd5.length, rv5.length]
                    refine PyProof.Rows.append_at (hsz := by rw [List.size_toArray, hlv]; exact Nat.le_of_lt (sl_lt hln)) eL.1 fun h' sb ho' => ?_
                    have I10u := I10.unpinned (pins := [])
                    have n10 : ∀ b ∈ fq, H10 b = none := fun b hb => by
                      obtain ⟨o, e, _⟩ := obj7 b hb
                      exact (pin' I10 b hb o e).2
                    obtain ⟨f0, f1, f2', f3', f4, f5⟩ := stat I10u n10 L inL
                    have I11 := I10u.turned (t' := s10.toks) (fun b o hb e => (sb.2 b hb).trans e) f0 f1 f3' f4 f5
                    refine ⟨k, Nat.lt_succ_self _, tk10, i + 1, _, η10, H10, S10, acc ++ [y], vs ++ [yv], its ++ [z10], I11, T.keep _ _ _ tn7 fun b hb o e => ?_, n10, g5.trans (g7.trans (g8.trans (g9.trans g10))), st10, sr9 (g9.trans g10), ⟨n7r + 1, ?_⟩, rv5.append (.cons ry .nil), (rd5.grow (g7.trans (g8.trans (g9.trans g10)))).append (.cons rdy .nil), by rw [List.length_append]; exact hln, ?_⟩
                    · exact (sb.2 b (fun z => hLfp (by rw [← z]; exact hb))).trans (pin' I10 b (inq hb) o e).1
                    · rw [ho']; simp
                    · rw [bind_run]; exact q5
                  · simp only [hln, if_false] at q5
                    cases q5
    exact codeAny_compStart_list loop (T.self X.A 0 _ _ _ tn4 loop)
/-- as a value -/
theorem pd_lc {elt tg iter : Expr} {ifs : List Expr} {scope : Scope} {own : List (Str × Nat)} {pos : Pos} {m : Bool} {gi : Env → M Src} {ga : D → Env → M Env} {gt : Env → M Bool} {ge : Env → M D} (hc : X.calm = true) (hN : X.N.Nodup) (hi : PID τ X tg iter gi) (ok : BlkOk X.N X.env.scope scope own)
    (hg : ∀ (s : Shared) (H : Hp) (C : Addr) (cl : List (Str × Addr)) (fp : List Addr), PGD τ (X.blk s H scope (compEnvC scope cl C X.env) fp) tg ga)
    (hw : ∀ d ρ S ρ' S', ga d ρ S = .ok ρ' S' → wipeE ρ' (own.map (·.2)) = wipeE ρ (own.map (·.2)))
    (ht : ∀ (s : Shared) (H : Hp) (C : Addr) (cl : List (Str × Addr)) (fp : List Addr), PTD τ (X.blk s H scope (compEnvC scope cl C X.env) fp) ifs gt)
    (he : ∀ (s : Shared) (H : Hp) (C : Addr) (cl : List (Str × Addr)) (fp : List Addr), PD τ (X.blk s H scope (compEnvC scope cl C X.env) fp) elt ge) (hs : ∀ x, foldedSetIterable iter X.env x = pure x) :
    PD τ X (.ListComp elt [⟨tg, iter, ifs, 0⟩] scope pos) (fun ρ => gi ρ >>= lcS m ga gt ge (wipeE ρ (own.map (·.2)))) := by
  intro pins s σ H ρ η S I tk sr st
  refine Out.never fun d S' q => ?_
  have q : (gi ρ >>= lcS m ga gt ge (wipeE ρ (own.map (·.2)))) S = .ok d S' := q
  generalize (fun (_ : Value) (_ : Shared) => False) = E
  show wpAny _ _ (eval _ _) _ _ _
  · rw [eval_ListComp]
    refine lcd_core hc hN I tk sr st hi ok hg hw ht he hs q fun L C s' mm η' H' I' tk' g' st' r' hn f => ⟨mm, hn, fun h'' sb => ?_⟩
    obtain ⟨f0, f1, f2, f3, f4, f5⟩ := f
    exact ⟨tk', σ, η', H', I'.turned (t' := s'.toks) (fun b o hb e => (sb.2 b hb).trans e) f0 f1 f3 f4 f5, g', st', rfl, V.ref L, rfl, r'⟩
/-- name = [..] on one line, the name a local -/
theorem psd_setLc {i : Nat} {y : Str} {py : Pos} {elt tg iter : Expr} {ifs : List Expr} {scope : Scope} {own : List (Str × Nat)} {pos spos : Pos} {m : Bool} {gi : Env → M Src} {ga : D → Env → M Env} {gt : Env → M Bool} {ge : Env → M D} (hc : X.calm = true) (hN : X.N.Nodup) (hy : X.N[i]? = some y) (hyl : X.env.scope.names.lookup y = some .local)
    (hsw : swapsWith (.ListComp elt [⟨tg, iter, ifs, 0⟩] scope pos) (some (.Name y py)) spos.line X.env = pure true) (hi : PID τ X tg iter gi) (ok : BlkOk X.N X.env.scope scope own)
    (hg : ∀ (s : Shared) (H : Hp) (C : Addr) (cl : List (Str × Addr)) (fp : List Addr), PGD τ (X.blk s H scope (compEnvC scope cl C X.env) fp) tg ga)
    (hw : ∀ d ρ S ρ' S', ga d ρ S = .ok ρ' S' → wipeE ρ' (own.map (·.2)) = wipeE ρ (own.map (·.2)))
    (ht : ∀ (s : Shared) (H : Hp) (C : Addr) (cl : List (Str × Addr)) (fp : List Addr), PTD τ (X.blk s H scope (compEnvC scope cl C X.env) fp) ifs gt)
    (he : ∀ (s : Shared) (H : Hp) (C : Addr) (cl : List (Str × Addr)) (fp : List Addr), PD τ (X.blk s H scope (compEnvC scope cl C X.env) fp) elt ge) (hs : ∀ x, foldedSetIterable iter X.env x = pure x) :
    PSD τ X (.Assign [.Name y py] (.ListComp elt [⟨tg, iter, ifs, 0⟩] scope pos) spos) (fun ρ => (gi ρ >>= lcS m ga gt ge (wipeE ρ (own.map (·.2)))) >>= fun d => pure (.next (ρ.set i (some d)))) := by
  intro pins s σ H ρ η S I tk sr st
  show Out τ X pins η H (relF X.K) (((gi ρ >>= lcS m ga gt ge (wipeE ρ (own.map (·.2)))) >>= fun d => pure (.next (ρ.set i (some d)))) S) _ s
  rw [bind_run]
  cases q : (gi ρ >>= lcS m ga gt ge (wipeE ρ (own.map (·.2)))) S with
  | bad => exact trivial
  | ok d S' =>
    intro E
    show wpAny _ _ (exec _ _) _ _ _
    rw [exec_Assign_Name_used _ _ _ _ hsw]
    refine wpAny_bind (wpAny_standAt (wpAny_bind ?_))
    show wpAny _ X.A (do let _ ← comprehension (.ListComp elt [⟨tg, iter, ifs, 0⟩] scope pos) scope X.env (firstIterPos [⟨tg, iter, ifs, 0⟩] pos) (newList []) false (eval iter X.env) (some (assign (.Name y py) X.env))) _ _ s
    refine wpAny_bind (thn (lcd_core (Qf := fun _ s' => τ ≤ s'.toks ∧ ∃ σ' η' H', Inv X pins σ' H' s' ∧ Grow η H η' H' ∧ StoOk X.K η' H' S' ∧ SRel X.K η' H' σ' (ρ.set i (some d))) hc hN I tk sr st hi ok hg hw ht he hs q fun L C s' mm η' H' I' tk' g' st' r' hn f => ?_) fun _ s' hq => wpAny_pure (wpAny_pure hq))
    show wpAny _ _ (assign (.Name y py) X.env (.ref L)) _ _ _
    refine wpAny_assign_Name (wpAny_mono (PySem.wpAny_toks (store_ok2 (Q := fun _ s2 => Inv X pins (σ.set i (some (V.ref L))) H' s2 ∧ (∃ a, Heap.SameBut a s'.heap s2.heap ∧ (a = X.env.locals ∨ X.env.cells.lookup y = some a))) (v := V.ref L) I' hN hy (.inl hyl) rfl (fun s2 I2 z => ⟨I2, z⟩) (.inr hyl))) (fun _ s2 z => ?_) fun _ _ z => z.2)
    obtain ⟨tk2, I2, a, sb, ha⟩ := z
    obtain ⟨f0, f1, f2, f3, f4, f5⟩ := f
    have haC : C ≠ a := by
      rcases ha with z | z
      · rw [z]; exact f1
      · exact fun e => f4 y a z e.symm
    refine ⟨mm, hn.sameBut sb haC, fun h3 sb3 => ?_⟩
    exact ⟨Nat.le_trans tk' tk2, _, η', H', I2.turned (t' := s2.toks) (fun b o hb e => (sb3.2 b hb).trans e) f0 f1 f3 f4 f5, g', st', (sr.grow g').set r' i⟩
end
end MP

/-! MP14: several targets. -/
namespace MP
open PySem L2
def seqI (S : Sto) : D → Option (List D)
  | .tup xs => some xs
  | d => itemsR S d
theorem seqI_at {K : PySem.W.Frag} {η : List Addr} {H : Hp} {S : Sto} {d : D} {ds : List D} {x : V} (st : StoOk K η H S) (r : Rep K η H d x) (h : seqI S d = some ds) : ∃ a vs, x = .ref a ∧ (SqL K H a vs ∨ SqT K H a vs) ∧ Reps K η H ds vs := by
  cases r with
  | tup h1 h2 => cases h; exact ⟨_, _, rfl, .inr h1.sq, h2⟩
  | non => cases h
  | bl => cases h
  | int => cases h
  | str => cases h
  | dic => cases h
  | lst h1 h2 => obtain ⟨a, vs, e, h3, h4⟩ := itemsR_at st (.lst h1 h2) h; exact ⟨a, vs, e, .inl h3, h4⟩
  | frz h1 h2 => obtain ⟨a, vs, e, h3, h4⟩ := itemsR_at st (.frz h1 h2) h; exact ⟨a, vs, e, .inl h3, h4⟩
  | ref h1 => obtain ⟨a, vs, e, h3, h4⟩ := itemsR_at st (.ref h1) h; exact ⟨a, vs, e, .inl h3, h4⟩
def unpackD (n : Nat) (star : Option (Nat × Bool)) (d : D) : M (List D) := fun S => match seqI S d with
  | none => .bad
  | some xs => match star with
    | none => if xs.length = n then .ok xs S else .bad
    | some (i, m) => if i < n ∧ n ≤ xs.length + 1 then (newL m ((xs.drop i).take (xs.length + 1 - n)) >>= fun l => pure (xs.take i ++ [l] ++ (xs.drop i).drop (xs.length + 1 - n))) S else .bad
theorem unpackD_len {n : Nat} {star : Option (Nat × Bool)} {d : D} {S S' : Sto} {ds : List D} (h : unpackD n star d S = .ok ds S') : ds.length = n := by
  unfold unpackD at h
  cases q : seqI S d with
  | none => rw [q] at h; cases h
  | some xs =>
    rw [q] at h
    cases star with
    | none =>
      dsimp only at h
      split at h
      · cases h; assumption
      · cases h
    | some p =>
      obtain ⟨i, m⟩ := p
      dsimp only at h
      split at h
      · rename_i hh
        rw [bind_run] at h
        unfold newL at h
        cases m <;> simp at h <;> (obtain ⟨h, _⟩ := h; subst h; simp; omega)
      · cases h
section
variable {X : Cx}
theorem Vals.take' {vs : List V} {us : List Value} (h : Vals vs us) : ∀ n : Nat, Vals (vs.take n) (us.take n) := by
  induction h with
  | nil => intro n; simp; exact .nil
  | cons a b ih =>
    intro n
    cases n with
    | zero => exact .nil
    | succ n => exact .cons a (ih n)
theorem Vals.drop' {vs : List V} {us : List Value} (h : Vals vs us) : ∀ n : Nat, Vals (vs.drop n) (us.drop n) := by
  induction h with
  | nil => intro n; simp; exact .nil
  | cons a b ih =>
    intro n
    cases n with
    | zero => exact .cons a b
    | succ n => exact ih n
/-- the items drawn, one list made of those between -/
theorem star_items {A : Around} {E : Value → Shared → Prop} {s : Shared} {l : Addr} {items : Array Value} {n i : Nat} {Q : List Value → Shared → Prop} (hl : s.heap.IsList l items ∨ PyProof.Rows.IsTup s.heap l items) (hh : A.handled = none) (hi : i < n) (hn : n ≤ items.size + 1) (hz : items.size ≤ sizeLine)
    (h : ∀ h' tk, Heap.ExtBut s.heap.objs.size s.heap h' →
      Q (items.toList.take i ++ [.ref h'.objs.size] ++ (items.toList.drop i).drop (items.size + 1 - n)) { s with heap := h'.push { cls := .type "list", data := .seq ((items.toList.drop i).take (items.size + 1 - n)).toArray }, toks := tk }) :
    wpAny (model X.prog X.w) A (unpackItems (.ref l) n (some i)) Q E s := by
  have hll : l < s.heap.objs.size := by rcases hl with ⟨o, ho, _⟩ | ⟨o, ho, _⟩ <;> exact Heap.lt_size ho
  have hlt : l ≠ s.heap.objs.size := Nat.ne_of_lt hll
  have hrl : (items.toList.drop i).length = items.size - i := by rw [List.length_drop, Array.length_toList]
  have hmid : (items.toList.drop i).length - (n - 1 - i) = items.size + 1 - n := by rw [hrl]; omega
  have hfl : (items.toList.take i).length = i := by rw [List.length_take, Array.length_toList]; omega
  have fin : ∀ (h₂ : Heap) (tk : Nat), Heap.ExtBut s.heap.objs.size s.heap h₂ →
      wpAny (model X.prog X.w) A (newList ((items.toList.drop i).take (items.size + 1 - n)) >>= fun d => pure (items.toList.take i ++ [d] ++ (items.toList.drop i).drop (items.size + 1 - n))) Q E { s with heap := h₂, toks := tk } := fun h₂ tk he =>
    wpAny_bind (wpAny_newObj_type (wpAny_pure (h h₂ tk he)) (by show (List.take _ _).length ≤ _; rw [List.length_take, hrl]; omega))
  unfold unpackItems
  refine wpAny_bind ?_
  unfold notIterableAtAll
  rcases hl with hl | hl
  · refine wpAny_bind (wpAny_specialOf hl.typeIs slot_list_iter.lookup ?_)
    refine wpAny_pure ?_
    simp only [Bool.false_eq_true, if_false]
    refine wpAny_bind (wpAny_holding (wpAny_pyIter_list hl ?_))
    refine wpAny_bind (wpAny_holding (PySem.W.kun_draw hlt i 0 _ _ ⟨_, Heap.get?_push_size _ rfl, rfl, rfl⟩ (hl.push _) (by omega) fun h₁ hit₁ hs₁ => ?_))
    have hl₁ : h₁.IsList l items := (hl.push _).extBut hs₁.extBut hlt
    rw [Nat.zero_add] at hit₁
    have hit₁' := hit₁
    obtain ⟨oi, hoi, _⟩ := hit₁'
    have hl₁' := hl₁
    obtain ⟨ol, hol, _⟩ := hl₁'
    rw [List.drop_zero]
    rw [if_neg (show ¬ ((items.toList.take i).length < i) by rw [hfl]; omega)]
    refine wpAny_bind (wpAny_holding (PySem.W.kun_collect (s := { s with heap := h₁ }) (T := "list_iterator") (.inr (.inr (.inl rfl))) (Walks.list (A := A.in1) hh s.heap.objs.size l hlt items) (fun j u st => st.1.typeIs) (k := i) (by omega) ⟨hit₁, hl₁⟩ (Heap.lt_size hoi) (Heap.lt_size hol) (fun h₂ tk hk => ?_) hz))
    show wpAny _ _ (if (items.toList.drop i).length < n - 1 - i then _ else _) _ _ _
    rw [if_neg (by rw [hrl]; omega)]
    show wpAny _ _ (newList ((items.toList.drop i).take ((items.toList.drop i).length - (n - 1 - i))) >>= fun d => pure (items.toList.take i ++ [d] ++ (items.toList.drop i).drop ((items.toList.drop i).length - (n - 1 - i)))) _ _ _
    rw [hmid]
    exact fin h₂ tk (fun b o hb e => hk b o hb (hs₁.extBut b o hb (Heap.get?_push_of_some _ e)))
  · refine wpAny_bind (wpAny_specialOf hl.typeIs PyProof.Rows.slot_tuple_iter.lookup ?_)
    refine wpAny_pure ?_
    simp only [Bool.false_eq_true, if_false]
    refine wpAny_bind (wpAny_holding (PyProof.Rows.iter_tuple hl ?_))
    refine wpAny_bind (wpAny_holding (PyProof.Rows.draw_tuple hlt i 0 _ _ ⟨_, Heap.get?_push_size _ rfl, rfl, rfl⟩ (hl.push _) (by omega) fun h₁ hit₁ hs₁ => ?_))
    have hl₁ : PyProof.Rows.IsTup h₁ l items := (hl.push _).extBut hs₁.extBut hlt
    rw [Nat.zero_add] at hit₁
    have hit₁' := hit₁
    obtain ⟨oi, hoi, _⟩ := hit₁'
    have hl₁' := hl₁
    obtain ⟨ol, hol, _⟩ := hl₁'
    rw [List.drop_zero]
    rw [if_neg (show ¬ ((items.toList.take i).length < i) by rw [hfl]; omega)]
    refine wpAny_bind (wpAny_holding (PySem.W.kun_collect (s := { s with heap := h₁ }) (T := "tuple_iterator") (.inr (.inr (.inr rfl))) (Walks.tuple (A := A.in1) hh s.heap.objs.size l hlt items) (fun j u st => st.1.typeIs) (k := i) (by omega) ⟨hit₁, hl₁⟩ (Heap.lt_size hoi) (Heap.lt_size hol) (fun h₂ tk hk => ?_) hz))
    show wpAny _ _ (if (items.toList.drop i).length < n - 1 - i then _ else _) _ _ _
    rw [if_neg (by rw [hrl]; omega)]
    show wpAny _ _ (newList ((items.toList.drop i).take ((items.toList.drop i).length - (n - 1 - i))) >>= fun d => pure (items.toList.take i ++ [d] ++ (items.toList.drop i).drop ((items.toList.drop i).length - (n - 1 - i)))) _ _ _
    rw [hmid]
    exact fin h₂ tk (fun b o hb e => hk b o hb (hs₁.extBut b o hb (Heap.get?_push_of_some _ e)))
/-- unpacking, as an operation -/
theorem unpack_ok {pins : List (Addr × Obj)} {s : Shared} {σ : L2.St} {H : Hp} {η : List Addr} {S : Sto} {v : V} {u : Value} {d : D} {n : Nat} {star : Option (Nat × Bool)} (hc : X.calm = true) (I : Inv X pins σ H s) (tk : τ ≤ s.toks) (st : StoOk X.K η H S) (r : RelV v u) (rd : Rep X.K η H d v) :
    Out τ X pins η H (relL X.K σ) (unpackD n star d S) (sem X (unpackItems u n (star.map (·.1)))) s := by
  unfold unpackD
  cases q : seqI S d with
  | none => trivial
  | some xs =>
    obtain ⟨a, vs, rfl, hq, hr⟩ := seqI_at st rd q
    cases r
    have hseq : ∃ its : List Value, Vals vs its ∧ (s.heap.IsList a its.toArray ∨ PyProof.Rows.IsTup s.heap a its.toArray) ∧ vs.length ≤ sizeLine := by
      rcases hq with hq | hq
      · obtain ⟨its, rv, p, hz⟩ := I.list hq
        exact ⟨its, rv, .inl p.isList, hz⟩
      · obtain ⟨its, rv, p, hz⟩ := I.tuple hq
        exact ⟨its, rv, .inr p, hz⟩
    obtain ⟨its, rv, hl, hz⟩ := hseq
    have hlen : its.length = xs.length := by rw [hr.length, rv.length]
    cases star with
    | none =>
      dsimp only
      by_cases hn : xs.length = n
      · rw [if_pos hn]
        subst hn
        intro E
        show wpAny _ _ (unpackItems (.ref a) xs.length none) _ _ _
        have e : xs.length = its.toArray.size := by rw [List.size_toArray, hlen]
        rw [e]
        have fin : ∀ h', Heap.ExtBut s.heap.objs.size s.heap h' → τ ≤ s.toks ∧ ∃ σ' η' H', Inv X pins σ' H' { s with heap := h' } ∧ Grow η H η' H' ∧ StoOk X.K η' H' S ∧ relL X.K σ σ' η' H' xs its.toArray.toList := fun h' hx => by
          refine ⟨tk, σ, η, H, I.kept (t' := s.toks) fun b o e => hx b o (Nat.ne_of_lt (Heap.lt_size e)) e, .refl _ _, st, rfl, vs, ?_, hr⟩
          simpa using rv
        rcases hl with hl | hl
        · exact PySem.W.kun_itemsOf (I.ok.hd hc) hl fin
        · exact PyProof.Rows.unpackItems_tuple (I.ok.hd hc) hl fin
      · rw [if_neg hn]; trivial
    | some p =>
      obtain ⟨i, m⟩ := p
      dsimp only
      by_cases hn : i < n ∧ n ≤ xs.length + 1
      · rw [if_pos hn, bind_run]
        cases q2 : newL m ((xs.drop i).take (xs.length + 1 - n)) S with
        | bad => trivial
        | ok l S' =>
          intro E
          show wpAny _ _ (unpackItems (.ref a) n (some i)) _ _ _
          refine wpAny_mono (PySem.wpAny_toks (Q := fun us s' => ∃ σ' η' H', Inv X pins σ' H' s' ∧ Grow η H η' H' ∧ StoOk X.K η' H' S' ∧ relL X.K σ σ' η' H' (xs.take i ++ [l] ++ (xs.drop i).drop (xs.length + 1 - n)) us) (star_items hl (I.ok.hd hc) hn.1 (by rw [List.size_toArray, hlen]; exact hn.2) (by rw [List.size_toArray, ← rv.length]; exact hz) fun h' tk' hx => ?_)) (fun us s' z => ⟨Nat.le_trans tk z.1, z.2⟩) fun _ _ z => z.2
          have I1 : Inv X pins σ H { s with heap := h', toks := tk' } := I.kept fun b o e => hx b o (Nat.ne_of_lt (Heap.lt_size e)) e
          have hp := I1.hok.fresh (Nat.le_refl h'.objs.size)
          have e : its.toArray.size = xs.length := by rw [List.size_toArray, hlen]
          rw [e]
          have rm : Reps X.K η H ((xs.drop i).take (xs.length + 1 - n)) ((vs.drop i).take (xs.length + 1 - n)) := (hr.drop i).take _
          obtain ⟨η1, g1, st1, r1⟩ := good_newL st rm hp q2
          refine ⟨σ, η1, _, I1.laid (t' := tk') (o := .lst ((vs.drop i).take (xs.length + 1 - n))) (fun b ob q => Heap.get?_push_of_some _ q) (Nat.le_refl _) ⟨?_, _, 0, Vals.take' (Vals.drop' rv i) _, Heap.get?_push_size _ rfl⟩, g1, st1, rfl, vs.take i ++ [.ref h'.objs.size] ++ (vs.drop i).drop (xs.length + 1 - n), ?_, ?_⟩
          · rw [List.length_take, List.length_drop]
            exact Nat.le_trans (Nat.min_le_right _ _) (Nat.le_trans (Nat.sub_le _ _) hz)
          · exact ((Vals.take' rv i).append (.cons (show RelV (.ref h'.objs.size) (.ref h'.objs.size) from rfl) .nil)).append (Vals.drop' (Vals.drop' rv i) _)
          · exact ((hr.grow g1).take i |>.append (.cons r1 .nil)).append (((hr.grow g1).drop i).drop _)
      · rw [if_neg hn]; trivial
/-! ### targets in a row -/
theorem pgds_nil : PGDs τ X [] (asgs []) := by
  intro pins s σ H ρ η S vs us ds I tk sr st rv rd
  cases rd with
  | nil => cases rv; exact fun E => PyProof.Rows.assignInOrder_nil ⟨tk, σ, η, H, I, .refl _ _, st, sr⟩
  | cons _ _ => trivial
theorem pgds_cons {t : Expr} {ts : List Expr} {b : Bool} {g : D → Env → M Env} {gs : List (D → Env → M Env)} {t' : Expr} (ht : PGD τ X t' g) (hts : PGDs τ X ts (asgs gs)) (he : assignEach (t :: ts) X.env = (b, assign t' X.env) :: assignEach ts X.env) : PGDs τ X (t :: ts) (asgs (g :: gs)) := by
  intro pins s σ H ρ η S vs us ds I tk sr st rv rd
  rw [he]
  cases rd with
  | nil => trivial
  | cons r1 rr =>
    cases rv with
    | cons v1 vr =>
      refine Out.seq (t1 := assign t' X.env _) (W2 := fun _ => sem X (PySem.assignInOrder ((assignEach ts X.env).map (·.2)) _)) (fun Q E h => PyProof.Rows.assignInOrder_cons h) (ht pins s σ H ρ η S _ _ _ I tk sr st v1 r1) ?_
      intro _ s1 σ1 η1 H1 ρ1 S1 _ tk1 I1 g1 st1 sr1
      exact Out.back (mono_sem _) g1 (hts pins s1 σ1 H1 ρ1 η1 S1 _ _ _ I1 tk1 sr1 st1 vr (rr.grow g1))
theorem assign_tup_any {M : Model} {A : Around} {env : PySem.Env} {ts : List Expr} {k : Nat} {pos : Pos} {u : Value} {n : Nat} {o : Option Nat} {Q : Unit → Shared → Prop} {E : Value → Shared → Prop} {s : Shared} (hn : (assignEach ts env).length = n) (hst : (assignEach ts env).findIdx? (·.1) = o)
    (h : wpAny M A (unpackItems u n o) (fun us s' => wpAny M A (PySem.assignInOrder ((assignEach ts env).map (·.2)) us) Q E s') E s) : wpAny M A (assign (.Tuple ts k pos) env u) Q E s := by
  rw [PyProof.Rows.assign_Tuple]
  refine wpAny_bind (wpAny_standAt ?_)
  unfold unpack
  rw [hn, hst]
  exact wpAny_bind (wpAny_holding h)
/-- (a, b, ..) = .. -/
theorem pgd_tup {ts : List Expr} {k : Nat} {pos : Pos} {n : Nat} {star : Option (Nat × Bool)} {gs : List (D → Env → M Env)} (hc : X.calm = true) (hts : PGDs τ X ts (asgs gs)) (hn : (assignEach ts X.env).length = n) (hst : (assignEach ts X.env).findIdx? (·.1) = star.map (·.1)) :
    PGD τ X (.Tuple ts k pos) (fun d ρ => unpackD n star d >>= fun ds => asgs gs ds ρ) := by
  intro pins s σ H ρ η S v u d I tk sr st r rd
  have h1 := unpack_ok (n := n) (star := star) hc I tk st r rd
  have h2 : ∀ us s1 σ1 η1 H1 ds S1, unpackD n star d S = .ok ds S1 → τ ≤ s1.toks → Inv X pins σ1 H1 s1 → Grow η H η1 H1 → StoOk X.K η1 H1 S1 → relL X.K σ σ1 η1 H1 ds us → Out τ X pins η H (relE X.K) (asgs gs ds ρ S1) (sem X (PySem.assignInOrder ((assignEach ts X.env).map (·.2)) us)) s1 := by
    intro us s1 σ1 η1 H1 ds S1 _ tk1 I1 g1 st1 z
    obtain ⟨e1, vs, rv, rds⟩ := z
    rw [e1] at I1
    exact Out.back (mono_sem _) g1 (hts pins s1 _ H1 ρ η1 S1 vs us ds I1 tk1 (sr.grow g1) st1 rv rds)
  show Out τ X pins η H (relE X.K) ((unpackD n star d >>= fun ds => asgs gs ds ρ) S) (sem X (assign (.Tuple ts k pos) X.env u)) s
  generalize unpackD n star d = m at h1 h2 ⊢
  exact Out.seq (fun Q E h => assign_tup_any hn hst h) h1 h2
end
end MP

/-! MP15: xs[::-1], replace, dict displays, globals, several names at once. -/
namespace MP
open PySem L2
/-! ### [::-1] -/
def revE (m : Bool) (d : D) : M D := match d with
  | .tup xs => pure (.tup xs.reverse)
  | d => fun S => match itemsR S d with
    | some xs => newL m xs.reverse S
    | none => .bad
section
variable {prog : Program} {w : World} {A : Around} {E : Value → Shared → Prop} {s : Shared}
theorem rev_pick (xs : Array Value) : ((List.range xs.size).filterMap fun (m : Nat) => xs[(((xs.size : Int) - 1) + (m : Int) * -1).toNat]?).toArray = xs.toList.reverse.toArray := by
  have h := PySem.W.krv_pick xs
  unfold slicePick at h
  rw [PySem.W.krv_bounds] at h
  have h : ((sliceRange ((xs.size : Int) - 1) (-1) (-1)).filterMap (xs[·]?)).toArray = xs.toList.reverse.toArray := h
  rw [PySem.W.krv_sliceRange, List.filterMap_map] at h
  rw [← h]
  congr 1
  have go : ∀ l : List Nat, (∀ k ∈ l, k < xs.size) → (l.filterMap fun (m : Nat) => xs[(((xs.size : Int) - 1) + (m : Int) * -1).toNat]?) = l.filterMap ((fun x => xs[x]?) ∘ fun k => xs.size - 1 - k) := by
    intro l
    induction l with
    | nil => intro _; rfl
    | cons k l ih =>
      intro hl
      have hk := hl k (by simp)
      have e : (((xs.size : Int) - 1) + (k : Int) * -1).toNat = xs.size - 1 - k := by omega
      simp only [List.filterMap_cons, Function.comp, e]
      rw [ih fun x hx => hl x (by simp [hx])]
  exact go _ fun k hk => List.mem_range.mp hk
theorem getItem_tuple_rev {t sl : Addr} {items : Array Value} {vs : Value} {Q : Value → Shared → Prop} (ht : PyProof.Rows.IsTup s.heap t items) (hs : s.heap.IsSliceOf sl .none .none vs) (ps : IsPart vs (some (-1)))
    (h : Q (.ref s.heap.objs.size) { s with heap := s.heap.push { cls := .type "tuple", data := .seq items.toList.reverse.toArray } })
    (hsz : items.size ≤ sizeLine) : wpAny (model prog w) A (getItem (.ref t) (.ref sl)) Q E s := by
  have htake : sizeOk (.seq items.toList.reverse.toArray) := by
    show items.toList.reverse.toArray.size ≤ sizeLine
    rw [List.size_toArray, List.length_reverse, Array.length_toList]
    exact hsz
  obtain ⟨os, hos, hcs, hds⟩ := id hs
  have hTs : s.TypeIs (.ref sl) "slice" := ⟨os, hos, hcs⟩
  cases ps with
  | int i tt =>
  unfold getItem
  try with_reducible refine wpAny_holding ?_
  first | refine wpAny_bind (wpAny_pure ?_) | skip
  refine wpAny_bind (wpAny_sequenceKey ht.typeIs (by decide) ?_)
  refine wpAny_bind (wpAny_callSpecial?_slot (name := Str.ofString "__getitem__") ht.typeIs PyProof.Rows.slot_tuple_getitem
    (wpAny_call_entry PyProof.Rows.slot_tuple_getitem ht.typeIs PyProof.Rows.entry_tuple_getitem ?_ (PyProof.Rows.args_tuple_getitem _ _)))
  show wpAny _ _ (Builtin.Tuple.tupleItemsOf (.ref t) >>= _) _ _ s
  refine wpAny_bind (PyProof.Rows.tupleItemsOf_ ht ?_)
  refine wpAny_bind (wpAny_typeOf hTs ?_)
  rw [if_pos (by decide)]
  refine wpAny_bind ?_
  unfold Builtin.Slice.sliceApplied Builtin.Slice.sliceFields
  refine wpAny_bind (wpAny_bind (wpAny_field hos hds (x := .none) rfl (wpAny_bind (wpAny_field hos hds (x := .none) rfl (wpAny_bind (wpAny_field hos hds (x := .int (-1) tt) rfl (wpAny_pure ?_)))))))
  refine wpAny_bind (PyProof.Rows.slicePart_int ?_)
  show wpAny _ _ (if ((-1 : Int) == 0) = true then _ else _) _ _ s
  rw [if_neg (by decide)]
  refine wpAny_bind (PyProof.Rows.slicePart_none (wpAny_bind (PyProof.Rows.slicePart_none (wpAny_bind (wpAny_pure ?_)))))
  have ea : Builtin.Slice.sliceAdjust none none (-1) (items.size : Int) = ((items.size : Int) - 1, -1) := rfl
  show wpAny _ _ (match Builtin.Slice.sliceAdjust none none (-1) (items.size : Int) with | (lo, hi) => pure (lo, (-1 : Int), Builtin.Slice.slicePlaces lo hi (-1))) _ _ s
  rw [ea]
  have ep : Builtin.Slice.slicePlaces ((items.size : Int) - 1) (-1) (-1) = items.size := by
    unfold Builtin.Slice.slicePlaces
    have h1 : ¬ ((-1 : Int) > 0) := by decide
    simp only [h1, if_false]
    by_cases hz : (items.size : Int) - 1 > -1
    · simp only [hz, if_true]
      rw [show (- -1 : Int) = 1 by decide, Int.ediv_one]
      omega
    · simp only [hz, if_false]
      omega
  show wpAny _ _ (pure ((items.size : Int) - 1, (-1 : Int), Builtin.Slice.slicePlaces ((items.size : Int) - 1) (-1) (-1))) _ _ s
  rw [ep]
  refine wpAny_pure ?_
  have hno : ¬ ((((items.size : Int) - 1) == 0 && (-1 : Int) == 1 && items.size == items.size) = true) := by
    have : ((-1 : Int) == 1) = false := by decide
    rw [this, Bool.and_false, Bool.false_and]
    exact Bool.false_ne_true
  show wpAny _ _ (if (((items.size : Int) - 1) == 0 && (-1 : Int) == 1 && items.size == items.size) = true then _ else _) _ _ s
  rw [if_neg hno, rev_pick]
  first
    | exact wpAny_bind (m := Builtin.Tuple.tupleExact _) (wpAny_newObj_type (wpAny_pure ⟨_, rfl, wpAny_pure h⟩) htake)
    | exact wpAny_bind (m := Builtin.Tuple.tupleExact _) (wpAny_newObj_type (wpAny_bind (wpAny_pure (wpAny_pure ⟨_, rfl, wpAny_pure h⟩))) htake)
    | exact wpAny_bind (wpAny_bind (m := Builtin.Tuple.tupleExact _) (wpAny_newObj_type (wpAny_pure (wpAny_pure ⟨_, rfl, wpAny_pure h⟩)) htake))
    | exact wpAny_bind (wpAny_bind (m := Builtin.Tuple.tupleExact _) (wpAny_newObj_type (wpAny_pure ⟨_, rfl, wpAny_pure h⟩) htake))
end
section
variable {X : Cx} {e : Expr} {pos p1 p2 p3 : Pos}
theorem pd_rev {m : Bool} {ge : Env → M D} {k : Nat} (he : PD τ X e ge) : PD τ X (.Subscript e (.Slice none none (some (.UnaryOp .USub (.Constant (.int 1) k p1) p2)) p3) pos) (fun ρ => ge ρ >>= revE m) := by
  intro pins s σ H ρ η S I tk sr st
  refine Out.seq (t1 := eval e X.env) (W2 := fun v Q E s1 => wpAny (model X.prog X.w) X.A (evalPart none X.env) (fun vl s2 => wpAny (model X.prog X.w) X.A (evalPart none X.env) (fun vu s3 => wpAny (model X.prog X.w) X.A (evalPart (some (.UnaryOp .USub (.Constant (.int 1) k p1) p2)) X.env) (fun vs s4 =>
    wpAny (model X.prog X.w) X.A (PyProof.Rows.subscriptTail e (.Slice none none (some (.UnaryOp .USub (.Constant (.int 1) k p1) p2)) p3) v (.ref s4.heap.objs.size)) Q E { s4 with heap := s4.heap.push { cls := .type "slice", data := .fields #[vl, vu, vs] } }) E s3) E s2) E s1)
    (fun Q E h => PyProof.Rows.Subscript_ (wpAny_mono h (fun v s1 z => wpAny_Slice z) fun _ _ z => z)) (he pins s σ H ρ η S I tk sr st) ?_
  rintro v s1 σ1 η1 H1 d S1 _ tk1 I1 g1 st1 ⟨rfl, x, rx, rd⟩
  cases q : revE m d S1 with
  | bad => trivial
  | ok d' S' =>
    intro E
    rw [evalPart_none]
    refine wpAny_pure ?_
    refine wpAny_pure ?_
    have hst : PO (X.wish E) (some (.UnaryOp .USub (.Constant (.int 1) k p1) p2)) (tPart (tUn (rU fun i => .int (-i)) (tC (.int 1)))) := po_some (pe_un un_neg pe_int)
    refine wpAny_mono (PySem.wpAny_toks (hst.run pins s1 σ1 H1 (fun o H4 => o = some (-1) ∧ H4 = H1) (I1.wish E) ⟨1, rfl, -1, rfl, rfl, rfl⟩)) (fun vs s4 z => ?_) fun _ _ z => z.2
    obtain ⟨tk4, o, H4, I4, ps, eo, e4⟩ := z
    subst eo e4
    have I4 := I4.unwish
    have I5 : Inv X pins σ1 H4 { s4 with heap := s4.heap.push { cls := .type "slice", data := .fields #[.none, .none, vs] } } := I4.kept (t' := s4.toks) fun b ob q => Heap.get?_push_of_some _ q
    have seq : ∀ {p : Addr} {ds : List D} {us : List V}, x = .ref p → SqL X.K H4 p us → Reps X.K η1 H4 ds us → newL m ds.reverse S1 = .ok d' S' →
        wpAny (model X.prog X.w) X.A (PyProof.Rows.subscriptTail e (.Slice none none (some (.UnaryOp .USub (.Constant (.int 1) k p1) p2)) p3) v (.ref s4.heap.objs.size)) (fun u s' => τ ≤ s'.toks ∧ ∃ σ' η' H', Inv X pins σ' H' s' ∧ Grow η H η' H' ∧ StoOk X.K η' H' S' ∧ relV X.K σ1 σ' η' H' d' u) E { s4 with heap := s4.heap.push { cls := .type "slice", data := .fields #[.none, .none, vs] } } := by
      intro p ds us ex hx hr hn
      subst ex
      cases rx
      obtain ⟨its, r, ht, hz⟩ := I5.list hx
      have hlen := r.length
      refine PyProof.Rows.tail_any (ops := [.ref p, .ref s4.heap.objs.size]) ht.isList.typeIs (PySem.slot_list_getitem.lookup) ?_ (by with_unfolding_all rfl)
      refine wpAny_getItem_list_slice ht.isList (Heap.IsSliceOf.new _ .none .none vs) .none .none ps (by decide) ?_ (by rw [List.size_toArray]; omega)
      rw [PySem.W.krv_pick]
      have hp := I5.hok.fresh (Nat.le_refl _)
      obtain ⟨η6, g6, st6, r6⟩ := good_newL st1 hr.reverse hp hn
      exact ⟨Nat.le_trans tk1 tk4, σ1, η6, _, I5.laid (t' := s4.toks) (o := .lst us.reverse) (fun b ob q => Heap.get?_push_of_some _ q) (Nat.le_refl _) ⟨by rw [List.length_reverse]; exact hz, _, 0, r.reverse, Heap.get?_push_size _ rfl⟩, g1.trans g6, st6, rfl, V.ref _, rfl, r6⟩
    cases rd with
    | @tup a us ds h1 h2 =>
      cases q
      cases rx
      obtain ⟨its, r, ht, hz⟩ := I5.tuple h1.sq
      refine PyProof.Rows.tail_any (ops := [.ref a, .ref s4.heap.objs.size]) ht.typeIs (PyProof.Rows.slot_tuple_getitem.lookup) ?_ (by with_unfolding_all rfl)
      refine getItem_tuple_rev ht (Heap.IsSliceOf.new _ .none .none vs) ps ?_ (by rw [List.size_toArray, ← r.length]; exact hz)
      have hp := I5.hok.fresh (Nat.le_refl _)
      obtain ⟨η6, g6, st6, r6⟩ := good_newT (S := S1) st1 h2.reverse hp
      exact ⟨Nat.le_trans tk1 tk4, σ1, η6, _, I5.laid (t' := s4.toks) (o := .tup us.reverse) (fun b ob q => Heap.get?_push_of_some _ q) (Nat.le_refl _) ⟨by rw [List.length_reverse]; exact hz, _, r.reverse, PyProof.Rows.IsTup.new _ _⟩, g1.trans g6, st6, rfl, V.ref _, rfl, r6⟩
    | lst h1 h2 => exact seq rfl h1.sq h2 q
    | frz h1 h2 => exact seq rfl h1.sq h2 q
    | @ref n a h1 =>
      have q : (match itemsR S1 (.ref n) with | some xs => newL m xs.reverse S1 | none => .bad) = .ok d' S' := q
      cases qa : itemsR S1 (.ref n) with
      | none => rw [qa] at q; cases q
      | some xs =>
        rw [qa] at q
        obtain ⟨a', us, e1, h3, h4⟩ := itemsR_at st1 (.ref h1) qa
        exact seq e1 h3 h4 q
    | _ => cases q
end
end MP

/-! MP16: several names at once, replace, dict displays, globals. -/
namespace MP
open PySem L2
def setsL : List Nat → List D → Env → Env
  | i :: is, d :: ds, ρ => setsL is ds (ρ.set i (some d))
  | _, _, ρ => ρ
def Slots (X : Cx) : List Str → List Nat → Prop
  | [], [] => True
  | x :: xs, i :: is => (X.N[i]? = some x ∧ X.env.scope.names.lookup x = some .local) ∧ Slots X xs is
  | _, _ => False
section
variable {X : Cx} {e : Expr} {pos : Pos}
theorem par_stores {pins : List (Addr × Obj)} {H : Hp} {η : List Addr} {S : Sto} {E : Value → Shared → Prop} (hN : X.N.Nodup) (st : StoOk X.K η H S) : ∀ (names : List Str) (is : List Nat) {us : List Value} {vs : List V} {ds : List D} {s : Shared} {σ : L2.St} {ρ : Env}, Slots X names is → Inv X pins σ H s → τ ≤ s.toks → SRel X.K η H σ ρ → Vals vs us → Reps X.K η H ds vs →
    wpAny (model X.prog X.w) X.A (PySem.assignInOrder (names.map fun n => bindName X.env n) us) (fun _ s' => τ ≤ s'.toks ∧ ∃ σ', Inv X pins σ' H s' ∧ SRel X.K η H σ' (setsL is ds ρ)) E s
  | [], [], us, vs, ds, s, σ, ρ, _, I, tk, sr, _, _ => by
    refine PyProof.Rows.assignInOrder_nil ⟨tk, σ, I, ?_⟩
    cases ds <;> exact sr
  | x :: xs, i :: is, us, vs, ds, s, σ, ρ, hs, I, tk, sr, rv, rd => by
    cases rd with
    | nil =>
      cases rv
      have e : PySem.assignInOrder ((x :: xs).map fun n => bindName X.env n) [] = pure () := rfl
      rw [e]
      exact wpAny_pure ⟨tk, σ, I, sr⟩
    | cons r1 rr =>
      cases rv with
      | cons v1 vr =>
        refine PyProof.Rows.assignInOrder_cons (wpAny_bindName (wpAny_mono (PySem.wpAny_toks (store_ok (Q := fun _ s' => Inv X pins (σ.set i (some _)) H s') I hN hs.1.1 (.inl hs.1.2) v1 (fun s' I' => I') (.inr hs.1.2))) (fun _ s1 z => ?_) fun _ _ z => z.2))
        exact par_stores hN st xs is hs.2 z.2 (Nat.le_trans tk z.1) (sr.set r1 i) vr rr
  | [], _ :: _, _, _, _, _, _, _, hs, _, _, _, _, _ => hs.elim
  | _ :: _, [], _, _, _, _, _, _, hs, _, _, _, _, _ => hs.elim
theorem Vals.reverse' {vs : List V} {us : List Value} (h : Vals vs us) : Vals vs.reverse us.reverse := h.reverse
theorem psd_par {tg value : Expr} {names : List Str} {is : List Nat} {ge : Env → M D} (hc : X.calm = true) (hN : X.N.Nodup) (hsl : Slots X names.reverse is.reverse) (he : PD τ X value ge) (hw : swappedStores [tg] value X.env = pure (some names)) (hs : swapsWithSole [tg] value pos.line X.env = pure false) :
    PSD τ X (.Assign [tg] value pos) (fun ρ => ge ρ >>= fun d => unpackD names.length none d >>= fun ds => pure (.next (setsL is.reverse ds.reverse ρ))) := by
  intro pins s σ H ρ η S I tk sr st
  have eT : ∀ Q E, wpAny (model X.prog X.w) X.A (eval value X.env) (fun v s' => wpAny (model X.prog X.w) X.A (unpackItems v names.length none) (fun us s2 => wpAny (model X.prog X.w) X.A (PySem.assignInOrder (names.reverse.map fun n => bindName X.env n) us.reverse) (fun _ => Q .next) E s2) E s') E s → wpAny (model X.prog X.w) X.A (exec (.Assign [tg] value pos) X.env) Q E s := fun Q E h => by
    rw [exec_Assign_arm]
    refine wpAny_bind (wpAny_standAt ?_)
    rw [hs]
    refine wpAny_bind (wpAny_pure ?_)
    rw [if_neg (by decide)]
    refine wpAny_bind (wpAny_mono h (fun v s1 h1 => ?_) fun _ _ z => z)
    rw [hw]
    refine wpAny_bind (wpAny_pure ?_)
    show wpAny (model X.prog X.w) X.A (do rule "assign.swapped-stores"; let items ← unpackItems v names.length none; PySem.assignInOrder (names.reverse.map fun n => bindName X.env n) items.reverse; pure Flow.next) _ _ _
    exact wpAny_bind (wpAny_rule (wpAny_bind (wpAny_mono h1 (fun us s2 h2 => wpAny_bind (wpAny_mono h2 (fun _ s3 h3 => wpAny_pure h3) fun _ _ z => z)) fun _ _ z => z)))
  refine Out.seq (t1 := eval value X.env) (W2 := fun v Q E s' => wpAny (model X.prog X.w) X.A (unpackItems v names.length none) (fun us s2 => wpAny (model X.prog X.w) X.A (PySem.assignInOrder (names.reverse.map fun n => bindName X.env n) us.reverse) (fun _ => Q .next) E s2) E s') eT (he pins s σ H ρ η S I tk sr st) ?_
  rintro v s1 σ1 η1 H1 d S1 _ tk1 I1 g1 st1 ⟨e1, x, rx, rd⟩
  rw [e1] at I1
  have h1 := unpack_ok (n := names.length) (star := none) hc I1 tk1 st1 rx rd
  show Out τ X pins η H (relF X.K) ((unpackD names.length none d >>= fun ds => pure (.next (setsL is.reverse ds.reverse ρ))) S1) _ s1
  generalize unpackD names.length none d = m at h1 ⊢
  refine Out.back (fun Q Q' E s' hQ w => wpAny_mono w (fun _ s2 z => wpAny_mono z (fun _ s3 z => hQ _ _ z) fun _ _ z => z) fun _ _ z => z) g1 ?_
  refine Out.seq (t1 := unpackItems v names.length none) (W2 := fun us Q E s2 => wpAny (model X.prog X.w) X.A (PySem.assignInOrder (names.reverse.map fun n => bindName X.env n) us.reverse) (fun _ => Q .next) E s2) (fun Q E h => h) h1 ?_
  rintro us s2 σ2 η2 H2 ds S2 _ tk2 I2 g2 st2 ⟨e2, vs, rv, rds⟩
  intro E
  rw [e2] at I2
  refine wpAny_mono (par_stores hN st2 names.reverse is.reverse hsl I2 tk2 ((sr.grow g1).grow g2) rv.reverse rds.reverse) (fun _ s3 z => ?_) fun _ _ z => z
  obtain ⟨tk3, σ3, I3, sr3⟩ := z
  exact ⟨tk3, σ3, η2, H2, I3, g2, st2, sr3⟩

/-! ### globals -/
theorem pd_glob {x : Str} {d : D} {v : V} {u : Value} (hg : Gl X x) (hm : X.mg x = some u) (r : RelV v u) (hr : ∀ η H, Rep X.K η H d v) (hd : (x == ("__debug__" : Str)) = false) : PD τ X (.Name x pos) (fun _ => pure d) :=
  pd_const (fun _ _ => rfl) (fun E => pe_glob (X := X.wish E) hg hm r hd) hr

/-! ### replace with literals -/
def replD (y z : Str) (d : D) : M D := match d with
  | .str x => if x.length + (x.length + 1) * z.length ≤ 16777216 then pure (.str (Txt.replace x y z)) else M.fail
  | _ => M.fail
theorem pd_repl {o : Expr} {go : Env → M D} {y z : Str} {j k : Nat} {c0 c1 apos : Pos} (hτ : 1 ≤ τ) (ho : PD τ X o go) (hyz : (y == z) = false) (hbase : attributeBase o "replace" X.env (eval o X.env) = eval o X.env) (hline : (apos.endLine == pos.line) = true) :
    PD τ X (.Call (.Attribute o "replace" apos) [.Constant (.str y) j c0, .Constant (.str z) k c1] [] pos) (fun ρ => go ρ >>= replD y z) := by
  intro pins s σ H ρ η S I tk sr st
  refine Out.never fun d S' q => ?_
  have q : (go ρ >>= replD y z) S = .ok d S' := q
  rw [bind_run] at q
  have key := ho pins s σ H ρ η S I tk sr st
  cases q1 : go ρ S with
  | bad => rw [q1] at q; cases q
  | ok d1 S1 =>
    rw [q1] at q key
    refine PySem.Call_method2 hbase rfl hline (wpAny_mono (key _) (fun v s1 zz => ?_) fun _ _ z => z)
    obtain ⟨tk1, σ1, η1, H1, I1, g1, st1, e1, x', rx, rd⟩ := zz
    subst e1
    cases rd with
    | str x =>
      obtain ⟨tx, e2⟩ := rx
      subst e2
      have q : (if x.length + (x.length + 1) * z.length ≤ 16777216 then pure (D.str (Txt.replace x y z)) else M.fail : M D) S1 = .ok d S' := q
      by_cases hb : x.length + (x.length + 1) * z.length ≤ 16777216
      · rw [if_pos hb] at q
        cases q
        refine ⟨"str", _, PySem.F.plainAttrs_str, PySem.F.slot_str_replace, PySem.F.type_str_replace, typeIs_str _ _ _, (fun _ e => nomatch e), Calls.callWith_builtin rfl (Calls.evalArgs_plain (Calls.spliced_cons ?_))⟩
        refine Calls.Constant_str (Calls.spliced_cons (Calls.Constant_str (Calls.spliced_nil ?_)))
        refine wpAny_mono (PySem.wpAny_toks (PySem.SC.replace (Q := fun u s' => ∃ σ' η' H', Inv X pins σ' H' s' ∧ Grow η H η' H' ∧ StoOk X.K η' H' S' ∧ relV X.K σ1 σ' η' H' (D.str (Txt.replace x y z)) u) (by show s1.toks ≠ 0; omega) (by show s1.toks + 1 ≠ 0; omega) (by show s1.toks ≠ s1.toks + 1; omega) hyz hb fun t' k => ⟨σ1, η1, H1, I1.tok k, g1, st1, rfl, .str _, ⟨t', rfl⟩, .str _⟩)) (fun u s' z => ⟨Nat.le_trans ?_ z.1, z.2⟩) fun _ _ z => z.2
        show τ ≤ s1.toks + 1 + 1
        omega
      · rw [if_neg hb] at q; cases q
    | _ => cases q
/-! ### dict displays -/
theorem pd_dict0 : PD τ X (.Dict [] [] pos) (fun _ => pure (.dic [])) := by
  refine pd_of fun E σ H ρ η S d S' sr st q => ?_
  cases q
  exact ⟨_, pe_dnewK, fun p hp => ⟨η, grow_new st hp, st.laid hp, .dic ⟨upd_same, st.fresh hp⟩ .nil⟩⟩
theorem pd_dict1 {i : Nat} {x : Str} {k : Int} {j : Nat} {c0 p : Pos} (hN : X.N[i]? = some x) (hv : Vis X.env.scope x) (hd : (x == ("__debug__" : Str)) = false) (hcd : (x == ("__classdict__" : Str)) = false) :
    PD τ X (.Dict [some (.Constant (.int k) j c0)] [.Name x p] pos) (fun ρ => M.of ((ρ[i]?).bind id) >>= fun d => pure (.dic [(.inl k, d)])) := by
  refine pd_of fun E σ H ρ η S d S' sr st q => ?_
  have q : (M.of ((ρ[i]?).bind id) >>= fun d => pure (.dic [(.inl k, d)]) : M D) S = .ok d S' := q
  rw [bind_run] at q
  cases q0 : ρ[i]? with
  | none => rw [q0] at q; cases q
  | some o =>
    cases o with
    | none => rw [q0] at q; cases q
    | some d0 =>
      rw [q0] at q
      cases q
      obtain ⟨v, h1, h2⟩ := sr.look i d0 q0
      refine ⟨_, pe_disp (pps_cons (pe_int (X := X.wish E)) (pe_var (X := X.wish E) hN hv hd hcd) pps_nil) rfl rfl (by simp) (by simp), fun p hp => ?_⟩
      refine ⟨v, h1, upd_same, [(.inl k, v)], rfl, by simp, η, ?_⟩
      have e : upd (upd H p (.dK [])) p (.dK (mergeK [] [(.inl k, v)])) = upd H p (.dK [(.inl k, v)]) := by
        funext a
        unfold upd
        split <;> rfl
      rw [e]
      exact ⟨grow_new st hp, st.laid hp, .dic ⟨upd_same, st.fresh hp⟩ (.cons (h2.grow (grow_new st hp)) .nil)⟩
end
end MP

/-! MP16b: written dicts, constant displays, list * int, enumerate. -/
namespace MP
open PySem L2
section
variable {X : Cx} {n : Nat} {a b c e : Expr} {ga gb gc : Env → M D} {pos : Pos}
/-! ### written dicts -/
def KdAt (K : PySem.W.Frag) (w : World) (mg : Str → Option Value) (x : Str) (kds : List (Key × D)) : Prop := ∃ a es n, mg x = some (.ref a) ∧ KDict K w a es n ∧ ∀ z, match lookK kds (.inr z) with
  | some d => ∃ u v, PySem.W.nsIn K a z = some (some u) ∧ RelV v u ∧ ∀ η H, Rep K η H d v
  | none => PySem.W.nsIn K a z = some none
def KdOk (X : Cx) (x : Str) (kds : List (Key × D)) : Prop := KdAt X.K X.w X.mg x kds
def ginD (neg : Bool) (kds : List (Key × D)) : D → M D
  | .str z => pure (.bl (xor neg (lookK kds (.inr z)).isSome))
  | _ => M.fail
def gixD (kds : List (Key × D)) : D → M D
  | .str z => M.of (lookK kds (.inr z))
  | _ => M.fail
def inOp : Bool → CmpOp
  | false => .In
  | true => .NotIn
theorem name_dict {x : Str} {p : Pos} {ad : Addr} {pins : List (Addr × Obj)} {s : Shared} {σ : L2.St} {H : Hp} {E : Value → Shared → Prop} {Q : Value → Shared → Prop} (I : Inv X pins σ H s) (hg : Gl X x) (hm : X.mg x = some (.ref ad)) (hd : (x == ("__debug__" : Str)) = false)
    (h : ∀ s', s.toks ≤ s'.toks → Inv X pins σ H s' → Q (.ref ad) s') : wpAny (model X.prog X.w) X.A (eval (.Name x p) X.env) Q E s := by
  have k := (pe_glob (X := X.wish E) (pos := p) hg hm (v := .ref ad) rfl hd).run pins s σ H (fun v' H' => v' = .ref ad ∧ H' = H) (I.wish E) ⟨rfl, rfl⟩
  refine wpAny_mono (PySem.wpAny_toks k) (fun u s' z => ?_) fun _ _ z => z.2
  obtain ⟨tk, v, H', I', r, e1, e2⟩ := z
  subst e1 e2
  cases r
  exact h s' tk I'.unwish
theorem gin_op {neg : Bool} {x : Str} {kds : List (Key × D)} {ad : Addr} {es : Array DictEntry} {m : Nat} (kd : KDict X.K X.w ad es m) (hz : ∀ z, match lookK kds (.inr z) with
  | some d => ∃ u v, PySem.W.nsIn X.K ad z = some (some u) ∧ RelV v u ∧ ∀ η H, Rep X.K η H d v
  | none => PySem.W.nsIn X.K ad z = some none) {pins : List (Addr × Obj)} {s : Shared} {σ : L2.St} {H : Hp} {η : List Addr} {S : Sto} {x : V} {v : Value} {d : D} (I : Inv X pins σ H s) (tk : τ ≤ s.toks) (st : StoOk X.K η H S) (rx : RelV x v) (rd : Rep X.K η H d x) :
    Out τ X pins η H (relV X.K σ) (ginD neg kds d S) (sem X (compareOp (inOp neg) v (.ref ad))) s := by
  cases rd with
  | str z =>
    have hz := hz z
    show Out τ X pins η H (relV X.K σ) (.ok (.bl (xor neg (lookK kds (.inr z)).isSome)) S) _ s
    refine out_ok tk fun E => ?_
    obtain ⟨r, hr, hb⟩ : ∃ r, PySem.W.nsIn X.K ad z = some r ∧ r.isSome = (lookK kds (.inr z)).isSome := by
      cases q : lookK kds (.inr z) with
      | none => rw [q] at hz; exact ⟨none, hz, rfl⟩
      | some d => rw [q] at hz; obtain ⟨u, v, h1, _⟩ := hz; exact ⟨some u, h1, rfl⟩
    rw [← hb]
    cases neg with
    | false =>
      rw [Bool.false_xor]
      exact op_in_kd (X := X.wish E) kd pins s σ H _ _ v _ _ (I.wish E) rx (show RelV (.ref ad) (.ref ad) from rfl) ⟨z, r, rfl, rfl, hr, good_here st (.bl _)⟩
    | true =>
      rw [Bool.true_xor]
      exact op_notIn_kd (X := X.wish E) kd pins s σ H _ _ v _ _ (I.wish E) rx (show RelV (.ref ad) (.ref ad) from rfl) ⟨z, r, rfl, rfl, hr, good_here st (.bl _)⟩
  | _ => trivial
theorem out_toks {β : Type} {t : Sem β} {Q : β → Shared → Prop} {E : Value → Shared → Prop} {s : Shared} (h : wpAny (model X.prog X.w) X.A t (fun u s' => s.toks ≤ s'.toks → Q u s') E s) : wpAny (model X.prog X.w) X.A t Q E s :=
  wpAny_mono (PySem.wpAny_toks h) (fun _ _ z => z.2 z.1) fun _ _ z => z.2
theorem pd_gin {neg : Bool} {x : Str} {p : Pos} {kds : List (Key × D)} (hk : KdOk X x kds) (hg : Gl X x) (hd : (x == ("__debug__" : Str)) = false) (ha : PD τ X a ga) (hm : behindInMarks (inOp neg) (.Name x p) = false) :
    PD τ X (.Compare a [inOp neg] [.Name x p] pos) (fun ρ => ga ρ >>= ginD neg kds) := by
  intro pins s σ H ρ η S I tk sr st
  obtain ⟨ad, es, m, hmg, kd, hz⟩ := hk
  refine Out.seq (t1 := eval a X.env) (W2 := fun v Q E s1 => wpAny (model X.prog X.w) X.A (eval (.Name x p) X.env) (fun u s2 => wpAny (model X.prog X.w) X.A (compareOp (inOp neg) v u) Q E s2) E s1) (fun Q E h => wpAny_Compare1 h hm) (ha pins s σ H ρ η S I tk sr st) ?_
  rintro v s1 σ1 η1 H1 d S1 _ tk1 I1 g1 st1 ⟨rfl, y, ry, rd⟩
  cases q : ginD neg kds d S1 with
  | bad => trivial
  | ok d' S' =>
    intro E
    refine name_dict I1 hg hmg hd fun s2 tk2 I2 => ?_
    have key := Out.back (mono_sem _) g1 (gin_op (x := x) (neg := neg) kd hz I2 (Nat.le_trans tk1 tk2) st1 ry rd)
    rw [q] at key
    exact key E
theorem pdb_gin {neg : Bool} {x : Str} {p : Pos} {kds : List (Key × D)} (hk : KdOk X x kds) (hg : Gl X x) (hd : (x == ("__debug__" : Str)) = false) (ha : PD τ X a ga) (hm : behindInMarks (inOp neg) (.Name x p) = false) :
    PDB τ X (.Compare a [inOp neg] [.Name x p] pos) (fun ρ => ga ρ >>= fun d => ginD neg kds d >>= asB) := by
  intro pins s σ H ρ η S I tk sr st
  obtain ⟨ad, es, m, hmg, kd, hz⟩ := hk
  refine Out.seq (t1 := eval a X.env) (W2 := fun v Q E s1 => wpAny (model X.prog X.w) X.A (eval (.Name x p) X.env) (fun u s2 => wpAny (model X.prog X.w) X.A (compareOp (inOp neg) v u) (fun z s3 => wpAny (model X.prog X.w) X.A (truthy z) Q E s3) E s2) E s1)
    (fun Q E h => wpAny_isTrue_Compare1 h hm) (ha pins s σ H ρ η S I tk sr st) ?_
  rintro v s1 σ1 η1 H1 d S1 _ tk1 I1 g1 st1 ⟨rfl, y, ry, rd⟩
  have key : ∀ s2, s1.toks ≤ s2.toks → Inv X pins σ1 H1 s2 → Out τ X pins η H (relB σ1) ((ginD neg kds d >>= asB) S1) (fun Q E s2 => wpAny (model X.prog X.w) X.A (compareOp (inOp neg) v (.ref ad)) (fun z s3 => wpAny (model X.prog X.w) X.A (truthy z) Q E s3) E s2) s2 := by
    intro s2 tk2 I2
    refine Out.back (mono_then _ fun z => mono_sem _) g1 ?_
    refine Out.seq (t1 := compareOp (inOp neg) v (.ref ad)) (W2 := fun z => sem X (truthy z)) (fun Q E h => h) (gin_op (x := x) (neg := neg) kd hz I2 (Nat.le_trans tk1 tk2) st1 ry rd) ?_
    rintro z s3 σ3 η3 H3 d3 S3 _ tk3 I3 g3 st3 ⟨rfl, y3, r3, re3⟩
    exact Out.back (mono_sem _) g3 (asB_ok I3 tk3 st3 r3 re3)
  cases q : (ginD neg kds d >>= asB) S1 with
  | bad => trivial
  | ok d' S' =>
    rw [q] at key
    intro E
    exact name_dict I1 hg hmg hd fun s2 tk2 I2 => key s2 tk2 I2 E
theorem gix_op {value slice : Expr} (hs : ∀ o i, subscripted slice false o i = operate [o, i] (getItem o i)) {kds : List (Key × D)} {ad : Addr} {es : Array DictEntry} {m : Nat} (kd : KDict X.K X.w ad es m) (hz : ∀ z, match lookK kds (.inr z) with
  | some d => ∃ u v, PySem.W.nsIn X.K ad z = some (some u) ∧ RelV v u ∧ ∀ η H, Rep X.K η H d v
  | none => PySem.W.nsIn X.K ad z = some none) {pins : List (Addr × Obj)} {s : Shared} {σ : L2.St} {H : Hp} {η : List Addr} {S : Sto} {x : V} {v : Value} {d : D} (I : Inv X pins σ H s) (tk : τ ≤ s.toks) (st : StoOk X.K η H S) (rx : RelV x v) (rd : Rep X.K η H d x) :
    Out τ X pins η H (relV X.K σ) (gixD kds d S) (sem X (PyProof.Rows.subscriptTail value slice (.ref ad) v)) s := by
  cases rd with
  | str z =>
    have hz := hz z
    show Out τ X pins η H (relV X.K σ) (M.of (lookK kds (.inr z)) S) _ s
    cases q : lookK kds (.inr z) with
    | none => trivial
    | some d =>
      rw [q] at hz
      obtain ⟨u, w, h1, h2, h3⟩ := hz
      exact out_ok tk fun E => tail_dict hs (kd_type kd I) (op_item_kd (X := X.wish E) kd pins s σ H _ _ _ v _ (I.wish E) (show RelV (.ref ad) (.ref ad) from rfl) rx ⟨z, u, w, rfl, rfl, h1, h2, good_here st (h3 _ _)⟩)
  | _ => trivial
theorem pd_gix {x : Str} {p : Pos} {kds : List (Key × D)} (hk : KdOk X x kds) (hg : Gl X x) (hd : (x == ("__debug__" : Str)) = false) (hb : PD τ X b gb) (hs : ∀ o i, subscripted b false o i = operate [o, i] (getItem o i)) :
    PD τ X (.Subscript (.Name x p) b pos) (fun ρ => gb ρ >>= gixD kds) := by
  intro pins s σ H ρ η S I tk sr st
  obtain ⟨ad, es, m, hmg, kd, hz⟩ := hk
  have key : ∀ s1, s.toks ≤ s1.toks → Inv X pins σ H s1 → Out τ X pins η H (relV X.K σ) ((gb ρ >>= gixD kds) S) (fun Q E s1 => wpAny (model X.prog X.w) X.A (eval b X.env) (fun u s2 => wpAny (model X.prog X.w) X.A (PyProof.Rows.subscriptTail (.Name x p) b (.ref ad) u) Q E s2) E s1) s1 := by
    intro s1 tk1 I1
    refine Out.seq (t1 := eval b X.env) (W2 := fun u => sem X (PyProof.Rows.subscriptTail (.Name x p) b (.ref ad) u)) (fun Q E h => h) (hb pins s1 σ H ρ η S I1 (Nat.le_trans tk tk1) sr st) ?_
    rintro u s2 σ2 η2 H2 e S2 _ tk2 I2 g2 st2 ⟨rfl, y, ry, re⟩
    exact Out.back (mono_sem _) g2 (gix_op hs kd hz I2 tk2 st2 ry re)
  show Out τ X pins η H (relV X.K σ) ((gb ρ >>= gixD kds) S) _ s
  cases q : (gb ρ >>= gixD kds) S with
  | bad => trivial
  | ok d' S' =>
    rw [q] at key
    intro E
    exact PyProof.Rows.Subscript_ (name_dict I hg hmg hd fun s1 tk1 I1 => key s1 tk1 I1 E)
/-! ### new dicts -/
def newD (m : Bool) (kvs : List (Key × D)) : M D := fun S => if m then .ok (.ref S.length) (S ++ [.dic kvs]) else .ok (.dic kvs) S
theorem good_newD {K : PySem.W.Frag} {η : List Addr} {H : Hp} {S : Sto} {m : Bool} {ds : List (Key × D)} {vs : List (Key × V)} {p : Addr} {d : D} {S' : Sto} (st : StoOk K η H S) (hr : Repk K η H ds vs) (hp : H p = none) (h : newD m ds S = .ok d S') : Good K η H S' d (.ref p) (upd H p (.dK vs)) := by
  unfold newD at h
  cases m with
  | true =>
    rw [if_pos rfl] at h
    cases h
    refine ⟨η ++ [p], grow_push st hp, st.pushO hp ⟨vs, upd_same, hr.grow (grow_push (u := .dK vs) st hp)⟩, .ref ?_⟩
    rw [← st.len, List.getElem?_append_right (Nat.le_refl _)]
    simp
  | false =>
    rw [if_neg Bool.false_ne_true] at h
    cases h
    exact ⟨η, grow_new st hp, st.laid hp, .dic ⟨upd_same, st.fresh hp⟩ (hr.grow (grow_new st hp))⟩
theorem pd_dict0m {m : Bool} : PD τ X (.Dict [] [] pos) (fun _ => newD m []) := by
  refine pd_of fun E σ H ρ η S d S' sr st q => ?_
  exact ⟨_, pe_dnewK, fun p hp => good_newD st .nil hp q⟩
def mergeD (kvs more : List (Key × D)) : List (Key × D) := more.foldl (fun acc kv => putD acc kv.1 kv.2) kvs
theorem repk_merge {K : PySem.W.Frag} {η : List Addr} {H : Hp} : ∀ {more : List (Key × D)} {ws : List (Key × V)} {kds : List (Key × D)} {kvs : List (Key × V)}, Repk K η H more ws → Repk K η H kds kvs → Repk K η H (mergeD kds more) (mergeK kvs ws)
  | _, _, _, _, .nil, h => h
  | _, _, kds, kvs, .cons (k := k) (d := d) (v := v) (ds := ds) (vs := vs) r t, h => by
    show Repk K η H (mergeD (putD kds k d) ds) (mergeK (putK kvs k v) vs)
    exact repk_merge t (repk_put r h)
def chkC : Key → Expr → Bool
  | .inl i, .Constant (.int j) _ _ => i == j
  | .inr z, .Constant (.str y) _ _ => z == y
  | _, _ => false
def chkCs : List (Key × Key) → List (Option Expr) → List Expr → Bool
  | [], [], [] => true
  | p :: ps, some k :: ks, v :: vs => chkC p.1 k && chkC p.2 v && chkCs ps ks vs
  | _, _, _ => false
theorem pe_C {k : Key} {e : Expr} (h : chkC k e = true) : PE X e (tC (kV k)) := by
  cases k with
  | inl i =>
    cases e <;> try exact (Bool.false_ne_true h).elim
    rename_i v _ _
    cases v <;> try exact (Bool.false_ne_true h).elim
    obtain rfl := eq_of_beq (show (i == _) = true from h)
    exact pe_int
  | inr z =>
    cases e <;> try exact (Bool.false_ne_true h).elim
    rename_i v _ _
    cases v <;> try exact (Bool.false_ne_true h).elim
    obtain rfl := eq_of_beq (show (z == _) = true from h)
    exact pe_str
theorem pps_C : ∀ (ps : List (Key × Key)) (ks : List (Option Expr)) (vs : List Expr), chkCs ps ks vs = true → PPs X pos ks vs (ps.map fun p => (tC (kV p.1), tC (kV p.2))) ∧ ks.all (·.isSome) = true ∧ ks.length = ps.length ∧ vs.length = ps.length
  | [], [], [], _ => ⟨pps_nil, rfl, rfl, rfl⟩
  | p :: ps, k :: ks, v :: vs, h => by
    cases k with
    | none => exact (Bool.false_ne_true h).elim
    | some k =>
      have h : (chkC p.1 k && chkC p.2 v && chkCs ps ks vs) = true := h
      rw [Bool.and_eq_true, Bool.and_eq_true] at h
      obtain ⟨i1, i2, i3, i4⟩ := pps_C ps ks vs h.2
      exact ⟨pps_cons (pe_C h.1.1) (pe_C h.1.2) i1, by simp [i2], by simp [i3], by simp [i4]⟩
  | [], [], _ :: _, h => (Bool.false_ne_true h).elim
  | [], _ :: _, _, h => (Bool.false_ne_true h).elim
  | _ :: _, [], _, h => (Bool.false_ne_true h).elim
  | _ :: _, k :: _, [], h => by cases k <;> exact (Bool.false_ne_true h).elim
theorem tPairs_C {σ : L2.St} : ∀ (ps : List (Key × Key)) (H : Hp) (Q : List (V × V) → Hp → Prop), Q (ps.map fun p => (kV p.1, kV p.2)) H → tPairs (ps.map fun p => (tC (kV p.1), tC (kV p.2))) σ H Q
  | [], H, Q, h => h
  | p :: ps, H, Q, h => tPairs_C ps H (fun ws H3 => Q ((kV p.1, kV p.2) :: ws) H3) h
theorem repk_C {K : PySem.W.Frag} {η : List Addr} {H : Hp} : ∀ (ps : List (Key × Key)), Repk K η H (ps.map fun p => (p.1, keyC p.2)) (ps.map fun p => (p.1, kV p.2))
  | [] => .nil
  | p :: ps => .cons (rep_C p.2) (repk_C ps)
theorem pd_dispC {m : Bool} {ps : List (Key × Key)} {ks : List (Option Expr)} {vs : List Expr} (h : chkCs ps ks vs = true) (h0 : ps ≠ []) (h15 : ps.length ≤ 15) : PD τ X (.Dict ks vs pos) (fun _ => newD m (mergeD [] (ps.map fun p => (p.1, keyC p.2)))) := by
  refine pd_of fun E σ H ρ η S d S' sr st q => ?_
  obtain ⟨i1, i2, i3, i4⟩ := pps_C (X := X.wish E) (pos := pos) ps ks vs h
  refine ⟨_, pe_disp i1 i2 (i3.trans i4.symm) (fun z => h0 (by rw [z] at i3; exact List.eq_nil_of_length_eq_zero i3.symm)) (by omega), fun p hp => ?_⟩
  refine tPairs_C ps _ _ ⟨upd_same, ps.map fun p => (p.1, kV p.2), by simp, by simpa using h15, ?_⟩
  have e : upd (upd H p (.dK [])) p (.dK (mergeK [] (ps.map fun p => (p.1, kV p.2)))) = upd H p (.dK (mergeK [] (ps.map fun p => (p.1, kV p.2)))) := by
    funext a
    unfold upd
    split <;> rfl
  rw [e]
  exact good_newD st (repk_merge (repk_C ps) .nil) hp q
/-! ### list * int -/
def mulM (m : Bool) (d e : D) : M D := fun S => match items S d, e with
  | some xs, .int k => if 0 ≤ k ∧ k ≤ 1000000 ∧ xs.length * k.toNat ≤ SL then newL m (List.replicate k.toNat xs).flatten S else .bad
  | _, _ => mulD d e S
theorem op_mulM (m : Bool) : Op2 τ X (binaryOp .Mult) (mulM m) := by
  intro pins s σ H η S x y v u d e I tk st rx ry rd re
  have old := op_mulD pins s σ H η S x y v u d e I tk st rx ry rd re
  unfold mulM
  cases q1 : items S d with
  | none => exact old
  | some xs =>
    cases re with
    | int k =>
      dsimp only
      by_cases hz : 0 ≤ k ∧ k ≤ 1000000 ∧ xs.length * k.toNat ≤ SL
      · rw [if_pos hz]
        obtain ⟨a, vs, rfl, h1, h2⟩ := items_at st rd q1
        cases q3 : newL m (List.replicate k.toNat xs).flatten S with
        | bad => trivial
        | ok d' S' =>
          exact out_ok tk fun E => op_rep (X := X.wish E) pins s σ H _ _ v u _ (I.wish E) rx ry ⟨a, k, vs, rfl, rfl, h1, by omega, by omega, sl_le (by rw [← h2.length]; exact hz.2.2), fun p hp => good_newL st (h2.replicate _) hp q3⟩
      · rw [if_neg hz]; trivial
    | _ => exact old
/-! ### enumerate -/
def enumL (xs : List D) : List D := xs.zipIdx.map fun p => D.tup [.int (p.2 : Nat), p.1]
theorem enumL_get (xs : List D) (i : Nat) : (enumL xs)[i]? = xs[i]?.map fun d => D.tup [.int (i : Nat), d] := by
  unfold enumL
  rw [List.getElem?_map, List.getElem?_zipIdx, Option.map_map]
  congr 1
  funext d
  simp
theorem drv_enl {K : PySem.W.Frag} {η1 : List Addr} {H1 : Hp} {a : Addr} {ds : List D} {vs : List V} (h : LstAt η1 H1 a vs) (hr : Reps K η1 H1 ds vs) : Drv K (Ite K a) (.fix (enumL ds)) η1 H1 := by
  have nw : ∀ {η : List Addr} {H : Hp}, Grow η1 H1 η H → LstAt η H a vs := fun g => ⟨g.keep _ _ h.2 h.1, g.notin h.1 h.2⟩
  refine ⟨fun {η H S i d} g st e => ?_, fun {η H H' S i d x} g st e y => ?_, fun {η H S i} g st e => ?_⟩
  · have e : (enumL ds)[i]? = some d := Option.some.inj e
    rw [enumL_get] at e
    obtain ⟨d', e', _⟩ := Option.map_eq_some_iff.mp e
    obtain ⟨v, h1, _⟩ := (hr.grow g).get e'
    exact ⟨vs, v, (nw g).sq, h1⟩
  · have e : (enumL ds)[i]? = some d := Option.some.inj e
    rw [enumL_get] at e
    obtain ⟨d', e', rfl⟩ := Option.map_eq_some_iff.mp e
    obtain ⟨T, z, e1, hT, eH, y⟩ := y
    obtain ⟨v, h1, h2⟩ := (hr.grow g).get e'
    have := y vs (nw g).sq
    rw [h1] at this
    cases this
    exact enu_yld st hT eH e1 h2
  · have e : (enumL ds)[i]? = none := Option.some.inj e
    rw [enumL_get] at e
    exact ⟨vs, (nw g).sq, by rw [← hr.length]; exact List.getElem?_eq_none_iff.mp (Option.map_eq_none_iff.mp e)⟩
def enuSrc (d : D) : M Src := fun S => match d with
  | .lst xs => .ok (.fix (enumL xs)) S
  | .ref n => match S[n]? with
    | some (.lst _) => .ok (.enr n) S
    | _ => .bad
  | _ => .bad
def enuL : List D → M Src
  | [d] => enuSrc d
  | _ => M.fail
theorem pid_enum {elts : List Expr} {kk : Nat} {tpos p : Pos} {gl : Env → M (List D)} (hg : Gl X "enumerate") (hm : X.mg "enumerate" = none) (h : PDL τ X [e] gl) (hs : starEach [e] X.env = [(false, eval e X.env)]) : PID τ X (.Tuple elts kk tpos) (.Call (.Name "enumerate" p) [e] [] pos) (fun ρ => gl ρ >>= enuL) := by
  intro pins s σ H ρ η S src S1 I tk sr st q
  have q : (gl ρ >>= enuL) S = .ok src S1 := q
  rw [bind_run] at q
  have key := h pos pins s σ H ρ η S I tk sr st
  cases q1 : gl ρ S with
  | bad => rw [q1] at q; cases q
  | ok ds S2 =>
    rw [q1] at q key
    refine PyProof.Rows.Call_ (ld_blt I hg hm PyProof.Rows.boot_enumerate (PyProof.Rows.callWith_type1 (wpAny_mono (key (fun _ _ => False)) (fun us s1 z => ?_) fun _ _ z => z) hs rfl))
    obtain ⟨tk1, σ1, η1, H1, I1, g1, st1, e1, xs, rxs, rds⟩ := z
    subst e1
    have q : enuL ds S2 = .ok src S1 := q
    cases rds with
    | nil => cases q
    | @cons d x _ _ rd rr =>
    cases rr with
    | cons _ _ => cases q
    | nil =>
    cases rxs with
    | cons rx rxx =>
    cases rxx
    rename_i v
    have q : enuSrc d S2 = .ok src S1 := q
    have fin : ∀ {a : Addr} {vs : List V}, x = .ref a → SqL X.K H1 a vs → Drv X.K (Ite X.K a) src η1 H1 → S2 = S1 → wpAny (model X.prog X.w) X.A (call (.type "enumerate") [v]) (fun v s1 => wpAny (model X.prog X.w) X.A (pyIter v) (IterOk τ X pins σ1 η H (.Tuple elts kk tpos) src S1) (fun _ _ => False) s1) (fun _ _ => False) s1 := by
      intro a vs ex hq dr eS
      subst ex eS
      cases rx
      obtain ⟨its, rv, p', hz⟩ := I1.list hq
      refine call_enumerate_list p'.isList fun h' he hit hsz hk => wpAny_pyIter_enum he ?_
      have I2 : Inv X pins σ1 H1 { s1 with heap := h' } := I1.kept (t' := s1.toks) hk
      refine ⟨tk1, η1, H1, s1.heap.objs.size + 1, [s1.heap.objs.size + 1, s1.heap.objs.size], _, _, rfl, I2, g1, st1, turn_enum a (s1.heap.objs.size + 1) s1.heap.objs.size, ⟨⟨.none, he⟩, hit, Nat.succ_ne_self _⟩, fun b hb => ?_, dr⟩
      have e' : b = s1.heap.objs.size + 1 ∨ b = s1.heap.objs.size := by simpa using hb
      have hle : s1.heap.objs.size ≤ b := by
        rcases e' with z | z
        · rw [z]; exact Nat.le_add_right _ _
        · rw [z]; exact Nat.le_refl _
      exact I1.fpOk hle (I1.hok.fresh hle)
    cases rd with
    | lst h1 h2 =>
      cases q
      exact fin rfl (LstAt.sq h1) (drv_enl h1 h2) rfl
    | @ref n a h1 =>
      have q : (match S2[n]? with | some (.lst _) => R.ok (Src.enr n) S2 | _ => .bad) = .ok src S1 := q
      obtain ⟨ds, qn⟩ : ∃ ds, S2[n]? = some (.lst ds) := by
        cases qn : S2[n]? with
        | none => rw [qn] at q; cases q
        | some oo => cases oo with
          | lst ds => exact ⟨ds, rfl⟩
          | dic _ => rw [qn] at q; cases q
          | fdic _ => rw [qn] at q; cases q
      rw [qn] at q
      cases q
      obtain ⟨vs, ha, _⟩ := st1.look n _ a qn h1
      exact fin rfl (SqL.of ha) (drv_enr h1) rfl
    | _ => cases q
end
end MP

/-! MP17: the small language, its meaning, the check against a tree. -/
namespace MP
open PySem L2
def noStar : Expr → Bool
  | .Starred .. => false
  | _ => true
theorem starEach_cons {e : Expr} {es : List Expr} {env : PySem.Env} (h : noStar e = true) : starEach (e :: es) env = (false, eval e env) :: starEach es env := by
  cases e <;> first | rfl | cases h
theorem star_any {env : PySem.Env} {pos : Pos} : ∀ {es : List Expr}, es.all noStar = true → (backTo pos (starEach es env)).any (·.1) = false
  | [], _ => rfl
  | e :: es, h => by
    rw [List.all_cons, Bool.and_eq_true] at h
    rw [starEach_cons h.1]
    show (false || (backTo pos (starEach es env)).any (·.1)) = false
    rw [star_any h.2]
    rfl
theorem star_all {env : PySem.Env} {pos : Pos} : ∀ {es : List Expr}, es.all noStar = true → (backTo pos (starEach es env)).all (fun x => !x.1) = true
  | [], _ => rfl
  | e :: es, h => by
    rw [List.all_cons, Bool.and_eq_true] at h
    rw [starEach_cons h.1]
    show (true && (backTo pos (starEach es env)).all (fun x => !x.1)) = true
    rw [star_all h.2]
    rfl
section
variable {X : Cx} {e : Expr} {es : List Expr}
/-- a method with no argument -/
theorem pd_meth0 {rc : D → M Unit} {T id : String} {name : Str} {o : Expr} {go : Env → M D} {f : D → List D → M D} {apos cpos : Pos} (pa : PlainAttrs T) (slot : Slot T name id) (hty : typeOf (.builtin id) = pure (.type "method_descriptor")) (hm : Mt τ X T id f)
    (ht : ∀ {η : List Addr} {H : Hp} {S : Sto} {d : D} {x : V} {S' : Sto}, StoOk X.K η H S → Rep X.K η H d x → rc d S = .ok () S' → S' = S ∧ tyV X.K T x H)
    (ho : PD τ X o go) (hbase : attributeBase o name X.env (eval o X.env) = eval o X.env) (hline : (apos.endLine == cpos.line) = true) :
    PD τ X (.Call (.Attribute o name apos) [] [] cpos) (fun ρ => go ρ >>= fun d => rc d >>= fun _ => f d []) := by
  intro pins s σ H ρ η S I tk sr st
  refine Out.seq (t1 := eval o X.env) (W2 := fun v Q E s1 => MethodOn X.prog X.w X.A name cpos v [] Q E s1) (fun Q E h => wpAny_Call_method0_late hbase hline h) (ho pins s σ H ρ η S I tk sr st) ?_
  rintro v s1 σ1 η1 H1 d S1 _ tk1 I1 g1 st1 ⟨rfl, x, rx, rd⟩
  rw [bind_run]
  cases qr : rc d S1 with
  | bad => trivial
  | ok _ S1' =>
  obtain ⟨eS, hty'⟩ := ht st1 rd qr
  subst eS
  dsimp only
  have key := Out.back (mono_sem _) g1 (hm pins s1 σ1 H1 η1 S1' x [] v [] d [] I1 tk1 st1 rx .nil rd .nil)
  cases q : f d [] S1' with
  | bad => trivial
  | ok d' S' =>
    rw [q] at key
    intro E
    obtain ⟨h1, h2⟩ := tyV_is I1 rx hty'
    exact ⟨T, id, pa, slot, hty, h1, h2, Calls.callWith_builtin rfl (PySem.evalArgs_none (key E))⟩
end
/-! ### operators -/
inductive Bop where | add | sub | mul | fdiv | mod | pow
  deriving DecidableEq, Inhabited
inductive Cop where | eq | ne | lt | le | gt | ge | is | isNot | inn | notIn
  deriving DecidableEq, Inhabited
def Bop.op : Bop → Operator
  | .add => .Add | .sub => .Sub | .mul => .Mult | .fdiv => .FloorDiv | .mod => .Mod | .pow => .Pow
def Cop.op : Cop → CmpOp
  | .eq => .Eq | .ne => .NotEq | .lt => .Lt | .le => .LtE | .gt => .Gt | .ge => .GtE | .is => .Is | .isNot => .IsNot | .inn => .In | .notIn => .NotIn
def Bop.ev (o : Bop) (m : Bool) : D → D → M D := match o with
  | .add => addD m | .sub => subD | .mul => mulM m | .fdiv => fdivD | .mod => modD | .pow => powD
def Cop.ev : Cop → D → D → M D
  | .eq => eqD | .ne => neD | .lt => ltD | .le => leD | .gt => gtD | .ge => geD | .is => isD | .isNot => isNotD | .inn => inD | .notIn => notInD
theorem Bop.ok {X : Cx} (o : Bop) (m : Bool) : Op2 τ X (binaryOp o.op) (o.ev m) := by
  cases o
  · exact op_addD m
  · exact op_subD
  · exact op_mulM m
  · exact op_fdivD
  · exact op_modD
  · exact op_powD
theorem Cop.ok {X : Cx} {n : Nat} (c : Ck n X) (o : Cop) : Op2 τ X (compareOp o.op) o.ev := by
  cases o
  · exact op_eqDD c
  · exact op_neDD c
  · exact op_ltDD
  · exact op_leDD
  · exact op_gtDD
  · exact op_geDD
  · exact op_isDD
  · exact op_isNotDD
  · exact op_inDD (c.units (k := 1) (by decide))
  · exact op_notInDD (c.units (k := 1) (by decide))
inductive Fn where | len | list | tuple | sum | all | any | min | int | str | repr
  deriving DecidableEq, Inhabited
def Fn.name : Fn → String
  | .len => "len" | .list => "list" | .tuple => "tuple" | .sum => "sum" | .all => "all" | .any => "any" | .min => "min" | .int => "int" | .str => "str" | .repr => "repr"
def Fn.isType : Fn → Bool
  | .list => true | .tuple => true | .int => true | .str => true | _ => false
def Fn.ev (f : Fn) (m : Bool) : List D → M D := match f with
  | .len => lenD | .list => listD m | .tuple => tupleD | .sum => sumD | .all => allD | .any => anyD | .min => minD | .int => intD | .str => strD
  | .repr => fun ds => match ds with | [d] => reprD d | _ => M.fail
theorem Fn.okB {X : Cx} {n : Nat} (c : Ck n X) (f : Fn) (m : Bool) (h : f.isType = false) : OpL τ X (fun us => call (.builtin f.name) us) (f.ev m) := by
  cases f
  · exact call_lenDD
  · cases h
  · cases h
  · exact call_sumDD c
  · exact call_allDD c
  · exact call_anyDD c
  · exact call_minDD c
  · cases h
  · cases h
  · exact opL_of_op1 (call_reprD c) fun u => rfl
theorem Fn.okT {X : Cx} (f : Fn) (m : Bool) (h : f.isType = true) : OpL τ X (fun us => call (.type f.name) us) (f.ev m) := by
  cases f
  · cases h
  · exact call_listDD m
  · exact call_tupleDD
  · cases h
  · cases h
  · cases h
  · cases h
  · exact call_intDD
  · exact call_strDD
  · cases h
theorem Fn.boot (f : Fn) : bootBuiltins (Str.ofString f.name) = some (if f.isType then .type f.name else .builtin f.name) := by
  cases f <;> decide +kernel
theorem Fn.nn (f : Fn) : Str.ofString f.name ≠ "__name__" ∧ (Str.ofString f.name == ("__debug__" : Str)) = false := by
  cases f <;> decide +kernel
inductive Me where | append | extend | pop | join | split | count | upper
  deriving DecidableEq, Inhabited
def Me.ty : Me → String
  | .append => "list" | .extend => "list" | .pop => "list" | _ => "str"
def Me.name : Me → String
  | .append => "append" | .extend => "extend" | .pop => "pop" | .join => "join" | .split => "split" | .count => "count" | .upper => "upper"
def Me.id : Me → String
  | .append => "list.append" | .extend => "list.extend" | .pop => "list.pop" | .join => "str.join" | .split => "str.split" | .count => "str.count" | .upper => "str.upper"
def Me.ev (f : Me) (m : Bool) : D → List D → M D := match f with
  | .append => appendD | .extend => extendD | .pop => popD | .join => joinD | .split => splitD m | .count => countD | .upper => upperD
theorem Me.pa (f : Me) : PlainAttrs f.ty := by
  cases f
  all_goals first | exact F.plainAttrs_list | exact F.plainAttrs_str
theorem Me.slot (f : Me) : Slot f.ty (Str.ofString f.name) f.id := by
  cases f
  · exact F.slot_list_append
  · exact F.slot_list_extend
  · exact F.slot_list_pop
  · exact F.slot_str_join
  · exact F.slot_str_split
  · exact F.slot_str_count
  · exact F.slot_str_upper
theorem Me.hty (f : Me) : typeOf (.builtin f.id) = pure (.type "method_descriptor") := by
  cases f
  · exact F.type_list_append
  · exact F.type_list_extend
  · exact F.type_list_pop
  · exact F.type_str_join
  · exact F.type_str_split
  · exact F.type_str_count
  · exact F.type_str_upper
theorem Me.ok {X : Cx} (f : Me) (m : Bool) : Mt τ X f.ty f.id (f.ev m) := by
  cases f
  · exact mt_appendD
  · exact mt_extendD
  · exact mt_popD
  · exact mt_joinD
  · exact mt_splitD m
  · exact mt_countD
  · exact mt_upperD
def Me.rc : Me → D → M Unit
  | .append => rcL | .extend => rcL | .pop => rcL | _ => rcS
theorem rcL_ok {K : PySem.W.Frag} {η : List Addr} {H : Hp} {S : Sto} {d : D} {x : V} {S' : Sto} (st : StoOk K η H S) (r : Rep K η H d x) (h : rcL d S = .ok () S') : S' = S ∧ tyV K "list" x H := by
  cases r <;> try (cases h; done)
  rename_i n a h1
  have h : (match S[n]? with | some (.lst _) => R.ok () S | _ => .bad) = .ok () S' := h
  cases q : S[n]? with
  | none => rw [q] at h; cases h
  | some oo =>
    rw [q] at h
    cases oo with
    | lst ds =>
      cases h
      obtain ⟨vs, e, _⟩ := st.look n _ a q h1
      exact ⟨rfl, .inl ⟨rfl, vs, SqL.of e⟩⟩
    | dic _ => cases h
    | fdic _ => cases h
theorem rcS_ok {K : PySem.W.Frag} {η : List Addr} {H : Hp} {S : Sto} {d : D} {x : V} {S' : Sto} (st : StoOk K η H S) (r : Rep K η H d x) (h : rcS d S = .ok () S') : S' = S ∧ tyV K "str" x H := by
  cases r <;> try (cases h; done)
  cases h
  exact ⟨rfl, rfl⟩
theorem Me.tyv {K : PySem.W.Frag} (f : Me) {η : List Addr} {H : Hp} {S : Sto} {d : D} {x : V} {S' : Sto} (st : StoOk K η H S) (r : Rep K η H d x) (h : f.rc d S = .ok () S') : S' = S ∧ tyV K f.ty x H := by
  cases f
  · exact rcL_ok st r h
  · exact rcL_ok st r h
  · exact rcL_ok st r h
  · exact rcS_ok st r h
  · exact rcS_ok st r h
  · exact rcS_ok st r h
  · exact rcS_ok st r h
end MP

/-! MP18: the small language: expressions. -/
namespace MP
open PySem L2
/-- targets: a name; names, one of them perhaps starred (and whether its list is tracked) -/
inductive T1 where
  | nm (i : Nat)
  | tp (is : List Nat)
inductive Tg where
  | nm (i : Nat)
  | tp (is : List Nat) (star : Option (Nat × Bool))
  /-- targets within targets -/
  | t2 (ts : List T1)
mutual
inductive Ex where
  | non | bl (b : Bool) | int (i : Int) | str (x : Str) | neg (i : Int)
  | var (i : Nat)
  | glb (k : Nat) (d : D)
  | bin (o : Bop) (m : Bool) (a b : Ex)
  | cmp (o : Cop) (a b : Ex)
  | chn (o p : Cop) (a b c : Ex)
  | not (a : Ex)
  | and (a r : Ex)
  | or (a r : Ex)
  | one (a : Ex)
  | ife (t : Tx) (a b : Ex)
  | ix (a b : Ex)
  | sl (m : Bool) (a : Ex) (lo hi : Ox)
  | rev (m : Bool) (a : Ex)
  | tup (es : Exs)
  | lst (m : Bool) (es : Exs)
  | dic0 (m : Bool)
  | dic1 (k : Int) (i : Nat)
  | dicC (m : Bool) (ps : List (Key × Key))
  | gin (neg : Bool) (k : Nat) (kds : List (Key × D)) (a : Ex)
  | gix (k : Nat) (kds : List (Key × D)) (a : Ex)
  | fn (f : Fn) (m : Bool) (es : Exs)
  | isi (t : Ty) (a : Ex)
  | me (f : Me) (m : Bool) (o : Ex) (es : Exs)
  | repl (y z : Str) (o : Ex)
  | call (k : Nat) (es : Exs)
  | lc (m : Bool) (tg : Tg) (it : Ix) (ifs : Txs) (elt : Ex) (own : List Nat)
inductive Ox where
  | non
  | som (e : Ex)
inductive Exs where
  | nil
  | cons (e : Ex) (r : Exs)
inductive Tx where
  | cmp (o : Cop) (a b : Ex)
  | chn (o p : Cop) (a b c : Ex)
  | not (t : Tx)
  | and (ts : Txs)
  | or (ts : Txs)
  | gin (neg : Bool) (k : Nat) (kds : List (Key × D)) (a : Ex)
  | val (e : Ex)
inductive Txs where
  | nil
  | cons (t : Tx) (r : Txs)
inductive Ix where
  | seq (e : Ex)
  | rng (es : Exs)
  | enu (es : Exs)
end

mutual
def sameD : D → D → Bool
  | .non, .non => true
  | .bl a, .bl b => a == b
  | .int a, .int b => a == b
  | .str a, .str b => a == b
  | .tup a, .tup b => sameL a b
  | .lst a, .lst b => sameL a b
  | _, _ => false
def sameL : List D → List D → Bool
  | [], [] => true
  | x :: xs, y :: ys => sameD x y && sameL xs ys
  | _, _ => false
end
mutual
theorem sameD_eq : ∀ (a b : D), sameD a b = true → a = b
  | .non, b, h => by cases b <;> first | rfl | exact (Bool.false_ne_true h).elim
  | .bl a, b, h => by cases b <;> first | exact (Bool.false_ne_true h).elim | (rw [eq_of_beq (show (a == _) = true from h)])
  | .int a, b, h => by cases b <;> first | exact (Bool.false_ne_true h).elim | (rw [eq_of_beq (show (a == _) = true from h)])
  | .str a, b, h => by cases b <;> first | exact (Bool.false_ne_true h).elim | (rw [eq_of_beq (show (a == _) = true from h)])
  | .tup a, b, h => by cases b <;> first | exact (Bool.false_ne_true h).elim | (rw [sameL_eq a _ h])
  | .lst a, b, h => by cases b <;> first | exact (Bool.false_ne_true h).elim | (rw [sameL_eq a _ h])
  | .frz a, b, h => by cases b <;> exact (Bool.false_ne_true h).elim
  | .dic a, b, h => by cases b <;> exact (Bool.false_ne_true h).elim
  | .ref a, b, h => by cases b <;> exact (Bool.false_ne_true h).elim
theorem sameL_eq : ∀ (a b : List D), sameL a b = true → a = b
  | [], b, h => by cases b <;> first | rfl | exact (Bool.false_ne_true h).elim
  | x :: xs, b, h => by
    cases b with
    | nil => exact (Bool.false_ne_true h).elim
    | cons y ys =>
      have h : (sameD x y && sameL xs ys) = true := h
      rw [Bool.and_eq_true] at h
      rw [sameD_eq x y h.1, sameL_eq xs ys h.2]
end
def sameK : List (Key × D) → List (Key × D) → Bool
  | [], [] => true
  | x :: xs, y :: ys => decide (x.1 = y.1) && sameD x.2 y.2 && sameK xs ys
  | _, _ => false
theorem sameK_eq : ∀ (a b : List (Key × D)), sameK a b = true → a = b
  | [], b, h => by cases b <;> first | rfl | exact (Bool.false_ne_true h).elim
  | (k, x) :: xs, b, h => by
    cases b with
    | nil => exact (Bool.false_ne_true h).elim
    | cons y ys =>
      obtain ⟨k', y⟩ := y
      have h : (decide (k = k') && sameD x y && sameK xs ys) = true := h
      rw [Bool.and_eq_true, Bool.and_eq_true] at h
      rw [of_decide_eq_true h.1.1, sameD_eq x y h.1.2, sameK_eq xs ys h.2]
def setNames : List Nat → List D → Env → M Env
  | [], [], ρ => pure ρ
  | i :: is, d :: ds, ρ => setNames is ds (ρ.set i (some d))
  | _, _, _ => M.fail
def T1.ev : T1 → D → Env → M Env
  | .nm i, d, ρ => pure (ρ.set i (some d))
  | .tp is, d, ρ => unpackD is.length none d >>= fun ds => setNames is ds ρ
def Tg.ev : Tg → D → Env → M Env
  | .nm i, d, ρ => pure (ρ.set i (some d))
  | .tp is star, d, ρ => unpackD is.length star d >>= fun ds => setNames is ds ρ
  | .t2 ts, d, ρ => unpackD ts.length none d >>= fun ds => asgs (ts.map T1.ev) ds ρ
def getV (ρ : Env) (i : Nat) : M D := M.of ((ρ[i]?).bind id)

section
variable (φ : Nat → List D → M D)
mutual
def evE : Ex → Env → M D
  | .non, _ => pure .non
  | .bl b, _ => pure (.bl b)
  | .int i, _ => pure (.int i)
  | .str x, _ => pure (.str x)
  | .neg i, _ => pure (.int (-i))
  | .var i, ρ => getV ρ i
  | .glb _ d, _ => pure d
  | .bin o m a b, ρ => evE a ρ >>= fun d => evE b ρ >>= fun e => o.ev m d e
  | .cmp o a b, ρ => evE a ρ >>= fun d => evE b ρ >>= fun e => o.ev d e
  | .chn o p a b c, ρ => evE a ρ >>= fun d => evE b ρ >>= fun e => o.ev d e >>= fun z => asB z >>= fun t => if t = true then evE c ρ >>= fun e' => p.ev e e' else pure (.bl false)
  | .not a, ρ => evE a ρ >>= fun d => asB d >>= fun b => pure (.bl (!b))
  | .and a r, ρ => evE a ρ >>= fun d => asB d >>= fun t => if t = true then evE r ρ else pure (.bl false)
  | .or a r, ρ => evE a ρ >>= fun d => asB d >>= fun t => if t = true then pure (.bl true) else evE r ρ
  | .one a, ρ => evE a ρ
  | .ife t a b, ρ => evT t ρ >>= fun c => if c = true then evE a ρ else evE b ρ
  | .ix a b, ρ => evE a ρ >>= fun d => evE b ρ >>= fun e => ixD d e
  | .sl m a lo hi, ρ => evE a ρ >>= fun d => evO lo ρ >>= fun l => evO hi ρ >>= fun h => sliceE m d l h
  | .rev m a, ρ => evE a ρ >>= revE m
  | .tup es, ρ => evL es ρ >>= fun ds => pure (.tup ds)
  | .lst m es, ρ => evL es ρ >>= fun ds => newL m ds
  | .dic0 m, _ => newD m []
  | .dic1 k i, ρ => getV ρ i >>= fun d => pure (.dic [(.inl k, d)])
  | .dicC m ps, _ => newD m (mergeD [] (ps.map fun p => (p.1, keyC p.2)))
  | .gin neg _ kds a, ρ => evE a ρ >>= ginD neg kds
  | .gix _ kds a, ρ => evE a ρ >>= gixD kds
  | .fn f m es, ρ => evL es ρ >>= f.ev m
  | .isi t a, ρ => evE a ρ >>= isinstD t
  | .me f m o es, ρ => evE o ρ >>= fun d => f.rc d >>= fun _ => evL es ρ >>= fun ds => f.ev m d ds
  | .repl y z o, ρ => evE o ρ >>= replD y z
  | .call k es, ρ => evL es ρ >>= φ k
  | .lc m tg it ifs elt own, ρ => evI it ρ >>= lcS m tg.ev (evA ifs) (evE elt) (wipeE ρ own)
def evO : Ox → Env → M (Option Int)
  | .non, _ => pure none
  | .som e, ρ => evE e ρ >>= asI
def evL : Exs → Env → M (List D)
  | .nil, _ => pure []
  | .cons e r, ρ => evE e ρ >>= fun d => evL r ρ >>= fun ds => pure (d :: ds)
def evT : Tx → Env → M Bool
  | .cmp o a b, ρ => evE a ρ >>= fun d => evE b ρ >>= fun e => o.ev d e >>= asB
  | .chn o p a b c, ρ => evE a ρ >>= fun d => evE b ρ >>= fun e => o.ev d e >>= fun z => asB z >>= fun t => if t = true then evE c ρ >>= fun e' => p.ev e e' >>= asB else pure false
  | .not t, ρ => evT t ρ >>= fun b => pure (!b)
  | .and ts, ρ => evA ts ρ
  | .or ts, ρ => evOr ts ρ
  | .gin neg _ kds a, ρ => evE a ρ >>= fun d => ginD neg kds d >>= asB
  | .val e, ρ => evE e ρ >>= truD
def evA : Txs → Env → M Bool
  | .nil, _ => pure true
  | .cons t r, ρ => evT t ρ >>= fun c => if c = true then evA r ρ else pure false
def evOr : Txs → Env → M Bool
  | .nil, _ => pure false
  | .cons t r, ρ => evT t ρ >>= fun c => if c = true then pure true else evOr r ρ
def evI : Ix → Env → M Src
  | .seq e, ρ => evE e ρ >>= seqSrc
  | .rng es, ρ => evL es ρ >>= rngSrc
  | .enu es, ρ => evL es ρ >>= enuL
end
end

/-! ### the check -/
structure FI where
  name : Str
  np : Nat
structure Tab where
  fns : List FI
  gls : List (Str × D)
  rp : Bool
  gds : List (Str × List (Key × D))
def bltNames : List Str := (["len", "list", "tuple", "sum", "all", "any", "min", "int", "str", "repr", "isinstance", "range", "bool", "dict", "enumerate"] : List String).map Str.ofString
structure TabOk (τ : Nat) (X : Cx) (n : Nat) (T : Tab) (φ : Nat → List D → M D) : Prop where
  fn : ∀ (k : Nat) (p : FI), T.fns[k]? = some p → ∃ f fd ps, ps.length = p.np ∧ X.mg p.name = some (.ref f) ∧ PySem.W.keepIn X.K (.ref f) = true ∧ Binds X.K fd ps [] ∧ FnD τ X.prog X.w X.K X.mg X.base n f fd ps (φ k)
  gl : ∀ (k : Nat) (p : Str × D), T.gls[k]? = some p → ∃ v u, X.mg p.1 = some u ∧ RelV v u ∧ ∀ η H, Rep X.K η H p.2 v
  bl : ∀ x ∈ bltNames, X.mg x = none
  rp : T.rp = true → 1 ≤ τ
  gd : ∀ (k : Nat) (p : Str × List (Key × D)), T.gds[k]? = some p → KdOk X p.1 p.2
structure Ctx (τ : Nat) (X : Cx) (n : Nat) (T : Tab) (φ : Nat → List D → M D) (N : List Str) (sc : Scope) (fb : Str → Bool) : Prop where
  hN : X.N = N
  hs : X.env.scope = sc
  ck : Ck n X
  tab : TabOk τ X n T φ
  hf : ∀ x, fb x = true → X.fn x = true
def visB (sc : Scope) (x : Str) : Bool := sc.names.lookup x == some .local || sc.names.lookup x == some .cell || sc.names.lookup x == some .free
def glB (sc : Scope) (x : Str) : Bool := sc.names.lookup x == some .globalImplicit
def okName (x : Str) : Bool := !(x == ("__debug__" : Str)) && !(x == ("__classdict__" : Str))
def bltB (sc : Scope) (x : Str) : Bool := glB sc x && bltNames.contains x
def plainTest : Expr → Bool
  | .UnaryOp .Not _ _ => false
  | .BoolOp .. => false
  | .IfExp .. => false
  | .Compare .. => false
  | _ => true
def plainIx : Expr → Bool
  | .Slice .. => false
  | _ => true
def plainBase : Expr → Bool
  | .Call (.Name _ _) [] [] _ => false
  | _ => true
def noSet : Expr → Bool
  | .Set .. => false
  | _ => true
def okNm (N : List Str) (sc : Scope) (fb : Str → Bool) (i : Nat) (x : Str) : Bool := N[i]? == some x && (sc.names.lookup x == some .local || (sc.names.lookup x == some .cell && fb x))
def chkNms (N : List Str) (sc : Scope) (fb : Str → Bool) (st : Option Nat) : Nat → List Nat → List Expr → Bool
  | _, [], [] => true
  | j, i :: is, .Name x _ :: es => st != some j && okNm N sc fb i x && chkNms N sc fb st (j + 1) is es
  | j, i :: is, .Starred (.Name x _) _ :: es => st == some j && okNm N sc fb i x && chkNms N sc fb st (j + 1) is es
  | _, _, _ => false
def chkT1 (N : List Str) (sc : Scope) (fb : Str → Bool) : T1 → Expr → Bool
  | .nm i, .Name x _ => okNm N sc fb i x
  | .tp is, .Tuple es _ _ => chkNms N sc fb none 0 is es
  | _, _ => false
def chkT1s (N : List Str) (sc : Scope) (fb : Str → Bool) : List T1 → List Expr → Bool
  | [], [] => true
  | t :: ts, e :: es => chkT1 N sc fb t e && chkT1s N sc fb ts es
  | _, _ => false
def chkG (N : List Str) (sc : Scope) (fb : Str → Bool) : Tg → Expr → Bool
  | .nm i, .Name x _ => okNm N sc fb i x
  | .tp is st, .Tuple es _ _ => chkNms N sc fb (st.map (·.1)) 0 is es && (match st with | none => true | some (j, _) => decide (j < is.length))
  | .t2 ts, .Tuple es _ _ => chkT1s N sc fb ts es
  | _, _ => false
def T1.slots : T1 → List Nat
  | .nm i => [i]
  | .tp is => is
def Tg.slots : Tg → List Nat
  | .nm i => [i]
  | .tp is _ => is
  | .t2 ts => ts.flatMap T1.slots
def ownP (N : List Str) (own : List Nat) : List (Str × Nat) := own.map fun i => ((N[i]?).getD (Str.ofString ""), i)
def blkB (N : List Str) (sc scope : Scope) (own : List Nat) : Bool :=
  scope.kind == .function && scope.names.all (fun y => scope.names.lookup y.1 == some y.2) && own.all (fun i => (N[i]?).isSome) &&
  scope.names.all (fun y => !(y.2 == .free) || sc.names.lookup y.1 == some .cell || sc.names.lookup y.1 == some .free) &&
  scope.names.all (fun y => !(y.2 == .local || y.2 == .cell) || ((ownP N own).map (·.1)).contains y.1 || !(N.contains y.1))
def tupT : Ix → Expr → Bool
  | .enu _, .Tuple .. => true
  | .enu _, _ => false
  | _, _ => true
section
variable (T : Tab) (N : List Str)
mutual
def chkE (sc : Scope) (fb : Str → Bool) : Ex → Expr → Bool
  | .non, .Constant .none _ _ => true
  | .bl b, .Constant (.bool c) _ _ => b == c
  | .int i, .Constant (.int j) _ _ => i == j
  | .str x, .Constant (.str y) _ _ => x == y
  | .neg i, .UnaryOp .USub (.Constant (.int j) _ _) _ => i == j
  | .var i, .Name x _ => N[i]? == some x && visB sc x && okName x
  | .glb k d, .Name x _ => (match T.gls[k]? with | some p => p.1 == x && sameD p.2 d | none => false) && glB sc x && okName x
  | .bin o _ a b, .BinOp l op r _ => op == o.op && chkE sc fb a l && chkE sc fb b r
  | .cmp o a b, .Compare l [op] [r] _ => op == o.op && !(behindInMarks op r) && chkE sc fb a l && chkE sc fb b r
  | .chn o p a b c, .Compare l [op, op'] [r, r'] _ => op == o.op && op' == p.op && !(lastMarks [op, op'] [r, r']) && chkE sc fb a l && chkE sc fb b r && chkE sc fb c r'
  | .not a, .UnaryOp .Not e _ => chkE sc fb a e
  | .and a r, .BoolOp .And (e :: e' :: es) p => chkE sc fb a e && chkE sc fb r (.BoolOp .And (e' :: es) p)
  | .or a r, .BoolOp .Or (e :: e' :: es) p => chkE sc fb a e && chkE sc fb r (.BoolOp .Or (e' :: es) p)
  | .one a, .BoolOp _ [e] _ => chkE sc fb a e
  | .ife t a b, .IfExp c x y _ => chkT sc fb t c && chkE sc fb a x && chkE sc fb b y
  | .ix a b, .Subscript x y _ => plainIx y && chkE sc fb a x && chkE sc fb b y
  | .sl _ a lo hi, .Subscript x (.Slice l h none _) _ => chkE sc fb a x && chkO sc fb lo l && chkO sc fb hi h
  | .rev _ a, .Subscript x (.Slice none none (some (.UnaryOp .USub (.Constant (.int j) _ _) _)) _) _ => j == 1 && chkE sc fb a x
  | .tup es, .Tuple xs _ _ => chkL sc fb es xs && decide (xs.length ≤ SL)
  | .lst _ es, .List xs _ => chkL sc fb es xs && decide (xs.length ≤ SL)
  | .dic0 _, .Dict [] [] _ => true
  | .dicC _ ps, .Dict ks vs _ => chkCs ps ks vs && !ps.isEmpty && decide (ps.length ≤ 15)
  | .gin neg k kds a, .Compare l [op] [.Name x _] _ => op == inOp neg && (match T.gds[k]? with | some p => p.1 == x && sameK p.2 kds | none => false) && glB sc x && okName x && chkE sc fb a l
  | .gix k kds a, .Subscript (.Name x _) y _ => plainIx y && (match T.gds[k]? with | some p => p.1 == x && sameK p.2 kds | none => false) && glB sc x && okName x && chkE sc fb a y
  | .dic1 k i, .Dict [some (.Constant (.int j) _ _)] [.Name x _] _ => k == j && N[i]? == some x && visB sc x && okName x
  | .fn f _ es, .Call (.Name x _) (a :: as) [] _ => x == Str.ofString f.name && bltB sc x && chkL sc fb es (a :: as)
  | .isi t a, .Call (.Name x _) [e, .Name y _] [] _ => x == "isinstance" && y == Str.ofString t.name && bltB sc x && bltB sc y && noStar e && chkE sc fb a e
  | .me f _ o es, .Call (.Attribute x name ap) as [] cp => name == Str.ofString f.name && plainBase x && ap.endLine == cp.line && decide (as.length < 30) && chkE sc fb o x && chkL sc fb es as
  | .repl y z o, .Call (.Attribute x name ap) [.Constant (.str y') _ _, .Constant (.str z') _ _] [] cp => T.rp && name == "replace" && y == y' && z == z' && !(y' == z') && plainBase x && ap.endLine == cp.line && chkE sc fb o x
  | .call k es, .Call (.Name x _) (a :: as) [] _ => (match T.fns[k]? with | some p => p.name == x && p.np == (a :: as).length | none => false) && glB sc x && okName x && chkL sc fb es (a :: as)
  | .lc _ tg it ifs elt own, .ListComp e [⟨tg', it', ifs', z⟩] scope _ => (z == 0) && (chkI sc fb it it' && (noSet it' && tupT it tg') && blkB N sc scope own && tg.slots.all (own.contains ·) &&
      chkG N (relS scope sc) (fun x => scope.names.lookup x == some .cell) tg tg' && decide (ifs'.length ≤ 1) && chkTs (relS scope sc) (fun x => scope.names.lookup x == some .cell) ifs ifs' && chkE (relS scope sc) (fun x => scope.names.lookup x == some .cell) elt e)
  | _, _ => false
def chkO (sc : Scope) (fb : Str → Bool) : Ox → Option Expr → Bool
  | .non, none => true
  | .som e, some x => chkE sc fb e x
  | _, _ => false
def chkL (sc : Scope) (fb : Str → Bool) : Exs → List Expr → Bool
  | .nil, [] => true
  | .cons e r, x :: xs => noStar x && chkE sc fb e x && chkL sc fb r xs
  | _, _ => false
def chkT (sc : Scope) (fb : Str → Bool) : Tx → Expr → Bool
  | .cmp o a b, .Compare l [op] [r] _ => op == o.op && !(behindInMarks op r) && chkE sc fb a l && chkE sc fb b r
  | .chn o p a b c, .Compare l [op, op'] [r, r'] _ => op == o.op && op' == p.op && !(lastMarks [op, op'] [r, r']) && chkE sc fb a l && chkE sc fb b r && chkE sc fb c r'
  | .not t, .UnaryOp .Not e _ => chkT sc fb t e
  | .and ts, .BoolOp .And es _ => chkTs sc fb ts es
  | .or ts, .BoolOp .Or es _ => chkTs sc fb ts es
  | .gin neg k kds a, .Compare l [op] [.Name x _] _ => op == inOp neg && (match T.gds[k]? with | some p => p.1 == x && sameK p.2 kds | none => false) && glB sc x && okName x && chkE sc fb a l
  | .val a, e => plainTest e && chkE sc fb a e
  | _, _ => false
def chkTs (sc : Scope) (fb : Str → Bool) : Txs → List Expr → Bool
  | .nil, [] => true
  | .cons t r, x :: xs => chkT sc fb t x && chkTs sc fb r xs
  | _, _ => false
def chkI (sc : Scope) (fb : Str → Bool) : Ix → Expr → Bool
  | .seq a, e => chkE sc fb a e
  | .rng es, .Call (.Name x _) (a :: as) [] _ => x == "range" && bltB sc x && chkL sc fb es (a :: as)
  | .enu es, .Call (.Name x _) [a] [] _ => x == "enumerate" && bltB sc x && chkL sc fb es [a]
  | _, _ => false
end
end
end MP

/-! MP19: the check is sound, for expressions. -/
namespace MP
open PySem L2
theorem and2 {a b : Bool} (h : (a && b) = true) : a = true ∧ b = true := by rw [Bool.and_eq_true] at h; exact h
theorem notF {a : Bool} (h : (!a) = true) : a = false := by cases a <;> first | rfl | cases h
theorem kind_eq (env : PySem.Env) (x : Str) : env.kindOf x = env.scope.names.lookup x := rfl
section
variable {X : Cx} {n : Nat} {T : Tab} {φ : Nat → List D → M D} {N : List Str} {sc : Scope} {fb : Str → Bool}
theorem Ctx.vis (c : Ctx τ X n T φ N sc fb) {x : Str} (h : visB sc x = true) : Vis X.env.scope x := by
  rw [c.hs]
  unfold visB at h
  rw [Bool.or_eq_true, Bool.or_eq_true] at h
  rcases h with (h | h) | h
  · exact .inl (eq_of_beq h)
  · exact .inr (.inl (eq_of_beq h))
  · exact .inr (.inr (eq_of_beq h))
theorem Ctx.gl (c : Ctx τ X n T φ N sc fb) {x : Str} (h : glB sc x = true) : Gl X x := by
  unfold Gl
  rw [kind_eq, c.hs]
  exact eq_of_beq h
theorem okName_1 {x : Str} (h : okName x = true) : (x == ("__debug__" : Str)) = false ∧ (x == ("__classdict__" : Str)) = false := ⟨notF (and2 h).1, notF (and2 h).2⟩
theorem Ctx.nm (c : Ctx τ X n T φ N sc fb) {i : Nat} {x : Str} (h : (N[i]? == some x) = true) : X.N[i]? = some x := by rw [c.hN]; exact eq_of_beq h
theorem Ctx.blt (c : Ctx τ X n T φ N sc fb) {x : Str} (h : bltB sc x = true) : Gl X x ∧ X.mg x = none := by
  obtain ⟨h1, h2⟩ := and2 h
  exact ⟨c.gl h1, c.tab.bl x (List.contains_iff_mem.mp h2)⟩
theorem Ctx.store (c : Ctx τ X n T φ N sc fb) {i : Nat} {x : Str} (h : okNm N sc fb i x = true) : X.N[i]? = some x ∧ Loc X.env.scope x ∧ (X.fn x = true ∨ X.env.scope.names.lookup x = some .local) := by
  obtain ⟨h1, h2⟩ := and2 h
  refine ⟨c.nm h1, ?_⟩
  rw [c.hs]
  rw [Bool.or_eq_true] at h2
  rcases h2 with h2 | h2
  · exact ⟨.inl (eq_of_beq h2), .inr (eq_of_beq h2)⟩
  · obtain ⟨h2, h3⟩ := and2 h2
    exact ⟨.inr (eq_of_beq h2), .inl (c.hf x h3)⟩
theorem Ctx.blk (c : Ctx τ X n T φ N sc fb) (s : Shared) (H : Hp) (scope : Scope) (cl : List (Str × Addr)) (C : Addr) (fp : List Addr) :
    Ctx τ (X.blk s H scope (compEnvC scope cl C X.env) fp) n T φ N (relS scope sc) (fun x => scope.names.lookup x == some .cell) where
  hN := c.hN
  hs := by
    show relS scope X.env.scope = relS scope sc
    rw [c.hs]
  ck := ⟨c.ck.calm, c.ck.gd, c.ck.rm, c.ck.sm, c.ck.nd⟩
  tab := ⟨c.tab.fn, c.tab.gl, c.tab.bl, c.tab.rp, c.tab.gd⟩
  hf := fun x h => h
/-! targets -/
theorem setNames_asgs : ∀ (is : List Nat) (ds : List D) (ρ : Env), setNames is ds ρ = asgs (is.map fun i d (ρ : Env) => pure (ρ.set i (some d))) ds ρ
  | [], [], ρ => rfl
  | [], _ :: _, ρ => rfl
  | _ :: _, [], ρ => rfl
  | i :: is, d :: ds, ρ => by
    show setNames is ds (ρ.set i (some d)) = _
    rw [setNames_asgs is ds]
    rfl
theorem chkNms_ok (c : Ctx τ X n T φ N sc fb) {st : Option Nat} : ∀ (j : Nat) (is : List Nat) (es : List Expr), chkNms N sc fb st j is es = true →
    PGDs τ X es (asgs (is.map fun i d (ρ : Env) => pure (ρ.set i (some d)))) ∧ (assignEach es X.env).length = is.length ∧ (∀ k, (assignEach es X.env).findIdx? (·.1) = some k ↔ (st = some (j + k) ∧ k < is.length))
  | j, [], [], _ => ⟨pgds_nil, rfl, fun k => by simp [assignEach]⟩
  | j, i :: is, e :: es, h => by
    cases e with
    | Name x p =>
      have h : (st != some j && okNm N sc fb i x && chkNms N sc fb st (j + 1) is es) = true := h
      obtain ⟨h1, h3⟩ := and2 h
      obtain ⟨h1, h2⟩ := and2 h1
      obtain ⟨i1, i2, i3⟩ := chkNms_ok c (j + 1) is es h3
      obtain ⟨n1, n2, n3⟩ := c.store h2
      refine ⟨pgds_cons (b := false) (pgd_name c.ck.nd n1 n2 n3) i1 rfl, by show (assignEach es X.env).length + 1 = is.length + 1; rw [i2], fun k => ?_⟩
      have hne : st ≠ some j := by simpa using h1
      show (((false, assign (.Name x p) X.env) :: assignEach es X.env).findIdx? (·.1) = some k) ↔ _
      rw [List.findIdx?_cons]
      simp only [Bool.false_eq_true, if_false]
      cases k with
      | zero =>
        constructor
        · intro z; simp at z
        · intro z; exact absurd z.1 (by simpa using hne)
      | succ k =>
        rw [Option.map_eq_some_iff]
        constructor
        · rintro ⟨a, z1, z2⟩
          obtain rfl : a = k := by omega
          obtain ⟨z3, z4⟩ := (i3 a).mp z1
          exact ⟨by rw [z3]; congr 1; omega, by simpa using z4⟩
        · rintro ⟨z1, z2⟩
          exact ⟨k, (i3 k).mpr ⟨by rw [z1]; congr 1; omega, by simpa using z2⟩, rfl⟩
    | Starred e' p =>
      cases e' with
      | Name x p' =>
        have h : (st == some j && okNm N sc fb i x && chkNms N sc fb st (j + 1) is es) = true := h
        obtain ⟨h1, h3⟩ := and2 h
        obtain ⟨h1, h2⟩ := and2 h1
        obtain ⟨i1, i2, i3⟩ := chkNms_ok c (j + 1) is es h3
        obtain ⟨n1, n2, n3⟩ := c.store h2
        refine ⟨pgds_cons (b := true) (t' := .Name x p') (pgd_name c.ck.nd n1 n2 n3) i1 rfl, by show (assignEach es X.env).length + 1 = is.length + 1; rw [i2], fun k => ?_⟩
        have he : st = some j := eq_of_beq h1
        show (((true, assign (.Name x p') X.env) :: assignEach es X.env).findIdx? (·.1) = some k) ↔ _
        rw [List.findIdx?_cons]
        simp only [if_true]
        subst he
        constructor
        · intro z
          obtain rfl : 0 = k := by simpa using z
          simp
        · rintro ⟨z1, z2⟩
          obtain rfl : k = 0 := by simpa using z1
          rfl
      | _ => exact (Bool.false_ne_true h).elim
    | _ => exact (Bool.false_ne_true h).elim
  | j, [], _ :: _, h => (Bool.false_ne_true h).elim
  | j, _ :: _, [], h => (Bool.false_ne_true h).elim
theorem chkNms_tp (c : Ctx τ X n T φ N sc fb) {is : List Nat} {st : Option (Nat × Bool)} {es : List Expr} {k : Nat} {p : Pos} (h2 : (match st with | none => true | some (j, _) => decide (j < is.length)) = true) (h1 : chkNms N sc fb (st.map (·.1)) 0 is es = true) : PGD τ X (.Tuple es k p) (Tg.ev (.tp is st)) := by
  obtain ⟨i1, i2, i3⟩ := chkNms_ok c 0 is es h1
  have hst : (assignEach es X.env).findIdx? (·.1) = st.map (·.1) := by
    cases st with
    | none =>
      cases q : (assignEach es X.env).findIdx? (·.1) with
      | none => rfl
      | some k => exact absurd ((i3 k).mp q).1 (by simp)
    | some p =>
      have h2 : p.1 < is.length := of_decide_eq_true h2
      exact (i3 p.1).mpr ⟨by simp, h2⟩
  have key := pgd_tup (k := k) (pos := p) c.ck.calm i1 i2 hst
  have e : (fun d ρ => unpackD is.length st d >>= fun ds => asgs (is.map fun i d (ρ : Env) => pure (ρ.set i (some d))) ds ρ) = Tg.ev (.tp is st) := by
    funext d ρ
    show _ = (unpackD is.length st d >>= fun ds => setNames is ds ρ)
    congr 1
    funext ds
    rw [setNames_asgs]
  rw [← e]
  exact key
theorem chkT1_ok (c : Ctx τ X n T φ N sc fb) (t : T1) (e : Expr) (h : chkT1 N sc fb t e = true) : PGD τ X e t.ev ∧ ∀ es, assignEach (e :: es) X.env = (false, assign e X.env) :: assignEach es X.env := by
  cases t with
  | nm i =>
    cases e <;> try exact (Bool.false_ne_true h).elim
    rename_i x p
    obtain ⟨n1, n2, n3⟩ := c.store (i := i) (x := x) h
    exact ⟨pgd_name c.ck.nd n1 n2 n3, fun es => rfl⟩
  | tp is =>
    cases e <;> try exact (Bool.false_ne_true h).elim
    exact ⟨chkNms_tp (st := none) c rfl h, fun es => rfl⟩
theorem chkT1s_ok (c : Ctx τ X n T φ N sc fb) : ∀ (ts : List T1) (es : List Expr), chkT1s N sc fb ts es = true → PGDs τ X es (asgs (ts.map T1.ev)) ∧ (assignEach es X.env).length = ts.length ∧ (assignEach es X.env).findIdx? (·.1) = none
  | [], [], _ => ⟨pgds_nil, rfl, rfl⟩
  | t :: ts, e :: es, h => by
    obtain ⟨h1, h2⟩ := and2 (show (chkT1 N sc fb t e && chkT1s N sc fb ts es) = true from h)
    obtain ⟨i1, i2, i3⟩ := chkT1s_ok c ts es h2
    obtain ⟨k1, k2⟩ := chkT1_ok c t e h1
    refine ⟨pgds_cons k1 i1 (k2 es), by rw [k2, List.length_cons, List.length_cons, i2], ?_⟩
    rw [k2, List.findIdx?_cons, i3]
    rfl
  | [], _ :: _, h => (Bool.false_ne_true h).elim
  | _ :: _, [], h => (Bool.false_ne_true h).elim
theorem chkG_ok (c : Ctx τ X n T φ N sc fb) : ∀ (tg : Tg) (e : Expr), chkG N sc fb tg e = true → PGD τ X e tg.ev
  | .nm i, e, h => by
    cases e with
    | Name x p =>
      obtain ⟨n1, n2, n3⟩ := c.store (i := i) (x := x) h
      exact pgd_name c.ck.nd n1 n2 n3
    | _ => exact (Bool.false_ne_true h).elim
  | .tp is st, e, h => by
    cases e with
    | Tuple es k p =>
      obtain ⟨h1, h2⟩ := and2 h
      exact chkNms_tp c h2 h1
    | _ => exact (Bool.false_ne_true h).elim
  | .t2 ts, e, h => by
    cases e with
    | Tuple es k p =>
      obtain ⟨i1, i2, i3⟩ := chkT1s_ok c ts es h
      exact pgd_tup (star := none) (k := k) (pos := p) c.ck.calm i1 i2 i3
    | _ => exact (Bool.false_ne_true h).elim
theorem setNames_wipe (own : List Nat) : ∀ (is : List Nat) (ds : List D) (ρ : Env) (S : Sto) (ρ' : Env) (S' : Sto), (∀ i ∈ is, i ∈ own) → setNames is ds ρ S = .ok ρ' S' → wipeE ρ' own = wipeE ρ own
  | [], [], ρ, S, ρ', S', _, h => by cases h; rfl
  | [], _ :: _, ρ, S, ρ', S', _, h => by cases h
  | _ :: _, [], ρ, S, ρ', S', _, h => by cases h
  | i :: is, d :: ds, ρ, S, ρ', S', ho, h => by
    rw [setNames_wipe own is ds (ρ.set i (some d)) S ρ' S' (fun x hx => ho x (List.mem_cons_of_mem _ hx)) h]
    exact wipe_set1 (ho i (by simp)) ρ d
  where
  wipe_set1 {own : List Nat} {i : Nat} (hi : i ∈ own) (ρ : Env) (d : D) : wipeE (ρ.set i (some d)) own = wipeE ρ own := by
    induction own with
    | nil => exact absurd hi (by simp)
    | cons v vs ih =>
      show (wipeE (ρ.set i (some d)) vs).set v none = (wipeE ρ vs).set v none
      by_cases h : i = v
      · subst h
        have : ∀ (ρ : Env) (vs : List Nat), wipeE (ρ.set i (some d)) vs = (wipeE ρ vs).set i ((if i ∈ vs then none else some d)) := by
          intro ρ vs
          induction vs with
          | nil => rfl
          | cons w ws ih =>
            show (wipeE (ρ.set i (some d)) ws).set w none = ((wipeE ρ ws).set w none).set i _
            rw [ih]
            by_cases hw : i = w
            · subst hw
              simp
            · rw [List.set_comm _ _ hw]
              congr 1
              have : (i ∈ w :: ws) ↔ i ∈ ws := by simp [hw]
              simp [hw]
        rw [this, List.set_set]
      · have hi' : i ∈ vs := by
          rcases List.mem_cons.mp hi with z | z
          · exact absurd z h
          · exact z
        rw [ih hi']
theorem tp_wipe {is own : List Nat} {st : Option (Nat × Bool)} (hm : ∀ i ∈ is, i ∈ own) (d : D) (ρ : Env) (S : Sto) (ρ' : Env) (S' : Sto) (q : (unpackD is.length st d >>= fun ds => setNames is ds ρ) S = .ok ρ' S') : wipeE ρ' own = wipeE ρ own := by
  rw [bind_run] at q
  cases q2 : unpackD is.length st d S with
  | bad => rw [q2] at q; cases q
  | ok ds S2 =>
    rw [q2] at q
    exact setNames_wipe own is ds ρ S2 ρ' S' hm q
theorem T1.wipe {t : T1} {own : List Nat} (hm : ∀ i ∈ t.slots, i ∈ own) (d : D) (ρ : Env) (S : Sto) (ρ' : Env) (S' : Sto) (q : t.ev d ρ S = .ok ρ' S') : wipeE ρ' own = wipeE ρ own := by
  cases t with
  | nm i =>
    cases q
    exact setNames_wipe.wipe_set1 (hm i (by simp [T1.slots])) ρ d
  | tp is => exact tp_wipe hm d ρ S ρ' S' q
theorem asgs_wipe {own : List Nat} : ∀ (ts : List T1) (ds : List D) (ρ : Env) (S : Sto) (ρ' : Env) (S' : Sto), (∀ t ∈ ts, ∀ i ∈ t.slots, i ∈ own) → asgs (ts.map T1.ev) ds ρ S = .ok ρ' S' → wipeE ρ' own = wipeE ρ own
  | [], [], ρ, S, ρ', S', _, h => by cases h; rfl
  | [], _ :: _, ρ, S, ρ', S', _, h => by cases h
  | _ :: _, [], ρ, S, ρ', S', _, h => by cases h
  | t :: ts, d :: ds, ρ, S, ρ', S', ho, h => by
    have h : (t.ev d ρ >>= fun ρ1 => asgs (ts.map T1.ev) ds ρ1) S = .ok ρ' S' := h
    rw [bind_run] at h
    cases q : t.ev d ρ S with
    | bad => rw [q] at h; cases h
    | ok ρ1 S1 =>
      rw [q] at h
      rw [asgs_wipe ts ds ρ1 S1 ρ' S' (fun t ht => ho t (List.mem_cons_of_mem _ ht)) h, T1.wipe (ho t (by simp)) d ρ S ρ1 S1 q]
theorem Tg.wipe {tg : Tg} {own : List Nat} (h : tg.slots.all (own.contains ·) = true) (d : D) (ρ : Env) (S : Sto) (ρ' : Env) (S' : Sto) (q : tg.ev d ρ S = .ok ρ' S') : wipeE ρ' own = wipeE ρ own := by
  have hm : ∀ i ∈ tg.slots, i ∈ own := fun i hi => by
    have := List.all_eq_true.mp h i hi
    exact List.contains_iff_mem.mp this
  cases tg with
  | nm i =>
    cases q
    exact setNames_wipe.wipe_set1 (hm i (by simp [Tg.slots])) ρ d
  | tp is st => exact tp_wipe hm d ρ S ρ' S' q
  | t2 ts =>
    have q : (unpackD ts.length none d >>= fun ds => asgs (ts.map T1.ev) ds ρ) S = .ok ρ' S' := q
    rw [bind_run] at q
    cases q2 : unpackD ts.length none d S with
    | bad => rw [q2] at q; cases q
    | ok ds S2 =>
      rw [q2] at q
      exact asgs_wipe ts ds ρ S2 ρ' S' (fun t ht i hi => hm i (List.mem_flatMap.mpr ⟨t, ht, hi⟩)) q
theorem blkB_ok {scope : Scope} {own : List Nat} (h : blkB N sc scope own = true) : BlkOk N sc scope (ownP N own) := by
  unfold blkB at h
  obtain ⟨h, h5⟩ := and2 h
  obtain ⟨h, h4⟩ := and2 h
  obtain ⟨h, h3⟩ := and2 h
  obtain ⟨h1, h2⟩ := and2 h
  refine ⟨eq_of_beq h1, fun y hy => eq_of_beq (List.all_eq_true.mp h2 y hy), fun p hp => ?_, fun y hy e => ?_, fun y hy e => ?_⟩
  · obtain ⟨i, hi, rfl⟩ := List.mem_map.mp hp
    have := List.all_eq_true.mp h3 i hi
    cases q : N[i]? with
    | none => rw [q] at this; cases this
    | some x => simp [q]
  · have := List.all_eq_true.mp h4 y hy
    rw [e] at this
    simpa using this
  · have := List.all_eq_true.mp h5 y hy
    have e' : (y.2 == NameKind.local || y.2 == NameKind.cell) = true := by
      rcases e with e | e <;> rw [e] <;> rfl
    rw [e'] at this
    rw [Bool.not_true, Bool.false_or, Bool.or_eq_true] at this
    rcases this with z | z
    · exact .inl (List.contains_iff_mem.mp z)
    · refine .inr fun m => ?_
      have z := notF z
      rw [List.contains_iff_mem.mpr m] at z
      cases z
theorem ownP_snd (N : List Str) (own : List Nat) : (ownP N own).map (·.2) = own := by
  unfold ownP
  rw [List.map_map]
  exact List.map_id' own
theorem base_ok {e : Expr} {name : Str} {env : PySem.Env} (h : plainBase e = true) : attributeBase e name env (eval e env) = eval e env := by
  unfold attributeBase
  split
  · cases h
  · rfl
theorem pt_ok {e : Expr} {env : PySem.Env} (h : plainTest e = true) : ∀ whole, PySem.isTrue e env whole = (do let v ← whole; standAt e.pos; holding [v] (truthy v)) := by
  intro whole
  cases e <;> first
    | rfl
    | (exact (Bool.false_ne_true h).elim)
    | (rename_i op _ _; cases op <;> first | rfl | exact (Bool.false_ne_true h).elim)
theorem ix_ok {e : Expr} (h : plainIx e = true) : ∀ o i, subscripted e false o i = operate [o, i] (getItem o i) := by
  intro o i
  cases e <;> first | rfl | exact (Bool.false_ne_true h).elim
theorem set_ok' {e : Expr} {env : PySem.Env} (h : noSet e = true) : ∀ x, foldedSetIterable e env x = pure x := by
  intro x
  cases e <;> first | rfl | exact (Bool.false_ne_true h).elim
theorem one_and {m : M Bool} : (m >>= fun c => if c = true then pure true else pure false) = m := by
  funext S
  rw [bind_run]
  cases q : m S with
  | bad => rfl
  | ok b S' => cases b <;> rfl
end
end MP

/-! MP20: expressions that pass the check run as they mean. -/
namespace MP
open PySem L2
variable {τ n : Nat} {T : Tab} {φ : Nat → List D → M D} {N : List Str}
theorem chkL_len {sc : Scope} {fb : Str → Bool} : ∀ (es : Exs) (xs : List Expr), chkL T N sc fb es xs = true → xs.all noStar = true ∧ ∀ ρ S ds S', evL φ es ρ S = .ok ds S' → ds.length = xs.length
  | .nil, xs, h => by
    cases xs with
    | nil => exact ⟨rfl, fun ρ S ds S' q => by cases q; rfl⟩
    | cons _ _ => exact (Bool.false_ne_true h).elim
  | .cons e r, xs, h => by
    cases xs with
    | nil => exact (Bool.false_ne_true h).elim
    | cons x xs =>
      obtain ⟨h1, h3⟩ := and2 (show (noStar x && chkE T N sc fb e x && chkL T N sc fb r xs) = true from h)
      obtain ⟨h1, h2⟩ := and2 h1
      obtain ⟨i1, i2⟩ := chkL_len r xs h3
      refine ⟨by rw [List.all_cons, h1, i1]; rfl, fun ρ S ds S' q => ?_⟩
      have q : (evE φ e ρ >>= fun d => evL φ r ρ >>= fun ds => pure (d :: ds)) S = .ok ds S' := q
      rw [bind_run] at q
      cases q1 : evE φ e ρ S with
      | bad => rw [q1] at q; cases q
      | ok d S1 =>
        rw [q1] at q
        dsimp only at q
        rw [bind_run] at q
        cases q2 : evL φ r ρ S1 with
        | bad => rw [q2] at q; cases q
        | ok ds' S2 =>
          rw [q2] at q
          cases q
          rw [List.length_cons, List.length_cons, i2 ρ S1 ds' _ q2]
theorem chk_lc {sc : Scope} {fb : Str → Bool} {m : Bool} {tg : Tg} {it : Ix} {ifs : Txs} {elt : Ex} {own : List Nat} {e tg' it' : Expr} {ifs' : List Expr} {z : Int} {scope : Scope} {p : Pos} (h : chkE T N sc fb (.lc m tg it ifs elt own) (.ListComp e [⟨tg', it', ifs', z⟩] scope p) = true) :
    z = 0 ∧ (chkI T N sc fb it it' && (noSet it' && tupT it tg') && blkB N sc scope own && tg.slots.all (own.contains ·) &&
      chkG N (relS scope sc) (fun x => scope.names.lookup x == some .cell) tg tg' && decide (ifs'.length ≤ 1) && chkTs T N (relS scope sc) (fun x => scope.names.lookup x == some .cell) ifs ifs' && chkE T N (relS scope sc) (fun x => scope.names.lookup x == some .cell) elt e) = true := by
  have h : ((z == 0) && (chkI T N sc fb it it' && (noSet it' && tupT it tg') && blkB N sc scope own && tg.slots.all (own.contains ·) &&
      chkG N (relS scope sc) (fun x => scope.names.lookup x == some .cell) tg tg' && decide (ifs'.length ≤ 1) && chkTs T N (relS scope sc) (fun x => scope.names.lookup x == some .cell) ifs ifs' && chkE T N (relS scope sc) (fun x => scope.names.lookup x == some .cell) elt e)) = true := h
  obtain ⟨h1, h2⟩ := and2 h
  exact ⟨eq_of_beq h1, h2⟩
theorem chk_lc2 {sc : Scope} {fb : Str → Bool} {m : Bool} {tg : Tg} {it : Ix} {ifs : Txs} {elt : Ex} {own : List Nat} {e : Expr} {g g' : Comprehension} {gs : List Comprehension} {scope : Scope} {p : Pos} (h : chkE T N sc fb (.lc m tg it ifs elt own) (.ListComp e (g :: g' :: gs) scope p) = true) : False := by
  cases g
  exact Bool.false_ne_true h
theorem gd_ok {X : Cx} (t : TabOk τ X n T φ) {k : Nat} {x : Str} {kds : List (Key × D)} (h : (match T.gds[k]? with | some p => p.1 == x && sameK p.2 kds | none => false) = true) : KdOk X x kds := by
  cases q : T.gds[k]? with
  | none => rw [q] at h; exact (Bool.false_ne_true h).elim
  | some p =>
    rw [q] at h
    obtain ⟨h1, h2⟩ := and2 (show (p.1 == x && sameK p.2 kds) = true from h)
    obtain rfl := eq_of_beq h1
    rw [← sameK_eq _ _ h2]
    exact t.gd k p q
mutual
theorem sndE : ∀ (ir : Ex) {X : Cx} {sc : Scope} {fb : Str → Bool}, Ctx τ X n T φ N sc fb → ∀ (e : Expr), chkE T N sc fb ir e = true → PD τ X e (evE φ ir)
  | .non, X, sc, fb, c, e, h => by
    cases e with
    | Constant v k p => cases v <;> first | exact pd_const (fun _ _ => rfl) (fun E => pe_non) (fun _ _ => .non) | exact (Bool.false_ne_true h).elim
    | _ => exact (Bool.false_ne_true h).elim
  | .bl b, X, sc, fb, c, e, h => by
    cases e with
    | Constant v k p =>
      cases v <;> first
        | (obtain rfl := eq_of_beq (show (b == _) = true from h); exact pd_const (fun _ _ => rfl) (fun E => pe_bl) (fun _ _ => .bl _))
        | exact (Bool.false_ne_true h).elim
    | _ => exact (Bool.false_ne_true h).elim
  | .int i, X, sc, fb, c, e, h => by
    cases e with
    | Constant v k p =>
      cases v <;> first
        | (obtain rfl := eq_of_beq (show (i == _) = true from h); exact pd_const (fun _ _ => rfl) (fun E => pe_int) (fun _ _ => .int _))
        | exact (Bool.false_ne_true h).elim
    | _ => exact (Bool.false_ne_true h).elim
  | .str x, X, sc, fb, c, e, h => by
    cases e with
    | Constant v k p =>
      cases v <;> first
        | (obtain rfl := eq_of_beq (show (x == _) = true from h); exact pd_const (fun _ _ => rfl) (fun E => pe_str) (fun _ _ => .str _))
        | exact (Bool.false_ne_true h).elim
    | _ => exact (Bool.false_ne_true h).elim
  | .neg i, X, sc, fb, c, e, h => by
    cases e with
    | UnaryOp op e' p =>
      cases op <;> try exact (Bool.false_ne_true h).elim
      cases e' <;> try exact (Bool.false_ne_true h).elim
      rename_i v k p'
      cases v <;> try exact (Bool.false_ne_true h).elim
      obtain rfl := eq_of_beq (show (i == _) = true from h)
      refine pd_of fun E σ H ρ η S d S' sr st q => ?_
      cases q
      exact ⟨_, pe_un un_neg pe_int, ⟨_, rfl, good_here st (.int _)⟩⟩
    | _ => exact (Bool.false_ne_true h).elim
  | .var i, X, sc, fb, c, e, h => by
    cases e with
    | Name x p =>
      obtain ⟨h1, h3⟩ := and2 (show (N[i]? == some x && visB sc x && okName x) = true from h)
      obtain ⟨h1, h2⟩ := and2 h1
      exact pd_var (c.nm h1) (c.vis h2) (okName_1 h3).1 (okName_1 h3).2
    | _ => exact (Bool.false_ne_true h).elim
  | .glb k d, X, sc, fb, c, e, h => by
    cases e with
    | Name x p =>
      obtain ⟨h1, h3⟩ := and2 (show ((match T.gls[k]? with | some p => p.1 == x && sameD p.2 d | none => false) && glB sc x && okName x) = true from h)
      obtain ⟨h1, h2⟩ := and2 h1
      cases q : T.gls[k]? with
      | none => rw [q] at h1; exact (Bool.false_ne_true h1).elim
      | some p =>
        rw [q] at h1
        obtain ⟨h1, h4⟩ := and2 (show (p.1 == x && sameD p.2 d) = true from h1)
        obtain rfl := eq_of_beq h1
        obtain ⟨v, u, t1, t2, t3⟩ := c.tab.gl k p q
        rw [sameD_eq _ _ h4] at t3
        exact pd_glob (c.gl h2) t1 t2 t3 (okName_1 h3).1
    | _ => exact (Bool.false_ne_true h).elim
  | .bin o m a b, X, sc, fb, c, e, h => by
    cases e with
    | BinOp l op r p =>
      obtain ⟨h1, h3⟩ := and2 (show (op == o.op && chkE T N sc fb a l && chkE T N sc fb b r) = true from h)
      obtain ⟨h1, h2⟩ := and2 h1
      obtain rfl := eq_of_beq h1
      exact pd_bin (o.ok m) (sndE a c l h2) (sndE b c r h3)
    | _ => exact (Bool.false_ne_true h).elim
  | .cmp o a b, X, sc, fb, c, e, h => by
    cases e with
    | Compare l ops rs p =>
      cases ops with
      | nil => exact (Bool.false_ne_true h).elim
      | cons op ops =>
        cases ops with
        | cons _ _ => cases rs with | nil => exact (Bool.false_ne_true h).elim | cons _ rs => cases rs <;> exact (Bool.false_ne_true h).elim
        | nil =>
          cases rs with
          | nil => exact (Bool.false_ne_true h).elim
          | cons r rs =>
            cases rs with
            | cons _ _ => exact (Bool.false_ne_true h).elim
            | nil =>
              obtain ⟨h1, h4⟩ := and2 (show (op == o.op && !(behindInMarks op r) && chkE T N sc fb a l && chkE T N sc fb b r) = true from h)
              obtain ⟨h1, h3⟩ := and2 h1
              obtain ⟨h1, h2⟩ := and2 h1
              obtain rfl := eq_of_beq h1
              exact pd_cmp (o.ok c.ck) (sndE a c l h3) (sndE b c r h4) (notF h2)
    | _ => exact (Bool.false_ne_true h).elim
  | .chn o q a b d, X, sc, fb, c, e, h => by
    cases e with
    | Compare l ops rs p =>
      cases ops with
      | nil => exact (Bool.false_ne_true h).elim
      | cons op ops =>
        cases ops with
        | nil => cases rs with | nil => exact (Bool.false_ne_true h).elim | cons _ rs => cases rs <;> exact (Bool.false_ne_true h).elim
        | cons op' ops =>
          cases ops with
          | cons _ _ => cases rs with | nil => exact (Bool.false_ne_true h).elim | cons _ rs => cases rs with | nil => exact (Bool.false_ne_true h).elim | cons _ rs => cases rs <;> exact (Bool.false_ne_true h).elim
          | nil =>
            cases rs with
            | nil => exact (Bool.false_ne_true h).elim
            | cons r rs =>
              cases rs with
              | nil => exact (Bool.false_ne_true h).elim
              | cons r' rs =>
                cases rs with
                | cons _ _ => exact (Bool.false_ne_true h).elim
                | nil =>
                  obtain ⟨h1, h6⟩ := and2 (show (op == o.op && op' == q.op && !(lastMarks [op, op'] [r, r']) && chkE T N sc fb a l && chkE T N sc fb b r && chkE T N sc fb d r') = true from h)
                  obtain ⟨h1, h5⟩ := and2 h1
                  obtain ⟨h1, h4⟩ := and2 h1
                  obtain ⟨h1, h3⟩ := and2 h1
                  obtain ⟨h1, h2⟩ := and2 h1
                  obtain rfl := eq_of_beq h1
                  obtain rfl := eq_of_beq h2
                  exact pd_chain (o.ok c.ck) (q.ok c.ck) (sndE a c l h4) (sndE b c r h5) (sndE d c r' h6) (notF h3)
    | _ => exact (Bool.false_ne_true h).elim
  | .not a, X, sc, fb, c, e, h => by
    cases e with
    | UnaryOp op e' p =>
      cases op <;> first | exact (Bool.false_ne_true h).elim | exact pd_not (sndE a c e' h)
    | _ => exact (Bool.false_ne_true h).elim
  | .and a r, X, sc, fb, c, e, h => by
    cases e with
    | BoolOp op es p =>
      cases op <;> cases es with
      | nil => exact (Bool.false_ne_true h).elim
      | cons e1 es => cases es with
        | nil => exact (Bool.false_ne_true h).elim
        | cons e2 es => first
          | exact (Bool.false_ne_true h).elim
          | (obtain ⟨h1, h2⟩ := and2 (show (chkE T N sc fb a e1 && chkE T N sc fb r (.BoolOp .And (e2 :: es) p)) = true from h)
             exact pd_and (sndE a c e1 h1) (sndE r c _ h2))
    | _ => exact (Bool.false_ne_true h).elim
  | .or a r, X, sc, fb, c, e, h => by
    cases e with
    | BoolOp op es p =>
      cases op <;> cases es with
      | nil => exact (Bool.false_ne_true h).elim
      | cons e1 es => cases es with
        | nil => exact (Bool.false_ne_true h).elim
        | cons e2 es => first
          | exact (Bool.false_ne_true h).elim
          | (obtain ⟨h1, h2⟩ := and2 (show (chkE T N sc fb a e1 && chkE T N sc fb r (.BoolOp .Or (e2 :: es) p)) = true from h)
             exact pd_or (sndE a c e1 h1) (sndE r c _ h2))
    | _ => exact (Bool.false_ne_true h).elim
  | .one a, X, sc, fb, c, e, h => by
    cases e with
    | BoolOp op es p =>
      cases es with
      | nil => exact (Bool.false_ne_true h).elim
      | cons e1 es => cases es with
        | nil => exact pd_one (sndE a c e1 h)
        | cons e2 es => exact (Bool.false_ne_true h).elim
    | _ => exact (Bool.false_ne_true h).elim
  | .ife t a b, X, sc, fb, c, e, h => by
    cases e with
    | IfExp q x y p =>
      obtain ⟨h1, h3⟩ := and2 (show (chkT T N sc fb t q && chkE T N sc fb a x && chkE T N sc fb b y) = true from h)
      obtain ⟨h1, h2⟩ := and2 h1
      exact pd_ife (sndT t c q h1) (sndE a c x h2) (sndE b c y h3)
    | _ => exact (Bool.false_ne_true h).elim
  | .ix a b, X, sc, fb, c, e, h => by
    cases e with
    | Subscript x y p =>
      obtain ⟨h1, h3⟩ := and2 (show (plainIx y && chkE T N sc fb a x && chkE T N sc fb b y) = true from h)
      obtain ⟨h1, h2⟩ := and2 h1
      exact pd_ix (c.ck.units (k := 1) (by decide)) (sndE a c x h2) (sndE b c y h3) (ix_ok h1)
    | _ => exact (Bool.false_ne_true h).elim
  | .sl m a lo hi, X, sc, fb, c, e, h => by
    cases e with
    | Subscript x y p =>
      cases y <;> try exact (Bool.false_ne_true h).elim
      rename_i l u s' p'
      cases s' with
      | some _ => exact (Bool.false_ne_true h).elim
      | none =>
        obtain ⟨h1, h3⟩ := and2 (show (chkE T N sc fb a x && chkO T N sc fb lo l && chkO T N sc fb hi u) = true from h)
        obtain ⟨h1, h2⟩ := and2 h1
        exact pd_slice (sndE a c x h1) (sndO lo c l h2) (sndO hi c u h3)
    | _ => exact (Bool.false_ne_true h).elim
  | .rev m a, X, sc, fb, c, e, h => by
    cases e with
    | Subscript x y p =>
      cases y <;> try exact (Bool.false_ne_true h).elim
      rename_i l u s' p'
      cases l <;> cases u <;> cases s' <;> try exact (Bool.false_ne_true h).elim
      rename_i s'
      cases s' <;> try exact (Bool.false_ne_true h).elim
      rename_i op e' p1
      cases op <;> cases e' <;> try exact (Bool.false_ne_true h).elim
      rename_i v k p2
      cases v <;> try exact (Bool.false_ne_true h).elim
      rename_i j
      obtain ⟨h1, h2⟩ := and2 (show (j == 1 && chkE T N sc fb a x) = true from h)
      obtain rfl := eq_of_beq h1
      exact pd_rev (sndE a c x h2)
    | _ => exact (Bool.false_ne_true h).elim
  | .tup es, X, sc, fb, c, e, h => by
    cases e with
    | Tuple xs k p =>
      obtain ⟨h1, h2⟩ := and2 (show (chkL T N sc fb es xs && decide (xs.length ≤ SL)) = true from h)
      exact pd_tup (sndL es c xs h1) fun ρ S ds S' q => by rw [(chkL_len es xs h1).2 ρ S ds S' q]; exact of_decide_eq_true h2
    | _ => exact (Bool.false_ne_true h).elim
  | .lst m es, X, sc, fb, c, e, h => by
    cases e with
    | List xs p =>
      obtain ⟨h1, h2⟩ := and2 (show (chkL T N sc fb es xs && decide (xs.length ≤ SL)) = true from h)
      exact pd_lst (sndL es c xs h1) fun ρ S ds S' q => by rw [(chkL_len es xs h1).2 ρ S ds S' q]; exact of_decide_eq_true h2
    | _ => exact (Bool.false_ne_true h).elim
  | .dic0 m, X, sc, fb, c, e, h => by
    cases e with
    | Dict ks vs p => cases ks <;> cases vs <;> first | exact pd_dict0m | exact (Bool.false_ne_true h).elim
    | _ => exact (Bool.false_ne_true h).elim
  | .dicC m ps, X, sc, fb, c, e, h => by
    cases e with
    | Dict ks vs p =>
      obtain ⟨h, h3⟩ := and2 (show (chkCs ps ks vs && !ps.isEmpty && decide (ps.length ≤ 15)) = true from h)
      obtain ⟨h1, h2⟩ := and2 h
      exact pd_dispC h1 (fun z => by rw [z] at h2; cases h2) (of_decide_eq_true h3)
    | _ => exact (Bool.false_ne_true h).elim
  | .gin neg k kds a, X, sc, fb, c, e, h => by
    cases e with
    | Compare l ops rs p =>
      cases ops with
      | nil => exact (Bool.false_ne_true h).elim
      | cons op ops =>
        cases ops with
        | cons _ _ => cases rs with | nil => exact (Bool.false_ne_true h).elim | cons r rs => cases r <;> first | exact (Bool.false_ne_true h).elim | (cases rs <;> exact (Bool.false_ne_true h).elim)
        | nil =>
          cases rs with
          | nil => exact (Bool.false_ne_true h).elim
          | cons r rs =>
            cases r <;> try exact (Bool.false_ne_true h).elim
            rename_i x p'
            cases rs with
            | cons _ _ => exact (Bool.false_ne_true h).elim
            | nil =>
              obtain ⟨h, h5⟩ := and2 (show (op == inOp neg && (match T.gds[k]? with | some p => p.1 == x && sameK p.2 kds | none => false) && glB sc x && okName x && chkE T N sc fb a l) = true from h)
              obtain ⟨h, h4⟩ := and2 h
              obtain ⟨h, h3⟩ := and2 h
              obtain ⟨h1, h2⟩ := and2 h
              obtain rfl := eq_of_beq h1
              exact pd_gin (gd_ok c.tab h2) (c.gl h3) (okName_1 h4).1 (sndE a c l h5) (by cases neg <;> rfl)
    | _ => exact (Bool.false_ne_true h).elim
  | .gix k kds a, X, sc, fb, c, e, h => by
    cases e with
    | Subscript x y p =>
      cases x <;> try exact (Bool.false_ne_true h).elim
      rename_i x p'
      obtain ⟨h, h5⟩ := and2 (show (plainIx y && (match T.gds[k]? with | some p => p.1 == x && sameK p.2 kds | none => false) && glB sc x && okName x && chkE T N sc fb a y) = true from h)
      obtain ⟨h, h4⟩ := and2 h
      obtain ⟨h, h3⟩ := and2 h
      obtain ⟨h1, h2⟩ := and2 h
      exact pd_gix (gd_ok c.tab h2) (c.gl h3) (okName_1 h4).1 (sndE a c y h5) (ix_ok h1)
    | _ => exact (Bool.false_ne_true h).elim
  | .dic1 k i, X, sc, fb, c, e, h => by
    cases e with
    | Dict ks vs p =>
      cases ks with
      | nil => cases vs <;> exact (Bool.false_ne_true h).elim
      | cons k1 ks =>
        cases k1 with
        | none => exact (Bool.false_ne_true h).elim
        | some k1 =>
          cases k1 <;> try exact (Bool.false_ne_true h).elim
          rename_i v _ p1
          cases v <;> try exact (Bool.false_ne_true h).elim
          rename_i j
          cases ks with
          | cons _ _ => exact (Bool.false_ne_true h).elim
          | nil =>
            cases vs with
            | nil => exact (Bool.false_ne_true h).elim
            | cons v1 vs =>
              cases v1 <;> try exact (Bool.false_ne_true h).elim
              rename_i x p2
              cases vs with
              | cons _ _ => exact (Bool.false_ne_true h).elim
              | nil =>
                obtain ⟨h1, h4⟩ := and2 (show (k == j && N[i]? == some x && visB sc x && okName x) = true from h)
                obtain ⟨h1, h3⟩ := and2 h1
                obtain ⟨h1, h2⟩ := and2 h1
                obtain rfl := eq_of_beq h1
                exact pd_dict1 (c.nm h2) (c.vis h3) (okName_1 h4).1 (okName_1 h4).2
    | _ => exact (Bool.false_ne_true h).elim
  | .fn f m es, X, sc, fb, c, e, h => by
    cases e with
    | Call g as ks p =>
      cases g <;> try exact (Bool.false_ne_true h).elim
      rename_i x p'
      cases as with
      | nil => exact (Bool.false_ne_true h).elim
      | cons a as =>
        cases ks with
        | cons _ _ => exact (Bool.false_ne_true h).elim
        | nil =>
          obtain ⟨h1, h3⟩ := and2 (show (x == Str.ofString f.name && bltB sc x && chkL T N sc fb es (a :: as)) = true from h)
          obtain ⟨h1, h2⟩ := and2 h1
          obtain rfl := eq_of_beq h1
          obtain ⟨g1, g2⟩ := c.blt h2
          obtain ⟨l1, l2⟩ := chkL_len (φ := φ) es _ h3
          obtain ⟨l3, l4⟩ := and2 l1
          cases q : f.isType with
          | true => exact pd_fnT (Fn.okT f m q) g1 g2 (by rw [f.boot, q]; rfl) (sndL es c _ h3) f.nn.1 f.nn.2 (starEach_cons l3) (star_any l4)
          | false => exact pd_fnB (Fn.okB c.ck f m q) g1 g2 (by rw [f.boot, q]; rfl) (sndL es c _ h3) f.nn.1 f.nn.2 (starEach_cons l3) (star_any l4)
    | _ => exact (Bool.false_ne_true h).elim
  | .isi t a, X, sc, fb, c, e, h => by
    cases e with
    | Call g as ks p =>
      cases g <;> try exact (Bool.false_ne_true h).elim
      rename_i x p'
      cases as with
      | nil => exact (Bool.false_ne_true h).elim
      | cons e1 as =>
        cases as with
        | nil => exact (Bool.false_ne_true h).elim
        | cons e2 as =>
          cases e2 <;> try exact (Bool.false_ne_true h).elim
          rename_i y p2
          cases as with
          | cons _ _ => exact (Bool.false_ne_true h).elim
          | nil =>
            cases ks with
            | cons _ _ => exact (Bool.false_ne_true h).elim
            | nil =>
              obtain ⟨h1, h6⟩ := and2 (show (x == "isinstance" && y == Str.ofString t.name && bltB sc x && bltB sc y && noStar e1 && chkE T N sc fb a e1) = true from h)
              obtain ⟨h1, h5⟩ := and2 h1
              obtain ⟨h1, h4⟩ := and2 h1
              obtain ⟨h1, h3⟩ := and2 h1
              obtain ⟨h1, h2⟩ := and2 h1
              obtain rfl := eq_of_beq h1
              obtain rfl := eq_of_beq h2
              exact pd_isi (sndE a c e1 h6) (c.blt h3).1 (c.blt h3).2 (c.blt h4).1 (c.blt h4).2 (starEach_cons h5)
    | _ => exact (Bool.false_ne_true h).elim
  | .me f m o es, X, sc, fb, c, e, h => by
    cases e with
    | Call g as ks cp =>
      cases g <;> try exact (Bool.false_ne_true h).elim
      rename_i x name ap
      cases ks with
      | cons _ _ => exact (Bool.false_ne_true h).elim
      | nil =>
        obtain ⟨h1, h6⟩ := and2 (show (name == Str.ofString f.name && plainBase x && ap.endLine == cp.line && decide (as.length < 30) && chkE T N sc fb o x && chkL T N sc fb es as) = true from h)
        obtain ⟨h1, h5⟩ := and2 h1
        obtain ⟨h1, h4⟩ := and2 h1
        obtain ⟨h1, h3⟩ := and2 h1
        obtain ⟨h1, h2⟩ := and2 h1
        obtain rfl := eq_of_beq h1
        cases as with
        | nil =>
          cases es with
          | cons _ _ => exact (Bool.false_ne_true h6).elim
          | nil =>
            have key := pd_meth0 (apos := ap) (cpos := cp) f.pa f.slot f.hty (f.ok m) (fun st r q => f.tyv st r q) (sndE o c x h5) (base_ok h2) h3
            exact key
        | cons a as =>
          obtain ⟨l1, l2⟩ := chkL_len (φ := φ) es _ h6
          obtain ⟨l3, l4⟩ := and2 l1
          refine pd_meth f.pa f.slot f.hty (f.ok m) (fun st r q => f.tyv st r q) (sndE o c x h5) (sndL es c _ h6) (base_ok h2) ?_ h3 (starEach_cons l3) (star_any l4)
          rw [star_all l1]
          show (true && true && decide ((a :: as).length + 0 + 0 < 30)) = true
          rw [Bool.true_and, Bool.true_and, Nat.add_zero]
          exact h4
    | _ => exact (Bool.false_ne_true h).elim
  | .repl y z o, X, sc, fb, c, e, h => by
    cases e with
    | Call g as ks cp =>
      cases g <;> try exact (Bool.false_ne_true h).elim
      rename_i x name ap
      cases as with
      | nil => exact (Bool.false_ne_true h).elim
      | cons e1 as =>
        cases e1 <;> try exact (Bool.false_ne_true h).elim
        rename_i v1 k1 p1
        cases v1 <;> try exact (Bool.false_ne_true h).elim
        rename_i y'
        cases as with
        | nil => exact (Bool.false_ne_true h).elim
        | cons e2 as =>
          cases e2 <;> try exact (Bool.false_ne_true h).elim
          rename_i v2 k2 p2
          cases v2 <;> try exact (Bool.false_ne_true h).elim
          rename_i z'
          cases as with
          | cons _ _ => exact (Bool.false_ne_true h).elim
          | nil =>
            cases ks with
            | cons _ _ => exact (Bool.false_ne_true h).elim
            | nil =>
              obtain ⟨h1, h7⟩ := and2 (show (T.rp && name == "replace" && y == y' && z == z' && !(y' == z') && plainBase x && ap.endLine == cp.line && chkE T N sc fb o x) = true from h)
              obtain ⟨h1, h6⟩ := and2 h1
              obtain ⟨h1, h5⟩ := and2 h1
              obtain ⟨h1, h4⟩ := and2 h1
              obtain ⟨h1, h3⟩ := and2 h1
              obtain ⟨h1, h2⟩ := and2 h1
              obtain ⟨h0, h1⟩ := and2 h1
              obtain rfl := eq_of_beq h1
              obtain rfl := eq_of_beq h2
              obtain rfl := eq_of_beq h3
              exact pd_repl (c.tab.rp h0) (sndE o c x h7) (notF h4) (base_ok h5) h6
    | _ => exact (Bool.false_ne_true h).elim
  | .call k es, X, sc, fb, c, e, h => by
    cases e with
    | Call g as ks p =>
      cases g <;> try exact (Bool.false_ne_true h).elim
      rename_i x p'
      cases as with
      | nil => exact (Bool.false_ne_true h).elim
      | cons a as =>
        cases ks with
        | cons _ _ => exact (Bool.false_ne_true h).elim
        | nil =>
          obtain ⟨h1, h4⟩ := and2 (show ((match T.fns[k]? with | some p => p.name == x && p.np == (a :: as).length | none => false) && glB sc x && okName x && chkL T N sc fb es (a :: as)) = true from h)
          obtain ⟨h1, h3⟩ := and2 h1
          obtain ⟨h1, h2⟩ := and2 h1
          cases q : T.fns[k]? with
          | none => rw [q] at h1; exact (Bool.false_ne_true h1).elim
          | some p =>
            rw [q] at h1
            obtain ⟨h1, h5⟩ := and2 (show (p.name == x && p.np == (a :: as).length) = true from h1)
            obtain rfl := eq_of_beq h1
            obtain ⟨f, fd, ps, t1, t2, t3, t4, t5⟩ := c.tab.fn k p q
            obtain ⟨l1, l2⟩ := chkL_len (φ := φ) es _ h4
            obtain ⟨l3, l4⟩ := and2 l1
            refine pd_call t5 c.ck (c.gl h2) t2 t3 t4 (sndL es c _ h4) (fun ρ S ds S' w => ?_) (okName_1 h3).1 (starEach_cons l3) (star_any l4)
            rw [l2 ρ S ds S' w, t1]
            exact (eq_of_beq h5).symm
    | _ => exact (Bool.false_ne_true h).elim
  | .lc m tg it ifs elt own, X, sc, fb, c, e, h => by
    cases e with
    | ListComp e1 gs scope p =>
      cases gs with
      | nil => exact (Bool.false_ne_true h).elim
      | cons g gs =>
        cases gs with
        | cons _ _ => exact (chk_lc2 h).elim
        | nil =>
          obtain ⟨tg', it', ifs', z⟩ := g
          obtain ⟨ez, hh⟩ := chk_lc h
          subst ez
          obtain ⟨h, h8⟩ := and2 hh
          obtain ⟨h, h7⟩ := and2 h
          obtain ⟨h, h6⟩ := and2 h
          obtain ⟨h, h5⟩ := and2 h
          obtain ⟨h, h4⟩ := and2 h
          obtain ⟨h, h3⟩ := and2 h
          obtain ⟨h1, h2⟩ := and2 h
          have ok : BlkOk X.N X.env.scope scope (ownP N own) := by rw [c.hN, c.hs]; exact blkB_ok h3
          have key := pd_lc (m := m) (pos := p) c.ck.calm c.ck.nd (sndI it c tg' it' h1 (and2 h2).2) ok (fun s H C cl fp => chkG_ok (c.blk s H scope cl C fp) tg tg' h5)
            (by rw [ownP_snd]; exact Tg.wipe h4) (fun s H C cl fp => sndTs ifs (c.blk s H scope cl C fp) ifs' (of_decide_eq_true h6) h7) (fun s H C cl fp => sndE elt (c.blk s H scope cl C fp) e1 h8) (set_ok' (and2 h2).1)
          rw [ownP_snd] at key
          exact key
    | _ => exact (Bool.false_ne_true h).elim
theorem sndO : ∀ (ir : Ox) {X : Cx} {sc : Scope} {fb : Str → Bool}, Ctx τ X n T φ N sc fb → ∀ (e : Option Expr), chkO T N sc fb ir e = true → POD τ X e (evO φ ir)
  | .non, X, sc, fb, c, e, h => by
    cases e with
    | none => exact pod_none
    | some _ => exact (Bool.false_ne_true h).elim
  | .som a, X, sc, fb, c, e, h => by
    cases e with
    | none => exact (Bool.false_ne_true h).elim
    | some x => exact pod_some (sndE a c x h)
theorem sndL : ∀ (ir : Exs) {X : Cx} {sc : Scope} {fb : Str → Bool}, Ctx τ X n T φ N sc fb → ∀ (e : List Expr), chkL T N sc fb ir e = true → PDL τ X e (evL φ ir)
  | .nil, X, sc, fb, c, e, h => by
    cases e with
    | nil => exact pdl_nil
    | cons _ _ => exact (Bool.false_ne_true h).elim
  | .cons a r, X, sc, fb, c, e, h => by
    cases e with
    | nil => exact (Bool.false_ne_true h).elim
    | cons x xs =>
      obtain ⟨h1, h3⟩ := and2 (show (noStar x && chkE T N sc fb a x && chkL T N sc fb r xs) = true from h)
      obtain ⟨h1, h2⟩ := and2 h1
      exact pdl_cons (sndE a c x h2) (sndL r c xs h3) (starEach_cons h1)
theorem sndT : ∀ (ir : Tx) {X : Cx} {sc : Scope} {fb : Str → Bool}, Ctx τ X n T φ N sc fb → ∀ (e : Expr), chkT T N sc fb ir e = true → PDB τ X e (evT φ ir)
  | .cmp o a b, X, sc, fb, c, e, h => by
    cases e with
    | Compare l ops rs p =>
      cases ops with
      | nil => exact (Bool.false_ne_true h).elim
      | cons op ops =>
        cases ops with
        | cons _ _ => cases rs with | nil => exact (Bool.false_ne_true h).elim | cons _ rs => cases rs <;> exact (Bool.false_ne_true h).elim
        | nil =>
          cases rs with
          | nil => exact (Bool.false_ne_true h).elim
          | cons r rs =>
            cases rs with
            | cons _ _ => exact (Bool.false_ne_true h).elim
            | nil =>
              obtain ⟨h1, h4⟩ := and2 (show (op == o.op && !(behindInMarks op r) && chkE T N sc fb a l && chkE T N sc fb b r) = true from h)
              obtain ⟨h1, h3⟩ := and2 h1
              obtain ⟨h1, h2⟩ := and2 h1
              obtain rfl := eq_of_beq h1
              exact pdb_cmp (o.ok c.ck) (sndE a c l h3) (sndE b c r h4) (notF h2)
    | _ => exact (Bool.false_ne_true h).elim
  | .chn o q a b d, X, sc, fb, c, e, h => by
    cases e with
    | Compare l ops rs p =>
      cases ops with
      | nil => exact (Bool.false_ne_true h).elim
      | cons op ops =>
        cases ops with
        | nil => cases rs with | nil => exact (Bool.false_ne_true h).elim | cons _ rs => cases rs <;> exact (Bool.false_ne_true h).elim
        | cons op' ops =>
          cases ops with
          | cons _ _ => cases rs with | nil => exact (Bool.false_ne_true h).elim | cons _ rs => cases rs with | nil => exact (Bool.false_ne_true h).elim | cons _ rs => cases rs <;> exact (Bool.false_ne_true h).elim
          | nil =>
            cases rs with
            | nil => exact (Bool.false_ne_true h).elim
            | cons r rs =>
              cases rs with
              | nil => exact (Bool.false_ne_true h).elim
              | cons r' rs =>
                cases rs with
                | cons _ _ => exact (Bool.false_ne_true h).elim
                | nil =>
                  obtain ⟨h1, h6⟩ := and2 (show (op == o.op && op' == q.op && !(lastMarks [op, op'] [r, r']) && chkE T N sc fb a l && chkE T N sc fb b r && chkE T N sc fb d r') = true from h)
                  obtain ⟨h1, h5⟩ := and2 h1
                  obtain ⟨h1, h4⟩ := and2 h1
                  obtain ⟨h1, h3⟩ := and2 h1
                  obtain ⟨h1, h2⟩ := and2 h1
                  obtain rfl := eq_of_beq h1
                  obtain rfl := eq_of_beq h2
                  exact pdb_chain (o.ok c.ck) (q.ok c.ck) (sndE a c l h4) (sndE b c r h5) (sndE d c r' h6) (notF h3)
    | _ => exact (Bool.false_ne_true h).elim
  | .not t, X, sc, fb, c, e, h => by
    cases e with
    | UnaryOp op e' p =>
      cases op <;> first | exact (Bool.false_ne_true h).elim | exact pdb_not (sndT t c e' h)
    | _ => exact (Bool.false_ne_true h).elim
  | .and ts, X, sc, fb, c, e, h => by
    cases e with
    | BoolOp op es p => cases op <;> first | exact (Bool.false_ne_true h).elim | exact (sndA ts c es h).pdb
    | _ => exact (Bool.false_ne_true h).elim
  | .or ts, X, sc, fb, c, e, h => by
    cases e with
    | BoolOp op es p => cases op <;> first | exact (Bool.false_ne_true h).elim | exact (sndR ts c es h).pdb
    | _ => exact (Bool.false_ne_true h).elim
  | .gin neg k kds a, X, sc, fb, c, e, h => by
    cases e with
    | Compare l ops rs p =>
      cases ops with
      | nil => exact (Bool.false_ne_true h).elim
      | cons op ops =>
        cases ops with
        | cons _ _ => cases rs with | nil => exact (Bool.false_ne_true h).elim | cons r rs => cases r <;> first | exact (Bool.false_ne_true h).elim | (cases rs <;> exact (Bool.false_ne_true h).elim)
        | nil =>
          cases rs with
          | nil => exact (Bool.false_ne_true h).elim
          | cons r rs =>
            cases r <;> try exact (Bool.false_ne_true h).elim
            rename_i x p'
            cases rs with
            | cons _ _ => exact (Bool.false_ne_true h).elim
            | nil =>
              obtain ⟨h, h5⟩ := and2 (show (op == inOp neg && (match T.gds[k]? with | some p => p.1 == x && sameK p.2 kds | none => false) && glB sc x && okName x && chkE T N sc fb a l) = true from h)
              obtain ⟨h, h4⟩ := and2 h
              obtain ⟨h, h3⟩ := and2 h
              obtain ⟨h1, h2⟩ := and2 h
              obtain rfl := eq_of_beq h1
              exact pdb_gin (gd_ok c.tab h2) (c.gl h3) (okName_1 h4).1 (sndE a c l h5) (by cases neg <;> rfl)
    | _ => exact (Bool.false_ne_true h).elim
  | .val a, X, sc, fb, c, e, h => by
    have h : (plainTest e && chkE T N sc fb a e) = true := by
      cases e <;> exact h
    obtain ⟨h1, h2⟩ := and2 h
    exact pdb_val (sndE a c e h2) (pt_ok h1)
theorem sndA : ∀ (ir : Txs) {X : Cx} {sc : Scope} {fb : Str → Bool}, Ctx τ X n T φ N sc fb → ∀ (e : List Expr) {pos : Pos}, chkTs T N sc fb ir e = true → PDW τ X (.BoolOp .And e pos) (evA φ ir)
  | .nil, X, sc, fb, c, e, pos, h => by
    cases e with
    | nil => exact pdw_and_nil
    | cons _ _ => exact (Bool.false_ne_true h).elim
  | .cons t r, X, sc, fb, c, e, pos, h => by
    cases e with
    | nil => exact (Bool.false_ne_true h).elim
    | cons x xs =>
      obtain ⟨h1, h2⟩ := and2 (show (chkT T N sc fb t x && chkTs T N sc fb r xs) = true from h)
      exact pdw_and (sndT t c x h1) (sndA r c xs h2)
theorem sndR : ∀ (ir : Txs) {X : Cx} {sc : Scope} {fb : Str → Bool}, Ctx τ X n T φ N sc fb → ∀ (e : List Expr) {pos : Pos}, chkTs T N sc fb ir e = true → PDW τ X (.BoolOp .Or e pos) (evOr φ ir)
  | .nil, X, sc, fb, c, e, pos, h => by
    cases e with
    | nil => exact pdw_or_nil
    | cons _ _ => exact (Bool.false_ne_true h).elim
  | .cons t r, X, sc, fb, c, e, pos, h => by
    cases e with
    | nil => exact (Bool.false_ne_true h).elim
    | cons x xs =>
      obtain ⟨h1, h2⟩ := and2 (show (chkT T N sc fb t x && chkTs T N sc fb r xs) = true from h)
      exact pdw_or (sndT t c x h1) (sndR r c xs h2)
theorem sndTs : ∀ (ir : Txs) {X : Cx} {sc : Scope} {fb : Str → Bool}, Ctx τ X n T φ N sc fb → ∀ (e : List Expr), e.length ≤ 1 → chkTs T N sc fb ir e = true → PTD τ X e (evA φ ir)
  | .nil, X, sc, fb, c, e, hl, h => by
    cases e with
    | nil => exact ptd_nil
    | cons _ _ => exact (Bool.false_ne_true h).elim
  | .cons t r, X, sc, fb, c, e, hl, h => by
    cases e with
    | nil => exact (Bool.false_ne_true h).elim
    | cons x xs =>
      cases xs with
      | cons _ _ => exact absurd hl (by simp)
      | nil =>
        obtain ⟨h1, h2⟩ := and2 (show (chkT T N sc fb t x && chkTs T N sc fb r []) = true from h)
        cases r with
        | cons _ _ => exact (Bool.false_ne_true h2).elim
        | nil =>
          have e : evA φ (.cons t .nil) = evT φ t := by
            funext ρ
            exact one_and
          rw [e]
          exact ptd_one (sndT t c x h1)
theorem sndI : ∀ (ir : Ix) {X : Cx} {sc : Scope} {fb : Str → Bool}, Ctx τ X n T φ N sc fb → ∀ (tg e : Expr), chkI T N sc fb ir e = true → tupT ir tg = true → PID τ X tg e (evI φ ir)
  | .seq a, X, sc, fb, c, tg, e, h, _ => by
    have h : chkE T N sc fb a e = true := by cases e <;> exact h
    exact pid_seq (sndE a c e h)
  | .rng es, X, sc, fb, c, tg, e, h, _ => by
    cases e with
    | Call g as ks p =>
      cases g <;> try exact (Bool.false_ne_true h).elim
      rename_i x p'
      cases as with
      | nil => exact (Bool.false_ne_true h).elim
      | cons a as =>
        cases ks with
        | cons _ _ => exact (Bool.false_ne_true h).elim
        | nil =>
          obtain ⟨h1, h3⟩ := and2 (show (x == "range" && bltB sc x && chkL T N sc fb es (a :: as)) = true from h)
          obtain ⟨h1, h2⟩ := and2 h1
          obtain rfl := eq_of_beq h1
          obtain ⟨l1, l2⟩ := chkL_len (φ := φ) es _ h3
          obtain ⟨l3, l4⟩ := and2 l1
          exact pid_range (c.blt h2).1 (c.blt h2).2 (sndL es c _ h3) (starEach_cons l3) (star_any l4)
    | _ => exact (Bool.false_ne_true h).elim
  | .enu es, X, sc, fb, c, tg, e, h, ht => by
    cases tg <;> try exact (Bool.false_ne_true ht).elim
    cases e with
    | Call g as ks p =>
      cases g <;> try exact (Bool.false_ne_true h).elim
      rename_i x p'
      cases as with
      | nil => exact (Bool.false_ne_true h).elim
      | cons a as =>
        cases as with
        | cons _ _ => exact (Bool.false_ne_true h).elim
        | nil =>
          cases ks with
          | cons _ _ => exact (Bool.false_ne_true h).elim
          | nil =>
            obtain ⟨h1, h3⟩ := and2 (show (x == "enumerate" && bltB sc x && chkL T N sc fb es [a]) = true from h)
            obtain ⟨h1, h2⟩ := and2 h1
            obtain rfl := eq_of_beq h1
            obtain ⟨l1, l2⟩ := chkL_len (φ := φ) es _ h3
            obtain ⟨l3, l4⟩ := and2 l1
            exact pid_enum (c.blt h2).1 (c.blt h2).2 (sndL es c _ h3) (starEach_cons l3)
    | _ => exact (Bool.false_ne_true h).elim
end
end MP

/-! MP21: the small language: statements, functions. -/
namespace MP
open PySem L2
mutual
inductive Sx where
  | pass | brk | cont
  /-- what no way reaches -/
  | dead
  | ret (e : Ex)
  | set (i : Nat) (e : Ex)
  | par (is : List Nat) (e : Ex)
  | asg (tg : Tg) (e : Ex)
  | put (o i e : Ex)
  | exp (e : Ex)
  | ite (t : Tx) (a b : Sxs)
  | forr (tg : Tg) (it : Ix) (b : Sxs)
inductive Sxs where
  | nil
  | cons (s : Sx) (r : Sxs)
end
section
variable (φ : Nat → List D → M D)
mutual
def evS : Sx → Env → M Fl
  | .pass, ρ => pure (.next ρ)
  | .brk, ρ => pure (.brk ρ)
  | .cont, ρ => pure (.cont ρ)
  | .dead, _ => M.fail
  | .ret e, ρ => evE φ e ρ >>= fun d => pure (.ret d)
  | .set i e, ρ => evE φ e ρ >>= fun d => pure (.next (ρ.set i (some d)))
  | .par is e, ρ => evE φ e ρ >>= fun d => unpackD is.length none d >>= fun ds => pure (.next (setsL is.reverse ds.reverse ρ))
  | .asg tg e, ρ => evE φ e ρ >>= fun d => tg.ev d ρ >>= fun ρ' => pure (.next ρ')
  | .put o i e, ρ => evE φ e ρ >>= fun d => evE φ o ρ >>= fun od => evE φ i ρ >>= fun id => setD od id d >>= fun _ => pure (.next ρ)
  | .exp e, ρ => evE φ e ρ >>= fun _ => pure (.next ρ)
  | .ite t a b, ρ => evT φ t ρ >>= fun c => if c = true then evSs a ρ else evSs b ρ
  | .forr tg it b, ρ => evI φ it ρ >>= forF tg.ev (evSs b) ρ
def evSs : Sxs → Env → M Fl
  | .nil, ρ => pure (.next ρ)
  | .cons s r, ρ => evS s ρ >>= thenF (evSs r)
end
end
def noComp : Expr → Bool
  | .ListComp .. => false
  | .SetComp .. => false
  | .DictComp .. => false
  | _ => true
def noTup : Expr → Bool
  | .Tuple .. => false
  | _ => true
def parB (sc : Scope) (ts vs : List Expr) (names : List Str) : Bool :=
  (ts.length == 2 || ts.length == 3) && vs.length == ts.length && sc.kind == .function && vs.all noStar &&
  (ts.filterMap fun
    | .Name id pos => if sc.names.lookup id == some .local && pos.line == (ts.head?.map (·.pos.line)).getD 0 then some id else none
    | _ => none) == names && names.length == ts.length && names.eraseDups.length == names.length && !(vs.all (foldedForSure 8)) && !(vs.all (constantsAlone 8))
def slotsB (N : List Str) (sc : Scope) : List Str → List Nat → Bool
  | [], [] => true
  | x :: xs, i :: is => (N[i]? == some x && sc.names.lookup x == some .local) && slotsB N sc xs is
  | _, _ => false
def setB (sc : Scope) (y : Str) (py : Pos) : Expr → Bool
  | .ListComp _ _ scope pos => sc.names.lookup y == some .cell || (sc.kind == .function && sc.names.lookup y == some .local && py.line == pos.line && !(scope.names.any fun (n, k) => n == y && (k == .local || k == .cell)))
  | v => noComp v
def lcParts (T : Tab) (N : List Str) (sc : Scope) : Ex → Expr → Bool
  | .lc m tg it ifs elt own, e => chkE T N sc (fun _ => true) (.lc m tg it ifs elt own) e
  | _, _ => false
section
variable (T : Tab) (N : List Str)
mutual
def chkS (sc : Scope) : Sx → Stmt → Bool
  | .pass, .Pass _ => true
  | .brk, .Break _ => true
  | .cont, .Continue _ => true
  | .dead, _ => true
  | .ret e, .Return (some x) _ => chkE T N sc (fun _ => true) e x
  | .set i e, .Assign [.Name y py] v _ => okNm N sc (fun _ => true) i y && chkE T N sc (fun _ => true) e v &&
      setB sc y py v
  | .par is e, .Assign [.Tuple ts _ _] (.Tuple vs k p) _ => (match is.mapM (fun i => N[i]?) with | some names => parB sc ts vs names && slotsB N sc names.reverse is.reverse | none => false) && chkE T N sc (fun _ => true) e (.Tuple vs k p)
  | .asg tg e, .Assign [.Tuple ts k p] v _ => chkG N sc (fun _ => true) tg (.Tuple ts k p) && noTup v && chkE T N sc (fun _ => true) e v
  | .put o i e, .Assign [.Subscript x y _] v _ => plainIx y && noComp v && chkE T N sc (fun _ => true) e v && chkE T N sc (fun _ => true) o x && chkE T N sc (fun _ => true) i y
  | .exp e, .Expr v _ => noComp v && chkE T N sc (fun _ => true) e v
  | .ite t a b, .If c x y _ => chkT T N sc (fun _ => true) t c && chkSs sc a x && chkSs sc b y
  | .forr tg it b, .For tg' it' x [] _ => chkI T N sc (fun _ => true) it it' && (noSet it' && tupT it tg') && chkG N sc (fun _ => true) tg tg' && chkSs sc b x
  | _, _ => false
def chkSs (sc : Scope) : Sxs → List Stmt → Bool
  | .nil, [] => true
  | .cons s r, x :: xs => chkS sc s x && chkSs sc r xs
  | _, _ => false
end
end
theorem noComp_ok {e : Expr} {t : Option Expr} {l : Nat} {env : PySem.Env} (h : noComp e = true) : swapsWith e t l env = pure false := by
  cases e <;> first | rfl | exact (Bool.false_ne_true h).elim
theorem noTup_ok {tg e : Expr} {env : PySem.Env} (h : noTup e = true) : swappedStores [tg] e env = pure none := by
  cases e <;> first
    | exact (Bool.false_ne_true h).elim
    | (unfold swappedStores; cases tg <;> rfl)
theorem sub_none {o i e : Expr} {p : Pos} {env : PySem.Env} : swappedStores [.Subscript o i p] e env = pure none := by
  cases e <;> rfl
theorem sole_tup {ts : List Expr} {k : Nat} {p : Pos} {e : Expr} {l : Nat} {env : PySem.Env} : swapsWithSole [.Tuple ts k p] e l env = pure false := by
  cases e <;> rfl
theorem starB : ∀ (vs : List Expr), vs.all noStar = true → (vs.any fun | .Starred .. => true | _ => false) = false
  | [], _ => rfl
  | v :: vs, h => by
    obtain ⟨a, b⟩ := and2 (show (noStar v && vs.all noStar) = true from h)
    rw [List.any_cons, starB vs b]
    cases v <;> first | rfl | exact (Bool.false_ne_true a).elim
theorem parFin (L names : List Str) (ts : List Expr) (h : L = names) (h6 : names.length = ts.length) (h7 : names.eraseDups.length = names.length) :
    (if (L.length != ts.length || L.eraseDups.length != L.length) = true then (pure none : Sem (Option (List Str))) else if false = true then pure none else if false = true then (do unsupported "assign.tuple-of-constant-expressions:order-of-the-stores"; pure (some L)) else pure (some L)) = pure (some names) := by
  subst h
  simp [h6, h7]
theorem parB_ok {sc : Scope} {ts vs : List Expr} {names : List Str} {env : PySem.Env} {kt k : Nat} {pt p : Pos} (hs : env.scope = sc) (h : parB sc ts vs names = true) : swappedStores [.Tuple ts kt pt] (.Tuple vs k p) env = pure (some names) := by
  unfold parB at h
  obtain ⟨h, h9⟩ := and2 h
  obtain ⟨h, h8⟩ := and2 h
  obtain ⟨h, h7⟩ := and2 h
  obtain ⟨h, h6⟩ := and2 h
  obtain ⟨h, h5⟩ := and2 h
  obtain ⟨h, h4⟩ := and2 h
  obtain ⟨h, h3⟩ := and2 h
  obtain ⟨h1, h2⟩ := and2 h
  have hb : env.blockKind = .function := by unfold Env.blockKind; rw [hs, eq_of_beq h3]; rfl
  have hstar := starB vs h4
  have hn := eq_of_beq h5
  have e2 := eq_of_beq h2
  have e6 := eq_of_beq h6
  have e7 := eq_of_beq h7
  unfold swappedStores
  have hk : ∀ id, env.kindOf id = sc.names.lookup id := fun id => by rw [kind_eq, hs]
  simp only [hb, hk, e2, notF h8, notF h9, h1]
  rw [if_neg (by simp)]
  refine (if_neg ?hh).trans (parFin _ names ts hn e6 e7)
  intro z
  exact Bool.false_ne_true (hstar.symm.trans z)
section
variable {τ n : Nat} {T : Tab} {φ : Nat → List D → M D} {N : List Str} {X : Cx} {sc : Scope}
theorem slotsB_ok (hN : X.N = N) (hs : X.env.scope = sc) : ∀ (xs : List Str) (is : List Nat), slotsB N sc xs is = true → Slots X xs is
  | [], [], _ => trivial
  | x :: xs, i :: is, h => by
    obtain ⟨h1, h2⟩ := and2 (show ((N[i]? == some x && sc.names.lookup x == some .local) && slotsB N sc xs is) = true from h)
    obtain ⟨h1, h3⟩ := and2 h1
    exact ⟨⟨by rw [hN]; exact eq_of_beq h1, by rw [hs]; exact eq_of_beq h3⟩, slotsB_ok hN hs xs is h2⟩
  | [], _ :: _, h => (Bool.false_ne_true h).elim
  | _ :: _, [], h => (Bool.false_ne_true h).elim
theorem mapM_len : ∀ (is : List Nat) (names : List Str), is.mapM (fun i => N[i]?) = some names → names.length = is.length
  | [], names, h => by cases h; rfl
  | i :: is, names, h => by
    rw [List.mapM_cons] at h
    cases q1 : N[i]? with
    | none => rw [q1] at h; cases h
    | some x =>
      cases q2 : is.mapM (fun i => N[i]?) with
      | none => rw [q1, q2] at h; cases h
      | some xs =>
        rw [q1, q2] at h
        cases h
        rw [List.length_cons, List.length_cons, mapM_len is xs q2]
mutual
theorem sndS (c : Ctx τ X n T φ N sc (fun _ => true)) : ∀ (ir : Sx) (s : Stmt), chkS T N sc ir s = true → PSD τ X s (evS φ ir)
  | .pass, s, h => by cases s <;> first | exact psd_pass | exact (Bool.false_ne_true h).elim
  | .brk, s, h => by cases s <;> first | exact psd_brk | exact (Bool.false_ne_true h).elim
  | .cont, s, h => by cases s <;> first | exact psd_cont | exact (Bool.false_ne_true h).elim
  | .dead, s, h => fun pins s σ H ρ η S I tk sr st => trivial
  | .ret e, s, h => by
    cases s <;> try exact (Bool.false_ne_true h).elim
    rename_i v p
    cases v with
    | none => exact (Bool.false_ne_true h).elim
    | some x => exact psd_ret (sndE e c x h)
  | .set i e, s, h => by
    cases s <;> try exact (Bool.false_ne_true h).elim
    rename_i ts v p
    cases ts with
    | nil => exact (Bool.false_ne_true h).elim
    | cons t ts =>
      cases t <;> try exact (Bool.false_ne_true h).elim
      rename_i y py
      cases ts with
      | cons _ _ => exact (Bool.false_ne_true h).elim
      | nil =>
        obtain ⟨h', h3⟩ := and2 (show (okNm N sc (fun _ => true) i y && chkE T N sc (fun _ => true) e v && setB sc y py v) = true from h)
        obtain ⟨h1, h2⟩ := and2 h'
        clear h'
        obtain ⟨n1, n2, n3⟩ := c.store h1
        have plain : swapsWith v (some (.Name y py)) p.line X.env = pure false → PSD τ X (.Assign [.Name y py] v p) (evS φ (.set i e)) := fun hs => psd_set c.ck.nd n1 n2 n3 (sndE e c v h2) hs
        by_cases hv : noComp v = true
        · exact plain (noComp_ok hv)
        · clear h
          cases v <;> try exact absurd rfl hv
          · rename_i e1 gs scope pos
            have h3 : (sc.names.lookup y == some .cell || (sc.kind == .function && sc.names.lookup y == some .local && py.line == pos.line && !(scope.names.any fun (n, k) => n == y && (k == .local || k == .cell)))) = true := h3
            rw [Bool.or_eq_true] at h3
            rcases h3 with h3 | h3
            · refine plain ?_
              unfold swapsWith
              have : X.env.kindOf y = some .cell := by rw [kind_eq, c.hs]; exact eq_of_beq h3
              simp [this]
              rw [show (NameKind.cell == NameKind.local) = false from rfl, Bool.and_false, Bool.false_and, Bool.false_and]
            · obtain ⟨h3, h7⟩ := and2 h3
              obtain ⟨h3, h6⟩ := and2 h3
              obtain ⟨h4, h5⟩ := and2 h3
              have hyl : X.env.scope.names.lookup y = some .local := by rw [c.hs]; exact eq_of_beq h5
              have hsw := sw_true (elt := e1) (gs := gs) (l := p.line) (by rw [c.hs]; exact eq_of_beq h4) hyl h6 (notF h7)
              cases e <;> try exact (Bool.false_ne_true h2).elim
              rename_i m tg it ifs elt own
              cases gs with
              | nil => exact (Bool.false_ne_true h2).elim
              | cons g gs =>
                cases gs with
                | cons _ _ => exact (chk_lc2 h2).elim
                | nil =>
                  obtain ⟨tg', it', ifs', z⟩ := g
                  obtain ⟨ez, hh⟩ := chk_lc h2
                  subst ez
                  obtain ⟨h, g8⟩ := and2 hh
                  obtain ⟨h, g7⟩ := and2 h
                  obtain ⟨h, g6⟩ := and2 h
                  obtain ⟨h, g5⟩ := and2 h
                  obtain ⟨h, g4⟩ := and2 h
                  obtain ⟨h, g3⟩ := and2 h
                  obtain ⟨g1, g2⟩ := and2 h
                  have ok : BlkOk X.N X.env.scope scope (ownP N own) := by rw [c.hN, c.hs]; exact blkB_ok g3
                  have key := psd_setLc (m := m) (i := i) (py := py) (pos := pos) (spos := p) c.ck.calm c.ck.nd n1 hyl hsw (sndI it c tg' it' g1 (and2 g2).2) ok (fun s H C cl fp => chkG_ok (c.blk s H scope cl C fp) tg tg' g5)
                    (by rw [ownP_snd]; exact Tg.wipe g4) (fun s H C cl fp => sndTs ifs (c.blk s H scope cl C fp) ifs' (of_decide_eq_true g6) g7) (fun s H C cl fp => sndE elt (c.blk s H scope cl C fp) e1 g8) (set_ok' (and2 g2).1)
                  rw [ownP_snd] at key
                  exact key
          · exact (Bool.false_ne_true h3).elim
          · exact (Bool.false_ne_true h3).elim
  | .par is e, s, h => by
    cases s <;> try exact (Bool.false_ne_true h).elim
    rename_i ts v p
    cases ts with
    | nil => exact (Bool.false_ne_true h).elim
    | cons t ts =>
      cases t <;> try exact (Bool.false_ne_true h).elim
      rename_i ts' kt pt
      cases ts with
      | cons _ _ => exact (Bool.false_ne_true h).elim
      | nil =>
        cases v <;> try exact (Bool.false_ne_true h).elim
        rename_i vs k p'
        obtain ⟨h1, h2⟩ := and2 (show ((match is.mapM (fun i => N[i]?) with | some names => parB sc ts' vs names && slotsB N sc names.reverse is.reverse | none => false) && chkE T N sc (fun _ => true) e (.Tuple vs k p')) = true from h)
        cases q : is.mapM (fun i => N[i]?) with
        | none => rw [q] at h1; exact (Bool.false_ne_true h1).elim
        | some names =>
          rw [q] at h1
          obtain ⟨h3, h4⟩ := and2 h1
          have key := psd_par (pos := p) (is := is) c.ck.calm c.ck.nd (slotsB_ok c.hN c.hs _ _ h4) (sndE e c _ h2) (parB_ok (kt := kt) (pt := pt) c.hs h3) sole_tup
          rw [mapM_len is names q] at key
          exact key
  | .asg tg e, s, h => by
    cases s <;> try exact (Bool.false_ne_true h).elim
    rename_i ts v p
    cases ts with
    | nil => exact (Bool.false_ne_true h).elim
    | cons t ts =>
      cases t <;> try exact (Bool.false_ne_true h).elim
      rename_i ts' kt pt
      cases ts with
      | cons _ _ => exact (Bool.false_ne_true h).elim
      | nil =>
        obtain ⟨h, h3⟩ := and2 (show (chkG N sc (fun _ => true) tg (.Tuple ts' kt pt) && noTup v && chkE T N sc (fun _ => true) e v) = true from h)
        obtain ⟨h1, h2⟩ := and2 h
        exact psd_asg (sndE e c v h3) (chkG_ok c tg _ h1) sole_tup (noTup_ok h2) rfl
  | .put o i e, s, h => by
    cases s <;> try exact (Bool.false_ne_true h).elim
    rename_i ts v p
    cases ts with
    | nil => exact (Bool.false_ne_true h).elim
    | cons t ts =>
      cases t <;> try exact (Bool.false_ne_true h).elim
      rename_i x y p'
      cases ts with
      | cons _ _ => exact (Bool.false_ne_true h).elim
      | nil =>
        obtain ⟨h, h5⟩ := and2 (show (plainIx y && noComp v && chkE T N sc (fun _ => true) e v && chkE T N sc (fun _ => true) o x && chkE T N sc (fun _ => true) i y) = true from h)
        obtain ⟨h, h4⟩ := and2 h
        obtain ⟨h, h3⟩ := and2 h
        obtain ⟨h1, h2⟩ := and2 h
        have hp := pgd_sub (pos := p') (c.ck.units (k := 1) (by decide)) (sndE o c x h4) (sndE i c y h5) (by intro u; cases y <;> first | rfl | exact (Bool.false_ne_true h1).elim)
        have key := psd_asg (pos := p) (sndE e c v h3) hp (by unfold swapsWithSole; exact noComp_ok h2) sub_none rfl
        have e : (fun ρ => evE φ e ρ >>= fun d => (evE φ o ρ >>= fun od => evE φ i ρ >>= fun id => setD od id d >>= fun _ => pure ρ) >>= fun ρ' => pure (Fl.next ρ')) = evS φ (.put o i e) := by
          funext ρ S
          show (evE φ e ρ >>= fun d => (evE φ o ρ >>= fun od => evE φ i ρ >>= fun id => setD od id d >>= fun _ => pure ρ) >>= fun ρ' => pure (Fl.next ρ')) S = (evE φ e ρ >>= fun d => evE φ o ρ >>= fun od => evE φ i ρ >>= fun id => setD od id d >>= fun _ => pure (.next ρ)) S
          simp only [bind_run]
          cases evE φ e ρ S with
          | bad => rfl
          | ok d S1 =>
            dsimp only
            cases evE φ o ρ S1 with
            | bad => rfl
            | ok od S2 =>
              dsimp only
              cases evE φ i ρ S2 with
              | bad => rfl
              | ok id S3 =>
                dsimp only
                cases setD od id d S3 <;> rfl
        rw [← e]
        exact key
  | .exp e, s, h => by
    cases s <;> try exact (Bool.false_ne_true h).elim
    rename_i v p
    obtain ⟨h1, h2⟩ := and2 (show (noComp v && chkE T N sc (fun _ => true) e v) = true from h)
    exact psd_expr (sndE e c v h2) (noComp_ok h1)
  | .ite t a b, s, h => by
    cases s <;> try exact (Bool.false_ne_true h).elim
    rename_i q x y p
    obtain ⟨h, h3⟩ := and2 (show (chkT T N sc (fun _ => true) t q && chkSs T N sc a x && chkSs T N sc b y) = true from h)
    obtain ⟨h1, h2⟩ := and2 h
    exact psd_if (sndT t c q h1) (sndSs c a x h2) (sndSs c b y h3)
  | .forr tg it b, s, h => by
    cases s <;> try exact (Bool.false_ne_true h).elim
    rename_i tg' it' x oe p
    cases oe with
    | cons _ _ => exact (Bool.false_ne_true h).elim
    | nil =>
      obtain ⟨h, h4⟩ := and2 (show (chkI T N sc (fun _ => true) it it' && (noSet it' && tupT it tg') && chkG N sc (fun _ => true) tg tg' && chkSs T N sc b x) = true from h)
      obtain ⟨h, h3⟩ := and2 h
      obtain ⟨h1, h2⟩ := and2 h
      exact psd_for c.ck.calm (sndI it c tg' it' h1 (and2 h2).2) (chkG_ok c tg tg' h3) (sndSs c b x h4) (set_ok' (and2 h2).1)
theorem sndSs (c : Ctx τ X n T φ N sc (fun _ => true)) : ∀ (ir : Sxs) (s : List Stmt), chkSs T N sc ir s = true → PSDs τ X s (evSs φ ir)
  | .nil, s, h => by
    cases s with
    | nil => exact psd_nil
    | cons _ _ => exact (Bool.false_ne_true h).elim
  | .cons a r, s, h => by
    cases s with
    | nil => exact (Bool.false_ne_true h).elim
    | cons x xs =>
      obtain ⟨h1, h2⟩ := and2 (show (chkS T N sc a x && chkSs T N sc r xs) = true from h)
      exact psd_cons (sndS c a x h1) (sndSs c r xs h2)
end
end
end MP

/-! MP22: the table of functions; the law's end. -/
namespace MP
open PySem L2 PyProof.Rows
structure FDef where
  name : Str
  N : List Str
  np : Nat
  body : Sxs
def runF (P : List FDef) : Nat → Nat → List D → M D
  | 0, _, _ => M.fail
  | n + 1, k, ds => match P[k]? with
    | some f => if ds.length = f.np then bodyD f.N.length (evSs (runF P n) f.body) ds else M.fail
    | none => M.fail
/-- what stands at a law's top -/
structure Top where
  P : List FDef
  gls : List (Str × D)
  rp : Bool := true
  gds : List (Str × List (Key × D)) := []
def tabOf (t : Top) : Tab := ⟨t.P.map fun p => ⟨p.name, p.np⟩, t.gls, t.rp, t.gds⟩
def mkDef (x : Str) (params : Arguments) (body : List Stmt) (scope : Scope) : Stmt := .FunctionDef x params body [] none [] scope none x ⟨0, 0, 0, 0⟩
/-- what the top has left of a def -/
structure FFact (K : PySem.W.Frag) (mg : Str → Option Value) (T : Tab) (p : FDef) : Prop where
  ex : ∃ f fd ps sm, Fun K p.name p.name sm f fd ∧ FnScope p.N ps (defScope sm) ∧ mg p.name = some (.ref f) ∧ Binds K fd ps [] ∧ chkSs T p.N (defScope sm) p.body (defBody sm) = true ∧ ps.length = p.np
structure GFact (K : PySem.W.Frag) (mg : Str → Option Value) (p : Str × D) : Prop where
  ex : ∃ v u, mg p.1 = some u ∧ RelV v u ∧ ∀ η H, Rep K η H p.2 v
section
variable {Pg : Program} {w : World} {K : PySem.W.Frag} {mg : Str → Option Value} {base : Heap} {t : Top} {τ : Nat}
/-- what the top has left -/
structure Left (K : PySem.W.Frag) (w : World) (mg : Str → Option Value) (t : Top) : Prop where
  fns : ∀ p ∈ t.P, FFact K mg (tabOf t) p
  gls : ∀ p ∈ t.gls, GFact K mg p
  bls : ∀ x ∈ bltNames, mg x = none
  gds : ∀ p ∈ t.gds, KdAt K w mg p.1 p.2
theorem fnD_weak {n : Nat} {f : Addr} {fd : FuncData} {ps : List Str} {g g' : List D → M D} (F : FnD τ Pg w K mg base n f fd ps g) (h : ∀ ds S d S', g' ds S = .ok d S' → g ds S = .ok d S') : FnD τ Pg w K mg base n f fd ps g' :=
  fun A outer s H args us vs ds η S d S' h1 h2 h3 h4 h5 h6 h7 h8 h9 q => F A outer s H args us vs ds η S d S' h1 h2 h3 h4 h5 h6 h7 h8 h9 (h _ _ _ _ q)
theorem tab_ctx {X : Cx} {n : Nat} (hP : X.prog = Pg) (hw : X.w = w) (hK : X.K = K) (hm : X.mg = mg) (hb : X.base = base)
    (hf : ∀ (k : Nat) (p : FDef), t.P[k]? = some p → ∃ f fd ps, ps.length = p.np ∧ mg p.name = some (.ref f) ∧ PySem.W.keepIn K (.ref f) = true ∧ Binds K fd ps [] ∧ FnD τ Pg w K mg base n f fd ps (runF t.P n k))
    (L : Left K w mg t) (hr : t.rp = true → 1 ≤ τ) : TabOk τ X n (tabOf t) (runF t.P n) := by
  subst hP hw hK hm hb
  refine ⟨fun k p q => ?_, fun k p q => ?_, L.bls, hr, fun k p q => ?_⟩
  · have q : (t.P.map fun p => (⟨p.name, p.np⟩ : FI))[k]? = some p := q
    rw [List.getElem?_map] at q
    cases q2 : t.P[k]? with
    | none => rw [q2] at q; cases q
    | some r =>
      rw [q2] at q
      cases q
      exact hf k r q2
  · have q : t.gls[k]? = some p := q
    exact (L.gls p (List.mem_of_getElem? q)).ex
  · have q : t.gds[k]? = some p := q
    exact L.gds p (List.mem_of_getElem? q)
theorem fns_ok (hsm : ∃ o, base.get? sysModules = some o) (L : Left K w mg t) (hr : t.rp = true → 1 ≤ τ) :
    ∀ (n k : Nat) (p : FDef), t.P[k]? = some p → ∃ f fd ps, ps.length = p.np ∧ mg p.name = some (.ref f) ∧ PySem.W.keepIn K (.ref f) = true ∧ Binds K fd ps [] ∧ FnD τ Pg w K mg base n f fd ps (runF t.P n k)
  | 0, k, p, q => by
    obtain ⟨f, fd, ps, sm, F, Sc, hm, hb, hc, hl⟩ := (L.fns p (List.mem_of_getElem? q)).ex
    exact ⟨f, fd, ps, hl, hm, F.kp, hb, fun A outer s H args us vs ds η S d S' h1 h2 h3 h4 h5 h6 h7 h8 h9 z => by cases z⟩
  | n + 1, k, p, q => by
    obtain ⟨f, fd, ps, sm, F, Sc, hm, hb, hc, hl⟩ := (L.fns p (List.mem_of_getElem? q)).ex
    refine ⟨f, fd, ps, hl, hm, F.kp, hb, fnD_weak (fnd_of (g := evSs (runF t.P n) p.body) hsm F Sc fun X e1 e2 e3 e4 e5 e6 e7 e8 c => ?_) fun ds S d S' z => ?_⟩
    · exact sndSs ⟨e6, e7, c, tab_ctx e1 e2 e3 e4 e5 (fns_ok hsm L hr n) L hr, fun x _ => e8 x⟩ p.body _ hc
    · unfold runF at z
      rw [q] at z
      dsimp only at z
      split at z
      · exact z
      · cases z
end
/-! ### the end -/
theorem law_callD {P : Program} {w : World} {K : PySem.W.Frag} {mg mb : Str → Option Value} {k : Nat} {fa a : Addr} {fd : FuncData} {x : Str} {g : List D → M D} {s₁ : Shared} {vs : List Value} {ns : List Int} {S' : Sto}
    (KX : K.In s₁.heap) (hns : s₁.heap.Ns mainGlobals mg) (hb : s₁.heap.Ns builtinsNs mb) (hbb : ∀ x : Str, x ≠ "__name__" → mb x = bootBuiltins x) (hlim : s₁.heap.NoLimit) (hg : s₁.gens = #[])
    (ha : s₁.heap.get? a = some { cls := .type "list", data := .seq vs.toArray }) (hi : IntsAre vs ns) (hl : ns.length ≤ sizeLine) (hr : Room k callerA) (hsm : ∃ o, s₁.heap.get? sysModules = some o ∧ o.cls = .type "dict")
    (F : ∀ base : Heap, K.In base → base.Ns mainGlobals mg → (∃ o, base.get? sysModules = some o) → FnD 0 P w K mg base k fa fd [x] g) (hbind : ∀ (s : Shared) (u : Value), K.In s.heap → BindsTo s fd ⟨[u], []⟩ [(x, u)])
    (hrun : g [.frz (ns.map D.int)] [] = .ok (.bl true) S') :
    codeAny (model P w) callerA (.call (.ref fa) ⟨[.ref a], []⟩) (fun r s' => r = .ok (.ret (.bool true)) ∧ OldK s₁.heap s'.heap ∧ s'.os = s₁.os ∧ AllBare s'.gens) s₁ := by
  have rv := vals_ints hi
  have lenV := hi.length
  have core : ∀ H : Hp, Only H → SqL K H a (ns.map V.int) → HOk P w H s₁.heap → (∀ b, H b ≠ none → b = a) → (H a ≠ none → K.lookup a = none) →
      codeAny (model P w) callerA (.call (.ref fa) ⟨[.ref a], []⟩) (fun r s' => r = .ok (.ret (.bool true)) ∧ OldK s₁.heap s'.heap ∧ s'.os = s₁.os ∧ AllBare s'.gens) s₁ := by
    intro H hO hS hok hA hK
    have base_of : ∀ {b : Addr} {o : Obj}, s₁.heap.get? b = some o → H b = none → (hidT s₁.heap H).get? b = some o := fun e n => hidT_get e n
    have noA : ∀ {b : Addr} {o : Obj}, s₁.heap.get? b = some o → o.cls ≠ .type "list" → H b = none := fun {b o} e d => by
      cases q : H b with
      | none => rfl
      | some u =>
        have e' : b = a := hA b (by rw [q]; simp)
        subst e'
        rw [ha] at e; cases e
        exact absurd rfl d
    have noD : ∀ {b : Addr} {o : Obj} {es : Array DictEntry} {ep : Nat}, s₁.heap.get? b = some o → o.data = .dict es ep → H b = none := fun {b o es ep} e d => by
      cases q : H b with
      | none => rfl
      | some u =>
        have e' : b = a := hA b (by rw [q]; simp)
        subst e'
        rw [ha] at e; cases e
        have d' : Data.seq vs.toArray _ = Data.dict es ep := d
        cases d'
    have nsK : ∀ {b : Addr} {m : Str → Option Value}, s₁.heap.Ns b m → (hidT s₁.heap H).Ns b m := fun {b m} ⟨o, es, ep, e, d, r⟩ => ⟨o, es, ep, base_of e (noD e d), d, r⟩
    have hKb : K.In (hidT s₁.heap H) := fun b o e => base_of (KX b o e) (by
      cases q : H b with
      | none => rfl
      | some u =>
        have e' : b = a := hA b (by rw [q]; simp)
        subst e'
        rw [hK (by rw [q]; simp)] at e; cases e)
    have hM : Mod K mg (hidT s₁.heap H) := ⟨hKb, nsK hns, ⟨mb, nsK hb, hbb⟩, let ⟨mc, h1, h2⟩ := hlim; ⟨mc, nsK h1, h2⟩⟩
    have e0 : Env0 P w K mg (hidT s₁.heap H) callerA [] s₁ H := ⟨rfl, hM, fun b o e => of_hidT e, Nat.le_of_eq (hidT_size _ _), trivial, fun b hb => absurd (show b ∈ ([] : List Addr) from hb) (by simp), hok, .of_eq hg⟩
    have hs : ∃ o, (hidT s₁.heap H).get? sysModules = some o := by
      obtain ⟨o, e1, e2⟩ := hsm
      exact ⟨o, base_of e1 (noA e1 (by rw [e2]; decide))⟩
    have hfz : Rep K [] H (.frz (ns.map D.int)) (.ref a) := by
      refine .frz (vs := ns.map V.int) ?_ (Reps.ints ns)
      rcases hS with hS | hS
      · exact .inl ⟨hS, by simp⟩
      · exact .inr hS
    have st0 : StoOk K [] H [] := ⟨rfl, .nil, fun n o a' e => by simp at e⟩
    refine codeAny_mono ((F _ hKb (nsK hns) hs) callerA [] s₁ H ⟨[.ref a], []⟩ [.ref a] [.ref a] [.frz (ns.map D.int)] [] [] _ _ hr rfl (Nat.zero_le _) e0 (hbind s₁ (.ref a) KX) (.cons rfl .nil) (.cons hfz .nil) rfl st0 hrun) fun r s' h => ?_
    obtain ⟨u, v, η', H', e1, _, os, bare, un, hok', _, _, r', q⟩ := h
    cases q
    obtain rfl : u = Value.bool true := r'
    refine ⟨e1, OldK.of_keep fun b o e => ?_, os, bare⟩
    cases q : H b with
    | none => exact un.keep b o e q (by intro z; exact absurd (show b ∈ ([] : List Addr) from z) (by simp)) (by simp)
    | some u =>
      rcases hO b with z | ⟨ob, xs, z⟩
      · rw [q] at z; cases z
      · have z2 := un.frzs b ob _ z
        obtain ⟨e1, _⟩ := hok b _ z
        obtain ⟨e2, _⟩ := hok' b _ z2
        rw [e] at e1; cases e1
        exact e2
  cases hk : K.lookup a with
  | some o =>
    have e := KX a o hk
    rw [ha] at e
    cases e
    refine core (fun _ => none) (fun _ => .inl rfl) (.inr ⟨_, vs.toArray, _, hk, rfl, rfl, rfl, by rw [List.size_toArray, lenV]; exact hl, by simpa using rv⟩) (fun b u z => by have z' : (none : Option HO) = some u := z; cases z') (fun b z => absurd rfl z) fun z => absurd rfl z
  | none =>
    refine core (fun b => if b = a then some (.frz { cls := .type "list", data := .seq vs.toArray } (.lst (ns.map V.int))) else none) (fun b => ?_) (.inl (.inr ⟨{ cls := .type "list", data := .seq vs.toArray }, if_pos rfl⟩)) (fun b u z => ?_) (fun b z => ?_) fun _ => hk
    · by_cases hb : b = a
      · exact .inr ⟨_, _, if_pos hb⟩
      · exact .inl (if_neg hb)
    · by_cases hb : b = a
      · have z' := (if_pos hb).symm.trans z
        cases z'
        subst hb
        exact ⟨ha, by rw [List.length_map]; exact hl, vs, _, rv, ha⟩
      · have z' := (if_neg hb).symm.trans z
        cases z'
    · by_cases hb : b = a
      · exact hb
      · exact absurd (if_neg hb) z
/-- the goal that the head leaves, from the law's run in plain Lean -/
theorem walk_ofD {l : PySem.W.OpenLaw} {n k : Nat} {q : Program} {loose : List Str} {XP : (Str → Option Value) → Heap → Prop} {YP : World → Heap → Prop} {d : DefRec} {x : Str}
    (hn : l.most = some n) (hn2 : n ≤ sizeLine) (hdf : d.params.defaults = []) (hr : Room k callerA)
    (F : ∀ (w : World) (mg : Str → Option Value) (fa : Addr) (h : Heap), YP w h → h.Ns mainGlobals mg → mg d.name = some (.ref fa) →
      ∃ (K : PySem.W.Frag) (fd : FuncData) (g : List D → M D), K.In h ∧ (∃ o, h.get? sysModules = some o ∧ o.cls = .type "dict") ∧ (∀ (s : Shared) (u : Value), K.In s.heap → BindsTo s fd ⟨[u], []⟩ [(x, u)]) ∧
        (∀ (ns : List Int), ns.length ≤ n → ∃ S', g [.frz (ns.map D.int)] [] = .ok (.bl true) S') ∧
        ∀ base : Heap, K.In base → base.Ns mainGlobals mg → (∃ o, base.get? sysModules = some o) → FnD 0 l.prog w K mg base k fa fd [x] g) :
    PySem.W.WalkO q loose XP YP l.row.toRowW d [] (fun f vs => PySem.call f vs) := by
  refine Att.attach_call hn hdf fun w s₀ s₁ mg mb fa o pm cd doc a vs ns G Y ho hd hcd hmg hobj hints hlen hg => ?_
  obtain ⟨K, fd, g, KX, hsm, hb, hrun, hF⟩ := F w mg fa _ Y G.T.g hmg
  obtain ⟨S', hS⟩ := hrun ns hlen
  exact law_callD KX G.T.g G.T.b G.T.builtins G.T.nolimit hg hobj hints (Nat.le_trans hlen hn2) hr hsm hF hb hS
end MP

/-! MP23: the head: what the top leaves, read by one Bool. -/
namespace MP
open PySem L2 PyProof.Rows
def argsB (p : Arguments) : Bool := match p with
  | ⟨[], _, none, [], [], none, []⟩ => true
  | _ => false
def valNone : Value → Bool
  | .none => true
  | _ => false
def fnB (K : PySem.W.Frag) (T : Tab) (p : FDef) : Bool := match PySem.W.nsIn K mainGlobals p.name with
  | some (some (.ref f)) => (match K.lookup f with
    | some ⟨_, _, .func fd, _⟩ => (match fd.body with
      | .stmts body => fd.name == p.name && fd.qualname == p.name && fd.globals == mainGlobals && fd.closure.isEmpty && valNone fd.defaults && fd.builtins == builtinsNs && PySem.W.codeIn K fd.code p.name && argsB fd.params &&
          fd.params.args.map (·.arg) == p.N.take p.np && decide (p.np ≤ p.N.length) && decide (p.np ≤ 6) && decide (1 ≤ p.np) && C8.scC p.N (p.N.take p.np) fd.scope && chkSs T p.N fd.scope p.body body
      | _ => false)
    | _ => false)
  | _ => false
/-- how the arguments of a def of these names bind -/
def BindOk (ps : List Str) : Prop := ∀ (x q : Str) (args : List Arg) (body : List Stmt) (scope : Scope) (kV doc pm cdv ct : Value) (an : Option Addr) (us : List Value), args.map (·.arg) = ps → us.length = ps.length →
  bindArgs (PySem.W.fnOf x q ⟨[], args, none, [], [], none, []⟩ body scope .none kV doc pm an cdv ct) ⟨us, []⟩ = pure (ps.zip us)
theorem fnB_ok {K : PySem.W.Frag} {h : Heap} {mg : Str → Option Value} {T : Tab} {p : FDef} (hB : BindOk (p.N.take p.np)) (KX : K.In h) (G : h.Ns mainGlobals mg) (e : fnB K T p = true) : FFact K mg T p := by
  unfold fnB at e
  split at e <;> try cases e
  rename_i f q1
  split at e <;> try cases e
  rename_i oc od fd osl q2
  split at e <;> try cases e
  rename_i body q3
  obtain ⟨e, h14⟩ := and2 e
  obtain ⟨e, h13⟩ := and2 e
  obtain ⟨e, h12⟩ := and2 e
  obtain ⟨e, h11⟩ := and2 e
  obtain ⟨e, h10⟩ := and2 e
  obtain ⟨e, h9⟩ := and2 e
  obtain ⟨e, h8⟩ := and2 e
  obtain ⟨e, h7⟩ := and2 e
  obtain ⟨e, h6⟩ := and2 e
  obtain ⟨e, h5⟩ := and2 e
  obtain ⟨e, h4⟩ := and2 e
  obtain ⟨e, h3⟩ := and2 e
  obtain ⟨h1, h2⟩ := and2 e
  obtain ⟨nm, qn, params, fb, scope, gl, clo, dfl, kw, doc, pm, an, code, ct, bl⟩ := fd
  have en : nm = p.name := eq_of_beq h1
  have eq : qn = p.name := eq_of_beq h2
  subst en eq
  obtain rfl : gl = mainGlobals := eq_of_beq h3
  obtain rfl : clo = [] := List.isEmpty_iff.mp h4
  obtain rfl : dfl = .none := by cases dfl <;> first | rfl | exact (Bool.false_ne_true h5).elim
  obtain rfl : bl = builtinsNs := eq_of_beq h6
  obtain rfl : fb = .stmts body := q3
  obtain ⟨po, args, va, ko, kd, ka, df⟩ := params
  have hargs : po = [] ∧ va = none ∧ ko = [] ∧ kd = [] ∧ ka = none ∧ df = [] := by
    cases po <;> cases va <;> cases ko <;> cases kd <;> cases ka <;> cases df <;> first | exact ⟨rfl, rfl, rfl, rfl, rfl, rfl⟩ | exact (Bool.false_ne_true h8).elim
  obtain ⟨rfl, rfl, rfl, rfl, rfl, rfl⟩ := hargs
  have hps : args.map (·.arg) = p.N.take p.np := eq_of_beq h9
  have hlen : args.length = p.np := by
    have := congrArg List.length hps
    rw [List.length_map, List.length_take] at this
    have := of_decide_eq_true h10
    omega
  have hr : (p.N.take p.np).length = p.np := by rw [← hps, List.length_map, hlen]
  refine ⟨f, _, p.N.take p.np, mkDef p.name ⟨[], args, none, [], [], none, []⟩ body scope, ⟨⟨oc, od, kw, doc, pm, an, code, ct, osl, rfl, q2, h7⟩, ?_⟩, C8.fnScope_by h13, PySem.W.mg_of KX G q1, ?_, h14, hr⟩
  · show (match K.lookup f with | some ⟨_, _, .func _, _⟩ => true | some ⟨_, _, .cls _, _⟩ => PySem.W.specialIn K (.ref f) "__call__" == some (some (.builtin "type.__call__")) | _ => false) = true
    rw [q2]
  · exact Binds.all fun us hl => hB _ _ args body scope kw doc pm code ct an us hps hl
/-! ### constants -/
mutual
def relC (K : PySem.W.Frag) : D → Value → Bool
  | .non, .none => true
  | .bl a, .bool b => a == b
  | .int i, .int j _ => i == j
  | .str x, .str y _ => x == y
  | .tup ds, .ref a => (match K.lookup a with
    | some ⟨.type c, _, .seq its _, _⟩ => c == "tuple" && decide (its.size ≤ sizeLine) && relCs K ds its.toList
    | _ => false)
  | _, _ => false
def relCs (K : PySem.W.Frag) : List D → List Value → Bool
  | [], [] => true
  | d :: ds, u :: us => relC K d u && relCs K ds us
  | _, _ => false
end
mutual
theorem relC_ok {K : PySem.W.Frag} : ∀ (d : D) (u : Value), relC K d u = true → ∃ v, RelV v u ∧ ∀ η H, Rep K η H d v
  | .non, u, h => by cases u <;> first | exact ⟨.non, rfl, fun _ _ => .non⟩ | exact (Bool.false_ne_true h).elim
  | .bl a, u, h => by
    cases u <;> first
      | (obtain rfl := eq_of_beq (show (a == _) = true from h); exact ⟨.bl a, rfl, fun _ _ => .bl _⟩)
      | exact (Bool.false_ne_true h).elim
  | .int i, u, h => by
    cases u <;> first
      | (obtain rfl := eq_of_beq (show (i == _) = true from h); exact ⟨.int i, ⟨_, rfl⟩, fun _ _ => .int _⟩)
      | exact (Bool.false_ne_true h).elim
  | .str x, u, h => by
    cases u <;> first
      | (obtain rfl := eq_of_beq (show (x == _) = true from h); exact ⟨.str x, ⟨_, rfl⟩, fun _ _ => .str _⟩)
      | exact (Bool.false_ne_true h).elim
  | .tup ds, u, h => by
    cases u <;> try exact (Bool.false_ne_true h).elim
    rename_i a
    have h : (match K.lookup a with
      | some ⟨.type c, _, .seq its _, _⟩ => c == "tuple" && decide (its.size ≤ sizeLine) && relCs K ds its.toList
      | _ => false) = true := h
    split at h <;> try cases h
    rename_i c od its n sl q
    obtain ⟨h, h3⟩ := and2 h
    obtain ⟨h1, h2⟩ := and2 h
    obtain rfl := eq_of_beq h1
    obtain ⟨vs, r, hv⟩ := relCs_ok ds its.toList h3
    exact ⟨.ref a, rfl, fun η H => .tup (.inr ⟨_, its, n, q, rfl, rfl, of_decide_eq_true h2, r⟩) (hv η H)⟩
  | .lst ds, u, h => by cases u <;> exact (Bool.false_ne_true h).elim
  | .frz ds, u, h => by cases u <;> exact (Bool.false_ne_true h).elim
  | .dic ds, u, h => by cases u <;> exact (Bool.false_ne_true h).elim
  | .ref ds, u, h => by cases u <;> exact (Bool.false_ne_true h).elim
theorem relCs_ok {K : PySem.W.Frag} : ∀ (ds : List D) (us : List Value), relCs K ds us = true → ∃ vs, Vals vs us ∧ ∀ η H, Reps K η H ds vs
  | [], us, h => by cases us <;> first | exact ⟨[], .nil, fun _ _ => .nil⟩ | exact (Bool.false_ne_true h).elim
  | d :: ds, us, h => by
    cases us with
    | nil => exact (Bool.false_ne_true h).elim
    | cons u us =>
      obtain ⟨h1, h2⟩ := and2 (show (relC K d u && relCs K ds us) = true from h)
      obtain ⟨v, r1, w1⟩ := relC_ok d u h1
      obtain ⟨vs, r2, w2⟩ := relCs_ok ds us h2
      exact ⟨v :: vs, .cons r1 r2, fun η H => .cons (w1 η H) (w2 η H)⟩
end
def glC (K : PySem.W.Frag) (p : Str × D) : Bool := match PySem.W.nsIn K mainGlobals p.1 with
  | some (some u) => relC K p.2 u
  | _ => false
theorem glC_ok {K : PySem.W.Frag} {h : Heap} {mg : Str → Option Value} {p : Str × D} (KX : K.In h) (G : h.Ns mainGlobals mg) (e : glC K p = true) : GFact K mg p := by
  unfold glC at e
  split at e <;> try cases e
  rename_i u q
  obtain ⟨v, r, hv⟩ := relC_ok p.2 u e
  exact ⟨v, u, PySem.W.mg_of KX G q, r, hv⟩
def blC (K : PySem.W.Frag) (x : Str) : Bool := match PySem.W.nsIn K mainGlobals x with
  | some none => true
  | _ => false
theorem blC_ok {K : PySem.W.Frag} {h : Heap} {mg : Str → Option Value} {x : Str} (KX : K.In h) (G : h.Ns mainGlobals mg) (e : blC K x = true) : mg x = none := by
  unfold blC at e
  split at e <;> try cases e
  rename_i q
  exact PySem.W.mg_none_of KX G q
/-! ### written dicts -/
def gaK (K : PySem.W.Frag) (x : Str) : Addr := match PySem.W.nsIn K mainGlobals x with
  | some (some (.ref a)) => a
  | _ => 0
def keyS : Key → Str
  | .inr z => z
  | _ => ⟨#[]⟩
def keysS (kds : List (Key × D)) : List Str := kds.map fun p => keyS p.1
def gdC (K : PySem.W.Frag) (p : Str × List (Key × D)) : Bool := match PySem.W.nsIn K mainGlobals p.1 with
  | some (some (.ref a)) => decide (p.2.map (·.1) = (keysS p.2).map Sum.inr) && p.2.all fun q => match q.1 with
    | .inr z => (match PySem.W.nsIn K a z with | some (some u) => relC K q.2 u | _ => false)
    | _ => false
  | _ => false
theorem ns_none {K : PySem.W.Frag} {w : World} {a : Addr} {ks : List Str} {z : Str} (h : He.dicW K a = some (He.keysIn w.params ks)) (hz : z ∉ ks) : PySem.W.nsIn K a z = some none := by
  have key : ∀ {l : List DictEntry} {ks : List Str}, l.map He.keyOf = He.keysIn w.params ks → z ∉ ks → l.find? (·.key.isStr z) = none ∧ l.any (·.refKey) = false := by
    intro l
    induction l with
    | nil => intro ks _ _; exact ⟨rfl, rfl⟩
    | cons e r ih =>
      intro ks h hz
      cases ks with
      | nil => cases h
      | cons k ks =>
        have h1 : He.keyOf e :: r.map He.keyOf = some (k, PyData.keyHash w.params k) :: He.keysIn w.params ks := h
        injection h1 with h2 h3
        obtain ⟨i1, i2⟩ := ih h3 (fun m => hz (List.mem_cons_of_mem _ m))
        unfold He.keyOf at h2
        split at h2
        · rename_i x t q
          obtain ⟨h5, h6⟩ := Prod.mk.inj (Option.some.inj h2)
          have hne : x ≠ z := fun e => hz (by rw [← e, h5]; simp)
          refine ⟨?_, ?_⟩
          · rw [List.find?_cons, q, i1]
            have : (Value.str x t).isStr z = false := by
              show (x == z) = false
              exact beq_eq_false_iff_ne.mpr hne
            rw [this]
          · rw [List.any_cons, i2, Bool.or_false]
            unfold DictEntry.refKey
            rw [q]
        · cases h2
  unfold He.dicW at h
  split at h
  · rename_i c es m sl q
    split at h
    · obtain ⟨k1, k2⟩ := key (Option.some.inj h) hz
      unfold PySem.W.nsIn
      rw [q]
      dsimp only
      rw [k1, k2]
      rfl
    · cases h
  · cases h
theorem lookK_none {kds : List (Key × D)} {z : Str} (h : p1 = kds) (hk : kds.map (·.1) = (keysS kds).map Sum.inr) (q : lookK kds (.inr z) = none) : z ∉ keysS kds := by
  intro m
  have : (Sum.inr z : Key) ∈ kds.map (·.1) := by rw [hk]; exact List.mem_map_of_mem m
  obtain ⟨p, hp, e⟩ := List.mem_map.mp this
  have q : (kds.find? fun p => decide (p.1 = .inr z)).map (·.2) = none := q
  rw [Option.map_eq_none_iff, List.find?_eq_none] at q
  exact q p hp (by simpa using e)
theorem gdC_ok {K : PySem.W.Frag} {w : World} {h : Heap} {mg : Str → Option Value} {p : Str × List (Key × D)} (KX : K.In h) (G : h.Ns mainGlobals mg) (e : gdC K p = true) (hd : He.dicW K (gaK K p.1) = some (He.keysIn w.params (keysS p.2))) : KdAt K w mg p.1 p.2 := by
  unfold gdC at e
  unfold gaK at hd
  split at e <;> try cases e
  rename_i a q
  rw [q] at hd
  obtain ⟨e1, e2⟩ := and2 e
  obtain ⟨es, n, kd⟩ := He.dicW_ok hd
  refine ⟨a, es, n, PySem.W.mg_of KX G q, kd, fun z => ?_⟩
  cases ql : lookK p.2 (.inr z) with
  | none => exact ns_none hd (lookK_none rfl (of_decide_eq_true e1) ql)
  | some d =>
    have ql : (p.2.find? fun p => decide (p.1 = .inr z)).map (·.2) = some d := ql
    obtain ⟨r, hr, e3⟩ := Option.map_eq_some_iff.mp ql
    have hm := List.mem_of_find?_eq_some hr
    have hk : r.1 = .inr z := by simpa using List.find?_some hr
    have := List.all_eq_true.mp e2 r hm
    rw [hk] at this
    dsimp only at this
    split at this <;> try cases this
    rename_i u qu
    obtain ⟨v, r1, hv⟩ := relC_ok r.2 u this
    subst e3
    exact ⟨u, v, qu, r1, hv⟩
/-! ### all of it -/
def topC (t : Top) (K : PySem.W.Frag) : Bool := t.P.all (fnB K (tabOf t)) && t.gls.all (glC K) && bltNames.all (blC K) && t.gds.all (gdC K)
def sysC (g : Addr → Option Obj) : Bool := match g sysModules with
  | some ⟨.type c, _, _, _⟩ => c == "dict"
  | _ => false
abbrev AlM : Type := Bool × List (Option (List (Option (Str × Int))))
def obsM (n : Nat) (t : Top) (g : Addr → Option Obj) : AlM := (topC t (He.frG g (He.asG g n)) && sysC g, t.gds.map fun p => He.dicW (He.frG g (He.asG g n)) (gaK (He.frG g (He.asG g n)) p.1))
def SysOk (h : Heap) : Prop := ∃ o, h.get? sysModules = some o ∧ o.cls = .type "dict"
theorem sysC_ok {h : Heap} (e : sysC h.get? = true) : SysOk h := by
  unfold sysC at e
  split at e <;> try cases e
  rename_i c _ _ _ q
  exact ⟨_, q, by rw [eq_of_beq e]⟩
def dicsV (t : Top) (w : World) : List (Option (List (Option (Str × Int)))) := t.gds.map fun p => some (He.keysIn w.params (keysS p.2))
def dicsK (t : Top) (K : PySem.W.Frag) : List (Option (List (Option (Str × Int)))) := t.gds.map fun p => He.dicW K (gaK K p.1)
def DicsOk (t : Top) (w : World) (K : PySem.W.Frag) : Prop := dicsK t K = dicsV t w
def hookM (n : Nat) (t : Top) : PySem.W.Hook where
  α := AlM
  obs := fun s => obsM n t s.heap.get?
  val := fun w => (true, dicsV t w)
  says := fun w h => ∃ K : PySem.W.Frag, K.In h ∧ topC t K = true ∧ SysOk h ∧ DicsOk t w K
  of := fun _ _ e => ⟨_, He.frG_in, (and2 (congrArg (fun z : AlM => z.1) e)).1, sysC_ok (and2 (congrArg (fun z : AlM => z.1) e)).2, congrArg (fun z : AlM => z.2) e⟩
  keeps := fun _ _ _ ⟨K, hK, c, ⟨o, e1, e2⟩, dd⟩ k => ⟨K, PySem.W.Frag.In.keeps hK k, c, ⟨o, k _ _ e1, e2⟩, dd⟩
def obM (n : Nat) (t : Top) (s : PySem.W.SharedT) : AlM := obsM n t (HandSHeadRun.getT s)
theorem obM_eq (n : Nat) (t : Top) (s : PySem.W.SharedT) : obM n t s = (hookM n t).obs s.abs := by
  have e : HandSHeadRun.getT s = s.abs.heap.get? := funext (HandSHeadRun.getT_eq s)
  unfold obM
  rw [e] <;> rfl
section
variable {Pg : Program} {w : World} {K : PySem.W.Frag} {mg : Str → Option Value} {h : Heap} {t : Top}
theorem topC_ok (hB : ∀ p ∈ t.P, BindOk (p.N.take p.np)) (KX : K.In h) (G : h.Ns mainGlobals mg) (e : topC t K = true) (hd : DicsOk t w K) : Left K w mg t := by
  obtain ⟨e, e4⟩ := and2 e
  obtain ⟨e, e3⟩ := and2 e
  obtain ⟨e1, e2⟩ := and2 e
  refine ⟨fun p hp => fnB_ok (hB p hp) KX G (List.all_eq_true.mp e1 p hp), fun p hp => glC_ok KX G (List.all_eq_true.mp e2 p hp), fun x hx => blC_ok KX G (List.all_eq_true.mp e3 x hx), fun p hp => ?_⟩
  refine gdC_ok KX G (List.all_eq_true.mp e4 p hp) ?_
  obtain ⟨i, hi, rfl⟩ := List.getElem_of_mem hp
  have hd : dicsK t K = dicsV t w := hd
  unfold dicsK dicsV at hd
  have := congrArg (·[i]?) hd
  simp only [List.getElem?_map, List.getElem?_eq_getElem hi] at this
  exact Option.some.inj this
end
end MP

/-! MP24: the first token of a run. A law is entered with no word of its tokens; behind its first statement one has been given. -/
namespace MP
open PySem L2 PyProof.Rows
section
variable {X : Cx} {pins : List (Addr × Obj)} {η : List Addr} {H : Hp} {s : Shared}
theorem Out.seq2 {τ τ' : Nat} {α β γ δ : Type} {rel : L2.St → List Addr → Hp → α → β → Prop} {rel2 : L2.St → List Addr → Hp → γ → δ → Prop} {m : M α} {f : α → M γ} {S : Sto} {t1 : Sem β} {W : Wp δ} {W2 : β → Wp δ}
    (hT : ∀ Q E, wpAny (model X.prog X.w) X.A t1 (fun u s' => W2 u Q E s') E s → W Q E s) (h1 : Out τ X pins η H rel (m S) (sem X t1) s)
    (h2 : ∀ u s1 σ1 η1 H1 a S1, m S = .ok a S1 → τ ≤ s1.toks → Inv X pins σ1 H1 s1 → Grow η H η1 H1 → StoOk X.K η1 H1 S1 → rel σ1 η1 H1 a u → Out τ' X pins η H rel2 (f a S1) (W2 u) s1) :
    Out τ' X pins η H rel2 ((m >>= f) S) W s := by
  show Out τ' X pins η H rel2 (match m S with | .ok a S' => f a S' | .bad => .bad) W s
  cases q : m S with
  | bad => trivial
  | ok a S1 =>
    rw [q] at h1
    show Out τ' X pins η H rel2 (f a S1) W s
    cases q2 : f a S1 with
    | bad => trivial
    | ok c S2 =>
      intro E
      refine hT _ E (wpAny_mono (h1 E) (fun u s1 z => ?_) fun _ _ z => z)
      obtain ⟨tk, σ1, η1, H1, I1, g1, st1, r1⟩ := z
      have k := h2 u s1 σ1 η1 H1 a S1 q tk I1 g1 st1 r1
      rw [q2] at k
      exact k E
end
def PES (X : Cx) (e : Expr) (g : Env → M D) : Prop := ∀ (pins : List (Addr × Obj)) (s : Shared) (σ : L2.St) (H : Hp) (ρ : Env) (η : List Addr) (S : Sto),
  Inv X pins σ H s → SRel X.K η H σ ρ → StoOk X.K η H S → Out 1 X pins η H (relV X.K σ) (g ρ S) (sem X (eval e X.env)) s
def PSS (X : Cx) (st : Stmt) (g : Env → M Fl) : Prop := ∀ (pins : List (Addr × Obj)) (s : Shared) (σ : L2.St) (H : Hp) (ρ : Env) (η : List Addr) (S : Sto),
  Inv X pins σ H s → SRel X.K η H σ ρ → StoOk X.K η H S → Out 1 X pins η H (relF X.K) (g ρ S) (sem X (exec st X.env)) s
def PSSs (X : Cx) (sts : List Stmt) (g : Env → M Fl) : Prop := ∀ (pins : List (Addr × Obj)) (s : Shared) (σ : L2.St) (H : Hp) (ρ : Env) (η : List Addr) (S : Sto),
  Inv X pins σ H s → SRel X.K η H σ ρ → StoOk X.K η H S → Out 1 X pins η H (relF X.K) (g ρ S) (sem X (execs sts X.env)) s
def FnS (P : Program) (w : World) (K : PySem.W.Frag) (mg : Str → Option Value) (base : Heap) (n : Nat) (f : Addr) (fd : FuncData) (ps : List Str) (g : List D → M D) : Prop :=
  ∀ (A : Around) (outer : List PySem.Env) (s : Shared) (H : Hp) (args : Args) (us : List Value) (vs : List V) (ds : List D) (η : List Addr) (S : Sto) (d : D) (S' : Sto), Room n A → A.guards = some [] → Env0 P w K mg base A outer s H → BindsTo s fd args (ps.zip us) → Vals vs us →
    Reps K η H ds vs → ds.length = ps.length → StoOk K η H S → g ds S = .ok d S' →
    codeAny (model P w) A (.call (.ref f) args) (fun r s' => ∃ u v η' H', r = .ok (.ret u) ∧ 1 ≤ s'.toks ∧ s'.os = s.os ∧ PyProof.Rows.AllBare s'.gens ∧ Un (frs outer) [] H H' s.heap s'.heap ∧ HOk P w H' s'.heap ∧ Grow η H η' H' ∧ StoOk K η' H' S' ∧ RelV v u ∧ Rep K η' H' d v) s
section
variable {X : Cx} {e : Expr} {pos : Pos} {n : Nat}
theorem pes_int {i : Int} {j : Nat} : PES X (.Constant (.int i) j pos) (fun _ => pure (.int i)) := fun pins s σ H ρ η S I sr st E =>
  wpAny_Constant_int ⟨Nat.le_add_left 1 _, σ, η, H, I.tok _, .refl _ _, st, rfl, .int i, ⟨_, rfl⟩, .int i⟩
theorem pes_slice {m : Bool} {ge gc : Env → M D} {c : Expr} {p2 : Pos} (he : PD 0 X e ge) (hc : PES X c gc) :
    PES X (.Subscript e (.Slice none (some c) none p2) pos) (fun ρ => ge ρ >>= fun d => (pure none : M (Option Int)) >>= fun l => (gc ρ >>= asI) >>= fun h => sliceE m d l h) := by
  intro pins s σ H ρ η S I sr st
  refine Out.seq2 (t1 := eval e X.env) (W2 := fun v Q E s1 => wpAny (model X.prog X.w) X.A (eval c X.env) (fun vu s3 =>
    wpAny (model X.prog X.w) X.A (PyProof.Rows.subscriptTail e (.Slice none (some c) none p2) v (.ref s3.heap.objs.size)) Q E { s3 with heap := s3.heap.push { cls := .type "slice", data := .fields #[.none, vu, .none] } }) E s1)
    (fun Q E h => PyProof.Rows.Subscript_ (wpAny_mono h (fun v s1 z => wpAny_Slice (by rw [evalPart_none]; exact wpAny_pure (by rw [evalPart_some]; exact wpAny_mono z (fun vu s3 z3 => wpAny_pure z3) fun _ _ z => z))) fun _ _ z => z)) (he pins s σ H ρ η S I (Nat.zero_le _) sr st) ?_
  rintro v s1 σ1 η1 H1 d S1 _ tk1 I1 g1 st1 ⟨rfl, x, rx, rd⟩
  refine Out.back (fun Q Q' E s hQ w => wpAny_mono w (fun vl s2 z => wpAny_mono z hQ fun _ _ z => z) fun _ _ z => z) g1 ?_
  show Out 1 X pins η1 H1 _ (((gc ρ >>= asI) >>= fun h => sliceE m d none h) S1) _ s1
  have assoc : ((gc ρ >>= asI) >>= fun h => sliceE m d none h) S1 = (gc ρ >>= fun e => asI e >>= fun h => sliceE m d none h) S1 := by
    simp only [bind_run]
    cases gc ρ S1 <;> rfl
  rw [assoc]
  refine Out.seq2 (t1 := eval c X.env) (W2 := fun vu Q E s3 => wpAny (model X.prog X.w) X.A (PyProof.Rows.subscriptTail e (.Slice none (some c) none p2) v (.ref s3.heap.objs.size)) Q E { s3 with heap := s3.heap.push { cls := .type "slice", data := .fields #[.none, vu, .none] } }) (fun Q E h => h) (hc pins s1 σ1 H1 ρ η1 S1 I1 (sr.grow g1) st1) ?_
  rintro vu s3 σ3 η3 H3 hd S3 _ tk3 I3 g3 st3 ⟨rfl, xu, ru, rdu⟩
  cases rdu with
  | int i =>
    obtain ⟨t, rfl⟩ := ru
    have I4 : Inv X pins σ3 H3 { s3 with heap := s3.heap.push { cls := .type "slice", data := .fields #[.none, .int i t, .none] } } := I3.kept (t' := s3.toks) fun b ob q => Heap.get?_push_of_some _ q
    show Out 1 X pins η1 H1 _ (sliceE m d none (some i) S3) _ s3
    cases q : sliceE m d none (some i) S3 with
    | bad => trivial
    | ok d' S' =>
      have key : Out 1 X pins η3 H3 (relV X.K σ3) (.ok d' S') (sem X (PyProof.Rows.subscriptTail e (.Slice none (some c) none p2) v (.ref s3.heap.objs.size))) { s3 with heap := s3.heap.push { cls := .type "slice", data := .fields #[.none, .int i t, .none] } } := by
        refine out_ok tk3 fun E => ?_
        obtain ⟨T, id, hT, ht, hg⟩ := sl_okD (E := E) I4 st3 rx (rd.grow g3) (Heap.IsSliceOf.new ..) .none (.int i t) q
        exact PyProof.Rows.tail_any (ops := [.ref s3.heap.objs.size, v]) ht hT hg (by with_unfolding_all rfl)
      have key2 := Out.back (mono_sem _) g3 key
      exact fun E => key2 E
  | _ => trivial
theorem pes_fnT {x : Str} {T : String} {f : List D → M D} {g : Env → M D} {p : Pos} (ho : OpL 1 X (fun us => call (.type T) us) f) (hg : Gl X x) (hm : X.mg x = none) (hv : bootBuiltins x = some (.type T)) (ha : PES X e g) (hn : x ≠ "__name__") (hdb : (x == ("__debug__" : Str)) = false)
    (he : starEach [e] X.env = (false, eval e X.env) :: starEach [] X.env) : PES X (.Call (.Name x p) [e] [] pos) (fun ρ => (g ρ >>= fun d => (pure [] : M (List D)) >>= fun ds => pure (d :: ds)) >>= f) := by
  intro pins s σ H ρ η S I sr st
  have assoc : ((g ρ >>= fun d => (pure [] : M (List D)) >>= fun ds => pure (d :: ds)) >>= f) S = (g ρ >>= fun d => f [d]) S := by
    simp only [bind_run]
    cases g ρ S <;> rfl
  show Out 1 X pins η H _ (((g ρ >>= fun d => (pure [] : M (List D)) >>= fun ds => pure (d :: ds)) >>= f) S) _ s
  rw [assoc]
  refine Out.seq2 (t1 := eval e X.env) (W2 := fun u => sem X (call (.type T) [u])) (fun Q E h => wpAny_Call_Name_kw (ld_blt I hg hm hv (PyProof.Rows.callWith_type1 (by rw [he]; exact Calls.spliced_cons (wpAny_mono h (fun u s1 z => Calls.spliced_nil z) fun _ _ z => z)) he rfl) hn hdb)) (ha pins s σ H ρ η S I sr st) ?_
  rintro u s1 σ1 η1 H1 d S1 q1 tk1 I1 g1 st1 ⟨rfl, x, rx, rd⟩
  exact Out.back (mono_sem _) g1 (ho pins s1 σ1 H1 η1 S1 [x] [u] [d] I1 tk1 st1 (.cons rx .nil) (.cons rd .nil))
theorem pss_set {i : Nat} {x : Str} {pos' : Pos} {g : Env → M D} (hN : X.N.Nodup) (hi : X.N[i]? = some x) (hx : Loc X.env.scope x) (hf : X.fn x = true ∨ X.env.scope.names.lookup x = some .local) (h : PES X e g) (hs : swapsWith e (some (.Name x pos')) pos.line X.env = pure false) :
    PSS X (.Assign [.Name x pos'] e pos) (fun ρ => g ρ >>= fun d => pure (.next (ρ.set i (some d)))) := by
  intro pins s σ H ρ η S I sr st'
  refine Out.seq2 (t1 := eval e X.env) (W2 := fun v Q E s1 => wpAny (model X.prog X.w) X.A (storeName X.env x v) (fun _ => Q .next) E s1) (fun Q E h => wpAny_Assign_Name h hs) (h pins s σ H ρ η S I sr st') ?_
  rintro v s1 σ1 η1 H1 d S1 _ tk1 I1 g1 st1 ⟨rfl, y, ry, rd⟩
  intro E
  refine wpAny_mono (store_out (β := Unit) (b := ()) I1 tk1 (sr.grow g1) st1 hN hi hx hf ry rd E) (fun _ s2 z => ?_) fun _ _ z => z
  obtain ⟨tk2, σ2, η2, H2, I2, g2, st2, r2⟩ := z
  exact ⟨tk2, σ2, η2, H2, I2, g1.trans g2, st2, r2⟩
theorem psss_cons {st : Stmt} {rest : List Stmt} {g1 g2 : Env → M Fl} (h1 : PSS X st g1) (h2 : PSDs 1 X rest g2) : PSSs X (st :: rest) (fun ρ => g1 ρ >>= thenF g2) := by
  intro pins s σ H ρ η S I sr st'
  refine Out.seq2 (t1 := exec st X.env) (W2 := fun f Q E s' => match f with | .next => wpAny (model X.prog X.w) X.A (execs rest X.env) Q E s' | f => Q f s') (fun Q E h => wpAny_execs_cons h) (h1 pins s σ H ρ η S I sr st') ?_
  intro f s1 σ1 η1 H1 fl S1 _ tk1 I1 g1 st1 r1
  cases fl with
  | next ρ1 =>
    cases f with
    | next => exact Out.back (mono_sem _) g1 (h2 pins s1 σ1 H1 ρ1 η1 S1 I1 tk1 r1 st1)
    | _ => exact r1.elim
  | ret d =>
    cases f with
    | ret u => exact fun E => ⟨tk1, σ1, η1, H1, I1, g1, st1, r1⟩
    | _ => exact r1.elim
  | brk d =>
    cases f with
    | brk => exact fun E => ⟨tk1, σ1, η1, H1, I1, g1, st1, r1⟩
    | _ => exact r1.elim
  | cont d =>
    cases f with
    | cont => exact fun E => ⟨tk1, σ1, η1, H1, I1, g1, st1, r1⟩
    | _ => exact r1.elim
theorem pes_call {x y : Str} {f : Addr} {fd : FuncData} {ps : List Str} {g : List D → M D} {i : Nat} {p p1 : Pos} (F : FnS X.prog X.w X.K X.mg X.base n f fd ps g) (c : Ck n X) (hg : Gl X x) (hm : X.mg x = some (.ref f)) (hk : PySem.W.keepIn X.K (.ref f) = true) (hb : Binds X.K fd ps [])
    (hv : PD 0 X (.Name y p1) (fun ρ => getV ρ i)) (hl : ps.length = 1) (hdb : (x == ("__debug__" : Str)) = false) :
    PES X (.Call (.Name x p) [.Name y p1] [] pos) (fun ρ => (getV ρ i >>= fun d => (pure [] : M (List D)) >>= fun ds => pure (d :: ds)) >>= g) := by
  intro pins s σ H ρ η S I sr st
  have assoc : ((getV ρ i >>= fun d => (pure [] : M (List D)) >>= fun ds => pure (d :: ds)) >>= g) S = (getV ρ i >>= fun d => g [d]) S := by
    simp only [bind_run]
    cases getV ρ i S <;> rfl
  show Out 1 X pins η H _ (((getV ρ i >>= fun d => (pure [] : M (List D)) >>= fun ds => pure (d :: ds)) >>= g) S) _ s
  rw [assoc]
  have he : starEach [.Name y p1] X.env = (false, eval (.Name y p1) X.env) :: starEach [] X.env := rfl
  refine Out.seq2 (t1 := eval (.Name y p1) X.env) (W2 := fun u Q E s1 => X.K.In s1.heap ∧ wpAny (model X.prog X.w) X.A (call (.ref f) [u]) Q E s1)
    (fun Q E h => wpAny_Call_Name_kw (ld_glob I hg hm (PySem.W.callWith_K (h₀ := X.base) I.ok.mod.kin hk (by rw [he]; exact Calls.spliced_cons (wpAny_mono h (fun u s1 z => Calls.spliced_nil z) fun _ _ z => z)) he rfl) hdb)) (hv pins s σ H ρ η S I (Nat.zero_le _) sr st) ?_
  rintro u s1 σ1 η1 H1 d S1 q1 tk1 I1 g1 st1 ⟨rfl, x, rx, rd⟩
  refine Out.via (fun Q E h => ⟨I1.kIn, h⟩) (Out.back (mono_sem _) g1 (Out.never fun d' S' q => ?_))
  have hbt := hb s1 [u] I1.kIn (by rw [List.append_nil]; exact hl.symm)
  rw [List.append_nil] at hbt
  refine wpAny_call (codeAny_mono (F X.A X.stack s1 H1 ⟨[u], []⟩ [u] [x] [d] η1 S1 d' S' c.rm c.gd I1.env0 hbt (.cons rx .nil) (.cons rd .nil) hl.symm st1 q) fun r s' z => ?_)
  obtain ⟨u', v', η', H', e, tk', os, bare, un, hok, g2, st2, ru, rp⟩ := z
  subst e
  exact ⟨tk', _, η', H', I1.call' (ch := []) os un hok bare (fun b hb => absurd hb (by simp)), g2, st2, rfl, v', ru, rp⟩
end
theorem fns_of {P : Program} {w : World} {K : PySem.W.Frag} {mg : Str → Option Value} {base : Heap} {k : Nat} {x qual : Str} {sm : Stmt} {f : Addr} {fd : FuncData} {N ps : List Str} {g : Env → M Fl} (hsm : ∃ o, base.get? sysModules = some o) (F : Fun K x qual sm f fd) (Sc : FnScope N ps (defScope sm))
    (hbody : ∀ X : Cx, X.prog = P → X.w = w → X.K = K → X.mg = mg → X.base = base → X.N = N → X.env.scope = defScope sm → (∀ x, X.fn x = true) → Ck k X → PSSs X (defBody sm) g) :
    FnS P w K mg base (k + 1) f fd ps (bodyD N.length g) := by
  obtain ⟨oc, od, kV, doc, pm, an, cdv, ct, osl, rfl, lk, hcd⟩ := F.ex
  intro A outer s H args us vs ds η S d S' hr hgd e0 hb rv rd hl st q
  have KX : K.In s.heap := e0.mod.kin.keeps fun b o e => (e0.bs b o e).1
  have lim : s.heap.NoLimit := e0.mod.nolimit.keeps fun b o e => (e0.bs b o e).1
  have hkind : ∀ y ∈ ps.zip us, (defScope sm).names.lookup y.1 = some .local ∨ ((defScope sm).names.lookup y.1 = some .cell ∧ ((cellsFrom (s.heap.objs.size + 1) (defScope sm).names []).lookup y.1).isSome = true) := fun ⟨m, v⟩ hy => by
    rcases Sc.par m (List.of_mem_zip hy).1 with z | z
    · exact .inl z
    · exact .inr ⟨z, PySem.W.cellsFrom_some _ _ _ (.inl z)⟩
  refine codeAny_call_function hr.depth (KX _ _ lk) rfl Sc.co Sc.gen rfl (PySem.W.codeRec_of KX hcd) (hb _ _ _ _ ?_)
  refine wpAny_mono (wpAny_newFunctionEnv_cells (Q := fun env s1 => env = newEnv (defScope sm) s.heap.objs.size mainGlobals (cellsFrom (s.heap.objs.size + 1) (defScope sm).names []) (qual ++ ".<locals>.") (some f) cdv none builtinsNs ∧
    InCallC s env.locals (bindL env.kindOf (ps.zip us) fun _ => none) env.cells (bindC env.kindOf (ps.zip us) fun _ => none) s1) Sc.kind hkind fun env he s1 y => ⟨he, y⟩) (fun env s1 z => ?_) fun _ _ z => z
  obtain ⟨he, y⟩ := z
  subst he
  refine ⟨lim.keeps y.toInCall.keep, codeAny_func ?_⟩
  have I := inv_start (CX := CX0) (E := E0) (cd := cdv) (f := f) (qual := qual) Sc hr.hd e0 (by rw [← rd.length]; exact hl) rv y
  have sr := srel_start (N := N) rd
  have hq : ∃ fl, g (startD N.length ds) S = .ok fl S' ∧ (fl = .ret d ∨ (∃ ρ, fl = .next ρ) ∧ d = .non) := by
    unfold bodyD at q
    rw [bind_run] at q
    cases z : g (startD N.length ds) S with
    | bad => rw [z] at q; cases q
    | ok fl S2 =>
      rw [z] at q
      cases fl with
      | ret d' => cases q; exact ⟨_, rfl, .inl rfl⟩
      | next ρ => cases q; exact ⟨_, rfl, .inr ⟨⟨ρ, rfl⟩, rfl⟩⟩
      | brk => cases q
      | cont => cases q
  obtain ⟨fl, hg, hfl⟩ := hq
  have key := hbody (cxOf CX0 P w K mg base N qual (defScope sm) f cdv A outer s H E0) rfl rfl rfl rfl rfl rfl rfl (fun _ => rfl) ⟨rfl, hgd, hr.deeper _, hsm, Sc.nd⟩ [] s1 (L2.start N vs) H (startD N.length ds) η S I sr st
  rw [hg] at key
  refine wpAny_mono (key (fun _ _ => False)) (fun fw s' z => ?_) fun _ _ z => z.elim
  obtain ⟨tk2, σ2, η2, H2, I2, g2, st2, r2⟩ := z
  rcases hfl with rfl | ⟨⟨ρ, rfl⟩, rfl⟩
  · cases fw with
    | ret u =>
      obtain ⟨v, ru, rp⟩ := r2
      exact ⟨u, v, η2, H2, rfl, tk2, I2.os, I2.bare, I2.base, I2.hok, g2, st2, ru, rp⟩
    | next => exact r2.elim
    | brk => exact r2.elim
    | cont => exact r2.elim
  · cases fw with
    | next => exact ⟨.none, .non, η2, H2, rfl, tk2, I2.os, I2.bare, I2.base, I2.hok, g2, st2, rfl, .non⟩
    | ret u => exact r2.elim
    | brk => exact r2.elim
    | cont => exact r2.elim
theorem FnS.plain {P : Program} {w : World} {K : PySem.W.Frag} {mg : Str → Option Value} {base : Heap} {n : Nat} {f : Addr} {fd : FuncData} {ps : List Str} {g : List D → M D} (F : FnS P w K mg base n f fd ps g) : FnD 0 P w K mg base n f fd ps g :=
  fun A outer s H args us vs ds η S d S' h1 h2 _ h4 h5 h6 h7 h8 h9 q => codeAny_mono (F A outer s H args us vs ds η S d S' h1 h2 h4 h5 h6 h7 h8 h9 q) fun r s' z => by
    obtain ⟨u, v, η', H', e, _, r⟩ := z
    exact ⟨u, v, η', H', e, Nat.zero_le _, r⟩
end MP

/-! MP25: a law whose first statement deals the deck. -/
namespace MP
open PySem L2 PyProof.Rows
section
variable {X : Cx} {n : Nat} {T : Tab} {φ : Nat → List D → M D} {N : List Str} {sc : Scope}
theorem deck_first (c : Ctx 1 X n T φ N sc (fun _ => true)) {i j : Nat} {m m' : Bool} {k : Int} {s : Stmt} (h : chkS T N sc (.set i (.fn .list m (.cons (.sl m' (.var j) .non (.som (.int k))) .nil))) s = true) :
    PSS X s (evS φ (.set i (.fn .list m (.cons (.sl m' (.var j) .non (.som (.int k))) .nil)))) := by
  cases s <;> try exact (Bool.false_ne_true h).elim
  rename_i ts v p
  cases ts with
  | nil => exact (Bool.false_ne_true h).elim
  | cons t ts =>
    cases t <;> try exact (Bool.false_ne_true h).elim
    rename_i y py
    cases ts with
    | cons _ _ => exact (Bool.false_ne_true h).elim
    | nil =>
      obtain ⟨h', h3⟩ := and2 (show (okNm N sc (fun _ => true) i y && chkE T N sc (fun _ => true) (.fn .list m (.cons (.sl m' (.var j) .non (.som (.int k))) .nil)) v && setB sc y py v) = true from h)
      obtain ⟨h1, h2⟩ := and2 h'
      clear h h'
      obtain ⟨n1, n2, n3⟩ := c.store h1
      cases v <;> try exact (Bool.false_ne_true h2).elim
      rename_i g as ks p1
      cases g <;> try exact (Bool.false_ne_true h2).elim
      rename_i x px
      cases as with
      | nil => exact (Bool.false_ne_true h2).elim
      | cons a as =>
        cases ks with
        | cons _ _ => exact (Bool.false_ne_true h2).elim
        | nil =>
          obtain ⟨g1, g3⟩ := and2 (show (x == Str.ofString (Fn.list).name && bltB sc x && chkL T N sc (fun _ => true) (.cons (.sl m' (.var j) .non (.som (.int k))) .nil) (a :: as)) = true from h2)
          obtain ⟨g1, g2⟩ := and2 g1
          obtain rfl := eq_of_beq g1
          obtain ⟨q1, q2⟩ := and2 (show (noStar a && chkE T N sc (fun _ => true) (.sl m' (.var j) .non (.som (.int k))) a && chkL T N sc (fun _ => true) .nil as) = true from g3)
          obtain ⟨q0, q1⟩ := and2 q1
          cases as with
          | cons _ _ => exact (Bool.false_ne_true q2).elim
          | nil =>
            have hs : swapsWith (.Call (.Name (Str.ofString Fn.list.name) px) [a] [] p1) (some (.Name y py)) p.line X.env = pure false := rfl
            have hsl : PES X a (evE φ (.sl m' (.var j) .non (.som (.int k)))) := by
              clear g3 g1 q2 h2 h3 hs
              cases a with
              | Subscript e1 sl p2 => ?_
              | _ => exact (Bool.false_ne_true q1).elim
              cases sl with
              | Slice lo hi stp p3 => ?_
              | _ => exact (Bool.false_ne_true q1).elim
              cases stp with
              | some _ => exact (Bool.false_ne_true q1).elim
              | none =>
                obtain ⟨r0, r3⟩ := and2 (show (chkE T N sc (fun _ => true) (.var j) e1 && chkO T N sc (fun _ => true) .non lo && chkO T N sc (fun _ => true) (.som (.int k)) hi) = true from q1)
                obtain ⟨r1, r2⟩ := and2 r0
                clear r0
                cases lo with
                | some _ => exact (Bool.false_ne_true r2).elim
                | none =>
                  cases hi with
                  | none => exact (Bool.false_ne_true r3).elim
                  | some ce =>
                    have r3 : chkE T N sc (fun _ => true) (.int k) ce = true := r3
                    cases ce with
                    | Constant cv ck cp => ?_
                    | _ => exact (Bool.false_ne_true r3).elim
                    cases cv with
                    | int k' => ?_
                    | _ => exact (Bool.false_ne_true r3).elim
                    obtain rfl := eq_of_beq (show (k == k') = true from r3)
                    cases e1 with
                    | Name nm np => ?_
                    | _ => exact (Bool.false_ne_true r1).elim
                    obtain ⟨s1, s3⟩ := and2 (show (N[j]? == some nm && visB sc nm && okName nm) = true from r1)
                    obtain ⟨s1, s2⟩ := and2 s1
                    exact pes_slice (pd_var (c.nm s1) (c.vis s2) (okName_1 s3).1 (okName_1 s3).2) pes_int
            exact pss_set c.ck.nd n1 n2 n3 (pes_fnT (T := "list") (Fn.okT .list m rfl) (c.blt g2).1 (c.blt g2).2 (Fn.boot .list) hsl (Fn.nn .list).1 (Fn.nn .list).2 (starEach_cons q0)) hs
theorem law_first (c : Ctx 1 X n T φ N sc (fun _ => true)) {i j kd : Nat} {s : Stmt} {pd : FI} (hk : T.fns[kd]? = some pd) (h : chkS T N sc (.set i (.call kd (.cons (.var j) .nil))) s = true)
    (hF : ∃ f fd ps, ps.length = 1 ∧ X.mg pd.name = some (.ref f) ∧ PySem.W.keepIn X.K (.ref f) = true ∧ Binds X.K fd ps [] ∧ FnS X.prog X.w X.K X.mg X.base n f fd ps (φ kd)) :
    PSS X s (evS φ (.set i (.call kd (.cons (.var j) .nil)))) := by
  cases s <;> try exact (Bool.false_ne_true h).elim
  rename_i ts v p
  cases ts with
  | nil => exact (Bool.false_ne_true h).elim
  | cons t ts =>
    cases t <;> try exact (Bool.false_ne_true h).elim
    rename_i y py
    cases ts with
    | cons _ _ => exact (Bool.false_ne_true h).elim
    | nil =>
      obtain ⟨h', h3⟩ := and2 (show (okNm N sc (fun _ => true) i y && chkE T N sc (fun _ => true) (.call kd (.cons (.var j) .nil)) v && setB sc y py v) = true from h)
      obtain ⟨h1, h2⟩ := and2 h'
      clear h h'
      obtain ⟨n1, n2, n3⟩ := c.store h1
      cases v <;> try exact (Bool.false_ne_true h2).elim
      rename_i g as ks p1
      cases g <;> try exact (Bool.false_ne_true h2).elim
      rename_i x px
      cases as with
      | nil => exact (Bool.false_ne_true h2).elim
      | cons a as =>
        cases ks with
        | cons _ _ => exact (Bool.false_ne_true h2).elim
        | nil =>
          obtain ⟨g1, g4⟩ := and2 (show ((match T.fns[kd]? with | some p => p.name == x && p.np == (a :: as).length | none => false) && glB sc x && okName x && chkL T N sc (fun _ => true) (.cons (.var j) .nil) (a :: as)) = true from h2)
          obtain ⟨g1, g3⟩ := and2 g1
          obtain ⟨g1, g2⟩ := and2 g1
          rw [hk] at g1
          obtain ⟨g1, g5⟩ := and2 (show (pd.name == x && pd.np == (a :: as).length) = true from g1)
          obtain rfl := eq_of_beq g1
          obtain ⟨q1, q2⟩ := and2 (show (noStar a && chkE T N sc (fun _ => true) (.var j) a && chkL T N sc (fun _ => true) .nil as) = true from g4)
          obtain ⟨q0, q1⟩ := and2 q1
          cases as with
          | cons _ _ => exact (Bool.false_ne_true q2).elim
          | nil =>
            clear g4 h2 q2 g5 h3 q0
            cases a with
            | Name nm np => ?_
            | _ => exact (Bool.false_ne_true q1).elim
            obtain ⟨s1, s3⟩ := and2 (show (N[j]? == some nm && visB sc nm && okName nm) = true from q1)
            obtain ⟨s1, s2⟩ := and2 s1
            obtain ⟨f, fd, ps, t1, t2, t3, t4, t5⟩ := hF
            exact pss_set c.ck.nd n1 n2 n3 (pes_call t5 c.ck (c.gl g2) t2 t3 t4 (pd_var (c.nm s1) (c.vis s2) (okName_1 s3).1 (okName_1 s3).2) t1 (okName_1 g3).1) rfl
end
section
variable {Pg : Program} {w : World} {K : PySem.W.Frag} {mg : Str → Option Value} {base : Heap} {t : Top}
theorem runF_weak {n k : Nat} {p : FDef} (q : t.P[k]? = some p) (ds : List D) (S : Sto) (d : D) (S' : Sto) (z : runF t.P (n + 1) k ds S = .ok d S') : bodyD p.N.length (evSs (runF t.P n) p.body) ds S = .ok d S' := by
  unfold runF at z
  rw [q] at z
  dsimp only at z
  split at z
  · exact z
  · cases z
theorem fnS_weak {n : Nat} {f : Addr} {fd : FuncData} {ps : List Str} {g g' : List D → M D} (F : FnS Pg w K mg base n f fd ps g) (h : ∀ ds S d S', g' ds S = .ok d S' → g ds S = .ok d S') : FnS Pg w K mg base n f fd ps g' :=
  fun A outer s H args us vs ds η S d S' h1 h2 h4 h5 h6 h7 h8 h9 q => F A outer s H args us vs ds η S d S' h1 h2 h4 h5 h6 h7 h8 h9 (h _ _ _ _ q)
theorem law_strict (hsm : ∃ o, base.get? sysModules = some o) (L : Left K w mg t)
    {kd kl : Nat} {pd pl : FDef} (qd : t.P[kd]? = some pd) (ql : t.P[kl]? = some pl) (d1 : pd.np = 1) {i j i' j' : Nat} {m m' : Bool} {k : Int} {rd rl : Sxs}
    (hd : pd.body = .cons (.set i (.fn .list m (.cons (.sl m' (.var j) .non (.som (.int k))) .nil))) rd) (hl : pl.body = .cons (.set i' (.call kd (.cons (.var j') .nil))) rl) (n : Nat)
    {f : Addr} {fd : FuncData} {ps : List Str} {sm : Stmt} (F : Fun K pl.name pl.name sm f fd) (Sc : FnScope pl.N ps (defScope sm)) (hc : chkSs (tabOf t) pl.N (defScope sm) pl.body (defBody sm) = true) :
    FnS Pg w K mg base (n + 2) f fd ps (runF t.P (n + 2) kl) := by
  have G1 := fun n => fns_ok (Pg := Pg) (w := w) (τ := 1) hsm L (fun _ => Nat.le_refl _) n
  have deck : ∃ f fd ps, ps.length = 1 ∧ mg pd.name = some (.ref f) ∧ PySem.W.keepIn K (.ref f) = true ∧ Binds K fd ps [] ∧ FnS Pg w K mg base (n + 1) f fd ps (runF t.P (n + 1) kd) := by
    obtain ⟨f, fd, ps, sm, F, Sc, hm, hb, hc, hlen⟩ := (L.fns pd (List.mem_of_getElem? qd)).ex
    refine ⟨f, fd, ps, hlen.trans d1, hm, F.kp, hb, fnS_weak (fns_of (g := evSs (runF t.P n) pd.body) hsm F Sc fun X e1 e2 e3 e4 e5 e6 e7 e8 c => ?_) (runF_weak qd)⟩
    rw [hd] at hc ⊢
    have cx : Ctx 1 X n (tabOf t) (runF t.P n) pd.N (defScope sm) (fun _ => true) := ⟨e6, e7, c, tab_ctx e1 e2 e3 e4 e5 (G1 n) L (fun _ => Nat.le_refl _), fun x _ => e8 x⟩
    cases q : defBody sm with
    | nil => rw [q] at hc; exact (Bool.false_ne_true hc).elim
    | cons x xs =>
      rw [q] at hc
      obtain ⟨h1, h2⟩ := and2 (show (chkS (tabOf t) pd.N (defScope sm) (.set i (.fn .list m (.cons (.sl m' (.var j) .non (.som (.int k))) .nil))) x && chkSs (tabOf t) pd.N (defScope sm) rd xs) = true from hc)
      exact psss_cons (deck_first cx h1) (sndSs cx rd xs h2)
  refine fnS_weak (fns_of (g := evSs (runF t.P (n + 1)) pl.body) hsm F Sc fun X e1 e2 e3 e4 e5 e6 e7 e8 c => ?_) (runF_weak ql)
  rw [hl] at hc ⊢
  have cx : Ctx 1 X (n + 1) (tabOf t) (runF t.P (n + 1)) pl.N (defScope sm) (fun _ => true) := ⟨e6, e7, c, tab_ctx e1 e2 e3 e4 e5 (G1 (n + 1)) L (fun _ => Nat.le_refl _), fun x _ => e8 x⟩
  cases q : defBody sm with
  | nil => rw [q] at hc; exact (Bool.false_ne_true hc).elim
  | cons x xs =>
    rw [q] at hc
    obtain ⟨h1, h2⟩ := and2 (show (chkS (tabOf t) pl.N (defScope sm) (.set i' (.call kd (.cons (.var j') .nil))) x && chkSs (tabOf t) pl.N (defScope sm) rl xs) = true from hc)
    have hk : (tabOf t).fns[kd]? = some ⟨pd.name, pd.np⟩ := by
      show (t.P.map fun p => (⟨p.name, p.np⟩ : FI))[kd]? = _
      rw [List.getElem?_map, qd]
      rfl
    refine psss_cons (law_first cx hk h1 ?_) (sndSs cx rl xs h2)
    subst e1 e2 e3 e4 e5
    exact deck
/-- the goal of the head, for a law that deals first: what is left is the run in plain Lean -/
theorem law_end {l : PySem.W.OpenLaw} {n N0 : Nat} {q : Program} {loose : List Str} {XP : (Str → Option Value) → Heap → Prop} {d : DefRec} {x : Str} {na : Nat}
    (hB : ∀ p ∈ t.P, BindOk (p.N.take p.np)) {kd kl : Nat} {pd pl : FDef} (qd : t.P[kd]? = some pd) (ql : t.P[kl]? = some pl) (d1 : pd.np = 1) {i j i' j' : Nat} {m m' : Bool} {k : Int} {rd rl : Sxs}
    (hd : pd.body = .cons (.set i (.fn .list m (.cons (.sl m' (.var j) .non (.som (.int k))) .nil))) rd) (hl : pl.body = .cons (.set i' (.call kd (.cons (.var j') .nil))) rl) (hN : pl.N.take pl.np = [x]) (hnm : d.name = pl.name)
    (hn : l.most = some n) (hn2 : n ≤ sizeLine) (hdf : d.params.defaults = []) (hr : Room (N0 + 2) callerA)
    (hrun : ∀ (ns : List Int), ns.length ≤ n → ∃ S', runF t.P (N0 + 2) kl [.frz (ns.map D.int)] [] = .ok (.bl true) S') :
    PySem.W.WalkO q loose XP (hookM na t).says l.row.toRowW d [] (fun f vs => PySem.call f vs) := by
  refine walk_ofD (n := n) (k := N0 + 2) (x := x) hn hn2 hdf hr fun w mg fa h Y G hmg => ?_
  obtain ⟨K, KX, tc, sy, dd⟩ := Y
  have L := topC_ok hB KX G tc dd
  obtain ⟨f, fd, ps, sm, F, Sc, hm, hb, hc, hlen⟩ := (L.fns pl (List.mem_of_getElem? ql)).ex
  rw [hnm, hm] at hmg
  cases hmg
  have hps : ps = [x] := by rw [← hN, ← hlen]; exact Sc.pre.symm
  refine ⟨K, fd, runF t.P (N0 + 2) kl, KX, sy, fun s u => ?_, hrun, fun base KB GB hs => ?_⟩
  · have := hb s [u]
    rw [hps] at this
    intro hk
    have z := this hk rfl
    rw [List.append_nil] at z
    exact z
  · rw [← hps]
    exact (law_strict hs L qd ql d1 hd hl N0 F Sc hc).plain
end
end MP

/-! MP26: plain lemmas about the interpreter. -/
namespace MP
open PySem
theorem lcF_pure {ga : D → Env → M Env} {gt : Env → M Bool} {ge : Env → M D} {ρw : Env} {S : Sto} {xs : List D} {t : D → Bool} {e : D → D}
    (h : ∀ x ∈ xs, ∃ ρ1, ga x ρw S = .ok ρ1 S ∧ gt ρ1 S = .ok (t x) S ∧ (t x = true → ge ρ1 S = .ok (e x) S)) : ∀ (k i : Nat) (acc : List D), i ≤ xs.length → xs.length < i + k → acc.length + (xs.length - i) ≤ SL →
    lcF (.fix xs) ga gt ge ρw k i acc S = .ok (acc ++ ((xs.drop i).filter t).map e) S
  | 0, i, acc, h0, h1, _ => by omega
  | k + 1, i, acc, h0, h1, h2 => by
    unfold lcF
    show (match (some xs[i]? : Option (Option D)) with | none => _ | some none => _ | some (some d) => _) = _
    by_cases hi : i < xs.length
    · rw [List.getElem?_eq_getElem hi, List.drop_eq_getElem_cons hi]
      obtain ⟨ρ1, e1, e2, e3⟩ := h xs[i] (List.getElem_mem hi)
      dsimp only
      rw [bind_run, e1]
      dsimp only
      rw [bind_run, e2]
      dsimp only
      cases q : t xs[i] with
      | true =>
        rw [if_pos rfl, bind_run, e3 q]
        dsimp only
        rw [if_pos (by omega), lcF_pure h k (i + 1) (acc ++ [e xs[i]]) hi (by omega) (by rw [List.length_append, List.length_singleton]; omega), List.filter_cons_of_pos q]
        simp
      | false =>
        rw [if_neg Bool.false_ne_true, lcF_pure h k (i + 1) acc hi (by omega) (by omega), List.filter_cons_of_neg (by rw [q]; exact Bool.false_ne_true)]
    · rw [List.getElem?_eq_none (by omega), List.drop_eq_nil_of_le (by omega)]
      simp
theorem lcS_pure {ga : D → Env → M Env} {gt : Env → M Bool} {ge : Env → M D} {ρw : Env} {S : Sto} {xs : List D} {t : D → Bool} {e : D → D}
    (h : ∀ x ∈ xs, ∃ ρ1, ga x ρw S = .ok ρ1 S ∧ gt ρ1 S = .ok (t x) S ∧ (t x = true → ge ρ1 S = .ok (e x) S)) (hl : xs.length ≤ SL) :
    lcS false ga gt ge ρw (.fix xs) S = .ok (.lst ((xs.filter t).map e)) S := by
  unfold lcS
  rw [bind_run, lcF_pure h _ 0 [] (Nat.zero_le _) (by simp [Src.len]) (by simpa using hl)]
  simp [newL]
end MP

/-! MP27: the equations of the interpreter. -/
namespace MP
open PySem
section
variable (φ : Nat → List D → M D)
@[simp] theorem evE_non {ρ : Env} : evE φ (Ex.non) ρ = (pure .non : M D) := (rfl)
@[simp] theorem evE_bl {ρ : Env} {b} : evE φ (Ex.bl b) ρ = (pure (.bl b) : M D) := (rfl)
@[simp] theorem evE_int {ρ : Env} {i} : evE φ (Ex.int i) ρ = (pure (.int i) : M D) := (rfl)
@[simp] theorem evE_str {ρ : Env} {x} : evE φ (Ex.str x) ρ = (pure (.str x) : M D) := (rfl)
@[simp] theorem evE_neg {ρ : Env} {i} : evE φ (Ex.neg i) ρ = (pure (.int (-i)) : M D) := (rfl)
@[simp] theorem evE_var {ρ : Env} {i} : evE φ (Ex.var i) ρ = (getV ρ i : M D) := (rfl)
@[simp] theorem evE_glb {ρ : Env} {x0 d} : evE φ (Ex.glb x0 d) ρ = (pure d : M D) := (rfl)
@[simp] theorem evE_bin {ρ : Env} {o m a b} : evE φ (Ex.bin o m a b) ρ = (evE φ a ρ >>= fun d => evE φ b ρ >>= fun e => o.ev m d e : M D) := (rfl)
@[simp] theorem evE_cmp {ρ : Env} {o a b} : evE φ (Ex.cmp o a b) ρ = (evE φ a ρ >>= fun d => evE φ b ρ >>= fun e => o.ev d e : M D) := (rfl)
@[simp] theorem evE_chn {ρ : Env} {o p a b c} : evE φ (Ex.chn o p a b c) ρ = (evE φ a ρ >>= fun d => evE φ b ρ >>= fun e => o.ev d e >>= fun z => asB z >>= fun t => if t = true then evE φ c ρ >>= fun e' => p.ev e e' else pure (.bl false) : M D) := (rfl)
@[simp] theorem evE_not {ρ : Env} {a} : evE φ (Ex.not a) ρ = (evE φ a ρ >>= fun d => asB d >>= fun b => pure (.bl (!b)) : M D) := (rfl)
@[simp] theorem evE_and {ρ : Env} {a r} : evE φ (Ex.and a r) ρ = (evE φ a ρ >>= fun d => asB d >>= fun t => if t = true then evE φ r ρ else pure (.bl false) : M D) := (rfl)
@[simp] theorem evE_or {ρ : Env} {a r} : evE φ (Ex.or a r) ρ = (evE φ a ρ >>= fun d => asB d >>= fun t => if t = true then pure (.bl true) else evE φ r ρ : M D) := (rfl)
@[simp] theorem evE_one {ρ : Env} {a} : evE φ (Ex.one a) ρ = (evE φ a ρ : M D) := (rfl)
@[simp] theorem evE_ife {ρ : Env} {t a b} : evE φ (Ex.ife t a b) ρ = (evT φ t ρ >>= fun c => if c = true then evE φ a ρ else evE φ b ρ : M D) := (rfl)
@[simp] theorem evE_ix {ρ : Env} {a b} : evE φ (Ex.ix a b) ρ = (evE φ a ρ >>= fun d => evE φ b ρ >>= fun e => ixD d e : M D) := (rfl)
@[simp] theorem evE_sl {ρ : Env} {m a lo hi} : evE φ (Ex.sl m a lo hi) ρ = (evE φ a ρ >>= fun d => evO φ lo ρ >>= fun l => evO φ hi ρ >>= fun h => sliceE m d l h : M D) := (rfl)
@[simp] theorem evE_rev {ρ : Env} {m a} : evE φ (Ex.rev m a) ρ = (evE φ a ρ >>= revE m : M D) := (rfl)
@[simp] theorem evE_tup {ρ : Env} {es} : evE φ (Ex.tup es) ρ = (evL φ es ρ >>= fun ds => pure (.tup ds) : M D) := (rfl)
@[simp] theorem evE_lst {ρ : Env} {m es} : evE φ (Ex.lst m es) ρ = (evL φ es ρ >>= fun ds => newL m ds : M D) := (rfl)
@[simp] theorem evE_dic0 {ρ : Env} {m} : evE φ (Ex.dic0 m) ρ = (newD m [] : M D) := (rfl)
@[simp] theorem evE_dic1 {ρ : Env} {k i} : evE φ (Ex.dic1 k i) ρ = (getV ρ i >>= fun d => pure (.dic [(.inl k, d)]) : M D) := (rfl)
@[simp] theorem evE_dicC {ρ : Env} {m ps} : evE φ (Ex.dicC m ps) ρ = (newD m (mergeD [] (ps.map fun p => (p.1, keyC p.2))) : M D) := (rfl)
@[simp] theorem evE_gin {ρ : Env} {neg x1 kds a} : evE φ (Ex.gin neg x1 kds a) ρ = (evE φ a ρ >>= ginD neg kds : M D) := (rfl)
@[simp] theorem evE_gix {ρ : Env} {x0 kds a} : evE φ (Ex.gix x0 kds a) ρ = (evE φ a ρ >>= gixD kds : M D) := (rfl)
@[simp] theorem evE_fn {ρ : Env} {f m es} : evE φ (Ex.fn f m es) ρ = (evL φ es ρ >>= f.ev m : M D) := (rfl)
@[simp] theorem evE_isi {ρ : Env} {t a} : evE φ (Ex.isi t a) ρ = (evE φ a ρ >>= isinstD t : M D) := (rfl)
@[simp] theorem evE_me {ρ : Env} {f m o es} : evE φ (Ex.me f m o es) ρ = (evE φ o ρ >>= fun d => f.rc d >>= fun _ => evL φ es ρ >>= fun ds => f.ev m d ds : M D) := (rfl)
@[simp] theorem evE_repl {ρ : Env} {y z o} : evE φ (Ex.repl y z o) ρ = (evE φ o ρ >>= replD y z : M D) := (rfl)
@[simp] theorem evE_call {ρ : Env} {k es} : evE φ (Ex.call k es) ρ = (evL φ es ρ >>= φ k : M D) := (rfl)
@[simp] theorem evE_lc {ρ : Env} {m tg it ifs elt own} : evE φ (Ex.lc m tg it ifs elt own) ρ = (evI φ it ρ >>= lcS m tg.ev (evA φ ifs) (evE φ elt) (wipeE ρ own) : M D) := (rfl)
@[simp] theorem evO_non {ρ : Env} : evO φ (Ox.non) ρ = (pure none : M (Option Int)) := (rfl)
@[simp] theorem evO_som {ρ : Env} {e} : evO φ (Ox.som e) ρ = (evE φ e ρ >>= asI : M (Option Int)) := (rfl)
@[simp] theorem evL_nil {ρ : Env} : evL φ (Exs.nil) ρ = (pure [] : M (List D)) := (rfl)
@[simp] theorem evL_cons {ρ : Env} {e r} : evL φ (Exs.cons e r) ρ = (evE φ e ρ >>= fun d => evL φ r ρ >>= fun ds => pure (d :: ds) : M (List D)) := (rfl)
@[simp] theorem evT_cmp {ρ : Env} {o a b} : evT φ (Tx.cmp o a b) ρ = (evE φ a ρ >>= fun d => evE φ b ρ >>= fun e => o.ev d e >>= asB : M Bool) := (rfl)
@[simp] theorem evT_chn {ρ : Env} {o p a b c} : evT φ (Tx.chn o p a b c) ρ = (evE φ a ρ >>= fun d => evE φ b ρ >>= fun e => o.ev d e >>= fun z => asB z >>= fun t => if t = true then evE φ c ρ >>= fun e' => p.ev e e' >>= asB else pure false : M Bool) := (rfl)
@[simp] theorem evT_not {ρ : Env} {t} : evT φ (Tx.not t) ρ = (evT φ t ρ >>= fun b => pure (!b) : M Bool) := (rfl)
@[simp] theorem evT_and {ρ : Env} {ts} : evT φ (Tx.and ts) ρ = (evA φ ts ρ : M Bool) := (rfl)
@[simp] theorem evT_or {ρ : Env} {ts} : evT φ (Tx.or ts) ρ = (evOr φ ts ρ : M Bool) := (rfl)
@[simp] theorem evT_gin {ρ : Env} {neg x1 kds a} : evT φ (Tx.gin neg x1 kds a) ρ = (evE φ a ρ >>= fun d => ginD neg kds d >>= asB : M Bool) := (rfl)
@[simp] theorem evT_val {ρ : Env} {e} : evT φ (Tx.val e) ρ = (evE φ e ρ >>= truD : M Bool) := (rfl)
@[simp] theorem evA_nil {ρ : Env} : evA φ (Txs.nil) ρ = (pure true : M Bool) := (rfl)
@[simp] theorem evA_cons {ρ : Env} {t r} : evA φ (Txs.cons t r) ρ = (evT φ t ρ >>= fun c => if c = true then evA φ r ρ else pure false : M Bool) := (rfl)
@[simp] theorem evOr_nil {ρ : Env} : evOr φ (Txs.nil) ρ = (pure false : M Bool) := (rfl)
@[simp] theorem evOr_cons {ρ : Env} {t r} : evOr φ (Txs.cons t r) ρ = (evT φ t ρ >>= fun c => if c = true then pure true else evOr φ r ρ : M Bool) := (rfl)
@[simp] theorem evI_seq {ρ : Env} {e} : evI φ (Ix.seq e) ρ = (evE φ e ρ >>= seqSrc : M Src) := (rfl)
@[simp] theorem evI_rng {ρ : Env} {es} : evI φ (Ix.rng es) ρ = (evL φ es ρ >>= rngSrc : M Src) := (rfl)
@[simp] theorem evI_enu {ρ : Env} {es} : evI φ (Ix.enu es) ρ = (evL φ es ρ >>= enuL : M Src) := (rfl)
@[simp] theorem evS_pass {ρ : Env} : evS φ (Sx.pass) ρ = (pure (.next ρ) : M Fl) := (rfl)
@[simp] theorem evS_brk {ρ : Env} : evS φ (Sx.brk) ρ = (pure (.brk ρ) : M Fl) := (rfl)
@[simp] theorem evS_cont {ρ : Env} : evS φ (Sx.cont) ρ = (pure (.cont ρ) : M Fl) := (rfl)
@[simp] theorem evS_dead {ρ : Env} : evS φ (Sx.dead) ρ = (M.fail : M Fl) := (rfl)
@[simp] theorem evS_ret {ρ : Env} {e} : evS φ (Sx.ret e) ρ = (evE φ e ρ >>= fun d => pure (.ret d) : M Fl) := (rfl)
@[simp] theorem evS_set {ρ : Env} {i e} : evS φ (Sx.set i e) ρ = (evE φ e ρ >>= fun d => pure (.next (ρ.set i (some d))) : M Fl) := (rfl)
@[simp] theorem evS_par {ρ : Env} {is e} : evS φ (Sx.par is e) ρ = (evE φ e ρ >>= fun d => unpackD is.length none d >>= fun ds => pure (.next (setsL is.reverse ds.reverse ρ)) : M Fl) := (rfl)
@[simp] theorem evS_asg {ρ : Env} {tg e} : evS φ (Sx.asg tg e) ρ = (evE φ e ρ >>= fun d => tg.ev d ρ >>= fun ρ' => pure (.next ρ') : M Fl) := (rfl)
@[simp] theorem evS_put {ρ : Env} {o i e} : evS φ (Sx.put o i e) ρ = (evE φ e ρ >>= fun d => evE φ o ρ >>= fun od => evE φ i ρ >>= fun id => setD od id d >>= fun _ => pure (.next ρ) : M Fl) := (rfl)
@[simp] theorem evS_exp {ρ : Env} {e} : evS φ (Sx.exp e) ρ = (evE φ e ρ >>= fun _ => pure (.next ρ) : M Fl) := (rfl)
@[simp] theorem evS_ite {ρ : Env} {t a b} : evS φ (Sx.ite t a b) ρ = (evT φ t ρ >>= fun c => if c = true then evSs φ a ρ else evSs φ b ρ : M Fl) := (rfl)
@[simp] theorem evS_forr {ρ : Env} {tg it b} : evS φ (Sx.forr tg it b) ρ = (evI φ it ρ >>= forF tg.ev (evSs φ b) ρ : M Fl) := (rfl)
@[simp] theorem evSs_nil {ρ : Env} : evSs φ (Sxs.nil) ρ = (pure (.next ρ) : M Fl) := (rfl)
@[simp] theorem evSs_cons {ρ : Env} {s r} : evSs φ (Sxs.cons s r) ρ = (evS φ s ρ >>= thenF (evSs φ r) : M Fl) := (rfl)
end
end MP

/-! MP28: the operations at work. -/
namespace MP
open PySem L2
@[simp] theorem asB_bl (b : Bool) (S : Sto) : asB (.bl b) S = .ok b S := (rfl)
@[simp] theorem truD_bl (b : Bool) (S : Sto) : truD (.bl b) S = .ok b S := (rfl)
theorem isinstD_run (t : Ty) (d : D) (S : Sto) (h : ∀ n, d ≠ .ref n) : isinstD t d S = .ok (.bl (isiD t d)) S := by
  cases d <;> first | rfl | exact absurd rfl (h _)
@[simp] theorem isinstD_str (t : Ty) (x : Str) (S : Sto) : isinstD t (.str x) S = .ok (.bl (isiD t (.str x))) S := (rfl)
@[simp] theorem isinstD_tup (t : Ty) (x : List D) (S : Sto) : isinstD t (.tup x) S = .ok (.bl (isiD t (.tup x))) S := (rfl)
@[simp] theorem isinstD_int (t : Ty) (x : Int) (S : Sto) : isinstD t (.int x) S = .ok (.bl (isiD t (.int x))) S := (rfl)
@[simp] theorem isinstD_bl (t : Ty) (x : Bool) (S : Sto) : isinstD t (.bl x) S = .ok (.bl (isiD t (.bl x))) S := (rfl)
@[simp] theorem getV_run (ρ : Env) (i : Nat) (S : Sto) : getV ρ i S = match ρ[i]? with | some (some d) => .ok d S | _ => .bad := by
  unfold getV
  cases ρ[i]? with
  | none => rfl
  | some o => cases o <;> rfl
@[simp] theorem ite_run {α : Type} (c : Prop) [Decidable c] (a b : M α) (S : Sto) : (if c then a else b) S = if c then a S else b S := by split <;> rfl
theorem lenD_str {x : Str} (h : x.length ≤ SL) (S : Sto) : lenD [.str x] S = .ok (.int x.length) S := by
  show (match (if x.length ≤ SL then some x.length else none) with | some n => R.ok (D.int n) S | none => .bad) = _
  rw [if_pos h]
@[simp] theorem lenD_tup (xs : List D) (S : Sto) : lenD [.tup xs] S = .ok (.int xs.length) S := (rfl)
@[simp] theorem lenD_lst (xs : List D) (S : Sto) : lenD [.lst xs] S = .ok (.int xs.length) S := (rfl)
@[simp] theorem cop_eq : Cop.eq.ev = eqD := (rfl)
@[simp] theorem cop_ne : Cop.ne.ev = neD := (rfl)
@[simp] theorem cop_lt : Cop.lt.ev = ltD := (rfl)
@[simp] theorem cop_le : Cop.le.ev = leD := (rfl)
@[simp] theorem cop_gt : Cop.gt.ev = gtD := (rfl)
@[simp] theorem cop_ge : Cop.ge.ev = geD := (rfl)
@[simp] theorem cop_is : Cop.is.ev = isD := (rfl)
@[simp] theorem cop_isNot : Cop.isNot.ev = isNotD := (rfl)
@[simp] theorem cop_inn : Cop.inn.ev = inD := (rfl)
@[simp] theorem cop_notIn : Cop.notIn.ev = notInD := (rfl)
@[simp] theorem bop_add (m : Bool) : Bop.add.ev m = addD m := (rfl)
@[simp] theorem bop_sub (m : Bool) : Bop.sub.ev m = subD := (rfl)
@[simp] theorem bop_mul (m : Bool) : Bop.mul.ev m = mulM m := (rfl)
@[simp] theorem bop_fdiv (m : Bool) : Bop.fdiv.ev m = fdivD := (rfl)
@[simp] theorem bop_mod (m : Bool) : Bop.mod.ev m = modD := (rfl)
@[simp] theorem bop_pow (m : Bool) : Bop.pow.ev m = powD := (rfl)
@[simp] theorem fn_len (m : Bool) : Fn.len.ev m = lenD := (rfl)
@[simp] theorem fn_all (m : Bool) : Fn.all.ev m = allD := (rfl)
@[simp] theorem fn_any (m : Bool) : Fn.any.ev m = anyD := (rfl)
@[simp] theorem fn_min (m : Bool) : Fn.min.ev m = minD := (rfl)
@[simp] theorem fn_sum (m : Bool) : Fn.sum.ev m = sumD := (rfl)
@[simp] theorem fn_int (m : Bool) : Fn.int.ev m = intD := (rfl)
@[simp] theorem fn_str (m : Bool) : Fn.str.ev m = strD := (rfl)
@[simp] theorem fn_list (m : Bool) : Fn.list.ev m = listD m := (rfl)
@[simp] theorem fn_tuple (m : Bool) : Fn.tuple.ev m = tupleD := (rfl)
@[simp] theorem fn_repr (m : Bool) (d : D) : Fn.repr.ev m [d] = reprD d := (rfl)
@[simp] theorem le_int (i j : Int) (S : Sto) : leD (.int i) (.int j) S = .ok (.bl (decide (i ≤ j))) S := (rfl)
@[simp] theorem lt_int (i j : Int) (S : Sto) : ltD (.int i) (.int j) S = .ok (.bl (decide (i < j))) S := (rfl)
@[simp] theorem ge_int (i j : Int) (S : Sto) : geD (.int i) (.int j) S = .ok (.bl (decide (j ≤ i))) S := (rfl)
@[simp] theorem gt_int (i j : Int) (S : Sto) : gtD (.int i) (.int j) S = .ok (.bl (decide (j < i))) S := (rfl)
@[simp] theorem le_str (x y : Str) (S : Sto) : leD (.str x) (.str y) S = .ok (.bl (!ltS y x)) S := (rfl)
@[simp] theorem eq_int (i j : Int) (S : Sto) : eqD (.int i) (.int j) S = .ok (.bl (decide (i = j))) S := (rfl)
@[simp] theorem ne_int (i j : Int) (S : Sto) : neD (.int i) (.int j) S = .ok (.bl (!decide (i = j))) S := (rfl)
@[simp] theorem eq_str (i j : Str) (S : Sto) : eqD (.str i) (.str j) S = .ok (.bl (decide (i = j))) S := (rfl)
@[simp] theorem ne_str (i j : Str) (S : Sto) : neD (.str i) (.str j) S = .ok (.bl (!decide (i = j))) S := (rfl)
@[simp] theorem seqSrc_str (x : Str) (S : Sto) : seqSrc (.str x) S = .ok (.fix (signsL x)) S := (rfl)
@[simp] theorem seqSrc_tup (x : List D) (S : Sto) : seqSrc (.tup x) S = .ok (.fix x) S := (rfl)
@[simp] theorem seqSrc_lst (x : List D) (S : Sto) : seqSrc (.lst x) S = .ok (.fix x) S := (rfl)
@[simp] theorem in_sign (c : Nat) (z : Str) (S : Sto) : inD (.str ⟨#[c]⟩) (.str z) S = .ok (.bl (decide (c ∈ z.cps.toList))) S := (rfl)
@[simp] theorem thenF_next (g : Env → M Fl) (ρ : Env) : thenF g (.next ρ) = g ρ := (rfl)
@[simp] theorem thenF_ret (g : Env → M Fl) (d : D) : thenF g (.ret d) = pure (.ret d) := (rfl)
theorem bools_of : ∀ (xs : List Bool), bools? (xs.map D.bl) = some xs
  | [] => rfl
  | x :: xs => by
    have := bools_of xs
    simp [bools?, this]
theorem allD_bools (xs : List Bool) (S : Sto) : allD [.lst (xs.map D.bl)] S = .ok (.bl (xs.all id)) S := by
  show (match (some (xs.map D.bl)).bind bools? with | some bs => R.ok (D.bl (bs.all id)) S | none => .bad) = _
  rw [Option.bind_some, bools_of]
@[simp] theorem allD_map {α : Type} (p : α → Bool) (l : List α) (S : Sto) : allD [.lst (l.map (D.bl ∘ p))] S = .ok (.bl (l.all p)) S := by
  have := allD_bools (l.map p) S
  rw [List.map_map] at this
  rw [this]
  simp
theorem ixD_str {x : Str} {i : Int} (h : x.length ≤ SL) (S : Sto) : ixD (.str x) (.int i) S = match atI x.cps.toList i with | some c => .ok (.str ⟨#[c]⟩) S | none => .bad := by
  show (match (if x.length ≤ SL then (atI x.cps.toList i).map (fun c => D.str ⟨#[c]⟩) else none) with | some e => R.ok e S | none => dicIx S (.str x) (.inl i)) = _
  rw [if_pos h]
  cases atI x.cps.toList i <;> rfl
@[simp] theorem ixD_tup (xs : List D) (i : Int) (S : Sto) : ixD (.tup xs) (.int i) S = match atI xs i with | some c => .ok c S | none => .bad := (rfl)
@[simp] theorem ixD_lst (xs : List D) (i : Int) (S : Sto) : ixD (.lst xs) (.int i) S = match atI xs i with | some c => .ok c S | none => .bad := (rfl)
theorem atI_nat {α : Type} (xs : List α) (k : Nat) : atI xs (k : Int) = xs[k]? := by
  unfold atI ixN
  by_cases h : k < xs.length
  · simp [h]
  · simp [h]
end MP

/-! MP29: what a run ends in (W): a run that ends well, and in what. -/
namespace MP
open PySem L2
def W {α : Type} (m : M α) (S : Sto) (Q : α → Sto → Prop) : Prop := match m S with
  | .ok a S' => Q a S'
  | .bad => False
theorem W_iff {α : Type} {m : M α} {S : Sto} {Q : α → Sto → Prop} : W m S Q ↔ ∃ a S', m S = .ok a S' ∧ Q a S' := by
  unfold W
  cases m S with
  | ok a S' => exact ⟨fun h => ⟨a, S', rfl, h⟩, fun ⟨_, _, e, h⟩ => by cases e; exact h⟩
  | bad => exact ⟨fun h => h.elim, fun ⟨_, _, e, _⟩ => by cases e⟩
theorem W_of {α : Type} {m : M α} {S S' : Sto} {a : α} (h : m S = .ok a S') (Q : α → Sto → Prop) : W m S Q = Q a S' := by
  unfold W
  rw [h]
theorem W_eq {α : Type} {m m' : M α} {S : Sto} (h : m S = m' S) (Q : α → Sto → Prop) : W m S Q = W m' S Q := by
  unfold W
  rw [h]
theorem W.mono {α : Type} {m : M α} {S : Sto} {Q Q' : α → Sto → Prop} (h : W m S Q) (k : ∀ a S', Q a S' → Q' a S') : W m S Q' := by
  rw [W_iff] at h ⊢
  obtain ⟨a, S', e, q⟩ := h
  exact ⟨a, S', e, k _ _ q⟩

@[simp ↓] theorem W_bind {α β : Type} (m : M α) (f : α → M β) (S : Sto) (Q : β → Sto → Prop) : W (m >>= f) S Q = W m S (fun a S' => W (f a) S' Q) := by
  unfold W
  rw [bind_run]
  cases m S <;> rfl
@[simp ↓] theorem W_pure {α : Type} (a : α) (S : Sto) (Q : α → Sto → Prop) : W (pure a : M α) S Q = Q a S := (rfl)
@[simp ↓] theorem W_mpure {α : Type} (a : α) (S : Sto) (Q : α → Sto → Prop) : W (M.pure a : M α) S Q = Q a S := (rfl)
@[simp ↓] theorem W_ite {α : Type} (c : Prop) [Decidable c] (a b : M α) (S : Sto) (Q : α → Sto → Prop) : W (if c then a else b) S Q = if c then W a S Q else W b S Q := by split <;> rfl
@[simp ↓] theorem W_fail {α : Type} (S : Sto) (Q : α → Sto → Prop) : W (M.fail : M α) S Q = False := (rfl)
section
variable (φ : Nat → List D → M D) (S : Sto) (ρ : Env)
@[simp ↓] theorem W_non (Q) : W (evE φ .non ρ) S Q = Q .non S := (rfl)
@[simp ↓] theorem W_bl (b Q) : W (evE φ (.bl b) ρ) S Q = Q (.bl b) S := (rfl)
@[simp ↓] theorem W_int (b Q) : W (evE φ (.int b) ρ) S Q = Q (.int b) S := (rfl)
@[simp ↓] theorem W_str (b Q) : W (evE φ (.str b) ρ) S Q = Q (.str b) S := (rfl)
@[simp ↓] theorem W_neg (b Q) : W (evE φ (.neg b) ρ) S Q = Q (.int (-b)) S := (rfl)
@[simp ↓] theorem W_glb (b d Q) : W (evE φ (.glb b d) ρ) S Q = Q d S := (rfl)
/-- the place of a slot -/
def vget (ρ : Env) (i : Nat) (S : Sto) (Q : D → Sto → Prop) : Prop := match ρ[i]? with | some (some d) => Q d S | _ => False
theorem W_getV (i Q) : W (getV ρ i) S Q = vget ρ i S Q := by
  unfold W vget
  rw [getV_run]
  split <;> split <;> simp_all
@[simp ↓] theorem W_var (i Q) : W (evE φ (.var i) ρ) S Q = vget ρ i S Q := W_getV S ρ i Q
@[simp ↓] theorem W_bin (o m a b Q) : W (evE φ (.bin o m a b) ρ) S Q = W (evE φ a ρ) S (fun d S1 => W (evE φ b ρ) S1 (fun e S2 => W (o.ev m d e) S2 Q)) := by simp only [evE_bin, W_bind]
@[simp ↓] theorem W_cmp (o a b Q) : W (evE φ (.cmp o a b) ρ) S Q = W (evE φ a ρ) S (fun d S1 => W (evE φ b ρ) S1 (fun e S2 => W (o.ev d e) S2 Q)) := by simp only [evE_cmp, W_bind]
@[simp ↓] theorem W_chn (o p a b c Q) : W (evE φ (.chn o p a b c) ρ) S Q = W (evE φ a ρ) S (fun d S1 => W (evE φ b ρ) S1 (fun e S2 => W (o.ev d e) S2 (fun z S3 => W (asB z) S3 (fun t S4 => if t = true then W (evE φ c ρ) S4 (fun e' S5 => W (p.ev e e') S5 Q) else Q (.bl false) S4)))) := by simp only [evE_chn, W_bind, W_ite, W_pure]
@[simp ↓] theorem W_not (a Q) : W (evE φ (.not a) ρ) S Q = W (evE φ a ρ) S (fun d S1 => W (asB d) S1 (fun b S2 => Q (.bl (!b)) S2)) := by simp only [evE_not, W_bind, W_pure]
@[simp ↓] theorem W_and (a r Q) : W (evE φ (.and a r) ρ) S Q = W (evE φ a ρ) S (fun d S1 => W (asB d) S1 (fun t S2 => if t = true then W (evE φ r ρ) S2 Q else Q (.bl false) S2)) := by simp only [evE_and, W_bind, W_ite, W_pure]
@[simp ↓] theorem W_or (a r Q) : W (evE φ (.or a r) ρ) S Q = W (evE φ a ρ) S (fun d S1 => W (asB d) S1 (fun t S2 => if t = true then Q (.bl true) S2 else W (evE φ r ρ) S2 Q)) := by simp only [evE_or, W_bind, W_ite, W_pure]
@[simp ↓] theorem W_one (a Q) : W (evE φ (.one a) ρ) S Q = W (evE φ a ρ) S Q := (rfl)
@[simp ↓] theorem W_ife (t a b Q) : W (evE φ (.ife t a b) ρ) S Q = W (evT φ t ρ) S (fun c S1 => if c = true then W (evE φ a ρ) S1 Q else W (evE φ b ρ) S1 Q) := by simp only [evE_ife, W_bind, W_ite]
@[simp ↓] theorem W_ix (a b Q) : W (evE φ (.ix a b) ρ) S Q = W (evE φ a ρ) S (fun d S1 => W (evE φ b ρ) S1 (fun e S2 => W (ixD d e) S2 Q)) := by simp only [evE_ix, W_bind]
@[simp ↓] theorem W_sl (m a lo hi Q) : W (evE φ (.sl m a lo hi) ρ) S Q = W (evE φ a ρ) S (fun d S1 => W (evO φ lo ρ) S1 (fun l S2 => W (evO φ hi ρ) S2 (fun h S3 => W (sliceE m d l h) S3 Q))) := by simp only [evE_sl, W_bind]
@[simp ↓] theorem W_rev (m a Q) : W (evE φ (.rev m a) ρ) S Q = W (evE φ a ρ) S (fun d S1 => W (revE m d) S1 Q) := by simp only [evE_rev, W_bind]
@[simp ↓] theorem W_tup (es Q) : W (evE φ (.tup es) ρ) S Q = W (evL φ es ρ) S (fun ds S1 => Q (.tup ds) S1) := by simp only [evE_tup, W_bind, W_pure]
@[simp ↓] theorem W_lst (m es Q) : W (evE φ (.lst m es) ρ) S Q = W (evL φ es ρ) S (fun ds S1 => W (newL m ds) S1 Q) := by simp only [evE_lst, W_bind]
@[simp ↓] theorem W_dic0 (m Q) : W (evE φ (.dic0 m) ρ) S Q = W (newD m []) S Q := (rfl)
@[simp ↓] theorem W_dicC (m ps Q) : W (evE φ (.dicC m ps) ρ) S Q = W (newD m (mergeD [] (ps.map fun p => (p.1, keyC p.2)))) S Q := (rfl)
@[simp ↓] theorem W_gin (g k kds a Q) : W (evE φ (.gin g k kds a) ρ) S Q = W (evE φ a ρ) S (fun d S1 => W (ginD g kds d) S1 Q) := by simp only [evE_gin, W_bind]
@[simp ↓] theorem W_gix (k kds a Q) : W (evE φ (.gix k kds a) ρ) S Q = W (evE φ a ρ) S (fun d S1 => W (gixD kds d) S1 Q) := by simp only [evE_gix, W_bind]
@[simp ↓] theorem WT_gin (g k kds a Q) : W (evT φ (.gin g k kds a) ρ) S Q = W (evE φ a ρ) S (fun d S1 => W (ginD g kds d) S1 (fun z S2 => W (asB z) S2 Q)) := by simp only [evT_gin, W_bind]
@[simp ↓] theorem WI_enu (es Q) : W (evI φ (.enu es) ρ) S Q = W (evL φ es ρ) S (fun ds S1 => W (enuL ds) S1 Q) := by simp only [evI_enu, W_bind]
@[simp ↓] theorem WS_dead (Q) : W (evS φ .dead ρ) S Q = False := (rfl)
@[simp ↓] theorem W_dic1 (k i Q) : W (evE φ (.dic1 k i) ρ) S Q = vget ρ i S (fun d S1 => Q (.dic [(.inl k, d)]) S1) := by simp only [evE_dic1, W_bind, W_getV, W_pure]
@[simp ↓] theorem W_fn (f m es Q) : W (evE φ (.fn f m es) ρ) S Q = W (evL φ es ρ) S (fun ds S1 => W (f.ev m ds) S1 Q) := by simp only [evE_fn, W_bind]
@[simp ↓] theorem W_isi (t a Q) : W (evE φ (.isi t a) ρ) S Q = W (evE φ a ρ) S (fun d S1 => W (isinstD t d) S1 Q) := by simp only [evE_isi, W_bind]
@[simp ↓] theorem W_isiS (t x Q) : W (isinstD t (.str x)) S Q = Q (.bl (isiD t (.str x))) S := (rfl)
@[simp ↓] theorem W_isiT (t x Q) : W (isinstD t (.tup x)) S Q = Q (.bl (isiD t (.tup x))) S := (rfl)
@[simp ↓] theorem W_isiI (t x Q) : W (isinstD t (.int x)) S Q = Q (.bl (isiD t (.int x))) S := (rfl)
@[simp ↓] theorem W_isiB (t x Q) : W (isinstD t (.bl x)) S Q = Q (.bl (isiD t (.bl x))) S := (rfl)
@[simp ↓] theorem W_isiN (t Q) : W (isinstD t .non) S Q = Q (.bl (isiD t .non)) S := (rfl)
@[simp ↓] theorem W_isiL (t x Q) : W (isinstD t (.lst x)) S Q = Q (.bl (isiD t (.lst x))) S := (rfl)
@[simp ↓] theorem W_me (f m o es Q) : W (evE φ (.me f m o es) ρ) S Q = W (evE φ o ρ) S (fun d S1 => W (f.rc d) S1 (fun _ S2 => W (evL φ es ρ) S2 (fun ds S3 => W (f.ev m d ds) S3 Q))) := by simp only [evE_me, W_bind]
@[simp ↓] theorem W_repl (y z o Q) : W (evE φ (.repl y z o) ρ) S Q = W (evE φ o ρ) S (fun d S1 => W (replD y z d) S1 Q) := by simp only [evE_repl, W_bind]
@[simp ↓] theorem W_call (k es Q) : W (evE φ (.call k es) ρ) S Q = W (evL φ es ρ) S (fun ds S1 => W (φ k ds) S1 Q) := by simp only [evE_call, W_bind]
@[simp ↓] theorem W_lc (m tg it ifs elt own Q) : W (evE φ (.lc m tg it ifs elt own) ρ) S Q = W (evI φ it ρ) S (fun src S1 => W (lcS m tg.ev (evA φ ifs) (evE φ elt) (wipeE ρ own) src) S1 Q) := by simp only [evE_lc, W_bind]
@[simp ↓] theorem WO_non (Q) : W (evO φ .non ρ) S Q = Q none S := (rfl)
@[simp ↓] theorem WO_som (e Q) : W (evO φ (.som e) ρ) S Q = W (evE φ e ρ) S (fun d S1 => W (asI d) S1 Q) := by simp only [evO_som, W_bind]
@[simp ↓] theorem WL_nil (Q) : W (evL φ .nil ρ) S Q = Q [] S := (rfl)
@[simp ↓] theorem WL_cons (e r Q) : W (evL φ (.cons e r) ρ) S Q = W (evE φ e ρ) S (fun d S1 => W (evL φ r ρ) S1 (fun ds S2 => Q (d :: ds) S2)) := by simp only [evL_cons, W_bind, W_pure]
@[simp ↓] theorem WT_cmp (o a b Q) : W (evT φ (.cmp o a b) ρ) S Q = W (evE φ a ρ) S (fun d S1 => W (evE φ b ρ) S1 (fun e S2 => W (o.ev d e) S2 (fun z S3 => W (asB z) S3 Q))) := by simp only [evT_cmp, W_bind]
@[simp ↓] theorem WT_chn (o p a b c Q) : W (evT φ (.chn o p a b c) ρ) S Q = W (evE φ a ρ) S (fun d S1 => W (evE φ b ρ) S1 (fun e S2 => W (o.ev d e) S2 (fun z S3 => W (asB z) S3 (fun t S4 => if t = true then W (evE φ c ρ) S4 (fun e' S5 => W (p.ev e e') S5 (fun z S6 => W (asB z) S6 Q)) else Q false S4)))) := by simp only [evT_chn, W_bind, W_ite, W_pure]
@[simp ↓] theorem WT_not (t Q) : W (evT φ (.not t) ρ) S Q = W (evT φ t ρ) S (fun b S1 => Q (!b) S1) := by simp only [evT_not, W_bind, W_pure]
@[simp ↓] theorem WT_and (t Q) : W (evT φ (.and t) ρ) S Q = W (evA φ t ρ) S Q := (rfl)
@[simp ↓] theorem WT_or (t Q) : W (evT φ (.or t) ρ) S Q = W (evOr φ t ρ) S Q := (rfl)
@[simp ↓] theorem WT_val (e Q) : W (evT φ (.val e) ρ) S Q = W (evE φ e ρ) S (fun d S1 => W (truD d) S1 Q) := by simp only [evT_val, W_bind]
@[simp ↓] theorem WA_nil (Q) : W (evA φ .nil ρ) S Q = Q true S := (rfl)
@[simp ↓] theorem WA_cons (t r Q) : W (evA φ (.cons t r) ρ) S Q = W (evT φ t ρ) S (fun c S1 => if c = true then W (evA φ r ρ) S1 Q else Q false S1) := by simp only [evA_cons, W_bind, W_ite, W_pure]
@[simp ↓] theorem WOr_nil (Q) : W (evOr φ .nil ρ) S Q = Q false S := (rfl)
@[simp ↓] theorem WOr_cons (t r Q) : W (evOr φ (.cons t r) ρ) S Q = W (evT φ t ρ) S (fun c S1 => if c = true then Q true S1 else W (evOr φ r ρ) S1 Q) := by simp only [evOr_cons, W_bind, W_ite, W_pure]
@[simp ↓] theorem WI_seq (e Q) : W (evI φ (.seq e) ρ) S Q = W (evE φ e ρ) S (fun d S1 => W (seqSrc d) S1 Q) := by simp only [evI_seq, W_bind]
@[simp ↓] theorem WI_rng (es Q) : W (evI φ (.rng es) ρ) S Q = W (evL φ es ρ) S (fun ds S1 => W (rngSrc ds) S1 Q) := by simp only [evI_rng, W_bind]
@[simp ↓] theorem WS_pass (Q) : W (evS φ .pass ρ) S Q = Q (.next ρ) S := (rfl)
@[simp ↓] theorem WS_brk (Q) : W (evS φ .brk ρ) S Q = Q (.brk ρ) S := (rfl)
@[simp ↓] theorem WS_cont (Q) : W (evS φ .cont ρ) S Q = Q (.cont ρ) S := (rfl)
@[simp ↓] theorem WS_ret (e Q) : W (evS φ (.ret e) ρ) S Q = W (evE φ e ρ) S (fun d S1 => Q (.ret d) S1) := by simp only [evS_ret, W_bind, W_pure]
@[simp ↓] theorem WS_set (i e Q) : W (evS φ (.set i e) ρ) S Q = W (evE φ e ρ) S (fun d S1 => Q (.next (ρ.set i (some d))) S1) := by simp only [evS_set, W_bind, W_pure]
@[simp ↓] theorem WS_par (is e Q) : W (evS φ (.par is e) ρ) S Q = W (evE φ e ρ) S (fun d S1 => W (unpackD is.length none d) S1 (fun ds S2 => Q (.next (setsL is.reverse ds.reverse ρ)) S2)) := by simp only [evS_par, W_bind, W_pure]
@[simp ↓] theorem WS_asg (tg e Q) : W (evS φ (.asg tg e) ρ) S Q = W (evE φ e ρ) S (fun d S1 => W (tg.ev d ρ) S1 (fun ρ' S2 => Q (.next ρ') S2)) := by simp only [evS_asg, W_bind, W_pure]
@[simp ↓] theorem WS_put (o i e Q) : W (evS φ (.put o i e) ρ) S Q = W (evE φ e ρ) S (fun d S1 => W (evE φ o ρ) S1 (fun od S2 => W (evE φ i ρ) S2 (fun id S3 => W (setD od id d) S3 (fun _ S4 => Q (.next ρ) S4)))) := by simp only [evS_put, W_bind, W_pure]
@[simp ↓] theorem WS_exp (e Q) : W (evS φ (.exp e) ρ) S Q = W (evE φ e ρ) S (fun _ S1 => Q (.next ρ) S1) := by simp only [evS_exp, W_bind, W_pure]
@[simp ↓] theorem WS_ite (t a b Q) : W (evS φ (.ite t a b) ρ) S Q = W (evT φ t ρ) S (fun c S1 => if c = true then W (evSs φ a ρ) S1 Q else W (evSs φ b ρ) S1 Q) := by simp only [evS_ite, W_bind, W_ite]
@[simp ↓] theorem WS_forr (tg it b Q) : W (evS φ (.forr tg it b) ρ) S Q = W (evI φ it ρ) S (fun src S1 => W (forF tg.ev (evSs φ b) ρ src) S1 Q) := by simp only [evS_forr, W_bind]
@[simp ↓] theorem WSs_nil (Q) : W (evSs φ .nil ρ) S Q = Q (.next ρ) S := (rfl)
@[simp ↓] theorem WSs_cons (s r Q) : W (evSs φ (.cons s r) ρ) S Q = W (evS φ s ρ) S (fun fl S1 => W (thenF (evSs φ r) fl) S1 Q) := by simp only [evSs_cons, W_bind]
end
@[simp ↓] theorem W_thenN (g : Env → M Fl) (ρ : Env) (S : Sto) (Q) : W (thenF g (.next ρ)) S Q = W (g ρ) S Q := (rfl)
@[simp ↓] theorem W_thenR (g : Env → M Fl) (d : D) (S : Sto) (Q) : W (thenF g (.ret d)) S Q = Q (.ret d) S := (rfl)
@[simp ↓] theorem W_thenB (g : Env → M Fl) (ρ : Env) (S : Sto) (Q) : W (thenF g (.brk ρ)) S Q = Q (.brk ρ) S := (rfl)
@[simp ↓] theorem W_thenC (g : Env → M Fl) (ρ : Env) (S : Sto) (Q) : W (thenF g (.cont ρ)) S Q = Q (.cont ρ) S := (rfl)
/-- the end of a def -/
def bodyQ (Q : D → Sto → Prop) : Fl → Sto → Prop
  | .ret d, S => Q d S
  | .next _, S => Q .non S
  | _, _ => False
@[simp ↓] theorem bodyQ_ret (Q d S) : bodyQ Q (.ret d) S = Q d S := (rfl)
@[simp ↓] theorem bodyQ_next (Q d S) : bodyQ Q (.next d) S = Q .non S := (rfl)
theorem W_body (k : Nat) (g : Env → M Fl) (ds : List D) (S : Sto) (Q) : W (bodyD k g ds) S Q = W (g (startD k ds)) S (bodyQ Q) := by
  unfold bodyD
  rw [W_bind]
  congr 1
  funext fl S'
  cases fl <;> rfl
@[simp ↓] theorem W_asB (b : Bool) (S : Sto) (Q) : W (asB (.bl b)) S Q = Q b S := (rfl)
@[simp ↓] theorem W_asI (i : Int) (S : Sto) (Q) : W (asI (.int i)) S Q = Q (some i) S := (rfl)
@[simp ↓] theorem W_truB (b : Bool) (S : Sto) (Q) : W (truD (.bl b)) S Q = Q b S := (rfl)
@[simp ↓] theorem vget_0 (d : D) (r : Env) (S : Sto) (Q) : vget (some d :: r) 0 S Q = Q d S := (rfl)
@[simp ↓] theorem vget_n (d : Option D) (r : Env) (n : Nat) (S : Sto) (Q) : vget (d :: r) (n + 1) S Q = vget r n S Q := by
  unfold vget
  rw [List.getElem?_cons_succ]
@[simp ↓] theorem W_newF (ds : List D) (S : Sto) (Q) : W (newL false ds) S Q = Q (.lst ds) S := (rfl)
@[simp ↓] theorem W_newT (ds : List D) (S : Sto) (Q) : W (newL true ds) S Q = Q (.ref S.length) (S ++ [.lst ds]) := (rfl)
@[simp ↓] theorem W_addI (m : Bool) (i j : Int) (S : Sto) (Q) : W (addD m (.int i) (.int j)) S Q = Q (.int (i + j)) S := (rfl)
@[simp ↓] theorem W_subI (i j : Int) (S : Sto) (Q) : W (subD (.int i) (.int j)) S Q = Q (.int (i - j)) S := (rfl)
@[simp ↓] theorem W_leI (i j : Int) (S : Sto) (Q) : W (leD (.int i) (.int j)) S Q = Q (.bl (decide (i ≤ j))) S := (rfl)
@[simp ↓] theorem W_ltI (i j : Int) (S : Sto) (Q) : W (ltD (.int i) (.int j)) S Q = Q (.bl (decide (i < j))) S := (rfl)
@[simp ↓] theorem W_geI (i j : Int) (S : Sto) (Q) : W (geD (.int i) (.int j)) S Q = Q (.bl (decide (j ≤ i))) S := (rfl)
@[simp ↓] theorem W_gtI (i j : Int) (S : Sto) (Q) : W (gtD (.int i) (.int j)) S Q = Q (.bl (decide (j < i))) S := (rfl)
@[simp ↓] theorem W_eqI (i j : Int) (S : Sto) (Q) : W (eqD (.int i) (.int j)) S Q = Q (.bl (decide (i = j))) S := (rfl)
@[simp ↓] theorem W_neI (i j : Int) (S : Sto) (Q) : W (neD (.int i) (.int j)) S Q = Q (.bl (!decide (i = j))) S := (rfl)
@[simp ↓] theorem W_lenL (xs : List D) (S : Sto) (Q) : W (lenD [.lst xs]) S Q = Q (.int xs.length) S := (rfl)
@[simp ↓] theorem W_lenT (xs : List D) (S : Sto) (Q) : W (lenD [.tup xs]) S Q = Q (.int xs.length) S := (rfl)
@[simp ↓] theorem W_seqT (xs : List D) (S : Sto) (Q) : W (seqSrc (.tup xs)) S Q = Q (.fix xs) S := (rfl)
@[simp ↓] theorem W_seqL (xs : List D) (S : Sto) (Q) : W (seqSrc (.lst xs)) S Q = Q (.fix xs) S := (rfl)
@[simp ↓] theorem W_seqS (x : Str) (S : Sto) (Q) : W (seqSrc (.str x)) S Q = Q (.fix (signsL x)) S := (rfl)
@[simp ↓] theorem W_tupleL (xs : List D) (S : Sto) (Q) : W (tupleD [.lst xs]) S Q = Q (.tup xs) S := (rfl)
@[simp ↓] theorem W_nm (i : Nat) (d : D) (ρ : Env) (S : Sto) (Q) : W ((Tg.nm i).ev d ρ) S Q = Q (ρ.set i (some d)) S := (rfl)
@[simp] theorem rc_append : Me.append.rc = rcL := (rfl)
@[simp] theorem rc_extend : Me.extend.rc = rcL := (rfl)
@[simp] theorem rc_pop : Me.pop.rc = rcL := (rfl)
@[simp] theorem rc_join : Me.join.rc = rcS := (rfl)
@[simp] theorem rc_split : Me.split.rc = rcS := (rfl)
@[simp] theorem rc_count : Me.count.rc = rcS := (rfl)
@[simp] theorem rc_upper : Me.upper.rc = rcS := (rfl)
@[simp ↓] theorem W_rcS (x : Str) (S : Sto) (Q) : W (rcS (.str x)) S Q = Q () S := (rfl)
@[simp] theorem me_append (m : Bool) : Me.append.ev m = appendD := (rfl)
@[simp] theorem me_extend (m : Bool) : Me.extend.ev m = extendD := (rfl)
@[simp] theorem me_pop (m : Bool) : Me.pop.ev m = popD := (rfl)
@[simp] theorem me_join (m : Bool) : Me.join.ev m = joinD := (rfl)
@[simp] theorem me_split (m : Bool) : Me.split.ev m = splitD m := (rfl)
@[simp] theorem me_count (m : Bool) : Me.count.ev m = countD := (rfl)
@[simp] theorem me_upper (m : Bool) : Me.upper.ev m = upperD := (rfl)
theorem W_modI {i j : Int} (h : 0 < j) (S : Sto) (Q) : W (modD (.int i) (.int j)) S Q = Q (.int (i % j)) S := by
  show W (if 0 < j then pure (.int (i % j)) else M.fail) S Q = _
  rw [if_pos h]; rfl
theorem W_fdivI {i j : Int} (h : 0 < j ∧ j < 1073741824) (S : Sto) (Q) : W (fdivD (.int i) (.int j)) S Q = Q (.int (i / j)) S := by
  show W (if 0 < j ∧ j < 1073741824 then pure (.int (i / j)) else M.fail) S Q = _
  rw [if_pos h]; rfl
theorem W_mulI {m : Bool} {i j : Int} (h : (-(2 ^ 64) < i ∧ i < 2 ^ 64) ∨ (-(2 ^ 64) < j ∧ j < 2 ^ 64)) (S : Sto) (Q) : W (mulM m (.int i) (.int j)) S Q = Q (.int (i * j)) S := by
  show W (if (-(2 ^ 64) < i ∧ i < 2 ^ 64) ∨ (-(2 ^ 64) < j ∧ j < 2 ^ 64) then pure (.int (i * j)) else M.fail) S Q = _
  rw [if_pos h]; rfl
theorem W_addS {x y : Str} (m : Bool) (h : x.length + y.length ≤ SL) (S : Sto) (Q) : W (addD m (.str x) (.str y)) S Q = Q (.str (x ++ y)) S := by
  show W (if x.length + y.length ≤ SL then pure (.str (x ++ y)) else M.fail) S Q = _
  rw [if_pos h]; rfl
theorem W_addT {x y : List D} (m : Bool) (h : x.length + y.length ≤ SL) (S : Sto) (Q) : W (addD m (.tup x) (.tup y)) S Q = Q (.tup (x ++ y)) S := by
  show W (if x.length + y.length ≤ SL then pure (.tup (x ++ y)) else M.fail) S Q = _
  rw [if_pos h]; rfl
theorem W_addL {x y : List D} (m : Bool) (h : x.length + y.length ≤ SL) (S : Sto) (Q) : W (addD m (.lst x) (.lst y)) S Q = W (newL m (x ++ y)) S Q := by
  show W (fun S => if x.length + y.length ≤ SL then newL m (x ++ y) S else .bad) S Q = _
  unfold W
  dsimp only
  rw [if_pos h]
theorem atI_some {α : Type} (xs : List α) {i : Int} (h0 : 0 ≤ i) (h1 : i < xs.length) : ∃ x, atI xs i = some x ∧ x ∈ xs := by
  obtain ⟨k, rfl⟩ := Int.eq_ofNat_of_zero_le h0
  have hk : k < xs.length := by omega
  exact ⟨xs[k], by rw [atI_nat, List.getElem?_eq_getElem hk], List.getElem_mem hk⟩
theorem W_ixL_all {xs : List D} {i : Int} {S : Sto} {Q : D → Sto → Prop} (h0 : 0 ≤ i) (h1 : i < xs.length) (h : ∀ x ∈ xs, Q x S) : W (ixD (.lst xs) (.int i)) S Q := by
  obtain ⟨x, e, hx⟩ := atI_some xs h0 h1
  rw [W_of (show ixD (.lst xs) (.int i) S = .ok x S by rw [ixD_lst, e])]
  exact h x hx
theorem W_ixT_all {xs : List D} {i : Int} {S : Sto} {Q : D → Sto → Prop} (h0 : 0 ≤ i) (h1 : i < xs.length) (h : ∀ x ∈ xs, Q x S) : W (ixD (.tup xs) (.int i)) S Q := by
  obtain ⟨x, e, hx⟩ := atI_some xs h0 h1
  rw [W_of (show ixD (.tup xs) (.int i) S = .ok x S by rw [ixD_tup, e])]
  exact h x hx
/-- a comprehension, its parts one after another: an invariant of what is made and of the store -/
theorem W_lcF {ga : D → Env → M Env} {gt : Env → M Bool} {ge : Env → M D} {ρw : Env} {xs : List D} (I : Nat → List D → Sto → Prop)
    (h : ∀ i d acc S, xs[i]? = some d → I i acc S → acc.length ≤ i → W (ga d ρw) S (fun ρ1 S1 => W (gt ρ1) S1 (fun b S2 => if b = true then W (ge ρ1) S2 (fun y S3 => I (i + 1) (acc ++ [y]) S3) else I (i + 1) acc S2))) :
    ∀ (k i : Nat) (acc : List D) (S : Sto), i ≤ xs.length → xs.length < i + k → acc.length ≤ i → xs.length ≤ SL → I i acc S → W (lcF (.fix xs) ga gt ge ρw k i acc) S (fun ys S' => I xs.length ys S' ∧ ys.length ≤ xs.length)
  | 0, i, acc, S, h0, h1, _, _, _ => by omega
  | k + 1, i, acc, S, h0, h1, h2, h3, hI => by
    by_cases hi : i < xs.length
    · have e : xs[i]? = some xs[i] := List.getElem?_eq_getElem hi
      have st := h i xs[i] acc S e hI h2
      have : lcF (.fix xs) ga gt ge ρw (k + 1) i acc S = (ga xs[i] ρw >>= fun ρ1 => gt ρ1 >>= fun b => if b = true then ge ρ1 >>= fun y => if acc.length < SL then lcF (.fix xs) ga gt ge ρw k (i + 1) (acc ++ [y]) else M.fail else lcF (.fix xs) ga gt ge ρw k (i + 1) acc) S := by
        show (match (some xs[i]? : Option (Option D)) with | none => _ | some none => _ | some (some d) => _) = _
        rw [e]
      rw [W_eq this]
      simp only [W_bind, W_ite]
      refine st.mono fun ρ1 S1 z1 => z1.mono fun b S2 z2 => ?_
      cases b with
      | true =>
        rw [if_pos rfl] at z2 ⊢
        refine z2.mono fun y S3 z3 => ?_
        rw [if_pos (by omega)]
        exact W_lcF I h k (i + 1) (acc ++ [y]) S3 hi (by omega) (by rw [List.length_append, List.length_singleton]; omega) h3 z3
      | false =>
        rw [if_neg Bool.false_ne_true] at z2 ⊢
        exact W_lcF I h k (i + 1) acc S2 hi (by omega) (by omega) h3 z2
    · have hl : i = xs.length := by omega
      subst hl
      have : lcF (.fix xs) ga gt ge ρw (k + 1) xs.length acc S = .ok acc S := by
        show (match (some xs[xs.length]? : Option (Option D)) with | none => _ | some none => _ | some (some d) => _) = _
        rw [List.getElem?_eq_none (Nat.le_refl _)]
      rw [W_of this]
      exact ⟨hI, h2⟩
theorem W_lcS {m : Bool} {ga : D → Env → M Env} {gt : Env → M Bool} {ge : Env → M D} {ρw : Env} {xs : List D} {S : Sto} {Q : D → Sto → Prop} (I : Nat → List D → Sto → Prop) (h3 : xs.length ≤ SL) (h0 : I 0 [] S)
    (h : ∀ i d acc S, xs[i]? = some d → I i acc S → acc.length ≤ i → W (ga d ρw) S (fun ρ1 S1 => W (gt ρ1) S1 (fun b S2 => if b = true then W (ge ρ1) S2 (fun y S3 => I (i + 1) (acc ++ [y]) S3) else I (i + 1) acc S2)))
    (hq : ∀ ys S', I xs.length ys S' → ys.length ≤ xs.length → W (newL m ys) S' Q) : W (lcS m ga gt ge ρw (.fix xs)) S Q := by
  unfold lcS
  show W (lcF (.fix xs) ga gt ge ρw (xs.length + 1) 0 [] >>= fun acc => newL m acc) S Q
  rw [W_bind]
  exact (W_lcF I h (xs.length + 1) 0 [] S (Nat.zero_le _) (by omega) (Nat.le_refl _) h3 h0).mono fun ys S' z => hq ys S' z.1 z.2
/-- a for, by an invariant -/
theorem W_forF {ga : D → Env → M Env} {body : Env → M Fl} {ρ : Env} {xs : List D} {S : Sto} {Q : Fl → Sto → Prop} (I : Nat → Env → Sto → Prop) (h0 : I 0 ρ S)
    (h : ∀ i d ρ S, xs[i]? = some d → I i ρ S → W (ga d ρ) S (fun ρ1 S1 => W (body ρ1) S1 (fun fl S2 => match fl with | .next ρ2 => I (i + 1) ρ2 S2 | .cont ρ2 => I (i + 1) ρ2 S2 | .brk ρ2 => Q (.next ρ2) S2 | .ret d => Q (.ret d) S2)))
    (hq : ∀ ρ' S', I xs.length ρ' S' → Q (.next ρ') S') : W (forF ga body ρ (.fix xs)) S Q := by
  have key : ∀ (k i : Nat) (ρ : Env) (S : Sto), i ≤ xs.length → xs.length < i + k → I i ρ S → W (loopF (.fix xs) ga body k i ρ) S Q := by
    intro k
    induction k with
    | zero => intro i ρ S h1 h2 _; omega
    | succ k ih =>
      intro i ρ S h1 h2 hI
      by_cases hi : i < xs.length
      · have e : xs[i]? = some xs[i] := List.getElem?_eq_getElem hi
        have st := h i xs[i] ρ S e hI
        have : loopF (.fix xs) ga body (k + 1) i ρ S = (ga xs[i] ρ >>= fun ρ1 => body ρ1 >>= fun fl => match fl with
            | .next ρ2 => loopF (.fix xs) ga body k (i + 1) ρ2
            | .cont ρ2 => loopF (.fix xs) ga body k (i + 1) ρ2
            | .brk ρ2 => pure (.next ρ2)
            | .ret d => pure (.ret d)) S := by
          show (match (some xs[i]? : Option (Option D)) with | none => _ | some none => _ | some (some d) => _) = _
          rw [e]
          all_goals rfl
        rw [W_eq this, W_bind]
        refine st.mono fun ρ1 S1 z1 => ?_
        rw [W_bind]
        refine z1.mono fun fl S2 z2 => ?_
        cases fl with
        | next ρ2 => exact ih (i + 1) ρ2 S2 hi (by omega) z2
        | cont ρ2 => exact ih (i + 1) ρ2 S2 hi (by omega) z2
        | brk ρ2 => exact z2
        | ret d => exact z2
      · have hl : i = xs.length := by omega
        subst hl
        have : loopF (.fix xs) ga body (k + 1) xs.length ρ S = .ok (.next ρ) S := by
          show (match (some xs[xs.length]? : Option (Option D)) with | none => _ | some none => _ | some (some d) => _) = _
          rw [List.getElem?_eq_none (Nat.le_refl _)]
        rw [W_of this]
        exact hq ρ S hI
  exact key (xs.length + 1) 0 ρ S (Nat.zero_le _) (by omega) h0
end MP

/-! MP30: data whose repr can be told: sizes. -/
namespace MP
open PySem L2
def ascS (x : Str) : Bool := x.cps.toList.all fun c => decide (c < 128)
def smallI (B : Nat) (i : Int) : Bool := decide (i.natAbs < B)
def keyOk (B : Nat) : Key → Bool
  | .inl i => smallI B i
  | .inr x => ascS x
def wtKey : Key → Nat
  | .inl _ => 60
  | .inr x => 10 * x.length + 60
mutual
/-- how long the repr may be -/
def wtD : D → Nat
  | .non => 60
  | .bl _ => 60
  | .int _ => 60
  | .str x => 10 * x.length + 60
  | .tup xs => wtL xs + 60
  | .lst xs => wtL xs + 60
  | .frz _ => 0
  | .dic kvs => wtK kvs + 60
  | .ref _ => 0
def wtL : List D → Nat
  | [] => 0
  | x :: xs => wtD x + 2 + wtL xs
def wtK : List (Key × D) → Nat
  | [] => 0
  | (k, x) :: xs => wtKey k + wtD x + 4 + wtK xs
end
mutual
def okD (B : Nat) : D → Bool
  | .non => true
  | .bl _ => true
  | .int i => smallI B i
  | .str x => ascS x
  | .tup xs => okL B xs
  | .lst xs => okL B xs
  | .frz _ => false
  | .dic kvs => okK B kvs
  | .ref _ => false
def okL (B : Nat) : List D → Bool
  | [] => true
  | x :: xs => okD B x && okL B xs
def okK (B : Nat) : List (Key × D) → Bool
  | [] => true
  | (k, x) :: xs => keyOk B k && okD B x && okK B xs
end
mutual
def depD : D → Nat
  | .tup xs => depL xs + 1
  | .lst xs => depL xs + 1
  | .dic kvs => depK kvs + 1
  | _ => 0
def depL : List D → Nat
  | [] => 0
  | x :: xs => max (depD x) (depL xs)
def depK : List (Key × D) → Nat
  | [] => 0
  | (_, x) :: xs => max (depD x) (depK xs)
end
theorem smallI_log {B : Nat} (hB : B ≤ 10 ^ 50) {i : Int} (h : smallI B i = true) : i.natAbs.log2 < 1920 := by
  have h : i.natAbs < 10 ^ 50 := Nat.lt_of_lt_of_le (of_decide_eq_true h) hB
  by_cases h0 : i.natAbs = 0
  · rw [h0]; decide +kernel
  · have : i.natAbs < 2 ^ 1920 := Nat.lt_trans h (by decide +kernel)
    exact (Nat.log2_lt h0).mpr this
theorem smallI_len {B : Nat} (hB : B ≤ 10 ^ 50) {i : Int} (h : smallI B i = true) : (Str.ofString (toString i)).length ≤ 60 := by
  have h : i.natAbs < 10 ^ 50 := Nat.lt_of_lt_of_le (of_decide_eq_true h) hB
  have := int_text_length_le10 (k := 50) (by decide) h
  have e : (Str.ofString (toString i)).length = (toString i).length := ofString_length _
  omega
theorem ascS_len {x : Str} (h : ascS x = true) : (reprText x).length ≤ 10 * x.length + 2 := by
  refine StrLaws.reprText_len x fun c hc => ?_
  have := of_decide_eq_true (List.all_eq_true.mp h c hc)
  have h2 : (128 : Nat) < 16 ^ 8 := by decide
  omega
theorem piled_ge (ts : List Str) : (listText ts).length ≤ piled ts + 2 := by
  unfold listText
  rw [strLen_append]
  have e1 : ((("[" : String) : Str)).length = 1 := rfl
  have e2 : ((("]" : String) : Str)).length = 1 := rfl
  rw [e2]
  cases ts with
  | nil => show (("[" : String) : Str).length + 1 ≤ _; rw [e1]; omega
  | cons t r =>
    have := textFrom_length_pos r 1 ((("[" : String) : Str) ++ (if 0 > 0 then ", " else "" : String) ++ t) (by omega)
    show (textFrom 1 ((("[" : String) : Str) ++ (if 0 > 0 then ", " else "" : String) ++ t) r).length + 1 ≤ _
    rw [this, piled_cons, strLen_append, strLen_append, e1]
    have e3 : (((if 0 > 0 then ", " else "" : String) : Str)).length = 0 := rfl
    rw [e3]
    omega
theorem piled_ge_tup (ts : List Str) : (tupleText ts).length ≤ piled ts + 3 := by
  unfold tupleText
  rw [strLen_append, strLen_append]
  have e1 : ((("(" : String) : Str)).length = 1 := rfl
  have e3 : (((if ts.length == 1 then ",)" else ")" : String) : Str)).length ≤ 2 := by split <;> decide
  rw [e1]
  by_cases h : ts = []
  · subst h
    have : (Str.join ", " []).length = 0 := rfl
    rw [this]
    omega
  · have := join_length_add ts h
    omega
theorem piled_ge_dict (ts : List Str) : (dictText ts).length ≤ piled ts + 2 := by
  unfold dictText
  rw [strLen_append, strLen_append]
  have e1 : ((("{" : String) : Str)).length = 1 := rfl
  have e3 : ((("}" : String) : Str)).length = 1 := rfl
  rw [e1, e3]
  by_cases h : ts = []
  · subst h
    have : (Str.join ", " []).length = 0 := rfl
    rw [this]
    omega
  · have := join_length_add ts h
    omega
theorem key_deep {B : Nat} (hB : B ≤ 10 ^ 50) (k : Key) (h : keyOk B k = true) : (keyP k).showable = true ∧ (keyP k).depth = 0 ∧ (keyP k).shown.length ≤ wtKey k := by
  cases k with
  | inl i =>
    refine ⟨?_, rfl, smallI_len hB h⟩
    show decide (i.natAbs.log2 < 1920) = true
    exact decide_eq_true (smallI_log hB h)
  | inr x =>
    refine ⟨rfl, rfl, ?_⟩
    show (reprText x).length ≤ 10 * x.length + 60
    have := ascS_len (x := x) h
    omega
mutual
theorem okD_deep {B : Nat} (hB : B ≤ 10 ^ 50) : ∀ (d : D), okD B d = true → ∃ p, deep d = some p ∧ p.showable = true ∧ p.depth = depD d ∧ p.shown.length ≤ wtD d
  | .non, _ => ⟨.none, rfl, rfl, rfl, by decide +kernel⟩
  | .bl b, _ => ⟨.bool b, rfl, rfl, rfl, by cases b <;> decide +kernel⟩
  | .int i, h => ⟨.int i, rfl, decide_eq_true (smallI_log hB h), rfl, smallI_len hB h⟩
  | .str x, h => ⟨.str x, rfl, rfl, rfl, by
    show (reprText x).length ≤ 10 * x.length + 60
    have := ascS_len (x := x) h
    omega⟩
  | .tup xs, h => by
    obtain ⟨ps, e, h1, h2, h3⟩ := okL_deep hB xs h
    refine ⟨.tuple ps, ?_, h1, by show PyData.depthAll ps + 1 = _; rw [h2]; rfl, ?_⟩
    · show (deeps xs).map PyData.tuple = _; rw [e]; rfl
    · show (tupleText (PyData.shownAll ps)).length ≤ wtL xs + 60
      have := piled_ge_tup (PyData.shownAll ps)
      omega
  | .lst xs, h => by
    obtain ⟨ps, e, h1, h2, h3⟩ := okL_deep hB xs h
    refine ⟨.list ps, ?_, h1, by show PyData.depthAll ps + 1 = _; rw [h2]; rfl, ?_⟩
    · show (deeps xs).map PyData.list = _; rw [e]; rfl
    · show (listText (PyData.shownAll ps)).length ≤ wtL xs + 60
      have := piled_ge (PyData.shownAll ps)
      omega
  | .frz _, h => (Bool.false_ne_true h).elim
  | .dic kvs, h => by
    obtain ⟨ps, e, h1, h2, h3⟩ := okK_deep hB kvs h
    refine ⟨.dict ps, ?_, h1, by show PyData.depthKv ps + 1 = _; rw [h2]; rfl, ?_⟩
    · show (deepk kvs).map PyData.dict = _; rw [e]; rfl
    · show (dictText (PyData.shownKv ps)).length ≤ wtK kvs + 60
      have := piled_ge_dict (PyData.shownKv ps)
      omega
  | .ref _, h => (Bool.false_ne_true h).elim
theorem okL_deep {B : Nat} (hB : B ≤ 10 ^ 50) : ∀ (xs : List D), okL B xs = true → ∃ ps, deeps xs = some ps ∧ PyData.showableAll ps = true ∧ PyData.depthAll ps = depL xs ∧ piled (PyData.shownAll ps) ≤ wtL xs
  | [], _ => ⟨[], rfl, rfl, rfl, Nat.le_refl _⟩
  | x :: xs, h => by
    have h : (okD B x && okL B xs) = true := h
    rw [Bool.and_eq_true] at h
    obtain ⟨p, e, h1, h2, h3⟩ := okD_deep hB x h.1
    obtain ⟨ps, e', h1', h2', h3'⟩ := okL_deep hB xs h.2
    refine ⟨p :: ps, ?_, ?_, ?_, ?_⟩
    · show (match deep x, deeps xs with | some a, some b => some (a :: b) | _, _ => none) = _; rw [e, e']
    · show (p.showable && PyData.showableAll ps) = true; rw [h1, h1']; rfl
    · show max p.depth (PyData.depthAll ps) = max (depD x) (depL xs); rw [h2, h2']
    · show piled (p.shown :: PyData.shownAll ps) ≤ wtD x + 2 + wtL xs
      rw [piled_cons]
      omega
theorem okK_deep {B : Nat} (hB : B ≤ 10 ^ 50) : ∀ (xs : List (Key × D)), okK B xs = true → ∃ ps, deepk xs = some ps ∧ PyData.showableKv ps = true ∧ PyData.depthKv ps = depK xs ∧ piled (PyData.shownKv ps) ≤ wtK xs
  | [], _ => ⟨[], rfl, rfl, rfl, Nat.le_refl _⟩
  | (k, x) :: xs, h => by
    have h : (keyOk B k && okD B x && okK B xs) = true := h
    rw [Bool.and_eq_true, Bool.and_eq_true] at h
    obtain ⟨p, e, h1, h2, h3⟩ := okD_deep hB x h.1.2
    obtain ⟨ps, e', h1', h2', h3'⟩ := okK_deep hB xs h.2
    obtain ⟨g1, g2, g3⟩ := key_deep hB k h.1.1
    refine ⟨(keyP k, p) :: ps, ?_, ?_, ?_, ?_⟩
    · show (match deep x, deepk xs with | some a, some b => some ((keyP k, a) :: b) | _, _ => none) = _; rw [e, e']
    · show ((keyP k).showable && p.showable && PyData.showableKv ps) = true; rw [h1, h1', g1]; rfl
    · show max (max (keyP k).depth p.depth) (PyData.depthKv ps) = max (depD x) (depK xs); rw [h2, h2', g2, Nat.zero_max]
    · show piled (((keyP k).shown ++ ": " ++ p.shown) :: PyData.shownKv ps) ≤ wtKey k + wtD x + 4 + wtK xs
      rw [piled_cons, strLen_append, strLen_append]
      have : (((": " : String) : Str)).length = 2 := rfl
      omega
end
theorem reprD_ok {B : Nat} (hB : B ≤ 10 ^ 50) {d : D} (h : okD B d = true) (h1 : depD d ≤ 150) (h2 : wtD d ≤ SL) : ∃ x, ∀ S, reprD d S = .ok (.str x) S := by
  obtain ⟨p, e, g1, g2, g3⟩ := okD_deep hB d h
  refine ⟨p.shown, fun S => ?_⟩
  unfold reprD
  rw [e]
  show (if p.showable = true ∧ p.depth ≤ 150 ∧ p.shown.length ≤ SL then pure (D.str p.shown) else M.fail : M D) S = _
  rw [if_pos ⟨g1, by omega, by omega⟩]
  rfl
/-! ### lists -/
theorem okL_all {B : Nat} : ∀ {xs : List D}, okL B xs = true ↔ ∀ x ∈ xs, okD B x = true
  | [] => ⟨fun _ _ h => (List.not_mem_nil h).elim, fun _ => rfl⟩
  | x :: xs => by
    show (okD B x && okL B xs) = true ↔ _
    rw [Bool.and_eq_true, okL_all (xs := xs)]
    simp
theorem okL_append {B : Nat} {xs ys : List D} : okL B (xs ++ ys) = (okL B xs && okL B ys) := by
  induction xs with
  | nil => rfl
  | cons x xs ih =>
    show (okD B x && okL B (xs ++ ys)) = (okD B x && okL B xs && okL B ys)
    rw [ih, Bool.and_assoc]
theorem wtL_append : ∀ (xs ys : List D), wtL (xs ++ ys) = wtL xs + wtL ys
  | [], ys => by show wtL ys = 0 + _; omega
  | x :: xs, ys => by
    show wtD x + 2 + wtL (xs ++ ys) = wtD x + 2 + wtL xs + wtL ys
    rw [wtL_append xs ys]
    omega
theorem depL_append : ∀ (xs ys : List D), depL (xs ++ ys) = max (depL xs) (depL ys)
  | [], ys => by show depL ys = max 0 _; omega
  | x :: xs, ys => by
    show max (depD x) (depL (xs ++ ys)) = max (max (depD x) (depL xs)) (depL ys)
    rw [depL_append xs ys]
    omega
theorem wtL_mem : ∀ {xs : List D} {d : D}, d ∈ xs → wtD d ≤ wtL xs
  | x :: xs, d, h => by
    show _ ≤ wtD x + 2 + wtL xs
    rcases List.mem_cons.mp h with rfl | h
    · omega
    · have := wtL_mem h; omega
theorem depL_le {n : Nat} : ∀ {xs : List D}, depL xs ≤ n ↔ ∀ x ∈ xs, depD x ≤ n
  | [] => ⟨fun _ _ h => (List.not_mem_nil h).elim, fun _ => Nat.zero_le _⟩
  | x :: xs => by
    show max (depD x) (depL xs) ≤ n ↔ _
    rw [Nat.max_le, depL_le (xs := xs)]
    simp
theorem wtL_len : ∀ (xs : List D), 2 * xs.length ≤ wtL xs
  | [] => Nat.le_refl _
  | x :: xs => by
    show 2 * (xs.length + 1) ≤ wtD x + 2 + wtL xs
    have := wtL_len xs
    omega
mutual
theorem okD_mono {B B' : Nat} (hB : B ≤ B') : ∀ (d : D), okD B d = true → okD B' d = true
  | .non, _ => rfl
  | .bl _, _ => rfl
  | .int i, h => decide_eq_true (Nat.lt_of_lt_of_le (of_decide_eq_true h) hB)
  | .str x, h => h
  | .tup xs, h => okL_mono hB xs h
  | .lst xs, h => okL_mono hB xs h
  | .frz _, h => (Bool.false_ne_true h).elim
  | .dic kvs, h => okK_mono hB kvs h
  | .ref _, h => (Bool.false_ne_true h).elim
theorem okL_mono {B B' : Nat} (hB : B ≤ B') : ∀ (xs : List D), okL B xs = true → okL B' xs = true
  | [], _ => rfl
  | x :: xs, h => by
    have h : (okD B x && okL B xs) = true := h
    rw [Bool.and_eq_true] at h
    show (okD B' x && okL B' xs) = true
    rw [okD_mono hB x h.1, okL_mono hB xs h.2]
    rfl
theorem okK_mono {B B' : Nat} (hB : B ≤ B') : ∀ (xs : List (Key × D)), okK B xs = true → okK B' xs = true
  | [], _ => rfl
  | (k, x) :: xs, h => by
    have h : (keyOk B k && okD B x && okK B xs) = true := h
    rw [Bool.and_eq_true, Bool.and_eq_true] at h
    show (keyOk B' k && okD B' x && okK B' xs) = true
    have hk : keyOk B' k = true := by
      cases k with
      | inl i => exact decide_eq_true (Nat.lt_of_lt_of_le (of_decide_eq_true h.1.1) hB)
      | inr x => exact h.1.1
    rw [okD_mono hB x h.1.2, okK_mono hB xs h.2, hk]
    rfl
end
end MP

/-! PL1: names, figures, far names: what the package's looks tell. -/
namespace PL
open MP PySem L2
def lowB (c : Nat) : Bool := decide (97 ≤ c) && decide (c ≤ 122)
def nameS (x : Str) : Bool := decide (1 ≤ x.length) && decide (x.length ≤ 8) && x.cps.toList.all lowB
def nameB : D → Bool
  | .str x => nameS x
  | _ => false
/-- a text that may be looked at -/
def fitD : D → Prop
  | .str x => x.length ≤ SL
  | _ => True
theorem letters_mem (c : Nat) : decide (c ∈ (Str.ofString "abcdefghijklmnopqrstuvwxyz").cps.toList) = lowB c := by
  have e : (Str.ofString "abcdefghijklmnopqrstuvwxyz").cps.toList = [97, 98, 99, 100, 101, 102, 103, 104, 105, 106, 107, 108, 109, 110, 111, 112, 113, 114, 115, 116, 117, 118, 119, 120, 121, 122] := by decide +kernel
  rw [e]
  unfold lowB
  rw [← Bool.decide_and]
  apply decide_eq_decide.mpr
  simp only [List.mem_cons, List.not_mem_nil, or_false]
  omega
def figB (c : Nat) : Bool := decide (48 ≤ c) && decide (c ≤ 57)
theorem figures_mem (c : Nat) : decide (c ∈ (Str.ofString "0123456789").cps.toList) = figB c := by
  have e : (Str.ofString "0123456789").cps.toList = [48, 49, 50, 51, 52, 53, 54, 55, 56, 57] := by decide +kernel
  rw [e]
  unfold figB
  rw [← Bool.decide_and]
  apply decide_eq_decide.mpr
  simp only [List.mem_cons, List.not_mem_nil, or_false]
  omega
/-- the i-th sign's test, over a text's signs -/
def ofSign (p : Nat → Bool) : D → Bool
  | .str x => match x.cps.toList with
    | [c] => p c
    | _ => false
  | _ => false
theorem signs_mem {x : Str} {d : D} (h : d ∈ signsL x) : ∃ c, c ∈ x.cps.toList ∧ d = .str ⟨#[c]⟩ := by
  unfold signsL at h
  obtain ⟨c, hc, rfl⟩ := List.mem_map.mp h
  exact ⟨c, hc, rfl⟩
theorem signs_map (p : Nat → Bool) (x : Str) : ((signsL x).map fun d => D.bl (ofSign p d)) = (x.cps.toList.map p).map D.bl := by
  unfold signsL
  rw [List.map_map, List.map_map]
  rfl
theorem signs_len (x : Str) : (signsL x).length = x.length := by
  unfold signsL
  rw [List.length_map, Array.length_toList]
  rfl
def figS (x : Str) : Bool := decide (1 ≤ x.length) && decide (x.length ≤ 40) && x.cps.toList.all figB && (decide (x = "0") || !(x.cps.toList.head? == some 48))
theorem sign0 (c : Nat) : (some c == some 48) = decide ((⟨#[c]⟩ : Str) = "0") := by
  have e : ("0" : Str) = ⟨#[48]⟩ := by decide +kernel
  rw [e]
  by_cases h : c = 48
  · subst h; rfl
  · have h2 : ¬ (⟨#[c]⟩ : Str) = ⟨#[48]⟩ := fun z => h (by injection z with z; simpa using z)
    rw [decide_eq_false h2]
    simp [h]
def isNameB (g2 g0 : Nat) : Sxs :=
    (.cons (.ite (.or (.cons (.not (.val (.isi .str (.var 0)))) (.cons (.not (.chn .le .le (.int 1) (.fn .len false (.cons (.var 0) .nil)) (.glb g2 (.int 8)))) .nil))) (.cons (.ret (.bl false))
    .nil) .nil)
    (.cons (.ret (.fn .all false (.cons (.lc false (.nm 1) (.seq (.var 0)) .nil (.cmp .inn (.var 1) (.glb g0 (.str "abcdefghijklmnopqrstuvwxyz"))) [1]) .nil)))
    .nil))
def areFiguresB (g3 g1 : Nat) : Sxs :=
    (.cons (.ite (.or (.cons (.not (.chn .le .le (.int 1) (.fn .len false (.cons (.var 0) .nil)) (.glb g3 (.int 40)))) (.cons (.not (.val (.fn .all false (.cons (.lc false (.nm 1) (.seq (.var 0)) .nil (.cmp .inn (.var 1) (.glb g1 (.str "0123456789"))) [1]) .nil)))) .nil))) (.cons (.ret (.bl false))
    .nil) .nil)
    (.cons (.ret (.or (.cmp .eq (.var 0) (.str "0")) (.one (.cmp .ne (.ix (.var 0) (.int 0)) (.str "0")))))
    .nil))
def isFarB (kn kf : Nat) : Sxs :=
    (.cons (.ite (.not (.val (.isi .str (.var 0)))) (.cons (.ret (.bl false))
    .nil) .nil)
    (.cons (.set 1 (.me .split false (.var 0) (.cons (.str ".") .nil)))
    (.cons (.ite (.or (.cons (.cmp .ne (.fn .len false (.cons (.var 1) .nil)) (.int 3)) (.cons (.not (.val (.call kn (.cons (.ix (.var 1) (.int 0)) .nil)))) (.cons (.not (.val (.call kn (.cons (.ix (.var 1) (.int 2)) .nil)))) .nil)))) (.cons (.ret (.bl false))
    .nil) .nil)
    (.cons (.ret (.and (.call kf (.cons (.ix (.var 1) (.int 1)) .nil)) (.one (.cmp .ne (.ix (.var 1) (.int 1)) (.str "0")))))
    .nil))))
theorem is_name_b {φ : Nat → List D → M D} {g2 g0 : Nat} (d : D) (S : Sto) (h : fitD d) (hr : ∀ n, d ≠ .ref n) : bodyD 2 (evSs φ (isNameB g2 g0)) [d] S = .ok (.bl (nameB d)) S := by
  cases d with
  | str x =>
    have hx : x.length ≤ SL := h
    have lc : lcS false (Tg.nm 1).ev (evA (φ) .nil) (evE (φ) (Ex.cmp Cop.inn (Ex.var 1) (Ex.glb g0 (D.str (Str.ofString "abcdefghijklmnopqrstuvwxyz"))))) (wipeE [some (D.str x), none] [1]) (.fix (signsL x)) S = .ok (.lst ((x.cps.toList.map lowB).map D.bl)) S := by
      rw [lcS_pure (t := fun _ => true) (e := fun d => D.bl (ofSign lowB d)) (fun d hd => ?_) (by rw [signs_len]; exact hx)]
      · rw [List.filter_eq_self.mpr (fun _ _ => rfl), signs_map]
      · obtain ⟨c, hc, rfl⟩ := signs_mem hd
        refine ⟨_, rfl, rfl, fun _ => ?_⟩
        show R.ok (D.bl (decide (c ∈ (Str.ofString "abcdefghijklmnopqrstuvwxyz").cps.toList))) S = .ok (D.bl (lowB c)) S
        rw [letters_mem]
    by_cases h1 : 1 ≤ x.length
    · by_cases h2 : x.length ≤ 8
      · have h1' : (1 : Int) ≤ (x.length : Int) := by omega
        have h2' : (x.length : Int) ≤ 8 := by omega
        simp [bodyD, isNameB, startD, lenD_str hx, isiD, h1', h2', lc, allD_bools, nameB, nameS, h1, h2]
      · have h1' : (1 : Int) ≤ (x.length : Int) := by omega
        have h2' : ¬ (x.length : Int) ≤ 8 := by omega
        simp [bodyD, isNameB, startD, lenD_str hx, isiD, h1', h2', nameB, nameS, h1, h2]
    · have h1' : ¬ (1 : Int) ≤ (x.length : Int) := by omega
      simp [bodyD, isNameB, startD, lenD_str hx, isiD, h1', nameB, nameS, h1]
  | ref n => exact absurd rfl (hr n)
  | _ => rfl
theorem are_figures_b {φ : Nat → List D → M D} {g3 g1 : Nat} (x : Str) (S : Sto) (hx : x.length ≤ SL) : bodyD 2 (evSs φ (areFiguresB g3 g1)) [.str x] S = .ok (.bl (figS x)) S := by
  have lc : lcS false (Tg.nm 1).ev (evA (φ) .nil) (evE (φ) (Ex.cmp Cop.inn (Ex.var 1) (Ex.glb g1 (D.str (Str.ofString "0123456789"))))) (wipeE [some (D.str x), none] [1]) (.fix (signsL x)) S = .ok (.lst ((x.cps.toList.map figB).map D.bl)) S := by
    rw [lcS_pure (t := fun _ => true) (e := fun d => D.bl (ofSign figB d)) (fun d hd => ?_) (by rw [signs_len]; exact hx)]
    · rw [List.filter_eq_self.mpr (fun _ _ => rfl), signs_map]
    · obtain ⟨c, hc, rfl⟩ := signs_mem hd
      refine ⟨_, rfl, rfl, fun _ => ?_⟩
      show R.ok (D.bl (decide (c ∈ (Str.ofString "0123456789").cps.toList))) S = .ok (D.bl (figB c)) S
      rw [figures_mem]
  by_cases h1 : 1 ≤ x.length
  · by_cases h2 : x.length ≤ 40
    · have h1' : (1 : Int) ≤ (x.length : Int) := by omega
      have h2' : (x.length : Int) ≤ 40 := by omega
      obtain ⟨c, r, hc⟩ : ∃ c r, x.cps.toList = c :: r := by
        cases q : x.cps.toList with
        | nil =>
          have : x.length = 0 := by
            show x.cps.size = 0
            rw [← Array.length_toList, q]
            rfl
          omega
        | cons c r => exact ⟨c, r, rfl⟩
      have h0 : ixD (.str x) (.int 0) S = .ok (.str ⟨#[c]⟩) S := by
        rw [ixD_str hx, show (0 : Int) = ((0 : Nat) : Int) from rfl, MP.atI_nat, hc]
        rfl
      have hall : allD [.lst ((x.cps.toList.map figB).map D.bl)] S = .ok (.bl (x.cps.toList.all figB)) S := by
        rw [List.map_map]
        exact allD_map figB _ S
      have hh : (x.cps.toList.head? == some 48) = decide ((⟨#[c]⟩ : Str) = "0") := by rw [hc]; exact sign0 c
      unfold figS
      rw [hh]
      generalize x.cps.toList.all figB = A at hall
      have he : eqD (.str x) (.str "0") S = .ok (.bl (decide (x = "0"))) S := rfl
      have hn : neD (.str ⟨#[c]⟩) (.str "0") S = .ok (.bl (!decide ((⟨#[c]⟩ : Str) = "0"))) S := rfl
      generalize decide (x = "0") = B at he
      generalize decide ((⟨#[c]⟩ : Str) = "0") = C at hn
      cases A <;> cases B <;> simp [bodyD, areFiguresB, startD, lenD_str hx, isiD, h1', h2', lc, hall, -List.map_map, h1, h2, h0, he, hn, -eq_str, -ne_str]
    · have h1' : (1 : Int) ≤ (x.length : Int) := by omega
      have h2' : ¬ (x.length : Int) ≤ 40 := by omega
      simp [bodyD, areFiguresB, startD, lenD_str hx, isiD, h1', h2', figS, h1, h2]
  · have h1' : ¬ (1 : Int) ≤ (x.length : Int) := by omega
    simp [bodyD, areFiguresB, startD, lenD_str hx, isiD, h1', figS, h1]
abbrev dot : Str := "."
theorem dot_len : dot.length = 1 := by decide +kernel
theorem kind_dot : Builtin.Str.strKind dot = 1 := by decide +kernel
theorem kind_ge (x : Str) : 1 ≤ Builtin.Str.strKind x := by
  unfold Builtin.Str.strKind
  split
  · exact Nat.le_refl _
  · split <;> decide
def occ (x : Str) : List Nat := Builtin.Str.occurrences x dot 0 x.length (x.length + 1)
theorem count_occ (x : Str) : Txt.count x dot = ((occ x).length : Nat) := rfl
theorem occ_empty {x : Str} (h : x.length < 1) : occ x = [] := by
  obtain ⟨c⟩ := x
  have e : c = #[] := Array.eq_empty_of_size_eq_zero (by
    have : c.size < 1 := h
    omega)
  subst e
  decide +kernel
theorem split_eq (x : Str) : Txt.split x dot = if (occ x).isEmpty = true then [x] else Builtin.Str.partsBetween x (occ x) 1 := by
  unfold Txt.split
  by_cases h : x.length < dot.length
  · rw [decide_eq_true h, Bool.true_or, if_pos rfl, occ_empty (by rw [dot_len] at h; exact h)]
    rfl
  · have k : ¬ Builtin.Str.strKind x < Builtin.Str.strKind dot := by
      have := kind_ge x
      rw [kind_dot]
      omega
    rw [decide_eq_false h, decide_eq_false k, Bool.or_false, if_neg Bool.false_ne_true]
    rfl
theorem split_len (x : Str) : (Txt.split x dot).length = (occ x).length + 1 := by
  rw [split_eq]
  cases q : occ x with
  | nil => rfl
  | cons a r =>
    rw [if_neg (by simp), ← q]
    exact PySem.length_partsBetween x (occ x) 1
theorem sub_len (x : Str) (i j : Nat) : (Builtin.Str.strSub x i j).length ≤ x.length := by
  show (Builtin.Str.strSub x i j).cps.size ≤ x.cps.size
  rw [← Array.length_toList, ← Array.length_toList, StrLaws.strSub_toList, List.length_take, List.length_drop]
  omega
theorem split_word {x w : Str} (h : w ∈ Txt.split x dot) : w.length ≤ x.length := by
  rw [split_eq] at h
  split at h
  · obtain rfl : w = x := by simpa using h
    exact Nat.le_refl _
  · unfold Builtin.Str.partsBetween at h
    obtain ⟨p, _, rfl⟩ := List.mem_map.mp h
    exact sub_len x _ _
/-- far names -/
def farW : List Str → Bool
  | [a, b, c] => nameS a && nameS c && figS b && !decide (b = "0")
  | _ => false
def farB : D → Bool
  | .str x => farW (Txt.split x dot)
  | _ => false
theorem splitD_dot {x : Str} (h : x.length + 2 ≤ SL) (S : Sto) : splitD false (.str x) [.str "."] S = .ok (.lst ((Txt.split x dot).map D.str)) S := by
  show (if (dot.length == 0) = false ∧ x.length + 2 ≤ SL then newL false ((Txt.split x dot).map D.str) S else .bad) = _
  rw [if_pos ⟨by rw [dot_len]; rfl, h⟩]
  rfl
theorem rcS_str (x : Str) (S : Sto) : rcS (.str x) S = .ok () S := rfl
theorem is_far_b {φ : Nat → List D → M D} {kn kf : Nat} (hN : ∀ x S, x.length ≤ SL → φ kn [.str x] S = .ok (.bl (nameS x)) S) (hF : ∀ x S, x.length ≤ SL → φ kf [.str x] S = .ok (.bl (figS x)) S) (d : D) (S : Sto) (h : ∀ x, d = .str x → x.length + 2 ≤ SL) (hr : ∀ n, d ≠ .ref n) : bodyD 2 (evSs φ (isFarB kn kf)) [d] S = .ok (.bl (farB d)) S := by
  cases d with
  | str x =>
    have hx := h x rfl
    have hs := splitD_dot hx S
    have hw := fun w (hw : w ∈ Txt.split x dot) => split_word hw
    show _ = R.ok (D.bl (farW (Txt.split x dot))) S
    generalize Txt.split x dot = ws at hs hw
    have name : ∀ w ∈ ws, φ kn [.str w] S = .ok (.bl (nameS w)) S := fun w hm => hN w S (by have := hw w hm; omega)
    have figs : ∀ w ∈ ws, φ kf [.str w] S = .ok (.bl (figS w)) S := fun w hm => hF w S (by have := hw w hm; omega)
    match ws, hs, hw, name, figs with
    | [], hs, hw, name, figs => simp [bodyD, isFarB, startD, isiD, Me.ev, Me.rc, rcS_str, hs, farW]
    | [a], hs, hw, name, figs => simp [bodyD, isFarB, startD, isiD, Me.ev, Me.rc, rcS_str, hs, farW]
    | [a, b], hs, hw, name, figs => simp [bodyD, isFarB, startD, isiD, Me.ev, Me.rc, rcS_str, hs, farW]
    | [a, b, c], hs, hw, name, figs =>
      have na := name a (by simp)
      have nc := name c (by simp)
      have fb := figs b (by simp)
      have i0 : atI [D.str a, D.str b, D.str c] 0 = some (.str a) := rfl
      have i1 : atI [D.str a, D.str b, D.str c] 1 = some (.str b) := rfl
      have i2 : atI [D.str a, D.str b, D.str c] 2 = some (.str c) := rfl
      have hn : neD (.str b) (.str "0") S = .ok (.bl (!decide (b = "0"))) S := rfl
      show _ = R.ok (D.bl (nameS a && nameS c && figS b && !decide (b = "0"))) S
      generalize nameS a = A at na ⊢
      generalize nameS c = C at nc ⊢
      generalize figS b = B at fb ⊢
      generalize decide (b = "0") = Z at hn ⊢
      cases A <;> cases C <;> cases B <;> simp [bodyD, isFarB, startD, isiD, Me.ev, Me.rc, rcS_str, hs, i0, i1, i2, na, nc, fb, hn, -ne_str]
    | a :: b :: c :: d :: r, hs, hw, name, figs =>
      have hne : ¬ ((r.length : Int) + 1 + 1 + 1 + 1 = 3) := by omega
      simp [bodyD, isFarB, startD, isiD, Me.ev, Me.rc, rcS_str, hs, farW, hne]
  | ref n => exact absurd rfl (hr n)
  | _ => rfl
end PL

/-! PL2: the law's draws: numbers, names, far names. -/
namespace PL
open MP PySem L2
/-! ### the deck: its cells at 0, itself at 1 -/
def Dk (S : Sto) (T : List O) : Prop := ∃ (cs : List Int) (m t : Int), cs.length ≤ 63 ∧ S = .lst (cs.map D.int) :: .lst [.ref 0, .int m, .int t] :: T
theorem draw_fin {φ : Nat → List D → M D} {w m : Int} {T : List O} {Q : D → Sto → Prop} (h0 : 0 < w) (h : ∀ i S', 0 ≤ i → i < w → Dk S' T → Q (.int i) S') (ix2 : ∀ (L : List D) (t : Int), ixD (.ref 1) (.int 2) (.lst L :: .lst [.ref 0, .int m, .int t] :: T) = .ok (.int t) (.lst L :: .lst [.ref 0, .int m, .int t] :: T)) : ∀ (c u : Int) (L : List Int) (S : Sto), L.length ≤ 63 → S = .lst (L.map D.int) :: .lst [.ref 0, .int m, .int u] :: T →
      W (evSs φ (.cons (.set 3 (.bin .mod false (.bin .mul false (.bin .add false (.bin .add false (.bin .mod false (.var 2) (.int 2147483629)) (.bin .mul false (.int 92821) (.ix (.var 0) (.int 2)))) (.int 17)) (.int 48271)) (.int 2147483647)))
    (.cons (.set 3 (.bin .mod false (.bin .add false (.bin .add false (.bin .mul false (.var 3) (.var 3)) (.bin .mul false (.int 69621) (.ix (.var 0) (.int 2)))) (.int 29)) (.int 2147483587)))
    (.cons (.ret (.bin .mod false (.bin .fdiv false (.bin .mod false (.bin .add false (.bin .mul false (.var 3) (.var 3)) (.bin .mul false (.int 40692) (.var 3))) (.int 2147483563)) (.int 64)) (.var 1)))
    .nil))) [some (.ref 1), some (.int w), some (.int c), none]) S (bodyQ Q) := by
    rintro c u L S hL rfl
    have mm : ∀ (x y : Int) (S : Sto) (R : D → Sto → Prop), W (modD (.int x) (.int 2147483647)) S R = R (.int (x % 2147483647)) S := fun x y S R => W_modI (by decide) S R
    simp [W_of (ix2 _ _), W_modI (show (0 : Int) < 2147483647 by decide), W_modI (show (0 : Int) < 2147483629 by decide), W_modI (show (0 : Int) < 2147483587 by decide), W_modI (show (0 : Int) < 2147483563 by decide), W_modI h0, W_fdivI (show (0 : Int) < 64 ∧ (64 : Int) < 1073741824 by decide),
      fun (j : Int) S Q => W_mulI (m := false) (i := 92821) (j := j) (Or.inl (by decide)) S Q, fun (j : Int) S Q => W_mulI (m := false) (i := 69621) (j := j) (Or.inl (by decide)) S Q, fun (j : Int) S Q => W_mulI (m := false) (i := 40692) (j := j) (Or.inl (by decide)) S Q, fun (j : Int) S Q => W_mulI (m := false) (i := j) (j := 48271) (Or.inr (by decide)) S Q]
    generalize hx : ((c % 2147483629 + 92821 * u + 17) * 48271 % 2147483647 : Int) = x
    have hx0 : 0 ≤ x ∧ x < 2147483647 := by omega
    rw [W_mulI (Or.inl (by omega))]
    simp [W_of (ix2 _ _), W_modI (show (0 : Int) < 2147483647 by decide), W_modI (show (0 : Int) < 2147483629 by decide), W_modI (show (0 : Int) < 2147483587 by decide), W_modI (show (0 : Int) < 2147483563 by decide), W_modI h0, W_fdivI (show (0 : Int) < 64 ∧ (64 : Int) < 1073741824 by decide),
      fun (j : Int) S Q => W_mulI (m := false) (i := 92821) (j := j) (Or.inl (by decide)) S Q, fun (j : Int) S Q => W_mulI (m := false) (i := 69621) (j := j) (Or.inl (by decide)) S Q, fun (j : Int) S Q => W_mulI (m := false) (i := 40692) (j := j) (Or.inl (by decide)) S Q, fun (j : Int) S Q => W_mulI (m := false) (i := j) (j := 48271) (Or.inr (by decide)) S Q]
    generalize hy : ((x * x + 69621 * u + 29) % 2147483587 : Int) = y
    have hy0 : 0 ≤ y ∧ y < 2147483587 := by omega
    rw [W_mulI (Or.inl (by omega))]
    simp [W_of (ix2 _ _), W_modI (show (0 : Int) < 2147483647 by decide), W_modI (show (0 : Int) < 2147483629 by decide), W_modI (show (0 : Int) < 2147483587 by decide), W_modI (show (0 : Int) < 2147483563 by decide), W_modI h0, W_fdivI (show (0 : Int) < 64 ∧ (64 : Int) < 1073741824 by decide),
      fun (j : Int) S Q => W_mulI (m := false) (i := 40692) (j := j) (Or.inl (by decide)) S Q]
    exact h _ _ (Int.emod_nonneg _ (by omega)) (Int.emod_lt_of_pos _ h0) ⟨L, m, u, hL, rfl⟩
def drawB : Sxs :=
    (.cons (.put (.var 0) (.int 2) (.bin .add false (.ix (.var 0) (.int 2)) (.int 1)))
    (.cons (.set 2 (.ix (.var 0) (.int 1)))
    (.cons (.ite (.cmp .ne (.ix (.var 0) (.int 0)) (.lst false .nil)) (.cons (.set 2 (.me .pop false (.ix (.var 0) (.int 0)) .nil))
    (.cons (.ite (.cmp .ge (.var 2) (.bin .pow false (.int 10) (.int 18))) (.cons (.exp (.me .append false (.ix (.var 0) (.int 0)) (.cons (.bin .fdiv false (.var 2) (.var 1)) .nil)))
    (.cons (.ret (.bin .mod false (.var 2) (.var 1)))
    .nil)) .nil)
    .nil)) .nil)
    (.cons (.set 3 (.bin .mod false (.bin .mul false (.bin .add false (.bin .add false (.bin .mod false (.var 2) (.int 2147483629)) (.bin .mul false (.int 92821) (.ix (.var 0) (.int 2)))) (.int 17)) (.int 48271)) (.int 2147483647)))
    (.cons (.set 3 (.bin .mod false (.bin .add false (.bin .add false (.bin .mul false (.var 3) (.var 3)) (.bin .mul false (.int 69621) (.ix (.var 0) (.int 2)))) (.int 29)) (.int 2147483587)))
    (.cons (.ret (.bin .mod false (.bin .fdiv false (.bin .mod false (.bin .add false (.bin .mul false (.var 3) (.var 3)) (.bin .mul false (.int 40692) (.var 3))) (.int 2147483563)) (.int 64)) (.var 1)))
    .nil))))))
/-- a draw, of so many ways -/
def DrawOk (φ : Nat → List D → M D) (k : Nat) : Prop := ∀ {w : Int} {S : Sto} {T : List O} {Q : D → Sto → Prop}, Dk S T → 0 < w → w < 1073741824 → (∀ i S', 0 ≤ i → i < w → Dk S' T → Q (.int i) S') → W (φ k [.ref 1, .int w]) S Q
theorem draw_b {φ : Nat → List D → M D} {w : Int} {S : Sto} {T : List O} {Q : D → Sto → Prop} (hd : Dk S T) (h0 : 0 < w) (h1 : w < 1073741824) (h : ∀ i S', 0 ≤ i → i < w → Dk S' T → Q (.int i) S') : W (bodyD 4 (evSs φ drawB) [.ref 1, .int w]) S Q := by
  obtain ⟨cs, m, t, hl, rfl⟩ := hd
  rw [W_body]
  unfold drawB
  have rc0 : ∀ (L : List D) (t : Int), rcL (.ref 0) (.lst L :: .lst [.ref 0, .int m, .int t] :: T) = .ok () (.lst L :: .lst [.ref 0, .int m, .int t] :: T) := fun _ _ => rfl
  have ix2 : ∀ (L : List D) (t : Int), ixD (.ref 1) (.int 2) (.lst L :: .lst [.ref 0, .int m, .int t] :: T) = .ok (.int t) (.lst L :: .lst [.ref 0, .int m, .int t] :: T) := fun _ _ => rfl
  have ix1 : ∀ (L : List D) (t : Int), ixD (.ref 1) (.int 1) (.lst L :: .lst [.ref 0, .int m, .int t] :: T) = .ok (.int m) (.lst L :: .lst [.ref 0, .int m, .int t] :: T) := fun _ _ => rfl
  have ix0 : ∀ (L : List D) (t : Int), ixD (.ref 1) (.int 0) (.lst L :: .lst [.ref 0, .int m, .int t] :: T) = .ok (.ref 0) (.lst L :: .lst [.ref 0, .int m, .int t] :: T) := fun _ _ => rfl
  have st : ∀ (L : List D) (t u : Int), setD (.ref 1) (.int 2) (.int u) (.lst L :: .lst [.ref 0, .int m, .int t] :: T) = .ok () (.lst L :: .lst [.ref 0, .int m, .int u] :: T) := fun _ _ _ => rfl
  have p18 : ∀ S, powD (.int 10) (.int 18) S = .ok (.int 1000000000000000000) S := fun S => rfl
  simp [startD, W_of (ix2 _ _), W_of (ix1 _ _), W_of (st _ _ _), W_of (ix0 _ _)]
  by_cases hc : cs = []
  · have hn : neD (.ref 0) (.lst []) (.lst (cs.map D.int) :: .lst [.ref 0, .int m, .int (t + 1)] :: T) = .ok (.bl false) (.lst (cs.map D.int) :: .lst [.ref 0, .int m, .int (t + 1)] :: T) := by
      rw [hc]
      rfl
    rw [W_of hn]
    simpa using draw_fin (φ := φ) h0 h ix2 m (t + 1) cs _ hl rfl
  · obtain ⟨cs', c, rfl⟩ : ∃ cs' c, cs = cs' ++ [c] := ⟨cs.dropLast, cs.getLast hc, (List.dropLast_concat_getLast hc).symm⟩
    have hl' : cs'.length + 1 ≤ 63 := by simpa using hl
    rw [List.map_append, List.map_singleton]
    have hn : neD (.ref 0) (.lst []) (.lst (cs'.map D.int ++ [.int c]) :: .lst [.ref 0, .int m, .int (t + 1)] :: T) = .ok (.bl true) (.lst (cs'.map D.int ++ [.int c]) :: .lst [.ref 0, .int m, .int (t + 1)] :: T) := by
      cases cs' <;> rfl
    have hp : popD (.ref 0) [] (.lst (cs'.map D.int ++ [.int c]) :: .lst [.ref 0, .int m, .int (t + 1)] :: T) = .ok (.int c) (.lst (cs'.map D.int) :: .lst [.ref 0, .int m, .int (t + 1)] :: T) := by
      show (match (cs'.map D.int ++ [D.int c])[(cs'.map D.int ++ [D.int c]).length - 1]? with | some e => R.ok e (.lst (cs'.map D.int ++ [D.int c]).dropLast :: .lst [.ref 0, .int m, .int (t + 1)] :: T) | none => .bad) = _
      have e1 : (cs'.map D.int ++ [D.int c])[(cs'.map D.int ++ [D.int c]).length - 1]? = some (.int c) := by simp
      have e2 : (cs'.map D.int ++ [D.int c]).dropLast = cs'.map D.int := by simp
      rw [e1, e2]
    have ha : appendD (.ref 0) [.int (c / w)] (.lst (cs'.map D.int) :: .lst [.ref 0, .int m, .int (t + 1)] :: T) = .ok .non (.lst ((cs' ++ [c / w]).map D.int) :: .lst [.ref 0, .int m, .int (t + 1)] :: T) := by
      show (if (cs'.map D.int).length < SL then R.ok D.non (.lst (cs'.map D.int ++ [D.int (c / w)]) :: .lst [.ref 0, .int m, .int (t + 1)] :: T) else .bad) = _
      rw [if_pos (by rw [List.length_map]; show _ < 16777216; omega), List.map_append]
      rfl
    rw [W_of hn]
    simp [W_of (ix0 _ _), W_of (rc0 _ _), Me.ev, W_of (p18 _)]
    rw [W_of hp]
    by_cases hg : (1000000000000000000 : Int) ≤ c
    · simp [hg]
      rw [W_of (ix0 _ _), W_of (rc0 _ _), W_fdivI ⟨h0, h1⟩, W_of ha, W_modI h0]
      exact h _ _ (Int.emod_nonneg _ (by omega)) (Int.emod_lt_of_pos _ h0) ⟨cs' ++ [c / w], m, t + 1, by simpa using hl', rfl⟩
    · simp [hg]
      simpa using draw_fin (φ := φ) h0 h ix2 c (t + 1) cs' _ (by omega) rfl
theorem W_rng {j : Int} (h : -(2 ^ 62) ≤ j ∧ j < 2 ^ 62) (S : Sto) (Q) : W (rngSrc [.int j]) S Q = Q (.fix (rangeL 0 j.toNat)) S := by
  refine W_of ?_ Q
  show (if -(2 ^ 62) ≤ j ∧ j < 2 ^ 62 then R.ok (Src.fix (rangeL 0 j.toNat)) S else .bad) = _
  rw [if_pos h]
theorem range_at {n i : Nat} {d : D} (h : (rangeL 0 n)[i]? = some d) : i < n ∧ d = .int (i : Int) := by
  unfold rangeL at h
  rw [List.getElem?_map] at h
  by_cases hi : i < n
  · rw [List.getElem?_range hi] at h
    refine ⟨hi, ?_⟩
    have h : some (D.int (0 + (i : Int))) = some d := h
    rw [Int.zero_add] at h
    exact (Option.some.inj h).symm
  · rw [List.getElem?_eq_none (by simpa using hi)] at h
    cases h
theorem range_len (n : Nat) : (rangeL 0 n).length = n := by simp [rangeL]
/-- signs -/
def sg (c : Nat) : Str := ⟨#[c]⟩
theorem join_sg (cs : List Nat) : Txt.join "" (cs.map sg) = SX.S cs := by
  have e : ("" : Str) = SX.S [] := by decide +kernel
  have e2 : cs.map sg = (cs.map fun c => [c]).map SX.S := by
    rw [List.map_map]
    rfl
  rw [e, e2, SX.join_S]
  congr 1
  induction cs with
  | nil => rfl
  | cons c r ih =>
    cases r with
    | nil => rfl
    | cons d r =>
      show [c] ++ ([] ++ TL.joinL [] (((d :: r).map fun c => [c]))) = _
      rw [ih (by rw [List.map_map]; rfl)]
      rfl
theorem strs_of : ∀ (xs : List Str), strs? (xs.map D.str) = some xs
  | [] => rfl
  | x :: xs => by
    have := strs_of xs
    simp [strs?, this]
theorem low_mem {i : Int} (h0 : 0 ≤ i) (h1 : i < 26) : ∃ c, lowB c = true ∧ ∀ S, ixD (.str "abcdefghijklmnopqrstuvwxyz") (.int i) S = .ok (.str (sg c)) S := by
  obtain ⟨k, rfl⟩ := Int.eq_ofNat_of_zero_le h0
  have hl : (Str.ofString "abcdefghijklmnopqrstuvwxyz").length ≤ SL := by decide +kernel
  have e : (Str.ofString "abcdefghijklmnopqrstuvwxyz").cps.toList = [97, 98, 99, 100, 101, 102, 103, 104, 105, 106, 107, 108, 109, 110, 111, 112, 113, 114, 115, 116, 117, 118, 119, 120, 121, 122] := by decide +kernel
  have hk : k < 26 := by omega
  have : ∀ k, k < 26 → ∃ c, lowB c = true ∧ ([97, 98, 99, 100, 101, 102, 103, 104, 105, 106, 107, 108, 109, 110, 111, 112, 113, 114, 115, 116, 117, 118, 119, 120, 121, 122] : List Nat)[k]? = some c := by
    intro k hk
    refine ⟨97 + k, ?_, ?_⟩
    · unfold lowB
      simp
      omega
    · revert k
      decide
  obtain ⟨c, hc, hh⟩ := this k hk
  refine ⟨c, hc, fun S => ?_⟩
  rw [ixD_str hl, MP.atI_nat, e, hh]
  rfl
theorem name_of {cs : List Nat} (h : cs.all lowB = true) (h1 : 1 ≤ cs.length) (h2 : cs.length ≤ 8) : nameS (SX.S cs) = true := by
  unfold nameS
  rw [SX.S_len, h]
  simp [h1, h2]
def nameGenB (kd : Nat) : Sxs :=
    (.cons (.set 1 (.str "abcdefghijklmnopqrstuvwxyz"))
    (.cons (.set 2 (.ix (.lst false (.cons (.int 1) (.cons (.int 8) (.cons (.bin .add false (.int 1) (.call kd (.cons (.var 0) (.cons (.int 8) .nil)))) (.cons (.int 2) .nil))))) (.call kd (.cons (.var 0) (.cons (.int 4) .nil)))))
    (.cons (.set 3 (.call kd (.cons (.var 0) (.cons (.int 26) .nil))))
    (.cons (.set 4 (.call kd (.cons (.var 0) (.cons (.int 3) .nil))))
    (.cons (.ret (.me .join false (.str "") (.cons (.lc false (.nm 5) (.rng (.cons (.var 2) .nil)) .nil (.ix (.var 1) (.bin .mod false (.bin .add false (.var 3) (.bin .mul false (.var 4) (.var 5))) (.int 26))) [5]) .nil)))
    .nil)))))
def NameOk (φ : Nat → List D → M D) (k : Nat) : Prop := ∀ {S : Sto} {T : List O} {Q : D → Sto → Prop}, Dk S T → (∀ x S', nameS x = true → Dk S' T → Q (.str x) S') → W (φ k [.ref 1]) S Q
theorem name_b {φ : Nat → List D → M D} {kd : Nat} (draw_W : DrawOk φ kd) {S : Sto} {T : List O} {Q : D → Sto → Prop} (hd : Dk S T) (h : ∀ x S', nameS x = true → Dk S' T → Q (.str x) S') : W (bodyD 6 (evSs φ (nameGenB kd)) [.ref 1]) S Q := by
  rw [W_body]
  unfold nameGenB
  simp [startD]
  refine draw_W hd (by decide) (by decide) fun i1 S1 a1 b1 d1 => ?_
  simp
  refine draw_W d1 (by decide) (by decide) fun i2 S2 a2 b2 d2 => ?_
  refine W_ixL_all a2 b2 ?_
  intro x hx
  obtain ⟨k, rfl, hk, hk'⟩ : ∃ k : Int, x = .int k ∧ 1 ≤ k ∧ k ≤ 8 := by
    simp at hx
    rcases hx with rfl | rfl | rfl | rfl
    · exact ⟨_, rfl, by decide, by decide⟩
    · exact ⟨_, rfl, by decide, by decide⟩
    · exact ⟨_, rfl, by omega, by omega⟩
    · exact ⟨_, rfl, by decide, by decide⟩
  refine draw_W d2 (by decide) (by decide) fun i3 S3 a3 b3 d3 => ?_
  refine draw_W d3 (by decide) (by decide) fun i4 S4 a4 b4 d4 => ?_
  rw [W_rng (by omega)]
  refine W_lcS (I := fun i acc S' => S' = S4 ∧ ∃ cs : List Nat, acc = cs.map (fun c => D.str (sg c)) ∧ cs.length = i ∧ cs.all lowB = true) ?_ ⟨rfl, [], rfl, rfl, rfl⟩ ?_ ?_
  · rw [range_len]
    show _ ≤ 16777216
    omega
  · rintro i d acc S' hi ⟨rfl, cs, rfl, hl, hc⟩ _
    obtain ⟨hi, rfl⟩ := range_at hi
    obtain ⟨c, hlow, hix⟩ := low_mem (i := (i3 + i4 * (i : Int)) % 26) (Int.emod_nonneg _ (by decide)) (Int.emod_lt_of_pos _ (by decide))
    simp [wipeE, W_mulI (m := false) (i := i4) (j := (i : Int)) (Or.inl (by omega)), W_modI (show (0 : Int) < 26 by decide), W_of (hix _)]
    refine ⟨cs ++ [c], ?_, ?_, ?_⟩
    · simp
    · simp [hl]
    · intro x hx
      rcases List.mem_append.mp hx with hx | hx
      · exact List.all_eq_true.mp hc x hx
      · rw [List.mem_singleton.mp hx]
        exact hlow
  · rintro ys S' ⟨rfl, cs, rfl, hl, hc⟩ _
    rw [range_len] at hl
    simp
    have hj : joinD (.str "") [.lst (cs.map fun c => D.str (sg c))] S' = .ok (.str (SX.S cs)) S' := by
      have e : strs? (cs.map fun c => D.str (sg c)) = some (cs.map sg) := by
        rw [← strs_of, List.map_map]
        rfl
      have e2 : ((cs.map sg).map (fun y : Str => y.length)).sum + (cs.map sg).length * ("" : Str).length ≤ SL := by
        have : ∀ l : List Nat, ((l.map sg).map (fun y : Str => y.length)).sum = l.length := by
          intro l
          induction l with
          | nil => rfl
          | cons c r ih =>
            rw [List.map_cons, List.map_cons, List.sum_cons, ih]
            show 1 + r.length = r.length + 1
            omega
        rw [this]
        have : ("" : Str).length = 0 := by decide +kernel
        rw [this]
        show _ ≤ 16777216
        omega
      show (match (some (cs.map fun c => D.str (sg c))).bind strs? with | some ys => if (ys.map (fun y : Str => y.length)).sum + ys.length * ("" : Str).length ≤ SL then R.ok (D.str (Txt.join "" ys)) S' else .bad | none => .bad) = _
      rw [Option.bind_some, e]
      dsimp only
      rw [if_pos e2, join_sg]
    rw [W_of hj]
    exact h _ _ (name_of hc (by omega) (by omega)) d4
/-! ### far names -/
theorem low_lt {c : Nat} (h : lowB c = true) : c < 128 := by
  unfold lowB at h
  simp at h
  omega
theorem fig_lt {c : Nat} (h : figB c = true) : c < 128 := by
  unfold figB at h
  simp at h
  omega
theorem asc_of {cs : List Nat} (h : ∀ c ∈ cs, c < 128) : ascS (SX.S cs) = true := by
  unfold ascS
  rw [List.all_eq_true]
  intro c hc
  exact decide_eq_true (h c hc)
theorem asc_mem {x : Str} (h : ascS x = true) : ∀ c ∈ x.cps.toList, c < 128 := fun c hc => of_decide_eq_true (List.all_eq_true.mp h c hc)
theorem name_asc {x : Str} (h : nameS x = true) : ascS x = true ∧ 1 ≤ x.length ∧ x.length ≤ 8 ∧ ∀ c ∈ x.cps.toList, lowB c = true := by
  unfold nameS at h
  simp only [Bool.and_eq_true, decide_eq_true_eq, List.all_eq_true] at h
  refine ⟨?_, h.1.1, h.1.2, h.2⟩
  unfold ascS
  rw [List.all_eq_true]
  exact fun c hc => decide_eq_true (low_lt (h.2 c hc))
theorem fig_asc {x : Str} (h : figS x = true) : ascS x = true ∧ 1 ≤ x.length ∧ x.length ≤ 40 ∧ ∀ c ∈ x.cps.toList, figB c = true := by
  unfold figS at h
  simp only [Bool.and_eq_true, decide_eq_true_eq, List.all_eq_true] at h
  refine ⟨?_, h.1.1.1, h.1.1.2, h.1.2⟩
  unfold ascS
  rw [List.all_eq_true]
  exact fun c hc => decide_eq_true (fig_lt (h.1.2 c hc))
/-- a far name, its parts -/
structure Far (x : Str) : Prop where
  far : farB (.str x) = true
  asc : ascS x = true
  len : x.length ≤ 58
  pos : 5 ≤ x.length
  parts : ∃ a b c, nameS a = true ∧ figS b = true ∧ b ≠ "0" ∧ nameS c = true ∧ x = a ++ "." ++ b ++ "." ++ c
theorem asc_cat {x y : Str} (h : ascS x = true) (h' : ascS y = true) : ascS (x ++ y) = true := by
  unfold ascS at *
  have e : (x ++ y).cps.toList = x.cps.toList ++ y.cps.toList := TL.tl_append x y
  rw [e, List.all_append, h, h']
  rfl
theorem far_make {a b c : Str} (ha : nameS a = true) (hb : figS b = true) (h0 : b ≠ "0") (hc : nameS c = true) : Far (a ++ "." ++ b ++ "." ++ c) ∧ Txt.split (a ++ "." ++ b ++ "." ++ c) dot = [a, b, c] := by
  obtain ⟨a1, a2, a3, a4⟩ := name_asc ha
  obtain ⟨b1, b2, b3, b4⟩ := fig_asc hb
  obtain ⟨c1, c2, c3, c4⟩ := name_asc hc
  have e : a ++ "." ++ b ++ "." ++ c = Txt.join dot [a, b, c] := by
    rw [TL.join_eq]
    show a ++ dot ++ b ++ dot ++ c = a ++ dot ++ (b ++ dot ++ c)
    refine TL.ext_tl ?_
    simp only [TL.tl_append, List.append_assoc]
  have ed : TL.tl dot = 46 :: [] := by decide +kernel
  have hsp : Txt.split (a ++ "." ++ b ++ "." ++ c) dot = [a, b, c] := by
    rw [e]
    refine TL.split_join ed (by decide +kernel) (by simp) ?_
    intro p hp
    simp only [List.mem_cons, List.not_mem_nil, or_false] at hp
    rcases hp with rfl | rfl | rfl
    · intro h; have := a4 46 h; revert this; decide
    · intro h; have := b4 46 h; revert this; decide
    · intro h; have := c4 46 h; revert this; decide
  have dl : (("." : String) : Str).length = 1 := dot_len
  have da : ascS (("." : String) : Str) = true := by decide +kernel
  refine ⟨⟨?_, ?_, ?_, ?_, ?_⟩, hsp⟩
  · show farW (Txt.split _ dot) = true
    rw [hsp]
    show (nameS a && nameS c && figS b && !decide (b = "0")) = true
    rw [ha, hb, hc]
    simp [h0]
  · exact asc_cat (asc_cat (asc_cat (asc_cat a1 da) b1) da) c1
  · rw [strLen_append, strLen_append, strLen_append, strLen_append, dl]; omega
  · rw [strLen_append, strLen_append, strLen_append, strLen_append, dl]; omega
  · exact ⟨a, b, c, ha, hb, h0, hc, rfl⟩
theorem num_fig : ∀ k : Nat, k < 121 → 1 ≤ k → figS (Str.ofString (toString (k : Int))) = true ∧ Str.ofString (toString (k : Int)) ≠ "0" := by decide +kernel
theorem big_fig : figS (Str.ofString (toString (10 ^ 39 : Int))) = true ∧ Str.ofString (toString (10 ^ 39 : Int)) ≠ "0" := by decide +kernel
def farGenB (kd kn : Nat) : Sxs :=
    (.cons (.set 1 (.ix (.lst false (.cons (.int 1) (.cons (.int 9) (.cons (.int 10) (.cons (.bin .add false (.int 1) (.call kd (.cons (.var 0) (.cons (.int 120) .nil)))) (.cons (.bin .pow false (.int 10) (.int 39)) .nil)))))) (.call kd (.cons (.var 0) (.cons (.int 5) .nil)))))
    (.cons (.ret (.bin .add false (.bin .add false (.bin .add false (.bin .add false (.call kn (.cons (.var 0) .nil)) (.str ".")) (.fn .str false (.cons (.var 1) .nil))) (.str ".")) (.call kn (.cons (.var 0) .nil))))
    .nil))
def FarOk (φ : Nat → List D → M D) (k : Nat) : Prop := ∀ {S : Sto} {T : List O} {Q : D → Sto → Prop}, Dk S T → (∀ x S', Far x → Dk S' T → Q (.str x) S') → W (φ k [.ref 1]) S Q
theorem far_b {φ : Nat → List D → M D} {kd kn : Nat} (draw_W : DrawOk φ kd) (name_W : NameOk φ kn) {S : Sto} {T : List O} {Q : D → Sto → Prop} (hd : Dk S T) (h : ∀ x S', Far x → Dk S' T → Q (.str x) S') : W (bodyD 2 (evSs φ (farGenB kd kn)) [.ref 1]) S Q := by
  rw [W_body]
  unfold farGenB
  have p39 : ∀ S, powD (.int 10) (.int 39) S = .ok (.int (10 ^ 39)) S := fun S => rfl
  simp [startD]
  refine draw_W hd (by decide) (by decide) fun i1 S1 a1 b1 d1 => ?_
  simp [W_of (p39 _)]
  refine draw_W d1 (by decide) (by decide) fun i2 S2 a2 b2 d2 => ?_
  refine W_ixL_all a2 b2 ?_
  intro x hx
  obtain ⟨k, rfl, hk, hk0, hl⟩ : ∃ k : Int, x = .int k ∧ figS (Str.ofString (toString k)) = true ∧ Str.ofString (toString k) ≠ "0" ∧ k.natAbs.log2 < 1920 := by
    have small : ∀ k : Nat, k < 121 → 1 ≤ k → (k : Int).natAbs.log2 < 1920 := by decide +kernel
    simp at hx
    rcases hx with rfl | rfl | rfl | rfl | rfl
    · exact ⟨_, rfl, (num_fig 1 (by decide) (by decide)).1, (num_fig 1 (by decide) (by decide)).2, by decide +kernel⟩
    · exact ⟨_, rfl, (num_fig 9 (by decide) (by decide)).1, (num_fig 9 (by decide) (by decide)).2, by decide +kernel⟩
    · exact ⟨_, rfl, (num_fig 10 (by decide) (by decide)).1, (num_fig 10 (by decide) (by decide)).2, by decide +kernel⟩
    · obtain ⟨j, rfl⟩ := Int.eq_ofNat_of_zero_le a1
      have e : (1 : Int) + (j : Int) = ((1 + j : Nat) : Int) := by omega
      refine ⟨_, rfl, ?_⟩
      rw [e]
      exact ⟨(num_fig (1 + j) (by omega) (by omega)).1, (num_fig (1 + j) (by omega) (by omega)).2, small _ (by omega) (by omega)⟩
    · exact ⟨_, rfl, big_fig.1, big_fig.2, by decide +kernel⟩
  have hs : ∀ S, strD [.int k] S = .ok (.str (Str.ofString (toString k))) S := fun S => by
    show (if k.natAbs.log2 < 1920 then pure (D.str (toString k)) else M.fail : M D) S = _
    rw [if_pos hl]; rfl
  have dl : (("." : String) : Str).length = 1 := dot_len
  obtain ⟨f1, f2, f3, f4⟩ := fig_asc hk
  generalize Str.ofString (toString k) = z at *
  refine name_W d2 fun x S3 hx d3 => ?_
  obtain ⟨x1, x2, x3, x4⟩ := name_asc hx
  rw [W_addS _ (by rw [dl]; show _ ≤ 16777216; omega)]
  simp [W_of (hs _)]
  rw [W_addS _ (by rw [strLen_append, dl]; show _ ≤ 16777216; omega), W_addS _ (by rw [strLen_append, strLen_append, dl]; show _ ≤ 16777216; omega)]
  refine name_W d3 fun y S4 hy d4 => ?_
  obtain ⟨y1, y2, y3, y4⟩ := name_asc hy
  rw [W_addS _ (by rw [strLen_append, strLen_append, strLen_append, dl]; show _ ≤ 16777216; omega)]
  obtain ⟨q1, q2⟩ := far_make hx hk hk0 hy
  exact h _ _ q1 d4
end PL

/-! PL3: terms as a type, how they lie in data; functions by fuel. -/
namespace PL
open MP PySem L2
/-- F n: what the defs tell with fuel n; k is the def of this body -/
def IsFn (F : Nat → Nat → List D → M D) (k N np : Nat) (b : Sxs) : Prop := ∀ n ds, ds.length = np → F (n + 1) k ds = bodyD N (evSs (F n) b) ds
inductive W3 where | to | fn | give
  deriving DecidableEq, Inhabited
inductive W2 where | family | call
  deriving DecidableEq, Inhabited
inductive Mk where | run | gone
  deriving DecidableEq, Inhabited
def W3.s : W3 → Str
  | .to => "to" | .fn => "fun" | .give => "give"
def W2.s : W2 → Str
  | .family => "family" | .call => "call"
def Mk.s : Mk → Str
  | .run => "run" | .gone => "gone"
inductive T where
  | at (i : Nat)
  | world (i : Nat)
  | hole (x : Str)
  | bi (w : W3) (m : Mk) (a b : T)
  | no (w : W2) (x : Str) (ts : List T)
  | sh (x y : Str) (ts : List T)
  deriving Inhabited
/-- a name, near or far -/
def Cl (x : Str) : Prop := nameS x = true ∨ Far x
mutual
def T.d : T → D
  | .at i => .tup [.str "at", .int i]
  | .world i => .tup [.str "world", .int i]
  | .hole x => .tup [.str "hole", .str x]
  | .bi w m a b => .tup [.str w.s, .str m.s, a.d, b.d]
  | .no w x ts => .tup [.str w.s, .str x, .tup (T.ds ts)]
  | .sh x y ts => .tup [.str "shape", .str x, .str y, .tup (T.ds ts)]
def T.ds : List T → List D
  | [] => []
  | t :: ts => t.d :: T.ds ts
end
mutual
def T.Ok : T → Prop
  | .at i => i < 10 ^ 40
  | .world i => i ≤ 9
  | .hole x => nameS x = true
  | .bi _ _ a b => a.Ok ∧ b.Ok
  | .no _ x ts => Cl x ∧ T.Oks ts
  | .sh x y ts => Cl x ∧ nameS y = true ∧ T.Oks ts
def T.Oks : List T → Prop
  | [] => True
  | t :: ts => t.Ok ∧ T.Oks ts
end
mutual
/-- spots -/
def T.sz : T → Nat
  | .at _ => 1
  | .world _ => 1
  | .hole _ => 1
  | .bi _ _ a b => a.sz + b.sz + 1
  | .no _ _ ts => T.szs ts + 1
  | .sh _ _ ts => T.szs ts + 1
def T.szs : List T → Nat
  | [] => 0
  | t :: ts => t.sz + T.szs ts
end
mutual
/-- within one another -/
def T.dp : T → Nat
  | .at _ => 0
  | .world _ => 0
  | .hole _ => 0
  | .bi _ _ a b => max a.dp b.dp + 1
  | .no _ _ ts => T.dps ts + 1
  | .sh _ _ ts => T.dps ts + 1
def T.dps : List T → Nat
  | [] => 0
  | t :: ts => max t.dp (T.dps ts)
end
mutual
/-- the greatest number of a name -/
def T.mx : T → Nat
  | .at i => i
  | .world _ => 0
  | .hole _ => 0
  | .bi _ _ a b => max a.mx b.mx
  | .no _ _ ts => T.mxs ts
  | .sh _ _ ts => T.mxs ts
def T.mxs : List T → Nat
  | [] => 0
  | t :: ts => max t.mx (T.mxs ts)
end
theorem mxs_le {n : Nat} : ∀ {ts : List T}, T.mxs ts ≤ n ↔ ∀ t ∈ ts, t.mx ≤ n
  | [] => by simp [T.mxs]
  | t :: ts => by rw [T.mxs, Nat.max_le, mxs_le (ts := ts)]; simp
def T.parts : T → List T
  | .bi _ _ a b => [a, b]
  | .no _ _ ts => ts
  | .sh _ _ ts => ts
  | _ => []
theorem ds_map : ∀ ts : List T, T.ds ts = ts.map T.d
  | [] => rfl
  | t :: ts => by rw [T.ds, ds_map ts]; rfl
theorem ds_len (ts : List T) : (T.ds ts).length = ts.length := by rw [ds_map, List.length_map]
theorem oks_iff : ∀ {ts : List T}, T.Oks ts ↔ ∀ t ∈ ts, t.Ok
  | [] => by simp [T.Oks]
  | t :: ts => by rw [T.Oks, oks_iff (ts := ts)]; simp
theorem szs_mem : ∀ {ts : List T} {t : T}, t ∈ ts → t.sz ≤ T.szs ts
  | t :: ts, u, h => by
    rw [T.szs]
    rcases List.mem_cons.mp h with rfl | h
    · omega
    · have := szs_mem h; omega
theorem szs_append : ∀ (ts us : List T), T.szs (ts ++ us) = T.szs ts + T.szs us
  | [], us => by simp [T.szs]
  | t :: ts, us => by
    show t.sz + T.szs (ts ++ us) = t.sz + T.szs ts + T.szs us
    rw [szs_append ts us]; omega
theorem sz_pos (t : T) : 1 ≤ t.sz := by cases t <;> simp [T.sz]
theorem szs_len : ∀ (ts : List T), ts.length ≤ T.szs ts
  | [] => Nat.le_refl _
  | t :: ts => by
    show ts.length + 1 ≤ t.sz + T.szs ts
    have := szs_len ts
    have := sz_pos t
    omega
theorem dps_le {n : Nat} : ∀ {ts : List T}, T.dps ts ≤ n ↔ ∀ t ∈ ts, t.dp ≤ n
  | [] => by simp [T.dps]
  | t :: ts => by rw [T.dps, Nat.max_le, dps_le (ts := ts)]; simp
theorem parts_ok {t : T} (h : t.Ok) : ∀ u ∈ t.parts, u.Ok := by
  cases t with
  | bi w m a b => intro u hu; simp [T.parts] at hu; rcases hu with rfl | rfl; exact h.1; exact h.2
  | no w x ts => exact oks_iff.mp h.2
  | sh x y ts => exact oks_iff.mp h.2.2
  | _ => intro u hu; simp [T.parts] at hu
theorem parts_dp {t : T} : ∀ u ∈ t.parts, u.dp + 1 ≤ t.dp := by
  cases t with
  | bi w m a b => intro u hu; simp [T.parts] at hu; rw [T.dp]; rcases hu with rfl | rfl <;> omega
  | no w x ts => intro u hu; rw [T.dp]; have := dps_le.mp (Nat.le_refl (T.dps ts)) u hu; omega
  | sh x y ts => intro u hu; rw [T.dp]; have := dps_le.mp (Nat.le_refl (T.dps ts)) u hu; omega
  | _ => intro u hu; simp [T.parts] at hu
theorem parts_sz (t : T) : T.szs t.parts + 1 = t.sz := by
  cases t <;> simp [T.parts, T.szs, T.sz]
/-! ### sizes of the data -/
theorem cl_facts {x : Str} (h : Cl x) : ascS x = true ∧ 1 ≤ x.length ∧ x.length ≤ 58 := by
  rcases h with h | h
  · obtain ⟨h1, h2, h3, _⟩ := name_asc h
    exact ⟨h1, h2, by omega⟩
  · exact ⟨h.asc, by have := h.pos; omega, h.len⟩
theorem w3_facts (w : W3) : ascS w.s = true ∧ 2 ≤ w.s.length ∧ w.s.length ≤ 4 := by cases w <;> decide +kernel
theorem w2_facts (w : W2) : ascS w.s = true ∧ 2 ≤ w.s.length ∧ w.s.length ≤ 6 := by cases w <;> decide +kernel
theorem mk_facts (w : Mk) : ascS w.s = true ∧ 2 ≤ w.s.length ∧ w.s.length ≤ 4 := by cases w <;> decide +kernel
abbrev BB : Nat := 10 ^ 40
mutual
theorem T.okD : ∀ (t : T), t.Ok → okD BB t.d = true
  | .at i, h => by
    show (ascS "at" && (smallI BB i && true)) = true
    have : smallI BB (i : Int) = true := decide_eq_true (show (i : Int).natAbs < BB from h)
    rw [this]; decide +kernel
  | .world i, h => by
    show (ascS "world" && (smallI BB i && true)) = true
    have : smallI BB (i : Int) = true := decide_eq_true (show (i : Int).natAbs < BB from Nat.lt_of_le_of_lt h (by decide))
    rw [this]; decide +kernel
  | .hole x, h => by
    show (ascS "hole" && (ascS x && true)) = true
    rw [(name_asc h).1]; decide +kernel
  | .bi w m a b, h => by
    show (ascS w.s && (ascS m.s && (MP.okD BB a.d && (MP.okD BB b.d && true)))) = true
    rw [(w3_facts w).1, (mk_facts m).1, T.okD a h.1, T.okD b h.2]; rfl
  | .no w x ts, h => by
    show (ascS w.s && (ascS x && (okL BB (T.ds ts) && true))) = true
    rw [(w2_facts w).1, (cl_facts h.1).1, T.okDs ts h.2]; rfl
  | .sh x y ts, h => by
    show (ascS "shape" && (ascS x && (ascS y && (okL BB (T.ds ts) && true)))) = true
    rw [(cl_facts h.1).1, (name_asc h.2.1).1, T.okDs ts h.2.2]; decide +kernel
theorem T.okDs : ∀ (ts : List T), T.Oks ts → okL BB (T.ds ts) = true
  | [], _ => rfl
  | t :: ts, h => by
    show (MP.okD BB t.d && okL BB (T.ds ts)) = true
    rw [T.okD t h.1, T.okDs ts h.2]; rfl
end
theorem l_at : (("at" : String) : Str).length = 2 := by decide +kernel
theorem l_world : (("world" : String) : Str).length = 5 := by decide +kernel
theorem l_hole : (("hole" : String) : Str).length = 4 := by decide +kernel
theorem l_shape : (("shape" : String) : Str).length = 5 := by decide +kernel
mutual
theorem T.wt : ∀ (t : T), t.Ok → wtD t.d + 2 ≤ 1100 * t.sz
  | .at i, h => by
    show 10 * (("at" : String) : Str).length + 60 + 2 + (60 + 2 + 0) + 60 + 2 ≤ 1100 * 1
    rw [l_at]; decide
  | .world i, h => by
    show 10 * (("world" : String) : Str).length + 60 + 2 + (60 + 2 + 0) + 60 + 2 ≤ 1100 * 1
    rw [l_world]; decide
  | .hole x, h => by
    show 10 * (("hole" : String) : Str).length + 60 + 2 + (10 * x.length + 60 + 2 + 0) + 60 + 2 ≤ 1100 * 1
    rw [l_hole]
    have := (name_asc h).2.2.1
    omega
  | .bi w m a b, h => by
    show 10 * w.s.length + 60 + 2 + (10 * m.s.length + 60 + 2 + (wtD a.d + 2 + (wtD b.d + 2 + 0))) + 60 + 2 ≤ 1100 * (a.sz + b.sz + 1)
    have := T.wt a h.1
    have := T.wt b h.2
    have := (w3_facts w).2.2
    have := (mk_facts m).2.2
    omega
  | .no w x ts, h => by
    show 10 * w.s.length + 60 + 2 + (10 * x.length + 60 + 2 + (wtL (T.ds ts) + 60 + 2 + 0)) + 60 + 2 ≤ 1100 * (T.szs ts + 1)
    have := T.wts ts h.2
    have := (w2_facts w).2.2
    have := (cl_facts h.1).2.2
    omega
  | .sh x y ts, h => by
    show 10 * (("shape" : String) : Str).length + 60 + 2 + (10 * x.length + 60 + 2 + (10 * y.length + 60 + 2 + (wtL (T.ds ts) + 60 + 2 + 0))) + 60 + 2 ≤ 1100 * (T.szs ts + 1)
    have := T.wts ts h.2.2
    have := (name_asc h.2.1).2.2.1
    have := (cl_facts h.1).2.2
    rw [l_shape]
    omega
theorem T.wts : ∀ (ts : List T), T.Oks ts → wtL (T.ds ts) ≤ 1100 * T.szs ts
  | [], _ => Nat.le_refl _
  | t :: ts, h => by
    show wtD t.d + 2 + wtL (T.ds ts) ≤ 1100 * (t.sz + T.szs ts)
    have := T.wt t h.1
    have := T.wts ts h.2
    omega
end
mutual
theorem T.dep : ∀ (t : T), depD t.d ≤ 2 * t.dp + 1
  | .at i => Nat.le_refl _
  | .world i => Nat.le_refl _
  | .hole x => Nat.le_refl _
  | .bi w m a b => by
    show max 0 (max 0 (max (depD a.d) (max (depD b.d) 0))) + 1 ≤ 2 * (max a.dp b.dp + 1) + 1
    have := T.dep a
    have := T.dep b
    omega
  | .no w x ts => by
    show max 0 (max 0 (max (depL (T.ds ts) + 1) 0)) + 1 ≤ 2 * (T.dps ts + 1) + 1
    have := T.deps ts
    omega
  | .sh x y ts => by
    show max 0 (max 0 (max 0 (max (depL (T.ds ts) + 1) 0))) + 1 ≤ 2 * (T.dps ts + 1) + 1
    have := T.deps ts
    omega
theorem T.deps : ∀ (ts : List T), depL (T.ds ts) ≤ 2 * T.dps ts + 1
  | [] => by decide
  | t :: ts => by
    show max (depD t.d) (depL (T.ds ts)) ≤ 2 * max t.dp (T.dps ts) + 1
    have := T.dep t
    have := T.deps ts
    omega
end
end PL

/-! PL4: drawn terms. -/
namespace PL
open MP PySem L2
theorem draw_F {F : Nat → Nat → List D → M D} {kd : Nat} (h : IsFn F kd 4 2 drawB) : ∀ n, 1 ≤ n → DrawOk (F n) kd := by
  intro n hn
  obtain ⟨n, rfl⟩ : ∃ m, n = m + 1 := ⟨n - 1, by omega⟩
  intro w S T Q hd h0 h1 hq
  rw [h n _ rfl]
  exact draw_b hd h0 h1 hq
theorem name_F {F : Nat → Nat → List D → M D} {kd kn : Nat} (h : IsFn F kn 6 1 (nameGenB kd)) (hd : IsFn F kd 4 2 drawB) : ∀ n, 2 ≤ n → NameOk (F n) kn := by
  intro n hn
  obtain ⟨n, rfl⟩ : ∃ m, n = m + 1 := ⟨n - 1, by omega⟩
  intro S T Q hk hq
  rw [h n _ rfl]
  exact name_b (draw_F hd n (by omega)) hk hq
theorem far_F {F : Nat → Nat → List D → M D} {kd kn kf : Nat} (h : IsFn F kf 2 1 (farGenB kd kn)) (hn : IsFn F kn 6 1 (nameGenB kd)) (hd : IsFn F kd 4 2 drawB) : ∀ n, 3 ≤ n → FarOk (F n) kf := by
  intro n h3
  obtain ⟨n, rfl⟩ : ∃ m, n = m + 1 := ⟨n - 1, by omega⟩
  intro S T Q hk hq
  rw [h n _ rfl]
  exact far_b (draw_F hd n (by omega)) (name_F hn hd n (by omega)) hk hq
def ClOk (φ : Nat → List D → M D) (k : Nat) : Prop := ∀ {S : Sto} {T : List O} {Q : D → Sto → Prop}, Dk S T → (∀ x S', Cl x → Dk S' T → Q (.str x) S') → W (φ k [.ref 1]) S Q
def LeafOk (φ : Nat → List D → M D) (k mm : Nat) : Prop := ∀ {S : Sto} {T : List O} {Q : D → Sto → Prop}, Dk S T → (∀ (t : PL.T) S', t.Ok → t.dp = 0 → t.sz = 1 → t.mx ≤ mm → Dk S' T → Q t.d S') → W (φ k [.ref 1]) S Q
def calledGenB (kd kf kn : Nat) : Sxs :=
    (.cons (.ret (.ife (.cmp .eq (.call kd (.cons (.var 0) (.cons (.int 3) .nil))) (.int 0)) (.call kf (.cons (.var 0) .nil)) (.call kn (.cons (.var 0) .nil))))
    .nil)
theorem called_b {φ : Nat → List D → M D} {kd kf kn : Nat} (draw_W : DrawOk φ kd) (far_W : FarOk φ kf) (name_W : NameOk φ kn) {S : Sto} {T : List O} {Q : D → Sto → Prop} (hd : Dk S T) (h : ∀ x S', Cl x → Dk S' T → Q (.str x) S') : W (bodyD 1 (evSs φ (calledGenB kd kf kn)) [.ref 1]) S Q := by
  rw [W_body]
  unfold calledGenB
  simp [startD]
  refine draw_W hd (by decide) (by decide) fun i1 S1 a1 b1 d1 => ?_
  simp
  split
  · exact far_W d1 fun x S2 hx d2 => h x S2 (.inr hx) d2
  · exact name_W d1 fun x S2 hx d2 => h x S2 (.inl hx) d2
/-- called like words, too -/
def calledGenW (kd kf kn : Nat) : Sxs :=
    (.cons (.set 1 (.call kd (.cons (.var 0) (.cons (.int 5) .nil))))
    (.cons (.ite (.cmp .eq (.var 1) (.int 4)) (.cons (.ret (.ix (.lst false (.cons (.str "to") (.cons (.str "fun") (.cons (.str "run") (.cons (.str "gone") (.cons (.str "at") (.cons (.str "shape") (.cons (.str "hole") (.cons (.str "call") (.cons (.str "family") (.cons (.str "give") .nil))))))))))) (.call kd (.cons (.var 0) (.cons (.int 10) .nil)))))
    .nil) .nil)
    (.cons (.ret (.ife (.cmp .eq (.var 1) (.int 0)) (.call kf (.cons (.var 0) .nil)) (.call kn (.cons (.var 0) .nil))))
    .nil)))
theorem W_ixL_mem {xs : List Str} {i : Int} {S : Sto} {Q : D → Sto → Prop} (h0 : 0 ≤ i) (h1 : i < xs.length) (h : ∀ x ∈ xs, Q (.str x) S) : W (ixD (.lst (xs.map D.str)) (.int i)) S Q := by
  refine W_ixL_all h0 (by simpa using h1) fun x hx => ?_
  obtain ⟨y, hy, rfl⟩ := List.mem_map.mp hx
  exact h y hy
theorem calledW_b {φ : Nat → List D → M D} {kd kf kn : Nat} (draw_W : DrawOk φ kd) (far_W : FarOk φ kf) (name_W : NameOk φ kn) {S : Sto} {T : List O} {Q : D → Sto → Prop} (hd : Dk S T) (h : ∀ x S', Cl x → Dk S' T → Q (.str x) S') : W (bodyD 2 (evSs φ (calledGenW kd kf kn)) [.ref 1]) S Q := by
  rw [W_body]
  unfold calledGenW
  simp [startD]
  refine draw_W hd (by decide) (by decide) fun i1 S1 a1 b1 d1 => ?_
  simp
  split
  · refine draw_W d1 (by decide) (by decide) fun i2 S2 a2 b2 d2 => ?_
    refine W_ixL_mem (xs := ["to", "fun", "run", "gone", "at", "shape", "hole", "call", "family", "give"]) a2 b2 fun w hw => ?_
    have : ∀ w ∈ (["to", "fun", "run", "gone", "at", "shape", "hole", "call", "family", "give"] : List Str), nameS w = true := by decide +kernel
    exact h w S2 (.inl (this w hw)) d2
  · split
    · exact far_W d1 fun x S2 hx d2 => h x S2 (.inr hx) d2
    · exact name_W d1 fun x S2 hx d2 => h x S2 (.inl hx) d2
def leafGenB (kd kn : Nat) (a b e : Int) : Sxs :=
    (.cons (.set 1 (.call kd (.cons (.var 0) (.cons (.int 3) .nil))))
    (.cons (.set 2 (.ix (.lst false (.cons (.call kd (.cons (.var 0) (.cons (.int a) .nil))) (.cons (.call kd (.cons (.var 0) (.cons (.int b) .nil))) (.cons (.bin .pow false (.int 10) (.int e)) .nil)))) (.call kd (.cons (.var 0) (.cons (.int 3) .nil)))))
    (.cons (.ret (.ix (.lst false (.cons (.tup (.cons (.str "at") (.cons (.var 2) .nil))) (.cons (.tup (.cons (.str "world") (.cons (.call kd (.cons (.var 0) (.cons (.int 10) .nil))) .nil))) (.cons (.tup (.cons (.str "hole") (.cons (.call kn (.cons (.var 0) .nil)) .nil))) .nil)))) (.var 1)))
    .nil)))
theorem leaf_b {φ : Nat → List D → M D} {kd kn : Nat} {a b e v : Int} (draw_W : DrawOk φ kd) (name_W : NameOk φ kn) (ha : 0 < a ∧ a < 1000) (hb : 0 < b ∧ b < 1000) (he : ∀ S, powD (.int 10) (.int e) S = .ok (.int v) S) (hv : 0 ≤ v ∧ v ≤ 10 ^ 39) {mm : Nat} (hm : 1000 ≤ mm ∧ v ≤ mm) {S : Sto} {T : List O} {Q : D → Sto → Prop} (hd : Dk S T)
    (h : ∀ (t : PL.T) S', t.Ok → t.dp = 0 → t.sz = 1 → t.mx ≤ mm → Dk S' T → Q t.d S') : W (bodyD 3 (evSs φ (leafGenB kd kn a b e)) [.ref 1]) S Q := by
  rw [W_body]
  unfold leafGenB
  simp [startD]
  refine draw_W hd (by decide) (by decide) fun i1 S1 a1 b1 d1 => ?_
  refine draw_W d1 (by omega) (by omega) fun i2 S2 a2 b2 d2 => ?_
  refine draw_W d2 (by omega) (by omega) fun i3 S3 a3 b3 d3 => ?_
  simp [W_of (he _)]
  refine draw_W d3 (by decide) (by decide) fun i4 S4 a4 b4 d4 => ?_
  refine W_ixL_all a4 b4 ?_
  intro x hx
  obtain ⟨k, rfl, hk, hkm⟩ : ∃ k : Nat, x = .int k ∧ k < 10 ^ 40 ∧ k ≤ mm := by
    simp at hx
    have mk : ∀ j : Int, 0 ≤ j → j ≤ 10 ^ 39 → j ≤ mm → ∃ k : Nat, D.int j = .int k ∧ k < 10 ^ 40 ∧ k ≤ mm := by
      intro j h0 h1 h2
      obtain ⟨k, rfl⟩ := Int.eq_ofNat_of_zero_le h0
      exact ⟨k, rfl, by omega, by omega⟩
    rcases hx with rfl | rfl | rfl
    · exact mk _ a2 (by omega) (by omega)
    · exact mk _ a3 (by omega) (by omega)
    · exact mk _ hv.1 hv.2 hm.2
  refine draw_W d4 (by decide) (by decide) fun i5 S5 a5 b5 d5 => ?_
  refine name_W d5 fun y S6 hy d6 => ?_
  refine W_ixL_all a1 b1 ?_
  intro t ht
  simp at ht
  obtain ⟨j, rfl⟩ := Int.eq_ofNat_of_zero_le a5
  rcases ht with rfl | rfl | rfl
  · exact h (.at k) S6 hk rfl rfl hkm d6
  · exact h (.world j) S6 (show j ≤ 9 by omega) rfl rfl (Nat.zero_le _) d6
  · exact h (.hole y) S6 hy rfl rfl (Nat.zero_le _) d6
theorem last_at (T0 : List O) (o : O) : (T0 ++ [o])[T0.length]? = some o := by simp
theorem last_set (T0 : List O) (o o' : O) : (T0 ++ [o]).set T0.length o' = T0 ++ [o'] := by
  induction T0 with
  | nil => rfl
  | cons a r ih =>
    show a :: (r ++ [o]).set r.length o' = a :: (r ++ [o'])
    rw [ih]
/-! ### tracked lists -/
section
variable {S : Sto} {n : Nat} {xs : List D}
theorem ix_ref {i : Int} {e : D} (h : S[n]? = some (.lst xs)) (ha : atI xs i = some e) : ixD (.ref n) (.int i) S = .ok e S := by
  show (match ((itemsR S (.ref n)).bind fun xs => atI xs i) with | some e => R.ok e S | none => dicIx S (.ref n) (.inl i)) = _
  have : itemsR S (.ref n) = some xs := by
    show (match S[n]? with | some (.lst ds) => some ds | _ => none) = _
    rw [h]
  rw [this, Option.bind_some, ha]
theorem set_ref {i : Int} {j : Nat} {d : D} (h : S[n]? = some (.lst xs)) (hj : ixN xs.length i = some j) : setD (.ref n) (.int i) d S = .ok () (S.set n (.lst (xs.set j d))) := by
  unfold setD
  simp only [h, hj]
theorem append_ref {d : D} (h : S[n]? = some (.lst xs)) (hl : xs.length < SL) : appendD (.ref n) [d] S = .ok .non (S.set n (.lst (xs ++ [d]))) := by
  unfold appendD
  simp only [h, if_pos hl]
theorem rcL_ref (h : S[n]? = some (.lst xs)) : rcL (.ref n) S = .ok () S := by
  unfold rcL
  simp only [h]
theorem len_ref (h : S[n]? = some (.lst xs)) : lenD [.ref n] S = .ok (.int xs.length) S := by
  have : itemsR S (.ref n) = some xs := by
    show (match S[n]? with | some (.lst ds) => some ds | _ => none) = _
    rw [h]
  unfold lenD lenE
  simp only [this]
theorem src_ref (h : S[n]? = some (.lst xs)) : seqSrc (.ref n) S = .ok (.ref n) S := by
  unfold seqSrc
  simp only [h]
end
theorem left_at {S : Sto} {T0 : List O} {v : Int} (hd : Dk S (T0 ++ [.lst [.int v]])) : S[T0.length + 2]? = some (.lst [.int v]) := by
  obtain ⟨cs, m, t, hl, rfl⟩ := hd
  rw [List.getElem?_cons_succ, List.getElem?_cons_succ, last_at]
theorem left_ix {S : Sto} {T0 : List O} {v : Int} (hd : Dk S (T0 ++ [.lst [.int v]])) : ixD (.ref (T0.length + 2)) (.int 0) S = .ok (.int v) S := ix_ref (left_at hd) rfl
theorem left_set {S : Sto} {T0 : List O} {v u : Int} (hd : Dk S (T0 ++ [.lst [.int v]])) : ∃ S', setD (.ref (T0.length + 2)) (.int 0) (.int u) S = .ok () S' ∧ Dk S' (T0 ++ [.lst [.int u]]) := by
  refine ⟨_, set_ref (j := 0) (left_at hd) rfl, ?_⟩
  obtain ⟨cs, m, t, hl, rfl⟩ := hd
  refine ⟨cs, m, t, hl, ?_⟩
  show O.lst (cs.map D.int) :: O.lst [.ref 0, .int m, .int t] :: (T0 ++ [O.lst [D.int v]]).set T0.length (.lst [.int u]) = _
  rw [last_set]
theorem min_I (i j : Int) (S : Sto) (Q) : W (minD [.int i, .int j]) S Q = Q (.int (if j < i then j else i)) S := rfl
def termGenB (kd kl kt kc kn : Nat) : Sxs :=
    (.cons (.par [3, 4] (.tup (.cons (.call kd (.cons (.var 0) (.cons (.int 9) .nil))) (.cons (.call kd (.cons (.var 0) (.cons (.int 5) .nil))) .nil))))
    (.cons (.ite (.or (.cons (.cmp .eq (.var 1) (.int 0)) (.cons (.cmp .lt (.var 3) (.int 2)) (.cons (.cmp .lt (.ix (.var 2) (.int 0)) (.int 2)) .nil)))) (.cons (.ret (.call kl (.cons (.var 0) .nil)))
    .nil) .nil)
    (.cons (.set 5 (.ife (.cmp .lt (.var 3) (.int 6)) (.int 2) (.fn .min false (.cons (.var 4) (.cons (.ix (.var 2) (.int 0)) .nil)))))
    (.cons (.put (.var 2) (.int 0) (.bin .sub false (.ix (.var 2) (.int 0)) (.var 5)))
    (.cons (.set 6 (.fn .tuple false (.cons (.lc false (.nm 7) (.rng (.cons (.var 5) .nil)) .nil (.call kt (.cons (.var 0) (.cons (.bin .sub false (.var 1) (.int 1)) (.cons (.var 2) .nil)))) [7]) .nil)))
    (.cons (.ite (.cmp .lt (.var 3) (.int 6)) (.cons (.ret (.bin .add false (.tup (.cons (.ix (.lst false (.cons (.str "to") (.cons (.str "fun") (.cons (.str "give") (.cons (.str "give") .nil))))) (.bin .sub false (.var 3) (.int 2))) (.cons (.ix (.lst false (.cons (.str "run") (.cons (.str "gone") .nil))) (.call kd (.cons (.var 0) (.cons (.int 2) .nil)))) .nil))) (.var 6)))
    .nil) .nil)
    (.cons (.ite (.cmp .eq (.var 3) (.int 8)) (.cons (.ret (.tup (.cons (.str "shape") (.cons (.call kc (.cons (.var 0) .nil)) (.cons (.call kn (.cons (.var 0) .nil)) (.cons (.var 6) .nil))))))
    .nil) .nil)
    (.cons (.ret (.tup (.cons (.ix (.lst false (.cons (.str "family") (.cons (.str "call") .nil))) (.bin .sub false (.var 3) (.int 6))) (.cons (.call kc (.cons (.var 0) .nil)) (.cons (.var 6) .nil)))))
    .nil))))))))
theorem par2 (d e : D) (S : Sto) : unpackD 2 none (.tup [d, e]) S = .ok [d, e] S := rfl
theorem w3_mem {w : Str} (h : w ∈ (["to", "fun", "give", "give"] : List Str)) : ∃ v : W3, w = v.s := by
  simp at h
  rcases h with rfl | rfl | rfl
  · exact ⟨.to, rfl⟩
  · exact ⟨.fn, rfl⟩
  · exact ⟨.give, rfl⟩
theorem mk_mem {w : Str} (h : w ∈ (["run", "gone"] : List Str)) : ∃ v : Mk, w = v.s := by
  simp at h
  rcases h with rfl | rfl
  · exact ⟨.run, rfl⟩
  · exact ⟨.gone, rfl⟩
theorem w2_mem {w : Str} (h : w ∈ (["family", "call"] : List Str)) : ∃ v : W2, w = v.s := by
  simp at h
  rcases h with rfl | rfl
  · exact ⟨.family, rfl⟩
  · exact ⟨.call, rfl⟩
section
variable {F : Nat → Nat → List D → M D} {kd kl kt kc kn mm : Nat}
theorem term_F (hT : IsFn F kt 8 3 (termGenB kd kl kt kc kn)) (draw_W : ∀ n, 1 ≤ n → DrawOk (F n) kd) (leaf_W : ∀ n, 4 ≤ n → LeafOk (F n) kl mm) (called_W : ∀ n, 4 ≤ n → ClOk (F n) kc) (name_W : ∀ n, 2 ≤ n → NameOk (F n) kn) :
    ∀ (deep : Nat) {n : Nat} {S : Sto} {T0 : List O} {v : Int} {Q : D → Sto → Prop}, Dk S (T0 ++ [.lst [.int v]]) → 0 ≤ v → v ≤ 1000 → deep + 5 ≤ n →
    (∀ (t : T) S' v', 0 ≤ v' → v' ≤ v → t.Ok → t.dp ≤ deep → t.sz ≤ (1 + v - v').toNat → t.mx ≤ mm → Dk S' (T0 ++ [.lst [.int v']]) → Q t.d S') → W (F n kt [.ref 1, .int deep, .ref (T0.length + 2)]) S Q := by
  intro deep
  induction deep with
  | zero =>
    intro n S T0 v Q hd h0 h1 hn h
    obtain ⟨n, rfl⟩ : ∃ m, n = m + 5 := ⟨n - 5, by omega⟩
    rw [hT (n + 4) _ rfl, W_body]
    unfold termGenB
    simp [startD]
    refine draw_W (n + 4) (by omega) hd (by decide) (by decide) fun i1 S1 a1 b1 d1 => ?_
    refine draw_W (n + 4) (by omega) d1 (by decide) (by decide) fun i2 S2 a2 b2 d2 => ?_
    simp [W_of (par2 _ _ _), setsL]
    refine leaf_W (n + 4) (by omega) d2 fun t S3 ht hp hz hx d3 => ?_
    exact h t S3 v h0 (Int.le_refl _) ht (by omega) (by omega) hx d3
  | succ deep ih =>
    intro n S T0 v Q hd h0 h1 hn h
    obtain ⟨n, rfl⟩ : ∃ m, n = m + 5 := ⟨n - 5, by omega⟩
    rw [hT (n + 4) _ rfl, W_body]
    unfold termGenB
    simp [startD]
    refine draw_W (n + 4) (by omega) hd (by decide) (by decide) fun i1 S1 a1 b1 d1 => ?_
    refine draw_W (n + 4) (by omega) d1 (by decide) (by decide) fun i2 S2 a2 b2 d2 => ?_
    have lf : W (F (n + 4) kl [.ref 1]) S2 (fun d S' => Q d S') := by
      refine leaf_W (n + 4) (by omega) d2 fun t S3 ht hp hz hx d3 => ?_
      exact h t S3 v h0 (Int.le_refl _) ht (by omega) (by omega) hx d3
    have e0 : ¬ ((deep : Int) + 1 = 0) := by omega
    simp [W_of (par2 _ _ _), setsL, e0, W_of (left_ix d2)]
    by_cases c1 : i1 < 2
    · simp [c1]
      exact lf
    by_cases c2 : v < 2
    · simp [c1, c2]
      exact lf
    simp [c1, c2]
    have parts : ∀ (m : Int) (ρ : MP.Env) (S4 : Sto) (R : D → Sto → Prop), 0 ≤ m → m ≤ 4 → m ≤ v → ρ = [some (.ref 1), some (.int ((deep : Int) + 1)), some (.ref (T0.length + 2)), some (.int i1), some (.int i2), some (.int m), none, none] → Dk S4 (T0 ++ [.lst [.int (v - m)]]) →
        (∀ (ts : List T) S' v', 0 ≤ v' → v' ≤ v - m → ts.length = m.toNat → T.Oks ts → T.dps ts ≤ deep → T.szs ts ≤ (v - v').toNat → T.mxs ts ≤ mm → Dk S' (T0 ++ [.lst [.int v']]) → R (.tup (T.ds ts)) S') →
        W (lcS false (Tg.nm 7).ev (evA (F (n + 4)) Txs.nil) (evE (F (n + 4)) (Ex.call kt (Exs.cons (Ex.var 0) (Exs.cons (Ex.bin Bop.sub false (Ex.var 1) (Ex.int 1)) (Exs.cons (Ex.var 2) Exs.nil))))) (wipeE ρ [7]) (.fix (rangeL 0 m.toNat))) S4 (fun d S1 => W (tupleD [d]) S1 R) := by
      rintro m ρ S4 R m0 m4 mv rfl d4 hR
      refine W_lcS (I := fun i acc S' => ∃ v', 0 ≤ v' ∧ v' ≤ v - m ∧ ∃ ts : List T, acc = T.ds ts ∧ ts.length = i ∧ T.Oks ts ∧ T.dps ts ≤ deep ∧ T.szs ts ≤ ((i : Int) + (v - m) - v').toNat ∧ T.mxs ts ≤ mm ∧ Dk S' (T0 ++ [.lst [.int v']])) ?_ ?_ ?_ ?_
      · rw [range_len]; show _ ≤ 16777216; omega
      · exact ⟨v - m, by omega, Int.le_refl _, [], rfl, rfl, trivial, Nat.zero_le _, Nat.zero_le _, Nat.zero_le _, d4⟩
      · rintro i d acc S' hi ⟨v', w0, w1, ts, rfl, wl, wo, wp, wz, wx, wd⟩ _
        obtain ⟨hi, rfl⟩ := range_at hi
        simp [wipeE]
        refine ih wd w0 (by omega) (by omega) fun t S'' v'' u0 u1 ut up uz ux ud => ?_
        refine ⟨v'', u0, by omega, ts ++ [t], ?_, by simp [wl], ?_, ?_, ?_, ?_, ud⟩
        · rw [ds_map, ds_map, List.map_append]; rfl
        · rw [oks_iff] at wo ⊢
          intro x hx
          rcases List.mem_append.mp hx with hx | hx
          · exact wo x hx
          · rw [List.mem_singleton.mp hx]; exact ut
        · rw [dps_le] at wp ⊢
          intro x hx
          rcases List.mem_append.mp hx with hx | hx
          · exact wp x hx
          · rw [List.mem_singleton.mp hx]; exact up
        · rw [szs_append]
          show T.szs ts + (t.sz + 0) ≤ _
          omega
        · rw [mxs_le] at wx ⊢
          intro x hx
          rcases List.mem_append.mp hx with hx | hx
          · exact wx x hx
          · rw [List.mem_singleton.mp hx]; exact ux
      · rintro ys S' ⟨v', w0, w1, ts, rfl, wl, wo, wp, wz, wx, wd⟩ _
        rw [range_len] at wl wz
        simp
        exact hR ts S' v' w0 w1 wl wo wp (by omega) wx wd
    have fin : ∀ (m : Int) (ts : List T) (S1 : Sto) (v' : Int), 0 ≤ v' → v' ≤ v - m → 0 ≤ m → ts.length = m.toNat → (i1 < 6 → m = 2) → T.Oks ts → T.dps ts ≤ deep → T.szs ts ≤ (v - v').toNat → T.mxs ts ≤ mm → Dk S1 (T0 ++ [.lst [.int v']]) →
        (if i1 < 6 then
              W (ixD (D.lst [D.str (Str.ofString "to"), D.str (Str.ofString "fun"), D.str (Str.ofString "give"), D.str (Str.ofString "give")]) (D.int (i1 - 2))) S1 fun d_1 S1 =>
                W (F (n + 4) kd [D.ref 1, D.int 2]) S1 fun e S2 =>
                  W (ixD (D.lst [D.str (Str.ofString "run"), D.str (Str.ofString "gone")]) e) S2 fun d_2 S1 =>
                    W (addD false (D.tup [d_1, d_2]) (.tup (T.ds ts))) S1 fun d S1 => Q d S1
            else
              if i1 = 8 then
                W (F (n + 4) kc [D.ref 1]) S1 fun d_1 S1 =>
                  W (F (n + 4) kn [D.ref 1]) S1 fun d_2 S1 =>
                    Q (D.tup [D.str (Str.ofString "shape"), d_1, d_2, (.tup (T.ds ts))]) S1
              else
                W (ixD (D.lst [D.str (Str.ofString "family"), D.str (Str.ofString "call")]) (D.int (i1 - 6))) S1
                  fun d_1 S1 => W (F (n + 4) kc [D.ref 1]) S1 fun d_2 S1 => Q (D.tup [d_1, d_2, (.tup (T.ds ts))]) S1) := by
      intro m ts S1 v' w0 w1 m0 wl hm wo wp wz wx wd
      split
      · rename_i c6
        have hm2 := hm c6
        subst hm2
        obtain ⟨t1, t2, rfl⟩ : ∃ t1 t2, ts = [t1, t2] := by
          match ts, wl with
          | [a, b], _ => exact ⟨a, b, rfl⟩
        refine W_ixL_mem (xs := ["to", "fun", "give", "give"]) (by omega) (by show i1 - 2 < 4; omega) fun w hw => ?_
        refine draw_W (n + 4) (by omega) wd (by decide) (by decide) fun i5 S5 a5 b5 d5 => ?_
        refine W_ixL_mem (xs := ["run", "gone"]) a5 b5 fun k hk => ?_
        rw [W_addT _ (by show 2 + 2 ≤ 16777216; decide)]
        obtain ⟨w, rfl⟩ := w3_mem hw
        obtain ⟨k, rfl⟩ := mk_mem hk
        refine h (.bi w k t1 t2) _ v' w0 (by omega) ⟨wo.1, wo.2.1⟩ ?_ ?_ ?_ d5
        · rw [T.dp]
          have : max t1.dp (max t2.dp 0) ≤ deep := wp
          omega
        · rw [T.sz]
          have : t1.sz + (t2.sz + 0) ≤ (v - v').toNat := wz
          omega
        · rw [T.mx]
          have : max t1.mx (max t2.mx 0) ≤ mm := wx
          omega
      · split
        · refine called_W (n + 4) (by omega) wd fun x S2 hx d2 => ?_
          refine name_W (n + 4) (by omega) d2 fun y S3 hy d3 => ?_
          refine h (.sh x y ts) _ v' w0 (by omega) ⟨hx, hy, wo⟩ ?_ ?_ wx d3
          · rw [T.dp]; omega
          · rw [T.sz]; omega
        · rename_i c6 c8
          refine W_ixL_mem (xs := ["family", "call"]) (by omega) (by show i1 - 6 < 2; omega) fun w hw => ?_
          refine called_W (n + 4) (by omega) wd fun x S2 hx d2 => ?_
          obtain ⟨w, rfl⟩ := w2_mem hw
          refine h (.no w x ts) _ v' w0 (by omega) ⟨hx, wo⟩ ?_ ?_ wx d2
          · rw [T.dp]; omega
          · rw [T.sz]; omega
    split
    · rename_i c6
      obtain ⟨S3, e3, d3⟩ := left_set (u := v - 2) d2
      rw [W_of e3, W_rng (by omega)]
      refine parts 2 _ _ _ (by decide) (by decide) (by omega) rfl d3 fun ts S' v' w0 w1 wl wo wp wz wx wd => ?_
      have := fin 2 ts S' v' w0 w1 (by decide) wl (fun _ => rfl) wo wp wz wx wd
      rw [if_pos c6] at this
      exact this
    · rename_i c6
      rw [min_I]
      generalize hm : (if v < i2 then v else i2) = m
      have hm0 : 0 ≤ m ∧ m ≤ 4 ∧ m ≤ v := by
        rw [← hm]
        split <;> omega
      obtain ⟨S3, e3, d3⟩ := left_set (u := v - m) d2
      rw [W_of (left_ix d2), W_subI, W_of e3, W_rng (by omega)]
      refine parts m _ _ _ hm0.1 hm0.2.1 hm0.2.2 rfl d3 fun ts S' v' w0 w1 wl wo wp wz wx wd => ?_
      have := fin m ts S' v' w0 w1 hm0.1 wl (fun z => absurd z c6) wo wp wz wx wd
      rw [if_neg c6] at this
      exact this
end
end PL

/-! PL5: the texts of terms. -/
namespace PL
open MP PySem L2
theorem W_run {α : Type} {m : M α} {S S' : Sto} {a : α} (h : W m S (fun b S1 => b = a ∧ S1 = S')) : m S = .ok a S' := by
  obtain ⟨b, S1, e, rfl, rfl⟩ := W_iff.mp h
  exact e
abbrev tl (x : Str) : List Nat := TL.tl x
def T.hd : T → List Str
  | .bi w m _ _ => [w.s, m.s]
  | .no w x _ => [w.s, x]
  | .sh x y _ => ["shape", x, y]
  | _ => []
def figs (i : Nat) : List Nat := tl (Str.ofString (toString (i : Int)))
mutual
def T.tx : T → List Nat
  | .at i => 64 :: figs i
  | .world i => 33 :: figs i
  | .hole x => 63 :: tl x
  | .bi w m a b => 40 :: (TL.joinL [32] ([tl w.s, tl m.s] ++ [a.tx, b.tx]) ++ [41])
  | .no w x ts => 40 :: (TL.joinL [32] ([tl w.s, tl x] ++ T.txs ts) ++ [41])
  | .sh x y ts => 40 :: (TL.joinL [32] ([tl "shape", tl x, tl y] ++ T.txs ts) ++ [41])
def T.txs : List T → List (List Nat)
  | [] => []
  | t :: ts => t.tx :: T.txs ts
end
theorem txs_map : ∀ ts : List T, T.txs ts = ts.map T.tx
  | [] => rfl
  | t :: ts => by rw [T.txs, txs_map ts]; rfl
def T.isLeaf : T → Bool
  | .at _ => true
  | .world _ => true
  | .hole _ => true
  | _ => false
theorem tx_node {t : T} (h : t.isLeaf = false) : t.tx = 40 :: (TL.joinL [32] (t.hd.map tl ++ t.parts.map T.tx) ++ [41]) := by
  cases t with
  | bi w m a b => rfl
  | no w x ts => rw [T.tx, txs_map]; rfl
  | sh x y ts => rw [T.tx, txs_map]; rfl
  | _ => cases h
theorem joinL_len (s : List Nat) : ∀ ws : List (List Nat), (TL.joinL s ws).length ≤ (ws.map List.length).sum + ws.length * s.length
  | [] => Nat.zero_le _
  | [p] => by show p.length ≤ _; simp
  | p :: q :: r => by
    show (p ++ (s ++ TL.joinL s (q :: r))).length ≤ _
    have := joinL_len s (q :: r)
    rw [List.length_append, List.length_append]
    simp only [List.map_cons, List.sum_cons, List.length_cons] at this ⊢
    have e : (r.length + 1 + 1) * s.length = (r.length + 1) * s.length + s.length := by rw [Nat.add_mul (r.length + 1) 1, Nat.one_mul]
    omega
theorem figs_len {i : Nat} (h : i < 10 ^ 40) : (figs i).length ≤ 60 := by
  have := smallI_len (B := 10 ^ 50) (Nat.le_refl _) (i := (i : Int)) (decide_eq_true (show (i : Int).natAbs < 10 ^ 50 from Nat.lt_trans h (by decide)))
  rw [TL.len_tl] at this
  exact this
theorem tl_len (x : Str) : (tl x).length = x.length := (TL.len_tl x).symm
mutual
theorem T.tx_len : ∀ (t : T), t.Ok → t.tx.length + 1 ≤ 100 * t.sz
  | .at i, h => by
    show (figs i).length + 1 + 1 ≤ 100
    have := figs_len (i := i) h
    omega
  | .world i, h => by
    show (figs i).length + 1 + 1 ≤ 100
    have h : i ≤ 9 := h
    have := figs_len (i := i) (Nat.lt_of_le_of_lt h (by decide))
    omega
  | .hole x, h => by
    show (tl x).length + 1 + 1 ≤ 100
    rw [tl_len]
    have := (name_asc h).2.2.1
    omega
  | .bi w m a b, h => by
    rw [T.tx, List.length_cons, List.length_append, List.length_singleton, T.sz]
    have e := joinL_len [32] ([tl w.s, tl m.s] ++ [a.tx, b.tx])
    simp only [List.map_append, List.map_cons, List.map_nil, List.sum_append, List.sum_cons, List.sum_nil, List.length_append, List.length_cons, List.length_nil, tl_len] at e
    have := T.tx_len a h.1
    have := T.tx_len b h.2
    have := (w3_facts w).2.2
    have := (mk_facts m).2.2
    omega
  | .no w x ts, h => by
    rw [T.tx, List.length_cons, List.length_append, List.length_singleton, T.sz]
    have e := joinL_len [32] ([tl w.s, tl x] ++ T.txs ts)
    simp only [List.map_append, List.map_cons, List.map_nil, List.sum_append, List.sum_cons, List.sum_nil, List.length_append, List.length_cons, List.length_nil, tl_len] at e
    have := T.txs_len ts h.2
    have := (w2_facts w).2.2
    have := (cl_facts h.1).2.2
    omega
  | .sh x y ts, h => by
    rw [T.tx, List.length_cons, List.length_append, List.length_singleton, T.sz]
    have e := joinL_len [32] ([tl "shape", tl x, tl y] ++ T.txs ts)
    simp only [List.map_append, List.map_cons, List.map_nil, List.sum_append, List.sum_cons, List.sum_nil, List.length_append, List.length_cons, List.length_nil, tl_len, l_shape] at e
    have := T.txs_len ts h.2.2
    have := (name_asc h.2.1).2.2.1
    have := (cl_facts h.1).2.2
    omega
theorem T.txs_len : ∀ (ts : List T), T.Oks ts → ((T.txs ts).map List.length).sum + (T.txs ts).length ≤ 100 * T.szs ts
  | [], _ => Nat.le_refl _
  | t :: ts, h => by
    show t.tx.length + ((T.txs ts).map List.length).sum + ((T.txs ts).length + 1) ≤ 100 * (t.sz + T.szs ts)
    have := T.tx_len t h.1
    have := T.txs_len ts h.2
    omega
end
/-! ### parts_of -/
def partsB (g1 g2 g3 g4 g5 g6 : Nat) : Sxs :=
    (.cons (.set 1 (.ix (.var 0) (.int 0)))
    (.cons (.ite (.cmp .inn (.var 1) (.tup (.cons (.glb g1 (.str "to")) (.cons (.glb g2 (.str "fun")) (.cons (.glb g3 (.str "give")) .nil))))) (.cons (.ret (.sl false (.var 0) (.som (.int 2)) .non))
    .nil) .nil)
    (.cons (.ite (.cmp .inn (.var 1) (.tup (.cons (.glb g4 (.str "family")) (.cons (.glb g5 (.str "call")) (.cons (.glb g6 (.str "shape")) .nil))))) (.cons (.ret (.ix (.var 0) (.neg 1)))
    .nil) .nil)
    (.cons (.ret (.tup .nil))
    .nil))))
/-- a term's first word -/
inductive Wd where | at | world | hole | to | fn | give | family | call | shape
  deriving DecidableEq
def Wd.s : Wd → Str
  | .at => "at" | .world => "world" | .hole => "hole" | .to => "to" | .fn => "fun" | .give => "give" | .family => "family" | .call => "call" | .shape => "shape"
def Wd.is3 : Wd → Bool
  | .to => true | .fn => true | .give => true | _ => false
def Wd.isN : Wd → Bool
  | .family => true | .call => true | .shape => true | _ => false
def Wd.isLeaf : Wd → Bool
  | .at => true | .world => true | .hole => true | _ => false
def T.w : T → Wd
  | .at _ => .at
  | .world _ => .world
  | .hole _ => .hole
  | .bi .to _ _ _ => .to
  | .bi .fn _ _ _ => .fn
  | .bi .give _ _ _ => .give
  | .no .family _ _ => .family
  | .no .call _ _ => .call
  | .sh _ _ _ => .shape
theorem wd_ix (t : T) (S : Sto) : ixD t.d (.int 0) S = .ok (.str t.w.s) S := by
  cases t with
  | bi w m a b => cases w <;> rfl
  | no w x ts => cases w <;> rfl
  | _ => rfl
theorem in_strs (x : Str) (ws : List Str) (S : Sto) : inD (.str x) (.tup (ws.map D.str)) S = .ok (.bl (decide (x ∈ ws))) S := by
  have h1 : (ws.map D.str).all flatD = true := by simp [flatD]
  have h2 : ((ws.map D.str).any fun y => eqF y (.str x)) = decide (x ∈ ws) := by
    induction ws with
    | nil => rfl
    | cons w ws ih =>
      have ih := ih (by simp [flatD])
      rw [List.map_cons, List.any_cons, ih]
      show (decide (w = x) || decide (x ∈ ws)) = decide (x ∈ w :: ws)
      by_cases e : w = x
      · subst e; simp
      · have : x ≠ w := Ne.symm e
        simp [e, this]
  unfold inD inE seqIn
  simp only [flatD, h1, h2, and_self, if_true]
theorem in3 (x a b c : Str) (S : Sto) : inD (.str x) (.tup [.str a, .str b, .str c]) S = .ok (.bl (decide (x ∈ [a, b, c]))) S := in_strs x [a, b, c] S
theorem in2 (x a b : Str) (S : Sto) : inD (.str x) (.tup [.str a, .str b]) S = .ok (.bl (decide (x ∈ [a, b]))) S := in_strs x [a, b] S
theorem wd_3 (w : Wd) : decide (w.s ∈ ([("to" : String), ("fun" : String), ("give" : String)] : List Str)) = w.is3 := by cases w <;> decide +kernel
theorem wd_N (w : Wd) : decide (w.s ∈ ([("family" : String), ("call" : String), ("shape" : String)] : List Str)) = w.isN := by cases w <;> decide +kernel
theorem wd_L (w : Wd) : decide (w.s ∈ ([("at" : String), ("world" : String), ("hole" : String)] : List Str)) = w.isLeaf := by cases w <;> decide +kernel
theorem wd_Sh (w : Wd) : decide (w.s = ("shape" : String)) = decide (w = .shape) := by cases w <;> decide +kernel
theorem parts_b {φ : Nat → List D → M D} {g1 g2 g3 g4 g5 g6 : Nat} (t : T) (S : Sto) : bodyD 2 (evSs φ (partsB g1 g2 g3 g4 g5 g6)) [t.d] S = .ok (.tup (T.ds t.parts)) S := by
  refine W_run ?_
  rw [W_body]
  unfold partsB
  simp [startD, W_of (wd_ix t _), W_of (in3 _ _ _ _ _), wd_3, wd_N, -List.mem_cons]
  cases t with
  | bi w m a b => cases w <;> exact ⟨rfl, rfl⟩
  | no w x ts => cases w <;> exact ⟨rfl, rfl⟩
  | sh x y ts => exact ⟨rfl, rfl⟩
  | _ => rfl
/-! ### joined words -/
theorem strs_S (ws : List (List Nat)) : strs? (ws.map fun w => D.str (SX.S w)) = some (ws.map SX.S) := by
  rw [← strs_of, List.map_map]
  rfl
theorem S_tl' (x : Str) : SX.S (tl x) = x := SX.S_tl x
theorem blank_S : (" " : Str) = SX.S [32] := by decide +kernel
theorem join_ok (ws : List (List Nat)) (S : Sto) (h : (ws.map List.length).sum + ws.length ≤ SL) : joinD (.str " ") [.lst (ws.map fun w => D.str (SX.S w))] S = .ok (.str (SX.S (TL.joinL [32] ws))) S := by
  have e2 : ((ws.map SX.S).map (fun y : Str => y.length)).sum + (ws.map SX.S).length * (" " : Str).length ≤ SL := by
    rw [SX.lens, List.length_map, show ((" " : String) : Str).length = 1 from by decide +kernel, Nat.mul_one]
    exact h
  show (match (some (ws.map fun w => D.str (SX.S w))).bind strs? with | some ys => if (ys.map (fun y : Str => y.length)).sum + ys.length * (" " : Str).length ≤ SL then R.ok (D.str (Txt.join " " ys)) S else .bad | none => .bad) = _
  rw [Option.bind_some, strs_S]
  dsimp only
  rw [if_pos e2, blank_S, SX.join_S]
theorem T.Len (t : T) (h : t.Ok) (hz : t.sz ≤ 1000) (hl : t.isLeaf = false) : ((t.hd.map tl ++ t.parts.map T.tx).map List.length).sum + (t.hd.map tl ++ t.parts.map T.tx).length ≤ 100 * t.sz := by
  have key : ∀ ts : List T, T.Oks ts → ((ts.map T.tx).map List.length).sum + (ts.map T.tx).length ≤ 100 * T.szs ts := fun ts ho => by
    rw [← txs_map]; exact T.txs_len ts ho
  rw [List.map_append, List.sum_append, List.length_append]
  cases t with
  | bi w m a b =>
    have k := key [a, b] ⟨h.1, h.2, trivial⟩
    show ((tl w.s).length + ((tl m.s).length + 0)) + _ + (2 + _) ≤ 100 * (a.sz + b.sz + 1)
    have e : T.szs [a, b] = a.sz + (b.sz + 0) := rfl
    rw [e] at k
    rw [tl_len, tl_len]
    have := (w3_facts w).2.2
    have := (mk_facts m).2.2
    show w.s.length + (m.s.length + 0) + (([a, b].map T.tx).map List.length).sum + (2 + ([a, b].map T.tx).length) ≤ _
    omega
  | no w x ts =>
    have k := key ts h.2
    show ((tl w.s).length + ((tl x).length + 0)) + ((ts.map T.tx).map List.length).sum + (2 + (ts.map T.tx).length) ≤ 100 * (T.szs ts + 1)
    rw [tl_len, tl_len]
    have := (w2_facts w).2.2
    have := (cl_facts h.1).2.2
    omega
  | sh x y ts =>
    have k := key ts h.2.2
    show ((tl "shape").length + ((tl x).length + ((tl y).length + 0))) + ((ts.map T.tx).map List.length).sum + (3 + (ts.map T.tx).length) ≤ 100 * (T.szs ts + 1)
    rw [tl_len, tl_len, tl_len, l_shape]
    have := (name_asc h.2.1).2.2.1
    have := (cl_facts h.1).2.2
    omega
  | _ => cases hl
/-! ### show_term -/
def inBracketsB : Sxs :=
    (.cons (.ret (.bin .add false (.bin .add false (.str "(") (.me .join false (.str " ") (.cons (.var 0) .nil))) (.str ")")))
    .nil)
theorem open_S : ("(" : Str) = SX.S [40] := by decide +kernel
theorem close_S : (")" : Str) = SX.S [41] := by decide +kernel
theorem brackets_b {φ : Nat → List D → M D} (ws : List (List Nat)) (S : Sto) (h : (ws.map List.length).sum + ws.length ≤ 1000000) : bodyD 1 (evSs φ inBracketsB) [.lst (ws.map fun w => D.str (SX.S w))] S = .ok (.str (SX.S (40 :: (TL.joinL [32] ws ++ [41])))) S := by
  refine W_run ?_
  rw [W_body]
  unfold inBracketsB
  have hj := joinL_len [32] ws
  have e1 : ([32] : List Nat).length = 1 := rfl
  rw [e1, Nat.mul_one] at hj
  simp [startD, W_of (join_ok ws S (by show _ ≤ 16777216; omega))]
  rw [W_addS _ (by rw [open_S, SX.S_len, SX.S_len]; show 1 + _ ≤ 16777216; omega)]
  rw [W_addS _ (by rw [open_S, close_S, SX.S_cat, SX.S_len, SX.S_len, List.length_append]; show 1 + _ + 1 ≤ 16777216; omega)]
  refine ⟨?_, rfl⟩
  rw [open_S, close_S, SX.S_cat, SX.S_cat]
  rfl
abbrev aheadK : List (Key × D) := [((.inr "at"), .str "@"), ((.inr "world"), .str "!"), ((.inr "hole"), .str "?")]
def showB (gs g6 kb kp ks : Nat) : Sxs :=
    (.cons (.set 1 (.ix (.var 0) (.int 0)))
    (.cons (.ite (.gin false gs aheadK (.var 1)) (.cons (.ret (.bin .add false (.gix gs aheadK (.var 1)) (.fn .str false (.cons (.ix (.var 0) (.int 1)) .nil))))
    .nil) .nil)
    (.cons (.set 2 (.ife (.cmp .eq (.var 1) (.glb g6 (.str "shape"))) (.fn .list false (.cons (.sl false (.var 0) .non (.som (.int 3))) .nil)) (.fn .list false (.cons (.sl false (.var 0) .non (.som (.int 2))) .nil))))
    (.cons (.ret (.call kb (.cons (.bin .add false (.var 2) (.lc false (.nm 3) (.seq (.call kp (.cons (.var 0) .nil))) .nil (.call ks (.cons (.var 3) .nil)) [3])) .nil)))
    .nil))))
theorem gin_wd (w : Wd) (S : Sto) : ginD false aheadK (.str w.s) S = .ok (.bl w.isLeaf) S := by
  have : (lookK aheadK (.inr w.s)).isSome = w.isLeaf := by cases w <;> decide +kernel
  show R.ok (D.bl (xor false (lookK aheadK (.inr w.s)).isSome)) S = _
  rw [this, Bool.false_xor]
def Wd.sign : Wd → Str
  | .at => "@" | .world => "!" | _ => "?"
theorem gix_wd (w : Wd) (h : w.isLeaf = true) (S : Sto) : gixD aheadK (.str w.s) S = .ok (.str w.sign) S := by
  have : lookK aheadK (.inr w.s) = some (.str w.sign) := by
    cases w <;> first | (cases h; done) | kernel_rfl
  show M.of (lookK aheadK (.inr w.s)) S = _
  rw [this]
  rfl
theorem sign_S : (("@" : String) : Str) = SX.S [64] ∧ (("!" : String) : Str) = SX.S [33] ∧ (("?" : String) : Str) = SX.S [63] := by decide +kernel
/-- what stands behind a leaf's word, told -/
theorem leaf_str (t : T) (h : t.Ok) (hl : t.isLeaf = true) (S : Sto) : ∃ d, ixD t.d (.int 1) S = .ok d S ∧ ∃ x, strD [d] S = .ok (.str x) S ∧ x.length ≤ 60 ∧ t.w.isLeaf = true ∧ t.w.sign.length + x.length ≤ SL ∧ t.w.sign ++ x = SX.S t.tx := by
  have si : ∀ i : Nat, i < 10 ^ 40 → strD [.int i] S = .ok (.str (Str.ofString (toString (i : Int)))) S := fun i hi => by
    show (if (i : Int).natAbs.log2 < 1920 then pure (D.str (toString (i : Int))) else M.fail : M D) S = _
    rw [if_pos (smallI_log (B := 10 ^ 50) (Nat.le_refl _) (decide_eq_true (show (i : Int).natAbs < 10 ^ 50 from Nat.lt_trans hi (by decide))))]; rfl
  have fl : ∀ i : Nat, i < 10 ^ 40 → (Str.ofString (toString (i : Int))).length ≤ 60 := fun i hi => by rw [← tl_len]; exact figs_len hi
  cases t with
  | «at» i =>
    refine ⟨_, rfl, _, si i h, fl i h, rfl, ?_, ?_⟩
    · show (("@" : String) : Str).length + _ ≤ 16777216
      have := fl i h
      rw [sign_S.1, SX.S_len]
      show 1 + _ ≤ _
      omega
    · show (("@" : String) : Str) ++ Str.ofString (toString (i : Int)) = _
      rw [sign_S.1, ← S_tl' (Str.ofString (toString (i : Int))), SX.S_cat]
      rfl
  | world i =>
    have h : i < 10 ^ 40 := Nat.lt_of_le_of_lt (show i ≤ 9 from h) (by decide)
    refine ⟨_, rfl, _, si i h, fl i h, rfl, ?_, ?_⟩
    · show (("!" : String) : Str).length + _ ≤ 16777216
      have := fl i h
      rw [sign_S.2.1, SX.S_len]
      show 1 + _ ≤ _
      omega
    · show (("!" : String) : Str) ++ Str.ofString (toString (i : Int)) = _
      rw [sign_S.2.1, ← S_tl' (Str.ofString (toString (i : Int))), SX.S_cat]
      rfl
  | hole x =>
    obtain ⟨h1, h2, h3, h4⟩ := name_asc h
    refine ⟨_, rfl, x, rfl, by omega, rfl, ?_, ?_⟩
    · show (("?" : String) : Str).length + x.length ≤ 16777216
      rw [sign_S.2.2, SX.S_len]
      show 1 + _ ≤ _
      omega
    · show (("?" : String) : Str) ++ x = _
      rw [sign_S.2.2, ← S_tl' x, SX.S_cat]
      rfl
  | _ => cases hl
theorem leaf_w (t : T) : t.w.isLeaf = t.isLeaf := by
  cases t with
  | bi w m a b => cases w <;> rfl
  | no w x ts => cases w <;> rfl
  | _ => rfl
/-- the words ahead of a node's parts, as they stand -/
theorem node_words (t : T) (hl : t.isLeaf = false) (S : Sto) : (t.w = .shape → sliceE false t.d none (some 3) S = .ok (.tup (t.hd.map D.str)) S) ∧ (t.w ≠ .shape → sliceE false t.d none (some 2) S = .ok (.tup (t.hd.map D.str)) S) := by
  cases t with
  | bi w m a b => cases w <;> exact ⟨fun h => (nomatch h), fun _ => rfl⟩
  | no w x ts => cases w <;> exact ⟨fun h => (nomatch h), fun _ => rfl⟩
  | sh x y ts => exact ⟨fun _ => rfl, fun h => absurd rfl h⟩
  | _ => cases hl
theorem words_S (t : T) (ps : List (List Nat)) : (t.hd.map D.str ++ ps.map fun w => D.str (SX.S w)) = (t.hd.map tl ++ ps).map fun w => D.str (SX.S w) := by
  rw [List.map_append, List.map_map]
  rfl
theorem ds_get {ts : List T} {i : Nat} {d : D} (h : (T.ds ts)[i]? = some d) : ∃ t, ts[i]? = some t ∧ d = t.d ∧ t ∈ ts := by
  rw [ds_map, List.getElem?_map] at h
  obtain ⟨t, e, rfl⟩ := Option.map_eq_some_iff.mp h
  exact ⟨t, e, rfl, List.mem_of_getElem? e⟩
theorem take_succ' {α : Type} {ts : List α} {i : Nat} {t : α} (h : ts[i]? = some t) : ts.take (i + 1) = ts.take i ++ [t] := by
  rw [List.take_add_one, h]
  rfl
theorem hd_len (t : T) : t.hd.length ≤ 3 := by cases t <;> simp [T.hd]
theorem show_F {F : Nat → Nat → List D → M D} {gs g6 kb kp ks g1 g2 g3 g4 g5 : Nat} (hs : IsFn F ks 4 1 (showB gs g6 kb kp ks)) (hb : IsFn F kb 1 1 inBracketsB) (hp : IsFn F kp 2 1 (partsB g1 g2 g3 g4 g5 g6)) :
    ∀ (k : Nat) (t : T) (n : Nat) (S : Sto), t.dp ≤ k → k + 2 ≤ n → t.Ok → t.sz ≤ 1000 → F n ks [t.d] S = .ok (.str (SX.S t.tx)) S := by
  intro k
  induction k with
  | zero =>
    intro t n S hk hn ho hz
    obtain ⟨n, rfl⟩ : ∃ m, n = m + 1 := ⟨n - 1, by omega⟩
    rw [hs n _ rfl]
    refine W_run ?_
    rw [W_body]
    unfold showB
    have hl : t.isLeaf = true := by cases t <;> first | rfl | (simp [T.dp] at hk)
    obtain ⟨d, e1, x, e2, e3, e4, e5, e6⟩ := leaf_str t ho hl S
    simp [startD, W_of (wd_ix t _), W_of (gin_wd _ _), leaf_w, hl, W_of (gix_wd _ e4 _), W_of e1, W_of e2, W_addS _ e5, e6]
  | succ k ih =>
    intro t n S hk hn ho hz
    obtain ⟨n, rfl⟩ : ∃ m, n = m + 2 := ⟨n - 2, by omega⟩
    rw [hs (n + 1) _ rfl]
    refine W_run ?_
    rw [W_body]
    unfold showB
    by_cases hl : t.isLeaf = true
    · obtain ⟨d, e1, x, e2, e3, e4, e5, e6⟩ := leaf_str t ho hl S
      simp [startD, W_of (wd_ix t _), W_of (gin_wd _ _), leaf_w, hl, W_of (gix_wd _ e4 _), W_of e1, W_of e2, W_addS _ e5, e6]
    · have hl : t.isLeaf = false := by simpa using hl
      have he : ∀ S, eqD (.str t.w.s) (.str "shape") S = .ok (.bl (decide (t.w = .shape))) S := fun S => by
        rw [eq_str, wd_Sh]
      obtain ⟨nw1, nw2⟩ := node_words t hl S
      have hpar : F (n + 1) kp [t.d] S = .ok (.tup (T.ds t.parts)) S := by rw [hp n _ rfl]; exact parts_b t S
      have hlist : listD false [.tup (t.hd.map D.str)] S = .ok (.lst (t.hd.map D.str)) S := rfl
      have main : ∀ Q : D → Sto → Prop, Q (.str (SX.S t.tx)) S → W (lcS false (Tg.nm 3).ev (evA (F (n + 1)) .nil) (evE (F (n + 1)) (.call ks (.cons (.var 3) .nil))) (wipeE [some t.d, some (.str t.w.s), some (.lst (t.hd.map D.str)), none] [3]) (.fix (T.ds t.parts))) S (fun e S2 => W (addD false (.lst (t.hd.map D.str)) e) S2 (fun d S1 => W (F (n + 1) kb [d]) S1 Q)) := by
        intro Q hQ
        have hpl : t.parts.length ≤ 1000 := by
          have := szs_len t.parts
          have := parts_sz t
          omega
        refine W_lcS (I := fun i acc S' => S' = S ∧ acc = ((t.parts.take i).map T.tx).map fun w => D.str (SX.S w)) ?_ ⟨rfl, rfl⟩ ?_ ?_
        · rw [ds_len]; show _ ≤ 16777216; omega
        · rintro i d acc S' hi ⟨rfl, rfl⟩ _
          obtain ⟨u, hu, rfl, hm⟩ := ds_get hi
          have := ih u (n + 1) S' (by have := parts_dp u hm; omega) (by omega) (parts_ok ho u hm) (by have := szs_mem hm; have := parts_sz t; omega)
          simp [wipeE, W_of this, take_succ' hu]
        · rintro ys S' ⟨rfl, rfl⟩ _
          rw [ds_len, List.take_length, W_newF, W_addL _ (by rw [List.length_map, List.length_map, List.length_map]; have := hd_len t; show _ ≤ 16777216; omega), W_newF, words_S]
          have hb' : F (n + 1) kb [.lst ((t.hd.map tl ++ t.parts.map T.tx).map fun w => D.str (SX.S w))] S' = .ok (.str (SX.S (40 :: (TL.joinL [32] (t.hd.map tl ++ t.parts.map T.tx) ++ [41])))) S' := by
            rw [hb n _ rfl]
            refine brackets_b _ _ ?_
            have := T.Len t ho hz hl
            omega
          rw [W_of hb', ← tx_node hl]
          exact hQ
      by_cases hw : t.w = .shape
      · have he' : eqD (.str t.w.s) (.str "shape") S = .ok (.bl true) S := by rw [he, decide_eq_true hw]
        simp [startD, W_of (wd_ix t _), W_of (gin_wd _ _), leaf_w, hl, W_of he', W_of (nw1 hw), W_of hlist, W_of hpar]
        exact main (fun b S1 => b = D.str (SX.S t.tx) ∧ S1 = S) ⟨rfl, rfl⟩
      · have he' : eqD (.str t.w.s) (.str "shape") S = .ok (.bl false) S := by rw [he, decide_eq_false hw]
        simp [startD, W_of (wd_ix t _), W_of (gin_wd _ _), leaf_w, hl, W_of he', W_of (nw2 hw), W_of hlist, W_of hpar]
        exact main (fun b S1 => b = D.str (SX.S t.tx) ∧ S1 = S) ⟨rfl, rfl⟩
end PL

/-! PL6: the law's own text. -/
namespace PL
open MP PySem L2
def lawTextB (kt : Nat) : Sxs :=
    (.cons (.set 1 (.ix (.var 0) (.int 0)))
    (.cons (.ite (.cmp .inn (.var 1) (.tup (.cons (.str "at") (.cons (.str "world") (.cons (.str "hole") .nil))))) (.cons (.ret (.bin .add false (.ix (.dicC false [((.inr "at"), (.inr "@")), ((.inr "world"), (.inr "!")), ((.inr "hole"), (.inr "?"))]) (.var 1)) (.fn .str false (.cons (.ix (.var 0) (.int 1)) .nil))))
    .nil) .nil)
    (.cons (.set 2 (.ife (.cmp .inn (.var 1) (.tup (.cons (.str "to") (.cons (.str "fun") (.cons (.str "give") .nil))))) (.lst false (.cons (.ix (.var 0) (.int 2)) (.cons (.ix (.var 0) (.int 3)) .nil))) (.fn .list false (.cons (.ix (.var 0) (.neg 1)) .nil))))
    (.cons (.set 3 (.bin .add false (.lst false (.cons (.var 1) (.cons (.ix (.var 0) (.int 1)) .nil))) (.bin .mul false (.lst false (.cons (.ix (.var 0) (.int 2)) .nil)) (.fn .int false (.cons (.cmp .eq (.var 1) (.str "shape")) .nil)))))
    (.cons (.ret (.bin .add false (.bin .add false (.str "(") (.me .join false (.str " ") (.cons (.bin .add false (.var 3) (.lc false (.nm 4) (.seq (.var 2)) .nil (.call kt (.cons (.var 4) .nil)) [4])) .nil))) (.str ")")))
    .nil)))))
abbrev signD : List (Key × D) := mergeD [] [((.inr "at"), keyC (.inr "@")), ((.inr "world"), keyC (.inr "!")), ((.inr "hole"), keyC (.inr "?"))]
theorem sign_ix (w : Wd) (h : w.isLeaf = true) (S : Sto) : ixD (.dic signD) (.str w.s) S = .ok (.str w.sign) S := by
  have : lookK signD (.inr w.s) = some (.str w.sign) := by
    cases w <;> first | (cases h; done) | kernel_rfl
  show (match (some signD).bind (lookK · (.inr w.s)) with | some e => R.ok e S | none => .bad) = _
  rw [Option.bind_some, this]
@[simp ↓] theorem W_newDF (kvs : List (Key × D)) (S : Sto) (Q) : W (newD false kvs) S Q = Q (.dic kvs) S := (rfl)
theorem W_ixT {xs : List D} {i : Int} {x : D} (h : atI xs i = some x) (S : Sto) (Q) : W (ixD (.tup xs) (.int i)) S Q = Q x S := W_of (by rw [ixD_tup, h]) Q
theorem W_intB (b : Bool) (S : Sto) (Q) : W (intD [.bl b]) S Q = Q (.int (if b then 1 else 0)) S := rfl
theorem mul1 (x : D) (S : Sto) : mulM false (.lst [x]) (.int 1) S = .ok (.lst [x]) S := rfl
theorem mul0 (x : D) (S : Sto) : mulM false (.lst [x]) (.int 0) S = .ok (.lst []) S := rfl
/-- the words and the parts, as the law makes them -/
theorem law_words (t : T) (hl : t.isLeaf = false) (φ : Nat → List D → M D) (S : Sto) : ∃ ρ2 : MP.Env, evS φ (.set 2 (.ife (.cmp .inn (.var 1) (.tup (.cons (.str "to") (.cons (.str "fun") (.cons (.str "give") .nil))))) (.lst false (.cons (.ix (.var 0) (.int 2)) (.cons (.ix (.var 0) (.int 3)) .nil))) (.fn .list false (.cons (.ix (.var 0) (.neg 1)) .nil)))) [some t.d, some (.str t.w.s), none, none, none] S = .ok (.next ρ2) S ∧
    evS φ (.set 3 (.bin .add false (.lst false (.cons (.var 1) (.cons (.ix (.var 0) (.int 1)) .nil))) (.bin .mul false (.lst false (.cons (.ix (.var 0) (.int 2)) .nil)) (.fn .int false (.cons (.cmp .eq (.var 1) (.str "shape")) .nil))))) ρ2 S = .ok (.next [some t.d, some (.str t.w.s), some (.lst (T.ds t.parts)), some (.lst (t.hd.map D.str)), none]) S := by
  cases t with
  | bi w m a b => cases w <;> exact ⟨_, rfl, rfl⟩
  | no w x ts => cases w <;> exact ⟨_, rfl, rfl⟩
  | sh x y ts => exact ⟨_, rfl, rfl⟩
  | _ => cases hl
theorem law_s1 (t : T) (φ : Nat → List D → M D) (S : Sto) (a b c : Option D) : evS φ (.set 1 (.ix (.var 0) (.int 0))) [some t.d, none, a, b, c] S = .ok (.next [some t.d, some (.str t.w.s), a, b, c]) S := by
  refine W_run ?_
  simp [W_of (wd_ix t _)]
theorem law_s2 (t : T) (ho : t.Ok) (φ : Nat → List D → M D) (S : Sto) (a b c : Option D) : evS φ (.ite (.cmp .inn (.var 1) (.tup (.cons (.str "at") (.cons (.str "world") (.cons (.str "hole") .nil))))) (.cons (.ret (.bin .add false (.ix (.dicC false [((.inr "at"), (.inr "@")), ((.inr "world"), (.inr "!")), ((.inr "hole"), (.inr "?"))]) (.var 1)) (.fn .str false (.cons (.ix (.var 0) (.int 1)) .nil))))
    .nil) .nil) [some t.d, some (.str t.w.s), a, b, c] S = .ok (if t.isLeaf = true then .ret (.str (SX.S t.tx)) else .next [some t.d, some (.str t.w.s), a, b, c]) S := by
  refine W_run ?_
  by_cases hl : t.isLeaf = true
  · obtain ⟨d, e1, x, e2, e3, e4, e5, e6⟩ := leaf_str t ho hl S
    have e7 : decide (t.w.s ∈ ([("at" : String), ("world" : String), ("hole" : String)] : List Str)) = true := by rw [wd_L, leaf_w, hl]
    have hi := in3 t.w.s "at" "world" "hole" S
    rw [e7] at hi
    simp [W_of hi, W_of (sign_ix _ e4 _), W_of e1, W_of e2, W_addS _ e5, e6, hl]
  · have hl : t.isLeaf = false := by simpa using hl
    have e7 : decide (t.w.s ∈ ([("at" : String), ("world" : String), ("hole" : String)] : List Str)) = false := by rw [wd_L, leaf_w, hl]
    have hi := in3 t.w.s "at" "world" "hole" S
    rw [e7] at hi
    simp [W_of hi, hl]
theorem lawText_F {F : Nat → Nat → List D → M D} {kt : Nat} (hs : IsFn F kt 5 1 (lawTextB kt)) :
    ∀ (k : Nat) (t : T) (n : Nat) (S : Sto), t.dp ≤ k → k + 1 ≤ n → t.Ok → t.sz ≤ 1000 → F n kt [t.d] S = .ok (.str (SX.S t.tx)) S := by
  intro k
  induction k with
  | zero =>
    intro t n S hk hn ho hz
    obtain ⟨n, rfl⟩ : ∃ m, n = m + 1 := ⟨n - 1, by omega⟩
    rw [hs n _ rfl]
    refine W_run ?_
    rw [W_body]
    unfold lawTextB
    have hl : t.isLeaf = true := by cases t <;> first | rfl | (simp [T.dp] at hk)
    show W (evSs (F n) _ [some t.d, none, none, none, none]) S _
    rw [WSs_cons, W_of (law_s1 t _ _ _ _ _), W_thenN, WSs_cons, W_of (law_s2 t ho _ _ _ _ _), if_pos hl, W_thenR]
    exact ⟨rfl, rfl⟩
  | succ k ih =>
    intro t n S hk hn ho hz
    obtain ⟨n, rfl⟩ : ∃ m, n = m + 1 := ⟨n - 1, by omega⟩
    rw [hs n _ rfl]
    refine W_run ?_
    rw [W_body]
    unfold lawTextB
    show W (evSs (F n) _ [some t.d, none, none, none, none]) S _
    rw [WSs_cons, W_of (law_s1 t _ _ _ _ _), W_thenN, WSs_cons, W_of (law_s2 t ho _ _ _ _ _)]
    by_cases hl : t.isLeaf = true
    · rw [if_pos hl, W_thenR]
      exact ⟨rfl, rfl⟩
    · rw [if_neg hl, W_thenN]
      have hl : t.isLeaf = false := by simpa using hl
      obtain ⟨ρ2, l1, l2⟩ := law_words t hl (F n) S
      rw [WSs_cons, W_of l1, W_thenN, WSs_cons, W_of l2, W_thenN]
      simp
      have hpl : t.parts.length ≤ 1000 := by
        have := szs_len t.parts
        have := parts_sz t
        omega
      refine W_lcS (I := fun i acc S' => S' = S ∧ acc = ((t.parts.take i).map T.tx).map fun w => D.str (SX.S w)) ?_ ⟨rfl, rfl⟩ ?_ ?_
      · rw [ds_len]; show _ ≤ 16777216; omega
      · rintro i d acc S' hi ⟨rfl, rfl⟩ _
        obtain ⟨u, hu, rfl, hm⟩ := ds_get hi
        have := ih u n S' (by have := parts_dp u hm; omega) (by omega) (parts_ok ho u hm) (by have := szs_mem hm; have := parts_sz t; omega)
        simp [wipeE, W_of this, take_succ' hu]
      · rintro ys S' ⟨rfl, rfl⟩ _
        have hL := T.Len t ho hz hl
        have hj := joinL_len [32] (t.hd.map tl ++ t.parts.map T.tx)
        have e1 : ([32] : List Nat).length = 1 := rfl
        rw [e1, Nat.mul_one] at hj
        rw [ds_len, List.take_length, W_newF, W_addL _ (by rw [List.length_map, List.length_map, List.length_map]; have := hd_len t; show _ ≤ 16777216; omega), W_newF, words_S]
        rw [W_of (join_ok _ _ (by show _ ≤ 16777216; omega))]
        rw [W_addS _ (by rw [open_S, SX.S_len, SX.S_len]; show 1 + _ ≤ 16777216; omega)]
        rw [W_addS _ (by rw [open_S, close_S, SX.S_cat, SX.S_len, SX.S_len, List.length_append]; show 1 + _ + 1 ≤ 16777216; omega)]
        refine ⟨?_, rfl⟩
        rw [open_S, close_S, SX.S_cat, SX.S_cat, tx_node hl]
        rfl
end PL

/-! PL7: the texts of terms, word by word. -/
namespace PL
open MP PySem L2
/-! ### figures -/
theorem figs_num (i : Nat) : figs i = TL.numL i := TL.tl_num i
theorem num_head : ∀ (n : Nat), 1 ≤ n → (TL.numL n).head? ≠ some 48 := by
  intro n
  induction n using Nat.strongRecOn with
  | _ n ih =>
    intro h
    by_cases h10 : n < 10
    · rw [TL.numL_lt h10]
      simp
      omega
    · rw [TL.numL_step (by omega)]
      have := ih (n / 10) (by omega) (by omega)
      have ne := TL.numL_ne (n / 10)
      cases q : TL.numL (n / 10) with
      | nil => exact absurd q ne
      | cons a r => rw [q] at this; exact this
theorem num_fig' {i : Nat} (h : i < 10 ^ 40) : figS (SX.S (figs i)) = true ∧ (1 ≤ i → SX.S (figs i) ≠ "0") := by
  have hd := TL.numL_digits i
  have hl := TL.numL_len (n := i) (k := 40) (by decide) h
  have ne := TL.numL_ne i
  have z : ("0" : Str) = SX.S [48] := by decide +kernel
  rw [figs_num]
  have z0 : 1 ≤ i → SX.S (TL.numL i) ≠ "0" := by
    intro h1 e
    rw [z] at e
    have e := SX.S_inj e
    exact num_head i h1 (by rw [e]; rfl)
  refine ⟨?_, z0⟩
  unfold figS
  rw [SX.S_len]
  have h1 : 1 ≤ (TL.numL i).length := by
    cases q : TL.numL i with
    | nil => exact absurd q ne
    | cons _ _ => simp
  have h2 : (TL.numL i).all figB = true := by
    rw [List.all_eq_true]
    intro c hc
    have := hd c hc
    unfold figB
    simp
    omega
  have h3 : (decide (SX.S (TL.numL i) = "0") || !((TL.numL i).head? == some 48)) = true := by
    by_cases hi : 1 ≤ i
    · have := num_head i hi
      rw [Bool.or_eq_true]
      right
      simpa using this
    · obtain rfl : i = 0 := by omega
      rw [TL.numL_lt (by decide)]
      decide +kernel
  show (decide (1 ≤ (TL.numL i).length) && decide ((TL.numL i).length ≤ 40) && (TL.numL i).all figB && (decide (SX.S (TL.numL i) = "0") || !((TL.numL i).head? == some 48))) = true
  rw [h2, h3, decide_eq_true h1, decide_eq_true hl]
  rfl
theorem int_figs {i : Nat} (h : i < 10 ^ 40) (S : Sto) : intD [.str (SX.S (figs i))] S = .ok (.int i) S := by
  have hl := TL.numL_len (n := i) (k := 40) (by decide) h
  have e : SX.S (figs i) = Str.ofString (toString (i : Int)) := S_tl' _
  have e1 : intText? (SX.S (figs i)) = some (i : Int) := by rw [e]; exact TL.int_num (by omega)
  show (match intText? (SX.S (figs i)) with | some n => if (SX.S (figs i)).length ≤ 640 then pure (D.int n) else M.fail | none => M.fail : M D) S = _
  rw [e1]
  dsimp only
  rw [if_pos (by rw [SX.S_len, figs_num]; omega)]
  rfl
/-! ### brackets with blanks -/
theorem repl1 (y : Nat) (z : List Nat) : ∀ l : List Nat, StrLaws.replL [y] z l = l.flatMap fun c => if c = y then z else [c]
  | [] => StrLaws.replL_nil
  | c :: r => by
    by_cases h : c = y
    · subst h
      rw [StrLaws.replL_hit (by simp) rfl, List.flatMap_cons, if_pos rfl]
      show z ++ StrLaws.replL [c] z r = _
      rw [repl1 c z r]
    · rw [StrLaws.replL_miss (by simpa using h), List.flatMap_cons, if_neg h, repl1 y z r]
      rfl
def ex1 (c : Nat) : List Nat := if c = 40 then [40, 32] else if c = 41 then [32, 41] else [c]
def ex (l : List Nat) : List Nat := l.flatMap ex1
theorem ex_append (a b : List Nat) : ex (a ++ b) = ex a ++ ex b := List.flatMap_append
theorem ex_two (l : List Nat) : ((l.flatMap fun c => if c = 40 then [40, 32] else [c]).flatMap fun c => if c = 41 then [32, 41] else [c]) = ex l := by
  unfold ex
  induction l with
  | nil => rfl
  | cons c r ih =>
    rw [List.flatMap_cons, List.flatMap_append, ih, List.flatMap_cons]
    congr 1
    unfold ex1
    by_cases h : c = 40
    · subst h; rfl
    · rw [if_neg h, if_neg h]
      simp
theorem ex_free : ∀ {l : List Nat}, 40 ∉ l → 41 ∉ l → ex l = l
  | [], _, _ => rfl
  | c :: r, h, h' => by
    have i := ex_free (l := r) (fun m => h (List.mem_cons_of_mem _ m)) (fun m => h' (List.mem_cons_of_mem _ m))
    show ex1 c ++ ex r = _
    rw [i]
    unfold ex1
    rw [if_neg (fun e => h (by rw [e]; simp)), if_neg (fun e => h' (by rw [e]; simp))]
    rfl
theorem replace_ex (l : List Nat) : Txt.replace (Txt.replace (SX.S l) "(" "( ") ")" " )" = SX.S (ex l) := by
  refine TL.ext_tl ?_
  have o1 : ("(" : Str).cps.toList = [40] := by decide +kernel
  have o2 : ("( " : Str).cps.toList = [40, 32] := by decide +kernel
  have c1 : (")" : Str).cps.toList = [41] := by decide +kernel
  have c2 : (" )" : Str).cps.toList = [32, 41] := by decide +kernel
  have e := StrLaws.replace_list (x := Txt.replace (SX.S l) "(" "( ") (y := ")") (z := " )") (by decide +kernel)
  rw [StrLaws.replace_list (x := SX.S l) (y := "(") (z := "( ") (by decide +kernel), o1, o2, c1, c2, repl1, repl1, ex_two] at e
  exact e
/-! ### words joined -/
theorem joinL_cons {s : List Nat} (a : List Nat) {ws : List (List Nat)} (h : ws ≠ []) : TL.joinL s (a :: ws) = a ++ (s ++ TL.joinL s ws) := by
  cases ws with
  | nil => exact absurd rfl h
  | cons b r => rfl
theorem joinL_append {s : List Nat} : ∀ {xs ys : List (List Nat)}, xs ≠ [] → ys ≠ [] → TL.joinL s (xs ++ ys) = TL.joinL s xs ++ (s ++ TL.joinL s ys)
  | [x], ys, _, h => by rw [List.singleton_append, joinL_cons x h]; rfl
  | x :: y :: r, ys, _, h => by
    rw [List.cons_append, joinL_cons x (by simp), joinL_append (xs := y :: r) (by simp) h, joinL_cons x (by simp)]
    simp [List.append_assoc]
theorem joinL_flat {s : List Nat} : ∀ {xss : List (List (List Nat))}, (∀ xs ∈ xss, xs ≠ []) → TL.joinL s (xss.map (TL.joinL s)) = TL.joinL s xss.flatten
  | [], _ => rfl
  | [xs], _ => by simp [TL.joinL]
  | xs :: ys :: r, h => by
    have hy := h ys (by simp)
    rw [List.map_cons, joinL_cons _ (by simp), joinL_flat (xss := ys :: r) fun z hz => h z (List.mem_cons_of_mem _ hz), List.flatten_cons (l := xs), joinL_append (h xs (by simp))]
    intro e
    rw [List.flatten_cons] at e
    exact hy (List.append_eq_nil_iff.mp e).1
theorem ex_join : ∀ ws : List (List Nat), ex (TL.joinL [32] ws) = TL.joinL [32] (ws.map ex)
  | [] => rfl
  | [w] => rfl
  | w :: v :: r => by
    rw [joinL_cons w (by simp), ex_append, ex_append, ex_join (v :: r), List.map_cons (l := v :: r), joinL_cons (ex w) (by simp)]
    rfl
/-! ### the words of a term -/
mutual
def T.tk : T → List (List Nat)
  | .bi w m a b => [40] :: ([tl w.s, tl m.s] ++ (a.tk ++ b.tk) ++ [[41]])
  | .no w x ts => [40] :: ([tl w.s, tl x] ++ T.tks ts ++ [[41]])
  | .sh x y ts => [40] :: ([tl "shape", tl x, tl y] ++ T.tks ts ++ [[41]])
  | .at i => [64 :: figs i]
  | .world i => [33 :: figs i]
  | .hole x => [63 :: tl x]
def T.tks : List T → List (List Nat)
  | [] => []
  | t :: ts => t.tk ++ T.tks ts
end
theorem tks_map : ∀ ts : List T, T.tks ts = (ts.map T.tk).flatten
  | [] => rfl
  | t :: ts => by rw [T.tks, tks_map ts]; rfl
theorem tk_node {t : T} (h : t.isLeaf = false) : t.tk = [40] :: (t.hd.map tl ++ (t.parts.map T.tk).flatten ++ [[41]]) := by
  cases t with
  | bi w m a b => rw [T.tk]; simp [T.hd, T.parts]
  | no w x ts => rw [T.tk, tks_map]; rfl
  | sh x y ts => rw [T.tk, tks_map]; rfl
  | _ => cases h
theorem tk_leaf {t : T} (h : t.isLeaf = true) : t.tk = [t.tx] := by
  cases t <;> first | rfl | cases h
theorem tk_ne (t : T) : t.tk ≠ [] := by
  cases t <;> simp [T.tk]
/-- the signs of a term's words -/
def Good (w : List Nat) : Prop := w ≠ [] ∧ 32 ∉ w ∧ 40 ∉ w ∧ 41 ∉ w
theorem low_good {w : List Nat} (h1 : w ≠ []) (h : ∀ c ∈ w, lowB c = true ∨ figB c = true ∨ c = 46) : Good w := by
  have no : ∀ k ∈ w, k ≠ 32 ∧ k ≠ 40 ∧ k ≠ 41 := by
    intro k hk
    rcases h k hk with h | h | h
    · unfold lowB at h; simp at h; omega
    · unfold figB at h; simp at h; omega
    · omega
  exact ⟨h1, fun m => (no _ m).1 rfl, fun m => (no _ m).2.1 rfl, fun m => (no _ m).2.2 rfl⟩
theorem len_ne {x : Str} (h : 1 ≤ x.length) : tl x ≠ [] := fun e => by
  rw [← tl_len, e] at h
  simp at h
theorem name_sig {x : Str} (h : nameS x = true) : tl x ≠ [] ∧ ∀ c ∈ tl x, lowB c = true := by
  obtain ⟨_, h1, _, h2⟩ := name_asc h
  exact ⟨len_ne h1, h2⟩
theorem cl_sig {x : Str} (h : Cl x) : ∃ c r, tl x = c :: r ∧ lowB c = true ∧ ∀ c ∈ tl x, lowB c = true ∨ figB c = true ∨ c = 46 := by
  rcases h with h | h
  · obtain ⟨n1, n2⟩ := name_sig h
    cases q : tl x with
    | nil => exact absurd q n1
    | cons c r =>
      rw [q] at n2
      exact ⟨c, r, rfl, n2 c (by simp), fun c hc => .inl (n2 c hc)⟩
  · obtain ⟨a, b, c, ha, hb, h0, hc, rfl⟩ := h.parts
    obtain ⟨a1, a2⟩ := name_sig ha
    obtain ⟨c1, c2⟩ := name_sig hc
    have b2 := (fig_asc hb).2.2.2
    have ed : tl ("." : Str) = [46] := by decide +kernel
    have e : tl (a ++ "." ++ b ++ "." ++ c) = tl a ++ [46] ++ tl b ++ [46] ++ tl c := by
      show TL.tl _ = _
      rw [TL.tl_append, TL.tl_append, TL.tl_append, TL.tl_append]
      show tl a ++ tl "." ++ tl b ++ tl "." ++ tl c = _
      rw [ed]
    rw [e]
    cases q : tl a with
    | nil => exact absurd q a1
    | cons k r =>
      rw [q] at a2
      refine ⟨k, r ++ [46] ++ tl b ++ [46] ++ tl c, by simp, a2 k (by simp), fun z hz => ?_⟩
      simp only [List.mem_append, List.mem_cons, List.not_mem_nil, or_false] at hz
      rcases hz with (((hz | hz) | hz) | hz) | hz
      · exact .inl (a2 z (by simpa using hz))
      · exact .inr (.inr hz)
      · exact .inr (.inl (b2 z hz))
      · exact .inr (.inr hz)
      · exact .inl (c2 z hz)
theorem cl_good {x : Str} (h : Cl x) : Good (tl x) := by
  obtain ⟨c, r, e, h1, h2⟩ := cl_sig h
  exact low_good (by rw [e]; simp) h2
theorem w3_sig (w : W3) : ∃ c r, tl w.s = c :: r ∧ lowB c = true ∧ ∀ c ∈ tl w.s, lowB c = true := by
  have : nameS w.s = true := by cases w <;> decide +kernel
  obtain ⟨n1, n2⟩ := name_sig this
  cases q : tl w.s with
  | nil => exact absurd q n1
  | cons c r => rw [q] at n2; exact ⟨c, r, rfl, n2 c (by simp), n2⟩
theorem hd_names {t : T} (ho : t.Ok) : ∀ x ∈ t.hd, Cl x := by
  cases t with
  | bi w m a b =>
    intro x hx
    simp [T.hd] at hx
    rcases hx with rfl | rfl
    · left; cases w <;> decide +kernel
    · left; cases m <;> decide +kernel
  | no w x ts =>
    intro y hy
    simp [T.hd] at hy
    rcases hy with rfl | rfl
    · left; cases w <;> decide +kernel
    · exact ho.1
  | sh x y ts =>
    intro z hz
    simp [T.hd] at hz
    rcases hz with rfl | rfl | rfl
    · left; decide +kernel
    · exact ho.1
    · exact .inl ho.2.1
  | _ => intro x hx; simp [T.hd] at hx
theorem hd_ne {t : T} (h : t.isLeaf = false) : t.hd ≠ [] := by
  cases t <;> first | (cases h; done) | simp [T.hd]
theorem leaf_good {t : T} (ho : t.Ok) (h : t.isLeaf = true) : Good t.tx := by
  have fg : ∀ i, i < 10 ^ 40 → ∀ k, k ∉ [32, 40, 41] → 32 ∉ k :: figs i ∧ 40 ∉ k :: figs i ∧ 41 ∉ k :: figs i := by
    intro i hi k hk
    rw [figs_num]
    simp at hk
    have f := fun s hs => TL.numL_free (n := i) (s := s) hs
    refine ⟨?_, ?_, ?_⟩
    · intro m; rcases List.mem_cons.mp m with m | m; exact hk.1 m.symm; exact f 32 (by omega) m
    · intro m; rcases List.mem_cons.mp m with m | m; exact hk.2.1 m.symm; exact f 40 (by omega) m
    · intro m; rcases List.mem_cons.mp m with m | m; exact hk.2.2 m.symm; exact f 41 (by omega) m
  cases t with
  | «at» i => exact ⟨by simp [T.tx], fg i ho 64 (by decide)⟩
  | world i => exact ⟨by simp [T.tx], fg i (Nat.lt_of_le_of_lt (show i ≤ 9 from ho) (by decide)) 33 (by decide)⟩
  | hole x =>
    obtain ⟨n1, n2⟩ := name_sig ho
    have g := low_good n1 fun c hc => .inl (n2 c hc)
    rw [T.tx]
    refine ⟨by simp, ?_, ?_, ?_⟩
    · intro m; rcases List.mem_cons.mp m with m | m; exact absurd m (by decide); exact g.2.1 m
    · intro m; rcases List.mem_cons.mp m with m | m; exact absurd m (by decide); exact g.2.2.1 m
    · intro m; rcases List.mem_cons.mp m with m | m; exact absurd m (by decide); exact g.2.2.2 m
  | _ => cases h
/-- each word of a term is good, or a bracket -/
theorem tk_words : ∀ (k : Nat) (t : T), t.dp ≤ k → t.Ok → ∀ w ∈ t.tk, 32 ∉ w := by
  intro k
  induction k with
  | zero =>
    intro t hk ho w hw
    have hl : t.isLeaf = true := by cases t <;> first | rfl | (simp [T.dp] at hk)
    rw [tk_leaf hl] at hw
    rw [List.mem_singleton.mp hw]
    exact (leaf_good ho hl).2.1
  | succ k ih =>
    intro t hk ho w hw
    by_cases hl : t.isLeaf = true
    · rw [tk_leaf hl] at hw
      rw [List.mem_singleton.mp hw]
      exact (leaf_good ho hl).2.1
    · have hl : t.isLeaf = false := by simpa using hl
      rw [tk_node hl] at hw
      simp only [List.mem_cons, List.mem_append, List.mem_map, List.mem_flatten, List.not_mem_nil, or_false] at hw
      rcases hw with rfl | (⟨x, hx, rfl⟩ | ⟨l, ⟨u, hu, rfl⟩, hw⟩) | rfl
      · decide
      · exact (cl_good (hd_names ho x hx)).2.1
      · exact ih u (by have := parts_dp u hu; omega) (parts_ok ho u hu) w hw
      · decide
theorem tk_text : ∀ (k : Nat) (t : T), t.dp ≤ k → t.Ok → ex t.tx = TL.joinL [32] t.tk := by
  intro k
  induction k with
  | zero =>
    intro t hk ho
    have hl : t.isLeaf = true := by cases t <;> first | rfl | (simp [T.dp] at hk)
    rw [tk_leaf hl]
    have g := leaf_good ho hl
    exact ex_free g.2.2.1 g.2.2.2
  | succ k ih =>
    intro t hk ho
    by_cases hl : t.isLeaf = true
    · rw [tk_leaf hl]
      have g := leaf_good ho hl
      exact ex_free g.2.2.1 g.2.2.2
    · have hl : t.isLeaf = false := by simpa using hl
      have hne : t.hd.map tl ≠ [] := fun e => hd_ne hl (List.map_eq_nil_iff.mp e)
      rw [tx_node hl, tk_node hl]
      show ex1 40 ++ ex (TL.joinL [32] (t.hd.map tl ++ t.parts.map T.tx) ++ [41]) = _
      rw [ex_append, ex_join]
      have e1 : (t.hd.map tl ++ t.parts.map T.tx).map ex = (((t.hd.map tl).map fun w => [w]) ++ t.parts.map T.tk).map (TL.joinL [32]) := by
        rw [List.map_append, List.map_append, List.map_map, List.map_map, List.map_map]
        congr 1
        · rw [List.map_map]
          apply List.map_congr_left
          intro x hx
          have g := cl_good (hd_names ho x hx)
          show ex (tl x) = _
          rw [ex_free g.2.2.1 g.2.2.2]
          rfl
        · rw [List.map_map]
          apply List.map_congr_left
          intro u hu
          exact ih u (by have := parts_dp u hu; omega) (parts_ok ho u hu)
      have e2 : ((((t.hd.map tl).map fun w => [w]) ++ t.parts.map T.tk)).flatten = t.hd.map tl ++ (t.parts.map T.tk).flatten := by
        rw [List.flatten_append]
        congr 1
        induction t.hd.map tl with
        | nil => rfl
        | cons a r ih => simpa using ih
      rw [e1, joinL_flat, e2]
      · show [40, 32] ++ (TL.joinL [32] _ ++ [32, 41]) = _
        rw [joinL_cons [40] (by simp), joinL_append (xs := t.hd.map tl ++ (t.parts.map T.tk).flatten) (fun e => hne (List.append_eq_nil_iff.mp e).1) (by simp)]
        simp [TL.joinL]
      · intro xs hx
        rcases List.mem_append.mp hx with hx | hx
        · obtain ⟨w, _, rfl⟩ := List.mem_map.mp hx
          simp
        · obtain ⟨u, _, rfl⟩ := List.mem_map.mp hx
          exact tk_ne u
theorem tk_split (t : T) (ho : t.Ok) : Txt.split (SX.S (ex t.tx)) " " = t.tk.map SX.S := by
  rw [blank_S, SX.split_S (by simp) (by decide), tk_text t.dp t (Nat.le_refl _) ho, TL.spl_join (tk_ne t) (tk_words t.dp t (Nat.le_refl _) ho)]
end PL

/-! PL8: what reads a term's text: words, lists in brackets. -/
namespace PL
open MP PySem L2
/-! ### comprehensions over what is walked -/
theorem W_lcG {src : Src} {m : Bool} {ga : D → MP.Env → M MP.Env} {gt : MP.Env → M Bool} {ge : MP.Env → M D} {ρw : MP.Env} {xs : List D} {S : Sto} {Q : D → Sto → Prop} (I : Nat → List D → Sto → Prop) (hat : ∀ i acc S, I i acc S → src.at S i = some xs[i]?) (hlen : xs.length ≤ src.len S) (h3 : xs.length ≤ SL) (h0 : I 0 [] S)
    (h : ∀ i d acc S, xs[i]? = some d → I i acc S → acc.length ≤ i → W (ga d ρw) S (fun ρ1 S1 => W (gt ρ1) S1 (fun b S2 => if b = true then W (ge ρ1) S2 (fun y S3 => I (i + 1) (acc ++ [y]) S3) else I (i + 1) acc S2)))
    (hq : ∀ ys S', I xs.length ys S' → ys.length ≤ xs.length → W (newL m ys) S' Q) : W (lcS m ga gt ge ρw src) S Q := by
  have key : ∀ (k i : Nat) (acc : List D) (S : Sto), i ≤ xs.length → xs.length < i + k → acc.length ≤ i → I i acc S → W (lcF src ga gt ge ρw k i acc) S (fun ys S' => I xs.length ys S' ∧ ys.length ≤ xs.length) := by
    intro k
    induction k with
    | zero => intro i acc S h0 h1; omega
    | succ k ih =>
      intro i acc S h0 h1 h2 hI
      by_cases hi : i < xs.length
      · have e : xs[i]? = some xs[i] := List.getElem?_eq_getElem hi
        have st := h i xs[i] acc S e hI h2
        have : lcF src ga gt ge ρw (k + 1) i acc S = (ga xs[i] ρw >>= fun ρ1 => gt ρ1 >>= fun b => if b = true then ge ρ1 >>= fun y => if acc.length < SL then lcF src ga gt ge ρw k (i + 1) (acc ++ [y]) else M.fail else lcF src ga gt ge ρw k (i + 1) acc) S := by
          show (match src.at S i with | none => _ | some none => _ | some (some d) => _) = _
          rw [hat i acc S hI, e]
        rw [W_eq this]
        simp only [W_bind, W_ite]
        refine st.mono fun ρ1 S1 z1 => z1.mono fun b S2 z2 => ?_
        cases b with
        | true =>
          rw [if_pos rfl] at z2 ⊢
          refine z2.mono fun y S3 z3 => ?_
          rw [if_pos (by omega)]
          exact ih (i + 1) (acc ++ [y]) S3 hi (by omega) (by rw [List.length_append, List.length_singleton]; omega) z3
        | false =>
          rw [if_neg Bool.false_ne_true] at z2 ⊢
          exact ih (i + 1) acc S2 hi (by omega) (by omega) z2
      · have hl : i = xs.length := by omega
        subst hl
        have : lcF src ga gt ge ρw (k + 1) xs.length acc S = .ok acc S := by
          show (match src.at S xs.length with | none => _ | some none => _ | some (some d) => _) = _
          rw [hat _ acc S hI, List.getElem?_eq_none (Nat.le_refl _)]
        rw [W_of this]
        exact ⟨hI, h2⟩
  unfold lcS
  show W (lcF src ga gt ge ρw (src.len S + 1) 0 [] >>= fun acc => newL m acc) S Q
  rw [W_bind]
  exact (key (src.len S + 1) 0 [] S (Nat.zero_le _) (by omega) (Nat.le_refl _) h0).mono fun ys S' z => hq ys S' z.1 z.2
theorem at_ref {S : Sto} {n : Nat} {xs : List D} (h : S[n]? = some (.lst xs)) (i : Nat) : (Src.ref n).at S i = some xs[i]? := by
  unfold Src.at; simp only [h]
theorem len_srcref {S : Sto} {n : Nat} {xs : List D} (h : S[n]? = some (.lst xs)) : (Src.ref n).len S = xs.length := by
  unfold Src.len; simp only [h]
theorem at_enr {S : Sto} {n : Nat} {xs : List D} (h : S[n]? = some (.lst xs)) (i : Nat) : (Src.enr n).at S i = some (enumL xs)[i]? := by
  unfold Src.at; simp only [h]; rw [enumL_get]
theorem enumL_len (xs : List D) : (enumL xs).length = xs.length := by unfold enumL; simp
theorem len_srcenr {S : Sto} {n : Nat} {xs : List D} (h : S[n]? = some (.lst xs)) : (Src.enr n).len S = xs.length := by
  unfold Src.len; simp only [h]
/-! ### names, figures, marks by fuel -/
section
variable {F : Nat → Nat → List D → M D}
theorem isName_F {k g2 g0 : Nat} (h : IsFn F k 2 1 (isNameB g2 g0)) (n : Nat) (hn : 1 ≤ n) (x : Str) (S : Sto) (hx : x.length ≤ SL) : F n k [.str x] S = .ok (.bl (nameS x)) S := by
  obtain ⟨n, rfl⟩ : ∃ m, n = m + 1 := ⟨n - 1, by omega⟩
  rw [h n _ rfl]
  exact is_name_b (.str x) S hx (fun n e => by cases e)
theorem areFigures_F {k g3 g1 : Nat} (h : IsFn F k 2 1 (areFiguresB g3 g1)) (n : Nat) (hn : 1 ≤ n) (x : Str) (S : Sto) (hx : x.length ≤ SL) : F n k [.str x] S = .ok (.bl (figS x)) S := by
  obtain ⟨n, rfl⟩ : ∃ m, n = m + 1 := ⟨n - 1, by omega⟩
  rw [h n _ rfl]
  exact are_figures_b x S hx
theorem isFar_F {k kn kf g2 g0 g3 g1 : Nat} (h : IsFn F k 2 1 (isFarB kn kf)) (hN : IsFn F kn 2 1 (isNameB g2 g0)) (hF : IsFn F kf 2 1 (areFiguresB g3 g1)) (n : Nat) (hn : 2 ≤ n) (x : Str) (S : Sto) (hx : x.length + 2 ≤ SL) : F n k [.str x] S = .ok (.bl (farB (.str x))) S := by
  obtain ⟨n, rfl⟩ : ∃ m, n = m + 1 := ⟨n - 1, by omega⟩
  rw [h n _ rfl]
  exact is_far_b (fun x S hx => isName_F hN n (by omega) x S hx) (fun x S hx => areFigures_F hF n (by omega) x S hx) (.str x) S (fun y e => by cases e; exact hx) (fun n e => by cases e)
def isCalledB (kn kr : Nat) : Sxs :=
    (.cons (.ret (.or (.call kn (.cons (.var 0) .nil)) (.one (.call kr (.cons (.var 0) .nil)))))
    .nil)
theorem isCalled_F {k kr kn kf g2 g0 g3 g1 : Nat} (h : IsFn F k 1 1 (isCalledB kn kr)) (hR : IsFn F kr 2 1 (isFarB kn kf)) (hN : IsFn F kn 2 1 (isNameB g2 g0)) (hF : IsFn F kf 2 1 (areFiguresB g3 g1)) (n : Nat) (hn : 3 ≤ n) (x : Str) (S : Sto) (hx : x.length + 2 ≤ SL) :
    F n k [.str x] S = .ok (.bl (nameS x || farB (.str x))) S := by
  obtain ⟨n, rfl⟩ : ∃ m, n = m + 1 := ⟨n - 1, by omega⟩
  rw [h n _ rfl]
  refine W_run ?_
  rw [W_body]
  unfold isCalledB
  have a1 := isName_F hN n (by omega) x S (by omega)
  have a2 := isFar_F hR hN hF n (by omega) x S hx
  simp [startD, W_of a1]
  cases q : nameS x with
  | true => simp
  | false => simp [W_of a2]
theorem cl_called {x : Str} (h : Cl x) : (nameS x || farB (.str x)) = true := by
  rcases h with h | h
  · rw [h]; rfl
  · rw [h.far, Bool.or_true]
def isMarkB (g6 : Nat) : Sxs :=
    (.cons (.ret (.and (.isi .str (.var 0)) (.one (.cmp .inn (.var 0) (.glb g6 (.tup [.str "run", .str "gone"]))))))
    .nil)
theorem isMark_F {k g6 : Nat} (h : IsFn F k 1 1 (isMarkB g6)) (n : Nat) (hn : 1 ≤ n) (m : Mk) (S : Sto) : F n k [.str m.s] S = .ok (.bl true) S := by
  obtain ⟨n, rfl⟩ : ∃ m, n = m + 1 := ⟨n - 1, by omega⟩
  rw [h n _ rfl]
  refine W_run ?_
  rw [W_body]
  unfold isMarkB
  have e : decide (m.s ∈ ([("run" : String), ("gone" : String)] : List Str)) = true := by cases m <;> decide +kernel
  have hi := in2 m.s "run" "gone" S
  rw [e] at hi
  simp [startD, isiD, W_of hi]
/-! ### plain_term -/
def plainB (kf kn g7 g8 g15 : Nat) : Sxs :=
    (.cons (.par [1, 2] (.tup (.cons (.sl false (.var 0) .non (.som (.int 1))) (.cons (.sl false (.var 0) (.som (.int 1)) .non) .nil))))
    (.cons (.ite (.and (.cons (.cmp .eq (.var 1) (.str "@")) (.cons (.val (.call kf (.cons (.var 2) .nil))) .nil))) (.cons (.ret (.tup (.cons (.glb g7 (.str "at")) (.cons (.fn .int false (.cons (.var 2) .nil)) .nil))))
    .nil) .nil)
    (.cons (.ite (.and (.cons (.cmp .eq (.var 1) (.str "!")) (.cons (.cmp .eq (.fn .len false (.cons (.var 2) .nil)) (.int 1)) (.cons (.val (.call kf (.cons (.var 2) .nil))) .nil)))) (.cons (.ret (.tup (.cons (.glb g8 (.str "world")) (.cons (.fn .int false (.cons (.var 2) .nil)) .nil))))
    .nil) .nil)
    (.cons (.ret (.ife (.and (.cons (.cmp .eq (.var 1) (.str "?")) (.cons (.val (.call kn (.cons (.var 2) .nil))) .nil))) (.tup (.cons (.glb g15 (.str "hole")) (.cons (.var 2) .nil))) .non))
    .nil))))
theorem cut_head (c : Nat) (r : List Nat) : cutS (SX.S (c :: r)) none (some 1) = SX.S [c] := by
  unfold cutS
  have : HT.sIx (SX.S (c :: r)).length (SX.S (c :: r)).length (some ((1 : Nat) : Int)) = 1 := by
    rw [HT.sIx_nat, SX.S_len, List.length_cons]; omega
  show SX.S (((c :: r).drop 0).take (HT.sIx (SX.S (c :: r)).length (SX.S (c :: r)).length (some ((1 : Nat) : Int)) - 0)) = _
  rw [this]
  rfl
theorem cut_rest (c : Nat) (r : List Nat) : cutS (SX.S (c :: r)) (some 1) none = SX.S r := by
  unfold cutS
  have : HT.sIx (SX.S (c :: r)).length 0 (some ((1 : Nat) : Int)) = 1 := by
    rw [HT.sIx_nat, SX.S_len, List.length_cons]; omega
  show SX.S (((c :: r).drop (HT.sIx (SX.S (c :: r)).length 0 (some ((1 : Nat) : Int)))).take ((SX.S (c :: r)).length - HT.sIx (SX.S (c :: r)).length 0 (some ((1 : Nat) : Int)))) = _
  rw [this, SX.S_len]
  congr 1
  show (r.take (r.length + 1 - 1)) = r
  simp
theorem slice_head (c : Nat) (r : List Nat) (h : r.length + 1 ≤ SL) (S : Sto) : sliceE false (.str (SX.S (c :: r))) none (some 1) S = .ok (.str (SX.S [c])) S := by
  show (if (SX.S (c :: r)).length ≤ SL then pure (D.str (cutS (SX.S (c :: r)) none (some 1))) else M.fail : M D) S = _
  rw [if_pos (by rw [SX.S_len]; exact h), cut_head]
  rfl
theorem slice_rest (c : Nat) (r : List Nat) (h : r.length + 1 ≤ SL) (S : Sto) : sliceE false (.str (SX.S (c :: r))) (some 1) none S = .ok (.str (SX.S r)) S := by
  show (if (SX.S (c :: r)).length ≤ SL then pure (D.str (cutS (SX.S (c :: r)) (some 1) none)) else M.fail : M D) S = _
  rw [if_pos (by rw [SX.S_len]; exact h), cut_rest]
  rfl
theorem eq_S (a b : List Nat) (S : Sto) : eqD (.str (SX.S a)) (.str (SX.S b)) S = .ok (.bl (decide (a = b))) S := by
  rw [eq_str]
  congr 2
  exact decide_eq_decide.mpr ⟨SX.S_inj, fun e => by rw [e]⟩
section
variable {k kf kn g7 g8 g15 g2 g0 g3 g1 : Nat} (h : IsFn F k 3 1 (plainB kf kn g7 g8 g15)) (hN : IsFn F kn 2 1 (isNameB g2 g0)) (hF : IsFn F kf 2 1 (areFiguresB g3 g1))
theorem par_two (d e : D) (S : Sto) (Q) : W (unpackD 2 none (.tup [d, e])) S Q = Q [d, e] S := rfl
theorem plain_word (h : IsFn F k 3 1 (plainB kf kn g7 g8 g15)) (n : Nat) (hn : 1 ≤ n) (c : Nat) (r : List Nat) (hc : lowB c = true) (hr : r.length + 1 ≤ SL) (S : Sto) : F n k [.str (SX.S (c :: r))] S = .ok .non S := by
  obtain ⟨n, rfl⟩ : ∃ m, n = m + 1 := ⟨n - 1, by omega⟩
  rw [h n _ rfl]
  refine W_run ?_
  rw [W_body]
  unfold plainB
  have n1 : ¬ ([c] = [64]) := by intro e; cases e; revert hc; decide
  have n2 : ¬ ([c] = [33]) := by intro e; cases e; revert hc; decide
  have n3 : ¬ ([c] = [63]) := by intro e; cases e; revert hc; decide
  have q1 := eq_S [c] [64] S
  have q2 := eq_S [c] [33] S
  have q3 := eq_S [c] [63] S
  rw [← sign_S.1, decide_eq_false n1] at q1
  rw [← sign_S.2.1, decide_eq_false n2] at q2
  rw [← sign_S.2.2, decide_eq_false n3] at q3
  simp [startD, W_of (slice_head c r hr S), W_of (slice_rest c r hr S), par_two, setsL, W_of q1, W_of q2, W_of q3]
theorem plain_leaf (h : IsFn F k 3 1 (plainB kf kn g7 g8 g15)) (hN : IsFn F kn 2 1 (isNameB g2 g0)) (hF : IsFn F kf 2 1 (areFiguresB g3 g1)) (n : Nat) (hn : 2 ≤ n) (t : T) (ho : t.Ok) (hl : t.isLeaf = true) (S : Sto) : F n k [.str (SX.S t.tx)] S = .ok t.d S := by
  obtain ⟨n, rfl⟩ : ∃ m, n = m + 1 := ⟨n - 1, by omega⟩
  rw [h n _ rfl]
  refine W_run ?_
  rw [W_body]
  unfold plainB
  cases t with
  | «at» i =>
    have ho : i < 10 ^ 40 := ho
    have hr : (figs i).length + 1 ≤ SL := by have := figs_len ho; show _ ≤ 16777216; omega
    have q1 := eq_S [64] [64] S
    rw [← sign_S.1, decide_eq_true rfl] at q1
    have f1 := areFigures_F hF n (by omega) (SX.S (figs i)) S (by rw [SX.S_len]; omega)
    rw [(num_fig' ho).1] at f1
    rw [T.tx]
    have s1 := slice_head 64 (figs i) hr S
    have s2 := slice_rest 64 (figs i) hr S
    rw [← sign_S.1] at s1
    simp [startD, W_of s1, W_of s2, par_two, setsL, W_of q1, W_of f1, W_of (int_figs ho _)]
    exact (rfl)
  | world i =>
    have ho9 : i ≤ 9 := ho
    have ho : i < 10 ^ 40 := Nat.lt_of_le_of_lt ho9 (by decide)
    have hr : (figs i).length + 1 ≤ SL := by have := figs_len ho; show _ ≤ 16777216; omega
    have q1 := eq_S [33] [64] S
    rw [← sign_S.1, ← sign_S.2.1, decide_eq_false (by decide)] at q1
    have q2 := eq_S [33] [33] S
    rw [← sign_S.2.1, decide_eq_true rfl] at q2
    have f1 := areFigures_F hF n (by omega) (SX.S (figs i)) S (by rw [SX.S_len]; omega)
    rw [(num_fig' ho).1] at f1
    rw [T.tx]
    have s1 := slice_head 33 (figs i) hr S
    have s2 := slice_rest 33 (figs i) hr S
    rw [← sign_S.2.1] at s1
    have ln : lenD [.str (SX.S (figs i))] S = .ok (.int 1) S := by
      rw [lenD_str (by rw [SX.S_len]; omega), SX.S_len, figs_num, TL.numL_lt (by omega)]
      rfl
    simp [startD, W_of s1, W_of s2, par_two, setsL, W_of q1, W_of q2, W_of ln, W_of f1, W_of (int_figs ho _)]
    exact (rfl)
  | hole x =>
    obtain ⟨x1, x2, x3, x4⟩ := name_asc ho
    have hr : (tl x).length + 1 ≤ SL := by rw [tl_len]; show _ ≤ 16777216; omega
    have q1 := eq_S [63] [64] S
    rw [← sign_S.1, ← sign_S.2.2, decide_eq_false (by decide)] at q1
    have q2 := eq_S [63] [33] S
    rw [← sign_S.2.1, ← sign_S.2.2, decide_eq_false (by decide)] at q2
    have q3 := eq_S [63] [63] S
    rw [← sign_S.2.2, decide_eq_true rfl] at q3
    have f1 := isName_F hN n (by omega) x S (by show _ ≤ 16777216; omega)
    rw [show nameS x = true from ho] at f1
    rw [T.tx]
    have s1 := slice_head 63 (tl x) hr S
    have s2 := slice_rest 63 (tl x) hr S
    rw [← sign_S.2.2] at s1
    rw [S_tl'] at s2
    simp [startD, W_of s1, W_of s2, par_two, setsL, W_of q1, W_of q2, W_of q3, W_of f1]
    exact (rfl)
  | _ => cases hl
end
end
end PL

/-! PL9: what stands in brackets, read. -/
namespace PL
open MP PySem L2
@[simp ↓] theorem W_tp (is : List Nat) (st) (d : D) (ρ : MP.Env) (S : Sto) (Q) : W ((Tg.tp is st).ev d ρ) S Q = W (unpackD is.length st d) S (fun ds S1 => W (setNames is ds ρ) S1 Q) := by
  show W (unpackD is.length st d >>= fun ds => setNames is ds ρ) S Q = _
  rw [W_bind]
@[simp ↓] theorem W_sn0 (ρ : MP.Env) (S : Sto) (Q) : W (setNames [] [] ρ) S Q = Q ρ S := (rfl)
@[simp ↓] theorem W_sn1 (i : Nat) (is : List Nat) (d : D) (ds : List D) (ρ : MP.Env) (S : Sto) (Q) : W (setNames (i :: is) (d :: ds) ρ) S Q = W (setNames is ds (ρ.set i (some d))) S Q := (rfl)
@[simp ↓] theorem W_t2 (ts : List T1) (d : D) (ρ : MP.Env) (S : Sto) (Q) : W ((Tg.t2 ts).ev d ρ) S Q = W (unpackD ts.length none d) S (fun ds S1 => W (asgs (ts.map T1.ev) ds ρ) S1 Q) := by
  show W (unpackD ts.length none d >>= fun ds => asgs (ts.map T1.ev) ds ρ) S Q = _
  rw [W_bind]
@[simp ↓] theorem W_as0 (ρ : MP.Env) (S : Sto) (Q) : W (asgs [] [] ρ) S Q = Q ρ S := (rfl)
@[simp ↓] theorem W_as1 (g : D → MP.Env → M MP.Env) (gs) (d : D) (ds : List D) (ρ : MP.Env) (S : Sto) (Q) : W (asgs (g :: gs) (d :: ds) ρ) S Q = W (g d ρ) S (fun ρ' S1 => W (asgs gs ds ρ') S1 Q) := by
  show W (g d ρ >>= fun ρ' => asgs gs ds ρ') S Q = _
  rw [W_bind]
@[simp ↓] theorem W_t1nm (i : Nat) (d : D) (ρ : MP.Env) (S : Sto) (Q) : W ((T1.nm i).ev d ρ) S Q = Q (ρ.set i (some d)) S := (rfl)
@[simp ↓] theorem W_t1tp (is : List Nat) (d : D) (ρ : MP.Env) (S : Sto) (Q) : W ((T1.tp is).ev d ρ) S Q = W (unpackD is.length none d) S (fun ds S1 => W (setNames is ds ρ) S1 Q) := by
  show W (unpackD is.length none d >>= fun ds => setNames is ds ρ) S Q = _
  rw [W_bind]
abbrev thD (p : D × List Nat) : D := .tup [p.1, .str (SX.S p.2)]
def T.things (t : T) : List (D × List Nat) := (t.hd.map fun x => (D.non, tl x)) ++ (t.parts.map fun u => (u.d, u.tx))
theorem things_snd (t : T) : t.things.map (·.2) = t.hd.map tl ++ t.parts.map T.tx := by
  unfold T.things
  rw [List.map_append, List.map_map, List.map_map]
  rfl
theorem things_len (t : T) : t.things.length = t.hd.length + t.parts.length := by simp [T.things]
theorem d_tup (t : T) : ∃ xs, t.d = .tup xs := by cases t <;> exact ⟨_, rfl⟩
def isNon : D → Bool
  | .non => true
  | _ => false
theorem d_non (t : T) : isNon t.d = false := by obtain ⟨xs, e⟩ := d_tup t; rw [e]; rfl
/-- whether a thing is no term -/
theorem thing_is (t : T) {i : Nat} {p : D × List Nat} (h : t.things[i]? = some p) : (p.1 = .non ∨ ∃ xs, p.1 = .tup xs) ∧ isNon p.1 = decide (i < t.hd.length) := by
  unfold T.things at h
  by_cases hi : i < t.hd.length
  · rw [List.getElem?_append_left (by simpa using hi), List.getElem?_map] at h
    obtain ⟨x, _, rfl⟩ := Option.map_eq_some_iff.mp h
    exact ⟨.inl rfl, by simp [isNon, hi]⟩
  · rw [List.getElem?_append_right (by simpa using hi), List.getElem?_map] at h
    obtain ⟨u, _, rfl⟩ := Option.map_eq_some_iff.mp h
    exact ⟨.inr (d_tup u), by rw [d_non]; simp [hi]⟩
theorem is_non {d : D} (h : d = .non ∨ ∃ xs, d = .tup xs) (S : Sto) : isD d .non S = .ok (.bl (isNon d)) S ∧ isNotD d .non S = .ok (.bl (!isNon d)) S := by
  rcases h with rfl | ⟨xs, rfl⟩ <;> exact ⟨rfl, rfl⟩
section
variable {F : Nat → Nat → List D → M D}
/-! ### are_there -/
def areThereB : Sxs :=
    (.cons (.ite (.cmp .lt (.fn .len false (.cons (.var 0) .nil)) (.var 1)) (.cons (.ret (.bl false))
    .nil) .nil)
    (.cons (.ret (.fn .all false (.cons (.lc false (.t2 [.nm 2, .tp [3, 4]]) (.enu (.cons (.var 0) .nil)) .nil (.cmp .eq (.cmp .is (.var 3) .non) (.cmp .lt (.var 2) (.var 1))) [2, 3, 4]) .nil)))
    .nil))
theorem enr_ref {S : Sto} {r : Nat} {xs : List D} (h : S[r]? = some (.lst xs)) : enuL [.ref r] S = .ok (.enr r) S := by
  show enuSrc (.ref r) S = _
  unfold enuSrc
  simp only [h]
theorem eq_bl (a b : Bool) (S : Sto) : eqD (.bl a) (.bl b) S = .ok (.bl (decide (a = b))) S := rfl
theorem enumL_at {xs : List D} {i : Nat} {d : D} (h : (enumL xs)[i]? = some d) : ∃ e, xs[i]? = some e ∧ d = .tup [.int (i : Nat), e] := by
  rw [enumL_get] at h
  obtain ⟨e, h1, rfl⟩ := Option.map_eq_some_iff.mp h
  exact ⟨e, h1, rfl⟩
theorem areThere_F {k : Nat} (h : IsFn F k 5 2 areThereB) (n : Nat) (hn : 1 ≤ n) (t : T) (S : Sto) (r : Nat) (hl : t.things.length ≤ 2000) (hr : S[r]? = some (.lst (t.things.map thD))) : F n k [.ref r, .int t.hd.length] S = .ok (.bl true) S := by
  obtain ⟨n, rfl⟩ : ∃ m, n = m + 1 := ⟨n - 1, by omega⟩
  rw [h n _ rfl]
  refine W_run ?_
  rw [W_body]
  unfold areThereB
  have hlen := len_ref hr
  rw [List.length_map] at hlen
  have c0 : ¬ ((t.things.length : Int) < (t.hd.length : Int)) := by rw [things_len]; omega
  simp [startD, W_of hlen, c0, W_of (enr_ref hr)]
  refine W_lcG (xs := enumL (t.things.map thD)) (I := fun i acc S' => S' = S ∧ acc = List.replicate i (D.bl true)) ?_ ?_ ?_ ⟨rfl, rfl⟩ ?_ ?_
  · rintro i acc S' ⟨rfl, _⟩
    exact at_enr hr i
  · rw [len_srcenr hr, enumL_len]; exact Nat.le_refl _
  · rw [enumL_len, List.length_map]; show _ ≤ 16777216; omega
  · rintro i d acc S' hi ⟨rfl, rfl⟩ _
    obtain ⟨e, h1, rfl⟩ := enumL_at hi
    rw [List.getElem?_map] at h1
    obtain ⟨p, h2, rfl⟩ := Option.map_eq_some_iff.mp h1
    obtain ⟨g1, g2⟩ := thing_is t h2
    have e3 : decide ((i : Int) < (t.hd.length : Int)) = decide (i < t.hd.length) := decide_eq_decide.mpr (by omega)
    simp [wipeE, par_two, W_of (is_non g1 _).1, g2, e3, W_of (eq_bl _ _ _), List.replicate_succ']
  · rintro ys S' ⟨rfl, rfl⟩ _
    rw [W_newF]
    have : allD [.lst (List.replicate (enumL (t.things.map thD)).length (D.bl true))] S' = .ok (.bl true) S' := by
      have e := allD_bools (List.replicate (enumL (t.things.map thD)).length true) S'
      rw [List.map_replicate] at e
      rw [e]
      simp
    rw [W_of this]
    exact ⟨rfl, rfl⟩
/-! ### the words and terms of things -/
theorem things_words {φ : Nat → List D → M D} {t : T} {S : Sto} {r : Nat} (hl : t.things.length ≤ 2000) (hr : S[r]? = some (.lst (t.things.map thD))) {Q : D → Sto → Prop} {ρw : MP.Env} {a b : Nat} (hv : ∀ d e, vget ((ρw.set a (some d)).set b (some e)) b = fun S Q => Q e S) (h : Q (.lst ((t.hd.map tl ++ t.parts.map T.tx).map fun w => D.str (SX.S w))) S) :
    W (lcS false (Tg.tp [a, b] none).ev (evA φ .nil) (evE φ (.var b)) ρw (.ref r)) S Q := by
  refine W_lcG (xs := t.things.map thD) (I := fun i acc S' => S' = S ∧ acc = ((t.things.take i).map fun p => D.str (SX.S p.2))) ?_ ?_ ?_ ⟨rfl, rfl⟩ ?_ ?_
  · rintro i acc S' ⟨rfl, _⟩
    exact at_ref hr i
  · rw [len_srcref hr]; exact Nat.le_refl _
  · rw [List.length_map]; show _ ≤ 16777216; omega
  · rintro i d acc S' hi ⟨rfl, rfl⟩ _
    rw [List.getElem?_map] at hi
    obtain ⟨p, h2, rfl⟩ := Option.map_eq_some_iff.mp hi
    simp [par_two, hv, take_succ' h2]
  · rintro ys S' ⟨rfl, rfl⟩ _
    rw [W_newF, List.length_map, List.take_length]
    have e : (t.things.map fun p => D.str (SX.S p.2)) = (t.hd.map tl ++ t.parts.map T.tx).map fun w => D.str (SX.S w) := by
      rw [← things_snd, List.map_map]; rfl
    rw [e]
    exact h
theorem things_filter (t : T) : (t.things.filter fun p => !isNon p.1).map (·.1) = T.ds t.parts := by
  unfold T.things
  rw [List.filter_append, List.map_append]
  have e1 : (t.hd.map fun x => (D.non, tl x)).filter (fun p => !isNon p.1) = [] := by
    rw [List.filter_eq_nil_iff]
    intro p hp
    obtain ⟨x, _, rfl⟩ := List.mem_map.mp hp
    simp [isNon]
  have e2 : (t.parts.map fun u => (u.d, u.tx)).filter (fun p => !isNon p.1) = t.parts.map fun u => (u.d, u.tx) := by
    rw [List.filter_eq_self]
    intro p hp
    obtain ⟨u, _, rfl⟩ := List.mem_map.mp hp
    simp [d_non]
  rw [e1, e2, ds_map, List.map_map]
  rfl
theorem things_terms {φ : Nat → List D → M D} {t : T} {S : Sto} {r : Nat} (hl : t.things.length ≤ 2000) (hr : S[r]? = some (.lst (t.things.map thD))) {Q : D → Sto → Prop} {ρw : MP.Env} {a b : Nat} (hv : ∀ d e, vget ((ρw.set a (some d)).set b (some e)) a = fun S Q => Q d S) (h : Q (.lst (T.ds t.parts)) S) :
    W (lcS false (Tg.tp [a, b] none).ev (evA φ (.cons (.cmp .isNot (.var a) .non) .nil)) (evE φ (.var a)) ρw (.ref r)) S Q := by
  refine W_lcG (xs := t.things.map thD) (I := fun i acc S' => S' = S ∧ acc = (((t.things.take i).filter fun p => !isNon p.1).map (·.1))) ?_ ?_ ?_ ⟨rfl, rfl⟩ ?_ ?_
  · rintro i acc S' ⟨rfl, _⟩
    exact at_ref hr i
  · rw [len_srcref hr]; exact Nat.le_refl _
  · rw [List.length_map]; show _ ≤ 16777216; omega
  · rintro i d acc S' hi ⟨rfl, rfl⟩ _
    rw [List.getElem?_map] at hi
    obtain ⟨p, h2, rfl⟩ := Option.map_eq_some_iff.mp hi
    obtain ⟨g1, g2⟩ := thing_is t h2
    simp [par_two, hv, W_of (is_non g1 _).2, take_succ' h2, List.filter_append]
    cases q : isNon p.1 <;> simp [q]
  · rintro ys S' ⟨rfl, rfl⟩ _
    rw [W_newF, List.length_map, List.take_length, things_filter]
    exact h
/-! ### listed_term -/
def listedB (kt km kc kn g1 g2 g3 g4 g5 g6 : Nat) : Sxs :=
    (.cons (.set 1 (.lc false (.tp [4, 5] none) (.seq (.var 0)) .nil (.var 5) [4, 5]))
    (.cons (.set 2 (.fn .tuple false (.cons (.lc false (.tp [4, 5] none) (.seq (.var 0)) (.cons (.cmp .isNot (.var 4) .non) .nil) (.var 4) [4, 5]) .nil)))
    (.cons (.set 3 (.ife (.cmp .ne (.var 1) (.lst false .nil)) (.ix (.var 1) (.int 0)) (.str "")))
    (.cons (.ite (.and (.cons (.cmp .inn (.var 3) (.tup (.cons (.glb g1 (.str "to")) (.cons (.glb g2 (.str "fun")) (.cons (.glb g3 (.str "give")) .nil))))) (.cons (.val (.call kt (.cons (.var 0) (.cons (.int 2) .nil)))) (.cons (.cmp .eq (.fn .len false (.cons (.var 2) .nil)) (.int 2)) (.cons (.val (.call km (.cons (.ix (.var 1) (.int 1)) .nil))) .nil))))) (.cons (.ret (.bin .add false (.tup (.cons (.var 3) (.cons (.ix (.var 1) (.int 1)) .nil))) (.var 2)))
    .nil) .nil)
    (.cons (.ite (.and (.cons (.cmp .inn (.var 3) (.tup (.cons (.glb g4 (.str "family")) (.cons (.glb g5 (.str "call")) .nil)))) (.cons (.val (.call kt (.cons (.var 0) (.cons (.int 2) .nil)))) (.cons (.val (.call kc (.cons (.ix (.var 1) (.int 1)) .nil))) .nil)))) (.cons (.ret (.tup (.cons (.var 3) (.cons (.ix (.var 1) (.int 1)) (.cons (.var 2) .nil)))))
    .nil) .nil)
    (.cons (.ite (.and (.cons (.cmp .eq (.var 3) (.glb g6 (.str "shape"))) (.cons (.val (.call kt (.cons (.var 0) (.cons (.int 3) .nil)))) (.cons (.val (.call kc (.cons (.ix (.var 1) (.int 1)) .nil))) (.cons (.val (.call kn (.cons (.ix (.var 1) (.int 2)) .nil))) .nil))))) (.cons (.ret (.tup (.cons (.var 3) (.cons (.ix (.var 1) (.int 1)) (.cons (.ix (.var 1) (.int 2)) (.cons (.var 2) .nil))))))
    .nil) .nil)
    (.cons (.ret .non)
    .nil)))))))
structure Reads (F : Nat → Nat → List D → M D) (kt km kc kn : Nat) (n : Nat) : Prop where
  there : ∀ (t : T) (S : Sto) (r : Nat), t.things.length ≤ 2000 → S[r]? = some (.lst (t.things.map thD)) → F n kt [.ref r, .int t.hd.length] S = .ok (.bl true) S
  mark : ∀ (m : Mk) (S : Sto), F n km [.str m.s] S = .ok (.bl true) S
  cald : ∀ (x : Str) (S : Sto), Cl x → F n kc [.str x] S = .ok (.bl true) S
  name : ∀ (x : Str) (S : Sto), nameS x = true → F n kn [.str x] S = .ok (.bl true) S
theorem W_neL (x : D) (xs : List D) (S : Sto) (Q) : W (neD (.lst (x :: xs)) (.lst [])) S Q = Q (.bl true) S := rfl
theorem W_ixL {xs : List D} {i : Int} {x : D} (h : atI xs i = some x) (S : Sto) (Q) : W (ixD (.lst xs) (.int i)) S Q = Q x S := W_of (by rw [ixD_lst, h]) Q
theorem listed_b {kt km kc kn g1 g2 g3 g4 g5 g6 n : Nat} (R : Reads F kt km kc kn n) (t : T) (ho : t.Ok) (hl : t.isLeaf = false) (S : Sto) (r : Nat) (hlen : t.things.length ≤ 2000) (hr : S[r]? = some (.lst (t.things.map thD))) :
    bodyD 6 (evSs (F n) (listedB kt km kc kn g1 g2 g3 g4 g5 g6)) [.ref r] S = .ok t.d S := by
  refine W_run ?_
  rw [W_body]
  unfold listedB
  have src := src_ref hr
  simp [startD, W_of src]
  refine things_words hlen hr (fun d e => rfl) ?_
  generalize hW : List.map (fun w => D.str (SX.S w)) (List.map tl t.hd ++ List.map T.tx t.parts) = WS
  simp [W_of src]
  refine things_terms hlen hr (fun d e => rfl) ?_
  have th := R.there t S r hlen hr
  simp only [W_tupleL]
  cases t with
  | bi w m a b =>
    obtain ⟨rest, rfl⟩ : ∃ rest, WS = D.str w.s :: D.str m.s :: rest := ⟨_, by rw [← hW]; rfl⟩
    have e3 : decide (w.s ∈ ([("to" : String), ("fun" : String), ("give" : String)] : List Str)) = true := by cases w <;> decide +kernel
    have h3 := in3 w.s "to" "fun" "give" S
    rw [e3] at h3
    have th : F n kt [.ref r, .int 2] S = .ok (.bl true) S := th
    have i1 : ixD (.lst (D.str w.s :: D.str m.s :: rest)) (.int 1) S = .ok (.str m.s) S := by rw [ixD_lst, show (1 : Int) = ((1 : Nat) : Int) from rfl, MP.atI_nat]; rfl
    have i0 : ixD (.lst (D.str w.s :: D.str m.s :: rest)) (.int 0) S = .ok (.str w.s) S := by rw [ixD_lst, show (0 : Int) = ((0 : Nat) : Int) from rfl, MP.atI_nat]; rfl
    rw [W_neL]
    have l2 : (T.ds (T.bi w m a b).parts).length = 2 := rfl
    simp [W_of i0, W_of i1, W_of h3, W_of th, W_of (R.mark m S), l2]
    rw [W_addT _ (by show 2 + 2 ≤ 16777216; decide)]
    exact ⟨rfl, rfl⟩
  | no w x ts =>
    obtain ⟨rest, rfl⟩ : ∃ rest, WS = D.str w.s :: D.str x :: rest := ⟨_, by rw [← hW]; rfl⟩
    have e3 : decide (w.s ∈ ([("to" : String), ("fun" : String), ("give" : String)] : List Str)) = false := by cases w <;> decide +kernel
    have h3 := in3 w.s "to" "fun" "give" S
    rw [e3] at h3
    have e2 : decide (w.s ∈ ([("family" : String), ("call" : String)] : List Str)) = true := by cases w <;> decide +kernel
    have h2 := in2 w.s "family" "call" S
    rw [e2] at h2
    have th : F n kt [.ref r, .int 2] S = .ok (.bl true) S := th
    have i1 : ixD (.lst (D.str w.s :: D.str x :: rest)) (.int 1) S = .ok (.str x) S := by rw [ixD_lst, show (1 : Int) = ((1 : Nat) : Int) from rfl, MP.atI_nat]; rfl
    have i0 : ixD (.lst (D.str w.s :: D.str x :: rest)) (.int 0) S = .ok (.str w.s) S := by rw [ixD_lst, show (0 : Int) = ((0 : Nat) : Int) from rfl, MP.atI_nat]; rfl
    rw [W_neL]
    simp [W_of i0, W_of i1, W_of h3, W_of h2, W_of th, W_of (R.cald x S ho.1)]
    exact (rfl)
  | sh x y ts =>
    obtain ⟨rest, rfl⟩ : ∃ rest, WS = D.str "shape" :: D.str x :: D.str y :: rest := ⟨_, by rw [← hW]; rfl⟩
    have h3 := in3 "shape" "to" "fun" "give" S
    rw [show decide ((("shape" : String) : Str) ∈ ([("to" : String), ("fun" : String), ("give" : String)] : List Str)) = false from by decide +kernel] at h3
    have h2 := in2 "shape" "family" "call" S
    rw [show decide ((("shape" : String) : Str) ∈ ([("family" : String), ("call" : String)] : List Str)) = false from by decide +kernel] at h2
    have hs : eqD (.str "shape") (.str "shape") S = .ok (.bl true) S := by rw [eq_str]; simp
    have th : F n kt [.ref r, .int 3] S = .ok (.bl true) S := th
    have i2 : ixD (.lst (D.str "shape" :: D.str x :: D.str y :: rest)) (.int 2) S = .ok (.str y) S := by rw [ixD_lst, show (2 : Int) = ((2 : Nat) : Int) from rfl, MP.atI_nat]; rfl
    have i1 : ixD (.lst (D.str "shape" :: D.str x :: D.str y :: rest)) (.int 1) S = .ok (.str x) S := by rw [ixD_lst, show (1 : Int) = ((1 : Nat) : Int) from rfl, MP.atI_nat]; rfl
    have i0 : ixD (.lst (D.str "shape" :: D.str x :: D.str y :: rest)) (.int 0) S = .ok (.str "shape") S := by rw [ixD_lst, show (0 : Int) = ((0 : Nat) : Int) from rfl, MP.atI_nat]; rfl
    rw [W_neL]
    simp [W_of i0, W_of i1, W_of i2, W_of h3, W_of h2, W_of hs, W_of th, W_of (R.cald x S ho.1), W_of (R.name y S ho.2.1)]
    exact (rfl)
  | _ => cases hl
/-! ### closed_list -/
def closedB (kl kb : Nat) : Sxs :=
    (.cons (.set 1 (.call kl (.cons (.var 0) .nil)))
    (.cons (.ite (.cmp .is (.var 1) .non) (.cons .dead
    .nil) .nil)
    (.cons (.ret (.tup (.cons (.var 1) (.cons (.call kb (.cons (.lc false (.tp [2, 3] none) (.seq (.var 0)) .nil (.var 3) [2, 3]) .nil)) .nil))))
    .nil)))
theorem closed_b {kl kb n : Nat} (t : T) (ho : t.Ok) (hz : t.sz ≤ 1000) (hl : t.isLeaf = false) (S : Sto) (r : Nat) (hr : S[r]? = some (.lst (t.things.map thD))) (hL : F n kl [.ref r] S = .ok t.d S)
    (hb : ∀ (ws : List (List Nat)), (ws.map List.length).sum + ws.length ≤ 1000000 → F n kb [.lst (ws.map fun w => D.str (SX.S w))] S = .ok (.str (SX.S (40 :: (TL.joinL [32] ws ++ [41])))) S) :
    bodyD 4 (evSs (F n) (closedB kl kb)) [.ref r] S = .ok (thD (t.d, t.tx)) S := by
  refine W_run ?_
  rw [W_body]
  unfold closedB
  have src := src_ref hr
  have hlen : t.things.length ≤ 2000 := by
    rw [things_len]
    have := szs_len t.parts
    have := parts_sz t
    have := hd_len t
    omega
  have hn := (is_non (.inr (d_tup t)) S).1
  rw [d_non] at hn
  simp [startD, W_of hL, W_of hn, W_of src]
  refine things_words hlen hr (fun d e => rfl) ?_
  rw [W_of (hb _ (by have := T.Len t ho hz hl; omega)), ← tx_node hl]
  exact ⟨rfl, rfl⟩
end
end PL

/-! PL10: a term's text, read. -/
namespace PL
open MP PySem L2
theorem W_forL {ga : D → MP.Env → M MP.Env} {body : MP.Env → M Fl} (d : D) (ds : List D) (ρ : MP.Env) (S : Sto) (Q : Fl → Sto → Prop) : W (forL ga body (d :: ds) ρ) S Q = W (ga d ρ) S (fun ρ1 S1 => W (body ρ1) S1 (fun fl S2 => match fl with
    | .next ρ2 => W (forL ga body ds ρ2) S2 Q
    | .cont ρ2 => W (forL ga body ds ρ2) S2 Q
    | .brk ρ2 => Q (.next ρ2) S2
    | .ret d => Q (.ret d) S2)) := by
  rw [forL, W_bind]
  congr 1
  funext ρ1 S1
  rw [W_bind]
  congr 1
  funext fl S2
  cases fl <;> rfl
theorem atI_last (xs : List D) (x : D) : atI (xs ++ [x]) (-1) = some x := by
  unfold atI ixN
  have : (xs ++ [x]).length = xs.length + 1 := by simp
  rw [this]
  have e : ((xs.length + 1 : Nat) : Int) + (-1) = (xs.length : Int) := by omega
  simp
  rw [if_pos (by omega)]
  have e2 : (-1 + ((xs.length : Int) + 1)).toNat = xs.length := by omega
  rw [e2]
  simp
theorem pop_ref {S : Sto} {n : Nat} {xs : List D} {x : D} (h : S[n]? = some (.lst (xs ++ [x]))) : popD (.ref n) [] S = .ok x (S.set n (.lst xs)) := by
  unfold popD
  simp only [h]
  have e1 : (xs ++ [x])[(xs ++ [x]).length - 1]? = some x := by simp
  rw [e1]
  simp
/-- all stands but r, and new things -/
def Fr (r : Nat) (S S' : Sto) : Prop := S.length ≤ S'.length ∧ ∀ j, j < S.length → j ≠ r → S'[j]? = S[j]?
theorem Fr.refl (r : Nat) (S : Sto) : Fr r S S := ⟨Nat.le_refl _, fun _ _ _ => rfl⟩
theorem Fr.trans {r : Nat} {S S1 S2 : Sto} (a : Fr r S S1) (b : Fr r S1 S2) : Fr r S S2 := ⟨Nat.le_trans a.1 b.1, fun j hj hn => (b.2 j (Nat.lt_of_lt_of_le hj a.1) hn).trans (a.2 j hj hn)⟩
theorem Fr.set {r : Nat} {S : Sto} (o : O) : Fr r S (S.set r o) := ⟨by simp, fun j _ hn => List.getElem?_set_ne (Ne.symm hn)⟩
theorem get_lt {S : Sto} {n : Nat} {o : O} (h : S[n]? = some o) : n < S.length := (List.getElem?_eq_some_iff.mp h).1
theorem get_set {S : Sto} {n : Nat} {o o' : O} (h : S[n]? = some o) : (S.set n o')[n]? = some o' := List.getElem?_set_self (get_lt h)
def loopB (kc kp : Nat) : Sxs :=
    (.cons (.ite (.cmp .eq (.var 2) (.str "(")) (.cons (.exp (.me .append false (.var 1) (.cons (.lst true .nil) .nil)))
    .nil) (.cons (.ite (.and (.cons (.cmp .eq (.var 2) (.str ")")) (.cons (.cmp .gt (.fn .len false (.cons (.var 1) .nil)) (.int 1)) .nil))) (.cons (.set 5 (.call kc (.cons (.me .pop false (.var 1) .nil) .nil)))
    (.cons (.exp (.me .append false (.ix (.var 1) (.neg 1)) (.cons (.var 5) .nil)))
    .nil)) (.cons (.exp (.me .append false (.ix (.var 1) (.neg 1)) (.cons (.tup (.cons (.call kp (.cons (.var 2) .nil)) (.cons (.var 2) .nil))) .nil)))
    .nil))
    .nil))
    .nil)
section
variable {φ : Nat → List D → M D} {kc kp : Nat}
/-- a word that is no bracket -/
theorem step_plain {S : Sto} {B r : Nat} {rs items : List D} {tx b c e : Option D} {w : List Nat} {d : D} (hB : S[B]? = some (.lst (rs ++ [.ref r]))) (hr : S[r]? = some (.lst items)) (hi : items.length < SL) (h1 : w ≠ [40]) (h2 : w ≠ [41]) (hp : φ kp [.str (SX.S w)] S = .ok d S) {Q : Fl → Sto → Prop}
    (h : Q (.next [tx, some (.ref B), some (.str (SX.S w)), b, c, e]) (S.set r (.lst (items ++ [thD (d, w)])))) : W (evSs φ (loopB kc kp) [tx, some (.ref B), some (.str (SX.S w)), b, c, e]) S Q := by
  unfold loopB
  have q1 := eq_S w [40] S
  have q2 := eq_S w [41] S
  rw [decide_eq_false h1, ← open_S] at q1
  rw [decide_eq_false h2, ← close_S] at q2
  have ix : ixD (.ref B) (.int (-1)) S = .ok (.ref r) S := ix_ref hB (atI_last _ _)
  have rc : rcL (.ref r) S = .ok () S := rcL_ref hr
  have ap : appendD (.ref r) [thD (d, w)] S = .ok .non (S.set r (.lst (items ++ [thD (d, w)]))) := append_ref hr hi
  simp [W_of q1, W_of q2, W_of ix, W_of rc, W_of hp, W_of ap]
  exact h
theorem step_open {S : Sto} {B : Nat} {rs : List D} {tx b c e : Option D} (hB : S[B]? = some (.lst rs)) (hi : rs.length < SL) {Q : Fl → Sto → Prop}
    (h : Q (.next [tx, some (.ref B), some (.str (SX.S [40])), b, c, e]) ((S ++ [O.lst []]).set B (O.lst (rs ++ [D.ref S.length])))) : W (evSs φ (loopB kc kp) [tx, some (.ref B), some (.str (SX.S [40])), b, c, e]) S Q := by
  unfold loopB
  have q1 := eq_S [40] [40] S
  rw [decide_eq_true rfl] at q1
  have hB' : (S ++ [O.lst []])[B]? = some (.lst rs) := by rw [List.getElem?_append_left (get_lt hB)]; exact hB
  have rc : rcL (.ref B) S = .ok () S := rcL_ref hB
  have ap : appendD (.ref B) [.ref S.length] (S ++ [O.lst []]) = .ok .non ((S ++ [O.lst []]).set B (.lst (rs ++ [.ref S.length]))) := append_ref hB' hi
  generalize hz : SX.S [40] = z at q1 h ⊢
  rw [← open_S] at hz
  have q1 : eqD (.str z) (.str "(") S = .ok (.bl true) S := by rw [hz]; exact q1
  simp [W_of q1, W_of rc, W_of ap, -eq_str]
  exact h
theorem step_close {S : Sto} {B r r' : Nat} {rs items : List D} {tx b c e : Option D} {d : D} (hB : S[B]? = some (.lst (rs ++ [.ref r] ++ [.ref r']))) (hr : S[r]? = some (.lst items)) (hne : B ≠ r) (hi : items.length < SL) (hc : φ kc [.ref r'] (S.set B (.lst (rs ++ [.ref r]))) = .ok d (S.set B (.lst (rs ++ [.ref r])))) {Q : Fl → Sto → Prop}
    (h : Q (.next [tx, some (.ref B), some (.str (SX.S [41])), b, c, some d]) ((S.set B (.lst (rs ++ [.ref r]))).set r (.lst (items ++ [d])))) : W (evSs φ (loopB kc kp) [tx, some (.ref B), some (.str (SX.S [41])), b, c, e]) S Q := by
  unfold loopB
  have q1 := eq_S [41] [40] S
  have q2 := eq_S [41] [41] S
  rw [decide_eq_false (by decide), ← open_S] at q1
  rw [decide_eq_true rfl] at q2
  have rc : rcL (.ref B) S = .ok () S := rcL_ref hB
  have pp : popD (.ref B) [] S = .ok (.ref r') (S.set B (.lst (rs ++ [.ref r]))) := pop_ref hB
  have hB' : (S.set B (.lst (rs ++ [.ref r])))[B]? = some (.lst (rs ++ [.ref r])) := get_set hB
  have hr' : (S.set B (.lst (rs ++ [.ref r])))[r]? = some (.lst items) := by rw [List.getElem?_set_ne hne]; exact hr
  have ix : ixD (.ref B) (.int (-1)) (S.set B (.lst (rs ++ [.ref r]))) = .ok (.ref r) (S.set B (.lst (rs ++ [.ref r]))) := ix_ref hB' (atI_last _ _)
  have rc2 : rcL (.ref r) (S.set B (.lst (rs ++ [.ref r]))) = .ok () (S.set B (.lst (rs ++ [.ref r]))) := rcL_ref hr'
  have ap : appendD (.ref r) [d] (S.set B (.lst (rs ++ [.ref r]))) = .ok .non ((S.set B (.lst (rs ++ [.ref r]))).set r (.lst (items ++ [d]))) := append_ref hr' hi
  have ln := len_ref hB
  have l2 : (1 : Int) < ((rs ++ [D.ref r] ++ [D.ref r']).length : Nat) := by simp; omega
  generalize hz : SX.S [41] = z at q1 q2 h ⊢
  rw [← close_S] at hz
  have q2 : eqD (.str z) (.str ")") S = .ok (.bl true) S := by rw [hz]; exact q2
  simp [W_of q1, W_of q2, W_of ln, l2, W_of rc, W_of pp, W_of hc, W_of ix, W_of rc2, W_of ap, -List.length_append, -List.append_assoc, -eq_str]
  exact h
end
section
variable {φ : Nat → List D → M D} {kc kp : Nat}
abbrev lp (φ : Nat → List D → M D) (kc kp : Nat) : List D → MP.Env → M Fl := forL (Tg.nm 2).ev (evSs φ (loopB kc kp))
def wD (w : List Nat) : D := .str (SX.S w)
/-- names, one after another -/
theorem loop_words (hp : ∀ c r S, lowB c = true → r.length + 1 ≤ SL → φ kp [.str (SX.S (c :: r))] S = .ok .non S) {B r : Nat} {rs : List D} {Q : Fl → Sto → Prop} {rest : List D} {tx : Option D} : ∀ (xs : List Str) (items : List D) (S : Sto) (a b c e : Option D), (∀ x ∈ xs, Cl x) → S[B]? = some (.lst (rs ++ [.ref r])) → S[r]? = some (.lst items) → B ≠ r → items.length + xs.length < SL →
    (∀ S' a', Fr r S S' → S'[r]? = some (.lst (items ++ (xs.map fun x => thD (.non, tl x)))) → W (lp φ kc kp rest [tx, some (.ref B), a', b, c, e]) S' Q) → W (lp φ kc kp ((xs.map fun x => wD (tl x)) ++ rest) [tx, some (.ref B), a, b, c, e]) S Q
  | [], items, S, a, b, c, e, _, hB, hr, hne, hi, h => h S a (.refl _ _) (by simpa using hr)
  | x :: xs, items, S, a, b, c, e, hx, hB, hr, hne, hi, h => by
    rw [List.map_cons, List.cons_append]
    show W (forL _ _ (_ :: _) _) S Q
    rw [W_forL, W_nm]
    obtain ⟨k, t, e1, hk, _⟩ := cl_sig (hx x (by simp))
    have g := cl_good (hx x (by simp))
    have hlen := (cl_facts (hx x (by simp))).2.2
    refine step_plain (rs := rs) (items := items) (d := .non) hB hr (by simp at hi; omega) (fun z => g.2.2.1 (by rw [z]; simp)) (fun z => g.2.2.2 (by rw [z]; simp)) ?_ ?_
    · rw [e1]
      refine hp k t S hk ?_
      have : (tl x).length = t.length + 1 := by rw [e1]; rfl
      rw [tl_len] at this
      show _ ≤ 16777216
      omega
    · refine loop_words (rs := rs) hp xs (items ++ [thD (.non, tl x)]) _ _ b c e (fun y hy => hx y (List.mem_cons_of_mem _ hy)) ?_ (get_set hr) hne (by simp at hi ⊢; omega) fun S' a' f hs => ?_
      · rw [List.getElem?_set_ne (Ne.symm hne)]; exact hB
      · refine h S' a' ((Fr.set _).trans f) ?_
        rw [hs]
        simp
end
structure ReadOk (φ : Nat → List D → M D) (kc kp : Nat) : Prop where
  word : ∀ c r S, lowB c = true → r.length + 1 ≤ SL → φ kp [.str (SX.S (c :: r))] S = .ok .non S
  leaf : ∀ (t : T) S, t.Ok → t.isLeaf = true → φ kp [.str (SX.S t.tx)] S = .ok t.d S
  node : ∀ (t : T) S r, t.Ok → t.sz ≤ 1000 → t.isLeaf = false → S[r]? = some (.lst (t.things.map thD)) → φ kc [.ref r] S = .ok (thD (t.d, t.tx)) S
def LT (φ : Nat → List D → M D) (kc kp : Nat) (t : T) : Prop := ∀ (B r : Nat) (rs : List D) (Q : Fl → Sto → Prop) (rest : List D) (tx : Option D) (items : List D) (S : Sto) (a b c e : Option D), S[B]? = some (.lst (rs ++ [.ref r])) → S[r]? = some (.lst items) → B ≠ r → items.length < 100000 → rs.length + t.dp < 100000 →
    (∀ S' a' e', Fr r S S' → S'[r]? = some (.lst (items ++ [thD (t.d, t.tx)])) → W (lp φ kc kp rest [tx, some (.ref B), a', b, c, e']) S' Q) → W (lp φ kc kp (t.tk.map wD ++ rest) [tx, some (.ref B), a, b, c, e]) S Q
theorem loop_parts {φ : Nat → List D → M D} {kc kp : Nat} {B r : Nat} {rs : List D} {Q : Fl → Sto → Prop} {rest : List D} {tx : Option D} {k : Nat} : ∀ (ts : List T) (items : List D) (S : Sto) (a b c e : Option D), (∀ u ∈ ts, LT φ kc kp u ∧ u.dp ≤ k) → S[B]? = some (.lst (rs ++ [.ref r])) → S[r]? = some (.lst items) → B ≠ r → items.length + ts.length < 100000 → rs.length + k < 100000 →
    (∀ S' a' e', Fr r S S' → S'[r]? = some (.lst (items ++ (ts.map fun u => thD (u.d, u.tx)))) → W (lp φ kc kp rest [tx, some (.ref B), a', b, c, e']) S' Q) → W (lp φ kc kp ((ts.map T.tk).flatten.map wD ++ rest) [tx, some (.ref B), a, b, c, e]) S Q
  | [], items, S, a, b, c, e, _, hB, hr, hne, hi, hk, h => h S a e (.refl _ _) (by simpa using hr)
  | t :: ts, items, S, a, b, c, e, hu, hB, hr, hne, hi, hk, h => by
    rw [List.map_cons, List.flatten_cons, List.map_append, List.append_assoc]
    have hl : ts.length + 1 = (t :: ts).length := rfl
    refine (hu t (by simp)).1 B r rs Q _ tx items S a b c e hB hr hne (by omega) (by have := (hu t (by simp)).2; omega) fun S1 a1 e1 f1 h1 => ?_
    have hB1 : S1[B]? = some (.lst (rs ++ [.ref r])) := by rw [f1.2 B (get_lt hB) hne]; exact hB
    refine loop_parts ts _ S1 a1 b c e1 (fun u hm => hu u (List.mem_cons_of_mem _ hm)) hB1 h1 hne (by rw [List.length_append, List.length_singleton]; omega) hk fun S2 a2 e2 f2 h2 => ?_
    refine h S2 a2 e2 (f1.trans f2) ?_
    rw [h2]
    simp
theorem loop_term {φ : Nat → List D → M D} {kc kp : Nat} (R : ReadOk φ kc kp) : ∀ (k : Nat) (t : T), t.dp ≤ k → t.Ok → t.sz ≤ 1000 → LT φ kc kp t := by
  have leafCase : ∀ (t : T), t.Ok → t.isLeaf = true → LT φ kc kp t := by
    intro t ho hl B r rs Q rest tx items S a b c e hB hr hne hi hk h
    rw [tk_leaf hl]
    show W (forL _ _ (_ :: _) _) S Q
    rw [W_forL, W_nm]
    have g := leaf_good ho hl
    refine step_plain (rs := rs) (items := items) (d := t.d) hB hr (by show _ < 16777216; omega) (fun z => g.2.2.1 (by rw [z]; simp)) (fun z => g.2.2.2 (by rw [z]; simp)) (R.leaf t S ho hl) ?_
    exact h _ _ e (Fr.set _) (get_set hr)
  intro k
  induction k with
  | zero =>
    intro t hk ho hz
    exact leafCase t ho (by cases t <;> first | rfl | (simp [T.dp] at hk))
  | succ k ih =>
    intro t hk ho hz
    by_cases hl : t.isLeaf = true
    · exact leafCase t ho hl
    have hl : t.isLeaf = false := by simpa using hl
    intro B r rs Q rest tx items S a b c e hB hr hne hi hd h
    have hpl : t.parts.length ≤ 1000 := by
      have := szs_len t.parts
      have := parts_sz t
      omega
    have hdp : 1 ≤ t.dp := by cases t <;> first | (cases hl; done) | (simp [T.dp])
    have hh := hd_len t
    rw [tk_node hl, List.map_cons, List.map_append, List.map_append, List.cons_append, List.append_assoc, List.append_assoc]
    show W (forL _ _ (_ :: _) _) S Q
    rw [W_forL, W_nm]
    refine step_open hB (by rw [List.length_append, List.length_singleton]; show _ < 16777216; omega) ?_
    have r'l : S.length ≠ B := Nat.ne_of_gt (get_lt hB)
    have hB1 : ((S ++ [O.lst []]).set B (.lst (rs ++ [.ref r] ++ [.ref S.length])))[B]? = some (.lst (rs ++ [.ref r] ++ [.ref S.length])) := List.getElem?_set_self (by have := get_lt hB; simp; omega)
    have hr1 : ((S ++ [O.lst []]).set B (.lst (rs ++ [.ref r] ++ [.ref S.length])))[S.length]? = some (.lst []) := by
      rw [List.getElem?_set_ne (Ne.symm r'l), List.getElem?_append_right (Nat.le_refl _)]
      simp
    have old1 : ∀ j, j < S.length → j ≠ B → ((S ++ [O.lst []]).set B (.lst (rs ++ [.ref r] ++ [.ref S.length])))[j]? = S[j]? := fun j hj hn => by
      rw [List.getElem?_set_ne (Ne.symm hn), List.getElem?_append_left hj]
    have len1 : ((S ++ [O.lst []]).set B (.lst (rs ++ [.ref r] ++ [.ref S.length]))).length = S.length + 1 := by simp
    generalize (S ++ [O.lst []]).set B (.lst (rs ++ [.ref r] ++ [.ref S.length])) = S1 at hB1 hr1 old1 len1
    rw [List.map_map]
    have lw : t.hd.map (wD ∘ tl) = t.hd.map fun x => wD (tl x) := rfl
    rw [lw]
    refine loop_words (rs := rs ++ [.ref r]) R.word t.hd [] S1 _ b c e (hd_names ho) hB1 hr1 (Ne.symm r'l) (by show 0 + _ < 16777216; omega) fun S2 a2 f2 h2 => ?_
    have hB2 : S2[B]? = some (.lst (rs ++ [.ref r] ++ [.ref S.length])) := by rw [f2.2 B (get_lt hB1) (Ne.symm r'l)]; exact hB1
    refine loop_parts (k := t.dp - 1) (rs := rs ++ [.ref r]) t.parts _ S2 a2 b c e (fun u hu => ⟨ih u (by have := parts_dp u hu; omega) (parts_ok ho u hu) (by have := szs_mem hu; have := parts_sz t; omega), by have := parts_dp u hu; omega⟩) hB2 h2 (Ne.symm r'l) (by simp; omega) (by rw [List.length_append, List.length_singleton]; omega) fun S3 a3 e3 f3 h3 => ?_
    have hB3 : S3[B]? = some (.lst (rs ++ [.ref r] ++ [.ref S.length])) := by rw [f3.2 B (get_lt hB2) (Ne.symm r'l)]; exact hB2
    have rr : r ≠ S.length := Nat.ne_of_lt (get_lt hr)
    have f13 := f2.trans f3
    have hr3 : S3[r]? = some (.lst items) := by
      rw [f13.2 r (by rw [len1]; have := get_lt hr; omega) rr, old1 r (get_lt hr) (Ne.symm hne)]; exact hr
    have ht : S3[S.length]? = some (.lst (t.things.map thD)) := by
      rw [h3]
      unfold T.things
      rw [List.map_append, List.map_map, List.map_map]
      rfl
    show W (forL _ _ (_ :: _) _) S3 Q
    rw [W_forL, W_nm]
    refine step_close (d := thD (t.d, t.tx)) hB3 hr3 hne (by show _ < 16777216; omega) (R.node t _ S.length ho hz hl (by rw [List.getElem?_set_ne (Ne.symm r'l)]; exact ht)) ?_
    refine h _ _ _ ⟨?_, fun j hj hn => ?_⟩ ?_
    · have := f13.1
      rw [List.length_set, List.length_set]
      omega
    · rw [List.getElem?_set_ne (Ne.symm hn)]
      by_cases hjB : j = B
      · subst hjB
        rw [get_set hB3]
        exact hB.symm
      · rw [List.getElem?_set_ne (Ne.symm hjB), f13.2 j (by omega) (Nat.ne_of_lt hj), old1 j hj hjB]
    · exact List.getElem?_set_self (by rw [List.length_set]; exact get_lt hr3)
def readB (kc kp : Nat) : Sxs :=
    (.cons (.ite (.not (.val (.isi .str (.var 0)))) (.cons .dead
    .nil) .nil)
    (.cons (.set 1 (.lst true (.cons (.lst true .nil) .nil)))
    (.cons (.forr (.nm 2) (.seq (.me .split false (.repl ")" " )" (.repl "(" "( " (.var 0))) (.cons (.str " ") .nil))) (loopB kc kp))
    (.cons (.ite (.or (.cons (.cmp .ne (.fn .len false (.cons (.var 1) .nil)) (.int 1)) (.cons (.cmp .ne (.fn .len false (.cons (.ix (.var 1) (.int 0)) .nil)) (.int 1)) .nil))) (.cons .dead
    .nil) .nil)
    (.cons (.asg (.tp [3, 4] none) (.ix (.ix (.var 1) (.int 0)) (.int 0)))
    (.cons (.ite (.or (.cons (.cmp .is (.var 3) .non) (.cons (.cmp .ne (.var 4) (.var 0)) .nil))) (.cons .dead
    .nil) .nil)
    (.cons (.ret (.var 3))
    .nil)))))))
theorem replD_ok (y z : Str) (x : Str) (h : x.length + (x.length + 1) * z.length ≤ 16777216) (S : Sto) : replD y z (.str x) S = .ok (.str (Txt.replace x y z)) S := by
  show (if x.length + (x.length + 1) * z.length ≤ 16777216 then pure (D.str (Txt.replace x y z)) else M.fail : M D) S = _
  rw [if_pos h]; rfl
theorem repl1_len (y : Nat) (z : List Nat) (l : List Nat) (hz : z.length ≤ 2) : (l.flatMap fun c => if c = y then z else [c]).length ≤ 2 * l.length := by
  induction l with
  | nil => simp
  | cons c r ih =>
    rw [List.flatMap_cons, List.length_append, List.length_cons]
    have : (if c = y then z else [c]).length ≤ 2 := by
      split
      · exact hz
      · simp
    omega
theorem read_b {φ : Nat → List D → M D} {kc kp : Nat} (R : ReadOk φ kc kp) (t : T) (ho : t.Ok) (hz : t.sz ≤ 1000) (hp : t.dp ≤ 1000) (S : Sto) {Q : D → Sto → Prop} (h : ∀ G, Q t.d (S ++ G)) : W (bodyD 6 (evSs φ (readB kc kp)) [.str (SX.S t.tx)]) S Q := by
  rw [W_body]
  unfold readB
  have hl := T.tx_len t ho
  have e1 : replD "(" "( " (.str (SX.S t.tx)) = fun S => MP.R.ok (.str (Txt.replace (SX.S t.tx) "(" "( ")) S := by
    funext S
    exact replD_ok _ _ _ (by rw [SX.S_len, show (("( " : String) : Str).length = 2 from by decide +kernel]; omega) S
  have l1 : (Txt.replace (SX.S t.tx) "(" "( ").length ≤ 2 * t.tx.length := by
    rw [← tl_len]
    have o1 : ("(" : Str).cps.toList = [40] := by decide +kernel
    have o2 : ("( " : Str).cps.toList = [40, 32] := by decide +kernel
    show (Txt.replace (SX.S t.tx) "(" "( ").cps.toList.length ≤ _
    rw [StrLaws.replace_list (x := SX.S t.tx) (y := "(") (z := "( ") (by decide +kernel), o1, o2, repl1]
    exact repl1_len _ _ _ (by simp)
  have e2 : ∀ S, replD ")" " )" (.str (Txt.replace (SX.S t.tx) "(" "( ")) S = .ok (.str (SX.S (ex t.tx))) S := fun S => by
    rw [replD_ok _ _ _ (by rw [show ((" )" : String) : Str).length = 2 from by decide +kernel]; omega) S, replace_ex]
  have l2 : (ex t.tx).length ≤ 2 * t.tx.length := by
    have : ∀ l : List Nat, (ex l).length ≤ 2 * l.length := by
      intro l
      induction l with
      | nil => simp [ex]
      | cons c r ih =>
        show (ex1 c ++ ex r).length ≤ _
        rw [List.length_append, List.length_cons]
        have : (ex1 c).length ≤ 2 := by unfold ex1; split <;> (try split) <;> simp
        omega
    exact this _
  have sp : ∀ S, splitD false (.str (SX.S (ex t.tx))) [.str " "] S = .ok (.lst (t.tk.map wD)) S := fun S => by
    show (if (((" " : String) : Str).length == 0) = false ∧ (SX.S (ex t.tx)).length + 2 ≤ SL then newL false ((Txt.split (SX.S (ex t.tx)) " ").map D.str) S else .bad) = _
    rw [if_pos ⟨by decide +kernel, by rw [SX.S_len]; show _ ≤ 16777216; omega⟩, tk_split t ho, List.map_map]
    rfl
  simp [startD, isiD]
  rw [W_of (show replD (Str.ofString "(") (Str.ofString "( ") (D.str (SX.S t.tx)) (S ++ [O.lst [], O.lst [D.ref (List.length S)]]) = MP.R.ok (.str (Txt.replace (SX.S t.tx) "(" "( ")) _ by rw [e1]), W_of (e2 _), W_rcS, W_of (sp _), W_seqL, forF_fix]
  have hB : (S ++ [O.lst [], O.lst [D.ref S.length]])[S.length + 1]? = some (.lst ([] ++ [.ref S.length])) := by
    rw [List.getElem?_append_right (by omega)]
    simp
  have hr : (S ++ [O.lst [], O.lst [D.ref S.length]])[S.length]? = some (.lst []) := by
    rw [List.getElem?_append_right (by omega)]
    simp
  have key := loop_term R t.dp t (Nat.le_refl _) ho hz (S.length + 1) S.length [] (fun fl S1 => W (thenF
                  (evSs φ
                    (Sxs.cons
                      (Sx.ite
                        (Tx.or
                          (Txs.cons (Tx.cmp Cop.ne (Ex.fn Fn.len false (Exs.cons (Ex.var 1) Exs.nil)) (Ex.int 1))
                            (Txs.cons
                              (Tx.cmp Cop.ne (Ex.fn Fn.len false (Exs.cons ((Ex.var 1).ix (Ex.int 0)) Exs.nil))
                                (Ex.int 1))
                              Txs.nil)))
                        (Sxs.cons Sx.dead Sxs.nil) Sxs.nil)
                      (Sxs.cons (Sx.asg (Tg.tp [3, 4] none) (((Ex.var 1).ix (Ex.int 0)).ix (Ex.int 0)))
                        (Sxs.cons
                          (Sx.ite
                            (Tx.or
                              (Txs.cons (Tx.cmp Cop.is (Ex.var 3) Ex.non)
                                (Txs.cons (Tx.cmp Cop.ne (Ex.var 4) (Ex.var 0)) Txs.nil)))
                            (Sxs.cons Sx.dead Sxs.nil) Sxs.nil)
                          (Sxs.cons (Sx.ret (Ex.var 3)) Sxs.nil)))))
                  fl) S1 (bodyQ Q)) [] (some (D.str (SX.S t.tx))) [] (S ++ [O.lst [], O.lst [D.ref S.length]]) none none none none hB hr (by omega) (by simp) (by simp; omega)
  rw [List.append_nil] at key
  refine key fun S' a' e' f hs => ?_
  have hB' : S'[S.length + 1]? = some (.lst [.ref S.length]) := by
    rw [f.2 (S.length + 1) (by simp) (by omega)]
    simpa using hB
  have hs : S'[S.length]? = some (.lst [thD (t.d, t.tx)]) := by simpa using hs
  obtain ⟨G, rfl⟩ : ∃ G, S' = S ++ G := by
    refine ⟨S'.drop S.length, ?_⟩
    have e : S'.take S.length = S := by
      apply List.ext_getElem?
      intro j
      by_cases hj : j < S.length
      · rw [List.getElem?_take_of_lt hj, f.2 j (by simp; omega) (by omega), List.getElem?_append_left hj]
      · rw [List.getElem?_eq_none (by rw [List.length_take]; omega), List.getElem?_eq_none (by omega)]
    conv => lhs; rw [← List.take_append_drop S.length S', e]
  show W (forL _ _ [] _) _ _
  have ln := len_ref hB'
  have ix := ix_ref (i := 0) hB' rfl
  have ln2 := len_ref hs
  have ix2 := ix_ref (i := 0) hs rfl
  have hn := (is_non (.inr (d_tup t)) (S ++ G)).1
  rw [d_non] at hn
  have ne : neD (.str (SX.S t.tx)) (.str (SX.S t.tx)) (S ++ G) = .ok (.bl false) (S ++ G) := by rw [ne_str]; simp
  rw [forL]
  simp [W_of ln, W_of ix, W_of ln2, W_of ix2, par_two, W_of hn, W_of ne]
  exact h G
end PL

/-! PL11: the repr of a term tells it. -/
namespace PL
open MP PySem L2
mutual
def T.rpc : T → List Nat → List Nat
  | .at i, s => 40 :: 39 :: (tl "at" ++ 39 :: 44 :: 32 :: (figs i ++ 41 :: s))
  | .world i, s => 40 :: 39 :: (tl "world" ++ 39 :: 44 :: 32 :: (figs i ++ 41 :: s))
  | .hole x, s => 40 :: 39 :: (tl "hole" ++ 39 :: 44 :: 32 :: 39 :: (tl x ++ 39 :: 41 :: s))
  | .bi w m a b, s => 40 :: 39 :: (tl w.s ++ 39 :: 44 :: 32 :: 39 :: (tl m.s ++ 39 :: 44 :: 32 :: a.rpc (44 :: 32 :: b.rpc (41 :: s))))
  | .no w x ts, s => 40 :: 39 :: (tl w.s ++ 39 :: 44 :: 32 :: 39 :: (tl x ++ 39 :: 44 :: 32 :: T.tts ts (41 :: s)))
  | .sh x y ts, s => 40 :: 39 :: (tl "shape" ++ 39 :: 44 :: 32 :: 39 :: (tl x ++ 39 :: 44 :: 32 :: 39 :: (tl y ++ 39 :: 44 :: 32 :: T.tts ts (41 :: s))))
def T.tts : List T → List Nat → List Nat
  | [], s => 40 :: 41 :: s
  | a :: r, s => 40 :: a.rpc (T.tl0 r s)
def T.tl0 : List T → List Nat → List Nat
  | [], s => 44 :: 41 :: s
  | b :: r, s => 44 :: 32 :: b.rpc (T.tl1 r s)
def T.tl1 : List T → List Nat → List Nat
  | [], s => 41 :: s
  | b :: r, s => 44 :: 32 :: b.rpc (T.tl1 r s)
end
theorem span {d : Nat} : ∀ {x y s s' : List Nat}, d ∉ x → d ∉ y → x ++ d :: s = y ++ d :: s' → x = y ∧ s = s'
  | [], [], s, s', _, _, h => ⟨rfl, by simpa using h⟩
  | [], c :: y, s, s', _, hy, h => by
    simp at h
    exact absurd (by rw [h.1]; simp) hy
  | c :: x, [], s, s', hx, _, h => by
    simp at h
    exact absurd (by rw [← h.1]; simp) hx
  | c :: x, e :: y, s, s', hx, hy, h => by
    rw [List.cons_append, List.cons_append] at h
    obtain ⟨e1, h1⟩ := List.cons.inj h
    obtain ⟨e2, h2⟩ := span (fun m => hx (List.mem_cons_of_mem _ m)) (fun m => hy (List.mem_cons_of_mem _ m)) h1
    exact ⟨by rw [e1, e2], h2⟩
theorem no39 {x : Str} (h : Cl x) : 39 ∉ tl x := by
  obtain ⟨c, r, e, h1, h2⟩ := cl_sig h
  intro m
  rcases h2 39 m with h | h | h
  · revert h; decide
  · revert h; decide
  · revert h; decide
theorem wd_s_inj {a b : Wd} (h : a.s = b.s) : a = b := by
  revert h
  cases a <;> cases b <;> decide +kernel
theorem wd39 (w : Wd) : 39 ∉ tl w.s := by cases w <;> decide +kernel
theorem tl_inj {x y : Str} (h : tl x = tl y) : x = y := TL.ext_tl h
/-- behind the word -/
def T.bh : T → List Nat → List Nat
  | .at i, s => figs i ++ 41 :: s
  | .world i, s => figs i ++ 41 :: s
  | .hole x, s => 39 :: (tl x ++ 39 :: 41 :: s)
  | .bi w m a b, s => 39 :: (tl m.s ++ 39 :: 44 :: 32 :: a.rpc (44 :: 32 :: b.rpc (41 :: s)))
  | .no w x ts, s => 39 :: (tl x ++ 39 :: 44 :: 32 :: T.tts ts (41 :: s))
  | .sh x y ts, s => 39 :: (tl x ++ 39 :: 44 :: 32 :: 39 :: (tl y ++ 39 :: 44 :: 32 :: T.tts ts (41 :: s)))
theorem rpc_bh (t : T) (s : List Nat) : t.rpc s = 40 :: 39 :: (tl t.w.s ++ 39 :: 44 :: 32 :: t.bh s) := by
  cases t with
  | bi w m a b => rw [T.rpc]; cases w <;> rfl
  | no w x ts => rw [T.rpc]; cases w <;> rfl
  | _ => rw [T.rpc]; rfl
theorem rpc_word {t u : T} {s s' : List Nat} (h : t.rpc s = u.rpc s') : t.w = u.w ∧ t.bh s = u.bh s' := by
  rw [rpc_bh, rpc_bh] at h
  have h := List.cons.inj (List.cons.inj h).2 |>.2
  obtain ⟨h1, h2⟩ := span (wd39 _) (wd39 _) h
  exact ⟨wd_s_inj (tl_inj h1), by simpa using h2⟩
theorem fig_span {i j : Nat} {s s' : List Nat} (h : figs i ++ 41 :: s = figs j ++ 41 :: s') : i = j ∧ s = s' := by
  rw [figs_num, figs_num] at h
  obtain ⟨h1, h2⟩ := span (TL.numL_free (by omega)) (TL.numL_free (by omega)) h
  exact ⟨TL.numL_inj h1, h2⟩
theorem mk_s_inj {a b : Mk} (h : a.s = b.s) : a = b := by
  revert h
  cases a <;> cases b <;> decide +kernel
theorem mk_cl (m : Mk) : Cl m.s := by left; cases m <;> decide +kernel
def Inj (t : T) : Prop := ∀ (u : T) (s s' : List Nat), u.Ok → t.rpc s = u.rpc s' → t = u ∧ s = s'
theorem rpc_head (t : T) (s : List Nat) : ∃ r, t.rpc s = 40 :: r := by rw [rpc_bh]; exact ⟨_, rfl⟩
theorem tl1_inj : ∀ (ts us : List T) (s s' : List Nat), (∀ t ∈ ts, Inj t) → T.Oks us → T.tl1 ts s = T.tl1 us s' → ts = us ∧ s = s'
  | [], [], s, s', _, _, h => ⟨rfl, by simpa [T.tl1] using h⟩
  | [], _ :: _, s, s', _, _, h => by simp [T.tl1] at h
  | _ :: _, [], s, s', _, _, h => by simp [T.tl1] at h
  | t :: ts, u :: us, s, s', hi, ho, h => by
    rw [T.tl1, T.tl1] at h
    obtain ⟨e1, h1⟩ := hi t (by simp) u _ _ ho.1 (by simpa using h)
    obtain ⟨e2, h2⟩ := tl1_inj ts us s s' (fun v hv => hi v (List.mem_cons_of_mem _ hv)) ho.2 h1
    exact ⟨by rw [e1, e2], h2⟩
theorem tts_inj (ts us : List T) (s s' : List Nat) (hi : ∀ t ∈ ts, Inj t) (ho : T.Oks us) (h : T.tts ts s = T.tts us s') : ts = us ∧ s = s' := by
  cases ts with
  | nil =>
    cases us with
    | nil => exact ⟨rfl, by simpa [T.tts] using h⟩
    | cons u us =>
      obtain ⟨r, e⟩ := rpc_head u (T.tl0 us s')
      rw [T.tts, T.tts, e] at h
      simp at h
  | cons t ts =>
    cases us with
    | nil =>
      obtain ⟨r, e⟩ := rpc_head t (T.tl0 ts s)
      rw [T.tts, T.tts, e] at h
      simp at h
    | cons u us =>
      rw [T.tts, T.tts] at h
      obtain ⟨e1, h1⟩ := hi t (by simp) u _ _ ho.1 (by simpa using h)
      rw [← e1]
      cases ts with
      | nil =>
        cases us with
        | nil => exact ⟨rfl, by simpa [T.tl0] using h1⟩
        | cons _ _ => simp [T.tl0] at h1
      | cons a ts =>
        cases us with
        | nil => simp [T.tl0] at h1
        | cons b us =>
          rw [T.tl0, T.tl0] at h1
          obtain ⟨e2, h2⟩ := hi a (by simp) b _ _ ho.2.1 (by simpa using h1)
          obtain ⟨e3, h3⟩ := tl1_inj ts us s s' (fun v hv => hi v (by simp [hv])) ho.2.2 h2
          exact ⟨by rw [e2, e3], h3⟩
theorem name_cl {x : Str} (h : nameS x = true) : Cl x := .inl h
theorem rpc_inj : ∀ (k : Nat) (t : T), t.dp ≤ k → t.Ok → Inj t := by
  intro k
  induction k with
  | zero =>
    intro t hk ho u s s' hu h
    obtain ⟨hw, hb⟩ := rpc_word h
    cases t with
    | «at» i =>
      cases u with
      | «at» j => obtain ⟨rfl, rfl⟩ := fig_span (by simpa [T.bh] using hb); exact ⟨rfl, rfl⟩
      | bi w _ _ _ => cases w <;> cases hw
      | no w _ _ => cases w <;> cases hw
      | _ => cases hw
    | world i =>
      cases u with
      | world j => obtain ⟨rfl, rfl⟩ := fig_span (by simpa [T.bh] using hb); exact ⟨rfl, rfl⟩
      | bi w _ _ _ => cases w <;> cases hw
      | no w _ _ => cases w <;> cases hw
      | _ => cases hw
    | hole x =>
      cases u with
      | hole y =>
        rw [T.bh, T.bh] at hb
        obtain ⟨h1, h2⟩ := span (no39 (name_cl ho)) (no39 (name_cl hu)) (List.cons.inj hb).2
        rw [tl_inj h1]
        exact ⟨rfl, by simpa using h2⟩
      | bi w _ _ _ => cases w <;> cases hw
      | no w _ _ => cases w <;> cases hw
      | _ => cases hw
    | _ => simp [T.dp] at hk
  | succ k ih =>
    intro t hk ho u s s' hu h
    by_cases hl : t.dp = 0
    · have key : ∀ t : T, t.dp ≤ 0 → t.Ok → Inj t := by
        intro t hk ho u s s' hu h
        obtain ⟨hw, hb⟩ := rpc_word h
        cases t with
        | «at» i =>
          cases u with
          | «at» j => obtain ⟨rfl, rfl⟩ := fig_span (by simpa [T.bh] using hb); exact ⟨rfl, rfl⟩
          | bi w _ _ _ => cases w <;> cases hw
          | no w _ _ => cases w <;> cases hw
          | _ => cases hw
        | world i =>
          cases u with
          | world j => obtain ⟨rfl, rfl⟩ := fig_span (by simpa [T.bh] using hb); exact ⟨rfl, rfl⟩
          | bi w _ _ _ => cases w <;> cases hw
          | no w _ _ => cases w <;> cases hw
          | _ => cases hw
        | hole x =>
          cases u with
          | hole y =>
            rw [T.bh, T.bh] at hb
            obtain ⟨h1, h2⟩ := span (no39 (name_cl ho)) (no39 (name_cl hu)) (List.cons.inj hb).2
            rw [tl_inj h1]
            exact ⟨rfl, by simpa using h2⟩
          | bi w _ _ _ => cases w <;> cases hw
          | no w _ _ => cases w <;> cases hw
          | _ => cases hw
        | _ => simp [T.dp] at hk
      exact key t (by omega) ho u s s' hu h
    · obtain ⟨hw, hb⟩ := rpc_word h
      have hp : ∀ v ∈ t.parts, Inj v := fun v hv => ih v (by have := parts_dp v hv; omega) (parts_ok ho v hv)
      cases t with
      | bi w m a b =>
        cases u with
        | bi w' m' a' b' =>
          have hww : w = w' := by cases w <;> cases w' <;> first | rfl | cases hw
          subst hww
          rw [T.bh, T.bh] at hb
          obtain ⟨h1, h2⟩ := span (no39 (mk_cl m)) (no39 (mk_cl m')) (List.cons.inj hb).2
          obtain rfl := mk_s_inj (tl_inj h1)
          obtain ⟨rfl, h3⟩ := hp a (by simp [T.parts]) a' _ _ hu.1 (by simpa using h2)
          obtain ⟨rfl, h4⟩ := hp b (by simp [T.parts]) b' _ _ hu.2 (by simpa using h3)
          exact ⟨rfl, by simpa using h4⟩
        | no w' _ _ => cases w <;> cases w' <;> cases hw
        | _ => cases w <;> cases hw
      | no w x ts =>
        cases u with
        | no w' x' ts' =>
          have hww : w = w' := by cases w <;> cases w' <;> first | rfl | cases hw
          subst hww
          rw [T.bh, T.bh] at hb
          obtain ⟨h1, h2⟩ := span (no39 ho.1) (no39 hu.1) (List.cons.inj hb).2
          obtain rfl := tl_inj h1
          obtain ⟨rfl, h3⟩ := tts_inj ts ts' _ _ hp hu.2 (by simpa using h2)
          exact ⟨rfl, by simpa using h3⟩
        | bi w' _ _ _ => cases w <;> cases w' <;> cases hw
        | _ => cases w <;> cases hw
      | sh x y ts =>
        cases u with
        | sh x' y' ts' =>
          rw [T.bh, T.bh] at hb
          obtain ⟨h1, h2⟩ := span (no39 ho.1) (no39 hu.1) (List.cons.inj hb).2
          obtain rfl := tl_inj h1
          obtain ⟨h3, h4⟩ := span (no39 (name_cl ho.2.1)) (no39 (name_cl hu.2.1)) (by simpa using h2)
          obtain rfl := tl_inj h3
          obtain ⟨rfl, h5⟩ := tts_inj ts ts' _ _ hp hu.2.2 (by simpa using h4)
          exact ⟨rfl, by simpa using h5⟩
        | bi w' _ _ _ => cases w' <;> cases hw
        | no w' _ _ => cases w' <;> cases hw
        | _ => cases hw
      | _ => exact absurd rfl hl
/-! ### the repr is that -/
theorem repr_plain {x : Str} (h : ∀ c ∈ tl x, lowB c = true ∨ figB c = true ∨ c = 46) : tl (reprText x) = 39 :: (tl x ++ [39]) := by
  have n39 : x.cps.contains 39 = false := by
    rw [Bool.eq_false_iff]
    intro e
    have m : 39 ∈ tl x := by
      have := Array.contains_iff.mp e
      exact Array.mem_toList_iff.mpr this
    rcases h 39 m with h | h | h <;> revert h <;> decide
  have hq : reprQuote x = 39 := by
    unfold reprQuote
    rw [n39]
    rfl
  have hc : ∀ c ∈ tl x, Builtin.Str.reprChar 39 c = [c] := by
    have pr : ∀ c : Nat, c < 128 → (lowB c = true ∨ figB c = true ∨ c = 46) → Builtin.Str.reprChar 39 c = [c] := by decide +kernel
    intro c hm
    refine pr c ?_ (h c hm)
    rcases h c hm with h | h | h
    · exact low_lt h
    · exact fig_lt h
    · omega
  have fold : ∀ (l : List Nat) (acc : Array Nat), (∀ c ∈ l, Builtin.Str.reprChar 39 c = [c]) → (l.foldl (fun out c => out ++ (Builtin.Str.reprChar 39 c).toArray) acc).toList = acc.toList ++ l := by
    intro l
    induction l with
    | nil => intro acc _; simp
    | cons c r ih =>
      intro acc hl
      rw [List.foldl_cons, ih _ (fun d hd => hl d (List.mem_cons_of_mem _ hd)), hl c (by simp)]
      simp
  show ((x.cps.foldl (fun out c => out ++ (Builtin.Str.reprChar (reprQuote x) c).toArray) #[reprQuote x]).push (reprQuote x)).toList = _
  rw [hq, Array.toList_push, ← Array.foldl_toList, fold _ _ hc]
  rfl
theorem int_tl (i : Nat) : tl (PyData.shown (.int i)) = figs i := rfl
theorem tup_tl (ts : List Str) : tl (tupleText ts) = 40 :: (TL.joinL [44, 32] (ts.map tl) ++ (if ts.length = 1 then [44, 41] else [41])) := by
  unfold tupleText
  show TL.tl _ = _
  rw [TL.tl_append, TL.tl_append, TL.tl_join]
  have o : TL.tl ("(" : Str) = [40] := by decide +kernel
  have c : TL.tl (", " : Str) = [44, 32] := by decide +kernel
  rw [o, c]
  show [40] ++ TL.joinL [44, 32] (ts.map tl) ++ _ = _
  rw [List.append_assoc]
  congr 2
  by_cases h : ts.length = 1
  · rw [if_pos h]
    simp [h]
    decide +kernel
  · rw [if_neg h]
    simp [h]
    decide +kernel
theorem q_at : tl (reprText "at") = 39 :: (tl "at" ++ [39]) := repr_plain (by decide +kernel)
theorem q_world : tl (reprText "world") = 39 :: (tl "world" ++ [39]) := repr_plain (by decide +kernel)
theorem q_hole : tl (reprText "hole") = 39 :: (tl "hole" ++ [39]) := repr_plain (by decide +kernel)
theorem q_shape : tl (reprText "shape") = 39 :: (tl "shape" ++ [39]) := repr_plain (by decide +kernel)
theorem q_cl {x : Str} (h : Cl x) : tl (reprText x) = 39 :: (tl x ++ [39]) := by
  obtain ⟨c, r, e, h1, h2⟩ := cl_sig h
  exact repr_plain h2
theorem w3_cl (w : W3) : Cl w.s := by left; cases w <;> decide +kernel
theorem w2_cl (w : W2) : Cl w.s := by left; cases w <;> decide +kernel
mutual
theorem T.shown_eq : ∀ (t : T), t.Ok → ∃ p, deep t.d = some p ∧ ∀ s, tl p.shown ++ s = t.rpc s
  | .at i, h => ⟨.tuple [.str "at", .int i], rfl, fun s => by
    show tl (tupleText [reprText "at", PyData.shown (.int i)]) ++ s = _
    rw [tup_tl, List.map_cons, List.map_cons, q_at, int_tl, T.rpc]
    simp [TL.joinL]⟩
  | .world i, h => ⟨.tuple [.str "world", .int i], rfl, fun s => by
    show tl (tupleText [reprText "world", PyData.shown (.int i)]) ++ s = _
    rw [tup_tl, List.map_cons, List.map_cons, q_world, int_tl, T.rpc]
    simp [TL.joinL]⟩
  | .hole x, h => ⟨.tuple [.str "hole", .str x], rfl, fun s => by
    show tl (tupleText [reprText "hole", reprText x]) ++ s = _
    rw [tup_tl, List.map_cons, List.map_cons, q_hole, q_cl (name_cl h), T.rpc]
    simp [TL.joinL]⟩
  | .bi w m a b, h => by
    obtain ⟨p, e1, h1⟩ := T.shown_eq a h.1
    obtain ⟨q, e2, h2⟩ := T.shown_eq b h.2
    refine ⟨.tuple [.str w.s, .str m.s, p, q], ?_, fun s => ?_⟩
    · rw [T.d]
      simp [deep, deeps, e1, e2]
    · show tl (tupleText [reprText w.s, reprText m.s, p.shown, q.shown]) ++ s = _
      rw [tup_tl, List.map_cons, List.map_cons, List.map_cons, List.map_cons, q_cl (w3_cl w), q_cl (mk_cl m), T.rpc, ← h1, ← h2]
      simp [TL.joinL]
  | .no w x ts, h => by
    obtain ⟨ps, e1, h1⟩ := T.showns_eq ts h.2
    refine ⟨.tuple [.str w.s, .str x, .tuple ps], ?_, fun s => ?_⟩
    · rw [T.d]
      simp [deep, deeps, e1]
    · show tl (tupleText [reprText w.s, reprText x, tupleText (PyData.shownAll ps)]) ++ s = _
      rw [tup_tl, List.map_cons, List.map_cons, List.map_cons, q_cl (w2_cl w), q_cl h.1, T.rpc, ← h1]
      simp [TL.joinL]
  | .sh x y ts, h => by
    obtain ⟨ps, e1, h1⟩ := T.showns_eq ts h.2.2
    refine ⟨.tuple [.str "shape", .str x, .str y, .tuple ps], ?_, fun s => ?_⟩
    · rw [T.d]
      simp [deep, deeps, e1]
    · show tl (tupleText [reprText "shape", reprText x, reprText y, tupleText (PyData.shownAll ps)]) ++ s = _
      rw [tup_tl, List.map_cons, List.map_cons, List.map_cons, List.map_cons, q_shape, q_cl h.1, q_cl (name_cl h.2.1), T.rpc, ← h1]
      simp [TL.joinL]
theorem T.showns_eq : ∀ (ts : List T), T.Oks ts → ∃ ps, deeps (T.ds ts) = some ps ∧ ∀ s, tl (tupleText (PyData.shownAll ps)) ++ s = T.tts ts s
  | [], _ => ⟨[], rfl, fun s => by
    rw [tup_tl, T.tts]
    rfl⟩
  | t :: ts, h => by
    obtain ⟨p, e1, h1⟩ := T.shown_eq t h.1
    obtain ⟨ps, e2, h2⟩ := T.rest_eq ts h.2
    refine ⟨p :: ps, ?_, fun s => ?_⟩
    · rw [T.ds]
      simp [deeps, e1, e2]
    · rw [tup_tl, T.tts]
      show (40 :: (TL.joinL [44, 32] (tl p.shown :: (PyData.shownAll ps).map tl) ++ _)) ++ s = _
      cases ts with
      | nil =>
        cases e2
        rw [T.tl0, ← h1]
        simp [TL.joinL, PyData.shownAll]
      | cons b r =>
        have hne : (PyData.shownAll ps).map tl ≠ [] := by
          cases ps with
          | nil => simp [T.ds, deeps] at e2; split at e2 <;> cases e2
          | cons q qs => simp [PyData.shownAll]
        have hl : (PyData.shownAll (p :: ps)).length ≠ 1 := by
          intro z
          apply hne
          have : (PyData.shownAll ps).length = 0 := by
            have : (PyData.shownAll (p :: ps)).length = (PyData.shownAll ps).length + 1 := rfl
            omega
          rw [List.eq_nil_of_length_eq_zero this]
          rfl
        rw [if_neg hl, joinL_cons _ hne, T.tl0, ← h1]
        have k := h2 s
        rw [T.tl1] at k
        simp only [List.cons_append, List.append_assoc, List.nil_append] at k ⊢
        congr 2
theorem T.rest_eq : ∀ (ts : List T), T.Oks ts → ∃ ps, deeps (T.ds ts) = some ps ∧ ∀ s, (if ts = [] then [] else [44, 32]) ++ (TL.joinL [44, 32] ((PyData.shownAll ps).map tl) ++ (41 :: s)) = T.tl1 ts s
  | [], _ => ⟨[], rfl, fun s => by rw [T.tl1]; rfl⟩
  | t :: ts, h => by
    obtain ⟨p, e1, h1⟩ := T.shown_eq t h.1
    obtain ⟨ps, e2, h2⟩ := T.rest_eq ts h.2
    refine ⟨p :: ps, ?_, fun s => ?_⟩
    · rw [T.ds]
      simp [deeps, e1, e2]
    · rw [T.tl1, if_neg (by simp), ← h1, ← h2]
      show [44, 32] ++ (TL.joinL [44, 32] (tl p.shown :: (PyData.shownAll ps).map tl) ++ 41 :: s) = _
      cases ts with
      | nil =>
        cases e2
        simp [TL.joinL, PyData.shownAll]
      | cons b r =>
        have hne : (PyData.shownAll ps).map tl ≠ [] := by
          cases ps with
          | nil => simp [T.ds, deeps] at e2; split at e2 <;> cases e2
          | cons q qs => simp [PyData.shownAll]
        rw [joinL_cons _ hne, if_neg (by simp)]
        simp
end
theorem repr_ok (t : T) (h : t.Ok) (hz : t.sz ≤ 1000) (hp : t.dp ≤ 60) (S : Sto) : reprD t.d S = .ok (.str (SX.S (t.rpc []))) S := by
  obtain ⟨p, e1, h1⟩ := T.shown_eq t h
  obtain ⟨q, e2, g1, g2, g3⟩ := okD_deep (B := BB) (by decide) t.d (T.okD t h)
  rw [e1] at e2
  cases e2
  have e3 : p.shown = SX.S (t.rpc []) := by
    rw [← h1 [], List.append_nil, S_tl']
  have w := T.wt t h
  have d := T.dep t
  unfold reprD
  rw [e1]
  show (if p.showable = true ∧ p.depth ≤ 150 ∧ p.shown.length ≤ SL then pure (D.str p.shown) else M.fail : M D) S = _
  rw [if_pos ⟨g1, by omega, by show _ ≤ 16777216; omega⟩, e3]
  rfl
end PL

/-! PL12: the deck dealt. -/
namespace PL
open MP PySem L2
def deckB : Sxs :=
    (.cons (.set 1 (.fn .list false (.cons (.sl false (.var 0) .non (.som (.int 63))) .nil)))
    (.cons (.ret (.lst true (.cons (.rev true (.var 1)) (.cons (.bin .add false (.fn .sum false (.cons (.lc false (.nm 2) (.seq (.var 1)) .nil (.bin .mod false (.var 2) (.int 1000033)) [2]) .nil)) (.bin .mul false (.int 6007) (.fn .len false (.cons (.var 1) .nil)))) (.cons (.int 0) .nil)))))
    .nil))
theorem ints_of : ∀ (xs : List Int), ints? (xs.map D.int) = some xs
  | [] => rfl
  | x :: xs => by
    have := ints_of xs
    simp [ints?, this]
theorem cut_map (xs : List Int) (lo hi : Option Int) : cutL (xs.map D.int) lo hi = (cutL xs lo hi).map D.int := by
  unfold cutL
  rw [List.length_map, List.map_take, List.map_drop]
theorem cut_len {α : Type} (xs : List α) (lo hi : Option Int) : (cutL xs lo hi).length ≤ xs.length := by
  unfold cutL
  rw [List.length_take, List.length_drop]
  omega
theorem deck_b {φ : Nat → List D → M D} {ns : List Int} (h63 : ns.length ≤ 63) {Q : D → Sto → Prop} (h : ∀ S, Dk S [] → Q (.ref 1) S) : W (bodyD 3 (evSs φ deckB) [.frz (ns.map D.int)]) [] Q := by
  rw [W_body]
  unfold deckB
  have e1 : ∀ S, sliceE false (.frz (ns.map D.int)) none (some 63) S = .ok (.lst ((cutL ns none (some 63)).map D.int)) S := fun S => by
    rw [← cut_map]; rfl
  generalize hc : cutL ns none (some 63) = cs at e1
  have hl : cs.length ≤ 63 := by rw [← hc]; exact Nat.le_trans (cut_len _ _ _) h63
  have e2 : ∀ S (R : D → Sto → Prop) xs, W (listD false [.lst xs]) S R = R (.lst xs) S := fun _ _ _ => rfl
  have e3 : ∀ S (R : D → Sto → Prop) xs, W (revE true (.lst xs)) S R = R (.ref S.length) (S ++ [.lst xs.reverse]) := fun _ _ _ => rfl
  simp [startD, W_of (e1 _)]
  rw [e2]
  simp
  rw [e3]
  refine W_lcS (I := fun i acc S' => S' = [O.lst (cs.map D.int).reverse] ∧ ∃ is : List Int, acc = is.map D.int) ?_ ⟨rfl, [], rfl⟩ ?_ ?_
  · show _ ≤ 16777216
    rw [List.length_map]; omega
  · rintro i d acc S' hi ⟨rfl, is, rfl⟩ _
    obtain ⟨c, hc', rfl⟩ := List.mem_map.mp (List.mem_of_getElem? hi)
    simp [wipeE]
    rw [W_modI (by decide)]
    exact ⟨rfl, is ++ [c % 1000033], by simp⟩
  · rintro ys S' ⟨rfl, is, rfl⟩ _
    have es : ∀ S, sumD [.lst (is.map D.int)] S = .ok (.int is.sum) S := fun S => by
      show (match (some (is.map D.int)).bind ints? with | some ns => R.ok (D.int ns.sum) S | none => .bad) = _
      rw [Option.bind_some, ints_of]
    rw [W_newF, W_of (es _), W_mulI (Or.inl (by decide)), W_addI]
    refine h _ ⟨cs.reverse, is.sum + 6007 * (cs.length : Int), 0, by simpa using hl, ?_⟩
    rw [← List.map_reverse]
    rfl
theorem Dk.app {S : Sto} {T : List O} (hd : Dk S T) (G : List O) : Dk (S ++ G) (T ++ G) := by
  obtain ⟨cs, m, t, hl, rfl⟩ := hd
  exact ⟨cs, m, t, hl, rfl⟩
theorem Dk.len {S : Sto} {T : List O} (hd : Dk S T) : List.length S = T.length + 2 := by
  obtain ⟨cs, m, t, hl, rfl⟩ := hd
  rfl
theorem Dk.at {S : Sto} {T : List O} (hd : Dk S T) (i : Nat) : S[i + 2]? = T[i]? := by
  obtain ⟨cs, m, t, hl, rfl⟩ := hd
  rfl
theorem Dk.set {S : Sto} {T : List O} (hd : Dk S T) (i : Nat) (o : O) : Dk (S.set (i + 2) o) (T.set i o) := by
  obtain ⟨cs, m, t, hl, rfl⟩ := hd
  exact ⟨cs, m, t, hl, rfl⟩
/-! ### the signs of a term's text -/
theorem joinL_lt {n : Nat} {s : List Nat} (hs : ∀ c ∈ s, c < n) : ∀ {ws : List (List Nat)}, (∀ w ∈ ws, ∀ c ∈ w, c < n) → ∀ c ∈ TL.joinL s ws, c < n
  | [], _, c, hc => by cases hc
  | [w], h, c, hc => h w (by simp) c hc
  | w :: v :: r, h, c, hc => by
    rw [joinL_cons w (by simp)] at hc
    rcases List.mem_append.mp hc with hc | hc
    · exact h w (by simp) c hc
    · rcases List.mem_append.mp hc with hc | hc
      · exact hs c hc
      · exact joinL_lt hs (ws := v :: r) (fun w hw => h w (List.mem_cons_of_mem _ hw)) c hc
theorem cl_lt {x : Str} (h : Cl x) : ∀ c ∈ tl x, c < 128 := fun c hc => asc_mem (cl_facts h).1 c hc
theorem tx_lt : ∀ (k : Nat) (t : T), t.dp ≤ k → t.Ok → ∀ c ∈ t.tx, c < 128 := by
  have leafC : ∀ t : T, t.Ok → t.isLeaf = true → ∀ c ∈ t.tx, c < 128 := by
    intro t ho hl
    have fg : ∀ (i k : Nat), k < 128 → ∀ c ∈ k :: figs i, c < 128 := by
      intro i k hk c hc
      rcases List.mem_cons.mp hc with rfl | hc
      · exact hk
      · rw [figs_num] at hc
        have := TL.numL_digits i c hc
        omega
    cases t with
    | «at» i => exact fg i 64 (by decide)
    | world i => exact fg i 33 (by decide)
    | hole x =>
      intro c hc
      rcases List.mem_cons.mp hc with rfl | hc
      · decide
      · exact cl_lt (name_cl ho) c hc
    | _ => cases hl
  intro k
  induction k with
  | zero =>
    intro t hk ho
    exact leafC t ho (by cases t <;> first | rfl | (simp [T.dp] at hk))
  | succ k ih =>
    intro t hk ho
    by_cases hl : t.isLeaf = true
    · exact leafC t ho hl
    have hl : t.isLeaf = false := by simpa using hl
    rw [tx_node hl]
    intro c hc
    rcases List.mem_cons.mp hc with rfl | hc
    · decide
    rcases List.mem_append.mp hc with hc | hc
    · refine joinL_lt (n := 128) (by decide) ?_ c hc
      intro w hw
      rcases List.mem_append.mp hw with hw | hw
      · obtain ⟨x, hx, rfl⟩ := List.mem_map.mp hw
        exact cl_lt (hd_names ho x hx)
      · obtain ⟨u, hu, rfl⟩ := List.mem_map.mp hw
        exact ih u (by have := parts_dp u hu; omega) (parts_ok ho u hu)
    · rw [List.mem_singleton.mp hc]; decide
theorem repr_tx (t : T) (ho : t.Ok) (hz : t.sz ≤ 1000) : ∃ y, ∀ S, reprD (.str (SX.S t.tx)) S = .ok (.str y) S := by
  refine reprD_ok (B := BB) (by decide) (d := .str (SX.S t.tx)) (asc_of (tx_lt t.dp t (Nat.le_refl _) ho)) (Nat.zero_le _) ?_
  show 10 * (SX.S t.tx).length + 60 ≤ 16777216
  rw [SX.S_len]
  have := T.tx_len t ho
  omega
end PL

namespace K04
open MP PySem L2
def b0 : Sxs :=
    (.cons (.ite (.or (.cons (.not (.val (.isi .str (.var 0)))) (.cons (.not (.chn .le .le (.int 1) (.fn .len false (.cons (.var 0) .nil)) (.glb 2 (.int 8)))) .nil))) (.cons (.ret (.bl false))
    .nil) .nil)
    (.cons (.ret (.fn .all false (.cons (.lc false (.nm 1) (.seq (.var 0)) .nil (.cmp .inn (.var 1) (.glb 0 (.str "abcdefghijklmnopqrstuvwxyz"))) [1]) .nil)))
    .nil))
def f0 : FDef := ⟨"is_name", ["thing", "sign"], 1, b0⟩
def b1 : Sxs :=
    (.cons (.ite (.or (.cons (.not (.chn .le .le (.int 1) (.fn .len false (.cons (.var 0) .nil)) (.glb 3 (.int 40)))) (.cons (.not (.val (.fn .all false (.cons (.lc false (.nm 1) (.seq (.var 0)) .nil (.cmp .inn (.var 1) (.glb 1 (.str "0123456789"))) [1]) .nil)))) .nil))) (.cons (.ret (.bl false))
    .nil) .nil)
    (.cons (.ret (.or (.cmp .eq (.var 0) (.str "0")) (.one (.cmp .ne (.ix (.var 0) (.int 0)) (.str "0")))))
    .nil))
def f1 : FDef := ⟨"are_figures", ["text", "sign"], 1, b1⟩
def b2 : Sxs :=
    (.cons (.ite (.not (.val (.isi .str (.var 0)))) (.cons (.ret (.bl false))
    .nil) .nil)
    (.cons (.set 1 (.me .split false (.var 0) (.cons (.str ".") .nil)))
    (.cons (.ite (.or (.cons (.cmp .ne (.fn .len false (.cons (.var 1) .nil)) (.int 3)) (.cons (.not (.val (.call 0 (.cons (.ix (.var 1) (.int 0)) .nil)))) (.cons (.not (.val (.call 0 (.cons (.ix (.var 1) (.int 2)) .nil)))) .nil)))) (.cons (.ret (.bl false))
    .nil) .nil)
    (.cons (.ret (.and (.call 1 (.cons (.ix (.var 1) (.int 1)) .nil)) (.one (.cmp .ne (.ix (.var 1) (.int 1)) (.str "0")))))
    .nil))))
def f2 : FDef := ⟨"is_far", ["thing", "words"], 1, b2⟩
def b3 : Sxs :=
    (.cons (.ret (.or (.call 0 (.cons (.var 0) .nil)) (.one (.call 2 (.cons (.var 0) .nil)))))
    .nil)
def f3 : FDef := ⟨"is_called", ["thing"], 1, b3⟩
def b4 : Sxs :=
    (.cons (.ret (.and (.isi .str (.var 0)) (.one (.cmp .inn (.var 0) (.glb 6 (.tup [.str "run", .str "gone"]))))))
    .nil)
def f4 : FDef := ⟨"is_mark", ["thing"], 1, b4⟩
def b5 : Sxs :=
    (.cons (.set 1 (.ix (.var 0) (.int 0)))
    (.cons (.ite (.cmp .inn (.var 1) (.tup (.cons (.glb 9 (.str "to")) (.cons (.glb 10 (.str "fun")) (.cons (.glb 11 (.str "give")) .nil))))) (.cons (.ret (.sl false (.var 0) (.som (.int 2)) .non))
    .nil) .nil)
    (.cons (.ite (.cmp .inn (.var 1) (.tup (.cons (.glb 12 (.str "family")) (.cons (.glb 13 (.str "call")) (.cons (.glb 14 (.str "shape")) .nil))))) (.cons (.ret (.ix (.var 0) (.neg 1)))
    .nil) .nil)
    (.cons (.ret (.tup .nil))
    .nil))))
def f5 : FDef := ⟨"parts_of", ["term", "word"], 1, b5⟩
def b6 : Sxs :=
    (.cons (.ret (.bin .add false (.bin .add false (.str "(") (.me .join false (.str " ") (.cons (.var 0) .nil))) (.str ")")))
    .nil)
def f6 : FDef := ⟨"in_brackets", ["words"], 1, b6⟩
def b7 : Sxs :=
    (.cons (.set 1 (.ix (.var 0) (.int 0)))
    (.cons (.ite (.gin false 0 [((.inr "at"), .str "@"), ((.inr "world"), .str "!"), ((.inr "hole"), .str "?")] (.var 1)) (.cons (.ret (.bin .add false (.gix 0 [((.inr "at"), .str "@"), ((.inr "world"), .str "!"), ((.inr "hole"), .str "?")] (.var 1)) (.fn .str false (.cons (.ix (.var 0) (.int 1)) .nil))))
    .nil) .nil)
    (.cons (.set 2 (.ife (.cmp .eq (.var 1) (.glb 14 (.str "shape"))) (.fn .list false (.cons (.sl false (.var 0) .non (.som (.int 3))) .nil)) (.fn .list false (.cons (.sl false (.var 0) .non (.som (.int 2))) .nil))))
    (.cons (.ret (.call 6 (.cons (.bin .add false (.var 2) (.lc false (.nm 3) (.seq (.call 5 (.cons (.var 0) .nil))) .nil (.call 7 (.cons (.var 3) .nil)) [3])) .nil)))
    .nil))))
def f7 : FDef := ⟨"show_term", ["term", "word", "names", "part"], 1, b7⟩
def b8 : Sxs :=
    (.cons (.par [1, 2] (.tup (.cons (.sl false (.var 0) .non (.som (.int 1))) (.cons (.sl false (.var 0) (.som (.int 1)) .non) .nil))))
    (.cons (.ite (.and (.cons (.cmp .eq (.var 1) (.str "@")) (.cons (.val (.call 1 (.cons (.var 2) .nil))) .nil))) (.cons (.ret (.tup (.cons (.glb 7 (.str "at")) (.cons (.fn .int false (.cons (.var 2) .nil)) .nil))))
    .nil) .nil)
    (.cons (.ite (.and (.cons (.cmp .eq (.var 1) (.str "!")) (.cons (.cmp .eq (.fn .len false (.cons (.var 2) .nil)) (.int 1)) (.cons (.val (.call 1 (.cons (.var 2) .nil))) .nil)))) (.cons (.ret (.tup (.cons (.glb 8 (.str "world")) (.cons (.fn .int false (.cons (.var 2) .nil)) .nil))))
    .nil) .nil)
    (.cons (.ret (.ife (.and (.cons (.cmp .eq (.var 1) (.str "?")) (.cons (.val (.call 0 (.cons (.var 2) .nil))) .nil))) (.tup (.cons (.glb 15 (.str "hole")) (.cons (.var 2) .nil))) .non))
    .nil))))
def f8 : FDef := ⟨"plain_term", ["word", "sign", "rest"], 1, b8⟩
def b9 : Sxs :=
    (.cons (.ite (.cmp .lt (.fn .len false (.cons (.var 0) .nil)) (.var 1)) (.cons (.ret (.bl false))
    .nil) .nil)
    (.cons (.ret (.fn .all false (.cons (.lc false (.t2 [.nm 2, .tp [3, 4]]) (.enu (.cons (.var 0) .nil)) .nil (.cmp .eq (.cmp .is (.var 3) .non) (.cmp .lt (.var 2) (.var 1))) [2, 3, 4]) .nil)))
    .nil))
def f9 : FDef := ⟨"are_there", ["things", "names", "at", "term", "text"], 2, b9⟩
def b10 : Sxs :=
    (.cons (.set 1 (.lc false (.tp [4, 5] none) (.seq (.var 0)) .nil (.var 5) [4, 5]))
    (.cons (.set 2 (.fn .tuple false (.cons (.lc false (.tp [4, 5] none) (.seq (.var 0)) (.cons (.cmp .isNot (.var 4) .non) .nil) (.var 4) [4, 5]) .nil)))
    (.cons (.set 3 (.ife (.cmp .ne (.var 1) (.lst false .nil)) (.ix (.var 1) (.int 0)) (.str "")))
    (.cons (.ite (.and (.cons (.cmp .inn (.var 3) (.tup (.cons (.glb 9 (.str "to")) (.cons (.glb 10 (.str "fun")) (.cons (.glb 11 (.str "give")) .nil))))) (.cons (.val (.call 9 (.cons (.var 0) (.cons (.int 2) .nil)))) (.cons (.cmp .eq (.fn .len false (.cons (.var 2) .nil)) (.int 2)) (.cons (.val (.call 4 (.cons (.ix (.var 1) (.int 1)) .nil))) .nil))))) (.cons (.ret (.bin .add false (.tup (.cons (.var 3) (.cons (.ix (.var 1) (.int 1)) .nil))) (.var 2)))
    .nil) .nil)
    (.cons (.ite (.and (.cons (.cmp .inn (.var 3) (.tup (.cons (.glb 12 (.str "family")) (.cons (.glb 13 (.str "call")) .nil)))) (.cons (.val (.call 9 (.cons (.var 0) (.cons (.int 2) .nil)))) (.cons (.val (.call 3 (.cons (.ix (.var 1) (.int 1)) .nil))) .nil)))) (.cons (.ret (.tup (.cons (.var 3) (.cons (.ix (.var 1) (.int 1)) (.cons (.var 2) .nil)))))
    .nil) .nil)
    (.cons (.ite (.and (.cons (.cmp .eq (.var 3) (.glb 14 (.str "shape"))) (.cons (.val (.call 9 (.cons (.var 0) (.cons (.int 3) .nil)))) (.cons (.val (.call 3 (.cons (.ix (.var 1) (.int 1)) .nil))) (.cons (.val (.call 0 (.cons (.ix (.var 1) (.int 2)) .nil))) .nil))))) (.cons (.ret (.tup (.cons (.var 3) (.cons (.ix (.var 1) (.int 1)) (.cons (.ix (.var 1) (.int 2)) (.cons (.var 2) .nil))))))
    .nil) .nil)
    (.cons (.ret .non)
    .nil)))))))
def f10 : FDef := ⟨"listed_term", ["things", "words", "terms", "word", "term", "text"], 1, b10⟩
def b11 : Sxs :=
    (.cons (.set 1 (.call 10 (.cons (.var 0) .nil)))
    (.cons (.ite (.cmp .is (.var 1) .non) (.cons .dead
    .nil) .nil)
    (.cons (.ret (.tup (.cons (.var 1) (.cons (.call 6 (.cons (.lc false (.tp [2, 3] none) (.seq (.var 0)) .nil (.var 3) [2, 3]) .nil)) .nil))))
    .nil)))
def f11 : FDef := ⟨"closed_list", ["things", "term", "one", "text"], 1, b11⟩
def b12 : Sxs :=
    (.cons (.ite (.not (.val (.isi .str (.var 0)))) (.cons .dead
    .nil) .nil)
    (.cons (.set 1 (.lst true (.cons (.lst true .nil) .nil)))
    (.cons (.forr (.nm 2) (.seq (.me .split false (.repl ")" " )" (.repl "(" "( " (.var 0))) (.cons (.str " ") .nil))) (.cons (.ite (.cmp .eq (.var 2) (.str "(")) (.cons (.exp (.me .append false (.var 1) (.cons (.lst true .nil) .nil)))
    .nil) (.cons (.ite (.and (.cons (.cmp .eq (.var 2) (.str ")")) (.cons (.cmp .gt (.fn .len false (.cons (.var 1) .nil)) (.int 1)) .nil))) (.cons (.set 5 (.call 11 (.cons (.me .pop false (.var 1) .nil) .nil)))
    (.cons (.exp (.me .append false (.ix (.var 1) (.neg 1)) (.cons (.var 5) .nil)))
    .nil)) (.cons (.exp (.me .append false (.ix (.var 1) (.neg 1)) (.cons (.tup (.cons (.call 8 (.cons (.var 2) .nil)) (.cons (.var 2) .nil))) .nil)))
    .nil))
    .nil))
    .nil))
    (.cons (.ite (.or (.cons (.cmp .ne (.fn .len false (.cons (.var 1) .nil)) (.int 1)) (.cons (.cmp .ne (.fn .len false (.cons (.ix (.var 1) (.int 0)) .nil)) (.int 1)) .nil))) (.cons .dead
    .nil) .nil)
    (.cons (.asg (.tp [3, 4] none) (.ix (.ix (.var 1) (.int 0)) (.int 0)))
    (.cons (.ite (.or (.cons (.cmp .is (.var 3) .non) (.cons (.cmp .ne (.var 4) (.var 0)) .nil))) (.cons .dead
    .nil) .nil)
    (.cons (.ret (.var 3))
    .nil)))))))
def f12 : FDef := ⟨"read_term", ["text", "begun", "word", "term", "written", "done"], 1, b12⟩
def b13 : Sxs :=
    (.cons (.set 1 (.fn .list false (.cons (.sl false (.var 0) .non (.som (.int 63))) .nil)))
    (.cons (.ret (.lst true (.cons (.rev true (.var 1)) (.cons (.bin .add false (.fn .sum false (.cons (.lc false (.nm 2) (.seq (.var 1)) .nil (.bin .mod false (.var 2) (.int 1000033)) [2]) .nil)) (.bin .mul false (.int 6007) (.fn .len false (.cons (.var 1) .nil)))) (.cons (.int 0) .nil)))))
    .nil))
def f13 : FDef := ⟨"_law_deck", ["_law_script", "_law_cells", "_law_cell"], 1, b13⟩
def b14 : Sxs :=
    (.cons (.put (.var 0) (.int 2) (.bin .add false (.ix (.var 0) (.int 2)) (.int 1)))
    (.cons (.set 2 (.ix (.var 0) (.int 1)))
    (.cons (.ite (.cmp .ne (.ix (.var 0) (.int 0)) (.lst false .nil)) (.cons (.set 2 (.me .pop false (.ix (.var 0) (.int 0)) .nil))
    (.cons (.ite (.cmp .ge (.var 2) (.bin .pow false (.int 10) (.int 18))) (.cons (.exp (.me .append false (.ix (.var 0) (.int 0)) (.cons (.bin .fdiv false (.var 2) (.var 1)) .nil)))
    (.cons (.ret (.bin .mod false (.var 2) (.var 1)))
    .nil)) .nil)
    .nil)) .nil)
    (.cons (.set 3 (.bin .mod false (.bin .mul false (.bin .add false (.bin .add false (.bin .mod false (.var 2) (.int 2147483629)) (.bin .mul false (.int 92821) (.ix (.var 0) (.int 2)))) (.int 17)) (.int 48271)) (.int 2147483647)))
    (.cons (.set 3 (.bin .mod false (.bin .add false (.bin .add false (.bin .mul false (.var 3) (.var 3)) (.bin .mul false (.int 69621) (.ix (.var 0) (.int 2)))) (.int 29)) (.int 2147483587)))
    (.cons (.ret (.bin .mod false (.bin .fdiv false (.bin .mod false (.bin .add false (.bin .mul false (.var 3) (.var 3)) (.bin .mul false (.int 40692) (.var 3))) (.int 2147483563)) (.int 64)) (.var 1)))
    .nil))))))
def f14 : FDef := ⟨"_law_draw", ["_law_deck_here", "_law_ways", "_law_cell", "_law_mixed"], 2, b14⟩
def b15 : Sxs :=
    (.cons (.ret (.ix (.var 1) (.call 14 (.cons (.var 0) (.cons (.fn .len false (.cons (.var 1) .nil)) .nil)))))
    .nil)
def f15 : FDef := ⟨"_law_pick", ["_law_deck_here", "_law_some"], 2, b15⟩
def b16 : Sxs :=
    (.cons (.set 1 (.str "abcdefghijklmnopqrstuvwxyz"))
    (.cons (.set 2 (.ix (.lst false (.cons (.int 1) (.cons (.int 8) (.cons (.bin .add false (.int 1) (.call 14 (.cons (.var 0) (.cons (.int 8) .nil)))) (.cons (.int 2) .nil))))) (.call 14 (.cons (.var 0) (.cons (.int 4) .nil)))))
    (.cons (.set 3 (.call 14 (.cons (.var 0) (.cons (.int 26) .nil))))
    (.cons (.set 4 (.call 14 (.cons (.var 0) (.cons (.int 3) .nil))))
    (.cons (.ret (.me .join false (.str "") (.cons (.lc false (.nm 5) (.rng (.cons (.var 2) .nil)) .nil (.ix (.var 1) (.bin .mod false (.bin .add false (.var 3) (.bin .mul false (.var 4) (.var 5))) (.int 26))) [5]) .nil)))
    .nil)))))
def f16 : FDef := ⟨"_law_name", ["_law_deck_here", "_law_letters", "_law_many", "_law_first", "_law_step", "_law_k"], 1, b16⟩
def b17 : Sxs :=
    (.cons (.set 1 (.ix (.lst false (.cons (.int 1) (.cons (.int 9) (.cons (.int 10) (.cons (.bin .add false (.int 1) (.call 14 (.cons (.var 0) (.cons (.int 120) .nil)))) (.cons (.bin .pow false (.int 10) (.int 39)) .nil)))))) (.call 14 (.cons (.var 0) (.cons (.int 5) .nil)))))
    (.cons (.ret (.bin .add false (.bin .add false (.bin .add false (.bin .add false (.call 16 (.cons (.var 0) .nil)) (.str ".")) (.fn .str false (.cons (.var 1) .nil))) (.str ".")) (.call 16 (.cons (.var 0) .nil))))
    .nil))
def f17 : FDef := ⟨"_law_far", ["_law_deck_here", "_law_number"], 1, b17⟩
def b18 : Sxs :=
    (.cons (.set 1 (.call 14 (.cons (.var 0) (.cons (.int 5) .nil))))
    (.cons (.ite (.cmp .eq (.var 1) (.int 4)) (.cons (.ret (.ix (.lst false (.cons (.str "to") (.cons (.str "fun") (.cons (.str "run") (.cons (.str "gone") (.cons (.str "at") (.cons (.str "shape") (.cons (.str "hole") (.cons (.str "call") (.cons (.str "family") (.cons (.str "give") .nil))))))))))) (.call 14 (.cons (.var 0) (.cons (.int 10) .nil)))))
    .nil) .nil)
    (.cons (.ret (.ife (.cmp .eq (.var 1) (.int 0)) (.call 17 (.cons (.var 0) .nil)) (.call 16 (.cons (.var 0) .nil))))
    .nil)))
def f18 : FDef := ⟨"_law_called", ["_law_deck_here", "_law_way"], 1, b18⟩
def b19 : Sxs :=
    (.cons (.set 1 (.call 14 (.cons (.var 0) (.cons (.int 3) .nil))))
    (.cons (.set 2 (.ix (.lst false (.cons (.call 14 (.cons (.var 0) (.cons (.int 3) .nil))) (.cons (.call 14 (.cons (.var 0) (.cons (.int 130) .nil))) (.cons (.bin .pow false (.int 10) (.int 29)) .nil)))) (.call 14 (.cons (.var 0) (.cons (.int 3) .nil)))))
    (.cons (.ret (.ix (.lst false (.cons (.tup (.cons (.str "at") (.cons (.var 2) .nil))) (.cons (.tup (.cons (.str "world") (.cons (.call 14 (.cons (.var 0) (.cons (.int 10) .nil))) .nil))) (.cons (.tup (.cons (.str "hole") (.cons (.call 16 (.cons (.var 0) .nil)) .nil))) .nil)))) (.var 1)))
    .nil)))
def f19 : FDef := ⟨"_law_leaf", ["_law_deck_here", "_law_way", "_law_number"], 1, b19⟩
def b20 : Sxs :=
    (.cons (.par [3, 4] (.tup (.cons (.call 14 (.cons (.var 0) (.cons (.int 9) .nil))) (.cons (.call 14 (.cons (.var 0) (.cons (.int 5) .nil))) .nil))))
    (.cons (.ite (.or (.cons (.cmp .eq (.var 1) (.int 0)) (.cons (.cmp .lt (.var 3) (.int 2)) (.cons (.cmp .lt (.ix (.var 2) (.int 0)) (.int 2)) .nil)))) (.cons (.ret (.call 19 (.cons (.var 0) .nil)))
    .nil) .nil)
    (.cons (.set 5 (.ife (.cmp .lt (.var 3) (.int 6)) (.int 2) (.fn .min false (.cons (.var 4) (.cons (.ix (.var 2) (.int 0)) .nil)))))
    (.cons (.put (.var 2) (.int 0) (.bin .sub false (.ix (.var 2) (.int 0)) (.var 5)))
    (.cons (.set 6 (.fn .tuple false (.cons (.lc false (.nm 7) (.rng (.cons (.var 5) .nil)) .nil (.call 20 (.cons (.var 0) (.cons (.bin .sub false (.var 1) (.int 1)) (.cons (.var 2) .nil)))) [7]) .nil)))
    (.cons (.ite (.cmp .lt (.var 3) (.int 6)) (.cons (.ret (.bin .add false (.tup (.cons (.ix (.lst false (.cons (.str "to") (.cons (.str "fun") (.cons (.str "give") (.cons (.str "give") .nil))))) (.bin .sub false (.var 3) (.int 2))) (.cons (.ix (.lst false (.cons (.str "run") (.cons (.str "gone") .nil))) (.call 14 (.cons (.var 0) (.cons (.int 2) .nil)))) .nil))) (.var 6)))
    .nil) .nil)
    (.cons (.ite (.cmp .eq (.var 3) (.int 8)) (.cons (.ret (.tup (.cons (.str "shape") (.cons (.call 18 (.cons (.var 0) .nil)) (.cons (.call 16 (.cons (.var 0) .nil)) (.cons (.var 6) .nil))))))
    .nil) .nil)
    (.cons (.ret (.tup (.cons (.ix (.lst false (.cons (.str "family") (.cons (.str "call") .nil))) (.bin .sub false (.var 3) (.int 6))) (.cons (.call 18 (.cons (.var 0) .nil)) (.cons (.var 6) .nil)))))
    .nil))))))))
def f20 : FDef := ⟨"_law_term", ["_law_deck_here", "_law_deep", "_law_left", "_law_way", "_law_wanted", "_law_many", "_law_parts", "_law_k"], 3, b20⟩
def b21 : Sxs :=
    (.cons (.set 1 (.ix (.var 0) (.int 0)))
    (.cons (.ite (.cmp .inn (.var 1) (.tup (.cons (.str "at") (.cons (.str "world") (.cons (.str "hole") .nil))))) (.cons (.ret (.bin .add false (.ix (.dicC false [((.inr "at"), (.inr "@")), ((.inr "world"), (.inr "!")), ((.inr "hole"), (.inr "?"))]) (.var 1)) (.fn .str false (.cons (.ix (.var 0) (.int 1)) .nil))))
    .nil) .nil)
    (.cons (.set 2 (.ife (.cmp .inn (.var 1) (.tup (.cons (.str "to") (.cons (.str "fun") (.cons (.str "give") .nil))))) (.lst false (.cons (.ix (.var 0) (.int 2)) (.cons (.ix (.var 0) (.int 3)) .nil))) (.fn .list false (.cons (.ix (.var 0) (.neg 1)) .nil))))
    (.cons (.set 3 (.bin .add false (.lst false (.cons (.var 1) (.cons (.ix (.var 0) (.int 1)) .nil))) (.bin .mul false (.lst false (.cons (.ix (.var 0) (.int 2)) .nil)) (.fn .int false (.cons (.cmp .eq (.var 1) (.str "shape")) .nil)))))
    (.cons (.ret (.bin .add false (.bin .add false (.str "(") (.me .join false (.str " ") (.cons (.bin .add false (.var 3) (.lc false (.nm 4) (.seq (.var 2)) .nil (.call 21 (.cons (.var 4) .nil)) [4])) .nil))) (.str ")")))
    .nil)))))
def f21 : FDef := ⟨"_law_text", ["_law_term_here", "_law_word", "_law_parts", "_law_words", "_law_part"], 1, b21⟩
def b22 : Sxs :=
    (.cons (.par [2, 3] (.tup (.cons (.call 14 (.cons (.var 0) (.cons (.int 4) .nil))) (.cons (.ix (.var 1) (.int 0)) .nil))))
    (.cons (.ite (.cmp .inn (.var 3) (.tup (.cons (.str "at") (.cons (.str "world") .nil)))) (.cons (.ret (.ix (.lst false (.cons (.tup (.cons (.str "at") (.cons (.bin .add false (.ix (.var 1) (.int 1)) (.int 1)) .nil))) (.cons (.tup (.cons (.str "at") (.cons (.bin .add false (.bin .mul false (.int 10) (.ix (.var 1) (.int 1))) (.int 10)) .nil))) (.cons (.tup (.cons (.str "hole") (.cons (.str "a") .nil))) (.cons (.tup (.cons (.str "family") (.cons (.str "a") (.cons (.tup .nil) .nil)))) .nil))))) (.var 2)))
    .nil) .nil)
    (.cons (.ite (.cmp .eq (.var 3) (.str "hole")) (.cons (.ret (.ix (.lst false (.cons (.tup (.cons (.str "hole") (.cons (.bin .add false (.sl false (.ix (.var 1) (.int 1)) .non (.som (.int 7))) (.str "b")) .nil))) (.cons (.tup (.cons (.str "hole") (.cons (.bin .add false (.str "zzz") (.sl false (.ix (.var 1) (.int 1)) .non (.som (.int 4)))) .nil))) (.cons (.tup (.cons (.str "call") (.cons (.ix (.var 1) (.int 1)) (.cons (.tup .nil) .nil)))) (.cons (.tup (.cons (.str "at") (.cons (.int 0) .nil))) .nil))))) (.var 2)))
    .nil) .nil)
    (.cons (.ite (.cmp .inn (.var 3) (.tup (.cons (.str "to") (.cons (.str "fun") (.cons (.str "give") .nil))))) (.cons (.set 5 (.ix (.lst false (.cons (.str "run") (.cons (.str "gone") .nil))) (.fn .int false (.cons (.cmp .eq (.ix (.var 1) (.int 1)) (.str "run")) .nil))))
    (.cons (.set 6 (.ix (.dicC false [((.inr "to"), (.inr "fun")), ((.inr "fun"), (.inr "to")), ((.inr "give"), (.inr "fun"))]) (.var 3)))
    (.cons (.ret (.ix (.lst false (.cons (.bin .add false (.tup (.cons (.var 3) (.cons (.var 5) .nil))) (.sl false (.var 1) (.som (.int 2)) .non)) (.cons (.bin .add false (.tup (.cons (.var 6) .nil)) (.sl false (.var 1) (.som (.int 1)) .non)) (.cons (.tup (.cons (.var 3) (.cons (.ix (.var 1) (.int 1)) (.cons (.ix (.var 1) (.int 3)) (.cons (.ix (.var 1) (.int 2)) .nil))))) (.cons (.ix (.var 1) (.int 2)) .nil))))) (.var 2)))
    .nil))) .nil)
    (.cons (.set 4 (.ix (.lst false (.cons (.bin .add false (.ix (.var 1) (.neg 1)) (.tup (.cons (.tup (.cons (.str "at") (.cons (.int 0) .nil))) .nil))) (.cons (.sl false (.ix (.var 1) (.neg 1)) .non (.som (.neg 1))) (.cons (.rev false (.ix (.var 1) (.neg 1))) (.cons (.bin .add false (.tup (.cons (.tup (.cons (.str "world") (.cons (.int 0) .nil))) .nil)) (.ix (.var 1) (.neg 1))) .nil))))) (.var 2)))
    (.cons (.ite (.and (.cons (.cmp .eq (.var 2) (.int 2)) (.cons (.cmp .eq (.var 4) (.ix (.var 1) (.neg 1))) .nil))) (.cons (.ret (.bin .add false (.tup (.cons (.var 3) (.cons (.bin .add false (.sl false (.ix (.var 1) (.int 1)) .non (.som (.neg 1))) (.ix (.str "qa") (.fn .int false (.cons (.cmp .eq (.sl false (.ix (.var 1) (.int 1)) (.som (.neg 1)) .non) (.str "q")) .nil)))) .nil))) (.sl false (.var 1) (.som (.int 2)) .non)))
    .nil) .nil)
    (.cons (.ret (.bin .add false (.sl false (.var 1) .non (.som (.neg 1))) (.tup (.cons (.var 4) .nil))))
    .nil)))))))
def f22 : FDef := ⟨"_law_here_otherwise", ["_law_deck_here", "_law_term_here", "_law_way", "_law_word", "_law_parts", "_law_mark", "_law_other"], 2, b22⟩
def b23 : Sxs :=
    (.cons (.set 2 (.call 14 (.cons (.var 0) (.cons (.int 3) .nil))))
    (.cons (.ite (.or (.cons (.cmp .eq (.var 2) (.int 0)) (.cons (.cmp .inn (.ix (.var 1) (.int 0)) (.tup (.cons (.str "at") (.cons (.str "world") (.cons (.str "hole") .nil))))) (.cons (.cmp .eq (.ix (.var 1) (.neg 1)) (.tup .nil)) .nil)))) (.cons (.ret (.call 22 (.cons (.var 0) (.cons (.var 1) .nil))))
    .nil) .nil)
    (.cons (.ite (.cmp .inn (.ix (.var 1) (.int 0)) (.tup (.cons (.str "to") (.cons (.str "fun") (.cons (.str "give") .nil))))) (.cons (.set 3 (.bin .add false (.int 2) (.call 14 (.cons (.var 0) (.cons (.int 2) .nil)))))
    (.cons (.ret (.bin .add false (.bin .add false (.sl false (.var 1) .non (.som (.var 3))) (.tup (.cons (.call 23 (.cons (.var 0) (.cons (.ix (.var 1) (.var 3)) .nil))) .nil))) (.sl false (.var 1) (.som (.bin .add false (.var 3) (.int 1))) .non)))
    .nil)) .nil)
    (.cons (.set 3 (.call 14 (.cons (.var 0) (.cons (.fn .len false (.cons (.ix (.var 1) (.neg 1)) .nil)) .nil))))
    (.cons (.set 4 (.bin .add false (.bin .add false (.sl false (.ix (.var 1) (.neg 1)) .non (.som (.var 3))) (.tup (.cons (.call 23 (.cons (.var 0) (.cons (.ix (.ix (.var 1) (.neg 1)) (.var 3)) .nil))) .nil))) (.sl false (.ix (.var 1) (.neg 1)) (.som (.bin .add false (.var 3) (.int 1))) .non)))
    (.cons (.ret (.bin .add false (.sl false (.var 1) .non (.som (.neg 1))) (.tup (.cons (.var 4) .nil))))
    .nil))))))
def f23 : FDef := ⟨"_law_otherwise", ["_law_deck_here", "_law_term_here", "_law_way", "_law_at", "_law_parts"], 2, b23⟩
def b24 : Sxs :=
    (.cons (.par [1, 2] (.tup (.cons (.fn .repr false (.cons (.var 0) .nil)) (.cons (.call 21 (.cons (.var 0) .nil)) .nil))))
    (.cons (.forr (.nm 3) (.rng (.cons (.int 2) .nil)) (.cons (.ite (.or (.cons (.cmp .ne (.fn .repr false (.cons (.call 7 (.cons (.var 0) .nil)) .nil)) (.fn .repr false (.cons (.var 2) .nil))) (.cons (.cmp .ne (.fn .repr false (.cons (.var 0) .nil)) (.var 1)) (.cons (.cmp .ne (.fn .repr false (.cons (.call 12 (.cons (.var 2) .nil)) .nil)) (.var 1)) .nil)))) (.cons (.ret (.bl false))
    .nil) .nil)
    .nil))
    (.cons (.ret (.cmp .eq (.fn .repr false (.cons (.call 12 (.cons (.call 7 (.cons (.var 0) .nil)) .nil)) .nil)) (.var 1)))
    .nil)))
def f24 : FDef := ⟨"_law_right", ["_law_term_here", "_law_kept", "_law_due", "_law_again"], 1, b24⟩
def b25 : Sxs :=
    (.cons (.set 1 (.call 13 (.cons (.var 0) .nil)))
    (.cons (.set 2 (.lc false (.nm 9) (.rng (.cons (.int 8) .nil)) .nil (.ix (.lst false (.cons (.int 0) (.cons (.int 3) (.cons (.int 11) .nil)))) (.call 14 (.cons (.var 1) (.cons (.int 3) .nil)))) [9]))
    (.cons (.set 3 (.dic0 true))
    (.cons (.forr (.nm 4) (.seq (.var 2)) (.cons (.set 6 (.call 20 (.cons (.var 1) (.cons (.var 4) (.cons (.lst true (.cons (.call 14 (.cons (.var 1) (.cons (.int 78) .nil))) .nil)) .nil)))))
    (.cons (.set 7 (.call 23 (.cons (.var 1) (.cons (.var 6) .nil))))
    (.cons (.ite (.or (.cons (.not (.val (.call 24 (.cons (.var 6) .nil)))) (.cons (.not (.val (.call 24 (.cons (.var 7) .nil)))) .nil))) (.cons (.ret (.bl false))
    .nil) .nil)
    (.cons (.forr (.nm 8) (.seq (.tup (.cons (.var 6) (.cons (.var 7) .nil)))) (.cons (.put (.var 3) (.call 7 (.cons (.var 8) .nil)) (.fn .repr false (.cons (.var 8) .nil)))
    .nil))
    (.cons (.ite (.cmp .ne (.cmp .eq (.call 7 (.cons (.var 6) .nil)) (.call 7 (.cons (.var 7) .nil))) (.cmp .eq (.fn .repr false (.cons (.var 6) .nil)) (.fn .repr false (.cons (.var 7) .nil)))) (.cons (.ret (.bl false))
    .nil) .nil)
    .nil))))))
    (.cons (.forr (.nm 5) (.seq (.var 3)) (.cons (.ite (.cmp .ne (.fn .repr false (.cons (.call 12 (.cons (.var 5) .nil)) .nil)) (.ix (.var 3) (.var 5))) (.cons (.ret (.bl false))
    .nil) .nil)
    .nil))
    (.cons (.ret (.and (.call 24 (.cons (.tup (.cons (.str "at") (.cons (.bin .pow false (.int 10) (.int 29)) .nil))) .nil)) (.one (.call 24 (.cons (.tup (.cons (.str "family") (.cons (.str "to") (.cons (.tup (.cons (.tup (.cons (.str "call") (.cons (.str "run.1.gone") (.cons (.tup .nil) .nil)))) .nil)) .nil)))) .nil)))))
    .nil))))))
def f25 : FDef := ⟨"law", ["_law_script", "_law_deck_here", "_law_deeps", "_law_texts", "_law_deep", "_law_text_here", "_law_term_here", "_law_other", "_law_one", "_law_turn"], 1, b25⟩
def P : List FDef := [f0, f1, f2, f3, f4, f5, f6, f7, f8, f9, f10, f11, f12, f13, f14, f15, f16, f17, f18, f19, f20, f21, f22, f23, f24, f25]
def gls : List (Str × D) := [("LETTERS", .str "abcdefghijklmnopqrstuvwxyz"), ("FIGURES", .str "0123456789"), ("MOST_NAME", .int 8), ("MOST_FIGURES", .int 40), ("RUN", .str "run"), ("GONE", .str "gone"), ("MARKS", .tup [.str "run", .str "gone"]), ("AT", .str "at"), ("WORLD", .str "world"), ("TO", .str "to"), ("FUN", .str "fun"), ("GIVE", .str "give"), ("FAMILY", .str "family"), ("CALL", .str "call"), ("SHAPE", .str "shape"), ("HOLE", .str "hole")]
def gds : List (Str × List (Key × D)) := [("AHEAD", [((.inr "at"), .str "@"), ((.inr "world"), .str "!"), ((.inr "hole"), .str "?")])]
def top : Top := { P := P, gls := gls, gds := gds }
theorem d0 : BindOk ["thing"] := by
  intro x q args body scope kV doc pm cdv ct an us ha hl
  match args, us, ha, hl with
  | [⟨_, _, _⟩], [_], ha, _ => cases ha; rfl
theorem d1 : BindOk ["text"] := by
  intro x q args body scope kV doc pm cdv ct an us ha hl
  match args, us, ha, hl with
  | [⟨_, _, _⟩], [_], ha, _ => cases ha; rfl
theorem d2 : BindOk ["term"] := by
  intro x q args body scope kV doc pm cdv ct an us ha hl
  match args, us, ha, hl with
  | [⟨_, _, _⟩], [_], ha, _ => cases ha; rfl
theorem d3 : BindOk ["words"] := by
  intro x q args body scope kV doc pm cdv ct an us ha hl
  match args, us, ha, hl with
  | [⟨_, _, _⟩], [_], ha, _ => cases ha; rfl
theorem d4 : BindOk ["word"] := by
  intro x q args body scope kV doc pm cdv ct an us ha hl
  match args, us, ha, hl with
  | [⟨_, _, _⟩], [_], ha, _ => cases ha; rfl
theorem d5 : BindOk ["things", "names"] := by
  intro x q args body scope kV doc pm cdv ct an us ha hl
  match args, us, ha, hl with
  | [⟨_, _, _⟩, ⟨_, _, _⟩], [_, _], ha, _ => cases ha; rfl
theorem d6 : BindOk ["things"] := by
  intro x q args body scope kV doc pm cdv ct an us ha hl
  match args, us, ha, hl with
  | [⟨_, _, _⟩], [_], ha, _ => cases ha; rfl
theorem d7 : BindOk ["_law_script"] := by
  intro x q args body scope kV doc pm cdv ct an us ha hl
  match args, us, ha, hl with
  | [⟨_, _, _⟩], [_], ha, _ => cases ha; rfl
theorem d8 : BindOk ["_law_deck_here", "_law_ways"] := by
  intro x q args body scope kV doc pm cdv ct an us ha hl
  match args, us, ha, hl with
  | [⟨_, _, _⟩, ⟨_, _, _⟩], [_, _], ha, _ => cases ha; rfl
theorem d9 : BindOk ["_law_deck_here", "_law_some"] := by
  intro x q args body scope kV doc pm cdv ct an us ha hl
  match args, us, ha, hl with
  | [⟨_, _, _⟩, ⟨_, _, _⟩], [_, _], ha, _ => cases ha; rfl
theorem d10 : BindOk ["_law_deck_here"] := by
  intro x q args body scope kV doc pm cdv ct an us ha hl
  match args, us, ha, hl with
  | [⟨_, _, _⟩], [_], ha, _ => cases ha; rfl
theorem d11 : BindOk ["_law_deck_here", "_law_deep", "_law_left"] := by
  intro x q args body scope kV doc pm cdv ct an us ha hl
  match args, us, ha, hl with
  | [⟨_, _, _⟩, ⟨_, _, _⟩, ⟨_, _, _⟩], [_, _, _], ha, _ => cases ha; rfl
theorem d12 : BindOk ["_law_term_here"] := by
  intro x q args body scope kV doc pm cdv ct an us ha hl
  match args, us, ha, hl with
  | [⟨_, _, _⟩], [_], ha, _ => cases ha; rfl
theorem d13 : BindOk ["_law_deck_here", "_law_term_here"] := by
  intro x q args body scope kV doc pm cdv ct an us ha hl
  match args, us, ha, hl with
  | [⟨_, _, _⟩, ⟨_, _, _⟩], [_, _], ha, _ => cases ha; rfl
theorem binds : ∀ p ∈ P, BindOk (p.N.take p.np) := by
  intro p hp
  simp only [P, List.mem_cons, List.not_mem_nil, or_false] at hp
  rcases hp with rfl | rfl | rfl | rfl | rfl | rfl | rfl | rfl | rfl | rfl | rfl | rfl | rfl | rfl | rfl | rfl | rfl | rfl | rfl | rfl | rfl | rfl | rfl | rfl | rfl | rfl
  · exact d0
  · exact d1
  · exact d0
  · exact d0
  · exact d0
  · exact d2
  · exact d3
  · exact d2
  · exact d4
  · exact d5
  · exact d6
  · exact d6
  · exact d1
  · exact d7
  · exact d8
  · exact d9
  · exact d10
  · exact d10
  · exact d10
  · exact d10
  · exact d11
  · exact d12
  · exact d13
  · exact d13
  · exact d12
  · exact d7
end K04

/-! K04b: the term otherwise. -/
namespace K04
open MP PySem L2 PL
theorem isFn_of {P : List FDef} {k N np : Nat} {f : FDef} {b : Sxs} (hk : P[k]? = some f) (h1 : f.N.length = N) (h2 : f.np = np) (h3 : f.body = b) : IsFn (runF P) k N np b := by
  intro n ds hl
  subst h1 h2 h3
  show (match P[k]? with | some f => if ds.length = f.np then bodyD f.N.length (evSs (runF P n) f.body) ds else M.fail | none => M.fail) = _
  rw [hk]
  exact if_pos hl
abbrev F := runF P
theorem i0 : IsFn F 0 2 1 (isNameB 2 0) := isFn_of (f := f0) rfl rfl rfl rfl
theorem i1 : IsFn F 1 2 1 (areFiguresB 3 1) := isFn_of (f := f1) rfl rfl rfl rfl
theorem i2 : IsFn F 2 2 1 (isFarB 0 1) := isFn_of (f := f2) rfl rfl rfl rfl
theorem i3 : IsFn F 3 1 1 (isCalledB 0 2) := isFn_of (f := f3) rfl rfl rfl rfl
theorem i4 : IsFn F 4 1 1 (isMarkB 6) := isFn_of (f := f4) rfl rfl rfl rfl
theorem i5 : IsFn F 5 2 1 (partsB 9 10 11 12 13 14) := isFn_of (f := f5) rfl rfl rfl rfl
theorem i6 : IsFn F 6 1 1 inBracketsB := isFn_of (f := f6) rfl rfl rfl rfl
theorem i7 : IsFn F 7 4 1 (showB 0 14 6 5 7) := isFn_of (f := f7) rfl rfl rfl rfl
theorem i8 : IsFn F 8 3 1 (plainB 1 0 7 8 15) := isFn_of (f := f8) rfl rfl rfl rfl
theorem i9 : IsFn F 9 5 2 areThereB := isFn_of (f := f9) rfl rfl rfl rfl
theorem i10 : IsFn F 10 6 1 (listedB 9 4 3 0 9 10 11 12 13 14) := isFn_of (f := f10) rfl rfl rfl rfl
theorem i11 : IsFn F 11 4 1 (closedB 10 6) := isFn_of (f := f11) rfl rfl rfl rfl
theorem i12 : IsFn F 12 6 1 (readB 11 8) := isFn_of (f := f12) rfl rfl rfl rfl
theorem i14 : IsFn F 14 4 2 drawB := isFn_of (f := f14) rfl rfl rfl rfl
theorem i16 : IsFn F 16 6 1 (nameGenB 14) := isFn_of (f := f16) rfl rfl rfl rfl
theorem i17 : IsFn F 17 2 1 (farGenB 14 16) := isFn_of (f := f17) rfl rfl rfl rfl
theorem i18 : IsFn F 18 2 1 (calledGenW 14 17 16) := isFn_of (f := f18) rfl rfl rfl rfl
theorem i19 : IsFn F 19 3 1 (leafGenB 14 16 3 130 29) := isFn_of (f := f19) rfl rfl rfl rfl
theorem i20 : IsFn F 20 8 3 (termGenB 14 19 20 18 16) := isFn_of (f := f20) rfl rfl rfl rfl
theorem i21 : IsFn F 21 5 1 (lawTextB 21) := isFn_of (f := f21) rfl rfl rfl rfl
theorem i22 : IsFn F 22 7 2 b22 := isFn_of (f := f22) rfl rfl rfl rfl
theorem i23 : IsFn F 23 5 2 b23 := isFn_of (f := f23) rfl rfl rfl rfl
theorem i24 : IsFn F 24 4 1 b24 := isFn_of (f := f24) rfl rfl rfl rfl
theorem i25 : IsFn F 25 10 1 b25 := isFn_of (f := f25) rfl rfl rfl rfl
abbrev MM : Nat := 10 ^ 30
theorem drawW (n : Nat) (h : 1 ≤ n) : DrawOk (F n) 14 := draw_F i14 n h
theorem nameW (n : Nat) (h : 2 ≤ n) : NameOk (F n) 16 := name_F i16 i14 n h
theorem farW' (n : Nat) (h : 3 ≤ n) : FarOk (F n) 17 := far_F i17 i16 i14 n h
theorem calledW (n : Nat) (h : 4 ≤ n) : ClOk (F n) 18 := by
  obtain ⟨n, rfl⟩ : ∃ m, n = m + 1 := ⟨n - 1, by omega⟩
  intro S T Q hd hq
  rw [i18 n _ rfl]
  exact calledW_b (drawW n (by omega)) (farW' n (by omega)) (nameW n (by omega)) hd hq
theorem leafW (n : Nat) (h : 4 ≤ n) : LeafOk (F n) 19 MM := by
  obtain ⟨n, rfl⟩ : ∃ m, n = m + 1 := ⟨n - 1, by omega⟩
  intro S T Q hd hq
  rw [i19 n _ rfl]
  exact leaf_b (v := 10 ^ 29) (drawW n (by omega)) (nameW n (by omega)) (by decide) (by decide) (fun S => rfl) (by decide) (by decide) hd hq
/-! ### slices -/
theorem cut_take (xs : List D) (j : Nat) (h : j ≤ xs.length) : cutL xs none (some (j : Int)) = xs.take j := by
  unfold cutL
  rw [HT.sIx_none, HT.sIx_nat, Nat.min_eq_left h]
  simp
theorem cut_drop (xs : List D) (j : Nat) (h : j ≤ xs.length) : cutL xs (some (j : Int)) none = xs.drop j := by
  unfold cutL
  rw [HT.sIx_none, HT.sIx_nat, Nat.min_eq_left h]
  rw [List.take_of_length_le]
  rw [List.length_drop]
  omega
theorem sIx_m1 (n : Nat) (d : Nat) : HT.sIx n d (some (-1)) = n - 1 := by
  show (if (-1 : Int) < 0 then ((-1 : Int) + (n : Int)).toNat else min (-1 : Int).toNat n) = n - 1
  rw [if_pos (by decide)]
  omega
theorem cut_dl (xs : List D) : cutL xs none (some (-1)) = xs.dropLast := by
  unfold cutL
  rw [HT.sIx_none, sIx_m1, List.dropLast_eq_take]
  rfl
theorem cutS_take (x : Str) (j : Nat) : cutS x none (some (j : Int)) = SX.S ((tl x).take j) := by
  unfold cutS
  rw [HT.sIx_none, HT.sIx_nat]
  show SX.S (((tl x).drop 0).take (min j x.length - 0)) = _
  congr 1
  rw [List.drop_zero, Nat.sub_zero, ← tl_len, List.take_eq_take_iff]
  omega
theorem cutS_dl (x : Str) : cutS x none (some (-1)) = SX.S (tl x).dropLast := by
  unfold cutS
  rw [HT.sIx_none, sIx_m1, List.dropLast_eq_take, tl_len]
  rfl
theorem W_slS {z : Str} (h : z.length ≤ SL) (lo hi : Option Int) (S : Sto) (Q) : W (sliceE false (.str z) lo hi) S Q = Q (.str (cutS z lo hi)) S := by
  refine W_of ?_ Q
  show (if z.length ≤ SL then pure (D.str (cutS z lo hi)) else M.fail : M D) S = _
  rw [if_pos h]; rfl
@[simp ↓] theorem W_slT (xs : List D) (lo hi : Option Int) (S : Sto) (Q) : W (sliceE false (.tup xs) lo hi) S Q = Q (.tup (cutL xs lo hi)) S := (rfl)
@[simp ↓] theorem W_revT (xs : List D) (S : Sto) (Q) : W (revE false (.tup xs)) S Q = Q (.tup xs.reverse) S := (rfl)
/-! ### names -/
theorem low_all {x : Str} (h : nameS x = true) : (tl x).all lowB = true := List.all_eq_true.mpr (name_sig h).2
theorem name_make {l : List Nat} (h : ∀ c ∈ l, lowB c = true) (h1 : 1 ≤ l.length) (h2 : l.length ≤ 8) : nameS (SX.S l) = true := name_of (List.all_eq_true.mpr h) h1 h2
theorem tl_S (l : List Nat) : tl (SX.S l) = l := rfl
theorem name_end {x : Str} (h : nameS x = true) {c : Nat} (hc : lowB c = true) : nameS (SX.S ((tl x).dropLast ++ [c])) = true := by
  obtain ⟨_, h1, h2, h3⟩ := name_asc h
  refine name_make ?_ (by simp) ?_
  · intro d hd
    rcases List.mem_append.mp hd with hd | hd
    · exact h3 d ((List.dropLast_prefix _).subset hd)
    · rw [List.mem_singleton.mp hd]; exact hc
  · rw [List.length_append, List.length_dropLast, tl_len]
    simp
    omega
theorem cl_end {x : Str} (h : Cl x) {c : Nat} (hc : lowB c = true) : Cl (SX.S ((tl x).dropLast ++ [c])) := by
  rcases h with h | h
  · exact .inl (name_end h hc)
  · right
    obtain ⟨a, b, e, ha, hb, h0, he, rfl⟩ := h.parts
    have hne := (name_sig he).1
    have e1 : SX.S ((tl (a ++ "." ++ b ++ "." ++ e)).dropLast ++ [c]) = a ++ "." ++ b ++ "." ++ SX.S ((tl e).dropLast ++ [c]) := by
      refine TL.ext_tl ?_
      show (tl (a ++ "." ++ b ++ "." ++ e)).dropLast ++ [c] = TL.tl _
      have : tl (a ++ "." ++ b ++ "." ++ e) = TL.tl (a ++ "." ++ b ++ ".") ++ tl e := TL.tl_append _ _
      rw [this, List.dropLast_append_of_ne_nil hne, TL.tl_append (a ++ "." ++ b ++ ".")]
      simp [TL.tl_mk]
    rw [e1]
    exact (far_make ha hb h0 (name_end he hc)).1
/-! ### data are alike or not -/
theorem lay_str {x : Str} (h : ascS x = true) : (PyData.str x).canLay0 = true := by
  show PyData.strOk x = true
  unfold PyData.strOk
  rw [← Array.all_toList, List.all_eq_true]
  intro c hc
  have := asc_mem h c hc
  exact decide_eq_true (by omega)
mutual
theorem T.lay : ∀ (t : T), t.Ok → ∃ p, deep t.d = some p ∧ p.canLay0 = true
  | .at i, h => ⟨_, rfl, by
    show ((PyData.str "at").canLay0 && (true && true)) = true
    rw [lay_str (by decide +kernel)]; rfl⟩
  | .world i, h => ⟨_, rfl, by
    show ((PyData.str "world").canLay0 && (true && true)) = true
    rw [lay_str (by decide +kernel)]; rfl⟩
  | .hole x, h => ⟨_, rfl, by
    show ((PyData.str "hole").canLay0 && ((PyData.str x).canLay0 && true)) = true
    rw [lay_str (by decide +kernel), lay_str (name_asc h).1]; rfl⟩
  | .bi w m a b, h => by
    obtain ⟨p, e1, h1⟩ := T.lay a h.1
    obtain ⟨q, e2, h2⟩ := T.lay b h.2
    refine ⟨.tuple [.str w.s, .str m.s, p, q], by rw [T.d]; simp [deep, deeps, e1, e2], ?_⟩
    show ((PyData.str w.s).canLay0 && ((PyData.str m.s).canLay0 && (p.canLay0 && (q.canLay0 && true)))) = true
    rw [lay_str (w3_facts w).1, lay_str (mk_facts m).1, h1, h2]; rfl
  | .no w x ts, h => by
    obtain ⟨ps, e1, h1⟩ := T.lays ts h.2
    refine ⟨.tuple [.str w.s, .str x, .tuple ps], by rw [T.d]; simp [deep, deeps, e1], ?_⟩
    show ((PyData.str w.s).canLay0 && ((PyData.str x).canLay0 && (PyData.canLayAll0 ps && true))) = true
    rw [lay_str (w2_facts w).1, lay_str (cl_facts h.1).1, h1]; rfl
  | .sh x y ts, h => by
    obtain ⟨ps, e1, h1⟩ := T.lays ts h.2.2
    refine ⟨.tuple [.str "shape", .str x, .str y, .tuple ps], by rw [T.d]; simp [deep, deeps, e1], ?_⟩
    show ((PyData.str "shape").canLay0 && ((PyData.str x).canLay0 && ((PyData.str y).canLay0 && (PyData.canLayAll0 ps && true)))) = true
    rw [lay_str (by decide +kernel), lay_str (cl_facts h.1).1, lay_str (name_asc h.2.1).1, h1]; rfl
theorem T.lays : ∀ (ts : List T), T.Oks ts → ∃ ps, deeps (T.ds ts) = some ps ∧ PyData.canLayAll0 ps = true
  | [], _ => ⟨[], rfl, rfl⟩
  | t :: ts, h => by
    obtain ⟨p, e1, h1⟩ := T.lay t h.1
    obtain ⟨ps, e2, h2⟩ := T.lays ts h.2
    refine ⟨p :: ps, by rw [T.ds]; simp [deeps, e1, e2], ?_⟩
    show (p.canLay0 && PyData.canLayAll0 ps) = true
    rw [h1, h2]; rfl
end
theorem eq_tups (ts us : List T) (h1 : T.Oks ts) (h2 : T.Oks us) (hp : T.dps ts ≤ 60) (S : Sto) : ∃ b, eqD (.tup (T.ds ts)) (.tup (T.ds us)) S = .ok (.bl b) S := by
  obtain ⟨ps, e1, l1⟩ := T.lays ts h1
  obtain ⟨qs, e2, l2⟩ := T.lays us h2
  obtain ⟨ps', e3, _, g3, _⟩ := okL_deep (B := BB) (by decide) (T.ds ts) (T.okDs ts h1)
  rw [e1] at e3
  cases e3
  have dd := T.deps ts
  have key : ∃ b, eqE S (.tup (T.ds ts)) (.tup (T.ds us)) = some b := by
    unfold eqE
    show ∃ b, (match (none : Option Bool) with | some b => some b | none => match emptE S (.tup (T.ds ts)) (.tup (T.ds us)) with | some b => some b | none => dataE (.tup (T.ds ts)) (.tup (T.ds us))) = some b
    dsimp only
    cases emptE S (.tup (T.ds ts)) (.tup (T.ds us)) with
    | some b => exact ⟨b, rfl⟩
    | none =>
      unfold dataE
      have d1 : deep (.tup (T.ds ts)) = some (.tuple ps) := by show (deeps (T.ds ts)).map PyData.tuple = _; rw [e1]; rfl
      have d2 : deep (.tup (T.ds us)) = some (.tuple qs) := by show (deeps (T.ds us)).map PyData.tuple = _; rw [e2]; rfl
      rw [d1, d2]
      dsimp only
      rw [if_pos ⟨l1, l2, by show PyData.depthAll ps + 1 ≤ 150; omega⟩]
      exact ⟨_, rfl⟩
  obtain ⟨b, hb⟩ := key
  refine ⟨b, ?_⟩
  unfold eqD
  rw [hb]
/-! ### here otherwise -/
theorem oks_append {ts us : List T} (h1 : T.Oks ts) (h2 : T.Oks us) : T.Oks (ts ++ us) := by
  rw [oks_iff] at *
  intro t ht
  rcases List.mem_append.mp ht with ht | ht
  · exact h1 t ht
  · exact h2 t ht
theorem dps_append {n : Nat} {ts us : List T} (h1 : T.dps ts ≤ n) (h2 : T.dps us ≤ n) : T.dps (ts ++ us) ≤ n := by
  rw [dps_le] at *
  intro t ht
  rcases List.mem_append.mp ht with ht | ht
  · exact h1 t ht
  · exact h2 t ht
structure OkS (ts us : List T) : Prop where
  ok : T.Oks us
  dp : T.dps us ≤ T.dps ts
  sz : T.szs us ≤ T.szs ts + 1
theorem szs_sub : ∀ {ts us : List T}, us.Sublist ts → T.szs us ≤ T.szs ts
  | _, _, .slnil => Nat.le_refl _
  | _, _, .cons a h => by
    have := szs_sub h
    show _ ≤ a.sz + T.szs _
    omega
  | _, _, .cons_cons a h => by
    have := szs_sub h
    show a.sz + T.szs _ ≤ a.sz + T.szs _
    omega
theorem szs_perm : ∀ {ts us : List T}, ts.Perm us → T.szs ts = T.szs us
  | _, _, .nil => rfl
  | _, _, .cons a h => by show a.sz + _ = a.sz + _; rw [szs_perm h]
  | _, _, .swap a b l => by show b.sz + (a.sz + _) = a.sz + (b.sz + _); omega
  | _, _, .trans h1 h2 => (szs_perm h1).trans (szs_perm h2)
theorem here_parts {ts : List T} (h : T.Oks ts) {x : D} (hx : x ∈ [D.tup (T.ds ts ++ [(T.at 0).d]), D.tup (T.ds ts).dropLast, D.tup (T.ds ts).reverse, D.tup ((T.world 0).d :: T.ds ts)]) : ∃ us, x = .tup (T.ds us) ∧ OkS ts us := by
  simp only [List.mem_cons, List.not_mem_nil, or_false] at hx
  have m := ds_map ts
  rcases hx with rfl | rfl | rfl | rfl
  · refine ⟨ts ++ [.at 0], by rw [ds_map (ts ++ _), m, List.map_append]; rfl, oks_append (us := [.at 0]) h ⟨show (0 : Nat) < 10 ^ 40 by decide, trivial⟩, dps_append (Nat.le_refl _) (by simp [T.dps, T.dp]), ?_⟩
    rw [szs_append]; show _ + (1 + 0) ≤ _; omega
  · refine ⟨ts.dropLast, by rw [ds_map ts.dropLast, m, List.map_dropLast], ?_, ?_, ?_⟩
    · rw [oks_iff] at *; exact fun t ht => h t ((List.dropLast_prefix _).subset ht)
    · rw [dps_le]; exact fun t ht => dps_le.mp (Nat.le_refl _) t ((List.dropLast_prefix _).subset ht)
    · have := szs_sub (List.dropLast_sublist ts); omega
  · refine ⟨ts.reverse, by rw [ds_map ts.reverse, m, List.map_reverse], ?_, ?_, ?_⟩
    · rw [oks_iff] at *; exact fun t ht => h t (List.mem_reverse.mp ht)
    · rw [dps_le]; exact fun t ht => dps_le.mp (Nat.le_refl _) t (List.mem_reverse.mp ht)
    · have := szs_perm (List.reverse_perm ts); omega
  · refine ⟨.world 0 :: ts, by rw [T.ds], ⟨show 0 ≤ 9 by decide, h⟩, ?_, ?_⟩
    · show max 0 (T.dps ts) ≤ _; omega
    · show 1 + T.szs ts ≤ _; omega
end K04

/-! K04c: the term otherwise, here. -/
namespace K04
open MP PySem L2 PL
/-- a term otherwise -/
structure Oth (t u : T) : Prop where
  ok : u.Ok
  dp : u.dp ≤ t.dp + 1
  sz : u.sz ≤ t.sz + 1
def OthOk (φ : Nat → List D → M D) (k : Nat) (t : T) : Prop := ∀ (S : Sto) (T0 : List O) (Q : D → Sto → Prop), Dk S T0 → (∀ (u : T) S', Oth t u → Dk S' T0 → Q u.d S') → W (φ k [.ref 1, t.d]) S Q
theorem qa_ok (b : Bool) (S : Sto) : ∃ c, lowB c = true ∧ ixD (.str "qa") (.int (if b then 1 else 0)) S = .ok (.str (SX.S [c])) S := by
  have hl : (("qa" : String) : Str).length ≤ SL := by decide +kernel
  have e : (("qa" : String) : Str).cps.toList = [113, 97] := by decide +kernel
  cases b with
  | false =>
    refine ⟨113, by decide, ?_⟩
    rw [ixD_str hl, e]
    rfl
  | true =>
    refine ⟨97, by decide, ?_⟩
    rw [ixD_str hl, e]
    rfl
theorem here_node {n : Nat} {dd : D} {w : Str} {x : Str} {rest : List D} {ts : List T} (hdd : dd = .tup ([.str w, .str x] ++ rest ++ [.tup (T.ds ts)])) {S : Sto} {T0 : List O} {Q : D → Sto → Prop} {i : Int} (hd : Dk S T0) (a1 : 0 ≤ i) (b1 : i < 4) (hx : Cl x) (ho : T.Oks ts) (hz : ts.length ≤ 1000) (hp : T.dps ts ≤ 60) (hr : rest.length ≤ 10)
    (hre : rest = [] ∨ ∃ y, rest = [.str y])
    (h1 : ∀ us S', OkS ts us → Dk S' T0 → Q (.tup ([.str w, .str x] ++ rest ++ [.tup (T.ds us)])) S') (h2 : ∀ x' S', Cl x' → Dk S' T0 → Q (.tup ([.str w, .str x'] ++ rest ++ [.tup (T.ds ts)])) S') :
    W (evSs (F n) (.cons (.set 4 (.ix (.lst false (.cons (.bin .add false (.ix (.var 1) (.neg 1)) (.tup (.cons (.tup (.cons (.str "at") (.cons (.int 0) .nil))) .nil))) (.cons (.sl false (.ix (.var 1) (.neg 1)) .non (.som (.neg 1))) (.cons (.rev false (.ix (.var 1) (.neg 1))) (.cons (.bin .add false (.tup (.cons (.tup (.cons (.str "world") (.cons (.int 0) .nil))) .nil)) (.ix (.var 1) (.neg 1))) .nil))))) (.var 2)))
    (.cons (.ite (.and (.cons (.cmp .eq (.var 2) (.int 2)) (.cons (.cmp .eq (.var 4) (.ix (.var 1) (.neg 1))) .nil))) (.cons (.ret (.bin .add false (.tup (.cons (.var 3) (.cons (.bin .add false (.sl false (.ix (.var 1) (.int 1)) .non (.som (.neg 1))) (.ix (.str "qa") (.fn .int false (.cons (.cmp .eq (.sl false (.ix (.var 1) (.int 1)) (.som (.neg 1)) .non) (.str "q")) .nil)))) .nil))) (.sl false (.var 1) (.som (.int 2)) .non)))
    .nil) .nil)
    (.cons (.ret (.bin .add false (.sl false (.var 1) .non (.som (.neg 1))) (.tup (.cons (.var 4) .nil))))
    .nil))) [some (.ref 1), some dd, some (.int i), some (.str w), none, none, none]) S (bodyQ Q) := by
  subst hdd
  have hxl := (cl_facts hx).2.2
  have im : ∀ S, ixD (.tup ([.str w, .str x] ++ rest ++ [.tup (T.ds ts)])) (.int (-1)) S = .ok (.tup (T.ds ts)) S := fun S => by
    rw [ixD_tup, PL.atI_last]
  have i1 : ∀ S, ixD (.tup ([.str w, .str x] ++ rest ++ [.tup (T.ds ts)])) (.int 1) S = .ok (.str x) S := fun S => by
    rw [ixD_tup, show (1 : Int) = ((1 : Nat) : Int) from rfl, MP.atI_nat]; rfl
  have c2 : cutL ([.str w, .str x] ++ rest ++ [.tup (T.ds ts)]) (some 2) none = rest ++ [.tup (T.ds ts)] := by
    rw [show (2 : Int) = ((2 : Nat) : Int) from rfl, cut_drop _ _ (by simp)]
    rfl
  have cm : cutL ([.str w, .str x] ++ rest ++ [.tup (T.ds ts)]) none (some (-1)) = [.str w, .str x] ++ rest := by
    rw [cut_dl, List.dropLast_concat]
  generalize hD : ([.str w, .str x] ++ rest ++ [.tup (T.ds ts)] : List D) = ds at *
  have cm' : ds.dropLast = [.str w, .str x] ++ rest := by rw [← cut_dl]; exact cm
  simp [W_of (im _), cut_dl]
  rw [W_addT _ (by rw [ds_len]; show _ + 1 ≤ 16777216; omega)]
  try simp [W_of (im _), cut_dl]
  rw [W_addT _ (by show 1 + (T.ds ts).length ≤ 16777216; rw [ds_len]; omega)]
  refine W_ixL_all a1 b1 ?_
  intro y hy
  obtain ⟨us, rfl, hu⟩ := here_parts ho hy
  have last : W (addD false (.tup ds.dropLast) (.tup [.tup (T.ds us)])) S (fun d S1 => Q d S1) := by
    rw [cm', W_addT _ (by simp; show _ ≤ 16777216; omega)]
    exact h1 us S hu hd
  obtain ⟨b, hb⟩ := eq_tups us ts hu.ok ho (by have := hu.dp; omega) S
  by_cases h2' : i = 2
  · simp [h2', W_of (im _), W_of hb]
    cases b with
    | false => simpa using last
    | true =>
      simp [W_of (i1 _)]
      rw [W_slS (by show _ ≤ 16777216; omega), W_slS (by show _ ≤ 16777216; omega)]
      have eb : ∀ z : Str, eqD (.str z) (.str "q") S = .ok (.bl (decide (z = "q"))) S := fun z => rfl
      rw [W_of (eb _), W_intB]
      obtain ⟨c, hc, e⟩ := qa_ok (decide (cutS x (some (-1)) none = "q")) S
      rw [W_of e, cutS_dl, W_addS _ (by rw [SX.S_len, SX.S_len, List.length_dropLast, tl_len]; show _ + 1 ≤ 16777216; omega), SX.S_cat, c2]
      rw [W_addT _ (by rw [List.length_append]; show 2 + (rest.length + 1) ≤ 16777216; omega)]
      have := h2 _ S (cl_end hx hc) hd
      simpa using this
  · simp [h2']
    simpa using last
theorem tfg_dic (w : W3) (S : Sto) : ∃ w' : W3, ixD (.dic (mergeD [] [((.inr "to"), keyC (.inr "fun")), ((.inr "fun"), keyC (.inr "to")), ((.inr "give"), keyC (.inr "fun"))])) (.str w.s) S = .ok (.str w'.s) S := by
  have key : ∀ w w' : W3, lookK (mergeD [] [((.inr "to"), keyC (.inr "fun")), ((.inr "fun"), keyC (.inr "to")), ((.inr "give"), keyC (.inr "fun"))]) (.inr w.s) = some (.str w'.s) → ixD (.dic (mergeD [] [((.inr "to"), keyC (.inr "fun")), ((.inr "fun"), keyC (.inr "to")), ((.inr "give"), keyC (.inr "fun"))])) (.str w.s) S = .ok (.str w'.s) S := by
    intro w w' h
    show (match (some _).bind (lookK · (.inr w.s)) with | some e => R.ok e S | none => .bad) = _
    rw [Option.bind_some, h]
  cases w with
  | to => exact ⟨.fn, key _ _ (by kernel_rfl)⟩
  | fn => exact ⟨.to, key _ _ (by kernel_rfl)⟩
  | give => exact ⟨.fn, key _ _ (by kernel_rfl)⟩
theorem mark_ix (b : Bool) (S : Sto) : ∃ m : Mk, ixD (.lst [.str "run", .str "gone"]) (.int (if b then 1 else 0)) S = .ok (.str m.s) S := by
  cases b with
  | false => exact ⟨.run, rfl⟩
  | true => exact ⟨.gone, rfl⟩
theorem b_S : ("b" : Str) = SX.S [98] := by decide +kernel
theorem zzz_S : ("zzz" : Str) = SX.S [122, 122, 122] := by decide +kernel
theorem m_at : decide ((("at" : String) : Str) ∈ ([("at" : String), ("world" : String)] : List Str)) = true := by decide +kernel
theorem m_world : decide ((("world" : String) : Str) ∈ ([("at" : String), ("world" : String)] : List Str)) = true := by decide +kernel
theorem m_hole : decide ((("hole" : String) : Str) ∈ ([("at" : String), ("world" : String)] : List Str)) = false := by decide +kernel
theorem here_F (n : Nat) (hn : 2 ≤ n) (t : T) (ho : t.Ok) (hm : t.mx ≤ MM) (hz : t.sz ≤ 900) (hp : t.dp ≤ 50) : OthOk (F n) 22 t := by
  obtain ⟨n, rfl⟩ : ∃ m, n = m + 1 := ⟨n - 1, by omega⟩
  intro S T0 Q hd h
  rw [i22 n _ rfl, W_body]
  unfold b22
  simp [startD]
  refine drawW n (by omega) hd (by decide) (by decide) fun i1 S1 a1 b1 d1 => ?_
  simp [W_of (wd_ix t _), par_two, setsL]
  have l2 := in2 t.w.s "at" "world" S1
  have l3 := in3 t.w.s "to" "fun" "give" S1
  have lh : eqD (.str t.w.s) (.str "hole") S1 = .ok (.bl (decide (t.w.s = "hole"))) S1 := rfl
  have num : ∀ i : Nat, (t = .at i ∨ t = .world i) → i ≤ MM → (∀ j : Nat, j ≤ 10 * i + 10 → Oth t (.at j)) → W (ixD t.d (.int 1)) S1 (fun d S2 => W (addD false d (.int 1)) S2 (fun e S3 => W (ixD t.d (.int 1)) S3 (fun d2 S4 => W (mulM false (.int 10) d2) S4 (fun d3 S5 => W (addD false d3 (.int 10)) S5 (fun d4 S6 => W (ixD (.lst [.tup [.str "at", e], .tup [.str "at", d4], .tup [.str "hole", .str "a"], .tup [.str "family", .str "a", .tup []]]) (.int i1)) S6 (fun d S7 => Q d S7)))))) := by
    intro i ht hi hj
    have e1 : ixD t.d (.int 1) S1 = .ok (.int i) S1 := by rcases ht with rfl | rfl <;> rfl
    rw [W_of e1, W_addI, W_of e1, W_mulI (Or.inl (by decide)), W_addI]
    refine W_ixL_all a1 b1 ?_
    intro x hx
    simp only [List.mem_cons, List.not_mem_nil, or_false] at hx
    have tz : t.sz = 1 ∧ t.dp = 0 := by rcases ht with rfl | rfl <;> exact ⟨rfl, rfl⟩
    rcases hx with rfl | rfl | rfl | rfl
    · exact h (.at (i + 1)) S1 (hj _ (by omega)) d1
    · have := h (.at (10 * i + 10)) S1 (hj _ (by omega)) d1
      simp only [T.d] at this
      have e : (((10 * i + 10 : Nat)) : Int) = 10 * (i : Int) + 10 := by omega
      rw [e] at this
      exact this
    · exact h (.hole "a") S1 ⟨by show nameS "a" = true; decide +kernel, by rw [T.dp]; omega, by rw [T.sz]; omega⟩ d1
    · exact h (.no .family "a" []) S1 ⟨⟨.inl (by decide +kernel), trivial⟩, by simp [T.dp, T.dps], by simp [T.sz, T.szs]⟩ d1
  cases t with
  | «at» i =>
    rw [show (T.at i).w.s = ("at" : String) from rfl] at l2 ⊢
    rw [m_at] at l2
    have hi : i ≤ MM := hm
    simp [W_of l2]
    exact num i (.inl rfl) hi fun j hj => ⟨show j < 10 ^ 40 by have : MM = 10 ^ 30 := rfl; omega, by simp [T.dp], by simp [T.sz]⟩
  | world i =>
    rw [show (T.world i).w.s = ("world" : String) from rfl] at l2 ⊢
    rw [m_world] at l2
    have hi : i ≤ 9 := ho
    simp [W_of l2]
    exact num i (.inr rfl) (Nat.le_trans hi (by decide)) fun j hj => ⟨show j < 10 ^ 40 by omega, by simp [T.dp], by simp [T.sz]⟩
  | hole x =>
    rw [show (T.hole x).w.s = ("hole" : String) from rfl] at l2 lh ⊢
    rw [m_hole] at l2
    rw [decide_eq_true rfl] at lh
    obtain ⟨_, x1, x2, x3⟩ := name_asc ho
    have e1 : ∀ S, ixD (T.hole x).d (.int 1) S = .ok (.str x) S := fun S => rfl
    simp [W_of l2, W_of lh, W_of (e1 _)]
    rw [W_slS (by show _ ≤ 16777216; omega)]
    have c7 := cutS_take x 7
    have c4 := cutS_take x 4
    have t7 : ((tl x).take 7).length ≤ 7 := by rw [List.length_take]; omega
    have t4 : ((tl x).take 4).length ≤ 4 := by rw [List.length_take]; omega
    rw [show (some (7 : Int)) = some ((7 : Nat) : Int) from rfl, c7, b_S, W_addS _ (by rw [SX.S_len, SX.S_len]; show _ + 1 ≤ 16777216; omega), SX.S_cat]
    try simp [W_of (e1 _)]
    rw [W_slS (by show _ ≤ 16777216; omega), show (some (4 : Int)) = some ((4 : Nat) : Int) from rfl, c4, zzz_S, W_addS _ (by rw [SX.S_len, SX.S_len]; show 3 + _ ≤ 16777216; omega), SX.S_cat]
    try simp [W_of (e1 _)]
    refine W_ixL_all a1 b1 ?_
    intro y hy
    simp only [List.mem_cons, List.not_mem_nil, or_false] at hy
    have low : ∀ c ∈ tl x, lowB c = true := x3
    rcases hy with rfl | rfl | rfl | rfl
    · refine h (.hole (SX.S ((tl x).take 7 ++ [98]))) S1 ⟨name_make ?_ (by simp) (by rw [List.length_append]; simp; omega), by simp [T.dp], by simp [T.sz]⟩ d1
      intro c hc
      rcases List.mem_append.mp hc with hc | hc
      · exact low c (List.mem_of_mem_take hc)
      · rw [List.mem_singleton.mp hc]; decide
    · refine h (.hole (SX.S ([122, 122, 122] ++ (tl x).take 4))) S1 ⟨name_make ?_ (by simp) (by rw [List.length_append]; simp; omega), by simp [T.dp], by simp [T.sz]⟩ d1
      intro c hc
      rcases List.mem_append.mp hc with hc | hc
      · have : ∀ c ∈ [122, 122, 122], lowB c = true := by decide
        exact this c hc
      · exact low c (List.mem_of_mem_take hc)
    · exact h (.no .call x []) S1 ⟨⟨.inl ho, trivial⟩, by simp [T.dp, T.dps], by simp [T.sz, T.szs]⟩ d1
    · exact h (.at 0) S1 ⟨show (0 : Nat) < 10 ^ 40 by decide, by simp [T.dp], by simp [T.sz]⟩ d1
  | bi w m a b =>
    have ew : (T.bi w m a b).w.s = w.s := by cases w <;> rfl
    rw [ew] at l2 l3 lh ⊢
    rw [show decide (w.s ∈ ([("at" : String), ("world" : String)] : List Str)) = false from by cases w <;> decide +kernel] at l2
    rw [show decide (w.s = ("hole" : String)) = false from by cases w <;> decide +kernel] at lh
    rw [show decide (w.s ∈ ([("to" : String), ("fun" : String), ("give" : String)] : List Str)) = true from by cases w <;> decide +kernel] at l3
    have e1 : ∀ S, ixD (T.bi w m a b).d (.int 1) S = .ok (.str m.s) S := fun S => rfl
    have e2 : ∀ S, ixD (T.bi w m a b).d (.int 2) S = .ok a.d S := fun S => rfl
    have e3 : ∀ S, ixD (T.bi w m a b).d (.int 3) S = .ok b.d S := fun S => rfl
    have s2 : ∀ S, sliceE false (T.bi w m a b).d (some 2) none S = .ok (.tup [a.d, b.d]) S := fun S => rfl
    have s1 : ∀ S, sliceE false (T.bi w m a b).d (some 1) none S = .ok (.tup [.str m.s, a.d, b.d]) S := fun S => rfl
    have er : eqD (.str m.s) (.str "run") S1 = .ok (.bl (decide (m.s = "run"))) S1 := rfl
    obtain ⟨m', hm'⟩ := mark_ix (decide (m.s = ("run" : String))) S1
    obtain ⟨w', hw'⟩ := tfg_dic w S1
    simp [W_of l2, W_of lh, W_of l3, W_of (e1 _), W_of er, -eq_str]
    rw [W_intB, W_of hm']
    simp [W_of hw', W_of (s2 _), W_of (s1 _)]
    rw [W_addT _ (by show 2 + 2 ≤ 16777216; decide)]
    simp [W_of (s1 _)]
    rw [W_addT _ (by show 1 + 3 ≤ 16777216; decide)]
    simp [W_of (e1 _), W_of (e2 _), W_of (e3 _)]
    refine W_ixL_all a1 b1 ?_
    intro y hy
    simp only [List.mem_cons, List.not_mem_nil, or_false] at hy
    rcases hy with rfl | rfl | rfl | rfl
    · exact h (.bi w m' a b) S1 ⟨ho, by simp [T.dp], by simp [T.sz]⟩ d1
    · exact h (.bi w' m a b) S1 ⟨ho, by simp [T.dp], by simp [T.sz]⟩ d1
    · exact h (.bi w m b a) S1 ⟨⟨ho.2, ho.1⟩, by simp only [T.dp]; omega, by simp only [T.sz]; omega⟩ d1
    · exact h a S1 ⟨ho.1, by simp only [T.dp]; omega, by simp only [T.sz]; omega⟩ d1
  | no w x ts =>
    have ew : (T.no w x ts).w.s = w.s := by cases w <;> rfl
    rw [ew] at l2 l3 lh ⊢
    rw [show decide (w.s ∈ ([("at" : String), ("world" : String)] : List Str)) = false from by cases w <;> decide +kernel] at l2
    rw [show decide (w.s = ("hole" : String)) = false from by cases w <;> decide +kernel] at lh
    rw [show decide (w.s ∈ ([("to" : String), ("fun" : String), ("give" : String)] : List Str)) = false from by cases w <;> decide +kernel] at l3
    simp [W_of l2, W_of lh, W_of l3, -eq_str]
    have hzl : ts.length ≤ 1000 := by have := szs_len ts; have : T.szs ts + 1 ≤ 900 := hz; omega
    have := here_node (n := n) (dd := (T.no w x ts).d) (w := w.s) (x := x) (rest := []) (ts := ts) (Q := Q) rfl d1 a1 b1 ho.1 ho.2 hzl (by have : T.dps ts + 1 ≤ 50 := hp; omega) (by simp) (.inl rfl)
      (fun us S' hu d' => h (.no w x us) S' ⟨⟨ho.1, hu.ok⟩, by have := hu.dp; simp only [T.dp]; omega, by have := hu.sz; simp only [T.sz]; omega⟩ d')
      (fun x' S' hx' d' => h (.no w x' ts) S' ⟨⟨hx', ho.2⟩, by simp [T.dp], by simp [T.sz]⟩ d')
    simpa using this
  | sh x y ts =>
    have ew : (T.sh x y ts).w.s = ("shape" : String) := rfl
    rw [ew] at l2 l3 lh ⊢
    rw [show decide ((("shape" : String) : Str) ∈ ([("at" : String), ("world" : String)] : List Str)) = false from by decide +kernel] at l2
    rw [show decide ((("shape" : String) : Str) = ("hole" : String)) = false from by decide +kernel] at lh
    rw [show decide ((("shape" : String) : Str) ∈ ([("to" : String), ("fun" : String), ("give" : String)] : List Str)) = false from by decide +kernel] at l3
    simp [W_of l2, W_of lh, W_of l3, -eq_str]
    have hzl : ts.length ≤ 1000 := by have := szs_len ts; have : T.szs ts + 1 ≤ 900 := hz; omega
    have := here_node (n := n) (dd := (T.sh x y ts).d) (w := "shape") (x := x) (rest := [.str y]) (ts := ts) (Q := Q) rfl d1 a1 b1 ho.1 ho.2.2 hzl (by have : T.dps ts + 1 ≤ 50 := hp; omega) (by simp) (.inr ⟨y, rfl⟩)
      (fun us S' hu d' => h (.sh x y us) S' ⟨⟨ho.1, ho.2.1, hu.ok⟩, by have := hu.dp; simp only [T.dp]; omega, by have := hu.sz; simp only [T.sz]; omega⟩ d')
      (fun x' S' hx' d' => h (.sh x' y ts) S' ⟨⟨hx', ho.2.1, ho.2.2⟩, by simp [T.dp], by simp [T.sz]⟩ d')
    simpa using this
end K04

/-! K04d: the term otherwise, at any depth. -/
namespace K04
open MP PySem L2 PL
theorem eq_unit (xs : List D) (S : Sto) : eqD (.tup xs) (.tup []) S = .ok (.bl xs.isEmpty) S := by
  cases xs <;> rfl
/-- the last thing of a node: whether it is () -/
def T.end0 : T → Bool
  | .no _ _ ts => ts.isEmpty
  | .sh _ _ ts => ts.isEmpty
  | _ => false
theorem ds_empty (ts : List T) : (T.ds ts).isEmpty = ts.isEmpty := by cases ts <;> rfl
theorem end_eq (t : T) (hl : t.isLeaf = false) (S : Sto) : ∃ d, ixD t.d (.int (-1)) S = .ok d S ∧ eqD d (.tup []) S = .ok (.bl (T.end0 t)) S := by
  cases t with
  | bi w m a b =>
    refine ⟨b.d, rfl, ?_⟩
    obtain ⟨xs, e⟩ : ∃ x xs, b.d = .tup (x :: xs) := by cases b <;> exact ⟨_, _, rfl⟩
    obtain ⟨ys, e⟩ := e
    rw [e, eq_unit]
    rfl
  | no w x ts => exact ⟨.tup (T.ds ts), rfl, by rw [eq_unit, ds_empty]; rfl⟩
  | sh x y ts => exact ⟨.tup (T.ds ts), rfl, by rw [eq_unit, ds_empty]; rfl⟩
  | _ => cases hl
theorem repl_ok {ts : List T} {i : Nat} {t u : T} (ho : T.Oks ts) (ht : ts[i]? = some t) (hu : Oth t u) : ∃ us, (T.ds ts).take i ++ [u.d] ++ (T.ds ts).drop (i + 1) = T.ds us ∧ T.Oks us ∧ T.dps us ≤ T.dps ts + 1 ∧ T.szs us ≤ T.szs ts + 1 := by
  obtain ⟨hi, e⟩ := List.getElem?_eq_some_iff.mp ht
  refine ⟨ts.take i ++ [u] ++ ts.drop (i + 1), ?_, ?_, ?_, ?_⟩
  · rw [ds_map, ds_map, List.map_append, List.map_append, List.map_take, List.map_drop]
    rfl
  · rw [oks_iff] at *
    intro v hv
    simp only [List.mem_append, List.mem_singleton] at hv
    rcases hv with (hv | rfl) | hv
    · exact ho v (List.mem_of_mem_take hv)
    · exact hu.ok
    · exact ho v (List.mem_of_mem_drop hv)
  · rw [dps_le]
    have le := dps_le.mp (Nat.le_refl (T.dps ts))
    intro v hv
    simp only [List.mem_append, List.mem_singleton] at hv
    rcases hv with (hv | rfl) | hv
    · have := le v (List.mem_of_mem_take hv); omega
    · have := le t (List.mem_of_getElem? ht); have := hu.dp; omega
    · have := le v (List.mem_of_mem_drop hv); omega
  · have e1 : T.szs ts = T.szs (ts.take i) + (t.sz + T.szs (ts.drop (i + 1))) := by
      conv => lhs; rw [← List.take_append_drop i ts, szs_append, List.drop_eq_getElem_cons hi, e]
      rfl
    rw [szs_append, szs_append]
    show T.szs (ts.take i) + (u.sz + 0) + _ ≤ _
    have := hu.sz
    omega
theorem oth_node {n : Nat} {dd : D} {ahead : List D} {ts : List T} (hdd : dd = .tup (ahead ++ [.tup (T.ds ts)])) (hn : 1 ≤ n) (ho : T.Oks ts) (hts : ts ≠ []) (hz : ts.length ≤ 1000) (hal : ahead.length ≤ 10) (ih : ∀ t ∈ ts, OthOk (F n) 23 t) {way : Int} {S : Sto} {T0 : List O} {Q : D → Sto → Prop} (hd : Dk S T0)
    (h : ∀ us S', T.Oks us → T.dps us ≤ T.dps ts + 1 → T.szs us ≤ T.szs ts + 1 → Dk S' T0 → Q (.tup (ahead ++ [.tup (T.ds us)])) S') :
    W (evSs (F n) (.cons (.set 3 (.call 14 (.cons (.var 0) (.cons (.fn .len false (.cons (.ix (.var 1) (.neg 1)) .nil)) .nil))))
    (.cons (.set 4 (.bin .add false (.bin .add false (.sl false (.ix (.var 1) (.neg 1)) .non (.som (.var 3))) (.tup (.cons (.call 23 (.cons (.var 0) (.cons (.ix (.ix (.var 1) (.neg 1)) (.var 3)) .nil))) .nil))) (.sl false (.ix (.var 1) (.neg 1)) (.som (.bin .add false (.var 3) (.int 1))) .non)))
    (.cons (.ret (.bin .add false (.sl false (.var 1) .non (.som (.neg 1))) (.tup (.cons (.var 4) .nil))))
    .nil))) [some (.ref 1), some dd, some (.int way), none, none]) S (bodyQ Q) := by
  subst hdd
  have im : ∀ S, ixD (.tup (ahead ++ [.tup (T.ds ts)])) (.int (-1)) S = .ok (.tup (T.ds ts)) S := fun S => by
    rw [ixD_tup, PL.atI_last]
  have cm : (ahead ++ [D.tup (T.ds ts)]).dropLast = ahead := List.dropLast_concat
  generalize hD : (ahead ++ [.tup (T.ds ts)] : List D) = ds at *
  have hpos : 0 < ts.length := List.length_pos_iff.mpr hts
  simp [W_of (im _), cut_dl]
  refine drawW n hn hd (by rw [ds_len]; omega) (by rw [ds_len]; omega) fun i1 S1 a1 b1 d1 => ?_
  simp [W_of (im _), cut_dl]
  rw [ds_len] at b1
  obtain ⟨i, rfl⟩ := Int.eq_ofNat_of_zero_le a1
  have hi : i < ts.length := by omega
  have ht : ts[i]? = some ts[i] := List.getElem?_eq_getElem hi
  have ixt : ∀ S, ixD (.tup (T.ds ts)) (.int (i : Nat)) S = .ok ts[i].d S := fun S => by
    rw [ixD_tup, MP.atI_nat, ds_map, List.getElem?_map, ht]
    rfl
  rw [W_of (ixt _)]
  refine ih ts[i] (List.getElem_mem hi) S1 T0 _ d1 fun u S2 hu d2 => ?_
  obtain ⟨us, eu, uo, ud, uz⟩ := repl_ok ho ht hu
  have e1 : ((i : Nat) : Int) + 1 = ((i + 1 : Nat) : Int) := by omega
  rw [cut_take _ _ (by rw [ds_len]; omega), W_addT _ (by rw [List.length_take, ds_len]; show _ + 1 ≤ 16777216; omega)]
  try simp [W_of (im _), cut_dl]
  rw [e1, cut_drop _ _ (by rw [ds_len]; omega), W_addT _ (by simp [ds_len]; show _ ≤ 16777216; omega)]
  have eu' : (T.ds ts).take i ++ [u.d] ++ (T.ds ts).drop (i + 1) = T.ds us := eu
  simp only [List.append_assoc, List.cons_append, List.nil_append] at eu' ⊢
  rw [eu']
  try simp [cut_dl]
  rw [cm, W_addT _ (by show ahead.length + 1 ≤ 16777216; omega)]
  exact h us S2 uo ud uz d2
theorem oth_F : ∀ (k : Nat) (t : T) (n : Nat), t.dp ≤ k → k + 3 ≤ n → t.Ok → t.mx ≤ MM → t.sz ≤ 900 → t.dp ≤ 50 → OthOk (F n) 23 t := by
  have mxp : ∀ {t : T}, t.mx ≤ MM → ∀ u ∈ t.parts, u.mx ≤ MM := by
    intro t h u hu
    cases t with
    | bi w m a b =>
      have h : max a.mx b.mx ≤ MM := h
      simp [T.parts] at hu
      rcases hu with rfl | rfl <;> omega
    | no w x ts => exact mxs_le.mp h u hu
    | sh x y ts => exact mxs_le.mp h u hu
    | _ => simp [T.parts] at hu
  intro k
  induction k with
  | zero =>
    intro t n hk hn ho hm hz hp
    obtain ⟨n, rfl⟩ : ∃ m, n = m + 1 := ⟨n - 1, by omega⟩
    intro S T0 Q hd h
    rw [i23 n _ rfl, W_body]
    unfold b23
    have hl : t.isLeaf = true := by cases t <;> first | rfl | (simp [T.dp] at hk)
    have l3 := fun S => in3 t.w.s "at" "world" "hole" S
    simp only [wd_L, leaf_w, hl] at l3
    have here := here_F n (by omega) t ho hm hz hp
    simp [startD]
    refine drawW n (by omega) hd (by decide) (by decide) fun i1 S1 a1 b1 d1 => ?_
    by_cases h0 : i1 = 0
    · simp [h0]
      exact here S1 T0 _ d1 h
    · simp [h0, W_of (wd_ix t _), W_of (l3 _)]
      exact here S1 T0 _ d1 h
  | succ k ih =>
    intro t n hk hn ho hm hz hp
    obtain ⟨n, rfl⟩ : ∃ m, n = m + 1 := ⟨n - 1, by omega⟩
    intro S T0 Q hd h
    rw [i23 n _ rfl, W_body]
    unfold b23
    have here := here_F n (by omega) t ho hm hz hp
    have ihp : ∀ u ∈ t.parts, OthOk (F n) 23 u := fun u hu => ih u n (by have := parts_dp u hu; omega) (by omega) (parts_ok ho u hu) (mxp hm u hu) (by have := szs_mem hu; have := parts_sz t; omega) (by have := parts_dp u hu; omega)
    simp [startD]
    refine drawW n (by omega) hd (by decide) (by decide) fun i1 S1 a1 b1 d1 => ?_
    by_cases h0 : i1 = 0
    · simp [h0]
      exact here S1 T0 _ d1 h
    by_cases hl : t.isLeaf = true
    · have l3 := fun S => in3 t.w.s "at" "world" "hole" S
      simp only [wd_L, leaf_w, hl] at l3
      simp [h0, W_of (wd_ix t _), W_of (l3 _)]
      exact here S1 T0 _ d1 h
    have hl : t.isLeaf = false := by simpa using hl
    have l3 := fun S => in3 t.w.s "at" "world" "hole" S
    simp only [wd_L, leaf_w, hl] at l3
    obtain ⟨dl, e1, e2⟩ := end_eq t hl S1
    by_cases h9 : T.end0 t = true
    · rw [h9] at e2
      simp [h0, W_of (wd_ix t _), W_of (l3 _), W_of e1, W_of e2]
      exact here S1 T0 _ d1 h
    have h9 : T.end0 t = false := by simpa using h9
    rw [h9] at e2
    have g3 := fun S => in3 t.w.s "to" "fun" "give" S
    simp only [wd_3] at g3
    cases t with
    | bi w m a b =>
      have ew : (T.bi w m a b).w.is3 = true := by cases w <;> rfl
      simp only [ew] at g3
      simp [h0, W_of (wd_ix _ _), W_of (l3 _), W_of e1, W_of e2, W_of (g3 _)]
      refine drawW n (by omega) d1 (by decide) (by decide) fun i2 S2 a2 b2 d2 => ?_
      have hi2 : i2 = 0 ∨ i2 = 1 := by omega
      rcases hi2 with rfl | rfl
      · have s1 : sliceE false (T.bi w m a b).d none (some 2) S2 = .ok (.tup [.str w.s, .str m.s]) S2 := rfl
        have x1 : ixD (T.bi w m a b).d (.int 2) S2 = .ok a.d S2 := rfl
        simp [W_of s1, W_of x1]
        refine ihp a (by simp [T.parts]) S2 T0 _ d2 fun u S3 hu d3 => ?_
        have s2 : sliceE false (T.bi w m a b).d (some 3) none S3 = .ok (.tup [b.d]) S3 := rfl
        rw [W_addT _ (by show 2 + 1 ≤ 16777216; decide)]
        simp [W_of s2]
        rw [W_addT _ (by show 3 + 1 ≤ 16777216; decide)]
        exact h (.bi w m u b) S3 ⟨⟨hu.ok, ho.2⟩, by have := hu.dp; simp only [T.dp]; omega, by have := hu.sz; simp only [T.sz]; omega⟩ d3
      · have s1 : sliceE false (T.bi w m a b).d none (some 3) S2 = .ok (.tup [.str w.s, .str m.s, a.d]) S2 := rfl
        have x1 : ixD (T.bi w m a b).d (.int 3) S2 = .ok b.d S2 := rfl
        simp [W_of s1, W_of x1]
        refine ihp b (by simp [T.parts]) S2 T0 _ d2 fun u S3 hu d3 => ?_
        have s2 : sliceE false (T.bi w m a b).d (some 4) none S3 = .ok (.tup []) S3 := rfl
        rw [W_addT _ (by show 3 + 1 ≤ 16777216; decide)]
        simp [W_of s2]
        rw [W_addT _ (by show 4 + 0 ≤ 16777216; decide)]
        exact h (.bi w m a u) S3 ⟨⟨ho.1, hu.ok⟩, by have := hu.dp; simp only [T.dp]; omega, by have := hu.sz; simp only [T.sz]; omega⟩ d3
    | no w x ts =>
      have ew : (T.no w x ts).w.is3 = false := by cases w <;> rfl
      simp only [ew] at g3
      simp [h0, W_of (wd_ix _ _), W_of (l3 _), W_of e1, W_of e2, W_of (g3 _)]
      have hzl : ts.length ≤ 1000 := by have := szs_len ts; have : T.szs ts + 1 ≤ 900 := hz; omega
      have := oth_node (n := n) (dd := (T.no w x ts).d) (ahead := [.str w.s, .str x]) (ts := ts) (way := i1) (Q := Q) rfl (by omega) ho.2 (fun e => by rw [T.end0, e] at h9; cases h9) hzl (by simp) ihp d1
        (fun us S' uo ud uz d' => h (.no w x us) S' ⟨⟨ho.1, uo⟩, by simp only [T.dp]; omega, by simp only [T.sz]; omega⟩ d')
      simpa [W_of e1] using this
    | sh x y ts =>
      have ew : (T.sh x y ts).w.is3 = false := rfl
      simp only [ew] at g3
      simp [h0, W_of (wd_ix _ _), W_of (l3 _), W_of e1, W_of e2, W_of (g3 _)]
      have hzl : ts.length ≤ 1000 := by have := szs_len ts; have : T.szs ts + 1 ≤ 900 := hz; omega
      have := oth_node (n := n) (dd := (T.sh x y ts).d) (ahead := [.str "shape", .str x, .str y]) (ts := ts) (way := i1) (Q := Q) rfl (by omega) ho.2.2 (fun e => by rw [T.end0, e] at h9; cases h9) hzl (by simp) ihp d1
        (fun us S' uo ud uz d' => h (.sh x y us) S' ⟨⟨ho.1, ho.2.1, uo⟩, by simp only [T.dp]; omega, by simp only [T.sz]; omega⟩ d')
      simpa [W_of e1] using this
    | _ => cases hl
end K04

/-! K04e: a term is right. -/
namespace K04
open MP PySem L2 PL
theorem readOk (n : Nat) (hn : 8 ≤ n) : ReadOk (F n) 11 8 where
  word := fun c r S hc hr => plain_word i8 n (by omega) c r hc hr S
  leaf := fun t S ho hl => plain_leaf i8 i0 i1 n (by omega) t ho hl S
  node := fun t S r ho hz hl hr => by
    obtain ⟨n, rfl⟩ : ∃ m, n = m + 2 := ⟨n - 2, by omega⟩
    have hlen : t.things.length ≤ 2000 := by
      rw [things_len]
      have := szs_len t.parts
      have := parts_sz t
      have := hd_len t
      omega
    have R : Reads F 9 4 3 0 n := {
      there := fun t S r hl hr => areThere_F i9 n (by omega) t S r hl hr
      mark := fun m S => isMark_F i4 n (by omega) m S
      cald := fun x S hx => by
        rw [isCalled_F i3 i2 i0 i1 n (by omega) x S (by have := (cl_facts hx).2.2; show _ ≤ 16777216; omega), cl_called hx]
      name := fun x S hx => by
        rw [isName_F i0 n (by omega) x S (by have := (name_asc hx).2.2.1; show _ ≤ 16777216; omega), hx] }
    rw [i11 (n + 1) _ rfl]
    refine closed_b t ho hz hl S r hr ?_ fun ws hw => ?_
    · rw [i10 n _ rfl]
      exact listed_b R t ho hl S r hlen hr
    · rw [i6 n _ rfl]
      exact brackets_b ws S hw
theorem read_F (n : Nat) (hn : 9 ≤ n) (t : T) (ho : t.Ok) (hz : t.sz ≤ 1000) (hp : t.dp ≤ 1000) (S : Sto) {Q : D → Sto → Prop} (h : ∀ G, Q t.d (S ++ G)) : W (F n 12 [.str (SX.S t.tx)]) S Q := by
  obtain ⟨n, rfl⟩ : ∃ m, n = m + 1 := ⟨n - 1, by omega⟩
  rw [i12 n _ rfl]
  exact read_b (readOk n (by omega)) t ho hz hp S h
theorem tx_same {t u : T} (ht : t.Ok) (hu : u.Ok) (hz : t.sz ≤ 1000) (hp : t.dp ≤ 60) (hz' : u.sz ≤ 1000) (hp' : u.dp ≤ 60) (h : t.tx = u.tx) : t.d = u.d := by
  have a := read_F 9 (Nat.le_refl _) t ht hz (by omega) [] (Q := fun d _ => d = t.d) fun _ => rfl
  have b := read_F 9 (Nat.le_refl _) u hu hz' (by omega) [] (Q := fun d _ => d = u.d) fun _ => rfl
  rw [h] at a
  obtain ⟨d, S', e, e1⟩ := W_iff.mp a
  obtain ⟨d', S'', e', e2⟩ := W_iff.mp b
  rw [e] at e'
  injection e' with e' _
  rw [← e1, ← e2, e']
theorem alike {t u : T} (ht : t.Ok) (hu : u.Ok) (hz : t.sz ≤ 1000) (hp : t.dp ≤ 60) (hz' : u.sz ≤ 1000) (hp' : u.dp ≤ 60) : decide (SX.S t.tx = SX.S u.tx) = decide (SX.S (t.rpc []) = SX.S (u.rpc [])) := by
  apply decide_eq_decide.mpr
  constructor
  · intro h
    have e := tx_same ht hu hz hp hz' hp' (SX.S_inj h)
    have r1 := repr_ok t ht hz hp []
    have r2 := repr_ok u hu hz' hp' []
    rw [e, r2] at r1
    injection r1 with r1 _
    injection r1 with r1
    exact r1.symm
  · intro h
    obtain ⟨rfl, _⟩ := rpc_inj t.dp t (Nat.le_refl _) ht u [] [] hu (SX.S_inj h)
    rfl
theorem right_F (n : Nat) (hn : 80 ≤ n) (t : T) (ho : t.Ok) (hz : t.sz ≤ 1000) (hp : t.dp ≤ 60) (S : Sto) {Q : D → Sto → Prop} (h : ∀ G, Q (.bl true) (S ++ G)) : W (F n 24 [t.d]) S Q := by
  obtain ⟨n, rfl⟩ : ∃ m, n = m + 1 := ⟨n - 1, by omega⟩
  rw [i24 n _ rfl, W_body]
  unfold b24
  have hr := fun S => repr_ok t ho hz hp S
  have hl := fun S => lawText_F i21 t.dp t n S (Nat.le_refl _) (by omega) ho hz
  have hs := fun S => show_F i7 i6 i5 t.dp t n S (Nat.le_refl _) (by omega) ho hz
  obtain ⟨y, hy⟩ := repr_tx t ho hz
  have nx : ∀ (x : Str) S, neD (.str x) (.str x) S = .ok (.bl false) S := fun x S => by rw [ne_str]; simp
  have ex : ∀ (x : Str) S, eqD (.str x) (.str x) S = .ok (.bl true) S := fun x S => by rw [eq_str]; simp
  have rng : ∀ S, rngSrc [D.int 2] S = .ok (.fix (rangeL 0 2)) S := fun S => rfl
  generalize SX.S (t.rpc []) = rr at hr
  simp [startD, W_of (hr _), W_of (hl _), par_two, setsL, W_of (rng _)]
  with_reducible refine W_forF (I := fun i ρ S' => (∃ G, S' = S ++ G) ∧ ∃ z, ρ = [some t.d, some (.str rr), some (.str (SX.S t.tx)), z]) ?_ ?_ ?_
  · exact ⟨⟨[], by simp⟩, _, rfl⟩
  · intro i e ρ S' he hI
    obtain ⟨⟨G, eS⟩, z, eρ⟩ := hI
    subst eS eρ
    simp [W_of (hs _), W_of (hy _), W_of (nx _ _), W_of (hr _)]
    refine read_F n (by omega) t ho hz (by omega) _ fun G' => ?_
    simp [W_of (hr _), W_of (nx _ _)]
  · intro ρ' S' hI
    obtain ⟨⟨G, eS⟩, z, eρ⟩ := hI
    subst eS eρ
    simp [W_of (hs _)]
    refine read_F n (by omega) t ho hz (by omega) _ fun G' => ?_
    simp [W_of (hr _), W_of (ex _ _)]
    exact h _
end K04

/-! K04f: the law. -/
namespace K04
open MP PySem L2 PL
/-- a term that the law may have -/
structure Tg2 (t : T) : Prop where
  ok : t.Ok
  sz : t.sz ≤ 1000
  dp : t.dp ≤ 60
def Ent (p : Key × D) : Prop := ∃ t : T, Tg2 t ∧ p = (.inr (SX.S t.tx), .str (SX.S (t.rpc [])))
def Ents (kvs : List (Key × D)) : Prop := ∀ p ∈ kvs, Ent p
theorem ents_put {kvs : List (Key × D)} (h : Ents kvs) {t : T} (ht : Tg2 t) : Ents (putD kvs (.inr (SX.S t.tx)) (.str (SX.S (t.rpc [])))) ∧ (putD kvs (.inr (SX.S t.tx)) (.str (SX.S (t.rpc [])))).length ≤ kvs.length + 1 := by
  unfold putD
  split
  · refine ⟨fun p hp => ?_, by simp⟩
    obtain ⟨q, hq, rfl⟩ := List.mem_map.mp hp
    split
    · rename_i e
      exact ⟨t, ht, by rw [e]⟩
    · exact h q hq
  · refine ⟨fun p hp => ?_, by simp⟩
    rcases List.mem_append.mp hp with hp | hp
    · exact h p hp
    · rw [List.mem_singleton.mp hp]
      exact ⟨t, ht, rfl⟩
theorem set_dic {S : Sto} {n : Nat} {kvs : List (Key × D)} {x : Str} {v : D} (h : S[n]? = some (.dic kvs)) (hl : kvs.length < SL) : setD (.ref n) (.str x) v S = .ok () (S.set n (.dic (putD kvs (.inr x) v))) := by
  unfold setD
  simp only [h, keyD, if_pos hl]
theorem dk_dic {S : Sto} {kvs : List (Key × D)} {G : List O} (hd : Dk S (.dic kvs :: G)) : S[2]? = some (.dic kvs) := hd.at 0
def bIn : Sxs := (.cons (.set 6 (.call 20 (.cons (.var 1) (.cons (.var 4) (.cons (.lst true (.cons (.call 14 (.cons (.var 1) (.cons (.int 78) .nil))) .nil)) .nil)))))
    (.cons (.set 7 (.call 23 (.cons (.var 1) (.cons (.var 6) .nil))))
    (.cons (.ite (.or (.cons (.not (.val (.call 24 (.cons (.var 6) .nil)))) (.cons (.not (.val (.call 24 (.cons (.var 7) .nil)))) .nil))) (.cons (.ret (.bl false))
    .nil) .nil)
    (.cons (.forr (.nm 8) (.seq (.tup (.cons (.var 6) (.cons (.var 7) .nil)))) (.cons (.put (.var 3) (.call 7 (.cons (.var 8) .nil)) (.fn .repr false (.cons (.var 8) .nil)))
    .nil))
    (.cons (.ite (.cmp .ne (.cmp .eq (.call 7 (.cons (.var 6) .nil)) (.call 7 (.cons (.var 7) .nil))) (.cmp .eq (.fn .repr false (.cons (.var 6) .nil)) (.fn .repr false (.cons (.var 7) .nil)))) (.cons (.ret (.bl false))
    .nil) .nil)
    .nil)))))
def bEnd : Sxs :=
    (.cons (.forr (.nm 5) (.seq (.var 3)) (.cons (.ite (.cmp .ne (.fn .repr false (.cons (.call 12 (.cons (.var 5) .nil)) .nil)) (.ix (.var 3) (.var 5))) (.cons (.ret (.bl false))
    .nil) .nil)
    .nil))
    (.cons (.ret (.and (.call 24 (.cons (.tup (.cons (.str "at") (.cons (.bin .pow false (.int 10) (.int 29)) .nil))) .nil)) (.one (.call 24 (.cons (.tup (.cons (.str "family") (.cons (.str "to") (.cons (.tup (.cons (.tup (.cons (.str "call") (.cons (.str "run.1.gone") (.cons (.tup .nil) .nil)))) .nil)) .nil)))) .nil)))))
    .nil))
theorem b25_eq : b25 = .cons (.set 1 (.call 13 (.cons (.var 0) .nil))) (.cons (.set 2 (.lc false (.nm 9) (.rng (.cons (.int 8) .nil)) .nil (.ix (.lst false (.cons (.int 0) (.cons (.int 3) (.cons (.int 11) .nil)))) (.call 14 (.cons (.var 1) (.cons (.int 3) .nil)))) [9]))
    (.cons (.set 3 (.dic0 true)) (.cons (.forr (.nm 4) (.seq (.var 2)) bIn) bEnd))) := rfl
section
variable {x0 x2 x5 x6 x7 x8 x9 : Option D}
theorem put_F (n : Nat) (hn : 80 ≤ n) (t : T) (ht : Tg2 t) {S : Sto} {kvs : List (Key × D)} {G : List O} (hd : Dk S (.dic kvs :: G)) (he : Ents kvs) (hl : kvs.length ≤ 1000) {a b c d e f g h i : Option D} {Q : Fl → Sto → Prop}
    (hq : ∀ S' kvs', Dk S' (.dic kvs' :: G) → Ents kvs' → kvs'.length ≤ kvs.length + 1 → Q (.next [a, b, c, some (.ref 2), d, e, f, g, some t.d, i]) S') :
    W (evSs (F n) (.cons (.put (.var 3) (.call 7 (.cons (.var 8) .nil)) (.fn .repr false (.cons (.var 8) .nil))) .nil) [a, b, c, some (.ref 2), d, e, f, g, some t.d, i]) S Q := by
  have hs := show_F i7 i6 i5 t.dp t n S (Nat.le_refl _) (by have := ht.dp; omega) ht.ok ht.sz
  have hr := repr_ok t ht.ok ht.sz ht.dp S
  have st := set_dic (x := SX.S t.tx) (v := .str (SX.S (t.rpc []))) (dk_dic hd) (by show _ < 16777216; omega)
  obtain ⟨e1, e2⟩ := ents_put he ht
  simp [W_of hr, W_of hs, W_of st]
  refine hq _ _ ?_ e1 e2
  exact hd.set 0 _
theorem in_F (n : Nat) (hn : 100 ≤ n) {deep : Nat} (hdeep : deep ≤ 11) {S : Sto} {kvs : List (Key × D)} {G : List O} (hd : Dk S (.dic kvs :: G)) (he : Ents kvs) (hl : kvs.length ≤ 900) {Q : Fl → Sto → Prop}
    (hq : ∀ S' kvs' G' y6 y7 y8, Dk S' (.dic kvs' :: G') → Ents kvs' → kvs'.length ≤ kvs.length + 2 → Q (.next [x0, some (.ref 1), x2, some (.ref 2), some (.int deep), x5, y6, y7, y8, x9]) S') :
    W (evSs (F n) bIn [x0, some (.ref 1), x2, some (.ref 2), some (.int deep), x5, x6, x7, x8, x9]) S Q := by
  unfold bIn
  simp
  refine drawW n (by omega) hd (by decide) (by decide) fun v S1 a1 b1 d1 => ?_
  have d2 := d1.app [.lst [.int v]]
  have e2 : List.length S1 = (O.dic kvs :: G).length + 2 := d1.len
  rw [e2]
  refine term_F i20 drawW leafW calledW nameW deep (T0 := .dic kvs :: G) (v := v) d2 a1 (by omega) (by omega) fun t S3 v' w0 w1 to tp tz tx d3 => ?_
  have tg : Tg2 t := ⟨to, by omega, by omega⟩
  refine oth_F t.dp t n (Nat.le_refl _) (by omega) to tx (by omega) (by omega) S3 _ _ d3 fun u S4 hu d4 => ?_
  have ug : Tg2 u := ⟨hu.ok, by have := hu.sz; omega, by have := hu.dp; omega⟩
  refine right_F n (by omega) t tg.ok tg.sz tg.dp S4 fun G4 => ?_
  simp
  refine right_F n (by omega) u ug.ok ug.sz ug.dp _ fun G5 => ?_
  have d5 : Dk (S4 ++ G4 ++ G5) (.dic kvs :: (G ++ [.lst [.int v']] ++ G4 ++ G5)) := by
    have := (d4.app G4).app G5
    simpa using this
  generalize (S4 ++ G4 ++ G5 : Sto) = S5 at d5
  generalize (G ++ [.lst [.int v']] ++ G4 ++ G5 : List O) = G5' at d5
  simp
  with_reducible refine W_forF (I := fun i ρ S' => ∃ kvs', Dk S' (.dic kvs' :: G5') ∧ Ents kvs' ∧ kvs'.length ≤ kvs.length + i ∧ ∃ z, ρ = [x0, some (.ref 1), x2, some (.ref 2), some (.int deep), x5, some t.d, some u.d, z, x9]) ?_ ?_ ?_
  · exact ⟨kvs, d5, he, Nat.le_refl _, _, rfl⟩
  · intro i d ρ S' hi hI
    obtain ⟨kvs', d6, he', hl', z, e⟩ := hI
    subst e
    have hi2 : i < 2 := by
      have := (List.getElem?_eq_some_iff.mp hi).1
      simpa using this
    obtain ⟨q, hq1, hq2⟩ : ∃ q : T, d = q.d ∧ Tg2 q := by
      match i, hi with
      | 0, hi => exact ⟨t, by simpa using hi.symm, tg⟩
      | 1, hi => exact ⟨u, by simpa using hi.symm, ug⟩
    subst hq1
    rw [W_nm]
    refine put_F n (by omega) q hq2 (h := none) d6 he' (by omega) fun S7 kvs7 d7 he7 hl7 => ?_
    exact ⟨kvs7, d7, he7, by omega, _, rfl⟩
  · intro ρ' S' hI
    obtain ⟨kvs', d6, he', hl', z, e⟩ := hI
    subst e
    have hs := show_F i7 i6 i5 t.dp t n S' (Nat.le_refl _) (by omega) tg.ok tg.sz
    have hs' := show_F i7 i6 i5 u.dp u n S' (Nat.le_refl _) (by have := ug.dp; omega) ug.ok ug.sz
    have hr := repr_ok t tg.ok tg.sz tg.dp S'
    have hr' := repr_ok u ug.ok ug.sz ug.dp S'
    have al := alike tg.ok ug.ok tg.sz tg.dp ug.sz ug.dp
    have q1 : eqD (.str (SX.S t.tx)) (.str (SX.S u.tx)) S' = .ok (.bl (decide (SX.S (t.rpc []) = SX.S (u.rpc [])))) S' := by rw [eq_str, al]
    have q2 : eqD (.str (SX.S (t.rpc []))) (.str (SX.S (u.rpc []))) S' = .ok (.bl (decide (SX.S (t.rpc []) = SX.S (u.rpc [])))) S' := eq_str _ _ _
    have nb : ∀ b : Bool, neD (.bl b) (.bl b) S' = .ok (.bl false) S' := fun b => by cases b <;> rfl
    generalize decide (SX.S (t.rpc []) = SX.S (u.rpc [])) = bb at q1 q2
    simp [W_of hs, W_of hs', W_of hr, W_of hr', W_of q1, W_of q2, W_of (nb _), -eq_str]
    exact hq S' kvs' G5' _ _ _ d6 he' (by simpa using hl')
end
theorem famto_ok : Tg2 (.no .family "to" [.no .call "run.1.gone" []]) := by
  refine ⟨⟨.inl (by decide +kernel), ⟨.inr ?_, trivial⟩, trivial⟩, by decide, by decide⟩
  have := (far_make (a := "run") (b := "1") (c := "gone") (by decide +kernel) (by decide +kernel) (by decide +kernel) (by decide +kernel)).1
  have e : ("run" : Str) ++ "." ++ "1" ++ "." ++ "gone" = "run.1.gone" := by decide +kernel
  rw [← e]
  exact this
theorem end_F {x0 x2 x4 x5 x6 x7 x8 x9 : Option D} (n : Nat) (hn : 100 ≤ n) {S : Sto} {kvs : List (Key × D)} {G : List O} (hd : Dk S (.dic kvs :: G)) (he : Ents kvs) {Q : D → Sto → Prop} (hq : ∀ S', Q (.bl true) S') :
    W (evSs (F n) bEnd [x0, some (.ref 1), x2, some (.ref 2), x4, x5, x6, x7, x8, x9]) S (bodyQ Q) := by
  unfold bEnd
  have src : seqSrc (.ref 2) S = .ok (.fix (kvs.map fun p => keyC p.1)) (S.set 2 (.fdic kvs)) := by
    unfold seqSrc
    simp only [dk_dic hd]
  simp [W_of src]
  have d1 : Dk (S.set 2 (.fdic kvs)) (.fdic kvs :: G) := hd.set 0 _
  generalize (S.set 2 (.fdic kvs) : Sto) = S1 at d1
  with_reducible refine W_forF (I := fun i ρ S' => ∃ G', Dk S' (.fdic kvs :: G') ∧ ∃ z, ρ = [x0, some (.ref 1), x2, some (.ref 2), x4, z, x6, x7, x8, x9]) ?_ ?_ ?_
  · exact ⟨G, d1, _, rfl⟩
  · intro i d ρ S' hi hI
    obtain ⟨G', d2, z, e⟩ := hI
    subst e
    rw [List.getElem?_map] at hi
    obtain ⟨p, hp, rfl⟩ := Option.map_eq_some_iff.mp hi
    have hm := List.mem_of_getElem? hp
    have hfind : (kvs.find? fun q => decide (q.1 = p.1)).isSome = true := by
      rw [List.find?_isSome]
      exact ⟨p, hm, by simp⟩
    obtain ⟨q, hq'⟩ := Option.isSome_iff_exists.mp hfind
    obtain ⟨t, tg, e⟩ := he q (List.mem_of_find?_eq_some hq')
    have hk : q.1 = p.1 := by simpa using List.find?_some hq'
    have hk' : p.1 = .inr (SX.S t.tx) := by rw [← hk, e]
    have lk : lookK kvs (.inr (SX.S t.tx)) = some (.str (SX.S (t.rpc []))) := by
      unfold lookK
      rw [← hk', hq', e]
      rfl
    have ix : ∀ S'' G'', Dk S'' (.fdic kvs :: G'') → ixD (.ref 2) (.str (SX.S t.tx)) S'' = .ok (.str (SX.S (t.rpc []))) S'' := fun S'' G'' d'' => by
      have : S''[2]? = some (.fdic kvs) := d''.at 0
      show dicIx S'' (.ref 2) (.inr (SX.S t.tx)) = _
      unfold dicIx
      have e : dicE S'' (.ref 2) = some kvs := by
        unfold dicE
        simp only [this]
      rw [e, Option.bind_some, lk]
    rw [W_nm, hk']
    show W (evSs (F n) _ [x0, some (.ref 1), x2, some (.ref 2), x4, some (.str (SX.S t.tx)), x6, x7, x8, x9]) S' _
    simp
    refine read_F n (by omega) t tg.ok tg.sz (by have := tg.dp; omega) S' fun G3 => ?_
    have hr := repr_ok t tg.ok tg.sz tg.dp (S' ++ G3)
    have d3 := d2.app G3
    have nx : neD (.str (SX.S (t.rpc []))) (.str (SX.S (t.rpc []))) (S' ++ G3) = .ok (.bl false) (S' ++ G3) := by rw [ne_str]; simp
    simp [W_of hr, W_of (ix _ _ d3), W_of nx]
    exact ⟨_, d3⟩
  · intro ρ' S' hI
    obtain ⟨G', d2, z, e⟩ := hI
    subst e
    have p29 : ∀ S, powD (.int 10) (.int 29) S = .ok (.int ((10 ^ 29 : Nat) : Int)) S := fun S => rfl
    simp [W_of (p29 _)]
    have t1 : Tg2 (.at (10 ^ 29)) := ⟨show (10 ^ 29 : Nat) < 10 ^ 40 by decide, by decide, by decide⟩
    refine right_F n (by omega) (.at (10 ^ 29)) t1.ok t1.sz t1.dp S' fun G4 => ?_
    simp
    refine right_F n (by omega) _ famto_ok.ok famto_ok.sz famto_ok.dp _ fun G5 => ?_
    exact hq _
theorem law_run (ns : List Int) (h : ns.length ≤ 63) : ∃ S', runF P 122 25 [.frz (ns.map D.int)] [] = .ok (.bl true) S' := by
  suffices hW : W (runF P 122 25 [.frz (ns.map D.int)]) [] (fun d _ => d = .bl true) by
    rw [W_iff] at hW
    obtain ⟨a, S', e, rfl⟩ := hW
    exact ⟨S', e⟩
  show W (F (121 + 1) 25 [.frz (ns.map D.int)]) [] _
  rw [i25 121 _ rfl, W_body, b25_eq]
  simp [startD]
  have i13 : IsFn F 13 3 1 deckB := isFn_of (f := f13) rfl rfl rfl rfl
  show W (F (120 + 1) 13 [.frz (ns.map D.int)]) [] _
  rw [i13 120 _ rfl]
  refine deck_b h fun S1 d1 => ?_
  rw [W_rng (by omega)]
  refine W_lcS (I := fun i acc S' => Dk S' [] ∧ ∀ x ∈ acc, ∃ k : Nat, k ≤ 11 ∧ x = .int k) ?_ ⟨d1, by simp⟩ ?_ ?_
  · rw [range_len]; show 8 ≤ 16777216; decide
  · rintro i d acc S' hi ⟨d2, ha⟩ _
    simp [wipeE]
    refine drawW 121 (by omega) d2 (by decide) (by decide) fun i1 S3 a1 b1 d3 => ?_
    refine W_ixL_all a1 b1 ?_
    intro x hx
    refine ⟨d3, fun y hy => ?_⟩
    rcases hy with hy | rfl
    · exact ha y hy
    · simp at hx
      rcases hx with rfl | rfl | rfl
      · exact ⟨0, by decide, rfl⟩
      · exact ⟨3, by decide, rfl⟩
      · exact ⟨11, by decide, rfl⟩
  · rintro ys S2 ⟨d2, ha⟩ hlen
    rw [range_len] at hlen
    rw [W_newF]
    simp
    rw [show W (newD true []) S2 = fun Q => Q (.ref S2.length) (S2 ++ [.dic []]) from rfl]
    have e2 : List.length S2 = 2 := d2.len
    rw [e2]
    have d3 : Dk (S2 ++ [.dic []]) [.dic []] := d2.app [.dic []]
    with_reducible refine W_forF (I := fun j ρ S' => ∃ kvs G, Dk S' (.dic kvs :: G) ∧ Ents kvs ∧ kvs.length ≤ 2 * j ∧ ∃ y4 y6 y7 y8, ρ = [some (.frz (ns.map D.int)), some (.ref 1), some (.lst ys), some (.ref 2), y4, none, y6, y7, y8, none]) ?_ ?_ ?_
    · exact ⟨[], [], d3, (fun p hp => absurd hp (by simp)), by simp, _, _, _, _, rfl⟩
    · intro j d ρ S' hj hI
      obtain ⟨kvs, G, d4, he, hl, y4, y6, y7, y8, e⟩ := hI
      subst e
      obtain ⟨k, hk, rfl⟩ := ha d (List.mem_of_getElem? hj)
      have hj2 := (List.getElem?_eq_some_iff.mp hj).1
      rw [W_nm]
      refine in_F 121 (by omega) hk d4 he (by omega) fun S5 kvs5 G5 z6 z7 z8 d5 he5 hl5 => ?_
      exact ⟨kvs5, G5, d5, he5, by omega, _, _, _, _, rfl⟩
    · intro ρ' S' hI
      obtain ⟨kvs, G, d4, he, hl, y4, y6, y7, y8, e⟩ := hI
      subst e
      rw [W_thenN]
      exact end_F 121 (by omega) d4 he fun _ => rfl
end K04

namespace K04
open MP PySem L2 PyProof.Rows
def loose : List PySem.Str := (["TongueError", "NoText", "LETTERS", "FIGURES", "MOST_NAME", "MOST_FIGURES", "RUN", "GONE", "MARKS", "AT", "WORLD", "TO", "FUN", "GIVE", "FAMILY", "CALL", "SHAPE", "HOLE", "is_name", "are_figures", "is_far", "is_called", "is_mark", "parts_of", "AHEAD", "in_brackets", "show_term", "plain_term", "are_there", "listed_term"] : List PySem.Str) ++ (["closed_list", "read_term", "_law_deck", "_law_draw", "_law_pick", "_law_name", "_law_far", "_law_called", "_law_leaf", "_law_term", "_law_text", "_law_here_otherwise", "_law_otherwise", "_law_right"] : List PySem.Str)
abbrev R : PySem.W.OpenRow := PySem.W.OpenLaw.row PySem.Challenge.rw_kindsbyworth_k04_terms_there_and_back
theorem run (w : World) : HandSHeadRun.RunEq R (PySem.W.view R.prog [48]) (hookM 2 top) (obM 2 top) 5000 loose w :=
  PySem.W.byRow2 "special-get-raises" (P := HandSHeadRun.RunEq R (PySem.W.view R.prog [48]) (hookM 2 top) (obM 2 top) 5000 loose) (fun w os => by kernel_rfl) (fun w os => by kernel_rfl) w
end K04

open PySem PySem.W PySem.Calls PyProof.Rows
theorem PySem.Challenge.cw_kindsbyworth_k04_terms_there_and_back_holds : PySem.Challenge.rw_kindsbyworth_k04_terms_there_and_back.Holds := by
  w_on; o_law
  refine HandSHeadRun.head_any (r := K04.R) (q := view K04.R.prog [48]) (H := MP.hookM 2 K04.top) (ob := MP.obM 2 K04.top) (M := 5000) (loose := K04.loose) (d := HandSHeadRun.topDef K04.R.prog 48) (kwd := []) (MP.obM_eq 2 K04.top)
    (by kernel_rfl) (fun s => by kernel_rfl) K04.run (by kernel_rfl) (by kernel_rfl) (by kernel_rfl) (by rfl) (by first | assumption | decide +kernel) (by decide +kernel) ⟨rfl, rfl, rfl, rfl, rfl, by decide +kernel⟩ ?hw ?hc
  case hw => w_witness2
  case hc =>
    exact MP.law_end (l := PySem.Challenge.rw_kindsbyworth_k04_terms_there_and_back) (t := K04.top) (N0 := 120) (kd := 13) (kl := 25) (x := "_law_script") K04.binds rfl rfl rfl rfl rfl rfl (by kernel_rfl) rfl (by decide) (by kernel_rfl) ⟨rfl, by decide, by decide⟩ K04.law_run

