import PyProof.Rows.All
import Wide.All
import OpenK.AllK
import Wide.FinOn
import HandS.ForMost
import HandS.IsInst
import HandS.TupAny
import HandS.TupMul
import HandS.Style
import HandS.Conv
import PyProof.Rows.IntBool
import PyProof.TwoTypesSub
import KE.KUnpackStar
import KE.KRevSl
import HandS.ReplaceLit
import HandS.Dict
import HandS.Ends
import HandS.Head0
import HandS.Head1
import HandS.Head2
import HandS.HeadHook1
import HandS.HeadHook2
import HandS.Codes
import PyProof.StrLawsRepr
import PyProof.FitsInt
import PyProof.Rows.StrCase
import PyProof.Rows.ReprOcc
import PySem.Challenge.RW_kindsbyworth_k01_terms_of_anything
set_option Elab.async false
set_option linter.all false
set_option maxRecDepth 100000
set_option maxHeartbeats 0
/-! MP1: values of a small functional Python (D), its store, how they lie in the layer's heap; the readings by functions. -/
namespace MP
open PySem L2

/-! ### values, store, results -/
inductive D where
  | non
  | bl (b : Bool)
  | int (i : Int)
  | str (x : Str)
  | tup (xs : List D)
  | lst (xs : List D)
  | frz (xs : List D)
  | dic (kvs : List (Key × D))
  | ref (n : Nat)
  deriving Inhabited

inductive O where
  | lst (xs : List D)
  deriving Inhabited

abbrev Sto := List O
abbrev Env := List (Option D)

inductive R (α : Type) where
  | ok (a : α) (S : Sto)
  | bad

abbrev M (α : Type) := Sto → R α
def M.pure {α : Type} (a : α) : M α := fun S => .ok a S
def M.bind {α β : Type} (m : M α) (f : α → M β) : M β := fun S => match m S with
  | .ok a S' => f a S'
  | .bad => .bad
instance : Monad M where
  pure := M.pure
  bind := M.bind
def M.fail {α : Type} : M α := fun _ => .bad
def M.of {α : Type} : Option α → M α
  | some a => M.pure a
  | none => M.fail
def M.get : M Sto := fun S => .ok S S
def M.put (S : Sto) : M Unit := fun _ => .ok () S

@[simp] theorem bind_run {α β : Type} (m : M α) (f : α → M β) (S : Sto) : (m >>= f) S = match m S with | .ok a S' => f a S' | .bad => .bad := rfl
@[simp] theorem pure_run {α : Type} (a : α) (S : Sto) : (pure a : M α) S = .ok a S := rfl
@[simp] theorem mpure_run {α : Type} (a : α) (S : Sto) : (M.pure a : M α) S = .ok a S := rfl
@[simp] theorem fail_run {α : Type} (S : Sto) : (M.fail : M α) S = .bad := rfl
@[simp] theorem of_some {α : Type} (a : α) (S : Sto) : (M.of (some a)) S = .ok a S := rfl
@[simp] theorem of_none {α : Type} (S : Sto) : (M.of (none : Option α)) S = .bad := rfl
@[simp] theorem get_run (S : Sto) : M.get S = .ok S S := rfl
@[simp] theorem put_run (S T : Sto) : M.put T S = .ok () T := rfl

/-! ### how a value lies in the heap. η: where the store's objects stand -/
def KTup (K : PySem.W.Frag) (a : Addr) (vs : List V) : Prop :=
  ∃ (o : Obj) (its : Array Value) (n : Nat), K.lookup a = some o ∧ o.cls = .type "tuple" ∧ o.data = .seq its n ∧ its.size ≤ sizeLine ∧ Vals vs its.toList
def KLst (K : PySem.W.Frag) (a : Addr) (vs : List V) : Prop :=
  ∃ (o : Obj) (its : Array Value) (n : Nat), K.lookup a = some o ∧ o.cls = .type "list" ∧ o.dict = none ∧ o.data = .seq its n ∧ its.size ≤ sizeLine ∧ Vals vs its.toList
def TupAt (K : PySem.W.Frag) (η : List Addr) (H : Hp) (a : Addr) (vs : List V) : Prop := (H a = some (.tup vs) ∧ a ∉ η) ∨ KTup K a vs
def LstAt (η : List Addr) (H : Hp) (a : Addr) (vs : List V) : Prop := H a = some (.lst vs) ∧ a ∉ η
/-- a list that is read alone (the script) -/
def FrzAt (K : PySem.W.Frag) (η : List Addr) (H : Hp) (a : Addr) (vs : List V) : Prop := (Rd H a (.lst vs) ∧ a ∉ η) ∨ KLst K a vs
def DicAt (η : List Addr) (H : Hp) (a : Addr) (kvs : List (Key × V)) : Prop := H a = some (.dK kvs) ∧ a ∉ η
theorem TupAt.sq {K : PySem.W.Frag} {η : List Addr} {H : Hp} {a : Addr} {vs : List V} (h : TupAt K η H a vs) : SqT K H a vs := by
  rcases h with h | h
  · exact .inl (.inl h.1)
  · exact .inr h
theorem LstAt.sq {K : PySem.W.Frag} {η : List Addr} {H : Hp} {a : Addr} {vs : List V} (h : LstAt η H a vs) : SqL K H a vs := .inl (.inl h.1)
theorem FrzAt.sq {K : PySem.W.Frag} {η : List Addr} {H : Hp} {a : Addr} {vs : List V} (h : FrzAt K η H a vs) : SqL K H a vs := by
  rcases h with h | h
  · exact .inl h.1
  · exact .inr h

mutual
inductive Rep (K : PySem.W.Frag) (η : List Addr) (H : Hp) : D → V → Prop
  | non : Rep K η H .non .non
  | bl (b : Bool) : Rep K η H (.bl b) (.bl b)
  | int (i : Int) : Rep K η H (.int i) (.int i)
  | str (x : Str) : Rep K η H (.str x) (.str x)
  | tup {a : Addr} {vs : List V} {ds : List D} : TupAt K η H a vs → Reps K η H ds vs → Rep K η H (.tup ds) (.ref a)
  | lst {a : Addr} {vs : List V} {ds : List D} : LstAt η H a vs → Reps K η H ds vs → Rep K η H (.lst ds) (.ref a)
  | frz {a : Addr} {vs : List V} {ds : List D} : FrzAt K η H a vs → Reps K η H ds vs → Rep K η H (.frz ds) (.ref a)
  | dic {a : Addr} {kvs : List (Key × V)} {kds : List (Key × D)} : DicAt η H a kvs → Repk K η H kds kvs → Rep K η H (.dic kds) (.ref a)
  | ref {n : Nat} {a : Addr} : η[n]? = some a → Rep K η H (.ref n) (.ref a)
inductive Reps (K : PySem.W.Frag) (η : List Addr) (H : Hp) : List D → List V → Prop
  | nil : Reps K η H [] []
  | cons {d : D} {v : V} {ds : List D} {vs : List V} : Rep K η H d v → Reps K η H ds vs → Reps K η H (d :: ds) (v :: vs)
inductive Repk (K : PySem.W.Frag) (η : List Addr) (H : Hp) : List (Key × D) → List (Key × V) → Prop
  | nil : Repk K η H [] []
  | cons {k : Key} {d : D} {v : V} {ds : List (Key × D)} {vs : List (Key × V)} : Rep K η H d v → Repk K η H ds vs → Repk K η H ((k, d) :: ds) ((k, v) :: vs)
end

structure Grow (η : List Addr) (H : Hp) (η' : List Addr) (H' : Hp) : Prop where
  pre : ∃ μ, η' = η ++ μ ∧ ∀ a ∈ μ, a ∉ η ∧ H a = none
  keep : ∀ a o, a ∉ η → H a = some o → H' a = some o

theorem Grow.refl (η : List Addr) (H : Hp) : Grow η H η H := ⟨⟨[], by simp, fun _ h => nomatch h⟩, fun _ _ _ h => h⟩
theorem Grow.notin {η η' : List Addr} {H H' : Hp} (g : Grow η H η' H') {a : Addr} {o : HO} (h : H a = some o) (n : a ∉ η) : a ∉ η' := by
  obtain ⟨μ, e, hμ⟩ := g.pre
  subst e
  intro hm
  rcases List.mem_append.mp hm with hm | hm
  · exact n hm
  · have := (hμ a hm).2
    rw [h] at this
    cases this
theorem Grow.trans {η η1 η2 : List Addr} {H H1 H2 : Hp} (g : Grow η H η1 H1) (g' : Grow η1 H1 η2 H2) : Grow η H η2 H2 := by
  obtain ⟨μ, e, hμ⟩ := g.pre
  obtain ⟨ν, e', hν⟩ := g'.pre
  refine ⟨⟨μ ++ ν, by rw [e', e, List.append_assoc], fun a ha => ?_⟩, fun a o n h => g'.keep a o (g.notin h n) (g.keep a o n h)⟩
  rcases List.mem_append.mp ha with ha | ha
  · exact hμ a ha
  · obtain ⟨n1, z⟩ := hν a ha
    have n0 : a ∉ η := fun q => n1 (by rw [e]; exact List.mem_append_left _ q)
    refine ⟨n0, ?_⟩
    cases q : H a with
    | none => rfl
    | some o =>
      have := g.keep a o n0 q
      rw [z] at this
      cases this
theorem Grow.rd {η η' : List Addr} {H H' : Hp} (g : Grow η H η' H') {a : Addr} {u : HO} (r : Rd H a u) (n : a ∉ η) : Rd H' a u ∧ a ∉ η' := by
  rcases r with r | ⟨o, r⟩
  · exact ⟨.inl (g.keep _ _ n r), g.notin r n⟩
  · exact ⟨.inr ⟨o, g.keep _ _ n r⟩, g.notin r n⟩

mutual
theorem Rep.grow {K : PySem.W.Frag} {η η' : List Addr} {H H' : Hp} (g : Grow η H η' H') : ∀ {d : D} {v : V}, Rep K η H d v → Rep K η' H' d v
  | _, _, .non => .non
  | _, _, .bl b => .bl b
  | _, _, .int i => .int i
  | _, _, .str x => .str x
  | _, _, .tup h hs => by
    refine .tup ?_ (Reps.grow g hs)
    rcases h with h | h
    · exact .inl ⟨g.keep _ _ h.2 h.1, g.notin h.1 h.2⟩
    · exact .inr h
  | _, _, .lst h hs => .lst ⟨g.keep _ _ h.2 h.1, g.notin h.1 h.2⟩ (Reps.grow g hs)
  | _, _, .frz h hs => by
    refine .frz ?_ (Reps.grow g hs)
    rcases h with h | h
    · exact .inl (g.rd h.1 h.2)
    · exact .inr h
  | _, _, .dic h hs => .dic ⟨g.keep _ _ h.2 h.1, g.notin h.1 h.2⟩ (Repk.grow g hs)
  | _, _, .ref h => by
    obtain ⟨μ, e, _⟩ := g.pre
    refine .ref ?_
    rw [e, List.getElem?_append_left (List.getElem?_eq_some_iff.mp h).1]
    exact h
theorem Reps.grow {K : PySem.W.Frag} {η η' : List Addr} {H H' : Hp} (g : Grow η H η' H') : ∀ {ds : List D} {vs : List V}, Reps K η H ds vs → Reps K η' H' ds vs
  | _, _, .nil => .nil
  | _, _, .cons h hs => .cons (Rep.grow g h) (Reps.grow g hs)
theorem Repk.grow {K : PySem.W.Frag} {η η' : List Addr} {H H' : Hp} (g : Grow η H η' H') : ∀ {ds : List (Key × D)} {vs : List (Key × V)}, Repk K η H ds vs → Repk K η' H' ds vs
  | _, _, .nil => .nil
  | _, _, .cons h hs => .cons (Rep.grow g h) (Repk.grow g hs)
end

section
variable {K : PySem.W.Frag} {η : List Addr} {H : Hp}
theorem Reps.length : ∀ {ds : List D} {vs : List V}, Reps K η H ds vs → ds.length = vs.length
  | _, _, .nil => rfl
  | _, _, .cons _ t => by simp [Reps.length t]
theorem Reps.get : ∀ {ds : List D} {vs : List V} {i : Nat} {d : D}, Reps K η H ds vs → ds[i]? = some d → ∃ v, vs[i]? = some v ∧ Rep K η H d v
  | _, _, _, _, .nil, e => by simp at e
  | _, _, 0, _, .cons r _, e => by simp at e; subst e; exact ⟨_, rfl, r⟩
  | _, _, i + 1, d, .cons _ t, e => by
    obtain ⟨v, h1, h2⟩ := Reps.get (i := i) (d := d) t (by simpa using e)
    exact ⟨v, by simpa using h1, h2⟩
theorem Reps.getV : ∀ {ds : List D} {vs : List V} {i : Nat} {v : V}, Reps K η H ds vs → vs[i]? = some v → ∃ d, ds[i]? = some d ∧ Rep K η H d v
  | _, _, _, _, .nil, e => by simp at e
  | _, _, 0, _, .cons r _, e => by simp at e; subst e; exact ⟨_, rfl, r⟩
  | _, _, i + 1, d, .cons _ t, e => by
    obtain ⟨v, h1, h2⟩ := Reps.getV (i := i) (v := d) t (by simpa using e)
    exact ⟨v, by simpa using h1, h2⟩
theorem Reps.append : ∀ {ds es : List D} {vs ws : List V}, Reps K η H ds vs → Reps K η H es ws → Reps K η H (ds ++ es) (vs ++ ws)
  | _, _, _, _, .nil, s => s
  | _, _, _, _, .cons r t, s => .cons r (Reps.append t s)
theorem Reps.take : ∀ {ds : List D} {vs : List V} (n : Nat), Reps K η H ds vs → Reps K η H (ds.take n) (vs.take n)
  | _, _, 0, _ => by simp; exact .nil
  | _, _, _ + 1, .nil => by simp; exact .nil
  | _, _, n + 1, .cons r t => .cons r (Reps.take n t)
theorem Reps.drop : ∀ {ds : List D} {vs : List V} (n : Nat), Reps K η H ds vs → Reps K η H (ds.drop n) (vs.drop n)
  | _, _, 0, r => r
  | _, _, _ + 1, .nil => .nil
  | _, _, n + 1, .cons _ t => Reps.drop n t
theorem Reps.set {d : D} {v : V} (r : Rep K η H d v) : ∀ {ds : List D} {vs : List V} (i : Nat), Reps K η H ds vs → Reps K η H (ds.set i d) (vs.set i v)
  | _, _, _, .nil => .nil
  | _, _, 0, .cons _ t => .cons r t
  | _, _, i + 1, .cons q t => .cons q (Reps.set r i t)
theorem Reps.eraseIdx : ∀ {ds : List D} {vs : List V} (i : Nat), Reps K η H ds vs → Reps K η H (ds.eraseIdx i) (vs.eraseIdx i)
  | _, _, _, .nil => .nil
  | _, _, 0, .cons _ t => t
  | _, _, i + 1, .cons q t => .cons q (Reps.eraseIdx i t)
theorem Reps.dropLast : ∀ {ds : List D} {vs : List V}, Reps K η H ds vs → Reps K η H ds.dropLast vs.dropLast
  | _, _, .nil => .nil
  | _, _, .cons q .nil => .nil
  | _, _, .cons q (.cons q' t) => .cons q (Reps.dropLast (.cons q' t))
theorem Reps.reverse {ds : List D} {vs : List V} (h : Reps K η H ds vs) : Reps K η H ds.reverse vs.reverse := by
  induction ds generalizing vs with
  | nil => cases h; exact .nil
  | cons d ds ih =>
    cases h with
    | cons r t =>
      rw [List.reverse_cons, List.reverse_cons]
      exact (ih t).append (.cons r .nil)
theorem Reps.replicate {ds : List D} {vs : List V} (h : Reps K η H ds vs) : ∀ n : Nat, Reps K η H (List.replicate n ds).flatten (List.replicate n vs).flatten
  | 0 => .nil
  | n + 1 => by
    rw [List.replicate_succ, List.replicate_succ, List.flatten_cons, List.flatten_cons]
    exact h.append (Reps.replicate h n)
theorem Reps.ints : ∀ (ns : List Int), Reps K η H (ns.map D.int) (ns.map V.int)
  | [] => .nil
  | n :: r => .cons (.int n) (Reps.ints r)
theorem Reps.strs : ∀ (ns : List Str), Reps K η H (ns.map D.str) (ns.map V.str)
  | [] => .nil
  | n :: r => .cons (.str n) (Reps.strs r)
end

/-! ### the store -/
def OAt (K : PySem.W.Frag) (η : List Addr) (H : Hp) (a : Addr) : O → Prop
  | .lst ds => ∃ vs, H a = some (.lst vs) ∧ Reps K η H ds vs
structure StoOk (K : PySem.W.Frag) (η : List Addr) (H : Hp) (S : Sto) : Prop where
  len : η.length = S.length
  nd : η.Nodup
  look : ∀ (n : Nat) (o : O) (a : Addr), S[n]? = some o → η[n]? = some a → OAt K η H a o
theorem StoOk.tracked {K : PySem.W.Frag} {η : List Addr} {H : Hp} {S : Sto} (s : StoOk K η H S) {a : Addr} (h : a ∈ η) : ∃ vs, H a = some (.lst vs) := by
  obtain ⟨n, hn, e⟩ := List.getElem_of_mem h
  have h1 : η[n]? = some a := by rw [List.getElem?_eq_getElem hn, e]
  have hn' : n < S.length := by rw [← s.len]; exact hn
  have h2 : S[n]? = some S[n] := List.getElem?_eq_getElem hn'
  have h3 := s.look n _ a h2 h1
  cases q : S[n] with
  | lst ds =>
    rw [q] at h3
    obtain ⟨vs, h4, _⟩ := h3
    exact ⟨vs, h4⟩
theorem StoOk.fresh {K : PySem.W.Frag} {η : List Addr} {H : Hp} {S : Sto} (s : StoOk K η H S) {p : Addr} (h : H p = none) : p ∉ η := fun hm => by
  obtain ⟨vs, e⟩ := s.tracked hm
  rw [h] at e
  cases e
theorem StoOk.other {K : PySem.W.Frag} {η : List Addr} {H : Hp} {S : Sto} (s : StoOk K η H S) {a : Addr} {u : HO} (h : H a = some u) (hu : ∀ vs, u ≠ .lst vs) : a ∉ η := fun hm => by
  obtain ⟨vs, e⟩ := s.tracked hm
  rw [h] at e
  exact hu vs (Option.some.inj e)

theorem OAt.grow {K : PySem.W.Frag} {η η' : List Addr} {H H' : Hp} (g : Grow η H η' H') {a : Addr} {o : O} (h : OAt K η H a o) (e : H' a = H a) : OAt K η' H' a o := by
  cases o with
  | lst ds =>
    obtain ⟨vs, h1, h2⟩ := h
    exact ⟨vs, by rw [e]; exact h1, h2.grow g⟩

/-- a new tracked thing that is no object of the store -/
theorem grow_new {K : PySem.W.Frag} {η : List Addr} {H : Hp} {S : Sto} (s : StoOk K η H S) {p : Addr} {u : HO} (hp : H p = none) : Grow η H η (upd H p u) :=
  ⟨⟨[], by simp, fun _ h => nomatch h⟩, fun a o _ h => by rw [upd_ne (ne_of_none h hp)]; exact h⟩
theorem StoOk.laid {K : PySem.W.Frag} {η : List Addr} {H : Hp} {S : Sto} (s : StoOk K η H S) {p : Addr} {u : HO} (hp : H p = none) : StoOk K η (upd H p u) S :=
  ⟨s.len, s.nd, fun n o a h1 h2 => (s.look n o a h1 h2).grow (grow_new s hp) (upd_ne fun e => s.fresh hp (e ▸ List.mem_of_getElem? h2))⟩
/-- a new object of the store -/
theorem grow_push {K : PySem.W.Frag} {η : List Addr} {H : Hp} {S : Sto} (s : StoOk K η H S) {p : Addr} {u : HO} (hp : H p = none) : Grow η H (η ++ [p]) (upd H p u) :=
  ⟨⟨[p], rfl, fun a ha => by
    rw [List.mem_singleton] at ha
    subst ha
    exact ⟨s.fresh hp, hp⟩⟩, fun a o _ h => by rw [upd_ne (ne_of_none h hp)]; exact h⟩
theorem StoOk.push {K : PySem.W.Frag} {η : List Addr} {H : Hp} {S : Sto} (s : StoOk K η H S) {p : Addr} {ds : List D} {vs : List V} (hp : H p = none) (hr : Reps K η H ds vs) :
    StoOk K (η ++ [p]) (upd H p (.lst vs)) (S ++ [.lst ds]) := by
  have g := grow_push (u := .lst vs) s hp
  refine ⟨by simp [s.len], ?_, fun n o a h1 h2 => ?_⟩
  · rw [List.nodup_append]
    refine ⟨s.nd, by simp, fun a ha b hb => ?_⟩
    rw [List.mem_singleton] at hb
    subst hb
    exact fun e => s.fresh hp (e ▸ ha)
  · by_cases hn : n < S.length
    · rw [List.getElem?_append_left hn] at h1
      rw [List.getElem?_append_left (by rw [s.len]; exact hn)] at h2
      exact (s.look n o a h1 h2).grow g (upd_ne fun e => s.fresh hp (e ▸ List.mem_of_getElem? h2))
    · have hn1 : n = S.length := by
        have := (List.getElem?_eq_some_iff.mp h1).1
        simp at this
        omega
      subst hn1
      rw [List.getElem?_append_right (Nat.le_refl _)] at h1
      rw [List.getElem?_append_right (by rw [s.len]; exact Nat.le_refl _)] at h2
      simp at h1
      simp [s.len] at h2
      subst h1; subst h2
      exact ⟨vs, upd_same, hr.grow g⟩
/-- an object of the store turns -/
theorem grow_set {K : PySem.W.Frag} {η : List Addr} {H : Hp} {S : Sto} (s : StoOk K η H S) {a : Addr} {u : HO} (ha : a ∈ η) : Grow η H η (upd H a u) :=
  ⟨⟨[], by simp, fun _ h => nomatch h⟩, fun b o nb h => by rw [upd_ne (show b ≠ a from fun e => nb (by rw [e]; exact ha))]; exact h⟩
theorem StoOk.set {K : PySem.W.Frag} {η : List Addr} {H : Hp} {S : Sto} (s : StoOk K η H S) {n : Nat} {a : Addr} {ds : List D} {vs : List V} (ha : η[n]? = some a) (hr : Reps K η H ds vs) :
    StoOk K η (upd H a (.lst vs)) (S.set n (.lst ds)) := by
  have hm : a ∈ η := List.mem_of_getElem? ha
  have g := grow_set (u := .lst vs) s hm
  refine ⟨by simp [s.len], s.nd, fun m o b h1 h2 => ?_⟩
  by_cases hmn : m = n
  · subst hmn
    rw [ha] at h2
    cases h2
    have hl : m < S.length := by
      rw [← s.len]
      exact (List.getElem?_eq_some_iff.mp ha).1
    rw [List.getElem?_set_self hl] at h1
    cases h1
    exact ⟨vs, upd_same, hr.grow g⟩
  · rw [List.getElem?_set_ne (Ne.symm hmn)] at h1
    refine (s.look m o b h1 h2).grow g (upd_ne fun e => hmn ?_)
    subst e
    obtain ⟨i1, e1⟩ := List.getElem?_eq_some_iff.mp h2
    obtain ⟨i2, e2⟩ := List.getElem?_eq_some_iff.mp ha
    exact (List.getElem_inj s.nd).mp (e1.trans e2.symm)

/-! ### slots -/
structure SRel (K : PySem.W.Frag) (η : List Addr) (H : Hp) (σ : St) (ρ : Env) : Prop where
  len : ρ.length = σ.length
  look : ∀ (i : Nat) (d : D), ρ[i]? = some (some d) → ∃ v, σ[i]? = some (some v) ∧ Rep K η H d v
theorem SRel.grow {K : PySem.W.Frag} {η η' : List Addr} {H H' : Hp} {σ : St} {ρ : Env} (h : SRel K η H σ ρ) (g : Grow η H η' H') : SRel K η' H' σ ρ :=
  ⟨h.len, fun i d e => let ⟨v, h1, h2⟩ := h.look i d e; ⟨v, h1, h2.grow g⟩⟩
theorem SRel.set {K : PySem.W.Frag} {η : List Addr} {H : Hp} {σ : St} {ρ : Env} (h : SRel K η H σ ρ) {d : D} {v : V} (r : Rep K η H d v) (i : Nat) : SRel K η H (σ.set i (some v)) (ρ.set i (some d)) := by
  refine ⟨by simp [h.len], fun j e hj => ?_⟩
  by_cases hij : i = j
  · subst hij
    have hl : i < ρ.length := by
      have := (List.getElem?_eq_some_iff.mp hj).1
      simpa using this
    rw [List.getElem?_set_self hl] at hj
    cases hj
    exact ⟨v, List.getElem?_set_self (by rw [← h.len]; exact hl), r⟩
  · rw [List.getElem?_set_ne hij] at hj
    rw [List.getElem?_set_ne hij]
    exact h.look j e hj

/-! ### what a run gives -/
def Good (K : PySem.W.Frag) (η : List Addr) (H : Hp) (S' : Sto) (d : D) : VK := fun v H' => ∃ η', Grow η H η' H' ∧ StoOk K η' H' S' ∧ Rep K η' H' d v
abbrev Wp (β : Type) := (β → Shared → Prop) → (Value → Shared → Prop) → Shared → Prop
abbrev sem {β : Type} (X : Cx) (t : Sem β) : Wp β := fun Q E s => wpAny (model X.prog X.w) X.A t Q E s
/-- behind W (from slots σ, heap H, store at η) the result r: its value in rel to what W gives -/
def Out {α β : Type} (τ : Nat) (X : Cx) (pins : List (Addr × Obj)) (η : List Addr) (H : Hp) (rel : L2.St → List Addr → Hp → α → β → Prop) (r : R α) (W : Wp β) (s : Shared) : Prop :=
  match r with
  | .bad => True
  | .ok a S' => ∀ E : Value → Shared → Prop, W (fun u s' => τ ≤ s'.toks ∧ ∃ σ' η' H', Inv X pins σ' H' s' ∧ Grow η H η' H' ∧ StoOk X.K η' H' S' ∧ rel σ' η' H' a u) E s
def relV (K : PySem.W.Frag) (σ : L2.St) : L2.St → List Addr → Hp → D → Value → Prop := fun σ' η H d u => σ' = σ ∧ ∃ v, RelV v u ∧ Rep K η H d v
def relL (K : PySem.W.Frag) (σ : L2.St) : L2.St → List Addr → Hp → List D → List Value → Prop := fun σ' η H ds us => σ' = σ ∧ ∃ vs, Vals vs us ∧ Reps K η H ds vs
def relB (σ : L2.St) : L2.St → List Addr → Hp → Bool → Bool → Prop := fun σ' _ _ a b => σ' = σ ∧ a = b

section
variable {X : Cx} {pins : List (Addr × Obj)} {σ : L2.St} {η : List Addr} {H : Hp} {s : Shared}
theorem out_ok {t : Sem Value} {d : D} {S' : Sto} (tk : τ ≤ s.toks) (h : ∀ E, wpAny (model X.prog X.w) X.A t (EP (X.wish E) pins σ (Good X.K η H S' d)) E s) : Out τ X pins η H (relV X.K σ) (.ok d S') (sem X t) s := by
  intro E
  refine wpAny_mono (PySem.wpAny_toks (h E)) (fun u s' q => ?_) fun _ _ z => z.2
  obtain ⟨hk, v, H', I', r, η', g, st, rp⟩ := q
  exact ⟨Nat.le_trans tk hk, σ, η', H', I'.unwish, g, st, rfl, v, r, rp⟩
theorem out_tt {t : Sem Bool} {b : Bool} {S' : Sto} (tk : τ ≤ s.toks) (h : ∀ E, wpAny (model X.prog X.w) X.A t (TP (X.wish E) pins σ (fun c H' => b = c ∧ ∃ η', Grow η H η' H' ∧ StoOk X.K η' H' S')) E s) : Out τ X pins η H (relB σ) (.ok b S') (sem X t) s := by
  intro E
  refine wpAny_mono (PySem.wpAny_toks (h E)) (fun u s' q => ?_) fun _ _ z => z.2
  obtain ⟨hk, H', I', e, η', g, st⟩ := q
  exact ⟨Nat.le_trans tk hk, σ, η', H', I'.unwish, g, st, rfl, e⟩
/-- one after another -/
theorem Out.seq {α β γ δ : Type} {rel : L2.St → List Addr → Hp → α → β → Prop} {rel2 : L2.St → List Addr → Hp → γ → δ → Prop} {m : M α} {f : α → M γ} {S : Sto} {t1 : Sem β} {W : Wp δ} {W2 : β → Wp δ}
    (hT : ∀ Q E, wpAny (model X.prog X.w) X.A t1 (fun u s' => W2 u Q E s') E s → W Q E s) (h1 : Out τ X pins η H rel (m S) (sem X t1) s)
    (h2 : ∀ u s1 σ1 η1 H1 a S1, m S = .ok a S1 → τ ≤ s1.toks → Inv X pins σ1 H1 s1 → Grow η H η1 H1 → StoOk X.K η1 H1 S1 → rel σ1 η1 H1 a u → Out τ X pins η H rel2 (f a S1) (W2 u) s1) :
    Out τ X pins η H rel2 ((m >>= f) S) W s := by
  show Out τ X pins η H rel2 (match m S with | .ok a S' => f a S' | .bad => .bad) W s
  cases q : m S with
  | bad => trivial
  | ok a S1 =>
    rw [q] at h1
    show Out τ X pins η H rel2 (f a S1) W s
    cases q2 : f a S1 with
    | bad => trivial
    | ok c S2 =>
      intro E
      refine hT _ E (wpAny_mono (h1 E) (fun u s1 z => ?_) fun _ _ z => z)
      obtain ⟨tk, σ1, η1, H1, I1, g1, st1, r1⟩ := z
      have k := h2 u s1 σ1 η1 H1 a S1 q tk I1 g1 st1 r1
      rw [q2] at k
      exact k E
def MonoW {β : Type} (W : Wp β) : Prop := ∀ Q Q' E s, (∀ u s, Q u s → Q' u s) → W Q E s → W Q' E s
theorem mono_sem {β : Type} (t : Sem β) : MonoW (sem X t) := fun _ _ _ _ h w => wpAny_mono w h fun _ _ z => z
theorem mono_then {β γ : Type} (t : Sem β) {W : β → Wp γ} (h : ∀ u, MonoW (W u)) : MonoW (fun Q E s => wpAny (model X.prog X.w) X.A t (fun u s' => W u Q E s') E s) := fun Q Q' E s hQ w => wpAny_mono w (fun u s' z => h u Q Q' E s' hQ z) fun _ _ z => z
/-- the base of an Out further back -/
theorem Out.back {α β : Type} {η1 : List Addr} {H1 : Hp} {rel : L2.St → List Addr → Hp → α → β → Prop} {r : R α} {W : Wp β} (hm : MonoW W) (g : Grow η H η1 H1) (h : Out τ X pins η1 H1 rel r W s) : Out τ X pins η H rel r W s := by
  cases r with
  | bad => trivial
  | ok a S' =>
    intro E
    refine hm _ _ E s (fun u s1 z => ?_) (h E)
    obtain ⟨tk, σ1, η1, H1, I1, g1, st1, r1⟩ := z
    exact ⟨tk, σ1, η1, H1, I1, g.trans g1, st1, r1⟩
theorem Out.via {α β : Type} {rel : L2.St → List Addr → Hp → α → β → Prop} {r : R α} {W W' : Wp β} (hv : ∀ Q E, W' Q E s → W Q E s) (h : Out τ X pins η H rel r W' s) : Out τ X pins η H rel r W s := by
  cases r with
  | bad => trivial
  | ok a S' => exact fun E => hv _ E (h E)
/-- no exception is asked for -/
theorem Out.never {α β : Type} {rel : L2.St → List Addr → Hp → α → β → Prop} {r : R α} {t : Sem β} (h : ∀ a S', r = .ok a S' → wpAny (model X.prog X.w) X.A t (fun u s' => τ ≤ s'.toks ∧ ∃ σ' η' H', Inv X pins σ' H' s' ∧ Grow η H η' H' ∧ StoOk X.K η' H' S' ∧ rel σ' η' H' a u) (fun _ _ => False) s) :
    Out τ X pins η H rel r (sem X t) s := by
  cases r with
  | bad => trivial
  | ok a S' => exact fun E => wpAny_mono (h a S' rfl) (fun _ _ z => z) fun _ _ z => z.elim
end

/-! ### judgements of expressions by functions -/
def PD (τ : Nat) (X : Cx) (e : Expr) (g : Env → M D) : Prop := ∀ (pins : List (Addr × Obj)) (s : Shared) (σ : L2.St) (H : Hp) (ρ : Env) (η : List Addr) (S : Sto),
  Inv X pins σ H s → τ ≤ s.toks → SRel X.K η H σ ρ → StoOk X.K η H S → Out τ X pins η H (relV X.K σ) (g ρ S) (sem X (eval e X.env)) s
def PDB (τ : Nat) (X : Cx) (e : Expr) (g : Env → M Bool) : Prop := ∀ (pins : List (Addr × Obj)) (s : Shared) (σ : L2.St) (H : Hp) (ρ : Env) (η : List Addr) (S : Sto),
  Inv X pins σ H s → τ ≤ s.toks → SRel X.K η H σ ρ → StoOk X.K η H S → Out τ X pins η H (relB σ) (g ρ S) (sem X (isTrue e X.env (eval e X.env))) s
def PDL (τ : Nat) (X : Cx) (es : List Expr) (g : Env → M (List D)) : Prop := ∀ (pos : Pos) (pins : List (Addr × Obj)) (s : Shared) (σ : L2.St) (H : Hp) (ρ : Env) (η : List Addr) (S : Sto),
  Inv X pins σ H s → τ ≤ s.toks → SRel X.K η H σ ρ → StoOk X.K η H S → Out τ X pins η H (relL X.K σ) (g ρ S) (sem X (spliced (backTo pos (starEach es X.env)))) s

/-- a PE without parts of ours -/
theorem pd_of {X : Cx} {e : Expr} {g : Env → M D} (h : ∀ (E : Value → Shared → Prop) (σ : L2.St) (H : Hp) (ρ : Env) (η : List Addr) (S : Sto) (d : D) (S' : Sto), SRel X.K η H σ ρ → StoOk X.K η H S → g ρ S = .ok d S' →
    ∃ t, PE (X.wish E) e t ∧ t σ H (Good X.K η H S' d)) : PD τ X e g := by
  intro pins s σ H ρ η S I tk sr st
  cases q : g ρ S with
  | bad => trivial
  | ok d S' =>
    refine out_ok tk fun E => ?_
    obtain ⟨t, ht, hq⟩ := h E σ H ρ η S d S' sr st q
    exact ht.run pins s σ H _ (I.wish E) hq

/-! ### operations by values -/
def Op1 (τ : Nat) (X : Cx) (f : Value → Sem Value) (g : D → M D) : Prop := ∀ (pins : List (Addr × Obj)) (s : Shared) (σ : L2.St) (H : Hp) (η : List Addr) (S : Sto) (x : V) (v : Value) (d : D),
  Inv X pins σ H s → τ ≤ s.toks → StoOk X.K η H S → RelV x v → Rep X.K η H d x → Out τ X pins η H (relV X.K σ) (g d S) (sem X (f v)) s
def Op2 (τ : Nat) (X : Cx) (f : Value → Value → Sem Value) (g : D → D → M D) : Prop := ∀ (pins : List (Addr × Obj)) (s : Shared) (σ : L2.St) (H : Hp) (η : List Addr) (S : Sto) (x y : V) (v u : Value) (d e : D),
  Inv X pins σ H s → τ ≤ s.toks → StoOk X.K η H S → RelV x v → RelV y u → Rep X.K η H d x → Rep X.K η H e y → Out τ X pins η H (relV X.K σ) (g d e S) (sem X (f v u)) s
def OpL (τ : Nat) (X : Cx) (f : List Value → Sem Value) (g : List D → M D) : Prop := ∀ (pins : List (Addr × Obj)) (s : Shared) (σ : L2.St) (H : Hp) (η : List Addr) (S : Sto) (xs : List V) (us : List Value) (ds : List D),
  Inv X pins σ H s → τ ≤ s.toks → StoOk X.K η H S → Vals xs us → Reps X.K η H ds xs → Out τ X pins η H (relV X.K σ) (g ds S) (sem X (f us)) s
end MP

/-! MP2: the operations of built-in types, by functions over D. -/
namespace MP
open PySem L2

abbrev SL : Nat := 16777216
theorem sl_le {n : Nat} (h : n ≤ SL) : n ≤ sizeLine := by rw [sizeLine_eq]; exact h
theorem sl_lt {n : Nat} (h : n < SL) : n < sizeLine := by rw [sizeLine_eq]; exact h

/-! ### the items of a list; new lists and tuples -/
def items (S : Sto) : D → Option (List D)
  | .lst ds => some ds
  | .ref n => match S[n]? with
    | some (.lst ds) => some ds
    | none => none
  | _ => none
def itemsR (S : Sto) : D → Option (List D)
  | .frz ds => some ds
  | d => items S d
def newL (m : Bool) (ds : List D) : M D := fun S => if m then .ok (.ref S.length) (S ++ [.lst ds]) else .ok (.lst ds) S

section
variable {K : PySem.W.Frag} {η : List Addr} {H : Hp} {S : Sto}
theorem items_at {d : D} {ds : List D} {x : V} (st : StoOk K η H S) (r : Rep K η H d x) (h : items S d = some ds) : ∃ a vs, x = .ref a ∧ H a = some (.lst vs) ∧ Reps K η H ds vs := by
  cases r with
  | lst h1 h2 => cases h; exact ⟨_, _, rfl, h1.1, h2⟩
  | @ref n a h1 =>
    have h : (match S[n]? with | some (.lst ds) => some ds | none => none) = some ds := h
    cases q : S[n]? with
    | none => rw [q] at h; cases h
    | some o =>
      cases o with
      | lst es =>
        rw [q] at h
        cases h
        obtain ⟨vs, h3, h4⟩ := st.look n _ a q h1
        exact ⟨a, vs, rfl, h3, h4⟩
  | _ => cases h
theorem itemsR_at {d : D} {ds : List D} {x : V} (st : StoOk K η H S) (r : Rep K η H d x) (h : itemsR S d = some ds) : ∃ a vs, x = .ref a ∧ SqL K H a vs ∧ Reps K η H ds vs := by
  cases r with
  | frz h1 h2 => cases h; exact ⟨_, _, rfl, h1.sq, h2⟩
  | non => cases h
  | bl => cases h
  | int => cases h
  | str => cases h
  | tup => cases h
  | dic => cases h
  | lst h1 h2 =>
    obtain ⟨a, vs, e, h3, h4⟩ := items_at st (.lst h1 h2) h
    exact ⟨a, vs, e, SqL.of h3, h4⟩
  | ref h1 =>
    obtain ⟨a, vs, e, h3, h4⟩ := items_at st (.ref h1) h
    exact ⟨a, vs, e, SqL.of h3, h4⟩
theorem good_here {d : D} {v : V} (st : StoOk K η H S) (r : Rep K η H d v) : Good K η H S d v H := ⟨η, .refl _ _, st, r⟩
theorem good_newL {m : Bool} {ds : List D} {vs : List V} {p : Addr} {d : D} {S' : Sto} (st : StoOk K η H S) (hr : Reps K η H ds vs) (hp : H p = none) (h : newL m ds S = .ok d S') : Good K η H S' d (.ref p) (upd H p (.lst vs)) := by
  unfold newL at h
  cases m with
  | true =>
    rw [if_pos rfl] at h
    cases h
    refine ⟨η ++ [p], grow_push st hp, st.push hp hr, .ref ?_⟩
    rw [← st.len, List.getElem?_append_right (Nat.le_refl _)]
    simp
  | false =>
    rw [if_neg Bool.false_ne_true] at h
    cases h
    exact ⟨η, grow_new st hp, st.laid hp, .lst ⟨upd_same, st.fresh hp⟩ (hr.grow (grow_new st hp))⟩
theorem good_newT {ds : List D} {vs : List V} {p : Addr} (st : StoOk K η H S) (hr : Reps K η H ds vs) (hp : H p = none) : Good K η H S (.tup ds) (.ref p) (upd H p (.tup vs)) :=
  ⟨η, grow_new st hp, st.laid hp, .tup (.inl ⟨upd_same, st.fresh hp⟩) (hr.grow (grow_new st hp))⟩
theorem good_set {n : Nat} {a : Addr} {ds : List D} {vs : List V} {d : D} {v : V} (st : StoOk K η H S) (ha : η[n]? = some a) (hr : Reps K η H ds vs) (r : Rep K η H d v) : Good K η H (S.set n (.lst ds)) d v (upd H a (.lst vs)) :=
  ⟨η, grow_set st (List.mem_of_getElem? ha), st.set ha hr, r.grow (grow_set st (List.mem_of_getElem? ha))⟩
end

/-! ### + -/
def b2 (b : Bool) : Int := if b = true then 1 else 0
def addD (m : Bool) (d e : D) : M D := match d, e with
  | .int i, .int j => pure (.int (i + j))
  | .bl a, .int j => pure (.int (b2 a + j))
  | .int i, .bl b => pure (.int (i + b2 b))
  | .str x, .str y => if x.length + y.length ≤ SL then pure (.str (x ++ y)) else M.fail
  | .tup xs, .tup ys => if xs.length + ys.length ≤ SL then pure (.tup (xs ++ ys)) else M.fail
  | d, e => fun S => match items S d, items S e with
    | some xs, some ys => if xs.length + ys.length ≤ SL then newL m (xs ++ ys) S else .bad
    | _, _ => .bad
section
variable {X : Cx}
theorem add_lists {m : Bool} {pins : List (Addr × Obj)} {s : Shared} {σ : L2.St} {H : Hp} {η : List Addr} {S : Sto} {x y : V} {v u : Value} {d e : D} (I : Inv X pins σ H s) (tk : τ ≤ s.toks) (st : StoOk X.K η H S) (rx : RelV x v) (ry : RelV y u)
    (rd : Rep X.K η H d x) (re : Rep X.K η H e y) : Out τ X pins η H (relV X.K σ) (match items S d, items S e with
      | some xs, some ys => if xs.length + ys.length ≤ SL then newL m (xs ++ ys) S else .bad
      | _, _ => .bad) (sem X (binaryOp .Add v u)) s := by
  cases q1 : items S d with
  | none => trivial
  | some xs =>
    cases q2 : items S e with
    | none => trivial
    | some ys =>
      by_cases hz : xs.length + ys.length ≤ SL
      · dsimp only
        rw [if_pos hz]
        obtain ⟨a, vs, rfl, h1, h2⟩ := items_at st rd q1
        obtain ⟨b, ws, rfl, h3, h4⟩ := items_at st re q2
        cases q3 : newL m (xs ++ ys) S with
        | bad => trivial
        | ok d' S' =>
          exact out_ok tk fun E => op_cat (X := X.wish E) pins s σ H _ _ v u _ (I.wish E) rx ry ⟨a, b, vs, ws, rfl, rfl, h1, h3, sl_le (by rw [← h2.length, ← h4.length]; exact hz), fun p hp => good_newL st (h2.append h4) hp q3⟩
      · dsimp only
        rw [if_neg hz]
        trivial
theorem op_addD (m : Bool) : Op2 τ X (binaryOp .Add) (addD m) := by
  intro pins s σ H η S x y v u d e I tk st rx ry rd re
  have key := add_lists (m := m) I tk st rx ry rd re
  cases rd with
  | int i =>
    cases re with
    | int j => exact out_ok tk fun E => op_add (X := X.wish E) pins s σ H _ _ v u _ (I.wish E) rx ry ⟨i, j, rfl, rfl, good_here st (.int _)⟩
    | bl b =>
      obtain ⟨t, rfl⟩ := rx
      cases ry
      exact out_ok tk fun E => PySem.add_int_bool ⟨.int (i + b2 b), H, (I.wish E).tok _, ⟨_, rfl⟩, good_here st (.int _)⟩
    | _ => exact key
  | bl a =>
    cases re with
    | int j =>
      obtain ⟨t, rfl⟩ := ry
      cases rx
      exact out_ok tk fun E => PySem.IntBool.add_bool_int ⟨.int (b2 a + j), H, (I.wish E).tok _, ⟨_, rfl⟩, good_here st (.int _)⟩
    | _ => exact key
  | str a =>
    cases re with
    | str b =>
      show Out τ X pins η H (relV X.K σ) ((if a.length + b.length ≤ SL then pure (D.str (a ++ b)) else M.fail : M D) S) _ s
      by_cases hz : a.length + b.length ≤ SL
      · rw [if_pos hz]
        exact out_ok tk fun E => op_add_str (X := X.wish E) pins s σ H _ _ v u _ (I.wish E) rx ry ⟨a, b, rfl, rfl, sl_le hz, good_here st (.str _)⟩
      · rw [if_neg hz]
        trivial
    | _ => exact key
  | @tup a vs ds h1 h2 =>
    cases re with
    | @tup b ws es h3 h4 =>
      show Out τ X pins η H (relV X.K σ) ((if ds.length + es.length ≤ SL then pure (D.tup (ds ++ es)) else M.fail : M D) S) _ s
      by_cases hz : ds.length + es.length ≤ SL
      · rw [if_pos hz]
        refine out_ok tk fun E => op_catA (X := X.wish E) pins s σ H _ _ v u _ (I.wish E) rx ry ⟨a, b, vs, ws, rfl, rfl, h1.sq, h3.sq, sl_le (by rw [← h2.length, ← h4.length]; exact hz), fun e => ?_, fun _ e => ?_, fun _ _ p hp => good_newT st (h2.append h4) hp⟩
        · subst e
          cases h2
          exact good_here st (.tup h3 h4)
        · subst e
          cases h4
          rw [List.append_nil]
          exact good_here st (.tup h1 h2)
      · rw [if_neg hz]
        trivial
    | _ => exact key
  | _ => cases re <;> exact key
end

/-! ### - * // % ** -/
theorem rep_size (c : Array Nat) : ∀ (n : Nat) (acc : Array Nat), (List.foldl (fun x1 x2 => x1 ++ x2) acc (List.replicate n c)).size = acc.size + n * c.size
  | 0, acc => by simp
  | n + 1, acc => by
    rw [List.replicate_succ, List.foldl_cons, rep_size c n, Array.size_append, Nat.succ_mul]
    omega
def subD : D → D → M D
  | .int i, .int j => pure (.int (i - j))
  | .bl a, .int j => pure (.int (b2 a - j))
  | .int i, .bl b => pure (.int (i - b2 b))
  | _, _ => M.fail
def mulD : D → D → M D
  | .int i, .int j => if (-(2 ^ 64) < i ∧ i < 2 ^ 64) ∨ (-(2 ^ 64) < j ∧ j < 2 ^ 64) then pure (.int (i * j)) else M.fail
  | .str x, .int k => if 2 ≤ k ∧ k ≤ 1000 ∧ 1 ≤ x.length ∧ x.length ≤ 1000 then pure (.str ⟨(List.replicate k.toNat x.cps).foldl (· ++ ·) #[]⟩) else M.fail
  | .tup xs, .int k => if xs ≠ [] ∧ 2 ≤ k ∧ k ≤ 1000 ∧ xs.length ≤ 1000 then pure (.tup (List.replicate k.toNat xs).flatten) else M.fail
  | _, _ => M.fail
def fdivD : D → D → M D
  | .int i, .int j => if 0 < j ∧ j < 1073741824 then pure (.int (i / j)) else M.fail
  | _, _ => M.fail
def modD : D → D → M D
  | .int i, .int j => if 0 < j then pure (.int (i % j)) else M.fail
  | _, _ => M.fail
def powD : D → D → M D
  | .int i, .int j => if 0 ≤ j ∧ j ≤ 1000000 ∧ i.natAbs < 2 ^ 64 then pure (.int (i ^ j.toNat)) else M.fail
  | _, _ => M.fail
section
variable {X : Cx}
theorem op_subD : Op2 τ X (binaryOp .Sub) subD := by
  intro pins s σ H η S x y v u d e I tk st rx ry rd re
  cases rd with
  | int i =>
    cases re with
    | int j => exact out_ok tk fun E => op_sub (X := X.wish E) pins s σ H _ _ v u _ (I.wish E) rx ry ⟨i, j, rfl, rfl, good_here st (.int _)⟩
    | bl b =>
      obtain ⟨t, rfl⟩ := rx
      cases ry
      exact out_ok tk fun E => PySem.IntBool.sub_int_bool ⟨.int (i - b2 b), H, (I.wish E).tok _, ⟨_, rfl⟩, good_here st (.int _)⟩
    | _ => trivial
  | bl a =>
    cases re with
    | int j =>
      obtain ⟨t, rfl⟩ := ry
      cases rx
      exact out_ok tk fun E => PySem.IntBool.sub_bool_int ⟨.int (b2 a - j), H, (I.wish E).tok _, ⟨_, rfl⟩, good_here st (.int _)⟩
    | _ => trivial
  | _ => cases re <;> trivial
theorem op_fdivD : Op2 τ X (binaryOp .FloorDiv) fdivD := by
  intro pins s σ H η S x y v u d e I tk st rx ry rd re
  cases rd with
  | int i =>
    cases re with
    | int j =>
      show Out τ X pins η H (relV X.K σ) ((if 0 < j ∧ j < 1073741824 then pure (.int (i / j)) else M.fail : M D) S) _ s
      by_cases hz : 0 < j ∧ j < 1073741824
      · rw [if_pos hz]
        exact out_ok tk fun E => op_fdiv (X := X.wish E) pins s σ H _ _ v u _ (I.wish E) rx ry ⟨i, j, rfl, rfl, hz, good_here st (.int _)⟩
      · rw [if_neg hz]; trivial
    | _ => trivial
  | _ => cases re <;> trivial
theorem op_modD : Op2 τ X (binaryOp .Mod) modD := by
  intro pins s σ H η S x y v u d e I tk st rx ry rd re
  cases rd with
  | int i =>
    cases re with
    | int j =>
      show Out τ X pins η H (relV X.K σ) ((if 0 < j then pure (.int (i % j)) else M.fail : M D) S) _ s
      by_cases hz : 0 < j
      · rw [if_pos hz]
        exact out_ok tk fun E => op_mod (X := X.wish E) pins s σ H _ _ v u _ (I.wish E) rx ry ⟨i, j, rfl, rfl, hz, good_here st (.int _)⟩
      · rw [if_neg hz]; trivial
    | _ => trivial
  | _ => cases re <;> trivial
theorem op_powD : Op2 τ X (binaryOp .Pow) powD := by
  intro pins s σ H η S x y v u d e I tk st rx ry rd re
  cases rd with
  | int i =>
    cases re with
    | int j =>
      show Out τ X pins η H (relV X.K σ) ((if 0 ≤ j ∧ j ≤ 1000000 ∧ i.natAbs < 2 ^ 64 then pure (.int (i ^ j.toNat)) else M.fail : M D) S) _ s
      by_cases hz : 0 ≤ j ∧ j ≤ 1000000 ∧ i.natAbs < 2 ^ 64
      · rw [if_pos hz]
        exact out_ok tk fun E => op_pow (X := X.wish E) pins s σ H _ _ v u _ (I.wish E) rx ry ⟨i, j, rfl, rfl, hz, good_here st (.int _)⟩
      · rw [if_neg hz]; trivial
    | _ => trivial
  | _ => cases re <;> trivial
theorem op_mulD : Op2 τ X (binaryOp .Mult) mulD := by
  intro pins s σ H η S x y v u d e I tk st rx ry rd re
  cases rd with
  | int i =>
    cases re with
    | int j =>
      show Out τ X pins η H (relV X.K σ) ((if (-(2 ^ 64) < i ∧ i < 2 ^ 64) ∨ (-(2 ^ 64) < j ∧ j < 2 ^ 64) then pure (.int (i * j)) else M.fail : M D) S) _ s
      by_cases hz : (-(2 ^ 64) < i ∧ i < 2 ^ 64) ∨ (-(2 ^ 64) < j ∧ j < 2 ^ 64)
      · rw [if_pos hz]
        exact out_ok tk fun E => op_mul (X := X.wish E) pins s σ H _ _ v u _ (I.wish E) rx ry ⟨i, j, rfl, rfl, hz, good_here st (.int _)⟩
      · rw [if_neg hz]; trivial
    | _ => trivial
  | str a =>
    cases re with
    | int k =>
      show Out τ X pins η H (relV X.K σ) ((if 2 ≤ k ∧ k ≤ 1000 ∧ 1 ≤ a.length ∧ a.length ≤ 1000 then pure (.str ⟨(List.replicate k.toNat a.cps).foldl (· ++ ·) #[]⟩) else M.fail : M D) S) _ s
      by_cases hz : 2 ≤ k ∧ k ≤ 1000 ∧ 1 ≤ a.length ∧ a.length ≤ 1000
      · rw [if_pos hz]
        obtain ⟨h1, h2, h3, h4⟩ := hz
        obtain ⟨t, rfl⟩ := rx
        obtain ⟨t', rfl⟩ := ry
        refine out_ok tk fun E => P.mul_str ?_ ?_ ?_ ?_
        · simp; omega
        · intro _ _
          have : (1000 : Int) ≤ (2 ^ 63 - 1) / k := by
            rw [Int.le_ediv_iff_mul_le (by omega)]
            omega
          omega
        · intro _ _
          show decide (a.length * k.toNat > sizeLine) = false
          rw [decide_eq_false_iff_not, sizeLine_eq]
          have : a.length * k.toNat ≤ 1000 * 1000 := Nat.mul_le_mul h4 (by omega)
          omega
        · have c1 : ¬ k < 1 := by omega
          have c2 : ¬ (k == 1 || a.length == 0) = true := by
            rw [Bool.or_eq_true, beq_iff_eq, beq_iff_eq]
            omega
          rw [if_neg c1, if_neg c2]
          refine ⟨sl_le ?_, ⟨.str _, _, (I.wish E).tok _, ⟨_, rfl⟩, good_here st (.str _)⟩⟩
          show (List.foldl (fun x1 x2 => x1 ++ x2) #[] (List.replicate k.toNat a.cps)).size ≤ SL
          rw [rep_size]
          have : k.toNat * a.length ≤ 1000 * 1000 := Nat.mul_le_mul (by omega) h4
          show 0 + k.toNat * a.length ≤ 16777216
          omega
      · rw [if_neg hz]; trivial
    | _ => trivial
  | @tup a vs ds h1 h2 =>
    cases re with
    | int k =>
      show Out τ X pins η H (relV X.K σ) ((if ds ≠ [] ∧ 2 ≤ k ∧ k ≤ 1000 ∧ ds.length ≤ 1000 then pure (.tup (List.replicate k.toNat ds).flatten) else M.fail : M D) S) _ s
      by_cases hz : ds ≠ [] ∧ 2 ≤ k ∧ k ≤ 1000 ∧ ds.length ≤ 1000
      · rw [if_pos hz]
        obtain ⟨z1, z2, z3, z4⟩ := hz
        refine out_ok tk fun E => op_repT (X := X.wish E) pins s σ H _ _ v u _ (I.wish E) rx ry ⟨a, k, vs, rfl, rfl, h1.sq, fun z => z1 ?_, z2, z3, by rw [← h2.length]; exact z4, fun p hp => good_newT st (h2.replicate _) hp⟩
        subst z
        cases h2
        rfl
      · rw [if_neg hz]; trivial
    | _ => trivial
  | _ => cases re <;> trivial
end
end MP

/-! MP3: data; comparisons, in, is, subscripts, slices. -/
namespace MP
open PySem L2

/-! ### data -/
def keyP : Key → PyData
  | .inl i => .int i
  | .inr x => .str x
mutual
def deep : D → Option PyData
  | .non => some .none
  | .bl b => some (.bool b)
  | .int i => some (.int i)
  | .str x => some (.str x)
  | .tup xs => (deeps xs).map .tuple
  | .lst xs => (deeps xs).map .list
  | .frz _ => none
  | .dic kvs => (deepk kvs).map .dict
  | .ref _ => none
def deeps : List D → Option (List PyData)
  | [] => some []
  | x :: xs => match deep x, deeps xs with
    | some a, some b => some (a :: b)
    | _, _ => none
def deepk : List (Key × D) → Option (List (PyData × PyData))
  | [] => some []
  | (k, x) :: xs => match deep x, deepk xs with
    | some a, some b => some ((keyP k, a) :: b)
    | _, _ => none
end
section
variable {X : Cx} {pins : List (Addr × Obj)} {σ : L2.St} {H : Hp} {s : Shared} {η : List Addr}
theorem keys_read {P : Program} {w : World} {h : Heap} : ∀ {vs : List (Key × Value)} {es : List DictEntry}, Pairs (mixKind P w) es vs → ReadsAll h (es.map (·.key)) ((vs.map (·.1)).map keyP) []
  | _, _, .nil => .nil
  | _, _, .cons (e := e) (kv := kv) hk hv hr => by
    have key : Reads h e.key (keyP kv.1) [] := by
      rcases keyIs_shape hk with ⟨i, t, e1, e2⟩ | ⟨x, t, e1, e2⟩
      · rw [e1, e2]; exact Reads.int i t
      · rw [e1, e2]; exact Reads.str x t
    exact ReadsAll.cons (as := []) (bs := []) key (keys_read hr)
theorem vals_pairs {P : Program} {w : World} : ∀ {kvs : List (Key × V)} {vs : List (Key × Value)} {es : List DictEntry}, KV kvs vs → Pairs (mixKind P w) es vs → Vals (kvs.map (·.2)) (es.map (·.val)) ∧ kvs.map (·.1) = vs.map (·.1)
  | _, _, _, .nil, .nil => ⟨.nil, rfl⟩
  | _, _, _, .cons h1 h2, .cons _ hv hr => by
    obtain ⟨a, b⟩ := vals_pairs h2 hr
    refine ⟨.cons (by dsimp only; rw [hv]; exact h1.2) a, ?_⟩
    rw [List.map_cons, List.map_cons, h1.1, b]
theorem repk_vals {K : PySem.W.Frag} : ∀ {kds : List (Key × D)} {kvs : List (Key × V)}, Repk K η H kds kvs → Reps K η H (kds.map (·.2)) (kvs.map (·.2)) ∧ kds.map (·.1) = kvs.map (·.1)
  | _, _, .nil => ⟨.nil, rfl⟩
  | _, _, .cons h1 h2 => by
    obtain ⟨a, b⟩ := repk_vals h2
    exact ⟨.cons h1 a, by rw [List.map_cons, List.map_cons, b]⟩
theorem deepk_split : ∀ {kds : List (Key × D)} {ps : List (PyData × PyData)}, deepk kds = some ps → deeps (kds.map (·.2)) = some (ps.map (·.2)) ∧ (kds.map (·.1)).map keyP = ps.map (·.1)
  | [], _, h => by cases h; exact ⟨rfl, rfl⟩
  | (k, x) :: r, ps, h => by
    cases q1 : deep x with
    | none => simp [deepk, q1] at h
    | some a =>
      cases q2 : deepk r with
      | none => simp [deepk, q1, q2] at h
      | some b =>
        simp [deepk, q1, q2] at h
        subst h
        obtain ⟨e1, e2⟩ := deepk_split q2
        exact ⟨by simp [deeps, q1, e1], by simp; simpa using e2⟩
mutual
theorem rep_reads (hb : ∃ o, X.base.get? sysModules = some o) (I : Inv X pins σ H s) : ∀ {d : D} {v : V} {p : PyData} {u : Value}, Rep X.K η H d v → deep d = some p → RelV v u → ∃ as, Reads s.heap u p as ∧ sysModules ∉ as
  | _, _, _, _, .non, h, r => by cases h; cases r; exact ⟨_, Reads.none, by simp⟩
  | _, _, _, _, .bl b, h, r => by cases h; cases r; exact ⟨_, Reads.bool b, by simp⟩
  | _, _, _, _, .int i, h, r => by cases h; obtain ⟨t, rfl⟩ := r; exact ⟨_, Reads.int i t, by simp⟩
  | _, _, _, _, .str x, h, r => by cases h; obtain ⟨t, rfl⟩ := r; exact ⟨_, Reads.str x t, by simp⟩
  | _, _, _, _, .tup (ds := ds) h1 h2, h, r => by
    cases q : deeps ds with
    | none => simp [deep, q] at h
    | some ps =>
      simp [deep, q] at h
      subst h
      cases r
      obtain ⟨its, rv, ⟨o, ho, hc, n, hd⟩, _⟩ := I.tuple h1.sq
      obtain ⟨as, hr, hs⟩ := reps_reads hb I h2 q rv
      exact ⟨_, Reads.tuple ho hc hd (by simpa using hr), hs⟩
  | _, _, _, _, .lst (a := a) (ds := ds) h1 h2, h, r => by
    cases q : deeps ds with
    | none => simp [deep, q] at h
    | some ps =>
      simp [deep, q] at h
      subst h
      cases r
      obtain ⟨its, rv, ⟨o, n, ho, hc, _, hd⟩, _⟩ := I.list (LstAt.sq (K := X.K) h1)
      obtain ⟨as, hr, hs⟩ := reps_reads hb I h2 q rv
      refine ⟨_, Reads.list ho hc hd (by simpa using hr), fun z => ?_⟩
      rcases List.mem_cons.mp z with z | z
      · obtain ⟨ob, eb⟩ := hb
        have := (I.bs _ _ eb).2
        rw [z, h1.1] at this
        cases this
      · exact hs z
  | _, _, _, _, .frz h1 h2, h, r => by cases h
  | _, _, _, _, .dic (a := a) (kvs := kvs) (kds := kds) h1 h2, h, r => by
    cases q : deepk kds with
    | none => simp [deep, q] at h
    | some ps =>
      simp [deep, q] at h
      subst h
      cases r
      obtain ⟨_, hne, vs, hkv, o, es, ep, ho, hx, hd, _, hp, _⟩ := I.hok a _ h1.1
      obtain ⟨rv, e1⟩ := vals_pairs hkv hp
      obtain ⟨rk, e2⟩ := repk_vals h2
      obtain ⟨e3, e4⟩ := deepk_split q
      obtain ⟨as, hr, hs⟩ := repk_reads hb I h2 q rv
      have hk := keys_read (h := s.heap) hp
      rw [← e1, ← e2, e4] at hk
      refine ⟨_, Reads.dict ho hx.1 hd hk hr, fun z => ?_⟩
      rcases List.mem_cons.mp z with z | z
      · simp [z] at hne
      · exact hs (by simpa using z)
  | _, _, _, _, .ref h1, h, r => by cases h
theorem reps_reads (hb : ∃ o, X.base.get? sysModules = some o) (I : Inv X pins σ H s) : ∀ {ds : List D} {vs : List V} {ps : List PyData} {us : List Value}, Reps X.K η H ds vs → deeps ds = some ps → Vals vs us → ∃ as, ReadsAll s.heap us ps as ∧ sysModules ∉ as
  | _, _, _, _, .nil, h, r => by cases h; cases r; exact ⟨_, ReadsAll.nil, by simp⟩
  | _, _, _, _, .cons (d := d) (ds := ds) h1 h2, h, r => by
    cases r with
    | cons r1 r2 =>
      cases q1 : deep d with
      | none => simp [deeps, q1] at h
      | some a =>
        cases q2 : deeps ds with
        | none => simp [deeps, q1, q2] at h
        | some b =>
          simp [deeps, q1, q2] at h
          subst h
          obtain ⟨as, a1, a2⟩ := rep_reads hb I h1 q1 r1
          obtain ⟨bs, b1, b2⟩ := reps_reads hb I h2 q2 r2
          exact ⟨_, ReadsAll.cons a1 b1, by simp [a2, b2]⟩
theorem repk_reads (hb : ∃ o, X.base.get? sysModules = some o) (I : Inv X pins σ H s) : ∀ {ds : List (Key × D)} {vs : List (Key × V)} {ps : List (PyData × PyData)} {us : List Value}, Repk X.K η H ds vs → deepk ds = some ps → Vals (vs.map (·.2)) us → ∃ as, ReadsAll s.heap us (ps.map (·.2)) as ∧ sysModules ∉ as
  | _, _, _, _, .nil, h, r => by cases h; cases r; exact ⟨_, ReadsAll.nil, by simp⟩
  | _, _, _, _, .cons (d := d) (ds := ds) h1 h2, h, r => by
    cases r with
    | cons r1 r2 =>
      cases q1 : deep d with
      | none => simp [deepk, q1] at h
      | some a =>
        cases q2 : deepk ds with
        | none => simp [deepk, q1, q2] at h
        | some b =>
          simp [deepk, q1, q2] at h
          subst h
          obtain ⟨as, a1, a2⟩ := rep_reads hb I h1 q1 r1
          obtain ⟨bs, b1, b2⟩ := repk_reads hb I h2 q2 r2
          exact ⟨_, ReadsAll.cons a1 b1, by simp [a2, b2]⟩
end
end
end MP

/-! MP4: repr, comparisons, in, is, subscripts, slices. -/
namespace MP
open PySem L2

structure Ck (n : Nat) (X : Cx) : Prop where
  calm : X.calm = true
  gd : X.A.guards = some []
  rm : Room n X.A
  sm : ∃ o, X.base.get? sysModules = some o
  nd : X.N.Nodup
theorem Ck.units {n : Nat} {X : Cx} (c : Ck n X) {k : Nat} (h : k ≤ 190) : X.A.units + k < cLine := by
  have := c.rm.un
  omega

/-! ### repr -/
def reprD (d : D) : M D := match deep d with
  | some p => if p.showable = true ∧ p.depth ≤ 150 ∧ p.shown.length ≤ SL then pure (.str p.shown) else M.fail
  | none => M.fail
section
variable {X : Cx} {n : Nat}
theorem call_reprD (c : Ck n X) : Op1 τ X (fun v => call (.builtin "repr") [v]) reprD := by
  intro pins s σ H η S x v d I tk st rx rd
  unfold reprD
  cases q : deep d with
  | none => trivial
  | some p =>
    dsimp only
    by_cases hz : p.showable = true ∧ p.depth ≤ 150 ∧ p.shown.length ≤ SL
    · rw [if_pos hz]
      obtain ⟨h1, h2, h3⟩ := hz
      obtain ⟨as, hr, hs⟩ := rep_reads c.sm I rd q rx
      refine out_ok tk fun E => ?_
      cases hr with
      | none => exact PySem.P.repr_of_none ⟨.str _, H, (I.wish E).tok _, ⟨_, rfl⟩, by simp only [PyData.shown]; exact good_here st (.str _)⟩
      | bool b => exact PySem.P.repr_of_bool ⟨.str _, H, (I.wish E).tok _, ⟨_, rfl⟩, by simp only [PyData.shown]; exact good_here st (.str _)⟩
      | int i t => exact PySem.P.repr_of_int (by simpa [PyData.showable] using h1) ⟨.str _, H, (I.wish E).tok _, ⟨_, rfl⟩, by simp only [PyData.shown]; exact good_here st (.str _)⟩
      | str y t =>
        simp only [PyData.shown] at h3
        exact PySem.P.repr_of_str (hsz := sl_le h3) ⟨.str _, H, (I.wish E).tok _, ⟨_, rfl⟩, by simp only [PyData.shown]; exact good_here st (.str _)⟩
      | list a1 a2 a3 a4 =>
        refine repr_of_reads' (.list a1 a2 a3 a4) h1 (fun _ => hs) c.gd (c.units (by omega)) (fun _ _ e => e) (hsz := sl_le h3) ?_
        intro h' u' tk' hk
        exact ⟨.str _, H, (I.wish E).kept hk, ⟨_, rfl⟩, good_here st (.str _)⟩
      | tuple a1 a2 a3 a4 =>
        refine repr_of_reads' (.tuple a1 a2 a3 a4) h1 (fun _ => hs) c.gd (c.units (by omega)) (fun _ _ e => e) (hsz := sl_le h3) ?_
        intro h' u' tk' hk
        exact ⟨.str _, H, (I.wish E).kept hk, ⟨_, rfl⟩, good_here st (.str _)⟩
      | dict a1 a2 a3 a4 a5 =>
        refine repr_of_reads' (.dict a1 a2 a3 a4 a5) h1 (fun _ => hs) c.gd (c.units (by omega)) (fun _ _ e => e) (hsz := sl_le h3) ?_
        intro h' u' tk' hk
        exact ⟨.str _, H, (I.wish E).kept hk, ⟨_, rfl⟩, good_here st (.str _)⟩
    · rw [if_neg hz]; trivial
end

/-! ### == and != -/
def scalE : D → D → Option Bool
  | .non, .non => some true
  | .int i, .int j => some (decide (i = j))
  | .bl a, .bl b => some (decide (a = b))
  | .str x, .str y => some (decide (x = y))
  | .non, .int _ => some false
  | .non, .bl _ => some false
  | .non, .str _ => some false
  | .int _, .non => some false
  | .bl _, .non => some false
  | .str _, .non => some false
  | .int _, .str _ => some false
  | .str _, .int _ => some false
  | .bl _, .str _ => some false
  | .str _, .bl _ => some false
  | _, _ => none
def emptE (S : Sto) : D → D → Option Bool
  | .tup xs, .tup ys => if (xs.isEmpty || ys.isEmpty) = true then some (xs.isEmpty && ys.isEmpty) else none
  | d, e => match items S d, items S e with
    | some xs, some ys => if (xs.isEmpty || ys.isEmpty) = true then some (xs.isEmpty && ys.isEmpty) else none
    | _, _ => none
def dataE (d e : D) : Option Bool := match deep d, deep e with
  | some a, some b => if a.canLay0 = true ∧ b.canLay0 = true ∧ a.depth ≤ 150 then some (PyData.eqv a b) else none
  | _, _ => none
def eqE (S : Sto) (d e : D) : Option Bool := match scalE d e with
  | some b => some b
  | none => match emptE S d e with
    | some b => some b
    | none => dataE d e
def eqD (d e : D) : M D := fun S => match eqE S d e with
  | some b => .ok (.bl b) S
  | none => .bad
def neD (d e : D) : M D := fun S => match eqE S d e with
  | some b => .ok (.bl (!b)) S
  | none => .bad

section
variable {X : Cx} {n : Nat} {pins : List (Addr × Obj)} {s : Shared} {σ : L2.St} {H : Hp} {η : List Addr} {S : Sto} {x y : V} {v u : Value} {d e : D} {E : Value → Shared → Prop}
theorem scalE_ok {b : Bool} (rd : Rep X.K η H d x) (re : Rep X.K η H e y) (h : scalE d e = some b) : scal x y = true ∧ decide (x = y) = b := by
  cases rd <;> cases re <;> first
    | (cases h; done)
    | (simp only [scalE, Option.some.injEq] at h
       subst h
       refine ⟨rfl, ?_⟩
       simp)
theorem empty_reps {ds : List D} {vs : List V} (h : Reps X.K η H ds vs) : ds.isEmpty = vs.isEmpty := by
  cases h <;> rfl
/-- both ways of a comparison of two sequences of which one is empty -/
theorem emptE_ok {b : Bool} (I : Inv X pins σ H s) (c : Ck n X) (st : StoOk X.K η H S) (rx : RelV x v) (ry : RelV y u) (rd : Rep X.K η H d x) (re : Rep X.K η H e y) (h : emptE S d e = some b) :
    SeqAt.RcAt X.A s v u b ∧ SeqAt.RcNeAt X.A s v u (!b) := by
  have hu : X.A.units < cLine := c.units (k := 0) (by omega)
  have lists : ∀ {ds es : List D}, items S d = some ds → items S e = some es → (if (ds.isEmpty || es.isEmpty) = true then some (ds.isEmpty && es.isEmpty) else none) = some b → SeqAt.RcAt X.A s v u b ∧ SeqAt.RcNeAt X.A s v u (!b) := by
    intro ds es h1 h2 h3
    obtain ⟨a1, vs, rfl, k1, k2⟩ := items_at st rd h1
    obtain ⟨a2, ws, rfl, k3, k4⟩ := items_at st re h2
    cases rx
    cases ry
    obtain ⟨its, r1, p1, _⟩ := I.list (SqL.of (K := X.K) k1)
    obtain ⟨its2, r2, p2, _⟩ := I.list (SqL.of (K := X.K) k3)
    have l1 : ds.length = its.length := k2.length.trans r1.length
    have l2 : es.length = its2.length := k4.length.trans r2.length
    by_cases hz : its.toArray.size = its2.toArray.size
    · have e0 : its.length = its2.length := by simpa using hz
      have hb : its = [] := by
        split at h3
        · rename_i hc
          cases ds with
          | nil => exact List.eq_nil_of_length_eq_zero (by rw [← l1]; rfl)
          | cons _ _ =>
            cases es with
            | nil => exact List.eq_nil_of_length_eq_zero (by rw [e0, ← l2]; rfl)
            | cons _ _ => simp at hc
        · cases h3
      subst hb
      have e1 : its2 = [] := List.eq_nil_of_length_eq_zero (by rw [← e0]; rfl)
      subst e1
      have d1 : ds = [] := List.eq_nil_of_length_eq_zero l1
      have d2 : es = [] := List.eq_nil_of_length_eq_zero l2
      subst d1; subst d2
      have : b = true := by simpa using h3.symm
      subst this
      exact ⟨SeqAt.RcAt.lists (e := fun _ => true) p1.isList p2.isList hz hu (fun j h1 => absurd h1 (by simp)), SeqAt.RcNeAt.lists (e := fun _ => true) p1.isList p2.isList hz hu (fun j h1 => absurd h1 (by simp))⟩
    · have : b = false := by
        split at h3
        · cases ds with
          | nil =>
            cases es with
            | nil => exact absurd (by simp [← l1, ← l2]) hz
            | cons _ _ => simpa using h3.symm
          | cons _ _ => simpa using h3.symm
        · cases h3
      subst this
      have hne : (its.toArray.size != its2.toArray.size) = true := by simpa using hz
      exact ⟨SeqAt.RcAt.lists_lengths p1.isList p2.isList hne hu, SeqAt.RcNeAt.lists_lengths p1.isList p2.isList hne hu⟩
  cases rd with
  | @tup a1 vs ds h1 h2 =>
    cases re with
    | @tup a2 ws es h3 h4 =>
      have h : (if (ds.isEmpty || es.isEmpty) = true then some (ds.isEmpty && es.isEmpty) else none) = some b := h
      cases rx
      cases ry
      obtain ⟨its, r1, p1, _⟩ := I.tuple h1.sq
      obtain ⟨its2, r2, p2, _⟩ := I.tuple h3.sq
      have l1 : ds.length = its.length := h2.length.trans r1.length
      have l2 : es.length = its2.length := h4.length.trans r2.length
      have no : ∀ j, j < its.toArray.size → j < its2.toArray.size → False := by
        intro j g1 g2
        split at h
        · rename_i hc
          cases ds with
          | nil => simp [← l1] at g1
          | cons _ _ =>
            cases es with
            | nil => simp [← l2] at g2
            | cons _ _ => simp at hc
        · cases h
      have hb : b = ((List.range (min its.toArray.size its2.toArray.size)).all (fun _ => true) && its.toArray.size == its2.toArray.size) := by
        have ea : (List.range (min its.toArray.size its2.toArray.size)).all (fun _ => true) = true := by simp
        rw [ea, Bool.true_and]
        split at h
        · rename_i hc
          have h := Option.some.inj h
          rw [← h]
          have e1 : ds.isEmpty = decide (its.length = 0) := by rw [← l1]; cases ds <;> simp
          have e2 : es.isEmpty = decide (its2.length = 0) := by rw [← l2]; cases es <;> simp
          rw [e1, e2] at hc ⊢
          simp only [List.size_toArray]
          by_cases z1 : its.length = 0
          · by_cases z2 : its2.length = 0
            · simp [z1, z2]
            · have : ¬ its.length = its2.length := by omega
              simp [z1, z2]
              omega
          · have z2 : its2.length = 0 := by simpa [z1] using hc
            have : ¬ its.length = its2.length := by omega
            simp [z1, z2]
        · cases h
      refine ⟨?_, ?_⟩
      · rw [hb]
        exact SeqAt.RcAt.tuples (e := fun _ => true) p1 p2 hu (fun j g1 g2 => (no j g1 g2).elim)
      · rw [hb]
        exact SeqAt.RcNeAt.tuples (e := fun _ => true) p1 p2 hu (fun j g1 g2 => (no j g1 g2).elim)
    | _ => cases h
  | @lst a1 vs ds h1 h2 =>
    have h : (match items S (.lst ds), items S e with
      | some xs, some ys => if (xs.isEmpty || ys.isEmpty) = true then some (xs.isEmpty && ys.isEmpty) else none
      | _, _ => none) = some b := h
    cases q2 : items S e with
    | none => rw [q2] at h; cases h
    | some es =>
      rw [q2] at h
      exact lists rfl q2 h
  | @ref m a1 h1 =>
    have h : (match items S (.ref m), items S e with
      | some xs, some ys => if (xs.isEmpty || ys.isEmpty) = true then some (xs.isEmpty && ys.isEmpty) else none
      | _, _ => none) = some b := h
    cases q1 : items S (.ref m) with
    | none => rw [q1] at h; cases h
    | some ds =>
      cases q2 : items S e with
      | none => rw [q1, q2] at h; cases h
      | some es =>
        rw [q1, q2] at h
        exact lists q1 q2 h
  | _ => cases h
theorem op_eqDD (c : Ck n X) : Op2 τ X (compareOp .Eq) eqD := by
  intro pins s σ H η S x y v u d e I tk st rx ry rd re
  unfold eqD
  cases q : eqE S d e with
  | none => trivial
  | some b =>
    refine out_ok tk fun E => ?_
    unfold eqE at q
    cases q1 : scalE d e with
    | some b' =>
      rw [q1] at q
      cases q
      obtain ⟨h1, h2⟩ := scalE_ok rd re q1
      refine op_eq (X := X.wish E) pins s σ H _ _ v u _ (I.wish E) rx ry ⟨h1, ?_⟩
      rw [h2]
      exact good_here st (.bl _)
    | none =>
      rw [q1] at q
      cases q2 : emptE S d e with
      | some b' =>
        simp only [q2] at q
        cases q
        exact (emptE_ok I c st rx ry rd re q2).1 X.prog X.w E _ ⟨.bl _, H, I.wish E, rfl, good_here st (.bl _)⟩
      | none =>
        simp only [q2] at q
        unfold dataE at q
        cases q3 : deep d with
        | none => rw [q3] at q; cases q
        | some a =>
          cases q4 : deep e with
          | none => rw [q3, q4] at q; cases q
          | some b' =>
            rw [q3, q4] at q
            dsimp only at q
            split at q
            · rename_i hz
              cases q
              obtain ⟨as, r1, _⟩ := rep_reads c.sm I rd q3 rx
              obtain ⟨bs, r2, _⟩ := rep_reads c.sm I re q4 ry
              exact SeqAt.compareEq_reads r1 r2 hz.1 hz.2.1 (c.units (Nat.le_trans (Nat.min_le_left _ _) (by omega))) ⟨.bl _, H, I.wish E, rfl, good_here st (.bl _)⟩
            · cases q
theorem op_neDD (c : Ck n X) : Op2 τ X (compareOp .NotEq) neD := by
  intro pins s σ H η S x y v u d e I tk st rx ry rd re
  unfold neD
  cases q : eqE S d e with
  | none => trivial
  | some b =>
    refine out_ok tk fun E => ?_
    unfold eqE at q
    cases q1 : scalE d e with
    | some b' =>
      rw [q1] at q
      cases q
      obtain ⟨h1, h2⟩ := scalE_ok rd re q1
      refine op_ne (X := X.wish E) pins s σ H _ _ v u _ (I.wish E) rx ry ⟨h1, ?_⟩
      rw [h2]
      exact good_here st (.bl _)
    | none =>
      rw [q1] at q
      cases q2 : emptE S d e with
      | some b' =>
        simp only [q2] at q
        cases q
        exact (emptE_ok I c st rx ry rd re q2).2 X.prog X.w E _ ⟨.bl _, H, I.wish E, rfl, good_here st (.bl _)⟩
      | none =>
        simp only [q2] at q
        unfold dataE at q
        cases q3 : deep d with
        | none => rw [q3] at q; cases q
        | some a =>
          cases q4 : deep e with
          | none => rw [q3, q4] at q; cases q
          | some b' =>
            rw [q3, q4] at q
            dsimp only at q
            split at q
            · rename_i hz
              cases q
              obtain ⟨as, r1, _⟩ := rep_reads c.sm I rd q3 rx
              obtain ⟨bs, r2, _⟩ := rep_reads c.sm I re q4 ry
              exact SeqAt.compareNe_reads r1 r2 hz.1 hz.2.1 (c.units (Nat.le_trans (Nat.min_le_left _ _) (by omega))) ⟨.bl _, H, I.wish E, rfl, good_here st (.bl _)⟩
            · cases q
end
end MP

/-! MP5: order, in, is, subscripts, slices, built-in functions. -/
namespace MP
open PySem L2

/-! ### order -/
def ltS (x y : Str) : Bool := decide (x.cps.toList < y.cps.toList)
def ltD : D → D → M D
  | .int i, .int j => pure (.bl (decide (i < j)))
  | .str x, .str y => pure (.bl (ltS x y))
  | _, _ => M.fail
def leD : D → D → M D
  | .int i, .int j => pure (.bl (decide (i ≤ j)))
  | .str x, .str y => pure (.bl (!ltS y x))
  | _, _ => M.fail
def gtD : D → D → M D
  | .int i, .int j => pure (.bl (decide (j < i)))
  | .str x, .str y => pure (.bl (ltS y x))
  | _, _ => M.fail
def geD : D → D → M D
  | .int i, .int j => pure (.bl (decide (j ≤ i)))
  | .str x, .str y => pure (.bl (!ltS x y))
  | _, _ => M.fail
section
variable {X : Cx}
theorem op_ltDD : Op2 τ X (compareOp .Lt) ltD := by
  intro pins s σ H η S x y v u d e I tk st rx ry rd re
  cases rd with
  | int i =>
    cases re with
    | int j => exact out_ok tk fun E => op_lt (X := X.wish E) pins s σ H _ _ v u _ (I.wish E) rx ry ⟨i, j, rfl, rfl, good_here st (.bl _)⟩
    | _ => trivial
  | str i =>
    cases re with
    | str j => exact out_ok tk fun E => op_lt_str (X := X.wish E) pins s σ H _ _ v u _ (I.wish E) rx ry ⟨i, j, rfl, rfl, good_here st (.bl _)⟩
    | _ => trivial
  | _ => cases re <;> trivial
theorem op_leDD : Op2 τ X (compareOp .LtE) leD := by
  intro pins s σ H η S x y v u d e I tk st rx ry rd re
  cases rd with
  | int i =>
    cases re with
    | int j => exact out_ok tk fun E => op_le (X := X.wish E) pins s σ H _ _ v u _ (I.wish E) rx ry ⟨i, j, rfl, rfl, good_here st (.bl _)⟩
    | _ => trivial
  | str i =>
    cases re with
    | str j => exact out_ok tk fun E => op_le_str (X := X.wish E) pins s σ H _ _ v u _ (I.wish E) rx ry ⟨i, j, rfl, rfl, good_here st (.bl _)⟩
    | _ => trivial
  | _ => cases re <;> trivial
theorem op_gtDD : Op2 τ X (compareOp .Gt) gtD := by
  intro pins s σ H η S x y v u d e I tk st rx ry rd re
  cases rd with
  | int i =>
    cases re with
    | int j => exact out_ok tk fun E => op_gt (X := X.wish E) pins s σ H _ _ v u _ (I.wish E) rx ry ⟨i, j, rfl, rfl, good_here st (.bl _)⟩
    | _ => trivial
  | str i =>
    cases re with
    | str j => exact out_ok tk fun E => op_gt_str (X := X.wish E) pins s σ H _ _ v u _ (I.wish E) rx ry ⟨i, j, rfl, rfl, good_here st (.bl _)⟩
    | _ => trivial
  | _ => cases re <;> trivial
theorem op_geDD : Op2 τ X (compareOp .GtE) geD := by
  intro pins s σ H η S x y v u d e I tk st rx ry rd re
  cases rd with
  | int i =>
    cases re with
    | int j => exact out_ok tk fun E => op_ge (X := X.wish E) pins s σ H _ _ v u _ (I.wish E) rx ry ⟨i, j, rfl, rfl, good_here st (.bl _)⟩
    | _ => trivial
  | str i =>
    cases re with
    | str j => exact out_ok tk fun E => op_ge_str (X := X.wish E) pins s σ H _ _ v u _ (I.wish E) rx ry ⟨i, j, rfl, rfl, good_here st (.bl _)⟩
    | _ => trivial
  | _ => cases re <;> trivial
end

/-! ### in, not in -/
def flatD : D → Bool
  | .non => true
  | .bl _ => true
  | .int _ => true
  | .str _ => true
  | _ => false
def eqF : D → D → Bool
  | .non, .non => true
  | .bl a, .bl b => a == b
  | .bl a, .int b => (if a then 1 else 0) == b
  | .int a, .bl b => a == (if b then 1 else 0)
  | .int a, .int b => a == b
  | .str a, .str b => a == b
  | _, _ => false
def sign? (x : Str) : Option Nat := match x.cps.toList with
  | [c] => some c
  | _ => none
def seqIn (d : D) (xs : List D) : Option Bool := if flatD d = true ∧ xs.all flatD = true then some (xs.any fun y => eqF y d) else none
def inE (S : Sto) (d e : D) : Option Bool := match e with
  | .str z => match d with
    | .str x => match sign? x with
      | some c => some (decide (c ∈ z.cps.toList))
      | none => none
    | _ => none
  | .tup xs => seqIn d xs
  | e => match items S e with
    | some xs => seqIn d xs
    | none => none
def inD (d e : D) : M D := fun S => match inE S d e with
  | some b => .ok (.bl b) S
  | none => .bad
def notInD (d e : D) : M D := fun S => match inE S d e with
  | some b => .ok (.bl (!b)) S
  | none => .bad
section
variable {X : Cx} {η : List Addr} {H : Hp}
theorem flat_ok {d : D} {x : V} (r : Rep X.K η H d x) (h : flatD d = true) : flatV x = true := by
  cases r <;> first | rfl | cases h
theorem flats_ok : ∀ {ds : List D} {vs : List V}, Reps X.K η H ds vs → ds.all flatD = true → vs.all flatV = true
  | _, _, .nil, _ => rfl
  | _, _, .cons r t, h => by
    rw [List.all_cons, Bool.and_eq_true] at h
    rw [List.all_cons, Bool.and_eq_true]
    exact ⟨flat_ok r h.1, flats_ok t h.2⟩
theorem eqF_ok {d e : D} {x y : V} (r : Rep X.K η H d x) (q : Rep X.K η H e y) (h1 : flatD d = true) (h2 : flatD e = true) : eqV x y = eqF d e := by
  cases r <;> cases q <;> first | rfl | cases h1 | cases h2
theorem inV_ok {d : D} {x : V} (r : Rep X.K η H d x) (h1 : flatD d = true) : ∀ {ds : List D} {vs : List V}, Reps X.K η H ds vs → ds.all flatD = true → inV x vs = ds.any fun y => eqF y d
  | _, _, .nil, _ => rfl
  | _, _, .cons q t, h => by
    rw [List.all_cons, Bool.and_eq_true] at h
    have ih := inV_ok r h1 t h.2
    unfold inV at ih ⊢
    rw [List.any_cons, List.any_cons, ih, eqF_ok q r h.1 h1]
theorem sign_ok {x : Str} {c : Nat} (h : sign? x = some c) : x = ⟨#[c]⟩ := by
  obtain ⟨⟨l⟩⟩ := x
  unfold sign? at h
  match l, h with
  | [c'], h => cases h; rfl
theorem inE_ok {pins : List (Addr × Obj)} {s : Shared} {σ : L2.St} {S : Sto} {x y : V} {v u : Value} {d e : D} {b : Bool} {E : Value → Shared → Prop} (I : Inv X pins σ H s) (st : StoOk X.K η H S) (rx : RelV x v) (ry : RelV y u) (rd : Rep X.K η H d x) (re : Rep X.K η H e y)
    (h : inE S d e = some b) : wpAny (model X.prog X.w) X.A (compareOp .In v u) (EP (X.wish E) pins σ (Good X.K η H S (.bl b))) E s ∧ wpAny (model X.prog X.w) X.A (compareOp .NotIn v u) (EP (X.wish E) pins σ (Good X.K η H S (.bl (!b)))) E s := by
  have seq : ∀ {p : Addr} {ds : List D} {vs : List V}, y = .ref p → (SqL X.K H p vs ∨ SqT X.K H p vs) → Reps X.K η H ds vs → seqIn d ds = some b →
      wpAny (model X.prog X.w) X.A (compareOp .In v u) (EP (X.wish E) pins σ (Good X.K η H S (.bl b))) E s ∧ wpAny (model X.prog X.w) X.A (compareOp .NotIn v u) (EP (X.wish E) pins σ (Good X.K η H S (.bl (!b)))) E s := by
    intro p ds vs ey hs hr hq
    unfold seqIn at hq
    split at hq
    · rename_i hz
      have hq := Option.some.inj hq
      have e1 := inV_ok rd hz.1 hr hz.2
      rw [hq] at e1
      refine ⟨op_in_seq (X := X.wish E) pins s σ H x y v u _ (I.wish E) rx ry ⟨p, vs, ey, hs, flat_ok rd hz.1, flats_ok hr hz.2, ?_⟩, op_notIn_seq (X := X.wish E) pins s σ H x y v u _ (I.wish E) rx ry ⟨p, vs, ey, hs, flat_ok rd hz.1, flats_ok hr hz.2, ?_⟩⟩
      · rw [e1]; exact good_here st (.bl _)
      · rw [e1]; exact good_here st (.bl _)
    · cases hq
  cases re with
  | str z =>
    cases rd with
    | str a =>
      have h : (match sign? a with | some c => some (decide (c ∈ z.cps.toList)) | none => none) = some b := h
      cases q : sign? a with
      | none => rw [q] at h; cases h
      | some c =>
        rw [q] at h
        have hb := Option.some.inj h
        have e1 := sign_ok q
        subst e1
        subst hb
        exact ⟨op_in_sign (X := X.wish E) pins s σ H _ _ v u _ (I.wish E) rx ry ⟨c, z, rfl, rfl, good_here st (.bl _)⟩, op_notIn_sign (X := X.wish E) pins s σ H _ _ v u _ (I.wish E) rx ry ⟨c, z, rfl, rfl, good_here st (.bl _)⟩⟩
    | _ => cases h
  | tup h1 h2 => exact seq rfl (.inr h1.sq) h2 h
  | lst h1 h2 => exact seq rfl (.inl h1.sq) h2 h
  | @ref m a h1 =>
    have h : (match items S (.ref m) with | some xs => seqIn d xs | none => none) = some b := h
    cases q : items S (.ref m) with
    | none => rw [q] at h; cases h
    | some xs =>
      rw [q] at h
      obtain ⟨a', vs, e1, h3, h4⟩ := items_at st (.ref h1) q
      exact seq e1 (.inl (SqL.of h3)) h4 h
  | _ => cases h
theorem op_inDD : Op2 τ X (compareOp .In) inD := by
  intro pins s σ H η S x y v u d e I tk st rx ry rd re
  unfold inD
  cases q : inE S d e with
  | none => trivial
  | some b => exact out_ok tk fun E => (inE_ok I st rx ry rd re q).1
theorem op_notInDD : Op2 τ X (compareOp .NotIn) notInD := by
  intro pins s σ H η S x y v u d e I tk st rx ry rd re
  unfold notInD
  cases q : inE S d e with
  | none => trivial
  | some b => exact out_ok tk fun E => (inE_ok I st rx ry rd re q).2
end

/-! ### is, is not -/
def isE : D → D → Option Bool
  | .non, .non => some true
  | .bl a, .bl b => some (decide (a = b))
  | .bl _, .non => some false
  | .int _, .non => some false
  | .str _, .non => some false
  | .tup _, .non => some false
  | .lst _, .non => some false
  | .frz _, .non => some false
  | .dic _, .non => some false
  | .ref _, .non => some false
  | _, _ => none
def isD (d e : D) : M D := M.of ((isE d e).map .bl)
def isNotD (d e : D) : M D := M.of ((isE d e).map fun b => .bl (!b))
section
variable {X : Cx}
theorem op_isDD : Op2 τ X (compareOp .Is) isD := by
  intro pins s σ H η S x y v u d e I tk st rx ry rd re
  have nn : ∀ b, y = .non → decide (x = .non) = b → Out τ X pins η H (relV X.K σ) (.ok (.bl b) S) (sem X (compareOp .Is v u)) s := fun b e1 e2 =>
    out_ok tk fun E => op_isN (X := X.wish E) pins s σ H x y v u _ (I.wish E) rx ry ⟨e1, by rw [e2]; exact good_here st (.bl _)⟩
  cases re with
  | non => cases rd <;> exact nn _ rfl (by simp)
  | bl b =>
    cases rd with
    | bl a => exact out_ok tk fun E => op_isBl (X := X.wish E) pins s σ H _ _ v u _ (I.wish E) rx ry ⟨a, b, rfl, rfl, good_here st (.bl _)⟩
    | _ => trivial
  | _ => cases rd <;> trivial
theorem op_isNotDD : Op2 τ X (compareOp .IsNot) isNotD := by
  intro pins s σ H η S x y v u d e I tk st rx ry rd re
  have nn : ∀ b, y = .non → decide (x = .non) = b → Out τ X pins η H (relV X.K σ) (.ok (.bl (!b)) S) (sem X (compareOp .IsNot v u)) s := fun b e1 e2 =>
    out_ok tk fun E => op_notN (X := X.wish E) pins s σ H x y v u _ (I.wish E) rx ry ⟨e1, by rw [e2]; exact good_here st (.bl _)⟩
  cases re with
  | non => cases rd <;> exact nn _ rfl (by simp)
  | bl b =>
    cases rd with
    | bl a => exact out_ok tk fun E => op_notBl (X := X.wish E) pins s σ H _ _ v u _ (I.wish E) rx ry ⟨a, b, rfl, rfl, good_here st (.bl _)⟩
    | _ => trivial
  | _ => cases rd <;> trivial
end

/-! ### subscripts -/
def ixE (S : Sto) (d : D) (i : Int) : Option D := match d with
  | .tup xs => atI xs i
  | .str z => if z.length ≤ SL then (atI z.cps.toList i).map fun c => .str ⟨#[c]⟩ else none
  | d => (itemsR S d).bind fun xs => atI xs i
def ixD : D → D → M D
  | d, .int i => fun S => match ixE S d i with
    | some e => .ok e S
    | none => .bad
  | _, _ => M.fail
section
variable {X : Cx} {η : List Addr} {H : Hp}
theorem at_ok {K : PySem.W.Frag} {ds : List D} {vs : List V} {i : Int} {d : D} (h : Reps K η H ds vs) (e : atI ds i = some d) : ∃ v, atI vs i = some v ∧ Rep K η H d v := by
  unfold atI at e ⊢
  rw [← h.length]
  cases q : ixN ds.length i with
  | none => rw [q] at e; cases e
  | some j =>
    rw [q] at e
    exact h.get e
theorem op_ixD {value slice : Expr} (hs : ∀ o i, subscripted slice false o i = operate [o, i] (getItem o i)) : Op2 τ X (PyProof.Rows.subscriptTail value slice) ixD := by
  intro pins s σ H η S x y v u d e I tk st rx ry rd re
  cases re with
  | int i =>
    show Out τ X pins η H (relV X.K σ) (match ixE S d i with | some e => .ok e S | none => .bad) _ s
    cases q : ixE S d i with
    | none => trivial
    | some e' =>
      refine out_ok tk fun E => ?_
      have seq : ∀ {p : Addr} {ds : List D} {vs : List V}, x = .ref p → SqL X.K H p vs → Reps X.K η H ds vs → atI ds i = some e' → wpAny (model X.prog X.w) X.A (PyProof.Rows.subscriptTail value slice v u) (EP (X.wish E) pins σ (Good X.K η H S e')) E s := by
        intro p ds vs ex hl hr ha
        obtain ⟨w, h1, h2⟩ := at_ok hr ha
        exact ix_list (X := X.wish E) value slice pins s σ H x _ v u _ (I.wish E) rx ry ⟨p, vs, i, w, ex, rfl, hl, h1, good_here st h2⟩ (hs _ _)
      cases rd with
      | tup h1 h2 =>
        obtain ⟨w, h3, h4⟩ := at_ok h2 q
        exact ix_tup (X := X.wish E) value slice pins s σ H _ _ v u _ (I.wish E) rx ry ⟨_, _, i, w, rfl, rfl, h1.sq, h3, good_here st h4⟩ (hs _ _)
      | str z =>
        have q : (if z.length ≤ SL then (atI z.cps.toList i).map fun c => D.str ⟨#[c]⟩ else none) = some e' := q
        split at q
        · rename_i hz
          cases qa : atI z.cps.toList i with
          | none => rw [qa] at q; cases q
          | some c =>
            rw [qa] at q
            cases q
            exact ix_str (X := X.wish E) value slice pins s σ H _ _ v u _ (I.wish E) rx ry ⟨z, i, c, rfl, rfl, sl_le hz, qa, good_here st (.str _)⟩ (hs _ _)
        · cases q
      | lst h1 h2 => exact seq rfl h1.sq h2 q
      | frz h1 h2 => exact seq rfl h1.sq h2 q
      | @ref m a h1 =>
        have q : (itemsR S (.ref m)).bind (fun xs => atI xs i) = some e' := q
        cases qa : itemsR S (.ref m) with
        | none => rw [qa] at q; cases q
        | some xs =>
          rw [qa] at q
          obtain ⟨a', vs, e1, h3, h4⟩ := itemsR_at st (.ref h1) qa
          exact seq e1 h3 h4 q
      | _ => cases q
  | _ => trivial
end

/-! ### slices -/
def cutL {α : Type} (xs : List α) (lo hi : Option Int) : List α := (xs.drop (HT.sIx xs.length 0 lo)).take (HT.sIx xs.length xs.length hi - HT.sIx xs.length 0 lo)
def sliceE (m : Bool) (d : D) (lo hi : Option Int) : M D := match d with
  | .tup xs => pure (.tup (cutL xs lo hi))
  | .str z => if z.length ≤ SL then pure (.str (cutS z lo hi)) else M.fail
  | d => fun S => match itemsR S d with
    | some xs => newL m (cutL xs lo hi) S
    | none => .bad
theorem cut_ok {K : PySem.W.Frag} {η : List Addr} {H : Hp} {ds : List D} {vs : List V} (h : Reps K η H ds vs) (lo hi : Option Int) : Reps K η H (cutL ds lo hi) (cutV vs lo hi) := by
  unfold cutL cutV
  rw [← h.length]
  exact (h.drop _).take _
section
variable {X : Cx}
theorem sl_okD {m : Bool} {pins : List (Addr × Obj)} {s : Shared} {σ : L2.St} {H : Hp} {η : List Addr} {S S' : Sto} {x : V} {v vl vu : Value} {lo hi : Option Int} {sl : Addr} {d d' : D} {E : Value → Shared → Prop} (I : Inv X pins σ H s) (st : StoOk X.K η H S) (rx : RelV x v) (rd : Rep X.K η H d x)
    (hs : s.heap.IsSliceOf sl vl vu .none) (pl : IsPart vl lo) (pu : IsPart vu hi) (h : sliceE m d lo hi S = .ok d' S') :
    ∃ T id, typeLookup (.type T) "__getitem__" = pure (some (.builtin id)) ∧ s.TypeIs v T ∧ wpAny (model X.prog X.w) X.A (getItem v (.ref sl)) (EP (X.wish E) pins σ (Good X.K η H S' d')) E s := by
  have seq : ∀ {p : Addr} {ds : List D} {vs : List V}, x = .ref p → SqL X.K H p vs → Reps X.K η H ds vs → newL m (cutL ds lo hi) S = .ok d' S' →
      ∃ T id, typeLookup (.type T) "__getitem__" = pure (some (.builtin id)) ∧ s.TypeIs v T ∧ wpAny (model X.prog X.w) X.A (getItem v (.ref sl)) (EP (X.wish E) pins σ (Good X.K η H S' d')) E s := by
    intro p ds vs ex hl hr hn
    exact sl_list (X := X.wish E) pins s σ H x v vl vu lo hi sl _ (I.wish E) rx hs pl pu ⟨p, vs, ex, hl, fun q hq => good_newL st (cut_ok hr lo hi) hq hn⟩
  cases rd with
  | @tup a vs ds h1 h2 =>
    cases h
    refine sl_tupA (X := X.wish E) pins s σ H _ v vl vu lo hi sl _ (I.wish E) rx hs pl pu ⟨a, vs, rfl, h1.sq, fun hw => ?_, fun _ q hq => good_newT st (cut_ok h2 lo hi) hq⟩
    have e : cutL ds lo hi = ds := by
      unfold cutL
      rw [h2.length, hw.1, hw.2, List.drop_zero, Nat.sub_zero, ← h2.length, List.take_length]
    rw [e]
    exact good_here st (.tup h1 h2)
  | str z =>
    have h : (if z.length ≤ SL then pure (D.str (cutS z lo hi)) else M.fail : M D) S = .ok d' S' := h
    split at h
    · rename_i hz
      cases h
      exact sl_str (X := X.wish E) pins s σ H _ v vl vu lo hi sl _ (I.wish E) rx hs pl pu ⟨z, rfl, sl_le hz, good_here st (.str _)⟩
    · cases h
  | lst h1 h2 => exact seq rfl h1.sq h2 h
  | frz h1 h2 => exact seq rfl h1.sq h2 h
  | @ref n a h1 =>
    have h : (match itemsR S (.ref n) with | some xs => newL m (cutL xs lo hi) S | none => .bad) = .ok d' S' := h
    cases qa : itemsR S (.ref n) with
    | none => rw [qa] at h; cases h
    | some xs =>
      rw [qa] at h
      obtain ⟨a', vs, e1, h3, h4⟩ := itemsR_at st (.ref h1) qa
      exact seq e1 h3 h4 h
  | _ => cases h
end
end MP

/-! MP6: built-in functions and methods, truth, stores. -/
namespace MP
open PySem L2

section
variable {K : PySem.W.Frag} {η : List Addr} {H : Hp}
/-- one value, two -/
theorem one_of {ds : List D} {xs : List V} {d : D} (h : Reps K η H [d] xs) : ∃ x, xs = [x] ∧ Rep K η H d x := by
  cases h with
  | cons r t => cases t; exact ⟨_, rfl, r⟩
theorem two_of {xs : List V} {d e : D} (h : Reps K η H [d, e] xs) : ∃ x y, xs = [x, y] ∧ Rep K η H d x ∧ Rep K η H e y := by
  cases h with
  | cons r t =>
    cases t with
    | cons r2 t2 => cases t2; exact ⟨_, _, rfl, r, r2⟩
theorem nil_of {xs : List V} (h : Reps K η H [] xs) : xs = [] := by cases h; rfl
def ints? : List D → Option (List Int)
  | [] => some []
  | .int i :: r => (ints? r).map (i :: ·)
  | _ => none
def bools? : List D → Option (List Bool)
  | [] => some []
  | .bl i :: r => (bools? r).map (i :: ·)
  | _ => none
def strs? : List D → Option (List Str)
  | [] => some []
  | .str i :: r => (strs? r).map (i :: ·)
  | _ => none
theorem ints_ok : ∀ {ds : List D} {vs : List V} {ns : List Int}, Reps K η H ds vs → ints? ds = some ns → vs = ns.map V.int
  | _, _, _, .nil, h => by cases h; rfl
  | _, _, ns, .cons (ds := r) q t, h => by
    cases q <;> first | (cases h; done) | skip
    rename_i i
    cases e : ints? r with
    | none => simp [ints?, e] at h
    | some ms =>
      simp [ints?, e] at h
      subst h
      rw [ints_ok t e]
      rfl
theorem bools_ok : ∀ {ds : List D} {vs : List V} {ns : List Bool}, Reps K η H ds vs → bools? ds = some ns → vs = ns.map V.bl
  | _, _, _, .nil, h => by cases h; rfl
  | _, _, ns, .cons (ds := r) q t, h => by
    cases q <;> first | (cases h; done) | skip
    rename_i i
    cases e : bools? r with
    | none => simp [bools?, e] at h
    | some ms =>
      simp [bools?, e] at h
      subst h
      rw [bools_ok t e]
      rfl
theorem strs_ok : ∀ {ds : List D} {vs : List V} {ns : List Str}, Reps K η H ds vs → strs? ds = some ns → vs = ns.map V.str
  | _, _, _, .nil, h => by cases h; rfl
  | _, _, ns, .cons (ds := r) q t, h => by
    cases q <;> first | (cases h; done) | skip
    rename_i i
    cases e : strs? r with
    | none => simp [strs?, e] at h
    | some ms =>
      simp [strs?, e] at h
      subst h
      rw [strs_ok t e]
      rfl
@[simp] theorem ints_map : ∀ ns : List Int, ints? (ns.map D.int) = some ns
  | [] => rfl
  | n :: r => by simp [ints?, ints_map r]
@[simp] theorem bools_map : ∀ ns : List Bool, bools? (ns.map D.bl) = some ns
  | [] => rfl
  | n :: r => by simp [bools?, bools_map r]
@[simp] theorem strs_map : ∀ ns : List Str, strs? (ns.map D.str) = some ns
  | [] => rfl
  | n :: r => by simp [strs?, strs_map r]
end

/-! ### functions -/
def lenE (S : Sto) : D → Option Nat
  | .tup xs => some xs.length
  | .str z => if z.length ≤ SL then some z.length else none
  | d => (itemsR S d).map List.length
def lenD : List D → M D
  | [d] => fun S => match lenE S d with
    | some n => .ok (.int n) S
    | none => .bad
  | _ => M.fail
def listD (m : Bool) : List D → M D
  | [.tup xs] => newL m xs
  | [d] => fun S => match itemsR S d with
    | some xs => newL m xs S
    | none => .bad
  | _ => M.fail
def tupleD : List D → M D
  | [.tup xs] => pure (.tup xs)
  | [d] => fun S => match itemsR S d with
    | some xs => .ok (.tup xs) S
    | none => .bad
  | _ => M.fail
def sumD : List D → M D
  | [d] => fun S => match (itemsR S d).bind ints? with
    | some ns => .ok (.int ns.sum) S
    | none => .bad
  | _ => M.fail
def allD : List D → M D
  | [d] => fun S => match (itemsR S d).bind bools? with
    | some bs => .ok (.bl (bs.all id)) S
    | none => .bad
  | _ => M.fail
def anyD : List D → M D
  | [d] => fun S => match (itemsR S d).bind bools? with
    | some bs => .ok (.bl (bs.any id)) S
    | none => .bad
  | _ => M.fail
def minD : List D → M D
  | [.int i, .int j] => pure (.int (if j < i then j else i))
  | _ => M.fail
def intD : List D → M D
  | [.int i] => pure (.int i)
  | [.bl b] => pure (.int (if b then 1 else 0))
  | _ => M.fail
def strD : List D → M D
  | [.int i] => if i.natAbs.log2 < 1920 then pure (.str (toString i)) else M.fail
  | [.str x] => pure (.str x)
  | [.bl b] => pure (.str (if b = true then "True" else "False"))
  | _ => M.fail
section
variable {X : Cx} {n : Nat}
/-- from a list's items -/
theorem fromItems {pins : List (Addr × Obj)} {s : Shared} {σ : L2.St} {H : Hp} {η : List Addr} {S : Sto} {d : D} {ds : List D} {xs : List V} (st : StoOk X.K η H S) (rd : Reps X.K η H [d] xs) (q : itemsR S d = some ds) : ∃ p vs, xs = [.ref p] ∧ SqL X.K H p vs ∧ Reps X.K η H ds vs := by
  obtain ⟨x, e1, r⟩ := one_of (ds := []) rd
  obtain ⟨a, vs, e2, h1, h2⟩ := itemsR_at st r q
  exact ⟨a, vs, by rw [e1, e2], h1, h2⟩
theorem call_lenDD : OpL τ X (fun us => call (.builtin "len") us) lenD := by
  intro pins s σ H η S xs us ds I tk st rv rd
  match ds, rd with
  | [], _ => trivial
  | _ :: _ :: _, _ => trivial
  | [d], rd =>
    show Out τ X pins η H (relV X.K σ) (match lenE S d with | some n => .ok (.int n) S | none => .bad) _ s
    cases q : lenE S d with
    | none => trivial
    | some k =>
      refine out_ok tk fun E => ?_
      obtain ⟨x, e1, r⟩ := one_of (ds := []) rd
      subst e1
      have seq : ∀ {ds : List D}, itemsR S d = some ds → ds.length = k → wpAny (model X.prog X.w) X.A (call (.builtin "len") us) (EP (X.wish E) pins σ (Good X.K η H S (.int k))) E s := by
        intro ds h1 h2
        obtain ⟨a, vs, e2, h3, h4⟩ := itemsR_at st r h1
        refine call_len_seq (X := X.wish E) pins s σ H _ us _ (I.wish E) rv ⟨a, vs, by rw [e2], .inl h3, ?_⟩
        rw [← h4.length, h2]
        exact good_here st (.int _)
      cases r with
      | @tup a vs es h1 h2 =>
        cases q
        refine call_len_seq (X := X.wish E) pins s σ H _ us _ (I.wish E) rv ⟨a, vs, rfl, .inr h1.sq, ?_⟩
        rw [← h2.length]
        exact good_here st (.int _)
      | str z =>
        have q : (if z.length ≤ SL then some z.length else none) = some k := q
        split at q
        · rename_i hz
          cases q
          exact call_len_str (X := X.wish E) pins s σ H _ us _ (I.wish E) rv ⟨z, rfl, sl_le hz, good_here st (.int _)⟩
        · cases q
      | lst h1 h2 => cases q; exact seq rfl rfl
      | frz h1 h2 => cases q; exact seq rfl rfl
      | @ref m a h1 =>
        have q : (itemsR S (.ref m)).map List.length = some k := q
        cases qa : itemsR S (.ref m) with
        | none => rw [qa] at q; cases q
        | some es =>
          rw [qa] at q
          exact seq qa (Option.some.inj q)
      | _ => cases q
theorem call_listDD (m : Bool) : OpL τ X (fun us => call (.type "list") us) (listD m) := by
  intro pins s σ H η S xs us ds I tk st rv rd
  have gen : ∀ (d : D), Reps X.K η H [d] xs → Out τ X pins η H (relV X.K σ) (match itemsR S d with | some es => newL m es S | none => .bad) (sem X (call (.type "list") us)) s := by
    intro d rd
    cases q : itemsR S d with
    | none => trivial
    | some es =>
      dsimp only
      cases q2 : newL m es S with
      | bad => trivial
      | ok d' S' =>
        obtain ⟨p, vs, e1, h1, h2⟩ := fromItems (pins := pins) (s := s) (σ := σ) st rd q
        exact out_ok tk fun E => call_list_of (X := X.wish E) pins s σ H _ us _ (I.wish E) rv ⟨p, vs, e1, .inl h1, fun l hl => good_newL st h2 hl q2⟩
  match ds, rd with
  | [], _ => trivial
  | a :: _ :: _, _ => cases a <;> trivial
  | [.tup es], rd =>
    show Out τ X pins η H (relV X.K σ) (newL m es S) _ s
    cases q2 : newL m es S with
    | bad => trivial
    | ok d' S' =>
      obtain ⟨x, e1, r⟩ := one_of (ds := []) rd
      cases r with
      | @tup a vs _ h1 h2 => exact out_ok tk fun E => call_list_of (X := X.wish E) pins s σ H _ us _ (I.wish E) rv ⟨a, vs, e1, .inr h1.sq, fun l hl => good_newL st h2 hl q2⟩
  | [.non], rd => exact gen _ rd
  | [.bl _], rd => exact gen _ rd
  | [.int _], rd => exact gen _ rd
  | [.str _], rd => exact gen _ rd
  | [.lst _], rd => exact gen _ rd
  | [.frz _], rd => exact gen _ rd
  | [.dic _], rd => exact gen _ rd
  | [.ref _], rd => exact gen _ rd
theorem call_tupleDD : OpL τ X (fun us => call (.type "tuple") us) tupleD := by
  intro pins s σ H η S xs us ds I tk st rv rd
  have gen : ∀ (d : D), Reps X.K η H [d] xs → Out τ X pins η H (relV X.K σ) (match itemsR S d with | some es => .ok (.tup es) S | none => .bad) (sem X (call (.type "tuple") us)) s := by
    intro d rd
    cases q : itemsR S d with
    | none => trivial
    | some es =>
      obtain ⟨p, vs, e1, h1, h2⟩ := fromItems (pins := pins) (s := s) (σ := σ) st rd q
      exact out_ok tk fun E => call_tuple_of (X := X.wish E) pins s σ H _ us _ (I.wish E) rv ⟨p, vs, e1, .inl ⟨h1, fun l hl => good_newT st h2 hl⟩⟩
  match ds, rd with
  | [], _ => trivial
  | a :: _ :: _, _ => cases a <;> trivial
  | [.tup es], rd =>
    obtain ⟨x, e1, r⟩ := one_of (ds := []) rd
    cases r with
    | @tup a vs _ h1 h2 => exact out_ok tk fun E => call_tuple_of (X := X.wish E) pins s σ H _ us _ (I.wish E) rv ⟨a, vs, e1, .inr ⟨h1.sq, good_here st (.tup h1 h2)⟩⟩
  | [.non], rd => exact gen _ rd
  | [.bl _], rd => exact gen _ rd
  | [.int _], rd => exact gen _ rd
  | [.str _], rd => exact gen _ rd
  | [.lst _], rd => exact gen _ rd
  | [.frz _], rd => exact gen _ rd
  | [.dic _], rd => exact gen _ rd
  | [.ref _], rd => exact gen _ rd
theorem call_sumDD (c : Ck n X) : OpL τ X (fun us => call (.builtin "sum") us) sumD := by
  intro pins s σ H η S xs us ds I tk st rv rd
  match ds, rd with
  | [], _ => trivial
  | _ :: _ :: _, _ => trivial
  | [d], rd =>
    show Out τ X pins η H (relV X.K σ) (match (itemsR S d).bind ints? with | some ns => .ok (.int ns.sum) S | none => .bad) _ s
    cases q : itemsR S d with
    | none => trivial
    | some es =>
      dsimp only [Option.bind]
      cases q2 : ints? es with
      | none => trivial
      | some ns =>
        obtain ⟨p, vs, e1, h1, h2⟩ := fromItems (pins := pins) (s := s) (σ := σ) st rd q
        have := ints_ok h2 q2
        subst this
        exact out_ok tk fun E => cr_sum (X := X.wish E) c.calm pins s σ H _ us _ (I.wish E) rv ⟨p, ns, e1, h1, good_here st (.int _)⟩
theorem call_allDD (c : Ck n X) : OpL τ X (fun us => call (.builtin "all") us) allD := by
  intro pins s σ H η S xs us ds I tk st rv rd
  match ds, rd with
  | [], _ => trivial
  | _ :: _ :: _, _ => trivial
  | [d], rd =>
    show Out τ X pins η H (relV X.K σ) (match (itemsR S d).bind bools? with | some bs => .ok (.bl (bs.all id)) S | none => .bad) _ s
    cases q : itemsR S d with
    | none => trivial
    | some es =>
      dsimp only [Option.bind]
      cases q2 : bools? es with
      | none => trivial
      | some ns =>
        obtain ⟨p, vs, e1, h1, h2⟩ := fromItems (pins := pins) (s := s) (σ := σ) st rd q
        have := bools_ok h2 q2
        subst this
        exact out_ok tk fun E => cr_all (X := X.wish E) c.calm pins s σ H _ us _ (I.wish E) rv ⟨p, ns, e1, h1, good_here st (.bl _)⟩
theorem call_anyDD (c : Ck n X) : OpL τ X (fun us => call (.builtin "any") us) anyD := by
  intro pins s σ H η S xs us ds I tk st rv rd
  match ds, rd with
  | [], _ => trivial
  | _ :: _ :: _, _ => trivial
  | [d], rd =>
    show Out τ X pins η H (relV X.K σ) (match (itemsR S d).bind bools? with | some bs => .ok (.bl (bs.any id)) S | none => .bad) _ s
    cases q : itemsR S d with
    | none => trivial
    | some es =>
      dsimp only [Option.bind]
      cases q2 : bools? es with
      | none => trivial
      | some ns =>
        obtain ⟨p, vs, e1, h1, h2⟩ := fromItems (pins := pins) (s := s) (σ := σ) st rd q
        have := bools_ok h2 q2
        subst this
        exact out_ok tk fun E => cr_any (X := X.wish E) c.calm pins s σ H _ us _ (I.wish E) rv ⟨p, ns, e1, h1, good_here st (.bl _)⟩
theorem call_minDD (c : Ck n X) : OpL τ X (fun us => call (.builtin "min") us) minD := by
  intro pins s σ H η S xs us ds I tk st rv rd
  cases q : minD ds S with
  | bad => trivial
  | ok d' S' =>
    unfold minD at q
    split at q
    · cases q
      obtain ⟨x, y, e1, r1, r2⟩ := two_of rd
      cases r1
      cases r2
      exact out_ok tk fun E => call_min2 (X := X.wish E) c.calm pins s σ H _ us _ (I.wish E) rv ⟨_, _, e1, good_here st (.int _)⟩
    · cases q
theorem call_intDD : OpL τ X (fun us => call (.type "int") us) intD := by
  intro pins s σ H η S xs us ds I tk st rv rd
  cases q : intD ds S with
  | bad => trivial
  | ok d' S' =>
    unfold intD at q
    split at q
    · cases q
      obtain ⟨x, e1, r1⟩ := one_of (ds := []) rd
      cases r1
      exact out_ok tk fun E => call_int1 (X := X.wish E) pins s σ H _ us _ (I.wish E) rv (.inl ⟨_, e1, good_here st (.int _)⟩)
    · cases q
      obtain ⟨x, e1, r1⟩ := one_of (ds := []) rd
      cases r1
      exact out_ok tk fun E => call_int1 (X := X.wish E) pins s σ H _ us _ (I.wish E) rv (.inr ⟨_, e1, good_here st (.int _)⟩)
    · cases q
theorem call_strDD : OpL τ X (fun us => call (.type "str") us) strD := by
  intro pins s σ H η S xs us ds I tk st rv rd
  cases q : strD ds S with
  | bad => trivial
  | ok d' S' =>
    unfold strD at q
    split at q
    · split at q
      · rename_i hz
        cases q
        obtain ⟨x, e1, r1⟩ := one_of (ds := []) rd
        cases r1
        exact out_ok tk fun E => call_str_int (X := X.wish E) pins s σ H _ us _ (I.wish E) rv ⟨_, e1, hz, good_here st (.str _)⟩
      · cases q
    · cases q
      obtain ⟨x, e1, r1⟩ := one_of (ds := []) rd
      cases r1
      subst e1
      cases rv with
      | cons rv1 rv2 =>
        cases rv2
        obtain ⟨t, rfl⟩ := rv1
        exact out_ok tk fun E => PySem.P.str_of_str ⟨.str _, H, I.wish E, ⟨t, rfl⟩, good_here st (.str _)⟩
    · cases q
      obtain ⟨x, e1, r1⟩ := one_of (ds := []) rd
      cases r1
      subst e1
      cases rv with
      | cons rv1 rv2 =>
        cases rv2
        cases rv1
        exact out_ok tk fun E => PySem.P.str_of_bool ⟨.str _, H, (I.wish E).tok _, ⟨_, rfl⟩, good_here st (.str _)⟩
    · cases q
end

/-! ### isinstance of built-in classes -/
inductive Ty where
  | int | str | bool | tup | lst | dict
  deriving DecidableEq, Inhabited
def Ty.name : Ty → String
  | .int => "int" | .str => "str" | .bool => "bool" | .tup => "tuple" | .lst => "list" | .dict => "dict"
def tyD : D → String
  | .non => "NoneType" | .bl _ => "bool" | .int _ => "int" | .str _ => "str" | .tup _ => "tuple" | .lst _ => "list" | .frz _ => "list" | .dic _ => "dict" | .ref _ => "list"
def isiD (t : Ty) : D → Bool
  | .non => false
  | .bl _ => match t with | .int => true | .bool => true | _ => false
  | .int _ => match t with | .int => true | _ => false
  | .str _ => match t with | .str => true | _ => false
  | .tup _ => match t with | .tup => true | _ => false
  | .lst _ => match t with | .lst => true | _ => false
  | .frz _ => match t with | .lst => true | _ => false
  | .dic _ => match t with | .dict => true | _ => false
  | .ref _ => match t with | .lst => true | _ => false
theorem kit_none : ∀ t : Ty, kitB "NoneType" t.name = some false := by intro t; cases t <;> decide +kernel
theorem kit_bool : ∀ t : Ty, kitB "bool" t.name = some (match t with | .int => true | .bool => true | _ => false) := by intro t; cases t <;> decide +kernel
theorem kit_int : ∀ t : Ty, kitB "int" t.name = some (match t with | .int => true | _ => false) := by intro t; cases t <;> decide +kernel
theorem kit_str : ∀ t : Ty, kitB "str" t.name = some (match t with | .str => true | _ => false) := by intro t; cases t <;> decide +kernel
theorem kit_tup : ∀ t : Ty, kitB "tuple" t.name = some (match t with | .tup => true | _ => false) := by intro t; cases t <;> decide +kernel
theorem kit_lst : ∀ t : Ty, kitB "list" t.name = some (match t with | .lst => true | _ => false) := by intro t; cases t <;> decide +kernel
theorem kit_dic : ∀ t : Ty, kitB "dict" t.name = some (match t with | .dict => true | _ => false) := by intro t; cases t <;> decide +kernel
theorem kitD (t : Ty) (d : D) : kitB (tyD d) t.name = some (isiD t d) := by
  cases d with
  | non => exact kit_none t
  | bl _ => exact kit_bool t
  | int _ => exact kit_int t
  | str _ => exact kit_str t
  | tup _ => exact kit_tup t
  | lst _ => exact kit_lst t
  | frz _ => exact kit_lst t
  | dic _ => exact kit_dic t
  | ref _ => exact kit_lst t
theorem ty_of {K : PySem.W.Frag} {η : List Addr} {H : Hp} {S : Sto} {d : D} {x : V} (st : StoOk K η H S) (r : Rep K η H d x) : TyX K H x (.type (tyD d)) := by
  cases r with
  | non => exact .base .non
  | bl b => exact .base (.bl b)
  | int i => exact .base (.int i)
  | str i => exact .base (.str i)
  | tup h _ =>
    rcases h with h | ⟨o, its, n, h1, h2, _⟩
    · exact .base (.tup h.1)
    · exact .kTuple h1 h2
  | lst h _ => exact .base (.lst h.1)
  | frz h _ =>
    rcases h with ⟨h | ⟨o, h⟩, _⟩ | ⟨o, its, n, h1, h2, _⟩
    · exact .base (.lst h)
    · exact .base (.frz h)
    · exact .kList h1 h2
  | dic h _ => exact .base (.dK h.1)
  | @ref n a h =>
    obtain ⟨vs, e⟩ := st.tracked (List.mem_of_getElem? h)
    exact .base (.lst e)
def isinstD (t : Ty) (d : D) : M D := pure (.bl (isiD t d))
section
variable {X : Cx}
theorem call_isinstD (t : Ty) : Op1 τ X (fun v => call (.builtin "isinstance") [v, .type t.name]) (isinstD t) := by
  intro pins s σ H η S x v d I tk st rx rd
  exact out_ok tk fun E => call_isi (X := X.wish E) pins s σ H [x, .ty t.name] [v, .type t.name] _ (I.wish E) (.cons rx (.cons rfl .nil)) ⟨x, .ty t.name, .type (tyD d), .type t.name, isiD t d, rfl, .ty _, ty_of st rd, kit_ty (kitD t d), good_here st (.bl _)⟩
end

/-! ### truth -/
def truE (S : Sto) : D → Option Bool
  | .non => some false
  | .bl b => some b
  | .int i => some (i != 0)
  | .str y => if y.length ≤ SL then some ((y.length : Int) != 0) else none
  | .tup xs => some (!xs.isEmpty)
  | .dic kvs => some (!kvs.isEmpty)
  | d => (itemsR S d).map fun xs => !xs.isEmpty
def truD (d : D) : M Bool := fun S => match truE S d with
  | some b => .ok b S
  | none => .bad
section
variable {X : Cx}
theorem tru_okD {pins : List (Addr × Obj)} {s : Shared} {σ : L2.St} {H : Hp} {η : List Addr} {S : Sto} {x : V} {v : Value} {d : D} (I : Inv X pins σ H s) (tk : τ ≤ s.toks) (st : StoOk X.K η H S) (rx : RelV x v) (rd : Rep X.K η H d x) : Out τ X pins η H (relB σ) (truD d S) (sem X (truthy v)) s := by
  unfold truD
  cases q : truE S d with
  | none => trivial
  | some b =>
    refine out_tt tk fun E => ?_
    refine tru_ok (X := X.wish E) pins s σ H x v _ (I.wish E) rx ⟨b, ?_, rfl, η, .refl _ _, st⟩
    have seq : ∀ {p : Addr} {ds : List D} {vs : List V}, SqL X.K H p vs → Reps X.K η H ds vs → (!ds.isEmpty) = b → TruV X.K (.ref p) H b := by
      intro p ds vs h1 h2 h3
      exact .inl ⟨vs, h1, by rw [← empty_reps h2, h3]⟩
    cases rd with
    | non => cases q; rfl
    | bl b' => cases q; rfl
    | int i => cases q; rfl
    | str y =>
      have q : (if y.length ≤ SL then some ((y.length : Int) != 0) else none) = some b := q
      split at q
      · rename_i hz
        exact ⟨sl_le hz, (Option.some.inj q).symm⟩
      · cases q
    | @tup a vs ds h1 h2 =>
      cases q
      exact .inr (.inl ⟨vs, h1.sq, by rw [empty_reps h2]⟩)
    | lst h1 h2 => exact seq h1.sq h2 (Option.some.inj q)
    | frz h1 h2 => exact seq h1.sq h2 (Option.some.inj q)
    | @dic a kvs kds h1 h2 =>
      cases q
      refine .inr (.inr ⟨kvs, h1.1, ?_⟩)
      cases h2 <;> rfl
    | @ref m a h1 =>
      have q : (itemsR S (.ref m)).map (fun xs => !xs.isEmpty) = some b := q
      cases qa : itemsR S (.ref m) with
      | none => rw [qa] at q; cases q
      | some es =>
        rw [qa] at q
        obtain ⟨a', vs, e1, h3, h4⟩ := itemsR_at st (.ref h1) qa
        rw [e1]
        exact seq h3 h4 (Option.some.inj q)
end

/-! ### methods: the receiver, the arguments -/
def appendD (d : D) (ds : List D) : M D := fun S => match d, ds with
  | .ref n, [e] => match S[n]? with
    | some (.lst xs) => if xs.length < SL then .ok .non (S.set n (.lst (xs ++ [e]))) else .bad
    | none => .bad
  | _, _ => .bad
def extendD (d : D) (ds : List D) : M D := fun S => match d, ds with
  | .ref n, [e] => match S[n]?, items S e with
    | some (.lst xs), some ys => if xs.length + ys.length ≤ SL then .ok .non (S.set n (.lst (xs ++ ys))) else .bad
    | _, _ => .bad
  | _, _ => .bad
def popD (d : D) (ds : List D) : M D := fun S => match d, ds with
  | .ref n, [] => match S[n]? with
    | some (.lst xs) => match xs[xs.length - 1]? with
      | some e => .ok e (S.set n (.lst xs.dropLast))
      | none => .bad
    | none => .bad
  | .ref n, [.int i] => match S[n]? with
    | some (.lst xs) => match ixN xs.length i with
      | some j => match xs[j]? with
        | some e => .ok e (S.set n (.lst (xs.eraseIdx j)))
        | none => .bad
      | none => .bad
    | none => .bad
  | _, _ => .bad
def seqItems (S : Sto) : D → Option (List D)
  | .tup xs => some xs
  | d => itemsR S d
def joinD (d : D) (ds : List D) : M D := fun S => match d, ds with
  | .str a, [e] => match (seqItems S e).bind strs? with
    | some ys => if (ys.map (fun y : Str => y.length)).sum + ys.length * a.length ≤ SL then .ok (.str (Txt.join a ys)) S else .bad
    | none => .bad
  | _, _ => .bad
def splitD (m : Bool) (d : D) (ds : List D) : M D := fun S => match d, ds with
  | .str a, [.str b] => if (b.length == 0) = false ∧ a.length + 2 ≤ SL then newL m ((Txt.split a b).map D.str) S else .bad
  | _, _ => .bad
def countD (d : D) (ds : List D) : M D := fun S => match d, ds with
  | .str a, [.str b] => .ok (.int (Txt.count a b)) S
  | _, _ => .bad
def upperD (d : D) (ds : List D) : M D := fun S => match d, ds with
  | .str a, [] => if a.length ≤ 5592405 then .ok (.str (Txt.upper a)) S else .bad
  | _, _ => .bad
/-- a method of a built-in type T: what it asks of the receiver's type, its run -/
def Mt (τ : Nat) (X : Cx) (T : String) (id : String) (g : D → List D → M D) : Prop := ∀ (pins : List (Addr × Obj)) (s : Shared) (σ : L2.St) (H : Hp) (η : List Addr) (S : Sto) (x : V) (xs : List V) (v : Value) (us : List Value) (d : D) (ds : List D),
  Inv X pins σ H s → τ ≤ s.toks → StoOk X.K η H S → RelV x v → Vals xs us → Rep X.K η H d x → Reps X.K η H ds xs → Out τ X pins η H (relV X.K σ) (g d ds S) (sem X (call (.builtin id) (v :: us))) s
section
variable {X : Cx}
theorem sto_look {K : PySem.W.Frag} {η : List Addr} {H : Hp} {S : Sto} {n : Nat} {a : Addr} {xs : List D} (st : StoOk K η H S) (h : η[n]? = some a) (q : S[n]? = some (.lst xs)) : ∃ vs, H a = some (.lst vs) ∧ Reps K η H xs vs := st.look n _ a q h
theorem mt_appendD : Mt τ X "list" "list.append" appendD := by
  intro pins s σ H η S x xs v us d ds I tk st rx rv rd rds
  cases q : appendD d ds S with
  | bad => trivial
  | ok d' S' =>
    unfold appendD at q
    split at q
    · cases rd with
      | @ref n a h1 =>
        split at q
        · rename_i ys hq
          split at q
          · rename_i hz
            cases q
            obtain ⟨y, e1, r1⟩ := one_of (ds := []) rds
            obtain ⟨vs, h2, h3⟩ := sto_look st h1 hq
            exact out_ok tk fun E => mt_append (X := X.wish E) pins s σ H _ xs v us _ (I.wish E) rx rv ⟨a, vs, y, rfl, e1, h2, sl_lt (by rw [← h3.length]; exact hz), good_set st h1 (h3.append (.cons r1 .nil)) .non⟩
          · cases q
        · cases q
    · cases q
theorem mt_extendD : Mt τ X "list" "list.extend" extendD := by
  intro pins s σ H η S x xs v us d ds I tk st rx rv rd rds
  cases q : extendD d ds S with
  | bad => trivial
  | ok d' S' =>
    unfold extendD at q
    split at q
    · cases rd with
      | @ref n a h1 =>
        split at q
        · rename_i ys zs hq hq2
          split at q
          · rename_i hz
            cases q
            obtain ⟨y, e1, r1⟩ := one_of (ds := []) rds
            obtain ⟨vs, h2, h3⟩ := sto_look st h1 hq
            obtain ⟨b, ws, e2, h4, h5⟩ := items_at st r1 hq2
            exact out_ok tk fun E => mt_extend (X := X.wish E) pins s σ H _ xs v us _ (I.wish E) rx rv ⟨a, b, vs, ws, rfl, by rw [e1, e2], h2, h4, sl_le (by rw [← h3.length, ← h5.length]; exact hz), good_set st h1 (h3.append h5) .non⟩
          · cases q
        · cases q
    · cases q
theorem mt_popD : Mt τ X "list" "list.pop" popD := by
  intro pins s σ H η S x xs v us d ds I tk st rx rv rd rds
  cases q : popD d ds S with
  | bad => trivial
  | ok d' S' =>
    unfold popD at q
    split at q
    · cases rd with
      | @ref n a h1 =>
        split at q
        · rename_i ys hq
          split at q
          · rename_i e he
            cases q
            obtain ⟨vs, h2, h3⟩ := sto_look st h1 hq
            obtain ⟨y, h4, h5⟩ := h3.get he
            exact out_ok tk fun E => mt_pop (X := X.wish E) pins s σ H _ xs v us _ (I.wish E) rx rv ⟨a, vs, y, rfl, nil_of rds, h2, by rw [← h3.length]; exact h4, good_set st h1 h3.dropLast h5⟩
          · cases q
        · cases q
    · cases rd with
      | @ref n a h1 =>
        split at q
        · rename_i ys hq
          split at q
          · rename_i j hj
            split at q
            · rename_i e he
              cases q
              obtain ⟨z, e1, r1⟩ := one_of (ds := []) rds
              cases r1
              obtain ⟨vs, h2, h3⟩ := sto_look st h1 hq
              obtain ⟨y, h4, h5⟩ := h3.get he
              obtain ⟨g1, g2, g3, g4⟩ := ixN_seq hj
              have hl : ys.length ≤ sizeLine := by
                obtain ⟨hz, _⟩ := I.hok a _ h2
                rw [h3.length]
                exact hz
              rw [sizeLine_eq] at hl
              refine out_ok tk fun E => mt_popAt (X := X.wish E) pins s σ H _ xs v us _ (I.wish E) rx rv ⟨a, vs, _, j, y, rfl, e1, h2, by omega, by omega, by rw [← h3.length]; exact g1, h4, good_set st h1 (h3.eraseIdx j) h5⟩
            · cases q
          · cases q
        · cases q
    · cases q
theorem mt_joinD : Mt τ X "str" "str.join" joinD := by
  intro pins s σ H η S x xs v us d ds I tk st rx rv rd rds
  cases q : joinD d ds S with
  | bad => trivial
  | ok d' S' =>
    unfold joinD at q
    split at q
    · rename_i a e
      cases rd
      obtain ⟨y, e1, r1⟩ := one_of (ds := []) rds
      have fin : ∀ {zs : List D} {p : Addr} {vs : List V}, y = .ref p → (SqL X.K H p vs ∨ SqT X.K H p vs) → Reps X.K η H zs vs → (match strs? zs with | some ys => if (ys.map (fun y : Str => y.length)).sum + ys.length * a.length ≤ SL then R.ok (D.str (Txt.join a ys)) S else .bad | none => .bad) = .ok d' S' →
          Out τ X pins η H (relV X.K σ) (.ok d' S') (sem X (call (.builtin "str.join") (v :: us))) s := by
        intro zs p vs ey hs hr hq
        cases q2 : strs? zs with
        | none => rw [q2] at hq; cases hq
        | some ys =>
          rw [q2] at hq
          dsimp only at hq
          split at hq
          · rename_i hz
            cases hq
            have := strs_ok hr q2
            subst this
            exact out_ok tk fun E => mt_join (X := X.wish E) pins s σ H _ xs v us _ (I.wish E) rx rv ⟨a, p, ys, rfl, by rw [e1, ey], hs, hz, good_here st (.str _)⟩
          · cases hq
      cases r1 with
      | tup h1 h2 => exact fin rfl (.inr h1.sq) h2 q
      | lst h1 h2 => exact fin rfl (.inl h1.sq) h2 q
      | frz h1 h2 => exact fin rfl (.inl h1.sq) h2 q
      | @ref m b h1 =>
        have q : (match (itemsR S (.ref m)).bind strs? with | some ys => if (ys.map (fun y : Str => y.length)).sum + ys.length * a.length ≤ SL then R.ok (D.str (Txt.join a ys)) S else .bad | none => .bad) = .ok d' S' := q
        cases qa : itemsR S (.ref m) with
        | none => rw [qa] at q; cases q
        | some zs =>
          rw [qa] at q
          obtain ⟨a', vs, e2, h3, h4⟩ := itemsR_at st (.ref h1) qa
          exact fin e2 (.inl h3) h4 q
      | _ => cases q
    · cases q
theorem mt_splitD (m : Bool) : Mt τ X "str" "str.split" (splitD m) := by
  intro pins s σ H η S x xs v us d ds I tk st rx rv rd rds
  cases q : splitD m d ds S with
  | bad => trivial
  | ok d' S' =>
    unfold splitD at q
    split at q
    · rename_i a b
      split at q
      · rename_i hz
        cases rd
        obtain ⟨y, e1, r1⟩ := one_of (ds := []) rds
        cases r1
        exact out_ok tk fun E => mt_split (X := X.wish E) pins s σ H _ xs v us _ (I.wish E) rx rv ⟨a, b, rfl, e1, hz.1, sl_le hz.2, fun p hp => good_newL st (Reps.strs _) hp q⟩
      · cases q
    · cases q
theorem mt_countD : Mt τ X "str" "str.count" countD := by
  intro pins s σ H η S x xs v us d ds I tk st rx rv rd rds
  cases q : countD d ds S with
  | bad => trivial
  | ok d' S' =>
    unfold countD at q
    split at q
    · rename_i a b
      cases q
      cases rd
      obtain ⟨y, e1, r1⟩ := one_of (ds := []) rds
      cases r1
      exact out_ok tk fun E => mt_count (X := X.wish E) pins s σ H _ xs v us _ (I.wish E) rx rv ⟨a, b, rfl, e1, good_here st (.int _)⟩
    · cases q
theorem mt_upperD : Mt τ X "str" "str.upper" upperD := by
  intro pins s σ H η S x xs v us d ds I tk st rx rv rd rds
  cases q : upperD d ds S with
  | bad => trivial
  | ok d' S' =>
    unfold upperD at q
    split at q
    · rename_i a
      split at q
      · rename_i hz
        cases q
        cases rd
        exact out_ok tk fun E => mt_upper (X := X.wish E) pins s σ H _ xs v us _ (I.wish E) rx rv ⟨a, rfl, nil_of rds, hz, good_here st (.str _)⟩
      · cases q
    · cases q
end

/-! ### o[i] = v -/
def setD (o i d : D) : M Unit := fun S => match o, i with
  | .ref n, .int k => match S[n]? with
    | some (.lst xs) => match ixN xs.length k with
      | some j => .ok () (S.set n (.lst (xs.set j d)))
      | none => .bad
    | none => .bad
  | _, _ => .bad
def relU (σ : L2.St) : L2.St → List Addr → Hp → Unit → Unit → Prop := fun σ' _ _ _ _ => σ' = σ
section
variable {X : Cx}
theorem set_okD {pins : List (Addr × Obj)} {s : Shared} {σ : L2.St} {H : Hp} {η : List Addr} {S : Sto} {o i x : V} {ov iv u : Value} {od id d : D} (I : Inv X pins σ H s) (tk : τ ≤ s.toks) (st : StoOk X.K η H S) (ro : RelV o ov) (ri : RelV i iv) (rx : RelV x u) (r1 : Rep X.K η H od o) (r2 : Rep X.K η H id i) (r3 : Rep X.K η H d x) :
    Out τ X pins η H (relU σ) (setD od id d S) (sem X (setItem ov iv u)) s := by
  cases q : setD od id d S with
  | bad => trivial
  | ok z S' =>
    unfold setD at q
    split at q
    · rename_i n k
      split at q
      · rename_i xs hq
        split at q
        · rename_i j hj
          cases q
          cases r1 with
          | @ref _ a h1 =>
            cases r2
            obtain ⟨vs, h2, h3⟩ := sto_look st h1 hq
            intro E
            refine wpAny_mono (PySem.wpAny_toks (set_list (X := X.wish E) pins s σ H _ _ x ov iv u (fun H' => H' = upd H a (.lst (vs.set j x))) (I.wish E) ro ri rx ⟨a, vs, k, j, rfl, rfl, h2, by rw [← h3.length]; exact hj, rfl⟩)) (fun _ s' z => ?_) fun _ _ z => z.2
            obtain ⟨hk, H', I', e⟩ := z
            subst e
            exact ⟨Nat.le_trans tk hk, σ, η, _, I'.unwish, grow_set st (List.mem_of_getElem? h1), st.set h1 (h3.set r3 j), rfl⟩
        · cases q
      · cases q
    · cases q
end
end MP

/-! MP7: expressions put together. -/
namespace MP
open PySem L2
section
variable {X : Cx} {n : Nat} {a b c e : Expr} {ga gb gc : Env → M D} {pos : Pos}

/-! ### names, constants -/
theorem pd_const {g : Env → M D} {d : D} {v : V} (hg : ∀ ρ S, g ρ S = .ok d S) (h : ∀ E, PE (X.wish E) e (tC v)) (hr : ∀ η H, Rep X.K η H d v) : PD τ X e g := by
  refine pd_of fun E σ H ρ η S d' S' sr st q => ⟨_, h E, ?_⟩
  rw [hg] at q
  cases q
  exact good_here st (hr η H)
theorem pd_var {i : Nat} {x : Str} (hN : X.N[i]? = some x) (hv : Vis X.env.scope x) (hd : (x == ("__debug__" : Str)) = false) (hcd : (x == ("__classdict__" : Str)) = false) : PD τ X (.Name x pos) (fun ρ => M.of ((ρ[i]?).bind id)) := by
  refine pd_of fun E σ H ρ η S d S' sr st q => ⟨_, pe_var (X := X.wish E) hN hv hd hcd, ?_⟩
  cases q1 : ρ[i]? with
  | none => rw [q1] at q; cases q
  | some o =>
    cases o with
    | none => rw [q1] at q; cases q
    | some d' =>
      rw [q1] at q
      cases q
      obtain ⟨v, h1, h2⟩ := sr.look i _ q1
      exact ⟨v, h1, good_here st h2⟩

/-! ### two parts -/
theorem two_parts {f : D → D → M D} {T : Sem Value} {K2 : Value → Value → Sem Value} (ha : PD τ X a ga) (hb : PD τ X b gb) (ho : Op2 τ X K2 f) {pins : List (Addr × Obj)} {s : Shared} {σ : L2.St} {H : Hp} {ρ : Env} {η : List Addr} {S : Sto}
    (hT : ∀ Q E, wpAny (model X.prog X.w) X.A (eval a X.env) (fun v s1 => wpAny (model X.prog X.w) X.A (eval b X.env) (fun u s2 => wpAny (model X.prog X.w) X.A (K2 v u) Q E s2) E s1) E s → wpAny (model X.prog X.w) X.A T Q E s)
    (I : Inv X pins σ H s) (tk : τ ≤ s.toks) (sr : SRel X.K η H σ ρ) (st : StoOk X.K η H S) : Out τ X pins η H (relV X.K σ) ((ga ρ >>= fun d => gb ρ >>= fun e => f d e) S) (sem X T) s := by
  refine Out.seq (t1 := eval a X.env) (W2 := fun v Q E s1 => wpAny (model X.prog X.w) X.A (eval b X.env) (fun u s2 => wpAny (model X.prog X.w) X.A (K2 v u) Q E s2) E s1) hT (ha pins s σ H ρ η S I tk sr st) ?_
  rintro v s1 σ1 η1 H1 d S1 _ tk1 I1 g1 st1 ⟨rfl, x, rx, rd⟩
  refine Out.back (mono_then _ fun u => mono_sem _) g1 ?_
  refine Out.seq (t1 := eval b X.env) (W2 := fun u => sem X (K2 v u)) (fun Q E h => h) (hb pins s1 σ1 H1 ρ η1 S1 I1 tk1 (sr.grow g1) st1) ?_
  rintro u s2 σ2 η2 H2 e S2 _ tk2 I2 g2 st2 ⟨rfl, y, ry, re⟩
  exact Out.back (mono_sem _) g2 (ho pins s2 σ2 H2 η2 S2 x y v u d e I2 tk2 st2 rx ry (rd.grow g2) re)
theorem pd_bin {op : Operator} {f : D → D → M D} (ho : Op2 τ X (binaryOp op) f) (ha : PD τ X a ga) (hb : PD τ X b gb) : PD τ X (.BinOp a op b pos) (fun ρ => ga ρ >>= fun d => gb ρ >>= fun e => f d e) :=
  fun pins s σ H ρ η S I tk sr st => two_parts ha hb ho (fun Q E h => wpAny_BinOp h) I tk sr st
theorem pd_cmp {op : CmpOp} {f : D → D → M D} (ho : Op2 τ X (compareOp op) f) (ha : PD τ X a ga) (hb : PD τ X b gb) (hm : behindInMarks op b = false) : PD τ X (.Compare a [op] [b] pos) (fun ρ => ga ρ >>= fun d => gb ρ >>= fun e => f d e) :=
  fun pins s σ H ρ η S I tk sr st => two_parts ha hb ho (fun Q E h => wpAny_Compare1 h hm) I tk sr st
theorem pd_ix (ha : PD τ X a ga) (hb : PD τ X b gb) (hs : ∀ o i, subscripted b false o i = operate [o, i] (getItem o i)) : PD τ X (.Subscript a b pos) (fun ρ => ga ρ >>= fun d => gb ρ >>= fun e => ixD d e) :=
  fun pins s σ H ρ η S I tk sr st => two_parts ha hb (op_ixD (value := a) hs) (fun Q E h => PyProof.Rows.Subscript_ h) I tk sr st

/-! ### tests -/
def asB : D → M Bool
  | .bl b => pure b
  | _ => M.fail
theorem asB_ok {pins : List (Addr × Obj)} {s : Shared} {σ : L2.St} {H : Hp} {η : List Addr} {S : Sto} {x : V} {v : Value} {d : D} (I : Inv X pins σ H s) (tk : τ ≤ s.toks) (st : StoOk X.K η H S) (rx : RelV x v) (rd : Rep X.K η H d x) : Out τ X pins η H (relB σ) (asB d S) (sem X (truthy v)) s := by
  cases rd with
  | bl b => exact tru_okD I tk st rx (.bl b)
  | _ => trivial
theorem pdb_val (ha : PD τ X a ga) (he : ∀ whole, isTrue a X.env whole = (do let v ← whole; standAt a.pos; holding [v] (truthy v))) : PDB τ X a (fun ρ => ga ρ >>= truD) := by
  intro pins s σ H ρ η S I tk sr st
  refine Out.seq (t1 := eval a X.env) (W2 := fun v => sem X (truthy v)) (fun Q E h => PyProof.Rows.isTrue_plain h (he _)) (ha pins s σ H ρ η S I tk sr st) ?_
  rintro v s1 σ1 η1 H1 d S1 _ tk1 I1 g1 st1 ⟨rfl, x, rx, rd⟩
  exact Out.back (mono_sem _) g1 (tru_okD I1 tk1 st1 rx rd)
theorem pdb_cmp {op : CmpOp} {f : D → D → M D} (ho : Op2 τ X (compareOp op) f) (ha : PD τ X a ga) (hb : PD τ X b gb) (hm : behindInMarks op b = false) : PDB τ X (.Compare a [op] [b] pos) (fun ρ => ga ρ >>= fun d => gb ρ >>= fun e => f d e >>= asB) := by
  intro pins s σ H ρ η S I tk sr st
  refine Out.seq (t1 := eval a X.env) (W2 := fun v Q E s1 => wpAny (model X.prog X.w) X.A (eval b X.env) (fun u s2 => wpAny (model X.prog X.w) X.A (compareOp op v u) (fun z s3 => wpAny (model X.prog X.w) X.A (truthy z) Q E s3) E s2) E s1)
    (fun Q E h => wpAny_isTrue_Compare1 h hm) (ha pins s σ H ρ η S I tk sr st) ?_
  rintro v s1 σ1 η1 H1 d S1 _ tk1 I1 g1 st1 ⟨rfl, x, rx, rd⟩
  refine Out.back (mono_then _ fun u => mono_then _ fun z => mono_sem _) g1 ?_
  refine Out.seq (t1 := eval b X.env) (W2 := fun u Q E s2 => wpAny (model X.prog X.w) X.A (compareOp op v u) (fun z s3 => wpAny (model X.prog X.w) X.A (truthy z) Q E s3) E s2) (fun Q E h => h) (hb pins s1 σ1 H1 ρ η1 S1 I1 tk1 (sr.grow g1) st1) ?_
  rintro u s2 σ2 η2 H2 e S2 _ tk2 I2 g2 st2 ⟨rfl, y, ry, re⟩
  refine Out.back (mono_then _ fun z => mono_sem _) g2 ?_
  refine Out.seq (t1 := compareOp op v u) (W2 := fun z => sem X (truthy z)) (fun Q E h => h) (ho pins s2 σ2 H2 η2 S2 x y v u d e I2 tk2 st2 rx ry (rd.grow g2) re) ?_
  rintro z s3 σ3 η3 H3 d3 S3 _ tk3 I3 g3 st3 ⟨rfl, y3, r3, re3⟩
  exact Out.back (mono_sem _) g3 (asB_ok I3 tk3 st3 r3 re3)
theorem pdb_not {gt : Env → M Bool} (ha : PDB τ X a gt) : PDB τ X (.UnaryOp .Not a pos) (fun ρ => gt ρ >>= fun b => pure (!b)) := by
  intro pins s σ H ρ η S I tk sr st
  refine Out.seq (t1 := isTrue a X.env (eval a X.env)) (W2 := fun b Q E s' => Q (!b) s') (fun Q E h => PyProof.Rows.isTrue_not h) (ha pins s σ H ρ η S I tk sr st) ?_
  rintro v s1 σ1 η1 H1 d S1 _ tk1 I1 g1 st1 ⟨rfl, rfl⟩
  exact fun E => ⟨tk1, _, η1, H1, I1, g1, st1, rfl, rfl⟩
theorem pd_not (ha : PD τ X a ga) : PD τ X (.UnaryOp .Not a pos) (fun ρ => ga ρ >>= fun d => asB d >>= fun b => pure (.bl (!b))) := by
  intro pins s σ H ρ η S I tk sr st
  refine Out.seq (t1 := eval a X.env) (W2 := fun v => sem X (unaryOp .Not v)) (fun Q E h => PyProof.Rows.UnaryOp_ h) (ha pins s σ H ρ η S I tk sr st) ?_
  rintro v s1 σ1 η1 H1 d S1 _ tk1 I1 g1 st1 ⟨rfl, x, rx, rd⟩
  refine Out.back (mono_sem _) g1 ?_
  refine Out.seq (t1 := truthy v) (W2 := fun b Q E s' => Q (.bool (!b)) s') (fun Q E h => PyProof.Rows.not_of h) (asB_ok I1 tk1 st1 rx rd) ?_
  rintro b s2 σ2 η2 H2 d2 S2 _ tk2 I2 g2 st2 ⟨rfl, rfl⟩
  exact fun E => ⟨tk2, _, η2, H2, I2, g2, st2, rfl, .bl _, rfl, .bl _⟩
/-- a and rest as values, as tests -/
theorem pd_and {rest : List Expr} (ha : PD τ X a ga) (hb : PD τ X (.BoolOp .And (b :: rest) pos) gb) : PD τ X (.BoolOp .And (a :: b :: rest) pos) (fun ρ => ga ρ >>= fun d => asB d >>= fun t => if t = true then gb ρ else pure (.bl false)) := by
  intro pins s σ H ρ η S I tk sr st
  refine Out.seq (t1 := eval a X.env) (W2 := fun v Q E s1 => wpAny (model X.prog X.w) X.A (truthy v) (fun t s2 => if t then wpAny (model X.prog X.w) X.A (eval (.BoolOp .And (b :: rest) pos) X.env) Q E s2 else Q v s2) E s1)
    (fun Q E h => PyProof.Rows.BoolOp_and h) (ha pins s σ H ρ η S I tk sr st) ?_
  rintro v s1 σ1 η1 H1 d S1 _ tk1 I1 g1 st1 ⟨rfl, x, rx, rd⟩
  cases rd with
  | bl t =>
    cases rx
    cases t with
    | true => exact Out.via (fun Q E h => wpAny_truthy_bool h) (Out.back (mono_sem _) g1 (hb pins s1 σ1 H1 ρ η1 S1 I1 tk1 (sr.grow g1) st1))
    | false => exact fun E => wpAny_truthy_bool ⟨tk1, _, η1, H1, I1, g1, st1, rfl, .bl _, rfl, .bl _⟩
  | _ => trivial
theorem pd_or {rest : List Expr} (ha : PD τ X a ga) (hb : PD τ X (.BoolOp .Or (b :: rest) pos) gb) : PD τ X (.BoolOp .Or (a :: b :: rest) pos) (fun ρ => ga ρ >>= fun d => asB d >>= fun t => if t = true then pure (.bl true) else gb ρ) := by
  intro pins s σ H ρ η S I tk sr st
  refine Out.seq (t1 := eval a X.env) (W2 := fun v Q E s1 => wpAny (model X.prog X.w) X.A (truthy v) (fun t s2 => if t then Q v s2 else wpAny (model X.prog X.w) X.A (eval (.BoolOp .Or (b :: rest) pos) X.env) Q E s2) E s1)
    (fun Q E h => PyProof.Rows.BoolOp_or h) (ha pins s σ H ρ η S I tk sr st) ?_
  rintro v s1 σ1 η1 H1 d S1 _ tk1 I1 g1 st1 ⟨rfl, x, rx, rd⟩
  cases rd with
  | bl t =>
    cases rx
    cases t with
    | false => exact Out.via (fun Q E h => wpAny_truthy_bool h) (Out.back (mono_sem _) g1 (hb pins s1 σ1 H1 ρ η1 S1 I1 tk1 (sr.grow g1) st1))
    | true => exact fun E => wpAny_truthy_bool ⟨tk1, _, η1, H1, I1, g1, st1, rfl, .bl _, rfl, .bl _⟩
  | _ => trivial
theorem pd_one {op : BoolOp} (ha : PD τ X a ga) : PD τ X (.BoolOp op [a] pos) ga := fun pins s σ H ρ η S I tk sr st => Out.via (fun Q E h => PyProof.Rows.BoolOp_one h) (ha pins s σ H ρ η S I tk sr st)
/-- tests, whatever their whole is -/
def PDW (τ : Nat) (X : Cx) (e : Expr) (g : Env → M Bool) : Prop := ∀ (whole : Sem Value) (pins : List (Addr × Obj)) (s : Shared) (σ : L2.St) (H : Hp) (ρ : Env) (η : List Addr) (S : Sto),
  Inv X pins σ H s → τ ≤ s.toks → SRel X.K η H σ ρ → StoOk X.K η H S → Out τ X pins η H (relB σ) (g ρ S) (sem X (isTrue e X.env whole)) s
theorem pdw_and_nil : PDW τ X (.BoolOp .And [] pos) (fun _ => pure true) := fun whole pins s σ H ρ η S I tk sr st E => PyProof.Rows.isTrue_and_nil ⟨tk, σ, η, H, I, .refl _ _, st, rfl, rfl⟩
theorem pdw_or_nil : PDW τ X (.BoolOp .Or [] pos) (fun _ => pure false) := fun whole pins s σ H ρ η S I tk sr st E => PyProof.Rows.isTrue_or_nil ⟨tk, σ, η, H, I, .refl _ _, st, rfl, rfl⟩
theorem pdw_and {rest : List Expr} {gt gr : Env → M Bool} (ha : PDB τ X a gt) (hb : PDW τ X (.BoolOp .And rest pos) gr) : PDW τ X (.BoolOp .And (a :: rest) pos) (fun ρ => gt ρ >>= fun t => if t = true then gr ρ else pure false) := by
  intro whole pins s σ H ρ η S I tk sr st
  refine Out.seq (t1 := isTrue a X.env (eval a X.env)) (W2 := fun t Q E s1 => if t then wpAny (model X.prog X.w) X.A (isTrue (.BoolOp .And rest pos) X.env whole) Q E s1 else Q false s1) (fun Q E h => PyProof.Rows.isTrue_and h) (ha pins s σ H ρ η S I tk sr st) ?_
  rintro t s1 σ1 η1 H1 d S1 _ tk1 I1 g1 st1 ⟨rfl, rfl⟩
  cases d with
  | true => exact Out.back (mono_sem _) g1 (hb whole pins s1 σ1 H1 ρ η1 S1 I1 tk1 (sr.grow g1) st1)
  | false => exact fun E => ⟨tk1, _, η1, H1, I1, g1, st1, rfl, rfl⟩
theorem pdw_or {rest : List Expr} {gt gr : Env → M Bool} (ha : PDB τ X a gt) (hb : PDW τ X (.BoolOp .Or rest pos) gr) : PDW τ X (.BoolOp .Or (a :: rest) pos) (fun ρ => gt ρ >>= fun t => if t = true then pure true else gr ρ) := by
  intro whole pins s σ H ρ η S I tk sr st
  refine Out.seq (t1 := isTrue a X.env (eval a X.env)) (W2 := fun t Q E s1 => if t then Q true s1 else wpAny (model X.prog X.w) X.A (isTrue (.BoolOp .Or rest pos) X.env whole) Q E s1) (fun Q E h => PyProof.Rows.isTrue_or h) (ha pins s σ H ρ η S I tk sr st) ?_
  rintro t s1 σ1 η1 H1 d S1 _ tk1 I1 g1 st1 ⟨rfl, rfl⟩
  cases d with
  | false => exact Out.back (mono_sem _) g1 (hb whole pins s1 σ1 H1 ρ η1 S1 I1 tk1 (sr.grow g1) st1)
  | true => exact fun E => ⟨tk1, _, η1, H1, I1, g1, st1, rfl, rfl⟩
theorem PDW.pdb {g : Env → M Bool} (h : PDW τ X e g) : PDB τ X e g := fun pins s σ H ρ η S I tk sr st => h _ pins s σ H ρ η S I tk sr st
theorem pd_ife {gt : Env → M Bool} (hc : PDB τ X c gt) (ha : PD τ X a ga) (hb : PD τ X b gb) : PD τ X (.IfExp c a b pos) (fun ρ => gt ρ >>= fun t => if t = true then ga ρ else gb ρ) := by
  intro pins s σ H ρ η S I tk sr st
  refine Out.seq (t1 := isTrue c X.env (eval c X.env)) (W2 := fun t Q E s1 => if t then wpAny (model X.prog X.w) X.A (eval a X.env) Q E s1 else wpAny (model X.prog X.w) X.A (eval b X.env) Q E s1) (fun Q E h => wpAny_IfExp h) (hc pins s σ H ρ η S I tk sr st) ?_
  rintro t s1 σ1 η1 H1 d S1 _ tk1 I1 g1 st1 ⟨rfl, rfl⟩
  cases d with
  | true => exact Out.back (mono_sem _) g1 (ha pins s1 σ1 H1 ρ η1 S1 I1 tk1 (sr.grow g1) st1)
  | false => exact Out.back (mono_sem _) g1 (hb pins s1 σ1 H1 ρ η1 S1 I1 tk1 (sr.grow g1) st1)
/-- a op b op' c -/
theorem pd_chain {op op' : CmpOp} {f f' : D → D → M D} (ho : Op2 τ X (compareOp op) f) (ho' : Op2 τ X (compareOp op') f') (ha : PD τ X a ga) (hb : PD τ X b gb) (hc : PD τ X c gc) (hm : lastMarks [op, op'] [b, c] = false) :
    PD τ X (.Compare a [op, op'] [b, c] pos) (fun ρ => ga ρ >>= fun d => gb ρ >>= fun e => f d e >>= fun z => asB z >>= fun t => if t = true then gc ρ >>= fun e' => f' e e' else pure (.bl false)) := by
  intro pins s σ H ρ η S I tk sr st
  refine Out.seq (t1 := eval a X.env) (W2 := fun v => sem X (compareChain pos v [op, op'] [eval b X.env, eval c X.env])) (fun Q E h => PyProof.Rows.Compare_chain h hm) (ha pins s σ H ρ η S I tk sr st) ?_
  rintro v s1 σ1 η1 H1 d S1 _ tk1 I1 g1 st1 ⟨rfl, x, rx, rd⟩
  refine Out.back (mono_sem _) g1 ?_
  refine Out.seq (t1 := eval b X.env) (W2 := fun u Q E s2 => wpAny (model X.prog X.w) X.A (compareOp op v u) (fun z s3 => wpAny (model X.prog X.w) X.A (truthy z)
    (fun t s4 => if t then wpAny (model X.prog X.w) X.A (compareChain pos u [op'] [eval c X.env]) Q E s4 else Q z s4) E s3) E s2) (fun Q E h => PyProof.Rows.chain_link h) (hb pins s1 σ1 H1 ρ η1 S1 I1 tk1 (sr.grow g1) st1) ?_
  rintro u s2 σ2 η2 H2 e S2 _ tk2 I2 g2 st2 ⟨rfl, y, ry, re⟩
  refine Out.back (mono_then _ fun z => mono_then _ fun t => ?_) g2 ?_
  · intro Q Q' E s' hQ w
    cases t with
    | true => exact wpAny_mono w hQ fun _ _ z => z
    | false => exact hQ _ _ w
  refine Out.seq (t1 := compareOp op v u) (W2 := fun z Q E s3 => wpAny (model X.prog X.w) X.A (truthy z) (fun t s4 => if t then wpAny (model X.prog X.w) X.A (compareChain pos u [op'] [eval c X.env]) Q E s4 else Q z s4) E s3) (fun Q E h => h)
    (ho pins s2 σ2 H2 η2 S2 x y v u d e I2 tk2 st2 rx ry (rd.grow g2) re) ?_
  rintro z s3 σ3 η3 H3 d3 S3 _ tk3 I3 g3 st3 ⟨rfl, y3, r3, re3⟩
  cases re3 with
  | bl t =>
    cases r3
    cases t with
    | false => exact fun E => wpAny_truthy_bool ⟨tk3, _, η3, H3, I3, g3, st3, rfl, .bl _, rfl, .bl _⟩
    | true =>
      refine Out.via (fun Q E h => wpAny_truthy_bool h) (Out.back (mono_sem _) g3 ?_)
      show Out τ X pins η3 H3 _ ((gc ρ >>= fun e' => f' e e') S3) _ _
      refine Out.seq (t1 := eval c X.env) (W2 := fun w => sem X (compareOp op' u w)) (fun Q E h => PyProof.Rows.chain_last h) (hc pins s3 σ3 H3 ρ η3 S3 I3 tk3 ((sr.grow g1).grow (g2.trans g3)) st3) ?_
      rintro w s4 σ4 η4 H4 e4 S4 _ tk4 I4 g4 st4 ⟨rfl, y4, r4, re4⟩
      exact Out.back (mono_sem _) g4 (ho' pins s4 σ4 H4 η4 S4 y y4 u w e e4 I4 tk4 st4 ry r4 (re.grow (g3.trans g4)) re4)
  | _ => trivial
theorem pdb_chain {op op' : CmpOp} {f f' : D → D → M D} (ho : Op2 τ X (compareOp op) f) (ho' : Op2 τ X (compareOp op') f') (ha : PD τ X a ga) (hb : PD τ X b gb) (hc : PD τ X c gc) (hm : lastMarks [op, op'] [b, c] = false) :
    PDB τ X (.Compare a [op, op'] [b, c] pos) (fun ρ => ga ρ >>= fun d => gb ρ >>= fun e => f d e >>= fun z => asB z >>= fun t => if t = true then gc ρ >>= fun e' => f' e e' >>= asB else pure false) := by
  intro pins s σ H ρ η S I tk sr st
  refine Out.seq (t1 := eval a X.env) (W2 := fun v => sem X (testChain pos v [op, op'] [eval b X.env, eval c X.env])) (fun Q E h => PyProof.Rows.isTrue_chain h hm) (ha pins s σ H ρ η S I tk sr st) ?_
  rintro v s1 σ1 η1 H1 d S1 _ tk1 I1 g1 st1 ⟨rfl, x, rx, rd⟩
  refine Out.back (mono_sem _) g1 ?_
  refine Out.seq (t1 := eval b X.env) (W2 := fun u Q E s2 => wpAny (model X.prog X.w) X.A (compareOp op v u) (fun z s3 => wpAny (model X.prog X.w) X.A (truthy z)
    (fun t s4 => if t then wpAny (model X.prog X.w) X.A (testChain pos u [op'] [eval c X.env]) Q E s4 else Q false s4) E s3) E s2) (fun Q E h => PyProof.Rows.test_link h) (hb pins s1 σ1 H1 ρ η1 S1 I1 tk1 (sr.grow g1) st1) ?_
  rintro u s2 σ2 η2 H2 e S2 _ tk2 I2 g2 st2 ⟨rfl, y, ry, re⟩
  refine Out.back (mono_then _ fun z => mono_then _ fun t => ?_) g2 ?_
  · intro Q Q' E s' hQ w
    cases t with
    | true => exact wpAny_mono w hQ fun _ _ z => z
    | false => exact hQ _ _ w
  refine Out.seq (t1 := compareOp op v u) (W2 := fun z Q E s3 => wpAny (model X.prog X.w) X.A (truthy z) (fun t s4 => if t then wpAny (model X.prog X.w) X.A (testChain pos u [op'] [eval c X.env]) Q E s4 else Q false s4) E s3) (fun Q E h => h)
    (ho pins s2 σ2 H2 η2 S2 x y v u d e I2 tk2 st2 rx ry (rd.grow g2) re) ?_
  rintro z s3 σ3 η3 H3 d3 S3 _ tk3 I3 g3 st3 ⟨rfl, y3, r3, re3⟩
  cases re3 with
  | bl t =>
    cases r3
    cases t with
    | false => exact fun E => wpAny_truthy_bool ⟨tk3, _, η3, H3, I3, g3, st3, rfl, rfl⟩
    | true =>
      refine Out.via (fun Q E h => wpAny_truthy_bool h) (Out.back (mono_sem _) g3 ?_)
      show Out τ X pins η3 H3 _ ((gc ρ >>= fun e' => f' e e' >>= asB) S3) _ _
      refine Out.seq (t1 := eval c X.env) (W2 := fun w Q E s4 => wpAny (model X.prog X.w) X.A (compareOp op' u w) (fun z s5 => wpAny (model X.prog X.w) X.A (truthy z) Q E s5) E s4) (fun Q E h => PyProof.Rows.test_last h) (hc pins s3 σ3 H3 ρ η3 S3 I3 tk3 ((sr.grow g1).grow (g2.trans g3)) st3) ?_
      rintro w s4 σ4 η4 H4 e4 S4 _ tk4 I4 g4 st4 ⟨rfl, y4, r4, re4⟩
      refine Out.back (mono_then _ fun z => mono_sem _) g4 ?_
      refine Out.seq (t1 := compareOp op' u w) (W2 := fun z => sem X (truthy z)) (fun Q E h => h) (ho' pins s4 σ4 H4 η4 S4 y y4 u w e e4 I4 tk4 st4 ry r4 (re.grow (g3.trans g4)) re4) ?_
      rintro z s5 σ5 η5 H5 d5 S5 _ tk5 I5 g5 st5 ⟨rfl, y5, r5, re5⟩
      exact Out.back (mono_sem _) g5 (asB_ok I5 tk5 st5 r5 re5)
  | _ => trivial
end

/-! ### lists of expressions -/
section
variable {X : Cx} {e : Expr} {es : List Expr}
theorem pdl_nil : PDL τ X [] (fun _ => pure []) := fun pos pins s σ H ρ η S I tk sr st E => Calls.spliced_nil ⟨tk, σ, η, H, I, .refl _ _, st, rfl, [], .nil, .nil⟩
theorem pdl_cons {ga : Env → M D} {gr : Env → M (List D)} (ha : PD τ X e ga) (hr : PDL τ X es gr) (hs : starEach (e :: es) X.env = (false, eval e X.env) :: starEach es X.env) : PDL τ X (e :: es) (fun ρ => ga ρ >>= fun d => gr ρ >>= fun ds => pure (d :: ds)) := by
  intro pos pins s σ H ρ η S I tk sr st
  rw [hs]
  refine Out.seq (t1 := eval e X.env) (W2 := fun v Q E s1 => wpAny (model X.prog X.w) X.A (spliced (backTo pos (starEach es X.env))) (fun vs s2 => Q (v :: vs) s2) E s1) (fun Q E h => Calls.spliced_cons h) (ha pins s σ H ρ η S I tk sr st) ?_
  rintro v s1 σ1 η1 H1 d S1 _ tk1 I1 g1 st1 ⟨rfl, x, rx, rd⟩
  refine Out.back (fun Q Q' E s' hQ w => wpAny_mono w (fun vs s2 z => hQ _ _ z) fun _ _ z => z) g1 ?_
  refine Out.seq (t1 := spliced (backTo pos (starEach es X.env))) (W2 := fun vs Q E s2 => Q (v :: vs) s2) (fun Q E h => h) (hr pos pins s1 σ1 H1 ρ η1 S1 I1 tk1 (sr.grow g1) st1) ?_
  rintro vs s2 σ2 η2 H2 ds S2 _ tk2 I2 g2 st2 ⟨rfl, xs, rxs, rds⟩
  exact fun E => ⟨tk2, _, η2, H2, I2, g2, st2, rfl, x :: xs, .cons rx rxs, .cons (rd.grow g2) rds⟩
theorem pd_tup {g : Env → M (List D)} {k : Nat} {pos : Pos} (h : PDL τ X es g) (hl : ∀ ρ S ds S', g ρ S = .ok ds S' → ds.length ≤ SL) : PD τ X (.Tuple es k pos) (fun ρ => g ρ >>= fun ds => pure (.tup ds)) := by
  intro pins s σ H ρ η S I tk sr st
  refine Out.seq (t1 := spliced (backTo pos (starEach es X.env))) (W2 := fun vs Q E s1 => vs.length ≤ sizeLine ∧ Q (.ref s1.heap.objs.size) { s1 with heap := s1.heap.push { cls := .type "tuple", data := .seq vs.toArray } }) (fun Q E h => wpAny_Tuple_spliced h) (h pos pins s σ H ρ η S I tk sr st) ?_
  rintro vs s1 σ1 η1 H1 ds S1 q1 tk1 I1 g1 st1 ⟨rfl, xs, rxs, rds⟩
  intro E
  have z : xs.length ≤ sizeLine := by rw [← rds.length]; exact sl_le (hl _ _ _ _ q1)
  have hf : H1 s1.heap.objs.size = none := I1.hok.fresh (Nat.le_refl _)
  obtain ⟨η2, g2, st2, r2⟩ := good_newT st1 rds hf
  refine ⟨by rw [← rxs.length]; exact z, tk1, σ1, η2, _, I1.laid (t' := s1.toks) (fun b u e => Heap.get?_push_of_some _ e) (Nat.le_refl _) ?_, g1.trans g2, st2, rfl, .ref _, rfl, r2⟩
  exact ⟨z, vs, rxs, ⟨_, Heap.get?_push_size _ rfl, rfl, _, rfl⟩⟩
theorem pd_lst {g : Env → M (List D)} {m : Bool} {pos : Pos} (h : PDL τ X es g) (hl : ∀ ρ S ds S', g ρ S = .ok ds S' → ds.length ≤ SL) : PD τ X (.List es pos) (fun ρ => g ρ >>= fun ds => newL m ds) := by
  intro pins s σ H ρ η S I tk sr st
  refine Out.seq (t1 := spliced (backTo pos (starEach es X.env))) (W2 := fun vs Q E s1 => vs.length ≤ sizeLine ∧ Q (.ref s1.heap.objs.size) { s1 with heap := s1.heap.push { cls := .type "list", data := .seq vs.toArray } }) (fun Q E h => wpAny_List_spliced h) (h pos pins s σ H ρ η S I tk sr st) ?_
  rintro vs s1 σ1 η1 H1 ds S1 q1 tk1 I1 g1 st1 ⟨rfl, xs, rxs, rds⟩
  cases q2 : newL m ds S1 with
  | bad => trivial
  | ok d S2 =>
    intro E
    have z : xs.length ≤ sizeLine := by rw [← rds.length]; exact sl_le (hl _ _ _ _ q1)
    have hf : H1 s1.heap.objs.size = none := I1.hok.fresh (Nat.le_refl _)
    obtain ⟨η2, g2, st2, r2⟩ := good_newL st1 rds hf q2
    refine ⟨by rw [← rxs.length]; exact z, tk1, σ1, η2, _, I1.laid (t' := s1.toks) (fun b u e => Heap.get?_push_of_some _ e) (Nat.le_refl _) ?_, g1.trans g2, st2, rfl, .ref _, rfl, r2⟩
    exact ⟨z, vs, 0, rxs, Heap.get?_push_size _ rfl⟩

/-! ### calls -/
theorem pd_fnB {x : Str} {id : String} {f : List D → M D} {g : Env → M (List D)} {p pos : Pos} (ho : OpL τ X (fun us => call (.builtin id) us) f) (hg : Gl X x) (hm : X.mg x = none) (hv : bootBuiltins x = some (.builtin id)) (ha : PDL τ X (e :: es) g) (hn : x ≠ "__name__") (hdb : (x == ("__debug__" : Str)) = false)
    (he : starEach (e :: es) X.env = (false, eval e X.env) :: starEach es X.env) (hpl : (backTo pos (starEach es X.env)).any (·.1) = false) : PD τ X (.Call (.Name x p) (e :: es) [] pos) (fun ρ => g ρ >>= f) := by
  intro pins s σ H ρ η S I tk sr st
  refine Out.seq (t1 := spliced (backTo pos (starEach (e :: es) X.env))) (W2 := fun us => sem X (call (.builtin id) us)) (fun Q E h => wpAny_Call_Name_kw (ld_blt I hg hm hv (PyProof.Rows.callWith_builtin1 h he hpl) hn hdb)) (ha pos pins s σ H ρ η S I tk sr st) ?_
  rintro us s1 σ1 η1 H1 ds S1 q1 tk1 I1 g1 st1 ⟨rfl, xs, rxs, rds⟩
  exact Out.back (mono_sem _) g1 (ho pins s1 σ1 H1 η1 S1 xs us ds I1 tk1 st1 rxs rds)
theorem pd_fnT {x : Str} {T : String} {f : List D → M D} {g : Env → M (List D)} {p pos : Pos} (ho : OpL τ X (fun us => call (.type T) us) f) (hg : Gl X x) (hm : X.mg x = none) (hv : bootBuiltins x = some (.type T)) (ha : PDL τ X (e :: es) g) (hn : x ≠ "__name__") (hdb : (x == ("__debug__" : Str)) = false)
    (he : starEach (e :: es) X.env = (false, eval e X.env) :: starEach es X.env) (hpl : (backTo pos (starEach es X.env)).any (·.1) = false) : PD τ X (.Call (.Name x p) (e :: es) [] pos) (fun ρ => g ρ >>= f) := by
  intro pins s σ H ρ η S I tk sr st
  refine Out.seq (t1 := spliced (backTo pos (starEach (e :: es) X.env))) (W2 := fun us => sem X (call (.type T) us)) (fun Q E h => wpAny_Call_Name_kw (ld_blt I hg hm hv (PyProof.Rows.callWith_type1 h he hpl) hn hdb)) (ha pos pins s σ H ρ η S I tk sr st) ?_
  rintro us s1 σ1 η1 H1 ds S1 q1 tk1 I1 g1 st1 ⟨rfl, xs, rxs, rds⟩
  exact Out.back (mono_sem _) g1 (ho pins s1 σ1 H1 η1 S1 xs us ds I1 tk1 st1 rxs rds)
/-- one argument -/
theorem opL_of_op1 {f : Value → Sem Value} {F : List Value → Sem Value} {g : D → M D} (h : Op1 τ X f g) (hF : ∀ u, F [u] = f u) : OpL τ X F (fun ds => match ds with | [d] => g d | _ => M.fail) := by
  intro pins s σ H η S xs us ds I tk st rv rd
  match ds, rd with
  | [], _ => trivial
  | _ :: _ :: _, _ => trivial
  | [d], rd =>
    obtain ⟨x, e1, r⟩ := one_of (ds := []) rd
    subst e1
    cases rv with
    | cons rv1 rv2 =>
      cases rv2
      rw [hF]
      exact h pins s σ H η S x _ d I tk st rv1 r
/-- isinstance(e, T) -/
theorem pd_isi {ga : Env → M D} {t : Ty} {p p2 pos : Pos} (ha : PD τ X e ga) (hg : Gl X "isinstance") (hm : X.mg "isinstance" = none) (hgT : Gl X (Str.ofString t.name)) (hmT : X.mg (Str.ofString t.name) = none)
    (he : starEach (e :: [.Name (Str.ofString t.name) p2]) X.env = (false, eval e X.env) :: starEach [.Name (Str.ofString t.name) p2] X.env) :
    PD τ X (.Call (.Name "isinstance" p) [e, .Name (Str.ofString t.name) p2] [] pos) (fun ρ => ga ρ >>= isinstD t) := by
  intro pins s σ H ρ η S I tk sr st
  have hT : bootBuiltins (Str.ofString t.name) = some (.type t.name) := by cases t <;> decide +kernel
  have hT2 : Str.ofString t.name ≠ "__name__" := by cases t <;> decide
  have hT3 : (Str.ofString t.name == ("__debug__" : Str)) = false := by cases t <;> decide
  have hs2 : starEach [.Name (Str.ofString t.name) p2] X.env = [(false, eval (.Name (Str.ofString t.name) p2) X.env)] := rfl
  refine Out.seq (t1 := eval e X.env) (W2 := fun v Q E s1 => wpAny (model X.prog X.w) X.A (spliced (backTo pos (starEach [.Name (Str.ofString t.name) p2] X.env))) (fun vs s2 => wpAny (model X.prog X.w) X.A (call (.builtin "isinstance") (v :: vs)) Q E s2) E s1)
    (fun Q E h => wpAny_Call_Name_kw (ld_blt (u := .builtin "isinstance") I hg hm (by decide +kernel) (PyProof.Rows.callWith_builtin1 (by rw [he]; exact Calls.spliced_cons h) he rfl) (by decide) (by decide))) (ha pins s σ H ρ η S I tk sr st) ?_
  rintro v s1 σ1 η1 H1 d S1 _ tk1 I1 g1 st1 ⟨rfl, x, rx, rd⟩
  refine Out.via (fun Q E h => ?_) (Out.back (mono_sem _) g1 (call_isinstD t pins s1 σ1 H1 η1 S1 x v d I1 tk1 st1 rx rd))
  exact Calls.spliced_cons (ld_blt I1 hgT hmT hT (Calls.spliced_nil h) hT2 hT3)

/-! ### methods -/
theorem pd_meth {T id : String} {name : Str} {o : Expr} {go : Env → M D} {g : Env → M (List D)} {f : D → List D → M D} {apos cpos : Pos} (pa : PlainAttrs T) (slot : Slot T name id) (hty : typeOf (.builtin id) = pure (.type "method_descriptor")) (hm : Mt τ X T id f)
    (ht : ∀ {η : List Addr} {H : Hp} {S : Sto} {d : D} {x : V} {ds : List D} {d' : D} {S' : Sto} {S2 : Sto}, StoOk X.K η H S → Rep X.K η H d x → f d ds S2 = .ok d' S' → tyV X.K T x H)
    (ho : PD τ X o go) (ha : PDL τ X (e :: es) g) (hbase : attributeBase o name X.env (eval o X.env) = eval o X.env)
    (hfew : ((backTo cpos (starEach (e :: es) X.env)).all (fun x => !x.1) && (backToKw cpos (keywordEach [] X.env)).all (fun x => x.1.isSome) && decide ((e :: es).length + ([] : List Keyword).length + (if ([] : List Keyword).isEmpty then 0 else 1) < 30)) = true)
    (hline : (apos.endLine == cpos.line) = true) (hs : starEach (e :: es) X.env = (false, eval e X.env) :: starEach es X.env) (hplain : (backTo cpos (starEach es X.env)).any (·.1) = false) :
    PD τ X (.Call (.Attribute o name apos) (e :: es) [] cpos) (fun ρ => go ρ >>= fun d => g ρ >>= fun ds => f d ds) := by
  intro pins s σ H ρ η S I tk sr st
  refine Out.seq (t1 := eval o X.env) (W2 := fun v Q E s1 => MethodOn X.prog X.w X.A name cpos v (backTo cpos (starEach (e :: es) X.env)) Q E s1) (fun Q E h => wpAny_Call_method_late hbase hfew hline rfl h) (ho pins s σ H ρ η S I tk sr st) ?_
  rintro v s1 σ1 η1 H1 d S1 _ tk1 I1 g1 st1 ⟨rfl, x, rx, rd⟩
  have key : Out τ X pins η1 H1 (relV X.K σ1) ((g ρ >>= fun ds => f d ds) S1) (fun Q E s1 => wpAny (model X.prog X.w) X.A (spliced (backTo cpos (starEach (e :: es) X.env))) (fun us s2 => wpAny (model X.prog X.w) X.A (call (.builtin id) (v :: us)) Q E s2) E s1) s1 := by
    refine Out.seq (t1 := spliced (backTo cpos (starEach (e :: es) X.env))) (W2 := fun us => sem X (call (.builtin id) (v :: us))) (fun Q E h => h) (ha cpos pins s1 σ1 H1 ρ η1 S1 I1 tk1 (sr.grow g1) st1) ?_
    rintro us s2 σ2 η2 H2 ds S2 q2 tk2 I2 g2 st2 ⟨rfl, xs, rxs, rds⟩
    exact Out.back (mono_sem _) g2 (hm pins s2 σ2 H2 η2 S2 x xs v us d ds I2 tk2 st2 rx rxs (rd.grow g2) rds)
  have key := Out.back (mono_then _ fun us => mono_sem _) g1 key
  cases q : (g ρ >>= fun ds => f d ds) S1 with
  | bad => trivial
  | ok d' S' =>
    rw [q] at key
    intro E
    have hf : ∃ ds S2, f d ds S2 = .ok d' S' := by
      rw [bind_run] at q
      cases q2 : g ρ S1 with
      | bad => rw [q2] at q; cases q
      | ok ds S2 => rw [q2] at q; exact ⟨ds, S2, q⟩
    obtain ⟨ds, S2, hf⟩ := hf
    obtain ⟨h1, h2⟩ := tyV_is I1 rx (ht st1 rd hf)
    exact ⟨T, id, pa, slot, hty, h1, h2, Calls.callWith_builtin (by rw [hs]; show (false || (backTo cpos (starEach es X.env)).any (·.1)) = false; rw [hplain]; rfl) (by rw [hs]; exact Calls.evalArgs_plain (by rw [hs] at key; exact key E))⟩
end
end MP

/-! MP8: slices; own functions. -/
namespace MP
open PySem L2
/-! ### slices -/
def POD (τ : Nat) (X : Cx) (o : Option Expr) (g : Env → M (Option Int)) : Prop := ∀ (pins : List (Addr × Obj)) (s : Shared) (σ : L2.St) (H : Hp) (ρ : Env) (η : List Addr) (S : Sto),
  Inv X pins σ H s → τ ≤ s.toks → SRel X.K η H σ ρ → StoOk X.K η H S → Out τ X pins η H (fun σ' _ _ (i : Option Int) (u : Value) => σ' = σ ∧ IsPart u i) (g ρ S) (sem X (evalPart o X.env)) s
def asI : D → M (Option Int)
  | .int i => pure (some i)
  | _ => M.fail
section
variable {X : Cx} {e : Expr} {lo hi : Option Expr} {pos p2 : Pos}
theorem pod_none : POD τ X none (fun _ => pure none) := by
  intro pins s σ H ρ η S I tk sr st E
  rw [evalPart_none]
  exact wpAny_pure ⟨tk, σ, η, H, I, .refl _ _, st, rfl, .none⟩
theorem pod_some {g : Env → M D} (h : PD τ X e g) : POD τ X (some e) (fun ρ => g ρ >>= asI) := by
  intro pins s σ H ρ η S I tk sr st
  rw [evalPart_some]
  refine Out.seq (t1 := eval e X.env) (W2 := fun v Q E s' => Q v s') (fun Q E h => h) (h pins s σ H ρ η S I tk sr st) ?_
  rintro v s1 σ1 η1 H1 d S1 _ tk1 I1 g1 st1 ⟨rfl, x, rx, rd⟩
  cases rd with
  | int i =>
    obtain ⟨t, rfl⟩ := rx
    exact fun E => ⟨tk1, _, η1, H1, I1, g1, st1, rfl, .int i t⟩
  | _ => trivial
theorem pd_slice {m : Bool} {ge : Env → M D} {gl gh : Env → M (Option Int)} (he : PD τ X e ge) (hl : POD τ X lo gl) (hh : POD τ X hi gh) : PD τ X (.Subscript e (.Slice lo hi none p2) pos) (fun ρ => ge ρ >>= fun d => gl ρ >>= fun l => gh ρ >>= fun h => sliceE m d l h) := by
  intro pins s σ H ρ η S I tk sr st
  refine Out.seq (t1 := eval e X.env) (W2 := fun v Q E s1 => wpAny (model X.prog X.w) X.A (evalPart lo X.env) (fun vl s2 => wpAny (model X.prog X.w) X.A (evalPart hi X.env) (fun vu s3 =>
    wpAny (model X.prog X.w) X.A (PyProof.Rows.subscriptTail e (.Slice lo hi none p2) v (.ref s3.heap.objs.size)) Q E { s3 with heap := s3.heap.push { cls := .type "slice", data := .fields #[vl, vu, .none] } }) E s2) E s1)
    (fun Q E h => PyProof.Rows.Subscript_ (wpAny_mono h (fun v s1 z => wpAny_Slice (wpAny_mono z (fun vl s2 z2 => wpAny_mono z2 (fun vu s3 z3 => by rw [evalPart_none]; exact wpAny_pure z3) fun _ _ z => z) fun _ _ z => z)) fun _ _ z => z)) (he pins s σ H ρ η S I tk sr st) ?_
  rintro v s1 σ1 η1 H1 d S1 _ tk1 I1 g1 st1 ⟨rfl, x, rx, rd⟩
  have mono3 : ∀ v vl, MonoW (fun Q E s2 => wpAny (model X.prog X.w) X.A (evalPart hi X.env) (fun vu s3 => wpAny (model X.prog X.w) X.A (PyProof.Rows.subscriptTail e (.Slice lo hi none p2) v (.ref s3.heap.objs.size)) Q E { s3 with heap := s3.heap.push { cls := .type "slice", data := .fields #[vl, vu, .none] } }) E s2) :=
    fun v vl Q Q' E s hQ w => wpAny_mono w (fun vu s3 z => wpAny_mono z hQ fun _ _ z => z) fun _ _ z => z
  refine Out.back (fun Q Q' E s hQ w => wpAny_mono w (fun vl s2 z => mono3 v vl Q Q' E s2 hQ z) fun _ _ z => z) g1 ?_
  refine Out.seq (t1 := evalPart lo X.env) (W2 := fun vl Q E s2 => wpAny (model X.prog X.w) X.A (evalPart hi X.env) (fun vu s3 =>
    wpAny (model X.prog X.w) X.A (PyProof.Rows.subscriptTail e (.Slice lo hi none p2) v (.ref s3.heap.objs.size)) Q E { s3 with heap := s3.heap.push { cls := .type "slice", data := .fields #[vl, vu, .none] } }) E s2) (fun Q E h => h) (hl pins s1 σ1 H1 ρ η1 S1 I1 tk1 (sr.grow g1) st1) ?_
  rintro vl s2 σ2 η2 H2 l S2 _ tk2 I2 g2 st2 ⟨rfl, pl⟩
  refine Out.back (mono3 v vl) g2 ?_
  refine Out.seq (t1 := evalPart hi X.env) (W2 := fun vu Q E s3 => wpAny (model X.prog X.w) X.A (PyProof.Rows.subscriptTail e (.Slice lo hi none p2) v (.ref s3.heap.objs.size)) Q E { s3 with heap := s3.heap.push { cls := .type "slice", data := .fields #[vl, vu, .none] } }) (fun Q E h => h) (hh pins s2 σ2 H2 ρ η2 S2 I2 tk2 ((sr.grow g1).grow g2) st2) ?_
  rintro vu s3 σ3 η3 H3 h S3 _ tk3 I3 g3 st3 ⟨rfl, pu⟩
  have I4 : Inv X pins σ3 H3 { s3 with heap := s3.heap.push { cls := .type "slice", data := .fields #[vl, vu, .none] } } := I3.kept (t' := s3.toks) fun b ob q => Heap.get?_push_of_some _ q
  cases q : sliceE m d l h S3 with
  | bad => trivial
  | ok d' S' =>
    have key : Out τ X pins η3 H3 (relV X.K σ3) (.ok d' S') (sem X (PyProof.Rows.subscriptTail e (.Slice lo hi none p2) v (.ref s3.heap.objs.size))) { s3 with heap := s3.heap.push { cls := .type "slice", data := .fields #[vl, vu, .none] } } := by
      refine out_ok tk3 fun E => ?_
      obtain ⟨T, id, hT, ht, hg⟩ := sl_okD (E := E) I4 st3 rx (rd.grow (g2.trans g3)) (Heap.IsSliceOf.new ..) pl pu q
      exact PyProof.Rows.tail_any (ops := [.ref s3.heap.objs.size, v]) ht hT hg (by with_unfolding_all rfl)
    have key2 := Out.back (mono_sem _) g3 key
    exact fun E => key2 E
end
end MP

/-! MP9: functions, statements. -/
namespace MP
open PySem L2
/-! ### flows -/
inductive Fl where
  | next (ρ : Env)
  | ret (d : D)
  | brk (ρ : Env)
  | cont (ρ : Env)
def relF (K : PySem.W.Frag) : L2.St → List Addr → Hp → Fl → Flow → Prop := fun σ η H f u => match f, u with
  | .next ρ, .next => SRel K η H σ ρ
  | .brk ρ, .brk => SRel K η H σ ρ
  | .cont ρ, .cont => SRel K η H σ ρ
  | .ret d, .ret w => ∃ v, RelV v w ∧ Rep K η H d v
  | _, _ => False
def relE (K : PySem.W.Frag) : L2.St → List Addr → Hp → Env → Unit → Prop := fun σ η H ρ _ => SRel K η H σ ρ
def PSD (τ : Nat) (X : Cx) (st : Stmt) (g : Env → M Fl) : Prop := ∀ (pins : List (Addr × Obj)) (s : Shared) (σ : L2.St) (H : Hp) (ρ : Env) (η : List Addr) (S : Sto),
  Inv X pins σ H s → τ ≤ s.toks → SRel X.K η H σ ρ → StoOk X.K η H S → Out τ X pins η H (relF X.K) (g ρ S) (sem X (exec st X.env)) s
def PSDs (τ : Nat) (X : Cx) (sts : List Stmt) (g : Env → M Fl) : Prop := ∀ (pins : List (Addr × Obj)) (s : Shared) (σ : L2.St) (H : Hp) (ρ : Env) (η : List Addr) (S : Sto),
  Inv X pins σ H s → τ ≤ s.toks → SRel X.K η H σ ρ → StoOk X.K η H S → Out τ X pins η H (relF X.K) (g ρ S) (sem X (execs sts X.env)) s
def PGD (τ : Nat) (X : Cx) (tg : Expr) (g : D → Env → M Env) : Prop := ∀ (pins : List (Addr × Obj)) (s : Shared) (σ : L2.St) (H : Hp) (ρ : Env) (η : List Addr) (S : Sto) (v : V) (u : Value) (d : D),
  Inv X pins σ H s → τ ≤ s.toks → SRel X.K η H σ ρ → StoOk X.K η H S → RelV v u → Rep X.K η H d v → Out τ X pins η H (relE X.K) (g d ρ S) (sem X (assign tg X.env u)) s

/-! ### functions -/
def FnD (τ : Nat) (P : Program) (w : World) (K : PySem.W.Frag) (mg : Str → Option Value) (base : Heap) (n : Nat) (f : Addr) (fd : FuncData) (ps : List Str) (g : List D → M D) : Prop :=
  ∀ (A : Around) (outer : List PySem.Env) (s : Shared) (H : Hp) (args : Args) (us : List Value) (vs : List V) (ds : List D) (η : List Addr) (S : Sto) (d : D) (S' : Sto), Room n A → A.guards = some [] → τ ≤ s.toks → Env0 P w K mg base A outer s H → BindsTo s fd args (ps.zip us) → Vals vs us →
    Reps K η H ds vs → ds.length = ps.length → StoOk K η H S → g ds S = .ok d S' →
    codeAny (model P w) A (.call (.ref f) args) (fun r s' => ∃ u v η' H', r = .ok (.ret u) ∧ τ ≤ s'.toks ∧ s'.os = s.os ∧ PyProof.Rows.AllBare s'.gens ∧ Un (frs outer) [] H H' s.heap s'.heap ∧ HOk P w H' s'.heap ∧ Grow η H η' H' ∧ StoOk K η' H' S' ∧ RelV v u ∧ Rep K η' H' d v) s
section
variable {X : Cx} {n : Nat}
theorem run_fnD {f : Addr} {fd : FuncData} {ps : List Str} {g : List D → M D} (F : FnD τ X.prog X.w X.K X.mg X.base n f fd ps g) (c : Ck n X) (hb : Binds X.K fd ps []) {pins : List (Addr × Obj)} {s : Shared} {σ : L2.St} {H : Hp} {η : List Addr} {S : Sto} {xs : List V} {us : List Value} {ds : List D}
    (I : Inv X pins σ H s) (tk : τ ≤ s.toks) (st : StoOk X.K η H S) (rv : Vals xs us) (rd : Reps X.K η H ds xs) (hl : ds.length = ps.length) : Out τ X pins η H (relV X.K σ) (g ds S) (sem X (call (.ref f) us)) s := by
  refine Out.never fun d S' q => ?_
  have hu : us.length = ps.length := by rw [← rv.length, ← rd.length]; exact hl
  have hbt := hb s us I.kIn (by rw [List.append_nil]; exact hu)
  rw [List.append_nil] at hbt
  refine wpAny_call (codeAny_mono (F X.A X.stack s H ⟨us, []⟩ us xs ds η S d S' c.rm c.gd tk I.env0 hbt rv rd hl st q) fun r s' z => ?_)
  obtain ⟨u, v, η', H', e, tk', os, bare, un, hok, g1, st1, ru, rp⟩ := z
  subst e
  exact ⟨tk', σ, η', H', I.call' (ch := []) os un hok bare (fun b hb => absurd hb (by simp)), g1, st1, rfl, v, ru, rp⟩
theorem pd_call {e : Expr} {es : List Expr} {x : Str} {f : Addr} {fd : FuncData} {ps : List Str} {g : List D → M D} {gl : Env → M (List D)} {p pos : Pos} (F : FnD τ X.prog X.w X.K X.mg X.base n f fd ps g) (c : Ck n X) (hg : Gl X x) (hm : X.mg x = some (.ref f)) (hk : PySem.W.keepIn X.K (.ref f) = true) (hb : Binds X.K fd ps [])
    (ha : PDL τ X (e :: es) gl) (hl : ∀ ρ S ds S', gl ρ S = .ok ds S' → ds.length = ps.length) (hdb : (x == ("__debug__" : Str)) = false) (he : starEach (e :: es) X.env = (false, eval e X.env) :: starEach es X.env) (hpl : (backTo pos (starEach es X.env)).any (·.1) = false) :
    PD τ X (.Call (.Name x p) (e :: es) [] pos) (fun ρ => gl ρ >>= g) := by
  intro pins s σ H ρ η S I tk sr st
  refine Out.seq (t1 := spliced (backTo pos (starEach (e :: es) X.env))) (W2 := fun us Q E s1 => X.K.In s1.heap ∧ wpAny (model X.prog X.w) X.A (call (.ref f) us) Q E s1)
    (fun Q E h => wpAny_Call_Name_kw (ld_glob I hg hm (PySem.W.callWith_K (h₀ := X.base) I.ok.mod.kin hk h he hpl) hdb)) (ha pos pins s σ H ρ η S I tk sr st) ?_
  rintro us s1 σ1 η1 H1 ds S1 q1 tk1 I1 g1 st1 ⟨rfl, xs, rxs, rds⟩
  exact Out.via (fun Q E h => ⟨I1.kIn, h⟩) (Out.back (mono_sem _) g1 (run_fnD F c hb I1 tk1 st1 rxs rds (hl _ _ _ _ q1)))
end

/-! ### a def by its body -/
def startD (k : Nat) (ds : List D) : Env := ds.map some ++ List.replicate (k - ds.length) none
def bodyD (k : Nat) (g : Env → M Fl) (ds : List D) : M D := g (startD k ds) >>= fun f => match f with
  | .ret d => pure d
  | .next _ => pure .non
  | _ => M.fail
theorem srel_start {K : PySem.W.Frag} {η : List Addr} {H : Hp} {N : List Str} {ds : List D} {vs : List V} (h : Reps K η H ds vs) : SRel K η H (L2.start N vs) (startD N.length ds) := by
  unfold L2.start startD
  refine ⟨by simp [h.length], fun i d e => ?_⟩
  by_cases hi : i < ds.length
  · rw [List.getElem?_append_left (by simpa using hi), List.getElem?_map] at e
    cases q : ds[i]? with
    | none => rw [q] at e; cases e
    | some d' =>
      rw [q] at e
      cases e
      obtain ⟨v, h1, h2⟩ := h.get q
      exact ⟨v, by rw [List.getElem?_append_left (by simpa [← h.length] using hi), List.getElem?_map, h1]; rfl, h2⟩
  · rw [List.getElem?_append_right (by simpa using hi), List.getElem?_replicate] at e
    split at e <;> cases e
theorem fnd_of {P : Program} {w : World} {K : PySem.W.Frag} {mg : Str → Option Value} {base : Heap} {k : Nat} {x qual : Str} {sm : Stmt} {f : Addr} {fd : FuncData} {N ps : List Str} {g : Env → M Fl} (hsm : ∃ o, base.get? sysModules = some o) (F : Fun K x qual sm f fd) (Sc : FnScope N ps (defScope sm))
    (hbody : ∀ X : Cx, X.prog = P → X.w = w → X.K = K → X.mg = mg → X.base = base → X.N = N → X.env.scope = defScope sm → (∀ x, X.fn x = true) → Ck k X → PSDs τ X (defBody sm) g) :
    FnD τ P w K mg base (k + 1) f fd ps (bodyD N.length g) := by
  obtain ⟨oc, od, kV, doc, pm, an, cdv, ct, osl, rfl, lk, hcd⟩ := F.ex
  intro A outer s H args us vs ds η S d S' hr hgd tk e0 hb rv rd hl st q
  have KX : K.In s.heap := e0.mod.kin.keeps fun b o e => (e0.bs b o e).1
  have lim : s.heap.NoLimit := e0.mod.nolimit.keeps fun b o e => (e0.bs b o e).1
  have hkind : ∀ y ∈ ps.zip us, (defScope sm).names.lookup y.1 = some .local ∨ ((defScope sm).names.lookup y.1 = some .cell ∧ ((cellsFrom (s.heap.objs.size + 1) (defScope sm).names []).lookup y.1).isSome = true) := fun ⟨m, v⟩ hy => by
    rcases Sc.par m (List.of_mem_zip hy).1 with z | z
    · exact .inl z
    · exact .inr ⟨z, PySem.W.cellsFrom_some _ _ _ (.inl z)⟩
  refine codeAny_call_function hr.depth (KX _ _ lk) rfl Sc.co Sc.gen rfl (PySem.W.codeRec_of KX hcd) (hb _ _ _ _ ?_)
  refine wpAny_mono (PySem.wpAny_toks (wpAny_newFunctionEnv_cells (Q := fun env s1 => env = newEnv (defScope sm) s.heap.objs.size mainGlobals (cellsFrom (s.heap.objs.size + 1) (defScope sm).names []) (qual ++ ".<locals>.") (some f) cdv none builtinsNs ∧
    InCallC s env.locals (bindL env.kindOf (ps.zip us) fun _ => none) env.cells (bindC env.kindOf (ps.zip us) fun _ => none) s1) Sc.kind hkind fun env he s1 y => ⟨he, y⟩)) (fun env s1 z => ?_) fun _ _ z => z.2
  obtain ⟨tk1, he, y⟩ := z
  subst he
  refine ⟨lim.keeps y.toInCall.keep, codeAny_func ?_⟩
  have I := inv_start (CX := CX0) (E := E0) (cd := cdv) (f := f) (qual := qual) Sc hr.hd e0 (by rw [← rd.length]; exact hl) rv y
  have g0 : Grow η H η H := .refl _ _
  have sr := srel_start (N := N) rd
  have hq : ∃ fl, g (startD N.length ds) S = .ok fl S' ∧ (fl = .ret d ∨ (∃ ρ, fl = .next ρ) ∧ d = .non) := by
    unfold bodyD at q
    rw [bind_run] at q
    cases z : g (startD N.length ds) S with
    | bad => rw [z] at q; cases q
    | ok fl S2 =>
      rw [z] at q
      cases fl with
      | ret d' => cases q; exact ⟨_, rfl, .inl rfl⟩
      | next ρ => cases q; exact ⟨_, rfl, .inr ⟨⟨ρ, rfl⟩, rfl⟩⟩
      | brk => cases q
      | cont => cases q
  obtain ⟨fl, hg, hfl⟩ := hq
  have key := hbody (cxOf CX0 P w K mg base N qual (defScope sm) f cdv A outer s H E0) rfl rfl rfl rfl rfl rfl rfl (fun _ => rfl) ⟨rfl, hgd, hr.deeper _, hsm, Sc.nd⟩ [] s1 (L2.start N vs) H (startD N.length ds) η S I (Nat.le_trans tk tk1) sr st
  rw [hg] at key
  refine wpAny_mono (key (fun _ _ => False)) (fun fw s' z => ?_) fun _ _ z => z.elim
  obtain ⟨tk2, σ2, η2, H2, I2, g2, st2, r2⟩ := z
  rcases hfl with rfl | ⟨⟨ρ, rfl⟩, rfl⟩
  · cases fw with
    | ret u =>
      obtain ⟨v, ru, rp⟩ := r2
      exact ⟨u, v, η2, H2, rfl, tk2, I2.os, I2.bare, I2.base, I2.hok, g2, st2, ru, rp⟩
    | next => exact r2.elim
    | brk => exact r2.elim
    | cont => exact r2.elim
  · cases fw with
    | next => exact ⟨.none, .non, η2, H2, rfl, tk2, I2.os, I2.bare, I2.base, I2.hok, g2, st2, rfl, .non⟩
    | ret u => exact r2.elim
    | brk => exact r2.elim
    | cont => exact r2.elim
end MP

/-! MP10: statements. -/
namespace MP
open PySem L2
section
variable {X : Cx} {st : Stmt} {rest : List Stmt} {e c : Expr} {pos : Pos}
/-! ### blocks -/
def thenF (g : Env → M Fl) (f : Fl) : M Fl := match f with
  | .next ρ => g ρ
  | f => pure f
theorem psd_nil : PSDs τ X [] (fun ρ => pure (.next ρ)) := fun pins s σ H ρ η S I tk sr st' E => wpAny_execs_nil ⟨tk, σ, η, H, I, .refl _ _, st', sr⟩
theorem psd_cons {g1 g2 : Env → M Fl} (h1 : PSD τ X st g1) (h2 : PSDs τ X rest g2) : PSDs τ X (st :: rest) (fun ρ => g1 ρ >>= thenF g2) := by
  intro pins s σ H ρ η S I tk sr st'
  refine Out.seq (t1 := exec st X.env) (W2 := fun f Q E s' => match f with | .next => wpAny (model X.prog X.w) X.A (execs rest X.env) Q E s' | f => Q f s') (fun Q E h => wpAny_execs_cons h) (h1 pins s σ H ρ η S I tk sr st') ?_
  intro f s1 σ1 η1 H1 fl S1 _ tk1 I1 g1 st1 r1
  cases fl with
  | next ρ1 =>
    cases f with
    | next => exact Out.back (mono_sem _) g1 (h2 pins s1 σ1 H1 ρ1 η1 S1 I1 tk1 r1 st1)
    | _ => exact r1.elim
  | ret d =>
    cases f with
    | ret u => exact fun E => ⟨tk1, σ1, η1, H1, I1, g1, st1, r1⟩
    | _ => exact r1.elim
  | brk d =>
    cases f with
    | brk => exact fun E => ⟨tk1, σ1, η1, H1, I1, g1, st1, r1⟩
    | _ => exact r1.elim
  | cont d =>
    cases f with
    | cont => exact fun E => ⟨tk1, σ1, η1, H1, I1, g1, st1, r1⟩
    | _ => exact r1.elim
theorem psd_pass : PSD τ X (.Pass pos) (fun ρ => pure (.next ρ)) := fun pins s σ H ρ η S I tk sr st' E => wpAny_Pass ⟨tk, σ, η, H, I, .refl _ _, st', sr⟩
theorem psd_brk : PSD τ X (.Break pos) (fun ρ => pure (.brk ρ)) := fun pins s σ H ρ η S I tk sr st' E => wpAny_Break ⟨tk, σ, η, H, I, .refl _ _, st', sr⟩
theorem psd_cont : PSD τ X (.Continue pos) (fun ρ => pure (.cont ρ)) := fun pins s σ H ρ η S I tk sr st' E => wpAny_Continue ⟨tk, σ, η, H, I, .refl _ _, st', sr⟩
theorem psd_ret {g : Env → M D} (h : PD τ X e g) : PSD τ X (.Return (some e) pos) (fun ρ => g ρ >>= fun d => pure (.ret d)) := by
  intro pins s σ H ρ η S I tk sr st'
  refine Out.seq (t1 := eval e X.env) (W2 := fun v Q E s' => Q (.ret v) s') (fun Q E h => wpAny_Return_some h) (h pins s σ H ρ η S I tk sr st') ?_
  rintro v s1 σ1 η1 H1 d S1 _ tk1 I1 g1 st1 ⟨rfl, x, rx, rd⟩
  exact fun E => ⟨tk1, _, η1, H1, I1, g1, st1, x, rx, rd⟩
theorem psd_expr {g : Env → M D} (h : PD τ X e g) (hs : swapsWith e none pos.line X.env = pure false) : PSD τ X (.Expr e pos) (fun ρ => g ρ >>= fun _ => pure (.next ρ)) := by
  intro pins s σ H ρ η S I tk sr st'
  refine Out.seq (t1 := eval e X.env) (W2 := fun v Q E s' => Q .next s') (fun Q E h => wpAny_Expr_any h I.quiet hs) (h pins s σ H ρ η S I tk sr st') ?_
  rintro v s1 σ1 η1 H1 d S1 _ tk1 I1 g1 st1 ⟨rfl, x, rx, rd⟩
  exact fun E => ⟨tk1, _, η1, H1, I1, g1, st1, sr.grow g1⟩
theorem psd_if {a b : List Stmt} {gt : Env → M Bool} {ga gb : Env → M Fl} (hc : PDB τ X c gt) (ha : PSDs τ X a ga) (hb : PSDs τ X b gb) : PSD τ X (.If c a b pos) (fun ρ => gt ρ >>= fun t => if t = true then ga ρ else gb ρ) := by
  intro pins s σ H ρ η S I tk sr st'
  refine Out.seq (t1 := isTrue c X.env (eval c X.env)) (W2 := fun t Q E s1 => if t then wpAny (model X.prog X.w) X.A (execs a X.env) Q E s1 else wpAny (model X.prog X.w) X.A (execs b X.env) Q E s1) (fun Q E h => wpAny_If h) (hc pins s σ H ρ η S I tk sr st') ?_
  rintro t s1 σ1 η1 H1 d S1 _ tk1 I1 g1 st1 ⟨rfl, rfl⟩
  cases d with
  | true => exact Out.back (mono_sem _) g1 (ha pins s1 σ1 H1 ρ η1 S1 I1 tk1 (sr.grow g1) st1)
  | false => exact Out.back (mono_sem _) g1 (hb pins s1 σ1 H1 ρ η1 S1 I1 tk1 (sr.grow g1) st1)

/-! ### targets -/
theorem store_out {pins : List (Addr × Obj)} {s : Shared} {σ : L2.St} {H : Hp} {ρ : Env} {η : List Addr} {S : Sto} {v : V} {u : Value} {d : D} {i : Nat} {x : Str} {β : Type} {b : β} (I : Inv X pins σ H s) (tk : τ ≤ s.toks) (sr : SRel X.K η H σ ρ) (st' : StoOk X.K η H S) (hN : X.N.Nodup) (hi : X.N[i]? = some x) (hx : Loc X.env.scope x)
    (hf : X.fn x = true ∨ X.env.scope.names.lookup x = some .local) (r : RelV v u) (rd : Rep X.K η H d v) (E : Value → Shared → Prop) :
    wpAny (model X.prog X.w) X.A (storeName X.env x u) (fun _ s' => τ ≤ s'.toks ∧ ∃ σ' η' H', Inv X pins σ' H' s' ∧ Grow η H η' H' ∧ StoOk X.K η' H' S ∧ SRel X.K η' H' σ' (ρ.set i (some d))) E s := by
  refine wpAny_mono (PySem.wpAny_toks (store_ok (Q := fun _ s' => Inv X pins (σ.set i (some v)) H s') I hN hi hx r (fun s' I' => I') hf)) (fun _ s' z => ?_) fun _ _ z => z.2
  exact ⟨Nat.le_trans tk z.1, _, η, H, z.2, .refl _ _, st', sr.set rd i⟩
theorem pgd_name {i : Nat} {x : Str} (hN : X.N.Nodup) (hi : X.N[i]? = some x) (hx : Loc X.env.scope x) (hf : X.fn x = true ∨ X.env.scope.names.lookup x = some .local) : PGD τ X (.Name x pos) (fun d ρ => pure (ρ.set i (some d))) := by
  intro pins s σ H ρ η S v u d I tk sr st' r rd E
  exact wpAny_assign_Name (store_out (β := Unit) (b := ()) I tk sr st' hN hi hx hf r rd E)
/-- name = e -/
theorem psd_set {i : Nat} {x : Str} {pos' : Pos} {g : Env → M D} (hN : X.N.Nodup) (hi : X.N[i]? = some x) (hx : Loc X.env.scope x) (hf : X.fn x = true ∨ X.env.scope.names.lookup x = some .local) (h : PD τ X e g) (hs : swapsWith e (some (.Name x pos')) pos.line X.env = pure false) :
    PSD τ X (.Assign [.Name x pos'] e pos) (fun ρ => g ρ >>= fun d => pure (.next (ρ.set i (some d)))) := by
  intro pins s σ H ρ η S I tk sr st'
  refine Out.seq (t1 := eval e X.env) (W2 := fun v Q E s1 => wpAny (model X.prog X.w) X.A (storeName X.env x v) (fun _ => Q .next) E s1) (fun Q E h => wpAny_Assign_Name h hs) (h pins s σ H ρ η S I tk sr st') ?_
  rintro v s1 σ1 η1 H1 d S1 _ tk1 I1 g1 st1 ⟨rfl, y, ry, rd⟩
  intro E
  refine wpAny_mono (store_out (β := Unit) (b := ()) I1 tk1 (sr.grow g1) st1 hN hi hx hf ry rd E) (fun _ s2 z => ?_) fun _ _ z => z
  obtain ⟨tk2, σ2, η2, H2, I2, g2, st2, r2⟩ := z
  exact ⟨tk2, σ2, η2, H2, I2, g1.trans g2, st2, r2⟩
/-- target = e -/
theorem psd_asg {tg : Expr} {g : Env → M D} {ga : D → Env → M Env} (h : PD τ X e g) (ht : PGD τ X tg ga) (hs : swapsWithSole [tg] e pos.line X.env = pure false) (hw : swappedStores [tg] e X.env = pure none) (h1 : (assignEach [tg] X.env).map (·.2) = [assign tg X.env]) :
    PSD τ X (.Assign [tg] e pos) (fun ρ => g ρ >>= fun d => ga d ρ >>= fun ρ' => pure (.next ρ')) := by
  intro pins s σ H ρ η S I tk sr st'
  refine Out.seq (t1 := eval e X.env) (W2 := fun v Q E s1 => wpAny (model X.prog X.w) X.A (assign tg X.env v) (fun _ => Q .next) E s1) (fun Q E h => wpAny_Assign_stores (wpAny_mono h (fun v s1 z => by rw [h1]; exact z) fun _ _ z => z) hs hw) (h pins s σ H ρ η S I tk sr st') ?_
  rintro v s1 σ1 η1 H1 d S1 _ tk1 I1 g1 st1 ⟨rfl, y, ry, rd⟩
  refine Out.back (fun Q Q' E s' hQ w => wpAny_mono w (fun _ s2 z => hQ _ _ z) fun _ _ z => z) g1 ?_
  refine Out.seq (t1 := assign tg X.env v) (W2 := fun _ Q E s2 => Q .next s2) (fun Q E h => h) (ht pins s1 σ1 H1 ρ η1 S1 y v d I1 tk1 (sr.grow g1) st1 ry rd) ?_
  intro _ s2 σ2 η2 H2 ρ2 S2 _ tk2 I2 g2 st2 r2
  exact fun E => ⟨tk2, σ2, η2, H2, I2, g2, st2, r2⟩
/-- o[i] = .. -/
theorem pgd_sub {o i : Expr} {go gi : Env → M D} (ho : PD τ X o go) (hi : PD τ X i gi)
    (ha : ∀ v, assign (.Subscript o i pos) X.env v = (do
      let ov ← holding [v] (eval o X.env)
      let iv ← holding [v, ov] (eval i X.env)
      standAt pos
      holding [v, ov, iv] (setItem ov iv v)
      release [v, ov, iv] [])) : PGD τ X (.Subscript o i pos) (fun d ρ => go ρ >>= fun od => gi ρ >>= fun id => setD od id d >>= fun _ => pure ρ) := by
  intro pins s σ H ρ η S v u d I tk sr st' r rd
  rw [ha]
  refine Out.seq (t1 := eval o X.env) (W2 := fun ov Q E s1 => wpAny (model X.prog X.w) X.A (eval i X.env) (fun iv s2 => wpAny (model X.prog X.w) X.A (setItem ov iv u) (fun _ s3 => Q () s3) E s2) E s1)
    (fun Q E h => wpAny_bind (wpAny_holding (wpAny_mono h (fun ov s1 z => wpAny_bind (wpAny_holding (wpAny_mono z (fun iv s2 z2 => wpAny_bind (wpAny_standAt (wpAny_bind (wpAny_holding (wpAny_mono z2 (fun _ s3 z3 => wpAny_release z3) fun _ _ z => z))))) fun _ _ z => z))) fun _ _ z => z))) (ho pins s σ H ρ η S I tk sr st') ?_
  rintro ov s1 σ1 η1 H1 od S1 _ tk1 I1 g1 st1 ⟨rfl, y, ry, rod⟩
  refine Out.back (fun Q Q' E s' hQ w => wpAny_mono w (fun _ s2 z => wpAny_mono z (fun _ s3 z => hQ _ _ z) fun _ _ z => z) fun _ _ z => z) g1 ?_
  refine Out.seq (t1 := eval i X.env) (W2 := fun iv Q E s2 => wpAny (model X.prog X.w) X.A (setItem ov iv u) (fun _ s3 => Q () s3) E s2) (fun Q E h => h) (hi pins s1 σ1 H1 ρ η1 S1 I1 tk1 (sr.grow g1) st1) ?_
  rintro iv s2 σ2 η2 H2 id S2 _ tk2 I2 g2 st2 ⟨rfl, y2, ry2, rid⟩
  refine Out.back (fun Q Q' E s' hQ w => wpAny_mono w (fun _ s3 z => hQ _ _ z) fun _ _ z => z) g2 ?_
  refine Out.seq (t1 := setItem ov iv u) (W2 := fun _ Q E s2 => Q () s2) (fun Q E h => h) (set_okD I2 tk2 st2 ry ry2 r (rod.grow g2) rid (rd.grow (g1.trans g2))) ?_
  intro _ s3 σ3 η3 H3 _ S3 _ tk3 I3 g3 st3 r3
  have r3 : σ3 = σ2 := r3
  subst r3
  exact fun E => ⟨tk3, _, η3, H3, I3, g3, st3, sr.grow (g1.trans (g2.trans g3))⟩
/-- several targets, one after another -/
def PGDs (τ : Nat) (X : Cx) (ts : List Expr) (g : List D → Env → M Env) : Prop := ∀ (pins : List (Addr × Obj)) (s : Shared) (σ : L2.St) (H : Hp) (ρ : Env) (η : List Addr) (S : Sto) (vs : List V) (us : List Value) (ds : List D),
  Inv X pins σ H s → τ ≤ s.toks → SRel X.K η H σ ρ → StoOk X.K η H S → Vals vs us → Reps X.K η H ds vs → Out τ X pins η H (relE X.K) (g ds ρ S) (sem X (PySem.assignInOrder ((assignEach ts X.env).map (·.2)) us)) s
def asgs : List (D → Env → M Env) → List D → Env → M Env
  | [], [], ρ => pure ρ
  | g :: gs, d :: ds, ρ => g d ρ >>= fun ρ' => asgs gs ds ρ'
  | _, _, _ => M.fail
end
end MP

/-! MP11: what is walked; for. -/
namespace MP
open PySem L2
inductive Src where
  | fix (xs : List D)
  | ref (n : Nat)
def Src.at (S : Sto) (i : Nat) : Src → Option D
  | .fix xs => xs[i]?
  | .ref n => match S[n]? with
    | some (.lst xs) => xs[i]?
    | none => none
def Src.len (S : Sto) : Src → Nat
  | .fix xs => xs.length
  | .ref n => match S[n]? with
    | some (.lst xs) => xs.length
    | none => 0
structure Drv (K : PySem.W.Frag) (J : It) (src : Src) (η1 : List Addr) (H1 : Hp) : Prop where
  go : ∀ {η : List Addr} {H : Hp} {S : Sto} {i : Nat} {d : D}, Grow η1 H1 η H → StoOk K η H S → src.at S i = some d → J.go i H
  yld : ∀ {η : List Addr} {H H' : Hp} {S : Sto} {i : Nat} {d : D} {x : V}, Grow η1 H1 η H → StoOk K η H S → src.at S i = some d → J.yld i H x H' → Grow η H η H' ∧ StoOk K η H' S ∧ Rep K η H' d x
  stop : ∀ {η : List Addr} {H : Hp} {S : Sto} {i : Nat}, Grow η1 H1 η H → StoOk K η H S → src.at S i = none → J.stop i H
def IterOk (τ : Nat) (X : Cx) (pins : List (Addr × Obj)) (σ : L2.St) (η : List Addr) (H : Hp) (tg : Expr) (src : Src) (S1 : Sto) (itv : Value) (s2 : Shared) : Prop :=
  τ ≤ s2.toks ∧ ∃ η1 H1 it fp tn J, itv = .ref it ∧ Inv X pins σ H1 s2 ∧ Grow η H η1 H1 ∧ StoOk X.K η1 H1 S1 ∧ Turn X.prog X.w X.K tg J fp it tn ∧ tn 0 s2.heap ∧ (∀ b ∈ fp, FpOk X pins H1 b) ∧ Drv X.K J src η1 H1
def PID (τ : Nat) (X : Cx) (tg iter : Expr) (g : Env → M Src) : Prop := ∀ (pins : List (Addr × Obj)) (s : Shared) (σ : L2.St) (H : Hp) (ρ : Env) (η : List Addr) (S : Sto) (src : Src) (S1 : Sto),
  Inv X pins σ H s → τ ≤ s.toks → SRel X.K η H σ ρ → StoOk X.K η H S → g ρ S = .ok src S1 →
  wpAny (model X.prog X.w) X.A (eval iter X.env) (fun v s1 => wpAny (model X.prog X.w) X.A (pyIter v) (IterOk τ X pins σ η H tg src S1) (fun _ _ => False) s1) (fun _ _ => False) s

/-! ### sources -/
section
variable {K : PySem.W.Frag} {η1 : List Addr} {H1 : Hp}
theorem drv_lst {a : Addr} {ds : List D} {vs : List V} (h : LstAt η1 H1 a vs) (hr : Reps K η1 H1 ds vs) : Drv K (Itl K a) (.fix ds) η1 H1 where
  go := fun {η H S i d} g st e => by
    have h' : LstAt η H a vs := ⟨g.keep _ _ h.2 h.1, g.notin h.1 h.2⟩
    obtain ⟨v, h1, _⟩ := (hr.grow g).get e
    exact ⟨vs, v, h'.sq, h1⟩
  yld := fun {η H H' S i d x} g st e y => by
    have h' : LstAt η H a vs := ⟨g.keep _ _ h.2 h.1, g.notin h.1 h.2⟩
    obtain ⟨e1, y⟩ := y
    subst e1
    obtain ⟨v, h1, h2⟩ := (hr.grow g).get e
    have := y vs h'.sq
    rw [h1] at this
    cases this
    exact ⟨.refl _ _, st, h2⟩
  stop := fun {η H S i} g st e => by
    have h' : LstAt η H a vs := ⟨g.keep _ _ h.2 h.1, g.notin h.1 h.2⟩
    have e : ds[i]? = none := e
    exact ⟨vs, h'.sq, by rw [← hr.length]; exact List.getElem?_eq_none_iff.mp e⟩
theorem drv_tup {a : Addr} {ds : List D} {vs : List V} (h : TupAt K η1 H1 a vs) (hr : Reps K η1 H1 ds vs) : Drv K (Itt K a) (.fix ds) η1 H1 := by
  have hh : ∀ {η : List Addr} {H : Hp}, Grow η1 H1 η H → TupAt K η H a vs := fun {η H} g => by
    rcases h with h | h
    · exact .inl ⟨g.keep _ _ h.2 h.1, g.notin h.1 h.2⟩
    · exact .inr h
  refine ⟨fun {η H S i d} g st e => ?_, fun {η H H' S i d x} g st e y => ?_, fun {η H S i} g st e => ?_⟩
  · obtain ⟨v, h1, _⟩ := (hr.grow g).get e
    exact ⟨vs, v, (hh g).sq, h1⟩
  · obtain ⟨e1, y⟩ := y
    subst e1
    obtain ⟨v, h1, h2⟩ := (hr.grow g).get e
    have := y vs (hh g).sq
    rw [h1] at this
    cases this
    exact ⟨.refl _ _, st, h2⟩
  · have e : ds[i]? = none := e
    exact ⟨vs, (hh g).sq, by rw [← hr.length]; exact List.getElem?_eq_none_iff.mp e⟩
theorem drv_ref {a : Addr} {n : Nat} (h : η1[n]? = some a) : Drv K (Itl K a) (.ref n) η1 H1 := by
  have hh : ∀ {η : List Addr} {H : Hp} {S : Sto}, Grow η1 H1 η H → StoOk K η H S → ∃ ds vs, S[n]? = some (.lst ds) ∧ H a = some (.lst vs) ∧ Reps K η H ds vs := fun {η H S} g st => by
    obtain ⟨μ, e, _⟩ := g.pre
    have h2 : η[n]? = some a := by rw [e, List.getElem?_append_left (List.getElem?_eq_some_iff.mp h).1]; exact h
    have hn : n < S.length := by rw [← st.len]; exact (List.getElem?_eq_some_iff.mp h2).1
    cases q : S[n] with
    | lst ds =>
      have q2 : S[n]? = some (.lst ds) := by rw [List.getElem?_eq_getElem hn, q]
      obtain ⟨vs, h3, h4⟩ := st.look n _ a q2 h2
      exact ⟨ds, vs, q2, h3, h4⟩
  refine ⟨fun {η H S i d} g st e => ?_, fun {η H H' S i d x} g st e y => ?_, fun {η H S i} g st e => ?_⟩
  · obtain ⟨ds, vs, q, h3, h4⟩ := hh g st
    simp only [Src.at, q] at e
    obtain ⟨v, h1, _⟩ := h4.get e
    exact ⟨vs, v, SqL.of h3, h1⟩
  · obtain ⟨ds, vs, q, h3, h4⟩ := hh g st
    simp only [Src.at, q] at e
    obtain ⟨e1, y⟩ := y
    subst e1
    obtain ⟨v, h1, h2⟩ := h4.get e
    have := y vs (SqL.of h3)
    rw [h1] at this
    cases this
    exact ⟨.refl _ _, st, h2⟩
  · obtain ⟨ds, vs, q, h3, h4⟩ := hh g st
    simp only [Src.at, q] at e
    exact ⟨vs, SqL.of h3, by rw [← h4.length]; exact List.getElem?_eq_none_iff.mp e⟩
def rangeL (lo : Int) (n : Nat) : List D := (List.range n).map fun i => D.int (lo + (i : Nat))
theorem drv_rng (lo : Int) (n : Nat) : Drv K (Itr lo n) (.fix (rangeL lo n)) η1 H1 := by
  refine ⟨fun {η H S i d} g st e => ?_, fun {η H H' S i d x} g st e y => ?_, fun {η H S i} g st e => ?_⟩
  · have e : (rangeL lo n)[i]? = some d := e
    have := (List.getElem?_eq_some_iff.mp e).1
    show i < n
    simpa [rangeL] using this
  · obtain ⟨e1, y⟩ := y
    subst e1
    have e : (rangeL lo n)[i]? = some d := e
    have hi := (List.getElem?_eq_some_iff.mp e).1
    have hi : i < n := by simpa [rangeL] using hi
    simp [rangeL, hi] at e
    subst e
    subst y
    exact ⟨.refl _ _, st, .int _⟩
  · have e : (rangeL lo n)[i]? = none := e
    have := List.getElem?_eq_none_iff.mp e
    show n ≤ i
    simpa [rangeL] using this
def signsL (x : Str) : List D := x.cps.toList.map fun c => D.str ⟨#[c]⟩
theorem drv_str (x : Str) : Drv K (Its x) (.fix (signsL x)) η1 H1 := by
  refine ⟨fun {η H S i d} g st e => ?_, fun {η H H' S i d v} g st e y => ?_, fun {η H S i} g st e => ?_⟩
  · have e : (signsL x)[i]? = some d := e
    have := (List.getElem?_eq_some_iff.mp e).1
    show i < x.cps.size
    simpa [signsL] using this
  · obtain ⟨e1, c, hc, y⟩ := y
    subst e1
    have e : (signsL x)[i]? = some d := e
    unfold signsL at e
    rw [List.getElem?_map, Array.getElem?_toList, hc] at e
    cases e
    subst y
    exact ⟨.refl _ _, st, .str _⟩
  · have e : (signsL x)[i]? = none := e
    have := List.getElem?_eq_none_iff.mp e
    show x.cps.size ≤ i
    simpa [signsL] using this
end

def seqSrc (d : D) : M Src := fun S => match d with
  | .tup xs => .ok (.fix xs) S
  | .lst xs => .ok (.fix xs) S
  | .str x => .ok (.fix (signsL x)) S
  | .ref n => .ok (.ref n) S
  | _ => .bad
section
variable {X : Cx} {tg e : Expr}
theorem it_one {pins : List (Addr × Obj)} {σ : L2.St} {H H1 : Hp} {η η1 : List Addr} {s : Shared} {src : Src} {S1 : Sto} {J : It} {tn : Nat → Heap → Prop} {tk : Nat} (I : Inv X pins σ H1 s) (htk : τ ≤ tk) (g1 : Grow η H η1 H1) (st : StoOk X.K η1 H1 S1) (o : Obj)
    (T : Turn X.prog X.w X.K tg J [s.heap.objs.size] s.heap.objs.size tn) (h0 : tn 0 (s.heap.push o)) (dr : Drv X.K J src η1 H1) : IterOk τ X pins σ η H tg src S1 (.ref s.heap.objs.size) { s with heap := s.heap.push o, toks := tk } := by
  refine ⟨htk, η1, H1, s.heap.objs.size, [s.heap.objs.size], tn, J, rfl, I.kept fun b ob e => Heap.get?_push_of_some _ e, g1, st, T, h0, fun b hb => ?_, dr⟩
  have e : b = s.heap.objs.size := by simpa using hb
  subst e
  exact I.fpOk (Nat.le_refl _) (I.hok.fresh (Nat.le_refl _))
theorem pid_seq {g : Env → M D} (h : PD τ X e g) : PID τ X tg e (fun ρ => g ρ >>= seqSrc) := by
  intro pins s σ H ρ η S src S1 I tk sr st q
  have q : (g ρ >>= seqSrc) S = .ok src S1 := q
  rw [bind_run] at q
  have key := h pins s σ H ρ η S I tk sr st
  cases q1 : g ρ S with
  | bad => rw [q1] at q; cases q
  | ok d S2 =>
    rw [q1] at q key
    refine wpAny_mono (key (fun _ _ => False)) (fun v s1 z => ?_) fun _ _ z => z
    obtain ⟨tk1, σ1, η1, H1, I1, g1, st1, e1, x, rx, rd⟩ := z
    subst e1
    cases rd with
    | tup h1 h2 =>
      cases q
      cases rx
      obtain ⟨its, rv, p, hz⟩ := I1.tuple h1.sq
      exact wpAny_pyIter_tuple (show s1.heap.IsTuple _ its.toArray from p) (it_one I1 tk1 g1 st1 _ (turn_tuple _ _) ⟨_, Heap.get?_push_size _ rfl, rfl, rfl⟩ (drv_tup h1 h2))
    | lst h1 h2 =>
      cases q
      cases rx
      obtain ⟨its, rv, p, hz⟩ := I1.list (LstAt.sq (K := X.K) h1)
      exact wpAny_pyIter_list p.isList (it_one I1 tk1 g1 st1 _ (turn_list _ _) ⟨_, Heap.get?_push_size _ rfl, rfl, rfl⟩ (drv_lst h1 h2))
    | @ref n a h1 =>
      cases q
      cases rx
      obtain ⟨vs, ha⟩ := st1.tracked (List.mem_of_getElem? h1)
      obtain ⟨its, rv, p, hz⟩ := I1.list (SqL.of (K := X.K) ha)
      exact wpAny_pyIter_list p.isList (it_one I1 tk1 g1 st1 _ (turn_list _ _) ⟨_, Heap.get?_push_size _ rfl, rfl, rfl⟩ (drv_ref h1))
    | str y =>
      cases q
      obtain ⟨t, rfl⟩ := rx
      cases ha : y.cps.all (· < 128)
      · exact wpAny_pyIter_wide ha (it_one I1 tk1 g1 st1 _ (turn_str _ y t "str_iterator" (.inr rfl)) ⟨_, Heap.get?_push_size _ rfl, rfl, rfl⟩ (drv_str y))
      · exact wpAny_pyIter_ascii ha (it_one I1 tk1 g1 st1 _ (turn_str _ y t "str_ascii_iterator" (.inl rfl)) ⟨_, Heap.get?_push_size _ rfl, rfl, rfl⟩ (drv_str y))
    | _ => cases q
end
end MP

/-! MP12: range, for. -/
namespace MP
open PySem L2
/-! ### range -/
def rngSrc (ds : List D) : M Src := fun S => match ds with
  | [.int j] => if -(2 ^ 62) ≤ j ∧ j < 2 ^ 62 then .ok (.fix (rangeL 0 j.toNat)) S else .bad
  | [.int i, .int j] => if (-(2 ^ 62) ≤ i ∧ i < 2 ^ 62) ∧ -(2 ^ 62) ≤ j ∧ j < 2 ^ 62 then .ok (.fix (rangeL i (j - i).toNat)) S else .bad
  | _ => .bad
section
variable {X : Cx} {tg : Expr}
theorem rng_one {pins : List (Addr × Obj)} {σ : L2.St} {H H1 : Hp} {η η1 : List Addr} {s : Shared} {S1 : Sto} {E : Value → Shared → Prop} {lo hi : Int} {t u v : Tok} {tk : Nat} (I : Inv X pins σ H1 s) (htk : τ ≤ tk) (g1 : Grow η H η1 H1) (st : StoOk X.K η1 H1 S1) (h1 : -(2 ^ 62) ≤ lo) (h2 : lo < 2 ^ 62) (h3 : -(2 ^ 62) ≤ hi) (h4 : hi < 2 ^ 62) :
    wpAny (model X.prog X.w) X.A (pyIter (.ref s.heap.objs.size)) (IterOk τ X pins σ η H tg (.fix (rangeL lo (hi - lo).toNat)) S1) E { s with heap := s.heap.push { cls := .type "range", data := .fields #[.int lo t, .int hi u, .int 1 v] }, toks := tk } := by
  refine wpAny_pyIter_range (IsRange.new ..) (small_one h1 h2 h3 h4) ?_
  have I1 : Inv X pins σ H1 { s with heap := s.heap.push { cls := .type "range", data := .fields #[.int lo t, .int hi u, .int 1 v] }, toks := tk } := I.kept fun b o e => Heap.get?_push_of_some _ e
  refine it_one (tk := tk) I1 htk g1 st _ (turn_range _ lo (hi - lo).toNat) ?_ (drv_rng lo _)
  have e1 : lo + ((0 : Nat) : Int) * 1 = lo := by simp
  have e2 : (((hi - lo).toNat : Nat) : Int) - ((0 : Nat) : Int) = Builtin.Range.rangeSize lo hi 1 := by rw [rangeSize_one]; split <;> omega
  show IsRangeIter _ _ (lo + ((0 : Nat) : Int) * 1) ((((hi - lo).toNat : Nat) : Int) - ((0 : Nat) : Int)) 1
  rw [e1, e2]
  exact Heap.get?_push_size _ rfl
theorem pid_range {e : Expr} {es : List Expr} {gl : Env → M (List D)} {p pos : Pos} (hg : Gl X "range") (hm : X.mg "range" = none) (ha : PDL τ X (e :: es) gl) (he : starEach (e :: es) X.env = (false, eval e X.env) :: starEach es X.env) (hpl : (backTo pos (starEach es X.env)).any (·.1) = false) :
    PID τ X tg (.Call (.Name "range" p) (e :: es) [] pos) (fun ρ => gl ρ >>= rngSrc) := by
  intro pins s σ H ρ η S src S1 I tk sr st q
  have q : (gl ρ >>= rngSrc) S = .ok src S1 := q
  rw [bind_run] at q
  have key := ha pos pins s σ H ρ η S I tk sr st
  cases q1 : gl ρ S with
  | bad => rw [q1] at q; cases q
  | ok ds S2 =>
    rw [q1] at q key
    refine wpAny_Call_Name_kw (ld_blt (u := .type "range") I hg hm (by decide +kernel) (PyProof.Rows.callWith_type1 (wpAny_mono (key (fun _ _ => False)) (fun us s1 z => ?_) fun _ _ z => z) he hpl))
    obtain ⟨tk1, σ1, η1, H1, I1, g1, st1, e1, vs, rv, rd⟩ := z
    subst e1
    cases rd with
    | nil => cases q
    | cons r1 rr =>
      cases rr with
      | nil =>
        cases rv with
        | cons v1 vr =>
          cases vr
          cases r1 <;> try cases q
          rename_i j
          obtain ⟨t, rfl⟩ := v1
          have q : (if -(2 ^ 62) ≤ j ∧ j < 2 ^ 62 then R.ok (Src.fix (rangeL 0 j.toNat)) S2 else .bad) = .ok src S1 := q
          split at q
          · rename_i hj
            cases q
            have := fun (t u v : Tok) (tk : Nat) (h : τ ≤ tk) => rng_one (X := X) (tg := tg) (E := fun _ _ => False) (lo := 0) (hi := j) (t := t) (u := u) (v := v) (tk := tk) I1 h g1 st1 (by omega) (by omega) hj.1 hj.2
            simp only [Int.sub_zero] at this
            exact call_range_1 (this _ _ _ _ (Nat.le_trans tk1 (by first | exact Nat.le_refl _ | omega)))
          · cases q
      | cons r2 rr =>
        cases rr with
        | nil =>
          cases rv with
          | cons v1 vr =>
            cases vr with
            | cons v2 vr =>
              cases vr
              cases r1 <;> try cases q
              cases r2 <;> try cases q
              rename_i i j
              obtain ⟨t, rfl⟩ := v1
              obtain ⟨t', rfl⟩ := v2
              have q : (if (-(2 ^ 62) ≤ i ∧ i < 2 ^ 62) ∧ -(2 ^ 62) ≤ j ∧ j < 2 ^ 62 then R.ok (Src.fix (rangeL i (j - i).toNat)) S2 else .bad) = .ok src S1 := q
              split at q
              · rename_i hj
                cases q
                exact call_range_2 (rng_one I1 (Nat.le_trans tk1 (Nat.le_add_right _ _)) g1 st1 hj.1.1 hj.1.2 hj.2.1 hj.2.2)
              · cases q
        | cons r3 rr =>
          cases r1 <;> try cases q
          cases r2 <;> cases q

/-! ### for -/
def loopF (src : Src) (asg : D → Env → M Env) (body : Env → M Fl) : Nat → Nat → Env → M Fl
  | 0, _, _ => M.fail
  | k + 1, i, ρ => fun S => match src.at S i with
    | none => .ok (.next ρ) S
    | some d => (asg d ρ >>= fun ρ1 => body ρ1 >>= fun fl => match fl with
      | .next ρ2 => loopF src asg body k (i + 1) ρ2
      | .cont ρ2 => loopF src asg body k (i + 1) ρ2
      | .brk ρ2 => pure (.next ρ2)
      | .ret d => pure (.ret d)) S
def forF (asg : D → Env → M Env) (body : Env → M Fl) (ρ : Env) (src : Src) : M Fl := fun S => loopF src asg body (src.len S + 1) 0 ρ S
theorem psd_for {iter : Expr} {body : List Stmt} {pos : Pos} {gi : Env → M Src} {ga : D → Env → M Env} {gb : Env → M Fl} (hc : X.calm = true) (hi : PID τ X tg iter gi) (hg : PGD τ X tg ga) (hb : PSDs τ X body gb)
    (hs : ∀ x, foldedSetIterable iter X.env x = pure x) : PSD τ X (.For tg iter body [] pos) (fun ρ => gi ρ >>= forF ga gb ρ) := by
  intro pins s σ H ρ η S I tk sr st
  refine Out.never fun fl S' q => ?_
  have q : (gi ρ >>= forF ga gb ρ) S = .ok fl S' := q
  rw [bind_run] at q
  cases q1 : gi ρ S with
  | bad => rw [q1] at q; cases q
  | ok src S1 =>
    rw [q1] at q
    have q : loopF src ga gb (src.len S1 + 1) 0 ρ S1 = .ok fl S' := q
    revert q
    generalize src.len S1 + 1 = fuel
    intro q
    refine wpAny_For (wpAny_mono (hi pins s σ H ρ η S src S1 I tk sr st q1) (fun v s1 h1 => wpAny_mono h1 (fun itv s2 h2 => ?_) fun _ _ z => z.elim) fun _ _ z => z.elim) hs
    obtain ⟨tk2, η2, H2, it, fp, tn, J, e, I2, g2, st2, T, tn2, f2, dr⟩ := h2
    subst e
    have stat : ∀ {H' : Hp}, (∀ b ∈ fp, H' b = none) → ∀ b ∈ fp, FpOk X pins H' b := fun hn b hb => ⟨hn b hb, (f2 b hb).2⟩
    refine codeAny_forLoop_any (fun n s' => τ ≤ s'.toks ∧ ∃ i σ' η' H' ρ' S2, Inv X pins σ' H' s' ∧ tn i s'.heap ∧ (∀ b ∈ fp, H' b = none) ∧ Grow η2 H2 η' H' ∧ StoOk X.K η' H' S2 ∧ SRel X.K η' H' σ' ρ' ∧ loopF src ga gb n i ρ' S2 = .ok fl S') ?_ fuel ⟨tk2, 0, σ, η2, H2, ρ, S1, I2, tn2, fun b hb => (f2 b hb).1, .refl _ _, st2, sr.grow g2, q⟩
    rintro n s3 ⟨tk3, i, σ3, η3, H3, ρ3, S3, I3, tn3, fr3, g3, st3, sr3, q3⟩
    cases n with
    | zero => cases q3
    | succ k =>
      unfold loopF at q3
      cases qa : src.at S3 i with
      | none =>
        rw [qa] at q3
        cases q3
        refine wpAny_mono (PySem.wpAny_toks (T.done X rfl rfl rfl hc i pins s3 σ3 H3 _ I3 (stat fr3) tn3 (dr.stop g3 st3 qa))) (fun r s4 z => ?_) fun _ _ z => z.2
        obtain ⟨tk4, hr, I4⟩ := z
        subst hr
        exact wpAny_execs_nil ⟨Nat.le_trans tk3 tk4, σ3, η3, H3, I4, g2.trans g3, st3, sr3⟩
      | some d =>
        rw [qa] at q3
        refine wpAny_mono (PySem.wpAny_toks (T.item X rfl rfl rfl hc i pins s3 σ3 H3 _ I3 (stat fr3) tn3 (dr.go g3 st3 qa))) (fun r s4 z => ?_) fun _ _ z => z.2
        obtain ⟨tk4, u, hr, h4⟩ := z
        subst hr
        refine wpAny_mono (PySem.wpAny_toks h4) (fun _ s5 z => ?_) fun _ _ z => z.2
        obtain ⟨tk5, x, H5, I5, r5, y5, tn5, fr5⟩ := z
        have tk5 : τ ≤ s5.toks := Nat.le_trans tk3 (Nat.le_trans tk4 tk5)
        obtain ⟨g5, st5, rd5⟩ := dr.yld g3 st3 qa y5
        have I5' := I5.pinned (stat fr5) (T.obj _ _ tn5)
        simp only [bind_run] at q3
        have keyA := hg _ s5 σ3 H5 ρ3 η3 S3 x u d I5' tk5 (sr3.grow g5) st5 r5 rd5
        cases qb : ga d ρ3 S3 with
        | bad => rw [qb] at q3; cases q3
        | ok ρ6 S6 =>
          rw [qb] at q3 keyA
          refine wpAny_mono (keyA _) (fun _ s6 z => ?_) fun _ _ z => z
          obtain ⟨tk6, σ6, η6, H6, I6, g6, st6, sr6⟩ := z
          have keyB := hb _ s6 σ6 H6 ρ6 η6 S6 I6 tk6 sr6 st6
          simp only [bind_run] at q3
          cases qc : gb ρ6 S6 with
          | bad => rw [qc] at q3; cases q3
          | ok fl7 S7 =>
            rw [qc] at q3 keyB
            refine wpAny_mono (keyB _) (fun f s7 z => ?_) fun _ _ z => z
            obtain ⟨tk7, σ7, η7, H7, I7, g7, st7, r7⟩ := z
            have gg : Grow η2 H2 η7 H7 := g3.trans (g5.trans (g6.trans g7))
            have again : ∀ {ρ7 : Env}, SRel X.K η7 H7 σ7 ρ7 → loopF src ga gb k (i + 1) ρ7 S7 = .ok fl S' → ∃ m, m < k + 1 ∧ τ ≤ s7.toks ∧ ∃ i σ' η' H' ρ' S2, Inv X pins σ' H' s7 ∧ tn i s7.heap ∧ (∀ b ∈ fp, H' b = none) ∧ Grow η2 H2 η' H' ∧ StoOk X.K η' H' S2 ∧ SRel X.K η' H' σ' ρ' ∧ loopF src ga gb m i ρ' S2 = .ok fl S' := fun {ρ7} sr7 q7 => by
              refine ⟨k, Nat.lt_succ_self _, tk7, i + 1, σ7, η7, H7, ρ7, S7, I7.unpinned, T.keep _ _ _ tn5 fun b hb o e => (I7.pin (b, o) (List.mem_append_right _ (List.mem_append_right _ (mem_pinsAt hb e)))).1, fun b hb => ?_, gg, st7, sr7, q7⟩
              obtain ⟨o, e, d⟩ := T.obj _ _ tn5 b hb
              exact (I7.pin (b, o) (List.mem_append_right _ (List.mem_append_right _ (mem_pinsAt hb e)))).2.1
            cases fl7 with
            | next ρ7 =>
              cases f with
              | next => exact again r7 q3
              | _ => exact r7.elim
            | cont ρ7 =>
              cases f with
              | cont => exact again r7 q3
              | _ => exact r7.elim
            | brk ρ7 =>
              cases f with
              | brk =>
                cases q3
                exact ⟨tk7, σ7, η7, H7, I7.unpinned, g2.trans gg, st7, r7⟩
              | _ => exact r7.elim
            | ret d7 =>
              cases f with
              | ret u7 =>
                cases q3
                exact ⟨tk7, σ7, η7, H7, I7.unpinned, g2.trans gg, st7, r7⟩
              | _ => exact r7.elim
end
/-! ### the loop over a fixed list, as a recursion -/
def forL (asg : D → Env → M Env) (body : Env → M Fl) : List D → Env → M Fl
  | [], ρ => pure (.next ρ)
  | d :: ds, ρ => asg d ρ >>= fun ρ1 => body ρ1 >>= fun fl => match fl with
    | .next ρ2 => forL asg body ds ρ2
    | .cont ρ2 => forL asg body ds ρ2
    | .brk ρ2 => pure (.next ρ2)
    | .ret d => pure (.ret d)
theorem loopF_fix (asg : D → Env → M Env) (body : Env → M Fl) (xs : List D) : ∀ (k i : Nat) (ρ : Env), i ≤ xs.length → xs.length < i + k → loopF (.fix xs) asg body k i ρ = forL asg body (xs.drop i) ρ
  | 0, i, ρ, h0, h => by omega
  | k + 1, i, ρ, h0, h => by
    funext S
    unfold loopF
    show (match xs[i]? with | none => _ | some d => _) = _
    by_cases hi : i < xs.length
    · rw [List.getElem?_eq_getElem hi, List.drop_eq_getElem_cons hi]
      simp only [forL, fun ρ2 => loopF_fix asg body xs k (i + 1) ρ2 (by omega) (by omega)]
    · rw [List.getElem?_eq_none (by omega), List.drop_eq_nil_of_le (by omega)]
      rfl
theorem forF_fix (asg : D → Env → M Env) (body : Env → M Fl) (xs : List D) (ρ : Env) : forF asg body ρ (.fix xs) = forL asg body xs ρ := by
  funext S
  unfold forF
  rw [loopF_fix asg body xs _ _ _ (by omega) (by simp [Src.len])]
  rfl
end MP

/-! MP13: list comprehensions. -/
namespace MP
open PySem L2
/-! ### tests of a clause -/
def PTD (τ : Nat) (X : Cx) (ifs : List Expr) (g : Env → M Bool) : Prop := ∀ (pins : List (Addr × Obj)) (s : Shared) (σ : L2.St) (H : Hp) (ρ : Env) (η : List Addr) (S : Sto),
  Inv X pins σ H s → τ ≤ s.toks → SRel X.K η H σ ρ → StoOk X.K η H S → Out τ X pins η H (relB σ) (g ρ S) (sem X (forIn ifs true fun c r => if r = true then do let ok ← isTrue c X.env (eval c X.env); pure (ForInStep.yield ok) else pure (ForInStep.yield r))) s
theorem ptd_nil {X : Cx} : PTD τ X [] (fun _ => pure true) := fun pins s σ H ρ η S I tk sr st E => wpAny_tests_nil ⟨tk, σ, η, H, I, .refl _ _, st, rfl, rfl⟩
theorem ptd_one {X : Cx} {c : Expr} {g : Env → M Bool} (h : PDB τ X c g) : PTD τ X [c] g := fun pins s σ H ρ η S I tk sr st => by
  have := h pins s σ H ρ η S I tk sr st
  cases q : g ρ S with
  | bad => exact trivial
  | ok b S1 =>
    rw [q] at this
    exact fun E => wpAny_tests_one (this E)
def wipeE (ρ : Env) : List Nat → Env
  | [] => ρ
  | v :: vs => (wipeE ρ vs).set v none
theorem wipeE_length (ρ : Env) : ∀ vs : List Nat, (wipeE ρ vs).length = ρ.length
  | [] => rfl
  | v :: vs => by unfold wipeE; rw [List.length_set, wipeE_length ρ vs]
theorem wipeE_some {ρ : Env} {i : Nat} {d : D} : ∀ {vs : List Nat}, (wipeE ρ vs)[i]? = some (some d) → ρ[i]? = some (some d) ∧ i ∉ vs
  | [], h => ⟨h, by simp⟩
  | v :: vs, h => by
    unfold wipeE at h
    by_cases hi : v = i
    · subst hi
      by_cases hv : v < (wipeE ρ vs).length
      · rw [List.getElem?_set_self hv] at h; cases h
      · rw [List.getElem?_eq_none (by rw [List.length_set]; omega)] at h; cases h
    · rw [List.getElem?_set_ne hi] at h
      obtain ⟨h1, h2⟩ := wipeE_some h
      exact ⟨h1, fun m => by exact (List.mem_cons.mp m).elim (fun z => hi z.symm) h2⟩
theorem wipeE_set (ρ : Env) (v : Nat) : ∀ vs : List Nat, wipeE (ρ.set v none) vs = (wipeE ρ vs).set v none
  | [] => rfl
  | w :: vs => by
    unfold wipeE
    rw [wipeE_set ρ v vs]
    by_cases h : v = w
    · subst h; rfl
    · exact List.set_comm none none h
theorem wipeE_idem (ρ : Env) : ∀ vs : List Nat, wipeE (wipeE ρ vs) vs = wipeE ρ vs
  | [] => rfl
  | w :: vs => by
    show (wipeE ((wipeE ρ vs).set w none) vs).set w none = (wipeE ρ vs).set w none
    rw [wipeE_set, wipeE_idem ρ vs]
    simp
section
variable {K : PySem.W.Frag} {η : List Addr} {H : Hp} {σ : L2.St} {ρ : Env}
theorem SRel.wipe (h : SRel K η H σ ρ) (vs : List Nat) : SRel K η H (L2.wipe σ vs) (wipeE ρ vs) := by
  refine ⟨by rw [wipe_length, wipeE_length, h.len], fun i d e => ?_⟩
  obtain ⟨e1, e2⟩ := wipeE_some e
  obtain ⟨v, h1, h2⟩ := h.look i d e1
  exact ⟨v, by rw [wipe_out e2]; exact h1, h2⟩
theorem SRel.wipeR (h : SRel K η H σ ρ) (vs : List Nat) : SRel K η H σ (wipeE ρ vs) := by
  refine ⟨by rw [wipeE_length, h.len], fun i d e => h.look i d (wipeE_some e).1⟩
end
def lcF (src : Src) (ga : D → Env → M Env) (gt : Env → M Bool) (ge : Env → M D) (ρw : Env) : Nat → Nat → List D → M (List D)
  | 0, _, _ => M.fail
  | k + 1, i, acc => fun S => match src.at S i with
    | none => .ok acc S
    | some d => (ga d ρw >>= fun ρ1 => gt ρ1 >>= fun b => if b = true then ge ρ1 >>= fun y => if acc.length < SL then lcF src ga gt ge ρw k (i + 1) (acc ++ [y]) else M.fail else lcF src ga gt ge ρw k (i + 1) acc) S
def lcS (m : Bool) (ga : D → Env → M Env) (gt : Env → M Bool) (ge : Env → M D) (ρw : Env) (src : Src) : M D := fun S => (lcF src ga gt ge ρw (src.len S + 1) 0 [] >>= fun acc => newL m acc) S
theorem thnG {α : Type} {t : Sem α} {Q Q' : α → Shared → Prop} {M : Model} {A : Around} {P : Shared → Prop} {E : Value → Shared → Prop} {s : Shared} (h : wpAny M A t Q (fun _ s => P s ∧ False) s) (hQ : ∀ a s, Q a s → Q' a s) : wpAny M A t Q' E s := wpAny_mono h hQ fun _ _ z => False.elim z.2
def LRec (h : Heap) (D : Addr) (its : List Value) : Prop := ∃ n, h.get? D = some { cls := .type "list", dict := none, data := .seq its.toArray n, slots := #[] }
section
variable {X : Cx}
theorem lcd_core {pins : List (Addr × Obj)} {s : Shared} {σ : L2.St} {H : Hp} {ρ : Env} {η : List Addr} {S S' : Sto} {d : D} {elt tg iter : Expr} {ifs : List Expr} {scope : Scope} {own : List (Str × Nat)} {pos pos' : Pos} {m : Bool} {gi : Env → M Src} {ga : D → Env → M Env} {gt : Env → M Bool} {ge : Env → M D} {use : Option (Value → Sem Unit)} {Qf E : Value → Shared → Prop}
    (hc : X.calm = true) (hN : X.N.Nodup) (I : Inv X pins σ H s) (tk : τ ≤ s.toks) (sr : SRel X.K η H σ ρ) (st : StoOk X.K η H S) (hi : PID τ X tg iter gi) (ok : BlkOk X.N X.env.scope scope own)
    (hg : ∀ (s : Shared) (H : Hp) (C : Addr) (cl : List (Str × Addr)) (fp : List Addr), PGD τ (X.blk s H scope (compEnvC scope cl C X.env) fp) tg ga)
    (hw : ∀ d ρ S ρ' S', ga d ρ S = .ok ρ' S' → wipeE ρ' (own.map (·.2)) = wipeE ρ (own.map (·.2)))
    (ht : ∀ (s : Shared) (H : Hp) (C : Addr) (cl : List (Str × Addr)) (fp : List Addr), PTD τ (X.blk s H scope (compEnvC scope cl C X.env) fp) ifs gt)
    (he : ∀ (s : Shared) (H : Hp) (C : Addr) (cl : List (Str × Addr)) (fp : List Addr), PD τ (X.blk s H scope (compEnvC scope cl C X.env) fp) elt ge) (hs : ∀ x, foldedSetIterable iter X.env x = pure x)
    (q : (gi ρ >>= lcS m ga gt ge (wipeE ρ (own.map (·.2)))) S = .ok d S')
    (hRR : ∀ L C s' mm η' H', Inv X pins σ H' s' → τ ≤ s'.toks → Grow η H η' H' → StoOk X.K η' H' S' → Rep X.K η' H' d (.ref L) → s'.heap.Ns C mm → FpOk X pins H' C → compPost (model X.prog X.w) X.A E use Qf (.ref L) C (.ok .next) s') :
    wpAny (model X.prog X.w) X.A (comprehension (.ListComp elt [⟨tg, iter, ifs, 0⟩] scope pos) scope X.env pos' (newList []) false (eval iter X.env) use) Qf E s := by
  have hfree : ∀ y ∈ scope.names, y.2 = .free → ∃ c, X.env.cells.lookup y.1 = some c := fun y hy e => by
    rcases ok.free y hy e with k | k
    · exact I.ok.has _ (.inl k)
    · exact I.ok.has _ (.inr k)
  rw [bind_run] at q
  cases q1 : gi ρ S with
  | bad => rw [q1] at q; cases q
  | ok src S1 =>
    rw [q1] at q
    have q : (lcF src ga gt ge (wipeE ρ (own.map (·.2))) (src.len S1 + 1) 0 [] >>= fun acc => newL m acc) S1 = .ok d S' := q
    revert q
    generalize src.len S1 + 1 = fuel
    intro q
    refine wpAny_comprehension_free (use := use) rfl hs (closure_ok hfree) ok.kind (fun y hy e => by rw [ok.uniq y hy, e])
      (wpAny_mono (hi pins s σ H ρ η S src S1 I tk sr st q1) (fun xv s1 hx => wpAny_mono hx (fun itv s2 h2 => ?_) fun _ _ z => z.elim) fun _ _ z => z.elim)
    obtain ⟨tk2, η2, H2, it, fp, tn, J, e, I2, g2, st2, T, tn2, f2, dr⟩ := h2
    subst e
    refine wpAny_newObj_type (newEnv_comp ?_) (by show 0 ≤ sizeLine; decide)
    generalize hD : s2.heap.objs.size = L
    have hDn : H2 L = none := I2.hok.fresh (Nat.le_of_eq hD)
    generalize hs3 : ({ s2 with heap := s2.heap.push { cls := .type "list", data := .seq ([] : List Value).toArray } } : Shared) = s3
    have tk3 : τ ≤ s3.toks := by rw [← hs3]; exact tk2
    have I3 : Inv X pins σ H2 s3 := by
      rw [← hs3]
      exact I2.kept (t' := s2.toks) (fun b o e => Heap.get?_push_of_some _ e)
    have h3 : s3.heap = s2.heap.push { cls := .type "list", data := .seq ([] : List Value).toArray } := by rw [← hs3]
    have rec3 : LRec s3.heap L [] := ⟨0, by rw [h3, ← hD]; exact Heap.get?_push_size _ rfl⟩
    have sz : ∀ b ∈ fp, b < s2.heap.objs.size := fun b hb => by
      obtain ⟨o, e, _⟩ := T.obj _ _ tn2 b hb
      exact Heap.lt_size e
    have f3 : ∀ b ∈ fp ++ [L], FpOk X pins H2 b ∧ b < s3.heap.objs.size := fun b hb => by
      rcases List.mem_append.mp hb with hb | hb
      · exact ⟨f2 b hb, by rw [h3, Heap.size_push]; exact Nat.lt_succ_of_lt (sz b hb)⟩
      · have e : b = L := by simpa using hb
        subst e
        exact ⟨I2.fpOk (Nat.le_of_eq hD) hDn, by rw [h3, Heap.size_push, hD]; exact Nat.lt_succ_self _⟩
    have hLfp : L ∉ fp := fun hb => by have := sz L hb; rw [hD] at this; exact Nat.lt_irrefl _ this
    have tn3 : tn 0 s3.heap := T.keep _ _ _ tn2 fun b _ o e => by rw [h3]; exact Heap.get?_push_of_some _ e
    have I4 := block_start I3 ok hN f3
    have pg := hg s3 H2 s3.heap.objs.size (cellsFrom (s3.heap.objs.size + 1) scope.names (cloFrom X.env.cells scope.names [])) (fp ++ [L])
    have pt := ht s3 H2 s3.heap.objs.size (cellsFrom (s3.heap.objs.size + 1) scope.names (cloFrom X.env.cells scope.names [])) (fp ++ [L])
    have pe := he s3 H2 s3.heap.objs.size (cellsFrom (s3.heap.objs.size + 1) scope.names (cloFrom X.env.cells scope.names [])) (fp ++ [L])
    show codeAny _ _ (.compStart (.ListComp elt [⟨tg, iter, ifs, 0⟩] scope pos) 0 (.ref it) (.ref L) (compEnvC scope (cellsFrom (s3.heap.objs.size + 1) scope.names (cloFrom X.env.cells scope.names [])) s3.heap.objs.size X.env)) (compPost (model X.prog X.w) X.A E use Qf (.ref L) s3.heap.objs.size) { s3 with heap := pushCells (s3.heap.push { cls := .type "dict", data := .dict #[] }) scope.names }
    generalize hce : compEnvC scope (cellsFrom (s3.heap.objs.size + 1) scope.names (cloFrom X.env.cells scope.names [])) s3.heap.objs.size X.env = ce at I4 pg pt pe ⊢
    have cL : ce.locals = s3.heap.objs.size := by subst hce; rfl
    generalize hs4 : ({ s3 with heap := pushCells (s3.heap.push { cls := .type "dict", data := .dict #[] }) scope.names } : Shared) = s4 at I4 ⊢
    have k4 : ∀ b o, s3.heap.get? b = some o → s4.heap.get? b = some o := fun b o e => by rw [← hs4]; exact pushCells_keeps _ _ _ _ (Heap.get?_push_of_some _ e)
    have tk4 : τ ≤ s4.toks := by rw [← hs4]; exact tk3
    have tn4 : tn 0 s4.heap := T.keep _ _ _ tn3 fun b _ o e => k4 b o e
    have rec4 : LRec s4.heap L [] := let ⟨n, e⟩ := rec3; ⟨n, k4 _ _ e⟩
    generalize hfs : fp ++ [L] = fq at I4 pg pt pe f3
    have inq : ∀ {b}, b ∈ fp → b ∈ fq := fun hb => by rw [← hfs]; exact List.mem_append_left _ hb
    have inL : L ∈ fq := by rw [← hfs]; exact List.mem_append_right _ (by simp)
    have inv : ∀ {b}, b ∈ fq → b ∈ fp ∨ b = L := fun {b} hb => by
      rw [← hfs] at hb
      rcases List.mem_append.mp hb with hb | hb
      · exact .inl hb
      · exact .inr (by simpa using hb)
    have stat : ∀ {σ' : L2.St} {H' : Hp} {s' : Shared}, Inv (X.blk s3 H2 scope ce fq) [] σ' H' s' → (∀ b ∈ fq, H' b = none) → ∀ b ∈ fq, FpOk (X.blk s3 H2 scope ce fq) [] H' b := fun {σ' H' s'} I' hn b hb =>
      ⟨hn b hb, (I'.ok.exf b hb).1, I'.ok.exfs b hb, .inl hb, fun x c e => (I'.ok.exf b hb).2 x c e, fun p hp => absurd (show p ∈ ([] : List (Addr × Obj)) ++ [] from hp) (by simp)⟩
    have loop : codeAny (model X.prog X.w) X.A (.compLoop (.ListComp elt [⟨tg, iter, ifs, 0⟩] scope pos) 0 (.ref it) (.ref L) ce) (compPost (model X.prog X.w) X.A E use Qf (.ref L) s3.heap.objs.size) s4 := by
      refine compLoop_any (fun n s' => τ ≤ s'.toks ∧ ∃ i σ' η' H' S2 acc vs its, Inv (X.blk s3 H2 scope ce fq) [] σ' H' s' ∧ tn i s'.heap ∧ (∀ b ∈ fq, H' b = none) ∧ Grow η2 H2 η' H' ∧ StoOk X.K η' H' S2 ∧ SRel X.K η' H' σ' (wipeE ρ (own.map (·.2))) ∧ LRec s'.heap L its ∧ Vals vs its ∧ Reps X.K η' H' acc vs ∧ acc.length ≤ SL ∧
        (lcF src ga gt ge (wipeE ρ (own.map (·.2))) n i acc >>= fun acc => newL m acc) S2 = .ok d S') ?_ fuel ⟨tk4, 0, _, η2, H2, S1, [], [], [], I4, tn4, fun b hb => (f3 b hb).1.1, .refl _ _, st2, (sr.grow g2).wipe _, rec4, .nil, .nil, Nat.zero_le _, q⟩
      rintro n s5 ⟨tk5, i, σ5, η5, H5, S5, acc, vs, its, I5, tn5, n5, g5, st5, sr5, rec5, rv5, rd5, ln5, q5⟩
      -- the new list's record is pinned through the turn
      have obj5 : ∀ b ∈ [L], ∃ o, s5.heap.get? b = some o ∧ ∀ v, o.data ≠ .cell v := fun b hb => by
        have e : b = L := by simpa using hb
        subst e
        obtain ⟨n, e⟩ := rec5
        exact ⟨_, e, fun v h => by cases h⟩
      have Ip5 := I5.pinned (fp := [L]) (fun b hb => by
        have e : b = L := by simpa using hb
        subst e
        exact stat I5 n5 b inL) obj5
      have fp5 : ∀ b ∈ fp, FpOk (X.blk s3 H2 scope ce fq) ([] ++ pinsAt [L] s5.heap) H5 b := fun b hb => by
        obtain ⟨a1, a2, a3, a4, a5, a6⟩ := stat I5 n5 b (inq hb)
        refine ⟨a1, a2, a3, a4, a5, fun p hp => ?_⟩
        have hp : p ∈ pinsAt [L] s5.heap := by simpa using hp
        have : p.1 = L := by simpa using (of_pinsAt hp).1
        rw [this]
        exact fun z => hLfp (by rw [z]; exact hb)
      have recOf : ∀ {s' : Shared} {σ' : L2.St} {H' : Hp}, Inv (X.blk s3 H2 scope ce fq) ([] ++ pinsAt [L] s5.heap) σ' H' s' → LRec s'.heap L its := fun {s' σ' H'} I' => by
        obtain ⟨n, e⟩ := rec5
        exact ⟨n, (I'.pin (L, _) (List.mem_append_right _ (List.mem_append_right _ (mem_pinsAt (by simp) e)))).1⟩
      have noneOf : ∀ {s' : Shared} {σ' : L2.St} {H' : Hp}, Inv (X.blk s3 H2 scope ce fq) ([] ++ pinsAt [L] s5.heap) σ' H' s' → H' L = none := fun {s' σ' H'} I' => by
        obtain ⟨n, e⟩ := rec5
        exact (I'.pin (L, _) (List.mem_append_right _ (List.mem_append_right _ (mem_pinsAt (by simp) e)))).2.1
      cases n with
      | zero => cases q5
      | succ k =>
        rw [bind_run] at q5
        unfold lcF at q5
        cases qa : src.at S5 i with
        | none =>
          rw [qa] at q5
          have q5 : newL m acc S5 = .ok d S' := q5
          refine thnG (PySem.wpAny_toks (T.done (X.blk s3 H2 scope ce fq) rfl rfl rfl hc i _ s5 _ H5 (fun _ _ => False) Ip5 fp5 tn5 (dr.stop g5 st5 qa))) fun r s6 z => ?_
          obtain ⟨tk6, hr, I6⟩ := z
          subst hr
          have rec6 := recOf I6
          have hL5 : H5 L = none := n5 L inL
          obtain ⟨nn, e6⟩ := rec6
          have hokD : HOk X.prog X.w (upd H5 L (.lst vs)) s6.heap := fun b u e => by
            by_cases hb : b = L
            · subst hb
              rw [upd_same] at e
              cases e
              exact ⟨sl_le (by rw [← rd5.length]; exact ln5), its, nn, rv5, e6⟩
            · rw [upd_ne hb] at e
              exact (I6.hok b u e).stay (fun c v _ q => q) (fun c q => by rw [upd_ne (ne_of_none q hL5)]; exact q) fun c xs q => by rw [upd_ne (ne_of_none q hL5)]; exact q
          have unD : Un (frs X.stack) fq H2 (upd H5 L (.lst vs)) s3.heap s6.heap :=
            { keep := I6.base.keep
              slot := I6.base.slot
              free := fun b o e n hx => by rw [upd_ne (fun z => hx (by rw [z]; exact inL))]; exact I6.base.free b o e n hx
              there := I6.base.there
              tups := fun b xs e => by rw [upd_ne (ne_of_none (I6.base.tups b xs e) hL5)]; exact I6.base.tups b xs e
              frzs := fun b o u e => by rw [upd_ne (ne_of_none (I6.base.frzs b o u e) hL5)]; exact I6.base.frzs b o u e
              tbls := fun b ps e => by
                obtain ⟨mo, z⟩ := I6.base.tbls b ps e
                exact ⟨mo, by rw [upd_ne (ne_of_none z hL5)]; exact z⟩ }
          have I7 : Inv X pins σ (upd H5 L (.lst vs)) s6 := I3.call' (ch := fq) I6.os unD hokD I6.bare fun b hb => ⟨(f3 b hb).1.2.2.2.1, (f3 b hb).1.2.1, (f3 b hb).1.2.2.2.2.1, (f3 b hb).1.2.2.2.2.2⟩
          obtain ⟨η7, g7, st7, r7⟩ := good_newL st5 rd5 hL5 q5
          have nC : (upd H5 L (.lst vs)) s3.heap.objs.size = none := by
            have z : H5 ce.locals = none := I6.free
            rw [cL] at z
            rw [upd_ne (fun e => by have := (f3 L inL).2; rw [e] at this; exact Nat.lt_irrefl _ this)]
            exact z
          obtain ⟨mm, hn, _⟩ := I6.loc
          have hn : s6.heap.Ns ce.locals mm := hn
          rw [cL] at hn
          exact hRR L s3.heap.objs.size s6 mm η7 _ I7 (Nat.le_trans tk5 tk6) (g2.trans (g5.trans g7)) st7 r7 hn (I3.fpOk (Nat.le_refl _) nC)
        | some d5 =>
          rw [qa] at q5
          refine thnG (PySem.wpAny_toks (T.item (X.blk s3 H2 scope ce fq) rfl rfl rfl hc i _ s5 _ H5 (fun _ _ => False) Ip5 fp5 tn5 (dr.go g5 st5 qa))) fun r s6 z => ?_
          obtain ⟨tk6, u, hr, h6⟩ := z
          subst hr
          refine thnG (PySem.wpAny_toks h6) fun _ s7 z => ?_
          obtain ⟨tk7, x, H7, I7, r7, y7, tn7, n7⟩ := z
          have tk7 : τ ≤ s7.toks := Nat.le_trans tk5 (Nat.le_trans tk6 tk7)
          obtain ⟨g7, st7, rd7⟩ := dr.yld g5 st5 qa y7
          have rec7 := recOf I7
          have nL7 : H7 L = none := noneOf I7
          have n7q : ∀ b ∈ fq, H7 b = none := fun b hb => by
            rcases inv hb with hb | rfl
            · exact n7 b hb
            · exact nL7
          have I7u := (I7.unpinned (pins := []))
          have obj7 : ∀ b ∈ fq, ∃ o, s7.heap.get? b = some o ∧ ∀ v, o.data ≠ .cell v := fun b hb => by
            rcases inv hb with hb | rfl
            · exact T.obj _ _ tn7 b hb
            · obtain ⟨n, e⟩ := rec7
              exact ⟨_, e, fun v h => by cases h⟩
          have I7' := I7u.pinned (stat I7u n7q) obj7
          simp only [bind_run] at q5
          have keyA := pg _ s7 σ5 H7 (wipeE ρ (own.map (·.2))) η5 S5 x u d5 I7' tk7 (sr5.grow g7) st7 r7 rd7
          cases qb : ga d5 (wipeE ρ (own.map (·.2))) S5 with
          | bad => rw [qb] at q5; cases q5
          | ok ρ8 S8 =>
            have hw8 := hw _ _ _ _ _ qb
            rw [qb] at q5 keyA
            refine wpAny_mono (keyA _) (fun _ s8 z => ?_) fun _ _ z => z
            obtain ⟨tk8, σ8, η8, H8, I8, g8, st8, sr8⟩ := z
            have keyT := pt _ s8 σ8 H8 ρ8 η8 S8 I8 tk8 sr8 st8
            simp only [bind_run] at q5
            cases qt : gt ρ8 S8 with
            | bad => rw [qt] at q5; cases q5
            | ok b S9 =>
              rw [qt] at q5 keyT
              refine wpAny_mono (keyT _) (fun b9 s9 z => ?_) fun _ _ z => z
              obtain ⟨tk9, σ9, η9, H9, I9, g9, st9, e9, eb⟩ := z
              subst e9 eb
              have sr9 : ∀ {η' : List Addr} {H' : Hp}, Grow η8 H8 η' H' → SRel X.K η' H' σ9 (wipeE ρ (own.map (·.2))) := fun g => by
                have := (sr8.grow g).wipeR (own.map (·.2))
                rw [hw8, wipeE_idem] at this
                exact this
              have pin' : ∀ {s' : Shared} {σ' : L2.St} {H' : Hp}, Inv (X.blk s3 H2 scope ce fq) ([] ++ pinsAt fq s7.heap) σ' H' s' → ∀ b ∈ fq, ∀ o, s7.heap.get? b = some o → s'.heap.get? b = some o ∧ H' b = none := fun {s' σ' H'} I' b hb o e =>
                let z := I'.pin (b, o) (List.mem_append_right _ (List.mem_append_right _ (mem_pinsAt hb e)))
                ⟨z.1, z.2.1⟩
              cases b with
              | false =>
                simp only [Bool.false_eq_true, if_false] at q5 ⊢
                refine ⟨k, Nat.lt_succ_self _, tk9, i + 1, σ9, η9, H9, S9, acc, vs, its, I9.unpinned (pins := []), T.keep _ _ _ tn7 fun b hb o e => (pin' I9 b (inq hb) o e).1, fun b hb => ?_, g5.trans (g7.trans (g8.trans g9)), st9, sr9 g9, ?_, rv5, rd5.grow (g7.trans (g8.trans g9)), ln5, ?_⟩
                · obtain ⟨o, e, _⟩ := obj7 b hb
                  exact (pin' I9 b hb o e).2
                · obtain ⟨n, e⟩ := rec7
                  exact ⟨n, (pin' I9 L inL _ e).1⟩
                · rw [bind_run]; exact q5
              | true =>
                simp only [if_true] at q5 ⊢
                have keyE := pe _ s9 σ9 H9 ρ8 η9 S9 I9 tk9 (sr8.grow g9) st9
                simp only [bind_run] at q5
                cases qe : ge ρ8 S9 with
                | bad => rw [qe] at q5; cases q5
                | ok y S10 =>
                  rw [qe] at q5 keyE
                  refine wpAny_mono (keyE _) (fun z10 s10 z => ?_) fun _ _ z => z
                  obtain ⟨tk10, σ10, η10, H10, I10, g10, st10, e10, yv, ry, rdy⟩ := z
                  subst e10
                  obtain ⟨n7r, e7⟩ := rec7
                  have eL := pin' I10 L inL _ e7
                  by_cases hln : acc.length < SL
                  · simp only [hln, if_true] at q5
                    have hlv : its.length = acc.length := by rw [rd5.length, rv5.length]
                    refine PyProof.Rows.append_at (hsz := by rw [List.size_toArray, hlv]; exact Nat.le_of_lt (sl_lt hln)) eL.1 fun h' sb ho' => ?_
                    have I10u := I10.unpinned (pins := [])
                    have n10 : ∀ b ∈ fq, H10 b = none := fun b hb => by
                      obtain ⟨o, e, _⟩ := obj7 b hb
                      exact (pin' I10 b hb o e).2
                    obtain ⟨f0, f1, f2', f3', f4, f5⟩ := stat I10u n10 L inL
                    have I11 := I10u.turned (t' := s10.toks) (fun b o hb e => (sb.2 b hb).trans e) f0 f1 f3' f4 f5
                    refine ⟨k, Nat.lt_succ_self _, tk10, i + 1, _, η10, H10, S10, acc ++ [y], vs ++ [yv], its ++ [z10], I11, T.keep _ _ _ tn7 fun b hb o e => ?_, n10, g5.trans (g7.trans (g8.trans (g9.trans g10))), st10, sr9 (g9.trans g10), ⟨n7r + 1, ?_⟩, rv5.append (.cons ry .nil), (rd5.grow (g7.trans (g8.trans (g9.trans g10)))).append (.cons rdy .nil), by rw [List.length_append]; exact hln, ?_⟩
                    · exact (sb.2 b (fun z => hLfp (by rw [← z]; exact hb))).trans (pin' I10 b (inq hb) o e).1
                    · rw [ho']; simp
                    · rw [bind_run]; exact q5
                  · simp only [hln, if_false] at q5
                    cases q5
    exact codeAny_compStart_list loop (T.self X.A 0 _ _ _ tn4 loop)
/-- as a value -/
theorem pd_lc {elt tg iter : Expr} {ifs : List Expr} {scope : Scope} {own : List (Str × Nat)} {pos : Pos} {m : Bool} {gi : Env → M Src} {ga : D → Env → M Env} {gt : Env → M Bool} {ge : Env → M D} (hc : X.calm = true) (hN : X.N.Nodup) (hi : PID τ X tg iter gi) (ok : BlkOk X.N X.env.scope scope own)
    (hg : ∀ (s : Shared) (H : Hp) (C : Addr) (cl : List (Str × Addr)) (fp : List Addr), PGD τ (X.blk s H scope (compEnvC scope cl C X.env) fp) tg ga)
    (hw : ∀ d ρ S ρ' S', ga d ρ S = .ok ρ' S' → wipeE ρ' (own.map (·.2)) = wipeE ρ (own.map (·.2)))
    (ht : ∀ (s : Shared) (H : Hp) (C : Addr) (cl : List (Str × Addr)) (fp : List Addr), PTD τ (X.blk s H scope (compEnvC scope cl C X.env) fp) ifs gt)
    (he : ∀ (s : Shared) (H : Hp) (C : Addr) (cl : List (Str × Addr)) (fp : List Addr), PD τ (X.blk s H scope (compEnvC scope cl C X.env) fp) elt ge) (hs : ∀ x, foldedSetIterable iter X.env x = pure x) :
    PD τ X (.ListComp elt [⟨tg, iter, ifs, 0⟩] scope pos) (fun ρ => gi ρ >>= lcS m ga gt ge (wipeE ρ (own.map (·.2)))) := by
  intro pins s σ H ρ η S I tk sr st
  refine Out.never fun d S' q => ?_
  have q : (gi ρ >>= lcS m ga gt ge (wipeE ρ (own.map (·.2)))) S = .ok d S' := q
  generalize (fun (_ : Value) (_ : Shared) => False) = E
  show wpAny _ _ (eval _ _) _ _ _
  · rw [eval_ListComp]
    refine lcd_core hc hN I tk sr st hi ok hg hw ht he hs q fun L C s' mm η' H' I' tk' g' st' r' hn f => ⟨mm, hn, fun h'' sb => ?_⟩
    obtain ⟨f0, f1, f2, f3, f4, f5⟩ := f
    exact ⟨tk', σ, η', H', I'.turned (t' := s'.toks) (fun b o hb e => (sb.2 b hb).trans e) f0 f1 f3 f4 f5, g', st', rfl, V.ref L, rfl, r'⟩
/-- name = [..] on one line, the name a local -/
theorem psd_setLc {i : Nat} {y : Str} {py : Pos} {elt tg iter : Expr} {ifs : List Expr} {scope : Scope} {own : List (Str × Nat)} {pos spos : Pos} {m : Bool} {gi : Env → M Src} {ga : D → Env → M Env} {gt : Env → M Bool} {ge : Env → M D} (hc : X.calm = true) (hN : X.N.Nodup) (hy : X.N[i]? = some y) (hyl : X.env.scope.names.lookup y = some .local)
    (hsw : swapsWith (.ListComp elt [⟨tg, iter, ifs, 0⟩] scope pos) (some (.Name y py)) spos.line X.env = pure true) (hi : PID τ X tg iter gi) (ok : BlkOk X.N X.env.scope scope own)
    (hg : ∀ (s : Shared) (H : Hp) (C : Addr) (cl : List (Str × Addr)) (fp : List Addr), PGD τ (X.blk s H scope (compEnvC scope cl C X.env) fp) tg ga)
    (hw : ∀ d ρ S ρ' S', ga d ρ S = .ok ρ' S' → wipeE ρ' (own.map (·.2)) = wipeE ρ (own.map (·.2)))
    (ht : ∀ (s : Shared) (H : Hp) (C : Addr) (cl : List (Str × Addr)) (fp : List Addr), PTD τ (X.blk s H scope (compEnvC scope cl C X.env) fp) ifs gt)
    (he : ∀ (s : Shared) (H : Hp) (C : Addr) (cl : List (Str × Addr)) (fp : List Addr), PD τ (X.blk s H scope (compEnvC scope cl C X.env) fp) elt ge) (hs : ∀ x, foldedSetIterable iter X.env x = pure x) :
    PSD τ X (.Assign [.Name y py] (.ListComp elt [⟨tg, iter, ifs, 0⟩] scope pos) spos) (fun ρ => (gi ρ >>= lcS m ga gt ge (wipeE ρ (own.map (·.2)))) >>= fun d => pure (.next (ρ.set i (some d)))) := by
  intro pins s σ H ρ η S I tk sr st
  show Out τ X pins η H (relF X.K) (((gi ρ >>= lcS m ga gt ge (wipeE ρ (own.map (·.2)))) >>= fun d => pure (.next (ρ.set i (some d)))) S) _ s
  rw [bind_run]
  cases q : (gi ρ >>= lcS m ga gt ge (wipeE ρ (own.map (·.2)))) S with
  | bad => exact trivial
  | ok d S' =>
    intro E
    show wpAny _ _ (exec _ _) _ _ _
    rw [exec_Assign_Name_used _ _ _ _ hsw]
    refine wpAny_bind (wpAny_standAt (wpAny_bind ?_))
    show wpAny _ X.A (do let _ ← comprehension (.ListComp elt [⟨tg, iter, ifs, 0⟩] scope pos) scope X.env (firstIterPos [⟨tg, iter, ifs, 0⟩] pos) (newList []) false (eval iter X.env) (some (assign (.Name y py) X.env))) _ _ s
    refine wpAny_bind (thn (lcd_core (Qf := fun _ s' => τ ≤ s'.toks ∧ ∃ σ' η' H', Inv X pins σ' H' s' ∧ Grow η H η' H' ∧ StoOk X.K η' H' S' ∧ SRel X.K η' H' σ' (ρ.set i (some d))) hc hN I tk sr st hi ok hg hw ht he hs q fun L C s' mm η' H' I' tk' g' st' r' hn f => ?_) fun _ s' hq => wpAny_pure (wpAny_pure hq))
    show wpAny _ _ (assign (.Name y py) X.env (.ref L)) _ _ _
    refine wpAny_assign_Name (wpAny_mono (PySem.wpAny_toks (store_ok2 (Q := fun _ s2 => Inv X pins (σ.set i (some (V.ref L))) H' s2 ∧ (∃ a, Heap.SameBut a s'.heap s2.heap ∧ (a = X.env.locals ∨ X.env.cells.lookup y = some a))) (v := V.ref L) I' hN hy (.inl hyl) rfl (fun s2 I2 z => ⟨I2, z⟩) (.inr hyl))) (fun _ s2 z => ?_) fun _ _ z => z.2)
    obtain ⟨tk2, I2, a, sb, ha⟩ := z
    obtain ⟨f0, f1, f2, f3, f4, f5⟩ := f
    have haC : C ≠ a := by
      rcases ha with z | z
      · rw [z]; exact f1
      · exact fun e => f4 y a z e.symm
    refine ⟨mm, hn.sameBut sb haC, fun h3 sb3 => ?_⟩
    exact ⟨Nat.le_trans tk' tk2, _, η', H', I2.turned (t' := s2.toks) (fun b o hb e => (sb3.2 b hb).trans e) f0 f1 f3 f4 f5, g', st', (sr.grow g').set r' i⟩
end
end MP

/-! MP14: several targets. -/
namespace MP
open PySem L2
def seqI (S : Sto) : D → Option (List D)
  | .tup xs => some xs
  | d => itemsR S d
theorem seqI_at {K : PySem.W.Frag} {η : List Addr} {H : Hp} {S : Sto} {d : D} {ds : List D} {x : V} (st : StoOk K η H S) (r : Rep K η H d x) (h : seqI S d = some ds) : ∃ a vs, x = .ref a ∧ (SqL K H a vs ∨ SqT K H a vs) ∧ Reps K η H ds vs := by
  cases r with
  | tup h1 h2 => cases h; exact ⟨_, _, rfl, .inr h1.sq, h2⟩
  | non => cases h
  | bl => cases h
  | int => cases h
  | str => cases h
  | dic => cases h
  | lst h1 h2 => obtain ⟨a, vs, e, h3, h4⟩ := itemsR_at st (.lst h1 h2) h; exact ⟨a, vs, e, .inl h3, h4⟩
  | frz h1 h2 => obtain ⟨a, vs, e, h3, h4⟩ := itemsR_at st (.frz h1 h2) h; exact ⟨a, vs, e, .inl h3, h4⟩
  | ref h1 => obtain ⟨a, vs, e, h3, h4⟩ := itemsR_at st (.ref h1) h; exact ⟨a, vs, e, .inl h3, h4⟩
def unpackD (n : Nat) (star : Option (Nat × Bool)) (d : D) : M (List D) := fun S => match seqI S d with
  | none => .bad
  | some xs => match star with
    | none => if xs.length = n then .ok xs S else .bad
    | some (i, m) => if i < n ∧ n ≤ xs.length + 1 then (newL m ((xs.drop i).take (xs.length + 1 - n)) >>= fun l => pure (xs.take i ++ [l] ++ (xs.drop i).drop (xs.length + 1 - n))) S else .bad
theorem unpackD_len {n : Nat} {star : Option (Nat × Bool)} {d : D} {S S' : Sto} {ds : List D} (h : unpackD n star d S = .ok ds S') : ds.length = n := by
  unfold unpackD at h
  cases q : seqI S d with
  | none => rw [q] at h; cases h
  | some xs =>
    rw [q] at h
    cases star with
    | none =>
      dsimp only at h
      split at h
      · cases h; assumption
      · cases h
    | some p =>
      obtain ⟨i, m⟩ := p
      dsimp only at h
      split at h
      · rename_i hh
        rw [bind_run] at h
        unfold newL at h
        cases m <;> simp at h <;> (obtain ⟨h, _⟩ := h; subst h; simp; omega)
      · cases h
section
variable {X : Cx}
theorem Vals.take' {vs : List V} {us : List Value} (h : Vals vs us) : ∀ n : Nat, Vals (vs.take n) (us.take n) := by
  induction h with
  | nil => intro n; simp; exact .nil
  | cons a b ih =>
    intro n
    cases n with
    | zero => exact .nil
    | succ n => exact .cons a (ih n)
theorem Vals.drop' {vs : List V} {us : List Value} (h : Vals vs us) : ∀ n : Nat, Vals (vs.drop n) (us.drop n) := by
  induction h with
  | nil => intro n; simp; exact .nil
  | cons a b ih =>
    intro n
    cases n with
    | zero => exact .cons a b
    | succ n => exact ih n
/-- the items drawn, one list made of those between -/
theorem star_items {A : Around} {E : Value → Shared → Prop} {s : Shared} {l : Addr} {items : Array Value} {n i : Nat} {Q : List Value → Shared → Prop} (hl : s.heap.IsList l items ∨ PyProof.Rows.IsTup s.heap l items) (hh : A.handled = none) (hi : i < n) (hn : n ≤ items.size + 1) (hz : items.size ≤ sizeLine)
    (h : ∀ h' tk, Heap.ExtBut s.heap.objs.size s.heap h' →
      Q (items.toList.take i ++ [.ref h'.objs.size] ++ (items.toList.drop i).drop (items.size + 1 - n)) { s with heap := h'.push { cls := .type "list", data := .seq ((items.toList.drop i).take (items.size + 1 - n)).toArray }, toks := tk }) :
    wpAny (model X.prog X.w) A (unpackItems (.ref l) n (some i)) Q E s := by
  have hll : l < s.heap.objs.size := by rcases hl with ⟨o, ho, _⟩ | ⟨o, ho, _⟩ <;> exact Heap.lt_size ho
  have hlt : l ≠ s.heap.objs.size := Nat.ne_of_lt hll
  have hrl : (items.toList.drop i).length = items.size - i := by rw [List.length_drop, Array.length_toList]
  have hmid : (items.toList.drop i).length - (n - 1 - i) = items.size + 1 - n := by rw [hrl]; omega
  have hfl : (items.toList.take i).length = i := by rw [List.length_take, Array.length_toList]; omega
  have fin : ∀ (h₂ : Heap) (tk : Nat), Heap.ExtBut s.heap.objs.size s.heap h₂ →
      wpAny (model X.prog X.w) A (newList ((items.toList.drop i).take (items.size + 1 - n)) >>= fun d => pure (items.toList.take i ++ [d] ++ (items.toList.drop i).drop (items.size + 1 - n))) Q E { s with heap := h₂, toks := tk } := fun h₂ tk he =>
    wpAny_bind (wpAny_newObj_type (wpAny_pure (h h₂ tk he)) (by show (List.take _ _).length ≤ _; rw [List.length_take, hrl]; omega))
  unfold unpackItems
  refine wpAny_bind ?_
  unfold notIterableAtAll
  rcases hl with hl | hl
  · refine wpAny_bind (wpAny_specialOf hl.typeIs slot_list_iter.lookup ?_)
    refine wpAny_pure ?_
    simp only [Bool.false_eq_true, if_false]
    refine wpAny_bind (wpAny_holding (wpAny_pyIter_list hl ?_))
    refine wpAny_bind (wpAny_holding (PySem.W.kun_draw hlt i 0 _ _ ⟨_, Heap.get?_push_size _ rfl, rfl, rfl⟩ (hl.push _) (by omega) fun h₁ hit₁ hs₁ => ?_))
    have hl₁ : h₁.IsList l items := (hl.push _).extBut hs₁.extBut hlt
    rw [Nat.zero_add] at hit₁
    have hit₁' := hit₁
    obtain ⟨oi, hoi, _⟩ := hit₁'
    have hl₁' := hl₁
    obtain ⟨ol, hol, _⟩ := hl₁'
    rw [List.drop_zero]
    rw [if_neg (show ¬ ((items.toList.take i).length < i) by rw [hfl]; omega)]
    refine wpAny_bind (wpAny_holding (PySem.W.kun_collect (s := { s with heap := h₁ }) (T := "list_iterator") (.inr (.inr (.inl rfl))) (Walks.list (A := A.in1) hh s.heap.objs.size l hlt items) (fun j u st => st.1.typeIs) (k := i) (by omega) ⟨hit₁, hl₁⟩ (Heap.lt_size hoi) (Heap.lt_size hol) (fun h₂ tk hk => ?_) hz))
    show wpAny _ _ (if (items.toList.drop i).length < n - 1 - i then _ else _) _ _ _
    rw [if_neg (by rw [hrl]; omega)]
    show wpAny _ _ (newList ((items.toList.drop i).take ((items.toList.drop i).length - (n - 1 - i))) >>= fun d => pure (items.toList.take i ++ [d] ++ (items.toList.drop i).drop ((items.toList.drop i).length - (n - 1 - i)))) _ _ _
    rw [hmid]
    exact fin h₂ tk (fun b o hb e => hk b o hb (hs₁.extBut b o hb (Heap.get?_push_of_some _ e)))
  · refine wpAny_bind (wpAny_specialOf hl.typeIs PyProof.Rows.slot_tuple_iter.lookup ?_)
    refine wpAny_pure ?_
    simp only [Bool.false_eq_true, if_false]
    refine wpAny_bind (wpAny_holding (PyProof.Rows.iter_tuple hl ?_))
    refine wpAny_bind (wpAny_holding (PyProof.Rows.draw_tuple hlt i 0 _ _ ⟨_, Heap.get?_push_size _ rfl, rfl, rfl⟩ (hl.push _) (by omega) fun h₁ hit₁ hs₁ => ?_))
    have hl₁ : PyProof.Rows.IsTup h₁ l items := (hl.push _).extBut hs₁.extBut hlt
    rw [Nat.zero_add] at hit₁
    have hit₁' := hit₁
    obtain ⟨oi, hoi, _⟩ := hit₁'
    have hl₁' := hl₁
    obtain ⟨ol, hol, _⟩ := hl₁'
    rw [List.drop_zero]
    rw [if_neg (show ¬ ((items.toList.take i).length < i) by rw [hfl]; omega)]
    refine wpAny_bind (wpAny_holding (PySem.W.kun_collect (s := { s with heap := h₁ }) (T := "tuple_iterator") (.inr (.inr (.inr rfl))) (Walks.tuple (A := A.in1) hh s.heap.objs.size l hlt items) (fun j u st => st.1.typeIs) (k := i) (by omega) ⟨hit₁, hl₁⟩ (Heap.lt_size hoi) (Heap.lt_size hol) (fun h₂ tk hk => ?_) hz))
    show wpAny _ _ (if (items.toList.drop i).length < n - 1 - i then _ else _) _ _ _
    rw [if_neg (by rw [hrl]; omega)]
    show wpAny _ _ (newList ((items.toList.drop i).take ((items.toList.drop i).length - (n - 1 - i))) >>= fun d => pure (items.toList.take i ++ [d] ++ (items.toList.drop i).drop ((items.toList.drop i).length - (n - 1 - i)))) _ _ _
    rw [hmid]
    exact fin h₂ tk (fun b o hb e => hk b o hb (hs₁.extBut b o hb (Heap.get?_push_of_some _ e)))
/-- unpacking, as an operation -/
theorem unpack_ok {pins : List (Addr × Obj)} {s : Shared} {σ : L2.St} {H : Hp} {η : List Addr} {S : Sto} {v : V} {u : Value} {d : D} {n : Nat} {star : Option (Nat × Bool)} (hc : X.calm = true) (I : Inv X pins σ H s) (tk : τ ≤ s.toks) (st : StoOk X.K η H S) (r : RelV v u) (rd : Rep X.K η H d v) :
    Out τ X pins η H (relL X.K σ) (unpackD n star d S) (sem X (unpackItems u n (star.map (·.1)))) s := by
  unfold unpackD
  cases q : seqI S d with
  | none => trivial
  | some xs =>
    obtain ⟨a, vs, rfl, hq, hr⟩ := seqI_at st rd q
    cases r
    have hseq : ∃ its : List Value, Vals vs its ∧ (s.heap.IsList a its.toArray ∨ PyProof.Rows.IsTup s.heap a its.toArray) ∧ vs.length ≤ sizeLine := by
      rcases hq with hq | hq
      · obtain ⟨its, rv, p, hz⟩ := I.list hq
        exact ⟨its, rv, .inl p.isList, hz⟩
      · obtain ⟨its, rv, p, hz⟩ := I.tuple hq
        exact ⟨its, rv, .inr p, hz⟩
    obtain ⟨its, rv, hl, hz⟩ := hseq
    have hlen : its.length = xs.length := by rw [hr.length, rv.length]
    cases star with
    | none =>
      dsimp only
      by_cases hn : xs.length = n
      · rw [if_pos hn]
        subst hn
        intro E
        show wpAny _ _ (unpackItems (.ref a) xs.length none) _ _ _
        have e : xs.length = its.toArray.size := by rw [List.size_toArray, hlen]
        rw [e]
        have fin : ∀ h', Heap.ExtBut s.heap.objs.size s.heap h' → τ ≤ s.toks ∧ ∃ σ' η' H', Inv X pins σ' H' { s with heap := h' } ∧ Grow η H η' H' ∧ StoOk X.K η' H' S ∧ relL X.K σ σ' η' H' xs its.toArray.toList := fun h' hx => by
          refine ⟨tk, σ, η, H, I.kept (t' := s.toks) fun b o e => hx b o (Nat.ne_of_lt (Heap.lt_size e)) e, .refl _ _, st, rfl, vs, ?_, hr⟩
          simpa using rv
        rcases hl with hl | hl
        · exact PySem.W.kun_itemsOf (I.ok.hd hc) hl fin
        · exact PyProof.Rows.unpackItems_tuple (I.ok.hd hc) hl fin
      · rw [if_neg hn]; trivial
    | some p =>
      obtain ⟨i, m⟩ := p
      dsimp only
      by_cases hn : i < n ∧ n ≤ xs.length + 1
      · rw [if_pos hn, bind_run]
        cases q2 : newL m ((xs.drop i).take (xs.length + 1 - n)) S with
        | bad => trivial
        | ok l S' =>
          intro E
          show wpAny _ _ (unpackItems (.ref a) n (some i)) _ _ _
          refine wpAny_mono (PySem.wpAny_toks (Q := fun us s' => ∃ σ' η' H', Inv X pins σ' H' s' ∧ Grow η H η' H' ∧ StoOk X.K η' H' S' ∧ relL X.K σ σ' η' H' (xs.take i ++ [l] ++ (xs.drop i).drop (xs.length + 1 - n)) us) (star_items hl (I.ok.hd hc) hn.1 (by rw [List.size_toArray, hlen]; exact hn.2) (by rw [List.size_toArray, ← rv.length]; exact hz) fun h' tk' hx => ?_)) (fun us s' z => ⟨Nat.le_trans tk z.1, z.2⟩) fun _ _ z => z.2
          have I1 : Inv X pins σ H { s with heap := h', toks := tk' } := I.kept fun b o e => hx b o (Nat.ne_of_lt (Heap.lt_size e)) e
          have hp := I1.hok.fresh (Nat.le_refl h'.objs.size)
          have e : its.toArray.size = xs.length := by rw [List.size_toArray, hlen]
          rw [e]
          have rm : Reps X.K η H ((xs.drop i).take (xs.length + 1 - n)) ((vs.drop i).take (xs.length + 1 - n)) := (hr.drop i).take _
          obtain ⟨η1, g1, st1, r1⟩ := good_newL st rm hp q2
          refine ⟨σ, η1, _, I1.laid (t' := tk') (o := .lst ((vs.drop i).take (xs.length + 1 - n))) (fun b ob q => Heap.get?_push_of_some _ q) (Nat.le_refl _) ⟨?_, _, 0, Vals.take' (Vals.drop' rv i) _, Heap.get?_push_size _ rfl⟩, g1, st1, rfl, vs.take i ++ [.ref h'.objs.size] ++ (vs.drop i).drop (xs.length + 1 - n), ?_, ?_⟩
          · rw [List.length_take, List.length_drop]
            exact Nat.le_trans (Nat.min_le_right _ _) (Nat.le_trans (Nat.sub_le _ _) hz)
          · exact ((Vals.take' rv i).append (.cons (show RelV (.ref h'.objs.size) (.ref h'.objs.size) from rfl) .nil)).append (Vals.drop' (Vals.drop' rv i) _)
          · exact ((hr.grow g1).take i |>.append (.cons r1 .nil)).append (((hr.grow g1).drop i).drop _)
      · rw [if_neg hn]; trivial
/-! ### targets in a row -/
theorem pgds_nil : PGDs τ X [] (asgs []) := by
  intro pins s σ H ρ η S vs us ds I tk sr st rv rd
  cases rd with
  | nil => cases rv; exact fun E => PyProof.Rows.assignInOrder_nil ⟨tk, σ, η, H, I, .refl _ _, st, sr⟩
  | cons _ _ => trivial
theorem pgds_cons {t : Expr} {ts : List Expr} {b : Bool} {g : D → Env → M Env} {gs : List (D → Env → M Env)} {t' : Expr} (ht : PGD τ X t' g) (hts : PGDs τ X ts (asgs gs)) (he : assignEach (t :: ts) X.env = (b, assign t' X.env) :: assignEach ts X.env) : PGDs τ X (t :: ts) (asgs (g :: gs)) := by
  intro pins s σ H ρ η S vs us ds I tk sr st rv rd
  rw [he]
  cases rd with
  | nil => trivial
  | cons r1 rr =>
    cases rv with
    | cons v1 vr =>
      refine Out.seq (t1 := assign t' X.env _) (W2 := fun _ => sem X (PySem.assignInOrder ((assignEach ts X.env).map (·.2)) _)) (fun Q E h => PyProof.Rows.assignInOrder_cons h) (ht pins s σ H ρ η S _ _ _ I tk sr st v1 r1) ?_
      intro _ s1 σ1 η1 H1 ρ1 S1 _ tk1 I1 g1 st1 sr1
      exact Out.back (mono_sem _) g1 (hts pins s1 σ1 H1 ρ1 η1 S1 _ _ _ I1 tk1 sr1 st1 vr (rr.grow g1))
theorem assign_tup_any {M : Model} {A : Around} {env : PySem.Env} {ts : List Expr} {k : Nat} {pos : Pos} {u : Value} {n : Nat} {o : Option Nat} {Q : Unit → Shared → Prop} {E : Value → Shared → Prop} {s : Shared} (hn : (assignEach ts env).length = n) (hst : (assignEach ts env).findIdx? (·.1) = o)
    (h : wpAny M A (unpackItems u n o) (fun us s' => wpAny M A (PySem.assignInOrder ((assignEach ts env).map (·.2)) us) Q E s') E s) : wpAny M A (assign (.Tuple ts k pos) env u) Q E s := by
  rw [PyProof.Rows.assign_Tuple]
  refine wpAny_bind (wpAny_standAt ?_)
  unfold unpack
  rw [hn, hst]
  exact wpAny_bind (wpAny_holding h)
/-- (a, b, ..) = .. -/
theorem pgd_tup {ts : List Expr} {k : Nat} {pos : Pos} {n : Nat} {star : Option (Nat × Bool)} {gs : List (D → Env → M Env)} (hc : X.calm = true) (hts : PGDs τ X ts (asgs gs)) (hn : (assignEach ts X.env).length = n) (hst : (assignEach ts X.env).findIdx? (·.1) = star.map (·.1)) :
    PGD τ X (.Tuple ts k pos) (fun d ρ => unpackD n star d >>= fun ds => asgs gs ds ρ) := by
  intro pins s σ H ρ η S v u d I tk sr st r rd
  have h1 := unpack_ok (n := n) (star := star) hc I tk st r rd
  have h2 : ∀ us s1 σ1 η1 H1 ds S1, unpackD n star d S = .ok ds S1 → τ ≤ s1.toks → Inv X pins σ1 H1 s1 → Grow η H η1 H1 → StoOk X.K η1 H1 S1 → relL X.K σ σ1 η1 H1 ds us → Out τ X pins η H (relE X.K) (asgs gs ds ρ S1) (sem X (PySem.assignInOrder ((assignEach ts X.env).map (·.2)) us)) s1 := by
    intro us s1 σ1 η1 H1 ds S1 _ tk1 I1 g1 st1 z
    obtain ⟨e1, vs, rv, rds⟩ := z
    rw [e1] at I1
    exact Out.back (mono_sem _) g1 (hts pins s1 _ H1 ρ η1 S1 vs us ds I1 tk1 (sr.grow g1) st1 rv rds)
  show Out τ X pins η H (relE X.K) ((unpackD n star d >>= fun ds => asgs gs ds ρ) S) (sem X (assign (.Tuple ts k pos) X.env u)) s
  generalize unpackD n star d = m at h1 h2 ⊢
  exact Out.seq (fun Q E h => assign_tup_any hn hst h) h1 h2
end
end MP

/-! MP15: xs[::-1], replace, dict displays, globals, several names at once. -/
namespace MP
open PySem L2
/-! ### [::-1] -/
def revE (m : Bool) (d : D) : M D := match d with
  | .tup xs => pure (.tup xs.reverse)
  | d => fun S => match itemsR S d with
    | some xs => newL m xs.reverse S
    | none => .bad
section
variable {prog : Program} {w : World} {A : Around} {E : Value → Shared → Prop} {s : Shared}
theorem rev_pick (xs : Array Value) : ((List.range xs.size).filterMap fun (m : Nat) => xs[(((xs.size : Int) - 1) + (m : Int) * -1).toNat]?).toArray = xs.toList.reverse.toArray := by
  have h := PySem.W.krv_pick xs
  unfold slicePick at h
  rw [PySem.W.krv_bounds] at h
  have h : ((sliceRange ((xs.size : Int) - 1) (-1) (-1)).filterMap (xs[·]?)).toArray = xs.toList.reverse.toArray := h
  rw [PySem.W.krv_sliceRange, List.filterMap_map] at h
  rw [← h]
  congr 1
  have go : ∀ l : List Nat, (∀ k ∈ l, k < xs.size) → (l.filterMap fun (m : Nat) => xs[(((xs.size : Int) - 1) + (m : Int) * -1).toNat]?) = l.filterMap ((fun x => xs[x]?) ∘ fun k => xs.size - 1 - k) := by
    intro l
    induction l with
    | nil => intro _; rfl
    | cons k l ih =>
      intro hl
      have hk := hl k (by simp)
      have e : (((xs.size : Int) - 1) + (k : Int) * -1).toNat = xs.size - 1 - k := by omega
      simp only [List.filterMap_cons, Function.comp, e]
      rw [ih fun x hx => hl x (by simp [hx])]
  exact go _ fun k hk => List.mem_range.mp hk
theorem getItem_tuple_rev {t sl : Addr} {items : Array Value} {vs : Value} {Q : Value → Shared → Prop} (ht : PyProof.Rows.IsTup s.heap t items) (hs : s.heap.IsSliceOf sl .none .none vs) (ps : IsPart vs (some (-1)))
    (h : Q (.ref s.heap.objs.size) { s with heap := s.heap.push { cls := .type "tuple", data := .seq items.toList.reverse.toArray } })
    (hsz : items.size ≤ sizeLine) : wpAny (model prog w) A (getItem (.ref t) (.ref sl)) Q E s := by
  have htake : sizeOk (.seq items.toList.reverse.toArray) := by
    show items.toList.reverse.toArray.size ≤ sizeLine
    rw [List.size_toArray, List.length_reverse, Array.length_toList]
    exact hsz
  obtain ⟨os, hos, hcs, hds⟩ := id hs
  have hTs : s.TypeIs (.ref sl) "slice" := ⟨os, hos, hcs⟩
  cases ps with
  | int i tt =>
  unfold getItem
  try with_reducible refine wpAny_holding ?_
  first | refine wpAny_bind (wpAny_pure ?_) | skip
  refine wpAny_bind (wpAny_sequenceKey ht.typeIs (by decide) ?_)
  refine wpAny_bind (wpAny_callSpecial?_slot (name := Str.ofString "__getitem__") ht.typeIs PyProof.Rows.slot_tuple_getitem
    (wpAny_call_entry PyProof.Rows.slot_tuple_getitem ht.typeIs PyProof.Rows.entry_tuple_getitem ?_ (PyProof.Rows.args_tuple_getitem _ _)))
  show wpAny _ _ (Builtin.Tuple.tupleItemsOf (.ref t) >>= _) _ _ s
  refine wpAny_bind (PyProof.Rows.tupleItemsOf_ ht ?_)
  refine wpAny_bind (wpAny_typeOf hTs ?_)
  rw [if_pos (by decide)]
  refine wpAny_bind ?_
  unfold Builtin.Slice.sliceApplied Builtin.Slice.sliceFields
  refine wpAny_bind (wpAny_bind (wpAny_field hos hds (x := .none) rfl (wpAny_bind (wpAny_field hos hds (x := .none) rfl (wpAny_bind (wpAny_field hos hds (x := .int (-1) tt) rfl (wpAny_pure ?_)))))))
  refine wpAny_bind (PyProof.Rows.slicePart_int ?_)
  show wpAny _ _ (if ((-1 : Int) == 0) = true then _ else _) _ _ s
  rw [if_neg (by decide)]
  refine wpAny_bind (PyProof.Rows.slicePart_none (wpAny_bind (PyProof.Rows.slicePart_none (wpAny_bind (wpAny_pure ?_)))))
  have ea : Builtin.Slice.sliceAdjust none none (-1) (items.size : Int) = ((items.size : Int) - 1, -1) := rfl
  show wpAny _ _ (match Builtin.Slice.sliceAdjust none none (-1) (items.size : Int) with | (lo, hi) => pure (lo, (-1 : Int), Builtin.Slice.slicePlaces lo hi (-1))) _ _ s
  rw [ea]
  have ep : Builtin.Slice.slicePlaces ((items.size : Int) - 1) (-1) (-1) = items.size := by
    unfold Builtin.Slice.slicePlaces
    have h1 : ¬ ((-1 : Int) > 0) := by decide
    simp only [h1, if_false]
    by_cases hz : (items.size : Int) - 1 > -1
    · simp only [hz, if_true]
      rw [show (- -1 : Int) = 1 by decide, Int.ediv_one]
      omega
    · simp only [hz, if_false]
      omega
  show wpAny _ _ (pure ((items.size : Int) - 1, (-1 : Int), Builtin.Slice.slicePlaces ((items.size : Int) - 1) (-1) (-1))) _ _ s
  rw [ep]
  refine wpAny_pure ?_
  have hno : ¬ ((((items.size : Int) - 1) == 0 && (-1 : Int) == 1 && items.size == items.size) = true) := by
    have : ((-1 : Int) == 1) = false := by decide
    rw [this, Bool.and_false, Bool.false_and]
    exact Bool.false_ne_true
  show wpAny _ _ (if (((items.size : Int) - 1) == 0 && (-1 : Int) == 1 && items.size == items.size) = true then _ else _) _ _ s
  rw [if_neg hno, rev_pick]
  first
    | exact wpAny_bind (m := Builtin.Tuple.tupleExact _) (wpAny_newObj_type (wpAny_pure ⟨_, rfl, wpAny_pure h⟩) htake)
    | exact wpAny_bind (m := Builtin.Tuple.tupleExact _) (wpAny_newObj_type (wpAny_bind (wpAny_pure (wpAny_pure ⟨_, rfl, wpAny_pure h⟩))) htake)
    | exact wpAny_bind (wpAny_bind (m := Builtin.Tuple.tupleExact _) (wpAny_newObj_type (wpAny_pure (wpAny_pure ⟨_, rfl, wpAny_pure h⟩)) htake))
    | exact wpAny_bind (wpAny_bind (m := Builtin.Tuple.tupleExact _) (wpAny_newObj_type (wpAny_pure ⟨_, rfl, wpAny_pure h⟩) htake))
end
section
variable {X : Cx} {e : Expr} {pos p1 p2 p3 : Pos}
theorem pd_rev {m : Bool} {ge : Env → M D} {k : Nat} (he : PD τ X e ge) : PD τ X (.Subscript e (.Slice none none (some (.UnaryOp .USub (.Constant (.int 1) k p1) p2)) p3) pos) (fun ρ => ge ρ >>= revE m) := by
  intro pins s σ H ρ η S I tk sr st
  refine Out.seq (t1 := eval e X.env) (W2 := fun v Q E s1 => wpAny (model X.prog X.w) X.A (evalPart none X.env) (fun vl s2 => wpAny (model X.prog X.w) X.A (evalPart none X.env) (fun vu s3 => wpAny (model X.prog X.w) X.A (evalPart (some (.UnaryOp .USub (.Constant (.int 1) k p1) p2)) X.env) (fun vs s4 =>
    wpAny (model X.prog X.w) X.A (PyProof.Rows.subscriptTail e (.Slice none none (some (.UnaryOp .USub (.Constant (.int 1) k p1) p2)) p3) v (.ref s4.heap.objs.size)) Q E { s4 with heap := s4.heap.push { cls := .type "slice", data := .fields #[vl, vu, vs] } }) E s3) E s2) E s1)
    (fun Q E h => PyProof.Rows.Subscript_ (wpAny_mono h (fun v s1 z => wpAny_Slice z) fun _ _ z => z)) (he pins s σ H ρ η S I tk sr st) ?_
  rintro v s1 σ1 η1 H1 d S1 _ tk1 I1 g1 st1 ⟨rfl, x, rx, rd⟩
  cases q : revE m d S1 with
  | bad => trivial
  | ok d' S' =>
    intro E
    rw [evalPart_none]
    refine wpAny_pure ?_
    refine wpAny_pure ?_
    have hst : PO (X.wish E) (some (.UnaryOp .USub (.Constant (.int 1) k p1) p2)) (tPart (tUn (rU fun i => .int (-i)) (tC (.int 1)))) := po_some (pe_un un_neg pe_int)
    refine wpAny_mono (PySem.wpAny_toks (hst.run pins s1 σ1 H1 (fun o H4 => o = some (-1) ∧ H4 = H1) (I1.wish E) ⟨1, rfl, -1, rfl, rfl, rfl⟩)) (fun vs s4 z => ?_) fun _ _ z => z.2
    obtain ⟨tk4, o, H4, I4, ps, eo, e4⟩ := z
    subst eo e4
    have I4 := I4.unwish
    have I5 : Inv X pins σ1 H4 { s4 with heap := s4.heap.push { cls := .type "slice", data := .fields #[.none, .none, vs] } } := I4.kept (t' := s4.toks) fun b ob q => Heap.get?_push_of_some _ q
    have seq : ∀ {p : Addr} {ds : List D} {us : List V}, x = .ref p → SqL X.K H4 p us → Reps X.K η1 H4 ds us → newL m ds.reverse S1 = .ok d' S' →
        wpAny (model X.prog X.w) X.A (PyProof.Rows.subscriptTail e (.Slice none none (some (.UnaryOp .USub (.Constant (.int 1) k p1) p2)) p3) v (.ref s4.heap.objs.size)) (fun u s' => τ ≤ s'.toks ∧ ∃ σ' η' H', Inv X pins σ' H' s' ∧ Grow η H η' H' ∧ StoOk X.K η' H' S' ∧ relV X.K σ1 σ' η' H' d' u) E { s4 with heap := s4.heap.push { cls := .type "slice", data := .fields #[.none, .none, vs] } } := by
      intro p ds us ex hx hr hn
      subst ex
      cases rx
      obtain ⟨its, r, ht, hz⟩ := I5.list hx
      have hlen := r.length
      refine PyProof.Rows.tail_any (ops := [.ref p, .ref s4.heap.objs.size]) ht.isList.typeIs (PySem.slot_list_getitem.lookup) ?_ (by with_unfolding_all rfl)
      refine wpAny_getItem_list_slice ht.isList (Heap.IsSliceOf.new _ .none .none vs) .none .none ps (by decide) ?_ (by rw [List.size_toArray]; omega)
      rw [PySem.W.krv_pick]
      have hp := I5.hok.fresh (Nat.le_refl _)
      obtain ⟨η6, g6, st6, r6⟩ := good_newL st1 hr.reverse hp hn
      exact ⟨Nat.le_trans tk1 tk4, σ1, η6, _, I5.laid (t' := s4.toks) (o := .lst us.reverse) (fun b ob q => Heap.get?_push_of_some _ q) (Nat.le_refl _) ⟨by rw [List.length_reverse]; exact hz, _, 0, r.reverse, Heap.get?_push_size _ rfl⟩, g1.trans g6, st6, rfl, V.ref _, rfl, r6⟩
    cases rd with
    | @tup a us ds h1 h2 =>
      cases q
      cases rx
      obtain ⟨its, r, ht, hz⟩ := I5.tuple h1.sq
      refine PyProof.Rows.tail_any (ops := [.ref a, .ref s4.heap.objs.size]) ht.typeIs (PyProof.Rows.slot_tuple_getitem.lookup) ?_ (by with_unfolding_all rfl)
      refine getItem_tuple_rev ht (Heap.IsSliceOf.new _ .none .none vs) ps ?_ (by rw [List.size_toArray, ← r.length]; exact hz)
      have hp := I5.hok.fresh (Nat.le_refl _)
      obtain ⟨η6, g6, st6, r6⟩ := good_newT (S := S1) st1 h2.reverse hp
      exact ⟨Nat.le_trans tk1 tk4, σ1, η6, _, I5.laid (t' := s4.toks) (o := .tup us.reverse) (fun b ob q => Heap.get?_push_of_some _ q) (Nat.le_refl _) ⟨by rw [List.length_reverse]; exact hz, _, r.reverse, PyProof.Rows.IsTup.new _ _⟩, g1.trans g6, st6, rfl, V.ref _, rfl, r6⟩
    | lst h1 h2 => exact seq rfl h1.sq h2 q
    | frz h1 h2 => exact seq rfl h1.sq h2 q
    | @ref n a h1 =>
      have q : (match itemsR S1 (.ref n) with | some xs => newL m xs.reverse S1 | none => .bad) = .ok d' S' := q
      cases qa : itemsR S1 (.ref n) with
      | none => rw [qa] at q; cases q
      | some xs =>
        rw [qa] at q
        obtain ⟨a', us, e1, h3, h4⟩ := itemsR_at st1 (.ref h1) qa
        exact seq e1 h3 h4 q
    | _ => cases q
end
end MP

/-! MP16: several names at once, replace, dict displays, globals. -/
namespace MP
open PySem L2
def setsL : List Nat → List D → Env → Env
  | i :: is, d :: ds, ρ => setsL is ds (ρ.set i (some d))
  | _, _, ρ => ρ
def Slots (X : Cx) : List Str → List Nat → Prop
  | [], [] => True
  | x :: xs, i :: is => (X.N[i]? = some x ∧ X.env.scope.names.lookup x = some .local) ∧ Slots X xs is
  | _, _ => False
section
variable {X : Cx} {e : Expr} {pos : Pos}
theorem par_stores {pins : List (Addr × Obj)} {H : Hp} {η : List Addr} {S : Sto} {E : Value → Shared → Prop} (hN : X.N.Nodup) (st : StoOk X.K η H S) : ∀ (names : List Str) (is : List Nat) {us : List Value} {vs : List V} {ds : List D} {s : Shared} {σ : L2.St} {ρ : Env}, Slots X names is → Inv X pins σ H s → τ ≤ s.toks → SRel X.K η H σ ρ → Vals vs us → Reps X.K η H ds vs →
    wpAny (model X.prog X.w) X.A (PySem.assignInOrder (names.map fun n => bindName X.env n) us) (fun _ s' => τ ≤ s'.toks ∧ ∃ σ', Inv X pins σ' H s' ∧ SRel X.K η H σ' (setsL is ds ρ)) E s
  | [], [], us, vs, ds, s, σ, ρ, _, I, tk, sr, _, _ => by
    refine PyProof.Rows.assignInOrder_nil ⟨tk, σ, I, ?_⟩
    cases ds <;> exact sr
  | x :: xs, i :: is, us, vs, ds, s, σ, ρ, hs, I, tk, sr, rv, rd => by
    cases rd with
    | nil =>
      cases rv
      have e : PySem.assignInOrder ((x :: xs).map fun n => bindName X.env n) [] = pure () := rfl
      rw [e]
      exact wpAny_pure ⟨tk, σ, I, sr⟩
    | cons r1 rr =>
      cases rv with
      | cons v1 vr =>
        refine PyProof.Rows.assignInOrder_cons (wpAny_bindName (wpAny_mono (PySem.wpAny_toks (store_ok (Q := fun _ s' => Inv X pins (σ.set i (some _)) H s') I hN hs.1.1 (.inl hs.1.2) v1 (fun s' I' => I') (.inr hs.1.2))) (fun _ s1 z => ?_) fun _ _ z => z.2))
        exact par_stores hN st xs is hs.2 z.2 (Nat.le_trans tk z.1) (sr.set r1 i) vr rr
  | [], _ :: _, _, _, _, _, _, _, hs, _, _, _, _, _ => hs.elim
  | _ :: _, [], _, _, _, _, _, _, hs, _, _, _, _, _ => hs.elim
theorem Vals.reverse' {vs : List V} {us : List Value} (h : Vals vs us) : Vals vs.reverse us.reverse := h.reverse
theorem psd_par {tg value : Expr} {names : List Str} {is : List Nat} {ge : Env → M D} (hc : X.calm = true) (hN : X.N.Nodup) (hsl : Slots X names.reverse is.reverse) (he : PD τ X value ge) (hw : swappedStores [tg] value X.env = pure (some names)) (hs : swapsWithSole [tg] value pos.line X.env = pure false) :
    PSD τ X (.Assign [tg] value pos) (fun ρ => ge ρ >>= fun d => unpackD names.length none d >>= fun ds => pure (.next (setsL is.reverse ds.reverse ρ))) := by
  intro pins s σ H ρ η S I tk sr st
  have eT : ∀ Q E, wpAny (model X.prog X.w) X.A (eval value X.env) (fun v s' => wpAny (model X.prog X.w) X.A (unpackItems v names.length none) (fun us s2 => wpAny (model X.prog X.w) X.A (PySem.assignInOrder (names.reverse.map fun n => bindName X.env n) us.reverse) (fun _ => Q .next) E s2) E s') E s → wpAny (model X.prog X.w) X.A (exec (.Assign [tg] value pos) X.env) Q E s := fun Q E h => by
    rw [exec_Assign_arm]
    refine wpAny_bind (wpAny_standAt ?_)
    rw [hs]
    refine wpAny_bind (wpAny_pure ?_)
    rw [if_neg (by decide)]
    refine wpAny_bind (wpAny_mono h (fun v s1 h1 => ?_) fun _ _ z => z)
    rw [hw]
    refine wpAny_bind (wpAny_pure ?_)
    show wpAny (model X.prog X.w) X.A (do rule "assign.swapped-stores"; let items ← unpackItems v names.length none; PySem.assignInOrder (names.reverse.map fun n => bindName X.env n) items.reverse; pure Flow.next) _ _ _
    exact wpAny_bind (wpAny_rule (wpAny_bind (wpAny_mono h1 (fun us s2 h2 => wpAny_bind (wpAny_mono h2 (fun _ s3 h3 => wpAny_pure h3) fun _ _ z => z)) fun _ _ z => z)))
  refine Out.seq (t1 := eval value X.env) (W2 := fun v Q E s' => wpAny (model X.prog X.w) X.A (unpackItems v names.length none) (fun us s2 => wpAny (model X.prog X.w) X.A (PySem.assignInOrder (names.reverse.map fun n => bindName X.env n) us.reverse) (fun _ => Q .next) E s2) E s') eT (he pins s σ H ρ η S I tk sr st) ?_
  rintro v s1 σ1 η1 H1 d S1 _ tk1 I1 g1 st1 ⟨e1, x, rx, rd⟩
  rw [e1] at I1
  have h1 := unpack_ok (n := names.length) (star := none) hc I1 tk1 st1 rx rd
  show Out τ X pins η H (relF X.K) ((unpackD names.length none d >>= fun ds => pure (.next (setsL is.reverse ds.reverse ρ))) S1) _ s1
  generalize unpackD names.length none d = m at h1 ⊢
  refine Out.back (fun Q Q' E s' hQ w => wpAny_mono w (fun _ s2 z => wpAny_mono z (fun _ s3 z => hQ _ _ z) fun _ _ z => z) fun _ _ z => z) g1 ?_
  refine Out.seq (t1 := unpackItems v names.length none) (W2 := fun us Q E s2 => wpAny (model X.prog X.w) X.A (PySem.assignInOrder (names.reverse.map fun n => bindName X.env n) us.reverse) (fun _ => Q .next) E s2) (fun Q E h => h) h1 ?_
  rintro us s2 σ2 η2 H2 ds S2 _ tk2 I2 g2 st2 ⟨e2, vs, rv, rds⟩
  intro E
  rw [e2] at I2
  refine wpAny_mono (par_stores hN st2 names.reverse is.reverse hsl I2 tk2 ((sr.grow g1).grow g2) rv.reverse rds.reverse) (fun _ s3 z => ?_) fun _ _ z => z
  obtain ⟨tk3, σ3, I3, sr3⟩ := z
  exact ⟨tk3, σ3, η2, H2, I3, g2, st2, sr3⟩

/-! ### globals -/
theorem pd_glob {x : Str} {d : D} {v : V} {u : Value} (hg : Gl X x) (hm : X.mg x = some u) (r : RelV v u) (hr : ∀ η H, Rep X.K η H d v) (hd : (x == ("__debug__" : Str)) = false) : PD τ X (.Name x pos) (fun _ => pure d) :=
  pd_const (fun _ _ => rfl) (fun E => pe_glob (X := X.wish E) hg hm r hd) hr

/-! ### replace with literals -/
def replD (y z : Str) (d : D) : M D := match d with
  | .str x => if x.length + (x.length + 1) * z.length ≤ 16777216 then pure (.str (Txt.replace x y z)) else M.fail
  | _ => M.fail
theorem pd_repl {o : Expr} {go : Env → M D} {y z : Str} {j k : Nat} {c0 c1 apos : Pos} (hτ : 1 ≤ τ) (ho : PD τ X o go) (hyz : (y == z) = false) (hbase : attributeBase o "replace" X.env (eval o X.env) = eval o X.env) (hline : (apos.endLine == pos.line) = true) :
    PD τ X (.Call (.Attribute o "replace" apos) [.Constant (.str y) j c0, .Constant (.str z) k c1] [] pos) (fun ρ => go ρ >>= replD y z) := by
  intro pins s σ H ρ η S I tk sr st
  refine Out.never fun d S' q => ?_
  have q : (go ρ >>= replD y z) S = .ok d S' := q
  rw [bind_run] at q
  have key := ho pins s σ H ρ η S I tk sr st
  cases q1 : go ρ S with
  | bad => rw [q1] at q; cases q
  | ok d1 S1 =>
    rw [q1] at q key
    refine PySem.Call_method2 hbase rfl hline (wpAny_mono (key _) (fun v s1 zz => ?_) fun _ _ z => z)
    obtain ⟨tk1, σ1, η1, H1, I1, g1, st1, e1, x', rx, rd⟩ := zz
    subst e1
    cases rd with
    | str x =>
      obtain ⟨tx, e2⟩ := rx
      subst e2
      have q : (if x.length + (x.length + 1) * z.length ≤ 16777216 then pure (D.str (Txt.replace x y z)) else M.fail : M D) S1 = .ok d S' := q
      by_cases hb : x.length + (x.length + 1) * z.length ≤ 16777216
      · rw [if_pos hb] at q
        cases q
        refine ⟨"str", _, PySem.F.plainAttrs_str, PySem.F.slot_str_replace, PySem.F.type_str_replace, typeIs_str _ _ _, (fun _ e => nomatch e), Calls.callWith_builtin rfl (Calls.evalArgs_plain (Calls.spliced_cons ?_))⟩
        refine Calls.Constant_str (Calls.spliced_cons (Calls.Constant_str (Calls.spliced_nil ?_)))
        refine wpAny_mono (PySem.wpAny_toks (PySem.SC.replace (Q := fun u s' => ∃ σ' η' H', Inv X pins σ' H' s' ∧ Grow η H η' H' ∧ StoOk X.K η' H' S' ∧ relV X.K σ1 σ' η' H' (D.str (Txt.replace x y z)) u) (by show s1.toks ≠ 0; omega) (by show s1.toks + 1 ≠ 0; omega) (by show s1.toks ≠ s1.toks + 1; omega) hyz hb fun t' k => ⟨σ1, η1, H1, I1.tok k, g1, st1, rfl, .str _, ⟨t', rfl⟩, .str _⟩)) (fun u s' z => ⟨Nat.le_trans ?_ z.1, z.2⟩) fun _ _ z => z.2
        show τ ≤ s1.toks + 1 + 1
        omega
      · rw [if_neg hb] at q; cases q
    | _ => cases q
/-! ### dict displays -/
theorem pd_dict0 : PD τ X (.Dict [] [] pos) (fun _ => pure (.dic [])) := by
  refine pd_of fun E σ H ρ η S d S' sr st q => ?_
  cases q
  exact ⟨_, pe_dnewK, fun p hp => ⟨η, grow_new st hp, st.laid hp, .dic ⟨upd_same, st.fresh hp⟩ .nil⟩⟩
theorem pd_dict1 {i : Nat} {x : Str} {k : Int} {j : Nat} {c0 p : Pos} (hN : X.N[i]? = some x) (hv : Vis X.env.scope x) (hd : (x == ("__debug__" : Str)) = false) (hcd : (x == ("__classdict__" : Str)) = false) :
    PD τ X (.Dict [some (.Constant (.int k) j c0)] [.Name x p] pos) (fun ρ => M.of ((ρ[i]?).bind id) >>= fun d => pure (.dic [(.inl k, d)])) := by
  refine pd_of fun E σ H ρ η S d S' sr st q => ?_
  have q : (M.of ((ρ[i]?).bind id) >>= fun d => pure (.dic [(.inl k, d)]) : M D) S = .ok d S' := q
  rw [bind_run] at q
  cases q0 : ρ[i]? with
  | none => rw [q0] at q; cases q
  | some o =>
    cases o with
    | none => rw [q0] at q; cases q
    | some d0 =>
      rw [q0] at q
      cases q
      obtain ⟨v, h1, h2⟩ := sr.look i d0 q0
      refine ⟨_, pe_disp (pps_cons (pe_int (X := X.wish E)) (pe_var (X := X.wish E) hN hv hd hcd) pps_nil) rfl rfl (by simp) (by simp), fun p hp => ?_⟩
      refine ⟨v, h1, upd_same, [(.inl k, v)], rfl, by simp, η, ?_⟩
      have e : upd (upd H p (.dK [])) p (.dK (mergeK [] [(.inl k, v)])) = upd H p (.dK [(.inl k, v)]) := by
        funext a
        unfold upd
        split <;> rfl
      rw [e]
      exact ⟨grow_new st hp, st.laid hp, .dic ⟨upd_same, st.fresh hp⟩ (.cons (h2.grow (grow_new st hp)) .nil)⟩
end
end MP

/-! MP17: the small language, its meaning, the check against a tree. -/
namespace MP
open PySem L2
def noStar : Expr → Bool
  | .Starred .. => false
  | _ => true
theorem starEach_cons {e : Expr} {es : List Expr} {env : PySem.Env} (h : noStar e = true) : starEach (e :: es) env = (false, eval e env) :: starEach es env := by
  cases e <;> first | rfl | cases h
theorem star_any {env : PySem.Env} {pos : Pos} : ∀ {es : List Expr}, es.all noStar = true → (backTo pos (starEach es env)).any (·.1) = false
  | [], _ => rfl
  | e :: es, h => by
    rw [List.all_cons, Bool.and_eq_true] at h
    rw [starEach_cons h.1]
    show (false || (backTo pos (starEach es env)).any (·.1)) = false
    rw [star_any h.2]
    rfl
theorem star_all {env : PySem.Env} {pos : Pos} : ∀ {es : List Expr}, es.all noStar = true → (backTo pos (starEach es env)).all (fun x => !x.1) = true
  | [], _ => rfl
  | e :: es, h => by
    rw [List.all_cons, Bool.and_eq_true] at h
    rw [starEach_cons h.1]
    show (true && (backTo pos (starEach es env)).all (fun x => !x.1)) = true
    rw [star_all h.2]
    rfl
section
variable {X : Cx} {e : Expr} {es : List Expr}
/-- a method with no argument -/
theorem pd_meth0 {T id : String} {name : Str} {o : Expr} {go : Env → M D} {f : D → List D → M D} {apos cpos : Pos} (pa : PlainAttrs T) (slot : Slot T name id) (hty : typeOf (.builtin id) = pure (.type "method_descriptor")) (hm : Mt τ X T id f)
    (ht : ∀ {η : List Addr} {H : Hp} {S : Sto} {d : D} {x : V} {ds : List D} {d' : D} {S' : Sto} {S2 : Sto}, StoOk X.K η H S → Rep X.K η H d x → f d ds S2 = .ok d' S' → tyV X.K T x H)
    (ho : PD τ X o go) (hbase : attributeBase o name X.env (eval o X.env) = eval o X.env) (hline : (apos.endLine == cpos.line) = true) :
    PD τ X (.Call (.Attribute o name apos) [] [] cpos) (fun ρ => go ρ >>= fun d => f d []) := by
  intro pins s σ H ρ η S I tk sr st
  refine Out.seq (t1 := eval o X.env) (W2 := fun v Q E s1 => MethodOn X.prog X.w X.A name cpos v [] Q E s1) (fun Q E h => wpAny_Call_method0_late hbase hline h) (ho pins s σ H ρ η S I tk sr st) ?_
  rintro v s1 σ1 η1 H1 d S1 _ tk1 I1 g1 st1 ⟨rfl, x, rx, rd⟩
  have key := Out.back (mono_sem _) g1 (hm pins s1 σ1 H1 η1 S1 x [] v [] d [] I1 tk1 st1 rx .nil rd .nil)
  cases q : f d [] S1 with
  | bad => trivial
  | ok d' S' =>
    rw [q] at key
    intro E
    obtain ⟨h1, h2⟩ := tyV_is I1 rx (ht st1 rd q)
    exact ⟨T, id, pa, slot, hty, h1, h2, Calls.callWith_builtin rfl (PySem.evalArgs_none (key E))⟩
end
/-! ### operators -/
inductive Bop where | add | sub | mul | fdiv | mod | pow
  deriving DecidableEq, Inhabited
inductive Cop where | eq | ne | lt | le | gt | ge | is | isNot | inn | notIn
  deriving DecidableEq, Inhabited
def Bop.op : Bop → Operator
  | .add => .Add | .sub => .Sub | .mul => .Mult | .fdiv => .FloorDiv | .mod => .Mod | .pow => .Pow
def Cop.op : Cop → CmpOp
  | .eq => .Eq | .ne => .NotEq | .lt => .Lt | .le => .LtE | .gt => .Gt | .ge => .GtE | .is => .Is | .isNot => .IsNot | .inn => .In | .notIn => .NotIn
def Bop.ev (o : Bop) (m : Bool) : D → D → M D := match o with
  | .add => addD m | .sub => subD | .mul => mulD | .fdiv => fdivD | .mod => modD | .pow => powD
def Cop.ev : Cop → D → D → M D
  | .eq => eqD | .ne => neD | .lt => ltD | .le => leD | .gt => gtD | .ge => geD | .is => isD | .isNot => isNotD | .inn => inD | .notIn => notInD
theorem Bop.ok {X : Cx} (o : Bop) (m : Bool) : Op2 τ X (binaryOp o.op) (o.ev m) := by
  cases o
  · exact op_addD m
  · exact op_subD
  · exact op_mulD
  · exact op_fdivD
  · exact op_modD
  · exact op_powD
theorem Cop.ok {X : Cx} {n : Nat} (c : Ck n X) (o : Cop) : Op2 τ X (compareOp o.op) o.ev := by
  cases o
  · exact op_eqDD c
  · exact op_neDD c
  · exact op_ltDD
  · exact op_leDD
  · exact op_gtDD
  · exact op_geDD
  · exact op_isDD
  · exact op_isNotDD
  · exact op_inDD
  · exact op_notInDD
inductive Fn where | len | list | tuple | sum | all | any | min | int | str | repr
  deriving DecidableEq, Inhabited
def Fn.name : Fn → String
  | .len => "len" | .list => "list" | .tuple => "tuple" | .sum => "sum" | .all => "all" | .any => "any" | .min => "min" | .int => "int" | .str => "str" | .repr => "repr"
def Fn.isType : Fn → Bool
  | .list => true | .tuple => true | .int => true | .str => true | _ => false
def Fn.ev (f : Fn) (m : Bool) : List D → M D := match f with
  | .len => lenD | .list => listD m | .tuple => tupleD | .sum => sumD | .all => allD | .any => anyD | .min => minD | .int => intD | .str => strD
  | .repr => fun ds => match ds with | [d] => reprD d | _ => M.fail
theorem Fn.okB {X : Cx} {n : Nat} (c : Ck n X) (f : Fn) (m : Bool) (h : f.isType = false) : OpL τ X (fun us => call (.builtin f.name) us) (f.ev m) := by
  cases f
  · exact call_lenDD
  · cases h
  · cases h
  · exact call_sumDD c
  · exact call_allDD c
  · exact call_anyDD c
  · exact call_minDD c
  · cases h
  · cases h
  · exact opL_of_op1 (call_reprD c) fun u => rfl
theorem Fn.okT {X : Cx} (f : Fn) (m : Bool) (h : f.isType = true) : OpL τ X (fun us => call (.type f.name) us) (f.ev m) := by
  cases f
  · cases h
  · exact call_listDD m
  · exact call_tupleDD
  · cases h
  · cases h
  · cases h
  · cases h
  · exact call_intDD
  · exact call_strDD
  · cases h
theorem Fn.boot (f : Fn) : bootBuiltins (Str.ofString f.name) = some (if f.isType then .type f.name else .builtin f.name) := by
  cases f <;> decide +kernel
theorem Fn.nn (f : Fn) : Str.ofString f.name ≠ "__name__" ∧ (Str.ofString f.name == ("__debug__" : Str)) = false := by
  cases f <;> decide +kernel
inductive Me where | append | extend | pop | join | split | count | upper
  deriving DecidableEq, Inhabited
def Me.ty : Me → String
  | .append => "list" | .extend => "list" | .pop => "list" | _ => "str"
def Me.name : Me → String
  | .append => "append" | .extend => "extend" | .pop => "pop" | .join => "join" | .split => "split" | .count => "count" | .upper => "upper"
def Me.id : Me → String
  | .append => "list.append" | .extend => "list.extend" | .pop => "list.pop" | .join => "str.join" | .split => "str.split" | .count => "str.count" | .upper => "str.upper"
def Me.ev (f : Me) (m : Bool) : D → List D → M D := match f with
  | .append => appendD | .extend => extendD | .pop => popD | .join => joinD | .split => splitD m | .count => countD | .upper => upperD
theorem Me.pa (f : Me) : PlainAttrs f.ty := by
  cases f
  all_goals first | exact F.plainAttrs_list | exact F.plainAttrs_str
theorem Me.slot (f : Me) : Slot f.ty (Str.ofString f.name) f.id := by
  cases f
  · exact F.slot_list_append
  · exact F.slot_list_extend
  · exact F.slot_list_pop
  · exact F.slot_str_join
  · exact F.slot_str_split
  · exact F.slot_str_count
  · exact F.slot_str_upper
theorem Me.hty (f : Me) : typeOf (.builtin f.id) = pure (.type "method_descriptor") := by
  cases f
  · exact F.type_list_append
  · exact F.type_list_extend
  · exact F.type_list_pop
  · exact F.type_str_join
  · exact F.type_str_split
  · exact F.type_str_count
  · exact F.type_str_upper
theorem Me.ok {X : Cx} (f : Me) (m : Bool) : Mt τ X f.ty f.id (f.ev m) := by
  cases f
  · exact mt_appendD
  · exact mt_extendD
  · exact mt_popD
  · exact mt_joinD
  · exact mt_splitD m
  · exact mt_countD
  · exact mt_upperD
theorem Me.tyv {X : Cx} (f : Me) (m : Bool) {η : List Addr} {H : Hp} {S : Sto} {d : D} {x : V} {ds : List D} {d' : D} {S' : Sto} {S2 : Sto} (st : StoOk X.K η H S) (r : Rep X.K η H d x) (h : f.ev m d ds S2 = .ok d' S') : tyV X.K f.ty x H := by
  cases r with
  | str z => cases f <;> first | rfl | (cases h; done)
  | @ref n a h1 =>
    obtain ⟨vs, e⟩ := st.tracked (List.mem_of_getElem? h1)
    cases f <;> first | exact .inl ⟨rfl, vs, SqL.of e⟩ | (cases h; done)
  | _ => cases f <;> (cases h; done)
end MP

/-! MP18: the small language: expressions. -/
namespace MP
open PySem L2
/-- targets: a name; names, one of them perhaps starred (and whether its list is tracked) -/
inductive Tg where
  | nm (i : Nat)
  | tp (is : List Nat) (star : Option (Nat × Bool))
mutual
inductive Ex where
  | non | bl (b : Bool) | int (i : Int) | str (x : Str) | neg (i : Int)
  | var (i : Nat)
  | glb (k : Nat) (d : D)
  | bin (o : Bop) (m : Bool) (a b : Ex)
  | cmp (o : Cop) (a b : Ex)
  | chn (o p : Cop) (a b c : Ex)
  | not (a : Ex)
  | and (a r : Ex)
  | or (a r : Ex)
  | one (a : Ex)
  | ife (t : Tx) (a b : Ex)
  | ix (a b : Ex)
  | sl (m : Bool) (a : Ex) (lo hi : Ox)
  | rev (m : Bool) (a : Ex)
  | tup (es : Exs)
  | lst (m : Bool) (es : Exs)
  | dic0
  | dic1 (k : Int) (i : Nat)
  | fn (f : Fn) (m : Bool) (es : Exs)
  | isi (t : Ty) (a : Ex)
  | me (f : Me) (m : Bool) (o : Ex) (es : Exs)
  | repl (y z : Str) (o : Ex)
  | call (k : Nat) (es : Exs)
  | lc (m : Bool) (tg : Tg) (it : Ix) (ifs : Txs) (elt : Ex) (own : List Nat)
inductive Ox where
  | non
  | som (e : Ex)
inductive Exs where
  | nil
  | cons (e : Ex) (r : Exs)
inductive Tx where
  | cmp (o : Cop) (a b : Ex)
  | chn (o p : Cop) (a b c : Ex)
  | not (t : Tx)
  | and (ts : Txs)
  | or (ts : Txs)
  | val (e : Ex)
inductive Txs where
  | nil
  | cons (t : Tx) (r : Txs)
inductive Ix where
  | seq (e : Ex)
  | rng (es : Exs)
end

mutual
def sameD : D → D → Bool
  | .non, .non => true
  | .bl a, .bl b => a == b
  | .int a, .int b => a == b
  | .str a, .str b => a == b
  | .tup a, .tup b => sameL a b
  | .lst a, .lst b => sameL a b
  | _, _ => false
def sameL : List D → List D → Bool
  | [], [] => true
  | x :: xs, y :: ys => sameD x y && sameL xs ys
  | _, _ => false
end
mutual
theorem sameD_eq : ∀ (a b : D), sameD a b = true → a = b
  | .non, b, h => by cases b <;> first | rfl | exact (Bool.false_ne_true h).elim
  | .bl a, b, h => by cases b <;> first | exact (Bool.false_ne_true h).elim | (rw [eq_of_beq (show (a == _) = true from h)])
  | .int a, b, h => by cases b <;> first | exact (Bool.false_ne_true h).elim | (rw [eq_of_beq (show (a == _) = true from h)])
  | .str a, b, h => by cases b <;> first | exact (Bool.false_ne_true h).elim | (rw [eq_of_beq (show (a == _) = true from h)])
  | .tup a, b, h => by cases b <;> first | exact (Bool.false_ne_true h).elim | (rw [sameL_eq a _ h])
  | .lst a, b, h => by cases b <;> first | exact (Bool.false_ne_true h).elim | (rw [sameL_eq a _ h])
  | .frz a, b, h => by cases b <;> exact (Bool.false_ne_true h).elim
  | .dic a, b, h => by cases b <;> exact (Bool.false_ne_true h).elim
  | .ref a, b, h => by cases b <;> exact (Bool.false_ne_true h).elim
theorem sameL_eq : ∀ (a b : List D), sameL a b = true → a = b
  | [], b, h => by cases b <;> first | rfl | exact (Bool.false_ne_true h).elim
  | x :: xs, b, h => by
    cases b with
    | nil => exact (Bool.false_ne_true h).elim
    | cons y ys =>
      have h : (sameD x y && sameL xs ys) = true := h
      rw [Bool.and_eq_true] at h
      rw [sameD_eq x y h.1, sameL_eq xs ys h.2]
end
def setNames : List Nat → List D → Env → M Env
  | [], [], ρ => pure ρ
  | i :: is, d :: ds, ρ => setNames is ds (ρ.set i (some d))
  | _, _, _ => M.fail
def Tg.ev : Tg → D → Env → M Env
  | .nm i, d, ρ => pure (ρ.set i (some d))
  | .tp is star, d, ρ => unpackD is.length star d >>= fun ds => setNames is ds ρ
def getV (ρ : Env) (i : Nat) : M D := M.of ((ρ[i]?).bind id)

section
variable (φ : Nat → List D → M D)
mutual
def evE : Ex → Env → M D
  | .non, _ => pure .non
  | .bl b, _ => pure (.bl b)
  | .int i, _ => pure (.int i)
  | .str x, _ => pure (.str x)
  | .neg i, _ => pure (.int (-i))
  | .var i, ρ => getV ρ i
  | .glb _ d, _ => pure d
  | .bin o m a b, ρ => evE a ρ >>= fun d => evE b ρ >>= fun e => o.ev m d e
  | .cmp o a b, ρ => evE a ρ >>= fun d => evE b ρ >>= fun e => o.ev d e
  | .chn o p a b c, ρ => evE a ρ >>= fun d => evE b ρ >>= fun e => o.ev d e >>= fun z => asB z >>= fun t => if t = true then evE c ρ >>= fun e' => p.ev e e' else pure (.bl false)
  | .not a, ρ => evE a ρ >>= fun d => asB d >>= fun b => pure (.bl (!b))
  | .and a r, ρ => evE a ρ >>= fun d => asB d >>= fun t => if t = true then evE r ρ else pure (.bl false)
  | .or a r, ρ => evE a ρ >>= fun d => asB d >>= fun t => if t = true then pure (.bl true) else evE r ρ
  | .one a, ρ => evE a ρ
  | .ife t a b, ρ => evT t ρ >>= fun c => if c = true then evE a ρ else evE b ρ
  | .ix a b, ρ => evE a ρ >>= fun d => evE b ρ >>= fun e => ixD d e
  | .sl m a lo hi, ρ => evE a ρ >>= fun d => evO lo ρ >>= fun l => evO hi ρ >>= fun h => sliceE m d l h
  | .rev m a, ρ => evE a ρ >>= revE m
  | .tup es, ρ => evL es ρ >>= fun ds => pure (.tup ds)
  | .lst m es, ρ => evL es ρ >>= fun ds => newL m ds
  | .dic0, _ => pure (.dic [])
  | .dic1 k i, ρ => getV ρ i >>= fun d => pure (.dic [(.inl k, d)])
  | .fn f m es, ρ => evL es ρ >>= f.ev m
  | .isi t a, ρ => evE a ρ >>= isinstD t
  | .me f m o es, ρ => evE o ρ >>= fun d => evL es ρ >>= fun ds => f.ev m d ds
  | .repl y z o, ρ => evE o ρ >>= replD y z
  | .call k es, ρ => evL es ρ >>= φ k
  | .lc m tg it ifs elt own, ρ => evI it ρ >>= lcS m tg.ev (evA ifs) (evE elt) (wipeE ρ own)
def evO : Ox → Env → M (Option Int)
  | .non, _ => pure none
  | .som e, ρ => evE e ρ >>= asI
def evL : Exs → Env → M (List D)
  | .nil, _ => pure []
  | .cons e r, ρ => evE e ρ >>= fun d => evL r ρ >>= fun ds => pure (d :: ds)
def evT : Tx → Env → M Bool
  | .cmp o a b, ρ => evE a ρ >>= fun d => evE b ρ >>= fun e => o.ev d e >>= asB
  | .chn o p a b c, ρ => evE a ρ >>= fun d => evE b ρ >>= fun e => o.ev d e >>= fun z => asB z >>= fun t => if t = true then evE c ρ >>= fun e' => p.ev e e' >>= asB else pure false
  | .not t, ρ => evT t ρ >>= fun b => pure (!b)
  | .and ts, ρ => evA ts ρ
  | .or ts, ρ => evOr ts ρ
  | .val e, ρ => evE e ρ >>= truD
def evA : Txs → Env → M Bool
  | .nil, _ => pure true
  | .cons t r, ρ => evT t ρ >>= fun c => if c = true then evA r ρ else pure false
def evOr : Txs → Env → M Bool
  | .nil, _ => pure false
  | .cons t r, ρ => evT t ρ >>= fun c => if c = true then pure true else evOr r ρ
def evI : Ix → Env → M Src
  | .seq e, ρ => evE e ρ >>= seqSrc
  | .rng es, ρ => evL es ρ >>= rngSrc
end
end

/-! ### the check -/
structure FI where
  name : Str
  np : Nat
structure Tab where
  fns : List FI
  gls : List (Str × D)
  rp : Bool
def bltNames : List Str := (["len", "list", "tuple", "sum", "all", "any", "min", "int", "str", "repr", "isinstance", "range", "bool", "dict"] : List String).map Str.ofString
structure TabOk (τ : Nat) (X : Cx) (n : Nat) (T : Tab) (φ : Nat → List D → M D) : Prop where
  fn : ∀ (k : Nat) (p : FI), T.fns[k]? = some p → ∃ f fd ps, ps.length = p.np ∧ X.mg p.name = some (.ref f) ∧ PySem.W.keepIn X.K (.ref f) = true ∧ Binds X.K fd ps [] ∧ FnD τ X.prog X.w X.K X.mg X.base n f fd ps (φ k)
  gl : ∀ (k : Nat) (p : Str × D), T.gls[k]? = some p → ∃ v u, X.mg p.1 = some u ∧ RelV v u ∧ ∀ η H, Rep X.K η H p.2 v
  bl : ∀ x ∈ bltNames, X.mg x = none
  rp : T.rp = true → 1 ≤ τ
structure Ctx (τ : Nat) (X : Cx) (n : Nat) (T : Tab) (φ : Nat → List D → M D) (N : List Str) (sc : Scope) (fb : Str → Bool) : Prop where
  hN : X.N = N
  hs : X.env.scope = sc
  ck : Ck n X
  tab : TabOk τ X n T φ
  hf : ∀ x, fb x = true → X.fn x = true
def visB (sc : Scope) (x : Str) : Bool := sc.names.lookup x == some .local || sc.names.lookup x == some .cell || sc.names.lookup x == some .free
def glB (sc : Scope) (x : Str) : Bool := sc.names.lookup x == some .globalImplicit
def okName (x : Str) : Bool := !(x == ("__debug__" : Str)) && !(x == ("__classdict__" : Str))
def bltB (sc : Scope) (x : Str) : Bool := glB sc x && bltNames.contains x
def plainTest : Expr → Bool
  | .UnaryOp .Not _ _ => false
  | .BoolOp .. => false
  | .IfExp .. => false
  | .Compare .. => false
  | _ => true
def plainIx : Expr → Bool
  | .Slice .. => false
  | _ => true
def plainBase : Expr → Bool
  | .Call (.Name _ _) [] [] _ => false
  | _ => true
def noSet : Expr → Bool
  | .Set .. => false
  | _ => true
def okNm (N : List Str) (sc : Scope) (fb : Str → Bool) (i : Nat) (x : Str) : Bool := N[i]? == some x && (sc.names.lookup x == some .local || (sc.names.lookup x == some .cell && fb x))
def chkNms (N : List Str) (sc : Scope) (fb : Str → Bool) (st : Option Nat) : Nat → List Nat → List Expr → Bool
  | _, [], [] => true
  | j, i :: is, .Name x _ :: es => st != some j && okNm N sc fb i x && chkNms N sc fb st (j + 1) is es
  | j, i :: is, .Starred (.Name x _) _ :: es => st == some j && okNm N sc fb i x && chkNms N sc fb st (j + 1) is es
  | _, _, _ => false
def chkG (N : List Str) (sc : Scope) (fb : Str → Bool) : Tg → Expr → Bool
  | .nm i, .Name x _ => okNm N sc fb i x
  | .tp is st, .Tuple es _ _ => chkNms N sc fb (st.map (·.1)) 0 is es && (match st with | none => true | some (j, _) => decide (j < is.length))
  | _, _ => false
def Tg.slots : Tg → List Nat
  | .nm i => [i]
  | .tp is _ => is
def ownP (N : List Str) (own : List Nat) : List (Str × Nat) := own.map fun i => ((N[i]?).getD (Str.ofString ""), i)
def blkB (N : List Str) (sc scope : Scope) (own : List Nat) : Bool :=
  scope.kind == .function && scope.names.all (fun y => scope.names.lookup y.1 == some y.2) && own.all (fun i => (N[i]?).isSome) &&
  scope.names.all (fun y => !(y.2 == .free) || sc.names.lookup y.1 == some .cell || sc.names.lookup y.1 == some .free) &&
  scope.names.all (fun y => !(y.2 == .local || y.2 == .cell) || ((ownP N own).map (·.1)).contains y.1 || !(N.contains y.1))
section
variable (T : Tab) (N : List Str)
mutual
def chkE (sc : Scope) (fb : Str → Bool) : Ex → Expr → Bool
  | .non, .Constant .none _ _ => true
  | .bl b, .Constant (.bool c) _ _ => b == c
  | .int i, .Constant (.int j) _ _ => i == j
  | .str x, .Constant (.str y) _ _ => x == y
  | .neg i, .UnaryOp .USub (.Constant (.int j) _ _) _ => i == j
  | .var i, .Name x _ => N[i]? == some x && visB sc x && okName x
  | .glb k d, .Name x _ => (match T.gls[k]? with | some p => p.1 == x && sameD p.2 d | none => false) && glB sc x && okName x
  | .bin o _ a b, .BinOp l op r _ => op == o.op && chkE sc fb a l && chkE sc fb b r
  | .cmp o a b, .Compare l [op] [r] _ => op == o.op && !(behindInMarks op r) && chkE sc fb a l && chkE sc fb b r
  | .chn o p a b c, .Compare l [op, op'] [r, r'] _ => op == o.op && op' == p.op && !(lastMarks [op, op'] [r, r']) && chkE sc fb a l && chkE sc fb b r && chkE sc fb c r'
  | .not a, .UnaryOp .Not e _ => chkE sc fb a e
  | .and a r, .BoolOp .And (e :: e' :: es) p => chkE sc fb a e && chkE sc fb r (.BoolOp .And (e' :: es) p)
  | .or a r, .BoolOp .Or (e :: e' :: es) p => chkE sc fb a e && chkE sc fb r (.BoolOp .Or (e' :: es) p)
  | .one a, .BoolOp _ [e] _ => chkE sc fb a e
  | .ife t a b, .IfExp c x y _ => chkT sc fb t c && chkE sc fb a x && chkE sc fb b y
  | .ix a b, .Subscript x y _ => plainIx y && chkE sc fb a x && chkE sc fb b y
  | .sl _ a lo hi, .Subscript x (.Slice l h none _) _ => chkE sc fb a x && chkO sc fb lo l && chkO sc fb hi h
  | .rev _ a, .Subscript x (.Slice none none (some (.UnaryOp .USub (.Constant (.int j) _ _) _)) _) _ => j == 1 && chkE sc fb a x
  | .tup es, .Tuple xs _ _ => chkL sc fb es xs && decide (xs.length ≤ SL)
  | .lst _ es, .List xs _ => chkL sc fb es xs && decide (xs.length ≤ SL)
  | .dic0, .Dict [] [] _ => true
  | .dic1 k i, .Dict [some (.Constant (.int j) _ _)] [.Name x _] _ => k == j && N[i]? == some x && visB sc x && okName x
  | .fn f _ es, .Call (.Name x _) (a :: as) [] _ => x == Str.ofString f.name && bltB sc x && chkL sc fb es (a :: as)
  | .isi t a, .Call (.Name x _) [e, .Name y _] [] _ => x == "isinstance" && y == Str.ofString t.name && bltB sc x && bltB sc y && noStar e && chkE sc fb a e
  | .me f _ o es, .Call (.Attribute x name ap) as [] cp => name == Str.ofString f.name && plainBase x && ap.endLine == cp.line && decide (as.length < 30) && chkE sc fb o x && chkL sc fb es as
  | .repl y z o, .Call (.Attribute x name ap) [.Constant (.str y') _ _, .Constant (.str z') _ _] [] cp => T.rp && name == "replace" && y == y' && z == z' && !(y' == z') && plainBase x && ap.endLine == cp.line && chkE sc fb o x
  | .call k es, .Call (.Name x _) (a :: as) [] _ => (match T.fns[k]? with | some p => p.name == x && p.np == (a :: as).length | none => false) && glB sc x && okName x && chkL sc fb es (a :: as)
  | .lc _ tg it ifs elt own, .ListComp e [⟨tg', it', ifs', z⟩] scope _ => (z == 0) && (chkI sc fb it it' && noSet it' && blkB N sc scope own && tg.slots.all (own.contains ·) &&
      chkG N (relS scope sc) (fun x => scope.names.lookup x == some .cell) tg tg' && decide (ifs'.length ≤ 1) && chkTs (relS scope sc) (fun x => scope.names.lookup x == some .cell) ifs ifs' && chkE (relS scope sc) (fun x => scope.names.lookup x == some .cell) elt e)
  | _, _ => false
def chkO (sc : Scope) (fb : Str → Bool) : Ox → Option Expr → Bool
  | .non, none => true
  | .som e, some x => chkE sc fb e x
  | _, _ => false
def chkL (sc : Scope) (fb : Str → Bool) : Exs → List Expr → Bool
  | .nil, [] => true
  | .cons e r, x :: xs => noStar x && chkE sc fb e x && chkL sc fb r xs
  | _, _ => false
def chkT (sc : Scope) (fb : Str → Bool) : Tx → Expr → Bool
  | .cmp o a b, .Compare l [op] [r] _ => op == o.op && !(behindInMarks op r) && chkE sc fb a l && chkE sc fb b r
  | .chn o p a b c, .Compare l [op, op'] [r, r'] _ => op == o.op && op' == p.op && !(lastMarks [op, op'] [r, r']) && chkE sc fb a l && chkE sc fb b r && chkE sc fb c r'
  | .not t, .UnaryOp .Not e _ => chkT sc fb t e
  | .and ts, .BoolOp .And es _ => chkTs sc fb ts es
  | .or ts, .BoolOp .Or es _ => chkTs sc fb ts es
  | .val a, e => plainTest e && chkE sc fb a e
  | _, _ => false
def chkTs (sc : Scope) (fb : Str → Bool) : Txs → List Expr → Bool
  | .nil, [] => true
  | .cons t r, x :: xs => chkT sc fb t x && chkTs sc fb r xs
  | _, _ => false
def chkI (sc : Scope) (fb : Str → Bool) : Ix → Expr → Bool
  | .seq a, e => chkE sc fb a e
  | .rng es, .Call (.Name x _) (a :: as) [] _ => x == "range" && bltB sc x && chkL sc fb es (a :: as)
  | _, _ => false
end
end
end MP

/-! MP19: the check is sound, for expressions. -/
namespace MP
open PySem L2
theorem and2 {a b : Bool} (h : (a && b) = true) : a = true ∧ b = true := by rw [Bool.and_eq_true] at h; exact h
theorem notF {a : Bool} (h : (!a) = true) : a = false := by cases a <;> first | rfl | cases h
theorem kind_eq (env : PySem.Env) (x : Str) : env.kindOf x = env.scope.names.lookup x := rfl
section
variable {X : Cx} {n : Nat} {T : Tab} {φ : Nat → List D → M D} {N : List Str} {sc : Scope} {fb : Str → Bool}
theorem Ctx.vis (c : Ctx τ X n T φ N sc fb) {x : Str} (h : visB sc x = true) : Vis X.env.scope x := by
  rw [c.hs]
  unfold visB at h
  rw [Bool.or_eq_true, Bool.or_eq_true] at h
  rcases h with (h | h) | h
  · exact .inl (eq_of_beq h)
  · exact .inr (.inl (eq_of_beq h))
  · exact .inr (.inr (eq_of_beq h))
theorem Ctx.gl (c : Ctx τ X n T φ N sc fb) {x : Str} (h : glB sc x = true) : Gl X x := by
  unfold Gl
  rw [kind_eq, c.hs]
  exact eq_of_beq h
theorem okName_1 {x : Str} (h : okName x = true) : (x == ("__debug__" : Str)) = false ∧ (x == ("__classdict__" : Str)) = false := ⟨notF (and2 h).1, notF (and2 h).2⟩
theorem Ctx.nm (c : Ctx τ X n T φ N sc fb) {i : Nat} {x : Str} (h : (N[i]? == some x) = true) : X.N[i]? = some x := by rw [c.hN]; exact eq_of_beq h
theorem Ctx.blt (c : Ctx τ X n T φ N sc fb) {x : Str} (h : bltB sc x = true) : Gl X x ∧ X.mg x = none := by
  obtain ⟨h1, h2⟩ := and2 h
  exact ⟨c.gl h1, c.tab.bl x (List.contains_iff_mem.mp h2)⟩
theorem Ctx.store (c : Ctx τ X n T φ N sc fb) {i : Nat} {x : Str} (h : okNm N sc fb i x = true) : X.N[i]? = some x ∧ Loc X.env.scope x ∧ (X.fn x = true ∨ X.env.scope.names.lookup x = some .local) := by
  obtain ⟨h1, h2⟩ := and2 h
  refine ⟨c.nm h1, ?_⟩
  rw [c.hs]
  rw [Bool.or_eq_true] at h2
  rcases h2 with h2 | h2
  · exact ⟨.inl (eq_of_beq h2), .inr (eq_of_beq h2)⟩
  · obtain ⟨h2, h3⟩ := and2 h2
    exact ⟨.inr (eq_of_beq h2), .inl (c.hf x h3)⟩
theorem Ctx.blk (c : Ctx τ X n T φ N sc fb) (s : Shared) (H : Hp) (scope : Scope) (cl : List (Str × Addr)) (C : Addr) (fp : List Addr) :
    Ctx τ (X.blk s H scope (compEnvC scope cl C X.env) fp) n T φ N (relS scope sc) (fun x => scope.names.lookup x == some .cell) where
  hN := c.hN
  hs := by
    show relS scope X.env.scope = relS scope sc
    rw [c.hs]
  ck := ⟨c.ck.calm, c.ck.gd, c.ck.rm, c.ck.sm, c.ck.nd⟩
  tab := ⟨c.tab.fn, c.tab.gl, c.tab.bl, c.tab.rp⟩
  hf := fun x h => h
/-! targets -/
theorem setNames_asgs : ∀ (is : List Nat) (ds : List D) (ρ : Env), setNames is ds ρ = asgs (is.map fun i d (ρ : Env) => pure (ρ.set i (some d))) ds ρ
  | [], [], ρ => rfl
  | [], _ :: _, ρ => rfl
  | _ :: _, [], ρ => rfl
  | i :: is, d :: ds, ρ => by
    show setNames is ds (ρ.set i (some d)) = _
    rw [setNames_asgs is ds]
    rfl
theorem chkNms_ok (c : Ctx τ X n T φ N sc fb) {st : Option Nat} : ∀ (j : Nat) (is : List Nat) (es : List Expr), chkNms N sc fb st j is es = true →
    PGDs τ X es (asgs (is.map fun i d (ρ : Env) => pure (ρ.set i (some d)))) ∧ (assignEach es X.env).length = is.length ∧ (∀ k, (assignEach es X.env).findIdx? (·.1) = some k ↔ (st = some (j + k) ∧ k < is.length))
  | j, [], [], _ => ⟨pgds_nil, rfl, fun k => by simp [assignEach]⟩
  | j, i :: is, e :: es, h => by
    cases e with
    | Name x p =>
      have h : (st != some j && okNm N sc fb i x && chkNms N sc fb st (j + 1) is es) = true := h
      obtain ⟨h1, h3⟩ := and2 h
      obtain ⟨h1, h2⟩ := and2 h1
      obtain ⟨i1, i2, i3⟩ := chkNms_ok c (j + 1) is es h3
      obtain ⟨n1, n2, n3⟩ := c.store h2
      refine ⟨pgds_cons (b := false) (pgd_name c.ck.nd n1 n2 n3) i1 rfl, by show (assignEach es X.env).length + 1 = is.length + 1; rw [i2], fun k => ?_⟩
      have hne : st ≠ some j := by simpa using h1
      show (((false, assign (.Name x p) X.env) :: assignEach es X.env).findIdx? (·.1) = some k) ↔ _
      rw [List.findIdx?_cons]
      simp only [Bool.false_eq_true, if_false]
      cases k with
      | zero =>
        constructor
        · intro z; simp at z
        · intro z; exact absurd z.1 (by simpa using hne)
      | succ k =>
        rw [Option.map_eq_some_iff]
        constructor
        · rintro ⟨a, z1, z2⟩
          obtain rfl : a = k := by omega
          obtain ⟨z3, z4⟩ := (i3 a).mp z1
          exact ⟨by rw [z3]; congr 1; omega, by simpa using z4⟩
        · rintro ⟨z1, z2⟩
          exact ⟨k, (i3 k).mpr ⟨by rw [z1]; congr 1; omega, by simpa using z2⟩, rfl⟩
    | Starred e' p =>
      cases e' with
      | Name x p' =>
        have h : (st == some j && okNm N sc fb i x && chkNms N sc fb st (j + 1) is es) = true := h
        obtain ⟨h1, h3⟩ := and2 h
        obtain ⟨h1, h2⟩ := and2 h1
        obtain ⟨i1, i2, i3⟩ := chkNms_ok c (j + 1) is es h3
        obtain ⟨n1, n2, n3⟩ := c.store h2
        refine ⟨pgds_cons (b := true) (t' := .Name x p') (pgd_name c.ck.nd n1 n2 n3) i1 rfl, by show (assignEach es X.env).length + 1 = is.length + 1; rw [i2], fun k => ?_⟩
        have he : st = some j := eq_of_beq h1
        show (((true, assign (.Name x p') X.env) :: assignEach es X.env).findIdx? (·.1) = some k) ↔ _
        rw [List.findIdx?_cons]
        simp only [if_true]
        subst he
        constructor
        · intro z
          obtain rfl : 0 = k := by simpa using z
          simp
        · rintro ⟨z1, z2⟩
          obtain rfl : k = 0 := by simpa using z1
          rfl
      | _ => exact (Bool.false_ne_true h).elim
    | _ => exact (Bool.false_ne_true h).elim
  | j, [], _ :: _, h => (Bool.false_ne_true h).elim
  | j, _ :: _, [], h => (Bool.false_ne_true h).elim
theorem chkG_ok (c : Ctx τ X n T φ N sc fb) : ∀ (tg : Tg) (e : Expr), chkG N sc fb tg e = true → PGD τ X e tg.ev
  | .nm i, e, h => by
    cases e with
    | Name x p =>
      obtain ⟨n1, n2, n3⟩ := c.store (i := i) (x := x) h
      exact pgd_name c.ck.nd n1 n2 n3
    | _ => exact (Bool.false_ne_true h).elim
  | .tp is st, e, h => by
    cases e with
    | Tuple es k p =>
      obtain ⟨h1, h2⟩ := and2 h
      obtain ⟨i1, i2, i3⟩ := chkNms_ok c 0 is es h1
      have hst : (assignEach es X.env).findIdx? (·.1) = st.map (·.1) := by
        cases st with
        | none =>
          cases q : (assignEach es X.env).findIdx? (·.1) with
          | none => rfl
          | some k => exact absurd ((i3 k).mp q).1 (by simp)
        | some p =>
          have h2 : p.1 < is.length := of_decide_eq_true h2
          exact (i3 p.1).mpr ⟨by simp, h2⟩
      have key := pgd_tup (k := k) (pos := p) c.ck.calm i1 i2 hst
      have e : (fun d ρ => unpackD is.length st d >>= fun ds => asgs (is.map fun i d (ρ : Env) => pure (ρ.set i (some d))) ds ρ) = Tg.ev (.tp is st) := by
        funext d ρ
        show _ = (unpackD is.length st d >>= fun ds => setNames is ds ρ)
        congr 1
        funext ds
        rw [setNames_asgs]
      rw [← e]
      exact key
    | _ => exact (Bool.false_ne_true h).elim
theorem setNames_wipe (own : List Nat) : ∀ (is : List Nat) (ds : List D) (ρ : Env) (S : Sto) (ρ' : Env) (S' : Sto), (∀ i ∈ is, i ∈ own) → setNames is ds ρ S = .ok ρ' S' → wipeE ρ' own = wipeE ρ own
  | [], [], ρ, S, ρ', S', _, h => by cases h; rfl
  | [], _ :: _, ρ, S, ρ', S', _, h => by cases h
  | _ :: _, [], ρ, S, ρ', S', _, h => by cases h
  | i :: is, d :: ds, ρ, S, ρ', S', ho, h => by
    rw [setNames_wipe own is ds (ρ.set i (some d)) S ρ' S' (fun x hx => ho x (List.mem_cons_of_mem _ hx)) h]
    exact wipe_set1 (ho i (by simp)) ρ d
  where
  wipe_set1 {own : List Nat} {i : Nat} (hi : i ∈ own) (ρ : Env) (d : D) : wipeE (ρ.set i (some d)) own = wipeE ρ own := by
    induction own with
    | nil => exact absurd hi (by simp)
    | cons v vs ih =>
      show (wipeE (ρ.set i (some d)) vs).set v none = (wipeE ρ vs).set v none
      by_cases h : i = v
      · subst h
        have : ∀ (ρ : Env) (vs : List Nat), wipeE (ρ.set i (some d)) vs = (wipeE ρ vs).set i ((if i ∈ vs then none else some d)) := by
          intro ρ vs
          induction vs with
          | nil => rfl
          | cons w ws ih =>
            show (wipeE (ρ.set i (some d)) ws).set w none = ((wipeE ρ ws).set w none).set i _
            rw [ih]
            by_cases hw : i = w
            · subst hw
              simp
            · rw [List.set_comm _ _ hw]
              congr 1
              have : (i ∈ w :: ws) ↔ i ∈ ws := by simp [hw]
              simp [hw]
        rw [this, List.set_set]
      · have hi' : i ∈ vs := by
          rcases List.mem_cons.mp hi with z | z
          · exact absurd z h
          · exact z
        rw [ih hi']
theorem Tg.wipe {tg : Tg} {own : List Nat} (h : tg.slots.all (own.contains ·) = true) (d : D) (ρ : Env) (S : Sto) (ρ' : Env) (S' : Sto) (q : tg.ev d ρ S = .ok ρ' S') : wipeE ρ' own = wipeE ρ own := by
  have hm : ∀ i ∈ tg.slots, i ∈ own := fun i hi => by
    have := List.all_eq_true.mp h i hi
    exact List.contains_iff_mem.mp this
  cases tg with
  | nm i =>
    cases q
    exact setNames_wipe.wipe_set1 (hm i (by simp [Tg.slots])) ρ d
  | tp is st =>
    have q : (unpackD is.length st d >>= fun ds => setNames is ds ρ) S = .ok ρ' S' := q
    rw [bind_run] at q
    cases q2 : unpackD is.length st d S with
    | bad => rw [q2] at q; cases q
    | ok ds S2 =>
      rw [q2] at q
      exact setNames_wipe own is ds ρ S2 ρ' S' hm q
theorem blkB_ok {scope : Scope} {own : List Nat} (h : blkB N sc scope own = true) : BlkOk N sc scope (ownP N own) := by
  unfold blkB at h
  obtain ⟨h, h5⟩ := and2 h
  obtain ⟨h, h4⟩ := and2 h
  obtain ⟨h, h3⟩ := and2 h
  obtain ⟨h1, h2⟩ := and2 h
  refine ⟨eq_of_beq h1, fun y hy => eq_of_beq (List.all_eq_true.mp h2 y hy), fun p hp => ?_, fun y hy e => ?_, fun y hy e => ?_⟩
  · obtain ⟨i, hi, rfl⟩ := List.mem_map.mp hp
    have := List.all_eq_true.mp h3 i hi
    cases q : N[i]? with
    | none => rw [q] at this; cases this
    | some x => simp [q]
  · have := List.all_eq_true.mp h4 y hy
    rw [e] at this
    simpa using this
  · have := List.all_eq_true.mp h5 y hy
    have e' : (y.2 == NameKind.local || y.2 == NameKind.cell) = true := by
      rcases e with e | e <;> rw [e] <;> rfl
    rw [e'] at this
    rw [Bool.not_true, Bool.false_or, Bool.or_eq_true] at this
    rcases this with z | z
    · exact .inl (List.contains_iff_mem.mp z)
    · refine .inr fun m => ?_
      have z := notF z
      rw [List.contains_iff_mem.mpr m] at z
      cases z
theorem ownP_snd (N : List Str) (own : List Nat) : (ownP N own).map (·.2) = own := by
  unfold ownP
  rw [List.map_map]
  exact List.map_id' own
theorem base_ok {e : Expr} {name : Str} {env : PySem.Env} (h : plainBase e = true) : attributeBase e name env (eval e env) = eval e env := by
  unfold attributeBase
  split
  · cases h
  · rfl
theorem pt_ok {e : Expr} {env : PySem.Env} (h : plainTest e = true) : ∀ whole, PySem.isTrue e env whole = (do let v ← whole; standAt e.pos; holding [v] (truthy v)) := by
  intro whole
  cases e <;> first
    | rfl
    | (exact (Bool.false_ne_true h).elim)
    | (rename_i op _ _; cases op <;> first | rfl | exact (Bool.false_ne_true h).elim)
theorem ix_ok {e : Expr} (h : plainIx e = true) : ∀ o i, subscripted e false o i = operate [o, i] (getItem o i) := by
  intro o i
  cases e <;> first | rfl | exact (Bool.false_ne_true h).elim
theorem set_ok' {e : Expr} {env : PySem.Env} (h : noSet e = true) : ∀ x, foldedSetIterable e env x = pure x := by
  intro x
  cases e <;> first | rfl | exact (Bool.false_ne_true h).elim
theorem one_and {m : M Bool} : (m >>= fun c => if c = true then pure true else pure false) = m := by
  funext S
  rw [bind_run]
  cases q : m S with
  | bad => rfl
  | ok b S' => cases b <;> rfl
end
end MP

/-! MP20: expressions that pass the check run as they mean. -/
namespace MP
open PySem L2
variable {τ n : Nat} {T : Tab} {φ : Nat → List D → M D} {N : List Str}
theorem chkL_len {sc : Scope} {fb : Str → Bool} : ∀ (es : Exs) (xs : List Expr), chkL T N sc fb es xs = true → xs.all noStar = true ∧ ∀ ρ S ds S', evL φ es ρ S = .ok ds S' → ds.length = xs.length
  | .nil, xs, h => by
    cases xs with
    | nil => exact ⟨rfl, fun ρ S ds S' q => by cases q; rfl⟩
    | cons _ _ => exact (Bool.false_ne_true h).elim
  | .cons e r, xs, h => by
    cases xs with
    | nil => exact (Bool.false_ne_true h).elim
    | cons x xs =>
      obtain ⟨h1, h3⟩ := and2 (show (noStar x && chkE T N sc fb e x && chkL T N sc fb r xs) = true from h)
      obtain ⟨h1, h2⟩ := and2 h1
      obtain ⟨i1, i2⟩ := chkL_len r xs h3
      refine ⟨by rw [List.all_cons, h1, i1]; rfl, fun ρ S ds S' q => ?_⟩
      have q : (evE φ e ρ >>= fun d => evL φ r ρ >>= fun ds => pure (d :: ds)) S = .ok ds S' := q
      rw [bind_run] at q
      cases q1 : evE φ e ρ S with
      | bad => rw [q1] at q; cases q
      | ok d S1 =>
        rw [q1] at q
        dsimp only at q
        rw [bind_run] at q
        cases q2 : evL φ r ρ S1 with
        | bad => rw [q2] at q; cases q
        | ok ds' S2 =>
          rw [q2] at q
          cases q
          rw [List.length_cons, List.length_cons, i2 ρ S1 ds' _ q2]
theorem chk_lc {sc : Scope} {fb : Str → Bool} {m : Bool} {tg : Tg} {it : Ix} {ifs : Txs} {elt : Ex} {own : List Nat} {e tg' it' : Expr} {ifs' : List Expr} {z : Int} {scope : Scope} {p : Pos} (h : chkE T N sc fb (.lc m tg it ifs elt own) (.ListComp e [⟨tg', it', ifs', z⟩] scope p) = true) :
    z = 0 ∧ (chkI T N sc fb it it' && noSet it' && blkB N sc scope own && tg.slots.all (own.contains ·) &&
      chkG N (relS scope sc) (fun x => scope.names.lookup x == some .cell) tg tg' && decide (ifs'.length ≤ 1) && chkTs T N (relS scope sc) (fun x => scope.names.lookup x == some .cell) ifs ifs' && chkE T N (relS scope sc) (fun x => scope.names.lookup x == some .cell) elt e) = true := by
  have h : ((z == 0) && (chkI T N sc fb it it' && noSet it' && blkB N sc scope own && tg.slots.all (own.contains ·) &&
      chkG N (relS scope sc) (fun x => scope.names.lookup x == some .cell) tg tg' && decide (ifs'.length ≤ 1) && chkTs T N (relS scope sc) (fun x => scope.names.lookup x == some .cell) ifs ifs' && chkE T N (relS scope sc) (fun x => scope.names.lookup x == some .cell) elt e)) = true := h
  obtain ⟨h1, h2⟩ := and2 h
  exact ⟨eq_of_beq h1, h2⟩
theorem chk_lc2 {sc : Scope} {fb : Str → Bool} {m : Bool} {tg : Tg} {it : Ix} {ifs : Txs} {elt : Ex} {own : List Nat} {e : Expr} {g g' : Comprehension} {gs : List Comprehension} {scope : Scope} {p : Pos} (h : chkE T N sc fb (.lc m tg it ifs elt own) (.ListComp e (g :: g' :: gs) scope p) = true) : False := by
  cases g
  exact Bool.false_ne_true h
mutual
theorem sndE : ∀ (ir : Ex) {X : Cx} {sc : Scope} {fb : Str → Bool}, Ctx τ X n T φ N sc fb → ∀ (e : Expr), chkE T N sc fb ir e = true → PD τ X e (evE φ ir)
  | .non, X, sc, fb, c, e, h => by
    cases e with
    | Constant v k p => cases v <;> first | exact pd_const (fun _ _ => rfl) (fun E => pe_non) (fun _ _ => .non) | exact (Bool.false_ne_true h).elim
    | _ => exact (Bool.false_ne_true h).elim
  | .bl b, X, sc, fb, c, e, h => by
    cases e with
    | Constant v k p =>
      cases v <;> first
        | (obtain rfl := eq_of_beq (show (b == _) = true from h); exact pd_const (fun _ _ => rfl) (fun E => pe_bl) (fun _ _ => .bl _))
        | exact (Bool.false_ne_true h).elim
    | _ => exact (Bool.false_ne_true h).elim
  | .int i, X, sc, fb, c, e, h => by
    cases e with
    | Constant v k p =>
      cases v <;> first
        | (obtain rfl := eq_of_beq (show (i == _) = true from h); exact pd_const (fun _ _ => rfl) (fun E => pe_int) (fun _ _ => .int _))
        | exact (Bool.false_ne_true h).elim
    | _ => exact (Bool.false_ne_true h).elim
  | .str x, X, sc, fb, c, e, h => by
    cases e with
    | Constant v k p =>
      cases v <;> first
        | (obtain rfl := eq_of_beq (show (x == _) = true from h); exact pd_const (fun _ _ => rfl) (fun E => pe_str) (fun _ _ => .str _))
        | exact (Bool.false_ne_true h).elim
    | _ => exact (Bool.false_ne_true h).elim
  | .neg i, X, sc, fb, c, e, h => by
    cases e with
    | UnaryOp op e' p =>
      cases op <;> try exact (Bool.false_ne_true h).elim
      cases e' <;> try exact (Bool.false_ne_true h).elim
      rename_i v k p'
      cases v <;> try exact (Bool.false_ne_true h).elim
      obtain rfl := eq_of_beq (show (i == _) = true from h)
      refine pd_of fun E σ H ρ η S d S' sr st q => ?_
      cases q
      exact ⟨_, pe_un un_neg pe_int, ⟨_, rfl, good_here st (.int _)⟩⟩
    | _ => exact (Bool.false_ne_true h).elim
  | .var i, X, sc, fb, c, e, h => by
    cases e with
    | Name x p =>
      obtain ⟨h1, h3⟩ := and2 (show (N[i]? == some x && visB sc x && okName x) = true from h)
      obtain ⟨h1, h2⟩ := and2 h1
      exact pd_var (c.nm h1) (c.vis h2) (okName_1 h3).1 (okName_1 h3).2
    | _ => exact (Bool.false_ne_true h).elim
  | .glb k d, X, sc, fb, c, e, h => by
    cases e with
    | Name x p =>
      obtain ⟨h1, h3⟩ := and2 (show ((match T.gls[k]? with | some p => p.1 == x && sameD p.2 d | none => false) && glB sc x && okName x) = true from h)
      obtain ⟨h1, h2⟩ := and2 h1
      cases q : T.gls[k]? with
      | none => rw [q] at h1; exact (Bool.false_ne_true h1).elim
      | some p =>
        rw [q] at h1
        obtain ⟨h1, h4⟩ := and2 (show (p.1 == x && sameD p.2 d) = true from h1)
        obtain rfl := eq_of_beq h1
        obtain ⟨v, u, t1, t2, t3⟩ := c.tab.gl k p q
        rw [sameD_eq _ _ h4] at t3
        exact pd_glob (c.gl h2) t1 t2 t3 (okName_1 h3).1
    | _ => exact (Bool.false_ne_true h).elim
  | .bin o m a b, X, sc, fb, c, e, h => by
    cases e with
    | BinOp l op r p =>
      obtain ⟨h1, h3⟩ := and2 (show (op == o.op && chkE T N sc fb a l && chkE T N sc fb b r) = true from h)
      obtain ⟨h1, h2⟩ := and2 h1
      obtain rfl := eq_of_beq h1
      exact pd_bin (o.ok m) (sndE a c l h2) (sndE b c r h3)
    | _ => exact (Bool.false_ne_true h).elim
  | .cmp o a b, X, sc, fb, c, e, h => by
    cases e with
    | Compare l ops rs p =>
      cases ops with
      | nil => exact (Bool.false_ne_true h).elim
      | cons op ops =>
        cases ops with
        | cons _ _ => cases rs with | nil => exact (Bool.false_ne_true h).elim | cons _ rs => cases rs <;> exact (Bool.false_ne_true h).elim
        | nil =>
          cases rs with
          | nil => exact (Bool.false_ne_true h).elim
          | cons r rs =>
            cases rs with
            | cons _ _ => exact (Bool.false_ne_true h).elim
            | nil =>
              obtain ⟨h1, h4⟩ := and2 (show (op == o.op && !(behindInMarks op r) && chkE T N sc fb a l && chkE T N sc fb b r) = true from h)
              obtain ⟨h1, h3⟩ := and2 h1
              obtain ⟨h1, h2⟩ := and2 h1
              obtain rfl := eq_of_beq h1
              exact pd_cmp (o.ok c.ck) (sndE a c l h3) (sndE b c r h4) (notF h2)
    | _ => exact (Bool.false_ne_true h).elim
  | .chn o q a b d, X, sc, fb, c, e, h => by
    cases e with
    | Compare l ops rs p =>
      cases ops with
      | nil => exact (Bool.false_ne_true h).elim
      | cons op ops =>
        cases ops with
        | nil => cases rs with | nil => exact (Bool.false_ne_true h).elim | cons _ rs => cases rs <;> exact (Bool.false_ne_true h).elim
        | cons op' ops =>
          cases ops with
          | cons _ _ => cases rs with | nil => exact (Bool.false_ne_true h).elim | cons _ rs => cases rs with | nil => exact (Bool.false_ne_true h).elim | cons _ rs => cases rs <;> exact (Bool.false_ne_true h).elim
          | nil =>
            cases rs with
            | nil => exact (Bool.false_ne_true h).elim
            | cons r rs =>
              cases rs with
              | nil => exact (Bool.false_ne_true h).elim
              | cons r' rs =>
                cases rs with
                | cons _ _ => exact (Bool.false_ne_true h).elim
                | nil =>
                  obtain ⟨h1, h6⟩ := and2 (show (op == o.op && op' == q.op && !(lastMarks [op, op'] [r, r']) && chkE T N sc fb a l && chkE T N sc fb b r && chkE T N sc fb d r') = true from h)
                  obtain ⟨h1, h5⟩ := and2 h1
                  obtain ⟨h1, h4⟩ := and2 h1
                  obtain ⟨h1, h3⟩ := and2 h1
                  obtain ⟨h1, h2⟩ := and2 h1
                  obtain rfl := eq_of_beq h1
                  obtain rfl := eq_of_beq h2
                  exact pd_chain (o.ok c.ck) (q.ok c.ck) (sndE a c l h4) (sndE b c r h5) (sndE d c r' h6) (notF h3)
    | _ => exact (Bool.false_ne_true h).elim
  | .not a, X, sc, fb, c, e, h => by
    cases e with
    | UnaryOp op e' p =>
      cases op <;> first | exact (Bool.false_ne_true h).elim | exact pd_not (sndE a c e' h)
    | _ => exact (Bool.false_ne_true h).elim
  | .and a r, X, sc, fb, c, e, h => by
    cases e with
    | BoolOp op es p =>
      cases op <;> cases es with
      | nil => exact (Bool.false_ne_true h).elim
      | cons e1 es => cases es with
        | nil => exact (Bool.false_ne_true h).elim
        | cons e2 es => first
          | exact (Bool.false_ne_true h).elim
          | (obtain ⟨h1, h2⟩ := and2 (show (chkE T N sc fb a e1 && chkE T N sc fb r (.BoolOp .And (e2 :: es) p)) = true from h)
             exact pd_and (sndE a c e1 h1) (sndE r c _ h2))
    | _ => exact (Bool.false_ne_true h).elim
  | .or a r, X, sc, fb, c, e, h => by
    cases e with
    | BoolOp op es p =>
      cases op <;> cases es with
      | nil => exact (Bool.false_ne_true h).elim
      | cons e1 es => cases es with
        | nil => exact (Bool.false_ne_true h).elim
        | cons e2 es => first
          | exact (Bool.false_ne_true h).elim
          | (obtain ⟨h1, h2⟩ := and2 (show (chkE T N sc fb a e1 && chkE T N sc fb r (.BoolOp .Or (e2 :: es) p)) = true from h)
             exact pd_or (sndE a c e1 h1) (sndE r c _ h2))
    | _ => exact (Bool.false_ne_true h).elim
  | .one a, X, sc, fb, c, e, h => by
    cases e with
    | BoolOp op es p =>
      cases es with
      | nil => exact (Bool.false_ne_true h).elim
      | cons e1 es => cases es with
        | nil => exact pd_one (sndE a c e1 h)
        | cons e2 es => exact (Bool.false_ne_true h).elim
    | _ => exact (Bool.false_ne_true h).elim
  | .ife t a b, X, sc, fb, c, e, h => by
    cases e with
    | IfExp q x y p =>
      obtain ⟨h1, h3⟩ := and2 (show (chkT T N sc fb t q && chkE T N sc fb a x && chkE T N sc fb b y) = true from h)
      obtain ⟨h1, h2⟩ := and2 h1
      exact pd_ife (sndT t c q h1) (sndE a c x h2) (sndE b c y h3)
    | _ => exact (Bool.false_ne_true h).elim
  | .ix a b, X, sc, fb, c, e, h => by
    cases e with
    | Subscript x y p =>
      obtain ⟨h1, h3⟩ := and2 (show (plainIx y && chkE T N sc fb a x && chkE T N sc fb b y) = true from h)
      obtain ⟨h1, h2⟩ := and2 h1
      exact pd_ix (sndE a c x h2) (sndE b c y h3) (ix_ok h1)
    | _ => exact (Bool.false_ne_true h).elim
  | .sl m a lo hi, X, sc, fb, c, e, h => by
    cases e with
    | Subscript x y p =>
      cases y <;> try exact (Bool.false_ne_true h).elim
      rename_i l u s' p'
      cases s' with
      | some _ => exact (Bool.false_ne_true h).elim
      | none =>
        obtain ⟨h1, h3⟩ := and2 (show (chkE T N sc fb a x && chkO T N sc fb lo l && chkO T N sc fb hi u) = true from h)
        obtain ⟨h1, h2⟩ := and2 h1
        exact pd_slice (sndE a c x h1) (sndO lo c l h2) (sndO hi c u h3)
    | _ => exact (Bool.false_ne_true h).elim
  | .rev m a, X, sc, fb, c, e, h => by
    cases e with
    | Subscript x y p =>
      cases y <;> try exact (Bool.false_ne_true h).elim
      rename_i l u s' p'
      cases l <;> cases u <;> cases s' <;> try exact (Bool.false_ne_true h).elim
      rename_i s'
      cases s' <;> try exact (Bool.false_ne_true h).elim
      rename_i op e' p1
      cases op <;> cases e' <;> try exact (Bool.false_ne_true h).elim
      rename_i v k p2
      cases v <;> try exact (Bool.false_ne_true h).elim
      rename_i j
      obtain ⟨h1, h2⟩ := and2 (show (j == 1 && chkE T N sc fb a x) = true from h)
      obtain rfl := eq_of_beq h1
      exact pd_rev (sndE a c x h2)
    | _ => exact (Bool.false_ne_true h).elim
  | .tup es, X, sc, fb, c, e, h => by
    cases e with
    | Tuple xs k p =>
      obtain ⟨h1, h2⟩ := and2 (show (chkL T N sc fb es xs && decide (xs.length ≤ SL)) = true from h)
      exact pd_tup (sndL es c xs h1) fun ρ S ds S' q => by rw [(chkL_len es xs h1).2 ρ S ds S' q]; exact of_decide_eq_true h2
    | _ => exact (Bool.false_ne_true h).elim
  | .lst m es, X, sc, fb, c, e, h => by
    cases e with
    | List xs p =>
      obtain ⟨h1, h2⟩ := and2 (show (chkL T N sc fb es xs && decide (xs.length ≤ SL)) = true from h)
      exact pd_lst (sndL es c xs h1) fun ρ S ds S' q => by rw [(chkL_len es xs h1).2 ρ S ds S' q]; exact of_decide_eq_true h2
    | _ => exact (Bool.false_ne_true h).elim
  | .dic0, X, sc, fb, c, e, h => by
    cases e with
    | Dict ks vs p => cases ks <;> cases vs <;> first | exact pd_dict0 | exact (Bool.false_ne_true h).elim
    | _ => exact (Bool.false_ne_true h).elim
  | .dic1 k i, X, sc, fb, c, e, h => by
    cases e with
    | Dict ks vs p =>
      cases ks with
      | nil => cases vs <;> exact (Bool.false_ne_true h).elim
      | cons k1 ks =>
        cases k1 with
        | none => exact (Bool.false_ne_true h).elim
        | some k1 =>
          cases k1 <;> try exact (Bool.false_ne_true h).elim
          rename_i v _ p1
          cases v <;> try exact (Bool.false_ne_true h).elim
          rename_i j
          cases ks with
          | cons _ _ => exact (Bool.false_ne_true h).elim
          | nil =>
            cases vs with
            | nil => exact (Bool.false_ne_true h).elim
            | cons v1 vs =>
              cases v1 <;> try exact (Bool.false_ne_true h).elim
              rename_i x p2
              cases vs with
              | cons _ _ => exact (Bool.false_ne_true h).elim
              | nil =>
                obtain ⟨h1, h4⟩ := and2 (show (k == j && N[i]? == some x && visB sc x && okName x) = true from h)
                obtain ⟨h1, h3⟩ := and2 h1
                obtain ⟨h1, h2⟩ := and2 h1
                obtain rfl := eq_of_beq h1
                exact pd_dict1 (c.nm h2) (c.vis h3) (okName_1 h4).1 (okName_1 h4).2
    | _ => exact (Bool.false_ne_true h).elim
  | .fn f m es, X, sc, fb, c, e, h => by
    cases e with
    | Call g as ks p =>
      cases g <;> try exact (Bool.false_ne_true h).elim
      rename_i x p'
      cases as with
      | nil => exact (Bool.false_ne_true h).elim
      | cons a as =>
        cases ks with
        | cons _ _ => exact (Bool.false_ne_true h).elim
        | nil =>
          obtain ⟨h1, h3⟩ := and2 (show (x == Str.ofString f.name && bltB sc x && chkL T N sc fb es (a :: as)) = true from h)
          obtain ⟨h1, h2⟩ := and2 h1
          obtain rfl := eq_of_beq h1
          obtain ⟨g1, g2⟩ := c.blt h2
          obtain ⟨l1, l2⟩ := chkL_len (φ := φ) es _ h3
          obtain ⟨l3, l4⟩ := and2 l1
          cases q : f.isType with
          | true => exact pd_fnT (Fn.okT f m q) g1 g2 (by rw [f.boot, q]; rfl) (sndL es c _ h3) f.nn.1 f.nn.2 (starEach_cons l3) (star_any l4)
          | false => exact pd_fnB (Fn.okB c.ck f m q) g1 g2 (by rw [f.boot, q]; rfl) (sndL es c _ h3) f.nn.1 f.nn.2 (starEach_cons l3) (star_any l4)
    | _ => exact (Bool.false_ne_true h).elim
  | .isi t a, X, sc, fb, c, e, h => by
    cases e with
    | Call g as ks p =>
      cases g <;> try exact (Bool.false_ne_true h).elim
      rename_i x p'
      cases as with
      | nil => exact (Bool.false_ne_true h).elim
      | cons e1 as =>
        cases as with
        | nil => exact (Bool.false_ne_true h).elim
        | cons e2 as =>
          cases e2 <;> try exact (Bool.false_ne_true h).elim
          rename_i y p2
          cases as with
          | cons _ _ => exact (Bool.false_ne_true h).elim
          | nil =>
            cases ks with
            | cons _ _ => exact (Bool.false_ne_true h).elim
            | nil =>
              obtain ⟨h1, h6⟩ := and2 (show (x == "isinstance" && y == Str.ofString t.name && bltB sc x && bltB sc y && noStar e1 && chkE T N sc fb a e1) = true from h)
              obtain ⟨h1, h5⟩ := and2 h1
              obtain ⟨h1, h4⟩ := and2 h1
              obtain ⟨h1, h3⟩ := and2 h1
              obtain ⟨h1, h2⟩ := and2 h1
              obtain rfl := eq_of_beq h1
              obtain rfl := eq_of_beq h2
              exact pd_isi (sndE a c e1 h6) (c.blt h3).1 (c.blt h3).2 (c.blt h4).1 (c.blt h4).2 (starEach_cons h5)
    | _ => exact (Bool.false_ne_true h).elim
  | .me f m o es, X, sc, fb, c, e, h => by
    cases e with
    | Call g as ks cp =>
      cases g <;> try exact (Bool.false_ne_true h).elim
      rename_i x name ap
      cases ks with
      | cons _ _ => exact (Bool.false_ne_true h).elim
      | nil =>
        obtain ⟨h1, h6⟩ := and2 (show (name == Str.ofString f.name && plainBase x && ap.endLine == cp.line && decide (as.length < 30) && chkE T N sc fb o x && chkL T N sc fb es as) = true from h)
        obtain ⟨h1, h5⟩ := and2 h1
        obtain ⟨h1, h4⟩ := and2 h1
        obtain ⟨h1, h3⟩ := and2 h1
        obtain ⟨h1, h2⟩ := and2 h1
        obtain rfl := eq_of_beq h1
        cases as with
        | nil =>
          cases es with
          | cons _ _ => exact (Bool.false_ne_true h6).elim
          | nil =>
            have key := pd_meth0 (apos := ap) (cpos := cp) f.pa f.slot f.hty (f.ok m) (fun st r q => f.tyv m st r q) (sndE o c x h5) (base_ok h2) h3
            exact key
        | cons a as =>
          obtain ⟨l1, l2⟩ := chkL_len (φ := φ) es _ h6
          obtain ⟨l3, l4⟩ := and2 l1
          refine pd_meth f.pa f.slot f.hty (f.ok m) (fun st r q => f.tyv m st r q) (sndE o c x h5) (sndL es c _ h6) (base_ok h2) ?_ h3 (starEach_cons l3) (star_any l4)
          rw [star_all l1]
          show (true && true && decide ((a :: as).length + 0 + 0 < 30)) = true
          rw [Bool.true_and, Bool.true_and, Nat.add_zero]
          exact h4
    | _ => exact (Bool.false_ne_true h).elim
  | .repl y z o, X, sc, fb, c, e, h => by
    cases e with
    | Call g as ks cp =>
      cases g <;> try exact (Bool.false_ne_true h).elim
      rename_i x name ap
      cases as with
      | nil => exact (Bool.false_ne_true h).elim
      | cons e1 as =>
        cases e1 <;> try exact (Bool.false_ne_true h).elim
        rename_i v1 k1 p1
        cases v1 <;> try exact (Bool.false_ne_true h).elim
        rename_i y'
        cases as with
        | nil => exact (Bool.false_ne_true h).elim
        | cons e2 as =>
          cases e2 <;> try exact (Bool.false_ne_true h).elim
          rename_i v2 k2 p2
          cases v2 <;> try exact (Bool.false_ne_true h).elim
          rename_i z'
          cases as with
          | cons _ _ => exact (Bool.false_ne_true h).elim
          | nil =>
            cases ks with
            | cons _ _ => exact (Bool.false_ne_true h).elim
            | nil =>
              obtain ⟨h1, h7⟩ := and2 (show (T.rp && name == "replace" && y == y' && z == z' && !(y' == z') && plainBase x && ap.endLine == cp.line && chkE T N sc fb o x) = true from h)
              obtain ⟨h1, h6⟩ := and2 h1
              obtain ⟨h1, h5⟩ := and2 h1
              obtain ⟨h1, h4⟩ := and2 h1
              obtain ⟨h1, h3⟩ := and2 h1
              obtain ⟨h1, h2⟩ := and2 h1
              obtain ⟨h0, h1⟩ := and2 h1
              obtain rfl := eq_of_beq h1
              obtain rfl := eq_of_beq h2
              obtain rfl := eq_of_beq h3
              exact pd_repl (c.tab.rp h0) (sndE o c x h7) (notF h4) (base_ok h5) h6
    | _ => exact (Bool.false_ne_true h).elim
  | .call k es, X, sc, fb, c, e, h => by
    cases e with
    | Call g as ks p =>
      cases g <;> try exact (Bool.false_ne_true h).elim
      rename_i x p'
      cases as with
      | nil => exact (Bool.false_ne_true h).elim
      | cons a as =>
        cases ks with
        | cons _ _ => exact (Bool.false_ne_true h).elim
        | nil =>
          obtain ⟨h1, h4⟩ := and2 (show ((match T.fns[k]? with | some p => p.name == x && p.np == (a :: as).length | none => false) && glB sc x && okName x && chkL T N sc fb es (a :: as)) = true from h)
          obtain ⟨h1, h3⟩ := and2 h1
          obtain ⟨h1, h2⟩ := and2 h1
          cases q : T.fns[k]? with
          | none => rw [q] at h1; exact (Bool.false_ne_true h1).elim
          | some p =>
            rw [q] at h1
            obtain ⟨h1, h5⟩ := and2 (show (p.name == x && p.np == (a :: as).length) = true from h1)
            obtain rfl := eq_of_beq h1
            obtain ⟨f, fd, ps, t1, t2, t3, t4, t5⟩ := c.tab.fn k p q
            obtain ⟨l1, l2⟩ := chkL_len (φ := φ) es _ h4
            obtain ⟨l3, l4⟩ := and2 l1
            refine pd_call t5 c.ck (c.gl h2) t2 t3 t4 (sndL es c _ h4) (fun ρ S ds S' w => ?_) (okName_1 h3).1 (starEach_cons l3) (star_any l4)
            rw [l2 ρ S ds S' w, t1]
            exact (eq_of_beq h5).symm
    | _ => exact (Bool.false_ne_true h).elim
  | .lc m tg it ifs elt own, X, sc, fb, c, e, h => by
    cases e with
    | ListComp e1 gs scope p =>
      cases gs with
      | nil => exact (Bool.false_ne_true h).elim
      | cons g gs =>
        cases gs with
        | cons _ _ => exact (chk_lc2 h).elim
        | nil =>
          obtain ⟨tg', it', ifs', z⟩ := g
          obtain ⟨ez, hh⟩ := chk_lc h
          subst ez
          obtain ⟨h, h8⟩ := and2 hh
          obtain ⟨h, h7⟩ := and2 h
          obtain ⟨h, h6⟩ := and2 h
          obtain ⟨h, h5⟩ := and2 h
          obtain ⟨h, h4⟩ := and2 h
          obtain ⟨h, h3⟩ := and2 h
          obtain ⟨h1, h2⟩ := and2 h
          have ok : BlkOk X.N X.env.scope scope (ownP N own) := by rw [c.hN, c.hs]; exact blkB_ok h3
          have key := pd_lc (m := m) (pos := p) c.ck.calm c.ck.nd (sndI it c tg' it' h1) ok (fun s H C cl fp => chkG_ok (c.blk s H scope cl C fp) tg tg' h5)
            (by rw [ownP_snd]; exact Tg.wipe h4) (fun s H C cl fp => sndTs ifs (c.blk s H scope cl C fp) ifs' (of_decide_eq_true h6) h7) (fun s H C cl fp => sndE elt (c.blk s H scope cl C fp) e1 h8) (set_ok' h2)
          rw [ownP_snd] at key
          exact key
    | _ => exact (Bool.false_ne_true h).elim
theorem sndO : ∀ (ir : Ox) {X : Cx} {sc : Scope} {fb : Str → Bool}, Ctx τ X n T φ N sc fb → ∀ (e : Option Expr), chkO T N sc fb ir e = true → POD τ X e (evO φ ir)
  | .non, X, sc, fb, c, e, h => by
    cases e with
    | none => exact pod_none
    | some _ => exact (Bool.false_ne_true h).elim
  | .som a, X, sc, fb, c, e, h => by
    cases e with
    | none => exact (Bool.false_ne_true h).elim
    | some x => exact pod_some (sndE a c x h)
theorem sndL : ∀ (ir : Exs) {X : Cx} {sc : Scope} {fb : Str → Bool}, Ctx τ X n T φ N sc fb → ∀ (e : List Expr), chkL T N sc fb ir e = true → PDL τ X e (evL φ ir)
  | .nil, X, sc, fb, c, e, h => by
    cases e with
    | nil => exact pdl_nil
    | cons _ _ => exact (Bool.false_ne_true h).elim
  | .cons a r, X, sc, fb, c, e, h => by
    cases e with
    | nil => exact (Bool.false_ne_true h).elim
    | cons x xs =>
      obtain ⟨h1, h3⟩ := and2 (show (noStar x && chkE T N sc fb a x && chkL T N sc fb r xs) = true from h)
      obtain ⟨h1, h2⟩ := and2 h1
      exact pdl_cons (sndE a c x h2) (sndL r c xs h3) (starEach_cons h1)
theorem sndT : ∀ (ir : Tx) {X : Cx} {sc : Scope} {fb : Str → Bool}, Ctx τ X n T φ N sc fb → ∀ (e : Expr), chkT T N sc fb ir e = true → PDB τ X e (evT φ ir)
  | .cmp o a b, X, sc, fb, c, e, h => by
    cases e with
    | Compare l ops rs p =>
      cases ops with
      | nil => exact (Bool.false_ne_true h).elim
      | cons op ops =>
        cases ops with
        | cons _ _ => cases rs with | nil => exact (Bool.false_ne_true h).elim | cons _ rs => cases rs <;> exact (Bool.false_ne_true h).elim
        | nil =>
          cases rs with
          | nil => exact (Bool.false_ne_true h).elim
          | cons r rs =>
            cases rs with
            | cons _ _ => exact (Bool.false_ne_true h).elim
            | nil =>
              obtain ⟨h1, h4⟩ := and2 (show (op == o.op && !(behindInMarks op r) && chkE T N sc fb a l && chkE T N sc fb b r) = true from h)
              obtain ⟨h1, h3⟩ := and2 h1
              obtain ⟨h1, h2⟩ := and2 h1
              obtain rfl := eq_of_beq h1
              exact pdb_cmp (o.ok c.ck) (sndE a c l h3) (sndE b c r h4) (notF h2)
    | _ => exact (Bool.false_ne_true h).elim
  | .chn o q a b d, X, sc, fb, c, e, h => by
    cases e with
    | Compare l ops rs p =>
      cases ops with
      | nil => exact (Bool.false_ne_true h).elim
      | cons op ops =>
        cases ops with
        | nil => cases rs with | nil => exact (Bool.false_ne_true h).elim | cons _ rs => cases rs <;> exact (Bool.false_ne_true h).elim
        | cons op' ops =>
          cases ops with
          | cons _ _ => cases rs with | nil => exact (Bool.false_ne_true h).elim | cons _ rs => cases rs with | nil => exact (Bool.false_ne_true h).elim | cons _ rs => cases rs <;> exact (Bool.false_ne_true h).elim
          | nil =>
            cases rs with
            | nil => exact (Bool.false_ne_true h).elim
            | cons r rs =>
              cases rs with
              | nil => exact (Bool.false_ne_true h).elim
              | cons r' rs =>
                cases rs with
                | cons _ _ => exact (Bool.false_ne_true h).elim
                | nil =>
                  obtain ⟨h1, h6⟩ := and2 (show (op == o.op && op' == q.op && !(lastMarks [op, op'] [r, r']) && chkE T N sc fb a l && chkE T N sc fb b r && chkE T N sc fb d r') = true from h)
                  obtain ⟨h1, h5⟩ := and2 h1
                  obtain ⟨h1, h4⟩ := and2 h1
                  obtain ⟨h1, h3⟩ := and2 h1
                  obtain ⟨h1, h2⟩ := and2 h1
                  obtain rfl := eq_of_beq h1
                  obtain rfl := eq_of_beq h2
                  exact pdb_chain (o.ok c.ck) (q.ok c.ck) (sndE a c l h4) (sndE b c r h5) (sndE d c r' h6) (notF h3)
    | _ => exact (Bool.false_ne_true h).elim
  | .not t, X, sc, fb, c, e, h => by
    cases e with
    | UnaryOp op e' p =>
      cases op <;> first | exact (Bool.false_ne_true h).elim | exact pdb_not (sndT t c e' h)
    | _ => exact (Bool.false_ne_true h).elim
  | .and ts, X, sc, fb, c, e, h => by
    cases e with
    | BoolOp op es p => cases op <;> first | exact (Bool.false_ne_true h).elim | exact (sndA ts c es h).pdb
    | _ => exact (Bool.false_ne_true h).elim
  | .or ts, X, sc, fb, c, e, h => by
    cases e with
    | BoolOp op es p => cases op <;> first | exact (Bool.false_ne_true h).elim | exact (sndR ts c es h).pdb
    | _ => exact (Bool.false_ne_true h).elim
  | .val a, X, sc, fb, c, e, h => by
    have h : (plainTest e && chkE T N sc fb a e) = true := by
      cases e <;> exact h
    obtain ⟨h1, h2⟩ := and2 h
    exact pdb_val (sndE a c e h2) (pt_ok h1)
theorem sndA : ∀ (ir : Txs) {X : Cx} {sc : Scope} {fb : Str → Bool}, Ctx τ X n T φ N sc fb → ∀ (e : List Expr) {pos : Pos}, chkTs T N sc fb ir e = true → PDW τ X (.BoolOp .And e pos) (evA φ ir)
  | .nil, X, sc, fb, c, e, pos, h => by
    cases e with
    | nil => exact pdw_and_nil
    | cons _ _ => exact (Bool.false_ne_true h).elim
  | .cons t r, X, sc, fb, c, e, pos, h => by
    cases e with
    | nil => exact (Bool.false_ne_true h).elim
    | cons x xs =>
      obtain ⟨h1, h2⟩ := and2 (show (chkT T N sc fb t x && chkTs T N sc fb r xs) = true from h)
      exact pdw_and (sndT t c x h1) (sndA r c xs h2)
theorem sndR : ∀ (ir : Txs) {X : Cx} {sc : Scope} {fb : Str → Bool}, Ctx τ X n T φ N sc fb → ∀ (e : List Expr) {pos : Pos}, chkTs T N sc fb ir e = true → PDW τ X (.BoolOp .Or e pos) (evOr φ ir)
  | .nil, X, sc, fb, c, e, pos, h => by
    cases e with
    | nil => exact pdw_or_nil
    | cons _ _ => exact (Bool.false_ne_true h).elim
  | .cons t r, X, sc, fb, c, e, pos, h => by
    cases e with
    | nil => exact (Bool.false_ne_true h).elim
    | cons x xs =>
      obtain ⟨h1, h2⟩ := and2 (show (chkT T N sc fb t x && chkTs T N sc fb r xs) = true from h)
      exact pdw_or (sndT t c x h1) (sndR r c xs h2)
theorem sndTs : ∀ (ir : Txs) {X : Cx} {sc : Scope} {fb : Str → Bool}, Ctx τ X n T φ N sc fb → ∀ (e : List Expr), e.length ≤ 1 → chkTs T N sc fb ir e = true → PTD τ X e (evA φ ir)
  | .nil, X, sc, fb, c, e, hl, h => by
    cases e with
    | nil => exact ptd_nil
    | cons _ _ => exact (Bool.false_ne_true h).elim
  | .cons t r, X, sc, fb, c, e, hl, h => by
    cases e with
    | nil => exact (Bool.false_ne_true h).elim
    | cons x xs =>
      cases xs with
      | cons _ _ => exact absurd hl (by simp)
      | nil =>
        obtain ⟨h1, h2⟩ := and2 (show (chkT T N sc fb t x && chkTs T N sc fb r []) = true from h)
        cases r with
        | cons _ _ => exact (Bool.false_ne_true h2).elim
        | nil =>
          have e : evA φ (.cons t .nil) = evT φ t := by
            funext ρ
            exact one_and
          rw [e]
          exact ptd_one (sndT t c x h1)
theorem sndI : ∀ (ir : Ix) {X : Cx} {sc : Scope} {fb : Str → Bool}, Ctx τ X n T φ N sc fb → ∀ (tg e : Expr), chkI T N sc fb ir e = true → PID τ X tg e (evI φ ir)
  | .seq a, X, sc, fb, c, tg, e, h => by
    have h : chkE T N sc fb a e = true := by cases e <;> exact h
    exact pid_seq (sndE a c e h)
  | .rng es, X, sc, fb, c, tg, e, h => by
    cases e with
    | Call g as ks p =>
      cases g <;> try exact (Bool.false_ne_true h).elim
      rename_i x p'
      cases as with
      | nil => exact (Bool.false_ne_true h).elim
      | cons a as =>
        cases ks with
        | cons _ _ => exact (Bool.false_ne_true h).elim
        | nil =>
          obtain ⟨h1, h3⟩ := and2 (show (x == "range" && bltB sc x && chkL T N sc fb es (a :: as)) = true from h)
          obtain ⟨h1, h2⟩ := and2 h1
          obtain rfl := eq_of_beq h1
          obtain ⟨l1, l2⟩ := chkL_len (φ := φ) es _ h3
          obtain ⟨l3, l4⟩ := and2 l1
          exact pid_range (c.blt h2).1 (c.blt h2).2 (sndL es c _ h3) (starEach_cons l3) (star_any l4)
    | _ => exact (Bool.false_ne_true h).elim
end
end MP

/-! MP21: the small language: statements, functions. -/
namespace MP
open PySem L2
mutual
inductive Sx where
  | pass | brk | cont
  | ret (e : Ex)
  | set (i : Nat) (e : Ex)
  | par (is : List Nat) (e : Ex)
  | asg (tg : Tg) (e : Ex)
  | put (o i e : Ex)
  | exp (e : Ex)
  | ite (t : Tx) (a b : Sxs)
  | forr (tg : Tg) (it : Ix) (b : Sxs)
inductive Sxs where
  | nil
  | cons (s : Sx) (r : Sxs)
end
section
variable (φ : Nat → List D → M D)
mutual
def evS : Sx → Env → M Fl
  | .pass, ρ => pure (.next ρ)
  | .brk, ρ => pure (.brk ρ)
  | .cont, ρ => pure (.cont ρ)
  | .ret e, ρ => evE φ e ρ >>= fun d => pure (.ret d)
  | .set i e, ρ => evE φ e ρ >>= fun d => pure (.next (ρ.set i (some d)))
  | .par is e, ρ => evE φ e ρ >>= fun d => unpackD is.length none d >>= fun ds => pure (.next (setsL is.reverse ds.reverse ρ))
  | .asg tg e, ρ => evE φ e ρ >>= fun d => tg.ev d ρ >>= fun ρ' => pure (.next ρ')
  | .put o i e, ρ => evE φ e ρ >>= fun d => evE φ o ρ >>= fun od => evE φ i ρ >>= fun id => setD od id d >>= fun _ => pure (.next ρ)
  | .exp e, ρ => evE φ e ρ >>= fun _ => pure (.next ρ)
  | .ite t a b, ρ => evT φ t ρ >>= fun c => if c = true then evSs a ρ else evSs b ρ
  | .forr tg it b, ρ => evI φ it ρ >>= forF tg.ev (evSs b) ρ
def evSs : Sxs → Env → M Fl
  | .nil, ρ => pure (.next ρ)
  | .cons s r, ρ => evS s ρ >>= thenF (evSs r)
end
end
def noComp : Expr → Bool
  | .ListComp .. => false
  | .SetComp .. => false
  | .DictComp .. => false
  | _ => true
def noTup : Expr → Bool
  | .Tuple .. => false
  | _ => true
def parB (sc : Scope) (ts vs : List Expr) (names : List Str) : Bool :=
  (ts.length == 2 || ts.length == 3) && vs.length == ts.length && sc.kind == .function && vs.all noStar &&
  (ts.filterMap fun
    | .Name id pos => if sc.names.lookup id == some .local && pos.line == (ts.head?.map (·.pos.line)).getD 0 then some id else none
    | _ => none) == names && names.length == ts.length && names.eraseDups.length == names.length && !(vs.all (foldedForSure 8)) && !(vs.all (constantsAlone 8))
def slotsB (N : List Str) (sc : Scope) : List Str → List Nat → Bool
  | [], [] => true
  | x :: xs, i :: is => (N[i]? == some x && sc.names.lookup x == some .local) && slotsB N sc xs is
  | _, _ => false
def setB (sc : Scope) (y : Str) (py : Pos) : Expr → Bool
  | .ListComp _ _ scope pos => sc.names.lookup y == some .cell || (sc.kind == .function && sc.names.lookup y == some .local && py.line == pos.line && !(scope.names.any fun (n, k) => n == y && (k == .local || k == .cell)))
  | v => noComp v
def lcParts (T : Tab) (N : List Str) (sc : Scope) : Ex → Expr → Bool
  | .lc m tg it ifs elt own, e => chkE T N sc (fun _ => true) (.lc m tg it ifs elt own) e
  | _, _ => false
section
variable (T : Tab) (N : List Str)
mutual
def chkS (sc : Scope) : Sx → Stmt → Bool
  | .pass, .Pass _ => true
  | .brk, .Break _ => true
  | .cont, .Continue _ => true
  | .ret e, .Return (some x) _ => chkE T N sc (fun _ => true) e x
  | .set i e, .Assign [.Name y py] v _ => okNm N sc (fun _ => true) i y && chkE T N sc (fun _ => true) e v &&
      setB sc y py v
  | .par is e, .Assign [.Tuple ts _ _] (.Tuple vs k p) _ => (match is.mapM (fun i => N[i]?) with | some names => parB sc ts vs names && slotsB N sc names.reverse is.reverse | none => false) && chkE T N sc (fun _ => true) e (.Tuple vs k p)
  | .asg tg e, .Assign [.Tuple ts k p] v _ => chkG N sc (fun _ => true) tg (.Tuple ts k p) && noTup v && chkE T N sc (fun _ => true) e v
  | .put o i e, .Assign [.Subscript x y _] v _ => plainIx y && noComp v && chkE T N sc (fun _ => true) e v && chkE T N sc (fun _ => true) o x && chkE T N sc (fun _ => true) i y
  | .exp e, .Expr v _ => noComp v && chkE T N sc (fun _ => true) e v
  | .ite t a b, .If c x y _ => chkT T N sc (fun _ => true) t c && chkSs sc a x && chkSs sc b y
  | .forr tg it b, .For tg' it' x [] _ => chkI T N sc (fun _ => true) it it' && noSet it' && chkG N sc (fun _ => true) tg tg' && chkSs sc b x
  | _, _ => false
def chkSs (sc : Scope) : Sxs → List Stmt → Bool
  | .nil, [] => true
  | .cons s r, x :: xs => chkS sc s x && chkSs sc r xs
  | _, _ => false
end
end
theorem noComp_ok {e : Expr} {t : Option Expr} {l : Nat} {env : PySem.Env} (h : noComp e = true) : swapsWith e t l env = pure false := by
  cases e <;> first | rfl | exact (Bool.false_ne_true h).elim
theorem noTup_ok {tg e : Expr} {env : PySem.Env} (h : noTup e = true) : swappedStores [tg] e env = pure none := by
  cases e <;> first
    | exact (Bool.false_ne_true h).elim
    | (unfold swappedStores; cases tg <;> rfl)
theorem sub_none {o i e : Expr} {p : Pos} {env : PySem.Env} : swappedStores [.Subscript o i p] e env = pure none := by
  cases e <;> rfl
theorem sole_tup {ts : List Expr} {k : Nat} {p : Pos} {e : Expr} {l : Nat} {env : PySem.Env} : swapsWithSole [.Tuple ts k p] e l env = pure false := by
  cases e <;> rfl
theorem starB : ∀ (vs : List Expr), vs.all noStar = true → (vs.any fun | .Starred .. => true | _ => false) = false
  | [], _ => rfl
  | v :: vs, h => by
    obtain ⟨a, b⟩ := and2 (show (noStar v && vs.all noStar) = true from h)
    rw [List.any_cons, starB vs b]
    cases v <;> first | rfl | exact (Bool.false_ne_true a).elim
theorem parFin (L names : List Str) (ts : List Expr) (h : L = names) (h6 : names.length = ts.length) (h7 : names.eraseDups.length = names.length) :
    (if (L.length != ts.length || L.eraseDups.length != L.length) = true then (pure none : Sem (Option (List Str))) else if false = true then pure none else if false = true then (do unsupported "assign.tuple-of-constant-expressions:order-of-the-stores"; pure (some L)) else pure (some L)) = pure (some names) := by
  subst h
  simp [h6, h7]
theorem parB_ok {sc : Scope} {ts vs : List Expr} {names : List Str} {env : PySem.Env} {kt k : Nat} {pt p : Pos} (hs : env.scope = sc) (h : parB sc ts vs names = true) : swappedStores [.Tuple ts kt pt] (.Tuple vs k p) env = pure (some names) := by
  unfold parB at h
  obtain ⟨h, h9⟩ := and2 h
  obtain ⟨h, h8⟩ := and2 h
  obtain ⟨h, h7⟩ := and2 h
  obtain ⟨h, h6⟩ := and2 h
  obtain ⟨h, h5⟩ := and2 h
  obtain ⟨h, h4⟩ := and2 h
  obtain ⟨h, h3⟩ := and2 h
  obtain ⟨h1, h2⟩ := and2 h
  have hb : env.blockKind = .function := by unfold Env.blockKind; rw [hs, eq_of_beq h3]; rfl
  have hstar := starB vs h4
  have hn := eq_of_beq h5
  have e2 := eq_of_beq h2
  have e6 := eq_of_beq h6
  have e7 := eq_of_beq h7
  unfold swappedStores
  have hk : ∀ id, env.kindOf id = sc.names.lookup id := fun id => by rw [kind_eq, hs]
  simp only [hb, hk, e2, notF h8, notF h9, h1]
  rw [if_neg (by simp)]
  refine (if_neg ?hh).trans (parFin _ names ts hn e6 e7)
  intro z
  exact Bool.false_ne_true (hstar.symm.trans z)
section
variable {τ n : Nat} {T : Tab} {φ : Nat → List D → M D} {N : List Str} {X : Cx} {sc : Scope}
theorem slotsB_ok (hN : X.N = N) (hs : X.env.scope = sc) : ∀ (xs : List Str) (is : List Nat), slotsB N sc xs is = true → Slots X xs is
  | [], [], _ => trivial
  | x :: xs, i :: is, h => by
    obtain ⟨h1, h2⟩ := and2 (show ((N[i]? == some x && sc.names.lookup x == some .local) && slotsB N sc xs is) = true from h)
    obtain ⟨h1, h3⟩ := and2 h1
    exact ⟨⟨by rw [hN]; exact eq_of_beq h1, by rw [hs]; exact eq_of_beq h3⟩, slotsB_ok hN hs xs is h2⟩
  | [], _ :: _, h => (Bool.false_ne_true h).elim
  | _ :: _, [], h => (Bool.false_ne_true h).elim
theorem mapM_len : ∀ (is : List Nat) (names : List Str), is.mapM (fun i => N[i]?) = some names → names.length = is.length
  | [], names, h => by cases h; rfl
  | i :: is, names, h => by
    rw [List.mapM_cons] at h
    cases q1 : N[i]? with
    | none => rw [q1] at h; cases h
    | some x =>
      cases q2 : is.mapM (fun i => N[i]?) with
      | none => rw [q1, q2] at h; cases h
      | some xs =>
        rw [q1, q2] at h
        cases h
        rw [List.length_cons, List.length_cons, mapM_len is xs q2]
mutual
theorem sndS (c : Ctx τ X n T φ N sc (fun _ => true)) : ∀ (ir : Sx) (s : Stmt), chkS T N sc ir s = true → PSD τ X s (evS φ ir)
  | .pass, s, h => by cases s <;> first | exact psd_pass | exact (Bool.false_ne_true h).elim
  | .brk, s, h => by cases s <;> first | exact psd_brk | exact (Bool.false_ne_true h).elim
  | .cont, s, h => by cases s <;> first | exact psd_cont | exact (Bool.false_ne_true h).elim
  | .ret e, s, h => by
    cases s <;> try exact (Bool.false_ne_true h).elim
    rename_i v p
    cases v with
    | none => exact (Bool.false_ne_true h).elim
    | some x => exact psd_ret (sndE e c x h)
  | .set i e, s, h => by
    cases s <;> try exact (Bool.false_ne_true h).elim
    rename_i ts v p
    cases ts with
    | nil => exact (Bool.false_ne_true h).elim
    | cons t ts =>
      cases t <;> try exact (Bool.false_ne_true h).elim
      rename_i y py
      cases ts with
      | cons _ _ => exact (Bool.false_ne_true h).elim
      | nil =>
        obtain ⟨h', h3⟩ := and2 (show (okNm N sc (fun _ => true) i y && chkE T N sc (fun _ => true) e v && setB sc y py v) = true from h)
        obtain ⟨h1, h2⟩ := and2 h'
        clear h'
        obtain ⟨n1, n2, n3⟩ := c.store h1
        have plain : swapsWith v (some (.Name y py)) p.line X.env = pure false → PSD τ X (.Assign [.Name y py] v p) (evS φ (.set i e)) := fun hs => psd_set c.ck.nd n1 n2 n3 (sndE e c v h2) hs
        by_cases hv : noComp v = true
        · exact plain (noComp_ok hv)
        · clear h
          cases v <;> try exact absurd rfl hv
          · rename_i e1 gs scope pos
            have h3 : (sc.names.lookup y == some .cell || (sc.kind == .function && sc.names.lookup y == some .local && py.line == pos.line && !(scope.names.any fun (n, k) => n == y && (k == .local || k == .cell)))) = true := h3
            rw [Bool.or_eq_true] at h3
            rcases h3 with h3 | h3
            · refine plain ?_
              unfold swapsWith
              have : X.env.kindOf y = some .cell := by rw [kind_eq, c.hs]; exact eq_of_beq h3
              simp [this]
              rw [show (NameKind.cell == NameKind.local) = false from rfl, Bool.and_false, Bool.false_and, Bool.false_and]
            · obtain ⟨h3, h7⟩ := and2 h3
              obtain ⟨h3, h6⟩ := and2 h3
              obtain ⟨h4, h5⟩ := and2 h3
              have hyl : X.env.scope.names.lookup y = some .local := by rw [c.hs]; exact eq_of_beq h5
              have hsw := sw_true (elt := e1) (gs := gs) (l := p.line) (by rw [c.hs]; exact eq_of_beq h4) hyl h6 (notF h7)
              cases e <;> try exact (Bool.false_ne_true h2).elim
              rename_i m tg it ifs elt own
              cases gs with
              | nil => exact (Bool.false_ne_true h2).elim
              | cons g gs =>
                cases gs with
                | cons _ _ => exact (chk_lc2 h2).elim
                | nil =>
                  obtain ⟨tg', it', ifs', z⟩ := g
                  obtain ⟨ez, hh⟩ := chk_lc h2
                  subst ez
                  obtain ⟨h, g8⟩ := and2 hh
                  obtain ⟨h, g7⟩ := and2 h
                  obtain ⟨h, g6⟩ := and2 h
                  obtain ⟨h, g5⟩ := and2 h
                  obtain ⟨h, g4⟩ := and2 h
                  obtain ⟨h, g3⟩ := and2 h
                  obtain ⟨g1, g2⟩ := and2 h
                  have ok : BlkOk X.N X.env.scope scope (ownP N own) := by rw [c.hN, c.hs]; exact blkB_ok g3
                  have key := psd_setLc (m := m) (i := i) (py := py) (pos := pos) (spos := p) c.ck.calm c.ck.nd n1 hyl hsw (sndI it c tg' it' g1) ok (fun s H C cl fp => chkG_ok (c.blk s H scope cl C fp) tg tg' g5)
                    (by rw [ownP_snd]; exact Tg.wipe g4) (fun s H C cl fp => sndTs ifs (c.blk s H scope cl C fp) ifs' (of_decide_eq_true g6) g7) (fun s H C cl fp => sndE elt (c.blk s H scope cl C fp) e1 g8) (set_ok' g2)
                  rw [ownP_snd] at key
                  exact key
          · exact (Bool.false_ne_true h3).elim
          · exact (Bool.false_ne_true h3).elim
  | .par is e, s, h => by
    cases s <;> try exact (Bool.false_ne_true h).elim
    rename_i ts v p
    cases ts with
    | nil => exact (Bool.false_ne_true h).elim
    | cons t ts =>
      cases t <;> try exact (Bool.false_ne_true h).elim
      rename_i ts' kt pt
      cases ts with
      | cons _ _ => exact (Bool.false_ne_true h).elim
      | nil =>
        cases v <;> try exact (Bool.false_ne_true h).elim
        rename_i vs k p'
        obtain ⟨h1, h2⟩ := and2 (show ((match is.mapM (fun i => N[i]?) with | some names => parB sc ts' vs names && slotsB N sc names.reverse is.reverse | none => false) && chkE T N sc (fun _ => true) e (.Tuple vs k p')) = true from h)
        cases q : is.mapM (fun i => N[i]?) with
        | none => rw [q] at h1; exact (Bool.false_ne_true h1).elim
        | some names =>
          rw [q] at h1
          obtain ⟨h3, h4⟩ := and2 h1
          have key := psd_par (pos := p) (is := is) c.ck.calm c.ck.nd (slotsB_ok c.hN c.hs _ _ h4) (sndE e c _ h2) (parB_ok (kt := kt) (pt := pt) c.hs h3) sole_tup
          rw [mapM_len is names q] at key
          exact key
  | .asg tg e, s, h => by
    cases s <;> try exact (Bool.false_ne_true h).elim
    rename_i ts v p
    cases ts with
    | nil => exact (Bool.false_ne_true h).elim
    | cons t ts =>
      cases t <;> try exact (Bool.false_ne_true h).elim
      rename_i ts' kt pt
      cases ts with
      | cons _ _ => exact (Bool.false_ne_true h).elim
      | nil =>
        obtain ⟨h, h3⟩ := and2 (show (chkG N sc (fun _ => true) tg (.Tuple ts' kt pt) && noTup v && chkE T N sc (fun _ => true) e v) = true from h)
        obtain ⟨h1, h2⟩ := and2 h
        exact psd_asg (sndE e c v h3) (chkG_ok c tg _ h1) sole_tup (noTup_ok h2) rfl
  | .put o i e, s, h => by
    cases s <;> try exact (Bool.false_ne_true h).elim
    rename_i ts v p
    cases ts with
    | nil => exact (Bool.false_ne_true h).elim
    | cons t ts =>
      cases t <;> try exact (Bool.false_ne_true h).elim
      rename_i x y p'
      cases ts with
      | cons _ _ => exact (Bool.false_ne_true h).elim
      | nil =>
        obtain ⟨h, h5⟩ := and2 (show (plainIx y && noComp v && chkE T N sc (fun _ => true) e v && chkE T N sc (fun _ => true) o x && chkE T N sc (fun _ => true) i y) = true from h)
        obtain ⟨h, h4⟩ := and2 h
        obtain ⟨h, h3⟩ := and2 h
        obtain ⟨h1, h2⟩ := and2 h
        have hp := pgd_sub (pos := p') (sndE o c x h4) (sndE i c y h5) (by intro u; cases y <;> first | rfl | exact (Bool.false_ne_true h1).elim)
        have key := psd_asg (pos := p) (sndE e c v h3) hp (by unfold swapsWithSole; exact noComp_ok h2) sub_none rfl
        have e : (fun ρ => evE φ e ρ >>= fun d => (evE φ o ρ >>= fun od => evE φ i ρ >>= fun id => setD od id d >>= fun _ => pure ρ) >>= fun ρ' => pure (Fl.next ρ')) = evS φ (.put o i e) := by
          funext ρ S
          show (evE φ e ρ >>= fun d => (evE φ o ρ >>= fun od => evE φ i ρ >>= fun id => setD od id d >>= fun _ => pure ρ) >>= fun ρ' => pure (Fl.next ρ')) S = (evE φ e ρ >>= fun d => evE φ o ρ >>= fun od => evE φ i ρ >>= fun id => setD od id d >>= fun _ => pure (.next ρ)) S
          simp only [bind_run]
          cases evE φ e ρ S with
          | bad => rfl
          | ok d S1 =>
            dsimp only
            cases evE φ o ρ S1 with
            | bad => rfl
            | ok od S2 =>
              dsimp only
              cases evE φ i ρ S2 with
              | bad => rfl
              | ok id S3 =>
                dsimp only
                cases setD od id d S3 <;> rfl
        rw [← e]
        exact key
  | .exp e, s, h => by
    cases s <;> try exact (Bool.false_ne_true h).elim
    rename_i v p
    obtain ⟨h1, h2⟩ := and2 (show (noComp v && chkE T N sc (fun _ => true) e v) = true from h)
    exact psd_expr (sndE e c v h2) (noComp_ok h1)
  | .ite t a b, s, h => by
    cases s <;> try exact (Bool.false_ne_true h).elim
    rename_i q x y p
    obtain ⟨h, h3⟩ := and2 (show (chkT T N sc (fun _ => true) t q && chkSs T N sc a x && chkSs T N sc b y) = true from h)
    obtain ⟨h1, h2⟩ := and2 h
    exact psd_if (sndT t c q h1) (sndSs c a x h2) (sndSs c b y h3)
  | .forr tg it b, s, h => by
    cases s <;> try exact (Bool.false_ne_true h).elim
    rename_i tg' it' x oe p
    cases oe with
    | cons _ _ => exact (Bool.false_ne_true h).elim
    | nil =>
      obtain ⟨h, h4⟩ := and2 (show (chkI T N sc (fun _ => true) it it' && noSet it' && chkG N sc (fun _ => true) tg tg' && chkSs T N sc b x) = true from h)
      obtain ⟨h, h3⟩ := and2 h
      obtain ⟨h1, h2⟩ := and2 h
      exact psd_for c.ck.calm (sndI it c tg' it' h1) (chkG_ok c tg tg' h3) (sndSs c b x h4) (set_ok' h2)
theorem sndSs (c : Ctx τ X n T φ N sc (fun _ => true)) : ∀ (ir : Sxs) (s : List Stmt), chkSs T N sc ir s = true → PSDs τ X s (evSs φ ir)
  | .nil, s, h => by
    cases s with
    | nil => exact psd_nil
    | cons _ _ => exact (Bool.false_ne_true h).elim
  | .cons a r, s, h => by
    cases s with
    | nil => exact (Bool.false_ne_true h).elim
    | cons x xs =>
      obtain ⟨h1, h2⟩ := and2 (show (chkS T N sc a x && chkSs T N sc r xs) = true from h)
      exact psd_cons (sndS c a x h1) (sndSs c r xs h2)
end
end
end MP

/-! MP22: the table of functions; the law's end. -/
namespace MP
open PySem L2 PyProof.Rows
structure FDef where
  name : Str
  N : List Str
  np : Nat
  body : Sxs
def runF (P : List FDef) : Nat → Nat → List D → M D
  | 0, _, _ => M.fail
  | n + 1, k, ds => match P[k]? with
    | some f => if ds.length = f.np then bodyD f.N.length (evSs (runF P n) f.body) ds else M.fail
    | none => M.fail
def tabOf (P : List FDef) (gls : List (Str × D)) (rp : Bool) : Tab := ⟨P.map fun p => ⟨p.name, p.np⟩, gls, rp⟩
def mkDef (x : Str) (params : Arguments) (body : List Stmt) (scope : Scope) : Stmt := .FunctionDef x params body [] none [] scope none x ⟨0, 0, 0, 0⟩
/-- what the top has left of a def -/
structure FFact (K : PySem.W.Frag) (mg : Str → Option Value) (T : Tab) (p : FDef) : Prop where
  ex : ∃ f fd ps sm, Fun K p.name p.name sm f fd ∧ FnScope p.N ps (defScope sm) ∧ mg p.name = some (.ref f) ∧ Binds K fd ps [] ∧ chkSs T p.N (defScope sm) p.body (defBody sm) = true ∧ ps.length = p.np
structure GFact (K : PySem.W.Frag) (mg : Str → Option Value) (p : Str × D) : Prop where
  ex : ∃ v u, mg p.1 = some u ∧ RelV v u ∧ ∀ η H, Rep K η H p.2 v
section
variable {Pg : Program} {w : World} {K : PySem.W.Frag} {mg : Str → Option Value} {base : Heap} {P : List FDef} {gls : List (Str × D)} {rp : Bool} {τ : Nat}
theorem fnD_weak {n : Nat} {f : Addr} {fd : FuncData} {ps : List Str} {g g' : List D → M D} (F : FnD τ Pg w K mg base n f fd ps g) (h : ∀ ds S d S', g' ds S = .ok d S' → g ds S = .ok d S') : FnD τ Pg w K mg base n f fd ps g' :=
  fun A outer s H args us vs ds η S d S' h1 h2 h3 h4 h5 h6 h7 h8 h9 q => F A outer s H args us vs ds η S d S' h1 h2 h3 h4 h5 h6 h7 h8 h9 (h _ _ _ _ q)
theorem tab_ctx {X : Cx} {n : Nat} (hP : X.prog = Pg) (hw : X.w = w) (hK : X.K = K) (hm : X.mg = mg) (hb : X.base = base)
    (hf : ∀ (k : Nat) (p : FDef), P[k]? = some p → ∃ f fd ps, ps.length = p.np ∧ mg p.name = some (.ref f) ∧ PySem.W.keepIn K (.ref f) = true ∧ Binds K fd ps [] ∧ FnD τ Pg w K mg base n f fd ps (runF P n k))
    (hg : ∀ p ∈ gls, GFact K mg p) (hbl : ∀ x ∈ bltNames, mg x = none) (hr : rp = true → 1 ≤ τ) : TabOk τ X n (tabOf P gls rp) (runF P n) := by
  subst hP hw hK hm hb
  refine ⟨fun k p q => ?_, fun k p q => ?_, hbl, hr⟩
  · have q : (P.map fun p => (⟨p.name, p.np⟩ : FI))[k]? = some p := q
    rw [List.getElem?_map] at q
    cases q2 : P[k]? with
    | none => rw [q2] at q; cases q
    | some r =>
      rw [q2] at q
      cases q
      exact hf k r q2
  · have q : gls[k]? = some p := q
    exact (hg p (List.mem_of_getElem? q)).ex
theorem fns_ok (hsm : ∃ o, base.get? sysModules = some o) (hF : ∀ p ∈ P, FFact K mg (tabOf P gls rp) p) (hg : ∀ p ∈ gls, GFact K mg p) (hbl : ∀ x ∈ bltNames, mg x = none) (hr : rp = true → 1 ≤ τ) :
    ∀ (n k : Nat) (p : FDef), P[k]? = some p → ∃ f fd ps, ps.length = p.np ∧ mg p.name = some (.ref f) ∧ PySem.W.keepIn K (.ref f) = true ∧ Binds K fd ps [] ∧ FnD τ Pg w K mg base n f fd ps (runF P n k)
  | 0, k, p, q => by
    obtain ⟨f, fd, ps, sm, F, Sc, hm, hb, hc, hl⟩ := (hF p (List.mem_of_getElem? q)).ex
    exact ⟨f, fd, ps, hl, hm, F.kp, hb, fun A outer s H args us vs ds η S d S' h1 h2 h3 h4 h5 h6 h7 h8 h9 z => by cases z⟩
  | n + 1, k, p, q => by
    obtain ⟨f, fd, ps, sm, F, Sc, hm, hb, hc, hl⟩ := (hF p (List.mem_of_getElem? q)).ex
    refine ⟨f, fd, ps, hl, hm, F.kp, hb, fnD_weak (fnd_of (g := evSs (runF P n) p.body) hsm F Sc fun X e1 e2 e3 e4 e5 e6 e7 e8 c => ?_) fun ds S d S' z => ?_⟩
    · exact sndSs ⟨e6, e7, c, tab_ctx e1 e2 e3 e4 e5 (fns_ok hsm hF hg hbl hr n) hg hbl hr, fun x _ => e8 x⟩ p.body _ hc
    · unfold runF at z
      rw [q] at z
      dsimp only at z
      split at z
      · exact z
      · cases z
end
/-! ### the end -/
theorem law_callD {P : Program} {w : World} {K : PySem.W.Frag} {mg mb : Str → Option Value} {k : Nat} {fa a : Addr} {fd : FuncData} {x : Str} {g : List D → M D} {s₁ : Shared} {vs : List Value} {ns : List Int} {S' : Sto}
    (KX : K.In s₁.heap) (hns : s₁.heap.Ns mainGlobals mg) (hb : s₁.heap.Ns builtinsNs mb) (hbb : ∀ x : Str, x ≠ "__name__" → mb x = bootBuiltins x) (hlim : s₁.heap.NoLimit) (hg : s₁.gens = #[])
    (ha : s₁.heap.get? a = some { cls := .type "list", data := .seq vs.toArray }) (hi : IntsAre vs ns) (hl : ns.length ≤ sizeLine) (hr : Room k callerA) (hsm : ∃ o, s₁.heap.get? sysModules = some o ∧ o.cls = .type "dict")
    (F : ∀ base : Heap, K.In base → base.Ns mainGlobals mg → (∃ o, base.get? sysModules = some o) → FnD 0 P w K mg base k fa fd [x] g) (hbind : ∀ (s : Shared) (u : Value), K.In s.heap → BindsTo s fd ⟨[u], []⟩ [(x, u)])
    (hrun : g [.frz (ns.map D.int)] [] = .ok (.bl true) S') :
    codeAny (model P w) callerA (.call (.ref fa) ⟨[.ref a], []⟩) (fun r s' => r = .ok (.ret (.bool true)) ∧ OldK s₁.heap s'.heap ∧ s'.os = s₁.os ∧ AllBare s'.gens) s₁ := by
  have rv := vals_ints hi
  have lenV := hi.length
  have core : ∀ H : Hp, Only H → SqL K H a (ns.map V.int) → HOk P w H s₁.heap → (∀ b, H b ≠ none → b = a) → (H a ≠ none → K.lookup a = none) →
      codeAny (model P w) callerA (.call (.ref fa) ⟨[.ref a], []⟩) (fun r s' => r = .ok (.ret (.bool true)) ∧ OldK s₁.heap s'.heap ∧ s'.os = s₁.os ∧ AllBare s'.gens) s₁ := by
    intro H hO hS hok hA hK
    have base_of : ∀ {b : Addr} {o : Obj}, s₁.heap.get? b = some o → H b = none → (hidT s₁.heap H).get? b = some o := fun e n => hidT_get e n
    have noA : ∀ {b : Addr} {o : Obj}, s₁.heap.get? b = some o → o.cls ≠ .type "list" → H b = none := fun {b o} e d => by
      cases q : H b with
      | none => rfl
      | some u =>
        have e' : b = a := hA b (by rw [q]; simp)
        subst e'
        rw [ha] at e; cases e
        exact absurd rfl d
    have noD : ∀ {b : Addr} {o : Obj} {es : Array DictEntry} {ep : Nat}, s₁.heap.get? b = some o → o.data = .dict es ep → H b = none := fun {b o es ep} e d => by
      cases q : H b with
      | none => rfl
      | some u =>
        have e' : b = a := hA b (by rw [q]; simp)
        subst e'
        rw [ha] at e; cases e
        have d' : Data.seq vs.toArray _ = Data.dict es ep := d
        cases d'
    have nsK : ∀ {b : Addr} {m : Str → Option Value}, s₁.heap.Ns b m → (hidT s₁.heap H).Ns b m := fun {b m} ⟨o, es, ep, e, d, r⟩ => ⟨o, es, ep, base_of e (noD e d), d, r⟩
    have hKb : K.In (hidT s₁.heap H) := fun b o e => base_of (KX b o e) (by
      cases q : H b with
      | none => rfl
      | some u =>
        have e' : b = a := hA b (by rw [q]; simp)
        subst e'
        rw [hK (by rw [q]; simp)] at e; cases e)
    have hM : Mod K mg (hidT s₁.heap H) := ⟨hKb, nsK hns, ⟨mb, nsK hb, hbb⟩, let ⟨mc, h1, h2⟩ := hlim; ⟨mc, nsK h1, h2⟩⟩
    have e0 : Env0 P w K mg (hidT s₁.heap H) callerA [] s₁ H := ⟨rfl, hM, fun b o e => of_hidT e, Nat.le_of_eq (hidT_size _ _), trivial, fun b hb => absurd (show b ∈ ([] : List Addr) from hb) (by simp), hok, .of_eq hg⟩
    have hs : ∃ o, (hidT s₁.heap H).get? sysModules = some o := by
      obtain ⟨o, e1, e2⟩ := hsm
      exact ⟨o, base_of e1 (noA e1 (by rw [e2]; decide))⟩
    have hfz : Rep K [] H (.frz (ns.map D.int)) (.ref a) := by
      refine .frz (vs := ns.map V.int) ?_ (Reps.ints ns)
      rcases hS with hS | hS
      · exact .inl ⟨hS, by simp⟩
      · exact .inr hS
    have st0 : StoOk K [] H [] := ⟨rfl, .nil, fun n o a' e => by simp at e⟩
    refine codeAny_mono ((F _ hKb (nsK hns) hs) callerA [] s₁ H ⟨[.ref a], []⟩ [.ref a] [.ref a] [.frz (ns.map D.int)] [] [] _ _ hr rfl (Nat.zero_le _) e0 (hbind s₁ (.ref a) KX) (.cons rfl .nil) (.cons hfz .nil) rfl st0 hrun) fun r s' h => ?_
    obtain ⟨u, v, η', H', e1, _, os, bare, un, hok', _, _, r', q⟩ := h
    cases q
    obtain rfl : u = Value.bool true := r'
    refine ⟨e1, OldK.of_keep fun b o e => ?_, os, bare⟩
    cases q : H b with
    | none => exact un.keep b o e q (by intro z; exact absurd (show b ∈ ([] : List Addr) from z) (by simp)) (by simp)
    | some u =>
      rcases hO b with z | ⟨ob, xs, z⟩
      · rw [q] at z; cases z
      · have z2 := un.frzs b ob _ z
        obtain ⟨e1, _⟩ := hok b _ z
        obtain ⟨e2, _⟩ := hok' b _ z2
        rw [e] at e1; cases e1
        exact e2
  cases hk : K.lookup a with
  | some o =>
    have e := KX a o hk
    rw [ha] at e
    cases e
    refine core (fun _ => none) (fun _ => .inl rfl) (.inr ⟨_, vs.toArray, _, hk, rfl, rfl, rfl, by rw [List.size_toArray, lenV]; exact hl, by simpa using rv⟩) (fun b u z => by have z' : (none : Option HO) = some u := z; cases z') (fun b z => absurd rfl z) fun z => absurd rfl z
  | none =>
    refine core (fun b => if b = a then some (.frz { cls := .type "list", data := .seq vs.toArray } (.lst (ns.map V.int))) else none) (fun b => ?_) (.inl (.inr ⟨{ cls := .type "list", data := .seq vs.toArray }, if_pos rfl⟩)) (fun b u z => ?_) (fun b z => ?_) fun _ => hk
    · by_cases hb : b = a
      · exact .inr ⟨_, _, if_pos hb⟩
      · exact .inl (if_neg hb)
    · by_cases hb : b = a
      · have z' := (if_pos hb).symm.trans z
        cases z'
        subst hb
        exact ⟨ha, by rw [List.length_map]; exact hl, vs, _, rv, ha⟩
      · have z' := (if_neg hb).symm.trans z
        cases z'
    · by_cases hb : b = a
      · exact hb
      · exact absurd (if_neg hb) z
/-- the goal that the head leaves, from the law's run in plain Lean -/
theorem walk_ofD {l : PySem.W.OpenLaw} {n k : Nat} {q : Program} {loose : List Str} {XP : (Str → Option Value) → Heap → Prop} {YP : World → Heap → Prop} {d : DefRec} {x : Str}
    (hn : l.most = some n) (hn2 : n ≤ sizeLine) (hdf : d.params.defaults = []) (hr : Room k callerA)
    (F : ∀ (w : World) (mg : Str → Option Value) (fa : Addr) (h : Heap), YP w h → h.Ns mainGlobals mg → mg d.name = some (.ref fa) →
      ∃ (K : PySem.W.Frag) (fd : FuncData) (g : List D → M D), K.In h ∧ (∃ o, h.get? sysModules = some o ∧ o.cls = .type "dict") ∧ (∀ (s : Shared) (u : Value), K.In s.heap → BindsTo s fd ⟨[u], []⟩ [(x, u)]) ∧
        (∀ (ns : List Int), ns.length ≤ n → ∃ S', g [.frz (ns.map D.int)] [] = .ok (.bl true) S') ∧
        ∀ base : Heap, K.In base → base.Ns mainGlobals mg → (∃ o, base.get? sysModules = some o) → FnD 0 l.prog w K mg base k fa fd [x] g) :
    PySem.W.WalkO q loose XP YP l.row.toRowW d [] (fun f vs => PySem.call f vs) := by
  refine Att.attach_call hn hdf fun w s₀ s₁ mg mb fa o pm cd doc a vs ns G Y ho hd hcd hmg hobj hints hlen hg => ?_
  obtain ⟨K, fd, g, KX, hsm, hb, hrun, hF⟩ := F w mg fa _ Y G.T.g hmg
  obtain ⟨S', hS⟩ := hrun ns hlen
  exact law_callD KX G.T.g G.T.b G.T.builtins G.T.nolimit hg hobj hints (Nat.le_trans hlen hn2) hr hsm hF hb hS
end MP

/-! MP23: the head: what the top leaves, read by one Bool. -/
namespace MP
open PySem L2 PyProof.Rows
def argsB (p : Arguments) : Bool := match p with
  | ⟨[], _, none, [], [], none, []⟩ => true
  | _ => false
def valNone : Value → Bool
  | .none => true
  | _ => false
def fnB (K : PySem.W.Frag) (T : Tab) (p : FDef) : Bool := match PySem.W.nsIn K mainGlobals p.name with
  | some (some (.ref f)) => (match K.lookup f with
    | some ⟨_, _, .func fd, _⟩ => (match fd.body with
      | .stmts body => fd.name == p.name && fd.qualname == p.name && fd.globals == mainGlobals && fd.closure.isEmpty && valNone fd.defaults && fd.builtins == builtinsNs && PySem.W.codeIn K fd.code p.name && argsB fd.params &&
          fd.params.args.map (·.arg) == p.N.take p.np && decide (p.np ≤ p.N.length) && decide (p.np ≤ 6) && decide (1 ≤ p.np) && C8.scC p.N (p.N.take p.np) fd.scope && chkSs T p.N fd.scope p.body body
      | _ => false)
    | _ => false)
  | _ => false
/-- how the arguments of a def of these names bind -/
def BindOk (ps : List Str) : Prop := ∀ (x q : Str) (args : List Arg) (body : List Stmt) (scope : Scope) (kV doc pm cdv ct : Value) (an : Option Addr) (us : List Value), args.map (·.arg) = ps → us.length = ps.length →
  bindArgs (PySem.W.fnOf x q ⟨[], args, none, [], [], none, []⟩ body scope .none kV doc pm an cdv ct) ⟨us, []⟩ = pure (ps.zip us)
theorem fnB_ok {K : PySem.W.Frag} {h : Heap} {mg : Str → Option Value} {T : Tab} {p : FDef} (hB : BindOk (p.N.take p.np)) (KX : K.In h) (G : h.Ns mainGlobals mg) (e : fnB K T p = true) : FFact K mg T p := by
  unfold fnB at e
  split at e <;> try cases e
  rename_i f q1
  split at e <;> try cases e
  rename_i oc od fd osl q2
  split at e <;> try cases e
  rename_i body q3
  obtain ⟨e, h14⟩ := and2 e
  obtain ⟨e, h13⟩ := and2 e
  obtain ⟨e, h12⟩ := and2 e
  obtain ⟨e, h11⟩ := and2 e
  obtain ⟨e, h10⟩ := and2 e
  obtain ⟨e, h9⟩ := and2 e
  obtain ⟨e, h8⟩ := and2 e
  obtain ⟨e, h7⟩ := and2 e
  obtain ⟨e, h6⟩ := and2 e
  obtain ⟨e, h5⟩ := and2 e
  obtain ⟨e, h4⟩ := and2 e
  obtain ⟨e, h3⟩ := and2 e
  obtain ⟨h1, h2⟩ := and2 e
  obtain ⟨nm, qn, params, fb, scope, gl, clo, dfl, kw, doc, pm, an, code, ct, bl⟩ := fd
  have en : nm = p.name := eq_of_beq h1
  have eq : qn = p.name := eq_of_beq h2
  subst en eq
  obtain rfl : gl = mainGlobals := eq_of_beq h3
  obtain rfl : clo = [] := List.isEmpty_iff.mp h4
  obtain rfl : dfl = .none := by cases dfl <;> first | rfl | exact (Bool.false_ne_true h5).elim
  obtain rfl : bl = builtinsNs := eq_of_beq h6
  obtain rfl : fb = .stmts body := q3
  obtain ⟨po, args, va, ko, kd, ka, df⟩ := params
  have hargs : po = [] ∧ va = none ∧ ko = [] ∧ kd = [] ∧ ka = none ∧ df = [] := by
    cases po <;> cases va <;> cases ko <;> cases kd <;> cases ka <;> cases df <;> first | exact ⟨rfl, rfl, rfl, rfl, rfl, rfl⟩ | exact (Bool.false_ne_true h8).elim
  obtain ⟨rfl, rfl, rfl, rfl, rfl, rfl⟩ := hargs
  have hps : args.map (·.arg) = p.N.take p.np := eq_of_beq h9
  have hlen : args.length = p.np := by
    have := congrArg List.length hps
    rw [List.length_map, List.length_take] at this
    have := of_decide_eq_true h10
    omega
  have hr : (p.N.take p.np).length = p.np := by rw [← hps, List.length_map, hlen]
  refine ⟨f, _, p.N.take p.np, mkDef p.name ⟨[], args, none, [], [], none, []⟩ body scope, ⟨⟨oc, od, kw, doc, pm, an, code, ct, osl, rfl, q2, h7⟩, ?_⟩, C8.fnScope_by h13, PySem.W.mg_of KX G q1, ?_, h14, hr⟩
  · show (match K.lookup f with | some ⟨_, _, .func _, _⟩ => true | some ⟨_, _, .cls _, _⟩ => PySem.W.specialIn K (.ref f) "__call__" == some (some (.builtin "type.__call__")) | _ => false) = true
    rw [q2]
  · exact Binds.all fun us hl => hB _ _ args body scope kw doc pm code ct an us hps hl
/-! ### constants -/
mutual
def relC (K : PySem.W.Frag) : D → Value → Bool
  | .non, .none => true
  | .bl a, .bool b => a == b
  | .int i, .int j _ => i == j
  | .str x, .str y _ => x == y
  | .tup ds, .ref a => (match K.lookup a with
    | some ⟨.type c, _, .seq its _, _⟩ => c == "tuple" && decide (its.size ≤ sizeLine) && relCs K ds its.toList
    | _ => false)
  | _, _ => false
def relCs (K : PySem.W.Frag) : List D → List Value → Bool
  | [], [] => true
  | d :: ds, u :: us => relC K d u && relCs K ds us
  | _, _ => false
end
mutual
theorem relC_ok {K : PySem.W.Frag} : ∀ (d : D) (u : Value), relC K d u = true → ∃ v, RelV v u ∧ ∀ η H, Rep K η H d v
  | .non, u, h => by cases u <;> first | exact ⟨.non, rfl, fun _ _ => .non⟩ | exact (Bool.false_ne_true h).elim
  | .bl a, u, h => by
    cases u <;> first
      | (obtain rfl := eq_of_beq (show (a == _) = true from h); exact ⟨.bl a, rfl, fun _ _ => .bl _⟩)
      | exact (Bool.false_ne_true h).elim
  | .int i, u, h => by
    cases u <;> first
      | (obtain rfl := eq_of_beq (show (i == _) = true from h); exact ⟨.int i, ⟨_, rfl⟩, fun _ _ => .int _⟩)
      | exact (Bool.false_ne_true h).elim
  | .str x, u, h => by
    cases u <;> first
      | (obtain rfl := eq_of_beq (show (x == _) = true from h); exact ⟨.str x, ⟨_, rfl⟩, fun _ _ => .str _⟩)
      | exact (Bool.false_ne_true h).elim
  | .tup ds, u, h => by
    cases u <;> try exact (Bool.false_ne_true h).elim
    rename_i a
    have h : (match K.lookup a with
      | some ⟨.type c, _, .seq its _, _⟩ => c == "tuple" && decide (its.size ≤ sizeLine) && relCs K ds its.toList
      | _ => false) = true := h
    split at h <;> try cases h
    rename_i c od its n sl q
    obtain ⟨h, h3⟩ := and2 h
    obtain ⟨h1, h2⟩ := and2 h
    obtain rfl := eq_of_beq h1
    obtain ⟨vs, r, hv⟩ := relCs_ok ds its.toList h3
    exact ⟨.ref a, rfl, fun η H => .tup (.inr ⟨_, its, n, q, rfl, rfl, of_decide_eq_true h2, r⟩) (hv η H)⟩
  | .lst ds, u, h => by cases u <;> exact (Bool.false_ne_true h).elim
  | .frz ds, u, h => by cases u <;> exact (Bool.false_ne_true h).elim
  | .dic ds, u, h => by cases u <;> exact (Bool.false_ne_true h).elim
  | .ref ds, u, h => by cases u <;> exact (Bool.false_ne_true h).elim
theorem relCs_ok {K : PySem.W.Frag} : ∀ (ds : List D) (us : List Value), relCs K ds us = true → ∃ vs, Vals vs us ∧ ∀ η H, Reps K η H ds vs
  | [], us, h => by cases us <;> first | exact ⟨[], .nil, fun _ _ => .nil⟩ | exact (Bool.false_ne_true h).elim
  | d :: ds, us, h => by
    cases us with
    | nil => exact (Bool.false_ne_true h).elim
    | cons u us =>
      obtain ⟨h1, h2⟩ := and2 (show (relC K d u && relCs K ds us) = true from h)
      obtain ⟨v, r1, w1⟩ := relC_ok d u h1
      obtain ⟨vs, r2, w2⟩ := relCs_ok ds us h2
      exact ⟨v :: vs, .cons r1 r2, fun η H => .cons (w1 η H) (w2 η H)⟩
end
def glC (K : PySem.W.Frag) (p : Str × D) : Bool := match PySem.W.nsIn K mainGlobals p.1 with
  | some (some u) => relC K p.2 u
  | _ => false
theorem glC_ok {K : PySem.W.Frag} {h : Heap} {mg : Str → Option Value} {p : Str × D} (KX : K.In h) (G : h.Ns mainGlobals mg) (e : glC K p = true) : GFact K mg p := by
  unfold glC at e
  split at e <;> try cases e
  rename_i u q
  obtain ⟨v, r, hv⟩ := relC_ok p.2 u e
  exact ⟨v, u, PySem.W.mg_of KX G q, r, hv⟩
def blC (K : PySem.W.Frag) (x : Str) : Bool := match PySem.W.nsIn K mainGlobals x with
  | some none => true
  | _ => false
theorem blC_ok {K : PySem.W.Frag} {h : Heap} {mg : Str → Option Value} {x : Str} (KX : K.In h) (G : h.Ns mainGlobals mg) (e : blC K x = true) : mg x = none := by
  unfold blC at e
  split at e <;> try cases e
  rename_i q
  exact PySem.W.mg_none_of KX G q
/-! ### all of it -/
def topC (P : List FDef) (gls : List (Str × D)) (rp : Bool) (K : PySem.W.Frag) : Bool := P.all (fnB K (tabOf P gls rp)) && gls.all (glC K) && bltNames.all (blC K)
def sysC (g : Addr → Option Obj) : Bool := match g sysModules with
  | some ⟨.type c, _, _, _⟩ => c == "dict"
  | _ => false
def obsM (n : Nat) (P : List FDef) (gls : List (Str × D)) (rp : Bool) (g : Addr → Option Obj) : Bool := topC P gls rp (He.frG g (He.asG g n)) && sysC g
def SysOk (h : Heap) : Prop := ∃ o, h.get? sysModules = some o ∧ o.cls = .type "dict"
theorem sysC_ok {h : Heap} (e : sysC h.get? = true) : SysOk h := by
  unfold sysC at e
  split at e <;> try cases e
  rename_i c _ _ _ q
  exact ⟨_, q, by rw [eq_of_beq e]⟩
def hookM (n : Nat) (P : List FDef) (gls : List (Str × D)) (rp : Bool) : PySem.W.Hook where
  α := Bool
  obs := fun s => obsM n P gls rp s.heap.get?
  val := fun _ => true
  says := fun _ h => ∃ K : PySem.W.Frag, K.In h ∧ topC P gls rp K = true ∧ SysOk h
  of := fun _ _ e => ⟨_, He.frG_in, (and2 e).1, sysC_ok (and2 e).2⟩
  keeps := fun _ _ _ ⟨K, hK, c, o, e1, e2⟩ k => ⟨K, PySem.W.Frag.In.keeps hK k, c, o, k _ _ e1, e2⟩
def obM (n : Nat) (P : List FDef) (gls : List (Str × D)) (rp : Bool) (s : PySem.W.SharedT) : Bool := obsM n P gls rp (HandSHeadRun.getT s)
theorem obM_eq (n : Nat) (P : List FDef) (gls : List (Str × D)) (rp : Bool) (s : PySem.W.SharedT) : obM n P gls rp s = (hookM n P gls rp).obs s.abs := by
  have e : HandSHeadRun.getT s = s.abs.heap.get? := funext (HandSHeadRun.getT_eq s)
  unfold obM
  rw [e] <;> rfl
section
variable {Pg : Program} {w : World} {K : PySem.W.Frag} {mg : Str → Option Value} {h : Heap} {P : List FDef} {gls : List (Str × D)} {rp : Bool}
theorem topC_ok (hB : ∀ p ∈ P, BindOk (p.N.take p.np)) (KX : K.In h) (G : h.Ns mainGlobals mg) (e : topC P gls rp K = true) : (∀ p ∈ P, FFact K mg (tabOf P gls rp) p) ∧ (∀ p ∈ gls, GFact K mg p) ∧ ∀ x ∈ bltNames, mg x = none := by
  obtain ⟨e, e3⟩ := and2 e
  obtain ⟨e1, e2⟩ := and2 e
  exact ⟨fun p hp => fnB_ok (hB p hp) KX G (List.all_eq_true.mp e1 p hp), fun p hp => glC_ok KX G (List.all_eq_true.mp e2 p hp), fun x hx => blC_ok KX G (List.all_eq_true.mp e3 x hx)⟩
end
end MP

/-! MP24: the first token of a run. A law is entered with no word of its tokens; behind its first statement one has been given. -/
namespace MP
open PySem L2 PyProof.Rows
section
variable {X : Cx} {pins : List (Addr × Obj)} {η : List Addr} {H : Hp} {s : Shared}
theorem Out.seq2 {τ τ' : Nat} {α β γ δ : Type} {rel : L2.St → List Addr → Hp → α → β → Prop} {rel2 : L2.St → List Addr → Hp → γ → δ → Prop} {m : M α} {f : α → M γ} {S : Sto} {t1 : Sem β} {W : Wp δ} {W2 : β → Wp δ}
    (hT : ∀ Q E, wpAny (model X.prog X.w) X.A t1 (fun u s' => W2 u Q E s') E s → W Q E s) (h1 : Out τ X pins η H rel (m S) (sem X t1) s)
    (h2 : ∀ u s1 σ1 η1 H1 a S1, m S = .ok a S1 → τ ≤ s1.toks → Inv X pins σ1 H1 s1 → Grow η H η1 H1 → StoOk X.K η1 H1 S1 → rel σ1 η1 H1 a u → Out τ' X pins η H rel2 (f a S1) (W2 u) s1) :
    Out τ' X pins η H rel2 ((m >>= f) S) W s := by
  show Out τ' X pins η H rel2 (match m S with | .ok a S' => f a S' | .bad => .bad) W s
  cases q : m S with
  | bad => trivial
  | ok a S1 =>
    rw [q] at h1
    show Out τ' X pins η H rel2 (f a S1) W s
    cases q2 : f a S1 with
    | bad => trivial
    | ok c S2 =>
      intro E
      refine hT _ E (wpAny_mono (h1 E) (fun u s1 z => ?_) fun _ _ z => z)
      obtain ⟨tk, σ1, η1, H1, I1, g1, st1, r1⟩ := z
      have k := h2 u s1 σ1 η1 H1 a S1 q tk I1 g1 st1 r1
      rw [q2] at k
      exact k E
end
def PES (X : Cx) (e : Expr) (g : Env → M D) : Prop := ∀ (pins : List (Addr × Obj)) (s : Shared) (σ : L2.St) (H : Hp) (ρ : Env) (η : List Addr) (S : Sto),
  Inv X pins σ H s → SRel X.K η H σ ρ → StoOk X.K η H S → Out 1 X pins η H (relV X.K σ) (g ρ S) (sem X (eval e X.env)) s
def PSS (X : Cx) (st : Stmt) (g : Env → M Fl) : Prop := ∀ (pins : List (Addr × Obj)) (s : Shared) (σ : L2.St) (H : Hp) (ρ : Env) (η : List Addr) (S : Sto),
  Inv X pins σ H s → SRel X.K η H σ ρ → StoOk X.K η H S → Out 1 X pins η H (relF X.K) (g ρ S) (sem X (exec st X.env)) s
def PSSs (X : Cx) (sts : List Stmt) (g : Env → M Fl) : Prop := ∀ (pins : List (Addr × Obj)) (s : Shared) (σ : L2.St) (H : Hp) (ρ : Env) (η : List Addr) (S : Sto),
  Inv X pins σ H s → SRel X.K η H σ ρ → StoOk X.K η H S → Out 1 X pins η H (relF X.K) (g ρ S) (sem X (execs sts X.env)) s
def FnS (P : Program) (w : World) (K : PySem.W.Frag) (mg : Str → Option Value) (base : Heap) (n : Nat) (f : Addr) (fd : FuncData) (ps : List Str) (g : List D → M D) : Prop :=
  ∀ (A : Around) (outer : List PySem.Env) (s : Shared) (H : Hp) (args : Args) (us : List Value) (vs : List V) (ds : List D) (η : List Addr) (S : Sto) (d : D) (S' : Sto), Room n A → A.guards = some [] → Env0 P w K mg base A outer s H → BindsTo s fd args (ps.zip us) → Vals vs us →
    Reps K η H ds vs → ds.length = ps.length → StoOk K η H S → g ds S = .ok d S' →
    codeAny (model P w) A (.call (.ref f) args) (fun r s' => ∃ u v η' H', r = .ok (.ret u) ∧ 1 ≤ s'.toks ∧ s'.os = s.os ∧ PyProof.Rows.AllBare s'.gens ∧ Un (frs outer) [] H H' s.heap s'.heap ∧ HOk P w H' s'.heap ∧ Grow η H η' H' ∧ StoOk K η' H' S' ∧ RelV v u ∧ Rep K η' H' d v) s
section
variable {X : Cx} {e : Expr} {pos : Pos} {n : Nat}
theorem pes_int {i : Int} {j : Nat} : PES X (.Constant (.int i) j pos) (fun _ => pure (.int i)) := fun pins s σ H ρ η S I sr st E =>
  wpAny_Constant_int ⟨Nat.le_add_left 1 _, σ, η, H, I.tok _, .refl _ _, st, rfl, .int i, ⟨_, rfl⟩, .int i⟩
theorem pes_slice {m : Bool} {ge gc : Env → M D} {c : Expr} {p2 : Pos} (he : PD 0 X e ge) (hc : PES X c gc) :
    PES X (.Subscript e (.Slice none (some c) none p2) pos) (fun ρ => ge ρ >>= fun d => (pure none : M (Option Int)) >>= fun l => (gc ρ >>= asI) >>= fun h => sliceE m d l h) := by
  intro pins s σ H ρ η S I sr st
  refine Out.seq2 (t1 := eval e X.env) (W2 := fun v Q E s1 => wpAny (model X.prog X.w) X.A (eval c X.env) (fun vu s3 =>
    wpAny (model X.prog X.w) X.A (PyProof.Rows.subscriptTail e (.Slice none (some c) none p2) v (.ref s3.heap.objs.size)) Q E { s3 with heap := s3.heap.push { cls := .type "slice", data := .fields #[.none, vu, .none] } }) E s1)
    (fun Q E h => PyProof.Rows.Subscript_ (wpAny_mono h (fun v s1 z => wpAny_Slice (by rw [evalPart_none]; exact wpAny_pure (by rw [evalPart_some]; exact wpAny_mono z (fun vu s3 z3 => wpAny_pure z3) fun _ _ z => z))) fun _ _ z => z)) (he pins s σ H ρ η S I (Nat.zero_le _) sr st) ?_
  rintro v s1 σ1 η1 H1 d S1 _ tk1 I1 g1 st1 ⟨rfl, x, rx, rd⟩
  refine Out.back (fun Q Q' E s hQ w => wpAny_mono w (fun vl s2 z => wpAny_mono z hQ fun _ _ z => z) fun _ _ z => z) g1 ?_
  show Out 1 X pins η1 H1 _ (((gc ρ >>= asI) >>= fun h => sliceE m d none h) S1) _ s1
  have assoc : ((gc ρ >>= asI) >>= fun h => sliceE m d none h) S1 = (gc ρ >>= fun e => asI e >>= fun h => sliceE m d none h) S1 := by
    simp only [bind_run]
    cases gc ρ S1 <;> rfl
  rw [assoc]
  refine Out.seq2 (t1 := eval c X.env) (W2 := fun vu Q E s3 => wpAny (model X.prog X.w) X.A (PyProof.Rows.subscriptTail e (.Slice none (some c) none p2) v (.ref s3.heap.objs.size)) Q E { s3 with heap := s3.heap.push { cls := .type "slice", data := .fields #[.none, vu, .none] } }) (fun Q E h => h) (hc pins s1 σ1 H1 ρ η1 S1 I1 (sr.grow g1) st1) ?_
  rintro vu s3 σ3 η3 H3 hd S3 _ tk3 I3 g3 st3 ⟨rfl, xu, ru, rdu⟩
  cases rdu with
  | int i =>
    obtain ⟨t, rfl⟩ := ru
    have I4 : Inv X pins σ3 H3 { s3 with heap := s3.heap.push { cls := .type "slice", data := .fields #[.none, .int i t, .none] } } := I3.kept (t' := s3.toks) fun b ob q => Heap.get?_push_of_some _ q
    show Out 1 X pins η1 H1 _ (sliceE m d none (some i) S3) _ s3
    cases q : sliceE m d none (some i) S3 with
    | bad => trivial
    | ok d' S' =>
      have key : Out 1 X pins η3 H3 (relV X.K σ3) (.ok d' S') (sem X (PyProof.Rows.subscriptTail e (.Slice none (some c) none p2) v (.ref s3.heap.objs.size))) { s3 with heap := s3.heap.push { cls := .type "slice", data := .fields #[.none, .int i t, .none] } } := by
        refine out_ok tk3 fun E => ?_
        obtain ⟨T, id, hT, ht, hg⟩ := sl_okD (E := E) I4 st3 rx (rd.grow g3) (Heap.IsSliceOf.new ..) .none (.int i t) q
        exact PyProof.Rows.tail_any (ops := [.ref s3.heap.objs.size, v]) ht hT hg (by with_unfolding_all rfl)
      have key2 := Out.back (mono_sem _) g3 key
      exact fun E => key2 E
  | _ => trivial
theorem pes_fnT {x : Str} {T : String} {f : List D → M D} {g : Env → M D} {p : Pos} (ho : OpL 1 X (fun us => call (.type T) us) f) (hg : Gl X x) (hm : X.mg x = none) (hv : bootBuiltins x = some (.type T)) (ha : PES X e g) (hn : x ≠ "__name__") (hdb : (x == ("__debug__" : Str)) = false)
    (he : starEach [e] X.env = (false, eval e X.env) :: starEach [] X.env) : PES X (.Call (.Name x p) [e] [] pos) (fun ρ => (g ρ >>= fun d => (pure [] : M (List D)) >>= fun ds => pure (d :: ds)) >>= f) := by
  intro pins s σ H ρ η S I sr st
  have assoc : ((g ρ >>= fun d => (pure [] : M (List D)) >>= fun ds => pure (d :: ds)) >>= f) S = (g ρ >>= fun d => f [d]) S := by
    simp only [bind_run]
    cases g ρ S <;> rfl
  show Out 1 X pins η H _ (((g ρ >>= fun d => (pure [] : M (List D)) >>= fun ds => pure (d :: ds)) >>= f) S) _ s
  rw [assoc]
  refine Out.seq2 (t1 := eval e X.env) (W2 := fun u => sem X (call (.type T) [u])) (fun Q E h => wpAny_Call_Name_kw (ld_blt I hg hm hv (PyProof.Rows.callWith_type1 (by rw [he]; exact Calls.spliced_cons (wpAny_mono h (fun u s1 z => Calls.spliced_nil z) fun _ _ z => z)) he rfl) hn hdb)) (ha pins s σ H ρ η S I sr st) ?_
  rintro u s1 σ1 η1 H1 d S1 q1 tk1 I1 g1 st1 ⟨rfl, x, rx, rd⟩
  exact Out.back (mono_sem _) g1 (ho pins s1 σ1 H1 η1 S1 [x] [u] [d] I1 tk1 st1 (.cons rx .nil) (.cons rd .nil))
theorem pss_set {i : Nat} {x : Str} {pos' : Pos} {g : Env → M D} (hN : X.N.Nodup) (hi : X.N[i]? = some x) (hx : Loc X.env.scope x) (hf : X.fn x = true ∨ X.env.scope.names.lookup x = some .local) (h : PES X e g) (hs : swapsWith e (some (.Name x pos')) pos.line X.env = pure false) :
    PSS X (.Assign [.Name x pos'] e pos) (fun ρ => g ρ >>= fun d => pure (.next (ρ.set i (some d)))) := by
  intro pins s σ H ρ η S I sr st'
  refine Out.seq2 (t1 := eval e X.env) (W2 := fun v Q E s1 => wpAny (model X.prog X.w) X.A (storeName X.env x v) (fun _ => Q .next) E s1) (fun Q E h => wpAny_Assign_Name h hs) (h pins s σ H ρ η S I sr st') ?_
  rintro v s1 σ1 η1 H1 d S1 _ tk1 I1 g1 st1 ⟨rfl, y, ry, rd⟩
  intro E
  refine wpAny_mono (store_out (β := Unit) (b := ()) I1 tk1 (sr.grow g1) st1 hN hi hx hf ry rd E) (fun _ s2 z => ?_) fun _ _ z => z
  obtain ⟨tk2, σ2, η2, H2, I2, g2, st2, r2⟩ := z
  exact ⟨tk2, σ2, η2, H2, I2, g1.trans g2, st2, r2⟩
theorem psss_cons {st : Stmt} {rest : List Stmt} {g1 g2 : Env → M Fl} (h1 : PSS X st g1) (h2 : PSDs 1 X rest g2) : PSSs X (st :: rest) (fun ρ => g1 ρ >>= thenF g2) := by
  intro pins s σ H ρ η S I sr st'
  refine Out.seq2 (t1 := exec st X.env) (W2 := fun f Q E s' => match f with | .next => wpAny (model X.prog X.w) X.A (execs rest X.env) Q E s' | f => Q f s') (fun Q E h => wpAny_execs_cons h) (h1 pins s σ H ρ η S I sr st') ?_
  intro f s1 σ1 η1 H1 fl S1 _ tk1 I1 g1 st1 r1
  cases fl with
  | next ρ1 =>
    cases f with
    | next => exact Out.back (mono_sem _) g1 (h2 pins s1 σ1 H1 ρ1 η1 S1 I1 tk1 r1 st1)
    | _ => exact r1.elim
  | ret d =>
    cases f with
    | ret u => exact fun E => ⟨tk1, σ1, η1, H1, I1, g1, st1, r1⟩
    | _ => exact r1.elim
  | brk d =>
    cases f with
    | brk => exact fun E => ⟨tk1, σ1, η1, H1, I1, g1, st1, r1⟩
    | _ => exact r1.elim
  | cont d =>
    cases f with
    | cont => exact fun E => ⟨tk1, σ1, η1, H1, I1, g1, st1, r1⟩
    | _ => exact r1.elim
theorem pes_call {x y : Str} {f : Addr} {fd : FuncData} {ps : List Str} {g : List D → M D} {i : Nat} {p p1 : Pos} (F : FnS X.prog X.w X.K X.mg X.base n f fd ps g) (c : Ck n X) (hg : Gl X x) (hm : X.mg x = some (.ref f)) (hk : PySem.W.keepIn X.K (.ref f) = true) (hb : Binds X.K fd ps [])
    (hv : PD 0 X (.Name y p1) (fun ρ => getV ρ i)) (hl : ps.length = 1) (hdb : (x == ("__debug__" : Str)) = false) :
    PES X (.Call (.Name x p) [.Name y p1] [] pos) (fun ρ => (getV ρ i >>= fun d => (pure [] : M (List D)) >>= fun ds => pure (d :: ds)) >>= g) := by
  intro pins s σ H ρ η S I sr st
  have assoc : ((getV ρ i >>= fun d => (pure [] : M (List D)) >>= fun ds => pure (d :: ds)) >>= g) S = (getV ρ i >>= fun d => g [d]) S := by
    simp only [bind_run]
    cases getV ρ i S <;> rfl
  show Out 1 X pins η H _ (((getV ρ i >>= fun d => (pure [] : M (List D)) >>= fun ds => pure (d :: ds)) >>= g) S) _ s
  rw [assoc]
  have he : starEach [.Name y p1] X.env = (false, eval (.Name y p1) X.env) :: starEach [] X.env := rfl
  refine Out.seq2 (t1 := eval (.Name y p1) X.env) (W2 := fun u Q E s1 => X.K.In s1.heap ∧ wpAny (model X.prog X.w) X.A (call (.ref f) [u]) Q E s1)
    (fun Q E h => wpAny_Call_Name_kw (ld_glob I hg hm (PySem.W.callWith_K (h₀ := X.base) I.ok.mod.kin hk (by rw [he]; exact Calls.spliced_cons (wpAny_mono h (fun u s1 z => Calls.spliced_nil z) fun _ _ z => z)) he rfl) hdb)) (hv pins s σ H ρ η S I (Nat.zero_le _) sr st) ?_
  rintro u s1 σ1 η1 H1 d S1 q1 tk1 I1 g1 st1 ⟨rfl, x, rx, rd⟩
  refine Out.via (fun Q E h => ⟨I1.kIn, h⟩) (Out.back (mono_sem _) g1 (Out.never fun d' S' q => ?_))
  have hbt := hb s1 [u] I1.kIn (by rw [List.append_nil]; exact hl.symm)
  rw [List.append_nil] at hbt
  refine wpAny_call (codeAny_mono (F X.A X.stack s1 H1 ⟨[u], []⟩ [u] [x] [d] η1 S1 d' S' c.rm c.gd I1.env0 hbt (.cons rx .nil) (.cons rd .nil) hl.symm st1 q) fun r s' z => ?_)
  obtain ⟨u', v', η', H', e, tk', os, bare, un, hok, g2, st2, ru, rp⟩ := z
  subst e
  exact ⟨tk', _, η', H', I1.call' (ch := []) os un hok bare (fun b hb => absurd hb (by simp)), g2, st2, rfl, v', ru, rp⟩
end
theorem fns_of {P : Program} {w : World} {K : PySem.W.Frag} {mg : Str → Option Value} {base : Heap} {k : Nat} {x qual : Str} {sm : Stmt} {f : Addr} {fd : FuncData} {N ps : List Str} {g : Env → M Fl} (hsm : ∃ o, base.get? sysModules = some o) (F : Fun K x qual sm f fd) (Sc : FnScope N ps (defScope sm))
    (hbody : ∀ X : Cx, X.prog = P → X.w = w → X.K = K → X.mg = mg → X.base = base → X.N = N → X.env.scope = defScope sm → (∀ x, X.fn x = true) → Ck k X → PSSs X (defBody sm) g) :
    FnS P w K mg base (k + 1) f fd ps (bodyD N.length g) := by
  obtain ⟨oc, od, kV, doc, pm, an, cdv, ct, osl, rfl, lk, hcd⟩ := F.ex
  intro A outer s H args us vs ds η S d S' hr hgd e0 hb rv rd hl st q
  have KX : K.In s.heap := e0.mod.kin.keeps fun b o e => (e0.bs b o e).1
  have lim : s.heap.NoLimit := e0.mod.nolimit.keeps fun b o e => (e0.bs b o e).1
  have hkind : ∀ y ∈ ps.zip us, (defScope sm).names.lookup y.1 = some .local ∨ ((defScope sm).names.lookup y.1 = some .cell ∧ ((cellsFrom (s.heap.objs.size + 1) (defScope sm).names []).lookup y.1).isSome = true) := fun ⟨m, v⟩ hy => by
    rcases Sc.par m (List.of_mem_zip hy).1 with z | z
    · exact .inl z
    · exact .inr ⟨z, PySem.W.cellsFrom_some _ _ _ (.inl z)⟩
  refine codeAny_call_function hr.depth (KX _ _ lk) rfl Sc.co Sc.gen rfl (PySem.W.codeRec_of KX hcd) (hb _ _ _ _ ?_)
  refine wpAny_mono (wpAny_newFunctionEnv_cells (Q := fun env s1 => env = newEnv (defScope sm) s.heap.objs.size mainGlobals (cellsFrom (s.heap.objs.size + 1) (defScope sm).names []) (qual ++ ".<locals>.") (some f) cdv none builtinsNs ∧
    InCallC s env.locals (bindL env.kindOf (ps.zip us) fun _ => none) env.cells (bindC env.kindOf (ps.zip us) fun _ => none) s1) Sc.kind hkind fun env he s1 y => ⟨he, y⟩) (fun env s1 z => ?_) fun _ _ z => z
  obtain ⟨he, y⟩ := z
  subst he
  refine ⟨lim.keeps y.toInCall.keep, codeAny_func ?_⟩
  have I := inv_start (CX := CX0) (E := E0) (cd := cdv) (f := f) (qual := qual) Sc hr.hd e0 (by rw [← rd.length]; exact hl) rv y
  have sr := srel_start (N := N) rd
  have hq : ∃ fl, g (startD N.length ds) S = .ok fl S' ∧ (fl = .ret d ∨ (∃ ρ, fl = .next ρ) ∧ d = .non) := by
    unfold bodyD at q
    rw [bind_run] at q
    cases z : g (startD N.length ds) S with
    | bad => rw [z] at q; cases q
    | ok fl S2 =>
      rw [z] at q
      cases fl with
      | ret d' => cases q; exact ⟨_, rfl, .inl rfl⟩
      | next ρ => cases q; exact ⟨_, rfl, .inr ⟨⟨ρ, rfl⟩, rfl⟩⟩
      | brk => cases q
      | cont => cases q
  obtain ⟨fl, hg, hfl⟩ := hq
  have key := hbody (cxOf CX0 P w K mg base N qual (defScope sm) f cdv A outer s H E0) rfl rfl rfl rfl rfl rfl rfl (fun _ => rfl) ⟨rfl, hgd, hr.deeper _, hsm, Sc.nd⟩ [] s1 (L2.start N vs) H (startD N.length ds) η S I sr st
  rw [hg] at key
  refine wpAny_mono (key (fun _ _ => False)) (fun fw s' z => ?_) fun _ _ z => z.elim
  obtain ⟨tk2, σ2, η2, H2, I2, g2, st2, r2⟩ := z
  rcases hfl with rfl | ⟨⟨ρ, rfl⟩, rfl⟩
  · cases fw with
    | ret u =>
      obtain ⟨v, ru, rp⟩ := r2
      exact ⟨u, v, η2, H2, rfl, tk2, I2.os, I2.bare, I2.base, I2.hok, g2, st2, ru, rp⟩
    | next => exact r2.elim
    | brk => exact r2.elim
    | cont => exact r2.elim
  · cases fw with
    | next => exact ⟨.none, .non, η2, H2, rfl, tk2, I2.os, I2.bare, I2.base, I2.hok, g2, st2, rfl, .non⟩
    | ret u => exact r2.elim
    | brk => exact r2.elim
    | cont => exact r2.elim
theorem FnS.plain {P : Program} {w : World} {K : PySem.W.Frag} {mg : Str → Option Value} {base : Heap} {n : Nat} {f : Addr} {fd : FuncData} {ps : List Str} {g : List D → M D} (F : FnS P w K mg base n f fd ps g) : FnD 0 P w K mg base n f fd ps g :=
  fun A outer s H args us vs ds η S d S' h1 h2 _ h4 h5 h6 h7 h8 h9 q => codeAny_mono (F A outer s H args us vs ds η S d S' h1 h2 h4 h5 h6 h7 h8 h9 q) fun r s' z => by
    obtain ⟨u, v, η', H', e, _, r⟩ := z
    exact ⟨u, v, η', H', e, Nat.zero_le _, r⟩
end MP

/-! MP25: a law whose first statement deals the deck. -/
namespace MP
open PySem L2 PyProof.Rows
section
variable {X : Cx} {n : Nat} {T : Tab} {φ : Nat → List D → M D} {N : List Str} {sc : Scope}
theorem deck_first (c : Ctx 1 X n T φ N sc (fun _ => true)) {i j : Nat} {m m' : Bool} {k : Int} {s : Stmt} (h : chkS T N sc (.set i (.fn .list m (.cons (.sl m' (.var j) .non (.som (.int k))) .nil))) s = true) :
    PSS X s (evS φ (.set i (.fn .list m (.cons (.sl m' (.var j) .non (.som (.int k))) .nil)))) := by
  cases s <;> try exact (Bool.false_ne_true h).elim
  rename_i ts v p
  cases ts with
  | nil => exact (Bool.false_ne_true h).elim
  | cons t ts =>
    cases t <;> try exact (Bool.false_ne_true h).elim
    rename_i y py
    cases ts with
    | cons _ _ => exact (Bool.false_ne_true h).elim
    | nil =>
      obtain ⟨h', h3⟩ := and2 (show (okNm N sc (fun _ => true) i y && chkE T N sc (fun _ => true) (.fn .list m (.cons (.sl m' (.var j) .non (.som (.int k))) .nil)) v && setB sc y py v) = true from h)
      obtain ⟨h1, h2⟩ := and2 h'
      clear h h'
      obtain ⟨n1, n2, n3⟩ := c.store h1
      cases v <;> try exact (Bool.false_ne_true h2).elim
      rename_i g as ks p1
      cases g <;> try exact (Bool.false_ne_true h2).elim
      rename_i x px
      cases as with
      | nil => exact (Bool.false_ne_true h2).elim
      | cons a as =>
        cases ks with
        | cons _ _ => exact (Bool.false_ne_true h2).elim
        | nil =>
          obtain ⟨g1, g3⟩ := and2 (show (x == Str.ofString (Fn.list).name && bltB sc x && chkL T N sc (fun _ => true) (.cons (.sl m' (.var j) .non (.som (.int k))) .nil) (a :: as)) = true from h2)
          obtain ⟨g1, g2⟩ := and2 g1
          obtain rfl := eq_of_beq g1
          obtain ⟨q1, q2⟩ := and2 (show (noStar a && chkE T N sc (fun _ => true) (.sl m' (.var j) .non (.som (.int k))) a && chkL T N sc (fun _ => true) .nil as) = true from g3)
          obtain ⟨q0, q1⟩ := and2 q1
          cases as with
          | cons _ _ => exact (Bool.false_ne_true q2).elim
          | nil =>
            have hs : swapsWith (.Call (.Name (Str.ofString Fn.list.name) px) [a] [] p1) (some (.Name y py)) p.line X.env = pure false := rfl
            have hsl : PES X a (evE φ (.sl m' (.var j) .non (.som (.int k)))) := by
              clear g3 g1 q2 h2 h3 hs
              cases a with
              | Subscript e1 sl p2 => ?_
              | _ => exact (Bool.false_ne_true q1).elim
              cases sl with
              | Slice lo hi stp p3 => ?_
              | _ => exact (Bool.false_ne_true q1).elim
              cases stp with
              | some _ => exact (Bool.false_ne_true q1).elim
              | none =>
                obtain ⟨r0, r3⟩ := and2 (show (chkE T N sc (fun _ => true) (.var j) e1 && chkO T N sc (fun _ => true) .non lo && chkO T N sc (fun _ => true) (.som (.int k)) hi) = true from q1)
                obtain ⟨r1, r2⟩ := and2 r0
                clear r0
                cases lo with
                | some _ => exact (Bool.false_ne_true r2).elim
                | none =>
                  cases hi with
                  | none => exact (Bool.false_ne_true r3).elim
                  | some ce =>
                    have r3 : chkE T N sc (fun _ => true) (.int k) ce = true := r3
                    cases ce with
                    | Constant cv ck cp => ?_
                    | _ => exact (Bool.false_ne_true r3).elim
                    cases cv with
                    | int k' => ?_
                    | _ => exact (Bool.false_ne_true r3).elim
                    obtain rfl := eq_of_beq (show (k == k') = true from r3)
                    cases e1 with
                    | Name nm np => ?_
                    | _ => exact (Bool.false_ne_true r1).elim
                    obtain ⟨s1, s3⟩ := and2 (show (N[j]? == some nm && visB sc nm && okName nm) = true from r1)
                    obtain ⟨s1, s2⟩ := and2 s1
                    exact pes_slice (pd_var (c.nm s1) (c.vis s2) (okName_1 s3).1 (okName_1 s3).2) pes_int
            exact pss_set c.ck.nd n1 n2 n3 (pes_fnT (T := "list") (Fn.okT .list m rfl) (c.blt g2).1 (c.blt g2).2 (Fn.boot .list) hsl (Fn.nn .list).1 (Fn.nn .list).2 (starEach_cons q0)) hs
theorem law_first (c : Ctx 1 X n T φ N sc (fun _ => true)) {i j kd : Nat} {s : Stmt} {pd : FI} (hk : T.fns[kd]? = some pd) (h : chkS T N sc (.set i (.call kd (.cons (.var j) .nil))) s = true)
    (hF : ∃ f fd ps, ps.length = 1 ∧ X.mg pd.name = some (.ref f) ∧ PySem.W.keepIn X.K (.ref f) = true ∧ Binds X.K fd ps [] ∧ FnS X.prog X.w X.K X.mg X.base n f fd ps (φ kd)) :
    PSS X s (evS φ (.set i (.call kd (.cons (.var j) .nil)))) := by
  cases s <;> try exact (Bool.false_ne_true h).elim
  rename_i ts v p
  cases ts with
  | nil => exact (Bool.false_ne_true h).elim
  | cons t ts =>
    cases t <;> try exact (Bool.false_ne_true h).elim
    rename_i y py
    cases ts with
    | cons _ _ => exact (Bool.false_ne_true h).elim
    | nil =>
      obtain ⟨h', h3⟩ := and2 (show (okNm N sc (fun _ => true) i y && chkE T N sc (fun _ => true) (.call kd (.cons (.var j) .nil)) v && setB sc y py v) = true from h)
      obtain ⟨h1, h2⟩ := and2 h'
      clear h h'
      obtain ⟨n1, n2, n3⟩ := c.store h1
      cases v <;> try exact (Bool.false_ne_true h2).elim
      rename_i g as ks p1
      cases g <;> try exact (Bool.false_ne_true h2).elim
      rename_i x px
      cases as with
      | nil => exact (Bool.false_ne_true h2).elim
      | cons a as =>
        cases ks with
        | cons _ _ => exact (Bool.false_ne_true h2).elim
        | nil =>
          obtain ⟨g1, g4⟩ := and2 (show ((match T.fns[kd]? with | some p => p.name == x && p.np == (a :: as).length | none => false) && glB sc x && okName x && chkL T N sc (fun _ => true) (.cons (.var j) .nil) (a :: as)) = true from h2)
          obtain ⟨g1, g3⟩ := and2 g1
          obtain ⟨g1, g2⟩ := and2 g1
          rw [hk] at g1
          obtain ⟨g1, g5⟩ := and2 (show (pd.name == x && pd.np == (a :: as).length) = true from g1)
          obtain rfl := eq_of_beq g1
          obtain ⟨q1, q2⟩ := and2 (show (noStar a && chkE T N sc (fun _ => true) (.var j) a && chkL T N sc (fun _ => true) .nil as) = true from g4)
          obtain ⟨q0, q1⟩ := and2 q1
          cases as with
          | cons _ _ => exact (Bool.false_ne_true q2).elim
          | nil =>
            clear g4 h2 q2 g5 h3 q0
            cases a with
            | Name nm np => ?_
            | _ => exact (Bool.false_ne_true q1).elim
            obtain ⟨s1, s3⟩ := and2 (show (N[j]? == some nm && visB sc nm && okName nm) = true from q1)
            obtain ⟨s1, s2⟩ := and2 s1
            obtain ⟨f, fd, ps, t1, t2, t3, t4, t5⟩ := hF
            exact pss_set c.ck.nd n1 n2 n3 (pes_call t5 c.ck (c.gl g2) t2 t3 t4 (pd_var (c.nm s1) (c.vis s2) (okName_1 s3).1 (okName_1 s3).2) t1 (okName_1 g3).1) rfl
end
section
variable {Pg : Program} {w : World} {K : PySem.W.Frag} {mg : Str → Option Value} {base : Heap} {P : List FDef} {gls : List (Str × D)}
theorem runF_weak {n k : Nat} {p : FDef} (q : P[k]? = some p) (ds : List D) (S : Sto) (d : D) (S' : Sto) (z : runF P (n + 1) k ds S = .ok d S') : bodyD p.N.length (evSs (runF P n) p.body) ds S = .ok d S' := by
  unfold runF at z
  rw [q] at z
  dsimp only at z
  split at z
  · exact z
  · cases z
theorem fnS_weak {n : Nat} {f : Addr} {fd : FuncData} {ps : List Str} {g g' : List D → M D} (F : FnS Pg w K mg base n f fd ps g) (h : ∀ ds S d S', g' ds S = .ok d S' → g ds S = .ok d S') : FnS Pg w K mg base n f fd ps g' :=
  fun A outer s H args us vs ds η S d S' h1 h2 h4 h5 h6 h7 h8 h9 q => F A outer s H args us vs ds η S d S' h1 h2 h4 h5 h6 h7 h8 h9 (h _ _ _ _ q)
theorem law_strict (hsm : ∃ o, base.get? sysModules = some o) (hF : ∀ p ∈ P, FFact K mg (tabOf P gls true) p) (hg : ∀ p ∈ gls, GFact K mg p) (hbl : ∀ x ∈ bltNames, mg x = none)
    {kd kl : Nat} {pd pl : FDef} (qd : P[kd]? = some pd) (ql : P[kl]? = some pl) (d1 : pd.np = 1) {i j i' j' : Nat} {m m' : Bool} {k : Int} {rd rl : Sxs}
    (hd : pd.body = .cons (.set i (.fn .list m (.cons (.sl m' (.var j) .non (.som (.int k))) .nil))) rd) (hl : pl.body = .cons (.set i' (.call kd (.cons (.var j') .nil))) rl) (n : Nat)
    {f : Addr} {fd : FuncData} {ps : List Str} {sm : Stmt} (F : Fun K pl.name pl.name sm f fd) (Sc : FnScope pl.N ps (defScope sm)) (hc : chkSs (tabOf P gls true) pl.N (defScope sm) pl.body (defBody sm) = true) :
    FnS Pg w K mg base (n + 2) f fd ps (runF P (n + 2) kl) := by
  have G1 := fun n => fns_ok (Pg := Pg) (w := w) (τ := 1) hsm hF hg hbl (fun _ => Nat.le_refl _) n
  have deck : ∃ f fd ps, ps.length = 1 ∧ mg pd.name = some (.ref f) ∧ PySem.W.keepIn K (.ref f) = true ∧ Binds K fd ps [] ∧ FnS Pg w K mg base (n + 1) f fd ps (runF P (n + 1) kd) := by
    obtain ⟨f, fd, ps, sm, F, Sc, hm, hb, hc, hlen⟩ := (hF pd (List.mem_of_getElem? qd)).ex
    refine ⟨f, fd, ps, hlen.trans d1, hm, F.kp, hb, fnS_weak (fns_of (g := evSs (runF P n) pd.body) hsm F Sc fun X e1 e2 e3 e4 e5 e6 e7 e8 c => ?_) (runF_weak qd)⟩
    rw [hd] at hc ⊢
    have cx : Ctx 1 X n (tabOf P gls true) (runF P n) pd.N (defScope sm) (fun _ => true) := ⟨e6, e7, c, tab_ctx e1 e2 e3 e4 e5 (G1 n) hg hbl (fun _ => Nat.le_refl _), fun x _ => e8 x⟩
    cases q : defBody sm with
    | nil => rw [q] at hc; exact (Bool.false_ne_true hc).elim
    | cons x xs =>
      rw [q] at hc
      obtain ⟨h1, h2⟩ := and2 (show (chkS (tabOf P gls true) pd.N (defScope sm) (.set i (.fn .list m (.cons (.sl m' (.var j) .non (.som (.int k))) .nil))) x && chkSs (tabOf P gls true) pd.N (defScope sm) rd xs) = true from hc)
      exact psss_cons (deck_first cx h1) (sndSs cx rd xs h2)
  refine fnS_weak (fns_of (g := evSs (runF P (n + 1)) pl.body) hsm F Sc fun X e1 e2 e3 e4 e5 e6 e7 e8 c => ?_) (runF_weak ql)
  rw [hl] at hc ⊢
  have cx : Ctx 1 X (n + 1) (tabOf P gls true) (runF P (n + 1)) pl.N (defScope sm) (fun _ => true) := ⟨e6, e7, c, tab_ctx e1 e2 e3 e4 e5 (G1 (n + 1)) hg hbl (fun _ => Nat.le_refl _), fun x _ => e8 x⟩
  cases q : defBody sm with
  | nil => rw [q] at hc; exact (Bool.false_ne_true hc).elim
  | cons x xs =>
    rw [q] at hc
    obtain ⟨h1, h2⟩ := and2 (show (chkS (tabOf P gls true) pl.N (defScope sm) (.set i' (.call kd (.cons (.var j') .nil))) x && chkSs (tabOf P gls true) pl.N (defScope sm) rl xs) = true from hc)
    have hk : (tabOf P gls true).fns[kd]? = some ⟨pd.name, pd.np⟩ := by
      show (P.map fun p => (⟨p.name, p.np⟩ : FI))[kd]? = _
      rw [List.getElem?_map, qd]
      rfl
    refine psss_cons (law_first cx hk h1 ?_) (sndSs cx rl xs h2)
    subst e1 e2 e3 e4 e5
    exact deck
/-- the goal of the head, for a law that deals first: what is left is the run in plain Lean -/
theorem law_end {l : PySem.W.OpenLaw} {n N0 : Nat} {q : Program} {loose : List Str} {XP : (Str → Option Value) → Heap → Prop} {d : DefRec} {x : Str} {na : Nat}
    (hB : ∀ p ∈ P, BindOk (p.N.take p.np)) {kd kl : Nat} {pd pl : FDef} (qd : P[kd]? = some pd) (ql : P[kl]? = some pl) (d1 : pd.np = 1) {i j i' j' : Nat} {m m' : Bool} {k : Int} {rd rl : Sxs}
    (hd : pd.body = .cons (.set i (.fn .list m (.cons (.sl m' (.var j) .non (.som (.int k))) .nil))) rd) (hl : pl.body = .cons (.set i' (.call kd (.cons (.var j') .nil))) rl) (hN : pl.N.take pl.np = [x]) (hnm : d.name = pl.name)
    (hn : l.most = some n) (hn2 : n ≤ sizeLine) (hdf : d.params.defaults = []) (hr : Room (N0 + 2) callerA)
    (hrun : ∀ (ns : List Int), ns.length ≤ n → ∃ S', runF P (N0 + 2) kl [.frz (ns.map D.int)] [] = .ok (.bl true) S') :
    PySem.W.WalkO q loose XP (hookM na P gls true).says l.row.toRowW d [] (fun f vs => PySem.call f vs) := by
  refine walk_ofD (n := n) (k := N0 + 2) (x := x) hn hn2 hdf hr fun w mg fa h Y G hmg => ?_
  obtain ⟨K, KX, tc, sy⟩ := Y
  obtain ⟨hF, hg, hbl⟩ := topC_ok hB KX G tc
  obtain ⟨f, fd, ps, sm, F, Sc, hm, hb, hc, hlen⟩ := (hF pl (List.mem_of_getElem? ql)).ex
  rw [hnm, hm] at hmg
  cases hmg
  have hps : ps = [x] := by rw [← hN, ← hlen]; exact Sc.pre.symm
  refine ⟨K, fd, runF P (N0 + 2) kl, KX, sy, fun s u => ?_, hrun, fun base KB GB hs => ?_⟩
  · have := hb s [u]
    rw [hps] at this
    intro hk
    have z := this hk rfl
    rw [List.append_nil] at z
    exact z
  · rw [← hps]
    exact (law_strict hs hF hg hbl qd ql d1 hd hl N0 F Sc hc).plain
end
end MP

/-! MP26: plain lemmas about the interpreter. -/
namespace MP
open PySem
theorem lcF_pure {ga : D → Env → M Env} {gt : Env → M Bool} {ge : Env → M D} {ρw : Env} {S : Sto} {xs : List D} {t : D → Bool} {e : D → D}
    (h : ∀ x ∈ xs, ∃ ρ1, ga x ρw S = .ok ρ1 S ∧ gt ρ1 S = .ok (t x) S ∧ (t x = true → ge ρ1 S = .ok (e x) S)) : ∀ (k i : Nat) (acc : List D), i ≤ xs.length → xs.length < i + k → acc.length + (xs.length - i) ≤ SL →
    lcF (.fix xs) ga gt ge ρw k i acc S = .ok (acc ++ ((xs.drop i).filter t).map e) S
  | 0, i, acc, h0, h1, _ => by omega
  | k + 1, i, acc, h0, h1, h2 => by
    unfold lcF
    show (match xs[i]? with | none => _ | some d => _) = _
    by_cases hi : i < xs.length
    · rw [List.getElem?_eq_getElem hi, List.drop_eq_getElem_cons hi]
      obtain ⟨ρ1, e1, e2, e3⟩ := h xs[i] (List.getElem_mem hi)
      dsimp only
      rw [bind_run, e1]
      dsimp only
      rw [bind_run, e2]
      dsimp only
      cases q : t xs[i] with
      | true =>
        rw [if_pos rfl, bind_run, e3 q]
        dsimp only
        rw [if_pos (by omega), lcF_pure h k (i + 1) (acc ++ [e xs[i]]) hi (by omega) (by rw [List.length_append, List.length_singleton]; omega), List.filter_cons_of_pos q]
        simp
      | false =>
        rw [if_neg Bool.false_ne_true, lcF_pure h k (i + 1) acc hi (by omega) (by omega), List.filter_cons_of_neg (by rw [q]; exact Bool.false_ne_true)]
    · rw [List.getElem?_eq_none (by omega), List.drop_eq_nil_of_le (by omega)]
      simp
theorem lcS_pure {ga : D → Env → M Env} {gt : Env → M Bool} {ge : Env → M D} {ρw : Env} {S : Sto} {xs : List D} {t : D → Bool} {e : D → D}
    (h : ∀ x ∈ xs, ∃ ρ1, ga x ρw S = .ok ρ1 S ∧ gt ρ1 S = .ok (t x) S ∧ (t x = true → ge ρ1 S = .ok (e x) S)) (hl : xs.length ≤ SL) :
    lcS false ga gt ge ρw (.fix xs) S = .ok (.lst ((xs.filter t).map e)) S := by
  unfold lcS
  rw [bind_run, lcF_pure h _ 0 [] (Nat.zero_le _) (by simp [Src.len]) (by simpa using hl)]
  simp [newL]
end MP

/-! MP27: the equations of the interpreter. -/
namespace MP
open PySem
section
variable (φ : Nat → List D → M D)
@[simp] theorem evE_non {ρ : Env} : evE φ (Ex.non) ρ = (pure .non : M D) := (rfl)
@[simp] theorem evE_bl {ρ : Env} {b} : evE φ (Ex.bl b) ρ = (pure (.bl b) : M D) := (rfl)
@[simp] theorem evE_int {ρ : Env} {i} : evE φ (Ex.int i) ρ = (pure (.int i) : M D) := (rfl)
@[simp] theorem evE_str {ρ : Env} {x} : evE φ (Ex.str x) ρ = (pure (.str x) : M D) := (rfl)
@[simp] theorem evE_neg {ρ : Env} {i} : evE φ (Ex.neg i) ρ = (pure (.int (-i)) : M D) := (rfl)
@[simp] theorem evE_var {ρ : Env} {i} : evE φ (Ex.var i) ρ = (getV ρ i : M D) := (rfl)
@[simp] theorem evE_glb {ρ : Env} {x0 d} : evE φ (Ex.glb x0 d) ρ = (pure d : M D) := (rfl)
@[simp] theorem evE_bin {ρ : Env} {o m a b} : evE φ (Ex.bin o m a b) ρ = (evE φ a ρ >>= fun d => evE φ b ρ >>= fun e => o.ev m d e : M D) := (rfl)
@[simp] theorem evE_cmp {ρ : Env} {o a b} : evE φ (Ex.cmp o a b) ρ = (evE φ a ρ >>= fun d => evE φ b ρ >>= fun e => o.ev d e : M D) := (rfl)
@[simp] theorem evE_chn {ρ : Env} {o p a b c} : evE φ (Ex.chn o p a b c) ρ = (evE φ a ρ >>= fun d => evE φ b ρ >>= fun e => o.ev d e >>= fun z => asB z >>= fun t => if t = true then evE φ c ρ >>= fun e' => p.ev e e' else pure (.bl false) : M D) := (rfl)
@[simp] theorem evE_not {ρ : Env} {a} : evE φ (Ex.not a) ρ = (evE φ a ρ >>= fun d => asB d >>= fun b => pure (.bl (!b)) : M D) := (rfl)
@[simp] theorem evE_and {ρ : Env} {a r} : evE φ (Ex.and a r) ρ = (evE φ a ρ >>= fun d => asB d >>= fun t => if t = true then evE φ r ρ else pure (.bl false) : M D) := (rfl)
@[simp] theorem evE_or {ρ : Env} {a r} : evE φ (Ex.or a r) ρ = (evE φ a ρ >>= fun d => asB d >>= fun t => if t = true then pure (.bl true) else evE φ r ρ : M D) := (rfl)
@[simp] theorem evE_one {ρ : Env} {a} : evE φ (Ex.one a) ρ = (evE φ a ρ : M D) := (rfl)
@[simp] theorem evE_ife {ρ : Env} {t a b} : evE φ (Ex.ife t a b) ρ = (evT φ t ρ >>= fun c => if c = true then evE φ a ρ else evE φ b ρ : M D) := (rfl)
@[simp] theorem evE_ix {ρ : Env} {a b} : evE φ (Ex.ix a b) ρ = (evE φ a ρ >>= fun d => evE φ b ρ >>= fun e => ixD d e : M D) := (rfl)
@[simp] theorem evE_sl {ρ : Env} {m a lo hi} : evE φ (Ex.sl m a lo hi) ρ = (evE φ a ρ >>= fun d => evO φ lo ρ >>= fun l => evO φ hi ρ >>= fun h => sliceE m d l h : M D) := (rfl)
@[simp] theorem evE_rev {ρ : Env} {m a} : evE φ (Ex.rev m a) ρ = (evE φ a ρ >>= revE m : M D) := (rfl)
@[simp] theorem evE_tup {ρ : Env} {es} : evE φ (Ex.tup es) ρ = (evL φ es ρ >>= fun ds => pure (.tup ds) : M D) := (rfl)
@[simp] theorem evE_lst {ρ : Env} {m es} : evE φ (Ex.lst m es) ρ = (evL φ es ρ >>= fun ds => newL m ds : M D) := (rfl)
@[simp] theorem evE_dic0 {ρ : Env} : evE φ (Ex.dic0) ρ = (pure (.dic []) : M D) := (rfl)
@[simp] theorem evE_dic1 {ρ : Env} {k i} : evE φ (Ex.dic1 k i) ρ = (getV ρ i >>= fun d => pure (.dic [(.inl k, d)]) : M D) := (rfl)
@[simp] theorem evE_fn {ρ : Env} {f m es} : evE φ (Ex.fn f m es) ρ = (evL φ es ρ >>= f.ev m : M D) := (rfl)
@[simp] theorem evE_isi {ρ : Env} {t a} : evE φ (Ex.isi t a) ρ = (evE φ a ρ >>= isinstD t : M D) := (rfl)
@[simp] theorem evE_me {ρ : Env} {f m o es} : evE φ (Ex.me f m o es) ρ = (evE φ o ρ >>= fun d => evL φ es ρ >>= fun ds => f.ev m d ds : M D) := (rfl)
@[simp] theorem evE_repl {ρ : Env} {y z o} : evE φ (Ex.repl y z o) ρ = (evE φ o ρ >>= replD y z : M D) := (rfl)
@[simp] theorem evE_call {ρ : Env} {k es} : evE φ (Ex.call k es) ρ = (evL φ es ρ >>= φ k : M D) := (rfl)
@[simp] theorem evE_lc {ρ : Env} {m tg it ifs elt own} : evE φ (Ex.lc m tg it ifs elt own) ρ = (evI φ it ρ >>= lcS m tg.ev (evA φ ifs) (evE φ elt) (wipeE ρ own) : M D) := (rfl)
@[simp] theorem evO_non {ρ : Env} : evO φ (Ox.non) ρ = (pure none : M (Option Int)) := (rfl)
@[simp] theorem evO_som {ρ : Env} {e} : evO φ (Ox.som e) ρ = (evE φ e ρ >>= asI : M (Option Int)) := (rfl)
@[simp] theorem evL_nil {ρ : Env} : evL φ (Exs.nil) ρ = (pure [] : M (List D)) := (rfl)
@[simp] theorem evL_cons {ρ : Env} {e r} : evL φ (Exs.cons e r) ρ = (evE φ e ρ >>= fun d => evL φ r ρ >>= fun ds => pure (d :: ds) : M (List D)) := (rfl)
@[simp] theorem evT_cmp {ρ : Env} {o a b} : evT φ (Tx.cmp o a b) ρ = (evE φ a ρ >>= fun d => evE φ b ρ >>= fun e => o.ev d e >>= asB : M Bool) := (rfl)
@[simp] theorem evT_chn {ρ : Env} {o p a b c} : evT φ (Tx.chn o p a b c) ρ = (evE φ a ρ >>= fun d => evE φ b ρ >>= fun e => o.ev d e >>= fun z => asB z >>= fun t => if t = true then evE φ c ρ >>= fun e' => p.ev e e' >>= asB else pure false : M Bool) := (rfl)
@[simp] theorem evT_not {ρ : Env} {t} : evT φ (Tx.not t) ρ = (evT φ t ρ >>= fun b => pure (!b) : M Bool) := (rfl)
@[simp] theorem evT_and {ρ : Env} {ts} : evT φ (Tx.and ts) ρ = (evA φ ts ρ : M Bool) := (rfl)
@[simp] theorem evT_or {ρ : Env} {ts} : evT φ (Tx.or ts) ρ = (evOr φ ts ρ : M Bool) := (rfl)
@[simp] theorem evT_val {ρ : Env} {e} : evT φ (Tx.val e) ρ = (evE φ e ρ >>= truD : M Bool) := (rfl)
@[simp] theorem evA_nil {ρ : Env} : evA φ (Txs.nil) ρ = (pure true : M Bool) := (rfl)
@[simp] theorem evA_cons {ρ : Env} {t r} : evA φ (Txs.cons t r) ρ = (evT φ t ρ >>= fun c => if c = true then evA φ r ρ else pure false : M Bool) := (rfl)
@[simp] theorem evOr_nil {ρ : Env} : evOr φ (Txs.nil) ρ = (pure false : M Bool) := (rfl)
@[simp] theorem evOr_cons {ρ : Env} {t r} : evOr φ (Txs.cons t r) ρ = (evT φ t ρ >>= fun c => if c = true then pure true else evOr φ r ρ : M Bool) := (rfl)
@[simp] theorem evI_seq {ρ : Env} {e} : evI φ (Ix.seq e) ρ = (evE φ e ρ >>= seqSrc : M Src) := (rfl)
@[simp] theorem evI_rng {ρ : Env} {es} : evI φ (Ix.rng es) ρ = (evL φ es ρ >>= rngSrc : M Src) := (rfl)
@[simp] theorem evS_pass {ρ : Env} : evS φ (Sx.pass) ρ = (pure (.next ρ) : M Fl) := (rfl)
@[simp] theorem evS_brk {ρ : Env} : evS φ (Sx.brk) ρ = (pure (.brk ρ) : M Fl) := (rfl)
@[simp] theorem evS_cont {ρ : Env} : evS φ (Sx.cont) ρ = (pure (.cont ρ) : M Fl) := (rfl)
@[simp] theorem evS_ret {ρ : Env} {e} : evS φ (Sx.ret e) ρ = (evE φ e ρ >>= fun d => pure (.ret d) : M Fl) := (rfl)
@[simp] theorem evS_set {ρ : Env} {i e} : evS φ (Sx.set i e) ρ = (evE φ e ρ >>= fun d => pure (.next (ρ.set i (some d))) : M Fl) := (rfl)
@[simp] theorem evS_par {ρ : Env} {is e} : evS φ (Sx.par is e) ρ = (evE φ e ρ >>= fun d => unpackD is.length none d >>= fun ds => pure (.next (setsL is.reverse ds.reverse ρ)) : M Fl) := (rfl)
@[simp] theorem evS_asg {ρ : Env} {tg e} : evS φ (Sx.asg tg e) ρ = (evE φ e ρ >>= fun d => tg.ev d ρ >>= fun ρ' => pure (.next ρ') : M Fl) := (rfl)
@[simp] theorem evS_put {ρ : Env} {o i e} : evS φ (Sx.put o i e) ρ = (evE φ e ρ >>= fun d => evE φ o ρ >>= fun od => evE φ i ρ >>= fun id => setD od id d >>= fun _ => pure (.next ρ) : M Fl) := (rfl)
@[simp] theorem evS_exp {ρ : Env} {e} : evS φ (Sx.exp e) ρ = (evE φ e ρ >>= fun _ => pure (.next ρ) : M Fl) := (rfl)
@[simp] theorem evS_ite {ρ : Env} {t a b} : evS φ (Sx.ite t a b) ρ = (evT φ t ρ >>= fun c => if c = true then evSs φ a ρ else evSs φ b ρ : M Fl) := (rfl)
@[simp] theorem evS_forr {ρ : Env} {tg it b} : evS φ (Sx.forr tg it b) ρ = (evI φ it ρ >>= forF tg.ev (evSs φ b) ρ : M Fl) := (rfl)
@[simp] theorem evSs_nil {ρ : Env} : evSs φ (Sxs.nil) ρ = (pure (.next ρ) : M Fl) := (rfl)
@[simp] theorem evSs_cons {ρ : Env} {s r} : evSs φ (Sxs.cons s r) ρ = (evS φ s ρ >>= thenF (evSs φ r) : M Fl) := (rfl)
end
end MP

/-! MP28: the operations at work. -/
namespace MP
open PySem L2
@[simp] theorem asB_bl (b : Bool) (S : Sto) : asB (.bl b) S = .ok b S := (rfl)
@[simp] theorem truD_bl (b : Bool) (S : Sto) : truD (.bl b) S = .ok b S := (rfl)
@[simp] theorem isinstD_run (t : Ty) (d : D) (S : Sto) : isinstD t d S = .ok (.bl (isiD t d)) S := (rfl)
@[simp] theorem getV_run (ρ : Env) (i : Nat) (S : Sto) : getV ρ i S = match ρ[i]? with | some (some d) => .ok d S | _ => .bad := by
  unfold getV
  cases ρ[i]? with
  | none => rfl
  | some o => cases o <;> rfl
@[simp] theorem ite_run {α : Type} (c : Prop) [Decidable c] (a b : M α) (S : Sto) : (if c then a else b) S = if c then a S else b S := by split <;> rfl
theorem lenD_str {x : Str} (h : x.length ≤ SL) (S : Sto) : lenD [.str x] S = .ok (.int x.length) S := by
  show (match (if x.length ≤ SL then some x.length else none) with | some n => R.ok (D.int n) S | none => .bad) = _
  rw [if_pos h]
@[simp] theorem lenD_tup (xs : List D) (S : Sto) : lenD [.tup xs] S = .ok (.int xs.length) S := (rfl)
@[simp] theorem lenD_lst (xs : List D) (S : Sto) : lenD [.lst xs] S = .ok (.int xs.length) S := (rfl)
@[simp] theorem cop_eq : Cop.eq.ev = eqD := (rfl)
@[simp] theorem cop_ne : Cop.ne.ev = neD := (rfl)
@[simp] theorem cop_lt : Cop.lt.ev = ltD := (rfl)
@[simp] theorem cop_le : Cop.le.ev = leD := (rfl)
@[simp] theorem cop_gt : Cop.gt.ev = gtD := (rfl)
@[simp] theorem cop_ge : Cop.ge.ev = geD := (rfl)
@[simp] theorem cop_is : Cop.is.ev = isD := (rfl)
@[simp] theorem cop_isNot : Cop.isNot.ev = isNotD := (rfl)
@[simp] theorem cop_inn : Cop.inn.ev = inD := (rfl)
@[simp] theorem cop_notIn : Cop.notIn.ev = notInD := (rfl)
@[simp] theorem bop_add (m : Bool) : Bop.add.ev m = addD m := (rfl)
@[simp] theorem bop_sub (m : Bool) : Bop.sub.ev m = subD := (rfl)
@[simp] theorem bop_mul (m : Bool) : Bop.mul.ev m = mulD := (rfl)
@[simp] theorem bop_fdiv (m : Bool) : Bop.fdiv.ev m = fdivD := (rfl)
@[simp] theorem bop_mod (m : Bool) : Bop.mod.ev m = modD := (rfl)
@[simp] theorem bop_pow (m : Bool) : Bop.pow.ev m = powD := (rfl)
@[simp] theorem fn_len (m : Bool) : Fn.len.ev m = lenD := (rfl)
@[simp] theorem fn_all (m : Bool) : Fn.all.ev m = allD := (rfl)
@[simp] theorem fn_any (m : Bool) : Fn.any.ev m = anyD := (rfl)
@[simp] theorem fn_min (m : Bool) : Fn.min.ev m = minD := (rfl)
@[simp] theorem fn_sum (m : Bool) : Fn.sum.ev m = sumD := (rfl)
@[simp] theorem fn_int (m : Bool) : Fn.int.ev m = intD := (rfl)
@[simp] theorem fn_str (m : Bool) : Fn.str.ev m = strD := (rfl)
@[simp] theorem fn_list (m : Bool) : Fn.list.ev m = listD m := (rfl)
@[simp] theorem fn_tuple (m : Bool) : Fn.tuple.ev m = tupleD := (rfl)
@[simp] theorem fn_repr (m : Bool) (d : D) : Fn.repr.ev m [d] = reprD d := (rfl)
@[simp] theorem le_int (i j : Int) (S : Sto) : leD (.int i) (.int j) S = .ok (.bl (decide (i ≤ j))) S := (rfl)
@[simp] theorem lt_int (i j : Int) (S : Sto) : ltD (.int i) (.int j) S = .ok (.bl (decide (i < j))) S := (rfl)
@[simp] theorem ge_int (i j : Int) (S : Sto) : geD (.int i) (.int j) S = .ok (.bl (decide (j ≤ i))) S := (rfl)
@[simp] theorem gt_int (i j : Int) (S : Sto) : gtD (.int i) (.int j) S = .ok (.bl (decide (j < i))) S := (rfl)
@[simp] theorem le_str (x y : Str) (S : Sto) : leD (.str x) (.str y) S = .ok (.bl (!ltS y x)) S := (rfl)
@[simp] theorem eq_int (i j : Int) (S : Sto) : eqD (.int i) (.int j) S = .ok (.bl (decide (i = j))) S := (rfl)
@[simp] theorem ne_int (i j : Int) (S : Sto) : neD (.int i) (.int j) S = .ok (.bl (!decide (i = j))) S := (rfl)
@[simp] theorem eq_str (i j : Str) (S : Sto) : eqD (.str i) (.str j) S = .ok (.bl (decide (i = j))) S := (rfl)
@[simp] theorem ne_str (i j : Str) (S : Sto) : neD (.str i) (.str j) S = .ok (.bl (!decide (i = j))) S := (rfl)
@[simp] theorem seqSrc_str (x : Str) (S : Sto) : seqSrc (.str x) S = .ok (.fix (signsL x)) S := (rfl)
@[simp] theorem seqSrc_tup (x : List D) (S : Sto) : seqSrc (.tup x) S = .ok (.fix x) S := (rfl)
@[simp] theorem seqSrc_lst (x : List D) (S : Sto) : seqSrc (.lst x) S = .ok (.fix x) S := (rfl)
@[simp] theorem in_sign (c : Nat) (z : Str) (S : Sto) : inD (.str ⟨#[c]⟩) (.str z) S = .ok (.bl (decide (c ∈ z.cps.toList))) S := (rfl)
@[simp] theorem thenF_next (g : Env → M Fl) (ρ : Env) : thenF g (.next ρ) = g ρ := (rfl)
@[simp] theorem thenF_ret (g : Env → M Fl) (d : D) : thenF g (.ret d) = pure (.ret d) := (rfl)
theorem bools_of : ∀ (xs : List Bool), bools? (xs.map D.bl) = some xs
  | [] => rfl
  | x :: xs => by
    have := bools_of xs
    simp [bools?, this]
theorem allD_bools (xs : List Bool) (S : Sto) : allD [.lst (xs.map D.bl)] S = .ok (.bl (xs.all id)) S := by
  show (match (some (xs.map D.bl)).bind bools? with | some bs => R.ok (D.bl (bs.all id)) S | none => .bad) = _
  rw [Option.bind_some, bools_of]
@[simp] theorem allD_map {α : Type} (p : α → Bool) (l : List α) (S : Sto) : allD [.lst (l.map (D.bl ∘ p))] S = .ok (.bl (l.all p)) S := by
  have := allD_bools (l.map p) S
  rw [List.map_map] at this
  rw [this]
  simp
theorem ixD_str {x : Str} {i : Int} (h : x.length ≤ SL) (S : Sto) : ixD (.str x) (.int i) S = match atI x.cps.toList i with | some c => .ok (.str ⟨#[c]⟩) S | none => .bad := by
  show (match (if x.length ≤ SL then (atI x.cps.toList i).map (fun c => D.str ⟨#[c]⟩) else none) with | some e => R.ok e S | none => .bad) = _
  rw [if_pos h]
  cases atI x.cps.toList i <;> rfl
@[simp] theorem ixD_tup (xs : List D) (i : Int) (S : Sto) : ixD (.tup xs) (.int i) S = match atI xs i with | some c => .ok c S | none => .bad := (rfl)
@[simp] theorem ixD_lst (xs : List D) (i : Int) (S : Sto) : ixD (.lst xs) (.int i) S = match atI xs i with | some c => .ok c S | none => .bad := (rfl)
theorem atI_nat {α : Type} (xs : List α) (k : Nat) : atI xs (k : Int) = xs[k]? := by
  unfold atI ixN
  by_cases h : k < xs.length
  · simp [h]
  · simp [h]
end MP

/-! MP29: what a run ends in (W): a run that ends well, and in what. -/
namespace MP
open PySem L2
def W {α : Type} (m : M α) (S : Sto) (Q : α → Sto → Prop) : Prop := match m S with
  | .ok a S' => Q a S'
  | .bad => False
theorem W_iff {α : Type} {m : M α} {S : Sto} {Q : α → Sto → Prop} : W m S Q ↔ ∃ a S', m S = .ok a S' ∧ Q a S' := by
  unfold W
  cases m S with
  | ok a S' => exact ⟨fun h => ⟨a, S', rfl, h⟩, fun ⟨_, _, e, h⟩ => by cases e; exact h⟩
  | bad => exact ⟨fun h => h.elim, fun ⟨_, _, e, _⟩ => by cases e⟩
theorem W_of {α : Type} {m : M α} {S S' : Sto} {a : α} (h : m S = .ok a S') (Q : α → Sto → Prop) : W m S Q = Q a S' := by
  unfold W
  rw [h]
theorem W_eq {α : Type} {m m' : M α} {S : Sto} (h : m S = m' S) (Q : α → Sto → Prop) : W m S Q = W m' S Q := by
  unfold W
  rw [h]
theorem W.mono {α : Type} {m : M α} {S : Sto} {Q Q' : α → Sto → Prop} (h : W m S Q) (k : ∀ a S', Q a S' → Q' a S') : W m S Q' := by
  rw [W_iff] at h ⊢
  obtain ⟨a, S', e, q⟩ := h
  exact ⟨a, S', e, k _ _ q⟩

@[simp ↓] theorem W_bind {α β : Type} (m : M α) (f : α → M β) (S : Sto) (Q : β → Sto → Prop) : W (m >>= f) S Q = W m S (fun a S' => W (f a) S' Q) := by
  unfold W
  rw [bind_run]
  cases m S <;> rfl
@[simp ↓] theorem W_pure {α : Type} (a : α) (S : Sto) (Q : α → Sto → Prop) : W (pure a : M α) S Q = Q a S := (rfl)
@[simp ↓] theorem W_mpure {α : Type} (a : α) (S : Sto) (Q : α → Sto → Prop) : W (M.pure a : M α) S Q = Q a S := (rfl)
@[simp ↓] theorem W_ite {α : Type} (c : Prop) [Decidable c] (a b : M α) (S : Sto) (Q : α → Sto → Prop) : W (if c then a else b) S Q = if c then W a S Q else W b S Q := by split <;> rfl
@[simp ↓] theorem W_fail {α : Type} (S : Sto) (Q : α → Sto → Prop) : W (M.fail : M α) S Q = False := (rfl)
section
variable (φ : Nat → List D → M D) (S : Sto) (ρ : Env)
@[simp ↓] theorem W_non (Q) : W (evE φ .non ρ) S Q = Q .non S := (rfl)
@[simp ↓] theorem W_bl (b Q) : W (evE φ (.bl b) ρ) S Q = Q (.bl b) S := (rfl)
@[simp ↓] theorem W_int (b Q) : W (evE φ (.int b) ρ) S Q = Q (.int b) S := (rfl)
@[simp ↓] theorem W_str (b Q) : W (evE φ (.str b) ρ) S Q = Q (.str b) S := (rfl)
@[simp ↓] theorem W_neg (b Q) : W (evE φ (.neg b) ρ) S Q = Q (.int (-b)) S := (rfl)
@[simp ↓] theorem W_glb (b d Q) : W (evE φ (.glb b d) ρ) S Q = Q d S := (rfl)
/-- the place of a slot -/
def vget (ρ : Env) (i : Nat) (S : Sto) (Q : D → Sto → Prop) : Prop := match ρ[i]? with | some (some d) => Q d S | _ => False
theorem W_getV (i Q) : W (getV ρ i) S Q = vget ρ i S Q := by
  unfold W vget
  rw [getV_run]
  split <;> split <;> simp_all
@[simp ↓] theorem W_var (i Q) : W (evE φ (.var i) ρ) S Q = vget ρ i S Q := W_getV S ρ i Q
@[simp ↓] theorem W_bin (o m a b Q) : W (evE φ (.bin o m a b) ρ) S Q = W (evE φ a ρ) S (fun d S1 => W (evE φ b ρ) S1 (fun e S2 => W (o.ev m d e) S2 Q)) := by simp only [evE_bin, W_bind]
@[simp ↓] theorem W_cmp (o a b Q) : W (evE φ (.cmp o a b) ρ) S Q = W (evE φ a ρ) S (fun d S1 => W (evE φ b ρ) S1 (fun e S2 => W (o.ev d e) S2 Q)) := by simp only [evE_cmp, W_bind]
@[simp ↓] theorem W_chn (o p a b c Q) : W (evE φ (.chn o p a b c) ρ) S Q = W (evE φ a ρ) S (fun d S1 => W (evE φ b ρ) S1 (fun e S2 => W (o.ev d e) S2 (fun z S3 => W (asB z) S3 (fun t S4 => if t = true then W (evE φ c ρ) S4 (fun e' S5 => W (p.ev e e') S5 Q) else Q (.bl false) S4)))) := by simp only [evE_chn, W_bind, W_ite, W_pure]
@[simp ↓] theorem W_not (a Q) : W (evE φ (.not a) ρ) S Q = W (evE φ a ρ) S (fun d S1 => W (asB d) S1 (fun b S2 => Q (.bl (!b)) S2)) := by simp only [evE_not, W_bind, W_pure]
@[simp ↓] theorem W_and (a r Q) : W (evE φ (.and a r) ρ) S Q = W (evE φ a ρ) S (fun d S1 => W (asB d) S1 (fun t S2 => if t = true then W (evE φ r ρ) S2 Q else Q (.bl false) S2)) := by simp only [evE_and, W_bind, W_ite, W_pure]
@[simp ↓] theorem W_or (a r Q) : W (evE φ (.or a r) ρ) S Q = W (evE φ a ρ) S (fun d S1 => W (asB d) S1 (fun t S2 => if t = true then Q (.bl true) S2 else W (evE φ r ρ) S2 Q)) := by simp only [evE_or, W_bind, W_ite, W_pure]
@[simp ↓] theorem W_one (a Q) : W (evE φ (.one a) ρ) S Q = W (evE φ a ρ) S Q := (rfl)
@[simp ↓] theorem W_ife (t a b Q) : W (evE φ (.ife t a b) ρ) S Q = W (evT φ t ρ) S (fun c S1 => if c = true then W (evE φ a ρ) S1 Q else W (evE φ b ρ) S1 Q) := by simp only [evE_ife, W_bind, W_ite]
@[simp ↓] theorem W_ix (a b Q) : W (evE φ (.ix a b) ρ) S Q = W (evE φ a ρ) S (fun d S1 => W (evE φ b ρ) S1 (fun e S2 => W (ixD d e) S2 Q)) := by simp only [evE_ix, W_bind]
@[simp ↓] theorem W_sl (m a lo hi Q) : W (evE φ (.sl m a lo hi) ρ) S Q = W (evE φ a ρ) S (fun d S1 => W (evO φ lo ρ) S1 (fun l S2 => W (evO φ hi ρ) S2 (fun h S3 => W (sliceE m d l h) S3 Q))) := by simp only [evE_sl, W_bind]
@[simp ↓] theorem W_rev (m a Q) : W (evE φ (.rev m a) ρ) S Q = W (evE φ a ρ) S (fun d S1 => W (revE m d) S1 Q) := by simp only [evE_rev, W_bind]
@[simp ↓] theorem W_tup (es Q) : W (evE φ (.tup es) ρ) S Q = W (evL φ es ρ) S (fun ds S1 => Q (.tup ds) S1) := by simp only [evE_tup, W_bind, W_pure]
@[simp ↓] theorem W_lst (m es Q) : W (evE φ (.lst m es) ρ) S Q = W (evL φ es ρ) S (fun ds S1 => W (newL m ds) S1 Q) := by simp only [evE_lst, W_bind]
@[simp ↓] theorem W_dic0 (Q) : W (evE φ .dic0 ρ) S Q = Q (.dic []) S := (rfl)
@[simp ↓] theorem W_dic1 (k i Q) : W (evE φ (.dic1 k i) ρ) S Q = vget ρ i S (fun d S1 => Q (.dic [(.inl k, d)]) S1) := by simp only [evE_dic1, W_bind, W_getV, W_pure]
@[simp ↓] theorem W_fn (f m es Q) : W (evE φ (.fn f m es) ρ) S Q = W (evL φ es ρ) S (fun ds S1 => W (f.ev m ds) S1 Q) := by simp only [evE_fn, W_bind]
@[simp ↓] theorem W_isi (t a Q) : W (evE φ (.isi t a) ρ) S Q = W (evE φ a ρ) S (fun d S1 => Q (.bl (isiD t d)) S1) := by simp only [evE_isi, W_bind]; exact (rfl)
@[simp ↓] theorem W_me (f m o es Q) : W (evE φ (.me f m o es) ρ) S Q = W (evE φ o ρ) S (fun d S1 => W (evL φ es ρ) S1 (fun ds S2 => W (f.ev m d ds) S2 Q)) := by simp only [evE_me, W_bind]
@[simp ↓] theorem W_repl (y z o Q) : W (evE φ (.repl y z o) ρ) S Q = W (evE φ o ρ) S (fun d S1 => W (replD y z d) S1 Q) := by simp only [evE_repl, W_bind]
@[simp ↓] theorem W_call (k es Q) : W (evE φ (.call k es) ρ) S Q = W (evL φ es ρ) S (fun ds S1 => W (φ k ds) S1 Q) := by simp only [evE_call, W_bind]
@[simp ↓] theorem W_lc (m tg it ifs elt own Q) : W (evE φ (.lc m tg it ifs elt own) ρ) S Q = W (evI φ it ρ) S (fun src S1 => W (lcS m tg.ev (evA φ ifs) (evE φ elt) (wipeE ρ own) src) S1 Q) := by simp only [evE_lc, W_bind]
@[simp ↓] theorem WO_non (Q) : W (evO φ .non ρ) S Q = Q none S := (rfl)
@[simp ↓] theorem WO_som (e Q) : W (evO φ (.som e) ρ) S Q = W (evE φ e ρ) S (fun d S1 => W (asI d) S1 Q) := by simp only [evO_som, W_bind]
@[simp ↓] theorem WL_nil (Q) : W (evL φ .nil ρ) S Q = Q [] S := (rfl)
@[simp ↓] theorem WL_cons (e r Q) : W (evL φ (.cons e r) ρ) S Q = W (evE φ e ρ) S (fun d S1 => W (evL φ r ρ) S1 (fun ds S2 => Q (d :: ds) S2)) := by simp only [evL_cons, W_bind, W_pure]
@[simp ↓] theorem WT_cmp (o a b Q) : W (evT φ (.cmp o a b) ρ) S Q = W (evE φ a ρ) S (fun d S1 => W (evE φ b ρ) S1 (fun e S2 => W (o.ev d e) S2 (fun z S3 => W (asB z) S3 Q))) := by simp only [evT_cmp, W_bind]
@[simp ↓] theorem WT_chn (o p a b c Q) : W (evT φ (.chn o p a b c) ρ) S Q = W (evE φ a ρ) S (fun d S1 => W (evE φ b ρ) S1 (fun e S2 => W (o.ev d e) S2 (fun z S3 => W (asB z) S3 (fun t S4 => if t = true then W (evE φ c ρ) S4 (fun e' S5 => W (p.ev e e') S5 (fun z S6 => W (asB z) S6 Q)) else Q false S4)))) := by simp only [evT_chn, W_bind, W_ite, W_pure]
@[simp ↓] theorem WT_not (t Q) : W (evT φ (.not t) ρ) S Q = W (evT φ t ρ) S (fun b S1 => Q (!b) S1) := by simp only [evT_not, W_bind, W_pure]
@[simp ↓] theorem WT_and (t Q) : W (evT φ (.and t) ρ) S Q = W (evA φ t ρ) S Q := (rfl)
@[simp ↓] theorem WT_or (t Q) : W (evT φ (.or t) ρ) S Q = W (evOr φ t ρ) S Q := (rfl)
@[simp ↓] theorem WT_val (e Q) : W (evT φ (.val e) ρ) S Q = W (evE φ e ρ) S (fun d S1 => W (truD d) S1 Q) := by simp only [evT_val, W_bind]
@[simp ↓] theorem WA_nil (Q) : W (evA φ .nil ρ) S Q = Q true S := (rfl)
@[simp ↓] theorem WA_cons (t r Q) : W (evA φ (.cons t r) ρ) S Q = W (evT φ t ρ) S (fun c S1 => if c = true then W (evA φ r ρ) S1 Q else Q false S1) := by simp only [evA_cons, W_bind, W_ite, W_pure]
@[simp ↓] theorem WOr_nil (Q) : W (evOr φ .nil ρ) S Q = Q false S := (rfl)
@[simp ↓] theorem WOr_cons (t r Q) : W (evOr φ (.cons t r) ρ) S Q = W (evT φ t ρ) S (fun c S1 => if c = true then Q true S1 else W (evOr φ r ρ) S1 Q) := by simp only [evOr_cons, W_bind, W_ite, W_pure]
@[simp ↓] theorem WI_seq (e Q) : W (evI φ (.seq e) ρ) S Q = W (evE φ e ρ) S (fun d S1 => W (seqSrc d) S1 Q) := by simp only [evI_seq, W_bind]
@[simp ↓] theorem WI_rng (es Q) : W (evI φ (.rng es) ρ) S Q = W (evL φ es ρ) S (fun ds S1 => W (rngSrc ds) S1 Q) := by simp only [evI_rng, W_bind]
@[simp ↓] theorem WS_pass (Q) : W (evS φ .pass ρ) S Q = Q (.next ρ) S := (rfl)
@[simp ↓] theorem WS_brk (Q) : W (evS φ .brk ρ) S Q = Q (.brk ρ) S := (rfl)
@[simp ↓] theorem WS_cont (Q) : W (evS φ .cont ρ) S Q = Q (.cont ρ) S := (rfl)
@[simp ↓] theorem WS_ret (e Q) : W (evS φ (.ret e) ρ) S Q = W (evE φ e ρ) S (fun d S1 => Q (.ret d) S1) := by simp only [evS_ret, W_bind, W_pure]
@[simp ↓] theorem WS_set (i e Q) : W (evS φ (.set i e) ρ) S Q = W (evE φ e ρ) S (fun d S1 => Q (.next (ρ.set i (some d))) S1) := by simp only [evS_set, W_bind, W_pure]
@[simp ↓] theorem WS_par (is e Q) : W (evS φ (.par is e) ρ) S Q = W (evE φ e ρ) S (fun d S1 => W (unpackD is.length none d) S1 (fun ds S2 => Q (.next (setsL is.reverse ds.reverse ρ)) S2)) := by simp only [evS_par, W_bind, W_pure]
@[simp ↓] theorem WS_asg (tg e Q) : W (evS φ (.asg tg e) ρ) S Q = W (evE φ e ρ) S (fun d S1 => W (tg.ev d ρ) S1 (fun ρ' S2 => Q (.next ρ') S2)) := by simp only [evS_asg, W_bind, W_pure]
@[simp ↓] theorem WS_put (o i e Q) : W (evS φ (.put o i e) ρ) S Q = W (evE φ e ρ) S (fun d S1 => W (evE φ o ρ) S1 (fun od S2 => W (evE φ i ρ) S2 (fun id S3 => W (setD od id d) S3 (fun _ S4 => Q (.next ρ) S4)))) := by simp only [evS_put, W_bind, W_pure]
@[simp ↓] theorem WS_exp (e Q) : W (evS φ (.exp e) ρ) S Q = W (evE φ e ρ) S (fun _ S1 => Q (.next ρ) S1) := by simp only [evS_exp, W_bind, W_pure]
@[simp ↓] theorem WS_ite (t a b Q) : W (evS φ (.ite t a b) ρ) S Q = W (evT φ t ρ) S (fun c S1 => if c = true then W (evSs φ a ρ) S1 Q else W (evSs φ b ρ) S1 Q) := by simp only [evS_ite, W_bind, W_ite]
@[simp ↓] theorem WS_forr (tg it b Q) : W (evS φ (.forr tg it b) ρ) S Q = W (evI φ it ρ) S (fun src S1 => W (forF tg.ev (evSs φ b) ρ src) S1 Q) := by simp only [evS_forr, W_bind]
@[simp ↓] theorem WSs_nil (Q) : W (evSs φ .nil ρ) S Q = Q (.next ρ) S := (rfl)
@[simp ↓] theorem WSs_cons (s r Q) : W (evSs φ (.cons s r) ρ) S Q = W (evS φ s ρ) S (fun fl S1 => W (thenF (evSs φ r) fl) S1 Q) := by simp only [evSs_cons, W_bind]
end
@[simp ↓] theorem W_thenN (g : Env → M Fl) (ρ : Env) (S : Sto) (Q) : W (thenF g (.next ρ)) S Q = W (g ρ) S Q := (rfl)
@[simp ↓] theorem W_thenR (g : Env → M Fl) (d : D) (S : Sto) (Q) : W (thenF g (.ret d)) S Q = Q (.ret d) S := (rfl)
@[simp ↓] theorem W_thenB (g : Env → M Fl) (ρ : Env) (S : Sto) (Q) : W (thenF g (.brk ρ)) S Q = Q (.brk ρ) S := (rfl)
@[simp ↓] theorem W_thenC (g : Env → M Fl) (ρ : Env) (S : Sto) (Q) : W (thenF g (.cont ρ)) S Q = Q (.cont ρ) S := (rfl)
/-- the end of a def -/
def bodyQ (Q : D → Sto → Prop) : Fl → Sto → Prop
  | .ret d, S => Q d S
  | .next _, S => Q .non S
  | _, _ => False
@[simp ↓] theorem bodyQ_ret (Q d S) : bodyQ Q (.ret d) S = Q d S := (rfl)
@[simp ↓] theorem bodyQ_next (Q d S) : bodyQ Q (.next d) S = Q .non S := (rfl)
theorem W_body (k : Nat) (g : Env → M Fl) (ds : List D) (S : Sto) (Q) : W (bodyD k g ds) S Q = W (g (startD k ds)) S (bodyQ Q) := by
  unfold bodyD
  rw [W_bind]
  congr 1
  funext fl S'
  cases fl <;> rfl
@[simp ↓] theorem W_asB (b : Bool) (S : Sto) (Q) : W (asB (.bl b)) S Q = Q b S := (rfl)
@[simp ↓] theorem W_asI (i : Int) (S : Sto) (Q) : W (asI (.int i)) S Q = Q (some i) S := (rfl)
@[simp ↓] theorem W_truB (b : Bool) (S : Sto) (Q) : W (truD (.bl b)) S Q = Q b S := (rfl)
@[simp ↓] theorem vget_0 (d : D) (r : Env) (S : Sto) (Q) : vget (some d :: r) 0 S Q = Q d S := (rfl)
@[simp ↓] theorem vget_n (d : Option D) (r : Env) (n : Nat) (S : Sto) (Q) : vget (d :: r) (n + 1) S Q = vget r n S Q := by
  unfold vget
  rw [List.getElem?_cons_succ]
@[simp ↓] theorem W_newF (ds : List D) (S : Sto) (Q) : W (newL false ds) S Q = Q (.lst ds) S := (rfl)
@[simp ↓] theorem W_newT (ds : List D) (S : Sto) (Q) : W (newL true ds) S Q = Q (.ref S.length) (S ++ [.lst ds]) := (rfl)
@[simp ↓] theorem W_addI (m : Bool) (i j : Int) (S : Sto) (Q) : W (addD m (.int i) (.int j)) S Q = Q (.int (i + j)) S := (rfl)
@[simp ↓] theorem W_subI (i j : Int) (S : Sto) (Q) : W (subD (.int i) (.int j)) S Q = Q (.int (i - j)) S := (rfl)
@[simp ↓] theorem W_leI (i j : Int) (S : Sto) (Q) : W (leD (.int i) (.int j)) S Q = Q (.bl (decide (i ≤ j))) S := (rfl)
@[simp ↓] theorem W_ltI (i j : Int) (S : Sto) (Q) : W (ltD (.int i) (.int j)) S Q = Q (.bl (decide (i < j))) S := (rfl)
@[simp ↓] theorem W_geI (i j : Int) (S : Sto) (Q) : W (geD (.int i) (.int j)) S Q = Q (.bl (decide (j ≤ i))) S := (rfl)
@[simp ↓] theorem W_gtI (i j : Int) (S : Sto) (Q) : W (gtD (.int i) (.int j)) S Q = Q (.bl (decide (j < i))) S := (rfl)
@[simp ↓] theorem W_eqI (i j : Int) (S : Sto) (Q) : W (eqD (.int i) (.int j)) S Q = Q (.bl (decide (i = j))) S := (rfl)
@[simp ↓] theorem W_neI (i j : Int) (S : Sto) (Q) : W (neD (.int i) (.int j)) S Q = Q (.bl (!decide (i = j))) S := (rfl)
@[simp ↓] theorem W_lenL (xs : List D) (S : Sto) (Q) : W (lenD [.lst xs]) S Q = Q (.int xs.length) S := (rfl)
@[simp ↓] theorem W_lenT (xs : List D) (S : Sto) (Q) : W (lenD [.tup xs]) S Q = Q (.int xs.length) S := (rfl)
@[simp ↓] theorem W_seqT (xs : List D) (S : Sto) (Q) : W (seqSrc (.tup xs)) S Q = Q (.fix xs) S := (rfl)
@[simp ↓] theorem W_seqL (xs : List D) (S : Sto) (Q) : W (seqSrc (.lst xs)) S Q = Q (.fix xs) S := (rfl)
@[simp ↓] theorem W_seqS (x : Str) (S : Sto) (Q) : W (seqSrc (.str x)) S Q = Q (.fix (signsL x)) S := (rfl)
@[simp ↓] theorem W_tupleL (xs : List D) (S : Sto) (Q) : W (tupleD [.lst xs]) S Q = Q (.tup xs) S := (rfl)
@[simp ↓] theorem W_nm (i : Nat) (d : D) (ρ : Env) (S : Sto) (Q) : W ((Tg.nm i).ev d ρ) S Q = Q (ρ.set i (some d)) S := (rfl)
@[simp] theorem me_append (m : Bool) : Me.append.ev m = appendD := (rfl)
@[simp] theorem me_extend (m : Bool) : Me.extend.ev m = extendD := (rfl)
@[simp] theorem me_pop (m : Bool) : Me.pop.ev m = popD := (rfl)
@[simp] theorem me_join (m : Bool) : Me.join.ev m = joinD := (rfl)
@[simp] theorem me_split (m : Bool) : Me.split.ev m = splitD m := (rfl)
@[simp] theorem me_count (m : Bool) : Me.count.ev m = countD := (rfl)
@[simp] theorem me_upper (m : Bool) : Me.upper.ev m = upperD := (rfl)
theorem W_modI {i j : Int} (h : 0 < j) (S : Sto) (Q) : W (modD (.int i) (.int j)) S Q = Q (.int (i % j)) S := by
  show W (if 0 < j then pure (.int (i % j)) else M.fail) S Q = _
  rw [if_pos h]; rfl
theorem W_fdivI {i j : Int} (h : 0 < j ∧ j < 1073741824) (S : Sto) (Q) : W (fdivD (.int i) (.int j)) S Q = Q (.int (i / j)) S := by
  show W (if 0 < j ∧ j < 1073741824 then pure (.int (i / j)) else M.fail) S Q = _
  rw [if_pos h]; rfl
theorem W_mulI {i j : Int} (h : (-(2 ^ 64) < i ∧ i < 2 ^ 64) ∨ (-(2 ^ 64) < j ∧ j < 2 ^ 64)) (S : Sto) (Q) : W (mulD (.int i) (.int j)) S Q = Q (.int (i * j)) S := by
  show W (if (-(2 ^ 64) < i ∧ i < 2 ^ 64) ∨ (-(2 ^ 64) < j ∧ j < 2 ^ 64) then pure (.int (i * j)) else M.fail) S Q = _
  rw [if_pos h]; rfl
theorem W_addS {x y : Str} (m : Bool) (h : x.length + y.length ≤ SL) (S : Sto) (Q) : W (addD m (.str x) (.str y)) S Q = Q (.str (x ++ y)) S := by
  show W (if x.length + y.length ≤ SL then pure (.str (x ++ y)) else M.fail) S Q = _
  rw [if_pos h]; rfl
theorem W_addT {x y : List D} (m : Bool) (h : x.length + y.length ≤ SL) (S : Sto) (Q) : W (addD m (.tup x) (.tup y)) S Q = Q (.tup (x ++ y)) S := by
  show W (if x.length + y.length ≤ SL then pure (.tup (x ++ y)) else M.fail) S Q = _
  rw [if_pos h]; rfl
theorem W_addL {x y : List D} (m : Bool) (h : x.length + y.length ≤ SL) (S : Sto) (Q) : W (addD m (.lst x) (.lst y)) S Q = W (newL m (x ++ y)) S Q := by
  show W (fun S => if x.length + y.length ≤ SL then newL m (x ++ y) S else .bad) S Q = _
  unfold W
  dsimp only
  rw [if_pos h]
theorem atI_some {α : Type} (xs : List α) {i : Int} (h0 : 0 ≤ i) (h1 : i < xs.length) : ∃ x, atI xs i = some x ∧ x ∈ xs := by
  obtain ⟨k, rfl⟩ := Int.eq_ofNat_of_zero_le h0
  have hk : k < xs.length := by omega
  exact ⟨xs[k], by rw [atI_nat, List.getElem?_eq_getElem hk], List.getElem_mem hk⟩
theorem W_ixL_all {xs : List D} {i : Int} {S : Sto} {Q : D → Sto → Prop} (h0 : 0 ≤ i) (h1 : i < xs.length) (h : ∀ x ∈ xs, Q x S) : W (ixD (.lst xs) (.int i)) S Q := by
  obtain ⟨x, e, hx⟩ := atI_some xs h0 h1
  rw [W_of (show ixD (.lst xs) (.int i) S = .ok x S by rw [ixD_lst, e])]
  exact h x hx
theorem W_ixT_all {xs : List D} {i : Int} {S : Sto} {Q : D → Sto → Prop} (h0 : 0 ≤ i) (h1 : i < xs.length) (h : ∀ x ∈ xs, Q x S) : W (ixD (.tup xs) (.int i)) S Q := by
  obtain ⟨x, e, hx⟩ := atI_some xs h0 h1
  rw [W_of (show ixD (.tup xs) (.int i) S = .ok x S by rw [ixD_tup, e])]
  exact h x hx
/-- a comprehension, its parts one after another: an invariant of what is made and of the store -/
theorem W_lcF {ga : D → Env → M Env} {gt : Env → M Bool} {ge : Env → M D} {ρw : Env} {xs : List D} (I : Nat → List D → Sto → Prop)
    (h : ∀ i d acc S, xs[i]? = some d → I i acc S → acc.length ≤ i → W (ga d ρw) S (fun ρ1 S1 => W (gt ρ1) S1 (fun b S2 => if b = true then W (ge ρ1) S2 (fun y S3 => I (i + 1) (acc ++ [y]) S3) else I (i + 1) acc S2))) :
    ∀ (k i : Nat) (acc : List D) (S : Sto), i ≤ xs.length → xs.length < i + k → acc.length ≤ i → xs.length ≤ SL → I i acc S → W (lcF (.fix xs) ga gt ge ρw k i acc) S (fun ys S' => I xs.length ys S' ∧ ys.length ≤ xs.length)
  | 0, i, acc, S, h0, h1, _, _, _ => by omega
  | k + 1, i, acc, S, h0, h1, h2, h3, hI => by
    by_cases hi : i < xs.length
    · have e : xs[i]? = some xs[i] := List.getElem?_eq_getElem hi
      have st := h i xs[i] acc S e hI h2
      have : lcF (.fix xs) ga gt ge ρw (k + 1) i acc S = (ga xs[i] ρw >>= fun ρ1 => gt ρ1 >>= fun b => if b = true then ge ρ1 >>= fun y => if acc.length < SL then lcF (.fix xs) ga gt ge ρw k (i + 1) (acc ++ [y]) else M.fail else lcF (.fix xs) ga gt ge ρw k (i + 1) acc) S := by
        show (match xs[i]? with | none => _ | some d => _) = _
        rw [e]
      rw [W_eq this]
      simp only [W_bind, W_ite]
      refine st.mono fun ρ1 S1 z1 => z1.mono fun b S2 z2 => ?_
      cases b with
      | true =>
        rw [if_pos rfl] at z2 ⊢
        refine z2.mono fun y S3 z3 => ?_
        rw [if_pos (by omega)]
        exact W_lcF I h k (i + 1) (acc ++ [y]) S3 hi (by omega) (by rw [List.length_append, List.length_singleton]; omega) h3 z3
      | false =>
        rw [if_neg Bool.false_ne_true] at z2 ⊢
        exact W_lcF I h k (i + 1) acc S2 hi (by omega) (by omega) h3 z2
    · have hl : i = xs.length := by omega
      subst hl
      have : lcF (.fix xs) ga gt ge ρw (k + 1) xs.length acc S = .ok acc S := by
        show (match xs[xs.length]? with | none => _ | some d => _) = _
        rw [List.getElem?_eq_none (Nat.le_refl _)]
      rw [W_of this]
      exact ⟨hI, h2⟩
theorem W_lcS {m : Bool} {ga : D → Env → M Env} {gt : Env → M Bool} {ge : Env → M D} {ρw : Env} {xs : List D} {S : Sto} {Q : D → Sto → Prop} (I : Nat → List D → Sto → Prop) (h3 : xs.length ≤ SL) (h0 : I 0 [] S)
    (h : ∀ i d acc S, xs[i]? = some d → I i acc S → acc.length ≤ i → W (ga d ρw) S (fun ρ1 S1 => W (gt ρ1) S1 (fun b S2 => if b = true then W (ge ρ1) S2 (fun y S3 => I (i + 1) (acc ++ [y]) S3) else I (i + 1) acc S2)))
    (hq : ∀ ys S', I xs.length ys S' → ys.length ≤ xs.length → W (newL m ys) S' Q) : W (lcS m ga gt ge ρw (.fix xs)) S Q := by
  unfold lcS
  show W (lcF (.fix xs) ga gt ge ρw (xs.length + 1) 0 [] >>= fun acc => newL m acc) S Q
  rw [W_bind]
  exact (W_lcF I h (xs.length + 1) 0 [] S (Nat.zero_le _) (by omega) (Nat.le_refl _) h3 h0).mono fun ys S' z => hq ys S' z.1 z.2
/-- a for, by an invariant -/
theorem W_forF {ga : D → Env → M Env} {body : Env → M Fl} {ρ : Env} {xs : List D} {S : Sto} {Q : Fl → Sto → Prop} (I : Nat → Env → Sto → Prop) (h0 : I 0 ρ S)
    (h : ∀ i d ρ S, xs[i]? = some d → I i ρ S → W (ga d ρ) S (fun ρ1 S1 => W (body ρ1) S1 (fun fl S2 => match fl with | .next ρ2 => I (i + 1) ρ2 S2 | .cont ρ2 => I (i + 1) ρ2 S2 | .brk ρ2 => Q (.next ρ2) S2 | .ret d => Q (.ret d) S2)))
    (hq : ∀ ρ' S', I xs.length ρ' S' → Q (.next ρ') S') : W (forF ga body ρ (.fix xs)) S Q := by
  have key : ∀ (k i : Nat) (ρ : Env) (S : Sto), i ≤ xs.length → xs.length < i + k → I i ρ S → W (loopF (.fix xs) ga body k i ρ) S Q := by
    intro k
    induction k with
    | zero => intro i ρ S h1 h2 _; omega
    | succ k ih =>
      intro i ρ S h1 h2 hI
      by_cases hi : i < xs.length
      · have e : xs[i]? = some xs[i] := List.getElem?_eq_getElem hi
        have st := h i xs[i] ρ S e hI
        have : loopF (.fix xs) ga body (k + 1) i ρ S = (ga xs[i] ρ >>= fun ρ1 => body ρ1 >>= fun fl => match fl with
            | .next ρ2 => loopF (.fix xs) ga body k (i + 1) ρ2
            | .cont ρ2 => loopF (.fix xs) ga body k (i + 1) ρ2
            | .brk ρ2 => pure (.next ρ2)
            | .ret d => pure (.ret d)) S := by
          show (match xs[i]? with | none => _ | some d => _) = _
          rw [e]
          all_goals rfl
        rw [W_eq this, W_bind]
        refine st.mono fun ρ1 S1 z1 => ?_
        rw [W_bind]
        refine z1.mono fun fl S2 z2 => ?_
        cases fl with
        | next ρ2 => exact ih (i + 1) ρ2 S2 hi (by omega) z2
        | cont ρ2 => exact ih (i + 1) ρ2 S2 hi (by omega) z2
        | brk ρ2 => exact z2
        | ret d => exact z2
      · have hl : i = xs.length := by omega
        subst hl
        have : loopF (.fix xs) ga body (k + 1) xs.length ρ S = .ok (.next ρ) S := by
          show (match xs[xs.length]? with | none => _ | some d => _) = _
          rw [List.getElem?_eq_none (Nat.le_refl _)]
        rw [W_of this]
        exact hq ρ S hI
  exact key (xs.length + 1) 0 ρ S (Nat.zero_le _) (by omega) h0
end MP

/-! MP30: data whose repr can be told: sizes. -/
namespace MP
open PySem L2
def ascS (x : Str) : Bool := x.cps.toList.all fun c => decide (c < 128)
def smallI (B : Nat) (i : Int) : Bool := decide (i.natAbs < B)
def keyOk (B : Nat) : Key → Bool
  | .inl i => smallI B i
  | .inr x => ascS x
def wtKey : Key → Nat
  | .inl _ => 60
  | .inr x => 10 * x.length + 60
mutual
/-- how long the repr may be -/
def wtD : D → Nat
  | .non => 60
  | .bl _ => 60
  | .int _ => 60
  | .str x => 10 * x.length + 60
  | .tup xs => wtL xs + 60
  | .lst xs => wtL xs + 60
  | .frz _ => 0
  | .dic kvs => wtK kvs + 60
  | .ref _ => 0
def wtL : List D → Nat
  | [] => 0
  | x :: xs => wtD x + 2 + wtL xs
def wtK : List (Key × D) → Nat
  | [] => 0
  | (k, x) :: xs => wtKey k + wtD x + 4 + wtK xs
end
mutual
def okD (B : Nat) : D → Bool
  | .non => true
  | .bl _ => true
  | .int i => smallI B i
  | .str x => ascS x
  | .tup xs => okL B xs
  | .lst xs => okL B xs
  | .frz _ => false
  | .dic kvs => okK B kvs
  | .ref _ => false
def okL (B : Nat) : List D → Bool
  | [] => true
  | x :: xs => okD B x && okL B xs
def okK (B : Nat) : List (Key × D) → Bool
  | [] => true
  | (k, x) :: xs => keyOk B k && okD B x && okK B xs
end
mutual
def depD : D → Nat
  | .tup xs => depL xs + 1
  | .lst xs => depL xs + 1
  | .dic kvs => depK kvs + 1
  | _ => 0
def depL : List D → Nat
  | [] => 0
  | x :: xs => max (depD x) (depL xs)
def depK : List (Key × D) → Nat
  | [] => 0
  | (_, x) :: xs => max (depD x) (depK xs)
end
theorem smallI_log {B : Nat} (hB : B ≤ 10 ^ 50) {i : Int} (h : smallI B i = true) : i.natAbs.log2 < 1920 := by
  have h : i.natAbs < 10 ^ 50 := Nat.lt_of_lt_of_le (of_decide_eq_true h) hB
  by_cases h0 : i.natAbs = 0
  · rw [h0]; decide +kernel
  · have : i.natAbs < 2 ^ 1920 := Nat.lt_trans h (by decide +kernel)
    exact (Nat.log2_lt h0).mpr this
theorem smallI_len {B : Nat} (hB : B ≤ 10 ^ 50) {i : Int} (h : smallI B i = true) : (Str.ofString (toString i)).length ≤ 60 := by
  have h : i.natAbs < 10 ^ 50 := Nat.lt_of_lt_of_le (of_decide_eq_true h) hB
  have := int_text_length_le10 (k := 50) (by decide) h
  have e : (Str.ofString (toString i)).length = (toString i).length := ofString_length _
  omega
theorem ascS_len {x : Str} (h : ascS x = true) : (reprText x).length ≤ 10 * x.length + 2 := by
  refine StrLaws.reprText_len x fun c hc => ?_
  have := of_decide_eq_true (List.all_eq_true.mp h c hc)
  have h2 : (128 : Nat) < 16 ^ 8 := by decide
  omega
theorem piled_ge (ts : List Str) : (listText ts).length ≤ piled ts + 2 := by
  unfold listText
  rw [strLen_append]
  have e1 : ((("[" : String) : Str)).length = 1 := rfl
  have e2 : ((("]" : String) : Str)).length = 1 := rfl
  rw [e2]
  cases ts with
  | nil => show (("[" : String) : Str).length + 1 ≤ _; rw [e1]; omega
  | cons t r =>
    have := textFrom_length_pos r 1 ((("[" : String) : Str) ++ (if 0 > 0 then ", " else "" : String) ++ t) (by omega)
    show (textFrom 1 ((("[" : String) : Str) ++ (if 0 > 0 then ", " else "" : String) ++ t) r).length + 1 ≤ _
    rw [this, piled_cons, strLen_append, strLen_append, e1]
    have e3 : (((if 0 > 0 then ", " else "" : String) : Str)).length = 0 := rfl
    rw [e3]
    omega
theorem piled_ge_tup (ts : List Str) : (tupleText ts).length ≤ piled ts + 3 := by
  unfold tupleText
  rw [strLen_append, strLen_append]
  have e1 : ((("(" : String) : Str)).length = 1 := rfl
  have e3 : (((if ts.length == 1 then ",)" else ")" : String) : Str)).length ≤ 2 := by split <;> decide
  rw [e1]
  by_cases h : ts = []
  · subst h
    have : (Str.join ", " []).length = 0 := rfl
    rw [this]
    omega
  · have := join_length_add ts h
    omega
theorem piled_ge_dict (ts : List Str) : (dictText ts).length ≤ piled ts + 2 := by
  unfold dictText
  rw [strLen_append, strLen_append]
  have e1 : ((("{" : String) : Str)).length = 1 := rfl
  have e3 : ((("}" : String) : Str)).length = 1 := rfl
  rw [e1, e3]
  by_cases h : ts = []
  · subst h
    have : (Str.join ", " []).length = 0 := rfl
    rw [this]
    omega
  · have := join_length_add ts h
    omega
theorem key_deep {B : Nat} (hB : B ≤ 10 ^ 50) (k : Key) (h : keyOk B k = true) : (keyP k).showable = true ∧ (keyP k).depth = 0 ∧ (keyP k).shown.length ≤ wtKey k := by
  cases k with
  | inl i =>
    refine ⟨?_, rfl, smallI_len hB h⟩
    show decide (i.natAbs.log2 < 1920) = true
    exact decide_eq_true (smallI_log hB h)
  | inr x =>
    refine ⟨rfl, rfl, ?_⟩
    show (reprText x).length ≤ 10 * x.length + 60
    have := ascS_len (x := x) h
    omega
mutual
theorem okD_deep {B : Nat} (hB : B ≤ 10 ^ 50) : ∀ (d : D), okD B d = true → ∃ p, deep d = some p ∧ p.showable = true ∧ p.depth = depD d ∧ p.shown.length ≤ wtD d
  | .non, _ => ⟨.none, rfl, rfl, rfl, by decide +kernel⟩
  | .bl b, _ => ⟨.bool b, rfl, rfl, rfl, by cases b <;> decide +kernel⟩
  | .int i, h => ⟨.int i, rfl, decide_eq_true (smallI_log hB h), rfl, smallI_len hB h⟩
  | .str x, h => ⟨.str x, rfl, rfl, rfl, by
    show (reprText x).length ≤ 10 * x.length + 60
    have := ascS_len (x := x) h
    omega⟩
  | .tup xs, h => by
    obtain ⟨ps, e, h1, h2, h3⟩ := okL_deep hB xs h
    refine ⟨.tuple ps, ?_, h1, by show PyData.depthAll ps + 1 = _; rw [h2]; rfl, ?_⟩
    · show (deeps xs).map PyData.tuple = _; rw [e]; rfl
    · show (tupleText (PyData.shownAll ps)).length ≤ wtL xs + 60
      have := piled_ge_tup (PyData.shownAll ps)
      omega
  | .lst xs, h => by
    obtain ⟨ps, e, h1, h2, h3⟩ := okL_deep hB xs h
    refine ⟨.list ps, ?_, h1, by show PyData.depthAll ps + 1 = _; rw [h2]; rfl, ?_⟩
    · show (deeps xs).map PyData.list = _; rw [e]; rfl
    · show (listText (PyData.shownAll ps)).length ≤ wtL xs + 60
      have := piled_ge (PyData.shownAll ps)
      omega
  | .frz _, h => (Bool.false_ne_true h).elim
  | .dic kvs, h => by
    obtain ⟨ps, e, h1, h2, h3⟩ := okK_deep hB kvs h
    refine ⟨.dict ps, ?_, h1, by show PyData.depthKv ps + 1 = _; rw [h2]; rfl, ?_⟩
    · show (deepk kvs).map PyData.dict = _; rw [e]; rfl
    · show (dictText (PyData.shownKv ps)).length ≤ wtK kvs + 60
      have := piled_ge_dict (PyData.shownKv ps)
      omega
  | .ref _, h => (Bool.false_ne_true h).elim
theorem okL_deep {B : Nat} (hB : B ≤ 10 ^ 50) : ∀ (xs : List D), okL B xs = true → ∃ ps, deeps xs = some ps ∧ PyData.showableAll ps = true ∧ PyData.depthAll ps = depL xs ∧ piled (PyData.shownAll ps) ≤ wtL xs
  | [], _ => ⟨[], rfl, rfl, rfl, Nat.le_refl _⟩
  | x :: xs, h => by
    have h : (okD B x && okL B xs) = true := h
    rw [Bool.and_eq_true] at h
    obtain ⟨p, e, h1, h2, h3⟩ := okD_deep hB x h.1
    obtain ⟨ps, e', h1', h2', h3'⟩ := okL_deep hB xs h.2
    refine ⟨p :: ps, ?_, ?_, ?_, ?_⟩
    · show (match deep x, deeps xs with | some a, some b => some (a :: b) | _, _ => none) = _; rw [e, e']
    · show (p.showable && PyData.showableAll ps) = true; rw [h1, h1']; rfl
    · show max p.depth (PyData.depthAll ps) = max (depD x) (depL xs); rw [h2, h2']
    · show piled (p.shown :: PyData.shownAll ps) ≤ wtD x + 2 + wtL xs
      rw [piled_cons]
      omega
theorem okK_deep {B : Nat} (hB : B ≤ 10 ^ 50) : ∀ (xs : List (Key × D)), okK B xs = true → ∃ ps, deepk xs = some ps ∧ PyData.showableKv ps = true ∧ PyData.depthKv ps = depK xs ∧ piled (PyData.shownKv ps) ≤ wtK xs
  | [], _ => ⟨[], rfl, rfl, rfl, Nat.le_refl _⟩
  | (k, x) :: xs, h => by
    have h : (keyOk B k && okD B x && okK B xs) = true := h
    rw [Bool.and_eq_true, Bool.and_eq_true] at h
    obtain ⟨p, e, h1, h2, h3⟩ := okD_deep hB x h.1.2
    obtain ⟨ps, e', h1', h2', h3'⟩ := okK_deep hB xs h.2
    obtain ⟨g1, g2, g3⟩ := key_deep hB k h.1.1
    refine ⟨(keyP k, p) :: ps, ?_, ?_, ?_, ?_⟩
    · show (match deep x, deepk xs with | some a, some b => some ((keyP k, a) :: b) | _, _ => none) = _; rw [e, e']
    · show ((keyP k).showable && p.showable && PyData.showableKv ps) = true; rw [h1, h1', g1]; rfl
    · show max (max (keyP k).depth p.depth) (PyData.depthKv ps) = max (depD x) (depK xs); rw [h2, h2', g2, Nat.zero_max]
    · show piled (((keyP k).shown ++ ": " ++ p.shown) :: PyData.shownKv ps) ≤ wtKey k + wtD x + 4 + wtK xs
      rw [piled_cons, strLen_append, strLen_append]
      have : (((": " : String) : Str)).length = 2 := rfl
      omega
end
theorem reprD_ok {B : Nat} (hB : B ≤ 10 ^ 50) {d : D} (h : okD B d = true) (h1 : depD d ≤ 150) (h2 : wtD d ≤ SL) : ∃ x, ∀ S, reprD d S = .ok (.str x) S := by
  obtain ⟨p, e, g1, g2, g3⟩ := okD_deep hB d h
  refine ⟨p.shown, fun S => ?_⟩
  unfold reprD
  rw [e]
  show (if p.showable = true ∧ p.depth ≤ 150 ∧ p.shown.length ≤ SL then pure (D.str p.shown) else M.fail : M D) S = _
  rw [if_pos ⟨g1, by omega, by omega⟩]
  rfl
/-! ### lists -/
theorem okL_all {B : Nat} : ∀ {xs : List D}, okL B xs = true ↔ ∀ x ∈ xs, okD B x = true
  | [] => ⟨fun _ _ h => (List.not_mem_nil h).elim, fun _ => rfl⟩
  | x :: xs => by
    show (okD B x && okL B xs) = true ↔ _
    rw [Bool.and_eq_true, okL_all (xs := xs)]
    simp
theorem okL_append {B : Nat} {xs ys : List D} : okL B (xs ++ ys) = (okL B xs && okL B ys) := by
  induction xs with
  | nil => rfl
  | cons x xs ih =>
    show (okD B x && okL B (xs ++ ys)) = (okD B x && okL B xs && okL B ys)
    rw [ih, Bool.and_assoc]
theorem wtL_append : ∀ (xs ys : List D), wtL (xs ++ ys) = wtL xs + wtL ys
  | [], ys => by show wtL ys = 0 + _; omega
  | x :: xs, ys => by
    show wtD x + 2 + wtL (xs ++ ys) = wtD x + 2 + wtL xs + wtL ys
    rw [wtL_append xs ys]
    omega
theorem depL_append : ∀ (xs ys : List D), depL (xs ++ ys) = max (depL xs) (depL ys)
  | [], ys => by show depL ys = max 0 _; omega
  | x :: xs, ys => by
    show max (depD x) (depL (xs ++ ys)) = max (max (depD x) (depL xs)) (depL ys)
    rw [depL_append xs ys]
    omega
theorem wtL_mem : ∀ {xs : List D} {d : D}, d ∈ xs → wtD d ≤ wtL xs
  | x :: xs, d, h => by
    show _ ≤ wtD x + 2 + wtL xs
    rcases List.mem_cons.mp h with rfl | h
    · omega
    · have := wtL_mem h; omega
theorem depL_le {n : Nat} : ∀ {xs : List D}, depL xs ≤ n ↔ ∀ x ∈ xs, depD x ≤ n
  | [] => ⟨fun _ _ h => (List.not_mem_nil h).elim, fun _ => Nat.zero_le _⟩
  | x :: xs => by
    show max (depD x) (depL xs) ≤ n ↔ _
    rw [Nat.max_le, depL_le (xs := xs)]
    simp
theorem wtL_len : ∀ (xs : List D), 2 * xs.length ≤ wtL xs
  | [] => Nat.le_refl _
  | x :: xs => by
    show 2 * (xs.length + 1) ≤ wtD x + 2 + wtL xs
    have := wtL_len xs
    omega
mutual
theorem okD_mono {B B' : Nat} (hB : B ≤ B') : ∀ (d : D), okD B d = true → okD B' d = true
  | .non, _ => rfl
  | .bl _, _ => rfl
  | .int i, h => decide_eq_true (Nat.lt_of_lt_of_le (of_decide_eq_true h) hB)
  | .str x, h => h
  | .tup xs, h => okL_mono hB xs h
  | .lst xs, h => okL_mono hB xs h
  | .frz _, h => (Bool.false_ne_true h).elim
  | .dic kvs, h => okK_mono hB kvs h
  | .ref _, h => (Bool.false_ne_true h).elim
theorem okL_mono {B B' : Nat} (hB : B ≤ B') : ∀ (xs : List D), okL B xs = true → okL B' xs = true
  | [], _ => rfl
  | x :: xs, h => by
    have h : (okD B x && okL B xs) = true := h
    rw [Bool.and_eq_true] at h
    show (okD B' x && okL B' xs) = true
    rw [okD_mono hB x h.1, okL_mono hB xs h.2]
    rfl
theorem okK_mono {B B' : Nat} (hB : B ≤ B') : ∀ (xs : List (Key × D)), okK B xs = true → okK B' xs = true
  | [], _ => rfl
  | (k, x) :: xs, h => by
    have h : (keyOk B k && okD B x && okK B xs) = true := h
    rw [Bool.and_eq_true, Bool.and_eq_true] at h
    show (keyOk B' k && okD B' x && okK B' xs) = true
    have hk : keyOk B' k = true := by
      cases k with
      | inl i => exact decide_eq_true (Nat.lt_of_lt_of_le (of_decide_eq_true h.1.1) hB)
      | inr x => exact h.1.1
    rw [okD_mono hB x h.1.2, okK_mono hB xs h.2, hk]
    rfl
end
end MP

namespace K01
open MP PySem
def b0 : Sxs :=
    (.cons (.ret (.and (.isi .int (.var 0)) (.one (.not (.isi .bool (.var 0))))))
    .nil)
def f0 : FDef := ⟨"is_whole", ["thing"], 1, b0⟩
def b1 : Sxs :=
    (.cons (.ite (.or (.cons (.not (.val (.isi .str (.var 0)))) (.cons (.not (.chn .le .le (.int 1) (.fn .len false (.cons (.var 0) .nil)) (.glb 2 (.int 8)))) .nil))) (.cons (.ret (.bl false))
    .nil) .nil)
    (.cons (.ret (.fn .all false (.cons (.lc false (.nm 1) (.seq (.var 0)) .nil (.cmp .inn (.var 1) (.glb 0 (.str "abcdefghijklmnopqrstuvwxyz"))) [1]) .nil)))
    .nil))
def f1 : FDef := ⟨"is_name", ["thing", "sign"], 1, b1⟩
def b2 : Sxs :=
    (.cons (.ite (.or (.cons (.not (.chn .le .le (.int 1) (.fn .len false (.cons (.var 0) .nil)) (.glb 3 (.int 40)))) (.cons (.not (.val (.fn .all false (.cons (.lc false (.nm 1) (.seq (.var 0)) .nil (.cmp .inn (.var 1) (.glb 1 (.str "0123456789"))) [1]) .nil)))) .nil))) (.cons (.ret (.bl false))
    .nil) .nil)
    (.cons (.ret (.or (.cmp .eq (.var 0) (.str "0")) (.one (.cmp .ne (.ix (.var 0) (.int 0)) (.str "0")))))
    .nil))
def f2 : FDef := ⟨"are_figures", ["text", "sign"], 1, b2⟩
def b3 : Sxs :=
    (.cons (.ite (.not (.val (.isi .str (.var 0)))) (.cons (.ret (.bl false))
    .nil) .nil)
    (.cons (.set 1 (.me .split false (.var 0) (.cons (.str ".") .nil)))
    (.cons (.ite (.or (.cons (.cmp .ne (.fn .len false (.cons (.var 1) .nil)) (.int 3)) (.cons (.not (.val (.call 1 (.cons (.ix (.var 1) (.int 0)) .nil)))) (.cons (.not (.val (.call 1 (.cons (.ix (.var 1) (.int 2)) .nil)))) .nil)))) (.cons (.ret (.bl false))
    .nil) .nil)
    (.cons (.ret (.and (.call 2 (.cons (.ix (.var 1) (.int 1)) .nil)) (.one (.cmp .ne (.ix (.var 1) (.int 1)) (.str "0")))))
    .nil))))
def f3 : FDef := ⟨"is_far", ["thing", "words"], 1, b3⟩
def b4 : Sxs :=
    (.cons (.ret (.or (.call 1 (.cons (.var 0) .nil)) (.one (.call 3 (.cons (.var 0) .nil)))))
    .nil)
def f4 : FDef := ⟨"is_called", ["thing"], 1, b4⟩
def b5 : Sxs :=
    (.cons (.ret (.and (.isi .str (.var 0)) (.one (.cmp .inn (.var 0) (.glb 6 (.tup [.str "run", .str "gone"]))))))
    .nil)
def f5 : FDef := ⟨"is_mark", ["thing"], 1, b5⟩
def b6 : Sxs :=
    (.cons (.ret (.and (.isi .tup (.var 0)) (.one (.fn .all false (.cons (.lc false (.nm 1) (.seq (.var 0)) .nil (.call 7 (.cons (.var 1) .nil)) [1]) .nil)))))
    .nil)
def f6 : FDef := ⟨"are_terms", ["thing", "one"], 1, b6⟩
def b7 : Sxs :=
    (.cons (.ite (.or (.cons (.not (.val (.isi .tup (.var 0)))) (.cons (.cmp .lt (.fn .len false (.cons (.var 0) .nil)) (.int 2)) (.cons (.not (.val (.isi .str (.ix (.var 0) (.int 0))))) .nil)))) (.cons (.ret (.bl false))
    .nil) .nil)
    (.cons (.asg (.tp [1, 2, 3] (some (2, false))) (.var 0))
    (.cons (.ite (.cmp .eq (.var 1) (.glb 7 (.str "at"))) (.cons (.ret (.and (.cmp .eq (.var 3) (.lst false .nil)) (.and (.call 0 (.cons (.var 2) .nil)) (.one (.cmp .ge (.var 2) (.int 0))))))
    .nil) .nil)
    (.cons (.ite (.cmp .eq (.var 1) (.glb 8 (.str "world"))) (.cons (.ret (.and (.cmp .eq (.var 3) (.lst false .nil)) (.and (.call 0 (.cons (.var 2) .nil)) (.one (.chn .le .le (.int 0) (.var 2) (.glb 16 (.int 9)))))))
    .nil) .nil)
    (.cons (.ite (.cmp .inn (.var 1) (.tup (.cons (.glb 9 (.str "to")) (.cons (.glb 10 (.str "fun")) (.cons (.glb 11 (.str "give")) .nil))))) (.cons (.ret (.and (.cmp .eq (.fn .len false (.cons (.var 3) .nil)) (.int 2)) (.and (.call 5 (.cons (.var 2) .nil)) (.and (.call 7 (.cons (.ix (.var 3) (.int 0)) .nil)) (.one (.call 7 (.cons (.ix (.var 3) (.int 1)) .nil)))))))
    .nil) .nil)
    (.cons (.ite (.cmp .inn (.var 1) (.tup (.cons (.glb 12 (.str "family")) (.cons (.glb 13 (.str "call")) .nil)))) (.cons (.ret (.and (.cmp .eq (.fn .len false (.cons (.var 3) .nil)) (.int 1)) (.and (.call 4 (.cons (.var 2) .nil)) (.one (.call 6 (.cons (.ix (.var 3) (.int 0)) .nil))))))
    .nil) .nil)
    (.cons (.ite (.cmp .eq (.var 1) (.glb 14 (.str "shape"))) (.cons (.ret (.and (.cmp .eq (.fn .len false (.cons (.var 3) .nil)) (.int 2)) (.and (.call 4 (.cons (.var 2) .nil)) (.and (.call 1 (.cons (.ix (.var 3) (.int 0)) .nil)) (.one (.call 6 (.cons (.ix (.var 3) (.int 1)) .nil)))))))
    .nil) .nil)
    (.cons (.ret (.and (.cmp .eq (.var 1) (.glb 15 (.str "hole"))) (.and (.cmp .eq (.var 3) (.lst false .nil)) (.one (.call 1 (.cons (.var 2) .nil))))))
    .nil))))))))
def f7 : FDef := ⟨"is_term", ["thing", "word", "first", "rest"], 1, b7⟩
def b8 : Sxs :=
    (.cons (.set 1 (.fn .list false (.cons (.sl false (.var 0) .non (.som (.int 63))) .nil)))
    (.cons (.ret (.lst true (.cons (.rev true (.var 1)) (.cons (.bin .add false (.fn .sum false (.cons (.lc false (.nm 2) (.seq (.var 1)) .nil (.bin .mod false (.var 2) (.int 1000033)) [2]) .nil)) (.bin .mul false (.int 6007) (.fn .len false (.cons (.var 1) .nil)))) (.cons (.int 0) .nil)))))
    .nil))
def f8 : FDef := ⟨"_law_deck", ["_law_script", "_law_cells", "_law_cell"], 1, b8⟩
def b9 : Sxs :=
    (.cons (.put (.var 0) (.int 2) (.bin .add false (.ix (.var 0) (.int 2)) (.int 1)))
    (.cons (.set 2 (.ix (.var 0) (.int 1)))
    (.cons (.ite (.cmp .ne (.ix (.var 0) (.int 0)) (.lst false .nil)) (.cons (.set 2 (.me .pop false (.ix (.var 0) (.int 0)) .nil))
    (.cons (.ite (.cmp .ge (.var 2) (.bin .pow false (.int 10) (.int 18))) (.cons (.exp (.me .append false (.ix (.var 0) (.int 0)) (.cons (.bin .fdiv false (.var 2) (.var 1)) .nil)))
    (.cons (.ret (.bin .mod false (.var 2) (.var 1)))
    .nil)) .nil)
    .nil)) .nil)
    (.cons (.set 3 (.bin .mod false (.bin .mul false (.bin .add false (.bin .add false (.bin .mod false (.var 2) (.int 2147483629)) (.bin .mul false (.int 92821) (.ix (.var 0) (.int 2)))) (.int 17)) (.int 48271)) (.int 2147483647)))
    (.cons (.set 3 (.bin .mod false (.bin .add false (.bin .add false (.bin .mul false (.var 3) (.var 3)) (.bin .mul false (.int 69621) (.ix (.var 0) (.int 2)))) (.int 29)) (.int 2147483587)))
    (.cons (.ret (.bin .mod false (.bin .fdiv false (.bin .mod false (.bin .add false (.bin .mul false (.var 3) (.var 3)) (.bin .mul false (.int 40692) (.var 3))) (.int 2147483563)) (.int 64)) (.var 1)))
    .nil))))))
def f9 : FDef := ⟨"_law_draw", ["_law_deck_here", "_law_ways", "_law_cell", "_law_mixed"], 2, b9⟩
def b10 : Sxs :=
    (.cons (.ret (.ix (.var 1) (.call 9 (.cons (.var 0) (.cons (.fn .len false (.cons (.var 1) .nil)) .nil)))))
    .nil)
def f10 : FDef := ⟨"_law_pick", ["_law_deck_here", "_law_some"], 2, b10⟩
def b11 : Sxs :=
    (.cons (.set 1 (.str "abcdefghijklmnopqrstuvwxyz"))
    (.cons (.set 2 (.ix (.lst false (.cons (.int 1) (.cons (.int 8) (.cons (.bin .add false (.int 1) (.call 9 (.cons (.var 0) (.cons (.int 8) .nil)))) (.cons (.int 2) .nil))))) (.call 9 (.cons (.var 0) (.cons (.int 4) .nil)))))
    (.cons (.set 3 (.call 9 (.cons (.var 0) (.cons (.int 26) .nil))))
    (.cons (.set 4 (.call 9 (.cons (.var 0) (.cons (.int 3) .nil))))
    (.cons (.ret (.me .join false (.str "") (.cons (.lc false (.nm 5) (.rng (.cons (.var 2) .nil)) .nil (.ix (.var 1) (.bin .mod false (.bin .add false (.var 3) (.bin .mul false (.var 4) (.var 5))) (.int 26))) [5]) .nil)))
    .nil)))))
def f11 : FDef := ⟨"_law_name", ["_law_deck_here", "_law_letters", "_law_many", "_law_first", "_law_step", "_law_k"], 1, b11⟩
def b12 : Sxs :=
    (.cons (.set 1 (.ix (.lst false (.cons (.int 1) (.cons (.int 9) (.cons (.int 10) (.cons (.bin .add false (.int 1) (.call 9 (.cons (.var 0) (.cons (.int 120) .nil)))) (.cons (.bin .pow false (.int 10) (.int 39)) .nil)))))) (.call 9 (.cons (.var 0) (.cons (.int 5) .nil)))))
    (.cons (.ret (.bin .add false (.bin .add false (.bin .add false (.bin .add false (.call 11 (.cons (.var 0) .nil)) (.str ".")) (.fn .str false (.cons (.var 1) .nil))) (.str ".")) (.call 11 (.cons (.var 0) .nil))))
    .nil))
def f12 : FDef := ⟨"_law_far", ["_law_deck_here", "_law_number"], 1, b12⟩
def b13 : Sxs :=
    (.cons (.ret (.ife (.cmp .eq (.call 9 (.cons (.var 0) (.cons (.int 3) .nil))) (.int 0)) (.call 12 (.cons (.var 0) .nil)) (.call 11 (.cons (.var 0) .nil))))
    .nil)
def f13 : FDef := ⟨"_law_called", ["_law_deck_here"], 1, b13⟩
def b14 : Sxs :=
    (.cons (.set 1 (.call 9 (.cons (.var 0) (.cons (.int 3) .nil))))
    (.cons (.set 2 (.ix (.lst false (.cons (.call 9 (.cons (.var 0) (.cons (.int 3) .nil))) (.cons (.call 9 (.cons (.var 0) (.cons (.int 14) .nil))) (.cons (.bin .pow false (.int 10) (.int 39)) .nil)))) (.call 9 (.cons (.var 0) (.cons (.int 3) .nil)))))
    (.cons (.ret (.ix (.lst false (.cons (.tup (.cons (.str "at") (.cons (.var 2) .nil))) (.cons (.tup (.cons (.str "world") (.cons (.call 9 (.cons (.var 0) (.cons (.int 10) .nil))) .nil))) (.cons (.tup (.cons (.str "hole") (.cons (.call 11 (.cons (.var 0) .nil)) .nil))) .nil)))) (.var 1)))
    .nil)))
def f14 : FDef := ⟨"_law_leaf", ["_law_deck_here", "_law_way", "_law_number"], 1, b14⟩
def b15 : Sxs :=
    (.cons (.par [3, 4] (.tup (.cons (.call 9 (.cons (.var 0) (.cons (.int 9) .nil))) (.cons (.call 9 (.cons (.var 0) (.cons (.int 5) .nil))) .nil))))
    (.cons (.ite (.or (.cons (.cmp .eq (.var 1) (.int 0)) (.cons (.cmp .lt (.var 3) (.int 2)) (.cons (.cmp .lt (.ix (.var 2) (.int 0)) (.int 2)) .nil)))) (.cons (.ret (.call 14 (.cons (.var 0) .nil)))
    .nil) .nil)
    (.cons (.set 5 (.ife (.cmp .lt (.var 3) (.int 6)) (.int 2) (.fn .min false (.cons (.var 4) (.cons (.ix (.var 2) (.int 0)) .nil)))))
    (.cons (.put (.var 2) (.int 0) (.bin .sub false (.ix (.var 2) (.int 0)) (.var 5)))
    (.cons (.set 6 (.fn .tuple false (.cons (.lc false (.nm 7) (.rng (.cons (.var 5) .nil)) .nil (.call 15 (.cons (.var 0) (.cons (.bin .sub false (.var 1) (.int 1)) (.cons (.var 2) .nil)))) [7]) .nil)))
    (.cons (.ite (.cmp .lt (.var 3) (.int 6)) (.cons (.ret (.bin .add false (.tup (.cons (.ix (.lst false (.cons (.str "to") (.cons (.str "fun") (.cons (.str "give") (.cons (.str "give") .nil))))) (.bin .sub false (.var 3) (.int 2))) (.cons (.ix (.lst false (.cons (.str "run") (.cons (.str "gone") .nil))) (.call 9 (.cons (.var 0) (.cons (.int 2) .nil)))) .nil))) (.var 6)))
    .nil) .nil)
    (.cons (.ite (.cmp .eq (.var 3) (.int 8)) (.cons (.ret (.tup (.cons (.str "shape") (.cons (.call 13 (.cons (.var 0) .nil)) (.cons (.call 11 (.cons (.var 0) .nil)) (.cons (.var 6) .nil))))))
    .nil) .nil)
    (.cons (.ret (.tup (.cons (.ix (.lst false (.cons (.str "family") (.cons (.str "call") .nil))) (.bin .sub false (.var 3) (.int 6))) (.cons (.call 13 (.cons (.var 0) .nil)) (.cons (.var 6) .nil)))))
    .nil))))))))
def f15 : FDef := ⟨"_law_term", ["_law_deck_here", "_law_deep", "_law_left", "_law_way", "_law_wanted", "_law_many", "_law_parts", "_law_k"], 3, b15⟩
def b16 : Sxs :=
    (.cons (.set 2 (.call 9 (.cons (.var 0) (.cons (.int 9) .nil))))
    (.cons (.set 3 (.lst false (.cons .non (.cons (.bl true) (.cons (.bl false) (.cons (.int 0) (.cons (.neg 1) (.cons (.str "") (.cons (.str "at") (.cons (.tup .nil) (.cons (.lst false .nil) (.cons .dic0 (.cons (.tup (.cons (.str "at") .nil)) (.cons (.tup (.cons (.str "at") (.cons (.int 0) .nil))) (.cons (.lst false (.cons (.str "at") (.cons (.int 0) .nil))) (.cons (.str "run") (.cons (.int 10) .nil)))))))))))))))))
    (.cons (.ite (.cmp .eq (.call 9 (.cons (.var 0) (.cons (.int 4) .nil))) (.int 0)) (.cons (.ret (.ix (.var 3) (.call 9 (.cons (.var 0) (.cons (.int 15) .nil)))))
    .nil) .nil)
    (.cons (.ite (.val (.isi .str (.var 1))) (.cons (.set 5 (.lst false (.cons (.bin .add false (.var 1) (.str "a")) (.cons (.sl false (.var 1) .non (.som (.neg 1))) (.cons (.me .upper false (.var 1) .nil) (.cons (.bin .add false (.var 1) (.str ".1.a")) (.cons (.str "a.01.b") (.cons (.str "a.0.b") (.cons (.lst false (.cons (.var 1) .nil)) (.cons (.tup (.cons (.var 1) .nil)) (.cons (.str "a.1.") .nil)))))))))))
    (.cons (.ret (.ix (.var 5) (.var 2)))
    .nil)) .nil)
    (.cons (.ite (.val (.isi .int (.var 1))) (.cons (.set 5 (.lst false (.cons (.bin .add false (.var 1) (.int 1)) (.cons (.bin .sub false (.var 1) (.int 1)) (.cons (.bin .sub false (.neg 1) (.var 1)) (.cons (.cmp .eq (.var 1) (.int 1)) (.cons (.fn .str false (.cons (.var 1) .nil)) (.cons (.lst false (.cons (.var 1) .nil)) (.cons .non (.cons (.bin .add false (.var 1) (.int 10)) (.cons (.tup (.cons (.var 1) .nil)) .nil)))))))))))
    (.cons (.ret (.ix (.var 5) (.var 2)))
    .nil)) .nil)
    (.cons (.ite (.or (.cons (.not (.val (.isi .tup (.var 1)))) (.cons (.cmp .eq (.var 1) (.tup .nil)) .nil))) (.cons (.ret (.ix (.var 3) (.var 2)))
    .nil) .nil)
    (.cons (.set 4 (.call 9 (.cons (.var 0) (.cons (.fn .len false (.cons (.var 1) .nil)) .nil))))
    (.cons (.set 5 (.lst false (.cons (.bin .add false (.sl false (.var 1) .non (.som (.var 4))) (.sl false (.var 1) (.som (.bin .add false (.var 4) (.int 1))) .non)) (.cons (.bin .add false (.sl false (.var 1) .non (.som (.bin .add false (.var 4) (.int 1)))) (.sl false (.var 1) (.som (.var 4)) .non)) (.cons (.rev false (.var 1)) (.cons (.fn .list false (.cons (.var 1) .nil)) (.cons (.bin .add false (.var 1) (.tup (.cons (.tup (.cons (.str "at") (.cons (.int 0) .nil))) .nil))) .nil)))))))
    (.cons (.ret (.ix (.bin .add false (.var 5) (.lst false (.cons (.sl false (.var 1) .non (.som (.neg 1))) (.cons (.tup (.cons (.var 1) .nil)) (.cons (.bin .add false (.var 1) (.tup (.cons (.int 0) .nil))) (.cons (.dic1 0 1) .nil)))))) (.var 2)))
    .nil)))))))))
def f16 : FDef := ⟨"_law_odd", ["_law_deck_here", "_law_thing", "_law_way", "_law_some", "_law_at", "_law_near"], 2, b16⟩
def b17 : Sxs :=
    (.cons (.par [2, 3] (.tup (.cons (.call 9 (.cons (.var 0) (.cons (.int 7) .nil))) (.cons (.cmp .eq (.call 9 (.cons (.var 0) (.cons (.int 4) .nil))) (.int 1)) .nil))))
    (.cons (.ite (.and (.cons (.val (.isi .tup (.var 1))) (.cons (.cmp .ne (.var 1) (.tup .nil)) (.cons (.cmp .lt (.var 2) (.int 5)) .nil)))) (.cons (.set 4 (.ix (.lst false (.cons (.call 9 (.cons (.var 0) (.cons (.fn .len false (.cons (.var 1) .nil)) .nil))) (.cons (.bin .sub false (.fn .len false (.cons (.var 1) .nil)) (.int 1)) .nil))) (.fn .int false (.cons (.var 3) .nil))))
    (.cons (.ret (.bin .add false (.bin .add false (.sl false (.var 1) .non (.som (.var 4))) (.tup (.cons (.call 17 (.cons (.var 0) (.cons (.ix (.var 1) (.var 4)) .nil))) .nil))) (.sl false (.var 1) (.som (.bin .add false (.var 4) (.int 1))) .non)))
    .nil)) .nil)
    (.cons (.ret (.call 16 (.cons (.var 0) (.cons (.var 1) .nil))))
    .nil)))
def f17 : FDef := ⟨"_law_bent", ["_law_deck_here", "_law_thing", "_law_way", "_law_last", "_law_at"], 2, b17⟩
def b18 : Sxs :=
    (.cons (.ret (.and (.isi .int (.var 0)) (.one (.not (.isi .bool (.var 0))))))
    .nil)
def f18 : FDef := ⟨"_law_is_whole", ["_law_thing"], 1, b18⟩
def b19 : Sxs :=
    (.cons (.ite (.or (.cons (.not (.val (.isi .str (.var 0)))) (.cons (.cmp .eq (.var 0) (.str "")) (.cons (.cmp .gt (.fn .len false (.cons (.var 0) .nil)) (.int 8)) .nil)))) (.cons (.ret (.bl false))
    .nil) .nil)
    (.cons (.ret (.cmp .eq (.lc false (.nm 1) (.seq (.var 0)) (.cons (.not (.chn .le .le (.str "a") (.var 1) (.str "z"))) .nil) (.var 1) [1]) (.lst false .nil)))
    .nil))
def f19 : FDef := ⟨"_law_is_name", ["_law_thing", "_law_sign"], 1, b19⟩
def b20 : Sxs :=
    (.cons (.ite (.or (.cons (.not (.val (.isi .str (.var 0)))) (.cons (.cmp .ne (.me .count false (.var 0) (.cons (.str ".") .nil)) (.int 2)) .nil))) (.cons (.ret (.bl false))
    .nil) .nil)
    (.cons (.asg (.tp [1, 2, 3] none) (.me .split false (.var 0) (.cons (.str ".") .nil)))
    (.cons (.ite (.or (.cons (.cmp .inn (.sl false (.var 2) .non (.som (.int 1))) (.tup (.cons (.str "") (.cons (.str "0") .nil)))) (.cons (.cmp .gt (.fn .len false (.cons (.var 2) .nil)) (.int 40)) (.cons (.cmp .ne (.lc false (.nm 4) (.seq (.var 2)) (.cons (.cmp .notIn (.var 4) (.str "0123456789")) .nil) (.var 4) [4]) (.lst false .nil)) .nil)))) (.cons (.ret (.bl false))
    .nil) .nil)
    (.cons (.ret (.and (.call 19 (.cons (.var 1) .nil)) (.one (.call 19 (.cons (.var 3) .nil)))))
    .nil))))
def f20 : FDef := ⟨"_law_is_far", ["_law_thing", "_law_first", "_law_number", "_law_last", "_law_sign"], 1, b20⟩
def b21 : Sxs :=
    (.cons (.ret (.and (.isi .str (.var 0)) (.one (.cmp .inn (.var 0) (.tup (.cons (.str "run") (.cons (.str "gone") .nil)))))))
    .nil)
def f21 : FDef := ⟨"_law_is_mark", ["_law_thing"], 1, b21⟩
def b22 : Sxs :=
    (.cons (.ret (.and (.isi .tup (.var 0)) (.one (.cmp .eq (.lc false (.nm 1) (.seq (.var 0)) (.cons (.not (.val (.call 23 (.cons (.var 1) .nil)))) .nil) (.var 1) [1]) (.lst false .nil)))))
    .nil)
def f22 : FDef := ⟨"_law_are_terms", ["_law_thing", "_law_one"], 1, b22⟩
def b23 : Sxs :=
    (.cons (.ite (.or (.cons (.not (.val (.isi .tup (.var 0)))) (.cons (.cmp .eq (.var 0) (.tup .nil)) (.cons (.not (.val (.isi .str (.ix (.var 0) (.int 0))))) .nil)))) (.cons (.ret (.bl false))
    .nil) .nil)
    (.cons (.par [1, 2] (.tup (.cons (.ix (.var 0) (.int 0)) (.cons (.fn .len false (.cons (.var 0) .nil)) .nil))))
    (.cons (.ite (.cmp .inn (.var 1) (.tup (.cons (.str "at") (.cons (.str "world") .nil)))) (.cons (.set 3 (.and (.cmp .eq (.var 2) (.int 2)) (.and (.call 18 (.cons (.ix (.var 0) (.int 1)) .nil)) (.one (.cmp .ge (.ix (.var 0) (.int 1)) (.int 0))))))
    (.cons (.ret (.and (.var 3) (.one (.or (.cmp .eq (.var 1) (.str "at")) (.one (.cmp .lt (.ix (.var 0) (.int 1)) (.int 10)))))))
    .nil)) .nil)
    (.cons (.ite (.cmp .inn (.var 1) (.tup (.cons (.str "to") (.cons (.str "fun") (.cons (.str "give") .nil))))) (.cons (.ret (.and (.cmp .eq (.var 2) (.int 4)) (.and (.call 21 (.cons (.ix (.var 0) (.int 1)) .nil)) (.and (.call 23 (.cons (.ix (.var 0) (.int 2)) .nil)) (.one (.call 23 (.cons (.ix (.var 0) (.int 3)) .nil)))))))
    .nil) .nil)
    (.cons (.ite (.cmp .eq (.var 1) (.str "hole")) (.cons (.ret (.and (.cmp .eq (.var 2) (.int 2)) (.one (.call 19 (.cons (.ix (.var 0) (.int 1)) .nil)))))
    .nil) .nil)
    (.cons (.ite (.or (.cons (.cmp .notIn (.var 1) (.tup (.cons (.str "family") (.cons (.str "call") (.cons (.str "shape") .nil))))) (.cons (.cmp .ne (.var 2) (.bin .add false (.int 3) (.fn .int false (.cons (.cmp .eq (.var 1) (.str "shape")) .nil)))) .nil))) (.cons (.ret (.bl false))
    .nil) .nil)
    (.cons (.ite (.and (.cons (.not (.val (.call 19 (.cons (.ix (.var 0) (.int 1)) .nil)))) (.cons (.not (.val (.call 20 (.cons (.ix (.var 0) (.int 1)) .nil)))) .nil))) (.cons (.ret (.bl false))
    .nil) .nil)
    (.cons (.ret (.and (.or (.cmp .ne (.var 1) (.str "shape")) (.one (.call 19 (.cons (.ix (.var 0) (.int 2)) .nil)))) (.one (.call 22 (.cons (.ix (.var 0) (.neg 1)) .nil)))))
    .nil))))))))
def f23 : FDef := ⟨"_law_is_term", ["_law_thing", "_law_word", "_law_many", "_law_good"], 1, b23⟩
def b24 : Sxs :=
    (.cons (.set 1 (.fn .repr false (.cons (.var 0) .nil)))
    (.cons (.set 2 (.fn .repr false (.cons (.lst false (.cons (.call 23 (.cons (.var 0) .nil)) (.cons (.call 19 (.cons (.var 0) .nil)) (.cons (.call 20 (.cons (.var 0) .nil)) .nil)))) .nil)))
    (.cons (.forr (.nm 3) (.rng (.cons (.int 2) .nil)) (.cons (.ite (.or (.cons (.cmp .ne (.fn .repr false (.cons (.lst false (.cons (.call 7 (.cons (.var 0) .nil)) (.cons (.call 1 (.cons (.var 0) .nil)) (.cons (.call 3 (.cons (.var 0) .nil)) .nil)))) .nil)) (.var 2)) (.cons (.cmp .ne (.fn .repr false (.cons (.var 0) .nil)) (.var 1)) .nil))) (.cons (.ret (.bl false))
    .nil) .nil)
    .nil))
    (.cons (.ret (.bl true))
    .nil))))
def f24 : FDef := ⟨"_law_right", ["_law_thing", "_law_kept", "_law_due", "_law_again"], 1, b24⟩
def b25 : Sxs :=
    (.cons (.par [1, 2] (.tup (.cons (.call 11 (.cons (.var 0) .nil)) (.cons (.call 12 (.cons (.var 0) .nil)) .nil))))
    (.cons (.ite (.or (.cons (.cmp .isNot (.call 1 (.cons (.var 1) .nil)) (.bl true)) (.cons (.cmp .isNot (.call 3 (.cons (.var 2) .nil)) (.bl true)) .nil))) (.cons (.ret (.bl false))
    .nil) .nil)
    (.cons (.set 3 (.lst false (.cons (.str "abcdefgh") (.cons (.str "abcdefghi") (.cons (.bin .add false (.var 1) (.var 2)) (.cons (.bin .add false (.bin .add false (.var 2) (.str ".")) (.var 1)) (.cons (.bin .add false (.bin .add false (.var 1) (.str ".")) (.var 2)) (.cons (.sl false (.var 2) (.som (.int 1)) .non) (.cons (.sl false (.var 2) .non (.som (.neg 1))) .nil)))))))))
    (.cons (.set 3 (.bin .add true (.var 3) (.lst false (.cons (.repl "." "" (.var 2)) (.cons (.bin .add false (.var 1) (.str ".")) (.cons (.bin .add false (.str ".") (.var 1)) (.cons (.bin .add false (.var 1) (.str ".1")) (.cons (.bin .add false (.bin .add false (.var 1) (.str ".-1.")) (.var 1)) .nil))))))))
    (.cons (.exp (.me .append false (.var 3) (.cons (.bin .add false (.bin .add false (.var 1) (.str ".1 .")) (.var 1)) .nil)))
    (.cons (.set 3 (.bin .add false (.var 3) (.lst false (.cons (.bin .add false (.var 1) (.str "\n")) (.cons (.bin .add false (.var 2) (.str "\n")) (.cons (.bin .add false (.str " ") (.var 1)) (.cons (.bin .add false (.bin .add false (.bin .add false (.var 1) (.str ".")) (.var 1)) (.str ".1")) .nil)))))))
    (.cons (.set 3 (.bin .add false (.var 3) (.lst false (.cons (.bin .add false (.bin .add false (.bin .add false (.bin .add false (.var 1) (.str ".")) (.bin .mul false (.str "9") (.int 40))) (.str ".")) (.var 1)) (.cons (.bin .add false (.bin .add false (.bin .add false (.bin .add false (.var 1) (.str ".")) (.bin .mul false (.str "9") (.int 41))) (.str ".")) (.var 1)) .nil)))))
    (.cons (.set 3 (.bin .add false (.var 3) (.lst false (.cons (.call 16 (.cons (.var 0) (.cons (.var 1) .nil))) (.cons (.call 16 (.cons (.var 0) (.cons (.var 2) .nil))) (.cons (.repl "." ".0" (.var 2)) (.cons (.repl "." ".." (.var 2)) .nil)))))))
    (.cons (.ret (.cmp .eq (.lc false (.nm 4) (.seq (.var 3)) (.cons (.not (.val (.call 24 (.cons (.var 4) .nil)))) .nil) (.var 4) [4]) (.lst false .nil)))
    .nil)))))))))
def f25 : FDef := ⟨"_law_names_right", ["_law_deck_here", "_law_near", "_law_far_here", "_law_some", "_law_thing"], 1, b25⟩
def b26 : Sxs :=
    (.cons (.set 1 (.call 8 (.cons (.var 0) .nil)))
    (.cons (.set 2 (.lc false (.nm 7) (.rng (.cons (.int 8) .nil)) .nil (.call 9 (.cons (.var 1) (.cons (.int 2) .nil))) [7]))
    (.cons (.forr (.nm 3) (.seq (.var 2)) (.cons (.set 6 (.call 15 (.cons (.var 1) (.cons (.ix (.lst false (.cons (.int 2) (.cons (.int 5) (.cons (.int 11) .nil)))) (.call 9 (.cons (.var 1) (.cons (.int 3) .nil)))) (.cons (.lst true (.cons (.call 9 (.cons (.var 1) (.cons (.int 80) .nil))) .nil)) .nil)))))
    (.cons (.ite (.or (.cons (.cmp .isNot (.call 7 (.cons (.var 6) .nil)) (.bl true)) (.cons (.not (.val (.call 24 (.cons (.var 6) .nil)))) .nil))) (.cons (.ret (.bl false))
    .nil) .nil)
    (.cons (.forr (.nm 7) (.rng (.cons (.int 3) .nil)) (.cons (.set 10 (.call 17 (.cons (.var 1) (.cons (.var 6) .nil))))
    (.cons (.ite (.cmp .eq (.var 3) (.int 1)) (.cons (.set 10 (.call 17 (.cons (.var 1) (.cons (.var 10) .nil))))
    .nil) .nil)
    (.cons (.ite (.not (.val (.call 24 (.cons (.var 10) .nil)))) (.cons (.ret (.bl false))
    .nil) .nil)
    .nil))))
    (.cons (.ite (.not (.val (.call 25 (.cons (.var 1) .nil)))) (.cons (.ret (.bl false))
    .nil) .nil)
    .nil)))))
    (.cons (.set 4 (.lst false (.cons .non (.cons (.bl true) (.cons (.int 0) (.cons (.str "") (.cons (.str "at") (.cons (.tup .nil) (.cons (.lst false .nil) (.cons .dic0 (.cons (.tup (.cons (.str "at") .nil)) (.cons (.tup (.cons (.str "at") (.cons (.int 0) (.cons (.int 0) .nil)))) (.cons (.tup (.cons (.str "world") (.cons (.int 9) .nil))) (.cons (.tup (.cons (.str "world") (.cons (.int 10) .nil))) (.cons (.tup (.cons (.str "at") (.cons (.bin .pow false (.int 10) (.int 39)) .nil))) .nil)))))))))))))))
    (.cons (.set 4 (.bin .add false (.var 4) (.lst false (.cons (.tup (.cons (.str "at") (.cons (.bl true) .nil))) (.cons (.tup (.cons (.str "world") (.cons (.bl false) .nil))) (.cons (.tup (.cons (.str "family") (.cons (.str "a") (.cons (.tup .nil) .nil)))) (.cons (.tup (.cons (.str "family") (.cons (.str "a") (.cons (.lst false .nil) .nil)))) (.cons (.tup (.cons (.str "call") (.cons (.str "a") .nil))) .nil))))))))
    (.cons (.set 4 (.bin .add true (.var 4) (.lst false (.cons (.tup (.cons (.str "give") (.cons (.str "run") (.cons (.tup (.cons (.str "at") (.cons (.int 0) .nil))) (.cons (.tup (.cons (.str "at") (.cons (.int 0) .nil))) .nil))))) (.cons (.tup (.cons (.str "give") (.cons (.tup (.cons (.str "at") (.cons (.int 0) .nil))) (.cons (.tup (.cons (.str "at") (.cons (.int 0) .nil))) .nil)))) .nil)))))
    (.cons (.exp (.me .append false (.var 4) (.cons (.tup (.cons (.str "shape") (.cons (.str "a") (.cons (.str "b.1.c") (.cons (.tup .nil) .nil))))) .nil)))
    (.cons (.set 4 (.bin .add false (.var 4) (.lst false (.cons (.tup (.cons (.str "hole") (.cons (.str "a.1.b") .nil))) (.cons (.tup (.cons (.str "open") (.cons (.str "a") (.cons (.tup .nil) (.cons (.tup (.cons (.str "world") (.cons (.int 0) .nil))) .nil))))) (.cons (.tup (.cons (.str "take") .nil)) (.cons (.tup (.cons (.str "to") (.cons (.str "run") (.cons (.tup (.cons (.str "at") (.cons (.int 0) .nil))) .nil)))) .nil)))))))
    (.cons (.set 4 (.bin .add false (.var 4) (.lst false (.cons (.tup (.cons (.tup (.cons (.str "at") (.cons (.int 0) .nil))) .nil)) (.cons (.tup (.cons (.str "open") (.cons (.int 0) .nil))) (.cons (.tup (.cons (.str "due") .nil)) .nil))))))
    (.cons (.forr (.nm 5) (.seq (.lst false (.cons (.tup (.cons (.str "at") (.cons (.int 0) .nil))) (.cons (.tup (.cons (.str "at") (.cons (.neg 1) .nil))) (.cons (.tup (.cons (.str "at") (.cons (.bl true) .nil))) .nil))))) (.cons (.set 8 (.var 5))
    (.cons (.forr (.nm 9) (.rng (.cons (.int 70) .nil)) (.cons (.set 8 (.tup (.cons (.str "fun") (.cons (.str "run") (.cons (.tup (.cons (.str "world") (.cons (.int 0) .nil))) (.cons (.var 8) .nil))))))
    .nil))
    (.cons (.set 4 (.bin .add false (.var 4) (.lst false (.cons (.var 8) (.cons (.tup (.cons (.str "call") (.cons (.str "a") (.cons (.bin .add false (.bin .mul false (.tup (.cons (.tup (.cons (.str "at") (.cons (.int 0) .nil))) .nil)) (.int 449)) (.tup (.cons (.var 5) .nil))) .nil)))) .nil)))))
    .nil))))
    (.cons (.ret (.cmp .eq (.lc false (.nm 11) (.seq (.var 4)) (.cons (.not (.val (.call 24 (.cons (.var 11) .nil)))) .nil) (.var 11) [11]) (.lst false .nil)))
    .nil)))))))))))
def f26 : FDef := ⟨"law", ["_law_script", "_law_deck_here", "_law_twices", "_law_twice", "_law_things", "_law_last", "_law_good", "_law_turn", "_law_chain", "_law_k", "_law_bent_here", "_law_thing"], 1, b26⟩
def P : List FDef := [f0, f1, f2, f3, f4, f5, f6, f7, f8, f9, f10, f11, f12, f13, f14, f15, f16, f17, f18, f19, f20, f21, f22, f23, f24, f25, f26]
def gls : List (Str × D) := [("LETTERS", .str "abcdefghijklmnopqrstuvwxyz"), ("FIGURES", .str "0123456789"), ("MOST_NAME", .int 8), ("MOST_FIGURES", .int 40), ("RUN", .str "run"), ("GONE", .str "gone"), ("MARKS", .tup [.str "run", .str "gone"]), ("AT", .str "at"), ("WORLD", .str "world"), ("TO", .str "to"), ("FUN", .str "fun"), ("GIVE", .str "give"), ("FAMILY", .str "family"), ("CALL", .str "call"), ("SHAPE", .str "shape"), ("HOLE", .str "hole"), ("MOST_WORLD", .int 9)]

def T : Tab := tabOf P gls true
theorem d0 : BindOk ["thing"] := by
  intro x q args body scope kV doc pm cdv ct an us ha hl
  match args, us, ha, hl with
  | [⟨_, _, _⟩], [_], ha, _ => cases ha; rfl
theorem d1 : BindOk ["thing"] := by
  intro x q args body scope kV doc pm cdv ct an us ha hl
  match args, us, ha, hl with
  | [⟨_, _, _⟩], [_], ha, _ => cases ha; rfl
theorem d2 : BindOk ["text"] := by
  intro x q args body scope kV doc pm cdv ct an us ha hl
  match args, us, ha, hl with
  | [⟨_, _, _⟩], [_], ha, _ => cases ha; rfl
theorem d3 : BindOk ["thing"] := by
  intro x q args body scope kV doc pm cdv ct an us ha hl
  match args, us, ha, hl with
  | [⟨_, _, _⟩], [_], ha, _ => cases ha; rfl
theorem d4 : BindOk ["thing"] := by
  intro x q args body scope kV doc pm cdv ct an us ha hl
  match args, us, ha, hl with
  | [⟨_, _, _⟩], [_], ha, _ => cases ha; rfl
theorem d5 : BindOk ["thing"] := by
  intro x q args body scope kV doc pm cdv ct an us ha hl
  match args, us, ha, hl with
  | [⟨_, _, _⟩], [_], ha, _ => cases ha; rfl
theorem d6 : BindOk ["thing"] := by
  intro x q args body scope kV doc pm cdv ct an us ha hl
  match args, us, ha, hl with
  | [⟨_, _, _⟩], [_], ha, _ => cases ha; rfl
theorem d7 : BindOk ["thing"] := by
  intro x q args body scope kV doc pm cdv ct an us ha hl
  match args, us, ha, hl with
  | [⟨_, _, _⟩], [_], ha, _ => cases ha; rfl
theorem d8 : BindOk ["_law_script"] := by
  intro x q args body scope kV doc pm cdv ct an us ha hl
  match args, us, ha, hl with
  | [⟨_, _, _⟩], [_], ha, _ => cases ha; rfl
theorem d9 : BindOk ["_law_deck_here", "_law_ways"] := by
  intro x q args body scope kV doc pm cdv ct an us ha hl
  match args, us, ha, hl with
  | [⟨_, _, _⟩, ⟨_, _, _⟩], [_, _], ha, _ => cases ha; rfl
theorem d10 : BindOk ["_law_deck_here", "_law_some"] := by
  intro x q args body scope kV doc pm cdv ct an us ha hl
  match args, us, ha, hl with
  | [⟨_, _, _⟩, ⟨_, _, _⟩], [_, _], ha, _ => cases ha; rfl
theorem d11 : BindOk ["_law_deck_here"] := by
  intro x q args body scope kV doc pm cdv ct an us ha hl
  match args, us, ha, hl with
  | [⟨_, _, _⟩], [_], ha, _ => cases ha; rfl
theorem d12 : BindOk ["_law_deck_here"] := by
  intro x q args body scope kV doc pm cdv ct an us ha hl
  match args, us, ha, hl with
  | [⟨_, _, _⟩], [_], ha, _ => cases ha; rfl
theorem d13 : BindOk ["_law_deck_here"] := by
  intro x q args body scope kV doc pm cdv ct an us ha hl
  match args, us, ha, hl with
  | [⟨_, _, _⟩], [_], ha, _ => cases ha; rfl
theorem d14 : BindOk ["_law_deck_here"] := by
  intro x q args body scope kV doc pm cdv ct an us ha hl
  match args, us, ha, hl with
  | [⟨_, _, _⟩], [_], ha, _ => cases ha; rfl
theorem d15 : BindOk ["_law_deck_here", "_law_deep", "_law_left"] := by
  intro x q args body scope kV doc pm cdv ct an us ha hl
  match args, us, ha, hl with
  | [⟨_, _, _⟩, ⟨_, _, _⟩, ⟨_, _, _⟩], [_, _, _], ha, _ => cases ha; rfl
theorem d16 : BindOk ["_law_deck_here", "_law_thing"] := by
  intro x q args body scope kV doc pm cdv ct an us ha hl
  match args, us, ha, hl with
  | [⟨_, _, _⟩, ⟨_, _, _⟩], [_, _], ha, _ => cases ha; rfl
theorem d17 : BindOk ["_law_deck_here", "_law_thing"] := by
  intro x q args body scope kV doc pm cdv ct an us ha hl
  match args, us, ha, hl with
  | [⟨_, _, _⟩, ⟨_, _, _⟩], [_, _], ha, _ => cases ha; rfl
theorem d18 : BindOk ["_law_thing"] := by
  intro x q args body scope kV doc pm cdv ct an us ha hl
  match args, us, ha, hl with
  | [⟨_, _, _⟩], [_], ha, _ => cases ha; rfl
theorem d19 : BindOk ["_law_thing"] := by
  intro x q args body scope kV doc pm cdv ct an us ha hl
  match args, us, ha, hl with
  | [⟨_, _, _⟩], [_], ha, _ => cases ha; rfl
theorem d20 : BindOk ["_law_thing"] := by
  intro x q args body scope kV doc pm cdv ct an us ha hl
  match args, us, ha, hl with
  | [⟨_, _, _⟩], [_], ha, _ => cases ha; rfl
theorem d21 : BindOk ["_law_thing"] := by
  intro x q args body scope kV doc pm cdv ct an us ha hl
  match args, us, ha, hl with
  | [⟨_, _, _⟩], [_], ha, _ => cases ha; rfl
theorem d22 : BindOk ["_law_thing"] := by
  intro x q args body scope kV doc pm cdv ct an us ha hl
  match args, us, ha, hl with
  | [⟨_, _, _⟩], [_], ha, _ => cases ha; rfl
theorem d23 : BindOk ["_law_thing"] := by
  intro x q args body scope kV doc pm cdv ct an us ha hl
  match args, us, ha, hl with
  | [⟨_, _, _⟩], [_], ha, _ => cases ha; rfl
theorem d24 : BindOk ["_law_thing"] := by
  intro x q args body scope kV doc pm cdv ct an us ha hl
  match args, us, ha, hl with
  | [⟨_, _, _⟩], [_], ha, _ => cases ha; rfl
theorem d25 : BindOk ["_law_deck_here"] := by
  intro x q args body scope kV doc pm cdv ct an us ha hl
  match args, us, ha, hl with
  | [⟨_, _, _⟩], [_], ha, _ => cases ha; rfl
theorem d26 : BindOk ["_law_script"] := by
  intro x q args body scope kV doc pm cdv ct an us ha hl
  match args, us, ha, hl with
  | [⟨_, _, _⟩], [_], ha, _ => cases ha; rfl
theorem binds : ∀ p ∈ P, BindOk (p.N.take p.np) := by
  intro p hp
  simp only [P, List.mem_cons, List.not_mem_nil, or_false] at hp
  rcases hp with rfl | rfl | rfl | rfl | rfl | rfl | rfl | rfl | rfl | rfl | rfl | rfl | rfl | rfl | rfl | rfl | rfl | rfl | rfl | rfl | rfl | rfl | rfl | rfl | rfl | rfl | rfl
  · exact d0
  · exact d1
  · exact d2
  · exact d3
  · exact d4
  · exact d5
  · exact d6
  · exact d7
  · exact d8
  · exact d9
  · exact d10
  · exact d11
  · exact d12
  · exact d13
  · exact d14
  · exact d15
  · exact d16
  · exact d17
  · exact d18
  · exact d19
  · exact d20
  · exact d21
  · exact d22
  · exact d23
  · exact d24
  · exact d25
  · exact d26
end K01

namespace K01
open MP PySem
def lowB (c : Nat) : Bool := decide (97 ≤ c) && decide (c ≤ 122)
def nameS (x : Str) : Bool := decide (1 ≤ x.length) && decide (x.length ≤ 8) && x.cps.toList.all lowB
def nameB : D → Bool
  | .str x => nameS x
  | _ => false
/-- a text that may be looked at -/
def fitD : D → Prop
  | .str x => x.length ≤ SL
  | _ => True
theorem letters_mem (c : Nat) : decide (c ∈ (Str.ofString "abcdefghijklmnopqrstuvwxyz").cps.toList) = lowB c := by
  have e : (Str.ofString "abcdefghijklmnopqrstuvwxyz").cps.toList = [97, 98, 99, 100, 101, 102, 103, 104, 105, 106, 107, 108, 109, 110, 111, 112, 113, 114, 115, 116, 117, 118, 119, 120, 121, 122] := by decide +kernel
  rw [e]
  unfold lowB
  rw [← Bool.decide_and]
  apply decide_eq_decide.mpr
  simp only [List.mem_cons, List.not_mem_nil, or_false]
  omega
def figB (c : Nat) : Bool := decide (48 ≤ c) && decide (c ≤ 57)
theorem figures_mem (c : Nat) : decide (c ∈ (Str.ofString "0123456789").cps.toList) = figB c := by
  have e : (Str.ofString "0123456789").cps.toList = [48, 49, 50, 51, 52, 53, 54, 55, 56, 57] := by decide +kernel
  rw [e]
  unfold figB
  rw [← Bool.decide_and]
  apply decide_eq_decide.mpr
  simp only [List.mem_cons, List.not_mem_nil, or_false]
  omega
/-- the i-th sign's test, over a text's signs -/
def ofSign (p : Nat → Bool) : D → Bool
  | .str x => match x.cps.toList with
    | [c] => p c
    | _ => false
  | _ => false
theorem signs_mem {x : Str} {d : D} (h : d ∈ signsL x) : ∃ c, c ∈ x.cps.toList ∧ d = .str ⟨#[c]⟩ := by
  unfold signsL at h
  obtain ⟨c, hc, rfl⟩ := List.mem_map.mp h
  exact ⟨c, hc, rfl⟩
theorem signs_map (p : Nat → Bool) (x : Str) : ((signsL x).map fun d => D.bl (ofSign p d)) = (x.cps.toList.map p).map D.bl := by
  unfold signsL
  rw [List.map_map, List.map_map]
  rfl
theorem signs_len (x : Str) : (signsL x).length = x.length := by
  unfold signsL
  rw [List.length_map, Array.length_toList]
  rfl
theorem is_name_ok (n : Nat) (d : D) (S : Sto) (h : fitD d) : runF P (n + 1) 1 [d] S = .ok (.bl (nameB d)) S := by
  show bodyD 2 (evSs (runF P n) b1) [d] S = _
  cases d with
  | str x =>
    have hx : x.length ≤ SL := h
    have lc : lcS false (Tg.nm 1).ev (evA (runF P n) .nil) (evE (runF P n) (Ex.cmp Cop.inn (Ex.var 1) (Ex.glb 0 (D.str (Str.ofString "abcdefghijklmnopqrstuvwxyz"))))) (wipeE [some (D.str x), none] [1]) (.fix (signsL x)) S = .ok (.lst ((x.cps.toList.map lowB).map D.bl)) S := by
      rw [lcS_pure (t := fun _ => true) (e := fun d => D.bl (ofSign lowB d)) (fun d hd => ?_) (by rw [signs_len]; exact hx)]
      · rw [List.filter_eq_self.mpr (fun _ _ => rfl), signs_map]
      · obtain ⟨c, hc, rfl⟩ := signs_mem hd
        refine ⟨_, rfl, rfl, fun _ => ?_⟩
        show R.ok (D.bl (decide (c ∈ (Str.ofString "abcdefghijklmnopqrstuvwxyz").cps.toList))) S = .ok (D.bl (lowB c)) S
        rw [letters_mem]
    by_cases h1 : 1 ≤ x.length
    · by_cases h2 : x.length ≤ 8
      · have h1' : (1 : Int) ≤ (x.length : Int) := by omega
        have h2' : (x.length : Int) ≤ 8 := by omega
        simp [bodyD, b1, startD, lenD_str hx, isiD, h1', h2', lc, allD_bools, nameB, nameS, h1, h2]
      · have h1' : (1 : Int) ≤ (x.length : Int) := by omega
        have h2' : ¬ (x.length : Int) ≤ 8 := by omega
        simp [bodyD, b1, startD, lenD_str hx, isiD, h1', h2', nameB, nameS, h1, h2]
    · have h1' : ¬ (1 : Int) ≤ (x.length : Int) := by omega
      simp [bodyD, b1, startD, lenD_str hx, isiD, h1', nameB, nameS, h1]
  | _ => rfl
/-! ### figures -/
def figS (x : Str) : Bool := decide (1 ≤ x.length) && decide (x.length ≤ 40) && x.cps.toList.all figB && (decide (x = "0") || !(x.cps.toList.head? == some 48))
theorem sign0 (c : Nat) : (some c == some 48) = decide ((⟨#[c]⟩ : Str) = "0") := by
  have e : ("0" : Str) = ⟨#[48]⟩ := by decide +kernel
  rw [e]
  by_cases h : c = 48
  · subst h; rfl
  · have h2 : ¬ (⟨#[c]⟩ : Str) = ⟨#[48]⟩ := fun z => h (by injection z with z; simpa using z)
    rw [decide_eq_false h2]
    simp [h]
theorem are_figures_ok (n : Nat) (x : Str) (S : Sto) (hx : x.length ≤ SL) : runF P (n + 1) 2 [.str x] S = .ok (.bl (figS x)) S := by
  show bodyD 2 (evSs (runF P n) b2) [.str x] S = _
  have lc : lcS false (Tg.nm 1).ev (evA (runF P n) .nil) (evE (runF P n) (Ex.cmp Cop.inn (Ex.var 1) (Ex.glb 1 (D.str (Str.ofString "0123456789"))))) (wipeE [some (D.str x), none] [1]) (.fix (signsL x)) S = .ok (.lst ((x.cps.toList.map figB).map D.bl)) S := by
    rw [lcS_pure (t := fun _ => true) (e := fun d => D.bl (ofSign figB d)) (fun d hd => ?_) (by rw [signs_len]; exact hx)]
    · rw [List.filter_eq_self.mpr (fun _ _ => rfl), signs_map]
    · obtain ⟨c, hc, rfl⟩ := signs_mem hd
      refine ⟨_, rfl, rfl, fun _ => ?_⟩
      show R.ok (D.bl (decide (c ∈ (Str.ofString "0123456789").cps.toList))) S = .ok (D.bl (figB c)) S
      rw [figures_mem]
  by_cases h1 : 1 ≤ x.length
  · by_cases h2 : x.length ≤ 40
    · have h1' : (1 : Int) ≤ (x.length : Int) := by omega
      have h2' : (x.length : Int) ≤ 40 := by omega
      obtain ⟨c, r, hc⟩ : ∃ c r, x.cps.toList = c :: r := by
        cases q : x.cps.toList with
        | nil =>
          have : x.length = 0 := by
            show x.cps.size = 0
            rw [← Array.length_toList, q]
            rfl
          omega
        | cons c r => exact ⟨c, r, rfl⟩
      have h0 : ixD (.str x) (.int 0) S = .ok (.str ⟨#[c]⟩) S := by
        rw [ixD_str hx, show (0 : Int) = ((0 : Nat) : Int) from rfl, atI_nat, hc]
        rfl
      have hall : allD [.lst ((x.cps.toList.map figB).map D.bl)] S = .ok (.bl (x.cps.toList.all figB)) S := by
        rw [List.map_map]
        exact allD_map figB _ S
      have hh : (x.cps.toList.head? == some 48) = decide ((⟨#[c]⟩ : Str) = "0") := by rw [hc]; exact sign0 c
      unfold figS
      rw [hh]
      generalize x.cps.toList.all figB = A at hall
      have he : eqD (.str x) (.str "0") S = .ok (.bl (decide (x = "0"))) S := rfl
      have hn : neD (.str ⟨#[c]⟩) (.str "0") S = .ok (.bl (!decide ((⟨#[c]⟩ : Str) = "0"))) S := rfl
      generalize decide (x = "0") = B at he
      generalize decide ((⟨#[c]⟩ : Str) = "0") = C at hn
      cases A <;> cases B <;> simp [bodyD, b2, startD, lenD_str hx, isiD, h1', h2', lc, hall, -List.map_map, h1, h2, h0, he, hn, -eq_str, -ne_str]
    · have h1' : (1 : Int) ≤ (x.length : Int) := by omega
      have h2' : ¬ (x.length : Int) ≤ 40 := by omega
      simp [bodyD, b2, startD, lenD_str hx, isiD, h1', h2', figS, h1, h2]
  · have h1' : ¬ (1 : Int) ≤ (x.length : Int) := by omega
    simp [bodyD, b2, startD, lenD_str hx, isiD, h1', figS, h1]
end K01

namespace K01
open MP PySem L2
abbrev dot : Str := "."
theorem dot_len : dot.length = 1 := by decide +kernel
theorem kind_dot : Builtin.Str.strKind dot = 1 := by decide +kernel
theorem kind_ge (x : Str) : 1 ≤ Builtin.Str.strKind x := by
  unfold Builtin.Str.strKind
  split
  · exact Nat.le_refl _
  · split <;> decide
def occ (x : Str) : List Nat := Builtin.Str.occurrences x dot 0 x.length (x.length + 1)
theorem count_occ (x : Str) : Txt.count x dot = ((occ x).length : Nat) := rfl
theorem occ_empty {x : Str} (h : x.length < 1) : occ x = [] := by
  obtain ⟨c⟩ := x
  have e : c = #[] := Array.eq_empty_of_size_eq_zero (by
    have : c.size < 1 := h
    omega)
  subst e
  decide +kernel
theorem split_eq (x : Str) : Txt.split x dot = if (occ x).isEmpty = true then [x] else Builtin.Str.partsBetween x (occ x) 1 := by
  unfold Txt.split
  by_cases h : x.length < dot.length
  · rw [decide_eq_true h, Bool.true_or, if_pos rfl, occ_empty (by rw [dot_len] at h; exact h)]
    rfl
  · have k : ¬ Builtin.Str.strKind x < Builtin.Str.strKind dot := by
      have := kind_ge x
      rw [kind_dot]
      omega
    rw [decide_eq_false h, decide_eq_false k, Bool.or_false, if_neg Bool.false_ne_true]
    rfl
theorem split_len (x : Str) : (Txt.split x dot).length = (occ x).length + 1 := by
  rw [split_eq]
  cases q : occ x with
  | nil => rfl
  | cons a r =>
    rw [if_neg (by simp), ← q]
    exact PySem.length_partsBetween x (occ x) 1
theorem sub_len (x : Str) (i j : Nat) : (Builtin.Str.strSub x i j).length ≤ x.length := by
  show (Builtin.Str.strSub x i j).cps.size ≤ x.cps.size
  rw [← Array.length_toList, ← Array.length_toList, StrLaws.strSub_toList, List.length_take, List.length_drop]
  omega
theorem split_word {x w : Str} (h : w ∈ Txt.split x dot) : w.length ≤ x.length := by
  rw [split_eq] at h
  split at h
  · obtain rfl : w = x := by simpa using h
    exact Nat.le_refl _
  · unfold Builtin.Str.partsBetween at h
    obtain ⟨p, _, rfl⟩ := List.mem_map.mp h
    exact sub_len x _ _
/-- far names -/
def farW : List Str → Bool
  | [a, b, c] => nameS a && nameS c && figS b && !decide (b = "0")
  | _ => false
def farB : D → Bool
  | .str x => farW (Txt.split x dot)
  | _ => false
theorem splitD_dot {x : Str} (h : x.length + 2 ≤ SL) (S : Sto) : splitD false (.str x) [.str "."] S = .ok (.lst ((Txt.split x dot).map D.str)) S := by
  show (if (dot.length == 0) = false ∧ x.length + 2 ≤ SL then newL false ((Txt.split x dot).map D.str) S else .bad) = _
  rw [if_pos ⟨by rw [dot_len]; rfl, h⟩]
  rfl
theorem is_far_ok (n : Nat) (d : D) (S : Sto) (h : ∀ x, d = .str x → x.length + 2 ≤ SL) : runF P (n + 2) 3 [d] S = .ok (.bl (farB d)) S := by
  show bodyD 2 (evSs (runF P (n + 1)) b3) [d] S = _
  cases d with
  | str x =>
    have hx := h x rfl
    have hs := splitD_dot hx S
    have hw := fun w (hw : w ∈ Txt.split x dot) => split_word hw
    show _ = R.ok (D.bl (farW (Txt.split x dot))) S
    generalize Txt.split x dot = ws at hs hw
    have name : ∀ w ∈ ws, runF P (n + 1) 1 [.str w] S = .ok (.bl (nameS w)) S := fun w hm => is_name_ok n (.str w) S (by have := hw w hm; show w.length ≤ SL; omega)
    have figs : ∀ w ∈ ws, runF P (n + 1) 2 [.str w] S = .ok (.bl (figS w)) S := fun w hm => are_figures_ok n w S (by have := hw w hm; omega)
    match ws, hs, hw, name, figs with
    | [], hs, hw, name, figs => simp [bodyD, b3, startD, isiD, Me.ev, hs, farW]
    | [a], hs, hw, name, figs => simp [bodyD, b3, startD, isiD, Me.ev, hs, farW]
    | [a, b], hs, hw, name, figs => simp [bodyD, b3, startD, isiD, Me.ev, hs, farW]
    | [a, b, c], hs, hw, name, figs =>
      have na := name a (by simp)
      have nc := name c (by simp)
      have fb := figs b (by simp)
      have i0 : atI [D.str a, D.str b, D.str c] 0 = some (.str a) := rfl
      have i1 : atI [D.str a, D.str b, D.str c] 1 = some (.str b) := rfl
      have i2 : atI [D.str a, D.str b, D.str c] 2 = some (.str c) := rfl
      have hn : neD (.str b) (.str "0") S = .ok (.bl (!decide (b = "0"))) S := rfl
      show _ = R.ok (D.bl (nameS a && nameS c && figS b && !decide (b = "0"))) S
      generalize nameS a = A at na ⊢
      generalize nameS c = C at nc ⊢
      generalize figS b = B at fb ⊢
      generalize decide (b = "0") = Z at hn ⊢
      cases A <;> cases C <;> cases B <;> simp [bodyD, b3, startD, isiD, Me.ev, hs, i0, i1, i2, na, nc, fb, hn, -ne_str]
    | a :: b :: c :: d :: r, hs, hw, name, figs =>
      have hne : ¬ ((r.length : Int) + 1 + 1 + 1 + 1 = 3) := by omega
      simp [bodyD, b3, startD, isiD, Me.ev, hs, farW, hne]
  | _ => rfl
end K01

namespace K01
open MP PySem L2
theorem eq_nil (ys : List D) (S : Sto) : eqD (.lst ys) (.lst []) S = .ok (.bl ys.isEmpty) S := by cases ys <;> rfl
theorem ne_nil (ys : List D) (S : Sto) : neD (.lst ys) (.lst []) S = .ok (.bl (!ys.isEmpty)) S := by cases ys <;> rfl
theorem ltS_one (a b : Nat) : ltS ⟨#[a]⟩ ⟨#[b]⟩ = decide (a < b) := by
  unfold ltS
  show decide ([a] < [b]) = _
  rw [StrLaws.lt_cons_cons, StrLaws.lt_nil_nil, Bool.and_false, Bool.or_false]
theorem strA : ("a" : Str) = ⟨#[97]⟩ := by decide +kernel
theorem strZ : ("z" : Str) = ⟨#[122]⟩ := by decide +kernel
theorem empty_iff (x : Str) : decide (x = "") = decide (x.length = 0) := by
  apply decide_eq_decide.mpr
  constructor
  · intro h; subst h; decide +kernel
  · intro h
    obtain ⟨c⟩ := x
    have e : c = #[] := Array.eq_empty_of_size_eq_zero h
    subst e
    decide +kernel
theorem filter_none (p : Nat → Bool) (l : List Nat) : (l.filter fun c => !p c).isEmpty = l.all p := by
  induction l with
  | nil => rfl
  | cons c l ih =>
    cases q : p c with
    | true => rw [List.filter_cons_of_neg (by simp [q]), ih]; simp [q]
    | false => rw [List.filter_cons_of_pos (by simp [q])]; simp [q]
theorem signs_filter (p : Nat → Bool) (x : Str) : (((signsL x).filter fun d => !ofSign p d).map id).isEmpty = x.cps.toList.all p := by
  rw [List.map_id, ← filter_none]
  unfold signsL
  rw [List.filter_map, List.isEmpty_map]
  rfl
theorem law_name_ok (n : Nat) (d : D) (S : Sto) (h : fitD d) : runF P (n + 1) 19 [d] S = .ok (.bl (nameB d)) S := by
  show bodyD 2 (evSs (runF P n) b19) [d] S = _
  cases d with
  | str x =>
    have hx : x.length ≤ SL := h
    have lc : lcS false (Tg.nm 1).ev (evA (runF P n) (.cons (.not (.chn .le .le (.str "a") (.var 1) (.str "z"))) .nil)) (evE (runF P n) (.var 1)) (wipeE [some (D.str x), none] [1]) (.fix (signsL x)) S = .ok (.lst (((signsL x).filter fun d => !ofSign lowB d).map id)) S := by
      rw [lcS_pure (t := fun d => !ofSign lowB d) (e := id) (fun d hd => ?_) (by rw [signs_len]; exact hx)]
      obtain ⟨c, hc, rfl⟩ := signs_mem hd
      refine ⟨_, rfl, ?_, fun _ => rfl⟩
      have e1 : leD (.str "a") (.str ⟨#[c]⟩) S = .ok (.bl (!decide (c < 97))) S := by
        show R.ok (D.bl (!ltS ⟨#[c]⟩ "a")) S = _
        rw [strA, ltS_one]
      have e2 : leD (.str ⟨#[c]⟩) (.str "z") S = .ok (.bl (!decide (122 < c))) S := by
        show R.ok (D.bl (!ltS "z" ⟨#[c]⟩)) S = _
        rw [strZ, ltS_one]
      show _ = R.ok (!lowB c) S
      have e3 : lowB c = (!decide (c < 97) && !decide (122 < c)) := by
        unfold lowB
        by_cases h1 : c < 97 <;> by_cases h2 : 122 < c <;> simp [h1, h2] <;> omega
      rw [e3]
      generalize decide (c < 97) = A at e1 ⊢
      generalize decide (122 < c) = B at e2 ⊢
      cases A <;> cases B <;> simp [e1, e2, wipeE, -le_str]
    have he : eqD (.str x) (.str "") S = .ok (.bl (decide (x.length = 0))) S := by rw [eq_str, empty_iff]
    have hl := signs_filter lowB x
    show _ = R.ok (D.bl (nameS x)) S
    unfold nameS
    rw [← hl]
    by_cases h1 : x.length = 0
    · simp [bodyD, b19, startD, isiD, he, h1, -eq_str]
    · by_cases h2 : x.length ≤ 8
      · have h2' : ¬ (8 : Int) < (x.length : Int) := by omega
        have h1' : 1 ≤ x.length := by omega
        simp [bodyD, b19, startD, isiD, he, h1, -eq_str, lenD_str hx, h2', lc, newL, eq_nil, h1', h2, -List.map_id, -List.isEmpty_map]
      · have h2' : (8 : Int) < (x.length : Int) := by omega
        simp [bodyD, b19, startD, isiD, he, h1, -eq_str, lenD_str hx, h2', h2]
  | _ => rfl
end K01

namespace K01
open MP PySem L2
theorem sliceE_str {z : Str} (h : z.length ≤ SL) (m : Bool) (lo hi : Option Int) (S : Sto) : sliceE m (.str z) lo hi S = .ok (.str (cutS z lo hi)) S := by
  show (if z.length ≤ SL then pure (D.str (cutS z lo hi)) else M.fail : M D) S = _
  rw [if_pos h]
  rfl
theorem cut1 (z : Str) : cutS z none (some 1) = ⟨(z.cps.toList.take 1).toArray⟩ := by
  unfold cutS
  have e : HT.sIx z.length z.length (some 1) = min 1 z.length := HT.sIx_nat _ _ 1
  rw [HT.sIx_none, e, List.drop_zero, Nat.sub_zero]
  cases q : z.cps.toList with
  | nil => simp
  | cons c r =>
    have : z.length = r.length + 1 := by
      show z.cps.size = _
      rw [← Array.length_toList, q]
      rfl
    rw [this, Nat.min_eq_left (by omega)]
/-- the first sign is none, or 0 -/
def zeroB (z : Str) : Bool := match z.cps.toList with
  | [] => true
  | c :: _ => decide (c = 48)
theorem in_first {z : Str} (S : Sto) : inD (.str (cutS z none (some 1))) (.tup [.str "", .str "0"]) S = .ok (.bl (zeroB z)) S := by
  rw [cut1]
  have e0 : ("" : Str) = ⟨#[]⟩ := by decide +kernel
  have e1 : ("0" : Str) = ⟨#[48]⟩ := by decide +kernel
  unfold zeroB
  cases q : z.cps.toList with
  | nil => rw [e0, e1]; rfl
  | cons c r =>
    show R.ok (D.bl (("" : Str) == ⟨#[c]⟩ || (("0" : Str) == ⟨#[c]⟩ || false))) S = _
    have h0 : (("" : Str) == ⟨#[c]⟩) = false := by
      rw [e0]
      apply beq_false_of_ne
      intro h
      injection h with h
      simp at h
    have h1 : (("0" : Str) == ⟨#[c]⟩) = decide (c = 48) := by
      rw [e1]
      by_cases h : c = 48
      · subst h; simp
      · rw [decide_eq_false h]
        apply beq_false_of_ne
        intro z
        injection z with z
        simp at z
        exact h z.symm
    rw [h0, h1, Bool.or_false, Bool.false_or]
theorem fig_eq (b : Str) : (figS b && !decide (b = "0")) = (!zeroB b && decide (b.length ≤ 40) && b.cps.toList.all figB) := by
  unfold figS zeroB
  cases q : b.cps.toList with
  | nil =>
    have : b.length = 0 := by
      show b.cps.size = 0
      rw [← Array.length_toList, q]
      rfl
    simp [this]
  | cons c r =>
    have hl : 1 ≤ b.length := by
      show 1 ≤ b.cps.size
      rw [← Array.length_toList, q]
      simp
    have hb : b = "0" → c = 48 := by
      intro h
      subst h
      have e : (Str.ofString "0").cps.toList = [48] := by decide +kernel
      rw [e] at q
      injection q with q _
      exact q.symm
    by_cases hc : c = 48
    · subst hc
      by_cases h0 : b = "0" <;> simp [h0, hl]
    · have h0 : ¬ b = "0" := fun z => hc (hb z)
      simp [h0, hl, hc]
theorem countD_dot (x : Str) (S : Sto) : countD (.str x) [.str "."] S = .ok (.int ((occ x).length : Nat)) S := rfl
theorem law_far_ok (n : Nat) (d : D) (S : Sto) (h : ∀ x, d = .str x → x.length + 2 ≤ SL) : runF P (n + 2) 20 [d] S = .ok (.bl (farB d)) S := by
  show bodyD 5 (evSs (runF P (n + 1)) b20) [d] S = _
  cases d with
  | str x =>
    have hx := h x rfl
    have hs := splitD_dot hx S
    have hcnt := countD_dot x S
    have hw := fun w (hw : w ∈ Txt.split x dot) => split_word hw
    have hlen := split_len x
    show _ = R.ok (D.bl (farW (Txt.split x dot))) S
    generalize occ x = oc at hcnt hlen
    generalize Txt.split x dot = ws at hs hw hlen ⊢
    by_cases h3 : oc.length = 2
    · have h3' : (oc.length : Int) = 2 := by omega
      rw [h3] at hlen
      match ws, hs, hw, hlen with
      | [a, b, c], hs, hw, hlen =>
        have hb : b.length ≤ SL := by have := hw b (by simp); omega
        have na := law_name_ok n (.str a) S (by have := hw a (by simp); show a.length ≤ SL; omega)
        have nc := law_name_ok n (.str c) S (by have := hw c (by simp); show c.length ≤ SL; omega)
        have na : runF P (n + 1) 19 [.str a] S = .ok (.bl (nameS a)) S := na
        have nc : runF P (n + 1) 19 [.str c] S = .ok (.bl (nameS c)) S := nc
        have lc : lcS false (Tg.nm 4).ev (evA (runF P (n + 1)) (.cons (.cmp .notIn (.var 4) (.str "0123456789")) .nil)) (evE (runF P (n + 1)) (.var 4)) (wipeE [some (D.str x), some (D.str a), some (D.str b), some (D.str c), none] [4]) (.fix (signsL b)) S = .ok (.lst (((signsL b).filter fun d => !ofSign figB d).map id)) S := by
          rw [lcS_pure (t := fun d => !ofSign figB d) (e := id) (fun d hd => ?_) (by rw [signs_len]; exact hb)]
          obtain ⟨c', hc', rfl⟩ := signs_mem hd
          refine ⟨_, rfl, ?_, fun _ => rfl⟩
          have e1 : notInD (.str ⟨#[c']⟩) (.str "0123456789") S = .ok (.bl (!figB c')) S := by
            show R.ok (D.bl (!decide (c' ∈ (Str.ofString "0123456789").cps.toList))) S = _
            rw [figures_mem]
          show _ = R.ok (!figB c') S
          generalize figB c' = A at e1 ⊢
          cases A <;> simp [e1, wipeE]
        have hin := in_first (z := b) S
        have hl := signs_filter figB b
        have hne := ne_nil (((signsL b).filter fun d => !ofSign figB d).map id) S
        rw [hl] at hne
        have e : farW [a, b, c] = (nameS a && nameS c && (!zeroB b && decide (b.length ≤ 40) && b.cps.toList.all figB)) := by
          show (nameS a && nameS c && figS b && !decide (b = "0")) = _
          rw [Bool.and_assoc, fig_eq]
        rw [e]
        have hsl := sliceE_str hb false none (some 1) S
        generalize nameS a = A at na ⊢
        generalize nameS c = C at nc ⊢
        generalize zeroB b = Z at hin ⊢
        generalize b.cps.toList.all figB = F at hne ⊢
        generalize ((signsL b).filter fun d => !ofSign figB d).map id = L at lc hne
        have hu : unpackD 3 none (.lst [.str a, .str b, .str c]) S = .ok [.str a, .str b, .str c] S := rfl
        by_cases h40 : b.length ≤ 40
        · have h40' : ¬ (40 : Int) < (b.length : Int) := by omega
          cases A <;> cases C <;> cases Z <;> cases F <;> simp [bodyD, b20, startD, isiD, Me.ev, hs, hcnt, h3', Tg.ev, hu, setNames, evO, asI, hsl, hin, lenD_str hb, h40', h40, lc, newL, hne, na, nc]
        · have h40' : (40 : Int) < (b.length : Int) := by omega
          cases A <;> cases C <;> cases Z <;> cases F <;> simp [bodyD, b20, startD, isiD, Me.ev, hs, hcnt, h3', Tg.ev, hu, setNames, evO, asI, hsl, hin, lenD_str hb, h40', h40]
    · have h3' : ¬ (oc.length : Int) = 2 := by omega
      have e : farW ws = false := by
        match ws, hlen with
        | [], _ => rfl
        | [_], _ => rfl
        | [_, _], _ => rfl
        | [_, _, _], hlen => exact absurd hlen (by simp; omega)
        | _ :: _ :: _ :: _ :: _, _ => rfl
      rw [e]
      simp [bodyD, b20, startD, isiD, Me.ev, hcnt, h3']
  | _ => rfl
end K01

namespace K01
open MP PySem L2
/-! ### sizes -/
mutual
def szD : D → Nat
  | .str x => x.length + 1
  | .tup xs => szL xs + 1
  | .lst xs => szL xs + 1
  | _ => 1
def szL : List D → Nat
  | [] => 0
  | x :: xs => szD x + szL xs
end
mutual
def dpD : D → Nat
  | .tup xs => dpL xs + 1
  | _ => 0
def dpL : List D → Nat
  | [] => 0
  | x :: xs => max (dpD x) (dpL xs)
end
def fit (d : D) : Prop := szD d + 2 ≤ SL
theorem szD_pos : ∀ d : D, 1 ≤ szD d
  | .str _ => by show 1 ≤ _ + 1; omega
  | .tup _ => by show 1 ≤ _ + 1; omega
  | .lst _ => by show 1 ≤ _ + 1; omega
  | .non => Nat.le_refl _
  | .bl _ => Nat.le_refl _
  | .int _ => Nat.le_refl _
  | .frz _ => Nat.le_refl _
  | .dic _ => Nat.le_refl _
  | .ref _ => Nat.le_refl _
theorem szL_mem : ∀ {xs : List D} {d : D}, d ∈ xs → szD d ≤ szL xs
  | x :: xs, d, h => by
    show _ ≤ szD x + szL xs
    rcases List.mem_cons.mp h with rfl | h
    · omega
    · have := szL_mem h; omega
theorem szL_len : ∀ xs : List D, xs.length ≤ szL xs
  | [] => Nat.zero_le _
  | x :: xs => by
    show xs.length + 1 ≤ szD x + szL xs
    have := szL_len xs
    have := szD_pos x
    omega
theorem dpL_mem : ∀ {xs : List D} {d : D}, d ∈ xs → dpD d ≤ dpL xs
  | x :: xs, d, h => by
    show _ ≤ max (dpD x) (dpL xs)
    rcases List.mem_cons.mp h with rfl | h
    · omega
    · have := dpL_mem h; omega
theorem fit_mem {xs : List D} {d : D} (h : fit (.tup xs)) (hm : d ∈ xs) : fit d := by
  have h : szL xs + 1 + 2 ≤ SL := h
  have := szL_mem hm
  show szD d + 2 ≤ SL
  omega
theorem fit_str {x : Str} (h : fit (.str x)) : x.length + 2 ≤ SL := by
  have h : x.length + 1 + 2 ≤ SL := h
  omega
theorem fit_fitD {d : D} (h : fit d) : fitD d := by
  cases d with
  | str x => have := fit_str h; show x.length ≤ SL; omega
  | _ => trivial
/-! ### words, terms -/
def wholeB : D → Bool
  | .int _ => true
  | _ => false
def posB : D → Bool
  | .int i => decide (0 ≤ i)
  | _ => false
def worldB : D → Bool
  | .int i => decide (0 ≤ i) && decide (i ≤ 9)
  | _ => false
def markB : D → Bool
  | .str x => decide (x = "run") || decide (x = "gone")
  | _ => false
def calledB (d : D) : Bool := nameB d || farB d
def inW (w : Str) (ws : List Str) : Bool := ws.any fun y => decide (w = y)
mutual
def termB : D → Bool
  | .tup (.str w :: a :: rest) =>
    if w = "at" then rest.isEmpty && posB a
    else if w = "world" then rest.isEmpty && worldB a
    else if inW w ["to", "fun", "give"] = true then (match rest with | [b, c] => markB a && (termB b && termB c) | _ => false)
    else if inW w ["family", "call"] = true then (match rest with | [b] => calledB a && areB b | _ => false)
    else if w = "shape" then (match rest with | [b, c] => calledB a && (nameB b && areB c) | _ => false)
    else decide (w = "hole") && (rest.isEmpty && nameB a)
  | _ => false
def areB : D → Bool
  | .tup xs => termsB xs
  | _ => false
def termsB : List D → Bool
  | [] => true
  | x :: xs => termB x && termsB xs
end
theorem is_whole_ok (n : Nat) (d : D) (S : Sto) : runF P (n + 1) 0 [d] S = .ok (.bl (wholeB d)) S := by
  cases d <;> rfl
theorem law_whole_ok (n : Nat) (d : D) (S : Sto) : runF P (n + 1) 18 [d] S = .ok (.bl (wholeB d)) S := by
  cases d <;> rfl
theorem in_strs (w : Str) (ws : List Str) (S : Sto) : inD (.str w) (.tup (ws.map D.str)) S = .ok (.bl (inW w ws)) S := by
  have h1 : (ws.map D.str).all flatD = true := by
    induction ws with
    | nil => rfl
    | cons a r ih => simp [flatD]
  have h2 : ((ws.map D.str).any fun y => eqF y (.str w)) = inW w ws := by
    unfold inW
    induction ws with
    | nil => rfl
    | cons a r ih =>
      rw [List.map_cons, List.any_cons, List.any_cons]
      have : ((r.map D.str).all flatD) = true := by
        simp [flatD]
      rw [ih this]
      congr 1
      show (a == w) = decide (w = a)
      by_cases h : w = a
      · subst h; simp
      · rw [decide_eq_false h]
        exact beq_false_of_ne fun z => h z.symm
  show (match (if flatD (.str w) = true ∧ (ws.map D.str).all flatD = true then some ((ws.map D.str).any fun y => eqF y (.str w)) else none) with | some b => R.ok (D.bl b) S | none => .bad) = _
  rw [if_pos ⟨rfl, h1⟩, h2]
theorem is_mark_ok (n : Nat) (d : D) (S : Sto) : runF P (n + 1) 5 [d] S = .ok (.bl (markB d)) S := by
  show bodyD 1 (evSs (runF P n) b5) [d] S = _
  cases d with
  | str x =>
    have h := in_strs x ["run", "gone"] S
    have h : inD (.str x) (.tup [.str "run", .str "gone"]) S = .ok (.bl (markB (.str x))) S := by
      rw [show (D.tup [.str "run", .str "gone"]) = .tup ((["run", "gone"] : List Str).map D.str) from rfl, h]
      simp [inW, markB]
    generalize markB (.str x) = A at h ⊢
    simp [bodyD, b5, startD, isiD, h]
  | _ => rfl
theorem law_mark_ok (n : Nat) (d : D) (S : Sto) : runF P (n + 1) 21 [d] S = .ok (.bl (markB d)) S := by
  show bodyD 1 (evSs (runF P n) b21) [d] S = _
  cases d with
  | str x =>
    have h := in_strs x ["run", "gone"] S
    have h : inD (.str x) (.tup [.str "run", .str "gone"]) S = .ok (.bl (markB (.str x))) S := by
      rw [show (D.tup [.str "run", .str "gone"]) = .tup ((["run", "gone"] : List Str).map D.str) from rfl, h]
      simp [inW, markB]
    generalize markB (.str x) = A at h ⊢
    simp [bodyD, b21, startD, isiD, h]
  | _ => rfl
theorem is_called_ok (n : Nat) (d : D) (S : Sto) (h : fit d) : runF P (n + 3) 4 [d] S = .ok (.bl (calledB d)) S := by
  show bodyD 1 (evSs (runF P (n + 2)) b4) [d] S = _
  have h1 := is_name_ok (n + 1) d S (fit_fitD h)
  have h2 := is_far_ok n d S (fun x e => by subst e; exact fit_str h)
  have h1 : runF P (n + 2) 1 [d] S = .ok (.bl (nameB d)) S := h1
  unfold calledB
  generalize nameB d = A at h1 ⊢
  generalize farB d = B at h2 ⊢
  cases A <;> simp [bodyD, b4, startD, h1, h2]
end K01

namespace K01
open MP PySem L2
theorem star3 (a b : D) (rest : List D) (S : Sto) : unpackD 3 (some (2, false)) (.tup (a :: b :: rest)) S = .ok [a, b, .lst rest] S := by
  show (if 2 < 3 ∧ 3 ≤ (a :: b :: rest).length + 1 then (newL false (((a :: b :: rest).drop 2).take ((a :: b :: rest).length + 1 - 3)) >>= fun l => pure ((a :: b :: rest).take 2 ++ [l] ++ ((a :: b :: rest).drop 2).drop ((a :: b :: rest).length + 1 - 3))) S else .bad) = _
  rw [if_pos ⟨by omega, by simp⟩]
  simp [newL]
theorem terms_all : ∀ (xs : List D), (xs.all termB) = termsB xs
  | [] => rfl
  | x :: xs => by
    show (termB x && xs.all termB) = (termB x && termsB xs)
    rw [terms_all xs]
/-- are_terms, where is_term tells termB of each -/
theorem are_terms_ok {n : Nat} {d : D} {S : Sto} (hf : fit d) (h : ∀ xs, d = .tup xs → ∀ x ∈ xs, runF P n 7 [x] S = .ok (.bl (termB x)) S) : runF P (n + 1) 6 [d] S = .ok (.bl (areB d)) S := by
  show bodyD 2 (evSs (runF P n) b6) [d] S = _
  cases d with
  | tup xs =>
    have hl : xs.length ≤ SL := by
      have hf : szL xs + 1 + 2 ≤ SL := hf
      have := szL_len xs
      omega
    have lc : lcS false (Tg.nm 1).ev (evA (runF P n) .nil) (evE (runF P n) (.call 7 (.cons (.var 1) .nil))) (wipeE [some (D.tup xs), none] [1]) (.fix xs) S = .ok (.lst (xs.map (D.bl ∘ termB))) S := by
      rw [lcS_pure (t := fun _ => true) (e := fun d => D.bl (termB d)) (fun d hd => ?_) hl]
      · rw [List.filter_eq_self.mpr (fun _ _ => rfl)]
        rfl
      · refine ⟨_, rfl, rfl, fun _ => ?_⟩
        have := h xs rfl d hd
        simp [wipeE, this]
    have ha := allD_map termB xs S
    rw [terms_all] at ha
    show _ = R.ok (D.bl (termsB xs)) S
    generalize termsB xs = A at ha ⊢
    generalize xs.map (D.bl ∘ termB) = L at lc ha
    simp [bodyD, b6, startD, isiD, lc, ha]
  | _ => rfl
end K01

namespace K01
open MP PySem L2
theorem termB_eq (w : Str) (a : D) (rest : List D) : termB (.tup (.str w :: a :: rest)) =
    (if decide (w = "at") = true then rest.isEmpty && posB a
    else if decide (w = "world") = true then rest.isEmpty && worldB a
    else if inW w ["to", "fun", "give"] = true then (match rest with | [b, c] => markB a && (termB b && termB c) | _ => false)
    else if inW w ["family", "call"] = true then (match rest with | [b] => calledB a && areB b | _ => false)
    else if decide (w = "shape") = true then (match rest with | [b, c] => calledB a && (nameB b && areB c) | _ => false)
    else decide (w = "hole") && (rest.isEmpty && nameB a)) := by
  simp only [decide_eq_true_eq]
  match rest with
  | [] => rfl
  | [b] => rfl
  | [b, c] => rfl
  | b :: c :: e :: r => rfl
theorem is_term_step {m : Nat} {d : D} {S : Sto} (hf : fit d) (ht : ∀ xs, d = .tup xs → ∀ x ∈ xs, runF P (m + 3) 7 [x] S = .ok (.bl (termB x)) S ∧ runF P (m + 3) 6 [x] S = .ok (.bl (areB x)) S) :
    runF P (m + 4) 7 [d] S = .ok (.bl (termB d)) S := by
  show bodyD 4 (evSs (runF P (m + 3)) b7) [d] S = _
  cases d with
  | tup xs =>
    match xs, hf, ht with
    | [], hf, ht => simp [bodyD, b7, startD, isiD, termB]
    | [a], hf, ht => simp [bodyD, b7, startD, isiD, termB]
    | a :: f :: rest, hf, ht =>
      have hlen : ¬ ((rest.length : Int) + 1 + 1 < 2) := by omega
      have i0 : atI (a :: f :: rest) 0 = some a := by
        rw [show (0 : Int) = ((0 : Nat) : Int) from rfl, MP.atI_nat]
        rfl
      have st := star3 a f rest S
      by_cases hs : ∃ w, a = .str w
      · obtain ⟨w, rfl⟩ := hs
        have e1 : eqD (.str w) (.str "at") S = .ok (.bl (decide (w = "at"))) S := rfl
        have e2 : eqD (.str w) (.str "world") S = .ok (.bl (decide (w = "world"))) S := rfl
        have e3 : eqD (.str w) (.str "shape") S = .ok (.bl (decide (w = "shape"))) S := rfl
        have e4 : eqD (.str w) (.str "hole") S = .ok (.bl (decide (w = "hole"))) S := rfl
        have j1 : inD (.str w) (.tup [.str "to", .str "fun", .str "give"]) S = .ok (.bl (inW w ["to", "fun", "give"])) S := in_strs w ["to", "fun", "give"] S
        have j2 : inD (.str w) (.tup [.str "family", .str "call"]) S = .ok (.bl (inW w ["family", "call"])) S := in_strs w ["family", "call"] S
        have en := eq_nil rest S
        have ff : fit f := fit_mem hf (by simp)
        have hw := is_whole_ok (m + 2) f S
        have hm := is_mark_ok (m + 2) f S
        have hc := is_called_ok m f S ff
        have hn := is_name_ok (m + 2) f S (fit_fitD ff)
        rw [termB_eq]
        generalize decide (w = "at") = W1 at e1 ⊢
        generalize decide (w = "world") = W2 at e2 ⊢
        generalize decide (w = "shape") = W3 at e3 ⊢
        generalize decide (w = "hole") = W4 at e4 ⊢
        generalize inW w ["to", "fun", "give"] = W5 at j1 ⊢
        generalize inW w ["family", "call"] = W6 at j2 ⊢
        cases W1 with
        | true =>
          generalize rest.isEmpty = N at en ⊢
          cases N <;> cases f <;> simp [bodyD, b7, startD, isiD, hlen, i0, st, Tg.ev, setNames, e1, en, hw, wholeB, posB, newL, -eq_str]
        | false =>
          cases W2 with
          | true =>
            generalize rest.isEmpty = N at en ⊢
            cases N with
            | false => cases f <;> simp [bodyD, b7, startD, isiD, hlen, i0, st, Tg.ev, setNames, e1, e2, en, hw, wholeB, worldB, newL, -eq_str]
            | true =>
              cases f with
              | int i =>
                by_cases h0 : (0 : Int) ≤ i
                · by_cases h9 : i ≤ 9 <;> simp [bodyD, b7, startD, isiD, hlen, i0, st, Tg.ev, setNames, e1, e2, en, hw, wholeB, worldB, newL, -eq_str, h0, h9]
                · simp [bodyD, b7, startD, isiD, hlen, i0, st, Tg.ev, setNames, e1, e2, en, hw, wholeB, worldB, newL, -eq_str, h0]
              | _ => simp [bodyD, b7, startD, isiD, hlen, i0, st, Tg.ev, setNames, e1, e2, en, hw, wholeB, worldB, newL, -eq_str]
          | false =>
            cases W5 with
            | true =>
              match rest, ht with
              | [], ht => simp [bodyD, b7, startD, isiD, hlen, i0, st, Tg.ev, setNames, e1, e2, j1, -eq_str]
              | [b], ht => simp [bodyD, b7, startD, isiD, hlen, i0, st, Tg.ev, setNames, e1, e2, j1, -eq_str]
              | b :: c :: e :: r, ht =>
                have h2 : ¬ ((r.length : Int) + 1 + 1 + 1 = 2) := by omega
                have h5 : ¬ ((r.length : Int) + 1 + 1 + 1 + 1 + 1 < 2) := by omega
                simp [h5, bodyD, b7, startD, isiD, hlen, i0, st, Tg.ev, setNames, e1, e2, j1, -eq_str, h2]
              | [b, c], ht =>
                have tb := (ht _ rfl b (by simp)).1
                have tc := (ht _ rfl c (by simp)).1
                have k0 : atI [b, c] 0 = some b := rfl
                have k1 : atI [b, c] 1 = some c := rfl
                cases qM : markB f <;> cases qB : termB b <;> cases qC : termB c <;> simp [qM, qB, qC, bodyD, b7, startD, isiD, hlen, i0, st, Tg.ev, setNames, e1, e2, j1, -eq_str, hm, tb, tc, k0, k1]
            | false =>
              cases W6 with
              | true =>
                match rest, ht with
                | [], ht => simp [bodyD, b7, startD, isiD, hlen, i0, st, Tg.ev, setNames, e1, e2, j1, j2, -eq_str]
                | b :: c :: r, ht =>
                  have h2 : ¬ ((r.length : Int) + 1 + 1 = 1) := by omega
                  have h5 : ¬ ((r.length : Int) + 1 + 1 + 1 + 1 < 2) := by omega
                  simp [h5, bodyD, b7, startD, isiD, hlen, i0, st, Tg.ev, setNames, e1, e2, j1, j2, -eq_str, h2]
                | [b], ht =>
                  have tb := (ht _ rfl b (by simp)).2
                  have k0 : atI [b] 0 = some b := rfl
                  cases qM : calledB f <;> cases qB : areB b <;> simp [qM, qB, bodyD, b7, startD, isiD, hlen, i0, st, Tg.ev, setNames, e1, e2, j1, j2, -eq_str, hc, tb, k0]
              | false =>
                cases W3 with
                | true =>
                  match rest, hf, ht with
                  | [], hf, ht => simp [bodyD, b7, startD, isiD, hlen, i0, st, Tg.ev, setNames, e1, e2, e3, j1, j2, -eq_str]
                  | [b], hf, ht => simp [bodyD, b7, startD, isiD, hlen, i0, st, Tg.ev, setNames, e1, e2, e3, j1, j2, -eq_str]
                  | b :: c :: e :: r, hf, ht =>
                    have h2 : ¬ ((r.length : Int) + 1 + 1 + 1 = 2) := by omega
                    have h5 : ¬ ((r.length : Int) + 1 + 1 + 1 + 1 + 1 < 2) := by omega
                    simp [h5, bodyD, b7, startD, isiD, hlen, i0, st, Tg.ev, setNames, e1, e2, e3, j1, j2, -eq_str, h2]
                  | [b, c], hf, ht =>
                    have tc := (ht _ rfl c (by simp)).2
                    have nb := is_name_ok (m + 2) b S (fit_fitD (fit_mem hf (by simp)))
                    have k0 : atI [b, c] 0 = some b := rfl
                    have k1 : atI [b, c] 1 = some c := rfl
                    cases qM : calledB f <;> cases qB : nameB b <;> cases qC : areB c <;> simp [qM, qB, qC, bodyD, b7, startD, isiD, hlen, i0, st, Tg.ev, setNames, e1, e2, e3, j1, j2, -eq_str, hc, nb, tc, k0, k1]
                | false =>
                  generalize rest.isEmpty = N at en ⊢
                  generalize nameB f = Nf at hn ⊢
                  cases W4 <;> cases N <;> simp [bodyD, b7, startD, isiD, hlen, i0, st, Tg.ev, setNames, e1, e2, e3, e4, j1, j2, -eq_str, en, hn, newL]
      · have hi : isiD .str a = false := by
          cases a <;> first | rfl | exact absurd ⟨_, rfl⟩ hs
        have et : termB (.tup (a :: f :: rest)) = false := by
          cases a <;> first | rfl | exact absurd ⟨_, rfl⟩ hs | (simp [termB])
        rw [et]
        simp [bodyD, b7, startD, hlen, i0, hi, show isiD .tup (.tup (a :: f :: rest)) = true from rfl]
  | _ => rfl
end K01

namespace K01
open MP PySem L2
theorem term_ok (S : Sto) : ∀ (k : Nat) (d : D), dpD d ≤ k → fit d → ∀ n, k ≤ n → runF P (n + 4) 7 [d] S = .ok (.bl (termB d)) S ∧ runF P (n + 4) 6 [d] S = .ok (.bl (areB d)) S
  | 0, d, hd, hf, n, hn => by
    have no : ∀ xs, d ≠ .tup xs := fun xs e => by
      subst e
      have hd : dpL xs + 1 ≤ 0 := hd
      omega
    exact ⟨is_term_step hf (fun xs e => absurd e (no xs)), are_terms_ok hf (fun xs e => absurd e (no xs))⟩
  | k + 1, d, hd, hf, n, hn => by
    obtain ⟨m, rfl⟩ : ∃ m, n = m + 1 := ⟨n - 1, by omega⟩
    have ch : ∀ xs, d = .tup xs → ∀ x ∈ xs, runF P (m + 4) 7 [x] S = .ok (.bl (termB x)) S ∧ runF P (m + 4) 6 [x] S = .ok (.bl (areB x)) S := fun xs e x hx => by
      subst e
      have hd : dpL xs + 1 ≤ k + 1 := hd
      have := dpL_mem hx
      exact term_ok S k x (by omega) (fit_mem hf hx) m (by omega)
    exact ⟨is_term_step hf ch, are_terms_ok hf fun xs e x hx => (ch xs e x hx).1⟩
end K01

namespace K01
open MP PySem L2
/-- which word -/
inductive Wk where | at_ | world | tfg | fc | shape | hole | other
  deriving DecidableEq
def wk (w : Str) : Wk :=
  if w = "at" then .at_ else if w = "world" then .world else if w = "to" then .tfg else if w = "fun" then .tfg else if w = "give" then .tfg else if w = "family" then .fc else if w = "call" then .fc else if w = "shape" then .shape else if w = "hole" then .hole else .other
theorem wk_all (w : Str) : decide (w = "at") = decide (wk w = .at_) ∧ decide (w = "world") = decide (wk w = .world) ∧ inW w ["to", "fun", "give"] = decide (wk w = .tfg) ∧ inW w ["family", "call"] = decide (wk w = .fc) ∧
    decide (w = "shape") = decide (wk w = .shape) ∧ decide (w = "hole") = decide (wk w = .hole) ∧ inW w ["at", "world"] = (decide (wk w = .at_) || decide (wk w = .world)) ∧ inW w ["family", "call", "shape"] = (decide (wk w = .fc) || decide (wk w = .shape)) := by
  by_cases h1 : w = "at"
  · subst h1; decide +kernel
  by_cases h2 : w = "world"
  · subst h2; decide +kernel
  by_cases h3 : w = "to"
  · subst h3; decide +kernel
  by_cases h4 : w = "fun"
  · subst h4; decide +kernel
  by_cases h5 : w = "give"
  · subst h5; decide +kernel
  by_cases h6 : w = "family"
  · subst h6; decide +kernel
  by_cases h7 : w = "call"
  · subst h7; decide +kernel
  by_cases h8 : w = "shape"
  · subst h8; decide +kernel
  by_cases h9 : w = "hole"
  · subst h9; decide +kernel
  simp [wk, inW, h1, h2, h3, h4, h5, h6, h7, h8, h9]
theorem law_are_ok {n : Nat} {d : D} {S : Sto} (hf : fit d) (h : ∀ xs, d = .tup xs → ∀ x ∈ xs, runF P n 23 [x] S = .ok (.bl (termB x)) S) : runF P (n + 1) 22 [d] S = .ok (.bl (areB d)) S := by
  show bodyD 2 (evSs (runF P n) b22) [d] S = _
  cases d with
  | tup xs =>
    have hl : xs.length ≤ SL := by
      have hf : szL xs + 1 + 2 ≤ SL := hf
      have := szL_len xs
      omega
    have lc : lcS false (Tg.nm 1).ev (evA (runF P n) (.cons (.not (.val (.call 23 (.cons (.var 1) .nil)))) .nil)) (evE (runF P n) (.var 1)) (wipeE [some (D.tup xs), none] [1]) (.fix xs) S = .ok (.lst ((xs.filter fun d => !termB d).map id)) S := by
      rw [lcS_pure (t := fun d => !termB d) (e := id) (fun d hd => ?_) hl]
      have := h xs rfl d hd
      refine ⟨[some (.tup xs), some d], rfl, ?_, fun _ => rfl⟩
      cases q : termB d <;> simp [this, q]
    have ha : ((xs.filter fun d => !termB d).map id).isEmpty = termsB xs := by
      rw [List.map_id, ← terms_all]
      clear lc hl h hf
      induction xs with
      | nil => rfl
      | cons c l ih =>
        cases q : termB c with
        | true => rw [List.filter_cons_of_neg (by simp [q]), ih]; simp [q]
        | false => rw [List.filter_cons_of_pos (by simp [q])]; simp [q]
    have en := eq_nil ((xs.filter fun d => !termB d).map id) S
    rw [ha] at en
    show _ = R.ok (D.bl (termsB xs)) S
    generalize termsB xs = A at en ⊢
    generalize (xs.filter fun d => !termB d).map id = L at lc en
    simp [bodyD, b22, startD, isiD, lc, en, newL]
  | _ => rfl
end K01

namespace K01
open MP PySem L2
theorem W_run {α : Type} {m : M α} {S : Sto} {a : α} (h : MP.W m S (fun b S' => b = a ∧ S' = S)) : m S = .ok a S := by
  rw [W_iff] at h
  obtain ⟨b, S', e, rfl, rfl⟩ := h
  exact e
theorem W_ixT {xs : List D} {i : Int} {x : D} (h : atI xs i = some x) (S : Sto) (Q) : MP.W (ixD (.tup xs) (.int i)) S Q = Q x S := W_of (by rw [ixD_tup, h]) Q
theorem W_intB (b : Bool) (S : Sto) (Q) : MP.W (intD [.bl b]) S Q = Q (.int (if b then 1 else 0)) S := rfl
theorem par2 (a b : D) (S : Sto) : unpackD 2 none (.tup [a, b]) S = .ok [a, b] S := rfl
theorem atI_last (xs : List D) (x : D) : atI (xs ++ [x]) (-1) = some x := by
  unfold atI ixN
  rw [if_neg (by omega), if_pos (by rw [List.length_append]; simp; omega)]
  have : ((-1 : Int) + ((xs ++ [x]).length : Nat)).toNat = xs.length := by rw [List.length_append]; simp; omega
  rw [Option.bind_some, this, List.getElem?_append_right (Nat.le_refl _)]
  simp
theorem lt0 {m : Nat} {S : Sto} {w : Str} {f : D} {V : Wk} {rest : List D} (e0 : eqD (.tup (.str w :: f :: rest)) (.tup []) S = .ok (.bl false) S) (i0 : atI (.str w :: f :: rest) 0 = some (.str w)) (i1 : atI (.str w :: f :: rest) 1 = some f)
    (j1 : inD (.str w) (.tup [.str "at", .str "world"]) S = .ok (.bl (decide (V = .at_) || decide (V = .world))) S) (j2 : inD (.str w) (.tup [.str "to", .str "fun", .str "give"]) S = .ok (.bl (decide (V = .tfg))) S)
    (j3 : notInD (.str w) (.tup [.str "family", .str "call", .str "shape"]) S = .ok (.bl (!(decide (V = .fc) || decide (V = .shape)))) S)
    (e1 : eqD (.str w) (.str "at") S = .ok (.bl (decide (V = .at_))) S) (e2 : eqD (.str w) (.str "hole") S = .ok (.bl (decide (V = .hole))) S) (e3 : eqD (.str w) (.str "shape") S = .ok (.bl (decide (V = .shape))) S) (e4 : neD (.str w) (.str "shape") S = .ok (.bl (!decide (V = .shape))) S)
    (hw : runF P (m + 2) 18 [f] S = .ok (.bl (wholeB f)) S) (hm : runF P (m + 2) 21 [f] S = .ok (.bl (markB f)) S) (hn : runF P (m + 2) 19 [f] S = .ok (.bl (nameB f)) S) (hr : runF P (m + 2) 20 [f] S = .ok (.bl (farB f)) S) (hrest : rest = []) : bodyD 4 (evSs (runF P (m + 2)) b23) [.tup (.str w :: f :: rest)] S = .ok (.bl (if decide (V = .at_) = true then rest.isEmpty && posB f
    else if decide (V = .world) = true then rest.isEmpty && worldB f
    else if decide (V = .tfg) = true then (match rest with | [b, c] => markB f && (termB b && termB c) | _ => false)
    else if decide (V = .fc) = true then (match rest with | [b] => calledB f && areB b | _ => false)
    else if decide (V = .shape) = true then (match rest with | [b, c] => calledB f && (nameB b && areB c) | _ => false)
    else decide (V = .hole) && (rest.isEmpty && nameB f))) S := by
  subst hrest
  cases V with
  | at_ =>
    cases f with
    | int i => by_cases h0 : (0 : Int) ≤ i <;> (refine W_run ?_; rw [W_body]; unfold b23; simp [startD, isiD, W_of e0, W_ixT i0, W_ixT i1, W_of (par2 _ _ _), setsL, W_of j1, W_of j2, W_of j3, W_of e1, W_of e2, W_of e3, W_of e4, W_intB, W_of hw, wholeB, posB, h0])
    | _ => (refine W_run ?_; rw [W_body]; unfold b23; simp [startD, isiD, W_of e0, W_ixT i0, W_ixT i1, W_of (par2 _ _ _), setsL, W_of j1, W_of j2, W_of j3, W_of e1, W_of e2, W_of e3, W_of e4, W_intB, W_of hw, wholeB, posB])
  | world =>
    cases f with
    | int i =>
      by_cases h0 : (0 : Int) ≤ i
      · by_cases h9 : i ≤ 9
        · have h10 : i < 10 := by omega
          (refine W_run ?_; rw [W_body]; unfold b23; simp [startD, isiD, W_of e0, W_ixT i0, W_ixT i1, W_of (par2 _ _ _), setsL, W_of j1, W_of j2, W_of j3, W_of e1, W_of e2, W_of e3, W_of e4, W_intB, W_of hw, wholeB, worldB, h0, h9, h10])
        · have h10 : ¬ i < 10 := by omega
          (refine W_run ?_; rw [W_body]; unfold b23; simp [startD, isiD, W_of e0, W_ixT i0, W_ixT i1, W_of (par2 _ _ _), setsL, W_of j1, W_of j2, W_of j3, W_of e1, W_of e2, W_of e3, W_of e4, W_intB, W_of hw, wholeB, worldB, h0, h9, h10])
      · (refine W_run ?_; rw [W_body]; unfold b23; simp [startD, isiD, W_of e0, W_ixT i0, W_ixT i1, W_of (par2 _ _ _), setsL, W_of j1, W_of j2, W_of j3, W_of e1, W_of e2, W_of e3, W_of e4, W_intB, W_of hw, wholeB, worldB, h0])
    | _ => (refine W_run ?_; rw [W_body]; unfold b23; simp [startD, isiD, W_of e0, W_ixT i0, W_ixT i1, W_of (par2 _ _ _), setsL, W_of j1, W_of j2, W_of j3, W_of e1, W_of e2, W_of e3, W_of e4, W_intB, W_of hw, wholeB, worldB])
  | hole => cases qN : nameB f <;> (refine W_run ?_; rw [W_body]; unfold b23; simp [startD, isiD, W_of e0, W_ixT i0, W_ixT i1, W_of (par2 _ _ _), setsL, W_of j1, W_of j2, W_of j3, W_of e1, W_of e2, W_of e3, W_of e4, W_intB, W_of hn, qN])
  | _ => (refine W_run ?_; rw [W_body]; unfold b23; simp [startD, isiD, W_of e0, W_ixT i0, W_ixT i1, W_of (par2 _ _ _), setsL, W_of j1, W_of j2, W_of j3, W_of e1, W_of e2, W_of e3, W_of e4, W_intB])
theorem lt1 {m : Nat} {S : Sto} {w : Str} {f : D} {V : Wk} {rest : List D} (e0 : eqD (.tup (.str w :: f :: rest)) (.tup []) S = .ok (.bl false) S) (i0 : atI (.str w :: f :: rest) 0 = some (.str w)) (i1 : atI (.str w :: f :: rest) 1 = some f)
    (j1 : inD (.str w) (.tup [.str "at", .str "world"]) S = .ok (.bl (decide (V = .at_) || decide (V = .world))) S) (j2 : inD (.str w) (.tup [.str "to", .str "fun", .str "give"]) S = .ok (.bl (decide (V = .tfg))) S)
    (j3 : notInD (.str w) (.tup [.str "family", .str "call", .str "shape"]) S = .ok (.bl (!(decide (V = .fc) || decide (V = .shape)))) S)
    (e1 : eqD (.str w) (.str "at") S = .ok (.bl (decide (V = .at_))) S) (e2 : eqD (.str w) (.str "hole") S = .ok (.bl (decide (V = .hole))) S) (e3 : eqD (.str w) (.str "shape") S = .ok (.bl (decide (V = .shape))) S) (e4 : neD (.str w) (.str "shape") S = .ok (.bl (!decide (V = .shape))) S)
    (hw : runF P (m + 2) 18 [f] S = .ok (.bl (wholeB f)) S) (hm : runF P (m + 2) 21 [f] S = .ok (.bl (markB f)) S) (hn : runF P (m + 2) 19 [f] S = .ok (.bl (nameB f)) S) (hr : runF P (m + 2) 20 [f] S = .ok (.bl (farB f)) S) {b : D} (hrest : rest = [b]) (ht : runF P (m + 2) 22 [b] S = .ok (.bl (areB b)) S) : bodyD 4 (evSs (runF P (m + 2)) b23) [.tup (.str w :: f :: rest)] S = .ok (.bl (if decide (V = .at_) = true then rest.isEmpty && posB f
    else if decide (V = .world) = true then rest.isEmpty && worldB f
    else if decide (V = .tfg) = true then (match rest with | [b, c] => markB f && (termB b && termB c) | _ => false)
    else if decide (V = .fc) = true then (match rest with | [b] => calledB f && areB b | _ => false)
    else if decide (V = .shape) = true then (match rest with | [b, c] => calledB f && (nameB b && areB c) | _ => false)
    else decide (V = .hole) && (rest.isEmpty && nameB f))) S := by
  subst hrest
  cases V with
  | fc =>
    have tb := ht
    have il : atI [.str w, f, b] (-1) = some b := atI_last [.str w, f] b
    unfold calledB
    cases qN : nameB f <;> cases qF : farB f <;> cases qB : areB b <;> (refine W_run ?_; rw [W_body]; unfold b23; simp [startD, isiD, W_of e0, W_ixT i0, W_ixT i1, W_of (par2 _ _ _), setsL, W_of j1, W_of j2, W_of j3, W_of e1, W_of e2, W_of e3, W_of e4, W_intB, W_of hn, W_of hr, W_of tb, W_ixT il, qN, qF, qB])
  | at_ => cases f <;> (refine W_run ?_; rw [W_body]; unfold b23; simp [startD, isiD, W_of e0, W_ixT i0, W_ixT i1, W_of (par2 _ _ _), setsL, W_of j1, W_of j2, W_of j3, W_of e1, W_of e2, W_of e3, W_of e4, W_intB, W_of hw, wholeB])
  | world => cases f <;> (refine W_run ?_; rw [W_body]; unfold b23; simp [startD, isiD, W_of e0, W_ixT i0, W_ixT i1, W_of (par2 _ _ _), setsL, W_of j1, W_of j2, W_of j3, W_of e1, W_of e2, W_of e3, W_of e4, W_intB, W_of hw, wholeB])
  | _ => (refine W_run ?_; rw [W_body]; unfold b23; simp [startD, isiD, W_of e0, W_ixT i0, W_ixT i1, W_of (par2 _ _ _), setsL, W_of j1, W_of j2, W_of j3, W_of e1, W_of e2, W_of e3, W_of e4, W_intB])
theorem lt2 {m : Nat} {S : Sto} {w : Str} {f : D} {V : Wk} {rest : List D} (e0 : eqD (.tup (.str w :: f :: rest)) (.tup []) S = .ok (.bl false) S) (i0 : atI (.str w :: f :: rest) 0 = some (.str w)) (i1 : atI (.str w :: f :: rest) 1 = some f)
    (j1 : inD (.str w) (.tup [.str "at", .str "world"]) S = .ok (.bl (decide (V = .at_) || decide (V = .world))) S) (j2 : inD (.str w) (.tup [.str "to", .str "fun", .str "give"]) S = .ok (.bl (decide (V = .tfg))) S)
    (j3 : notInD (.str w) (.tup [.str "family", .str "call", .str "shape"]) S = .ok (.bl (!(decide (V = .fc) || decide (V = .shape)))) S)
    (e1 : eqD (.str w) (.str "at") S = .ok (.bl (decide (V = .at_))) S) (e2 : eqD (.str w) (.str "hole") S = .ok (.bl (decide (V = .hole))) S) (e3 : eqD (.str w) (.str "shape") S = .ok (.bl (decide (V = .shape))) S) (e4 : neD (.str w) (.str "shape") S = .ok (.bl (!decide (V = .shape))) S)
    (hw : runF P (m + 2) 18 [f] S = .ok (.bl (wholeB f)) S) (hm : runF P (m + 2) 21 [f] S = .ok (.bl (markB f)) S) (hn : runF P (m + 2) 19 [f] S = .ok (.bl (nameB f)) S) (hr : runF P (m + 2) 20 [f] S = .ok (.bl (farB f)) S) {b c : D} (hrest : rest = [b, c]) (hb : fit b) (hb1 : runF P (m + 2) 23 [b] S = .ok (.bl (termB b)) S) (hc1 : runF P (m + 2) 23 [c] S = .ok (.bl (termB c)) S) (hc2 : runF P (m + 2) 22 [c] S = .ok (.bl (areB c)) S) : bodyD 4 (evSs (runF P (m + 2)) b23) [.tup (.str w :: f :: rest)] S = .ok (.bl (if decide (V = .at_) = true then rest.isEmpty && posB f
    else if decide (V = .world) = true then rest.isEmpty && worldB f
    else if decide (V = .tfg) = true then (match rest with | [b, c] => markB f && (termB b && termB c) | _ => false)
    else if decide (V = .fc) = true then (match rest with | [b] => calledB f && areB b | _ => false)
    else if decide (V = .shape) = true then (match rest with | [b, c] => calledB f && (nameB b && areB c) | _ => false)
    else decide (V = .hole) && (rest.isEmpty && nameB f))) S := by
  subst hrest
  cases V with
  | tfg =>
    have tb := hb1
    have tc := hc1
    have i2 : atI [.str w, f, b, c] 2 = some b := rfl
    have i3 : atI [.str w, f, b, c] 3 = some c := rfl
    cases qM : markB f <;> cases qB : termB b <;> cases qC : termB c <;> (refine W_run ?_; rw [W_body]; unfold b23; simp [startD, isiD, W_of e0, W_ixT i0, W_ixT i1, W_of (par2 _ _ _), setsL, W_of j1, W_of j2, W_of j3, W_of e1, W_of e2, W_of e3, W_of e4, W_intB, W_of hm, W_of tb, W_of tc, W_ixT i2, W_ixT i3, qM, qB, qC])
  | shape =>
    have nb := law_name_ok (m + 1) b S (fit_fitD hb)
    have tc := hc2
    have i2 : atI [.str w, f, b, c] 2 = some b := rfl
    have il : atI [.str w, f, b, c] (-1) = some c := atI_last [.str w, f, b] c
    unfold calledB
    cases qN : nameB f <;> cases qF : farB f <;> cases qB : nameB b <;> cases qC : areB c <;> (refine W_run ?_; rw [W_body]; unfold b23; simp [startD, isiD, W_of e0, W_ixT i0, W_ixT i1, W_of (par2 _ _ _), setsL, W_of j1, W_of j2, W_of j3, W_of e1, W_of e2, W_of e3, W_of e4, W_intB, W_of hn, W_of hr, W_of nb, W_of tc, W_ixT i2, W_ixT il, qN, qF, qB, qC])
  | at_ => cases f <;> (refine W_run ?_; rw [W_body]; unfold b23; simp [startD, isiD, W_of e0, W_ixT i0, W_ixT i1, W_of (par2 _ _ _), setsL, W_of j1, W_of j2, W_of j3, W_of e1, W_of e2, W_of e3, W_of e4, W_intB, W_of hw, wholeB])
  | world => cases f <;> (refine W_run ?_; rw [W_body]; unfold b23; simp [startD, isiD, W_of e0, W_ixT i0, W_ixT i1, W_of (par2 _ _ _), setsL, W_of j1, W_of j2, W_of j3, W_of e1, W_of e2, W_of e3, W_of e4, W_intB, W_of hw, wholeB])
  | _ => (refine W_run ?_; rw [W_body]; unfold b23; simp [startD, isiD, W_of e0, W_ixT i0, W_ixT i1, W_of (par2 _ _ _), setsL, W_of j1, W_of j2, W_of j3, W_of e1, W_of e2, W_of e3, W_of e4, W_intB])
theorem lt3 {m : Nat} {S : Sto} {w : Str} {f : D} {V : Wk} {rest : List D} (e0 : eqD (.tup (.str w :: f :: rest)) (.tup []) S = .ok (.bl false) S) (i0 : atI (.str w :: f :: rest) 0 = some (.str w)) (i1 : atI (.str w :: f :: rest) 1 = some f)
    (j1 : inD (.str w) (.tup [.str "at", .str "world"]) S = .ok (.bl (decide (V = .at_) || decide (V = .world))) S) (j2 : inD (.str w) (.tup [.str "to", .str "fun", .str "give"]) S = .ok (.bl (decide (V = .tfg))) S)
    (j3 : notInD (.str w) (.tup [.str "family", .str "call", .str "shape"]) S = .ok (.bl (!(decide (V = .fc) || decide (V = .shape)))) S)
    (e1 : eqD (.str w) (.str "at") S = .ok (.bl (decide (V = .at_))) S) (e2 : eqD (.str w) (.str "hole") S = .ok (.bl (decide (V = .hole))) S) (e3 : eqD (.str w) (.str "shape") S = .ok (.bl (decide (V = .shape))) S) (e4 : neD (.str w) (.str "shape") S = .ok (.bl (!decide (V = .shape))) S)
    (hw : runF P (m + 2) 18 [f] S = .ok (.bl (wholeB f)) S) (hm : runF P (m + 2) 21 [f] S = .ok (.bl (markB f)) S) (hn : runF P (m + 2) 19 [f] S = .ok (.bl (nameB f)) S) (hr : runF P (m + 2) 20 [f] S = .ok (.bl (farB f)) S) {b c e : D} {r : List D} (hrest : rest = b :: c :: e :: r) : bodyD 4 (evSs (runF P (m + 2)) b23) [.tup (.str w :: f :: rest)] S = .ok (.bl (if decide (V = .at_) = true then rest.isEmpty && posB f
    else if decide (V = .world) = true then rest.isEmpty && worldB f
    else if decide (V = .tfg) = true then (match rest with | [b, c] => markB f && (termB b && termB c) | _ => false)
    else if decide (V = .fc) = true then (match rest with | [b] => calledB f && areB b | _ => false)
    else if decide (V = .shape) = true then (match rest with | [b, c] => calledB f && (nameB b && areB c) | _ => false)
    else decide (V = .hole) && (rest.isEmpty && nameB f))) S := by
  subst hrest
  have h2 : ¬ ((r.length : Int) + 1 + 1 + 1 + 1 + 1 = 2) := by omega
  have h3 : ¬ ((r.length : Int) + 1 + 1 + 1 + 1 + 1 = 3) := by omega
  have h4 : ¬ ((r.length : Int) + 1 + 1 + 1 + 1 + 1 = 4) := by omega
  cases V <;> (refine W_run ?_; rw [W_body]; unfold b23; simp [startD, isiD, W_of e0, W_ixT i0, W_ixT i1, W_of (par2 _ _ _), setsL, W_of j1, W_of j2, W_of j3, W_of e1, W_of e2, W_of e3, W_of e4, W_intB, h2, h3, h4])
theorem law_term_step {m : Nat} {d : D} {S : Sto} (hf : fit d) (ht : ∀ xs, d = .tup xs → ∀ x ∈ xs, runF P (m + 2) 23 [x] S = .ok (.bl (termB x)) S ∧ runF P (m + 2) 22 [x] S = .ok (.bl (areB x)) S) :
    runF P (m + 3) 23 [d] S = .ok (.bl (termB d)) S := by
  show bodyD 4 (evSs (runF P (m + 2)) b23) [d] S = _
  cases d with
  | tup xs =>
    match xs, hf, ht with
    | [], hf, ht =>
      have e0 : eqD (.tup []) (.tup []) S = .ok (.bl true) S := rfl
      refine W_run ?_
      rw [W_body]
      unfold b23
      simp [startD, isiD, termB, W_of e0]
    | a :: rest, hf, ht =>
      have e0 : eqD (.tup (a :: rest)) (.tup []) S = .ok (.bl false) S := rfl
      have i0 : atI (a :: rest) 0 = some a := by
        rw [show (0 : Int) = ((0 : Nat) : Int) from rfl, MP.atI_nat]
        rfl
      by_cases hs : ∃ w, a = .str w
      · obtain ⟨w, rfl⟩ := hs
        obtain ⟨w1, w2, w3, w4, w5, w6, w7, w8⟩ := wk_all w
        have j1 : inD (.str w) (.tup [.str "at", .str "world"]) S = .ok (.bl (inW w ["at", "world"])) S := in_strs w ["at", "world"] S
        have j2 : inD (.str w) (.tup [.str "to", .str "fun", .str "give"]) S = .ok (.bl (inW w ["to", "fun", "give"])) S := in_strs w ["to", "fun", "give"] S
        have j3 : notInD (.str w) (.tup [.str "family", .str "call", .str "shape"]) S = .ok (.bl (!inW w ["family", "call", "shape"])) S := by
          have := in_strs w ["family", "call", "shape"] S
          have this : (match inE S (.str w) (.tup [.str "family", .str "call", .str "shape"]) with | some b => R.ok (D.bl b) S | none => .bad) = .ok (.bl (inW w ["family", "call", "shape"])) S := this
          show (match inE S (.str w) (.tup [.str "family", .str "call", .str "shape"]) with | some b => R.ok (D.bl (!b)) S | none => .bad) = _
          cases q : inE S (.str w) (.tup [.str "family", .str "call", .str "shape"]) with
          | none => rw [q] at this; cases this
          | some b => rw [q] at this; cases this; rfl
        have e1 : eqD (.str w) (.str "at") S = .ok (.bl (decide (w = "at"))) S := rfl
        have e2 : eqD (.str w) (.str "hole") S = .ok (.bl (decide (w = "hole"))) S := rfl
        have e3 : eqD (.str w) (.str "shape") S = .ok (.bl (decide (w = "shape"))) S := rfl
        have e4 : neD (.str w) (.str "shape") S = .ok (.bl (!decide (w = "shape"))) S := rfl
        rw [w7] at j1
        rw [w3] at j2
        rw [w8] at j3
        rw [w1] at e1
        rw [w6] at e2
        rw [w5] at e3 e4
        match rest, hf, ht with
        | [], hf, ht =>
          have et : termB (.tup [.str w]) = false := rfl
          rw [et]
          generalize wk w = V at *
          cases V <;> (refine W_run ?_; rw [W_body]; unfold b23; simp [startD, isiD, W_of e0, W_ixT i0, W_of (par2 _ _ _), setsL, W_of j1, W_of j2, W_of j3, W_of e1, W_of e2, W_of e3, W_of e4, W_intB])
        | f :: rest, hf, ht =>
          have i1 : atI (.str w :: f :: rest) 1 = some f := by
            rw [show (1 : Int) = ((1 : Nat) : Int) from rfl, MP.atI_nat]
            rfl
          have ff : fit f := fit_mem hf (by simp)
          have hw := law_whole_ok (m + 1) f S
          have hm := law_mark_ok (m + 1) f S
          have hn := law_name_ok (m + 1) f S (fit_fitD ff)
          have hr := law_far_ok m f S (fun x e => by subst e; exact fit_str ff)
          rw [termB_eq, w1, w2, w3, w4, w5, w6]
          match rest, hf, ht with
          | [], hf, ht => exact lt0 e0 i0 i1 j1 j2 j3 e1 e2 e3 e4 hw hm hn hr rfl
          | [b], hf, ht => exact lt1 e0 i0 i1 j1 j2 j3 e1 e2 e3 e4 hw hm hn hr rfl (ht _ rfl b (by simp)).2
          | [b, c], hf, ht => exact lt2 e0 i0 i1 j1 j2 j3 e1 e2 e3 e4 hw hm hn hr rfl (fit_mem hf (by simp)) (ht _ rfl b (by simp)).1 (ht _ rfl c (by simp)).1 (ht _ rfl c (by simp)).2
          | b :: c :: e :: r, hf, ht => exact lt3 e0 i0 i1 j1 j2 j3 e1 e2 e3 e4 hw hm hn hr rfl
      · have hi : isiD .str a = false := by
          cases a <;> first | rfl | exact absurd ⟨_, rfl⟩ hs
        have et : termB (.tup (a :: rest)) = false := by
          cases a <;> first | exact absurd ⟨_, rfl⟩ hs | (cases rest <;> rfl)
        rw [et]
        refine W_run ?_
        rw [W_body]
        unfold b23
        simp [startD, W_of e0, W_ixT i0, hi, show isiD .tup (.tup (a :: rest)) = true from rfl]
  | _ => rfl
end K01

namespace K01
open MP PySem L2
theorem law_term_ok (S : Sto) : ∀ (k : Nat) (d : D), dpD d ≤ k → fit d → ∀ n, k ≤ n → runF P (n + 3) 23 [d] S = .ok (.bl (termB d)) S ∧ runF P (n + 3) 22 [d] S = .ok (.bl (areB d)) S
  | 0, d, hd, hf, n, hn => by
    have no : ∀ xs, d ≠ .tup xs := fun xs e => by
      subst e
      have hd : dpL xs + 1 ≤ 0 := hd
      omega
    exact ⟨law_term_step hf (fun xs e => absurd e (no xs)), law_are_ok hf (fun xs e => absurd e (no xs))⟩
  | k + 1, d, hd, hf, n, hn => by
    obtain ⟨m, rfl⟩ : ∃ m, n = m + 1 := ⟨n - 1, by omega⟩
    have ch : ∀ xs, d = .tup xs → ∀ x ∈ xs, runF P (m + 3) 23 [x] S = .ok (.bl (termB x)) S ∧ runF P (m + 3) 22 [x] S = .ok (.bl (areB x)) S := fun xs e x hx => by
      subst e
      have hd : dpL xs + 1 ≤ k + 1 := hd
      have := dpL_mem hx
      exact law_term_ok S k x (by omega) (fit_mem hf hx) m (by omega)
    exact ⟨law_term_step hf ch, law_are_ok hf fun xs e x hx => (ch xs e x hx).1⟩
/-- what repr shows -/
def reprOk (d : D) (x : Str) : Prop := ∀ S, reprD d S = .ok (.str x) S
theorem repr3 (a b c : Bool) : ∃ x, reprOk (.lst [.bl a, .bl b, .bl c]) x := by
  have h : ∀ a b c : Bool, (PyData.list [.bool a, .bool b, .bool c]).showable = true ∧ (PyData.list [.bool a, .bool b, .bool c]).depth ≤ 150 ∧ (PyData.list [.bool a, .bool b, .bool c]).shown.length ≤ SL := by decide +kernel
  refine ⟨(PyData.list [.bool a, .bool b, .bool c]).shown, fun S => ?_⟩
  show (if _ ∧ _ ∧ _ then pure (D.str _) else M.fail : M D) S = _
  rw [if_pos (h a b c)]
  rfl
end K01

namespace K01
open MP PySem L2
mutual
theorem sz_le {B : Nat} : ∀ (d : D), okD B d = true → szD d ≤ wtD d
  | .non, _ => by decide
  | .bl b, _ => by show 1 ≤ 60; decide
  | .int i, _ => by show 1 ≤ 60; decide
  | .str x, _ => by show x.length + 1 ≤ 10 * x.length + 60; omega
  | .tup xs, h => by show szL xs + 1 ≤ wtL xs + 60; have := szL_le xs h; omega
  | .lst xs, h => by show szL xs + 1 ≤ wtL xs + 60; have := szL_le xs h; omega
  | .dic xs, h => by show 1 ≤ wtK xs + 60; omega
  | .frz _, h => (Bool.false_ne_true h).elim
  | .ref _, h => (Bool.false_ne_true h).elim
theorem szL_le {B : Nat} : ∀ (xs : List D), okL B xs = true → szL xs ≤ wtL xs
  | [], _ => Nat.le_refl _
  | x :: xs, h => by
    have h : (okD B x && okL B xs) = true := h
    rw [Bool.and_eq_true] at h
    show szD x + szL xs ≤ wtD x + 2 + wtL xs
    have := sz_le x h.1
    have := szL_le xs h.2
    omega
end
mutual
theorem dp_le : ∀ (d : D), dpD d ≤ depD d
  | .tup xs => by show dpL xs + 1 ≤ depL xs + 1; have := dpL_le xs; omega
  | .non => Nat.zero_le _
  | .bl _ => Nat.zero_le _
  | .int _ => Nat.zero_le _
  | .str _ => Nat.zero_le _
  | .lst _ => Nat.zero_le _
  | .dic _ => Nat.zero_le _
  | .frz _ => Nat.zero_le _
  | .ref _ => Nat.zero_le _
theorem dpL_le : ∀ (xs : List D), dpL xs ≤ depL xs
  | [] => Nat.le_refl _
  | x :: xs => by
    show max (dpD x) (dpL xs) ≤ max (depD x) (depL xs)
    have := dp_le x
    have := dpL_le xs
    omega
end
/-- what the law may look at: k deep, w long -/
structure Dat (B k w : Nat) (d : D) : Prop where
  ok : okD B d = true
  dep : depD d ≤ k
  wt : wtD d ≤ w
theorem runF_eq (n k : Nat) (ds : List D) : runF P (n + 1) k ds = match P[k]? with
    | some f => if ds.length = f.np then bodyD f.N.length (evSs (runF P n) f.body) ds else M.fail
    | none => M.fail := rfl
theorem right_ok {d : D} {B : Nat} (hB : B ≤ 10 ^ 50) (h : Dat B 100 16000000 d) (S : Sto) (n : Nat) (hn : 106 ≤ n) : runF P n 24 [d] S = .ok (.bl true) S := by
  obtain ⟨m, rfl⟩ : ∃ m, n = m + 106 := ⟨n - 106, by omega⟩
  have hf : fit d := by
    have := sz_le d h.ok
    have := h.wt
    show szD d + 2 ≤ 16777216
    omega
  have hd : dpD d ≤ 100 := Nat.le_trans (dp_le d) h.dep
  have t1 : runF P (m + 105) 7 [d] S = .ok (.bl (termB d)) S := (term_ok S 100 d hd hf (m + 101) (by omega)).1
  have t2 : runF P (m + 105) 23 [d] S = .ok (.bl (termB d)) S := (law_term_ok S 100 d hd hf (m + 102) (by omega)).1
  have n1 : runF P (m + 105) 1 [d] S = .ok (.bl (nameB d)) S := is_name_ok (m + 104) d S (fit_fitD hf)
  have n2 : runF P (m + 105) 19 [d] S = .ok (.bl (nameB d)) S := law_name_ok (m + 104) d S (fit_fitD hf)
  have f1 : runF P (m + 105) 3 [d] S = .ok (.bl (farB d)) S := is_far_ok (m + 103) d S (fun x e => by subst e; exact fit_str hf)
  have f2 : runF P (m + 105) 20 [d] S = .ok (.bl (farB d)) S := law_far_ok (m + 103) d S (fun x e => by subst e; exact fit_str hf)
  obtain ⟨x, hx⟩ := reprD_ok hB h.ok (Nat.le_trans h.dep (by decide)) (Nat.le_trans h.wt (by decide))
  obtain ⟨y, hy⟩ := repr3 (termB d) (nameB d) (farB d)
  have nx : neD (.str x) (.str x) S = .ok (.bl false) S := by rw [ne_str]; simp
  have ny : neD (.str y) (.str y) S = .ok (.bl false) S := by rw [ne_str]; simp
  show bodyD 4 (evSs (runF P (m + 105)) b24) [d] S = _
  refine W_run ?_
  rw [W_body]
  unfold b24
  have rng : rngSrc [D.int 2] S = .ok (.fix (rangeL 0 2)) S := rfl
  simp [startD, W_of (hx S), W_of (hy S), W_of t1, W_of t2, W_of n1, W_of n2, W_of f1, W_of f2, W_of rng]
  refine W_forF (I := fun i ρ S' => S' = S ∧ ∃ z, ρ = [some d, some (.str x), some (.str y), z]) ⟨rfl, _, rfl⟩ ?_ ?_
  · rintro i e ρ S' he ⟨rfl, z, rfl⟩
    simp [Tg.ev, W_of (hx S'), W_of (hy S'), W_of t1, W_of t2, W_of n1, W_of n2, W_of f1, W_of f2, W_of nx, W_of ny]
  · rintro ρ' S' ⟨rfl, z, rfl⟩
    simp
end K01

namespace K01
open MP PySem L2
/-! ### the deck: its cells at 0, itself at 1 -/
def Dk (S : Sto) (T : List O) : Prop := ∃ (cs : List Int) (m t : Int), cs.length ≤ 63 ∧ S = .lst (cs.map D.int) :: .lst [.ref 0, .int m, .int t] :: T
theorem fin {n : Nat} {w m : Int} {T : List O} {Q : D → Sto → Prop} (h0 : 0 < w) (h : ∀ i S', 0 ≤ i → i < w → Dk S' T → Q (.int i) S') (ix2 : ∀ (L : List D) (t : Int), ixD (.ref 1) (.int 2) (.lst L :: .lst [.ref 0, .int m, .int t] :: T) = .ok (.int t) (.lst L :: .lst [.ref 0, .int m, .int t] :: T)) : ∀ (c u : Int) (L : List Int) (S : Sto), L.length ≤ 63 → S = .lst (L.map D.int) :: .lst [.ref 0, .int m, .int u] :: T →
      W (evSs (runF P n) (.cons (.set 3 (.bin .mod false (.bin .mul false (.bin .add false (.bin .add false (.bin .mod false (.var 2) (.int 2147483629)) (.bin .mul false (.int 92821) (.ix (.var 0) (.int 2)))) (.int 17)) (.int 48271)) (.int 2147483647)))
    (.cons (.set 3 (.bin .mod false (.bin .add false (.bin .add false (.bin .mul false (.var 3) (.var 3)) (.bin .mul false (.int 69621) (.ix (.var 0) (.int 2)))) (.int 29)) (.int 2147483587)))
    (.cons (.ret (.bin .mod false (.bin .fdiv false (.bin .mod false (.bin .add false (.bin .mul false (.var 3) (.var 3)) (.bin .mul false (.int 40692) (.var 3))) (.int 2147483563)) (.int 64)) (.var 1)))
    .nil))) [some (.ref 1), some (.int w), some (.int c), none]) S (bodyQ Q) := by
    rintro c u L S hL rfl
    have mm : ∀ (x y : Int) (S : Sto) (R : D → Sto → Prop), W (modD (.int x) (.int 2147483647)) S R = R (.int (x % 2147483647)) S := fun x y S R => W_modI (by decide) S R
    simp [W_of (ix2 _ _), W_modI (show (0 : Int) < 2147483647 by decide), W_modI (show (0 : Int) < 2147483629 by decide), W_modI (show (0 : Int) < 2147483587 by decide), W_modI (show (0 : Int) < 2147483563 by decide), W_modI h0, W_fdivI (show (0 : Int) < 64 ∧ (64 : Int) < 1073741824 by decide),
      fun (j : Int) S Q => W_mulI (i := 92821) (j := j) (Or.inl (by decide)) S Q, fun (j : Int) S Q => W_mulI (i := 69621) (j := j) (Or.inl (by decide)) S Q, fun (j : Int) S Q => W_mulI (i := 40692) (j := j) (Or.inl (by decide)) S Q, fun (j : Int) S Q => W_mulI (i := j) (j := 48271) (Or.inr (by decide)) S Q]
    generalize hx : ((c % 2147483629 + 92821 * u + 17) * 48271 % 2147483647 : Int) = x
    have hx0 : 0 ≤ x ∧ x < 2147483647 := by omega
    rw [W_mulI (Or.inl (by omega))]
    simp [W_of (ix2 _ _), W_modI (show (0 : Int) < 2147483647 by decide), W_modI (show (0 : Int) < 2147483629 by decide), W_modI (show (0 : Int) < 2147483587 by decide), W_modI (show (0 : Int) < 2147483563 by decide), W_modI h0, W_fdivI (show (0 : Int) < 64 ∧ (64 : Int) < 1073741824 by decide),
      fun (j : Int) S Q => W_mulI (i := 92821) (j := j) (Or.inl (by decide)) S Q, fun (j : Int) S Q => W_mulI (i := 69621) (j := j) (Or.inl (by decide)) S Q, fun (j : Int) S Q => W_mulI (i := 40692) (j := j) (Or.inl (by decide)) S Q, fun (j : Int) S Q => W_mulI (i := j) (j := 48271) (Or.inr (by decide)) S Q]
    generalize hy : ((x * x + 69621 * u + 29) % 2147483587 : Int) = y
    have hy0 : 0 ≤ y ∧ y < 2147483587 := by omega
    rw [W_mulI (Or.inl (by omega))]
    simp [W_of (ix2 _ _), W_modI (show (0 : Int) < 2147483647 by decide), W_modI (show (0 : Int) < 2147483629 by decide), W_modI (show (0 : Int) < 2147483587 by decide), W_modI (show (0 : Int) < 2147483563 by decide), W_modI h0, W_fdivI (show (0 : Int) < 64 ∧ (64 : Int) < 1073741824 by decide),
      fun (j : Int) S Q => W_mulI (i := 40692) (j := j) (Or.inl (by decide)) S Q]
    exact h _ _ (Int.emod_nonneg _ (by omega)) (Int.emod_lt_of_pos _ h0) ⟨L, m, u, hL, rfl⟩
theorem draw_W {n : Nat} {w : Int} {S : Sto} {T : List O} {Q : D → Sto → Prop} (hd : Dk S T) (h0 : 0 < w) (h1 : w < 1073741824) (h : ∀ i S', 0 ≤ i → i < w → Dk S' T → Q (.int i) S') : W (runF P (n + 1) 9 [.ref 1, .int w]) S Q := by
  obtain ⟨cs, m, t, hl, rfl⟩ := hd
  show W (bodyD 4 (evSs (runF P n) b9) [.ref 1, .int w]) _ Q
  rw [W_body]
  unfold b9
  have ix2 : ∀ (L : List D) (t : Int), ixD (.ref 1) (.int 2) (.lst L :: .lst [.ref 0, .int m, .int t] :: T) = .ok (.int t) (.lst L :: .lst [.ref 0, .int m, .int t] :: T) := fun _ _ => rfl
  have ix1 : ∀ (L : List D) (t : Int), ixD (.ref 1) (.int 1) (.lst L :: .lst [.ref 0, .int m, .int t] :: T) = .ok (.int m) (.lst L :: .lst [.ref 0, .int m, .int t] :: T) := fun _ _ => rfl
  have ix0 : ∀ (L : List D) (t : Int), ixD (.ref 1) (.int 0) (.lst L :: .lst [.ref 0, .int m, .int t] :: T) = .ok (.ref 0) (.lst L :: .lst [.ref 0, .int m, .int t] :: T) := fun _ _ => rfl
  have st : ∀ (L : List D) (t u : Int), setD (.ref 1) (.int 2) (.int u) (.lst L :: .lst [.ref 0, .int m, .int t] :: T) = .ok () (.lst L :: .lst [.ref 0, .int m, .int u] :: T) := fun _ _ _ => rfl
  have p18 : ∀ S, powD (.int 10) (.int 18) S = .ok (.int 1000000000000000000) S := fun S => rfl
  simp [startD, W_of (ix2 _ _), W_of (ix1 _ _), W_of (st _ _ _), W_of (ix0 _ _)]
  by_cases hc : cs = []
  · have hn : neD (.ref 0) (.lst []) (.lst (cs.map D.int) :: .lst [.ref 0, .int m, .int (t + 1)] :: T) = .ok (.bl false) (.lst (cs.map D.int) :: .lst [.ref 0, .int m, .int (t + 1)] :: T) := by
      rw [hc]
      rfl
    rw [W_of hn]
    simpa using fin (n := n) h0 h ix2 m (t + 1) cs _ hl rfl
  · obtain ⟨cs', c, rfl⟩ : ∃ cs' c, cs = cs' ++ [c] := ⟨cs.dropLast, cs.getLast hc, (List.dropLast_concat_getLast hc).symm⟩
    have hl' : cs'.length + 1 ≤ 63 := by simpa using hl
    rw [List.map_append, List.map_singleton]
    have hn : neD (.ref 0) (.lst []) (.lst (cs'.map D.int ++ [.int c]) :: .lst [.ref 0, .int m, .int (t + 1)] :: T) = .ok (.bl true) (.lst (cs'.map D.int ++ [.int c]) :: .lst [.ref 0, .int m, .int (t + 1)] :: T) := by
      cases cs' <;> rfl
    have hp : popD (.ref 0) [] (.lst (cs'.map D.int ++ [.int c]) :: .lst [.ref 0, .int m, .int (t + 1)] :: T) = .ok (.int c) (.lst (cs'.map D.int) :: .lst [.ref 0, .int m, .int (t + 1)] :: T) := by
      show (match (cs'.map D.int ++ [D.int c])[(cs'.map D.int ++ [D.int c]).length - 1]? with | some e => R.ok e (.lst (cs'.map D.int ++ [D.int c]).dropLast :: .lst [.ref 0, .int m, .int (t + 1)] :: T) | none => .bad) = _
      have e1 : (cs'.map D.int ++ [D.int c])[(cs'.map D.int ++ [D.int c]).length - 1]? = some (.int c) := by simp
      have e2 : (cs'.map D.int ++ [D.int c]).dropLast = cs'.map D.int := by simp
      rw [e1, e2]
    have ha : appendD (.ref 0) [.int (c / w)] (.lst (cs'.map D.int) :: .lst [.ref 0, .int m, .int (t + 1)] :: T) = .ok .non (.lst ((cs' ++ [c / w]).map D.int) :: .lst [.ref 0, .int m, .int (t + 1)] :: T) := by
      show (if (cs'.map D.int).length < SL then R.ok D.non (.lst (cs'.map D.int ++ [D.int (c / w)]) :: .lst [.ref 0, .int m, .int (t + 1)] :: T) else .bad) = _
      rw [if_pos (by rw [List.length_map]; show _ < 16777216; omega), List.map_append]
      rfl
    rw [W_of hn]
    simp [W_of (ix0 _ _), Me.ev, W_of (p18 _)]
    rw [W_of hp]
    by_cases hg : (1000000000000000000 : Int) ≤ c
    · simp [hg]
      rw [W_of (ix0 _ _), W_fdivI ⟨h0, h1⟩, W_of ha, W_modI h0]
      exact h _ _ (Int.emod_nonneg _ (by omega)) (Int.emod_lt_of_pos _ h0) ⟨cs' ++ [c / w], m, t + 1, by simpa using hl', rfl⟩
    · simp [hg]
      simpa using fin (n := n) h0 h ix2 c (t + 1) cs' _ (by omega) rfl
end K01

namespace K01
open MP PySem L2
theorem W_rng {j : Int} (h : -(2 ^ 62) ≤ j ∧ j < 2 ^ 62) (S : Sto) (Q) : W (rngSrc [.int j]) S Q = Q (.fix (rangeL 0 j.toNat)) S := by
  refine W_of ?_ Q
  show (if -(2 ^ 62) ≤ j ∧ j < 2 ^ 62 then R.ok (Src.fix (rangeL 0 j.toNat)) S else .bad) = _
  rw [if_pos h]
theorem range_at {n i : Nat} {d : D} (h : (rangeL 0 n)[i]? = some d) : i < n ∧ d = .int (i : Int) := by
  unfold rangeL at h
  rw [List.getElem?_map] at h
  by_cases hi : i < n
  · rw [List.getElem?_range hi] at h
    refine ⟨hi, ?_⟩
    have h : some (D.int (0 + (i : Int))) = some d := h
    rw [Int.zero_add] at h
    exact (Option.some.inj h).symm
  · rw [List.getElem?_eq_none (by simpa using hi)] at h
    cases h
theorem range_len (n : Nat) : (rangeL 0 n).length = n := by simp [rangeL]
/-- signs -/
def sg (c : Nat) : Str := ⟨#[c]⟩
theorem join_sg (cs : List Nat) : Txt.join "" (cs.map sg) = SX.S cs := by
  have e : ("" : Str) = SX.S [] := by decide +kernel
  have e2 : cs.map sg = (cs.map fun c => [c]).map SX.S := by
    rw [List.map_map]
    rfl
  rw [e, e2, SX.join_S]
  congr 1
  induction cs with
  | nil => rfl
  | cons c r ih =>
    cases r with
    | nil => rfl
    | cons d r =>
      show [c] ++ ([] ++ TL.joinL [] (((d :: r).map fun c => [c]))) = _
      rw [ih (by rw [List.map_map]; rfl)]
      rfl
theorem strs_of : ∀ (xs : List Str), strs? (xs.map D.str) = some xs
  | [] => rfl
  | x :: xs => by
    have := strs_of xs
    simp [strs?, this]
theorem low_mem {i : Int} (h0 : 0 ≤ i) (h1 : i < 26) : ∃ c, lowB c = true ∧ ∀ S, ixD (.str "abcdefghijklmnopqrstuvwxyz") (.int i) S = .ok (.str (sg c)) S := by
  obtain ⟨k, rfl⟩ := Int.eq_ofNat_of_zero_le h0
  have hl : (Str.ofString "abcdefghijklmnopqrstuvwxyz").length ≤ SL := by decide +kernel
  have e : (Str.ofString "abcdefghijklmnopqrstuvwxyz").cps.toList = [97, 98, 99, 100, 101, 102, 103, 104, 105, 106, 107, 108, 109, 110, 111, 112, 113, 114, 115, 116, 117, 118, 119, 120, 121, 122] := by decide +kernel
  have hk : k < 26 := by omega
  have : ∀ k, k < 26 → ∃ c, lowB c = true ∧ ([97, 98, 99, 100, 101, 102, 103, 104, 105, 106, 107, 108, 109, 110, 111, 112, 113, 114, 115, 116, 117, 118, 119, 120, 121, 122] : List Nat)[k]? = some c := by
    intro k hk
    refine ⟨97 + k, ?_, ?_⟩
    · unfold lowB
      simp
      omega
    · revert k
      decide
  obtain ⟨c, hc, hh⟩ := this k hk
  refine ⟨c, hc, fun S => ?_⟩
  rw [ixD_str hl, MP.atI_nat, e, hh]
  rfl
theorem name_of {cs : List Nat} (h : cs.all lowB = true) (h1 : 1 ≤ cs.length) (h2 : cs.length ≤ 8) : nameS (SX.S cs) = true := by
  unfold nameS
  rw [SX.S_len, h]
  simp [h1, h2]
theorem name_W {n : Nat} {S : Sto} {T : List O} {Q : D → Sto → Prop} (hd : Dk S T) (h : ∀ x S', nameS x = true → Dk S' T → Q (.str x) S') : W (runF P (n + 2) 11 [.ref 1]) S Q := by
  show W (bodyD 6 (evSs (runF P (n + 1)) b11) [.ref 1]) S Q
  rw [W_body]
  unfold b11
  simp [startD]
  refine draw_W hd (by decide) (by decide) fun i1 S1 a1 b1 d1 => ?_
  simp
  refine draw_W d1 (by decide) (by decide) fun i2 S2 a2 b2 d2 => ?_
  refine W_ixL_all a2 b2 ?_
  intro x hx
  obtain ⟨k, rfl, hk, hk'⟩ : ∃ k : Int, x = .int k ∧ 1 ≤ k ∧ k ≤ 8 := by
    simp at hx
    rcases hx with rfl | rfl | rfl | rfl
    · exact ⟨_, rfl, by decide, by decide⟩
    · exact ⟨_, rfl, by decide, by decide⟩
    · exact ⟨_, rfl, by omega, by omega⟩
    · exact ⟨_, rfl, by decide, by decide⟩
  refine draw_W d2 (by decide) (by decide) fun i3 S3 a3 b3 d3 => ?_
  refine draw_W d3 (by decide) (by decide) fun i4 S4 a4 b4 d4 => ?_
  rw [W_rng (by omega)]
  refine W_lcS (I := fun i acc S' => S' = S4 ∧ ∃ cs : List Nat, acc = cs.map (fun c => D.str (sg c)) ∧ cs.length = i ∧ cs.all lowB = true) ?_ ⟨rfl, [], rfl, rfl, rfl⟩ ?_ ?_
  · rw [range_len]
    show _ ≤ 16777216
    omega
  · rintro i d acc S' hi ⟨rfl, cs, rfl, hl, hc⟩ _
    obtain ⟨hi, rfl⟩ := range_at hi
    obtain ⟨c, hlow, hix⟩ := low_mem (i := (i3 + i4 * (i : Int)) % 26) (Int.emod_nonneg _ (by decide)) (Int.emod_lt_of_pos _ (by decide))
    simp [wipeE, W_mulI (i := i4) (j := (i : Int)) (Or.inl (by omega)), W_modI (show (0 : Int) < 26 by decide), W_of (hix _)]
    refine ⟨cs ++ [c], ?_, ?_, ?_⟩
    · simp
    · simp [hl]
    · intro x hx
      rcases List.mem_append.mp hx with hx | hx
      · exact List.all_eq_true.mp hc x hx
      · rw [List.mem_singleton.mp hx]
        exact hlow
  · rintro ys S' ⟨rfl, cs, rfl, hl, hc⟩ _
    rw [range_len] at hl
    simp
    have hj : joinD (.str "") [.lst (cs.map fun c => D.str (sg c))] S' = .ok (.str (SX.S cs)) S' := by
      have e : strs? (cs.map fun c => D.str (sg c)) = some (cs.map sg) := by
        rw [← strs_of, List.map_map]
        rfl
      have e2 : ((cs.map sg).map (fun y : Str => y.length)).sum + (cs.map sg).length * ("" : Str).length ≤ SL := by
        have : ∀ l : List Nat, ((l.map sg).map (fun y : Str => y.length)).sum = l.length := by
          intro l
          induction l with
          | nil => rfl
          | cons c r ih =>
            rw [List.map_cons, List.map_cons, List.sum_cons, ih]
            show 1 + r.length = r.length + 1
            omega
        rw [this]
        have : ("" : Str).length = 0 := by decide +kernel
        rw [this]
        show _ ≤ 16777216
        omega
      show (match (some (cs.map fun c => D.str (sg c))).bind strs? with | some ys => if (ys.map (fun y : Str => y.length)).sum + ys.length * ("" : Str).length ≤ SL then R.ok (D.str (Txt.join "" ys)) S' else .bad | none => .bad) = _
      rw [Option.bind_some, e]
      dsimp only
      rw [if_pos e2, join_sg]
    rw [W_of hj]
    exact h _ _ (name_of hc (by omega) (by omega)) d4
end K01

namespace K01
open MP PySem L2
/-! ### far names -/
theorem low_lt {c : Nat} (h : lowB c = true) : c < 128 := by
  unfold lowB at h
  simp at h
  omega
theorem fig_lt {c : Nat} (h : figB c = true) : c < 128 := by
  unfold figB at h
  simp at h
  omega
theorem asc_of {cs : List Nat} (h : ∀ c ∈ cs, c < 128) : ascS (SX.S cs) = true := by
  unfold ascS
  rw [List.all_eq_true]
  intro c hc
  exact decide_eq_true (h c hc)
theorem asc_mem {x : Str} (h : ascS x = true) : ∀ c ∈ x.cps.toList, c < 128 := fun c hc => of_decide_eq_true (List.all_eq_true.mp h c hc)
theorem name_asc {x : Str} (h : nameS x = true) : ascS x = true ∧ 1 ≤ x.length ∧ x.length ≤ 8 ∧ ∀ c ∈ x.cps.toList, lowB c = true := by
  unfold nameS at h
  simp only [Bool.and_eq_true, decide_eq_true_eq, List.all_eq_true] at h
  refine ⟨?_, h.1.1, h.1.2, h.2⟩
  unfold ascS
  rw [List.all_eq_true]
  exact fun c hc => decide_eq_true (low_lt (h.2 c hc))
theorem fig_asc {x : Str} (h : figS x = true) : ascS x = true ∧ 1 ≤ x.length ∧ x.length ≤ 40 ∧ ∀ c ∈ x.cps.toList, figB c = true := by
  unfold figS at h
  simp only [Bool.and_eq_true, decide_eq_true_eq, List.all_eq_true] at h
  refine ⟨?_, h.1.1.1, h.1.1.2, h.1.2⟩
  unfold ascS
  rw [List.all_eq_true]
  exact fun c hc => decide_eq_true (fig_lt (h.1.2 c hc))
/-- a far name, its parts -/
structure Far (x : Str) : Prop where
  far : farB (.str x) = true
  asc : ascS x = true
  len : x.length ≤ 58
  pos : 5 ≤ x.length
theorem asc_cat {x y : Str} (h : ascS x = true) (h' : ascS y = true) : ascS (x ++ y) = true := by
  unfold ascS at *
  have e : (x ++ y).cps.toList = x.cps.toList ++ y.cps.toList := TL.tl_append x y
  rw [e, List.all_append, h, h']
  rfl
theorem far_make {a b c : Str} (ha : nameS a = true) (hb : figS b = true) (h0 : b ≠ "0") (hc : nameS c = true) : Far (a ++ "." ++ b ++ "." ++ c) ∧ Txt.split (a ++ "." ++ b ++ "." ++ c) dot = [a, b, c] := by
  obtain ⟨a1, a2, a3, a4⟩ := name_asc ha
  obtain ⟨b1, b2, b3, b4⟩ := fig_asc hb
  obtain ⟨c1, c2, c3, c4⟩ := name_asc hc
  have e : a ++ "." ++ b ++ "." ++ c = Txt.join dot [a, b, c] := by
    rw [TL.join_eq]
    show a ++ dot ++ b ++ dot ++ c = a ++ dot ++ (b ++ dot ++ c)
    refine TL.ext_tl ?_
    simp only [TL.tl_append, List.append_assoc]
  have ed : TL.tl dot = 46 :: [] := by decide +kernel
  have hsp : Txt.split (a ++ "." ++ b ++ "." ++ c) dot = [a, b, c] := by
    rw [e]
    refine TL.split_join ed (by decide +kernel) (by simp) ?_
    intro p hp
    simp only [List.mem_cons, List.not_mem_nil, or_false] at hp
    rcases hp with rfl | rfl | rfl
    · intro h; have := a4 46 h; revert this; decide
    · intro h; have := b4 46 h; revert this; decide
    · intro h; have := c4 46 h; revert this; decide
  have dl : (("." : String) : Str).length = 1 := dot_len
  have da : ascS (("." : String) : Str) = true := by decide +kernel
  refine ⟨⟨?_, ?_, ?_, ?_⟩, hsp⟩
  · show farW (Txt.split _ dot) = true
    rw [hsp]
    show (nameS a && nameS c && figS b && !decide (b = "0")) = true
    rw [ha, hb, hc]
    simp [h0]
  · exact asc_cat (asc_cat (asc_cat (asc_cat a1 da) b1) da) c1
  · rw [strLen_append, strLen_append, strLen_append, strLen_append, dl]; omega
  · rw [strLen_append, strLen_append, strLen_append, strLen_append, dl]; omega
theorem num_fig : ∀ k : Nat, k < 121 → 1 ≤ k → figS (Str.ofString (toString (k : Int))) = true ∧ Str.ofString (toString (k : Int)) ≠ "0" := by decide +kernel
theorem big_fig : figS (Str.ofString (toString (10 ^ 39 : Int))) = true ∧ Str.ofString (toString (10 ^ 39 : Int)) ≠ "0" := by decide +kernel
theorem far_W {n : Nat} {S : Sto} {T : List O} {Q : D → Sto → Prop} (hd : Dk S T) (h : ∀ x S', Far x → (∃ a b c, nameS a = true ∧ figS b = true ∧ nameS c = true ∧ Txt.split x dot = [a, b, c]) → Dk S' T → Q (.str x) S') : W (runF P (n + 3) 12 [.ref 1]) S Q := by
  show W (bodyD 2 (evSs (runF P (n + 2)) b12) [.ref 1]) S Q
  rw [W_body]
  unfold b12
  have p39 : ∀ S, powD (.int 10) (.int 39) S = .ok (.int (10 ^ 39)) S := fun S => rfl
  simp [startD]
  refine draw_W hd (by decide) (by decide) fun i1 S1 a1 b1 d1 => ?_
  simp [W_of (p39 _)]
  refine draw_W d1 (by decide) (by decide) fun i2 S2 a2 b2 d2 => ?_
  refine W_ixL_all a2 b2 ?_
  intro x hx
  obtain ⟨k, rfl, hk, hk0, hl⟩ : ∃ k : Int, x = .int k ∧ figS (Str.ofString (toString k)) = true ∧ Str.ofString (toString k) ≠ "0" ∧ k.natAbs.log2 < 1920 := by
    have small : ∀ k : Nat, k < 121 → 1 ≤ k → (k : Int).natAbs.log2 < 1920 := by decide +kernel
    simp at hx
    rcases hx with rfl | rfl | rfl | rfl | rfl
    · exact ⟨_, rfl, (num_fig 1 (by decide) (by decide)).1, (num_fig 1 (by decide) (by decide)).2, by decide +kernel⟩
    · exact ⟨_, rfl, (num_fig 9 (by decide) (by decide)).1, (num_fig 9 (by decide) (by decide)).2, by decide +kernel⟩
    · exact ⟨_, rfl, (num_fig 10 (by decide) (by decide)).1, (num_fig 10 (by decide) (by decide)).2, by decide +kernel⟩
    · obtain ⟨j, rfl⟩ := Int.eq_ofNat_of_zero_le a1
      have e : (1 : Int) + (j : Int) = ((1 + j : Nat) : Int) := by omega
      refine ⟨_, rfl, ?_⟩
      rw [e]
      exact ⟨(num_fig (1 + j) (by omega) (by omega)).1, (num_fig (1 + j) (by omega) (by omega)).2, small _ (by omega) (by omega)⟩
    · exact ⟨_, rfl, big_fig.1, big_fig.2, by decide +kernel⟩
  have hs : ∀ S, strD [.int k] S = .ok (.str (Str.ofString (toString k))) S := fun S => by
    show (if k.natAbs.log2 < 1920 then pure (D.str (toString k)) else M.fail : M D) S = _
    rw [if_pos hl]; rfl
  have dl : (("." : String) : Str).length = 1 := dot_len
  obtain ⟨f1, f2, f3, f4⟩ := fig_asc hk
  generalize Str.ofString (toString k) = z at *
  refine name_W d2 fun x S3 hx d3 => ?_
  obtain ⟨x1, x2, x3, x4⟩ := name_asc hx
  rw [W_addS _ (by rw [dl]; show _ ≤ 16777216; omega)]
  simp [W_of (hs _)]
  rw [W_addS _ (by rw [strLen_append, dl]; show _ ≤ 16777216; omega), W_addS _ (by rw [strLen_append, strLen_append, dl]; show _ ≤ 16777216; omega)]
  refine name_W d3 fun y S4 hy d4 => ?_
  obtain ⟨y1, y2, y3, y4⟩ := name_asc hy
  rw [W_addS _ (by rw [strLen_append, strLen_append, strLen_append, dl]; show _ ≤ 16777216; omega)]
  obtain ⟨q1, q2⟩ := far_make hx hk hk0 hy
  exact h _ _ q1 ⟨_, _, _, hx, hk, hy, q2⟩ d4
end K01

namespace K01
open MP PySem L2
/-- a called name -/
structure Cl (x : Str) : Prop where
  cl : calledB (.str x) = true
  asc : ascS x = true
  len : x.length ≤ 58
theorem called_W {n : Nat} {S : Sto} {T : List O} {Q : D → Sto → Prop} (hd : Dk S T) (h : ∀ x S', Cl x → Dk S' T → Q (.str x) S') : W (runF P (n + 4) 13 [.ref 1]) S Q := by
  show W (bodyD 1 (evSs (runF P (n + 3)) b13) [.ref 1]) S Q
  rw [W_body]
  unfold b13
  simp [startD]
  refine draw_W hd (by decide) (by decide) fun i1 S1 a1 b1 d1 => ?_
  simp
  split
  · refine far_W d1 fun x S2 hx _ d2 => ?_
    exact h x S2 ⟨by unfold calledB; rw [hx.far, Bool.or_true], hx.asc, hx.len⟩ d2
  · refine name_W d1 fun x S2 hx d2 => ?_
    obtain ⟨x1, x2, x3, x4⟩ := name_asc hx
    exact h x S2 ⟨by unfold calledB; rw [show nameB (.str x) = true from hx, Bool.true_or], x1, by omega⟩ d2
abbrev BB : Nat := 10 ^ 40
structure Tm (k w : Nat) (t : D) : Prop where
  tm : termB t = true
  ok : okD BB t = true
  dep : depD t ≤ k
  wt : wtD t ≤ w
theorem tm_at (i : Int) : termB (.tup [.str "at", .int i]) = decide (0 ≤ i) := by
  rw [termB_eq, if_pos (by decide +kernel)]
  rfl
theorem tm_world (i : Int) : termB (.tup [.str "world", .int i]) = (decide (0 ≤ i) && decide (i ≤ 9)) := by
  rw [termB_eq, if_neg (by decide +kernel), if_pos (by decide +kernel)]
  rfl
theorem tm_hole (x : Str) : termB (.tup [.str "hole", .str x]) = nameS x := by
  rw [termB_eq, if_neg (by decide +kernel), if_neg (by decide +kernel), if_neg (by decide +kernel), if_neg (by decide +kernel), if_neg (by decide +kernel), show decide (("hole" : Str) = "hole") = true from by decide +kernel]
  rfl
theorem tm_tfg {w m : Str} (hw : w ∈ (["to", "fun", "give"] : List Str)) (hm : markB (.str m) = true) {b c : D} (hb : termB b = true) (hc : termB c = true) : termB (.tup [.str w, .str m, b, c]) = true := by
  rw [termB_eq]
  have : ∀ w ∈ (["to", "fun", "give"] : List Str), decide (w = "at") = false ∧ decide (w = "world") = false ∧ inW w ["to", "fun", "give"] = true := by decide +kernel
  obtain ⟨h1, h2, h3⟩ := this w hw
  rw [h1, h2, h3, if_neg Bool.false_ne_true, if_neg Bool.false_ne_true, if_pos rfl]
  show (markB (.str m) && (termB b && termB c)) = true
  rw [hm, hb, hc]
  rfl
theorem tm_fc {w x : Str} (hw : w ∈ (["family", "call"] : List Str)) (hx : calledB (.str x) = true) {ts : List D} (ht : termsB ts = true) : termB (.tup [.str w, .str x, .tup ts]) = true := by
  rw [termB_eq]
  have : ∀ w ∈ (["family", "call"] : List Str), decide (w = "at") = false ∧ decide (w = "world") = false ∧ inW w ["to", "fun", "give"] = false ∧ inW w ["family", "call"] = true := by decide +kernel
  obtain ⟨h1, h2, h3, h4⟩ := this w hw
  rw [h1, h2, h3, h4, if_neg Bool.false_ne_true, if_neg Bool.false_ne_true, if_neg Bool.false_ne_true, if_pos rfl]
  show (calledB (.str x) && termsB ts) = true
  rw [hx, ht]
  rfl
theorem tm_shape {x y : Str} (hx : calledB (.str x) = true) (hy : nameS y = true) {ts : List D} (ht : termsB ts = true) : termB (.tup [.str "shape", .str x, .str y, .tup ts]) = true := by
  rw [termB_eq, if_neg (by decide +kernel), if_neg (by decide +kernel), if_neg (by decide +kernel), if_neg (by decide +kernel), if_pos (by decide +kernel)]
  show (calledB (.str x) && (nameS y && termsB ts)) = true
  rw [hx, hy, ht]
  rfl
theorem leaf_W {n : Nat} {S : Sto} {T : List O} {Q : D → Sto → Prop} (hd : Dk S T) (h : ∀ t S', Tm 1 1000 t → Dk S' T → Q t S') : W (runF P (n + 3) 14 [.ref 1]) S Q := by
  show W (bodyD 3 (evSs (runF P (n + 2)) b14) [.ref 1]) S Q
  rw [W_body]
  unfold b14
  have p39 : ∀ S, powD (.int 10) (.int 39) S = .ok (.int (10 ^ 39)) S := fun S => rfl
  simp [startD]
  refine draw_W hd (by decide) (by decide) fun i1 S1 a1 b1 d1 => ?_
  refine draw_W d1 (by decide) (by decide) fun i2 S2 a2 b2 d2 => ?_
  refine draw_W d2 (by decide) (by decide) fun i3 S3 a3 b3 d3 => ?_
  simp [W_of (p39 _)]
  refine draw_W d3 (by decide) (by decide) fun i4 S4 a4 b4 d4 => ?_
  refine W_ixL_all a4 b4 ?_
  intro x hx
  obtain ⟨k, rfl, hk0, hk⟩ : ∃ k : Int, x = .int k ∧ 0 ≤ k ∧ k ≤ 10 ^ 39 := by
    simp at hx
    rcases hx with rfl | rfl | rfl
    · exact ⟨_, rfl, by omega, by omega⟩
    · exact ⟨_, rfl, by omega, by omega⟩
    · exact ⟨_, rfl, by decide, by decide⟩
  refine draw_W d4 (by decide) (by decide) fun i5 S5 a5 b5 d5 => ?_
  refine name_W d5 fun y S6 hy d6 => ?_
  obtain ⟨y1, y2, y3, y4⟩ := name_asc hy
  refine W_ixL_all a1 b1 ?_
  intro t ht
  refine h t S6 ?_ d6
  simp at ht
  have sm : ∀ k : Int, 0 ≤ k → k ≤ 10 ^ 39 → smallI BB k = true := fun k h0 h1 => by
    unfold smallI
    refine decide_eq_true ?_
    show k.natAbs < 10 ^ 40
    omega
  have l1 : (("at" : String) : Str).length = 2 := by decide +kernel
  have l2 : (("world" : String) : Str).length = 5 := by decide +kernel
  have l3 : (("hole" : String) : Str).length = 4 := by decide +kernel
  rcases ht with rfl | rfl | rfl
  · refine ⟨by rw [tm_at]; exact decide_eq_true hk0, ?_, Nat.le_refl _, ?_⟩
    · show (ascS "at" && (smallI BB k && true)) = true
      rw [sm k hk0 hk]; decide +kernel
    · show 10 * (("at" : String) : Str).length + 60 + 2 + (60 + 2 + 0) + 60 ≤ 1000
      rw [l1]
      decide
  · refine ⟨by rw [tm_world, decide_eq_true a5, decide_eq_true (show i5 ≤ 9 by omega)]; rfl, ?_, Nat.le_refl _, ?_⟩
    · show (ascS "world" && (smallI BB i5 && true)) = true
      rw [sm i5 a5 (by omega)]; decide +kernel
    · show 10 * (("world" : String) : Str).length + 60 + 2 + (60 + 2 + 0) + 60 ≤ 1000
      rw [l2]
      decide
  · refine ⟨by rw [tm_hole]; exact hy, ?_, Nat.le_refl _, ?_⟩
    · show (ascS "hole" && (ascS y && true)) = true
      rw [y1]; decide +kernel
    · show 10 * (("hole" : String) : Str).length + 60 + 2 + (10 * y.length + 60 + 2 + 0) + 60 ≤ 1000
      rw [l3]
      omega
end K01

namespace K01
open MP PySem L2
theorem last_at (T0 : List O) (o : O) : (T0 ++ [o])[T0.length]? = some o := by simp
theorem last_set (T0 : List O) (o o' : O) : (T0 ++ [o]).set T0.length o' = T0 ++ [o'] := by
  induction T0 with
  | nil => rfl
  | cons a r ih =>
    show a :: (r ++ [o]).set r.length o' = a :: (r ++ [o'])
    rw [ih]
theorem left_ix {S : Sto} {T0 : List O} {v : Int} (hd : Dk S (T0 ++ [.lst [.int v]])) : ixD (.ref (T0.length + 2)) (.int 0) S = .ok (.int v) S := by
  obtain ⟨cs, m, t, hl, rfl⟩ := hd
  have e : (O.lst (cs.map D.int) :: O.lst [.ref 0, .int m, .int t] :: (T0 ++ [O.lst [D.int v]]))[T0.length + 2]? = some (.lst [.int v]) := by
    rw [List.getElem?_cons_succ, List.getElem?_cons_succ, last_at]
  show (match ((match (O.lst (cs.map D.int) :: O.lst [.ref 0, .int m, .int t] :: (T0 ++ [O.lst [D.int v]]))[T0.length + 2]? with | some (O.lst ds) => some ds | none => none).bind fun xs => atI xs 0) with | some e => R.ok e _ | none => .bad) = _
  rw [e]
  rfl
theorem left_set {S : Sto} {T0 : List O} {v u : Int} (hd : Dk S (T0 ++ [.lst [.int v]])) : ∃ S', setD (.ref (T0.length + 2)) (.int 0) (.int u) S = .ok () S' ∧ Dk S' (T0 ++ [.lst [.int u]]) := by
  obtain ⟨cs, m, t, hl, rfl⟩ := hd
  refine ⟨_, ?_, cs, m, t, hl, rfl⟩
  have e : (O.lst (cs.map D.int) :: O.lst [.ref 0, .int m, .int t] :: (T0 ++ [O.lst [D.int v]]))[T0.length + 2]? = some (.lst [.int v]) := by
    rw [List.getElem?_cons_succ, List.getElem?_cons_succ, last_at]
  show (match (O.lst (cs.map D.int) :: O.lst [.ref 0, .int m, .int t] :: (T0 ++ [O.lst [D.int v]]))[T0.length + 2]? with
    | some (O.lst xs) => (match ixN xs.length 0 with
      | some j => R.ok () ((O.lst (cs.map D.int) :: O.lst [.ref 0, .int m, .int t] :: (T0 ++ [O.lst [D.int v]])).set (T0.length + 2) (.lst (xs.set j (.int u))))
      | none => .bad)
    | none => .bad) = _
  rw [e]
  show R.ok () (O.lst (cs.map D.int) :: O.lst [.ref 0, .int m, .int t] :: (T0 ++ [O.lst [D.int v]]).set T0.length (.lst [.int u])) = _
  rw [last_set]
theorem min_I (i j : Int) (S : Sto) (Q) : W (minD [.int i, .int j]) S Q = Q (.int (if j < i then j else i)) S := rfl
theorem okL_of {xs : List D} (h : ∀ x ∈ xs, okD BB x = true) : okL BB xs = true := okL_all.mpr h
theorem termsB_of : ∀ {xs : List D}, (∀ x ∈ xs, termB x = true) → termsB xs = true
  | [], _ => rfl
  | x :: xs, h => by
    show (termB x && termsB xs) = true
    rw [h x (List.mem_cons_self ..), termsB_of fun y hy => h y (List.mem_cons_of_mem _ hy)]
    rfl
theorem W_ixL_mem {xs : List Str} {i : Int} {S : Sto} {Q : D → Sto → Prop} (h0 : 0 ≤ i) (h1 : i < xs.length) (h : ∀ x ∈ xs, Q (.str x) S) : W (ixD (.lst (xs.map D.str)) (.int i)) S Q := by
  refine W_ixL_all h0 (by simpa using h1) fun x hx => ?_
  obtain ⟨y, hy, rfl⟩ := List.mem_map.mp hx
  exact h y hy
theorem term_W : ∀ (deep : Nat) {n : Nat} {S : Sto} {T0 : List O} {v : Int} {Q : D → Sto → Prop}, Dk S (T0 ++ [.lst [.int v]]) → 0 ≤ v → v ≤ 1000 → deep + 5 ≤ n →
    (∀ t S' v', 0 ≤ v' → v' ≤ v → Tm (2 * deep + 2) (2000 * (1 + v - v').toNat) t → Dk S' (T0 ++ [.lst [.int v']]) → Q t S') → W (runF P n 15 [.ref 1, .int deep, .ref (T0.length + 2)]) S Q := by
  intro deep
  induction deep with
  | zero =>
    intro n S T0 v Q hd h0 h1 hn h
    obtain ⟨n, rfl⟩ : ∃ m, n = m + 5 := ⟨n - 5, by omega⟩
    show W (bodyD 8 (evSs (runF P (n + 4)) b15) [.ref 1, .int 0, .ref (T0.length + 2)]) S Q
    rw [W_body]
    unfold b15
    simp [startD]
    refine draw_W hd (by decide) (by decide) fun i1 S1 a1 b1 d1 => ?_
    refine draw_W d1 (by decide) (by decide) fun i2 S2 a2 b2 d2 => ?_
    simp [W_of (par2 _ _ _), setsL]
    refine leaf_W d2 fun t S3 ht d3 => ?_
    exact h t S3 v h0 (Int.le_refl _) ⟨ht.tm, ht.ok, Nat.le_trans ht.dep (by omega), Nat.le_trans ht.wt (by omega)⟩ d3
  | succ deep ih =>
    intro n S T0 v Q hd h0 h1 hn h
    obtain ⟨n, rfl⟩ : ∃ m, n = m + 5 := ⟨n - 5, by omega⟩
    show W (bodyD 8 (evSs (runF P (n + 4)) b15) [.ref 1, .int ((deep + 1 : Nat) : Int), .ref (T0.length + 2)]) S Q
    rw [W_body]
    unfold b15
    simp [startD]
    refine draw_W hd (by decide) (by decide) fun i1 S1 a1 b1 d1 => ?_
    refine draw_W d1 (by decide) (by decide) fun i2 S2 a2 b2 d2 => ?_
    have lf : W (runF P (n + 4) 14 [.ref 1]) S2 (fun d S' => Q d S') := by
      refine leaf_W d2 fun t S3 ht d3 => ?_
      exact h t S3 v h0 (Int.le_refl _) ⟨ht.tm, ht.ok, Nat.le_trans ht.dep (by omega), Nat.le_trans ht.wt (by omega)⟩ d3
    have e0 : ¬ ((deep : Int) + 1 = 0) := by omega
    simp [W_of (par2 _ _ _), setsL, e0, W_of (left_ix d2)]
    by_cases c1 : i1 < 2
    · simp [c1]
      exact lf
    by_cases c2 : v < 2
    · simp [c1, c2]
      exact lf
    simp [c1, c2]
    have parts : ∀ (m : Int) (ρ : MP.Env) (S4 : Sto) (R : D → Sto → Prop), 0 ≤ m → m ≤ 4 → m ≤ v → ρ = [some (.ref 1), some (.int ((deep : Int) + 1)), some (.ref (T0.length + 2)), some (.int i1), some (.int i2), some (.int m), none, none] → Dk S4 (T0 ++ [.lst [.int (v - m)]]) →
        (∀ ts S' v', 0 ≤ v' → v' ≤ v - m → ts.length = m.toNat → (∀ t ∈ ts, termB t = true ∧ okD BB t = true ∧ depD t ≤ 2 * deep + 2) → wtL ts ≤ 2000 * (v - v').toNat + 8 → Dk S' (T0 ++ [.lst [.int v']]) → R (.tup ts) S') →
        W (lcS false (Tg.nm 7).ev (evA (runF P (n + 4)) Txs.nil) (evE (runF P (n + 4)) (Ex.call 15 (Exs.cons (Ex.var 0) (Exs.cons (Ex.bin Bop.sub false (Ex.var 1) (Ex.int 1)) (Exs.cons (Ex.var 2) Exs.nil))))) (wipeE ρ [7]) (.fix (rangeL 0 m.toNat))) S4 (fun d S1 => W (tupleD [d]) S1 R) := by
      rintro m ρ S4 R m0 m4 mv rfl d4 hR
      refine W_lcS (I := fun i acc S' => ∃ v', 0 ≤ v' ∧ v' ≤ v - m ∧ acc.length = i ∧ (∀ t ∈ acc, termB t = true ∧ okD BB t = true ∧ depD t ≤ 2 * deep + 2) ∧ wtL acc ≤ 2000 * ((i : Int) + (v - m) - v').toNat + 2 * i ∧ Dk S' (T0 ++ [.lst [.int v']])) ?_ ?_ ?_ ?_
      · rw [range_len]; show _ ≤ 16777216; omega
      · exact ⟨v - m, by omega, Int.le_refl _, rfl, fun _ h => (List.not_mem_nil h).elim, Nat.zero_le _, d4⟩
      · rintro i d acc S' hi ⟨v', w0, w1, wl, wt, ww, wd⟩ _
        obtain ⟨hi, rfl⟩ := range_at hi
        simp [wipeE]
        refine ih wd w0 (by omega) (by omega) fun t S'' v'' u0 u1 ut ud => ?_
        refine ⟨v'', u0, by omega, by omega, ?_, ?_, ud⟩
        · intro x hx
          rcases hx with hx | rfl
          · exact wt x hx
          · exact ⟨ut.tm, ut.ok, ut.dep⟩
        · rw [wtL_append]
          show wtL acc + (wtD t + 2 + 0) ≤ _
          have := ut.wt
          omega
      · rintro ys S' ⟨v', w0, w1, wl, wt, ww, wd⟩ _
        rw [range_len] at wl ww
        simp
        exact hR ys S' v' w0 w1 wl wt (by omega) wd
    have fin : ∀ (m : Int) (ts : List D) (S1 : Sto) (v' : Int), 0 ≤ v' → v' ≤ v - m → 0 ≤ m → ts.length = m.toNat → (i1 < 6 → m = 2) → (∀ t ∈ ts, termB t = true ∧ okD BB t = true ∧ depD t ≤ 2 * deep + 2) → wtL ts ≤ 2000 * (v - v').toNat + 8 → Dk S1 (T0 ++ [.lst [.int v']]) →
        (if i1 < 6 then
              W (ixD (D.lst [D.str (Str.ofString "to"), D.str (Str.ofString "fun"), D.str (Str.ofString "give"), D.str (Str.ofString "give")]) (D.int (i1 - 2))) S1 fun d_1 S1 =>
                W (runF P (n + 4) 9 [D.ref 1, D.int 2]) S1 fun e S2 =>
                  W (ixD (D.lst [D.str (Str.ofString "run"), D.str (Str.ofString "gone")]) e) S2 fun d_2 S1 =>
                    W (addD false (D.tup [d_1, d_2]) (.tup ts)) S1 fun d S1 => Q d S1
            else
              if i1 = 8 then
                W (runF P (n + 4) 13 [D.ref 1]) S1 fun d_1 S1 =>
                  W (runF P (n + 4) 11 [D.ref 1]) S1 fun d_2 S1 =>
                    Q (D.tup [D.str (Str.ofString "shape"), d_1, d_2, (.tup ts)]) S1
              else
                W (ixD (D.lst [D.str (Str.ofString "family"), D.str (Str.ofString "call")]) (D.int (i1 - 6))) S1
                  fun d_1 S1 => W (runF P (n + 4) 13 [D.ref 1]) S1 fun d_2 S1 => Q (D.tup [d_1, d_2, (.tup ts)]) S1) := by
      intro m ts S1 v' w0 w1 m0 wl hm wt ww wd
      have hok : okL BB ts = true := okL_of fun x hx => (wt x hx).2.1
      have hdp : depL ts ≤ 2 * deep + 2 := depL_le.mpr fun x hx => (wt x hx).2.2
      split
      · rename_i c6
        have hm2 := hm c6
        subst hm2
        obtain ⟨t1, t2, rfl⟩ : ∃ t1 t2, ts = [t1, t2] := by
          match ts, wl with
          | [a, b], _ => exact ⟨a, b, rfl⟩
        refine W_ixL_mem (xs := ["to", "fun", "give", "give"]) (by omega) (by show i1 - 2 < 4; omega) fun w hw => ?_
        refine draw_W wd (by decide) (by decide) fun i5 S5 a5 b5 d5 => ?_
        refine W_ixL_mem (xs := ["run", "gone"]) a5 b5 fun k hk => ?_
        rw [W_addT _ (by show 2 + 2 ≤ 16777216; decide)]
        have hw' : w ∈ (["to", "fun", "give"] : List Str) := by
          simp at hw ⊢
          rcases hw with h | h | h <;> simp [h]
        have fw : ∀ w ∈ (["to", "fun", "give"] : List Str), ascS w = true ∧ w.length ≤ 4 := by decide +kernel
        have fk : ∀ w ∈ (["run", "gone"] : List Str), ascS w = true ∧ w.length ≤ 4 ∧ markB (.str w) = true := by decide +kernel
        obtain ⟨w1', w2'⟩ := fw w hw'
        obtain ⟨k1, k2, k3⟩ := fk k hk
        refine h _ _ v' w0 (by omega) ⟨tm_tfg hw' k3 (wt t1 (by simp)).1 (wt t2 (by simp)).1, ?_, ?_, ?_⟩ d5
        · show (ascS w && (ascS k && okL BB [t1, t2])) = true
          rw [w1', k1, hok]; rfl
        · show max 0 (max 0 (depL [t1, t2])) + 1 ≤ _
          omega
        · show 10 * w.length + 60 + 2 + (10 * k.length + 60 + 2 + wtL [t1, t2]) + 60 ≤ _
          omega
      · split
        · refine called_W wd fun x S2 hx d2 => ?_
          refine name_W d2 fun y S3 hy d3 => ?_
          obtain ⟨y1, y2, y3, y4⟩ := name_asc hy
          have x3 := hx.len
          have l1 : (Str.ofString "shape").length = 5 := by decide +kernel
          have l2 : ascS (Str.ofString "shape") = true := by decide +kernel
          refine h _ _ v' w0 (by omega) ⟨tm_shape hx.cl hy (termsB_of fun t ht => (wt t ht).1), ?_, ?_, ?_⟩ d3
          · show (ascS (Str.ofString "shape") && (ascS x && (ascS y && (okL BB ts && true)))) = true
            rw [l2, hx.asc, y1, hok]; rfl
          · show max 0 (max 0 (max 0 (max (depL ts + 1) 0))) + 1 ≤ _
            omega
          · show 10 * (Str.ofString "shape").length + 60 + 2 + (10 * x.length + 60 + 2 + (10 * y.length + 60 + 2 + (wtL ts + 60 + 2 + 0))) + 60 ≤ _
            rw [l1]
            omega
        · rename_i c6 c8
          refine W_ixL_mem (xs := ["family", "call"]) (by omega) (by show i1 - 6 < 2; omega) fun w hw => ?_
          refine called_W wd fun x S2 hx d2 => ?_
          have x3 := hx.len
          have fw : ∀ w ∈ (["family", "call"] : List Str), ascS w = true ∧ w.length ≤ 6 := by decide +kernel
          obtain ⟨w1', w2'⟩ := fw w hw
          refine h _ _ v' w0 (by omega) ⟨tm_fc hw hx.cl (termsB_of fun t ht => (wt t ht).1), ?_, ?_, ?_⟩ d2
          · show (ascS w && (ascS x && (okL BB ts && true))) = true
            rw [w1', hx.asc, hok]; rfl
          · show max 0 (max 0 (max (depL ts + 1) 0)) + 1 ≤ _
            omega
          · show 10 * w.length + 60 + 2 + (10 * x.length + 60 + 2 + (wtL ts + 60 + 2 + 0)) + 60 ≤ _
            omega
    split
    · rename_i c6
      obtain ⟨S3, e3, d3⟩ := left_set (u := v - 2) d2
      rw [W_of e3, W_rng (by omega)]
      refine parts 2 _ _ _ (by decide) (by decide) (by omega) rfl d3 fun ts S' v' w0 w1 wl wt ww wd => ?_
      have := fin 2 ts S' v' w0 w1 (by decide) wl (fun _ => rfl) wt ww wd
      rw [if_pos c6] at this
      exact this
    · rename_i c6
      rw [min_I]
      generalize hm : (if v < i2 then v else i2) = m
      have hm0 : 0 ≤ m ∧ m ≤ 4 ∧ m ≤ v := by
        rw [← hm]
        split <;> omega
      obtain ⟨S3, e3, d3⟩ := left_set (u := v - m) d2
      rw [W_of (left_ix d2), W_subI, W_of e3, W_rng (by omega)]
      refine parts m _ _ _ hm0.1 hm0.2.1 hm0.2.2 rfl d3 fun ts S' v' w0 w1 wl wt ww wd => ?_
      have := fin m ts S' v' w0 w1 hm0.1 wl (fun z => absurd z c6) wt ww wd
      rw [if_neg c6] at this
      exact this
end K01

namespace K01
open MP PySem L2
theorem int_asc (i : Int) : ascS (Str.ofString (toString i)) = true := by
  unfold ascS
  rw [List.all_eq_true]
  intro c hc
  refine decide_eq_true (Decidable.byContradiction fun h => ?_)
  exact PyProof.Rows.int_text_free' c (by omega) i hc
theorem upper_asc {x : Str} (h : ascS x = true) : ascS (Txt.upper x) = true ∧ (Txt.upper x).length = x.length := by
  rw [PyProof.Rows.upper_ascii (asc_mem h)]
  constructor
  · unfold ascS
    rw [List.all_eq_true]
    intro c hc
    have hc : c ∈ (x.cps.map PyProof.Rows.up1).toList := hc
    rw [Array.toList_map] at hc
    obtain ⟨a, ha, rfl⟩ := List.mem_map.mp hc
    have := asc_mem h a ha
    refine decide_eq_true ?_
    unfold PyProof.Rows.up1
    split <;> omega
  · show (x.cps.map _).size = x.cps.size
    rw [Array.size_map]
theorem cutS_asc {x : Str} (h : ascS x = true) (lo hi : Option Int) : ascS (cutS x lo hi) = true := by
  unfold ascS
  rw [List.all_eq_true]
  intro c hc
  have hc : c ∈ (x.cps.toList.drop (HT.sIx x.length 0 lo)).take (HT.sIx x.length x.length hi - HT.sIx x.length 0 lo) := hc
  exact decide_eq_true (asc_mem h c (List.mem_of_mem_drop (List.mem_of_mem_take hc)))
theorem wtL_take : ∀ (n : Nat) (xs : List D), wtL (xs.take n) ≤ wtL xs
  | 0, xs => Nat.zero_le _
  | n + 1, [] => Nat.le_refl _
  | n + 1, x :: xs => by
    show wtD x + 2 + wtL (xs.take n) ≤ wtD x + 2 + wtL xs
    have := wtL_take n xs
    omega
theorem wtL_drop : ∀ (n : Nat) (xs : List D), wtL (xs.drop n) ≤ wtL xs
  | 0, xs => Nat.le_refl _
  | n + 1, [] => Nat.le_refl _
  | n + 1, x :: xs => by
    show wtL (xs.drop n) ≤ wtD x + 2 + wtL xs
    have := wtL_drop n xs
    omega
theorem cutL_mem {xs : List D} {lo hi : Option Int} {x : D} (h : x ∈ cutL xs lo hi) : x ∈ xs := List.mem_of_mem_drop (List.mem_of_mem_take h)
theorem cutL_wt (xs : List D) (lo hi : Option Int) : wtL (cutL xs lo hi) ≤ wtL xs := Nat.le_trans (wtL_take _ _) (wtL_drop _ _)
theorem cutL_len (xs : List D) (lo hi : Option Int) : (cutL xs lo hi).length ≤ xs.length := by
  unfold cutL
  rw [List.length_take, List.length_drop]
  omega
theorem wtL_rev (xs : List D) : wtL xs.reverse = wtL xs := by
  induction xs with
  | nil => rfl
  | cons x xs ih =>
    rw [List.reverse_cons, wtL_append, ih]
    show wtL xs + (wtD x + 2 + 0) = wtD x + 2 + wtL xs
    omega
/-- what is made of data -/
structure Dt (B k w : Nat) (d : D) : Prop where
  ok : okD B d = true
  dep : depD d ≤ k
  wt : wtD d ≤ w
structure DtL (B k w : Nat) (xs : List D) : Prop where
  ok : ∀ x ∈ xs, okD B x = true
  dep : ∀ x ∈ xs, depD x ≤ k
  wt : wtL xs ≤ w
theorem Dt.tup {B k w : Nat} {xs : List D} (h : DtL B k w xs) : Dt B (k + 1) (w + 60) (.tup xs) :=
  ⟨okL_all.mpr h.ok, Nat.succ_le_succ (depL_le.mpr h.dep), Nat.add_le_add_right h.wt 60⟩
theorem Dt.lst {B k w : Nat} {xs : List D} (h : DtL B k w xs) : Dt B (k + 1) (w + 60) (.lst xs) :=
  ⟨okL_all.mpr h.ok, Nat.succ_le_succ (depL_le.mpr h.dep), Nat.add_le_add_right h.wt 60⟩
theorem Dt.up {B B' k k' w w' : Nat} {d : D} (h : Dt B k w d) (hB : B ≤ B') (hk : k ≤ k') (hw : w ≤ w') : Dt B' k' w' d := ⟨okD_mono hB d h.ok, Nat.le_trans h.dep hk, Nat.le_trans h.wt hw⟩
theorem DtL.nil {B k : Nat} : DtL B k 0 [] := ⟨fun _ h => (List.not_mem_nil h).elim, fun _ h => (List.not_mem_nil h).elim, Nat.le_refl _⟩
theorem DtL.cons {B k w w' : Nat} {x : D} {xs : List D} (h : Dt B k w x) (h' : DtL B k w' xs) : DtL B k (w + 2 + w') (x :: xs) :=
  ⟨fun y hy => by rcases List.mem_cons.mp hy with rfl | hy; exact h.ok; exact h'.ok y hy,
   fun y hy => by rcases List.mem_cons.mp hy with rfl | hy; exact h.dep; exact h'.dep y hy, by
    show wtD x + 2 + wtL xs ≤ _
    have := h.wt; have := h'.wt; omega⟩
theorem DtL.app {B k w w' : Nat} {xs ys : List D} (h : DtL B k w xs) (h' : DtL B k w' ys) : DtL B k (w + w') (xs ++ ys) :=
  ⟨fun y hy => by rcases List.mem_append.mp hy with hy | hy; exact h.ok y hy; exact h'.ok y hy,
   fun y hy => by rcases List.mem_append.mp hy with hy | hy; exact h.dep y hy; exact h'.dep y hy, by
    rw [wtL_append]
    have := h.wt; have := h'.wt; omega⟩
theorem DtL.cut {B k w : Nat} {xs : List D} (h : DtL B k w xs) (lo hi : Option Int) : DtL B k w (cutL xs lo hi) :=
  ⟨fun y hy => h.ok y (cutL_mem hy), fun y hy => h.dep y (cutL_mem hy), Nat.le_trans (cutL_wt _ _ _) h.wt⟩
theorem DtL.rev {B k w : Nat} {xs : List D} (h : DtL B k w xs) : DtL B k w xs.reverse :=
  ⟨fun y hy => h.ok y (List.mem_reverse.mp hy), fun y hy => h.dep y (List.mem_reverse.mp hy), by rw [wtL_rev]; exact h.wt⟩
theorem DtL.up {B B' k k' w w' : Nat} {d : List D} (h : DtL B k w d) (hB : B ≤ B') (hk : k ≤ k') (hw : w ≤ w') : DtL B' k' w' d :=
  ⟨fun y hy => okD_mono hB y (h.ok y hy), fun y hy => Nat.le_trans (h.dep y hy) hk, Nat.le_trans h.wt hw⟩
theorem DtL.of {B k w : Nat} {xs : List D} (h : Dt B (k + 1) w (.tup xs)) : DtL B k (w - 60) xs :=
  ⟨okL_all.mp h.ok, depL_le.mp (Nat.le_of_succ_le_succ h.dep), by have : wtL xs + 60 ≤ w := h.wt; omega⟩
theorem Dt.str {B k : Nat} {x : Str} {n : Nat} (h : ascS x = true) (hn : x.length ≤ n) : Dt B k (10 * n + 60) (.str x) :=
  ⟨h, Nat.zero_le _, by show 10 * x.length + 60 ≤ _; omega⟩
theorem Dt.int {B k : Nat} {i : Int} (h : i.natAbs < B) : Dt B k 60 (.int i) := ⟨decide_eq_true h, Nat.zero_le _, Nat.le_refl _⟩
theorem Dt.bl {B k : Nat} {b : Bool} : Dt B k 60 (.bl b) := ⟨rfl, Nat.zero_le _, Nat.le_refl _⟩
theorem Dt.non {B k : Nat} : Dt B k 60 .non := ⟨rfl, Nat.zero_le _, Nat.le_refl _⟩
theorem some_ok : ∀ x ∈ ([.non, .bl true, .bl false, .int 0, .int (-1), .str "", .str "at", .tup [], .lst [], .dic [], .tup [.str "at"], .tup [.str "at", .int 0], .lst [.str "at", .int 0], .str "run", .int 10] : List D), okD 100 x = true ∧ depD x ≤ 1 ∧ wtD x ≤ 1000 := by
  have : (([.non, .bl true, .bl false, .int 0, .int (-1), .str "", .str "at", .tup [], .lst [], .dic [], .tup [.str "at"], .tup [.str "at", .int 0], .lst [.str "at", .int 0], .str "run", .int 10] : List D).all fun x => okD 100 x && decide (depD x ≤ 1) && decide (wtD x ≤ 1000)) = true := by decide +kernel
  intro x hx
  have := List.all_eq_true.mp this x hx
  simp only [Bool.and_eq_true, decide_eq_true_eq] at this
  exact ⟨this.1.1, this.1.2, this.2⟩
end K01

namespace K01
open MP PySem L2
theorem W_fail_of {α : Type} {m : M α} {S : Sto} {Q : α → Sto → Prop} {a : α} {S' : Sto} (e : m S = .ok a S') (h : Q a S') : W m S Q := by rw [W_of e]; exact h
theorem odd_W {n : Nat} {S : Sto} {T : List O} {B k w : Nat} {d : D} {Q : D → Sto → Prop} (hd : Dk S T) (hx : Dt B k w d) (hB : 100 ≤ B) (hB' : B ≤ 10 ^ 45) (hw : w ≤ 5000000) (h : ∀ e S', Dt (B + 100) (k + 1) (2 * w + 2000) e → Dk S' T → Q e S') : W (runF P (n + 2) 16 [.ref 1, d]) S Q := by
  show W (bodyD 6 (evSs (runF P (n + 1)) b16) [.ref 1, d]) S Q
  rw [W_body]
  unfold b16
  simp [startD]
  refine draw_W hd (by decide) (by decide) fun i1 S1 a1 b1 d1 => ?_
  refine draw_W d1 (by decide) (by decide) fun i2 S2 a2 b2 d2 => ?_
  have sm : ∀ (i : Int) (S' : Sto), 0 ≤ i → i < 15 → Dk S' T → W (ixD (.lst [.non, .bl true, .bl false, .int 0, .int (-1), .str (Str.ofString ""), .str (Str.ofString "at"), .tup [], .lst [], .dic [], .tup [.str (Str.ofString "at")], .tup [.str (Str.ofString "at"), .int 0], .lst [.str (Str.ofString "at"), .int 0], .str (Str.ofString "run"), .int 10]) (.int i)) S' Q := by
    intro i S' h0 h1 hS
    refine W_ixL_all h0 h1 fun x hx' => ?_
    obtain ⟨q1, q2, q3⟩ := some_ok x hx'
    exact h x S' ⟨okD_mono (by omega) x q1, by omega, by omega⟩ hS
  simp
  by_cases c1 : i2 = 0
  · simp [c1]
    refine draw_W d2 (by decide) (by decide) fun i3 S3 a3 b3 d3 => ?_
    exact sm i3 S3 a3 b3 d3
  simp [c1]
  cases d with
  | non => simp [isiD]; exact sm i1 S2 a1 (by omega) d2
  | lst xs => simp [isiD]; exact sm i1 S2 a1 (by omega) d2
  | dic xs => simp [isiD]; exact sm i1 S2 a1 (by omega) d2
  | frz xs => exact (Bool.false_ne_true hx.ok).elim
  | ref m => exact (Bool.false_ne_true hx.ok).elim
  | str x =>
    have xa : ascS x = true := hx.ok
    have xl : 10 * x.length + 60 ≤ w := hx.wt
    have la : (Str.ofString "a").length = 1 := by decide +kernel
    have l1 : (Str.ofString ".1.a").length = 4 := by decide +kernel
    have aa : ascS (Str.ofString "a") = true := by decide +kernel
    have a1' : ascS (Str.ofString ".1.a") = true := by decide +kernel
    obtain ⟨ua, ul⟩ := upper_asc xa
    have up : upperD (.str x) [] S2 = .ok (.str (Txt.upper x)) S2 := by
      show (if x.length ≤ 5592405 then R.ok (D.str (Txt.upper x)) S2 else .bad) = _
      rw [if_pos (by omega)]
    simp [isiD]
    rw [W_addS _ (by rw [la]; show _ ≤ 16777216; omega), W_of (sliceE_str (by show _ ≤ 16777216; omega) _ _ _ _), W_of up, W_addS _ (by rw [l1]; show _ ≤ 16777216; omega)]
    refine W_ixL_all a1 b1 fun y hy => ?_
    refine h y S2 ?_ d2
    have dx : Dt B k w (.str x) := hx
    have lit : ∀ z ∈ (["a.01.b", "a.0.b", "a.1."] : List Str), ascS z = true ∧ z.length ≤ 6 := by decide +kernel
    simp only [List.mem_cons, List.not_mem_nil, or_false] at hy
    rcases hy with rfl | rfl | rfl | rfl | rfl | rfl | rfl | rfl | rfl
    · exact (Dt.str (asc_cat xa aa) (n := x.length + 1) (by rw [strLen_append, la]; omega)).up (B := B) (k := k) (by omega) (by omega) (by omega)
    · exact (Dt.str (cutS_asc xa _ _) (cutS_length x _ _)).up (B := B) (k := k) (by omega) (by omega) (by omega)
    · exact (Dt.str ua (Nat.le_of_eq ul)).up (B := B) (k := k) (by omega) (by omega) (by omega)
    · exact (Dt.str (asc_cat xa a1') (n := x.length + 4) (by rw [strLen_append, l1]; omega)).up (B := B) (k := k) (by omega) (by omega) (by omega)
    · exact (Dt.str (lit _ (by simp)).1 (lit _ (by simp)).2).up (B := B) (k := k) (by omega) (by omega) (by omega)
    · exact (Dt.str (lit _ (by simp)).1 (lit _ (by simp)).2).up (B := B) (k := k) (by omega) (by omega) (by omega)
    · exact (Dt.lst (.cons dx .nil)).up (by omega) (by omega) (by omega)
    · exact (Dt.tup (.cons dx .nil)).up (by omega) (by omega) (by omega)
    · exact (Dt.str (lit _ (by simp)).1 (lit _ (by simp)).2).up (B := B) (k := k) (by omega) (by omega) (by omega)
  | int i =>
    have hi : i.natAbs < B := of_decide_eq_true hx.ok
    have hw0 : 60 ≤ w := hx.wt
    have hl : i.natAbs.log2 < 1920 := smallI_log (B := B) (by omega) hx.ok
    have hl2 : (Str.ofString (toString i)).length ≤ 60 := smallI_len (B := B) (by omega) hx.ok
    have hs : strD [.int i] S2 = .ok (.str (Str.ofString (toString i))) S2 := by
      show (if i.natAbs.log2 < 1920 then pure (D.str (toString i)) else M.fail : M D) S2 = _
      rw [if_pos hl]; rfl
    have ia := int_asc i
    simp [isiD]
    rw [W_of hs]
    generalize Str.ofString (toString i) = z at *
    refine W_ixL_all a1 b1 fun y hy => ?_
    refine h y S2 ?_ d2
    simp only [List.mem_cons, List.not_mem_nil, or_false] at hy
    rcases hy with rfl | rfl | rfl | rfl | rfl | rfl | rfl | rfl | rfl
    · exact (Dt.int (B := B + 100) (k := k) (by omega)).up (by omega) (by omega) (by omega)
    · exact (Dt.int (B := B + 100) (k := k) (by omega)).up (by omega) (by omega) (by omega)
    · exact (Dt.int (B := B + 100) (k := k) (by omega)).up (by omega) (by omega) (by omega)
    · exact (Dt.bl (B := B) (k := k)).up (by omega) (by omega) (by omega)
    · exact (Dt.str ia hl2).up (B := B) (k := k) (by omega) (by omega) (by omega)
    · exact (Dt.lst (.cons hx .nil)).up (by omega) (by omega) (by omega)
    · exact (Dt.non (B := B) (k := k)).up (by omega) (by omega) (by omega)
    · exact (Dt.int (B := B + 100) (k := k) (by omega)).up (by omega) (by omega) (by omega)
    · exact (Dt.tup (.cons hx .nil)).up (by omega) (by omega) (by omega)
  | bl b =>
    have hw0 : 60 ≤ w := hx.wt
    have e1 : ∀ S (R : D → Sto → Prop) (j : Int), W (addD false (.bl b) (.int j)) S R = R (.int (MP.b2 b + j)) S := fun _ _ _ => rfl
    have e2 : ∀ S (R : D → Sto → Prop) (j : Int), W (subD (.bl b) (.int j)) S R = R (.int (MP.b2 b - j)) S := fun _ _ _ => rfl
    have e3 : ∀ S (R : D → Sto → Prop) (j : Int), W (subD (.int j) (.bl b)) S R = R (.int (j - MP.b2 b)) S := fun _ _ _ => rfl
    have e4 : ∀ S (R : D → Sto → Prop), W (eqD (.bl b) (.int 1)) S R = R (.bl b) S := fun _ _ => by cases b <;> rfl
    have e5 : ∀ S (R : D → Sto → Prop), W (strD [.bl b]) S R = R (.str (Str.ofString (if b = true then "True" else "False"))) S := fun _ _ => by cases b <;> rfl
    have bb : 0 ≤ MP.b2 b ∧ MP.b2 b ≤ 1 := by cases b <;> decide
    have lit : ascS (Str.ofString (if b = true then "True" else "False")) = true ∧ (Str.ofString (if b = true then "True" else "False")).length ≤ 6 := by cases b <;> decide +kernel
    simp [isiD]
    rw [e1, e2, e3, e4, e5, e1]
    refine W_ixL_all a1 b1 fun y hy => ?_
    refine h y S2 ?_ d2
    simp only [List.mem_cons, List.not_mem_nil, or_false] at hy
    rcases hy with rfl | rfl | rfl | rfl | rfl | rfl | rfl | rfl | rfl
    · exact (Dt.int (B := B + 100) (k := k) (by omega)).up (by omega) (by omega) (by omega)
    · exact (Dt.int (B := B + 100) (k := k) (by omega)).up (by omega) (by omega) (by omega)
    · exact (Dt.int (B := B + 100) (k := k) (by omega)).up (by omega) (by omega) (by omega)
    · exact (Dt.bl (B := B) (k := k)).up (by omega) (by omega) (by omega)
    · exact (Dt.str lit.1 lit.2).up (B := B) (k := k) (by omega) (by omega) (by omega)
    · exact (Dt.lst (.cons hx .nil)).up (by omega) (by omega) (by omega)
    · exact (Dt.non (B := B) (k := k)).up (by omega) (by omega) (by omega)
    · exact (Dt.int (B := B + 100) (k := k) (by omega)).up (by omega) (by omega) (by omega)
    · exact (Dt.tup (.cons hx .nil)).up (by omega) (by omega) (by omega)
  | tup xs =>
    have hk : 1 ≤ k := Nat.le_trans (Nat.succ_le_succ (Nat.zero_le _)) hx.dep
    obtain ⟨k, rfl⟩ : ∃ j, k = j + 1 := ⟨k - 1, by omega⟩
    have hl := DtL.of hx
    have hw0 : wtL xs + 60 ≤ w := hx.wt
    have hlen := wtL_len xs
    simp [isiD]
    have e1 : eqD (.tup xs) (.tup []) S2 = .ok (.bl xs.isEmpty) S2 := by cases xs <;> rfl
    rw [W_of e1, W_asB]
    split
    · exact sm i1 S2 a1 (by omega) d2
    · rename_i hne
      have hpos : 0 < xs.length := by
        cases xs with
        | nil => exact absurd rfl hne
        | cons _ _ => exact Nat.succ_pos _
      refine draw_W d2 (by omega) (by omega) fun i3 S3 a3 b3 d3 => ?_
      have sl : ∀ S (R : D → Sto → Prop) lo hi, W (sliceE false (.tup xs) lo hi) S R = R (.tup (cutL xs lo hi)) S := fun _ _ _ _ => rfl
      have rv : ∀ S (R : D → Sto → Prop), W (revE false (.tup xs)) S R = R (.tup xs.reverse) S := fun _ _ => rfl
      have ls : ∀ S (R : D → Sto → Prop), W (listD false [.tup xs]) S R = R (.lst xs) S := fun _ _ => rfl
      have c : ∀ lo hi, (cutL xs lo hi).length ≤ xs.length := fun lo hi => cutL_len xs lo hi
      have c1 := c none (some i3)
      have c2 := c (some (i3 + 1)) none
      have c3 := c none (some (i3 + 1))
      have c4 := c (some i3) none
      simp only [W_asI, W_addI, sl]
      rw [W_addT _ (by show _ ≤ 16777216; omega), W_addT _ (by show _ ≤ 16777216; omega), rv, ls, W_addT _ (by show _ + 1 ≤ 16777216; omega), W_addT _ (by show _ + 1 ≤ 16777216; omega), W_addL _ (by show 5 + 4 ≤ 16777216; decide), W_newF]
      have t0 : Dt B (k + 1) 300 (.tup [.str (Str.ofString "at"), .int 0]) := by
        have l2 : (Str.ofString "at").length ≤ 2 := by decide +kernel
        exact ((Dt.tup (.cons (Dt.str (by decide +kernel) l2) (.cons (Dt.int (by show 0 < B; omega)) .nil))).up (k := k + 1) (Nat.le_refl B) (by omega) (by omega))
      have t0 : Dt B k 300 (.int 0) := (Dt.int (by show 0 < B; omega)).up (k := k) (Nat.le_refl B) (by omega) (by omega)
      refine W_ixL_all a1 b1 fun y hy => ?_
      refine h y S3 ?_ d3
      simp only [List.mem_cons, List.not_mem_nil, or_false, List.cons_append, List.nil_append] at hy
      have l2 : (Str.ofString "at").length ≤ 2 := by decide +kernel
      have at0 : Dt B 1 300 (.tup [.str (Str.ofString "at"), .int 0]) := (Dt.tup (k := 0) (.cons (Dt.str (by decide +kernel) l2) (.cons (Dt.int (by show 0 < B; omega)) .nil))).up (Nat.le_refl B) (by omega) (by omega)
      rcases hy with rfl | rfl | rfl | rfl | rfl | rfl | rfl | rfl | rfl
      · exact (Dt.tup ((hl.cut _ _).app (hl.cut _ _))).up (by omega) (by omega) (by omega)
      · exact (Dt.tup ((hl.cut _ _).app (hl.cut _ _))).up (by omega) (by omega) (by omega)
      · exact (Dt.tup hl.rev).up (by omega) (by omega) (by omega)
      · exact (Dt.lst hl).up (by omega) (by omega) (by omega)
      · exact (Dt.tup ((hl.up (k' := k + 1) (Nat.le_refl B) (by omega) (Nat.le_refl _)).app (.cons (at0.up (Nat.le_refl B) (by omega) (Nat.le_refl _)) .nil))).up (by omega) (by omega) (by omega)
      · exact (Dt.tup (hl.cut _ _)).up (by omega) (by omega) (by omega)
      · exact (Dt.tup (.cons hx .nil)).up (by omega) (by omega) (by omega)
      · exact (Dt.tup (hl.app (.cons t0 .nil))).up (by omega) (by omega) (by omega)
      · refine ⟨?_, ?_, ?_⟩
        · show (smallI (B + 100) 0 && okD (B + 100) (.tup xs) && true) = true
          rw [okD_mono (by omega) _ hx.ok, show smallI (B + 100) 0 = true from decide_eq_true (by show 0 < B + 100; omega)]
          rfl
        · show max (depD (.tup xs)) 0 + 1 ≤ _
          have := hx.dep
          omega
        · show 60 + wtD (.tup xs) + 4 + 0 + 60 ≤ _
          have := hx.wt
          omega
end K01

namespace K01
open MP PySem L2
theorem cut_take (xs : List D) (j : Nat) (h : j ≤ xs.length) : cutL xs none (some (j : Int)) = xs.take j := by
  unfold cutL
  rw [HT.sIx_none, HT.sIx_nat, Nat.min_eq_left h]
  simp
theorem cut_drop (xs : List D) (j : Nat) (h : j ≤ xs.length) : cutL xs (some (j : Int)) none = xs.drop j := by
  unfold cutL
  rw [HT.sIx_none, HT.sIx_nat, Nat.min_eq_left h]
  rw [List.take_of_length_le]
  rw [List.length_drop]
  omega
theorem bent_W : ∀ (k : Nat) {n : Nat} {S : Sto} {T : List O} {B w : Nat} {d : D} {Q : D → Sto → Prop}, Dk S T → Dt B k w d → 100 ≤ B → B ≤ 10 ^ 45 → w ≤ 5000000 → k + 3 ≤ n →
    (∀ e S', Dt (B + 100) (k + 1) (2 * w + 2000) e → Dk S' T → Q e S') → W (runF P n 17 [.ref 1, d]) S Q := by
  intro k
  induction k with
  | zero =>
    intro n S T B w d Q hd hx hB hB' hw hn h
    obtain ⟨n, rfl⟩ : ∃ m, n = m + 3 := ⟨n - 3, by omega⟩
    show W (bodyD 5 (evSs (runF P (n + 2)) b17) [.ref 1, d]) S Q
    rw [W_body]
    unfold b17
    simp [startD]
    refine draw_W hd (by decide) (by decide) fun i1 S1 a1 b1 d1 => ?_
    refine draw_W d1 (by decide) (by decide) fun i2 S2 a2 b2 d2 => ?_
    simp [W_of (par2 _ _ _), setsL]
    have nt : isiD .tup d = false := by
      cases d with
      | tup xs => exact absurd hx.dep (Nat.not_succ_le_zero _)
      | _ => rfl
    simp [nt]
    exact odd_W d2 hx hB hB' hw h
  | succ k ih =>
    intro n S T B w d Q hd hx hB hB' hw hn h
    obtain ⟨n, rfl⟩ : ∃ m, n = m + 3 := ⟨n - 3, by omega⟩
    show W (bodyD 5 (evSs (runF P (n + 2)) b17) [.ref 1, d]) S Q
    rw [W_body]
    unfold b17
    simp [startD]
    refine draw_W hd (by decide) (by decide) fun i1 S1 a1 b1 d1 => ?_
    refine draw_W d1 (by decide) (by decide) fun i2 S2 a2 b2 d2 => ?_
    simp [W_of (par2 _ _ _), setsL]
    have od : W (runF P (n + 2) 16 [.ref 1, d]) S2 (fun d S' => Q d S') := odd_W d2 hx hB hB' hw h
    cases ht : isiD .tup d with
    | false => simp; exact od
    | true =>
      obtain ⟨xs, rfl⟩ : ∃ xs, d = .tup xs := by
        cases d with
        | tup xs => exact ⟨xs, rfl⟩
        | _ => exact (Bool.false_ne_true ht).elim
      have e1 : neD (.tup xs) (.tup []) S2 = .ok (.bl (!xs.isEmpty)) S2 := by cases xs <;> rfl
      simp
      rw [W_of e1]
      simp
      by_cases hne : xs = []
      · subst hne
        simp
        exact od
      simp [hne]
      by_cases h5 : i1 < 5
      · simp [h5]
        have hl := DtL.of hx
        have hw0 : wtL xs + 60 ≤ w := hx.wt
        have hlen := wtL_len xs
        have hpos : 0 < xs.length := List.length_pos_iff.mpr hne
        refine draw_W d2 (by omega) (by omega) fun i3 S3 a3 b3 d3 => ?_
        have bi : ∀ S (R : D → Sto → Prop), W (intD [.bl (decide (i2 = 1))]) S R = R (.int (if decide (i2 = 1) = true then 1 else 0)) S := fun _ _ => rfl
        rw [bi]
        have body : ∀ j : Nat, j < xs.length →
            W (asI (.int (j : Int))) S3 fun h S4 => W (sliceE false (.tup xs) none h) S4 fun d_1 S1 => W (ixD (.tup xs) (.int (j : Int))) S1 fun e S1 => W (runF P (n + 2) 17 [.ref 1, e]) S1 fun d_2 S1 => W (addD false d_1 (.tup [d_2])) S1 fun d_3 S1 => W (addD false (.int (j : Int)) (.int 1)) S1 fun d_4 S1 => W (asI d_4) S1 fun l S2 => W (sliceE false (.tup xs) l none) S2 fun e S2 => W (addD false d_3 e) S2 fun d S1 => Q d S1 := by
          intro j hj
          have sl : ∀ S (R : D → Sto → Prop) lo hi, W (sliceE false (.tup xs) lo hi) S R = R (.tup (cutL xs lo hi)) S := fun _ _ _ _ => rfl
          have ej : ((j : Int) + 1) = ((j + 1 : Nat) : Int) := by omega
          have eix : ixD (.tup xs) (.int (j : Int)) S3 = .ok xs[j] S3 := by rw [ixD_tup, MP.atI_nat, List.getElem?_eq_getElem hj]
          simp only [W_asI, sl]
          rw [W_of eix, cut_take xs j (by omega)]
          have hsp : xs = xs.take j ++ xs[j] :: xs.drop (j + 1) := by
            rw [List.getElem_cons_drop, List.take_append_drop]
          have hsum : wtL xs = wtL (xs.take j) + (wtD xs[j] + 2 + wtL (xs.drop (j + 1))) := by
            have := congrArg wtL hsp
            rw [wtL_append] at this
            exact this
          have hm : xs[j] ∈ xs := List.getElem_mem hj
          have hz : Dt B k (wtD xs[j]) xs[j] := ⟨hl.ok _ hm, hl.dep _ hm, Nat.le_refl _⟩
          refine ih d3 hz hB hB' (by omega) (by omega) fun e S4 he d4 => ?_
          rw [W_addT _ (by rw [List.length_take]; show _ + 1 ≤ 16777216; omega), W_addI, W_asI, ej, cut_drop xs (j + 1) (by omega), W_addT _ (by rw [List.length_append, List.length_take, List.length_drop]; show _ + 1 + _ ≤ 16777216; omega)]
          refine h _ S4 ⟨?_, ?_, ?_⟩ d4
          · refine okL_all.mpr fun y hy => ?_
            rcases List.mem_append.mp hy with hy | hy
            · rcases List.mem_append.mp hy with hy | hy
              · exact okD_mono (by omega) y (hl.ok y (List.mem_of_mem_take hy))
              · rw [List.mem_singleton.mp hy]; exact he.ok
            · exact okD_mono (by omega) y (hl.ok y (List.mem_of_mem_drop hy))
          · refine Nat.succ_le_succ (depL_le.mpr fun y hy => ?_)
            rcases List.mem_append.mp hy with hy | hy
            · rcases List.mem_append.mp hy with hy | hy
              · exact Nat.le_succ_of_le (hl.dep y (List.mem_of_mem_take hy))
              · rw [List.mem_singleton.mp hy]; exact he.dep
            · exact Nat.le_succ_of_le (hl.dep y (List.mem_of_mem_drop hy))
          · show wtL (xs.take j ++ [e] ++ xs.drop (j + 1)) + 60 ≤ _
            rw [wtL_append, wtL_append]
            show wtL (xs.take j) + (wtD e + 2 + 0) + wtL (xs.drop (j + 1)) + 60 ≤ _
            have := he.wt
            omega
        refine W_ixL_all (by split <;> omega) (by show _ < (2 : Int); split <;> omega) fun y hy => ?_
        simp only [List.mem_cons, List.not_mem_nil, or_false] at hy
        rcases hy with rfl | rfl
        · obtain ⟨j, rfl⟩ := Int.eq_ofNat_of_zero_le a3
          exact body j (by omega)
        · have ej : (xs.length : Int) - 1 = ((xs.length - 1 : Nat) : Int) := by omega
          rw [ej]
          exact body (xs.length - 1) (by omega)
      · simp [h5]
        exact od
end K01

namespace K01
open MP PySem L2
structure Sg (n : Nat) (x : Str) : Prop where
  asc : ascS x = true
  len : x.length ≤ n
theorem Sg.dt {n : Nat} {x : Str} (h : Sg n x) (hn : n ≤ 10000) : Dt BB 1 200000 (.str x) := (Dt.str h.asc h.len).up (B := BB) (k := 1) (Nat.le_refl _) (Nat.le_refl _) (by omega)
theorem addG {n k : Nat} {x y : Str} {m : Bool} {S : Sto} {Q : D → Sto → Prop} (hx : Sg n x) (hy : Sg k y) (hn : n + k ≤ 16777216) (h : ∀ z, Sg (n + k) z → Q (.str z) S) : W (addD m (.str x) (.str y)) S Q := by
  have := hx.len
  have := hy.len
  rw [W_addS _ (by show _ ≤ 16777216; omega)]
  exact h _ ⟨asc_cat hx.asc hy.asc, by rw [strLen_append]; omega⟩
theorem sliceG {n : Nat} {x : Str} {m : Bool} {lo hi : Option Int} {S : Sto} {Q : D → Sto → Prop} (hx : Sg n x) (hn : n ≤ 16777216) (h : ∀ z, Sg n z → Q (.str z) S) : W (sliceE m (.str x) lo hi) S Q := by
  have := hx.len
  rw [W_of (sliceE_str (by show _ ≤ 16777216; omega) _ _ _ _)]
  exact h _ ⟨cutS_asc hx.asc _ _, Nat.le_trans (cutS_length x _ _) hx.len⟩
theorem join_asc {z : Str} (hz : ascS z = true) : ∀ (l : List Str), (∀ x ∈ l, ascS x = true) → ascS (Str.join z l) = true
  | [], _ => (by decide +kernel : ascS "" = true)
  | [x], h => h x (List.mem_singleton.mpr rfl)
  | x :: y :: r, h => by
    show ascS (x ++ z ++ Str.join z (y :: r)) = true
    exact asc_cat (asc_cat (h x (List.mem_cons_self ..)) hz) (join_asc hz (y :: r) fun w hw => h w (List.mem_cons_of_mem _ hw))
theorem replG {x y : Str} {z : Str} {a b c : Str} {S : Sto} {Q : D → Sto → Prop} (hs : Txt.split x dot = [a, b, c]) (ha : nameS a = true) (hb : figS b = true) (hc : nameS c = true) (hx : x.length ≤ 58) (hz : Sg 2 z) (hy : y = ".") (h : ∀ v, Sg 60 v → Q (.str v) S) : W (replD y z (.str x)) S Q := by
  subst hy
  have hz2 := hz.len
  obtain ⟨a1, a2, a3, a4⟩ := name_asc ha
  obtain ⟨b1, b2, b3, b4⟩ := fig_asc hb
  obtain ⟨c1, c2, c3, c4⟩ := name_asc hc
  have hlen : x.length + (x.length + 1) * z.length ≤ 16777216 := by
    have : (x.length + 1) * z.length ≤ 59 * 2 := Nat.mul_le_mul (by omega) hz2
    omega
  have e : replD "." z (.str x) S = .ok (.str (Txt.replace x "." z)) S := by
    show (if x.length + (x.length + 1) * z.length ≤ 16777216 then pure (D.str (Txt.replace x "." z)) else M.fail : M D) S = _
    rw [if_pos hlen]; rfl
  rw [W_of e]
  refine h _ ?_
  have hoc : (occ x).isEmpty = false := by
    cases q : (occ x).isEmpty with
    | false => rfl
    | true => rw [split_eq, q, if_pos rfl] at hs; cases hs
  have hpb : Builtin.Str.partsBetween x (occ x) 1 = [a, b, c] := by
    rw [split_eq, hoc, if_neg Bool.false_ne_true] at hs
    exact hs
  have er : Txt.replace x "." z = Str.join z [a, b, c] := by
    unfold Txt.replace
    have : ((Builtin.Str.occurrences x "." 0 x.length (x.length + 1)).isEmpty || ((Str.ofString ".").length == 0 && z.length == 0)) = false := by
      rw [show Builtin.Str.occurrences x "." 0 x.length (x.length + 1) = occ x from rfl, hoc, show (Str.ofString ".").length = 1 from dot_len]
      rfl
    rw [if_neg (by rw [this]; exact Bool.false_ne_true), StrLaws.glued_eq_join]
    rw [show Builtin.Str.occurrences x "." 0 x.length (x.length + 1) = occ x from rfl, show (Str.ofString ".").length = 1 from dot_len, hpb]
  rw [er]
  refine ⟨join_asc hz.asc _ fun w hw => ?_, ?_⟩
  · simp only [List.mem_cons, List.not_mem_nil, or_false] at hw
    rcases hw with rfl | rfl | rfl
    · exact a1
    · exact b1
    · exact c1
  · show (a ++ z ++ (b ++ z ++ c)).length ≤ 60
    rw [strLen_append, strLen_append, strLen_append, strLen_append]
    omega
end K01

namespace K01
open MP PySem L2
theorem newT_W {S : Sto} {T : List O} {xs ys : List D} {Q : D → Sto → Prop} (hd : Dk S T) (hl : xs.length + ys.length ≤ 16777216) (h : ∀ S', Dk S' (T ++ [.lst (xs ++ ys)]) → Q (.ref (T.length + 2)) S') : W (addD true (.lst xs) (.lst ys)) S Q := by
  rw [W_addL _ hl, W_newT]
  obtain ⟨cs, m, t, hl, rfl⟩ := hd
  exact h _ ⟨cs, m, t, hl, rfl⟩
theorem last_look {S : Sto} {T : List O} {o : O} (hd : Dk S (T ++ [o])) : S[T.length + 2]? = some o := by
  obtain ⟨cs, m, t, hl, rfl⟩ := hd
  rw [List.getElem?_cons_succ, List.getElem?_cons_succ, last_at]
theorem app_W {S : Sto} {T : List O} {xs : List D} {d : D} {Q : D → Sto → Prop} (hd : Dk S (T ++ [.lst xs])) (hl : xs.length < 16777216) (h : ∀ S', Dk S' (T ++ [.lst (xs ++ [d])]) → Q .non S') : W (appendD (.ref (T.length + 2)) [d]) S Q := by
  have e : appendD (.ref (T.length + 2)) [d] S = .ok .non (S.set (T.length + 2) (.lst (xs ++ [d]))) := by
    show (match S[T.length + 2]? with | some (O.lst xs) => (if xs.length < SL then R.ok D.non (S.set (T.length + 2) (.lst (xs ++ [d]))) else .bad) | none => .bad) = _
    rw [last_look hd]
    show (if xs.length < SL then _ else _) = _
    rw [if_pos hl]
  rw [W_of e]
  obtain ⟨cs, m, t, hl', rfl⟩ := hd
  refine h _ ⟨cs, m, t, hl', ?_⟩
  show O.lst (cs.map D.int) :: O.lst [.ref 0, .int m, .int t] :: (T ++ [O.lst xs]).set T.length (.lst (xs ++ [d])) = _
  rw [last_set]
theorem addR_W {S : Sto} {T : List O} {xs ys : List D} {Q : D → Sto → Prop} (hd : Dk S (T ++ [.lst xs])) (hl : xs.length + ys.length ≤ 16777216) (h : Q (.lst (xs ++ ys)) S) : W (addD false (.ref (T.length + 2)) (.lst ys)) S Q := by
  have e : addD false (.ref (T.length + 2)) (.lst ys) S = .ok (.lst (xs ++ ys)) S := by
    have ei : items S (.ref (T.length + 2)) = some xs := by
      show (match S[T.length + 2]? with | some (O.lst ds) => some ds | none => none) = _
      rw [last_look hd]
    show (match items S (.ref (T.length + 2)), items S (.lst ys) with | some xs, some ys => (if xs.length + ys.length ≤ SL then newL false (xs ++ ys) S else .bad) | _, _ => .bad) = _
    rw [ei]
    show (if xs.length + ys.length ≤ SL then _ else _) = _
    rw [if_pos hl]
    rfl
  rw [W_of e]
  exact h
theorem mul9 {k : Int} {S : Sto} {Q : D → Sto → Prop} (hk : k = 40 ∨ k = 41) (h : ∀ z, Sg 41 z → Q (.str z) S) : W (mulD (.str (Str.ofString "9")) (.int k)) S Q := by
  have e : ∀ k : Nat, k = 40 ∨ k = 41 → (ascS ⟨(List.replicate k (Str.ofString "9").cps).foldl (· ++ ·) #[]⟩ = true ∧ (⟨(List.replicate k (Str.ofString "9").cps).foldl (· ++ ·) #[]⟩ : Str).length ≤ 41) := by
    rintro k (rfl | rfl) <;> decide +kernel
  rcases hk with rfl | rfl
  · exact h _ ⟨(e 40 (.inl rfl)).1, (e 40 (.inl rfl)).2⟩
  · exact h _ ⟨(e 41 (.inr rfl)).1, (e 41 (.inr rfl)).2⟩
theorem Dt.dat {B k w : Nat} {d : D} (h : Dt B k w d) (hk : k ≤ 100) (hw : w ≤ 16000000) : Dat B 100 16000000 d := ⟨h.ok, Nat.le_trans h.dep hk, Nat.le_trans h.wt hw⟩
/-- all are right: none is left over -/
theorem rights_W {n : Nat} {ga : D → MP.Env → M MP.Env} {gt : MP.Env → M Bool} {ge : MP.Env → M D} {ρw : MP.Env} {S : Sto} {xs : List D} {Q : D → Sto → Prop} (hx : ∀ x ∈ xs, Dat (BB + 1000) 100 16000000 x) (hl : xs.length ≤ 16777216) (hn : 106 ≤ n)
    (hg : ∀ (d : D) (R : Sto → Prop), W (runF P n 24 [d]) S (fun z S1 => W (truD z) S1 (fun b S2 => if (!b) = true then False else R S2)) → W (ga d ρw) S (fun ρ1 S1 => W (gt ρ1) S1 (fun b S2 => if b = true then W (ge ρ1) S2 (fun y S3 => False) else R S2))) (h : Q (.bl true) S) :
    W (lcS false ga gt ge ρw (.fix xs)) S (fun d S1 => W (eqD d (.lst [])) S1 Q) := by
  refine W_lcS (I := fun i acc S' => acc = [] ∧ S' = S) hl ⟨rfl, rfl⟩ ?_ ?_
  · rintro i d acc S' hi ⟨rfl, rfl⟩ _
    have hd := hx d (List.mem_of_getElem? hi)
    refine (hg d (fun S2 => S2 = S') ?_).mono fun ρ1 S1 z => z.mono fun b S2 z2 => ?_
    · rw [W_of (right_ok (by decide) hd S' n hn)]
      simp
    · cases b with
      | true =>
        rw [if_pos rfl] at z2 ⊢
        exact z2.mono fun _ _ f => f.elim
      | false =>
        rw [if_neg Bool.false_ne_true] at z2 ⊢
        exact ⟨rfl, z2⟩
  · rintro ys S' ⟨rfl, rfl⟩ _
    rw [W_newF, W_of (eq_nil [] _)]
    exact h
theorem names_W {n : Nat} {S : Sto} {T : List O} {Q : D → Sto → Prop} (hd : Dk S T) (h : ∀ S' T', Dk S' (T ++ T') → Q (.bl true) S') : W (runF P (n + 110) 25 [.ref 1]) S Q := by
  show W (bodyD 5 (evSs (runF P (n + 109)) b25) [.ref 1]) S Q
  rw [W_body]
  unfold b25
  simp [startD]
  refine name_W hd fun x S1 hx d1 => ?_
  refine far_W d1 fun y S2 hy ⟨a, b, c, ha, hb, hc, hsp⟩ d2 => ?_
  obtain ⟨x1, x2, x3, x4⟩ := name_asc hx
  have gx : Sg 8 x := ⟨x1, x3⟩
  have gy : Sg 58 y := ⟨hy.asc, hy.len⟩
  have e1 : ∀ S, runF P (n + 109) 1 [.str x] S = .ok (.bl true) S := fun S => by
    rw [is_name_ok (n + 108) (.str x) S (by show x.length ≤ 16777216; omega)]
    show R.ok (D.bl (nameS x)) S = _
    rw [hx]
  have e2 : ∀ S, runF P (n + 109) 3 [.str y] S = .ok (.bl true) S := fun S => by
    rw [is_far_ok (n + 107) (.str y) S (fun z e => by cases e; have := hy.len; show _ ≤ 16777216; omega), hy.far]
  have e3 : ∀ S, isNotD (.bl true) (.bl true) S = .ok (.bl false) S := fun S => rfl
  simp [W_of (par2 _ _ _), setsL, W_of (e1 _), W_of (e2 _), W_of (e3 _)]
  have g1 : Sg 1 (Str.ofString ".") := ⟨by decide +kernel, by decide +kernel⟩
  have g2 : Sg 2 (Str.ofString ".1") := ⟨by decide +kernel, by decide +kernel⟩
  have g3 : Sg 4 (Str.ofString ".-1.") := ⟨by decide +kernel, by decide +kernel⟩
  have g4 : Sg 4 (Str.ofString ".1 .") := ⟨by decide +kernel, by decide +kernel⟩
  have g5 : Sg 1 (Str.ofString "\n") := ⟨by decide +kernel, by decide +kernel⟩
  have g6 : Sg 1 (Str.ofString " ") := ⟨by decide +kernel, by decide +kernel⟩
  have z0 : Sg 2 (Str.ofString "") := ⟨by decide +kernel, by decide +kernel⟩
  have z1 : Sg 2 (Str.ofString ".0") := ⟨by decide +kernel, by decide +kernel⟩
  have z2 : Sg 2 (Str.ofString "..") := ⟨by decide +kernel, by decide +kernel⟩
  have w1 : Sg 8 (Str.ofString "abcdefgh") := ⟨by decide +kernel, by decide +kernel⟩
  have w2 : Sg 9 (Str.ofString "abcdefghi") := ⟨by decide +kernel, by decide +kernel⟩
  have hyl := hy.len
  clear e1 e2 e3 hd d1 hx x1 x2 x3 x4
  repeat' (first | (with_reducible refine addG (by assumption) (by assumption) (by decide) ?_; intro _ _) | (with_reducible refine sliceG (by assumption) (by decide) ?_; intro _ _) | (with_reducible refine replG hsp ha hb hc hyl (by assumption) rfl ?_; intro _ _))
  refine newT_W d2 ?_ fun S3 d3 => ?_
  · simp
  repeat' (first | (with_reducible refine addG (by assumption) (by assumption) (by decide) ?_; intro _ _) | (with_reducible refine sliceG (by assumption) (by decide) ?_; intro _ _) | (with_reducible refine replG hsp ha hb hc hyl (by assumption) rfl ?_; intro _ _))
  refine app_W d3 ?_ fun S4 d4 => ?_
  · simp
  repeat' (first | (with_reducible refine addG (by assumption) (by assumption) (by decide) ?_; intro _ _) | (with_reducible refine sliceG (by assumption) (by decide) ?_; intro _ _) | (with_reducible refine replG hsp ha hb hc hyl (by assumption) rfl ?_; intro _ _))
  refine addR_W d4 ?_ ?_
  · simp
  repeat' (first | (with_reducible refine addG (by assumption) (by assumption) (by decide) ?_; intro _ _) | (with_reducible refine mul9 (by decide) ?_; intro _ _))
  rw [W_addL _ (by show _ ≤ 16777216; simp), W_newF]
  refine odd_W d4 ((Sg.dt gx (by decide)).up (B := BB) (Nat.le_refl _) (Nat.le_refl _) (Nat.le_refl _)) (by decide) (by decide) (by decide) fun u1 S5 h5 d5 => ?_
  refine odd_W d5 ((Sg.dt gy (by decide)).up (B := BB) (Nat.le_refl _) (Nat.le_refl _) (Nat.le_refl _)) (by decide) (by decide) (by decide) fun u2 S6 h6 d6 => ?_
  repeat' (first | (with_reducible refine replG hsp ha hb hc hyl (by assumption) rfl ?_; intro _ _))
  rw [W_addL _ (by show _ ≤ 16777216; simp), W_newF]
  rw [W_seqL]
  refine rights_W (n := n + 109) ?_ (by simp) (by omega) ?_ (h _ _ d6)
  · intro z hz
    have up : ∀ (k : Nat) (v : Str), Sg k v → k ≤ 10000 → Dat (BB + 1000) 100 16000000 (.str v) := fun k v hv hk => ((Sg.dt hv hk).up (B' := BB + 1000) (by omega) (Nat.le_refl _) (Nat.le_refl _)).dat (by omega) (by omega)
    simp only [List.mem_cons, List.not_mem_nil, or_false, List.cons_append, List.nil_append] at hz
    rcases hz with rfl | rfl | rfl | rfl | rfl | rfl | rfl | rfl | rfl | rfl | rfl | rfl | rfl | rfl | rfl | rfl | rfl | rfl | rfl | rfl | rfl | rfl | rfl
    all_goals first
      | exact up _ _ (by assumption) (by decide)
      | exact (h5.up (by omega) (Nat.le_refl _) (Nat.le_refl _)).dat (by decide) (by decide)
      | exact (h6.up (by omega) (Nat.le_refl _) (Nat.le_refl _)).dat (by decide) (by decide)
  · intro d R hR
    simpa [wipeE] using hR
end K01

namespace K01
open MP PySem L2
theorem ints_of : ∀ (xs : List Int), ints? (xs.map D.int) = some xs
  | [] => rfl
  | x :: xs => by
    have := ints_of xs
    simp [ints?, this]
theorem cut_map (ns : List Int) (lo hi : Option Int) : cutL (ns.map D.int) lo hi = (cutL ns lo hi).map D.int := by
  unfold cutL
  rw [List.length_map, List.map_take, List.map_drop]
theorem cut_len {α : Type} (xs : List α) (lo hi : Option Int) : (cutL xs lo hi).length ≤ xs.length := by
  unfold cutL
  rw [List.length_take, List.length_drop]
  omega
theorem deck_W {n : Nat} {ns : List Int} (h63 : ns.length ≤ 63) {Q : D → Sto → Prop} (h : ∀ S, Dk S [] → Q (.ref 1) S) : W (runF P (n + 1) 8 [.frz (ns.map D.int)]) [] Q := by
  show W (bodyD 3 (evSs (runF P n) b8) [.frz (ns.map D.int)]) [] Q
  rw [W_body]
  unfold b8
  have e1 : ∀ S, sliceE false (.frz (ns.map D.int)) none (some 63) S = .ok (.lst ((cutL ns none (some 63)).map D.int)) S := fun S => by
    rw [← cut_map]; rfl
  generalize hc : cutL ns none (some 63) = cs at e1
  have hl : cs.length ≤ 63 := by rw [← hc]; exact Nat.le_trans (cut_len _ _ _) h63
  have e2 : ∀ S (R : D → Sto → Prop) xs, W (listD false [.lst xs]) S R = R (.lst xs) S := fun _ _ _ => rfl
  have e3 : ∀ S (R : D → Sto → Prop) xs, W (revE true (.lst xs)) S R = R (.ref S.length) (S ++ [.lst xs.reverse]) := fun _ _ _ => rfl
  simp [startD, W_of (e1 _)]
  rw [e2]
  simp
  rw [e3]
  refine W_lcS (I := fun i acc S' => S' = [O.lst (cs.map D.int).reverse] ∧ ∃ is : List Int, acc = is.map D.int) ?_ ⟨rfl, [], rfl⟩ ?_ ?_
  · show _ ≤ 16777216
    rw [List.length_map]; omega
  · rintro i d acc S' hi ⟨rfl, is, rfl⟩ _
    obtain ⟨c, hc', rfl⟩ := List.mem_map.mp (List.mem_of_getElem? hi)
    simp [wipeE]
    rw [W_modI (by decide)]
    exact ⟨rfl, is ++ [c % 1000033], by simp⟩
  · rintro ys S' ⟨rfl, is, rfl⟩ _
    have es : ∀ S, sumD [.lst (is.map D.int)] S = .ok (.int is.sum) S := fun S => by
      show (match (some (is.map D.int)).bind ints? with | some ns => R.ok (D.int ns.sum) S | none => .bad) = _
      rw [Option.bind_some, ints_of]
    rw [W_newF, W_of (es _), W_mulI (Or.inl (by decide)), W_addI]
    refine h _ ⟨cs.reverse, is.sum + 6007 * (cs.length : Int), 0, by simpa using hl, ?_⟩
    rw [← List.map_reverse]
    rfl
theorem newB {S : Sto} {T : List O} (hd : Dk S T) (o : O) : List.length S = T.length + 2 ∧ Dk (S ++ [o]) (T ++ [o]) := by
  obtain ⟨cs, m, t, hl, rfl⟩ := hd
  exact ⟨rfl, cs, m, t, hl, rfl⟩
theorem newB_W {S : Sto} {T : List O} {xs : List D} {Q : D → Sto → Prop} (hd : Dk S T) (h : ∀ S', Dk S' (T ++ [.lst xs]) → Q (.ref (T.length + 2)) S') : W (newL true xs) S Q := by
  rw [W_newT]
  obtain ⟨cs, m, t, hl, rfl⟩ := hd
  exact h _ ⟨cs, m, t, hl, rfl⟩
theorem Tm.fit {k w : Nat} {t : D} (h : Tm k w t) (hk : k ≤ 100) (hw : w ≤ 1000000) (S : Sto) {n : Nat} (hn : 104 ≤ n) : runF P n 7 [t] S = .ok (.bl true) S := by
  have hf : K01.fit t := by
    have := sz_le t h.ok
    have := h.wt
    show szD t + 2 ≤ 16777216
    omega
  have := (term_ok S 100 t (Nat.le_trans (dp_le t) (Nat.le_trans h.dep hk)) hf (n - 4) (by omega)).1
  rw [show n - 4 + 4 = n by omega, h.tm] at this
  exact this
def bLoop : Sxs := (.cons (.set 6 (.call 15 (.cons (.var 1) (.cons (.ix (.lst false (.cons (.int 2) (.cons (.int 5) (.cons (.int 11) .nil)))) (.call 9 (.cons (.var 1) (.cons (.int 3) .nil)))) (.cons (.lst true (.cons (.call 9 (.cons (.var 1) (.cons (.int 80) .nil))) .nil)) .nil)))))
    (.cons (.ite (.or (.cons (.cmp .isNot (.call 7 (.cons (.var 6) .nil)) (.bl true)) (.cons (.not (.val (.call 24 (.cons (.var 6) .nil)))) .nil))) (.cons (.ret (.bl false))
    .nil) .nil)
    (.cons (.forr (.nm 7) (.rng (.cons (.int 3) .nil)) (.cons (.set 10 (.call 17 (.cons (.var 1) (.cons (.var 6) .nil))))
    (.cons (.ite (.cmp .eq (.var 3) (.int 1)) (.cons (.set 10 (.call 17 (.cons (.var 1) (.cons (.var 10) .nil))))
    .nil) .nil)
    (.cons (.ite (.not (.val (.call 24 (.cons (.var 10) .nil)))) (.cons (.ret (.bl false))
    .nil) .nil)
    .nil))))
    (.cons (.ite (.not (.val (.call 25 (.cons (.var 1) .nil)))) (.cons (.ret (.bl false))
    .nil) .nil)
    .nil))))
theorem Tm.dt {k w : Nat} {t : D} (h : Tm k w t) : Dt BB k w t := ⟨h.ok, h.dep, h.wt⟩
theorem loop_W {tw t : D} {i : Int} {sc : D} {x4 x5 x6 x7 x8 x9 x10 x11 : Option D} {S : Sto} {T : List O} {Q : Fl → Sto → Prop} (hd : Dk S T)
    (h : ∀ S' T' y6 y7 y10, Dk S' T' → Q (.next [some sc, some (.ref 1), some tw, some (.int i), x4, x5, y6, y7, x8, x9, y10, x11]) S') :
    W (evSs (runF P 121) bLoop [some sc, some (.ref 1), some tw, some (.int i), x4, x5, x6, x7, x8, x9, x10, x11]) S Q := by
  unfold bLoop
  simp
  refine draw_W hd (by decide) (by decide) fun i1 S1 a1 b1 d1 => ?_
  refine W_ixL_all a1 b1 fun z hz => ?_
  obtain ⟨dp, rfl, hdp⟩ : ∃ dp : Nat, z = .int dp ∧ dp ≤ 11 := by
    simp at hz
    rcases hz with rfl | rfl | rfl
    · exact ⟨2, rfl, by decide⟩
    · exact ⟨5, rfl, by decide⟩
    · exact ⟨11, rfl, by decide⟩
  refine draw_W d1 (by decide) (by decide) fun v S2 a2 b2 d2 => ?_
  obtain ⟨hl3, d3⟩ := newB d2 (.lst [.int v])
  rw [hl3]
  refine term_W dp d3 a2 (by omega) (by omega) fun t S4 v' v0 v1 ht d4 => ?_
  have ht : Tm 24 200000 t := ⟨ht.tm, ht.ok, Nat.le_trans ht.dep (by omega), Nat.le_trans ht.wt (by omega)⟩
  have e1 := ht.fit (by decide) (by decide) S4 (n := 121) (by decide)
  have e2 : isNotD (.bl true) (.bl true) S4 = .ok (.bl false) S4 := rfl
  have hdt : Dt (BB + 1000) 24 200000 t := ht.dt.up (by omega) (Nat.le_refl _) (Nat.le_refl _)
  have e3 := right_ok (by decide) (hdt.dat (by decide) (by decide)) S4 121 (by decide)
  simp [W_of e1, W_of e2, W_of e3]
  rw [W_rng (by omega)]
  refine W_forF (I := fun j ρ S' => (∃ T', Dk S' T') ∧ ∃ y7 y10, ρ = [some sc, some (.ref 1), some tw, some (.int i), x4, x5, some t, y7, x8, x9, y10, x11]) ⟨⟨_, d4⟩, _, _, rfl⟩ ?_ ?_
  · rintro j d ρ S' hj ⟨⟨T', d5⟩, y7, y10, rfl⟩
    simp [Tg.ev]
    refine bent_W 24 d5 ht.dt (by decide) (by decide) (by decide) (by decide) fun e S6 he d6 => ?_
    by_cases hi : i = 1
    · simp [hi]
      refine bent_W 25 d6 he (by decide) (by decide) (by decide) (by decide) fun e' S7 he' d7 => ?_
      have e4 := right_ok (by decide) ((he'.up (B' := BB + 1000) (by omega) (Nat.le_refl _) (Nat.le_refl _)).dat (by decide) (by decide)) S7 121 (by decide)
      simp [W_of e4]
      exact ⟨T', d7⟩
    · simp [hi]
      have e4 := right_ok (by decide) ((he.up (B' := BB + 1000) (by omega) (Nat.le_refl _) (Nat.le_refl _)).dat (by decide) (by decide)) S6 121 (by decide)
      simp [W_of e4]
      exact ⟨T', d6⟩
  · rintro ρ' S' ⟨⟨T', d5⟩, y7, y10, rfl⟩
    simp
    refine names_W (n := 11) d5 fun S6 T6 d6 => ?_
    simp
    exact h _ _ _ _ _ d6
end K01

namespace K01
open MP PySem L2
def datB (x : D) : Bool := okD (BB + 1000) x && decide (depD x ≤ 100) && decide (wtD x ≤ 16000000)
theorem datB_ok {x : D} (h : datB x = true) : Dat (BB + 1000) 100 16000000 x := by
  unfold datB at h
  simp only [Bool.and_eq_true, decide_eq_true_eq] at h
  exact ⟨h.1.1, h.1.2, h.2⟩
theorem mulT {x : D} {S : Sto} {Q : D → Sto → Prop} (h : Q (.tup (List.replicate 449 x)) S) : W (mulD (.tup [x]) (.int 449)) S Q := by
  have e : mulD (.tup [x]) (.int 449) S = .ok (.tup (List.replicate 449 x)) S := by
    show (if [x] ≠ [] ∧ (2 : Int) ≤ 449 ∧ (449 : Int) ≤ 1000 ∧ [x].length ≤ 1000 then pure (D.tup (List.replicate (449 : Int).toNat [x]).flatten) else M.fail : M D) S = _
    rw [if_pos ⟨by simp, by decide, by decide, by simp⟩]
    have : (List.replicate (449 : Int).toNat [x]).flatten = List.replicate 449 x := by
      show (List.replicate 449 [x]).flatten = _
      generalize 449 = n
      induction n with
      | zero => rfl
      | succ n ih => rw [List.replicate_succ, List.replicate_succ, List.flatten_cons, ih]; rfl
    rw [this]
    rfl
  rw [W_of e]
  exact h
def isLast (x : D) : Prop := okD (BB + 1000) x = true ∧ depD x ≤ 1 ∧ wtD x ≤ 300
def bTail : Sxs := 
    (.cons (.forr (.nm 5) (.seq (.lst false (.cons (.tup (.cons (.str "at") (.cons (.int 0) .nil))) (.cons (.tup (.cons (.str "at") (.cons (.neg 1) .nil))) (.cons (.tup (.cons (.str "at") (.cons (.bl true) .nil))) .nil))))) (.cons (.set 8 (.var 5))
    (.cons (.forr (.nm 9) (.rng (.cons (.int 70) .nil)) (.cons (.set 8 (.tup (.cons (.str "fun") (.cons (.str "run") (.cons (.tup (.cons (.str "world") (.cons (.int 0) .nil))) (.cons (.var 8) .nil))))))
    .nil))
    (.cons (.set 4 (.bin .add false (.var 4) (.lst false (.cons (.var 8) (.cons (.tup (.cons (.str "call") (.cons (.str "a") (.cons (.bin .add false (.bin .mul false (.tup (.cons (.tup (.cons (.str "at") (.cons (.int 0) .nil))) .nil)) (.int 449)) (.tup (.cons (.var 5) .nil))) .nil)))) .nil)))))
    .nil))))
    (.cons (.ret (.cmp .eq (.lc false (.nm 11) (.seq (.var 4)) (.cons (.not (.val (.call 24 (.cons (.var 11) .nil)))) .nil) (.var 11) [11]) (.lst false .nil)))
    .nil))
theorem tail_W {x0 x1 x2 x3 x5 x6 x7 x8 x9 x10 x11 : Option D} {xs : List D} {S : Sto} {Q : D → Sto → Prop} (hx : ∀ x ∈ xs, Dat (BB + 1000) 100 16000000 x) (hl : xs.length ≤ 1000) (h : Q (.bl true) S) :
    W (evSs (runF P 121) bTail [x0, x1, x2, x3, some (.lst xs), x5, x6, x7, x8, x9, x10, x11]) S (bodyQ Q) := by
  unfold bTail
  simp only [WSs_cons, WS_forr, WI_seq, W_lst, WL_cons, WL_nil, W_newF, W_seqL, W_tup, W_str, W_int, W_neg, W_bl]
  with_reducible refine W_forF (I := fun j ρ S' => S' = S ∧ ∃ ys y5 y8 y9, ρ = [x0, x1, x2, x3, some (.lst ys), y5, x6, x7, y8, y9, x10, x11] ∧ ys.length ≤ 1000 + 2 * j ∧ ∀ y ∈ ys, Dat (BB + 1000) 100 16000000 y) ?_ ?_ ?_
  · exact ⟨rfl, xs, _, _, _, rfl, by omega, hx⟩
  · intro j d ρ S' hj hI
    obtain ⟨e1, ys, y5, y8, y9, e2, hyl, hy⟩ := hI
    subst e1
    subst e2
    have hj3 : j < 3 := by
      have := (List.getElem?_eq_some_iff.mp hj).1
      simpa using this
    have hd : isLast d := by
      have : ∀ z ∈ ([.tup [.str (Str.ofString "at"), .int 0], .tup [.str (Str.ofString "at"), .int (-1)], .tup [.str (Str.ofString "at"), .bl true]] : List D), (okD (BB + 1000) z && decide (depD z ≤ 1) && decide (wtD z ≤ 300)) = true := by
        intro z hz
        simp only [List.mem_cons, List.not_mem_nil, or_false] at hz
        rcases hz with rfl | rfl | rfl <;> decide +kernel
      have := this d (List.mem_of_getElem? hj)
      simp only [Bool.and_eq_true, decide_eq_true_eq] at this
      exact ⟨this.1.1, this.1.2, this.2⟩
    simp
    rw [W_rng (by omega)]
    with_reducible refine W_forF (I := fun j ρ S1 => S1 = S' ∧ ∃ c y9, ρ = [x0, x1, x2, x3, some (.lst ys), some d, x6, x7, some c, y9, x10, x11] ∧ okD (BB + 1000) c = true ∧ depD c ≤ j + 1 ∧ wtD c ≤ 300 + 1000 * j) ?_ ?_ ?_
    · exact ⟨rfl, d, _, rfl, hd.1, hd.2.1, hd.2.2⟩
    · intro j e ρ S1 hj hI
      obtain ⟨e1, c, y9, e2, c1, c2, c3⟩ := hI
      subst e1
      subst e2
      simp
      have l1 : (Str.ofString "fun").length = 3 := by decide +kernel
      have l2 : (Str.ofString "run").length = 3 := by decide +kernel
      have l3 : (Str.ofString "world").length = 5 := by decide +kernel
      refine ⟨?_, ?_, ?_⟩
      · show (ascS (Str.ofString "fun") && (ascS (Str.ofString "run") && (okD (BB + 1000) (.tup [.str (Str.ofString "world"), .int 0]) && (okD (BB + 1000) c && true)))) = true
        rw [c1]
        decide +kernel
      · show max 0 (max 0 (max 1 (max (depD c) 0))) + 1 ≤ _
        omega
      · show 10 * (Str.ofString "fun").length + 60 + 2 + (10 * (Str.ofString "run").length + 60 + 2 + (10 * (Str.ofString "world").length + 60 + 2 + (60 + 2 + 0) + 60 + 2 + (wtD c + 2 + 0))) + 60 ≤ _
        rw [l1, l2, l3]
        omega
    · intro ρ' S1 hI
      obtain ⟨e1, c, y9, e2, c1, c2, c3⟩ := hI
      subst e1
      subst e2
      rw [range_len] at c2 c3
      simp
      refine mulT ?_
      rw [W_addT _ (by show _ ≤ 16777216; simp), W_addL _ (by show _ ≤ 16777216; simp; omega), W_newF]
      refine ⟨rfl, _, rfl, ?_, ?_⟩
      · simp; omega
      · intro y hy'
        rcases List.mem_append.mp hy' with hy' | hy'
        · exact hy y hy'
        · simp only [List.mem_cons, List.not_mem_nil, or_false] at hy'
          rcases hy' with rfl | rfl
          · exact ⟨c1, Nat.le_trans c2 (by decide), Nat.le_trans c3 (by decide)⟩
          · have l1 : (Str.ofString "call").length ≤ 4 := by decide +kernel
            have l2 : (Str.ofString "a").length ≤ 1 := by decide +kernel
            have a0 : Dt (BB + 1000) 1 300 (.tup [.str (Str.ofString "at"), .int 0]) := ⟨by decide +kernel, by decide +kernel, by decide +kernel⟩
            have rep : ∀ n, DtL (BB + 1000) 1 (302 * n) (List.replicate n (.tup [.str (Str.ofString "at"), .int 0])) := by
              intro n
              induction n with
              | zero => exact .nil
              | succ n ih => exact (DtL.cons a0 ih).up (Nat.le_refl _) (Nat.le_refl _) (by omega)
            have ld : Dt (BB + 1000) 1 300 d := ⟨hd.1, hd.2.1, hd.2.2⟩
            refine ((Dt.tup (.cons ((Dt.str (by decide +kernel) l1)) (.cons (Dt.str (by decide +kernel) l2) (.cons (Dt.tup ((rep 449).app (.cons ld .nil))) .nil)))).dat (by decide) (by decide))
  · intro ρ' S' hI
    obtain ⟨e1, ys, y5, y8, y9, e2, hyl, hy⟩ := hI
    subst e1
    subst e2
    simp
    refine rights_W (n := 121) hy ?_ (by decide) ?_ h
    · have : ([D.tup [D.str (Str.ofString "at"), D.int 0], D.tup [D.str (Str.ofString "at"), D.int (-1)], D.tup [D.str (Str.ofString "at"), D.bl true]] : List D).length = 3 := rfl
      omega
    · intro d R hR
      simpa [wipeE] using hR
end K01

namespace K01
open MP PySem L2
def bMid : Sxs :=
    (.cons (.set 4 (.lst false (.cons .non (.cons (.bl true) (.cons (.int 0) (.cons (.str "") (.cons (.str "at") (.cons (.tup .nil) (.cons (.lst false .nil) (.cons .dic0 (.cons (.tup (.cons (.str "at") .nil)) (.cons (.tup (.cons (.str "at") (.cons (.int 0) (.cons (.int 0) .nil)))) (.cons (.tup (.cons (.str "world") (.cons (.int 9) .nil))) (.cons (.tup (.cons (.str "world") (.cons (.int 10) .nil))) (.cons (.tup (.cons (.str "at") (.cons (.bin .pow false (.int 10) (.int 39)) .nil))) .nil)))))))))))))))
    (.cons (.set 4 (.bin .add false (.var 4) (.lst false (.cons (.tup (.cons (.str "at") (.cons (.bl true) .nil))) (.cons (.tup (.cons (.str "world") (.cons (.bl false) .nil))) (.cons (.tup (.cons (.str "family") (.cons (.str "a") (.cons (.tup .nil) .nil)))) (.cons (.tup (.cons (.str "family") (.cons (.str "a") (.cons (.lst false .nil) .nil)))) (.cons (.tup (.cons (.str "call") (.cons (.str "a") .nil))) .nil))))))))
    (.cons (.set 4 (.bin .add true (.var 4) (.lst false (.cons (.tup (.cons (.str "give") (.cons (.str "run") (.cons (.tup (.cons (.str "at") (.cons (.int 0) .nil))) (.cons (.tup (.cons (.str "at") (.cons (.int 0) .nil))) .nil))))) (.cons (.tup (.cons (.str "give") (.cons (.tup (.cons (.str "at") (.cons (.int 0) .nil))) (.cons (.tup (.cons (.str "at") (.cons (.int 0) .nil))) .nil)))) .nil)))))
    (.cons (.exp (.me .append false (.var 4) (.cons (.tup (.cons (.str "shape") (.cons (.str "a") (.cons (.str "b.1.c") (.cons (.tup .nil) .nil))))) .nil)))
    (.cons (.set 4 (.bin .add false (.var 4) (.lst false (.cons (.tup (.cons (.str "hole") (.cons (.str "a.1.b") .nil))) (.cons (.tup (.cons (.str "open") (.cons (.str "a") (.cons (.tup .nil) (.cons (.tup (.cons (.str "world") (.cons (.int 0) .nil))) .nil))))) (.cons (.tup (.cons (.str "take") .nil)) (.cons (.tup (.cons (.str "to") (.cons (.str "run") (.cons (.tup (.cons (.str "at") (.cons (.int 0) .nil))) .nil)))) .nil)))))))
    (.cons (.set 4 (.bin .add false (.var 4) (.lst false (.cons (.tup (.cons (.tup (.cons (.str "at") (.cons (.int 0) .nil))) .nil)) (.cons (.tup (.cons (.str "open") (.cons (.int 0) .nil))) (.cons (.tup (.cons (.str "due") .nil)) .nil))))))
    bTail))))))
theorem b26_eq : b26 = .cons (.set 1 (.call 8 (.cons (.var 0) .nil))) (.cons (.set 2 (.lc false (.nm 7) (.rng (.cons (.int 8) .nil)) .nil (.call 9 (.cons (.var 1) (.cons (.int 2) .nil))) [7])) (.cons (.forr (.nm 3) (.seq (.var 2)) bLoop) bMid)) := rfl
theorem lits : ∀ x ∈ ([.non, .bl true, .int 0, .str "", .str "at", .tup [], .lst [], .dic [], .tup [.str "at"], .tup [.str "at", .int 0, .int 0], .tup [.str "world", .int 9], .tup [.str "world", .int 10], .tup [.str "at", .int 1000000000000000000000000000000000000000],
    .tup [.str "at", .bl true], .tup [.str "world", .bl false], .tup [.str "family", .str "a", .tup []], .tup [.str "family", .str "a", .lst []], .tup [.str "call", .str "a"],
    .tup [.str "give", .str "run", .tup [.str "at", .int 0], .tup [.str "at", .int 0]], .tup [.str "give", .tup [.str "at", .int 0], .tup [.str "at", .int 0]], .tup [.str "shape", .str "a", .str "b.1.c", .tup []],
    .tup [.str "hole", .str "a.1.b"], .tup [.str "open", .str "a", .tup [], .tup [.str "world", .int 0]], .tup [.str "take"], .tup [.str "to", .str "run", .tup [.str "at", .int 0]], .tup [.tup [.str "at", .int 0]], .tup [.str "open", .int 0], .tup [.str "due"]] : List D), Dat (BB + 1000) 100 16000000 x := by
  have : (([.non, .bl true, .int 0, .str "", .str "at", .tup [], .lst [], .dic [], .tup [.str "at"], .tup [.str "at", .int 0, .int 0], .tup [.str "world", .int 9], .tup [.str "world", .int 10], .tup [.str "at", .int 1000000000000000000000000000000000000000],
    .tup [.str "at", .bl true], .tup [.str "world", .bl false], .tup [.str "family", .str "a", .tup []], .tup [.str "family", .str "a", .lst []], .tup [.str "call", .str "a"],
    .tup [.str "give", .str "run", .tup [.str "at", .int 0], .tup [.str "at", .int 0]], .tup [.str "give", .tup [.str "at", .int 0], .tup [.str "at", .int 0]], .tup [.str "shape", .str "a", .str "b.1.c", .tup []],
    .tup [.str "hole", .str "a.1.b"], .tup [.str "open", .str "a", .tup [], .tup [.str "world", .int 0]], .tup [.str "take"], .tup [.str "to", .str "run", .tup [.str "at", .int 0]], .tup [.tup [.str "at", .int 0]], .tup [.str "open", .int 0], .tup [.str "due"]] : List D).all datB) = true := by decide +kernel
  exact fun x hx => datB_ok (List.all_eq_true.mp this x hx)
theorem mid_W {x0 x1 x2 x3 x4 x5 x6 x7 x8 x9 x10 x11 : Option D} {S : Sto} {T : List O} {Q : D → Sto → Prop} (hd : Dk S T) (h : ∀ S', Q (.bl true) S') :
    W (evSs (runF P 121) bMid [x0, x1, x2, x3, x4, x5, x6, x7, x8, x9, x10, x11]) S (bodyQ Q) := by
  unfold bMid
  have p39 : ∀ S, powD (.int 10) (.int 39) S = .ok (.int (10 ^ 39)) S := fun S => rfl
  simp [W_of (p39 _)]
  rw [W_addL _ (by show _ ≤ 16777216; simp), W_newF]
  with_reducible refine newT_W hd ?_ ?_
  · simp
  intro S3 d3
  with_reducible refine app_W d3 ?_ ?_
  · simp
  intro S4 d4
  with_reducible refine addR_W d4 ?_ ?_
  · simp
  rw [W_addL _ (by show _ ≤ 16777216; simp), W_newF]
  with_reducible refine tail_W ?_ ?_ (h _)
  rotate_left
  · simp
  intro x hx
  exact lits x hx
theorem law_run (ns : List Int) (h : ns.length ≤ 63) : ∃ S', runF P 122 26 [.frz (ns.map D.int)] [] = .ok (.bl true) S' := by
  suffices hW : W (runF P 122 26 [.frz (ns.map D.int)]) [] (fun d _ => d = .bl true) by
    rw [W_iff] at hW
    obtain ⟨a, S', e, rfl⟩ := hW
    exact ⟨S', e⟩
  show W (bodyD 12 (evSs (runF P 121) b26) [.frz (ns.map D.int)]) [] _
  rw [W_body, b26_eq]
  simp [startD]
  refine deck_W h fun S1 d1 => ?_
  rw [W_rng (by omega)]
  refine W_lcS (I := fun i acc S' => Dk S' [] ∧ ∃ is : List Int, acc = is.map D.int) ?_ ⟨d1, [], rfl⟩ ?_ ?_
  · rw [range_len]; show 8 ≤ 16777216; decide
  · rintro i d acc S' hi ⟨d2, is, rfl⟩ _
    simp [wipeE]
    refine draw_W d2 (by decide) (by decide) fun i1 S3 a1 b1 d3 => ?_
    exact ⟨d3, is ++ [i1], by simp⟩
  · rintro ys S2 ⟨d2, is, rfl⟩ _
    rw [W_newF]
    simp
    with_reducible refine W_forF (I := fun j ρ S' => ∃ T', Dk S' T' ∧ ∃ y3 y6 y7 y10, ρ = [some (.frz (ns.map D.int)), some (.ref 1), some (.lst (is.map D.int)), y3, none, none, y6, y7, none, none, y10, none]) ?_ ?_ ?_
    · exact ⟨[], d2, _, _, _, _, rfl⟩
    · intro j d ρ S' hj hI
      obtain ⟨T', d3, y3, y6, y7, y10, e⟩ := hI
      subst e
      obtain ⟨v, hv, rfl⟩ := List.mem_map.mp (List.mem_of_getElem? hj)
      rw [W_nm]
      refine loop_W (t := .non) d3 ?_
      intro S4 T4 z6 z7 z10 d4
      exact ⟨T4, d4, _, _, _, _, rfl⟩
    · intro ρ' S' hI
      obtain ⟨T', d3, y3, y6, y7, y10, e⟩ := hI
      subst e
      rw [W_thenN]
      exact mid_W d3 fun _ => rfl
end K01

namespace K01
open MP PySem L2 PyProof.Rows
def loose : List PySem.Str := (["LETTERS", "FIGURES", "MOST_NAME", "MOST_FIGURES", "RUN", "GONE", "MARKS", "AT", "WORLD", "TO", "FUN", "GIVE", "FAMILY", "CALL", "SHAPE", "HOLE", "MOST_WORLD", "is_whole", "is_name", "are_figures", "is_far", "is_called", "is_mark", "are_terms", "is_term", "_law_deck", "_law_draw", "_law_pick", "_law_name", "_law_far"] : List PySem.Str) ++ (["_law_called", "_law_leaf", "_law_term", "_law_odd", "_law_bent", "_law_is_whole", "_law_is_name", "_law_is_far", "_law_is_mark", "_law_are_terms", "_law_is_term", "_law_right", "_law_names_right"] : List PySem.Str)
abbrev R : PySem.W.OpenRow := PySem.W.OpenLaw.row PySem.Challenge.rw_kindsbyworth_k01_terms_of_anything
theorem run (w : World) : HandSHeadRun.RunEq R (PySem.W.view R.prog [45]) (hookM 2 P gls true) (obM 2 P gls true) 5000 loose w := by
  intro os
  kernel_rfl
end K01

open PySem PySem.W PySem.Calls PyProof.Rows
theorem PySem.Challenge.cw_kindsbyworth_k01_terms_of_anything_holds : PySem.Challenge.rw_kindsbyworth_k01_terms_of_anything.Holds := by
  w_on; o_law
  refine HandSHeadRun.head_any (r := K01.R) (q := view K01.R.prog [45]) (H := MP.hookM 2 K01.P K01.gls true) (ob := MP.obM 2 K01.P K01.gls true) (M := 5000) (loose := K01.loose) (d := HandSHeadRun.topDef K01.R.prog 45) (kwd := []) (MP.obM_eq 2 K01.P K01.gls true)
    (by kernel_rfl) (fun s => by kernel_rfl) K01.run (by kernel_rfl) (by kernel_rfl) (by kernel_rfl) (by rfl) (by first | assumption | decide +kernel) (by decide +kernel) ⟨rfl, rfl, rfl, rfl, rfl, by decide +kernel⟩ ?hw ?hc
  case hw => w_witness2
  case hc =>
    exact MP.law_end (l := PySem.Challenge.rw_kindsbyworth_k01_terms_of_anything) (P := K01.P) (N0 := 120) (kd := 8) (kl := 26) (x := "_law_script") K01.binds rfl rfl rfl rfl rfl rfl (by kernel_rfl) rfl (by decide) (by kernel_rfl) ⟨rfl, by decide, by decide⟩ K01.law_run

