import PyProof.Rows.All
import Wide.All
import OpenK.AllK
import Wide.FinOn
import HandS.ForMost
import HandS.Exc
import HandS.EndBits
import HandS.Deep
import HandS.Zip
import HandS.Walk
import HandS.TupAny
import HandS.TupLe
import HandS.Conv
import HandS.IsInst
import HandS.Wide
import KE.SortData
import PyProof.ReprReads
import HandS.Star
import KE.DatumOrd
import KE.GoesEnum
import PyProof.ReprRoads
import HandS.RaiseMore
import HandS.Style
import KE.Datum
import PyProof.P3Eq
import PySem.Challenge.RW_longernearer_k54_whole_all_long_sizes
set_option Elab.async false
set_option linter.all false
set_option maxRecDepth 100000
set_option maxHeartbeats 4000000
/-! Z: a small functional semantics over the hand layer. -/
namespace Z
open PySem PySem.Spec PyProof.Rows L2

/-! ### values, objects, outcomes -/
abbrev P := PyData
inductive D where
  | p (x : P)
  | ref (i : Nat)
inductive Ob where
  | lst (xs : List D)
  | frz (xs : List P)
  | dic (kvs : List (Key × D))
  | dit (kvs : List (List Key × D))
abbrev Store := List Ob
abbrev Sl := List (Option D)
structure Ex where
  cls : Str
  arg : Option (Str × P)
inductive Out (α : Type) where
  | stuck
  | ok (a : α) (M : Store)
  | exc (e : Ex) (M : Store)
def Out.bind {α β : Type} : Out α → (α → Store → Out β) → Out β
  | .ok a M, k => k a M
  | .stuck, _ => .stuck
  | .exc e M, _ => .exc e M
@[simp] theorem Out.bind_ok {α β : Type} (a : α) (M : Store) (k : α → Store → Out β) : (Out.ok a M).bind k = k a M := id rfl
@[simp] theorem Out.bind_stuck {α β : Type} (k : α → Store → Out β) : (Out.stuck : Out α).bind k = .stuck := id rfl
@[simp] theorem Out.bind_exc {α β : Type} (e : Ex) (M : Store) (k : α → Store → Out β) : (Out.exc e M : Out α).bind k = .exc e M := id rfl

def D.low (i : Nat) : D → Bool
  | .p _ => true
  | .ref j => decide (j < i)
def Ob.low (i : Nat) : Ob → Bool
  | .lst xs => xs.all (D.low i)
  | .frz _ => true
  | .dic kvs => kvs.all fun kv => kv.2.low i
  | .dit kvs => kvs.all fun kv => kv.2.low i
theorem D.low_mono {i j : Nat} (h : i ≤ j) : ∀ {d : D}, d.low i = true → d.low j = true
  | .p _, _ => rfl
  | .ref k, e => by
    have : k < i := of_decide_eq_true e
    exact decide_eq_true (by omega)
/-- all items are pure -/
def pures : List D → Option (List P)
  | [] => some []
  | .p x :: r => (pures r).map (x :: ·)
  | .ref _ :: _ => none
@[simp] theorem pures_nil : pures [] = some [] := id rfl
@[simp] theorem pures_map : ∀ xs : List P, pures (xs.map .p) = some xs
  | [] => rfl
  | x :: r => by rw [List.map_cons, pures, pures_map r]; rfl
theorem pures_eq : ∀ {ds : List D} {xs : List P}, pures ds = some xs → ds = xs.map .p
  | [], xs, h => by cases h; rfl
  | .p x :: r, xs, h => by
    unfold pures at h
    cases q : pures r with
    | none => rw [q] at h; cases h
    | some ys => rw [q] at h; cases h; rw [pures_eq q]; rfl
  | .ref _ :: _, _, h => by cases h

/-! ### how they stand in the abstract heap -/
def Fro : HO → Prop
  | .tup _ => True
  | .frz _ _ => True
  | _ => False
section
variable (K : PySem.W.Frag)
def FzL (H : Hp) (a : Addr) (xs : List V) : Prop :=
  (∃ o, H a = some (.frz o (.lst xs))) ∨
    ∃ (its : List Value) (n : Nat), K.lookup a = some { cls := .type "list", data := .seq its.toArray n } ∧ its.length ≤ sizeLine ∧ Vals xs its
/-- a list, frozen or not -/
def SqX (H : Hp) (a : Addr) (xs : List V) : Prop := H a = some (.lst xs) ∨ FzL K H a xs
mutual
inductive Fz (H : Hp) : V → P → Prop
  | non : Fz H .non .none
  | bl (b : Bool) : Fz H (.bl b) (.bool b)
  | int (i : Int) : Fz H (.int i) (.int i)
  | str (x : Str) : Fz H (.str x) (.str x)
  | lst {a : Addr} {xs : List V} {ds : List P} : FzL K H a xs → FzAll H xs ds → Fz H (.ref a) (.list ds)
  | tup {a : Addr} {xs : List V} {ds : List P} : SqT K H a xs → FzAll H xs ds → Fz H (.ref a) (.tuple ds)
inductive FzAll (H : Hp) : List V → List P → Prop
  | nil : FzAll H [] []
  | cons {v : V} {vs : List V} {d : P} {ds : List P} : Fz H v d → FzAll H vs ds → FzAll H (v :: vs) (d :: ds)
end
def Dr (θ : List Addr) (H : Hp) (v : V) : D → Prop
  | .p x => Fz K H v x
  | .ref i => ∃ a, θ[i]? = some a ∧ v = .ref a
def Drs (θ : List Addr) (H : Hp) : List V → List D → Prop := Paired (Dr K θ H)
def ObOk (θ : List Addr) (H : Hp) (a : Addr) : Ob → Prop
  | .lst ds => ∃ vs, H a = some (.lst vs) ∧ Drs K θ H vs ds
  | .frz xs => ∃ vs o, H a = some (.frz o (.lst vs)) ∧ FzAll K H vs xs
  | .dic kvs => ∃ us, H a = some (.dK us) ∧ Paired (fun (p : Key × V) (q : Key × D) => p.1 = q.1 ∧ Dr K θ H p.2 q.2) us kvs
  | .dit kvs => ∃ us, H a = some (.dT us) ∧ Paired (fun (p : List Key × V) (q : List Key × D) => p.1 = q.1 ∧ Dr K θ H p.2 q.2) us kvs
structure SR (θ : List Addr) (H : Hp) (M : Store) : Prop where
  len : θ.length = M.length
  nd : θ.Nodup
  ob : ∀ (i : Nat) o a, M[i]? = some o → θ[i]? = some a → ObOk K θ H a o
  low : ∀ (i : Nat) o, M[i]? = some o → o.low i = true
structure SV (θ : List Addr) (H : Hp) (σ : L2.St) (sl : Sl) : Prop where
  len : sl.length = σ.length
  at_ : ∀ (i : Nat) d, sl[i]? = some (some d) → ∃ v, σ[i]? = some (some v) ∧ Dr K θ H v d
end
structure Go (θ θ' : List Addr) (H H' : Hp) : Prop where
  pre : θ <+: θ'
  fr : ∀ a u, H a = some u → (a ∉ θ ∨ Fro u) → H' a = some u
  fresh : ∀ a, a ∈ θ' → a ∉ θ → H a = none

theorem Go.refl {θ : List Addr} {H : Hp} : Go θ θ H H := ⟨List.prefix_refl _, fun _ _ h _ => h, fun _ h n => absurd h n⟩
theorem Go.trans {θ θ1 θ2 : List Addr} {H H1 H2 : Hp} (a : Go θ θ1 H H1) (b : Go θ1 θ2 H1 H2) : Go θ θ2 H H2 := by
  refine ⟨a.pre.trans b.pre, fun x u h c => ?_, fun x h n => ?_⟩
  · refine b.fr x u (a.fr x u h c) ?_
    rcases c with c | c
    · by_cases m : x ∈ θ1
      · rw [a.fresh x m c] at h; cases h
      · exact .inl m
    · exact .inr c
  · by_cases m : x ∈ θ1
    · exact a.fresh x m n
    · have e := b.fresh x h m
      cases q : H x with
      | none => rfl
      | some u => rw [a.fr x u q (.inl n)] at e; cases e
/-- frozen things stay -/
def Keep (H H' : Hp) : Prop := ∀ a u, H a = some u → Fro u → H' a = some u
theorem Go.keep {θ θ' : List Addr} {H H' : Hp} (g : Go θ θ' H H') : Keep H H' := fun a u h f => g.fr a u h (.inr f)
theorem Go.at {θ θ' : List Addr} {H H' : Hp} (g : Go θ θ' H H') {i : Nat} {a : Addr} (h : θ[i]? = some a) : θ'[i]? = some a := by
  obtain ⟨t, rfl⟩ := g.pre
  rw [List.getElem?_append_left]
  · exact h
  · exact (List.getElem?_eq_some_iff.mp h).1
section
variable {K : PySem.W.Frag} {θ θ' : List Addr} {H H' : Hp}
theorem FzL.keep {a : Addr} {xs : List V} (k : Keep H H') (h : FzL K H a xs) : FzL K H' a xs := by
  rcases h with ⟨o, h⟩ | h
  · exact .inl ⟨o, k _ _ h trivial⟩
  · exact .inr h
theorem SqT.keep {a : Addr} {xs : List V} (k : Keep H H') (h : SqT K H a xs) : SqT K H' a xs := by
  rcases h with (h | ⟨o, h⟩) | h
  · exact .inl (.inl (k _ _ h trivial))
  · exact .inl (.inr ⟨o, k _ _ h trivial⟩)
  · exact .inr h
mutual
theorem Fz.keep (k : Keep H H') : ∀ {v : V} {d : P}, Fz K H v d → Fz K H' v d
  | _, _, .non => .non
  | _, _, .bl b => .bl b
  | _, _, .int i => .int i
  | _, _, .str x => .str x
  | _, _, .lst h a => .lst (h.keep k) (a.keep k)
  | _, _, .tup h a => .tup (SqT.keep k h) (a.keep k)
theorem FzAll.keep (k : Keep H H') : ∀ {vs : List V} {ds : List P}, FzAll K H vs ds → FzAll K H' vs ds
  | _, _, .nil => .nil
  | _, _, .cons a b => .cons (a.keep k) (b.keep k)
end
theorem FzL.sq {a : Addr} {xs : List V} (h : FzL K H a xs) : SqL K H a xs := by
  rcases h with ⟨o, h⟩ | ⟨its, n, h, l, r⟩
  · exact .inl (.inr ⟨o, h⟩)
  · exact .inr ⟨_, _, n, h, rfl, rfl, rfl, by simpa using l, by simpa using r⟩
theorem SqX.sq {a : Addr} {xs : List V} (h : SqX K H a xs) : SqL K H a xs := h.elim SqL.of fun h => h.sq
theorem SqX.at {X : Cx} {pins : List (Addr × Obj)} {σ : L2.St} {H : Hp} {s : Shared} (I : Inv X pins σ H s) {a : Addr} {xs : List V} (h : SqX X.K H a xs) :
    xs.length ≤ sizeLine ∧ ∃ (its : List Value) (n : Nat), Vals xs its ∧ xs.length = its.length ∧ s.heap.get? a = some { cls := .type "list", data := .seq its.toArray n } := by
  rcases h with h | ⟨o, h⟩ | ⟨its, n, h, l, r⟩
  · exact I.lstM h
  · obtain ⟨_, z, its, n, r, e⟩ := I.hok a _ h
    exact ⟨z, its, n, r, r.length, e⟩
  · exact ⟨by rw [r.length]; exact l, its, n, r, r.length, I.kIn a _ h⟩
mutual
theorem Fz.dp : ∀ {v : V} {d : P}, Fz K H v d → Dp K H v d
  | _, _, .non => .non
  | _, _, .bl b => .bl b
  | _, _, .int i => .int i
  | _, _, .str x => .str x
  | _, _, .lst h a => .lst h.sq a.dp
  | _, _, .tup h a => .tup h a.dp
theorem FzAll.dp : ∀ {vs : List V} {ds : List P}, FzAll K H vs ds → DpAll K H vs ds
  | _, _, .nil => .nil
  | _, _, .cons a b => .cons a.dp b.dp
end
theorem FzAll.paired : ∀ {vs : List V} {ds : List P}, FzAll K H vs ds → Paired (Fz K H) vs ds
  | _, _, .nil => .nil
  | _, _, .cons a b => .cons a b.paired
theorem FzAll.of : ∀ {vs : List V} {ds : List P}, Paired (Fz K H) vs ds → FzAll K H vs ds
  | _, _, .nil => .nil
  | _, _, .cons a b => .cons a (FzAll.of b)
theorem FzAll.length {vs : List V} {ds : List P} (h : FzAll K H vs ds) : vs.length = ds.length := Paired.length h.paired
theorem FzAll.drs : ∀ {vs : List V} {ds : List P}, FzAll K H vs ds → Drs K θ H vs (ds.map .p)
  | _, _, .nil => .nil
  | _, _, .cons a b => .cons a b.drs
theorem FzAll.ofDrs : ∀ {vs : List V} {ds : List P}, Drs K θ H vs (ds.map .p) → FzAll K H vs ds
  | _, [], h => by cases h; exact .nil
  | _, d :: ds, h => by cases h with | cons a b => exact .cons a (FzAll.ofDrs b)
theorem paired_at {α β : Type} {R : α → β → Prop} : ∀ {l : List α} {m : List β}, Paired R l m → ∀ {i : Nat} {b : β}, m[i]? = some b → ∃ a, l[i]? = some a ∧ R a b
  | _, _, .nil, i, b, e => by simp at e
  | _, _, .cons r t, 0, b, e => by simp at e; subst e; exact ⟨_, rfl, r⟩
  | _, _, .cons r t, i + 1, b, e => by
    obtain ⟨a, h1, h2⟩ := paired_at t (i := i) (b := b) (by simpa using e)
    exact ⟨a, by simpa using h1, h2⟩
theorem paired_at' {α β : Type} {R : α → β → Prop} : ∀ {l : List α} {m : List β}, Paired R l m → ∀ {i : Nat} {a : α}, l[i]? = some a → ∃ b, m[i]? = some b ∧ R a b
  | _, _, .nil, i, b, e => by simp at e
  | _, _, .cons r t, 0, b, e => by simp at e; subst e; exact ⟨_, rfl, r⟩
  | _, _, .cons r t, i + 1, b, e => by
    obtain ⟨a, h1, h2⟩ := paired_at' t (i := i) (a := b) (by simpa using e)
    exact ⟨a, by simpa using h1, h2⟩
theorem paired_append {α β : Type} {R : α → β → Prop} : ∀ {l l' : List α} {m m' : List β}, Paired R l m → Paired R l' m' → Paired R (l ++ l') (m ++ m')
  | _, _, _, _, .nil, h => h
  | _, _, _, _, .cons a b, h => .cons a (paired_append b h)
theorem paired_imp {α β : Type} {R R' : α → β → Prop} (f : ∀ a b, R a b → R' a b) : ∀ {l : List α} {m : List β}, Paired R l m → Paired R' l m
  | _, _, .nil => .nil
  | _, _, .cons a b => .cons (f _ _ a) (paired_imp f b)
theorem paired_take {α β : Type} {R : α → β → Prop} : ∀ (n : Nat) {l : List α} {m : List β}, Paired R l m → Paired R (l.take n) (m.take n)
  | 0, _, _, _ => .nil
  | _ + 1, _, _, .nil => .nil
  | n + 1, _, _, .cons a b => .cons a (paired_take n b)
theorem paired_drop {α β : Type} {R : α → β → Prop} : ∀ (n : Nat) {l : List α} {m : List β}, Paired R l m → Paired R (l.drop n) (m.drop n)
  | 0, _, _, h => h
  | _ + 1, _, _, .nil => .nil
  | n + 1, _, _, .cons a b => paired_drop n b
theorem paired_set {α β : Type} {R : α → β → Prop} {x : α} {y : β} (r : R x y) : ∀ (n : Nat) {l : List α} {m : List β}, Paired R l m → Paired R (l.set n x) (m.set n y)
  | _, _, _, .nil => .nil
  | 0, _, _, .cons a b => .cons r b
  | n + 1, _, _, .cons a b => .cons a (paired_set r n b)
theorem paired_erase {α β : Type} {R : α → β → Prop} : ∀ (n : Nat) {l : List α} {m : List β}, Paired R l m → Paired R (l.eraseIdx n) (m.eraseIdx n)
  | _, _, _, .nil => .nil
  | 0, _, _, .cons a b => b
  | n + 1, _, _, .cons a b => .cons a (paired_erase n b)
theorem paired_reverse {α β : Type} {R : α → β → Prop} : ∀ {l : List α} {m : List β}, Paired R l m → Paired R l.reverse m.reverse
  | _, _, .nil => .nil
  | _, _, .cons a b => by
    rw [List.reverse_cons, List.reverse_cons]
    exact paired_append (paired_reverse b) (.cons a .nil)
theorem Dr.go {v : V} {d : D} (g : Go θ θ' H H') (h : Dr K θ H v d) : Dr K θ' H' v d := by
  cases d with
  | p x => exact Fz.keep g.keep h
  | ref i =>
    obtain ⟨a, e, q⟩ := h
    exact ⟨a, g.at e, q⟩
theorem Drs.go {vs : List V} {ds : List D} (g : Go θ θ' H H') (h : Drs K θ H vs ds) : Drs K θ' H' vs ds := paired_imp (fun _ _ r => Dr.go g r) h
theorem SV.go {σ : L2.St} {sl : Sl} (g : Go θ θ' H H') (h : SV K θ H σ sl) : SV K θ' H' σ sl :=
  ⟨h.len, fun i d e => let ⟨v, e', r⟩ := h.at_ i d e; ⟨v, e', r.go g⟩⟩
/-- what the store's addresses hold is tracked -/
theorem SR.there {M : Store} (h : SR K θ H M) {i : Nat} {a : Addr} (hi : θ[i]? = some a) : ∃ o u, M[i]? = some o ∧ ObOk K θ H a o ∧ H a = some u := by
  have hl := (List.getElem?_eq_some_iff.mp hi).1
  rw [h.len] at hl
  have k := h.ob i _ a (List.getElem?_eq_getElem hl) hi
  refine ⟨M[i], ?_⟩
  cases q : M[i] with
  | lst ds => rw [q] at k; obtain ⟨_, e, r⟩ := k; exact ⟨_, by rw [List.getElem?_eq_getElem hl, q], ⟨_, e, r⟩, e⟩
  | frz ds => rw [q] at k; obtain ⟨_, _, e, r⟩ := k; exact ⟨_, by rw [List.getElem?_eq_getElem hl, q], ⟨_, _, e, r⟩, e⟩
  | dic ds => rw [q] at k; obtain ⟨_, e, r⟩ := k; exact ⟨_, by rw [List.getElem?_eq_getElem hl, q], ⟨_, e, r⟩, e⟩
  | dit ds => rw [q] at k; obtain ⟨_, e, r⟩ := k; exact ⟨_, by rw [List.getElem?_eq_getElem hl, q], ⟨_, e, r⟩, e⟩
theorem SR.apart {M : Store} (h : SR K θ H M) {p : Addr} (hp : H p = none) : ∀ a ∈ θ, a ≠ p := by
  intro a ha e
  obtain ⟨i, hi⟩ := List.getElem?_of_mem ha
  obtain ⟨_, u, _, _, q⟩ := h.there hi
  rw [e, hp] at q
  cases q
theorem ObOk.carry {θ1 : List Addr} {H1 : Hp} {a : Addr} {o : Ob} (g : ∀ {v : V} {d : D}, Dr K θ H v d → Dr K θ1 H1 v d) (k : Keep H H1) (e : H1 a = H a) (h : ObOk K θ H a o) : ObOk K θ1 H1 a o := by
  cases o with
  | lst ds => obtain ⟨vs, q, r⟩ := h; exact ⟨vs, e.trans q, paired_imp (fun _ _ z => g z) r⟩
  | frz xs => obtain ⟨vs, o, q, r⟩ := h; exact ⟨vs, o, e.trans q, r.keep k⟩
  | dic kvs => obtain ⟨us, q, r⟩ := h; exact ⟨us, e.trans q, paired_imp (fun _ _ z => ⟨z.1, g z.2⟩) r⟩
  | dit kvs => obtain ⟨us, q, r⟩ := h; exact ⟨us, e.trans q, paired_imp (fun _ _ z => ⟨z.1, g z.2⟩) r⟩
/-- a fresh address that no object of the store is at -/
theorem Go.out {M : Store} (h : SR K θ H M) {p : Addr} {u : HO} (hp : H p = none) : Go θ θ H (L2.upd H p u) :=
  ⟨List.prefix_refl _, fun a w e _ => by rw [upd_ne (ne_of_none e hp)]; exact e, fun a m n => absurd m n⟩
theorem SR.out {M : Store} (h : SR K θ H M) {p : Addr} {u : HO} (hp : H p = none) : SR K θ (upd H p u) M :=
  ⟨h.len, h.nd, fun i o a e1 e2 => (h.ob i o a e1 e2).carry (fun z => z.go (Go.out h hp)) (Go.out (u := u) h hp).keep (upd_ne (h.apart hp a (List.mem_of_getElem? e2))), h.low⟩
/-- a new object of the store -/
theorem Go.new {M : Store} (h : SR K θ H M) {p : Addr} {u : HO} (hp : H p = none) : Go θ (θ ++ [p]) H (upd H p u) :=
  ⟨List.prefix_append _ _, fun a w e _ => by rw [upd_ne (ne_of_none e hp)]; exact e, fun a m n => by
    rcases List.mem_append.mp m with m | m
    · exact absurd m n
    · rw [List.mem_singleton.mp m]; exact hp⟩
theorem SR.new {M : Store} {p : Addr} {u : HO} {o : Ob} (h : SR K θ H M) (hp : H p = none) (ok : ObOk K (θ ++ [p]) (upd H p u) p o) (lo : o.low M.length = true) : SR K (θ ++ [p]) (upd H p u) (M ++ [o]) := by
  have g : Go θ (θ ++ [p]) H (upd H p u) := Go.new h hp
  refine ⟨?_, ?_, fun i q a e1 e2 => ?_, fun i q e => ?_⟩
  · rw [List.length_append, List.length_append, h.len]; rfl
  · rw [List.nodup_append]
    refine ⟨h.nd, by simp, fun a ha b hb => ?_⟩
    rw [List.mem_singleton.mp hb]
    exact h.apart hp a ha
  · by_cases hi : i < M.length
    · rw [List.getElem?_append_left hi] at e1
      rw [List.getElem?_append_left (by rw [h.len]; exact hi)] at e2
      exact (h.ob i q a e1 e2).carry (fun z => z.go g) g.keep (upd_ne (h.apart hp a (List.mem_of_getElem? e2)))
    · have hi' : i = M.length := by
        have := (List.getElem?_eq_some_iff.mp e1).1
        rw [List.length_append] at this
        simp at this
        omega
      subst hi'
      rw [List.getElem?_append_right (Nat.le_refl _), Nat.sub_self] at e1
      rw [List.getElem?_append_right (by rw [h.len]; exact Nat.le_refl _), h.len, Nat.sub_self] at e2
      cases e1; cases e2
      exact ok
  · by_cases hi : i < M.length
    · rw [List.getElem?_append_left hi] at e
      exact h.low i q e
    · have hi' : i = M.length := by
        have := (List.getElem?_eq_some_iff.mp e).1
        rw [List.length_append] at this
        simp at this
        omega
      subst hi'
      rw [List.getElem?_append_right (Nat.le_refl _), Nat.sub_self] at e
      cases e
      exact lo
theorem SR.newD {M : Store} {p : Addr} (h : SR K θ H M) : Dr K (θ ++ [p]) H (.ref p) (.ref M.length) :=
  ⟨p, by rw [List.getElem?_append_right (by rw [h.len]; exact Nat.le_refl _), h.len, Nat.sub_self]; rfl, rfl⟩
theorem Drs.low {M : Store} (h : SR K θ H M) : ∀ {vs : List V} {ds : List D}, Drs K θ H vs ds → ds.all (D.low M.length) = true
  | _, _, .nil => rfl
  | _, d :: _, .cons a b => by
    rw [List.all_cons, Drs.low h b, Bool.and_true]
    cases d with
    | p x => rfl
    | ref i =>
      obtain ⟨q, e, _⟩ := a
      have := (List.getElem?_eq_some_iff.mp e).1
      exact decide_eq_true (by rw [← h.len]; exact this)
/-- an object of the store is changed -/
theorem SR.set {M : Store} {i : Nat} {a : Addr} {u0 u : HO} {o : Ob} (h : SR K θ H M) (hi : θ[i]? = some a) (h0 : H a = some u0) (nf : ¬ Fro u0) (ok : ObOk K θ (upd H a u) a o) (lo : o.low i = true) :
    SR K θ (upd H a u) (M.set i o) ∧ Go θ θ H (upd H a u) := by
  have g : Go θ θ H (L2.upd H a u) := ⟨List.prefix_refl _, fun b w e c => by
    have ne : b ≠ a := by
      rintro rfl
      rw [h0] at e; cases e
      rcases c with c | c
      · exact c (List.mem_of_getElem? hi)
      · exact nf c
    rw [upd_ne ne]; exact e, fun b m n => absurd m n⟩
  refine ⟨⟨by rw [List.length_set]; exact h.len, h.nd, fun j q b e1 e2 => ?_, fun j q e => ?_⟩, g⟩
  · by_cases hj : i = j
    · subst hj
      rw [hi] at e2; cases e2
      have hl : i < M.length := by rw [← h.len]; exact (List.getElem?_eq_some_iff.mp hi).1
      rw [List.getElem?_set_self hl] at e1
      cases e1
      exact ok
    · rw [List.getElem?_set_ne hj] at e1
      refine (h.ob j q b e1 e2).carry (fun z => z.go g) g.keep (upd_ne ?_)
      rintro rfl
      obtain ⟨l1, r1⟩ := List.getElem?_eq_some_iff.mp hi
      obtain ⟨l2, r2⟩ := List.getElem?_eq_some_iff.mp e2
      exact hj ((List.getElem_inj h.nd).mp (r1.trans r2.symm))
  · by_cases hj : i = j
    · subst hj
      have hl : i < M.length := by rw [← h.len]; exact (List.getElem?_eq_some_iff.mp hi).1
      rw [List.getElem?_set_self hl] at e
      cases e
      exact lo
    · rw [List.getElem?_set_ne hj] at e
      exact h.low j q e
/-- the younger objects forgotten -/
theorem Dr.cut {n : Nat} {v : V} {d : D} (h : Dr K θ H v d) (lo : d.low n = true) : Dr K (θ.take n) H v d := by
  cases d with
  | p x => exact h
  | ref i =>
    obtain ⟨a, e, q⟩ := h
    have : i < n := of_decide_eq_true lo
    exact ⟨a, by rw [List.getElem?_take, if_pos this]; exact e, q⟩
theorem Drs.cut {n : Nat} : ∀ {vs : List V} {ds : List D}, Drs K θ H vs ds → ds.all (D.low n) = true → Drs K (θ.take n) H vs ds
  | _, _, .nil, _ => .nil
  | _, _, .cons a b, l => by
    rw [List.all_cons, Bool.and_eq_true] at l
    exact .cons (a.cut l.1) (Drs.cut b l.2)
theorem pairs_cut {κ : Type} {n : Nat} : ∀ {us : List (κ × V)} {kvs : List (κ × D)}, Paired (fun (p : κ × V) (q : κ × D) => p.1 = q.1 ∧ Dr K θ H p.2 q.2) us kvs → (kvs.all fun kv => kv.2.low n) = true → Paired (fun (p : κ × V) (q : κ × D) => p.1 = q.1 ∧ Dr K (θ.take n) H p.2 q.2) us kvs
  | _, _, .nil, _ => .nil
  | _, _, .cons a b, l => by
    rw [List.all_cons, Bool.and_eq_true] at l
    exact .cons ⟨a.1, a.2.cut l.1⟩ (pairs_cut b l.2)
theorem ObOk.cut {n : Nat} {a : Addr} {o : Ob} (h : ObOk K θ H a o) (lo : o.low n = true) : ObOk K (θ.take n) H a o := by
  cases o with
  | lst ds => obtain ⟨vs, q, r⟩ := h; exact ⟨vs, q, Drs.cut r lo⟩
  | frz xs => exact h
  | dic kvs => obtain ⟨us, q, r⟩ := h; exact ⟨us, q, pairs_cut r lo⟩
  | dit kvs => obtain ⟨us, q, r⟩ := h; exact ⟨us, q, pairs_cut r lo⟩
theorem Ob.low_mono {i j : Nat} (h : i ≤ j) {o : Ob} (e : o.low i = true) : o.low j = true := by
  cases o with
  | lst ds => exact List.all_eq_true.mpr fun x m => D.low_mono h (List.all_eq_true.mp e x m)
  | frz xs => rfl
  | dic kvs => exact List.all_eq_true.mpr fun x m => D.low_mono h (List.all_eq_true.mp e x m)
  | dit kvs => exact List.all_eq_true.mpr fun x m => D.low_mono h (List.all_eq_true.mp e x m)
theorem SR.cut {M : Store} (h : SR K θ H M) (n : Nat) : SR K (θ.take n) H (M.take n) := by
  refine ⟨by rw [List.length_take, List.length_take, h.len], h.nd.sublist (List.take_sublist _ _), fun i o a e1 e2 => ?_, fun i o e => ?_⟩
  · rw [List.getElem?_take] at e1 e2
    by_cases hi : i < n
    · rw [if_pos hi] at e1 e2
      exact (h.ob i o a e1 e2).cut (Ob.low_mono (Nat.le_of_lt hi) (h.low i o e1))
    · rw [if_neg hi] at e1; cases e1
  · rw [List.getElem?_take] at e
    by_cases hi : i < n
    · rw [if_pos hi] at e; exact h.low i o e
    · rw [if_neg hi] at e; cases e
end
/-! ### outcomes against the heap -/
def ExOk (K : PySem.W.Frag) (mg : Str → Option Value) (H : Hp) (x : Ex) (cls : Value) (dd : Option Addr) : Prop :=
  mg x.cls = some cls ∧ match x.arg with
    | none => True
    | some (f, y) => ∃ d v, dd = some d ∧ H d = some (.xd [(f, v)]) ∧ Fz K H v y
section
variable (K : PySem.W.Frag) (mg : Str → Option Value) (E : XK)
def Post {α β : Type} (R : List Addr → Hp → β → α → Prop) (Q : β → Hp → Prop) (θ : List Addr) (H : Hp) : Out α → Prop
  | .stuck => False
  | .ok a M' => ∀ b H' θ', Go θ θ' H H' → SR K θ' H' M' → R θ' H' b a → Q b H'
  | .exc x M' => ∀ cls dd H' θ', Go θ θ' H H' → SR K θ' H' M' → ExOk K mg H' x cls dd → E cls dd H'
end
section
variable {K : PySem.W.Frag} {mg : Str → Option Value} {E : XK} {α β γ δ : Type} {R : List Addr → Hp → β → α → Prop} {Q : β → Hp → Prop} {R' : List Addr → Hp → δ → γ → Prop} {Q' : δ → Hp → Prop}
theorem Post.go {θ θ1 : List Addr} {H H1 : Hp} {o : Out α} (g : Go θ θ1 H H1) (h : Post K mg E R Q θ H o) : Post K mg E R Q θ1 H1 o := by
  cases o with
  | stuck => exact h
  | ok a M' => exact fun b H' θ' g' s r => h b H' θ' (g.trans g') s r
  | exc x M' => exact fun c d H' θ' g' s r => h c d H' θ' (g.trans g') s r
theorem Post.bind {θ : List Addr} {H : Hp} {o : Out α} {k : α → Store → Out γ} (h : Post K mg E R' Q' θ H (o.bind k))
    (f : ∀ a M1 b H1 θ1, Go θ θ1 H H1 → SR K θ1 H1 M1 → R θ1 H1 b a → Post K mg E R' Q' θ1 H1 (k a M1) → Q b H1) : Post K mg E R Q θ H o := by
  cases o with
  | stuck => exact h
  | ok a M' => exact fun b H' θ' g s r => f a M' b H' θ' g s r (Post.go g h)
  | exc x M' => exact h
theorem Post.imp {θ : List Addr} {H : Hp} {o : Out α} {Q2 : β → Hp → Prop} (h : Post K mg E R Q θ H o) (f : ∀ b H', Q b H' → Q2 b H') : Post K mg E R Q2 θ H o := by
  cases o with
  | stuck => exact h
  | ok a M' => exact fun b H' θ' g s r => f _ _ (h b H' θ' g s r)
  | exc x M' => exact h
theorem Post.here {θ : List Addr} {H : Hp} {a : α} {M : Store} {b : β} (h : Post K mg E R Q θ H (.ok a M)) (s : SR K θ H M) (r : R θ H b a) : Q b H := h b H θ .refl s r
end
/-! ### the judgements -/
abbrev ZC := Sl → Store → Out D
abbrev ZCb := Sl → Store → Out Bool
abbrev ZCs := Sl → Store → Out (List D)
def EqR : List Addr → Hp → Bool → Bool → Prop := fun _ _ b a => b = a
structure ZX (X : Cx) : Prop where
  calm : X.calm = true
  own : PassesOwn (model X.prog X.w) X.A X.env X.xe
  nd : X.N.Nodup
  hu : X.A.units + 100 < cLine
  gd : X.A.guards = some []
section
variable (X : Cx) (E : XK)
def ZE (e : Expr) (c : ZC) : Prop := ∃ t, PE X e t ∧ ∀ σ H θ sl M Q, SV X.K θ H σ sl → SR X.K θ H M → Post X.K X.mg E (Dr X.K) Q θ H (c sl M) → t σ H Q
def ZT (e : Expr) (c : ZCb) : Prop := ∃ t, PT X e t ∧ ∀ σ H θ sl M Q, SV X.K θ H σ sl → SR X.K θ H M → Post X.K X.mg E EqR Q θ H (c sl M) → t σ H Q
def ZW (e : Expr) (c : ZCb) : Prop := ∃ t, PW X e t ∧ ∀ σ H θ sl M Q, SV X.K θ H σ sl → SR X.K θ H M → Post X.K X.mg E EqR Q θ H (c sl M) → t σ H Q
def ZA (es : List Expr) (c : ZCs) : Prop := ∃ t, PA X es t ∧ ∀ σ H θ sl M Q, SV X.K θ H σ sl → SR X.K θ H M → Post X.K X.mg E (Drs X.K) Q θ H (c sl M) → t σ H Q
end
end Z

/-! Z: expressions. -/
namespace Z
open PySem PySem.Spec PyProof.Rows L2

/-! ### views -/
def optAll {α β : Type} (f : α → Option β) : List α → Option (List β)
  | [] => some []
  | x :: r => match f x, optAll f r with
    | some y, some ys => some (y :: ys)
    | _, _ => none
def snap : Nat → Store → D → Option P
  | _, _, .p x => some x
  | 0, _, .ref _ => none
  | n + 1, M, .ref i => match M[i]? with
    | some (.lst ds) => (optAll (snap n M) ds).map .list
    | some (.frz xs) => some (.list xs)
    | _ => none
@[simp] theorem snap_p (n : Nat) (M : Store) (x : P) : snap n M (.p x) = some x := by cases n <;> rfl
def lstv (M : Store) : D → Option (List D)
  | .p (.list xs) => some (xs.map .p)
  | .ref i => match M[i]? with
    | some (.lst ds) => some ds
    | some (.frz xs) => some (xs.map .p)
    | _ => none
  | _ => none
@[simp] theorem lstv_p (M : Store) (xs : List P) : lstv M (.p (.list xs)) = some (xs.map .p) := id rfl
@[simp] theorem lstv_t (M : Store) (xs : List P) : lstv M (.p (.tuple xs)) = none := id rfl
@[simp] theorem lstv_i (M : Store) (i : Int) : lstv M (.p (.int i)) = none := id rfl
section
variable {K : PySem.W.Frag} {θ : List Addr} {H : Hp} {M : Store}
theorem dr_ref {v : V} {i : Nat} {o : Ob} (s : SR K θ H M) (r : Dr K θ H v (.ref i)) (e : M[i]? = some o) : ∃ a, θ[i]? = some a ∧ v = .ref a ∧ ObOk K θ H a o := by
  obtain ⟨a, h, rfl⟩ := r
  exact ⟨a, h, rfl, s.ob i o a e h⟩
theorem optAll_dp {n : Nat} (ih : ∀ v d x, Dr K θ H v d → snap n M d = some x → Dp K H v x) : ∀ {vs : List V} {ds : List D} {xs : List P}, Drs K θ H vs ds → optAll (snap n M) ds = some xs → DpAll K H vs xs
  | _, _, xs, .nil, e => by cases e; exact .nil
  | _, d :: ds, xs, .cons a b, e => by
    unfold optAll at e
    cases q1 : snap n M d with
    | none => rw [q1] at e; cases e
    | some y =>
      cases q2 : optAll (snap n M) ds with
      | none => rw [q1, q2] at e; cases e
      | some ys =>
        rw [q1, q2] at e
        cases e
        exact .cons (ih _ _ _ a q1) (optAll_dp ih b q2)
theorem snap_dp (s : SR K θ H M) : ∀ (n : Nat) (v : V) (d : D) (x : P), Dr K θ H v d → snap n M d = some x → Dp K H v x
  | n, v, .p y, x, r, e => by
    rw [snap_p] at e
    cases e
    exact Fz.dp r
  | 0, _, .ref _, _, _, e => by cases e
  | n + 1, v, .ref i, x, r, e => by
    unfold snap at e
    cases q : M[i]? with
    | none => rw [q] at e; cases e
    | some o =>
      rw [q] at e
      obtain ⟨a, h, rfl, k⟩ := dr_ref s r q
      cases o with
      | lst ds =>
        simp only at e
        cases q2 : optAll (snap n M) ds with
        | none => rw [q2] at e; cases e
        | some ys =>
          rw [q2] at e
          cases e
          obtain ⟨vs, e1, rs⟩ := k
          exact .lst (SqL.of e1) (optAll_dp (snap_dp s n) rs q2)
      | frz xs =>
        simp only at e
        cases e
        obtain ⟨vs, o, e1, rs⟩ := k
        exact .lst (.inl (.inr ⟨o, e1⟩)) rs.dp
      | dic kvs => cases e
      | dit kvs => cases e
theorem lstv_ok {v : V} {d : D} {ds : List D} (s : SR K θ H M) (r : Dr K θ H v d) (e : lstv M d = some ds) : ∃ a vs, v = .ref a ∧ SqX K H a vs ∧ Drs K θ H vs ds := by
  cases d with
  | p x =>
    cases x with
    | list xs =>
      cases e
      cases r with
      | lst h a => exact ⟨_, _, rfl, .inr h, a.drs⟩
    | _ => cases e
  | ref i =>
    unfold lstv at e
    simp only at e
    cases q : M[i]? with
    | none => rw [q] at e; cases e
    | some o =>
      rw [q] at e
      obtain ⟨a, h, rfl, k⟩ := dr_ref s r q
      cases o with
      | lst ds => cases e; obtain ⟨vs, e1, rs⟩ := k; exact ⟨_, _, rfl, .inl e1, rs⟩
      | frz xs => cases e; obtain ⟨vs, o, e1, rs⟩ := k; exact ⟨_, _, rfl, .inr (.inl ⟨o, e1⟩), rs.drs⟩
      | dic kvs => cases e
      | dit kvs => cases e
theorem fz_ints : ∀ {ns : List Int} {vs : List V}, FzAll K H vs (ns.map .int) → vs = ns.map V.int
  | [], _, h => by cases h; rfl
  | n :: ns, _, h => by
    cases h with
    | cons a b => cases a; rw [fz_ints b]; rfl
end

/-! ### readings by outcomes -/
section
variable (X : Cx) (E : XK)
def rZ1 (g : D → Store → Out D) : V → Hp → VK → Prop := fun v H Q => ∃ x θ M, SR X.K θ H M ∧ Dr X.K θ H v x ∧ Post X.K X.mg E (Dr X.K) Q θ H (g x M)
def rZ2 (g : D → D → Store → Out D) : R2 := fun v u H Q => ∃ x y θ M, SR X.K θ H M ∧ Dr X.K θ H v x ∧ Dr X.K θ H u y ∧ Post X.K X.mg E (Dr X.K) Q θ H (g x y M)
def rZs (g : List D → Store → Out D) : List V → Hp → VK → Prop := fun vs H Q => ∃ ds θ M, SR X.K θ H M ∧ Drs X.K θ H vs ds ∧ Post X.K X.mg E (Dr X.K) Q θ H (g ds M)
def rZm (g : D → List D → Store → Out D) : V → List V → Hp → VK → Prop := fun v vs H Q => ∃ x ds θ M, SR X.K θ H M ∧ Dr X.K θ H v x ∧ Drs X.K θ H vs ds ∧ Post X.K X.mg E (Dr X.K) Q θ H (g x ds M)
end
def z1 (g : D → Store → Out D) (a : ZC) : ZC := fun sl M => (a sl M).bind g
def z2 (g : D → D → Store → Out D) (a b : ZC) : ZC := fun sl M => (a sl M).bind fun x M1 => (b sl M1).bind fun y M2 => g x y M2
def zs (g : List D → Store → Out D) (a : ZCs) : ZC := fun sl M => (a sl M).bind g
def zm (g : D → List D → Store → Out D) (o : ZC) (a : ZCs) : ZC := fun sl M => (o sl M).bind fun x M1 => (a sl M1).bind fun ds M2 => g x ds M2
def zv (i : Nat) : ZC := fun sl M => match sl[i]? with
  | some (some d) => .ok d M
  | _ => .stuck
def zk (x : P) : ZC := fun _ M => .ok (.p x) M
def asBool (d : D) (M : Store) : Out Bool := match d with
  | .p (.bool b) => .ok b M
  | _ => .stuck
def zt (a : ZC) : ZCb := fun sl M => (a sl M).bind asBool
def znil : ZCs := fun _ M => .ok [] M
def zcons (a : ZC) (r : ZCs) : ZCs := fun sl M => (a sl M).bind fun x M1 => (r sl M1).bind fun xs M2 => .ok (x :: xs) M2

section
variable {X : Cx} {E : XK} {e a b c : Expr} {es : List Expr} {pos : Pos} {ca cb cc : ZC} {cs : ZCs}
theorem ZE.v (i : Nat) {x : Str} (hN : X.N[i]? = some x := by rfl) (hv : Vis X.env.scope x := by first | exact Or.inl rfl | exact Or.inr (Or.inl rfl) | exact Or.inr (Or.inr rfl))
    (hd : (x == ("__debug__" : Str)) = false := by decide) (hcd : (x == ("__classdict__" : Str)) = false := by decide) : ZE X E (.Name x pos) (zv i) := by
  refine ⟨_, pe_var hN hv hd hcd, fun σ H θ sl M Q hs hm h => ?_⟩
  unfold zv at h
  cases q : sl[i]? with
  | none => rw [q] at h; exact h.elim
  | some o =>
    cases o with
    | none => rw [q] at h; exact h.elim
    | some d =>
      rw [q] at h
      obtain ⟨v, ev, r⟩ := hs.at_ i d q
      exact ⟨v, ev, Post.here h hm r⟩
theorem ZE.const {x : P} {v : V} (h : PE X e (tC v)) (f : ∀ H, Fz X.K H v x) : ZE X E e (zk x) :=
  ⟨_, h, fun σ H θ sl M Q hs hm q => Post.here (b := v) (show Post X.K X.mg E (Dr X.K) Q θ H (.ok (.p x) M) from q) hm (f H)⟩
theorem ZE.int {i : Int} {j} : ZE X E (.Constant (.int i) j pos) (zk (.int i)) := .const pe_int fun _ => .int i
theorem ZE.bl {i : Bool} {j} : ZE X E (.Constant (.bool i) j pos) (zk (.bool i)) := .const pe_bl fun _ => .bl i
theorem ZE.non {j} : ZE X E (.Constant .none j pos) (zk .none) := .const pe_non fun _ => .non
theorem ZE.str {i : String} {j} : ZE X E (.Constant (.str i) j pos) (zk (.str i)) := .const pe_str fun _ => .str _
/-- a module's int -/
theorem ZE.gint {x : Str} {i : Int} {t : Tok} (hg : Gl X x) (hm : X.mg x = some (.int i t)) (hd : (x == ("__debug__" : Str)) = false := by decide) : ZE X E (.Name x pos) (zk (.int i)) :=
  .const (v := .int i) (pe_glob hg hm ⟨t, rfl⟩ hd) fun _ => .int i
theorem ZE.op1 {op : UnaryOp} {g : D → Store → Out D} (ho : UnR X (unaryOp op) (rZ1 X E g)) (ha : ZE X E a ca) : ZE X E (.UnaryOp op a pos) (z1 g ca) := by
  obtain ⟨ta, pa, qa⟩ := ha
  refine ⟨_, pe_un ho pa, fun σ H θ sl M Q hs hm h => ?_⟩
  exact qa σ H θ sl M _ hs hm (Post.bind h fun x M1 v H1 θ1 g1 m1 r1 h1 => ⟨x, θ1, M1, m1, r1, h1⟩)
theorem two {g : D → D → Store → Out D} {ta tb : TE}
    (qa : ∀ σ H θ sl M Q, SV X.K θ H σ sl → SR X.K θ H M → Post X.K X.mg E (Dr X.K) Q θ H (ca sl M) → ta σ H Q)
    (qb : ∀ σ H θ sl M Q, SV X.K θ H σ sl → SR X.K θ H M → Post X.K X.mg E (Dr X.K) Q θ H (cb sl M) → tb σ H Q) {σ : L2.St} {H : Hp} {θ : List Addr} {sl : Sl} {M : Store} {Q : VK} (hs : SV X.K θ H σ sl) (hm : SR X.K θ H M)
    (h : Post X.K X.mg E (Dr X.K) Q θ H (z2 g ca cb sl M)) : tOp (rZ2 X E g) ta tb σ H Q := by
  refine qa σ H θ sl M _ hs hm (Post.bind h fun x M1 v H1 θ1 g1 m1 r1 h1 => ?_)
  refine qb σ H1 θ1 sl M1 _ (hs.go g1) m1 (Post.bind h1 fun y M2 u H2 θ2 g2 m2 r2 h2 => ?_)
  exact ⟨x, y, θ2, M2, m2, r1.go g2, r2, h2⟩
theorem ZE.op2 {op : Operator} {g : D → D → Store → Out D} (ho : OpR X (binaryOp op) (rZ2 X E g)) (ha : ZE X E a ca) (hb : ZE X E b cb) : ZE X E (.BinOp a op b pos) (z2 g ca cb) := by
  obtain ⟨ta, pa, qa⟩ := ha
  obtain ⟨tb, pb, qb⟩ := hb
  exact ⟨_, pe_op ho pa pb, fun σ H θ sl M Q hs hm h => two qa qb hs hm h⟩
theorem ZE.cmp {op : CmpOp} {g : D → D → Store → Out D} (ho : OpR X (compareOp op) (rZ2 X E g)) (ha : ZE X E a ca) (hb : ZE X E b cb) (hm : behindInMarks op b = false := by first | exact nomark _ | rfl) :
    ZE X E (.Compare a [op] [b] pos) (z2 g ca cb) := by
  obtain ⟨ta, pa, qa⟩ := ha
  obtain ⟨tb, pb, qb⟩ := hb
  exact ⟨_, pe_cmpR ho pa pb hm, fun σ H θ sl M Q hs hm h => two qa qb hs hm h⟩
theorem tt_of {t : TE} {c : ZC} (q : ∀ σ H θ sl M Q, SV X.K θ H σ sl → SR X.K θ H M → Post X.K X.mg E (Dr X.K) Q θ H (c sl M) → t σ H Q) {σ : L2.St} {H : Hp} {θ : List Addr} {sl : Sl} {M : Store} {Q : Bool → Hp → Prop}
    (hs : SV X.K θ H σ sl) (hm : SR X.K θ H M) (h : Post X.K X.mg E EqR Q θ H (zt c sl M)) : t σ H fun x H' => ∃ k, x = .bl k ∧ Q k H' := by
  refine q σ H θ sl M _ hs hm (Post.bind h fun x M1 v H1 θ1 g1 m1 r1 h1 => ?_)
  cases x with
  | ref i => exact h1.elim
  | p y =>
    cases y with
    | bool k =>
      cases r1
      exact ⟨k, rfl, Post.here h1 m1 rfl⟩
    | _ => exact h1.elim
theorem ZT.cmp {op : CmpOp} {g : D → D → Store → Out D} (ho : OpR X (compareOp op) (rZ2 X E g)) (ha : ZE X E a ca) (hb : ZE X E b cb) (hm : behindInMarks op b = false := by first | exact nomark _ | rfl) :
    ZT X E (.Compare a [op] [b] pos) (zt (z2 g ca cb)) := by
  obtain ⟨ta, pa, qa⟩ := ha
  obtain ⟨tb, pb, qb⟩ := hb
  exact ⟨_, pt_cmpR ho pa pb hm, fun σ H θ sl M Q hs hm h => tt_of (t := tOp (rZ2 X E g) ta tb) (c := z2 g ca cb) (fun σ H θ sl M Q hs hm h => two qa qb hs hm h) hs hm h⟩
/-- a < b < c -/
def zchain (g g' : D → D → Store → Out D) (a b c : ZC) : ZC := fun sl M => (a sl M).bind fun x M1 => (b sl M1).bind fun y M2 => (g x y M2).bind fun z M3 => match z with
  | .p (.bool true) => (c sl M3).bind fun w M4 => g' y w M4
  | .p (.bool false) => .ok (.p (.bool false)) M3
  | _ => .stuck
theorem chain_ok {g g' : D → D → Store → Out D} {ta tb tc : TE} {op : CmpOp}
    (qa : ∀ σ H θ sl M Q, SV X.K θ H σ sl → SR X.K θ H M → Post X.K X.mg E (Dr X.K) Q θ H (ca sl M) → ta σ H Q)
    (qb : ∀ σ H θ sl M Q, SV X.K θ H σ sl → SR X.K θ H M → Post X.K X.mg E (Dr X.K) Q θ H (cb sl M) → tb σ H Q)
    (qc : ∀ σ H θ sl M Q, SV X.K θ H σ sl → SR X.K θ H M → Post X.K X.mg E (Dr X.K) Q θ H (cc sl M) → tc σ H Q)
    {σ : L2.St} {H : Hp} {θ : List Addr} {sl : Sl} {M : Store} {Q : VK} (hs : SV X.K θ H σ sl) (hm : SR X.K θ H M)
    (h : Post X.K X.mg E (Dr X.K) Q θ H (zchain g g' ca cb cc sl M)) : ta σ H fun x H1 => tb σ H1 fun y H2 => rZ2 X E g x y H2 fun z H3 => ∃ k, z = .bl k ∧ (if k = true then tc σ H3 fun w H4 => rZ2 X E g' y w H4 Q else Q (.bl false) H3) := by
  refine qa σ H θ sl M _ hs hm (Post.bind h fun x M1 v H1 θ1 g1 m1 r1 h1 => ?_)
  refine qb σ H1 θ1 sl M1 _ (hs.go g1) m1 (Post.bind h1 fun y M2 u H2 θ2 g2 m2 r2 h2 => ?_)
  refine ⟨x, y, θ2, M2, m2, r1.go g2, r2, Post.bind h2 fun z M3 w H3 θ3 g3 m3 r3 h3 => ?_⟩
  cases z with
  | ref i => exact h3.elim
  | p y' =>
    cases y' with
    | bool k =>
      cases r3
      refine ⟨k, rfl, ?_⟩
      cases k with
      | false =>
        rw [if_neg Bool.false_ne_true]
        exact Post.here (show Post X.K X.mg E (Dr X.K) Q θ3 H3 (.ok (.p (.bool false)) M3) from h3) m3 (Fz.bl false)
      | true =>
        rw [if_pos rfl]
        exact qc σ H3 θ3 sl M3 _ (((hs.go g1).go g2).go g3) m3 (Post.bind h3 fun w' M4 u4 H4 θ4 g4 m4 r4 h4 => ⟨y, w', θ4, M4, m4, (r2.go g3).go g4, r4, h4⟩)
    | _ => exact h3.elim
theorem ZE.chain {op op' : CmpOp} {g g' : D → D → Store → Out D} (ho : OpR X (compareOp op) (rZ2 X E g)) (ho' : OpR X (compareOp op') (rZ2 X E g')) (ha : ZE X E a ca) (hb : ZE X E b cb) (hc : ZE X E c cc)
    (hm : lastMarks [op, op'] [b, c] = false := by with_unfolding_all rfl) : ZE X E (.Compare a [op, op'] [b, c] pos) (zchain g g' ca cb cc) := by
  obtain ⟨ta, pa, qa⟩ := ha
  obtain ⟨tb, pb, qb⟩ := hb
  obtain ⟨tc, pc, qc⟩ := hc
  exact ⟨_, pe_chain ho ho' pa pb pc hm, fun σ H θ sl M Q hs hm h => chain_ok (op := op) qa qb qc hs hm h⟩
theorem ZT.chain {op op' : CmpOp} {g g' : D → D → Store → Out D} (ho : OpR X (compareOp op) (rZ2 X E g)) (ho' : OpR X (compareOp op') (rZ2 X E g')) (ha : ZE X E a ca) (hb : ZE X E b cb) (hc : ZE X E c cc)
    (hm : lastMarks [op, op'] [b, c] = false := by with_unfolding_all rfl) : ZT X E (.Compare a [op, op'] [b, c] pos) (zt (zchain g g' ca cb cc)) := by
  obtain ⟨ta, pa, qa⟩ := ha
  obtain ⟨tb, pb, qb⟩ := hb
  obtain ⟨tc, pc, qc⟩ := hc
  exact ⟨_, pt_chain ho ho' pa pb pc hm, fun σ H θ sl M Q hs hm h => tt_of (t := tChain (rZ2 X E g) (rZ2 X E g') ta tb tc) (c := zchain g g' ca cb cc) (fun σ H θ sl M Q hs hm h => chain_ok (op := op) qa qb qc hs hm h) hs hm h⟩
/-- a bool as a test -/
theorem ZT.val (ha : ZE X E a ca) (he : ∀ whole, isTrue a X.env whole = (do let v ← whole; standAt a.pos; holding [v] (truthy v)) := by intro _; rfl) : ZT X E a (zt ca) := by
  obtain ⟨ta, pa, qa⟩ := ha
  exact ⟨_, pt_val pa he, fun σ H θ sl M Q hs hm h => tt_of qa hs hm h⟩
/-! ### and, or, not -/
def ztand (a b : ZCb) : ZCb := fun sl M => (a sl M).bind fun k M1 => if k = true then b sl M1 else .ok false M1
def ztor (a b : ZCb) : ZCb := fun sl M => (a sl M).bind fun k M1 => if k = true then .ok true M1 else b sl M1
def ztnot (a : ZCb) : ZCb := fun sl M => (a sl M).bind fun k M1 => .ok (!k) M1
variable {ta tb : ZCb} {rest : List Expr}
theorem ZW.and1 (ha : ZT X E a ta) : ZW X E (.BoolOp .And [a] pos) ta := by
  obtain ⟨t, p, q⟩ := ha
  exact ⟨_, pw_and1 p, q⟩
theorem ZW.or1 (ha : ZT X E a ta) : ZW X E (.BoolOp .Or [a] pos) ta := by
  obtain ⟨t, p, q⟩ := ha
  exact ⟨_, pw_or1 p, q⟩
theorem ZW.and (ha : ZT X E a ta) (hb : ZW X E (.BoolOp .And (b :: rest) pos) tb) : ZW X E (.BoolOp .And (a :: b :: rest) pos) (ztand ta tb) := by
  obtain ⟨t, p, q⟩ := ha
  obtain ⟨u, pb, qb⟩ := hb
  refine ⟨_, pw_and p pb, fun σ H θ sl M Q hs hm h => q σ H θ sl M _ hs hm (Post.bind h fun k M1 k' H1 θ1 g1 m1 r1 h1 => ?_)⟩
  cases r1
  cases k with
  | false => exact Post.here (by simpa using h1) m1 rfl
  | true => exact qb σ H1 θ1 sl M1 Q (hs.go g1) m1 (by simpa using h1)
theorem ZW.or (ha : ZT X E a ta) (hb : ZW X E (.BoolOp .Or (b :: rest) pos) tb) : ZW X E (.BoolOp .Or (a :: b :: rest) pos) (ztor ta tb) := by
  obtain ⟨t, p, q⟩ := ha
  obtain ⟨u, pb, qb⟩ := hb
  refine ⟨_, pw_or p pb, fun σ H θ sl M Q hs hm h => q σ H θ sl M _ hs hm (Post.bind h fun k M1 k' H1 θ1 g1 m1 r1 h1 => ?_)⟩
  cases r1
  cases k with
  | true => exact Post.here (by simpa using h1) m1 rfl
  | false => exact qb σ H1 θ1 sl M1 Q (hs.go g1) m1 (by simpa using h1)
theorem ZT.w (h : ZW X E a ta) : ZT X E a ta := by
  obtain ⟨t, p, q⟩ := h
  exact ⟨t, p.pt, q⟩
theorem ZT.not (ha : ZT X E a ta) : ZT X E (.UnaryOp .Not a pos) (ztnot ta) := by
  obtain ⟨t, p, q⟩ := ha
  refine ⟨_, pt_not p, fun σ H θ sl M Q hs hm h => q σ H θ sl M _ hs hm (Post.bind h fun k M1 k' H1 θ1 g1 m1 r1 h1 => ?_)⟩
  cases r1
  exact Post.here (show Post X.K X.mg E EqR Q θ1 H1 (.ok (!k) M1) from h1) m1 rfl
def zand (a b : ZC) : ZC := fun sl M => (a sl M).bind fun x M1 => (asBool x M1).bind fun k M2 => if k = true then b sl M2 else .ok (.p (.bool false)) M2
def zor (a b : ZC) : ZC := fun sl M => (a sl M).bind fun x M1 => (asBool x M1).bind fun k M2 => if k = true then .ok (.p (.bool true)) M2 else b sl M2
def znot (a : ZC) : ZC := fun sl M => (a sl M).bind fun x M1 => (asBool x M1).bind fun k M2 => .ok (.p (.bool (!k))) M2
theorem asBool_ok {Q : Bool → Hp → Prop} {θ : List Addr} {H : Hp} {x : D} {M : Store} {v : V} {α : Type} {k : Bool → Store → Out α} {β : Type} {R' : List Addr → Hp → β → α → Prop} {Q' : β → Hp → Prop}
    (h : Post X.K X.mg E R' Q' θ H ((asBool x M).bind k)) (r : Dr X.K θ H v x) : ∃ b, v = .bl b ∧ Post X.K X.mg E R' Q' θ H (k b M) := by
  cases x with
  | ref i => exact h.elim
  | p y =>
    cases y with
    | bool b => cases r; exact ⟨b, rfl, h⟩
    | _ => exact h.elim
theorem ZE.one {op} (ha : ZE X E a ca) : ZE X E (.BoolOp op [a] pos) ca := by
  obtain ⟨t, p, q⟩ := ha
  exact ⟨_, pe_one p, q⟩
theorem ZE.and (ha : ZE X E a ca) (hb : ZE X E (.BoolOp .And (b :: rest) pos) cb) : ZE X E (.BoolOp .And (a :: b :: rest) pos) (zand ca cb) := by
  obtain ⟨t, p, q⟩ := ha
  obtain ⟨u, pb, qb⟩ := hb
  refine ⟨_, pe_and p pb, fun σ H θ sl M Q hs hm h => q σ H θ sl M _ hs hm (Post.bind h fun x M1 v H1 θ1 g1 m1 r1 h1 => ?_)⟩
  obtain ⟨k, rfl, h2⟩ := asBool_ok (Q := fun _ _ => True) h1 r1
  refine ⟨k, rfl, ?_⟩
  cases k with
  | false => exact Post.here (show Post X.K X.mg E (Dr X.K) Q θ1 H1 (.ok (.p (.bool false)) M1) from by simpa using h2) m1 (Fz.bl false)
  | true => exact qb σ H1 θ1 sl M1 Q (hs.go g1) m1 (by simpa using h2)
theorem ZE.or (ha : ZE X E a ca) (hb : ZE X E (.BoolOp .Or (b :: rest) pos) cb) : ZE X E (.BoolOp .Or (a :: b :: rest) pos) (zor ca cb) := by
  obtain ⟨t, p, q⟩ := ha
  obtain ⟨u, pb, qb⟩ := hb
  refine ⟨_, pe_or p pb, fun σ H θ sl M Q hs hm h => q σ H θ sl M _ hs hm (Post.bind h fun x M1 v H1 θ1 g1 m1 r1 h1 => ?_)⟩
  obtain ⟨k, rfl, h2⟩ := asBool_ok (Q := fun _ _ => True) h1 r1
  refine ⟨k, rfl, ?_⟩
  cases k with
  | true => exact Post.here (show Post X.K X.mg E (Dr X.K) Q θ1 H1 (.ok (.p (.bool true)) M1) from by simpa using h2) m1 (Fz.bl true)
  | false => exact qb σ H1 θ1 sl M1 Q (hs.go g1) m1 (by simpa using h2)
theorem ZE.not (ha : ZE X E a ca) : ZE X E (.UnaryOp .Not a pos) (znot ca) := by
  obtain ⟨t, p, q⟩ := ha
  refine ⟨_, pe_not p, fun σ H θ sl M Q hs hm h => q σ H θ sl M _ hs hm (Post.bind h fun x M1 v H1 θ1 g1 m1 r1 h1 => ?_)⟩
  obtain ⟨k, rfl, h2⟩ := asBool_ok (Q := fun _ _ => True) h1 r1
  exact ⟨k, rfl, Post.here (b := V.bl (!k)) (show Post X.K X.mg E (Dr X.K) Q θ1 H1 (.ok (.p (.bool (!k))) M1) from h2) m1 (Fz.bl _)⟩
def zif (t : ZCb) (a b : ZC) : ZC := fun sl M => (t sl M).bind fun k M1 => if k = true then a sl M1 else b sl M1
theorem ZE.ife (hc : ZT X E c ta) (ha : ZE X E a ca) (hb : ZE X E b cb) : ZE X E (.IfExp c a b pos) (zif ta ca cb) := by
  obtain ⟨t, p, q⟩ := hc
  obtain ⟨u, pa, qa⟩ := ha
  obtain ⟨w, pb, qb⟩ := hb
  refine ⟨_, pe_ifExp p pa pb, fun σ H θ sl M Q hs hm h => q σ H θ sl M _ hs hm (Post.bind h fun k M1 k' H1 θ1 g1 m1 r1 h1 => ?_)⟩
  cases r1
  cases k with
  | true => exact (if_pos rfl).mpr (qa σ H1 θ1 sl M1 Q (hs.go g1) m1 (by simpa using h1))
  | false => exact (if_neg Bool.false_ne_true).mpr (qb σ H1 θ1 sl M1 Q (hs.go g1) m1 (by simpa using h1))
/-! ### lists of arguments, displays -/
theorem ZA.nil : ZA X E [] znil := ⟨_, pa_nil, fun σ H θ sl M Q hs hm h => Post.here (b := []) (show Post X.K X.mg E (Drs X.K) Q θ H (.ok [] M) from h) hm .nil⟩
theorem ZA.cons (ha : ZE X E a ca) (hr : ZA X E es cs) (hs : starEach (a :: es) X.env = (false, eval a X.env) :: starEach es X.env := by rfl) : ZA X E (a :: es) (zcons ca cs) := by
  obtain ⟨t, p, q⟩ := ha
  obtain ⟨u, pr, qr⟩ := hr
  refine ⟨_, pa_cons p pr hs, fun σ H θ sl M Q hs hm h => q σ H θ sl M _ hs hm (Post.bind h fun x M1 v H1 θ1 g1 m1 r1 h1 => ?_)⟩
  refine qr σ H1 θ1 sl M1 _ (hs.go g1) m1 (Post.bind h1 fun xs M2 vs H2 θ2 g2 m2 r2 h2 => ?_)
  exact Post.here (b := v :: vs) (show Post X.K X.mg E (Drs X.K) Q θ2 H2 (.ok (x :: xs) M2) from h2) m2 (.cons (r1.go g2) r2)
def mkTup (ds : List D) (M : Store) : Out D := match pures ds with
  | some xs => if xs.length ≤ sizeLine then .ok (.p (.tuple xs)) M else .stuck
  | none => .stuck
def mkLstF (ds : List D) (M : Store) : Out D := match pures ds with
  | some xs => if xs.length ≤ sizeLine then .ok (.p (.list xs)) M else .stuck
  | none => .stuck
def mkLst (ds : List D) (M : Store) : Out D := if ds.length ≤ sizeLine then .ok (.ref M.length) (M ++ [.lst ds]) else .stuck
theorem SqT.new {K : PySem.W.Frag} {H : Hp} {p : Addr} {xs : List V} : SqT K (upd H p (.tup xs)) p xs := .inl (.inl upd_same)
/-- a new tuple -/
theorem new_tup {θ : List Addr} {H : Hp} {M : Store} {Q : VK} {vs : List V} {xs : List P} {p : Addr} (h : Post X.K X.mg E (Dr X.K) Q θ H (.ok (.p (.tuple xs)) M)) (s : SR X.K θ H M) (r : FzAll X.K H vs xs) (hp : H p = none) : Q (.ref p) (upd H p (.tup vs)) :=
  h (.ref p) _ θ (Go.out s hp) (s.out hp) (.tup SqT.new (r.keep (Go.out s hp).keep))
/-- a new list that nobody changes from now on -/
theorem new_frz {θ : List Addr} {H : Hp} {M : Store} {Q : VK} {vs : List V} {xs : List P} {p : Addr} {o : Obj} (h : Post X.K X.mg E (Dr X.K) Q θ H (.ok (.p (.list xs)) M)) (s : SR X.K θ H M) (r : FzAll X.K H vs xs) (hp : H p = none) :
    Q (.ref p) (upd (upd H p (.lst vs)) p (.frz o (.lst vs))) := by
  rw [upd_upd]
  exact h (.ref p) _ θ (Go.out s hp) (s.out hp) (.lst (.inl ⟨o, upd_same⟩) (r.keep (Go.out s hp).keep))
theorem new_lst {θ : List Addr} {H : Hp} {M : Store} {Q : VK} {vs : List V} {ds : List D} {p : Addr} (h : Post X.K X.mg E (Dr X.K) Q θ H (.ok (.ref M.length) (M ++ [.lst ds]))) (s : SR X.K θ H M) (r : Drs X.K θ H vs ds) (hp : H p = none) :
    Q (.ref p) (upd H p (.lst vs)) :=
  h (.ref p) _ (θ ++ [p]) (Go.new s hp) (s.new hp ⟨vs, upd_same, Drs.go (Go.new s hp) r⟩ (Drs.low s r)) s.newD
def FrzQ (Q : VK) : VK := fun v H1 => ∃ a xs, v = .ref a ∧ H1 a = some (.lst xs) ∧ ∀ o, Q v (upd H1 a (.frz o (.lst xs)))
theorem ep_frz {pins : List (Addr × Obj)} {σ : L2.St} {Q : VK} {u : Value} {s : Shared} (h : EP X pins σ (FrzQ Q) u s) : EP X pins σ Q u s := by
  obtain ⟨v, H1, I, r, a, xs, rfl, e, q⟩ := h
  obtain ⟨o, I2⟩ := I.lock e trivial
  exact ⟨_, _, I2, r, q o⟩
theorem pe_frz {t : TE} (h : PE X e t) : PE X e (fun σ H Q => t σ H (FrzQ Q)) :=
  ⟨fun pins s σ H Q I w => thn (h.run pins s σ H _ I w) fun u s1 q => ep_frz q⟩
theorem ZE.tup {x1} (h : ZA X E es cs) : ZE X E (.Tuple es x1 pos) (zs mkTup cs) := by
  obtain ⟨t, p, q⟩ := h
  refine ⟨_, pe_tup p, fun σ H θ sl M Q hs hm h => q σ H θ sl M _ hs hm (Post.bind h fun ds M1 vs H1 θ1 g1 m1 r1 h1 => ?_)⟩
  unfold mkTup at h1
  cases e : pures ds with
  | none => rw [e] at h1; exact h1.elim
  | some xs =>
    rw [e] at h1
    simp only at h1
    rw [pures_eq e] at r1
    have r2 := FzAll.ofDrs r1
    by_cases l : xs.length ≤ sizeLine
    · rw [if_pos l] at h1
      exact ⟨by rw [r2.length]; exact l, fun a ha => new_tup h1 m1 r2 ha⟩
    · rw [if_neg l] at h1; exact h1.elim
theorem ZE.lstF (h : ZA X E es cs) : ZE X E (.List es pos) (zs mkLstF cs) := by
  obtain ⟨t, p, q⟩ := h
  refine ⟨fun σ H Q => tLst t σ H (FrzQ Q), pe_frz (pe_lst p), fun σ H θ sl M Q hs hm h => q σ H θ sl M _ hs hm (Post.bind h fun ds M1 vs H1 θ1 g1 m1 r1 h1 => ?_)⟩
  unfold mkLstF at h1
  cases e : pures ds with
  | none => rw [e] at h1; exact h1.elim
  | some xs =>
    rw [e] at h1
    simp only at h1
    rw [pures_eq e] at r1
    have r2 := FzAll.ofDrs r1
    by_cases l : xs.length ≤ sizeLine
    · rw [if_pos l] at h1
      exact ⟨by rw [r2.length]; exact l, fun a ha => ⟨a, vs, rfl, upd_same, fun o => new_frz h1 m1 r2 ha⟩⟩
    · rw [if_neg l] at h1; exact h1.elim
theorem ZE.lst (h : ZA X E es cs) : ZE X E (.List es pos) (zs mkLst cs) := by
  obtain ⟨t, p, q⟩ := h
  refine ⟨_, pe_lst p, fun σ H θ sl M Q hs hm h => q σ H θ sl M _ hs hm (Post.bind h fun ds M1 vs H1 θ1 g1 m1 r1 h1 => ?_)⟩
  unfold mkLst at h1
  by_cases l : ds.length ≤ sizeLine
  · rw [if_pos l] at h1
    exact ⟨by rw [Paired.length r1]; exact l, fun a ha => new_lst h1 m1 r1 ha⟩
  · rw [if_neg l] at h1; exact h1.elim
/-! ### an object of the store is frozen -/
def zfreeze (d : D) (M : Store) : Out D := match d with
  | .p x => .ok (.p x) M
  | .ref i => match M[i]? with
    | some (.lst ds) => match pures ds with
      | some xs => .ok (.p (.list xs)) (M.set i (.frz xs))
      | none => .stuck
    | some (.frz xs) => .ok (.p (.list xs)) M
    | _ => .stuck
@[simp] theorem zfreeze_p (x : P) (M : Store) : zfreeze (.p x) M = .ok (.p x) M := id rfl
def zfrz (a : ZC) : ZC := fun sl M => (a sl M).bind zfreeze
theorem ZE.frz (ha : ZE X E a ca) : ZE X E a (zfrz ca) := by
  obtain ⟨t, p, q⟩ := ha
  refine ⟨fun σ H Q => t σ H fun v H1 => Q v H1 ∨ FrzQ Q v H1, ⟨fun pins s σ H Q I w => thn (p.run pins s σ H _ I w) fun u s1 h => ?_⟩, fun σ H θ sl M Q hs hm h => q σ H θ sl M _ hs hm (Post.bind h fun x M1 v H1 θ1 g1 m1 r1 h1 => ?_)⟩
  · obtain ⟨v, H', I', r, h⟩ := h
    rcases h with h | h
    · exact ⟨v, H', I', r, h⟩
    · exact ep_frz ⟨v, H', I', r, h⟩
  · cases x with
    | p y => exact .inl (Post.here (show Post X.K X.mg E (Dr X.K) Q θ1 H1 (.ok (.p y) M1) from h1) m1 r1)
    | ref i =>
      unfold zfreeze at h1
      simp only at h1
      cases e : M1[i]? with
      | none => rw [e] at h1; exact h1.elim
      | some ob =>
        rw [e] at h1
        obtain ⟨ad, hi, rfl, k⟩ := dr_ref m1 r1 e
        cases ob with
        | lst ds =>
          simp only at h1
          cases e2 : pures ds with
          | none => rw [e2] at h1; exact h1.elim
          | some xs =>
            rw [e2] at h1
            simp only at h1
            obtain ⟨vs, e3, rs⟩ := k
            rw [pures_eq e2] at rs
            refine .inr ⟨ad, vs, rfl, e3, fun o => ?_⟩
            have f2 : FzAll X.K (upd H1 ad (.frz o (.lst vs))) vs xs := (FzAll.ofDrs rs).keep fun b u eb fb => by
              rw [upd_ne (fun z => by rw [z, e3] at eb; cases eb; exact fb)]; exact eb
            obtain ⟨s2, g2⟩ := m1.set hi e3 (u := .frz o (.lst vs)) (o := .frz xs) (fun z => z) ⟨vs, o, upd_same, f2⟩ rfl
            exact h1 _ _ θ1 g2 s2 (.lst (.inl ⟨o, upd_same⟩) f2)
        | frz xs =>
          simp only at h1
          obtain ⟨vs, o, e3, rs⟩ := k
          exact .inl (h1 _ _ θ1 .refl m1 (.lst (.inl ⟨o, e3⟩) rs))
        | dic kvs => exact h1.elim
        | dit kvs => exact h1.elim
end
end Z

/-! Z: operators on values. -/
namespace Z
open PySem PySem.Spec PyProof.Rows L2

/-! ### arithmetic -/
instance {i j : Int} : Decidable (CMul i j) := by unfold CMul; infer_instance
instance {i j : Int} : Decidable (CPow i j) := by unfold CPow; infer_instance
def frzl (ds : List D) (M : Store) : Out D := match pures ds with
  | some zs => if zs.length ≤ sizeLine then .ok (.p (.list zs)) M else .stuck
  | none => .stuck
@[simp] theorem frzl_map (xs : List P) (M : Store) : frzl (xs.map .p) M = if xs.length ≤ sizeLine then .ok (.p (.list xs)) M else .stuck := by simp [frzl]
def zAddL (a b : D) (M : Store) : Out D := match lstv M a, lstv M b with
  | some xs, some ys => frzl (xs ++ ys) M
  | _, _ => .stuck
def zAdd (a b : D) (M : Store) : Out D := match a, b with
  | .p (.int i), .p (.int j) => .ok (.p (.int (i + j))) M
  | .p (.tuple xs), .p (.tuple ys) => if xs.length + ys.length ≤ sizeLine then .ok (.p (.tuple (xs ++ ys))) M else .stuck
  | a, b => zAddL a b M
def zSub (a b : D) (M : Store) : Out D := match a, b with
  | .p (.int i), .p (.int j) => .ok (.p (.int (i - j))) M
  | _, _ => .stuck
def zMul (a b : D) (M : Store) : Out D := match a, b with
  | .p (.int i), .p (.int j) => if CMul i j then .ok (.p (.int (i * j))) M else .stuck
  | a, .p (.int k) => match lstv M a with
    | some xs => if -(2 ^ 63) ≤ k ∧ k < 2 ^ 63 ∧ xs.length * k.toNat ≤ sizeLine then frzl (List.replicate k.toNat xs).flatten M else .stuck
    | none => .stuck
  | _, _ => .stuck
def zMod (a b : D) (M : Store) : Out D := match a, b with
  | .p (.int i), .p (.int j) => if 0 < j then .ok (.p (.int (i % j))) M else .stuck
  | _, _ => .stuck
def zDiv (a b : D) (M : Store) : Out D := match a, b with
  | .p (.int i), .p (.int j) => if 0 < j ∧ j < 1073741824 then .ok (.p (.int (i / j))) M else .stuck
  | _, _ => .stuck
def zPow (a b : D) (M : Store) : Out D := match a, b with
  | .p (.int i), .p (.int j) => if CPow i j then .ok (.p (.int (i ^ j.toNat))) M else .stuck
  | _, _ => .stuck
def zNeg (a : D) (M : Store) : Out D := match a with
  | .p (.int i) => .ok (.p (.int (-i))) M
  | _ => .stuck

section
variable {X : Cx} {E : XK}
theorem zNeg_ok : UnR X (unaryOp .USub) (rZ1 X E zNeg) := by
  intro pins s σ H x v Q I rx h
  obtain ⟨d, θ, M, m, r, h⟩ := h
  cases d with
  | ref i => exact h.elim
  | p y =>
    cases y with
    | int i => cases r; exact un_neg pins s σ H _ v Q I rx ⟨i, rfl, Post.here (b := V.int (-i)) (show Post X.K X.mg E (Dr X.K) Q θ H (.ok (.p (.int (-i))) M) from h) m (Fz.int _)⟩
    | _ => exact h.elim
theorem op_catX : OpR X (binaryOp .Add) (fun x y H Q => ∃ l b xs zs, x = .ref l ∧ y = .ref b ∧ SqX X.K H l xs ∧ SqX X.K H b zs ∧ xs.length + zs.length ≤ sizeLine ∧ ∀ p, H p = none → Q (.ref p) (upd H p (.lst (xs ++ zs)))) := by
  intro pins s σ H x y v u Q I rx ry h
  obtain ⟨l, b, xs, zs, rfl, rfl, hH, hB, hz, q⟩ := h
  cases rx
  cases ry
  obtain ⟨z, its, n, r, hl, e⟩ := hH.at I
  obtain ⟨z2, its2, n2, r2, hl2, e2⟩ := hB.at I
  refine PySem.P.add_list e e2 ?_ (by rw [List.size_toArray, List.size_toArray]; omega)
  have ea : its.toArray ++ its2.toArray = (its ++ its2).toArray := by simp
  rw [ea]
  exact ⟨.ref _, _, I.lnew (t' := s.toks) (r.append r2) (by rw [List.length_append]; omega), rfl, q _ I.fresh⟩
theorem op_repX : OpR X (binaryOp .Mult) (fun x y H Q => ∃ l k xs, x = .ref l ∧ y = .int k ∧ SqX X.K H l xs ∧ -(2 ^ 63) ≤ k ∧ k < 2 ^ 63 ∧ xs.length * k.toNat ≤ sizeLine ∧
  ∀ p, H p = none → Q (.ref p) (upd H p (.lst (List.replicate k.toNat xs).flatten))) := by
  intro pins s σ H x y v u Q I rx ry h
  obtain ⟨l, k, xs, rfl, rfl, hH, h1, h2, hz, q⟩ := h
  cases rx
  obtain ⟨t, rfl⟩ := ry
  obtain ⟨z, its, n, r, hl, e⟩ := hH.at I
  have hlen : its.toArray.size * k.toNat ≤ sizeLine := by rw [List.size_toArray, ← hl]; exact hz
  have hcap : ¬ its.toArray.size * k.toNat > (2 ^ 63 - 1) / 8 := by
    have : (sizeLine : Nat) ≤ (2 ^ 63 - 1) / 8 := by decide
    omega
  have hfit : ¬ (!Builtin.List.listFitsIndex k) = true := by
    rw [fitsIndex_both h1 h2]
    exact Bool.false_ne_true
  have hlong : ¬ Builtin.List.listTooLong (its.toArray.size * k.toNat) = true := by
    rw [notLongL hlen]
    exact Bool.false_ne_true
  have hnew : List.foldl (fun x1 x2 => x1 ++ x2) #[] (List.replicate (if its.toArray.isEmpty = true then 0 else k.toNat) its.toArray) = (List.replicate k.toNat its).flatten.toArray := by
    have f0 : ∀ m : Nat, List.foldl (fun x1 x2 => x1 ++ x2) #[] (List.replicate m its.toArray) = (List.replicate m its).flatten.toArray := fun m => by
      have := foldl_rep its m []
      rw [List.nil_append] at this
      exact this
    rw [f0]
    cases its with
    | nil => simp
    | cons a r' => rw [if_neg (by simp)]
  refine wpAny_binaryOp_repeat_ref (T := "list") (U := "int") (by decide) ⟨_, e, rfl⟩ (fun s' => typeIs_int s' k t) noFill_list_mul F.fills_int_mul F.slot_int_rmul repeat_list F.slot_int_index.lookup
    (call_meets F.slot_int_rmul (typeIs_int s k t) F.entry_int_rmul (F.args_int_rmul_2 _ _) (int___rmul___int_list k t l its.toArray n)
      ⟨e, rfl, ⟨_, e, rfl⟩, call_meets F.slot_list_mul ⟨_, e, rfl⟩ F.entry_list_mul (F.args_list_mul_2 _ _) (AutoListH.list___mul___list_int_3 l its.toArray n k t hfit hcap hlong) ⟨e, ?_⟩⟩)
  rw [hnew]
  exact ⟨.ref _, _, I.lnew (t' := s.toks) (r.rep k.toNat) (by rw [PyProof.Rows.lm_len_rep_flat, Nat.mul_comm]; exact hz), rfl, q _ I.fresh⟩
theorem frzl_ok {θ : List Addr} {H : Hp} {M : Store} {Q : VK} {vs : List V} {ds : List D} (h : Post X.K X.mg E (Dr X.K) Q θ H (frzl ds M)) (m : SR X.K θ H M) (r : Drs X.K θ H vs ds) :
    vs.length ≤ sizeLine ∧ ∀ p, H p = none → FrzQ Q (.ref p) (upd H p (.lst vs)) := by
  unfold frzl at h
  cases e : pures ds with
  | none => rw [e] at h; exact h.elim
  | some zs =>
    rw [e] at h
    simp only at h
    rw [pures_eq e] at r
    have r2 := FzAll.ofDrs r
    by_cases l : zs.length ≤ sizeLine
    · rw [if_pos l] at h
      exact ⟨by rw [r2.length]; exact l, fun p hp => ⟨p, vs, rfl, upd_same, fun o => new_frz h m r2 hp⟩⟩
    · rw [if_neg l] at h; exact h.elim
theorem zAddL_ok (pins : List (Addr × Obj)) (s : Shared) (σ : L2.St) (H : Hp) (x y : V) (v u : Value) (Q : VK) (I : Inv X pins σ H s) (rx : RelV x v) (ry : RelV y u) (h : rZ2 X E zAddL x y H Q) :
    wpAny (model X.prog X.w) X.A (binaryOp .Add v u) (EP X pins σ Q) X.xe s := by
  obtain ⟨a, b, θ, M, m, ra, rb, h⟩ := h
  unfold zAddL at h
  cases e1 : lstv M a with
  | none => rw [e1] at h; exact h.elim
  | some xs =>
    cases e2 : lstv M b with
    | none => rw [e1, e2] at h; exact h.elim
    | some ys =>
      rw [e1, e2] at h
      simp only at h
      obtain ⟨p, vs, rfl, hp, dp⟩ := lstv_ok m ra e1
      obtain ⟨q, ws, rfl, hq, dq⟩ := lstv_ok m rb e2
      obtain ⟨l, k⟩ := frzl_ok h m (paired_append dp dq)
      rw [List.length_append] at l
      exact thn (op_catX pins s σ H _ _ v u (FrzQ Q) I rx ry ⟨p, q, vs, ws, rfl, rfl, hp, hq, l, k⟩) fun u s1 z => ep_frz z
theorem zAdd_ok : OpR X (binaryOp .Add) (rZ2 X E zAdd) := by
  intro pins s σ H x y v u Q I rx ry h
  obtain ⟨a, b, θ, M, m, ra, rb, h⟩ := h
  have list : ∀ (h : Post X.K X.mg E (Dr X.K) Q θ H (zAddL a b M)), wpAny (model X.prog X.w) X.A (binaryOp .Add v u) (EP X pins σ Q) X.xe s := fun h => zAddL_ok pins s σ H x y v u Q I rx ry ⟨a, b, θ, M, m, ra, rb, h⟩
  unfold zAdd at h
  split at h
  · rename_i i j
    cases ra; cases rb
    exact op_add pins s σ H _ _ v u Q I rx ry ⟨i, j, rfl, rfl, Post.here h m (Fz.int _)⟩
  · rename_i xs ys
    cases ra with
    | tup h1 k1 =>
      cases rb with
      | tup h2 k2 =>
        split at h
        · rename_i l
          have r := FzAll.of (paired_append k1.paired k2.paired)
          refine op_catA pins s σ H _ _ v u Q I rx ry ⟨_, _, _, _, rfl, rfl, h1, h2, by rw [k1.length, k2.length]; exact l, fun e => ?_, fun e e' => ?_, fun e e' p hp => new_tup h m r hp⟩
          · subst e
            cases k1
            exact Post.here h m (Fz.tup h2 k2)
          · subst e'
            cases k2
            rw [List.append_nil] at h
            exact Post.here h m (Fz.tup h1 k1)
        · exact h.elim
  · exact list h
theorem zSub_ok : OpR X (binaryOp .Sub) (rZ2 X E zSub) := by
  intro pins s σ H x y v u Q I rx ry h
  obtain ⟨a, b, θ, M, m, ra, rb, h⟩ := h
  unfold zSub at h
  split at h
  · rename_i i j
    cases ra; cases rb
    exact op_sub pins s σ H _ _ v u Q I rx ry ⟨i, j, rfl, rfl, Post.here h m (Fz.int _)⟩
  · exact h.elim
theorem flat_rep {R : V → D → Prop} : ∀ (k : Nat) {vs : List V} {ds : List D}, Paired R vs ds → Paired R (List.replicate k vs).flatten (List.replicate k ds).flatten
  | 0, _, _, _ => .nil
  | k + 1, _, _, h => by
    rw [List.replicate_succ, List.replicate_succ, List.flatten_cons, List.flatten_cons]
    exact paired_append h (flat_rep k h)
theorem zMul_ok : OpR X (binaryOp .Mult) (rZ2 X E zMul) := by
  intro pins s σ H x y v u Q I rx ry h
  obtain ⟨a, b, θ, M, m, ra, rb, h⟩ := h
  unfold zMul at h
  split at h
  · rename_i i j
    split at h
    · rename_i c
      cases ra; cases rb
      exact op_mul pins s σ H _ _ v u Q I rx ry ⟨i, j, rfl, rfl, c, Post.here h m (Fz.int _)⟩
    · exact h.elim
  · rename_i k _
    cases rb
    cases e : lstv M a with
    | none => rw [e] at h; exact h.elim
    | some xs =>
      rw [e] at h
      simp only at h
      split at h
      · rename_i c
        obtain ⟨p, vs, rfl, hp, dp⟩ := lstv_ok m ra e
        obtain ⟨l, kk⟩ := frzl_ok h m (flat_rep k.toNat dp)
        exact thn (op_repX pins s σ H _ _ v u (FrzQ Q) I rx ry ⟨p, k, vs, rfl, rfl, hp, c.1, c.2.1, by rw [Paired.length dp]; exact c.2.2, kk⟩) fun u s1 z => ep_frz z
      · exact h.elim
  · exact h.elim
theorem zMod_ok : OpR X (binaryOp .Mod) (rZ2 X E zMod) := by
  intro pins s σ H x y v u Q I rx ry h
  obtain ⟨a, b, θ, M, m, ra, rb, h⟩ := h
  unfold zMod at h
  split at h
  · rename_i i j
    split at h
    · rename_i c
      cases ra; cases rb
      exact op_mod pins s σ H _ _ v u Q I rx ry ⟨i, j, rfl, rfl, c, Post.here h m (Fz.int _)⟩
    · exact h.elim
  · exact h.elim
theorem zDiv_ok : OpR X (binaryOp .FloorDiv) (rZ2 X E zDiv) := by
  intro pins s σ H x y v u Q I rx ry h
  obtain ⟨a, b, θ, M, m, ra, rb, h⟩ := h
  unfold zDiv at h
  split at h
  · rename_i i j
    split at h
    · rename_i c
      cases ra; cases rb
      exact op_fdiv pins s σ H _ _ v u Q I rx ry ⟨i, j, rfl, rfl, c, Post.here h m (Fz.int _)⟩
    · exact h.elim
  · exact h.elim
theorem zPow_ok : OpR X (binaryOp .Pow) (rZ2 X E zPow) := by
  intro pins s σ H x y v u Q I rx ry h
  obtain ⟨a, b, θ, M, m, ra, rb, h⟩ := h
  unfold zPow at h
  split at h
  · rename_i i j
    split at h
    · rename_i c
      cases ra; cases rb
      exact op_pow pins s σ H _ _ v u Q I rx ry ⟨i, j, rfl, rfl, c, Post.here h m (Fz.int _)⟩
    · exact h.elim
  · exact h.elim
end

/-! ### comparisons -/
def zcmpI (f : Int → Int → Bool) (a b : D) (M : Store) : Out D := match a, b with
  | .p (.int i), .p (.int j) => .ok (.p (.bool (f i j))) M
  | _, _ => .stuck
abbrev zLt := zcmpI fun i j => decide (i < j)
abbrev zLe := zcmpI fun i j => decide (i ≤ j)
abbrev zGt := zcmpI fun i j => decide (j < i)
abbrev zGe := zcmpI fun i j => decide (j ≤ i)
/-- == of data -/
def peq : P → P → Option Bool
  | .int i, .int j => some (decide (i = j))
  | .str x, .str y => some (decide (x = y))
  | .none, .none => some true
  | x, y => if SeqAt.shaped x = true ∧ SeqAt.shaped y = true then some (PyData.eqv x y) else none
def zEq (a b : D) (M : Store) : Out D := match snap 6 M a, snap 6 M b with
  | some x, some y => match peq x y with
    | some r => .ok (.p (.bool r)) M
    | none => .stuck
  | _, _ => .stuck
def zNe (a b : D) (M : Store) : Out D := match snap 6 M a, snap 6 M b with
  | some x, some y => match peq x y with
    | some r => .ok (.p (.bool (!r))) M
    | none => .stuck
  | _, _ => .stuck
theorem sh_int (i : Int) : SeqAt.shaped (.int i) = true := by simp [SeqAt.shaped, PyData.canLay0, PyData.depth]
theorem peq_cases {x y : P} {r : Bool} (h : peq x y = some r) : (SeqAt.shaped x = true ∧ SeqAt.shaped y = true ∧ r = PyData.eqv x y) ∨ (∃ i j, x = .int i ∧ y = .int j ∧ r = decide (i = j)) ∨ (∃ i j, x = .str i ∧ y = .str j ∧ r = decide (i = j)) ∨ (x = .none ∧ y = .none ∧ r = true) := by
  unfold peq at h
  split at h
  · cases h; exact .inr (.inl ⟨_, _, rfl, rfl, rfl⟩)
  · cases h; exact .inr (.inr (.inl ⟨_, _, rfl, rfl, rfl⟩))
  · cases h; exact .inr (.inr (.inr ⟨rfl, rfl, rfl⟩))
  · split at h
    · rename_i c
      cases h
      exact .inl ⟨c.1, c.2, rfl⟩
    · cases h
/-- x in c -/
def zin (neg : Bool) (a b : D) (M : Store) : Out D := match snap 6 M a, snap 6 M b with
  | some x, some (.list ys) => if SeqAt.shaped x = true ∧ SeqAt.shaped (.list ys) = true then .ok (.p (.bool (neg ^^ ys.any fun z => PyData.eqv z x))) M else .stuck
  | some x, some (.tuple ys) => if SeqAt.shaped x = true ∧ SeqAt.shaped (.tuple ys) = true then .ok (.p (.bool (neg ^^ ys.any fun z => PyData.eqv z x))) M else .stuck
  | _, _ => .stuck
abbrev zIn := zin false
abbrev zNotIn := zin true
def zIs (neg : Bool) (a b : D) (M : Store) : Out D := match b with
  | .p .none => match a with
    | .p .none => .ok (.p (.bool (neg ^^ true))) M
    | _ => .ok (.p (.bool (neg ^^ false))) M
  | .p (.bool k) => match a with
    | .p (.bool j) => .ok (.p (.bool (neg ^^ decide (j = k)))) M
    | _ => .stuck
  | _ => .stuck
section
variable {X : Cx} {E : XK}
theorem cmpI_ok {op : CmpOp} {f : Int → Int → Bool} (h0 : OpR X (compareOp op) (rI0 fun i j => .bl (f i j))) : OpR X (compareOp op) (rZ2 X E (zcmpI f)) := by
  intro pins s σ H x y v u Q I rx ry h
  obtain ⟨a, b, θ, M, m, ra, rb, h⟩ := h
  unfold zcmpI at h
  split at h
  · rename_i i j
    cases ra; cases rb
    exact h0 pins s σ H _ _ v u Q I rx ry ⟨i, j, rfl, rfl, Post.here h m (Fz.bl _)⟩
  · exact h.elim
theorem zLt_ok : OpR X (compareOp .Lt) (rZ2 X E zLt) := cmpI_ok op_lt
theorem zLe_ok : OpR X (compareOp .LtE) (rZ2 X E zLe) := cmpI_ok op_le
theorem zGt_ok : OpR X (compareOp .Gt) (rZ2 X E zGt) := cmpI_ok op_gt
theorem zGe_ok : OpR X (compareOp .GtE) (rZ2 X E zGe) := cmpI_ok op_ge
theorem zEq_ok (zx : ZX X) : OpR X (compareOp .Eq) (rZ2 X E zEq) := by
  intro pins s σ H x y v u Q I rx ry h
  obtain ⟨a, b, θ, M, m, ra, rb, h⟩ := h
  unfold zEq at h
  split at h
  · rename_i d e h1 h2
    split at h
    · rename_i r h3
      have d1 := snap_dp m _ _ _ _ ra h1
      have d2 := snap_dp m _ _ _ _ rb h2
      have q : Q (.bl (r)) H := Post.here h m (Fz.bl _)
      rcases peq_cases h3 with ⟨k1, k2, rfl⟩ | ⟨i, j, rfl, rfl, rfl⟩ | ⟨i, j, rfl, rfl, rfl⟩ | ⟨rfl, rfl, rfl⟩
      · exact op_eqD (by have := zx.hu; omega) pins s σ H _ _ v u Q I rx ry ⟨d, e, d1, d2, k1, k2, q⟩
      · cases d1; cases d2
        exact op_eq pins s σ H _ _ v u Q I rx ry ⟨rfl, by simpa using q⟩
      · cases d1; cases d2
        exact op_eq pins s σ H _ _ v u Q I rx ry ⟨rfl, by simpa using q⟩
      · cases d1; cases d2
        exact op_eq pins s σ H _ _ v u Q I rx ry ⟨rfl, by simpa using q⟩
    · exact h.elim
  · exact h.elim
theorem zNe_ok (zx : ZX X) : OpR X (compareOp .NotEq) (rZ2 X E zNe) := by
  intro pins s σ H x y v u Q I rx ry h
  obtain ⟨a, b, θ, M, m, ra, rb, h⟩ := h
  unfold zNe at h
  split at h
  · rename_i d e h1 h2
    split at h
    · rename_i r h3
      have d1 := snap_dp m _ _ _ _ ra h1
      have d2 := snap_dp m _ _ _ _ rb h2
      have q : Q (.bl (!r)) H := Post.here h m (Fz.bl _)
      rcases peq_cases h3 with ⟨k1, k2, rfl⟩ | ⟨i, j, rfl, rfl, rfl⟩ | ⟨i, j, rfl, rfl, rfl⟩ | ⟨rfl, rfl, rfl⟩
      · exact op_neD (by have := zx.hu; omega) pins s σ H _ _ v u Q I rx ry ⟨d, e, d1, d2, k1, k2, q⟩
      · cases d1; cases d2
        exact op_ne pins s σ H _ _ v u Q I rx ry ⟨rfl, by simpa using q⟩
      · cases d1; cases d2
        exact op_ne pins s σ H _ _ v u Q I rx ry ⟨rfl, by simpa using q⟩
      · cases d1; cases d2
        exact op_ne pins s σ H _ _ v u Q I rx ry ⟨rfl, by simpa using q⟩
    · exact h.elim
  · exact h.elim
theorem zIn_ok (zx : ZX X) : OpR X (compareOp .In) (rZ2 X E zIn) := by
  intro pins s σ H x y v u Q I rx ry h
  obtain ⟨a, b, θ, M, m, ra, rb, h⟩ := h
  have hu := zx.hu
  unfold zIn zin at h
  split at h
  · rename_i d ds h1 h2
    split at h
    · rename_i c
      rw [Bool.false_xor] at h
      exact op_inD (by omega) pins s σ H _ _ v u Q I rx ry ⟨d, ds, snap_dp m _ _ _ _ ra h1, snap_dp m _ _ _ _ rb h2, c.1, c.2, Post.here h m (Fz.bl _)⟩
    · exact h.elim
  · rename_i d ds h1 h2
    split at h
    · rename_i c
      rw [Bool.false_xor] at h
      obtain ⟨as, r1⟩ := Dp.reads I d x v (snap_dp m _ _ _ _ ra h1) rx
      obtain ⟨bs, r2⟩ := Dp.reads I (.tuple ds) y u (snap_dp m _ _ _ _ rb h2) ry
      exact SeqAt.in_tuple_reads r2 r1 (SeqAt.canLay_of_shaped c.2) (SeqAt.canLay_of_shaped c.1) (room_in_shaped c.1 (by omega)) ⟨.bl _, H, I, rfl, Post.here h m (Fz.bl _)⟩
    · exact h.elim
  · exact h.elim
theorem zNotIn_ok (zx : ZX X) : OpR X (compareOp .NotIn) (rZ2 X E zNotIn) := by
  intro pins s σ H x y v u Q I rx ry h
  obtain ⟨a, b, θ, M, m, ra, rb, h⟩ := h
  have hu := zx.hu
  unfold zNotIn zin at h
  split at h
  · rename_i d ds h1 h2
    split at h
    · rename_i c
      rw [Bool.true_xor] at h
      exact op_notInD (by omega) pins s σ H _ _ v u Q I rx ry ⟨d, ds, snap_dp m _ _ _ _ ra h1, snap_dp m _ _ _ _ rb h2, c.1, c.2, Post.here h m (Fz.bl _)⟩
    · exact h.elim
  · rename_i d ds h1 h2
    split at h
    · rename_i c
      rw [Bool.true_xor] at h
      obtain ⟨as, r1⟩ := Dp.reads I d x v (snap_dp m _ _ _ _ ra h1) rx
      obtain ⟨bs, r2⟩ := Dp.reads I (.tuple ds) y u (snap_dp m _ _ _ _ rb h2) ry
      exact SeqAt.notIn_tuple_reads r2 r1 (SeqAt.canLay_of_shaped c.2) (SeqAt.canLay_of_shaped c.1) (room_in_shaped c.1 (by omega)) ⟨.bl _, H, I, rfl, Post.here h m (Fz.bl _)⟩
    · exact h.elim
  · exact h.elim
theorem fz_none {K : PySem.W.Frag} {H : Hp} {v : V} {d : P} (r : Fz K H v d) : decide (v = .non) = (match d with | .none => true | _ => false) := by
  cases r <;> simp
theorem is_cases {neg : Bool} {a b : D} {M : Store} {θ : List Addr} {H : Hp} {x y : V} {Q : VK} (m : SR X.K θ H M) (ra : Dr X.K θ H x a) (rb : Dr X.K θ H y b) (h : Post X.K X.mg E (Dr X.K) Q θ H (zIs neg a b M)) :
    (y = .non ∧ Q (.bl (neg ^^ decide (x = .non))) H) ∨ (∃ j k, x = .bl j ∧ y = .bl k ∧ Q (.bl (neg ^^ decide (j = k))) H) := by
  unfold zIs at h
  split at h
  · cases rb
    refine .inl ⟨rfl, ?_⟩
    cases a with
    | ref i =>
      obtain ⟨p, _, rfl⟩ := ra
      exact Post.here (show Post X.K X.mg E (Dr X.K) Q θ H (.ok (.p (.bool (neg ^^ decide (V.ref p = .non)))) M) from h) m (Fz.bl _)
    | p d =>
      rw [fz_none ra]
      cases d with
      | none => exact Post.here (show Post X.K X.mg E (Dr X.K) Q θ H (.ok (.p (.bool (neg ^^ true))) M) from h) m (Fz.bl _)
      | _ => exact Post.here (show Post X.K X.mg E (Dr X.K) Q θ H (.ok (.p (.bool (neg ^^ false))) M) from h) m (Fz.bl _)
  · split at h
    · cases ra; cases rb
      exact .inr ⟨_, _, rfl, rfl, Post.here h m (Fz.bl _)⟩
    · exact h.elim
  · exact h.elim
theorem zIs_ok : OpR X (compareOp .Is) (rZ2 X E (zIs false)) := by
  intro pins s σ H x y v u Q I rx ry h
  obtain ⟨a, b, θ, M, m, ra, rb, h⟩ := h
  rcases is_cases m ra rb h with ⟨e, q⟩ | ⟨j, k, e1, e2, q⟩
  · rw [Bool.false_xor] at q
    exact op_isN pins s σ H _ _ v u Q I rx ry ⟨e, q⟩
  · rw [Bool.false_xor] at q
    exact op_is_bl pins s σ H _ _ v u Q I rx ry ⟨j, k, e1, e2, q⟩
theorem zIsNot_ok : OpR X (compareOp .IsNot) (rZ2 X E (zIs true)) := by
  intro pins s σ H x y v u Q I rx ry h
  obtain ⟨a, b, θ, M, m, ra, rb, h⟩ := h
  rcases is_cases m ra rb h with ⟨e, q⟩ | ⟨j, k, e1, e2, q⟩
  · rw [Bool.true_xor] at q
    exact op_notN pins s σ H _ _ v u Q I rx ry ⟨e, q⟩
  · rw [Bool.true_xor] at q
    exact op_isnot_bl pins s σ H _ _ v u Q I rx ry ⟨j, k, e1, e2, q⟩
end

/-! ### subscripts -/
def zIx (a b : D) (M : Store) : Out D := match b with
  | .p (.int i) => match a with
    | .p (.tuple xs) => match atI xs i with
      | some x => .ok (.p x) M
      | none => .stuck
    | a => match lstv M a with
      | some ds => match atI ds i with
        | some d => .ok d M
        | none => .stuck
      | none => .stuck
  | _ => .stuck
theorem atI_paired {α β : Type} {R : α → β → Prop} {l : List α} {m : List β} (h : Paired R l m) {i : Int} {b : β} (e : atI m i = some b) : ∃ a, atI l i = some a ∧ R a b := by
  unfold atI at e ⊢
  rw [Paired.length h]
  cases q : ixN m.length i with
  | none => rw [q] at e; cases e
  | some j =>
    rw [q] at e
    obtain ⟨a, h1, h2⟩ := paired_at h (i := j) (b := b) e
    exact ⟨a, h1, h2⟩
section
variable {X : Cx} {E : XK} {a b : Expr} {ca cb : ZC} {pos : Pos}
theorem zIx_ok : IxR X (rZ2 X E zIx) := by
  intro value slice pins s σ H x y v u Q I rx ry h hs
  obtain ⟨d, e, θ, M, m, ra, rb, h⟩ := h
  unfold zIx at h
  split at h
  · rename_i i
    cases rb
    split at h
    · rename_i xs
      split at h
      · rename_i z ez
        cases ra with
        | tup h1 k1 =>
          obtain ⟨w, ew, rw'⟩ := atI_paired k1.paired ez
          exact ix_tup value slice pins s σ H _ _ v u Q I rx ry ⟨_, _, i, w, rfl, rfl, h1, ew, Post.here (show Post X.K X.mg E (Dr X.K) Q θ H (.ok (.p z) M) from h) m rw'⟩ hs
      · exact h.elim
    · split at h
      · rename_i ds e1
        split at h
        · rename_i z ez
          obtain ⟨p, vs, rfl, hp, dp⟩ := lstv_ok m ra e1
          obtain ⟨w, ew, rw'⟩ := atI_paired dp ez
          exact ix_list value slice pins s σ H _ _ v u Q I rx ry ⟨_, _, i, w, rfl, rfl, hp.sq, ew, Post.here h m rw'⟩ hs
        · exact h.elim
      · exact h.elim
  · exact h.elim
theorem ZE.ix (ha : ZE X E a ca) (hb : ZE X E b cb) (hs : PlainIx b := by exact fun _ _ => rfl) : ZE X E (.Subscript a b pos) (z2 zIx ca cb) := by
  obtain ⟨ta, pa, qa⟩ := ha
  obtain ⟨tb, pb, qb⟩ := hb
  exact ⟨_, pe_ix zIx_ok pa pb hs, fun σ H θ sl M Q hs hm h => two qa qb hs hm h⟩
/-! ### slices -/
def cutG {α : Type} (xs : List α) (lo hi : Option Int) : List α := (xs.drop (HT.sIx xs.length 0 lo)).take (HT.sIx xs.length xs.length hi - HT.sIx xs.length 0 lo)
def zSl (d : D) (lo hi : Option Int) (M : Store) : Out D := match d with
  | .p (.tuple xs) => .ok (.p (.tuple (cutG xs lo hi))) M
  | d => match lstv M d with
    | some ds => frzl (cutG ds lo hi) M
    | none => .stuck
abbrev ZO := Sl → Store → Out (Option Int)
def EqO : List Addr → Hp → Option Int → Option Int → Prop := fun _ _ b a => b = a
def ZP (X : Cx) (E : XK) (e : Option Expr) (c : ZO) : Prop := ∃ t, PO X e t ∧ ∀ σ H θ sl M Q, SV X.K θ H σ sl → SR X.K θ H M → Post X.K X.mg E EqO Q θ H (c sl M) → t σ H Q
def zno : ZO := fun _ M => .ok none M
def zpart (a : ZC) : ZO := fun sl M => (a sl M).bind fun d M1 => match d with
  | .p (.int i) => .ok (some i) M1
  | _ => .stuck
theorem ZP.none : ZP X E Option.none zno := ⟨_, po_none, fun σ H θ sl M Q hs hm h => Post.here (show Post X.K X.mg E EqO Q θ H (.ok Option.none M) from h) hm rfl⟩
theorem ZP.some (ha : ZE X E a ca) : ZP X E (Option.some a) (zpart ca) := by
  obtain ⟨ta, pa, qa⟩ := ha
  refine ⟨_, po_some pa, fun σ H θ sl M Q hs hm h => qa σ H θ sl M _ hs hm (Post.bind h fun x M1 v H1 θ1 g1 m1 r1 h1 => ?_)⟩
  cases x with
  | ref i => exact h1.elim
  | p y =>
    cases y with
    | int i => cases r1; exact ⟨i, rfl, Post.here (show Post X.K X.mg E EqO Q θ1 H1 (.ok (Option.some i) M1) from h1) m1 rfl⟩
    | _ => exact h1.elim
def zslice (a : ZC) (l h : ZO) : ZC := fun sl M => (a sl M).bind fun d M1 => (l sl M1).bind fun lo M2 => (h sl M2).bind fun hi M3 => zSl d lo hi M3
theorem paired_cut {α β : Type} {R : α → β → Prop} {l : List α} {m : List β} (h : Paired R l m) (lo hi : Option Int) : Paired R (cutG l lo hi) (cutG m lo hi) := by
  unfold cutG
  rw [Paired.length h]
  exact paired_take _ (paired_drop _ h)
def rZsl (X : Cx) (E : XK) : V → Option Int → Option Int → Hp → VK → Prop := fun x lo hi H Q => ∃ d θ M, SR X.K θ H M ∧ Dr X.K θ H x d ∧ Post X.K X.mg E (Dr X.K) Q θ H (zSl d lo hi M)
theorem zSl_ok : SlR X (rZsl X E) := by
  intro pins s σ H x v vl vu lo hi sl Q I rx hs pl pu h
  obtain ⟨d, θ, M, m, ra, h⟩ := h
  unfold zSl at h
  split at h
  · rename_i xs
    cases ra with
    | tup h1 k1 =>
      have k2 := FzAll.of (paired_cut k1.paired lo hi)
      refine sl_tupA pins s σ H _ v vl vu lo hi sl Q I rx hs pl pu ⟨_, _, rfl, h1, fun w => ?_, fun w p hp => new_tup h m k2 hp⟩
      have e : cutG xs lo hi = xs := by
        unfold cutG
        rw [← k1.length, w.1, w.2, List.drop_zero, k1.length, Nat.sub_zero, List.take_length]
      rw [e] at h
      exact Post.here h m (Fz.tup h1 k1)
  · split at h
    · rename_i ds e1
      obtain ⟨p, vs, rfl, hp, dp⟩ := lstv_ok m ra e1
      obtain ⟨l, k⟩ := frzl_ok h m (paired_cut dp lo hi)
      obtain ⟨T, id, q1, q2, q3⟩ := sl_list pins s σ H _ v vl vu lo hi sl (FrzQ Q) I rx hs pl pu ⟨p, vs, rfl, hp.sq, k⟩
      exact ⟨T, id, q1, q2, thn q3 fun u s1 z => ep_frz z⟩
    · exact h.elim
theorem ZE.sl {lo hi : Option Expr} {cl ch : ZO} {p2 : Pos} (ha : ZE X E a ca) (hl : ZP X E lo cl) (hh : ZP X E hi ch) : ZE X E (.Subscript a (.Slice lo hi Option.none p2) pos) (zslice ca cl ch) := by
  obtain ⟨ta, pa, qa⟩ := ha
  obtain ⟨tl, pl, ql⟩ := hl
  obtain ⟨th, ph, qh⟩ := hh
  refine ⟨_, pe_slice (zSl_ok (E := E)) pa pl ph, fun σ H θ sl M Q hs hm h => qa σ H θ sl M _ hs hm (Post.bind h fun x M1 v H1 θ1 g1 m1 r1 h1 => ?_)⟩
  refine ql σ H1 θ1 sl M1 _ (hs.go g1) m1 (Post.bind h1 fun l M2 l' H2 θ2 g2 m2 r2 h2 => ?_)
  cases r2
  refine qh σ H2 θ2 sl M2 _ ((hs.go g1).go g2) m2 (Post.bind h2 fun l M3 l' H3 θ3 g3 m3 r3 h3 => ?_)
  cases r3
  exact ⟨x, θ3, M3, m3, (r1.go g2).go g3, h3⟩
end
end Z

/-! Z: built-ins called by name; methods of lists. -/
namespace Z
open PySem PySem.Spec PyProof.Rows L2
section
variable {X : Cx} {E : XK} {e a b c o : Expr} {es : List Expr} {pos p apos cpos : Pos} {ca cb cc co : ZC} {cs : ZCs}
/-! ### the forms of calls -/
theorem ZE.callB {x : Str} {id : String} {g : List D → Store → Out D} (hc : CallR X (.builtin id) (rZs X E g)) (hg : Gl X x) (hm : X.mg x = none) (hv : bootBuiltins x = some (.builtin id)) (ha : ZA X E (e :: es) cs)
    (hn : x ≠ "__name__" := by decide) (hdb : (x == ("__debug__" : Str)) = false := by decide)
    (he : starEach (e :: es) X.env = (false, eval e X.env) :: starEach es X.env := by rfl) (hpl : (backTo pos (starEach es X.env)).any (·.1) = false := by rfl) : ZE X E (.Call (.Name x p) (e :: es) [] pos) (zs g cs) := by
  obtain ⟨t, pa, q⟩ := ha
  exact ⟨_, pe_callB hc hg hm hv pa hn hdb he hpl, fun σ H θ sl M Q hs hm h => q σ H θ sl M _ hs hm (Post.bind h fun ds M1 vs H1 θ1 g1 m1 r1 h1 => ⟨ds, θ1, M1, m1, r1, h1⟩)⟩
theorem ZE.callTy {x : Str} {id : String} {g : List D → Store → Out D} (hc : CallR X (.type id) (rZs X E g)) (hg : Gl X x) (hm : X.mg x = none) (hv : bootBuiltins x = some (.type id)) (ha : ZA X E (e :: es) cs)
    (hn : x ≠ "__name__" := by decide) (hdb : (x == ("__debug__" : Str)) = false := by decide)
    (he : starEach (e :: es) X.env = (false, eval e X.env) :: starEach es X.env := by rfl) (hpl : (backTo pos (starEach es X.env)).any (·.1) = false := by rfl) : ZE X E (.Call (.Name x p) (e :: es) [] pos) (zs g cs) := by
  obtain ⟨t, pa, q⟩ := ha
  exact ⟨_, pe_callTy hc hg hm hv pa hn hdb he hpl, fun σ H θ sl M Q hs hm h => q σ H θ sl M _ hs hm (Post.bind h fun ds M1 vs H1 θ1 g1 m1 r1 h1 => ⟨ds, θ1, M1, m1, r1, h1⟩)⟩
/-- *e in a list of arguments, a display -/
def zstar (a : ZC) (r : ZCs) : ZCs := fun sl M => (a sl M).bind fun x M1 => match x with
  | .p (.tuple xs) => (r sl M1).bind fun ys M2 => .ok (xs.map .p ++ ys) M2
  | x => match lstv M1 x with
    | some xs => (r sl M1).bind fun ys M2 => .ok (xs ++ ys) M2
    | none => .stuck
theorem ZA.star (ha : ZE X E a ca) (hr : ZA X E es cs) (hs : starEach (.Starred a p :: es) X.env = (true, eval a X.env) :: starEach es X.env := by rfl) : ZA X E (.Starred a p :: es) (zstar ca cs) := by
  obtain ⟨t, pa, q⟩ := ha
  obtain ⟨u, pr, qr⟩ := hr
  refine ⟨_, StX.pa_star pa pr hs, fun σ H θ sl M Q hs hm h => q σ H θ sl M _ hs hm (Post.bind h fun x M1 v H1 θ1 g1 m1 r1 h1 => ?_)⟩
  have fin : ∀ {ws : List V} {xs : List D}, Drs X.K θ1 H1 ws xs → Post X.K X.mg E (Drs X.K) Q θ1 H1 ((cs sl M1).bind fun ys M2 => .ok (xs ++ ys) M2) → u σ H1 fun ys H2 => Q (ws ++ ys) H2 := fun {ws xs} r h =>
    qr σ H1 θ1 sl M1 _ (hs.go g1) m1 (Post.bind h fun ys M2 vs H2 θ2 g2 m2 r2 h2 => Post.here (b := ws ++ vs) (show Post X.K X.mg E (Drs X.K) Q θ2 H2 (.ok (xs ++ ys) M2) from h2) m2 (paired_append (Drs.go g2 r) r2))
  split at h1
  · rename_i xs
    cases r1 with
    | tup k1 k2 => exact ⟨_, _, rfl, .inl k1, fin k2.drs h1⟩
  · split at h1
    · rename_i xs e1
      obtain ⟨ad, vs, rfl, hp, dp⟩ := lstv_ok m1 r1 e1
      exact ⟨_, _, rfl, .inr hp.sq, fin dp h1⟩
    · exact h1.elim
end

/-! ### len, int, abs, min, max, sum -/
def zLen (ds : List D) (M : Store) : Out D := match ds with
  | [d] => match d with
    | .p (.tuple xs) => .ok (.p (.int xs.length)) M
    | .p (.str x) => if x.length ≤ sizeLine then .ok (.p (.int x.length)) M else .stuck
    | d => match lstv M d with
      | some xs => .ok (.p (.int xs.length)) M
      | none => .stuck
  | _ => .stuck
def zInt (ds : List D) (M : Store) : Out D := match ds with
  | [.p (.int i)] => .ok (.p (.int i)) M
  | [.p (.bool b)] => .ok (.p (.int (if b then 1 else 0))) M
  | _ => .stuck
def zAbs (ds : List D) (M : Store) : Out D := match ds with
  | [.p (.int i)] => .ok (.p (.int (if i < 0 then -i else i))) M
  | _ => .stuck
def intsOf : List D → Option (List Int)
  | [] => some []
  | .p (.int i) :: r => (intsOf r).map (i :: ·)
  | _ :: _ => none
def boolsOf : List D → Option (List Bool)
  | [] => some []
  | .p (.bool i) :: r => (boolsOf r).map (i :: ·)
  | _ :: _ => none
theorem intsOf_eq : ∀ {ds : List D} {ns : List Int}, intsOf ds = some ns → ds = ns.map fun i => .p (.int i)
  | [], ns, h => by cases h; rfl
  | .p (.int i) :: r, ns, h => by
    unfold intsOf at h
    cases q : intsOf r with
    | none => rw [q] at h; cases h
    | some ms => rw [q] at h; cases h; rw [intsOf_eq q]; rfl
  | .ref _ :: _, _, h => by cases h
  | .p .none :: _, _, h => by cases h
  | .p (.bool _) :: _, _, h => by cases h
  | .p (.str _) :: _, _, h => by cases h
  | .p (.list _) :: _, _, h => by cases h
  | .p (.tuple _) :: _, _, h => by cases h
  | .p (.dict _) :: _, _, h => by cases h
theorem boolsOf_eq : ∀ {ds : List D} {ns : List Bool}, boolsOf ds = some ns → ds = ns.map fun i => .p (.bool i)
  | [], ns, h => by cases h; rfl
  | .p (.bool i) :: r, ns, h => by
    unfold boolsOf at h
    cases q : boolsOf r with
    | none => rw [q] at h; cases h
    | some ms => rw [q] at h; cases h; rw [boolsOf_eq q]; rfl
  | .ref _ :: _, _, h => by cases h
  | .p .none :: _, _, h => by cases h
  | .p (.int _) :: _, _, h => by cases h
  | .p (.str _) :: _, _, h => by cases h
  | .p (.list _) :: _, _, h => by cases h
  | .p (.tuple _) :: _, _, h => by cases h
  | .p (.dict _) :: _, _, h => by cases h
@[simp] theorem intsOf_map : ∀ ns : List Int, intsOf (ns.map fun i => .p (.int i)) = some ns
  | [] => rfl
  | n :: ns => by rw [List.map_cons, intsOf, intsOf_map ns]; rfl
@[simp] theorem boolsOf_map : ∀ ns : List Bool, boolsOf (ns.map fun i => .p (.bool i)) = some ns
  | [] => rfl
  | n :: ns => by rw [List.map_cons, boolsOf, boolsOf_map ns]; rfl
def zMax (ds : List D) (M : Store) : Out D := match ds with
  | [.p (.int i), .p (.int j)] => .ok (.p (.int (max i j))) M
  | [.p (.tuple xs)] => match intsOf (xs.map .p) with
    | some (n :: ns) => .ok (.p (.int (ns.foldl max n))) M
    | _ => .stuck
  | [l] => match lstv M l with
    | some xs => match intsOf xs with
      | some (n :: ns) => .ok (.p (.int (ns.foldl max n))) M
      | _ => .stuck
    | none => .stuck
  | _ => .stuck
def zMin (ds : List D) (M : Store) : Out D := match ds with
  | [.p (.int i), .p (.int j)] => .ok (.p (.int (min i j))) M
  | [l] => match lstv M l with
    | some xs => match intsOf xs with
      | some (n :: ns) => .ok (.p (.int (ns.foldl min n))) M
      | _ => .stuck
    | none => .stuck
  | _ => .stuck
def zSum (ds : List D) (M : Store) : Out D := match ds with
  | [l] => match lstv M l with
    | some xs => match intsOf xs with
      | some ns => .ok (.p (.int ns.sum)) M
      | none => .stuck
    | none => .stuck
  | _ => .stuck
def zAny (ds : List D) (M : Store) : Out D := match ds with
  | [l] => match lstv M l with
    | some xs => match boolsOf xs with
      | some ns => .ok (.p (.bool (ns.any id))) M
      | none => .stuck
    | none => .stuck
  | _ => .stuck
def zAll (ds : List D) (M : Store) : Out D := match ds with
  | [l] => match lstv M l with
    | some xs => match boolsOf xs with
      | some ns => .ok (.p (.bool (ns.all id))) M
      | none => .stuck
    | none => .stuck
  | _ => .stuck
theorem foldl_max_ge : ∀ (ns : List Int) (n : Int), n ≤ ns.foldl max n ∧ ∀ y ∈ ns, y ≤ ns.foldl max n
  | [], n => ⟨Int.le_refl _, fun _ h => nomatch h⟩
  | m :: ns, n => by
    obtain ⟨h1, h2⟩ := foldl_max_ge ns (max n m)
    rw [List.foldl_cons]
    refine ⟨by omega, fun y hy => ?_⟩
    rcases List.mem_cons.mp hy with rfl | hy
    · omega
    · exact h2 y hy
theorem foldl_max_mem : ∀ (ns : List Int) (n : Int), ns.foldl max n = n ∨ ns.foldl max n ∈ ns
  | [], n => .inl rfl
  | m :: ns, n => by
    rw [List.foldl_cons]
    rcases foldl_max_mem ns (max n m) with h | h
    · rw [h]
      rcases (by omega : max n m = n ∨ max n m = m) with e | e
      · exact .inl e
      · rw [e]; exact .inr List.mem_cons_self
    · exact .inr (List.mem_cons_of_mem _ h)
theorem foldl_min_le : ∀ (ns : List Int) (n : Int), ns.foldl min n ≤ n ∧ ∀ y ∈ ns, ns.foldl min n ≤ y
  | [], n => ⟨Int.le_refl _, fun _ h => nomatch h⟩
  | m :: ns, n => by
    obtain ⟨h1, h2⟩ := foldl_min_le ns (min n m)
    rw [List.foldl_cons]
    refine ⟨by omega, fun y hy => ?_⟩
    rcases List.mem_cons.mp hy with rfl | hy
    · omega
    · exact h2 y hy
theorem foldl_min_mem : ∀ (ns : List Int) (n : Int), ns.foldl min n = n ∨ ns.foldl min n ∈ ns
  | [], n => .inl rfl
  | m :: ns, n => by
    rw [List.foldl_cons]
    rcases foldl_min_mem ns (min n m) with h | h
    · rw [h]
      rcases (by omega : min n m = n ∨ min n m = m) with e | e
      · exact .inl e
      · rw [e]; exact .inr List.mem_cons_self
    · exact .inr (List.mem_cons_of_mem _ h)
theorem max_only {ns : List Int} {n m : Int} (h1 : m ∈ n :: ns) (h2 : ∀ y, y ∈ n :: ns → y ≤ m) : m = ns.foldl max n := by
  obtain ⟨a, b⟩ := foldl_max_ge ns n
  have c : ns.foldl max n ∈ n :: ns := by
    rcases foldl_max_mem ns n with h | h
    · rw [h]; exact List.mem_cons_self
    · exact List.mem_cons_of_mem _ h
  have d := h2 _ c
  rcases List.mem_cons.mp h1 with rfl | h
  · omega
  · have := b m h; omega
theorem min_only {ns : List Int} {n m : Int} (h1 : m ∈ n :: ns) (h2 : ∀ y, y ∈ n :: ns → m ≤ y) : m = ns.foldl min n := by
  obtain ⟨a, b⟩ := foldl_min_le ns n
  have c : ns.foldl min n ∈ n :: ns := by
    rcases foldl_min_mem ns n with h | h
    · rw [h]; exact List.mem_cons_self
    · exact List.mem_cons_of_mem _ h
  have d := h2 _ c
  rcases List.mem_cons.mp h1 with rfl | h
  · omega
  · have := b m h; omega
theorem drs_ints {K : PySem.W.Frag} {θ : List Addr} {H : Hp} : ∀ {ns : List Int} {vs : List V}, Drs K θ H vs (ns.map fun i => .p (.int i)) → vs = ns.map V.int
  | [], _, h => by cases h; rfl
  | n :: ns, _, h => by
    cases h with
    | cons a b => cases a; rw [drs_ints b]; rfl
theorem drs_bools {K : PySem.W.Frag} {θ : List Addr} {H : Hp} : ∀ {ns : List Bool} {vs : List V}, Drs K θ H vs (ns.map fun i => .p (.bool i)) → vs = ns.map V.bl
  | [], _, h => by cases h; rfl
  | n :: ns, _, h => by
    cases h with
    | cons a b => cases a; rw [drs_bools b]; rfl
section
variable {X : Cx} {E : XK}
theorem zLen_ok : CallR X (.builtin "len") (rZs X E zLen) := by
  intro pins s σ H xs us Q I r h
  obtain ⟨ds, θ, M, m, rs, h⟩ := h
  unfold zLen at h
  split at h
  · rename_i d
    cases rs with
    | cons r1 rr =>
      cases rr
      split at h
      · rename_i xs
        cases r1 with
        | tup k1 k2 => exact call_len_seq pins s σ H _ us Q I r ⟨_, _, rfl, .inr k1, by rw [k2.length]; exact Post.here h m (Fz.int _)⟩
      · rename_i x
        split at h
        · rename_i l
          cases r1
          exact call_len_str pins s σ H _ us Q I r ⟨_, rfl, l, Post.here h m (Fz.int _)⟩
        · exact h.elim
      · split at h
        · rename_i xs e1
          obtain ⟨ad, vs, rfl, hp, dp⟩ := lstv_ok m r1 e1
          exact call_len_seq pins s σ H _ us Q I r ⟨_, _, rfl, .inl hp.sq, by rw [Paired.length dp]; exact Post.here h m (Fz.int _)⟩
        · exact h.elim
  · exact h.elim
theorem zInt_ok : CallR X (.type "int") (rZs X E zInt) := by
  intro pins s σ H xs us Q I r h
  obtain ⟨ds, θ, M, m, rs, h⟩ := h
  unfold zInt at h
  split at h
  · cases rs with
    | cons r1 rr => cases rr; cases r1; exact call_int1 pins s σ H _ us Q I r (.inl ⟨_, rfl, Post.here h m (Fz.int _)⟩)
  · cases rs with
    | cons r1 rr => cases rr; cases r1; exact call_int1 pins s σ H _ us Q I r (.inr ⟨_, rfl, Post.here h m (Fz.int _)⟩)
  · exact h.elim
theorem zAbs_ok : CallR X (.builtin "abs") (rZs X E zAbs) := by
  intro pins s σ H xs us Q I r h
  obtain ⟨ds, θ, M, m, rs, h⟩ := h
  unfold zAbs at h
  split at h
  · cases rs with
    | cons r1 rr => cases rr; cases r1; exact call_abs pins s σ H _ us Q I r ⟨_, rfl, Post.here h m (Fz.int _)⟩
  · exact h.elim
theorem maxOf_int (n : Int) (ns : List Int) : PySem.W.maxOf n ns = ns.foldl max n := by
  unfold PySem.W.maxOf
  induction ns generalizing n with
  | nil => rfl
  | cons m ns ih =>
    rw [List.foldl_cons, List.foldl_cons, ← ih]
    congr 1
    show (if decide (n < m) = true then m else n) = max n m
    by_cases h : n < m
    · rw [if_pos (by simpa using h)]; omega
    · rw [if_neg (by simpa using h)]; omega
theorem holdAll_ints {h : Heap} : ∀ {us : List Value} {ns : List Int}, Vals (ns.map V.int) us → PySem.W.HoldAll h us ns
  | _, [], .nil => PySem.W.HoldAll.nil
  | _, n :: ns, .cons r t => by
    obtain ⟨t', rfl⟩ := r
    exact PySem.W.HoldAll.cons ⟨_, .int n t'⟩ (holdAll_ints t)
theorem cr_maxT (hc : X.calm = true) (hu : X.A.units + 100 < cLine) {pins : List (Addr × Obj)} {s : Shared} {σ : L2.St} {H : Hp} {a : Addr} {n : Int} {ns : List Int} {us : List Value} {Q : VK} (I : Inv X pins σ H s) (r : Vals [.ref a] us) (hs : SqT X.K H a ((n :: ns).map V.int))
    (q : Q (.int (ns.foldl max n)) H) : wpAny (model X.prog X.w) X.A (call (.builtin "max") us) (EP X pins σ Q) X.xe s := by
  obtain ⟨its, rv, ⟨o, ho, hcl, nn, hd⟩, _⟩ := I.tuple hs
  rw [Vals.ref1 r]
  refine PySem.W.max_tuple_datum (x := n) (xs := ns) (I.ok.hd hc) ⟨o, ho, hcl, nn, hd⟩ (by simpa using holdAll_ints rv) (by show X.A.units + 1 + 0 < cLine; omega) fun i v h' tk hi hh hk => ?_
  rw [maxOf_int] at hh
  obtain ⟨as, hr⟩ := hh
  cases hr
  exact ⟨.int _, H, I.kept hk, ⟨_, rfl⟩, q⟩
theorem zMax_ok (zx : ZX X) : CallR X (.builtin "max") (rZs X E zMax) := by
  intro pins s σ H xs us Q I r h
  obtain ⟨ds, θ, M, m, rs, h⟩ := h
  unfold zMax at h
  split at h
  · rename_i i j
    cases rs with
    | cons r1 rr =>
      cases rr with
      | cons r2 rr =>
        cases rr; cases r1; cases r2
        refine call_max2 zx.calm pins s σ H _ us Q I r ⟨i, j, rfl, ?_⟩
        rw [show (if j > i then j else i) = max i j by split <;> omega]
        exact Post.here h m (Fz.int _)
  · rename_i xs
    split at h
    · rename_i n ns e2
      cases rs with
      | cons r1 rr =>
        cases rr
        cases r1 with
        | tup k1 k2 =>
          have dp := k2.drs (θ := θ)
          rw [intsOf_eq e2] at dp
          have ev := drs_ints dp
          subst ev
          exact cr_maxT zx.calm zx.hu I r k1 (Post.here h m (Fz.int _))
    · exact h.elim
  · split at h
    · rename_i xs e1
      split at h
      · rename_i n ns e2
        cases rs with
        | cons r1 rr =>
          cases rr
          obtain ⟨ad, vs, rfl, hp, dp⟩ := lstv_ok m r1 e1
          rw [intsOf_eq e2] at dp
          have ev := drs_ints dp
          subst ev
          exact cr_max zx.calm pins s σ H _ us Q I r ⟨ad, n :: ns, rfl, hp.sq, by simp, fun k h1 h2 => by rw [max_only h1 h2]; exact Post.here h m (Fz.int _)⟩
      · exact h.elim
    · exact h.elim
  · exact h.elim
theorem zMin_ok (zx : ZX X) : CallR X (.builtin "min") (rZs X E zMin) := by
  intro pins s σ H xs us Q I r h
  obtain ⟨ds, θ, M, m, rs, h⟩ := h
  unfold zMin at h
  split at h
  · rename_i i j
    cases rs with
    | cons r1 rr =>
      cases rr with
      | cons r2 rr =>
        cases rr; cases r1; cases r2
        refine call_min2 zx.calm pins s σ H _ us Q I r ⟨i, j, rfl, ?_⟩
        rw [show (if j < i then j else i) = min i j by split <;> omega]
        exact Post.here h m (Fz.int _)
  · split at h
    · rename_i xs e1
      split at h
      · rename_i n ns e2
        cases rs with
        | cons r1 rr =>
          cases rr
          obtain ⟨ad, vs, rfl, hp, dp⟩ := lstv_ok m r1 e1
          rw [intsOf_eq e2] at dp
          have ev := drs_ints dp
          subst ev
          exact cr_min zx.calm pins s σ H _ us Q I r ⟨ad, n :: ns, rfl, hp.sq, by simp, fun k h1 h2 => by rw [min_only h1 h2]; exact Post.here h m (Fz.int _)⟩
      · exact h.elim
    · exact h.elim
  · exact h.elim
theorem zSum_ok (zx : ZX X) : CallR X (.builtin "sum") (rZs X E zSum) := by
  intro pins s σ H xs us Q I r h
  obtain ⟨ds, θ, M, m, rs, h⟩ := h
  unfold zSum at h
  split at h
  · split at h
    · rename_i xs e1
      split at h
      · rename_i ns e2
        cases rs with
        | cons r1 rr =>
          cases rr
          obtain ⟨ad, vs, rfl, hp, dp⟩ := lstv_ok m r1 e1
          rw [intsOf_eq e2] at dp
          have ev := drs_ints dp
          subst ev
          exact cr_sum zx.calm pins s σ H _ us Q I r ⟨ad, ns, rfl, hp.sq, Post.here h m (Fz.int _)⟩
      · exact h.elim
    · exact h.elim
  · exact h.elim
theorem zAny_ok (zx : ZX X) : CallR X (.builtin "any") (rZs X E zAny) := by
  intro pins s σ H xs us Q I r h
  obtain ⟨ds, θ, M, m, rs, h⟩ := h
  unfold zAny at h
  split at h
  · split at h
    · rename_i xs e1
      split at h
      · rename_i ns e2
        cases rs with
        | cons r1 rr =>
          cases rr
          obtain ⟨ad, vs, rfl, hp, dp⟩ := lstv_ok m r1 e1
          rw [boolsOf_eq e2] at dp
          have ev := drs_bools dp
          subst ev
          exact cr_any zx.calm pins s σ H _ us Q I r ⟨ad, ns, rfl, hp.sq, Post.here h m (Fz.bl _)⟩
      · exact h.elim
    · exact h.elim
  · exact h.elim
theorem zAll_ok (zx : ZX X) : CallR X (.builtin "all") (rZs X E zAll) := by
  intro pins s σ H xs us Q I r h
  obtain ⟨ds, θ, M, m, rs, h⟩ := h
  unfold zAll at h
  split at h
  · split at h
    · rename_i xs e1
      split at h
      · rename_i ns e2
        cases rs with
        | cons r1 rr =>
          cases rr
          obtain ⟨ad, vs, rfl, hp, dp⟩ := lstv_ok m r1 e1
          rw [boolsOf_eq e2] at dp
          have ev := drs_bools dp
          subst ev
          exact cr_all zx.calm pins s σ H _ us Q I r ⟨ad, ns, rfl, hp.sq, Post.here h m (Fz.bl _)⟩
      · exact h.elim
    · exact h.elim
  · exact h.elim
end

/-! ### tuple, list, sorted, repr -/
/-- the items of a tuple or a list -/
def seqv (M : Store) (d : D) : Option (List D) := match d with
  | .p (.tuple xs) => some (xs.map .p)
  | d => lstv M d
@[simp] theorem seqv_t (M : Store) (xs : List P) : seqv M (.p (.tuple xs)) = some (xs.map .p) := id rfl
@[simp] theorem seqv_l (M : Store) (xs : List P) : seqv M (.p (.list xs)) = some (xs.map .p) := id rfl
def zTuple (ds : List D) (M : Store) : Out D := match ds with
  | [.p (.tuple xs)] => .ok (.p (.tuple xs)) M
  | [d] => match lstv M d with
    | some xs => match pures xs with
      | some ys => .ok (.p (.tuple ys)) M
      | none => .stuck
    | none => .stuck
  | _ => .stuck
def zList (ds : List D) (M : Store) : Out D := match ds with
  | [d] => match seqv M d with
    | some xs => frzl xs M
    | none => .stuck
  | _ => .stuck
def zListM (ds : List D) (M : Store) : Out D := match ds with
  | [d] => match seqv M d with
    | some xs => .ok (.ref M.length) (M ++ [.lst xs])
    | none => .stuck
  | _ => .stuck
/-- data in their order -/
def psort (xs : List P) : List P := xs.mergeSort (PySem.W.dataLe false id)
def psortable (xs : List P) : Prop := PySem.W.AllAlike xs ∧ PySem.W.Sortable xs ∧ xs.length ≤ sizeLine ∧ ∀ x ∈ xs, x.depth ≤ 60
open Classical in
noncomputable def zSorted (ds : List D) (M : Store) : Out D := match ds with
  | [d] => match lstv M d with
    | some xs => match pures xs with
      | some ys => if psortable ys then .ok (.p (.list (psort ys))) M else .stuck
      | none => .stuck
    | none => .stuck
  | _ => .stuck
def zRepr (ds : List D) (M : Store) : Out D := match ds with
  | [d] => match snap 6 M d with
    | some x => if x.showable = true ∧ x.hasDict = false ∧ x.shown.length ≤ sizeLine ∧ x.depth ≤ 60 then .ok (.p (.str x.shown)) M else .stuck
    | none => .stuck
  | _ => .stuck
theorem seqv_ok {K : PySem.W.Frag} {θ : List Addr} {H : Hp} {M : Store} {v : V} {d : D} {ds : List D} (s : SR K θ H M) (r : Dr K θ H v d) (e : seqv M d = some ds) : ∃ a vs, v = .ref a ∧ (SqX K H a vs ∨ SqT K H a vs) ∧ Drs K θ H vs ds := by
  unfold seqv at e
  split at e
  · cases e
    cases r with
    | tup k1 k2 => exact ⟨_, _, rfl, .inr k1, k2.drs⟩
  · obtain ⟨a, vs, e1, h, q⟩ := lstv_ok s r e
    exact ⟨a, vs, e1, .inl h, q⟩
section
variable {X : Cx} {E : XK}
theorem zTuple_ok : CallR X (.type "tuple") (rZs X E zTuple) := by
  intro pins s σ H xs us Q I r h
  obtain ⟨ds, θ, M, m, rs, h⟩ := h
  unfold zTuple at h
  split at h
  · cases rs with
    | cons r1 rr =>
      cases rr
      cases r1 with
      | tup k1 k2 => exact call_tuple_of pins s σ H _ us Q I r ⟨_, _, rfl, .inr ⟨k1, Post.here h m (Fz.tup k1 k2)⟩⟩
  · split at h
    · rename_i xs e1
      split at h
      · rename_i ys e2
        cases rs with
        | cons r1 rr =>
          cases rr
          obtain ⟨ad, vs, rfl, hp, dp⟩ := lstv_ok m r1 e1
          rw [pures_eq e2] at dp
          exact call_tuple_of pins s σ H _ us Q I r ⟨_, _, rfl, .inl ⟨hp.sq, fun l hl => new_tup h m (FzAll.ofDrs dp) hl⟩⟩
      · exact h.elim
    · exact h.elim
  · exact h.elim
theorem zList_ok : CallR X (.type "list") (rZs X E zList) := by
  intro pins s σ H xs us Q I r h
  obtain ⟨ds, θ, M, m, rs, h⟩ := h
  unfold zList at h
  split at h
  · split at h
    · rename_i xs e1
      cases rs with
      | cons r1 rr =>
        cases rr
        obtain ⟨ad, vs, rfl, hp, dp⟩ := seqv_ok m r1 e1
        obtain ⟨l, k⟩ := frzl_ok h m dp
        exact thn (call_list_of pins s σ H _ us (FrzQ Q) I r ⟨_, _, rfl, hp.imp (fun h => h.sq) id, k⟩) fun u s1 z => ep_frz z
    · exact h.elim
  · exact h.elim
theorem zListM_ok : CallR X (.type "list") (rZs X E zListM) := by
  intro pins s σ H xs us Q I r h
  obtain ⟨ds, θ, M, m, rs, h⟩ := h
  unfold zListM at h
  split at h
  · split at h
    · rename_i xs e1
      cases rs with
      | cons r1 rr =>
        cases rr
        obtain ⟨ad, vs, rfl, hp, dp⟩ := seqv_ok m r1 e1
        exact call_list_of pins s σ H _ us Q I r ⟨_, _, rfl, hp.imp (fun h => h.sq) id, fun l hl => new_lst h m dp hl⟩
    · exact h.elim
  · exact h.elim
end
end Z

/-! Z: what loops and comprehensions walk. -/
namespace Z
open PySem PySem.Spec PyProof.Rows L2

/-! ### enumerate(tuple) -/
theorem meets_enum1 {v : Value} {o : Obj} {H : Heap → Prop} (B : Begins v o H) :
    Meets (Builtin.«enumerate.__new__» ⟨[.type "enumerate", v], []⟩) (fun _ R s => H s.heap ∧
      R (.ok (.ret (.ref (s.heap.push o).objs.size))) { s with heap := (s.heap.push o).push { cls := .type "enumerate", data := .fields #[.none, .bool false, .ref s.heap.objs.size, rawInt 0, .none, .none] } }) :=
  .of_wp fun prog w A R s h => by
    obtain ⟨hp, g, d, tk, os⟩ := s; obtain ⟨h1, h⟩ := h
    have hsub := sub_enumerate
    have q1 : ∀ {A' : Around} {E : Value → Shared → Prop} {Q : Value → Shared → Prop}, Q (.ref hp.objs.size) ⟨hp.push o, g, d, tk, os⟩ → wpAny (model prog w) A' (pyIter v) Q E ⟨hp, g, d, tk, os⟩ :=
      fun q => B.iter prog w _ _ ⟨hp, g, d, tk, os⟩ _ h1 q
    wp_walk using q1
    refine wpAny_stack_any fun st => wpAny_pure ?_
    split
    · rename_i c _ _ _ _ _
      cases (c == Value.type "enumerate")
      · wp_walk using q1
        exact ⟨_, rfl, h⟩
      · wp_walk using q1
        exact ⟨_, rfl, h⟩
    · wp_walk using q1
      exact ⟨_, rfl, h⟩
theorem enum_begins1 {prog : Program} {w : World} {A : Around} {E : Value → Shared → Prop} {s : Shared} {v : Value} {o : Obj} {H : Heap → Prop} {Q : Value → Shared → Prop} (B : Begins v o H) (h1 : H s.heap)
    (h : ∀ h', IsEnum h' (s.heap.objs.size + 1) s.heap.objs.size 0 .none → h'.get? s.heap.objs.size = some o → h'.objs.size = s.heap.objs.size + 2 →
      (∀ b o, s.heap.get? b = some o → h'.get? b = some o) → Q (.ref (s.heap.objs.size + 1)) { s with heap := h' }) :
    wpAny (model prog w) A (call (.type "enumerate") [v]) Q E s := by
  refine callType_new F.called_enumerate (by decide) (F.typeCall_enumerate_1 _) (F.newCall_enumerate_1 _) (fun obj => F.args_object_init_2 obj _) F.entry_enumerate_new
    (meets_enum1 B) ⟨h1, ?_⟩
  have hz : (s.heap.push o).objs.size = s.heap.objs.size + 1 := Heap.size_push ..
  show _ ∧ _
  rw [hz]
  have he : IsEnum ((s.heap.push o).push { cls := .type "enumerate", data := .fields #[.none, .bool false, .ref s.heap.objs.size, rawInt 0, .none, .none] }) (s.heap.objs.size + 1) s.heap.objs.size 0 .none := by
    have := Heap.get?_push_size (s.heap.push o) (o := { cls := .type "enumerate", data := .fields #[.none, .bool false, .ref s.heap.objs.size, rawInt 0, .none, .none] }) rfl
    rw [hz] at this; exact this
  refine ⟨⟨_, he, rfl⟩, h _ he (Heap.get?_push_of_some _ (Heap.get?_push_size _ B.free)) (by rw [Heap.size_push, hz]) fun b o x => Heap.get?_push_of_some _ (Heap.get?_push_of_some _ x)⟩

def IteT (K : PySem.W.Frag) (a : Addr) (ws : List V) : It :=
  ⟨fun i H => SqT K H a ws ∧ i < ws.length, fun i H v H' => ∃ T x, v = .ref T ∧ H T = none ∧ H' = upd H T (.tup [.int (i : Nat), x]) ∧ ws[i]? = some x, fun i H => SqT K H a ws ∧ ws.length ≤ i⟩
theorem turn_enumT {P : Program} {w : World} {K : PySem.W.Frag} {elts : List Expr} {kk : Nat} {tpos : Pos} (a e it : Addr) (ws : List V) :
    Turn P w K (.Tuple elts kk tpos) (IteT K a ws) [e, it] e (fun i h => (∃ old, IsEnum h e it ((i : Nat) : Int) old) ∧ h.IsTupleIter it a i ∧ e ≠ it ∧ e ≠ a ∧ a ≠ it) where
  mem := by simp
  obj := fun i h st b hb => by
    obtain ⟨⟨old, he⟩, ⟨o, ho, hc, hd⟩, _⟩ := st
    have e' : b = e ∨ b = it := by simpa using hb
    rcases e' with z | z
    · rw [z]; exact ⟨_, he, fun v q => nomatch q⟩
    · rw [z]; exact ⟨o, ho, fun v q => by rw [hd] at q; cases q⟩
  keep := fun i h h' st k => let ⟨⟨old, he⟩, hi, hne⟩ := st; ⟨⟨old, k e (by simp) _ he⟩, hi.at fun o q => k it (by simp) o q, hne⟩
  item := by
    intro X hP hw hK hc i pins s σ H E I hf st hg
    subst hP hw hK
    obtain ⟨⟨old, he⟩, hit, hne, hea, hai⟩ := st
    obtain ⟨hq, hi⟩ := hg
    obtain ⟨its, rv, p, hz⟩ := I.tuple hq
    have hlen := rv.length
    obtain ⟨u, hu, ru⟩ := rv.get (List.getElem?_eq_getElem hi)
    have hel : e < s.heap.objs.size := Heap.lt_size he
    have hil : it < s.heap.objs.size := by obtain ⟨_, q, _⟩ := hit; exact Heap.lt_size q
    have D := Draws.tuple (prog := X.prog) (w := X.w) (A := X.A.in1) (I.ok.hd hc) it a hai its.toArray
    refine wpAny_pyNext_enum_itemD D he ⟨hit, show s.heap.IsTuple a its.toArray from p⟩ (by rw [List.size_toArray, ← hlen]; exact hi) hne (by simp; exact ⟨hne, hea⟩) fun x h' tk hx ho hst' hT hsz hk => ?_
    have ex : x = u := by
      have hx' : its.toArray[i]? = some x := hx
      rw [List.getElem?_toArray, hu] at hx'
      exact (Option.some.inj hx').symm
    subst ex
    refine ⟨_, rfl, wpAny_letOwnedTupleGo_enum (s := { s with heap := h', toks := tk + 1 }) ho fun h'' he' sb => ?_⟩
    have hT2 : h''.get? s.heap.objs.size = some { cls := .type "tuple", data := .seq #[.int i tk, x] } := (sb.2 _ (Nat.ne_of_gt hel)).trans hT
    have new : ObjOk X.prog X.w (upd H s.heap.objs.size (.tup [.int (i : Nat), ws[i]])) h'' s.heap.objs.size (.tup [.int (i : Nat), ws[i]]) :=
      ⟨by show 2 ≤ sizeLine; decide, [.int i tk, x], .cons ⟨_, rfl⟩ (.cons ru .nil), ⟨_, hT2, rfl, _, rfl⟩⟩
    have I1 : Inv X pins σ (upd H s.heap.objs.size (.tup [.int (i : Nat), ws[i]])) { s with heap := h'', toks := tk + 1 } :=
      I.turnedNew (ch := [e, it]) (fun b ob hb q => (sb.2 b (fun z => hb (by simp [z]))).trans (hk b ob (fun z => hb (by simp [z])) (fun z => hb (by simp [z])) q)) hf (Nat.le_refl _) new
    refine ⟨.ref s.heap.objs.size, _, I1, rfl, ⟨_, ws[i], rfl, I.hok.fresh (Nat.le_refl _), rfl, List.getElem?_eq_getElem hi⟩, ⟨⟨x, ?_⟩, hst'.1.at fun o q => (sb.2 it (Ne.symm hne)).trans q, hne, hea, hai⟩, fun b hb => ?_⟩
    · have e1 : ((i + 1 : Nat) : Int) = (i : Int) + 1 := by omega
      rw [e1]; exact he'
    · have hb' : b < s.heap.objs.size := by
        have e' : b = e ∨ b = it := by simpa using hb
        rcases e' with z | z
        · rw [z]; exact hel
        · rw [z]; exact hil
      rw [upd_ne (Nat.ne_of_lt hb')]
      exact (hf b hb).1
  done := by
    intro X hP hw hK hc i pins s σ H E I hf st hg
    subst hP hw hK
    obtain ⟨⟨old, he⟩, hit, hne, hea, hai⟩ := st
    obtain ⟨hq, hx⟩ := hg
    obtain ⟨its, rv, p, hz⟩ := I.tuple hq
    obtain ⟨f0, f1, f2, f3, f4, f5⟩ := hf it (by simp)
    have hl := rv.length
    have D := Draws.tuple (prog := X.prog) (w := X.w) (A := X.A.in1) (I.ok.hd hc) it a hai its.toArray
    have nx : its.toArray[i]? = none := by rw [List.getElem?_toArray, List.getElem?_eq_none_iff]; omega
    have hT : s.TypeIs (.ref e) "enumerate" := ⟨_, he, rfl⟩
    unfold pyNext
    refine wpAny_bind (wpAny_attempt (wpAny_callSpecial?_slot (name := Str.ofString "__next__") hT F.slot_enumerate_next
      (wpAny_call_entry F.slot_enumerate_next hT F.entry_enumerate_next ?_ (F.args_enumerate_next_1 _))))
    show wpAny _ _ (field (.ref e) 2 >>= _) _ _ _
    refine wpAny_bind (wpAny_field he rfl (x := .ref it) rfl ?_)
    refine wpAny_bind (wpAny_nextOf_tuple_end (I.ok.hd hc) hit (show s.heap.IsTuple a its.toArray from p) nx fun h' x he' hx' => ?_)
    obtain ⟨o, ho, hcc⟩ := hx'
    refine wpAny_bind (wpAny_isInstance (T := "StopIteration") (b := true) ⟨o, ho, hcc⟩ isSubtype_stop ?_)
    exact wpAny_pure ⟨rfl, I.turned (t' := s.toks) (fun b o hb q => he' b o hb q) f0 f1 f3 f4 f5⟩
  self := fun A i s Q E st h => let ⟨⟨_, he⟩, _⟩ := st; wpAny_pyIter_enum he h
def iEnumT (K : PySem.W.Frag) (ta : TA) : TI := fun σ H R => ta σ H fun vs H1 => ∃ a ws, vs = [.ref a] ∧ ((SqL K H1 a ws ∧ R (Ite K a) H1) ∨ (SqT K H1 a ws ∧ R (IteT K a ws) H1))
theorem pi_enumT {X : Cx} {e : Expr} {ta : TA} {p pos tpos : Pos} {elts : List Expr} {kk : Nat} (hg : Gl X "enumerate") (hm : X.mg "enumerate" = none) (ha : PA X [e] ta) (hs : starEach [e] X.env = [(false, eval e X.env)] := by rfl) :
    PI X (.Tuple elts kk tpos) (.Call (.Name "enumerate" p) [e] [] pos) (iEnumT X.K ta) := by
  refine ⟨fun pins s σ H R I h => ?_⟩
  refine Call_ (ld_blt I hg hm boot_enumerate (PyProof.Rows.callWith_type1 (thn (ha.run pos pins s σ H _ I h) fun us s1 ⟨vs, H1, I1, r1, q1⟩ => ?_) hs rfl))
  obtain ⟨a, xs, ex, q⟩ := q1
  subst ex
  cases r1 with
  | cons r rr =>
    cases rr
    cases r
    have fresh : ∀ b, b ∈ [s1.heap.objs.size + 1, s1.heap.objs.size] → s1.heap.objs.size ≤ b := fun b hb => by
      have e' : b = s1.heap.objs.size + 1 ∨ b = s1.heap.objs.size := by simpa using hb
      rcases e' with z | z
      · rw [z]; exact Nat.le_add_right _ _
      · rw [z]; exact Nat.le_refl _
    rcases q with ⟨hq, q⟩ | ⟨hq, q⟩
    · obtain ⟨its, rv, p', hz⟩ := I1.list hq
      refine call_enumerate_list p'.isList fun h' he hit hsz hk => wpAny_pyIter_enum he ?_
      have I2 : Inv X pins σ H1 { s1 with heap := h' } := I1.kept (t' := s1.toks) hk
      exact ⟨s1.heap.objs.size + 1, [s1.heap.objs.size + 1, s1.heap.objs.size], _, _, H1, rfl, I2, turn_enum a (s1.heap.objs.size + 1) s1.heap.objs.size, ⟨⟨.none, he⟩, hit, Nat.succ_ne_self _⟩, fun b hb => I1.fpOk (fresh b hb) (I1.hok.fresh (fresh b hb)), q⟩
    · obtain ⟨its, rv, p', hz⟩ := I1.tuple hq
      have hlt : a < s1.heap.objs.size := p'.lt
      refine enum_begins1 (begins_tuple a its.toArray) (show s1.heap.IsTuple a its.toArray from p') fun h' he ho hsz hk => wpAny_pyIter_enum he ?_
      have I2 : Inv X pins σ H1 { s1 with heap := h' } := I1.kept (t' := s1.toks) hk
      exact ⟨s1.heap.objs.size + 1, [s1.heap.objs.size + 1, s1.heap.objs.size], _, _, H1, rfl, I2, turn_enumT a (s1.heap.objs.size + 1) s1.heap.objs.size xs, ⟨⟨.none, he⟩, ⟨_, ho, rfl, rfl⟩, Nat.succ_ne_self _, Nat.ne_of_gt (Nat.lt_succ_of_lt hlt), Nat.ne_of_lt hlt⟩, fun b hb => I1.fpOk (fresh b hb) (I1.hok.fresh (fresh b hb)), q⟩
end Z

/-! Z: targets, statements, loops, comprehensions. -/
namespace Z
open PySem PySem.Spec PyProof.Rows L2

/-! ### what is walked -/
structure WalkR (K : PySem.W.Frag) (θ : List Addr) (H : Hp) (J : It) (items : List D) : Prop where
  go : ∀ i H1 θ1, i < items.length → Go θ θ1 H H1 → J.go i H1
  yld : ∀ i H1 θ1 M x H2, i < items.length → Go θ θ1 H H1 → SR K θ1 H1 M → J.yld i H1 x H2 → ∃ d, items[i]? = some d ∧ Go θ1 θ1 H1 H2 ∧ SR K θ1 H2 M ∧ Dr K θ1 H2 x d
  stop : ∀ i H1 θ1, items.length ≤ i → Go θ θ1 H H1 → J.stop i H1
section
variable (X : Cx) (E : XK)
def ZI (tg iter : Expr) (c : ZCs) : Prop := ∃ wi, PI X tg iter wi ∧ ∀ σ H θ sl M R, SV X.K θ H σ sl → SR X.K θ H M → Post X.K X.mg E (WalkR X.K) R θ H (c sl M) → wi σ H R
end
/-- the items of what is walked -/
def zitems (a : ZC) : ZCs := fun sl M => (a sl M).bind fun d M1 => match d with
  | .p (.tuple xs) => .ok (xs.map .p) M1
  | .p (.list xs) => .ok (xs.map .p) M1
  | _ => .stuck
def rgItems (lo : Int) (n : Nat) : List D := (List.range n).map fun i : Nat => .p (.int (lo + (i : Int)))
def zrange1 (a : ZC) : ZCs := fun sl M => (a sl M).bind fun d M1 => match d with
  | .p (.int j) => if -(2 ^ 62) ≤ j ∧ j < 2 ^ 62 then .ok (rgItems 0 j.toNat) M1 else .stuck
  | _ => .stuck
def zrange2 (a b : ZC) : ZCs := fun sl M => (a sl M).bind fun d M1 => (b sl M1).bind fun e M2 => match d, e with
  | .p (.int i), .p (.int j) => if -(2 ^ 62) ≤ i ∧ i < 2 ^ 62 ∧ -(2 ^ 62) ≤ j ∧ j < 2 ^ 62 then .ok (rgItems i (j - i).toNat) M2 else .stuck
  | _, _ => .stuck
def enumFrom (i : Nat) : List P → List D
  | [] => []
  | x :: r => .p (.tuple [.int i, x]) :: enumFrom (i + 1) r
def zenum (a : ZC) : ZCs := fun sl M => (a sl M).bind fun d M1 => match d with
  | .p (.tuple xs) => .ok (enumFrom 0 xs) M1
  | .p (.list xs) => .ok (enumFrom 0 xs) M1
  | _ => .stuck
def zipP : List P → List P → List D
  | x :: xs, y :: ys => .p (.tuple [x, y]) :: zipP xs ys
  | _, _ => []
def zzip (a b : ZC) : ZCs := fun sl M => (a sl M).bind fun d M1 => (b sl M1).bind fun e M2 => match d, e with
  | .p (.tuple xs), .p (.tuple ys) => .ok (zipP xs ys) M2
  | .p (.list xs), .p (.list ys) => .ok (zipP xs ys) M2
  | _, _ => .stuck
theorem enumFrom_get : ∀ (xs : List P) (k i : Nat), (enumFrom k xs)[i]? = (xs[i]?).map fun x => .p (.tuple [.int (k + i : Nat), x])
  | [], k, i => by simp [enumFrom]
  | x :: r, k, 0 => by simp [enumFrom]
  | x :: r, k, i + 1 => by
    rw [enumFrom, List.getElem?_cons_succ, List.getElem?_cons_succ, enumFrom_get r (k + 1) i, show k + 1 + i = k + (i + 1) by omega]
theorem enumFrom_len : ∀ (xs : List P) (k : Nat), (enumFrom k xs).length = xs.length
  | [], k => rfl
  | x :: r, k => by rw [enumFrom, List.length_cons, enumFrom_len r, List.length_cons]
theorem zipP_get : ∀ (xs ys : List P) (i : Nat) (x y : P), xs[i]? = some x → ys[i]? = some y → (zipP xs ys)[i]? = some (.p (.tuple [x, y]))
  | [], _, _, _, _, h, _ => by simp at h
  | _ :: _, [], _, _, _, _, h => by simp at h
  | a :: xs, b :: ys, 0, x, y, h, h' => by simp at h h'; subst h h'; rfl
  | a :: xs, b :: ys, i + 1, x, y, h, h' => by
    rw [zipP, List.getElem?_cons_succ]
    exact zipP_get xs ys i x y (by simpa using h) (by simpa using h')
theorem zipP_len : ∀ (xs ys : List P), (zipP xs ys).length = min xs.length ys.length
  | [], _ => by simp [zipP]
  | _ :: _, [] => by simp [zipP]
  | a :: xs, b :: ys => by rw [zipP, List.length_cons, zipP_len, List.length_cons, List.length_cons]; omega
/-- walking a list or a tuple -/
def iSeq (K : PySem.W.Frag) (tl : TE) : TI := fun σ H R => tl σ H fun x H1 => ∃ a, x = .ref a ∧ (((∃ xs, SqL K H1 a xs) ∧ R (Itl K a) H1) ∨ ((∃ xs, SqT K H1 a xs) ∧ R (Itt K a) H1))
theorem pi_seq {X : Cx} {tg l : Expr} {tl : TE} (hl : PE X l tl) : PI X tg l (iSeq X.K tl) := by
  refine ⟨fun pins s σ H R I h => ?_⟩
  refine thn (hl.run pins s σ H _ I h) fun v s1 ⟨x, H1, I1, r1, q1⟩ => ?_
  obtain ⟨a, e, q⟩ := q1
  subst e
  cases r1
  rcases q with ⟨⟨xs, hq⟩, q⟩ | ⟨⟨xs, hq⟩, q⟩
  · obtain ⟨its, rv, p, hz⟩ := I1.list hq
    refine wpAny_pyIter_list p.isList ?_
    refine ⟨s1.heap.objs.size, [s1.heap.objs.size], _, _, H1, rfl, I1.kept (t' := s1.toks) fun b o e => Heap.get?_push_of_some _ e, turn_list a _, ⟨_, Heap.get?_push_size _ rfl, rfl, rfl⟩, fun b hb => ?_, q⟩
    have e : b = s1.heap.objs.size := by simpa using hb
    subst e
    exact I1.fpOk (Nat.le_refl _) (I1.hok.fresh (Nat.le_refl _))
  · obtain ⟨its, rv, p, hz⟩ := I1.tuple hq
    refine wpAny_pyIter_tuple (show s1.heap.IsTuple a its.toArray from p) ?_
    refine ⟨s1.heap.objs.size, [s1.heap.objs.size], _, _, H1, rfl, I1.kept (t' := s1.toks) fun b o e => Heap.get?_push_of_some _ e, turn_tuple a _, ⟨_, Heap.get?_push_size _ rfl, rfl, rfl⟩, fun b hb => ?_, q⟩
    have e : b = s1.heap.objs.size := by simpa using hb
    subst e
    exact I1.fpOk (Nat.le_refl _) (I1.hok.fresh (Nat.le_refl _))
section
variable {K : PySem.W.Frag} {θ : List Addr} {H : Hp}
theorem fz_at {vs : List V} {xs : List P} (h : FzAll K H vs xs) {i : Nat} {v : V} (e : vs[i]? = some v) : ∃ x, xs[i]? = some x ∧ Fz K H v x := paired_at' h.paired e
theorem walk_l {a : Addr} {vs : List V} {xs : List P} (h : FzL K H a vs) (f : FzAll K H vs xs) : WalkR K θ H (Itl K a) (xs.map .p) := by
  refine ⟨fun i H1 θ1 l g => ?_, fun i H1 θ1 M x H2 l g s y => ?_, fun i H1 θ1 l g => ?_⟩
  · rw [List.length_map, ← f.length] at l
    exact ⟨vs, vs[i], (h.keep g.keep).sq, List.getElem?_eq_getElem l⟩
  · obtain ⟨rfl, y⟩ := y
    obtain ⟨d, e, r⟩ := fz_at f (y vs (h.keep g.keep).sq)
    exact ⟨.p d, by rw [List.getElem?_map, e]; rfl, .refl, s, r.keep g.keep⟩
  · rw [List.length_map, ← f.length] at l
    exact ⟨vs, (h.keep g.keep).sq, l⟩
theorem walk_t {a : Addr} {vs : List V} {xs : List P} (h : SqT K H a vs) (f : FzAll K H vs xs) : WalkR K θ H (Itt K a) (xs.map .p) := by
  refine ⟨fun i H1 θ1 l g => ?_, fun i H1 θ1 M x H2 l g s y => ?_, fun i H1 θ1 l g => ?_⟩
  · rw [List.length_map, ← f.length] at l
    exact ⟨vs, vs[i], SqT.keep g.keep h, List.getElem?_eq_getElem l⟩
  · obtain ⟨rfl, y⟩ := y
    obtain ⟨d, e, r⟩ := fz_at f (y vs (SqT.keep g.keep h))
    exact ⟨.p d, by rw [List.getElem?_map, e]; rfl, .refl, s, r.keep g.keep⟩
  · rw [List.length_map, ← f.length] at l
    exact ⟨vs, SqT.keep g.keep h, l⟩
theorem walk_rg {lo : Int} {n : Nat} : WalkR K θ H (Itr lo n) (rgItems lo n) := by
  have len : (rgItems lo n).length = n := by simp [rgItems]
  refine ⟨fun i H1 θ1 l g => by rw [len] at l; exact l, fun i H1 θ1 M x H2 l g s y => ?_, fun i H1 θ1 l g => by rw [len] at l; exact l⟩
  obtain ⟨rfl, rfl⟩ := y
  rw [len] at l
  exact ⟨.p (.int (lo + i)), by simp [rgItems, l], .refl, s, Fz.int _⟩
theorem pair_new {θ1 : List Addr} {H1 : Hp} {M : Store} {T : Addr} {v w : V} {x y : P} (s : SR K θ1 H1 M) (hT : H1 T = none) (r : Fz K H1 v x) (q : Fz K H1 w y) :
    Go θ1 θ1 H1 (upd H1 T (.tup [v, w])) ∧ SR K θ1 (upd H1 T (.tup [v, w])) M ∧ Fz K (upd H1 T (.tup [v, w])) (.ref T) (.tuple [x, y]) :=
  have g := Go.out (u := .tup [v, w]) s hT
  ⟨g, s.out hT, .tup SqT.new (.cons (r.keep g.keep) (.cons (q.keep g.keep) .nil))⟩
theorem walk_el {a : Addr} {vs : List V} {xs : List P} (h : FzL K H a vs) (f : FzAll K H vs xs) : WalkR K θ H (Ite K a) (enumFrom 0 xs) := by
  refine ⟨fun i H1 θ1 l g => ?_, fun i H1 θ1 M x H2 l g s y => ?_, fun i H1 θ1 l g => ?_⟩
  · rw [enumFrom_len, ← f.length] at l
    exact ⟨vs, vs[i], (h.keep g.keep).sq, List.getElem?_eq_getElem l⟩
  · obtain ⟨T, z, rfl, hT, rfl, y⟩ := y
    obtain ⟨d, e, r⟩ := fz_at f (y vs (h.keep g.keep).sq)
    obtain ⟨g2, s2, r2⟩ := pair_new s hT (.int (i : Int)) (r.keep g.keep)
    exact ⟨_, by rw [enumFrom_get, e]; rfl, g2, s2, by rw [Nat.zero_add]; exact r2⟩
  · rw [enumFrom_len, ← f.length] at l
    exact ⟨vs, (h.keep g.keep).sq, l⟩
theorem walk_et {a : Addr} {vs : List V} {xs : List P} (h : SqT K H a vs) (f : FzAll K H vs xs) : WalkR K θ H (IteT K a vs) (enumFrom 0 xs) := by
  refine ⟨fun i H1 θ1 l g => ?_, fun i H1 θ1 M x H2 l g s y => ?_, fun i H1 θ1 l g => ?_⟩
  · rw [enumFrom_len, ← f.length] at l
    exact ⟨SqT.keep g.keep h, l⟩
  · obtain ⟨T, z, rfl, hT, rfl, y⟩ := y
    obtain ⟨d, e, r⟩ := fz_at f y
    obtain ⟨g2, s2, r2⟩ := pair_new s hT (.int (i : Int)) (r.keep g.keep)
    exact ⟨_, by rw [enumFrom_get, e]; rfl, g2, s2, by rw [Nat.zero_add]; exact r2⟩
  · rw [enumFrom_len, ← f.length] at l
    exact ⟨SqT.keep g.keep h, l⟩
theorem walk_zl {a b : Addr} {vs ws : List V} {xs ys : List P} (h : FzL K H a vs) (f : FzAll K H vs xs) (h' : FzL K H b ws) (f' : FzAll K H ws ys) : WalkR K θ H (Itz K a b) (zipP xs ys) := by
  refine ⟨fun i H1 θ1 l g => ?_, fun i H1 θ1 M x H2 l g s y => ?_, fun i H1 θ1 l g => ?_⟩
  · rw [zipP_len, ← f.length, ← f'.length] at l
    exact ⟨vs, ws, vs[i]'(by omega), ws[i]'(by omega), (h.keep g.keep).sq, (h'.keep g.keep).sq, List.getElem?_eq_getElem (by omega), List.getElem?_eq_getElem (by omega)⟩
  · obtain ⟨T, z, z', rfl, hT, rfl, y, y'⟩ := y
    obtain ⟨d, e, r⟩ := fz_at f (y vs (h.keep g.keep).sq)
    obtain ⟨d', e', r'⟩ := fz_at f' (y' ws (h'.keep g.keep).sq)
    obtain ⟨g2, s2, r2⟩ := pair_new s hT (r.keep g.keep) (r'.keep g.keep)
    exact ⟨_, zipP_get _ _ _ _ _ e e', g2, s2, r2⟩
  · rw [zipP_len, ← f.length, ← f'.length] at l
    exact ⟨vs, ws, (h.keep g.keep).sq, (h'.keep g.keep).sq, by omega⟩
theorem walk_zt {a b : Addr} {vs ws : List V} {xs ys : List P} (h : SqT K H a vs) (f : FzAll K H vs xs) (h' : SqT K H b ws) (f' : FzAll K H ws ys) : WalkR K θ H (RZ.ItzT K a b) (zipP xs ys) := by
  refine ⟨fun i H1 θ1 l g => ?_, fun i H1 θ1 M x H2 l g s y => ?_, fun i H1 θ1 l g => ?_⟩
  · rw [zipP_len, ← f.length, ← f'.length] at l
    exact ⟨vs, ws, vs[i]'(by omega), ws[i]'(by omega), SqT.keep g.keep h, SqT.keep g.keep h', List.getElem?_eq_getElem (by omega), List.getElem?_eq_getElem (by omega)⟩
  · obtain ⟨T, z, z', rfl, hT, rfl, y, y'⟩ := y
    obtain ⟨d, e, r⟩ := fz_at f (y vs (SqT.keep g.keep h))
    obtain ⟨d', e', r'⟩ := fz_at f' (y' ws (SqT.keep g.keep h'))
    obtain ⟨g2, s2, r2⟩ := pair_new s hT (r.keep g.keep) (r'.keep g.keep)
    exact ⟨_, zipP_get _ _ _ _ _ e e', g2, s2, r2⟩
  · rw [zipP_len, ← f.length, ← f'.length] at l
    exact ⟨vs, ws, SqT.keep g.keep h, SqT.keep g.keep h', by omega⟩
end
section
variable {X : Cx} {E : XK} {e a b : Expr} {es : List Expr} {pos p tpos : Pos} {tg : Expr} {ca cb : ZC}
theorem ZI.seq (ha : ZE X E a ca) : ZI X E tg a (zitems ca) := by
  obtain ⟨t, pa, q⟩ := ha
  refine ⟨_, pi_seq pa, fun σ H θ sl M R hs hm h => q σ H θ sl M _ hs hm (Post.bind h fun d M1 v H1 θ1 g1 m1 r1 h1 => ?_)⟩
  split at h1
  · rename_i xs
    cases r1 with
    | tup k1 k2 => exact ⟨_, rfl, .inr ⟨⟨_, k1⟩, Post.here h1 m1 (walk_t k1 k2)⟩⟩
  · rename_i xs
    cases r1 with
    | lst k1 k2 => exact ⟨_, rfl, .inl ⟨⟨_, k1.sq⟩, Post.here h1 m1 (walk_l k1 k2)⟩⟩
  · exact h1.elim
theorem pa1 {ta : TE} (pa : PE X a ta) (hs : starEach [a] X.env = [(false, eval a X.env)] := by rfl) : PA X [a] (tCons ta tNil) := pa_cons pa pa_nil hs
theorem ZI.range1 (hg : Gl X "range") (hm : X.mg "range" = none) (ha : ZE X E a ca) (hs : starEach [a] X.env = [(false, eval a X.env)] := by rfl) : ZI X E tg (.Call (.Name "range" p) [a] [] pos) (zrange1 ca) := by
  obtain ⟨t, pa, q⟩ := ha
  refine ⟨_, pi_range1 hg hm (pa1 pa hs) hs, fun σ H θ sl M R hs hm h => q σ H θ sl M _ hs hm (Post.bind h fun d M1 v H1 θ1 g1 m1 r1 h1 => ?_)⟩
  split at h1
  · rename_i j
    cases r1
    split at h1
    · rename_i c
      exact ⟨j, rfl, c.1, c.2, Post.here h1 m1 walk_rg⟩
    · exact h1.elim
  · exact h1.elim
theorem ZI.range2 (hg : Gl X "range") (hm : X.mg "range" = none) (ha : ZE X E a ca) (hb : ZE X E b cb) (hs : starEach [a, b] X.env = [(false, eval a X.env), (false, eval b X.env)] := by rfl) (hs2 : starEach [b] X.env = [(false, eval b X.env)] := by rfl) :
    ZI X E tg (.Call (.Name "range" p) [a, b] [] pos) (zrange2 ca cb) := by
  obtain ⟨t, pa, q⟩ := ha
  obtain ⟨t', pb, q'⟩ := hb
  refine ⟨_, pi_range2 hg hm (pa_cons pa (pa1 pb hs2) (by rw [hs, hs2])) hs hs2, fun σ H θ sl M R hs hm h => q σ H θ sl M _ hs hm (Post.bind h fun d M1 v H1 θ1 g1 m1 r1 h1 => ?_)⟩
  refine q' σ H1 θ1 sl M1 _ (hs.go g1) m1 (Post.bind h1 fun d' M2 v' H2 θ2 g2 m2 r2 h2 => ?_)
  split at h2
  · rename_i i j
    cases r1; cases r2
    split at h2
    · rename_i c
      exact ⟨i, j, rfl, c, Post.here h2 m2 walk_rg⟩
    · exact h2.elim
  · exact h2.elim
theorem ZI.enum {elts : List Expr} {kk : Nat} (hg : Gl X "enumerate") (hm : X.mg "enumerate" = none) (ha : ZE X E a ca) (hs : starEach [a] X.env = [(false, eval a X.env)] := by rfl) : ZI X E (.Tuple elts kk tpos) (.Call (.Name "enumerate" p) [a] [] pos) (zenum ca) := by
  obtain ⟨t, pa, q⟩ := ha
  refine ⟨_, pi_enumT hg hm (pa1 pa hs) hs, fun σ H θ sl M R hs hm h => q σ H θ sl M _ hs hm (Post.bind h fun d M1 v H1 θ1 g1 m1 r1 h1 => ?_)⟩
  split at h1
  · cases r1 with
    | tup k1 k2 => exact ⟨_, _, rfl, .inr ⟨k1, Post.here h1 m1 (walk_et k1 k2)⟩⟩
  · cases r1 with
    | lst k1 k2 => exact ⟨_, _, rfl, .inl ⟨k1.sq, Post.here h1 m1 (walk_el k1 k2)⟩⟩
  · exact h1.elim
theorem ZI.zip {elts : List Expr} {kk : Nat} (hg : Gl X "zip") (hm : X.mg "zip" = none) (ha : ZE X E a ca) (hb : ZE X E b cb) (hs : starEach [a, b] X.env = [(false, eval a X.env), (false, eval b X.env)] := by rfl) (hs2 : starEach [b] X.env = [(false, eval b X.env)] := by rfl) :
    ZI X E (.Tuple elts kk tpos) (.Call (.Name "zip" p) [a, b] [] pos) (zzip ca cb) := by
  obtain ⟨t, pa, q⟩ := ha
  obtain ⟨t', pb, q'⟩ := hb
  refine ⟨_, RZ.pi_zipA hg hm (pa_cons pa (pa1 pb hs2) (by rw [hs, hs2])) (by rw [hs, hs2]) (by rw [hs2]; rfl), fun σ H θ sl M R hs hm h => q σ H θ sl M _ hs hm (Post.bind h fun d M1 v H1 θ1 g1 m1 r1 h1 => ?_)⟩
  refine q' σ H1 θ1 sl M1 _ (hs.go g1) m1 (Post.bind h1 fun d' M2 v' H2 θ2 g2 m2 r2 h2 => ?_)
  split at h2
  · cases r1 with
    | tup k1 k2 =>
      cases r2 with
      | tup l1 l2 => exact ⟨_, _, _, _, rfl, .inr ⟨SqT.keep g2.keep k1, l1, Post.here h2 m2 (walk_zt (SqT.keep g2.keep k1) (k2.keep g2.keep) l1 l2)⟩⟩
  · cases r1 with
    | lst k1 k2 =>
      cases r2 with
      | lst l1 l2 => exact ⟨_, _, _, _, rfl, .inl ⟨(k1.keep g2.keep).sq, l1.sq, Post.here h2 m2 (walk_zl (k1.keep g2.keep) (k2.keep g2.keep) l1 l2)⟩⟩
  · exact h2.elim
end
end Z

/-! Z: targets, statements, loops. -/
namespace Z
open PySem PySem.Spec PyProof.Rows L2

/-! ### canonical readings -/
section
variable (K : PySem.W.Frag) (mg : Str → Option Value) (E : XK)
def tZ (c : ZC) : TE := fun σ H Q => ∃ θ sl M, SV K θ H σ sl ∧ SR K θ H M ∧ Post K mg E (Dr K) Q θ H (c sl M)
def tZb (c : ZCb) : TT := fun σ H Q => ∃ θ sl M, SV K θ H σ sl ∧ SR K θ H M ∧ Post K mg E EqR Q θ H (c sl M)
end
theorem ZE.can {X : Cx} {E : XK} {e : Expr} {c : ZC} (h : ZE X E e c) : PE X e (tZ X.K X.mg E c) := by
  obtain ⟨t, p, q⟩ := h
  exact ⟨fun pins s σ H Q I ⟨θ, sl, M, hs, hm, w⟩ => p.run pins s σ H Q I (q σ H θ sl M Q hs hm w)⟩
theorem ZT.can {X : Cx} {E : XK} {e : Expr} {c : ZCb} (h : ZT X E e c) : PT X e (tZb X.K X.mg E c) := by
  obtain ⟨t, p, q⟩ := h
  exact ⟨fun pins s σ H Q I ⟨θ, sl, M, hs, hm, w⟩ => p.run pins s σ H Q I (q σ H θ sl M Q hs hm w)⟩

/-! ### targets -/
abbrev Tg := D → Sl → Option Sl
/-- alike but for some places -/
def But (ix : List Nat) (σ σ' : L2.St) : Prop := σ'.length = σ.length ∧ ∀ j, j ∉ ix → σ'[j]? = σ[j]?
structure ZG (X : Cx) (tg : Expr) (f : Tg) (ix : List Nat) : Prop where
  run : ∃ g, PG X tg g ∧ ∀ v d σ H θ sl sl' Q, SV X.K θ H σ sl → Dr X.K θ H v d → f d sl = some sl' → (∀ σ', SV X.K θ H σ' sl' → But ix σ σ' → Q σ' H) → g v σ H Q
structure ZGs (X : Cx) (ts : List Expr) (f : List P → Sl → Option Sl) (ix : List Nat) : Prop where
  run : ∃ g, PGs X ts g ∧ ∀ vs xs σ H θ sl sl' Q, SV X.K θ H σ sl → FzAll X.K H vs xs → f xs sl = some sl' → (∀ σ', SV X.K θ H σ' sl' → But ix σ σ' → Q σ' H) → g vs σ H Q
def tgN (i : Nat) : Tg := fun d sl => some (sl.set i (some d))
def tgsNil : List P → Sl → Option Sl := fun xs sl => match xs with
  | [] => some sl
  | _ => none
def tgsCons (f : Tg) (r : List P → Sl → Option Sl) : List P → Sl → Option Sl := fun xs sl => match xs with
  | x :: xs => match f (.p x) sl with
    | some sl1 => r xs sl1
    | none => none
  | [] => none
def tgT (f : List P → Sl → Option Sl) : Tg := fun d sl => match d with
  | .p (.tuple xs) => f xs sl
  | _ => none
section
variable {X : Cx} {E : XK}
theorem SV.set {K : PySem.W.Frag} {θ : List Addr} {H : Hp} {σ : L2.St} {sl : Sl} {i : Nat} {v : V} {d : D} (h : SV K θ H σ sl) (r : Dr K θ H v d) : SV K θ H (σ.set i (some v)) (sl.set i (some d)) := by
  refine ⟨by rw [List.length_set, List.length_set]; exact h.len, fun j d' e => ?_⟩
  by_cases hj : i = j
  · subst hj
    have hl : i < sl.length := by
      have := (List.getElem?_eq_some_iff.mp e).1
      rw [List.length_set] at this
      exact this
    rw [List.getElem?_set_self hl] at e
    cases e
    exact ⟨v, List.getElem?_set_self (by rw [← h.len]; exact hl), r⟩
  · rw [List.getElem?_set_ne hj] at e
    rw [List.getElem?_set_ne hj]
    exact h.at_ j d' e
theorem ZG.name (nd : X.N.Nodup) (i : Nat) {x : Str} {pos : Pos} (hi : X.N[i]? = some x := by rfl) (hx : Loc X.env.scope x := by first | exact .inl rfl | exact .inr rfl)
    (hf : X.fn x = true ∨ X.env.scope.names.lookup x = some .local := by first | exact .inl rfl | exact .inr rfl) : ZG X (.Name x pos) (tgN i) [i] :=
  ⟨_, pg_name nd hi hx hf, fun v d σ H θ sl sl' Q hs r e q => by
    cases e
    exact q _ (hs.set r) ⟨List.length_set, fun j hj => List.getElem?_set_ne (fun z => hj (by simp [z]))⟩⟩
theorem ZGs.nil : ZGs X [] tgsNil [] :=
  ⟨_, pgs_nil, fun vs xs σ H θ sl sl' Q hs r e q => by
    cases r with
    | nil => cases e; exact ⟨rfl, q σ hs ⟨rfl, fun _ _ => rfl⟩⟩
    | cons a b => cases e⟩
theorem ZGs.cons {e : Expr} {es : List Expr} {f : Tg} {r : List P → Sl → Option Sl} {ix jx : List Nat} (h : ZG X e f ix) (hr : ZGs X es r jx) (hs : (assignEach (e :: es) X.env).map (·.2) = assign e X.env :: (assignEach es X.env).map (·.2) := by rfl) :
    ZGs X (e :: es) (tgsCons f r) (ix ++ jx) := by
  obtain ⟨g, pg, q⟩ := h.run
  obtain ⟨gr, pr, qr⟩ := hr.run
  refine ⟨_, pgs_cons pg pr hs, fun vs xs σ H θ sl sl' Q hsv rr e k => ?_⟩
  cases rr with
  | nil => cases e
  | cons a b =>
    rename_i v vs d ds
    unfold tgsCons at e
    simp only at e
    cases e1 : f (.p d) sl with
    | none => rw [e1] at e; cases e
    | some sl1 =>
      rw [e1] at e
      refine ⟨v, vs, rfl, q v (.p d) σ H θ sl sl1 _ hsv a e1 fun σ1 h1 f1 => ?_⟩
      refine qr vs ds σ1 H θ sl1 sl' _ h1 b e fun σ2 h2 f2 => k σ2 h2 ⟨f2.1.trans f1.1, fun j hj => ?_⟩
      rw [List.mem_append, not_or] at hj
      rw [f2.2 j hj.2, f1.2 j hj.1]
theorem ZG.tup {es : List Expr} {k n : Nat} {pos : Pos} {f : List P → Sl → Option Sl} {ix : List Nat} (zx : X.calm = true) (h : ZGs X es f ix) (hlen : ∀ xs sl sl', f xs sl = some sl' → xs.length = n)
    (hn : (assignEach es X.env).length = n := by rfl) (hst : (assignEach es X.env).findIdx? (·.1) = none := by rfl) : ZG X (.Tuple es k pos) (tgT f) ix := by
  obtain ⟨g, pg, q⟩ := h.run
  refine ⟨_, pg_tup zx pg hn hst, fun v d σ H θ sl sl' Q hs r e kk => ?_⟩
  unfold tgT at e
  split at e
  · rename_i xs
    cases r with
    | tup k1 k2 => exact ⟨_, _, rfl, k1, by rw [k2.length]; exact hlen _ _ _ e, q _ xs σ H θ sl sl' Q hs k2 e kk⟩
  · cases e
theorem len_nil : ∀ xs sl sl', tgsNil xs sl = some sl' → xs.length = 0 := fun xs sl sl' h => by
  cases xs with
  | nil => rfl
  | cons x r => cases h
theorem len_cons {f : Tg} {r : List P → Sl → Option Sl} {n : Nat} (h : ∀ xs sl sl', r xs sl = some sl' → xs.length = n) : ∀ xs sl sl', tgsCons f r xs sl = some sl' → xs.length = n + 1 := fun xs sl sl' e => by
  cases xs with
  | nil => cases e
  | cons x xs =>
    unfold tgsCons at e
    simp only at e
    cases e1 : f (.p x) sl with
    | none => rw [e1] at e; cases e
    | some sl1 => rw [e1] at e; rw [List.length_cons, h _ _ _ e]
/-- (a, b), (a, b, c) of names -/
theorem ZG.two {a b : Expr} {f g : Tg} {i j : List Nat} {k : Nat} {pos : Pos} (zx : X.calm = true) (h : ZG X a f i) (h' : ZG X b g j) (hs : (assignEach [a, b] X.env).map (·.2) = assign a X.env :: (assignEach [b] X.env).map (·.2) := by rfl)
    (hs' : (assignEach [b] X.env).map (·.2) = assign b X.env :: (assignEach [] X.env).map (·.2) := by rfl)
    (hn : (assignEach [a, b] X.env).length = 2 := by rfl) (hst : (assignEach [a, b] X.env).findIdx? (·.1) = none := by rfl) : ZG X (.Tuple [a, b] k pos) (tgT (tgsCons f (tgsCons g tgsNil))) (i ++ (j ++ [])) :=
  ZG.tup zx (ZGs.cons h (ZGs.cons h' .nil hs') hs) (len_cons (len_cons len_nil)) hn hst
theorem ZG.three {a b c : Expr} {f g u : Tg} {i j m : List Nat} {k : Nat} {pos : Pos} (zx : X.calm = true) (h : ZG X a f i) (h' : ZG X b g j) (h'' : ZG X c u m) (hs : (assignEach [a, b, c] X.env).map (·.2) = assign a X.env :: (assignEach [b, c] X.env).map (·.2) := by rfl)
    (hs' : (assignEach [b, c] X.env).map (·.2) = assign b X.env :: (assignEach [c] X.env).map (·.2) := by rfl) (hs'' : (assignEach [c] X.env).map (·.2) = assign c X.env :: (assignEach [] X.env).map (·.2) := by rfl)
    (hn : (assignEach [a, b, c] X.env).length = 3 := by rfl) (hst : (assignEach [a, b, c] X.env).findIdx? (·.1) = none := by rfl) : ZG X (.Tuple [a, b, c] k pos) (tgT (tgsCons f (tgsCons g (tgsCons u tgsNil)))) (i ++ (j ++ (m ++ []))) :=
  ZG.tup zx (ZGs.cons h (ZGs.cons h' (ZGs.cons h'' .nil hs'') hs') hs) (len_cons (len_cons (len_cons len_nil))) hn hst
end

/-! ### statements -/
inductive OutS where
  | stuck
  | nx (sl : Sl) (M : Store)
  | rt (d : D) (M : Store)
  | exc (e : Ex) (M : Store)
abbrev SC := Sl → Store → OutS
section
variable (K : PySem.W.Frag) (mg : Str → Option Value) (E : XK)
def PostS (N : Ends) (θ : List Addr) (H : Hp) : OutS → Prop
  | .stuck => False
  | .nx sl M => ∀ σ' H' θ', Go θ θ' H H' → SV K θ' H' σ' sl → SR K θ' H' M → N.nx σ' H'
  | .rt d M => ∀ v H' θ', Go θ θ' H H' → SR K θ' H' M → Dr K θ' H' v d → N.rt v H'
  | .exc x M' => ∀ cls dd H' θ', Go θ θ' H H' → SR K θ' H' M' → ExOk K mg H' x cls dd → E cls dd H'
end
theorem PostS.go {K : PySem.W.Frag} {mg : Str → Option Value} {E : XK} {N : Ends} {θ θ1 : List Addr} {H H1 : Hp} {o : OutS} (g : Go θ θ1 H H1) (h : PostS K mg E N θ H o) : PostS K mg E N θ1 H1 o := by
  cases o with
  | stuck => exact h
  | nx a M' => exact fun b H' θ' g' s r => h b H' θ' (g.trans g') s r
  | rt a M' => exact fun b H' θ' g' s r => h b H' θ' (g.trans g') s r
  | exc x M' => exact fun c d H' θ' g' s r => h c d H' θ' (g.trans g') s r
/-- an expression's outcome, then a statement's -/
def Out.thn {α : Type} : Out α → (α → Store → OutS) → OutS
  | .ok a M, k => k a M
  | .stuck, _ => .stuck
  | .exc e M, _ => .exc e M
@[simp] theorem Out.thn_ok {α : Type} (a : α) (M : Store) (k : α → Store → OutS) : (Out.ok a M).thn k = k a M := id rfl
@[simp] theorem Out.thn_stuck {α : Type} (k : α → Store → OutS) : (Out.stuck : Out α).thn k = .stuck := id rfl
theorem PostS.thn {K : PySem.W.Frag} {mg : Str → Option Value} {E : XK} {α β : Type} {R : List Addr → Hp → β → α → Prop} {Q : β → Hp → Prop} {N : Ends} {θ : List Addr} {H : Hp} {o : Out α} {k : α → Store → OutS} (h : PostS K mg E N θ H (o.thn k))
    (f : ∀ a M1 b H1 θ1, Go θ θ1 H H1 → SR K θ1 H1 M1 → R θ1 H1 b a → PostS K mg E N θ1 H1 (k a M1) → Q b H1) : Post K mg E R Q θ H o := by
  cases o with
  | stuck => exact h
  | ok a M' => exact fun b H' θ' g s r => f a M' b H' θ' g s r (PostS.go g h)
  | exc x M' => exact h
def ZS (X : Cx) (E : XK) (st : Stmt) (c : SC) : Prop := ∃ t, PS X st t ∧ ∀ σ H θ sl M N, SV X.K θ H σ sl → SR X.K θ H M → PostS X.K X.mg E N θ H (c sl M) → t N σ H
def ZB (X : Cx) (E : XK) (sts : List Stmt) (c : SC) : Prop := ∃ t, PSs X sts t ∧ ∀ σ H θ sl M N, SV X.K θ H σ sl → SR X.K θ H M → PostS X.K X.mg E N θ H (c sl M) → t N σ H
def sskip : SC := fun sl M => .nx sl M
def OutS.seq : OutS → SC → OutS
  | .nx sl M, k => k sl M
  | .rt d M, _ => .rt d M
  | .exc e M, _ => .exc e M
  | .stuck, _ => .stuck
@[simp] theorem OutS.seq_nx (sl : Sl) (M : Store) (k : SC) : (OutS.nx sl M).seq k = k sl M := id rfl
@[simp] theorem OutS.seq_rt (d : D) (M : Store) (k : SC) : (OutS.rt d M).seq k = .rt d M := id rfl
@[simp] theorem OutS.seq_stuck (k : SC) : OutS.stuck.seq k = .stuck := id rfl
def sseq (a b : SC) : SC := fun sl M => (a sl M).seq b
def sset (i : Nat) (c : ZC) : SC := fun sl M => (c sl M).thn fun d M1 => .nx (sl.set i (some d)) M1
def sret (c : ZC) : SC := fun sl M => (c sl M).thn fun d M1 => .rt d M1
def sretN : SC := fun sl M => .rt (.p .none) M
def sexpr (c : ZC) : SC := fun sl M => (c sl M).thn fun _ M1 => .nx sl M1
def sif (t : ZCb) (a b : SC) : SC := fun sl M => (t sl M).thn fun k M1 => if k = true then a sl M1 else b sl M1
/-- target = e -/
def stg (f : Tg) (c : ZC) : SC := fun sl M => (c sl M).thn fun d M1 => match f d sl with
  | some sl1 => .nx sl1 M1
  | none => .stuck
/-- a, b = e1, e2 -/
def setAll : List Nat → List D → Sl → Option Sl
  | [], [], sl => some sl
  | i :: is, d :: ds, sl => setAll is ds (sl.set i (some d))
  | _, _, _ => none
def spar (is : List Nat) (c : ZCs) : SC := fun sl M => (c sl M).thn fun ds M1 => match setAll is ds sl with
  | some sl1 => .nx sl1 M1
  | none => .stuck
section
variable {X : Cx} {E : XK} {e a b : Expr} {st : Stmt} {rest body orelse : List Stmt} {pos pos' : Pos} {c d : SC} {ca cb : ZC} {ta : ZCb} {cs : ZCs} {tg : Expr} {f : Tg} {ix : List Nat}
theorem ZB.nil : ZB X E [] sskip := ⟨_, pss_nil, fun σ H θ sl M N hs hm h => h σ H θ .refl hs hm⟩
theorem ZB.cons (h : ZS X E st c) (hr : ZB X E rest d) : ZB X E (st :: rest) (sseq c d) := by
  obtain ⟨t, p, q⟩ := h
  obtain ⟨u, pr, qr⟩ := hr
  refine ⟨_, pss_cons p pr, fun σ H θ sl M N hs hm h => q σ H θ sl M _ hs hm ?_⟩
  unfold sseq at h
  cases e : c sl M with
  | stuck => rw [e] at h; exact h
  | nx sl1 M1 => rw [e] at h; exact fun σ' H' θ' g s r => qr σ' H' θ' sl1 M1 N s r (PostS.go g h)
  | rt d M1 => rw [e] at h; exact h
  | exc x M1 => rw [e] at h; exact h
theorem ZB.one (h : ZS X E st c) : ZB X E [st] c := by
  obtain ⟨t, p, q⟩ := h
  exact ⟨_, pss_one p, q⟩
theorem ZS.pass : ZS X E (.Pass pos) sskip := ⟨_, ps_pass, fun σ H θ sl M N hs hm h => h σ H θ .refl hs hm⟩
theorem ZS.doc {x j} : ZS X E (.Expr (.Constant (.str x) j pos') pos) sskip := ⟨_, ps_doc, fun σ H θ sl M N hs hm h => h σ H θ .refl hs hm⟩
theorem ZS.expr (he : ZE X E e ca) (hs : swapsWith e none pos.line X.env = pure false := by rfl) : ZS X E (.Expr e pos) (sexpr ca) := by
  obtain ⟨t, p, q⟩ := he
  exact ⟨_, ps_expr p hs, fun σ H θ sl M N hs hm h => q σ H θ sl M _ hs hm (PostS.thn h fun d M1 v H1 θ1 g1 m1 r1 h1 => h1 σ H1 θ1 .refl (hs.go g1) m1)⟩
theorem ZS.ret (he : ZE X E e ca) : ZS X E (.Return (some e) pos) (sret ca) := by
  obtain ⟨t, p, q⟩ := he
  exact ⟨_, ps_ret p, fun σ H θ sl M N hs hm h => q σ H θ sl M _ hs hm (PostS.thn h fun d M1 v H1 θ1 g1 m1 r1 h1 => h1 v H1 θ1 .refl m1 r1)⟩
theorem ZS.retN : ZS X E (.Return none pos) sretN := ⟨_, ps_retN, fun σ H θ sl M N hs hm h => h .non H θ .refl hm Fz.non⟩
theorem ZS.ife (hc : ZT X E e ta) (ha : ZB X E body c) (hb : ZB X E orelse d) : ZS X E (.If e body orelse pos) (sif ta c d) := by
  obtain ⟨t, p, q⟩ := hc
  obtain ⟨u, pa, qa⟩ := ha
  obtain ⟨w, pb, qb⟩ := hb
  refine ⟨_, ps_if p pa pb, fun σ H θ sl M N hs hm h => q σ H θ sl M _ hs hm (PostS.thn h fun k M1 k' H1 θ1 g1 m1 r1 h1 => ?_)⟩
  cases r1
  cases k with
  | true => exact (if_pos rfl).mpr (qa σ H1 θ1 sl M1 N (hs.go g1) m1 (by simpa using h1))
  | false => exact (if_neg Bool.false_ne_true).mpr (qb σ H1 θ1 sl M1 N (hs.go g1) m1 (by simpa using h1))
theorem ZS.set (nd : X.N.Nodup) (i : Nat) {x : Str} (he : ZE X E e ca) (hi : X.N[i]? = some x := by rfl) (hx : Loc X.env.scope x := by first | exact .inl rfl | exact .inr rfl) (hs : swapsWith e (some (.Name x pos')) pos.line X.env = pure false := by rfl)
    (hf : X.fn x = true ∨ X.env.scope.names.lookup x = some .local := by first | exact .inl rfl | exact .inr rfl) : ZS X E (.Assign [.Name x pos'] e pos) (sset i ca) := by
  obtain ⟨t, p, q⟩ := he
  exact ⟨_, ps_set nd hi hx p hs hf, fun σ H θ sl M N hs hm h => q σ H θ sl M _ hs hm (PostS.thn h fun d M1 v H1 θ1 g1 m1 r1 h1 => h1 _ H1 θ1 .refl ((hs.go g1).set r1) m1)⟩
theorem ZS.asg (he : ZE X E e ca) (hg : ZG X tg f ix) (hs : swapsWithSole [tg] e pos.line X.env = pure false := by rfl) (hw : swappedStores [tg] e X.env = pure none := by rfl)
    (h1 : (assignEach [tg] X.env).map (·.2) = [assign tg X.env] := by rfl) : ZS X E (.Assign [tg] e pos) (stg f ca) := by
  obtain ⟨t, p, q⟩ := he
  obtain ⟨g, pg, qg⟩ := hg.run
  refine ⟨_, ps_asg p pg hs hw h1, fun σ H θ sl M N hs hm h => q σ H θ sl M _ hs hm (PostS.thn h fun d M1 v H1 θ1 g1 m1 r1 h1 => ?_)⟩
  cases e1 : f d sl with
  | none => rw [e1] at h1; exact h1.elim
  | some sl1 =>
    rw [e1] at h1
    exact qg v d σ H1 θ1 sl sl1 _ (hs.go g1) r1 e1 fun σ' h' _ => h1 σ' H1 θ1 .refl h' m1
/-- a, b = e1, e2, local names -/
theorem ZS.par2 (zx : ZX X) (i j : Nat) {x y : Str} {px py pt : Pos} {kt k2 : Nat} {pt2 : Pos} (ha : ZA X E [a, b] cs) (hi : X.N[i]? = some x := by rfl) (hj : X.N[j]? = some y := by rfl) (hij : i ≠ j := by decide)
    (hx : X.env.scope.names.lookup x = some .local := by rfl) (hy : X.env.scope.names.lookup y = some .local := by rfl) (hw : swappedStores [.Tuple [.Name x px, .Name y py] kt pt] (.Tuple [a, b] k2 pt2) X.env = pure (some [x, y]) := by rfl)
    (hs : swapsWithSole [.Tuple [.Name x px, .Name y py] kt pt] (.Tuple [a, b] k2 pt2) pos.line X.env = pure false := by rfl) : ZS X E (.Assign [.Tuple [.Name x px, .Name y py] kt pt] (.Tuple [a, b] k2 pt2) pos) (spar [i, j] cs) := by
  obtain ⟨t, p, q⟩ := ha
  refine ⟨_, ps_par zx.calm zx.nd hi hj hij hx hy p hw hs, fun σ H θ sl M N hs hm h => q σ H θ sl M _ hs hm (PostS.thn h fun ds M1 vs H1 θ1 g1 m1 r1 h1 => ?_)⟩
  cases r1 with
  | nil => exact h1.elim
  | cons a1 r1 =>
    cases r1 with
    | nil => exact h1.elim
    | cons a2 r2 =>
      cases r2 with
      | cons _ _ => exact h1.elim
      | nil => exact ⟨_, _, rfl, h1 _ H1 θ1 .refl (((hs.go g1).set a1).set a2) m1⟩
/-! the same by a tuple that is made and taken apart -/
theorem ZS.parT {ts es : List Expr} {is : List Nat} {kt k2 n : Nat} {pt pt2 : Pos} (zx : ZX X) (ha : ZA X E es cs) (hg : ∃ g, PGs X ts g ∧ ∀ vs ds σ H θ sl sl' Q, SV X.K θ H σ sl → Drs X.K θ H vs ds → setAll is ds sl = some sl' → (∀ σ', SV X.K θ H σ' sl' → Q σ' H) → g vs σ H Q)
    (hl : is.length = n := by rfl) (hn : (assignEach ts X.env).length = n := by rfl) (hst : (assignEach ts X.env).findIdx? (·.1) = none := by rfl) (hsz : n ≤ 100 := by decide)
    (hs : swapsWithSole [.Tuple ts kt pt] (.Tuple es k2 pt2) pos.line X.env = pure false := by rfl) (hw : swappedStores [.Tuple ts kt pt] (.Tuple es k2 pt2) X.env = pure none := by rfl)
    (h1 : (assignEach [.Tuple ts kt pt] X.env).map (·.2) = [assign (.Tuple ts kt pt) X.env] := by rfl) : ZS X E (.Assign [.Tuple ts kt pt] (.Tuple es k2 pt2) pos) (spar is cs) := by
  obtain ⟨t, p, q⟩ := ha
  obtain ⟨g, pg, qg⟩ := hg
  refine ⟨_, ps_asg (pe_tup p) (pg_tup zx.calm pg hn hst) hs hw h1, fun σ H θ sl M N hs hm h => q σ H θ sl M _ hs hm (PostS.thn h fun ds M1 vs H1 θ1 g1 m1 r1 h1 => ?_)⟩
  cases e1 : setAll is ds sl with
  | none => rw [e1] at h1; exact h1.elim
  | some sl1 =>
    rw [e1] at h1
    have hlen : ds.length = n := by
      rw [← hl]
      clear h1 h q qg p pg
      have go : ∀ (is : List Nat) (ds : List D) (sl : Sl), setAll is ds sl = some sl1 → ds.length = is.length := by
        intro is
        induction is with
        | nil => intro ds sl e; cases ds with
          | nil => rfl
          | cons _ _ => cases e
        | cons i is ih => intro ds sl e; cases ds with
          | nil => cases e
          | cons d ds => rw [List.length_cons, List.length_cons, ih ds _ e]
      exact go is ds sl e1
    have vlen : vs.length = n := by rw [Paired.length r1]; exact hlen
    refine ⟨by rw [vlen, sizeLine_eq]; omega, fun ad had => ?_⟩
    have g2 := Go.out (u := .tup vs) m1 had
    refine ⟨ad, vs, rfl, SqT.new, vlen, qg vs ds σ _ θ1 sl sl1 _ ((hs.go g1).go g2) (Drs.go g2 r1) e1 fun σ' h' => h1 σ' _ θ1 g2 h' (m1.out had)⟩
theorem tn_nil : ∃ g, PGs X [] g ∧ ∀ vs ds σ H θ sl sl' Q, SV X.K θ H σ sl → Drs X.K θ H vs ds → setAll [] ds sl = some sl' → (∀ σ', SV X.K θ H σ' sl' → Q σ' H) → g vs σ H Q :=
  ⟨_, pgs_nil, fun vs ds σ H θ sl sl' Q hs r e q => by
    cases r with
    | nil => cases e; exact ⟨rfl, q σ hs⟩
    | cons _ _ => cases e⟩
theorem tn_cons {is : List Nat} {ts : List Expr} (nd : X.N.Nodup) (i : Nat) {x : Str} (h : ∃ g, PGs X ts g ∧ ∀ vs ds σ H θ sl sl' Q, SV X.K θ H σ sl → Drs X.K θ H vs ds → setAll is ds sl = some sl' → (∀ σ', SV X.K θ H σ' sl' → Q σ' H) → g vs σ H Q)
    (hi : X.N[i]? = some x := by rfl) (hx : Loc X.env.scope x := by first | exact .inl rfl | exact .inr rfl) (hf : X.fn x = true ∨ X.env.scope.names.lookup x = some .local := by first | exact .inl rfl | exact .inr rfl)
    (hs : (assignEach (.Name x pos :: ts) X.env).map (·.2) = assign (.Name x pos) X.env :: (assignEach ts X.env).map (·.2) := by rfl) :
    ∃ g, PGs X (.Name x pos :: ts) g ∧ ∀ vs ds σ H θ sl sl' Q, SV X.K θ H σ sl → Drs X.K θ H vs ds → setAll (i :: is) ds sl = some sl' → (∀ σ', SV X.K θ H σ' sl' → Q σ' H) → g vs σ H Q := by
  obtain ⟨g, pg, q⟩ := h
  refine ⟨_, pgs_cons (pg_name nd hi hx hf) pg hs, fun vs ds σ H θ sl sl' Q hsv r e k => ?_⟩
  cases r with
  | nil => cases e
  | cons a b => exact ⟨_, _, rfl, q _ _ _ H θ _ sl' Q (hsv.set a) b e k⟩
end
end Z

/-! Z: for, while, list comprehensions. -/
namespace Z
open PySem PySem.Spec PyProof.Rows L2

/-! ### for -/
def forP (f : Tg) (body : SC) : List D → SC
  | [], sl, M => .nx sl M
  | d :: ds, sl, M => match f d sl with
    | some sl1 => (body sl1 M).seq (forP f body ds)
    | none => .stuck
@[simp] theorem forP_nil (f : Tg) (body : SC) (sl : Sl) (M : Store) : forP f body [] sl M = .nx sl M := id rfl
def sfor (f : Tg) (ci : ZCs) (body : SC) : SC := fun sl M => (ci sl M).thn fun ds M1 => forP f body ds sl M1
section
variable {X : Cx} {E : XK} {tg iter : Expr} {body : List Stmt} {pos : Pos} {f : Tg} {ix : List Nat} {ci : ZCs} {c : SC}
theorem ZS.for_ (zx : ZX X) (hi : ZI X E tg iter ci) (hg : ZG X tg f ix) (hb : ZB X E body c) (hs : ∀ x, foldedSetIterable iter X.env x = pure x := by intro _; rfl) : ZS X E (.For tg iter body [] pos) (sfor f ci c) := by
  obtain ⟨wi, pi, qi⟩ := hi
  obtain ⟨g, pg, qg⟩ := hg.run
  obtain ⟨tb, pb, qb⟩ := hb
  refine ⟨_, ps_for zx.own zx.calm pi pg pb hs, fun σ H θ sl M N hs hm h => qi σ H θ sl M _ hs hm (PostS.thn h fun ds M1 J H1 θ1 g1 m1 w1 h1 => ?_)⟩
  refine ⟨fun i m σ H => ∃ θ sl M, Go θ1 θ H1 H ∧ SV X.K θ H σ sl ∧ SR X.K θ H M ∧ m = ds.length - i ∧ i ≤ ds.length ∧ PostS X.K X.mg E N θ H (forP f c (ds.drop i) sl M), ⟨_, θ1, sl, M1, .refl, hs.go g1, m1, rfl, Nat.zero_le _, h1⟩, ?_⟩
  rintro i m σ2 H2 ⟨θ2, sl2, M2, g2, s2, m2, rfl, hi, h2⟩
  by_cases hlt : i < ds.length
  · refine .inr ⟨w1.go i H2 θ2 hlt g2, fun σ' H' => ∃ θ' sl' M', Go θ1 θ' H1 H' ∧ SV X.K θ' H' σ' sl' ∧ SR X.K θ' H' M' ∧ PostS X.K X.mg E N θ' H' (forP f c (ds.drop (i + 1)) sl' M'), ?_, ?_⟩
    · rintro σ' H' ⟨θ', sl', M', a, b, c', d⟩
      exact ⟨ds.length - (i + 1), by omega, θ', sl', M', a, b, c', rfl, hlt, d⟩
    · intro x H3 y
      obtain ⟨d, ed, g3, m3, r3⟩ := w1.yld i H2 θ2 M2 x H3 hlt g2 m2 y
      have e0 : ds.drop i = d :: ds.drop (i + 1) := by
        rw [List.drop_eq_getElem_cons hlt]
        rw [List.getElem?_eq_getElem hlt] at ed
        rw [Option.some.inj ed]
      rw [e0] at h2
      unfold forP at h2
      cases e1 : f d sl2 with
      | none => rw [e1] at h2; exact h2.elim
      | some sl3 =>
        rw [e1] at h2
        simp only at h2
        refine qg x d σ2 H3 θ2 sl2 sl3 _ (s2.go g3) r3 e1 fun σ3 s3 _ => ?_
        refine qb σ3 H3 θ2 sl3 M2 _ s3 m3 ?_
        have h3 := PostS.go g3 h2
        cases e2 : c sl3 M2 with
        | stuck => rw [e2] at h3; exact h3
        | nx sl4 M4 => rw [e2] at h3; exact fun σ' H' θ' g s r => ⟨θ', sl4, M4, (g2.trans g3).trans g, s, r, PostS.go g h3⟩
        | rt d4 M4 => rw [e2] at h3; exact h3
        | exc x4 M4 => rw [e2] at h3; exact h3
  · have e : i = ds.length := by omega
    subst e
    refine .inl ⟨w1.stop _ H2 θ2 (Nat.le_refl _) g2, ?_⟩
    rw [List.drop_length] at h2
    exact h2 σ2 H2 θ2 .refl s2 m2
end

/-! ### while -/
def whileN (t : ZCb) (body : SC) : Nat → SC
  | 0, _, _ => .stuck
  | n + 1, sl, M => (t sl M).thn fun k M1 => if k = true then (body sl M1).seq (whileN t body n) else .nx sl M1
/-- a while of at most n turns -/
def swhile (n : Nat) (t : ZCb) (body : SC) : SC := whileN t body n
section
variable {X : Cx} {E : XK} {e : Expr} {body : List Stmt} {pos : Pos} {t : ZCb} {c : SC}
theorem ZS.while_ (zx : ZX X) (n : Nat) (ht : ZT X E e t) (hb : ZB X E body c) : ZS X E (.While e body [] pos) (swhile n t c) := by
  obtain ⟨tt, pt, qt⟩ := ht
  obtain ⟨tb, pb, qb⟩ := hb
  refine ⟨_, ps_while zx.own pt pb, fun σ H θ sl M N hs hm h => ?_⟩
  refine ⟨fun k σ H => ∃ θ sl M, SV X.K θ H σ sl ∧ SR X.K θ H M ∧ PostS X.K X.mg E N θ H (whileN t c k sl M), ⟨n, θ, sl, M, hs, hm, h⟩, ?_⟩
  rintro k σ1 H1 ⟨θ1, sl1, M1, s1, m1, h1⟩
  cases k with
  | zero => exact h1.elim
  | succ k =>
    unfold whileN at h1
    refine qt σ1 H1 θ1 sl1 M1 _ s1 m1 (PostS.thn h1 fun b M2 b' H2 θ2 g2 m2 r2 h2 => ?_)
    cases r2
    cases b with
    | false => exact (if_neg Bool.false_ne_true).mpr ((show PostS X.K X.mg E N θ2 H2 (.nx sl1 M2) from by simpa using h2) σ1 H2 θ2 .refl (s1.go g2) m2)
    | true =>
      refine (if_pos rfl).mpr ⟨fun σ' H' => ∃ θ' sl' M', SV X.K θ' H' σ' sl' ∧ SR X.K θ' H' M' ∧ PostS X.K X.mg E N θ' H' (whileN t c k sl' M'), ?_, ?_⟩
      · rintro σ' H' ⟨θ', sl', M', a, b, d⟩
        exact ⟨k, Nat.lt_succ_self k, θ', sl', M', a, b, d⟩
      · refine qb σ1 H2 θ2 sl1 M2 _ (s1.go g2) m2 ?_
        have h3 : PostS X.K X.mg E N θ2 H2 ((c sl1 M2).seq (whileN t c k)) := by simpa using h2
        cases e2 : c sl1 M2 with
        | stuck => rw [e2] at h3; exact h3
        | nx sl4 M4 => rw [e2] at h3; exact fun σ' H' θ' g s r => ⟨θ', sl4, M4, s, r, PostS.go g h3⟩
        | rt d4 M4 => rw [e2] at h3; exact h3
        | exc x4 M4 => rw [e2] at h3; exact h3
end

/-! ### list comprehensions -/
def noexc {α : Type} : Out α → Out α
  | .exc _ _ => .stuck
  | o => o
@[simp] theorem noexc_ok {α : Type} (a : α) (M : Store) : noexc (.ok a M) = .ok a M := id rfl
def wipeS (sl : Sl) : List Nat → Sl
  | [] => sl
  | v :: vs => (wipeS sl vs).set v none
/-- the items of a comprehension; sl: the slots, the block's own forgotten -/
def compP (f : Tg) (t : ZCb) (e : ZC) (sl : Sl) : List D → Store → Out (List D)
  | [], M => .ok [] M
  | d :: ds, M => match f d sl with
    | some sl1 => (noexc (t sl1 M)).bind fun k M1 => if k = true then (noexc (e sl1 M1)).bind fun y M2 => (compP f t e sl ds M2).bind fun ys M3 => .ok (y :: ys) M3 else compP f t e sl ds M1
    | none => .stuck
def ztyes : ZCb := fun _ M => .ok true M
/-- fin: frzl (nobody changes it) or mkLst -/
def zcomp (fin : List D → Store → Out D) (vs : List Nat) (ci : ZCs) (f : Tg) (t : ZCb) (e : ZC) : ZC := fun sl M => (ci sl M).bind fun ds M1 => (compP f t e (wipeS sl vs) ds M1).bind fin
/-- the heap without an address -/
def hid (H : Hp) (p : Addr) : Hp := fun b => if b = p then none else H b
theorem hid_ne {H : Hp} {p b : Addr} (h : b ≠ p) : hid H p b = H b := if_neg h
theorem hid_same {H : Hp} {p : Addr} : hid H p p = none := if_pos rfl
theorem upd_hid {H : Hp} {p : Addr} {u : HO} (h : H p = some u) : upd (hid H p) p u = H := by
  funext b
  by_cases e : b = p
  · subst e; rw [upd_same, h]
  · rw [upd_ne e, hid_ne e]
section
variable {K : PySem.W.Frag} {θ θ1 : List Addr} {H H1 : Hp} {p : Addr} {u : HO}
theorem keep_hid (h : H p = some u) (nf : ¬ Fro u) : Keep H (hid H p) := fun a w e f => by
  rw [hid_ne (fun z => by rw [z, h] at e; cases e; exact nf f)]; exact e
theorem SR.hid {M : Store} (s : SR K θ H M) (h : H p = some u) (nf : ¬ Fro u) (np : p ∉ θ) : SR K θ (Z.hid H p) M := by
  refine ⟨s.len, s.nd, fun i o a e1 e2 => (s.ob i o a e1 e2).carry (fun {v d} r => ?_) (keep_hid h nf) (hid_ne fun z => np (z ▸ List.mem_of_getElem? e2)), s.low⟩
  cases d with
  | p x => exact Fz.keep (keep_hid h nf) r
  | ref i => exact r
theorem Dr.hid {v : V} {d : D} (r : Dr K θ H v d) (h : H p = some u) (nf : ¬ Fro u) : Dr K θ (Z.hid H p) v d := by
  cases d with
  | p x => exact Fz.keep (keep_hid h nf) r
  | ref i => exact r
/-- behind what ran beside an object at p that the store does not know -/
theorem Go.hid {H4 : Hp} (g : Go θ θ1 (L2.upd H p u) H4) (hp : H p = none) : Go θ θ1 H (Z.hid H4 p) := by
  refine ⟨g.pre, fun a w e c => ?_, fun a m n => ?_⟩
  · have ne : a ≠ p := ne_of_none e hp
    rw [hid_ne ne]
    exact g.fr a w (by rw [upd_ne ne]; exact e) c
  · have q := g.fresh a m n
    by_cases ne : a = p
    · rw [ne]; exact hp
    · rw [upd_ne ne] at q; exact q
theorem Go.notin {H4 : Hp} (g : Go θ θ1 (L2.upd H p u) H4) (np : p ∉ θ) : p ∉ θ1 := fun m => by
  have q := g.fresh p m np
  rw [upd_same] at q; cases q
theorem Go.same {H4 : Hp} (g : Go θ θ1 (L2.upd H p u) H4) (np : p ∉ θ) : H4 p = some u := g.fr p u upd_same (.inl np)
end
theorem wipe_get : ∀ (vs : List Nat) (σ : L2.St) (j : Nat), (wipe σ vs)[j]? = if j ∈ vs then (if j < σ.length then some none else none) else σ[j]?
  | [], σ, j => by simp [wipe]
  | v :: vs, σ, j => by
    unfold wipe
    by_cases h : v = j
    · subst h
      by_cases hl : v < σ.length
      · rw [List.getElem?_set_self (by rw [wipe_length]; exact hl)]
        simp [hl]
      · rw [List.getElem?_eq_none (by rw [List.length_set, wipe_length]; omega)]
        simp [hl]
    · rw [List.getElem?_set_ne h, wipe_get vs σ j]
      have : (j = v) = False := by simp [Ne.symm h]
      simp [this]
theorem wipe_same {σ σ' : L2.St} {vs ix : List Nat} (hl : σ'.length = σ.length) (h : ∀ j, j ∉ ix → σ'[j]? = (wipe σ vs)[j]?) (hsub : ∀ j ∈ ix, j ∈ vs) : wipe σ' vs = wipe σ vs := by
  apply List.ext_getElem?
  intro j
  rw [wipe_get, wipe_get, hl]
  by_cases hj : j ∈ vs
  · rw [if_pos hj, if_pos hj]
  · rw [if_neg hj, if_neg hj, h j (fun z => hj (hsub j z)), wipe_get, if_neg hj]
theorem SV.wipe {K : PySem.W.Frag} {θ : List Addr} {H : Hp} {σ : L2.St} {sl : Sl} (h : SV K θ H σ sl) : ∀ vs : List Nat, SV K θ H (L2.wipe σ vs) (wipeS sl vs)
  | [] => h
  | v :: vs => by
    have ih := SV.wipe h vs
    unfold L2.wipe wipeS
    refine ⟨by rw [List.length_set, List.length_set]; exact ih.len, fun j d e => ?_⟩
    by_cases hj : v = j
    · subst hj
      by_cases hl : v < (wipeS sl vs).length
      · rw [List.getElem?_set_self hl] at e; cases e
      · rw [List.getElem?_eq_none (by rw [List.length_set]; omega)] at e; cases e
    · rw [List.getElem?_set_ne hj] at e
      rw [List.getElem?_set_ne hj]
      exact ih.at_ j d e
def gZ (K : PySem.W.Frag) (f : Tg) (ix : List Nat) : TG := fun v σ H Q => ∃ d θ sl sl', SV K θ H σ sl ∧ Dr K θ H v d ∧ f d sl = some sl' ∧ ∀ σ', SV K θ H σ' sl' → But ix σ σ' → Q σ' H
theorem ZG.can {X : Cx} {tg : Expr} {f : Tg} {ix : List Nat} (h : ZG X tg f ix) : PG X tg (gZ X.K f ix) := by
  obtain ⟨g, p, q⟩ := h.run
  exact ⟨fun pins s σ H v u Q I r ⟨d, θ, sl, sl', a, b, c, w⟩ => p.run pins s σ H v u Q I r (q v d σ H θ sl sl' Q a b c w)⟩
def ZTs (X : Cx) (E : XK) (ifs : List Expr) (t : ZCb) : Prop := PTs X ifs (tZb X.K X.mg E t)
theorem ZTs.nil {X : Cx} {E : XK} : ZTs X E [] ztyes := by
  refine ⟨fun pins s σ H Q I h => pts_nil.run pins s σ H Q I ?_⟩
  obtain ⟨θ, sl, M, a, b, c⟩ := h
  exact Post.here (show Post X.K X.mg E EqR Q θ H (.ok true M) from c) b rfl
theorem ZTs.one {X : Cx} {E : XK} {e : Expr} {t : ZCb} (h : ZT X E e t) : ZTs X E [e] t := pts_one h.can
theorem compP_noexc {f : Tg} {t : ZCb} {e : ZC} {sl : Sl} {x : Ex} {M' : Store} : ∀ {ds : List D} {M : Store}, compP f t e sl ds M = .exc x M' → False
  | [], M, h => by cases h
  | d :: ds, M, h => by
    unfold compP at h
    cases e1 : f d sl with
    | none => rw [e1] at h; cases h
    | some sl1 =>
      rw [e1] at h
      simp only at h
      cases e2 : t sl1 M with
      | stuck => rw [e2] at h; cases h
      | exc _ _ => rw [e2] at h; cases h
      | ok k M1 =>
        rw [e2] at h
        simp only [noexc_ok, Out.bind_ok] at h
        cases k with
        | false => exact compP_noexc (by simpa using h)
        | true =>
          simp only [if_true] at h
          cases e3 : e sl1 M1 with
          | stuck => rw [e3] at h; cases h
          | exc _ _ => rw [e3] at h; cases h
          | ok y M2 =>
            rw [e3] at h
            simp only [noexc_ok, Out.bind_ok] at h
            cases e4 : compP f t e sl ds M2 with
            | stuck => rw [e4] at h; cases h
            | exc _ _ => exact compP_noexc e4
            | ok _ _ => rw [e4] at h; cases h
/-- what a comprehension's rule asks, from its outcome -/
theorem comp_ok {X : Cx} {E : XK} {fin : List D → Store → Out D} {vs ix : List Nat} {ci : ZCs} {f : Tg} {t : ZCb} {e : ZC} {wi : TI} {Qf : VK}
    (qi : ∀ σ H θ sl M R, SV X.K θ H σ sl → SR X.K θ H M → Post X.K X.mg E (WalkR X.K) R θ H (ci sl M) → wi σ H R) (hsub : ∀ j ∈ ix, j ∈ vs)
    (hsz : ∀ ds M, fin ds M ≠ .stuck → ds.length ≤ sizeLine)
    {σ : L2.St} {H : Hp} {θ : List Addr} {sl : Sl} {M : Store} {Q : VK}
    (hend : ∀ (θ : List Addr) (H : Hp) (M : Store) (acc : List V) (ds : List D) (p : Addr), SR X.K θ H M → H p = none → Drs X.K θ H acc ds → Post X.K X.mg E (Dr X.K) Q θ H (fin ds M) → Qf (.ref p) (upd H p (.lst acc)))
    (hs : SV X.K θ H σ sl) (hm : SR X.K θ H M) (h : Post X.K X.mg E (Dr X.K) Q θ H (zcomp fin vs ci f t e sl M)) :
    tLc wi (gZ X.K f ix) (tZb X.K X.mg E0 t) (tZ X.K X.mg E0 e) vs σ H Qf := by
  refine qi σ H θ sl M _ hs hm (Post.bind h fun ds M1 J H1 θ1 g1 m1 w1 h1 => ?_)
  intro p hp
  refine ⟨fun i m H => ∃ Hv θ M acc ys, H = upd Hv p (.lst acc) ∧ Hv p = none ∧ Go θ1 θ H1 Hv ∧ SR X.K θ Hv M ∧ Drs X.K θ Hv acc ys ∧ m = ds.length - i ∧ i ≤ ds.length ∧
      Post X.K X.mg E (Dr X.K) Q θ Hv ((compP f t e (wipeS sl vs) (ds.drop i) M).bind fun zs M' => fin (ys ++ zs) M'),
    ⟨_, H1, θ1, M1, [], [], rfl, hp, .refl, m1, .nil, rfl, Nat.zero_le _, h1⟩, ?_⟩
  rintro i m H2 ⟨Hv, θ2, M2, acc, ys, rfl, hp2, g2, m2, r2, rfl, hi, h2⟩
  have np : p ∉ θ2 := fun z => m2.apart hp2 p z rfl
  have gB : Go θ2 θ2 Hv (upd Hv p (.lst acc)) := Go.out m2 hp2
  have mB : SR X.K θ2 (upd Hv p (.lst acc)) M2 := m2.out hp2
  by_cases hlt : i < ds.length
  · refine .inr ⟨w1.go i _ θ2 hlt (g2.trans gB), fun H' => ∃ Hv θ M acc ys, H' = upd Hv p (.lst acc) ∧ Hv p = none ∧ Go θ1 θ H1 Hv ∧ SR X.K θ Hv M ∧ Drs X.K θ Hv acc ys ∧
        Post X.K X.mg E (Dr X.K) Q θ Hv ((compP f t e (wipeS sl vs) (ds.drop (i + 1)) M).bind fun zs M' => fin (ys ++ zs) M'), ?_, ?_⟩
    · rintro H' ⟨Hv', θ', M', acc', ys', a1, a2, a3, a4, a5, a6⟩
      exact ⟨ds.length - (i + 1), by omega, Hv', θ', M', acc', ys', a1, a2, a3, a4, a5, rfl, hlt, a6⟩
    · intro x H3 y
      obtain ⟨d, ed, g3, m3, r3⟩ := w1.yld i _ θ2 M2 x H3 hlt (g2.trans gB) mB y
      have e0 : ds.drop i = d :: ds.drop (i + 1) := by
        rw [List.drop_eq_getElem_cons hlt]
        rw [List.getElem?_eq_getElem hlt] at ed
        rw [Option.some.inj ed]
      rw [e0] at h2
      unfold compP at h2
      cases e1 : f d (wipeS sl vs) with
      | none => rw [e1] at h2; exact h2.elim
      | some sl3 =>
        rw [e1] at h2
        simp only at h2
        have sB : SV X.K θ2 H3 (wipe σ vs) (wipeS sl vs) := ((((hs.go g1).go g2).go gB).go g3).wipe vs
        refine ⟨d, θ2, wipeS sl vs, sl3, sB, r3, e1, fun σ3 s3 f3 => ⟨?_, ?_⟩⟩
        · exact wipe_same (f3.1.trans (wipe_length σ vs)) f3.2 hsub
        · obtain ⟨Hv3, e3, hp3, g3', m3'⟩ : ∃ Hv3, H3 = upd Hv3 p (.lst acc) ∧ Hv3 p = none ∧ Go θ2 θ2 Hv Hv3 ∧ SR X.K θ2 Hv3 M2 :=
            ⟨hid H3 p, (upd_hid (g3.same np)).symm, hid_same, g3.hid hp2, m3.hid (g3.same np) (fun z => z) np⟩
          subst e3
          refine ⟨θ2, sl3, M2, s3, m3, ?_⟩
          cases et : t sl3 M2 with
          | stuck => rw [et] at h2; exact h2
          | exc x M4 => rw [et] at h2; exact (show False from h2).elim
          | ok k M4 =>
            rw [et] at h2
            simp only [noexc_ok, Out.bind_ok] at h2
            intro b H4 θ4 g4 m4 rb
            cases rb
            obtain ⟨Hv4, e4, hp4, g4', m4', np4⟩ : ∃ Hv4, H4 = upd Hv4 p (.lst acc) ∧ Hv4 p = none ∧ Go θ2 θ4 Hv3 Hv4 ∧ SR X.K θ4 Hv4 M4 ∧ p ∉ θ4 :=
              ⟨hid H4 p, (upd_hid (g4.same np)).symm, hid_same, g4.hid hp3, m4.hid (g4.same np) (fun z => z) (g4.notin np), g4.notin np⟩
            subst e4
            have r4 : Drs X.K θ4 Hv4 acc ys := Drs.go (g3'.trans g4') r2
            have h4 := Post.go (g3'.trans g4') h2
            cases k with
            | false =>
              exact (if_neg Bool.false_ne_true).mpr ⟨Hv4, θ4, M4, acc, ys, rfl, hp4, (g2.trans g3').trans g4', m4', r4, by simpa using h4⟩
            | true =>
              have h4 : Post X.K X.mg E (Dr X.K) Q θ4 Hv4 (((noexc (e sl3 M4)).bind fun y M2 => (compP f t e (wipeS sl vs) (ds.drop (i + 1)) M2).bind fun ys M3 => .ok (y :: ys) M3).bind fun zs M' => fin (ys ++ zs) M') := by simpa using h4
              refine (if_pos rfl).mpr ⟨θ4, sl3, M4, s3.go g4, m4, ?_⟩
              cases ee : e sl3 M4 with
              | stuck => rw [ee] at h4; exact h4
              | exc x M5 => rw [ee] at h4; exact (show False from h4).elim
              | ok yd M5 =>
                rw [ee] at h4
                simp only [noexc_ok, Out.bind_ok] at h4
                intro v H5 θ5 g5 m5 r5
                obtain ⟨Hv5, e5, hp5, g5', m5'⟩ : ∃ Hv5, H5 = upd Hv5 p (.lst acc) ∧ Hv5 p = none ∧ Go θ4 θ5 Hv4 Hv5 ∧ SR X.K θ5 Hv5 M5 :=
                  ⟨hid H5 p, (upd_hid (g5.same np4)).symm, hid_same, g5.hid hp4, m5.hid (g5.same np4) (fun z => z) (g5.notin np4)⟩
                subst e5
                have r5' : Dr X.K θ5 Hv5 v yd := by
                  have z := r5.hid (p := p) (u := .lst acc) upd_same (fun z => z)
                  have ez : hid (upd Hv5 p (.lst acc)) p = Hv5 := by
                    funext b
                    by_cases eb : b = p
                    · rw [eb, hid_same, hp5]
                    · rw [hid_ne eb, upd_ne eb]
                  rw [ez] at z
                  exact z
                have h5 := Post.go g5' h4
                have eo : ∀ o : Out (List D), ((o.bind fun ys M3 => .ok (yd :: ys) M3).bind fun zs M' => fin (ys ++ zs) M') = o.bind fun zs M' => fin ((ys ++ [yd]) ++ zs) M' := fun o => by
                  cases o <;> simp
                rw [eo] at h5
                have hlen : acc.length < sizeLine := by
                  rw [Paired.length r2]
                  cases ec : compP f t e (wipeS sl vs) (ds.drop (i + 1)) M5 with
                  | stuck => rw [ec] at h5; exact (show False from h5).elim
                  | exc x M6 => exact (compP_noexc ec).elim
                  | ok zs M6 =>
                    rw [ec] at h5
                    have := hsz ((ys ++ [yd]) ++ zs) M6 fun z => by
                      rw [show ((Out.ok zs M6).bind fun zs M' => fin ((ys ++ [yd]) ++ zs) M') = fin ((ys ++ [yd]) ++ zs) M6 from rfl, z] at h5
                      exact h5
                    rw [List.length_append, List.length_append, List.length_singleton] at this
                    omega
                refine ⟨acc, upd_same, hlen, Hv5, θ5, M5, acc ++ [v], ys ++ [yd], by rw [upd_upd], hp5, ((g2.trans g3').trans g4').trans g5', m5', paired_append (Drs.go g5' r4) (.cons r5' .nil), h5⟩
  · have ei : i = ds.length := by omega
    subst ei
    refine .inl ⟨w1.stop _ _ θ2 (Nat.le_refl _) (g2.trans gB), ?_⟩
    rw [List.drop_length] at h2
    have h3 : Post X.K X.mg E (Dr X.K) Q θ2 Hv (fin ys M2) := by simpa [compP] using h2
    exact hend θ2 Hv M2 acc ys p m2 hp2 r2 h3
section
variable {X : Cx} {E : XK} {elt tg iter : Expr} {ifs : List Expr} {scope : Scope} {own : List (Str × Nat)} {pos : Pos} {ix : List Nat} {ci : ZCs} {f : Tg} {t : ZCb} {e : ZC}
theorem frzl_sz {ds : List D} {M : Store} (h : frzl ds M ≠ .stuck) : ds.length ≤ sizeLine := by
  unfold frzl at h
  cases q : pures ds with
  | none => rw [q] at h; exact absurd rfl h
  | some zs =>
    rw [q] at h
    simp only at h
    by_cases l : zs.length ≤ sizeLine
    · rw [pures_eq q, List.length_map]; exact l
    · rw [if_neg l] at h; exact absurd rfl h
theorem mkLst_sz {ds : List D} {M : Store} (h : mkLst ds M ≠ .stuck) : ds.length ≤ sizeLine := by
  unfold mkLst at h
  by_cases l : ds.length ≤ sizeLine
  · exact l
  · rw [if_neg l] at h; exact absurd rfl h
/-- the new list is handed on, or frozen -/
def OrF (Q : VK) : VK := fun v H' => FrzQ Q v H' ∨ Q v H'
structure Fin (X : Cx) (E : XK) (fin : List D → Store → Out D) : Prop where
  sz : ∀ ds M, fin ds M ≠ .stuck → ds.length ≤ sizeLine
  fi : ∀ (θ : List Addr) (H : Hp) (M : Store) (acc : List V) (ds : List D) (Q : VK) (p : Addr), SR X.K θ H M → H p = none → Drs X.K θ H acc ds → Post X.K X.mg E (Dr X.K) Q θ H (fin ds M) → OrF Q (.ref p) (upd H p (.lst acc))
theorem fin_f : Fin X E frzl := ⟨fun _ _ => frzl_sz, fun θ H M acc ds Q p m hp r h => .inl ((frzl_ok h m r).2 p hp)⟩
theorem fin_m : Fin X E mkLst := ⟨fun _ _ => mkLst_sz, fun θ H M acc ds Q p m hp r h => by
  unfold mkLst at h
  by_cases l : ds.length ≤ sizeLine
  · rw [if_pos l] at h; exact .inr (new_lst h m r hp)
  · rw [if_neg l] at h; exact h.elim⟩
theorem pe_orfrz {e : Expr} {t : TE} (h : PE X e t) : PE X e (fun σ H Q => t σ H (OrF Q)) :=
  ⟨fun pins s σ H Q I w => thn (h.run pins s σ H _ I w) fun u s1 ⟨v, H', I', r, q⟩ => by
    rcases q with q | q
    · exact ep_frz ⟨v, H', I', r, q⟩
    · exact ⟨v, H', I', r, q⟩⟩
theorem ZE.comp {fin : List D → Store → Out D} (F : Fin X E fin)
    (zx : ZX X) (hi : ZI X E tg iter ci) (ok : BlkOk X.N X.env.scope scope own) (hsub : ∀ j ∈ ix, j ∈ own.map (·.2))
    (hg : ∀ (s : Shared) (H : Hp) (C : Addr) (cl : List (Str × Addr)) (fp : List Addr), ZG (X.blk s H scope (compEnvC scope cl C X.env) fp) tg f ix) (ht : ∀ (s : Shared) (H : Hp) (C : Addr) (cl : List (Str × Addr)) (fp : List Addr), ZTs (X.blk s H scope (compEnvC scope cl C X.env) fp) E0 ifs t)
    (he : ∀ (s : Shared) (H : Hp) (C : Addr) (cl : List (Str × Addr)) (fp : List Addr), ZE (X.blk s H scope (compEnvC scope cl C X.env) fp) E0 elt e) (hs : ∀ x, foldedSetIterable iter X.env x = pure x := by intro _; rfl) :
    ZE X E (.ListComp elt [⟨tg, iter, ifs, 0⟩] scope pos) (zcomp fin (own.map (·.2)) ci f t e) := by
  obtain ⟨wi, pi, qi⟩ := hi
  have p := pe_orfrz (pe_lc (pos := pos) (g := gZ X.K f ix) (tt := tZb X.K X.mg E0 t) (te := tZ X.K X.mg E0 e) zx.calm zx.nd pi ok (fun s H C cl fp => (hg s H C cl fp).can) (fun s H C cl fp => ht s H C cl fp) (fun s H C cl fp => (he s H C cl fp).can) hs)
  exact ⟨_, p, fun σ H θ sl M Q hs hm h => comp_ok qi hsub F.sz (fun θ H M acc ds p m hp r h => F.fi θ H M acc ds Q p m hp r h) hs hm h⟩
/-- y = [..] -/
theorem ZS.comp {fin : List D → Store → Out D} {i : Nat} {y : Str} {py spos : Pos} (F : Fin X E fin)
    (zx : ZX X) (hi : ZI X E tg iter ci) (ok : BlkOk X.N X.env.scope scope own) (hsub : ∀ j ∈ ix, j ∈ own.map (·.2)) (hy : X.N[i]? = some y) (hyl : X.env.scope.names.lookup y = some .local)
    (hsw : swapsWith (.ListComp elt [⟨tg, iter, ifs, 0⟩] scope pos) (some (.Name y py)) spos.line X.env = pure true)
    (hg : ∀ (s : Shared) (H : Hp) (C : Addr) (cl : List (Str × Addr)) (fp : List Addr), ZG (X.blk s H scope (compEnvC scope cl C X.env) fp) tg f ix) (ht : ∀ (s : Shared) (H : Hp) (C : Addr) (cl : List (Str × Addr)) (fp : List Addr), ZTs (X.blk s H scope (compEnvC scope cl C X.env) fp) E0 ifs t)
    (he : ∀ (s : Shared) (H : Hp) (C : Addr) (cl : List (Str × Addr)) (fp : List Addr), ZE (X.blk s H scope (compEnvC scope cl C X.env) fp) E0 elt e) (hs : ∀ x, foldedSetIterable iter X.env x = pure x := by intro _; rfl) :
    ZS X E (.Assign [.Name y py] (.ListComp elt [⟨tg, iter, ifs, 0⟩] scope pos) spos) (sset i (zcomp fin (own.map (·.2)) ci f t e)) := by
  obtain ⟨wi, pi, qi⟩ := hi
  have p := ps_setLc (g := gZ X.K f ix) (tt := tZb X.K X.mg E0 t) (te := tZ X.K X.mg E0 e) zx.calm zx.nd hy hyl hsw pi ok (fun s H C cl fp => (hg s H C cl fp).can) (fun s H C cl fp => ht s H C cl fp) (fun s H C cl fp => (he s H C cl fp).can) hs
  refine ⟨fun N σ H => tLc wi (gZ X.K f ix) (tZb X.K X.mg E0 t) (tZ X.K X.mg E0 e) (own.map (·.2)) σ H fun v H' => N.nx (σ.set i (some v)) H' ∨ ∃ a xs, H' a = some (.lst xs) ∧ ∀ o, N.nx (σ.set i (some v)) (upd H' a (.frz o (.lst xs))), ⟨fun pins s σ H N I w => ?_⟩, fun σ H θ sl M N hs hm h => ?_⟩
  · refine thn (p.run pins s σ H { N with nx := fun σ' H' => N.nx σ' H' ∨ ∃ a xs, H' a = some (.lst xs) ∧ ∀ o, N.nx σ' (upd H' a (.frz o (.lst xs))) } I w) fun fl s' hq => ?_
    cases fl with
    | next =>
      obtain ⟨σ', H', I', q⟩ := hq
      rcases q with q | ⟨a, xs, e1, q⟩
      · exact ⟨σ', H', I', q⟩
      · obtain ⟨o, I2⟩ := I'.lock e1 trivial
        exact ⟨σ', _, I2, q o⟩
    | brk => exact hq
    | cont => exact hq
    | ret v => exact hq
  · refine comp_ok (E := E) (fin := fin) (Q := fun v H' => N.nx (σ.set i (some v)) H') qi hsub F.sz (fun θ H M acc ds p m hp r h => ?_) hs hm (PostS.thn h fun d M1 v H1 θ1 g1 m1 r1 h1 => h1 _ H1 θ1 .refl ((hs.go g1).set r1) m1)
    rcases F.fi θ H M acc ds _ p m hp r h with ⟨a, xs, e1, e2, q⟩ | q
    · cases e1
      exact .inr ⟨_, xs, e2, q⟩
    · exact .inl q
end
end Z

/-! Z: defs, their calls, the law's end. -/
namespace Z
open PySem PySem.Spec PyProof.Rows L2

abbrev Fn := List D → Store → Out D
/-- what was made in a call and is not handed back is forgotten -/
def gc (n : Nat) : Out D → Out D
  | .ok (.p x) M => .ok (.p x) (M.take n)
  | .ok (.ref i) M => if i < n then .ok (.ref i) (M.take n) else match M[i]? with
    | some ob => if ob.low n = true then .ok (.ref n) (M.take n ++ [ob]) else .ok (.ref i) M
    | none => .stuck
  | .exc e M => .exc e (M.take n)
  | .stuck => .stuck
def runB (n : Nat) (c : SC) : Fn := fun ds M => match c (ds.map some ++ List.replicate (n - ds.length) none) M with
  | .nx _ M' => .ok (.p .none) M'
  | .rt d M' => .ok d M'
  | .exc e M' => .exc e M'
  | .stuck => .stuck
/-- a call that hands n -/
def zfc (n : Nat) (F : Fn) : Fn := fun ds M => if ds.length = n then F ds M else .stuck
/-- a def of n slots -/
def fnB (n : Nat) (c : SC) : Fn := fun ds M => gc M.length (runB n c ds M)
def spZ (K : PySem.W.Frag) (mg : Str → Option Value) (F : Fn) (n : Nat) : Sp := fun vs H Q E => ∃ θ ds M, vs.length = n ∧ SR K θ H M ∧ Drs K θ H vs ds ∧ Post K mg E (Dr K) Q θ H (F ds M)
/-- a def at f keeps its promise, where no repr runs -/
structure FnG (P : Program) (w : World) (K : PySem.W.Frag) (mg : Str → Option Value) (base : Heap) (k : Nat) (f : Addr) (fd : FuncData) (ps : List Str) (sp : Sp) : Prop where
  len : ∀ vs H Q E, sp vs H Q E → vs.length = ps.length
  run : ∀ (A : Around) (outer : List Env) (s : Shared) (H : Hp) (args : Args) (us : List Value) (vs : List V) (Q : VK) (E : XK), Room k A → A.guards = some [] → Env0 P w K mg base A outer s H → BindsTo s fd args (ps.zip us) → Vals vs us → sp vs H Q E →
    codeAny (model P w) A (.call (.ref f) args) (CR (CX P w) outer P w H s Q E) s
section
variable {K : PySem.W.Frag} {mg : Str → Option Value} {E : XK} {θ : List Addr} {H : Hp} {M : Store} {Q : VK}
theorem Go.back {θ' : List Addr} {H' : Hp} (g : Go θ θ' H H') {n : Nat} (hn : θ.length = n) : θ'.take n = θ ∧ Go θ θ H H' := by
  obtain ⟨t, rfl⟩ := g.pre
  refine ⟨by rw [← hn]; exact List.take_left, List.prefix_refl _, fun a u h c => g.fr a u h c, fun a m n => absurd m n⟩
theorem Post.gc {o : Out D} (h : Post K mg E (Dr K) Q θ H (Z.gc M.length o)) (s : SR K θ H M) : Post K mg E (Dr K) Q θ H o := by
  cases o with
  | stuck => exact h
  | exc x M' =>
    intro cls dd H' θ' g s' r
    obtain ⟨e, g2⟩ := g.back s.len
    refine h cls dd H' θ g2 ?_ r
    have c := s'.cut M.length
    rw [e] at c
    exact c
  | ok d M' =>
    intro v H' θ' g s' r
    obtain ⟨e, g2⟩ := g.back s.len
    have c := s'.cut M.length
    rw [e] at c
    cases d with
    | p x => exact h v H' θ g2 c r
    | ref i =>
      unfold Z.gc at h
      simp only at h
      by_cases hi : i < M.length
      · rw [if_pos hi] at h
        refine h v H' θ g2 c ?_
        obtain ⟨a, e1, e2⟩ := r
        rw [← e]
        exact ⟨a, by rw [List.getElem?_take, if_pos hi]; exact e1, e2⟩
      · rw [if_neg hi] at h
        cases q : M'[i]? with
        | none => rw [q] at h; exact h.elim
        | some ob =>
          rw [q] at h
          simp only at h
          by_cases lo : ob.low M.length = true
          · rw [if_pos lo] at h
            obtain ⟨a, e1, rfl⟩ := r
            have na : a ∉ θ := fun m => by
              obtain ⟨j, hj⟩ := List.getElem?_of_mem m
              have hjl := (List.getElem?_eq_some_iff.mp hj).1
              have e3 := g.at hj
              obtain ⟨l1, r1⟩ := List.getElem?_eq_some_iff.mp e1
              obtain ⟨l2, r2⟩ := List.getElem?_eq_some_iff.mp e3
              have := (List.getElem_inj s'.nd).mp (r1.trans r2.symm)
              rw [s.len] at hjl
              omega
            have hn : H a = none := g.fresh a (List.mem_of_getElem? e1) na
            refine h (.ref a) H' (θ ++ [a]) ⟨List.prefix_append _ _, fun b u eb c' => g2.fr b u eb c', fun b m nb => ?_⟩ ?_ ?_
            · rcases List.mem_append.mp m with m | m
              · exact absurd m nb
              · rw [List.mem_singleton.mp m]; exact hn
            · have ok : ObOk K θ H' a ob := by
                have z := (s'.ob i ob a q e1).cut lo
                rw [e] at z
                exact z
              refine ⟨by rw [List.length_append, List.length_append, c.len]; rfl, ?_, fun j o b e2 e3 => ?_, fun j o e2 => ?_⟩
              · rw [List.nodup_append]
                exact ⟨c.nd, by simp, fun x hx y hy => by rw [List.mem_singleton.mp hy]; exact fun z => na (z ▸ hx)⟩
              · have up : ∀ {v : V} {d : D}, Dr K θ H' v d → Dr K (θ ++ [a]) H' v d := fun {v d} r => by
                  cases d with
                  | p x => exact r
                  | ref j =>
                    obtain ⟨y, e4, e5⟩ := r
                    exact ⟨y, by rw [List.getElem?_append_left (List.getElem?_eq_some_iff.mp e4).1]; exact e4, e5⟩
                by_cases hj : j < θ.length
                · rw [List.getElem?_append_left (by rw [← c.len]; exact hj)] at e2
                  rw [List.getElem?_append_left hj] at e3
                  exact (c.ob j o b e2 e3).carry up (fun _ _ h _ => h) rfl
                · have hj' : j = θ.length := by
                    have := (List.getElem?_eq_some_iff.mp e3).1
                    rw [List.length_append] at this
                    simp at this
                    omega
                  subst hj'
                  rw [List.getElem?_append_right (by rw [c.len]; exact Nat.le_refl _), c.len, Nat.sub_self] at e2
                  rw [List.getElem?_append_right (Nat.le_refl _), Nat.sub_self] at e3
                  cases e2; cases e3
                  exact ok.carry up (fun _ _ h _ => h) rfl
              · by_cases hj : j < (M'.take M.length).length
                · rw [List.getElem?_append_left hj] at e2
                  exact c.low j o e2
                · have hl : (M'.take M.length).length = M.length := by rw [← c.len, s.len]
                  have hj' : j = M.length := by
                    have := (List.getElem?_eq_some_iff.mp e2).1
                    rw [List.length_append, hl] at this
                    simp at this
                    omega
                  subst hj'
                  rw [List.getElem?_append_right (by rw [hl]; exact Nat.le_refl _), hl, Nat.sub_self] at e2
                  cases e2
                  exact lo
            · exact ⟨a, by rw [← s.len, List.getElem?_append_right (Nat.le_refl _), Nat.sub_self]; rfl, rfl⟩
          · rw [if_neg lo] at h
            exact h v H' θ' g s' r
end
section
variable {P : Program} {w : World} {K : PySem.W.Frag} {mg : Str → Option Value} {base : Heap}
theorem fn_ofG {k : Nat} {f : Addr} {name qual : Str} {params : Arguments} {body : List Stmt} {scope : Scope} {dV kV doc pm cdv ct oc : Value} {an od : Option Addr}
    {osl : Array (Option Value)} {N ps : List Str} {sp : Sp} (lk : K.lookup f = some ⟨oc, od, .func (PySem.W.fnOf name qual params body scope dV kV doc pm an cdv ct), osl⟩) (hcd : PySem.W.codeIn K cdv qual = true) (S : FnScope N ps scope)
    (len : ∀ vs H Q E, sp vs H Q E → vs.length = ps.length)
    (hbody : ∀ (A : Around) (outer : List Env) (s : Shared) (H : Hp) (vs : List V) (Q : VK) (E : XK), Room k (A.deeper (envOfC qual scope s.heap.objs.size f cdv)) → A.guards = some [] → sp vs H Q E →
      ∃ t, PSs (cxOf (CX P w) P w K mg base N qual scope f cdv A outer s H E) body t ∧ t { nx := fun _ H' => Q .non H', rt := Q } (L2.start N vs) H) :
    FnG P w K mg base (k + 1) f (PySem.W.fnOf name qual params body scope dV kV doc pm an cdv ct) ps sp := by
  refine ⟨len, fun A outer s H args us vs Q E hr hgd e0 hb r hsp => ?_⟩
  have hl := len _ _ _ _ hsp
  have KX : K.In s.heap := e0.mod.kin.keeps fun b o e => (e0.bs b o e).1
  have lim : s.heap.NoLimit := e0.mod.nolimit.keeps fun b o e => (e0.bs b o e).1
  have hkind : ∀ y ∈ ps.zip us, scope.names.lookup y.1 = some .local ∨ (scope.names.lookup y.1 = some .cell ∧ ((cellsFrom (s.heap.objs.size + 1) scope.names []).lookup y.1).isSome = true) := fun ⟨n, v⟩ hy => by
    rcases S.par n (List.of_mem_zip hy).1 with q | q
    · exact .inl q
    · exact .inr ⟨q, PySem.W.cellsFrom_some _ _ _ (.inl q)⟩
  refine codeAny_call_function hr.depth (KX _ _ lk) rfl S.co S.gen rfl (PySem.W.codeRec_of KX hcd) (hb _ _ _ _ ?_)
  refine wpAny_newFunctionEnv_cells S.kind hkind fun env he s1 x => ?_
  subst he
  refine ⟨lim.keeps x.toInCall.keep, codeAny_func ?_⟩
  obtain ⟨t, ht, hq⟩ := hbody A outer s H vs Q E (hr.deeper _) hgd hsp
  have I : Inv (cxOf (CX P w) P w K mg base N qual scope f cdv A outer s H E) [] (L2.start N vs) H s1 := inv_start S hr.hd e0 hl r x
  refine wpAny_mono (ht.run [] s1 (L2.start N vs) H _ I hq) (fun fl s' hs => ?_) fun e s' hs => hs
  have fin : ∀ {σ' : L2.St} {H' : Hp} {v : V} {u : Value}, Inv (cxOf (CX P w) P w K mg base N qual scope f cdv A outer s H E) [] σ' H' s' → RelV v u → Q v H' → CE outer P w H s Q u s' :=
    fun {σ' H' v u} J rv q => ⟨v, H', J.os, J.bare, J.base, J.hok, rv, q⟩
  cases fl with
  | ret u =>
    obtain ⟨v, σ', H', J, rv, q⟩ := hs
    exact fin J rv q
  | next =>
    obtain ⟨σ', H', J, q⟩ := hs
    exact fin (v := V.non) (u := Value.none) J rfl q
  | brk =>
    obtain ⟨_, _, _, q⟩ := hs
    exact False.elim q
  | cont =>
    obtain ⟨_, _, _, q⟩ := hs
    exact False.elim q
/-- what a def's body stands on -/
structure BX (P : Program) (w : World) (K : PySem.W.Frag) (mg : Str → Option Value) (base : Heap) (k : Nat) (N : List Str) (X : Cx) (E : XK) : Prop where
  zx : ZX X
  hp : X.prog = P
  hw : X.w = w
  hK : X.K = K
  hmg : X.mg = mg
  hbase : X.base = base
  room : Room k X.A
  pass : Passes (CX P w) X E
/-- THE RULE for a def -/
theorem zfn {x qual : Str} {st : Stmt} {f : Addr} {fd : FuncData} {N ps : List Str} {k : Nat} {c : SC} (F : Fun K x qual st f fd) (S : FnScope N ps (defScope st))
    (hbody : ∀ (cdv : Value) (A : Around) (outer : List Env) (s : Shared) (H : Hp) (E : XK), BX P w K mg base k N (cxOf (CX P w) P w K mg base N qual (defScope st) f cdv A outer s H E) E → ZB (cxOf (CX P w) P w K mg base N qual (defScope st) f cdv A outer s H E) E (defBody st) c) :
    FnG P w K mg base (k + 1) f fd ps (spZ K mg (fnB N.length c) ps.length) := by
  obtain ⟨oc, od, kV, doc, pm, an, cdv, ct, osl, rfl, lk, hcd⟩ := F.ex
  refine fn_ofG lk hcd S (fun vs H Q E h => h.choose_spec.choose_spec.choose_spec.1) fun A outer s H vs Q E hr hg hsp => ?_
  obtain ⟨θ, ds, M, hl, sr, dr, post⟩ := hsp
  have tk : Takes (cxOf (CX P w) P w K mg base N qual (defScope st) f cdv A outer s H E) (fun cls d _ H => E cls d H) := takes_of rfl rfl rfl rfl
  have zx : ZX (cxOf (CX P w) P w K mg base N qual (defScope st) f cdv A outer s H E) := ⟨rfl, passes_of rfl, S.nd, by have := hr.un; show _ + 100 < _; simp only [cxOf]; omega, hg⟩
  obtain ⟨t, p, q⟩ := hbody cdv A outer s H E ⟨zx, rfl, rfl, rfl, rfl, rfl, hr, passes_call tk fun _ _ _ _ h => h⟩
  refine ⟨t, p, q _ _ θ (ds.map some ++ List.replicate (N.length - ds.length) none) M _ ?_ sr ?_⟩
  · have el := Paired.length dr
    refine ⟨by unfold L2.start; rw [List.length_append, List.length_append, List.length_map, List.length_map, List.length_replicate, List.length_replicate, el], fun i d e => ?_⟩
    by_cases hi : i < ds.length
    · rw [List.getElem?_append_left (by rw [List.length_map]; exact hi), List.getElem?_map] at e
      cases ed : ds[i]? with
      | none => rw [ed] at e; cases e
      | some d' =>
        rw [ed] at e
        cases e
        obtain ⟨v, ev, r⟩ := paired_at dr ed
        exact ⟨v, by unfold L2.start; rw [List.getElem?_append_left (by rw [List.length_map, el]; exact hi), List.getElem?_map, ev]; rfl, r⟩
    · rw [List.getElem?_append_right (by rw [List.length_map]; omega), List.getElem?_replicate] at e
      split at e <;> cases e
  · have h2 := Post.gc post sr
    unfold runB at h2
    cases ec : c (ds.map some ++ List.replicate (N.length - ds.length) none) M with
    | stuck => rw [ec] at h2; exact h2
    | nx sl M' => rw [ec] at h2; exact fun σ' H' θ' g sv s' => h2 .non H' θ' g s' Fz.non
    | rt d M' => rw [ec] at h2; exact h2
    | exc x M' => rw [ec] at h2; exact h2
end
section
variable {P : Program} {w : World} {K : PySem.W.Frag} {mg : Str → Option Value} {base : Heap} {k j : Nat} {N : List Str} {X : Cx} {E : XK} {f : Addr} {fd : FuncData} {ps ks : List Str} {sp : Sp} {F : Fn} {n : Nat} {x : Str} {p pos kpos : Pos} {e : Expr} {es : List Expr} {cs : ZCs} {kws : List Keyword}
theorem FnG.mono (G : FnG P w K mg base j f fd ps sp) (h : j ≤ k) : FnG P w K mg base k f fd ps sp := ⟨G.len, fun A outer s H args us vs Q E hr => G.run A outer s H args us vs Q E (hr.mono h)⟩
/-- the block of a comprehension -/
theorem BX.blk (B : BX P w K mg base k N X E) (s : Shared) (H : Hp) (scope : Scope) (cenv : Env) (fp : List Addr) : BX P w K mg base k N (X.blk s H scope cenv fp) E0 := by
  obtain ⟨zx, e1, e2, e3, e4, e5, hr, ps⟩ := B
  refine ⟨⟨zx.calm, PassesOwn.never, zx.nd, zx.hu, zx.gd⟩, e1, e2, e3, e4, e5, hr, ?_⟩
  intro pins σ H s e s' I c
  obtain ⟨_, _, _, _, _, _, _, _, _, _, _, _, q⟩ := c
  exact q
theorem BX.runs (B : BX P w K mg base k N X E) (G : FnG P w K mg base j f fd ps sp) (h : j ≤ k) {args : Args} {us : List Value} {vs : List V} {pins : List (Addr × Obj)} {σ : L2.St} {H : Hp} {s : Shared} {Q : VK} (I : Inv X pins σ H s) (hb : BindsTo s fd args (ps.zip us)) (r : Vals vs us) (q : sp vs H Q E) :
    wpAny (model X.prog X.w) X.A (call (.ref f) args.pos args.kw) (EP X pins σ Q) X.xe s := by
  obtain ⟨zx, rfl, rfl, rfl, rfl, rfl, hr, pas⟩ := B
  refine wpAny_call (codeAny_mono (G.run X.A X.stack s H args us vs Q E (hr.mono h) zx.gd I.env0 hb r q) fun r s' hq => ?_)
  cases r with
  | error e => exact pas pins σ H s e s' I hq
  | ok fl =>
    cases fl with
    | ret u => exact I.after hq
    | next => exact False.elim hq
    | brk => exact False.elim hq
    | cont => exact False.elim hq
/-- f(e, ..) -/
theorem ZE.call (B : BX P w K mg base k N X E) (G : FnG P w K mg base j f fd ps (spZ K mg F n)) (h : j ≤ k) (hg : Gl X x) (hm : X.mg x = some (.ref f)) (hk : PySem.W.keepIn X.K (.ref f) = true) (hb : Binds X.K fd ps []) (ha : ZA X E (e :: es) cs) (hn : ps.length = n := by rfl) (hes : (e :: es).length = n := by rfl)
    (hdb : (x == ("__debug__" : Str)) = false := by decide) (he : starEach (e :: es) X.env = (false, eval e X.env) :: starEach es X.env := by rfl) (hpl : (backTo pos (starEach es X.env)).any (·.1) = false := by rfl) :
    ZE X E (.Call (.Name x p) (e :: es) [] pos) (zs (zfc n F) cs) := by
  obtain ⟨t, pa, q⟩ := ha
  have eK := B.hK
  have em := B.hmg
  refine ⟨fun σ H Q => t σ H fun vs H1 => vs.length = n ∧ spZ K mg F n vs H1 Q E, ⟨fun pins s σ H Q I h' => ?_⟩, fun σ H θ sl M Q hs hm' h' => q σ H θ sl M _ hs hm' (Post.bind h' fun ds M1 vs H1 θ1 g1 m1 r1 h1 => ?_)⟩
  · refine wpAny_Call_Name_kw (ld_glob I hg hm ?_ hdb)
    refine PySem.W.callWith_K (h₀ := X.base) I.ok.mod.kin hk (thn (pa.run pos pins s σ H _ I h') fun us s1 ⟨vs, H1, I1, r, l, qq⟩ => ⟨I1.kIn, ?_⟩) he hpl
    have hl : (us ++ []).length = ps.length := by rw [List.append_nil, ← r.length, l, hn]
    have bt := hb s1 us I1.kIn hl
    rw [List.append_nil] at bt
    exact B.runs G h (args := ⟨us, []⟩) I1 bt r qq
  · have hl := Paired.length r1
    unfold zfc at h1
    by_cases hd : ds.length = n
    · rw [if_pos hd] at h1
      subst eK em
      exact ⟨hl.trans hd, θ1, ds, M1, hl.trans hd, m1, r1, h1⟩
    · rw [if_neg hd] at h1
      exact h1.elim
end
end Z

/-! Z: methods of lists, stores into lists. -/
namespace Z
open PySem PySem.Spec PyProof.Rows L2
/-- what may be the receiver of a list's method -/
def isL (M : Store) (d : D) : Bool := (lstv M d).isSome
def zmt (ok : Store → D → Bool) (g : D → List D → Store → Out D) (co : ZC) (cs : ZCs) : ZC := fun sl M => (co sl M).bind fun x M1 => if ok M1 x then (cs sl M1).bind fun ds M2 => g x ds M2 else .stuck
def zm0 (ok : Store → D → Bool) (g : D → List D → Store → Out D) (co : ZC) : ZC := fun sl M => (co sl M).bind fun x M1 => if ok M1 x then g x [] M1 else .stuck
section
variable {X : Cx} {E : XK} {o e : Expr} {es : List Expr} {co : ZC} {cs : ZCs} {name : Str} {apos cpos : Pos} {T id : String} {g : D → List D → Store → Out D} {ok : Store → D → Bool}
theorem ZE.meth (pa : PlainAttrs T) (slot : Slot T name id) (hty : typeOf (.builtin id) = pure (.type "method_descriptor")) (hm : MtR X id (rZm X E g)) (hok : ∀ {θ H M v d}, SR X.K θ H M → Dr X.K θ H v d → ok M d = true → tyV X.K T v H)
    (ho : ZE X E o co) (ha : ZA X E (e :: es) cs)
    (hbase : attributeBase o name X.env (eval o X.env) = eval o X.env := by rfl)
    (hfew : ((backTo cpos (starEach (e :: es) X.env)).all (fun x => !x.1) && (backToKw cpos (keywordEach [] X.env)).all (fun x => x.1.isSome)
      && decide ((e :: es).length + ([] : List Keyword).length + (if ([] : List Keyword).isEmpty then 0 else 1) < 30)) = true := by rfl)
    (hline : (apos.endLine == cpos.line) = true := by rfl) (hs : starEach (e :: es) X.env = (false, eval e X.env) :: starEach es X.env := by rfl) (hplain : (backTo cpos (starEach es X.env)).any (·.1) = false := by rfl) :
    ZE X E (.Call (.Attribute o name apos) (e :: es) [] cpos) (zmt ok g co cs) := by
  obtain ⟨t, po, q⟩ := ho
  obtain ⟨u, pa', qa⟩ := ha
  refine ⟨_, pe_bm pa slot hty hm po pa' hbase hfew hline hs hplain, fun σ H θ sl M Q hs hmm h => q σ H θ sl M _ hs hmm (Post.bind h fun x M1 v H1 θ1 g1 m1 r1 h1 => ?_)⟩
  by_cases hk : ok M1 x = true
  · rw [if_pos hk] at h1
    exact ⟨hok m1 r1 hk, qa σ H1 θ1 sl M1 _ (hs.go g1) m1 (Post.bind h1 fun ds M2 vs H2 θ2 g2 m2 r2 h2 => ⟨x, ds, θ2, M2, m2, r1.go g2, r2, h2⟩)⟩
  · rw [if_neg hk] at h1
    exact h1.elim
theorem ZE.meth0 (pa : PlainAttrs T) (slot : Slot T name id) (hty : typeOf (.builtin id) = pure (.type "method_descriptor")) (hm : MtR X id (rZm X E g)) (hok : ∀ {θ H M v d}, SR X.K θ H M → Dr X.K θ H v d → ok M d = true → tyV X.K T v H)
    (ho : ZE X E o co) (hbase : attributeBase o name X.env (eval o X.env) = eval o X.env := by rfl) (hline : (apos.endLine == cpos.line) = true := by rfl) :
    ZE X E (.Call (.Attribute o name apos) [] [] cpos) (zm0 ok g co) := by
  obtain ⟨t, po, q⟩ := ho
  refine ⟨_, pe_bm0 pa slot hty hm po hbase hline, fun σ H θ sl M Q hs hmm h => q σ H θ sl M _ hs hmm (Post.bind h fun x M1 v H1 θ1 g1 m1 r1 h1 => ?_)⟩
  by_cases hk : ok M1 x = true
  · rw [if_pos hk] at h1
    exact ⟨hok m1 r1 hk, x, [], θ1, M1, m1, r1, .nil, h1⟩
  · rw [if_neg hk] at h1
    exact h1.elim
theorem isL_ok {K : PySem.W.Frag} {θ : List Addr} {H : Hp} {M : Store} {v : V} {d : D} (m : SR K θ H M) (r : Dr K θ H v d) (e : isL M d = true) : tyV K "list" v H := by
  obtain ⟨ds, e⟩ := Option.isSome_iff_exists.mp e
  obtain ⟨a, vs, rfl, h, _⟩ := lstv_ok m r e
  exact .inl ⟨rfl, _, h.sq⟩
end

/-! ### what the methods do -/
/-- the items of a list of the store -/
def lstAt (M : Store) (i : Nat) : Option (List D) := match M[i]? with
  | some (.lst ds) => some ds
  | _ => none
theorem lstAt_ok {K : PySem.W.Frag} {θ : List Addr} {H : Hp} {M : Store} {v : V} {i : Nat} {ds : List D} (m : SR K θ H M) (r : Dr K θ H v (.ref i)) (e : lstAt M i = some ds) :
    ∃ a vs, v = .ref a ∧ θ[i]? = some a ∧ H a = some (.lst vs) ∧ Drs K θ H vs ds := by
  unfold lstAt at e
  split at e
  · rename_i q
    cases e
    obtain ⟨a, h, rfl, k⟩ := dr_ref m r q
    obtain ⟨vs, e1, rs⟩ := k
    exact ⟨a, vs, rfl, h, e1, rs⟩
  · cases e
/-- the list at i gets other items -/
theorem post_set {X : Cx} {E : XK} {Q : VK} {θ : List Addr} {H : Hp} {M : Store} {i : Nat} {a : Addr} {vs ws : List V} {ds : List D} {d : D} {v : V} (h : Post X.K X.mg E (Dr X.K) Q θ H (.ok d (M.set i (.lst ds)))) (m : SR X.K θ H M)
    (hi : θ[i]? = some a) (h0 : H a = some (.lst vs)) (r : Drs X.K θ H ws ds) (lo : ds.all (D.low i) = true) (rv : Dr X.K θ H v d) : Q v (upd H a (.lst ws)) := by
  have g : Go θ θ H (upd H a (.lst ws)) := ⟨List.prefix_refl _, fun b w e c => by
    have ne : b ≠ a := by
      rintro rfl
      rw [h0] at e; cases e
      rcases c with c | c
      · exact c (List.mem_of_getElem? hi)
      · exact c
    rw [upd_ne ne]; exact e, fun b m n => absurd m n⟩
  obtain ⟨s, g'⟩ := m.set (o := .lst ds) (u := .lst ws) hi h0 (fun z => z) ⟨ws, upd_same, r.go g⟩ lo
  exact h v _ θ g s (rv.go g)
def zAppend (x : D) (ds : List D) (M : Store) : Out D := match x, ds with
  | .ref i, [y] => match lstAt M i with
    | some xs => if y.low i = true ∧ xs.length < sizeLine then .ok (.p .none) (M.set i (.lst (xs ++ [y]))) else .stuck
    | none => .stuck
  | _, _ => .stuck
def zExtend (x : D) (ds : List D) (M : Store) : Out D := match x, ds with
  | .ref i, [y] => match lstAt M i, lstv M y with
    | some xs, some ys => if ys.all (D.low i) = true ∧ xs.length + ys.length ≤ sizeLine then .ok (.p .none) (M.set i (.lst (xs ++ ys))) else .stuck
    | _, _ => .stuck
  | _, _ => .stuck
def zPop (x : D) (ds : List D) (M : Store) : Out D := match x, ds with
  | .ref i, [] => match lstAt M i with
    | some xs => match xs[xs.length - 1]? with
      | some y => .ok y (M.set i (.lst xs.dropLast))
      | none => .stuck
    | none => .stuck
  | _, _ => .stuck
def zPopAt (x : D) (ds : List D) (M : Store) : Out D := match x, ds with
  | .ref i, [.p (.int j)] => match lstAt M i with
    | some xs => match ixN xs.length j with
      | some k => match xs[k]? with
        | some y => .ok y (M.set i (.lst (xs.eraseIdx k)))
        | none => .stuck
      | none => .stuck
    | none => .stuck
  | _, _ => .stuck
theorem paired_dropLast {α β : Type} {R : α → β → Prop} : ∀ {l : List α} {m : List β}, Paired R l m → Paired R l.dropLast m.dropLast
  | _, _, .nil => .nil
  | _, _, .cons a .nil => .nil
  | _, _, .cons a (.cons b t) => .cons a (paired_dropLast (.cons b t))
theorem low_at {K : PySem.W.Frag} {θ : List Addr} {H : Hp} {M : Store} {i : Nat} {ds : List D} (m : SR K θ H M) (e : lstAt M i = some ds) : ds.all (D.low i) = true := by
  unfold lstAt at e
  split at e
  · rename_i q
    cases e
    exact m.low i _ q
  · cases e
section
variable {X : Cx} {E : XK}
theorem zAppend_ok : MtR X "list.append" (rZm X E zAppend) := by
  intro pins s σ H v vs u us Q I rv rs h
  obtain ⟨x, ds, θ, M, m, rx, rd, h⟩ := h
  unfold zAppend at h
  split at h
  · rename_i i y
    split at h
    · rename_i xs e
      split at h
      · rename_i c
        obtain ⟨a, ws, rfl, hi, h0, r⟩ := lstAt_ok m rx e
        cases rd with
        | cons r1 rr =>
          cases rr
          exact mt_append pins s σ H _ _ u us Q I rv rs ⟨a, ws, _, rfl, rfl, h0, by rw [Paired.length r]; exact c.2, post_set h m hi h0 (paired_append r (.cons r1 .nil)) (by rw [List.all_append, low_at m e]; simp [c.1]) Fz.non⟩
      · exact h.elim
    · exact h.elim
  · exact h.elim
/-- l.extend(any list) -/
theorem mt_extendX {pins : List (Addr × Obj)} {s : Shared} {σ : L2.St} {H : Hp} {l b : Addr} {xs zs : List V} {us : List Value} {Q : VK} (I : Inv X pins σ H s) (rv : Vals [.ref b] us) (hH : H l = some (.lst xs)) (hB : SqX X.K H b zs) (hz : xs.length + zs.length ≤ sizeLine)
    (q : Q .non (upd H l (.lst (xs ++ zs)))) : wpAny (model X.prog X.w) X.A (call (.builtin "list.extend") (.ref l :: us)) (EP X pins σ Q) X.xe s := by
  obtain ⟨u, rfl, ru⟩ := rv.one
  cases ru
  obtain ⟨z, its, n, r, hl, e⟩ := I.lstM hH
  obtain ⟨z2, its2, n2, r2, hl2, e2⟩ := SqX.at I hB
  have hsz : its.length + its2.length ≤ sizeLine := by omega
  refine call_meets F.slot_list_extend ⟨_, e, rfl⟩ F.entry_list_extend (F.args_list_extend_2 _ _)
    (AutoSeq1.list_extend_list_list_0 l its.toArray n b its2.toArray n2 (by simp only [List.size_toArray]; rw [notLongL hsz, Bool.and_false]; exact Bool.false_ne_true) (by simp only [List.size_toArray]; omega) (by simp only [List.size_toArray]; omega)) ⟨e, e2, ?_⟩
  exact ⟨.non, _, I.lset (its' := its ++ its2) hH e (by simp) (r.append r2) (by rw [List.length_append]; exact hz), rfl, q⟩
theorem zExtend_ok : MtR X "list.extend" (rZm X E zExtend) := by
  intro pins s σ H v vs u us Q I rv rs h
  obtain ⟨x, ds, θ, M, m, rx, rd, h⟩ := h
  unfold zExtend at h
  split at h
  · rename_i i y
    split at h
    · rename_i xs ys e e'
      split at h
      · rename_i c
        obtain ⟨a, ws, rfl, hi, h0, r⟩ := lstAt_ok m rx e
        cases rd with
        | cons r1 rr =>
          cases rr
          obtain ⟨b, zs, rfl, hb, r2⟩ := lstv_ok m r1 e'
          cases rv
          exact mt_extendX I rs h0 hb (by rw [Paired.length r, Paired.length r2]; exact c.2) (post_set h m hi h0 (paired_append r r2) (by rw [List.all_append, low_at m e, c.1]; rfl) Fz.non)
      · exact h.elim
    · exact h.elim
  · exact h.elim
theorem zPop_ok : MtR X "list.pop" (rZm X E zPop) := by
  intro pins s σ H v vs u us Q I rv rs h
  obtain ⟨x, ds, θ, M, m, rx, rd, h⟩ := h
  unfold zPop at h
  split at h
  · rename_i i
    split at h
    · rename_i xs e
      split at h
      · rename_i y ey
        obtain ⟨a, ws, rfl, hi, h0, r⟩ := lstAt_ok m rx e
        obtain ⟨w, ew, rw'⟩ := paired_at r ey
        cases rd
        exact mt_pop pins s σ H _ _ u us Q I rv rs ⟨a, ws, w, rfl, rfl, h0, by rw [Paired.length r]; exact ew, post_set h m hi h0 (paired_dropLast r) (List.all_eq_true.mpr fun z hz => List.all_eq_true.mp (low_at m e) z ((List.dropLast_sublist _).subset hz)) rw'⟩
      · exact h.elim
    · exact h.elim
  · exact h.elim
theorem zPopAt_ok : MtR X "list.pop" (rZm X E zPopAt) := by
  intro pins s σ H v vs u us Q I rv rs h
  obtain ⟨x, ds, θ, M, m, rx, rd, h⟩ := h
  unfold zPopAt at h
  split at h
  · rename_i i j
    split at h
    · rename_i xs e
      split at h
      · rename_i k ek
        split at h
        · rename_i y ey
          obtain ⟨a, ws, rfl, hi, h0, r⟩ := lstAt_ok m rx e
          obtain ⟨w, ew, rw'⟩ := paired_at r ey
          cases rd with
          | cons r1 rr =>
            cases rr
            cases r1
            obtain ⟨h1, h2, h3, h4⟩ := ixN_seq ek
            have z := (I.lstM h0).1
            have hn := line63
            rw [← Paired.length r] at h1 h3 h4
            refine mt_popAt pins s σ H _ _ u us Q I rv rs ⟨a, ws, j, k, w, rfl, rfl, h0, by omega, by omega, h1, ew, post_set h m hi h0 (paired_erase k r) (List.all_eq_true.mpr fun z hz => List.all_eq_true.mp (low_at m e) z (List.mem_of_mem_eraseIdx hz)) rw'⟩
        · exact h.elim
      · exact h.elim
    · exact h.elim
  · exact h.elim
end

/-! ### o[i] = v -/
def zSetL (x y v : D) (M : Store) : Option Store := match x, y with
  | .ref i, .p (.int j) => match lstAt M i with
    | some xs => match ixN xs.length j with
      | some k => if v.low i = true then some (M.set i (.lst (xs.set k v))) else none
      | none => none
    | none => none
  | _, _ => none
def rZset (X : Cx) (f : D → D → D → Store → Option Store) : TSet := fun o i v H Q => ∃ θ M x y d M', SR X.K θ H M ∧ Dr X.K θ H o x ∧ Dr X.K θ H i y ∧ Dr X.K θ H v d ∧ f x y d M = some M' ∧ ∀ H', Go θ θ H H' → SR X.K θ H' M' → Q H'
/-- o[i] = e -/
def sstore (f : D → D → D → Store → Option Store) (cv co ci : ZC) : SC := fun sl M => match cv sl M with
  | .ok v M1 => match co sl M1 with
    | .ok o M2 => match ci sl M2 with
      | .ok i M3 => match f o i v M3 with
        | some M4 => .nx sl M4
        | none => .stuck
      | .exc e M => .exc e M
      | .stuck => .stuck
    | .exc e M => .exc e M
    | .stuck => .stuck
  | .exc e M => .exc e M
  | .stuck => .stuck
section
variable {X : Cx} {E : XK}
theorem zSetL_ok : PSet X (rZset X zSetL) := by
  intro pins s σ H o i v ov iv u Q I ro ri rv h
  obtain ⟨θ, M, x, y, d, M', m, rx, ry, rd, e, q⟩ := h
  unfold zSetL at e
  split at e
  · rename_i j k
    split at e
    · rename_i xs ex
      split at e
      · rename_i n en
        split at e
        · rename_i lo
          cases e
          obtain ⟨a, ws, rfl, hi, h0, r⟩ := lstAt_ok m rx ex
          cases ry
          refine set_list pins s σ H _ _ v ov iv u Q I ro ri rv ⟨a, ws, k, n, rfl, rfl, h0, by rw [Paired.length r]; exact en, ?_⟩
          have g : Go θ θ H (upd H a (.lst (ws.set n v))) := ⟨List.prefix_refl _, fun b w e c => by
            have ne : b ≠ a := by
              rintro rfl
              rw [h0] at e; cases e
              rcases c with c | c
              · exact c (List.mem_of_getElem? hi)
              · exact c
            rw [upd_ne ne]; exact e, fun b m n => absurd m n⟩
          obtain ⟨s', g'⟩ := m.set (o := .lst (xs.set n d)) (u := .lst (ws.set n v)) hi h0 (fun z => z) ⟨_, upd_same, paired_set (rd.go g) n (r.go g)⟩ (List.all_eq_true.mpr fun z hz => by
            rcases List.mem_or_eq_of_mem_set hz with h | rfl
            · exact List.all_eq_true.mp (low_at m ex) z h
            · exact lo)
          exact q _ g' s'
        · cases e
      · cases e
    · cases e
  · cases e
theorem ZS.store {v o i : Expr} {cv co ci : ZC} {f : D → D → D → Store → Option Store} {p pos : Pos} (hset : PSet X (rZset X f)) (hv : ZE X E v cv) (ho : ZE X E o co) (hi : ZE X E i ci)
    (hs : swapsWithSole [.Subscript o i p] v pos.line X.env = pure false := by rfl) (hw : swappedStores [.Subscript o i p] v X.env = pure none := by rfl)
    (h1 : (assignEach [.Subscript o i p] X.env).map (·.2) = [assign (.Subscript o i p) X.env] := by rfl)
    (ha : ∀ v, assign (.Subscript o i p) X.env v = (do
      let ov ← holding [v] (eval o X.env)
      let iv ← holding [v, ov] (eval i X.env)
      standAt p
      holding [v, ov, iv] (setItem ov iv v)
      release [v, ov, iv] []) := by intro _; rfl) : ZS X E (.Assign [.Subscript o i p] v pos) (sstore f cv co ci) := by
  obtain ⟨t, pv, qv⟩ := hv
  obtain ⟨u, po, qo⟩ := ho
  obtain ⟨w, pi, qi⟩ := hi
  refine ⟨_, ps_asg pv (pg_sub po pi hset ha) hs hw h1, fun σ H θ sl M N hs hm h => qv σ H θ sl M _ hs hm ?_⟩
  unfold sstore at h
  cases e1 : cv sl M with
  | stuck => rw [e1] at h; exact h
  | exc x M1 => rw [e1] at h; exact h
  | ok d M1 =>
    rw [e1] at h
    intro v1 H1 θ1 g1 m1 r1
    refine qo σ H1 θ1 sl M1 _ (hs.go g1) m1 ?_
    simp only at h
    cases e2 : co sl M1 with
    | stuck => rw [e2] at h; exact h
    | exc x M2 => rw [e2] at h; exact PostS.go g1 h
    | ok o' M2 =>
      rw [e2] at h
      intro v2 H2 θ2 g2 m2 r2
      refine qi σ H2 θ2 sl M2 _ (hs.go (g1.trans g2)) m2 ?_
      simp only at h
      cases e3 : ci sl M2 with
      | stuck => rw [e3] at h; exact h
      | exc x M3 => rw [e3] at h; exact PostS.go (g1.trans g2) h
      | ok i' M3 =>
        rw [e3] at h
        intro v3 H3 θ3 g3 m3 r3
        simp only at h
        cases e4 : f o' i' d M3 with
        | none => rw [e4] at h; exact h.elim
        | some M4 =>
          rw [e4] at h
          exact ⟨θ3, M3, o', i', d, M4, m3, r2.go g3, r3, (r1.go g2).go g3, e4, fun H' g m' => h σ H' θ3 (((g1.trans g2).trans g3).trans g) (((hs.go (g1.trans g2)).go g3).go g) m'⟩
end
end Z

/-! Z: repr and sorted, calls without and by named arguments. -/
namespace Z
open PySem PySem.Spec PyProof.Rows L2
def zShow (ds : List D) (M : Store) : Out D := match ds with
  | [d] => match snap 6 M d with
    | some (.int i) => if i.natAbs.log2 < 1920 then .ok (.p (.str (toString i))) M else .stuck
    | some (.tuple xs) => if (PyData.tuple xs).showable = true ∧ (PyData.tuple xs).hasDict = false ∧ (PyData.tuple xs).shown.length ≤ sizeLine ∧ (PyData.tuple xs).depth ≤ 60 then .ok (.p (.str (PyData.tuple xs).shown)) M else .stuck
    | some (.list xs) => if (PyData.list xs).showable = true ∧ (PyData.list xs).hasDict = false ∧ (PyData.list xs).shown.length ≤ sizeLine ∧ (PyData.list xs).depth ≤ 60 then .ok (.p (.str (PyData.list xs).shown)) M else .stuck
    | _ => .stuck
  | _ => .stuck
section
variable {X : Cx} {E : XK}
theorem repr_data (zx : ZX X) {pins : List (Addr × Obj)} {s : Shared} {σ : L2.St} {H : Hp} {a : Addr} {x : P} {us : List Value} {Q : VK} (I : Inv X pins σ H s) (rv : Vals [.ref a] us) (h : Dp X.K H (.ref a) x)
    (c : x.showable = true ∧ x.hasDict = false ∧ x.shown.length ≤ sizeLine ∧ x.depth ≤ 60) (q : Q (.str x.shown) H) : wpAny (model X.prog X.w) X.A (call (.builtin "repr") us) (EP X pins σ Q) X.xe s := by
  obtain ⟨u, rfl, ru⟩ := rv.one
  cases ru
  obtain ⟨as, rd⟩ := Dp.reads I x (.ref a) (.ref a) h rfl
  have hu := zx.hu
  exact repr_of_reads' rd c.1 (fun z => by rw [c.2.1] at z; cases z) zx.gd (by have := c.2.2.2; omega) (fun _ _ e => e) (fun h' u tk k => ⟨.str x.shown, H, I.kept k, ⟨u, rfl⟩, q⟩) c.2.2.1
theorem zShow_ok (zx : ZX X) : CallR X (.builtin "repr") (rZs X E zShow) := by
  intro pins s σ H xs us Q I r h
  obtain ⟨ds, θ, M, m, rs, h⟩ := h
  unfold zShow at h
  split at h
  · cases rs with
    | cons r1 rr =>
      cases rr
      split at h
      · rename_i e
        split at h
        · rename_i c
          have d1 := snap_dp m _ _ _ _ r1 e
          cases d1
          exact SkE.call_repr_int pins s σ H _ us Q I r ⟨_, rfl, c, Post.here h m (Fz.str _)⟩
        · exact h.elim
      · rename_i e
        split at h
        · rename_i c
          have d1 := snap_dp m _ _ _ _ r1 e
          cases d1 with
          | tup k1 k2 => exact repr_data zx I r (.tup k1 k2) c (Post.here h m (Fz.str _))
        · exact h.elim
      · rename_i e
        split at h
        · rename_i c
          have d1 := snap_dp m _ _ _ _ r1 e
          cases d1 with
          | lst k1 k2 => exact repr_data zx I r (.lst k1 k2) c (Post.here h m (Fz.str _))
        · exact h.elim
      · exact h.elim
  · exact h.elim

/-! ### sorted -/
theorem eachIs_of {K : PySem.W.Frag} {h : Heap} {H : Hp} : ∀ {us : List Value} {vs : List V} {xs : List P}, Vals vs us → FzAll K H vs xs → PySem.W.EachIs (fun u x => ∃ v, RelV v u ∧ Fz K H v x) us xs
  | _, _, _, .nil, .nil => .nil
  | _, _, _, .cons a b, .cons c d => .cons ⟨_, a, c⟩ (eachIs_of (h := h) b d)
theorem ofEachIs {K : PySem.W.Frag} {H : Hp} : ∀ {us : List Value} {xs : List P}, PySem.W.EachIs (fun u x => ∃ v, RelV v u ∧ Fz K H v x) us xs → ∃ vs, Vals vs us ∧ FzAll K H vs xs
  | _, _, .nil => ⟨[], .nil, .nil⟩
  | _, _, .cons ⟨v, r, z⟩ t => by
    obtain ⟨vs, h1, h2⟩ := ofEachIs t
    exact ⟨v :: vs, .cons r h1, .cons z h2⟩
theorem eachReads {K : PySem.W.Frag} {h : Heap} {H : Hp} (f : ∀ v u x, RelV v u → Fz K H v x → ∃ as, Reads h u x as) : ∀ {us : List Value} {xs : List P}, PySem.W.EachIs (fun u x => ∃ v, RelV v u ∧ Fz K H v x) us xs → PySem.W.EachIs (fun u x => ∃ as, Reads h u (id x) as) us xs
  | _, _, .nil => .nil
  | _, _, .cons ⟨v, r, z⟩ t => .cons (f v _ _ r z) (eachReads f t)
/-- the list that sorted makes, frozen at once -/
theorem post_frz {Q : VK} {θ : List Addr} {H : Hp} {M : Store} {xs : List P} {vs : List V} (h : Post X.K X.mg E (Dr X.K) Q θ H (.ok (.p (.list xs)) M)) (m : SR X.K θ H M) {a : Addr} (ha : H a = none) (hz : xs.length ≤ sizeLine) (r : FzAll X.K H vs xs) :
    FrzQ Q (.ref a) (upd H a (.lst vs)) := (frzl_ok (ds := xs.map .p) (by rw [frzl_map, if_pos hz]; exact h) m r.drs).2 a ha
theorem zSorted_ok (zx : ZX X) : CallR X (.builtin "sorted") (rZs X E zSorted) := by
  intro pins s σ H xs us Q I r h
  obtain ⟨ds, θ, M, m, rs, h⟩ := h
  unfold zSorted at h
  split at h
  · split at h
    · rename_i zs e1
      split at h
      · rename_i ys e2
        split at h
        · rename_i c
          cases rs with
          | cons r1 rr =>
            cases rr
            obtain ⟨ad, vs, rfl, hp, dp⟩ := lstv_ok m r1 e1
            rw [pures_eq e2] at dp
            have fz := FzAll.ofDrs dp
            obtain ⟨u, rfl, ru⟩ := r.one
            cases ru
            obtain ⟨its, rv, pl, hz⟩ := I.list hp.sq
            have hu := zx.hu
            have ei := eachIs_of (h := s.heap) rv fz
            have er := eachReads (h := s.heap) (fun v u x r z => Dp.reads I x v u z.dp r) ei
            refine thn (Q := EP X pins σ (FrzQ Q)) (PySem.W.sorted_data (enc := id) pl.isList ei er (by rw [List.map_id]; exact c.1) (by rw [List.map_id]; exact c.2.1) c.2.2.1 (fun b hb => by have := c.2.2.2 b hb; show X.A.units + 2 + b.depth < cLine; omega) fun out hl ho => ?_) fun u s1 z => ep_frz z
            obtain ⟨ws, w1, w2⟩ := ofEachIs ho
            obtain ⟨ep, at_⟩ := sortedAll_at s.heap its out.toArray
            have hn : H (s.heap.objs.size + 1) = none := I.hok.fresh (Nat.le_succ _)
            have wl : ws.length = ys.length := by rw [w1.length, hl]
            have J := Inv.laid (o := .lst ws) (t' := s.toks) I (fun b u q => sortedAll_old q) (Nat.le_succ _) ⟨by rw [wl]; exact c.2.2.1, out, ep, w1, at_⟩
            exact ⟨.ref _, _, J, rfl, post_frz h m hn (by rw [psort, List.length_mergeSort]; exact c.2.2.1) w2⟩
        · exact h.elim
      · exact h.elim
    · exact h.elim
  · exact h.elim
end

/-! ### calls without arguments, by names -/
def permBy {α : Type} (ix : List Nat) (l : List α) : List α := ix.filterMap fun i => l[i]?
theorem paired_perm {α β : Type} {R : α → β → Prop} {l : List α} {m : List β} (h : Paired R l m) : ∀ ix : List Nat, Paired R (permBy ix l) (permBy ix m)
  | [] => .nil
  | i :: ix => by
    unfold permBy
    have hl := Paired.length h
    cases e : m[i]? with
    | none =>
      have e' : l[i]? = none := by
        rw [List.getElem?_eq_none_iff] at e ⊢
        omega
      rw [List.filterMap_cons_none e, List.filterMap_cons_none e']
      exact paired_perm h ix
    | some b =>
      obtain ⟨a, ea, r⟩ := paired_at h e
      rw [List.filterMap_cons_some e, List.filterMap_cons_some ea]
      exact .cons r (paired_perm h ix)
theorem vals_perm {vs : List V} {us : List Value} (h : Vals vs us) : ∀ ix : List Nat, Vals (permBy ix vs) (permBy ix us)
  | [] => .nil
  | i :: ix => by
    unfold permBy
    have hl := h.length
    cases e : vs[i]? with
    | none =>
      have e' : us[i]? = none := by
        rw [List.getElem?_eq_none_iff] at e ⊢
        omega
      rw [List.filterMap_cons_none e, List.filterMap_cons_none e']
      exact vals_perm h ix
    | some b =>
      obtain ⟨a, ea, r⟩ := h.get e
      rw [List.filterMap_cons_some e, List.filterMap_cons_some ea]
      exact .cons r (vals_perm h ix)
def ZK (X : Cx) (E : XK) (kws : List Keyword) (c : ZCs) : Prop := ∃ t, PK X kws t ∧ ∀ σ H θ sl M Q, SV X.K θ H σ sl → SR X.K θ H M → Post X.K X.mg E (Drs X.K) Q θ H (c sl M) → t σ H Q
section
variable {P : Program} {w : World} {K : PySem.W.Frag} {mg : Str → Option Value} {base : Heap} {k j : Nat} {N : List Str} {X : Cx} {E : XK} {f : Addr} {fd : FuncData} {ps ks : List Str} {F : Fn} {n : Nat} {x : Str} {p pos kpos : Pos} {e : Expr} {es : List Expr} {c : ZC} {cs : ZCs} {kws : List Keyword} {nm : Option Str}
theorem ZK.nil : ZK X E [] znil := ⟨_, pk_nil, fun σ H θ sl M Q hs hm h => Post.here (R := Drs X.K) (b := []) h hm .nil⟩
theorem ZK.cons (ha : ZE X E e c) (hr : ZK X E kws cs) : ZK X E (⟨nm, e, kpos⟩ :: kws) (zcons c cs) := by
  obtain ⟨t, pa, q⟩ := ha
  obtain ⟨u, pr, qr⟩ := hr
  exact ⟨_, pk_cons pa pr, fun σ H θ sl M Q hs hm h => q σ H θ sl M _ hs hm (Post.bind h fun x M1 v H1 θ1 g1 m1 r1 h1 => qr σ H1 θ1 sl M1 _ (hs.go g1) m1 (Post.bind h1 fun xs M2 vs H2 θ2 g2 m2 r2 h2 => Post.here h2 m2 (.cons (r1.go g2) r2)))⟩
theorem ZE.callK (B : BX P w K mg base k N X E) (G : FnG P w K mg base j f fd ps (spZ K mg F n)) (h : j ≤ k) (hg : Gl X x) (hm : X.mg x = some (.ref f)) (hk : PySem.W.keepIn X.K (.ref f) = true) (ix : List Nat)
    (hb : ∀ (s : Shared) (us : List Value), us.length = n → BindsTo s fd ⟨[], ks.zip us⟩ (ps.zip (permBy ix us))) (ha : ZK X E kws cs) (hix : ∀ (us : List D), us.length = n → (permBy ix us).length = n) (hn : ps.length = n := by rfl)
    (hall : (backToKw pos (keywordEach kws X.env)).all (·.1.isSome) = true := by rfl) (hks : (backToKw pos (keywordEach kws X.env)).filterMap (·.1) = ks := by rfl)
    (hdb : (x == ("__debug__" : Str)) = false := by decide) (hpl : ((backTo pos (starEach [] X.env)).any (·.1) || (backToKw pos (keywordEach kws X.env)).any (·.1.isNone)) = false := by rfl) :
    ZE X E (.Call (.Name x p) [] kws pos) (zs (fun ds M => zfc n (fun ds M => F (permBy ix ds) M) ds M) cs) := by
  obtain ⟨t, pa, q⟩ := ha
  have eK := B.hK
  have em := B.hmg
  refine ⟨fun σ H Q => t σ H fun vs H1 => vs.length = n ∧ spZ K mg F n (permBy ix vs) H1 Q E, ⟨fun pins s σ H Q I h' => ?_⟩, fun σ H θ sl M Q hs hm' h' => q σ H θ sl M _ hs hm' (Post.bind h' fun ds M1 vs H1 θ1 g1 m1 r1 h1 => ?_)⟩
  · refine wpAny_Call_Name_kw (ld_glob I hg hm ?_ hdb)
    refine PySem.W.callWith_KW0 (h₀ := X.base) I.ok.mod.kin hk hall (thn (pa.run pos pins s σ H _ I h') fun us s1 ⟨vs, H1, I1, r, l, qq⟩ => ⟨I1.kIn, ?_⟩) hpl
    rw [hks]
    exact B.runs G h (args := ⟨[], ks.zip us⟩) I1 (hb s1 us (by rw [← r.length]; exact l)) (vals_perm r ix) qq
  · have hl := Paired.length r1
    unfold zfc at h1
    by_cases hd : ds.length = n
    · rw [if_pos hd] at h1
      subst eK em
      have pp := paired_perm r1 ix
      exact ⟨hl.trans hd, θ1, _, M1, (Paired.length pp).trans (hix ds hd), m1, pp, h1⟩
    · rw [if_neg hd] at h1
      exact h1.elim
/-- f() -/
theorem ZE.call0 (B : BX P w K mg base k N X E) (G : FnG P w K mg base j f fd ps (spZ K mg F 0)) (h : j ≤ k) (hg : Gl X x) (hm : X.mg x = some (.ref f)) (hk : PySem.W.keepIn X.K (.ref f) = true) (hb : Binds X.K fd ps []) (hn : ps.length = 0 := by rfl)
    (hdb : (x == ("__debug__" : Str)) = false := by decide) : ZE X E (.Call (.Name x p) [] [] pos) (fun _ M => F [] M) := by
  have eK := B.hK
  have em := B.hmg
  refine ⟨fun σ H Q => spZ K mg F 0 [] H Q E, ⟨fun pins s σ H Q I h' => ?_⟩, fun σ H θ sl M Q hs hm' h' => ?_⟩
  · refine wpAny_Call_Name_kw (ld_glob I hg hm ?_ hdb)
    have bt := hb s [] I.kIn (by rw [hn]; rfl)
    exact PySem.W.callWith_K0 I.kIn hk (B.runs G h (args := ⟨[], []⟩) I bt .nil h')
  · subst eK em
    exact ⟨θ, [], M, rfl, hm', .nil, h'⟩
end

/-! ### a fresh list that may change; three names at once -/
def zAddM (a b : D) (M : Store) : Out D := match lstv M a, lstv M b with
  | some xs, some ys => mkLst (xs ++ ys) M
  | _, _ => .stuck
theorem mkLst_ok {X : Cx} {E : XK} {θ : List Addr} {H : Hp} {M : Store} {Q : VK} {vs : List V} {ds : List D} (h : Post X.K X.mg E (Dr X.K) Q θ H (mkLst ds M)) (m : SR X.K θ H M) (r : Drs X.K θ H vs ds) :
    vs.length ≤ sizeLine ∧ ∀ p, H p = none → Q (.ref p) (upd H p (.lst vs)) := by
  unfold mkLst at h
  by_cases l : ds.length ≤ sizeLine
  · rw [if_pos l] at h
    exact ⟨by rw [Paired.length r]; exact l, fun p hp => new_lst h m r hp⟩
  · rw [if_neg l] at h; exact h.elim
section
variable {X : Cx} {E : XK} {a b c : Expr} {cs : ZCs} {pos : Pos}
theorem zAddM_ok : OpR X (binaryOp .Add) (rZ2 X E zAddM) := by
  intro pins s σ H x y v u Q I rx ry h
  obtain ⟨a, b, θ, M, m, ra, rb, h⟩ := h
  unfold zAddM at h
  split at h
  · rename_i xs ys e1 e2
    obtain ⟨p, vs, rfl, hp, dp⟩ := lstv_ok m ra e1
    obtain ⟨q, ws, rfl, hq, dq⟩ := lstv_ok m rb e2
    obtain ⟨l, k⟩ := mkLst_ok h m (paired_append dp dq)
    rw [List.length_append] at l
    exact op_catX pins s σ H _ _ v u Q I rx ry ⟨p, q, vs, ws, rfl, rfl, hp, hq, l, k⟩
  · exact h.elim
theorem ZS.par3 (zx : ZX X) (i j l : Nat) {x y z : Str} {px py pz pt : Pos} {kt k2 : Nat} {pt2 : Pos} (ha : ZA X E [a, b, c] cs) (hi : X.N[i]? = some x := by rfl) (hj : X.N[j]? = some y := by rfl) (hl : X.N[l]? = some z := by rfl)
    (hij : i ≠ j := by decide) (hil : i ≠ l := by decide) (hjl : j ≠ l := by decide)
    (hx : X.env.scope.names.lookup x = some .local := by rfl) (hy : X.env.scope.names.lookup y = some .local := by rfl) (hz : X.env.scope.names.lookup z = some .local := by rfl)
    (hw : swappedStores [.Tuple [.Name x px, .Name y py, .Name z pz] kt pt] (.Tuple [a, b, c] k2 pt2) X.env = pure (some [x, y, z]) := by rfl)
    (hs : swapsWithSole [.Tuple [.Name x px, .Name y py, .Name z pz] kt pt] (.Tuple [a, b, c] k2 pt2) pos.line X.env = pure false := by rfl) :
    ZS X E (.Assign [.Tuple [.Name x px, .Name y py, .Name z pz] kt pt] (.Tuple [a, b, c] k2 pt2) pos) (spar [i, j, l] cs) := by
  obtain ⟨t, p, q⟩ := ha
  refine ⟨_, ps_par3 zx.calm zx.nd hi hj hl hij hil hjl hx hy hz p hw hs, fun σ H θ sl M N hs hm h => q σ H θ sl M _ hs hm (PostS.thn h fun ds M1 vs H1 θ1 g1 m1 r1 h1 => ?_)⟩
  match r1, h1 with
  | .nil, h1 => exact h1.elim
  | .cons _ .nil, h1 => exact h1.elim
  | .cons _ (.cons _ .nil), h1 => exact h1.elim
  | .cons a1 (.cons a2 (.cons a3 .nil)), h1 => exact ⟨_, _, _, rfl, h1 _ H1 θ1 .refl ((((hs.go g1).set a1).set a2).set a3) m1⟩
  | .cons _ (.cons _ (.cons _ (.cons _ _))), h1 => exact h1.elim
end

/-! ### tuple(range(..)), list(range(..)) -/
abbrev ZCr := Sl → Store → Out (Int × Int)
def EqP : List Addr → Hp → Int × Int → Int × Int → Prop := fun _ _ b a => b = a
def ZR (X : Cx) (E : XK) (e : Expr) (c : ZCr) : Prop := ∃ t, PRg X e t ∧ ∀ σ H θ sl M (Q : Int → Int → Hp → Prop), SV X.K θ H σ sl → SR X.K θ H M → Post X.K X.mg E EqP (fun p H => Q p.1 p.2 H) θ H (c sl M) → t σ H Q
def zrg1 (a : ZC) : ZCr := fun sl M => (a sl M).bind fun d M1 => match d with
  | .p (.int n) => .ok (0, n) M1
  | _ => .stuck
def zrg2 (a b : ZC) : ZCr := fun sl M => (a sl M).bind fun d M1 => (b sl M1).bind fun e M2 => match d, e with
  | .p (.int i), .p (.int j) => .ok (i, j) M2
  | _, _ => .stuck
def rgP (a b : Int) : List P := (List.range (b - a).toNat).map fun i : Nat => .int (a + (i : Int))
def rgIn (a b : Int) : Bool := decide (-(2 ^ 62) ≤ a) && decide (a < 2 ^ 62) && decide (-(2 ^ 62) ≤ b) && decide (b < 2 ^ 62) && decide ((b - a).toNat ≤ 2 ^ 24)
theorem rgIn_ok {a b : Int} (h : rgIn a b = true) : RgOk a b := by
  unfold rgIn at h
  simp only [Bool.and_eq_true, decide_eq_true_eq] at h
  exact ⟨h.1.1.1.1, h.1.1.1.2, h.1.1.2, h.1.2, h.2⟩
theorem fz_rg {K : PySem.W.Frag} {H : Hp} (a b : Int) : FzAll K H (rgV a b) (rgP a b) := by
  unfold rgV rgP
  generalize List.range (b - a).toNat = l
  induction l with
  | nil => exact .nil
  | cons i l ih => exact .cons (.int _) ih
def ztrg (c : ZCr) : ZC := fun sl M => (c sl M).bind fun p M1 => if rgIn p.1 p.2 = true then .ok (.p (.tuple (rgP p.1 p.2))) M1 else .stuck
def zlrg (c : ZCr) : ZC := fun sl M => (c sl M).bind fun p M1 => if rgIn p.1 p.2 = true then frzl ((rgP p.1 p.2).map .p) M1 else .stuck
def zlrgM (c : ZCr) : ZC := fun sl M => (c sl M).bind fun p M1 => if rgIn p.1 p.2 = true then mkLst ((rgP p.1 p.2).map .p) M1 else .stuck
section
variable {X : Cx} {E : XK} {a b e : Expr} {ca cb : ZC} {c : ZCr} {p pos : Pos}
theorem ZR.one (hg : Gl X "range") (hm : X.mg "range" = none) (ha : ZE X E a ca) (na : starEach [a] X.env = (false, eval a X.env) :: starEach [] X.env := by rfl) : ZR X E (.Call (.Name "range" p) [a] [] pos) (zrg1 ca) := by
  obtain ⟨t, pa, q⟩ := ha
  refine ⟨_, prg_1 hg hm pa na, fun σ H θ sl M Q hs hm h => q σ H θ sl M _ hs hm (Post.bind h fun d M1 v H1 θ1 g1 m1 r1 h1 => ?_)⟩
  split at h1
  · cases r1
    exact ⟨_, rfl, Post.here (R := EqP) h1 m1 rfl⟩
  · exact h1.elim
theorem ZR.two (hg : Gl X "range") (hm : X.mg "range" = none) (ha : ZE X E a ca) (hb : ZE X E b cb) (na : starEach [a, b] X.env = (false, eval a X.env) :: starEach [b] X.env := by rfl)
    (nb : starEach [b] X.env = (false, eval b X.env) :: starEach [] X.env := by rfl) (hp : (backTo pos (starEach [b] X.env)).any (·.1) = false := by rfl) : ZR X E (.Call (.Name "range" p) [a, b] [] pos) (zrg2 ca cb) := by
  obtain ⟨t, pa, q⟩ := ha
  obtain ⟨u, pb, qb⟩ := hb
  refine ⟨_, prg_2 hg hm pa pb na nb hp, fun σ H θ sl M Q hs hm h => q σ H θ sl M _ hs hm (Post.bind h fun d M1 v H1 θ1 g1 m1 r1 h1 => ?_)⟩
  refine qb σ H1 θ1 sl M1 _ (hs.go g1) m1 (Post.bind h1 fun d2 M2 v2 H2 θ2 g2 m2 r2 h2 => ?_)
  split at h2
  · cases r1
    cases r2
    exact ⟨_, _, rfl, rfl, Post.here (R := EqP) h2 m2 rfl⟩
  · exact h2.elim
theorem ZE.tupRg (zx : ZX X) (hg : Gl X "tuple") (hm : X.mg "tuple" = none) (he : ZR X E e c) (na : starEach [e] X.env = (false, eval e X.env) :: starEach [] X.env := by rfl) : ZE X E (.Call (.Name "tuple" p) [e] [] pos) (ztrg c) := by
  obtain ⟨t, pa, q⟩ := he
  refine ⟨_, pe_tupRg zx.calm hg hm pa na, fun σ H θ sl M Q hs hm h => q σ H θ sl M _ hs hm (Post.bind h fun d M1 v H1 θ1 g1 m1 r1 h1 => ?_)⟩
  cases r1
  split at h1
  · exact ⟨rgIn_ok (by assumption), fun l hl => new_tup h1 m1 (fz_rg _ _) hl⟩
  · exact h1.elim
theorem ZE.lstRg (zx : ZX X) (hg : Gl X "list") (hm : X.mg "list" = none) (he : ZR X E e c) (na : starEach [e] X.env = (false, eval e X.env) :: starEach [] X.env := by rfl) : ZE X E (.Call (.Name "list" p) [e] [] pos) (zlrg c) := by
  obtain ⟨t, pa, q⟩ := he
  refine ⟨_, pe_frz (pe_listRg zx.calm hg hm pa na), fun σ H θ sl M Q hs hm h => q σ H θ sl M _ hs hm (Post.bind h fun d M1 v H1 θ1 g1 m1 r1 h1 => ?_)⟩
  cases r1
  split at h1
  · exact ⟨rgIn_ok (by assumption), (frzl_ok h1 m1 (fz_rg _ _).drs).2⟩
  · exact h1.elim
theorem ZE.lstRgM (zx : ZX X) (hg : Gl X "list") (hm : X.mg "list" = none) (he : ZR X E e c) (na : starEach [e] X.env = (false, eval e X.env) :: starEach [] X.env := by rfl) : ZE X E (.Call (.Name "list" p) [e] [] pos) (zlrgM c) := by
  obtain ⟨t, pa, q⟩ := he
  refine ⟨_, pe_listRg zx.calm hg hm pa na, fun σ H θ sl M Q hs hm h => q σ H θ sl M _ hs hm (Post.bind h fun d M1 v H1 θ1 g1 m1 r1 h1 => ?_)⟩
  cases r1
  split at h1
  · exact ⟨rgIn_ok (by assumption), (mkLst_ok h1 m1 (fz_rg _ _).drs).2⟩
  · exact h1.elim
end
end Z

/-! Z: the law row from its def. -/
namespace Z
open PySem PySem.Spec PyProof.Rows L2
/-- the law's answer is yes, whatever the small script -/
def Yes (F : Fn) (most : Nat) : Prop := ∀ ns : List Int, ns.length ≤ most → (∀ z ∈ ns, Builtin.Int.intBits z ≤ 1048576) → ∃ M, F [.p (.list (ns.map .int))] [] = .ok (.p (.bool true)) M
theorem sr_none {K : PySem.W.Frag} {H : Hp} : SR K [] H [] := ⟨rfl, List.nodup_nil, fun i o a e => by simp at e, fun i o e => by simp at e⟩
theorem fzall_ints {K : PySem.W.Frag} {H : Hp} : ∀ ns : List Int, FzAll K H (ns.map V.int) (ns.map .int)
  | [] => .nil
  | n :: r => .cons (.int n) (fzall_ints r)
/-- the call of the law's def over one abstract heap -/
theorem yes_at {P : Program} {w : World} {K : PySem.W.Frag} {mg : Str → Option Value} {base : Heap} {k : Nat} {fa a : Addr} {fd : FuncData} {x : Str} {Fz_ : Fn} {H : Hp} {s₁ : Shared} {ns : List Int}
    (G : FnG P w K mg base k fa fd [x] (spZ K mg Fz_ 1)) (hbind : ∀ (s : Shared) (u : Value), BindsTo s fd ⟨[u], []⟩ [(x, u)]) (hr : Room k callerA) (e0 : Env0 P w K mg base callerA [] s₁ H)
    (hS : FzL K H a (ns.map V.int)) (yes : ∃ M, Fz_ [.p (.list (ns.map .int))] [] = .ok (.p (.bool true)) M) :
    codeAny (model P w) callerA (.call (.ref fa) ⟨[.ref a], []⟩) (CR (CX P w) [] P w H s₁ (fun v _ => v = .bl true) fun _ _ _ => False) s₁ := by
  obtain ⟨M, hM⟩ := yes
  refine G.run callerA [] s₁ H ⟨[.ref a], []⟩ [.ref a] [.ref a] _ _ hr rfl e0 (hbind s₁ (.ref a)) (.cons rfl .nil) ?_
  refine ⟨[], [.p (.list (ns.map .int))], [], rfl, sr_none, .cons (Fz.lst hS (fzall_ints ns)) .nil, ?_⟩
  rw [hM]
  intro v H' θ' g s' r
  cases r
  rfl
/-- from the law's def to the row's walk -/
theorem walkZ {l : PySem.W.OpenLaw} {n k : Nat} {q : Program} {loose : List Str} {XP : (Str → Option Value) → Heap → Prop} {YP : World → Heap → Prop} {d : DefRec} {K : Params → PySem.W.Frag} {F : Fn} {x : Str}
    (hn : l.most = some n) (hn2 : n ≤ sizeLine) (hdf : d.params.defaults = []) (hr : Room k callerA) (hY : ∀ (w : World) (h : Heap), YP w h → (K w.params).In h)
    (G : ∀ (w : World) (mg : Str → Option Value) (fa : Addr) (h : Heap), (K w.params).In h → h.Ns mainGlobals mg → mg d.name = some (.ref fa) →
      ∃ fd : FuncData, (∀ (s : Shared) (u : Value), BindsTo s fd ⟨[u], []⟩ [(x, u)]) ∧
        ∀ base : Heap, (K w.params).In base → base.Ns mainGlobals mg → FnG l.prog w (K w.params) mg base k fa fd [x] (spZ (K w.params) mg F 1))
    (yes : Yes F n) : PySem.W.WalkO q loose XP YP l.row.toRowW d [] (fun f vs => PySem.call f vs) := by
  refine Att.attach_callB hn hdf fun w s₀ s₁ mg mb fa o pm cd doc a vs ns Gr Y ho hd hcd hmg hobj hints hlen hbits hg => ?_
  have KX : (K w.params).In s₁.heap := hY w _ Y
  obtain ⟨fd, hb, hF⟩ := G w mg fa _ KX Gr.T.g hmg
  have rv : Vals (ns.map V.int) vs := vals_ints hints
  have lv : vs.length = ns.length := hints.length.symm ▸ rfl
  have main : ∀ H : Hp, FzL (K w.params) H a (ns.map V.int) → HOk l.prog w H s₁.heap → (∀ b u, H b = some u → b = a ∧ ∃ o xs, u = .frz o (.lst xs)) → (H a ≠ none → (K w.params).lookup a = none) →
      codeAny (model l.prog w) callerA (.call (.ref fa) ⟨[.ref a], []⟩) (fun r s' => r = .ok (.ret (.bool true)) ∧ OldK s₁.heap s'.heap ∧ s'.os = s₁.os ∧ AllBare s'.gens) s₁ := by
    intro H hS hok hA hK
    have off : ∀ {b : Addr}, b ≠ a → H b = none := fun {b} nb => by
      cases e : H b with
      | none => rfl
      | some u => exact absurd (hA b u e).1 nb
    have dict : ∀ {b : Addr} {o : Obj} {es : Array DictEntry} {ep : Nat}, s₁.heap.get? b = some o → o.data = .dict es ep → (hidT s₁.heap H).get? b = some o := fun {b o es ep} e de => by
      refine hidT_get e (off fun z => ?_)
      subst z
      rw [hobj] at e
      cases e
      cases (show Data.seq vs.toArray _ = Data.dict es ep from de)
    have ns_ : ∀ {b : Addr} {m : Str → Option Value}, s₁.heap.Ns b m → (hidT s₁.heap H).Ns b m := fun {b m} ⟨o, es, ep, e, de, r⟩ => ⟨o, es, ep, dict e de, de, r⟩
    have kb : (K w.params).In (hidT s₁.heap H) := fun b o e => hidT_get (KX b o e) (by
      cases z : H b with
      | none => rfl
      | some u =>
        obtain ⟨rfl, _⟩ := hA b u z
        rw [hK (by rw [z]; simp)] at e
        cases e)
    have mod : Mod (K w.params) mg (hidT s₁.heap H) := by
      obtain ⟨mc, h1, h2⟩ := Gr.T.nolimit
      exact ⟨kb, ns_ Gr.T.g, ⟨mb, ns_ Gr.T.b, Gr.T.builtins⟩, mc, ns_ h1, h2⟩
    have none_in : ∀ b : Addr, ¬ b ∈ ([] : List Addr) := fun b m => by simp at m
    have e0 : Env0 l.prog w (K w.params) mg (hidT s₁.heap H) callerA [] s₁ H := ⟨rfl, mod, fun b o e => of_hidT e, Nat.le_of_eq (hidT_size _ _), trivial, fun b m => (none_in b m).elim, hok, .of_eq hg⟩
    refine codeAny_mono (yes_at (hF _ kb (ns_ Gr.T.g)) hb hr e0 hS (yes ns hlen hbits)) fun r s' h => ?_
    match r, h with
    | .error e, h =>
      obtain ⟨_, _, _, _, _, _, _, _, _, _, _, _, c⟩ := h
      exact c.elim
    | .ok .next, h => exact False.elim h
    | .ok .brk, h => exact False.elim h
    | .ok .cont, h => exact False.elim h
    | .ok (.ret u), ⟨v, H', os, bare, un, hok', r', e⟩ =>
      have e' : v = .bl true := e
      subst e'
      obtain rfl : u = Value.bool true := r'
      refine ⟨rfl, OldK.of_keep fun b o eb => ?_, os, bare⟩
      cases z : H b with
      | none => exact un.keep b o eb z (none_in b) (by simp)
      | some u =>
        obtain ⟨rfl, ob, xs, rfl⟩ := hA b u z
        obtain ⟨g1, _⟩ := hok b _ z
        obtain ⟨g2, _⟩ := hok' b _ (un.frzs b ob _ z)
        rw [eb] at g1
        cases g1
        exact g2
  cases hk : (K w.params).lookup a with
  | some o =>
    have e := KX a o hk
    rw [hobj] at e
    cases e
    exact main (fun _ => none) (.inr ⟨vs, _, hk, by rw [lv]; exact Nat.le_trans hlen hn2, rv⟩) (fun b u z => nomatch z) (fun b u z => nomatch z) fun z => absurd rfl z
  | none =>
    have at_ : ∀ {b : Addr} {u : HO}, (if b = a then some (HO.frz { cls := .type "list", data := .seq vs.toArray } (.lst (ns.map V.int))) else none) = some u → b = a ∧ u = .frz { cls := .type "list", data := .seq vs.toArray } (.lst (ns.map V.int)) := fun {b u} z => by
      split at z
      · cases z; exact ⟨by assumption, rfl⟩
      · cases z
    refine main (fun b => if b = a then some (.frz { cls := .type "list", data := .seq vs.toArray } (.lst (ns.map V.int))) else none) (.inl ⟨_, if_pos rfl⟩) (fun b u z => ?_) (fun b u z => ⟨(at_ z).1, _, _, (at_ z).2⟩) fun _ => hk
    obtain ⟨rfl, rfl⟩ := at_ z
    exact ⟨hobj, by rw [List.length_map]; exact Nat.le_trans hlen hn2, vs, _, rv, hobj⟩
end Z

/-! Z: reckoning with the combinators. -/
namespace Z
open PySem PySem.Spec PyProof.Rows L2
/-! only what stands first is looked at -/
theorem Out.bind_congr {α β : Type} {o o' : Out α} (k : α → Store → Out β) (h : o = o') : o.bind k = o'.bind k := by rw [h]
theorem Out.thn_congr {α : Type} {o o' : Out α} (k : α → Store → OutS) (h : o = o') : o.thn k = o'.thn k := by rw [h]
theorem OutS.seq_congr {o o' : OutS} (k : SC) (h : o = o') : o.seq k = o'.seq k := by rw [h]
section
variable (sl : Sl) (M : Store)
@[simp] theorem z1_e (g : D → Store → Out D) (a : ZC) : z1 g a sl M = (a sl M).bind g := id rfl
@[simp] theorem z2_e (g : D → D → Store → Out D) (a b : ZC) : z2 g a b sl M = (a sl M).bind fun x M1 => (b sl M1).bind fun y M2 => g x y M2 := id rfl
@[simp] theorem zs_e (g : List D → Store → Out D) (a : ZCs) : zs g a sl M = (a sl M).bind g := id rfl
@[simp] theorem zk_e (x : P) : zk x sl M = .ok (.p x) M := id rfl
@[simp] theorem znil_e : znil sl M = .ok [] M := id rfl
@[simp] theorem zcons_e (a : ZC) (r : ZCs) : zcons a r sl M = (a sl M).bind fun x M1 => (r sl M1).bind fun xs M2 => .ok (x :: xs) M2 := id rfl
@[simp] theorem zt_e (a : ZC) : zt a sl M = (a sl M).bind asBool := id rfl
@[simp] theorem asBool_b (b : Bool) : asBool (.p (.bool b)) M = .ok b M := id rfl
@[simp] theorem ztand_e (a b : ZCb) : ztand a b sl M = (a sl M).bind fun k M1 => if k = true then b sl M1 else .ok false M1 := id rfl
@[simp] theorem ztor_e (a b : ZCb) : ztor a b sl M = (a sl M).bind fun k M1 => if k = true then .ok true M1 else b sl M1 := id rfl
@[simp] theorem ztnot_e (a : ZCb) : ztnot a sl M = (a sl M).bind fun k M1 => .ok (!k) M1 := id rfl
@[simp] theorem zand_e (a b : ZC) : zand a b sl M = (a sl M).bind fun x M1 => (asBool x M1).bind fun k M2 => if k = true then b sl M2 else .ok (.p (.bool false)) M2 := id rfl
@[simp] theorem zor_e (a b : ZC) : zor a b sl M = (a sl M).bind fun x M1 => (asBool x M1).bind fun k M2 => if k = true then .ok (.p (.bool true)) M2 else b sl M2 := id rfl
@[simp] theorem znot_e (a : ZC) : znot a sl M = (a sl M).bind fun x M1 => (asBool x M1).bind fun k M2 => .ok (.p (.bool (!k))) M2 := id rfl
@[simp] theorem zif_e (t : ZCb) (a b : ZC) : zif t a b sl M = (t sl M).bind fun k M1 => if k = true then a sl M1 else b sl M1 := id rfl
@[simp] theorem zfrz_e (a : ZC) : zfrz a sl M = (a sl M).bind zfreeze := id rfl
@[simp] theorem zchain_e (g g' : D → D → Store → Out D) (a b c : ZC) : zchain g g' a b c sl M = (a sl M).bind fun x M1 => (b sl M1).bind fun y M2 => (g x y M2).bind fun z M3 => (asBool z M3).bind fun k M4 => if k = true then (c sl M4).bind fun w M5 => g' y w M5 else .ok (.p (.bool false)) M4 := by
  unfold zchain
  congr 1; funext x M1; congr 1; funext y M2; congr 1; funext z M3
  cases z with
  | ref i => rfl
  | p v =>
    cases v with
    | bool k => cases k <;> rfl
    | _ => rfl
@[simp] theorem zno_e : zno sl M = .ok none M := id rfl
@[simp] theorem zpart_e (a : ZC) : zpart a sl M = (a sl M).bind fun d M1 => match d with
  | .p (.int i) => .ok (some i) M1
  | _ => .stuck := id rfl
@[simp] theorem zslice_e (a : ZC) (l h : ZO) : zslice a l h sl M = (a sl M).bind fun d M1 => (l sl M1).bind fun lo M2 => (h sl M2).bind fun hi M3 => zSl d lo hi M3 := id rfl
def itemsOf (d : D) (M1 : Store) : Out (List D) := match d with
  | .p (.tuple xs) => .ok (xs.map .p) M1
  | .p (.list xs) => .ok (xs.map .p) M1
  | _ => .stuck
def enumOf (d : D) (M1 : Store) : Out (List D) := match d with
  | .p (.tuple xs) => .ok (enumFrom 0 xs) M1
  | .p (.list xs) => .ok (enumFrom 0 xs) M1
  | _ => .stuck
@[simp] theorem zitems_e (a : ZC) : zitems a sl M = (a sl M).bind itemsOf := id rfl
@[simp] theorem zenum_e (a : ZC) : zenum a sl M = (a sl M).bind enumOf := id rfl
@[simp] theorem itemsOf_t (xs : List P) : itemsOf (.p (.tuple xs)) M = .ok (xs.map .p) M := id rfl
@[simp] theorem itemsOf_l (xs : List P) : itemsOf (.p (.list xs)) M = .ok (xs.map .p) M := id rfl
@[simp] theorem enumOf_t (xs : List P) : enumOf (.p (.tuple xs)) M = .ok (enumFrom 0 xs) M := id rfl
@[simp] theorem enumOf_l (xs : List P) : enumOf (.p (.list xs)) M = .ok (enumFrom 0 xs) M := id rfl
theorem rgo1_ex : ∃ f : Int → Store → Out (List D), f = fun j M => if -(2 ^ 62) ≤ j ∧ j < 2 ^ 62 then .ok (rgItems 0 j.toNat) M else .stuck := ⟨_, rfl⟩
/-- sealed: nobody is to reckon with the great numbers in it -/
noncomputable def rgo1 : Int → Store → Out (List D) := Classical.choose rgo1_ex
theorem rgo1_eq : rgo1 = fun j M => if -(2 ^ 62) ≤ j ∧ j < 2 ^ 62 then .ok (rgItems 0 j.toNat) M else .stuck := Classical.choose_spec rgo1_ex
theorem rgo2_ex : ∃ f : Int → Int → Store → Out (List D), f = fun i j M => if -(2 ^ 62) ≤ i ∧ i < 2 ^ 62 ∧ -(2 ^ 62) ≤ j ∧ j < 2 ^ 62 then .ok (rgItems i (j - i).toNat) M else .stuck := ⟨_, rfl⟩
noncomputable def rgo2 : Int → Int → Store → Out (List D) := Classical.choose rgo2_ex
theorem rgo2_eq : rgo2 = fun i j M => if -(2 ^ 62) ≤ i ∧ i < 2 ^ 62 ∧ -(2 ^ 62) ≤ j ∧ j < 2 ^ 62 then .ok (rgItems i (j - i).toNat) M else .stuck := Classical.choose_spec rgo2_ex
@[simp] theorem zrange1_e (a : ZC) : zrange1 a sl M = (a sl M).bind fun d M1 => match d with
  | .p (.int j) => rgo1 j M1
  | _ => .stuck := by rw [rgo1_eq]; rfl
@[simp] theorem zrange2_e (a b : ZC) : zrange2 a b sl M = (a sl M).bind fun d M1 => (b sl M1).bind fun e M2 => match d, e with
  | .p (.int i), .p (.int j) => rgo2 i j M2
  | _, _ => .stuck := by rw [rgo2_eq]; rfl
@[simp] theorem zrg1_e (a : ZC) : zrg1 a sl M = (a sl M).bind fun d M1 => match d with
  | .p (.int n) => .ok ((0 : Int), n) M1
  | _ => .stuck := id rfl
@[simp] theorem zrg2_e (a b : ZC) : zrg2 a b sl M = (a sl M).bind fun d M1 => (b sl M1).bind fun e M2 => match d, e with
  | .p (.int i), .p (.int j) => .ok (i, j) M2
  | _, _ => .stuck := id rfl
@[simp] theorem ztrg_e (c : ZCr) : ztrg c sl M = (c sl M).bind fun p M1 => if rgIn p.1 p.2 = true then .ok (.p (.tuple (rgP p.1 p.2))) M1 else .stuck := id rfl
@[simp] theorem zmt_e (ok : Store → D → Bool) (g : D → List D → Store → Out D) (co : ZC) (cs : ZCs) : zmt ok g co cs sl M = (co sl M).bind fun x M1 => if ok M1 x then (cs sl M1).bind fun ds M2 => g x ds M2 else .stuck := id rfl
@[simp] theorem zm0_e (ok : Store → D → Bool) (g : D → List D → Store → Out D) (co : ZC) : zm0 ok g co sl M = (co sl M).bind fun x M1 => if ok M1 x then g x [] M1 else .stuck := id rfl
@[simp] theorem zstar_e (a : ZC) (r : ZCs) : zstar a r sl M = (a sl M).bind fun x M1 => match x with
  | .p (.tuple xs) => (r sl M1).bind fun ys M2 => .ok (xs.map .p ++ ys) M2
  | x => match lstv M1 x with
    | some xs => (r sl M1).bind fun ys M2 => .ok (xs ++ ys) M2
    | none => .stuck := id rfl
@[simp] theorem zcomp_e (fin : List D → Store → Out D) (vs : List Nat) (ci : ZCs) (f : Tg) (t : ZCb) (e : ZC) : zcomp fin vs ci f t e sl M = (ci sl M).bind fun ds M1 => (compP f t e (wipeS sl vs) ds M1).bind fin := id rfl
@[simp] theorem ztyes_e : ztyes sl M = .ok true M := id rfl
/-- a local name -/
@[simp] theorem zv_0 (d : D) (r : Sl) : zv 0 (some d :: r) M = .ok d M := id rfl
@[simp] theorem zv_S (i : Nat) (o : Option D) (r : Sl) : zv (i + 1) (o :: r) M = zv i r M := id rfl
/-! statements -/
@[simp] theorem sseq_e (a b : SC) : sseq a b sl M = (a sl M).seq b := id rfl
@[simp] theorem sskip_e : sskip sl M = .nx sl M := id rfl
@[simp] theorem sset_e (i : Nat) (c : ZC) : sset i c sl M = (c sl M).thn fun d M1 => .nx (sl.set i (some d)) M1 := id rfl
@[simp] theorem sret_e (c : ZC) : sret c sl M = (c sl M).thn fun d M1 => .rt d M1 := id rfl
@[simp] theorem sretN_e : sretN sl M = .rt (.p .none) M := id rfl
@[simp] theorem sexpr_e (c : ZC) : sexpr c sl M = (c sl M).thn fun _ M1 => .nx sl M1 := id rfl
@[simp] theorem sif_e (t : ZCb) (a b : SC) : sif t a b sl M = (t sl M).thn fun k M1 => if k = true then a sl M1 else b sl M1 := id rfl
@[simp] theorem stg_e (f : Tg) (c : ZC) : stg f c sl M = (c sl M).thn fun d M1 => match f d sl with
  | some sl1 => .nx sl1 M1
  | none => .stuck := id rfl
@[simp] theorem spar_e (is : List Nat) (c : ZCs) : spar is c sl M = (c sl M).thn fun ds M1 => match setAll is ds sl with
  | some sl1 => .nx sl1 M1
  | none => .stuck := id rfl
@[simp] theorem sfor_e (f : Tg) (ci : ZCs) (body : SC) : sfor f ci body sl M = (ci sl M).thn fun ds M1 => forP f body ds sl M1 := id rfl
@[simp] theorem setAll_nil : setAll [] [] sl = some sl := id rfl
@[simp] theorem setAll_cons (i : Nat) (is : List Nat) (d : D) (ds : List D) : setAll (i :: is) (d :: ds) sl = setAll is ds (sl.set i (some d)) := id rfl
@[simp] theorem sstore_e (f : D → D → D → Store → Option Store) (cv co ci : ZC) : sstore f cv co ci sl M = (cv sl M).thn fun v M1 => (co sl M1).thn fun o M2 => (ci sl M2).thn fun i M3 => match f o i v M3 with
  | some M4 => .nx sl M4
  | none => .stuck := by
  unfold sstore
  cases cv sl M with
  | stuck => rfl
  | exc x M1 => rfl
  | ok v M1 =>
    simp only [Out.thn_ok]
    cases co sl M1 with
    | stuck => rfl
    | exc x M1 => rfl
    | ok o M2 =>
      simp only [Out.thn_ok]
      cases ci sl M2 with
      | stuck => rfl
      | exc x M1 => rfl
      | ok i M3 => rfl
@[simp] theorem tgN_e (i : Nat) (d : D) : tgN i d sl = some (sl.set i (some d)) := id rfl
@[simp] theorem tgT_e (f : List P → Sl → Option Sl) (xs : List P) : tgT f (.p (.tuple xs)) sl = f xs sl := id rfl
@[simp] theorem tgsNil_e : tgsNil [] sl = some sl := id rfl
@[simp] theorem tgsCons_e (f : Tg) (r : List P → Sl → Option Sl) (x : P) (xs : List P) : tgsCons f r (x :: xs) sl = match f (.p x) sl with
  | some sl1 => r xs sl1
  | none => none := id rfl
/-! operators -/
@[simp] theorem zAdd_i (i j : Int) : zAdd (.p (.int i)) (.p (.int j)) M = .ok (.p (.int (i + j))) M := id rfl
@[simp] theorem zSub_i (i j : Int) : zSub (.p (.int i)) (.p (.int j)) M = .ok (.p (.int (i - j))) M := id rfl
@[simp] theorem zNeg_i (i : Int) : zNeg (.p (.int i)) M = .ok (.p (.int (-i))) M := id rfl
@[simp] theorem zMul_i (i j : Int) : zMul (.p (.int i)) (.p (.int j)) M = if CMul i j then .ok (.p (.int (i * j))) M else .stuck := id rfl
@[simp] theorem zMod_i (i j : Int) : zMod (.p (.int i)) (.p (.int j)) M = if 0 < j then .ok (.p (.int (i % j))) M else .stuck := id rfl
@[simp] theorem zDiv_i (i j : Int) : zDiv (.p (.int i)) (.p (.int j)) M = if 0 < j ∧ j < 1073741824 then .ok (.p (.int (i / j))) M else .stuck := id rfl
@[simp] theorem zcmpI_i (f : Int → Int → Bool) (i j : Int) : zcmpI f (.p (.int i)) (.p (.int j)) M = .ok (.p (.bool (f i j))) M := id rfl
@[simp] theorem zInt_i (i : Int) : zInt [.p (.int i)] M = .ok (.p (.int i)) M := id rfl
@[simp] theorem zInt_b (i : Bool) : zInt [.p (.bool i)] M = .ok (.p (.int (if i then 1 else 0))) M := id rfl
@[simp] theorem zMax_2 (i j : Int) : zMax [.p (.int i), .p (.int j)] M = .ok (.p (.int (max i j))) M := id rfl
@[simp] theorem zMin_2 (i j : Int) : zMin [.p (.int i), .p (.int j)] M = .ok (.p (.int (min i j))) M := id rfl
@[simp] theorem zLen_t (xs : List P) : zLen [.p (.tuple xs)] M = .ok (.p (.int xs.length)) M := id rfl
@[simp] theorem zLen_l (xs : List P) : zLen [.p (.list xs)] M = .ok (.p (.int (xs.map D.p).length)) M := id rfl
@[simp] theorem mkTup_p (xs : List P) : mkTup (xs.map .p) M = if xs.length ≤ sizeLine then .ok (.p (.tuple xs)) M else .stuck := by simp [mkTup]
@[simp] theorem snap_ptup (n : Nat) (x : P) : snap n M (.p x) = some x := snap_p n M x
@[simp] theorem zEq_int (i j : Int) : zEq (.p (.int i)) (.p (.int j)) M = .ok (.p (.bool (decide (i = j)))) M := by simp [zEq, peq]
@[simp] theorem zEq_str (i j : Str) : zEq (.p (.str i)) (.p (.str j)) M = .ok (.p (.bool (decide (i = j)))) M := by simp [zEq, peq]
@[simp] theorem zNe_int (i j : Int) : zNe (.p (.int i)) (.p (.int j)) M = .ok (.p (.bool (!decide (i = j)))) M := by simp [zNe, peq]
@[simp] theorem zNe_str (i j : Str) : zNe (.p (.str i)) (.p (.str j)) M = .ok (.p (.bool (!decide (i = j)))) M := by simp [zNe, peq]
@[simp] theorem zTuple_t (xs : List P) : zTuple [.p (.tuple xs)] M = .ok (.p (.tuple xs)) M := id rfl
@[simp] theorem zTuple_l (xs : List P) : zTuple [.p (.list xs)] M = .ok (.p (.tuple xs)) M := by simp [zTuple]
end
/-! subscripts, slices -/
theorem atI_nat' {α : Type} (xs : List α) (j : Nat) : atI xs (j : Int) = xs[j]? := by
  unfold atI ixN
  rw [if_pos (by omega)]
  by_cases h : j < xs.length
  · rw [if_pos (by omega)]
    simp
  · rw [if_neg (by omega), List.getElem?_eq_none (by omega)]
    rfl
theorem zIx_t {xs : List P} {j : Nat} {x : P} (M : Store) (h : xs[j]? = some x) : zIx (.p (.tuple xs)) (.p (.int (j : Int))) M = .ok (.p x) M := by
  unfold zIx
  simp only [atI_nat', h]
theorem zIx_l {xs : List P} {j : Nat} {x : P} (M : Store) (h : xs[j]? = some x) : zIx (.p (.list xs)) (.p (.int (j : Int))) M = .ok (.p x) M := by
  unfold zIx
  simp only [lstv_p, atI_nat', List.getElem?_map, h, Option.map_some]
@[simp] theorem zIx_t0 (x : P) (xs : List P) (M : Store) : zIx (.p (.tuple (x :: xs))) (.p (.int 0)) M = .ok (.p x) M := zIx_t (j := 0) M rfl
@[simp] theorem zIx_t1 (y x : P) (xs : List P) (M : Store) : zIx (.p (.tuple (y :: x :: xs))) (.p (.int 1)) M = .ok (.p x) M := zIx_t (j := 1) M rfl
@[simp] theorem zIx_t2 (z y x : P) (xs : List P) (M : Store) : zIx (.p (.tuple (z :: y :: x :: xs))) (.p (.int 2)) M = .ok (.p x) M := zIx_t (j := 2) M rfl
@[simp] theorem zIx_t3 (u z y x : P) (xs : List P) (M : Store) : zIx (.p (.tuple (u :: z :: y :: x :: xs))) (.p (.int 3)) M = .ok (.p x) M := zIx_t (j := 3) M rfl
/-- a subscript of a list of the store -/
theorem zIx_r {M : Store} {i j : Nat} {ds : List D} {d : D} (h : lstAt M i = some ds) (e : ds[j]? = some d) : zIx (.ref i) (.p (.int (j : Int))) M = .ok d M := by
  have l : lstv M (.ref i) = some ds := by
    unfold lstAt at h
    unfold lstv
    simp only
    split at h
    · cases h; simp [*]
    · cases h
  unfold zIx
  simp only [l, atI_nat', e]
theorem lstv_of {M : Store} {i : Nat} {ds : List D} (h : lstAt M i = some ds) : lstv M (.ref i) = some ds := by
  unfold lstAt at h
  unfold lstv
  simp only
  split at h
  · cases h; simp [*]
  · cases h
/-! loops -/
/-- a loop that goes to its end, by an invariant over what is done -/
theorem forP_inv {f : Tg} {body : SC} (I : List D → Sl → Store → Prop) : ∀ (post pre : List D) {sl : Sl} {M : Store}, I pre sl M →
    (∀ a d b sl M, pre ++ post = a ++ d :: b → I a sl M → ∃ sl1 sl2 M2, f d sl = some sl1 ∧ body sl1 M = .nx sl2 M2 ∧ I (a ++ [d]) sl2 M2) →
    ∃ sl' M', forP f body post sl M = .nx sl' M' ∧ I (pre ++ post) sl' M'
  | [], pre, sl, M, h, _ => ⟨sl, M, rfl, by rw [List.append_nil]; exact h⟩
  | d :: post, pre, sl, M, h, st => by
    obtain ⟨sl1, sl2, M2, e1, e2, h2⟩ := st pre d post sl M rfl h
    obtain ⟨sl', M', e3, h3⟩ := forP_inv I post (pre ++ [d]) h2 (fun a d' b sl M e => st a d' b sl M (by rw [← e]; simp))
    refine ⟨sl', M', ?_, by simpa using h3⟩
    unfold forP
    simp only [e1, e2, OutS.seq_nx, e3]
/-- the same where what is walked is a mapped list -/
theorem forP_map {α : Type} {f : Tg} {body : SC} (g : α → D) (xs : List α) (I : List α → Sl → Store → Prop) {sl : Sl} {M : Store} (h0 : I [] sl M)
    (st : ∀ a x b sl M, xs = a ++ x :: b → I a sl M → ∃ sl1 sl2 M2, f (g x) sl = some sl1 ∧ body sl1 M = .nx sl2 M2 ∧ I (a ++ [x]) sl2 M2) :
    ∃ sl' M', forP f body (xs.map g) sl M = .nx sl' M' ∧ I xs sl' M' := by
  have go : ∀ (post pre : List α) {sl : Sl} {M : Store}, xs = pre ++ post → I pre sl M → ∃ sl' M', forP f body (post.map g) sl M = .nx sl' M' ∧ I xs sl' M' := by
    intro post
    induction post with
    | nil => intro pre sl M e h; exact ⟨sl, M, rfl, by rw [e, List.append_nil]; exact h⟩
    | cons x post ih =>
      intro pre sl M e h
      obtain ⟨sl1, sl2, M2, e1, e2, h2⟩ := st pre x post sl M e h
      obtain ⟨sl', M', e3, h3⟩ := ih (pre ++ [x]) (by rw [e]; simp) h2
      refine ⟨sl', M', ?_, h3⟩
      rw [List.map_cons]
      unfold forP
      simp only [e1, e2, OutS.seq_nx, e3]
  exact go xs [] rfl h0
/-- a comprehension whose parts change nothing -/
theorem compP_map {α : Type} {f : Tg} {t : ZCb} {e : ZC} {sl : Sl} {M : Store} (g : α → D) (p : α → Bool) (r : α → D) : ∀ (xs : List α),
    (∀ x ∈ xs, ∃ sl1, f (g x) sl = some sl1 ∧ t sl1 M = .ok (p x) M ∧ (p x = true → e sl1 M = .ok (r x) M)) → compP f t e sl (xs.map g) M = .ok ((xs.filter p).map r) M
  | [], _ => rfl
  | x :: xs, h => by
    obtain ⟨sl1, e1, e2, e3⟩ := h x List.mem_cons_self
    have ih := compP_map g p r xs fun y hy => h y (List.mem_cons_of_mem _ hy)
    rw [List.map_cons]
    unfold compP
    simp only [e1, e2, noexc, Out.bind_ok]
    cases hp : p x with
    | true =>
      simp only [if_true, e3 hp, noexc, Out.bind_ok, ih]
      rw [List.filter_cons_of_pos hp, List.map_cons]
    | false =>
      simp only [Bool.false_eq_true, if_false, ih]
      rw [List.filter_cons_of_neg (by simp [hp])]
theorem enumFrom_map {α : Type} (enc : α → P) (xs : List α) : enumFrom 0 (xs.map enc) = xs.zipIdx.map fun p => .p (.tuple [.int (p.2 : Nat), enc p.1]) := by
  have go : ∀ (xs : List α) (k : Nat), enumFrom k (xs.map enc) = (xs.zipIdx k).map fun p => .p (.tuple [.int (p.2 : Nat), enc p.1]) := by
    intro xs
    induction xs with
    | nil => intro k; rfl
    | cons x xs ih => intro k; rw [List.map_cons, enumFrom, List.zipIdx_cons, List.map_cons, ih (k + 1)]
  exact go xs 0
end Z

/-! Skeletons as Lean lists. -/
namespace Z
open PySem PySem.Spec PyProof.Rows L2
theorem fn_rt {n : Nat} {c : SC} {ds : List D} {M M' : Store} {x : P} (h : c (ds.map some ++ List.replicate (n - ds.length) none) M = .rt (.p x) M') : fnB n c ds M = .ok (.p x) (M'.take M.length) := by
  unfold fnB runB
  rw [h]
  rfl
theorem fn_rtN {n : Nat} {c : SC} {ds : List D} {M R : Store} {x : P} (h : c (ds.map some ++ List.replicate (n - ds.length) none) M = .rt (.p x) (M ++ R)) : fnB n c ds M = .ok (.p x) M := by
  rw [fn_rt h, List.take_left]
theorem fn_rt0 {n : Nat} {c : SC} {ds : List D} {M : Store} {x : P} (h : c (ds.map some ++ List.replicate (n - ds.length) none) M = .rt (.p x) M) : fnB n c ds M = .ok (.p x) M := by
  rw [fn_rt h, List.take_length]
inductive Itm where
  | lab
  | fil (s : Int)
  | jmp (g : Nat) (s l : Int)
deriving DecidableEq
def Itm.enc : Itm → P
  | .lab => .tuple [.str "label"]
  | .fil s => .tuple [.str "fill", .int s]
  | .jmp g s l => .tuple [.str "jump", .int (g : Int), .int s, .int l]
def Itm.isJ : Itm → Bool
  | .jmp _ _ _ => true
  | _ => false
def Itm.isF : Itm → Bool
  | .fil _ => true
  | _ => false
def Itm.isL : Itm → Bool
  | .lab => true
  | _ => false
def Itm.tag : Itm → Str
  | .lab => "label"
  | .fil _ => "fill"
  | .jmp _ _ _ => "jump"
def sk (xs : List Itm) : P := .tuple (xs.map Itm.enc)
def pints (ns : List Int) : List P := ns.map .int
def pnats (ns : List Nat) : List P := ns.map fun n : Nat => .int (n : Int)
@[simp] theorem tag_J (x : Itm) : decide (x.tag = ("jump" : Str)) = x.isJ := by cases x <;> rfl
@[simp] theorem tag_F (x : Itm) : decide (x.tag = ("fill" : Str)) = x.isF := by cases x <;> rfl
@[simp] theorem tag_L (x : Itm) : decide (x.tag = ("label" : Str)) = x.isL := by cases x <;> rfl
@[simp] theorem ix_tag (x : Itm) (M : Store) : zIx (.p x.enc) (.p (.int 0)) M = .ok (.p (.str x.tag)) M := by cases x <;> rfl
/-- an item of the skeleton -/
theorem ix_sk {xs : List Itm} {j : Nat} {x : Itm} (M : Store) (h : xs[j]? = some x) : zIx (.p (sk xs)) (.p (.int (j : Int))) M = .ok (.p x.enc) M := zIx_t M (by rw [List.getElem?_map, h]; rfl)
/-- the places at which p holds -/
def places (p : Itm → Bool) (xs : List Itm) : List Nat := (xs.zipIdx.filter fun q => p q.1).map Prod.snd
theorem mem_places {p : Itm → Bool} {xs : List Itm} {j : Nat} : j ∈ places p xs ↔ ∃ x, xs[j]? = some x ∧ p x = true := by
  unfold places
  simp only [List.mem_map, List.mem_filter]
  constructor
  · rintro ⟨⟨x, i⟩, ⟨h, hp⟩, rfl⟩
    exact ⟨x, by simpa using List.mem_zipIdx_iff_getElem?.mp h, hp⟩
  · rintro ⟨x, h, hp⟩
    exact ⟨(x, j), ⟨List.mem_zipIdx_iff_getElem?.mpr h, hp⟩, rfl⟩

@[simp] theorem frzl_mapf {α : Type} (f : α → P) (xs : List α) (M : Store) : frzl (xs.map fun x => .p (f x)) M = if xs.length ≤ sizeLine then .ok (.p (.list (xs.map f))) M else .stuck := by
  have e : (xs.map fun x => D.p (f x)) = (xs.map f).map .p := by rw [List.map_map]; rfl
  rw [e, frzl_map, List.length_map]
@[simp] theorem intsOf_mapf {α : Type} (f : α → Int) (xs : List α) : intsOf (xs.map fun x => .p (.int (f x))) = some (xs.map f) := by
  have e : (xs.map fun x => D.p (.int (f x))) = (xs.map f).map fun i => .p (.int i) := by rw [List.map_map]; rfl
  rw [e, intsOf_map]
theorem zlen_places (p : Itm → Bool) (xs : List Itm) : (xs.zipIdx.filter fun q => p q.1).length ≤ xs.length := by
  have := List.length_filter_le (fun q : Itm × Nat => p q.1) xs.zipIdx
  rw [List.length_zipIdx] at this
  exact this
theorem small {n : Nat} (h : n ≤ 1000) : n ≤ 16777216 := by omega
/-- the skeleton's shape: goals and sizes are not out of the way -/
def Sane (xs : List Itm) : Prop := xs.length ≤ 1000 ∧ ∀ x ∈ xs, match x with
  | .jmp g _ _ => g ≤ xs.length
  | _ => True

/-! ### stores -/
@[simp] theorem pures_cons (x : P) (r : List D) : pures (.p x :: r) = (pures r).map (x :: ·) := id rfl
@[simp] theorem pures_mapf {α : Type} (f : α → P) (xs : List α) : pures (xs.map fun x => .p (f x)) = some (xs.map f) := by
  have e : (xs.map fun x => D.p (f x)) = (xs.map f).map .p := by rw [List.map_map]; rfl
  rw [e, pures_map]
@[simp] theorem pures_comp {α : Type} (f : α → P) (xs : List α) : pures (xs.map (D.p ∘ f)) = some (xs.map f) := pures_mapf f xs
@[simp] theorem intsOf_cons (i : Int) (r : List D) : intsOf (.p (.int i) :: r) = (intsOf r).map (i :: ·) := id rfl
@[simp] theorem intsOf_comp (xs : List Int) : intsOf (xs.map (D.p ∘ PyData.int)) = some xs := by
  have := intsOf_mapf (fun x : Int => x) xs
  simpa [Function.comp_def] using this
@[simp] theorem intsOf_ints (xs : List Int) : intsOf ((pints xs).map .p) = some xs := by rw [pints, List.map_map]; exact intsOf_comp xs
@[simp] theorem intsOf_nil : intsOf [] = some [] := id rfl
@[simp] theorem lstAt_app0 (M R : Store) : lstAt (M ++ R) M.length = lstAt R 0 := by unfold lstAt; rw [List.getElem?_append_right (Nat.le_refl _), Nat.sub_self]
@[simp] theorem lstAt_appk (M R : Store) (k : Nat) : lstAt (M ++ R) (M.length + k) = lstAt R k := by unfold lstAt; rw [List.getElem?_append_right (by omega), Nat.add_sub_cancel_left]
@[simp] theorem set_app0 (M R : Store) (o : Ob) : (M ++ R).set M.length o = M ++ R.set 0 o := by rw [List.set_append_right _ _ (Nat.le_refl _), Nat.sub_self]
@[simp] theorem set_appk (M R : Store) (k : Nat) (o : Ob) : (M ++ R).set (M.length + k) o = M ++ R.set k o := by rw [List.set_append_right _ _ (by omega), Nat.add_sub_cancel_left]
@[simp] theorem lstAt_c0 (ds : List D) (R : Store) : lstAt (.lst ds :: R) 0 = some ds := id rfl
@[simp] theorem lstAt_cS (o : Ob) (R : Store) (k : Nat) : lstAt (o :: R) (k + 1) = lstAt R k := id rfl
theorem lstv_ref {M : Store} {i : Nat} : lstv M (.ref i) = match M[i]? with
  | some (.lst ds) => some ds
  | some (.frz xs) => some (xs.map .p)
  | _ => none := rfl
@[simp] theorem lstv_app0 (M R : Store) : lstv (M ++ R) (.ref M.length) = lstv R (.ref 0) := by simp only [lstv_ref, List.getElem?_append_right (Nat.le_refl _), Nat.sub_self]
@[simp] theorem lstv_appk (M R : Store) (k : Nat) : lstv (M ++ R) (.ref (M.length + k)) = lstv R (.ref k) := by
  simp only [lstv_ref]; rw [List.getElem?_append_right (by omega), Nat.add_sub_cancel_left]
@[simp] theorem lstv_c0 (ds : List D) (R : Store) : lstv (.lst ds :: R) (.ref 0) = some ds := id rfl
@[simp] theorem lstv_f0 (ds : List P) (R : Store) : lstv (.frz ds :: R) (.ref 0) = some (ds.map .p) := id rfl
@[simp] theorem lstv_cS (o : Ob) (R : Store) (k : Nat) : lstv (o :: R) (.ref (k + 1)) = lstv R (.ref k) := id rfl
theorem zfreeze_r {M M' : Store} {i : Nat} {xs : List P} (h : lstAt M i = some (xs.map .p)) : zfreeze (.ref i) M = .ok (.p (.list xs)) (M.set i (.frz xs)) := by
  unfold lstAt at h
  unfold zfreeze
  simp only
  split at h
  · rename_i q
    cases h
    simp only [q, pures_map]
  · cases h
@[simp] theorem zfreeze_app0 (M R : Store) (xs : List P) : zfreeze (.ref M.length) (M ++ .lst (xs.map .p) :: R) = .ok (.p (.list xs)) (M ++ .frz xs :: R) := by
  rw [zfreeze_r (M' := M) (xs := xs) (by simp)]
  simp
@[simp] theorem isL_ref (M : Store) (d : D) : isL M d = (lstv M d).isSome := id rfl
@[simp] theorem zAppend_e (i : Nat) (y : P) (M : Store) : zAppend (.ref i) [.p y] M = match lstAt M i with
  | some xs => if xs.length < sizeLine then .ok (.p .none) (M.set i (.lst (xs ++ [.p y]))) else .stuck
  | none => .stuck := by
  unfold zAppend
  simp only
  cases lstAt M i with
  | none => rfl
  | some xs => simp [D.low]
theorem all_low (i : Nat) (xs : List P) : (xs.map D.p).all (D.low i) = true := by simp [List.all_eq_true, D.low]
@[simp] theorem zExtend_e (i : Nat) (ys : List P) (M : Store) : zExtend (.ref i) [.p (.list ys)] M = match lstAt M i with
  | some xs => if xs.length + ys.length ≤ sizeLine then .ok (.p .none) (M.set i (.lst (xs ++ ys.map .p))) else .stuck
  | none => .stuck := by
  unfold zExtend
  simp only [lstv_p]
  cases lstAt M i with
  | none => rfl
  | some xs => simp only [all_low, List.length_map, true_and]
@[simp] theorem mkLst_e (ds : List D) (M : Store) : mkLst ds M = if ds.length ≤ sizeLine then .ok (.ref M.length) (M ++ [.lst ds]) else .stuck := id rfl
/-! ### slices -/
theorem cutG_nn {α : Type} (l : List α) (a b : Nat) : cutG l (some (a : Int)) (some (b : Int)) = (l.take b).drop a := by
  unfold cutG
  rw [HT.sIx_nat, HT.sIx_nat, List.drop_take]
  by_cases h : a ≤ l.length
  · rw [Nat.min_eq_left h]
    by_cases h2 : b ≤ l.length
    · rw [Nat.min_eq_left h2]
    · rw [Nat.min_eq_right (by omega), List.take_of_length_le (by rw [List.length_drop]; omega), List.take_of_length_le (by rw [List.length_drop]; omega)]
  · rw [List.drop_eq_nil_of_le (show l.length ≤ a by omega), List.take_nil, show min a l.length = l.length by omega, List.drop_length, List.take_nil]
theorem cutG_n_ {α : Type} (l : List α) (a : Nat) : cutG l (some (a : Int)) none = l.drop a := by
  unfold cutG
  rw [HT.sIx_nat, HT.sIx_none]
  by_cases h : a ≤ l.length
  · rw [Nat.min_eq_left h, List.take_of_length_le (by rw [List.length_drop]; omega)]
  · rw [Nat.min_eq_right (by omega), List.drop_eq_nil_of_le (Nat.le_refl _), List.drop_eq_nil_of_le (by omega), List.take_nil]
theorem cutG__n {α : Type} (l : List α) (b : Nat) : cutG l none (some (b : Int)) = l.take b := by
  unfold cutG
  rw [HT.sIx_none, HT.sIx_nat, List.drop_zero, Nat.sub_zero]
  exact List.take_eq_take_min.symm
theorem cutG_map {α β : Type} (f : α → β) (l : List α) (a b : Option Int) : cutG (l.map f) a b = (cutG l a b).map f := by
  unfold cutG
  simp [List.map_take, List.map_drop]
@[simp] theorem zSl_t (xs : List P) (a b : Option Int) (M : Store) : zSl (.p (.tuple xs)) a b M = .ok (.p (.tuple (cutG xs a b))) M := id rfl
/-! ### fills -/
def Itm.sz : Itm → Int
  | .fil s => s
  | _ => 0
def fillsOf (l : List Itm) : List Int := (l.filter Itm.isF).map Itm.sz
theorem ix_sz {x : Itm} (M : Store) (h : x.isF = true) : zIx (.p x.enc) (.p (.int 1)) M = .ok (.p (.int x.sz)) M := by
  cases x with
  | fil s => rfl
  | _ => cases h
theorem len_fills (l : List Itm) : (fillsOf l).length ≤ l.length := by unfold fillsOf; rw [List.length_map]; exact List.length_filter_le _ _

@[simp] theorem zfc_e (n : Nat) (F : Fn) (ds : List D) (M : Store) : zfc n F ds M = if ds.length = n then F ds M else .stuck := id rfl
/-- an outcome as wanted -/
def Sat {α : Type} (Q : α → Prop) (o : α) : Prop := Q o
theorem Sat.mk {α : Type} {Q : α → Prop} {o : α} (h : Q o) : Sat Q o := h
/-- a loop, then what follows -/
theorem forP_seq {α : Type} {f : Tg} {body : SC} {Q : OutS → Prop} {k : SC} {sl : Sl} {M : Store} (g : α → D) (xs : List α) (I : List α → Sl → Store → Prop) (h0 : I [] sl M)
    (st : ∀ a x b sl M, xs = a ++ x :: b → I a sl M → ∃ sl1, f (g x) sl = some sl1 ∧ Sat (fun o => ∃ sl2 M2, o = .nx sl2 M2 ∧ I (a ++ [x]) sl2 M2) (body sl1 M))
    (fin : ∀ sl M, I xs sl M → Sat Q (k sl M)) : Sat Q ((forP f body (xs.map g) sl M).seq k) := by
  obtain ⟨sl', M', e, h⟩ := forP_map g xs I h0 fun a x b sl M e i => by
    obtain ⟨sl1, e1, sl2, M2, e2, i2⟩ := st a x b sl M e i
    exact ⟨sl1, sl2, M2, e1, e2, i2⟩
  rw [e]
  exact fin sl' M' h
/-- a loop that is the block's last -/
theorem forP_last {α : Type} {f : Tg} {body : SC} {Q : OutS → Prop} {sl : Sl} {M : Store} (g : α → D) (xs : List α) (I : List α → Sl → Store → Prop) (h0 : I [] sl M)
    (st : ∀ a x b sl M, xs = a ++ x :: b → I a sl M → ∃ sl1, f (g x) sl = some sl1 ∧ Sat (fun o => ∃ sl2 M2, o = .nx sl2 M2 ∧ I (a ++ [x]) sl2 M2) (body sl1 M))
    (fin : ∀ sl M, I xs sl M → Sat Q (.nx sl M)) : Sat Q (forP f body (xs.map g) sl M) := by
  obtain ⟨sl', M', e, h⟩ := forP_map g xs I h0 fun a x b sl M e i => by
    obtain ⟨sl1, e1, sl2, M2, e2, i2⟩ := st a x b sl M e i
    exact ⟨sl1, sl2, M2, e1, e2, i2⟩
  rw [e]
  exact fin sl' M' h
theorem fn_satN {n : Nat} {c : SC} {ds : List D} {M : Store} {x : P} (h : Sat (fun o => ∃ R, o = .rt (.p x) (M ++ R)) (c (ds.map some ++ List.replicate (n - ds.length) none) M)) : fnB n c ds M = .ok (.p x) M := by
  obtain ⟨R, h⟩ := h
  exact fn_rtN h
theorem dp_pnats (ns : List Nat) : (pnats ns).map D.p = ns.map fun n : Nat => D.p (.int (n : Int)) := by rw [pnats, List.map_map]; rfl
theorem dp_pints (ns : List Int) : (pints ns).map D.p = ns.map fun n : Int => D.p (.int n) := by rw [pints, List.map_map]; rfl
theorem dp_enc (xs : List Itm) : (xs.map Itm.enc).map D.p = xs.map fun x => D.p x.enc := by rw [List.map_map]; rfl
@[simp] theorem pints_app (a b : List Int) : pints a ++ pints b = pints (a ++ b) := by simp [pints]
@[simp] theorem pints_len (a : List Int) : (pints a).length = a.length := by simp [pints]
@[simp] theorem pnats_len (a : List Nat) : (pnats a).length = a.length := by simp [pnats]
theorem dp_snoc (a : List Int) (i : Int) : (pints a).map D.p ++ [D.p (.int i)] = (pints (a ++ [i])).map D.p := by simp [pints]

/-! ### comparing -/
theorem can_map {α : Type} (f : α → P) (h : ∀ x, (f x).canLay0 = true) : ∀ xs : List α, PyData.canLayAll0 (xs.map f) = true
  | [] => rfl
  | x :: xs => by rw [List.map_cons, PyData.canLayAll0, h x, can_map f h xs]; rfl
theorem dep_map {α : Type} (f : α → P) (n : Nat) (h : ∀ x, (f x).depth ≤ n) : ∀ xs : List α, PyData.depthAll (xs.map f) ≤ n
  | [] => Nat.zero_le _
  | x :: xs => by rw [List.map_cons, PyData.depthAll]; exact Nat.max_le.mpr ⟨h x, dep_map f n h xs⟩
theorem sh_tup {α : Type} (f : α → P) (n : Nat) (hn : n ≤ 60) (h : ∀ x, (f x).canLay0 = true ∧ (f x).depth ≤ n) (xs : List α) : SeqAt.shaped (.tuple (xs.map f)) = true ∧ SeqAt.shaped (.list (xs.map f)) = true := by
  have h1 := can_map f (fun x => (h x).1) xs
  have h2 := dep_map f n (fun x => (h x).2) xs
  have h3 : PyData.depthAll (xs.map f) + 1 ≤ 64 := by omega
  have h4 : (PyData.canLayAll0 (xs.map f) && decide (PyData.depthAll (xs.map f) + 1 ≤ 64)) = true := by rw [h1, decide_eq_true h3]; rfl
  exact ⟨h4, h4⟩
theorem eqv_ints (xs ys : List Int) : PyData.eqvAll (pints xs) (pints ys) = decide (xs = ys) := PySem.W.eqvAll_map xs ys
theorem pnats_ints (ns : List Nat) : pnats ns = pints (ns.map fun n : Nat => (n : Int)) := by simp [pnats, pints]
theorem any_ints (ns : List Int) (i : Int) : ((pints ns).any fun z => PyData.eqv z (.int i)) = decide (i ∈ ns) := PySem.W.any_datum ns i
theorem any_strs (ns : List Str) (i : Str) : ((ns.map PyData.str).any fun z => PyData.eqv z (.str i)) = decide (i ∈ ns) := PySem.W.any_datum ns i
theorem sh_ints (ns : List Int) : SeqAt.shaped (.tuple (pints ns)) = true ∧ SeqAt.shaped (.list (pints ns)) = true := sh_tup _ 0 (by decide) (fun x => ⟨rfl, Nat.le_refl _⟩) ns
theorem zin_ti (neg : Bool) (i : Int) (ns : List Int) (M : Store) : zin neg (.p (.int i)) (.p (.tuple (pints ns))) M = .ok (.p (.bool (neg ^^ decide (i ∈ ns)))) M := by
  unfold zin
  simp only [snap_p, sh_int, (sh_ints ns).1, and_self, if_true, any_ints]
theorem zin_li (neg : Bool) (i : Int) (ns : List Int) (M : Store) : zin neg (.p (.int i)) (.p (.list (pints ns))) M = .ok (.p (.bool (neg ^^ decide (i ∈ ns)))) M := by
  unfold zin
  simp only [snap_p, sh_int, (sh_ints ns).2, and_self, if_true, any_ints]
@[simp] theorem zin_tn (neg : Bool) (i : Nat) (ns : List Nat) (M : Store) : zin neg (.p (.int (i : Int))) (.p (.tuple (pnats ns))) M = .ok (.p (.bool (neg ^^ decide (i ∈ ns)))) M := by
  rw [pnats_ints, zin_ti]
  congr 4
  simp only [List.mem_map, decide_eq_decide]
  exact ⟨fun ⟨a, h, e⟩ => by rw [← Int.ofNat.inj e]; exact h, fun h => ⟨i, h, rfl⟩⟩
theorem zEq_refl {x : P} (M : Store) (h : SeqAt.shaped x = true) : zEq (.p x) (.p x) M = .ok (.p (.bool true)) M := by
  unfold zEq
  simp only [snap_p]
  have e : peq x x = some true := by
    unfold peq
    split
    · simp
    · simp
    · rfl
    · rw [if_pos ⟨h, h⟩, SeqAt.eqv_refl x (SeqAt.canLay_of_shaped h)]
  rw [e]
theorem zNe_refl {x : P} (M : Store) (h : SeqAt.shaped x = true) : zNe (.p x) (.p x) M = .ok (.p (.bool false)) M := by
  unfold zNe
  simp only [snap_p]
  have e : peq x x = some true := by
    unfold peq
    split
    · simp
    · simp
    · rfl
    · rw [if_pos ⟨h, h⟩, SeqAt.eqv_refl x (SeqAt.canLay_of_shaped h)]
  rw [e]
  rfl
/-- xs != [] -/
theorem zNe_nil {ns : List Int} (M : Store) : zNe (.p (.list (pints ns))) (.p (.list [])) M = .ok (.p (.bool (!decide (ns = [])))) M := by
  unfold zNe
  simp only [snap_p]
  have e : peq (.list (pints ns)) (.list []) = some (decide (ns = [])) := by
    show (if _ then _ else _) = _
    rw [if_pos ⟨(sh_ints ns).2, (sh_ints []).2⟩, PyData.eqv, show ([] : List P) = pints [] from rfl, eqv_ints]
  rw [e]
theorem rgP_nat (a b : Nat) : rgP (a : Int) (b : Int) = pnats (List.range' a (b - a)) := by
  unfold rgP pnats
  rw [show ((b : Int) - a).toNat = b - a by omega, List.range'_eq_map_range, List.map_map]
  apply List.map_congr_left
  intro i _
  simp

theorem rgItems_nat (a b : Nat) : rgItems (a : Int) ((b : Int) - a).toNat = (List.range' a (b - a)).map fun p : Nat => D.p (.int (p : Int)) := by
  unfold rgItems
  rw [show ((b : Int) - a).toNat = b - a by omega, List.range'_eq_map_range, List.map_map]
  apply List.map_congr_left
  intro i _
  simp
theorem rgo2_nat {a b : Nat} (ha : a ≤ 100000) (hb : b ≤ 100000) (M : Store) : rgo2 (a : Int) (b : Int) M = .ok ((List.range' a (b - a)).map fun p : Nat => D.p (.int (p : Int))) M := by
  rw [rgo2_eq]
  simp only
  rw [if_pos ⟨by omega, by omega, by omega, by omega⟩, rgItems_nat]
theorem rgo1_nat {b : Nat} (hb : b ≤ 100000) (M : Store) : rgo1 (b : Int) M = .ok ((List.range b).map fun p : Nat => D.p (.int (p : Int))) M := by
  rw [rgo1_eq]
  simp only
  rw [if_pos ⟨by omega, by omega⟩]
  unfold rgItems
  congr 1
  rw [Int.toNat_natCast]
  apply List.map_congr_left
  intro i _
  simp
@[simp] theorem items_sk (xs : List Itm) (M : Store) : itemsOf (.p (sk xs)) M = .ok (xs.map fun x => .p x.enc) M := by unfold sk; rw [itemsOf_t, dp_enc]
@[simp] theorem enum_sk (xs : List Itm) (M : Store) : enumOf (.p (sk xs)) M = .ok (xs.zipIdx.map fun p => .p (.tuple [.int (p.2 : Nat), p.1.enc])) M := by unfold sk; rw [enumOf_t, enumFrom_map]
@[simp] theorem len_sk (xs : List Itm) (M : Store) : zLen [.p (sk xs)] M = .ok (.p (.int xs.length)) M := by unfold sk; rw [zLen_t, List.length_map]
@[simp] theorem sl_sk (xs : List Itm) (a b : Option Int) (M : Store) : zSl (.p (sk xs)) a b M = .ok (.p (sk (cutG xs a b))) M := by unfold sk; rw [zSl_t, cutG_map]
theorem optAll_p (n : Nat) (M : Store) : ∀ xs : List P, optAll (snap n M) (xs.map .p) = some xs
  | [] => rfl
  | x :: xs => by rw [List.map_cons, optAll, snap_p, optAll_p n M xs]
theorem snap_lst {M : Store} {i n : Nat} {xs : List P} (h : lstAt M i = some (xs.map .p)) : snap (n + 1) M (.ref i) = some (.list xs) := by
  unfold lstAt at h
  unfold snap
  split at h
  · rename_i q
    cases h
    simp only [q, optAll_p, Option.map_some]
  · cases h
theorem zNe_ref {M : Store} {i : Nat} {ns : List Int} (h : lstAt M i = some ((pints ns).map .p)) : zNe (.ref i) (.p (.list [])) M = .ok (.p (.bool (!decide (ns = [])))) M := by
  rw [← zNe_nil M]
  unfold zNe
  rw [snap_lst h]
  rfl
theorem zIx_r' {M : Store} {i j : Nat} {ds : List D} {d : D} (h : lstAt M i = some ds) (e : ds[j]? = some d) {k : Int} (hk : k = (j : Int)) : zIx (.ref i) (.p (.int k)) M = .ok d M := by rw [hk]; exact zIx_r h e
theorem zPop_r {M : Store} {i : Nat} {ds : List D} {d : D} (h : lstAt M i = some (ds ++ [d])) : zPop (.ref i) [] M = .ok d (M.set i (.lst ds)) := by
  unfold zPop
  simp only [h]
  simp
theorem zSetL_r {M : Store} {i j : Nat} {ds : List D} {v : P} (h : lstAt M i = some ds) (hj : j < ds.length) {k : Int} (hk : k = (j : Int)) : zSetL (.ref i) (.p (.int k)) (.p v) M = some (M.set i (.lst (ds.set j (.p v)))) := by
  unfold zSetL
  simp only [h, hk]
  rw [show ixN ds.length (j : Int) = some j by unfold ixN; rw [if_pos (by omega), if_pos (by omega)]; simp]
  simp [D.low]
@[simp] theorem sizeLine_val : sizeLine = 16777216 := id rfl
end Z

/-! Z: how long a shown value is. -/
namespace Z
open PySem PySem.Spec PyProof.Rows L2
structure Sh (n d : Nat) (x : P) : Prop where
  s : x.showable = true
  h : x.hasDict = false
  l : x.shown.length ≤ n
  d : x.depth ≤ d
theorem Sh.mono {n m d e : Nat} {x : P} (k : Sh n d x) (h : n ≤ m) (h' : d ≤ e) : Sh m e x := ⟨k.s, k.h, Nat.le_trans k.l h, Nat.le_trans k.d h'⟩
theorem tf_le {n : Nat} : ∀ (ts : List Str) (k : Nat) (acc : Str), (∀ t ∈ ts, t.length ≤ n) → (textFrom k acc ts).length ≤ acc.length + ts.length * (n + 2)
  | [], k, acc, _ => by simp [textFrom]
  | t :: ts, k, acc, h => by
    have ih := tf_le (n := n) ts (k + 1) (acc ++ (if k > 0 then ", " else "" : String) ++ t) fun u hu => h u (List.mem_cons_of_mem _ hu)
    have h1 := h t List.mem_cons_self
    have e : (acc ++ (if k > 0 then ", " else "" : String) ++ t).length = acc.length + (if k > 0 then 2 else 0) + t.length := by
      rw [strLen_append, strLen_append]
      split <;> rfl
    have e5 : (if k > 0 then 2 else 0) ≤ 2 := by split <;> omega
    have : (textFrom k acc (t :: ts)) = textFrom (k + 1) (acc ++ (if k > 0 then ", " else "" : String) ++ t) ts := rfl
    rw [this, List.length_cons, Nat.succ_mul]
    rw [e] at ih
    omega
theorem piled_le {n : Nat} : ∀ ts : List Str, (∀ t ∈ ts, t.length ≤ n) → piled ts ≤ ts.length * (n + 2)
  | [], _ => Nat.zero_le _
  | t :: ts, h => by
    have ih := piled_le (n := n) ts fun u hu => h u (List.mem_cons_of_mem _ hu)
    have h1 := h t List.mem_cons_self
    have : piled (t :: ts) = t.length + 2 + piled ts := by simp [piled]
    rw [this, List.length_cons, Nat.succ_mul]
    omega
theorem shownAll_map : ∀ xs : List P, PyData.shownAll xs = xs.map PyData.shown
  | [] => rfl
  | x :: xs => by rw [PyData.shownAll, shownAll_map xs]; rfl
theorem sh_all {n d : Nat} : ∀ {xs : List P}, (∀ x ∈ xs, Sh n d x) → PyData.showableAll xs = true ∧ PyData.hasDictAll xs = false ∧ (∀ t ∈ PyData.shownAll xs, t.length ≤ n) ∧ PyData.depthAll xs ≤ d
  | [], _ => ⟨rfl, rfl, fun t h => by rw [PyData.shownAll] at h; simp at h, Nat.zero_le _⟩
  | x :: xs, h => by
    obtain ⟨a, b, c, e⟩ := sh_all fun y hy => h y (List.mem_cons_of_mem _ hy)
    have k := h x List.mem_cons_self
    refine ⟨by rw [PyData.showableAll, k.s, a]; rfl, by rw [PyData.hasDictAll, k.h, b]; rfl, fun t ht => ?_, by rw [PyData.depthAll]; exact Nat.max_le.mpr ⟨k.d, e⟩⟩
    rw [PyData.shownAll] at ht
    rcases List.mem_cons.mp ht with rfl | ht
    · exact k.l
    · exact c t ht
theorem Sh.lst {n d : Nat} {xs : List P} (h : ∀ x ∈ xs, Sh n d x) : Sh (2 + xs.length * (n + 2)) (d + 1) (.list xs) := by
  obtain ⟨a, b, c, e⟩ := sh_all h
  refine ⟨by rw [PyData.showable]; exact a, by rw [PyData.hasDict]; exact b, ?_, by rw [PyData.depth]; omega⟩
  rw [PyData.shown]
  have := tf_le (n := n) (PyData.shownAll xs) 0 "[" c
  unfold listText
  rw [strLen_append]
  have e1 : ("[" : Str).length = 1 := rfl
  have e2 : ("]" : Str).length = 1 := rfl
  have e3 : (PyData.shownAll xs).length = xs.length := by rw [shownAll_map, List.length_map]
  rw [e3] at this
  omega
theorem Sh.tup {n d : Nat} {xs : List P} (h : ∀ x ∈ xs, Sh n d x) : Sh (3 + xs.length * (n + 2)) (d + 1) (.tuple xs) := by
  obtain ⟨a, b, c, e⟩ := sh_all h
  refine ⟨by rw [PyData.showable]; exact a, by rw [PyData.hasDict]; exact b, ?_, by rw [PyData.depth]; omega⟩
  rw [PyData.shown]
  have e3 : (PyData.shownAll xs).length = xs.length := by rw [shownAll_map, List.length_map]
  have e1 : ("(" : Str).length = 1 := rfl
  have e2 : ((if (PyData.shownAll xs).length == 1 then ",)" else ")" : String) : Str).length ≤ 2 := by split <;> decide
  unfold tupleText
  rw [strLen_append, strLen_append]
  have p := piled_le (n := n) _ c
  rw [e3] at p
  by_cases hn : PyData.shownAll xs = []
  · rw [hn] at e2 ⊢
    have : (Str.join ", " ([] : List Str)).length = 0 := rfl
    omega
  · have := join_length_add _ hn
    omega
theorem Sh.int {i : Int} (h : -(10 ^ 12) < i ∧ i < 10 ^ 12) : Sh 14 0 (.int i) := by
  have hn : i.natAbs < 10 ^ 12 := by omega
  refine ⟨?_, rfl, ?_, Nat.le_refl _⟩
  · rw [PyData.showable, decide_eq_true_eq]
    have : i.natAbs < 2 ^ 64 := by omega
    by_cases hz : i.natAbs = 0
    · rw [hz]; decide
    · have := (Nat.log2_lt hz).mpr this
      omega
  · rw [PyData.shown]
    have := int_text_length_le10 (a := i) (k := 12) (by decide) hn
    show (Str.ofString (toString i)).length ≤ 14
    rw [PySem.ofString_length]
    omega
theorem Sh.nat {i : Nat} (h : i < 10 ^ 12) : Sh 14 0 (.int (i : Int)) := Sh.int ⟨by omega, by omega⟩
theorem zShow_t {n d : Nat} {xs : List P} (h : Sh n d (.tuple xs)) (hn : n ≤ 16000000) (hd : d ≤ 50) (M : Store) : zShow [.p (.tuple xs)] M = .ok (.p (.str (PyData.tuple xs).shown)) M := by
  have a : (PyData.tuple xs).shown.length ≤ sizeLine := by have := h.l; rw [sizeLine_val]; omega
  have b : (PyData.tuple xs).depth ≤ 60 := by have := h.d; omega
  unfold zShow
  simp only [snap_p]
  rw [if_pos ⟨h.s, h.h, a, b⟩]
theorem zShow_l {n d : Nat} {xs : List P} (h : Sh n d (.list xs)) (hn : n ≤ 16000000) (hd : d ≤ 50) (M : Store) : zShow [.p (.list xs)] M = .ok (.p (.str (PyData.list xs).shown)) M := by
  have a : (PyData.list xs).shown.length ≤ sizeLine := by have := h.l; rw [sizeLine_val]; omega
  have b : (PyData.list xs).depth ≤ 60 := by have := h.d; omega
  unfold zShow
  simp only [snap_p]
  rw [if_pos ⟨h.s, h.h, a, b⟩]
/-- items of modest size -/
def Mod1 (x : Itm) : Prop := match x with
  | .lab => True
  | .fil s => -(10 ^ 12) < s ∧ s < 10 ^ 12
  | .jmp g s l => g < 10 ^ 12 ∧ -(10 ^ 12) < s ∧ s < 10 ^ 12 ∧ -(10 ^ 12) < l ∧ l < 10 ^ 12
theorem Sh.str4 : Sh 14 0 (.str "jump") ∧ Sh 14 0 (.str "fill") ∧ Sh 14 0 (.str "label") := ⟨⟨rfl, rfl, by decide +kernel, Nat.le_refl _⟩, ⟨rfl, rfl, by decide +kernel, Nat.le_refl _⟩, ⟨rfl, rfl, by decide +kernel, Nat.le_refl _⟩⟩
theorem Sh.itm {x : Itm} (h : Mod1 x) : Sh 67 1 x.enc := by
  cases x with
  | lab =>
    refine (Sh.tup (n := 14) (d := 0) fun y hy => ?_).mono (by decide) (Nat.le_refl _)
    rw [List.mem_singleton.mp hy]
    exact Sh.str4.2.2
  | fil s =>
    refine (Sh.tup (n := 14) (d := 0) fun y hy => ?_).mono (by simp) (Nat.le_refl _)
    simp at hy
    rcases hy with rfl | rfl
    · exact Sh.str4.2.1
    · exact Sh.int h
  | jmp g s l =>
    refine (Sh.tup (n := 14) (d := 0) fun y hy => ?_).mono (by simp) (Nat.le_refl _)
    simp at hy
    obtain ⟨h1, h2, h3, h4, h5⟩ := h
    rcases hy with rfl | rfl | rfl | rfl
    · exact Sh.str4.1
    · exact Sh.nat h1
    · exact Sh.int ⟨h2, h3⟩
    · exact Sh.int ⟨h4, h5⟩
theorem show_sk {xs : List Itm} (h : ∀ x ∈ xs, Mod1 x) (hl : xs.length ≤ 1000) (M : Store) : zShow [.p (sk xs)] M = .ok (.p (.str (sk xs).shown)) M := by
  refine zShow_t (n := 3 + 1000 * 69) (d := 2) ((Sh.tup (n := 67) (d := 1) fun y hy => ?_).mono (by rw [List.length_map]; omega) (Nat.le_refl _)) (by decide) (by decide) M
  obtain ⟨x, hx, rfl⟩ := List.mem_map.mp hy
  exact Sh.itm (h x hx)
theorem show_ints {ns : List Int} (h : ∀ i ∈ ns, -(10 ^ 12) < i ∧ i < 10 ^ 12) (hl : ns.length ≤ 1000) (M : Store) : zShow [.p (.tuple (pints ns))] M = .ok (.p (.str (PyData.tuple (pints ns)).shown)) M := by
  refine zShow_t (n := 3 + 1000 * 16) (d := 1) ((Sh.tup (n := 14) (d := 0) fun y hy => ?_).mono (by rw [pints_len]; omega) (Nat.le_refl _)) (by decide) (by decide) M
  obtain ⟨x, hx, rfl⟩ := List.mem_map.mp hy
  exact Sh.int (h x hx)
end Z

/-! Z: sorting tuples of which some are empty; sorting what a tuple holds. -/
namespace Z
open PySem PySem.Spec PyProof.Rows L2
section
open PySem.W PySem.SeqAt PySem.Calls
variable {prog : Program} {w : World} {A : Around} {s : Shared}
/-- tuple.__lt__ as sorting calls it -/
theorem tup_lt_call {E : Value → Shared → Prop} {Q : Value → Shared → Prop} {l b : Addr} {items items2 : Array Value} {e r : Nat → Bool} (hl : s.heap.IsTuple l items) (hb : s.heap.IsTuple b items2)
    (he : ∀ j (h1 : j < items.size) (h2 : j < items2.size), EqAt A.in1 s items[j] items2[j] (e j)) (hr : ∀ j (h1 : j < items.size) (h2 : j < items2.size), e j = false → RcLt A.in1 s items[j] items2[j] (r j))
    (h : Q (.bool (firstLt e r (decide (items.size < items2.size)) (List.range (min items.size items2.size)))) s) : wpAny (model prog w) A (call (.builtin "tuple.__lt__") [.ref l, .ref b]) Q E s := by
  obtain ⟨⟨k1, d1, t1, u1⟩, o1, c1, n1, e1⟩ := id hl
  obtain ⟨⟨k2, d2, t2, u2⟩, o2, c2, n2, e2⟩ := id hb
  simp only at c1 e1 c2 e2
  subst c1 e1 c2 e2
  exact call_meets F.slot_tuple_lt ⟨_, o1, rfl⟩ F.entry_tuple_lt (F.args_tuple_lt_2 _ _) (tuple_ltAt l b items items2 n1 n2 d1 d2 u1 u2 e r) ⟨o1, o2, he, hr, h⟩
theorem one_tup {E : Value → Shared → Prop} {xs ys : List P} {a b : Value} {as bs : List Addr} {Q : Bool → Shared → Prop} (ra : Reads s.heap a (.tuple xs) as) (rb : Reads s.heap b (.tuple ys) bs) (hal : alikeAll xs ys = true)
    (hu : A.units + min (PyData.tuple xs).depth (PyData.tuple ys).depth < cLine) (hq : Q (dataLt (.tuple xs) (.tuple ys)) s) : wpAny (model prog w) A (oneLt' true a b) Q E s := by
  cases ra with
  | @tuple l o vs n _ as1 h1 h2 h3 h4 =>
    cases rb with
    | @tuple l2 o2 vs2 n2 _ bs1 k1 k2 k3 k4 =>
      have m1 : vs.size = xs.length := by simpa using ReadsAll.length _ _ _ h4
      have m2 : vs2.size = ys.length := by simpa using ReadsAll.length _ _ _ k4
      rw [dataLt_tuple, ← firstLt_toks xs ys hal, ← m1, ← m2] at hq
      rw [oneLt'_eq]
      simp only [if_true]
      refine wpAny_bind (wpAny_cRoomFor (room_here hu) ?_)
      refine wpAny_bind (wpAny_callSpecialIfBound?_slot (T := "tuple") ⟨_, h1, h2⟩ F.slot_tuple_lt
        (tup_lt_call (e := pairEq xs ys) (r := fun j => dataLt (xs.getD j .none) (ys.getD j .none)) ⟨_, h1, h2, _, h3⟩ ⟨_, k1, k2, _, k3⟩ (fun j j1 j2 => ?_) (fun j j1 j2 hj => ?_) ?_))
      · have z := eqAt_alikeAll xs ys A.in1 s vs.toList vs2.toList _ _ h4 k4 hal (room_in hu) j (by simpa using j1) (by simpa using j2)
        simpa using z
      · have z := rcLt_alikeAll xs ys A.in1 s vs.toList vs2.toList _ _ h4 k4 hal (room_in hu) j (by simpa using j1) (by simpa using j2) hj
        simpa using z
      · exact wpAny_truthy_bool hq
/-- the first item of a tuple -/
def firstV (h : Heap) (v : Value) : Option Value := match v with
  | .ref a => match h.get? a with
    | some o => match o.data with
      | .seq ys _ => ys[0]?
      | _ => none
    | none => none
  | _ => none
theorem tup_firsts {M : Model} {B : Around} {E : Value → Shared → Prop} : ∀ {vs : List Value} {ds : List P} (Q : List (Option Value) → Shared → Prop), EachIs (fun v d => ∃ as, Reads s.heap v d as) vs ds → (∀ d, d ∈ ds → ∃ xs, d = .tuple xs) →
    Q (vs.map (firstV s.heap)) s → wpAny M B (vs.mapM firstOfTuple') Q E s
  | _, _, Q, .nil, _, h => by rw [List.mapM_nil]; exact wpAny_pure h
  | _, _, Q, .cons (a := v) (b := d) (as := vs) (bs := ds) ⟨as, r⟩ t, ht, h => by
    obtain ⟨xs, rfl⟩ := ht d (List.mem_cons_self ..)
    cases r with
    | @tuple a o ys n _ _ ho hc hd hr =>
      have e1 : firstV s.heap (.ref a) = ys[0]? := by
        unfold firstV
        simp only [ho, hd]
      rw [List.map_cons, e1] at h
      rw [List.mapM_cons]
      refine wpAny_bind ?_
      rw [kas_first_eq]
      refine wpAny_bind (Looks.here (show Looks M s.heap (typeOf (.ref a)) o.cls from (Looks.ld ho).andThen .now) ?_)
      rw [hc, if_neg (by first | decide | simp)]
      refine wpAny_bind (listItems_at ho hd (wpAny_pure ?_))
      exact wpAny_bind (tup_firsts (fun bs s' => wpAny M B (pure (ys[0]? :: bs)) Q E s') t (fun d hd => ht d (List.mem_cons_of_mem _ hd)) (wpAny_pure h))
theorem tups_full {vs : List Value} {ds : List P} : EachIs (fun v d => ∃ as, Reads s.heap v d as) vs ds → (∀ d, d ∈ ds → ∃ xs, d = .tuple xs) → (∀ v ∈ vs, (firstV s.heap v).isSome = true) → ∀ d, d ∈ ds → ∃ x r, d = .tuple (x :: r) := by
  intro e
  induction e with
  | nil => exact fun _ _ d hd => by simp at hd
  | @cons v d vs ds h t ih =>
    intro ht al d' hd'
    rcases List.mem_cons.mp hd' with rfl | hd'
    · obtain ⟨as, r⟩ := h
      obtain ⟨xs, rfl⟩ := ht d' (List.mem_cons_self ..)
      cases xs with
      | cons x xr => exact ⟨x, xr, rfl⟩
      | nil =>
        cases r with
        | @tuple a o ys n _ _ ho hc hd hr =>
          have h0 := al _ (List.mem_cons_self ..)
          have e1 : firstV s.heap (.ref a) = ys[0]? := by
            unfold firstV
            simp only [ho, hd]
          have z := SeqAt.ReadsAll.length _ _ _ hr
          have z2 : ys.size = 0 := by simpa using z
          rw [e1, Array.getElem?_eq_none (by omega)] at h0
          cases h0
    · exact ih (fun d hd => ht d (List.mem_cons_of_mem _ hd)) (fun v hv => al v (List.mem_cons_of_mem _ hv)) d' hd'
theorem sorts_tups {vs : List Value} {ds : List P} (e : EachIs (fun v d => ∃ as, Reads s.heap v d as) vs ds) (hal : AllAlike ds) (ht : ∀ d, d ∈ ds → ∃ xs, d = .tuple xs) (hu : ∀ d, d ∈ ds → A.units + d.depth < cLine) : SortsAt prog w A s (dataKind s.heap ds) vs := by
  by_cases hne : ∀ v ∈ vs, (firstV s.heap v).isSome = true
  · exact SortsAt.data e hal (.inl (tups_full e ht hne)) hu
  have room : ∀ {d d' : PyData}, d ∈ ds → A.units + min d.depth d'.depth < cLine := fun {d d'} hd => Nat.lt_of_le_of_lt (Nat.add_le_add_left (Nat.min_le_left _ _) _) (hu d hd)
  refine ⟨fun v hv => ?_, ?_⟩
  · obtain ⟨d, hd, as, r⟩ := e.left v hv
    exact ⟨_, dataKind_some hal hd r⟩
  have hall : ¬ ((vs.map (firstV s.heap)).toArray.all fun x => x.isSome) = true := by
    intro z
    apply hne
    intro v hv
    have z2 : ∀ x ∈ vs, (firstV s.heap x).isSome = true := by simpa using z
    exact z2 v hv
  by_cases hf : (((vs.map (firstV s.heap)).toArray)[0]?.bind id).isSome = true
  · refine ⟨general', ?_, fun h2 E Q hq => ?_⟩
    · intro E x y a b Q ha hb hq
      obtain ⟨d, as, hd, ra, rfl⟩ := dataKind_inv ha
      obtain ⟨d', as', hd', rb, rfl⟩ := dataKind_inv hb
      show wpAny (model prog w) A (oneLt' false x y) Q E s
      exact oneLt_alike (fun z => nomatch z) ra rb (hal d hd d' hd') (fun z => by obtain ⟨xs, e⟩ := ht d hd; rw [e] at z; cases z) (room hd) hq
    · rw [keyKind'_eq, List.mapM_toArray, map_eq_pure_bind]
      refine wpAny_bind (wpAny_bind (tup_firsts _ e ht (wpAny_pure ?_)))
      rw [if_neg hall, if_pos hf]
      exact wpAny_pure hq
  · refine ⟨oneType', ?_, fun h2 E Q hq => ?_⟩
    · intro E x y a b Q ha hb hq
      obtain ⟨d, as, hd, ra, rfl⟩ := dataKind_inv ha
      obtain ⟨d', as', hd', rb, rfl⟩ := dataKind_inv hb
      rw [keyLt'_oneType]
      have hdd := hal d hd d' hd'
      have rm := room (d' := d') hd
      obtain ⟨xs, rfl⟩ := ht d hd
      obtain ⟨ys, rfl⟩ := ht d' hd'
      exact one_tup ra rb (by simpa [alike] using hdd) rm hq
    · rw [keyKind'_eq, List.mapM_toArray, map_eq_pure_bind]
      refine wpAny_bind (wpAny_bind (tup_firsts _ e ht (wpAny_pure ?_)))
      rw [if_neg hall, if_neg hf]
      have hT : ∀ v ∈ vs, Looks (model prog w) s.heap (typeOf v) (Value.type "tuple") := fun v hv => by
        obtain ⟨d, hd, as, r⟩ := e.left v hv
        obtain ⟨xs, rfl⟩ := ht d hd
        exact looks_reads r
      rw [oneTypeOnly'_eq, List.mapM_toArray, map_eq_pure_bind]
      refine wpAny_bind (wpAny_bind (wpAny_bind (kas_mapM (r := Value.type "tuple") _ (fun v hv Q' hq' => (hT v hv).here hq') (wpAny_pure ?_))))
      obtain ⟨v1, rest, rfl⟩ : ∃ v1 rest, vs = v1 :: rest := by
        match vs, h2 with
        | [], h2 => simp at h2
        | v1 :: rest, _ => exact ⟨v1, rest, rfl⟩
      have hall2 : ((List.map (fun _ => Value.type "tuple") (v1 :: rest)).toArray.all fun x => x == Value.type "tuple") = true := by
        simp only [List.all_toArray, List.all_map, List.all_eq_true]
        intro _ _
        rfl
      have h0 : (List.map (fun _ => Value.type "tuple") (v1 :: rest)).toArray[0]? = some (Value.type "tuple") := by simp
      rw [h0]
      simp only [hall2, if_true]
      refine wpAny_pure (wpAny_pure ?_)
      simpa using hq
/-- sorted(x), x a list or a tuple of data that can be sorted -/
theorem sorted_seq {E : Value → Shared → Prop} {l : Addr} {T : String} {o : Obj} {n : Nat} {vs : List Value} {bs : List P} {R : Value → P → Prop} {Q : Value → Shared → Prop} (hT : T = "list" ∨ T = "tuple") (ho : s.heap.get? l = some o) (hc : o.cls = .type T)
    (hd : o.data = .seq vs.toArray n) (e : EachIs R vs bs) (er : EachIs (fun v b => ∃ as, Reads s.heap v b as) vs bs) (hal : AllAlike bs) (hk : (∀ d, d ∈ bs → ∃ xs, d = .tuple xs) ∨ Sortable bs) (hz : bs.length ≤ sizeLine) (hu : ∀ b, b ∈ bs → A.units + 2 + b.depth < cLine)
    (h : ∀ h1 : Heap, (∀ b u, s.heap.get? b = some u → h1.get? b = some u) → ∀ (h' : Heap) (out : List Value) (c : Nat), (∀ b u, h1.get? b = some u → h'.get? b = some u) → h'.get? h1.objs.size = some (seqObj "list" (List.toArray out) c) → out.length = bs.length → EachIs R out (bs.mergeSort (dataLe false id)) →
      Q (.ref h1.objs.size) { s with heap := h' }) : wpAny (model prog w) A (call (.builtin "sorted") [.ref l]) Q E s := by
  have hL : vs.length ≤ sizeLine := by rw [e.length]; exact hz
  refine Calls.call_function_entry kind_sorted plain_sorted entry_sorted (args_sorted1 _) ?_
  unfold Builtin.«sorted»
  refine wpAny_bind (m := checkCount "sorted" 1 1 _) (wpAny_pure ?_)
  refine wpAny_bind (wpAny_collect_seq l hT ho hc hd (fun h1 k1 => ?_) (by rw [List.size_toArray]; exact hL))
  refine wpAny_bind (wpAny_newList ?_ (by simpa using hL))
  have ha : (h1.push (seqObj "list" vs.toArray 0)).get? h1.objs.size = some (seqObj "list" vs.toArray 0) := Heap.get?_push_size _ rfl
  have er2 : EachIs (fun v b => ∃ as, Reads (sortingHeap (h1.push (seqObj "list" vs.toArray 0)) h1.objs.size vs) v b as) vs bs := er.mono fun v b ⟨as, r⟩ => ⟨as, PyProof.Rows.Reads.keeps (fun b u q =>
    sortingHeap_old (Nat.ne_of_lt (Heap.lt_size (k1 b u q))) (Heap.get?_push_of_some _ (k1 b u q))) r⟩
  have S : SortsAt prog w A.in1.in1 { s with heap := sortingHeap (h1.push (seqObj "list" vs.toArray 0)) h1.objs.size vs } (dataKind (sortingHeap (h1.push (seqObj "list" vs.toArray 0)) h1.objs.size vs) bs) vs := by
    rcases hk with hk | hk
    · exact sorts_tups (s := { s with heap := sortingHeap (h1.push (seqObj "list" vs.toArray 0)) h1.objs.size vs }) er2 hal hk hu
    · exact SortsAt.data (s := { s with heap := sortingHeap (h1.push (seqObj "list" vs.toArray 0)) h1.objs.size vs }) er2 hal hk hu
  refine wpAny_bind (wpAny_holding (wpAny_call_entry slot_list_sort ⟨_, (show (Heap.get? { s with heap := h1.push (seqObj "list" vs.toArray 0) }.heap h1.objs.size) = _ from ha), rfl⟩ entry_list_sort ?_ (args_list_sort _)))
  refine wpAny_mono (list_sort_vals (s := { s with heap := h1.push (seqObj "list" vs.toArray 0) }) (P := fun f s' => f = .done (.ret .none) ∧ s' = { s with heap := sortedHeap (h1.push (seqObj "list" vs.toArray 0)) h1.objs.size vs (List.toArray _) }) ha S hL ⟨rfl, rfl⟩) (fun f s' hf => ?_) fun _ _ e => e
  obtain ⟨rfl, rfl⟩ := hf
  obtain ⟨c, hat⟩ := sortedHeap_at (vs := vs) (out := List.toArray (sortVals (dataKind (sortingHeap (h1.push (seqObj "list" vs.toArray 0)) h1.objs.size vs) bs) false vs vs)) ha
  have em : bs.map id = bs := List.map_id bs
  refine ⟨_, rfl, wpAny_pure ⟨_, rfl, h h1 k1 _ _ c (fun b u q => ?_) hat (by rw [sortVals_length false rfl]; exact e.length) ?_⟩⟩
  · rw [sortedHeap_old (Nat.ne_of_lt (Heap.lt_size q)) (by rw [Heap.size_push]; exact Nat.lt_succ_of_lt (Heap.lt_size q))]
    exact Heap.get?_push_of_some _ q
  · have := sortVals_data (enc := id) (R := R) false e (by simpa using er2) (by rw [em]; exact hal)
    rw [em] at this
    exact this
end
def psortT (ys : List P) : Prop := PySem.W.AllAlike ys ∧ ((∀ d, d ∈ ys → ∃ xs, d = .tuple xs) ∨ PySem.W.Sortable ys) ∧ ys.length ≤ sizeLine ∧ ∀ x ∈ ys, x.depth ≤ 60
open Classical in
/-- sorted(x) -/
noncomputable def zSort (ds : List D) (M : Store) : Out D := match ds with
  | [d] => match seqv M d with
    | some xs => match pures xs with
      | some ys => if psortT ys then .ok (.p (.list (psort ys))) M else .stuck
      | none => .stuck
    | none => .stuck
  | _ => .stuck
section
variable {X : Cx} {E : XK}
theorem zSort_ok (zx : ZX X) : CallR X (.builtin "sorted") (rZs X E zSort) := by
  intro pins s σ H xs us Q I r h
  obtain ⟨ds, θ, M, m, rs, h⟩ := h
  unfold zSort at h
  split at h
  · split at h
    · rename_i zs e1
      split at h
      · rename_i ys e2
        split at h
        · rename_i c
          cases rs with
          | cons r1 rr =>
            cases rr
            obtain ⟨ad, vs, rfl, hp, dp⟩ := seqv_ok m r1 e1
            rw [pures_eq e2] at dp
            have fz := FzAll.ofDrs dp
            obtain ⟨u, rfl, ru⟩ := r.one
            cases ru
            have hu := zx.hu
            obtain ⟨T, o, n, its, hT, rv, ho, hc, hd⟩ : ∃ (T : String) (o : Obj) (n : Nat) (its : List Value), (T = "list" ∨ T = "tuple") ∧ Vals vs its ∧ s.heap.get? ad = some o ∧ o.cls = .type T ∧ o.data = .seq its.toArray n := by
              rcases hp with hp | hp
              · obtain ⟨its, rv, pl, hz⟩ := I.list hp.sq
                obtain ⟨o, ho, hc, n, hd⟩ := pl.isList
                exact ⟨_, o, n, its, .inl rfl, rv, ho, hc, hd⟩
              · obtain ⟨its, rv, ⟨o, ho, hc, n, hd⟩, hz⟩ := I.tuple hp
                exact ⟨_, o, n, its, .inr rfl, rv, ho, hc, hd⟩
            have ei := eachIs_of (h := s.heap) rv fz
            have er := eachReads (h := s.heap) (fun v u x r z => Dp.reads I x v u z.dp r) ei
            refine thn (Q := EP X pins σ (FrzQ Q)) (sorted_seq hT ho hc hd ei er c.1 c.2.1 c.2.2.1 (fun b hb => by have := c.2.2.2 b hb; show X.A.units + 2 + b.depth < cLine; omega) fun h1 k1 h' out cc k2 at_ hl hout => ?_) fun u s1 z => ep_frz z
            obtain ⟨ws, w1, w2⟩ := ofEachIs hout
            have I1 : Inv X pins σ H { s with heap := h1 } := I.kept (t' := s.toks) k1
            have hn : H h1.objs.size = none := I1.hok.fresh (Nat.le_refl _)
            have wl : ws.length = ys.length := by rw [w1.length, hl]
            have J := Inv.laid (o := .lst ws) (t' := s.toks) I1 (fun b u q => k2 b u q) (Nat.le_refl _) ⟨by rw [wl]; exact c.2.2.1, out, cc, w1, at_⟩
            exact ⟨.ref _, _, J, rfl, post_frz h m hn (by rw [psort, List.length_mergeSort]; exact c.2.2.1) w2⟩
        · exact h.elim
      · exact h.elim
    · exact h.elim
  · exact h.elim
end
end Z

/-! Z: data of one make: ==, in, sorted. -/
namespace Z
open PySem PySem.Spec PyProof.Rows L2
theorem peq_sh {a b : P} (ha : SeqAt.shaped a = true) (hb : SeqAt.shaped b = true) : peq a b = some (PyData.eqv a b) := by
  unfold peq
  split
  · simp only [PyData.eqv]; congr 1
  · simp only [PyData.eqv]; congr 1
  · rfl
  · rw [if_pos ⟨ha, hb⟩]
theorem zEq_sh {a b : P} (ha : SeqAt.shaped a = true) (hb : SeqAt.shaped b = true) (M : Store) : zEq (.p a) (.p b) M = .ok (.p (.bool (PyData.eqv a b))) M := by
  unfold zEq
  simp only [snap_p, peq_sh ha hb]
theorem zNe_sh {a b : P} (ha : SeqAt.shaped a = true) (hb : SeqAt.shaped b = true) (M : Store) : zNe (.p a) (.p b) M = .ok (.p (.bool (!PyData.eqv a b))) M := by
  unfold zNe
  simp only [snap_p, peq_sh ha hb]
/-- data that == tells apart just as Lean does -/
structure Lay {α : Type} [DecidableEq α] (f : α → P) (n : Nat) : Prop where
  can : ∀ x, (f x).canLay0 = true
  dep : ∀ x, (f x).depth ≤ n
  eq : ∀ x y, PyData.eqv (f x) (f y) = decide (x = y)
section
variable {α β γ : Type} [DecidableEq α] [DecidableEq β] [DecidableEq γ] {f : α → P} {g : β → P} {k : γ → P} {n m l : Nat}
theorem Lay.sh (h : Lay f n) (hn : n ≤ 60) (x : α) : SeqAt.shaped (f x) = true := by
  have h1 := h.can x
  have h2 := h.dep x
  have h3 : (f x).depth ≤ 64 := by omega
  show ((f x).canLay0 && decide ((f x).depth ≤ 64)) = true
  rw [h1, decide_eq_true h3]
  rfl
theorem Lay.mono (h : Lay f n) (hn : n ≤ m) : Lay f m := ⟨h.can, fun x => Nat.le_trans (h.dep x) hn, h.eq⟩
theorem Lay.eqs (h : Lay f n) : ∀ xs ys : List α, PyData.eqvAll (xs.map f) (ys.map f) = decide (xs = ys)
  | [], [] => by simp [PyData.eqvAll]
  | [], y :: ys => by simp [PyData.eqvAll]
  | x :: xs, [] => by simp [PyData.eqvAll]
  | x :: xs, y :: ys => by
    rw [List.map_cons, List.map_cons, PyData.eqvAll, h.eq, h.eqs xs ys]
    simp
theorem Lay.int : Lay PyData.int 0 := ⟨fun _ => rfl, fun _ => Nat.le_refl _, fun x y => by simp only [PyData.eqv]; rfl⟩
theorem Lay.nat : Lay (fun n : Nat => PyData.int (n : Int)) 0 := ⟨fun _ => rfl, fun _ => Nat.le_refl _, fun x y => by
  have := Lay.int.eq (x : Int) (y : Int)
  rw [this]
  simp only [decide_eq_decide]
  omega⟩
theorem Lay.tup (h : Lay f n) : Lay (fun xs : List α => .tuple (xs.map f)) (n + 1) := ⟨fun xs => by
    show PyData.canLayAll0 (xs.map f) = true
    exact can_map f h.can xs, fun xs => by
    show PyData.depthAll (xs.map f) + 1 ≤ n + 1
    exact Nat.succ_le_succ (dep_map f n h.dep xs), fun xs ys => by rw [PyData.eqv, h.eqs]⟩
theorem Lay.lst (h : Lay f n) : Lay (fun xs : List α => .list (xs.map f)) (n + 1) := ⟨fun xs => by
    show PyData.canLayAll0 (xs.map f) = true
    exact can_map f h.can xs, fun xs => by
    show PyData.depthAll (xs.map f) + 1 ≤ n + 1
    exact Nat.succ_le_succ (dep_map f n h.dep xs), fun xs ys => by rw [PyData.eqv, h.eqs]⟩
theorem Lay.pair (h : Lay f n) (h' : Lay g n) : Lay (fun p : α × β => .tuple [f p.1, g p.2]) (n + 1) := ⟨fun p => by
    show (( f p.1).canLay0 && ((g p.2).canLay0 && true)) = true
    rw [h.can, h'.can]
    rfl, fun p => by
    have h1 := h.dep p.1
    have h2 := h'.dep p.2
    show max (f p.1).depth (max (g p.2).depth 0) + 1 ≤ n + 1
    omega, fun p q => by
    rw [PyData.eqv, PyData.eqvAll, PyData.eqvAll, PyData.eqvAll, h.eq, h'.eq]
    simp [Prod.ext_iff]⟩
theorem Lay.inj (h : Lay f n) {x y : α} (e : f x = f y) : x = y := by
  have h1 := h.eq x x
  have h2 := h.eq x y
  rw [← e, h1] at h2
  simpa using h2.symm
theorem zEq_lay (h : Lay f n) (hn : n ≤ 60) (x y : α) (M : Store) : zEq (.p (f x)) (.p (f y)) M = .ok (.p (.bool (decide (x = y)))) M := by
  rw [zEq_sh (h.sh hn x) (h.sh hn y), h.eq]
theorem zNe_lay (h : Lay f n) (hn : n ≤ 60) (x y : α) (M : Store) : zNe (.p (f x)) (.p (f y)) M = .ok (.p (.bool (!decide (x = y)))) M := by
  rw [zNe_sh (h.sh hn x) (h.sh hn y), h.eq]
theorem Lay.any (h : Lay f n) (x : α) (xs : List α) : ((xs.map f).any fun z => PyData.eqv z (f x)) = decide (x ∈ xs) := by
  induction xs with
  | nil => simp
  | cons y ys ih =>
    rw [List.map_cons, List.any_cons, ih, h.eq]
    by_cases e : y = x
    · simp [e]
    · have e2 : ¬ x = y := fun z => e z.symm
      simp [e, e2]
theorem zin_layL (h : Lay f n) (hn : n ≤ 59) (neg : Bool) (x : α) (xs : List α) (M : Store) : zin neg (.p (f x)) (.p (.list (xs.map f))) M = .ok (.p (.bool (neg ^^ decide (x ∈ xs)))) M := by
  unfold zin
  simp only [snap_p, h.sh (by omega) x, h.lst.sh (by omega) xs, and_self, if_true, h.any]
theorem zin_layT (h : Lay f n) (hn : n ≤ 59) (neg : Bool) (x : α) (xs : List α) (M : Store) : zin neg (.p (f x)) (.p (.tuple (xs.map f))) M = .ok (.p (.bool (neg ^^ decide (x ∈ xs)))) M := by
  unfold zin
  simp only [snap_p, h.sh (by omega) x, h.tup.sh (by omega) xs, and_self, if_true, h.any]
end
abbrev tnats (ns : List Nat) : P := .tuple (pnats ns)
abbrev tints (ns : List Int) : P := .tuple (pints ns)
theorem lay_tn : Lay tnats 1 := Lay.nat.tup
theorem lay_ti : Lay tints 1 := Lay.int.tup
theorem lay_itm : Lay Itm.enc 1 := ⟨fun x => by cases x <;> simp [Itm.enc, PyData.canLay0, PyData.canLayAll0] <;> decide +kernel, fun x => by cases x <;> simp [Itm.enc, PyData.depth, PyData.depthAll], fun x y => by
  cases x <;> cases y <;> simp [Itm.enc, PyData.eqv, PyData.eqvAll] <;> (rw [Bool.eq_iff_iff]; simp; try omega)⟩
/-! ### sorted -/
@[simp] theorem seqv_r (M : Store) (i : Nat) : seqv M (.ref i) = lstv M (.ref i) := id rfl
structure Srt {α : Type} (f : α → P) : Prop where
  al : ∀ x y, PySem.W.alike (f x) (f y) = true
  kd : (∀ x, ∃ t, f x = .tuple t) ∨ ∀ x, f x ≠ .none ∧ ∀ t, f x ≠ .tuple t
  dep : ∀ x, (f x).depth ≤ 60
def lsort {α : Type} (f : α → P) (xs : List α) : List α := xs.mergeSort (PySem.W.dataLe false f)
theorem lsort_perm {α : Type} (f : α → P) (xs : List α) : (lsort f xs).Perm xs := List.mergeSort_perm _ _
theorem mem_lsort {α : Type} {f : α → P} {xs : List α} {x : α} : x ∈ lsort f xs ↔ x ∈ xs := (lsort_perm f xs).mem_iff
theorem len_lsort {α : Type} (f : α → P) (xs : List α) : (lsort f xs).length = xs.length := (lsort_perm f xs).length_eq
theorem psort_map {α : Type} (f : α → P) (xs : List α) : psort (xs.map f) = (lsort f xs).map f := by
  unfold psort lsort
  rw [List.map_mergeSort]
  intro a _ b _
  rfl
theorem Srt.ok {α : Type} {f : α → P} (h : Srt f) {xs : List α} (hl : xs.length ≤ 16777216) : psortT (xs.map f) := by
  refine ⟨PySem.W.AllAlike.of h.al, ?_, by rw [List.length_map]; exact hl, fun x hx => ?_⟩
  · rcases h.kd with k | k
    · exact .inl fun d hd => by
        obtain ⟨x, _, rfl⟩ := List.mem_map.mp hd
        exact k x
    · exact .inr (PySem.W.Sortable.others k)
  · obtain ⟨y, _, rfl⟩ := List.mem_map.mp hx
    exact h.dep y
theorem zSort_of {α : Type} {f : α → P} (h : Srt f) {d : D} {M : Store} {xs : List α} (e : seqv M d = some ((xs.map f).map .p)) (hl : xs.length ≤ 16777216) : zSort [d] M = .ok (.p (.list ((lsort f xs).map f))) M := by
  unfold zSort
  simp only [e, pures_map]
  rw [if_pos (h.ok hl), psort_map]
theorem srt_int : Srt PyData.int := ⟨fun _ _ => rfl, .inr fun x => ⟨(fun z => nomatch z), fun t z => nomatch z⟩, fun _ => Nat.zero_le _⟩
theorem srt_nat : Srt (fun n : Nat => PyData.int (n : Int)) := ⟨fun _ _ => rfl, .inr fun x => ⟨(fun z => nomatch z), fun t z => nomatch z⟩, fun _ => Nat.zero_le _⟩
theorem alike_map {α : Type} {f : α → P} (h : ∀ x y, PySem.W.alike (f x) (f y) = true) : ∀ xs ys : List α, PySem.W.alikeAll (xs.map f) (ys.map f) = true
  | [], _ => by simp [PySem.W.alikeAll]
  | _ :: _, [] => by simp [PySem.W.alikeAll]
  | x :: xs, y :: ys => by
    rw [List.map_cons, List.map_cons, PySem.W.alikeAll, h, alike_map h xs ys]
    rfl
theorem srt_ti : Srt tints := ⟨fun x y => by rw [PySem.W.alike]; exact alike_map srt_int.al x y, .inl fun x => ⟨_, rfl⟩, fun x => Nat.le_trans (lay_ti.dep x) (by decide)⟩
theorem srt_tn : Srt tnats := ⟨fun x y => by rw [PySem.W.alike]; exact alike_map srt_nat.al x y, .inl fun x => ⟨_, rfl⟩, fun x => Nat.le_trans (lay_tn.dep x) (by decide)⟩
/-- what is wanted, put out of sight -/
theorem sat_any {α : Type} {Q : α → Prop} {o : α} (h : ∀ Φ : α → Prop, (∀ o, Q o → Φ o) → Sat Φ o) : Sat Q o := h Q fun _ k => k
end Z

namespace ZL
open PySem PySem.Spec PyProof.Rows L2 Z
def topS (i : Nat) : Stmt := PySem.Challenge.pw_longernearer_k54_whole_all_long_sizes.main.body.getD i (.Pass ⟨0, 0, 0, 0⟩)
abbrev s_jumps_of : Stmt := topS 1
abbrev N_jumps_of : List Str := ["skeleton", "place", "item"]
abbrev s_in_way : Stmt := topS 3
abbrev N_in_way : List Str := ["skeleton", "jump", "goal"]
abbrev s_ahead_of_way : Stmt := topS 4
abbrev N_ahead_of_way : List Str := ["skeleton", "jump"]
abbrev s_greatest_of : Stmt := topS 6
abbrev N_greatest_of : List Str := ["sizes"]
abbrev s_fills_between : Stmt := topS 7
abbrev N_fills_between : List Str := ["skeleton", "first", "last", "item"]
abbrev s_growth : Stmt := topS 12
abbrev N_growth : List Str := ["item"]
abbrev s_is_kept_away : Stmt := topS 13
abbrev N_is_kept_away : List Str := ["skeleton", "other", "fill", "between", "item"]
abbrev s__law_stock : Stmt := topS 17
abbrev N__law_stock : List Str := ["script", "flat", "cell"]
abbrev s__law_draw : Stmt := topS 18
abbrev N__law_draw : List Str := ["stock", "size", "great", "turn", "cell", "blend"]
abbrev s__law_jumps : Stmt := topS 20
abbrev N__law_jumps : List Str := ["skeleton", "place", "item"]
abbrev s__law_sized : Stmt := topS 22
abbrev N__law_sized : List Str := ["skeleton", "sizes", "found", "left", "item"]
abbrev s_fills_met : Stmt := topS 8
abbrev N_fills_met : List Str := ["skeleton", "other", "jump", "found", "place"]
abbrev s_is_triple : Stmt := topS 14
abbrev N_is_triple : List Str := ["skeleton", "fill", "other"]
abbrev s__law_pick : Stmt := topS 19
abbrev N__law_pick : List Str := ["stock", "row"]
abbrev s__law_threes : Stmt := topS 21
abbrev N__law_threes : List Str := ["skeleton", "found", "places", "jump", "low", "high", "fill", "other", "hidden", "place", "own"]
abbrev s__law_all_sizes : Stmt := topS 24
abbrev N__law_all_sizes : List Str := ["skeleton", "more", "found", "place", "longer", "size", "row"]
abbrev s_step_of : Stmt := topS 9
abbrev N_step_of : List Str := ["skeleton", "other", "found", "jump"]
abbrev s_triples : Stmt := topS 15
abbrev N_triples : List Str := ["skeleton", "found", "jump", "fills", "others", "fill", "place", "other"]
abbrev s__law_small : Stmt := topS 23
abbrev N__law_small : List Str := ["stock", "jumps", "fills", "found", "turn", "growth_v", "sort", "more", "own", "here", "done", "place", "item", "ahead", "behind", "goals", "spot", "other"]
abbrev s_mended : Stmt := topS 10
abbrev N_mended : List Str := ["skeleton", "found", "jump", "short", "long", "step"]
abbrev s__law_is_least : Stmt := topS 25
abbrev N__law_is_least : List Str := ["skeleton", "more", "known", "told", "fit", "least", "sizes", "spot"]
abbrev s_law : Stmt := topS 26
abbrev N_law : List Str := ["script", "stock", "a", "first", "amid", "goal"]
noncomputable section
structure FX (K : PySem.W.Frag) (mg : Str → Option Value) where
  n_any : mg "any" = none
  n_enumerate : mg "enumerate" = none
  n_int : mg "int" = none
  n_len : mg "len" = none
  n_list : mg "list" = none
  n_max : mg "max" = none
  n_min : mg "min" = none
  n_range : mg "range" = none
  n_repr : mg "repr" = none
  n_sorted : mg "sorted" = none
  n_sum : mg "sum" = none
  n_tuple : mg "tuple" = none
  a_jumps_of : Addr
  d_jumps_of : FuncData
  f_jumps_of : Fun K "jumps_of" "jumps_of" s_jumps_of a_jumps_of d_jumps_of
  b_jumps_of : Binds K d_jumps_of ["skeleton"] []
  m_jumps_of : mg "jumps_of" = some (.ref a_jumps_of)
  a_in_way : Addr
  d_in_way : FuncData
  f_in_way : Fun K "in_way" "in_way" s_in_way a_in_way d_in_way
  b_in_way : Binds K d_in_way ["skeleton", "jump"] []
  m_in_way : mg "in_way" = some (.ref a_in_way)
  a_ahead_of_way : Addr
  d_ahead_of_way : FuncData
  f_ahead_of_way : Fun K "ahead_of_way" "ahead_of_way" s_ahead_of_way a_ahead_of_way d_ahead_of_way
  b_ahead_of_way : Binds K d_ahead_of_way ["skeleton", "jump"] []
  m_ahead_of_way : mg "ahead_of_way" = some (.ref a_ahead_of_way)
  a_greatest_of : Addr
  d_greatest_of : FuncData
  f_greatest_of : Fun K "greatest_of" "greatest_of" s_greatest_of a_greatest_of d_greatest_of
  b_greatest_of : Binds K d_greatest_of ["sizes"] []
  m_greatest_of : mg "greatest_of" = some (.ref a_greatest_of)
  a_fills_between : Addr
  d_fills_between : FuncData
  f_fills_between : Fun K "fills_between" "fills_between" s_fills_between a_fills_between d_fills_between
  b_fills_between : Binds K d_fills_between ["skeleton", "first", "last"] []
  m_fills_between : mg "fills_between" = some (.ref a_fills_between)
  a_growth : Addr
  d_growth : FuncData
  f_growth : Fun K "growth" "growth" s_growth a_growth d_growth
  b_growth : Binds K d_growth ["item"] []
  m_growth : mg "growth" = some (.ref a_growth)
  a_is_kept_away : Addr
  d_is_kept_away : FuncData
  f_is_kept_away : Fun K "is_kept_away" "is_kept_away" s_is_kept_away a_is_kept_away d_is_kept_away
  b_is_kept_away : Binds K d_is_kept_away ["skeleton", "other", "fill"] []
  m_is_kept_away : mg "is_kept_away" = some (.ref a_is_kept_away)
  a__law_stock : Addr
  d__law_stock : FuncData
  f__law_stock : Fun K "_law_stock" "_law_stock" s__law_stock a__law_stock d__law_stock
  b__law_stock : Binds K d__law_stock ["script"] []
  m__law_stock : mg "_law_stock" = some (.ref a__law_stock)
  a__law_draw : Addr
  d__law_draw : FuncData
  f__law_draw : Fun K "_law_draw" "_law_draw" s__law_draw a__law_draw d__law_draw
  b__law_draw : Binds K d__law_draw ["stock", "size"] []
  m__law_draw : mg "_law_draw" = some (.ref a__law_draw)
  a__law_jumps : Addr
  d__law_jumps : FuncData
  f__law_jumps : Fun K "_law_jumps" "_law_jumps" s__law_jumps a__law_jumps d__law_jumps
  b__law_jumps : Binds K d__law_jumps ["skeleton"] []
  m__law_jumps : mg "_law_jumps" = some (.ref a__law_jumps)
  a__law_sized : Addr
  d__law_sized : FuncData
  f__law_sized : Fun K "_law_sized" "_law_sized" s__law_sized a__law_sized d__law_sized
  b__law_sized : Binds K d__law_sized ["skeleton", "sizes"] []
  m__law_sized : mg "_law_sized" = some (.ref a__law_sized)
  a_fills_met : Addr
  d_fills_met : FuncData
  f_fills_met : Fun K "fills_met" "fills_met" s_fills_met a_fills_met d_fills_met
  b_fills_met : Binds K d_fills_met ["skeleton", "other", "jump"] []
  m_fills_met : mg "fills_met" = some (.ref a_fills_met)
  a_is_triple : Addr
  d_is_triple : FuncData
  f_is_triple : Fun K "is_triple" "is_triple" s_is_triple a_is_triple d_is_triple
  b_is_triple : Binds K d_is_triple ["skeleton", "fill", "other"] []
  m_is_triple : mg "is_triple" = some (.ref a_is_triple)
  a__law_pick : Addr
  d__law_pick : FuncData
  f__law_pick : Fun K "_law_pick" "_law_pick" s__law_pick a__law_pick d__law_pick
  b__law_pick : Binds K d__law_pick ["stock", "row"] []
  m__law_pick : mg "_law_pick" = some (.ref a__law_pick)
  a__law_threes : Addr
  d__law_threes : FuncData
  f__law_threes : Fun K "_law_threes" "_law_threes" s__law_threes a__law_threes d__law_threes
  b__law_threes : Binds K d__law_threes ["skeleton"] []
  m__law_threes : mg "_law_threes" = some (.ref a__law_threes)
  a__law_all_sizes : Addr
  d__law_all_sizes : FuncData
  f__law_all_sizes : Fun K "_law_all_sizes" "_law_all_sizes" s__law_all_sizes a__law_all_sizes d__law_all_sizes
  b__law_all_sizes : Binds K d__law_all_sizes ["skeleton", "more"] []
  m__law_all_sizes : mg "_law_all_sizes" = some (.ref a__law_all_sizes)
  a_step_of : Addr
  d_step_of : FuncData
  f_step_of : Fun K "step_of" "step_of" s_step_of a_step_of d_step_of
  b_step_of : Binds K d_step_of ["skeleton", "other"] []
  m_step_of : mg "step_of" = some (.ref a_step_of)
  a_triples : Addr
  d_triples : FuncData
  f_triples : Fun K "triples" "triples" s_triples a_triples d_triples
  b_triples : Binds K d_triples ["skeleton"] []
  m_triples : mg "triples" = some (.ref a_triples)
  a__law_small : Addr
  d__law_small : FuncData
  f__law_small : Fun K "_law_small" "_law_small" s__law_small a__law_small d__law_small
  b__law_small : Binds K d__law_small ["stock", "jumps", "fills"] []
  m__law_small : mg "_law_small" = some (.ref a__law_small)
  a_mended : Addr
  d_mended : FuncData
  f_mended : Fun K "mended" "mended" s_mended a_mended d_mended
  b_mended : Binds K d_mended ["skeleton"] []
  m_mended : mg "mended" = some (.ref a_mended)
  k_mended_skeleton : ∀ (s : Shared) (us : List Value), us.length = 1 → BindsTo s d_mended ⟨[], (["skeleton"] : List Str).zip us⟩ ((["skeleton"] : List Str).zip (permBy [0] us))
  a__law_is_least : Addr
  d__law_is_least : FuncData
  f__law_is_least : Fun K "_law_is_least" "_law_is_least" s__law_is_least a__law_is_least d__law_is_least
  b__law_is_least : Binds K d__law_is_least ["skeleton", "more"] []
  m__law_is_least : mg "_law_is_least" = some (.ref a__law_is_least)
  a_law : Addr
  d_law : FuncData
  f_law : Fun K "law" "law" s_law a_law d_law
  b_law : Binds K d_law ["script"] []
  m_law : mg "law" = some (.ref a_law)
theorem perm_mended_skeleton (us : List D) (h : us.length = 1) : (permBy [0] us).length = 1 := by
  match us, h with
  | [_], _ => rfl
def c_jumps_of : SC := (sret (zs zTuple (zcons (zcomp frzl [1, 2] (zenum (zv 0)) (tgT (tgsCons (tgN 1) (tgsCons (tgN 2) tgsNil))) (zt (z2 zEq (z2 zIx (zv 2) (zk (.int 0))) (zk (.str "jump")))) (zv 1)) znil)))
def F_jumps_of : Fn := fnB 3 c_jumps_of
def c_in_way : SC := (sseq (sset 2 (z2 zIx (z2 zIx (zv 0) (zv 1)) (zk (.int 1)))) (sret (ztrg (zrg2 (z2 zAdd (zs zMin (zcons (zv 1) (zcons (zv 2) znil))) (zk (.int 1))) (zs zMax (zcons (zv 1) (zcons (zv 2) znil)))))))
def F_in_way : Fn := fnB 3 c_in_way
def c_ahead_of_way : SC := (sret (ztrg (zrg1 (zs zMin (zcons (zv 1) (zcons (z2 zIx (z2 zIx (zv 0) (zv 1)) (zk (.int 1))) znil))))))
def F_ahead_of_way : Fn := fnB 2 c_ahead_of_way
def c_greatest_of : SC := (sret (zs zMax (zcons (zs mkLstF (zcons (zk (.int 0)) (zstar (zv 0) znil))) znil)))
def F_greatest_of : Fn := fnB 1 c_greatest_of
def c_fills_between : SC := (sret (zcomp frzl [3] (zitems (zslice (zv 0) (zpart (z2 zAdd (zv 1) (zk (.int 1)))) (zpart (zv 2)))) (tgN 3) (zt (z2 zEq (z2 zIx (zv 3) (zk (.int 0))) (zk (.str "fill")))) (z2 zIx (zv 3) (zk (.int 1)))))
def F_fills_between : Fn := fnB 4 c_fills_between
def c_growth : SC := (sret (z2 zSub (z2 zIx (zv 0) (zk (.int 3))) (z2 zIx (zv 0) (zk (.int 2)))))
def F_growth : Fn := fnB 1 c_growth
def c_is_kept_away : SC := (sseq (sset 3 (zslice (zv 0) (zpart (z2 zAdd (zv 1) (zk (.int 1)))) (zpart (zv 2)))) (sret (zs zAny (zcons (zcomp frzl [4] (zitems (zv 3)) (tgN 4) ztyes (zand (z2 zEq (z2 zIx (zv 4) (zk (.int 0))) (zk (.str "fill"))) (z2 zGe (z2 zIx (zv 4) (zk (.int 1))) (z2 zIx (z2 zIx (zv 0) (zv 2)) (zk (.int 1)))))) znil))))
def F_is_kept_away : Fn := fnB 5 c_is_kept_away
def c__law_stock : SC := (sseq (sset 1 (zcomp frzl [2] (zitems (zslice (zv 0) zno (zpart (zk (.int 63))))) (tgN 2) ztyes (zif (zt (z2 zGe (zv 2) (zk (.int 0)))) (z2 zMul (zk (.int 2)) (zv 2)) (z2 zSub (z2 zMul (z1 zNeg (zk (.int 2))) (zv 2)) (zk (.int 1)))))) (sret (zs mkLst (zcons (zcomp mkLst [2] (zitems (zv 1)) (tgN 2) (zt (z2 zGe (zv 2) (z2 zPow (zk (.int 10)) (zk (.int 15))))) (zv 2)) (zcons (z2 zAdd (zv 1) (zs mkLstF (zcons (z2 zAdd (zs zLen (zcons (zv 1) znil)) (zk (.int 774))) znil))) (zcons (zs zSum (zcons (zv 1) znil)) (zcons (zk (.int 0)) znil)))))))
def F__law_stock : Fn := fnB 3 c__law_stock
def c__law_draw : SC := (sseq (sif (zt (z2 zNe (z2 zIx (zv 0) (zk (.int 0))) (zs mkLstF znil))) (sseq (sset 2 (zm0 isL zPop (z2 zIx (zv 0) (zk (.int 0))))) (sseq (sif (zt (z2 zGe (zv 2) (zv 1))) (sexpr (zmt isL zAppend (z2 zIx (zv 0) (zk (.int 0))) (zcons (z2 zDiv (zv 2) (zv 1)) znil))) sskip) (sret (z2 zMod (zs zInt (zcons (zv 2) znil)) (zv 1))))) sskip) (sseq (sstore zSetL (z2 zAdd (z2 zIx (zv 0) (zk (.int 3))) (zk (.int 1))) (zv 0) (zk (.int 3))) (sseq (sset 3 (z2 zIx (zv 0) (zk (.int 3)))) (sseq (sset 4 (z2 zMod (zs zInt (zcons (z2 zIx (z2 zIx (zv 0) (zk (.int 1))) (z2 zMod (zs zInt (zcons (zv 3) znil)) (zs zLen (zcons (z2 zIx (zv 0) (zk (.int 1))) znil)))) znil)) (zk (.int 1000000007)))) (sseq (sset 5 (z2 zMod (zs zInt (zcons (z2 zAdd (z2 zAdd (z2 zMul (zv 4) (zk (.int 48271))) (z2 zMul (z2 zMod (zs zInt (zcons (z2 zIx (zv 0) (zk (.int 2))) znil)) (zk (.int 998244353))) (zk (.int 69621)))) (z2 zMul (zv 3) (zk (.int 2654435761)))) znil)) (zk (.int 4294967291)))) (sseq (sset 5 (z2 zMod (zs zInt (zcons (z2 zAdd (z2 zAdd (z2 zMul (zv 5) (zv 5)) (z2 zMul (zv 3) (zk (.int 362437)))) (zv 4)) znil)) (zk (.int 4294967279)))) (sret (z2 zMod (z2 zDiv (z2 zMod (zs zInt (zcons (z2 zAdd (z2 zMul (zv 5) (zk (.int 40692))) (z2 zMul (zv 3) (zk (.int 65537)))) znil)) (zk (.int 4294967231))) (zk (.int 4096))) (zv 1)))))))))
def F__law_draw : Fn := fnB 6 c__law_draw
def c__law_jumps : SC := (sret (zcomp frzl [1, 2] (zenum (zv 0)) (tgT (tgsCons (tgN 1) (tgsCons (tgN 2) tgsNil))) (zt (z2 zEq (z2 zIx (zv 2) (zk (.int 0))) (zk (.str "jump")))) (zv 1)))
def F__law_jumps : Fn := fnB 3 c__law_jumps
def L__law_sized_1 : SC := (sexpr (zmt isL zAppend (zv 2) (zcons (zif (zt (z2 zEq (z2 zIx (zv 4) (zk (.int 0))) (zk (.str "jump")))) (z2 zAdd (zslice (zv 4) zno (zpart (zk (.int 3)))) (zs mkTup (zcons (zmt isL zPopAt (zv 3) (zcons (zk (.int 0)) znil)) znil))) (zv 4)) znil)))
def c__law_sized : SC := (sseq (spar [2, 3] (zcons (zs mkLst znil) (zcons (zs zListM (zcons (zv 1) znil)) znil))) (sseq (sfor (tgN 4) (zitems (zv 0)) L__law_sized_1) (sret (zs zTuple (zcons (zv 2) znil)))))
def F__law_sized : Fn := fnB 5 c__law_sized
def L_fills_met_1 : SC := (sif (ztand (zt (z2 zEq (z2 zIx (z2 zIx (zv 0) (zv 4)) (zk (.int 0))) (zk (.str "fill")))) (zt (z2 zGt (z2 zIx (z2 zIx (zv 0) (zv 4)) (zk (.int 1))) (zs (zfc 1 F_greatest_of) (zcons (zs (zfc 3 F_fills_between) (zcons (zv 0) (zcons (zv 1) (zcons (zv 4) znil)))) znil))))) (sexpr (zmt isL zAppend (zv 3) (zcons (z2 zIx (z2 zIx (zv 0) (zv 4)) (zk (.int 1))) znil))) sskip)
def c_fills_met : SC := (sseq (sset 3 (zs mkLst znil)) (sseq (sfor (tgN 4) (zitems (zs (zfc 2 F_in_way) (zcons (zv 0) (zcons (zv 2) znil)))) L_fills_met_1) (sret (zfrz (zv 3)))))
def F_fills_met : Fn := fnB 5 c_fills_met
def c_is_triple : SC := (sseq (sif (zt (zs (zfc 3 F_is_kept_away) (zcons (zv 0) (zcons (zv 2) (zcons (zv 1) znil))))) (sret (zk (.bool false))) sskip) (sret (z2 zNe (z2 zMod (zs (zfc 1 F_growth) (zcons (z2 zIx (zv 0) (zv 2)) znil)) (z2 zIx (z2 zIx (zv 0) (zv 1)) (zk (.int 1)))) (zk (.int 0)))))
def F_is_triple : Fn := fnB 3 c_is_triple
def c__law_pick : SC := (sret (z2 zIx (zv 1) (zs (zfc 2 F__law_draw) (zcons (zv 0) (zcons (zs zLen (zcons (zv 1) znil)) znil)))))
def F__law_pick : Fn := fnB 2 c__law_pick
def L__law_threes_1 : SC := (sseq (sset 8 (zcomp frzl [10] (zitems (zslice (zv 0) (zpart (zv 7)) (zpart (zv 6)))) (tgN 10) (ztand (zt (z2 zEq (z2 zIx (zv 10) (zk (.int 0))) (zk (.str "fill")))) (zt (z2 zGe (z2 zIx (zv 10) (zk (.int 1))) (z2 zIx (z2 zIx (zv 0) (zv 6)) (zk (.int 1)))))) (zv 10))) (sif (ztand (zt (z2 zEq (zv 8) (zs mkLstF znil))) (zt (z2 zNe (z2 zMod (zs zInt (zcons (z2 zSub (z2 zIx (z2 zIx (zv 0) (zv 7)) (zk (.int 3))) (z2 zIx (z2 zIx (zv 0) (zv 7)) (zk (.int 2)))) znil)) (z2 zIx (z2 zIx (zv 0) (zv 6)) (zk (.int 1)))) (zk (.int 0))))) (sexpr (zmt isL zAppend (zv 1) (zcons (zs mkTup (zcons (zv 3) (zcons (zv 6) (zcons (zv 7) znil)))) znil))) sskip))
def L__law_threes_2 : SC := (sfor (tgN 7) (zitems (zcomp frzl [9] (zitems (zv 2)) (tgN 9) (zt (z2 zLt (zv 9) (zv 4))) (zv 9))) L__law_threes_1)
def L__law_threes_3 : SC := (sseq (spar [4, 5] (zcons (zs zMin (zcons (zv 3) (zcons (z2 zIx (z2 zIx (zv 0) (zv 3)) (zk (.int 1))) znil))) (zcons (zs zMax (zcons (zv 3) (zcons (z2 zIx (z2 zIx (zv 0) (zv 3)) (zk (.int 1))) znil))) znil))) (sfor (tgN 6) (zitems (zcomp frzl [9] (zrange2 (z2 zAdd (zv 4) (zk (.int 1))) (zv 5)) (tgN 9) (zt (z2 zEq (z2 zIx (z2 zIx (zv 0) (zv 9)) (zk (.int 0))) (zk (.str "fill")))) (zv 9))) L__law_threes_2))
def c__law_threes : SC := (sseq (spar [1, 2] (zcons (zs mkLst znil) (zcons (zs (zfc 1 F__law_jumps) (zcons (zv 0) znil)) znil))) (sseq (sfor (tgN 3) (zitems (zv 2)) L__law_threes_3) (sret (zs zSort (zcons (zv 1) znil)))))
def F__law_threes : Fn := fnB 11 c__law_threes
def L__law_all_sizes_1 : SC := (sset 4 (z2 zAdd (zv 4) (zcomp frzl [6] (zitems (zv 2)) (tgN 6) ztyes (z2 zAdd (zv 6) (zs mkTup (zcons (zv 5) znil))))))
def L__law_all_sizes_2 : SC := (sseq (sset 4 (zs mkLstF znil)) (sseq (sfor (tgN 5) (zrange2 (z2 zIx (z2 zIx (zv 0) (zv 3)) (zk (.int 3))) (z2 zAdd (z2 zAdd (z2 zIx (z2 zIx (zv 0) (zv 3)) (zk (.int 3))) (zv 1)) (zk (.int 1)))) L__law_all_sizes_1) (sset 2 (zv 4))))
def c__law_all_sizes : SC := (sseq (sset 2 (zs mkLstF (zcons (zs mkTup znil) znil))) (sseq (sfor (tgN 3) (zitems (zs (zfc 1 F__law_jumps) (zcons (zv 0) znil))) L__law_all_sizes_2) (sret (zv 2))))
def F__law_all_sizes : Fn := fnB 7 c__law_all_sizes
def L_step_of_1 : SC := (sif (zt (z2 zIn (zv 1) (zs (zfc 2 F_ahead_of_way) (zcons (zv 0) (zcons (zv 3) znil))))) (sexpr (zmt isL zExtend (zv 2) (zcons (zs (zfc 3 F_fills_met) (zcons (zv 0) (zcons (zv 1) (zcons (zv 3) znil)))) znil))) sskip)
def c_step_of : SC := (sseq (sset 2 (zs mkLst (zcons (zk (.int 1)) znil))) (sseq (sfor (tgN 3) (zitems (zs (zfc 1 F_jumps_of) (zcons (zv 0) znil))) L_step_of_1) (sret (zs zMax (zcons (zv 2) znil)))))
def F_step_of : Fn := fnB 4 c_step_of
def L_triples_1 : SC := (sexpr (zmt isL zExtend (zv 1) (zcons (zcomp frzl [7] (zitems (zv 4)) (tgN 7) (zt (zs (zfc 3 F_is_triple) (zcons (zv 0) (zcons (zv 5) (zcons (zv 7) znil))))) (zs mkTup (zcons (zv 2) (zcons (zv 5) (zcons (zv 7) znil))))) znil)))
def L_triples_2 : SC := (sseq (sset 3 (zcomp frzl [6] (zitems (zs (zfc 2 F_in_way) (zcons (zv 0) (zcons (zv 2) znil)))) (tgN 6) (zt (z2 zEq (z2 zIx (z2 zIx (zv 0) (zv 6)) (zk (.int 0))) (zk (.str "fill")))) (zv 6))) (sseq (sset 4 (zcomp frzl [6] (zitems (zs (zfc 2 F_ahead_of_way) (zcons (zv 0) (zcons (zv 2) znil)))) (tgN 6) (zt (z2 zEq (z2 zIx (z2 zIx (zv 0) (zv 6)) (zk (.int 0))) (zk (.str "jump")))) (zv 6))) (sfor (tgN 5) (zitems (zv 3)) L_triples_1)))
def c_triples : SC := (sseq (sset 1 (zs mkLst znil)) (sseq (sfor (tgN 2) (zitems (zs (zfc 1 F_jumps_of) (zcons (zv 0) znil))) L_triples_2) (sret (zs zTuple (zcons (zv 1) znil)))))
def F_triples : Fn := fnB 8 c_triples
def L__law_small_1 : SC := (sseq (sset 5 (z2 zAdd (zk (.int 1)) (zs (zfc 2 F__law_draw) (zcons (zv 0) (zcons (zk (.int 6)) znil))))) (sseq (sset 6 (zs (zfc 2 F__law_draw) (zcons (zv 0) (zcons (zk (.int 4)) znil)))) (sseq (sset 7 (z2 zMul (zs mkLstF (zcons (zs mkTup (zcons (zk (.str "fill")) (zcons (zs (zfc 2 F__law_pick) (zcons (zv 0) (zcons (zv 2) znil))) znil))) znil)) (z2 zAdd (zk (.int 1)) (zs (zfc 2 F__law_draw) (zcons (zv 0) (zcons (zk (.int 2)) znil)))))) (sseq (spar [8, 9] (zcons (zs mkTup (zcons (zk (.str "jump")) (zcons (zk (.int 0)) (zcons (zk (.int 1)) (zcons (z2 zAdd (zk (.int 1)) (zv 5)) znil))))) (zcons (zs mkLstF (zcons (zs mkTup (zcons (zk (.str "label")) znil)) znil)) znil))) (sif (zt (z2 zEq (zv 6) (zk (.int 0)))) (sset 3 (z2 zAdd (z2 zAdd (zv 3) (zs mkLstF (zcons (zv 8) znil))) (zv 9))) (sif (zt (z2 zEq (zv 6) (zk (.int 1)))) (sset 3 (z2 zAdd (z2 zAdd (z2 zAdd (zv 3) (zv 9)) (zslice (zv 7) zno (zpart (zk (.int 1))))) (zs mkLstF (zcons (zv 8) znil)))) (sset 3 (z2 zAdd (z2 zAdd (z2 zAdd (zv 3) (zs mkLstF (zcons (zv 8) znil))) (zslice (zv 7) zno (zpart (zv 6)))) (zv 9)))))))))
def L__law_small_2 : SC := (sseq (sset 13 (zcomp frzl [16, 17] (zenum (zslice (zv 3) zno (zpart (zv 11)))) (tgT (tgsCons (tgN 16) (tgsCons (tgN 17) tgsNil))) (zt (z2 zEq (z2 zIx (zv 17) (zk (.int 0))) (zk (.str "label")))) (zv 16))) (sseq (sset 14 (zcomp frzl [16, 17] (zenum (zslice (zv 3) (zpart (zv 11)) zno)) (tgT (tgsCons (tgN 16) (tgsCons (tgN 17) tgsNil))) (zt (z2 zEq (z2 zIx (zv 17) (zk (.int 0))) (zk (.str "label")))) (z2 zAdd (zv 16) (zv 11)))) (sseq (sset 15 (z2 zAdd (zslice (zv 14) zno (zpart (zk (.int 2)))) (zslice (zv 13) (zpart (z1 zNeg (zk (.int 1)))) zno))) (sexpr (zmt isL zAppend (zv 10) (zcons (zif (zt (z2 zEq (z2 zIx (zv 12) (zk (.int 0))) (zk (.str "jump")))) (z2 zAdd (zs mkTup (zcons (zk (.str "jump")) (zcons (zs (zfc 2 F__law_pick) (zcons (zv 0) (zcons (zv 15) znil))) znil))) (zslice (zv 12) (zpart (zk (.int 2))) zno)) (zv 12)) znil))))))
def c__law_small : SC := (sseq (sset 3 (zs mkLstF znil)) (sseq (sfor (tgN 4) (zrange1 (zv 1)) L__law_small_1) (sseq (sset 10 (zs mkLst znil)) (sseq (sfor (tgT (tgsCons (tgN 11) (tgsCons (tgN 12) tgsNil))) (zenum (zv 3)) L__law_small_2) (sret (zs zTuple (zcons (zv 10) znil)))))))
def F__law_small : Fn := fnB 18 c__law_small
def L_mended_1 : SC := (sseq (spar [3, 4, 5] (zcons (z2 zIx (z2 zIx (zv 0) (zv 2)) (zk (.int 2))) (zcons (z2 zIx (z2 zIx (zv 0) (zv 2)) (zk (.int 3))) (zcons (zs (zfc 2 F_step_of) (zcons (zv 0) (zcons (zv 2) znil))) znil)))) (sexpr (zmt isL zAppend (zv 1) (zcons (z2 zAdd (zv 3) (z2 zMul (z2 zDiv (z2 zSub (z2 zAdd (z2 zSub (zv 4) (zv 3)) (zv 5)) (zk (.int 1))) (zv 5)) (zv 5))) znil))))
def c_mended : SC := (sseq (sset 1 (zs mkLst znil)) (sseq (sfor (tgN 2) (zitems (zs (zfc 1 F_jumps_of) (zcons (zv 0) znil))) L_mended_1) (sret (zs zTuple (zcons (zv 1) znil)))))
def F_mended : Fn := fnB 6 c_mended
def c__law_is_least : SC := (sseq (spar [2, 3] (zcons (zs zShow (zcons (zv 0) znil)) (zcons (zs (zfc 1 F_mended) (zcons (zv 0) znil)) znil))) (sseq (sset 4 (zcomp frzl [6] (zitems (zs (zfc 2 F__law_all_sizes) (zcons (zv 0) (zcons (zv 1) znil)))) (tgN 6) (zt (z2 zEq (zs (zfc 1 F__law_threes) (zcons (zs (zfc 2 F__law_sized) (zcons (zv 0) (zcons (zv 6) znil))) znil)) (zs mkLstF znil))) (zv 6))) (sseq (sset 5 (zs zTuple (zcons (zcomp frzl [7] (zrange1 (zs zLen (zcons (zs (zfc 1 F__law_jumps) (zcons (zv 0) znil)) znil))) (tgN 7) ztyes (zs zMin (zcons (zcomp frzl [6] (zitems (zv 4)) (tgN 6) ztyes (z2 zIx (zv 6) (zv 7))) znil))) znil))) (sseq (sif (ztor (zt (z2 zNotIn (zv 5) (zv 4))) (ztor (zt (z2 zNe (zs zShow (zcons (zv 3) znil)) (zs zShow (zcons (zv 5) znil)))) (zt (z2 zNe (zs zShow (zcons (zs (fun ds M => zfc 1 (fun ds M => F_mended (permBy [0] ds) M) ds M) (zcons (zv 0) znil)) znil)) (zs zShow (zcons (zv 5) znil)))))) (sret (zk (.bool false))) sskip) (sret (zand (z2 zEq (zs zShow (zcons (zs (zfc 1 F_triples) (zcons (zs (zfc 2 F__law_sized) (zcons (zv 0) (zcons (zv 3) znil))) znil)) znil)) (zs zShow (zcons (zs mkTup znil) znil))) (z2 zEq (zs zShow (zcons (zv 0) znil)) (zv 2))))))))
def F__law_is_least : Fn := fnB 8 c__law_is_least
def c_law : SC := (sseq (sset 1 (zs (zfc 1 F__law_stock) (zcons (zv 0) znil))) (sseq (sif (ztor (ztnot (zt (zs (zfc 2 F__law_is_least) (zcons (zs (zfc 3 F__law_small) (zcons (zv 1) (zcons (zk (.int 3)) (zcons (zs mkLstF (zcons (zk (.int 2)) (zcons (zk (.int 4)) znil))) znil)))) (zcons (zk (.int 3)) znil))))) (ztnot (zt (zs (zfc 2 F__law_is_least) (zcons (zs (zfc 3 F__law_small) (zcons (zv 1) (zcons (zk (.int 2)) (zcons (zs mkLstF (zcons (zk (.int 2)) (zcons (zk (.int 4)) (zcons (zk (.int 8)) znil)))) znil)))) (zcons (zk (.int 7)) znil)))))) (sret (zk (.bool false))) sskip) (sseq (sset 2 (zs (zfc 2 F__law_pick) (zcons (zv 1) (zcons (zs mkLstF (zcons (zk (.int 4)) (zcons (zk (.int 8)) znil))) znil)))) (sseq (sset 3 (zs mkTup (zcons (zk (.str "jump")) (zcons (zk (.int 1)) (zcons (zk (.int 2)) (zcons (z2 zAdd (zk (.int 2)) (zs (zfc 2 F__law_pick) (zcons (zv 1) (zcons (zs mkLstF (zcons (zk (.int 1)) (zcons (zk (.int 3)) (zcons (zk (.int 5)) (zcons (zv 2) znil))))) znil)))) znil)))))) (sseq (sset 4 (zs (zfc 2 F__law_pick) (zcons (zv 1) (zcons (zs mkLstF (zcons (zs mkTup znil) (zcons (zs mkTup (zcons (zs mkTup (zcons (zk (.str "fill")) (zcons (zk (.int 8)) znil))) znil)) (zcons (zs mkTup (zcons (zs mkTup (zcons (zk (.str "fill")) (zcons (zk (.int 2)) znil))) znil)) znil)))) znil)))) (sseq (sset 5 (z2 zAdd (zk (.int 4)) (zs zLen (zcons (zv 4) znil)))) (sret (zs (zfc 2 F__law_is_least) (zcons (z2 zAdd (z2 zAdd (zs mkTup (zcons (zv 3) (zcons (zs mkTup (zcons (zk (.str "label")) znil)) znil))) (zv 4)) (zs mkTup (zcons (zs mkTup (zcons (zk (.str "jump")) (zcons (zv 5) (zcons (zk (.int 2)) (zcons (zk (.int 5)) znil))))) (zcons (zs mkTup (zcons (zk (.str "fill")) (zcons (zv 2) znil))) (zcons (zs mkTup (zcons (zk (.str "label")) znil)) znil))))) (zcons (zk (.int 7)) znil))))))))))
def F_law : Fn := fnB 6 c_law
section
variable {P : Program} {w : World} {K : PySem.W.Frag} {mg : Str → Option Value} {base : Heap}
theorem sc_jumps_of : FnScope N_jumps_of ["skeleton"] (defScope s_jumps_of) := ⟨rfl, rfl, rfl, by decide +kernel, rfl, by decide +kernel, by decide +kernel⟩
theorem ok_jumps_of (fx : FX K mg) : FnG P w K mg base 1 fx.a_jumps_of fx.d_jumps_of ["skeleton"] (spZ K mg F_jumps_of 1) :=
  zfn fx.f_jumps_of sc_jumps_of fun cdv A outer s H E B => ((.one (.ret (.callTy zTuple_ok (by rfl) fx.n_tuple (by rfl) (.cons (ZE.comp (own := [("place", 1), ("item", 2)]) fin_f B.zx (.enum (by rfl) fx.n_enumerate (.v 0)) (blkOk_by (by rfl)) (by decide) (fun s1 h1 _ _ p1 => (.two (B.blk s1 h1 _ _ p1).zx.calm (.name (B.blk s1 h1 _ _ p1).zx.nd 1) (.name (B.blk s1 h1 _ _ p1).zx.nd 2))) (fun s1 h1 _ _ p1 => (.one (.cmp (zEq_ok (B.blk s1 h1 _ _ p1).zx) (.ix (.v 2) .int) .str))) (fun s1 h1 _ _ p1 => (.v 1))) .nil)))))
theorem sc_in_way : FnScope N_in_way ["skeleton", "jump"] (defScope s_in_way) := ⟨rfl, rfl, rfl, by decide +kernel, rfl, by decide +kernel, by decide +kernel⟩
theorem ok_in_way (fx : FX K mg) : FnG P w K mg base 1 fx.a_in_way fx.d_in_way ["skeleton", "jump"] (spZ K mg F_in_way 2) :=
  zfn fx.f_in_way sc_in_way fun cdv A outer s H E B => ((.cons (.set B.zx.nd 2 (.ix (.ix (.v 0) (.v 1)) .int))
  (.one (.ret (.tupRg B.zx (by rfl) fx.n_tuple (.two (by rfl) fx.n_range (.op2 zAdd_ok (.callB (zMin_ok B.zx) (by rfl) fx.n_min (by rfl) (.cons (.v 1) (.cons (.v 2) .nil))) .int) (.callB (zMax_ok B.zx) (by rfl) fx.n_max (by rfl) (.cons (.v 1) (.cons (.v 2) .nil)))))))))
theorem sc_ahead_of_way : FnScope N_ahead_of_way ["skeleton", "jump"] (defScope s_ahead_of_way) := ⟨rfl, rfl, rfl, by decide +kernel, rfl, by decide +kernel, by decide +kernel⟩
theorem ok_ahead_of_way (fx : FX K mg) : FnG P w K mg base 1 fx.a_ahead_of_way fx.d_ahead_of_way ["skeleton", "jump"] (spZ K mg F_ahead_of_way 2) :=
  zfn fx.f_ahead_of_way sc_ahead_of_way fun cdv A outer s H E B => ((.one (.ret (.tupRg B.zx (by rfl) fx.n_tuple (.one (by rfl) fx.n_range (.callB (zMin_ok B.zx) (by rfl) fx.n_min (by rfl) (.cons (.v 1) (.cons (.ix (.ix (.v 0) (.v 1)) .int) .nil))))))))
theorem sc_greatest_of : FnScope N_greatest_of ["sizes"] (defScope s_greatest_of) := ⟨rfl, rfl, rfl, by decide +kernel, rfl, by decide +kernel, by decide +kernel⟩
theorem ok_greatest_of (fx : FX K mg) : FnG P w K mg base 1 fx.a_greatest_of fx.d_greatest_of ["sizes"] (spZ K mg F_greatest_of 1) :=
  zfn fx.f_greatest_of sc_greatest_of fun cdv A outer s H E B => ((.one (.ret (.callB (zMax_ok B.zx) (by rfl) fx.n_max (by rfl) (.cons (.lstF (.cons .int (.star (.v 0) .nil))) .nil)))))
theorem sc_fills_between : FnScope N_fills_between ["skeleton", "first", "last"] (defScope s_fills_between) := ⟨rfl, rfl, rfl, by decide +kernel, rfl, by decide +kernel, by decide +kernel⟩
theorem ok_fills_between (fx : FX K mg) : FnG P w K mg base 1 fx.a_fills_between fx.d_fills_between ["skeleton", "first", "last"] (spZ K mg F_fills_between 3) :=
  zfn fx.f_fills_between sc_fills_between fun cdv A outer s H E B => ((.one (.ret (ZE.comp (own := [("item", 3)]) fin_f B.zx (.seq (.sl (.v 0) (.some (.op2 zAdd_ok (.v 1) .int)) (.some (.v 2)))) (blkOk_by (by rfl)) (by decide) (fun s1 h1 _ _ p1 => (.name (B.blk s1 h1 _ _ p1).zx.nd 3)) (fun s1 h1 _ _ p1 => (.one (.cmp (zEq_ok (B.blk s1 h1 _ _ p1).zx) (.ix (.v 3) .int) .str))) (fun s1 h1 _ _ p1 => (.ix (.v 3) .int))))))
theorem sc_growth : FnScope N_growth ["item"] (defScope s_growth) := ⟨rfl, rfl, rfl, by decide +kernel, rfl, by decide +kernel, by decide +kernel⟩
theorem ok_growth (fx : FX K mg) : FnG P w K mg base 1 fx.a_growth fx.d_growth ["item"] (spZ K mg F_growth 1) :=
  zfn fx.f_growth sc_growth fun cdv A outer s H E B => ((.one (.ret (.op2 zSub_ok (.ix (.v 0) .int) (.ix (.v 0) .int)))))
theorem sc_is_kept_away : FnScope N_is_kept_away ["skeleton", "other", "fill"] (defScope s_is_kept_away) := ⟨rfl, rfl, rfl, by decide +kernel, rfl, by decide +kernel, by decide +kernel⟩
theorem ok_is_kept_away (fx : FX K mg) : FnG P w K mg base 1 fx.a_is_kept_away fx.d_is_kept_away ["skeleton", "other", "fill"] (spZ K mg F_is_kept_away 3) :=
  zfn fx.f_is_kept_away sc_is_kept_away fun cdv A outer s H E B => ((.cons (.set B.zx.nd 3 (.sl (.v 0) (.some (.op2 zAdd_ok (.v 1) .int)) (.some (.v 2))))
  (.one (.ret (.callB (zAny_ok B.zx) (by rfl) fx.n_any (by rfl) (.cons (ZE.comp (own := [("item", 4)]) fin_f B.zx (.seq (.v 3)) (blkOk_by (by rfl)) (by decide) (fun s1 h1 _ _ p1 => (.name (B.blk s1 h1 _ _ p1).zx.nd 4)) (fun s1 h1 _ _ p1 => .nil) (fun s1 h1 _ _ p1 => (.and (.cmp (zEq_ok (B.blk s1 h1 _ _ p1).zx) (.ix (.v 4) .int) .str) (.one (.cmp zGe_ok (.ix (.v 4) .int) (.ix (.ix (.v 0) (.v 2)) .int)))))) .nil))))))
theorem sc__law_stock : FnScope N__law_stock ["script"] (defScope s__law_stock) := ⟨rfl, rfl, rfl, by decide +kernel, rfl, by decide +kernel, by decide +kernel⟩
theorem ok__law_stock (fx : FX K mg) : FnG P w K mg base 1 fx.a__law_stock fx.d__law_stock ["script"] (spZ K mg F__law_stock 1) :=
  zfn fx.f__law_stock sc__law_stock fun cdv A outer s H E B => ((.cons (.comp (i := 1) (own := [("cell", 2)]) fin_f B.zx (.seq (.sl (.v 0) .none (.some .int))) (blkOk_by (by rfl)) (by decide) (by rfl) (by rfl) (by rfl) (fun s1 h1 _ _ p1 => (.name (B.blk s1 h1 _ _ p1).zx.nd 2)) (fun s1 h1 _ _ p1 => .nil) (fun s1 h1 _ _ p1 => (.ife (.cmp zGe_ok (.v 2) .int) (.op2 zMul_ok .int (.v 2)) (.op2 zSub_ok (.op2 zMul_ok (.op1 zNeg_ok .int) (.v 2)) .int))))
  (.one (.ret (ZE.lst (.cons (ZE.comp (own := [("cell", 2)]) fin_m B.zx (.seq (.v 1)) (blkOk_by (by rfl)) (by decide) (fun s2 h2 _ _ p2 => (.name (B.blk s2 h2 _ _ p2).zx.nd 2)) (fun s2 h2 _ _ p2 => (.one (.cmp zGe_ok (.v 2) (.op2 zPow_ok .int .int)))) (fun s2 h2 _ _ p2 => (.v 2))) (.cons (.op2 zAdd_ok (.v 1) (.lstF (.cons (.op2 zAdd_ok (.callB zLen_ok (by rfl) fx.n_len (by rfl) (.cons (.v 1) .nil)) .int) .nil))) (.cons (.callB (zSum_ok B.zx) (by rfl) fx.n_sum (by rfl) (.cons (.v 1) .nil)) (.cons .int .nil)))))))))
theorem sc__law_draw : FnScope N__law_draw ["stock", "size"] (defScope s__law_draw) := ⟨rfl, rfl, rfl, by decide +kernel, rfl, by decide +kernel, by decide +kernel⟩
theorem ok__law_draw (fx : FX K mg) : FnG P w K mg base 1 fx.a__law_draw fx.d__law_draw ["stock", "size"] (spZ K mg F__law_draw 2) :=
  zfn fx.f__law_draw sc__law_draw fun cdv A outer s H E B => ((.cons (.ife (.cmp (zNe_ok B.zx) (.ix (.v 0) .int) (.lstF .nil))
  (.cons (.set B.zx.nd 2 (.meth0 PySem.F.plainAttrs_list PySem.F.slot_list_pop PySem.F.type_list_pop zPop_ok isL_ok (.ix (.v 0) .int)))
  (.cons (.ife (.cmp zGe_ok (.v 2) (.v 1))
  (.one (.expr (.meth PySem.F.plainAttrs_list PySem.F.slot_list_append PySem.F.type_list_append zAppend_ok isL_ok (.ix (.v 0) .int) (.cons (.op2 zDiv_ok (.v 2) (.v 1)) .nil))))
  .nil)
  (.one (.ret (.op2 zMod_ok (.callTy zInt_ok (by rfl) fx.n_int (by rfl) (.cons (.v 2) .nil)) (.v 1))))))
  .nil)
  (.cons (.store zSetL_ok (.op2 zAdd_ok (.ix (.v 0) .int) .int) (.v 0) .int)
  (.cons (.set B.zx.nd 3 (.ix (.v 0) .int))
  (.cons (.set B.zx.nd 4 (.op2 zMod_ok (.callTy zInt_ok (by rfl) fx.n_int (by rfl) (.cons (.ix (.ix (.v 0) .int) (.op2 zMod_ok (.callTy zInt_ok (by rfl) fx.n_int (by rfl) (.cons (.v 3) .nil)) (.callB zLen_ok (by rfl) fx.n_len (by rfl) (.cons (.ix (.v 0) .int) .nil)))) .nil)) .int))
  (.cons (.set B.zx.nd 5 (.op2 zMod_ok (.callTy zInt_ok (by rfl) fx.n_int (by rfl) (.cons (.op2 zAdd_ok (.op2 zAdd_ok (.op2 zMul_ok (.v 4) .int) (.op2 zMul_ok (.op2 zMod_ok (.callTy zInt_ok (by rfl) fx.n_int (by rfl) (.cons (.ix (.v 0) .int) .nil)) .int) .int)) (.op2 zMul_ok (.v 3) .int)) .nil)) .int))
  (.cons (.set B.zx.nd 5 (.op2 zMod_ok (.callTy zInt_ok (by rfl) fx.n_int (by rfl) (.cons (.op2 zAdd_ok (.op2 zAdd_ok (.op2 zMul_ok (.v 5) (.v 5)) (.op2 zMul_ok (.v 3) .int)) (.v 4)) .nil)) .int))
  (.one (.ret (.op2 zMod_ok (.op2 zDiv_ok (.op2 zMod_ok (.callTy zInt_ok (by rfl) fx.n_int (by rfl) (.cons (.op2 zAdd_ok (.op2 zMul_ok (.v 5) .int) (.op2 zMul_ok (.v 3) .int)) .nil)) .int) .int) (.v 1)))))))))))
theorem sc__law_jumps : FnScope N__law_jumps ["skeleton"] (defScope s__law_jumps) := ⟨rfl, rfl, rfl, by decide +kernel, rfl, by decide +kernel, by decide +kernel⟩
theorem ok__law_jumps (fx : FX K mg) : FnG P w K mg base 1 fx.a__law_jumps fx.d__law_jumps ["skeleton"] (spZ K mg F__law_jumps 1) :=
  zfn fx.f__law_jumps sc__law_jumps fun cdv A outer s H E B => ((.one (.ret (ZE.comp (own := [("place", 1), ("item", 2)]) fin_f B.zx (.enum (by rfl) fx.n_enumerate (.v 0)) (blkOk_by (by rfl)) (by decide) (fun s1 h1 _ _ p1 => (.two (B.blk s1 h1 _ _ p1).zx.calm (.name (B.blk s1 h1 _ _ p1).zx.nd 1) (.name (B.blk s1 h1 _ _ p1).zx.nd 2))) (fun s1 h1 _ _ p1 => (.one (.cmp (zEq_ok (B.blk s1 h1 _ _ p1).zx) (.ix (.v 2) .int) .str))) (fun s1 h1 _ _ p1 => (.v 1))))))
theorem sc__law_sized : FnScope N__law_sized ["skeleton", "sizes"] (defScope s__law_sized) := ⟨rfl, rfl, rfl, by decide +kernel, rfl, by decide +kernel, by decide +kernel⟩
theorem ok__law_sized (fx : FX K mg) : FnG P w K mg base 1 fx.a__law_sized fx.d__law_sized ["skeleton", "sizes"] (spZ K mg F__law_sized 2) :=
  zfn fx.f__law_sized sc__law_sized fun cdv A outer s H E B => ((.cons (.par2 B.zx 2 3 (.cons (ZE.lst .nil) (.cons (ZE.callTy zListM_ok (by rfl) fx.n_list (by rfl) (.cons (.v 1) .nil)) .nil)))
  (.cons (.for_ B.zx (.seq (.v 0)) (.name B.zx.nd 4)
  (.one (.expr (.meth PySem.F.plainAttrs_list PySem.F.slot_list_append PySem.F.type_list_append zAppend_ok isL_ok (.v 2) (.cons (.ife (.cmp (zEq_ok B.zx) (.ix (.v 4) .int) .str) (.op2 zAdd_ok (.sl (.v 4) .none (.some .int)) (.tup (.cons (.meth PySem.F.plainAttrs_list PySem.F.slot_list_pop PySem.F.type_list_pop zPopAt_ok isL_ok (.v 3) (.cons .int .nil)) .nil))) (.v 4)) .nil)))))
  (.one (.ret (.callTy zTuple_ok (by rfl) fx.n_tuple (by rfl) (.cons (.v 2) .nil)))))))
theorem sc_fills_met : FnScope N_fills_met ["skeleton", "other", "jump"] (defScope s_fills_met) := ⟨rfl, rfl, rfl, by decide +kernel, rfl, by decide +kernel, by decide +kernel⟩
theorem ok_fills_met (fx : FX K mg) : FnG P w K mg base 2 fx.a_fills_met fx.d_fills_met ["skeleton", "other", "jump"] (spZ K mg F_fills_met 3) :=
  zfn fx.f_fills_met sc_fills_met fun cdv A outer s H E B => ((.cons (.set B.zx.nd 3 (ZE.lst .nil))
  (.cons (.for_ B.zx (.seq (.call B (ok_in_way fx) (by decide) (by rfl) fx.m_in_way fx.f_in_way.kp fx.b_in_way (.cons (.v 0) (.cons (.v 2) .nil)))) (.name B.zx.nd 4)
  (.one (.ife (.w (.and (.cmp (zEq_ok B.zx) (.ix (.ix (.v 0) (.v 4)) .int) .str) (.and1 (.cmp zGt_ok (.ix (.ix (.v 0) (.v 4)) .int) (.call B (ok_greatest_of fx) (by decide) (by rfl) fx.m_greatest_of fx.f_greatest_of.kp fx.b_greatest_of (.cons (.call B (ok_fills_between fx) (by decide) (by rfl) fx.m_fills_between fx.f_fills_between.kp fx.b_fills_between (.cons (.v 0) (.cons (.v 1) (.cons (.v 4) .nil)))) .nil))))))
  (.one (.expr (.meth PySem.F.plainAttrs_list PySem.F.slot_list_append PySem.F.type_list_append zAppend_ok isL_ok (.v 3) (.cons (.ix (.ix (.v 0) (.v 4)) .int) .nil))))
  .nil)))
  (.one (.ret (ZE.frz (.v 3)))))))
theorem sc_is_triple : FnScope N_is_triple ["skeleton", "fill", "other"] (defScope s_is_triple) := ⟨rfl, rfl, rfl, by decide +kernel, rfl, by decide +kernel, by decide +kernel⟩
theorem ok_is_triple (fx : FX K mg) : FnG P w K mg base 2 fx.a_is_triple fx.d_is_triple ["skeleton", "fill", "other"] (spZ K mg F_is_triple 3) :=
  zfn fx.f_is_triple sc_is_triple fun cdv A outer s H E B => ((.cons (.ife (.val (.call B (ok_is_kept_away fx) (by decide) (by rfl) fx.m_is_kept_away fx.f_is_kept_away.kp fx.b_is_kept_away (.cons (.v 0) (.cons (.v 2) (.cons (.v 1) .nil)))))
  (.one (.ret .bl))
  .nil)
  (.one (.ret (.cmp (zNe_ok B.zx) (.op2 zMod_ok (.call B (ok_growth fx) (by decide) (by rfl) fx.m_growth fx.f_growth.kp fx.b_growth (.cons (.ix (.v 0) (.v 2)) .nil)) (.ix (.ix (.v 0) (.v 1)) .int)) .int)))))
theorem sc__law_pick : FnScope N__law_pick ["stock", "row"] (defScope s__law_pick) := ⟨rfl, rfl, rfl, by decide +kernel, rfl, by decide +kernel, by decide +kernel⟩
theorem ok__law_pick (fx : FX K mg) : FnG P w K mg base 2 fx.a__law_pick fx.d__law_pick ["stock", "row"] (spZ K mg F__law_pick 2) :=
  zfn fx.f__law_pick sc__law_pick fun cdv A outer s H E B => ((.one (.ret (.ix (.v 1) (.call B (ok__law_draw fx) (by decide) (by rfl) fx.m__law_draw fx.f__law_draw.kp fx.b__law_draw (.cons (.v 0) (.cons (.callB zLen_ok (by rfl) fx.n_len (by rfl) (.cons (.v 1) .nil)) .nil)))))))
theorem sc__law_threes : FnScope N__law_threes ["skeleton"] (defScope s__law_threes) := ⟨rfl, rfl, rfl, by decide +kernel, rfl, by decide +kernel, by decide +kernel⟩
theorem ok__law_threes (fx : FX K mg) : FnG P w K mg base 2 fx.a__law_threes fx.d__law_threes ["skeleton"] (spZ K mg F__law_threes 1) :=
  zfn fx.f__law_threes sc__law_threes fun cdv A outer s H E B => ((.cons (.par2 B.zx 1 2 (.cons (ZE.lst .nil) (.cons (.call B (ok__law_jumps fx) (by decide) (by rfl) fx.m__law_jumps fx.f__law_jumps.kp fx.b__law_jumps (.cons (.v 0) .nil)) .nil)))
  (.cons (.for_ B.zx (.seq (.v 2)) (.name B.zx.nd 3)
  (.cons (.parT B.zx (.cons (.callB (zMin_ok B.zx) (by rfl) fx.n_min (by rfl) (.cons (.v 3) (.cons (.ix (.ix (.v 0) (.v 3)) .int) .nil))) (.cons (.callB (zMax_ok B.zx) (by rfl) fx.n_max (by rfl) (.cons (.v 3) (.cons (.ix (.ix (.v 0) (.v 3)) .int) .nil))) .nil)) (tn_cons B.zx.nd 4 (tn_cons B.zx.nd 5 tn_nil)))
  (.one (.for_ B.zx (.seq (ZE.comp (own := [("place", 9)]) fin_f B.zx (.range2 (by rfl) fx.n_range (.op2 zAdd_ok (.v 4) .int) (.v 5)) (blkOk_by (by rfl)) (by decide) (fun s1 h1 _ _ p1 => (.name (B.blk s1 h1 _ _ p1).zx.nd 9)) (fun s1 h1 _ _ p1 => (.one (.cmp (zEq_ok (B.blk s1 h1 _ _ p1).zx) (.ix (.ix (.v 0) (.v 9)) .int) .str))) (fun s1 h1 _ _ p1 => (.v 9)))) (.name B.zx.nd 6)
  (.one (.for_ B.zx (.seq (ZE.comp (own := [("place", 9)]) fin_f B.zx (.seq (.v 2)) (blkOk_by (by rfl)) (by decide) (fun s2 h2 _ _ p2 => (.name (B.blk s2 h2 _ _ p2).zx.nd 9)) (fun s2 h2 _ _ p2 => (.one (.cmp zLt_ok (.v 9) (.v 4)))) (fun s2 h2 _ _ p2 => (.v 9)))) (.name B.zx.nd 7)
  (.cons (.comp (i := 8) (own := [("own", 10)]) fin_f B.zx (.seq (.sl (.v 0) (.some (.v 7)) (.some (.v 6)))) (blkOk_by (by rfl)) (by decide) (by rfl) (by rfl) (by rfl) (fun s3 h3 _ _ p3 => (.name (B.blk s3 h3 _ _ p3).zx.nd 10)) (fun s3 h3 _ _ p3 => (.one (.w (.and (.cmp (zEq_ok (B.blk s3 h3 _ _ p3).zx) (.ix (.v 10) .int) .str) (.and1 (.cmp zGe_ok (.ix (.v 10) .int) (.ix (.ix (.v 0) (.v 6)) .int))))))) (fun s3 h3 _ _ p3 => (.v 10)))
  (.one (.ife (.w (.and (.cmp (zEq_ok B.zx) (.v 8) (.lstF .nil)) (.and1 (.cmp (zNe_ok B.zx) (.op2 zMod_ok (.callTy zInt_ok (by rfl) fx.n_int (by rfl) (.cons (.op2 zSub_ok (.ix (.ix (.v 0) (.v 7)) .int) (.ix (.ix (.v 0) (.v 7)) .int)) .nil)) (.ix (.ix (.v 0) (.v 6)) .int)) .int))))
  (.one (.expr (.meth PySem.F.plainAttrs_list PySem.F.slot_list_append PySem.F.type_list_append zAppend_ok isL_ok (.v 1) (.cons (.tup (.cons (.v 3) (.cons (.v 6) (.cons (.v 7) .nil)))) .nil))))
  .nil)))))))))
  (.one (.ret (.callB (zSort_ok B.zx) (by rfl) fx.n_sorted (by rfl) (.cons (.v 1) .nil)))))))
theorem sc__law_all_sizes : FnScope N__law_all_sizes ["skeleton", "more"] (defScope s__law_all_sizes) := ⟨rfl, rfl, rfl, by decide +kernel, rfl, by decide +kernel, by decide +kernel⟩
theorem ok__law_all_sizes (fx : FX K mg) : FnG P w K mg base 2 fx.a__law_all_sizes fx.d__law_all_sizes ["skeleton", "more"] (spZ K mg F__law_all_sizes 2) :=
  zfn fx.f__law_all_sizes sc__law_all_sizes fun cdv A outer s H E B => ((.cons (.set B.zx.nd 2 (.lstF (.cons (.tup .nil) .nil)))
  (.cons (.for_ B.zx (.seq (.call B (ok__law_jumps fx) (by decide) (by rfl) fx.m__law_jumps fx.f__law_jumps.kp fx.b__law_jumps (.cons (.v 0) .nil))) (.name B.zx.nd 3)
  (.cons (.set B.zx.nd 4 (.lstF .nil))
  (.cons (.for_ B.zx (.range2 (by rfl) fx.n_range (.ix (.ix (.v 0) (.v 3)) .int) (.op2 zAdd_ok (.op2 zAdd_ok (.ix (.ix (.v 0) (.v 3)) .int) (.v 1)) .int)) (.name B.zx.nd 5)
  (.one (.set B.zx.nd 4 (.op2 zAdd_ok (.v 4) (ZE.comp (own := [("row", 6)]) fin_f B.zx (.seq (.v 2)) (blkOk_by (by rfl)) (by decide) (fun s1 h1 _ _ p1 => (.name (B.blk s1 h1 _ _ p1).zx.nd 6)) (fun s1 h1 _ _ p1 => .nil) (fun s1 h1 _ _ p1 => (.op2 zAdd_ok (.v 6) (.tup (.cons (.v 5) .nil)))))))))
  (.one (.set B.zx.nd 2 (.v 4))))))
  (.one (.ret (.v 2))))))
theorem sc_step_of : FnScope N_step_of ["skeleton", "other"] (defScope s_step_of) := ⟨rfl, rfl, rfl, by decide +kernel, rfl, by decide +kernel, by decide +kernel⟩
theorem ok_step_of (fx : FX K mg) : FnG P w K mg base 3 fx.a_step_of fx.d_step_of ["skeleton", "other"] (spZ K mg F_step_of 2) :=
  zfn fx.f_step_of sc_step_of fun cdv A outer s H E B => ((.cons (.set B.zx.nd 2 (ZE.lst (.cons .int .nil)))
  (.cons (.for_ B.zx (.seq (.call B (ok_jumps_of fx) (by decide) (by rfl) fx.m_jumps_of fx.f_jumps_of.kp fx.b_jumps_of (.cons (.v 0) .nil))) (.name B.zx.nd 3)
  (.one (.ife (.cmp (zIn_ok B.zx) (.v 1) (.call B (ok_ahead_of_way fx) (by decide) (by rfl) fx.m_ahead_of_way fx.f_ahead_of_way.kp fx.b_ahead_of_way (.cons (.v 0) (.cons (.v 3) .nil))))
  (.one (.expr (.meth PySem.F.plainAttrs_list PySem.F.slot_list_extend PySem.F.type_list_extend zExtend_ok isL_ok (.v 2) (.cons (.call B (ok_fills_met fx) (by decide) (by rfl) fx.m_fills_met fx.f_fills_met.kp fx.b_fills_met (.cons (.v 0) (.cons (.v 1) (.cons (.v 3) .nil)))) .nil))))
  .nil)))
  (.one (.ret (.callB (zMax_ok B.zx) (by rfl) fx.n_max (by rfl) (.cons (.v 2) .nil)))))))
theorem sc_triples : FnScope N_triples ["skeleton"] (defScope s_triples) := ⟨rfl, rfl, rfl, by decide +kernel, rfl, by decide +kernel, by decide +kernel⟩
theorem ok_triples (fx : FX K mg) : FnG P w K mg base 3 fx.a_triples fx.d_triples ["skeleton"] (spZ K mg F_triples 1) :=
  zfn fx.f_triples sc_triples fun cdv A outer s H E B => ((.cons (.set B.zx.nd 1 (ZE.lst .nil))
  (.cons (.for_ B.zx (.seq (.call B (ok_jumps_of fx) (by decide) (by rfl) fx.m_jumps_of fx.f_jumps_of.kp fx.b_jumps_of (.cons (.v 0) .nil))) (.name B.zx.nd 2)
  (.cons (.comp (i := 3) (own := [("place", 6)]) fin_f B.zx (.seq (.call B (ok_in_way fx) (by decide) (by rfl) fx.m_in_way fx.f_in_way.kp fx.b_in_way (.cons (.v 0) (.cons (.v 2) .nil)))) (blkOk_by (by rfl)) (by decide) (by rfl) (by rfl) (by rfl) (fun s1 h1 _ _ p1 => (.name (B.blk s1 h1 _ _ p1).zx.nd 6)) (fun s1 h1 _ _ p1 => (.one (.cmp (zEq_ok (B.blk s1 h1 _ _ p1).zx) (.ix (.ix (.v 0) (.v 6)) .int) .str))) (fun s1 h1 _ _ p1 => (.v 6)))
  (.cons (.comp (i := 4) (own := [("place", 6)]) fin_f B.zx (.seq (.call B (ok_ahead_of_way fx) (by decide) (by rfl) fx.m_ahead_of_way fx.f_ahead_of_way.kp fx.b_ahead_of_way (.cons (.v 0) (.cons (.v 2) .nil)))) (blkOk_by (by rfl)) (by decide) (by rfl) (by rfl) (by rfl) (fun s2 h2 _ _ p2 => (.name (B.blk s2 h2 _ _ p2).zx.nd 6)) (fun s2 h2 _ _ p2 => (.one (.cmp (zEq_ok (B.blk s2 h2 _ _ p2).zx) (.ix (.ix (.v 0) (.v 6)) .int) .str))) (fun s2 h2 _ _ p2 => (.v 6)))
  (.one (.for_ B.zx (.seq (.v 3)) (.name B.zx.nd 5)
  (.one (.expr (.meth PySem.F.plainAttrs_list PySem.F.slot_list_extend PySem.F.type_list_extend zExtend_ok isL_ok (.v 1) (.cons (ZE.comp (own := [("other", 7)]) fin_f B.zx (.seq (.v 4)) (blkOk_by (by rfl)) (by decide) (fun s3 h3 _ _ p3 => (.name (B.blk s3 h3 _ _ p3).zx.nd 7)) (fun s3 h3 _ _ p3 => (.one (.val (.call (B.blk s3 h3 _ _ p3) (ok_is_triple fx) (by decide) (by rfl) fx.m_is_triple fx.f_is_triple.kp fx.b_is_triple (.cons (.v 0) (.cons (.v 5) (.cons (.v 7) .nil))))))) (fun s3 h3 _ _ p3 => (.tup (.cons (.v 2) (.cons (.v 5) (.cons (.v 7) .nil)))))) .nil)))))))))
  (.one (.ret (.callTy zTuple_ok (by rfl) fx.n_tuple (by rfl) (.cons (.v 1) .nil)))))))
theorem sc__law_small : FnScope N__law_small ["stock", "jumps", "fills"] (defScope s__law_small) := ⟨rfl, rfl, rfl, by decide +kernel, rfl, by decide +kernel, by decide +kernel⟩
theorem ok__law_small (fx : FX K mg) : FnG P w K mg base 3 fx.a__law_small fx.d__law_small ["stock", "jumps", "fills"] (spZ K mg F__law_small 3) :=
  zfn fx.f__law_small sc__law_small fun cdv A outer s H E B => ((.cons (.set B.zx.nd 3 (.lstF .nil))
  (.cons (.for_ B.zx (.range1 (by rfl) fx.n_range (.v 1)) (.name B.zx.nd 4)
  (.cons (.set B.zx.nd 5 (.op2 zAdd_ok .int (.call B (ok__law_draw fx) (by decide) (by rfl) fx.m__law_draw fx.f__law_draw.kp fx.b__law_draw (.cons (.v 0) (.cons .int .nil)))))
  (.cons (.set B.zx.nd 6 (.call B (ok__law_draw fx) (by decide) (by rfl) fx.m__law_draw fx.f__law_draw.kp fx.b__law_draw (.cons (.v 0) (.cons .int .nil))))
  (.cons (.set B.zx.nd 7 (.op2 zMul_ok (.lstF (.cons (.tup (.cons .str (.cons (.call B (ok__law_pick fx) (by decide) (by rfl) fx.m__law_pick fx.f__law_pick.kp fx.b__law_pick (.cons (.v 0) (.cons (.v 2) .nil))) .nil))) .nil)) (.op2 zAdd_ok .int (.call B (ok__law_draw fx) (by decide) (by rfl) fx.m__law_draw fx.f__law_draw.kp fx.b__law_draw (.cons (.v 0) (.cons .int .nil))))))
  (.cons (.par2 B.zx 8 9 (.cons (.tup (.cons .str (.cons .int (.cons .int (.cons (.op2 zAdd_ok .int (.v 5)) .nil))))) (.cons (.lstF (.cons (.tup (.cons .str .nil)) .nil)) .nil)))
  (.one (.ife (.cmp (zEq_ok B.zx) (.v 6) .int)
  (.one (.set B.zx.nd 3 (.op2 zAdd_ok (.op2 zAdd_ok (.v 3) (.lstF (.cons (.v 8) .nil))) (.v 9))))
  (.one (.ife (.cmp (zEq_ok B.zx) (.v 6) .int)
  (.one (.set B.zx.nd 3 (.op2 zAdd_ok (.op2 zAdd_ok (.op2 zAdd_ok (.v 3) (.v 9)) (.sl (.v 7) .none (.some .int))) (.lstF (.cons (.v 8) .nil)))))
  (.one (.set B.zx.nd 3 (.op2 zAdd_ok (.op2 zAdd_ok (.op2 zAdd_ok (.v 3) (.lstF (.cons (.v 8) .nil))) (.sl (.v 7) .none (.some (.v 6)))) (.v 9)))))))))))))
  (.cons (.set B.zx.nd 10 (ZE.lst .nil))
  (.cons (.for_ B.zx (.enum (by rfl) fx.n_enumerate (.v 3)) (.two B.zx.calm (.name B.zx.nd 11) (.name B.zx.nd 12))
  (.cons (.comp (i := 13) (own := [("spot", 16), ("other", 17)]) fin_f B.zx (.enum (by rfl) fx.n_enumerate (.sl (.v 3) .none (.some (.v 11)))) (blkOk_by (by rfl)) (by decide) (by rfl) (by rfl) (by rfl) (fun s1 h1 _ _ p1 => (.two (B.blk s1 h1 _ _ p1).zx.calm (.name (B.blk s1 h1 _ _ p1).zx.nd 16) (.name (B.blk s1 h1 _ _ p1).zx.nd 17))) (fun s1 h1 _ _ p1 => (.one (.cmp (zEq_ok (B.blk s1 h1 _ _ p1).zx) (.ix (.v 17) .int) .str))) (fun s1 h1 _ _ p1 => (.v 16)))
  (.cons (.comp (i := 14) (own := [("spot", 16), ("other", 17)]) fin_f B.zx (.enum (by rfl) fx.n_enumerate (.sl (.v 3) (.some (.v 11)) .none)) (blkOk_by (by rfl)) (by decide) (by rfl) (by rfl) (by rfl) (fun s2 h2 _ _ p2 => (.two (B.blk s2 h2 _ _ p2).zx.calm (.name (B.blk s2 h2 _ _ p2).zx.nd 16) (.name (B.blk s2 h2 _ _ p2).zx.nd 17))) (fun s2 h2 _ _ p2 => (.one (.cmp (zEq_ok (B.blk s2 h2 _ _ p2).zx) (.ix (.v 17) .int) .str))) (fun s2 h2 _ _ p2 => (.op2 zAdd_ok (.v 16) (.v 11))))
  (.cons (.set B.zx.nd 15 (.op2 zAdd_ok (.sl (.v 14) .none (.some .int)) (.sl (.v 13) (.some (.op1 zNeg_ok .int)) .none)))
  (.one (.expr (.meth PySem.F.plainAttrs_list PySem.F.slot_list_append PySem.F.type_list_append zAppend_ok isL_ok (.v 10) (.cons (.ife (.cmp (zEq_ok B.zx) (.ix (.v 12) .int) .str) (.op2 zAdd_ok (.tup (.cons .str (.cons (.call B (ok__law_pick fx) (by decide) (by rfl) fx.m__law_pick fx.f__law_pick.kp fx.b__law_pick (.cons (.v 0) (.cons (.v 15) .nil))) .nil))) (.sl (.v 12) (.some .int) .none)) (.v 12)) .nil))))))))
  (.one (.ret (.callTy zTuple_ok (by rfl) fx.n_tuple (by rfl) (.cons (.v 10) .nil)))))))))
theorem sc_mended : FnScope N_mended ["skeleton"] (defScope s_mended) := ⟨rfl, rfl, rfl, by decide +kernel, rfl, by decide +kernel, by decide +kernel⟩
theorem ok_mended (fx : FX K mg) : FnG P w K mg base 4 fx.a_mended fx.d_mended ["skeleton"] (spZ K mg F_mended 1) :=
  zfn fx.f_mended sc_mended fun cdv A outer s H E B => ((.cons (.set B.zx.nd 1 (ZE.lst .nil))
  (.cons (.for_ B.zx (.seq (.call B (ok_jumps_of fx) (by decide) (by rfl) fx.m_jumps_of fx.f_jumps_of.kp fx.b_jumps_of (.cons (.v 0) .nil))) (.name B.zx.nd 2)
  (.cons (.par3 B.zx 3 4 5 (.cons (.ix (.ix (.v 0) (.v 2)) .int) (.cons (.ix (.ix (.v 0) (.v 2)) .int) (.cons (.call B (ok_step_of fx) (by decide) (by rfl) fx.m_step_of fx.f_step_of.kp fx.b_step_of (.cons (.v 0) (.cons (.v 2) .nil))) .nil))))
  (.one (.expr (.meth PySem.F.plainAttrs_list PySem.F.slot_list_append PySem.F.type_list_append zAppend_ok isL_ok (.v 1) (.cons (.op2 zAdd_ok (.v 3) (.op2 zMul_ok (.op2 zDiv_ok (.op2 zSub_ok (.op2 zAdd_ok (.op2 zSub_ok (.v 4) (.v 3)) (.v 5)) .int) (.v 5)) (.v 5))) .nil))))))
  (.one (.ret (.callTy zTuple_ok (by rfl) fx.n_tuple (by rfl) (.cons (.v 1) .nil)))))))
theorem sc__law_is_least : FnScope N__law_is_least ["skeleton", "more"] (defScope s__law_is_least) := ⟨rfl, rfl, rfl, by decide +kernel, rfl, by decide +kernel, by decide +kernel⟩
theorem ok__law_is_least (fx : FX K mg) : FnG P w K mg base 5 fx.a__law_is_least fx.d__law_is_least ["skeleton", "more"] (spZ K mg F__law_is_least 2) :=
  zfn fx.f__law_is_least sc__law_is_least fun cdv A outer s H E B => ((.cons (.par2 B.zx 2 3 (.cons (.callB (zShow_ok B.zx) (by rfl) fx.n_repr (by rfl) (.cons (.v 0) .nil)) (.cons (.call B (ok_mended fx) (by decide) (by rfl) fx.m_mended fx.f_mended.kp fx.b_mended (.cons (.v 0) .nil)) .nil)))
  (.cons (.set B.zx.nd 4 (ZE.comp (own := [("sizes", 6)]) fin_f B.zx (.seq (.call B (ok__law_all_sizes fx) (by decide) (by rfl) fx.m__law_all_sizes fx.f__law_all_sizes.kp fx.b__law_all_sizes (.cons (.v 0) (.cons (.v 1) .nil)))) (blkOk_by (by rfl)) (by decide) (fun s1 h1 _ _ p1 => (.name (B.blk s1 h1 _ _ p1).zx.nd 6)) (fun s1 h1 _ _ p1 => (.one (.cmp (zEq_ok (B.blk s1 h1 _ _ p1).zx) (.call (B.blk s1 h1 _ _ p1) (ok__law_threes fx) (by decide) (by rfl) fx.m__law_threes fx.f__law_threes.kp fx.b__law_threes (.cons (.call (B.blk s1 h1 _ _ p1) (ok__law_sized fx) (by decide) (by rfl) fx.m__law_sized fx.f__law_sized.kp fx.b__law_sized (.cons (.v 0) (.cons (.v 6) .nil))) .nil)) (.lstF .nil)))) (fun s1 h1 _ _ p1 => (.v 6))))
  (.cons (.set B.zx.nd 5 (.callTy zTuple_ok (by rfl) fx.n_tuple (by rfl) (.cons (ZE.comp (own := [("spot", 7)]) fin_f B.zx (.range1 (by rfl) fx.n_range (.callB zLen_ok (by rfl) fx.n_len (by rfl) (.cons (.call B (ok__law_jumps fx) (by decide) (by rfl) fx.m__law_jumps fx.f__law_jumps.kp fx.b__law_jumps (.cons (.v 0) .nil)) .nil))) (blkOk_by (by rfl)) (by decide) (fun s2 h2 _ _ p2 => (.name (B.blk s2 h2 _ _ p2).zx.nd 7)) (fun s2 h2 _ _ p2 => .nil) (fun s2 h2 _ _ p2 => (.callB (zMin_ok (B.blk s2 h2 _ _ p2).zx) (by rfl) fx.n_min (by rfl) (.cons (ZE.comp (own := [("sizes", 6)]) fin_f (B.blk s2 h2 _ _ p2).zx (.seq (.v 4)) (blkOk_by (by rfl)) (by decide) (fun s3 h3 _ _ p3 => (.name ((B.blk s2 h2 _ _ p2).blk s3 h3 _ _ p3).zx.nd 6)) (fun s3 h3 _ _ p3 => .nil) (fun s3 h3 _ _ p3 => (.ix (.v 6) (.v 7)))) .nil)))) .nil)))
  (.cons (.ife (.w (.or (.cmp (zNotIn_ok B.zx) (.v 5) (.v 4)) (.or (.cmp (zNe_ok B.zx) (.callB (zShow_ok B.zx) (by rfl) fx.n_repr (by rfl) (.cons (.v 3) .nil)) (.callB (zShow_ok B.zx) (by rfl) fx.n_repr (by rfl) (.cons (.v 5) .nil))) (.or1 (.cmp (zNe_ok B.zx) (.callB (zShow_ok B.zx) (by rfl) fx.n_repr (by rfl) (.cons (.callK B (ok_mended fx) (by decide) (by rfl) fx.m_mended fx.f_mended.kp [0] fx.k_mended_skeleton (.cons (.v 0) .nil) perm_mended_skeleton) .nil)) (.callB (zShow_ok B.zx) (by rfl) fx.n_repr (by rfl) (.cons (.v 5) .nil)))))))
  (.one (.ret .bl))
  .nil)
  (.one (.ret (.and (.cmp (zEq_ok B.zx) (.callB (zShow_ok B.zx) (by rfl) fx.n_repr (by rfl) (.cons (.call B (ok_triples fx) (by decide) (by rfl) fx.m_triples fx.f_triples.kp fx.b_triples (.cons (.call B (ok__law_sized fx) (by decide) (by rfl) fx.m__law_sized fx.f__law_sized.kp fx.b__law_sized (.cons (.v 0) (.cons (.v 3) .nil))) .nil)) .nil)) (.callB (zShow_ok B.zx) (by rfl) fx.n_repr (by rfl) (.cons (.tup .nil) .nil))) (.one (.cmp (zEq_ok B.zx) (.callB (zShow_ok B.zx) (by rfl) fx.n_repr (by rfl) (.cons (.v 0) .nil)) (.v 2)))))))))))
theorem sc_law : FnScope N_law ["script"] (defScope s_law) := ⟨rfl, rfl, rfl, by decide +kernel, rfl, by decide +kernel, by decide +kernel⟩
theorem ok_law (fx : FX K mg) : FnG P w K mg base 6 fx.a_law fx.d_law ["script"] (spZ K mg F_law 1) :=
  zfn fx.f_law sc_law fun cdv A outer s H E B => ((.cons (.set B.zx.nd 1 (.call B (ok__law_stock fx) (by decide) (by rfl) fx.m__law_stock fx.f__law_stock.kp fx.b__law_stock (.cons (.v 0) .nil)))
  (.cons (.ife (.w (.or (.not (.val (.call B (ok__law_is_least fx) (by decide) (by rfl) fx.m__law_is_least fx.f__law_is_least.kp fx.b__law_is_least (.cons (.call B (ok__law_small fx) (by decide) (by rfl) fx.m__law_small fx.f__law_small.kp fx.b__law_small (.cons (.v 1) (.cons .int (.cons (.lstF (.cons .int (.cons .int .nil))) .nil)))) (.cons .int .nil))))) (.or1 (.not (.val (.call B (ok__law_is_least fx) (by decide) (by rfl) fx.m__law_is_least fx.f__law_is_least.kp fx.b__law_is_least (.cons (.call B (ok__law_small fx) (by decide) (by rfl) fx.m__law_small fx.f__law_small.kp fx.b__law_small (.cons (.v 1) (.cons .int (.cons (.lstF (.cons .int (.cons .int (.cons .int .nil)))) .nil)))) (.cons .int .nil))))))))
  (.one (.ret .bl))
  .nil)
  (.cons (.set B.zx.nd 2 (.call B (ok__law_pick fx) (by decide) (by rfl) fx.m__law_pick fx.f__law_pick.kp fx.b__law_pick (.cons (.v 1) (.cons (.lstF (.cons .int (.cons .int .nil))) .nil))))
  (.cons (.set B.zx.nd 3 (.tup (.cons .str (.cons .int (.cons .int (.cons (.op2 zAdd_ok .int (.call B (ok__law_pick fx) (by decide) (by rfl) fx.m__law_pick fx.f__law_pick.kp fx.b__law_pick (.cons (.v 1) (.cons (.lstF (.cons .int (.cons .int (.cons .int (.cons (.v 2) .nil))))) .nil)))) .nil))))))
  (.cons (.set B.zx.nd 4 (.call B (ok__law_pick fx) (by decide) (by rfl) fx.m__law_pick fx.f__law_pick.kp fx.b__law_pick (.cons (.v 1) (.cons (.lstF (.cons (.tup .nil) (.cons (.tup (.cons (.tup (.cons .str (.cons .int .nil))) .nil)) (.cons (.tup (.cons (.tup (.cons .str (.cons .int .nil))) .nil)) .nil)))) .nil))))
  (.cons (.set B.zx.nd 5 (.op2 zAdd_ok .int (.callB zLen_ok (by rfl) fx.n_len (by rfl) (.cons (.v 4) .nil))))
  (.one (.ret (.call B (ok__law_is_least fx) (by decide) (by rfl) fx.m__law_is_least fx.f__law_is_least.kp fx.b__law_is_least (.cons (.op2 zAdd_ok (.op2 zAdd_ok (.tup (.cons (.v 3) (.cons (.tup (.cons .str .nil)) .nil))) (.v 4)) (.tup (.cons (.tup (.cons .str (.cons (.v 5) (.cons .int (.cons .int .nil))))) (.cons (.tup (.cons .str (.cons (.v 2) .nil))) (.cons (.tup (.cons .str .nil)) .nil))))) (.cons .int .nil))))))))))))
end
theorem all_mk {P : Program} {w : World} {K : PySem.W.Frag} {h : Heap} {mg : Str → Option Value} {fa : Addr} (X : K.In h) (G : h.Ns mainGlobals mg) (hfa : mg "law" = some (.ref fa))
    (z_any : PySem.W.nsIn K mainGlobals "any" = some none)
    (z_enumerate : PySem.W.nsIn K mainGlobals "enumerate" = some none)
    (z_int : PySem.W.nsIn K mainGlobals "int" = some none)
    (z_len : PySem.W.nsIn K mainGlobals "len" = some none)
    (z_list : PySem.W.nsIn K mainGlobals "list" = some none)
    (z_max : PySem.W.nsIn K mainGlobals "max" = some none)
    (z_min : PySem.W.nsIn K mainGlobals "min" = some none)
    (z_range : PySem.W.nsIn K mainGlobals "range" = some none)
    (z_repr : PySem.W.nsIn K mainGlobals "repr" = some none)
    (z_sorted : PySem.W.nsIn K mainGlobals "sorted" = some none)
    (z_sum : PySem.W.nsIn K mainGlobals "sum" = some none)
    (z_tuple : PySem.W.nsIn K mainGlobals "tuple" = some none)
    {f0 : Addr} {od0 an0 : Option Addr} {sl0 : Array (Option Value)} {oc0 kV0 dc0 pm0 cd0 ct0 : Value} (a0 : PySem.W.nsIn K mainGlobals "jumps_of" = some (some (.ref f0)))
    (l0 : K.lookup f0 = some ⟨oc0, od0, .func (PySem.W.fnOf "jumps_of" "jumps_of" (defArgs s_jumps_of) (defBody s_jumps_of) (defScope s_jumps_of) .none kV0 dc0 pm0 an0 cd0 ct0), sl0⟩) (c0 : PySem.W.codeIn K cd0 "jumps_of" = true) (k0 : PySem.W.keepIn K (.ref f0) = true)
    {f1 : Addr} {od1 an1 : Option Addr} {sl1 : Array (Option Value)} {oc1 kV1 dc1 pm1 cd1 ct1 : Value} (a1 : PySem.W.nsIn K mainGlobals "in_way" = some (some (.ref f1)))
    (l1 : K.lookup f1 = some ⟨oc1, od1, .func (PySem.W.fnOf "in_way" "in_way" (defArgs s_in_way) (defBody s_in_way) (defScope s_in_way) .none kV1 dc1 pm1 an1 cd1 ct1), sl1⟩) (c1 : PySem.W.codeIn K cd1 "in_way" = true) (k1 : PySem.W.keepIn K (.ref f1) = true)
    {f2 : Addr} {od2 an2 : Option Addr} {sl2 : Array (Option Value)} {oc2 kV2 dc2 pm2 cd2 ct2 : Value} (a2 : PySem.W.nsIn K mainGlobals "ahead_of_way" = some (some (.ref f2)))
    (l2 : K.lookup f2 = some ⟨oc2, od2, .func (PySem.W.fnOf "ahead_of_way" "ahead_of_way" (defArgs s_ahead_of_way) (defBody s_ahead_of_way) (defScope s_ahead_of_way) .none kV2 dc2 pm2 an2 cd2 ct2), sl2⟩) (c2 : PySem.W.codeIn K cd2 "ahead_of_way" = true) (k2 : PySem.W.keepIn K (.ref f2) = true)
    {f3 : Addr} {od3 an3 : Option Addr} {sl3 : Array (Option Value)} {oc3 kV3 dc3 pm3 cd3 ct3 : Value} (a3 : PySem.W.nsIn K mainGlobals "greatest_of" = some (some (.ref f3)))
    (l3 : K.lookup f3 = some ⟨oc3, od3, .func (PySem.W.fnOf "greatest_of" "greatest_of" (defArgs s_greatest_of) (defBody s_greatest_of) (defScope s_greatest_of) .none kV3 dc3 pm3 an3 cd3 ct3), sl3⟩) (c3 : PySem.W.codeIn K cd3 "greatest_of" = true) (k3 : PySem.W.keepIn K (.ref f3) = true)
    {f4 : Addr} {od4 an4 : Option Addr} {sl4 : Array (Option Value)} {oc4 kV4 dc4 pm4 cd4 ct4 : Value} (a4 : PySem.W.nsIn K mainGlobals "fills_between" = some (some (.ref f4)))
    (l4 : K.lookup f4 = some ⟨oc4, od4, .func (PySem.W.fnOf "fills_between" "fills_between" (defArgs s_fills_between) (defBody s_fills_between) (defScope s_fills_between) .none kV4 dc4 pm4 an4 cd4 ct4), sl4⟩) (c4 : PySem.W.codeIn K cd4 "fills_between" = true) (k4 : PySem.W.keepIn K (.ref f4) = true)
    {f5 : Addr} {od5 an5 : Option Addr} {sl5 : Array (Option Value)} {oc5 kV5 dc5 pm5 cd5 ct5 : Value} (a5 : PySem.W.nsIn K mainGlobals "growth" = some (some (.ref f5)))
    (l5 : K.lookup f5 = some ⟨oc5, od5, .func (PySem.W.fnOf "growth" "growth" (defArgs s_growth) (defBody s_growth) (defScope s_growth) .none kV5 dc5 pm5 an5 cd5 ct5), sl5⟩) (c5 : PySem.W.codeIn K cd5 "growth" = true) (k5 : PySem.W.keepIn K (.ref f5) = true)
    {f6 : Addr} {od6 an6 : Option Addr} {sl6 : Array (Option Value)} {oc6 kV6 dc6 pm6 cd6 ct6 : Value} (a6 : PySem.W.nsIn K mainGlobals "is_kept_away" = some (some (.ref f6)))
    (l6 : K.lookup f6 = some ⟨oc6, od6, .func (PySem.W.fnOf "is_kept_away" "is_kept_away" (defArgs s_is_kept_away) (defBody s_is_kept_away) (defScope s_is_kept_away) .none kV6 dc6 pm6 an6 cd6 ct6), sl6⟩) (c6 : PySem.W.codeIn K cd6 "is_kept_away" = true) (k6 : PySem.W.keepIn K (.ref f6) = true)
    {f7 : Addr} {od7 an7 : Option Addr} {sl7 : Array (Option Value)} {oc7 kV7 dc7 pm7 cd7 ct7 : Value} (a7 : PySem.W.nsIn K mainGlobals "_law_stock" = some (some (.ref f7)))
    (l7 : K.lookup f7 = some ⟨oc7, od7, .func (PySem.W.fnOf "_law_stock" "_law_stock" (defArgs s__law_stock) (defBody s__law_stock) (defScope s__law_stock) .none kV7 dc7 pm7 an7 cd7 ct7), sl7⟩) (c7 : PySem.W.codeIn K cd7 "_law_stock" = true) (k7 : PySem.W.keepIn K (.ref f7) = true)
    {f8 : Addr} {od8 an8 : Option Addr} {sl8 : Array (Option Value)} {oc8 kV8 dc8 pm8 cd8 ct8 : Value} (a8 : PySem.W.nsIn K mainGlobals "_law_draw" = some (some (.ref f8)))
    (l8 : K.lookup f8 = some ⟨oc8, od8, .func (PySem.W.fnOf "_law_draw" "_law_draw" (defArgs s__law_draw) (defBody s__law_draw) (defScope s__law_draw) .none kV8 dc8 pm8 an8 cd8 ct8), sl8⟩) (c8 : PySem.W.codeIn K cd8 "_law_draw" = true) (k8 : PySem.W.keepIn K (.ref f8) = true)
    {f9 : Addr} {od9 an9 : Option Addr} {sl9 : Array (Option Value)} {oc9 kV9 dc9 pm9 cd9 ct9 : Value} (a9 : PySem.W.nsIn K mainGlobals "_law_jumps" = some (some (.ref f9)))
    (l9 : K.lookup f9 = some ⟨oc9, od9, .func (PySem.W.fnOf "_law_jumps" "_law_jumps" (defArgs s__law_jumps) (defBody s__law_jumps) (defScope s__law_jumps) .none kV9 dc9 pm9 an9 cd9 ct9), sl9⟩) (c9 : PySem.W.codeIn K cd9 "_law_jumps" = true) (k9 : PySem.W.keepIn K (.ref f9) = true)
    {f10 : Addr} {od10 an10 : Option Addr} {sl10 : Array (Option Value)} {oc10 kV10 dc10 pm10 cd10 ct10 : Value} (a10 : PySem.W.nsIn K mainGlobals "_law_sized" = some (some (.ref f10)))
    (l10 : K.lookup f10 = some ⟨oc10, od10, .func (PySem.W.fnOf "_law_sized" "_law_sized" (defArgs s__law_sized) (defBody s__law_sized) (defScope s__law_sized) .none kV10 dc10 pm10 an10 cd10 ct10), sl10⟩) (c10 : PySem.W.codeIn K cd10 "_law_sized" = true) (k10 : PySem.W.keepIn K (.ref f10) = true)
    {f11 : Addr} {od11 an11 : Option Addr} {sl11 : Array (Option Value)} {oc11 kV11 dc11 pm11 cd11 ct11 : Value} (a11 : PySem.W.nsIn K mainGlobals "fills_met" = some (some (.ref f11)))
    (l11 : K.lookup f11 = some ⟨oc11, od11, .func (PySem.W.fnOf "fills_met" "fills_met" (defArgs s_fills_met) (defBody s_fills_met) (defScope s_fills_met) .none kV11 dc11 pm11 an11 cd11 ct11), sl11⟩) (c11 : PySem.W.codeIn K cd11 "fills_met" = true) (k11 : PySem.W.keepIn K (.ref f11) = true)
    {f12 : Addr} {od12 an12 : Option Addr} {sl12 : Array (Option Value)} {oc12 kV12 dc12 pm12 cd12 ct12 : Value} (a12 : PySem.W.nsIn K mainGlobals "is_triple" = some (some (.ref f12)))
    (l12 : K.lookup f12 = some ⟨oc12, od12, .func (PySem.W.fnOf "is_triple" "is_triple" (defArgs s_is_triple) (defBody s_is_triple) (defScope s_is_triple) .none kV12 dc12 pm12 an12 cd12 ct12), sl12⟩) (c12 : PySem.W.codeIn K cd12 "is_triple" = true) (k12 : PySem.W.keepIn K (.ref f12) = true)
    {f13 : Addr} {od13 an13 : Option Addr} {sl13 : Array (Option Value)} {oc13 kV13 dc13 pm13 cd13 ct13 : Value} (a13 : PySem.W.nsIn K mainGlobals "_law_pick" = some (some (.ref f13)))
    (l13 : K.lookup f13 = some ⟨oc13, od13, .func (PySem.W.fnOf "_law_pick" "_law_pick" (defArgs s__law_pick) (defBody s__law_pick) (defScope s__law_pick) .none kV13 dc13 pm13 an13 cd13 ct13), sl13⟩) (c13 : PySem.W.codeIn K cd13 "_law_pick" = true) (k13 : PySem.W.keepIn K (.ref f13) = true)
    {f14 : Addr} {od14 an14 : Option Addr} {sl14 : Array (Option Value)} {oc14 kV14 dc14 pm14 cd14 ct14 : Value} (a14 : PySem.W.nsIn K mainGlobals "_law_threes" = some (some (.ref f14)))
    (l14 : K.lookup f14 = some ⟨oc14, od14, .func (PySem.W.fnOf "_law_threes" "_law_threes" (defArgs s__law_threes) (defBody s__law_threes) (defScope s__law_threes) .none kV14 dc14 pm14 an14 cd14 ct14), sl14⟩) (c14 : PySem.W.codeIn K cd14 "_law_threes" = true) (k14 : PySem.W.keepIn K (.ref f14) = true)
    {f15 : Addr} {od15 an15 : Option Addr} {sl15 : Array (Option Value)} {oc15 kV15 dc15 pm15 cd15 ct15 : Value} (a15 : PySem.W.nsIn K mainGlobals "_law_all_sizes" = some (some (.ref f15)))
    (l15 : K.lookup f15 = some ⟨oc15, od15, .func (PySem.W.fnOf "_law_all_sizes" "_law_all_sizes" (defArgs s__law_all_sizes) (defBody s__law_all_sizes) (defScope s__law_all_sizes) .none kV15 dc15 pm15 an15 cd15 ct15), sl15⟩) (c15 : PySem.W.codeIn K cd15 "_law_all_sizes" = true) (k15 : PySem.W.keepIn K (.ref f15) = true)
    {f16 : Addr} {od16 an16 : Option Addr} {sl16 : Array (Option Value)} {oc16 kV16 dc16 pm16 cd16 ct16 : Value} (a16 : PySem.W.nsIn K mainGlobals "step_of" = some (some (.ref f16)))
    (l16 : K.lookup f16 = some ⟨oc16, od16, .func (PySem.W.fnOf "step_of" "step_of" (defArgs s_step_of) (defBody s_step_of) (defScope s_step_of) .none kV16 dc16 pm16 an16 cd16 ct16), sl16⟩) (c16 : PySem.W.codeIn K cd16 "step_of" = true) (k16 : PySem.W.keepIn K (.ref f16) = true)
    {f17 : Addr} {od17 an17 : Option Addr} {sl17 : Array (Option Value)} {oc17 kV17 dc17 pm17 cd17 ct17 : Value} (a17 : PySem.W.nsIn K mainGlobals "triples" = some (some (.ref f17)))
    (l17 : K.lookup f17 = some ⟨oc17, od17, .func (PySem.W.fnOf "triples" "triples" (defArgs s_triples) (defBody s_triples) (defScope s_triples) .none kV17 dc17 pm17 an17 cd17 ct17), sl17⟩) (c17 : PySem.W.codeIn K cd17 "triples" = true) (k17 : PySem.W.keepIn K (.ref f17) = true)
    {f18 : Addr} {od18 an18 : Option Addr} {sl18 : Array (Option Value)} {oc18 kV18 dc18 pm18 cd18 ct18 : Value} (a18 : PySem.W.nsIn K mainGlobals "_law_small" = some (some (.ref f18)))
    (l18 : K.lookup f18 = some ⟨oc18, od18, .func (PySem.W.fnOf "_law_small" "_law_small" (defArgs s__law_small) (defBody s__law_small) (defScope s__law_small) .none kV18 dc18 pm18 an18 cd18 ct18), sl18⟩) (c18 : PySem.W.codeIn K cd18 "_law_small" = true) (k18 : PySem.W.keepIn K (.ref f18) = true)
    {f19 : Addr} {od19 an19 : Option Addr} {sl19 : Array (Option Value)} {oc19 kV19 dc19 pm19 cd19 ct19 : Value} (a19 : PySem.W.nsIn K mainGlobals "mended" = some (some (.ref f19)))
    (l19 : K.lookup f19 = some ⟨oc19, od19, .func (PySem.W.fnOf "mended" "mended" (defArgs s_mended) (defBody s_mended) (defScope s_mended) .none kV19 dc19 pm19 an19 cd19 ct19), sl19⟩) (c19 : PySem.W.codeIn K cd19 "mended" = true) (k19 : PySem.W.keepIn K (.ref f19) = true)
    {f20 : Addr} {od20 an20 : Option Addr} {sl20 : Array (Option Value)} {oc20 kV20 dc20 pm20 cd20 ct20 : Value} (a20 : PySem.W.nsIn K mainGlobals "_law_is_least" = some (some (.ref f20)))
    (l20 : K.lookup f20 = some ⟨oc20, od20, .func (PySem.W.fnOf "_law_is_least" "_law_is_least" (defArgs s__law_is_least) (defBody s__law_is_least) (defScope s__law_is_least) .none kV20 dc20 pm20 an20 cd20 ct20), sl20⟩) (c20 : PySem.W.codeIn K cd20 "_law_is_least" = true) (k20 : PySem.W.keepIn K (.ref f20) = true)
    {f21 : Addr} {od21 an21 : Option Addr} {sl21 : Array (Option Value)} {oc21 kV21 dc21 pm21 cd21 ct21 : Value} (a21 : PySem.W.nsIn K mainGlobals "law" = some (some (.ref f21)))
    (l21 : K.lookup f21 = some ⟨oc21, od21, .func (PySem.W.fnOf "law" "law" (defArgs s_law) (defBody s_law) (defScope s_law) .none kV21 dc21 pm21 an21 cd21 ct21), sl21⟩) (c21 : PySem.W.codeIn K cd21 "law" = true) (k21 : PySem.W.keepIn K (.ref f21) = true)
    : ∃ fd : FuncData, (∀ (s : Shared) (u : Value), BindsTo s fd ⟨[u], []⟩ [("script", u)]) ∧ ∀ base : Heap, K.In base → base.Ns mainGlobals mg → FnG P w K mg base 6 fa fd ["script"] (spZ K mg F_law 1) := by
  have e := hfa.symm.trans (PySem.W.mg_of X G a21)
  cases e
  let fx : FX K mg :=
    { n_any := PySem.W.mg_none_of X G z_any,
      n_enumerate := PySem.W.mg_none_of X G z_enumerate,
      n_int := PySem.W.mg_none_of X G z_int,
      n_len := PySem.W.mg_none_of X G z_len,
      n_list := PySem.W.mg_none_of X G z_list,
      n_max := PySem.W.mg_none_of X G z_max,
      n_min := PySem.W.mg_none_of X G z_min,
      n_range := PySem.W.mg_none_of X G z_range,
      n_repr := PySem.W.mg_none_of X G z_repr,
      n_sorted := PySem.W.mg_none_of X G z_sorted,
      n_sum := PySem.W.mg_none_of X G z_sum,
      n_tuple := PySem.W.mg_none_of X G z_tuple,
      a_jumps_of := f0, d_jumps_of := _, f_jumps_of := fun_mk (st := s_jumps_of) l0 c0 k0, m_jumps_of := PySem.W.mg_of X G a0,
      b_jumps_of := (fun_mk (st := s_jumps_of) l0 c0 k0).binds (ps := ["skeleton"]) (fun _ _ _ _ _ _ us hl => match us, hl with | [_], _ => rfl),
      a_in_way := f1, d_in_way := _, f_in_way := fun_mk (st := s_in_way) l1 c1 k1, m_in_way := PySem.W.mg_of X G a1,
      b_in_way := (fun_mk (st := s_in_way) l1 c1 k1).binds (ps := ["skeleton", "jump"]) (fun _ _ _ _ _ _ us hl => match us, hl with | [_, _], _ => rfl),
      a_ahead_of_way := f2, d_ahead_of_way := _, f_ahead_of_way := fun_mk (st := s_ahead_of_way) l2 c2 k2, m_ahead_of_way := PySem.W.mg_of X G a2,
      b_ahead_of_way := (fun_mk (st := s_ahead_of_way) l2 c2 k2).binds (ps := ["skeleton", "jump"]) (fun _ _ _ _ _ _ us hl => match us, hl with | [_, _], _ => rfl),
      a_greatest_of := f3, d_greatest_of := _, f_greatest_of := fun_mk (st := s_greatest_of) l3 c3 k3, m_greatest_of := PySem.W.mg_of X G a3,
      b_greatest_of := (fun_mk (st := s_greatest_of) l3 c3 k3).binds (ps := ["sizes"]) (fun _ _ _ _ _ _ us hl => match us, hl with | [_], _ => rfl),
      a_fills_between := f4, d_fills_between := _, f_fills_between := fun_mk (st := s_fills_between) l4 c4 k4, m_fills_between := PySem.W.mg_of X G a4,
      b_fills_between := (fun_mk (st := s_fills_between) l4 c4 k4).binds (ps := ["skeleton", "first", "last"]) (fun _ _ _ _ _ _ us hl => match us, hl with | [_, _, _], _ => rfl),
      a_growth := f5, d_growth := _, f_growth := fun_mk (st := s_growth) l5 c5 k5, m_growth := PySem.W.mg_of X G a5,
      b_growth := (fun_mk (st := s_growth) l5 c5 k5).binds (ps := ["item"]) (fun _ _ _ _ _ _ us hl => match us, hl with | [_], _ => rfl),
      a_is_kept_away := f6, d_is_kept_away := _, f_is_kept_away := fun_mk (st := s_is_kept_away) l6 c6 k6, m_is_kept_away := PySem.W.mg_of X G a6,
      b_is_kept_away := (fun_mk (st := s_is_kept_away) l6 c6 k6).binds (ps := ["skeleton", "other", "fill"]) (fun _ _ _ _ _ _ us hl => match us, hl with | [_, _, _], _ => rfl),
      a__law_stock := f7, d__law_stock := _, f__law_stock := fun_mk (st := s__law_stock) l7 c7 k7, m__law_stock := PySem.W.mg_of X G a7,
      b__law_stock := (fun_mk (st := s__law_stock) l7 c7 k7).binds (ps := ["script"]) (fun _ _ _ _ _ _ us hl => match us, hl with | [_], _ => rfl),
      a__law_draw := f8, d__law_draw := _, f__law_draw := fun_mk (st := s__law_draw) l8 c8 k8, m__law_draw := PySem.W.mg_of X G a8,
      b__law_draw := (fun_mk (st := s__law_draw) l8 c8 k8).binds (ps := ["stock", "size"]) (fun _ _ _ _ _ _ us hl => match us, hl with | [_, _], _ => rfl),
      a__law_jumps := f9, d__law_jumps := _, f__law_jumps := fun_mk (st := s__law_jumps) l9 c9 k9, m__law_jumps := PySem.W.mg_of X G a9,
      b__law_jumps := (fun_mk (st := s__law_jumps) l9 c9 k9).binds (ps := ["skeleton"]) (fun _ _ _ _ _ _ us hl => match us, hl with | [_], _ => rfl),
      a__law_sized := f10, d__law_sized := _, f__law_sized := fun_mk (st := s__law_sized) l10 c10 k10, m__law_sized := PySem.W.mg_of X G a10,
      b__law_sized := (fun_mk (st := s__law_sized) l10 c10 k10).binds (ps := ["skeleton", "sizes"]) (fun _ _ _ _ _ _ us hl => match us, hl with | [_, _], _ => rfl),
      a_fills_met := f11, d_fills_met := _, f_fills_met := fun_mk (st := s_fills_met) l11 c11 k11, m_fills_met := PySem.W.mg_of X G a11,
      b_fills_met := (fun_mk (st := s_fills_met) l11 c11 k11).binds (ps := ["skeleton", "other", "jump"]) (fun _ _ _ _ _ _ us hl => match us, hl with | [_, _, _], _ => rfl),
      a_is_triple := f12, d_is_triple := _, f_is_triple := fun_mk (st := s_is_triple) l12 c12 k12, m_is_triple := PySem.W.mg_of X G a12,
      b_is_triple := (fun_mk (st := s_is_triple) l12 c12 k12).binds (ps := ["skeleton", "fill", "other"]) (fun _ _ _ _ _ _ us hl => match us, hl with | [_, _, _], _ => rfl),
      a__law_pick := f13, d__law_pick := _, f__law_pick := fun_mk (st := s__law_pick) l13 c13 k13, m__law_pick := PySem.W.mg_of X G a13,
      b__law_pick := (fun_mk (st := s__law_pick) l13 c13 k13).binds (ps := ["stock", "row"]) (fun _ _ _ _ _ _ us hl => match us, hl with | [_, _], _ => rfl),
      a__law_threes := f14, d__law_threes := _, f__law_threes := fun_mk (st := s__law_threes) l14 c14 k14, m__law_threes := PySem.W.mg_of X G a14,
      b__law_threes := (fun_mk (st := s__law_threes) l14 c14 k14).binds (ps := ["skeleton"]) (fun _ _ _ _ _ _ us hl => match us, hl with | [_], _ => rfl),
      a__law_all_sizes := f15, d__law_all_sizes := _, f__law_all_sizes := fun_mk (st := s__law_all_sizes) l15 c15 k15, m__law_all_sizes := PySem.W.mg_of X G a15,
      b__law_all_sizes := (fun_mk (st := s__law_all_sizes) l15 c15 k15).binds (ps := ["skeleton", "more"]) (fun _ _ _ _ _ _ us hl => match us, hl with | [_, _], _ => rfl),
      a_step_of := f16, d_step_of := _, f_step_of := fun_mk (st := s_step_of) l16 c16 k16, m_step_of := PySem.W.mg_of X G a16,
      b_step_of := (fun_mk (st := s_step_of) l16 c16 k16).binds (ps := ["skeleton", "other"]) (fun _ _ _ _ _ _ us hl => match us, hl with | [_, _], _ => rfl),
      a_triples := f17, d_triples := _, f_triples := fun_mk (st := s_triples) l17 c17 k17, m_triples := PySem.W.mg_of X G a17,
      b_triples := (fun_mk (st := s_triples) l17 c17 k17).binds (ps := ["skeleton"]) (fun _ _ _ _ _ _ us hl => match us, hl with | [_], _ => rfl),
      a__law_small := f18, d__law_small := _, f__law_small := fun_mk (st := s__law_small) l18 c18 k18, m__law_small := PySem.W.mg_of X G a18,
      b__law_small := (fun_mk (st := s__law_small) l18 c18 k18).binds (ps := ["stock", "jumps", "fills"]) (fun _ _ _ _ _ _ us hl => match us, hl with | [_, _, _], _ => rfl),
      a_mended := f19, d_mended := _, f_mended := fun_mk (st := s_mended) l19 c19 k19, m_mended := PySem.W.mg_of X G a19,
      b_mended := (fun_mk (st := s_mended) l19 c19 k19).binds (ps := ["skeleton"]) (fun _ _ _ _ _ _ us hl => match us, hl with | [_], _ => rfl),
      k_mended_skeleton := (fun s us hl => match us, hl with | [_], _ => .of_eq rfl),
      a__law_is_least := f20, d__law_is_least := _, f__law_is_least := fun_mk (st := s__law_is_least) l20 c20 k20, m__law_is_least := PySem.W.mg_of X G a20,
      b__law_is_least := (fun_mk (st := s__law_is_least) l20 c20 k20).binds (ps := ["skeleton", "more"]) (fun _ _ _ _ _ _ us hl => match us, hl with | [_, _], _ => rfl),
      a_law := fa, d_law := _, f_law := fun_mk (st := s_law) l21 c21 k21, m_law := PySem.W.mg_of X G a21,
      b_law := (fun_mk (st := s_law) l21 c21 k21).binds (ps := ["script"]) (fun _ _ _ _ _ _ us hl => match us, hl with | [_], _ => rfl) }
  exact ⟨fx.d_law, fun s u => .of_eq rfl, fun base _ _ => ok_law fx⟩
end
end ZL

namespace ZL
open PySem PySem.Spec PyProof.Rows L2 Z
theorem e_jumps_of {xs : List Itm} (h : xs.length ≤ 1000) (M : Store) : F_jumps_of [.p (sk xs)] M = .ok (.p (.tuple (pnats (places Itm.isJ xs)))) M := by
  apply fn_rt0
  simp [c_jumps_of, wipeS]
  rw [compP_map (M := M) _ (fun q => q.1.isJ) (fun q => .p (.int (q.2 : Nat)))]
  · have hz := small (Nat.le_trans (zlen_places Itm.isJ xs) h)
    simp [hz, pnats, places]
  · intro q _
    simp
theorem e_in_way {xs : List Itm} {j g : Nat} {s l : Int} (hx : xs[j]? = some (.jmp g s l)) (h : xs.length ≤ 1000) (hg : g ≤ 1000) (M : Store) :
    F_in_way [.p (sk xs), .p (.int (j : Int))] M = .ok (.p (.tuple (rgP (min (j : Int) g + 1) (max (j : Int) g)))) M := by
  apply fn_rt0
  have hj := (List.getElem?_eq_some_iff.mp hx).1
  have hr : rgIn (min (j : Int) g + 1) (max (j : Int) g) = true := by
    unfold rgIn; simp only [Bool.and_eq_true, decide_eq_true_eq]; omega
  simp [c_in_way, ix_sk M hx, Itm.enc, hr]
theorem e_ahead {xs : List Itm} {j g : Nat} {s l : Int} (hx : xs[j]? = some (.jmp g s l)) (h : xs.length ≤ 1000) (hg : g ≤ 1000) (M : Store) :
    F_ahead_of_way [.p (sk xs), .p (.int (j : Int))] M = .ok (.p (.tuple (rgP 0 (min (j : Int) g)))) M := by
  apply fn_rt0
  have hj := (List.getElem?_eq_some_iff.mp hx).1
  have hr : rgIn 0 (min (j : Int) g) = true := by
    unfold rgIn; simp only [Bool.and_eq_true, decide_eq_true_eq]; omega
  simp [c_ahead_of_way, ix_sk M hx, Itm.enc, hr]
theorem e_greatest (ns : List Int) (h : ns.length ≤ 1000) (M : Store) : F_greatest_of [.p (.list (pints ns))] M = .ok (.p (.int (ns.foldl max 0))) M := by
  apply fn_rt0
  have hz : ns.length + 1 ≤ 16777216 := by omega
  simp [c_greatest_of, pints, mkLstF, zMax, hz]
theorem e_between {xs : List Itm} (h : xs.length ≤ 1000) (a b : Nat) (M : Store) :
    F_fills_between [.p (sk xs), .p (.int (a : Int)), .p (.int (b : Int))] M = .ok (.p (.list (pints (fillsOf ((xs.take b).drop (a + 1)))))) M := by
  apply fn_rt0
  obtain ⟨a1, ha⟩ : ∃ a1, a1 = a + 1 := ⟨_, rfl⟩
  have ea : ((a : Int) + 1) = (a1 : Int) := by omega
  rw [← ha]
  simp [c_fills_between, wipeS, ea, cutG_nn, -List.map_drop, -List.map_take]
  rw [compP_map (M := M) (fun x => D.p x.enc) Itm.isF (fun x => .p (.int x.sz))]
  · have hz := small (Nat.le_trans (Nat.le_trans (len_fills ((xs.take b).drop a1)) (by simp; omega)) h)
    simp only [fillsOf, List.length_map] at hz
    simp [hz, pints, fillsOf]
  · intro x _
    simp
    intro hx
    rw [ix_sz M hx]
def mo (xs : List Itm) (o p : Nat) : Int := (fillsOf ((xs.take p).drop (o + 1))).foldl max 0
def hit (xs : List Itm) (o p : Nat) : Bool := match xs[p]? with
  | some x => x.isF && decide (mo xs o p < x.sz)
  | none => false
def szAt (xs : List Itm) (p : Nat) : Int := match xs[p]? with
  | some x => x.sz
  | none => 0
/-- what other is held by on the way of a jump between these places -/
def met (xs : List Itm) (o lo hi : Nat) : List Int := ((List.range' lo (hi - lo)).filter (hit xs o)).map (szAt xs)
theorem e_met {xs : List Itm} {j g o : Nat} {s l : Int} (hx : xs[j]? = some (.jmp g s l)) (h : xs.length ≤ 1000) (hg : g ≤ xs.length) (M : Store) :
    F_fills_met [.p (sk xs), .p (.int (o : Int)), .p (.int (j : Int))] M = .ok (.p (.list (pints (met xs o (min j g + 1) (max j g))))) M := by
  have hj := (List.getElem?_eq_some_iff.mp hx).1
  obtain ⟨lo, hlo⟩ : ∃ lo, lo = min j g + 1 := ⟨_, rfl⟩
  obtain ⟨hi, hhi⟩ : ∃ hi, hi = max j g := ⟨_, rfl⟩
  have e1 : (min (j : Int) g + 1) = (lo : Int) := by omega
  have e2 : (max (j : Int) g) = (hi : Int) := by omega
  rw [← hlo, ← hhi]
  apply fn_satN
  have hb : ∀ p, (fillsOf ((xs.take p).drop (o + 1))).length ≤ 1000 := fun p => Nat.le_trans (len_fills _) (by simp; omega)
  simp [c_fills_met, e_in_way hx h (by omega), e1, e2, rgP_nat, dp_pnats]
  refine forP_seq _ _ (fun done sl M' => ∃ d, sl = [some (D.p (sk xs)), some (D.p (.int o)), some (D.p (.int j)), some (.ref M.length), d] ∧ M' = M ++ [.lst ((pints ((done.filter (hit xs o)).map (szAt xs))).map .p)])
    ⟨none, rfl, rfl⟩ ?_ ?_
  · rintro done p rest sl M' e ⟨d, rfl, rfl⟩
    have hp : p < xs.length := by
      have : p ∈ List.range' lo (hi - lo) := by rw [e]; simp
      rw [List.mem_range'_1] at this
      omega
    have hl : done.length ≤ 1000 := by
      have := congrArg List.length e
      simp at this
      omega
    refine ⟨_, rfl, ?_⟩
    have hx := List.getElem?_eq_getElem hp
    have hn : (done.filter (hit xs o)).length < 16777216 := by have := List.length_filter_le (hit xs o) done; omega
    simp [L_fills_met_1, ix_sk _ hx]
    cases hf : xs[p].isF with
    | false => simp [hit, hx, hf, Sat]
    | true =>
      simp [ix_sz _ hf, e_between h, e_greatest _ (hb p)]
      by_cases hm : mo xs o p < xs[p].sz
      · have hh : hit xs o p = true := by simp [hit, hx, hf, hm]
        unfold mo at hm
        simp [hm, ix_sk _ hx, ix_sz _ hf, hn, hh, Sat, szAt, hx, dp_snoc]
      · have hh : hit xs o p = false := by simp [hit, hx, hf, hm]
        unfold mo at hm
        simp [hm, hh, Sat]
  · rintro sl M' ⟨d, rfl, rfl⟩
    simp [Sat, met]

def JSane (xs : List Itm) : Prop := xs.length ≤ 1000 ∧ ∀ (j g : Nat) (s l : Int), xs[j]? = some (.jmp g s l) → g ≤ xs.length
def goal (xs : List Itm) (j : Nat) : Nat := match xs[j]? with
  | some (.jmp g _ _) => g
  | _ => 0
def shortOf (xs : List Itm) (j : Nat) : Int := match xs[j]? with
  | some (.jmp _ s _) => s
  | _ => 0
def longOf (xs : List Itm) (j : Nat) : Int := match xs[j]? with
  | some (.jmp _ _ l) => l
  | _ => 0
theorem jmp_at {xs : List Itm} {j : Nat} (h : j ∈ places Itm.isJ xs) : xs[j]? = some (.jmp (goal xs j) (shortOf xs j) (longOf xs j)) := by
  obtain ⟨x, e, hx⟩ := mem_places.mp h
  cases x with
  | jmp g s l => simp [goal, shortOf, longOf, e]
  | _ => cases hx
theorem len_places (p : Itm → Bool) (xs : List Itm) : (places p xs).length ≤ xs.length := by
  unfold places
  rw [List.length_map]
  exact zlen_places p xs
/-- all that other is held by -/
def holds (xs : List Itm) (o : Nat) (j : Nat) : List Int := if o < min j (goal xs j) then met xs o (min j (goal xs j) + 1) (max j (goal xs j)) else []
def step (xs : List Itm) (o : Nat) : Int := ((places Itm.isJ xs).flatMap (holds xs o)).foldl max 1
theorem len_holds {xs : List Itm} (h : JSane xs) {o j : Nat} (hj : j < xs.length) (hg : goal xs j ≤ xs.length): (holds xs o j).length ≤ 1000 := by
  unfold holds
  split
  · unfold met
    rw [List.length_map]
    refine Nat.le_trans (List.length_filter_le _ _) ?_
    rw [List.length_range']
    have := h.1
    omega
  · exact Nat.zero_le _
theorem len_flat {α : Type} (f : α → List Int) : ∀ (l : List α), (∀ x ∈ l, (f x).length ≤ 1000) → (l.flatMap f).length ≤ 1000 * l.length
  | [], _ => Nat.zero_le _
  | x :: l, h => by
    rw [List.flatMap_cons, List.length_append, List.length_cons]
    have h1 := h x List.mem_cons_self
    have h2 := len_flat f l fun y hy => h y (List.mem_cons_of_mem _ hy)
    omega
theorem goal_le {xs : List Itm} (h : JSane xs) {j : Nat} (hj : j ∈ places Itm.isJ xs) : goal xs j ≤ xs.length := h.2 _ _ _ _ (jmp_at hj)
theorem e_step {xs : List Itm} (h : JSane xs) (o : Nat) (M : Store) : F_step_of [.p (sk xs), .p (.int (o : Int))] M = .ok (.p (.int (step xs o))) M := by
  apply fn_satN
  simp [c_step_of, e_jumps_of h.1, dp_pnats]
  refine forP_seq _ _ (fun done sl M' => ∃ d, sl = [some (D.p (sk xs)), some (D.p (.int o)), some (.ref M.length), d] ∧ M' = M ++ [.lst ((pints (1 :: done.flatMap (holds xs o))).map .p)])
    ⟨none, rfl, rfl⟩ ?_ ?_
  · rintro done j rest sl M' e ⟨d, rfl, rfl⟩
    refine ⟨_, rfl, ?_⟩
    have hj : j ∈ places Itm.isJ xs := by rw [e]; simp
    have hx := jmp_at hj
    have hg := goal_le h hj
    have hlt : j < xs.length := (List.getElem?_eq_some_iff.mp hx).1
    obtain ⟨lo, hlo⟩ : ∃ lo, lo = min j (goal xs j) := ⟨_, rfl⟩
    have em : min (j : Int) (goal xs j) = (lo : Int) := by omega
    have hh : holds xs o j = if o < lo then met xs o (lo + 1) (max j (goal xs j)) else [] := by unfold holds; rw [← hlo]
    have hlen := h.1
    have hd : (done.flatMap (holds xs o)).length ≤ 1000 * 1000 := by
      refine Nat.le_trans (len_flat _ _ fun y hy => ?_) (Nat.mul_le_mul_left 1000 ?_)
      · have hy' : y ∈ places Itm.isJ xs := by rw [e]; simp [hy]
        exact len_holds h (List.getElem?_eq_some_iff.mp (jmp_at hy')).1 (goal_le h hy')
      · have h1 := len_places Itm.isJ xs
        rw [e] at h1
        simp at h1
        omega
    have hr : rgP 0 (lo : Int) = pnats (List.range' 0 lo) := by
      have := rgP_nat 0 lo
      simpa using this
    simp [L_step_of_1, e_ahead hx h.1 (by omega), em, hr]
    by_cases ho : o < lo
    · have ho' : o < j ∧ o < goal xs j := by omega
      have hm := len_holds (o := o) h hlt hg
      have hs : (pints (1 :: done.flatMap (holds xs o))).length + (holds xs o j).length ≤ 16777216 := by
        rw [pints_len, List.length_cons]
        omega
      have e2 := e_met hx h.1 hg (o := o)
      have e3 : holds xs o j = met xs o (lo + 1) (max j (goal xs j)) := by rw [hh, if_pos ho]
      rw [← hlo, ← e3] at e2
      simp at hs
      simp [e2, hs, Sat, ho]
      simp [pints]
    · have ho' : ¬ (o < j ∧ o < goal xs j) := by omega
      have e3 : holds xs o j = [] := by rw [hh, if_neg ho]
      simp [ho, e3, Sat]
  · rintro sl M' ⟨d, rfl, rfl⟩
    simp [Sat, step, zMax, pints]
/-- a mended size -/
def mendAt (xs : List Itm) (j : Nat) : Int := shortOf xs j + (longOf xs j - shortOf xs j + step xs j - 1) / step xs j * step xs j
def mend (xs : List Itm) : List Int := (places Itm.isJ xs).map (mendAt xs)
theorem foldl_ge : ∀ (ns : List Int) (n : Int), n ≤ ns.foldl max n := fun ns n => (foldl_max_ge ns n).1
theorem step_pos (xs : List Itm) (o : Nat) : 1 ≤ step xs o := foldl_ge _ _
/-- fills and growths are not out of the way -/
def FSane (xs : List Itm) : Prop := ∀ s, Itm.fil s ∈ xs → s ≤ 100000
theorem foldl_le {b : Int} : ∀ (ns : List Int) (n : Int), n ≤ b → (∀ x ∈ ns, x ≤ b) → ns.foldl max n ≤ b
  | [], n, h, _ => h
  | x :: ns, n, h, k => by
    rw [List.foldl_cons]
    exact foldl_le ns _ (by have := k x List.mem_cons_self; omega) fun y hy => k y (List.mem_cons_of_mem _ hy)
theorem step_le {xs : List Itm} {b : Int} (hb : 1 ≤ b) (h : ∀ s, Itm.fil s ∈ xs → s ≤ b) (o : Nat) : step xs o ≤ b := by
  refine foldl_le _ _ hb fun x hx => ?_
  obtain ⟨j, _, hx⟩ := List.mem_flatMap.mp hx
  unfold holds at hx
  split at hx
  · obtain ⟨p, hp, rfl⟩ := List.mem_map.mp hx
    obtain ⟨_, hh⟩ := List.mem_filter.mp hp
    unfold hit at hh
    unfold szAt
    split at hh
    · rename_i y hy
      simp at hh
      cases y with
      | fil s => exact h s (List.mem_of_getElem? hy)
      | _ => simp [Itm.isF] at hh
    · cases hh
  · cases hx
theorem e_mended {xs : List Itm} (h : JSane xs) (hf : FSane xs) (M : Store) : F_mended [.p (sk xs)] M = .ok (.p (.tuple (pints (mend xs)))) M := by
  apply fn_satN
  simp [c_mended, e_jumps_of h.1, dp_pnats]
  refine forP_seq _ _ (fun done sl M' => ∃ d2 d3 d4 d5, sl = [some (D.p (sk xs)), some (.ref M.length), d2, d3, d4, d5] ∧ M' = M ++ [.lst ((pints (done.map (mendAt xs))).map .p)])
    ⟨none, none, none, none, rfl, rfl⟩ ?_ ?_
  · rintro done j rest sl M' e ⟨d2, d3, d4, d5, rfl, rfl⟩
    refine ⟨_, rfl, ?_⟩
    have hj : j ∈ places Itm.isJ xs := by rw [e]; simp
    have hx := jmp_at hj
    have hp := step_pos xs j
    have hb := step_le (b := 100000) (by decide) hf j
    have hd : done.length < 16777216 := by
      have h1 := len_places Itm.isJ xs
      rw [e] at h1
      simp at h1
      have := h.1
      omega
    have hs : 0 < step xs j ∧ step xs j < 1073741824 := by omega
    have hc : ∀ a : Int, CMul a (step xs j) := fun a => .inr (by omega)
    simp [L_mended_1, ix_sk _ hx, Itm.enc, e_step h, hs, hc, hd, Sat]
    simp [pints, mendAt]
  · rintro sl M' ⟨d2, d3, d4, d5, rfl, rfl⟩
    simp [Sat, mend, zTuple]
def isFat (xs : List Itm) (p : Nat) : Bool := match xs[p]? with
  | some x => x.isF
  | none => false
end ZL

namespace ZL
open PySem PySem.Spec PyProof.Rows L2 Z
theorem e_law_jumps {xs : List Itm} (h : xs.length ≤ 1000) (M : Store) : F__law_jumps [.p (sk xs)] M = .ok (.p (.list (pnats (places Itm.isJ xs)))) M := by
  apply fn_rt0
  simp [c__law_jumps, wipeS]
  rw [compP_map (M := M) _ (fun q => q.1.isJ) (fun q => .p (.int (q.2 : Nat)))]
  · have hz := small (Nat.le_trans (zlen_places Itm.isJ xs) h)
    simp [hz, pnats, places]
  · intro q _
    simp
end ZL

namespace ZL
open PySem PySem.Spec PyProof.Rows L2 Z
/-- the drawer's state -/
structure Stq where
  gr : List Int
  flat : List Int
  sum : Int
  c : Int
def Stq.ok (q : Stq) : Prop := q.gr.length ≤ 63 ∧ 0 < q.flat.length
def St (q : Stq) : Store := [.lst ((pints q.gr).map .p), .lst [.ref 0, .p (.list (pints q.flat)), .p (.int q.sum), .p (.int q.c)]]
theorem St_len (q : Stq) : (St q).length = 2 := rfl
theorem cm_r (a : Int) {j : Int} (h : -1000000000000 < j ∧ j < 1000000000000) : CMul a j := .inr (by omega)
theorem cm_sq (x : Int) : CMul (x % 4294967291) (x % 4294967291) := .inr (by have := Int.emod_nonneg x (b := 4294967291) (by decide); have := Int.emod_lt_of_pos x (b := 4294967291) (by decide); omega)
theorem e_draw0 (q : Stq) (hq : q.ok) (R : Store) {z : Int} (hz : 0 < z) (hz' : z ≤ 100000) : ∃ i q', q'.ok ∧ F__law_draw [.ref 1, .p (.int z)] (St q ++ R) = .ok (.p (.int (i % z))) (St q' ++ R) := by
  obtain ⟨gr, flat, sum, c⟩ := q
  obtain ⟨hq1, hq2⟩ := hq
  simp only at hq1 hq2
  have fin : ∀ (q' : Stq), q'.ok → (∃ i, c__law_draw ([D.ref 1, D.p (.int z)].map some ++ List.replicate (6 - 2) none) (St ⟨gr, flat, sum, c⟩ ++ R) = .rt (.p (.int (i % z))) (St q' ++ R)) →
      ∃ i q', q'.ok ∧ F__law_draw [.ref 1, .p (.int z)] (St ⟨gr, flat, sum, c⟩ ++ R) = .ok (.p (.int (i % z))) (St q' ++ R) := fun q' ok ⟨i, e⟩ => by
    have e2 := fn_rt (n := 6) (ds := [D.ref 1, D.p (.int z)]) e
    rw [List.take_of_length_le (by simp [St])] at e2
    exact ⟨i, q', ok, e2⟩
  have a0 : ∀ (q : Stq) (Q : Store), lstAt (St q ++ Q) 0 = some ((pints q.gr).map .p) := fun q Q => rfl
  have a1 : ∀ (q : Stq) (Q : Store), lstAt (St q ++ Q) 1 = some [.ref 0, .p (.list (pints q.flat)), .p (.int q.sum), .p (.int q.c)] := fun q Q => rfl
  have i0 : ∀ q Q, zIx (.ref 1) (.p (.int 0)) (St q ++ Q) = .ok (.ref 0) (St q ++ Q) := fun q Q => zIx_r' (j := 0) (a1 q Q) rfl rfl
  have i1 : ∀ q Q, zIx (.ref 1) (.p (.int 1)) (St q ++ Q) = .ok (.p (.list (pints q.flat))) (St q ++ Q) := fun q Q => zIx_r' (j := 1) (a1 q Q) rfl rfl
  have i2 : ∀ q Q, zIx (.ref 1) (.p (.int 2)) (St q ++ Q) = .ok (.p (.int q.sum)) (St q ++ Q) := fun q Q => zIx_r' (j := 2) (a1 q Q) rfl rfl
  have i3 : ∀ q Q, zIx (.ref 1) (.p (.int 3)) (St q ++ Q) = .ok (.p (.int q.c)) (St q ++ Q) := fun q Q => zIx_r' (j := 3) (a1 q Q) rfl rfl
  have l0 : ∀ q Q, lstv (St q ++ Q) (.ref 0) = some ((pints q.gr).map .p) := fun q Q => rfl
  have ne : ∀ q Q, zNe (.ref 0) (.p (.list [])) (St q ++ Q) = .ok (.p (.bool (!decide (q.gr = [])))) (St q ++ Q) := fun q Q => zNe_ref (a0 q Q)
  have hn : 0 < z ∧ z < 1073741824 := by omega
  rcases List.eq_nil_or_concat gr with e | ⟨gs, g, e⟩
  · subst e
    have st : zSetL (.ref 1) (.p (.int 3)) (.p (.int (c + 1))) (St ⟨[], flat, sum, c⟩ ++ R) = some (St ⟨[], flat, sum, c + 1⟩ ++ R) := zSetL_r (j := 3) (a1 _ _) (by simp) rfl
    have hfl : 0 < (flat.length : Int) := by omega
    obtain ⟨k, hk⟩ : ∃ k : Nat, (k : Int) = (c + 1) % (flat.length : Int) := ⟨((c + 1) % (flat.length : Int)).toNat, Int.toNat_of_nonneg (Int.emod_nonneg _ (by omega))⟩
    have hkl : k < flat.length := by
      have := Int.emod_lt_of_pos (c + 1) hfl
      omega
    have ix : ∀ Q, zIx (.p (.list (pints flat))) (.p (.int ((c + 1) % (flat.length : Int)))) Q = .ok (.p (.int flat[k])) Q := fun Q => by
      rw [← hk]
      exact zIx_l Q (by rw [pints, List.getElem?_map, List.getElem?_eq_getElem hkl]; rfl)
    obtain ⟨fl, hfle⟩ : ∃ fl : Int, fl = (flat.length : Int) := ⟨_, rfl⟩
    have ln : ∀ Q, zLen [.p (.list (pints flat))] Q = .ok (.p (.int fl)) Q := fun Q => by rw [zLen_l, List.length_map, pints_len, hfle]
    rw [← hfle] at ix hfl
    refine fin ⟨[], flat, sum, c + 1⟩ ⟨hq1, hq2⟩ ?_
    simp [-zLen_l, c__law_draw, i0, i1, i2, i3, ne, l0, mkLstF, hn, st, ln, hfl, ix, cm_r, cm_sq]
    exact ⟨_, rfl⟩
  · rw [List.concat_eq_append] at e
    subst e
    have po : zPop (.ref 0) [] (St ⟨gs ++ [g], flat, sum, c⟩ ++ R) = .ok (.p (.int g)) (St ⟨gs, flat, sum, c⟩ ++ R) := by
      rw [zPop_r (ds := (pints gs).map .p) (d := .p (.int g)) (by rw [a0, dp_snoc])]
      rfl
    have hl : gs.length + 1 ≤ 63 := by simpa using hq1
    have ap : zAppend (.ref 0) [.p (.int (g / z))] (St ⟨gs, flat, sum, c⟩ ++ R) = .ok (.p .none) (St ⟨gs ++ [g / z], flat, sum, c⟩ ++ R) := by
      rw [zAppend_e, a0]
      simp only [List.length_map, pints_len]
      rw [if_pos (by simp; omega), dp_snoc]
      rfl
    by_cases hg : z ≤ g
    · refine fin ⟨gs ++ [g / z], flat, sum, c⟩ ⟨by simpa using hq1, hq2⟩ ⟨g, ?_⟩
      simp [c__law_draw, -zAppend_e, i0, ne, l0, po, hg, mkLstF, hn, ap]
    · refine fin ⟨gs, flat, sum, c⟩ ⟨by simp; omega, hq2⟩ ⟨g, ?_⟩
      simp [c__law_draw, i0, ne, l0, po, hg, mkLstF, hn]
theorem e_draw (q : Stq) (hq : q.ok) (R : Store) {n : Nat} (h : 0 < n) (h' : n ≤ 100000) : ∃ k q', k < n ∧ q'.ok ∧ F__law_draw [.ref 1, .p (.int (n : Int))] (St q ++ R) = .ok (.p (.int (k : Nat))) (St q' ++ R) := by
  obtain ⟨i, q', ok, e⟩ := e_draw0 q hq R (z := (n : Int)) (by omega) (by omega)
  have h0 := Int.emod_nonneg i (b := (n : Int)) (by omega)
  have h1 := Int.emod_lt_of_pos i (b := (n : Int)) (by omega)
  exact ⟨(i % (n : Int)).toNat, q', by omega, ok, by rw [Int.toNat_of_nonneg h0]; exact e⟩
theorem e_pick (q : Stq) (hq : q.ok) (R : Store) {xs : List P} (h : 0 < xs.length) (h' : xs.length ≤ 100000) : ∃ x q', x ∈ xs ∧ q'.ok ∧ F__law_pick [.ref 1, .p (.list xs)] (St q ++ R) = .ok (.p x) (St q' ++ R) := by
  obtain ⟨k, q', hk, ok, e⟩ := e_draw q hq R h h'
  refine ⟨xs[k], q', List.getElem_mem hk, ok, ?_⟩
  have e2 : c__law_pick ([D.ref 1, D.p (.list xs)].map some ++ List.replicate (2 - 2) none) (St q ++ R) = .rt (.p xs[k]) (St q' ++ R) := by
    simp [c__law_pick, e, zIx_l _ (List.getElem?_eq_getElem hk)]
  have e3 := fn_rt (n := 2) (ds := [D.ref 1, D.p (.list xs)]) e2
  rw [List.take_of_length_le (by simp [St])] at e3
  exact e3
def cell (i : Int) : Int := if 0 ≤ i then 2 * i else -2 * i - 1
theorem e_stock (ns : List Int) (h : ns.length ≤ 63) : ∃ q, q.ok ∧ F__law_stock [.p (.list (pints ns))] [] = .ok (.ref 1) (St q) := by
  have cut : cutG ((pints ns).map D.p) none (some 63) = (pints ns).map D.p := by
    have := cutG__n ((pints ns).map D.p) 63
    rw [List.take_of_length_le (by simp; omega)] at this
    exact this
  have sl : ∀ M, zSl (.p (.list (pints ns))) none (some 63) M = .ok (.p (.list (pints ns))) M := fun M => by
    unfold zSl
    simp only [lstv_p, cut, frzl_map]
    rw [if_pos (by simp; omega)]
  obtain ⟨fl, hfl, co⟩ : ∃ fl : List Int, fl.length = ns.length ∧ ∀ M d, compP (tgN 2) ztyes (zif (zt (z2 zGe (zv 2) (zk (.int 0)))) (z2 zMul (zk (.int 2)) (zv 2)) (z2 zSub (z2 zMul (z1 zNeg (zk (.int 2))) (zv 2)) (zk (.int 1)))) [d, none, none] ((pints ns).map D.p) M = .ok ((pints fl).map D.p) M := by
    refine ⟨ns.map cell, List.length_map _, fun M d => ?_⟩
    have := compP_map (f := tgN 2) (t := ztyes) (e := (zif (zt (z2 zGe (zv 2) (zk (.int 0)))) (z2 zMul (zk (.int 2)) (zv 2)) (z2 zSub (z2 zMul (z1 zNeg (zk (.int 2))) (zv 2)) (zk (.int 1))))) (sl := [d, none, none]) (M := M) (fun i : Int => D.p (.int i)) (fun _ => true) (fun i => D.p (.int (cell i))) ns fun i _ => by
      refine ⟨_, rfl, rfl, fun _ => ?_⟩
      by_cases hi : 0 ≤ i
      · simp [hi, cell, show ∀ a, CMul 2 a from fun a => .inl (by omega)]
      · simp [hi, cell, show ∀ a, CMul (-2) a from fun a => .inl (by omega)]
    rw [dp_pints, this, List.filter_eq_self.mpr fun _ _ => rfl]
    simp [pints]
  obtain ⟨gr, hgr, co2⟩ : ∃ gr : List Int, gr.length ≤ fl.length ∧ ∀ M d e, compP (tgN 2) (zt (z2 zGe (zv 2) (z2 zPow (zk (.int 10)) (zk (.int 15))))) (zv 2) [d, e, none] ((pints fl).map D.p) M = .ok ((pints gr).map D.p) M := by
    refine ⟨fl.filter fun i => decide (10 ^ 15 ≤ i), List.length_filter_le _ _, fun M d e => ?_⟩
    have := compP_map (f := tgN 2) (t := (zt (z2 zGe (zv 2) (z2 zPow (zk (.int 10)) (zk (.int 15)))))) (e := zv 2) (sl := [d, e, none]) (M := M) (fun i : Int => D.p (.int i)) (fun i => decide (10 ^ 15 ≤ i)) (fun i => D.p (.int i)) fl fun i _ => by
      refine ⟨_, rfl, ?_, fun _ => rfl⟩
      have hp : zPow (.p (.int 10)) (.p (.int 15)) M = .ok (.p (.int (10 ^ 15))) M := by
        unfold zPow
        simp only
        rw [if_pos ⟨by decide, by decide, by decide⟩]
        rfl
      simp [hp]
    rw [dp_pints, this, dp_pints]
  have su : ∀ M, zSum [.p (.list (pints fl))] M = .ok (.p (.int fl.sum)) M := fun M => by simp [zSum]
  have ad : ∀ i M, zAdd (.p (.list (pints fl))) (.p (.list [.int i])) M = .ok (.p (.list (pints (fl ++ [i])))) M := fun i M => by
    simp only [zAdd, zAddL, lstv_p]
    rw [← List.map_append, frzl_map, if_pos (by simp; omega)]
    simp [pints]
  have ln : ∀ M, zLen [.p (.list (pints fl))] M = .ok (.p (.int ns.length)) M := fun M => by rw [zLen_l, List.length_map, pints_len, hfl]
  obtain ⟨k, hk⟩ : ∃ k : Int, k = ns.length := ⟨_, rfl⟩
  rw [← hk] at ln
  have h1 : fl.length ≤ 16777216 := by omega
  have h2 : gr.length ≤ 16777216 := by omega
  have main : ∃ i, c__law_stock ([D.p (.list (pints ns))].map some ++ List.replicate (3 - 1) none) [] = .rt (.ref 1) (St ⟨gr, fl ++ [i], fl.sum, 0⟩) := by
    simp [-frzl_mapf, -zLen_l, c__law_stock, sl, wipeS, co, co2, h1, h2, su, ad, ln, mkLstF]
    exact ⟨_, rfl⟩
  obtain ⟨i, main⟩ := main
  refine ⟨⟨gr, fl ++ [i], fl.sum, 0⟩, ⟨by simp only; omega, by simp⟩, ?_⟩
  show Z.gc 0 (runB 3 c__law_stock _ _) = _
  unfold runB
  have main' : c__law_stock (List.map some [D.p (PyData.list (pints ns))] ++ List.replicate (3 - [D.p (PyData.list (pints ns))].length) none) [] = _ := main
  rw [main']
  rfl
end ZL

namespace ZL
open PySem PySem.Spec PyProof.Rows L2 Z
theorem zPopAt0 {M : Store} {i : Nat} {d : D} {ds : List D} (h : lstAt M i = some (d :: ds)) : zPopAt (.ref i) [.p (.int 0)] M = .ok d (M.set i (.lst ds)) := by
  unfold zPopAt
  simp only [h]
  have : ixN (d :: ds).length 0 = some 0 := by unfold ixN; rw [if_pos (by decide), if_pos (by simp)]; rfl
  simp only [this]
  rfl
def sized : List Itm → List Int → List Itm
  | [], _ => []
  | .jmp g s _ :: r, n :: ns => .jmp g s n :: sized r ns
  | x :: r, ns => x :: sized r ns
theorem sized_len : ∀ (xs : List Itm) (ns : List Int), (sized xs ns).length = xs.length
  | [], _ => rfl
  | .jmp _ _ _ :: r, _ :: ns => congrArg (· + 1) (sized_len r ns)
  | .jmp _ _ _ :: r, [] => congrArg (· + 1) (sized_len r [])
  | .lab :: r, ns => congrArg (· + 1) (sized_len r ns)
  | .fil _ :: r, ns => congrArg (· + 1) (sized_len r ns)
def encs (xs : List Itm) : List D := xs.map fun x => D.p x.enc
theorem encs_snoc (acc : List Itm) (x : Itm) : encs acc ++ [D.p x.enc] = encs (acc ++ [x]) := by simp [encs]
theorem encs_len (acc : List Itm) : (encs acc).length = acc.length := by simp [encs]
/-- append to the list behind M -/
theorem app0 {M R : Store} {acc : List Itm} {x : Itm} (h : acc.length ≤ 1000) : zAppend (.ref M.length) [.p x.enc] (M ++ .lst (encs acc) :: R) = .ok (.p .none) (M ++ .lst (encs (acc ++ [x])) :: R) := by
  rw [zAppend_e]
  have : acc.length < 16777216 := by omega
  simp [encs_len, this, encs_snoc]
theorem b_sized_o {s0 s1 : Option D} {x : Itm} (hx : x.isJ = false) (M : Store) (acc : List Itm) (ds : List D) (h : acc.length ≤ 1000) :
    L__law_sized_1 [s0, s1, some (.ref M.length), some (.ref (M.length + 1)), some (.p x.enc)] (M ++ [.lst (encs acc), .lst ds]) =
      .nx [s0, s1, some (.ref M.length), some (.ref (M.length + 1)), some (.p x.enc)] (M ++ [.lst (encs (acc ++ [x])), .lst ds]) := by
  simp [L__law_sized_1, -zAppend_e, hx, app0 h]
theorem b_sized_j {s0 s1 : Option D} {g : Nat} {s l n : Int} (M : Store) (acc : List Itm) (ds : List D) (h : acc.length ≤ 1000) :
    L__law_sized_1 [s0, s1, some (.ref M.length), some (.ref (M.length + 1)), some (.p (Itm.jmp g s l).enc)] (M ++ [.lst (encs acc), .lst (.p (.int n) :: ds)]) =
      .nx [s0, s1, some (.ref M.length), some (.ref (M.length + 1)), some (.p (Itm.jmp g s l).enc)] (M ++ [.lst (encs (acc ++ [.jmp g s n])), .lst ds]) := by
  have e1 : ∀ Q, zSl (.p (Itm.jmp g s l).enc) none (some 3) Q = .ok (.p (.tuple [.str "jump", .int g, .int s])) Q := fun Q => rfl
  have e2 : zPopAt (.ref (M.length + 1)) [.p (.int 0)] (M ++ [.lst (encs acc), .lst (.p (.int n) :: ds)]) = .ok (.p (.int n)) (M ++ [.lst (encs acc), .lst ds]) := by
    rw [zPopAt0 (d := .p (.int n)) (ds := ds) (by simp)]
    simp
  have e3 : ∀ Q, zAdd (.p (.tuple [.str "jump", .int g, .int s])) (.p (.tuple [.int n])) Q = .ok (.p (Itm.jmp g s n).enc) Q := fun Q => by
    simp [zAdd, Itm.enc]
  simp [L__law_sized_1, -zAppend_e, Itm.isJ, e1, e2, e3, mkTup, app0 h]
theorem e_sized1 {s0 s1 : Option D} (M : Store) : ∀ (xs : List Itm) (ns : List Int) (acc : List Itm) (d : Option D), acc.length + xs.length ≤ 1000 → (xs.filter Itm.isJ).length = ns.length →
    ∃ d', forP (tgN 4) L__law_sized_1 (xs.map fun x => D.p x.enc) [s0, s1, some (.ref M.length), some (.ref (M.length + 1)), d] (M ++ [.lst (encs acc), .lst ((pints ns).map .p)]) =
      .nx [s0, s1, some (.ref M.length), some (.ref (M.length + 1)), d'] (M ++ [.lst (encs (acc ++ sized xs ns)), .lst []])
  | [], [], acc, d, _, _ => ⟨d, by simp [sized, pints]⟩
  | [], _ :: _, _, _, _, h => by simp at h
  | .lab :: xs, ns, acc, d, hl, h => by
    obtain ⟨d', e⟩ := e_sized1 (s0 := s0) (s1 := s1) M xs ns (acc ++ [.lab]) (some (.p Itm.lab.enc)) (by simp at hl ⊢; omega) (by simpa [List.filter_cons, Itm.isJ] using h)
    refine ⟨d', ?_⟩
    rw [List.map_cons, forP]
    show (L__law_sized_1 _ _).seq _ = _
    simp only [List.set_cons_zero, List.set_cons_succ]
    rw [b_sized_o rfl M acc _ (by simp at hl; omega), OutS.seq_nx, e]
    simp [sized]
  | .fil s :: xs, ns, acc, d, hl, h => by
    obtain ⟨d', e⟩ := e_sized1 (s0 := s0) (s1 := s1) M xs ns (acc ++ [.fil s]) (some (.p (Itm.fil s).enc)) (by simp at hl ⊢; omega) (by simpa [List.filter_cons, Itm.isJ] using h)
    refine ⟨d', ?_⟩
    rw [List.map_cons, forP]
    show (L__law_sized_1 _ _).seq _ = _
    simp only [List.set_cons_zero, List.set_cons_succ]
    rw [b_sized_o rfl M acc _ (by simp at hl; omega), OutS.seq_nx, e]
    simp [sized]
  | .jmp g s l :: xs, [], acc, d, hl, h => by simp [List.filter_cons, Itm.isJ] at h
  | .jmp g s l :: xs, n :: ns, acc, d, hl, h => by
    obtain ⟨d', e⟩ := e_sized1 (s0 := s0) (s1 := s1) M xs ns (acc ++ [.jmp g s n]) (some (.p (Itm.jmp g s l).enc)) (by simp at hl ⊢; omega) (by simpa [List.filter_cons, Itm.isJ] using h)
    refine ⟨d', ?_⟩
    rw [List.map_cons, forP]
    show (L__law_sized_1 _ _).seq _ = _
    simp only [List.set_cons_zero, List.set_cons_succ]
    rw [show (pints (n :: ns)).map D.p = .p (.int n) :: (pints ns).map D.p from rfl, b_sized_j M acc _ (by simp at hl; omega), OutS.seq_nx, e]
    simp [sized]
theorem len_J (xs : List Itm) : (places Itm.isJ xs).length = (xs.filter Itm.isJ).length := by
  unfold places
  rw [List.length_map]
  have : ∀ (xs : List Itm) (k : Nat), ((xs.zipIdx k).filter fun q => q.1.isJ).length = (xs.filter Itm.isJ).length := by
    intro xs
    induction xs with
    | nil => intro k; rfl
    | cons x xs ih => intro k; rw [List.zipIdx_cons, List.filter_cons, List.filter_cons]; cases h : x.isJ <;> simp [ih]
  exact this xs 0
theorem tuple_encs (M R : Store) (xs : List Itm) : zTuple [.ref M.length] (M ++ .lst (encs xs) :: R) = .ok (.p (sk xs)) (M ++ .lst (encs xs) :: R) := by
  simp [zTuple, encs, sk]
theorem e_sized {xs : List Itm} {ns : List Int} (h : xs.length ≤ 1000) (hn : ns.length = (places Itm.isJ xs).length) (M : Store) : F__law_sized [.p (sk xs), .p (.tuple (pints ns))] M = .ok (.p (sk (sized xs ns))) M := by
  apply fn_satN
  have hl := len_places Itm.isJ xs
  have hz : ns.length ≤ 16777216 := by omega
  obtain ⟨d', e⟩ := e_sized1 (s0 := some (.p (sk xs))) (s1 := some (.p (.tuple (pints ns)))) M xs ns [] none (by simpa using h) (by rw [← len_J, hn])
  simp only [encs, List.map_nil, List.nil_append] at e
  have t : ∀ R, zTuple [.ref M.length] (M ++ .lst ((sized xs ns).map fun x => D.p x.enc) :: R) = .ok (.p (sk (sized xs ns))) (M ++ .lst ((sized xs ns).map fun x => D.p x.enc) :: R) := fun R => tuple_encs M R _
  simp [c__law_sized, zListM, hz, e, t, Sat]
theorem add_sk (xs ys : List Itm) (h : xs.length + ys.length ≤ 10000) (M : Store) : zAdd (.p (sk xs)) (.p (sk ys)) M = .ok (.p (sk (xs ++ ys))) M := by
  have : xs.length + ys.length ≤ 16777216 := by omega
  simp [zAdd, sk, this]
end ZL

namespace ZL
open PySem PySem.Spec PyProof.Rows L2 Z
theorem e_pickI (q : Stq) (hq : q.ok) (R : Store) {ns : List Int} {lo hi : Int} (h : 0 < ns.length) (h' : ns.length ≤ 100000) (hb : ∀ i ∈ ns, lo ≤ i ∧ i ≤ hi) :
    ∃ i q', lo ≤ i ∧ i ≤ hi ∧ q'.ok ∧ F__law_pick [.ref 1, .p (.list (pints ns))] (St q ++ R) = .ok (.p (.int i)) (St q' ++ R) := by
  obtain ⟨x, q', hx, ok, e⟩ := e_pick q hq R (xs := pints ns) (by simpa using h) (by simpa using h')
  obtain ⟨i, hi', rfl⟩ := List.mem_map.mp hx
  exact ⟨i, q', (hb i hi').1, (hb i hi').2, ok, e⟩
/-- the fills' sizes -/
def P2 : List Int := [2, 4, 8, 16, 32, 64]
theorem p2_in {s : Int} (h : s ∈ P2) : 2 ≤ s ∧ s ≤ 64 := by
  simp [P2] at h
  omega
theorem e_pickF (q : Stq) (hq : q.ok) (R : Store) {ns : List Int} (h : 0 < ns.length) (h' : ns.length ≤ 100000) (hb : ∀ i ∈ ns, i ∈ P2) :
    ∃ i q', i ∈ P2 ∧ q'.ok ∧ F__law_pick [.ref 1, .p (.list (pints ns))] (St q ++ R) = .ok (.p (.int i)) (St q' ++ R) := by
  obtain ⟨x, q', hx, ok, e⟩ := e_pick q hq R (xs := pints ns) (by simpa using h) (by simpa using h')
  obtain ⟨i, hi', rfl⟩ := List.mem_map.mp hx
  exact ⟨i, q', hb i hi', ok, e⟩
/-- an item of a skeleton of n items -/
def okI (n : Nat) : Itm → Prop
  | .lab => True
  | .fil s => s ∈ P2
  | .jmp g s l => g ≤ n ∧ 0 ≤ s ∧ s ≤ 2000 ∧ 0 ≤ l ∧ l ≤ 2000
theorem okI.mono {m n : Nat} (h : m ≤ n) {x : Itm} (k : okI m x) : okI n x := by
  cases x with
  | lab => trivial
  | fil s => exact k
  | jmp g s l => exact ⟨Nat.le_trans k.1 h, k.2⟩
def okA (xs : List Itm) : Prop := ∀ x ∈ xs, okI xs.length x
theorem okA.app {xs ys : List Itm} (h : okA xs) (k : ∀ y ∈ ys, okI (xs.length + ys.length) y) : okA (xs ++ ys) := by
  intro x hx
  rw [List.length_append]
  rcases List.mem_append.mp hx with hx | hx
  · exact okI.mono (Nat.le_add_right _ _) (h x hx)
  · exact k x hx
theorem fn_rtS {n : Nat} {c : SC} {ds : List D} {q q' : Stq} {R Rx : Store} {x : P} (h : c (ds.map some ++ List.replicate (n - ds.length) none) (St q ++ R) = .rt (.p x) (St q' ++ (R ++ Rx))) : fnB n c ds (St q ++ R) = .ok (.p x) (St q' ++ R) := by
  rw [fn_rt h]
  have : (St q' ++ (R ++ Rx)).take (St q ++ R).length = St q' ++ R := by
    rw [← List.append_assoc, List.take_left' (by simp [St])]
  rw [this]
theorem appS {q : Stq} {R : Store} {i : Nat} {acc : List Itm} {x : Itm} (hi : i = R.length + 2) (h : acc.length ≤ 1000) : zAppend (.ref i) [.p x.enc] (St q ++ (R ++ [.lst (encs acc)])) = .ok (.p .none) (St q ++ (R ++ [.lst (encs (acc ++ [x]))])) := by
  have := app0 (M := St q ++ R) (R := []) (x := x) h
  rw [List.length_append, St_len, Nat.add_comm, ← hi, List.append_assoc, List.append_assoc] at this
  exact this
theorem lstvS {q : Stq} {R Q : Store} {i : Nat} {ds : List D} (hi : i = R.length + 2) : lstv (St q ++ (R ++ Ob.lst ds :: Q)) (.ref i) = some ds := by
  have := lstv_app0 (St q ++ R) (Ob.lst ds :: Q)
  rw [List.length_append, St_len, Nat.add_comm, ← hi, List.append_assoc] at this
  rw [this]
  rfl
theorem addS {q : Stq} {R : Store} {i : Nat} {acc ys : List Itm} (hi : i = R.length + 2) (h : acc.length + ys.length ≤ 1000) : zAddM (.ref i) (.p (.list (ys.map Itm.enc))) (St q ++ (R ++ [.lst (encs acc)])) =
    .ok (.ref (i + 1)) (St q ++ ((R ++ [.lst (encs acc)]) ++ [.lst (encs (acc ++ ys))])) := by
  unfold zAddM
  rw [lstvS hi, lstv_p]
  simp only
  unfold mkLst
  rw [if_pos (by simp [encs_len]; omega)]
  have e1 : (St q ++ (R ++ [Ob.lst (encs acc)])).length = i + 1 := by simp [St_len]; omega
  rw [e1]
  simp [encs]
theorem e_drawZ (q : Stq) (hq : q.ok) (R : Store) {z : Int} {n : Nat} (hz : z = n) (h : 0 < n) (h' : n ≤ 100000) : ∃ k q', k < n ∧ q'.ok ∧ F__law_draw [.ref 1, .p (.int z)] (St q ++ R) = .ok (.p (.int (k : Nat))) (St q' ++ R) := by
  rw [hz]
  exact e_draw q hq R h h'
theorem rep_fill (s : Int) (k : Nat) (hk : k ≤ 1000) (M : Store) : zMul (.p (.list [(Itm.fil s).enc])) (.p (.int (k : Int))) M = .ok (.p (.list ((List.replicate k (Itm.fil s)).map Itm.enc))) M := by
  unfold zMul
  simp only [lstv_p]
  rw [if_pos ⟨by omega, by omega, by simp; omega⟩, Int.toNat_natCast]
  have : (List.replicate k ([(Itm.fil s).enc].map D.p)).flatten = (List.replicate k (Itm.fil s)).map fun x => D.p x.enc := by
    induction k with
    | zero => rfl
    | succ k ih => rw [List.replicate_succ, List.flatten_cons, ih (by omega), List.replicate_succ]; rfl
  rw [this, frzl_mapf, if_pos (by simp; omega)]
def Gd (xs : List Itm) : Prop := okA xs ∧ xs.length ≤ 60 ∧ 0 < xs.length
theorem lenS {q : Stq} {R Q : Store} {i : Nat} {ds : List D} (hi : i = R.length + 2) : zLen [.ref i] (St q ++ (R ++ Ob.lst ds :: Q)) = .ok (.p (.int ds.length)) (St q ++ (R ++ Ob.lst ds :: Q)) := by
  unfold zLen
  simp only [lstvS hi]
theorem tupS {q : Stq} {R Q : Store} {i : Nat} {xs : List Itm} (hi : i = R.length + 2) : zTuple [.ref i] (St q ++ (R ++ Ob.lst (encs xs) :: Q)) = .ok (.p (sk xs)) (St q ++ (R ++ Ob.lst (encs xs) :: Q)) := by
  have h := lstvS (q := q) (R := R) (Q := Q) (ds := encs xs) hi
  unfold zTuple
  simp only [h]
  simp [encs, sk]
theorem fn_satS {n : Nat} {c : SC} {ds : List D} {q : Stq} {R : Store} {Φ : P → Prop} (h : Sat (fun o => ∃ x q' Rx, o = .rt (.p x) (St q' ++ (R ++ Rx)) ∧ q'.ok ∧ Φ x) (c (ds.map some ++ List.replicate (n - ds.length) none) (St q ++ R))) :
    ∃ x q', Φ x ∧ q'.ok ∧ fnB n c ds (St q ++ R) = .ok (.p x) (St q' ++ R) := by
  obtain ⟨x, q', Rx, e, ok, hx⟩ := h
  exact ⟨x, q', hx, ok, fn_rtS e⟩
end ZL

namespace ZL
open PySem PySem.Spec PyProof.Rows L2 Z
/-! ### what holds, in plain words -/
def Cand (xs : List Itm) (o p : Nat) (s : Int) : Prop := xs[p]? = some (.fil s) ∧ 0 < s ∧ (∀ r t, o < r → r < p → xs[r]? = some (.fil t) → t < s) ∧ ∃ j g a b, xs[j]? = some (.jmp g a b) ∧ o < j ∧ o < g ∧ min j g < p ∧ p < max j g
theorem foldl_lt {b : Int} : ∀ (ns : List Int) (n : Int), ns.foldl max n < b ↔ n < b ∧ ∀ x ∈ ns, x < b
  | [], n => by simp
  | x :: ns, n => by
    rw [List.foldl_cons, foldl_lt ns]
    simp only [List.mem_cons, forall_eq_or_imp]
    constructor
    · rintro ⟨h, k⟩; exact ⟨by omega, by omega, k⟩
    · rintro ⟨h, h', k⟩; exact ⟨by omega, k⟩
theorem mem_fills {xs : List Itm} {o p : Nat} {t : Int} : t ∈ fillsOf ((xs.take p).drop (o + 1)) ↔ ∃ r, o < r ∧ r < p ∧ xs[r]? = some (.fil t) := by
  unfold fillsOf
  simp only [List.mem_map, List.mem_filter]
  constructor
  · rintro ⟨x, ⟨hx, hf⟩, rfl⟩
    obtain ⟨i, hi⟩ := List.getElem?_of_mem hx
    rw [List.getElem?_drop, List.getElem?_take] at hi
    split at hi
    · refine ⟨o + 1 + i, by omega, by assumption, ?_⟩
      rw [hi]
      cases x with
      | fil s => rfl
      | _ => cases hf
    · cases hi
  · rintro ⟨r, h1, h2, e⟩
    refine ⟨.fil t, ⟨?_, rfl⟩, rfl⟩
    refine List.mem_iff_getElem?.mpr ⟨r - (o + 1), ?_⟩
    rw [List.getElem?_drop, List.getElem?_take, show o + 1 + (r - (o + 1)) = r by omega, if_pos h2, e]
theorem hit_iff {xs : List Itm} {o p : Nat} : hit xs o p = true ↔ ∃ s, xs[p]? = some (.fil s) ∧ 0 < s ∧ ∀ r t, o < r → r < p → xs[r]? = some (.fil t) → t < s := by
  unfold hit
  cases e : xs[p]? with
  | none => simp
  | some x =>
    cases x with
    | lab => simp [Itm.isF]
    | jmp g s l => simp [Itm.isF]
    | fil s =>
      simp only [Option.some.injEq, Itm.fil.injEq]
      show (true && decide (mo xs o p < s)) = true ↔ _
      rw [Bool.true_and, decide_eq_true_eq]
      unfold mo
      rw [foldl_lt]
      constructor
      · rintro ⟨h, k⟩
        exact ⟨s, rfl, h, fun r t h1 h2 h3 => k t (mem_fills.mpr ⟨r, h1, h2, h3⟩)⟩
      · rintro ⟨s', rfl, h, k⟩
        refine ⟨h, fun t ht => ?_⟩
        obtain ⟨r, h1, h2, h3⟩ := mem_fills.mp ht
        exact k r t h1 h2 h3
theorem mem_holds {xs : List Itm} {o : Nat} {v : Int} : v ∈ (places Itm.isJ xs).flatMap (holds xs o) ↔ ∃ p, Cand xs o p v := by
  rw [List.mem_flatMap]
  constructor
  · rintro ⟨j, hj, hv⟩
    have hx := jmp_at hj
    unfold holds at hv
    split at hv
    · rename_i ho
      obtain ⟨p, hp, rfl⟩ := List.mem_map.mp hv
      obtain ⟨h1, h2⟩ := List.mem_filter.mp hp
      rw [List.mem_range'_1] at h1
      obtain ⟨s, e, h3, h4⟩ := hit_iff.mp h2
      have hs : szAt xs p = s := by simp [szAt, e, Itm.sz]
      rw [hs]
      exact ⟨p, e, h3, h4, j, _, _, _, hx, by omega, by omega, by omega, by omega⟩
    · cases hv
  · rintro ⟨p, e, h3, h4, j, g, a, b, hx, h5, h6, h7, h8⟩
    have hj : j ∈ places Itm.isJ xs := mem_places.mpr ⟨_, hx, rfl⟩
    have hg : goal xs j = g := by simp [goal, hx]
    refine ⟨j, hj, ?_⟩
    unfold holds
    rw [hg, if_pos (by omega)]
    refine List.mem_map.mpr ⟨p, List.mem_filter.mpr ⟨?_, hit_iff.mpr ⟨v, e, h3, h4⟩⟩, by simp [szAt, e, Itm.sz]⟩
    rw [List.mem_range'_1]
    omega
theorem foldl_set {ns ms : List Int} {n : Int} (h : ∀ v, v ∈ ns ↔ v ∈ ms) : ns.foldl max n = ms.foldl max n := by
  have le : ∀ {ns ms : List Int}, (∀ v, v ∈ ns → v ∈ ms) → ns.foldl max n ≤ ms.foldl max n := fun {ns ms} h => by
    obtain ⟨a, b⟩ := foldl_max_ge ms n
    rcases foldl_max_mem ns n with e | e
    · rw [e]; exact a
    · exact b _ (h _ e)
  exact Int.le_antisymm (le fun v => (h v).mp) (le fun v => (h v).mpr)
theorem step_eq {xs ys : List Itm} {o o' : Nat} (h : ∀ v, (∃ p, Cand xs o p v) ↔ ∃ p, Cand ys o' p v) : step xs o = step ys o' := foldl_set fun v => by rw [mem_holds, mem_holds]; exact h v
/-! ### rounding -/
theorem round {g st : Int} (h : 1 ≤ st) : g ≤ (g + st - 1) / st * st ∧ (g + st - 1) / st * st ≤ g + st - 1 := by
  have h1 := Int.emod_add_mul_ediv (g + st - 1) st
  have h2 := Int.emod_nonneg (g + st - 1) (b := st) (by omega)
  have h3 := Int.emod_lt_of_pos (g + st - 1) (b := st) (by omega)
  have h4 : (g + st - 1) / st * st = st * ((g + st - 1) / st) := Int.mul_comm _ _
  omega
theorem round2 {q st : Int} (h : 1 ≤ st) : (q * st + st - 1) / st * st = q * st := by
  have : (q * st + st - 1) / st = q := by
    rw [show q * st + st - 1 = (st - 1) + q * st by omega, Int.add_mul_ediv_right _ _ (by omega), Int.ediv_eq_zero_of_lt (by omega) (by omega)]
    omega
  rw [this]
theorem mendAt_ge (xs : List Itm) (j : Nat) : longOf xs j ≤ mendAt xs j ∧ mendAt xs j ≤ longOf xs j + step xs j - 1 := by
  unfold mendAt
  have := round (g := longOf xs j - shortOf xs j) (step_pos xs j)
  omega
/-! ### sizes put in -/
def setL (f : Nat → Int) (q : Itm × Nat) : Itm := match q.1 with
  | .jmp g s _ => .jmp g s (f q.2)
  | x => x
theorem sized_set (f : Nat → Int) : ∀ (xs : List Itm) (k : Nat), sized xs ((((xs.zipIdx k).filter fun q => q.1.isJ).map Prod.snd).map f) = (xs.zipIdx k).map (setL f)
  | [], k => rfl
  | .lab :: xs, k => by
    rw [List.zipIdx_cons, List.filter_cons_of_neg (by simp [Itm.isJ]), List.map_cons, sized, sized_set f xs (k + 1)]
    rfl
    all_goals nofun
  | .fil s :: xs, k => by
    rw [List.zipIdx_cons, List.filter_cons_of_neg (by simp [Itm.isJ]), List.map_cons, sized, sized_set f xs (k + 1)]
    rfl
    all_goals nofun
  | .jmp g s l :: xs, k => by
    rw [List.zipIdx_cons, List.filter_cons_of_pos (by simp [Itm.isJ]), List.map_cons, List.map_cons, List.map_cons, sized, sized_set f xs (k + 1)]
    rfl
theorem sized_get (f : Nat → Int) (xs : List Itm) (p : Nat) : (sized xs ((places Itm.isJ xs).map f))[p]? = (xs[p]?).map fun x => setL f (x, p) := by
  have := sized_set f xs 0
  unfold places
  rw [this, List.getElem?_map, List.getElem?_zipIdx]
  cases xs[p]? with
  | none => rfl
  | some x => simp
theorem sized_cand (f : Nat → Int) (xs : List Itm) (o p : Nat) (s : Int) : Cand (sized xs ((places Itm.isJ xs).map f)) o p s ↔ Cand xs o p s := by
  have hf : ∀ (r : Nat) (t : Int), (sized xs ((places Itm.isJ xs).map f))[r]? = some (Itm.fil t) ↔ xs[r]? = some (Itm.fil t) := fun r t => by
    rw [sized_get]
    cases e : xs[r]? with
    | none => simp
    | some x => cases x <;> simp [setL]
  have hj : ∀ (r g : Nat) (a : Int), (∃ b, (sized xs ((places Itm.isJ xs).map f))[r]? = some (Itm.jmp g a b)) ↔ ∃ b, xs[r]? = some (Itm.jmp g a b) := fun r g a => by
    rw [sized_get]
    cases e : xs[r]? with
    | none => simp
    | some x =>
      cases x with
      | lab => simp [setL]
      | fil s => simp [setL]
      | jmp g' s' l' => simp [setL]
  unfold Cand
  simp only [hf]
  constructor
  · rintro ⟨h1, h2, h3, j, g, a, b, hx, h⟩
    obtain ⟨b', hb⟩ := (hj j g a).mp ⟨b, hx⟩
    exact ⟨h1, h2, h3, j, g, a, b', hb, h⟩
  · rintro ⟨h1, h2, h3, j, g, a, b, hx, h⟩
    obtain ⟨b', hb⟩ := (hj j g a).mpr ⟨b, hx⟩
    exact ⟨h1, h2, h3, j, g, a, b', hb, h⟩
theorem sized_places (f : Nat → Int) (xs : List Itm) : places Itm.isJ (sized xs ((places Itm.isJ xs).map f)) = places Itm.isJ xs := by
  have h : ∀ (xs : List Itm) (k : Nat), ((((xs.zipIdx k).map (setL f)).zipIdx k).filter fun q => q.1.isJ).map Prod.snd = ((xs.zipIdx k).filter fun q => q.1.isJ).map Prod.snd := by
    intro xs
    induction xs with
    | nil => intro k; rfl
    | cons x xs ih =>
      intro k
      rw [List.zipIdx_cons, List.map_cons, List.zipIdx_cons]
      have i1 : Itm.lab.isJ = false := rfl
      have i2 : ∀ s, (Itm.fil s).isJ = false := fun _ => rfl
      have i3 : ∀ g s l, (Itm.jmp g s l).isJ = true := fun _ _ _ => rfl
      have := ih (k + 1)
      cases x <;> simp [List.filter_cons, setL, i1, i2, i3] <;> exact this
  have e := sized_set f xs 0
  unfold places
  rw [e]
  exact h xs 0
/-- mended once for all -/
theorem mend_mend (xs : List Itm) : mend (sized xs (mend xs)) = mend xs := by
  have hstep : ∀ o, step (sized xs ((places Itm.isJ xs).map (mendAt xs))) o = step xs o := fun o => step_eq fun v => by simp only [sized_cand]
  unfold mend
  rw [sized_places]
  apply List.map_congr_left
  intro j hj
  have hx := jmp_at hj
  have e : (sized xs ((places Itm.isJ xs).map (mendAt xs)))[j]? = some (.jmp (goal xs j) (shortOf xs j) (mendAt xs j)) := by rw [sized_get, hx]; rfl
  have e1 : shortOf (sized xs ((places Itm.isJ xs).map (mendAt xs))) j = shortOf xs j := by simp [shortOf, e]
  have e2 : longOf (sized xs ((places Itm.isJ xs).map (mendAt xs))) j = mendAt xs j := by simp [longOf, e]
  have e3 : mendAt xs j - shortOf xs j + step xs j - 1 = (longOf xs j - shortOf xs j + step xs j - 1) / step xs j * step xs j + step xs j - 1 := by unfold mendAt; omega
  show shortOf _ j + (longOf _ j - shortOf _ j + step _ j - 1) / step _ j * step _ j = _
  rw [e1, e2, hstep, e3, round2 (step_pos xs j)]
  rfl
end ZL

namespace ZL
open PySem PySem.Spec PyProof.Rows L2 Z
/-- goals, fills and sizes of what the law reckons with -/
def Ok (xs : List Itm) : Prop := xs.length ≤ 200 ∧ ∀ x ∈ xs, match x with
  | .lab => True
  | .fil s => 0 ≤ s ∧ s ≤ 64
  | .jmp g s l => g ≤ xs.length ∧ 0 ≤ s ∧ s ≤ 10000 ∧ 0 ≤ l ∧ l ≤ 10000
theorem Gd.toOk {xs : List Itm} (h : Gd xs) : Ok xs := ⟨by have := h.2.1; omega, fun x hx => by
  have := h.1 x hx
  cases x with
  | lab => trivial
  | fil s => exact ⟨by have := p2_in this; omega, (p2_in this).2⟩
  | jmp g s l => exact ⟨this.1, this.2.1, by have := this.2.2.1; omega, this.2.2.2.1, by have := this.2.2.2.2; omega⟩⟩
theorem Ok.j {xs : List Itm} (h : Ok xs) : JSane xs := ⟨by have := h.1; omega, fun j g s l e => (h.2 _ (List.mem_of_getElem? e)).1⟩
theorem Ok.f {xs : List Itm} (h : Ok xs) : FSane xs := fun s hs => by have := h.2 _ hs; have := this.2; omega
theorem Ok.step {xs : List Itm} (h : Ok xs) (o : Nat) : step xs o ≤ 64 := step_le (by decide) (fun s hs => (h.2 _ hs).2) o
theorem Ok.mod {xs : List Itm} (h : Ok xs) : ∀ x ∈ xs, Mod1 x := fun x hx => by
  have h1 := h.1
  have := h.2 x hx
  cases x with
  | lab => trivial
  | fil s => exact ⟨by have := this.1; omega, by have := this.2; omega⟩
  | jmp g s l => exact ⟨by have := this.1; omega, by have := this.2.1; omega, by have := this.2.2.1; omega, by have := this.2.2.2.1; omega, by have := this.2.2.2.2; omega⟩
theorem Ok.long {xs : List Itm} (h : Ok xs) {j : Nat} (hj : j ∈ places Itm.isJ xs) : 0 ≤ longOf xs j ∧ longOf xs j ≤ 10000 := (h.2 _ (List.mem_of_getElem? (jmp_at hj))).2.2.2
theorem Ok.mend {xs : List Itm} (h : Ok xs) : ∀ i ∈ mend xs, 0 ≤ i ∧ i ≤ 10063 := fun i hi => by
  obtain ⟨j, hj, rfl⟩ := List.mem_map.mp hi
  have := h.long hj
  have := mendAt_ge xs j
  have := h.step j
  omega
theorem mend_len (xs : List Itm) : (mend xs).length ≤ xs.length := by unfold ZL.mend; rw [List.length_map]; exact len_places _ _
theorem Ok.show {xs : List Itm} (h : Ok xs) (M : Store) : zShow [.p (.tuple (pints (ZL.mend xs)))] M = .ok (.p (.str (PyData.tuple (pints (ZL.mend xs))).shown)) M :=
  show_ints (fun i hi => by have := h.mend i hi; omega) (by have := mend_len xs; have := h.1; omega) M
/-- the sized skeleton is in order -/
theorem Ok.sized {xs : List Itm} (h : Ok xs) : JSane (sized xs (ZL.mend xs)) ∧ FSane (sized xs (ZL.mend xs)) := by
  have hg : ∀ p, (ZL.sized xs (ZL.mend xs))[p]? = (xs[p]?).map fun x => setL (mendAt xs) (x, p) := fun p => sized_get _ _ p
  refine ⟨⟨by rw [sized_len]; have := h.1; omega, fun j g s l e => ?_⟩, fun s hs => ?_⟩
  · rw [hg] at e
    rw [sized_len]
    cases e1 : xs[j]? with
    | none => rw [e1] at e; cases e
    | some x =>
      rw [e1] at e
      cases x with
      | lab => simp [setL] at e
      | fil s => simp [setL] at e
      | jmp g' s' l' =>
        simp [setL] at e
        rw [← e.1]
        exact (h.2 _ (List.mem_of_getElem? e1)).1
  · obtain ⟨p, hp⟩ := List.getElem?_of_mem hs
    rw [hg] at hp
    cases e1 : xs[p]? with
    | none => rw [e1] at hp; cases hp
    | some x =>
      rw [e1] at hp
      cases x with
      | lab => simp [setL] at hp
      | jmp g' s' l' => simp [setL] at hp
      | fil s' =>
        simp [setL] at hp
        have := (h.2 _ (List.mem_of_getElem? e1)).2
        omega
end ZL

namespace ZL
open PySem PySem.Spec PyProof.Rows L2 Z
/-! ### triples -/
def isJat (xs : List Itm) (p : Nat) : Bool := match xs[p]? with
  | some x => x.isJ
  | none => false
def kept (xs : List Itm) (o p : Nat) : Bool := ((xs.take p).drop (o + 1)).any fun x => x.isF && decide (szAt xs p ≤ x.sz)
def tripB (xs : List Itm) (p o : Nat) : Bool := !kept xs o p && decide ((longOf xs o - shortOf xs o) % szAt xs p ≠ 0)
def lowOf (xs : List Itm) (j : Nat) : Nat := min j (goal xs j)
def highOf (xs : List Itm) (j : Nat) : Nat := max j (goal xs j)
def fillsIn (xs : List Itm) (j : Nat) : List Nat := (List.range' (lowOf xs j + 1) (highOf xs j - (lowOf xs j + 1))).filter (isFat xs)
def othersOf (xs : List Itm) (j : Nat) : List Nat := (places Itm.isJ xs).filter fun o => decide (o < lowOf xs j)
def tripsAt (xs : List Itm) (j p : Nat) : List (Nat × Nat × Nat) := ((othersOf xs j).filter (tripB xs p)).map fun o => (j, p, o)
def tripsOf (xs : List Itm) (j : Nat) : List (Nat × Nat × Nat) := (fillsIn xs j).flatMap (tripsAt xs j)
def trips (xs : List Itm) : List (Nat × Nat × Nat) := (places Itm.isJ xs).flatMap (tripsOf xs)
def enc3 (t : Nat × Nat × Nat) : P := .tuple [.int (t.1 : Int), .int (t.2.1 : Int), .int (t.2.2 : Int)]
theorem places_range (xs : List Itm) : places Itm.isJ xs = (List.range xs.length).filter (isJat xs) := by
  have h : ∀ (ys zs : List Itm), ((ys.zipIdx zs.length).filter fun q => q.1.isJ).map Prod.snd = (List.range' zs.length ys.length).filter (isJat (zs ++ ys)) := by
    intro ys
    induction ys with
    | nil => intro zs; rfl
    | cons y ys ih =>
      intro zs
      have := ih (zs ++ [y])
      rw [List.length_append, List.length_singleton, List.append_assoc] at this
      rw [List.zipIdx_cons, List.length_cons, List.range'_succ]
      have e : isJat (zs ++ y :: ys) zs.length = y.isJ := by simp [isJat]
      have e2 : zs ++ ([y] ++ ys) = zs ++ y :: ys := by simp
      rw [e2] at this
      cases c : y.isJ with
      | true => rw [List.filter_cons_of_pos (by exact c), List.filter_cons_of_pos (by rw [e, c]), List.map_cons, this]
      | false => rw [List.filter_cons_of_neg (by simp [c]), List.filter_cons_of_neg (by simp [e, c]), this]
  have := h xs []
  simp only [List.length_nil, List.nil_append] at this
  unfold places
  rw [this, List.range_eq_range']
theorem others_range {xs : List Itm} {j : Nat} (h : lowOf xs j ≤ xs.length) : othersOf xs j = (List.range' 0 (lowOf xs j)).filter (isJat xs) := by
  unfold othersOf
  rw [places_range, List.filter_filter]
  have e : List.range xs.length = List.range' 0 (lowOf xs j) ++ List.range' (lowOf xs j) (xs.length - lowOf xs j) := by
    rw [List.range_eq_range']
    have := List.range'_append_1 (s := 0) (m := lowOf xs j) (n := xs.length - lowOf xs j)
    rw [Nat.zero_add] at this
    rw [this]
    congr 1
    omega
  rw [e, List.filter_append]
  have e2 : (List.range' (lowOf xs j) (xs.length - lowOf xs j)).filter (fun a => decide (a < lowOf xs j) && isJat xs a) = [] := by
    rw [List.filter_eq_nil_iff]
    intro a ha
    rw [List.mem_range'_1] at ha
    simp
    omega
  rw [e2, List.append_nil]
  apply List.filter_congr
  intro a ha
  rw [List.mem_range'_1] at ha
  rw [decide_eq_true (by omega), Bool.true_and]
/-- the programs' data are in order: positive fills -/
def PSane (xs : List Itm) : Prop := ∀ s, Itm.fil s ∈ xs → 0 < s
theorem e_growth {xs : List Itm} {o g : Nat} {s l : Int} (M : Store) : F_growth [.p (Itm.jmp g s l).enc] M = .ok (.p (.int (l - s))) M := by
  apply fn_rt0
  simp [c_growth, Itm.enc]
theorem any_map_bool {α : Type} (f : α → Bool) (l : List α) : (l.map f).any id = l.any f := by
  induction l with
  | nil => rfl
  | cons x l ih => simp [ih]
theorem e_kept_away {xs : List Itm} (h : xs.length ≤ 1000) {o p : Nat} {s : Int} (hp : xs[p]? = some (.fil s)) (M : Store) :
    F_is_kept_away [.p (sk xs), .p (.int (o : Int)), .p (.int (p : Int))] M = .ok (.p (.bool (kept xs o p))) M := by
  apply fn_rt0
  obtain ⟨o1, ho⟩ : ∃ o1, o1 = o + 1 := ⟨_, rfl⟩
  have eo : (o : Int) + 1 = (o1 : Int) := by omega
  have es : szAt xs p = s := by simp [szAt, hp, Itm.sz]
  have ix1 : ∀ M, zIx (.p (Itm.fil s).enc) (.p (.int 1)) M = .ok (.p (.int s)) M := fun M => rfl
  unfold kept
  rw [es, ← ho]
  simp [c_is_kept_away, wipeS, eo, cutG_nn, -List.map_drop, -List.map_take]
  rw [compP_map (M := M) (fun x : Itm => D.p x.enc) (fun _ => true) (fun x : Itm => D.p (.bool (x.isF && decide (s ≤ x.sz))))]
  · rw [List.filter_eq_self.mpr fun _ _ => rfl]
    have hz : ((xs.take p).drop o1).length ≤ 16777216 := by simp; omega
    have hb : boolsOf (((xs.take p).drop o1).map fun x => D.p (.bool (x.isF && decide (s ≤ x.sz)))) = some (((xs.take p).drop o1).map fun x => x.isF && decide (s ≤ x.sz)) := by
      have := boolsOf_map (((xs.take p).drop o1).map fun x => x.isF && decide (s ≤ x.sz))
      rw [List.map_map] at this
      exact this
    have za : ∀ M, zAny [.p (.list (((xs.take p).drop o1).map fun x => PyData.bool (x.isF && decide (s ≤ x.sz))))] M = .ok (.p (.bool (((xs.take p).drop o1).any fun x => x.isF && decide (s ≤ x.sz)))) M := fun M => by
      unfold zAny
      simp only [lstv_p, List.map_map]
      rw [show (D.p ∘ fun x : Itm => PyData.bool (x.isF && decide (s ≤ x.sz))) = fun x => D.p (.bool (x.isF && decide (s ≤ x.sz))) from rfl, hb]
      simp only [any_map_bool]
    have hz2 : min p xs.length - o1 ≤ 16777216 := by simpa using hz
    simp [-List.map_drop, -List.map_take, hz2, za]
  · intro x _
    refine ⟨_, rfl, rfl, fun _ => ?_⟩
    cases hx : x.isF with
    | false => simp [hx]
    | true => simp [hx, ix_sz _ hx, ix_sk _ hp, ix1]
theorem e_is_triple {xs : List Itm} (h : xs.length ≤ 1000) (hps : PSane xs) {o p g : Nat} {s a b : Int} (hp : xs[p]? = some (.fil s)) (ho : xs[o]? = some (.jmp g a b)) (M : Store) :
    F_is_triple [.p (sk xs), .p (.int (p : Int)), .p (.int (o : Int))] M = .ok (.p (.bool (tripB xs p o))) M := by
  apply fn_rt0
  have es : szAt xs p = s := by simp [szAt, hp, Itm.sz]
  have e1 : longOf xs o = b := by simp [longOf, ho]
  have e2 : shortOf xs o = a := by simp [shortOf, ho]
  have hs : 0 < s := hps s (List.mem_of_getElem? hp)
  have ix1 : ∀ M, zIx (.p (Itm.fil s).enc) (.p (.int 1)) M = .ok (.p (.int s)) M := fun M => rfl
  have k := e_kept_away h hp (o := o)
  have gr := fun M => e_growth (xs := xs) (o := o) (g := g) (s := a) (l := b) M
  unfold tripB
  rw [es, e1, e2]
  cases hk : kept xs o p with
  | true => simp [c_is_triple, k, hk]
  | false => simp [c_is_triple, k, hk, ix_sk _ hp, ix_sk _ ho, ix1, gr, hs]
theorem len_others (xs : List Itm) (j : Nat) : (othersOf xs j).length ≤ xs.length := Nat.le_trans (List.length_filter_le _ _) (len_places _ _)
theorem len_tripsAt (xs : List Itm) (j p : Nat) : (tripsAt xs j p).length ≤ xs.length := by
  unfold tripsAt
  rw [List.length_map]
  exact Nat.le_trans (List.length_filter_le _ _) (len_others _ _)
theorem len_flat2 {α β : Type} (f : α → List β) (b : Nat) : ∀ (l : List α), (∀ x ∈ l, (f x).length ≤ b) → (l.flatMap f).length ≤ b * l.length
  | [], _ => Nat.zero_le _
  | x :: l, h => by
    rw [List.flatMap_cons, List.length_append, List.length_cons, Nat.mul_succ]
    have h1 := h x List.mem_cons_self
    have h2 := len_flat2 f b l fun y hy => h y (List.mem_cons_of_mem _ hy)
    omega
theorem len_fillsIn {xs : List Itm} {j : Nat} (h : highOf xs j ≤ xs.length) : (fillsIn xs j).length ≤ xs.length := by
  unfold fillsIn
  refine Nat.le_trans (List.length_filter_le _ _) ?_
  rw [List.length_range']
  omega
theorem fil_at {xs : List Itm} {j p : Nat} (h : p ∈ fillsIn xs j) : xs[p]? = some (.fil (szAt xs p)) := by
  obtain ⟨_, h2⟩ := List.mem_filter.mp h
  unfold isFat at h2
  unfold szAt
  cases e : xs[p]? with
  | none => rw [e] at h2; cases h2
  | some x =>
    rw [e] at h2
    cases x with
    | fil s => rfl
    | _ => cases h2
def e3s (ts : List (Nat × Nat × Nat)) : List D := ts.map fun t => D.p (enc3 t)
theorem e3s_len (ts : List (Nat × Nat × Nat)) : (e3s ts).length = ts.length := by simp [e3s]
theorem in_range {xs : List Itm} {j : Nat} (hh : highOf xs j ≤ xs.length) {p : Nat} (hp : p ∈ List.range' (lowOf xs j + 1) (highOf xs j - (lowOf xs j + 1))) : p < xs.length := by
  rw [List.mem_range'_1] at hp
  omega
theorem high_le {xs : List Itm} (h : JSane xs) {j : Nat} (hj : j ∈ places Itm.isJ xs) : highOf xs j ≤ xs.length ∧ lowOf xs j ≤ xs.length := by
  have h1 := goal_le h hj
  have h2 := (List.getElem?_eq_some_iff.mp (jmp_at hj)).1
  unfold highOf lowOf
  omega
theorem jmp_other {xs : List Itm} {j o : Nat} (h : o ∈ othersOf xs j) : xs[o]? = some (.jmp (goal xs o) (shortOf xs o) (longOf xs o)) := jmp_at (List.mem_filter.mp h).1
theorem b_trip1 {xs : List Itm} (h : JSane xs) (hps : PSane xs) {j p : Nat} (hj : j ∈ places Itm.isJ xs) (hp : p ∈ fillsIn xs j) (M : Store) {ts : List (Nat × Nat × Nat)} (hts : ts.length ≤ 16000000) {d3 d6 : Option D} :
    L_triples_1 [some (.p (sk xs)), some (.ref M.length), some (.p (.int (j : Int))), d3, some (.p (.list (pnats (othersOf xs j)))), some (.p (.int (p : Int))), d6, none] (M ++ [Ob.lst (e3s ts)]) =
      .nx [some (.p (sk xs)), some (.ref M.length), some (.p (.int (j : Int))), d3, some (.p (.list (pnats (othersOf xs j)))), some (.p (.int (p : Int))), d6, none] (M ++ [Ob.lst (e3s (ts ++ tripsAt xs j p))]) := by
  have hl := len_tripsAt xs j p
  have hxl := h.1
  simp [L_triples_1, wipeS, dp_pnats]
  rw [compP_map (M := M ++ [Ob.lst (e3s ts)]) (fun o : Nat => D.p (.int (o : Int))) (tripB xs p) (fun o : Nat => D.p (enc3 (j, p, o)))]
  · have hz : ((othersOf xs j).filter (tripB xs p)).length ≤ 16777216 := by
      unfold tripsAt at hl
      rw [List.length_map] at hl
      omega
    have hz2 : ts.length + ((othersOf xs j).filter (tripB xs p)).length ≤ 16777216 := by
      unfold tripsAt at hl
      rw [List.length_map] at hl
      omega
    simp [hz, hz2, e3s_len]
    simp [e3s, tripsAt]
  · intro o ho
    have it := e_is_triple h.1 hps (fil_at hp) (jmp_other ho) (o := o)
    refine ⟨_, rfl, ?_, fun _ => ?_⟩
    · simp [it]
    · simp [mkTup, enc3]
theorem tr_cons (x y z : P) : PyData.tuple [x, y, z] = PyData.tuple [x, y, z] := rfl
theorem len_tripsOf {xs : List Itm} (hl : xs.length ≤ 200) {j : Nat} (hh : highOf xs j ≤ xs.length) : (tripsOf xs j).length ≤ 40000 := by
  unfold tripsOf
  have h1 := len_flat2 (tripsAt xs j) 200 (fillsIn xs j) fun p _ => Nat.le_trans (len_tripsAt xs j p) hl
  have h2 := len_fillsIn hh
  omega
theorem b_trip2 {xs : List Itm} (h : JSane xs) (hps : PSane xs) (hlen : xs.length ≤ 200) {j : Nat} (hj : j ∈ places Itm.isJ xs) (M : Store) {ts : List (Nat × Nat × Nat)} (hts : ts.length ≤ 8000000) {d3 d4 d5 : Option D} :
    Sat (fun out => ∃ d3 d4 d5, out = .nx [some (.p (sk xs)), some (.ref M.length), some (.p (.int (j : Int))), d3, d4, d5, none, none] (M ++ [Ob.lst (e3s (ts ++ tripsOf xs j))]))
    (L_triples_2 [some (.p (sk xs)), some (.ref M.length), some (.p (.int (j : Int))), d3, d4, d5, none, none] (M ++ [Ob.lst (e3s ts)])) := by
  obtain ⟨hh, hlo⟩ := high_le h hj
  have hx := jmp_at hj
  have hg := goal_le h hj
  have iw : ∀ M, F_in_way [.p (sk xs), .p (.int (j : Int))] M = .ok (.p (.tuple (pnats (List.range' (lowOf xs j + 1) (highOf xs j - (lowOf xs j + 1)))))) M := fun M => by
    rw [e_in_way hx h.1 (by omega), show min (j : Int) (goal xs j) + 1 = ((lowOf xs j + 1 : Nat) : Int) by unfold lowOf; omega, show max (j : Int) (goal xs j) = ((highOf xs j : Nat) : Int) by unfold highOf; omega, rgP_nat]
  have aw : ∀ M, F_ahead_of_way [.p (sk xs), .p (.int (j : Int))] M = .ok (.p (.tuple (pnats (List.range' 0 (lowOf xs j))))) M := fun M => by
    rw [e_ahead hx h.1 (by omega), show min (j : Int) (goal xs j) = ((lowOf xs j : Nat) : Int) by unfold lowOf; omega]
    have := rgP_nat 0 (lowOf xs j)
    simp at this
    rw [this]
  have c1 : ∀ (Q : Store) a1 a3 a4 a5, compP (tgN 6) (zt (z2 zEq (z2 zIx (z2 zIx (zv 0) (zv 6)) (zk (.int 0))) (zk (.str "fill")))) (zv 6) [some (.p (sk xs)), a1, some (.p (.int (j : Int))), a3, a4, a5, none, none] ((List.range' (lowOf xs j + 1) (highOf xs j - (lowOf xs j + 1))).map fun p : Nat => D.p (.int (p : Int))) Q = .ok ((pnats (fillsIn xs j)).map .p) Q := fun Q a1 a3 a4 a5 => by
    rw [compP_map (M := Q) (fun p : Nat => D.p (.int (p : Int))) (isFat xs) (fun p : Nat => D.p (.int (p : Int))), dp_pnats]
    · rfl
    · intro p hp
      have hy := List.getElem?_eq_getElem (in_range hh hp)
      refine ⟨_, rfl, ?_, fun _ => rfl⟩
      simp [isFat, ix_sk _ hy, hy]
  have c2 : ∀ (Q : Store) a1 a3 a4 a5, compP (tgN 6) (zt (z2 zEq (z2 zIx (z2 zIx (zv 0) (zv 6)) (zk (.int 0))) (zk (.str "jump")))) (zv 6) [some (.p (sk xs)), a1, some (.p (.int (j : Int))), a3, a4, a5, none, none] ((List.range' 0 (lowOf xs j)).map fun p : Nat => D.p (.int (p : Int))) Q = .ok ((pnats (othersOf xs j)).map .p) Q := fun Q a1 a3 a4 a5 => by
    rw [others_range hlo, compP_map (M := Q) (fun p : Nat => D.p (.int (p : Int))) (isJat xs) (fun p : Nat => D.p (.int (p : Int))), dp_pnats]
    intro p hp
    have hy := List.getElem?_eq_getElem (show p < xs.length by rw [List.mem_range'_1] at hp; omega)
    refine ⟨_, rfl, ?_, fun _ => rfl⟩
    simp [isJat, ix_sk _ hy, hy]
  have z1 : (fillsIn xs j).length ≤ 16777216 := by have := len_fillsIn hh; omega
  have z2' : (othersOf xs j).length ≤ 16777216 := by have := len_others xs j; omega
  simp [L_triples_2, iw, aw, wipeS, dp_pnats, c1, c2, z1, z2']
  refine forP_last _ _ (fun done sl M' => ∃ d5, sl = [some (.p (sk xs)), some (.ref M.length), some (.p (.int (j : Int))), some (.p (.list (pnats (fillsIn xs j)))), some (.p (.list (pnats (othersOf xs j)))), d5, none, none] ∧ M' = M ++ [Ob.lst (e3s (ts ++ done.flatMap (tripsAt xs j)))])
    ⟨d5, rfl, by simp⟩ ?_ ?_
  · rintro done p rest sl M' e ⟨d5, rfl, rfl⟩
    have hp : p ∈ fillsIn xs j := by rw [e]; simp
    have hd : (done.flatMap (tripsAt xs j)).length ≤ 40000 := by
      have h1 := len_flat2 (tripsAt xs j) 200 done fun p _ => Nat.le_trans (len_tripsAt xs j p) hlen
      have h2 := len_fillsIn hh
      rw [e] at h2
      simp at h2
      omega
    exact ⟨_, rfl, _, _, b_trip1 h hps hj hp M (by rw [List.length_append]; omega), some (.p (.int p)), rfl, by simp⟩
  · rintro sl M' ⟨d5, rfl, rfl⟩
    exact ⟨_, _, _, rfl⟩
theorem e_triples {xs : List Itm} (h : JSane xs) (hps : PSane xs) (hlen : xs.length ≤ 200) (M : Store) : F_triples [.p (sk xs)] M = .ok (.p (.tuple ((trips xs).map enc3))) M := by
  apply fn_satN
  simp [c_triples, e_jumps_of h.1, dp_pnats]
  refine forP_seq _ _ (fun done sl M' => ∃ d2 d3 d4 d5, sl = [some (.p (sk xs)), some (.ref M.length), d2, d3, d4, d5, none, none] ∧ M' = M ++ [Ob.lst (e3s (done.flatMap (tripsOf xs)))])
    ⟨none, none, none, none, rfl, rfl⟩ ?_ ?_
  · rintro done j rest sl M' e ⟨d2, d3, d4, d5, rfl, rfl⟩
    have hj : j ∈ places Itm.isJ xs := by rw [e]; simp
    have hd : (done.flatMap (tripsOf xs)).length ≤ 8000000 := by
      have h1 := len_flat2 (tripsOf xs) 40000 done fun i hi => by
        have hi' : i ∈ places Itm.isJ xs := by rw [e]; simp [hi]
        exact len_tripsOf hlen (high_le h hi').1
      have h2 := len_places Itm.isJ xs
      rw [e] at h2
      simp at h2
      omega
    obtain ⟨d3', d4', d5', e2⟩ := b_trip2 h hps hlen hj M hd (d3 := d3) (d4 := d4) (d5 := d5)
    exact ⟨_, rfl, _, _, e2, some (.p (.int j)), d3', d4', d5', rfl, by simp⟩
  · rintro sl M' ⟨d2, d3, d4, d5, rfl, rfl⟩
    have t : ∀ Q, zTuple [.ref M.length] (M ++ Ob.lst (e3s (trips xs)) :: Q) = .ok (.p (.tuple ((trips xs).map enc3))) (M ++ Ob.lst (e3s (trips xs)) :: Q) := fun Q => by
      simp [zTuple, e3s]
    have t0 := t []
    unfold trips at t0 ⊢
    simp [t0, Sat]
theorem sh_3 (ts : List (Nat × Nat × Nat)) : SeqAt.shaped (.tuple (ts.map enc3)) = true ∧ SeqAt.shaped (.list (ts.map enc3)) = true := sh_tup enc3 1 (by decide) (fun t => ⟨rfl, Nat.le_refl _⟩) ts
end ZL

namespace ZL
open PySem PySem.Spec PyProof.Rows L2 Z
theorem can_enc (x : Itm) : x.enc.canLay0 = true := by
  have a : (PyData.str "label").canLay0 = true := by decide +kernel
  have b : (PyData.str "fill").canLay0 = true := by decide +kernel
  have c : (PyData.str "jump").canLay0 = true := by decide +kernel
  cases x with
  | lab => show (_ && true) = true; rw [a]; rfl
  | fil s => show (_ && (true && true)) = true; rw [b]; rfl
  | jmp g s l => show (_ && (true && (true && (true && true)))) = true; rw [c]; rfl
theorem hid_nil (l : List Itm) (M : Store) : zEq (.p (.list (l.map Itm.enc))) (.p (.list [])) M = .ok (.p (.bool (decide (l = [])))) M := by
  have h := fun l => (sh_tup Itm.enc 1 (by decide) (fun x => ⟨can_enc x, by cases x <;> exact Nat.le_refl _⟩) l).2
  unfold zEq
  simp only [snap_p]
  have e : peq (.list (l.map Itm.enc)) (.list []) = some (decide (l = [])) := by
    show (if _ then _ else _) = _
    rw [if_pos ⟨h l, h []⟩]
    cases l with
    | nil => rfl
    | cons x r => rfl
  rw [e]
theorem b_three1 {xs : List Itm} (h : xs.length ≤ 1000) (hps : PSane xs) {j p o g : Nat} {s a b : Int} (hp : xs[p]? = some (.fil s)) (ho : xs[o]? = some (.jmp g a b)) (M : Store) {ts : List (Nat × Nat × Nat)} (hts : ts.length ≤ 16000000) {d2 d4 d5 d8 : Option D} :
    Sat (fun out => ∃ d8, out = .nx [some (.p (sk xs)), some (.ref M.length), d2, some (.p (.int (j : Int))), d4, d5, some (.p (.int (p : Int))), some (.p (.int (o : Int))), d8, none, none] (M ++ [Ob.lst (e3s (ts ++ if tripB xs p o then [(j, p, o)] else []))]))
    (L__law_threes_1 [some (.p (sk xs)), some (.ref M.length), d2, some (.p (.int (j : Int))), d4, d5, some (.p (.int (p : Int))), some (.p (.int (o : Int))), d8, none, none] (M ++ [Ob.lst (e3s ts)])) := by
  have es : szAt xs p = s := by simp [szAt, hp, Itm.sz]
  have e1 : longOf xs o = b := by simp [longOf, ho]
  have e2 : shortOf xs o = a := by simp [shortOf, ho]
  have hs : 0 < s := hps s (List.mem_of_getElem? hp)
  have ix1 : ∀ M, zIx (.p (Itm.fil s).enc) (.p (.int 1)) M = .ok (.p (.int s)) M := fun M => rfl
  have ix2 : ∀ M, zIx (.p (Itm.jmp g a b).enc) (.p (.int 2)) M = .ok (.p (.int a)) M := fun M => rfl
  have ix3 : ∀ M, zIx (.p (Itm.jmp g a b).enc) (.p (.int 3)) M = .ok (.p (.int b)) M := fun M => rfl
  have hz : (((xs.take p).drop o).filter fun x => x.isF && decide (s ≤ x.sz)).length ≤ 16777216 := by
    have := List.length_filter_le (fun x : Itm => x.isF && decide (s ≤ x.sz)) ((xs.take p).drop o)
    simp at this
    omega
  have hk : decide ((((xs.take p).drop o).filter fun x => x.isF && decide (s ≤ x.sz)) = []) = !kept xs o p := by
    unfold kept
    rw [es]
    have dr : ((xs.take p).drop o).any (fun x => x.isF && decide (s ≤ x.sz)) = ((xs.take p).drop (o + 1)).any (fun x => x.isF && decide (s ≤ x.sz)) := by
      by_cases hop : o < p
      · have e : (xs.take p)[o]? = some (.jmp g a b) := by rw [List.getElem?_take, if_pos hop]; exact ho
        obtain ⟨hl, e⟩ := List.getElem?_eq_some_iff.mp e
        rw [List.drop_eq_getElem_cons hl, e]
        simp [Itm.isF]
      · rw [List.drop_eq_nil_of_le (by simp; omega), List.drop_eq_nil_of_le (by simp; omega)]
    rw [← dr]
    cases hc : ((xs.take p).drop o).any (fun x => x.isF && decide (s ≤ x.sz)) with
    | true =>
      obtain ⟨x, hx, hx2⟩ := List.any_eq_true.mp hc
      simp only [Bool.not_true, decide_eq_false_iff_not]
      intro z
      have : x ∈ (((xs.take p).drop o).filter fun x => x.isF && decide (s ≤ x.sz)) := List.mem_filter.mpr ⟨hx, hx2⟩
      rw [z] at this
      cases this
    | false =>
      simp only [Bool.not_false, decide_eq_true_eq]
      rw [List.filter_eq_nil_iff]
      intro x hx hx2
      rw [List.any_eq_false] at hc
      exact hc x hx hx2
  have co : ∀ (Q : Store) a1 a2 a3 a4 a5 a8, compP (tgN 10) (ztand (zt (z2 zEq (z2 zIx (zv 10) (zk (.int 0))) (zk (.str "fill")))) (zt (z2 zGe (z2 zIx (zv 10) (zk (.int 1))) (z2 zIx (z2 zIx (zv 0) (zv 6)) (zk (.int 1)))))) (zv 10)
      [some (.p (sk xs)), a1, a2, a3, a4, a5, some (.p (.int (p : Int))), some (.p (.int (o : Int))), a8, none, none] (((xs.take p).drop o).map fun x => D.p x.enc) Q = .ok (((((xs.take p).drop o).filter fun x => x.isF && decide (s ≤ x.sz)).map Itm.enc).map .p) Q := fun Q a1 a2 a3 a4 a5 a8 => by
    rw [compP_map (M := Q) (fun x : Itm => D.p x.enc) (fun x => x.isF && decide (s ≤ x.sz)) (fun x : Itm => D.p x.enc), dp_enc]
    intro x _
    refine ⟨_, rfl, ?_, fun _ => rfl⟩
    cases hx : x.isF with
    | false => simp [hx]
    | true => simp [hx, ix_sz _ hx, ix_sk _ hp, ix1]
  obtain ⟨hidden, hhid⟩ : ∃ hidden, hidden = (((xs.take p).drop o).filter fun x => x.isF && decide (s ≤ x.sz)) := ⟨_, rfl⟩
  rw [← hhid] at hk hz
  rw [← hhid] at co
  have hn := hid_nil hidden
  rw [hk] at hn
  have hz' : (hidden.map Itm.enc).length ≤ 16777216 := by rw [List.length_map]; exact hz
  obtain ⟨hs', hhs⟩ : ∃ hs', hs' = hidden.map Itm.enc := ⟨_, rfl⟩
  rw [← hhs] at hn hz' co
  have ap : zAppend (.ref M.length) [.p (enc3 (j, p, o))] (M ++ [Ob.lst (e3s ts)]) = .ok (.p .none) (M ++ [Ob.lst (e3s (ts ++ [(j, p, o)]))]) := by
    have hzt : ts.length < 16777216 := by omega
    rw [zAppend_e]
    simp [e3s_len, hzt]
    simp [e3s]
  have mk : PyData.tuple [.int (j : Int), .int (p : Int), .int (o : Int)] = enc3 (j, p, o) := rfl
  unfold tripB
  rw [es, e1, e2]
  cases hkk : kept xs o p with
  | true =>
    rw [hkk] at hn
    simp [L__law_threes_1, wipeS, cutG_nn, -List.map_drop, -List.map_take, co, hz', mkLstF, hn, Sat]
  | false =>
    rw [hkk] at hn
    by_cases hm : (b - a) % s = 0
    · simp [L__law_threes_1, wipeS, cutG_nn, -List.map_drop, -List.map_take, co, hz', mkLstF, hn, Sat, ix_sk _ ho, ix_sk _ hp, ix1, ix2, ix3, hs, hm]
    · simp [L__law_threes_1, -zAppend_e, wipeS, cutG_nn, -List.map_drop, -List.map_take, co, hz', mkLstF, hn, Sat, ix_sk _ ho, ix_sk _ hp, ix1, ix2, ix3, hs, hm, mkTup, mk, ap]
end ZL

namespace ZL
open PySem PySem.Spec PyProof.Rows L2 Z
theorem filter_map_append {α β : Type} (p : α → Bool) (f : α → β) (a : List α) (x : α) : ((a ++ [x]).filter p).map f = (a.filter p).map f ++ if p x then [f x] else [] := by
  cases h : p x <;> simp [h]
theorem b_three2 {xs : List Itm} (h : JSane xs) (hps : PSane xs) (hlen : xs.length ≤ 200) {j p : Nat} (hj : j ∈ places Itm.isJ xs) (hp : p ∈ fillsIn xs j) (M : Store) {ts : List (Nat × Nat × Nat)} (hts : ts.length ≤ 15000000) {d5 d7 d8 : Option D} :
    Sat (fun out => ∃ d7 d8, out = .nx [some (.p (sk xs)), some (.ref M.length), some (.p (.list (pnats (places Itm.isJ xs)))), some (.p (.int (j : Int))), some (.p (.int (lowOf xs j : Int))), d5, some (.p (.int (p : Int))), d7, d8, none, none] (M ++ [Ob.lst (e3s (ts ++ tripsAt xs j p))]))
    (L__law_threes_2 [some (.p (sk xs)), some (.ref M.length), some (.p (.list (pnats (places Itm.isJ xs)))), some (.p (.int (j : Int))), some (.p (.int (lowOf xs j : Int))), d5, some (.p (.int (p : Int))), d7, d8, none, none] (M ++ [Ob.lst (e3s ts)])) := by
  obtain ⟨lo, hlo⟩ : ∃ lo, lo = lowOf xs j := ⟨_, rfl⟩
  rw [← hlo]
  have co : ∀ (Q : Store) a1 a2 a3 a5 a6 a7 a8, compP (tgN 9) (zt (z2 zLt (zv 9) (zv 4))) (zv 9) [some (.p (sk xs)), a1, a2, a3, some (.p (.int (lo : Int))), a5, a6, a7, a8, none, none] ((places Itm.isJ xs).map fun o : Nat => D.p (.int (o : Int))) Q = .ok ((pnats (othersOf xs j)).map .p) Q := fun Q a1 a2 a3 a5 a6 a7 a8 => by
    rw [compP_map (M := Q) (fun o : Nat => D.p (.int (o : Int))) (fun o => decide (o < lo)) (fun o : Nat => D.p (.int (o : Int))), dp_pnats]
    · unfold othersOf
      rw [hlo]
    · intro o _
      refine ⟨_, rfl, ?_, fun _ => rfl⟩
      simp
  have z1 : (othersOf xs j).length ≤ 16777216 := by have := len_others xs j; omega
  simp [L__law_threes_2, wipeS, dp_pnats, co, z1]
  refine forP_last _ _ (fun done sl M' => ∃ d7 d8, sl = [some (.p (sk xs)), some (.ref M.length), some (.p (.list (pnats (places Itm.isJ xs)))), some (.p (.int (j : Int))), some (.p (.int (lo : Int))), d5, some (.p (.int (p : Int))), d7, d8, none, none] ∧ M' = M ++ [Ob.lst (e3s (ts ++ (done.filter (tripB xs p)).map fun o => (j, p, o)))])
    ⟨d7, d8, rfl, by simp⟩ ?_ ?_
  · rintro done o rest sl M' e ⟨d7, d8, rfl, rfl⟩
    have ho : o ∈ othersOf xs j := by rw [e]; simp
    have hd : ((done.filter (tripB xs p)).map fun o => (j, p, o)).length ≤ 200 := by
      rw [List.length_map]
      refine Nat.le_trans (List.length_filter_le _ _) ?_
      have := len_others xs j
      rw [e] at this
      simp at this
      omega
    obtain ⟨d8', e2⟩ := b_three1 h.1 hps (j := j) (fil_at hp) (jmp_other ho) M (ts := ts ++ (done.filter (tripB xs p)).map fun o => (j, p, o)) (by rw [List.length_append]; omega) (d2 := some (.p (.list (pnats (places Itm.isJ xs))))) (d4 := some (.p (.int (lo : Int)))) (d5 := d5) (d8 := d8)
    refine ⟨_, rfl, _, _, e2, some (.p (.int o)), d8', rfl, ?_⟩
    rw [filter_map_append, List.append_assoc]
  · rintro sl M' ⟨d7, d8, rfl, rfl⟩
    exact ⟨_, _, rfl⟩
theorem b_three3 {xs : List Itm} (h : JSane xs) (hps : PSane xs) (hlen : xs.length ≤ 200) {j : Nat} (hj : j ∈ places Itm.isJ xs) (M : Store) {ts : List (Nat × Nat × Nat)} (hts : ts.length ≤ 8000000) {d4 d5 d6 d7 d8 : Option D} :
    Sat (fun out => ∃ d4 d5 d6 d7 d8, out = .nx [some (.p (sk xs)), some (.ref M.length), some (.p (.list (pnats (places Itm.isJ xs)))), some (.p (.int (j : Int))), d4, d5, d6, d7, d8, none, none] (M ++ [Ob.lst (e3s (ts ++ tripsOf xs j))]))
    (L__law_threes_3 [some (.p (sk xs)), some (.ref M.length), some (.p (.list (pnats (places Itm.isJ xs)))), some (.p (.int (j : Int))), d4, d5, d6, d7, d8, none, none] (M ++ [Ob.lst (e3s ts)])) := by
  obtain ⟨hh, hlo⟩ := high_le h hj
  have hx2 := jmp_at hj
  obtain ⟨lo, hlo'⟩ : ∃ lo, lo = lowOf xs j := ⟨_, rfl⟩
  obtain ⟨hi, hhi⟩ : ∃ hi, hi = highOf xs j := ⟨_, rfl⟩
  obtain ⟨l1, hl1⟩ : ∃ l1, l1 = lo + 1 := ⟨_, rfl⟩
  have em : ∀ M, zMin [.p (.int (j : Int)), .p (.int (goal xs j : Int))] M = .ok (.p (.int (lo : Int))) M := fun M => by
    rw [zMin_2, show min (j : Int) (goal xs j) = (lo : Int) by rw [hlo']; unfold lowOf; omega]
  have eM : ∀ M, zMax [.p (.int (j : Int)), .p (.int (goal xs j : Int))] M = .ok (.p (.int (hi : Int))) M := fun M => by
    rw [zMax_2, show max (j : Int) (goal xs j) = (hi : Int) by rw [hhi]; unfold highOf; omega]
  have em1 : (lo : Int) + 1 = (l1 : Int) := by omega
  have rg : ∀ M, rgo2 (l1 : Int) (hi : Int) M = .ok ((List.range' l1 (hi - l1)).map fun p : Nat => D.p (.int (p : Int))) M := fun M => rgo2_nat (by omega) (by omega) M
  have hfl : fillsIn xs j = (List.range' l1 (hi - l1)).filter (isFat xs) := by unfold fillsIn; rw [hl1, hlo', hhi]
  have co : ∀ (Q : Store) a1 a2 a3 a4 a5 a6 a7 a8, compP (tgN 9) (zt (z2 zEq (z2 zIx (z2 zIx (zv 0) (zv 9)) (zk (.int 0))) (zk (.str "fill")))) (zv 9) [some (.p (sk xs)), a1, a2, a3, a4, a5, a6, a7, a8, none, none] ((List.range' l1 (hi - l1)).map fun p : Nat => D.p (.int (p : Int))) Q = .ok ((pnats (fillsIn xs j)).map .p) Q := fun Q a1 a2 a3 a4 a5 a6 a7 a8 => by
    rw [hfl, compP_map (M := Q) (fun p : Nat => D.p (.int (p : Int))) (isFat xs) (fun p : Nat => D.p (.int (p : Int))), dp_pnats]
    intro p hp
    have hy := List.getElem?_eq_getElem (show p < xs.length by rw [List.mem_range'_1] at hp; omega)
    refine ⟨_, rfl, ?_, fun _ => rfl⟩
    simp [isFat, ix_sk _ hy, hy]
  have z1 : (fillsIn xs j).length ≤ 16777216 := by have := len_fillsIn hh; omega
  simp [L__law_threes_3, -zMin_2, -zMax_2, ix_sk _ hx2, Itm.enc, em, eM, em1, rg, wipeS, co, z1, dp_pnats]
  rw [hlo'] 
  refine forP_last _ _ (fun done sl M' => ∃ d6 d7 d8, sl = [some (.p (sk xs)), some (.ref M.length), some (.p (.list (pnats (places Itm.isJ xs)))), some (.p (.int (j : Int))), some (.p (.int (lowOf xs j : Int))), some (.p (.int (hi : Int))), d6, d7, d8, none, none] ∧ M' = M ++ [Ob.lst (e3s (ts ++ done.flatMap (tripsAt xs j)))])
    ⟨d6, d7, d8, rfl, by simp⟩ ?_ ?_
  · rintro done p rest sl M' e ⟨d6, d7, d8, rfl, rfl⟩
    have hp : p ∈ fillsIn xs j := by rw [e]; simp
    have hd : (done.flatMap (tripsAt xs j)).length ≤ 40000 := by
      have h1 := len_flat2 (tripsAt xs j) 200 done fun p _ => Nat.le_trans (len_tripsAt xs j p) hlen
      have h2 := len_fillsIn hh
      rw [e] at h2
      simp at h2
      omega
    obtain ⟨d7', d8', e2⟩ := b_three2 h hps hlen hj hp M (ts := ts ++ done.flatMap (tripsAt xs j)) (by rw [List.length_append]; omega) (d5 := some (.p (.int (hi : Int)))) (d7 := d7) (d8 := d8)
    exact ⟨_, rfl, _, _, e2, some (.p (.int p)), d7', d8', rfl, by simp⟩
  · rintro sl M' ⟨d6, d7, d8, rfl, rfl⟩
    exact ⟨_, _, _, _, _, rfl⟩
theorem al3 (t u : Nat × Nat × Nat) : PySem.W.alike (enc3 t) (enc3 u) = true := by simp [enc3, PySem.W.alike, PySem.W.alikeAll]
theorem sort3 (ts : List (Nat × Nat × Nat)) (h : ts.length ≤ 16000000) : psortT (ts.map enc3) :=
  ⟨PySem.W.AllAlike.of al3, .inr (PySem.W.Sortable.tuples fun t => ⟨_, _, rfl⟩), by rw [List.length_map, sizeLine_val]; omega, fun x hx => by
    obtain ⟨t, _, rfl⟩ := List.mem_map.mp hx
    exact (show (1 : Nat) ≤ 60 by decide)⟩
theorem e_threes {xs : List Itm} (h : JSane xs) (hps : PSane xs) (hlen : xs.length ≤ 200) (M : Store) : F__law_threes [.p (sk xs)] M = .ok (.p (.list (psort ((trips xs).map enc3)))) M := by
  apply fn_satN
  simp [c__law_threes, e_law_jumps h.1, dp_pnats]
  have cnt : ∀ done rest j, places Itm.isJ xs = done ++ j :: rest → (done.flatMap (tripsOf xs)).length ≤ 8000000 := fun done rest j e => by
    have h1 := len_flat2 (tripsOf xs) 40000 done fun i hi => by
      have hi' : i ∈ places Itm.isJ xs := by rw [e]; simp [hi]
      exact len_tripsOf hlen (high_le h hi').1
    have h2 := len_places Itm.isJ xs
    rw [e] at h2
    simp at h2
    omega
  refine forP_seq _ _ (fun done sl M' => ∃ d3 d4 d5 d6 d7 d8, sl = [some (.p (sk xs)), some (.ref M.length), some (.p (.list (pnats (places Itm.isJ xs)))), d3, d4, d5, d6, d7, d8, none, none] ∧ M' = M ++ [Ob.lst (e3s (done.flatMap (tripsOf xs)))])
    ⟨none, none, none, none, none, none, rfl, rfl⟩ ?_ ?_
  · rintro done j rest sl M' e ⟨d3, d4, d5, d6, d7, d8, rfl, rfl⟩
    have hj : j ∈ places Itm.isJ xs := by rw [e]; simp
    obtain ⟨d4', d5', d6', d7', d8', e2⟩ := b_three3 h hps hlen hj M (cnt _ _ _ e) (d4 := d4) (d5 := d5) (d6 := d6) (d7 := d7) (d8 := d8)
    exact ⟨_, rfl, _, _, e2, some (.p (.int j)), d4', d5', d6', d7', d8', rfl, by simp⟩
  · rintro sl M' ⟨d3, d4, d5, d6, d7, d8, rfl, rfl⟩
    have ht : (trips xs).length ≤ 16000000 := by
      have h1 := len_flat2 (tripsOf xs) 40000 (places Itm.isJ xs) fun i hi => len_tripsOf hlen (high_le h hi).1
      have h2 := len_places Itm.isJ xs
      unfold trips
      omega
    have t : ∀ Q, zSort [.ref M.length] (M ++ Ob.lst (e3s (trips xs)) :: Q) = .ok (.p (.list (psort ((trips xs).map enc3)))) (M ++ Ob.lst (e3s (trips xs)) :: Q) := fun Q => by
      have hp : pures (e3s (trips xs)) = some ((trips xs).map enc3) := by unfold e3s; exact pures_mapf _ _
      unfold zSort
      simp only [seqv_r, lstv_app0, lstv_c0, hp]
      rw [if_pos (sort3 _ ht)]
    have t0 := t []
    unfold trips at t0 ⊢
    simp [t0, Sat]
theorem psort_nil (ts : List (Nat × Nat × Nat)) (M : Store) : zEq (.p (.list (psort (ts.map enc3)))) (.p (.list [])) M = .ok (.p (.bool (decide (ts = [])))) M ∧ zNe (.p (.list (psort (ts.map enc3)))) (.p (.list [])) M = .ok (.p (.bool (!decide (ts = [])))) M := by
  have hm : ∀ x ∈ psort (ts.map enc3), ∃ t, x = enc3 t := fun x hx => by
    have : x ∈ ts.map enc3 := (List.mergeSort_perm _ _).mem_iff.mp hx
    obtain ⟨t, _, rfl⟩ := List.mem_map.mp this
    exact ⟨t, rfl⟩
  obtain ⟨us, hus⟩ : ∃ us : List (Nat × Nat × Nat), psort (ts.map enc3) = us.map enc3 := by
    generalize psort (ts.map enc3) = l at hm
    induction l with
    | nil => exact ⟨[], rfl⟩
    | cons x l ih =>
      obtain ⟨t, rfl⟩ := hm x List.mem_cons_self
      obtain ⟨us, e⟩ := ih fun y hy => hm y (List.mem_cons_of_mem _ hy)
      exact ⟨t :: us, by rw [e]; rfl⟩
  have hl : us.length = ts.length := by
    have := congrArg List.length hus
    rw [psort, List.length_mergeSort, List.length_map, List.length_map] at this
    exact this.symm
  have hd : decide (us = []) = decide (ts = []) := by
    rw [decide_eq_decide, ← List.length_eq_zero_iff, ← List.length_eq_zero_iff, hl]
  have e : peq (.list (us.map enc3)) (.list []) = some (decide (us = [])) := by
    show (if _ then _ else _) = _
    rw [if_pos ⟨(sh_3 us).2, (sh_3 []).2⟩]
    cases us with
    | nil => rfl
    | cons x r => rfl
  rw [hus, ← hd]
  constructor
  · unfold zEq
    simp only [snap_p, e]
  · unfold zNe
    simp only [snap_p, e]
end ZL

namespace ZL
open PySem PySem.Spec PyProof.Rows L2 Z
theorem kept_iff {xs : List Itm} {o p : Nat} {s : Int} (hp : xs[p]? = some (.fil s)) : kept xs o p = false ↔ ∀ r t, o < r → r < p → xs[r]? = some (.fil t) → t < s := by
  have es : szAt xs p = s := by simp [szAt, hp, Itm.sz]
  unfold kept
  rw [es, List.any_eq_false]
  constructor
  · intro h r t h1 h2 h3
    have hm : Itm.fil t ∈ (xs.take p).drop (o + 1) := by
      refine List.mem_iff_getElem?.mpr ⟨r - (o + 1), ?_⟩
      rw [List.getElem?_drop, List.getElem?_take, show o + 1 + (r - (o + 1)) = r by omega, if_pos h2, h3]
    have := h _ hm
    have h5 : ¬ s ≤ t := fun z => this (by show (true && decide (s ≤ t)) = true; rw [decide_eq_true z]; rfl)
    omega
  · intro h x hx hc
    obtain ⟨i, hi⟩ := List.getElem?_of_mem hx
    rw [List.getElem?_drop, List.getElem?_take] at hi
    split at hi
    · cases x with
      | fil t =>
        have := h (o + 1 + i) t (by omega) (by assumption) hi
        have h5 : s ≤ t := of_decide_eq_true (show decide (s ≤ t) = true from hc)
        omega
      | lab => simp [Itm.isF] at hc
      | jmp g a b => simp [Itm.isF] at hc
    · cases hi
theorem mem_trips {xs : List Itm} {j p o : Nat} : (j, p, o) ∈ trips xs ↔ j ∈ places Itm.isJ xs ∧ p ∈ fillsIn xs j ∧ o ∈ othersOf xs j ∧ tripB xs p o = true := by
  unfold trips tripsOf tripsAt
  simp only [List.mem_flatMap, List.mem_map, List.mem_filter]
  constructor
  · rintro ⟨j', hj, p', hp, o', ⟨ho, ht⟩, e⟩
    cases e
    exact ⟨hj, hp, ho, ht⟩
  · rintro ⟨hj, hp, ho, ht⟩
    exact ⟨j, hj, p, hp, o, ⟨ho, ht⟩, rfl⟩
theorem trips_nil {xs : List Itm} (hps : PSane xs) : trips xs = [] ↔ ∀ o p s, o ∈ places Itm.isJ xs → Cand xs o p s → (longOf xs o - shortOf xs o) % s = 0 := by
  constructor
  · rintro h o p s ho ⟨hp, hs, hr, j, g, a, b, hx, h1, h2, h3, h4⟩
    refine Classical.byContradiction fun hne => ?_
    have hj : j ∈ places Itm.isJ xs := mem_places.mpr ⟨_, hx, rfl⟩
    have hg : goal xs j = g := by simp [goal, hx]
    have es : szAt xs p = s := by simp [szAt, hp, Itm.sz]
    have hm : (j, p, o) ∈ trips xs := mem_trips.mpr ⟨hj, List.mem_filter.mpr ⟨by
      rw [List.mem_range'_1]
      unfold lowOf highOf
      rw [hg]
      omega, by simp [isFat, hp, Itm.isF]⟩, List.mem_filter.mpr ⟨ho, by
      unfold lowOf
      rw [hg]
      exact decide_eq_true (by omega)⟩, by
      unfold tripB
      rw [(kept_iff hp).mpr hr, es]
      simpa using hne⟩
    rw [h] at hm
    cases hm
  · intro h
    refine List.eq_nil_iff_forall_not_mem.mpr fun t ht => ?_
    obtain ⟨j, p, o⟩ := t
    obtain ⟨hj, hp, ho, hb⟩ := mem_trips.mp ht
    have hx := jmp_at hj
    have hf := fil_at hp
    unfold tripB at hb
    simp only [Bool.and_eq_true, Bool.not_eq_true', decide_eq_true_eq] at hb
    obtain ⟨ho1, ho2⟩ := List.mem_filter.mp ho
    obtain ⟨hp1, _⟩ := List.mem_filter.mp hp
    rw [List.mem_range'_1] at hp1
    have ho3 : o < lowOf xs j := of_decide_eq_true ho2
    unfold lowOf at hp1 ho3
    unfold highOf at hp1
    exact hb.2 (h o p _ ho1 ⟨hf, hps _ (List.mem_of_getElem? hf), (kept_iff hf).mp hb.1, j, _, _, _, hx, by omega, by omega, by omega, by omega⟩)
theorem p2_dvd {s t : Int} (hs : s ∈ P2) (ht : t ∈ P2) (h : s ≤ t) : t % s = 0 := by
  simp [P2] at hs ht
  rcases hs with rfl | rfl | rfl | rfl | rfl | rfl <;> rcases ht with rfl | rfl | rfl | rfl | rfl | rfl <;> first | rfl | omega
def Fil2 (xs : List Itm) : Prop := ∀ s, Itm.fil s ∈ xs → s ∈ P2
theorem Fil2.pos {xs : List Itm} (h : Fil2 xs) : PSane xs := fun s hs => by have := p2_in (h s hs); omega
theorem cand_p2 {xs : List Itm} (h : Fil2 xs) {o p : Nat} {s : Int} (c : Cand xs o p s) : s ∈ P2 := h s (List.mem_of_getElem? c.1)
theorem cand_le {xs : List Itm} {o p : Nat} {s : Int} (c : Cand xs o p s) : s ≤ step xs o := (foldl_max_ge _ 1).2 s (mem_holds.mpr ⟨p, c⟩)
theorem step_cases (xs : List Itm) (o : Nat) : step xs o = 1 ∨ ∃ p, Cand xs o p (step xs o) := by
  rcases foldl_max_mem ((places Itm.isJ xs).flatMap (holds xs o)) 1 with h | h
  · exact .inl h
  · exact .inr (mem_holds.mp h)
theorem cand_dvd {xs : List Itm} (h : Fil2 xs) {o p : Nat} {s : Int} (c : Cand xs o p s) (q : Int) : (q * step xs o) % s = 0 := by
  have h1 := cand_p2 h c
  have h2 := cand_le c
  have h3 := p2_in h1
  rcases step_cases xs o with e | ⟨p', c'⟩
  · omega
  · have h4 := p2_dvd h1 (cand_p2 h c') h2
    exact Int.emod_eq_zero_of_dvd (Int.dvd_trans (Int.dvd_of_emod_eq_zero h4) (Int.dvd_mul_left _ _))
/-- all held sizes in order: no triple -/
theorem trips_sized {xs : List Itm} (h : Fil2 xs) : trips (sized xs (mend xs)) = [] := by
  have hps : PSane (sized xs (mend xs)) := fun s hs => by
    obtain ⟨p, hp⟩ := List.getElem?_of_mem hs
    have := sized_get (mendAt xs) xs p
    unfold mend at hp
    rw [this] at hp
    cases e1 : xs[p]? with
    | none => rw [e1] at hp; cases hp
    | some x =>
      rw [e1] at hp
      cases x with
      | lab => simp [setL] at hp
      | jmp g' s' l' => simp [setL] at hp
      | fil s' =>
        simp [setL] at hp
        have := p2_in (h s' (List.mem_of_getElem? e1))
        omega
  rw [trips_nil hps]
  intro o p s ho c
  unfold mend at ho c ⊢
  rw [sized_cand] at c
  rw [sized_places] at ho
  have hx := jmp_at ho
  have e : (sized xs ((places Itm.isJ xs).map (mendAt xs)))[o]? = some (.jmp (goal xs o) (shortOf xs o) (mendAt xs o)) := by rw [sized_get, hx]; rfl
  have e1 : shortOf (sized xs ((places Itm.isJ xs).map (mendAt xs))) o = shortOf xs o := by simp [shortOf, e]
  have e2 : longOf (sized xs ((places Itm.isJ xs).map (mendAt xs))) o = mendAt xs o := by simp [longOf, e]
  rw [e1, e2, show mendAt xs o - shortOf xs o = (longOf xs o - shortOf xs o + step xs o - 1) / step xs o * step xs o by unfold mendAt; omega]
  exact cand_dvd h c _
/-- steady is: nothing to mend -/
theorem trips_own {xs : List Itm} (h : Fil2 xs) : trips xs = [] ↔ (places Itm.isJ xs).map (longOf xs) = mend xs := by
  rw [trips_nil h.pos]
  constructor
  · intro k
    unfold mend
    apply List.map_congr_left
    intro o ho
    have : ∃ q, longOf xs o - shortOf xs o = q * step xs o := by
      rcases step_cases xs o with e | ⟨p, c⟩
      · exact ⟨longOf xs o - shortOf xs o, by rw [e]; omega⟩
      · obtain ⟨q, hq⟩ := Int.dvd_of_emod_eq_zero (k o p _ ho c)
        exact ⟨q, by rw [hq, Int.mul_comm]⟩
    obtain ⟨q, hq⟩ := this
    unfold mendAt
    rw [hq, round2 (step_pos xs o)]
    omega
  · intro k o p s ho c
    have e : longOf xs o = mendAt xs o := List.map_inj_left.mp k o ho
    rw [show longOf xs o - shortOf xs o = (longOf xs o - shortOf xs o + step xs o - 1) / step xs o * step xs o by have := e; unfold mendAt at this; omega]
    exact cand_dvd h c _
/-- a skeleton with sizes put in is in order -/
theorem sized_sane {xs : List Itm} (h : Gd xs) (f : Nat → Int) : JSane (sized xs ((places Itm.isJ xs).map f)) ∧ PSane (sized xs ((places Itm.isJ xs).map f)) ∧ (sized xs ((places Itm.isJ xs).map f)).length ≤ 200 := by
  have hl := h.2.1
  refine ⟨⟨by rw [sized_len]; omega, fun j g s l e => ?_⟩, fun s hs => ?_, by rw [sized_len]; omega⟩
  · rw [sized_get] at e
    rw [sized_len]
    cases e1 : xs[j]? with
    | none => rw [e1] at e; cases e
    | some x =>
      rw [e1] at e
      cases x with
      | lab => simp [setL] at e
      | fil s => simp [setL] at e
      | jmp g' s' l' =>
        simp [setL] at e
        rw [← e.1]
        exact (h.1 _ (List.mem_of_getElem? e1)).1
  · obtain ⟨p, hp⟩ := List.getElem?_of_mem hs
    rw [sized_get] at hp
    cases e1 : xs[p]? with
    | none => rw [e1] at hp; cases hp
    | some x =>
      rw [e1] at hp
      cases x with
      | lab => simp [setL] at hp
      | jmp g' s' l' => simp [setL] at hp
      | fil s' =>
        simp [setL] at hp
        have := p2_in (h.1 _ (List.mem_of_getElem? e1))
        omega
theorem Gd.fil2 {xs : List Itm} (h : Gd xs) : Fil2 xs := fun s hs => h.1 _ hs
end ZL

namespace ZL
open PySem PySem.Spec PyProof.Rows L2 Z
/-! ### all long sizes -/
def rowsTo (lo : Int) (n : Nat) (rows : List (List Int)) : List (List Int) := (List.range n).flatMap fun k : Nat => rows.map fun r => r ++ [lo + (k : Int)]
def allRows (xs : List Itm) (more : Nat) (js : List Nat) : List (List Int) := js.foldl (fun rows j => rowsTo (longOf xs j) (more + 1) rows) [[]]
def encR (rows : List (List Int)) : List P := rows.map fun r => .tuple (pints r)
theorem rows_len (lo : Int) (n : Nat) (rows : List (List Int)) : (rowsTo lo n rows).length = n * rows.length := by
  unfold rowsTo
  induction n with
  | zero => simp
  | succ n ih =>
    rw [List.range_succ, List.flatMap_append, List.length_append, ih, Nat.succ_mul]
    simp
theorem add_rows (a b : List P) (h : a.length + b.length ≤ 16000000) (M : Store) : zAdd (.p (.list a)) (.p (.list b)) M = .ok (.p (.list (a ++ b))) M := by
  simp only [zAdd, zAddL, lstv_p]
  rw [← List.map_append, frzl_map, if_pos (by rw [sizeLine_val, List.length_append]; omega)]
theorem b_all1 {rows cur : List (List Int)} {size : Int} (hr : ∀ r ∈ rows, r.length ≤ 1000) (hl : rows.length ≤ 100000) (hc : cur.length ≤ 10000000) {d0 d1 d3 d6 : Option D} (M : Store) :
    L__law_all_sizes_1 [d0, d1, some (.p (.list (encR rows))), d3, some (.p (.list (encR cur))), some (.p (.int size)), d6] M =
      .nx [d0, d1, some (.p (.list (encR rows))), d3, some (.p (.list (encR (cur ++ rows.map fun r => r ++ [size])))), some (.p (.int size)), d6] M := by
  have co : compP (tgN 6) ztyes (z2 zAdd (zv 6) (zs mkTup (zcons (zv 5) znil))) [d0, d1, some (.p (.list (encR rows))), d3, some (.p (.list (encR cur))), some (.p (.int size)), none] ((encR rows).map .p) M = .ok ((encR (rows.map fun r => r ++ [size])).map .p) M := by
    have := compP_map (f := tgN 6) (t := ztyes) (e := z2 zAdd (zv 6) (zs mkTup (zcons (zv 5) znil))) (sl := [d0, d1, some (.p (.list (encR rows))), d3, some (.p (.list (encR cur))), some (.p (.int size)), none]) (M := M) (fun r : List Int => D.p (.tuple (pints r))) (fun _ => true) (fun r : List Int => D.p (.tuple (pints (r ++ [size])))) rows fun r hrm => by
      refine ⟨_, rfl, rfl, fun _ => ?_⟩
      have := hr r hrm
      have hz : r.length + 1 ≤ 16777216 := by omega
      simp [mkTup, zAdd, hz]
      simp [pints]
    rw [List.filter_eq_self.mpr fun _ _ => rfl] at this
    rw [show (encR rows).map D.p = rows.map fun r : List Int => D.p (.tuple (pints r)) by simp [encR], this]
    simp [encR]
  obtain ⟨er, her⟩ : ∃ er, er = encR (rows.map fun r => r ++ [size]) := ⟨_, rfl⟩
  have hel : er.length = rows.length := by rw [her]; simp [encR]
  have hz : er.length ≤ 16777216 := by omega
  rw [← her] at co
  have ad := add_rows (encR cur) er (by rw [hel]; simp [encR]; omega) M
  simp [L__law_all_sizes_1, wipeS, co, hz, ad]
  rw [her]
  simp [encR]
theorem rgo2_int {a b : Int} (ha : -1000000 ≤ a ∧ a ≤ 1000000) (hb : -1000000 ≤ b ∧ b ≤ 1000000) (M : Store) : rgo2 a b M = .ok ((List.range (b - a).toNat).map fun k : Nat => D.p (.int (a + (k : Int)))) M := by
  rw [rgo2_eq]
  simp only
  rw [if_pos ⟨by omega, by omega, by omega, by omega⟩]
  rfl
theorem b_all2 {xs : List Itm} {more j : Nat} (hm : more ≤ 100) (hj : j ∈ places Itm.isJ xs) (hlo : 0 ≤ longOf xs j ∧ longOf xs j ≤ 10000) {rows : List (List Int)} (hr : ∀ r ∈ rows, r.length ≤ 1000) (hl : rows.length ≤ 10000) {d4 d5 : Option D} (M : Store) :
    Sat (fun out => ∃ d4 d5, out = .nx [some (.p (sk xs)), some (.p (.int (more : Int))), some (.p (.list (encR (rowsTo (longOf xs j) (more + 1) rows)))), some (.p (.int (j : Int))), d4, d5, none] M)
    (L__law_all_sizes_2 [some (.p (sk xs)), some (.p (.int (more : Int))), some (.p (.list (encR rows))), some (.p (.int (j : Int))), d4, d5, none] M) := by
  have hx := jmp_at hj
  obtain ⟨lo, hlo'⟩ : ∃ lo, lo = longOf xs j := ⟨_, rfl⟩
  have ix1 : ∀ M, zIx (.p (Itm.jmp (goal xs j) (shortOf xs j) (longOf xs j)).enc) (.p (.int 3)) M = .ok (.p (.int lo)) M := fun M => by rw [hlo']; rfl
  have rg : ∀ M, rgo2 lo (lo + (more : Int) + 1) M = .ok ((List.range (more + 1)).map fun k : Nat => D.p (.int (lo + (k : Int)))) M := fun M => by
    rw [rgo2_int (by omega) (by omega), show (lo + (more : Int) + 1 - lo).toNat = more + 1 by omega]
  rw [← hlo']
  simp [L__law_all_sizes_2, mkLstF, ix_sk _ hx, ix1, rg]
  refine forP_seq _ _ (fun done sl M' => ∃ d5, sl = [some (.p (sk xs)), some (.p (.int (more : Int))), some (.p (.list (encR rows))), some (.p (.int (j : Int))), some (.p (.list (encR (done.flatMap fun k : Nat => rows.map fun r => r ++ [lo + (k : Int)])))), d5, none] ∧ M' = M) ⟨d5, by simp [encR], rfl⟩ ?_ ?_
  · rintro done k rest sl M' e ⟨d5, rfl, rfl⟩
    have hd : done.length ≤ 101 := by
      have := congrArg List.length e
      simp at this
      omega
    have hc : (done.flatMap fun k : Nat => rows.map fun r => r ++ [lo + (k : Int)]).length ≤ 10000000 := by
      have := len_flat2 (fun k : Nat => rows.map fun r => r ++ [lo + (k : Int)]) 10000 done fun k _ => by simpa using hl
      omega
    refine ⟨_, rfl, _, _, b_all1 hr (by omega) hc M', some (.p (.int (lo + k))), ?_, rfl⟩
    simp
  · rintro sl M' ⟨d5, rfl, rfl⟩
    simp
    exact ⟨_, _, rfl⟩
theorem allRows_snoc (xs : List Itm) (more : Nat) (js : List Nat) (j : Nat) : allRows xs more (js ++ [j]) = rowsTo (longOf xs j) (more + 1) (allRows xs more js) := by unfold allRows; rw [List.foldl_append]; rfl
theorem foldRows_len (xs : List Itm) (more : Nat) : ∀ (js : List Nat) (rows : List (List Int)), (js.foldl (fun rows j => rowsTo (longOf xs j) (more + 1) rows) rows).length = (more + 1) ^ js.length * rows.length
  | [], rows => by simp
  | j :: js, rows => by rw [List.foldl_cons, foldRows_len xs more js, rows_len, List.length_cons, Nat.pow_succ, Nat.mul_assoc]
theorem allRows_len (xs : List Itm) (more : Nat) (js : List Nat) : (allRows xs more js).length = (more + 1) ^ js.length := by
  unfold allRows
  rw [foldRows_len]
  simp
theorem mem_rowsTo {lo : Int} {n : Nat} {rows : List (List Int)} {r : List Int} : r ∈ rowsTo lo n rows ↔ ∃ r0 ∈ rows, ∃ k : Nat, k < n ∧ r = r0 ++ [lo + (k : Int)] := by
  unfold rowsTo
  simp only [List.mem_flatMap, List.mem_map, List.mem_range]
  constructor
  · rintro ⟨k, hk, r0, h0, rfl⟩
    exact ⟨r0, h0, k, hk, rfl⟩
  · rintro ⟨r0, h0, k, hk, rfl⟩
    exact ⟨k, hk, r0, h0, rfl⟩
end ZL

namespace ZL
open PySem PySem.Spec PyProof.Rows L2 Z
/-- a row of sizes from the own ones on -/
def isRow (xs : List Itm) (more : Nat) (js : List Nat) (r : List Int) : Prop := ∃ f : Nat → Int, r = js.map f ∧ ∀ j ∈ js, longOf xs j ≤ f j ∧ f j ≤ longOf xs j + more
theorem rows_lens (xs : List Itm) (more : Nat) : ∀ (js : List Nat) (rows : List (List Int)) (n : Nat), (∀ r ∈ rows, r.length = n) → ∀ r ∈ js.foldl (fun rows j => rowsTo (longOf xs j) (more + 1) rows) rows, r.length = n + js.length
  | [], rows, n, h, r, hr => by simpa using h r hr
  | j :: js, rows, n, h, r, hr => by
    rw [List.foldl_cons] at hr
    have := rows_lens xs more js _ (n + 1) (fun r hr => by
      obtain ⟨r0, h0, k, _, rfl⟩ := mem_rowsTo.mp hr
      simp [h r0 h0]) r hr
    rw [List.length_cons]
    omega
theorem e_all_sizes {xs : List Itm} (h : Ok xs) {more : Nat} (hm : more ≤ 100) (hp : (more + 1) ^ (places Itm.isJ xs).length ≤ 10000) (M : Store) : F__law_all_sizes [.p (sk xs), .p (.int (more : Int))] M = .ok (.p (.list (encR (allRows xs more (places Itm.isJ xs))))) M := by
  apply fn_satN
  have e0 : PyData.list [.tuple []] = .list (encR [[]]) := rfl
  simp [c__law_all_sizes, mkTup, mkLstF, e_law_jumps h.j.1, dp_pnats, e0]
  refine forP_seq _ _ (fun done sl M' => ∃ d3 d4 d5, sl = [some (.p (sk xs)), some (.p (.int (more : Int))), some (.p (.list (encR (allRows xs more done)))), d3, d4, d5, none] ∧ M' = M) ⟨none, none, none, rfl, rfl⟩ ?_ ?_
  · rintro done j rest sl M' e ⟨d3, d4, d5, rfl, rfl⟩
    have hj : j ∈ places Itm.isJ xs := by rw [e]; simp
    have hl : (allRows xs more done).length ≤ 10000 := by
      rw [allRows_len]
      refine Nat.le_trans (Nat.pow_le_pow_right (by omega) ?_) hp
      rw [e]
      simp
    have hr : ∀ r ∈ allRows xs more done, r.length ≤ 1000 := fun r hr => by
      have := rows_lens xs more done [[]] 0 (fun r hr => by rw [List.mem_singleton.mp hr]; rfl) r hr
      have h2 := len_places Itm.isJ xs
      have h3 := h.1
      rw [e] at h2
      simp at h2
      omega
    obtain ⟨d4', d5', e2⟩ := b_all2 hm hj (h.long hj) hr hl M' (d4 := d4) (d5 := d5)
    exact ⟨_, rfl, _, _, e2, some (.p (.int j)), d4', d5', by rw [allRows_snoc], rfl⟩
  · rintro sl M' ⟨d3, d4, d5, rfl, rfl⟩
    simp [Sat]
end ZL

namespace ZL
open PySem PySem.Spec PyProof.Rows L2 Z
theorem fil2_sized {xs : List Itm} (h : Fil2 xs) (f : Nat → Int) : Fil2 (sized xs ((places Itm.isJ xs).map f)) := fun s hs => by
  obtain ⟨p, hp⟩ := List.getElem?_of_mem hs
  rw [sized_get] at hp
  cases e1 : xs[p]? with
  | none => rw [e1] at hp; cases hp
  | some x =>
    rw [e1] at hp
    cases x with
    | lab => simp [setL] at hp
    | jmp g' s' l' => simp [setL] at hp
    | fil s' =>
      simp [setL] at hp
      rw [← hp]
      exact h s' (List.mem_of_getElem? e1)
/-- where no triple is, every size is no less than the mended one -/
theorem fit_ge {xs : List Itm} (h : Fil2 xs) {f : Nat → Int} (ht : trips (sized xs ((places Itm.isJ xs).map f)) = []) {j : Nat} (hj : j ∈ places Itm.isJ xs) (hf : longOf xs j ≤ f j) : mendAt xs j ≤ f j := by
  rw [trips_nil (fil2_sized h f).pos] at ht
  have hx := jmp_at hj
  have e : (sized xs ((places Itm.isJ xs).map f))[j]? = some (.jmp (goal xs j) (shortOf xs j) (f j)) := by rw [sized_get, hx]; rfl
  have e1 : shortOf (sized xs ((places Itm.isJ xs).map f)) j = shortOf xs j := by simp [shortOf, e]
  have e2 : longOf (sized xs ((places Itm.isJ xs).map f)) j = f j := by simp [longOf, e]
  have hq : ∃ q, f j - shortOf xs j = q * step xs j := by
    rcases step_cases xs j with e3 | ⟨p, c⟩
    · exact ⟨f j - shortOf xs j, by rw [e3]; omega⟩
    · have := ht j p (step xs j) (by rw [sized_places]; exact hj) ((sized_cand _ _ _ _ _).mpr c)
      rw [e1, e2] at this
      obtain ⟨q, hq⟩ := Int.dvd_of_emod_eq_zero this
      exact ⟨q, by rw [hq, Int.mul_comm]⟩
  obtain ⟨q, hq⟩ := hq
  have hp := step_pos xs j
  have r1 := round (g := longOf xs j - shortOf xs j) hp
  have r2 := round2 (q := q) hp
  -- the quotient of the own growth is no more than q
  have hle : (longOf xs j - shortOf xs j + step xs j - 1) / step xs j ≤ (q * step xs j + step xs j - 1) / step xs j := Int.ediv_le_ediv (by omega) (by omega)
  have := Int.mul_le_mul_of_nonneg_right hle (show 0 ≤ step xs j by omega)
  unfold mendAt
  omega
end ZL

namespace ZL
open PySem PySem.Spec PyProof.Rows L2 Z
def InR (xs : List Itm) (more : Nat) : List Nat → List Int → Prop
  | [], [] => True
  | j :: js, k :: ks => (longOf xs j ≤ k ∧ k ≤ longOf xs j + more) ∧ InR xs more js ks
  | _, _ => False
theorem mem_rows (xs : List Itm) (more : Nat) : ∀ (js : List Nat) (rows : List (List Int)) (r : List Int), r ∈ js.foldl (fun rows j => rowsTo (longOf xs j) (more + 1) rows) rows ↔ ∃ r0 ∈ rows, ∃ ks, r = r0 ++ ks ∧ InR xs more js ks
  | [], rows, r => by
    simp only [List.foldl_nil]
    constructor
    · exact fun h => ⟨r, h, [], by simp, trivial⟩
    · rintro ⟨r0, h, ks, rfl, hk⟩
      cases ks with
      | nil => simpa using h
      | cons _ _ => exact hk.elim
  | j :: js, rows, r => by
    rw [List.foldl_cons, mem_rows xs more js]
    constructor
    · rintro ⟨r0, h, ks, rfl, hk⟩
      obtain ⟨r1, h1, k, hlt, rfl⟩ := mem_rowsTo.mp h
      exact ⟨r1, h1, (longOf xs j + (k : Int)) :: ks, by simp, ⟨by omega, by omega⟩, hk⟩
    · rintro ⟨r0, h, ks, rfl, hk⟩
      cases ks with
      | nil => exact hk.elim
      | cons k ks =>
        obtain ⟨⟨h1, h2⟩, h3⟩ := hk
        refine ⟨r0 ++ [k], mem_rowsTo.mpr ⟨r0, h, (k - longOf xs j).toNat, by omega, ?_⟩, ks, by simp, h3⟩
        rw [show longOf xs j + ((k - longOf xs j).toNat : Int) = k by omega]
theorem mem_all {xs : List Itm} {more : Nat} {js : List Nat} {r : List Int} : r ∈ allRows xs more js ↔ InR xs more js r := by
  unfold allRows
  rw [mem_rows]
  constructor
  · rintro ⟨r0, h, ks, rfl, hk⟩
    rw [List.mem_singleton.mp h]
    exact hk
  · exact fun h => ⟨[], List.mem_singleton.mpr rfl, r, rfl, h⟩
/-- a row by a function, where no place stands twice -/
theorem inR_map {xs : List Itm} {more : Nat} : ∀ {js : List Nat} {r : List Int}, js.Nodup → InR xs more js r → ∃ f : Nat → Int, r = js.map f ∧ ∀ j ∈ js, longOf xs j ≤ f j ∧ f j ≤ longOf xs j + more
  | [], [], _, _ => ⟨fun _ => 0, rfl, fun _ h => nomatch h⟩
  | [], _ :: _, _, h => h.elim
  | _ :: _, [], _, h => h.elim
  | j :: js, k :: ks, nd, h => by
    obtain ⟨hn, nd'⟩ := List.nodup_cons.mp nd
    obtain ⟨f, hf, hb⟩ := inR_map nd' h.2
    refine ⟨fun i => if i = j then k else f i, ?_, fun i hi => ?_⟩
    · rw [List.map_cons, if_pos rfl, hf]
      congr 1
      apply List.map_congr_left
      intro i hi
      rw [if_neg (fun z : i = j => hn (z ▸ hi))]
    · rcases List.mem_cons.mp hi with rfl | hi
      · simp only [if_true]; exact h.1
      · have z : ¬ i = j := fun z => hn (z ▸ hi)
        simp only [z, if_false]
        exact hb i hi
theorem inR_of {xs : List Itm} {more : Nat} {f : Nat → Int} : ∀ {js : List Nat}, (∀ j ∈ js, longOf xs j ≤ f j ∧ f j ≤ longOf xs j + more) → InR xs more js (js.map f)
  | [], _ => trivial
  | j :: js, h => ⟨h j List.mem_cons_self, inR_of fun i hi => h i (List.mem_cons_of_mem _ hi)⟩
end ZL

namespace ZL
open PySem PySem.Spec PyProof.Rows L2 Z
theorem places_nodup (xs : List Itm) : (places Itm.isJ xs).Nodup := by
  rw [places_range]
  exact List.nodup_range.filter _
def fitB (xs : List Itm) (r : List Int) : Bool := decide (trips (sized xs r) = [])
def fit (xs : List Itm) (more : Nat) : List (List Int) := (allRows xs more (places Itm.isJ xs)).filter (fitB xs)
theorem fit_map {xs : List Itm} {more : Nat} {r : List Int} (h : r ∈ fit xs more) : ∃ f : Nat → Int, r = (places Itm.isJ xs).map f ∧ (∀ j ∈ places Itm.isJ xs, longOf xs j ≤ f j ∧ f j ≤ longOf xs j + more) ∧ trips (sized xs ((places Itm.isJ xs).map f)) = [] := by
  obtain ⟨h1, h2⟩ := List.mem_filter.mp h
  obtain ⟨f, rfl, hb⟩ := inR_map (places_nodup xs) (mem_all.mp h1)
  exact ⟨f, rfl, hb, of_decide_eq_true h2⟩
theorem mend_fit {xs : List Itm} (h : Fil2 xs) {more : Nat} (hs : ∀ j ∈ places Itm.isJ xs, step xs j ≤ more + 1) : mend xs ∈ fit xs more := by
  refine List.mem_filter.mpr ⟨mem_all.mpr (inR_of fun j hj => ?_), decide_eq_true (trips_sized h)⟩
  have := mendAt_ge xs j
  have := hs j hj
  omega
/-- the least at a spot -/
theorem fit_min {xs : List Itm} (h : Fil2 xs) {more : Nat} (hs : ∀ j ∈ places Itm.isJ xs, step xs j ≤ more + 1) {k : Nat} {j : Nat} (hk : (places Itm.isJ xs)[k]? = some j) {n : Int} {ns : List Int} (he : (fit xs more).map (fun r => (r[k]?).getD 0) = n :: ns) : ns.foldl min n = mendAt xs j := by
  symm
  have hj := List.mem_of_getElem? hk
  refine min_only ?_ fun y hy => ?_
  · rw [← he]
    refine List.mem_map.mpr ⟨mend xs, mend_fit h hs, ?_⟩
    unfold mend
    rw [List.getElem?_map, hk]
    rfl
  · rw [← he] at hy
    obtain ⟨r, hr, rfl⟩ := List.mem_map.mp hy
    obtain ⟨f, rfl, hb, ht⟩ := fit_map hr
    rw [List.getElem?_map, hk]
    exact fit_ge h ht hj (hb j hj).1
end ZL

namespace ZL
open PySem PySem.Spec PyProof.Rows L2 Z
theorem fit_comp {xs : List Itm} (h : Gd xs) {more : Nat} (hp : (more + 1) ^ (places Itm.isJ xs).length ≤ 10000) (M : Store) {d1 d2 d3 d4 d5 d7 : Option D} :
    compP (tgN 6) (zt (z2 zEq (zs (zfc 1 F__law_threes) (zcons (zs (zfc 2 F__law_sized) (zcons (zv 0) (zcons (zv 6) znil))) znil)) (zs mkLstF znil))) (zv 6) [some (.p (sk xs)), d1, d2, d3, d4, d5, none, d7] ((encR (allRows xs more (places Itm.isJ xs))).map .p) M = .ok ((encR (fit xs more)).map .p) M := by
  have e1 : (encR (allRows xs more (places Itm.isJ xs))).map D.p = (allRows xs more (places Itm.isJ xs)).map fun r : List Int => D.p (.tuple (pints r)) := by simp [encR]
  rw [e1, compP_map (M := M) (fun r : List Int => D.p (.tuple (pints r))) (fitB xs) (fun r : List Int => D.p (.tuple (pints r)))]
  · simp [encR, fit]
  · intro r hr
    obtain ⟨f, rfl, hb⟩ := inR_map (places_nodup xs) (mem_all.mp hr)
    have hxl := h.2.1
    have sz := e_sized (xs := xs) (ns := (places Itm.isJ xs).map f) (by omega) (by simp)
    obtain ⟨g1, g2, g3⟩ := sized_sane h f
    have th := e_threes g1 g2 g3
    have eq0 := fun M => (psort_nil (trips (sized xs ((places Itm.isJ xs).map f))) M).1
    obtain ⟨so, hso⟩ : ∃ so, so = psort ((trips (sized xs ((places Itm.isJ xs).map f))).map enc3) := ⟨_, rfl⟩
    rw [← hso] at th eq0
    refine ⟨_, rfl, ?_, fun _ => rfl⟩
    simp [sz, th, mkLstF, eq0, fitB]
end ZL

namespace ZL
open PySem PySem.Spec PyProof.Rows L2 Z
theorem least_comp {xs : List Itm} (h : Gd xs) {more : Nat} (hs : ∀ j ∈ places Itm.isJ xs, step xs j ≤ more + 1) (hfl : (fit xs more).length ≤ 10000) (M : Store) {d1 d2 d3 d6 : Option D} :
    compP (tgN 7) ztyes (zs zMin (zcons (zcomp frzl [6] (zitems (zv 4)) (tgN 6) ztyes (z2 zIx (zv 6) (zv 7))) znil)) [some (.p (sk xs)), d1, d2, d3, some (.p (.list (encR (fit xs more)))), none, d6, none] ((List.range (places Itm.isJ xs).length).map fun k : Nat => D.p (.int (k : Int))) M = .ok ((pints (mend xs)).map .p) M := by
  rw [compP_map (M := M) (fun k : Nat => D.p (.int (k : Int))) (fun _ => true) (fun k : Nat => D.p (.int (((mend xs)[k]?).getD 0)))]
  · rw [List.filter_eq_self.mpr fun _ _ => rfl]
    have : (List.range (places Itm.isJ xs).length).map (fun k : Nat => ((mend xs)[k]?).getD 0) = mend xs := by
      have hl : (places Itm.isJ xs).length = (mend xs).length := by simp [mend]
      rw [hl]
      apply List.ext_getElem?
      intro k
      rw [List.getElem?_map]
      by_cases hk : k < (mend xs).length
      · rw [List.getElem?_range hk, List.getElem?_eq_getElem hk]
        simp [List.getElem?_eq_getElem hk]
      · rw [List.getElem?_eq_none (by simpa using hk), List.getElem?_eq_none (by omega)]
        rfl
    rw [show (List.range (places Itm.isJ xs).length).map (fun k : Nat => D.p (.int (((mend xs)[k]?).getD 0))) = ((List.range (places Itm.isJ xs).length).map (fun k : Nat => ((mend xs)[k]?).getD 0)).map (fun i => D.p (.int i)) by rw [List.map_map]; rfl, this, dp_pints]
  · intro k hk
    have hkl : k < (places Itm.isJ xs).length := List.mem_range.mp hk
    have hj : (places Itm.isJ xs)[k]? = some (places Itm.isJ xs)[k] := List.getElem?_eq_getElem hkl
    refine ⟨_, rfl, rfl, fun _ => ?_⟩
    have co : ∀ Q, compP (tgN 6) ztyes (z2 zIx (zv 6) (zv 7)) [some (.p (sk xs)), d1, d2, d3, some (.p (.list (encR (fit xs more)))), none, none, some (.p (.int (k : Int)))] ((encR (fit xs more)).map .p) Q = .ok ((pints ((fit xs more).map fun r => (r[k]?).getD 0)).map .p) Q := fun Q => by
      have e1 : (encR (fit xs more)).map D.p = (fit xs more).map fun r : List Int => D.p (.tuple (pints r)) := by simp [encR]
      rw [e1, compP_map (M := Q) (fun r : List Int => D.p (.tuple (pints r))) (fun _ => true) (fun r : List Int => D.p (.int ((r[k]?).getD 0)))]
      · rw [List.filter_eq_self.mpr fun _ _ => rfl]
        simp [pints]
      · intro r hr
        obtain ⟨f, rfl, _⟩ := fit_map hr
        refine ⟨_, rfl, rfl, fun _ => ?_⟩
        have := zIx_t (xs := pints ((places Itm.isJ xs).map f)) (j := k) (x := .int (f (places Itm.isJ xs)[k])) Q (by rw [pints, List.getElem?_map, List.getElem?_map, hj]; rfl)
        simp [this, hj]
    have hz : ((fit xs more).map fun r => (r[k]?).getD 0).length ≤ 16777216 := by rw [List.length_map]; omega
    obtain ⟨vs, hvs⟩ : ∃ vs, vs = (fit xs more).map fun r => (r[k]?).getD 0 := ⟨_, rfl⟩
    rw [← hvs] at co hz
    obtain ⟨n, ns, hn⟩ : ∃ n ns, vs = n :: ns := by
      cases hv : vs with
      | nil =>
        have hm := mend_fit h.fil2 hs
        rw [hv] at hvs
        rw [List.map_eq_nil_iff.mp hvs.symm] at hm
        exact absurd hm (by simp)
      | cons n ns => exact ⟨n, ns, rfl⟩
    have hmin := fit_min h.fil2 hs hj (n := n) (ns := ns) (by rw [← hvs, hn])
    have mn : ∀ Q, zMin [.p (.list (pints vs))] Q = .ok (.p (.int (mendAt xs (places Itm.isJ xs)[k]))) Q := fun Q => by
      unfold zMin
      simp only [lstv_p, intsOf_ints, hn, hmin]
    have ev : ((mend xs)[k]?).getD 0 = mendAt xs (places Itm.isJ xs)[k] := by unfold mend; rw [List.getElem?_map, hj]; rfl
    have fz : ∀ Q, frzl ((pints vs).map .p) Q = .ok (.p (.list (pints vs))) Q := fun Q => by rw [frzl_map, if_pos (by simpa using hz)]
    rw [ev]
    simp [-frzl_map, -frzl_mapf, wipeS, co, fz, mn]
end ZL

namespace ZL
open PySem PySem.Spec PyProof.Rows L2 Z
theorem e_is_least {xs : List Itm} (h : Gd xs) {more : Nat} (hm : more ≤ 100) (hs : ∀ j ∈ places Itm.isJ xs, step xs j ≤ more + 1) (hp : (more + 1) ^ (places Itm.isJ xs).length ≤ 10000) (M : Store) :
    F__law_is_least [.p (sk xs), .p (.int (more : Int))] M = .ok (.p (.bool true)) M := by
  have hk := h.toOk
  have hxl := h.2.1
  have s1 := show_sk hk.mod (by have := hk.1; omega)
  have m1 := e_mended hk.j hk.f
  have al := e_all_sizes hk hm hp
  have fl : (fit xs more).length ≤ 10000 := Nat.le_trans (List.length_filter_le _ _) (by rw [allRows_len]; exact hp)
  have fc := fun M d1 d2 d3 d4 d5 d7 => fit_comp h hp M (d1 := d1) (d2 := d2) (d3 := d3) (d4 := d4) (d5 := d5) (d7 := d7)
  have lc := fun M d1 d2 d3 d6 => least_comp h hs fl M (d1 := d1) (d2 := d2) (d3 := d3) (d6 := d6)
  have lj := e_law_jumps hk.j.1
  have hz : (encR (fit xs more)).length ≤ 16777216 := by simp [encR]; omega
  have ni : ∀ M, zin true (.p (.tuple (pints (mend xs)))) (.p (.list (encR (fit xs more)))) M = .ok (.p (.bool false)) M := fun M => by
    have := zin_layL lay_ti (by decide) true (mend xs) (fit xs more) M
    have e := mend_fit h.fil2 hs
    simp only [e, decide_true] at this
    exact this
  have sh := hk.show
  have sz := e_sized (xs := xs) (ns := mend xs) (by omega) (by simp [mend])
  obtain ⟨g1, g2, g3⟩ := sized_sane h (mendAt xs)
  have tr := e_triples g1 g2 g3
  have e0 : trips (sized xs ((places Itm.isJ xs).map (mendAt xs))) = [] := trips_sized h.fil2
  have e1 : (places Itm.isJ xs).map (mendAt xs) = mend xs := rfl
  rw [e0, e1] at tr
  have s0 : ∀ M, zShow [.p (.tuple [])] M = .ok (.p (.str (PyData.tuple []).shown)) M := fun M => show_ints (ns := []) (fun i hi => by simp at hi) (by decide) M
  have ml := mend_len xs
  have rg : ∀ M, rgo1 ((places Itm.isJ xs).length : Int) M = .ok ((List.range (places Itm.isJ xs).length).map fun p : Nat => D.p (.int (p : Int))) M := fun M => rgo1_nat (by have := len_places Itm.isJ xs; omega) M
  obtain ⟨er, her⟩ : ∃ er, er = encR (fit xs more) := ⟨_, rfl⟩
  rw [← her] at fc lc hz ni
  obtain ⟨ms, hms⟩ : ∃ ms, ms = mend xs := ⟨_, rfl⟩
  have hml : ms.length ≤ 16777216 := by rw [hms]; omega
  rw [← hms] at m1 lc ni sh sz tr
  obtain ⟨zs, hzs⟩ : ∃ zs, zs = sized xs ms := ⟨_, rfl⟩
  rw [← hzs] at sz tr
  obtain ⟨nj, hnj⟩ : ∃ nj, nj = (places Itm.isJ xs).length := ⟨_, rfl⟩
  have ln : ∀ M, zLen [.p (.list (pnats (places Itm.isJ xs)))] M = .ok (.p (.int (nj : Int))) M := fun M => by rw [zLen_l, List.length_map, pnats_len, hnj]
  rw [← hnj] at rg lc
  obtain ⟨ar, har⟩ : ∃ ar, ar = encR (allRows xs more (places Itm.isJ xs)) := ⟨_, rfl⟩
  rw [← har] at al fc
  have fz1 : ∀ Q, frzl (er.map .p) Q = .ok (.p (.list er)) Q := fun Q => by rw [frzl_map, if_pos (by simpa using hz)]
  have fz2 : ∀ Q, frzl ((pints ms).map .p) Q = .ok (.p (.list (pints ms))) Q := fun Q => by rw [frzl_map, if_pos (by simpa using hml)]
  apply fn_satN
  simp [-frzl_map, -frzl_mapf, -zLen_l, c__law_is_least, s1, m1, al, wipeS, fc, fz1, lj, ln, rg, lc, fz2, ni, sh, permBy, sz, tr, mkTup, s0, Sat]

end ZL

namespace ZL
open PySem PySem.Spec PyProof.Rows L2 Z
/-! ### small skeletons -/
def plist (xs : List Itm) : P := .list (xs.map Itm.enc)
theorem add_pl (a b : List Itm) (h : a.length + b.length ≤ 1000) (M : Store) : zAdd (.p (plist a)) (.p (plist b)) M = .ok (.p (plist (a ++ b))) M := by
  unfold plist
  rw [add_rows _ _ (by simp; omega), List.map_append]
theorem sl_pl (xs : List Itm) (a b : Option Int) (h : xs.length ≤ 1000) (M : Store) : zSl (.p (plist xs)) a b M = .ok (.p (plist (cutG xs a b))) M := by
  unfold zSl plist
  simp only [lstv_p]
  have hl : (cutG xs a b).length ≤ xs.length := by unfold cutG; rw [List.length_take, List.length_drop]; omega
  rw [cutG_map, cutG_map, frzl_map, if_pos (by rw [List.length_map, sizeLine_val]; omega)]
@[simp] theorem enum_pl (xs : List Itm) (M : Store) : enumOf (.p (plist xs)) M = .ok (xs.zipIdx.map fun p => .p (.tuple [.int (p.2 : Nat), p.1.enc])) M := by unfold plist; rw [enumOf_l, enumFrom_map]
/-- an item of a small skeleton, of n items -/
def okS (n : Nat) (fs : List Int) : Itm → Prop
  | .lab => True
  | .fil s => s ∈ fs
  | .jmp g s l => g < n ∧ s = 1 ∧ 2 ≤ l ∧ l ≤ 8
structure Sm (n t : Nat) (fs : List Int) (acc : List Itm) : Prop where
  len : acc.length ≤ 4 * t
  nj : (acc.filter Itm.isJ).length = t
  it : ∀ x ∈ acc, okS n fs x
  lab : t ≠ 0 → Itm.lab ∈ acc
theorem Sm.more {n t : Nat} {fs : List Int} {acc ys : List Itm} (h : Sm n t fs acc) (h1 : ys.length ≤ 4) (h2 : (ys.filter Itm.isJ).length = 1) (h3 : ∀ y ∈ ys, okS n fs y) (h4 : Itm.lab ∈ ys) : Sm n (t + 1) fs (acc ++ ys) :=
  ⟨by have := h.len; rw [List.length_append]; omega, by rw [List.filter_append, List.length_append, h.nj, h2], fun x hx => by
    rcases List.mem_append.mp hx with hx | hx
    · exact h.it x hx
    · exact h3 x hx, fun _ => List.mem_append_right _ h4⟩
theorem filJ_rep (s : Int) (k : Nat) : (List.replicate k (Itm.fil s)).filter Itm.isJ = [] := by
  rw [List.filter_eq_nil_iff]
  intro x hx
  rw [(List.mem_replicate.mp hx).2]
  exact Bool.false_ne_true
theorem b_small1 {q : Stq} (hq : q.ok) (R : Store) {fs : List Int} (hf : ∀ s ∈ fs, s ∈ P2) (hf0 : 0 < fs.length) (hfl : fs.length ≤ 100) {t : Nat} (ht : t ≤ 10) {acc : List Itm} (ha : Sm 1 t fs acc) {d1 d4 d5 d6 d7 d8 d9 d10 d11 d12 d13 d14 d15 d16 d17 : Option D} :
    Sat (fun o => ∃ q' acc' d5 d6 d7 d8 d9, o = .nx [some (.ref 1), d1, some (.p (.list (pints fs))), some (.p (plist acc')), d4, d5, d6, d7, d8, d9, d10, d11, d12, d13, d14, d15, d16, d17] (St q' ++ R) ∧ q'.ok ∧ Sm 1 (t + 1) fs acc')
      (L__law_small_1 [some (.ref 1), d1, some (.p (.list (pints fs))), some (.p (plist acc)), d4, d5, d6, d7, d8, d9, d10, d11, d12, d13, d14, d15, d16, d17] (St q ++ R)) := by
  obtain ⟨k1, q1, hk1, ok1, e1⟩ := e_drawZ q hq R (z := 6) (n := 6) rfl (by decide) (by decide)
  obtain ⟨k2, q2, hk2, ok2, e2⟩ := e_drawZ q1 ok1 R (z := 4) (n := 4) rfl (by decide) (by decide)
  obtain ⟨x, q3, hx, ok3, e3⟩ := e_pick q2 ok2 R (xs := pints fs) (by simpa using hf0) (by simp; omega)
  obtain ⟨s, hs, rfl⟩ := List.mem_map.mp hx
  obtain ⟨k4, q4, hk4, ok4, e4⟩ := e_drawZ q3 ok3 R (z := 2) (n := 2) rfl (by decide) (by decide)
  obtain ⟨m, hm⟩ : ∃ m, m = k4 + 1 := ⟨_, rfl⟩
  have c4 : (1 : Int) + (k4 : Int) = (m : Int) := by omega
  obtain ⟨l, hl⟩ : ∃ l : Int, l = 1 + (1 + (k1 : Int)) := ⟨_, rfl⟩
  have ef : PyData.tuple [.str "fill", .int s] = (Itm.fil s).enc := rfl
  have ej : ∀ l, PyData.tuple [.str "jump", .int 0, .int 1, .int l] = (Itm.jmp 0 1 l).enc := fun l => rfl
  have ep : ∀ x : Itm, PyData.list [x.enc] = plist [x] := fun x => rfl
  have el : PyData.tuple [.str "label"] = Itm.lab.enc := rfl
  have rf : ∀ M, zMul (.p (plist [.fil s])) (.p (.int (m : Int))) M = .ok (.p (plist (List.replicate m (.fil s)))) M := fun M => rep_fill s m (by omega) M
  have hal := ha.len
  have hj : okS 1 fs (.jmp 0 1 l) := ⟨by decide, rfl, by omega, by omega⟩
  have hfill : okS 1 fs (.fil s) := hs
  have a1 := fun (a b : List Itm) h M => add_pl a b h M
  have cut1 : ∀ M, zSl (.p (plist (List.replicate m (Itm.fil s)))) none (some 1) M = .ok (.p (plist [.fil s])) M := fun M => by
    rw [sl_pl _ _ _ (by simp; omega)]
    have := cutG__n (List.replicate m (Itm.fil s)) 1
    rw [show ((1 : Nat) : Int) = 1 from rfl] at this
    rw [this, hm]
    rfl
  have aj := add_pl acc [.jmp 0 1 l] (by simp; omega)
  have al := add_pl acc [.lab] (by simp; omega)
  refine sat_any fun Φ hΦ => ?_
  by_cases c0 : (k2 : Int) = 0
  · have a2 := add_pl (acc ++ [.jmp 0 1 l]) [.lab] (by simp; omega)
    simp only [List.append_assoc, List.cons_append, List.nil_append] at a2
    simp [L__law_small_1, e1, e2, mkLstF, e3, mkTup, ef, ep, e4, c4, rf, ← hl, ej, el, c0, aj, a2]
    exact hΦ _ ⟨q4, acc ++ [.jmp 0 1 l, .lab], _, _, _, _, _, rfl, ok4, ha.more (by simp) rfl (fun y hy => by
      simp at hy
      rcases hy with rfl | rfl
      · exact hj
      · trivial) (by simp)⟩
  · by_cases c1 : (k2 : Int) = 1
    · have a2 := add_pl (acc ++ [.lab]) [.fil s] (by simp; omega)
      have a3 := add_pl (acc ++ [.lab, .fil s]) [.jmp 0 1 l] (by simp; omega)
      simp only [List.append_assoc, List.cons_append, List.nil_append] at a2 a3
      simp [L__law_small_1, e1, e2, mkLstF, e3, mkTup, ef, ep, e4, c4, rf, ← hl, ej, el, c1, al, cut1, a2, a3]
      exact hΦ _ ⟨q4, acc ++ [.lab, .fil s, .jmp 0 1 l], _, _, _, _, _, rfl, ok4, ha.more (by simp) rfl (fun y hy => by
        simp at hy
        rcases hy with rfl | rfl | rfl
        · trivial
        · exact hs
        · exact hj) (by simp)⟩
    · have cut2 : ∀ M, zSl (.p (plist (List.replicate m (Itm.fil s)))) none (some (k2 : Int)) M = .ok (.p (plist (List.replicate (min k2 m) (.fil s)))) M := fun M => by
        rw [sl_pl _ _ _ (by simp; omega), cutG__n, List.take_replicate]
      obtain ⟨r, hr⟩ : ∃ r, r = min k2 m := ⟨_, rfl⟩
      rw [← hr] at cut2
      have a2 := add_pl (acc ++ [.jmp 0 1 l]) (List.replicate r (.fil s)) (by simp; omega)
      have a3 := add_pl (acc ++ (Itm.jmp 0 1 l :: List.replicate r (.fil s))) [.lab] (by simp; omega)
      simp only [List.append_assoc, List.cons_append, List.nil_append] at a2 a3
      have c0' : ¬ k2 = 0 := by omega
      simp [L__law_small_1, e1, e2, mkLstF, e3, mkTup, ef, ep, e4, c4, rf, ← hl, ej, el, c0, c0', c1, aj, cut2, a2, a3]
      refine hΦ _ ⟨q4, acc ++ (Itm.jmp 0 1 l :: (List.replicate r (.fil s) ++ [.lab])), _, _, _, _, _, rfl, ok4, ha.more (by simp; omega) ?_ ?_ (by simp)⟩
      · rw [List.filter_cons_of_pos rfl, List.filter_append, filJ_rep]
        rfl
      · intro y hy
        simp at hy
        rcases hy with rfl | ⟨_, rfl⟩ | rfl
        · exact hj
        · exact hs
        · trivial
theorem okS.mono {m n : Nat} (h : m ≤ n) {fs : List Int} {x : Itm} (k : okS m fs x) : okS n fs x := by
  cases x with
  | lab => trivial
  | fil s => exact k
  | jmp g s l => exact ⟨Nat.lt_of_lt_of_le k.1 h, k.2⟩
theorem cutG_sub {α : Type} (l : List α) (a b : Option Int) {x : α} (h : x ∈ cutG l a b) : x ∈ l := List.mem_of_mem_drop (List.mem_of_mem_take h)
theorem cutG_last {α : Type} (l : List α) (h : l ≠ []) : cutG l (some (-1)) none ≠ [] := by
  have hl := List.length_pos_iff.mpr h
  unfold cutG
  have e : HT.sIx l.length 0 (some (-1)) = l.length - 1 := by
    simp only [HT.sIx]
    rw [if_pos (by decide)]
    omega
  rw [e, HT.sIx_none]
  intro z
  have := congrArg List.length z
  rw [List.length_take, List.length_drop, List.length_nil] at this
  omega
theorem sl_pn (ns : List Nat) (a b : Option Int) (h : ns.length ≤ 1000) (M : Store) : zSl (.p (.list (pnats ns))) a b M = .ok (.p (.list (pnats (cutG ns a b)))) M := by
  unfold zSl pnats
  simp only [lstv_p]
  have hl : (cutG ns a b).length ≤ ns.length := by unfold cutG; rw [List.length_take, List.length_drop]; omega
  rw [cutG_map, cutG_map, frzl_map, if_pos (by rw [List.length_map, sizeLine_val]; omega)]
theorem add_pn (a b : List Nat) (h : a.length + b.length ≤ 1000) (M : Store) : zAdd (.p (.list (pnats a))) (.p (.list (pnats b))) M = .ok (.p (.list (pnats (a ++ b)))) M := by
  rw [add_rows _ _ (by simp; omega), pnats, pnats, pnats, List.map_append]
def labsIn (xs : List Itm) (k : Nat) : List Nat := (places Itm.isL xs).map (k + ·)
/-- the second loop's turn -/
theorem b_small2 {q : Stq} (hq : q.ok) (R : Store) {xs acc : List Itm} {p i : Nat} {x : Itm} (hx : xs[p]? = some x) (hl : xs.length ≤ 100) (hlab : Itm.lab ∈ xs) (hi : i = R.length + 2) (ha : acc.length ≤ 100) {fs : List Int} (hok : okS 1 fs x)
    {d1 d2 d4 d5 d6 d7 d8 d9 d13 d14 d15 : Option D} :
    Sat (fun o => ∃ q' y d13 d14 d15, o = .nx [some (.ref 1), d1, d2, some (.p (plist xs)), d4, d5, d6, d7, d8, d9, some (.ref i), some (.p (.int (p : Int))), some (.p x.enc), d13, d14, d15, none, none] (St q' ++ (R ++ [.lst (encs (acc ++ [y]))])) ∧ q'.ok ∧ okS xs.length fs y ∧ y.isJ = x.isJ)
      (L__law_small_2 [some (.ref 1), d1, d2, some (.p (plist xs)), d4, d5, d6, d7, d8, d9, some (.ref i), some (.p (.int (p : Int))), some (.p x.enc), d13, d14, d15, none, none] (St q ++ (R ++ [.lst (encs acc)]))) := by
  have hp := (List.getElem?_eq_some_iff.mp hx).1
  have s1 := fun a b M => sl_pl xs a b (by omega) M
  obtain ⟨ah, hah⟩ : ∃ ah, ah = places Itm.isL (xs.take p) := ⟨_, rfl⟩
  obtain ⟨be, hbe⟩ : ∃ be, be = (places Itm.isL (xs.drop p)).map (p + ·) := ⟨_, rfl⟩
  have la : ah.length ≤ 100 := by rw [hah]; have := len_places Itm.isL (xs.take p); rw [List.length_take] at this; omega
  have lb : be.length ≤ 100 := by rw [hbe, List.length_map]; have := len_places Itm.isL (xs.drop p); rw [List.length_drop] at this; omega
  have t1 : ∀ M, zSl (.p (plist xs)) none (some (p : Int)) M = .ok (.p (plist (xs.take p))) M := fun M => by rw [s1, cutG__n]
  have t2 : ∀ M, zSl (.p (plist xs)) (some (p : Int)) none M = .ok (.p (plist (xs.drop p))) M := fun M => by rw [s1, cutG_n_]
  have c1 : ∀ M a13 a14 a15, compP (tgT (tgsCons (tgN 16) (tgsCons (tgN 17) tgsNil))) (zt (z2 zEq (z2 zIx (zv 17) (zk (.int 0))) (zk (.str "label")))) (zv 16) [some (.ref 1), d1, d2, some (.p (plist xs)), d4, d5, d6, d7, d8, d9, some (.ref i), some (.p (.int (p : Int))), some (.p x.enc), a13, a14, a15, none, none]
      ((xs.take p).zipIdx.map fun q => D.p (.tuple [.int (q.2 : Nat), q.1.enc])) M = .ok ((pnats ah).map .p) M := fun M a13 a14 a15 => by
    rw [compP_map (M := M) _ (fun q : Itm × Nat => q.1.isL) (fun q => .p (.int (q.2 : Nat)))]
    · rw [hah]; simp [pnats, places]
    · intro q _
      simp
  have c2 : ∀ M a13 a14 a15, compP (tgT (tgsCons (tgN 16) (tgsCons (tgN 17) tgsNil))) (zt (z2 zEq (z2 zIx (zv 17) (zk (.int 0))) (zk (.str "label")))) (z2 zAdd (zv 16) (zv 11)) [some (.ref 1), d1, d2, some (.p (plist xs)), d4, d5, d6, d7, d8, d9, some (.ref i), some (.p (.int (p : Int))), some (.p x.enc), a13, a14, a15, none, none]
      ((xs.drop p).zipIdx.map fun q => D.p (.tuple [.int (q.2 : Nat), q.1.enc])) M = .ok ((pnats be).map .p) M := fun M a13 a14 a15 => by
    rw [compP_map (M := M) _ (fun q : Itm × Nat => q.1.isL) (fun q => .p (.int ((p + q.2 : Nat) : Int)))]
    · rw [hbe]; simp [pnats, places, Function.comp_def]
    · intro q _
      have : (q.2 : Int) + (p : Int) = ((p + q.2 : Nat) : Int) := by omega
      simp [this]
  have f1 : ∀ M, frzl ((pnats ah).map .p) M = .ok (.p (.list (pnats ah))) M := fun M => by rw [frzl_map, if_pos (by rw [pnats_len, sizeLine_val]; omega)]
  have f2 : ∀ M, frzl ((pnats be).map .p) M = .ok (.p (.list (pnats be))) M := fun M => by rw [frzl_map, if_pos (by rw [pnats_len, sizeLine_val]; omega)]
  obtain ⟨gl, hgl⟩ : ∃ gl, gl = cutG be none (some 2) ++ cutG ah (some (-1)) none := ⟨_, rfl⟩
  have k1 : (cutG be none (some 2)).length ≤ 100 := by unfold cutG; rw [List.length_take, List.length_drop]; omega
  have k2 : (cutG ah (some (-1)) none).length ≤ 100 := by unfold cutG; rw [List.length_take, List.length_drop]; omega
  have ad : ∀ M, zAdd (.p (.list (pnats (cutG be none (some 2))))) (.p (.list (pnats (cutG ah (some (-1)) none)))) M = .ok (.p (.list (pnats gl))) M := fun M => by rw [add_pn _ _ (by omega), hgl]
  have sb : ∀ M, zSl (.p (.list (pnats be))) none (some 2) M = .ok (.p (.list (pnats (cutG be none (some 2))))) M := fun M => sl_pn be _ _ (by omega) M
  have sa : ∀ M, zSl (.p (.list (pnats ah))) (some (-1)) none M = .ok (.p (.list (pnats (cutG ah (some (-1)) none)))) M := fun M => sl_pn ah _ _ (by omega) M
  have hgm : ∀ g ∈ gl, g < xs.length := fun g hg => by
    rw [hgl] at hg
    rcases List.mem_append.mp hg with hg | hg
    · have := cutG_sub _ _ _ hg
      rw [hbe] at this
      obtain ⟨j, hj, rfl⟩ := List.mem_map.mp this
      obtain ⟨y, hy, _⟩ := mem_places.mp hj
      have := (List.getElem?_eq_some_iff.mp hy).1
      rw [List.length_drop] at this
      omega
    · have := cutG_sub _ _ _ hg
      rw [hah] at this
      obtain ⟨y, hy, _⟩ := mem_places.mp this
      have := (List.getElem?_eq_some_iff.mp hy).1
      rw [List.length_take] at this
      omega
  have hg0 : gl ≠ [] := fun z => by
    rw [hgl] at z
    obtain ⟨z1, z2⟩ := List.append_eq_nil_iff.mp z
    have a0 : ah = [] := by
      by_cases h : ah = []
      · exact h
      · exact absurd z2 (cutG_last _ h)
    have b0 : be = [] := by
      have := cutG__n be 2
      rw [show ((2 : Nat) : Int) = 2 from rfl, z1] at this
      cases be with
      | nil => rfl
      | cons _ _ => cases this
    rw [hah] at a0
    rw [hbe] at b0
    have b1 : places Itm.isL (xs.drop p) = [] := List.map_eq_nil_iff.mp b0
    obtain ⟨j, hj⟩ := List.getElem?_of_mem hlab
    by_cases hjp : j < p
    · have : j ∈ places Itm.isL (xs.take p) := mem_places.mpr ⟨.lab, by rw [List.getElem?_take, if_pos hjp]; exact hj, rfl⟩
      rw [a0] at this
      simp at this
    · have : j - p ∈ places Itm.isL (xs.drop p) := mem_places.mpr ⟨.lab, by rw [List.getElem?_drop, show p + (j - p) = j by omega]; exact hj, rfl⟩
      rw [b1] at this
      simp at this
  have hgl2 : gl.length ≤ 200 := by rw [hgl, List.length_append]; omega
  have l1 : ∀ q ds, lstv (St q ++ (R ++ [Ob.lst ds])) (.ref i) = some ds := fun q ds => lstvS hi
  refine sat_any fun Φ hΦ => ?_
  cases hxj : x.isJ with
  | false =>
    have ap := appS (q := q) (R := R) (i := i) (acc := acc) (x := x) hi (by omega)
    simp [-frzl_map, -frzl_mapf, -zAppend_e, L__law_small_2, t1, t2, c1, c2, f1, f2, wipeS, sb, sa, ad, hxj, l1, ap]
    refine hΦ _ ⟨q, x, _, _, _, rfl, hq, okS.mono (by omega) hok, rfl⟩
  | true =>
    cases x with
    | lab => cases hxj
    | fil s => cases hxj
    | jmp g s l =>
      obtain ⟨y, q1, hy, ok1, e1⟩ := e_pick q hq (R ++ [.lst (encs acc)]) (xs := pnats gl) (by rw [pnats_len]; exact List.length_pos_iff.mpr hg0) (by rw [pnats_len]; omega)
      obtain ⟨g', hg', rfl⟩ := List.mem_map.mp hy
      have ap := appS (q := q1) (R := R) (i := i) (acc := acc) (x := .jmp g' s l) hi (by omega)
      have ec : ∀ M, zSl (.p (Itm.jmp g s l).enc) (some 2) none M = .ok (.p (.tuple [.int s, .int l])) M := fun M => rfl
      have ea : ∀ M, zAdd (.p (.tuple [.str "jump", .int (g' : Int)])) (.p (.tuple [.int s, .int l])) M = .ok (.p (Itm.jmp g' s l).enc) M := fun M => by simp [zAdd, Itm.enc]
      simp [-frzl_map, -frzl_mapf, -zAppend_e, L__law_small_2, t1, t2, c1, c2, f1, f2, wipeS, sb, sa, ad, hxj, l1, ap, e1, mkTup, ec, ea]
      exact hΦ _ ⟨q1, .jmp g' s l, _, _, _, rfl, ok1, ⟨hgm g' hg', hok.2⟩, rfl⟩
end ZL

namespace ZL
open PySem PySem.Spec PyProof.Rows L2 Z
def SmQ (R : Store) (jumps : Nat) (fs : List Int) (o : OutS) : Prop := ∃ x q' Rx, o = .rt (.p x) (St q' ++ (R ++ Rx)) ∧ q'.ok ∧ ∃ xs, x = sk xs ∧ Gd xs ∧ (places Itm.isJ xs).length = jumps ∧ ∀ s, Itm.fil s ∈ xs → s ∈ fs
theorem e_small (q : Stq) (hq : q.ok) (R : Store) {jumps : Nat} (h1 : 1 ≤ jumps) (h3 : jumps ≤ 3) {fs : List Int} (hf : ∀ s ∈ fs, s ∈ P2) (hf0 : 0 < fs.length) (hfl : fs.length ≤ 100) :
    ∃ x q', (∃ xs, x = sk xs ∧ Gd xs ∧ (places Itm.isJ xs).length = jumps ∧ ∀ s, Itm.fil s ∈ xs → s ∈ fs) ∧ q'.ok ∧ F__law_small [.ref 1, .p (.int (jumps : Int)), .p (.list (pints fs))] (St q ++ R) = .ok (.p x) (St q' ++ R) := by
  apply fn_satS
  show Sat (SmQ R jumps fs) _
  have rg : ∀ M, rgo1 (jumps : Int) M = .ok ((List.range jumps).map fun p : Nat => D.p (.int (p : Int))) M := fun M => rgo1_nat (by omega) M
  have e0 : PyData.list [] = plist [] := rfl
  simp [c__law_small, mkLstF, rg, e0]
  refine forP_seq _ _ (fun done sl M' => ∃ q' acc d4 d5 d6 d7 d8 d9, sl = [some (.ref 1), some (.p (.int (jumps : Int))), some (.p (.list (pints fs))), some (.p (plist acc)), d4, d5, d6, d7, d8, d9, none, none, none, none, none, none, none, none] ∧ M' = St q' ++ R ∧ q'.ok ∧ Sm 1 done.length fs acc)
    ⟨q, [], none, none, none, none, none, none, rfl, rfl, hq, ⟨Nat.le_refl _, rfl, fun x hx => (by simp at hx), fun z => absurd rfl z⟩⟩ ?_ ?_
  · rintro done t rest sl M' e ⟨q', acc, d4, d5, d6, d7, d8, d9, rfl, rfl, ok, ha⟩
    have hd : done.length ≤ 3 := by
      have := congrArg List.length e
      simp at this
      omega
    obtain ⟨q2, acc2, d5', d6', d7', d8', d9', e2, ok2, ha2⟩ := b_small1 ok R hf hf0 hfl (t := done.length) (by omega) ha (d1 := some (.p (.int (jumps : Int)))) (d4 := some (.p (.int (t : Int)))) (d5 := d5) (d6 := d6) (d7 := d7) (d8 := d8) (d9 := d9)
      (d10 := none) (d11 := none) (d12 := none) (d13 := none) (d14 := none) (d15 := none) (d16 := none) (d17 := none)
    exact ⟨_, rfl, _, _, e2, q2, acc2, _, _, _, _, _, _, rfl, rfl, ok2, by rw [List.length_append]; exact ha2⟩
  · rintro sl M' ⟨q', acc, d4, d5, d6, d7, d8, d9, rfl, rfl, ok, ha⟩
    rw [List.length_range] at ha
    have hal := ha.len
    have hl0 : (St q' ++ R).length = R.length + 2 := by simp [St_len]; omega
    have ee : St q' ++ R ++ [Ob.lst []] = St q' ++ (R ++ [Ob.lst (encs [])]) := by rw [List.append_assoc]; rfl
    simp [-List.length_append, -List.append_assoc, hl0, ee]
    refine forP_seq _ _ (fun done sl M' => ∃ q' zs d11 d12 d13 d14 d15, sl = [some (.ref 1), some (.p (.int (jumps : Int))), some (.p (.list (pints fs))), some (.p (plist acc)), d4, d5, d6, d7, d8, d9, some (.ref (R.length + 2)), d11, d12, d13, d14, d15, none, none] ∧
        M' = St q' ++ (R ++ [.lst (encs zs)]) ∧ q'.ok ∧ zs.length = done.length ∧ (zs.filter Itm.isJ).length = (done.filter fun q => q.1.isJ).length ∧ ∀ z ∈ zs, okS acc.length fs z)
      ⟨q', [], none, none, none, none, none, rfl, rfl, ok, rfl, rfl, fun x hx => (by simp at hx)⟩ ?_ ?_
    · rintro done ⟨x, p⟩ rest sl M' e ⟨q', zs, d11, d12, d13, d14, d15, rfl, rfl, ok, hz1, hz2, hz3⟩
      have hm : (x, p) ∈ acc.zipIdx := by rw [e]; simp
      have hx : acc[p]? = some x := by simpa using List.mem_zipIdx_iff_getElem?.mp hm
      have hd : done.length ≤ 12 := by
        have := congrArg List.length e
        simp at this
        omega
      obtain ⟨q2, y, d13', d14', d15', e2, ok2, oky, hyj⟩ := b_small2 ok R hx (by omega) (ha.lab (by omega)) rfl (acc := zs) (by omega) (ha.it x (List.mem_of_getElem? hx)) (d1 := some (.p (.int (jumps : Int)))) (d2 := some (.p (.list (pints fs)))) (d4 := d4) (d5 := d5) (d6 := d6) (d7 := d7) (d8 := d8) (d9 := d9) (d13 := d13) (d14 := d14) (d15 := d15)
      refine ⟨_, rfl, _, _, e2, q2, zs ++ [y], _, _, _, _, _, rfl, rfl, ok2, by simp [hz1], ?_, fun z hz => ?_⟩
      · rw [List.filter_append, List.length_append, hz2, List.filter_append, List.length_append]
        congr 1
        cases hxj : x.isJ <;> rw [hxj] at hyj <;> simp [hxj, hyj]
      · rcases List.mem_append.mp hz with hz | hz
        · exact hz3 z hz
        · rw [List.mem_singleton.mp hz]; exact oky
    · rintro sl M' ⟨q', zs, d11, d12, d13, d14, d15, rfl, rfl, ok, hz1, hz2, hz3⟩
      have t1 := tupS (q := q') (R := R) (Q := []) (i := R.length + 2) (xs := zs) rfl
      have hzl : zs.length = acc.length := by rw [hz1, List.length_zipIdx]
      have hj : (zs.filter Itm.isJ).length = jumps := by
        rw [hz2, ← ha.nj, ← len_J]
        simp [places]
      have hpos : 0 < zs.length := by
        rw [hzl]
        exact List.length_pos_of_mem (ha.lab (by omega))
      simp [t1]
      refine ⟨sk zs, q', [.lst (encs zs)], rfl, ok, zs, rfl, ⟨fun z hz => ?_, by omega, hpos⟩, by rw [len_J]; exact hj, fun s hs => hz3 _ hs⟩
      have := hz3 z hz
      cases z with
      | lab => trivial
      | fil s => exact hf s this
      | jmp g s l => exact ⟨by have := this.1; omega, by have := this.2.1; omega, by have := this.2.1; omega, by have := this.2.2.1; omega, by have := this.2.2.2; omega⟩
theorem e_pickP (q : Stq) (hq : q.ok) (R : Store) {xs : List P} (h : 0 < xs.length) (h' : xs.length ≤ 100000) : ∃ x q', x ∈ xs ∧ q'.ok ∧ F__law_pick [.ref 1, .p (.list xs)] (St q ++ R) = .ok (.p x) (St q' ++ R) := e_pick q hq R h h'
theorem yes_law : Yes F_law 63 := by
  intro ns hn _
  obtain ⟨q, ok, e⟩ := e_stock ns hn
  have big : ∀ {xs : List Itm} {more : Nat}, Gd xs → (∀ s, Itm.fil s ∈ xs → s ≤ (more : Int) + 1) → ∀ j ∈ places Itm.isJ xs, step xs j ≤ (more : Int) + 1 := fun {xs more} h hb j _ => step_le (by omega) hb j
  obtain ⟨x1, q1, ⟨xs1, rfl, g1, n1, f1⟩, ok1, e1⟩ := e_small q ok [] (jumps := 3) (by decide) (by decide) (fs := [2, 4]) (by decide) (by decide) (by decide)
  obtain ⟨x2, q2, ⟨xs2, rfl, g2, n2, f2⟩, ok2, e2⟩ := e_small q1 ok1 [] (jumps := 2) (by decide) (by decide) (fs := [2, 4, 8]) (by decide) (by decide) (by decide)
  have l1 := e_is_least g1 (more := 3) (by decide) (big g1 fun s hs => by have := f1 s hs; simp at this; omega) (by rw [n1]; decide)
  have l2 := e_is_least g2 (more := 7) (by decide) (big g2 fun s hs => by have := f2 s hs; simp at this; omega) (by rw [n2]; decide)
  obtain ⟨a, q3, ha, ok3, e3⟩ := e_pick q2 ok2 [] (xs := pints [4, 8]) (by decide) (by decide)
  obtain ⟨a, ha', rfl⟩ := List.mem_map.mp ha
  obtain ⟨b, q4, hb, ok4, e4⟩ := e_pick q3 ok3 [] (xs := pints [1, 3, 5, a]) (by simp) (by simp)
  obtain ⟨b, hb', rfl⟩ := List.mem_map.mp hb
  obtain ⟨c, q5, hc, ok5, e5⟩ := e_pick q4 ok4 [] (xs := [sk [], sk [.fil 8], sk [.fil 2]]) (by decide) (by decide)
  simp only [List.append_nil] at e1 e2 e3 e4 e5
  change F__law_small [.ref 1, .p (.int 3), .p (.list (pints [2, 4]))] (St q) = _ at e1
  change F__law_small [.ref 1, .p (.int 2), .p (.list (pints [2, 4, 8]))] (St q1) = _ at e2
  change ∀ M, F__law_is_least [.p (sk xs1), .p (.int 3)] M = _ at l1
  change ∀ M, F__law_is_least [.p (sk xs2), .p (.int 7)] M = _ at l2
  have ha8 : a ∈ P2 ∧ a ≤ 8 ∧ 4 ≤ a := by simp at ha'; rcases ha' with rfl | rfl <;> decide
  have hb8 : 1 ≤ b ∧ b ≤ 8 := by simp at hb'; omega
  obtain ⟨am, ham, rfl⟩ : ∃ am : List Itm, (am = [] ∨ am = [.fil 8] ∨ am = [.fil 2]) ∧ c = sk am := by
    simp at hc
    rcases hc with rfl | rfl | rfl
    · exact ⟨[], by simp, rfl⟩
    · exact ⟨[.fil 8], by simp, rfl⟩
    · exact ⟨[.fil 2], by simp, rfl⟩
  have hal : am.length ≤ 1 := by rcases ham with rfl | rfl | rfl <;> decide
  have gd : Gd ([.jmp 1 2 (2 + b), .lab] ++ am ++ [.jmp (4 + am.length) 2 5, .fil a, .lab]) := by
    refine ⟨fun x hx => ?_, by simp; omega, by simp⟩
    have hx' : x = .jmp 1 2 (2 + b) ∨ x = .lab ∨ x ∈ am ∨ x = .jmp (4 + am.length) 2 5 ∨ x = .fil a := by
      simp at hx
      rcases hx with h | h | h | h | h | h
      · exact .inl h
      · exact .inr (.inl h)
      · exact .inr (.inr (.inl h))
      · exact .inr (.inr (.inr (.inl h)))
      · exact .inr (.inr (.inr (.inr h)))
      · exact .inr (.inl h)
    rcases hx' with rfl | rfl | h | rfl | rfl
    · exact ⟨by simp, by decide, by decide, by omega, by omega⟩
    · trivial
    · rcases ham with rfl | rfl | rfl
      · simp at h
      · rw [List.mem_singleton.mp h]; show _ ∈ P2; decide
      · rw [List.mem_singleton.mp h]; show _ ∈ P2; decide
    · exact ⟨by simp; omega, by decide, by decide, by decide, by decide⟩
    · exact ha8.1
  have fb : ∀ s, Itm.fil s ∈ ([.jmp 1 2 (2 + b), .lab] ++ am ++ [.jmp (4 + am.length) 2 5, .fil a, .lab]) → s ≤ ((7 : Nat) : Int) + 1 := fun s hs => by
    simp at hs
    rcases hs with h | rfl
    · rcases ham with rfl | rfl | rfl
      · simp at h
      · simp at h; omega
      · simp at h; omega
    · omega
  have hp : (7 + 1) ^ (places Itm.isJ ([.jmp 1 2 (2 + b), .lab] ++ am ++ [.jmp (4 + am.length) 2 5, .fil a, .lab])).length ≤ 10000 := by
    rw [len_J]
    rcases ham with rfl | rfl | rfl <;> simp [List.filter, Itm.isJ]
  have l3 := e_is_least gd (more := 7) (by decide) (big gd fb) hp
  change ∀ M, F__law_is_least [.p (sk _), .p (.int 7)] M = _ at l3
  have w1 : PyData.tuple [.str "jump", .int 1, .int 2, .int (2 + b)] = (Itm.jmp 1 2 (2 + b)).enc := rfl
  have w2 : PyData.tuple [.str "label"] = Itm.lab.enc := rfl
  have w3 : PyData.tuple [(Itm.jmp 1 2 (2 + b)).enc, Itm.lab.enc] = sk [.jmp 1 2 (2 + b), .lab] := rfl
  have w4 : PyData.tuple [.str "jump", .int (4 + (am.length : Int)), .int 2, .int 5] = (Itm.jmp (4 + am.length) 2 5).enc := by simp [Itm.enc]
  have w5 : PyData.tuple [.str "fill", .int a] = (Itm.fil a).enc := rfl
  have w6 : PyData.tuple [(Itm.jmp (4 + am.length) 2 5).enc, (Itm.fil a).enc, Itm.lab.enc] = sk [.jmp (4 + am.length) 2 5, .fil a, .lab] := rfl
  have d1 := add_sk [.jmp 1 2 (2 + b), .lab] am (by simp; omega)
  have d2 := add_sk ([.jmp 1 2 (2 + b), .lab] ++ am) [.jmp (4 + am.length) 2 5, .fil a, .lab] (by simp; omega)
  have v1 : PyData.tuple [] = sk [] := rfl
  have v2 : PyData.tuple [PyData.tuple [.str "fill", .int 8]] = sk [.fil 8] := rfl
  have v3 : PyData.tuple [PyData.tuple [.str "fill", .int 2]] = sk [.fil 2] := rfl
  have p1 : PyData.list [.int 2, .int 4] = .list (pints [2, 4]) := rfl
  have p2 : PyData.list [.int 2, .int 4, .int 8] = .list (pints [2, 4, 8]) := rfl
  have p3 : PyData.list [.int 4, .int 8] = .list (pints [4, 8]) := rfl
  have p4 : PyData.list [.int 1, .int 3, .int 5, .int a] = .list (pints [1, 3, 5, a]) := rfl
  simp only [List.cons_append, List.nil_append] at d1 d2 l3
  obtain ⟨goal, hgoal⟩ : ∃ g : Int, g = 4 + (am.length : Int) := ⟨_, rfl⟩
  rw [← hgoal] at w4
  obtain ⟨al, hal2⟩ : ∃ al : Int, al = (am.length : Int) := ⟨_, rfl⟩
  have ln : ∀ M, zLen [.p (sk am)] M = .ok (.p (.int al)) M := fun M => by rw [len_sk, hal2]
  have hg2 : 4 + al = goal := by rw [hgoal, hal2]
  have main : Sat (fun o => ∃ M, o = .rt (.p (.bool true)) M) (c_law ([D.p (.list (pints ns))].map some ++ List.replicate (6 - 1) none) []) := by
    refine sat_any fun Φ hΦ => ?_
    simp [-len_sk, c_law, e, mkLstF, mkTup, p1, p2, e1, e2, l1, l2, p3, e3, p4, e4, v1, v2, v3, e5, w1, w2, w3, ln, hg2, w4, w5, w6, d1, d2, l3]
    exact hΦ _ ⟨_, rfl⟩
  obtain ⟨M, hM⟩ := main
  exact ⟨_, fn_rt hM⟩
end ZL

open PySem PySem.W PyProof.Rows in
set_option maxHeartbeats 0 in
theorem PySem.Challenge.cw_longernearer_k54_whole_all_long_sizes_holds : PySem.Challenge.rw_longernearer_k54_whole_all_long_sizes.Holds := by
  w_on; o_law; k_head; (case hw => w_witness2)
  k_fill
  refine Z.walkZ (l := PySem.Challenge.rw_longernearer_k54_whole_all_long_sizes) (n := 63) (k := 6) (x := "script") (F := ZL.F_law) rfl (by decide) rfl ⟨rfl, by decide, by decide⟩ (fun w h Y => PySem.W.kIn_of Y) ?F ZL.yes_law
  case F =>
    intro w mg fa h KX G hmg
    refine' ZL.all_mk KX G hmg ?z_any ?z_enumerate ?z_int ?z_len ?z_list ?z_max ?z_min ?z_range ?z_repr ?z_sorted ?z_sum ?z_tuple ?a0 ?l0 ?c0 ?k0 ?a1 ?l1 ?c1 ?k1 ?a2 ?l2 ?c2 ?k2 ?a3 ?l3 ?c3 ?k3 ?a4 ?l4 ?c4 ?k4 ?a5 ?l5 ?c5 ?k5 ?a6 ?l6 ?c6 ?k6 ?a7 ?l7 ?c7 ?k7 ?a8 ?l8 ?c8 ?k8 ?a9 ?l9 ?c9 ?k9 ?a10 ?l10 ?c10 ?k10 ?a11 ?l11 ?c11 ?k11 ?a12 ?l12 ?c12 ?k12 ?a13 ?l13 ?c13 ?k13 ?a14 ?l14 ?c14 ?k14 ?a15 ?l15 ?c15 ?k15 ?a16 ?l16 ?c16 ?k16 ?a17 ?l17 ?c17 ?k17 ?a18 ?l18 ?c18 ?k18 ?a19 ?l19 ?c19 ?k19 ?a20 ?l20 ?c20 ?k20 ?a21 ?l21 ?c21 ?k21
    (case z_any => k_is); (case z_enumerate => k_is); (case z_int => k_is); (case z_len => k_is); (case z_list => k_is); (case z_max => k_is); (case z_min => k_is); (case z_range => k_is)
    (case z_repr => k_is); (case z_sorted => k_is); (case z_sum => k_is); (case z_tuple => k_is); (case a0 => k_is); (case l0 => k_is); (case c0 => k_is); (case k0 => k_is)
    (case a1 => k_is); (case l1 => k_is); (case c1 => k_is); (case k1 => k_is); (case a2 => k_is); (case l2 => k_is); (case c2 => k_is); (case k2 => k_is)
    (case a3 => k_is); (case l3 => k_is); (case c3 => k_is); (case k3 => k_is); (case a4 => k_is); (case l4 => k_is); (case c4 => k_is); (case k4 => k_is)
    (case a5 => k_is); (case l5 => k_is); (case c5 => k_is); (case k5 => k_is); (case a6 => k_is); (case l6 => k_is); (case c6 => k_is); (case k6 => k_is)
    (case a7 => k_is); (case l7 => k_is); (case c7 => k_is); (case k7 => k_is); (case a8 => k_is); (case l8 => k_is); (case c8 => k_is); (case k8 => k_is)
    (case a9 => k_is); (case l9 => k_is); (case c9 => k_is); (case k9 => k_is); (case a10 => k_is); (case l10 => k_is); (case c10 => k_is); (case k10 => k_is)
    (case a11 => k_is); (case l11 => k_is); (case c11 => k_is); (case k11 => k_is); (case a12 => k_is); (case l12 => k_is); (case c12 => k_is); (case k12 => k_is)
    (case a13 => k_is); (case l13 => k_is); (case c13 => k_is); (case k13 => k_is); (case a14 => k_is); (case l14 => k_is); (case c14 => k_is); (case k14 => k_is)
    (case a15 => k_is); (case l15 => k_is); (case c15 => k_is); (case k15 => k_is); (case a16 => k_is); (case l16 => k_is); (case c16 => k_is); (case k16 => k_is)
    (case a17 => k_is); (case l17 => k_is); (case c17 => k_is); (case k17 => k_is); (case a18 => k_is); (case l18 => k_is); (case c18 => k_is); (case k18 => k_is)
    (case a19 => k_is); (case l19 => k_is); (case c19 => k_is); (case k19 => k_is); (case a20 => k_is); (case l20 => k_is); (case c20 => k_is); (case k20 => k_is)
    (case a21 => k_is); (case l21 => k_is); (case c21 => k_is); (case k21 => k_is)
