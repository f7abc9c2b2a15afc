import PyProof.Rows.All
import Wide.All
import OpenK.AllK
import Wide.FinOn
import HandS.ForMost
import HandS.Exc
import HandS.EndBits
import HandS.Deep
import HandS.Zip
import HandS.Walk
import HandS.TupAny
import HandS.TupLe
import HandS.Conv
import HandS.IsInst
import HandS.Wide
import KE.SortData
import PyProof.ReprReads
import HandS.Star
import KE.DatumOrd
import KE.GoesEnum
import PyProof.ReprRoads
import HandS.RaiseMore
import HandS.Style
import KE.Datum
import PyProof.P3Eq
import HandS.Small
import HandS.Dict
import KE.KDictZip
import HandS.SetFor
import HandS.Strs
import HandS.TupMul
import HandS.TupSets
import HandS.More
import HandS.NoneIn
import HandS.DictComp
import HandS.TryOnly
import HandS.ExcOwn
import HandS.ExcInit
import HandS.WordsExc
import KE.KExcSuper
import KE.KSuper
import HandS.ExcIs
import HandS.ExcField
import KE.KExcIs
import KE.DataMinKey
import KE.KMinKey
import HandS.SortKw
import KE.DataMinMax
import PySem.Challenge.RW_longernearer_k52_whole_long_jumps_that_s
set_option Elab.async false
set_option linter.all false
set_option maxRecDepth 100000
set_option maxHeartbeats 4000000
/-! Z: a small functional semantics over the hand layer. -/
namespace Z
open PySem PySem.Spec PyProof.Rows L2

/-! ### values, objects, outcomes -/
abbrev P := PyData
inductive D where
  | p (x : P)
  | ref (i : Nat)
inductive Ob where
  | lst (xs : List D)
  | frz (xs : List P)
  | dic (kvs : List (Key × D))
  | dit (kvs : List (List Key × D))
  | fdc (kvs : List (P × P))
abbrev Store := List Ob
abbrev Sl := List (Option D)
structure Ex where
  cls : Str
  arg : Option (Str × P)
inductive Out (α : Type) where
  | stuck
  | ok (a : α) (M : Store)
  | exc (e : Ex) (M : Store)
def Out.bind {α β : Type} : Out α → (α → Store → Out β) → Out β
  | .ok a M, k => k a M
  | .stuck, _ => .stuck
  | .exc e M, _ => .exc e M
@[simp] theorem Out.bind_ok {α β : Type} (a : α) (M : Store) (k : α → Store → Out β) : (Out.ok a M).bind k = k a M := id rfl
@[simp] theorem Out.bind_stuck {α β : Type} (k : α → Store → Out β) : (Out.stuck : Out α).bind k = .stuck := id rfl
@[simp] theorem Out.bind_exc {α β : Type} (e : Ex) (M : Store) (k : α → Store → Out β) : (Out.exc e M : Out α).bind k = .exc e M := id rfl

def D.low (i : Nat) : D → Bool
  | .p _ => true
  | .ref j => decide (j < i)
def Ob.low (i : Nat) : Ob → Bool
  | .lst xs => xs.all (D.low i)
  | .frz _ => true
  | .dic kvs => kvs.all fun kv => kv.2.low i
  | .dit kvs => kvs.all fun kv => kv.2.low i
  | .fdc _ => true
theorem D.low_mono {i j : Nat} (h : i ≤ j) : ∀ {d : D}, d.low i = true → d.low j = true
  | .p _, _ => rfl
  | .ref k, e => by
    have : k < i := of_decide_eq_true e
    exact decide_eq_true (by omega)
/-- all items are pure -/
def pures : List D → Option (List P)
  | [] => some []
  | .p x :: r => (pures r).map (x :: ·)
  | .ref _ :: _ => none
@[simp] theorem pures_nil : pures [] = some [] := id rfl
@[simp] theorem pures_map : ∀ xs : List P, pures (xs.map .p) = some xs
  | [] => rfl
  | x :: r => by rw [List.map_cons, pures, pures_map r]; rfl
theorem pures_eq : ∀ {ds : List D} {xs : List P}, pures ds = some xs → ds = xs.map .p
  | [], xs, h => by cases h; rfl
  | .p x :: r, xs, h => by
    unfold pures at h
    cases q : pures r with
    | none => rw [q] at h; cases h
    | some ys => rw [q] at h; cases h; rw [pures_eq q]; rfl
  | .ref _ :: _, _, h => by cases h

def kP : Key → P
  | .inl i => .int i
  | .inr x => .str x
/-! ### how they stand in the abstract heap -/
def Fro : HO → Prop
  | .tup _ => True
  | .frz _ _ => True
  | _ => False
section
variable (K : PySem.W.Frag)
def FzL (H : Hp) (a : Addr) (xs : List V) : Prop :=
  (∃ o, H a = some (.frz o (.lst xs))) ∨
    ∃ (its : List Value) (n : Nat), K.lookup a = some { cls := .type "list", data := .seq its.toArray n } ∧ its.length ≤ sizeLine ∧ Vals xs its
/-- a list, frozen or not -/
def SqX (H : Hp) (a : Addr) (xs : List V) : Prop := H a = some (.lst xs) ∨ FzL K H a xs
mutual
inductive Fz (H : Hp) : V → P → Prop
  | non : Fz H .non .none
  | bl (b : Bool) : Fz H (.bl b) (.bool b)
  | int (i : Int) : Fz H (.int i) (.int i)
  | str (x : Str) : Fz H (.str x) (.str x)
  | lst {a : Addr} {xs : List V} {ds : List P} : FzL K H a xs → FzAll H xs ds → Fz H (.ref a) (.list ds)
  | tup {a : Addr} {xs : List V} {ds : List P} : SqT K H a xs → FzAll H xs ds → Fz H (.ref a) (.tuple ds)
  | dct {a : Addr} {o : Obj} {us : List (Key × V)} {ds : List (P × P)} : H a = some (.frz o (.dK us)) → ds.map Prod.fst = us.map (fun u => kP u.1) → FzAll H (us.map Prod.snd) (ds.map Prod.snd) → Fz H (.ref a) (.dict ds)
inductive FzAll (H : Hp) : List V → List P → Prop
  | nil : FzAll H [] []
  | cons {v : V} {vs : List V} {d : P} {ds : List P} : Fz H v d → FzAll H vs ds → FzAll H (v :: vs) (d :: ds)
end
def Dr (θ : List Addr) (H : Hp) (v : V) : D → Prop
  | .p x => Fz K H v x
  | .ref i => ∃ a, θ[i]? = some a ∧ v = .ref a
def Drs (θ : List Addr) (H : Hp) : List V → List D → Prop := Paired (Dr K θ H)
def ObOk (θ : List Addr) (H : Hp) (a : Addr) : Ob → Prop
  | .lst ds => ∃ vs, H a = some (.lst vs) ∧ Drs K θ H vs ds
  | .frz xs => ∃ vs o, H a = some (.frz o (.lst vs)) ∧ FzAll K H vs xs
  | .dic kvs => ∃ us, H a = some (.dK us) ∧ Paired (fun (p : Key × V) (q : Key × D) => p.1 = q.1 ∧ Dr K θ H p.2 q.2) us kvs
  | .fdc ds => ∃ us o, H a = some (.frz o (.dK us)) ∧ ds.map Prod.fst = us.map (fun u => kP u.1) ∧ FzAll K H (us.map Prod.snd) (ds.map Prod.snd)
  | .dit kvs => ∃ us, H a = some (.dT us) ∧ Paired (fun (p : List Key × V) (q : List Key × D) => p.1 = q.1 ∧ Dr K θ H p.2 q.2) us kvs
structure SR (θ : List Addr) (H : Hp) (M : Store) : Prop where
  len : θ.length = M.length
  nd : θ.Nodup
  ob : ∀ (i : Nat) o a, M[i]? = some o → θ[i]? = some a → ObOk K θ H a o
  low : ∀ (i : Nat) o, M[i]? = some o → o.low i = true
structure SV (θ : List Addr) (H : Hp) (σ : L2.St) (sl : Sl) : Prop where
  len : sl.length = σ.length
  at_ : ∀ (i : Nat) d, sl[i]? = some (some d) → ∃ v, σ[i]? = some (some v) ∧ Dr K θ H v d
end
structure Go (θ θ' : List Addr) (H H' : Hp) : Prop where
  pre : θ <+: θ'
  fr : ∀ a u, H a = some u → (a ∉ θ ∨ Fro u) → H' a = some u
  fresh : ∀ a, a ∈ θ' → a ∉ θ → H a = none

theorem Go.refl {θ : List Addr} {H : Hp} : Go θ θ H H := ⟨List.prefix_refl _, fun _ _ h _ => h, fun _ h n => absurd h n⟩
theorem Go.trans {θ θ1 θ2 : List Addr} {H H1 H2 : Hp} (a : Go θ θ1 H H1) (b : Go θ1 θ2 H1 H2) : Go θ θ2 H H2 := by
  refine ⟨a.pre.trans b.pre, fun x u h c => ?_, fun x h n => ?_⟩
  · refine b.fr x u (a.fr x u h c) ?_
    rcases c with c | c
    · by_cases m : x ∈ θ1
      · rw [a.fresh x m c] at h; cases h
      · exact .inl m
    · exact .inr c
  · by_cases m : x ∈ θ1
    · exact a.fresh x m n
    · have e := b.fresh x h m
      cases q : H x with
      | none => rfl
      | some u => rw [a.fr x u q (.inl n)] at e; cases e
/-- frozen things stay -/
def Keep (H H' : Hp) : Prop := ∀ a u, H a = some u → Fro u → H' a = some u
theorem Go.keep {θ θ' : List Addr} {H H' : Hp} (g : Go θ θ' H H') : Keep H H' := fun a u h f => g.fr a u h (.inr f)
theorem Go.at {θ θ' : List Addr} {H H' : Hp} (g : Go θ θ' H H') {i : Nat} {a : Addr} (h : θ[i]? = some a) : θ'[i]? = some a := by
  obtain ⟨t, rfl⟩ := g.pre
  rw [List.getElem?_append_left]
  · exact h
  · exact (List.getElem?_eq_some_iff.mp h).1
section
variable {K : PySem.W.Frag} {θ θ' : List Addr} {H H' : Hp}
theorem FzL.keep {a : Addr} {xs : List V} (k : Keep H H') (h : FzL K H a xs) : FzL K H' a xs := by
  rcases h with ⟨o, h⟩ | h
  · exact .inl ⟨o, k _ _ h trivial⟩
  · exact .inr h
theorem SqT.keep {a : Addr} {xs : List V} (k : Keep H H') (h : SqT K H a xs) : SqT K H' a xs := by
  rcases h with (h | ⟨o, h⟩) | h
  · exact .inl (.inl (k _ _ h trivial))
  · exact .inl (.inr ⟨o, k _ _ h trivial⟩)
  · exact .inr h
mutual
theorem Fz.keep (k : Keep H H') : ∀ {v : V} {d : P}, Fz K H v d → Fz K H' v d
  | _, _, .non => .non
  | _, _, .bl b => .bl b
  | _, _, .int i => .int i
  | _, _, .str x => .str x
  | _, _, .lst h a => .lst (h.keep k) (a.keep k)
  | _, _, .tup h a => .tup (SqT.keep k h) (a.keep k)
  | _, _, .dct h e a => .dct (k _ _ h trivial) e (a.keep k)
theorem FzAll.keep (k : Keep H H') : ∀ {vs : List V} {ds : List P}, FzAll K H vs ds → FzAll K H' vs ds
  | _, _, .nil => .nil
  | _, _, .cons a b => .cons (a.keep k) (b.keep k)
end
theorem FzL.sq {a : Addr} {xs : List V} (h : FzL K H a xs) : SqL K H a xs := by
  rcases h with ⟨o, h⟩ | ⟨its, n, h, l, r⟩
  · exact .inl (.inr ⟨o, h⟩)
  · exact .inr ⟨_, _, n, h, rfl, rfl, rfl, by simpa using l, by simpa using r⟩
theorem SqX.sq {a : Addr} {xs : List V} (h : SqX K H a xs) : SqL K H a xs := h.elim SqL.of fun h => h.sq
theorem SqX.at {X : Cx} {pins : List (Addr × Obj)} {σ : L2.St} {H : Hp} {s : Shared} (I : Inv X pins σ H s) {a : Addr} {xs : List V} (h : SqX X.K H a xs) :
    xs.length ≤ sizeLine ∧ ∃ (its : List Value) (n : Nat), Vals xs its ∧ xs.length = its.length ∧ s.heap.get? a = some { cls := .type "list", data := .seq its.toArray n } := by
  rcases h with h | ⟨o, h⟩ | ⟨its, n, h, l, r⟩
  · exact I.lstM h
  · obtain ⟨_, z, its, n, r, e⟩ := I.hok a _ h
    exact ⟨z, its, n, r, r.length, e⟩
  · exact ⟨by rw [r.length]; exact l, its, n, r, r.length, I.kIn a _ h⟩
mutual
theorem Fz.dp : ∀ {v : V} {d : P}, d.hasDict = false → Fz K H v d → Dp K H v d
  | _, _, _, .non => .non
  | _, _, _, .bl b => .bl b
  | _, _, _, .int i => .int i
  | _, _, _, .str x => .str x
  | _, _, c, .lst h a => .lst h.sq (FzAll.dp (by simpa [PyData.hasDict] using c) a)
  | _, _, c, .tup h a => .tup h (FzAll.dp (by simpa [PyData.hasDict] using c) a)
  | _, _, c, .dct _ _ _ => by simp [PyData.hasDict] at c
theorem FzAll.dp : ∀ {vs : List V} {ds : List P}, PyData.hasDictAll ds = false → FzAll K H vs ds → DpAll K H vs ds
  | _, _, _, .nil => .nil
  | _, d :: ds, c, .cons a b => by
    have c' : (d.hasDict || PyData.hasDictAll ds) = false := by simpa [PyData.hasDictAll] using c
    rw [Bool.or_eq_false_iff] at c'
    exact .cons (Fz.dp c'.1 a) (FzAll.dp c'.2 b)
end
/-- data that may stand in lists of the store -/
inductive Dz (K : PySem.W.Frag) (H : Hp) : V → P → Prop
  | fz {v : V} {d : P} : Fz K H v d → Dz K H v d
  | lst {a : Addr} {xs : List V} {ds : List P} : SqL K H a xs → Paired (Dz K H) xs ds → Dz K H (.ref a) (.list ds)
theorem FzAll.paired : ∀ {vs : List V} {ds : List P}, FzAll K H vs ds → Paired (Fz K H) vs ds
  | _, _, .nil => .nil
  | _, _, .cons a b => .cons a b.paired
theorem FzAll.of : ∀ {vs : List V} {ds : List P}, Paired (Fz K H) vs ds → FzAll K H vs ds
  | _, _, .nil => .nil
  | _, _, .cons a b => .cons a (FzAll.of b)
theorem FzAll.length {vs : List V} {ds : List P} (h : FzAll K H vs ds) : vs.length = ds.length := Paired.length h.paired
theorem FzAll.drs : ∀ {vs : List V} {ds : List P}, FzAll K H vs ds → Drs K θ H vs (ds.map .p)
  | _, _, .nil => .nil
  | _, _, .cons a b => .cons a b.drs
theorem FzAll.ofDrs : ∀ {vs : List V} {ds : List P}, Drs K θ H vs (ds.map .p) → FzAll K H vs ds
  | _, [], h => by cases h; exact .nil
  | _, d :: ds, h => by cases h with | cons a b => exact .cons a (FzAll.ofDrs b)
theorem paired_at {α β : Type} {R : α → β → Prop} : ∀ {l : List α} {m : List β}, Paired R l m → ∀ {i : Nat} {b : β}, m[i]? = some b → ∃ a, l[i]? = some a ∧ R a b
  | _, _, .nil, i, b, e => by simp at e
  | _, _, .cons r t, 0, b, e => by simp at e; subst e; exact ⟨_, rfl, r⟩
  | _, _, .cons r t, i + 1, b, e => by
    obtain ⟨a, h1, h2⟩ := paired_at t (i := i) (b := b) (by simpa using e)
    exact ⟨a, by simpa using h1, h2⟩
theorem paired_at' {α β : Type} {R : α → β → Prop} : ∀ {l : List α} {m : List β}, Paired R l m → ∀ {i : Nat} {a : α}, l[i]? = some a → ∃ b, m[i]? = some b ∧ R a b
  | _, _, .nil, i, b, e => by simp at e
  | _, _, .cons r t, 0, b, e => by simp at e; subst e; exact ⟨_, rfl, r⟩
  | _, _, .cons r t, i + 1, b, e => by
    obtain ⟨a, h1, h2⟩ := paired_at' t (i := i) (a := b) (by simpa using e)
    exact ⟨a, by simpa using h1, h2⟩
theorem paired_append {α β : Type} {R : α → β → Prop} : ∀ {l l' : List α} {m m' : List β}, Paired R l m → Paired R l' m' → Paired R (l ++ l') (m ++ m')
  | _, _, _, _, .nil, h => h
  | _, _, _, _, .cons a b, h => .cons a (paired_append b h)
theorem paired_imp {α β : Type} {R R' : α → β → Prop} (f : ∀ a b, R a b → R' a b) : ∀ {l : List α} {m : List β}, Paired R l m → Paired R' l m
  | _, _, .nil => .nil
  | _, _, .cons a b => .cons (f _ _ a) (paired_imp f b)
theorem paired_take {α β : Type} {R : α → β → Prop} : ∀ (n : Nat) {l : List α} {m : List β}, Paired R l m → Paired R (l.take n) (m.take n)
  | 0, _, _, _ => .nil
  | _ + 1, _, _, .nil => .nil
  | n + 1, _, _, .cons a b => .cons a (paired_take n b)
theorem paired_drop {α β : Type} {R : α → β → Prop} : ∀ (n : Nat) {l : List α} {m : List β}, Paired R l m → Paired R (l.drop n) (m.drop n)
  | 0, _, _, h => h
  | _ + 1, _, _, .nil => .nil
  | n + 1, _, _, .cons a b => paired_drop n b
theorem paired_set {α β : Type} {R : α → β → Prop} {x : α} {y : β} (r : R x y) : ∀ (n : Nat) {l : List α} {m : List β}, Paired R l m → Paired R (l.set n x) (m.set n y)
  | _, _, _, .nil => .nil
  | 0, _, _, .cons a b => .cons r b
  | n + 1, _, _, .cons a b => .cons a (paired_set r n b)
theorem paired_erase {α β : Type} {R : α → β → Prop} : ∀ (n : Nat) {l : List α} {m : List β}, Paired R l m → Paired R (l.eraseIdx n) (m.eraseIdx n)
  | _, _, _, .nil => .nil
  | 0, _, _, .cons a b => b
  | n + 1, _, _, .cons a b => .cons a (paired_erase n b)
theorem paired_reverse {α β : Type} {R : α → β → Prop} : ∀ {l : List α} {m : List β}, Paired R l m → Paired R l.reverse m.reverse
  | _, _, .nil => .nil
  | _, _, .cons a b => by
    rw [List.reverse_cons, List.reverse_cons]
    exact paired_append (paired_reverse b) (.cons a .nil)
theorem Dr.go {v : V} {d : D} (g : Go θ θ' H H') (h : Dr K θ H v d) : Dr K θ' H' v d := by
  cases d with
  | p x => exact Fz.keep g.keep h
  | ref i =>
    obtain ⟨a, e, q⟩ := h
    exact ⟨a, g.at e, q⟩
theorem Drs.go {vs : List V} {ds : List D} (g : Go θ θ' H H') (h : Drs K θ H vs ds) : Drs K θ' H' vs ds := paired_imp (fun _ _ r => Dr.go g r) h
theorem SV.go {σ : L2.St} {sl : Sl} (g : Go θ θ' H H') (h : SV K θ H σ sl) : SV K θ' H' σ sl :=
  ⟨h.len, fun i d e => let ⟨v, e', r⟩ := h.at_ i d e; ⟨v, e', r.go g⟩⟩
/-- what the store's addresses hold is tracked -/
theorem SR.there {M : Store} (h : SR K θ H M) {i : Nat} {a : Addr} (hi : θ[i]? = some a) : ∃ o u, M[i]? = some o ∧ ObOk K θ H a o ∧ H a = some u := by
  have hl := (List.getElem?_eq_some_iff.mp hi).1
  rw [h.len] at hl
  have k := h.ob i _ a (List.getElem?_eq_getElem hl) hi
  refine ⟨M[i], ?_⟩
  cases q : M[i] with
  | lst ds => rw [q] at k; obtain ⟨_, e, r⟩ := k; exact ⟨_, by rw [List.getElem?_eq_getElem hl, q], ⟨_, e, r⟩, e⟩
  | frz ds => rw [q] at k; obtain ⟨_, _, e, r⟩ := k; exact ⟨_, by rw [List.getElem?_eq_getElem hl, q], ⟨_, _, e, r⟩, e⟩
  | dic ds => rw [q] at k; obtain ⟨_, e, r⟩ := k; exact ⟨_, by rw [List.getElem?_eq_getElem hl, q], ⟨_, e, r⟩, e⟩
  | dit ds => rw [q] at k; obtain ⟨_, e, r⟩ := k; exact ⟨_, by rw [List.getElem?_eq_getElem hl, q], ⟨_, e, r⟩, e⟩
  | fdc ds => rw [q] at k; obtain ⟨_, _, e, r⟩ := k; exact ⟨_, by rw [List.getElem?_eq_getElem hl, q], ⟨_, _, e, r⟩, e⟩
theorem SR.apart {M : Store} (h : SR K θ H M) {p : Addr} (hp : H p = none) : ∀ a ∈ θ, a ≠ p := by
  intro a ha e
  obtain ⟨i, hi⟩ := List.getElem?_of_mem ha
  obtain ⟨_, u, _, _, q⟩ := h.there hi
  rw [e, hp] at q
  cases q
theorem ObOk.carry {θ1 : List Addr} {H1 : Hp} {a : Addr} {o : Ob} (g : ∀ {v : V} {d : D}, Dr K θ H v d → Dr K θ1 H1 v d) (k : Keep H H1) (e : H1 a = H a) (h : ObOk K θ H a o) : ObOk K θ1 H1 a o := by
  cases o with
  | lst ds => obtain ⟨vs, q, r⟩ := h; exact ⟨vs, e.trans q, paired_imp (fun _ _ z => g z) r⟩
  | frz xs => obtain ⟨vs, o, q, r⟩ := h; exact ⟨vs, o, e.trans q, r.keep k⟩
  | dic kvs => obtain ⟨us, q, r⟩ := h; exact ⟨us, e.trans q, paired_imp (fun _ _ z => ⟨z.1, g z.2⟩) r⟩
  | dit kvs => obtain ⟨us, q, r⟩ := h; exact ⟨us, e.trans q, paired_imp (fun _ _ z => ⟨z.1, g z.2⟩) r⟩
  | fdc ds => obtain ⟨us, o, q, r1, r2⟩ := h; exact ⟨us, o, e.trans q, r1, r2.keep k⟩
/-- a fresh address that no object of the store is at -/
theorem Go.out {M : Store} (h : SR K θ H M) {p : Addr} {u : HO} (hp : H p = none) : Go θ θ H (L2.upd H p u) :=
  ⟨List.prefix_refl _, fun a w e _ => by rw [upd_ne (ne_of_none e hp)]; exact e, fun a m n => absurd m n⟩
theorem SR.out {M : Store} (h : SR K θ H M) {p : Addr} {u : HO} (hp : H p = none) : SR K θ (upd H p u) M :=
  ⟨h.len, h.nd, fun i o a e1 e2 => (h.ob i o a e1 e2).carry (fun z => z.go (Go.out h hp)) (Go.out (u := u) h hp).keep (upd_ne (h.apart hp a (List.mem_of_getElem? e2))), h.low⟩
/-- a new object of the store -/
theorem Go.new {M : Store} (h : SR K θ H M) {p : Addr} {u : HO} (hp : H p = none) : Go θ (θ ++ [p]) H (upd H p u) :=
  ⟨List.prefix_append _ _, fun a w e _ => by rw [upd_ne (ne_of_none e hp)]; exact e, fun a m n => by
    rcases List.mem_append.mp m with m | m
    · exact absurd m n
    · rw [List.mem_singleton.mp m]; exact hp⟩
theorem SR.new {M : Store} {p : Addr} {u : HO} {o : Ob} (h : SR K θ H M) (hp : H p = none) (ok : ObOk K (θ ++ [p]) (upd H p u) p o) (lo : o.low M.length = true) : SR K (θ ++ [p]) (upd H p u) (M ++ [o]) := by
  have g : Go θ (θ ++ [p]) H (upd H p u) := Go.new h hp
  refine ⟨?_, ?_, fun i q a e1 e2 => ?_, fun i q e => ?_⟩
  · rw [List.length_append, List.length_append, h.len]; rfl
  · rw [List.nodup_append]
    refine ⟨h.nd, by simp, fun a ha b hb => ?_⟩
    rw [List.mem_singleton.mp hb]
    exact h.apart hp a ha
  · by_cases hi : i < M.length
    · rw [List.getElem?_append_left hi] at e1
      rw [List.getElem?_append_left (by rw [h.len]; exact hi)] at e2
      exact (h.ob i q a e1 e2).carry (fun z => z.go g) g.keep (upd_ne (h.apart hp a (List.mem_of_getElem? e2)))
    · have hi' : i = M.length := by
        have := (List.getElem?_eq_some_iff.mp e1).1
        rw [List.length_append] at this
        simp at this
        omega
      subst hi'
      rw [List.getElem?_append_right (Nat.le_refl _), Nat.sub_self] at e1
      rw [List.getElem?_append_right (by rw [h.len]; exact Nat.le_refl _), h.len, Nat.sub_self] at e2
      cases e1; cases e2
      exact ok
  · by_cases hi : i < M.length
    · rw [List.getElem?_append_left hi] at e
      exact h.low i q e
    · have hi' : i = M.length := by
        have := (List.getElem?_eq_some_iff.mp e).1
        rw [List.length_append] at this
        simp at this
        omega
      subst hi'
      rw [List.getElem?_append_right (Nat.le_refl _), Nat.sub_self] at e
      cases e
      exact lo
theorem SR.newD {M : Store} {p : Addr} (h : SR K θ H M) : Dr K (θ ++ [p]) H (.ref p) (.ref M.length) :=
  ⟨p, by rw [List.getElem?_append_right (by rw [h.len]; exact Nat.le_refl _), h.len, Nat.sub_self]; rfl, rfl⟩
theorem Drs.low {M : Store} (h : SR K θ H M) : ∀ {vs : List V} {ds : List D}, Drs K θ H vs ds → ds.all (D.low M.length) = true
  | _, _, .nil => rfl
  | _, d :: _, .cons a b => by
    rw [List.all_cons, Drs.low h b, Bool.and_true]
    cases d with
    | p x => rfl
    | ref i =>
      obtain ⟨q, e, _⟩ := a
      have := (List.getElem?_eq_some_iff.mp e).1
      exact decide_eq_true (by rw [← h.len]; exact this)
/-- an object of the store is changed -/
theorem SR.set {M : Store} {i : Nat} {a : Addr} {u0 u : HO} {o : Ob} (h : SR K θ H M) (hi : θ[i]? = some a) (h0 : H a = some u0) (nf : ¬ Fro u0) (ok : ObOk K θ (upd H a u) a o) (lo : o.low i = true) :
    SR K θ (upd H a u) (M.set i o) ∧ Go θ θ H (upd H a u) := by
  have g : Go θ θ H (L2.upd H a u) := ⟨List.prefix_refl _, fun b w e c => by
    have ne : b ≠ a := by
      rintro rfl
      rw [h0] at e; cases e
      rcases c with c | c
      · exact c (List.mem_of_getElem? hi)
      · exact nf c
    rw [upd_ne ne]; exact e, fun b m n => absurd m n⟩
  refine ⟨⟨by rw [List.length_set]; exact h.len, h.nd, fun j q b e1 e2 => ?_, fun j q e => ?_⟩, g⟩
  · by_cases hj : i = j
    · subst hj
      rw [hi] at e2; cases e2
      have hl : i < M.length := by rw [← h.len]; exact (List.getElem?_eq_some_iff.mp hi).1
      rw [List.getElem?_set_self hl] at e1
      cases e1
      exact ok
    · rw [List.getElem?_set_ne hj] at e1
      refine (h.ob j q b e1 e2).carry (fun z => z.go g) g.keep (upd_ne ?_)
      rintro rfl
      obtain ⟨l1, r1⟩ := List.getElem?_eq_some_iff.mp hi
      obtain ⟨l2, r2⟩ := List.getElem?_eq_some_iff.mp e2
      exact hj ((List.getElem_inj h.nd).mp (r1.trans r2.symm))
  · by_cases hj : i = j
    · subst hj
      have hl : i < M.length := by rw [← h.len]; exact (List.getElem?_eq_some_iff.mp hi).1
      rw [List.getElem?_set_self hl] at e
      cases e
      exact lo
    · rw [List.getElem?_set_ne hj] at e
      exact h.low j q e
/-- the younger objects forgotten -/
theorem Dr.cut {n : Nat} {v : V} {d : D} (h : Dr K θ H v d) (lo : d.low n = true) : Dr K (θ.take n) H v d := by
  cases d with
  | p x => exact h
  | ref i =>
    obtain ⟨a, e, q⟩ := h
    have : i < n := of_decide_eq_true lo
    exact ⟨a, by rw [List.getElem?_take, if_pos this]; exact e, q⟩
theorem Drs.cut {n : Nat} : ∀ {vs : List V} {ds : List D}, Drs K θ H vs ds → ds.all (D.low n) = true → Drs K (θ.take n) H vs ds
  | _, _, .nil, _ => .nil
  | _, _, .cons a b, l => by
    rw [List.all_cons, Bool.and_eq_true] at l
    exact .cons (a.cut l.1) (Drs.cut b l.2)
theorem pairs_cut {κ : Type} {n : Nat} : ∀ {us : List (κ × V)} {kvs : List (κ × D)}, Paired (fun (p : κ × V) (q : κ × D) => p.1 = q.1 ∧ Dr K θ H p.2 q.2) us kvs → (kvs.all fun kv => kv.2.low n) = true → Paired (fun (p : κ × V) (q : κ × D) => p.1 = q.1 ∧ Dr K (θ.take n) H p.2 q.2) us kvs
  | _, _, .nil, _ => .nil
  | _, _, .cons a b, l => by
    rw [List.all_cons, Bool.and_eq_true] at l
    exact .cons ⟨a.1, a.2.cut l.1⟩ (pairs_cut b l.2)
theorem ObOk.cut {n : Nat} {a : Addr} {o : Ob} (h : ObOk K θ H a o) (lo : o.low n = true) : ObOk K (θ.take n) H a o := by
  cases o with
  | lst ds => obtain ⟨vs, q, r⟩ := h; exact ⟨vs, q, Drs.cut r lo⟩
  | frz xs => exact h
  | dic kvs => obtain ⟨us, q, r⟩ := h; exact ⟨us, q, pairs_cut r lo⟩
  | dit kvs => obtain ⟨us, q, r⟩ := h; exact ⟨us, q, pairs_cut r lo⟩
  | fdc ds => exact h
theorem Ob.low_mono {i j : Nat} (h : i ≤ j) {o : Ob} (e : o.low i = true) : o.low j = true := by
  cases o with
  | lst ds => exact List.all_eq_true.mpr fun x m => D.low_mono h (List.all_eq_true.mp e x m)
  | frz xs => rfl
  | dic kvs => exact List.all_eq_true.mpr fun x m => D.low_mono h (List.all_eq_true.mp e x m)
  | dit kvs => exact List.all_eq_true.mpr fun x m => D.low_mono h (List.all_eq_true.mp e x m)
  | fdc ds => rfl
theorem SR.cut {M : Store} (h : SR K θ H M) (n : Nat) : SR K (θ.take n) H (M.take n) := by
  refine ⟨by rw [List.length_take, List.length_take, h.len], h.nd.sublist (List.take_sublist _ _), fun i o a e1 e2 => ?_, fun i o e => ?_⟩
  · rw [List.getElem?_take] at e1 e2
    by_cases hi : i < n
    · rw [if_pos hi] at e1 e2
      exact (h.ob i o a e1 e2).cut (Ob.low_mono (Nat.le_of_lt hi) (h.low i o e1))
    · rw [if_neg hi] at e1; cases e1
  · rw [List.getElem?_take] at e
    by_cases hi : i < n
    · rw [if_pos hi] at e; exact h.low i o e
    · rw [if_neg hi] at e; cases e
end
/-! ### outcomes against the heap -/
def ExOk (K : PySem.W.Frag) (mg : Str → Option Value) (H : Hp) (x : Ex) (cls : Value) (dd : Option Addr) : Prop :=
  mg x.cls = some cls ∧ match x.arg with
    | none => dd = none
    | some (f, y) => ∃ d v, dd = some d ∧ H d = some (.xd [(f, v)]) ∧ Fz K H v y
section
variable (K : PySem.W.Frag) (mg : Str → Option Value) (E : XK)
def Post {α β : Type} (R : List Addr → Hp → β → α → Prop) (Q : β → Hp → Prop) (θ : List Addr) (H : Hp) : Out α → Prop
  | .stuck => False
  | .ok a M' => ∀ b H' θ', Go θ θ' H H' → SR K θ' H' M' → R θ' H' b a → Q b H'
  | .exc x M' => ∀ cls dd H' θ', Go θ θ' H H' → SR K θ' H' M' → ExOk K mg H' x cls dd → E cls dd H'
end
section
variable {K : PySem.W.Frag} {mg : Str → Option Value} {E : XK} {α β γ δ : Type} {R : List Addr → Hp → β → α → Prop} {Q : β → Hp → Prop} {R' : List Addr → Hp → δ → γ → Prop} {Q' : δ → Hp → Prop}
theorem Post.go {θ θ1 : List Addr} {H H1 : Hp} {o : Out α} (g : Go θ θ1 H H1) (h : Post K mg E R Q θ H o) : Post K mg E R Q θ1 H1 o := by
  cases o with
  | stuck => exact h
  | ok a M' => exact fun b H' θ' g' s r => h b H' θ' (g.trans g') s r
  | exc x M' => exact fun c d H' θ' g' s r => h c d H' θ' (g.trans g') s r
theorem Post.bind {θ : List Addr} {H : Hp} {o : Out α} {k : α → Store → Out γ} (h : Post K mg E R' Q' θ H (o.bind k))
    (f : ∀ a M1 b H1 θ1, Go θ θ1 H H1 → SR K θ1 H1 M1 → R θ1 H1 b a → Post K mg E R' Q' θ1 H1 (k a M1) → Q b H1) : Post K mg E R Q θ H o := by
  cases o with
  | stuck => exact h
  | ok a M' => exact fun b H' θ' g s r => f a M' b H' θ' g s r (Post.go g h)
  | exc x M' => exact h
theorem Post.imp {θ : List Addr} {H : Hp} {o : Out α} {Q2 : β → Hp → Prop} (h : Post K mg E R Q θ H o) (f : ∀ b H', Q b H' → Q2 b H') : Post K mg E R Q2 θ H o := by
  cases o with
  | stuck => exact h
  | ok a M' => exact fun b H' θ' g s r => f _ _ (h b H' θ' g s r)
  | exc x M' => exact h
theorem Post.here {θ : List Addr} {H : Hp} {a : α} {M : Store} {b : β} (h : Post K mg E R Q θ H (.ok a M)) (s : SR K θ H M) (r : R θ H b a) : Q b H := h b H θ .refl s r
end
/-! ### the judgements -/
abbrev ZC := Sl → Store → Out D
abbrev ZCb := Sl → Store → Out Bool
abbrev ZCs := Sl → Store → Out (List D)
def EqR : List Addr → Hp → Bool → Bool → Prop := fun _ _ b a => b = a
structure ZX (X : Cx) : Prop where
  calm : X.calm = true
  own : PassesOwn (model X.prog X.w) X.A X.env X.xe
  nd : X.N.Nodup
  hu : X.A.units + 100 < cLine
  gd : X.A.guards = some []
section
variable (X : Cx) (E : XK)
def ZE (e : Expr) (c : ZC) : Prop := ∃ t, PE X e t ∧ ∀ σ H θ sl M Q, SV X.K θ H σ sl → SR X.K θ H M → Post X.K X.mg E (Dr X.K) Q θ H (c sl M) → t σ H Q
def ZT (e : Expr) (c : ZCb) : Prop := ∃ t, PT X e t ∧ ∀ σ H θ sl M Q, SV X.K θ H σ sl → SR X.K θ H M → Post X.K X.mg E EqR Q θ H (c sl M) → t σ H Q
def ZW (e : Expr) (c : ZCb) : Prop := ∃ t, PW X e t ∧ ∀ σ H θ sl M Q, SV X.K θ H σ sl → SR X.K θ H M → Post X.K X.mg E EqR Q θ H (c sl M) → t σ H Q
def ZA (es : List Expr) (c : ZCs) : Prop := ∃ t, PA X es t ∧ ∀ σ H θ sl M Q, SV X.K θ H σ sl → SR X.K θ H M → Post X.K X.mg E (Drs X.K) Q θ H (c sl M) → t σ H Q
end
end Z

/-! Z: expressions. -/
namespace Z
open PySem PySem.Spec PyProof.Rows L2

/-! ### views -/
def optAll {α β : Type} (f : α → Option β) : List α → Option (List β)
  | [] => some []
  | x :: r => match f x, optAll f r with
    | some y, some ys => some (y :: ys)
    | _, _ => none
def snap : Nat → Store → D → Option P
  | _, _, .p x => some x
  | 0, _, .ref _ => none
  | n + 1, M, .ref i => match M[i]? with
    | some (.lst ds) => (optAll (snap n M) ds).map .list
    | some (.frz xs) => some (.list xs)
    | _ => none
@[simp] theorem snap_p (n : Nat) (M : Store) (x : P) : snap n M (.p x) = some x := by cases n <;> rfl
def lstv (M : Store) : D → Option (List D)
  | .p (.list xs) => some (xs.map .p)
  | .ref i => match M[i]? with
    | some (.lst ds) => some ds
    | some (.frz xs) => some (xs.map .p)
    | _ => none
  | _ => none
@[simp] theorem lstv_p (M : Store) (xs : List P) : lstv M (.p (.list xs)) = some (xs.map .p) := id rfl
@[simp] theorem lstv_t (M : Store) (xs : List P) : lstv M (.p (.tuple xs)) = none := id rfl
@[simp] theorem lstv_i (M : Store) (i : Int) : lstv M (.p (.int i)) = none := id rfl
/-! dicts -/
def kOf : P → Option Key
  | .int i => some (.inl i)
  | .str x => some (.inr x)
  | _ => none
theorem kOf_kP (k : Key) : kOf (kP k) = some k := by cases k <;> rfl
theorem kP_of {x : P} {k : Key} (h : kOf x = some k) : x = kP k := by
  unfold kOf at h
  split at h <;> cases h <;> rfl
def keyed : List (P × P) → Option (List (Key × D))
  | [] => some []
  | kv :: r => match kOf kv.1, keyed r with
    | some k, some ks => some ((k, .p kv.2) :: ks)
    | _, _ => none
/-- what a dict holds -/
def dictv (M : Store) : D → Option (List (Key × D))
  | .p (.dict kvs) => keyed kvs
  | .ref i => match M[i]? with
    | some (.dic kvs) => some kvs
    | some (.fdc kvs) => keyed kvs
    | _ => none
  | _ => none
def valD (kvs : List (Key × D)) (k : Key) : Option D := (kvs.find? fun kv => decide (kv.1 = k)).map Prod.snd
@[simp] theorem dictv_l (M : Store) (xs : List P) : dictv M (.p (.list xs)) = none := id rfl
@[simp] theorem dictv_t (M : Store) (xs : List P) : dictv M (.p (.tuple xs)) = none := id rfl
@[simp] theorem dictv_i (M : Store) (i : Int) : dictv M (.p (.int i)) = none := id rfl
@[simp] theorem dictv_s (M : Store) (i : Str) : dictv M (.p (.str i)) = none := id rfl
@[simp] theorem dictv_b (M : Store) (i : Bool) : dictv M (.p (.bool i)) = none := id rfl
@[simp] theorem dictv_n (M : Store) : dictv M (.p .none) = none := id rfl
@[simp] theorem dictv_d (M : Store) (kvs : List (P × P)) : dictv M (.p (.dict kvs)) = keyed kvs := id rfl
section
variable {K : PySem.W.Frag} {θ : List Addr} {H : Hp} {M : Store}
theorem dr_ref {v : V} {i : Nat} {o : Ob} (s : SR K θ H M) (r : Dr K θ H v (.ref i)) (e : M[i]? = some o) : ∃ a, θ[i]? = some a ∧ v = .ref a ∧ ObOk K θ H a o := by
  obtain ⟨a, h, rfl⟩ := r
  exact ⟨a, h, rfl, s.ob i o a e h⟩
mutual
theorem Dz.dp : ∀ (d : P) (v : V), d.hasDict = false → Dz K H v d → Dp K H v d
  | .none, v, c, h => by
    cases h with
    | fz h => exact h.dp c
  | .bool b, v, c, h => by
    cases h with
    | fz h => exact h.dp c
  | .int b, v, c, h => by
    cases h with
    | fz h => exact h.dp c
  | .str b, v, c, h => by
    cases h with
    | fz h => exact h.dp c
  | .dict b, v, c, h => by simp [PyData.hasDict] at c
  | .tuple b, v, c, h => by
    cases h with
    | fz h => exact h.dp c
  | .list ds, v, c, h => by
    cases h with
    | fz h => exact h.dp c
    | lst q r => exact .lst q (Dz.dps ds _ (by simpa [PyData.hasDict] using c) r)
theorem Dz.dps : ∀ (ds : List P) (vs : List V), PyData.hasDictAll ds = false → Paired (Dz K H) vs ds → DpAll K H vs ds
  | [], _, c, h => by cases h; exact .nil
  | d :: ds, _, c, h => by
    cases h with
    | cons a b =>
      have c' : (d.hasDict || PyData.hasDictAll ds) = false := by simpa [PyData.hasDictAll] using c
      rw [Bool.or_eq_false_iff] at c'
      exact .cons (Dz.dp d _ c'.1 a) (Dz.dps ds _ c'.2 b)
end
theorem optAll_dz {n : Nat} (ih : ∀ v d x, Dr K θ H v d → snap n M d = some x → Dz K H v x) : ∀ {vs : List V} {ds : List D} {xs : List P}, Drs K θ H vs ds → optAll (snap n M) ds = some xs → Paired (Dz K H) vs xs
  | _, _, xs, .nil, e => by cases e; exact .nil
  | _, d :: ds, xs, .cons a b, e => by
    unfold optAll at e
    cases q1 : snap n M d with
    | none => rw [q1] at e; cases e
    | some y =>
      cases q2 : optAll (snap n M) ds with
      | none => rw [q1, q2] at e; cases e
      | some ys =>
        rw [q1, q2] at e
        cases e
        exact .cons (ih _ _ _ a q1) (optAll_dz ih b q2)
theorem fz_dz : ∀ {vs : List V} {xs : List P}, FzAll K H vs xs → Paired (Dz K H) vs xs
  | _, _, .nil => .nil
  | _, _, .cons a b => .cons (.fz a) (fz_dz b)
theorem snap_dz (s : SR K θ H M) : ∀ (n : Nat) (v : V) (d : D) (x : P), Dr K θ H v d → snap n M d = some x → Dz K H v x
  | n, v, .p y, x, r, e => by
    rw [snap_p] at e
    cases e
    exact .fz r
  | 0, _, .ref _, _, _, e => by cases e
  | n + 1, v, .ref i, x, r, e => by
    unfold snap at e
    cases q : M[i]? with
    | none => rw [q] at e; cases e
    | some o =>
      rw [q] at e
      obtain ⟨a, h, rfl, k⟩ := dr_ref s r q
      cases o with
      | lst ds =>
        simp only at e
        cases q2 : optAll (snap n M) ds with
        | none => rw [q2] at e; cases e
        | some ys =>
          rw [q2] at e
          cases e
          obtain ⟨vs, e1, rs⟩ := k
          exact .lst (SqL.of e1) (optAll_dz (snap_dz s n) rs q2)
      | frz xs =>
        simp only at e
        cases e
        obtain ⟨vs, o, e1, rs⟩ := k
        exact .lst (.inl (.inr ⟨o, e1⟩)) (fz_dz rs)
      | dic kvs => cases e
      | dit kvs => cases e
      | fdc kvs => cases e
theorem snap_dp (s : SR K θ H M) (n : Nat) (v : V) (d : D) (x : P) (r : Dr K θ H v d) (e : snap n M d = some x) (c : x.hasDict = false) : Dp K H v x := Dz.dp x v c (snap_dz s n v d x r e)
theorem lstv_ok {v : V} {d : D} {ds : List D} (s : SR K θ H M) (r : Dr K θ H v d) (e : lstv M d = some ds) : ∃ a vs, v = .ref a ∧ SqX K H a vs ∧ Drs K θ H vs ds := by
  cases d with
  | p x =>
    cases x with
    | list xs =>
      cases e
      cases r with
      | lst h a => exact ⟨_, _, rfl, .inr h, a.drs⟩
    | _ => cases e
  | ref i =>
    unfold lstv at e
    simp only at e
    cases q : M[i]? with
    | none => rw [q] at e; cases e
    | some o =>
      rw [q] at e
      obtain ⟨a, h, rfl, k⟩ := dr_ref s r q
      cases o with
      | lst ds => cases e; obtain ⟨vs, e1, rs⟩ := k; exact ⟨_, _, rfl, .inl e1, rs⟩
      | frz xs => cases e; obtain ⟨vs, o, e1, rs⟩ := k; exact ⟨_, _, rfl, .inr (.inl ⟨o, e1⟩), rs.drs⟩
      | dic kvs => cases e
      | dit kvs => cases e
      | fdc kvs => cases e
abbrev KD (K : PySem.W.Frag) (θ : List Addr) (H : Hp) (us : List (Key × V)) (kvs : List (Key × D)) : Prop := Paired (fun (p : Key × V) (q : Key × D) => p.1 = q.1 ∧ Dr K θ H p.2 q.2) us kvs
theorem keyed_ok : ∀ {us : List (Key × V)} {ds : List (P × P)} {kvs : List (Key × D)}, ds.map Prod.fst = us.map (fun u => kP u.1) → FzAll K H (us.map Prod.snd) (ds.map Prod.snd) → keyed ds = some kvs → KD K θ H us kvs
  | [], [], kvs, _, _, e => by cases e; exact .nil
  | [], _ :: _, _, h, _, _ => by simp at h
  | _ :: _, [], _, h, _, _ => by simp at h
  | u :: us, d :: ds, kvs, h, f, e => by
    rw [List.map_cons, List.map_cons, List.cons.injEq] at h
    rw [List.map_cons, List.map_cons] at f
    cases f with
    | cons f1 f2 =>
      unfold keyed at e
      rw [h.1, kOf_kP] at e
      cases q : keyed ds with
      | none => rw [q] at e; cases e
      | some ks =>
        rw [q] at e
        cases e
        exact .cons ⟨rfl, f1⟩ (keyed_ok h.2 f2 q)
theorem dictv_ok {v : V} {d : D} {kvs : List (Key × D)} (s : SR K θ H M) (r : Dr K θ H v d) (e : dictv M d = some kvs) : ∃ a us, v = .ref a ∧ Rd H a (.dK us) ∧ KD K θ H us kvs := by
  cases d with
  | p x =>
    cases x with
    | dict ds =>
      cases r with
      | dct h k f => exact ⟨_, _, rfl, .inr ⟨_, h⟩, keyed_ok k f e⟩
    | _ => cases e
  | ref i =>
    unfold dictv at e
    simp only at e
    cases q : M[i]? with
    | none => rw [q] at e; cases e
    | some o =>
      rw [q] at e
      obtain ⟨a, h, rfl, k⟩ := dr_ref s r q
      cases o with
      | dic ds => cases e; obtain ⟨us, e1, rs⟩ := k; exact ⟨_, _, rfl, .inl e1, rs⟩
      | fdc ds => obtain ⟨us, o, e1, r1, r2⟩ := k; exact ⟨_, _, rfl, .inr ⟨_, e1⟩, keyed_ok r1 r2 e⟩
      | lst _ => cases e
      | frz _ => cases e
      | dit _ => cases e
theorem kd_val (k : Key) : ∀ {us : List (Key × V)} {kvs : List (Key × D)}, KD K θ H us kvs → (valV us k = none ∧ valD kvs k = none) ∨ ∃ v d, valV us k = some v ∧ valD kvs k = some d ∧ Dr K θ H v d
  | _, _, .nil => .inl ⟨rfl, rfl⟩
  | u :: us, q :: kvs, .cons a b => by
    by_cases e : u.1 = k
    · exact .inr ⟨u.2, q.2, valV_pos e, by simp [valD, List.find?_cons, a.1 ▸ e], a.2⟩
    · have e2 : ¬ q.1 = k := fun z => e (a.1.trans z)
      have := kd_val k b
      rw [valV_neg e, show valD (q :: kvs) k = valD kvs k by simp [valD, List.find?_cons, e2]]
      exact this
theorem kv_is {v : V} {x : P} {k : Key} (r : Fz K H v x) (h : kOf x = some k) : v = kV k := by
  unfold kOf at h
  split at h <;> cases h <;> cases r <;> rfl
theorem fz_ints : ∀ {ns : List Int} {vs : List V}, FzAll K H vs (ns.map .int) → vs = ns.map V.int
  | [], _, h => by cases h; rfl
  | n :: ns, _, h => by
    cases h with
    | cons a b => cases a; rw [fz_ints b]; rfl
end

/-! ### readings by outcomes -/
section
variable (X : Cx) (E : XK)
def rZ1 (g : D → Store → Out D) : V → Hp → VK → Prop := fun v H Q => ∃ x θ M, SR X.K θ H M ∧ Dr X.K θ H v x ∧ Post X.K X.mg E (Dr X.K) Q θ H (g x M)
def rZ2 (g : D → D → Store → Out D) : R2 := fun v u H Q => ∃ x y θ M, SR X.K θ H M ∧ Dr X.K θ H v x ∧ Dr X.K θ H u y ∧ Post X.K X.mg E (Dr X.K) Q θ H (g x y M)
def rZs (g : List D → Store → Out D) : List V → Hp → VK → Prop := fun vs H Q => ∃ ds θ M, SR X.K θ H M ∧ Drs X.K θ H vs ds ∧ Post X.K X.mg E (Dr X.K) Q θ H (g ds M)
def rZm (g : D → List D → Store → Out D) : V → List V → Hp → VK → Prop := fun v vs H Q => ∃ x ds θ M, SR X.K θ H M ∧ Dr X.K θ H v x ∧ Drs X.K θ H vs ds ∧ Post X.K X.mg E (Dr X.K) Q θ H (g x ds M)
end
def z1 (g : D → Store → Out D) (a : ZC) : ZC := fun sl M => (a sl M).bind g
def z2 (g : D → D → Store → Out D) (a b : ZC) : ZC := fun sl M => (a sl M).bind fun x M1 => (b sl M1).bind fun y M2 => g x y M2
def zs (g : List D → Store → Out D) (a : ZCs) : ZC := fun sl M => (a sl M).bind g
def zm (g : D → List D → Store → Out D) (o : ZC) (a : ZCs) : ZC := fun sl M => (o sl M).bind fun x M1 => (a sl M1).bind fun ds M2 => g x ds M2
def zv (i : Nat) : ZC := fun sl M => match sl[i]? with
  | some (some d) => .ok d M
  | _ => .stuck
def zk (x : P) : ZC := fun _ M => .ok (.p x) M
def asBool (d : D) (M : Store) : Out Bool := match d with
  | .p (.bool b) => .ok b M
  | _ => .stuck
def zt (a : ZC) : ZCb := fun sl M => (a sl M).bind asBool
def znil : ZCs := fun _ M => .ok [] M
def zcons (a : ZC) (r : ZCs) : ZCs := fun sl M => (a sl M).bind fun x M1 => (r sl M1).bind fun xs M2 => .ok (x :: xs) M2

section
variable {X : Cx} {E : XK} {e a b c : Expr} {es : List Expr} {pos : Pos} {ca cb cc : ZC} {cs : ZCs}
theorem ZE.v (i : Nat) {x : Str} (hN : X.N[i]? = some x := by rfl) (hv : Vis X.env.scope x := by first | exact Or.inl rfl | exact Or.inr (Or.inl rfl) | exact Or.inr (Or.inr rfl))
    (hd : (x == ("__debug__" : Str)) = false := by decide) (hcd : (x == ("__classdict__" : Str)) = false := by decide) : ZE X E (.Name x pos) (zv i) := by
  refine ⟨_, pe_var hN hv hd hcd, fun σ H θ sl M Q hs hm h => ?_⟩
  unfold zv at h
  cases q : sl[i]? with
  | none => rw [q] at h; exact h.elim
  | some o =>
    cases o with
    | none => rw [q] at h; exact h.elim
    | some d =>
      rw [q] at h
      obtain ⟨v, ev, r⟩ := hs.at_ i d q
      exact ⟨v, ev, Post.here h hm r⟩
theorem ZE.const {x : P} {v : V} (h : PE X e (tC v)) (f : ∀ H, Fz X.K H v x) : ZE X E e (zk x) :=
  ⟨_, h, fun σ H θ sl M Q hs hm q => Post.here (b := v) (show Post X.K X.mg E (Dr X.K) Q θ H (.ok (.p x) M) from q) hm (f H)⟩
theorem ZE.int {i : Int} {j} : ZE X E (.Constant (.int i) j pos) (zk (.int i)) := .const pe_int fun _ => .int i
theorem ZE.bl {i : Bool} {j} : ZE X E (.Constant (.bool i) j pos) (zk (.bool i)) := .const pe_bl fun _ => .bl i
theorem ZE.non {j} : ZE X E (.Constant .none j pos) (zk .none) := .const pe_non fun _ => .non
theorem ZE.str {i : String} {j} : ZE X E (.Constant (.str i) j pos) (zk (.str i)) := .const pe_str fun _ => .str _
/-- a module's int -/
theorem ZE.gint {x : Str} {i : Int} {t : Tok} (hg : Gl X x) (hm : X.mg x = some (.int i t)) (hd : (x == ("__debug__" : Str)) = false := by decide) : ZE X E (.Name x pos) (zk (.int i)) :=
  .const (v := .int i) (pe_glob hg hm ⟨t, rfl⟩ hd) fun _ => .int i
theorem ZE.op1 {op : UnaryOp} {g : D → Store → Out D} (ho : UnR X (unaryOp op) (rZ1 X E g)) (ha : ZE X E a ca) : ZE X E (.UnaryOp op a pos) (z1 g ca) := by
  obtain ⟨ta, pa, qa⟩ := ha
  refine ⟨_, pe_un ho pa, fun σ H θ sl M Q hs hm h => ?_⟩
  exact qa σ H θ sl M _ hs hm (Post.bind h fun x M1 v H1 θ1 g1 m1 r1 h1 => ⟨x, θ1, M1, m1, r1, h1⟩)
theorem two {g : D → D → Store → Out D} {ta tb : TE}
    (qa : ∀ σ H θ sl M Q, SV X.K θ H σ sl → SR X.K θ H M → Post X.K X.mg E (Dr X.K) Q θ H (ca sl M) → ta σ H Q)
    (qb : ∀ σ H θ sl M Q, SV X.K θ H σ sl → SR X.K θ H M → Post X.K X.mg E (Dr X.K) Q θ H (cb sl M) → tb σ H Q) {σ : L2.St} {H : Hp} {θ : List Addr} {sl : Sl} {M : Store} {Q : VK} (hs : SV X.K θ H σ sl) (hm : SR X.K θ H M)
    (h : Post X.K X.mg E (Dr X.K) Q θ H (z2 g ca cb sl M)) : tOp (rZ2 X E g) ta tb σ H Q := by
  refine qa σ H θ sl M _ hs hm (Post.bind h fun x M1 v H1 θ1 g1 m1 r1 h1 => ?_)
  refine qb σ H1 θ1 sl M1 _ (hs.go g1) m1 (Post.bind h1 fun y M2 u H2 θ2 g2 m2 r2 h2 => ?_)
  exact ⟨x, y, θ2, M2, m2, r1.go g2, r2, h2⟩
theorem ZE.op2 {op : Operator} {g : D → D → Store → Out D} (ho : OpR X (binaryOp op) (rZ2 X E g)) (ha : ZE X E a ca) (hb : ZE X E b cb) : ZE X E (.BinOp a op b pos) (z2 g ca cb) := by
  obtain ⟨ta, pa, qa⟩ := ha
  obtain ⟨tb, pb, qb⟩ := hb
  exact ⟨_, pe_op ho pa pb, fun σ H θ sl M Q hs hm h => two qa qb hs hm h⟩
theorem ZE.cmp {op : CmpOp} {g : D → D → Store → Out D} (ho : OpR X (compareOp op) (rZ2 X E g)) (ha : ZE X E a ca) (hb : ZE X E b cb) (hm : behindInMarks op b = false := by first | exact nomark _ | rfl) :
    ZE X E (.Compare a [op] [b] pos) (z2 g ca cb) := by
  obtain ⟨ta, pa, qa⟩ := ha
  obtain ⟨tb, pb, qb⟩ := hb
  exact ⟨_, pe_cmpR ho pa pb hm, fun σ H θ sl M Q hs hm h => two qa qb hs hm h⟩
theorem tt_of {t : TE} {c : ZC} (q : ∀ σ H θ sl M Q, SV X.K θ H σ sl → SR X.K θ H M → Post X.K X.mg E (Dr X.K) Q θ H (c sl M) → t σ H Q) {σ : L2.St} {H : Hp} {θ : List Addr} {sl : Sl} {M : Store} {Q : Bool → Hp → Prop}
    (hs : SV X.K θ H σ sl) (hm : SR X.K θ H M) (h : Post X.K X.mg E EqR Q θ H (zt c sl M)) : t σ H fun x H' => ∃ k, x = .bl k ∧ Q k H' := by
  refine q σ H θ sl M _ hs hm (Post.bind h fun x M1 v H1 θ1 g1 m1 r1 h1 => ?_)
  cases x with
  | ref i => exact h1.elim
  | p y =>
    cases y with
    | bool k =>
      cases r1
      exact ⟨k, rfl, Post.here h1 m1 rfl⟩
    | _ => exact h1.elim
theorem ZT.cmp {op : CmpOp} {g : D → D → Store → Out D} (ho : OpR X (compareOp op) (rZ2 X E g)) (ha : ZE X E a ca) (hb : ZE X E b cb) (hm : behindInMarks op b = false := by first | exact nomark _ | rfl) :
    ZT X E (.Compare a [op] [b] pos) (zt (z2 g ca cb)) := by
  obtain ⟨ta, pa, qa⟩ := ha
  obtain ⟨tb, pb, qb⟩ := hb
  exact ⟨_, pt_cmpR ho pa pb hm, fun σ H θ sl M Q hs hm h => tt_of (t := tOp (rZ2 X E g) ta tb) (c := z2 g ca cb) (fun σ H θ sl M Q hs hm h => two qa qb hs hm h) hs hm h⟩
/-- a < b < c -/
def zchain (g g' : D → D → Store → Out D) (a b c : ZC) : ZC := fun sl M => (a sl M).bind fun x M1 => (b sl M1).bind fun y M2 => (g x y M2).bind fun z M3 => match z with
  | .p (.bool true) => (c sl M3).bind fun w M4 => g' y w M4
  | .p (.bool false) => .ok (.p (.bool false)) M3
  | _ => .stuck
theorem chain_ok {g g' : D → D → Store → Out D} {ta tb tc : TE} {op : CmpOp}
    (qa : ∀ σ H θ sl M Q, SV X.K θ H σ sl → SR X.K θ H M → Post X.K X.mg E (Dr X.K) Q θ H (ca sl M) → ta σ H Q)
    (qb : ∀ σ H θ sl M Q, SV X.K θ H σ sl → SR X.K θ H M → Post X.K X.mg E (Dr X.K) Q θ H (cb sl M) → tb σ H Q)
    (qc : ∀ σ H θ sl M Q, SV X.K θ H σ sl → SR X.K θ H M → Post X.K X.mg E (Dr X.K) Q θ H (cc sl M) → tc σ H Q)
    {σ : L2.St} {H : Hp} {θ : List Addr} {sl : Sl} {M : Store} {Q : VK} (hs : SV X.K θ H σ sl) (hm : SR X.K θ H M)
    (h : Post X.K X.mg E (Dr X.K) Q θ H (zchain g g' ca cb cc sl M)) : ta σ H fun x H1 => tb σ H1 fun y H2 => rZ2 X E g x y H2 fun z H3 => ∃ k, z = .bl k ∧ (if k = true then tc σ H3 fun w H4 => rZ2 X E g' y w H4 Q else Q (.bl false) H3) := by
  refine qa σ H θ sl M _ hs hm (Post.bind h fun x M1 v H1 θ1 g1 m1 r1 h1 => ?_)
  refine qb σ H1 θ1 sl M1 _ (hs.go g1) m1 (Post.bind h1 fun y M2 u H2 θ2 g2 m2 r2 h2 => ?_)
  refine ⟨x, y, θ2, M2, m2, r1.go g2, r2, Post.bind h2 fun z M3 w H3 θ3 g3 m3 r3 h3 => ?_⟩
  cases z with
  | ref i => exact h3.elim
  | p y' =>
    cases y' with
    | bool k =>
      cases r3
      refine ⟨k, rfl, ?_⟩
      cases k with
      | false =>
        rw [if_neg Bool.false_ne_true]
        exact Post.here (show Post X.K X.mg E (Dr X.K) Q θ3 H3 (.ok (.p (.bool false)) M3) from h3) m3 (Fz.bl false)
      | true =>
        rw [if_pos rfl]
        exact qc σ H3 θ3 sl M3 _ (((hs.go g1).go g2).go g3) m3 (Post.bind h3 fun w' M4 u4 H4 θ4 g4 m4 r4 h4 => ⟨y, w', θ4, M4, m4, (r2.go g3).go g4, r4, h4⟩)
    | _ => exact h3.elim
theorem ZE.chain {op op' : CmpOp} {g g' : D → D → Store → Out D} (ho : OpR X (compareOp op) (rZ2 X E g)) (ho' : OpR X (compareOp op') (rZ2 X E g')) (ha : ZE X E a ca) (hb : ZE X E b cb) (hc : ZE X E c cc)
    (hm : lastMarks [op, op'] [b, c] = false := by with_unfolding_all rfl) : ZE X E (.Compare a [op, op'] [b, c] pos) (zchain g g' ca cb cc) := by
  obtain ⟨ta, pa, qa⟩ := ha
  obtain ⟨tb, pb, qb⟩ := hb
  obtain ⟨tc, pc, qc⟩ := hc
  exact ⟨_, pe_chain ho ho' pa pb pc hm, fun σ H θ sl M Q hs hm h => chain_ok (op := op) qa qb qc hs hm h⟩
theorem ZT.chain {op op' : CmpOp} {g g' : D → D → Store → Out D} (ho : OpR X (compareOp op) (rZ2 X E g)) (ho' : OpR X (compareOp op') (rZ2 X E g')) (ha : ZE X E a ca) (hb : ZE X E b cb) (hc : ZE X E c cc)
    (hm : lastMarks [op, op'] [b, c] = false := by with_unfolding_all rfl) : ZT X E (.Compare a [op, op'] [b, c] pos) (zt (zchain g g' ca cb cc)) := by
  obtain ⟨ta, pa, qa⟩ := ha
  obtain ⟨tb, pb, qb⟩ := hb
  obtain ⟨tc, pc, qc⟩ := hc
  exact ⟨_, pt_chain ho ho' pa pb pc hm, fun σ H θ sl M Q hs hm h => tt_of (t := tChain (rZ2 X E g) (rZ2 X E g') ta tb tc) (c := zchain g g' ca cb cc) (fun σ H θ sl M Q hs hm h => chain_ok (op := op) qa qb qc hs hm h) hs hm h⟩
/-- a bool as a test -/
theorem ZT.val (ha : ZE X E a ca) (he : ∀ whole, isTrue a X.env whole = (do let v ← whole; standAt a.pos; holding [v] (truthy v)) := by intro _; rfl) : ZT X E a (zt ca) := by
  obtain ⟨ta, pa, qa⟩ := ha
  exact ⟨_, pt_val pa he, fun σ H θ sl M Q hs hm h => tt_of qa hs hm h⟩
/-! ### and, or, not -/
def ztand (a b : ZCb) : ZCb := fun sl M => (a sl M).bind fun k M1 => if k = true then b sl M1 else .ok false M1
def ztor (a b : ZCb) : ZCb := fun sl M => (a sl M).bind fun k M1 => if k = true then .ok true M1 else b sl M1
def ztnot (a : ZCb) : ZCb := fun sl M => (a sl M).bind fun k M1 => .ok (!k) M1
variable {ta tb : ZCb} {rest : List Expr}
theorem ZW.and1 (ha : ZT X E a ta) : ZW X E (.BoolOp .And [a] pos) ta := by
  obtain ⟨t, p, q⟩ := ha
  exact ⟨_, pw_and1 p, q⟩
theorem ZW.or1 (ha : ZT X E a ta) : ZW X E (.BoolOp .Or [a] pos) ta := by
  obtain ⟨t, p, q⟩ := ha
  exact ⟨_, pw_or1 p, q⟩
theorem ZW.and (ha : ZT X E a ta) (hb : ZW X E (.BoolOp .And (b :: rest) pos) tb) : ZW X E (.BoolOp .And (a :: b :: rest) pos) (ztand ta tb) := by
  obtain ⟨t, p, q⟩ := ha
  obtain ⟨u, pb, qb⟩ := hb
  refine ⟨_, pw_and p pb, fun σ H θ sl M Q hs hm h => q σ H θ sl M _ hs hm (Post.bind h fun k M1 k' H1 θ1 g1 m1 r1 h1 => ?_)⟩
  cases r1
  cases k with
  | false => exact Post.here (by simpa using h1) m1 rfl
  | true => exact qb σ H1 θ1 sl M1 Q (hs.go g1) m1 (by simpa using h1)
theorem ZW.or (ha : ZT X E a ta) (hb : ZW X E (.BoolOp .Or (b :: rest) pos) tb) : ZW X E (.BoolOp .Or (a :: b :: rest) pos) (ztor ta tb) := by
  obtain ⟨t, p, q⟩ := ha
  obtain ⟨u, pb, qb⟩ := hb
  refine ⟨_, pw_or p pb, fun σ H θ sl M Q hs hm h => q σ H θ sl M _ hs hm (Post.bind h fun k M1 k' H1 θ1 g1 m1 r1 h1 => ?_)⟩
  cases r1
  cases k with
  | true => exact Post.here (by simpa using h1) m1 rfl
  | false => exact qb σ H1 θ1 sl M1 Q (hs.go g1) m1 (by simpa using h1)
theorem ZT.w (h : ZW X E a ta) : ZT X E a ta := by
  obtain ⟨t, p, q⟩ := h
  exact ⟨t, p.pt, q⟩
theorem ZT.not (ha : ZT X E a ta) : ZT X E (.UnaryOp .Not a pos) (ztnot ta) := by
  obtain ⟨t, p, q⟩ := ha
  refine ⟨_, pt_not p, fun σ H θ sl M Q hs hm h => q σ H θ sl M _ hs hm (Post.bind h fun k M1 k' H1 θ1 g1 m1 r1 h1 => ?_)⟩
  cases r1
  exact Post.here (show Post X.K X.mg E EqR Q θ1 H1 (.ok (!k) M1) from h1) m1 rfl
def zand (a b : ZC) : ZC := fun sl M => (a sl M).bind fun x M1 => (asBool x M1).bind fun k M2 => if k = true then b sl M2 else .ok (.p (.bool false)) M2
def zor (a b : ZC) : ZC := fun sl M => (a sl M).bind fun x M1 => (asBool x M1).bind fun k M2 => if k = true then .ok (.p (.bool true)) M2 else b sl M2
def znot (a : ZC) : ZC := fun sl M => (a sl M).bind fun x M1 => (asBool x M1).bind fun k M2 => .ok (.p (.bool (!k))) M2
theorem asBool_ok {Q : Bool → Hp → Prop} {θ : List Addr} {H : Hp} {x : D} {M : Store} {v : V} {α : Type} {k : Bool → Store → Out α} {β : Type} {R' : List Addr → Hp → β → α → Prop} {Q' : β → Hp → Prop}
    (h : Post X.K X.mg E R' Q' θ H ((asBool x M).bind k)) (r : Dr X.K θ H v x) : ∃ b, v = .bl b ∧ Post X.K X.mg E R' Q' θ H (k b M) := by
  cases x with
  | ref i => exact h.elim
  | p y =>
    cases y with
    | bool b => cases r; exact ⟨b, rfl, h⟩
    | _ => exact h.elim
theorem ZE.one {op} (ha : ZE X E a ca) : ZE X E (.BoolOp op [a] pos) ca := by
  obtain ⟨t, p, q⟩ := ha
  exact ⟨_, pe_one p, q⟩
theorem ZE.and (ha : ZE X E a ca) (hb : ZE X E (.BoolOp .And (b :: rest) pos) cb) : ZE X E (.BoolOp .And (a :: b :: rest) pos) (zand ca cb) := by
  obtain ⟨t, p, q⟩ := ha
  obtain ⟨u, pb, qb⟩ := hb
  refine ⟨_, pe_and p pb, fun σ H θ sl M Q hs hm h => q σ H θ sl M _ hs hm (Post.bind h fun x M1 v H1 θ1 g1 m1 r1 h1 => ?_)⟩
  obtain ⟨k, rfl, h2⟩ := asBool_ok (Q := fun _ _ => True) h1 r1
  refine ⟨k, rfl, ?_⟩
  cases k with
  | false => exact Post.here (show Post X.K X.mg E (Dr X.K) Q θ1 H1 (.ok (.p (.bool false)) M1) from by simpa using h2) m1 (Fz.bl false)
  | true => exact qb σ H1 θ1 sl M1 Q (hs.go g1) m1 (by simpa using h2)
theorem ZE.or (ha : ZE X E a ca) (hb : ZE X E (.BoolOp .Or (b :: rest) pos) cb) : ZE X E (.BoolOp .Or (a :: b :: rest) pos) (zor ca cb) := by
  obtain ⟨t, p, q⟩ := ha
  obtain ⟨u, pb, qb⟩ := hb
  refine ⟨_, pe_or p pb, fun σ H θ sl M Q hs hm h => q σ H θ sl M _ hs hm (Post.bind h fun x M1 v H1 θ1 g1 m1 r1 h1 => ?_)⟩
  obtain ⟨k, rfl, h2⟩ := asBool_ok (Q := fun _ _ => True) h1 r1
  refine ⟨k, rfl, ?_⟩
  cases k with
  | true => exact Post.here (show Post X.K X.mg E (Dr X.K) Q θ1 H1 (.ok (.p (.bool true)) M1) from by simpa using h2) m1 (Fz.bl true)
  | false => exact qb σ H1 θ1 sl M1 Q (hs.go g1) m1 (by simpa using h2)
theorem ZE.not (ha : ZE X E a ca) : ZE X E (.UnaryOp .Not a pos) (znot ca) := by
  obtain ⟨t, p, q⟩ := ha
  refine ⟨_, pe_not p, fun σ H θ sl M Q hs hm h => q σ H θ sl M _ hs hm (Post.bind h fun x M1 v H1 θ1 g1 m1 r1 h1 => ?_)⟩
  obtain ⟨k, rfl, h2⟩ := asBool_ok (Q := fun _ _ => True) h1 r1
  exact ⟨k, rfl, Post.here (b := V.bl (!k)) (show Post X.K X.mg E (Dr X.K) Q θ1 H1 (.ok (.p (.bool (!k))) M1) from h2) m1 (Fz.bl _)⟩
def zif (t : ZCb) (a b : ZC) : ZC := fun sl M => (t sl M).bind fun k M1 => if k = true then a sl M1 else b sl M1
theorem ZE.ife (hc : ZT X E c ta) (ha : ZE X E a ca) (hb : ZE X E b cb) : ZE X E (.IfExp c a b pos) (zif ta ca cb) := by
  obtain ⟨t, p, q⟩ := hc
  obtain ⟨u, pa, qa⟩ := ha
  obtain ⟨w, pb, qb⟩ := hb
  refine ⟨_, pe_ifExp p pa pb, fun σ H θ sl M Q hs hm h => q σ H θ sl M _ hs hm (Post.bind h fun k M1 k' H1 θ1 g1 m1 r1 h1 => ?_)⟩
  cases r1
  cases k with
  | true => exact (if_pos rfl).mpr (qa σ H1 θ1 sl M1 Q (hs.go g1) m1 (by simpa using h1))
  | false => exact (if_neg Bool.false_ne_true).mpr (qb σ H1 θ1 sl M1 Q (hs.go g1) m1 (by simpa using h1))
/-! ### lists of arguments, displays -/
theorem ZA.nil : ZA X E [] znil := ⟨_, pa_nil, fun σ H θ sl M Q hs hm h => Post.here (b := []) (show Post X.K X.mg E (Drs X.K) Q θ H (.ok [] M) from h) hm .nil⟩
theorem ZA.cons (ha : ZE X E a ca) (hr : ZA X E es cs) (hs : starEach (a :: es) X.env = (false, eval a X.env) :: starEach es X.env := by rfl) : ZA X E (a :: es) (zcons ca cs) := by
  obtain ⟨t, p, q⟩ := ha
  obtain ⟨u, pr, qr⟩ := hr
  refine ⟨_, pa_cons p pr hs, fun σ H θ sl M Q hs hm h => q σ H θ sl M _ hs hm (Post.bind h fun x M1 v H1 θ1 g1 m1 r1 h1 => ?_)⟩
  refine qr σ H1 θ1 sl M1 _ (hs.go g1) m1 (Post.bind h1 fun xs M2 vs H2 θ2 g2 m2 r2 h2 => ?_)
  exact Post.here (b := v :: vs) (show Post X.K X.mg E (Drs X.K) Q θ2 H2 (.ok (x :: xs) M2) from h2) m2 (.cons (r1.go g2) r2)
def mkTup (ds : List D) (M : Store) : Out D := match pures ds with
  | some xs => if xs.length ≤ sizeLine then .ok (.p (.tuple xs)) M else .stuck
  | none => .stuck
def mkLstF (ds : List D) (M : Store) : Out D := match pures ds with
  | some xs => if xs.length ≤ sizeLine then .ok (.p (.list xs)) M else .stuck
  | none => .stuck
def mkLst (ds : List D) (M : Store) : Out D := if ds.length ≤ sizeLine then .ok (.ref M.length) (M ++ [.lst ds]) else .stuck
theorem SqT.new {K : PySem.W.Frag} {H : Hp} {p : Addr} {xs : List V} : SqT K (upd H p (.tup xs)) p xs := .inl (.inl upd_same)
/-- a new tuple -/
theorem new_tup {θ : List Addr} {H : Hp} {M : Store} {Q : VK} {vs : List V} {xs : List P} {p : Addr} (h : Post X.K X.mg E (Dr X.K) Q θ H (.ok (.p (.tuple xs)) M)) (s : SR X.K θ H M) (r : FzAll X.K H vs xs) (hp : H p = none) : Q (.ref p) (upd H p (.tup vs)) :=
  h (.ref p) _ θ (Go.out s hp) (s.out hp) (.tup SqT.new (r.keep (Go.out s hp).keep))
/-- a new list that nobody changes from now on -/
theorem new_frz {θ : List Addr} {H : Hp} {M : Store} {Q : VK} {vs : List V} {xs : List P} {p : Addr} {o : Obj} (h : Post X.K X.mg E (Dr X.K) Q θ H (.ok (.p (.list xs)) M)) (s : SR X.K θ H M) (r : FzAll X.K H vs xs) (hp : H p = none) :
    Q (.ref p) (upd (upd H p (.lst vs)) p (.frz o (.lst vs))) := by
  rw [upd_upd]
  exact h (.ref p) _ θ (Go.out s hp) (s.out hp) (.lst (.inl ⟨o, upd_same⟩) (r.keep (Go.out s hp).keep))
theorem new_lst {θ : List Addr} {H : Hp} {M : Store} {Q : VK} {vs : List V} {ds : List D} {p : Addr} (h : Post X.K X.mg E (Dr X.K) Q θ H (.ok (.ref M.length) (M ++ [.lst ds]))) (s : SR X.K θ H M) (r : Drs X.K θ H vs ds) (hp : H p = none) :
    Q (.ref p) (upd H p (.lst vs)) :=
  h (.ref p) _ (θ ++ [p]) (Go.new s hp) (s.new hp ⟨vs, upd_same, Drs.go (Go.new s hp) r⟩ (Drs.low s r)) s.newD
def FrzQ (Q : VK) : VK := fun v H1 => ∃ a xs, v = .ref a ∧ H1 a = some (.lst xs) ∧ ∀ o, Q v (upd H1 a (.frz o (.lst xs)))
theorem ep_frz {pins : List (Addr × Obj)} {σ : L2.St} {Q : VK} {u : Value} {s : Shared} (h : EP X pins σ (FrzQ Q) u s) : EP X pins σ Q u s := by
  obtain ⟨v, H1, I, r, a, xs, rfl, e, q⟩ := h
  obtain ⟨o, I2⟩ := I.lock e trivial
  exact ⟨_, _, I2, r, q o⟩
theorem pe_frz {t : TE} (h : PE X e t) : PE X e (fun σ H Q => t σ H (FrzQ Q)) :=
  ⟨fun pins s σ H Q I w => thn (h.run pins s σ H _ I w) fun u s1 q => ep_frz q⟩
theorem ZE.tup {x1} (h : ZA X E es cs) : ZE X E (.Tuple es x1 pos) (zs mkTup cs) := by
  obtain ⟨t, p, q⟩ := h
  refine ⟨_, pe_tup p, fun σ H θ sl M Q hs hm h => q σ H θ sl M _ hs hm (Post.bind h fun ds M1 vs H1 θ1 g1 m1 r1 h1 => ?_)⟩
  unfold mkTup at h1
  cases e : pures ds with
  | none => rw [e] at h1; exact h1.elim
  | some xs =>
    rw [e] at h1
    simp only at h1
    rw [pures_eq e] at r1
    have r2 := FzAll.ofDrs r1
    by_cases l : xs.length ≤ sizeLine
    · rw [if_pos l] at h1
      exact ⟨by rw [r2.length]; exact l, fun a ha => new_tup h1 m1 r2 ha⟩
    · rw [if_neg l] at h1; exact h1.elim
theorem ZE.lstF (h : ZA X E es cs) : ZE X E (.List es pos) (zs mkLstF cs) := by
  obtain ⟨t, p, q⟩ := h
  refine ⟨fun σ H Q => tLst t σ H (FrzQ Q), pe_frz (pe_lst p), fun σ H θ sl M Q hs hm h => q σ H θ sl M _ hs hm (Post.bind h fun ds M1 vs H1 θ1 g1 m1 r1 h1 => ?_)⟩
  unfold mkLstF at h1
  cases e : pures ds with
  | none => rw [e] at h1; exact h1.elim
  | some xs =>
    rw [e] at h1
    simp only at h1
    rw [pures_eq e] at r1
    have r2 := FzAll.ofDrs r1
    by_cases l : xs.length ≤ sizeLine
    · rw [if_pos l] at h1
      exact ⟨by rw [r2.length]; exact l, fun a ha => ⟨a, vs, rfl, upd_same, fun o => new_frz h1 m1 r2 ha⟩⟩
    · rw [if_neg l] at h1; exact h1.elim
theorem ZE.lst (h : ZA X E es cs) : ZE X E (.List es pos) (zs mkLst cs) := by
  obtain ⟨t, p, q⟩ := h
  refine ⟨_, pe_lst p, fun σ H θ sl M Q hs hm h => q σ H θ sl M _ hs hm (Post.bind h fun ds M1 vs H1 θ1 g1 m1 r1 h1 => ?_)⟩
  unfold mkLst at h1
  by_cases l : ds.length ≤ sizeLine
  · rw [if_pos l] at h1
    exact ⟨by rw [Paired.length r1]; exact l, fun a ha => new_lst h1 m1 r1 ha⟩
  · rw [if_neg l] at h1; exact h1.elim
/-! ### an object of the store is frozen -/
def zfreeze (d : D) (M : Store) : Out D := match d with
  | .p x => .ok (.p x) M
  | .ref i => match M[i]? with
    | some (.lst ds) => match pures ds with
      | some xs => .ok (.p (.list xs)) (M.set i (.frz xs))
      | none => .stuck
    | some (.frz xs) => .ok (.p (.list xs)) M
    | some (.dic kvs) => match pures (kvs.map Prod.snd) with
      | some xs => .ok (.p (.dict ((kvs.map fun kv => kP kv.1).zip xs))) (M.set i (.fdc ((kvs.map fun kv => kP kv.1).zip xs)))
      | none => .stuck
    | some (.fdc ds) => .ok (.p (.dict ds)) M
    | _ => .stuck
@[simp] theorem zfreeze_p (x : P) (M : Store) : zfreeze (.p x) M = .ok (.p x) M := id rfl
def zfrz (a : ZC) : ZC := fun sl M => (a sl M).bind zfreeze
def FrzD (Q : VK) : VK := fun v H1 => ∃ a us, v = .ref a ∧ H1 a = some (.dK us) ∧ ∀ o, Q v (upd H1 a (.frz o (.dK us)))
theorem ep_frzD {pins : List (Addr × Obj)} {σ : L2.St} {Q : VK} {u : Value} {s : Shared} (h : EP X pins σ (FrzD Q) u s) : EP X pins σ Q u s := by
  obtain ⟨v, H1, I, r, a, xs, rfl, e, q⟩ := h
  obtain ⟨o, I2⟩ := I.lock e trivial
  exact ⟨_, _, I2, r, q o⟩
theorem pairs_keys {κ : Type} {K : PySem.W.Frag} {θ : List Addr} {H : Hp} : ∀ {us : List (κ × V)} {kvs : List (κ × D)}, Paired (fun (p : κ × V) (q : κ × D) => p.1 = q.1 ∧ Dr K θ H p.2 q.2) us kvs → us.map Prod.fst = kvs.map Prod.fst ∧ Drs K θ H (us.map Prod.snd) (kvs.map Prod.snd)
  | _, _, .nil => ⟨rfl, .nil⟩
  | _, _, .cons a b => by
    obtain ⟨h1, h2⟩ := pairs_keys b
    exact ⟨by rw [List.map_cons, List.map_cons, h1, a.1], .cons a.2 h2⟩
theorem ZE.frz (ha : ZE X E a ca) : ZE X E a (zfrz ca) := by
  obtain ⟨t, p, q⟩ := ha
  refine ⟨fun σ H Q => t σ H fun v H1 => Q v H1 ∨ FrzQ Q v H1 ∨ FrzD Q v H1, ⟨fun pins s σ H Q I w => thn (p.run pins s σ H _ I w) fun u s1 h => ?_⟩, fun σ H θ sl M Q hs hm h => q σ H θ sl M _ hs hm (Post.bind h fun x M1 v H1 θ1 g1 m1 r1 h1 => ?_)⟩
  · obtain ⟨v, H', I', r, h⟩ := h
    rcases h with h | h | h
    · exact ⟨v, H', I', r, h⟩
    · exact ep_frz ⟨v, H', I', r, h⟩
    · exact ep_frzD ⟨v, H', I', r, h⟩
  · cases x with
    | p y => exact .inl (Post.here (show Post X.K X.mg E (Dr X.K) Q θ1 H1 (.ok (.p y) M1) from h1) m1 r1)
    | ref i =>
      unfold zfreeze at h1
      simp only at h1
      cases e : M1[i]? with
      | none => rw [e] at h1; exact h1.elim
      | some ob =>
        rw [e] at h1
        obtain ⟨ad, hi, rfl, k⟩ := dr_ref m1 r1 e
        cases ob with
        | lst ds =>
          simp only at h1
          cases e2 : pures ds with
          | none => rw [e2] at h1; exact h1.elim
          | some xs =>
            rw [e2] at h1
            simp only at h1
            obtain ⟨vs, e3, rs⟩ := k
            rw [pures_eq e2] at rs
            refine .inr (.inl ⟨ad, vs, rfl, e3, fun o => ?_⟩)
            have f2 : FzAll X.K (upd H1 ad (.frz o (.lst vs))) vs xs := (FzAll.ofDrs rs).keep fun b u eb fb => by
              rw [upd_ne (fun z => by rw [z, e3] at eb; cases eb; exact fb)]; exact eb
            obtain ⟨s2, g2⟩ := m1.set hi e3 (u := .frz o (.lst vs)) (o := .frz xs) (fun z => z) ⟨vs, o, upd_same, f2⟩ rfl
            exact h1 _ _ θ1 g2 s2 (.lst (.inl ⟨o, upd_same⟩) f2)
        | frz xs =>
          simp only at h1
          obtain ⟨vs, o, e3, rs⟩ := k
          exact .inl (h1 _ _ θ1 .refl m1 (.lst (.inl ⟨o, e3⟩) rs))
        | dic kvs =>
          simp only at h1
          cases e2 : pures (kvs.map Prod.snd) with
          | none => rw [e2] at h1; exact h1.elim
          | some xs =>
            rw [e2] at h1
            simp only at h1
            obtain ⟨us, e3, rs⟩ := k
            obtain ⟨k1, k2⟩ := pairs_keys rs
            rw [pures_eq e2] at k2
            have xl : xs.length = kvs.length := by have := congrArg List.length (pures_eq e2); simpa using this.symm
            have hk : (((kvs.map fun kv => kP kv.1).zip xs).map Prod.fst) = us.map fun u => kP u.1 := by
              rw [List.map_fst_zip (by rw [List.length_map, xl]; exact Nat.le_refl _)]
              have := congrArg (List.map kP) k1
              rw [List.map_map, List.map_map] at this
              exact this.symm
            have hv : (((kvs.map fun kv => kP kv.1).zip xs).map Prod.snd) = xs := List.map_snd_zip (by rw [List.length_map, xl]; exact Nat.le_refl _)
            refine .inr (.inr ⟨ad, us, rfl, e3, fun o => ?_⟩)
            have f2 : FzAll X.K (upd H1 ad (.frz o (.dK us))) (us.map Prod.snd) (((kvs.map fun kv => kP kv.1).zip xs).map Prod.snd) := by
              rw [hv]
              exact (FzAll.ofDrs k2).keep fun b u eb fb => by
                rw [upd_ne (fun z => by rw [z, e3] at eb; cases eb; exact fb)]; exact eb
            obtain ⟨s2, g2⟩ := m1.set hi e3 (u := .frz o (.dK us)) (o := .fdc ((kvs.map fun kv => kP kv.1).zip xs)) (fun z => z) ⟨us, o, upd_same, hk, f2⟩ rfl
            exact h1 _ _ θ1 g2 s2 (.dct upd_same hk f2)
        | dit kvs => exact h1.elim
        | fdc ds =>
          simp only at h1
          obtain ⟨us, o, e3, r1, r2⟩ := k
          exact .inl (h1 _ _ θ1 .refl m1 (.dct e3 r1 r2))
end
end Z

/-! Z: operators on values. -/
namespace Z
open PySem PySem.Spec PyProof.Rows L2

/-! ### arithmetic -/
instance {i j : Int} : Decidable (CMul i j) := by unfold CMul; infer_instance
instance {i j : Int} : Decidable (CPow i j) := by unfold CPow; infer_instance
def frzl (ds : List D) (M : Store) : Out D := match pures ds with
  | some zs => if zs.length ≤ sizeLine then .ok (.p (.list zs)) M else .stuck
  | none => .stuck
@[simp] theorem frzl_map (xs : List P) (M : Store) : frzl (xs.map .p) M = if xs.length ≤ sizeLine then .ok (.p (.list xs)) M else .stuck := by simp [frzl]
def zAddL (a b : D) (M : Store) : Out D := match lstv M a, lstv M b with
  | some xs, some ys => frzl (xs ++ ys) M
  | _, _ => .stuck
def zAdd (a b : D) (M : Store) : Out D := match a, b with
  | .p (.int i), .p (.int j) => .ok (.p (.int (i + j))) M
  | .p (.tuple xs), .p (.tuple ys) => if xs.length + ys.length ≤ sizeLine then .ok (.p (.tuple (xs ++ ys))) M else .stuck
  | a, b => zAddL a b M
def zSub (a b : D) (M : Store) : Out D := match a, b with
  | .p (.int i), .p (.int j) => .ok (.p (.int (i - j))) M
  | _, _ => .stuck
def zMul (a b : D) (M : Store) : Out D := match a, b with
  | .p (.int i), .p (.int j) => if CMul i j then .ok (.p (.int (i * j))) M else .stuck
  | a, .p (.int k) => match lstv M a with
    | some xs => if -(2 ^ 63) ≤ k ∧ k < 2 ^ 63 ∧ xs.length * k.toNat ≤ sizeLine then frzl (List.replicate k.toNat xs).flatten M else .stuck
    | none => .stuck
  | _, _ => .stuck
def zMod (a b : D) (M : Store) : Out D := match a, b with
  | .p (.int i), .p (.int j) => if 0 < j then .ok (.p (.int (i % j))) M else .stuck
  | _, _ => .stuck
def zDiv (a b : D) (M : Store) : Out D := match a, b with
  | .p (.int i), .p (.int j) => if 0 < j ∧ j < 1073741824 then .ok (.p (.int (i / j))) M else .stuck
  | _, _ => .stuck
def zPow (a b : D) (M : Store) : Out D := match a, b with
  | .p (.int i), .p (.int j) => if CPow i j then .ok (.p (.int (i ^ j.toNat))) M else .stuck
  | _, _ => .stuck
def zNeg (a : D) (M : Store) : Out D := match a with
  | .p (.int i) => .ok (.p (.int (-i))) M
  | _ => .stuck

section
variable {X : Cx} {E : XK}
theorem zNeg_ok : UnR X (unaryOp .USub) (rZ1 X E zNeg) := by
  intro pins s σ H x v Q I rx h
  obtain ⟨d, θ, M, m, r, h⟩ := h
  cases d with
  | ref i => exact h.elim
  | p y =>
    cases y with
    | int i => cases r; exact un_neg pins s σ H _ v Q I rx ⟨i, rfl, Post.here (b := V.int (-i)) (show Post X.K X.mg E (Dr X.K) Q θ H (.ok (.p (.int (-i))) M) from h) m (Fz.int _)⟩
    | _ => exact h.elim
theorem op_catX : OpR X (binaryOp .Add) (fun x y H Q => ∃ l b xs zs, x = .ref l ∧ y = .ref b ∧ SqX X.K H l xs ∧ SqX X.K H b zs ∧ xs.length + zs.length ≤ sizeLine ∧ ∀ p, H p = none → Q (.ref p) (upd H p (.lst (xs ++ zs)))) := by
  intro pins s σ H x y v u Q I rx ry h
  obtain ⟨l, b, xs, zs, rfl, rfl, hH, hB, hz, q⟩ := h
  cases rx
  cases ry
  obtain ⟨z, its, n, r, hl, e⟩ := hH.at I
  obtain ⟨z2, its2, n2, r2, hl2, e2⟩ := hB.at I
  refine PySem.P.add_list e e2 ?_ (by rw [List.size_toArray, List.size_toArray]; omega)
  have ea : its.toArray ++ its2.toArray = (its ++ its2).toArray := by simp
  rw [ea]
  exact ⟨.ref _, _, I.lnew (t' := s.toks) (r.append r2) (by rw [List.length_append]; omega), rfl, q _ I.fresh⟩
theorem op_repX : OpR X (binaryOp .Mult) (fun x y H Q => ∃ l k xs, x = .ref l ∧ y = .int k ∧ SqX X.K H l xs ∧ -(2 ^ 63) ≤ k ∧ k < 2 ^ 63 ∧ xs.length * k.toNat ≤ sizeLine ∧
  ∀ p, H p = none → Q (.ref p) (upd H p (.lst (List.replicate k.toNat xs).flatten))) := by
  intro pins s σ H x y v u Q I rx ry h
  obtain ⟨l, k, xs, rfl, rfl, hH, h1, h2, hz, q⟩ := h
  cases rx
  obtain ⟨t, rfl⟩ := ry
  obtain ⟨z, its, n, r, hl, e⟩ := hH.at I
  have hlen : its.toArray.size * k.toNat ≤ sizeLine := by rw [List.size_toArray, ← hl]; exact hz
  have hcap : ¬ its.toArray.size * k.toNat > (2 ^ 63 - 1) / 8 := by
    have : (sizeLine : Nat) ≤ (2 ^ 63 - 1) / 8 := by decide
    omega
  have hfit : ¬ (!Builtin.List.listFitsIndex k) = true := by
    rw [fitsIndex_both h1 h2]
    exact Bool.false_ne_true
  have hlong : ¬ Builtin.List.listTooLong (its.toArray.size * k.toNat) = true := by
    rw [notLongL hlen]
    exact Bool.false_ne_true
  have hnew : List.foldl (fun x1 x2 => x1 ++ x2) #[] (List.replicate (if its.toArray.isEmpty = true then 0 else k.toNat) its.toArray) = (List.replicate k.toNat its).flatten.toArray := by
    have f0 : ∀ m : Nat, List.foldl (fun x1 x2 => x1 ++ x2) #[] (List.replicate m its.toArray) = (List.replicate m its).flatten.toArray := fun m => by
      have := foldl_rep its m []
      rw [List.nil_append] at this
      exact this
    rw [f0]
    cases its with
    | nil => simp
    | cons a r' => rw [if_neg (by simp)]
  refine wpAny_binaryOp_repeat_ref (T := "list") (U := "int") (by decide) ⟨_, e, rfl⟩ (fun s' => typeIs_int s' k t) noFill_list_mul F.fills_int_mul F.slot_int_rmul repeat_list F.slot_int_index.lookup
    (call_meets F.slot_int_rmul (typeIs_int s k t) F.entry_int_rmul (F.args_int_rmul_2 _ _) (int___rmul___int_list k t l its.toArray n)
      ⟨e, rfl, ⟨_, e, rfl⟩, call_meets F.slot_list_mul ⟨_, e, rfl⟩ F.entry_list_mul (F.args_list_mul_2 _ _) (AutoListH.list___mul___list_int_3 l its.toArray n k t hfit hcap hlong) ⟨e, ?_⟩⟩)
  rw [hnew]
  exact ⟨.ref _, _, I.lnew (t' := s.toks) (r.rep k.toNat) (by rw [PyProof.Rows.lm_len_rep_flat, Nat.mul_comm]; exact hz), rfl, q _ I.fresh⟩
theorem frzl_ok {θ : List Addr} {H : Hp} {M : Store} {Q : VK} {vs : List V} {ds : List D} (h : Post X.K X.mg E (Dr X.K) Q θ H (frzl ds M)) (m : SR X.K θ H M) (r : Drs X.K θ H vs ds) :
    vs.length ≤ sizeLine ∧ ∀ p, H p = none → FrzQ Q (.ref p) (upd H p (.lst vs)) := by
  unfold frzl at h
  cases e : pures ds with
  | none => rw [e] at h; exact h.elim
  | some zs =>
    rw [e] at h
    simp only at h
    rw [pures_eq e] at r
    have r2 := FzAll.ofDrs r
    by_cases l : zs.length ≤ sizeLine
    · rw [if_pos l] at h
      exact ⟨by rw [r2.length]; exact l, fun p hp => ⟨p, vs, rfl, upd_same, fun o => new_frz h m r2 hp⟩⟩
    · rw [if_neg l] at h; exact h.elim
theorem zAddL_ok (pins : List (Addr × Obj)) (s : Shared) (σ : L2.St) (H : Hp) (x y : V) (v u : Value) (Q : VK) (I : Inv X pins σ H s) (rx : RelV x v) (ry : RelV y u) (h : rZ2 X E zAddL x y H Q) :
    wpAny (model X.prog X.w) X.A (binaryOp .Add v u) (EP X pins σ Q) X.xe s := by
  obtain ⟨a, b, θ, M, m, ra, rb, h⟩ := h
  unfold zAddL at h
  cases e1 : lstv M a with
  | none => rw [e1] at h; exact h.elim
  | some xs =>
    cases e2 : lstv M b with
    | none => rw [e1, e2] at h; exact h.elim
    | some ys =>
      rw [e1, e2] at h
      simp only at h
      obtain ⟨p, vs, rfl, hp, dp⟩ := lstv_ok m ra e1
      obtain ⟨q, ws, rfl, hq, dq⟩ := lstv_ok m rb e2
      obtain ⟨l, k⟩ := frzl_ok h m (paired_append dp dq)
      rw [List.length_append] at l
      exact thn (op_catX pins s σ H _ _ v u (FrzQ Q) I rx ry ⟨p, q, vs, ws, rfl, rfl, hp, hq, l, k⟩) fun u s1 z => ep_frz z
theorem zAdd_ok : OpR X (binaryOp .Add) (rZ2 X E zAdd) := by
  intro pins s σ H x y v u Q I rx ry h
  obtain ⟨a, b, θ, M, m, ra, rb, h⟩ := h
  have list : ∀ (h : Post X.K X.mg E (Dr X.K) Q θ H (zAddL a b M)), wpAny (model X.prog X.w) X.A (binaryOp .Add v u) (EP X pins σ Q) X.xe s := fun h => zAddL_ok pins s σ H x y v u Q I rx ry ⟨a, b, θ, M, m, ra, rb, h⟩
  unfold zAdd at h
  split at h
  · rename_i i j
    cases ra; cases rb
    exact op_add pins s σ H _ _ v u Q I rx ry ⟨i, j, rfl, rfl, Post.here h m (Fz.int _)⟩
  · rename_i xs ys
    cases ra with
    | tup h1 k1 =>
      cases rb with
      | tup h2 k2 =>
        split at h
        · rename_i l
          have r := FzAll.of (paired_append k1.paired k2.paired)
          refine op_catA pins s σ H _ _ v u Q I rx ry ⟨_, _, _, _, rfl, rfl, h1, h2, by rw [k1.length, k2.length]; exact l, fun e => ?_, fun e e' => ?_, fun e e' p hp => new_tup h m r hp⟩
          · subst e
            cases k1
            exact Post.here h m (Fz.tup h2 k2)
          · subst e'
            cases k2
            rw [List.append_nil] at h
            exact Post.here h m (Fz.tup h1 k1)
        · exact h.elim
  · exact list h
theorem zSub_ok : OpR X (binaryOp .Sub) (rZ2 X E zSub) := by
  intro pins s σ H x y v u Q I rx ry h
  obtain ⟨a, b, θ, M, m, ra, rb, h⟩ := h
  unfold zSub at h
  split at h
  · rename_i i j
    cases ra; cases rb
    exact op_sub pins s σ H _ _ v u Q I rx ry ⟨i, j, rfl, rfl, Post.here h m (Fz.int _)⟩
  · exact h.elim
theorem flat_rep {R : V → D → Prop} : ∀ (k : Nat) {vs : List V} {ds : List D}, Paired R vs ds → Paired R (List.replicate k vs).flatten (List.replicate k ds).flatten
  | 0, _, _, _ => .nil
  | k + 1, _, _, h => by
    rw [List.replicate_succ, List.replicate_succ, List.flatten_cons, List.flatten_cons]
    exact paired_append h (flat_rep k h)
theorem zMul_ok : OpR X (binaryOp .Mult) (rZ2 X E zMul) := by
  intro pins s σ H x y v u Q I rx ry h
  obtain ⟨a, b, θ, M, m, ra, rb, h⟩ := h
  unfold zMul at h
  split at h
  · rename_i i j
    split at h
    · rename_i c
      cases ra; cases rb
      exact op_mul pins s σ H _ _ v u Q I rx ry ⟨i, j, rfl, rfl, c, Post.here h m (Fz.int _)⟩
    · exact h.elim
  · rename_i k _
    cases rb
    cases e : lstv M a with
    | none => rw [e] at h; exact h.elim
    | some xs =>
      rw [e] at h
      simp only at h
      split at h
      · rename_i c
        obtain ⟨p, vs, rfl, hp, dp⟩ := lstv_ok m ra e
        obtain ⟨l, kk⟩ := frzl_ok h m (flat_rep k.toNat dp)
        exact thn (op_repX pins s σ H _ _ v u (FrzQ Q) I rx ry ⟨p, k, vs, rfl, rfl, hp, c.1, c.2.1, by rw [Paired.length dp]; exact c.2.2, kk⟩) fun u s1 z => ep_frz z
      · exact h.elim
  · exact h.elim
theorem zMod_ok : OpR X (binaryOp .Mod) (rZ2 X E zMod) := by
  intro pins s σ H x y v u Q I rx ry h
  obtain ⟨a, b, θ, M, m, ra, rb, h⟩ := h
  unfold zMod at h
  split at h
  · rename_i i j
    split at h
    · rename_i c
      cases ra; cases rb
      exact op_mod pins s σ H _ _ v u Q I rx ry ⟨i, j, rfl, rfl, c, Post.here h m (Fz.int _)⟩
    · exact h.elim
  · exact h.elim
theorem zDiv_ok : OpR X (binaryOp .FloorDiv) (rZ2 X E zDiv) := by
  intro pins s σ H x y v u Q I rx ry h
  obtain ⟨a, b, θ, M, m, ra, rb, h⟩ := h
  unfold zDiv at h
  split at h
  · rename_i i j
    split at h
    · rename_i c
      cases ra; cases rb
      exact op_fdiv pins s σ H _ _ v u Q I rx ry ⟨i, j, rfl, rfl, c, Post.here h m (Fz.int _)⟩
    · exact h.elim
  · exact h.elim
theorem zPow_ok : OpR X (binaryOp .Pow) (rZ2 X E zPow) := by
  intro pins s σ H x y v u Q I rx ry h
  obtain ⟨a, b, θ, M, m, ra, rb, h⟩ := h
  unfold zPow at h
  split at h
  · rename_i i j
    split at h
    · rename_i c
      cases ra; cases rb
      exact op_pow pins s σ H _ _ v u Q I rx ry ⟨i, j, rfl, rfl, c, Post.here h m (Fz.int _)⟩
    · exact h.elim
  · exact h.elim
end

/-! ### comparisons -/
def zcmpI (f : Int → Int → Bool) (a b : D) (M : Store) : Out D := match a, b with
  | .p (.int i), .p (.int j) => .ok (.p (.bool (f i j))) M
  | _, _ => .stuck
abbrev zLt := zcmpI fun i j => decide (i < j)
abbrev zLe := zcmpI fun i j => decide (i ≤ j)
abbrev zGt := zcmpI fun i j => decide (j < i)
abbrev zGe := zcmpI fun i j => decide (j ≤ i)
/-- == of data -/
def peq : P → P → Option Bool
  | .int i, .int j => some (decide (i = j))
  | .str x, .str y => some (decide (x = y))
  | .none, .none => some true
  | x, y => if SeqAt.shaped x = true ∧ SeqAt.shaped y = true then some (PyData.eqv x y) else none
def zEq (a b : D) (M : Store) : Out D := match snap 6 M a, snap 6 M b with
  | some x, some y => match peq x y with
    | some r => .ok (.p (.bool r)) M
    | none => .stuck
  | _, _ => .stuck
def zNe (a b : D) (M : Store) : Out D := match snap 6 M a, snap 6 M b with
  | some x, some y => match peq x y with
    | some r => .ok (.p (.bool (!r))) M
    | none => .stuck
  | _, _ => .stuck
theorem sh_int (i : Int) : SeqAt.shaped (.int i) = true := by simp [SeqAt.shaped, PyData.canLay0, PyData.depth]
theorem peq_cases {x y : P} {r : Bool} (h : peq x y = some r) : (SeqAt.shaped x = true ∧ SeqAt.shaped y = true ∧ r = PyData.eqv x y) ∨ (∃ i j, x = .int i ∧ y = .int j ∧ r = decide (i = j)) ∨ (∃ i j, x = .str i ∧ y = .str j ∧ r = decide (i = j)) ∨ (x = .none ∧ y = .none ∧ r = true) := by
  unfold peq at h
  split at h
  · cases h; exact .inr (.inl ⟨_, _, rfl, rfl, rfl⟩)
  · cases h; exact .inr (.inr (.inl ⟨_, _, rfl, rfl, rfl⟩))
  · cases h; exact .inr (.inr (.inr ⟨rfl, rfl, rfl⟩))
  · split at h
    · rename_i c
      cases h
      exact .inl ⟨c.1, c.2, rfl⟩
    · cases h
theorem sh_noDict {x : P} (h : SeqAt.shaped x = true) : x.hasDict = false := by
  have h' : (x.canLay0 && decide (x.depth ≤ 64)) = true := h
  rw [Bool.and_eq_true] at h'
  exact PyData.hasDict_of_canLay x h'.1
theorem peq_noDict {x y : P} {r : Bool} (h : peq x y = some r) : x.hasDict = false ∧ y.hasDict = false := by
  rcases peq_cases h with ⟨k1, k2, _⟩ | ⟨i, j, rfl, rfl, _⟩ | ⟨i, j, rfl, rfl, _⟩ | ⟨rfl, rfl, _⟩
  · exact ⟨sh_noDict k1, sh_noDict k2⟩
  · exact ⟨rfl, rfl⟩
  · exact ⟨rfl, rfl⟩
  · exact ⟨rfl, rfl⟩
/-- x in c -/
def zinL (neg : Bool) (a b : D) (M : Store) : Out D := match snap 6 M a, snap 6 M b with
  | some x, some (.list ys) => if SeqAt.shaped x = true ∧ SeqAt.shaped (.list ys) = true then .ok (.p (.bool (neg ^^ ys.any fun z => PyData.eqv z x))) M else .stuck
  | some x, some (.tuple ys) => if SeqAt.shaped x = true ∧ SeqAt.shaped (.tuple ys) = true then .ok (.p (.bool (neg ^^ ys.any fun z => PyData.eqv z x))) M else .stuck
  | _, _ => .stuck
def zin (neg : Bool) (a b : D) (M : Store) : Out D := match dictv M b with
  | some kvs => match a with
    | .p x => match kOf x with
      | some k => .ok (.p (.bool (neg ^^ (valD kvs k).isSome))) M
      | none => .stuck
    | _ => .stuck
  | none => zinL neg a b M
abbrev zIn := zin false
abbrev zNotIn := zin true
def zIs (neg : Bool) (a b : D) (M : Store) : Out D := match b with
  | .p .none => match a with
    | .p .none => .ok (.p (.bool (neg ^^ true))) M
    | _ => .ok (.p (.bool (neg ^^ false))) M
  | .p (.bool k) => match a with
    | .p (.bool j) => .ok (.p (.bool (neg ^^ decide (j = k)))) M
    | _ => .stuck
  | _ => .stuck
section
variable {X : Cx} {E : XK}
theorem cmpI_ok {op : CmpOp} {f : Int → Int → Bool} (h0 : OpR X (compareOp op) (rI0 fun i j => .bl (f i j))) : OpR X (compareOp op) (rZ2 X E (zcmpI f)) := by
  intro pins s σ H x y v u Q I rx ry h
  obtain ⟨a, b, θ, M, m, ra, rb, h⟩ := h
  unfold zcmpI at h
  split at h
  · rename_i i j
    cases ra; cases rb
    exact h0 pins s σ H _ _ v u Q I rx ry ⟨i, j, rfl, rfl, Post.here h m (Fz.bl _)⟩
  · exact h.elim
theorem zLt_ok : OpR X (compareOp .Lt) (rZ2 X E zLt) := cmpI_ok op_lt
theorem zLe_ok : OpR X (compareOp .LtE) (rZ2 X E zLe) := cmpI_ok op_le
theorem zGt_ok : OpR X (compareOp .Gt) (rZ2 X E zGt) := cmpI_ok op_gt
theorem zGe_ok : OpR X (compareOp .GtE) (rZ2 X E zGe) := cmpI_ok op_ge
theorem zEq_ok (zx : ZX X) : OpR X (compareOp .Eq) (rZ2 X E zEq) := by
  intro pins s σ H x y v u Q I rx ry h
  obtain ⟨a, b, θ, M, m, ra, rb, h⟩ := h
  unfold zEq at h
  split at h
  · rename_i d e h1 h2
    split at h
    · rename_i r h3
      have hd := peq_noDict h3
      have d1 := snap_dp m _ _ _ _ ra h1 hd.1
      have d2 := snap_dp m _ _ _ _ rb h2 hd.2
      have q : Q (.bl (r)) H := Post.here h m (Fz.bl _)
      rcases peq_cases h3 with ⟨k1, k2, rfl⟩ | ⟨i, j, rfl, rfl, rfl⟩ | ⟨i, j, rfl, rfl, rfl⟩ | ⟨rfl, rfl, rfl⟩
      · exact op_eqD (by have := zx.hu; omega) pins s σ H _ _ v u Q I rx ry ⟨d, e, d1, d2, k1, k2, q⟩
      · cases d1; cases d2
        exact op_eq pins s σ H _ _ v u Q I rx ry ⟨rfl, by simpa using q⟩
      · cases d1; cases d2
        exact op_eq pins s σ H _ _ v u Q I rx ry ⟨rfl, by simpa using q⟩
      · cases d1; cases d2
        exact op_eq pins s σ H _ _ v u Q I rx ry ⟨rfl, by simpa using q⟩
    · exact h.elim
  · exact h.elim
theorem zNe_ok (zx : ZX X) : OpR X (compareOp .NotEq) (rZ2 X E zNe) := by
  intro pins s σ H x y v u Q I rx ry h
  obtain ⟨a, b, θ, M, m, ra, rb, h⟩ := h
  unfold zNe at h
  split at h
  · rename_i d e h1 h2
    split at h
    · rename_i r h3
      have hd := peq_noDict h3
      have d1 := snap_dp m _ _ _ _ ra h1 hd.1
      have d2 := snap_dp m _ _ _ _ rb h2 hd.2
      have q : Q (.bl (!r)) H := Post.here h m (Fz.bl _)
      rcases peq_cases h3 with ⟨k1, k2, rfl⟩ | ⟨i, j, rfl, rfl, rfl⟩ | ⟨i, j, rfl, rfl, rfl⟩ | ⟨rfl, rfl, rfl⟩
      · exact op_neD (by have := zx.hu; omega) pins s σ H _ _ v u Q I rx ry ⟨d, e, d1, d2, k1, k2, q⟩
      · cases d1; cases d2
        exact op_ne pins s σ H _ _ v u Q I rx ry ⟨rfl, by simpa using q⟩
      · cases d1; cases d2
        exact op_ne pins s σ H _ _ v u Q I rx ry ⟨rfl, by simpa using q⟩
      · cases d1; cases d2
        exact op_ne pins s σ H _ _ v u Q I rx ry ⟨rfl, by simpa using q⟩
    · exact h.elim
  · exact h.elim
theorem zIn_ok (zx : ZX X) : OpR X (compareOp .In) (rZ2 X E zIn) := by
  intro pins s σ H x y v u Q I rx ry h
  obtain ⟨a, b, θ, M, m, ra, rb, h⟩ := h
  have hu := zx.hu
  unfold zIn zin at h
  split at h
  · rename_i kvs e1
    obtain ⟨p, us, rfl, hp, dp⟩ := dictv_ok m rb e1
    cases ry
    split at h
    · split at h
      · rename_i k ek
        have ev := kv_is ra ek
        subst ev
        have g : DGet H p (kV k) (valV us k) := .inl ⟨us, k, hp, rfl, rfl⟩
        have es : (valV us k).isSome = (valD kvs k).isSome := by
          rcases kd_val k dp with ⟨h1, h2⟩ | ⟨_, _, h1, h2, _⟩ <;> rw [h1, h2] <;> rfl
        refine d_in (by omega) I g rx fun s' I' => ⟨.bl (valV us k).isSome, H, I', rfl, ?_⟩
        rw [es]
        rw [Bool.false_xor] at h
        exact Post.here h m (Fz.bl _)
      · exact h.elim
    · exact h.elim
  unfold zinL at h
  split at h
  · rename_i d ds h1 h2
    split at h
    · rename_i c
      rw [Bool.false_xor] at h
      exact op_inD (by omega) pins s σ H _ _ v u Q I rx ry ⟨d, ds, snap_dp m _ _ _ _ ra h1 (sh_noDict c.1), snap_dp m _ _ _ _ rb h2 (sh_noDict c.2), c.1, c.2, Post.here h m (Fz.bl _)⟩
    · exact h.elim
  · rename_i d ds h1 h2
    split at h
    · rename_i c
      rw [Bool.false_xor] at h
      obtain ⟨as, r1⟩ := Dp.reads I d x v (snap_dp m _ _ _ _ ra h1 (sh_noDict c.1)) rx
      obtain ⟨bs, r2⟩ := Dp.reads I (.tuple ds) y u (snap_dp m _ _ _ _ rb h2 (sh_noDict c.2)) ry
      exact SeqAt.in_tuple_reads r2 r1 (SeqAt.canLay_of_shaped c.2) (SeqAt.canLay_of_shaped c.1) (room_in_shaped c.1 (by omega)) ⟨.bl _, H, I, rfl, Post.here h m (Fz.bl _)⟩
    · exact h.elim
  · exact h.elim
theorem zNotIn_ok (zx : ZX X) : OpR X (compareOp .NotIn) (rZ2 X E zNotIn) := by
  intro pins s σ H x y v u Q I rx ry h
  obtain ⟨a, b, θ, M, m, ra, rb, h⟩ := h
  have hu := zx.hu
  unfold zNotIn zin at h
  split at h
  · rename_i kvs e1
    obtain ⟨p, us, rfl, hp, dp⟩ := dictv_ok m rb e1
    cases ry
    split at h
    · split at h
      · rename_i k ek
        have ev := kv_is ra ek
        subst ev
        have g : DGet H p (kV k) (valV us k) := .inl ⟨us, k, hp, rfl, rfl⟩
        have es : (valV us k).isSome = (valD kvs k).isSome := by
          rcases kd_val k dp with ⟨h1, h2⟩ | ⟨_, _, h1, h2, _⟩ <;> rw [h1, h2] <;> rfl
        refine d_notIn (by omega) I g rx fun s' I' => ⟨.bl (!(valV us k).isSome), H, I', rfl, ?_⟩
        rw [es]
        rw [Bool.true_xor] at h
        exact Post.here h m (Fz.bl _)
      · exact h.elim
    · exact h.elim
  unfold zinL at h
  split at h
  · rename_i d ds h1 h2
    split at h
    · rename_i c
      rw [Bool.true_xor] at h
      exact op_notInD (by omega) pins s σ H _ _ v u Q I rx ry ⟨d, ds, snap_dp m _ _ _ _ ra h1 (sh_noDict c.1), snap_dp m _ _ _ _ rb h2 (sh_noDict c.2), c.1, c.2, Post.here h m (Fz.bl _)⟩
    · exact h.elim
  · rename_i d ds h1 h2
    split at h
    · rename_i c
      rw [Bool.true_xor] at h
      obtain ⟨as, r1⟩ := Dp.reads I d x v (snap_dp m _ _ _ _ ra h1 (sh_noDict c.1)) rx
      obtain ⟨bs, r2⟩ := Dp.reads I (.tuple ds) y u (snap_dp m _ _ _ _ rb h2 (sh_noDict c.2)) ry
      exact SeqAt.notIn_tuple_reads r2 r1 (SeqAt.canLay_of_shaped c.2) (SeqAt.canLay_of_shaped c.1) (room_in_shaped c.1 (by omega)) ⟨.bl _, H, I, rfl, Post.here h m (Fz.bl _)⟩
    · exact h.elim
  · exact h.elim
theorem fz_none {K : PySem.W.Frag} {H : Hp} {v : V} {d : P} (r : Fz K H v d) : decide (v = .non) = (match d with | .none => true | _ => false) := by
  cases r <;> simp
theorem is_cases {neg : Bool} {a b : D} {M : Store} {θ : List Addr} {H : Hp} {x y : V} {Q : VK} (m : SR X.K θ H M) (ra : Dr X.K θ H x a) (rb : Dr X.K θ H y b) (h : Post X.K X.mg E (Dr X.K) Q θ H (zIs neg a b M)) :
    (y = .non ∧ Q (.bl (neg ^^ decide (x = .non))) H) ∨ (∃ j k, x = .bl j ∧ y = .bl k ∧ Q (.bl (neg ^^ decide (j = k))) H) := by
  unfold zIs at h
  split at h
  · cases rb
    refine .inl ⟨rfl, ?_⟩
    cases a with
    | ref i =>
      obtain ⟨p, _, rfl⟩ := ra
      exact Post.here (show Post X.K X.mg E (Dr X.K) Q θ H (.ok (.p (.bool (neg ^^ decide (V.ref p = .non)))) M) from h) m (Fz.bl _)
    | p d =>
      rw [fz_none ra]
      cases d with
      | none => exact Post.here (show Post X.K X.mg E (Dr X.K) Q θ H (.ok (.p (.bool (neg ^^ true))) M) from h) m (Fz.bl _)
      | _ => exact Post.here (show Post X.K X.mg E (Dr X.K) Q θ H (.ok (.p (.bool (neg ^^ false))) M) from h) m (Fz.bl _)
  · split at h
    · cases ra; cases rb
      exact .inr ⟨_, _, rfl, rfl, Post.here h m (Fz.bl _)⟩
    · exact h.elim
  · exact h.elim
theorem zIs_ok : OpR X (compareOp .Is) (rZ2 X E (zIs false)) := by
  intro pins s σ H x y v u Q I rx ry h
  obtain ⟨a, b, θ, M, m, ra, rb, h⟩ := h
  rcases is_cases m ra rb h with ⟨e, q⟩ | ⟨j, k, e1, e2, q⟩
  · rw [Bool.false_xor] at q
    exact op_isN pins s σ H _ _ v u Q I rx ry ⟨e, q⟩
  · rw [Bool.false_xor] at q
    exact op_is_bl pins s σ H _ _ v u Q I rx ry ⟨j, k, e1, e2, q⟩
theorem zIsNot_ok : OpR X (compareOp .IsNot) (rZ2 X E (zIs true)) := by
  intro pins s σ H x y v u Q I rx ry h
  obtain ⟨a, b, θ, M, m, ra, rb, h⟩ := h
  rcases is_cases m ra rb h with ⟨e, q⟩ | ⟨j, k, e1, e2, q⟩
  · rw [Bool.true_xor] at q
    exact op_notN pins s σ H _ _ v u Q I rx ry ⟨e, q⟩
  · rw [Bool.true_xor] at q
    exact op_isnot_bl pins s σ H _ _ v u Q I rx ry ⟨j, k, e1, e2, q⟩
end

/-! ### subscripts -/
def zIxL (a b : D) (M : Store) : Out D := match b with
  | .p (.int i) => match a with
    | .p (.tuple xs) => match atI xs i with
      | some x => .ok (.p x) M
      | none => .stuck
    | a => match lstv M a with
      | some ds => match atI ds i with
        | some d => .ok d M
        | none => .stuck
      | none => .stuck
  | _ => .stuck
def zIx (a b : D) (M : Store) : Out D := match dictv M a with
  | some kvs => match b with
    | .p x => match kOf x with
      | some k => match valD kvs k with
        | some d => .ok d M
        | none => .stuck
      | none => .stuck
    | _ => .stuck
  | none => zIxL a b M
theorem atI_paired {α β : Type} {R : α → β → Prop} {l : List α} {m : List β} (h : Paired R l m) {i : Int} {b : β} (e : atI m i = some b) : ∃ a, atI l i = some a ∧ R a b := by
  unfold atI at e ⊢
  rw [Paired.length h]
  cases q : ixN m.length i with
  | none => rw [q] at e; cases e
  | some j =>
    rw [q] at e
    obtain ⟨a, h1, h2⟩ := paired_at h (i := j) (b := b) e
    exact ⟨a, h1, h2⟩
section
variable {X : Cx} {E : XK} {a b : Expr} {ca cb : ZC} {pos : Pos}
theorem zIx_ok (zx : ZX X) : IxR X (rZ2 X E zIx) := by
  intro value slice pins s σ H x y v u Q I rx ry h hs
  obtain ⟨d, e, θ, M, m, ra, rb, h⟩ := h
  have hu := zx.hu
  unfold zIx at h
  split at h
  · rename_i kvs e1
    obtain ⟨p, us, rfl, hp, dp⟩ := dictv_ok m ra e1
    cases rx
    split at h
    · split at h
      · rename_i k ek
        have ev := kv_is rb ek
        subst ev
        split at h
        · rename_i dd ed
          rcases kd_val k dp with ⟨h1, h2⟩ | ⟨v1, d1, h1, h2, r1⟩
          · rw [h2] at ed; cases ed
          · rw [h2] at ed
            cases ed
            have g : DGet H p (kV k) (some v1) := .inl ⟨us, k, hp, rfl, h1.symm⟩
            exact tail_any (dict_typeIs I g) PySem.F.slot_dict_getitem.lookup (d_getItem (by omega) I g ry fun w' s' I' r' => ⟨v1, H, I', r', Post.here h m r1⟩) hs
        · exact h.elim
      · exact h.elim
    · exact h.elim
  unfold zIxL at h
  split at h
  · rename_i i
    cases rb
    split at h
    · rename_i xs
      split at h
      · rename_i z ez
        cases ra with
        | tup h1 k1 =>
          obtain ⟨w, ew, rw'⟩ := atI_paired k1.paired ez
          exact ix_tup value slice pins s σ H _ _ v u Q I rx ry ⟨_, _, i, w, rfl, rfl, h1, ew, Post.here (show Post X.K X.mg E (Dr X.K) Q θ H (.ok (.p z) M) from h) m rw'⟩ hs
      · exact h.elim
    · split at h
      · rename_i ds e1
        split at h
        · rename_i z ez
          obtain ⟨p, vs, rfl, hp, dp⟩ := lstv_ok m ra e1
          obtain ⟨w, ew, rw'⟩ := atI_paired dp ez
          exact ix_list value slice pins s σ H _ _ v u Q I rx ry ⟨_, _, i, w, rfl, rfl, hp.sq, ew, Post.here h m rw'⟩ hs
        · exact h.elim
      · exact h.elim
  · exact h.elim
theorem ZE.ix (zx : ZX X) (ha : ZE X E a ca) (hb : ZE X E b cb) (hs : PlainIx b := by exact fun _ _ => rfl) : ZE X E (.Subscript a b pos) (z2 zIx ca cb) := by
  obtain ⟨ta, pa, qa⟩ := ha
  obtain ⟨tb, pb, qb⟩ := hb
  exact ⟨_, pe_ix (zIx_ok zx) pa pb hs, fun σ H θ sl M Q hs hm h => two qa qb hs hm h⟩
/-! ### slices -/
def cutG {α : Type} (xs : List α) (lo hi : Option Int) : List α := (xs.drop (HT.sIx xs.length 0 lo)).take (HT.sIx xs.length xs.length hi - HT.sIx xs.length 0 lo)
def zSl (d : D) (lo hi : Option Int) (M : Store) : Out D := match d with
  | .p (.tuple xs) => .ok (.p (.tuple (cutG xs lo hi))) M
  | d => match lstv M d with
    | some ds => frzl (cutG ds lo hi) M
    | none => .stuck
abbrev ZO := Sl → Store → Out (Option Int)
def EqO : List Addr → Hp → Option Int → Option Int → Prop := fun _ _ b a => b = a
def ZP (X : Cx) (E : XK) (e : Option Expr) (c : ZO) : Prop := ∃ t, PO X e t ∧ ∀ σ H θ sl M Q, SV X.K θ H σ sl → SR X.K θ H M → Post X.K X.mg E EqO Q θ H (c sl M) → t σ H Q
def zno : ZO := fun _ M => .ok none M
def zpart (a : ZC) : ZO := fun sl M => (a sl M).bind fun d M1 => match d with
  | .p (.int i) => .ok (some i) M1
  | _ => .stuck
theorem ZP.none : ZP X E Option.none zno := ⟨_, po_none, fun σ H θ sl M Q hs hm h => Post.here (show Post X.K X.mg E EqO Q θ H (.ok Option.none M) from h) hm rfl⟩
theorem ZP.some (ha : ZE X E a ca) : ZP X E (Option.some a) (zpart ca) := by
  obtain ⟨ta, pa, qa⟩ := ha
  refine ⟨_, po_some pa, fun σ H θ sl M Q hs hm h => qa σ H θ sl M _ hs hm (Post.bind h fun x M1 v H1 θ1 g1 m1 r1 h1 => ?_)⟩
  cases x with
  | ref i => exact h1.elim
  | p y =>
    cases y with
    | int i => cases r1; exact ⟨i, rfl, Post.here (show Post X.K X.mg E EqO Q θ1 H1 (.ok (Option.some i) M1) from h1) m1 rfl⟩
    | _ => exact h1.elim
def zslice (a : ZC) (l h : ZO) : ZC := fun sl M => (a sl M).bind fun d M1 => (l sl M1).bind fun lo M2 => (h sl M2).bind fun hi M3 => zSl d lo hi M3
theorem paired_cut {α β : Type} {R : α → β → Prop} {l : List α} {m : List β} (h : Paired R l m) (lo hi : Option Int) : Paired R (cutG l lo hi) (cutG m lo hi) := by
  unfold cutG
  rw [Paired.length h]
  exact paired_take _ (paired_drop _ h)
def rZsl (X : Cx) (E : XK) : V → Option Int → Option Int → Hp → VK → Prop := fun x lo hi H Q => ∃ d θ M, SR X.K θ H M ∧ Dr X.K θ H x d ∧ Post X.K X.mg E (Dr X.K) Q θ H (zSl d lo hi M)
theorem zSl_ok : SlR X (rZsl X E) := by
  intro pins s σ H x v vl vu lo hi sl Q I rx hs pl pu h
  obtain ⟨d, θ, M, m, ra, h⟩ := h
  unfold zSl at h
  split at h
  · rename_i xs
    cases ra with
    | tup h1 k1 =>
      have k2 := FzAll.of (paired_cut k1.paired lo hi)
      refine sl_tupA pins s σ H _ v vl vu lo hi sl Q I rx hs pl pu ⟨_, _, rfl, h1, fun w => ?_, fun w p hp => new_tup h m k2 hp⟩
      have e : cutG xs lo hi = xs := by
        unfold cutG
        rw [← k1.length, w.1, w.2, List.drop_zero, k1.length, Nat.sub_zero, List.take_length]
      rw [e] at h
      exact Post.here h m (Fz.tup h1 k1)
  · split at h
    · rename_i ds e1
      obtain ⟨p, vs, rfl, hp, dp⟩ := lstv_ok m ra e1
      obtain ⟨l, k⟩ := frzl_ok h m (paired_cut dp lo hi)
      obtain ⟨T, id, q1, q2, q3⟩ := sl_list pins s σ H _ v vl vu lo hi sl (FrzQ Q) I rx hs pl pu ⟨p, vs, rfl, hp.sq, k⟩
      exact ⟨T, id, q1, q2, thn q3 fun u s1 z => ep_frz z⟩
    · exact h.elim
theorem ZE.sl {lo hi : Option Expr} {cl ch : ZO} {p2 : Pos} (ha : ZE X E a ca) (hl : ZP X E lo cl) (hh : ZP X E hi ch) : ZE X E (.Subscript a (.Slice lo hi Option.none p2) pos) (zslice ca cl ch) := by
  obtain ⟨ta, pa, qa⟩ := ha
  obtain ⟨tl, pl, ql⟩ := hl
  obtain ⟨th, ph, qh⟩ := hh
  refine ⟨_, pe_slice (zSl_ok (E := E)) pa pl ph, fun σ H θ sl M Q hs hm h => qa σ H θ sl M _ hs hm (Post.bind h fun x M1 v H1 θ1 g1 m1 r1 h1 => ?_)⟩
  refine ql σ H1 θ1 sl M1 _ (hs.go g1) m1 (Post.bind h1 fun l M2 l' H2 θ2 g2 m2 r2 h2 => ?_)
  cases r2
  refine qh σ H2 θ2 sl M2 _ ((hs.go g1).go g2) m2 (Post.bind h2 fun l M3 l' H3 θ3 g3 m3 r3 h3 => ?_)
  cases r3
  exact ⟨x, θ3, M3, m3, (r1.go g2).go g3, h3⟩
end
end Z

/-! Z: built-ins called by name; methods of lists. -/
namespace Z
open PySem PySem.Spec PyProof.Rows L2
section
variable {X : Cx} {E : XK} {e a b c o : Expr} {es : List Expr} {pos p apos cpos : Pos} {ca cb cc co : ZC} {cs : ZCs}
/-! ### the forms of calls -/
theorem ZE.callB {x : Str} {id : String} {g : List D → Store → Out D} (hc : CallR X (.builtin id) (rZs X E g)) (hg : Gl X x) (hm : X.mg x = none) (hv : bootBuiltins x = some (.builtin id)) (ha : ZA X E (e :: es) cs)
    (hn : x ≠ "__name__" := by decide) (hdb : (x == ("__debug__" : Str)) = false := by decide)
    (he : starEach (e :: es) X.env = (false, eval e X.env) :: starEach es X.env := by rfl) (hpl : (backTo pos (starEach es X.env)).any (·.1) = false := by rfl) : ZE X E (.Call (.Name x p) (e :: es) [] pos) (zs g cs) := by
  obtain ⟨t, pa, q⟩ := ha
  exact ⟨_, pe_callB hc hg hm hv pa hn hdb he hpl, fun σ H θ sl M Q hs hm h => q σ H θ sl M _ hs hm (Post.bind h fun ds M1 vs H1 θ1 g1 m1 r1 h1 => ⟨ds, θ1, M1, m1, r1, h1⟩)⟩
theorem ZE.callTy {x : Str} {id : String} {g : List D → Store → Out D} (hc : CallR X (.type id) (rZs X E g)) (hg : Gl X x) (hm : X.mg x = none) (hv : bootBuiltins x = some (.type id)) (ha : ZA X E (e :: es) cs)
    (hn : x ≠ "__name__" := by decide) (hdb : (x == ("__debug__" : Str)) = false := by decide)
    (he : starEach (e :: es) X.env = (false, eval e X.env) :: starEach es X.env := by rfl) (hpl : (backTo pos (starEach es X.env)).any (·.1) = false := by rfl) : ZE X E (.Call (.Name x p) (e :: es) [] pos) (zs g cs) := by
  obtain ⟨t, pa, q⟩ := ha
  exact ⟨_, pe_callTy hc hg hm hv pa hn hdb he hpl, fun σ H θ sl M Q hs hm h => q σ H θ sl M _ hs hm (Post.bind h fun ds M1 vs H1 θ1 g1 m1 r1 h1 => ⟨ds, θ1, M1, m1, r1, h1⟩)⟩
/-- *e in a list of arguments, a display -/
def zstar (a : ZC) (r : ZCs) : ZCs := fun sl M => (a sl M).bind fun x M1 => match x with
  | .p (.tuple xs) => (r sl M1).bind fun ys M2 => .ok (xs.map .p ++ ys) M2
  | x => match lstv M1 x with
    | some xs => (r sl M1).bind fun ys M2 => .ok (xs ++ ys) M2
    | none => .stuck
theorem ZA.star (ha : ZE X E a ca) (hr : ZA X E es cs) (hs : starEach (.Starred a p :: es) X.env = (true, eval a X.env) :: starEach es X.env := by rfl) : ZA X E (.Starred a p :: es) (zstar ca cs) := by
  obtain ⟨t, pa, q⟩ := ha
  obtain ⟨u, pr, qr⟩ := hr
  refine ⟨_, StX.pa_star pa pr hs, fun σ H θ sl M Q hs hm h => q σ H θ sl M _ hs hm (Post.bind h fun x M1 v H1 θ1 g1 m1 r1 h1 => ?_)⟩
  have fin : ∀ {ws : List V} {xs : List D}, Drs X.K θ1 H1 ws xs → Post X.K X.mg E (Drs X.K) Q θ1 H1 ((cs sl M1).bind fun ys M2 => .ok (xs ++ ys) M2) → u σ H1 fun ys H2 => Q (ws ++ ys) H2 := fun {ws xs} r h =>
    qr σ H1 θ1 sl M1 _ (hs.go g1) m1 (Post.bind h fun ys M2 vs H2 θ2 g2 m2 r2 h2 => Post.here (b := ws ++ vs) (show Post X.K X.mg E (Drs X.K) Q θ2 H2 (.ok (xs ++ ys) M2) from h2) m2 (paired_append (Drs.go g2 r) r2))
  split at h1
  · rename_i xs
    cases r1 with
    | tup k1 k2 => exact ⟨_, _, rfl, .inl k1, fin k2.drs h1⟩
  · split at h1
    · rename_i xs e1
      obtain ⟨ad, vs, rfl, hp, dp⟩ := lstv_ok m1 r1 e1
      exact ⟨_, _, rfl, .inr hp.sq, fin dp h1⟩
    · exact h1.elim
end

/-! ### len, int, abs, min, max, sum -/
def zLen (ds : List D) (M : Store) : Out D := match ds with
  | [d] => match d with
    | .p (.tuple xs) => .ok (.p (.int xs.length)) M
    | .p (.str x) => if x.length ≤ sizeLine then .ok (.p (.int x.length)) M else .stuck
    | d => match lstv M d with
      | some xs => .ok (.p (.int xs.length)) M
      | none => .stuck
  | _ => .stuck
def zInt (ds : List D) (M : Store) : Out D := match ds with
  | [.p (.int i)] => .ok (.p (.int i)) M
  | [.p (.bool b)] => .ok (.p (.int (if b then 1 else 0))) M
  | _ => .stuck
def zAbs (ds : List D) (M : Store) : Out D := match ds with
  | [.p (.int i)] => .ok (.p (.int (if i < 0 then -i else i))) M
  | _ => .stuck
def intsOf : List D → Option (List Int)
  | [] => some []
  | .p (.int i) :: r => (intsOf r).map (i :: ·)
  | _ :: _ => none
def boolsOf : List D → Option (List Bool)
  | [] => some []
  | .p (.bool i) :: r => (boolsOf r).map (i :: ·)
  | _ :: _ => none
theorem intsOf_eq : ∀ {ds : List D} {ns : List Int}, intsOf ds = some ns → ds = ns.map fun i => .p (.int i)
  | [], ns, h => by cases h; rfl
  | .p (.int i) :: r, ns, h => by
    unfold intsOf at h
    cases q : intsOf r with
    | none => rw [q] at h; cases h
    | some ms => rw [q] at h; cases h; rw [intsOf_eq q]; rfl
  | .ref _ :: _, _, h => by cases h
  | .p .none :: _, _, h => by cases h
  | .p (.bool _) :: _, _, h => by cases h
  | .p (.str _) :: _, _, h => by cases h
  | .p (.list _) :: _, _, h => by cases h
  | .p (.tuple _) :: _, _, h => by cases h
  | .p (.dict _) :: _, _, h => by cases h
theorem boolsOf_eq : ∀ {ds : List D} {ns : List Bool}, boolsOf ds = some ns → ds = ns.map fun i => .p (.bool i)
  | [], ns, h => by cases h; rfl
  | .p (.bool i) :: r, ns, h => by
    unfold boolsOf at h
    cases q : boolsOf r with
    | none => rw [q] at h; cases h
    | some ms => rw [q] at h; cases h; rw [boolsOf_eq q]; rfl
  | .ref _ :: _, _, h => by cases h
  | .p .none :: _, _, h => by cases h
  | .p (.int _) :: _, _, h => by cases h
  | .p (.str _) :: _, _, h => by cases h
  | .p (.list _) :: _, _, h => by cases h
  | .p (.tuple _) :: _, _, h => by cases h
  | .p (.dict _) :: _, _, h => by cases h
@[simp] theorem intsOf_map : ∀ ns : List Int, intsOf (ns.map fun i => .p (.int i)) = some ns
  | [] => rfl
  | n :: ns => by rw [List.map_cons, intsOf, intsOf_map ns]; rfl
@[simp] theorem boolsOf_map : ∀ ns : List Bool, boolsOf (ns.map fun i => .p (.bool i)) = some ns
  | [] => rfl
  | n :: ns => by rw [List.map_cons, boolsOf, boolsOf_map ns]; rfl
def zMax (ds : List D) (M : Store) : Out D := match ds with
  | [.p (.int i), .p (.int j)] => .ok (.p (.int (max i j))) M
  | [.p (.tuple xs)] => match intsOf (xs.map .p) with
    | some (n :: ns) => .ok (.p (.int (ns.foldl max n))) M
    | _ => .stuck
  | [l] => match lstv M l with
    | some xs => match intsOf xs with
      | some (n :: ns) => .ok (.p (.int (ns.foldl max n))) M
      | _ => .stuck
    | none => .stuck
  | _ => .stuck
def zMin (ds : List D) (M : Store) : Out D := match ds with
  | [.p (.int i), .p (.int j)] => .ok (.p (.int (min i j))) M
  | [l] => match lstv M l with
    | some xs => match intsOf xs with
      | some (n :: ns) => .ok (.p (.int (ns.foldl min n))) M
      | _ => .stuck
    | none => .stuck
  | _ => .stuck
def zSum (ds : List D) (M : Store) : Out D := match ds with
  | [l] => match lstv M l with
    | some xs => match intsOf xs with
      | some ns => .ok (.p (.int ns.sum)) M
      | none => .stuck
    | none => .stuck
  | _ => .stuck
def zAny (ds : List D) (M : Store) : Out D := match ds with
  | [l] => match lstv M l with
    | some xs => match boolsOf xs with
      | some ns => .ok (.p (.bool (ns.any id))) M
      | none => .stuck
    | none => .stuck
  | _ => .stuck
def zAll (ds : List D) (M : Store) : Out D := match ds with
  | [l] => match lstv M l with
    | some xs => match boolsOf xs with
      | some ns => .ok (.p (.bool (ns.all id))) M
      | none => .stuck
    | none => .stuck
  | _ => .stuck
theorem foldl_max_ge : ∀ (ns : List Int) (n : Int), n ≤ ns.foldl max n ∧ ∀ y ∈ ns, y ≤ ns.foldl max n
  | [], n => ⟨Int.le_refl _, fun _ h => nomatch h⟩
  | m :: ns, n => by
    obtain ⟨h1, h2⟩ := foldl_max_ge ns (max n m)
    rw [List.foldl_cons]
    refine ⟨by omega, fun y hy => ?_⟩
    rcases List.mem_cons.mp hy with rfl | hy
    · omega
    · exact h2 y hy
theorem foldl_max_mem : ∀ (ns : List Int) (n : Int), ns.foldl max n = n ∨ ns.foldl max n ∈ ns
  | [], n => .inl rfl
  | m :: ns, n => by
    rw [List.foldl_cons]
    rcases foldl_max_mem ns (max n m) with h | h
    · rw [h]
      rcases (by omega : max n m = n ∨ max n m = m) with e | e
      · exact .inl e
      · rw [e]; exact .inr List.mem_cons_self
    · exact .inr (List.mem_cons_of_mem _ h)
theorem foldl_min_le : ∀ (ns : List Int) (n : Int), ns.foldl min n ≤ n ∧ ∀ y ∈ ns, ns.foldl min n ≤ y
  | [], n => ⟨Int.le_refl _, fun _ h => nomatch h⟩
  | m :: ns, n => by
    obtain ⟨h1, h2⟩ := foldl_min_le ns (min n m)
    rw [List.foldl_cons]
    refine ⟨by omega, fun y hy => ?_⟩
    rcases List.mem_cons.mp hy with rfl | hy
    · omega
    · exact h2 y hy
theorem foldl_min_mem : ∀ (ns : List Int) (n : Int), ns.foldl min n = n ∨ ns.foldl min n ∈ ns
  | [], n => .inl rfl
  | m :: ns, n => by
    rw [List.foldl_cons]
    rcases foldl_min_mem ns (min n m) with h | h
    · rw [h]
      rcases (by omega : min n m = n ∨ min n m = m) with e | e
      · exact .inl e
      · rw [e]; exact .inr List.mem_cons_self
    · exact .inr (List.mem_cons_of_mem _ h)
theorem max_only {ns : List Int} {n m : Int} (h1 : m ∈ n :: ns) (h2 : ∀ y, y ∈ n :: ns → y ≤ m) : m = ns.foldl max n := by
  obtain ⟨a, b⟩ := foldl_max_ge ns n
  have c : ns.foldl max n ∈ n :: ns := by
    rcases foldl_max_mem ns n with h | h
    · rw [h]; exact List.mem_cons_self
    · exact List.mem_cons_of_mem _ h
  have d := h2 _ c
  rcases List.mem_cons.mp h1 with rfl | h
  · omega
  · have := b m h; omega
theorem min_only {ns : List Int} {n m : Int} (h1 : m ∈ n :: ns) (h2 : ∀ y, y ∈ n :: ns → m ≤ y) : m = ns.foldl min n := by
  obtain ⟨a, b⟩ := foldl_min_le ns n
  have c : ns.foldl min n ∈ n :: ns := by
    rcases foldl_min_mem ns n with h | h
    · rw [h]; exact List.mem_cons_self
    · exact List.mem_cons_of_mem _ h
  have d := h2 _ c
  rcases List.mem_cons.mp h1 with rfl | h
  · omega
  · have := b m h; omega
theorem drs_ints {K : PySem.W.Frag} {θ : List Addr} {H : Hp} : ∀ {ns : List Int} {vs : List V}, Drs K θ H vs (ns.map fun i => .p (.int i)) → vs = ns.map V.int
  | [], _, h => by cases h; rfl
  | n :: ns, _, h => by
    cases h with
    | cons a b => cases a; rw [drs_ints b]; rfl
theorem drs_bools {K : PySem.W.Frag} {θ : List Addr} {H : Hp} : ∀ {ns : List Bool} {vs : List V}, Drs K θ H vs (ns.map fun i => .p (.bool i)) → vs = ns.map V.bl
  | [], _, h => by cases h; rfl
  | n :: ns, _, h => by
    cases h with
    | cons a b => cases a; rw [drs_bools b]; rfl
section
variable {X : Cx} {E : XK}
theorem zLen_ok : CallR X (.builtin "len") (rZs X E zLen) := by
  intro pins s σ H xs us Q I r h
  obtain ⟨ds, θ, M, m, rs, h⟩ := h
  unfold zLen at h
  split at h
  · rename_i d
    cases rs with
    | cons r1 rr =>
      cases rr
      split at h
      · rename_i xs
        cases r1 with
        | tup k1 k2 => exact call_len_seq pins s σ H _ us Q I r ⟨_, _, rfl, .inr k1, by rw [k2.length]; exact Post.here h m (Fz.int _)⟩
      · rename_i x
        split at h
        · rename_i l
          cases r1
          exact call_len_str pins s σ H _ us Q I r ⟨_, rfl, l, Post.here h m (Fz.int _)⟩
        · exact h.elim
      · split at h
        · rename_i xs e1
          obtain ⟨ad, vs, rfl, hp, dp⟩ := lstv_ok m r1 e1
          exact call_len_seq pins s σ H _ us Q I r ⟨_, _, rfl, .inl hp.sq, by rw [Paired.length dp]; exact Post.here h m (Fz.int _)⟩
        · exact h.elim
  · exact h.elim
theorem zInt_ok : CallR X (.type "int") (rZs X E zInt) := by
  intro pins s σ H xs us Q I r h
  obtain ⟨ds, θ, M, m, rs, h⟩ := h
  unfold zInt at h
  split at h
  · cases rs with
    | cons r1 rr => cases rr; cases r1; exact call_int1 pins s σ H _ us Q I r (.inl ⟨_, rfl, Post.here h m (Fz.int _)⟩)
  · cases rs with
    | cons r1 rr => cases rr; cases r1; exact call_int1 pins s σ H _ us Q I r (.inr ⟨_, rfl, Post.here h m (Fz.int _)⟩)
  · exact h.elim
theorem zAbs_ok : CallR X (.builtin "abs") (rZs X E zAbs) := by
  intro pins s σ H xs us Q I r h
  obtain ⟨ds, θ, M, m, rs, h⟩ := h
  unfold zAbs at h
  split at h
  · cases rs with
    | cons r1 rr => cases rr; cases r1; exact call_abs pins s σ H _ us Q I r ⟨_, rfl, Post.here h m (Fz.int _)⟩
  · exact h.elim
theorem maxOf_int (n : Int) (ns : List Int) : PySem.W.maxOf n ns = ns.foldl max n := by
  unfold PySem.W.maxOf
  induction ns generalizing n with
  | nil => rfl
  | cons m ns ih =>
    rw [List.foldl_cons, List.foldl_cons, ← ih]
    congr 1
    show (if decide (n < m) = true then m else n) = max n m
    by_cases h : n < m
    · rw [if_pos (by simpa using h)]; omega
    · rw [if_neg (by simpa using h)]; omega
theorem holdAll_ints {h : Heap} : ∀ {us : List Value} {ns : List Int}, Vals (ns.map V.int) us → PySem.W.HoldAll h us ns
  | _, [], .nil => PySem.W.HoldAll.nil
  | _, n :: ns, .cons r t => by
    obtain ⟨t', rfl⟩ := r
    exact PySem.W.HoldAll.cons ⟨_, .int n t'⟩ (holdAll_ints t)
theorem cr_maxT (hc : X.calm = true) (hu : X.A.units + 100 < cLine) {pins : List (Addr × Obj)} {s : Shared} {σ : L2.St} {H : Hp} {a : Addr} {n : Int} {ns : List Int} {us : List Value} {Q : VK} (I : Inv X pins σ H s) (r : Vals [.ref a] us) (hs : SqT X.K H a ((n :: ns).map V.int))
    (q : Q (.int (ns.foldl max n)) H) : wpAny (model X.prog X.w) X.A (call (.builtin "max") us) (EP X pins σ Q) X.xe s := by
  obtain ⟨its, rv, ⟨o, ho, hcl, nn, hd⟩, _⟩ := I.tuple hs
  rw [Vals.ref1 r]
  refine PySem.W.max_tuple_datum (x := n) (xs := ns) (I.ok.hd hc) ⟨o, ho, hcl, nn, hd⟩ (by simpa using holdAll_ints rv) (by show X.A.units + 1 + 0 < cLine; omega) fun i v h' tk hi hh hk => ?_
  rw [maxOf_int] at hh
  obtain ⟨as, hr⟩ := hh
  cases hr
  exact ⟨.int _, H, I.kept hk, ⟨_, rfl⟩, q⟩
theorem zMax_ok (zx : ZX X) : CallR X (.builtin "max") (rZs X E zMax) := by
  intro pins s σ H xs us Q I r h
  obtain ⟨ds, θ, M, m, rs, h⟩ := h
  unfold zMax at h
  split at h
  · rename_i i j
    cases rs with
    | cons r1 rr =>
      cases rr with
      | cons r2 rr =>
        cases rr; cases r1; cases r2
        refine call_max2 zx.calm pins s σ H _ us Q I r ⟨i, j, rfl, ?_⟩
        rw [show (if j > i then j else i) = max i j by split <;> omega]
        exact Post.here h m (Fz.int _)
  · rename_i xs
    split at h
    · rename_i n ns e2
      cases rs with
      | cons r1 rr =>
        cases rr
        cases r1 with
        | tup k1 k2 =>
          have dp := k2.drs (θ := θ)
          rw [intsOf_eq e2] at dp
          have ev := drs_ints dp
          subst ev
          exact cr_maxT zx.calm zx.hu I r k1 (Post.here h m (Fz.int _))
    · exact h.elim
  · split at h
    · rename_i xs e1
      split at h
      · rename_i n ns e2
        cases rs with
        | cons r1 rr =>
          cases rr
          obtain ⟨ad, vs, rfl, hp, dp⟩ := lstv_ok m r1 e1
          rw [intsOf_eq e2] at dp
          have ev := drs_ints dp
          subst ev
          exact cr_max zx.calm pins s σ H _ us Q I r ⟨ad, n :: ns, rfl, hp.sq, by simp, fun k h1 h2 => by rw [max_only h1 h2]; exact Post.here h m (Fz.int _)⟩
      · exact h.elim
    · exact h.elim
  · exact h.elim
theorem zMin_ok (zx : ZX X) : CallR X (.builtin "min") (rZs X E zMin) := by
  intro pins s σ H xs us Q I r h
  obtain ⟨ds, θ, M, m, rs, h⟩ := h
  unfold zMin at h
  split at h
  · rename_i i j
    cases rs with
    | cons r1 rr =>
      cases rr with
      | cons r2 rr =>
        cases rr; cases r1; cases r2
        refine call_min2 zx.calm pins s σ H _ us Q I r ⟨i, j, rfl, ?_⟩
        rw [show (if j < i then j else i) = min i j by split <;> omega]
        exact Post.here h m (Fz.int _)
  · split at h
    · rename_i xs e1
      split at h
      · rename_i n ns e2
        cases rs with
        | cons r1 rr =>
          cases rr
          obtain ⟨ad, vs, rfl, hp, dp⟩ := lstv_ok m r1 e1
          rw [intsOf_eq e2] at dp
          have ev := drs_ints dp
          subst ev
          exact cr_min zx.calm pins s σ H _ us Q I r ⟨ad, n :: ns, rfl, hp.sq, by simp, fun k h1 h2 => by rw [min_only h1 h2]; exact Post.here h m (Fz.int _)⟩
      · exact h.elim
    · exact h.elim
  · exact h.elim
theorem zSum_ok (zx : ZX X) : CallR X (.builtin "sum") (rZs X E zSum) := by
  intro pins s σ H xs us Q I r h
  obtain ⟨ds, θ, M, m, rs, h⟩ := h
  unfold zSum at h
  split at h
  · split at h
    · rename_i xs e1
      split at h
      · rename_i ns e2
        cases rs with
        | cons r1 rr =>
          cases rr
          obtain ⟨ad, vs, rfl, hp, dp⟩ := lstv_ok m r1 e1
          rw [intsOf_eq e2] at dp
          have ev := drs_ints dp
          subst ev
          exact cr_sum zx.calm pins s σ H _ us Q I r ⟨ad, ns, rfl, hp.sq, Post.here h m (Fz.int _)⟩
      · exact h.elim
    · exact h.elim
  · exact h.elim
theorem zAny_ok (zx : ZX X) : CallR X (.builtin "any") (rZs X E zAny) := by
  intro pins s σ H xs us Q I r h
  obtain ⟨ds, θ, M, m, rs, h⟩ := h
  unfold zAny at h
  split at h
  · split at h
    · rename_i xs e1
      split at h
      · rename_i ns e2
        cases rs with
        | cons r1 rr =>
          cases rr
          obtain ⟨ad, vs, rfl, hp, dp⟩ := lstv_ok m r1 e1
          rw [boolsOf_eq e2] at dp
          have ev := drs_bools dp
          subst ev
          exact cr_any zx.calm pins s σ H _ us Q I r ⟨ad, ns, rfl, hp.sq, Post.here h m (Fz.bl _)⟩
      · exact h.elim
    · exact h.elim
  · exact h.elim
theorem zAll_ok (zx : ZX X) : CallR X (.builtin "all") (rZs X E zAll) := by
  intro pins s σ H xs us Q I r h
  obtain ⟨ds, θ, M, m, rs, h⟩ := h
  unfold zAll at h
  split at h
  · split at h
    · rename_i xs e1
      split at h
      · rename_i ns e2
        cases rs with
        | cons r1 rr =>
          cases rr
          obtain ⟨ad, vs, rfl, hp, dp⟩ := lstv_ok m r1 e1
          rw [boolsOf_eq e2] at dp
          have ev := drs_bools dp
          subst ev
          exact cr_all zx.calm pins s σ H _ us Q I r ⟨ad, ns, rfl, hp.sq, Post.here h m (Fz.bl _)⟩
      · exact h.elim
    · exact h.elim
  · exact h.elim
end

/-! ### tuple, list, sorted, repr -/
/-- the items of a tuple or a list -/
def seqv (M : Store) (d : D) : Option (List D) := match d with
  | .p (.tuple xs) => some (xs.map .p)
  | d => lstv M d
@[simp] theorem seqv_t (M : Store) (xs : List P) : seqv M (.p (.tuple xs)) = some (xs.map .p) := id rfl
@[simp] theorem seqv_l (M : Store) (xs : List P) : seqv M (.p (.list xs)) = some (xs.map .p) := id rfl
def zTuple (ds : List D) (M : Store) : Out D := match ds with
  | [.p (.tuple xs)] => .ok (.p (.tuple xs)) M
  | [d] => match lstv M d with
    | some xs => match pures xs with
      | some ys => .ok (.p (.tuple ys)) M
      | none => .stuck
    | none => .stuck
  | _ => .stuck
def zList (ds : List D) (M : Store) : Out D := match ds with
  | [d] => match seqv M d with
    | some xs => frzl xs M
    | none => .stuck
  | _ => .stuck
def zListM (ds : List D) (M : Store) : Out D := match ds with
  | [d] => match seqv M d with
    | some xs => .ok (.ref M.length) (M ++ [.lst xs])
    | none => .stuck
  | _ => .stuck
/-- data in their order -/
def psort (xs : List P) : List P := xs.mergeSort (PySem.W.dataLe false id)
def psortable (xs : List P) : Prop := PySem.W.AllAlike xs ∧ PySem.W.Sortable xs ∧ xs.length ≤ sizeLine ∧ ∀ x ∈ xs, x.depth ≤ 60
open Classical in
noncomputable def zSorted (ds : List D) (M : Store) : Out D := match ds with
  | [d] => match lstv M d with
    | some xs => match pures xs with
      | some ys => if psortable ys then .ok (.p (.list (psort ys))) M else .stuck
      | none => .stuck
    | none => .stuck
  | _ => .stuck
def zRepr (ds : List D) (M : Store) : Out D := match ds with
  | [d] => match snap 6 M d with
    | some x => if x.showable = true ∧ x.hasDict = false ∧ x.shown.length ≤ sizeLine ∧ x.depth ≤ 60 then .ok (.p (.str x.shown)) M else .stuck
    | none => .stuck
  | _ => .stuck
theorem seqv_ok {K : PySem.W.Frag} {θ : List Addr} {H : Hp} {M : Store} {v : V} {d : D} {ds : List D} (s : SR K θ H M) (r : Dr K θ H v d) (e : seqv M d = some ds) : ∃ a vs, v = .ref a ∧ (SqX K H a vs ∨ SqT K H a vs) ∧ Drs K θ H vs ds := by
  unfold seqv at e
  split at e
  · cases e
    cases r with
    | tup k1 k2 => exact ⟨_, _, rfl, .inr k1, k2.drs⟩
  · obtain ⟨a, vs, e1, h, q⟩ := lstv_ok s r e
    exact ⟨a, vs, e1, .inl h, q⟩
section
variable {X : Cx} {E : XK}
theorem zTuple_ok : CallR X (.type "tuple") (rZs X E zTuple) := by
  intro pins s σ H xs us Q I r h
  obtain ⟨ds, θ, M, m, rs, h⟩ := h
  unfold zTuple at h
  split at h
  · cases rs with
    | cons r1 rr =>
      cases rr
      cases r1 with
      | tup k1 k2 => exact call_tuple_of pins s σ H _ us Q I r ⟨_, _, rfl, .inr ⟨k1, Post.here h m (Fz.tup k1 k2)⟩⟩
  · split at h
    · rename_i xs e1
      split at h
      · rename_i ys e2
        cases rs with
        | cons r1 rr =>
          cases rr
          obtain ⟨ad, vs, rfl, hp, dp⟩ := lstv_ok m r1 e1
          rw [pures_eq e2] at dp
          exact call_tuple_of pins s σ H _ us Q I r ⟨_, _, rfl, .inl ⟨hp.sq, fun l hl => new_tup h m (FzAll.ofDrs dp) hl⟩⟩
      · exact h.elim
    · exact h.elim
  · exact h.elim
theorem zList_ok : CallR X (.type "list") (rZs X E zList) := by
  intro pins s σ H xs us Q I r h
  obtain ⟨ds, θ, M, m, rs, h⟩ := h
  unfold zList at h
  split at h
  · split at h
    · rename_i xs e1
      cases rs with
      | cons r1 rr =>
        cases rr
        obtain ⟨ad, vs, rfl, hp, dp⟩ := seqv_ok m r1 e1
        obtain ⟨l, k⟩ := frzl_ok h m dp
        exact thn (call_list_of pins s σ H _ us (FrzQ Q) I r ⟨_, _, rfl, hp.imp (fun h => h.sq) id, k⟩) fun u s1 z => ep_frz z
    · exact h.elim
  · exact h.elim
theorem zListM_ok : CallR X (.type "list") (rZs X E zListM) := by
  intro pins s σ H xs us Q I r h
  obtain ⟨ds, θ, M, m, rs, h⟩ := h
  unfold zListM at h
  split at h
  · split at h
    · rename_i xs e1
      cases rs with
      | cons r1 rr =>
        cases rr
        obtain ⟨ad, vs, rfl, hp, dp⟩ := seqv_ok m r1 e1
        exact call_list_of pins s σ H _ us Q I r ⟨_, _, rfl, hp.imp (fun h => h.sq) id, fun l hl => new_lst h m dp hl⟩
    · exact h.elim
  · exact h.elim
end
end Z

/-! Z: what loops and comprehensions walk. -/
namespace Z
open PySem PySem.Spec PyProof.Rows L2

/-! ### enumerate(tuple) -/
theorem meets_enum1 {v : Value} {o : Obj} {H : Heap → Prop} (B : Begins v o H) :
    Meets (Builtin.«enumerate.__new__» ⟨[.type "enumerate", v], []⟩) (fun _ R s => H s.heap ∧
      R (.ok (.ret (.ref (s.heap.push o).objs.size))) { s with heap := (s.heap.push o).push { cls := .type "enumerate", data := .fields #[.none, .bool false, .ref s.heap.objs.size, rawInt 0, .none, .none] } }) :=
  .of_wp fun prog w A R s h => by
    obtain ⟨hp, g, d, tk, os⟩ := s; obtain ⟨h1, h⟩ := h
    have hsub := sub_enumerate
    have q1 : ∀ {A' : Around} {E : Value → Shared → Prop} {Q : Value → Shared → Prop}, Q (.ref hp.objs.size) ⟨hp.push o, g, d, tk, os⟩ → wpAny (model prog w) A' (pyIter v) Q E ⟨hp, g, d, tk, os⟩ :=
      fun q => B.iter prog w _ _ ⟨hp, g, d, tk, os⟩ _ h1 q
    wp_walk using q1
    refine wpAny_stack_any fun st => wpAny_pure ?_
    split
    · rename_i c _ _ _ _ _
      cases (c == Value.type "enumerate")
      · wp_walk using q1
        exact ⟨_, rfl, h⟩
      · wp_walk using q1
        exact ⟨_, rfl, h⟩
    · wp_walk using q1
      exact ⟨_, rfl, h⟩
theorem enum_begins1 {prog : Program} {w : World} {A : Around} {E : Value → Shared → Prop} {s : Shared} {v : Value} {o : Obj} {H : Heap → Prop} {Q : Value → Shared → Prop} (B : Begins v o H) (h1 : H s.heap)
    (h : ∀ h', IsEnum h' (s.heap.objs.size + 1) s.heap.objs.size 0 .none → h'.get? s.heap.objs.size = some o → h'.objs.size = s.heap.objs.size + 2 →
      (∀ b o, s.heap.get? b = some o → h'.get? b = some o) → Q (.ref (s.heap.objs.size + 1)) { s with heap := h' }) :
    wpAny (model prog w) A (call (.type "enumerate") [v]) Q E s := by
  refine callType_new F.called_enumerate (by decide) (F.typeCall_enumerate_1 _) (F.newCall_enumerate_1 _) (fun obj => F.args_object_init_2 obj _) F.entry_enumerate_new
    (meets_enum1 B) ⟨h1, ?_⟩
  have hz : (s.heap.push o).objs.size = s.heap.objs.size + 1 := Heap.size_push ..
  show _ ∧ _
  rw [hz]
  have he : IsEnum ((s.heap.push o).push { cls := .type "enumerate", data := .fields #[.none, .bool false, .ref s.heap.objs.size, rawInt 0, .none, .none] }) (s.heap.objs.size + 1) s.heap.objs.size 0 .none := by
    have := Heap.get?_push_size (s.heap.push o) (o := { cls := .type "enumerate", data := .fields #[.none, .bool false, .ref s.heap.objs.size, rawInt 0, .none, .none] }) rfl
    rw [hz] at this; exact this
  refine ⟨⟨_, he, rfl⟩, h _ he (Heap.get?_push_of_some _ (Heap.get?_push_size _ B.free)) (by rw [Heap.size_push, hz]) fun b o x => Heap.get?_push_of_some _ (Heap.get?_push_of_some _ x)⟩

def IteT (K : PySem.W.Frag) (a : Addr) (ws : List V) : It :=
  ⟨fun i H => SqT K H a ws ∧ i < ws.length, fun i H v H' => ∃ T x, v = .ref T ∧ H T = none ∧ H' = upd H T (.tup [.int (i : Nat), x]) ∧ ws[i]? = some x, fun i H => SqT K H a ws ∧ ws.length ≤ i⟩
theorem turn_enumT {P : Program} {w : World} {K : PySem.W.Frag} {elts : List Expr} {kk : Nat} {tpos : Pos} (a e it : Addr) (ws : List V) :
    Turn P w K (.Tuple elts kk tpos) (IteT K a ws) [e, it] e (fun i h => (∃ old, IsEnum h e it ((i : Nat) : Int) old) ∧ h.IsTupleIter it a i ∧ e ≠ it ∧ e ≠ a ∧ a ≠ it) where
  mem := by simp
  obj := fun i h st b hb => by
    obtain ⟨⟨old, he⟩, ⟨o, ho, hc, hd⟩, _⟩ := st
    have e' : b = e ∨ b = it := by simpa using hb
    rcases e' with z | z
    · rw [z]; exact ⟨_, he, fun v q => nomatch q⟩
    · rw [z]; exact ⟨o, ho, fun v q => by rw [hd] at q; cases q⟩
  keep := fun i h h' st k => let ⟨⟨old, he⟩, hi, hne⟩ := st; ⟨⟨old, k e (by simp) _ he⟩, hi.at fun o q => k it (by simp) o q, hne⟩
  item := by
    intro X hP hw hK hc i pins s σ H E I hf st hg
    subst hP hw hK
    obtain ⟨⟨old, he⟩, hit, hne, hea, hai⟩ := st
    obtain ⟨hq, hi⟩ := hg
    obtain ⟨its, rv, p, hz⟩ := I.tuple hq
    have hlen := rv.length
    obtain ⟨u, hu, ru⟩ := rv.get (List.getElem?_eq_getElem hi)
    have hel : e < s.heap.objs.size := Heap.lt_size he
    have hil : it < s.heap.objs.size := by obtain ⟨_, q, _⟩ := hit; exact Heap.lt_size q
    have D := Draws.tuple (prog := X.prog) (w := X.w) (A := X.A.in1) (I.ok.hd hc) it a hai its.toArray
    refine wpAny_pyNext_enum_itemD D he ⟨hit, show s.heap.IsTuple a its.toArray from p⟩ (by rw [List.size_toArray, ← hlen]; exact hi) hne (by simp; exact ⟨hne, hea⟩) fun x h' tk hx ho hst' hT hsz hk => ?_
    have ex : x = u := by
      have hx' : its.toArray[i]? = some x := hx
      rw [List.getElem?_toArray, hu] at hx'
      exact (Option.some.inj hx').symm
    subst ex
    refine ⟨_, rfl, wpAny_letOwnedTupleGo_enum (s := { s with heap := h', toks := tk + 1 }) ho fun h'' he' sb => ?_⟩
    have hT2 : h''.get? s.heap.objs.size = some { cls := .type "tuple", data := .seq #[.int i tk, x] } := (sb.2 _ (Nat.ne_of_gt hel)).trans hT
    have new : ObjOk X.prog X.w (upd H s.heap.objs.size (.tup [.int (i : Nat), ws[i]])) h'' s.heap.objs.size (.tup [.int (i : Nat), ws[i]]) :=
      ⟨by show 2 ≤ sizeLine; decide, [.int i tk, x], .cons ⟨_, rfl⟩ (.cons ru .nil), ⟨_, hT2, rfl, _, rfl⟩⟩
    have I1 : Inv X pins σ (upd H s.heap.objs.size (.tup [.int (i : Nat), ws[i]])) { s with heap := h'', toks := tk + 1 } :=
      I.turnedNew (ch := [e, it]) (fun b ob hb q => (sb.2 b (fun z => hb (by simp [z]))).trans (hk b ob (fun z => hb (by simp [z])) (fun z => hb (by simp [z])) q)) hf (Nat.le_refl _) new
    refine ⟨.ref s.heap.objs.size, _, I1, rfl, ⟨_, ws[i], rfl, I.hok.fresh (Nat.le_refl _), rfl, List.getElem?_eq_getElem hi⟩, ⟨⟨x, ?_⟩, hst'.1.at fun o q => (sb.2 it (Ne.symm hne)).trans q, hne, hea, hai⟩, fun b hb => ?_⟩
    · have e1 : ((i + 1 : Nat) : Int) = (i : Int) + 1 := by omega
      rw [e1]; exact he'
    · have hb' : b < s.heap.objs.size := by
        have e' : b = e ∨ b = it := by simpa using hb
        rcases e' with z | z
        · rw [z]; exact hel
        · rw [z]; exact hil
      rw [upd_ne (Nat.ne_of_lt hb')]
      exact (hf b hb).1
  done := by
    intro X hP hw hK hc i pins s σ H E I hf st hg
    subst hP hw hK
    obtain ⟨⟨old, he⟩, hit, hne, hea, hai⟩ := st
    obtain ⟨hq, hx⟩ := hg
    obtain ⟨its, rv, p, hz⟩ := I.tuple hq
    obtain ⟨f0, f1, f2, f3, f4, f5⟩ := hf it (by simp)
    have hl := rv.length
    have D := Draws.tuple (prog := X.prog) (w := X.w) (A := X.A.in1) (I.ok.hd hc) it a hai its.toArray
    have nx : its.toArray[i]? = none := by rw [List.getElem?_toArray, List.getElem?_eq_none_iff]; omega
    have hT : s.TypeIs (.ref e) "enumerate" := ⟨_, he, rfl⟩
    unfold pyNext
    refine wpAny_bind (wpAny_attempt (wpAny_callSpecial?_slot (name := Str.ofString "__next__") hT F.slot_enumerate_next
      (wpAny_call_entry F.slot_enumerate_next hT F.entry_enumerate_next ?_ (F.args_enumerate_next_1 _))))
    show wpAny _ _ (field (.ref e) 2 >>= _) _ _ _
    refine wpAny_bind (wpAny_field he rfl (x := .ref it) rfl ?_)
    refine wpAny_bind (wpAny_nextOf_tuple_end (I.ok.hd hc) hit (show s.heap.IsTuple a its.toArray from p) nx fun h' x he' hx' => ?_)
    obtain ⟨o, ho, hcc⟩ := hx'
    refine wpAny_bind (wpAny_isInstance (T := "StopIteration") (b := true) ⟨o, ho, hcc⟩ isSubtype_stop ?_)
    exact wpAny_pure ⟨rfl, I.turned (t' := s.toks) (fun b o hb q => he' b o hb q) f0 f1 f3 f4 f5⟩
  self := fun A i s Q E st h => let ⟨⟨_, he⟩, _⟩ := st; wpAny_pyIter_enum he h
def iEnumT (K : PySem.W.Frag) (ta : TA) : TI := fun σ H R => ta σ H fun vs H1 => ∃ a ws, vs = [.ref a] ∧ ((SqL K H1 a ws ∧ R (Ite K a) H1) ∨ (SqT K H1 a ws ∧ R (IteT K a ws) H1))
theorem pi_enumT {X : Cx} {e : Expr} {ta : TA} {p pos tpos : Pos} {elts : List Expr} {kk : Nat} (hg : Gl X "enumerate") (hm : X.mg "enumerate" = none) (ha : PA X [e] ta) (hs : starEach [e] X.env = [(false, eval e X.env)] := by rfl) :
    PI X (.Tuple elts kk tpos) (.Call (.Name "enumerate" p) [e] [] pos) (iEnumT X.K ta) := by
  refine ⟨fun pins s σ H R I h => ?_⟩
  refine Call_ (ld_blt I hg hm boot_enumerate (PyProof.Rows.callWith_type1 (thn (ha.run pos pins s σ H _ I h) fun us s1 ⟨vs, H1, I1, r1, q1⟩ => ?_) hs rfl))
  obtain ⟨a, xs, ex, q⟩ := q1
  subst ex
  cases r1 with
  | cons r rr =>
    cases rr
    cases r
    have fresh : ∀ b, b ∈ [s1.heap.objs.size + 1, s1.heap.objs.size] → s1.heap.objs.size ≤ b := fun b hb => by
      have e' : b = s1.heap.objs.size + 1 ∨ b = s1.heap.objs.size := by simpa using hb
      rcases e' with z | z
      · rw [z]; exact Nat.le_add_right _ _
      · rw [z]; exact Nat.le_refl _
    rcases q with ⟨hq, q⟩ | ⟨hq, q⟩
    · obtain ⟨its, rv, p', hz⟩ := I1.list hq
      refine call_enumerate_list p'.isList fun h' he hit hsz hk => wpAny_pyIter_enum he ?_
      have I2 : Inv X pins σ H1 { s1 with heap := h' } := I1.kept (t' := s1.toks) hk
      exact ⟨s1.heap.objs.size + 1, [s1.heap.objs.size + 1, s1.heap.objs.size], _, _, H1, rfl, I2, turn_enum a (s1.heap.objs.size + 1) s1.heap.objs.size, ⟨⟨.none, he⟩, hit, Nat.succ_ne_self _⟩, fun b hb => I1.fpOk (fresh b hb) (I1.hok.fresh (fresh b hb)), q⟩
    · obtain ⟨its, rv, p', hz⟩ := I1.tuple hq
      have hlt : a < s1.heap.objs.size := p'.lt
      refine enum_begins1 (begins_tuple a its.toArray) (show s1.heap.IsTuple a its.toArray from p') fun h' he ho hsz hk => wpAny_pyIter_enum he ?_
      have I2 : Inv X pins σ H1 { s1 with heap := h' } := I1.kept (t' := s1.toks) hk
      exact ⟨s1.heap.objs.size + 1, [s1.heap.objs.size + 1, s1.heap.objs.size], _, _, H1, rfl, I2, turn_enumT a (s1.heap.objs.size + 1) s1.heap.objs.size xs, ⟨⟨.none, he⟩, ⟨_, ho, rfl, rfl⟩, Nat.succ_ne_self _, Nat.ne_of_gt (Nat.lt_succ_of_lt hlt), Nat.ne_of_lt hlt⟩, fun b hb => I1.fpOk (fresh b hb) (I1.hok.fresh (fresh b hb)), q⟩
end Z

/-! Z: targets, statements, loops, comprehensions. -/
namespace Z
open PySem PySem.Spec PyProof.Rows L2

/-! ### what is walked -/
structure WalkR (K : PySem.W.Frag) (θ : List Addr) (H : Hp) (J : It) (items : List D) : Prop where
  go : ∀ i H1 θ1, i < items.length → Go θ θ1 H H1 → J.go i H1
  yld : ∀ i H1 θ1 M x H2, i < items.length → Go θ θ1 H H1 → SR K θ1 H1 M → J.yld i H1 x H2 → ∃ d, items[i]? = some d ∧ Go θ1 θ1 H1 H2 ∧ SR K θ1 H2 M ∧ Dr K θ1 H2 x d
  stop : ∀ i H1 θ1, items.length ≤ i → Go θ θ1 H H1 → J.stop i H1
section
variable (X : Cx) (E : XK)
def ZI (tg iter : Expr) (c : ZCs) : Prop := ∃ wi, PI X tg iter wi ∧ ∀ σ H θ sl M R, SV X.K θ H σ sl → SR X.K θ H M → Post X.K X.mg E (WalkR X.K) R θ H (c sl M) → wi σ H R
end
/-- the items of what is walked -/
def zitems (a : ZC) : ZCs := fun sl M => (a sl M).bind fun d M1 => match d with
  | .p (.tuple xs) => .ok (xs.map .p) M1
  | .p (.list xs) => .ok (xs.map .p) M1
  | .p (.dict kvs) => .ok (kvs.map fun kv => .p kv.1) M1
  | _ => .stuck
def rgItems (lo : Int) (n : Nat) : List D := (List.range n).map fun i : Nat => .p (.int (lo + (i : Int)))
def zrange1 (a : ZC) : ZCs := fun sl M => (a sl M).bind fun d M1 => match d with
  | .p (.int j) => if -(2 ^ 62) ≤ j ∧ j < 2 ^ 62 then .ok (rgItems 0 j.toNat) M1 else .stuck
  | _ => .stuck
def zrange2 (a b : ZC) : ZCs := fun sl M => (a sl M).bind fun d M1 => (b sl M1).bind fun e M2 => match d, e with
  | .p (.int i), .p (.int j) => if -(2 ^ 62) ≤ i ∧ i < 2 ^ 62 ∧ -(2 ^ 62) ≤ j ∧ j < 2 ^ 62 then .ok (rgItems i (j - i).toNat) M2 else .stuck
  | _, _ => .stuck
def enumFrom (i : Nat) : List P → List D
  | [] => []
  | x :: r => .p (.tuple [.int i, x]) :: enumFrom (i + 1) r
def zenum (a : ZC) : ZCs := fun sl M => (a sl M).bind fun d M1 => match d with
  | .p (.tuple xs) => .ok (enumFrom 0 xs) M1
  | .p (.list xs) => .ok (enumFrom 0 xs) M1
  | _ => .stuck
def zipP : List P → List P → List D
  | x :: xs, y :: ys => .p (.tuple [x, y]) :: zipP xs ys
  | _, _ => []
def zzip (a b : ZC) : ZCs := fun sl M => (a sl M).bind fun d M1 => (b sl M1).bind fun e M2 => match d, e with
  | .p (.tuple xs), .p (.tuple ys) => .ok (zipP xs ys) M2
  | .p (.list xs), .p (.list ys) => .ok (zipP xs ys) M2
  | _, _ => .stuck
theorem enumFrom_get : ∀ (xs : List P) (k i : Nat), (enumFrom k xs)[i]? = (xs[i]?).map fun x => .p (.tuple [.int (k + i : Nat), x])
  | [], k, i => by simp [enumFrom]
  | x :: r, k, 0 => by simp [enumFrom]
  | x :: r, k, i + 1 => by
    rw [enumFrom, List.getElem?_cons_succ, List.getElem?_cons_succ, enumFrom_get r (k + 1) i, show k + 1 + i = k + (i + 1) by omega]
theorem enumFrom_len : ∀ (xs : List P) (k : Nat), (enumFrom k xs).length = xs.length
  | [], k => rfl
  | x :: r, k => by rw [enumFrom, List.length_cons, enumFrom_len r, List.length_cons]
theorem zipP_get : ∀ (xs ys : List P) (i : Nat) (x y : P), xs[i]? = some x → ys[i]? = some y → (zipP xs ys)[i]? = some (.p (.tuple [x, y]))
  | [], _, _, _, _, h, _ => by simp at h
  | _ :: _, [], _, _, _, _, h => by simp at h
  | a :: xs, b :: ys, 0, x, y, h, h' => by simp at h h'; subst h h'; rfl
  | a :: xs, b :: ys, i + 1, x, y, h, h' => by
    rw [zipP, List.getElem?_cons_succ]
    exact zipP_get xs ys i x y (by simpa using h) (by simpa using h')
theorem zipP_len : ∀ (xs ys : List P), (zipP xs ys).length = min xs.length ys.length
  | [], _ => by simp [zipP]
  | _ :: _, [] => by simp [zipP]
  | a :: xs, b :: ys => by rw [zipP, List.length_cons, zipP_len, List.length_cons, List.length_cons]; omega
/-- walking a list or a tuple -/
def iSeq (K : PySem.W.Frag) (tl : TE) : TI := fun σ H R => tl σ H fun x H1 => ∃ a, x = .ref a ∧ (((∃ xs, SqL K H1 a xs) ∧ R (Itl K a) H1) ∨ ((∃ xs, SqT K H1 a xs) ∧ R (Itt K a) H1) ∨ ∃ o kvs, H1 a = some (.frz o (.dK kvs)) ∧ R (Itk a o kvs) H1)
theorem pi_seq {X : Cx} {tg l : Expr} {tl : TE} (hl : PE X l tl) : PI X tg l (iSeq X.K tl) := by
  refine ⟨fun pins s σ H R I h => ?_⟩
  refine thn (hl.run pins s σ H _ I h) fun v s1 ⟨x, H1, I1, r1, q1⟩ => ?_
  obtain ⟨a, e, q⟩ := q1
  subst e
  cases r1
  rcases q with ⟨⟨xs, hq⟩, q⟩ | ⟨⟨xs, hq⟩, q⟩ | ⟨o, kvs, hq, q⟩
  · obtain ⟨its, rv, p, hz⟩ := I1.list hq
    refine wpAny_pyIter_list p.isList ?_
    refine ⟨s1.heap.objs.size, [s1.heap.objs.size], _, _, H1, rfl, I1.kept (t' := s1.toks) fun b o e => Heap.get?_push_of_some _ e, turn_list a _, ⟨_, Heap.get?_push_size _ rfl, rfl, rfl⟩, fun b hb => ?_, q⟩
    have e : b = s1.heap.objs.size := by simpa using hb
    subst e
    exact I1.fpOk (Nat.le_refl _) (I1.hok.fresh (Nat.le_refl _))
  · obtain ⟨its, rv, p, hz⟩ := I1.tuple hq
    refine wpAny_pyIter_tuple (show s1.heap.IsTuple a its.toArray from p) ?_
    refine ⟨s1.heap.objs.size, [s1.heap.objs.size], _, _, H1, rfl, I1.kept (t' := s1.toks) fun b o e => Heap.get?_push_of_some _ e, turn_tuple a _, ⟨_, Heap.get?_push_size _ rfl, rfl, rfl⟩, fun b hb => ?_, q⟩
    have e : b = s1.heap.objs.size := by simpa using hb
    subst e
    exact I1.fpOk (Nat.le_refl _) (I1.hok.fresh (Nat.le_refl _))
  · obtain ⟨hs, hgd, hx, es, ep, vs, hdt, hsz, kv, hm⟩ := I1.frzK hq
    refine iter_keys hs hgd hx hdt (pi_one (tk := s1.toks) I1 _ (turn_keys _ hdt) ⟨_, Heap.get?_push_size _ rfl, rfl, ?_⟩ q)
    rw [hsz] <;> rfl
section
variable {K : PySem.W.Frag} {θ : List Addr} {H : Hp}
theorem fz_at {vs : List V} {xs : List P} (h : FzAll K H vs xs) {i : Nat} {v : V} (e : vs[i]? = some v) : ∃ x, xs[i]? = some x ∧ Fz K H v x := paired_at' h.paired e
theorem walk_l {a : Addr} {vs : List V} {xs : List P} (h : FzL K H a vs) (f : FzAll K H vs xs) : WalkR K θ H (Itl K a) (xs.map .p) := by
  refine ⟨fun i H1 θ1 l g => ?_, fun i H1 θ1 M x H2 l g s y => ?_, fun i H1 θ1 l g => ?_⟩
  · rw [List.length_map, ← f.length] at l
    exact ⟨vs, vs[i], (h.keep g.keep).sq, List.getElem?_eq_getElem l⟩
  · obtain ⟨rfl, y⟩ := y
    obtain ⟨d, e, r⟩ := fz_at f (y vs (h.keep g.keep).sq)
    exact ⟨.p d, by rw [List.getElem?_map, e]; rfl, .refl, s, r.keep g.keep⟩
  · rw [List.length_map, ← f.length] at l
    exact ⟨vs, (h.keep g.keep).sq, l⟩
theorem walk_t {a : Addr} {vs : List V} {xs : List P} (h : SqT K H a vs) (f : FzAll K H vs xs) : WalkR K θ H (Itt K a) (xs.map .p) := by
  refine ⟨fun i H1 θ1 l g => ?_, fun i H1 θ1 M x H2 l g s y => ?_, fun i H1 θ1 l g => ?_⟩
  · rw [List.length_map, ← f.length] at l
    exact ⟨vs, vs[i], SqT.keep g.keep h, List.getElem?_eq_getElem l⟩
  · obtain ⟨rfl, y⟩ := y
    obtain ⟨d, e, r⟩ := fz_at f (y vs (SqT.keep g.keep h))
    exact ⟨.p d, by rw [List.getElem?_map, e]; rfl, .refl, s, r.keep g.keep⟩
  · rw [List.length_map, ← f.length] at l
    exact ⟨vs, SqT.keep g.keep h, l⟩
theorem kv_all : ∀ {us : List (Key × V)} {ds : List (P × P)}, ds.map Prod.fst = us.map (fun u => kP u.1) → FzAll K H (us.map Prod.snd) (ds.map Prod.snd) → Paired (fun (u : Key × V) (d : P × P) => d.1 = kP u.1 ∧ Fz K H u.2 d.2) us ds
  | [], [], _, _ => .nil
  | [], _ :: _, h, _ => by simp at h
  | _ :: _, [], h, _ => by simp at h
  | u :: us, d :: ds, h, f => by
    rw [List.map_cons, List.map_cons, List.cons.injEq] at h
    rw [List.map_cons, List.map_cons] at f
    cases f with
    | cons f1 f2 => exact .cons ⟨h.1, f1⟩ (kv_all h.2 f2)
theorem fz_key (k : Key) : Fz K H (kV k) (kP k) := by
  cases k with
  | inl i => exact .int i
  | inr x => exact .str x
theorem walk_k {a : Addr} {o : Obj} {us : List (Key × V)} {ds : List (P × P)} (h : H a = some (.frz o (.dK us))) (p : Paired (fun (u : Key × V) (d : P × P) => d.1 = kP u.1 ∧ Fz K H u.2 d.2) us ds) : WalkR K θ H (Itk a o us) (ds.map fun kv => .p kv.1) := by
  have hl : us.length = ds.length := Paired.length p
  refine ⟨fun i H1 θ1 l g => ?_, fun i H1 θ1 M x H2 l g s y => ?_, fun i H1 θ1 l g => ?_⟩
  · rw [List.length_map, ← hl] at l
    exact ⟨g.keep _ _ h trivial, l⟩
  · obtain ⟨rfl, k, v, e, rfl⟩ := y
    obtain ⟨d, e2, r⟩ := paired_at' p e
    exact ⟨.p d.1, by rw [List.getElem?_map, e2]; rfl, .refl, s, by rw [r.1]; exact fz_key k⟩
  · rw [List.length_map, ← hl] at l
    exact ⟨g.keep _ _ h trivial, l⟩
theorem walk_rg {lo : Int} {n : Nat} : WalkR K θ H (Itr lo n) (rgItems lo n) := by
  have len : (rgItems lo n).length = n := by simp [rgItems]
  refine ⟨fun i H1 θ1 l g => by rw [len] at l; exact l, fun i H1 θ1 M x H2 l g s y => ?_, fun i H1 θ1 l g => by rw [len] at l; exact l⟩
  obtain ⟨rfl, rfl⟩ := y
  rw [len] at l
  exact ⟨.p (.int (lo + i)), by simp [rgItems, l], .refl, s, Fz.int _⟩
theorem pair_new {θ1 : List Addr} {H1 : Hp} {M : Store} {T : Addr} {v w : V} {x y : P} (s : SR K θ1 H1 M) (hT : H1 T = none) (r : Fz K H1 v x) (q : Fz K H1 w y) :
    Go θ1 θ1 H1 (upd H1 T (.tup [v, w])) ∧ SR K θ1 (upd H1 T (.tup [v, w])) M ∧ Fz K (upd H1 T (.tup [v, w])) (.ref T) (.tuple [x, y]) :=
  have g := Go.out (u := .tup [v, w]) s hT
  ⟨g, s.out hT, .tup SqT.new (.cons (r.keep g.keep) (.cons (q.keep g.keep) .nil))⟩
theorem walk_el {a : Addr} {vs : List V} {xs : List P} (h : FzL K H a vs) (f : FzAll K H vs xs) : WalkR K θ H (Ite K a) (enumFrom 0 xs) := by
  refine ⟨fun i H1 θ1 l g => ?_, fun i H1 θ1 M x H2 l g s y => ?_, fun i H1 θ1 l g => ?_⟩
  · rw [enumFrom_len, ← f.length] at l
    exact ⟨vs, vs[i], (h.keep g.keep).sq, List.getElem?_eq_getElem l⟩
  · obtain ⟨T, z, rfl, hT, rfl, y⟩ := y
    obtain ⟨d, e, r⟩ := fz_at f (y vs (h.keep g.keep).sq)
    obtain ⟨g2, s2, r2⟩ := pair_new s hT (.int (i : Int)) (r.keep g.keep)
    exact ⟨_, by rw [enumFrom_get, e]; rfl, g2, s2, by rw [Nat.zero_add]; exact r2⟩
  · rw [enumFrom_len, ← f.length] at l
    exact ⟨vs, (h.keep g.keep).sq, l⟩
theorem walk_et {a : Addr} {vs : List V} {xs : List P} (h : SqT K H a vs) (f : FzAll K H vs xs) : WalkR K θ H (IteT K a vs) (enumFrom 0 xs) := by
  refine ⟨fun i H1 θ1 l g => ?_, fun i H1 θ1 M x H2 l g s y => ?_, fun i H1 θ1 l g => ?_⟩
  · rw [enumFrom_len, ← f.length] at l
    exact ⟨SqT.keep g.keep h, l⟩
  · obtain ⟨T, z, rfl, hT, rfl, y⟩ := y
    obtain ⟨d, e, r⟩ := fz_at f y
    obtain ⟨g2, s2, r2⟩ := pair_new s hT (.int (i : Int)) (r.keep g.keep)
    exact ⟨_, by rw [enumFrom_get, e]; rfl, g2, s2, by rw [Nat.zero_add]; exact r2⟩
  · rw [enumFrom_len, ← f.length] at l
    exact ⟨SqT.keep g.keep h, l⟩
theorem walk_i {a : Addr} {o : Obj} {us : List (Key × V)} {ds : List (P × P)} (h : H a = some (.frz o (.dK us))) (p : Paired (fun (u : Key × V) (d : P × P) => d.1 = kP u.1 ∧ Fz K H u.2 d.2) us ds) : WalkR K θ H (Iti a o us) (ds.map fun kv => .p (.tuple [kv.1, kv.2])) := by
  have hl : us.length = ds.length := Paired.length p
  refine ⟨fun i H1 θ1 l g => ?_, fun i H1 θ1 M x H2 l g s y => ?_, fun i H1 θ1 l g => ?_⟩
  · rw [List.length_map, ← hl] at l
    exact ⟨g.keep _ _ h trivial, l⟩
  · obtain ⟨T, k, v, e, rfl, hT, rfl⟩ := y
    obtain ⟨d, e2, r⟩ := paired_at' p e
    obtain ⟨g2, s2, r2⟩ := pair_new s hT (fz_key (K := K) (H := H1) k) (r.2.keep g.keep)
    exact ⟨.p (.tuple [d.1, d.2]), by rw [List.getElem?_map, e2]; rfl, g2, s2, by rw [r.1]; exact r2⟩
  · rw [List.length_map, ← hl] at l
    exact ⟨g.keep _ _ h trivial, l⟩
theorem walk_zl {a b : Addr} {vs ws : List V} {xs ys : List P} (h : FzL K H a vs) (f : FzAll K H vs xs) (h' : FzL K H b ws) (f' : FzAll K H ws ys) : WalkR K θ H (Itz K a b) (zipP xs ys) := by
  refine ⟨fun i H1 θ1 l g => ?_, fun i H1 θ1 M x H2 l g s y => ?_, fun i H1 θ1 l g => ?_⟩
  · rw [zipP_len, ← f.length, ← f'.length] at l
    exact ⟨vs, ws, vs[i]'(by omega), ws[i]'(by omega), (h.keep g.keep).sq, (h'.keep g.keep).sq, List.getElem?_eq_getElem (by omega), List.getElem?_eq_getElem (by omega)⟩
  · obtain ⟨T, z, z', rfl, hT, rfl, y, y'⟩ := y
    obtain ⟨d, e, r⟩ := fz_at f (y vs (h.keep g.keep).sq)
    obtain ⟨d', e', r'⟩ := fz_at f' (y' ws (h'.keep g.keep).sq)
    obtain ⟨g2, s2, r2⟩ := pair_new s hT (r.keep g.keep) (r'.keep g.keep)
    exact ⟨_, zipP_get _ _ _ _ _ e e', g2, s2, r2⟩
  · rw [zipP_len, ← f.length, ← f'.length] at l
    exact ⟨vs, ws, (h.keep g.keep).sq, (h'.keep g.keep).sq, by omega⟩
theorem walk_zt {a b : Addr} {vs ws : List V} {xs ys : List P} (h : SqT K H a vs) (f : FzAll K H vs xs) (h' : SqT K H b ws) (f' : FzAll K H ws ys) : WalkR K θ H (RZ.ItzT K a b) (zipP xs ys) := by
  refine ⟨fun i H1 θ1 l g => ?_, fun i H1 θ1 M x H2 l g s y => ?_, fun i H1 θ1 l g => ?_⟩
  · rw [zipP_len, ← f.length, ← f'.length] at l
    exact ⟨vs, ws, vs[i]'(by omega), ws[i]'(by omega), SqT.keep g.keep h, SqT.keep g.keep h', List.getElem?_eq_getElem (by omega), List.getElem?_eq_getElem (by omega)⟩
  · obtain ⟨T, z, z', rfl, hT, rfl, y, y'⟩ := y
    obtain ⟨d, e, r⟩ := fz_at f (y vs (SqT.keep g.keep h))
    obtain ⟨d', e', r'⟩ := fz_at f' (y' ws (SqT.keep g.keep h'))
    obtain ⟨g2, s2, r2⟩ := pair_new s hT (r.keep g.keep) (r'.keep g.keep)
    exact ⟨_, zipP_get _ _ _ _ _ e e', g2, s2, r2⟩
  · rw [zipP_len, ← f.length, ← f'.length] at l
    exact ⟨vs, ws, SqT.keep g.keep h, SqT.keep g.keep h', by omega⟩
end
section
variable {X : Cx} {E : XK} {e a b : Expr} {es : List Expr} {pos p tpos : Pos} {tg : Expr} {ca cb : ZC}
theorem ZI.seq (ha : ZE X E a ca) : ZI X E tg a (zitems ca) := by
  obtain ⟨t, pa, q⟩ := ha
  refine ⟨_, pi_seq pa, fun σ H θ sl M R hs hm h => q σ H θ sl M _ hs hm (Post.bind h fun d M1 v H1 θ1 g1 m1 r1 h1 => ?_)⟩
  split at h1
  · rename_i xs
    cases r1 with
    | tup k1 k2 => exact ⟨_, rfl, .inr (.inl ⟨⟨_, k1⟩, Post.here h1 m1 (walk_t k1 k2)⟩)⟩
  · rename_i xs
    cases r1 with
    | lst k1 k2 => exact ⟨_, rfl, .inl ⟨⟨_, k1.sq⟩, Post.here h1 m1 (walk_l k1 k2)⟩⟩
  · rename_i ds
    cases r1 with
    | dct k1 k2 k3 => exact ⟨_, rfl, .inr (.inr ⟨_, _, k1, Post.here h1 m1 (walk_k k1 (kv_all k2 k3))⟩)⟩
  · exact h1.elim
theorem pa1 {ta : TE} (pa : PE X a ta) (hs : starEach [a] X.env = [(false, eval a X.env)] := by rfl) : PA X [a] (tCons ta tNil) := pa_cons pa pa_nil hs
theorem ZI.range1 (hg : Gl X "range") (hm : X.mg "range" = none) (ha : ZE X E a ca) (hs : starEach [a] X.env = [(false, eval a X.env)] := by rfl) : ZI X E tg (.Call (.Name "range" p) [a] [] pos) (zrange1 ca) := by
  obtain ⟨t, pa, q⟩ := ha
  refine ⟨_, pi_range1 hg hm (pa1 pa hs) hs, fun σ H θ sl M R hs hm h => q σ H θ sl M _ hs hm (Post.bind h fun d M1 v H1 θ1 g1 m1 r1 h1 => ?_)⟩
  split at h1
  · rename_i j
    cases r1
    split at h1
    · rename_i c
      exact ⟨j, rfl, c.1, c.2, Post.here h1 m1 walk_rg⟩
    · exact h1.elim
  · exact h1.elim
theorem ZI.range2 (hg : Gl X "range") (hm : X.mg "range" = none) (ha : ZE X E a ca) (hb : ZE X E b cb) (hs : starEach [a, b] X.env = [(false, eval a X.env), (false, eval b X.env)] := by rfl) (hs2 : starEach [b] X.env = [(false, eval b X.env)] := by rfl) :
    ZI X E tg (.Call (.Name "range" p) [a, b] [] pos) (zrange2 ca cb) := by
  obtain ⟨t, pa, q⟩ := ha
  obtain ⟨t', pb, q'⟩ := hb
  refine ⟨_, pi_range2 hg hm (pa_cons pa (pa1 pb hs2) (by rw [hs, hs2])) hs hs2, fun σ H θ sl M R hs hm h => q σ H θ sl M _ hs hm (Post.bind h fun d M1 v H1 θ1 g1 m1 r1 h1 => ?_)⟩
  refine q' σ H1 θ1 sl M1 _ (hs.go g1) m1 (Post.bind h1 fun d' M2 v' H2 θ2 g2 m2 r2 h2 => ?_)
  split at h2
  · rename_i i j
    cases r1; cases r2
    split at h2
    · rename_i c
      exact ⟨i, j, rfl, c, Post.here h2 m2 walk_rg⟩
    · exact h2.elim
  · exact h2.elim
theorem ZI.enum {elts : List Expr} {kk : Nat} (hg : Gl X "enumerate") (hm : X.mg "enumerate" = none) (ha : ZE X E a ca) (hs : starEach [a] X.env = [(false, eval a X.env)] := by rfl) : ZI X E (.Tuple elts kk tpos) (.Call (.Name "enumerate" p) [a] [] pos) (zenum ca) := by
  obtain ⟨t, pa, q⟩ := ha
  refine ⟨_, pi_enumT hg hm (pa1 pa hs) hs, fun σ H θ sl M R hs hm h => q σ H θ sl M _ hs hm (Post.bind h fun d M1 v H1 θ1 g1 m1 r1 h1 => ?_)⟩
  split at h1
  · cases r1 with
    | tup k1 k2 => exact ⟨_, _, rfl, .inr ⟨k1, Post.here h1 m1 (walk_et k1 k2)⟩⟩
  · cases r1 with
    | lst k1 k2 => exact ⟨_, _, rfl, .inl ⟨k1.sq, Post.here h1 m1 (walk_el k1 k2)⟩⟩
  · exact h1.elim
theorem ZI.zip {elts : List Expr} {kk : Nat} (hg : Gl X "zip") (hm : X.mg "zip" = none) (ha : ZE X E a ca) (hb : ZE X E b cb) (hs : starEach [a, b] X.env = [(false, eval a X.env), (false, eval b X.env)] := by rfl) (hs2 : starEach [b] X.env = [(false, eval b X.env)] := by rfl) :
    ZI X E (.Tuple elts kk tpos) (.Call (.Name "zip" p) [a, b] [] pos) (zzip ca cb) := by
  obtain ⟨t, pa, q⟩ := ha
  obtain ⟨t', pb, q'⟩ := hb
  refine ⟨_, RZ.pi_zipA hg hm (pa_cons pa (pa1 pb hs2) (by rw [hs, hs2])) (by rw [hs, hs2]) (by rw [hs2]; rfl), fun σ H θ sl M R hs hm h => q σ H θ sl M _ hs hm (Post.bind h fun d M1 v H1 θ1 g1 m1 r1 h1 => ?_)⟩
  refine q' σ H1 θ1 sl M1 _ (hs.go g1) m1 (Post.bind h1 fun d' M2 v' H2 θ2 g2 m2 r2 h2 => ?_)
  split at h2
  · cases r1 with
    | tup k1 k2 =>
      cases r2 with
      | tup l1 l2 => exact ⟨_, _, _, _, rfl, .inr ⟨SqT.keep g2.keep k1, l1, Post.here h2 m2 (walk_zt (SqT.keep g2.keep k1) (k2.keep g2.keep) l1 l2)⟩⟩
  · cases r1 with
    | lst k1 k2 =>
      cases r2 with
      | lst l1 l2 => exact ⟨_, _, _, _, rfl, .inl ⟨(k1.keep g2.keep).sq, l1.sq, Post.here h2 m2 (walk_zl (k1.keep g2.keep) (k2.keep g2.keep) l1 l2)⟩⟩
  · exact h2.elim
/-- d.items() -/
def zditems (a : ZC) : ZCs := fun sl M => (a sl M).bind fun d M1 => match d with
  | .p (.dict kvs) => .ok (kvs.map fun kv => .p (.tuple [kv.1, kv.2])) M1
  | _ => .stuck
theorem ZI.items {elts : List Expr} {kk : Nat} {apos cpos : Pos} (ha : ZE X E a ca) (hbase : attributeBase a "items" X.env (eval a X.env) = eval a X.env := by rfl) (hline : (apos.endLine == cpos.line) = true := by rfl) :
    ZI X E (.Tuple elts kk tpos) (.Call (.Attribute a "items" apos) [] [] cpos) (zditems ca) := by
  obtain ⟨t, pa, q⟩ := ha
  refine ⟨_, pi_items pa hbase hline, fun σ H θ sl M R hs hm h => q σ H θ sl M _ hs hm (Post.bind h fun d M1 v H1 θ1 g1 m1 r1 h1 => ?_)⟩
  split at h1
  · cases r1 with
    | dct k1 k2 k3 => exact ⟨_, _, _, rfl, k1, Post.here h1 m1 (walk_i k1 (kv_all k2 k3))⟩
  · exact h1.elim
end
end Z

/-! Z: targets, statements, loops. -/
namespace Z
open PySem PySem.Spec PyProof.Rows L2

/-! ### canonical readings -/
section
variable (K : PySem.W.Frag) (mg : Str → Option Value) (E : XK)
def tZ (c : ZC) : TE := fun σ H Q => ∃ θ sl M, SV K θ H σ sl ∧ SR K θ H M ∧ Post K mg E (Dr K) Q θ H (c sl M)
def tZb (c : ZCb) : TT := fun σ H Q => ∃ θ sl M, SV K θ H σ sl ∧ SR K θ H M ∧ Post K mg E EqR Q θ H (c sl M)
end
theorem ZE.can {X : Cx} {E : XK} {e : Expr} {c : ZC} (h : ZE X E e c) : PE X e (tZ X.K X.mg E c) := by
  obtain ⟨t, p, q⟩ := h
  exact ⟨fun pins s σ H Q I ⟨θ, sl, M, hs, hm, w⟩ => p.run pins s σ H Q I (q σ H θ sl M Q hs hm w)⟩
theorem ZT.can {X : Cx} {E : XK} {e : Expr} {c : ZCb} (h : ZT X E e c) : PT X e (tZb X.K X.mg E c) := by
  obtain ⟨t, p, q⟩ := h
  exact ⟨fun pins s σ H Q I ⟨θ, sl, M, hs, hm, w⟩ => p.run pins s σ H Q I (q σ H θ sl M Q hs hm w)⟩

/-! ### targets -/
abbrev Tg := D → Sl → Option Sl
/-- alike but for some places -/
def But (ix : List Nat) (σ σ' : L2.St) : Prop := σ'.length = σ.length ∧ ∀ j, j ∉ ix → σ'[j]? = σ[j]?
structure ZG (X : Cx) (tg : Expr) (f : Tg) (ix : List Nat) : Prop where
  run : ∃ g, PG X tg g ∧ ∀ v d σ H θ sl sl' Q, SV X.K θ H σ sl → Dr X.K θ H v d → f d sl = some sl' → (∀ σ', SV X.K θ H σ' sl' → But ix σ σ' → Q σ' H) → g v σ H Q
structure ZGs (X : Cx) (ts : List Expr) (f : List P → Sl → Option Sl) (ix : List Nat) : Prop where
  run : ∃ g, PGs X ts g ∧ ∀ vs xs σ H θ sl sl' Q, SV X.K θ H σ sl → FzAll X.K H vs xs → f xs sl = some sl' → (∀ σ', SV X.K θ H σ' sl' → But ix σ σ' → Q σ' H) → g vs σ H Q
def tgN (i : Nat) : Tg := fun d sl => some (sl.set i (some d))
def tgsNil : List P → Sl → Option Sl := fun xs sl => match xs with
  | [] => some sl
  | _ => none
def tgsCons (f : Tg) (r : List P → Sl → Option Sl) : List P → Sl → Option Sl := fun xs sl => match xs with
  | x :: xs => match f (.p x) sl with
    | some sl1 => r xs sl1
    | none => none
  | [] => none
def tgT (f : List P → Sl → Option Sl) : Tg := fun d sl => match d with
  | .p (.tuple xs) => f xs sl
  | _ => none
section
variable {X : Cx} {E : XK}
theorem SV.set {K : PySem.W.Frag} {θ : List Addr} {H : Hp} {σ : L2.St} {sl : Sl} {i : Nat} {v : V} {d : D} (h : SV K θ H σ sl) (r : Dr K θ H v d) : SV K θ H (σ.set i (some v)) (sl.set i (some d)) := by
  refine ⟨by rw [List.length_set, List.length_set]; exact h.len, fun j d' e => ?_⟩
  by_cases hj : i = j
  · subst hj
    have hl : i < sl.length := by
      have := (List.getElem?_eq_some_iff.mp e).1
      rw [List.length_set] at this
      exact this
    rw [List.getElem?_set_self hl] at e
    cases e
    exact ⟨v, List.getElem?_set_self (by rw [← h.len]; exact hl), r⟩
  · rw [List.getElem?_set_ne hj] at e
    rw [List.getElem?_set_ne hj]
    exact h.at_ j d' e
theorem ZG.name (nd : X.N.Nodup) (i : Nat) {x : Str} {pos : Pos} (hi : X.N[i]? = some x := by rfl) (hx : Loc X.env.scope x := by first | exact .inl rfl | exact .inr rfl)
    (hf : X.fn x = true ∨ X.env.scope.names.lookup x = some .local := by first | exact .inl rfl | exact .inr rfl) : ZG X (.Name x pos) (tgN i) [i] :=
  ⟨_, pg_name nd hi hx hf, fun v d σ H θ sl sl' Q hs r e q => by
    cases e
    exact q _ (hs.set r) ⟨List.length_set, fun j hj => List.getElem?_set_ne (fun z => hj (by simp [z]))⟩⟩
theorem ZGs.nil : ZGs X [] tgsNil [] :=
  ⟨_, pgs_nil, fun vs xs σ H θ sl sl' Q hs r e q => by
    cases r with
    | nil => cases e; exact ⟨rfl, q σ hs ⟨rfl, fun _ _ => rfl⟩⟩
    | cons a b => cases e⟩
theorem ZGs.cons {e : Expr} {es : List Expr} {f : Tg} {r : List P → Sl → Option Sl} {ix jx : List Nat} (h : ZG X e f ix) (hr : ZGs X es r jx) (hs : (assignEach (e :: es) X.env).map (·.2) = assign e X.env :: (assignEach es X.env).map (·.2) := by rfl) :
    ZGs X (e :: es) (tgsCons f r) (ix ++ jx) := by
  obtain ⟨g, pg, q⟩ := h.run
  obtain ⟨gr, pr, qr⟩ := hr.run
  refine ⟨_, pgs_cons pg pr hs, fun vs xs σ H θ sl sl' Q hsv rr e k => ?_⟩
  cases rr with
  | nil => cases e
  | cons a b =>
    rename_i v vs d ds
    unfold tgsCons at e
    simp only at e
    cases e1 : f (.p d) sl with
    | none => rw [e1] at e; cases e
    | some sl1 =>
      rw [e1] at e
      refine ⟨v, vs, rfl, q v (.p d) σ H θ sl sl1 _ hsv a e1 fun σ1 h1 f1 => ?_⟩
      refine qr vs ds σ1 H θ sl1 sl' _ h1 b e fun σ2 h2 f2 => k σ2 h2 ⟨f2.1.trans f1.1, fun j hj => ?_⟩
      rw [List.mem_append, not_or] at hj
      rw [f2.2 j hj.2, f1.2 j hj.1]
theorem ZG.tup {es : List Expr} {k n : Nat} {pos : Pos} {f : List P → Sl → Option Sl} {ix : List Nat} (zx : X.calm = true) (h : ZGs X es f ix) (hlen : ∀ xs sl sl', f xs sl = some sl' → xs.length = n)
    (hn : (assignEach es X.env).length = n := by rfl) (hst : (assignEach es X.env).findIdx? (·.1) = none := by rfl) : ZG X (.Tuple es k pos) (tgT f) ix := by
  obtain ⟨g, pg, q⟩ := h.run
  refine ⟨_, pg_tup zx pg hn hst, fun v d σ H θ sl sl' Q hs r e kk => ?_⟩
  unfold tgT at e
  split at e
  · rename_i xs
    cases r with
    | tup k1 k2 => exact ⟨_, _, rfl, k1, by rw [k2.length]; exact hlen _ _ _ e, q _ xs σ H θ sl sl' Q hs k2 e kk⟩
  · cases e
theorem len_nil : ∀ xs sl sl', tgsNil xs sl = some sl' → xs.length = 0 := fun xs sl sl' h => by
  cases xs with
  | nil => rfl
  | cons x r => cases h
theorem len_cons {f : Tg} {r : List P → Sl → Option Sl} {n : Nat} (h : ∀ xs sl sl', r xs sl = some sl' → xs.length = n) : ∀ xs sl sl', tgsCons f r xs sl = some sl' → xs.length = n + 1 := fun xs sl sl' e => by
  cases xs with
  | nil => cases e
  | cons x xs =>
    unfold tgsCons at e
    simp only at e
    cases e1 : f (.p x) sl with
    | none => rw [e1] at e; cases e
    | some sl1 => rw [e1] at e; rw [List.length_cons, h _ _ _ e]
/-- (a, b), (a, b, c) of names -/
theorem ZG.two {a b : Expr} {f g : Tg} {i j : List Nat} {k : Nat} {pos : Pos} (zx : X.calm = true) (h : ZG X a f i) (h' : ZG X b g j) (hs : (assignEach [a, b] X.env).map (·.2) = assign a X.env :: (assignEach [b] X.env).map (·.2) := by rfl)
    (hs' : (assignEach [b] X.env).map (·.2) = assign b X.env :: (assignEach [] X.env).map (·.2) := by rfl)
    (hn : (assignEach [a, b] X.env).length = 2 := by rfl) (hst : (assignEach [a, b] X.env).findIdx? (·.1) = none := by rfl) : ZG X (.Tuple [a, b] k pos) (tgT (tgsCons f (tgsCons g tgsNil))) (i ++ (j ++ [])) :=
  ZG.tup zx (ZGs.cons h (ZGs.cons h' .nil hs') hs) (len_cons (len_cons len_nil)) hn hst
theorem ZG.three {a b c : Expr} {f g u : Tg} {i j m : List Nat} {k : Nat} {pos : Pos} (zx : X.calm = true) (h : ZG X a f i) (h' : ZG X b g j) (h'' : ZG X c u m) (hs : (assignEach [a, b, c] X.env).map (·.2) = assign a X.env :: (assignEach [b, c] X.env).map (·.2) := by rfl)
    (hs' : (assignEach [b, c] X.env).map (·.2) = assign b X.env :: (assignEach [c] X.env).map (·.2) := by rfl) (hs'' : (assignEach [c] X.env).map (·.2) = assign c X.env :: (assignEach [] X.env).map (·.2) := by rfl)
    (hn : (assignEach [a, b, c] X.env).length = 3 := by rfl) (hst : (assignEach [a, b, c] X.env).findIdx? (·.1) = none := by rfl) : ZG X (.Tuple [a, b, c] k pos) (tgT (tgsCons f (tgsCons g (tgsCons u tgsNil)))) (i ++ (j ++ (m ++ []))) :=
  ZG.tup zx (ZGs.cons h (ZGs.cons h' (ZGs.cons h'' .nil hs'') hs') hs) (len_cons (len_cons (len_cons len_nil))) hn hst
end

/-! ### statements -/
inductive OutS where
  | stuck
  | nx (sl : Sl) (M : Store)
  | rt (d : D) (M : Store)
  | exc (e : Ex) (M : Store)
abbrev SC := Sl → Store → OutS
section
variable (K : PySem.W.Frag) (mg : Str → Option Value) (E : XK)
def PostS (N : Ends) (θ : List Addr) (H : Hp) : OutS → Prop
  | .stuck => False
  | .nx sl M => ∀ σ' H' θ', Go θ θ' H H' → SV K θ' H' σ' sl → SR K θ' H' M → N.nx σ' H'
  | .rt d M => ∀ v H' θ', Go θ θ' H H' → SR K θ' H' M → Dr K θ' H' v d → N.rt v H'
  | .exc x M' => ∀ cls dd H' θ', Go θ θ' H H' → SR K θ' H' M' → ExOk K mg H' x cls dd → E cls dd H'
end
theorem PostS.go {K : PySem.W.Frag} {mg : Str → Option Value} {E : XK} {N : Ends} {θ θ1 : List Addr} {H H1 : Hp} {o : OutS} (g : Go θ θ1 H H1) (h : PostS K mg E N θ H o) : PostS K mg E N θ1 H1 o := by
  cases o with
  | stuck => exact h
  | nx a M' => exact fun b H' θ' g' s r => h b H' θ' (g.trans g') s r
  | rt a M' => exact fun b H' θ' g' s r => h b H' θ' (g.trans g') s r
  | exc x M' => exact fun c d H' θ' g' s r => h c d H' θ' (g.trans g') s r
/-- an expression's outcome, then a statement's -/
def Out.thn {α : Type} : Out α → (α → Store → OutS) → OutS
  | .ok a M, k => k a M
  | .stuck, _ => .stuck
  | .exc e M, _ => .exc e M
@[simp] theorem Out.thn_ok {α : Type} (a : α) (M : Store) (k : α → Store → OutS) : (Out.ok a M).thn k = k a M := id rfl
@[simp] theorem Out.thn_stuck {α : Type} (k : α → Store → OutS) : (Out.stuck : Out α).thn k = .stuck := id rfl
theorem PostS.thn {K : PySem.W.Frag} {mg : Str → Option Value} {E : XK} {α β : Type} {R : List Addr → Hp → β → α → Prop} {Q : β → Hp → Prop} {N : Ends} {θ : List Addr} {H : Hp} {o : Out α} {k : α → Store → OutS} (h : PostS K mg E N θ H (o.thn k))
    (f : ∀ a M1 b H1 θ1, Go θ θ1 H H1 → SR K θ1 H1 M1 → R θ1 H1 b a → PostS K mg E N θ1 H1 (k a M1) → Q b H1) : Post K mg E R Q θ H o := by
  cases o with
  | stuck => exact h
  | ok a M' => exact fun b H' θ' g s r => f a M' b H' θ' g s r (PostS.go g h)
  | exc x M' => exact h
def ZS (X : Cx) (E : XK) (st : Stmt) (c : SC) : Prop := ∃ t, PS X st t ∧ ∀ σ H θ sl M N, SV X.K θ H σ sl → SR X.K θ H M → PostS X.K X.mg E N θ H (c sl M) → t N σ H
def ZB (X : Cx) (E : XK) (sts : List Stmt) (c : SC) : Prop := ∃ t, PSs X sts t ∧ ∀ σ H θ sl M N, SV X.K θ H σ sl → SR X.K θ H M → PostS X.K X.mg E N θ H (c sl M) → t N σ H
def sskip : SC := fun sl M => .nx sl M
def OutS.seq : OutS → SC → OutS
  | .nx sl M, k => k sl M
  | .rt d M, _ => .rt d M
  | .exc e M, _ => .exc e M
  | .stuck, _ => .stuck
@[simp] theorem OutS.seq_nx (sl : Sl) (M : Store) (k : SC) : (OutS.nx sl M).seq k = k sl M := id rfl
@[simp] theorem OutS.seq_rt (d : D) (M : Store) (k : SC) : (OutS.rt d M).seq k = .rt d M := id rfl
@[simp] theorem OutS.seq_stuck (k : SC) : OutS.stuck.seq k = .stuck := id rfl
def sseq (a b : SC) : SC := fun sl M => (a sl M).seq b
def sset (i : Nat) (c : ZC) : SC := fun sl M => (c sl M).thn fun d M1 => .nx (sl.set i (some d)) M1
def sret (c : ZC) : SC := fun sl M => (c sl M).thn fun d M1 => .rt d M1
def sretN : SC := fun sl M => .rt (.p .none) M
def sexpr (c : ZC) : SC := fun sl M => (c sl M).thn fun _ M1 => .nx sl M1
def sif (t : ZCb) (a b : SC) : SC := fun sl M => (t sl M).thn fun k M1 => if k = true then a sl M1 else b sl M1
/-- target = e -/
def stg (f : Tg) (c : ZC) : SC := fun sl M => (c sl M).thn fun d M1 => match f d sl with
  | some sl1 => .nx sl1 M1
  | none => .stuck
/-- a, b = e1, e2 -/
def setAll : List Nat → List D → Sl → Option Sl
  | [], [], sl => some sl
  | i :: is, d :: ds, sl => setAll is ds (sl.set i (some d))
  | _, _, _ => none
def spar (is : List Nat) (c : ZCs) : SC := fun sl M => (c sl M).thn fun ds M1 => match setAll is ds sl with
  | some sl1 => .nx sl1 M1
  | none => .stuck
section
variable {X : Cx} {E : XK} {e a b : Expr} {st : Stmt} {rest body orelse : List Stmt} {pos pos' : Pos} {c d : SC} {ca cb : ZC} {ta : ZCb} {cs : ZCs} {tg : Expr} {f : Tg} {ix : List Nat}
theorem ZB.nil : ZB X E [] sskip := ⟨_, pss_nil, fun σ H θ sl M N hs hm h => h σ H θ .refl hs hm⟩
theorem ZB.cons (h : ZS X E st c) (hr : ZB X E rest d) : ZB X E (st :: rest) (sseq c d) := by
  obtain ⟨t, p, q⟩ := h
  obtain ⟨u, pr, qr⟩ := hr
  refine ⟨_, pss_cons p pr, fun σ H θ sl M N hs hm h => q σ H θ sl M _ hs hm ?_⟩
  unfold sseq at h
  cases e : c sl M with
  | stuck => rw [e] at h; exact h
  | nx sl1 M1 => rw [e] at h; exact fun σ' H' θ' g s r => qr σ' H' θ' sl1 M1 N s r (PostS.go g h)
  | rt d M1 => rw [e] at h; exact h
  | exc x M1 => rw [e] at h; exact h
theorem ZB.one (h : ZS X E st c) : ZB X E [st] c := by
  obtain ⟨t, p, q⟩ := h
  exact ⟨_, pss_one p, q⟩
theorem ZS.pass : ZS X E (.Pass pos) sskip := ⟨_, ps_pass, fun σ H θ sl M N hs hm h => h σ H θ .refl hs hm⟩
theorem ZS.doc {x j} : ZS X E (.Expr (.Constant (.str x) j pos') pos) sskip := ⟨_, ps_doc, fun σ H θ sl M N hs hm h => h σ H θ .refl hs hm⟩
theorem ZS.expr (he : ZE X E e ca) (hs : swapsWith e none pos.line X.env = pure false := by rfl) : ZS X E (.Expr e pos) (sexpr ca) := by
  obtain ⟨t, p, q⟩ := he
  exact ⟨_, ps_expr p hs, fun σ H θ sl M N hs hm h => q σ H θ sl M _ hs hm (PostS.thn h fun d M1 v H1 θ1 g1 m1 r1 h1 => h1 σ H1 θ1 .refl (hs.go g1) m1)⟩
theorem ZS.ret (he : ZE X E e ca) : ZS X E (.Return (some e) pos) (sret ca) := by
  obtain ⟨t, p, q⟩ := he
  exact ⟨_, ps_ret p, fun σ H θ sl M N hs hm h => q σ H θ sl M _ hs hm (PostS.thn h fun d M1 v H1 θ1 g1 m1 r1 h1 => h1 v H1 θ1 .refl m1 r1)⟩
theorem ZS.retN : ZS X E (.Return none pos) sretN := ⟨_, ps_retN, fun σ H θ sl M N hs hm h => h .non H θ .refl hm Fz.non⟩
theorem ZS.ife (hc : ZT X E e ta) (ha : ZB X E body c) (hb : ZB X E orelse d) : ZS X E (.If e body orelse pos) (sif ta c d) := by
  obtain ⟨t, p, q⟩ := hc
  obtain ⟨u, pa, qa⟩ := ha
  obtain ⟨w, pb, qb⟩ := hb
  refine ⟨_, ps_if p pa pb, fun σ H θ sl M N hs hm h => q σ H θ sl M _ hs hm (PostS.thn h fun k M1 k' H1 θ1 g1 m1 r1 h1 => ?_)⟩
  cases r1
  cases k with
  | true => exact (if_pos rfl).mpr (qa σ H1 θ1 sl M1 N (hs.go g1) m1 (by simpa using h1))
  | false => exact (if_neg Bool.false_ne_true).mpr (qb σ H1 θ1 sl M1 N (hs.go g1) m1 (by simpa using h1))
theorem ZS.set (nd : X.N.Nodup) (i : Nat) {x : Str} (he : ZE X E e ca) (hi : X.N[i]? = some x := by rfl) (hx : Loc X.env.scope x := by first | exact .inl rfl | exact .inr rfl) (hs : swapsWith e (some (.Name x pos')) pos.line X.env = pure false := by rfl)
    (hf : X.fn x = true ∨ X.env.scope.names.lookup x = some .local := by first | exact .inl rfl | exact .inr rfl) : ZS X E (.Assign [.Name x pos'] e pos) (sset i ca) := by
  obtain ⟨t, p, q⟩ := he
  exact ⟨_, ps_set nd hi hx p hs hf, fun σ H θ sl M N hs hm h => q σ H θ sl M _ hs hm (PostS.thn h fun d M1 v H1 θ1 g1 m1 r1 h1 => h1 _ H1 θ1 .refl ((hs.go g1).set r1) m1)⟩
theorem ZS.asg (he : ZE X E e ca) (hg : ZG X tg f ix) (hs : swapsWithSole [tg] e pos.line X.env = pure false := by rfl) (hw : swappedStores [tg] e X.env = pure none := by rfl)
    (h1 : (assignEach [tg] X.env).map (·.2) = [assign tg X.env] := by rfl) : ZS X E (.Assign [tg] e pos) (stg f ca) := by
  obtain ⟨t, p, q⟩ := he
  obtain ⟨g, pg, qg⟩ := hg.run
  refine ⟨_, ps_asg p pg hs hw h1, fun σ H θ sl M N hs hm h => q σ H θ sl M _ hs hm (PostS.thn h fun d M1 v H1 θ1 g1 m1 r1 h1 => ?_)⟩
  cases e1 : f d sl with
  | none => rw [e1] at h1; exact h1.elim
  | some sl1 =>
    rw [e1] at h1
    exact qg v d σ H1 θ1 sl sl1 _ (hs.go g1) r1 e1 fun σ' h' _ => h1 σ' H1 θ1 .refl h' m1
/-- a, b = e1, e2, local names -/
theorem ZS.par2 (zx : ZX X) (i j : Nat) {x y : Str} {px py pt : Pos} {kt k2 : Nat} {pt2 : Pos} (ha : ZA X E [a, b] cs) (hi : X.N[i]? = some x := by rfl) (hj : X.N[j]? = some y := by rfl) (hij : i ≠ j := by decide)
    (hx : X.env.scope.names.lookup x = some .local := by rfl) (hy : X.env.scope.names.lookup y = some .local := by rfl) (hw : swappedStores [.Tuple [.Name x px, .Name y py] kt pt] (.Tuple [a, b] k2 pt2) X.env = pure (some [x, y]) := by rfl)
    (hs : swapsWithSole [.Tuple [.Name x px, .Name y py] kt pt] (.Tuple [a, b] k2 pt2) pos.line X.env = pure false := by rfl) : ZS X E (.Assign [.Tuple [.Name x px, .Name y py] kt pt] (.Tuple [a, b] k2 pt2) pos) (spar [i, j] cs) := by
  obtain ⟨t, p, q⟩ := ha
  refine ⟨_, ps_par zx.calm zx.nd hi hj hij hx hy p hw hs, fun σ H θ sl M N hs hm h => q σ H θ sl M _ hs hm (PostS.thn h fun ds M1 vs H1 θ1 g1 m1 r1 h1 => ?_)⟩
  cases r1 with
  | nil => exact h1.elim
  | cons a1 r1 =>
    cases r1 with
    | nil => exact h1.elim
    | cons a2 r2 =>
      cases r2 with
      | cons _ _ => exact h1.elim
      | nil => exact ⟨_, _, rfl, h1 _ H1 θ1 .refl (((hs.go g1).set a1).set a2) m1⟩
/-! the same by a tuple that is made and taken apart -/
theorem ZS.parT {ts es : List Expr} {is : List Nat} {kt k2 n : Nat} {pt pt2 : Pos} (zx : ZX X) (ha : ZA X E es cs) (hg : ∃ g, PGs X ts g ∧ ∀ vs ds σ H θ sl sl' Q, SV X.K θ H σ sl → Drs X.K θ H vs ds → setAll is ds sl = some sl' → (∀ σ', SV X.K θ H σ' sl' → Q σ' H) → g vs σ H Q)
    (hl : is.length = n := by rfl) (hn : (assignEach ts X.env).length = n := by rfl) (hst : (assignEach ts X.env).findIdx? (·.1) = none := by rfl) (hsz : n ≤ 100 := by decide)
    (hs : swapsWithSole [.Tuple ts kt pt] (.Tuple es k2 pt2) pos.line X.env = pure false := by rfl) (hw : swappedStores [.Tuple ts kt pt] (.Tuple es k2 pt2) X.env = pure none := by rfl)
    (h1 : (assignEach [.Tuple ts kt pt] X.env).map (·.2) = [assign (.Tuple ts kt pt) X.env] := by rfl) : ZS X E (.Assign [.Tuple ts kt pt] (.Tuple es k2 pt2) pos) (spar is cs) := by
  obtain ⟨t, p, q⟩ := ha
  obtain ⟨g, pg, qg⟩ := hg
  refine ⟨_, ps_asg (pe_tup p) (pg_tup zx.calm pg hn hst) hs hw h1, fun σ H θ sl M N hs hm h => q σ H θ sl M _ hs hm (PostS.thn h fun ds M1 vs H1 θ1 g1 m1 r1 h1 => ?_)⟩
  cases e1 : setAll is ds sl with
  | none => rw [e1] at h1; exact h1.elim
  | some sl1 =>
    rw [e1] at h1
    have hlen : ds.length = n := by
      rw [← hl]
      clear h1 h q qg p pg
      have go : ∀ (is : List Nat) (ds : List D) (sl : Sl), setAll is ds sl = some sl1 → ds.length = is.length := by
        intro is
        induction is with
        | nil => intro ds sl e; cases ds with
          | nil => rfl
          | cons _ _ => cases e
        | cons i is ih => intro ds sl e; cases ds with
          | nil => cases e
          | cons d ds => rw [List.length_cons, List.length_cons, ih ds _ e]
      exact go is ds sl e1
    have vlen : vs.length = n := by rw [Paired.length r1]; exact hlen
    refine ⟨by rw [vlen, sizeLine_eq]; omega, fun ad had => ?_⟩
    have g2 := Go.out (u := .tup vs) m1 had
    refine ⟨ad, vs, rfl, SqT.new, vlen, qg vs ds σ _ θ1 sl sl1 _ ((hs.go g1).go g2) (Drs.go g2 r1) e1 fun σ' h' => h1 σ' _ θ1 g2 h' (m1.out had)⟩
theorem tn_nil : ∃ g, PGs X [] g ∧ ∀ vs ds σ H θ sl sl' Q, SV X.K θ H σ sl → Drs X.K θ H vs ds → setAll [] ds sl = some sl' → (∀ σ', SV X.K θ H σ' sl' → Q σ' H) → g vs σ H Q :=
  ⟨_, pgs_nil, fun vs ds σ H θ sl sl' Q hs r e q => by
    cases r with
    | nil => cases e; exact ⟨rfl, q σ hs⟩
    | cons _ _ => cases e⟩
theorem tn_cons {is : List Nat} {ts : List Expr} (nd : X.N.Nodup) (i : Nat) {x : Str} (h : ∃ g, PGs X ts g ∧ ∀ vs ds σ H θ sl sl' Q, SV X.K θ H σ sl → Drs X.K θ H vs ds → setAll is ds sl = some sl' → (∀ σ', SV X.K θ H σ' sl' → Q σ' H) → g vs σ H Q)
    (hi : X.N[i]? = some x := by rfl) (hx : Loc X.env.scope x := by first | exact .inl rfl | exact .inr rfl) (hf : X.fn x = true ∨ X.env.scope.names.lookup x = some .local := by first | exact .inl rfl | exact .inr rfl)
    (hs : (assignEach (.Name x pos :: ts) X.env).map (·.2) = assign (.Name x pos) X.env :: (assignEach ts X.env).map (·.2) := by rfl) :
    ∃ g, PGs X (.Name x pos :: ts) g ∧ ∀ vs ds σ H θ sl sl' Q, SV X.K θ H σ sl → Drs X.K θ H vs ds → setAll (i :: is) ds sl = some sl' → (∀ σ', SV X.K θ H σ' sl' → Q σ' H) → g vs σ H Q := by
  obtain ⟨g, pg, q⟩ := h
  refine ⟨_, pgs_cons (pg_name nd hi hx hf) pg hs, fun vs ds σ H θ sl sl' Q hsv r e k => ?_⟩
  cases r with
  | nil => cases e
  | cons a b => exact ⟨_, _, rfl, q _ _ _ H θ _ sl' Q (hsv.set a) b e k⟩
end
end Z

/-! Z: for, while, list comprehensions. -/
namespace Z
open PySem PySem.Spec PyProof.Rows L2

/-! ### for -/
def forP (f : Tg) (body : SC) : List D → SC
  | [], sl, M => .nx sl M
  | d :: ds, sl, M => match f d sl with
    | some sl1 => (body sl1 M).seq (forP f body ds)
    | none => .stuck
@[simp] theorem forP_nil (f : Tg) (body : SC) (sl : Sl) (M : Store) : forP f body [] sl M = .nx sl M := id rfl
def sfor (f : Tg) (ci : ZCs) (body : SC) : SC := fun sl M => (ci sl M).thn fun ds M1 => forP f body ds sl M1
section
variable {X : Cx} {E : XK} {tg iter : Expr} {body : List Stmt} {pos : Pos} {f : Tg} {ix : List Nat} {ci : ZCs} {c : SC}
theorem ZS.for_ (zx : ZX X) (hi : ZI X E tg iter ci) (hg : ZG X tg f ix) (hb : ZB X E body c) (hs : ∀ x, foldedSetIterable iter X.env x = pure x := by intro _; rfl) : ZS X E (.For tg iter body [] pos) (sfor f ci c) := by
  obtain ⟨wi, pi, qi⟩ := hi
  obtain ⟨g, pg, qg⟩ := hg.run
  obtain ⟨tb, pb, qb⟩ := hb
  refine ⟨_, ps_for zx.own zx.calm pi pg pb hs, fun σ H θ sl M N hs hm h => qi σ H θ sl M _ hs hm (PostS.thn h fun ds M1 J H1 θ1 g1 m1 w1 h1 => ?_)⟩
  refine ⟨fun i m σ H => ∃ θ sl M, Go θ1 θ H1 H ∧ SV X.K θ H σ sl ∧ SR X.K θ H M ∧ m = ds.length - i ∧ i ≤ ds.length ∧ PostS X.K X.mg E N θ H (forP f c (ds.drop i) sl M), ⟨_, θ1, sl, M1, .refl, hs.go g1, m1, rfl, Nat.zero_le _, h1⟩, ?_⟩
  rintro i m σ2 H2 ⟨θ2, sl2, M2, g2, s2, m2, rfl, hi, h2⟩
  by_cases hlt : i < ds.length
  · refine .inr ⟨w1.go i H2 θ2 hlt g2, fun σ' H' => ∃ θ' sl' M', Go θ1 θ' H1 H' ∧ SV X.K θ' H' σ' sl' ∧ SR X.K θ' H' M' ∧ PostS X.K X.mg E N θ' H' (forP f c (ds.drop (i + 1)) sl' M'), ?_, ?_⟩
    · rintro σ' H' ⟨θ', sl', M', a, b, c', d⟩
      exact ⟨ds.length - (i + 1), by omega, θ', sl', M', a, b, c', rfl, hlt, d⟩
    · intro x H3 y
      obtain ⟨d, ed, g3, m3, r3⟩ := w1.yld i H2 θ2 M2 x H3 hlt g2 m2 y
      have e0 : ds.drop i = d :: ds.drop (i + 1) := by
        rw [List.drop_eq_getElem_cons hlt]
        rw [List.getElem?_eq_getElem hlt] at ed
        rw [Option.some.inj ed]
      rw [e0] at h2
      unfold forP at h2
      cases e1 : f d sl2 with
      | none => rw [e1] at h2; exact h2.elim
      | some sl3 =>
        rw [e1] at h2
        simp only at h2
        refine qg x d σ2 H3 θ2 sl2 sl3 _ (s2.go g3) r3 e1 fun σ3 s3 _ => ?_
        refine qb σ3 H3 θ2 sl3 M2 _ s3 m3 ?_
        have h3 := PostS.go g3 h2
        cases e2 : c sl3 M2 with
        | stuck => rw [e2] at h3; exact h3
        | nx sl4 M4 => rw [e2] at h3; exact fun σ' H' θ' g s r => ⟨θ', sl4, M4, (g2.trans g3).trans g, s, r, PostS.go g h3⟩
        | rt d4 M4 => rw [e2] at h3; exact h3
        | exc x4 M4 => rw [e2] at h3; exact h3
  · have e : i = ds.length := by omega
    subst e
    refine .inl ⟨w1.stop _ H2 θ2 (Nat.le_refl _) g2, ?_⟩
    rw [List.drop_length] at h2
    exact h2 σ2 H2 θ2 .refl s2 m2
end

/-! ### while -/
def whileN (t : ZCb) (body : SC) : Nat → SC
  | 0, _, _ => .stuck
  | n + 1, sl, M => (t sl M).thn fun k M1 => if k = true then (body sl M1).seq (whileN t body n) else .nx sl M1
/-- a while of at most n turns -/
def swhile (n : Nat) (t : ZCb) (body : SC) : SC := whileN t body n
section
variable {X : Cx} {E : XK} {e : Expr} {body : List Stmt} {pos : Pos} {t : ZCb} {c : SC}
theorem ZS.while_ (zx : ZX X) (n : Nat) (ht : ZT X E e t) (hb : ZB X E body c) : ZS X E (.While e body [] pos) (swhile n t c) := by
  obtain ⟨tt, pt, qt⟩ := ht
  obtain ⟨tb, pb, qb⟩ := hb
  refine ⟨_, ps_while zx.own pt pb, fun σ H θ sl M N hs hm h => ?_⟩
  refine ⟨fun k σ H => ∃ θ sl M, SV X.K θ H σ sl ∧ SR X.K θ H M ∧ PostS X.K X.mg E N θ H (whileN t c k sl M), ⟨n, θ, sl, M, hs, hm, h⟩, ?_⟩
  rintro k σ1 H1 ⟨θ1, sl1, M1, s1, m1, h1⟩
  cases k with
  | zero => exact h1.elim
  | succ k =>
    unfold whileN at h1
    refine qt σ1 H1 θ1 sl1 M1 _ s1 m1 (PostS.thn h1 fun b M2 b' H2 θ2 g2 m2 r2 h2 => ?_)
    cases r2
    cases b with
    | false => exact (if_neg Bool.false_ne_true).mpr ((show PostS X.K X.mg E N θ2 H2 (.nx sl1 M2) from by simpa using h2) σ1 H2 θ2 .refl (s1.go g2) m2)
    | true =>
      refine (if_pos rfl).mpr ⟨fun σ' H' => ∃ θ' sl' M', SV X.K θ' H' σ' sl' ∧ SR X.K θ' H' M' ∧ PostS X.K X.mg E N θ' H' (whileN t c k sl' M'), ?_, ?_⟩
      · rintro σ' H' ⟨θ', sl', M', a, b, d⟩
        exact ⟨k, Nat.lt_succ_self k, θ', sl', M', a, b, d⟩
      · refine qb σ1 H2 θ2 sl1 M2 _ (s1.go g2) m2 ?_
        have h3 : PostS X.K X.mg E N θ2 H2 ((c sl1 M2).seq (whileN t c k)) := by simpa using h2
        cases e2 : c sl1 M2 with
        | stuck => rw [e2] at h3; exact h3
        | nx sl4 M4 => rw [e2] at h3; exact fun σ' H' θ' g s r => ⟨θ', sl4, M4, s, r, PostS.go g h3⟩
        | rt d4 M4 => rw [e2] at h3; exact h3
        | exc x4 M4 => rw [e2] at h3; exact h3
end

/-! ### list comprehensions -/
def noexc {α : Type} : Out α → Out α
  | .exc _ _ => .stuck
  | o => o
@[simp] theorem noexc_ok {α : Type} (a : α) (M : Store) : noexc (.ok a M) = .ok a M := id rfl
def wipeS (sl : Sl) : List Nat → Sl
  | [] => sl
  | v :: vs => (wipeS sl vs).set v none
/-- the items of a comprehension; sl: the slots, the block's own forgotten -/
def compP (f : Tg) (t : ZCb) (e : ZC) (sl : Sl) : List D → Store → Out (List D)
  | [], M => .ok [] M
  | d :: ds, M => match f d sl with
    | some sl1 => (noexc (t sl1 M)).bind fun k M1 => if k = true then (noexc (e sl1 M1)).bind fun y M2 => (compP f t e sl ds M2).bind fun ys M3 => .ok (y :: ys) M3 else compP f t e sl ds M1
    | none => .stuck
def ztyes : ZCb := fun _ M => .ok true M
/-- fin: frzl (nobody changes it) or mkLst -/
def zcomp (fin : List D → Store → Out D) (vs : List Nat) (ci : ZCs) (f : Tg) (t : ZCb) (e : ZC) : ZC := fun sl M => (ci sl M).bind fun ds M1 => (compP f t e (wipeS sl vs) ds M1).bind fin
/-- the heap without an address -/
def hid (H : Hp) (p : Addr) : Hp := fun b => if b = p then none else H b
theorem hid_ne {H : Hp} {p b : Addr} (h : b ≠ p) : hid H p b = H b := if_neg h
theorem hid_same {H : Hp} {p : Addr} : hid H p p = none := if_pos rfl
theorem upd_hid {H : Hp} {p : Addr} {u : HO} (h : H p = some u) : upd (hid H p) p u = H := by
  funext b
  by_cases e : b = p
  · subst e; rw [upd_same, h]
  · rw [upd_ne e, hid_ne e]
section
variable {K : PySem.W.Frag} {θ θ1 : List Addr} {H H1 : Hp} {p : Addr} {u : HO}
theorem keep_hid (h : H p = some u) (nf : ¬ Fro u) : Keep H (hid H p) := fun a w e f => by
  rw [hid_ne (fun z => by rw [z, h] at e; cases e; exact nf f)]; exact e
theorem SR.hid {M : Store} (s : SR K θ H M) (h : H p = some u) (nf : ¬ Fro u) (np : p ∉ θ) : SR K θ (Z.hid H p) M := by
  refine ⟨s.len, s.nd, fun i o a e1 e2 => (s.ob i o a e1 e2).carry (fun {v d} r => ?_) (keep_hid h nf) (hid_ne fun z => np (z ▸ List.mem_of_getElem? e2)), s.low⟩
  cases d with
  | p x => exact Fz.keep (keep_hid h nf) r
  | ref i => exact r
theorem Dr.hid {v : V} {d : D} (r : Dr K θ H v d) (h : H p = some u) (nf : ¬ Fro u) : Dr K θ (Z.hid H p) v d := by
  cases d with
  | p x => exact Fz.keep (keep_hid h nf) r
  | ref i => exact r
/-- behind what ran beside an object at p that the store does not know -/
theorem Go.hid {H4 : Hp} (g : Go θ θ1 (L2.upd H p u) H4) (hp : H p = none) : Go θ θ1 H (Z.hid H4 p) := by
  refine ⟨g.pre, fun a w e c => ?_, fun a m n => ?_⟩
  · have ne : a ≠ p := ne_of_none e hp
    rw [hid_ne ne]
    exact g.fr a w (by rw [upd_ne ne]; exact e) c
  · have q := g.fresh a m n
    by_cases ne : a = p
    · rw [ne]; exact hp
    · rw [upd_ne ne] at q; exact q
theorem Go.notin {H4 : Hp} (g : Go θ θ1 (L2.upd H p u) H4) (np : p ∉ θ) : p ∉ θ1 := fun m => by
  have q := g.fresh p m np
  rw [upd_same] at q; cases q
theorem Go.same {H4 : Hp} (g : Go θ θ1 (L2.upd H p u) H4) (np : p ∉ θ) : H4 p = some u := g.fr p u upd_same (.inl np)
end
theorem wipe_get : ∀ (vs : List Nat) (σ : L2.St) (j : Nat), (wipe σ vs)[j]? = if j ∈ vs then (if j < σ.length then some none else none) else σ[j]?
  | [], σ, j => by simp [wipe]
  | v :: vs, σ, j => by
    unfold wipe
    by_cases h : v = j
    · subst h
      by_cases hl : v < σ.length
      · rw [List.getElem?_set_self (by rw [wipe_length]; exact hl)]
        simp [hl]
      · rw [List.getElem?_eq_none (by rw [List.length_set, wipe_length]; omega)]
        simp [hl]
    · rw [List.getElem?_set_ne h, wipe_get vs σ j]
      have : (j = v) = False := by simp [Ne.symm h]
      simp [this]
theorem wipe_same {σ σ' : L2.St} {vs ix : List Nat} (hl : σ'.length = σ.length) (h : ∀ j, j ∉ ix → σ'[j]? = (wipe σ vs)[j]?) (hsub : ∀ j ∈ ix, j ∈ vs) : wipe σ' vs = wipe σ vs := by
  apply List.ext_getElem?
  intro j
  rw [wipe_get, wipe_get, hl]
  by_cases hj : j ∈ vs
  · rw [if_pos hj, if_pos hj]
  · rw [if_neg hj, if_neg hj, h j (fun z => hj (hsub j z)), wipe_get, if_neg hj]
theorem SV.wipe {K : PySem.W.Frag} {θ : List Addr} {H : Hp} {σ : L2.St} {sl : Sl} (h : SV K θ H σ sl) : ∀ vs : List Nat, SV K θ H (L2.wipe σ vs) (wipeS sl vs)
  | [] => h
  | v :: vs => by
    have ih := SV.wipe h vs
    unfold L2.wipe wipeS
    refine ⟨by rw [List.length_set, List.length_set]; exact ih.len, fun j d e => ?_⟩
    by_cases hj : v = j
    · subst hj
      by_cases hl : v < (wipeS sl vs).length
      · rw [List.getElem?_set_self hl] at e; cases e
      · rw [List.getElem?_eq_none (by rw [List.length_set]; omega)] at e; cases e
    · rw [List.getElem?_set_ne hj] at e
      rw [List.getElem?_set_ne hj]
      exact ih.at_ j d e
def gZ (K : PySem.W.Frag) (f : Tg) (ix : List Nat) : TG := fun v σ H Q => ∃ d θ sl sl', SV K θ H σ sl ∧ Dr K θ H v d ∧ f d sl = some sl' ∧ ∀ σ', SV K θ H σ' sl' → But ix σ σ' → Q σ' H
theorem ZG.can {X : Cx} {tg : Expr} {f : Tg} {ix : List Nat} (h : ZG X tg f ix) : PG X tg (gZ X.K f ix) := by
  obtain ⟨g, p, q⟩ := h.run
  exact ⟨fun pins s σ H v u Q I r ⟨d, θ, sl, sl', a, b, c, w⟩ => p.run pins s σ H v u Q I r (q v d σ H θ sl sl' Q a b c w)⟩
def ZTs (X : Cx) (E : XK) (ifs : List Expr) (t : ZCb) : Prop := PTs X ifs (tZb X.K X.mg E t)
theorem ZTs.nil {X : Cx} {E : XK} : ZTs X E [] ztyes := by
  refine ⟨fun pins s σ H Q I h => pts_nil.run pins s σ H Q I ?_⟩
  obtain ⟨θ, sl, M, a, b, c⟩ := h
  exact Post.here (show Post X.K X.mg E EqR Q θ H (.ok true M) from c) b rfl
theorem ZTs.one {X : Cx} {E : XK} {e : Expr} {t : ZCb} (h : ZT X E e t) : ZTs X E [e] t := pts_one h.can
theorem compP_noexc {f : Tg} {t : ZCb} {e : ZC} {sl : Sl} {x : Ex} {M' : Store} : ∀ {ds : List D} {M : Store}, compP f t e sl ds M = .exc x M' → False
  | [], M, h => by cases h
  | d :: ds, M, h => by
    unfold compP at h
    cases e1 : f d sl with
    | none => rw [e1] at h; cases h
    | some sl1 =>
      rw [e1] at h
      simp only at h
      cases e2 : t sl1 M with
      | stuck => rw [e2] at h; cases h
      | exc _ _ => rw [e2] at h; cases h
      | ok k M1 =>
        rw [e2] at h
        simp only [noexc_ok, Out.bind_ok] at h
        cases k with
        | false => exact compP_noexc (by simpa using h)
        | true =>
          simp only [if_true] at h
          cases e3 : e sl1 M1 with
          | stuck => rw [e3] at h; cases h
          | exc _ _ => rw [e3] at h; cases h
          | ok y M2 =>
            rw [e3] at h
            simp only [noexc_ok, Out.bind_ok] at h
            cases e4 : compP f t e sl ds M2 with
            | stuck => rw [e4] at h; cases h
            | exc _ _ => exact compP_noexc e4
            | ok _ _ => rw [e4] at h; cases h
/-- what a comprehension's rule asks, from its outcome -/
theorem comp_ok {X : Cx} {E : XK} {fin : List D → Store → Out D} {vs ix : List Nat} {ci : ZCs} {f : Tg} {t : ZCb} {e : ZC} {wi : TI} {Qf : VK}
    (qi : ∀ σ H θ sl M R, SV X.K θ H σ sl → SR X.K θ H M → Post X.K X.mg E (WalkR X.K) R θ H (ci sl M) → wi σ H R) (hsub : ∀ j ∈ ix, j ∈ vs)
    (hsz : ∀ ds M, fin ds M ≠ .stuck → ds.length ≤ sizeLine)
    {σ : L2.St} {H : Hp} {θ : List Addr} {sl : Sl} {M : Store} {Q : VK}
    (hend : ∀ (θ : List Addr) (H : Hp) (M : Store) (acc : List V) (ds : List D) (p : Addr), SR X.K θ H M → H p = none → Drs X.K θ H acc ds → Post X.K X.mg E (Dr X.K) Q θ H (fin ds M) → Qf (.ref p) (upd H p (.lst acc)))
    (hs : SV X.K θ H σ sl) (hm : SR X.K θ H M) (h : Post X.K X.mg E (Dr X.K) Q θ H (zcomp fin vs ci f t e sl M)) :
    tLc wi (gZ X.K f ix) (tZb X.K X.mg E0 t) (tZ X.K X.mg E0 e) vs σ H Qf := by
  refine qi σ H θ sl M _ hs hm (Post.bind h fun ds M1 J H1 θ1 g1 m1 w1 h1 => ?_)
  intro p hp
  refine ⟨fun i m H => ∃ Hv θ M acc ys, H = upd Hv p (.lst acc) ∧ Hv p = none ∧ Go θ1 θ H1 Hv ∧ SR X.K θ Hv M ∧ Drs X.K θ Hv acc ys ∧ m = ds.length - i ∧ i ≤ ds.length ∧
      Post X.K X.mg E (Dr X.K) Q θ Hv ((compP f t e (wipeS sl vs) (ds.drop i) M).bind fun zs M' => fin (ys ++ zs) M'),
    ⟨_, H1, θ1, M1, [], [], rfl, hp, .refl, m1, .nil, rfl, Nat.zero_le _, h1⟩, ?_⟩
  rintro i m H2 ⟨Hv, θ2, M2, acc, ys, rfl, hp2, g2, m2, r2, rfl, hi, h2⟩
  have np : p ∉ θ2 := fun z => m2.apart hp2 p z rfl
  have gB : Go θ2 θ2 Hv (upd Hv p (.lst acc)) := Go.out m2 hp2
  have mB : SR X.K θ2 (upd Hv p (.lst acc)) M2 := m2.out hp2
  by_cases hlt : i < ds.length
  · refine .inr ⟨w1.go i _ θ2 hlt (g2.trans gB), fun H' => ∃ Hv θ M acc ys, H' = upd Hv p (.lst acc) ∧ Hv p = none ∧ Go θ1 θ H1 Hv ∧ SR X.K θ Hv M ∧ Drs X.K θ Hv acc ys ∧
        Post X.K X.mg E (Dr X.K) Q θ Hv ((compP f t e (wipeS sl vs) (ds.drop (i + 1)) M).bind fun zs M' => fin (ys ++ zs) M'), ?_, ?_⟩
    · rintro H' ⟨Hv', θ', M', acc', ys', a1, a2, a3, a4, a5, a6⟩
      exact ⟨ds.length - (i + 1), by omega, Hv', θ', M', acc', ys', a1, a2, a3, a4, a5, rfl, hlt, a6⟩
    · intro x H3 y
      obtain ⟨d, ed, g3, m3, r3⟩ := w1.yld i _ θ2 M2 x H3 hlt (g2.trans gB) mB y
      have e0 : ds.drop i = d :: ds.drop (i + 1) := by
        rw [List.drop_eq_getElem_cons hlt]
        rw [List.getElem?_eq_getElem hlt] at ed
        rw [Option.some.inj ed]
      rw [e0] at h2
      unfold compP at h2
      cases e1 : f d (wipeS sl vs) with
      | none => rw [e1] at h2; exact h2.elim
      | some sl3 =>
        rw [e1] at h2
        simp only at h2
        have sB : SV X.K θ2 H3 (wipe σ vs) (wipeS sl vs) := ((((hs.go g1).go g2).go gB).go g3).wipe vs
        refine ⟨d, θ2, wipeS sl vs, sl3, sB, r3, e1, fun σ3 s3 f3 => ⟨?_, ?_⟩⟩
        · exact wipe_same (f3.1.trans (wipe_length σ vs)) f3.2 hsub
        · obtain ⟨Hv3, e3, hp3, g3', m3'⟩ : ∃ Hv3, H3 = upd Hv3 p (.lst acc) ∧ Hv3 p = none ∧ Go θ2 θ2 Hv Hv3 ∧ SR X.K θ2 Hv3 M2 :=
            ⟨hid H3 p, (upd_hid (g3.same np)).symm, hid_same, g3.hid hp2, m3.hid (g3.same np) (fun z => z) np⟩
          subst e3
          refine ⟨θ2, sl3, M2, s3, m3, ?_⟩
          cases et : t sl3 M2 with
          | stuck => rw [et] at h2; exact h2
          | exc x M4 => rw [et] at h2; exact (show False from h2).elim
          | ok k M4 =>
            rw [et] at h2
            simp only [noexc_ok, Out.bind_ok] at h2
            intro b H4 θ4 g4 m4 rb
            cases rb
            obtain ⟨Hv4, e4, hp4, g4', m4', np4⟩ : ∃ Hv4, H4 = upd Hv4 p (.lst acc) ∧ Hv4 p = none ∧ Go θ2 θ4 Hv3 Hv4 ∧ SR X.K θ4 Hv4 M4 ∧ p ∉ θ4 :=
              ⟨hid H4 p, (upd_hid (g4.same np)).symm, hid_same, g4.hid hp3, m4.hid (g4.same np) (fun z => z) (g4.notin np), g4.notin np⟩
            subst e4
            have r4 : Drs X.K θ4 Hv4 acc ys := Drs.go (g3'.trans g4') r2
            have h4 := Post.go (g3'.trans g4') h2
            cases k with
            | false =>
              exact (if_neg Bool.false_ne_true).mpr ⟨Hv4, θ4, M4, acc, ys, rfl, hp4, (g2.trans g3').trans g4', m4', r4, by simpa using h4⟩
            | true =>
              have h4 : Post X.K X.mg E (Dr X.K) Q θ4 Hv4 (((noexc (e sl3 M4)).bind fun y M2 => (compP f t e (wipeS sl vs) (ds.drop (i + 1)) M2).bind fun ys M3 => .ok (y :: ys) M3).bind fun zs M' => fin (ys ++ zs) M') := by simpa using h4
              refine (if_pos rfl).mpr ⟨θ4, sl3, M4, s3.go g4, m4, ?_⟩
              cases ee : e sl3 M4 with
              | stuck => rw [ee] at h4; exact h4
              | exc x M5 => rw [ee] at h4; exact (show False from h4).elim
              | ok yd M5 =>
                rw [ee] at h4
                simp only [noexc_ok, Out.bind_ok] at h4
                intro v H5 θ5 g5 m5 r5
                obtain ⟨Hv5, e5, hp5, g5', m5'⟩ : ∃ Hv5, H5 = upd Hv5 p (.lst acc) ∧ Hv5 p = none ∧ Go θ4 θ5 Hv4 Hv5 ∧ SR X.K θ5 Hv5 M5 :=
                  ⟨hid H5 p, (upd_hid (g5.same np4)).symm, hid_same, g5.hid hp4, m5.hid (g5.same np4) (fun z => z) (g5.notin np4)⟩
                subst e5
                have r5' : Dr X.K θ5 Hv5 v yd := by
                  have z := r5.hid (p := p) (u := .lst acc) upd_same (fun z => z)
                  have ez : hid (upd Hv5 p (.lst acc)) p = Hv5 := by
                    funext b
                    by_cases eb : b = p
                    · rw [eb, hid_same, hp5]
                    · rw [hid_ne eb, upd_ne eb]
                  rw [ez] at z
                  exact z
                have h5 := Post.go g5' h4
                have eo : ∀ o : Out (List D), ((o.bind fun ys M3 => .ok (yd :: ys) M3).bind fun zs M' => fin (ys ++ zs) M') = o.bind fun zs M' => fin ((ys ++ [yd]) ++ zs) M' := fun o => by
                  cases o <;> simp
                rw [eo] at h5
                have hlen : acc.length < sizeLine := by
                  rw [Paired.length r2]
                  cases ec : compP f t e (wipeS sl vs) (ds.drop (i + 1)) M5 with
                  | stuck => rw [ec] at h5; exact (show False from h5).elim
                  | exc x M6 => exact (compP_noexc ec).elim
                  | ok zs M6 =>
                    rw [ec] at h5
                    have := hsz ((ys ++ [yd]) ++ zs) M6 fun z => by
                      rw [show ((Out.ok zs M6).bind fun zs M' => fin ((ys ++ [yd]) ++ zs) M') = fin ((ys ++ [yd]) ++ zs) M6 from rfl, z] at h5
                      exact h5
                    rw [List.length_append, List.length_append, List.length_singleton] at this
                    omega
                refine ⟨acc, upd_same, hlen, Hv5, θ5, M5, acc ++ [v], ys ++ [yd], by rw [upd_upd], hp5, ((g2.trans g3').trans g4').trans g5', m5', paired_append (Drs.go g5' r4) (.cons r5' .nil), h5⟩
  · have ei : i = ds.length := by omega
    subst ei
    refine .inl ⟨w1.stop _ _ θ2 (Nat.le_refl _) (g2.trans gB), ?_⟩
    rw [List.drop_length] at h2
    have h3 : Post X.K X.mg E (Dr X.K) Q θ2 Hv (fin ys M2) := by simpa [compP] using h2
    exact hend θ2 Hv M2 acc ys p m2 hp2 r2 h3
section
variable {X : Cx} {E : XK} {elt tg iter : Expr} {ifs : List Expr} {scope : Scope} {own : List (Str × Nat)} {pos : Pos} {ix : List Nat} {ci : ZCs} {f : Tg} {t : ZCb} {e : ZC}
theorem frzl_sz {ds : List D} {M : Store} (h : frzl ds M ≠ .stuck) : ds.length ≤ sizeLine := by
  unfold frzl at h
  cases q : pures ds with
  | none => rw [q] at h; exact absurd rfl h
  | some zs =>
    rw [q] at h
    simp only at h
    by_cases l : zs.length ≤ sizeLine
    · rw [pures_eq q, List.length_map]; exact l
    · rw [if_neg l] at h; exact absurd rfl h
theorem mkLst_sz {ds : List D} {M : Store} (h : mkLst ds M ≠ .stuck) : ds.length ≤ sizeLine := by
  unfold mkLst at h
  by_cases l : ds.length ≤ sizeLine
  · exact l
  · rw [if_neg l] at h; exact absurd rfl h
/-- the new list is handed on, or frozen -/
def OrF (Q : VK) : VK := fun v H' => FrzQ Q v H' ∨ Q v H'
structure Fin (X : Cx) (E : XK) (fin : List D → Store → Out D) : Prop where
  sz : ∀ ds M, fin ds M ≠ .stuck → ds.length ≤ sizeLine
  fi : ∀ (θ : List Addr) (H : Hp) (M : Store) (acc : List V) (ds : List D) (Q : VK) (p : Addr), SR X.K θ H M → H p = none → Drs X.K θ H acc ds → Post X.K X.mg E (Dr X.K) Q θ H (fin ds M) → OrF Q (.ref p) (upd H p (.lst acc))
theorem fin_f : Fin X E frzl := ⟨fun _ _ => frzl_sz, fun θ H M acc ds Q p m hp r h => .inl ((frzl_ok h m r).2 p hp)⟩
theorem fin_m : Fin X E mkLst := ⟨fun _ _ => mkLst_sz, fun θ H M acc ds Q p m hp r h => by
  unfold mkLst at h
  by_cases l : ds.length ≤ sizeLine
  · rw [if_pos l] at h; exact .inr (new_lst h m r hp)
  · rw [if_neg l] at h; exact h.elim⟩
theorem pe_orfrz {e : Expr} {t : TE} (h : PE X e t) : PE X e (fun σ H Q => t σ H (OrF Q)) :=
  ⟨fun pins s σ H Q I w => thn (h.run pins s σ H _ I w) fun u s1 ⟨v, H', I', r, q⟩ => by
    rcases q with q | q
    · exact ep_frz ⟨v, H', I', r, q⟩
    · exact ⟨v, H', I', r, q⟩⟩
theorem ZE.comp {fin : List D → Store → Out D} (F : Fin X E fin)
    (zx : ZX X) (hi : ZI X E tg iter ci) (ok : BlkOk X.N X.env.scope scope own) (hsub : ∀ j ∈ ix, j ∈ own.map (·.2))
    (hg : ∀ (s : Shared) (H : Hp) (C : Addr) (cl : List (Str × Addr)) (fp : List Addr), ZG (X.blk s H scope (compEnvC scope cl C X.env) fp) tg f ix) (ht : ∀ (s : Shared) (H : Hp) (C : Addr) (cl : List (Str × Addr)) (fp : List Addr), ZTs (X.blk s H scope (compEnvC scope cl C X.env) fp) E0 ifs t)
    (he : ∀ (s : Shared) (H : Hp) (C : Addr) (cl : List (Str × Addr)) (fp : List Addr), ZE (X.blk s H scope (compEnvC scope cl C X.env) fp) E0 elt e) (hs : ∀ x, foldedSetIterable iter X.env x = pure x := by intro _; rfl) :
    ZE X E (.ListComp elt [⟨tg, iter, ifs, 0⟩] scope pos) (zcomp fin (own.map (·.2)) ci f t e) := by
  obtain ⟨wi, pi, qi⟩ := hi
  have p := pe_orfrz (pe_lc (pos := pos) (g := gZ X.K f ix) (tt := tZb X.K X.mg E0 t) (te := tZ X.K X.mg E0 e) zx.calm zx.nd pi ok (fun s H C cl fp => (hg s H C cl fp).can) (fun s H C cl fp => ht s H C cl fp) (fun s H C cl fp => (he s H C cl fp).can) hs)
  exact ⟨_, p, fun σ H θ sl M Q hs hm h => comp_ok qi hsub F.sz (fun θ H M acc ds p m hp r h => F.fi θ H M acc ds Q p m hp r h) hs hm h⟩
/-- y = [..] -/
theorem ZS.comp {fin : List D → Store → Out D} {i : Nat} {y : Str} {py spos : Pos} (F : Fin X E fin)
    (zx : ZX X) (hi : ZI X E tg iter ci) (ok : BlkOk X.N X.env.scope scope own) (hsub : ∀ j ∈ ix, j ∈ own.map (·.2)) (hy : X.N[i]? = some y) (hyl : X.env.scope.names.lookup y = some .local)
    (hsw : swapsWith (.ListComp elt [⟨tg, iter, ifs, 0⟩] scope pos) (some (.Name y py)) spos.line X.env = pure true)
    (hg : ∀ (s : Shared) (H : Hp) (C : Addr) (cl : List (Str × Addr)) (fp : List Addr), ZG (X.blk s H scope (compEnvC scope cl C X.env) fp) tg f ix) (ht : ∀ (s : Shared) (H : Hp) (C : Addr) (cl : List (Str × Addr)) (fp : List Addr), ZTs (X.blk s H scope (compEnvC scope cl C X.env) fp) E0 ifs t)
    (he : ∀ (s : Shared) (H : Hp) (C : Addr) (cl : List (Str × Addr)) (fp : List Addr), ZE (X.blk s H scope (compEnvC scope cl C X.env) fp) E0 elt e) (hs : ∀ x, foldedSetIterable iter X.env x = pure x := by intro _; rfl) :
    ZS X E (.Assign [.Name y py] (.ListComp elt [⟨tg, iter, ifs, 0⟩] scope pos) spos) (sset i (zcomp fin (own.map (·.2)) ci f t e)) := by
  obtain ⟨wi, pi, qi⟩ := hi
  have p := ps_setLc (g := gZ X.K f ix) (tt := tZb X.K X.mg E0 t) (te := tZ X.K X.mg E0 e) zx.calm zx.nd hy hyl hsw pi ok (fun s H C cl fp => (hg s H C cl fp).can) (fun s H C cl fp => ht s H C cl fp) (fun s H C cl fp => (he s H C cl fp).can) hs
  refine ⟨fun N σ H => tLc wi (gZ X.K f ix) (tZb X.K X.mg E0 t) (tZ X.K X.mg E0 e) (own.map (·.2)) σ H fun v H' => N.nx (σ.set i (some v)) H' ∨ ∃ a xs, H' a = some (.lst xs) ∧ ∀ o, N.nx (σ.set i (some v)) (upd H' a (.frz o (.lst xs))), ⟨fun pins s σ H N I w => ?_⟩, fun σ H θ sl M N hs hm h => ?_⟩
  · refine thn (p.run pins s σ H { N with nx := fun σ' H' => N.nx σ' H' ∨ ∃ a xs, H' a = some (.lst xs) ∧ ∀ o, N.nx σ' (upd H' a (.frz o (.lst xs))) } I w) fun fl s' hq => ?_
    cases fl with
    | next =>
      obtain ⟨σ', H', I', q⟩ := hq
      rcases q with q | ⟨a, xs, e1, q⟩
      · exact ⟨σ', H', I', q⟩
      · obtain ⟨o, I2⟩ := I'.lock e1 trivial
        exact ⟨σ', _, I2, q o⟩
    | brk => exact hq
    | cont => exact hq
    | ret v => exact hq
  · refine comp_ok (E := E) (fin := fin) (Q := fun v H' => N.nx (σ.set i (some v)) H') qi hsub F.sz (fun θ H M acc ds p m hp r h => ?_) hs hm (PostS.thn h fun d M1 v H1 θ1 g1 m1 r1 h1 => h1 _ H1 θ1 .refl ((hs.go g1).set r1) m1)
    rcases F.fi θ H M acc ds _ p m hp r h with ⟨a, xs, e1, e2, q⟩ | q
    · cases e1
      exact .inr ⟨_, xs, e2, q⟩
    · exact .inl q
end
end Z

/-! Z: defs, their calls, the law's end. -/
namespace Z
open PySem PySem.Spec PyProof.Rows L2

abbrev Fn := List D → Store → Out D
/-- what was made in a call and is not handed back is forgotten -/
def gc (n : Nat) : Out D → Out D
  | .ok (.p x) M => .ok (.p x) (M.take n)
  | .ok (.ref i) M => if i < n then .ok (.ref i) (M.take n) else match M[i]? with
    | some ob => if ob.low n = true then .ok (.ref n) (M.take n ++ [ob]) else .ok (.ref i) M
    | none => .stuck
  | .exc e M => .exc e (M.take n)
  | .stuck => .stuck
def runB (n : Nat) (c : SC) : Fn := fun ds M => match c (ds.map some ++ List.replicate (n - ds.length) none) M with
  | .nx _ M' => .ok (.p .none) M'
  | .rt d M' => .ok d M'
  | .exc e M' => .exc e M'
  | .stuck => .stuck
/-- a call that hands n -/
def zfc (n : Nat) (F : Fn) : Fn := fun ds M => if ds.length = n then F ds M else .stuck
/-- a def of n slots -/
def fnB (n : Nat) (c : SC) : Fn := fun ds M => gc M.length (runB n c ds M)
def spZ (K : PySem.W.Frag) (mg : Str → Option Value) (F : Fn) (n : Nat) : Sp := fun vs H Q E => ∃ θ ds M, vs.length = n ∧ SR K θ H M ∧ Drs K θ H vs ds ∧ Post K mg E (Dr K) Q θ H (F ds M)
/-- a def at f keeps its promise, where no repr runs -/
structure FnG (P : Program) (w : World) (K : PySem.W.Frag) (mg : Str → Option Value) (base : Heap) (k : Nat) (f : Addr) (fd : FuncData) (ps : List Str) (sp : Sp) : Prop where
  len : ∀ vs H Q E, sp vs H Q E → vs.length = ps.length
  run : ∀ (A : Around) (outer : List Env) (s : Shared) (H : Hp) (args : Args) (us : List Value) (vs : List V) (Q : VK) (E : XK), Room k A → A.guards = some [] → Env0 P w K mg base A outer s H → BindsTo s fd args (ps.zip us) → Vals vs us → sp vs H Q E →
    codeAny (model P w) A (.call (.ref f) args) (CR (CX P w) outer P w H s Q E) s
section
variable {K : PySem.W.Frag} {mg : Str → Option Value} {E : XK} {θ : List Addr} {H : Hp} {M : Store} {Q : VK}
theorem Go.back {θ' : List Addr} {H' : Hp} (g : Go θ θ' H H') {n : Nat} (hn : θ.length = n) : θ'.take n = θ ∧ Go θ θ H H' := by
  obtain ⟨t, rfl⟩ := g.pre
  refine ⟨by rw [← hn]; exact List.take_left, List.prefix_refl _, fun a u h c => g.fr a u h c, fun a m n => absurd m n⟩
theorem Post.gc {o : Out D} (h : Post K mg E (Dr K) Q θ H (Z.gc M.length o)) (s : SR K θ H M) : Post K mg E (Dr K) Q θ H o := by
  cases o with
  | stuck => exact h
  | exc x M' =>
    intro cls dd H' θ' g s' r
    obtain ⟨e, g2⟩ := g.back s.len
    refine h cls dd H' θ g2 ?_ r
    have c := s'.cut M.length
    rw [e] at c
    exact c
  | ok d M' =>
    intro v H' θ' g s' r
    obtain ⟨e, g2⟩ := g.back s.len
    have c := s'.cut M.length
    rw [e] at c
    cases d with
    | p x => exact h v H' θ g2 c r
    | ref i =>
      unfold Z.gc at h
      simp only at h
      by_cases hi : i < M.length
      · rw [if_pos hi] at h
        refine h v H' θ g2 c ?_
        obtain ⟨a, e1, e2⟩ := r
        rw [← e]
        exact ⟨a, by rw [List.getElem?_take, if_pos hi]; exact e1, e2⟩
      · rw [if_neg hi] at h
        cases q : M'[i]? with
        | none => rw [q] at h; exact h.elim
        | some ob =>
          rw [q] at h
          simp only at h
          by_cases lo : ob.low M.length = true
          · rw [if_pos lo] at h
            obtain ⟨a, e1, rfl⟩ := r
            have na : a ∉ θ := fun m => by
              obtain ⟨j, hj⟩ := List.getElem?_of_mem m
              have hjl := (List.getElem?_eq_some_iff.mp hj).1
              have e3 := g.at hj
              obtain ⟨l1, r1⟩ := List.getElem?_eq_some_iff.mp e1
              obtain ⟨l2, r2⟩ := List.getElem?_eq_some_iff.mp e3
              have := (List.getElem_inj s'.nd).mp (r1.trans r2.symm)
              rw [s.len] at hjl
              omega
            have hn : H a = none := g.fresh a (List.mem_of_getElem? e1) na
            refine h (.ref a) H' (θ ++ [a]) ⟨List.prefix_append _ _, fun b u eb c' => g2.fr b u eb c', fun b m nb => ?_⟩ ?_ ?_
            · rcases List.mem_append.mp m with m | m
              · exact absurd m nb
              · rw [List.mem_singleton.mp m]; exact hn
            · have ok : ObOk K θ H' a ob := by
                have z := (s'.ob i ob a q e1).cut lo
                rw [e] at z
                exact z
              refine ⟨by rw [List.length_append, List.length_append, c.len]; rfl, ?_, fun j o b e2 e3 => ?_, fun j o e2 => ?_⟩
              · rw [List.nodup_append]
                exact ⟨c.nd, by simp, fun x hx y hy => by rw [List.mem_singleton.mp hy]; exact fun z => na (z ▸ hx)⟩
              · have up : ∀ {v : V} {d : D}, Dr K θ H' v d → Dr K (θ ++ [a]) H' v d := fun {v d} r => by
                  cases d with
                  | p x => exact r
                  | ref j =>
                    obtain ⟨y, e4, e5⟩ := r
                    exact ⟨y, by rw [List.getElem?_append_left (List.getElem?_eq_some_iff.mp e4).1]; exact e4, e5⟩
                by_cases hj : j < θ.length
                · rw [List.getElem?_append_left (by rw [← c.len]; exact hj)] at e2
                  rw [List.getElem?_append_left hj] at e3
                  exact (c.ob j o b e2 e3).carry up (fun _ _ h _ => h) rfl
                · have hj' : j = θ.length := by
                    have := (List.getElem?_eq_some_iff.mp e3).1
                    rw [List.length_append] at this
                    simp at this
                    omega
                  subst hj'
                  rw [List.getElem?_append_right (by rw [c.len]; exact Nat.le_refl _), c.len, Nat.sub_self] at e2
                  rw [List.getElem?_append_right (Nat.le_refl _), Nat.sub_self] at e3
                  cases e2; cases e3
                  exact ok.carry up (fun _ _ h _ => h) rfl
              · by_cases hj : j < (M'.take M.length).length
                · rw [List.getElem?_append_left hj] at e2
                  exact c.low j o e2
                · have hl : (M'.take M.length).length = M.length := by rw [← c.len, s.len]
                  have hj' : j = M.length := by
                    have := (List.getElem?_eq_some_iff.mp e2).1
                    rw [List.length_append, hl] at this
                    simp at this
                    omega
                  subst hj'
                  rw [List.getElem?_append_right (by rw [hl]; exact Nat.le_refl _), hl, Nat.sub_self] at e2
                  cases e2
                  exact lo
            · exact ⟨a, by rw [← s.len, List.getElem?_append_right (Nat.le_refl _), Nat.sub_self]; rfl, rfl⟩
          · rw [if_neg lo] at h
            exact h v H' θ' g s' r
end
section
variable {P : Program} {w : World} {K : PySem.W.Frag} {mg : Str → Option Value} {base : Heap}
theorem fn_ofG {k : Nat} {f : Addr} {name qual : Str} {params : Arguments} {body : List Stmt} {scope : Scope} {dV kV doc pm cdv ct oc : Value} {an od : Option Addr}
    {osl : Array (Option Value)} {N ps : List Str} {sp : Sp} (lk : K.lookup f = some ⟨oc, od, .func (PySem.W.fnOf name qual params body scope dV kV doc pm an cdv ct), osl⟩) (hcd : PySem.W.codeIn K cdv qual = true) (S : FnScope N ps scope)
    (len : ∀ vs H Q E, sp vs H Q E → vs.length = ps.length)
    (hbody : ∀ (A : Around) (outer : List Env) (s : Shared) (H : Hp) (vs : List V) (Q : VK) (E : XK), Room k (A.deeper (envOfC qual scope s.heap.objs.size f cdv)) → A.guards = some [] → sp vs H Q E →
      ∃ t, PSs (cxOf (CX P w) P w K mg base N qual scope f cdv A outer s H E) body t ∧ t { nx := fun _ H' => Q .non H', rt := Q } (L2.start N vs) H) :
    FnG P w K mg base (k + 1) f (PySem.W.fnOf name qual params body scope dV kV doc pm an cdv ct) ps sp := by
  refine ⟨len, fun A outer s H args us vs Q E hr hgd e0 hb r hsp => ?_⟩
  have hl := len _ _ _ _ hsp
  have KX : K.In s.heap := e0.mod.kin.keeps fun b o e => (e0.bs b o e).1
  have lim : s.heap.NoLimit := e0.mod.nolimit.keeps fun b o e => (e0.bs b o e).1
  have hkind : ∀ y ∈ ps.zip us, scope.names.lookup y.1 = some .local ∨ (scope.names.lookup y.1 = some .cell ∧ ((cellsFrom (s.heap.objs.size + 1) scope.names []).lookup y.1).isSome = true) := fun ⟨n, v⟩ hy => by
    rcases S.par n (List.of_mem_zip hy).1 with q | q
    · exact .inl q
    · exact .inr ⟨q, PySem.W.cellsFrom_some _ _ _ (.inl q)⟩
  refine codeAny_call_function hr.depth (KX _ _ lk) rfl S.co S.gen rfl (PySem.W.codeRec_of KX hcd) (hb _ _ _ _ ?_)
  refine wpAny_newFunctionEnv_cells S.kind hkind fun env he s1 x => ?_
  subst he
  refine ⟨lim.keeps x.toInCall.keep, codeAny_func ?_⟩
  obtain ⟨t, ht, hq⟩ := hbody A outer s H vs Q E (hr.deeper _) hgd hsp
  have I : Inv (cxOf (CX P w) P w K mg base N qual scope f cdv A outer s H E) [] (L2.start N vs) H s1 := inv_start S hr.hd e0 hl r x
  refine wpAny_mono (ht.run [] s1 (L2.start N vs) H _ I hq) (fun fl s' hs => ?_) fun e s' hs => hs
  have fin : ∀ {σ' : L2.St} {H' : Hp} {v : V} {u : Value}, Inv (cxOf (CX P w) P w K mg base N qual scope f cdv A outer s H E) [] σ' H' s' → RelV v u → Q v H' → CE outer P w H s Q u s' :=
    fun {σ' H' v u} J rv q => ⟨v, H', J.os, J.bare, J.base, J.hok, rv, q⟩
  cases fl with
  | ret u =>
    obtain ⟨v, σ', H', J, rv, q⟩ := hs
    exact fin J rv q
  | next =>
    obtain ⟨σ', H', J, q⟩ := hs
    exact fin (v := V.non) (u := Value.none) J rfl q
  | brk =>
    obtain ⟨_, _, _, q⟩ := hs
    exact False.elim q
  | cont =>
    obtain ⟨_, _, _, q⟩ := hs
    exact False.elim q
/-- what a def's body stands on -/
structure BX (P : Program) (w : World) (K : PySem.W.Frag) (mg : Str → Option Value) (base : Heap) (k : Nat) (N : List Str) (X : Cx) (E : XK) : Prop where
  zx : ZX X
  hp : X.prog = P
  hw : X.w = w
  hK : X.K = K
  hmg : X.mg = mg
  hbase : X.base = base
  room : Room k X.A
  pass : Passes (CX P w) X E
  tk : Takes X (fun cls d _ H => E cls d H)
/-- THE RULE for a def -/
theorem zfn {x qual : Str} {st : Stmt} {f : Addr} {fd : FuncData} {N ps : List Str} {k : Nat} {c : SC} (F : Fun K x qual st f fd) (S : FnScope N ps (defScope st))
    (hbody : ∀ (cdv : Value) (A : Around) (outer : List Env) (s : Shared) (H : Hp) (E : XK), BX P w K mg base k N (cxOf (CX P w) P w K mg base N qual (defScope st) f cdv A outer s H E) E → ZB (cxOf (CX P w) P w K mg base N qual (defScope st) f cdv A outer s H E) E (defBody st) c) :
    FnG P w K mg base (k + 1) f fd ps (spZ K mg (fnB N.length c) ps.length) := by
  obtain ⟨oc, od, kV, doc, pm, an, cdv, ct, osl, rfl, lk, hcd⟩ := F.ex
  refine fn_ofG lk hcd S (fun vs H Q E h => h.choose_spec.choose_spec.choose_spec.1) fun A outer s H vs Q E hr hg hsp => ?_
  obtain ⟨θ, ds, M, hl, sr, dr, post⟩ := hsp
  have tk : Takes (cxOf (CX P w) P w K mg base N qual (defScope st) f cdv A outer s H E) (fun cls d _ H => E cls d H) := takes_of rfl rfl rfl rfl
  have zx : ZX (cxOf (CX P w) P w K mg base N qual (defScope st) f cdv A outer s H E) := ⟨rfl, passes_of rfl, S.nd, by have := hr.un; show _ + 100 < _; simp only [cxOf]; omega, hg⟩
  obtain ⟨t, p, q⟩ := hbody cdv A outer s H E ⟨zx, rfl, rfl, rfl, rfl, rfl, hr, passes_call tk fun _ _ _ _ h => h, tk⟩
  refine ⟨t, p, q _ _ θ (ds.map some ++ List.replicate (N.length - ds.length) none) M _ ?_ sr ?_⟩
  · have el := Paired.length dr
    refine ⟨by unfold L2.start; rw [List.length_append, List.length_append, List.length_map, List.length_map, List.length_replicate, List.length_replicate, el], fun i d e => ?_⟩
    by_cases hi : i < ds.length
    · rw [List.getElem?_append_left (by rw [List.length_map]; exact hi), List.getElem?_map] at e
      cases ed : ds[i]? with
      | none => rw [ed] at e; cases e
      | some d' =>
        rw [ed] at e
        cases e
        obtain ⟨v, ev, r⟩ := paired_at dr ed
        exact ⟨v, by unfold L2.start; rw [List.getElem?_append_left (by rw [List.length_map, el]; exact hi), List.getElem?_map, ev]; rfl, r⟩
    · rw [List.getElem?_append_right (by rw [List.length_map]; omega), List.getElem?_replicate] at e
      split at e <;> cases e
  · have h2 := Post.gc post sr
    unfold runB at h2
    cases ec : c (ds.map some ++ List.replicate (N.length - ds.length) none) M with
    | stuck => rw [ec] at h2; exact h2
    | nx sl M' => rw [ec] at h2; exact fun σ' H' θ' g sv s' => h2 .non H' θ' g s' Fz.non
    | rt d M' => rw [ec] at h2; exact h2
    | exc x M' => rw [ec] at h2; exact h2
end
section
variable {P : Program} {w : World} {K : PySem.W.Frag} {mg : Str → Option Value} {base : Heap} {k j : Nat} {N : List Str} {X : Cx} {E : XK} {f : Addr} {fd : FuncData} {ps ks : List Str} {sp : Sp} {F : Fn} {n : Nat} {x : Str} {p pos kpos : Pos} {e : Expr} {es : List Expr} {cs : ZCs} {kws : List Keyword}
theorem FnG.mono (G : FnG P w K mg base j f fd ps sp) (h : j ≤ k) : FnG P w K mg base k f fd ps sp := ⟨G.len, fun A outer s H args us vs Q E hr => G.run A outer s H args us vs Q E (hr.mono h)⟩
/-- the block of a comprehension -/
theorem BX.blk (B : BX P w K mg base k N X E) (s : Shared) (H : Hp) (scope : Scope) (cenv : Env) (fp : List Addr) : BX P w K mg base k N (X.blk s H scope cenv fp) E0 := by
  obtain ⟨zx, e1, e2, e3, e4, e5, hr, ps, _⟩ := B
  refine ⟨⟨zx.calm, PassesOwn.never, zx.nd, zx.hu, zx.gd⟩, e1, e2, e3, e4, e5, hr, ?_, ?_⟩
  · intro pins σ H s e s' I c
    obtain ⟨_, _, _, _, _, _, _, _, _, _, _, _, q⟩ := c
    exact q
  · intro u s' x
    obtain ⟨_, _, _, _, _, _, _, _, _, _, _, _, _, _, _, _, z⟩ := x
    exact False.elim z
theorem BX.runs (B : BX P w K mg base k N X E) (G : FnG P w K mg base j f fd ps sp) (h : j ≤ k) {args : Args} {us : List Value} {vs : List V} {pins : List (Addr × Obj)} {σ : L2.St} {H : Hp} {s : Shared} {Q : VK} (I : Inv X pins σ H s) (hb : BindsTo s fd args (ps.zip us)) (r : Vals vs us) (q : sp vs H Q E) :
    wpAny (model X.prog X.w) X.A (call (.ref f) args.pos args.kw) (EP X pins σ Q) X.xe s := by
  obtain ⟨zx, rfl, rfl, rfl, rfl, rfl, hr, pas, _⟩ := B
  refine wpAny_call (codeAny_mono (G.run X.A X.stack s H args us vs Q E (hr.mono h) zx.gd I.env0 hb r q) fun r s' hq => ?_)
  cases r with
  | error e => exact pas pins σ H s e s' I hq
  | ok fl =>
    cases fl with
    | ret u => exact I.after hq
    | next => exact False.elim hq
    | brk => exact False.elim hq
    | cont => exact False.elim hq
/-- f(e, ..) -/
theorem ZE.call (B : BX P w K mg base k N X E) (G : FnG P w K mg base j f fd ps (spZ K mg F n)) (h : j ≤ k) (hg : Gl X x) (hm : X.mg x = some (.ref f)) (hk : PySem.W.keepIn X.K (.ref f) = true) (hb : Binds X.K fd ps []) (ha : ZA X E (e :: es) cs) (hn : ps.length = n := by rfl) (hes : (e :: es).length = n := by rfl)
    (hdb : (x == ("__debug__" : Str)) = false := by decide) (he : starEach (e :: es) X.env = (false, eval e X.env) :: starEach es X.env := by rfl) (hpl : (backTo pos (starEach es X.env)).any (·.1) = false := by rfl) :
    ZE X E (.Call (.Name x p) (e :: es) [] pos) (zs (zfc n F) cs) := by
  obtain ⟨t, pa, q⟩ := ha
  have eK := B.hK
  have em := B.hmg
  refine ⟨fun σ H Q => t σ H fun vs H1 => vs.length = n ∧ spZ K mg F n vs H1 Q E, ⟨fun pins s σ H Q I h' => ?_⟩, fun σ H θ sl M Q hs hm' h' => q σ H θ sl M _ hs hm' (Post.bind h' fun ds M1 vs H1 θ1 g1 m1 r1 h1 => ?_)⟩
  · refine wpAny_Call_Name_kw (ld_glob I hg hm ?_ hdb)
    refine PySem.W.callWith_K (h₀ := X.base) I.ok.mod.kin hk (thn (pa.run pos pins s σ H _ I h') fun us s1 ⟨vs, H1, I1, r, l, qq⟩ => ⟨I1.kIn, ?_⟩) he hpl
    have hl : (us ++ []).length = ps.length := by rw [List.append_nil, ← r.length, l, hn]
    have bt := hb s1 us I1.kIn hl
    rw [List.append_nil] at bt
    exact B.runs G h (args := ⟨us, []⟩) I1 bt r qq
  · have hl := Paired.length r1
    unfold zfc at h1
    by_cases hd : ds.length = n
    · rw [if_pos hd] at h1
      subst eK em
      exact ⟨hl.trans hd, θ1, ds, M1, hl.trans hd, m1, r1, h1⟩
    · rw [if_neg hd] at h1
      exact h1.elim
end
end Z

/-! Z: methods of lists, stores into lists. -/
namespace Z
open PySem PySem.Spec PyProof.Rows L2
/-- what may be the receiver of a list's method -/
def isL (M : Store) (d : D) : Bool := (lstv M d).isSome
def zmt (ok : Store → D → Bool) (g : D → List D → Store → Out D) (co : ZC) (cs : ZCs) : ZC := fun sl M => (co sl M).bind fun x M1 => if ok M1 x then (cs sl M1).bind fun ds M2 => g x ds M2 else .stuck
def zm0 (ok : Store → D → Bool) (g : D → List D → Store → Out D) (co : ZC) : ZC := fun sl M => (co sl M).bind fun x M1 => if ok M1 x then g x [] M1 else .stuck
section
variable {X : Cx} {E : XK} {o e : Expr} {es : List Expr} {co : ZC} {cs : ZCs} {name : Str} {apos cpos : Pos} {T id : String} {g : D → List D → Store → Out D} {ok : Store → D → Bool}
theorem ZE.meth (pa : PlainAttrs T) (slot : Slot T name id) (hty : typeOf (.builtin id) = pure (.type "method_descriptor")) (hm : MtR X id (rZm X E g)) (hok : ∀ {θ H M v d}, SR X.K θ H M → Dr X.K θ H v d → ok M d = true → tyV X.K T v H)
    (ho : ZE X E o co) (ha : ZA X E (e :: es) cs)
    (hbase : attributeBase o name X.env (eval o X.env) = eval o X.env := by rfl)
    (hfew : ((backTo cpos (starEach (e :: es) X.env)).all (fun x => !x.1) && (backToKw cpos (keywordEach [] X.env)).all (fun x => x.1.isSome)
      && decide ((e :: es).length + ([] : List Keyword).length + (if ([] : List Keyword).isEmpty then 0 else 1) < 30)) = true := by rfl)
    (hline : (apos.endLine == cpos.line) = true := by rfl) (hs : starEach (e :: es) X.env = (false, eval e X.env) :: starEach es X.env := by rfl) (hplain : (backTo cpos (starEach es X.env)).any (·.1) = false := by rfl) :
    ZE X E (.Call (.Attribute o name apos) (e :: es) [] cpos) (zmt ok g co cs) := by
  obtain ⟨t, po, q⟩ := ho
  obtain ⟨u, pa', qa⟩ := ha
  refine ⟨_, pe_bm pa slot hty hm po pa' hbase hfew hline hs hplain, fun σ H θ sl M Q hs hmm h => q σ H θ sl M _ hs hmm (Post.bind h fun x M1 v H1 θ1 g1 m1 r1 h1 => ?_)⟩
  by_cases hk : ok M1 x = true
  · rw [if_pos hk] at h1
    exact ⟨hok m1 r1 hk, qa σ H1 θ1 sl M1 _ (hs.go g1) m1 (Post.bind h1 fun ds M2 vs H2 θ2 g2 m2 r2 h2 => ⟨x, ds, θ2, M2, m2, r1.go g2, r2, h2⟩)⟩
  · rw [if_neg hk] at h1
    exact h1.elim
theorem ZE.meth0 (pa : PlainAttrs T) (slot : Slot T name id) (hty : typeOf (.builtin id) = pure (.type "method_descriptor")) (hm : MtR X id (rZm X E g)) (hok : ∀ {θ H M v d}, SR X.K θ H M → Dr X.K θ H v d → ok M d = true → tyV X.K T v H)
    (ho : ZE X E o co) (hbase : attributeBase o name X.env (eval o X.env) = eval o X.env := by rfl) (hline : (apos.endLine == cpos.line) = true := by rfl) :
    ZE X E (.Call (.Attribute o name apos) [] [] cpos) (zm0 ok g co) := by
  obtain ⟨t, po, q⟩ := ho
  refine ⟨_, pe_bm0 pa slot hty hm po hbase hline, fun σ H θ sl M Q hs hmm h => q σ H θ sl M _ hs hmm (Post.bind h fun x M1 v H1 θ1 g1 m1 r1 h1 => ?_)⟩
  by_cases hk : ok M1 x = true
  · rw [if_pos hk] at h1
    exact ⟨hok m1 r1 hk, x, [], θ1, M1, m1, r1, .nil, h1⟩
  · rw [if_neg hk] at h1
    exact h1.elim
theorem isL_ok {K : PySem.W.Frag} {θ : List Addr} {H : Hp} {M : Store} {v : V} {d : D} (m : SR K θ H M) (r : Dr K θ H v d) (e : isL M d = true) : tyV K "list" v H := by
  obtain ⟨ds, e⟩ := Option.isSome_iff_exists.mp e
  obtain ⟨a, vs, rfl, h, _⟩ := lstv_ok m r e
  exact .inl ⟨rfl, _, h.sq⟩
end

/-! ### what the methods do -/
/-- the items of a list of the store -/
def lstAt (M : Store) (i : Nat) : Option (List D) := match M[i]? with
  | some (.lst ds) => some ds
  | _ => none
theorem lstAt_ok {K : PySem.W.Frag} {θ : List Addr} {H : Hp} {M : Store} {v : V} {i : Nat} {ds : List D} (m : SR K θ H M) (r : Dr K θ H v (.ref i)) (e : lstAt M i = some ds) :
    ∃ a vs, v = .ref a ∧ θ[i]? = some a ∧ H a = some (.lst vs) ∧ Drs K θ H vs ds := by
  unfold lstAt at e
  split at e
  · rename_i q
    cases e
    obtain ⟨a, h, rfl, k⟩ := dr_ref m r q
    obtain ⟨vs, e1, rs⟩ := k
    exact ⟨a, vs, rfl, h, e1, rs⟩
  · cases e
/-- the list at i gets other items -/
theorem post_set {X : Cx} {E : XK} {Q : VK} {θ : List Addr} {H : Hp} {M : Store} {i : Nat} {a : Addr} {vs ws : List V} {ds : List D} {d : D} {v : V} (h : Post X.K X.mg E (Dr X.K) Q θ H (.ok d (M.set i (.lst ds)))) (m : SR X.K θ H M)
    (hi : θ[i]? = some a) (h0 : H a = some (.lst vs)) (r : Drs X.K θ H ws ds) (lo : ds.all (D.low i) = true) (rv : Dr X.K θ H v d) : Q v (upd H a (.lst ws)) := by
  have g : Go θ θ H (upd H a (.lst ws)) := ⟨List.prefix_refl _, fun b w e c => by
    have ne : b ≠ a := by
      rintro rfl
      rw [h0] at e; cases e
      rcases c with c | c
      · exact c (List.mem_of_getElem? hi)
      · exact c
    rw [upd_ne ne]; exact e, fun b m n => absurd m n⟩
  obtain ⟨s, g'⟩ := m.set (o := .lst ds) (u := .lst ws) hi h0 (fun z => z) ⟨ws, upd_same, r.go g⟩ lo
  exact h v _ θ g s (rv.go g)
def zAppend (x : D) (ds : List D) (M : Store) : Out D := match x, ds with
  | .ref i, [y] => match lstAt M i with
    | some xs => if y.low i = true ∧ xs.length < sizeLine then .ok (.p .none) (M.set i (.lst (xs ++ [y]))) else .stuck
    | none => .stuck
  | _, _ => .stuck
def zExtend (x : D) (ds : List D) (M : Store) : Out D := match x, ds with
  | .ref i, [y] => match lstAt M i, lstv M y with
    | some xs, some ys => if ys.all (D.low i) = true ∧ xs.length + ys.length ≤ sizeLine then .ok (.p .none) (M.set i (.lst (xs ++ ys))) else .stuck
    | _, _ => .stuck
  | _, _ => .stuck
def zPop (x : D) (ds : List D) (M : Store) : Out D := match x, ds with
  | .ref i, [] => match lstAt M i with
    | some xs => match xs[xs.length - 1]? with
      | some y => .ok y (M.set i (.lst xs.dropLast))
      | none => .stuck
    | none => .stuck
  | _, _ => .stuck
def zPopAt (x : D) (ds : List D) (M : Store) : Out D := match x, ds with
  | .ref i, [.p (.int j)] => match lstAt M i with
    | some xs => match ixN xs.length j with
      | some k => match xs[k]? with
        | some y => .ok y (M.set i (.lst (xs.eraseIdx k)))
        | none => .stuck
      | none => .stuck
    | none => .stuck
  | _, _ => .stuck
theorem paired_dropLast {α β : Type} {R : α → β → Prop} : ∀ {l : List α} {m : List β}, Paired R l m → Paired R l.dropLast m.dropLast
  | _, _, .nil => .nil
  | _, _, .cons a .nil => .nil
  | _, _, .cons a (.cons b t) => .cons a (paired_dropLast (.cons b t))
theorem low_at {K : PySem.W.Frag} {θ : List Addr} {H : Hp} {M : Store} {i : Nat} {ds : List D} (m : SR K θ H M) (e : lstAt M i = some ds) : ds.all (D.low i) = true := by
  unfold lstAt at e
  split at e
  · rename_i q
    cases e
    exact m.low i _ q
  · cases e
section
variable {X : Cx} {E : XK}
theorem zAppend_ok : MtR X "list.append" (rZm X E zAppend) := by
  intro pins s σ H v vs u us Q I rv rs h
  obtain ⟨x, ds, θ, M, m, rx, rd, h⟩ := h
  unfold zAppend at h
  split at h
  · rename_i i y
    split at h
    · rename_i xs e
      split at h
      · rename_i c
        obtain ⟨a, ws, rfl, hi, h0, r⟩ := lstAt_ok m rx e
        cases rd with
        | cons r1 rr =>
          cases rr
          exact mt_append pins s σ H _ _ u us Q I rv rs ⟨a, ws, _, rfl, rfl, h0, by rw [Paired.length r]; exact c.2, post_set h m hi h0 (paired_append r (.cons r1 .nil)) (by rw [List.all_append, low_at m e]; simp [c.1]) Fz.non⟩
      · exact h.elim
    · exact h.elim
  · exact h.elim
/-- l.extend(any list) -/
theorem mt_extendX {pins : List (Addr × Obj)} {s : Shared} {σ : L2.St} {H : Hp} {l b : Addr} {xs zs : List V} {us : List Value} {Q : VK} (I : Inv X pins σ H s) (rv : Vals [.ref b] us) (hH : H l = some (.lst xs)) (hB : SqX X.K H b zs) (hz : xs.length + zs.length ≤ sizeLine)
    (q : Q .non (upd H l (.lst (xs ++ zs)))) : wpAny (model X.prog X.w) X.A (call (.builtin "list.extend") (.ref l :: us)) (EP X pins σ Q) X.xe s := by
  obtain ⟨u, rfl, ru⟩ := rv.one
  cases ru
  obtain ⟨z, its, n, r, hl, e⟩ := I.lstM hH
  obtain ⟨z2, its2, n2, r2, hl2, e2⟩ := SqX.at I hB
  have hsz : its.length + its2.length ≤ sizeLine := by omega
  refine call_meets F.slot_list_extend ⟨_, e, rfl⟩ F.entry_list_extend (F.args_list_extend_2 _ _)
    (AutoSeq1.list_extend_list_list_0 l its.toArray n b its2.toArray n2 (by simp only [List.size_toArray]; rw [notLongL hsz, Bool.and_false]; exact Bool.false_ne_true) (by simp only [List.size_toArray]; omega) (by simp only [List.size_toArray]; omega)) ⟨e, e2, ?_⟩
  exact ⟨.non, _, I.lset (its' := its ++ its2) hH e (by simp) (r.append r2) (by rw [List.length_append]; exact hz), rfl, q⟩
theorem zExtend_ok : MtR X "list.extend" (rZm X E zExtend) := by
  intro pins s σ H v vs u us Q I rv rs h
  obtain ⟨x, ds, θ, M, m, rx, rd, h⟩ := h
  unfold zExtend at h
  split at h
  · rename_i i y
    split at h
    · rename_i xs ys e e'
      split at h
      · rename_i c
        obtain ⟨a, ws, rfl, hi, h0, r⟩ := lstAt_ok m rx e
        cases rd with
        | cons r1 rr =>
          cases rr
          obtain ⟨b, zs, rfl, hb, r2⟩ := lstv_ok m r1 e'
          cases rv
          exact mt_extendX I rs h0 hb (by rw [Paired.length r, Paired.length r2]; exact c.2) (post_set h m hi h0 (paired_append r r2) (by rw [List.all_append, low_at m e, c.1]; rfl) Fz.non)
      · exact h.elim
    · exact h.elim
  · exact h.elim
theorem zPop_ok : MtR X "list.pop" (rZm X E zPop) := by
  intro pins s σ H v vs u us Q I rv rs h
  obtain ⟨x, ds, θ, M, m, rx, rd, h⟩ := h
  unfold zPop at h
  split at h
  · rename_i i
    split at h
    · rename_i xs e
      split at h
      · rename_i y ey
        obtain ⟨a, ws, rfl, hi, h0, r⟩ := lstAt_ok m rx e
        obtain ⟨w, ew, rw'⟩ := paired_at r ey
        cases rd
        exact mt_pop pins s σ H _ _ u us Q I rv rs ⟨a, ws, w, rfl, rfl, h0, by rw [Paired.length r]; exact ew, post_set h m hi h0 (paired_dropLast r) (List.all_eq_true.mpr fun z hz => List.all_eq_true.mp (low_at m e) z ((List.dropLast_sublist _).subset hz)) rw'⟩
      · exact h.elim
    · exact h.elim
  · exact h.elim
theorem zPopAt_ok : MtR X "list.pop" (rZm X E zPopAt) := by
  intro pins s σ H v vs u us Q I rv rs h
  obtain ⟨x, ds, θ, M, m, rx, rd, h⟩ := h
  unfold zPopAt at h
  split at h
  · rename_i i j
    split at h
    · rename_i xs e
      split at h
      · rename_i k ek
        split at h
        · rename_i y ey
          obtain ⟨a, ws, rfl, hi, h0, r⟩ := lstAt_ok m rx e
          obtain ⟨w, ew, rw'⟩ := paired_at r ey
          cases rd with
          | cons r1 rr =>
            cases rr
            cases r1
            obtain ⟨h1, h2, h3, h4⟩ := ixN_seq ek
            have z := (I.lstM h0).1
            have hn := line63
            rw [← Paired.length r] at h1 h3 h4
            refine mt_popAt pins s σ H _ _ u us Q I rv rs ⟨a, ws, j, k, w, rfl, rfl, h0, by omega, by omega, h1, ew, post_set h m hi h0 (paired_erase k r) (List.all_eq_true.mpr fun z hz => List.all_eq_true.mp (low_at m e) z (List.mem_of_mem_eraseIdx hz)) rw'⟩
        · exact h.elim
      · exact h.elim
    · exact h.elim
  · exact h.elim
end

/-! ### o[i] = v -/
def zSetL (x y v : D) (M : Store) : Option Store := match x, y with
  | .ref i, .p (.int j) => match lstAt M i with
    | some xs => match ixN xs.length j with
      | some k => if v.low i = true then some (M.set i (.lst (xs.set k v))) else none
      | none => none
    | none => none
  | _, _ => none
def rZset (X : Cx) (f : D → D → D → Store → Option Store) : TSet := fun o i v H Q => ∃ θ M x y d M', SR X.K θ H M ∧ Dr X.K θ H o x ∧ Dr X.K θ H i y ∧ Dr X.K θ H v d ∧ f x y d M = some M' ∧ ∀ H', Go θ θ H H' → SR X.K θ H' M' → Q H'
/-- o[i] = e -/
def sstore (f : D → D → D → Store → Option Store) (cv co ci : ZC) : SC := fun sl M => match cv sl M with
  | .ok v M1 => match co sl M1 with
    | .ok o M2 => match ci sl M2 with
      | .ok i M3 => match f o i v M3 with
        | some M4 => .nx sl M4
        | none => .stuck
      | .exc e M => .exc e M
      | .stuck => .stuck
    | .exc e M => .exc e M
    | .stuck => .stuck
  | .exc e M => .exc e M
  | .stuck => .stuck
section
variable {X : Cx} {E : XK}
theorem zSetL_ok : PSet X (rZset X zSetL) := by
  intro pins s σ H o i v ov iv u Q I ro ri rv h
  obtain ⟨θ, M, x, y, d, M', m, rx, ry, rd, e, q⟩ := h
  unfold zSetL at e
  split at e
  · rename_i j k
    split at e
    · rename_i xs ex
      split at e
      · rename_i n en
        split at e
        · rename_i lo
          cases e
          obtain ⟨a, ws, rfl, hi, h0, r⟩ := lstAt_ok m rx ex
          cases ry
          refine set_list pins s σ H _ _ v ov iv u Q I ro ri rv ⟨a, ws, k, n, rfl, rfl, h0, by rw [Paired.length r]; exact en, ?_⟩
          have g : Go θ θ H (upd H a (.lst (ws.set n v))) := ⟨List.prefix_refl _, fun b w e c => by
            have ne : b ≠ a := by
              rintro rfl
              rw [h0] at e; cases e
              rcases c with c | c
              · exact c (List.mem_of_getElem? hi)
              · exact c
            rw [upd_ne ne]; exact e, fun b m n => absurd m n⟩
          obtain ⟨s', g'⟩ := m.set (o := .lst (xs.set n d)) (u := .lst (ws.set n v)) hi h0 (fun z => z) ⟨_, upd_same, paired_set (rd.go g) n (r.go g)⟩ (List.all_eq_true.mpr fun z hz => by
            rcases List.mem_or_eq_of_mem_set hz with h | rfl
            · exact List.all_eq_true.mp (low_at m ex) z h
            · exact lo)
          exact q _ g' s'
        · cases e
      · cases e
    · cases e
  · cases e
theorem ZS.store {v o i : Expr} {cv co ci : ZC} {f : D → D → D → Store → Option Store} {p pos : Pos} (hset : PSet X (rZset X f)) (hv : ZE X E v cv) (ho : ZE X E o co) (hi : ZE X E i ci)
    (hs : swapsWithSole [.Subscript o i p] v pos.line X.env = pure false := by rfl) (hw : swappedStores [.Subscript o i p] v X.env = pure none := by rfl)
    (h1 : (assignEach [.Subscript o i p] X.env).map (·.2) = [assign (.Subscript o i p) X.env] := by rfl)
    (ha : ∀ v, assign (.Subscript o i p) X.env v = (do
      let ov ← holding [v] (eval o X.env)
      let iv ← holding [v, ov] (eval i X.env)
      standAt p
      holding [v, ov, iv] (setItem ov iv v)
      release [v, ov, iv] []) := by intro _; rfl) : ZS X E (.Assign [.Subscript o i p] v pos) (sstore f cv co ci) := by
  obtain ⟨t, pv, qv⟩ := hv
  obtain ⟨u, po, qo⟩ := ho
  obtain ⟨w, pi, qi⟩ := hi
  refine ⟨_, ps_asg pv (pg_sub po pi hset ha) hs hw h1, fun σ H θ sl M N hs hm h => qv σ H θ sl M _ hs hm ?_⟩
  unfold sstore at h
  cases e1 : cv sl M with
  | stuck => rw [e1] at h; exact h
  | exc x M1 => rw [e1] at h; exact h
  | ok d M1 =>
    rw [e1] at h
    intro v1 H1 θ1 g1 m1 r1
    refine qo σ H1 θ1 sl M1 _ (hs.go g1) m1 ?_
    simp only at h
    cases e2 : co sl M1 with
    | stuck => rw [e2] at h; exact h
    | exc x M2 => rw [e2] at h; exact PostS.go g1 h
    | ok o' M2 =>
      rw [e2] at h
      intro v2 H2 θ2 g2 m2 r2
      refine qi σ H2 θ2 sl M2 _ (hs.go (g1.trans g2)) m2 ?_
      simp only at h
      cases e3 : ci sl M2 with
      | stuck => rw [e3] at h; exact h
      | exc x M3 => rw [e3] at h; exact PostS.go (g1.trans g2) h
      | ok i' M3 =>
        rw [e3] at h
        intro v3 H3 θ3 g3 m3 r3
        simp only at h
        cases e4 : f o' i' d M3 with
        | none => rw [e4] at h; exact h.elim
        | some M4 =>
          rw [e4] at h
          exact ⟨θ3, M3, o', i', d, M4, m3, r2.go g3, r3, (r1.go g2).go g3, e4, fun H' g m' => h σ H' θ3 (((g1.trans g2).trans g3).trans g) (((hs.go (g1.trans g2)).go g3).go g) m'⟩
end
end Z

/-! Z: repr and sorted, calls without and by named arguments. -/
namespace Z
open PySem PySem.Spec PyProof.Rows L2
def zShow (ds : List D) (M : Store) : Out D := match ds with
  | [d] => match snap 6 M d with
    | some (.int i) => if i.natAbs.log2 < 1920 then .ok (.p (.str (toString i))) M else .stuck
    | some (.tuple xs) => if (PyData.tuple xs).showable = true ∧ (PyData.tuple xs).hasDict = false ∧ (PyData.tuple xs).shown.length ≤ sizeLine ∧ (PyData.tuple xs).depth ≤ 60 then .ok (.p (.str (PyData.tuple xs).shown)) M else .stuck
    | some (.list xs) => if (PyData.list xs).showable = true ∧ (PyData.list xs).hasDict = false ∧ (PyData.list xs).shown.length ≤ sizeLine ∧ (PyData.list xs).depth ≤ 60 then .ok (.p (.str (PyData.list xs).shown)) M else .stuck
    | some .none => .ok (.p (.str "None")) M
    | some (.bool b) => .ok (.p (.str (if b then "True" else "False"))) M
    | _ => .stuck
  | _ => .stuck
section
variable {X : Cx} {E : XK}
theorem repr_data (zx : ZX X) {pins : List (Addr × Obj)} {s : Shared} {σ : L2.St} {H : Hp} {a : Addr} {x : P} {us : List Value} {Q : VK} (I : Inv X pins σ H s) (rv : Vals [.ref a] us) (h : Dp X.K H (.ref a) x)
    (c : x.showable = true ∧ x.hasDict = false ∧ x.shown.length ≤ sizeLine ∧ x.depth ≤ 60) (q : Q (.str x.shown) H) : wpAny (model X.prog X.w) X.A (call (.builtin "repr") us) (EP X pins σ Q) X.xe s := by
  obtain ⟨u, rfl, ru⟩ := rv.one
  cases ru
  obtain ⟨as, rd⟩ := Dp.reads I x (.ref a) (.ref a) h rfl
  have hu := zx.hu
  exact repr_of_reads' rd c.1 (fun z => by rw [c.2.1] at z; cases z) zx.gd (by have := c.2.2.2; omega) (fun _ _ e => e) (fun h' u tk k => ⟨.str x.shown, H, I.kept k, ⟨u, rfl⟩, q⟩) c.2.2.1
theorem zShow_ok (zx : ZX X) : CallR X (.builtin "repr") (rZs X E zShow) := by
  intro pins s σ H xs us Q I r h
  obtain ⟨ds, θ, M, m, rs, h⟩ := h
  unfold zShow at h
  split at h
  · cases rs with
    | cons r1 rr =>
      cases rr
      split at h
      · rename_i e
        split at h
        · rename_i c
          have d1 := snap_dp m _ _ _ _ r1 e rfl
          cases d1
          exact SkE.call_repr_int pins s σ H _ us Q I r ⟨_, rfl, c, Post.here h m (Fz.str _)⟩
        · exact h.elim
      · rename_i e
        split at h
        · rename_i c
          have d1 := snap_dp m _ _ _ _ r1 e c.2.1
          cases d1 with
          | tup k1 k2 => exact repr_data zx I r (.tup k1 k2) c (Post.here h m (Fz.str _))
        · exact h.elim
      · rename_i e
        split at h
        · rename_i c
          have d1 := snap_dp m _ _ _ _ r1 e c.2.1
          cases d1 with
          | lst k1 k2 => exact repr_data zx I r (.lst k1 k2) c (Post.here h m (Fz.str _))
        · exact h.elim
      · rename_i e
        have d1 := snap_dp m _ _ _ _ r1 e rfl
        cases d1
        obtain ⟨u, rfl, ru⟩ := r.one
        cases ru
        exact PySem.P.repr_of_none ⟨.str _, H, I.tok _, ⟨_, rfl⟩, Post.here h m (Fz.str _)⟩
      · rename_i b e
        have d1 := snap_dp m _ _ _ _ r1 e rfl
        cases d1
        obtain ⟨u, rfl, ru⟩ := r.one
        cases ru
        exact PySem.P.repr_of_bool (b := b) ⟨.str _, H, I.tok _, ⟨_, rfl⟩, Post.here h m (Fz.str _)⟩
      · exact h.elim
  · exact h.elim

/-! ### sorted -/
theorem eachIs_of {K : PySem.W.Frag} {h : Heap} {H : Hp} : ∀ {us : List Value} {vs : List V} {xs : List P}, Vals vs us → FzAll K H vs xs → PySem.W.EachIs (fun u x => ∃ v, RelV v u ∧ Fz K H v x) us xs
  | _, _, _, .nil, .nil => .nil
  | _, _, _, .cons a b, .cons c d => .cons ⟨_, a, c⟩ (eachIs_of (h := h) b d)
theorem ofEachIs {K : PySem.W.Frag} {H : Hp} : ∀ {us : List Value} {xs : List P}, PySem.W.EachIs (fun u x => ∃ v, RelV v u ∧ Fz K H v x) us xs → ∃ vs, Vals vs us ∧ FzAll K H vs xs
  | _, _, .nil => ⟨[], .nil, .nil⟩
  | _, _, .cons ⟨v, r, z⟩ t => by
    obtain ⟨vs, h1, h2⟩ := ofEachIs t
    exact ⟨v :: vs, .cons r h1, .cons z h2⟩
mutual
theorem alike_noDict : ∀ x : P, PySem.W.alike x x = true → x.hasDict = false
  | .none, _ => rfl
  | .bool _, _ => rfl
  | .int _, _ => rfl
  | .str _, _ => rfl
  | .list xs, h => by rw [PyData.hasDict]; exact alikes_noDict xs (by simpa [PySem.W.alike] using h)
  | .tuple xs, h => by rw [PyData.hasDict]; exact alikes_noDict xs (by simpa [PySem.W.alike] using h)
  | .dict _, h => by simp [PySem.W.alike] at h
theorem alikes_noDict : ∀ xs : List P, PySem.W.alikeAll xs xs = true → PyData.hasDictAll xs = false
  | [], _ => rfl
  | x :: xs, h => by
    rw [PySem.W.alikeAll, Bool.and_eq_true] at h
    rw [PyData.hasDictAll, alike_noDict x h.1, alikes_noDict xs h.2]
    rfl
end
theorem eachReads {K : PySem.W.Frag} {h : Heap} {H : Hp} (f : ∀ v u x, x.hasDict = false → RelV v u → Fz K H v x → ∃ as, Reads h u x as) : ∀ {us : List Value} {xs : List P}, (∀ x ∈ xs, x.hasDict = false) → PySem.W.EachIs (fun u x => ∃ v, RelV v u ∧ Fz K H v x) us xs → PySem.W.EachIs (fun u x => ∃ as, Reads h u (id x) as) us xs
  | _, _, _, .nil => .nil
  | _, _, c, .cons ⟨v, r, z⟩ t => .cons (f v _ _ (c _ List.mem_cons_self) r z) (eachReads f (fun x hx => c x (List.mem_cons_of_mem _ hx)) t)
theorem all_noDict {xs : List P} (h : PySem.W.AllAlike xs) : ∀ x ∈ xs, x.hasDict = false := fun x hx => alike_noDict x (h x hx x hx)
/-- the list that sorted makes, frozen at once -/
theorem post_frz {Q : VK} {θ : List Addr} {H : Hp} {M : Store} {xs : List P} {vs : List V} (h : Post X.K X.mg E (Dr X.K) Q θ H (.ok (.p (.list xs)) M)) (m : SR X.K θ H M) {a : Addr} (ha : H a = none) (hz : xs.length ≤ sizeLine) (r : FzAll X.K H vs xs) :
    FrzQ Q (.ref a) (upd H a (.lst vs)) := (frzl_ok (ds := xs.map .p) (by rw [frzl_map, if_pos hz]; exact h) m r.drs).2 a ha
theorem zSorted_ok (zx : ZX X) : CallR X (.builtin "sorted") (rZs X E zSorted) := by
  intro pins s σ H xs us Q I r h
  obtain ⟨ds, θ, M, m, rs, h⟩ := h
  unfold zSorted at h
  split at h
  · split at h
    · rename_i zs e1
      split at h
      · rename_i ys e2
        split at h
        · rename_i c
          cases rs with
          | cons r1 rr =>
            cases rr
            obtain ⟨ad, vs, rfl, hp, dp⟩ := lstv_ok m r1 e1
            rw [pures_eq e2] at dp
            have fz := FzAll.ofDrs dp
            obtain ⟨u, rfl, ru⟩ := r.one
            cases ru
            obtain ⟨its, rv, pl, hz⟩ := I.list hp.sq
            have hu := zx.hu
            have ei := eachIs_of (h := s.heap) rv fz
            have er := eachReads (h := s.heap) (fun v u x c r z => Dp.reads I x v u (z.dp c) r) (all_noDict c.1) ei
            refine thn (Q := EP X pins σ (FrzQ Q)) (PySem.W.sorted_data (enc := id) pl.isList ei er (by rw [List.map_id]; exact c.1) (by rw [List.map_id]; exact c.2.1) c.2.2.1 (fun b hb => by have := c.2.2.2 b hb; show X.A.units + 2 + b.depth < cLine; omega) fun out hl ho => ?_) fun u s1 z => ep_frz z
            obtain ⟨ws, w1, w2⟩ := ofEachIs ho
            obtain ⟨ep, at_⟩ := sortedAll_at s.heap its out.toArray
            have hn : H (s.heap.objs.size + 1) = none := I.hok.fresh (Nat.le_succ _)
            have wl : ws.length = ys.length := by rw [w1.length, hl]
            have J := Inv.laid (o := .lst ws) (t' := s.toks) I (fun b u q => sortedAll_old q) (Nat.le_succ _) ⟨by rw [wl]; exact c.2.2.1, out, ep, w1, at_⟩
            exact ⟨.ref _, _, J, rfl, post_frz h m hn (by rw [psort, List.length_mergeSort]; exact c.2.2.1) w2⟩
        · exact h.elim
      · exact h.elim
    · exact h.elim
  · exact h.elim
end

/-! ### calls without arguments, by names -/
def permBy {α : Type} (ix : List Nat) (l : List α) : List α := ix.filterMap fun i => l[i]?
theorem paired_perm {α β : Type} {R : α → β → Prop} {l : List α} {m : List β} (h : Paired R l m) : ∀ ix : List Nat, Paired R (permBy ix l) (permBy ix m)
  | [] => .nil
  | i :: ix => by
    unfold permBy
    have hl := Paired.length h
    cases e : m[i]? with
    | none =>
      have e' : l[i]? = none := by
        rw [List.getElem?_eq_none_iff] at e ⊢
        omega
      rw [List.filterMap_cons_none e, List.filterMap_cons_none e']
      exact paired_perm h ix
    | some b =>
      obtain ⟨a, ea, r⟩ := paired_at h e
      rw [List.filterMap_cons_some e, List.filterMap_cons_some ea]
      exact .cons r (paired_perm h ix)
theorem vals_perm {vs : List V} {us : List Value} (h : Vals vs us) : ∀ ix : List Nat, Vals (permBy ix vs) (permBy ix us)
  | [] => .nil
  | i :: ix => by
    unfold permBy
    have hl := h.length
    cases e : vs[i]? with
    | none =>
      have e' : us[i]? = none := by
        rw [List.getElem?_eq_none_iff] at e ⊢
        omega
      rw [List.filterMap_cons_none e, List.filterMap_cons_none e']
      exact vals_perm h ix
    | some b =>
      obtain ⟨a, ea, r⟩ := h.get e
      rw [List.filterMap_cons_some e, List.filterMap_cons_some ea]
      exact .cons r (vals_perm h ix)
def ZK (X : Cx) (E : XK) (kws : List Keyword) (c : ZCs) : Prop := ∃ t, PK X kws t ∧ ∀ σ H θ sl M Q, SV X.K θ H σ sl → SR X.K θ H M → Post X.K X.mg E (Drs X.K) Q θ H (c sl M) → t σ H Q
section
variable {P : Program} {w : World} {K : PySem.W.Frag} {mg : Str → Option Value} {base : Heap} {k j : Nat} {N : List Str} {X : Cx} {E : XK} {f : Addr} {fd : FuncData} {ps ks : List Str} {F : Fn} {n : Nat} {x : Str} {p pos kpos : Pos} {e : Expr} {es : List Expr} {c : ZC} {cs : ZCs} {kws : List Keyword} {nm : Option Str}
theorem ZK.nil : ZK X E [] znil := ⟨_, pk_nil, fun σ H θ sl M Q hs hm h => Post.here (R := Drs X.K) (b := []) h hm .nil⟩
theorem ZK.cons (ha : ZE X E e c) (hr : ZK X E kws cs) : ZK X E (⟨nm, e, kpos⟩ :: kws) (zcons c cs) := by
  obtain ⟨t, pa, q⟩ := ha
  obtain ⟨u, pr, qr⟩ := hr
  exact ⟨_, pk_cons pa pr, fun σ H θ sl M Q hs hm h => q σ H θ sl M _ hs hm (Post.bind h fun x M1 v H1 θ1 g1 m1 r1 h1 => qr σ H1 θ1 sl M1 _ (hs.go g1) m1 (Post.bind h1 fun xs M2 vs H2 θ2 g2 m2 r2 h2 => Post.here h2 m2 (.cons (r1.go g2) r2)))⟩
theorem ZE.callK (B : BX P w K mg base k N X E) (G : FnG P w K mg base j f fd ps (spZ K mg F n)) (h : j ≤ k) (hg : Gl X x) (hm : X.mg x = some (.ref f)) (hk : PySem.W.keepIn X.K (.ref f) = true) (ix : List Nat)
    (hb : ∀ (s : Shared) (us : List Value), us.length = n → BindsTo s fd ⟨[], ks.zip us⟩ (ps.zip (permBy ix us))) (ha : ZK X E kws cs) (hix : ∀ (us : List D), us.length = n → (permBy ix us).length = n) (hn : ps.length = n := by rfl)
    (hall : (backToKw pos (keywordEach kws X.env)).all (·.1.isSome) = true := by rfl) (hks : (backToKw pos (keywordEach kws X.env)).filterMap (·.1) = ks := by rfl)
    (hdb : (x == ("__debug__" : Str)) = false := by decide) (hpl : ((backTo pos (starEach [] X.env)).any (·.1) || (backToKw pos (keywordEach kws X.env)).any (·.1.isNone)) = false := by rfl) :
    ZE X E (.Call (.Name x p) [] kws pos) (zs (fun ds M => zfc n (fun ds M => F (permBy ix ds) M) ds M) cs) := by
  obtain ⟨t, pa, q⟩ := ha
  have eK := B.hK
  have em := B.hmg
  refine ⟨fun σ H Q => t σ H fun vs H1 => vs.length = n ∧ spZ K mg F n (permBy ix vs) H1 Q E, ⟨fun pins s σ H Q I h' => ?_⟩, fun σ H θ sl M Q hs hm' h' => q σ H θ sl M _ hs hm' (Post.bind h' fun ds M1 vs H1 θ1 g1 m1 r1 h1 => ?_)⟩
  · refine wpAny_Call_Name_kw (ld_glob I hg hm ?_ hdb)
    refine PySem.W.callWith_KW0 (h₀ := X.base) I.ok.mod.kin hk hall (thn (pa.run pos pins s σ H _ I h') fun us s1 ⟨vs, H1, I1, r, l, qq⟩ => ⟨I1.kIn, ?_⟩) hpl
    rw [hks]
    exact B.runs G h (args := ⟨[], ks.zip us⟩) I1 (hb s1 us (by rw [← r.length]; exact l)) (vals_perm r ix) qq
  · have hl := Paired.length r1
    unfold zfc at h1
    by_cases hd : ds.length = n
    · rw [if_pos hd] at h1
      subst eK em
      have pp := paired_perm r1 ix
      exact ⟨hl.trans hd, θ1, _, M1, (Paired.length pp).trans (hix ds hd), m1, pp, h1⟩
    · rw [if_neg hd] at h1
      exact h1.elim
/-- f() -/
theorem ZE.call0 (B : BX P w K mg base k N X E) (G : FnG P w K mg base j f fd ps (spZ K mg F 0)) (h : j ≤ k) (hg : Gl X x) (hm : X.mg x = some (.ref f)) (hk : PySem.W.keepIn X.K (.ref f) = true) (hb : Binds X.K fd ps []) (hn : ps.length = 0 := by rfl)
    (hdb : (x == ("__debug__" : Str)) = false := by decide) : ZE X E (.Call (.Name x p) [] [] pos) (fun _ M => F [] M) := by
  have eK := B.hK
  have em := B.hmg
  refine ⟨fun σ H Q => spZ K mg F 0 [] H Q E, ⟨fun pins s σ H Q I h' => ?_⟩, fun σ H θ sl M Q hs hm' h' => ?_⟩
  · refine wpAny_Call_Name_kw (ld_glob I hg hm ?_ hdb)
    have bt := hb s [] I.kIn (by rw [hn]; rfl)
    exact PySem.W.callWith_K0 I.kIn hk (B.runs G h (args := ⟨[], []⟩) I bt .nil h')
  · subst eK em
    exact ⟨θ, [], M, rfl, hm', .nil, h'⟩
end

/-! ### a fresh list that may change; three names at once -/
def zAddM (a b : D) (M : Store) : Out D := match lstv M a, lstv M b with
  | some xs, some ys => mkLst (xs ++ ys) M
  | _, _ => .stuck
theorem mkLst_ok {X : Cx} {E : XK} {θ : List Addr} {H : Hp} {M : Store} {Q : VK} {vs : List V} {ds : List D} (h : Post X.K X.mg E (Dr X.K) Q θ H (mkLst ds M)) (m : SR X.K θ H M) (r : Drs X.K θ H vs ds) :
    vs.length ≤ sizeLine ∧ ∀ p, H p = none → Q (.ref p) (upd H p (.lst vs)) := by
  unfold mkLst at h
  by_cases l : ds.length ≤ sizeLine
  · rw [if_pos l] at h
    exact ⟨by rw [Paired.length r]; exact l, fun p hp => new_lst h m r hp⟩
  · rw [if_neg l] at h; exact h.elim
section
variable {X : Cx} {E : XK} {a b c : Expr} {cs : ZCs} {pos : Pos}
theorem zAddM_ok : OpR X (binaryOp .Add) (rZ2 X E zAddM) := by
  intro pins s σ H x y v u Q I rx ry h
  obtain ⟨a, b, θ, M, m, ra, rb, h⟩ := h
  unfold zAddM at h
  split at h
  · rename_i xs ys e1 e2
    obtain ⟨p, vs, rfl, hp, dp⟩ := lstv_ok m ra e1
    obtain ⟨q, ws, rfl, hq, dq⟩ := lstv_ok m rb e2
    obtain ⟨l, k⟩ := mkLst_ok h m (paired_append dp dq)
    rw [List.length_append] at l
    exact op_catX pins s σ H _ _ v u Q I rx ry ⟨p, q, vs, ws, rfl, rfl, hp, hq, l, k⟩
  · exact h.elim
theorem ZS.par3 (zx : ZX X) (i j l : Nat) {x y z : Str} {px py pz pt : Pos} {kt k2 : Nat} {pt2 : Pos} (ha : ZA X E [a, b, c] cs) (hi : X.N[i]? = some x := by rfl) (hj : X.N[j]? = some y := by rfl) (hl : X.N[l]? = some z := by rfl)
    (hij : i ≠ j := by decide) (hil : i ≠ l := by decide) (hjl : j ≠ l := by decide)
    (hx : X.env.scope.names.lookup x = some .local := by rfl) (hy : X.env.scope.names.lookup y = some .local := by rfl) (hz : X.env.scope.names.lookup z = some .local := by rfl)
    (hw : swappedStores [.Tuple [.Name x px, .Name y py, .Name z pz] kt pt] (.Tuple [a, b, c] k2 pt2) X.env = pure (some [x, y, z]) := by rfl)
    (hs : swapsWithSole [.Tuple [.Name x px, .Name y py, .Name z pz] kt pt] (.Tuple [a, b, c] k2 pt2) pos.line X.env = pure false := by rfl) :
    ZS X E (.Assign [.Tuple [.Name x px, .Name y py, .Name z pz] kt pt] (.Tuple [a, b, c] k2 pt2) pos) (spar [i, j, l] cs) := by
  obtain ⟨t, p, q⟩ := ha
  refine ⟨_, ps_par3 zx.calm zx.nd hi hj hl hij hil hjl hx hy hz p hw hs, fun σ H θ sl M N hs hm h => q σ H θ sl M _ hs hm (PostS.thn h fun ds M1 vs H1 θ1 g1 m1 r1 h1 => ?_)⟩
  match r1, h1 with
  | .nil, h1 => exact h1.elim
  | .cons _ .nil, h1 => exact h1.elim
  | .cons _ (.cons _ .nil), h1 => exact h1.elim
  | .cons a1 (.cons a2 (.cons a3 .nil)), h1 => exact ⟨_, _, _, rfl, h1 _ H1 θ1 .refl ((((hs.go g1).set a1).set a2).set a3) m1⟩
  | .cons _ (.cons _ (.cons _ (.cons _ _))), h1 => exact h1.elim
end

/-! ### tuple(range(..)), list(range(..)) -/
abbrev ZCr := Sl → Store → Out (Int × Int)
def EqP : List Addr → Hp → Int × Int → Int × Int → Prop := fun _ _ b a => b = a
def ZR (X : Cx) (E : XK) (e : Expr) (c : ZCr) : Prop := ∃ t, PRg X e t ∧ ∀ σ H θ sl M (Q : Int → Int → Hp → Prop), SV X.K θ H σ sl → SR X.K θ H M → Post X.K X.mg E EqP (fun p H => Q p.1 p.2 H) θ H (c sl M) → t σ H Q
def zrg1 (a : ZC) : ZCr := fun sl M => (a sl M).bind fun d M1 => match d with
  | .p (.int n) => .ok (0, n) M1
  | _ => .stuck
def zrg2 (a b : ZC) : ZCr := fun sl M => (a sl M).bind fun d M1 => (b sl M1).bind fun e M2 => match d, e with
  | .p (.int i), .p (.int j) => .ok (i, j) M2
  | _, _ => .stuck
def rgP (a b : Int) : List P := (List.range (b - a).toNat).map fun i : Nat => .int (a + (i : Int))
def rgIn (a b : Int) : Bool := decide (-(2 ^ 62) ≤ a) && decide (a < 2 ^ 62) && decide (-(2 ^ 62) ≤ b) && decide (b < 2 ^ 62) && decide ((b - a).toNat ≤ 2 ^ 24)
theorem rgIn_ok {a b : Int} (h : rgIn a b = true) : RgOk a b := by
  unfold rgIn at h
  simp only [Bool.and_eq_true, decide_eq_true_eq] at h
  exact ⟨h.1.1.1.1, h.1.1.1.2, h.1.1.2, h.1.2, h.2⟩
theorem fz_rg {K : PySem.W.Frag} {H : Hp} (a b : Int) : FzAll K H (rgV a b) (rgP a b) := by
  unfold rgV rgP
  generalize List.range (b - a).toNat = l
  induction l with
  | nil => exact .nil
  | cons i l ih => exact .cons (.int _) ih
def ztrg (c : ZCr) : ZC := fun sl M => (c sl M).bind fun p M1 => if rgIn p.1 p.2 = true then .ok (.p (.tuple (rgP p.1 p.2))) M1 else .stuck
def zlrg (c : ZCr) : ZC := fun sl M => (c sl M).bind fun p M1 => if rgIn p.1 p.2 = true then frzl ((rgP p.1 p.2).map .p) M1 else .stuck
def zlrgM (c : ZCr) : ZC := fun sl M => (c sl M).bind fun p M1 => if rgIn p.1 p.2 = true then mkLst ((rgP p.1 p.2).map .p) M1 else .stuck
section
variable {X : Cx} {E : XK} {a b e : Expr} {ca cb : ZC} {c : ZCr} {p pos : Pos}
theorem ZR.one (hg : Gl X "range") (hm : X.mg "range" = none) (ha : ZE X E a ca) (na : starEach [a] X.env = (false, eval a X.env) :: starEach [] X.env := by rfl) : ZR X E (.Call (.Name "range" p) [a] [] pos) (zrg1 ca) := by
  obtain ⟨t, pa, q⟩ := ha
  refine ⟨_, prg_1 hg hm pa na, fun σ H θ sl M Q hs hm h => q σ H θ sl M _ hs hm (Post.bind h fun d M1 v H1 θ1 g1 m1 r1 h1 => ?_)⟩
  split at h1
  · cases r1
    exact ⟨_, rfl, Post.here (R := EqP) h1 m1 rfl⟩
  · exact h1.elim
theorem ZR.two (hg : Gl X "range") (hm : X.mg "range" = none) (ha : ZE X E a ca) (hb : ZE X E b cb) (na : starEach [a, b] X.env = (false, eval a X.env) :: starEach [b] X.env := by rfl)
    (nb : starEach [b] X.env = (false, eval b X.env) :: starEach [] X.env := by rfl) (hp : (backTo pos (starEach [b] X.env)).any (·.1) = false := by rfl) : ZR X E (.Call (.Name "range" p) [a, b] [] pos) (zrg2 ca cb) := by
  obtain ⟨t, pa, q⟩ := ha
  obtain ⟨u, pb, qb⟩ := hb
  refine ⟨_, prg_2 hg hm pa pb na nb hp, fun σ H θ sl M Q hs hm h => q σ H θ sl M _ hs hm (Post.bind h fun d M1 v H1 θ1 g1 m1 r1 h1 => ?_)⟩
  refine qb σ H1 θ1 sl M1 _ (hs.go g1) m1 (Post.bind h1 fun d2 M2 v2 H2 θ2 g2 m2 r2 h2 => ?_)
  split at h2
  · cases r1
    cases r2
    exact ⟨_, _, rfl, rfl, Post.here (R := EqP) h2 m2 rfl⟩
  · exact h2.elim
theorem ZE.tupRg (zx : ZX X) (hg : Gl X "tuple") (hm : X.mg "tuple" = none) (he : ZR X E e c) (na : starEach [e] X.env = (false, eval e X.env) :: starEach [] X.env := by rfl) : ZE X E (.Call (.Name "tuple" p) [e] [] pos) (ztrg c) := by
  obtain ⟨t, pa, q⟩ := he
  refine ⟨_, pe_tupRg zx.calm hg hm pa na, fun σ H θ sl M Q hs hm h => q σ H θ sl M _ hs hm (Post.bind h fun d M1 v H1 θ1 g1 m1 r1 h1 => ?_)⟩
  cases r1
  split at h1
  · exact ⟨rgIn_ok (by assumption), fun l hl => new_tup h1 m1 (fz_rg _ _) hl⟩
  · exact h1.elim
theorem ZE.lstRg (zx : ZX X) (hg : Gl X "list") (hm : X.mg "list" = none) (he : ZR X E e c) (na : starEach [e] X.env = (false, eval e X.env) :: starEach [] X.env := by rfl) : ZE X E (.Call (.Name "list" p) [e] [] pos) (zlrg c) := by
  obtain ⟨t, pa, q⟩ := he
  refine ⟨_, pe_frz (pe_listRg zx.calm hg hm pa na), fun σ H θ sl M Q hs hm h => q σ H θ sl M _ hs hm (Post.bind h fun d M1 v H1 θ1 g1 m1 r1 h1 => ?_)⟩
  cases r1
  split at h1
  · exact ⟨rgIn_ok (by assumption), (frzl_ok h1 m1 (fz_rg _ _).drs).2⟩
  · exact h1.elim
theorem ZE.lstRgM (zx : ZX X) (hg : Gl X "list") (hm : X.mg "list" = none) (he : ZR X E e c) (na : starEach [e] X.env = (false, eval e X.env) :: starEach [] X.env := by rfl) : ZE X E (.Call (.Name "list" p) [e] [] pos) (zlrgM c) := by
  obtain ⟨t, pa, q⟩ := he
  refine ⟨_, pe_listRg zx.calm hg hm pa na, fun σ H θ sl M Q hs hm h => q σ H θ sl M _ hs hm (Post.bind h fun d M1 v H1 θ1 g1 m1 r1 h1 => ?_)⟩
  cases r1
  split at h1
  · exact ⟨rgIn_ok (by assumption), (mkLst_ok h1 m1 (fz_rg _ _).drs).2⟩
  · exact h1.elim
end
end Z

/-! Z: the law row from its def. -/
namespace Z
open PySem PySem.Spec PyProof.Rows L2
/-- the law's answer is yes, whatever the small script -/
def Yes (F : Fn) (most : Nat) : Prop := ∀ ns : List Int, ns.length ≤ most → (∀ z ∈ ns, Builtin.Int.intBits z ≤ 1048576) → ∃ M, F [.p (.list (ns.map .int))] [] = .ok (.p (.bool true)) M
theorem sr_none {K : PySem.W.Frag} {H : Hp} : SR K [] H [] := ⟨rfl, List.nodup_nil, fun i o a e => by simp at e, fun i o e => by simp at e⟩
theorem fzall_ints {K : PySem.W.Frag} {H : Hp} : ∀ ns : List Int, FzAll K H (ns.map V.int) (ns.map .int)
  | [] => .nil
  | n :: r => .cons (.int n) (fzall_ints r)
/-- the call of the law's def over one abstract heap -/
theorem yes_at {P : Program} {w : World} {K : PySem.W.Frag} {mg : Str → Option Value} {base : Heap} {k : Nat} {fa a : Addr} {fd : FuncData} {x : Str} {Fz_ : Fn} {H : Hp} {s₁ : Shared} {ns : List Int}
    (G : FnG P w K mg base k fa fd [x] (spZ K mg Fz_ 1)) (hbind : ∀ (s : Shared) (u : Value), BindsTo s fd ⟨[u], []⟩ [(x, u)]) (hr : Room k callerA) (e0 : Env0 P w K mg base callerA [] s₁ H)
    (hS : FzL K H a (ns.map V.int)) (yes : ∃ M, Fz_ [.p (.list (ns.map .int))] [] = .ok (.p (.bool true)) M) :
    codeAny (model P w) callerA (.call (.ref fa) ⟨[.ref a], []⟩) (CR (CX P w) [] P w H s₁ (fun v _ => v = .bl true) fun _ _ _ => False) s₁ := by
  obtain ⟨M, hM⟩ := yes
  refine G.run callerA [] s₁ H ⟨[.ref a], []⟩ [.ref a] [.ref a] _ _ hr rfl e0 (hbind s₁ (.ref a)) (.cons rfl .nil) ?_
  refine ⟨[], [.p (.list (ns.map .int))], [], rfl, sr_none, .cons (Fz.lst hS (fzall_ints ns)) .nil, ?_⟩
  rw [hM]
  intro v H' θ' g s' r
  cases r
  rfl
/-- from the law's def to the row's walk -/
theorem walkZ {l : PySem.W.OpenLaw} {n k : Nat} {q : Program} {loose : List Str} {XP : (Str → Option Value) → Heap → Prop} {YP : World → Heap → Prop} {d : DefRec} {K : Params → PySem.W.Frag} {F : Fn} {x : Str}
    (hn : l.most = some n) (hn2 : n ≤ sizeLine) (hdf : d.params.defaults = []) (hr : Room k callerA) (hY : ∀ (w : World) (h : Heap), YP w h → (K w.params).In h)
    (G : ∀ (w : World) (mg : Str → Option Value) (fa : Addr) (h : Heap), (K w.params).In h → h.Ns mainGlobals mg → mg d.name = some (.ref fa) →
      ∃ fd : FuncData, (∀ (s : Shared) (u : Value), BindsTo s fd ⟨[u], []⟩ [(x, u)]) ∧
        ∀ base : Heap, (K w.params).In base → base.Ns mainGlobals mg → FnG l.prog w (K w.params) mg base k fa fd [x] (spZ (K w.params) mg F 1))
    (yes : Yes F n) : PySem.W.WalkO q loose XP YP l.row.toRowW d [] (fun f vs => PySem.call f vs) := by
  refine Att.attach_callB hn hdf fun w s₀ s₁ mg mb fa o pm cd doc a vs ns Gr Y ho hd hcd hmg hobj hints hlen hbits hg => ?_
  have KX : (K w.params).In s₁.heap := hY w _ Y
  obtain ⟨fd, hb, hF⟩ := G w mg fa _ KX Gr.T.g hmg
  have rv : Vals (ns.map V.int) vs := vals_ints hints
  have lv : vs.length = ns.length := hints.length.symm ▸ rfl
  have main : ∀ H : Hp, FzL (K w.params) H a (ns.map V.int) → HOk l.prog w H s₁.heap → (∀ b u, H b = some u → b = a ∧ ∃ o xs, u = .frz o (.lst xs)) → (H a ≠ none → (K w.params).lookup a = none) →
      codeAny (model l.prog w) callerA (.call (.ref fa) ⟨[.ref a], []⟩) (fun r s' => r = .ok (.ret (.bool true)) ∧ OldK s₁.heap s'.heap ∧ s'.os = s₁.os ∧ AllBare s'.gens) s₁ := by
    intro H hS hok hA hK
    have off : ∀ {b : Addr}, b ≠ a → H b = none := fun {b} nb => by
      cases e : H b with
      | none => rfl
      | some u => exact absurd (hA b u e).1 nb
    have dict : ∀ {b : Addr} {o : Obj} {es : Array DictEntry} {ep : Nat}, s₁.heap.get? b = some o → o.data = .dict es ep → (hidT s₁.heap H).get? b = some o := fun {b o es ep} e de => by
      refine hidT_get e (off fun z => ?_)
      subst z
      rw [hobj] at e
      cases e
      cases (show Data.seq vs.toArray _ = Data.dict es ep from de)
    have ns_ : ∀ {b : Addr} {m : Str → Option Value}, s₁.heap.Ns b m → (hidT s₁.heap H).Ns b m := fun {b m} ⟨o, es, ep, e, de, r⟩ => ⟨o, es, ep, dict e de, de, r⟩
    have kb : (K w.params).In (hidT s₁.heap H) := fun b o e => hidT_get (KX b o e) (by
      cases z : H b with
      | none => rfl
      | some u =>
        obtain ⟨rfl, _⟩ := hA b u z
        rw [hK (by rw [z]; simp)] at e
        cases e)
    have mod : Mod (K w.params) mg (hidT s₁.heap H) := by
      obtain ⟨mc, h1, h2⟩ := Gr.T.nolimit
      exact ⟨kb, ns_ Gr.T.g, ⟨mb, ns_ Gr.T.b, Gr.T.builtins⟩, mc, ns_ h1, h2⟩
    have none_in : ∀ b : Addr, ¬ b ∈ ([] : List Addr) := fun b m => by simp at m
    have e0 : Env0 l.prog w (K w.params) mg (hidT s₁.heap H) callerA [] s₁ H := ⟨rfl, mod, fun b o e => of_hidT e, Nat.le_of_eq (hidT_size _ _), trivial, fun b m => (none_in b m).elim, hok, .of_eq hg⟩
    refine codeAny_mono (yes_at (hF _ kb (ns_ Gr.T.g)) hb hr e0 hS (yes ns hlen hbits)) fun r s' h => ?_
    match r, h with
    | .error e, h =>
      obtain ⟨_, _, _, _, _, _, _, _, _, _, _, _, c⟩ := h
      exact c.elim
    | .ok .next, h => exact False.elim h
    | .ok .brk, h => exact False.elim h
    | .ok .cont, h => exact False.elim h
    | .ok (.ret u), ⟨v, H', os, bare, un, hok', r', e⟩ =>
      have e' : v = .bl true := e
      subst e'
      obtain rfl : u = Value.bool true := r'
      refine ⟨rfl, OldK.of_keep fun b o eb => ?_, os, bare⟩
      cases z : H b with
      | none => exact un.keep b o eb z (none_in b) (by simp)
      | some u =>
        obtain ⟨rfl, ob, xs, rfl⟩ := hA b u z
        obtain ⟨g1, _⟩ := hok b _ z
        obtain ⟨g2, _⟩ := hok' b _ (un.frzs b ob _ z)
        rw [eb] at g1
        cases g1
        exact g2
  cases hk : (K w.params).lookup a with
  | some o =>
    have e := KX a o hk
    rw [hobj] at e
    cases e
    exact main (fun _ => none) (.inr ⟨vs, _, hk, by rw [lv]; exact Nat.le_trans hlen hn2, rv⟩) (fun b u z => nomatch z) (fun b u z => nomatch z) fun z => absurd rfl z
  | none =>
    have at_ : ∀ {b : Addr} {u : HO}, (if b = a then some (HO.frz { cls := .type "list", data := .seq vs.toArray } (.lst (ns.map V.int))) else none) = some u → b = a ∧ u = .frz { cls := .type "list", data := .seq vs.toArray } (.lst (ns.map V.int)) := fun {b u} z => by
      split at z
      · cases z; exact ⟨by assumption, rfl⟩
      · cases z
    refine main (fun b => if b = a then some (.frz { cls := .type "list", data := .seq vs.toArray } (.lst (ns.map V.int))) else none) (.inl ⟨_, if_pos rfl⟩) (fun b u z => ?_) (fun b u z => ⟨(at_ z).1, _, _, (at_ z).2⟩) fun _ => hk
    obtain ⟨rfl, rfl⟩ := at_ z
    exact ⟨hobj, by rw [List.length_map]; exact Nat.le_trans hlen hn2, vs, _, rv, hobj⟩
end Z

/-! Z: reckoning with the combinators. -/
namespace Z
open PySem PySem.Spec PyProof.Rows L2
/-! only what stands first is looked at -/
theorem Out.bind_congr {α β : Type} {o o' : Out α} (k : α → Store → Out β) (h : o = o') : o.bind k = o'.bind k := by rw [h]
theorem Out.thn_congr {α : Type} {o o' : Out α} (k : α → Store → OutS) (h : o = o') : o.thn k = o'.thn k := by rw [h]
theorem OutS.seq_congr {o o' : OutS} (k : SC) (h : o = o') : o.seq k = o'.seq k := by rw [h]
section
variable (sl : Sl) (M : Store)
@[simp] theorem z1_e (g : D → Store → Out D) (a : ZC) : z1 g a sl M = (a sl M).bind g := id rfl
@[simp] theorem z2_e (g : D → D → Store → Out D) (a b : ZC) : z2 g a b sl M = (a sl M).bind fun x M1 => (b sl M1).bind fun y M2 => g x y M2 := id rfl
@[simp] theorem zs_e (g : List D → Store → Out D) (a : ZCs) : zs g a sl M = (a sl M).bind g := id rfl
@[simp] theorem zk_e (x : P) : zk x sl M = .ok (.p x) M := id rfl
@[simp] theorem znil_e : znil sl M = .ok [] M := id rfl
@[simp] theorem zcons_e (a : ZC) (r : ZCs) : zcons a r sl M = (a sl M).bind fun x M1 => (r sl M1).bind fun xs M2 => .ok (x :: xs) M2 := id rfl
@[simp] theorem zt_e (a : ZC) : zt a sl M = (a sl M).bind asBool := id rfl
@[simp] theorem asBool_b (b : Bool) : asBool (.p (.bool b)) M = .ok b M := id rfl
@[simp] theorem ztand_e (a b : ZCb) : ztand a b sl M = (a sl M).bind fun k M1 => if k = true then b sl M1 else .ok false M1 := id rfl
@[simp] theorem ztor_e (a b : ZCb) : ztor a b sl M = (a sl M).bind fun k M1 => if k = true then .ok true M1 else b sl M1 := id rfl
@[simp] theorem ztnot_e (a : ZCb) : ztnot a sl M = (a sl M).bind fun k M1 => .ok (!k) M1 := id rfl
@[simp] theorem zand_e (a b : ZC) : zand a b sl M = (a sl M).bind fun x M1 => (asBool x M1).bind fun k M2 => if k = true then b sl M2 else .ok (.p (.bool false)) M2 := id rfl
@[simp] theorem zor_e (a b : ZC) : zor a b sl M = (a sl M).bind fun x M1 => (asBool x M1).bind fun k M2 => if k = true then .ok (.p (.bool true)) M2 else b sl M2 := id rfl
@[simp] theorem znot_e (a : ZC) : znot a sl M = (a sl M).bind fun x M1 => (asBool x M1).bind fun k M2 => .ok (.p (.bool (!k))) M2 := id rfl
@[simp] theorem zif_e (t : ZCb) (a b : ZC) : zif t a b sl M = (t sl M).bind fun k M1 => if k = true then a sl M1 else b sl M1 := id rfl
@[simp] theorem zfrz_e (a : ZC) : zfrz a sl M = (a sl M).bind zfreeze := id rfl
@[simp] theorem zchain_e (g g' : D → D → Store → Out D) (a b c : ZC) : zchain g g' a b c sl M = (a sl M).bind fun x M1 => (b sl M1).bind fun y M2 => (g x y M2).bind fun z M3 => (asBool z M3).bind fun k M4 => if k = true then (c sl M4).bind fun w M5 => g' y w M5 else .ok (.p (.bool false)) M4 := by
  unfold zchain
  congr 1; funext x M1; congr 1; funext y M2; congr 1; funext z M3
  cases z with
  | ref i => rfl
  | p v =>
    cases v with
    | bool k => cases k <;> rfl
    | _ => rfl
@[simp] theorem zno_e : zno sl M = .ok none M := id rfl
@[simp] theorem zpart_e (a : ZC) : zpart a sl M = (a sl M).bind fun d M1 => match d with
  | .p (.int i) => .ok (some i) M1
  | _ => .stuck := id rfl
@[simp] theorem zslice_e (a : ZC) (l h : ZO) : zslice a l h sl M = (a sl M).bind fun d M1 => (l sl M1).bind fun lo M2 => (h sl M2).bind fun hi M3 => zSl d lo hi M3 := id rfl
def itemsOf (d : D) (M1 : Store) : Out (List D) := match d with
  | .p (.tuple xs) => .ok (xs.map .p) M1
  | .p (.list xs) => .ok (xs.map .p) M1
  | .p (.dict kvs) => .ok (kvs.map fun kv => .p kv.1) M1
  | _ => .stuck
def enumOf (d : D) (M1 : Store) : Out (List D) := match d with
  | .p (.tuple xs) => .ok (enumFrom 0 xs) M1
  | .p (.list xs) => .ok (enumFrom 0 xs) M1
  | _ => .stuck
@[simp] theorem zitems_e (a : ZC) : zitems a sl M = (a sl M).bind itemsOf := id rfl
@[simp] theorem zenum_e (a : ZC) : zenum a sl M = (a sl M).bind enumOf := id rfl
@[simp] theorem itemsOf_t (xs : List P) : itemsOf (.p (.tuple xs)) M = .ok (xs.map .p) M := id rfl
@[simp] theorem itemsOf_l (xs : List P) : itemsOf (.p (.list xs)) M = .ok (xs.map .p) M := id rfl
@[simp] theorem itemsOf_d (kvs : List (P × P)) : itemsOf (.p (.dict kvs)) M = .ok (kvs.map fun kv => .p kv.1) M := id rfl
@[simp] theorem enumOf_t (xs : List P) : enumOf (.p (.tuple xs)) M = .ok (enumFrom 0 xs) M := id rfl
@[simp] theorem enumOf_l (xs : List P) : enumOf (.p (.list xs)) M = .ok (enumFrom 0 xs) M := id rfl
theorem rgo1_ex : ∃ f : Int → Store → Out (List D), f = fun j M => if -(2 ^ 62) ≤ j ∧ j < 2 ^ 62 then .ok (rgItems 0 j.toNat) M else .stuck := ⟨_, rfl⟩
/-- sealed: nobody is to reckon with the great numbers in it -/
noncomputable def rgo1 : Int → Store → Out (List D) := Classical.choose rgo1_ex
theorem rgo1_eq : rgo1 = fun j M => if -(2 ^ 62) ≤ j ∧ j < 2 ^ 62 then .ok (rgItems 0 j.toNat) M else .stuck := Classical.choose_spec rgo1_ex
theorem rgo2_ex : ∃ f : Int → Int → Store → Out (List D), f = fun i j M => if -(2 ^ 62) ≤ i ∧ i < 2 ^ 62 ∧ -(2 ^ 62) ≤ j ∧ j < 2 ^ 62 then .ok (rgItems i (j - i).toNat) M else .stuck := ⟨_, rfl⟩
noncomputable def rgo2 : Int → Int → Store → Out (List D) := Classical.choose rgo2_ex
theorem rgo2_eq : rgo2 = fun i j M => if -(2 ^ 62) ≤ i ∧ i < 2 ^ 62 ∧ -(2 ^ 62) ≤ j ∧ j < 2 ^ 62 then .ok (rgItems i (j - i).toNat) M else .stuck := Classical.choose_spec rgo2_ex
@[simp] theorem zrange1_e (a : ZC) : zrange1 a sl M = (a sl M).bind fun d M1 => match d with
  | .p (.int j) => rgo1 j M1
  | _ => .stuck := by rw [rgo1_eq]; rfl
@[simp] theorem zrange2_e (a b : ZC) : zrange2 a b sl M = (a sl M).bind fun d M1 => (b sl M1).bind fun e M2 => match d, e with
  | .p (.int i), .p (.int j) => rgo2 i j M2
  | _, _ => .stuck := by rw [rgo2_eq]; rfl
@[simp] theorem zrg1_e (a : ZC) : zrg1 a sl M = (a sl M).bind fun d M1 => match d with
  | .p (.int n) => .ok ((0 : Int), n) M1
  | _ => .stuck := id rfl
@[simp] theorem zrg2_e (a b : ZC) : zrg2 a b sl M = (a sl M).bind fun d M1 => (b sl M1).bind fun e M2 => match d, e with
  | .p (.int i), .p (.int j) => .ok (i, j) M2
  | _, _ => .stuck := id rfl
@[simp] theorem ztrg_e (c : ZCr) : ztrg c sl M = (c sl M).bind fun p M1 => if rgIn p.1 p.2 = true then .ok (.p (.tuple (rgP p.1 p.2))) M1 else .stuck := id rfl
@[simp] theorem zmt_e (ok : Store → D → Bool) (g : D → List D → Store → Out D) (co : ZC) (cs : ZCs) : zmt ok g co cs sl M = (co sl M).bind fun x M1 => if ok M1 x then (cs sl M1).bind fun ds M2 => g x ds M2 else .stuck := id rfl
@[simp] theorem zm0_e (ok : Store → D → Bool) (g : D → List D → Store → Out D) (co : ZC) : zm0 ok g co sl M = (co sl M).bind fun x M1 => if ok M1 x then g x [] M1 else .stuck := id rfl
@[simp] theorem zstar_e (a : ZC) (r : ZCs) : zstar a r sl M = (a sl M).bind fun x M1 => match x with
  | .p (.tuple xs) => (r sl M1).bind fun ys M2 => .ok (xs.map .p ++ ys) M2
  | x => match lstv M1 x with
    | some xs => (r sl M1).bind fun ys M2 => .ok (xs ++ ys) M2
    | none => .stuck := id rfl
@[simp] theorem zcomp_e (fin : List D → Store → Out D) (vs : List Nat) (ci : ZCs) (f : Tg) (t : ZCb) (e : ZC) : zcomp fin vs ci f t e sl M = (ci sl M).bind fun ds M1 => (compP f t e (wipeS sl vs) ds M1).bind fin := id rfl
@[simp] theorem ztyes_e : ztyes sl M = .ok true M := id rfl
/-- a local name -/
@[simp] theorem zv_0 (d : D) (r : Sl) : zv 0 (some d :: r) M = .ok d M := id rfl
@[simp] theorem zv_S (i : Nat) (o : Option D) (r : Sl) : zv (i + 1) (o :: r) M = zv i r M := id rfl
/-! statements -/
@[simp] theorem sseq_e (a b : SC) : sseq a b sl M = (a sl M).seq b := id rfl
@[simp] theorem sskip_e : sskip sl M = .nx sl M := id rfl
@[simp] theorem sset_e (i : Nat) (c : ZC) : sset i c sl M = (c sl M).thn fun d M1 => .nx (sl.set i (some d)) M1 := id rfl
@[simp] theorem sret_e (c : ZC) : sret c sl M = (c sl M).thn fun d M1 => .rt d M1 := id rfl
@[simp] theorem sretN_e : sretN sl M = .rt (.p .none) M := id rfl
@[simp] theorem sexpr_e (c : ZC) : sexpr c sl M = (c sl M).thn fun _ M1 => .nx sl M1 := id rfl
@[simp] theorem sif_e (t : ZCb) (a b : SC) : sif t a b sl M = (t sl M).thn fun k M1 => if k = true then a sl M1 else b sl M1 := id rfl
@[simp] theorem stg_e (f : Tg) (c : ZC) : stg f c sl M = (c sl M).thn fun d M1 => match f d sl with
  | some sl1 => .nx sl1 M1
  | none => .stuck := id rfl
@[simp] theorem spar_e (is : List Nat) (c : ZCs) : spar is c sl M = (c sl M).thn fun ds M1 => match setAll is ds sl with
  | some sl1 => .nx sl1 M1
  | none => .stuck := id rfl
@[simp] theorem sfor_e (f : Tg) (ci : ZCs) (body : SC) : sfor f ci body sl M = (ci sl M).thn fun ds M1 => forP f body ds sl M1 := id rfl
@[simp] theorem setAll_nil : setAll [] [] sl = some sl := id rfl
@[simp] theorem setAll_cons (i : Nat) (is : List Nat) (d : D) (ds : List D) : setAll (i :: is) (d :: ds) sl = setAll is ds (sl.set i (some d)) := id rfl
@[simp] theorem sstore_e (f : D → D → D → Store → Option Store) (cv co ci : ZC) : sstore f cv co ci sl M = (cv sl M).thn fun v M1 => (co sl M1).thn fun o M2 => (ci sl M2).thn fun i M3 => match f o i v M3 with
  | some M4 => .nx sl M4
  | none => .stuck := by
  unfold sstore
  cases cv sl M with
  | stuck => rfl
  | exc x M1 => rfl
  | ok v M1 =>
    simp only [Out.thn_ok]
    cases co sl M1 with
    | stuck => rfl
    | exc x M1 => rfl
    | ok o M2 =>
      simp only [Out.thn_ok]
      cases ci sl M2 with
      | stuck => rfl
      | exc x M1 => rfl
      | ok i M3 => rfl
@[simp] theorem tgN_e (i : Nat) (d : D) : tgN i d sl = some (sl.set i (some d)) := id rfl
@[simp] theorem tgT_e (f : List P → Sl → Option Sl) (xs : List P) : tgT f (.p (.tuple xs)) sl = f xs sl := id rfl
@[simp] theorem tgsNil_e : tgsNil [] sl = some sl := id rfl
@[simp] theorem tgsCons_e (f : Tg) (r : List P → Sl → Option Sl) (x : P) (xs : List P) : tgsCons f r (x :: xs) sl = match f (.p x) sl with
  | some sl1 => r xs sl1
  | none => none := id rfl
/-! operators -/
@[simp] theorem zAdd_i (i j : Int) : zAdd (.p (.int i)) (.p (.int j)) M = .ok (.p (.int (i + j))) M := id rfl
@[simp] theorem zSub_i (i j : Int) : zSub (.p (.int i)) (.p (.int j)) M = .ok (.p (.int (i - j))) M := id rfl
@[simp] theorem zNeg_i (i : Int) : zNeg (.p (.int i)) M = .ok (.p (.int (-i))) M := id rfl
@[simp] theorem zMul_i (i j : Int) : zMul (.p (.int i)) (.p (.int j)) M = if CMul i j then .ok (.p (.int (i * j))) M else .stuck := id rfl
@[simp] theorem zMod_i (i j : Int) : zMod (.p (.int i)) (.p (.int j)) M = if 0 < j then .ok (.p (.int (i % j))) M else .stuck := id rfl
@[simp] theorem zDiv_i (i j : Int) : zDiv (.p (.int i)) (.p (.int j)) M = if 0 < j ∧ j < 1073741824 then .ok (.p (.int (i / j))) M else .stuck := id rfl
@[simp] theorem zcmpI_i (f : Int → Int → Bool) (i j : Int) : zcmpI f (.p (.int i)) (.p (.int j)) M = .ok (.p (.bool (f i j))) M := id rfl
@[simp] theorem zInt_i (i : Int) : zInt [.p (.int i)] M = .ok (.p (.int i)) M := id rfl
@[simp] theorem zInt_b (i : Bool) : zInt [.p (.bool i)] M = .ok (.p (.int (if i then 1 else 0))) M := id rfl
@[simp] theorem zMax_2 (i j : Int) : zMax [.p (.int i), .p (.int j)] M = .ok (.p (.int (max i j))) M := id rfl
@[simp] theorem zMin_2 (i j : Int) : zMin [.p (.int i), .p (.int j)] M = .ok (.p (.int (min i j))) M := id rfl
@[simp] theorem zLen_t (xs : List P) : zLen [.p (.tuple xs)] M = .ok (.p (.int xs.length)) M := id rfl
@[simp] theorem zLen_l (xs : List P) : zLen [.p (.list xs)] M = .ok (.p (.int (xs.map D.p).length)) M := id rfl
@[simp] theorem mkTup_p (xs : List P) : mkTup (xs.map .p) M = if xs.length ≤ sizeLine then .ok (.p (.tuple xs)) M else .stuck := by simp [mkTup]
@[simp] theorem snap_ptup (n : Nat) (x : P) : snap n M (.p x) = some x := snap_p n M x
@[simp] theorem zEq_int (i j : Int) : zEq (.p (.int i)) (.p (.int j)) M = .ok (.p (.bool (decide (i = j)))) M := by simp [zEq, peq]
@[simp] theorem zEq_str (i j : Str) : zEq (.p (.str i)) (.p (.str j)) M = .ok (.p (.bool (decide (i = j)))) M := by simp [zEq, peq]
@[simp] theorem zNe_int (i j : Int) : zNe (.p (.int i)) (.p (.int j)) M = .ok (.p (.bool (!decide (i = j)))) M := by simp [zNe, peq]
@[simp] theorem zNe_str (i j : Str) : zNe (.p (.str i)) (.p (.str j)) M = .ok (.p (.bool (!decide (i = j)))) M := by simp [zNe, peq]
@[simp] theorem zTuple_t (xs : List P) : zTuple [.p (.tuple xs)] M = .ok (.p (.tuple xs)) M := id rfl
@[simp] theorem zTuple_l (xs : List P) : zTuple [.p (.list xs)] M = .ok (.p (.tuple xs)) M := by simp [zTuple]
end
/-! subscripts, slices -/
theorem atI_nat' {α : Type} (xs : List α) (j : Nat) : atI xs (j : Int) = xs[j]? := by
  unfold atI ixN
  rw [if_pos (by omega)]
  by_cases h : j < xs.length
  · rw [if_pos (by omega)]
    simp
  · rw [if_neg (by omega), List.getElem?_eq_none (by omega)]
    rfl
theorem zIx_no {a b : D} {M : Store} (h : dictv M a = none) : zIx a b M = zIxL a b M := by
  unfold zIx
  rw [h]
theorem zIx_t {xs : List P} {j : Nat} {x : P} (M : Store) (h : xs[j]? = some x) : zIx (.p (.tuple xs)) (.p (.int (j : Int))) M = .ok (.p x) M := by
  rw [zIx_no (by rfl)]
  unfold zIxL
  simp only [atI_nat', h]
theorem zIx_l {xs : List P} {j : Nat} {x : P} (M : Store) (h : xs[j]? = some x) : zIx (.p (.list xs)) (.p (.int (j : Int))) M = .ok (.p x) M := by
  rw [zIx_no (by rfl)]
  unfold zIxL
  simp only [lstv_p, atI_nat', List.getElem?_map, h, Option.map_some]
@[simp] theorem zIx_t0 (x : P) (xs : List P) (M : Store) : zIx (.p (.tuple (x :: xs))) (.p (.int 0)) M = .ok (.p x) M := zIx_t (j := 0) M rfl
@[simp] theorem zIx_t1 (y x : P) (xs : List P) (M : Store) : zIx (.p (.tuple (y :: x :: xs))) (.p (.int 1)) M = .ok (.p x) M := zIx_t (j := 1) M rfl
@[simp] theorem zIx_t2 (z y x : P) (xs : List P) (M : Store) : zIx (.p (.tuple (z :: y :: x :: xs))) (.p (.int 2)) M = .ok (.p x) M := zIx_t (j := 2) M rfl
@[simp] theorem zIx_t3 (u z y x : P) (xs : List P) (M : Store) : zIx (.p (.tuple (u :: z :: y :: x :: xs))) (.p (.int 3)) M = .ok (.p x) M := zIx_t (j := 3) M rfl
/-- a subscript of a list of the store -/
theorem zIx_r {M : Store} {i j : Nat} {ds : List D} {d : D} (h : lstAt M i = some ds) (e : ds[j]? = some d) : zIx (.ref i) (.p (.int (j : Int))) M = .ok d M := by
  have l : lstv M (.ref i) = some ds := by
    unfold lstAt at h
    unfold lstv
    simp only
    split at h
    · cases h; simp [*]
    · cases h
  have l2 : dictv M (.ref i) = none := by
    unfold lstAt at h
    unfold dictv
    simp only
    split at h
    · simp [*]
    · cases h
  rw [zIx_no l2]
  unfold zIxL
  simp only [l, atI_nat', e]
theorem lstv_of {M : Store} {i : Nat} {ds : List D} (h : lstAt M i = some ds) : lstv M (.ref i) = some ds := by
  unfold lstAt at h
  unfold lstv
  simp only
  split at h
  · cases h; simp [*]
  · cases h
/-! loops -/
/-- a loop that goes to its end, by an invariant over what is done -/
theorem forP_inv {f : Tg} {body : SC} (I : List D → Sl → Store → Prop) : ∀ (post pre : List D) {sl : Sl} {M : Store}, I pre sl M →
    (∀ a d b sl M, pre ++ post = a ++ d :: b → I a sl M → ∃ sl1 sl2 M2, f d sl = some sl1 ∧ body sl1 M = .nx sl2 M2 ∧ I (a ++ [d]) sl2 M2) →
    ∃ sl' M', forP f body post sl M = .nx sl' M' ∧ I (pre ++ post) sl' M'
  | [], pre, sl, M, h, _ => ⟨sl, M, rfl, by rw [List.append_nil]; exact h⟩
  | d :: post, pre, sl, M, h, st => by
    obtain ⟨sl1, sl2, M2, e1, e2, h2⟩ := st pre d post sl M rfl h
    obtain ⟨sl', M', e3, h3⟩ := forP_inv I post (pre ++ [d]) h2 (fun a d' b sl M e => st a d' b sl M (by rw [← e]; simp))
    refine ⟨sl', M', ?_, by simpa using h3⟩
    unfold forP
    simp only [e1, e2, OutS.seq_nx, e3]
/-- the same where what is walked is a mapped list -/
theorem forP_map {α : Type} {f : Tg} {body : SC} (g : α → D) (xs : List α) (I : List α → Sl → Store → Prop) {sl : Sl} {M : Store} (h0 : I [] sl M)
    (st : ∀ a x b sl M, xs = a ++ x :: b → I a sl M → ∃ sl1 sl2 M2, f (g x) sl = some sl1 ∧ body sl1 M = .nx sl2 M2 ∧ I (a ++ [x]) sl2 M2) :
    ∃ sl' M', forP f body (xs.map g) sl M = .nx sl' M' ∧ I xs sl' M' := by
  have go : ∀ (post pre : List α) {sl : Sl} {M : Store}, xs = pre ++ post → I pre sl M → ∃ sl' M', forP f body (post.map g) sl M = .nx sl' M' ∧ I xs sl' M' := by
    intro post
    induction post with
    | nil => intro pre sl M e h; exact ⟨sl, M, rfl, by rw [e, List.append_nil]; exact h⟩
    | cons x post ih =>
      intro pre sl M e h
      obtain ⟨sl1, sl2, M2, e1, e2, h2⟩ := st pre x post sl M e h
      obtain ⟨sl', M', e3, h3⟩ := ih (pre ++ [x]) (by rw [e]; simp) h2
      refine ⟨sl', M', ?_, h3⟩
      rw [List.map_cons]
      unfold forP
      simp only [e1, e2, OutS.seq_nx, e3]
  exact go xs [] rfl h0
/-- a comprehension whose parts change nothing -/
theorem compP_map {α : Type} {f : Tg} {t : ZCb} {e : ZC} {sl : Sl} {M : Store} (g : α → D) (p : α → Bool) (r : α → D) : ∀ (xs : List α),
    (∀ x ∈ xs, ∃ sl1, f (g x) sl = some sl1 ∧ t sl1 M = .ok (p x) M ∧ (p x = true → e sl1 M = .ok (r x) M)) → compP f t e sl (xs.map g) M = .ok ((xs.filter p).map r) M
  | [], _ => rfl
  | x :: xs, h => by
    obtain ⟨sl1, e1, e2, e3⟩ := h x List.mem_cons_self
    have ih := compP_map g p r xs fun y hy => h y (List.mem_cons_of_mem _ hy)
    rw [List.map_cons]
    unfold compP
    simp only [e1, e2, noexc, Out.bind_ok]
    cases hp : p x with
    | true =>
      simp only [if_true, e3 hp, noexc, Out.bind_ok, ih]
      rw [List.filter_cons_of_pos hp, List.map_cons]
    | false =>
      simp only [Bool.false_eq_true, if_false, ih]
      rw [List.filter_cons_of_neg (by simp [hp])]
theorem enumFrom_map {α : Type} (enc : α → P) (xs : List α) : enumFrom 0 (xs.map enc) = xs.zipIdx.map fun p => .p (.tuple [.int (p.2 : Nat), enc p.1]) := by
  have go : ∀ (xs : List α) (k : Nat), enumFrom k (xs.map enc) = (xs.zipIdx k).map fun p => .p (.tuple [.int (p.2 : Nat), enc p.1]) := by
    intro xs
    induction xs with
    | nil => intro k; rfl
    | cons x xs ih => intro k; rw [List.map_cons, enumFrom, List.zipIdx_cons, List.map_cons, ih (k + 1)]
  exact go xs 0
end Z

/-! Skeletons as Lean lists. -/
namespace Z
open PySem PySem.Spec PyProof.Rows L2
theorem fn_rt {n : Nat} {c : SC} {ds : List D} {M M' : Store} {x : P} (h : c (ds.map some ++ List.replicate (n - ds.length) none) M = .rt (.p x) M') : fnB n c ds M = .ok (.p x) (M'.take M.length) := by
  unfold fnB runB
  rw [h]
  rfl
theorem fn_rtN {n : Nat} {c : SC} {ds : List D} {M R : Store} {x : P} (h : c (ds.map some ++ List.replicate (n - ds.length) none) M = .rt (.p x) (M ++ R)) : fnB n c ds M = .ok (.p x) M := by
  rw [fn_rt h, List.take_left]
theorem fn_rt0 {n : Nat} {c : SC} {ds : List D} {M : Store} {x : P} (h : c (ds.map some ++ List.replicate (n - ds.length) none) M = .rt (.p x) M) : fnB n c ds M = .ok (.p x) M := by
  rw [fn_rt h, List.take_length]
inductive Itm where
  | lab
  | fil (s : Int)
  | jmp (g : Nat) (s l : Int)
deriving DecidableEq
def Itm.enc : Itm → P
  | .lab => .tuple [.str "label"]
  | .fil s => .tuple [.str "fill", .int s]
  | .jmp g s l => .tuple [.str "jump", .int (g : Int), .int s, .int l]
def Itm.isJ : Itm → Bool
  | .jmp _ _ _ => true
  | _ => false
def Itm.isF : Itm → Bool
  | .fil _ => true
  | _ => false
def Itm.isL : Itm → Bool
  | .lab => true
  | _ => false
def Itm.tag : Itm → Str
  | .lab => "label"
  | .fil _ => "fill"
  | .jmp _ _ _ => "jump"
def sk (xs : List Itm) : P := .tuple (xs.map Itm.enc)
def pints (ns : List Int) : List P := ns.map .int
def pnats (ns : List Nat) : List P := ns.map fun n : Nat => .int (n : Int)
@[simp] theorem tag_J (x : Itm) : decide (x.tag = ("jump" : Str)) = x.isJ := by cases x <;> rfl
@[simp] theorem tag_F (x : Itm) : decide (x.tag = ("fill" : Str)) = x.isF := by cases x <;> rfl
@[simp] theorem tag_L (x : Itm) : decide (x.tag = ("label" : Str)) = x.isL := by cases x <;> rfl
@[simp] theorem ix_tag (x : Itm) (M : Store) : zIx (.p x.enc) (.p (.int 0)) M = .ok (.p (.str x.tag)) M := by cases x <;> rfl
/-- an item of the skeleton -/
theorem ix_sk {xs : List Itm} {j : Nat} {x : Itm} (M : Store) (h : xs[j]? = some x) : zIx (.p (sk xs)) (.p (.int (j : Int))) M = .ok (.p x.enc) M := zIx_t M (by rw [List.getElem?_map, h]; rfl)
/-- the places at which p holds -/
def places (p : Itm → Bool) (xs : List Itm) : List Nat := (xs.zipIdx.filter fun q => p q.1).map Prod.snd
theorem mem_places {p : Itm → Bool} {xs : List Itm} {j : Nat} : j ∈ places p xs ↔ ∃ x, xs[j]? = some x ∧ p x = true := by
  unfold places
  simp only [List.mem_map, List.mem_filter]
  constructor
  · rintro ⟨⟨x, i⟩, ⟨h, hp⟩, rfl⟩
    exact ⟨x, by simpa using List.mem_zipIdx_iff_getElem?.mp h, hp⟩
  · rintro ⟨x, h, hp⟩
    exact ⟨(x, j), ⟨List.mem_zipIdx_iff_getElem?.mpr h, hp⟩, rfl⟩

@[simp] theorem frzl_mapf {α : Type} (f : α → P) (xs : List α) (M : Store) : frzl (xs.map fun x => .p (f x)) M = if xs.length ≤ sizeLine then .ok (.p (.list (xs.map f))) M else .stuck := by
  have e : (xs.map fun x => D.p (f x)) = (xs.map f).map .p := by rw [List.map_map]; rfl
  rw [e, frzl_map, List.length_map]
@[simp] theorem intsOf_mapf {α : Type} (f : α → Int) (xs : List α) : intsOf (xs.map fun x => .p (.int (f x))) = some (xs.map f) := by
  have e : (xs.map fun x => D.p (.int (f x))) = (xs.map f).map fun i => .p (.int i) := by rw [List.map_map]; rfl
  rw [e, intsOf_map]
theorem zlen_places (p : Itm → Bool) (xs : List Itm) : (xs.zipIdx.filter fun q => p q.1).length ≤ xs.length := by
  have := List.length_filter_le (fun q : Itm × Nat => p q.1) xs.zipIdx
  rw [List.length_zipIdx] at this
  exact this
theorem small {n : Nat} (h : n ≤ 1000) : n ≤ 16777216 := by omega
/-- the skeleton's shape: goals and sizes are not out of the way -/
def Sane (xs : List Itm) : Prop := xs.length ≤ 1000 ∧ ∀ x ∈ xs, match x with
  | .jmp g _ _ => g ≤ xs.length
  | _ => True

/-! ### stores -/
@[simp] theorem pures_cons (x : P) (r : List D) : pures (.p x :: r) = (pures r).map (x :: ·) := id rfl
@[simp] theorem pures_mapf {α : Type} (f : α → P) (xs : List α) : pures (xs.map fun x => .p (f x)) = some (xs.map f) := by
  have e : (xs.map fun x => D.p (f x)) = (xs.map f).map .p := by rw [List.map_map]; rfl
  rw [e, pures_map]
@[simp] theorem pures_comp {α : Type} (f : α → P) (xs : List α) : pures (xs.map (D.p ∘ f)) = some (xs.map f) := pures_mapf f xs
@[simp] theorem intsOf_cons (i : Int) (r : List D) : intsOf (.p (.int i) :: r) = (intsOf r).map (i :: ·) := id rfl
@[simp] theorem intsOf_comp (xs : List Int) : intsOf (xs.map (D.p ∘ PyData.int)) = some xs := by
  have := intsOf_mapf (fun x : Int => x) xs
  simpa [Function.comp_def] using this
@[simp] theorem intsOf_ints (xs : List Int) : intsOf ((pints xs).map .p) = some xs := by rw [pints, List.map_map]; exact intsOf_comp xs
@[simp] theorem intsOf_nil : intsOf [] = some [] := id rfl
@[simp] theorem lstAt_app0 (M R : Store) : lstAt (M ++ R) M.length = lstAt R 0 := by unfold lstAt; rw [List.getElem?_append_right (Nat.le_refl _), Nat.sub_self]
@[simp] theorem lstAt_appk (M R : Store) (k : Nat) : lstAt (M ++ R) (M.length + k) = lstAt R k := by unfold lstAt; rw [List.getElem?_append_right (by omega), Nat.add_sub_cancel_left]
@[simp] theorem set_app0 (M R : Store) (o : Ob) : (M ++ R).set M.length o = M ++ R.set 0 o := by rw [List.set_append_right _ _ (Nat.le_refl _), Nat.sub_self]
@[simp] theorem set_appk (M R : Store) (k : Nat) (o : Ob) : (M ++ R).set (M.length + k) o = M ++ R.set k o := by rw [List.set_append_right _ _ (by omega), Nat.add_sub_cancel_left]
@[simp] theorem lstAt_c0 (ds : List D) (R : Store) : lstAt (.lst ds :: R) 0 = some ds := id rfl
@[simp] theorem lstAt_cS (o : Ob) (R : Store) (k : Nat) : lstAt (o :: R) (k + 1) = lstAt R k := id rfl
theorem lstv_ref {M : Store} {i : Nat} : lstv M (.ref i) = match M[i]? with
  | some (.lst ds) => some ds
  | some (.frz xs) => some (xs.map .p)
  | _ => none := rfl
@[simp] theorem lstv_app0 (M R : Store) : lstv (M ++ R) (.ref M.length) = lstv R (.ref 0) := by simp only [lstv_ref, List.getElem?_append_right (Nat.le_refl _), Nat.sub_self]
@[simp] theorem lstv_appk (M R : Store) (k : Nat) : lstv (M ++ R) (.ref (M.length + k)) = lstv R (.ref k) := by
  simp only [lstv_ref]; rw [List.getElem?_append_right (by omega), Nat.add_sub_cancel_left]
@[simp] theorem lstv_c0 (ds : List D) (R : Store) : lstv (.lst ds :: R) (.ref 0) = some ds := id rfl
@[simp] theorem lstv_f0 (ds : List P) (R : Store) : lstv (.frz ds :: R) (.ref 0) = some (ds.map .p) := id rfl
@[simp] theorem lstv_cS (o : Ob) (R : Store) (k : Nat) : lstv (o :: R) (.ref (k + 1)) = lstv R (.ref k) := id rfl
theorem zfreeze_r {M M' : Store} {i : Nat} {xs : List P} (h : lstAt M i = some (xs.map .p)) : zfreeze (.ref i) M = .ok (.p (.list xs)) (M.set i (.frz xs)) := by
  unfold lstAt at h
  unfold zfreeze
  simp only
  split at h
  · rename_i q
    cases h
    simp only [q, pures_map]
  · cases h
@[simp] theorem zfreeze_app0 (M R : Store) (xs : List P) : zfreeze (.ref M.length) (M ++ .lst (xs.map .p) :: R) = .ok (.p (.list xs)) (M ++ .frz xs :: R) := by
  rw [zfreeze_r (M' := M) (xs := xs) (by simp)]
  simp
@[simp] theorem isL_ref (M : Store) (d : D) : isL M d = (lstv M d).isSome := id rfl
@[simp] theorem zAppend_e (i : Nat) (y : P) (M : Store) : zAppend (.ref i) [.p y] M = match lstAt M i with
  | some xs => if xs.length < sizeLine then .ok (.p .none) (M.set i (.lst (xs ++ [.p y]))) else .stuck
  | none => .stuck := by
  unfold zAppend
  simp only
  cases lstAt M i with
  | none => rfl
  | some xs => simp [D.low]
theorem all_low (i : Nat) (xs : List P) : (xs.map D.p).all (D.low i) = true := by simp [List.all_eq_true, D.low]
@[simp] theorem zExtend_e (i : Nat) (ys : List P) (M : Store) : zExtend (.ref i) [.p (.list ys)] M = match lstAt M i with
  | some xs => if xs.length + ys.length ≤ sizeLine then .ok (.p .none) (M.set i (.lst (xs ++ ys.map .p))) else .stuck
  | none => .stuck := by
  unfold zExtend
  simp only [lstv_p]
  cases lstAt M i with
  | none => rfl
  | some xs => simp only [all_low, List.length_map, true_and]
@[simp] theorem mkLst_e (ds : List D) (M : Store) : mkLst ds M = if ds.length ≤ sizeLine then .ok (.ref M.length) (M ++ [.lst ds]) else .stuck := id rfl
/-! ### slices -/
theorem cutG_nn {α : Type} (l : List α) (a b : Nat) : cutG l (some (a : Int)) (some (b : Int)) = (l.take b).drop a := by
  unfold cutG
  rw [HT.sIx_nat, HT.sIx_nat, List.drop_take]
  by_cases h : a ≤ l.length
  · rw [Nat.min_eq_left h]
    by_cases h2 : b ≤ l.length
    · rw [Nat.min_eq_left h2]
    · rw [Nat.min_eq_right (by omega), List.take_of_length_le (by rw [List.length_drop]; omega), List.take_of_length_le (by rw [List.length_drop]; omega)]
  · rw [List.drop_eq_nil_of_le (show l.length ≤ a by omega), List.take_nil, show min a l.length = l.length by omega, List.drop_length, List.take_nil]
theorem cutG_n_ {α : Type} (l : List α) (a : Nat) : cutG l (some (a : Int)) none = l.drop a := by
  unfold cutG
  rw [HT.sIx_nat, HT.sIx_none]
  by_cases h : a ≤ l.length
  · rw [Nat.min_eq_left h, List.take_of_length_le (by rw [List.length_drop]; omega)]
  · rw [Nat.min_eq_right (by omega), List.drop_eq_nil_of_le (Nat.le_refl _), List.drop_eq_nil_of_le (by omega), List.take_nil]
theorem cutG__n {α : Type} (l : List α) (b : Nat) : cutG l none (some (b : Int)) = l.take b := by
  unfold cutG
  rw [HT.sIx_none, HT.sIx_nat, List.drop_zero, Nat.sub_zero]
  exact List.take_eq_take_min.symm
theorem cutG_map {α β : Type} (f : α → β) (l : List α) (a b : Option Int) : cutG (l.map f) a b = (cutG l a b).map f := by
  unfold cutG
  simp [List.map_take, List.map_drop]
@[simp] theorem zSl_t (xs : List P) (a b : Option Int) (M : Store) : zSl (.p (.tuple xs)) a b M = .ok (.p (.tuple (cutG xs a b))) M := id rfl
/-! ### fills -/
def Itm.sz : Itm → Int
  | .fil s => s
  | _ => 0
def fillsOf (l : List Itm) : List Int := (l.filter Itm.isF).map Itm.sz
theorem ix_sz {x : Itm} (M : Store) (h : x.isF = true) : zIx (.p x.enc) (.p (.int 1)) M = .ok (.p (.int x.sz)) M := by
  cases x with
  | fil s => rfl
  | _ => cases h
theorem len_fills (l : List Itm) : (fillsOf l).length ≤ l.length := by unfold fillsOf; rw [List.length_map]; exact List.length_filter_le _ _

@[simp] theorem zfc_e (n : Nat) (F : Fn) (ds : List D) (M : Store) : zfc n F ds M = if ds.length = n then F ds M else .stuck := id rfl
/-- an outcome as wanted -/
def Sat {α : Type} (Q : α → Prop) (o : α) : Prop := Q o
theorem Sat.mk {α : Type} {Q : α → Prop} {o : α} (h : Q o) : Sat Q o := h
/-- a loop, then what follows -/
theorem forP_seq {α : Type} {f : Tg} {body : SC} {Q : OutS → Prop} {k : SC} {sl : Sl} {M : Store} (g : α → D) (xs : List α) (I : List α → Sl → Store → Prop) (h0 : I [] sl M)
    (st : ∀ a x b sl M, xs = a ++ x :: b → I a sl M → ∃ sl1, f (g x) sl = some sl1 ∧ Sat (fun o => ∃ sl2 M2, o = .nx sl2 M2 ∧ I (a ++ [x]) sl2 M2) (body sl1 M))
    (fin : ∀ sl M, I xs sl M → Sat Q (k sl M)) : Sat Q ((forP f body (xs.map g) sl M).seq k) := by
  obtain ⟨sl', M', e, h⟩ := forP_map g xs I h0 fun a x b sl M e i => by
    obtain ⟨sl1, e1, sl2, M2, e2, i2⟩ := st a x b sl M e i
    exact ⟨sl1, sl2, M2, e1, e2, i2⟩
  rw [e]
  exact fin sl' M' h
/-- a loop that is the block's last -/
theorem forP_last {α : Type} {f : Tg} {body : SC} {Q : OutS → Prop} {sl : Sl} {M : Store} (g : α → D) (xs : List α) (I : List α → Sl → Store → Prop) (h0 : I [] sl M)
    (st : ∀ a x b sl M, xs = a ++ x :: b → I a sl M → ∃ sl1, f (g x) sl = some sl1 ∧ Sat (fun o => ∃ sl2 M2, o = .nx sl2 M2 ∧ I (a ++ [x]) sl2 M2) (body sl1 M))
    (fin : ∀ sl M, I xs sl M → Sat Q (.nx sl M)) : Sat Q (forP f body (xs.map g) sl M) := by
  obtain ⟨sl', M', e, h⟩ := forP_map g xs I h0 fun a x b sl M e i => by
    obtain ⟨sl1, e1, sl2, M2, e2, i2⟩ := st a x b sl M e i
    exact ⟨sl1, sl2, M2, e1, e2, i2⟩
  rw [e]
  exact fin sl' M' h
theorem fn_satN {n : Nat} {c : SC} {ds : List D} {M : Store} {x : P} (h : Sat (fun o => ∃ R, o = .rt (.p x) (M ++ R)) (c (ds.map some ++ List.replicate (n - ds.length) none) M)) : fnB n c ds M = .ok (.p x) M := by
  obtain ⟨R, h⟩ := h
  exact fn_rtN h
theorem dp_pnats (ns : List Nat) : (pnats ns).map D.p = ns.map fun n : Nat => D.p (.int (n : Int)) := by rw [pnats, List.map_map]; rfl
theorem dp_pints (ns : List Int) : (pints ns).map D.p = ns.map fun n : Int => D.p (.int n) := by rw [pints, List.map_map]; rfl
theorem dp_enc (xs : List Itm) : (xs.map Itm.enc).map D.p = xs.map fun x => D.p x.enc := by rw [List.map_map]; rfl
@[simp] theorem pints_app (a b : List Int) : pints a ++ pints b = pints (a ++ b) := by simp [pints]
@[simp] theorem pints_len (a : List Int) : (pints a).length = a.length := by simp [pints]
@[simp] theorem pnats_len (a : List Nat) : (pnats a).length = a.length := by simp [pnats]
theorem dp_snoc (a : List Int) (i : Int) : (pints a).map D.p ++ [D.p (.int i)] = (pints (a ++ [i])).map D.p := by simp [pints]

/-! ### comparing -/
theorem can_map {α : Type} (f : α → P) (h : ∀ x, (f x).canLay0 = true) : ∀ xs : List α, PyData.canLayAll0 (xs.map f) = true
  | [] => rfl
  | x :: xs => by rw [List.map_cons, PyData.canLayAll0, h x, can_map f h xs]; rfl
theorem dep_map {α : Type} (f : α → P) (n : Nat) (h : ∀ x, (f x).depth ≤ n) : ∀ xs : List α, PyData.depthAll (xs.map f) ≤ n
  | [] => Nat.zero_le _
  | x :: xs => by rw [List.map_cons, PyData.depthAll]; exact Nat.max_le.mpr ⟨h x, dep_map f n h xs⟩
theorem sh_tup {α : Type} (f : α → P) (n : Nat) (hn : n ≤ 60) (h : ∀ x, (f x).canLay0 = true ∧ (f x).depth ≤ n) (xs : List α) : SeqAt.shaped (.tuple (xs.map f)) = true ∧ SeqAt.shaped (.list (xs.map f)) = true := by
  have h1 := can_map f (fun x => (h x).1) xs
  have h2 := dep_map f n (fun x => (h x).2) xs
  have h3 : PyData.depthAll (xs.map f) + 1 ≤ 64 := by omega
  have h4 : (PyData.canLayAll0 (xs.map f) && decide (PyData.depthAll (xs.map f) + 1 ≤ 64)) = true := by rw [h1, decide_eq_true h3]; rfl
  exact ⟨h4, h4⟩
theorem eqv_ints (xs ys : List Int) : PyData.eqvAll (pints xs) (pints ys) = decide (xs = ys) := PySem.W.eqvAll_map xs ys
theorem pnats_ints (ns : List Nat) : pnats ns = pints (ns.map fun n : Nat => (n : Int)) := by simp [pnats, pints]
theorem any_ints (ns : List Int) (i : Int) : ((pints ns).any fun z => PyData.eqv z (.int i)) = decide (i ∈ ns) := PySem.W.any_datum ns i
theorem any_strs (ns : List Str) (i : Str) : ((ns.map PyData.str).any fun z => PyData.eqv z (.str i)) = decide (i ∈ ns) := PySem.W.any_datum ns i
theorem sh_ints (ns : List Int) : SeqAt.shaped (.tuple (pints ns)) = true ∧ SeqAt.shaped (.list (pints ns)) = true := sh_tup _ 0 (by decide) (fun x => ⟨rfl, Nat.le_refl _⟩) ns
theorem zin_ti (neg : Bool) (i : Int) (ns : List Int) (M : Store) : zin neg (.p (.int i)) (.p (.tuple (pints ns))) M = .ok (.p (.bool (neg ^^ decide (i ∈ ns)))) M := by
  unfold zin zinL
  simp only [dictv_t, snap_p, sh_int, (sh_ints ns).1, and_self, if_true, any_ints]
theorem zin_li (neg : Bool) (i : Int) (ns : List Int) (M : Store) : zin neg (.p (.int i)) (.p (.list (pints ns))) M = .ok (.p (.bool (neg ^^ decide (i ∈ ns)))) M := by
  unfold zin zinL
  simp only [dictv_l, snap_p, sh_int, (sh_ints ns).2, and_self, if_true, any_ints]
@[simp] theorem zin_tn (neg : Bool) (i : Nat) (ns : List Nat) (M : Store) : zin neg (.p (.int (i : Int))) (.p (.tuple (pnats ns))) M = .ok (.p (.bool (neg ^^ decide (i ∈ ns)))) M := by
  rw [pnats_ints, zin_ti]
  congr 4
  simp only [List.mem_map, decide_eq_decide]
  exact ⟨fun ⟨a, h, e⟩ => by rw [← Int.ofNat.inj e]; exact h, fun h => ⟨i, h, rfl⟩⟩
theorem zEq_refl {x : P} (M : Store) (h : SeqAt.shaped x = true) : zEq (.p x) (.p x) M = .ok (.p (.bool true)) M := by
  unfold zEq
  simp only [snap_p]
  have e : peq x x = some true := by
    unfold peq
    split
    · simp
    · simp
    · rfl
    · rw [if_pos ⟨h, h⟩, SeqAt.eqv_refl x (SeqAt.canLay_of_shaped h)]
  rw [e]
theorem zNe_refl {x : P} (M : Store) (h : SeqAt.shaped x = true) : zNe (.p x) (.p x) M = .ok (.p (.bool false)) M := by
  unfold zNe
  simp only [snap_p]
  have e : peq x x = some true := by
    unfold peq
    split
    · simp
    · simp
    · rfl
    · rw [if_pos ⟨h, h⟩, SeqAt.eqv_refl x (SeqAt.canLay_of_shaped h)]
  rw [e]
  rfl
/-- xs != [] -/
theorem zNe_nil {ns : List Int} (M : Store) : zNe (.p (.list (pints ns))) (.p (.list [])) M = .ok (.p (.bool (!decide (ns = [])))) M := by
  unfold zNe
  simp only [snap_p]
  have e : peq (.list (pints ns)) (.list []) = some (decide (ns = [])) := by
    show (if _ then _ else _) = _
    rw [if_pos ⟨(sh_ints ns).2, (sh_ints []).2⟩, PyData.eqv, show ([] : List P) = pints [] from rfl, eqv_ints]
  rw [e]
theorem rgP_nat (a b : Nat) : rgP (a : Int) (b : Int) = pnats (List.range' a (b - a)) := by
  unfold rgP pnats
  rw [show ((b : Int) - a).toNat = b - a by omega, List.range'_eq_map_range, List.map_map]
  apply List.map_congr_left
  intro i _
  simp

theorem rgItems_nat (a b : Nat) : rgItems (a : Int) ((b : Int) - a).toNat = (List.range' a (b - a)).map fun p : Nat => D.p (.int (p : Int)) := by
  unfold rgItems
  rw [show ((b : Int) - a).toNat = b - a by omega, List.range'_eq_map_range, List.map_map]
  apply List.map_congr_left
  intro i _
  simp
theorem rgo2_nat {a b : Nat} (ha : a ≤ 100000) (hb : b ≤ 100000) (M : Store) : rgo2 (a : Int) (b : Int) M = .ok ((List.range' a (b - a)).map fun p : Nat => D.p (.int (p : Int))) M := by
  rw [rgo2_eq]
  simp only
  rw [if_pos ⟨by omega, by omega, by omega, by omega⟩, rgItems_nat]
theorem rgo1_nat {b : Nat} (hb : b ≤ 100000) (M : Store) : rgo1 (b : Int) M = .ok ((List.range b).map fun p : Nat => D.p (.int (p : Int))) M := by
  rw [rgo1_eq]
  simp only
  rw [if_pos ⟨by omega, by omega⟩]
  unfold rgItems
  congr 1
  rw [Int.toNat_natCast]
  apply List.map_congr_left
  intro i _
  simp
@[simp] theorem items_sk (xs : List Itm) (M : Store) : itemsOf (.p (sk xs)) M = .ok (xs.map fun x => .p x.enc) M := by unfold sk; rw [itemsOf_t, dp_enc]
@[simp] theorem enum_sk (xs : List Itm) (M : Store) : enumOf (.p (sk xs)) M = .ok (xs.zipIdx.map fun p => .p (.tuple [.int (p.2 : Nat), p.1.enc])) M := by unfold sk; rw [enumOf_t, enumFrom_map]
@[simp] theorem len_sk (xs : List Itm) (M : Store) : zLen [.p (sk xs)] M = .ok (.p (.int xs.length)) M := by unfold sk; rw [zLen_t, List.length_map]
@[simp] theorem sl_sk (xs : List Itm) (a b : Option Int) (M : Store) : zSl (.p (sk xs)) a b M = .ok (.p (sk (cutG xs a b))) M := by unfold sk; rw [zSl_t, cutG_map]
theorem optAll_p (n : Nat) (M : Store) : ∀ xs : List P, optAll (snap n M) (xs.map .p) = some xs
  | [] => rfl
  | x :: xs => by rw [List.map_cons, optAll, snap_p, optAll_p n M xs]
theorem snap_lst {M : Store} {i n : Nat} {xs : List P} (h : lstAt M i = some (xs.map .p)) : snap (n + 1) M (.ref i) = some (.list xs) := by
  unfold lstAt at h
  unfold snap
  split at h
  · rename_i q
    cases h
    simp only [q, optAll_p, Option.map_some]
  · cases h
theorem zNe_ref {M : Store} {i : Nat} {ns : List Int} (h : lstAt M i = some ((pints ns).map .p)) : zNe (.ref i) (.p (.list [])) M = .ok (.p (.bool (!decide (ns = [])))) M := by
  rw [← zNe_nil M]
  unfold zNe
  rw [snap_lst h]
  rfl
theorem zIx_r' {M : Store} {i j : Nat} {ds : List D} {d : D} (h : lstAt M i = some ds) (e : ds[j]? = some d) {k : Int} (hk : k = (j : Int)) : zIx (.ref i) (.p (.int k)) M = .ok d M := by rw [hk]; exact zIx_r h e
theorem zPop_r {M : Store} {i : Nat} {ds : List D} {d : D} (h : lstAt M i = some (ds ++ [d])) : zPop (.ref i) [] M = .ok d (M.set i (.lst ds)) := by
  unfold zPop
  simp only [h]
  simp
theorem zSetL_r {M : Store} {i j : Nat} {ds : List D} {v : P} (h : lstAt M i = some ds) (hj : j < ds.length) {k : Int} (hk : k = (j : Int)) : zSetL (.ref i) (.p (.int k)) (.p v) M = some (M.set i (.lst (ds.set j (.p v)))) := by
  unfold zSetL
  simp only [h, hk]
  rw [show ixN ds.length (j : Int) = some j by unfold ixN; rw [if_pos (by omega), if_pos (by omega)]; simp]
  simp [D.low]
@[simp] theorem sizeLine_val : sizeLine = 16777216 := id rfl
end Z

/-! Z: how long a shown value is. -/
namespace Z
open PySem PySem.Spec PyProof.Rows L2
structure Sh (n d : Nat) (x : P) : Prop where
  s : x.showable = true
  h : x.hasDict = false
  l : x.shown.length ≤ n
  d : x.depth ≤ d
theorem Sh.mono {n m d e : Nat} {x : P} (k : Sh n d x) (h : n ≤ m) (h' : d ≤ e) : Sh m e x := ⟨k.s, k.h, Nat.le_trans k.l h, Nat.le_trans k.d h'⟩
theorem tf_le {n : Nat} : ∀ (ts : List Str) (k : Nat) (acc : Str), (∀ t ∈ ts, t.length ≤ n) → (textFrom k acc ts).length ≤ acc.length + ts.length * (n + 2)
  | [], k, acc, _ => by simp [textFrom]
  | t :: ts, k, acc, h => by
    have ih := tf_le (n := n) ts (k + 1) (acc ++ (if k > 0 then ", " else "" : String) ++ t) fun u hu => h u (List.mem_cons_of_mem _ hu)
    have h1 := h t List.mem_cons_self
    have e : (acc ++ (if k > 0 then ", " else "" : String) ++ t).length = acc.length + (if k > 0 then 2 else 0) + t.length := by
      rw [strLen_append, strLen_append]
      split <;> rfl
    have e5 : (if k > 0 then 2 else 0) ≤ 2 := by split <;> omega
    have : (textFrom k acc (t :: ts)) = textFrom (k + 1) (acc ++ (if k > 0 then ", " else "" : String) ++ t) ts := rfl
    rw [this, List.length_cons, Nat.succ_mul]
    rw [e] at ih
    omega
theorem piled_le {n : Nat} : ∀ ts : List Str, (∀ t ∈ ts, t.length ≤ n) → piled ts ≤ ts.length * (n + 2)
  | [], _ => Nat.zero_le _
  | t :: ts, h => by
    have ih := piled_le (n := n) ts fun u hu => h u (List.mem_cons_of_mem _ hu)
    have h1 := h t List.mem_cons_self
    have : piled (t :: ts) = t.length + 2 + piled ts := by simp [piled]
    rw [this, List.length_cons, Nat.succ_mul]
    omega
theorem shownAll_map : ∀ xs : List P, PyData.shownAll xs = xs.map PyData.shown
  | [] => rfl
  | x :: xs => by rw [PyData.shownAll, shownAll_map xs]; rfl
theorem sh_all {n d : Nat} : ∀ {xs : List P}, (∀ x ∈ xs, Sh n d x) → PyData.showableAll xs = true ∧ PyData.hasDictAll xs = false ∧ (∀ t ∈ PyData.shownAll xs, t.length ≤ n) ∧ PyData.depthAll xs ≤ d
  | [], _ => ⟨rfl, rfl, fun t h => by rw [PyData.shownAll] at h; simp at h, Nat.zero_le _⟩
  | x :: xs, h => by
    obtain ⟨a, b, c, e⟩ := sh_all fun y hy => h y (List.mem_cons_of_mem _ hy)
    have k := h x List.mem_cons_self
    refine ⟨by rw [PyData.showableAll, k.s, a]; rfl, by rw [PyData.hasDictAll, k.h, b]; rfl, fun t ht => ?_, by rw [PyData.depthAll]; exact Nat.max_le.mpr ⟨k.d, e⟩⟩
    rw [PyData.shownAll] at ht
    rcases List.mem_cons.mp ht with rfl | ht
    · exact k.l
    · exact c t ht
theorem Sh.lst {n d : Nat} {xs : List P} (h : ∀ x ∈ xs, Sh n d x) : Sh (2 + xs.length * (n + 2)) (d + 1) (.list xs) := by
  obtain ⟨a, b, c, e⟩ := sh_all h
  refine ⟨by rw [PyData.showable]; exact a, by rw [PyData.hasDict]; exact b, ?_, by rw [PyData.depth]; omega⟩
  rw [PyData.shown]
  have := tf_le (n := n) (PyData.shownAll xs) 0 "[" c
  unfold listText
  rw [strLen_append]
  have e1 : ("[" : Str).length = 1 := rfl
  have e2 : ("]" : Str).length = 1 := rfl
  have e3 : (PyData.shownAll xs).length = xs.length := by rw [shownAll_map, List.length_map]
  rw [e3] at this
  omega
theorem Sh.tup {n d : Nat} {xs : List P} (h : ∀ x ∈ xs, Sh n d x) : Sh (3 + xs.length * (n + 2)) (d + 1) (.tuple xs) := by
  obtain ⟨a, b, c, e⟩ := sh_all h
  refine ⟨by rw [PyData.showable]; exact a, by rw [PyData.hasDict]; exact b, ?_, by rw [PyData.depth]; omega⟩
  rw [PyData.shown]
  have e3 : (PyData.shownAll xs).length = xs.length := by rw [shownAll_map, List.length_map]
  have e1 : ("(" : Str).length = 1 := rfl
  have e2 : ((if (PyData.shownAll xs).length == 1 then ",)" else ")" : String) : Str).length ≤ 2 := by split <;> decide
  unfold tupleText
  rw [strLen_append, strLen_append]
  have p := piled_le (n := n) _ c
  rw [e3] at p
  by_cases hn : PyData.shownAll xs = []
  · rw [hn] at e2 ⊢
    have : (Str.join ", " ([] : List Str)).length = 0 := rfl
    omega
  · have := join_length_add _ hn
    omega
theorem Sh.int {i : Int} (h : -(10 ^ 12) < i ∧ i < 10 ^ 12) : Sh 14 0 (.int i) := by
  have hn : i.natAbs < 10 ^ 12 := by omega
  refine ⟨?_, rfl, ?_, Nat.le_refl _⟩
  · rw [PyData.showable, decide_eq_true_eq]
    have : i.natAbs < 2 ^ 64 := by omega
    by_cases hz : i.natAbs = 0
    · rw [hz]; decide
    · have := (Nat.log2_lt hz).mpr this
      omega
  · rw [PyData.shown]
    have := int_text_length_le10 (a := i) (k := 12) (by decide) hn
    show (Str.ofString (toString i)).length ≤ 14
    rw [PySem.ofString_length]
    omega
theorem Sh.nat {i : Nat} (h : i < 10 ^ 12) : Sh 14 0 (.int (i : Int)) := Sh.int ⟨by omega, by omega⟩
theorem zShow_t {n d : Nat} {xs : List P} (h : Sh n d (.tuple xs)) (hn : n ≤ 16000000) (hd : d ≤ 50) (M : Store) : zShow [.p (.tuple xs)] M = .ok (.p (.str (PyData.tuple xs).shown)) M := by
  have a : (PyData.tuple xs).shown.length ≤ sizeLine := by have := h.l; rw [sizeLine_val]; omega
  have b : (PyData.tuple xs).depth ≤ 60 := by have := h.d; omega
  unfold zShow
  simp only [snap_p]
  rw [if_pos ⟨h.s, h.h, a, b⟩]
theorem zShow_l {n d : Nat} {xs : List P} (h : Sh n d (.list xs)) (hn : n ≤ 16000000) (hd : d ≤ 50) (M : Store) : zShow [.p (.list xs)] M = .ok (.p (.str (PyData.list xs).shown)) M := by
  have a : (PyData.list xs).shown.length ≤ sizeLine := by have := h.l; rw [sizeLine_val]; omega
  have b : (PyData.list xs).depth ≤ 60 := by have := h.d; omega
  unfold zShow
  simp only [snap_p]
  rw [if_pos ⟨h.s, h.h, a, b⟩]
/-- items of modest size -/
def Mod1 (x : Itm) : Prop := match x with
  | .lab => True
  | .fil s => -(10 ^ 12) < s ∧ s < 10 ^ 12
  | .jmp g s l => g < 10 ^ 12 ∧ -(10 ^ 12) < s ∧ s < 10 ^ 12 ∧ -(10 ^ 12) < l ∧ l < 10 ^ 12
theorem Sh.str4 : Sh 14 0 (.str "jump") ∧ Sh 14 0 (.str "fill") ∧ Sh 14 0 (.str "label") := ⟨⟨rfl, rfl, by decide +kernel, Nat.le_refl _⟩, ⟨rfl, rfl, by decide +kernel, Nat.le_refl _⟩, ⟨rfl, rfl, by decide +kernel, Nat.le_refl _⟩⟩
theorem Sh.itm {x : Itm} (h : Mod1 x) : Sh 67 1 x.enc := by
  cases x with
  | lab =>
    refine (Sh.tup (n := 14) (d := 0) fun y hy => ?_).mono (by decide) (Nat.le_refl _)
    rw [List.mem_singleton.mp hy]
    exact Sh.str4.2.2
  | fil s =>
    refine (Sh.tup (n := 14) (d := 0) fun y hy => ?_).mono (by simp) (Nat.le_refl _)
    simp at hy
    rcases hy with rfl | rfl
    · exact Sh.str4.2.1
    · exact Sh.int h
  | jmp g s l =>
    refine (Sh.tup (n := 14) (d := 0) fun y hy => ?_).mono (by simp) (Nat.le_refl _)
    simp at hy
    obtain ⟨h1, h2, h3, h4, h5⟩ := h
    rcases hy with rfl | rfl | rfl | rfl
    · exact Sh.str4.1
    · exact Sh.nat h1
    · exact Sh.int ⟨h2, h3⟩
    · exact Sh.int ⟨h4, h5⟩
theorem show_sk {xs : List Itm} (h : ∀ x ∈ xs, Mod1 x) (hl : xs.length ≤ 1000) (M : Store) : zShow [.p (sk xs)] M = .ok (.p (.str (sk xs).shown)) M := by
  refine zShow_t (n := 3 + 1000 * 69) (d := 2) ((Sh.tup (n := 67) (d := 1) fun y hy => ?_).mono (by rw [List.length_map]; omega) (Nat.le_refl _)) (by decide) (by decide) M
  obtain ⟨x, hx, rfl⟩ := List.mem_map.mp hy
  exact Sh.itm (h x hx)
theorem show_ints {ns : List Int} (h : ∀ i ∈ ns, -(10 ^ 12) < i ∧ i < 10 ^ 12) (hl : ns.length ≤ 1000) (M : Store) : zShow [.p (.tuple (pints ns))] M = .ok (.p (.str (PyData.tuple (pints ns)).shown)) M := by
  refine zShow_t (n := 3 + 1000 * 16) (d := 1) ((Sh.tup (n := 14) (d := 0) fun y hy => ?_).mono (by rw [pints_len]; omega) (Nat.le_refl _)) (by decide) (by decide) M
  obtain ⟨x, hx, rfl⟩ := List.mem_map.mp hy
  exact Sh.int (h x hx)
end Z

/-! Z: sorting tuples of which some are empty; sorting what a tuple holds. -/
namespace Z
open PySem PySem.Spec PyProof.Rows L2
section
open PySem.W PySem.SeqAt PySem.Calls
variable {prog : Program} {w : World} {A : Around} {s : Shared}
/-- tuple.__lt__ as sorting calls it -/
theorem tup_lt_call {E : Value → Shared → Prop} {Q : Value → Shared → Prop} {l b : Addr} {items items2 : Array Value} {e r : Nat → Bool} (hl : s.heap.IsTuple l items) (hb : s.heap.IsTuple b items2)
    (he : ∀ j (h1 : j < items.size) (h2 : j < items2.size), EqAt A.in1 s items[j] items2[j] (e j)) (hr : ∀ j (h1 : j < items.size) (h2 : j < items2.size), e j = false → RcLt A.in1 s items[j] items2[j] (r j))
    (h : Q (.bool (firstLt e r (decide (items.size < items2.size)) (List.range (min items.size items2.size)))) s) : wpAny (model prog w) A (call (.builtin "tuple.__lt__") [.ref l, .ref b]) Q E s := by
  obtain ⟨⟨k1, d1, t1, u1⟩, o1, c1, n1, e1⟩ := id hl
  obtain ⟨⟨k2, d2, t2, u2⟩, o2, c2, n2, e2⟩ := id hb
  simp only at c1 e1 c2 e2
  subst c1 e1 c2 e2
  exact call_meets F.slot_tuple_lt ⟨_, o1, rfl⟩ F.entry_tuple_lt (F.args_tuple_lt_2 _ _) (tuple_ltAt l b items items2 n1 n2 d1 d2 u1 u2 e r) ⟨o1, o2, he, hr, h⟩
theorem one_tup {E : Value → Shared → Prop} {xs ys : List P} {a b : Value} {as bs : List Addr} {Q : Bool → Shared → Prop} (ra : Reads s.heap a (.tuple xs) as) (rb : Reads s.heap b (.tuple ys) bs) (hal : alikeAll xs ys = true)
    (hu : A.units + min (PyData.tuple xs).depth (PyData.tuple ys).depth < cLine) (hq : Q (dataLt (.tuple xs) (.tuple ys)) s) : wpAny (model prog w) A (oneLt' true a b) Q E s := by
  cases ra with
  | @tuple l o vs n _ as1 h1 h2 h3 h4 =>
    cases rb with
    | @tuple l2 o2 vs2 n2 _ bs1 k1 k2 k3 k4 =>
      have m1 : vs.size = xs.length := by simpa using ReadsAll.length _ _ _ h4
      have m2 : vs2.size = ys.length := by simpa using ReadsAll.length _ _ _ k4
      rw [dataLt_tuple, ← firstLt_toks xs ys hal, ← m1, ← m2] at hq
      rw [oneLt'_eq]
      simp only [if_true]
      refine wpAny_bind (wpAny_cRoomFor (room_here hu) ?_)
      refine wpAny_bind (wpAny_callSpecialIfBound?_slot (T := "tuple") ⟨_, h1, h2⟩ F.slot_tuple_lt
        (tup_lt_call (e := pairEq xs ys) (r := fun j => dataLt (xs.getD j .none) (ys.getD j .none)) ⟨_, h1, h2, _, h3⟩ ⟨_, k1, k2, _, k3⟩ (fun j j1 j2 => ?_) (fun j j1 j2 hj => ?_) ?_))
      · have z := eqAt_alikeAll xs ys A.in1 s vs.toList vs2.toList _ _ h4 k4 hal (room_in hu) j (by simpa using j1) (by simpa using j2)
        simpa using z
      · have z := rcLt_alikeAll xs ys A.in1 s vs.toList vs2.toList _ _ h4 k4 hal (room_in hu) j (by simpa using j1) (by simpa using j2) hj
        simpa using z
      · exact wpAny_truthy_bool hq
/-- the first item of a tuple -/
def firstV (h : Heap) (v : Value) : Option Value := match v with
  | .ref a => match h.get? a with
    | some o => match o.data with
      | .seq ys _ => ys[0]?
      | _ => none
    | none => none
  | _ => none
theorem tup_firsts {M : Model} {B : Around} {E : Value → Shared → Prop} : ∀ {vs : List Value} {ds : List P} (Q : List (Option Value) → Shared → Prop), EachIs (fun v d => ∃ as, Reads s.heap v d as) vs ds → (∀ d, d ∈ ds → ∃ xs, d = .tuple xs) →
    Q (vs.map (firstV s.heap)) s → wpAny M B (vs.mapM firstOfTuple') Q E s
  | _, _, Q, .nil, _, h => by rw [List.mapM_nil]; exact wpAny_pure h
  | _, _, Q, .cons (a := v) (b := d) (as := vs) (bs := ds) ⟨as, r⟩ t, ht, h => by
    obtain ⟨xs, rfl⟩ := ht d (List.mem_cons_self ..)
    cases r with
    | @tuple a o ys n _ _ ho hc hd hr =>
      have e1 : firstV s.heap (.ref a) = ys[0]? := by
        unfold firstV
        simp only [ho, hd]
      rw [List.map_cons, e1] at h
      rw [List.mapM_cons]
      refine wpAny_bind ?_
      rw [kas_first_eq]
      refine wpAny_bind (Looks.here (show Looks M s.heap (typeOf (.ref a)) o.cls from (Looks.ld ho).andThen .now) ?_)
      rw [hc, if_neg (by first | decide | simp)]
      refine wpAny_bind (listItems_at ho hd (wpAny_pure ?_))
      exact wpAny_bind (tup_firsts (fun bs s' => wpAny M B (pure (ys[0]? :: bs)) Q E s') t (fun d hd => ht d (List.mem_cons_of_mem _ hd)) (wpAny_pure h))
theorem tups_full {vs : List Value} {ds : List P} : EachIs (fun v d => ∃ as, Reads s.heap v d as) vs ds → (∀ d, d ∈ ds → ∃ xs, d = .tuple xs) → (∀ v ∈ vs, (firstV s.heap v).isSome = true) → ∀ d, d ∈ ds → ∃ x r, d = .tuple (x :: r) := by
  intro e
  induction e with
  | nil => exact fun _ _ d hd => by simp at hd
  | @cons v d vs ds h t ih =>
    intro ht al d' hd'
    rcases List.mem_cons.mp hd' with rfl | hd'
    · obtain ⟨as, r⟩ := h
      obtain ⟨xs, rfl⟩ := ht d' (List.mem_cons_self ..)
      cases xs with
      | cons x xr => exact ⟨x, xr, rfl⟩
      | nil =>
        cases r with
        | @tuple a o ys n _ _ ho hc hd hr =>
          have h0 := al _ (List.mem_cons_self ..)
          have e1 : firstV s.heap (.ref a) = ys[0]? := by
            unfold firstV
            simp only [ho, hd]
          have z := SeqAt.ReadsAll.length _ _ _ hr
          have z2 : ys.size = 0 := by simpa using z
          rw [e1, Array.getElem?_eq_none (by omega)] at h0
          cases h0
    · exact ih (fun d hd => ht d (List.mem_cons_of_mem _ hd)) (fun v hv => al v (List.mem_cons_of_mem _ hv)) d' hd'
theorem sorts_tups {vs : List Value} {ds : List P} (e : EachIs (fun v d => ∃ as, Reads s.heap v d as) vs ds) (hal : AllAlike ds) (ht : ∀ d, d ∈ ds → ∃ xs, d = .tuple xs) (hu : ∀ d, d ∈ ds → A.units + d.depth < cLine) : SortsAt prog w A s (dataKind s.heap ds) vs := by
  by_cases hne : ∀ v ∈ vs, (firstV s.heap v).isSome = true
  · exact SortsAt.data e hal (.inl (tups_full e ht hne)) hu
  have room : ∀ {d d' : PyData}, d ∈ ds → A.units + min d.depth d'.depth < cLine := fun {d d'} hd => Nat.lt_of_le_of_lt (Nat.add_le_add_left (Nat.min_le_left _ _) _) (hu d hd)
  refine ⟨fun v hv => ?_, ?_⟩
  · obtain ⟨d, hd, as, r⟩ := e.left v hv
    exact ⟨_, dataKind_some hal hd r⟩
  have hall : ¬ ((vs.map (firstV s.heap)).toArray.all fun x => x.isSome) = true := by
    intro z
    apply hne
    intro v hv
    have z2 : ∀ x ∈ vs, (firstV s.heap x).isSome = true := by simpa using z
    exact z2 v hv
  by_cases hf : (((vs.map (firstV s.heap)).toArray)[0]?.bind id).isSome = true
  · refine ⟨general', ?_, fun h2 E Q hq => ?_⟩
    · intro E x y a b Q ha hb hq
      obtain ⟨d, as, hd, ra, rfl⟩ := dataKind_inv ha
      obtain ⟨d', as', hd', rb, rfl⟩ := dataKind_inv hb
      show wpAny (model prog w) A (oneLt' false x y) Q E s
      exact oneLt_alike (fun z => nomatch z) ra rb (hal d hd d' hd') (fun z => by obtain ⟨xs, e⟩ := ht d hd; rw [e] at z; cases z) (room hd) hq
    · rw [keyKind'_eq, List.mapM_toArray, map_eq_pure_bind]
      refine wpAny_bind (wpAny_bind (tup_firsts _ e ht (wpAny_pure ?_)))
      rw [if_neg hall, if_pos hf]
      exact wpAny_pure hq
  · refine ⟨oneType', ?_, fun h2 E Q hq => ?_⟩
    · intro E x y a b Q ha hb hq
      obtain ⟨d, as, hd, ra, rfl⟩ := dataKind_inv ha
      obtain ⟨d', as', hd', rb, rfl⟩ := dataKind_inv hb
      rw [keyLt'_oneType]
      have hdd := hal d hd d' hd'
      have rm := room (d' := d') hd
      obtain ⟨xs, rfl⟩ := ht d hd
      obtain ⟨ys, rfl⟩ := ht d' hd'
      exact one_tup ra rb (by simpa [alike] using hdd) rm hq
    · rw [keyKind'_eq, List.mapM_toArray, map_eq_pure_bind]
      refine wpAny_bind (wpAny_bind (tup_firsts _ e ht (wpAny_pure ?_)))
      rw [if_neg hall, if_neg hf]
      have hT : ∀ v ∈ vs, Looks (model prog w) s.heap (typeOf v) (Value.type "tuple") := fun v hv => by
        obtain ⟨d, hd, as, r⟩ := e.left v hv
        obtain ⟨xs, rfl⟩ := ht d hd
        exact looks_reads r
      rw [oneTypeOnly'_eq, List.mapM_toArray, map_eq_pure_bind]
      refine wpAny_bind (wpAny_bind (wpAny_bind (kas_mapM (r := Value.type "tuple") _ (fun v hv Q' hq' => (hT v hv).here hq') (wpAny_pure ?_))))
      obtain ⟨v1, rest, rfl⟩ : ∃ v1 rest, vs = v1 :: rest := by
        match vs, h2 with
        | [], h2 => simp at h2
        | v1 :: rest, _ => exact ⟨v1, rest, rfl⟩
      have hall2 : ((List.map (fun _ => Value.type "tuple") (v1 :: rest)).toArray.all fun x => x == Value.type "tuple") = true := by
        simp only [List.all_toArray, List.all_map, List.all_eq_true]
        intro _ _
        rfl
      have h0 : (List.map (fun _ => Value.type "tuple") (v1 :: rest)).toArray[0]? = some (Value.type "tuple") := by simp
      rw [h0]
      simp only [hall2, if_true]
      refine wpAny_pure (wpAny_pure ?_)
      simpa using hq
/-- sorted(x), x a list or a tuple of data that can be sorted -/
theorem sorted_seq {E : Value → Shared → Prop} {l : Addr} {T : String} {o : Obj} {n : Nat} {vs : List Value} {bs : List P} {R : Value → P → Prop} {Q : Value → Shared → Prop} (hT : T = "list" ∨ T = "tuple") (ho : s.heap.get? l = some o) (hc : o.cls = .type T)
    (hd : o.data = .seq vs.toArray n) (e : EachIs R vs bs) (er : EachIs (fun v b => ∃ as, Reads s.heap v b as) vs bs) (hal : AllAlike bs) (hk : (∀ d, d ∈ bs → ∃ xs, d = .tuple xs) ∨ Sortable bs) (hz : bs.length ≤ sizeLine) (hu : ∀ b, b ∈ bs → A.units + 2 + b.depth < cLine)
    (h : ∀ h1 : Heap, (∀ b u, s.heap.get? b = some u → h1.get? b = some u) → ∀ (h' : Heap) (out : List Value) (c : Nat), (∀ b u, h1.get? b = some u → h'.get? b = some u) → h'.get? h1.objs.size = some (seqObj "list" (List.toArray out) c) → out.length = bs.length → EachIs R out (bs.mergeSort (dataLe false id)) →
      Q (.ref h1.objs.size) { s with heap := h' }) : wpAny (model prog w) A (call (.builtin "sorted") [.ref l]) Q E s := by
  have hL : vs.length ≤ sizeLine := by rw [e.length]; exact hz
  refine Calls.call_function_entry kind_sorted plain_sorted entry_sorted (args_sorted1 _) ?_
  unfold Builtin.«sorted»
  refine wpAny_bind (m := checkCount "sorted" 1 1 _) (wpAny_pure ?_)
  refine wpAny_bind (wpAny_collect_seq l hT ho hc hd (fun h1 k1 => ?_) (by rw [List.size_toArray]; exact hL))
  refine wpAny_bind (wpAny_newList ?_ (by simpa using hL))
  have ha : (h1.push (seqObj "list" vs.toArray 0)).get? h1.objs.size = some (seqObj "list" vs.toArray 0) := Heap.get?_push_size _ rfl
  have er2 : EachIs (fun v b => ∃ as, Reads (sortingHeap (h1.push (seqObj "list" vs.toArray 0)) h1.objs.size vs) v b as) vs bs := er.mono fun v b ⟨as, r⟩ => ⟨as, PyProof.Rows.Reads.keeps (fun b u q =>
    sortingHeap_old (Nat.ne_of_lt (Heap.lt_size (k1 b u q))) (Heap.get?_push_of_some _ (k1 b u q))) r⟩
  have S : SortsAt prog w A.in1.in1 { s with heap := sortingHeap (h1.push (seqObj "list" vs.toArray 0)) h1.objs.size vs } (dataKind (sortingHeap (h1.push (seqObj "list" vs.toArray 0)) h1.objs.size vs) bs) vs := by
    rcases hk with hk | hk
    · exact sorts_tups (s := { s with heap := sortingHeap (h1.push (seqObj "list" vs.toArray 0)) h1.objs.size vs }) er2 hal hk hu
    · exact SortsAt.data (s := { s with heap := sortingHeap (h1.push (seqObj "list" vs.toArray 0)) h1.objs.size vs }) er2 hal hk hu
  refine wpAny_bind (wpAny_holding (wpAny_call_entry slot_list_sort ⟨_, (show (Heap.get? { s with heap := h1.push (seqObj "list" vs.toArray 0) }.heap h1.objs.size) = _ from ha), rfl⟩ entry_list_sort ?_ (args_list_sort _)))
  refine wpAny_mono (list_sort_vals (s := { s with heap := h1.push (seqObj "list" vs.toArray 0) }) (P := fun f s' => f = .done (.ret .none) ∧ s' = { s with heap := sortedHeap (h1.push (seqObj "list" vs.toArray 0)) h1.objs.size vs (List.toArray _) }) ha S hL ⟨rfl, rfl⟩) (fun f s' hf => ?_) fun _ _ e => e
  obtain ⟨rfl, rfl⟩ := hf
  obtain ⟨c, hat⟩ := sortedHeap_at (vs := vs) (out := List.toArray (sortVals (dataKind (sortingHeap (h1.push (seqObj "list" vs.toArray 0)) h1.objs.size vs) bs) false vs vs)) ha
  have em : bs.map id = bs := List.map_id bs
  refine ⟨_, rfl, wpAny_pure ⟨_, rfl, h h1 k1 _ _ c (fun b u q => ?_) hat (by rw [sortVals_length false rfl]; exact e.length) ?_⟩⟩
  · rw [sortedHeap_old (Nat.ne_of_lt (Heap.lt_size q)) (by rw [Heap.size_push]; exact Nat.lt_succ_of_lt (Heap.lt_size q))]
    exact Heap.get?_push_of_some _ q
  · have := sortVals_data (enc := id) (R := R) false e (by simpa using er2) (by rw [em]; exact hal)
    rw [em] at this
    exact this
end
def psortT (ys : List P) : Prop := PySem.W.AllAlike ys ∧ ((∀ d, d ∈ ys → ∃ xs, d = .tuple xs) ∨ PySem.W.Sortable ys) ∧ ys.length ≤ sizeLine ∧ ∀ x ∈ ys, x.depth ≤ 60
open Classical in
/-- sorted(x) -/
noncomputable def zSort (ds : List D) (M : Store) : Out D := match ds with
  | [d] => match seqv M d with
    | some xs => match pures xs with
      | some ys => if psortT ys then .ok (.p (.list (psort ys))) M else .stuck
      | none => .stuck
    | none => .stuck
  | _ => .stuck
section
variable {X : Cx} {E : XK}
theorem zSort_ok (zx : ZX X) : CallR X (.builtin "sorted") (rZs X E zSort) := by
  intro pins s σ H xs us Q I r h
  obtain ⟨ds, θ, M, m, rs, h⟩ := h
  unfold zSort at h
  split at h
  · split at h
    · rename_i zs e1
      split at h
      · rename_i ys e2
        split at h
        · rename_i c
          cases rs with
          | cons r1 rr =>
            cases rr
            obtain ⟨ad, vs, rfl, hp, dp⟩ := seqv_ok m r1 e1
            rw [pures_eq e2] at dp
            have fz := FzAll.ofDrs dp
            obtain ⟨u, rfl, ru⟩ := r.one
            cases ru
            have hu := zx.hu
            obtain ⟨T, o, n, its, hT, rv, ho, hc, hd⟩ : ∃ (T : String) (o : Obj) (n : Nat) (its : List Value), (T = "list" ∨ T = "tuple") ∧ Vals vs its ∧ s.heap.get? ad = some o ∧ o.cls = .type T ∧ o.data = .seq its.toArray n := by
              rcases hp with hp | hp
              · obtain ⟨its, rv, pl, hz⟩ := I.list hp.sq
                obtain ⟨o, ho, hc, n, hd⟩ := pl.isList
                exact ⟨_, o, n, its, .inl rfl, rv, ho, hc, hd⟩
              · obtain ⟨its, rv, ⟨o, ho, hc, n, hd⟩, hz⟩ := I.tuple hp
                exact ⟨_, o, n, its, .inr rfl, rv, ho, hc, hd⟩
            have ei := eachIs_of (h := s.heap) rv fz
            have er := eachReads (h := s.heap) (fun v u x c r z => Dp.reads I x v u (z.dp c) r) (all_noDict c.1) ei
            refine thn (Q := EP X pins σ (FrzQ Q)) (sorted_seq hT ho hc hd ei er c.1 c.2.1 c.2.2.1 (fun b hb => by have := c.2.2.2 b hb; show X.A.units + 2 + b.depth < cLine; omega) fun h1 k1 h' out cc k2 at_ hl hout => ?_) fun u s1 z => ep_frz z
            obtain ⟨ws, w1, w2⟩ := ofEachIs hout
            have I1 : Inv X pins σ H { s with heap := h1 } := I.kept (t' := s.toks) k1
            have hn : H h1.objs.size = none := I1.hok.fresh (Nat.le_refl _)
            have wl : ws.length = ys.length := by rw [w1.length, hl]
            have J := Inv.laid (o := .lst ws) (t' := s.toks) I1 (fun b u q => k2 b u q) (Nat.le_refl _) ⟨by rw [wl]; exact c.2.2.1, out, cc, w1, at_⟩
            exact ⟨.ref _, _, J, rfl, post_frz h m hn (by rw [psort, List.length_mergeSort]; exact c.2.2.1) w2⟩
        · exact h.elim
      · exact h.elim
    · exact h.elim
  · exact h.elim
end
end Z

/-! Z: data of one make: ==, in, sorted. -/
namespace Z
open PySem PySem.Spec PyProof.Rows L2
theorem peq_sh {a b : P} (ha : SeqAt.shaped a = true) (hb : SeqAt.shaped b = true) : peq a b = some (PyData.eqv a b) := by
  unfold peq
  split
  · simp only [PyData.eqv]; congr 1
  · simp only [PyData.eqv]; congr 1
  · rfl
  · rw [if_pos ⟨ha, hb⟩]
theorem zEq_sh {a b : P} (ha : SeqAt.shaped a = true) (hb : SeqAt.shaped b = true) (M : Store) : zEq (.p a) (.p b) M = .ok (.p (.bool (PyData.eqv a b))) M := by
  unfold zEq
  simp only [snap_p, peq_sh ha hb]
theorem zNe_sh {a b : P} (ha : SeqAt.shaped a = true) (hb : SeqAt.shaped b = true) (M : Store) : zNe (.p a) (.p b) M = .ok (.p (.bool (!PyData.eqv a b))) M := by
  unfold zNe
  simp only [snap_p, peq_sh ha hb]
/-- data that == tells apart just as Lean does -/
structure Lay {α : Type} [DecidableEq α] (f : α → P) (n : Nat) : Prop where
  can : ∀ x, (f x).canLay0 = true
  dep : ∀ x, (f x).depth ≤ n
  eq : ∀ x y, PyData.eqv (f x) (f y) = decide (x = y)
section
variable {α β γ : Type} [DecidableEq α] [DecidableEq β] [DecidableEq γ] {f : α → P} {g : β → P} {k : γ → P} {n m l : Nat}
theorem Lay.sh (h : Lay f n) (hn : n ≤ 60) (x : α) : SeqAt.shaped (f x) = true := by
  have h1 := h.can x
  have h2 := h.dep x
  have h3 : (f x).depth ≤ 64 := by omega
  show ((f x).canLay0 && decide ((f x).depth ≤ 64)) = true
  rw [h1, decide_eq_true h3]
  rfl
theorem Lay.mono (h : Lay f n) (hn : n ≤ m) : Lay f m := ⟨h.can, fun x => Nat.le_trans (h.dep x) hn, h.eq⟩
theorem Lay.eqs (h : Lay f n) : ∀ xs ys : List α, PyData.eqvAll (xs.map f) (ys.map f) = decide (xs = ys)
  | [], [] => by simp [PyData.eqvAll]
  | [], y :: ys => by simp [PyData.eqvAll]
  | x :: xs, [] => by simp [PyData.eqvAll]
  | x :: xs, y :: ys => by
    rw [List.map_cons, List.map_cons, PyData.eqvAll, h.eq, h.eqs xs ys]
    simp
theorem Lay.int : Lay PyData.int 0 := ⟨fun _ => rfl, fun _ => Nat.le_refl _, fun x y => by simp only [PyData.eqv]; rfl⟩
theorem Lay.nat : Lay (fun n : Nat => PyData.int (n : Int)) 0 := ⟨fun _ => rfl, fun _ => Nat.le_refl _, fun x y => by
  have := Lay.int.eq (x : Int) (y : Int)
  rw [this]
  simp only [decide_eq_decide]
  omega⟩
theorem Lay.tup (h : Lay f n) : Lay (fun xs : List α => .tuple (xs.map f)) (n + 1) := ⟨fun xs => by
    show PyData.canLayAll0 (xs.map f) = true
    exact can_map f h.can xs, fun xs => by
    show PyData.depthAll (xs.map f) + 1 ≤ n + 1
    exact Nat.succ_le_succ (dep_map f n h.dep xs), fun xs ys => by rw [PyData.eqv, h.eqs]⟩
theorem Lay.lst (h : Lay f n) : Lay (fun xs : List α => .list (xs.map f)) (n + 1) := ⟨fun xs => by
    show PyData.canLayAll0 (xs.map f) = true
    exact can_map f h.can xs, fun xs => by
    show PyData.depthAll (xs.map f) + 1 ≤ n + 1
    exact Nat.succ_le_succ (dep_map f n h.dep xs), fun xs ys => by rw [PyData.eqv, h.eqs]⟩
theorem Lay.pair (h : Lay f n) (h' : Lay g n) : Lay (fun p : α × β => .tuple [f p.1, g p.2]) (n + 1) := ⟨fun p => by
    show (( f p.1).canLay0 && ((g p.2).canLay0 && true)) = true
    rw [h.can, h'.can]
    rfl, fun p => by
    have h1 := h.dep p.1
    have h2 := h'.dep p.2
    show max (f p.1).depth (max (g p.2).depth 0) + 1 ≤ n + 1
    omega, fun p q => by
    rw [PyData.eqv, PyData.eqvAll, PyData.eqvAll, PyData.eqvAll, h.eq, h'.eq]
    simp [Prod.ext_iff]⟩
theorem Lay.inj (h : Lay f n) {x y : α} (e : f x = f y) : x = y := by
  have h1 := h.eq x x
  have h2 := h.eq x y
  rw [← e, h1] at h2
  simpa using h2.symm
theorem zEq_lay (h : Lay f n) (hn : n ≤ 60) (x y : α) (M : Store) : zEq (.p (f x)) (.p (f y)) M = .ok (.p (.bool (decide (x = y)))) M := by
  rw [zEq_sh (h.sh hn x) (h.sh hn y), h.eq]
theorem zNe_lay (h : Lay f n) (hn : n ≤ 60) (x y : α) (M : Store) : zNe (.p (f x)) (.p (f y)) M = .ok (.p (.bool (!decide (x = y)))) M := by
  rw [zNe_sh (h.sh hn x) (h.sh hn y), h.eq]
theorem Lay.any (h : Lay f n) (x : α) (xs : List α) : ((xs.map f).any fun z => PyData.eqv z (f x)) = decide (x ∈ xs) := by
  induction xs with
  | nil => simp
  | cons y ys ih =>
    rw [List.map_cons, List.any_cons, ih, h.eq]
    by_cases e : y = x
    · simp [e]
    · have e2 : ¬ x = y := fun z => e z.symm
      simp [e, e2]
theorem zin_layL (h : Lay f n) (hn : n ≤ 59) (neg : Bool) (x : α) (xs : List α) (M : Store) : zin neg (.p (f x)) (.p (.list (xs.map f))) M = .ok (.p (.bool (neg ^^ decide (x ∈ xs)))) M := by
  unfold zin zinL
  simp only [dictv_l, snap_p, h.sh (by omega) x, h.lst.sh (by omega) xs, and_self, if_true, h.any]
theorem zin_layT (h : Lay f n) (hn : n ≤ 59) (neg : Bool) (x : α) (xs : List α) (M : Store) : zin neg (.p (f x)) (.p (.tuple (xs.map f))) M = .ok (.p (.bool (neg ^^ decide (x ∈ xs)))) M := by
  unfold zin zinL
  simp only [dictv_t, snap_p, h.sh (by omega) x, h.tup.sh (by omega) xs, and_self, if_true, h.any]
end
abbrev tnats (ns : List Nat) : P := .tuple (pnats ns)
abbrev tints (ns : List Int) : P := .tuple (pints ns)
theorem lay_tn : Lay tnats 1 := Lay.nat.tup
theorem lay_ti : Lay tints 1 := Lay.int.tup
theorem lay_itm : Lay Itm.enc 1 := ⟨fun x => by cases x <;> simp [Itm.enc, PyData.canLay0, PyData.canLayAll0] <;> decide +kernel, fun x => by cases x <;> simp [Itm.enc, PyData.depth, PyData.depthAll], fun x y => by
  cases x <;> cases y <;> simp [Itm.enc, PyData.eqv, PyData.eqvAll] <;> (rw [Bool.eq_iff_iff]; simp; try omega)⟩
/-! ### sorted -/
@[simp] theorem seqv_r (M : Store) (i : Nat) : seqv M (.ref i) = lstv M (.ref i) := id rfl
structure Srt {α : Type} (f : α → P) : Prop where
  al : ∀ x y, PySem.W.alike (f x) (f y) = true
  kd : (∀ x, ∃ t, f x = .tuple t) ∨ ∀ x, f x ≠ .none ∧ ∀ t, f x ≠ .tuple t
  dep : ∀ x, (f x).depth ≤ 60
def lsort {α : Type} (f : α → P) (xs : List α) : List α := xs.mergeSort (PySem.W.dataLe false f)
theorem lsort_perm {α : Type} (f : α → P) (xs : List α) : (lsort f xs).Perm xs := List.mergeSort_perm _ _
theorem mem_lsort {α : Type} {f : α → P} {xs : List α} {x : α} : x ∈ lsort f xs ↔ x ∈ xs := (lsort_perm f xs).mem_iff
theorem len_lsort {α : Type} (f : α → P) (xs : List α) : (lsort f xs).length = xs.length := (lsort_perm f xs).length_eq
theorem psort_map {α : Type} (f : α → P) (xs : List α) : psort (xs.map f) = (lsort f xs).map f := by
  unfold psort lsort
  rw [List.map_mergeSort]
  intro a _ b _
  rfl
theorem Srt.ok {α : Type} {f : α → P} (h : Srt f) {xs : List α} (hl : xs.length ≤ 16777216) : psortT (xs.map f) := by
  refine ⟨PySem.W.AllAlike.of h.al, ?_, by rw [List.length_map]; exact hl, fun x hx => ?_⟩
  · rcases h.kd with k | k
    · exact .inl fun d hd => by
        obtain ⟨x, _, rfl⟩ := List.mem_map.mp hd
        exact k x
    · exact .inr (PySem.W.Sortable.others k)
  · obtain ⟨y, _, rfl⟩ := List.mem_map.mp hx
    exact h.dep y
theorem zSort_of {α : Type} {f : α → P} (h : Srt f) {d : D} {M : Store} {xs : List α} (e : seqv M d = some ((xs.map f).map .p)) (hl : xs.length ≤ 16777216) : zSort [d] M = .ok (.p (.list ((lsort f xs).map f))) M := by
  unfold zSort
  simp only [e, pures_map]
  rw [if_pos (h.ok hl), psort_map]
theorem srt_int : Srt PyData.int := ⟨fun _ _ => rfl, .inr fun x => ⟨(fun z => nomatch z), fun t z => nomatch z⟩, fun _ => Nat.zero_le _⟩
theorem srt_nat : Srt (fun n : Nat => PyData.int (n : Int)) := ⟨fun _ _ => rfl, .inr fun x => ⟨(fun z => nomatch z), fun t z => nomatch z⟩, fun _ => Nat.zero_le _⟩
theorem alike_map {α : Type} {f : α → P} (h : ∀ x y, PySem.W.alike (f x) (f y) = true) : ∀ xs ys : List α, PySem.W.alikeAll (xs.map f) (ys.map f) = true
  | [], _ => by simp [PySem.W.alikeAll]
  | _ :: _, [] => by simp [PySem.W.alikeAll]
  | x :: xs, y :: ys => by
    rw [List.map_cons, List.map_cons, PySem.W.alikeAll, h, alike_map h xs ys]
    rfl
theorem srt_ti : Srt tints := ⟨fun x y => by rw [PySem.W.alike]; exact alike_map srt_int.al x y, .inl fun x => ⟨_, rfl⟩, fun x => Nat.le_trans (lay_ti.dep x) (by decide)⟩
theorem srt_tn : Srt tnats := ⟨fun x y => by rw [PySem.W.alike]; exact alike_map srt_nat.al x y, .inl fun x => ⟨_, rfl⟩, fun x => Nat.le_trans (lay_tn.dep x) (by decide)⟩
/-- what is wanted, put out of sight -/
theorem sat_any {α : Type} {Q : α → Prop} {o : α} (h : ∀ Φ : α → Prop, (∀ o, Q o → Φ o) → Sat Φ o) : Sat Q o := h Q fun _ k => k
end Z

/-! Z: dicts made and filled. -/
namespace Z
open PySem PySem.Spec PyProof.Rows L2
def putD (kvs : List (Key × D)) (k : Key) (d : D) : List (Key × D) := if (kvs.any fun kv => decide (kv.1 = k)) = true then kvs.map (fun kv => if kv.1 = k then (kv.1, d) else kv) else kvs ++ [(k, d)]
def mergeD (kvs more : List (Key × D)) : List (Key × D) := more.foldl (fun acc kv => putD acc kv.1 kv.2) kvs
section
variable {K : PySem.W.Frag} {θ θ' : List Addr} {H H' : Hp} {M : Store}
theorem kd_any (k : Key) : ∀ {us : List (Key × V)} {kvs : List (Key × D)}, KD K θ H us kvs → (us.any fun kv => decide (kv.1 = k)) = kvs.any fun kv => decide (kv.1 = k)
  | _, _, .nil => rfl
  | _, _, .cons a b => by rw [List.any_cons, List.any_cons, kd_any k b, a.1]
theorem kd_repl {k : Key} {v : V} {d : D} (r : Dr K θ H v d) : ∀ {us : List (Key × V)} {kvs : List (Key × D)}, KD K θ H us kvs → KD K θ H (us.map fun kv => if kv.1 = k then (kv.1, v) else kv) (kvs.map fun kv => if kv.1 = k then (kv.1, d) else kv)
  | _, _, .nil => .nil
  | u :: us, q :: kvs, .cons a b => by
    rw [List.map_cons, List.map_cons]
    refine .cons ?_ (kd_repl r b)
    by_cases e : u.1 = k
    · rw [if_pos e, if_pos (a.1 ▸ e)]; exact ⟨a.1, r⟩
    · rw [if_neg e, if_neg (fun z => e (a.1.trans z))]; exact a
theorem kd_put {k : Key} {v : V} {d : D} (r : Dr K θ H v d) {us : List (Key × V)} {kvs : List (Key × D)} (h : KD K θ H us kvs) : KD K θ H (putK us k v) (putD kvs k d) := by
  unfold putK putD
  rw [kd_any k h]
  split
  · exact kd_repl r h
  · exact paired_append h (.cons ⟨rfl, r⟩ .nil)
theorem kd_merge : ∀ {more : List (Key × V)} {dm : List (Key × D)} {us : List (Key × V)} {kvs : List (Key × D)}, KD K θ H more dm → KD K θ H us kvs → KD K θ H (mergeK us more) (mergeD kvs dm)
  | _, _, _, _, .nil, h => h
  | p :: _, q :: _, _, _, .cons a b, h => by
    unfold mergeK mergeD
    rw [List.foldl_cons, List.foldl_cons]
    have := kd_put (k := p.1) a.2 h
    rw [← a.1]
    exact kd_merge b this
theorem kd_go {us : List (Key × V)} {kvs : List (Key × D)} (g : Go θ θ' H H') (h : KD K θ H us kvs) : KD K θ' H' us kvs := paired_imp (fun _ _ z => ⟨z.1, z.2.go g⟩) h
theorem kd_low (s : SR K θ H M) : ∀ {us : List (Key × V)} {kvs : List (Key × D)}, KD K θ H us kvs → (kvs.all fun kv => kv.2.low M.length) = true
  | _, _, .nil => rfl
  | _, q :: kvs, .cons a b => by
    rw [List.all_cons, kd_low s b, Bool.and_true]
    have := Drs.low s (.cons a.2 .nil)
    simpa using this
theorem kd_len {us : List (Key × V)} {kvs : List (Key × D)} (h : KD K θ H us kvs) : us.length = kvs.length := Paired.length h
end
section
variable {X : Cx} {E : XK} {a b : Expr} {ca cb : ZC} {pos : Pos}
theorem new_dic {θ : List Addr} {H : Hp} {M : Store} {Q : VK} {us : List (Key × V)} {kvs : List (Key × D)} {p : Addr} (h : Post X.K X.mg E (Dr X.K) Q θ H (.ok (.ref M.length) (M ++ [.dic kvs]))) (s : SR X.K θ H M) (r : KD X.K θ H us kvs) (hp : H p = none) :
    Q (.ref p) (upd H p (.dK us)) :=
  h (.ref p) _ (θ ++ [p]) (Go.new s hp) (s.new hp ⟨us, upd_same, kd_go (Go.new s hp) r⟩ (kd_low s r)) s.newD
/-- {} -/
def zDnew : ZC := fun _ M => .ok (.ref M.length) (M ++ [.dic []])
theorem ZE.dnew : ZE X E (.Dict [] [] pos) zDnew := ⟨_, pe_dnewK, fun σ H θ sl M Q hs hm h p hp => new_dic h hm .nil hp⟩
/-- d[k] = v -/
def zDput (x y v : D) (M : Store) : Option Store := match x, y with
  | .ref i, .p yk => match M[i]?, kOf yk with
    | some (.dic kvs), some k => if v.low i = true ∧ kvs.length < sizeLine then some (M.set i (.dic (putD kvs k v))) else none
    | _, _ => none
  | _, _ => none
theorem putD_mem {kvs : List (Key × D)} {k : Key} {d : D} {kv : Key × D} (h : kv ∈ putD kvs k d) : kv.2 = d ∨ kv ∈ kvs := by
  unfold putD at h
  split at h
  · obtain ⟨z, hz, e⟩ := List.mem_map.mp h
    split at e
    · rw [← e]; exact .inl rfl
    · rw [← e]; exact .inr hz
  · rcases List.mem_append.mp h with h | h
    · exact .inr h
    · rw [List.mem_singleton.mp h]; exact .inl rfl
theorem zDput_ok (zx : ZX X) : PSet X (rZset X zDput) := by
  intro pins s σ H o i v ov iv u Q I ro ri rv h
  obtain ⟨θ, M, x, y, d, M', m, rx, ry, rd, e, q⟩ := h
  have hu := zx.hu
  unfold zDput at e
  split at e
  · rename_i j yk
    split at e
    · rename_i kvs k e1 e2
      split at e
      · rename_i c
        cases e
        obtain ⟨ad, hi, rfl, hk⟩ := dr_ref m rx e1
        obtain ⟨us, h0, r⟩ := hk
        have ev := kv_is ry e2
        subst ev
        refine set_dict (by omega) pins s σ H _ _ v ov iv u Q I ro ri rv ⟨ad, _, rfl, DPut.k h0 (by rw [kd_len r]; exact c.2), ?_⟩
        have g : Go θ θ H (upd H ad (.dK (putK us k v))) := ⟨List.prefix_refl _, fun b w e c => by
          have ne : b ≠ ad := by
            rintro rfl
            rw [h0] at e; cases e
            rcases c with c | c
            · exact c (List.mem_of_getElem? hi)
            · exact c
          rw [upd_ne ne]; exact e, fun b m n => absurd m n⟩
        have lo := m.low j _ e1
        obtain ⟨s', g'⟩ := m.set (o := .dic (putD kvs k d)) (u := .dK (putK us k v)) hi h0 (fun z => z) ⟨_, upd_same, kd_put (rd.go g) (kd_go g r)⟩ (List.all_eq_true.mpr fun z hz => by
          rcases putD_mem hz with h | h
          · rw [h]; exact c.1
          · exact List.all_eq_true.mp lo z h)
        exact q _ g' s'
      · cases e
    · cases e
  · cases e
/-! {k: v, ..} -/
abbrev ZCp := Sl → Store → Out (List (P × D))
def PR (K : PySem.W.Frag) (θ : List Addr) (H : Hp) : List (V × V) → List (P × D) → Prop := Paired fun p q => Fz K H p.1 q.1 ∧ Dr K θ H p.2 q.2
def ZPr (X : Cx) (E : XK) (pos : Pos) (ks : List (Option Expr)) (vs : List Expr) (c : ZCp) : Prop := ∃ trs, PPs X pos ks vs trs ∧ ∀ σ H θ sl M Q, SV X.K θ H σ sl → SR X.K θ H M → Post X.K X.mg E (PR X.K) Q θ H (c sl M) → tPairs trs σ H Q
def zpnil : ZCp := fun _ M => .ok [] M
def zpcons (k v : ZC) (r : ZCp) : ZCp := fun sl M => (k sl M).bind fun kd M1 => match kd with
  | .p x => (v sl M1).bind fun vd M2 => (r sl M2).bind fun ps M3 => .ok ((x, vd) :: ps) M3
  | _ => .stuck
theorem ZPr.nil : ZPr X E pos [] [] zpnil := ⟨_, pps_nil, fun σ H θ sl M Q hs hm h => Post.here (b := []) (show Post X.K X.mg E (PR X.K) Q θ H (.ok [] M) from h) hm .nil⟩
theorem ZPr.cons {ks : List (Option Expr)} {vs : List Expr} {cr : ZCp} (ha : ZE X E a ca) (hb : ZE X E b cb) (hr : ZPr X E pos ks vs cr) : ZPr X E pos (some a :: ks) (b :: vs) (zpcons ca cb cr) := by
  obtain ⟨ta, pa, qa⟩ := ha
  obtain ⟨tb, pb, qb⟩ := hb
  obtain ⟨tr, pr, qr⟩ := hr
  refine ⟨_, pps_cons pa pb pr, fun σ H θ sl M Q hs hm h => qa σ H θ sl M _ hs hm (Post.bind h fun d M1 v H1 θ1 g1 m1 r1 h1 => ?_)⟩
  split at h1
  · refine qb σ H1 θ1 sl M1 _ (hs.go g1) m1 (Post.bind h1 fun d2 M2 v2 H2 θ2 g2 m2 r2 h2 => ?_)
    refine qr σ H2 θ2 sl M2 _ ((hs.go g1).go g2) m2 (Post.bind h2 fun ps M3 pv H3 θ3 g3 m3 r3 h3 => ?_)
    exact Post.here (b := (v, v2) :: pv) h3 m3 (.cons ⟨Fz.keep (g2.trans g3).keep r1, r2.go g3⟩ r3)
  · exact h1.elim
def keyedD : List (P × D) → Option (List (Key × D))
  | [] => some []
  | kv :: r => match kOf kv.1, keyedD r with
    | some k, some ks => some ((k, kv.2) :: ks)
    | _, _ => none
def zdisp (c : ZCp) : ZC := fun sl M => (c sl M).bind fun ps M1 => match keyedD ps with
  | some kvs => if kvs.length ≤ 15 then .ok (.ref M1.length) (M1 ++ [.dic (mergeD [] kvs)]) else .stuck
  | none => .stuck
theorem keyedD_ok {K : PySem.W.Frag} {θ : List Addr} {H : Hp} : ∀ {ps : List (V × V)} {ds : List (P × D)} {kvs : List (Key × D)}, PR K θ H ps ds → keyedD ds = some kvs → ∃ us : List (Key × V), ps = us.map (fun kv => (kV kv.1, kv.2)) ∧ KD K θ H us kvs
  | _, _, kvs, .nil, e => by cases e; exact ⟨[], rfl, .nil⟩
  | p :: ps, d :: ds, kvs, .cons x y, e => by
    unfold keyedD at e
    cases q1 : kOf d.1 with
    | none => rw [q1] at e; cases e
    | some k =>
      cases q2 : keyedD ds with
      | none => rw [q1, q2] at e; cases e
      | some ks =>
        rw [q1, q2] at e
        cases e
        obtain ⟨us, e1, r⟩ := keyedD_ok y q2
        refine ⟨(k, p.2) :: us, ?_, .cons ⟨rfl, x.2⟩ r⟩
        rw [List.map_cons, e1]
        congr 1
        rw [← kv_is x.1 q1]
theorem ZE.disp {ks : List (Option Expr)} {vs : List Expr} {c : ZCp} (h : ZPr X E pos ks vs c) (hall : ks.all (·.isSome) = true := by rfl) (hl : ks.length = vs.length := by rfl) (h0 : ks ≠ [] := by exact fun z => by cases z) (hn : ks.length ≤ 15 := by decide) :
    ZE X E (.Dict ks vs pos) (zdisp c) := by
  obtain ⟨trs, p, q⟩ := h
  refine ⟨_, pe_disp p hall hl h0 hn, fun σ H θ sl M Q hs hm h => ?_⟩
  intro pa hp
  have g0 : Go θ θ H (upd H pa (.dK [])) := Go.out hm hp
  have np : pa ∉ θ := fun z => hm.apart hp pa z rfl
  refine q σ _ θ sl M _ (hs.go g0) (hm.out hp) ?_
  unfold zdisp at h
  cases ec : c sl M with
  | stuck => rw [ec] at h; exact h
  | exc x M1 => rw [ec] at h; exact Post.go (α := List (P × D)) (β := List (V × V)) (R := PR X.K) (Q := fun _ _ => True) g0 (show Post X.K X.mg E (PR X.K) (fun _ _ => True) θ H (.exc x M1) from h)
  | ok ps M1 =>
    rw [ec] at h
    simp only [Out.bind_ok] at h
    intro pv H2 θ2 g2 m2 r2
    have hs2 : H2 pa = some (.dK []) := g2.same np
    refine ⟨hs2, ?_⟩
    cases ek : keyedD ps with
    | none => rw [ek] at h; exact h.elim
    | some kvs =>
      rw [ek] at h
      simp only at h
      by_cases hl15 : kvs.length ≤ 15
      · rw [if_pos hl15] at h
        obtain ⟨us, e1, r3⟩ := keyedD_ok r2 ek
        refine ⟨us, e1, by rw [kd_len r3]; exact hl15, ?_⟩
        have np2 : pa ∉ θ2 := g2.notin np
        have hv := g2.hid hp
        have mv := m2.hid hs2 (fun z => z) np2
        have rv : KD X.K θ2 (hid H2 pa) us kvs := paired_imp (fun _ _ z => ⟨z.1, z.2.hid hs2 (fun z => z)⟩) r3
        have := new_dic (us := mergeK [] us) (p := pa) (Post.go hv h) mv (kd_merge rv .nil) hid_same
        have eu : upd (hid H2 pa) pa (.dK (mergeK [] us)) = upd H2 pa (.dK (mergeK [] us)) := by
          funext b
          by_cases eb : b = pa
          · rw [eb, upd_same, upd_same]
          · rw [upd_ne eb, upd_ne eb, hid_ne eb]
        rw [eu] at this
        exact this
      · rw [if_neg hl15] at h; exact h.elim
end
end Z

/-! Z: dict(zip(a, b)), lists and tuples in any mix. -/
namespace Z
open PySem PySem.Spec PyProof.Rows L2
section
variable {prog : Program} {w : World} {A : Around} {E : Value → Shared → Prop} {s : Shared} {z TI TO T i1 i2 : Addr} {fp1 fp2 : List Addr} {n1 n2 i : Nat} {P1 P2 : Nat → Value → Prop} {St1 St2 : Nat → Heap → Prop} {f : Bool} {oT : Obj}
/-- zip's next pair while the one before is still out -/
theorem held_item {Q : Value → Shared → Prop} (S : ZipSep2 z TI TO i1 i2 fp1 fp2) (D1 : Draws prog w A i1 fp1 n1 P1 St1) (D2 : Draws prog w A i2 fp2 n2 P2 St2) (hz : IsZipHeld s.heap z TI TO T f) (hT : s.heap.get? T = some oT) (hTI : IsTupOf2 s.heap TI (.ref i1) (.ref i2))
    (st1 : St1 i s.heap) (st2 : St2 i s.heap) (l1 : i < n1) (l2 : i < n2)
    (hQ : ∀ x y h' tk, P1 i x → P2 i y → IsZipHeld h' z TI TO T true → St1 (i + 1) h' → St2 (i + 1) h' → IsTupOf2 h' s.heap.objs.size x y → (∀ c o, c ≠ z → c ≠ i1 → c ≠ i2 → s.heap.get? c = some o → h'.get? c = some o) → Q (.ref s.heap.objs.size) { s with heap := h', toks := tk }) :
    wpAny (model prog w) A (Builtin.«zip.__next__» ⟨[.ref z], []⟩) (fun fin s' => ∃ v, fin = .done (.ret v) ∧ Q v s') E s := by
  obtain ⟨hp, g, d, tk0, os⟩ := s
  show wpAny _ _ (field (.ref z) 2 >>= _) _ _ _
  refine wpAny_bind (wpAny_field hz rfl (x := .bool false) rfl ?_)
  show wpAny _ _ (field (.ref z) 3 >>= _) _ _ _
  refine wpAny_bind (wpAny_field hz rfl (x := .ref TI) rfl (wpAny_bind (wpAny_seqItems hTI rfl ?_)))
  show wpAny _ _ (Builtin.SmallTypes.ownedTupleIsFree (.ref z) >>= _) _ _ _
  refine wpAny_bind (wpAny_tupleHeld_zip hz hT fun g0 hz0 hs0 => ?_)
  replace hs0 : Heap.SameBut z hp g0 := hs0
  simp only [Bool.false_eq_true, if_false]
  refine wpAny_bind ?_
  rw [← Array.forIn_toList]
  simp only [List.forIn_cons, List.forIn_nil]
  refine wpAny_bind (wpAny_bind (wpAny_holding ?_))
  show wpAny _ _ (Builtin.SmallTypes.nextOf (.ref i1) >>= _) _ _ ⟨g0, g, d, tk0, os⟩
  refine wpAny_bind (D1.item i _ _ _ l1 (D1.over st1 hs0 S.zf1) fun x1 p1 tk1 hx1 sn1 hp1 => wpAny_pure (wpAny_pure ?_))
  replace hp1 : Heap.SameBut i1 g0 p1 := hp1
  refine wpAny_bind (wpAny_bind (wpAny_holding ?_))
  show wpAny _ _ (Builtin.SmallTypes.nextOf (.ref i2) >>= _) _ _ ⟨p1, g, d, tk1, os⟩
  refine wpAny_bind (D2.item i _ _ _ l2 (D2.over (D2.over st2 hs0 S.zf2) hp1 S.sep1_2) fun x2 p2 tk2 hx2 sn2 hp2 => wpAny_pure (wpAny_pure (wpAny_pure ?_)))
  replace hp2 : Heap.SameBut i2 p1 p2 := hp2
  show wpAny _ _ (newTuple [x1, x2] >>= _) _ _ _
  refine wpAny_bind (wpAny_newTuple ?_)
  have hsz : p2.objs.size = hp.objs.size := by rw [hp2.1, hp1.1, hs0.1]
  have hz3 : IsZipHeld p2 z TI TO T true := hp2.extBut _ _ S.zi2 (hp1.extBut _ _ S.zi1 hz0)
  have hk : ∀ c o, c ≠ z → c ≠ i1 → c ≠ i2 → hp.get? c = some o → p2.get? c = some o := fun c o c1 c2 c3 e => hp2.extBut _ _ c3 (hp1.extBut _ _ c2 (hs0.extBut _ _ c1 e))
  refine wpAny_pure ⟨_, rfl, ?_⟩
  show Q (.ref p2.objs.size) _
  have hpp : IsTupOf2 (p2.push { cls := .type "tuple", data := .seq #[x1, x2] }) p2.objs.size x1 x2 := Heap.get?_push_size _ rfl
  rw [hsz] at hpp ⊢
  exact hQ x1 x2 _ tk2 hx1 hx2 (Heap.get?_push_of_some _ hz3) (D1.frame _ _ _ (D1.over sn1 hp2 S.sep2_1) fun b _ o e => Heap.get?_push_of_some _ e) (D2.frame _ _ _ sn2 fun b _ o e => Heap.get?_push_of_some _ e) hpp fun c o c1 c2 c3 e => Heap.get?_push_of_some _ (hk c o c1 c2 c3 e)
theorem held_end {Q : PySem.Fin → Shared → Prop} (S : ZipSep2 z TI TO i1 i2 fp1 fp2) (D1 : Draws prog w A i1 fp1 n1 P1 St1) (D2 : Draws prog w A i2 fp2 n2 P2 St2) (hz : IsZipHeld s.heap z TI TO T f) (hT : s.heap.get? T = some oT) (hTI : IsTupOf2 s.heap TI (.ref i1) (.ref i2))
    (st1 : St1 i s.heap) (st2 : St2 i s.heap) (l1 : i ≤ n1) (l2 : i ≤ n2) (hend : i = n1 ∨ i = n2)
    (hE : ∀ h' tk e, (∀ c o, c ≠ z → c ≠ i1 → c ≠ i2 → s.heap.get? c = some o → h'.get? c = some o) → (∃ o, h'.get? e = some o ∧ o.cls = .type "StopIteration") → E (.ref e) { s with heap := h', toks := tk }) :
    wpAny (model prog w) A (Builtin.«zip.__next__» ⟨[.ref z], []⟩) Q E s := by
  obtain ⟨hp, g, d, tk0, os⟩ := s
  show wpAny _ _ (field (.ref z) 2 >>= _) _ _ _
  refine wpAny_bind (wpAny_field hz rfl (x := .bool false) rfl ?_)
  show wpAny _ _ (field (.ref z) 3 >>= _) _ _ _
  refine wpAny_bind (wpAny_field hz rfl (x := .ref TI) rfl (wpAny_bind (wpAny_seqItems hTI rfl ?_)))
  show wpAny _ _ (Builtin.SmallTypes.ownedTupleIsFree (.ref z) >>= _) _ _ _
  refine wpAny_bind (wpAny_tupleHeld_zip hz hT fun g0 hz0 hs0 => ?_)
  replace hs0 : Heap.SameBut z hp g0 := hs0
  simp only [Bool.false_eq_true, if_false]
  refine wpAny_bind ?_
  rw [← Array.forIn_toList]
  simp only [List.forIn_cons, List.forIn_nil]
  refine wpAny_bind (wpAny_bind (wpAny_holding ?_))
  show wpAny _ _ (Builtin.SmallTypes.nextOf (.ref i1) >>= _) _ _ ⟨g0, g, d, tk0, os⟩
  by_cases e1 : i = n1
  · refine wpAny_bind (D1.done _ _ _ (D1.over (by rw [← e1]; exact st1) hs0 S.zf1) fun p1 e hp1 he => ?_)
    exact hE p1 tk0 e (fun c o c1 c2 _ x => hp1 _ _ c2 (hs0.extBut _ _ c1 x)) he
  · have e2 : i = n2 := by omega
    refine wpAny_bind (D1.item i _ _ _ (by omega) (D1.over st1 hs0 S.zf1) fun x1 p1 tk1 hx1 sn1 hp1 => wpAny_pure (wpAny_pure ?_))
    replace hp1 : Heap.SameBut i1 g0 p1 := hp1
    refine wpAny_bind (wpAny_bind (wpAny_holding ?_))
    show wpAny _ _ (Builtin.SmallTypes.nextOf (.ref i2) >>= _) _ _ ⟨p1, g, d, tk1, os⟩
    refine wpAny_bind (D2.done _ _ _ (D2.over (D2.over (by rw [← e2]; exact st2) hs0 S.zf2) hp1 S.sep1_2) fun p2 e hp2 he => ?_)
    exact hE p2 tk1 e (fun c o c1 c2 c3 x => hp2 _ _ c3 (hp1.extBut _ _ c2 (hs0.extBut _ _ c1 x))) he
theorem next_held {Q : Option Value → Shared → Prop} (S : ZipSep2 z TI TO i1 i2 fp1 fp2) (D1 : Draws prog w A.in1 i1 fp1 n1 P1 St1) (D2 : Draws prog w A.in1 i2 fp2 n2 P2 St2) (hz : IsZipHeld s.heap z TI TO T f) (hT : s.heap.get? T = some oT) (hTI : IsTupOf2 s.heap TI (.ref i1) (.ref i2))
    (st1 : St1 i s.heap) (st2 : St2 i s.heap) (l1 : i < n1) (l2 : i < n2)
    (hQ : ∀ x y h' tk, P1 i x → P2 i y → IsZipHeld h' z TI TO T true → St1 (i + 1) h' → St2 (i + 1) h' → IsTupOf2 h' s.heap.objs.size x y → (∀ c o, c ≠ z → c ≠ i1 → c ≠ i2 → s.heap.get? c = some o → h'.get? c = some o) → Q (some (.ref s.heap.objs.size)) { s with heap := h', toks := tk }) :
    wpAny (model prog w) A (pyNext (.ref z)) Q E s := by
  have hTy : s.TypeIs (.ref z) "zip" := ⟨_, hz, rfl⟩
  unfold pyNext
  exact wpAny_bind (wpAny_attempt (wpAny_callSpecial?_slot (name := Str.ofString "__next__") hTy F.slot_zip_next
    (wpAny_call_entry F.slot_zip_next hTy F.entry_zip_next (held_item S D1 D2 hz hT hTI st1 st2 l1 l2 fun x y h' tk a1 a2 a3 a4 a5 a6 a7 => wpAny_pure (hQ x y h' tk a1 a2 a3 a4 a5 a6 a7)) (F.args_zip_next_1 _))))
theorem end_held {Q : Option Value → Shared → Prop} (S : ZipSep2 z TI TO i1 i2 fp1 fp2) (D1 : Draws prog w A.in1 i1 fp1 n1 P1 St1) (D2 : Draws prog w A.in1 i2 fp2 n2 P2 St2) (hz : IsZipHeld s.heap z TI TO T f) (hT : s.heap.get? T = some oT) (hTI : IsTupOf2 s.heap TI (.ref i1) (.ref i2))
    (st1 : St1 i s.heap) (st2 : St2 i s.heap) (l1 : i ≤ n1) (l2 : i ≤ n2) (hend : i = n1 ∨ i = n2)
    (hQ : ∀ h' tk, (∀ c o, c ≠ z → c ≠ i1 → c ≠ i2 → s.heap.get? c = some o → h'.get? c = some o) → Q none { s with heap := h', toks := tk }) : wpAny (model prog w) A (pyNext (.ref z)) Q E s := by
  have hTy : s.TypeIs (.ref z) "zip" := ⟨_, hz, rfl⟩
  unfold pyNext
  refine wpAny_bind (wpAny_attempt (wpAny_callSpecial?_slot (name := Str.ofString "__next__") hTy F.slot_zip_next
    (wpAny_call_entry F.slot_zip_next hTy F.entry_zip_next (held_end S D1 D2 hz hT hTI st1 st2 l1 l2 hend fun h' tk e hk he => ?_) (F.args_zip_next_1 _))))
  obtain ⟨o, ho, hc⟩ := he
  refine wpAny_bind (wpAny_isInstance (T := "StopIteration") (b := true) ⟨o, ho, hc⟩ isSubtype_stop ?_)
  exact wpAny_pure (hQ _ _ hk)
end
/-- zip over any two iterators, as what dict() is given -/
theorem zip_pairs {prog : Program} {w : World} {z TI TO i1 i2 : Addr} {fp1 fp2 : List Addr} {n1 n2 : Nat} {P1 P2 : Nat → Value → Prop} {St1 St2 : Nat → Heap → Prop} (S : ZipSep2 z TI TO i1 i2 fp1 fp2)
    (D1 : ∀ A : Around, A.handled = none → Draws prog w A i1 fp1 n1 P1 St1) (D2 : ∀ A : Around, A.handled = none → Draws prog w A i2 fp2 n2 P2 St2) :
    PairArg prog w "zip" z (z :: TI :: TO :: (fp1 ++ fp2)) [z, TO, i1, i2] (min n1 n2) (fun i k v => P1 i k ∧ P2 i v)
      (fun h => IsZip h z TI TO .none ∧ IsTupOf2 h TI (.ref i1) (.ref i2) ∧ (∃ a b, IsTupOf2 h TO a b) ∧ St1 0 h ∧ St2 0 h ∧ ∀ b ∈ fp1 ++ fp2, ∃ o, h.get? b = some o) where
  type := fun s ok => ⟨_, ok.1, rfl⟩
  notDict := by decide
  keep := fun h h' ok hk => by
    obtain ⟨hz, hTI, ⟨a, b, hTO⟩, h1, h2, h3⟩ := ok
    exact ⟨hk _ _ hz, hk _ _ hTI, ⟨a, b, hk _ _ hTO⟩, (D1 {} rfl).frame _ _ _ h1 fun b _ o e => hk _ o e, (D2 {} rfl).frame _ _ _ h2 fun b _ o e => hk _ o e, fun b hb => let ⟨o, ho⟩ := h3 b hb; ⟨o, hk _ _ ho⟩⟩
  there := fun h ok b hb => by
    obtain ⟨hz, hTI, ⟨a, c, hTO⟩, _, _, h3⟩ := ok
    rcases List.mem_cons.mp hb with rfl | hb
    · exact ⟨_, hz⟩
    rcases List.mem_cons.mp hb with rfl | hb
    · exact ⟨_, hTI⟩
    rcases List.mem_cons.mp hb with rfl | hb
    · exact ⟨_, hTO⟩
    exact h3 b hb
  sub := fun b hb => by
    simp only [List.mem_cons, List.not_mem_nil, or_false] at hb
    rcases hb with rfl | rfl | rfl | rfl
    · simp
    · simp
    · simp [S.mem1]
    · simp [S.mem2]
  noKeys := fun A s Q E hA ok h => getAttrOr_miss_zip ok.1 rfl rfl rfl zip_no_keys (by decide +kernel) hA h
  iter := fun A s d Q E hA ok hd hdf h => by
    obtain ⟨hz, hTI, ⟨a, b, hTO⟩, h1, h2, h3⟩ := ok
    simp only [List.mem_cons, List.mem_append, not_or] at hdf
    obtain ⟨dz, dTI, dTO, df1, df2⟩ := hdf
    have di1 : d ≠ i1 := fun e => df1 (e ▸ S.mem1)
    have di2 : d ≠ i2 := fun e => df2 (e ▸ S.mem2)
    refine wpAny_pyIter_zip hz (h z [z, TO, i1, i2] (fun i h => IsTupOf2 h TI (.ref i1) (.ref i2) ∧ St1 i h ∧ St2 i h ∧ ((IsZip h z TI TO .none ∧ ∃ a b, IsTupOf2 h TO a b) ∨ ∃ T f oT, IsZipHeld h z TI TO T f ∧ h.get? T = some oT ∧ T ≠ z ∧ T ≠ i1 ∧ T ≠ i2 ∧ T ≠ d)) s.heap s.toks ?_
      ⟨hTI, h1, h2, .inl ⟨hz, a, b, hTO⟩⟩ (fun _ _ e => e) fun b hb => .inl hb)
    have up : ∀ {h h' : Heap} {fp : List Addr}, d ∉ fp → (∀ b o, b ≠ d → h.get? b = some o → h'.get? b = some o) → ∀ b ∈ fp, ∀ o, h.get? b = some o → h'.get? b = some o := fun {h h' fp} hf hk b hb o e => hk b o (fun q => hf (q ▸ hb)) e
    exact {
      off := fun hm => by
        simp only [List.mem_cons, List.not_mem_nil, or_false] at hm
        rcases hm with e | e | e | e
        · exact dz e
        · exact dTO e
        · exact di1 e
        · exact di2 e
      frame := fun i g g' st hk => by
        obtain ⟨hTI, h1, h2, hz⟩ := st
        refine ⟨hk _ _ (Ne.symm dTI) hTI, (D1 {} rfl).frame _ _ _ h1 (up df1 hk), (D2 {} rfl).frame _ _ _ h2 (up df2 hk), ?_⟩
        rcases hz with ⟨hz, a, b, hTO⟩ | ⟨T, f, oT, hz, hT, r1, r2, r3, r4⟩
        · exact .inl ⟨hk _ _ (Ne.symm dz) hz, a, b, hk _ _ (Ne.symm dTO) hTO⟩
        · exact .inr ⟨T, f, oT, hk _ _ (Ne.symm dz) hz, hk _ _ r4 hT, r1, r2, r3, r4⟩
      item := fun i t Q1 E1 hi st hds hQ => by
        obtain ⟨hTI, h1, h2, hz⟩ := st
        have l1 : i < n1 := Nat.lt_of_lt_of_le hi (Nat.min_le_left ..)
        have l2 : i < n2 := Nat.lt_of_lt_of_le hi (Nat.min_le_right ..)
        have m1 : t.heap.objs.size ≠ i1 := let ⟨_, e⟩ := (D1 {} rfl).live _ _ h1; Nat.ne_of_gt (Heap.lt_size e)
        have m2 : t.heap.objs.size ≠ i2 := let ⟨_, e⟩ := (D2 {} rfl).live _ _ h2; Nat.ne_of_gt (Heap.lt_size e)
        rcases hz with ⟨hz, a, b, hTO⟩ | ⟨T, f, oT, hz, hT, r1, r2, r3, r4⟩
        · refine wpAny_pyNext_zipD2_item S (D1 _ hA) (D2 _ hA) hz hTI hTO h1 h2 l1 l2 fun x y h' tk b1 b2 a1 a2 a3 a4 a5 a6 hk => ?_
          exact hQ t.heap.objs.size _ _ h' tk ⟨b1, b2⟩ (.inl ⟨_, a5, rfl, _, rfl⟩) ⟨hk _ _ S.TIz S.TITO S.TIi1 S.TIi2 hTI, a3, a4, .inr ⟨t.heap.objs.size, false, _, a1, a5, Nat.ne_of_gt (Heap.lt_size hz), m1, m2, Nat.ne_of_gt hds⟩⟩
            fun c o hc e => hk c o (fun x => hc (by simp [x])) (fun x => hc (by simp [x])) (fun x => hc (by simp [x])) (fun x => hc (by simp [x])) e
        · refine next_held S (D1 _ hA) (D2 _ hA) hz hT hTI h1 h2 l1 l2 fun x y h' tk b1 b2 a1 a3 a4 a5 hk => ?_
          exact hQ t.heap.objs.size _ _ h' tk ⟨b1, b2⟩ (.inl ⟨_, a5, rfl, _, rfl⟩) ⟨hk _ _ S.TIz S.TIi1 S.TIi2 hTI, a3, a4, .inr ⟨T, true, oT, a1, hk _ _ r1 r2 r3 hT, r1, r2, r3, r4⟩⟩
            fun c o hc e => hk c o (fun x => hc (by simp [x])) (fun x => hc (by simp [x])) (fun x => hc (by simp [x])) e
      done := fun t Q1 E1 st hQ => by
        obtain ⟨hTI, h1, h2, hz⟩ := st
        rcases hz with ⟨hz, a, b, hTO⟩ | ⟨T, f, oT, hz, hT, r1, r2, r3, r4⟩
        · exact wpAny_pyNext_zipD2_end S (D1 _ hA) (D2 _ hA) hz hTI hTO h1 h2 (Nat.min_le_left ..) (Nat.min_le_right ..) (by omega) fun h' tk hk => hQ h' tk fun c o hc e => hk c o (fun x => hc (by simp [x])) (fun x => hc (by simp [x])) (fun x => hc (by simp [x])) (fun x => hc (by simp [x])) e
        · exact end_held S (D1 _ hA) (D2 _ hA) hz hT hTI h1 h2 (Nat.min_le_left ..) (Nat.min_le_right ..) (by omega) fun h' tk hk => hQ h' tk fun c o hc e => hk c o (fun x => hc (by simp [x])) (fun x => hc (by simp [x])) (fun x => hc (by simp [x])) e }
/-! ### the expression dict(zip(a, b)) -/
section
variable {X : Cx} {pins : List (Addr × Obj)} {σ : L2.St} {H : Hp} {s : Shared}
theorem src_of (I : Inv X pins σ H s) {a : Addr} {xs : List V} (h : SqX X.K H a xs ∨ SqT X.K H a xs) : ∃ (its : List Value) (o : Obj) (Hh : Heap → Prop) (St : Addr → Nat → Heap → Prop), Vals xs its ∧ xs.length ≤ sizeLine ∧ Begins (.ref a) o Hh ∧ Hh s.heap ∧ a < s.heap.objs.size ∧
    (∀ (it : Addr) (A : Around), a ≠ it → A.handled = none → Draws X.prog X.w A it [it, a] its.length (fun i v => its.toArray[i]? = some v) (St it)) ∧
    ∀ it (h' : Heap), h'.get? it = some o → (∀ b u, s.heap.get? b = some u → h'.get? b = some u) → St it 0 h' := by
  rcases h with h | h
  · obtain ⟨its, r, pl, hz⟩ := I.list h.sq
    refine ⟨its, _, _, (fun it i h => h.IsListIter it a i ∧ h.IsList a its.toArray), r, hz, begins_list a its.toArray, pl.isList, pl.lt, fun it A ne hA => ?_, fun it h' e k => ?_⟩
    · have := Draws.list (prog := X.prog) (w := X.w) hA it a ne its.toArray
      simpa using this
    · exact ⟨⟨_, e, rfl, rfl⟩, pl.isList.at fun o q => k _ _ q⟩
  · obtain ⟨its, r, ⟨o, ho, hc, n, hd⟩, hz⟩ := I.tuple h
    refine ⟨its, _, _, (fun it i h => h.IsTupleIter it a i ∧ h.IsTuple a its.toArray), r, hz, begins_tuple a its.toArray, ⟨o, ho, hc, n, hd⟩, Heap.lt_size ho, fun it A ne hA => ?_, fun it h' e k => ?_⟩
    · have := Draws.tuple (prog := X.prog) (w := X.w) hA it a ne its.toArray
      simpa using this
    · exact ⟨⟨_, e, rfl, rfl⟩, ⟨o, k _ _ ho, hc, n, hd⟩⟩
theorem src_there (I : Inv X pins σ H s) {a : Addr} {xs : List V} (h : SqX X.K H a xs ∨ SqT X.K H a xs) : ∃ o, s.heap.get? a = some o := by
  rcases h with h | h
  · obtain ⟨its, r, pl, hz⟩ := I.list h.sq
    obtain ⟨o, ho, _⟩ := pl.isList
    exact ⟨o, ho⟩
  · obtain ⟨its, r, ⟨o, ho, _⟩, hz⟩ := I.tuple h
    exact ⟨o, ho⟩
theorem key_at : ∀ {ks : List Key} {us : List Value}, Vals (ks.map kV) us → ∀ {i : Nat} {u : Value}, us[i]? = some u → ∃ k, ks[i]? = some k ∧ RelV (kV k) u
  | [], _, .nil, i, u, e => by simp at e
  | k :: ks, _, .cons r t, 0, u, e => by simp at e; subst e; exact ⟨k, rfl, r⟩
  | k :: ks, _, .cons r t, i + 1, u, e => by
    obtain ⟨k', e1, e2⟩ := key_at t (i := i) (u := u) (by simpa using e)
    exact ⟨k', by simpa using e1, e2⟩
theorem kv_zip : ∀ (ks : List Key) {ys : List V} {us : List Value}, Vals ys us → KV (ks.zip ys) (ks.zip us)
  | [], _, _, _ => .nil
  | k :: ks, _, _, .nil => by rw [List.zip_nil_right, List.zip_nil_right]; exact .nil
  | k :: ks, _, _, .cons r t => by rw [List.zip_cons_cons, List.zip_cons_cons]; exact .cons ⟨rfl, r⟩ (kv_zip ks t)
def tDZ (K : PySem.W.Frag) (t : TA) : TE := fun σ H Q => t σ H fun vs H1 => ∃ (a b : Addr) (ks : List Key) (ys : List V), vs = [.ref a, .ref b] ∧ (SqX K H1 a (ks.map kV) ∨ SqT K H1 a (ks.map kV)) ∧ (SqX K H1 b ys ∨ SqT K H1 b ys) ∧ ∀ p, H1 p = none → Q (.ref p) (upd H1 p (.dK (mergeK [] (ks.zip ys))))
theorem pe_dz {t : TA} {a b : Expr} {p p2 pos pos2 : Pos} (zx : ZX X) (hg : Gl X "dict") (hm : X.mg "dict" = none) (hg2 : Gl X "zip") (hm2 : X.mg "zip" = none) (ha : PA X [a, b] t)
    (hs : starEach [a, b] X.env = (false, eval a X.env) :: starEach [b] X.env := by rfl) (hpl : (backTo pos2 (starEach [b] X.env)).any (·.1) = false := by rfl)
    (hs1 : starEach [Expr.Call (.Name "zip" p2) [a, b] [] pos2] X.env = (false, eval (.Call (.Name "zip" p2) [a, b] [] pos2) X.env) :: starEach [] X.env := by rfl) :
    PE X (.Call (.Name "dict" p) [.Call (.Name "zip" p2) [a, b] [] pos2] [] pos) (tDZ X.K t) := by
  refine ⟨fun pins s σ H Q I h => wpAny_Call_Name_kw (ld_blt (u := .type "dict") I hg hm (by decide +kernel) (PyProof.Rows.callWith_type1 ?_ hs1 rfl))⟩
  rw [hs1]
  show wpAny _ _ (spliced ((false, eval (.Call (.Name "zip" p2) [a, b] [] pos2) X.env) :: backTo pos (starEach [] X.env))) _ _ s
  refine Calls.spliced_cons (wpAny_Call_Name_kw (ld_blt I hg2 hm2 PyProof.Rows.boot_zip (PyProof.Rows.callWith_type1 (thn (ha.run pos2 pins s σ H _ I h) fun us s1 ⟨vs, H1, I1, r1, q1⟩ => ?_) hs hpl)))
  obtain ⟨l1, l2, ks, ys, rfl, q1, q2, q⟩ := q1
  cases r1 with
  | cons r rr =>
    cases rr with
    | cons r' rr =>
      cases rr
      cases r
      cases r'
      obtain ⟨its1, o1, G1, St1, v1, z1, B1, g1, lt1, D1, T1⟩ := src_of I1 q1
      obtain ⟨its2, o2, G2, St2, v2, z2, B2, g2, lt2, D2, T2⟩ := src_of I1 q2
      refine zip_begins2 B1 B2 g1 g2 fun h' hz hTI hTO e1 e2 hsz hk => ?_
      refine Calls.spliced_nil ?_
      have hl1 : (ks.map kV).length = its1.length := v1.length
      have hl2 : ys.length = its2.length := v2.length
      rw [List.length_map] at hl1 z1
      have S := zip_sep2 (N := s1.heap.objs.size) (fp1 := [l1]) (fp2 := [l2]) (fun b hb => by rw [List.mem_singleton.mp hb]; exact lt1) (fun b hb => by rw [List.mem_singleton.mp hb]; exact lt2)
      have P := zip_pairs (prog := X.prog) (w := X.w) S (fun A hA => D1 _ A (Nat.ne_of_lt lt1) hA) (fun A hA => D2 _ A (Nat.ne_of_lt (Nat.lt_succ_of_lt lt2)) hA)
      have hn : (ks.zip its2).length = min its1.length its2.length := by rw [List.length_zip, hl1]
      refine call_dict_pairs (s := { s1 with heap := h' }) (knd := mixKind X.prog X.w) (kvs := ks.zip its2) P (I1.ok.hd zx.calm) ⟨hz, hTI, ⟨_, _, hTO⟩, T1 _ _ e1 hk, T2 _ _ e2 hk, fun b hb => ?_⟩ ⟨hn, fun i key v hr => ?_⟩ (by omega) fun h'' tk hd' hk2 => ?_
      · simp only [List.mem_append, List.mem_cons, List.not_mem_nil, or_false] at hb
        obtain ⟨p1, hp1⟩ := src_there I1 q1
        obtain ⟨p2, hp2⟩ := src_there I1 q2
        rcases hb with (rfl | rfl) | rfl | rfl
        · exact ⟨_, e1⟩
        · exact ⟨_, hk _ _ hp1⟩
        · exact ⟨_, e2⟩
        · exact ⟨_, hk _ _ hp2⟩
      · obtain ⟨ek, ev⟩ := hr
        have ek' : its1[i]? = some key := by simpa using ek
        have ev' : its2[i]? = some v := by simpa using ev
        obtain ⟨k, k1, k2⟩ := key_at v1 ek'
        exact ⟨k, List.getElem?_zip_eq_some.mpr ⟨k1, ev'⟩, kV_is k2⟩
      · have k3 : ∀ b u, s1.heap.get? b = some u → h''.get? b = some u := fun b u e => hk2 b u (fun hm => by
          have hb := Heap.lt_size e
          simp only [List.mem_cons, List.not_mem_nil, or_false] at hm
          have low : ∀ n : Nat, ¬ (s1.heap.objs.size + n < s1.heap.objs.size) := fun n => by omega
          rcases hm with h | h | h | h
          · rw [h] at hb; exact low 4 hb
          · rw [h] at hb; exact low 3 hb
          · rw [h] at hb; exact low 0 hb
          · rw [h] at hb; exact low 1 hb) (hk b u e)
        have rel := kv_zip ks v2
        have hm0 : (h'.objs.size == sysModules) = false := beq_eq_false_iff_ne.mpr (Nat.ne_of_gt (Nat.lt_of_lt_of_le I1.big (by omega)))
        have hlen : (mergeK [] (ks.zip ys)).length ≤ sizeLine := by
          refine Nat.le_trans (length_mergeK (ks.zip ys) []) ?_
          rw [List.length_nil, Nat.zero_add, List.length_zip]
          exact Nat.le_trans (Nat.min_le_left _ _) z1
        have J := Inv.laid (a := h'.objs.size) (o := .dK (mergeK [] (ks.zip ys))) (t' := tk) I1 k3 (by omega) ⟨hlen, hm0, merged [] (ks.zip its2), KV.merge rel .nil, hd'⟩
        exact ⟨.ref h'.objs.size, _, J, rfl, q _ (I1.hok.fresh (by omega))⟩
def keysOf : List D → Option (List Key)
  | [] => some []
  | .p x :: r => match kOf x, keysOf r with
    | some k, some ks => some (k :: ks)
    | _, _ => none
  | .ref _ :: _ => none
theorem keys_is {K : PySem.W.Frag} {θ : List Addr} {H : Hp} : ∀ {vs : List V} {ds : List D} {ks : List Key}, Drs K θ H vs ds → keysOf ds = some ks → vs = ks.map kV
  | _, _, ks, .nil, e => by cases e; rfl
  | _, .p x :: ds, ks, .cons a b, e => by
    unfold keysOf at e
    cases q1 : kOf x with
    | none => rw [q1] at e; cases e
    | some k =>
      cases q2 : keysOf ds with
      | none => rw [q1, q2] at e; cases e
      | some ks' =>
        rw [q1, q2] at e
        cases e
        rw [List.map_cons, ← keys_is b q2, kv_is a q1]
  | _, .ref _ :: _, _, .cons _ _, e => by cases e
theorem kd_zip {K : PySem.W.Frag} {θ : List Addr} {H : Hp} : ∀ (ks : List Key) {vs : List V} {ds : List D}, Drs K θ H vs ds → KD K θ H (ks.zip vs) (ks.zip ds)
  | [], _, _, _ => .nil
  | k :: ks, _, _, .nil => by rw [List.zip_nil_right, List.zip_nil_right]; exact .nil
  | k :: ks, _, _, .cons a b => by rw [List.zip_cons_cons, List.zip_cons_cons]; exact .cons ⟨rfl, a⟩ (kd_zip ks b)
variable {E : XK} {a b : Expr} {ca cb : ZC}
/-- dict(zip(a, b)) -/
def zdz (x y : D) (M : Store) : Out D := match seqv M x, seqv M y with
  | some xs, some ys => match keysOf xs with
    | some ks => .ok (.ref M.length) (M ++ [.dic (mergeD [] (ks.zip ys))])
    | none => .stuck
  | _, _ => .stuck
theorem ZE.dz {p p2 pos pos2 : Pos} (zx : ZX X) (hg : Gl X "dict") (hm : X.mg "dict" = none) (hg2 : Gl X "zip") (hm2 : X.mg "zip" = none) (ha : ZE X E a ca) (hb : ZE X E b cb)
    (hs : starEach [a, b] X.env = (false, eval a X.env) :: starEach [b] X.env := by rfl) (hs2 : starEach [b] X.env = (false, eval b X.env) :: starEach [] X.env := by rfl) (hpl : (backTo pos2 (starEach [b] X.env)).any (·.1) = false := by rfl)
    (hs1 : starEach [Expr.Call (.Name "zip" p2) [a, b] [] pos2] X.env = (false, eval (.Call (.Name "zip" p2) [a, b] [] pos2) X.env) :: starEach [] X.env := by rfl) :
    ZE X E (.Call (.Name "dict" p) [.Call (.Name "zip" p2) [a, b] [] pos2] [] pos) (z2 zdz ca cb) := by
  obtain ⟨ta, pa, qa⟩ := ha
  obtain ⟨tb, pb, qb⟩ := hb
  refine ⟨_, pe_dz zx hg hm hg2 hm2 (pa_cons pa (pa_cons pb pa_nil hs2) hs) hs hpl hs1, fun σ H θ sl M Q hs hm h => ?_⟩
  refine qa σ H θ sl M _ hs hm (Post.bind h fun x M1 v H1 θ1 g1 m1 r1 h1 => ?_)
  refine qb σ H1 θ1 sl M1 _ (hs.go g1) m1 (Post.bind h1 fun y M2 u H2 θ2 g2 m2 r2 h2 => ?_)
  unfold zdz at h2
  split at h2
  · rename_i xs ys e1 e2
    split at h2
    · rename_i ks e3
      obtain ⟨ad, vs, rfl, hp, dp⟩ := seqv_ok m2 (r1.go g2) e1
      obtain ⟨bd, ws, rfl, hp2, dp2⟩ := seqv_ok m2 r2 e2
      have ev := keys_is dp e3
      subst ev
      exact ⟨ad, bd, ks, ws, rfl, hp, hp2, fun p hp => new_dic h2 m2 (kd_merge (kd_zip ks dp2) .nil) hp⟩
    · exact h2.elim
  · exact h2.elim
end
end Z

/-! Z: isinstance; x[::-1] of lists and tuples. -/
namespace HT
open PySem PySem.Spec PyProof.Rows
section
variable {prog : Program} {w : World} {A : Around} {E : Value → Shared → Prop} {s : Shared}
theorem sliceApplied_rev {sl : Addr} {vl vu vs : Value} {n : Nat} {Q : Int × Int × Nat → Shared → Prop} (hs : s.heap.IsSliceOf sl vl vu vs) (pl : IsPart vl none) (pu : IsPart vu none) (ps : IsPart vs (some (-1)))
    (h : Q (((n : Int) - 1), -1, n) s) : wpAny (model prog w) A (Builtin.Slice.sliceApplied (.ref sl) (pure (n : Int))) Q E s := by
  obtain ⟨os, hos, hcs, hds⟩ := id hs
  unfold Builtin.Slice.sliceApplied Builtin.Slice.sliceFields
  refine wpAny_bind (wpAny_bind (wpAny_field hos hds (x := vl) rfl (wpAny_bind (wpAny_field hos hds (x := vu) rfl (wpAny_bind (wpAny_field hos hds (x := vs) rfl (wpAny_pure ?_)))))))
  refine wpAny_bind (slicePart_ ps ?_)
  show wpAny _ _ (if ((-1 : Int) == 0) = true then _ else _) _ _ s
  rw [if_neg (by decide)]
  refine wpAny_bind (slicePart_ pl (wpAny_bind (slicePart_ pu (wpAny_bind (wpAny_pure ?_)))))
  show wpAny _ _ (match Builtin.Slice.sliceAdjust none none (-1) (n : Int) with | (lo, hi) => pure (lo, (-1 : Int), Builtin.Slice.slicePlaces lo hi (-1))) _ _ s
  have e : Builtin.Slice.sliceAdjust none none (-1) (n : Int) = ((n : Int) - 1, -1) := by
    simp [Builtin.Slice.sliceAdjust]
  rw [e]
  have e2 : Builtin.Slice.slicePlaces ((n : Int) - 1) (-1) (-1) = n := by
    unfold Builtin.Slice.slicePlaces
    simp
    try omega
  show wpAny _ _ (pure ((n : Int) - 1, (-1 : Int), Builtin.Slice.slicePlaces ((n : Int) - 1) (-1) (-1))) _ _ s
  rw [e2]
  exact wpAny_pure h
theorem pick_rev (xs : Array Value) : ((List.range xs.size).filterMap fun (m : Nat) => xs[(((xs.size : Int) - 1) + (m : Int) * (-1)).toNat]?).toArray = xs.toList.reverse.toArray := by
  have e : (List.range xs.size).filterMap (fun (m : Nat) => xs[(((xs.size : Int) - 1) + (m : Int) * (-1)).toNat]?) = ((List.range xs.size).map fun k => xs.size - 1 - k).filterMap (xs[·]?) := by
    rw [List.filterMap_map]
    have aux : ∀ l : List Nat, (∀ m ∈ l, m < xs.size) → l.filterMap (fun (m : Nat) => xs[(((xs.size : Int) - 1) + (m : Int) * (-1)).toNat]?) = l.filterMap ((fun x => xs[x]?) ∘ fun k => xs.size - 1 - k) := by
      intro l
      induction l with
      | nil => intro _; rfl
      | cons m l ih =>
        intro hl
        have q : (((xs.size : Int) - 1) + (m : Int) * (-1)).toNat = xs.size - 1 - m := by have := hl m (List.mem_cons_self ..); omega
        rw [List.filterMap_cons, List.filterMap_cons, ih fun m hm => hl m (List.mem_cons_of_mem _ hm), q]
        rfl
    exact aux _ fun m hm => List.mem_range.mp hm
  rw [e, PySem.W.krv_range, List.filterMap_reverse, PySem.W.krv_all]
theorem getItem_tuple_rev {t sl : Addr} {items : Array Value} {vl vu vs : Value} {Q : Value → Shared → Prop} (ht : IsTup s.heap t items) (hs : s.heap.IsSliceOf sl vl vu vs) (pl : IsPart vl none) (pu : IsPart vu none) (ps : IsPart vs (some (-1)))
    (h : Q (.ref s.heap.objs.size) { s with heap := s.heap.push { cls := .type "tuple", data := .seq items.toList.reverse.toArray } })
    (hsz : items.size ≤ sizeLine) : wpAny (model prog w) A (getItem (.ref t) (.ref sl)) Q E s := by
  have htake : sizeOk (.seq items.toList.reverse.toArray) := by
    show items.toList.reverse.toArray.size ≤ sizeLine
    rw [List.size_toArray, List.length_reverse, Array.length_toList]
    exact hsz
  obtain ⟨os, hos, hcs, hds⟩ := id hs
  have hTs : s.TypeIs (.ref sl) "slice" := ⟨os, hos, hcs⟩
  unfold getItem
  try with_reducible refine wpAny_holding ?_
  first | refine wpAny_bind (wpAny_pure ?_) | skip
  refine wpAny_bind (wpAny_sequenceKey ht.typeIs (by decide) ?_)
  refine wpAny_bind (wpAny_callSpecial?_slot (name := Str.ofString "__getitem__") ht.typeIs PyProof.Rows.slot_tuple_getitem
    (wpAny_call_entry PyProof.Rows.slot_tuple_getitem ht.typeIs entry_tuple_getitem ?_ (args_tuple_getitem _ _)))
  show wpAny _ _ (Builtin.Tuple.tupleItemsOf (.ref t) >>= _) _ _ s
  refine wpAny_bind (tupleItemsOf_ ht ?_)
  refine wpAny_bind (wpAny_typeOf hTs ?_)
  rw [if_pos (by decide)]
  refine wpAny_bind (sliceApplied_rev hs pl pu ps ?_)
  have hno : ¬ ((((items.size : Int) - 1) == 0 && (-1 : Int) == 1 && items.size == items.size) = true) := by
    simp
  show wpAny _ _ (if (((items.size : Int) - 1) == 0 && (-1 : Int) == 1 && items.size == items.size) = true then _ else _) _ _ s
  rw [if_neg hno, pick_rev]
  first
    | exact wpAny_bind (m := Builtin.Tuple.tupleExact _) (wpAny_newObj_type (wpAny_pure ⟨_, rfl, wpAny_pure h⟩) htake)
    | exact wpAny_bind (m := Builtin.Tuple.tupleExact _) (wpAny_newObj_type (wpAny_bind (wpAny_pure (wpAny_pure ⟨_, rfl, wpAny_pure h⟩))) htake)
    | exact wpAny_bind (wpAny_bind (m := Builtin.Tuple.tupleExact _) (wpAny_newObj_type (wpAny_pure (wpAny_pure ⟨_, rfl, wpAny_pure h⟩)) htake))
    | exact wpAny_bind (wpAny_bind (m := Builtin.Tuple.tupleExact _) (wpAny_newObj_type (wpAny_pure ⟨_, rfl, wpAny_pure h⟩) htake))
end
end HT
namespace Z
open PySem PySem.Spec PyProof.Rows L2
section
variable {X : Cx} {E : XK} {a : Expr} {ca : ZC} {pos : Pos}
def tRevT (K : PySem.W.Frag) (te : TE) : TE := fun σ H Q => te σ H fun x H1 => ∃ a xs, x = .ref a ∧ ((SqL K H1 a xs ∧ ∀ p, H1 p = none → Q (.ref p) (upd H1 p (.lst xs.reverse))) ∨ (SqT K H1 a xs ∧ ∀ p, H1 p = none → Q (.ref p) (upd H1 p (.tup xs.reverse))))
theorem pe_revLT {e : Expr} {te : TE} {k : Nat} {p1 p2 p3 pos : Pos} (he : PE X e te) : PE X (.Subscript e (.Slice none none (some (.UnaryOp .USub (.Constant (.int 1) k p1) p2)) p3) pos) (tRevT X.K te) := by
  refine ⟨fun pins s σ H Q I h => ?_⟩
  refine Subscript_ (thn (he.run pins s σ H _ I h) fun v s1 ⟨x, H1, I1, r1, q1⟩ => ?_)
  obtain ⟨a, xs, ex, q⟩ := q1
  subst ex
  cases r1
  have hst : PO X (some (.UnaryOp .USub (.Constant (.int 1) k p1) p2)) (tPart (tUn (rU fun i => .int (-i)) (tC (.int 1)))) := po_some (pe_un un_neg pe_int)
  refine wpAny_Slice (thn (po_none.run pins s1 σ H1 (fun o H2 => o = none ∧ H2 = H1) I1 ⟨rfl, rfl⟩) fun vl s2 ⟨l, H2, I2, pl, el, e2⟩ => ?_)
  subst el e2
  refine thn (po_none.run pins s2 σ H2 (fun o H3 => o = none ∧ H3 = H2) I2 ⟨rfl, rfl⟩) fun vu s3 ⟨u, H3, I3, pu, eu, e3⟩ => ?_
  subst eu e3
  refine thn (hst.run pins s3 σ H3 (fun o H4 => o = some (-1) ∧ H4 = H3) I3 ⟨1, rfl, -1, rfl, rfl, rfl⟩) fun vs s4 ⟨o, H4, I4, ps, eo, e4⟩ => ?_
  subst eo e4
  have I5 : Inv X pins σ H4 { s4 with heap := s4.heap.push { cls := .type "slice", data := .fields #[vl, vu, vs] } } := I4.kept (t' := s4.toks) fun b ob q => Heap.get?_push_of_some _ q
  rcases q with ⟨hx, q⟩ | ⟨hx, q⟩
  · obtain ⟨its, r, ht, hz⟩ := I5.list hx
    have hlen := r.length
    show wpAny (model X.prog X.w) X.A (subscriptTail e (.Slice none none (some (.UnaryOp .USub (.Constant (.int 1) k p1) p2)) p3) (.ref a) (.ref s4.heap.objs.size)) (EP X pins σ Q) X.xe { s4 with heap := s4.heap.push { cls := .type "slice", data := .fields #[vl, vu, vs] } }
    refine tail_any (ops := [.ref a, .ref s4.heap.objs.size]) ht.isList.typeIs (PySem.slot_list_getitem.lookup) ?_ (by with_unfolding_all rfl)
    refine wpAny_getItem_list_slice ht.isList (Heap.IsSliceOf.new _ vl vu vs) pl pu ps (by decide) ?_ (by rw [List.size_toArray]; omega)
    rw [PySem.W.krv_pick]
    refine ⟨.ref _, _, I5.laid (t' := s4.toks) (o := .lst xs.reverse) (fun b ob q => Heap.get?_push_of_some _ q) (Nat.le_refl _) ?_, rfl, q _ (I5.hok.fresh (Nat.le_refl _))⟩
    exact ⟨by rw [List.length_reverse]; exact hz, _, 0, r.reverse, Heap.get?_push_size _ rfl⟩
  · obtain ⟨its, r, ht, hz⟩ := I5.tuple hx
    have hlen := r.length
    show wpAny (model X.prog X.w) X.A (subscriptTail e (.Slice none none (some (.UnaryOp .USub (.Constant (.int 1) k p1) p2)) p3) (.ref a) (.ref s4.heap.objs.size)) (EP X pins σ Q) X.xe { s4 with heap := s4.heap.push { cls := .type "slice", data := .fields #[vl, vu, vs] } }
    refine tail_any (ops := [.ref a, .ref s4.heap.objs.size]) ht.typeIs (PyProof.Rows.slot_tuple_getitem.lookup) ?_ (by with_unfolding_all rfl)
    refine HT.getItem_tuple_rev ht (Heap.IsSliceOf.new _ vl vu vs) pl pu ps ?_ (by rw [List.size_toArray]; omega)
    refine ⟨.ref _, _, I5.laid (t' := s4.toks) (o := .tup xs.reverse) (fun b ob q => Heap.get?_push_of_some _ q) (Nat.le_refl _) ?_, rfl, q _ (I5.hok.fresh (Nat.le_refl _))⟩
    exact ⟨by rw [List.length_reverse]; exact hz, _, r.reverse, IsTup.new _ _⟩
def zRev (d : D) (M : Store) : Out D := match d with
  | .p (.tuple xs) => .ok (.p (.tuple xs.reverse)) M
  | d => match lstv M d with
    | some ds => frzl ds.reverse M
    | none => .stuck
theorem ZE.rev {k : Nat} {p1 p2 p3 pos : Pos} (ha : ZE X E a ca) : ZE X E (.Subscript a (.Slice none none (some (.UnaryOp .USub (.Constant (.int 1) k p1) p2)) p3) pos) (z1 zRev ca) := by
  obtain ⟨t, pa, q⟩ := ha
  refine ⟨_, pe_orfrz (pe_revLT pa), fun σ H θ sl M Q hs hm h => q σ H θ sl M _ hs hm (Post.bind h fun x M1 v H1 θ1 g1 m1 r1 h1 => ?_)⟩
  unfold zRev at h1
  split at h1
  · rename_i xs
    cases r1 with
    | tup k1 k2 => exact ⟨_, _, rfl, .inr ⟨k1, fun p hp => .inr (new_tup h1 m1 (FzAll.of (paired_reverse k2.paired)) hp)⟩⟩
  · split at h1
    · rename_i ds e1
      obtain ⟨p, vs, rfl, hp, dp⟩ := lstv_ok m1 r1 e1
      obtain ⟨l, kk⟩ := frzl_ok h1 m1 (paired_reverse dp)
      exact ⟨_, _, rfl, .inl ⟨hp.sq, fun p hp => .inl (kk p hp)⟩⟩
    · exact h1.elim
/-! ### isinstance -/
def tyD (M : Store) : D → Option String
  | .p .none => some "NoneType"
  | .p (.bool _) => some "bool"
  | .p (.int _) => some "int"
  | .p (.str _) => some "str"
  | .p (.tuple _) => some "tuple"
  | .p (.dict _) => some "dict"
  | .p (.list _) => some "list"
  | d => match lstv M d with
    | some _ => some "list"
    | none => match dictv M d with
      | some _ => some "dict"
      | none => none
def zIsi (T : String) (d : D) (M : Store) : Out D := match tyD M d with
  | some t => match kitB t T with
    | some b => .ok (.p (.bool b)) M
    | none => .stuck
  | none => .stuck
theorem ty_lst {K : PySem.W.Frag} {θ : List Addr} {H : Hp} {M : Store} {v : V} {d : D} {ds : List D} (m : SR K θ H M) (r : Dr K θ H v d) (e : lstv M d = some ds) : TyX K H v (.type "list") := by
  obtain ⟨p, vs, rfl, hp, dp⟩ := lstv_ok m r e
  rcases hp with h | ⟨o, h⟩ | ⟨its, n, h, _⟩
  · exact .base (.lst h)
  · exact .base (.frz h)
  · exact .kList h rfl
theorem tyD_ok {K : PySem.W.Frag} {θ : List Addr} {H : Hp} {M : Store} {v : V} {d : D} {t : String} (m : SR K θ H M) (r : Dr K θ H v d) (e : tyD M d = some t) : TyX K H v (.type t) := by
  unfold tyD at e
  split at e
  · cases e; cases r; exact .base .non
  · cases e; cases r; exact .base (.bl _)
  · cases e; cases r; exact .base (.int _)
  · cases e; cases r; exact .base (.str _)
  · cases e
    cases r with
    | tup h k =>
      rcases h with (h | ⟨o, h⟩) | h
      · exact .base (.tup h)
      · exact .fTuple h
      · obtain ⟨o, _, _, h1, h2, _⟩ := h
        exact .kTuple h1 h2
  · cases e
    cases r with
    | dct h k f => exact .fDict h
  · cases e; exact ty_lst m r rfl
  · split at e
    · rename_i ds e1
      cases e
      exact ty_lst m r e1
    · split at e
      · rename_i kvs e1
        cases e
        obtain ⟨p, us, rfl, hp, dp⟩ := dictv_ok m r e1
        rcases hp with h | ⟨o, h⟩
        · exact .base (.dK h)
        · exact .fDict h
      · cases e
theorem ZE.isi {T : String} {x : Str} {p1 p2 pos : Pos} (hg : Gl X "isinstance") (hm : X.mg "isinstance" = none) (hgT : Gl X x) (hmT : X.mg x = none) (hv : bootBuiltins x = some (.type T)) (ha : ZE X E a ca)
    (hn : x ≠ "__name__" := by decide) (hd : (x == ("__debug__" : Str)) = false := by decide)
    (he : starEach [a, Expr.Name x p2] X.env = (false, eval a X.env) :: starEach [Expr.Name x p2] X.env := by rfl) (hs2 : starEach [Expr.Name x p2] X.env = (false, eval (.Name x p2) X.env) :: starEach [] X.env := by rfl)
    (hpl : (backTo pos (starEach [Expr.Name x p2] X.env)).any (·.1) = false := by rfl) :
    ZE X E (.Call (.Name "isinstance" p1) [a, .Name x p2] [] pos) (z1 (zIsi T) ca) := by
  obtain ⟨t, pa, q⟩ := ha
  refine ⟨_, pe_callB call_isi hg hm PyProof.Rows.boot_isinstance (pa_cons pa (pa_cons (pe_bltn (v := .ty T) hgT hmT hv (ClsV.eq (.ty T) rfl).symm hn hd) pa_nil hs2) he) (by decide) (by decide) he hpl, fun σ H θ sl M Q hs hm h => q σ H θ sl M _ hs hm (Post.bind h fun x M1 v H1 θ1 g1 m1 r1 h1 => ?_)⟩
  unfold zIsi at h1
  split at h1
  · rename_i t e1
    split at h1
    · rename_i b e2
      exact ⟨_, _, _, _, b, rfl, .ty T, tyD_ok m1 r1 e1, kit_ty e2, Post.here (b := V.bl b) h1 m1 (.bl b)⟩
    · exact h1.elim
  · exact h1.elim
/-! ### a module's tuple of ints -/
def TupK (K : PySem.W.Frag) (a : Addr) (ds : List P) : Prop := ∃ (ns : List Int) (o : Obj) (its : Array Value) (n : Nat), ds = ns.map .int ∧ K.lookup a = some o ∧ o.cls = .type "tuple" ∧ o.data = .seq its n ∧ its.size ≤ sizeLine ∧ Vals (ns.map V.int) its.toList
theorem fz_intsK {K : PySem.W.Frag} {H : Hp} : ∀ ns : List Int, FzAll K H (ns.map V.int) (ns.map .int)
  | [] => .nil
  | n :: ns => .cons (.int n) (fz_intsK ns)
theorem ZE.gtup {x : Str} {l : Addr} {ds : List P} {pos : Pos} (hg : Gl X x) (hm : X.mg x = some (.ref l)) (hk : TupK X.K l ds) (hd : (x == ("__debug__" : Str)) = false := by decide) : ZE X E (.Name x pos) (zk (.tuple ds)) := by
  obtain ⟨ns, o, its, n, rfl, h1, h2, h3, h4, h5⟩ := hk
  exact ⟨_, pe_glob (v := .ref l) hg hm rfl hd, fun σ H θ sl M Q hs hm h => Post.here (b := V.ref l) (show Post X.K X.mg E (Dr X.K) Q θ H (.ok (.p (.tuple (ns.map .int))) M) from h) hm (Fz.tup (.inr ⟨o, its, n, h1, h2, h3, h4, h5⟩) (fz_intsK ns))⟩
end
end Z

/-! Z: sorted(set(x)), x a list or a tuple of ints. -/
namespace L2
open PySem PySem.Spec PyProof.Rows
section
variable {P : Program} {w : World} {A : Around} {E : Value → Shared → Prop} {s : Shared}
theorem call_set_lstI {l : Addr} {items : Array Value} (ns : List Int) {Q : Value → Shared → Prop} (hh : A.handled = none) (hl : s.heap.IsList l items) (hit : IntsAre items.toList ns) (hb : ns.length + 1 < scanBound)
    (h : ∀ (h' : Heap) (tk c : Nat), SetR w h' s.heap.objs.size (fun j => decide (j ∈ ns)) c → c ≤ ns.length → (∀ b o, s.heap.get? b = some o → h'.get? b = some o) → Q (.ref s.heap.objs.size) { s with heap := h', toks := tk }) :
    wpAny (model P w) A (call (.type "set") [.ref l]) Q E s := by
  have hisz : items.size = ns.length := by
    have q := IntsAre.length hit
    rw [Array.length_toList] at q
    exact q
  obtain ⟨c, tl, hmro⟩ := F.called_set.mro
  have hmade := F.called_set.made
  have hsub := F.called_set.sub
  refine wpAny_call (codeAny_of_tree ?_)
  show wpAny _ _ (callAny (.type "set") _) _ _ _
  refine wpAny_pure ⟨Code.quiet_builtin _ (by decide +kernel), codeAny_builtin F.entry_type_call ?_⟩
  rw [Around.under_plain (weight_type_call_type "set" [.ref l] []) rfl]
  have h1 := F.called_set.notType
  have h2 := F.called_set.canCreate
  have hct := F.typeCall_set_1 (.ref l)
  repeat (any_goals (first | assumption | wp_step))

  refine codeAny_mono (code_set_led1 (.ref l) (E := E) (Q₁ := fun obj s₁ => obj = .ref s.heap.objs.size ∧ s₁ = { s with heap := s.heap.push { cls := .type "set", dict := none, data := .set #[] 0 (.fresh 0 0 (!w.params.followText "set-order")) } }) ⟨rfl, rfl⟩) fun r s₁ hr => ?_
  cases r with
  | error e => exact hr
  | ok fl =>
    cases fl with
    | ret obj =>
      obtain ⟨rfl, rfl⟩ := hr
      have hS : (s.heap.push { cls := .type "set", dict := none, data := .set #[] 0 (.fresh 0 0 (!w.params.followText "set-order")) }).get? s.heap.objs.size = some { cls := .type "set", dict := none, data := .set #[] 0 (.fresh 0 0 (!w.params.followText "set-order")) } := Heap.get?_push_size _ rfl
      have hT : Shared.TypeIs { s with heap := s.heap.push { cls := .type "set", dict := none, data := .set #[] 0 (.fresh 0 0 (!w.params.followText "set-order")) } } (.ref s.heap.objs.size) "set" := ⟨_, hS, rfl⟩
      have hli := F.called_set.init.lookup
      have hbi := F.called_set.init.bind (.ref s.heap.objs.size)
      repeat (any_goals (first | assumption | wp_step))

      refine codeAny_mono (codeAny_call_builtin (R := wants (fun r s₂ => r = .none ∧ ∃ h' tk c, s₂ = { s with heap := h', toks := tk } ∧ SetR w h' s.heap.objs.size (fun j => decide (j ∈ ns)) c ∧ c ≤ ns.length ∧
          (∀ b o, s.heap.get? b = some o → h'.get? b = some o)) E) F.called_set.init.plain F.entry_set_init (check_set_init_1 hT ?_)) fun r₂ s₂ hr₂ => ?_
      · obtain ⟨ol, hol, hcl, nl, hdl⟩ := hl
        obtain ⟨ocls, odict, odata, oslots⟩ := ol
        simp only at hcl hdl
        subst hcl; subst hdl
        have hol' : (s.heap.push { cls := .type "set", dict := none, data := .set #[] 0 (.fresh 0 0 (!w.params.followText "set-order")) }).get? l = some { cls := .type "list", dict := odict, data := .seq items nl, slots := oslots } := Heap.get?_push_of_some _ hol
        have hsls := F.sub_list_set
        have hslf := F.sub_list_frozenset
        have hne : (Value.type "list" == Value.type "dict") = false := by decide
        have hl1 : (s.heap.push { cls := .type "set", dict := none, data := .set #[] 0 (.fresh 0 0 (!w.params.followText "set-order")) }).IsList l items := ⟨_, hol', rfl, nl, rfl⟩
        unfold Builtin.«set.__init__» noKeywords Builtin.Frozenset.updateFrom
        generalize hPI : pyIter = PI
        wp_walk
        subst hPI

        refine wpAny_pyIter_list hl1 ?_
        refine wpAny_bind (wpAny_runValue ?_)
        have hlS : l < s.heap.objs.size := Heap.lt_size hol
        have hh3 : A.in1.in1.in1.handled = none := by simp [hh]
        have hz1 : (s.heap.push { cls := .type "set", dict := none, data := .set #[] 0 (.fresh 0 0 (!w.params.followText "set-order")) }).objs.size = s.heap.objs.size + 1 := Heap.size_push ..
        have hneI : l ≠ (s.heap.push { cls := .type "set", dict := none, data := .set #[] 0 (.fresh 0 0 (!w.params.followText "set-order")) }).objs.size := by
          rw [Heap.size_push]; exact Nat.ne_of_lt (Nat.lt_succ_of_lt hlS)
        have hSf : s.heap.objs.size ∉ [(s.heap.push { cls := .type "set", dict := none, data := .set #[] 0 (.fresh 0 0 (!w.params.followText "set-order")) }).objs.size, l] := by
          rw [Heap.size_push]; simp only [List.mem_cons, List.mem_singleton, List.not_mem_nil, or_false, not_or]
          exact ⟨Nat.ne_of_lt (Nat.lt_succ_self _), Nat.ne_of_gt hlS⟩
        have hval : ∀ (i : Nat) (v : Value), items[i]? = some v → ∃ k t, ns[i]? = some k ∧ v = .int k t := fun i v hv => by
          have hi : i < ns.length := by rw [← hisz]; exact (Array.getElem?_eq_some_iff.mp hv).1
          obtain ⟨t, e⟩ := PyProof.Rows.IntsAre.int_at hit i v (by rw [Array.getElem?_toList]; exact hv)
          refine ⟨ns[i], t, List.getElem?_eq_getElem hi, ?_⟩
          rw [e, List.getD_eq_getElem?_getD, List.getElem?_eq_getElem hi] <;> rfl
        refine set_update_ints ((Walks.list hh3 _ l hneI items).toS) s.heap.objs.size
          hSf ns hisz hb hval (items.size - 0) 0 _ (by omega) (Nat.zero_le _)
          ⟨⟨_, Heap.get?_push_size _ rfl, rfl, rfl⟩, (hl1.push _)⟩ ?hS0 ?hR
        case hS0 =>
          have hget : ((s.heap.push { cls := .type "set", dict := none, data := .set #[] 0 (.fresh 0 0 (!w.params.followText "set-order")) }).push { cls := .type "list_iterator", data := .fields #[.ref l, .int 0 0] }).get? s.heap.objs.size
              = some { cls := .type "set", dict := none, data := .set #[] 0 (.fresh 0 0 (!w.params.followText "set-order")) } := Heap.get?_push_of_some _ hS
          exact ⟨0, Nat.le_refl 0, setR_new_at hget⟩
        case hR =>
          intro s' c' hm hc' hS'
          obtain ⟨h', g2, d', tk', os'⟩ := s'
          have eg : g2 = s.gens := hm.gens
          have ed : d' = s.drawn := hm.drawn
          have eo : os' = s.os := hm.os
          subst eg; subst ed; subst eo
          show wpAny _ _ _ _ _ _
          refine wpAny_pure ?_
          show wpAny _ _ (ret Value.none) _ _ _
          rw [hisz] at hc'
          refine wpAny_pure ⟨rfl, h', tk', c', rfl, hS', hc', fun b o e => ?_⟩
          have hb0 : b < s.heap.objs.size := Heap.lt_size e
          have hb1 : b ≠ s.heap.objs.size := Nat.ne_of_lt hb0
          have hb2 : b ≠ (s.heap.push { cls := .type "set", dict := none, data := .set #[] 0 (.fresh 0 0 (!w.params.followText "set-order")) }).objs.size := by
            rw [Heap.size_push]; exact Nat.ne_of_lt (Nat.lt_succ_of_lt hb0)
          exact hm.heap b o (by simp only [List.mem_cons, List.mem_singleton, List.not_mem_nil, or_false, not_or]; exact ⟨hb1, hb2⟩) (Heap.get?_push_of_some _ (Heap.get?_push_of_some _ e))

      · cases r₂ with
        | error e => exact hr₂
        | ok fl₂ =>
          cases fl₂ with
          | ret r =>
            obtain ⟨rfl, h', tk, c', rfl, hS', hc', hk'⟩ := hr₂
            repeat (any_goals (first | assumption | wp_step))
            exact h _ _ _ hS' hc' hk'
          | _ => exact hr₂.elim
    | _ => exact hr.elim
end
end L2
namespace Z
open PySem PySem.Spec PyProof.Rows L2
/-- put into a rising list -/
def uput (k : Int) : List Int → List Int
  | [] => [k]
  | x :: r => if k < x then k :: x :: r else if k = x then x :: r else x :: uput k r
def uns : List Int → List Int
  | [] => []
  | k :: r => uput k (uns r)
theorem mem_uput (k j : Int) : ∀ l : List Int, j ∈ uput k l ↔ j = k ∨ j ∈ l
  | [] => by simp [uput]
  | x :: r => by
    unfold uput
    split
    · simp
    · split
      · rename_i h; subst h; simp
      · rw [List.mem_cons, mem_uput k j r, List.mem_cons]
        constructor
        · rintro (h | h | h)
          · exact .inr (.inl h)
          · exact .inl h
          · exact .inr (.inr h)
        · rintro (h | h | h)
          · exact .inr (.inl h)
          · exact .inl h
          · exact .inr (.inr h)
theorem mem_uns (j : Int) : ∀ l : List Int, j ∈ uns l ↔ j ∈ l
  | [] => Iff.rfl
  | k :: r => by rw [uns, mem_uput, mem_uns j r, List.mem_cons]
theorem uput_rise (k : Int) : ∀ l : List Int, l.Pairwise (· < ·) → (uput k l).Pairwise (· < ·)
  | [], _ => by simp [uput]
  | x :: r, h => by
    obtain ⟨h1, h2⟩ := List.pairwise_cons.mp h
    unfold uput
    split
    · rename_i c
      refine List.pairwise_cons.mpr ⟨fun y hy => ?_, h⟩
      rcases List.mem_cons.mp hy with rfl | hy
      · exact c
      · exact Int.lt_trans c (h1 y hy)
    · split
      · exact h
      · refine List.pairwise_cons.mpr ⟨fun y hy => ?_, uput_rise k r h2⟩
        rcases (mem_uput k y r).mp hy with rfl | hy
        · omega
        · exact h1 y hy
theorem uns_rise : ∀ l : List Int, (uns l).Pairwise (· < ·)
  | [] => .nil
  | k :: r => uput_rise k _ (uns_rise r)
theorem rise_eq : ∀ {a b : List Int}, a.Pairwise (· < ·) → b.Pairwise (· < ·) → (∀ k, k ∈ a ↔ k ∈ b) → a = b
  | [], [], _, _, _ => rfl
  | [], y :: b, _, _, h => absurd ((h y).mpr (List.mem_cons_self ..)) (by simp)
  | x :: a, [], _, _, h => absurd ((h x).mp (List.mem_cons_self ..)) (by simp)
  | x :: a, y :: b, ha, hb, h => by
    obtain ⟨a1, a2⟩ := List.pairwise_cons.mp ha
    obtain ⟨b1, b2⟩ := List.pairwise_cons.mp hb
    have e : x = y := by
      rcases List.mem_cons.mp ((h x).mp (List.mem_cons_self ..)) with e | e
      · exact e
      · rcases List.mem_cons.mp ((h y).mpr (List.mem_cons_self ..)) with e2 | e2
        · exact e2.symm
        · have := a1 y e2
          have := b1 x e
          omega
    subst e
    rw [rise_eq a2 b2 fun k => ⟨fun m => ?_, fun m => ?_⟩]
    · rcases List.mem_cons.mp ((h k).mp (List.mem_cons_of_mem _ m)) with e | e
      · have := a1 k m; omega
      · exact e
    · rcases List.mem_cons.mp ((h k).mpr (List.mem_cons_of_mem _ m)) with e | e
      · have := b1 k m; omega
      · exact e
theorem uput_len (k : Int) : ∀ l : List Int, (uput k l).length ≤ l.length + 1
  | [] => Nat.le_refl _
  | x :: r => by
    unfold uput
    split
    · exact Nat.le_refl _
    · split
      · exact Nat.le_succ _
      · exact Nat.succ_le_succ (uput_len k r)
theorem uns_len : ∀ l : List Int, (uns l).length ≤ l.length
  | [] => Nat.le_refl _
  | k :: r => Nat.le_trans (uput_len k _) (Nat.succ_le_succ (uns_len r))
theorem rise_nodup {l : List Int} (h : l.Pairwise (· < ·)) : l.Nodup := List.Pairwise.imp (fun h e => by omega) h
theorem setR_size {w : World} {h : Heap} {a : Addr} {n : Nat} {ns : List Int} (R : SetR w h a (fun j => decide (j ∈ ns)) n) : n = (uns ns).length := by
  obtain ⟨o, es, ep, t, ho, hex, hd, g, nd, hm, hb, hf, hn, hr, hl⟩ := R
  have p : (es.toList.map keyOf).Perm (uns ns) := (List.perm_ext_iff_of_nodup nd (rise_nodup (uns_rise ns))).mpr fun k => by
    rw [← hm k, mem_uns]
    simp
  have := p.length_eq
  rw [List.length_map, Array.length_toList] at this
  omega
theorem fz_intsR {K : PySem.W.Frag} {H : Hp} : ∀ ns : List Int, FzAll K H (ns.map V.int) (ns.map .int)
  | [] => .nil
  | n :: ns => .cons (.int n) (fz_intsR ns)
section
variable {X : Cx} {E : XK} {a : Expr} {ca : ZC} {te : TE}
def tSS (K : PySem.W.Frag) (te : TE) : TE := fun σ H Q => te σ H fun x H1 => ∃ (a : Addr) (ns : List Int), x = .ref a ∧ (SqL K H1 a (ns.map V.int) ∨ SqT K H1 a (ns.map V.int)) ∧ ns.length ≤ 4000 ∧ (uns ns).length < 64 ∧ ∀ p, H1 p = none → Q (.ref p) (upd H1 p (.lst ((uns ns).map V.int)))
theorem pe_ss {p p2 q pos : Pos} (zx : ZX X) (hg : Gl X "sorted") (hm : X.mg "sorted" = none) (hg2 : Gl X "set") (hm2 : X.mg "set" = none) (ha : PE X a te)
    (na : starEach [a] X.env = (false, eval a X.env) :: starEach [] X.env := by rfl) : PE X (.Call (.Name "sorted" p) [.Call (.Name "set" p2) [a] [] q] [] pos) (tSS X.K te) := by
  refine ⟨fun pins s σ H Q I h => ?_⟩
  refine Call_ (ld_blt I hg hm PyProof.Rows.boot_sorted ?_)
  refine PyProof.Rows.callWith_builtin1 (PyProof.Rows.args_cons ?_ rfl) rfl rfl
  refine Call_ (ld_blt I hg2 hm2 PyProof.Rows.boot_set ?_)
  refine PyProof.Rows.callWith_type1 (PyProof.Rows.args_cons (thn (ha.run pins s σ H _ I h) fun v s1 ⟨x, H1, I1, r1, q1⟩ => PyProof.Rows.args_nil ?_) na) na rfl
  obtain ⟨l, ns, rfl, hq, hl, h64, q1⟩ := q1
  cases r1
  have fin : ∀ (h' : Heap) (tk c : Nat), SetR X.w h' s1.heap.objs.size (fun j => decide (j ∈ ns)) c → (∀ b o, s1.heap.get? b = some o → h'.get? b = some o) →
      wpAny (model X.prog X.w) X.A (call (.builtin "sorted") [.ref s1.heap.objs.size]) (EP X pins σ Q) X.xe { s1 with heap := h', toks := tk } := by
    intro h' tk c R k1
    have I2 : Inv X pins σ H1 { s1 with heap := h', toks := tk } := I1.kept k1
    refine sorted_set R (I2.ok.hd zx.calm) (by rw [setR_size R]; exact h64) fun s' p out cc ms k g o hp hg hi hs hmm hll => ?_
    have em : ms = uns ns := rise_eq hs (uns_rise ns) fun j => by rw [hmm j, mem_uns]; simp
    subst em
    have hlen : ((uns ns).map V.int).length ≤ sizeLine := by rw [List.length_map, sizeLine_eq]; omega
    have hn : H1 p = none := I2.hok.fresh hp
    have J : Inv X pins σ (upd H1 p (.lst ((uns ns).map V.int))) s' :=
      I2.call' (ch := []) o (Un.laid k hp hn) (I2.hok.laid k hp ⟨hlen, out.toList, cc, vals_of_ints hi, hg⟩) (by rw [g]; exact I2.bare) (fun _ z => nomatch z)
    exact ⟨.ref p, _, J, rfl, q1 p hn⟩
  rcases hq with hq | hq
  · obtain ⟨its, r, pl, hz⟩ := I1.list hq
    exact call_set_lstI ns (I1.ok.hd zx.calm) pl.isList (by simpa using r.ints) (by unfold scanBound; omega) fun h' tk c R _ k => PyProof.Rows.args_nil (fin h' tk c R k)
  · obtain ⟨its, r, ht, hz⟩ := I1.tuple hq
    exact call_set_tupI ns (I1.ok.hd zx.calm) ht (by simpa using r.ints) (by unfold scanBound; omega) fun h' tk c R _ k => PyProof.Rows.args_nil (fin h' tk c R k)
/-- sorted(set(x)) of ints -/
def zSortSet (d : D) (M : Store) : Out D := match seqv M d with
  | some xs => match intsOf xs with
    | some ns => if ns.length ≤ 4000 ∧ (uns ns).length < 64 then .ok (.p (.list ((uns ns).map .int))) M else .stuck
    | none => .stuck
  | none => .stuck
theorem ZE.sortSet {p p2 q pos : Pos} (zx : ZX X) (hg : Gl X "sorted") (hm : X.mg "sorted" = none) (hg2 : Gl X "set") (hm2 : X.mg "set" = none) (ha : ZE X E a ca)
    (na : starEach [a] X.env = (false, eval a X.env) :: starEach [] X.env := by rfl) : ZE X E (.Call (.Name "sorted" p) [.Call (.Name "set" p2) [a] [] q] [] pos) (z1 zSortSet ca) := by
  obtain ⟨t, pa, qa⟩ := ha
  refine ⟨_, pe_frz (pe_ss zx hg hm hg2 hm2 pa na), fun σ H θ sl M Q hs hm h => qa σ H θ sl M _ hs hm (Post.bind h fun x M1 v H1 θ1 g1 m1 r1 h1 => ?_)⟩
  unfold zSortSet at h1
  split at h1
  · rename_i xs e1
    split at h1
    · rename_i ns e2
      split at h1
      · rename_i c
        obtain ⟨ad, vs, rfl, hp, dp⟩ := seqv_ok m1 r1 e1
        rw [intsOf_eq e2] at dp
        have ev : vs = ns.map V.int := drs_ints dp
        subst ev
        refine ⟨ad, ns, rfl, hp.imp (fun h => h.sq) id, c.1, c.2, fun p hp => ?_⟩
        exact post_frz h1 m1 hp (by rw [List.length_map, sizeLine_eq]; omega) (fz_intsR _)
      · exact h1.elim
    · exact h1.elim
  · exact h1.elim
end
end Z

/-! Z: t * n of tuples, l.index(x), d.get(k, x). -/
namespace L2
open PySem PySem.Spec PyProof.Rows
theorem tuple_mul1 (l : Addr) (items : Array Value) (n : Nat) (dd : Option Addr) (sl : Array (Option Value)) (u : Tok) :
    Meets (Builtin.«tuple.__mul__» ⟨[.ref l, .int 1 u], []⟩) (fun _ R s => s.heap.get? l = some { cls := .type "tuple", dict := dd, data := .seq items n, slots := sl } ∧ R (.ok (.ret (Value.ref l))) s) :=
  .of_wp fun prog w A R s h => by
    obtain ⟨hp, g, d, tk, os⟩ := s
    obtain ⟨hl, h⟩ := h
    have f1 := AutoSeq1.idx_int
    wp_walk using wpAny_loadPart' hl
    exact ⟨_, rfl, h⟩
theorem tuple_mul0 (l : Addr) (items : Array Value) (n : Nat) (dd : Option Addr) (sl : Array (Option Value)) (u : Tok) (c1 : items.isEmpty = false) :
    Meets (Builtin.«tuple.__mul__» ⟨[.ref l, .int 0 u], []⟩) (fun _ R s => s.heap.get? l = some { cls := .type "tuple", dict := dd, data := .seq items n, slots := sl } ∧
      R (.ok (.ret (Value.ref s.heap.objs.size))) { s with heap := s.heap.push { cls := Value.type "tuple", data := Data.seq #[] }, toks := s.toks }) :=
  .of_wp fun prog w A R s h => by
    obtain ⟨hp, g, d, tk, os⟩ := s
    obtain ⟨hl, h⟩ := h
    have f1 := AutoSeq1.idx_int
    have c2 : ¬ ((items.isEmpty || (0 : Int) == 1) = true) := by rw [c1]; decide
    wp_walk using wpAny_loadPart' hl
    repeat (first
      | (refine wpAny_ite_false (decide_eq_false c2) ?_; wp_walk using wpAny_loadPart' hl)
      | (simp only [c1]; wp_walk using wpAny_loadPart' hl))
    exact ⟨_, rfl, h⟩
def rRepT01 (K : PySem.W.Frag) : R2 := fun x y H Q => ∃ l k xs, x = .ref l ∧ y = .int k ∧ SqT K H l xs ∧ xs ≠ [] ∧ ((k = 1 ∧ Q (.ref l) H) ∨ (k = 0 ∧ ∀ p, H p = none → Q (.ref p) (upd H p (.tup []))))
section
variable {X : Cx}
theorem op_repT01 : OpR X (binaryOp .Mult) (rRepT01 X.K) := by
  intro pins s σ H x y v u Q I rx ry h
  obtain ⟨l, k, xs, rfl, rfl, hT, hne, q⟩ := h
  cases rx
  obtain ⟨t, rfl⟩ := ry
  obtain ⟨its, r, ⟨⟨cls, dd, data, sl⟩, ho, hc, n, hd⟩, hs⟩ := I.tuple hT
  simp only at hc hd
  subst hc hd
  have hle : its.length = xs.length := r.length.symm
  have hn : its ≠ [] := fun e => hne (by
    rw [e] at hle
    exact List.eq_nil_of_length_eq_zero hle.symm)
  have hi : its.toArray.isEmpty = false := by
    cases its with
    | nil => exact absurd rfl hn
    | cons a b => rfl
  rcases q with ⟨rfl, q⟩ | ⟨rfl, q⟩
  · exact wpAny_binaryOp_repeat_ref (T := "tuple") (U := "int") (by decide) ⟨_, ho, rfl⟩ (fun s' => typeIs_int s' 1 t) noFill_tuple_mul F.fills_int_mul F.slot_int_rmul repeat_tuple F.slot_int_index.lookup
      (call_meets F.slot_int_rmul (typeIs_int s 1 t) F.entry_int_rmul (F.args_int_rmul_2 _ _) (int_rmul_tuple 1 t l its.toArray n dd sl)
        ⟨ho, rfl, ⟨_, ho, rfl⟩, call_meets F.slot_tuple_mul ⟨_, ho, rfl⟩ F.entry_tuple_mul (F.args_tuple_mul_2 _ _) (tuple_mul1 l its.toArray n dd sl t) ⟨ho, ⟨.ref l, H, I, rfl, q⟩⟩⟩)
  · exact wpAny_binaryOp_repeat_ref (T := "tuple") (U := "int") (by decide) ⟨_, ho, rfl⟩ (fun s' => typeIs_int s' 0 t) noFill_tuple_mul F.fills_int_mul F.slot_int_rmul repeat_tuple F.slot_int_index.lookup
      (call_meets F.slot_int_rmul (typeIs_int s 0 t) F.entry_int_rmul (F.args_int_rmul_2 _ _) (int_rmul_tuple 0 t l its.toArray n dd sl)
        ⟨ho, rfl, ⟨_, ho, rfl⟩, call_meets F.slot_tuple_mul ⟨_, ho, rfl⟩ F.entry_tuple_mul (F.args_tuple_mul_2 _ _) (tuple_mul0 l its.toArray n dd sl t hi)
          ⟨ho, ⟨.ref s.heap.objs.size, _, I.laid (t' := s.toks) (o := .tup []) (fun b ob q => Heap.get?_push_of_some _ q) (Nat.le_refl _) ⟨Nat.zero_le _, _, .nil, IsTup.new _ _⟩, rfl, q _ (I.hok.fresh (Nat.le_refl _))⟩⟩⟩)
end
end L2
namespace Z
open PySem PySem.Spec PyProof.Rows L2
section
variable {X : Cx} {E : XK} {a b o e f : Expr} {ca cb co ce cf : ZC} {pos : Pos}
def zMulT (a b : D) (M : Store) : Out D := match a, b with
  | .p (.tuple xs), .p (.int k) => if xs ≠ [] ∧ 0 ≤ k ∧ k ≤ 1000 ∧ xs.length ≤ 1000 then .ok (.p (.tuple (List.replicate k.toNat xs).flatten)) M else .stuck
  | _, _ => .stuck
theorem fz_rep {K : PySem.W.Frag} {H : Hp} {vs : List V} {xs : List P} (h : FzAll K H vs xs) : ∀ n : Nat, FzAll K H (List.replicate n vs).flatten (List.replicate n xs).flatten
  | 0 => .nil
  | n + 1 => by
    rw [List.replicate_succ, List.replicate_succ, List.flatten_cons, List.flatten_cons]
    exact FzAll.of (paired_append h.paired (fz_rep h n).paired)
theorem zMulT_ok : OpR X (binaryOp .Mult) (rZ2 X E zMulT) := by
  intro pins s σ H x y v u Q I rx ry h
  obtain ⟨a, b, θ, M, m, ra, rb, h⟩ := h
  unfold zMulT at h
  split at h
  · rename_i xs k
    split at h
    · rename_i c
      obtain ⟨c1, c2, c3, c4⟩ := c
      cases rb
      cases ra with
      | @tup l vs _ k1 k2 =>
        have hl := k2.length
        have hne : vs ≠ [] := fun e => c1 (by rw [e] at hl; exact List.eq_nil_of_length_eq_zero hl.symm)
        by_cases h0 : k = 0
        · subst h0
          exact op_repT01 pins s σ H _ _ v u Q I rx ry ⟨l, 0, vs, rfl, rfl, k1, hne, .inr ⟨rfl, fun p hp => new_tup h m .nil hp⟩⟩
        · by_cases h1 : k = 1
          · subst h1
            refine op_repT01 pins s σ H _ _ v u Q I rx ry ⟨l, 1, vs, rfl, rfl, k1, hne, .inl ⟨rfl, ?_⟩⟩
            have e : (List.replicate (Int.toNat 1) xs).flatten = xs := by simp [show Int.toNat 1 = 1 from rfl]
            rw [e] at h
            exact Post.here h m (Fz.tup k1 k2)
          · exact op_repT pins s σ H _ _ v u Q I rx ry ⟨l, k, vs, rfl, rfl, k1, hne, by omega, c3, by omega, fun p hp => new_tup h m (fz_rep k2 _) hp⟩
    · exact h.elim
  · exact h.elim
/-! ### l.index(x) -/
def zIndex (x : D) (ds : List D) (M : Store) : Out D := match x, ds with
  | .p (.list xs), [.p y] => if SeqAt.shaped (.list xs) = true ∧ SeqAt.shaped y = true ∧ (PyData.list xs).hasDict = false ∧ y.hasDict = false then match xs.findIdx? (fun z => PyData.eqv z y) with
      | some j => .ok (.p (.int (j : Nat))) M
      | none => .stuck
    else .stuck
  | _, _ => .stuck
theorem zIndex_ok (zx : ZX X) : MtR X "list.index" (rZm X E zIndex) := by
  intro pins s σ H x xs v us Q I rx rxs h
  obtain ⟨d, ds, θ, M, m, r, rs, h⟩ := h
  have hu := zx.hu
  unfold zIndex at h
  split at h
  · rename_i zs y
    split at h
    · rename_i c
      split at h
      · rename_i j hj
        cases rs with
        | cons r1 rr =>
          cases rr
          have dl := Fz.dp c.2.2.1 r
          have dy := Fz.dp c.2.2.2 r1
          cases r with
          | @lst p vs _ k1 k2 =>
            obtain ⟨hj1, hj2, hj3⟩ := List.findIdx?_eq_some_iff_getElem.mp hj
            exact mt_indexD (by omega) pins s σ H _ _ v us Q I rx rxs ⟨p, _, y, zs, j, zs[j], rfl, rfl, dl, dy, c.1, c.2.1, List.getElem?_eq_getElem hj1, hj2, fun m z' hm hz => by
              obtain ⟨hm1, hm2⟩ := List.getElem?_eq_some_iff.mp hz
              have := hj3 m hm
              rw [← hm2]
              simpa using this, Post.here h m (Fz.int _)⟩
      · exact h.elim
    · exact h.elim
  · exact h.elim
/-! ### d.get(k, x) -/
def isD (M : Store) (d : D) : Bool := (dictv M d).isSome
def zGet (x : D) (k y : D) (M : Store) : Out D := match dictv M x, k with
  | some kvs, .p k => match kOf k with
    | some k => match valD kvs k with
      | some d => .ok d M
      | none => .ok y M
    | none => .stuck
  | _, _ => .stuck
def zget2 (o : ZC) (a b : ZC) : ZC := fun sl M => (o sl M).bind fun x M1 => if isD M1 x = true then (a sl M1).bind fun k M2 => (b sl M2).bind fun y M3 => zGet x k y M3 else .stuck
theorem ZE.get2 {apos cpos : Pos} (zx : ZX X) (ho : ZE X E o co) (he : ZE X E e ce) (hf : ZE X E f cf) (m2 : M2 X o "get" apos e f cpos) : ZE X E (.Call (.Attribute o "get" apos) [e, f] [] cpos) (zget2 co ce cf) := by
  obtain ⟨to, po, qo⟩ := ho
  obtain ⟨te, pe, qe⟩ := he
  obtain ⟨tf, pf, qf⟩ := hf
  have hu := zx.hu
  refine ⟨_, pe_dget2 (by omega) po pe pf m2, fun σ H θ sl M Q hs hm h => qo σ H θ sl M _ hs hm (Post.bind h fun x M1 v H1 θ1 g1 m1 r1 h1 => ?_)⟩
  split at h1
  · rename_i hd
    obtain ⟨kv0, hkv0⟩ := Option.isSome_iff_exists.mp hd
    obtain ⟨a, us0, rfl, hr0, _⟩ := dictv_ok m1 r1 hkv0
    refine ⟨a, rfl, .inl ⟨us0, hr0⟩, qe σ H1 θ1 sl M1 _ (hs.go g1) m1 (Post.bind h1 fun k M2 kv H2 θ2 g2 m2 r2 h2 => ?_)⟩
    refine qf σ H2 θ2 sl M2 _ ((hs.go g1).go g2) m2 (Post.bind h2 fun y M3 yv H3 θ3 g3 m3 r3 h3 => ?_)
    unfold zGet at h3
    split at h3
    · rename_i kvs kk e1
      obtain ⟨a', us, ea, hr, kd⟩ := dictv_ok m3 ((r1.go g2).go g3) e1
      cases ea
      split at h3
      · rename_i key e2
        have ek := kv_is (Dr.go g3 r2) e2
        subst ek
        rcases kd_val key kd with ⟨v1, v2⟩ | ⟨v, d, v1, v2, rd⟩
        · rw [v2] at h3
          exact ⟨none, .inl ⟨us, key, hr, rfl, v1.symm⟩, Post.here h3 m3 r3⟩
        · rw [v2] at h3
          exact ⟨some v, .inl ⟨us, key, hr, rfl, v1.symm⟩, Post.here h3 m3 rd⟩
      · exact h3.elim
    · exact h3.elim
  · exact h1.elim
end
end Z

/-! Z: sorted(set(x)) of pairs of ints, sorted(d) of a dict with int keys. -/
namespace Z
open PySem PySem.Spec PyProof.Rows L2
/-- the bound of the pairs' ints -/
def bB : Int := 100000
def pcode (p : Int × Int) : Int := p.1 * bB + p.2
def pdec (c : Int) : Int × Int := (c / bB, c % bB)
def pOk (p : Int × Int) : Prop := 0 ≤ p.1 ∧ p.1 < bB ∧ 0 ≤ p.2 ∧ p.2 < bB
instance (p : Int × Int) : Decidable (pOk p) := by unfold pOk; infer_instance
theorem pdec_code {p : Int × Int} (h : pOk p) : pdec (pcode p) = p := by
  obtain ⟨h1, h2, h3, h4⟩ := h
  unfold pdec pcode
  have hb : (0 : Int) < bB := by decide
  have e1 : (p.1 * bB + p.2) / bB = p.1 := by
    rw [Int.add_comm, Int.add_mul_ediv_right _ _ (by decide), Int.ediv_eq_zero_of_lt h3 h4, Int.zero_add]
  have e2 : (p.1 * bB + p.2) % bB = p.2 := by
    rw [Int.add_comm, Int.add_mul_emod_self_right, Int.emod_eq_of_lt h3 h4]
  rw [e1, e2]
/-- the pairs, each once, in order -/
def unp (ps : List (Int × Int)) : List (Int × Int) := (uns (ps.map pcode)).map pdec
theorem mem_unp {ps : List (Int × Int)} (h : ∀ p ∈ ps, pOk p) (p : Int × Int) : p ∈ unp ps ↔ p ∈ ps := by
  unfold unp
  rw [List.mem_map]
  constructor
  · rintro ⟨c, hc, rfl⟩
    rw [mem_uns, List.mem_map] at hc
    obtain ⟨q, hq, rfl⟩ := hc
    rw [pdec_code (h q hq)]
    exact hq
  · intro hp
    exact ⟨pcode p, by rw [mem_uns]; exact List.mem_map.mpr ⟨p, hp, rfl⟩, pdec_code (h p hp)⟩
theorem unp_len (ps : List (Int × Int)) : (unp ps).length ≤ ps.length := by
  unfold unp
  rw [List.length_map]
  have := uns_len (ps.map pcode)
  rw [List.length_map] at this
  exact this
abbrev encP (p : Int × Int) : P := .tuple [.int p.1, .int p.2]
theorem tcode (x y : Int) : TS.code bB [x, y] = pcode (x, y) := by
  have e1 : bB ^ 1 = bB := by decide
  have e0 : bB ^ 0 = 1 := by decide
  show x * bB ^ 1 + (y * bB ^ 0 + 0) = x * bB + y
  rw [e1, e0, Int.mul_one, Int.add_zero]
section
variable {X : Cx} {E : XK} {a : Expr} {ca : ZC} {te : TE}
def tST (K : PySem.W.Frag) (te : TE) : TE := fun σ H Q => te σ H fun x H1 => ∃ (a : Addr) (ks : List (Addr × (Int × Int))), x = .ref a ∧ SqL K H1 a (ks.map fun p => V.ref p.1) ∧ (∀ p ∈ ks, SqT K H1 p.1 [.int p.2.1, .int p.2.2] ∧ pOk p.2) ∧ ks.length < 64 ∧
  ∀ (p : Addr) (L : List (Addr × (Int × Int))), H1 p = none → (∀ q ∈ L, q ∈ ks) → L.map Prod.snd = unp (ks.map Prod.snd) → Q (.ref p) (upd H1 p (.lst (L.map fun q => V.ref q.1)))
theorem pe_st {p p2 q pos : Pos} (zx : ZX X) (hg : Gl X "sorted") (hm : X.mg "sorted" = none) (hg2 : Gl X "set") (hm2 : X.mg "set" = none) (ha : PE X a te)
    (na : starEach [a] X.env = (false, eval a X.env) :: starEach [] X.env := by rfl) : PE X (.Call (.Name "sorted" p) [.Call (.Name "set" p2) [a] [] q] [] pos) (tST X.K te) := by
  refine ⟨fun pins s σ H Q I h => ?_⟩
  have hu := zx.hu
  refine Call_ (ld_blt I hg hm PyProof.Rows.boot_sorted ?_)
  refine PyProof.Rows.callWith_builtin1 (PyProof.Rows.args_cons ?_ rfl) rfl rfl
  refine Call_ (ld_blt I hg2 hm2 PyProof.Rows.boot_set ?_)
  refine PyProof.Rows.callWith_type1 (PyProof.Rows.args_cons (thn (ha.run pins s σ H _ I h) fun v s1 ⟨x, H1, I1, r1, q1⟩ => PyProof.Rows.args_nil ?_) na) na rfl
  obtain ⟨l, ks, rfl, hl, hk, hf, q1⟩ := q1
  cases r1
  obtain ⟨its, rv, pl, hz⟩ := I1.list hl
  let K2 : List (Addr × List Int) := ks.map fun p => (p.1, [p.2.1, p.2.2])
  have hl2 : K2.length = ks.length := List.length_map _
  have rv2 : Vals (K2.map fun p => V.ref p.1) its := by
    show Vals ((ks.map fun p => (p.1, [p.2.1, p.2.2])).map fun p => V.ref p.1) its
    rw [List.map_map]
    exact rv
  have hk2 : ∀ p ∈ K2, SqT X.K H1 p.1 (p.2.map V.int) := fun p hp => by
    obtain ⟨q, hq, rfl⟩ := List.mem_map.mp hp
    exact (hk q hq).1
  refine call_set_tups (P := X.prog) (w := X.w) K2 (I1.ok.hd zx.calm) pl.isList (by simpa using refs_of_vals rv2) (fun p hp => I1.isT (hk2 p hp)) (by rw [hl2]; exact hf) (by show X.A.units + 3 < cLine; omega) fun h' tk L es ep t R g k => ?_
  refine PyProof.Rows.args_nil ?_
  have I2 : Inv X pins σ H1 { s1 with heap := h', toks := tk } := I1.kept k
  have sub : ∀ p ∈ L, p ∈ K2 := fun p hp => List.mem_of_mem_take (g.sub p hp)
  have all : ∀ p ∈ K2, p.2 ∈ L.map (·.2) := fun p hp => g.all p (by rw [List.take_length]; exact hp)
  have hB : ∀ p ∈ L, p.2.length = 2 ∧ TS.Bd bB p.2 := fun p hp => by
    obtain ⟨q, hq, rfl⟩ := List.mem_map.mp (sub p hp)
    obtain ⟨_, h1, h2, h3, h4⟩ := hk q hq
    refine ⟨rfl, fun m hm => ?_⟩
    simp at hm
    rcases hm with rfl | rfl
    · exact ⟨h1, h2⟩
    · exact ⟨h3, h4⟩
  refine sorted_setT R (I2.ok.hd zx.calm) (by decide) hB fun s' p out c L' k2 g2 o2 hp hg3 hout pm pw => ?_
  have hfew : L'.length < 64 := by rw [pm.length_eq]; exact R.few
  have hlen : (L'.map fun q => V.ref q.1).length ≤ sizeLine := by rw [List.length_map, sizeLine_eq]; omega
  have hn : H1 p = none := I2.hok.fresh hp
  have hv : Vals (L'.map fun q => V.ref q.1) out.toList := by rw [hout]; exact vals_of_refs L'
  have J : Inv X pins σ (upd H1 p (.lst (L'.map fun q => V.ref q.1))) s' :=
    I2.call' (ch := []) o2 (Un.laid k2 hp hn) (I2.hok.laid k2 hp ⟨hlen, out.toList, c, hv, hg3⟩) (by rw [g2]; exact I2.bare) (fun _ z => nomatch z)
  -- the pairs behind
  have back : ∀ M : List (Addr × List Int), (∀ p ∈ M, p ∈ K2) → ∃ N : List (Addr × (Int × Int)), M = N.map (fun p => (p.1, [p.2.1, p.2.2])) ∧ ∀ q ∈ N, q ∈ ks := by
    intro M
    induction M with
    | nil => intro _; exact ⟨[], rfl, fun q h => (by cases h)⟩
    | cons m M ih =>
      intro hM
      obtain ⟨N, e, hN⟩ := ih fun p hp => hM p (List.mem_cons_of_mem _ hp)
      obtain ⟨q, hq, rfl⟩ := List.mem_map.mp (hM m (List.mem_cons_self ..))
      exact ⟨q :: N, by rw [e]; rfl, fun r hr => by
        rcases List.mem_cons.mp hr with rfl | hr
        · exact hq
        · exact hN r hr⟩
  obtain ⟨N, eN, hN⟩ := back L' fun p hp => sub p (pm.mem_iff.mp hp)
  have eout : (L'.map fun q => V.ref q.1) = N.map fun q => V.ref q.1 := by rw [eN, List.map_map]; rfl
  refine ⟨.ref p, _, J, rfl, ?_⟩
  rw [eout]
  refine q1 p N hn hN ?_
  have nd' : (L'.map (·.2)).Nodup := (pm.map (·.2)).nodup_iff.mpr R.nd
  have cs : N.map (fun q => pcode q.2) = uns ((ks.map Prod.snd).map pcode) := by
    refine rise_eq ?_ (uns_rise _) fun c => ?_
    · rw [List.pairwise_map]
      rw [eN, List.pairwise_map] at pw
      rw [eN, List.map_map] at nd'
      have nd2 := List.pairwise_map.mp nd'
      refine List.Pairwise.imp_of_mem (fun {x y} hx hy h => ?_) (List.Pairwise.and pw nd2)
      obtain ⟨h1, h2⟩ := h
      rw [tcode, tcode] at h1
      have : pcode x.2 ≠ pcode y.2 := fun e => h2 (by
        have e2 : x.2 = y.2 := by
          rw [← pdec_code (hk x (hN x hx)).2, ← pdec_code (hk y (hN y hy)).2, e]
        show [x.2.1, x.2.2] = [y.2.1, y.2.2]
        rw [e2])
      have h1' : pcode x.2 ≤ pcode y.2 := h1
      omega
    · rw [mem_uns, List.mem_map, List.mem_map]
      constructor
      · rintro ⟨q, hq, rfl⟩
        exact ⟨q.2, List.mem_map.mpr ⟨q, hN q hq, rfl⟩, rfl⟩
      · rintro ⟨q, hq, rfl⟩
        obtain ⟨r, hr, rfl⟩ := List.mem_map.mp hq
        have := all (r.1, [r.2.1, r.2.2]) (List.mem_map.mpr ⟨r, hr, rfl⟩)
        obtain ⟨m, hm, em⟩ := List.mem_map.mp this
        have hm' := pm.mem_iff.mpr hm
        rw [eN] at hm'
        obtain ⟨n, hn, rfl⟩ := List.mem_map.mp hm'
        refine ⟨n, hn, ?_⟩
        have e : [n.2.1, n.2.2] = [r.2.1, r.2.2] := em
        injection e with e1 e2
        injection e2 with e2
        show pcode n.2 = pcode r.2
        unfold pcode
        rw [e1, e2]
  unfold unp
  rw [← cs, List.map_map]
  refine List.map_congr_left fun q hq => ?_
  exact (pdec_code (hk q (hN q hq)).2).symm
def pairsOfD : List D → Option (List (Int × Int))
  | [] => some []
  | .p (.tuple [.int x, .int y]) :: r => (pairsOfD r).map ((x, y) :: ·)
  | _ :: _ => none
theorem pairsOfD_map : ∀ ps : List (Int × Int), pairsOfD (ps.map fun p => .p (encP p)) = some ps
  | [] => rfl
  | p :: ps => by rw [List.map_cons, pairsOfD, pairsOfD_map ps]; rfl
theorem pairs_drs {K : PySem.W.Frag} {θ : List Addr} {H : Hp} : ∀ {ds : List D} {ps : List (Int × Int)} {vs : List V}, Drs K θ H vs ds → pairsOfD ds = some ps → ∃ ks : List (Addr × (Int × Int)), vs = ks.map (fun p => V.ref p.1) ∧ ks.map Prod.snd = ps ∧ ∀ p ∈ ks, SqT K H p.1 [.int p.2.1, .int p.2.2]
  | [], ps, _, .nil, e => by cases e; exact ⟨[], rfl, rfl, fun p h => (by cases h)⟩
  | d :: ds, ps, v :: vs, .cons r rr, e => by
    unfold pairsOfD at e
    split at e
    · rename_i h; cases h
    · rename_i x y r' h
      injection h with h1 h2
      subst h1 h2
      cases q : pairsOfD ds with
      | none => rw [q] at e; cases e
      | some qs =>
        rw [q] at e
        cases e
        obtain ⟨ks, e1, e2, e3⟩ := pairs_drs rr q
        cases r with
        | @tup p ws _ k1 k2 =>
          have ew : ws = [.int x, .int y] := by
            cases k2 with
            | cons a b =>
              cases a
              cases b with
              | cons a b => cases a; cases b; rfl
          subst ew
          exact ⟨(p, (x, y)) :: ks, by rw [e1]; rfl, by rw [List.map_cons, e2], fun z hz => by
            rcases List.mem_cons.mp hz with rfl | hz
            · exact k1
            · exact e3 z hz⟩
    · cases e
def zSortSetP (d : D) (M : Store) : Out D := match lstv M d with
  | some xs => match pairsOfD xs with
    | some ps => if ps.length < 64 ∧ ∀ p ∈ ps, pOk p then .ok (.p (.list ((unp ps).map encP))) M else .stuck
    | none => .stuck
  | none => .stuck
theorem fz_pairs {K : PySem.W.Frag} {H : Hp} : ∀ L : List (Addr × (Int × Int)), (∀ p ∈ L, SqT K H p.1 [.int p.2.1, .int p.2.2]) → FzAll K H (L.map fun q => V.ref q.1) ((L.map Prod.snd).map encP)
  | [], _ => .nil
  | p :: L, h => .cons (.tup (h p (List.mem_cons_self ..)) (.cons (.int _) (.cons (.int _) .nil))) (fz_pairs L fun q hq => h q (List.mem_cons_of_mem _ hq))
theorem ZE.sortSetP {p p2 q pos : Pos} (zx : ZX X) (hg : Gl X "sorted") (hm : X.mg "sorted" = none) (hg2 : Gl X "set") (hm2 : X.mg "set" = none) (ha : ZE X E a ca)
    (na : starEach [a] X.env = (false, eval a X.env) :: starEach [] X.env := by rfl) : ZE X E (.Call (.Name "sorted" p) [.Call (.Name "set" p2) [a] [] q] [] pos) (z1 zSortSetP ca) := by
  obtain ⟨t, pa, qa⟩ := ha
  refine ⟨_, pe_frz (pe_st zx hg hm hg2 hm2 pa na), fun σ H θ sl M Q hs hm h => qa σ H θ sl M _ hs hm (Post.bind h fun x M1 v H1 θ1 g1 m1 r1 h1 => ?_)⟩
  unfold zSortSetP at h1
  split at h1
  · rename_i xs e1
    split at h1
    · rename_i ps e2
      split at h1
      · rename_i c
        obtain ⟨ad, vs, rfl, hp, dp⟩ := lstv_ok m1 r1 e1
        obtain ⟨ks, ev, es, hk⟩ := pairs_drs dp e2
        subst ev
        have hkl : ks.length = ps.length := by rw [← es, List.length_map]
        refine ⟨ad, ks, rfl, hp.sq, fun p hp => ⟨hk p hp, c.2 p.2 (by rw [← es]; exact List.mem_map.mpr ⟨p, hp, rfl⟩)⟩, by rw [hkl]; exact c.1, fun p L hp hL eL => ?_⟩
        rw [es] at eL
        rw [← eL] at h1
        exact post_frz h1 m1 hp (by
          have := unp_len ps
          rw [← eL, List.length_map] at this
          rw [List.length_map, List.length_map, sizeLine_eq]
          omega) (fz_pairs L fun q hq => hk q (hL q hq))
      · exact h1.elim
    · exact h1.elim
  · exact h1.elim
/-! ### sorted(d) -/
def ikeys : List (Key × D) → Option (List Int)
  | [] => some []
  | (.inl i, _) :: r => (ikeys r).map (i :: ·)
  | _ :: _ => none
theorem ikeys_eq {K : PySem.W.Frag} {θ : List Addr} {H : Hp} : ∀ {us : List (Key × V)} {kvs : List (Key × D)} {ks : List Int}, KD K θ H us kvs → ikeys kvs = some ks → us.map (·.1) = ks.map Sum.inl
  | _, _, ks, .nil, e => by cases e; rfl
  | u :: us, (k, d) :: kvs, ks, .cons a b, e => by
    cases k with
    | inr x => cases e
    | inl i =>
      unfold ikeys at e
      cases q : ikeys kvs with
      | none => rw [q] at e; cases e
      | some js =>
        rw [q] at e
        cases e
        rw [List.map_cons, List.map_cons, ikeys_eq b q]
        exact congrArg (· :: _) a.1
def zSortD (ds : List D) (M : Store) : Out D := match ds with
  | [d] => match dictv M d with
    | some kvs => match ikeys kvs with
      | some ks => if ks.Nodup ∧ ks.length < 64 then .ok (.p (.list ((uns ks).map .int))) M else .stuck
      | none => .stuck
    | none => .stuck
  | _ => .stuck
theorem le_rise : ∀ {l : List Int}, l.Pairwise (· ≤ ·) → l.Nodup → l.Pairwise (· < ·) := fun h n => by
  refine List.Pairwise.imp (fun h => ?_) (List.Pairwise.and h n)
  have h1 := h.1
  have h2 := h.2
  omega
theorem zSortD_ok (zx : ZX X) : CallR X (.builtin "sorted") (rZs X E zSortD) := by
  intro pins s σ H xs us Q I r h
  obtain ⟨ds, θ, M, m, rs, h⟩ := h
  unfold zSortD at h
  split at h
  · split at h
    · rename_i kvs e1
      split at h
      · rename_i ks e2
        split at h
        · rename_i c
          cases rs with
          | cons r1 rr =>
            cases rr
            obtain ⟨ad, us', rfl, hr, kd⟩ := dictv_ok m r1 e1
            refine thn (Q := EP X pins σ (FrzQ Q)) (call_sortedDI zx.calm pins s σ H _ us (FrzQ Q) I r ⟨ad, us', ks, rfl, hr, ikeys_eq kd e2, c.2, fun ys p pm pw hp => ?_⟩) fun u s1 z => ep_frz z
            have ey : ys = uns ks := rise_eq (le_rise pw (pm.nodup_iff.mpr c.1)) (uns_rise ks) fun k => by rw [mem_uns]; exact pm.mem_iff
            subst ey
            have := uns_len ks
            exact post_frz h m hp (by rw [List.length_map, sizeLine_eq]; have := c.2; omega) (fz_intsR _)
        · exact h.elim
      · exact h.elim
    · exact h.elim
  · exact h.elim
end
end Z

/-! Z: a, b = list. -/
namespace Z
open PySem PySem.Spec PyProof.Rows L2
/-- a target that unpacks a list -/
def tgU (f : List P → Sl → Option Sl) : Tg := fun d sl => match d with
  | .p (.list xs) => f xs sl
  | _ => none
section
variable {X : Cx} {E : XK}
theorem ZG.unl {es : List Expr} {k n : Nat} {pos : Pos} {f : List P → Sl → Option Sl} {ix : List Nat} (zx : X.calm = true) (h : ZGs X es f ix) (hlen : ∀ xs sl sl', f xs sl = some sl' → xs.length = n)
    (hn : (assignEach es X.env).length = n := by rfl) (hst : (assignEach es X.env).findIdx? (·.1) = none := by rfl) : ZG X (.Tuple es k pos) (tgU f) ix := by
  obtain ⟨g, pg, q⟩ := h.run
  refine ⟨_, pg_unl zx pg hn hst, fun v d σ H θ sl sl' Q hs r e kk => ?_⟩
  unfold tgU at e
  split at e
  · rename_i xs
    cases r with
    | lst k1 k2 => exact ⟨_, _, rfl, k1.sq, by rw [k2.length]; exact hlen _ _ _ e, q _ xs σ H θ sl sl' Q hs k2 e kk⟩
  · cases e
theorem ZG.unl2 {a b : Expr} {f g : Tg} {i j : List Nat} {k : Nat} {pos : Pos} (zx : X.calm = true) (h : ZG X a f i) (h' : ZG X b g j) (hs : (assignEach [a, b] X.env).map (·.2) = assign a X.env :: (assignEach [b] X.env).map (·.2) := by rfl)
    (hs' : (assignEach [b] X.env).map (·.2) = assign b X.env :: (assignEach [] X.env).map (·.2) := by rfl)
    (hn : (assignEach [a, b] X.env).length = 2 := by rfl) (hst : (assignEach [a, b] X.env).findIdx? (·.1) = none := by rfl) : ZG X (.Tuple [a, b] k pos) (tgU (tgsCons f (tgsCons g tgsNil))) (i ++ (j ++ [])) :=
  ZG.unl zx (ZGs.cons h (ZGs.cons h' .nil hs') hs) (len_cons (len_cons len_nil)) hn hst
end
end Z

/-! Z: {k: v for ..}. -/
namespace Z
open PySem PySem.Spec PyProof.Rows L2
def keyOf : D → Option Key
  | .p x => kOf x
  | .ref _ => none
/-- the pairs of a dict comprehension -/
def dcP (f : Tg) (t : ZCb) (ek ev : ZC) (sl : Sl) : List D → Store → Out (List (Key × D))
  | [], M => .ok [] M
  | d :: ds, M => match f d sl with
    | some sl1 => (noexc (t sl1 M)).bind fun k M1 => if k = true then (noexc (ek sl1 M1)).bind fun y M2 => (match keyOf y with
        | some key => (noexc (ev sl1 M2)).bind fun z M3 => (dcP f t ek ev sl ds M3).bind fun ys M4 => .ok ((key, z) :: ys) M4
        | none => .stuck) else dcP f t ek ev sl ds M1
    | none => .stuck
def dfin (kvs : List (Key × D)) (M : Store) : Out D := .ok (.ref M.length) (M ++ [.dic kvs])
def zdcomp (vs : List Nat) (ci : ZCs) (f : Tg) (t : ZCb) (ek ev : ZC) : ZC := fun sl M => (ci sl M).bind fun ds M1 => if ds.length ≤ 1000 then (dcP f t ek ev (wipeS sl vs) ds M1).bind fun kvs M2 => dfin (mergeD [] kvs) M2 else .stuck
theorem putD_len (kvs : List (Key × D)) (k : Key) (d : D) : (putD kvs k d).length ≤ kvs.length + 1 := by
  unfold putD
  split
  · rw [List.length_map]; omega
  · rw [List.length_append]; exact Nat.le_refl _
theorem dcomp_ok {X : Cx} {E : XK} {vs ix : List Nat} {ci : ZCs} {f : Tg} {t : ZCb} {ek ev : ZC} {wi : TI} {Q : VK}
    (qi : ∀ σ H θ sl M R, SV X.K θ H σ sl → SR X.K θ H M → Post X.K X.mg E (WalkR X.K) R θ H (ci sl M) → wi σ H R) (hsub : ∀ j ∈ ix, j ∈ vs)
    {σ : L2.St} {H : Hp} {θ : List Addr} {sl : Sl} {M : Store}
    (hs : SV X.K θ H σ sl) (hm : SR X.K θ H M) (h : Post X.K X.mg E (Dr X.K) Q θ H (zdcomp vs ci f t ek ev sl M)) :
    tDc wi (gZ X.K f ix) (tZb X.K X.mg E0 t) (tZ X.K X.mg E0 ek) (tZ X.K X.mg E0 ev) vs σ H Q := by
  refine qi σ H θ sl M _ hs hm (Post.bind h fun ds M1 J H1 θ1 g1 m1 w1 h1 => ?_)
  by_cases hsz : ds.length ≤ 1000
  rotate_left
  · rw [if_neg hsz] at h1; exact h1.elim
  rw [if_pos hsz] at h1
  intro p hp
  refine ⟨fun i m H => ∃ Hv θ M acc ys, H = upd Hv p (.dK acc) ∧ Hv p = none ∧ Go θ1 θ H1 Hv ∧ SR X.K θ Hv M ∧ KD X.K θ Hv acc ys ∧ ys.length ≤ i ∧ m = ds.length - i ∧ i ≤ ds.length ∧
      Post X.K X.mg E (Dr X.K) Q θ Hv ((dcP f t ek ev (wipeS sl vs) (ds.drop i) M).bind fun zs M' => dfin (mergeD ys zs) M'),
    ⟨_, H1, θ1, M1, [], [], rfl, hp, .refl, m1, .nil, Nat.le_refl _, rfl, Nat.zero_le _, h1⟩, ?_⟩
  rintro i m H2 ⟨Hv, θ2, M2, acc, ys, rfl, hp2, g2, m2, r2, hyl, rfl, hi, h2⟩
  have np : p ∉ θ2 := fun z => m2.apart hp2 p z rfl
  have gB : Go θ2 θ2 Hv (upd Hv p (.dK acc)) := Go.out m2 hp2
  have mB : SR X.K θ2 (upd Hv p (.dK acc)) M2 := m2.out hp2
  by_cases hlt : i < ds.length
  · refine .inr ⟨w1.go i _ θ2 hlt (g2.trans gB), fun H' => ∃ Hv θ M acc ys, H' = upd Hv p (.dK acc) ∧ Hv p = none ∧ Go θ1 θ H1 Hv ∧ SR X.K θ Hv M ∧ KD X.K θ Hv acc ys ∧ ys.length ≤ i + 1 ∧
        Post X.K X.mg E (Dr X.K) Q θ Hv ((dcP f t ek ev (wipeS sl vs) (ds.drop (i + 1)) M).bind fun zs M' => dfin (mergeD ys zs) M'), ?_, ?_⟩
    · rintro H' ⟨Hv', θ', M', acc', ys', a1, a2, a3, a4, a5, a6, a7⟩
      exact ⟨ds.length - (i + 1), by omega, Hv', θ', M', acc', ys', a1, a2, a3, a4, a5, a6, rfl, hlt, a7⟩
    · intro x H3 y
      obtain ⟨d, ed, g3, m3, r3⟩ := w1.yld i _ θ2 M2 x H3 hlt (g2.trans gB) mB y
      have e0 : ds.drop i = d :: ds.drop (i + 1) := by
        rw [List.drop_eq_getElem_cons hlt]
        rw [List.getElem?_eq_getElem hlt] at ed
        rw [Option.some.inj ed]
      rw [e0] at h2
      unfold dcP at h2
      cases e1 : f d (wipeS sl vs) with
      | none => rw [e1] at h2; exact h2.elim
      | some sl3 =>
        rw [e1] at h2
        simp only at h2
        have sB : SV X.K θ2 H3 (wipe σ vs) (wipeS sl vs) := ((((hs.go g1).go g2).go gB).go g3).wipe vs
        refine ⟨d, θ2, wipeS sl vs, sl3, sB, r3, e1, fun σ3 s3 f3 => ⟨?_, ?_⟩⟩
        · exact wipe_same (f3.1.trans (wipe_length σ vs)) f3.2 hsub
        · obtain ⟨Hv3, e3, hp3, g3', m3'⟩ : ∃ Hv3, H3 = upd Hv3 p (.dK acc) ∧ Hv3 p = none ∧ Go θ2 θ2 Hv Hv3 ∧ SR X.K θ2 Hv3 M2 :=
            ⟨hid H3 p, (upd_hid (g3.same np)).symm, hid_same, g3.hid hp2, m3.hid (g3.same np) (fun z => z) np⟩
          subst e3
          refine ⟨θ2, sl3, M2, s3, m3, ?_⟩
          cases et : t sl3 M2 with
          | stuck => rw [et] at h2; exact h2
          | exc x M4 => rw [et] at h2; exact (show False from h2).elim
          | ok k M4 =>
            rw [et] at h2
            simp only [noexc_ok, Out.bind_ok] at h2
            intro b H4 θ4 g4 m4 rb
            cases rb
            obtain ⟨Hv4, e4, hp4, g4', m4', np4⟩ : ∃ Hv4, H4 = upd Hv4 p (.dK acc) ∧ Hv4 p = none ∧ Go θ2 θ4 Hv3 Hv4 ∧ SR X.K θ4 Hv4 M4 ∧ p ∉ θ4 :=
              ⟨hid H4 p, (upd_hid (g4.same np)).symm, hid_same, g4.hid hp3, m4.hid (g4.same np) (fun z => z) (g4.notin np), g4.notin np⟩
            subst e4
            have r4 : KD X.K θ4 Hv4 acc ys := kd_go (g3'.trans g4') r2
            have h4 := Post.go (g3'.trans g4') h2
            cases k with
            | false =>
              exact (if_neg Bool.false_ne_true).mpr ⟨Hv4, θ4, M4, acc, ys, rfl, hp4, (g2.trans g3').trans g4', m4', r4, by omega, by simpa using h4⟩
            | true =>
              rw [if_pos rfl] at h4
              refine (if_pos rfl).mpr ⟨θ4, sl3, M4, s3.go g4, m4, ?_⟩
              cases ee : ek sl3 M4 with
              | stuck => rw [ee] at h4; exact h4
              | exc x M5 => rw [ee] at h4; exact (show False from h4).elim
              | ok yd M5 =>
                rw [ee] at h4
                simp only [noexc_ok, Out.bind_ok] at h4
                intro v H5 θ5 g5 m5 r5
                obtain ⟨Hv5, e5, hp5, g5', m5', np5⟩ : ∃ Hv5, H5 = upd Hv5 p (.dK acc) ∧ Hv5 p = none ∧ Go θ4 θ5 Hv4 Hv5 ∧ SR X.K θ5 Hv5 M5 ∧ p ∉ θ5 :=
                  ⟨hid H5 p, (upd_hid (g5.same np4)).symm, hid_same, g5.hid hp4, m5.hid (g5.same np4) (fun z => z) (g5.notin np4), g5.notin np4⟩
                subst e5
                cases ekey : keyOf yd with
                | none => rw [ekey] at h4; exact (show False from h4).elim
                | some key =>
                  rw [ekey] at h4
                  simp only at h4
                  have hkv : v = kV key := by
                    cases yd with
                    | ref j => cases ekey
                    | p x => exact kv_is r5 ekey
                  have h5 := Post.go g5' h4
                  refine ⟨θ5, sl3, M5, (s3.go g4).go g5, m5, ?_⟩
                  cases ev1 : ev sl3 M5 with
                  | stuck => rw [ev1] at h5; exact h5
                  | exc x M6 => rw [ev1] at h5; exact (show False from h5).elim
                  | ok zd M6 =>
                    rw [ev1] at h5
                    simp only [noexc_ok, Out.bind_ok] at h5
                    intro z H6 θ6 g6 m6 r6
                    obtain ⟨Hv6, e6, hp6, g6', m6'⟩ : ∃ Hv6, H6 = upd Hv6 p (.dK acc) ∧ Hv6 p = none ∧ Go θ5 θ6 Hv5 Hv6 ∧ SR X.K θ6 Hv6 M6 :=
                      ⟨hid H6 p, (upd_hid (g6.same np5)).symm, hid_same, g6.hid hp5, m6.hid (g6.same np5) (fun z => z) (g6.notin np5)⟩
                    subst e6
                    have r6' : Dr X.K θ6 Hv6 z zd := by
                      have z := r6.hid (p := p) (u := .dK acc) upd_same (fun z => z)
                      have ez : hid (upd Hv6 p (.dK acc)) p = Hv6 := by
                        funext b
                        by_cases eb : b = p
                        · rw [eb, hid_same, hp6]
                        · rw [hid_ne eb, upd_ne eb]
                      rw [ez] at z
                      exact z
                    have h6 := Post.go g6' h5
                    have eo : ∀ o : Out (List (Key × D)), ((o.bind fun ys M4 => .ok ((key, zd) :: ys) M4).bind fun zs M' => dfin (mergeD ys zs) M') = o.bind fun zs M' => dfin (mergeD (putD ys key zd) zs) M' := fun o => by
                      cases o <;> rfl
                    rw [eo] at h6
                    have rk : KD X.K θ6 Hv6 acc ys := kd_go (g5'.trans g6') r4
                    have hal : acc.length = ys.length := Paired.length rk
                    have pl := putD_len ys key zd
                    refine ⟨acc, key, hkv, upd_same, by rw [hal, sizeLine_eq]; omega, Hv6, θ6, M6, putK acc key z, putD ys key zd, by rw [upd_upd], hp6, ((((g2.trans g3').trans g4').trans g5').trans g6'), m6', kd_put r6' rk, by omega, h6⟩
  · have ei : i = ds.length := by omega
    subst ei
    refine .inl ⟨w1.stop _ _ θ2 (Nat.le_refl _) (g2.trans gB), ?_⟩
    rw [List.drop_length] at h2
    have h3 : Post X.K X.mg E (Dr X.K) Q θ2 Hv (dfin ys M2) := h2
    exact new_dic h3 m2 r2 hp2
section
variable {X : Cx} {E : XK} {kx vx tg iter : Expr} {ifs : List Expr} {scope : Scope} {own : List (Str × Nat)} {pos : Pos} {ix : List Nat} {ci : ZCs} {f : Tg} {t : ZCb} {ek ev : ZC}
theorem ZE.dcomp (zx : ZX X) (hi : ZI X E tg iter ci) (ok : BlkOk X.N X.env.scope scope own) (hsub : ∀ j ∈ ix, j ∈ own.map (·.2))
    (hg : ∀ (s : Shared) (H : Hp) (C : Addr) (cl : List (Str × Addr)) (fp : List Addr), ZG (X.blk s H scope (compEnvC scope cl C X.env) fp) tg f ix) (ht : ∀ (s : Shared) (H : Hp) (C : Addr) (cl : List (Str × Addr)) (fp : List Addr), ZTs (X.blk s H scope (compEnvC scope cl C X.env) fp) E0 ifs t)
    (hk : ∀ (s : Shared) (H : Hp) (C : Addr) (cl : List (Str × Addr)) (fp : List Addr), ZE (X.blk s H scope (compEnvC scope cl C X.env) fp) E0 kx ek)
    (he : ∀ (s : Shared) (H : Hp) (C : Addr) (cl : List (Str × Addr)) (fp : List Addr), ZE (X.blk s H scope (compEnvC scope cl C X.env) fp) E0 vx ev) (hs : ∀ x, foldedSetIterable iter X.env x = pure x := by intro _; rfl) :
    ZE X E (.DictComp kx vx [⟨tg, iter, ifs, 0⟩] scope pos) (zdcomp (own.map (·.2)) ci f t ek ev) := by
  obtain ⟨wi, pi, qi⟩ := hi
  have p := pe_dc (pos := pos) (g := gZ X.K f ix) (tt := tZb X.K X.mg E0 t) (tk := tZ X.K X.mg E0 ek) (tv := tZ X.K X.mg E0 ev) zx.calm zx.nd pi ok (fun s H C cl fp => (hg s H C cl fp).can) (fun s H C cl fp => ht s H C cl fp) (fun s H C cl fp => (hk s H C cl fp).can) (fun s H C cl fp => (he s H C cl fp).can) hs
  exact ⟨_, p, fun σ H θ sl M Q hs hm h => dcomp_ok qi hsub hs hm h⟩
end
end Z

/-! Z: list(a dict). -/
namespace Z
open PySem PySem.Spec PyProof.Rows L2
theorem call_list_rd {X : Cx} (hc : X.calm = true) : CallR X (.type "list") (fun xs H Q => ∃ p kvs, xs = [.ref p] ∧ Rd H p (.dK kvs) ∧ ∀ q, H q = none → Q (.ref q) (upd H q (.lst (kvs.map fun kv => kV kv.1)))) := by
  intro pins s σ H xs us Q I r h
  obtain ⟨p, kvs, e, hk, q⟩ := h
  subst e
  obtain ⟨u, eu, rx⟩ := vals1 r
  subst eu
  obtain rfl : u = Value.ref p := rx
  obtain ⟨z, lo, vs, rk, hd⟩ := (show ObjOk X.prog X.w H s.heap p (.dK kvs) from hk.ok I.hok)
  obtain ⟨ep, hat⟩ := hd.dictAt
  have hl : kvs.length = vs.length := Paired.length rk
  refine PySem.W.kdl_call (PySem.W.kdl_dict (knd := mixKind X.prog X.w) (kvs := vs) (ep := ep) lo) (I.ok.hd hc) hat (by rw [← hl]; exact z) fun h' tk acc' c' hkeep hS hacc => ?_
  refine ⟨.ref s.heap.objs.size, upd H s.heap.objs.size (.lst (kvs.map fun kv => kV kv.1)), I.laid hkeep (Nat.le_refl _) (show ObjOk X.prog X.w _ _ _ (.lst (kvs.map fun kv => kV kv.1)) from ⟨?_, acc'.toList, c', ?_, ?_⟩), rfl, q _ (I.hok.fresh (Nat.le_refl _))⟩
  · rw [List.length_map]; exact z
  · have el : acc'.toList.length = acc'.size := by simp
    refine vals_of_at (by rw [List.length_map, el, hacc.1, hl]) fun j x w h1 h2 => ?_
    obtain ⟨k, y, hky, hi⟩ := hacc.2 j w (by rw [← Array.getElem?_toList]; exact h2)
    have e1 : (kvs.map (·.1))[j]? = some k := by
      rw [KV.keys rk, List.getElem?_map, hky] <;> rfl
    have e2 : (kvs.map fun kv => kV kv.1)[j]? = some (kV k) := by
      have e3 : (kvs.map fun kv => kV kv.1) = (kvs.map (·.1)).map kV := by rw [List.map_map] <;> rfl
      rw [e3, List.getElem?_map, e1] <;> rfl
    rw [e2] at h1
    cases h1
    exact keyIs_rel hi
  · rw [Array.toArray_toList]; exact hS
section
variable {X : Cx} {E : XK}
theorem kd_keys {K : PySem.W.Frag} {θ : List Addr} {H : Hp} : ∀ {us : List (Key × V)} {kvs : List (Key × D)}, KD K θ H us kvs → FzAll K H (us.map fun kv => kV kv.1) (kvs.map fun kv => kP kv.1)
  | _, _, .nil => .nil
  | u :: us, q :: kvs, .cons a b => by
    rw [List.map_cons, List.map_cons, a.1]
    exact .cons (fz_key q.1) (kd_keys b)
/-- list(x), x a dict or a row -/
def zListA (ds : List D) (M : Store) : Out D := match ds with
  | [d] => match dictv M d with
    | some kvs => if kvs.length ≤ 1000 then .ok (.p (.list (kvs.map fun kv => kP kv.1))) M else .stuck
    | none => zList [d] M
  | _ => .stuck
theorem zListA_ok (zx : ZX X) : CallR X (.type "list") (rZs X E zListA) := by
  intro pins s σ H xs us Q I r h
  obtain ⟨ds, θ, M, m, rs, h⟩ := h
  unfold zListA at h
  split at h
  · split at h
    · rename_i kvs e1
      split at h
      · rename_i c
        cases rs with
        | cons r1 rr =>
          cases rr
          obtain ⟨ad, us', rfl, hr, kd⟩ := dictv_ok m r1 e1
          refine thn (Q := EP X pins σ (FrzQ Q)) (call_list_rd zx.calm pins s σ H _ us (FrzQ Q) I r ⟨ad, us', rfl, hr, fun p hp => ?_⟩) fun u s1 z => ep_frz z
          exact post_frz h m hp (by rw [List.length_map, sizeLine_eq]; omega) (kd_keys kd)
      · exact h.elim
    · exact zList_ok pins s σ H xs us Q I r ⟨_, θ, M, m, rs, h⟩
  · exact h.elim
end
end Z

/-! Own exceptions: `def __init__(self, f): super().__init__(f); self.f = f`. -/
namespace PySem
namespace SupX
open PySem.W PySem.Calls PyProof.Rows PySem.HandSPX
def iA (f : Str) (p1 p2 : Pos) : Arguments := { posonlyargs := [], args := [{ arg := "self", annotation := none, pos := p1 }, { arg := f, annotation := none, pos := p2 }], vararg := none, kwonlyargs := [], kw_defaults := [], kwarg := none, defaults := [] }
def iB (f : Str) (q : Nat → Pos) : List Stmt :=
  [.Expr (.Call (.Attribute (.Call (.Name "super" (q 0)) [] [] (q 1)) "__init__" (q 2)) [.Name f (q 3)] [] (q 4)) (q 5), .Assign [.Attribute (.Name "self" (q 6)) f (q 7)] (.Name f (q 8)) (q 9)]
def iS (f : Str) : Scope := { kind := .function, names := [(PySem.Str.ofString "self", .local), (f, .local), (PySem.Str.ofString "__class__", .free), (PySem.Str.ofString "super", .globalImplicit)], isGenerator := false, isCoroutine := false, more := [] }
abbrev excO := PySem.HandSPX.excO
/-- what the written part says of a class C named cn with one field f, and of its __init__, at fI -/
structure SupTxt (prog : Program) (K : Frag) (mg : Str → Option Value) (cn f : Str) (C : Addr) : Prop where
  gC : mg cn = some (.ref C)
  cls : ∃ nm q N bs bm sn sub ab col dd k0 k1 k2 k3 k5, K.lookup C = some (excClassObj nm q C N bs bm true sn sub ab col dd k0 k1 k2 k3 k5 "ValueError.__new__") ∧ refsVE bm = true
  sa : findIn K (.ref C) "__setattr__" = some (some (.builtin "object.__setattr__"))
  ga : findIn K (.ref C) "__getattribute__" = some (some (.builtin "BaseException.__getattribute__"))
  gg : findIn K (.ref C) "__getattr__" = some none
  noN : findIn K (.ref C) f = some none
  kC : keepIn K (.ref C) = true
  exC : subIn K (.ref C) (.type "BaseException") = some true
  tyC : typeIn K (.ref C) = some (.type "type")
  hdC : hasDictIn K C = true
  veC : subIn K (.ref C) (.type "ValueError") = some true
  op : nsIn K cStatics "thirdparty.any" = some none
  su : mg "super" = none
  al : ks_superIn K C C "__init__" = some (some (.builtin "ValueError.__init__"))
  ie : ∃ bm, excInitIn K C bm "ValueError.__new__" = true ∧ ExcBaseFacts "ValueError" "ValueError.__new__" "ValueError.__init__" bm
  htop : (prog.main.scope.names.lookup ("super" : Str)).isSome = false
  fld : (iS f).names.lookup f = some .local ∧ f ≠ "self" ∧ (f == ("__debug__" : Str)) = false
  scp : (iS f).names.lookup ("super" : Str) = some .globalImplicit ∧ (iS f).names.lookup ("__class__" : Str) = some .free ∧ (iS f).names.lookup ("self" : Str) = some .local
  fn : ∃ (fI : Addr) (oc : Value) (od : Option Addr) (doc pm : Value) (an : Option Addr) (ct : Value) (osl : Array (Option Value)) (p1 p2 : Pos) (q : Nat → Pos) (qual : Str) (cda cc : Addr) (ccl cl : Value) (cdd cld : Option Addr) (ccs csl : Array (Option Value)) (vs : Array Value) (file : Str) (tf : Tok),
    findIn K (.ref C) "__init__" = some (some (.ref fI)) ∧ typeIn K (.ref fI) = some (.type "function") ∧
    K.lookup fI = some ⟨oc, od, .func (ksFn "__init__" qual (iA f p1 p2) (iB f q) (iS f) .none .none doc pm an (.ref cda) ct cc), osl⟩ ∧ codeIn K (.ref cda) qual = true ∧
    K.lookup cda = some ⟨ccl, cdd, .fields vs, ccs⟩ ∧ vs[2]? = some (.str file tf) ∧ ((prog.main.file : Str) == file) = true ∧ K.lookup cc = some ⟨cl, cld, .cell (some (.ref C)), csl⟩ ∧
    (∃ pl : Sem Bool, ∀ env : Env, eval (.Call (.Attribute (.Call (.Name "super" (q 0)) [] [] (q 1)) "__init__" (q 2)) [.Name f (q 3)] [] (q 4)) env = (do
      let ov ← attributeBase (.Call (.Name "super" (q 0)) [] [] (q 1)) "__init__" env (eval (.Call (.Name "super" (q 0)) [] [] (q 1)) env)
      standAt (q 2).atName
      let (g, first) ← holding [ov] (getMethod ov "__init__" pl)
      callWith (q 4) g first (backTo (q 4) (starEach [.Name f (q 3)] env)) [])) ∧
    (∀ s x v, BindsTo s (ksFn "__init__" qual (iA f p1 p2) (iB f q) (iS f) .none .none doc pm an (.ref cda) ct cc) ⟨[x, v], []⟩ [("self", x), (f, v)])
/-- what __init__ leaves of a fresh exception at x -/
structure InitEnd (f : Str) (h h' : Heap) (x C dx : Addr) (v : Value) : Prop where
  keep : ∀ b o, b ≠ x → h.get? b = some o → h'.get? b = some o
  obj : ∃ t1 : Addr, h'.get? x = some { cls := .ref C, dict := some dx, data := .fields #[.ref t1, .none, .none, .none, .bool false, .none] }
  dbig : h.objs.size ≤ dx
  dne : dx ≠ x
  ns : h'.Ns1 dx (fun y => if y = f then some v else none)
/-- a made one -/
structure OwnMade (f : Str) (h h' : Heap) (e C d : Addr) (v : Value) : Prop where
  keep : ∀ b o, h.get? b = some o → h'.get? b = some o
  new : h.objs.size ≤ e
  obj : ∃ oe vs, h'.get? e = some oe ∧ oe.cls = .ref C ∧ oe.dict = some d ∧ oe.data = .fields vs ∧ vs[1]? = some .none
  dbig : h.objs.size ≤ d
  dne : d ≠ e
  ns : h'.Ns1 d (fun y => if y = f then some v else none)
theorem one_size (v : Value) : [v].length ≤ sizeLine := by
  rw [sizeLine_eq]
  exact (by decide : 1 ≤ 16777216)
section
variable {prog : Program} {w : World} {A : Around} {E : Value → Shared → Prop} {R : Result → Shared → Prop} {s : Shared} {K : Frag} {mg mb : Str → Option Value} {C : Addr} {cn f : Str}
/-- the bound built-in __init__ is called -/
theorem call_mw {h : Heap} {g : Array GenState} {d : Drawn} {t : Nat} {os : OsState} {u e t0 : Addr} {rest : List Value} {Q : Value → Shared → Prop} {bm : List Value} (X : K.In h) (q : excInitIn K C bm "ValueError.__new__" = true) (FB : ExcBaseFacts "ValueError" "ValueError.__new__" "ValueError.__init__" bm)
    (he : h.get? e = some (excO C t0)) (hu : h.get? u = some (kxs_mw "ValueError.__init__" e)) (hrest : rest.length ≤ sizeLine)
    (hq : ∀ h' t1, (∀ b o, b ≠ e → h.get? b = some o → h'.get? b = some o) → h'.get? e = some (excO C t1) → Q .none ⟨h', g, d, t, os⟩) :
    wpAny (model prog w) A (call (.ref u) rest) Q E ⟨h, g, d, t, os⟩ := by
  obtain ⟨nm, N', qn, bs, bm2, hdct, sn, sub, ab, col, dd, k0, k1, k2, k3, k5, hC, hT⟩ := excInit_of X q
  refine wpAny_call (codeAny_of_tree ?_)
  show wpAny _ A.in1 (callAny (.ref u) ⟨rest, []⟩) _ _ _
  simp only [callAny]
  refine wpAny_bind (wpAny_load hu ?_)
  simp only [kxs_mw, show (Value.type "method-wrapper" == Value.type "method" || Value.type "method-wrapper" == Value.type "builtin_function_or_method" || Value.type "method-wrapper" == Value.type "method-wrapper") = true by decide, if_true]
  refine KFB.if_so (by decide) ?_
  refine wpAny_bind (check_bound_init FB.toExcCallFacts hC he rfl ?_)
  refine wpAny_bind (wpAny_pure (wpAny_pure ?_))
  refine ⟨plainId_quiet FB.init.plain _, codeAny_builtin FB.initEntry ?_⟩
  exact exc_init_tree (cls := .ref C) (t0 := t0) (dv := none) (c2 := .none) (c3 := .none) (b4 := .bool false) he hrest fun h' k e' t' => hq h' _ k e'
theorem sup_init (T : SupTxt prog K mg cn f C) {fI x t0 : Addr} {v : Value} (hfI : findIn K (.ref C) "__init__" = some (some (.ref fI))) (X : K.In s.heap) (hlim : s.heap.NoLimit) (hg : s.heap.Ns mainGlobals mg) (hbl : s.heap.Ns builtinsNs mb) (hb : mb "super" = bootBuiltins "super")
    (hx : s.heap.get? x = some (excO C t0)) (hnx : K.lookup x = none) (hroom : A.depth < recursionLimit)
    (hq : ∀ h' tk dx, InitEnd f s.heap h' x C dx v → R (.ok (.ret .none)) { s with heap := h', toks := tk }) :
    codeAny (model prog w) A (.call (.ref fI) ⟨[.ref x, v], []⟩) R s := by
  obtain ⟨fI', oc, od, doc, pm, an, ct, osl, p1, p2, q, qual, cda, cc, ccl, cl, cdd, cld, ccs, csl, vs, file, tf, e1, hty, ho, hcd, hcda, hvs, hfile, hcc, ⟨pl, hev⟩, hbnd⟩ := T.fn
  rw [hfI] at e1
  injection e1 with e1; injection e1 with e1; injection e1 with e1
  subst e1
  obtain ⟨nm, qn, N, bs, bm, sn, sub, ab, col, dd, k0, k1, k2, k3, k5, hC, hbm⟩ := T.cls
  obtain ⟨bme, hie, FB⟩ := T.ie
  obtain ⟨fl1, fl2, fl3⟩ := T.fld
  obtain ⟨sc1, sc2, sc3⟩ := T.scp
  have hcl : clsIn K C = some { name := nm, bases := bs, mro := .ref C :: bm, ns := N, qualname := qn, hasDict := true, slotNames := sn, subclasses := sub, abstract := ab, collection := col, hasDel := false } := by unfold clsIn; rw [hC] <;> rfl
  refine ks_codeAny_call_defAt (fd := ksFn "__init__" qual (iA f p1 p2) (iB f q) (iS f) .none .none doc pm an (.ref cda) ct cc) (body := iB f q) (binds := [("self", .ref x), (f, v)]) hroom (X _ _ ho) rfl hlim (codeRec_of X hcd) rfl (hbnd _ _ _)
    (by intro y hy; simp [iS] at hy; rcases hy with rfl | rfl | rfl | rfl <;> simp) (by
      intro y hy
      simp at hy
      rcases hy with rfl | rfl
      · rfl
      · exact fl1) (fun h₁ hns k => ?_) rfl rfl rfl
  have X₁ : K.In h₁ := X.keeps k
  have hx₁ := k _ _ hx
  have hself : (fun y => List.lookup y ([(PySem.Str.ofString "self", Value.ref x), (f, v)] : List (Str × Value)).reverse) ("self" : Str) = some (.ref x) := by
    have : (("self" : Str) == f) = false := by simpa using fl2.symm
    simp [List.lookup, this]
  have hfv : (fun y => List.lookup y ([(PySem.Str.ofString "self", Value.ref x), (f, v)] : List (Str × Value)).reverse) f = some v := by
    simp [List.lookup]
  obtain ⟨oD, hD1, hD2⟩ : ∃ oD, h₁.get? C = some oD ∧ oD.data = .cls { name := nm, bases := bs, mro := .ref C :: bm, ns := N, qualname := qn, hasDict := true, slotNames := sn, subclasses := sub, abstract := ab, collection := col, hasDel := false } := ⟨_, X₁ _ _ hC, rfl⟩
  have hmro : mroIn K C (.ref C) = some true := by unfold mroIn; rw [hcl, Option.bind_some, if_neg (by simp)]; simp
  have nxC : x ≠ C := fun e => by rw [e, hC] at hnx; cases hnx
  refine ks_wpAt_execs_cons (ks_wpAt_Expr_any (ks_wpAt_MethodCall (pl := pl) ?_ (hev _)))
  refine ks_wpAt_super_base sc1 sc2 rfl rfl (X₁ _ _ ho) rfl rfl rfl (X₁ _ _ hcda) rfl hvs hfile T.htop ?_
  refine ks_loadName_global rfl sc1 (loadGlobal_builtin (hg.keeps k) T.su (hbl.keeps k) (hb.trans (by rfl)) ⟨rfl, ?_⟩)
  refine wpAny_loadName_free rfl sc2 rfl ⟨_, X₁ _ _ hcc, rfl⟩ ?_
  refine wpAny_loadName_local rfl sc3 hns hself ?_
  refine ks_wpAny_isType_cls hD1 hD2 ⟨rfl, ?_⟩
  refine ks_wpAny_call_super hD1 hD2 hx₁ rfl (fun c e => by cases e) (looks_mroIn X₁ hmro) (fun h2 hso k2 => ?_)
  have X₂ : K.In h2 := X₁.keeps k2
  have hx₂ := k2 _ _ hx₁
  refine kxs_getMethod kxs_ValueError hso (looks_opaque X₂ T.op) (l₀ := .ref C :: bm) ((looks_clsIn X₂ hcl).andThen .now) rfl X₂ (by have := T.al; unfold ks_superIn at this; rw [hcl] at this; exact this)
    (PySem.W.Looks.andThen (a := Value.ref C) (fun A Q E s k q => wpAny_typeOf_ref (k _ _ hx₂) q) (looks_subIn X₂ T.veC)) nxC rfl ?_
  -- the built-in __init__, bound, is called
  have k3 : ∀ b o, h2.get? b = some o → (h2.push (kxs_mw "ValueError.__init__" x)).get? b = some o := fun b o e => Heap.get?_push_of_some _ e
  have hns3 : (h2.push (kxs_mw "ValueError.__init__" x)).Ns s.heap.objs.size (fun y => List.lookup y ([(PySem.Str.ofString "self", Value.ref x), (f, v)] : List (Str × Value)).reverse) := (hns.keeps k2).keeps k3
  have hu3 : (h2.push (kxs_mw "ValueError.__init__" x)).get? h2.objs.size = some (kxs_mw "ValueError.__init__" x) := Heap.get?_push_at rfl rfl
  refine kxs_callWith (i := "ValueError.__init__") (x := x) rfl (evalArgs_plain ?_)
  refine spliced_cons (wpAny_Name (wpAny_loadName_local rfl fl1 hns3 hfv ?_) fl3)
  refine spliced_nil ⟨hu3, ?_⟩
  refine call_mw (X₂.keeps k3) hie FB (k3 _ _ hx₂) hu3 (one_size v) fun h4 t1 k4 hx4 => ?_
  have kk : ∀ b o, b ≠ x → h₁.get? b = some o → h4.get? b = some o := fun b o hb e => k4 b o hb (k3 b o (k2 b o e))
  have X₄ : K.In h4 := fun a o e => kk a o (fun z => by rw [z, hnx] at e; cases e) (X₁ a o e)
  have hxL : s.heap.objs.size ≠ x := Nat.ne_of_gt (Heap.lt_size hx)
  have hns4 : h4.Ns s.heap.objs.size (fun y => List.lookup y ([(PySem.Str.ofString "self", Value.ref x), (f, v)] : List (Str × Value)).reverse) := by
    obtain ⟨oL, es, ep, hL, r⟩ := hns
    exact ⟨oL, es, ep, kk _ _ hxL hL, r⟩
  refine ks_wpAt_execs_cons (ks_wpAt_Assign_Attr ?_)
  refine wpAt_of_wpAny (wpAny_Name (wpAny_loadName_local rfl fl1 hns4 hfv ?_) fl3)
  refine wpAny_Name (wpAny_loadName_local rfl sc3 hns4 hself ?_) (by decide +kernel)
  refine set_plain X₄ (ox := excO C t1) (od := none) ⟨hx4, rfl, rfl, trivial⟩ T.sa ?_
  refine exc_osa X₄ hx4 hcl (show refsVE (.ref C :: bm) = true from hbm) rfl T.noN (fun h₅ tk₅ dx k₅ dn dne hx₅ hn₅ => ?_)
  refine wpAt_of_wpAny (wpAny_execs_nil ?_)
  have sz4 : s.heap.objs.size ≤ h4.objs.size := by
    obtain ⟨oL, es, ep, hL, r⟩ := hns4
    exact Nat.le_of_lt (Heap.lt_size hL)
  exact hq h₅ _ dx ⟨fun b o hb e => k₅ b o hb (kk b o hb (k b o e)), ⟨t1, hx₅⟩, Nat.le_trans sz4 dn, dne, hn₅⟩
theorem sup_made (T : SupTxt prog K mg cn f C) {v : Value} (X : K.In s.heap) (hlim : s.heap.NoLimit) (hg : s.heap.Ns mainGlobals mg) (hbl : s.heap.Ns builtinsNs mb) (hb : mb "super" = bootBuiltins "super") (hroom : A.depth + 1 < recursionLimit)
    (hq : ∀ h' tk e d, OwnMade f s.heap h' e C d v → R (.ok (.ret (.ref e))) { s with heap := h', toks := tk }) :
    codeAny (model prog w) A (.call (.ref C) ⟨[v], []⟩) R s := by
  obtain ⟨nm, q, N, bs, bm, sn, sub, ab, col, dd, k0, k1, k2, k3, k5, hC, hbm⟩ := T.cls
  obtain ⟨fI, oc, od, doc, pm, an, ct, osl, p1, p2, qq, qual, cda, cc, ccl, cl, cdd, cld, ccs, csl, vs, file, tf, hfI, hty, _⟩ := T.fn
  obtain ⟨hp, g, dr, tk, os⟩ := s
  have k : ∀ b o, hp.get? b = some o → ((hp.push (kdv_tup [v])).push (excO C hp.objs.size)).get? b = some o := fun b o e => Heap.get?_push_of_some _ (Heap.get?_push_of_some _ e)
  have hget : ((hp.push (kdv_tup [v])).push (excO C hp.objs.size)).get? (hp.objs.size + 1) = some (excO C hp.objs.size) := by heap_get
  have hnx : K.lookup (hp.objs.size + 1) = none := by
    cases e : K.lookup (hp.objs.size + 1) with
    | none => rfl
    | some o =>
      have z : hp.get? (hp.objs.size + 1) = some o := X _ _ e
      exact absurd (Nat.lt_of_succ_lt (Heap.lt_size z)) (Nat.lt_irrefl _)
  refine call_own F.excBase_ValueError (fun X => refsVE_contains X bm hbm) (X _ _ hC) (looks_findIn X hfI) (fun self => bind_fn X self hty) (one_size v) ?_
  refine sup_init (s := ⟨(hp.push (kdv_tup [v])).push (excO C hp.objs.size), g, dr, tk, os⟩) T hfI (X.keeps k) (hlim.keeps k) (hg.keeps k) (hbl.keeps k) hb hget hnx ?_ fun h' tk' dx ⟨k', ⟨t1, hx⟩, dn, dne, hns⟩ => ?_
  · show A.depth + 1 < recursionLimit
    exact hroom
  · have old : ∀ b o, hp.get? b = some o → h'.get? b = some o := fun b o e => k' b o (Nat.ne_of_lt (Nat.lt_succ_of_lt (Heap.lt_size e))) (k b o e)
    have z : hp.objs.size + 1 + 1 ≤ dx := by
      first
        | (simpa only [Heap.size_push] using dn)
        | exact dn
        | (have q := dn; rw [Heap.size_push, Heap.size_push] at q; exact q)
    exact ⟨rfl, hq h' tk' (hp.objs.size + 1) dx ⟨old, Nat.le_succ _, ⟨_, _, hx, rfl, rfl, rfl, rfl⟩, Nat.le_trans (Nat.le_trans (Nat.le_succ _) (Nat.le_succ _)) z, dne, hns⟩⟩
end
end SupX
end PySem

/-! Z: raise, try .. except X as n: return [..]. -/
namespace L2
open PySem PySem.Spec PyProof.Rows
section
variable {X : Cx} {C : Addr} {cn f : Str}
theorem relO_sup {v : V} {v' : Value} (r : RelV v v') (f g : Str) : RelO (List.lookup g [(f, v)]) (if g = f then some v' else none) := by
  by_cases hw : g = f
  · subst hw
    rw [if_pos rfl]
    have q : List.lookup g [(g, v)] = some v := by simp [List.lookup]
    rw [q]
    exact r
  · rw [if_neg hw]
    have qw : (g == f) = false := by simpa using hw
    have q2 : List.lookup g [(f, v)] = none := by simp [List.lookup, qw]
    rw [q2]
    trivial
/-- C(e) -/
def tMkSup (C : Addr) (f : Str) (ta : TA) : St → Hp → XK → Prop := fun σ H Q => ta σ H fun vs H1 => ∃ v, vs = [v] ∧ ∀ d, H1 d = none → Q (.ref C) (some d) (upd H1 d (.xd [(f, v)]))
theorem pmk_sup {a : Expr} {ta : TA} {p pos : Pos} {k : Nat} (T : PySem.SupX.SupTxt X.prog X.K X.mg cn f C) (hr : Room k X.A) (ha : PA X [a] ta) (hg : Gl X cn) (hdb : (cn == ("__debug__" : Str)) = false := by decide)
    (he : starEach (a :: []) X.env = (false, eval a X.env) :: starEach [] X.env := by rfl) (hpl : (backTo pos (starEach [] X.env)).any (·.1) = false := by rfl) :
    PMk X (.Call (.Name cn p) [a] [] pos) (tMkSup C f ta) := by
  intro pins s σ H Q I h
  refine wpAny_Call_Name_kw (ld_glob I hg T.gC ?_ hdb)
  refine PySem.W.callWith_K (h₀ := X.base) I.ok.mod.kin T.kC (thn (ha.run pos pins s σ H _ I h) fun us s1 hh => ?_) he hpl
  obtain ⟨vs, H1, I1, r1, v, ev, q1⟩ := hh
  subst ev
  refine ⟨I1.kIn, ?_⟩
  cases r1 with
  | cons rv rn =>
    rename_i v' us'
    cases rn
    show wpAny _ _ (call (.ref C) [v']) _ _ _
    have hlim := I1.nolimit
    obtain ⟨mb, hb1, hb2⟩ := I1.mod.blt
    have hgl := I1.mod.glob.keeps I1.bk
    have hbl := hb1.keeps I1.bk
    obtain ⟨hp, g, dr, tk, os⟩ := s1
    refine wpAny_call (PySem.SupX.sup_made T I1.kIn hlim hgl hbl (hb2 _ (by decide)) (by have := hr.dp; omega) fun h' tk' e d M => ?_)
    show MkP X pins σ Q (.ref e) ⟨h', g, dr, tk', os⟩
    obtain ⟨oe, fv, hoe, hc, hd, hdat, h1⟩ := M.obj
    have hns := M.ns
    obtain ⟨G', g1, g2⟩ := restrict h' fun b => decide (b ≠ e)
    have gk : ∀ b, b ≠ e → G'.get? b = h'.get? b := fun b hb => g1 b (decide_eq_true hb)
    have ge : G'.get? e = none := g2 e (by simp)
    have old : ∀ b o, hp.get? b = some o → G'.get? b = some o := fun b o q => (gk b (Nat.ne_of_lt (Nat.lt_of_lt_of_le (Heap.lt_size q) M.new))).trans (M.keep b o q)
    have ob : ObjOk X.prog X.w (upd H1 d (.xd [(f, v)])) G' d (.xd [(f, v)]) :=
      ⟨_, hns.at (fun o q => (gk d M.dne).trans q), fun g => relO_sup rv f g⟩
    have J : Inv X pins σ (upd H1 d (.xd [(f, v)])) ⟨G', g, dr, tk', os⟩ := I1.laid (t' := tk') old M.dbig ob
    refine ⟨e, oe, fv, ⟨G', g, dr, tk', os⟩, _, .ref C, some d, rfl, J, fun b o q => ?_, ge, hoe, ⟨hc, hd⟩, hdat, h1, ?_, rfl, I1.bare, raises_own T.exC T.tyC, q1 d (I1.hok.fresh M.dbig)⟩
    · by_cases hb : b = e
      · have q' : G'.get? b = some o := q
        rw [hb, ge] at q'; cases q'
      · exact (gk b hb).symm.trans q
    · rw [upd_ne (Ne.symm M.dne)]
      exact I1.hok.fresh M.new
/-- C(), C without own __init__ -/
theorem pmk_own0 {bmB : List Value} {B newId initId : String} {p pos : Pos} (F : ExcBaseFacts B newId initId bmB) (q : PySem.W.excIn X.K C bmB newId = true) (gC : X.mg cn = some (.ref C)) (kC : PySem.W.keepIn X.K (.ref C) = true) (r : Raises X (.ref C)) (hg : Gl X cn) (hdb : (cn == ("__debug__" : Str)) = false := by decide) :
    PMk X (.Call (.Name cn p) [] [] pos) (fun _ H Q => Q (.ref C) none H) := by
  intro pins s σ H Q I h
  refine wpAny_Call_Name_kw (ld_glob I hg gC ?_ hdb)
  refine PySem.W.callWith_K0 I.kIn kC ?_
  obtain ⟨bm, N, nm, qn, bs, hdct, sn, sub, ab, col, dd, k0, k1, k2, k3, k5, mN, hC, hN, hni, T⟩ := exc_obj I.kIn q
  refine wpAny_call_exc_subT F T hC hN hni (fun h' e hm => ?_) (by show 0 ≤ sizeLine; exact Nat.zero_le _)
  exact mk_of I hm r h (I.hok.gone hm.new)
/-- n.f in the suite -/
theorem pe_supF {a : Addr} {oe : Obj} {cls : Value} {d : Option Addr} {pn : List (Addr × Obj)} {e : Expr} {te : TE} {pos : Pos} (T : PySem.SupX.SupTxt X.prog X.K X.mg cn f C) (hz : Zc cls d oe) (hf : ∃ vs, oe.data = .fields vs) (he : PE (X.suite a ((a, oe) :: pn)) e te)
    (hb : attributeBase e f X.env (eval e X.env) = eval e X.env := by rfl) :
    PE (X.suite a ((a, oe) :: pn)) (.Attribute e f pos) (fun σ H Q => te σ H fun x H1 => x = .ref a ∧ cls = .ref C ∧ ∃ (dd : Addr) (v : V), d = some dd ∧ H1 dd = some (.xd [(f, v)]) ∧ Q v H1) := by
  refine ⟨fun pins s σ H Q I h => ?_⟩
  refine attr_of hb (thn (he.run pins s σ H _ I h) fun u s1 hh => ?_)
  obtain ⟨x, H1, I1, rx, ex, ec, dd, v, ed, ea, q⟩ := hh
  subst ex
  obtain rfl : u = Value.ref a := rx
  subst ec
  subst ed
  obtain ⟨ha, _⟩ := I1.pin (a, oe) (List.mem_append_left _ List.mem_cons_self)
  obtain ⟨vs, hd⟩ := hf
  have hx : ObjOk X.prog X.w H1 s1.heap dd (.xd [(f, v)]) := I1.hok dd _ ea
  obtain ⟨mA, hns, hr⟩ := hx
  obtain ⟨od, ho, hl⟩ := lookIn_ns hns
  have l : List.lookup f [(f, v)] = some v := by simp [List.lookup]
  obtain ⟨u, hu, ru⟩ := RelO.some_of (v := v) (o := mA f) (by rw [← l]; exact hr f)
  have J : PySem.W.InstAt s1.heap a oe C (some od) := ⟨ha, hz.1, by unfold PySem.W.notCls; rw [hd] <;> rfl, by rw [hz.2]; exact ho⟩
  exact HandSPX.exc_get I1.kIn J T.ga T.gg T.exC (PySem.W.findObj_own T.hdC T.noN rfl (by rw [hl, hu])) (handed_of ru) ⟨v, H1, I1.tok _, ru, q⟩
/-- isinstance(n, c), n the exception that the suite holds -/
theorem call_isE2 {X : Cx} {a D : Addr} {oe : Obj} {d : Option Addr} {pn : List (Addr × Obj)} (C : ExcC X.K D) (hz : Zc (.ref D) d oe) (hf : ∃ vs, oe.data = .fields vs) : CallR (X.suite a ((a, oe) :: pn)) (.builtin "isinstance")
    (fun xs H Q => ∃ (c : V) (cv : Value) (b : Bool), xs = [.ref a, c] ∧ (∀ u, RelV c u → u = cv) ∧ PySem.W.kitOne X.K (.ref D) cv = some b ∧ (∀ dd, d = some dd → ∃ fs, H dd = some (.xd fs)) ∧ Q (.bl b) H) := by
  intro pins s σ H xs us Q I r h
  obtain ⟨c, cv, b, rfl, hcv, e, hxd, q⟩ := h
  cases r with
  | cons rx rr =>
    cases rr with
    | cons rt rr =>
      cases rr
      cases rx
      have ec := hcv _ rt
      subst ec
      obtain ⟨hget, _⟩ := I.pin (a, oe) (List.mem_append.mpr (.inl List.mem_cons_self))
      obtain ⟨vs, hv⟩ := hf
      obtain ⟨od, J⟩ : ∃ od, PySem.W.InstAt s.heap a oe D od := by
        cases d with
        | none =>
          obtain ⟨oc, od, oda, osl⟩ := oe
          obtain ⟨h1, h2⟩ := hz
          dsimp only at h1 h2 hv
          subst h1 h2 hv
          exact ⟨none, hget, rfl, rfl, trivial⟩
        | some dd =>
          obtain ⟨fs, hfs⟩ := hxd dd rfl
          have hx : ObjOk X.prog X.w H s.heap dd (.xd fs) := I.hok dd _ hfs
          obtain ⟨mA, hns, hr⟩ := hx
          obtain ⟨od, ho, hl⟩ := lookIn_ns hns
          exact ⟨some od, hget, hz.1, by unfold PySem.W.notCls; rw [hv] <;> rfl, by rw [hz.2]; exact ho⟩
      have hcl : (PySem.W.clsIn X.K D).isSome = true := by
        obtain ⟨cd, hc, _⟩ := PySem.W.any_some C.hd
        rw [hc]; rfl
      exact PySem.W.kia_one (PySem.W.kitx_exc hcl C.hg C.hk C.hs C.ha C.hn C.ht C.hm) I.kIn J e (fun z => nomatch z) fun tk => ⟨.bl b, H, I.kept (t' := tk) fun _ _ z => z, rfl, q⟩
end
end L2

/-! Z: raise, try .. except X as n: return [..]: the rules. -/
namespace Z
open PySem PySem.Spec PyProof.Rows L2
/-- raise C() -/
def sraise0 (cn : Str) : SC := fun sl M => .exc ⟨cn, none⟩ M
/-- raise C(e) -/
def sraise1 (cn f : Str) (c : ZC) : SC := fun sl M => (c sl M).thn fun d M1 => match d with
  | .p y => .exc ⟨cn, some (f, y)⟩ M1
  | _ => .stuck
/-- what is known of a class without own __init__ -/
structure OwnTxt (K : PySem.W.Frag) (mg : Str → Option Value) (cn : Str) (C : Addr) : Prop where
  gC : mg cn = some (.ref C)
  kC : PySem.W.keepIn K (.ref C) = true
  ex : ∃ bm, PySem.W.excIn K C bm "ValueError.__new__" = true ∧ ExcBaseFacts "ValueError" "ValueError.__new__" "ValueError.__init__" bm
  exC : PySem.W.subIn K (.ref C) (.type "BaseException") = some true
  tyC : PySem.W.typeIn K (.ref C) = some (.type "type")
section
variable {P : Program} {w : World} {K : PySem.W.Frag} {mg : Str → Option Value} {base : Heap} {k : Nat} {N : List Str} {X : Cx} {E : XK} {cn f : Str} {C : Addr} {p pos pos2 : Pos} {a : Expr} {ca : ZC}
theorem ZS.raise0 (B : BX P w K mg base k N X E) (T : OwnTxt K mg cn C) (hg : Gl X cn := by rfl) (hdb : (cn == ("__debug__" : Str)) = false := by decide) : ZS X E (.Raise (some (.Call (.Name cn p) [] [] pos)) none pos2) (sraise0 cn) := by
  obtain ⟨bm, q, F⟩ := T.ex
  have eK := B.hK
  have em := B.hmg
  subst eK em
  refine ⟨_, ps_raise B.zx.calm B.tk (pmk_own0 F q T.gC T.kC (raises_own T.exC T.tyC) hg hdb), fun σ H θ sl M N hs hm h => ?_⟩
  exact h (.ref C) none H θ .refl hm ⟨T.gC, rfl⟩
theorem ZS.raise1 (B : BX P w K mg base k N X E) (T : PySem.SupX.SupTxt P K mg cn f C) (ha : ZE X E a ca) (hg : Gl X cn := by rfl) (hdb : (cn == ("__debug__" : Str)) = false := by decide)
    (hs1 : starEach [a] X.env = (false, eval a X.env) :: starEach [] X.env := by rfl) : ZS X E (.Raise (some (.Call (.Name cn p) [a] [] pos)) none pos2) (sraise1 cn f ca) := by
  obtain ⟨t, pa, qa⟩ := ha
  have eK := B.hK
  have em := B.hmg
  have eP := B.hp
  have hr := B.room
  subst eK em eP
  refine ⟨_, ps_raise B.zx.calm B.tk (pmk_sup T hr (pa_cons pa pa_nil hs1) hg hdb hs1), fun σ H θ sl M N hs hm h => qa σ H θ sl M _ hs hm (PostS.thn h fun d M1 v H1 θ1 g1 m1 r1 h1 => ?_)⟩
  refine ⟨v, rfl, fun dd hd => ?_⟩
  cases d with
  | ref i => exact h1.elim
  | p y =>
    have g2 : Go θ1 θ1 H1 (upd H1 dd (.xd [(f, v)])) := Go.out m1 hd
    exact h1 (.ref C) (some dd) _ θ1 g2 (m1.out hd) ⟨T.gC, dd, v, rfl, upd_same, Fz.keep g2.keep r1⟩
/-! ### handlers -/
/-- an expression of the suite that reads the exception alone -/
def HX (X : Cx) (i : Nat) (C : Addr) (e : Expr) (h : Option (Str × PyData) → Option PyData) : Prop :=
  ∀ (a : Addr) (oe : Obj) (cls : Value) (d : Option Addr) (pn : List (Addr × Obj)), cls = .ref C → Zc cls d oe → (∃ vs, oe.data = .fields vs) → ∃ t, PE (X.suite a ((a, oe) :: pn)) e t ∧
    ∀ σ H (x : Ex) (y : PyData) (Q : VK), ExOk X.K X.mg H x cls d → (∀ dd, d = some dd → ∃ fs, H dd = some (.xd fs)) → σ[i]? = some (some (.ref a)) → h x.arg = some y → (∀ v, Fz X.K H v y → Q v H) → t σ H Q
theorem HX.str {i : Nat} {s : String} {j} : HX X i C (.Constant (.str s) j pos) (fun _ => some (.str s)) := fun a oe cls d pn _ _ _ =>
  ⟨_, pe_str, fun σ H x y Q _ _ _ e q => by cases e; exact q _ (.str _)⟩
theorem HX.non {i : Nat} {j} : HX X i C (.Constant .none j pos) (fun _ => some .none) := fun a oe cls d pn _ _ _ =>
  ⟨_, pe_non, fun σ H x y Q _ _ _ e q => by cases e; exact q _ .non⟩
def harg (f : Str) : Option (Str × PyData) → Option PyData := fun a => match a with
  | some (g, y) => if g = f then some y else none
  | none => none
theorem HX.arg (T : PySem.SupX.SupTxt X.prog X.K X.mg cn f C) (i : Nat) {n : Str} {np : Pos} (hi : X.N[i]? = some n := by rfl) (hv : Vis X.env.scope n := by first | exact Or.inl rfl | exact Or.inr (Or.inl rfl) | exact Or.inr (Or.inr rfl))
    (hd : (n == ("__debug__" : Str)) = false := by decide) (hcd : (n == ("__classdict__" : Str)) = false := by decide) (hb : attributeBase (.Name n np) f X.env (eval (.Name n np) X.env) = eval (.Name n np) X.env := by rfl) : HX X i C (.Attribute (.Name n np) f pos) (harg f) := fun a oe cls d pn hc hz hf => by
  refine ⟨_, pe_supF (te := tVar i) T hz hf (pe_var (X := X.suite a ((a, oe) :: pn)) hi hv hd hcd) hb, fun σ H x y Q ex hxd hs e q => ?_⟩
  refine ⟨_, hs, rfl, hc, ?_⟩
  obtain ⟨_, ex2⟩ := ex
  unfold harg at e
  cases ea : x.arg with
  | none => rw [ea] at e; cases e
  | some gy =>
    obtain ⟨g, y'⟩ := gy
    rw [ea] at e ex2
    simp only at e ex2
    split at e
    · rename_i eg
      cases e
      subst eg
      obtain ⟨dd, v, e1, e2, e3⟩ := ex2
      exact ⟨dd, v, e1, e2, q v e3⟩
    · cases e
theorem HX.isi (T : ExcC X.K C) (i : Nat) {n B : Str} {CB : Addr} {np p1 p2 : Pos} (gB : X.mg B = some (.ref CB)) (kB : PySem.W.kitOne X.K (.ref C) (.ref CB) = some true) (hg : Gl X "isinstance") (hm : X.mg "isinstance" = none) (hgB : Gl X B)
    (hi : X.N[i]? = some n := by rfl) (hv : Vis X.env.scope n := by first | exact Or.inl rfl | exact Or.inr (Or.inl rfl) | exact Or.inr (Or.inr rfl))
    (hd : (n == ("__debug__" : Str)) = false := by decide) (hcd : (n == ("__classdict__" : Str)) = false := by decide) (hdB : (B == ("__debug__" : Str)) = false := by decide) : HX X i C (.Call (.Name "isinstance" p1) [.Name n np, .Name B p2] [] pos) (fun _ => some (.bool true)) := fun a oe cls d pn hc hz hf => by
  subst hc
  have hs1 : starEach [Expr.Name n np, Expr.Name B p2] X.env = (false, eval (.Name n np) X.env) :: starEach [Expr.Name B p2] X.env := by rfl
  have hs2 : starEach [Expr.Name B p2] X.env = (false, eval (.Name B p2) X.env) :: starEach [] X.env := by rfl
  refine ⟨_, pe_callB (X := X.suite a ((a, oe) :: pn)) (call_isE2 T hz hf) hg hm (by decide +kernel) (pa_cons (X := X.suite a ((a, oe) :: pn)) (pe_var (X := X.suite a ((a, oe) :: pn)) hi hv hd hcd) (pa_cons (X := X.suite a ((a, oe) :: pn)) (pe_glob (X := X.suite a ((a, oe) :: pn)) (v := .ref CB) hgB gB rfl hdB) pa_nil hs2) hs1), fun σ H x y Q ex hxd hs e q => ?_⟩
  cases e
  refine ⟨_, hs, ?_⟩
  exact ⟨.ref CB, .ref CB, true, rfl, fun u r => r, kB, hxd, q _ (.bl true)⟩
def HXs (X : Cx) (i : Nat) (C : Addr) (es : List Expr) (h : Option (Str × PyData) → Option (List PyData)) : Prop :=
  ∀ (a : Addr) (oe : Obj) (cls : Value) (d : Option Addr) (pn : List (Addr × Obj)), cls = .ref C → Zc cls d oe → (∃ vs, oe.data = .fields vs) → ∃ t, PA (X.suite a ((a, oe) :: pn)) es t ∧
    ∀ σ H (x : Ex) (ys : List PyData) (Q : List V → Hp → Prop), ExOk X.K X.mg H x cls d → (∀ dd, d = some dd → ∃ fs, H dd = some (.xd fs)) → σ[i]? = some (some (.ref a)) → h x.arg = some ys → (∀ vs, FzAll X.K H vs ys → Q vs H) → t σ H Q
def hcat (f : Option (Str × PyData) → Option PyData) (g : Option (Str × PyData) → Option (List PyData)) : Option (Str × PyData) → Option (List PyData) := fun a => match f a, g a with
  | some y, some ys => some (y :: ys)
  | _, _ => none
theorem HXs.nil {i : Nat} : HXs X i C [] (fun _ => some []) := fun a oe cls d pn _ _ _ =>
  ⟨_, pa_nil, fun σ H x ys Q _ _ _ e q => by cases e; exact q _ .nil⟩
theorem HXs.cons {i : Nat} {es : List Expr} {f : Option (Str × PyData) → Option PyData} {g : Option (Str × PyData) → Option (List PyData)} (h : HX X i C a f) (r : HXs X i C es g) (hs : starEach (a :: es) X.env = (false, eval a X.env) :: starEach es X.env := by rfl) : HXs X i C (a :: es) (hcat f g) := fun ad oe cls d pn hc hz hf => by
  obtain ⟨t, p, q⟩ := h ad oe cls d pn hc hz hf
  obtain ⟨u, pr, qr⟩ := r ad oe cls d pn hc hz hf
  refine ⟨_, pa_cons p pr hs, fun σ H x ys Q ex hxd hsl e k => ?_⟩
  unfold hcat at e
  cases e1 : f x.arg with
  | none => rw [e1] at e; cases e
  | some y =>
    cases e2 : g x.arg with
    | none => rw [e1, e2] at e; cases e
    | some zs =>
      rw [e1, e2] at e
      cases e
      exact q σ H x y _ ex hxd hsl e1 fun v rv => qr σ H x zs _ ex hxd hsl e2 fun vs rvs => k (v :: vs) (.cons rv rvs)
/-- what the suite hands back -/
def HS (X : Cx) (i : Nat) (C : Addr) (sts : List Stmt) (h : Option (Str × PyData) → Option PyData) : Prop :=
  ∀ (a : Addr) (oe : Obj) (cls : Value) (d : Option Addr) (pn : List (Addr × Obj)), cls = .ref C → Zc cls d oe → (∃ vs, oe.data = .fields vs) → ∃ t, PSs (X.suite a ((a, oe) :: pn)) sts t ∧
    ∀ σ H (x : Ex) (y : PyData) (N : Ends) θ M, ExOk X.K X.mg H x cls d → (∀ dd, d = some dd → ∃ fs, H dd = some (.xd fs)) → σ[i]? = some (some (.ref a)) → h x.arg = some y → SR X.K θ H M → (∀ v H' θ', Go θ θ' H H' → SR X.K θ' H' M → Fz X.K H' v y → N.rt v H') → t N σ H
def hlst (g : Option (Str × PyData) → Option (List PyData)) : Option (Str × PyData) → Option PyData := fun a => match g a with
  | some ys => if ys.length ≤ 100 then some (.list ys) else none
  | none => none
theorem HS.retL {i : Nat} {es : List Expr} {g : Option (Str × PyData) → Option (List PyData)} {lp rp : Pos} (h : HXs X i C es g) : HS X i C [.Return (some (.List es lp)) rp] (hlst g) := fun ad oe cls d pn hc hz hf => by
  obtain ⟨t, p, q⟩ := h ad oe cls d pn hc hz hf
  refine ⟨_, pss_one (ps_ret (pe_frz (pe_lst p))), fun σ H x y N θ M ex hxd hsl e hm k => ?_⟩
  unfold hlst at e
  cases e1 : g x.arg with
  | none => rw [e1] at e; cases e
  | some ys =>
    rw [e1] at e
    simp only at e
    split at e
    · rename_i hl
      cases e
      refine q σ H x ys _ ex hxd hsl e1 fun vs r => ⟨by rw [r.length, sizeLine_eq]; omega, fun ad had => ⟨ad, vs, rfl, upd_same, fun o => ?_⟩⟩
      rw [upd_upd]
      exact k (.ref ad) _ θ (Go.out hm had) (hm.out had) (.lst (.inl ⟨o, upd_same⟩) (r.keep (Go.out hm had).keep))
    · cases e
theorem HS.ret {i : Nat} {f : Option (Str × PyData) → Option PyData} {rp : Pos} (h : HX X i C a f) : HS X i C [.Return (some a) rp] f := fun ad oe cls d pn hc hz hf => by
  obtain ⟨t, p, q⟩ := h ad oe cls d pn hc hz hf
  exact ⟨_, pss_one (ps_ret p), fun σ H x y N θ M ex hxd hsl e hm k => q σ H x y _ ex hxd hsl e fun v r => k v H θ .refl hm r⟩
/-! ### try -/
def stry (cb : SC) (x : Str) (h : Option (Str × PyData) → Option PyData) : SC := fun sl M => match cb sl M with
  | .exc e M' => if e.cls = x then (match h e.arg with
    | some y => .rt (.p y) M'
    | none => .stuck) else .stuck
  | o => o
def tZS (K : PySem.W.Frag) (mg : Str → Option Value) (E : XK) (c : SC) : TS := fun N σ H => ∃ θ sl M, SV K θ H σ sl ∧ SR K θ H M ∧ PostS K mg E N θ H (c sl M)
theorem ZB.can {sts : List Stmt} {c : SC} (h : ZB X E sts c) : PSs X sts (tZS X.K X.mg E c) := by
  obtain ⟨t, p, q⟩ := h
  exact ⟨fun pins s σ H N I ⟨θ, sl, M, hs, hm, w⟩ => p.run pins s σ H N I (q σ H θ sl M N hs hm w)⟩
def Eb (X : Cx) (W : WX) : XK := fun cls d H => ∀ σ : L2.St, σ.length = X.N.length → W cls d σ H
theorem BX.tr (B : BX P w K mg base k N X E) {pn : List (Addr × Obj)} {xe : Value → Shared → Prop} {W : WX} (tk : Takes (X.tr pn xe) W) (own : PassesOwn (model X.prog X.w) X.A X.env xe) : BX P w K mg base k N (X.tr pn xe) (Eb X W) := by
  obtain ⟨zx, e1, e2, e3, e4, e5, hr, ps, _⟩ := B
  have tk' : Takes (X.tr pn xe) (fun cls d _ H => Eb X W cls d H) := fun u s' ⟨a, B, sI, pins, σ, H, cls, d, e, I, nb, up, sky, na, os, ag, w⟩ =>
    tk u s' ⟨a, B, sI, pins, σ, H, cls, d, e, I, nb, up, sky, na, os, ag, w σ I.len⟩
  subst e1 e2
  exact ⟨⟨zx.calm, own, zx.nd, zx.hu, zx.gd⟩, rfl, rfl, e3, e4, e5, hr, passes_call tk' fun _ _ _ _ h => h, tk'⟩
theorem ZS.tryAs {x n : Str} {i : Nat} {body : List Stmt} {b₀ : Stmt} {suite : List Stmt} {np pos' : Pos} {cb : SC} {h : Option (Str × PyData) → Option PyData} (B : BX P w K mg base k N X E) (gC : X.mg x = some (.ref C)) (hex : PySem.W.exmOne X.K (.ref C) (.ref C) = some true)
    (hb : ∀ (E' : XK) (pn : List (Addr × Obj)) (xe : Value → Shared → Prop), BX P w K mg base k N (X.tr pn xe) E' → ZB (X.tr pn xe) E' body cb) (hh : HS X i C (b₀ :: suite) h)
    (hs : X.stack = X.env :: X.outer) (hf : X.env.frame = some X.env.locals) (hi : X.N[i]? = some n := by rfl) (hln : X.env.kindOf n = some .local := by rfl) (hg : Gl X x := by rfl) (hdb : (x == ("__debug__" : Str)) = false := by decide) :
    ZS X E (.Try body [.ExceptHandler (some (.Name x np)) (some n) (b₀ :: suite) pos'] [] [] pos) (stry cb x h) := by
  have il := (List.getElem?_eq_some_iff.mp hi).1
  refine ⟨_, ps_try_as (i := i) (c := .ref C) (Wout := fun cls d _ H => E cls d H) (tb := fun W => tZS X.K X.mg (Eb X W) cb)
    (ts := fun a cls d D σ H => ∃ (x : Ex) (y : PyData) (θ : List Addr) (M : Store), cls = .ref C ∧ ExOk X.K X.mg H x cls d ∧ (∀ dd, d = some dd → ∃ fs, H dd = some (.xd fs)) ∧ σ[i]? = some (some (.ref a)) ∧ h x.arg = some y ∧ SR X.K θ H M ∧ ∀ v H' θ', Go θ θ' H H' → SR X.K θ' H' M → Fz X.K H' v y → D.rt v H')
    hs hf B.zx.nd hi hln ⟨hg, hdb, .inl gC⟩ B.tk (fun W pn xe tk own => (hb _ pn xe (B.tr tk own)).can) (fun a oe cls d pn hz hf => ⟨fun pins s σ H D I hq => ?_⟩), fun σ H θ sl M N hsv hm hp => ?_⟩
  · obtain ⟨x, y, θ, M, hc, ex, hxd, hsl, e, m, q⟩ := hq
    obtain ⟨t, p, qq⟩ := hh a oe cls d pn hc hz hf
    exact p.run pins s σ H D I (qq σ H x y D θ M ex hxd hsl e m q)
  · refine ⟨θ, sl, M, hsv, hm, ?_⟩
    unfold stry at hp
    cases ec : cb sl M with
    | stuck => rw [ec] at hp; exact hp
    | nx sl' M' => rw [ec] at hp; exact hp
    | rt d M' => rw [ec] at hp; exact hp
    | exc e M' =>
      rw [ec] at hp
      simp only at hp
      split at hp
      · rename_i ecl
        cases ey : h e.arg with
        | none => rw [ey] at hp; exact hp.elim
        | some y =>
          rw [ey] at hp
          intro cls dd H' θ' g s r σ' hl
          have hc : cls = .ref C := by
            have := r.1
            rw [ecl, gC] at this
            exact (Option.some.inj this).symm
          subst hc
          refine ⟨true, hex, fun _ a ha => ?_, fun z => Bool.noConfusion z⟩
          refine ⟨e, y, θ', M', rfl, r, fun d' ed => ?_, List.getElem?_set_self (by rw [hl]; exact il), ey, s, fun v H'' θ'' g' s' rv => hp v H'' θ'' (g.trans g') s' rv⟩
          obtain ⟨_, r2⟩ := r
          cases ea : e.arg with
          | none => rw [ea] at r2; simp only at r2; rw [r2] at ed; cases ed
          | some fy =>
            obtain ⟨f, y'⟩ := fy
            rw [ea] at r2
            obtain ⟨d2, v2, e2, e3, _⟩ := r2
            rw [e2] at ed
            cases ed
            exact ⟨_, e3⟩
      · exact hp.elim
end
end Z
namespace Z
open PySem PySem.Spec PyProof.Rows L2
section
variable {P : Program} {w : World} {K : PySem.W.Frag} {mg : Str → Option Value} {base : Heap} {k : Nat} {N : List Str} {X : Cx} {E : XK} {C : Addr} {pos : Pos}
/-- try: .. except X: return (a constant) -/
theorem ZS.tryOnly {x : Str} {body : List Stmt} {e : Expr} {v : V} {y : PyData} {np pos' rp : Pos} {cb : SC} (B : BX P w K mg base k N X E) (gC : X.mg x = some (.ref C)) (hex : PySem.W.exmOne X.K (.ref C) (.ref C) = some true)
    (hb : ∀ (E' : XK) (pn : List (Addr × Obj)) (xe : Value → Shared → Prop), BX P w K mg base k N (X.tr pn xe) E' → ZB (X.tr pn xe) E' body cb) (he : ∀ a pn, PE (X.suite a pn) e (tC v)) (hv : ∀ H, Fz X.K H v y)
    (hs : X.stack = X.env :: X.outer) (hf : X.env.frame = some X.env.locals) (hg : Gl X x := by rfl) (hdb : (x == ("__debug__" : Str)) = false := by decide) :
    ZS X E (.Try body [.ExceptHandler (some (.Name x np)) none [.Return (some e) rp] pos'] [] [] pos) (stry cb x (fun _ => some y)) := by
  refine ⟨_, ps_try_only (c := .ref C) (Wout := fun cls d _ H => E cls d H) (tb := fun W => tZS X.K X.mg (Eb X W) cb) (ts := fun a cls d => tRet (tC v))
    hs hf ⟨hg, hdb, .inl gC⟩ B.tk (fun W pn xe tk own => (hb _ pn xe (B.tr tk own)).can) (fun a oe cls d pn hz hf => pss_one (ps_ret (he _ _))), fun σ H θ sl M N hsv hm hp => ?_⟩
  refine ⟨θ, sl, M, hsv, hm, ?_⟩
  unfold stry at hp
  cases ec : cb sl M with
  | stuck => rw [ec] at hp; exact hp
  | nx sl' M' => rw [ec] at hp; exact hp
  | rt d M' => rw [ec] at hp; exact hp
  | exc e M' =>
    rw [ec] at hp
    simp only at hp
    split at hp
    · rename_i ecl
      intro cls dd H' θ' g s r σ' hl
      have hc : cls = .ref C := by
        have := r.1
        rw [ecl, gC] at this
        exact (Option.some.inj this).symm
      subst hc
      exact ⟨true, hex, fun _ a ha => hp v H' θ' g s (hv H'), fun z => Bool.noConfusion z⟩
    · exact hp.elim
end
end Z

/-! What the written part says of own exceptions, from answers that k_is gives. -/
namespace PySem.SupX
open PySem.W PySem.Calls PyProof.Rows PySem.HandSPX
theorem sup_mk {P : Program} {K : Frag} {h : Heap} {mg : Str → Option Value} {cn f qual file : Str} {C L fI cda cc N NL : Addr} {tf : Tok} {p1 p2 : Pos} {qp : Nat → Pos}
    {nm q nmL qL : Str} {bs bsL : List Value} {sn snL : List Str} {sub subL : List Value} {ab abL : Bool} {col colL : Option Bool} {dd ddL : Option Addr} {m0 m1 m2 m3 m5 n0 n1 n2 n3 n5 : Option Value} {hdL : Bool}
    {oc doc pm ct ccl cl : Value} {od an cdd cld : Option Addr} {osl ccs csl : Array (Option Value)} {vs : Array Value} (X : K.In h) (G : h.Ns mainGlobals mg)
    (aC : nsIn K mainGlobals cn = some (some (.ref C)))
    (xC : K.lookup C = some (excClassObj nm q C N bs [.ref L, .type "ValueError", .type "Exception", .type "BaseException", .type "object"] true sn sub ab col dd m0 m1 m2 m3 m5 "ValueError.__new__"))
    (sa : findIn K (.ref C) "__setattr__" = some (some (.builtin "object.__setattr__"))) (ga : findIn K (.ref C) "__getattribute__" = some (some (.builtin "BaseException.__getattribute__"))) (gg : findIn K (.ref C) "__getattr__" = some none) (nb : findIn K (.ref C) f = some none)
    (kC : keepIn K (.ref C) = true) (exC : subIn K (.ref C) (.type "BaseException") = some true) (tC : typeIn K (.ref C) = some (.type "type")) (hC : hasDictIn K C = true) (veC : subIn K (.ref C) (.type "ValueError") = some true)
    (op : nsIn K cStatics "thirdparty.any" = some none) (su : nsIn K mainGlobals "super" = some none)
    (xL : K.lookup L = some (excClassObj nmL qL L NL bsL [.type "ValueError", .type "Exception", .type "BaseException", .type "object"] hdL snL subL abL colL ddL n0 n1 n2 n3 n5 "ValueError.__new__"))
    (iL : findIn K (.ref L) "__init__" = some (some (.builtin "ValueError.__init__"))) (hCL : (Value.ref C != Value.ref C) = false)
    (i1 : findIn K (.ref C) "__init__" = some (some (.ref fI))) (t1 : typeIn K (.ref fI) = some (.type "function"))
    (l1 : K.lookup fI = some ⟨oc, od, .func (ksFn "__init__" qual (iA f p1 p2) (iB f qp) (iS f) .none .none doc pm an (.ref cda) ct cc), osl⟩) (c1 : codeIn K (.ref cda) qual = true)
    (l2 : K.lookup cda = some ⟨ccl, cdd, .fields vs, ccs⟩) (v2 : vs[2]? = some (.str file tf)) (hf : ((P.main.file : Str) == file) = true) (l3 : K.lookup cc = some ⟨cl, cld, .cell (some (.ref C)), csl⟩)
    (htop : (P.main.scope.names.lookup ("super" : Str)).isSome = false)
    (fld : (iS f).names.lookup f = some .local ∧ f ≠ "self" ∧ (f == ("__debug__" : Str)) = false)
    (scp : (iS f).names.lookup ("super" : Str) = some .globalImplicit ∧ (iS f).names.lookup ("__class__" : Str) = some .free ∧ (iS f).names.lookup ("self" : Str) = some .local)
    (ev : ∃ pl : Sem Bool, ∀ env : Env, eval (.Call (.Attribute (.Call (.Name "super" (qp 0)) [] [] (qp 1)) "__init__" (qp 2)) [.Name f (qp 3)] [] (qp 4)) env = (do
      let ov ← attributeBase (.Call (.Name "super" (qp 0)) [] [] (qp 1)) "__init__" env (eval (.Call (.Name "super" (qp 0)) [] [] (qp 1)) env)
      standAt (qp 2).atName
      let (g, first) ← holding [ov] (getMethod ov "__init__" pl)
      callWith (qp 4) g first (backTo (qp 4) (starEach [.Name f (qp 3)] env)) [])) 
    (bnd : ∀ s x v, BindsTo s (ksFn "__init__" qual (iA f p1 p2) (iB f qp) (iS f) .none .none doc pm an (.ref cda) ct cc) ⟨[x, v], []⟩ [("self", x), (f, v)]) : SupTxt P K mg cn f C where
  gC := mg_of X G aC
  cls := ⟨nm, q, N, bs, _, sn, sub, ab, col, dd, m0, m1, m2, m3, m5, xC, (show refsVE [.type "ValueError", .type "Exception", .type "BaseException", .type "object"] = true by decide +kernel)⟩
  sa := sa
  ga := ga
  gg := gg
  noN := nb
  kC := kC
  exC := exC
  tyC := tC
  hdC := hC
  veC := veC
  op := op
  su := mg_none_of X G su
  al := by
    have hcl : clsIn K C = some { name := nm, bases := bs, mro := .ref C :: [.ref L, .type "ValueError", .type "Exception", .type "BaseException", .type "object"], ns := N, qualname := q, hasDict := true, slotNames := sn, subclasses := sub, abstract := ab, collection := col, hasDel := false } := by unfold clsIn; rw [xC] <;> rfl
    have hfl : findIn K (.ref L) "__init__" = alongIn K "__init__" [.ref L, .type "ValueError", .type "Exception", .type "BaseException", .type "object"] := by
      have e : findIn K (.ref L) "__init__" = (match K.lookup L with | some ⟨_, _, .cls cd, _⟩ => alongIn K "__init__" cd.mro | _ => none) := rfl
      rw [e, xL] <;> rfl
    unfold ks_superIn
    rw [hcl, Option.bind_some]
    show alongIn K "__init__" ((List.dropWhile (· != Value.ref C) (Value.ref C :: _)).drop 1) = _
    rw [List.dropWhile_cons, if_neg (by rw [hCL]; simp), List.drop_one, List.tail_cons, ← hfl, iL]
  ie := by
    refine ⟨[.type "ValueError", .type "Exception", .type "BaseException", .type "object"], ?_, F.excBase_ValueError⟩
    unfold excInitIn
    rw [xC]
    have e : excTail [.type "ValueError", .type "Exception", .type "BaseException", .type "object"] [.ref L, .type "ValueError", .type "Exception", .type "BaseException", .type "object"] = true := by
      unfold excTail
      simp only [excTail]
      decide +kernel
    show ((C == C) && ("ValueError.__new__" == "ValueError.__new__") && !false && excTail _ _) = true
    rw [e]
    simp
  htop := htop
  fld := fld
  scp := scp
  fn := ⟨fI, oc, od, doc, pm, an, ct, osl, p1, p2, qp, qual, cda, cc, ccl, cl, cdd, cld, ccs, csl, vs, file, tf, i1, t1, l1, c1, l2, v2, hf, l3, ev, bnd⟩
end PySem.SupX
namespace Z
open PySem PySem.Spec PyProof.Rows L2 PySem.W
theorem own_mk {K : Frag} {h : Heap} {mg : Str → Option Value} {cn : Str} {C : Addr} (X : K.In h) (G : h.Ns mainGlobals mg) (aC : nsIn K mainGlobals cn = some (some (.ref C))) (kC : keepIn K (.ref C) = true)
    (ex : excIn K C [.type "ValueError", .type "Exception", .type "BaseException", .type "object"] "ValueError.__new__" = true) (exC : subIn K (.ref C) (.type "BaseException") = some true) (tC : typeIn K (.ref C) = some (.type "type")) : OwnTxt K mg cn C :=
  ⟨mg_of X G aC, kC, ⟨_, ex, F.excBase_ValueError⟩, exC, tC⟩
theorem kit_one {K : Frag} {C L : Addr} (hL : hasDictIn K L = true) (tL : typeIn K (.ref L) = some (.type "type")) (s : subIn K (.ref C) (.ref L) = some true) : kitOne K (.ref C) (.ref L) = some true := by
  unfold kitOne
  split
  · rfl
  · obtain ⟨cd, hc, _⟩ := any_some hL
    show (if ((clsIn K L).isSome && typeIn K (.ref L) == some (.type "type")) = true then subIn K (.ref C) (.ref L) else none) = some true
    have e : ((clsIn K L).isSome && typeIn K (.ref L) == some (.type "type")) = true := by rw [hc, tL] <;> rfl
    rw [if_pos e]
    exact s
end Z

/-! min(t, key=len), t a tuple of tuples. -/
namespace L2
open PySem PySem.Spec PyProof.Rows
/-- the place of the first least one -/
def leastAt (ns : List Nat) : Nat := argBest (fun i j => decide (((ns.getD i 0 : Nat) : Int) < ((ns.getD j 0 : Nat) : Int))) (ns.length - 1)
section
variable {X : Cx} {e : Expr} {t : TA} {x : Str} {p p2 kp pos : Pos} {xe : Value → Shared → Prop}
theorem min_len_call {pins : List (Addr × Obj)} {s : Shared} {σ : St} {H : Hp} {a : Addr} {vs : List V} {ns : List Nat} {Q : VK} (hc : X.calm = true) (I : Inv X pins σ H s) (ha : SqT X.K H a vs) (hn : 0 < vs.length) (hl : ns.length = vs.length)
    (hi : ∀ (i : Nat) (v : V), vs[i]? = some v → ∃ (b : Addr) (ws : List V), v = .ref b ∧ SqT X.K H b ws ∧ ns[i]? = some ws.length) (q : ∀ v : V, vs[leastAt ns]? = some v → Q v H) :
    wpAny (model X.prog X.w) X.A (call (.builtin "min") [.ref a] [(Str.ofString "key", .builtin "len")]) (EP X pins σ Q) X.xe s := by
  obtain ⟨its, r, pl, hz⟩ := I.tuple ha
  have hle := r.length
  have hax : ∃ o, s.heap.get? a = some o := by obtain ⟨o, ho, _⟩ := pl; exact ⟨o, ho⟩
  obtain ⟨oa, hoa⟩ := hax
  have hlt : a < s.heap.objs.size := Heap.lt_size hoa
  refine call_min_walkKB (wpAny_pyIter_tuple pl ?_)
  have hsz : (s.heap.push { cls := .type "tuple_iterator", data := .fields #[.ref a, .int 0 0] }).objs.size = s.heap.objs.size + 1 := Heap.size_push ..
  have hs63 := line63
  have hsl : sizeLine = 16777216 := sizeLine_eq
  let J : Shared → Prop := fun s' => ∃ h' tk, s' = { s with heap := h', toks := tk } ∧ ∀ b o, s.heap.get? b = some o → h'.get? b = some o
  let W : Nat → Value → Shared → Prop := fun i k _ => ∃ t, k = .int ((ns.getD i 0 : Nat) : Int) t
  refine ⟨s.heap.objs.size, [s.heap.objs.size, a], [s.heap.objs.size], fun a b => b = a, its.toArray.size, _, _, J, W, fun i j => decide (((ns.getD i 0 : Nat) : Int) < ((ns.getD j 0 : Nat) : Int)), rfl,
    (Walks.tuple (A := X.A.in1) (I.ok.hd hc) s.heap.objs.size a (Nat.ne_of_lt hlt) its.toArray).toS, ⟨⟨_, Heap.get?_push_size _ rfl, rfl, rfl⟩, pl.push _⟩, fun b hb => ?_, by rw [List.size_toArray, ← hle]; exact hn, ?_, ⟨_, s.toks, rfl, fun b o ho => Heap.get?_push_of_some _ ho⟩, fun v s' hP hJ => ?_⟩
  · show b < (s.heap.push _).objs.size
    rw [hsz]
    rcases List.mem_cons.mp hb with rfl | hb
    · exact Nat.lt_succ_self _
    · rw [List.mem_singleton.mp hb]; exact Nat.lt_succ_of_lt hlt
  · refine ⟨fun s1 s2 ⟨h', tk, e1, k1⟩ m => ?_, fun i k s1 s2 hv _ => hv, fun i v s1 o Q' E' hi' hv hJ hst hS hQ => ?_, fun i j ki kj s1 Q' E' hJ ⟨t1, hk1⟩ ⟨t2, hk2⟩ hQ => ?_⟩
    · obtain ⟨hh, gg, dd, oo, tt⟩ := m
      refine ⟨s2.heap, s2.toks, ?_, fun b o ho => ?_⟩
      · subst e1
        obtain ⟨h2, g2, d2, t2, o2⟩ := s2
        simp only at gg dd oo
        subst gg dd oo
        rfl
      · refine hh b o (fun hm => ?_) (by subst e1; exact k1 b o ho)
        have hb := Heap.lt_size ho
        rcases List.mem_cons.mp hm with e | hm
        · have e2 : b = s.heap.objs.size + 1 := by rw [e]; exact hsz
          rw [e2] at hb; exact absurd hb (Nat.not_lt.mpr (Nat.le_succ _))
        · have e2 : b = s.heap.objs.size := List.mem_singleton.mp hm
          rw [e2] at hb; exact absurd hb (Nat.lt_irrefl _)
    · have hv' : its[i]? = some v := by simpa using hv
      have hiv : i < vs.length := by rw [hle]; exact (List.getElem?_eq_some_iff.mp hv').1
      obtain ⟨u, hu, hr⟩ := r.get (List.getElem?_eq_getElem hiv)
      rw [hv'] at hu
      cases hu
      obtain ⟨b, ws, hb, hq, hns⟩ := hi i _ (List.getElem?_eq_getElem hiv)
      rw [hb] at hr
      have hr' : v = .ref b := hr
      subst hr'
      obtain ⟨its2, r2, pl2, hz2⟩ := I.tuple hq
      obtain ⟨h', tk, e1, k1⟩ := hJ
      have hl2 := r2.length
      have pl3 : IsTup s1.heap b its2.toArray := by
        subst e1
        obtain ⟨o, ho, q⟩ := pl2
        exact ⟨o, k1 b o ho, q⟩
      refine len_tuple pl3 (by rw [List.size_toArray, ← hl2]; omega) ?_
      refine hQ _ _ ⟨h', _, by rw [e1], k1⟩ ?_ hS ⟨_, by rw [List.size_toArray, ← hl2, List.getD_eq_getElem?_getD, hns]; rfl⟩ fun j k' h => h
      exact hst
    · subst hk1 hk2
      exact CmpOf.ints_lt (prog := X.prog) (w := X.w) (A := X.A.in1) (P := fun i v => ∃ t, v = .int ((ns.getD i 0 : Nat) : Int) t) (fun i => ((ns.getD i 0 : Nat) : Int)) (fun i v h => h) i j _ _ _ _ _ ⟨t1, rfl⟩ ⟨t2, rfl⟩ hQ
  · obtain ⟨h', tk, e1, k1⟩ := hJ
    subst e1
    have e2 : its.toArray.size - 1 = ns.length - 1 := by rw [List.size_toArray, ← hle, hl]
    rw [e2] at hP
    have hv' : its[leastAt ns]? = some v := by simpa [leastAt] using hP
    have hiv : leastAt ns < vs.length := by rw [hle]; exact (List.getElem?_eq_some_iff.mp hv').1
    obtain ⟨u, hu, hr⟩ := r.get (List.getElem?_eq_getElem hiv)
    rw [hv'] at hu
    cases hu
    exact ⟨_, H, I.kept k1, hr, q _ (List.getElem?_eq_getElem hiv)⟩
def tMinLen (K : PySem.W.Frag) (t : TA) : TE := fun σ H Q => t σ H fun us H1 => ∃ (a : Addr) (vs : List V) (ns : List Nat), us = [.ref a] ∧ SqT K H1 a vs ∧ 0 < vs.length ∧ ns.length = vs.length ∧
  (∀ (i : Nat) (v : V), vs[i]? = some v → ∃ (b : Addr) (ws : List V), v = .ref b ∧ SqT K H1 b ws ∧ ns[i]? = some ws.length) ∧ ∀ v : V, vs[leastAt ns]? = some v → Q v H1
theorem pe_minLen (hc : X.calm = true) (hg : Gl X "min") (hm : X.mg "min" = none) (hgl : Gl X "len") (hml : X.mg "len" = none) (ha : PA X [e] t)
    (he : backTo pos (starEach [e] X.env) = (false, eval e X.env) :: backTo pos (starEach [] X.env) := by rfl) (hpl : (backTo pos (starEach [e] X.env)).any (·.1) = false := by rfl) :
    PE X (.Call (.Name "min" p) [e] [⟨some "key", .Name "len" p2, kp⟩] pos) (tMinLen X.K t) := by
  refine ⟨fun pins s σ H Q I h => ?_⟩
  refine wpAny_Call_Name_kw (ld_blt (u := .builtin "min") I hg hm (by decide +kernel) ?_)
  refine PyProof.Rows.callWith_kw (thn (ha.run pos pins s σ H _ I h) fun us s1 ⟨vs, H1, I1, r1, q1⟩ => ?_) he hpl
  obtain ⟨a, ws, ns, rfl, h1, h2, h3, h4, h5⟩ := q1
  show wpAny _ _ (evalAll ((do let v ← eval (.Name "len" p2) X.env; standAt pos; pure v) :: (backToKw pos (keywordEach [] X.env)).map (·.2))) _ _ s1
  refine wpAny_evalAll_cons (wpAny_bind (ld_blt (u := .builtin "len") I1 hgl hml (by decide +kernel) (wpAny_bind (wpAny_standAt (wpAny_pure ?_)))))
  refine wpAny_evalAll_nil ?_
  obtain rfl := Vals.ref1 r1
  show wpAny _ _ (call (.builtin "min") [.ref a] [(Str.ofString "key", .builtin "len")]) _ _ s1
  exact min_len_call hc I1 h1 h2 h3 h4 h5
end
end L2
namespace Z
open PySem PySem.Spec PyProof.Rows L2
def tupLens : List PyData → Option (List Nat)
  | [] => some []
  | .tuple ys :: r => match tupLens r with
    | some ns => some (ys.length :: ns)
    | none => none
  | _ => none
@[simp] theorem tupLens_map : ∀ xs : List (List PyData), tupLens (xs.map .tuple) = some (xs.map List.length)
  | [] => rfl
  | x :: r => by rw [List.map_cons, tupLens, tupLens_map r]; rfl
/-- min(ys, key=len) -/
def zMinLen (c : ZC) : ZC := fun sl M => (c sl M).bind fun d M1 => match d with
  | .p (.tuple xs) => match tupLens xs with
    | some ns => match xs[leastAt ns]? with
      | some y => .ok (.p y) M1
      | none => .stuck
    | none => .stuck
  | _ => .stuck
theorem tupLens_ok {K : PySem.W.Frag} {H : Hp} : ∀ {xs : List PyData} {vs : List V} {ns : List Nat}, FzAll K H vs xs → tupLens xs = some ns → ns.length = vs.length ∧ ∀ (i : Nat) (v : V), vs[i]? = some v → ∃ (b : Addr) (ws : List V), v = .ref b ∧ SqT K H b ws ∧ ns[i]? = some ws.length
  | _, _, _, .nil, e => by
    cases e
    exact ⟨rfl, fun i v h => by simp at h⟩
  | _, _, ns, .cons (v := v) (vs := vs) (d := d) (ds := ds) r rs, e => by
    cases d with
    | tuple ys =>
      unfold tupLens at e
      cases e1 : tupLens ds with
      | none => rw [e1] at e; cases e
      | some ms =>
        rw [e1] at e
        cases e
        obtain ⟨h1, h2⟩ := tupLens_ok rs e1
        refine ⟨by simp [h1], fun i u hu => ?_⟩
        cases i with
        | zero =>
          simp at hu
          subst hu
          cases r with
          | tup k1 k2 => exact ⟨_, _, rfl, k1, by simp [k2.length]⟩
        | succ i =>
          simp at hu
          obtain ⟨b, ws, h3, h4, h5⟩ := h2 i u hu
          exact ⟨b, ws, h3, h4, by simpa using h5⟩
    | _ => cases e
theorem FzAll.at {K : PySem.W.Frag} {H : Hp} : ∀ {xs : List PyData} {vs : List V} {i : Nat} {y : PyData}, FzAll K H vs xs → xs[i]? = some y → ∃ v, vs[i]? = some v ∧ Fz K H v y
  | _, _, i, _, .nil, e => by simp at e
  | _, _, 0, _, .cons r _, e => by simp at e; subst e; exact ⟨_, rfl, r⟩
  | _, _, i + 1, _, .cons _ rs, e => by
    obtain ⟨v, h1, h2⟩ := FzAll.at (i := i) rs (by simpa using e)
    exact ⟨v, by simpa using h1, h2⟩
section
variable {X : Cx} {E : XK} {a : Expr} {ca : ZC} {p p2 kp pos : Pos}
theorem ZE.minLen (zx : ZX X) (hg : Gl X "min") (hm : X.mg "min" = none) (hgl : Gl X "len") (hml : X.mg "len" = none) (ha : ZE X E a ca)
    (hs : starEach [a] X.env = (false, eval a X.env) :: starEach [] X.env := by rfl)
    (he : backTo pos (starEach [a] X.env) = (false, eval a X.env) :: backTo pos (starEach [] X.env) := by rfl) (hpl : (backTo pos (starEach [a] X.env)).any (·.1) = false := by rfl) :
    ZE X E (.Call (.Name "min" p) [a] [⟨some "key", .Name "len" p2, kp⟩] pos) (zMinLen ca) := by
  obtain ⟨t, pa, q⟩ := ha
  refine ⟨_, pe_minLen zx.calm hg hm hgl hml (pa_cons pa pa_nil hs) he hpl, fun σ H θ sl M Q hs hm h => q σ H θ sl M _ hs hm (Post.bind h fun d M1 v H1 θ1 g1 m1 r1 h1 => ?_)⟩
  cases d with
  | ref i => exact h1.elim
  | p y =>
    cases y with
    | tuple xs =>
      simp only at h1
      cases e1 : tupLens xs with
      | none => rw [e1] at h1; exact h1.elim
      | some ns =>
        rw [e1] at h1
        simp only at h1
        cases e2 : xs[leastAt ns]? with
        | none => rw [e2] at h1; exact h1.elim
        | some z =>
          rw [e2] at h1
          simp only at h1
          have r1' : Fz X.K H1 v (.tuple xs) := r1
          cases r1' with
          | tup k1 k2 =>
            rename_i a vs
            obtain ⟨h3, h4⟩ := tupLens_ok k2 e1
            obtain ⟨v, hv1, hv2⟩ := k2.at e2
            refine ⟨a, vs, ns, rfl, k1, ?_, h3, h4, fun u hu => ?_⟩
            · have := (List.getElem?_eq_some_iff.mp hv1).1
              omega
            · rw [hv1] at hu
              cases hu
              exact Post.here h1 m1 hv2
    | _ => exact h1.elim
end
end Z

/-! min(x), x a list of tuples. -/
namespace Z
open PySem PySem.Spec PyProof.Rows L2
def pminT (ys : List P) : Prop := PySem.W.AlikeAll ys ∧ ∀ x ∈ ys, x.depth ≤ 60
open Classical in
noncomputable def zMinT (ds : List D) (M : Store) : Out D := match ds with
  | [.p (.list (y :: ys))] => if pminT (y :: ys) then .ok (.p (PySem.W.minD y ys)) M else .stuck
  | _ => .stuck
theorem depthAll_le : ∀ {ys : List P} {n : Nat}, (∀ x ∈ ys, x.depth ≤ n) → PyData.depthAll ys ≤ n
  | [], _, _ => Nat.zero_le _
  | y :: ys, n, h => by
    rw [PyData.depthAll]
    exact Nat.max_le.mpr ⟨h y List.mem_cons_self, depthAll_le fun x hx => h x (List.mem_cons_of_mem _ hx)⟩
theorem minD_mem (y : P) (ys : List P) : PySem.W.minD y ys ∈ y :: ys := by
  unfold PySem.W.minD
  induction ys generalizing y with
  | nil => exact List.mem_cons_self
  | cons z zs ih =>
    rw [List.foldl_cons]
    rcases List.mem_cons.mp (ih (if PySem.W.dataLt z y then z else y)) with e | e
    · rw [e]
      split
      · exact List.mem_cons_of_mem _ List.mem_cons_self
      · exact List.mem_cons_self
    · exact List.mem_cons_of_mem _ (List.mem_cons_of_mem _ e)
section
variable {X : Cx} {E : XK}
theorem zMinT_ok (zx : ZX X) : CallR X (.builtin "min") (rZs X E zMinT) := by
  intro pins s σ H xs us Q I r h
  obtain ⟨ds, θ, M, m, rs, h⟩ := h
  unfold zMinT at h
  split at h
  · rename_i y ys
    split at h
    · rename_i c
      cases rs with
      | cons r1 rr =>
        cases rr
        have r1' : Fz X.K H _ (.list (y :: ys)) := r1
        cases r1' with
        | lst hp fz =>
          rename_i ad vs
          obtain ⟨u, rfl, ru⟩ := r.one
          cases ru
          have hu := zx.hu
          obtain ⟨its, rv, pl, hz⟩ := I.list (show SqL X.K H ad vs from hp.sq)
          have ei := eachIs_of (h := s.heap) rv fz
          have al : PySem.W.AllAlike (y :: ys) := fun d hd d' hd' => c.1.1 d hd d' hd'
          have er := eachReads (h := s.heap) (fun v u x cc r z => Dp.reads I x v u (z.dp cc) r) (all_noDict al) ei
          obtain ⟨as, ra⟩ := PySem.W.each_readsAll id er
          rw [List.map_id] at ra
          have hd := depthAll_le c.2
          refine PySem.W.min_list_data (x := y) (xs := ys) (I.ok.hd zx.calm) pl.isList (by simpa using ra) c.1 (by omega) fun i v h' tk bs hi hr hk => ?_
          have I1 : Inv X pins σ H { s with heap := h', toks := tk } := I.kept hk
          have hi' : its[i]? = some v := by simpa using hi
          have hil : i < vs.length := by rw [rv.length]; exact (List.getElem?_eq_some_iff.mp hi').1
          obtain ⟨u, hu2, hr2⟩ := rv.get (List.getElem?_eq_getElem hil)
          rw [hi'] at hu2
          cases hu2
          have hyl : i < (y :: ys).length := by rw [← fz.length]; exact hil
          obtain ⟨v2, hv2, fv⟩ := fz.at (List.getElem?_eq_getElem hyl)
          rw [List.getElem?_eq_getElem hil] at hv2
          cases hv2
          have hmem : (y :: ys)[i] ∈ y :: ys := List.getElem_mem hyl
          have cc : (y :: ys)[i].hasDict = false := all_noDict al _ hmem
          obtain ⟨as2, ra2⟩ := Dp.reads I1 _ _ v (fv.dp cc) hr2
          have e := PySem.W.alike_unique _ _ v as2 bs (al _ hmem _ (minD_mem y ys)) ra2 hr
          rw [e] at fv
          exact ⟨vs[i], H, I1, hr2, Post.here h m fv⟩
    · exact h.elim
  · exact h.elim
end
end Z
namespace Z
open PySem PySem.Spec PyProof.Rows L2
/-- min(t), t a tuple of ints -/
def zMinU (ds : List D) (M : Store) : Out D := match ds with
  | [.p (.tuple xs)] => match intsOf (xs.map .p) with
    | some (n :: ns) => .ok (.p (.int (ns.foldl min n))) M
    | _ => .stuck
  | _ => .stuck
theorem minOf_int (n : Int) : ∀ ns : List Int, PySem.W.minOf n ns = ns.foldl min n := by
  intro ns
  unfold PySem.W.minOf
  induction ns generalizing n with
  | nil => rfl
  | cons m ns ih =>
    rw [List.foldl_cons, List.foldl_cons, ih]
    congr 1
    show (if decide (m < n) = true then m else n) = min n m
    by_cases h : m < n
    · rw [if_pos (by simpa using h)]; omega
    · rw [if_neg (by simpa using h)]; omega
section
variable {X : Cx} {E : XK}
theorem cr_minT (hc : X.calm = true) (hu : X.A.units + 100 < cLine) {pins : List (Addr × Obj)} {s : Shared} {σ : L2.St} {H : Hp} {a : Addr} {n : Int} {ns : List Int} {us : List Value} {Q : VK} (I : Inv X pins σ H s) (r : Vals [.ref a] us) (hs : SqT X.K H a ((n :: ns).map V.int))
    (q : Q (.int (ns.foldl min n)) H) : wpAny (model X.prog X.w) X.A (call (.builtin "min") us) (EP X pins σ Q) X.xe s := by
  obtain ⟨its, rv, ⟨o, ho, hcl, nn, hd⟩, _⟩ := I.tuple hs
  rw [Vals.ref1 r]
  refine PySem.W.min_tuple_datum (x := n) (xs := ns) (I.ok.hd hc) ⟨o, ho, hcl, nn, hd⟩ (by simpa using holdAll_ints rv) (by show X.A.units + 1 + 0 < cLine; omega) fun i v h' tk hi hh hk => ?_
  rw [minOf_int] at hh
  obtain ⟨as, hr⟩ := hh
  cases hr
  exact ⟨.int _, H, I.kept hk, ⟨_, rfl⟩, q⟩
theorem zMinU_ok (zx : ZX X) : CallR X (.builtin "min") (rZs X E zMinU) := by
  intro pins s σ H xs us Q I r h
  obtain ⟨ds, θ, M, m, rs, h⟩ := h
  unfold zMinU at h
  split at h
  · split at h
    · rename_i n ns e2
      cases rs with
      | cons r1 rr =>
        cases rr
        cases r1 with
        | tup k1 k2 =>
          have dp := k2.drs (θ := θ)
          rw [intsOf_eq e2] at dp
          have ev := drs_ints dp
          subst ev
          exact cr_minT zx.calm zx.hu I r k1 (Post.here h m (Fz.int _))
    · exact h.elim
  · exact h.elim
end
end Z

namespace ZL
open PySem PySem.Spec PyProof.Rows L2 Z
def topS (i : Nat) : Stmt := PySem.Challenge.pw_longernearer_k52_whole_long_jumps_that_s.main.body.getD i (.Pass ⟨0, 0, 0, 0⟩)
abbrev s_jumps_of : Stmt := topS 5
abbrev N_jumps_of : List Str := ["skeleton", "place", "item"]
abbrev s_bytes_at : Stmt := topS 7
abbrev N_bytes_at : List Str := ["item", "place", "is_long"]
abbrev s_in_way : Stmt := topS 9
abbrev N_in_way : List Str := ["skeleton", "jump", "goal"]
abbrev s_ahead_of_way : Stmt := topS 10
abbrev N_ahead_of_way : List Str := ["skeleton", "jump"]
abbrev s_way_between : Stmt := topS 11
abbrev N_way_between : List Str := ["skeleton", "spots", "jump", "goal"]
abbrev s_is_within : Stmt := topS 17
abbrev N_is_within : List Str := ["choice", "other", "jump"]
abbrev s_growth : Stmt := topS 21
abbrev N_growth : List Str := ["item"]
abbrev s_is_kept_away : Stmt := topS 22
abbrev N_is_kept_away : List Str := ["skeleton", "other", "fill", "between", "item"]
abbrev s_step_of : Stmt := topS 27
abbrev N_step_of : List Str := ["skeleton", "item"]
abbrev s_holds_length : Stmt := topS 28
abbrev N_holds_length : List Str := ["skeleton", "jump", "place", "goal"]
abbrev s_lengthened : Stmt := topS 30
abbrev N_lengthened : List Str := ["lengths", "place", "more"]
abbrev s__law_loom : Stmt := topS 34
abbrev N__law_loom : List Str := ["script", "cells", "stirred", "cell"]
abbrev s__law_draw : Stmt := topS 35
abbrev N__law_draw : List Str := ["loom", "many", "cell", "one"]
abbrev s__law_jumps : Stmt := topS 39
abbrev N__law_jumps : List Str := ["frame", "at", "item"]
abbrev s__law_top : Stmt := topS 40
abbrev N__law_top : List Str := ["frame", "item"]
abbrev s__law_laid : Stmt := topS 41
abbrev N__law_laid : List Str := ["frame", "gaps", "longs", "here", "found", "at", "item", "begin"]
abbrev s__law_longer : Stmt := topS 51
abbrev N__law_longer : List Str := ["gaps", "spot", "more"]
abbrev s_laid : Stmt := topS 8
abbrev N_laid : List Str := ["skeleton", "lengths", "choice", "found", "here", "place", "item", "begin"]
abbrev s_all_choices : Stmt := topS 16
abbrev N_all_choices : List Str := ["skeleton", "found", "jump", "choice"]
abbrev s_is_triple : Stmt := topS 23
abbrev N_is_triple : List Str := ["skeleton", "fill", "other"]
abbrev s__law_pick : Stmt := topS 36
abbrev N__law_pick : List Str := ["loom", "things"]
abbrev s__law_mixed : Stmt := topS 37
abbrev N__law_mixed : List Str := ["loom", "things", "rest", "found"]
abbrev s__law_way : Stmt := topS 42
abbrev N__law_way : List Str := ["frame", "gaps", "longs", "at", "spots", "goal", "own"]
abbrev s__law_triples : Stmt := topS 45
abbrev N__law_triples : List Str := ["frame", "found", "at", "low", "high", "spot", "mate", "size", "between", "own"]
abbrev s__law_steadied : Stmt := topS 46
abbrev N__law_steadied : List Str := ["loom", "frame", "size", "found", "item", "growth_v"]
abbrev s_way_of : Stmt := topS 12
abbrev N_way_of : List Str := ["skeleton", "lengths", "choice", "jump", "others", "place"]
abbrev s_stuck : Stmt := topS 13
abbrev N_stuck : List Str := ["program", "choice", "skeleton", "lengths", "reaches", "spots", "found", "jump", "reach"]
abbrev s_triples : Stmt := topS 24
abbrev N_triples : List Str := ["skeleton", "found", "jump", "fills", "others", "fill", "place", "other"]
abbrev s__law_frame : Stmt := topS 38
abbrev N__law_frame : List Str := ["loom", "jumps", "fills", "labels", "top", "growth_v", "kinds", "spots", "found", "kind", "short", "at", "own"]
abbrev s__law_stuck : Stmt := topS 43
abbrev N__law_stuck : List Str := ["frame", "gaps", "spans", "longs", "found", "nth", "at"]
abbrev s__law_spans : Stmt := topS 47
abbrev N__law_spans : List Str := ["loom", "frame", "gaps", "found", "at", "bytes_over"]
abbrev s__law_calm : Stmt := topS 48
abbrev N__law_calm : List Str := ["loom", "frame"]
abbrev s__law_rounded : Stmt := topS 49
abbrev N__law_rounded : List Str := ["loom", "most", "top", "many", "inner", "is_back", "nth", "short", "outer"]
abbrev s__law_sharp : Stmt := topS 50
abbrev N__law_sharp : List Str := ["loom", "frame", "gaps", "far", "top", "every", "ways", "outer", "inner", "whole", "summed", "steps", "found", "at", "own"]
abbrev s_serves : Stmt := topS 14
abbrev N_serves : List Str := ["program", "choice"]
abbrev s_steady_error : Stmt := topS 25
abbrev N_steady_error : List Str := ["skeleton", "found"]
abbrev s_filled_up : Stmt := topS 29
abbrev N_filled_up : List Str := ["program", "choice", "more"]
abbrev s_steps_wanted : Stmt := topS 31
abbrev N_steps_wanted : List Str := ["program", "choice", "place", "step", "skeleton", "lengths", "reaches", "found", "jump", "reach"]
abbrev s__law_least : Stmt := topS 44
abbrev N__law_least : List Str := ["frame", "gaps", "spans", "longs", "held"]
abbrev s_serving : Stmt := topS 18
abbrev N_serving : List Str := ["program", "choice"]
abbrev s_turning : Stmt := topS 32
abbrev N_turning : List Str := ["program", "place", "jump", "skeleton", "lengths", "reaches", "triple", "step", "many", "choice", "more"]
abbrev s_least_choice : Stmt := topS 19
abbrev N_least_choice : List Str := ["program", "found", "fewest", "choice"]
abbrev s_law : Stmt := topS 52
abbrev N_law : List Str := ["script", "loom", "turn", "jumps", "top", "frame", "gaps", "spans", "spot", "every", "numbers", "known", "ends", "before", "steps", "due", "more", "behind", "at", "number", "own", "item"]
noncomputable section
structure FX (P : Program) (K : PySem.W.Frag) (mg : Str → Option Value) where
  n_abs : mg "abs" = none
  n_all : mg "all" = none
  n_any : mg "any" = none
  n_enumerate : mg "enumerate" = none
  n_int : mg "int" = none
  n_len : mg "len" = none
  n_list : mg "list" = none
  n_max : mg "max" = none
  n_min : mg "min" = none
  n_range : mg "range" = none
  n_repr : mg "repr" = none
  n_set : mg "set" = none
  n_sorted : mg "sorted" = none
  n_sum : mg "sum" = none
  n_tuple : mg "tuple" = none
  n_zip : mg "zip" = none
  C_Loose : Addr
  x_Loose : PySem.SupX.SupTxt P K mg "Loose" "triple" C_Loose
  C_NoLeast : Addr
  x_NoLeast : PySem.SupX.SupTxt P K mg "NoLeast" "paper" C_NoLeast
  a_jumps_of : Addr
  d_jumps_of : FuncData
  f_jumps_of : Fun K "jumps_of" "jumps_of" s_jumps_of a_jumps_of d_jumps_of
  b_jumps_of : Binds K d_jumps_of ["skeleton"] []
  m_jumps_of : mg "jumps_of" = some (.ref a_jumps_of)
  a_bytes_at : Addr
  d_bytes_at : FuncData
  f_bytes_at : Fun K "bytes_at" "bytes_at" s_bytes_at a_bytes_at d_bytes_at
  b_bytes_at : Binds K d_bytes_at ["item", "place", "is_long"] []
  m_bytes_at : mg "bytes_at" = some (.ref a_bytes_at)
  a_in_way : Addr
  d_in_way : FuncData
  f_in_way : Fun K "in_way" "in_way" s_in_way a_in_way d_in_way
  b_in_way : Binds K d_in_way ["skeleton", "jump"] []
  m_in_way : mg "in_way" = some (.ref a_in_way)
  a_ahead_of_way : Addr
  d_ahead_of_way : FuncData
  f_ahead_of_way : Fun K "ahead_of_way" "ahead_of_way" s_ahead_of_way a_ahead_of_way d_ahead_of_way
  b_ahead_of_way : Binds K d_ahead_of_way ["skeleton", "jump"] []
  m_ahead_of_way : mg "ahead_of_way" = some (.ref a_ahead_of_way)
  a_way_between : Addr
  d_way_between : FuncData
  f_way_between : Fun K "way_between" "way_between" s_way_between a_way_between d_way_between
  b_way_between : Binds K d_way_between ["skeleton", "spots", "jump"] []
  m_way_between : mg "way_between" = some (.ref a_way_between)
  a_is_within : Addr
  d_is_within : FuncData
  f_is_within : Fun K "is_within" "is_within" s_is_within a_is_within d_is_within
  b_is_within : Binds K d_is_within ["choice", "other"] []
  m_is_within : mg "is_within" = some (.ref a_is_within)
  a_growth : Addr
  d_growth : FuncData
  f_growth : Fun K "growth" "growth" s_growth a_growth d_growth
  b_growth : Binds K d_growth ["item"] []
  m_growth : mg "growth" = some (.ref a_growth)
  a_is_kept_away : Addr
  d_is_kept_away : FuncData
  f_is_kept_away : Fun K "is_kept_away" "is_kept_away" s_is_kept_away a_is_kept_away d_is_kept_away
  b_is_kept_away : Binds K d_is_kept_away ["skeleton", "other", "fill"] []
  m_is_kept_away : mg "is_kept_away" = some (.ref a_is_kept_away)
  a_step_of : Addr
  d_step_of : FuncData
  f_step_of : Fun K "step_of" "step_of" s_step_of a_step_of d_step_of
  b_step_of : Binds K d_step_of ["skeleton"] []
  m_step_of : mg "step_of" = some (.ref a_step_of)
  a_holds_length : Addr
  d_holds_length : FuncData
  f_holds_length : Fun K "holds_length" "holds_length" s_holds_length a_holds_length d_holds_length
  b_holds_length : Binds K d_holds_length ["skeleton", "jump", "place"] []
  m_holds_length : mg "holds_length" = some (.ref a_holds_length)
  a_lengthened : Addr
  d_lengthened : FuncData
  f_lengthened : Fun K "lengthened" "lengthened" s_lengthened a_lengthened d_lengthened
  b_lengthened : Binds K d_lengthened ["lengths", "place", "more"] []
  m_lengthened : mg "lengthened" = some (.ref a_lengthened)
  a__law_loom : Addr
  d__law_loom : FuncData
  f__law_loom : Fun K "_law_loom" "_law_loom" s__law_loom a__law_loom d__law_loom
  b__law_loom : Binds K d__law_loom ["script"] []
  m__law_loom : mg "_law_loom" = some (.ref a__law_loom)
  a__law_draw : Addr
  d__law_draw : FuncData
  f__law_draw : Fun K "_law_draw" "_law_draw" s__law_draw a__law_draw d__law_draw
  b__law_draw : Binds K d__law_draw ["loom", "many"] []
  m__law_draw : mg "_law_draw" = some (.ref a__law_draw)
  a__law_jumps : Addr
  d__law_jumps : FuncData
  f__law_jumps : Fun K "_law_jumps" "_law_jumps" s__law_jumps a__law_jumps d__law_jumps
  b__law_jumps : Binds K d__law_jumps ["frame"] []
  m__law_jumps : mg "_law_jumps" = some (.ref a__law_jumps)
  a__law_top : Addr
  d__law_top : FuncData
  f__law_top : Fun K "_law_top" "_law_top" s__law_top a__law_top d__law_top
  b__law_top : Binds K d__law_top ["frame"] []
  m__law_top : mg "_law_top" = some (.ref a__law_top)
  a__law_laid : Addr
  d__law_laid : FuncData
  f__law_laid : Fun K "_law_laid" "_law_laid" s__law_laid a__law_laid d__law_laid
  b__law_laid : Binds K d__law_laid ["frame", "gaps", "longs"] []
  m__law_laid : mg "_law_laid" = some (.ref a__law_laid)
  a__law_longer : Addr
  d__law_longer : FuncData
  f__law_longer : Fun K "_law_longer" "_law_longer" s__law_longer a__law_longer d__law_longer
  b__law_longer : Binds K d__law_longer ["gaps", "spot", "more"] []
  m__law_longer : mg "_law_longer" = some (.ref a__law_longer)
  a_laid : Addr
  d_laid : FuncData
  f_laid : Fun K "laid" "laid" s_laid a_laid d_laid
  b_laid : Binds K d_laid ["skeleton", "lengths", "choice"] []
  m_laid : mg "laid" = some (.ref a_laid)
  a_all_choices : Addr
  d_all_choices : FuncData
  f_all_choices : Fun K "all_choices" "all_choices" s_all_choices a_all_choices d_all_choices
  b_all_choices : Binds K d_all_choices ["skeleton"] []
  m_all_choices : mg "all_choices" = some (.ref a_all_choices)
  a_is_triple : Addr
  d_is_triple : FuncData
  f_is_triple : Fun K "is_triple" "is_triple" s_is_triple a_is_triple d_is_triple
  b_is_triple : Binds K d_is_triple ["skeleton", "fill", "other"] []
  m_is_triple : mg "is_triple" = some (.ref a_is_triple)
  a__law_pick : Addr
  d__law_pick : FuncData
  f__law_pick : Fun K "_law_pick" "_law_pick" s__law_pick a__law_pick d__law_pick
  b__law_pick : Binds K d__law_pick ["loom", "things"] []
  m__law_pick : mg "_law_pick" = some (.ref a__law_pick)
  a__law_mixed : Addr
  d__law_mixed : FuncData
  f__law_mixed : Fun K "_law_mixed" "_law_mixed" s__law_mixed a__law_mixed d__law_mixed
  b__law_mixed : Binds K d__law_mixed ["loom", "things"] []
  m__law_mixed : mg "_law_mixed" = some (.ref a__law_mixed)
  a__law_way : Addr
  d__law_way : FuncData
  f__law_way : Fun K "_law_way" "_law_way" s__law_way a__law_way d__law_way
  b__law_way : Binds K d__law_way ["frame", "gaps", "longs", "at"] []
  m__law_way : mg "_law_way" = some (.ref a__law_way)
  a__law_triples : Addr
  d__law_triples : FuncData
  f__law_triples : Fun K "_law_triples" "_law_triples" s__law_triples a__law_triples d__law_triples
  b__law_triples : Binds K d__law_triples ["frame"] []
  m__law_triples : mg "_law_triples" = some (.ref a__law_triples)
  a__law_steadied : Addr
  d__law_steadied : FuncData
  f__law_steadied : Fun K "_law_steadied" "_law_steadied" s__law_steadied a__law_steadied d__law_steadied
  b__law_steadied : Binds K d__law_steadied ["loom", "frame"] []
  m__law_steadied : mg "_law_steadied" = some (.ref a__law_steadied)
  a_way_of : Addr
  d_way_of : FuncData
  f_way_of : Fun K "way_of" "way_of" s_way_of a_way_of d_way_of
  b_way_of : Binds K d_way_of ["skeleton", "lengths", "choice", "jump"] []
  m_way_of : mg "way_of" = some (.ref a_way_of)
  a_stuck : Addr
  d_stuck : FuncData
  f_stuck : Fun K "stuck" "stuck" s_stuck a_stuck d_stuck
  b_stuck : Binds K d_stuck ["program", "choice"] []
  m_stuck : mg "stuck" = some (.ref a_stuck)
  a_triples : Addr
  d_triples : FuncData
  f_triples : Fun K "triples" "triples" s_triples a_triples d_triples
  b_triples : Binds K d_triples ["skeleton"] []
  m_triples : mg "triples" = some (.ref a_triples)
  a__law_frame : Addr
  d__law_frame : FuncData
  f__law_frame : Fun K "_law_frame" "_law_frame" s__law_frame a__law_frame d__law_frame
  b__law_frame : Binds K d__law_frame ["loom", "jumps", "fills", "labels", "top", "growth_v"] []
  m__law_frame : mg "_law_frame" = some (.ref a__law_frame)
  a__law_stuck : Addr
  d__law_stuck : FuncData
  f__law_stuck : Fun K "_law_stuck" "_law_stuck" s__law_stuck a__law_stuck d__law_stuck
  b__law_stuck : Binds K d__law_stuck ["frame", "gaps", "spans", "longs"] []
  m__law_stuck : mg "_law_stuck" = some (.ref a__law_stuck)
  a__law_spans : Addr
  d__law_spans : FuncData
  f__law_spans : Fun K "_law_spans" "_law_spans" s__law_spans a__law_spans d__law_spans
  b__law_spans : Binds K d__law_spans ["loom", "frame", "gaps"] []
  m__law_spans : mg "_law_spans" = some (.ref a__law_spans)
  a__law_calm : Addr
  d__law_calm : FuncData
  f__law_calm : Fun K "_law_calm" "_law_calm" s__law_calm a__law_calm d__law_calm
  b__law_calm : Binds K d__law_calm ["loom", "frame"] []
  m__law_calm : mg "_law_calm" = some (.ref a__law_calm)
  a__law_rounded : Addr
  d__law_rounded : FuncData
  f__law_rounded : Fun K "_law_rounded" "_law_rounded" s__law_rounded a__law_rounded d__law_rounded
  b__law_rounded : Binds K d__law_rounded ["loom", "most"] []
  m__law_rounded : mg "_law_rounded" = some (.ref a__law_rounded)
  a__law_sharp : Addr
  d__law_sharp : FuncData
  f__law_sharp : Fun K "_law_sharp" "_law_sharp" s__law_sharp a__law_sharp d__law_sharp
  b__law_sharp : Binds K d__law_sharp ["loom", "frame", "gaps", "far"] []
  m__law_sharp : mg "_law_sharp" = some (.ref a__law_sharp)
  a_serves : Addr
  d_serves : FuncData
  f_serves : Fun K "serves" "serves" s_serves a_serves d_serves
  b_serves : Binds K d_serves ["program", "choice"] []
  m_serves : mg "serves" = some (.ref a_serves)
  a_steady_error : Addr
  d_steady_error : FuncData
  f_steady_error : Fun K "steady_error" "steady_error" s_steady_error a_steady_error d_steady_error
  b_steady_error : Binds K d_steady_error ["skeleton"] []
  m_steady_error : mg "steady_error" = some (.ref a_steady_error)
  a_filled_up : Addr
  d_filled_up : FuncData
  f_filled_up : Fun K "filled_up" "filled_up" s_filled_up a_filled_up d_filled_up
  b_filled_up : Binds K d_filled_up ["program", "choice"] []
  m_filled_up : mg "filled_up" = some (.ref a_filled_up)
  a_steps_wanted : Addr
  d_steps_wanted : FuncData
  f_steps_wanted : Fun K "steps_wanted" "steps_wanted" s_steps_wanted a_steps_wanted d_steps_wanted
  b_steps_wanted : Binds K d_steps_wanted ["program", "choice", "place", "step"] []
  m_steps_wanted : mg "steps_wanted" = some (.ref a_steps_wanted)
  a__law_least : Addr
  d__law_least : FuncData
  f__law_least : Fun K "_law_least" "_law_least" s__law_least a__law_least d__law_least
  b__law_least : Binds K d__law_least ["frame", "gaps", "spans"] []
  m__law_least : mg "_law_least" = some (.ref a__law_least)
  a_serving : Addr
  d_serving : FuncData
  f_serving : Fun K "serving" "serving" s_serving a_serving d_serving
  b_serving : Binds K d_serving ["program"] []
  m_serving : mg "serving" = some (.ref a_serving)
  a_turning : Addr
  d_turning : FuncData
  f_turning : Fun K "turning" "turning" s_turning a_turning d_turning
  b_turning : Binds K d_turning ["program", "place", "jump"] []
  m_turning : mg "turning" = some (.ref a_turning)
  a_least_choice : Addr
  d_least_choice : FuncData
  f_least_choice : Fun K "least_choice" "least_choice" s_least_choice a_least_choice d_least_choice
  b_least_choice : Binds K d_least_choice ["program"] []
  m_least_choice : mg "least_choice" = some (.ref a_least_choice)
  a_law : Addr
  d_law : FuncData
  f_law : Fun K "law" "law" s_law a_law d_law
  b_law : Binds K d_law ["script"] []
  m_law : mg "law" = some (.ref a_law)
def c_jumps_of : SC := (sret (zs zTuple (zcons (zcomp frzl [1, 2] (zenum (zv 0)) (tgT (tgsCons (tgN 1) (tgsCons (tgN 2) tgsNil))) (zt (z2 zEq (z2 zIx (zv 2) (zk (.int 0))) (zk (.str "jump")))) (zv 1)) znil)))
def F_jumps_of : Fn := fnB 3 c_jumps_of
def c_bytes_at : SC := (sseq (sif (zt (z2 zEq (z2 zIx (zv 0) (zk (.int 0))) (zk (.str "label")))) (sret (zk (.int 0))) sskip) (sseq (sif (zt (z2 zEq (z2 zIx (zv 0) (zk (.int 0))) (zk (.str "fill")))) (sret (z2 zMod (z1 zNeg (zv 1)) (z2 zIx (zv 0) (zk (.int 1))))) sskip) (sret (zif (zt (zv 2)) (z2 zIx (zv 0) (zk (.int 3))) (z2 zIx (zv 0) (zk (.int 2)))))))
def F_bytes_at : Fn := fnB 3 c_bytes_at
def c_in_way : SC := (sseq (sset 2 (z2 zIx (z2 zIx (zv 0) (zv 1)) (zk (.int 1)))) (sret (ztrg (zrg2 (z2 zAdd (zs zMin (zcons (zv 1) (zcons (zv 2) znil))) (zk (.int 1))) (zs zMax (zcons (zv 1) (zcons (zv 2) znil)))))))
def F_in_way : Fn := fnB 3 c_in_way
def c_ahead_of_way : SC := (sret (ztrg (zrg1 (zs zMin (zcons (zv 1) (zcons (z2 zIx (z2 zIx (zv 0) (zv 1)) (zk (.int 1))) znil))))))
def F_ahead_of_way : Fn := fnB 2 c_ahead_of_way
def c_way_between : SC := (sseq (sset 3 (z2 zIx (z2 zIx (zv 0) (zv 2)) (zk (.int 1)))) (sseq (sif (zt (z2 zGt (zv 3) (zv 2))) (sret (z2 zSub (z2 zIx (z2 zIx (zv 1) (zv 3)) (zk (.int 0))) (z2 zIx (z2 zIx (zv 1) (zv 2)) (zk (.int 1))))) sskip) (sret (z2 zSub (z2 zIx (z2 zIx (zv 1) (zv 2)) (zk (.int 1))) (z2 zIx (z2 zIx (zv 1) (zv 3)) (zk (.int 0)))))))
def F_way_between : Fn := fnB 4 c_way_between
def c_is_within : SC := (sret (zs zAll (zcons (zcomp frzl [2] (zitems (zv 0)) (tgN 2) ztyes (z2 zIn (zv 2) (zv 1))) znil)))
def F_is_within : Fn := fnB 3 c_is_within
def c_growth : SC := (sret (z2 zSub (z2 zIx (zv 0) (zk (.int 3))) (z2 zIx (zv 0) (zk (.int 2)))))
def F_growth : Fn := fnB 1 c_growth
def c_is_kept_away : SC := (sseq (sset 3 (zslice (zv 0) (zpart (z2 zAdd (zv 1) (zk (.int 1)))) (zpart (zv 2)))) (sret (zs zAny (zcons (zcomp frzl [4] (zitems (zv 3)) (tgN 4) ztyes (zand (z2 zEq (z2 zIx (zv 4) (zk (.int 0))) (zk (.str "fill"))) (z2 zGe (z2 zIx (zv 4) (zk (.int 1))) (z2 zIx (z2 zIx (zv 0) (zv 2)) (zk (.int 1)))))) znil))))
def F_is_kept_away : Fn := fnB 5 c_is_kept_away
def c_step_of : SC := (sret (zs zMax (zcons (z2 zAdd (zs mkLstF (zcons (zk (.int 1)) znil)) (zcomp frzl [1] (zitems (zv 0)) (tgN 1) (zt (z2 zEq (z2 zIx (zv 1) (zk (.int 0))) (zk (.str "fill")))) (z2 zIx (zv 1) (zk (.int 1))))) znil)))
def F_step_of : Fn := fnB 2 c_step_of
def c_holds_length : SC := (sseq (sset 3 (z2 zIx (z2 zIx (zv 0) (zv 1)) (zk (.int 1)))) (sret (zchain zLt zLe (zs zMin (zcons (zv 1) (zcons (zv 3) znil))) (zv 2) (zs zMax (zcons (zv 1) (zcons (zv 3) znil))))))
def F_holds_length : Fn := fnB 4 c_holds_length
def c_lengthened : SC := (sret (z2 zAdd (z2 zAdd (zslice (zv 0) zno (zpart (zv 1))) (zs mkTup (zcons (z2 zAdd (z2 zIx (zv 0) (zv 1)) (zv 2)) znil))) (zslice (zv 0) (zpart (z2 zAdd (zv 1) (zk (.int 1)))) zno)))
def F_lengthened : Fn := fnB 3 c_lengthened
def L__law_loom_1 : SC := (sset 2 (z2 zMod (zs zInt (zcons (z2 zAdd (z2 zAdd (z2 zMul (zv 2) (zk (.int 16807))) (zv 3)) (zk (.int 3))) znil)) (zk (.int 4294967291))))
def c__law_loom : SC := (sseq (spar [1, 2] (zcons (zcomp frzl [3] (zitems (zslice (zv 0) zno (zpart (zk (.int 63))))) (tgN 3) ztyes (z2 zAdd (z2 zMul (zk (.int 2)) (zs zAbs (zcons (zv 3) znil))) (zs zInt (zcons (z2 zLt (zv 3) (zk (.int 0))) znil)))) (zcons (z2 zAdd (zk (.int 90001)) (z2 zMul (zk (.int 7)) (zs zLen (zcons (zv 0) znil)))) znil))) (sseq (sfor (tgN 3) (zitems (zv 1)) L__law_loom_1) (sret (zdisp (zpcons (zk (.str "far")) (zcomp mkLst [3] (zitems (zv 1)) (tgN 3) (zt (z2 zGe (zv 3) (z2 zPow (zk (.int 10)) (zk (.int 15))))) (zv 3)) (zpcons (zk (.str "stirred")) (zv 2) (zpcons (zk (.str "times")) (zk (.int 0)) zpnil)))))))
def F__law_loom : Fn := fnB 4 c__law_loom
def c__law_draw : SC := (sseq (sif (zt (z2 zLt (zv 1) (zk (.int 2)))) (sret (zk (.int 0))) sskip) (sseq (sif (zt (z2 zNe (z2 zIx (zv 0) (zk (.str "far"))) (zs mkLstF znil))) (sseq (sset 2 (zm0 isL zPop (z2 zIx (zv 0) (zk (.str "far"))))) (sseq (sif (zt (z2 zGe (zv 2) (zv 1))) (sexpr (zmt isL zAppend (z2 zIx (zv 0) (zk (.str "far"))) (zcons (z2 zDiv (zv 2) (zv 1)) znil))) sskip) (sret (z2 zMod (zs zInt (zcons (zv 2) znil)) (zv 1))))) sskip) (sseq (sstore zDput (z2 zAdd (z2 zIx (zv 0) (zk (.str "times"))) (zk (.int 1))) (zv 0) (zk (.str "times"))) (sseq (sset 3 (z2 zMod (zs zInt (zcons (z2 zAdd (z2 zIx (zv 0) (zk (.str "stirred"))) (z2 zMul (zk (.int 2654435761)) (z2 zIx (zv 0) (zk (.str "times"))))) znil)) (zk (.int 4294967279)))) (sseq (sset 3 (z2 zMod (zs zInt (zcons (z2 zAdd (z2 zAdd (z2 zMul (zv 3) (zv 3)) (z2 zMul (zk (.int 40503)) (z2 zIx (zv 0) (zk (.str "times"))))) (zk (.int 17))) znil)) (zk (.int 4294967231)))) (sseq (sset 3 (z2 zMod (zs zInt (zcons (z2 zAdd (z2 zMul (zv 3) (zv 3)) (z2 zIx (zv 0) (zk (.str "stirred")))) znil)) (zk (.int 4294967197)))) (sret (z2 zMod (zs zInt (zcons (z2 zDiv (zv 3) (zk (.int 128))) znil)) (zv 1)))))))))
def F__law_draw : Fn := fnB 4 c__law_draw
def c__law_jumps : SC := (sret (zcomp frzl [1, 2] (zenum (zv 0)) (tgT (tgsCons (tgN 1) (tgsCons (tgN 2) tgsNil))) (zt (z2 zEq (z2 zIx (zv 2) (zk (.int 0))) (zk (.str "jump")))) (zv 1)))
def F__law_jumps : Fn := fnB 3 c__law_jumps
def c__law_top : SC := (sret (zs zMax (zcons (z2 zAdd (zs mkLstF (zcons (zk (.int 1)) znil)) (zcomp frzl [1] (zitems (zv 0)) (tgN 1) (zt (z2 zEq (z2 zIx (zv 1) (zk (.int 0))) (zk (.str "fill")))) (z2 zIx (zv 1) (zk (.int 1))))) znil)))
def F__law_top : Fn := fnB 2 c__law_top
def L__law_laid_1 : SC := (sseq (sset 7 (z2 zAdd (zv 3) (z2 zIx (zv 1) (zv 5)))) (sseq (sset 3 (zv 7)) (sseq (sif (zt (z2 zEq (z2 zIx (zv 6) (zk (.int 0))) (zk (.str "fill")))) (sset 3 (z2 zMul (z2 zDiv (z2 zSub (z2 zAdd (zv 7) (z2 zIx (zv 6) (zk (.int 1)))) (zk (.int 1))) (z2 zIx (zv 6) (zk (.int 1)))) (z2 zIx (zv 6) (zk (.int 1))))) (sif (zt (z2 zEq (z2 zIx (zv 6) (zk (.int 0))) (zk (.str "jump")))) (sset 3 (z2 zAdd (zv 7) (zif (zt (z2 zIn (zv 5) (zv 2))) (z2 zIx (zv 6) (zk (.int 3))) (z2 zIx (zv 6) (zk (.int 2)))))) sskip)) (sexpr (zmt isL zAppend (zv 4) (zcons (zs mkTup (zcons (zv 7) (zcons (zv 3) znil))) znil))))))
def c__law_laid : SC := (sseq (spar [3, 4] (zcons (zk (.int 0)) (zcons (zs mkLst znil) znil))) (sseq (sfor (tgT (tgsCons (tgN 5) (tgsCons (tgN 6) tgsNil))) (zenum (zv 0)) L__law_laid_1) (sret (zfrz (zv 4)))))
def F__law_laid : Fn := fnB 8 c__law_laid
def c__law_longer : SC := (sret (z2 zAdd (z2 zAdd (zslice (zv 0) zno (zpart (zv 1))) (zs mkTup (zcons (z2 zAdd (z2 zIx (zv 0) (zv 1)) (zv 2)) znil))) (zslice (zv 0) (zpart (z2 zAdd (zv 1) (zk (.int 1)))) zno)))
def F__law_longer : Fn := fnB 3 c__law_longer
def L_laid_1 : SC := (sseq (sset 7 (z2 zAdd (zv 4) (z2 zIx (zv 1) (zv 5)))) (sseq (sset 4 (z2 zAdd (zv 7) (zs (zfc 3 F_bytes_at) (zcons (zv 6) (zcons (zv 7) (zcons (z2 zIn (zv 5) (zv 2)) znil)))))) (sexpr (zmt isL zAppend (zv 3) (zcons (zs mkTup (zcons (zv 7) (zcons (zv 4) znil))) znil)))))
def c_laid : SC := (sseq (spar [3, 4] (zcons (zs mkLst znil) (zcons (zk (.int 0)) znil))) (sseq (sfor (tgT (tgsCons (tgN 5) (tgsCons (tgN 6) tgsNil))) (zenum (zv 0)) L_laid_1) (sret (zs zTuple (zcons (zv 3) znil)))))
def F_laid : Fn := fnB 8 c_laid
def L_all_choices_1 : SC := (sset 1 (z2 zAdd (zv 1) (zcomp frzl [3] (zitems (zv 1)) (tgN 3) ztyes (z2 zAdd (zv 3) (zs mkTup (zcons (zv 2) znil))))))
def c_all_choices : SC := (sseq (sset 1 (zs mkLstF (zcons (zs mkTup znil) znil))) (sseq (sfor (tgN 2) (zitems (zs (zfc 1 F_jumps_of) (zcons (zv 0) znil))) L_all_choices_1) (sret (zs zSort (zcons (zv 1) znil)))))
def F_all_choices : Fn := fnB 4 c_all_choices
def c_is_triple : SC := (sseq (sif (zt (zs (zfc 3 F_is_kept_away) (zcons (zv 0) (zcons (zv 2) (zcons (zv 1) znil))))) (sret (zk (.bool false))) sskip) (sret (z2 zNe (z2 zMod (zs (zfc 1 F_growth) (zcons (z2 zIx (zv 0) (zv 2)) znil)) (z2 zIx (z2 zIx (zv 0) (zv 1)) (zk (.int 1)))) (zk (.int 0)))))
def F_is_triple : Fn := fnB 3 c_is_triple
def c__law_pick : SC := (sret (z2 zIx (zv 1) (zs (zfc 2 F__law_draw) (zcons (zv 0) (zcons (zs zLen (zcons (zv 1) znil)) znil)))))
def F__law_pick : Fn := fnB 2 c__law_pick
def L__law_mixed_1 : SC := (sexpr (zmt isL zAppend (zv 3) (zcons (zmt isL zPopAt (zv 2) (zcons (zs (zfc 2 F__law_draw) (zcons (zv 0) (zcons (zs zLen (zcons (zv 2) znil)) znil))) znil)) znil)))
def c__law_mixed : SC := (sseq (spar [2, 3] (zcons (zs zListM (zcons (zv 1) znil)) (zcons (zs mkLst znil) znil))) (sseq (swhile 64 (zt (z2 zNe (zv 2) (zs mkLstF znil))) L__law_mixed_1) (sret (zfrz (zv 3)))))
def F__law_mixed : Fn := fnB 4 c__law_mixed
def c__law_way : SC := (sseq (sset 4 (zs (zfc 3 F__law_laid) (zcons (zv 0) (zcons (zv 1) (zcons (zcomp frzl [6] (zitems (zv 2)) (tgN 6) (zt (z2 zNe (zv 6) (zv 3))) (zv 6)) znil))))) (sseq (sset 5 (z2 zIx (z2 zIx (zv 0) (zv 3)) (zk (.int 1)))) (sret (zif (zt (z2 zGt (zv 5) (zv 3))) (z2 zSub (z2 zIx (z2 zIx (zv 4) (zv 5)) (zk (.int 0))) (z2 zIx (z2 zIx (zv 4) (zv 3)) (zk (.int 1)))) (z2 zSub (z2 zIx (z2 zIx (zv 4) (zv 3)) (zk (.int 1))) (z2 zIx (z2 zIx (zv 4) (zv 5)) (zk (.int 0))))))))
def F__law_way : Fn := fnB 7 c__law_way
def L__law_triples_1 : SC := (sseq (sset 7 (z2 zIx (z2 zIx (zv 0) (zv 5)) (zk (.int 1)))) (sseq (sset 8 (zcomp frzl [9] (zitems (zslice (zv 0) (zpart (z2 zAdd (zv 6) (zk (.int 1)))) (zpart (zv 5)))) (tgN 9) (ztand (zt (z2 zEq (z2 zIx (zv 9) (zk (.int 0))) (zk (.str "fill")))) (zt (z2 zGe (z2 zIx (zv 9) (zk (.int 1))) (zv 7)))) (zv 9))) (sif (ztand (zt (z2 zEq (zv 8) (zs mkLstF znil))) (zt (z2 zGt (z2 zMod (zs zInt (zcons (z2 zSub (z2 zIx (z2 zIx (zv 0) (zv 6)) (zk (.int 3))) (z2 zIx (z2 zIx (zv 0) (zv 6)) (zk (.int 2)))) znil)) (zv 7)) (zk (.int 0))))) (sexpr (zmt isL zAppend (zv 1) (zcons (zs mkTup (zcons (zv 2) (zcons (zv 5) (zcons (zv 6) znil)))) znil))) sskip)))
def L__law_triples_2 : SC := (sfor (tgN 6) (zitems (zcomp frzl [9] (zitems (zs (zfc 1 F__law_jumps) (zcons (zv 0) znil))) (tgN 9) (zt (z2 zLt (zv 9) (zv 3))) (zv 9))) L__law_triples_1)
def L__law_triples_3 : SC := (sseq (spar [3, 4] (zcons (zs zMin (zcons (zv 2) (zcons (z2 zIx (z2 zIx (zv 0) (zv 2)) (zk (.int 1))) znil))) (zcons (zs zMax (zcons (zv 2) (zcons (z2 zIx (z2 zIx (zv 0) (zv 2)) (zk (.int 1))) znil))) znil))) (sfor (tgN 5) (zitems (zcomp frzl [9] (zrange2 (z2 zAdd (zv 3) (zk (.int 1))) (zv 4)) (tgN 9) (zt (z2 zEq (z2 zIx (z2 zIx (zv 0) (zv 9)) (zk (.int 0))) (zk (.str "fill")))) (zv 9))) L__law_triples_2))
def c__law_triples : SC := (sseq (sset 1 (zs mkLst znil)) (sseq (sfor (tgN 2) (zitems (zs (zfc 1 F__law_jumps) (zcons (zv 0) znil))) L__law_triples_3) (sret (zfrz (zv 1)))))
def F__law_triples : Fn := fnB 10 c__law_triples
def L__law_steadied_1 : SC := (sseq (sif (zt (z2 zEq (z2 zIx (zv 4) (zk (.int 0))) (zk (.str "jump")))) (sseq (sset 5 (z2 zMul (zv 2) (z2 zAdd (zk (.int 1)) (zs (zfc 2 F__law_draw) (zcons (zv 0) (zcons (zs zMax (zcons (zk (.int 1)) (zcons (zs zMin (zcons (zk (.int 4)) (zcons (z2 zDiv (zk (.int 900)) (zv 2)) znil))) znil))) znil)))))) (sseq (sset 4 (z2 zAdd (zslice (zv 4) zno (zpart (zk (.int 3)))) (zs mkTup (zcons (z2 zAdd (zs zMin (zcons (z2 zIx (zv 4) (zk (.int 2))) (zcons (zk (.int 99)) znil))) (zv 5)) znil)))) (sset 4 (z2 zAdd (zslice (zv 4) zno (zpart (zk (.int 2)))) (zs mkTup (zcons (zs zMin (zcons (z2 zIx (zv 4) (zk (.int 2))) (zcons (zk (.int 99)) znil))) (zcons (z2 zIx (zv 4) (zk (.int 3))) znil))))))) sskip) (sexpr (zmt isL zAppend (zv 3) (zcons (zv 4) znil))))
def c__law_steadied : SC := (sseq (spar [2, 3] (zcons (zs (zfc 1 F__law_top) (zcons (zv 1) znil)) (zcons (zs mkLst znil) znil))) (sseq (sfor (tgN 4) (zitems (zv 1)) L__law_steadied_1) (sret (zs zTuple (zcons (zv 3) znil)))))
def F__law_steadied : Fn := fnB 6 c__law_steadied
def c_way_of : SC := (sseq (sset 4 (zs zTuple (zcons (zcomp frzl [5] (zitems (zv 2)) (tgN 5) (zt (z2 zNe (zv 5) (zv 3))) (zv 5)) znil))) (sret (zs (zfc 3 F_way_between) (zcons (zv 0) (zcons (zs (zfc 3 F_laid) (zcons (zv 0) (zcons (zv 1) (zcons (zv 4) znil)))) (zcons (zv 3) znil))))))
def F_way_of : Fn := fnB 6 c_way_of
def L_stuck_1 : SC := (sif (ztand (zt (z2 zNotIn (zv 7) (zv 1))) (zt (z2 zGt (zs (zfc 3 F_way_between) (zcons (zv 2) (zcons (zv 5) (zcons (zv 7) znil)))) (zv 8)))) (sexpr (zmt isL zAppend (zv 6) (zcons (zv 7) znil))) sskip)
def c_stuck : SC := (sseq (stg (tgT (tgsCons (tgN 2) (tgsCons (tgN 3) (tgsCons (tgN 4) tgsNil)))) (zv 0)) (sseq (sset 5 (zs (zfc 3 F_laid) (zcons (zv 2) (zcons (zv 3) (zcons (zv 1) znil))))) (sseq (sset 6 (zs mkLst znil)) (sseq (sfor (tgT (tgsCons (tgN 7) (tgsCons (tgN 8) tgsNil))) (zzip (zs (zfc 1 F_jumps_of) (zcons (zv 2) znil)) (zv 4)) L_stuck_1) (sret (zs zTuple (zcons (zv 6) znil)))))))
def F_stuck : Fn := fnB 9 c_stuck
def L_triples_1 : SC := (sexpr (zmt isL zExtend (zv 1) (zcons (zcomp frzl [7] (zitems (zv 4)) (tgN 7) (zt (zs (zfc 3 F_is_triple) (zcons (zv 0) (zcons (zv 5) (zcons (zv 7) znil))))) (zs mkTup (zcons (zv 2) (zcons (zv 5) (zcons (zv 7) znil))))) znil)))
def L_triples_2 : SC := (sseq (sset 3 (zcomp frzl [6] (zitems (zs (zfc 2 F_in_way) (zcons (zv 0) (zcons (zv 2) znil)))) (tgN 6) (zt (z2 zEq (z2 zIx (z2 zIx (zv 0) (zv 6)) (zk (.int 0))) (zk (.str "fill")))) (zv 6))) (sseq (sset 4 (zcomp frzl [6] (zitems (zs (zfc 2 F_ahead_of_way) (zcons (zv 0) (zcons (zv 2) znil)))) (tgN 6) (zt (z2 zEq (z2 zIx (z2 zIx (zv 0) (zv 6)) (zk (.int 0))) (zk (.str "jump")))) (zv 6))) (sfor (tgN 5) (zitems (zv 3)) L_triples_1)))
def c_triples : SC := (sseq (sset 1 (zs mkLst znil)) (sseq (sfor (tgN 2) (zitems (zs (zfc 1 F_jumps_of) (zcons (zv 0) znil))) L_triples_2) (sret (zs zTuple (zcons (zv 1) znil)))))
def F_triples : Fn := fnB 8 c_triples
def L__law_frame_1 : SC := (sif (zt (z2 zEq (zv 9) (zk (.str "label")))) (sexpr (zmt isL zAppend (zv 8) (zcons (zs mkTup (zcons (zv 9) znil)) znil))) (sif (zt (z2 zEq (zv 9) (zk (.str "fill")))) (sexpr (zmt isL zAppend (zv 8) (zcons (zs mkTup (zcons (zv 9) (zcons (zs (zfc 2 F__law_pick) (zcons (zv 0) (zcons (zcomp frzl [12] (zitems (zs mkTup (zcons (zk (.int 2)) (zcons (zk (.int 4)) (zcons (zk (.int 8)) (zcons (zk (.int 16)) (zcons (zk (.int 32)) (zcons (zk (.int 64)) znil)))))))) (tgN 12) (zt (z2 zLe (zv 12) (zv 4))) (zv 12)) znil))) znil))) znil))) (sseq (sset 10 (z2 zAdd (zk (.int 1)) (zs (zfc 2 F__law_draw) (zcons (zv 0) (zcons (zk (.int 9)) znil))))) (sexpr (zmt isL zAppend (zv 8) (zcons (zs mkTup (zcons (zv 9) (zcons (zs (zfc 2 F__law_pick) (zcons (zv 0) (zcons (zv 7) znil))) (zcons (zv 10) (zcons (zs zMin (zcons (zk (.int 999)) (zcons (z2 zAdd (z2 zAdd (zv 10) (zk (.int 1))) (zs (zfc 2 F__law_draw) (zcons (zv 0) (zcons (zv 5) znil)))) znil))) znil))))) znil))))))
def c__law_frame : SC := (sseq (sset 6 (zs (zfc 2 F__law_mixed) (zcons (zv 0) (zcons (z2 zAdd (z2 zAdd (z2 zMul (zs mkLstF (zcons (zk (.str "jump")) znil)) (zv 1)) (z2 zMul (zs mkLstF (zcons (zk (.str "fill")) znil)) (zv 2))) (z2 zMul (zs mkLstF (zcons (zk (.str "label")) znil)) (zv 3))) znil)))) (sseq (spar [7, 8] (zcons (zcomp frzl [11, 9] (zenum (zv 6)) (tgT (tgsCons (tgN 11) (tgsCons (tgN 9) tgsNil))) (zt (z2 zEq (zv 9) (zk (.str "label")))) (zv 11)) (zcons (zs mkLst znil) znil))) (sseq (sfor (tgN 9) (zitems (zv 6)) L__law_frame_1) (sret (zs zTuple (zcons (zv 8) znil))))))
def F__law_frame : Fn := fnB 13 c__law_frame
def L__law_stuck_1 : SC := (sif (ztand (zt (z2 zNotIn (zv 6) (zv 3))) (zt (z2 zGt (zs (zfc 4 F__law_way) (zcons (zv 0) (zcons (zv 1) (zcons (zv 3) (zcons (zv 6) znil))))) (z2 zIx (zv 2) (zv 5))))) (sexpr (zmt isL zAppend (zv 4) (zcons (zv 6) znil))) sskip)
def c__law_stuck : SC := (sseq (sset 4 (zs mkLst znil)) (sseq (sfor (tgT (tgsCons (tgN 5) (tgsCons (tgN 6) tgsNil))) (zenum (zs (zfc 1 F__law_jumps) (zcons (zv 0) znil))) L__law_stuck_1) (sret (zfrz (zv 4)))))
def F__law_stuck : Fn := fnB 7 c__law_stuck
def L__law_spans_1 : SC := (sseq (sset 5 (zs (zfc 4 F__law_way) (zcons (zv 1) (zcons (zv 2) (zcons (zs mkLstF znil) (zcons (zv 4) znil)))))) (sexpr (zmt isL zAppend (zv 3) (zcons (zs zMax (zcons (zk (.int 0)) (zcons (z2 zAdd (zv 5) (zs (zfc 2 F__law_pick) (zcons (zv 0) (zcons (zs mkLstF (zcons (z1 zNeg (zk (.int 1))) (zcons (zk (.int 0)) (zcons (zk (.int 0)) (zcons (zk (.int 1)) (zcons (zk (.int 2)) (zcons (zk (.int 5)) (zcons (zk (.int 9)) (zcons (z1 zNeg (zv 5)) (zcons (zk (.int 20)) znil)))))))))) znil)))) znil))) znil))))
def c__law_spans : SC := (sseq (sset 3 (zs mkLst znil)) (sseq (sfor (tgN 4) (zitems (zs (zfc 1 F__law_jumps) (zcons (zv 1) znil))) L__law_spans_1) (sret (zs zTuple (zcons (zv 3) znil)))))
def F__law_spans : Fn := fnB 6 c__law_spans
def c__law_calm : SC := (sret (zif (ztand (zt (z2 zEq (zs (zfc 1 F__law_triples) (zcons (zv 1) znil)) (zs mkLstF znil))) (zt (z2 zGt (zs (zfc 2 F__law_draw) (zcons (zv 0) (zcons (zk (.int 5)) znil))) (zk (.int 0))))) (zv 1) (zs (zfc 2 F__law_steadied) (zcons (zv 0) (zcons (zv 1) znil)))))
def F__law_calm : Fn := fnB 2 c__law_calm
def L__law_rounded_1 : SC := (sseq (sset 7 (z2 zAdd (zk (.int 1)) (zs (zfc 2 F__law_draw) (zcons (zv 0) (zcons (zk (.int 5)) znil))))) (sset 4 (z2 zAddM (zv 4) (zs mkLstF (zcons (zs mkTup (zcons (zk (.str "jump")) (zcons (z2 zAdd (zk (.int 2)) (z2 zMul (zk (.int 2)) (zv 6))) (zcons (zv 7) (zcons (z2 zAdd (z2 zAdd (zv 7) (zk (.int 1))) (zs (zfc 2 F__law_draw) (zcons (zv 0) (zcons (z2 zAdd (zv 2) (zk (.int 3))) znil)))) znil))))) (zcons (zs mkTup (zcons (zk (.str "label")) znil)) znil))))))
def c__law_rounded : SC := (sseq (spar [2, 3, 4] (zcons (zs (zfc 2 F__law_pick) (zcons (zv 0) (zcons (zs mkLstF (zcons (zk (.int 2)) (zcons (zk (.int 4)) (zcons (zk (.int 8)) (zcons (zk (.int 16)) (zcons (zk (.int 64)) znil)))))) znil))) (zcons (z2 zAdd (zk (.int 1)) (zs (zfc 2 F__law_draw) (zcons (zv 0) (zcons (zv 1) znil)))) (zcons (zs mkLst znil) znil)))) (sseq (sset 5 (z2 zEq (zs (zfc 2 F__law_draw) (zcons (zv 0) (zcons (zk (.int 2)) znil))) (zk (.int 0)))) (sseq (sfor (tgN 6) (zrange1 (zv 3)) L__law_rounded_1) (sseq (sexpr (zmt isL zAppend (zv 4) (zcons (zs mkTup (zcons (zk (.str "fill")) (zcons (zv 2) znil))) znil))) (sseq (sif (zt (z2 zEq (zs (zfc 2 F__law_draw) (zcons (zv 0) (zcons (zk (.int 3)) znil))) (zk (.int 0)))) (sexpr (zmt isL zAppend (zv 4) (zcons (zs mkTup (zcons (zk (.str "fill")) (zcons (zs (zfc 2 F__law_pick) (zcons (zv 0) (zcons (zs mkLstF (zcons (zk (.int 2)) (zcons (zk (.int 4)) znil))) znil))) znil))) znil))) sskip) (sseq (sset 8 (zs mkTup (zcons (zk (.str "jump")) (zcons (zif (zt (zv 5)) (zk (.int 0)) (z2 zAdd (zs zLen (zcons (zv 4) znil)) (zk (.int 1)))) (zcons (zk (.int 2)) (zcons (z2 zAdd (zk (.int 3)) (zs (zfc 2 F__law_draw) (zcons (zv 0) (zcons (z2 zAdd (zv 2) (zk (.int 3))) znil)))) znil)))))) (sret (zif (zt (zv 5)) (z2 zAdd (z2 zAdd (zs mkTup (zcons (zs mkTup (zcons (zk (.str "label")) znil)) znil)) (zs zTuple (zcons (zv 4) znil))) (zs mkTup (zcons (zv 8) znil))) (z2 zAdd (z2 zAdd (zs mkTup (zcons (zv 8) znil)) (zs zTuple (zcons (zv 4) znil))) (zs mkTup (zcons (zs mkTup (zcons (zk (.str "label")) znil)) znil)))))))))))
def F__law_rounded : Fn := fnB 9 c__law_rounded
def L__law_sharp_1 : SC := (sexpr (zmt isL zAppend (zv 12) (zcons (zif (zt (z2 zEq (zv 13) (zv 7))) (z2 zAdd (zv 9) (zv 11)) (zs zMax (zcons (zk (.int 0)) (zcons (z2 zAdd (zv 14) (zs (zfc 2 F__law_pick) (zcons (zv 0) (zcons (zs mkLstF (zcons (z1 zNeg (zk (.int 1))) (zcons (z1 zNeg (zk (.int 1))) (zcons (z1 zNeg (zk (.int 1))) (zcons (z1 zNeg (zk (.int 1))) (zcons (z1 zNeg (zk (.int 1))) (zcons (z1 zNeg (zk (.int 1))) (zcons (zk (.int 0)) (zcons (zk (.int 2)) znil))))))))) znil)))) znil)))) znil)))
def c__law_sharp : SC := (sseq (spar [4, 5] (zcons (zs (zfc 1 F__law_top) (zcons (zv 1) znil)) (zcons (zs (zfc 1 F__law_jumps) (zcons (zv 1) znil)) znil))) (sseq (sset 6 (zcomp frzl [13] (zitems (zv 5)) (tgN 13) ztyes (zs (zfc 4 F__law_way) (zcons (zv 1) (zcons (zv 2) (zcons (zs mkLstF znil) (zcons (zv 13) znil))))))) (sseq (sset 7 (z2 zIx (zv 5) (zmt isL zIndex (zv 6) (zcons (zs zMax (zcons (zv 6) znil)) znil)))) (sseq (sset 8 (zcomp frzl [13] (zitems (zv 5)) (tgN 13) (zt (z2 zNe (zv 13) (zv 7))) (zv 13))) (sseq (spar [9, 10] (zcons (zs (zfc 4 F__law_way) (zcons (zv 1) (zcons (zv 2) (zcons (zv 8) (zcons (zv 7) znil))))) (zcons (z2 zAdd (zs zMax (zcons (zv 6) znil)) (zs zSum (zcons (zcomp frzl [13] (zitems (zv 8)) (tgN 13) ztyes (z2 zSub (z2 zIx (z2 zIx (zv 1) (zv 13)) (zk (.int 3))) (z2 zIx (z2 zIx (zv 1) (zv 13)) (zk (.int 2))))) znil))) znil))) (sseq (sset 11 (z2 zSub (z2 zMul (z2 zAdd (zk (.int 1)) (zs (zfc 2 F__law_draw) (zcons (zv 0) (zcons (zv 3) znil)))) (zv 4)) (zs zInt (zcons (z2 zGt (zv 9) (zv 10)) znil)))) (sseq (sset 12 (zs mkLst znil)) (sseq (sfor (tgT (tgsCons (tgN 13) (tgsCons (tgN 14) tgsNil))) (zzip (zv 5) (zv 6)) L__law_sharp_1) (sret (zs zTuple (zcons (zv 12) znil)))))))))))
def F__law_sharp : Fn := fnB 15 c__law_sharp
def c_serves : SC := (sret (z2 zEq (zs (zfc 2 F_stuck) (zcons (zv 0) (zcons (zv 1) znil))) (zs mkTup znil)))
def F_serves : Fn := fnB 2 c_serves
def c_steady_error : SC := (sseq (sset 1 (zs (zfc 1 F_triples) (zcons (zv 0) znil))) (sret (zif (zt (z2 zNe (zv 1) (zs mkTup znil))) (z2 zIx (zv 1) (zk (.int 0))) (zk .none))))
def F_steady_error : Fn := fnB 2 c_steady_error
def L_filled_up_1 : SC := (sseq (sset 1 (zs zTuple (zcons (zs zSort (zcons (z2 zAdd (zv 1) (zv 2)) znil)) znil))) (sset 2 (zs (zfc 2 F_stuck) (zcons (zv 0) (zcons (zv 1) znil)))))
def c_filled_up : SC := (sseq (sset 2 (zs (zfc 2 F_stuck) (zcons (zv 0) (zcons (zv 1) znil)))) (sseq (swhile 64 (zt (z2 zNe (zv 2) (zs mkTup znil))) L_filled_up_1) (sret (zv 1))))
def F_filled_up : Fn := fnB 3 c_filled_up
def L_steps_wanted_1 : SC := (sif (ztand (zt (z2 zNotIn (zv 8) (zv 1))) (zt (zs (zfc 3 F_holds_length) (zcons (zv 4) (zcons (zv 8) (zcons (zv 2) znil)))))) (sexpr (zmt isL zAppend (zv 7) (zcons (z2 zAdd (z2 zDiv (z2 zSub (zv 9) (zs (zfc 4 F_way_of) (zcons (zv 4) (zcons (zv 5) (zcons (zv 1) (zcons (zv 8) znil)))))) (zv 3)) (zk (.int 1))) znil))) sskip)
def c_steps_wanted : SC := (sseq (stg (tgT (tgsCons (tgN 4) (tgsCons (tgN 5) (tgsCons (tgN 6) tgsNil)))) (zv 0)) (sseq (sset 7 (zs mkLst znil)) (sseq (sfor (tgT (tgsCons (tgN 8) (tgsCons (tgN 9) tgsNil))) (zzip (zs (zfc 1 F_jumps_of) (zcons (zv 4) znil)) (zv 6)) L_steps_wanted_1) (sret (zif (zt (z2 zNe (zv 7) (zs mkLstF znil))) (zs zMin (zcons (zv 7) znil)) (zk .none))))))
def F_steps_wanted : Fn := fnB 10 c_steps_wanted
def L__law_least_1 : SC := (sseq (sset 3 (zs zSort (zcons (z2 zAdd (zv 3) (zv 4)) znil))) (sset 4 (zs (zfc 4 F__law_stuck) (zcons (zv 0) (zcons (zv 1) (zcons (zv 2) (zcons (zv 3) znil)))))))
def c__law_least : SC := (sseq (spar [3, 4] (zcons (zs mkLstF znil) (zcons (zs (zfc 4 F__law_stuck) (zcons (zv 0) (zcons (zv 1) (zcons (zv 2) (zcons (zs mkLstF znil) znil))))) znil))) (sseq (swhile 64 (zt (z2 zNe (zv 4) (zs mkLstF znil))) L__law_least_1) (sret (zs zTuple (zcons (zv 3) znil)))))
def F__law_least : Fn := fnB 5 c__law_least
def c_serving : SC := (sret (zs zTuple (zcons (zcomp frzl [1] (zitems (zs (zfc 1 F_all_choices) (zcons (z2 zIx (zv 0) (zk (.int 0))) znil))) (tgN 1) (zt (zs (zfc 2 F_serves) (zcons (zv 0) (zcons (zv 1) znil)))) (zv 1)) znil)))
def F_serving : Fn := fnB 2 c_serving
def L_turning_1 : SC := (sseq (sset 10 (zs (zfc 4 F_steps_wanted) (zcons (zs mkTup (zcons (zv 3) (zcons (zv 4) (zcons (zv 5) znil)))) (zcons (zv 9) (zcons (zv 1) (zcons (zv 7) znil)))))) (sseq (sif (zt (z2 (zIs false) (zv 10) (zk .none))) (sret (zk .none)) sskip) (sseq (spar [8, 4] (zcons (z2 zAdd (zv 8) (zv 10)) (zcons (zs (zfc 3 F_lengthened) (zcons (zv 4) (zcons (zv 1) (zcons (z2 zMul (zv 10) (zv 7)) znil)))) znil))) (sset 9 (zs (zfc 2 F_filled_up) (zcons (zs mkTup (zcons (zv 3) (zcons (zv 4) (zcons (zv 5) znil)))) (zcons (zv 9) znil)))))))
def c_turning : SC := (sseq (stg (tgT (tgsCons (tgN 3) (tgsCons (tgN 4) (tgsCons (tgN 5) tgsNil)))) (zv 0)) (sseq (sset 6 (zs (zfc 1 F_steady_error) (zcons (zv 3) znil))) (sseq (sif (zt (z2 (zIs true) (zv 6) (zk .none))) (sraise1 "Loose" "triple" (zv 6)) sskip) (sseq (spar [7, 8, 9] (zcons (zs (zfc 1 F_step_of) (zcons (zv 3) znil)) (zcons (zk (.int 0)) (zcons (zs (zfc 2 F_filled_up) (zcons (zv 0) (zcons (zs mkTup znil) znil))) znil)))) (sseq (swhile 64 (zt (z2 zNotIn (zv 2) (zv 9))) L_turning_1) (sret (zv 8)))))))
def F_turning : Fn := fnB 11 c_turning
def L_least_choice_1 : SC := (sif (ztnot (zt (zs (zfc 2 F_is_within) (zcons (zv 2) (zcons (zv 3) znil))))) (sraise1 "NoLeast" "paper" (zs mkTup (zcons (zv 2) (zcons (zv 3) znil)))) sskip)
def c_least_choice : SC := (sseq (sset 1 (zs (zfc 1 F_serving) (zcons (zv 0) znil))) (sseq (sset 2 (zMinLen (zv 1))) (sseq (sfor (tgN 3) (zitems (zv 1)) L_least_choice_1) (sret (zv 2)))))
def F_least_choice : Fn := fnB 4 c_least_choice
def L_law_1 : SC := (sseq (sset 15 (zs zTuple (zcons (zcomp frzl [18, 19] (zzip (zv 9) (zv 10)) (tgT (tgsCons (tgN 18) (tgsCons (tgN 19) tgsNil))) (ztand (zt (z2 (zIs true) (zv 19) (zk .none))) (zt (z2 zLe (zv 19) (zv 14)))) (zv 18)) znil))) (sseq (sset 16 (zs (zfc 3 F__law_longer) (zcons (zv 6) (zcons (zv 8) (zcons (z2 zMul (zv 14) (zv 4)) znil))))) (sseq (sif (ztor (zt (z2 zNe (zs (zfc 3 F__law_least) (zcons (zv 5) (zcons (zv 16) (zcons (zv 7) znil)))) (zv 15))) (zt (z2 zNe (zcomp frzl [18] (zitems (zv 13)) (tgN 18) (zt (z2 zNotIn (zv 18) (zv 15))) (zv 18)) (zs mkLstF znil)))) (sret (zk (.bool false))) sskip) (sseq (sif (ztand (zt (z2 zLt (zv 3) (zk (.int 5)))) (ztand (zt (z2 zLe (z2 zIx (zv 16) (zv 8)) (z2 zPow (zk (.int 10)) (zk (.int 9))))) (zt (z2 zNe (zs zShow (zcons (zs (zfc 1 F_least_choice) (zcons (zs mkTup (zcons (zv 5) (zcons (zv 16) (zcons (zv 7) znil)))) znil)) znil)) (zs zShow (zcons (zv 15) znil)))))) (sret (zk (.bool false))) sskip) (sset 13 (zv 15))))))
def L_law_2 : SC := (sseq (spar [3, 4] (zcons (z2 zIx (zs mkLstF (zcons (zk (.int 2)) (zcons (zk (.int 3)) (zcons (zk (.int 4)) (zcons (z2 zAdd (zk (.int 5)) (zs (zfc 2 F__law_draw) (zcons (zv 1) (zcons (zk (.int 2)) znil)))) znil))))) (zv 2)) (zcons (zs (zfc 2 F__law_pick) (zcons (zv 1) (zcons (zs mkLstF (zcons (zk (.int 2)) (zcons (zk (.int 8)) (zcons (zk (.int 64)) znil)))) znil))) znil))) (sseq (sset 5 (zs (zfc 6 F__law_frame) (zcons (zv 1) (zcons (zv 3) (zcons (zs (zfc 2 F__law_draw) (zcons (zv 1) (zcons (zk (.int 4)) znil))) (zcons (z2 zAdd (zk (.int 1)) (zs (zfc 2 F__law_draw) (zcons (zv 1) (zcons (zk (.int 3)) znil)))) (zcons (zv 4) (zcons (zk (.int 9)) znil)))))))) (sseq (sset 5 (zs (zfc 2 F__law_calm) (zcons (zv 1) (zcons (zv 5) znil)))) (sseq (sset 5 (zif (zt (z2 zEq (zv 2) (zk (.int 2)))) (zs (zfc 2 F__law_rounded) (zcons (zv 1) (zcons (zk (.int 3)) znil))) (zv 5))) (sseq (spar [6, 4] (zcons (z2 zAdd (zs zTuple (zcons (zcomp frzl [21] (zitems (zv 5)) (tgN 21) ztyes (z2 zAdd (zs (zfc 2 F__law_draw) (zcons (zv 1) (zcons (zk (.int 9)) znil))) (zs zInt (zcons (z2 zEq (zv 2) (zk (.int 2))) znil)))) znil)) (zs mkTup (zcons (zk (.int 0)) znil))) (zcons (zs (zfc 1 F__law_top) (zcons (zv 5) znil)) znil))) (sseq (sset 7 (zs zTuple (zcons (zcomp frzl [20] (zitems (zs (zfc 3 F__law_spans) (zcons (zv 1) (zcons (zv 5) (zcons (zv 6) znil))))) (tgN 20) ztyes (z2 zAdd (zv 20) (z2 zMul (zv 4) (zs (zfc 2 F__law_draw) (zcons (zv 1) (zcons (zk (.int 5)) znil)))))) znil))) (sseq (sset 7 (zif (zt (z2 zEq (zv 2) (zk (.int 2)))) (zs (zfc 4 F__law_sharp) (zcons (zv 1) (zcons (zv 5) (zcons (zv 6) (zcons (zk (.int 9)) znil))))) (zv 7))) (sseq (spar [8, 9] (zcons (zs (zfc 2 F__law_draw) (zcons (zv 1) (zcons (zs zLen (zcons (zv 6) znil)) znil))) (zcons (zs (zfc 1 F__law_jumps) (zcons (zv 5) znil)) znil))) (sseq (sset 10 (zcomp frzl [18] (zitems (zv 9)) (tgN 18) ztyes (zs (zfc 3 F_turning) (zcons (zs mkTup (zcons (zv 5) (zcons (zv 6) (zcons (zv 7) znil)))) (zcons (zv 8) (zcons (zv 18) znil)))))) (sseq (sset 11 (zcomp frzl [19] (zitems (zv 10)) (tgN 19) (zt (z2 (zIs true) (zv 19) (zk .none))) (zv 19))) (sseq (sset 12 (z1 zSortSet (z2 zAdd (z2 zAdd (zs mkLstF (zcons (zk (.int 0)) (zcons (zk (.int 1)) (zcons (z2 zPow (zk (.int 10)) (zk (.int 6))) znil)))) (zv 11)) (zcomp frzl [19] (zitems (zv 11)) (tgN 19) (zt (z2 zGt (zv 19) (zk (.int 0)))) (z2 zSub (zv 19) (zk (.int 1))))))) (sseq (sset 12 (zif (zt (z2 zLt (zs zLen (zcons (zv 12) znil)) (zk (.int 8)))) (zv 12) (zs zSort (zcons (zslice (zs (zfc 2 F__law_mixed) (zcons (zv 1) (zcons (zv 12) znil))) zno (zpart (zk (.int 6)))) znil)))) (sseq (sset 13 (zs mkTup znil)) (sseq (sfor (tgN 14) (zitems (zv 12)) L_law_1) (sseq (sset 17 (zs zMax (zcons (zcomp frzl [18] (zitems (zv 9)) (tgN 18) ztyes (zs zMax (zcons (zv 18) (zcons (z2 zIx (z2 zIx (zv 5) (zv 18)) (zk (.int 1))) znil)))) znil))) (sif (ztand (zt (z2 zGt (zv 8) (zv 17))) (zt (z2 zNe (zcomp frzl [19] (zitems (zv 10)) (tgN 19) (zt (z2 zNotIn (zv 19) (zs mkTup (zcons (zk (.int 0)) (zcons (zk .none) znil))))) (zv 19)) (zs mkLstF znil)))) (sret (zk (.bool false))) sskip))))))))))))))))
def c_law : SC := (sseq (sset 1 (zs (zfc 1 F__law_loom) (zcons (zv 0) znil))) (sseq (sfor (tgN 2) (zrange1 (zk (.int 4))) L_law_2) (sret (zk (.bool true)))))
def F_law : Fn := fnB 22 c_law
section
variable {P : Program} {w : World} {K : PySem.W.Frag} {mg : Str → Option Value} {base : Heap}
theorem sc_jumps_of : FnScope N_jumps_of ["skeleton"] (defScope s_jumps_of) := ⟨rfl, rfl, rfl, by decide +kernel, rfl, by decide +kernel, by decide +kernel⟩
theorem ok_jumps_of (fx : FX P K mg) : FnG P w K mg base 1 fx.a_jumps_of fx.d_jumps_of ["skeleton"] (spZ K mg F_jumps_of 1) :=
  zfn fx.f_jumps_of sc_jumps_of fun cdv A outer s H E B => ((.one (.ret (.callTy zTuple_ok (by rfl) fx.n_tuple (by rfl) (.cons (ZE.comp (own := [("place", 1), ("item", 2)]) fin_f B.zx (.enum (by rfl) fx.n_enumerate (.v 0)) (blkOk_by (by rfl)) (by decide) (fun s1 h1 _ _ p1 => (.two (B.blk s1 h1 _ _ p1).zx.calm (.name (B.blk s1 h1 _ _ p1).zx.nd 1) (.name (B.blk s1 h1 _ _ p1).zx.nd 2))) (fun s1 h1 _ _ p1 => (.one (.cmp (zEq_ok (B.blk s1 h1 _ _ p1).zx) (.ix (B.blk s1 h1 _ _ p1).zx (.v 2) .int) .str))) (fun s1 h1 _ _ p1 => (.v 1))) .nil)))))
theorem sc_bytes_at : FnScope N_bytes_at ["item", "place", "is_long"] (defScope s_bytes_at) := ⟨rfl, rfl, rfl, by decide +kernel, rfl, by decide +kernel, by decide +kernel⟩
theorem ok_bytes_at (fx : FX P K mg) : FnG P w K mg base 1 fx.a_bytes_at fx.d_bytes_at ["item", "place", "is_long"] (spZ K mg F_bytes_at 3) :=
  zfn fx.f_bytes_at sc_bytes_at fun cdv A outer s H E B => ((.cons (.ife (.cmp (zEq_ok B.zx) (.ix B.zx (.v 0) .int) .str)
  (.one (.ret .int))
  .nil)
  (.cons (.ife (.cmp (zEq_ok B.zx) (.ix B.zx (.v 0) .int) .str)
  (.one (.ret (.op2 zMod_ok (.op1 zNeg_ok (.v 1)) (.ix B.zx (.v 0) .int))))
  .nil)
  (.one (.ret (.ife (.val (.v 2)) (.ix B.zx (.v 0) .int) (.ix B.zx (.v 0) .int)))))))
theorem sc_in_way : FnScope N_in_way ["skeleton", "jump"] (defScope s_in_way) := ⟨rfl, rfl, rfl, by decide +kernel, rfl, by decide +kernel, by decide +kernel⟩
theorem ok_in_way (fx : FX P K mg) : FnG P w K mg base 1 fx.a_in_way fx.d_in_way ["skeleton", "jump"] (spZ K mg F_in_way 2) :=
  zfn fx.f_in_way sc_in_way fun cdv A outer s H E B => ((.cons (.set B.zx.nd 2 (.ix B.zx (.ix B.zx (.v 0) (.v 1)) .int))
  (.one (.ret (.tupRg B.zx (by rfl) fx.n_tuple (.two (by rfl) fx.n_range (.op2 zAdd_ok (.callB (zMin_ok B.zx) (by rfl) fx.n_min (by rfl) (.cons (.v 1) (.cons (.v 2) .nil))) .int) (.callB (zMax_ok B.zx) (by rfl) fx.n_max (by rfl) (.cons (.v 1) (.cons (.v 2) .nil)))))))))
theorem sc_ahead_of_way : FnScope N_ahead_of_way ["skeleton", "jump"] (defScope s_ahead_of_way) := ⟨rfl, rfl, rfl, by decide +kernel, rfl, by decide +kernel, by decide +kernel⟩
theorem ok_ahead_of_way (fx : FX P K mg) : FnG P w K mg base 1 fx.a_ahead_of_way fx.d_ahead_of_way ["skeleton", "jump"] (spZ K mg F_ahead_of_way 2) :=
  zfn fx.f_ahead_of_way sc_ahead_of_way fun cdv A outer s H E B => ((.one (.ret (.tupRg B.zx (by rfl) fx.n_tuple (.one (by rfl) fx.n_range (.callB (zMin_ok B.zx) (by rfl) fx.n_min (by rfl) (.cons (.v 1) (.cons (.ix B.zx (.ix B.zx (.v 0) (.v 1)) .int) .nil))))))))
theorem sc_way_between : FnScope N_way_between ["skeleton", "spots", "jump"] (defScope s_way_between) := ⟨rfl, rfl, rfl, by decide +kernel, rfl, by decide +kernel, by decide +kernel⟩
theorem ok_way_between (fx : FX P K mg) : FnG P w K mg base 1 fx.a_way_between fx.d_way_between ["skeleton", "spots", "jump"] (spZ K mg F_way_between 3) :=
  zfn fx.f_way_between sc_way_between fun cdv A outer s H E B => ((.cons (.set B.zx.nd 3 (.ix B.zx (.ix B.zx (.v 0) (.v 2)) .int))
  (.cons (.ife (.cmp zGt_ok (.v 3) (.v 2))
  (.one (.ret (.op2 zSub_ok (.ix B.zx (.ix B.zx (.v 1) (.v 3)) .int) (.ix B.zx (.ix B.zx (.v 1) (.v 2)) .int))))
  .nil)
  (.one (.ret (.op2 zSub_ok (.ix B.zx (.ix B.zx (.v 1) (.v 2)) .int) (.ix B.zx (.ix B.zx (.v 1) (.v 3)) .int)))))))
theorem sc_is_within : FnScope N_is_within ["choice", "other"] (defScope s_is_within) := ⟨rfl, rfl, rfl, by decide +kernel, rfl, by decide +kernel, by decide +kernel⟩
theorem ok_is_within (fx : FX P K mg) : FnG P w K mg base 1 fx.a_is_within fx.d_is_within ["choice", "other"] (spZ K mg F_is_within 2) :=
  zfn fx.f_is_within sc_is_within fun cdv A outer s H E B => ((.one (.ret (.callB (zAll_ok B.zx) (by rfl) fx.n_all (by rfl) (.cons (ZE.comp (own := [("jump", 2)]) fin_f B.zx (.seq (.v 0)) (blkOk_by (by rfl)) (by decide) (fun s1 h1 _ _ p1 => (.name (B.blk s1 h1 _ _ p1).zx.nd 2)) (fun s1 h1 _ _ p1 => .nil) (fun s1 h1 _ _ p1 => (.cmp (zIn_ok (B.blk s1 h1 _ _ p1).zx) (.v 2) (.v 1)))) .nil)))))
theorem sc_growth : FnScope N_growth ["item"] (defScope s_growth) := ⟨rfl, rfl, rfl, by decide +kernel, rfl, by decide +kernel, by decide +kernel⟩
theorem ok_growth (fx : FX P K mg) : FnG P w K mg base 1 fx.a_growth fx.d_growth ["item"] (spZ K mg F_growth 1) :=
  zfn fx.f_growth sc_growth fun cdv A outer s H E B => ((.one (.ret (.op2 zSub_ok (.ix B.zx (.v 0) .int) (.ix B.zx (.v 0) .int)))))
theorem sc_is_kept_away : FnScope N_is_kept_away ["skeleton", "other", "fill"] (defScope s_is_kept_away) := ⟨rfl, rfl, rfl, by decide +kernel, rfl, by decide +kernel, by decide +kernel⟩
theorem ok_is_kept_away (fx : FX P K mg) : FnG P w K mg base 1 fx.a_is_kept_away fx.d_is_kept_away ["skeleton", "other", "fill"] (spZ K mg F_is_kept_away 3) :=
  zfn fx.f_is_kept_away sc_is_kept_away fun cdv A outer s H E B => ((.cons (.set B.zx.nd 3 (.sl (.v 0) (.some (.op2 zAdd_ok (.v 1) .int)) (.some (.v 2))))
  (.one (.ret (.callB (zAny_ok B.zx) (by rfl) fx.n_any (by rfl) (.cons (ZE.comp (own := [("item", 4)]) fin_f B.zx (.seq (.v 3)) (blkOk_by (by rfl)) (by decide) (fun s1 h1 _ _ p1 => (.name (B.blk s1 h1 _ _ p1).zx.nd 4)) (fun s1 h1 _ _ p1 => .nil) (fun s1 h1 _ _ p1 => (.and (.cmp (zEq_ok (B.blk s1 h1 _ _ p1).zx) (.ix (B.blk s1 h1 _ _ p1).zx (.v 4) .int) .str) (.one (.cmp zGe_ok (.ix (B.blk s1 h1 _ _ p1).zx (.v 4) .int) (.ix (B.blk s1 h1 _ _ p1).zx (.ix (B.blk s1 h1 _ _ p1).zx (.v 0) (.v 2)) .int)))))) .nil))))))
theorem sc_step_of : FnScope N_step_of ["skeleton"] (defScope s_step_of) := ⟨rfl, rfl, rfl, by decide +kernel, rfl, by decide +kernel, by decide +kernel⟩
theorem ok_step_of (fx : FX P K mg) : FnG P w K mg base 1 fx.a_step_of fx.d_step_of ["skeleton"] (spZ K mg F_step_of 1) :=
  zfn fx.f_step_of sc_step_of fun cdv A outer s H E B => ((.one (.ret (.callB (zMax_ok B.zx) (by rfl) fx.n_max (by rfl) (.cons (.op2 zAdd_ok (.lstF (.cons .int .nil)) (ZE.comp (own := [("item", 1)]) fin_f B.zx (.seq (.v 0)) (blkOk_by (by rfl)) (by decide) (fun s1 h1 _ _ p1 => (.name (B.blk s1 h1 _ _ p1).zx.nd 1)) (fun s1 h1 _ _ p1 => (.one (.cmp (zEq_ok (B.blk s1 h1 _ _ p1).zx) (.ix (B.blk s1 h1 _ _ p1).zx (.v 1) .int) .str))) (fun s1 h1 _ _ p1 => (.ix (B.blk s1 h1 _ _ p1).zx (.v 1) .int)))) .nil)))))
theorem sc_holds_length : FnScope N_holds_length ["skeleton", "jump", "place"] (defScope s_holds_length) := ⟨rfl, rfl, rfl, by decide +kernel, rfl, by decide +kernel, by decide +kernel⟩
theorem ok_holds_length (fx : FX P K mg) : FnG P w K mg base 1 fx.a_holds_length fx.d_holds_length ["skeleton", "jump", "place"] (spZ K mg F_holds_length 3) :=
  zfn fx.f_holds_length sc_holds_length fun cdv A outer s H E B => ((.cons (.set B.zx.nd 3 (.ix B.zx (.ix B.zx (.v 0) (.v 1)) .int))
  (.one (.ret (.chain zLt_ok zLe_ok (.callB (zMin_ok B.zx) (by rfl) fx.n_min (by rfl) (.cons (.v 1) (.cons (.v 3) .nil))) (.v 2) (.callB (zMax_ok B.zx) (by rfl) fx.n_max (by rfl) (.cons (.v 1) (.cons (.v 3) .nil))))))))
theorem sc_lengthened : FnScope N_lengthened ["lengths", "place", "more"] (defScope s_lengthened) := ⟨rfl, rfl, rfl, by decide +kernel, rfl, by decide +kernel, by decide +kernel⟩
theorem ok_lengthened (fx : FX P K mg) : FnG P w K mg base 1 fx.a_lengthened fx.d_lengthened ["lengths", "place", "more"] (spZ K mg F_lengthened 3) :=
  zfn fx.f_lengthened sc_lengthened fun cdv A outer s H E B => ((.one (.ret (.op2 zAdd_ok (.op2 zAdd_ok (.sl (.v 0) .none (.some (.v 1))) (.tup (.cons (.op2 zAdd_ok (.ix B.zx (.v 0) (.v 1)) (.v 2)) .nil))) (.sl (.v 0) (.some (.op2 zAdd_ok (.v 1) .int)) .none)))))
theorem sc__law_loom : FnScope N__law_loom ["script"] (defScope s__law_loom) := ⟨rfl, rfl, rfl, by decide +kernel, rfl, by decide +kernel, by decide +kernel⟩
theorem ok__law_loom (fx : FX P K mg) : FnG P w K mg base 1 fx.a__law_loom fx.d__law_loom ["script"] (spZ K mg F__law_loom 1) :=
  zfn fx.f__law_loom sc__law_loom fun cdv A outer s H E B => ((.cons (.par2 B.zx 1 2 (.cons (ZE.comp (own := [("cell", 3)]) fin_f B.zx (.seq (.sl (.v 0) .none (.some .int))) (blkOk_by (by rfl)) (by decide) (fun s1 h1 _ _ p1 => (.name (B.blk s1 h1 _ _ p1).zx.nd 3)) (fun s1 h1 _ _ p1 => .nil) (fun s1 h1 _ _ p1 => (.op2 zAdd_ok (.op2 zMul_ok .int (.callB zAbs_ok (by rfl) fx.n_abs (by rfl) (.cons (.v 3) .nil))) (.callTy zInt_ok (by rfl) fx.n_int (by rfl) (.cons (.cmp zLt_ok (.v 3) .int) .nil))))) (.cons (.op2 zAdd_ok .int (.op2 zMul_ok .int (.callB zLen_ok (by rfl) fx.n_len (by rfl) (.cons (.v 0) .nil)))) .nil)))
  (.cons (.for_ B.zx (.seq (.v 1)) (.name B.zx.nd 3)
  (.one (.set B.zx.nd 2 (.op2 zMod_ok (.callTy zInt_ok (by rfl) fx.n_int (by rfl) (.cons (.op2 zAdd_ok (.op2 zAdd_ok (.op2 zMul_ok (.v 2) .int) (.v 3)) .int) .nil)) .int))))
  (.one (.ret (ZE.disp (.cons .str (ZE.comp (own := [("cell", 3)]) fin_m B.zx (.seq (.v 1)) (blkOk_by (by rfl)) (by decide) (fun s2 h2 _ _ p2 => (.name (B.blk s2 h2 _ _ p2).zx.nd 3)) (fun s2 h2 _ _ p2 => (.one (.cmp zGe_ok (.v 3) (.op2 zPow_ok .int .int)))) (fun s2 h2 _ _ p2 => (.v 3))) (.cons .str (.v 2) (.cons .str .int .nil)))))))))
theorem sc__law_draw : FnScope N__law_draw ["loom", "many"] (defScope s__law_draw) := ⟨rfl, rfl, rfl, by decide +kernel, rfl, by decide +kernel, by decide +kernel⟩
theorem ok__law_draw (fx : FX P K mg) : FnG P w K mg base 1 fx.a__law_draw fx.d__law_draw ["loom", "many"] (spZ K mg F__law_draw 2) :=
  zfn fx.f__law_draw sc__law_draw fun cdv A outer s H E B => ((.cons (.ife (.cmp zLt_ok (.v 1) .int)
  (.one (.ret .int))
  .nil)
  (.cons (.ife (.cmp (zNe_ok B.zx) (.ix B.zx (.v 0) .str) (.lstF .nil))
  (.cons (.set B.zx.nd 2 (.meth0 PySem.F.plainAttrs_list PySem.F.slot_list_pop PySem.F.type_list_pop zPop_ok isL_ok (.ix B.zx (.v 0) .str)))
  (.cons (.ife (.cmp zGe_ok (.v 2) (.v 1))
  (.one (.expr (.meth PySem.F.plainAttrs_list PySem.F.slot_list_append PySem.F.type_list_append zAppend_ok isL_ok (.ix B.zx (.v 0) .str) (.cons (.op2 zDiv_ok (.v 2) (.v 1)) .nil))))
  .nil)
  (.one (.ret (.op2 zMod_ok (.callTy zInt_ok (by rfl) fx.n_int (by rfl) (.cons (.v 2) .nil)) (.v 1))))))
  .nil)
  (.cons (.store (zDput_ok B.zx) (.op2 zAdd_ok (.ix B.zx (.v 0) .str) .int) (.v 0) .str)
  (.cons (.set B.zx.nd 3 (.op2 zMod_ok (.callTy zInt_ok (by rfl) fx.n_int (by rfl) (.cons (.op2 zAdd_ok (.ix B.zx (.v 0) .str) (.op2 zMul_ok .int (.ix B.zx (.v 0) .str))) .nil)) .int))
  (.cons (.set B.zx.nd 3 (.op2 zMod_ok (.callTy zInt_ok (by rfl) fx.n_int (by rfl) (.cons (.op2 zAdd_ok (.op2 zAdd_ok (.op2 zMul_ok (.v 3) (.v 3)) (.op2 zMul_ok .int (.ix B.zx (.v 0) .str))) .int) .nil)) .int))
  (.cons (.set B.zx.nd 3 (.op2 zMod_ok (.callTy zInt_ok (by rfl) fx.n_int (by rfl) (.cons (.op2 zAdd_ok (.op2 zMul_ok (.v 3) (.v 3)) (.ix B.zx (.v 0) .str)) .nil)) .int))
  (.one (.ret (.op2 zMod_ok (.callTy zInt_ok (by rfl) fx.n_int (by rfl) (.cons (.op2 zDiv_ok (.v 3) .int) .nil)) (.v 1)))))))))))
theorem sc__law_jumps : FnScope N__law_jumps ["frame"] (defScope s__law_jumps) := ⟨rfl, rfl, rfl, by decide +kernel, rfl, by decide +kernel, by decide +kernel⟩
theorem ok__law_jumps (fx : FX P K mg) : FnG P w K mg base 1 fx.a__law_jumps fx.d__law_jumps ["frame"] (spZ K mg F__law_jumps 1) :=
  zfn fx.f__law_jumps sc__law_jumps fun cdv A outer s H E B => ((.one (.ret (ZE.comp (own := [("at", 1), ("item", 2)]) fin_f B.zx (.enum (by rfl) fx.n_enumerate (.v 0)) (blkOk_by (by rfl)) (by decide) (fun s1 h1 _ _ p1 => (.two (B.blk s1 h1 _ _ p1).zx.calm (.name (B.blk s1 h1 _ _ p1).zx.nd 1) (.name (B.blk s1 h1 _ _ p1).zx.nd 2))) (fun s1 h1 _ _ p1 => (.one (.cmp (zEq_ok (B.blk s1 h1 _ _ p1).zx) (.ix (B.blk s1 h1 _ _ p1).zx (.v 2) .int) .str))) (fun s1 h1 _ _ p1 => (.v 1))))))
theorem sc__law_top : FnScope N__law_top ["frame"] (defScope s__law_top) := ⟨rfl, rfl, rfl, by decide +kernel, rfl, by decide +kernel, by decide +kernel⟩
theorem ok__law_top (fx : FX P K mg) : FnG P w K mg base 1 fx.a__law_top fx.d__law_top ["frame"] (spZ K mg F__law_top 1) :=
  zfn fx.f__law_top sc__law_top fun cdv A outer s H E B => ((.one (.ret (.callB (zMax_ok B.zx) (by rfl) fx.n_max (by rfl) (.cons (.op2 zAdd_ok (.lstF (.cons .int .nil)) (ZE.comp (own := [("item", 1)]) fin_f B.zx (.seq (.v 0)) (blkOk_by (by rfl)) (by decide) (fun s1 h1 _ _ p1 => (.name (B.blk s1 h1 _ _ p1).zx.nd 1)) (fun s1 h1 _ _ p1 => (.one (.cmp (zEq_ok (B.blk s1 h1 _ _ p1).zx) (.ix (B.blk s1 h1 _ _ p1).zx (.v 1) .int) .str))) (fun s1 h1 _ _ p1 => (.ix (B.blk s1 h1 _ _ p1).zx (.v 1) .int)))) .nil)))))
theorem sc__law_laid : FnScope N__law_laid ["frame", "gaps", "longs"] (defScope s__law_laid) := ⟨rfl, rfl, rfl, by decide +kernel, rfl, by decide +kernel, by decide +kernel⟩
theorem ok__law_laid (fx : FX P K mg) : FnG P w K mg base 1 fx.a__law_laid fx.d__law_laid ["frame", "gaps", "longs"] (spZ K mg F__law_laid 3) :=
  zfn fx.f__law_laid sc__law_laid fun cdv A outer s H E B => ((.cons (.par2 B.zx 3 4 (.cons .int (.cons (ZE.lst .nil) .nil)))
  (.cons (.for_ B.zx (.enum (by rfl) fx.n_enumerate (.v 0)) (.two B.zx.calm (.name B.zx.nd 5) (.name B.zx.nd 6))
  (.cons (.set B.zx.nd 7 (.op2 zAdd_ok (.v 3) (.ix B.zx (.v 1) (.v 5))))
  (.cons (.set B.zx.nd 3 (.v 7))
  (.cons (.ife (.cmp (zEq_ok B.zx) (.ix B.zx (.v 6) .int) .str)
  (.one (.set B.zx.nd 3 (.op2 zMul_ok (.op2 zDiv_ok (.op2 zSub_ok (.op2 zAdd_ok (.v 7) (.ix B.zx (.v 6) .int)) .int) (.ix B.zx (.v 6) .int)) (.ix B.zx (.v 6) .int))))
  (.one (.ife (.cmp (zEq_ok B.zx) (.ix B.zx (.v 6) .int) .str)
  (.one (.set B.zx.nd 3 (.op2 zAdd_ok (.v 7) (.ife (.cmp (zIn_ok B.zx) (.v 5) (.v 2)) (.ix B.zx (.v 6) .int) (.ix B.zx (.v 6) .int)))))
  .nil)))
  (.one (.expr (.meth PySem.F.plainAttrs_list PySem.F.slot_list_append PySem.F.type_list_append zAppend_ok isL_ok (.v 4) (.cons (.tup (.cons (.v 7) (.cons (.v 3) .nil))) .nil))))))))
  (.one (.ret (ZE.frz (.v 4)))))))
theorem sc__law_longer : FnScope N__law_longer ["gaps", "spot", "more"] (defScope s__law_longer) := ⟨rfl, rfl, rfl, by decide +kernel, rfl, by decide +kernel, by decide +kernel⟩
theorem ok__law_longer (fx : FX P K mg) : FnG P w K mg base 1 fx.a__law_longer fx.d__law_longer ["gaps", "spot", "more"] (spZ K mg F__law_longer 3) :=
  zfn fx.f__law_longer sc__law_longer fun cdv A outer s H E B => ((.one (.ret (.op2 zAdd_ok (.op2 zAdd_ok (.sl (.v 0) .none (.some (.v 1))) (.tup (.cons (.op2 zAdd_ok (.ix B.zx (.v 0) (.v 1)) (.v 2)) .nil))) (.sl (.v 0) (.some (.op2 zAdd_ok (.v 1) .int)) .none)))))
theorem sc_laid : FnScope N_laid ["skeleton", "lengths", "choice"] (defScope s_laid) := ⟨rfl, rfl, rfl, by decide +kernel, rfl, by decide +kernel, by decide +kernel⟩
theorem ok_laid (fx : FX P K mg) : FnG P w K mg base 2 fx.a_laid fx.d_laid ["skeleton", "lengths", "choice"] (spZ K mg F_laid 3) :=
  zfn fx.f_laid sc_laid fun cdv A outer s H E B => ((.cons (.par2 B.zx 3 4 (.cons (ZE.lst .nil) (.cons .int .nil)))
  (.cons (.for_ B.zx (.enum (by rfl) fx.n_enumerate (.v 0)) (.two B.zx.calm (.name B.zx.nd 5) (.name B.zx.nd 6))
  (.cons (.set B.zx.nd 7 (.op2 zAdd_ok (.v 4) (.ix B.zx (.v 1) (.v 5))))
  (.cons (.set B.zx.nd 4 (.op2 zAdd_ok (.v 7) (.call B (ok_bytes_at fx) (by decide) (by rfl) fx.m_bytes_at fx.f_bytes_at.kp fx.b_bytes_at (.cons (.v 6) (.cons (.v 7) (.cons (.cmp (zIn_ok B.zx) (.v 5) (.v 2)) .nil))))))
  (.one (.expr (.meth PySem.F.plainAttrs_list PySem.F.slot_list_append PySem.F.type_list_append zAppend_ok isL_ok (.v 3) (.cons (.tup (.cons (.v 7) (.cons (.v 4) .nil))) .nil)))))))
  (.one (.ret (.callTy zTuple_ok (by rfl) fx.n_tuple (by rfl) (.cons (.v 3) .nil)))))))
theorem sc_all_choices : FnScope N_all_choices ["skeleton"] (defScope s_all_choices) := ⟨rfl, rfl, rfl, by decide +kernel, rfl, by decide +kernel, by decide +kernel⟩
theorem ok_all_choices (fx : FX P K mg) : FnG P w K mg base 2 fx.a_all_choices fx.d_all_choices ["skeleton"] (spZ K mg F_all_choices 1) :=
  zfn fx.f_all_choices sc_all_choices fun cdv A outer s H E B => ((.cons (.set B.zx.nd 1 (.lstF (.cons (.tup .nil) .nil)))
  (.cons (.for_ B.zx (.seq (.call B (ok_jumps_of fx) (by decide) (by rfl) fx.m_jumps_of fx.f_jumps_of.kp fx.b_jumps_of (.cons (.v 0) .nil))) (.name B.zx.nd 2)
  (.one (.set B.zx.nd 1 (.op2 zAdd_ok (.v 1) (ZE.comp (own := [("choice", 3)]) fin_f B.zx (.seq (.v 1)) (blkOk_by (by rfl)) (by decide) (fun s1 h1 _ _ p1 => (.name (B.blk s1 h1 _ _ p1).zx.nd 3)) (fun s1 h1 _ _ p1 => .nil) (fun s1 h1 _ _ p1 => (.op2 zAdd_ok (.v 3) (.tup (.cons (.v 2) .nil)))))))))
  (.one (.ret (.callB (zSort_ok B.zx) (by rfl) fx.n_sorted (by rfl) (.cons (.v 1) .nil)))))))
theorem sc_is_triple : FnScope N_is_triple ["skeleton", "fill", "other"] (defScope s_is_triple) := ⟨rfl, rfl, rfl, by decide +kernel, rfl, by decide +kernel, by decide +kernel⟩
theorem ok_is_triple (fx : FX P K mg) : FnG P w K mg base 2 fx.a_is_triple fx.d_is_triple ["skeleton", "fill", "other"] (spZ K mg F_is_triple 3) :=
  zfn fx.f_is_triple sc_is_triple fun cdv A outer s H E B => ((.cons (.ife (.val (.call B (ok_is_kept_away fx) (by decide) (by rfl) fx.m_is_kept_away fx.f_is_kept_away.kp fx.b_is_kept_away (.cons (.v 0) (.cons (.v 2) (.cons (.v 1) .nil)))))
  (.one (.ret .bl))
  .nil)
  (.one (.ret (.cmp (zNe_ok B.zx) (.op2 zMod_ok (.call B (ok_growth fx) (by decide) (by rfl) fx.m_growth fx.f_growth.kp fx.b_growth (.cons (.ix B.zx (.v 0) (.v 2)) .nil)) (.ix B.zx (.ix B.zx (.v 0) (.v 1)) .int)) .int)))))
theorem sc__law_pick : FnScope N__law_pick ["loom", "things"] (defScope s__law_pick) := ⟨rfl, rfl, rfl, by decide +kernel, rfl, by decide +kernel, by decide +kernel⟩
theorem ok__law_pick (fx : FX P K mg) : FnG P w K mg base 2 fx.a__law_pick fx.d__law_pick ["loom", "things"] (spZ K mg F__law_pick 2) :=
  zfn fx.f__law_pick sc__law_pick fun cdv A outer s H E B => ((.one (.ret (.ix B.zx (.v 1) (.call B (ok__law_draw fx) (by decide) (by rfl) fx.m__law_draw fx.f__law_draw.kp fx.b__law_draw (.cons (.v 0) (.cons (.callB zLen_ok (by rfl) fx.n_len (by rfl) (.cons (.v 1) .nil)) .nil)))))))
theorem sc__law_mixed : FnScope N__law_mixed ["loom", "things"] (defScope s__law_mixed) := ⟨rfl, rfl, rfl, by decide +kernel, rfl, by decide +kernel, by decide +kernel⟩
theorem ok__law_mixed (fx : FX P K mg) : FnG P w K mg base 2 fx.a__law_mixed fx.d__law_mixed ["loom", "things"] (spZ K mg F__law_mixed 2) :=
  zfn fx.f__law_mixed sc__law_mixed fun cdv A outer s H E B => ((.cons (.par2 B.zx 2 3 (.cons (ZE.callTy zListM_ok (by rfl) fx.n_list (by rfl) (.cons (.v 1) .nil)) (.cons (ZE.lst .nil) .nil)))
  (.cons (.while_ B.zx 64 (.cmp (zNe_ok B.zx) (.v 2) (.lstF .nil))
  (.one (.expr (.meth PySem.F.plainAttrs_list PySem.F.slot_list_append PySem.F.type_list_append zAppend_ok isL_ok (.v 3) (.cons (.meth PySem.F.plainAttrs_list PySem.F.slot_list_pop PySem.F.type_list_pop zPopAt_ok isL_ok (.v 2) (.cons (.call B (ok__law_draw fx) (by decide) (by rfl) fx.m__law_draw fx.f__law_draw.kp fx.b__law_draw (.cons (.v 0) (.cons (.callB zLen_ok (by rfl) fx.n_len (by rfl) (.cons (.v 2) .nil)) .nil))) .nil)) .nil)))))
  (.one (.ret (ZE.frz (.v 3)))))))
theorem sc__law_way : FnScope N__law_way ["frame", "gaps", "longs", "at"] (defScope s__law_way) := ⟨rfl, rfl, rfl, by decide +kernel, rfl, by decide +kernel, by decide +kernel⟩
theorem ok__law_way (fx : FX P K mg) : FnG P w K mg base 2 fx.a__law_way fx.d__law_way ["frame", "gaps", "longs", "at"] (spZ K mg F__law_way 4) :=
  zfn fx.f__law_way sc__law_way fun cdv A outer s H E B => ((.cons (.set B.zx.nd 4 (.call B (ok__law_laid fx) (by decide) (by rfl) fx.m__law_laid fx.f__law_laid.kp fx.b__law_laid (.cons (.v 0) (.cons (.v 1) (.cons (ZE.comp (own := [("own", 6)]) fin_f B.zx (.seq (.v 2)) (blkOk_by (by rfl)) (by decide) (fun s1 h1 _ _ p1 => (.name (B.blk s1 h1 _ _ p1).zx.nd 6)) (fun s1 h1 _ _ p1 => (.one (.cmp (zNe_ok (B.blk s1 h1 _ _ p1).zx) (.v 6) (.v 3)))) (fun s1 h1 _ _ p1 => (.v 6))) .nil)))))
  (.cons (.set B.zx.nd 5 (.ix B.zx (.ix B.zx (.v 0) (.v 3)) .int))
  (.one (.ret (.ife (.cmp zGt_ok (.v 5) (.v 3)) (.op2 zSub_ok (.ix B.zx (.ix B.zx (.v 4) (.v 5)) .int) (.ix B.zx (.ix B.zx (.v 4) (.v 3)) .int)) (.op2 zSub_ok (.ix B.zx (.ix B.zx (.v 4) (.v 3)) .int) (.ix B.zx (.ix B.zx (.v 4) (.v 5)) .int))))))))
theorem sc__law_triples : FnScope N__law_triples ["frame"] (defScope s__law_triples) := ⟨rfl, rfl, rfl, by decide +kernel, rfl, by decide +kernel, by decide +kernel⟩
theorem ok__law_triples (fx : FX P K mg) : FnG P w K mg base 2 fx.a__law_triples fx.d__law_triples ["frame"] (spZ K mg F__law_triples 1) :=
  zfn fx.f__law_triples sc__law_triples fun cdv A outer s H E B => ((.cons (.set B.zx.nd 1 (ZE.lst .nil))
  (.cons (.for_ B.zx (.seq (.call B (ok__law_jumps fx) (by decide) (by rfl) fx.m__law_jumps fx.f__law_jumps.kp fx.b__law_jumps (.cons (.v 0) .nil))) (.name B.zx.nd 2)
  (.cons (.parT B.zx (.cons (.callB (zMin_ok B.zx) (by rfl) fx.n_min (by rfl) (.cons (.v 2) (.cons (.ix B.zx (.ix B.zx (.v 0) (.v 2)) .int) .nil))) (.cons (.callB (zMax_ok B.zx) (by rfl) fx.n_max (by rfl) (.cons (.v 2) (.cons (.ix B.zx (.ix B.zx (.v 0) (.v 2)) .int) .nil))) .nil)) (tn_cons B.zx.nd 3 (tn_cons B.zx.nd 4 tn_nil)))
  (.one (.for_ B.zx (.seq (ZE.comp (own := [("own", 9)]) fin_f B.zx (.range2 (by rfl) fx.n_range (.op2 zAdd_ok (.v 3) .int) (.v 4)) (blkOk_by (by rfl)) (by decide) (fun s1 h1 _ _ p1 => (.name (B.blk s1 h1 _ _ p1).zx.nd 9)) (fun s1 h1 _ _ p1 => (.one (.cmp (zEq_ok (B.blk s1 h1 _ _ p1).zx) (.ix (B.blk s1 h1 _ _ p1).zx (.ix (B.blk s1 h1 _ _ p1).zx (.v 0) (.v 9)) .int) .str))) (fun s1 h1 _ _ p1 => (.v 9)))) (.name B.zx.nd 5)
  (.one (.for_ B.zx (.seq (ZE.comp (own := [("own", 9)]) fin_f B.zx (.seq (.call B (ok__law_jumps fx) (by decide) (by rfl) fx.m__law_jumps fx.f__law_jumps.kp fx.b__law_jumps (.cons (.v 0) .nil))) (blkOk_by (by rfl)) (by decide) (fun s2 h2 _ _ p2 => (.name (B.blk s2 h2 _ _ p2).zx.nd 9)) (fun s2 h2 _ _ p2 => (.one (.cmp zLt_ok (.v 9) (.v 3)))) (fun s2 h2 _ _ p2 => (.v 9)))) (.name B.zx.nd 6)
  (.cons (.set B.zx.nd 7 (.ix B.zx (.ix B.zx (.v 0) (.v 5)) .int))
  (.cons (.comp (i := 8) (own := [("own", 9)]) fin_f B.zx (.seq (.sl (.v 0) (.some (.op2 zAdd_ok (.v 6) .int)) (.some (.v 5)))) (blkOk_by (by rfl)) (by decide) (by rfl) (by rfl) (by rfl) (fun s3 h3 _ _ p3 => (.name (B.blk s3 h3 _ _ p3).zx.nd 9)) (fun s3 h3 _ _ p3 => (.one (.w (.and (.cmp (zEq_ok (B.blk s3 h3 _ _ p3).zx) (.ix (B.blk s3 h3 _ _ p3).zx (.v 9) .int) .str) (.and1 (.cmp zGe_ok (.ix (B.blk s3 h3 _ _ p3).zx (.v 9) .int) (.v 7))))))) (fun s3 h3 _ _ p3 => (.v 9)))
  (.one (.ife (.w (.and (.cmp (zEq_ok B.zx) (.v 8) (.lstF .nil)) (.and1 (.cmp zGt_ok (.op2 zMod_ok (.callTy zInt_ok (by rfl) fx.n_int (by rfl) (.cons (.op2 zSub_ok (.ix B.zx (.ix B.zx (.v 0) (.v 6)) .int) (.ix B.zx (.ix B.zx (.v 0) (.v 6)) .int)) .nil)) (.v 7)) .int))))
  (.one (.expr (.meth PySem.F.plainAttrs_list PySem.F.slot_list_append PySem.F.type_list_append zAppend_ok isL_ok (.v 1) (.cons (.tup (.cons (.v 2) (.cons (.v 5) (.cons (.v 6) .nil)))) .nil))))
  .nil))))))))))
  (.one (.ret (ZE.frz (.v 1)))))))
theorem sc__law_steadied : FnScope N__law_steadied ["loom", "frame"] (defScope s__law_steadied) := ⟨rfl, rfl, rfl, by decide +kernel, rfl, by decide +kernel, by decide +kernel⟩
theorem ok__law_steadied (fx : FX P K mg) : FnG P w K mg base 2 fx.a__law_steadied fx.d__law_steadied ["loom", "frame"] (spZ K mg F__law_steadied 2) :=
  zfn fx.f__law_steadied sc__law_steadied fun cdv A outer s H E B => ((.cons (.par2 B.zx 2 3 (.cons (.call B (ok__law_top fx) (by decide) (by rfl) fx.m__law_top fx.f__law_top.kp fx.b__law_top (.cons (.v 1) .nil)) (.cons (ZE.lst .nil) .nil)))
  (.cons (.for_ B.zx (.seq (.v 1)) (.name B.zx.nd 4)
  (.cons (.ife (.cmp (zEq_ok B.zx) (.ix B.zx (.v 4) .int) .str)
  (.cons (.set B.zx.nd 5 (.op2 zMul_ok (.v 2) (.op2 zAdd_ok .int (.call B (ok__law_draw fx) (by decide) (by rfl) fx.m__law_draw fx.f__law_draw.kp fx.b__law_draw (.cons (.v 0) (.cons (.callB (zMax_ok B.zx) (by rfl) fx.n_max (by rfl) (.cons .int (.cons (.callB (zMin_ok B.zx) (by rfl) fx.n_min (by rfl) (.cons .int (.cons (.op2 zDiv_ok .int (.v 2)) .nil))) .nil))) .nil))))))
  (.cons (.set B.zx.nd 4 (.op2 zAdd_ok (.sl (.v 4) .none (.some .int)) (.tup (.cons (.op2 zAdd_ok (.callB (zMin_ok B.zx) (by rfl) fx.n_min (by rfl) (.cons (.ix B.zx (.v 4) .int) (.cons .int .nil))) (.v 5)) .nil))))
  (.one (.set B.zx.nd 4 (.op2 zAdd_ok (.sl (.v 4) .none (.some .int)) (.tup (.cons (.callB (zMin_ok B.zx) (by rfl) fx.n_min (by rfl) (.cons (.ix B.zx (.v 4) .int) (.cons .int .nil))) (.cons (.ix B.zx (.v 4) .int) .nil))))))))
  .nil)
  (.one (.expr (.meth PySem.F.plainAttrs_list PySem.F.slot_list_append PySem.F.type_list_append zAppend_ok isL_ok (.v 3) (.cons (.v 4) .nil))))))
  (.one (.ret (.callTy zTuple_ok (by rfl) fx.n_tuple (by rfl) (.cons (.v 3) .nil)))))))
theorem sc_way_of : FnScope N_way_of ["skeleton", "lengths", "choice", "jump"] (defScope s_way_of) := ⟨rfl, rfl, rfl, by decide +kernel, rfl, by decide +kernel, by decide +kernel⟩
theorem ok_way_of (fx : FX P K mg) : FnG P w K mg base 3 fx.a_way_of fx.d_way_of ["skeleton", "lengths", "choice", "jump"] (spZ K mg F_way_of 4) :=
  zfn fx.f_way_of sc_way_of fun cdv A outer s H E B => ((.cons (.set B.zx.nd 4 (.callTy zTuple_ok (by rfl) fx.n_tuple (by rfl) (.cons (ZE.comp (own := [("place", 5)]) fin_f B.zx (.seq (.v 2)) (blkOk_by (by rfl)) (by decide) (fun s1 h1 _ _ p1 => (.name (B.blk s1 h1 _ _ p1).zx.nd 5)) (fun s1 h1 _ _ p1 => (.one (.cmp (zNe_ok (B.blk s1 h1 _ _ p1).zx) (.v 5) (.v 3)))) (fun s1 h1 _ _ p1 => (.v 5))) .nil)))
  (.one (.ret (.call B (ok_way_between fx) (by decide) (by rfl) fx.m_way_between fx.f_way_between.kp fx.b_way_between (.cons (.v 0) (.cons (.call B (ok_laid fx) (by decide) (by rfl) fx.m_laid fx.f_laid.kp fx.b_laid (.cons (.v 0) (.cons (.v 1) (.cons (.v 4) .nil)))) (.cons (.v 3) .nil))))))))
theorem sc_stuck : FnScope N_stuck ["program", "choice"] (defScope s_stuck) := ⟨rfl, rfl, rfl, by decide +kernel, rfl, by decide +kernel, by decide +kernel⟩
theorem ok_stuck (fx : FX P K mg) : FnG P w K mg base 3 fx.a_stuck fx.d_stuck ["program", "choice"] (spZ K mg F_stuck 2) :=
  zfn fx.f_stuck sc_stuck fun cdv A outer s H E B => ((.cons (.asg (.v 0) (.three B.zx.calm (.name B.zx.nd 2) (.name B.zx.nd 3) (.name B.zx.nd 4)))
  (.cons (.set B.zx.nd 5 (.call B (ok_laid fx) (by decide) (by rfl) fx.m_laid fx.f_laid.kp fx.b_laid (.cons (.v 2) (.cons (.v 3) (.cons (.v 1) .nil)))))
  (.cons (.set B.zx.nd 6 (ZE.lst .nil))
  (.cons (.for_ B.zx (.zip (by rfl) fx.n_zip (.call B (ok_jumps_of fx) (by decide) (by rfl) fx.m_jumps_of fx.f_jumps_of.kp fx.b_jumps_of (.cons (.v 2) .nil)) (.v 4)) (.two B.zx.calm (.name B.zx.nd 7) (.name B.zx.nd 8))
  (.one (.ife (.w (.and (.cmp (zNotIn_ok B.zx) (.v 7) (.v 1)) (.and1 (.cmp zGt_ok (.call B (ok_way_between fx) (by decide) (by rfl) fx.m_way_between fx.f_way_between.kp fx.b_way_between (.cons (.v 2) (.cons (.v 5) (.cons (.v 7) .nil)))) (.v 8)))))
  (.one (.expr (.meth PySem.F.plainAttrs_list PySem.F.slot_list_append PySem.F.type_list_append zAppend_ok isL_ok (.v 6) (.cons (.v 7) .nil))))
  .nil)))
  (.one (.ret (.callTy zTuple_ok (by rfl) fx.n_tuple (by rfl) (.cons (.v 6) .nil)))))))))
theorem sc_triples : FnScope N_triples ["skeleton"] (defScope s_triples) := ⟨rfl, rfl, rfl, by decide +kernel, rfl, by decide +kernel, by decide +kernel⟩
theorem ok_triples (fx : FX P K mg) : FnG P w K mg base 3 fx.a_triples fx.d_triples ["skeleton"] (spZ K mg F_triples 1) :=
  zfn fx.f_triples sc_triples fun cdv A outer s H E B => ((.cons (.set B.zx.nd 1 (ZE.lst .nil))
  (.cons (.for_ B.zx (.seq (.call B (ok_jumps_of fx) (by decide) (by rfl) fx.m_jumps_of fx.f_jumps_of.kp fx.b_jumps_of (.cons (.v 0) .nil))) (.name B.zx.nd 2)
  (.cons (.comp (i := 3) (own := [("place", 6)]) fin_f B.zx (.seq (.call B (ok_in_way fx) (by decide) (by rfl) fx.m_in_way fx.f_in_way.kp fx.b_in_way (.cons (.v 0) (.cons (.v 2) .nil)))) (blkOk_by (by rfl)) (by decide) (by rfl) (by rfl) (by rfl) (fun s1 h1 _ _ p1 => (.name (B.blk s1 h1 _ _ p1).zx.nd 6)) (fun s1 h1 _ _ p1 => (.one (.cmp (zEq_ok (B.blk s1 h1 _ _ p1).zx) (.ix (B.blk s1 h1 _ _ p1).zx (.ix (B.blk s1 h1 _ _ p1).zx (.v 0) (.v 6)) .int) .str))) (fun s1 h1 _ _ p1 => (.v 6)))
  (.cons (.comp (i := 4) (own := [("place", 6)]) fin_f B.zx (.seq (.call B (ok_ahead_of_way fx) (by decide) (by rfl) fx.m_ahead_of_way fx.f_ahead_of_way.kp fx.b_ahead_of_way (.cons (.v 0) (.cons (.v 2) .nil)))) (blkOk_by (by rfl)) (by decide) (by rfl) (by rfl) (by rfl) (fun s2 h2 _ _ p2 => (.name (B.blk s2 h2 _ _ p2).zx.nd 6)) (fun s2 h2 _ _ p2 => (.one (.cmp (zEq_ok (B.blk s2 h2 _ _ p2).zx) (.ix (B.blk s2 h2 _ _ p2).zx (.ix (B.blk s2 h2 _ _ p2).zx (.v 0) (.v 6)) .int) .str))) (fun s2 h2 _ _ p2 => (.v 6)))
  (.one (.for_ B.zx (.seq (.v 3)) (.name B.zx.nd 5)
  (.one (.expr (.meth PySem.F.plainAttrs_list PySem.F.slot_list_extend PySem.F.type_list_extend zExtend_ok isL_ok (.v 1) (.cons (ZE.comp (own := [("other", 7)]) fin_f B.zx (.seq (.v 4)) (blkOk_by (by rfl)) (by decide) (fun s3 h3 _ _ p3 => (.name (B.blk s3 h3 _ _ p3).zx.nd 7)) (fun s3 h3 _ _ p3 => (.one (.val (.call (B.blk s3 h3 _ _ p3) (ok_is_triple fx) (by decide) (by rfl) fx.m_is_triple fx.f_is_triple.kp fx.b_is_triple (.cons (.v 0) (.cons (.v 5) (.cons (.v 7) .nil))))))) (fun s3 h3 _ _ p3 => (.tup (.cons (.v 2) (.cons (.v 5) (.cons (.v 7) .nil)))))) .nil)))))))))
  (.one (.ret (.callTy zTuple_ok (by rfl) fx.n_tuple (by rfl) (.cons (.v 1) .nil)))))))
theorem sc__law_frame : FnScope N__law_frame ["loom", "jumps", "fills", "labels", "top", "growth_v"] (defScope s__law_frame) := ⟨rfl, rfl, rfl, by decide +kernel, rfl, by decide +kernel, by decide +kernel⟩
theorem ok__law_frame (fx : FX P K mg) : FnG P w K mg base 3 fx.a__law_frame fx.d__law_frame ["loom", "jumps", "fills", "labels", "top", "growth_v"] (spZ K mg F__law_frame 6) :=
  zfn fx.f__law_frame sc__law_frame fun cdv A outer s H E B => ((.cons (.set B.zx.nd 6 (.call B (ok__law_mixed fx) (by decide) (by rfl) fx.m__law_mixed fx.f__law_mixed.kp fx.b__law_mixed (.cons (.v 0) (.cons (.op2 zAdd_ok (.op2 zAdd_ok (.op2 zMul_ok (.lstF (.cons .str .nil)) (.v 1)) (.op2 zMul_ok (.lstF (.cons .str .nil)) (.v 2))) (.op2 zMul_ok (.lstF (.cons .str .nil)) (.v 3))) .nil))))
  (.cons (.par2 B.zx 7 8 (.cons (ZE.comp (own := [("at", 11), ("kind", 9)]) fin_f B.zx (.enum (by rfl) fx.n_enumerate (.v 6)) (blkOk_by (by rfl)) (by decide) (fun s1 h1 _ _ p1 => (.two (B.blk s1 h1 _ _ p1).zx.calm (.name (B.blk s1 h1 _ _ p1).zx.nd 11) (.name (B.blk s1 h1 _ _ p1).zx.nd 9))) (fun s1 h1 _ _ p1 => (.one (.cmp (zEq_ok (B.blk s1 h1 _ _ p1).zx) (.v 9) .str))) (fun s1 h1 _ _ p1 => (.v 11))) (.cons (ZE.lst .nil) .nil)))
  (.cons (.for_ B.zx (.seq (.v 6)) (.name B.zx.nd 9)
  (.one (.ife (.cmp (zEq_ok B.zx) (.v 9) .str)
  (.one (.expr (.meth PySem.F.plainAttrs_list PySem.F.slot_list_append PySem.F.type_list_append zAppend_ok isL_ok (.v 8) (.cons (.tup (.cons (.v 9) .nil)) .nil))))
  (.one (.ife (.cmp (zEq_ok B.zx) (.v 9) .str)
  (.one (.expr (.meth PySem.F.plainAttrs_list PySem.F.slot_list_append PySem.F.type_list_append zAppend_ok isL_ok (.v 8) (.cons (.tup (.cons (.v 9) (.cons (.call B (ok__law_pick fx) (by decide) (by rfl) fx.m__law_pick fx.f__law_pick.kp fx.b__law_pick (.cons (.v 0) (.cons (ZE.comp (own := [("own", 12)]) fin_f B.zx (.seq (.tup (.cons .int (.cons .int (.cons .int (.cons .int (.cons .int (.cons .int .nil)))))))) (blkOk_by (by rfl)) (by decide) (fun s2 h2 _ _ p2 => (.name (B.blk s2 h2 _ _ p2).zx.nd 12)) (fun s2 h2 _ _ p2 => (.one (.cmp zLe_ok (.v 12) (.v 4)))) (fun s2 h2 _ _ p2 => (.v 12))) .nil))) .nil))) .nil))))
  (.cons (.set B.zx.nd 10 (.op2 zAdd_ok .int (.call B (ok__law_draw fx) (by decide) (by rfl) fx.m__law_draw fx.f__law_draw.kp fx.b__law_draw (.cons (.v 0) (.cons .int .nil)))))
  (.one (.expr (.meth PySem.F.plainAttrs_list PySem.F.slot_list_append PySem.F.type_list_append zAppend_ok isL_ok (.v 8) (.cons (.tup (.cons (.v 9) (.cons (.call B (ok__law_pick fx) (by decide) (by rfl) fx.m__law_pick fx.f__law_pick.kp fx.b__law_pick (.cons (.v 0) (.cons (.v 7) .nil))) (.cons (.v 10) (.cons (.callB (zMin_ok B.zx) (by rfl) fx.n_min (by rfl) (.cons .int (.cons (.op2 zAdd_ok (.op2 zAdd_ok (.v 10) .int) (.call B (ok__law_draw fx) (by decide) (by rfl) fx.m__law_draw fx.f__law_draw.kp fx.b__law_draw (.cons (.v 0) (.cons (.v 5) .nil)))) .nil))) .nil))))) .nil))))))))))
  (.one (.ret (.callTy zTuple_ok (by rfl) fx.n_tuple (by rfl) (.cons (.v 8) .nil))))))))
theorem sc__law_stuck : FnScope N__law_stuck ["frame", "gaps", "spans", "longs"] (defScope s__law_stuck) := ⟨rfl, rfl, rfl, by decide +kernel, rfl, by decide +kernel, by decide +kernel⟩
theorem ok__law_stuck (fx : FX P K mg) : FnG P w K mg base 3 fx.a__law_stuck fx.d__law_stuck ["frame", "gaps", "spans", "longs"] (spZ K mg F__law_stuck 4) :=
  zfn fx.f__law_stuck sc__law_stuck fun cdv A outer s H E B => ((.cons (.set B.zx.nd 4 (ZE.lst .nil))
  (.cons (.for_ B.zx (.enum (by rfl) fx.n_enumerate (.call B (ok__law_jumps fx) (by decide) (by rfl) fx.m__law_jumps fx.f__law_jumps.kp fx.b__law_jumps (.cons (.v 0) .nil))) (.two B.zx.calm (.name B.zx.nd 5) (.name B.zx.nd 6))
  (.one (.ife (.w (.and (.cmp (zNotIn_ok B.zx) (.v 6) (.v 3)) (.and1 (.cmp zGt_ok (.call B (ok__law_way fx) (by decide) (by rfl) fx.m__law_way fx.f__law_way.kp fx.b__law_way (.cons (.v 0) (.cons (.v 1) (.cons (.v 3) (.cons (.v 6) .nil))))) (.ix B.zx (.v 2) (.v 5))))))
  (.one (.expr (.meth PySem.F.plainAttrs_list PySem.F.slot_list_append PySem.F.type_list_append zAppend_ok isL_ok (.v 4) (.cons (.v 6) .nil))))
  .nil)))
  (.one (.ret (ZE.frz (.v 4)))))))
theorem sc__law_spans : FnScope N__law_spans ["loom", "frame", "gaps"] (defScope s__law_spans) := ⟨rfl, rfl, rfl, by decide +kernel, rfl, by decide +kernel, by decide +kernel⟩
theorem ok__law_spans (fx : FX P K mg) : FnG P w K mg base 3 fx.a__law_spans fx.d__law_spans ["loom", "frame", "gaps"] (spZ K mg F__law_spans 3) :=
  zfn fx.f__law_spans sc__law_spans fun cdv A outer s H E B => ((.cons (.set B.zx.nd 3 (ZE.lst .nil))
  (.cons (.for_ B.zx (.seq (.call B (ok__law_jumps fx) (by decide) (by rfl) fx.m__law_jumps fx.f__law_jumps.kp fx.b__law_jumps (.cons (.v 1) .nil))) (.name B.zx.nd 4)
  (.cons (.set B.zx.nd 5 (.call B (ok__law_way fx) (by decide) (by rfl) fx.m__law_way fx.f__law_way.kp fx.b__law_way (.cons (.v 1) (.cons (.v 2) (.cons (.lstF .nil) (.cons (.v 4) .nil))))))
  (.one (.expr (.meth PySem.F.plainAttrs_list PySem.F.slot_list_append PySem.F.type_list_append zAppend_ok isL_ok (.v 3) (.cons (.callB (zMax_ok B.zx) (by rfl) fx.n_max (by rfl) (.cons .int (.cons (.op2 zAdd_ok (.v 5) (.call B (ok__law_pick fx) (by decide) (by rfl) fx.m__law_pick fx.f__law_pick.kp fx.b__law_pick (.cons (.v 0) (.cons (.lstF (.cons (.op1 zNeg_ok .int) (.cons .int (.cons .int (.cons .int (.cons .int (.cons .int (.cons .int (.cons (.op1 zNeg_ok (.v 5)) (.cons .int .nil)))))))))) .nil)))) .nil))) .nil))))))
  (.one (.ret (.callTy zTuple_ok (by rfl) fx.n_tuple (by rfl) (.cons (.v 3) .nil)))))))
theorem sc__law_calm : FnScope N__law_calm ["loom", "frame"] (defScope s__law_calm) := ⟨rfl, rfl, rfl, by decide +kernel, rfl, by decide +kernel, by decide +kernel⟩
theorem ok__law_calm (fx : FX P K mg) : FnG P w K mg base 3 fx.a__law_calm fx.d__law_calm ["loom", "frame"] (spZ K mg F__law_calm 2) :=
  zfn fx.f__law_calm sc__law_calm fun cdv A outer s H E B => ((.one (.ret (.ife (.w (.and (.cmp (zEq_ok B.zx) (.call B (ok__law_triples fx) (by decide) (by rfl) fx.m__law_triples fx.f__law_triples.kp fx.b__law_triples (.cons (.v 1) .nil)) (.lstF .nil)) (.and1 (.cmp zGt_ok (.call B (ok__law_draw fx) (by decide) (by rfl) fx.m__law_draw fx.f__law_draw.kp fx.b__law_draw (.cons (.v 0) (.cons .int .nil))) .int)))) (.v 1) (.call B (ok__law_steadied fx) (by decide) (by rfl) fx.m__law_steadied fx.f__law_steadied.kp fx.b__law_steadied (.cons (.v 0) (.cons (.v 1) .nil)))))))
theorem sc__law_rounded : FnScope N__law_rounded ["loom", "most"] (defScope s__law_rounded) := ⟨rfl, rfl, rfl, by decide +kernel, rfl, by decide +kernel, by decide +kernel⟩
theorem ok__law_rounded (fx : FX P K mg) : FnG P w K mg base 3 fx.a__law_rounded fx.d__law_rounded ["loom", "most"] (spZ K mg F__law_rounded 2) :=
  zfn fx.f__law_rounded sc__law_rounded fun cdv A outer s H E B => ((.cons (.par3 B.zx 2 3 4 (.cons (.call B (ok__law_pick fx) (by decide) (by rfl) fx.m__law_pick fx.f__law_pick.kp fx.b__law_pick (.cons (.v 0) (.cons (.lstF (.cons .int (.cons .int (.cons .int (.cons .int (.cons .int .nil)))))) .nil))) (.cons (.op2 zAdd_ok .int (.call B (ok__law_draw fx) (by decide) (by rfl) fx.m__law_draw fx.f__law_draw.kp fx.b__law_draw (.cons (.v 0) (.cons (.v 1) .nil)))) (.cons (ZE.lst .nil) .nil))))
  (.cons (.set B.zx.nd 5 (.cmp (zEq_ok B.zx) (.call B (ok__law_draw fx) (by decide) (by rfl) fx.m__law_draw fx.f__law_draw.kp fx.b__law_draw (.cons (.v 0) (.cons .int .nil))) .int))
  (.cons (.for_ B.zx (.range1 (by rfl) fx.n_range (.v 3)) (.name B.zx.nd 6)
  (.cons (.set B.zx.nd 7 (.op2 zAdd_ok .int (.call B (ok__law_draw fx) (by decide) (by rfl) fx.m__law_draw fx.f__law_draw.kp fx.b__law_draw (.cons (.v 0) (.cons .int .nil)))))
  (.one (.set B.zx.nd 4 (ZE.op2 zAddM_ok (.v 4) (.lstF (.cons (.tup (.cons .str (.cons (.op2 zAdd_ok .int (.op2 zMul_ok .int (.v 6))) (.cons (.v 7) (.cons (.op2 zAdd_ok (.op2 zAdd_ok (.v 7) .int) (.call B (ok__law_draw fx) (by decide) (by rfl) fx.m__law_draw fx.f__law_draw.kp fx.b__law_draw (.cons (.v 0) (.cons (.op2 zAdd_ok (.v 2) .int) .nil)))) .nil))))) (.cons (.tup (.cons .str .nil)) .nil))))))))
  (.cons (.expr (.meth PySem.F.plainAttrs_list PySem.F.slot_list_append PySem.F.type_list_append zAppend_ok isL_ok (.v 4) (.cons (.tup (.cons .str (.cons (.v 2) .nil))) .nil)))
  (.cons (.ife (.cmp (zEq_ok B.zx) (.call B (ok__law_draw fx) (by decide) (by rfl) fx.m__law_draw fx.f__law_draw.kp fx.b__law_draw (.cons (.v 0) (.cons .int .nil))) .int)
  (.one (.expr (.meth PySem.F.plainAttrs_list PySem.F.slot_list_append PySem.F.type_list_append zAppend_ok isL_ok (.v 4) (.cons (.tup (.cons .str (.cons (.call B (ok__law_pick fx) (by decide) (by rfl) fx.m__law_pick fx.f__law_pick.kp fx.b__law_pick (.cons (.v 0) (.cons (.lstF (.cons .int (.cons .int .nil))) .nil))) .nil))) .nil))))
  .nil)
  (.cons (.set B.zx.nd 8 (.tup (.cons .str (.cons (.ife (.val (.v 5)) .int (.op2 zAdd_ok (.callB zLen_ok (by rfl) fx.n_len (by rfl) (.cons (.v 4) .nil)) .int)) (.cons .int (.cons (.op2 zAdd_ok .int (.call B (ok__law_draw fx) (by decide) (by rfl) fx.m__law_draw fx.f__law_draw.kp fx.b__law_draw (.cons (.v 0) (.cons (.op2 zAdd_ok (.v 2) .int) .nil)))) .nil))))))
  (.one (.ret (.ife (.val (.v 5)) (.op2 zAdd_ok (.op2 zAdd_ok (.tup (.cons (.tup (.cons .str .nil)) .nil)) (.callTy zTuple_ok (by rfl) fx.n_tuple (by rfl) (.cons (.v 4) .nil))) (.tup (.cons (.v 8) .nil))) (.op2 zAdd_ok (.op2 zAdd_ok (.tup (.cons (.v 8) .nil)) (.callTy zTuple_ok (by rfl) fx.n_tuple (by rfl) (.cons (.v 4) .nil))) (.tup (.cons (.tup (.cons .str .nil)) .nil)))))))))))))
theorem sc__law_sharp : FnScope N__law_sharp ["loom", "frame", "gaps", "far"] (defScope s__law_sharp) := ⟨rfl, rfl, rfl, by decide +kernel, rfl, by decide +kernel, by decide +kernel⟩
theorem ok__law_sharp (fx : FX P K mg) : FnG P w K mg base 3 fx.a__law_sharp fx.d__law_sharp ["loom", "frame", "gaps", "far"] (spZ K mg F__law_sharp 4) :=
  zfn fx.f__law_sharp sc__law_sharp fun cdv A outer s H E B => ((.cons (.par2 B.zx 4 5 (.cons (.call B (ok__law_top fx) (by decide) (by rfl) fx.m__law_top fx.f__law_top.kp fx.b__law_top (.cons (.v 1) .nil)) (.cons (.call B (ok__law_jumps fx) (by decide) (by rfl) fx.m__law_jumps fx.f__law_jumps.kp fx.b__law_jumps (.cons (.v 1) .nil)) .nil)))
  (.cons (.comp (i := 6) (own := [("at", 13)]) fin_f B.zx (.seq (.v 5)) (blkOk_by (by rfl)) (by decide) (by rfl) (by rfl) (by rfl) (fun s1 h1 _ _ p1 => (.name (B.blk s1 h1 _ _ p1).zx.nd 13)) (fun s1 h1 _ _ p1 => .nil) (fun s1 h1 _ _ p1 => (.call (B.blk s1 h1 _ _ p1) (ok__law_way fx) (by decide) (by rfl) fx.m__law_way fx.f__law_way.kp fx.b__law_way (.cons (.v 1) (.cons (.v 2) (.cons (.lstF .nil) (.cons (.v 13) .nil)))))))
  (.cons (.set B.zx.nd 7 (.ix B.zx (.v 5) (.meth PySem.F.plainAttrs_list PySem.F.slot_list_index PySem.F.type_list_index (zIndex_ok B.zx) isL_ok (.v 6) (.cons (.callB (zMax_ok B.zx) (by rfl) fx.n_max (by rfl) (.cons (.v 6) .nil)) .nil))))
  (.cons (.comp (i := 8) (own := [("at", 13)]) fin_f B.zx (.seq (.v 5)) (blkOk_by (by rfl)) (by decide) (by rfl) (by rfl) (by rfl) (fun s2 h2 _ _ p2 => (.name (B.blk s2 h2 _ _ p2).zx.nd 13)) (fun s2 h2 _ _ p2 => (.one (.cmp (zNe_ok (B.blk s2 h2 _ _ p2).zx) (.v 13) (.v 7)))) (fun s2 h2 _ _ p2 => (.v 13)))
  (.cons (.par2 B.zx 9 10 (.cons (.call B (ok__law_way fx) (by decide) (by rfl) fx.m__law_way fx.f__law_way.kp fx.b__law_way (.cons (.v 1) (.cons (.v 2) (.cons (.v 8) (.cons (.v 7) .nil))))) (.cons (.op2 zAdd_ok (.callB (zMax_ok B.zx) (by rfl) fx.n_max (by rfl) (.cons (.v 6) .nil)) (.callB (zSum_ok B.zx) (by rfl) fx.n_sum (by rfl) (.cons (ZE.comp (own := [("at", 13)]) fin_f B.zx (.seq (.v 8)) (blkOk_by (by rfl)) (by decide) (fun s3 h3 _ _ p3 => (.name (B.blk s3 h3 _ _ p3).zx.nd 13)) (fun s3 h3 _ _ p3 => .nil) (fun s3 h3 _ _ p3 => (.op2 zSub_ok (.ix (B.blk s3 h3 _ _ p3).zx (.ix (B.blk s3 h3 _ _ p3).zx (.v 1) (.v 13)) .int) (.ix (B.blk s3 h3 _ _ p3).zx (.ix (B.blk s3 h3 _ _ p3).zx (.v 1) (.v 13)) .int)))) .nil))) .nil)))
  (.cons (.set B.zx.nd 11 (.op2 zSub_ok (.op2 zMul_ok (.op2 zAdd_ok .int (.call B (ok__law_draw fx) (by decide) (by rfl) fx.m__law_draw fx.f__law_draw.kp fx.b__law_draw (.cons (.v 0) (.cons (.v 3) .nil)))) (.v 4)) (.callTy zInt_ok (by rfl) fx.n_int (by rfl) (.cons (.cmp zGt_ok (.v 9) (.v 10)) .nil))))
  (.cons (.set B.zx.nd 12 (ZE.lst .nil))
  (.cons (.for_ B.zx (.zip (by rfl) fx.n_zip (.v 5) (.v 6)) (.two B.zx.calm (.name B.zx.nd 13) (.name B.zx.nd 14))
  (.one (.expr (.meth PySem.F.plainAttrs_list PySem.F.slot_list_append PySem.F.type_list_append zAppend_ok isL_ok (.v 12) (.cons (.ife (.cmp (zEq_ok B.zx) (.v 13) (.v 7)) (.op2 zAdd_ok (.v 9) (.v 11)) (.callB (zMax_ok B.zx) (by rfl) fx.n_max (by rfl) (.cons .int (.cons (.op2 zAdd_ok (.v 14) (.call B (ok__law_pick fx) (by decide) (by rfl) fx.m__law_pick fx.f__law_pick.kp fx.b__law_pick (.cons (.v 0) (.cons (.lstF (.cons (.op1 zNeg_ok .int) (.cons (.op1 zNeg_ok .int) (.cons (.op1 zNeg_ok .int) (.cons (.op1 zNeg_ok .int) (.cons (.op1 zNeg_ok .int) (.cons (.op1 zNeg_ok .int) (.cons .int (.cons .int .nil))))))))) .nil)))) .nil)))) .nil)))))
  (.one (.ret (.callTy zTuple_ok (by rfl) fx.n_tuple (by rfl) (.cons (.v 12) .nil)))))))))))))
theorem sc_serves : FnScope N_serves ["program", "choice"] (defScope s_serves) := ⟨rfl, rfl, rfl, by decide +kernel, rfl, by decide +kernel, by decide +kernel⟩
theorem ok_serves (fx : FX P K mg) : FnG P w K mg base 4 fx.a_serves fx.d_serves ["program", "choice"] (spZ K mg F_serves 2) :=
  zfn fx.f_serves sc_serves fun cdv A outer s H E B => ((.one (.ret (.cmp (zEq_ok B.zx) (.call B (ok_stuck fx) (by decide) (by rfl) fx.m_stuck fx.f_stuck.kp fx.b_stuck (.cons (.v 0) (.cons (.v 1) .nil))) (.tup .nil)))))
theorem sc_steady_error : FnScope N_steady_error ["skeleton"] (defScope s_steady_error) := ⟨rfl, rfl, rfl, by decide +kernel, rfl, by decide +kernel, by decide +kernel⟩
theorem ok_steady_error (fx : FX P K mg) : FnG P w K mg base 4 fx.a_steady_error fx.d_steady_error ["skeleton"] (spZ K mg F_steady_error 1) :=
  zfn fx.f_steady_error sc_steady_error fun cdv A outer s H E B => ((.cons (.set B.zx.nd 1 (.call B (ok_triples fx) (by decide) (by rfl) fx.m_triples fx.f_triples.kp fx.b_triples (.cons (.v 0) .nil)))
  (.one (.ret (.ife (.cmp (zNe_ok B.zx) (.v 1) (.tup .nil)) (.ix B.zx (.v 1) .int) .non)))))
theorem sc_filled_up : FnScope N_filled_up ["program", "choice"] (defScope s_filled_up) := ⟨rfl, rfl, rfl, by decide +kernel, rfl, by decide +kernel, by decide +kernel⟩
theorem ok_filled_up (fx : FX P K mg) : FnG P w K mg base 4 fx.a_filled_up fx.d_filled_up ["program", "choice"] (spZ K mg F_filled_up 2) :=
  zfn fx.f_filled_up sc_filled_up fun cdv A outer s H E B => ((.cons (.set B.zx.nd 2 (.call B (ok_stuck fx) (by decide) (by rfl) fx.m_stuck fx.f_stuck.kp fx.b_stuck (.cons (.v 0) (.cons (.v 1) .nil))))
  (.cons (.while_ B.zx 64 (.cmp (zNe_ok B.zx) (.v 2) (.tup .nil))
  (.cons (.set B.zx.nd 1 (.callTy zTuple_ok (by rfl) fx.n_tuple (by rfl) (.cons (.callB (zSort_ok B.zx) (by rfl) fx.n_sorted (by rfl) (.cons (.op2 zAdd_ok (.v 1) (.v 2)) .nil)) .nil)))
  (.one (.set B.zx.nd 2 (.call B (ok_stuck fx) (by decide) (by rfl) fx.m_stuck fx.f_stuck.kp fx.b_stuck (.cons (.v 0) (.cons (.v 1) .nil)))))))
  (.one (.ret (.v 1))))))
theorem sc_steps_wanted : FnScope N_steps_wanted ["program", "choice", "place", "step"] (defScope s_steps_wanted) := ⟨rfl, rfl, rfl, by decide +kernel, rfl, by decide +kernel, by decide +kernel⟩
theorem ok_steps_wanted (fx : FX P K mg) : FnG P w K mg base 4 fx.a_steps_wanted fx.d_steps_wanted ["program", "choice", "place", "step"] (spZ K mg F_steps_wanted 4) :=
  zfn fx.f_steps_wanted sc_steps_wanted fun cdv A outer s H E B => ((.cons (.asg (.v 0) (.three B.zx.calm (.name B.zx.nd 4) (.name B.zx.nd 5) (.name B.zx.nd 6)))
  (.cons (.set B.zx.nd 7 (ZE.lst .nil))
  (.cons (.for_ B.zx (.zip (by rfl) fx.n_zip (.call B (ok_jumps_of fx) (by decide) (by rfl) fx.m_jumps_of fx.f_jumps_of.kp fx.b_jumps_of (.cons (.v 4) .nil)) (.v 6)) (.two B.zx.calm (.name B.zx.nd 8) (.name B.zx.nd 9))
  (.one (.ife (.w (.and (.cmp (zNotIn_ok B.zx) (.v 8) (.v 1)) (.and1 (.val (.call B (ok_holds_length fx) (by decide) (by rfl) fx.m_holds_length fx.f_holds_length.kp fx.b_holds_length (.cons (.v 4) (.cons (.v 8) (.cons (.v 2) .nil))))))))
  (.one (.expr (.meth PySem.F.plainAttrs_list PySem.F.slot_list_append PySem.F.type_list_append zAppend_ok isL_ok (.v 7) (.cons (.op2 zAdd_ok (.op2 zDiv_ok (.op2 zSub_ok (.v 9) (.call B (ok_way_of fx) (by decide) (by rfl) fx.m_way_of fx.f_way_of.kp fx.b_way_of (.cons (.v 4) (.cons (.v 5) (.cons (.v 1) (.cons (.v 8) .nil)))))) (.v 3)) .int) .nil))))
  .nil)))
  (.one (.ret (.ife (.cmp (zNe_ok B.zx) (.v 7) (.lstF .nil)) (.callB (zMin_ok B.zx) (by rfl) fx.n_min (by rfl) (.cons (.v 7) .nil)) .non)))))))
theorem sc__law_least : FnScope N__law_least ["frame", "gaps", "spans"] (defScope s__law_least) := ⟨rfl, rfl, rfl, by decide +kernel, rfl, by decide +kernel, by decide +kernel⟩
theorem ok__law_least (fx : FX P K mg) : FnG P w K mg base 4 fx.a__law_least fx.d__law_least ["frame", "gaps", "spans"] (spZ K mg F__law_least 3) :=
  zfn fx.f__law_least sc__law_least fun cdv A outer s H E B => ((.cons (.par2 B.zx 3 4 (.cons (.lstF .nil) (.cons (.call B (ok__law_stuck fx) (by decide) (by rfl) fx.m__law_stuck fx.f__law_stuck.kp fx.b__law_stuck (.cons (.v 0) (.cons (.v 1) (.cons (.v 2) (.cons (.lstF .nil) .nil))))) .nil)))
  (.cons (.while_ B.zx 64 (.cmp (zNe_ok B.zx) (.v 4) (.lstF .nil))
  (.cons (.set B.zx.nd 3 (.callB (zSort_ok B.zx) (by rfl) fx.n_sorted (by rfl) (.cons (.op2 zAdd_ok (.v 3) (.v 4)) .nil)))
  (.one (.set B.zx.nd 4 (.call B (ok__law_stuck fx) (by decide) (by rfl) fx.m__law_stuck fx.f__law_stuck.kp fx.b__law_stuck (.cons (.v 0) (.cons (.v 1) (.cons (.v 2) (.cons (.v 3) .nil)))))))))
  (.one (.ret (.callTy zTuple_ok (by rfl) fx.n_tuple (by rfl) (.cons (.v 3) .nil)))))))
theorem sc_serving : FnScope N_serving ["program"] (defScope s_serving) := ⟨rfl, rfl, rfl, by decide +kernel, rfl, by decide +kernel, by decide +kernel⟩
theorem ok_serving (fx : FX P K mg) : FnG P w K mg base 5 fx.a_serving fx.d_serving ["program"] (spZ K mg F_serving 1) :=
  zfn fx.f_serving sc_serving fun cdv A outer s H E B => ((.one (.ret (.callTy zTuple_ok (by rfl) fx.n_tuple (by rfl) (.cons (ZE.comp (own := [("choice", 1)]) fin_f B.zx (.seq (.call B (ok_all_choices fx) (by decide) (by rfl) fx.m_all_choices fx.f_all_choices.kp fx.b_all_choices (.cons (.ix B.zx (.v 0) .int) .nil))) (blkOk_by (by rfl)) (by decide) (fun s1 h1 _ _ p1 => (.name (B.blk s1 h1 _ _ p1).zx.nd 1)) (fun s1 h1 _ _ p1 => (.one (.val (.call (B.blk s1 h1 _ _ p1) (ok_serves fx) (by decide) (by rfl) fx.m_serves fx.f_serves.kp fx.b_serves (.cons (.v 0) (.cons (.v 1) .nil)))))) (fun s1 h1 _ _ p1 => (.v 1))) .nil)))))
theorem sc_turning : FnScope N_turning ["program", "place", "jump"] (defScope s_turning) := ⟨rfl, rfl, rfl, by decide +kernel, rfl, by decide +kernel, by decide +kernel⟩
theorem ok_turning (fx : FX P K mg) : FnG P w K mg base 5 fx.a_turning fx.d_turning ["program", "place", "jump"] (spZ K mg F_turning 3) :=
  zfn fx.f_turning sc_turning fun cdv A outer s H E B => ((.cons (.asg (.v 0) (.three B.zx.calm (.name B.zx.nd 3) (.name B.zx.nd 4) (.name B.zx.nd 5)))
  (.cons (.set B.zx.nd 6 (.call B (ok_steady_error fx) (by decide) (by rfl) fx.m_steady_error fx.f_steady_error.kp fx.b_steady_error (.cons (.v 3) .nil)))
  (.cons (.ife (.cmp zIsNot_ok (.v 6) .non)
  (.one (.raise1 B fx.x_Loose (.v 6)))
  .nil)
  (.cons (.par3 B.zx 7 8 9 (.cons (.call B (ok_step_of fx) (by decide) (by rfl) fx.m_step_of fx.f_step_of.kp fx.b_step_of (.cons (.v 3) .nil)) (.cons .int (.cons (.call B (ok_filled_up fx) (by decide) (by rfl) fx.m_filled_up fx.f_filled_up.kp fx.b_filled_up (.cons (.v 0) (.cons (.tup .nil) .nil))) .nil))))
  (.cons (.while_ B.zx 64 (.cmp (zNotIn_ok B.zx) (.v 2) (.v 9))
  (.cons (.set B.zx.nd 10 (.call B (ok_steps_wanted fx) (by decide) (by rfl) fx.m_steps_wanted fx.f_steps_wanted.kp fx.b_steps_wanted (.cons (.tup (.cons (.v 3) (.cons (.v 4) (.cons (.v 5) .nil)))) (.cons (.v 9) (.cons (.v 1) (.cons (.v 7) .nil))))))
  (.cons (.ife (.cmp zIs_ok (.v 10) .non)
  (.one (.ret .non))
  .nil)
  (.cons (.par2 B.zx 8 4 (.cons (.op2 zAdd_ok (.v 8) (.v 10)) (.cons (.call B (ok_lengthened fx) (by decide) (by rfl) fx.m_lengthened fx.f_lengthened.kp fx.b_lengthened (.cons (.v 4) (.cons (.v 1) (.cons (.op2 zMul_ok (.v 10) (.v 7)) .nil)))) .nil)))
  (.one (.set B.zx.nd 9 (.call B (ok_filled_up fx) (by decide) (by rfl) fx.m_filled_up fx.f_filled_up.kp fx.b_filled_up (.cons (.tup (.cons (.v 3) (.cons (.v 4) (.cons (.v 5) .nil)))) (.cons (.v 9) .nil)))))))))
  (.one (.ret (.v 8)))))))))
theorem sc_least_choice : FnScope N_least_choice ["program"] (defScope s_least_choice) := ⟨rfl, rfl, rfl, by decide +kernel, rfl, by decide +kernel, by decide +kernel⟩
theorem ok_least_choice (fx : FX P K mg) : FnG P w K mg base 6 fx.a_least_choice fx.d_least_choice ["program"] (spZ K mg F_least_choice 1) :=
  zfn fx.f_least_choice sc_least_choice fun cdv A outer s H E B => ((.cons (.set B.zx.nd 1 (.call B (ok_serving fx) (by decide) (by rfl) fx.m_serving fx.f_serving.kp fx.b_serving (.cons (.v 0) .nil)))
  (.cons (.set B.zx.nd 2 (ZE.minLen B.zx (by rfl) fx.n_min (by rfl) fx.n_len (.v 1)))
  (.cons (.for_ B.zx (.seq (.v 1)) (.name B.zx.nd 3)
  (.one (.ife (.not (.val (.call B (ok_is_within fx) (by decide) (by rfl) fx.m_is_within fx.f_is_within.kp fx.b_is_within (.cons (.v 2) (.cons (.v 3) .nil)))))
  (.one (.raise1 B fx.x_NoLeast (.tup (.cons (.v 2) (.cons (.v 3) .nil)))))
  .nil)))
  (.one (.ret (.v 2)))))))
theorem sc_law : FnScope N_law ["script"] (defScope s_law) := ⟨rfl, rfl, rfl, by decide +kernel, rfl, by decide +kernel, by decide +kernel⟩
theorem ok_law (fx : FX P K mg) : FnG P w K mg base 7 fx.a_law fx.d_law ["script"] (spZ K mg F_law 1) :=
  zfn fx.f_law sc_law fun cdv A outer s H E B => ((.cons (.set B.zx.nd 1 (.call B (ok__law_loom fx) (by decide) (by rfl) fx.m__law_loom fx.f__law_loom.kp fx.b__law_loom (.cons (.v 0) .nil)))
  (.cons (.for_ B.zx (.range1 (by rfl) fx.n_range .int) (.name B.zx.nd 2)
  (.cons (.parT B.zx (.cons (.ix B.zx (.lstF (.cons .int (.cons .int (.cons .int (.cons (.op2 zAdd_ok .int (.call B (ok__law_draw fx) (by decide) (by rfl) fx.m__law_draw fx.f__law_draw.kp fx.b__law_draw (.cons (.v 1) (.cons .int .nil)))) .nil))))) (.v 2)) (.cons (.call B (ok__law_pick fx) (by decide) (by rfl) fx.m__law_pick fx.f__law_pick.kp fx.b__law_pick (.cons (.v 1) (.cons (.lstF (.cons .int (.cons .int (.cons .int .nil)))) .nil))) .nil)) (tn_cons B.zx.nd 3 (tn_cons B.zx.nd 4 tn_nil)))
  (.cons (.set B.zx.nd 5 (.call B (ok__law_frame fx) (by decide) (by rfl) fx.m__law_frame fx.f__law_frame.kp fx.b__law_frame (.cons (.v 1) (.cons (.v 3) (.cons (.call B (ok__law_draw fx) (by decide) (by rfl) fx.m__law_draw fx.f__law_draw.kp fx.b__law_draw (.cons (.v 1) (.cons .int .nil))) (.cons (.op2 zAdd_ok .int (.call B (ok__law_draw fx) (by decide) (by rfl) fx.m__law_draw fx.f__law_draw.kp fx.b__law_draw (.cons (.v 1) (.cons .int .nil)))) (.cons (.v 4) (.cons .int .nil))))))))
  (.cons (.set B.zx.nd 5 (.call B (ok__law_calm fx) (by decide) (by rfl) fx.m__law_calm fx.f__law_calm.kp fx.b__law_calm (.cons (.v 1) (.cons (.v 5) .nil))))
  (.cons (.set B.zx.nd 5 (.ife (.cmp (zEq_ok B.zx) (.v 2) .int) (.call B (ok__law_rounded fx) (by decide) (by rfl) fx.m__law_rounded fx.f__law_rounded.kp fx.b__law_rounded (.cons (.v 1) (.cons .int .nil))) (.v 5)))
  (.cons (.parT B.zx (.cons (.op2 zAdd_ok (.callTy zTuple_ok (by rfl) fx.n_tuple (by rfl) (.cons (ZE.comp (own := [("item", 21)]) fin_f B.zx (.seq (.v 5)) (blkOk_by (by rfl)) (by decide) (fun s1 h1 _ _ p1 => (.name (B.blk s1 h1 _ _ p1).zx.nd 21)) (fun s1 h1 _ _ p1 => .nil) (fun s1 h1 _ _ p1 => (.op2 zAdd_ok (.call (B.blk s1 h1 _ _ p1) (ok__law_draw fx) (by decide) (by rfl) fx.m__law_draw fx.f__law_draw.kp fx.b__law_draw (.cons (.v 1) (.cons .int .nil))) (.callTy zInt_ok (by rfl) fx.n_int (by rfl) (.cons (.cmp (zEq_ok (B.blk s1 h1 _ _ p1).zx) (.v 2) .int) .nil))))) .nil)) (.tup (.cons .int .nil))) (.cons (.call B (ok__law_top fx) (by decide) (by rfl) fx.m__law_top fx.f__law_top.kp fx.b__law_top (.cons (.v 5) .nil)) .nil)) (tn_cons B.zx.nd 6 (tn_cons B.zx.nd 4 tn_nil)))
  (.cons (.set B.zx.nd 7 (.callTy zTuple_ok (by rfl) fx.n_tuple (by rfl) (.cons (ZE.comp (own := [("own", 20)]) fin_f B.zx (.seq (.call B (ok__law_spans fx) (by decide) (by rfl) fx.m__law_spans fx.f__law_spans.kp fx.b__law_spans (.cons (.v 1) (.cons (.v 5) (.cons (.v 6) .nil))))) (blkOk_by (by rfl)) (by decide) (fun s2 h2 _ _ p2 => (.name (B.blk s2 h2 _ _ p2).zx.nd 20)) (fun s2 h2 _ _ p2 => .nil) (fun s2 h2 _ _ p2 => (.op2 zAdd_ok (.v 20) (.op2 zMul_ok (.v 4) (.call (B.blk s2 h2 _ _ p2) (ok__law_draw fx) (by decide) (by rfl) fx.m__law_draw fx.f__law_draw.kp fx.b__law_draw (.cons (.v 1) (.cons .int .nil))))))) .nil)))
  (.cons (.set B.zx.nd 7 (.ife (.cmp (zEq_ok B.zx) (.v 2) .int) (.call B (ok__law_sharp fx) (by decide) (by rfl) fx.m__law_sharp fx.f__law_sharp.kp fx.b__law_sharp (.cons (.v 1) (.cons (.v 5) (.cons (.v 6) (.cons .int .nil))))) (.v 7)))
  (.cons (.parT B.zx (.cons (.call B (ok__law_draw fx) (by decide) (by rfl) fx.m__law_draw fx.f__law_draw.kp fx.b__law_draw (.cons (.v 1) (.cons (.callB zLen_ok (by rfl) fx.n_len (by rfl) (.cons (.v 6) .nil)) .nil))) (.cons (.call B (ok__law_jumps fx) (by decide) (by rfl) fx.m__law_jumps fx.f__law_jumps.kp fx.b__law_jumps (.cons (.v 5) .nil)) .nil)) (tn_cons B.zx.nd 8 (tn_cons B.zx.nd 9 tn_nil)))
  (.cons (.comp (i := 10) (own := [("at", 18)]) fin_f B.zx (.seq (.v 9)) (blkOk_by (by rfl)) (by decide) (by rfl) (by rfl) (by rfl) (fun s3 h3 _ _ p3 => (.name (B.blk s3 h3 _ _ p3).zx.nd 18)) (fun s3 h3 _ _ p3 => .nil) (fun s3 h3 _ _ p3 => (.call (B.blk s3 h3 _ _ p3) (ok_turning fx) (by decide) (by rfl) fx.m_turning fx.f_turning.kp fx.b_turning (.cons (.tup (.cons (.v 5) (.cons (.v 6) (.cons (.v 7) .nil)))) (.cons (.v 8) (.cons (.v 18) .nil))))))
  (.cons (.comp (i := 11) (own := [("number", 19)]) fin_f B.zx (.seq (.v 10)) (blkOk_by (by rfl)) (by decide) (by rfl) (by rfl) (by rfl) (fun s4 h4 _ _ p4 => (.name (B.blk s4 h4 _ _ p4).zx.nd 19)) (fun s4 h4 _ _ p4 => (.one (.cmp zIsNot_ok (.v 19) .non))) (fun s4 h4 _ _ p4 => (.v 19)))
  (.cons (.set B.zx.nd 12 (.sortSet B.zx (by rfl) fx.n_sorted (by rfl) fx.n_set (.op2 zAdd_ok (.op2 zAdd_ok (.lstF (.cons .int (.cons .int (.cons (.op2 zPow_ok .int .int) .nil)))) (.v 11)) (ZE.comp (own := [("number", 19)]) fin_f B.zx (.seq (.v 11)) (blkOk_by (by rfl)) (by decide) (fun s5 h5 _ _ p5 => (.name (B.blk s5 h5 _ _ p5).zx.nd 19)) (fun s5 h5 _ _ p5 => (.one (.cmp zGt_ok (.v 19) .int))) (fun s5 h5 _ _ p5 => (.op2 zSub_ok (.v 19) .int))))))
  (.cons (.set B.zx.nd 12 (.ife (.cmp zLt_ok (.callB zLen_ok (by rfl) fx.n_len (by rfl) (.cons (.v 12) .nil)) .int) (.v 12) (.callB (zSort_ok B.zx) (by rfl) fx.n_sorted (by rfl) (.cons (.sl (.call B (ok__law_mixed fx) (by decide) (by rfl) fx.m__law_mixed fx.f__law_mixed.kp fx.b__law_mixed (.cons (.v 1) (.cons (.v 12) .nil))) .none (.some .int)) .nil))))
  (.cons (.set B.zx.nd 13 (.tup .nil))
  (.cons (.for_ B.zx (.seq (.v 12)) (.name B.zx.nd 14)
  (.cons (.set B.zx.nd 15 (.callTy zTuple_ok (by rfl) fx.n_tuple (by rfl) (.cons (ZE.comp (own := [("at", 18), ("number", 19)]) fin_f B.zx (.zip (by rfl) fx.n_zip (.v 9) (.v 10)) (blkOk_by (by rfl)) (by decide) (fun s6 h6 _ _ p6 => (.two (B.blk s6 h6 _ _ p6).zx.calm (.name (B.blk s6 h6 _ _ p6).zx.nd 18) (.name (B.blk s6 h6 _ _ p6).zx.nd 19))) (fun s6 h6 _ _ p6 => (.one (.w (.and (.cmp zIsNot_ok (.v 19) .non) (.and1 (.cmp zLe_ok (.v 19) (.v 14))))))) (fun s6 h6 _ _ p6 => (.v 18))) .nil)))
  (.cons (.set B.zx.nd 16 (.call B (ok__law_longer fx) (by decide) (by rfl) fx.m__law_longer fx.f__law_longer.kp fx.b__law_longer (.cons (.v 6) (.cons (.v 8) (.cons (.op2 zMul_ok (.v 14) (.v 4)) .nil)))))
  (.cons (.ife (.w (.or (.cmp (zNe_ok B.zx) (.call B (ok__law_least fx) (by decide) (by rfl) fx.m__law_least fx.f__law_least.kp fx.b__law_least (.cons (.v 5) (.cons (.v 16) (.cons (.v 7) .nil)))) (.v 15)) (.or1 (.cmp (zNe_ok B.zx) (ZE.comp (own := [("at", 18)]) fin_f B.zx (.seq (.v 13)) (blkOk_by (by rfl)) (by decide) (fun s7 h7 _ _ p7 => (.name (B.blk s7 h7 _ _ p7).zx.nd 18)) (fun s7 h7 _ _ p7 => (.one (.cmp (zNotIn_ok (B.blk s7 h7 _ _ p7).zx) (.v 18) (.v 15)))) (fun s7 h7 _ _ p7 => (.v 18))) (.lstF .nil)))))
  (.one (.ret .bl))
  .nil)
  (.cons (.ife (.w (.and (.cmp zLt_ok (.v 3) .int) (.and (.cmp zLe_ok (.ix B.zx (.v 16) (.v 8)) (.op2 zPow_ok .int .int)) (.and1 (.cmp (zNe_ok B.zx) (.callB (zShow_ok B.zx) (by rfl) fx.n_repr (by rfl) (.cons (.call B (ok_least_choice fx) (by decide) (by rfl) fx.m_least_choice fx.f_least_choice.kp fx.b_least_choice (.cons (.tup (.cons (.v 5) (.cons (.v 16) (.cons (.v 7) .nil)))) .nil)) .nil)) (.callB (zShow_ok B.zx) (by rfl) fx.n_repr (by rfl) (.cons (.v 15) .nil)))))))
  (.one (.ret .bl))
  .nil)
  (.one (.set B.zx.nd 13 (.v 15))))))))
  (.cons (.set B.zx.nd 17 (.callB (zMax_ok B.zx) (by rfl) fx.n_max (by rfl) (.cons (ZE.comp (own := [("at", 18)]) fin_f B.zx (.seq (.v 9)) (blkOk_by (by rfl)) (by decide) (fun s8 h8 _ _ p8 => (.name (B.blk s8 h8 _ _ p8).zx.nd 18)) (fun s8 h8 _ _ p8 => .nil) (fun s8 h8 _ _ p8 => (.callB (zMax_ok (B.blk s8 h8 _ _ p8).zx) (by rfl) fx.n_max (by rfl) (.cons (.v 18) (.cons (.ix (B.blk s8 h8 _ _ p8).zx (.ix (B.blk s8 h8 _ _ p8).zx (.v 5) (.v 18)) .int) .nil))))) .nil)))
  (.one (.ife (.w (.and (.cmp zGt_ok (.v 8) (.v 17)) (.and1 (.cmp (zNe_ok B.zx) (ZE.comp (own := [("number", 19)]) fin_f B.zx (.seq (.v 10)) (blkOk_by (by rfl)) (by decide) (fun s9 h9 _ _ p9 => (.name (B.blk s9 h9 _ _ p9).zx.nd 19)) (fun s9 h9 _ _ p9 => (.one (.cmp (zNotIn_ok (B.blk s9 h9 _ _ p9).zx) (.v 19) (.tup (.cons .int (.cons .non .nil)))))) (fun s9 h9 _ _ p9 => (.v 19))) (.lstF .nil)))))
  (.one (.ret .bl))
  .nil))))))))))))))))))
  (.one (.ret .bl)))))
end
theorem all_mk {P : Program} {w : World} {K : PySem.W.Frag} {h : Heap} {mg : Str → Option Value} {fa : Addr} (X : K.In h) (G : h.Ns mainGlobals mg) (hfa : mg "law" = some (.ref fa))
    (z_abs : PySem.W.nsIn K mainGlobals "abs" = some none)
    (z_all : PySem.W.nsIn K mainGlobals "all" = some none)
    (z_any : PySem.W.nsIn K mainGlobals "any" = some none)
    (z_enumerate : PySem.W.nsIn K mainGlobals "enumerate" = some none)
    (z_int : PySem.W.nsIn K mainGlobals "int" = some none)
    (z_len : PySem.W.nsIn K mainGlobals "len" = some none)
    (z_list : PySem.W.nsIn K mainGlobals "list" = some none)
    (z_max : PySem.W.nsIn K mainGlobals "max" = some none)
    (z_min : PySem.W.nsIn K mainGlobals "min" = some none)
    (z_range : PySem.W.nsIn K mainGlobals "range" = some none)
    (z_repr : PySem.W.nsIn K mainGlobals "repr" = some none)
    (z_set : PySem.W.nsIn K mainGlobals "set" = some none)
    (z_sorted : PySem.W.nsIn K mainGlobals "sorted" = some none)
    (z_sum : PySem.W.nsIn K mainGlobals "sum" = some none)
    (z_tuple : PySem.W.nsIn K mainGlobals "tuple" = some none)
    (z_zip : PySem.W.nsIn K mainGlobals "zip" = some none)
    {C_Loose : Addr}
    (aC_Loose : PySem.W.nsIn K mainGlobals "Loose" = some (some (.ref C_Loose)))
    (kC_Loose : PySem.W.keepIn K (.ref C_Loose) = true)
    (eC_Loose : PySem.W.subIn K (.ref C_Loose) (.type "BaseException") = some true)
    (tC_Loose : PySem.W.typeIn K (.ref C_Loose) = some (.type "type"))
    (hC_Loose : PySem.W.hasDictIn K C_Loose = true)
    {L_Loose fI_Loose cda_Loose cc_Loose N_Loose NL_Loose : Addr} {nm_Loose q_Loose nmL_Loose qL_Loose file_Loose qual_Loose : Str} {tf_Loose : Tok} {bs_Loose bsL_Loose sub_Loose subL_Loose : List Value} {sn_Loose snL_Loose : List Str} {ab_Loose abL_Loose hdL_Loose : Bool} {col_Loose colL_Loose : Option Bool} {dd_Loose ddL_Loose od_Loose an_Loose cdd_Loose cld_Loose : Option Addr} {m0_Loose m1_Loose m2_Loose m3_Loose m5_Loose n0_Loose n1_Loose n2_Loose n3_Loose n5_Loose : Option Value} {oc_Loose doc_Loose pm_Loose ct_Loose ccl_Loose cl_Loose : Value} {osl_Loose ccs_Loose csl_Loose : Array (Option Value)} {vs_Loose : Array Value}
    (xC_Loose : K.lookup C_Loose = some (excClassObj nm_Loose q_Loose C_Loose N_Loose bs_Loose [.ref L_Loose, .type "ValueError", .type "Exception", .type "BaseException", .type "object"] true sn_Loose sub_Loose ab_Loose col_Loose dd_Loose m0_Loose m1_Loose m2_Loose m3_Loose m5_Loose "ValueError.__new__"))
    (sa_Loose : PySem.W.findIn K (.ref C_Loose) "__setattr__" = some (some (.builtin "object.__setattr__")))
    (ga_Loose : PySem.W.findIn K (.ref C_Loose) "__getattribute__" = some (some (.builtin "BaseException.__getattribute__")))
    (gg_Loose : PySem.W.findIn K (.ref C_Loose) "__getattr__" = some none)
    (nb_Loose : PySem.W.findIn K (.ref C_Loose) "triple" = some none)
    (ve_Loose : PySem.W.subIn K (.ref C_Loose) (.type "ValueError") = some true)
    (op_Loose : PySem.W.nsIn K cStatics "thirdparty.any" = some none)
    (su_Loose : PySem.W.nsIn K mainGlobals "super" = some none)
    (xL_Loose : K.lookup L_Loose = some (excClassObj nmL_Loose qL_Loose L_Loose NL_Loose bsL_Loose [.type "ValueError", .type "Exception", .type "BaseException", .type "object"] hdL_Loose snL_Loose subL_Loose abL_Loose colL_Loose ddL_Loose n0_Loose n1_Loose n2_Loose n3_Loose n5_Loose "ValueError.__new__"))
    (iL_Loose : PySem.W.findIn K (.ref L_Loose) "__init__" = some (some (.builtin "ValueError.__init__")))
    (hq_Loose : (Value.ref C_Loose != Value.ref C_Loose) = false)
    (i1_Loose : PySem.W.findIn K (.ref C_Loose) "__init__" = some (some (.ref fI_Loose)))
    (t1_Loose : PySem.W.typeIn K (.ref fI_Loose) = some (.type "function"))
    (l1_Loose : K.lookup fI_Loose = some ⟨oc_Loose, od_Loose, .func (PySem.W.ksFn "__init__" qual_Loose (PySem.SupX.iA "triple" ⟨6, 17, 6, 21⟩ ⟨6, 23, 6, 29⟩) (PySem.SupX.iB "triple" (fun n => [⟨7, 8, 7, 13⟩, ⟨7, 8, 7, 15⟩, ⟨7, 8, 7, 24⟩, ⟨7, 25, 7, 31⟩, ⟨7, 8, 7, 32⟩, ⟨7, 8, 7, 32⟩, ⟨8, 8, 8, 12⟩, ⟨8, 8, 8, 19⟩, ⟨8, 22, 8, 28⟩, ⟨8, 8, 8, 28⟩].getD n ⟨0, 0, 0, 0⟩ : Nat → Pos)) (PySem.SupX.iS "triple") .none .none doc_Loose pm_Loose an_Loose (.ref cda_Loose) ct_Loose cc_Loose), osl_Loose⟩)
    (c1_Loose : PySem.W.codeIn K (.ref cda_Loose) qual_Loose = true)
    (l2_Loose : K.lookup cda_Loose = some ⟨ccl_Loose, cdd_Loose, .fields vs_Loose, ccs_Loose⟩)
    (v2_Loose : vs_Loose[2]? = some (.str file_Loose tf_Loose))
    (hf_Loose : ((P.main.file : Str) == file_Loose) = true)
    (l3_Loose : K.lookup cc_Loose = some ⟨cl_Loose, cld_Loose, .cell (some (.ref C_Loose)), csl_Loose⟩)
    (ht_Loose : (P.main.scope.names.lookup ("super" : Str)).isSome = false)
    {C_NoLeast : Addr}
    (aC_NoLeast : PySem.W.nsIn K mainGlobals "NoLeast" = some (some (.ref C_NoLeast)))
    (kC_NoLeast : PySem.W.keepIn K (.ref C_NoLeast) = true)
    (eC_NoLeast : PySem.W.subIn K (.ref C_NoLeast) (.type "BaseException") = some true)
    (tC_NoLeast : PySem.W.typeIn K (.ref C_NoLeast) = some (.type "type"))
    (hC_NoLeast : PySem.W.hasDictIn K C_NoLeast = true)
    {L_NoLeast fI_NoLeast cda_NoLeast cc_NoLeast N_NoLeast NL_NoLeast : Addr} {nm_NoLeast q_NoLeast nmL_NoLeast qL_NoLeast file_NoLeast qual_NoLeast : Str} {tf_NoLeast : Tok} {bs_NoLeast bsL_NoLeast sub_NoLeast subL_NoLeast : List Value} {sn_NoLeast snL_NoLeast : List Str} {ab_NoLeast abL_NoLeast hdL_NoLeast : Bool} {col_NoLeast colL_NoLeast : Option Bool} {dd_NoLeast ddL_NoLeast od_NoLeast an_NoLeast cdd_NoLeast cld_NoLeast : Option Addr} {m0_NoLeast m1_NoLeast m2_NoLeast m3_NoLeast m5_NoLeast n0_NoLeast n1_NoLeast n2_NoLeast n3_NoLeast n5_NoLeast : Option Value} {oc_NoLeast doc_NoLeast pm_NoLeast ct_NoLeast ccl_NoLeast cl_NoLeast : Value} {osl_NoLeast ccs_NoLeast csl_NoLeast : Array (Option Value)} {vs_NoLeast : Array Value}
    (xC_NoLeast : K.lookup C_NoLeast = some (excClassObj nm_NoLeast q_NoLeast C_NoLeast N_NoLeast bs_NoLeast [.ref L_NoLeast, .type "ValueError", .type "Exception", .type "BaseException", .type "object"] true sn_NoLeast sub_NoLeast ab_NoLeast col_NoLeast dd_NoLeast m0_NoLeast m1_NoLeast m2_NoLeast m3_NoLeast m5_NoLeast "ValueError.__new__"))
    (sa_NoLeast : PySem.W.findIn K (.ref C_NoLeast) "__setattr__" = some (some (.builtin "object.__setattr__")))
    (ga_NoLeast : PySem.W.findIn K (.ref C_NoLeast) "__getattribute__" = some (some (.builtin "BaseException.__getattribute__")))
    (gg_NoLeast : PySem.W.findIn K (.ref C_NoLeast) "__getattr__" = some none)
    (nb_NoLeast : PySem.W.findIn K (.ref C_NoLeast) "paper" = some none)
    (ve_NoLeast : PySem.W.subIn K (.ref C_NoLeast) (.type "ValueError") = some true)
    (op_NoLeast : PySem.W.nsIn K cStatics "thirdparty.any" = some none)
    (su_NoLeast : PySem.W.nsIn K mainGlobals "super" = some none)
    (xL_NoLeast : K.lookup L_NoLeast = some (excClassObj nmL_NoLeast qL_NoLeast L_NoLeast NL_NoLeast bsL_NoLeast [.type "ValueError", .type "Exception", .type "BaseException", .type "object"] hdL_NoLeast snL_NoLeast subL_NoLeast abL_NoLeast colL_NoLeast ddL_NoLeast n0_NoLeast n1_NoLeast n2_NoLeast n3_NoLeast n5_NoLeast "ValueError.__new__"))
    (iL_NoLeast : PySem.W.findIn K (.ref L_NoLeast) "__init__" = some (some (.builtin "ValueError.__init__")))
    (hq_NoLeast : (Value.ref C_NoLeast != Value.ref C_NoLeast) = false)
    (i1_NoLeast : PySem.W.findIn K (.ref C_NoLeast) "__init__" = some (some (.ref fI_NoLeast)))
    (t1_NoLeast : PySem.W.typeIn K (.ref fI_NoLeast) = some (.type "function"))
    (l1_NoLeast : K.lookup fI_NoLeast = some ⟨oc_NoLeast, od_NoLeast, .func (PySem.W.ksFn "__init__" qual_NoLeast (PySem.SupX.iA "paper" ⟨11, 17, 11, 21⟩ ⟨11, 23, 11, 28⟩) (PySem.SupX.iB "paper" (fun n => [⟨12, 8, 12, 13⟩, ⟨12, 8, 12, 15⟩, ⟨12, 8, 12, 24⟩, ⟨12, 25, 12, 30⟩, ⟨12, 8, 12, 31⟩, ⟨12, 8, 12, 31⟩, ⟨13, 8, 13, 12⟩, ⟨13, 8, 13, 18⟩, ⟨13, 21, 13, 26⟩, ⟨13, 8, 13, 26⟩].getD n ⟨0, 0, 0, 0⟩ : Nat → Pos)) (PySem.SupX.iS "paper") .none .none doc_NoLeast pm_NoLeast an_NoLeast (.ref cda_NoLeast) ct_NoLeast cc_NoLeast), osl_NoLeast⟩)
    (c1_NoLeast : PySem.W.codeIn K (.ref cda_NoLeast) qual_NoLeast = true)
    (l2_NoLeast : K.lookup cda_NoLeast = some ⟨ccl_NoLeast, cdd_NoLeast, .fields vs_NoLeast, ccs_NoLeast⟩)
    (v2_NoLeast : vs_NoLeast[2]? = some (.str file_NoLeast tf_NoLeast))
    (hf_NoLeast : ((P.main.file : Str) == file_NoLeast) = true)
    (l3_NoLeast : K.lookup cc_NoLeast = some ⟨cl_NoLeast, cld_NoLeast, .cell (some (.ref C_NoLeast)), csl_NoLeast⟩)
    (ht_NoLeast : (P.main.scope.names.lookup ("super" : Str)).isSome = false)
    {f0 : Addr} {od0 an0 : Option Addr} {sl0 : Array (Option Value)} {oc0 kV0 dc0 pm0 cd0 ct0 : Value} (a0 : PySem.W.nsIn K mainGlobals "jumps_of" = some (some (.ref f0)))
    (l0 : K.lookup f0 = some ⟨oc0, od0, .func (PySem.W.fnOf "jumps_of" "jumps_of" (defArgs s_jumps_of) (defBody s_jumps_of) (defScope s_jumps_of) .none kV0 dc0 pm0 an0 cd0 ct0), sl0⟩) (c0 : PySem.W.codeIn K cd0 "jumps_of" = true) (k0 : PySem.W.keepIn K (.ref f0) = true)
    {f1 : Addr} {od1 an1 : Option Addr} {sl1 : Array (Option Value)} {oc1 kV1 dc1 pm1 cd1 ct1 : Value} (a1 : PySem.W.nsIn K mainGlobals "bytes_at" = some (some (.ref f1)))
    (l1 : K.lookup f1 = some ⟨oc1, od1, .func (PySem.W.fnOf "bytes_at" "bytes_at" (defArgs s_bytes_at) (defBody s_bytes_at) (defScope s_bytes_at) .none kV1 dc1 pm1 an1 cd1 ct1), sl1⟩) (c1 : PySem.W.codeIn K cd1 "bytes_at" = true) (k1 : PySem.W.keepIn K (.ref f1) = true)
    {f2 : Addr} {od2 an2 : Option Addr} {sl2 : Array (Option Value)} {oc2 kV2 dc2 pm2 cd2 ct2 : Value} (a2 : PySem.W.nsIn K mainGlobals "in_way" = some (some (.ref f2)))
    (l2 : K.lookup f2 = some ⟨oc2, od2, .func (PySem.W.fnOf "in_way" "in_way" (defArgs s_in_way) (defBody s_in_way) (defScope s_in_way) .none kV2 dc2 pm2 an2 cd2 ct2), sl2⟩) (c2 : PySem.W.codeIn K cd2 "in_way" = true) (k2 : PySem.W.keepIn K (.ref f2) = true)
    {f3 : Addr} {od3 an3 : Option Addr} {sl3 : Array (Option Value)} {oc3 kV3 dc3 pm3 cd3 ct3 : Value} (a3 : PySem.W.nsIn K mainGlobals "ahead_of_way" = some (some (.ref f3)))
    (l3 : K.lookup f3 = some ⟨oc3, od3, .func (PySem.W.fnOf "ahead_of_way" "ahead_of_way" (defArgs s_ahead_of_way) (defBody s_ahead_of_way) (defScope s_ahead_of_way) .none kV3 dc3 pm3 an3 cd3 ct3), sl3⟩) (c3 : PySem.W.codeIn K cd3 "ahead_of_way" = true) (k3 : PySem.W.keepIn K (.ref f3) = true)
    {f4 : Addr} {od4 an4 : Option Addr} {sl4 : Array (Option Value)} {oc4 kV4 dc4 pm4 cd4 ct4 : Value} (a4 : PySem.W.nsIn K mainGlobals "way_between" = some (some (.ref f4)))
    (l4 : K.lookup f4 = some ⟨oc4, od4, .func (PySem.W.fnOf "way_between" "way_between" (defArgs s_way_between) (defBody s_way_between) (defScope s_way_between) .none kV4 dc4 pm4 an4 cd4 ct4), sl4⟩) (c4 : PySem.W.codeIn K cd4 "way_between" = true) (k4 : PySem.W.keepIn K (.ref f4) = true)
    {f5 : Addr} {od5 an5 : Option Addr} {sl5 : Array (Option Value)} {oc5 kV5 dc5 pm5 cd5 ct5 : Value} (a5 : PySem.W.nsIn K mainGlobals "is_within" = some (some (.ref f5)))
    (l5 : K.lookup f5 = some ⟨oc5, od5, .func (PySem.W.fnOf "is_within" "is_within" (defArgs s_is_within) (defBody s_is_within) (defScope s_is_within) .none kV5 dc5 pm5 an5 cd5 ct5), sl5⟩) (c5 : PySem.W.codeIn K cd5 "is_within" = true) (k5 : PySem.W.keepIn K (.ref f5) = true)
    {f6 : Addr} {od6 an6 : Option Addr} {sl6 : Array (Option Value)} {oc6 kV6 dc6 pm6 cd6 ct6 : Value} (a6 : PySem.W.nsIn K mainGlobals "growth" = some (some (.ref f6)))
    (l6 : K.lookup f6 = some ⟨oc6, od6, .func (PySem.W.fnOf "growth" "growth" (defArgs s_growth) (defBody s_growth) (defScope s_growth) .none kV6 dc6 pm6 an6 cd6 ct6), sl6⟩) (c6 : PySem.W.codeIn K cd6 "growth" = true) (k6 : PySem.W.keepIn K (.ref f6) = true)
    {f7 : Addr} {od7 an7 : Option Addr} {sl7 : Array (Option Value)} {oc7 kV7 dc7 pm7 cd7 ct7 : Value} (a7 : PySem.W.nsIn K mainGlobals "is_kept_away" = some (some (.ref f7)))
    (l7 : K.lookup f7 = some ⟨oc7, od7, .func (PySem.W.fnOf "is_kept_away" "is_kept_away" (defArgs s_is_kept_away) (defBody s_is_kept_away) (defScope s_is_kept_away) .none kV7 dc7 pm7 an7 cd7 ct7), sl7⟩) (c7 : PySem.W.codeIn K cd7 "is_kept_away" = true) (k7 : PySem.W.keepIn K (.ref f7) = true)
    {f8 : Addr} {od8 an8 : Option Addr} {sl8 : Array (Option Value)} {oc8 kV8 dc8 pm8 cd8 ct8 : Value} (a8 : PySem.W.nsIn K mainGlobals "step_of" = some (some (.ref f8)))
    (l8 : K.lookup f8 = some ⟨oc8, od8, .func (PySem.W.fnOf "step_of" "step_of" (defArgs s_step_of) (defBody s_step_of) (defScope s_step_of) .none kV8 dc8 pm8 an8 cd8 ct8), sl8⟩) (c8 : PySem.W.codeIn K cd8 "step_of" = true) (k8 : PySem.W.keepIn K (.ref f8) = true)
    {f9 : Addr} {od9 an9 : Option Addr} {sl9 : Array (Option Value)} {oc9 kV9 dc9 pm9 cd9 ct9 : Value} (a9 : PySem.W.nsIn K mainGlobals "holds_length" = some (some (.ref f9)))
    (l9 : K.lookup f9 = some ⟨oc9, od9, .func (PySem.W.fnOf "holds_length" "holds_length" (defArgs s_holds_length) (defBody s_holds_length) (defScope s_holds_length) .none kV9 dc9 pm9 an9 cd9 ct9), sl9⟩) (c9 : PySem.W.codeIn K cd9 "holds_length" = true) (k9 : PySem.W.keepIn K (.ref f9) = true)
    {f10 : Addr} {od10 an10 : Option Addr} {sl10 : Array (Option Value)} {oc10 kV10 dc10 pm10 cd10 ct10 : Value} (a10 : PySem.W.nsIn K mainGlobals "lengthened" = some (some (.ref f10)))
    (l10 : K.lookup f10 = some ⟨oc10, od10, .func (PySem.W.fnOf "lengthened" "lengthened" (defArgs s_lengthened) (defBody s_lengthened) (defScope s_lengthened) .none kV10 dc10 pm10 an10 cd10 ct10), sl10⟩) (c10 : PySem.W.codeIn K cd10 "lengthened" = true) (k10 : PySem.W.keepIn K (.ref f10) = true)
    {f11 : Addr} {od11 an11 : Option Addr} {sl11 : Array (Option Value)} {oc11 kV11 dc11 pm11 cd11 ct11 : Value} (a11 : PySem.W.nsIn K mainGlobals "_law_loom" = some (some (.ref f11)))
    (l11 : K.lookup f11 = some ⟨oc11, od11, .func (PySem.W.fnOf "_law_loom" "_law_loom" (defArgs s__law_loom) (defBody s__law_loom) (defScope s__law_loom) .none kV11 dc11 pm11 an11 cd11 ct11), sl11⟩) (c11 : PySem.W.codeIn K cd11 "_law_loom" = true) (k11 : PySem.W.keepIn K (.ref f11) = true)
    {f12 : Addr} {od12 an12 : Option Addr} {sl12 : Array (Option Value)} {oc12 kV12 dc12 pm12 cd12 ct12 : Value} (a12 : PySem.W.nsIn K mainGlobals "_law_draw" = some (some (.ref f12)))
    (l12 : K.lookup f12 = some ⟨oc12, od12, .func (PySem.W.fnOf "_law_draw" "_law_draw" (defArgs s__law_draw) (defBody s__law_draw) (defScope s__law_draw) .none kV12 dc12 pm12 an12 cd12 ct12), sl12⟩) (c12 : PySem.W.codeIn K cd12 "_law_draw" = true) (k12 : PySem.W.keepIn K (.ref f12) = true)
    {f13 : Addr} {od13 an13 : Option Addr} {sl13 : Array (Option Value)} {oc13 kV13 dc13 pm13 cd13 ct13 : Value} (a13 : PySem.W.nsIn K mainGlobals "_law_jumps" = some (some (.ref f13)))
    (l13 : K.lookup f13 = some ⟨oc13, od13, .func (PySem.W.fnOf "_law_jumps" "_law_jumps" (defArgs s__law_jumps) (defBody s__law_jumps) (defScope s__law_jumps) .none kV13 dc13 pm13 an13 cd13 ct13), sl13⟩) (c13 : PySem.W.codeIn K cd13 "_law_jumps" = true) (k13 : PySem.W.keepIn K (.ref f13) = true)
    {f14 : Addr} {od14 an14 : Option Addr} {sl14 : Array (Option Value)} {oc14 kV14 dc14 pm14 cd14 ct14 : Value} (a14 : PySem.W.nsIn K mainGlobals "_law_top" = some (some (.ref f14)))
    (l14 : K.lookup f14 = some ⟨oc14, od14, .func (PySem.W.fnOf "_law_top" "_law_top" (defArgs s__law_top) (defBody s__law_top) (defScope s__law_top) .none kV14 dc14 pm14 an14 cd14 ct14), sl14⟩) (c14 : PySem.W.codeIn K cd14 "_law_top" = true) (k14 : PySem.W.keepIn K (.ref f14) = true)
    {f15 : Addr} {od15 an15 : Option Addr} {sl15 : Array (Option Value)} {oc15 kV15 dc15 pm15 cd15 ct15 : Value} (a15 : PySem.W.nsIn K mainGlobals "_law_laid" = some (some (.ref f15)))
    (l15 : K.lookup f15 = some ⟨oc15, od15, .func (PySem.W.fnOf "_law_laid" "_law_laid" (defArgs s__law_laid) (defBody s__law_laid) (defScope s__law_laid) .none kV15 dc15 pm15 an15 cd15 ct15), sl15⟩) (c15 : PySem.W.codeIn K cd15 "_law_laid" = true) (k15 : PySem.W.keepIn K (.ref f15) = true)
    {f16 : Addr} {od16 an16 : Option Addr} {sl16 : Array (Option Value)} {oc16 kV16 dc16 pm16 cd16 ct16 : Value} (a16 : PySem.W.nsIn K mainGlobals "_law_longer" = some (some (.ref f16)))
    (l16 : K.lookup f16 = some ⟨oc16, od16, .func (PySem.W.fnOf "_law_longer" "_law_longer" (defArgs s__law_longer) (defBody s__law_longer) (defScope s__law_longer) .none kV16 dc16 pm16 an16 cd16 ct16), sl16⟩) (c16 : PySem.W.codeIn K cd16 "_law_longer" = true) (k16 : PySem.W.keepIn K (.ref f16) = true)
    {f17 : Addr} {od17 an17 : Option Addr} {sl17 : Array (Option Value)} {oc17 kV17 dc17 pm17 cd17 ct17 : Value} (a17 : PySem.W.nsIn K mainGlobals "laid" = some (some (.ref f17)))
    (l17 : K.lookup f17 = some ⟨oc17, od17, .func (PySem.W.fnOf "laid" "laid" (defArgs s_laid) (defBody s_laid) (defScope s_laid) .none kV17 dc17 pm17 an17 cd17 ct17), sl17⟩) (c17 : PySem.W.codeIn K cd17 "laid" = true) (k17 : PySem.W.keepIn K (.ref f17) = true)
    {f18 : Addr} {od18 an18 : Option Addr} {sl18 : Array (Option Value)} {oc18 kV18 dc18 pm18 cd18 ct18 : Value} (a18 : PySem.W.nsIn K mainGlobals "all_choices" = some (some (.ref f18)))
    (l18 : K.lookup f18 = some ⟨oc18, od18, .func (PySem.W.fnOf "all_choices" "all_choices" (defArgs s_all_choices) (defBody s_all_choices) (defScope s_all_choices) .none kV18 dc18 pm18 an18 cd18 ct18), sl18⟩) (c18 : PySem.W.codeIn K cd18 "all_choices" = true) (k18 : PySem.W.keepIn K (.ref f18) = true)
    {f19 : Addr} {od19 an19 : Option Addr} {sl19 : Array (Option Value)} {oc19 kV19 dc19 pm19 cd19 ct19 : Value} (a19 : PySem.W.nsIn K mainGlobals "is_triple" = some (some (.ref f19)))
    (l19 : K.lookup f19 = some ⟨oc19, od19, .func (PySem.W.fnOf "is_triple" "is_triple" (defArgs s_is_triple) (defBody s_is_triple) (defScope s_is_triple) .none kV19 dc19 pm19 an19 cd19 ct19), sl19⟩) (c19 : PySem.W.codeIn K cd19 "is_triple" = true) (k19 : PySem.W.keepIn K (.ref f19) = true)
    {f20 : Addr} {od20 an20 : Option Addr} {sl20 : Array (Option Value)} {oc20 kV20 dc20 pm20 cd20 ct20 : Value} (a20 : PySem.W.nsIn K mainGlobals "_law_pick" = some (some (.ref f20)))
    (l20 : K.lookup f20 = some ⟨oc20, od20, .func (PySem.W.fnOf "_law_pick" "_law_pick" (defArgs s__law_pick) (defBody s__law_pick) (defScope s__law_pick) .none kV20 dc20 pm20 an20 cd20 ct20), sl20⟩) (c20 : PySem.W.codeIn K cd20 "_law_pick" = true) (k20 : PySem.W.keepIn K (.ref f20) = true)
    {f21 : Addr} {od21 an21 : Option Addr} {sl21 : Array (Option Value)} {oc21 kV21 dc21 pm21 cd21 ct21 : Value} (a21 : PySem.W.nsIn K mainGlobals "_law_mixed" = some (some (.ref f21)))
    (l21 : K.lookup f21 = some ⟨oc21, od21, .func (PySem.W.fnOf "_law_mixed" "_law_mixed" (defArgs s__law_mixed) (defBody s__law_mixed) (defScope s__law_mixed) .none kV21 dc21 pm21 an21 cd21 ct21), sl21⟩) (c21 : PySem.W.codeIn K cd21 "_law_mixed" = true) (k21 : PySem.W.keepIn K (.ref f21) = true)
    {f22 : Addr} {od22 an22 : Option Addr} {sl22 : Array (Option Value)} {oc22 kV22 dc22 pm22 cd22 ct22 : Value} (a22 : PySem.W.nsIn K mainGlobals "_law_way" = some (some (.ref f22)))
    (l22 : K.lookup f22 = some ⟨oc22, od22, .func (PySem.W.fnOf "_law_way" "_law_way" (defArgs s__law_way) (defBody s__law_way) (defScope s__law_way) .none kV22 dc22 pm22 an22 cd22 ct22), sl22⟩) (c22 : PySem.W.codeIn K cd22 "_law_way" = true) (k22 : PySem.W.keepIn K (.ref f22) = true)
    {f23 : Addr} {od23 an23 : Option Addr} {sl23 : Array (Option Value)} {oc23 kV23 dc23 pm23 cd23 ct23 : Value} (a23 : PySem.W.nsIn K mainGlobals "_law_triples" = some (some (.ref f23)))
    (l23 : K.lookup f23 = some ⟨oc23, od23, .func (PySem.W.fnOf "_law_triples" "_law_triples" (defArgs s__law_triples) (defBody s__law_triples) (defScope s__law_triples) .none kV23 dc23 pm23 an23 cd23 ct23), sl23⟩) (c23 : PySem.W.codeIn K cd23 "_law_triples" = true) (k23 : PySem.W.keepIn K (.ref f23) = true)
    {f24 : Addr} {od24 an24 : Option Addr} {sl24 : Array (Option Value)} {oc24 kV24 dc24 pm24 cd24 ct24 : Value} (a24 : PySem.W.nsIn K mainGlobals "_law_steadied" = some (some (.ref f24)))
    (l24 : K.lookup f24 = some ⟨oc24, od24, .func (PySem.W.fnOf "_law_steadied" "_law_steadied" (defArgs s__law_steadied) (defBody s__law_steadied) (defScope s__law_steadied) .none kV24 dc24 pm24 an24 cd24 ct24), sl24⟩) (c24 : PySem.W.codeIn K cd24 "_law_steadied" = true) (k24 : PySem.W.keepIn K (.ref f24) = true)
    {f25 : Addr} {od25 an25 : Option Addr} {sl25 : Array (Option Value)} {oc25 kV25 dc25 pm25 cd25 ct25 : Value} (a25 : PySem.W.nsIn K mainGlobals "way_of" = some (some (.ref f25)))
    (l25 : K.lookup f25 = some ⟨oc25, od25, .func (PySem.W.fnOf "way_of" "way_of" (defArgs s_way_of) (defBody s_way_of) (defScope s_way_of) .none kV25 dc25 pm25 an25 cd25 ct25), sl25⟩) (c25 : PySem.W.codeIn K cd25 "way_of" = true) (k25 : PySem.W.keepIn K (.ref f25) = true)
    {f26 : Addr} {od26 an26 : Option Addr} {sl26 : Array (Option Value)} {oc26 kV26 dc26 pm26 cd26 ct26 : Value} (a26 : PySem.W.nsIn K mainGlobals "stuck" = some (some (.ref f26)))
    (l26 : K.lookup f26 = some ⟨oc26, od26, .func (PySem.W.fnOf "stuck" "stuck" (defArgs s_stuck) (defBody s_stuck) (defScope s_stuck) .none kV26 dc26 pm26 an26 cd26 ct26), sl26⟩) (c26 : PySem.W.codeIn K cd26 "stuck" = true) (k26 : PySem.W.keepIn K (.ref f26) = true)
    {f27 : Addr} {od27 an27 : Option Addr} {sl27 : Array (Option Value)} {oc27 kV27 dc27 pm27 cd27 ct27 : Value} (a27 : PySem.W.nsIn K mainGlobals "triples" = some (some (.ref f27)))
    (l27 : K.lookup f27 = some ⟨oc27, od27, .func (PySem.W.fnOf "triples" "triples" (defArgs s_triples) (defBody s_triples) (defScope s_triples) .none kV27 dc27 pm27 an27 cd27 ct27), sl27⟩) (c27 : PySem.W.codeIn K cd27 "triples" = true) (k27 : PySem.W.keepIn K (.ref f27) = true)
    {f28 : Addr} {od28 an28 : Option Addr} {sl28 : Array (Option Value)} {oc28 kV28 dc28 pm28 cd28 ct28 : Value} (a28 : PySem.W.nsIn K mainGlobals "_law_frame" = some (some (.ref f28)))
    (l28 : K.lookup f28 = some ⟨oc28, od28, .func (PySem.W.fnOf "_law_frame" "_law_frame" (defArgs s__law_frame) (defBody s__law_frame) (defScope s__law_frame) .none kV28 dc28 pm28 an28 cd28 ct28), sl28⟩) (c28 : PySem.W.codeIn K cd28 "_law_frame" = true) (k28 : PySem.W.keepIn K (.ref f28) = true)
    {f29 : Addr} {od29 an29 : Option Addr} {sl29 : Array (Option Value)} {oc29 kV29 dc29 pm29 cd29 ct29 : Value} (a29 : PySem.W.nsIn K mainGlobals "_law_stuck" = some (some (.ref f29)))
    (l29 : K.lookup f29 = some ⟨oc29, od29, .func (PySem.W.fnOf "_law_stuck" "_law_stuck" (defArgs s__law_stuck) (defBody s__law_stuck) (defScope s__law_stuck) .none kV29 dc29 pm29 an29 cd29 ct29), sl29⟩) (c29 : PySem.W.codeIn K cd29 "_law_stuck" = true) (k29 : PySem.W.keepIn K (.ref f29) = true)
    {f30 : Addr} {od30 an30 : Option Addr} {sl30 : Array (Option Value)} {oc30 kV30 dc30 pm30 cd30 ct30 : Value} (a30 : PySem.W.nsIn K mainGlobals "_law_spans" = some (some (.ref f30)))
    (l30 : K.lookup f30 = some ⟨oc30, od30, .func (PySem.W.fnOf "_law_spans" "_law_spans" (defArgs s__law_spans) (defBody s__law_spans) (defScope s__law_spans) .none kV30 dc30 pm30 an30 cd30 ct30), sl30⟩) (c30 : PySem.W.codeIn K cd30 "_law_spans" = true) (k30 : PySem.W.keepIn K (.ref f30) = true)
    {f31 : Addr} {od31 an31 : Option Addr} {sl31 : Array (Option Value)} {oc31 kV31 dc31 pm31 cd31 ct31 : Value} (a31 : PySem.W.nsIn K mainGlobals "_law_calm" = some (some (.ref f31)))
    (l31 : K.lookup f31 = some ⟨oc31, od31, .func (PySem.W.fnOf "_law_calm" "_law_calm" (defArgs s__law_calm) (defBody s__law_calm) (defScope s__law_calm) .none kV31 dc31 pm31 an31 cd31 ct31), sl31⟩) (c31 : PySem.W.codeIn K cd31 "_law_calm" = true) (k31 : PySem.W.keepIn K (.ref f31) = true)
    {f32 : Addr} {od32 an32 : Option Addr} {sl32 : Array (Option Value)} {oc32 kV32 dc32 pm32 cd32 ct32 : Value} (a32 : PySem.W.nsIn K mainGlobals "_law_rounded" = some (some (.ref f32)))
    (l32 : K.lookup f32 = some ⟨oc32, od32, .func (PySem.W.fnOf "_law_rounded" "_law_rounded" (defArgs s__law_rounded) (defBody s__law_rounded) (defScope s__law_rounded) .none kV32 dc32 pm32 an32 cd32 ct32), sl32⟩) (c32 : PySem.W.codeIn K cd32 "_law_rounded" = true) (k32 : PySem.W.keepIn K (.ref f32) = true)
    {f33 : Addr} {od33 an33 : Option Addr} {sl33 : Array (Option Value)} {oc33 kV33 dc33 pm33 cd33 ct33 : Value} (a33 : PySem.W.nsIn K mainGlobals "_law_sharp" = some (some (.ref f33)))
    (l33 : K.lookup f33 = some ⟨oc33, od33, .func (PySem.W.fnOf "_law_sharp" "_law_sharp" (defArgs s__law_sharp) (defBody s__law_sharp) (defScope s__law_sharp) .none kV33 dc33 pm33 an33 cd33 ct33), sl33⟩) (c33 : PySem.W.codeIn K cd33 "_law_sharp" = true) (k33 : PySem.W.keepIn K (.ref f33) = true)
    {f34 : Addr} {od34 an34 : Option Addr} {sl34 : Array (Option Value)} {oc34 kV34 dc34 pm34 cd34 ct34 : Value} (a34 : PySem.W.nsIn K mainGlobals "serves" = some (some (.ref f34)))
    (l34 : K.lookup f34 = some ⟨oc34, od34, .func (PySem.W.fnOf "serves" "serves" (defArgs s_serves) (defBody s_serves) (defScope s_serves) .none kV34 dc34 pm34 an34 cd34 ct34), sl34⟩) (c34 : PySem.W.codeIn K cd34 "serves" = true) (k34 : PySem.W.keepIn K (.ref f34) = true)
    {f35 : Addr} {od35 an35 : Option Addr} {sl35 : Array (Option Value)} {oc35 kV35 dc35 pm35 cd35 ct35 : Value} (a35 : PySem.W.nsIn K mainGlobals "steady_error" = some (some (.ref f35)))
    (l35 : K.lookup f35 = some ⟨oc35, od35, .func (PySem.W.fnOf "steady_error" "steady_error" (defArgs s_steady_error) (defBody s_steady_error) (defScope s_steady_error) .none kV35 dc35 pm35 an35 cd35 ct35), sl35⟩) (c35 : PySem.W.codeIn K cd35 "steady_error" = true) (k35 : PySem.W.keepIn K (.ref f35) = true)
    {f36 : Addr} {od36 an36 : Option Addr} {sl36 : Array (Option Value)} {oc36 kV36 dc36 pm36 cd36 ct36 : Value} (a36 : PySem.W.nsIn K mainGlobals "filled_up" = some (some (.ref f36)))
    (l36 : K.lookup f36 = some ⟨oc36, od36, .func (PySem.W.fnOf "filled_up" "filled_up" (defArgs s_filled_up) (defBody s_filled_up) (defScope s_filled_up) .none kV36 dc36 pm36 an36 cd36 ct36), sl36⟩) (c36 : PySem.W.codeIn K cd36 "filled_up" = true) (k36 : PySem.W.keepIn K (.ref f36) = true)
    {f37 : Addr} {od37 an37 : Option Addr} {sl37 : Array (Option Value)} {oc37 kV37 dc37 pm37 cd37 ct37 : Value} (a37 : PySem.W.nsIn K mainGlobals "steps_wanted" = some (some (.ref f37)))
    (l37 : K.lookup f37 = some ⟨oc37, od37, .func (PySem.W.fnOf "steps_wanted" "steps_wanted" (defArgs s_steps_wanted) (defBody s_steps_wanted) (defScope s_steps_wanted) .none kV37 dc37 pm37 an37 cd37 ct37), sl37⟩) (c37 : PySem.W.codeIn K cd37 "steps_wanted" = true) (k37 : PySem.W.keepIn K (.ref f37) = true)
    {f38 : Addr} {od38 an38 : Option Addr} {sl38 : Array (Option Value)} {oc38 kV38 dc38 pm38 cd38 ct38 : Value} (a38 : PySem.W.nsIn K mainGlobals "_law_least" = some (some (.ref f38)))
    (l38 : K.lookup f38 = some ⟨oc38, od38, .func (PySem.W.fnOf "_law_least" "_law_least" (defArgs s__law_least) (defBody s__law_least) (defScope s__law_least) .none kV38 dc38 pm38 an38 cd38 ct38), sl38⟩) (c38 : PySem.W.codeIn K cd38 "_law_least" = true) (k38 : PySem.W.keepIn K (.ref f38) = true)
    {f39 : Addr} {od39 an39 : Option Addr} {sl39 : Array (Option Value)} {oc39 kV39 dc39 pm39 cd39 ct39 : Value} (a39 : PySem.W.nsIn K mainGlobals "serving" = some (some (.ref f39)))
    (l39 : K.lookup f39 = some ⟨oc39, od39, .func (PySem.W.fnOf "serving" "serving" (defArgs s_serving) (defBody s_serving) (defScope s_serving) .none kV39 dc39 pm39 an39 cd39 ct39), sl39⟩) (c39 : PySem.W.codeIn K cd39 "serving" = true) (k39 : PySem.W.keepIn K (.ref f39) = true)
    {f40 : Addr} {od40 an40 : Option Addr} {sl40 : Array (Option Value)} {oc40 kV40 dc40 pm40 cd40 ct40 : Value} (a40 : PySem.W.nsIn K mainGlobals "turning" = some (some (.ref f40)))
    (l40 : K.lookup f40 = some ⟨oc40, od40, .func (PySem.W.fnOf "turning" "turning" (defArgs s_turning) (defBody s_turning) (defScope s_turning) .none kV40 dc40 pm40 an40 cd40 ct40), sl40⟩) (c40 : PySem.W.codeIn K cd40 "turning" = true) (k40 : PySem.W.keepIn K (.ref f40) = true)
    {f41 : Addr} {od41 an41 : Option Addr} {sl41 : Array (Option Value)} {oc41 kV41 dc41 pm41 cd41 ct41 : Value} (a41 : PySem.W.nsIn K mainGlobals "least_choice" = some (some (.ref f41)))
    (l41 : K.lookup f41 = some ⟨oc41, od41, .func (PySem.W.fnOf "least_choice" "least_choice" (defArgs s_least_choice) (defBody s_least_choice) (defScope s_least_choice) .none kV41 dc41 pm41 an41 cd41 ct41), sl41⟩) (c41 : PySem.W.codeIn K cd41 "least_choice" = true) (k41 : PySem.W.keepIn K (.ref f41) = true)
    {f42 : Addr} {od42 an42 : Option Addr} {sl42 : Array (Option Value)} {oc42 kV42 dc42 pm42 cd42 ct42 : Value} (a42 : PySem.W.nsIn K mainGlobals "law" = some (some (.ref f42)))
    (l42 : K.lookup f42 = some ⟨oc42, od42, .func (PySem.W.fnOf "law" "law" (defArgs s_law) (defBody s_law) (defScope s_law) .none kV42 dc42 pm42 an42 cd42 ct42), sl42⟩) (c42 : PySem.W.codeIn K cd42 "law" = true) (k42 : PySem.W.keepIn K (.ref f42) = true)
    : ∃ fd : FuncData, (∀ (s : Shared) (u : Value), BindsTo s fd ⟨[u], []⟩ [("script", u)]) ∧ ∀ base : Heap, K.In base → base.Ns mainGlobals mg → FnG P w K mg base 7 fa fd ["script"] (spZ K mg F_law 1) := by
  have e := hfa.symm.trans (PySem.W.mg_of X G a42)
  cases e
  let fx : FX P K mg :=
    { n_abs := PySem.W.mg_none_of X G z_abs,
      n_all := PySem.W.mg_none_of X G z_all,
      n_any := PySem.W.mg_none_of X G z_any,
      n_enumerate := PySem.W.mg_none_of X G z_enumerate,
      n_int := PySem.W.mg_none_of X G z_int,
      n_len := PySem.W.mg_none_of X G z_len,
      n_list := PySem.W.mg_none_of X G z_list,
      n_max := PySem.W.mg_none_of X G z_max,
      n_min := PySem.W.mg_none_of X G z_min,
      n_range := PySem.W.mg_none_of X G z_range,
      n_repr := PySem.W.mg_none_of X G z_repr,
      n_set := PySem.W.mg_none_of X G z_set,
      n_sorted := PySem.W.mg_none_of X G z_sorted,
      n_sum := PySem.W.mg_none_of X G z_sum,
      n_tuple := PySem.W.mg_none_of X G z_tuple,
      n_zip := PySem.W.mg_none_of X G z_zip,
      C_Loose := C_Loose, x_Loose := PySem.SupX.sup_mk X G aC_Loose xC_Loose sa_Loose ga_Loose gg_Loose nb_Loose kC_Loose eC_Loose tC_Loose hC_Loose ve_Loose op_Loose su_Loose xL_Loose iL_Loose hq_Loose i1_Loose t1_Loose l1_Loose c1_Loose l2_Loose v2_Loose hf_Loose l3_Loose ht_Loose ⟨by decide +kernel, by decide +kernel, by decide +kernel⟩ ⟨by decide +kernel, by decide +kernel, by decide +kernel⟩ ⟨_, fun _ => rfl⟩ (fun _ _ _ => .of_eq rfl),
      C_NoLeast := C_NoLeast, x_NoLeast := PySem.SupX.sup_mk X G aC_NoLeast xC_NoLeast sa_NoLeast ga_NoLeast gg_NoLeast nb_NoLeast kC_NoLeast eC_NoLeast tC_NoLeast hC_NoLeast ve_NoLeast op_NoLeast su_NoLeast xL_NoLeast iL_NoLeast hq_NoLeast i1_NoLeast t1_NoLeast l1_NoLeast c1_NoLeast l2_NoLeast v2_NoLeast hf_NoLeast l3_NoLeast ht_NoLeast ⟨by decide +kernel, by decide +kernel, by decide +kernel⟩ ⟨by decide +kernel, by decide +kernel, by decide +kernel⟩ ⟨_, fun _ => rfl⟩ (fun _ _ _ => .of_eq rfl),
      a_jumps_of := f0, d_jumps_of := _, f_jumps_of := fun_mk (st := s_jumps_of) l0 c0 k0, m_jumps_of := PySem.W.mg_of X G a0,
      b_jumps_of := (fun_mk (st := s_jumps_of) l0 c0 k0).binds (ps := ["skeleton"]) (fun _ _ _ _ _ _ us hl => match us, hl with | [_], _ => rfl),
      a_bytes_at := f1, d_bytes_at := _, f_bytes_at := fun_mk (st := s_bytes_at) l1 c1 k1, m_bytes_at := PySem.W.mg_of X G a1,
      b_bytes_at := (fun_mk (st := s_bytes_at) l1 c1 k1).binds (ps := ["item", "place", "is_long"]) (fun _ _ _ _ _ _ us hl => match us, hl with | [_, _, _], _ => rfl),
      a_in_way := f2, d_in_way := _, f_in_way := fun_mk (st := s_in_way) l2 c2 k2, m_in_way := PySem.W.mg_of X G a2,
      b_in_way := (fun_mk (st := s_in_way) l2 c2 k2).binds (ps := ["skeleton", "jump"]) (fun _ _ _ _ _ _ us hl => match us, hl with | [_, _], _ => rfl),
      a_ahead_of_way := f3, d_ahead_of_way := _, f_ahead_of_way := fun_mk (st := s_ahead_of_way) l3 c3 k3, m_ahead_of_way := PySem.W.mg_of X G a3,
      b_ahead_of_way := (fun_mk (st := s_ahead_of_way) l3 c3 k3).binds (ps := ["skeleton", "jump"]) (fun _ _ _ _ _ _ us hl => match us, hl with | [_, _], _ => rfl),
      a_way_between := f4, d_way_between := _, f_way_between := fun_mk (st := s_way_between) l4 c4 k4, m_way_between := PySem.W.mg_of X G a4,
      b_way_between := (fun_mk (st := s_way_between) l4 c4 k4).binds (ps := ["skeleton", "spots", "jump"]) (fun _ _ _ _ _ _ us hl => match us, hl with | [_, _, _], _ => rfl),
      a_is_within := f5, d_is_within := _, f_is_within := fun_mk (st := s_is_within) l5 c5 k5, m_is_within := PySem.W.mg_of X G a5,
      b_is_within := (fun_mk (st := s_is_within) l5 c5 k5).binds (ps := ["choice", "other"]) (fun _ _ _ _ _ _ us hl => match us, hl with | [_, _], _ => rfl),
      a_growth := f6, d_growth := _, f_growth := fun_mk (st := s_growth) l6 c6 k6, m_growth := PySem.W.mg_of X G a6,
      b_growth := (fun_mk (st := s_growth) l6 c6 k6).binds (ps := ["item"]) (fun _ _ _ _ _ _ us hl => match us, hl with | [_], _ => rfl),
      a_is_kept_away := f7, d_is_kept_away := _, f_is_kept_away := fun_mk (st := s_is_kept_away) l7 c7 k7, m_is_kept_away := PySem.W.mg_of X G a7,
      b_is_kept_away := (fun_mk (st := s_is_kept_away) l7 c7 k7).binds (ps := ["skeleton", "other", "fill"]) (fun _ _ _ _ _ _ us hl => match us, hl with | [_, _, _], _ => rfl),
      a_step_of := f8, d_step_of := _, f_step_of := fun_mk (st := s_step_of) l8 c8 k8, m_step_of := PySem.W.mg_of X G a8,
      b_step_of := (fun_mk (st := s_step_of) l8 c8 k8).binds (ps := ["skeleton"]) (fun _ _ _ _ _ _ us hl => match us, hl with | [_], _ => rfl),
      a_holds_length := f9, d_holds_length := _, f_holds_length := fun_mk (st := s_holds_length) l9 c9 k9, m_holds_length := PySem.W.mg_of X G a9,
      b_holds_length := (fun_mk (st := s_holds_length) l9 c9 k9).binds (ps := ["skeleton", "jump", "place"]) (fun _ _ _ _ _ _ us hl => match us, hl with | [_, _, _], _ => rfl),
      a_lengthened := f10, d_lengthened := _, f_lengthened := fun_mk (st := s_lengthened) l10 c10 k10, m_lengthened := PySem.W.mg_of X G a10,
      b_lengthened := (fun_mk (st := s_lengthened) l10 c10 k10).binds (ps := ["lengths", "place", "more"]) (fun _ _ _ _ _ _ us hl => match us, hl with | [_, _, _], _ => rfl),
      a__law_loom := f11, d__law_loom := _, f__law_loom := fun_mk (st := s__law_loom) l11 c11 k11, m__law_loom := PySem.W.mg_of X G a11,
      b__law_loom := (fun_mk (st := s__law_loom) l11 c11 k11).binds (ps := ["script"]) (fun _ _ _ _ _ _ us hl => match us, hl with | [_], _ => rfl),
      a__law_draw := f12, d__law_draw := _, f__law_draw := fun_mk (st := s__law_draw) l12 c12 k12, m__law_draw := PySem.W.mg_of X G a12,
      b__law_draw := (fun_mk (st := s__law_draw) l12 c12 k12).binds (ps := ["loom", "many"]) (fun _ _ _ _ _ _ us hl => match us, hl with | [_, _], _ => rfl),
      a__law_jumps := f13, d__law_jumps := _, f__law_jumps := fun_mk (st := s__law_jumps) l13 c13 k13, m__law_jumps := PySem.W.mg_of X G a13,
      b__law_jumps := (fun_mk (st := s__law_jumps) l13 c13 k13).binds (ps := ["frame"]) (fun _ _ _ _ _ _ us hl => match us, hl with | [_], _ => rfl),
      a__law_top := f14, d__law_top := _, f__law_top := fun_mk (st := s__law_top) l14 c14 k14, m__law_top := PySem.W.mg_of X G a14,
      b__law_top := (fun_mk (st := s__law_top) l14 c14 k14).binds (ps := ["frame"]) (fun _ _ _ _ _ _ us hl => match us, hl with | [_], _ => rfl),
      a__law_laid := f15, d__law_laid := _, f__law_laid := fun_mk (st := s__law_laid) l15 c15 k15, m__law_laid := PySem.W.mg_of X G a15,
      b__law_laid := (fun_mk (st := s__law_laid) l15 c15 k15).binds (ps := ["frame", "gaps", "longs"]) (fun _ _ _ _ _ _ us hl => match us, hl with | [_, _, _], _ => rfl),
      a__law_longer := f16, d__law_longer := _, f__law_longer := fun_mk (st := s__law_longer) l16 c16 k16, m__law_longer := PySem.W.mg_of X G a16,
      b__law_longer := (fun_mk (st := s__law_longer) l16 c16 k16).binds (ps := ["gaps", "spot", "more"]) (fun _ _ _ _ _ _ us hl => match us, hl with | [_, _, _], _ => rfl),
      a_laid := f17, d_laid := _, f_laid := fun_mk (st := s_laid) l17 c17 k17, m_laid := PySem.W.mg_of X G a17,
      b_laid := (fun_mk (st := s_laid) l17 c17 k17).binds (ps := ["skeleton", "lengths", "choice"]) (fun _ _ _ _ _ _ us hl => match us, hl with | [_, _, _], _ => rfl),
      a_all_choices := f18, d_all_choices := _, f_all_choices := fun_mk (st := s_all_choices) l18 c18 k18, m_all_choices := PySem.W.mg_of X G a18,
      b_all_choices := (fun_mk (st := s_all_choices) l18 c18 k18).binds (ps := ["skeleton"]) (fun _ _ _ _ _ _ us hl => match us, hl with | [_], _ => rfl),
      a_is_triple := f19, d_is_triple := _, f_is_triple := fun_mk (st := s_is_triple) l19 c19 k19, m_is_triple := PySem.W.mg_of X G a19,
      b_is_triple := (fun_mk (st := s_is_triple) l19 c19 k19).binds (ps := ["skeleton", "fill", "other"]) (fun _ _ _ _ _ _ us hl => match us, hl with | [_, _, _], _ => rfl),
      a__law_pick := f20, d__law_pick := _, f__law_pick := fun_mk (st := s__law_pick) l20 c20 k20, m__law_pick := PySem.W.mg_of X G a20,
      b__law_pick := (fun_mk (st := s__law_pick) l20 c20 k20).binds (ps := ["loom", "things"]) (fun _ _ _ _ _ _ us hl => match us, hl with | [_, _], _ => rfl),
      a__law_mixed := f21, d__law_mixed := _, f__law_mixed := fun_mk (st := s__law_mixed) l21 c21 k21, m__law_mixed := PySem.W.mg_of X G a21,
      b__law_mixed := (fun_mk (st := s__law_mixed) l21 c21 k21).binds (ps := ["loom", "things"]) (fun _ _ _ _ _ _ us hl => match us, hl with | [_, _], _ => rfl),
      a__law_way := f22, d__law_way := _, f__law_way := fun_mk (st := s__law_way) l22 c22 k22, m__law_way := PySem.W.mg_of X G a22,
      b__law_way := (fun_mk (st := s__law_way) l22 c22 k22).binds (ps := ["frame", "gaps", "longs", "at"]) (fun _ _ _ _ _ _ us hl => match us, hl with | [_, _, _, _], _ => rfl),
      a__law_triples := f23, d__law_triples := _, f__law_triples := fun_mk (st := s__law_triples) l23 c23 k23, m__law_triples := PySem.W.mg_of X G a23,
      b__law_triples := (fun_mk (st := s__law_triples) l23 c23 k23).binds (ps := ["frame"]) (fun _ _ _ _ _ _ us hl => match us, hl with | [_], _ => rfl),
      a__law_steadied := f24, d__law_steadied := _, f__law_steadied := fun_mk (st := s__law_steadied) l24 c24 k24, m__law_steadied := PySem.W.mg_of X G a24,
      b__law_steadied := (fun_mk (st := s__law_steadied) l24 c24 k24).binds (ps := ["loom", "frame"]) (fun _ _ _ _ _ _ us hl => match us, hl with | [_, _], _ => rfl),
      a_way_of := f25, d_way_of := _, f_way_of := fun_mk (st := s_way_of) l25 c25 k25, m_way_of := PySem.W.mg_of X G a25,
      b_way_of := (fun_mk (st := s_way_of) l25 c25 k25).binds (ps := ["skeleton", "lengths", "choice", "jump"]) (fun _ _ _ _ _ _ us hl => match us, hl with | [_, _, _, _], _ => rfl),
      a_stuck := f26, d_stuck := _, f_stuck := fun_mk (st := s_stuck) l26 c26 k26, m_stuck := PySem.W.mg_of X G a26,
      b_stuck := (fun_mk (st := s_stuck) l26 c26 k26).binds (ps := ["program", "choice"]) (fun _ _ _ _ _ _ us hl => match us, hl with | [_, _], _ => rfl),
      a_triples := f27, d_triples := _, f_triples := fun_mk (st := s_triples) l27 c27 k27, m_triples := PySem.W.mg_of X G a27,
      b_triples := (fun_mk (st := s_triples) l27 c27 k27).binds (ps := ["skeleton"]) (fun _ _ _ _ _ _ us hl => match us, hl with | [_], _ => rfl),
      a__law_frame := f28, d__law_frame := _, f__law_frame := fun_mk (st := s__law_frame) l28 c28 k28, m__law_frame := PySem.W.mg_of X G a28,
      b__law_frame := (fun_mk (st := s__law_frame) l28 c28 k28).binds (ps := ["loom", "jumps", "fills", "labels", "top", "growth_v"]) (fun _ _ _ _ _ _ us hl => match us, hl with | [_, _, _, _, _, _], _ => rfl),
      a__law_stuck := f29, d__law_stuck := _, f__law_stuck := fun_mk (st := s__law_stuck) l29 c29 k29, m__law_stuck := PySem.W.mg_of X G a29,
      b__law_stuck := (fun_mk (st := s__law_stuck) l29 c29 k29).binds (ps := ["frame", "gaps", "spans", "longs"]) (fun _ _ _ _ _ _ us hl => match us, hl with | [_, _, _, _], _ => rfl),
      a__law_spans := f30, d__law_spans := _, f__law_spans := fun_mk (st := s__law_spans) l30 c30 k30, m__law_spans := PySem.W.mg_of X G a30,
      b__law_spans := (fun_mk (st := s__law_spans) l30 c30 k30).binds (ps := ["loom", "frame", "gaps"]) (fun _ _ _ _ _ _ us hl => match us, hl with | [_, _, _], _ => rfl),
      a__law_calm := f31, d__law_calm := _, f__law_calm := fun_mk (st := s__law_calm) l31 c31 k31, m__law_calm := PySem.W.mg_of X G a31,
      b__law_calm := (fun_mk (st := s__law_calm) l31 c31 k31).binds (ps := ["loom", "frame"]) (fun _ _ _ _ _ _ us hl => match us, hl with | [_, _], _ => rfl),
      a__law_rounded := f32, d__law_rounded := _, f__law_rounded := fun_mk (st := s__law_rounded) l32 c32 k32, m__law_rounded := PySem.W.mg_of X G a32,
      b__law_rounded := (fun_mk (st := s__law_rounded) l32 c32 k32).binds (ps := ["loom", "most"]) (fun _ _ _ _ _ _ us hl => match us, hl with | [_, _], _ => rfl),
      a__law_sharp := f33, d__law_sharp := _, f__law_sharp := fun_mk (st := s__law_sharp) l33 c33 k33, m__law_sharp := PySem.W.mg_of X G a33,
      b__law_sharp := (fun_mk (st := s__law_sharp) l33 c33 k33).binds (ps := ["loom", "frame", "gaps", "far"]) (fun _ _ _ _ _ _ us hl => match us, hl with | [_, _, _, _], _ => rfl),
      a_serves := f34, d_serves := _, f_serves := fun_mk (st := s_serves) l34 c34 k34, m_serves := PySem.W.mg_of X G a34,
      b_serves := (fun_mk (st := s_serves) l34 c34 k34).binds (ps := ["program", "choice"]) (fun _ _ _ _ _ _ us hl => match us, hl with | [_, _], _ => rfl),
      a_steady_error := f35, d_steady_error := _, f_steady_error := fun_mk (st := s_steady_error) l35 c35 k35, m_steady_error := PySem.W.mg_of X G a35,
      b_steady_error := (fun_mk (st := s_steady_error) l35 c35 k35).binds (ps := ["skeleton"]) (fun _ _ _ _ _ _ us hl => match us, hl with | [_], _ => rfl),
      a_filled_up := f36, d_filled_up := _, f_filled_up := fun_mk (st := s_filled_up) l36 c36 k36, m_filled_up := PySem.W.mg_of X G a36,
      b_filled_up := (fun_mk (st := s_filled_up) l36 c36 k36).binds (ps := ["program", "choice"]) (fun _ _ _ _ _ _ us hl => match us, hl with | [_, _], _ => rfl),
      a_steps_wanted := f37, d_steps_wanted := _, f_steps_wanted := fun_mk (st := s_steps_wanted) l37 c37 k37, m_steps_wanted := PySem.W.mg_of X G a37,
      b_steps_wanted := (fun_mk (st := s_steps_wanted) l37 c37 k37).binds (ps := ["program", "choice", "place", "step"]) (fun _ _ _ _ _ _ us hl => match us, hl with | [_, _, _, _], _ => rfl),
      a__law_least := f38, d__law_least := _, f__law_least := fun_mk (st := s__law_least) l38 c38 k38, m__law_least := PySem.W.mg_of X G a38,
      b__law_least := (fun_mk (st := s__law_least) l38 c38 k38).binds (ps := ["frame", "gaps", "spans"]) (fun _ _ _ _ _ _ us hl => match us, hl with | [_, _, _], _ => rfl),
      a_serving := f39, d_serving := _, f_serving := fun_mk (st := s_serving) l39 c39 k39, m_serving := PySem.W.mg_of X G a39,
      b_serving := (fun_mk (st := s_serving) l39 c39 k39).binds (ps := ["program"]) (fun _ _ _ _ _ _ us hl => match us, hl with | [_], _ => rfl),
      a_turning := f40, d_turning := _, f_turning := fun_mk (st := s_turning) l40 c40 k40, m_turning := PySem.W.mg_of X G a40,
      b_turning := (fun_mk (st := s_turning) l40 c40 k40).binds (ps := ["program", "place", "jump"]) (fun _ _ _ _ _ _ us hl => match us, hl with | [_, _, _], _ => rfl),
      a_least_choice := f41, d_least_choice := _, f_least_choice := fun_mk (st := s_least_choice) l41 c41 k41, m_least_choice := PySem.W.mg_of X G a41,
      b_least_choice := (fun_mk (st := s_least_choice) l41 c41 k41).binds (ps := ["program"]) (fun _ _ _ _ _ _ us hl => match us, hl with | [_], _ => rfl),
      a_law := fa, d_law := _, f_law := fun_mk (st := s_law) l42 c42 k42, m_law := PySem.W.mg_of X G a42,
      b_law := (fun_mk (st := s_law) l42 c42 k42).binds (ps := ["script"]) (fun _ _ _ _ _ _ us hl => match us, hl with | [_], _ => rfl) }
  exact ⟨fx.d_law, fun s u => .of_eq rfl, fun base _ _ => ok_law fx⟩
end
end ZL

namespace ZL
open PySem PySem.Spec PyProof.Rows L2 Z
theorem e_jumps_of {xs : List Itm} (h : xs.length ≤ 1000) (M : Store) : F_jumps_of [.p (sk xs)] M = .ok (.p (.tuple (pnats (places Itm.isJ xs)))) M := by
  apply fn_rt0
  simp [c_jumps_of, wipeS]
  rw [compP_map (M := M) _ (fun q => q.1.isJ) (fun q => .p (.int (q.2 : Nat)))]
  · have hz := small (Nat.le_trans (zlen_places Itm.isJ xs) h)
    simp [hz, pnats, places]
  · intro q _
    simp
theorem e_in_way {xs : List Itm} {j g : Nat} {s l : Int} (hx : xs[j]? = some (.jmp g s l)) (h : xs.length ≤ 1000) (hg : g ≤ 1000) (M : Store) :
    F_in_way [.p (sk xs), .p (.int (j : Int))] M = .ok (.p (.tuple (rgP (min (j : Int) g + 1) (max (j : Int) g)))) M := by
  apply fn_rt0
  have hj := (List.getElem?_eq_some_iff.mp hx).1
  have hr : rgIn (min (j : Int) g + 1) (max (j : Int) g) = true := by
    unfold rgIn; simp only [Bool.and_eq_true, decide_eq_true_eq]; omega
  simp [c_in_way, ix_sk M hx, Itm.enc, hr]
theorem e_ahead {xs : List Itm} {j g : Nat} {s l : Int} (hx : xs[j]? = some (.jmp g s l)) (h : xs.length ≤ 1000) (hg : g ≤ 1000) (M : Store) :
    F_ahead_of_way [.p (sk xs), .p (.int (j : Int))] M = .ok (.p (.tuple (rgP 0 (min (j : Int) g)))) M := by
  apply fn_rt0
  have hj := (List.getElem?_eq_some_iff.mp hx).1
  have hr : rgIn 0 (min (j : Int) g) = true := by
    unfold rgIn; simp only [Bool.and_eq_true, decide_eq_true_eq]; omega
  simp [c_ahead_of_way, ix_sk M hx, Itm.enc, hr]
def szAt (xs : List Itm) (p : Nat) : Int := match xs[p]? with
  | some x => x.sz
  | none => 0
def JSane (xs : List Itm) : Prop := xs.length ≤ 1000 ∧ ∀ (j g : Nat) (s l : Int), xs[j]? = some (.jmp g s l) → g ≤ xs.length
def goal (xs : List Itm) (j : Nat) : Nat := match xs[j]? with
  | some (.jmp g _ _) => g
  | _ => 0
def shortOf (xs : List Itm) (j : Nat) : Int := match xs[j]? with
  | some (.jmp _ s _) => s
  | _ => 0
def longOf (xs : List Itm) (j : Nat) : Int := match xs[j]? with
  | some (.jmp _ _ l) => l
  | _ => 0
theorem jmp_at {xs : List Itm} {j : Nat} (h : j ∈ places Itm.isJ xs) : xs[j]? = some (.jmp (goal xs j) (shortOf xs j) (longOf xs j)) := by
  obtain ⟨x, e, hx⟩ := mem_places.mp h
  cases x with
  | jmp g s l => simp [goal, shortOf, longOf, e]
  | _ => cases hx
theorem len_places (p : Itm → Bool) (xs : List Itm) : (places p xs).length ≤ xs.length := by
  unfold places
  rw [List.length_map]
  exact zlen_places p xs
theorem goal_le {xs : List Itm} (h : JSane xs) {j : Nat} (hj : j ∈ places Itm.isJ xs) : goal xs j ≤ xs.length := h.2 _ _ _ _ (jmp_at hj)
def isFat (xs : List Itm) (p : Nat) : Bool := match xs[p]? with
  | some x => x.isF
  | none => false
end ZL

namespace ZL
open PySem PySem.Spec PyProof.Rows L2 Z
theorem e_law_jumps {xs : List Itm} (h : xs.length ≤ 1000) (M : Store) : F__law_jumps [.p (sk xs)] M = .ok (.p (.list (pnats (places Itm.isJ xs)))) M := by
  apply fn_rt0
  simp [c__law_jumps, wipeS]
  rw [compP_map (M := M) _ (fun q => q.1.isJ) (fun q => .p (.int (q.2 : Nat)))]
  · have hz := small (Nat.le_trans (zlen_places Itm.isJ xs) h)
    simp [hz, pnats, places]
  · intro q _
    simp
end ZL

namespace ZL
open PySem PySem.Spec PyProof.Rows L2 Z
/-- the loom's state -/
structure Stq where
  far : List Int
  stir : Int
  times : Int
def Stq.ok (q : Stq) : Prop := q.far.length ≤ 63
def kF : Key := .inr (Str.ofString "far")
def kS : Key := .inr (Str.ofString "stirred")
def kT : Key := .inr (Str.ofString "times")
def loomD (q : Stq) : List (Key × D) := [(kF, .ref 0), (kS, .p (.int q.stir)), (kT, .p (.int q.times))]
def St (q : Stq) : Store := [.lst ((pints q.far).map .p), .dic (loomD q)]
theorem St_len (q : Stq) : (St q).length = 2 := rfl
theorem cm_r (a : Int) {j : Int} (h : -1000000000000 < j ∧ j < 1000000000000) : CMul a j := .inr (by omega)
theorem cm_l {a : Int} (j : Int) (h : -1000000000000 < a ∧ a < 1000000000000) : CMul a j := .inl (by omega)
theorem cm_sq1 (x : Int) : CMul (x % 4294967279) (x % 4294967279) := .inr (by have := Int.emod_nonneg x (b := 4294967279) (by decide); have := Int.emod_lt_of_pos x (b := 4294967279) (by decide); omega)
theorem cm_sq2 (x : Int) : CMul (x % 4294967231) (x % 4294967231) := .inr (by have := Int.emod_nonneg x (b := 4294967231) (by decide); have := Int.emod_lt_of_pos x (b := 4294967231) (by decide); omega)
theorem k_fs : decide (kF = kS) = false := by decide +kernel
theorem k_ft : decide (kF = kT) = false := by decide +kernel
theorem k_st : decide (kS = kT) = false := by decide +kernel
theorem lo_ix {q : Stq} {Q : Store} {x : Str} {d : D} (h : valD (loomD q) (.inr x) = some d) : zIx (.ref 1) (.p (.str x)) (St q ++ Q) = .ok d (St q ++ Q) := by
  have e : dictv (St q ++ Q) (.ref 1) = some (loomD q) := rfl
  unfold zIx
  simp only [e, kOf, h]
theorem v_far (q : Stq) : valD (loomD q) kF = some (.ref 0) := by
  unfold valD loomD
  rw [List.find?_cons]
  simp
theorem v_stir (q : Stq) : valD (loomD q) kS = some (.p (.int q.stir)) := by
  unfold valD loomD
  rw [List.find?_cons, List.find?_cons]
  simp only [k_fs]
  simp
theorem v_times (q : Stq) : valD (loomD q) kT = some (.p (.int q.times)) := by
  unfold valD loomD
  rw [List.find?_cons, List.find?_cons, List.find?_cons]
  simp only [k_ft, k_st]
  simp
theorem lo_far (q : Stq) (Q : Store) : zIx (.ref 1) (.p (.str (Str.ofString "far"))) (St q ++ Q) = .ok (.ref 0) (St q ++ Q) := lo_ix (v_far q)
theorem lo_stir (q : Stq) (Q : Store) : zIx (.ref 1) (.p (.str (Str.ofString "stirred"))) (St q ++ Q) = .ok (.p (.int q.stir)) (St q ++ Q) := lo_ix (v_stir q)
theorem lo_times (q : Stq) (Q : Store) : zIx (.ref 1) (.p (.str (Str.ofString "times"))) (St q ++ Q) = .ok (.p (.int q.times)) (St q ++ Q) := lo_ix (v_times q)
theorem lo_put (q : Stq) (Q : Store) (t : Int) : zDput (.ref 1) (.p (.str (Str.ofString "times"))) (.p (.int t)) (St q ++ Q) = some (St ⟨q.far, q.stir, t⟩ ++ Q) := by
  have e : (St q ++ Q)[1]? = some (.dic (loomD q)) := rfl
  unfold zDput
  simp only [e, kOf]
  rw [if_pos ⟨rfl, by show 3 < sizeLine; rw [sizeLine_val]; decide⟩]
  have : putD (loomD q) kT (.p (.int t)) = loomD ⟨q.far, q.stir, t⟩ := by
    have n1 : ¬ kF = kT := of_decide_eq_false k_ft
    have n2 : ¬ kS = kT := of_decide_eq_false k_st
    unfold putD loomD
    simp [n1, n2]
  rw [show (.inr (Str.ofString "times") : Key) = kT from rfl, this]
  rfl
theorem e_draw0 (q : Stq) (hq : q.ok) (R : Store) {z : Int} (hz : 2 ≤ z) (hz' : z ≤ 100000) : ∃ i q', q'.ok ∧ F__law_draw [.ref 1, .p (.int z)] (St q ++ R) = .ok (.p (.int (i % z))) (St q' ++ R) := by
  obtain ⟨gr, stir, times⟩ := q
  have hq1 : gr.length ≤ 63 := hq
  have fin : ∀ (q' : Stq), q'.ok → (∃ i, c__law_draw ([D.ref 1, D.p (.int z)].map some ++ List.replicate (4 - 2) none) (St ⟨gr, stir, times⟩ ++ R) = .rt (.p (.int (i % z))) (St q' ++ R)) →
      ∃ i q', q'.ok ∧ F__law_draw [.ref 1, .p (.int z)] (St ⟨gr, stir, times⟩ ++ R) = .ok (.p (.int (i % z))) (St q' ++ R) := fun q' ok ⟨i, e⟩ => by
    have e2 := fn_rt (n := 4) (ds := [D.ref 1, D.p (.int z)]) e
    rw [List.take_of_length_le (by simp [St])] at e2
    exact ⟨i, q', ok, e2⟩
  have a0 : ∀ (q : Stq) (Q : Store), lstAt (St q ++ Q) 0 = some ((pints q.far).map .p) := fun q Q => rfl
  have l0 : ∀ q Q, lstv (St q ++ Q) (.ref 0) = some ((pints q.far).map .p) := fun q Q => rfl
  have ne : ∀ q Q, zNe (.ref 0) (.p (.list [])) (St q ++ Q) = .ok (.p (.bool (!decide (q.far = [])))) (St q ++ Q) := fun q Q => zNe_ref (a0 q Q)
  have hn : 0 < z ∧ z < 1073741824 := by omega
  have hz2 : ¬ z < 2 := by omega
  rcases List.eq_nil_or_concat gr with e | ⟨gs, g, e⟩
  · subst e
    refine fin ⟨[], stir, times + 1⟩ (Nat.zero_le _) ?_
    simp [c__law_draw, hz2, lo_far, lo_stir, lo_times, lo_put, ne, l0, mkLstF, hn, cm_r, cm_l, cm_sq1, cm_sq2]
    exact ⟨_, rfl⟩
  · rw [List.concat_eq_append] at e
    subst e
    have po : zPop (.ref 0) [] (St ⟨gs ++ [g], stir, times⟩ ++ R) = .ok (.p (.int g)) (St ⟨gs, stir, times⟩ ++ R) := by
      rw [zPop_r (ds := (pints gs).map .p) (d := .p (.int g)) (by rw [a0, dp_snoc])]
      rfl
    have hl : gs.length + 1 ≤ 63 := by simpa using hq1
    have ap : zAppend (.ref 0) [.p (.int (g / z))] (St ⟨gs, stir, times⟩ ++ R) = .ok (.p .none) (St ⟨gs ++ [g / z], stir, times⟩ ++ R) := by
      rw [zAppend_e, a0]
      simp only [List.length_map, pints_len]
      rw [if_pos (by simp; omega), dp_snoc]
      rfl
    by_cases hg : z ≤ g
    · refine fin ⟨gs ++ [g / z], stir, times⟩ (by show (gs ++ [g / z]).length ≤ 63; simpa using hq1) ⟨g, ?_⟩
      simp [c__law_draw, -zAppend_e, hz2, lo_far, ne, l0, po, hg, mkLstF, hn, ap]
    · refine fin ⟨gs, stir, times⟩ (by show gs.length ≤ 63; omega) ⟨g, ?_⟩
      simp [c__law_draw, hz2, lo_far, ne, l0, po, hg, mkLstF, hn]
theorem e_draw (q : Stq) (hq : q.ok) (R : Store) {n : Nat} (h : 0 < n) (h' : n ≤ 100000) : ∃ k q', k < n ∧ q'.ok ∧ F__law_draw [.ref 1, .p (.int (n : Int))] (St q ++ R) = .ok (.p (.int (k : Nat))) (St q' ++ R) := by
  by_cases h2 : n < 2
  · refine ⟨0, q, h, hq, ?_⟩
    have hn : n = 1 := by omega
    subst hn
    have e : c__law_draw ([D.ref 1, D.p (.int ((1 : Nat) : Int))].map some ++ List.replicate (4 - 2) none) (St q ++ R) = .rt (.p (.int ((0 : Nat) : Int))) (St q ++ R) := by
      simp [c__law_draw]
    have e2 := fn_rt (n := 4) (ds := [D.ref 1, D.p (.int ((1 : Nat) : Int))]) e
    rw [List.take_of_length_le (by simp [St])] at e2
    exact e2
  · obtain ⟨i, q', ok, e⟩ := e_draw0 q hq R (z := (n : Int)) (by omega) (by omega)
    have h0 := Int.emod_nonneg i (b := (n : Int)) (by omega)
    have h1 := Int.emod_lt_of_pos i (b := (n : Int)) (by omega)
    exact ⟨(i % (n : Int)).toNat, q', by omega, ok, by rw [Int.toNat_of_nonneg h0]; exact e⟩
/-- a draw of none or of less -/
theorem e_drawN (q : Stq) (hq : q.ok) (R : Store) {z : Int} (hz : z ≤ 100000) : ∃ (k : Nat) (q' : Stq), ((k : Int) < z ∨ k = 0) ∧ q'.ok ∧ F__law_draw [.ref 1, .p (.int z)] (St q ++ R) = .ok (.p (.int (k : Nat))) (St q' ++ R) := by
  by_cases h2 : z < 2
  · refine ⟨0, q, .inr rfl, hq, ?_⟩
    have e : c__law_draw ([D.ref 1, D.p (.int z)].map some ++ List.replicate (4 - 2) none) (St q ++ R) = .rt (.p (.int ((0 : Nat) : Int))) (St q ++ R) := by
      simp [c__law_draw, h2]
    have e2 := fn_rt (n := 4) (ds := [D.ref 1, D.p (.int z)]) e
    rw [List.take_of_length_le (by simp [St])] at e2
    exact e2
  · obtain ⟨k, q', h, ok, e⟩ := e_draw q hq R (n := z.toNat) (by omega) (by omega)
    rw [Int.toNat_of_nonneg (by omega)] at e
    exact ⟨k, q', .inl (by omega), ok, e⟩
theorem e_pick (q : Stq) (hq : q.ok) (R : Store) {xs : List P} (h : 0 < xs.length) (h' : xs.length ≤ 100000) : ∃ x q', x ∈ xs ∧ q'.ok ∧ F__law_pick [.ref 1, .p (.list xs)] (St q ++ R) = .ok (.p x) (St q' ++ R) := by
  obtain ⟨k, q', hk, ok, e⟩ := e_draw q hq R h h'
  refine ⟨xs[k], q', List.getElem_mem hk, ok, ?_⟩
  have e2 : c__law_pick ([D.ref 1, D.p (.list xs)].map some ++ List.replicate (2 - 2) none) (St q ++ R) = .rt (.p xs[k]) (St q' ++ R) := by
    simp [c__law_pick, e, zIx_l _ (List.getElem?_eq_getElem hk)]
  have e3 := fn_rt (n := 2) (ds := [D.ref 1, D.p (.list xs)]) e2
  rw [List.take_of_length_le (by simp [St])] at e3
  exact e3
def lcell (i : Int) : Int := 2 * (if i < 0 then -i else i) + if i < 0 then 1 else 0
theorem e_stock (ns : List Int) (h : ns.length ≤ 63) : ∃ q, q.ok ∧ F__law_loom [.p (.list (pints ns))] [] = .ok (.ref 1) (St q) := by
  have cut : cutG ((pints ns).map D.p) none (some 63) = (pints ns).map D.p := by
    have := cutG__n ((pints ns).map D.p) 63
    rw [List.take_of_length_le (by simp; omega)] at this
    exact this
  have sl : ∀ M, zSl (.p (.list (pints ns))) none (some 63) M = .ok (.p (.list (pints ns))) M := fun M => by
    unfold zSl
    simp only [lstv_p, cut, frzl_map]
    rw [if_pos (by simp; omega)]
  have co : ∀ M d e, compP (tgN 3) ztyes (z2 zAdd (z2 zMul (zk (.int 2)) (zs zAbs (zcons (zv 3) znil))) (zs zInt (zcons (z2 zLt (zv 3) (zk (.int 0))) znil))) [d, e, none, none] ((pints ns).map .p) M = .ok ((pints (ns.map lcell)).map .p) M := fun M d e => by
    rw [dp_pints, compP_map (M := M) (fun i : Int => D.p (.int i)) (fun _ => true) (fun i => D.p (.int (lcell i)))]
    · rw [List.filter_eq_self.mpr fun _ _ => rfl]
      simp [pints]
    · intro i _
      refine ⟨_, rfl, rfl, fun _ => ?_⟩
      by_cases hi : i < 0
      · simp [zAbs, zInt, hi, lcell, show ∀ a, CMul 2 a from fun a => .inl (by omega)]
      · simp [zAbs, zInt, hi, lcell, show ∀ a, CMul 2 a from fun a => .inl (by omega)]
  obtain ⟨cs, hcs⟩ : ∃ cs, cs = ns.map lcell := ⟨_, rfl⟩
  have hcl : cs.length ≤ 63 := by rw [hcs, List.length_map]; exact h
  rw [← hcs] at co
  have co2 : ∀ M d e, compP (tgN 3) (zt (z2 zGe (zv 3) (z2 zPow (zk (.int 10)) (zk (.int 15))))) (zv 3) [d, some (.p (.list (pints cs))), e, none] ((pints cs).map .p) M = .ok ((pints (cs.filter fun i => decide (10 ^ 15 ≤ i))).map .p) M := fun M d e => by
    rw [dp_pints, compP_map (M := M) (fun i : Int => D.p (.int i)) (fun i => decide (10 ^ 15 ≤ i)) (fun i => D.p (.int i)), dp_pints]
    intro i _
    refine ⟨_, rfl, ?_, fun _ => rfl⟩
    have hp : zPow (.p (.int 10)) (.p (.int 15)) M = .ok (.p (.int (10 ^ 15))) M := by
      unfold zPow
      simp only
      rw [if_pos ⟨by decide, by decide, by decide⟩]
      rfl
    simp [hp]
  obtain ⟨gr, hgr⟩ : ∃ gr, gr = cs.filter fun i => decide (10 ^ 15 ≤ i) := ⟨_, rfl⟩
  have hgl : gr.length ≤ 63 := by rw [hgr]; exact Nat.le_trans (List.length_filter_le _ _) hcl
  rw [← hgr] at co2
  have fz : ∀ M, frzl ((pints cs).map .p) M = .ok (.p (.list (pints cs))) M := fun M => by rw [frzl_map, if_pos (by simp; omega)]
  have ln : ∀ M, zLen [.p (.list (pints ns))] M = .ok (.p (.int ns.length)) M := fun M => by rw [zLen_l, List.length_map, pints_len]
  have it : ∀ M, itemsOf (.p (.list (pints cs))) M = .ok ((pints cs).map .p) M := fun M => rfl
  have it2 : ∀ M, itemsOf (.p (.list (pints ns))) M = .ok ((pints ns).map .p) M := fun M => rfl
  obtain ⟨k, hk⟩ : ∃ k : Int, k = ns.length := ⟨_, rfl⟩
  rw [← hk] at ln
  have main : Sat (fun o => ∃ q : Stq, q.ok ∧ o = .rt (.ref 1) (St q)) (c__law_loom ([D.p (.list (pints ns))].map some ++ List.replicate (4 - 1) none) []) := by
    refine sat_any fun Φ hΦ => ?_
    simp [-frzl_map, -zLen_l, -itemsOf_l, -List.map_map, c__law_loom, sl, wipeS, it2, co, fz, ln, it, show ∀ a, CMul 7 a from fun a => .inl (by omega)]
    simp only [dp_pints]
    refine forP_seq _ _ (fun done sl M' => ∃ (s : Int) (d3 : Option D), sl = [some (.p (.list (pints ns))), some (.p (.list (pints cs))), some (.p (.int s)), d3] ∧ M' = []) ⟨_, _, rfl, rfl⟩ ?_ ?_
    · rintro done c rest sl' M' e ⟨s, d3, rfl, rfl⟩
      refine ⟨_, rfl, ?_⟩
      simp [L__law_loom_1, zInt, cm_r, Sat]
    · rintro sl' M' ⟨s, d3, rfl, rfl⟩
      have hz : gr.length ≤ 16777216 := by omega
      have en : keyedD [(.str (Str.ofString "far"), .ref 0), (.str (Str.ofString "stirred"), .p (.int s)), (.str (Str.ofString "times"), .p (.int 0))] = some (loomD ⟨gr, s, 0⟩) := rfl
      have mg : mergeD [] (loomD ⟨gr, s, 0⟩) = loomD ⟨gr, s, 0⟩ := by
        have n1 : ¬ kF = kS := of_decide_eq_false k_fs
        have n2 : ¬ kF = kT := of_decide_eq_false k_ft
        have n3 : ¬ kS = kT := of_decide_eq_false k_st
        unfold mergeD loomD
        simp [putD, n1, n2, n3]
      simp [-itemsOf_l, -List.map_map, zdisp, zpcons, zpnil, it, wipeS, co2, hz, en, mg]
      exact hΦ _ ⟨⟨gr, s, 0⟩, hgl, rfl⟩
  obtain ⟨q, okq, main⟩ := main
  refine ⟨q, okq, ?_⟩
  show Z.gc 0 (runB 4 c__law_loom _ _) = _
  unfold runB
  have main' : c__law_loom (List.map some [D.p (PyData.list (pints ns))] ++ List.replicate (4 - [D.p (PyData.list (pints ns))].length) none) [] = _ := main
  rw [main']
  rfl
end ZL

namespace ZL
open PySem PySem.Spec PyProof.Rows L2 Z
theorem zPopAt0 {M : Store} {i : Nat} {d : D} {ds : List D} (h : lstAt M i = some (d :: ds)) : zPopAt (.ref i) [.p (.int 0)] M = .ok d (M.set i (.lst ds)) := by
  unfold zPopAt
  simp only [h]
  have : ixN (d :: ds).length 0 = some 0 := by unfold ixN; rw [if_pos (by decide), if_pos (by simp)]; rfl
  simp only [this]
  rfl
def encs (xs : List Itm) : List D := xs.map fun x => D.p x.enc
theorem encs_snoc (acc : List Itm) (x : Itm) : encs acc ++ [D.p x.enc] = encs (acc ++ [x]) := by simp [encs]
theorem encs_len (acc : List Itm) : (encs acc).length = acc.length := by simp [encs]
/-- append to the list behind M -/
theorem app0 {M R : Store} {acc : List Itm} {x : Itm} (h : acc.length ≤ 1000) : zAppend (.ref M.length) [.p x.enc] (M ++ .lst (encs acc) :: R) = .ok (.p .none) (M ++ .lst (encs (acc ++ [x])) :: R) := by
  rw [zAppend_e]
  have : acc.length < 16777216 := by omega
  simp [encs_len, this, encs_snoc]
theorem len_J (xs : List Itm) : (places Itm.isJ xs).length = (xs.filter Itm.isJ).length := by
  unfold places
  rw [List.length_map]
  have : ∀ (xs : List Itm) (k : Nat), ((xs.zipIdx k).filter fun q => q.1.isJ).length = (xs.filter Itm.isJ).length := by
    intro xs
    induction xs with
    | nil => intro k; rfl
    | cons x xs ih => intro k; rw [List.zipIdx_cons, List.filter_cons, List.filter_cons]; cases h : x.isJ <;> simp [ih]
  exact this xs 0
theorem tuple_encs (M R : Store) (xs : List Itm) : zTuple [.ref M.length] (M ++ .lst (encs xs) :: R) = .ok (.p (sk xs)) (M ++ .lst (encs xs) :: R) := by
  simp [zTuple, encs, sk]
theorem add_sk (xs ys : List Itm) (h : xs.length + ys.length ≤ 10000) (M : Store) : zAdd (.p (sk xs)) (.p (sk ys)) M = .ok (.p (sk (xs ++ ys))) M := by
  have : xs.length + ys.length ≤ 16777216 := by omega
  simp [zAdd, sk, this]
end ZL

namespace ZL
open PySem PySem.Spec PyProof.Rows L2 Z
theorem e_pickI (q : Stq) (hq : q.ok) (R : Store) {ns : List Int} {lo hi : Int} (h : 0 < ns.length) (h' : ns.length ≤ 100000) (hb : ∀ i ∈ ns, lo ≤ i ∧ i ≤ hi) :
    ∃ i q', lo ≤ i ∧ i ≤ hi ∧ q'.ok ∧ F__law_pick [.ref 1, .p (.list (pints ns))] (St q ++ R) = .ok (.p (.int i)) (St q' ++ R) := by
  obtain ⟨x, q', hx, ok, e⟩ := e_pick q hq R (xs := pints ns) (by simpa using h) (by simpa using h')
  obtain ⟨i, hi', rfl⟩ := List.mem_map.mp hx
  exact ⟨i, q', (hb i hi').1, (hb i hi').2, ok, e⟩
/-- the fills' sizes -/
def P2 : List Int := [2, 4, 8, 16, 32, 64]
theorem p2_in {s : Int} (h : s ∈ P2) : 2 ≤ s ∧ s ≤ 64 := by
  simp [P2] at h
  omega
theorem e_pickF (q : Stq) (hq : q.ok) (R : Store) {ns : List Int} (h : 0 < ns.length) (h' : ns.length ≤ 100000) (hb : ∀ i ∈ ns, i ∈ P2) :
    ∃ i q', i ∈ P2 ∧ q'.ok ∧ F__law_pick [.ref 1, .p (.list (pints ns))] (St q ++ R) = .ok (.p (.int i)) (St q' ++ R) := by
  obtain ⟨x, q', hx, ok, e⟩ := e_pick q hq R (xs := pints ns) (by simpa using h) (by simpa using h')
  obtain ⟨i, hi', rfl⟩ := List.mem_map.mp hx
  exact ⟨i, q', hb i hi', ok, e⟩
/-- an item of a skeleton of n items -/
def okI (n : Nat) : Itm → Prop
  | .lab => True
  | .fil s => s ∈ P2
  | .jmp g s l => g ≤ n ∧ 0 ≤ s ∧ s ≤ 2000 ∧ 0 ≤ l ∧ l ≤ 2000
theorem okI.mono {m n : Nat} (h : m ≤ n) {x : Itm} (k : okI m x) : okI n x := by
  cases x with
  | lab => trivial
  | fil s => exact k
  | jmp g s l => exact ⟨Nat.le_trans k.1 h, k.2⟩
def okA (xs : List Itm) : Prop := ∀ x ∈ xs, okI xs.length x
theorem okA.app {xs ys : List Itm} (h : okA xs) (k : ∀ y ∈ ys, okI (xs.length + ys.length) y) : okA (xs ++ ys) := by
  intro x hx
  rw [List.length_append]
  rcases List.mem_append.mp hx with hx | hx
  · exact okI.mono (Nat.le_add_right _ _) (h x hx)
  · exact k x hx
theorem fn_rtS {n : Nat} {c : SC} {ds : List D} {q q' : Stq} {R Rx : Store} {x : P} (h : c (ds.map some ++ List.replicate (n - ds.length) none) (St q ++ R) = .rt (.p x) (St q' ++ (R ++ Rx))) : fnB n c ds (St q ++ R) = .ok (.p x) (St q' ++ R) := by
  rw [fn_rt h]
  have : (St q' ++ (R ++ Rx)).take (St q ++ R).length = St q' ++ R := by
    rw [← List.append_assoc, List.take_left' (by simp [St])]
  rw [this]
theorem appS {q : Stq} {R : Store} {i : Nat} {acc : List Itm} {x : Itm} (hi : i = R.length + 2) (h : acc.length ≤ 1000) : zAppend (.ref i) [.p x.enc] (St q ++ (R ++ [.lst (encs acc)])) = .ok (.p .none) (St q ++ (R ++ [.lst (encs (acc ++ [x]))])) := by
  have := app0 (M := St q ++ R) (R := []) (x := x) h
  rw [List.length_append, St_len, Nat.add_comm, ← hi, List.append_assoc, List.append_assoc] at this
  exact this
theorem lstvS {q : Stq} {R Q : Store} {i : Nat} {ds : List D} (hi : i = R.length + 2) : lstv (St q ++ (R ++ Ob.lst ds :: Q)) (.ref i) = some ds := by
  have := lstv_app0 (St q ++ R) (Ob.lst ds :: Q)
  rw [List.length_append, St_len, Nat.add_comm, ← hi, List.append_assoc] at this
  rw [this]
  rfl
theorem addS {q : Stq} {R : Store} {i : Nat} {acc ys : List Itm} (hi : i = R.length + 2) (h : acc.length + ys.length ≤ 1000) : zAddM (.ref i) (.p (.list (ys.map Itm.enc))) (St q ++ (R ++ [.lst (encs acc)])) =
    .ok (.ref (i + 1)) (St q ++ ((R ++ [.lst (encs acc)]) ++ [.lst (encs (acc ++ ys))])) := by
  unfold zAddM
  rw [lstvS hi, lstv_p]
  simp only
  unfold mkLst
  rw [if_pos (by simp [encs_len]; omega)]
  have e1 : (St q ++ (R ++ [Ob.lst (encs acc)])).length = i + 1 := by simp [St_len]; omega
  rw [e1]
  simp [encs]
theorem e_drawZ (q : Stq) (hq : q.ok) (R : Store) {z : Int} {n : Nat} (hz : z = n) (h : 0 < n) (h' : n ≤ 100000) : ∃ k q', k < n ∧ q'.ok ∧ F__law_draw [.ref 1, .p (.int z)] (St q ++ R) = .ok (.p (.int (k : Nat))) (St q' ++ R) := by
  rw [hz]
  exact e_draw q hq R h h'
theorem rep_fill (s : Int) (k : Nat) (hk : k ≤ 1000) (M : Store) : zMul (.p (.list [(Itm.fil s).enc])) (.p (.int (k : Int))) M = .ok (.p (.list ((List.replicate k (Itm.fil s)).map Itm.enc))) M := by
  unfold zMul
  simp only [lstv_p]
  rw [if_pos ⟨by omega, by omega, by simp; omega⟩, Int.toNat_natCast]
  have : (List.replicate k ([(Itm.fil s).enc].map D.p)).flatten = (List.replicate k (Itm.fil s)).map fun x => D.p x.enc := by
    induction k with
    | zero => rfl
    | succ k ih => rw [List.replicate_succ, List.flatten_cons, ih (by omega), List.replicate_succ]; rfl
  rw [this, frzl_mapf, if_pos (by simp; omega)]
def Gd (xs : List Itm) : Prop := okA xs ∧ xs.length ≤ 60 ∧ 0 < xs.length
theorem lenS {q : Stq} {R Q : Store} {i : Nat} {ds : List D} (hi : i = R.length + 2) : zLen [.ref i] (St q ++ (R ++ Ob.lst ds :: Q)) = .ok (.p (.int ds.length)) (St q ++ (R ++ Ob.lst ds :: Q)) := by
  unfold zLen
  simp only [lstvS hi]
theorem tupS {q : Stq} {R Q : Store} {i : Nat} {xs : List Itm} (hi : i = R.length + 2) : zTuple [.ref i] (St q ++ (R ++ Ob.lst (encs xs) :: Q)) = .ok (.p (sk xs)) (St q ++ (R ++ Ob.lst (encs xs) :: Q)) := by
  have h := lstvS (q := q) (R := R) (Q := Q) (ds := encs xs) hi
  unfold zTuple
  simp only [h]
  simp [encs, sk]
theorem fn_satS {n : Nat} {c : SC} {ds : List D} {q : Stq} {R : Store} {Φ : P → Prop} (h : Sat (fun o => ∃ x q' Rx, o = .rt (.p x) (St q' ++ (R ++ Rx)) ∧ q'.ok ∧ Φ x) (c (ds.map some ++ List.replicate (n - ds.length) none) (St q ++ R))) :
    ∃ x q', Φ x ∧ q'.ok ∧ fnB n c ds (St q ++ R) = .ok (.p x) (St q' ++ R) := by
  obtain ⟨x, q', Rx, e, ok, hx⟩ := h
  exact ⟨x, q', hx, ok, fn_rtS e⟩
end ZL

namespace ZL
open PySem PySem.Spec PyProof.Rows L2 Z
/-- data that may be compared -/
def Cmp (x : P) : Prop := x.canLay0 = true ∧ x.depth ≤ 50
theorem cmp_list {xs : List P} (h : ∀ x ∈ xs, Cmp x) : SeqAt.shaped (.list xs) = true := by
  have a : PyData.canLayAll0 xs = true := by
    induction xs with
    | nil => rfl
    | cons x xs ih => rw [PyData.canLayAll0, (h x (List.mem_cons_self ..)).1, ih fun y hy => h y (List.mem_cons_of_mem _ hy)]; rfl
  have b : PyData.depthAll xs ≤ 50 := by
    clear a
    induction xs with
    | nil => exact Nat.zero_le _
    | cons x xs ih => rw [PyData.depthAll]; exact Nat.max_le.mpr ⟨(h x (List.mem_cons_self ..)).2, ih fun y hy => h y (List.mem_cons_of_mem _ hy)⟩
  have c : PyData.depthAll xs + 1 ≤ 64 := by omega
  show (PyData.canLayAll0 xs && decide (PyData.depthAll xs + 1 ≤ 64)) = true
  rw [a, decide_eq_true c]
  rfl
theorem ne_nil_ref {M : Store} {i : Nat} {xs : List P} (h : lstAt M i = some (xs.map .p)) (hc : ∀ x ∈ xs, Cmp x) : zNe (.ref i) (.p (.list [])) M = .ok (.p (.bool (!decide (xs = [])))) M := by
  have e : peq (.list xs) (.list []) = some (decide (xs = [])) := by
    rw [peq_sh (cmp_list hc) rfl]
    cases xs <;> rfl
  unfold zNe
  rw [snap_lst h]
  simp only [snap_p, e]
theorem cmp_int (i : Int) : Cmp (.int i) := ⟨rfl, Nat.zero_le _⟩
theorem eq_nil_l {xs : List P} (h : ∀ x ∈ xs, Cmp x) (M : Store) : zEq (.p (.list xs)) (.p (.list [])) M = .ok (.p (.bool (decide (xs = [])))) M := by
  rw [zEq_sh (cmp_list h) rfl]
  cases xs <;> rfl
theorem ne_nil_l {xs : List P} (h : ∀ x ∈ xs, Cmp x) (M : Store) : zNe (.p (.list xs)) (.p (.list [])) M = .ok (.p (.bool (!decide (xs = [])))) M := by
  rw [zNe_sh (cmp_list h) rfl]
  cases xs <;> rfl
end ZL

namespace ZL
open PySem PySem.Spec PyProof.Rows L2 Z
theorem erase_mapP {α β : Type} {f : α → β} : ∀ (xs : List α) (k : Nat), (xs.map f).eraseIdx k = (xs.eraseIdx k).map f
  | [], _ => rfl
  | _ :: _, 0 => rfl
  | x :: xs, k + 1 => by
    rw [List.map_cons, List.eraseIdx_cons_succ, List.eraseIdx_cons_succ, List.map_cons, erase_mapP xs k]
theorem popAt_at {M R : Store} {xs : List P} {k : Nat} (hk : k < xs.length) : zPopAt (.ref M.length) [.p (.int (k : Int))] (M ++ .lst (xs.map .p) :: R) = .ok (.p xs[k]) (M ++ .lst ((xs.eraseIdx k).map .p) :: R) := by
  have : ixN (xs.map D.p).length (k : Int) = some k := by
    unfold ixN
    rw [if_pos (by omega), if_pos (by rw [List.length_map]; omega)]
    simp
  unfold zPopAt
  have em : (xs.map D.p).eraseIdx k = (xs.eraseIdx k).map D.p := erase_mapP xs k
  simp only [lstAt_app0, lstAt_c0, this, em]
  simp [hk]
theorem app_at {M R : Store} {o : Ob} {ys : List P} {y : P} (h : ys.length < 1000) : zAppend (.ref (M.length + 1)) [.p y] (M ++ o :: .lst (ys.map .p) :: R) = .ok (.p .none) (M ++ o :: .lst ((ys ++ [y]).map .p) :: R) := by
  rw [zAppend_e]
  have : ys.length < 16777216 := by omega
  simp [this]
theorem perm_out {α : Type} : ∀ (l : List α) (k : Nat) (h : k < l.length), ([l[k]] ++ l.eraseIdx k).Perm l
  | [], _, h => absurd h (Nat.not_lt_zero _)
  | x :: l, 0, _ => by simp
  | x :: l, k + 1, h => by
    have ih := perm_out l k (by simpa using h)
    simp only [List.getElem_cons_succ, List.eraseIdx_cons_succ, List.cons_append, List.nil_append] at ih ⊢
    exact (List.Perm.swap _ _ _).trans (List.Perm.cons x ih)
theorem mixed_loop {R : Store} {s1 : Option D} : ∀ (n : Nat) (rest acc : List P) (q : Stq), q.ok → rest.length < n → (∀ x ∈ rest, Cmp x) → rest.length + acc.length ≤ 500 →
    ∃ (q' : Stq) (acc' : List P), q'.ok ∧ acc'.Perm (acc ++ rest) ∧
      whileN (zt (z2 zNe (zv 2) (zs mkLstF znil))) L__law_mixed_1 n [some (.ref 1), s1, some (.ref (R.length + 2)), some (.ref (R.length + 3))] (St q ++ (R ++ [.lst (rest.map .p), .lst (acc.map .p)])) =
      .nx [some (.ref 1), s1, some (.ref (R.length + 2)), some (.ref (R.length + 3))] (St q' ++ (R ++ [.lst [], .lst (acc'.map .p)]))
  | 0, rest, acc, q, _, h, _, _ => absurd h (Nat.not_lt_zero _)
  | n + 1, rest, acc, q, ok, h, hc, hl => by
    have e2 : ∀ q : Stq, R.length + 2 = (St q ++ R).length := fun q => by simp [St_len]; omega
    have ea : ∀ (q : Stq) (Q : Store), St q ++ (R ++ Q) = (St q ++ R) ++ Q := fun q Q => (List.append_assoc ..).symm
    have ne : ∀ q, zNe (.ref (R.length + 2)) (.p (.list [])) (St q ++ (R ++ [.lst (rest.map .p), .lst (acc.map .p)])) = .ok (.p (.bool (!decide (rest = [])))) (St q ++ (R ++ [.lst (rest.map .p), .lst (acc.map .p)])) := fun q => by
      rw [ea]
      refine ne_nil_ref ?_ hc
      rw [e2 q, lstAt_app0]
      rfl
    unfold whileN
    by_cases hr : rest = []
    · subst hr
      refine ⟨q, acc, ok, by simp, ?_⟩
      simp [mkLstF] at ne ⊢
      simp [ne]
    · have hpos : 0 < rest.length := List.length_pos_iff.mpr hr
      obtain ⟨k, q', hk, ok', ed⟩ := e_draw q ok (R ++ [.lst (rest.map .p), .lst (acc.map .p)]) hpos (by omega)
      have hlen : (rest.eraseIdx k).length = rest.length - 1 := List.length_eraseIdx_of_lt hk
      obtain ⟨q2, acc', ok2, pm, e⟩ := mixed_loop (R := R) (s1 := s1) n (rest.eraseIdx k) (acc ++ [rest[k]]) q' ok' (by omega) (fun x hx => hc x (List.mem_of_mem_eraseIdx hx)) (by simp; omega)
      refine ⟨q2, acc', ok2, pm.trans ?_, ?_⟩
      · rw [List.append_assoc]
        refine List.Perm.append_left acc ?_
        exact perm_out rest k hk
      · have ln : ∀ q, zLen [.ref (R.length + 2)] (St q ++ (R ++ [.lst (rest.map .p), .lst (acc.map .p)])) = .ok (.p (.int rest.length)) (St q ++ (R ++ [.lst (rest.map .p), .lst (acc.map .p)])) := fun q => by
          have := lenS (q := q) (R := R) (Q := [.lst (acc.map .p)]) (ds := rest.map .p) (i := R.length + 2) rfl
          rw [List.length_map] at this
          exact this
        have po : zPopAt (.ref (R.length + 2)) [.p (.int (k : Int))] (St q' ++ (R ++ [.lst (rest.map .p), .lst (acc.map .p)])) = .ok (.p rest[k]) (St q' ++ (R ++ [.lst ((rest.eraseIdx k).map .p), .lst (acc.map .p)])) := by
          rw [ea, ea, e2 q']
          exact popAt_at hk
        have ap : zAppend (.ref (R.length + 3)) [.p rest[k]] (St q' ++ (R ++ [.lst ((rest.eraseIdx k).map .p), .lst (acc.map .p)])) = .ok (.p .none) (St q' ++ (R ++ [.lst ((rest.eraseIdx k).map .p), .lst ((acc ++ [rest[k]]).map .p)])) := by
          rw [ea, ea, show R.length + 3 = (St q' ++ R).length + 1 by rw [← e2 q']]
          exact app_at (by omega)
        have il : ∀ (q : Stq) (a : List P), isL (St q ++ (R ++ [.lst (a.map .p), .lst (acc.map .p)])) (.ref (R.length + 3)) = true := fun q a => by
          rw [ea, isL_ref, show R.length + 3 = (St q ++ R).length + 1 by rw [← e2 q], lstv_appk]
          rfl
        have il2 : ∀ (q : Stq) (a : List P), isL (St q ++ (R ++ [.lst (a.map .p), .lst (acc.map .p)])) (.ref (R.length + 2)) = true := fun q a => by
          rw [ea, isL_ref, e2 q, lstv_app0]
          rfl
        have eb : L__law_mixed_1 [some (.ref 1), s1, some (.ref (R.length + 2)), some (.ref (R.length + 3))] (St q ++ (R ++ [.lst (rest.map .p), .lst (acc.map .p)])) =
            .nx [some (.ref 1), s1, some (.ref (R.length + 2)), some (.ref (R.length + 3))] (St q' ++ (R ++ [.lst ((rest.eraseIdx k).map .p), .lst ((acc ++ [rest[k]]).map .p)])) := by
          simp [-zAppend_e, -isL_ref, -List.map_append, L__law_mixed_1, ln, ed, po, ap, il, il2]
        simp [-List.map_append, mkLstF, ne, hr, eb, e]
theorem e_mixed (q : Stq) (hq : q.ok) (R : Store) {x : P} {xs : List P} (hx : ∀ M, zListM [.p x] M = .ok (.ref M.length) (M ++ [.lst (xs.map .p)])) (hc : ∀ x ∈ xs, Cmp x) (hl : xs.length ≤ 63) :
    ∃ y q', (∃ ys : List P, y = .list ys ∧ ys.Perm xs) ∧ q'.ok ∧ F__law_mixed [.ref 1, .p x] (St q ++ R) = .ok (.p y) (St q' ++ R) := by
  apply fn_satS
  obtain ⟨q', acc', ok', pm, e⟩ := mixed_loop (R := R) (s1 := some (.p x)) 64 xs [] q hq (by omega) hc (by simp; omega)
  have e2 : (St q ++ R).length = R.length + 2 := by simp [St_len]; omega
  simp only [List.map_nil] at e
  have fz : zfreeze (.ref (R.length + 3)) (St q' ++ (R ++ [.lst [], .lst (acc'.map .p)])) = .ok (.p (.list acc')) (St q' ++ (R ++ [.lst [], .frz acc'])) := by
    have ea : ∀ (Q : Store), St q' ++ (R ++ Q) = (St q' ++ R) ++ Q := fun Q => (List.append_assoc ..).symm
    rw [ea, ea, show R.length + 3 = (St q' ++ R).length + 1 by simp [St_len]; omega]
    rw [zfreeze_r (M' := []) (xs := acc') (by rw [lstAt_appk]; rfl), set_appk]
    rfl
  simp [c__law_mixed, hx]
  rw [show (St q).length + R.length = R.length + 2 by rw [St_len]; omega, show (St q).length + (R.length + 1) = R.length + 3 by rw [St_len]; omega]
  unfold swhile
  rw [e]
  simp only [OutS.seq_nx]
  simp [fz]
  exact ⟨.list acc', q', ⟨[.lst [], .frz acc'], rfl⟩, ok', acc', rfl, by simpa using pm⟩
end ZL

namespace ZL
open PySem PySem.Spec PyProof.Rows L2 Z
/-- where a shift may be after a fill -/
def rnd (k a : Int) : List Int := if k % a = 0 then [k] else [k - k % a, k - k % a + a]
def goS (S : List Int) : Itm → List Int
  | .fil a => S.flatMap fun k => rnd k a
  | _ => S
def goL (items : List Itm) (S : List Int) : List Int := items.foldl goS S
theorem goL_snoc (items : List Itm) (x : Itm) (S : List Int) : goL (items ++ [x]) S = goS (goL items S) x := by
  unfold goL
  rw [List.foldl_append]
  rfl
def isP (m : Int) : Prop := m = 1 ∨ m = 2 ∨ m = 4 ∨ m = 8 ∨ m = 16 ∨ m = 32 ∨ m = 64
theorem isP2 {a : Int} (h : a ∈ P2) : a = 2 ∨ a = 4 ∨ a = 8 ∨ a = 16 ∨ a = 32 ∨ a = 64 := by simpa [P2] using h
/-- all shifts that come of one stand at two places at most -/
def Two (s m k : Int) : Prop := k = s / m * m ∨ k = s / m * m + m
theorem two_step {s m a k k' : Int} (hm : isP m) (ha : a ∈ P2) (h : Two s m k) (hk : k' ∈ rnd k a) : Two s (max m a) k' := by
  have ha := isP2 ha
  unfold rnd at hk
  unfold Two at h ⊢
  rcases hm with rfl | rfl | rfl | rfl | rfl | rfl | rfl <;> rcases ha with rfl | rfl | rfl | rfl | rfl | rfl <;>
    (split at hk <;> simp at hk <;> (first | rw [Int.max_eq_left (by decide)] | rw [Int.max_eq_right (by decide)]) <;> omega)
theorem isP_max {m a : Int} (hm : isP m) (ha : a ∈ P2) : isP (max m a) := by
  have ha := isP2 ha
  unfold isP at hm ⊢
  rcases hm with rfl | rfl | rfl | rfl | rfl | rfl | rfl <;> rcases ha with rfl | rfl | rfl | rfl | rfl | rfl <;> decide
def FilP (items : List Itm) : Prop := ∀ s, Itm.fil s ∈ items → s ∈ P2
theorem two_all : ∀ (n : Nat) (items : List Itm), items.length = n → FilP items → ∃ m, isP m ∧ ∀ s, ∀ k ∈ goL items [s], Two s m k
  | 0, items, h, _ => by
    rw [List.length_eq_zero_iff.mp h]
    exact ⟨1, .inl rfl, fun s k hk => by
      rw [List.mem_singleton.mp hk]
      exact .inl (by simp)⟩
  | n + 1, items, h, hf => by
    rcases List.eq_nil_or_concat items with e | ⟨l, x, e⟩
    · rw [e] at h; cases h
    · rw [List.concat_eq_append] at e
      subst e
      obtain ⟨m, hm, h2⟩ := two_all n l (by simpa using h) fun s hs => hf s (List.mem_append_left _ hs)
      cases x with
      | lab => exact ⟨m, hm, fun s k hk => h2 s k (by rw [goL_snoc] at hk; exact hk)⟩
      | jmp g a b => exact ⟨m, hm, fun s k hk => h2 s k (by rw [goL_snoc] at hk; exact hk)⟩
      | fil a =>
        have ha : a ∈ P2 := hf a (by simp)
        refine ⟨max m a, isP_max hm ha, fun s k hk => ?_⟩
        rw [goL_snoc] at hk
        obtain ⟨j, hj, hk⟩ := List.mem_flatMap.mp hk
        exact two_step hm ha (h2 s j hj) hk
theorem two_bd {s m k : Int} (hm : isP m) (h : Two s m k) (h0 : 0 ≤ s) : 0 ≤ k ∧ k ≤ s + 64 := by
  unfold Two at h
  rcases hm with rfl | rfl | rfl | rfl | rfl | rfl | rfl <;> omega
theorem nodup_sub {α : Type} [DecidableEq α] : ∀ (l m : List α), l.Nodup → (∀ x ∈ l, x ∈ m) → l.length ≤ m.length
  | [], m, _, _ => Nat.zero_le _
  | x :: l, m, hn, hs => by
    rw [List.nodup_cons] at hn
    have hx := hs x (List.mem_cons_self ..)
    have := nodup_sub l (m.erase x) hn.2 fun y hy => by
      have ne : y ≠ x := fun e => hn.1 (e ▸ hy)
      exact (List.mem_erase_of_ne ne).mpr (hs y (List.mem_cons_of_mem _ hy))
    rw [List.length_erase_of_mem hx] at this
    have := List.length_pos_of_mem hx
    rw [List.length_cons]
    omega
def seg (xs : List Itm) (a b : Nat) : List Itm := (xs.take b).drop a
def lowA (xs : List Itm) (j : Nat) : Nat := min j (goal xs j)
def highA (xs : List Itm) (j : Nat) : Nat := max j (goal xs j)
def growA (xs : List Itm) (j : Nat) : Int := longOf xs j - shortOf xs j
/-- the differences that two stretches may make -/
def diffs (it1 it2 : List Itm) (g : Int) : List Int := (goL it1 [g]).flatMap fun f => (goL it2 [f]).map fun k => k - f
def chgL (xs : List Itm) (mate at_ : Nat) : List Int :=
  if highA xs at_ < mate then [0] else if lowA xs at_ < mate then goL (seg xs (mate + 1) (highA xs at_)) [growA xs mate]
  else diffs (seg xs (mate + 1) (lowA xs at_)) (seg xs (lowA xs at_ + 1) (highA xs at_)) (growA xs mate)
def chg (xs : List Itm) (mate at_ : Nat) : List Int := uns (chgL xs mate at_)
theorem uns_ext {a b : List Int} (h : ∀ k, k ∈ a ↔ k ∈ b) : uns a = uns b := rise_eq (uns_rise a) (uns_rise b) fun k => by rw [mem_uns, mem_uns]; exact h k
/-- a frame that the law reckons with -/
def FrOk (xs : List Itm) : Prop := xs.length ≤ 100 ∧ FilP xs ∧ ∀ j ∈ places Itm.isJ xs, goal xs j < xs.length ∧ 0 ≤ growA xs j ∧ growA xs j ≤ 2000
theorem seg_filP {xs : List Itm} (h : FilP xs) (a b : Nat) : FilP (seg xs a b) := fun s hs => h s (List.mem_of_mem_take (List.mem_of_mem_drop hs))
theorem seg_len (xs : List Itm) (a b : Nat) : (seg xs a b).length ≤ xs.length := by
  unfold seg
  rw [List.length_drop, List.length_take]
  omega
theorem sl_seg (xs : List Itm) (a b : Nat) (M : Store) : zSl (.p (sk xs)) (some (a : Int)) (some (b : Int)) M = .ok (.p (sk (seg xs a b))) M := by
  rw [sl_sk, cutG_nn]
  rfl
theorem seg_snoc {xs : List Itm} {a b : Nat} {x : Itm} (hab : a ≤ b) (hx : xs[b]? = some x) : seg xs a (b + 1) = seg xs a b ++ [x] := by
  have hb := (List.getElem?_eq_some_iff.mp hx).1
  unfold seg
  rw [List.take_add_one, hx, List.drop_append_of_le_length (by rw [List.length_take]; omega)]
  rfl
theorem seg_self (xs : List Itm) (a b : Nat) (h : b ≤ a) : seg xs a b = [] := by
  unfold seg
  exact List.drop_eq_nil_of_le (by rw [List.length_take]; omega)
end ZL

namespace ZL
open PySem PySem.Spec PyProof.Rows L2 Z
theorem mem_rnd {k a j : Int} : j ∈ rnd k a ↔ (k % a = 0 ∧ j = k) ∨ (k % a ≠ 0 ∧ (j = k - k % a ∨ j = k - k % a + a)) := by
  unfold rnd
  split
  · rename_i h
    simp [h]
  · rename_i h
    simp [h]
/-- where the shifts of s stand behind fills of which m is the greatest -/
def At (s m k : Int) : Prop := k = s / m * m ∨ (k = s / m * m + m ∧ s % m ≠ 0)
theorem step_exact {s m a j : Int} (hm : isP m) (ha : a ∈ P2) : (j ∈ rnd (s / m * m) a ∨ (s % m ≠ 0 ∧ j ∈ rnd (s / m * m + m) a)) ↔ At s (max m a) j := by
  have ha := isP2 ha
  rw [mem_rnd, mem_rnd]
  unfold At
  rcases hm with rfl | rfl | rfl | rfl | rfl | rfl | rfl <;> rcases ha with rfl | rfl | rfl | rfl | rfl | rfl <;>
    ((first | rw [Int.max_eq_left (by decide)] | rw [Int.max_eq_right (by decide)]) <;> omega)
def topF (items : List Itm) : Int := (fillsOf items).foldl max 1
theorem topF_snoc (items : List Itm) (x : Itm) : topF (items ++ [x]) = match x with | .fil a => max (topF items) a | _ => topF items := by
  unfold topF fillsOf
  rw [List.filter_append, List.map_append, List.foldl_append]
  cases x <;> rfl
theorem topF_isP : ∀ (n : Nat) (items : List Itm), items.length = n → FilP items → isP (topF items)
  | 0, items, h, _ => by rw [List.length_eq_zero_iff.mp h]; exact .inl rfl
  | n + 1, items, h, hf => by
    rcases List.eq_nil_or_concat items with e | ⟨l, x, e⟩
    · rw [e] at h; cases h
    · rw [List.concat_eq_append] at e
      subst e
      have ih := topF_isP n l (by simpa using h) fun s hs => hf s (List.mem_append_left _ hs)
      rw [topF_snoc]
      cases x with
      | lab => exact ih
      | jmp g a b => exact ih
      | fil a => exact isP_max ih (hf a (by simp))
theorem goL_exact : ∀ (n : Nat) (items : List Itm), items.length = n → FilP items → ∀ s k, k ∈ goL items [s] ↔ At s (topF items) k
  | 0, items, h, _, s, k => by
    rw [List.length_eq_zero_iff.mp h]
    show k ∈ [s] ↔ At s 1 k
    unfold At
    rw [List.mem_singleton]
    omega
  | n + 1, items, h, hf, s, k => by
    rcases List.eq_nil_or_concat items with e | ⟨l, x, e⟩
    · rw [e] at h; cases h
    · rw [List.concat_eq_append] at e
      subst e
      have ih := goL_exact n l (by simpa using h) (fun s hs => hf s (List.mem_append_left _ hs)) s
      have hp := topF_isP n l (by simpa using h) fun s hs => hf s (List.mem_append_left _ hs)
      rw [goL_snoc, topF_snoc]
      cases x with
      | lab => exact ih k
      | jmp g a b => exact ih k
      | fil a =>
        show k ∈ (goL l [s]).flatMap (fun k => rnd k a) ↔ At s (max (topF l) a) k
        rw [← step_exact hp (hf a (by simp)), List.mem_flatMap]
        constructor
        · rintro ⟨j, hj, hk⟩
          rcases (ih j).mp hj with e | ⟨e, h0⟩
          · rw [e] at hk; exact .inl hk
          · rw [e] at hk; exact .inr ⟨h0, hk⟩
        · rintro (hk | ⟨h0, hk⟩)
          · exact ⟨_, (ih _).mpr (.inl rfl), hk⟩
          · exact ⟨_, (ih _).mpr (.inr ⟨rfl, h0⟩), hk⟩
/-- what two stretches make of a growth: all still, or both ways -/
theorem diffs_still {it1 it2 : List Itm} (h1 : FilP it1) (h2 : FilP it2) {g : Int} (h : topF it2 ≤ topF it1 ∨ g % topF it2 = 0) : ∀ d, d ∈ diffs it1 it2 g ↔ d = 0 := by
  have p1 := topF_isP _ it1 rfl h1
  have p2 := topF_isP _ it2 rfl h2
  have still : ∀ f, At g (topF it1) f → ∀ k, At f (topF it2) k ↔ k = f := by
    intro f hf k
    unfold At at hf ⊢
    revert h hf
    generalize topF it1 = m1 at p1
    generalize topF it2 = m2 at p2
    rcases p1 with rfl | rfl | rfl | rfl | rfl | rfl | rfl <;> rcases p2 with rfl | rfl | rfl | rfl | rfl | rfl | rfl <;> omega
  intro d
  unfold diffs
  rw [List.mem_flatMap]
  constructor
  · rintro ⟨f, hf, hd⟩
    obtain ⟨k, hk, rfl⟩ := List.mem_map.mp hd
    have := (still f ((goL_exact _ it1 rfl h1 g f).mp hf) k).mp ((goL_exact _ it2 rfl h2 f k).mp hk)
    omega
  · rintro rfl
    have hf : At g (topF it1) (g / topF it1 * topF it1) := .inl rfl
    refine ⟨_, (goL_exact _ it1 rfl h1 g _).mpr hf, List.mem_map.mpr ⟨_, (goL_exact _ it2 rfl h2 _ _).mpr ((still _ hf _).mpr rfl), by omega⟩⟩
theorem diffs_both {it1 it2 : List Itm} (h1 : FilP it1) (h2 : FilP it2) {g : Int} (h : topF it1 < topF it2) (h0 : g % topF it2 ≠ 0) : (∃ d ∈ diffs it1 it2 g, d < 0) ∧ ∃ d ∈ diffs it1 it2 g, 0 < d := by
  have p1 := topF_isP _ it1 rfl h1
  have p2 := topF_isP _ it2 rfl h2
  obtain ⟨f, hf, hfm⟩ : ∃ f, At g (topF it1) f ∧ f % topF it2 ≠ 0 := by
    unfold At
    revert h h0
    generalize topF it1 = m1 at p1
    generalize topF it2 = m2 at p2
    intro h h0
    by_cases e : g / m1 * m1 % m2 = 0
    · refine ⟨g / m1 * m1 + m1, .inr ⟨rfl, ?_⟩, ?_⟩ <;>
        (rcases p1 with rfl | rfl | rfl | rfl | rfl | rfl | rfl <;> rcases p2 with rfl | rfl | rfl | rfl | rfl | rfl | rfl <;> omega)
    · exact ⟨_, .inl rfl, e⟩
  have mem : ∀ k, At f (topF it2) k → k - f ∈ diffs it1 it2 g := fun k hk => by
    unfold diffs
    exact List.mem_flatMap.mpr ⟨f, (goL_exact _ it1 rfl h1 g f).mpr hf, List.mem_map.mpr ⟨k, (goL_exact _ it2 rfl h2 f k).mpr hk, rfl⟩⟩
  refine ⟨⟨_, mem _ (.inl rfl), ?_⟩, ⟨_, mem _ (.inr ⟨rfl, hfm⟩), ?_⟩⟩
  · revert hfm
    generalize topF it2 = m2 at p2
    rcases p2 with rfl | rfl | rfl | rfl | rfl | rfl | rfl <;> omega
  · revert hfm
    generalize topF it2 = m2 at p2
    rcases p2 with rfl | rfl | rfl | rfl | rfl | rfl | rfl <;> omega
end ZL

namespace ZL
open PySem PySem.Spec PyProof.Rows L2 Z
inductive Kd where
  | L
  | F
  | J
deriving DecidableEq
def Kd.s : Kd → Str
  | .L => "label"
  | .F => "fill"
  | .J => "jump"
@[simp] theorem kd_J (k : Kd) : decide (k.s = ("jump" : Str)) = decide (k = .J) := by cases k <;> rfl
@[simp] theorem kd_F (k : Kd) : decide (k.s = ("fill" : Str)) = decide (k = .F) := by cases k <;> rfl
@[simp] theorem kd_L (k : Kd) : decide (k.s = ("label" : Str)) = decide (k = .L) := by cases k <;> rfl
def pstrs (ks : List Kd) : List P := ks.map fun k => .str k.s
def goalsOf (ks : List Kd) : List Nat := (ks.zipIdx.filter fun p => decide (p.1 = Kd.L)).map Prod.snd
theorem mem_goals {ks : List Kd} {j : Nat} : j ∈ goalsOf ks ↔ ks[j]? = some .L := by
  unfold goalsOf
  simp only [List.mem_map, List.mem_filter, decide_eq_true_eq]
  constructor
  · rintro ⟨⟨x, i⟩, ⟨h, rfl⟩, rfl⟩
    simpa using List.mem_zipIdx_iff_getElem?.mp h
  · intro h
    exact ⟨(.L, j), ⟨List.mem_zipIdx_iff_getElem?.mpr h, rfl⟩, rfl⟩
theorem len_goals (ks : List Kd) : (goalsOf ks).length ≤ ks.length := by
  unfold goalsOf
  rw [List.length_map]
  have := List.length_filter_le (fun p : Kd × Nat => decide (p.1 = Kd.L)) ks.zipIdx
  rw [List.length_zipIdx] at this
  exact this
def nJ (ks : List Kd) : Nat := (ks.filter fun k => decide (k = .J)).length
def nF (ks : List Kd) : Nat := (ks.filter fun k => decide (k = .F)).length
theorem nF_snoc (ks : List Kd) (k : Kd) : nF (ks ++ [k]) = nF ks + if k = .F then 1 else 0 := by
  unfold nF
  rw [List.filter_append, List.length_append]
  by_cases h : k = .F <;> simp [h]
theorem nJ_snoc (ks : List Kd) (k : Kd) : nJ (ks ++ [k]) = nJ ks + if k = .J then 1 else 0 := by
  unfold nJ
  rw [List.filter_append, List.length_append]
  by_cases h : k = .J <;> simp [h]
end ZL

namespace ZL
open PySem PySem.Spec PyProof.Rows L2 Z
theorem rep_p (x : P) (k : Nat) (hk : k ≤ 1000) (M : Store) : zMul (.p (.list [x])) (.p (.int (k : Int))) M = .ok (.p (.list (List.replicate k x))) M := by
  unfold zMul
  simp only [lstv_p]
  rw [if_pos ⟨by omega, by omega, by simp; omega⟩, Int.toNat_natCast]
  have : (List.replicate k ([x].map D.p)).flatten = (List.replicate k x).map .p := by
    induction k with
    | zero => rfl
    | succ k ih => rw [List.replicate_succ, List.flatten_cons, ih (by omega), List.replicate_succ]; rfl
  rw [this, frzl_map, if_pos (by simp; omega)]
theorem add_ps (a b : List P) (h : a.length + b.length ≤ 100000) (M : Store) : zAdd (.p (.list a)) (.p (.list b)) M = .ok (.p (.list (a ++ b))) M := by
  simp only [zAdd, zAddL, lstv_p]
  rw [← List.map_append, frzl_map, if_pos (by simp; omega)]
def decK : P → Kd
  | .str s => if s = (Kd.J).s then .J else if s = (Kd.F).s then .F else .L
  | _ => .L
theorem dec_s (k : Kd) : decK (.str k.s) = k := by
  have e : decK (.str k.s) = if k.s = (Kd.J).s then .J else if k.s = (Kd.F).s then .F else .L := rfl
  rw [e]
  have n1 : ¬ (Kd.L).s = (Kd.J).s := by decide +kernel
  have n2 : ¬ (Kd.L).s = (Kd.F).s := by decide +kernel
  have n3 : ¬ (Kd.F).s = (Kd.J).s := by decide +kernel
  cases k
  · rw [if_neg n1, if_neg n2]
  · rw [if_neg n3, if_pos rfl]
  · rw [if_pos rfl]
/-- the kinds, mixed -/
theorem perm_kinds {ys : List P} {ks : List Kd} (h : ys.Perm (pstrs ks)) : ∃ ms, ys = pstrs ms ∧ ms.Perm ks := by
  refine ⟨ys.map decK, ?_, ?_⟩
  · unfold pstrs
    rw [List.map_map]
    have : ∀ y ∈ ys, y = (fun k : Kd => PyData.str k.s) (decK y) := fun y hy => by
      obtain ⟨k, _, rfl⟩ := List.mem_map.mp (h.mem_iff.mp hy)
      show PyData.str k.s = PyData.str (decK (.str k.s)).s
      rw [dec_s]
    conv => lhs; rw [← List.map_id ys]
    exact List.map_congr_left this
  · have := h.map decK
    unfold pstrs at this
    rw [List.map_map] at this
    have e : ks.map (decK ∘ fun k : Kd => PyData.str k.s) = ks := by
      conv => rhs; rw [← List.map_id ks]
      exact List.map_congr_left fun k _ => dec_s k
    rw [e] at this
    exact this
/-- an item of a frame of n items -/
def okF (n : Nat) : Itm → Prop
  | .lab => True
  | .fil s => s ∈ P2
  | .jmp g s l => g < n ∧ 1 ≤ s ∧ s ≤ 9 ∧ s < l ∧ l ≤ 999
def Frm (xs : List Itm) (jumps : Nat) : Prop := (∀ x ∈ xs, okF xs.length x) ∧ xs.length ≤ 60 ∧ (places Itm.isJ xs).length = jumps
theorem Frm.ok {xs : List Itm} {j : Nat} (h : Frm xs j) : FrOk xs := ⟨by have := h.2.1; omega, fun s hs => h.1 _ hs, fun k hk => by
  have := h.1 _ (List.mem_of_getElem? (jmp_at hk))
  unfold growA
  exact ⟨this.1, by have := this.2.2.2.1; omega, by have h1 := this.2.1; have h2 := this.2.2.2.2; omega⟩⟩
theorem Frm.mod {xs : List Itm} {j : Nat} (h : Frm xs j) : ∀ x ∈ xs, Mod1 x := fun x hx => by
  have h2 := h.2.1
  have := h.1 x hx
  cases x with
  | lab => trivial
  | fil s =>
    have := p2_in (show s ∈ P2 from this)
    exact ⟨by omega, by omega⟩
  | jmp g s l => exact ⟨by have := this.1; omega, by have := this.2.1; omega, by have := this.2.2.1; omega, by have h1 := this.2.1; have h2 := this.2.2.2.1; omega, by have := this.2.2.2.2; omega⟩
/-- goals are labels -/
def GL (xs : List Itm) : Prop := ∀ k ∈ places Itm.isJ xs, xs[goal xs k]? = some .lab
theorem b_frame {q : Stq} (hq : q.ok) (R : Store) {acc : List Itm} {kd : Kd} {goals : List Nat} {n : Nat} {top growth : Int} (hl : acc.length ≤ 100) (hg : ∀ g ∈ goals, g < n) (hg0 : goals ≠ []) (hgl : goals.length ≤ 1000) (ht : 2 ≤ top) (hgr : growth ≤ 100000) {d1 d2 d3 d6 d10 : Option D} :
    Sat (fun o => ∃ (q' : Stq) (x : Itm) (d10 : Option D), o = .nx [some (.ref 1), d1, d2, d3, some (.p (.int top)), some (.p (.int growth)), d6, some (.p (.list (pnats goals))), some (.ref (R.length + 2)), some (.p (.str kd.s)), d10, none, none] (St q' ++ (R ++ [Ob.lst (encs (acc ++ [x]))])) ∧ q'.ok ∧ okF n x ∧ x.isJ = decide (kd = .J) ∧ (kd = .L → x = .lab) ∧ (∀ g s l, x = .jmp g s l → g ∈ goals) ∧ (∀ s, x = .fil s → s ≤ top) ∧ (kd = .F → ∃ s, x = .fil s))
      (L__law_frame_1 [some (.ref 1), d1, d2, d3, some (.p (.int top)), some (.p (.int growth)), d6, some (.p (.list (pnats goals))), some (.ref (R.length + 2)), some (.p (.str kd.s)), d10, none, none] (St q ++ (R ++ [Ob.lst (encs acc)]))) := by
  refine sat_any fun Φ hΦ => ?_
  have l1 : ∀ q ds, lstv (St q ++ (R ++ [Ob.lst ds])) (.ref (R.length + 2)) = some ds := fun q ds => lstvS rfl
  cases kd with
  | L =>
    have el : (PyData.tuple [.str (Kd.L).s]) = Itm.lab.enc := rfl
    have ap := appS (q := q) (R := R) (i := R.length + 2) (acc := acc) (x := .lab) rfl (by omega)
    simp [-zAppend_e, L__law_frame_1, mkTup, el, l1, ap]
    exact hΦ _ ⟨q, .lab, d10, rfl, hq, trivial, rfl, fun _ => rfl, fun _ _ _ z => (by cases z), fun _ z => (by cases z), fun z => (by cases z)⟩
  | F =>
    have co : ∀ Q : Store, compP (tgN 12) (zt (z2 zLe (zv 12) (zv 4))) (zv 12) [some (.ref 1), d1, d2, d3, some (.p (.int top)), some (.p (.int growth)), d6, some (.p (.list (pnats goals))), some (.ref (R.length + 2)), some (.p (.str (Kd.F).s)), d10, none, none] ((pints P2).map .p) Q = .ok ((pints (P2.filter fun s => decide (s ≤ top))).map .p) Q := fun Q => by
      rw [dp_pints, compP_map (M := Q) (fun s : Int => D.p (.int s)) (fun s => decide (s ≤ top)) (fun s : Int => D.p (.int s)), dp_pints]
      intro s _
      refine ⟨_, rfl, ?_, fun _ => rfl⟩
      simp
    obtain ⟨fs, hfs⟩ : ∃ fs, fs = P2.filter fun s => decide (s ≤ top) := ⟨_, rfl⟩
    rw [← hfs] at co
    have hf0 : 0 < fs.length := List.length_pos_of_mem (a := 2) (by rw [hfs]; exact List.mem_filter.mpr ⟨by decide, by simpa using ht⟩)
    have hfl : fs.length ≤ 6 := by rw [hfs]; exact Nat.le_trans (List.length_filter_le _ _) (by decide)
    have fz : ∀ Q, frzl ((pints fs).map .p) Q = .ok (.p (.list (pints fs))) Q := fun Q => by rw [frzl_map, if_pos (by simp; omega)]
    obtain ⟨x, q1, hx, ok1, e1⟩ := e_pick q hq (R ++ [Ob.lst (encs acc)]) (xs := pints fs) (by simpa using hf0) (by simp; omega)
    obtain ⟨f, hff, rfl⟩ := List.mem_map.mp hx
    rw [hfs] at hff
    have hfm : f ∈ P2 := (List.mem_filter.mp hff).1
    have hft : f ≤ top := of_decide_eq_true (List.mem_filter.mp hff).2
    have ef : (PyData.tuple [.str (Kd.F).s, .int f]) = (Itm.fil f).enc := rfl
    have ap := appS (q := q1) (R := R) (i := R.length + 2) (acc := acc) (x := .fil f) rfl (by omega)
    have e6 : ([.p (.int 2), .p (.int 4), .p (.int 8), .p (.int 16), .p (.int 32), .p (.int 64)] : List D) = (pints P2).map .p := rfl
    have it : ∀ Q, itemsOf (.p (.tuple [.int 2, .int 4, .int 8, .int 16, .int 32, .int 64])) Q = .ok ((pints P2).map .p) Q := fun Q => rfl
    simp [-zAppend_e, -frzl_map, -itemsOf_t, L__law_frame_1, mkTup, it, wipeS, co, fz, e1, ef, l1, ap]
    exact hΦ _ ⟨q1, .fil f, d10, rfl, ok1, hfm, rfl, fun z => (by cases z), fun _ _ _ z => (by cases z), fun _ z => (by cases z; exact hft), fun _ => ⟨f, rfl⟩⟩
  | J =>
    obtain ⟨k1, q1, hk1, ok1, e1⟩ := e_drawZ q hq (R ++ [Ob.lst (encs acc)]) (z := 9) (n := 9) rfl (by decide) (by decide)
    obtain ⟨sh, hsh⟩ : ∃ s : Int, s = 1 + (k1 : Int) := ⟨_, rfl⟩
    obtain ⟨x, q2, hx, ok2, e2⟩ := e_pick q1 ok1 (R ++ [Ob.lst (encs acc)]) (xs := pnats goals) (by
      have := List.length_pos_iff.mpr hg0
      simp; omega) (by simp; omega)
    obtain ⟨g, hgm, rfl⟩ := List.mem_map.mp hx
    obtain ⟨k3, q3, hk3, ok3, e3⟩ := e_drawN q2 ok2 (R ++ [Ob.lst (encs acc)]) (z := growth) hgr
    obtain ⟨lg, hlg⟩ : ∃ lg : Int, lg = min 999 (sh + 1 + (k3 : Int)) := ⟨_, rfl⟩
    have emin : ∀ M, zMin [.p (.int 999), .p (.int (sh + 1 + (k3 : Int)))] M = .ok (.p (.int lg)) M := fun M => by rw [zMin_2, hlg]
    have ej : (PyData.tuple [.str (Kd.J).s, .int (g : Int), .int sh, .int lg]) = (Itm.jmp g sh lg).enc := rfl
    have ap := appS (q := q3) (R := R) (i := R.length + 2) (acc := acc) (x := .jmp g sh lg) rfl (by omega)
    simp [-zAppend_e, -zMin_2, L__law_frame_1, mkTup, e1, ← hsh, e2, e3, emin, ej, l1, ap]
    exact hΦ _ ⟨q3, .jmp g sh lg, _, rfl, ok3, ⟨hg g hgm, by omega, by omega, by omega, by omega⟩, rfl, fun z => (by cases z), fun _ _ _ z => (by cases z; exact hgm), fun _ z => (by cases z), fun z => (by cases z)⟩
/-- what more is known of a frame: its fills are no greater than top, and there are some -/
def FrX (xs : List Itm) (n f : Nat) (top : Int) : Prop := (∀ s, Itm.fil s ∈ xs → s ≤ top) ∧ xs.length = n ∧ (xs.filter Itm.isF).length = f
theorem e_frameX {q : Stq} (hq : q.ok) (R : Store) {j f l : Nat} {top growth : Int} (hl : 1 ≤ l) (hn : j + f + l ≤ 60) (ht : 2 ≤ top) (hgr : growth ≤ 100000) :
    ∃ x q', (∃ xs, x = sk xs ∧ Frm xs j ∧ GL xs ∧ FrX xs (j + f + l) f top) ∧ q'.ok ∧ F__law_frame [.ref 1, .p (.int (j : Int)), .p (.int (f : Int)), .p (.int (l : Int)), .p (.int top), .p (.int growth)] (St q ++ R) = .ok (.p x) (St q' ++ R) := by
  apply fn_satS
  refine sat_any fun Φ hΦ => ?_
  have r1 := rep_p (.str "jump") j (by omega)
  have r2 := rep_p (.str "fill") f (by omega)
  have r3 := rep_p (.str "label") l (by omega)
  obtain ⟨k0, hk0⟩ : ∃ k0, k0 = List.replicate j Kd.J ++ List.replicate f Kd.F ++ List.replicate l Kd.L := ⟨_, rfl⟩
  have a1 : ∀ M, zAdd (.p (.list (List.replicate j (.str "jump")))) (.p (.list (List.replicate f (.str "fill")))) M = .ok (.p (.list (List.replicate j (.str "jump") ++ List.replicate f (.str "fill")))) M := add_ps _ _ (by simp; omega)
  have ek : List.replicate j (PyData.str "jump") ++ List.replicate f (.str "fill") ++ List.replicate l (.str "label") = pstrs k0 := by
    rw [hk0]
    simp [pstrs, Kd.s]
  have a2 : ∀ M, zAdd (.p (.list (List.replicate j (.str "jump") ++ List.replicate f (.str "fill")))) (.p (.list (List.replicate l (.str "label")))) M = .ok (.p (.list (pstrs k0))) M := fun M => by
    rw [add_ps _ _ (by simp; omega), ek]
  have hkl : k0.length = j + f + l := by rw [hk0]; simp; omega
  obtain ⟨y, q1, ⟨ys, rfl, pm⟩, ok1, em⟩ := e_mixed q hq R (x := .list (pstrs k0)) (xs := pstrs k0) (fun M => rfl) (fun x hx => by
    obtain ⟨k, _, rfl⟩ := List.mem_map.mp hx
    cases k <;> exact ⟨by decide +kernel, Nat.zero_le _⟩) (by unfold pstrs; rw [List.length_map]; omega)
  obtain ⟨ks, rfl, pk⟩ := perm_kinds pm
  have hks : ks.length = j + f + l := by rw [pk.length_eq, hkl]
  have hL : Kd.L ∈ ks := pk.mem_iff.mpr (by rw [hk0]; exact List.mem_append.mpr (.inr (List.mem_replicate.mpr ⟨by omega, rfl⟩)))
  have hnj : nJ ks = j := by
    unfold nJ
    rw [(pk.filter _).length_eq, hk0]
    simp [List.filter_append, List.filter_replicate]
  have hnf : nF ks = f := by
    unfold nF
    rw [(pk.filter _).length_eq, hk0]
    simp [List.filter_append, List.filter_replicate]
  have en : ∀ M, enumOf (.p (.list (pstrs ks))) M = .ok (ks.zipIdx.map fun p => D.p (.tuple [.int (p.2 : Nat), .str p.1.s])) M := fun M => by
    rw [enumOf_l, pstrs, enumFrom_map]
  have co : ∀ (M : Store) a0 a1 a2 a3 a4 a5 a6 a7 a8 a10, compP (tgT (tgsCons (tgN 11) (tgsCons (tgN 9) tgsNil))) (zt (z2 zEq (zv 9) (zk (.str "label")))) (zv 11) [a0, a1, a2, a3, a4, a5, a6, a7, a8, none, a10, none, none] (ks.zipIdx.map fun p => D.p (.tuple [.int (p.2 : Nat), .str p.1.s])) M = .ok ((pnats (goalsOf ks)).map .p) M := fun M a0 a1 a2 a3 a4 a5 a6 a7 a8 a10 => by
    rw [compP_map (M := M) _ (fun p => decide (p.1 = Kd.L)) (fun p => .p (.int (p.2 : Nat)))]
    · simp [goalsOf, pnats]
    · intro p _
      simp
  have hgl := len_goals ks
  have fz : ∀ Q, frzl ((pnats (goalsOf ks)).map .p) Q = .ok (.p (.list (pnats (goalsOf ks)))) Q := fun Q => by rw [frzl_map, if_pos (by simp; omega)]
  have it : ∀ M, itemsOf (.p (.list (pstrs ks))) M = .ok (ks.map fun k => D.p (.str k.s)) M := fun M => by simp [pstrs]
  have l2 : ∀ q : Stq, (St q).length + R.length = R.length + 2 := fun q => by rw [St_len]; omega
  simp [-frzl_map, -itemsOf_l, c__law_frame, mkLstF, r1, r2, r3, a1, a2, em, en, wipeS, co, fz, l2, it]
  have b0 : St q1 ++ (R ++ [Ob.lst []]) = St q1 ++ (R ++ [.lst (encs [])]) := rfl
  rw [b0]
  refine forP_seq _ _ (fun done sl M' => ∃ q' acc d9 d10, sl = [some (.ref 1), some (.p (.int (j : Int))), some (.p (.int (f : Int))), some (.p (.int (l : Int))), some (.p (.int top)), some (.p (.int growth)), some (.p (.list (pstrs ks))), some (.p (.list (pnats (goalsOf ks)))), some (.ref (R.length + 2)), d9, d10, none, none] ∧ M' = St q' ++ (R ++ [.lst (encs acc)]) ∧ q'.ok ∧ (∀ x ∈ acc, okF ks.length x) ∧ acc.length = done.length ∧ (acc.filter Itm.isJ).length = nJ done ∧ (∀ i : Nat, done[i]? = some Kd.L → acc[i]? = some Itm.lab) ∧ (∀ x ∈ acc, ∀ g s l, x = .jmp g s l → g ∈ goalsOf ks) ∧ (∀ s, Itm.fil s ∈ acc → s ≤ top) ∧ (acc.filter Itm.isF).length = nF done)
    ⟨q1, [], none, none, rfl, rfl, ok1, fun x hx => by simp at hx, rfl, rfl, fun i hi => by simp at hi, fun x hx => by simp at hx, fun x hx => by simp at hx, rfl⟩ ?_ ?_
  · rintro done kd rest sl M' e ⟨q', acc, d9, d10, rfl, rfl, ok, ha, hal, hj, hgl1, hgl2, hft, hfn⟩
    have hd : done.length ≤ 100 := by
      have := congrArg List.length e
      simp at this
      omega
    obtain ⟨q2, x, d10', e2, ok2, hx, hxj, hxl, hxg, hxt, hxf⟩ := b_frame ok R (acc := acc) (kd := kd) (goals := goalsOf ks) (n := ks.length) (top := top) (growth := growth) (by omega)
      (fun g hg => (List.getElem?_eq_some_iff.mp (mem_goals.mp hg)).1)
      (fun z => by
        obtain ⟨i, hi⟩ := List.getElem?_of_mem hL
        have := mem_goals.mpr hi
        rw [z] at this
        cases this)
      (by omega) ht hgr (d1 := some (.p (.int (j : Int)))) (d2 := some (.p (.int (f : Int)))) (d3 := some (.p (.int (l : Int)))) (d6 := some (.p (.list (pstrs ks)))) (d10 := d10)
    exact ⟨_, rfl, _, _, e2, q2, acc ++ [x], _, d10', rfl, rfl, ok2, fun y hy => by
      rcases List.mem_append.mp hy with h | h
      · exact ha y h
      · rw [List.mem_singleton.mp h]; exact hx, by simp [hal], by
      rw [nJ_snoc, List.filter_append, List.length_append, hj]
      congr 1
      by_cases c : kd = .J <;> simp [List.filter_cons, hxj, c], fun i hi => by
      by_cases hid : i < done.length
      · rw [List.getElem?_append_left hid] at hi
        rw [List.getElem?_append_left (by omega)]
        exact hgl1 i hi
      · have hil : i = done.length := by
          have := (List.getElem?_eq_some_iff.mp hi).1
          simp at this
          omega
        subst hil
        rw [List.getElem?_append_right (Nat.le_refl _), Nat.sub_self] at hi
        rw [List.getElem?_append_right (by omega), show done.length - acc.length = 0 by omega]
        have : kd = .L := by simpa using hi
        rw [hxl this]
        rfl, fun y hy g s l e => by
      rcases List.mem_append.mp hy with h | h
      · exact hgl2 y h g s l e
      · rw [List.mem_singleton.mp h] at e; exact hxg g s l e, fun s hs => by
      rcases List.mem_append.mp hs with h | h
      · exact hft s h
      · exact hxt s (List.mem_singleton.mp h).symm, by
      rw [nF_snoc, List.filter_append, List.length_append, hfn]
      congr 1
      cases kd with
      | F => obtain ⟨s, rfl⟩ := hxf rfl; rfl
      | L => rw [hxl rfl]; rfl
      | J =>
        cases x with
        | lab => cases hxj
        | fil s => cases hxj
        | jmp g s l => rfl⟩
  · rintro sl M' ⟨q', acc, d9, d10, rfl, rfl, ok, ha, hal, hj, hgl1, hgl2, hft, hfn⟩
    have t := tupS (q := q') (R := R) (Q := []) (i := R.length + 2) (xs := acc) rfl
    simp [t]
    exact hΦ _ ⟨_, q', [.lst (encs acc)], rfl, ok, acc, rfl, ⟨fun x hx => by rw [hal]; exact ha x hx, by omega, by rw [len_J, hj, hnj]⟩, fun k hk => hgl1 _ (mem_goals.mp (hgl2 _ (List.mem_of_getElem? (jmp_at hk)) _ _ _ rfl)), hft, by omega, by rw [hfn, hnf]⟩
theorem e_frame {q : Stq} (hq : q.ok) (R : Store) {j f l : Nat} {top growth : Int} (hl : 1 ≤ l) (hn : j + f + l ≤ 60) (ht : 2 ≤ top) (hgr : growth ≤ 100000) :
    ∃ x q', (∃ xs, x = sk xs ∧ Frm xs j ∧ GL xs) ∧ q'.ok ∧ F__law_frame [.ref 1, .p (.int (j : Int)), .p (.int (f : Int)), .p (.int (l : Int)), .p (.int top), .p (.int growth)] (St q ++ R) = .ok (.p x) (St q' ++ R) := by
  obtain ⟨x, q', ⟨xs, a, b, c, _⟩, h⟩ := e_frameX hq R hl hn ht hgr (f := f)
  exact ⟨x, q', ⟨xs, a, b, c⟩, h⟩
end ZL

namespace ZL
open PySem PySem.Spec PyProof.Rows L2 Z
/-- the law's laying: where an item ends that begins at b -/
def endI (x : Itm) (b : Int) (long : Bool) : Int := match x with
  | .lab => b
  | .fil s => (b + s - 1) / s * s
  | .jmp _ s l => b + if long then l else s
def gpA (gs : List Int) (p : Nat) : Int := gs.getD p 0
/-- where the first i items end -/
def hereN (xs : List Itm) (gs : List Int) (ch : List Nat) : Nat → Int
  | 0 => 0
  | i + 1 => match xs[i]? with
    | none => hereN xs gs ch i
    | some x => endI x (hereN xs gs ch i + gpA gs i) (decide (i ∈ ch))
def wayN (xs : List Itm) (gs : List Int) (ch : List Nat) (at_ : Nat) : Int :=
  if at_ < goal xs at_ then hereN xs gs ch (goal xs at_) + gpA gs (goal xs at_) - hereN xs gs ch (at_ + 1)
  else hereN xs gs ch (at_ + 1) - (hereN xs gs ch (goal xs at_) + gpA gs (goal xs at_))
/-- the shift before item i -/
def shD (xs : List Itm) (gs : List Int) (ch : List Nat) (mate i : Nat) : Int := hereN xs gs (ch ++ [mate]) i - hereN xs gs ch i
variable {xs : List Itm} {gs : List Int} {ch : List Nat} {mate : Nat}
theorem shD_step (i : Nat) : shD xs gs ch mate (i + 1) = match xs[i]? with
    | none => shD xs gs ch mate i
    | some x => endI x (hereN xs gs (ch ++ [mate]) i + gpA gs i) (decide (i ∈ ch ++ [mate])) - endI x (hereN xs gs ch i + gpA gs i) (decide (i ∈ ch)) := by
  unfold shD
  simp only [hereN]
  cases xs[i]? <;> rfl
theorem shD_zero : ∀ i, i ≤ mate → shD xs gs ch mate i = 0
  | 0, _ => by simp [shD, hereN]
  | i + 1, h => by
    have ih := shD_zero i (by omega)
    rw [shD_step]
    cases hx : xs[i]? with
    | none => exact ih
    | some x =>
      have e : hereN xs gs (ch ++ [mate]) i = hereN xs gs ch i := by unfold shD at ih; omega
      have d : decide (i ∈ ch ++ [mate]) = decide (i ∈ ch) := by
        have : i ≠ mate := by omega
        simp [this]
      simp only [e, d]
      omega
theorem shD_mate (hm : mate ∈ places Itm.isJ xs) (hn : mate ∉ ch) : shD xs gs ch mate (mate + 1) = growA xs mate := by
  have z := shD_zero (xs := xs) (gs := gs) (ch := ch) (mate := mate) mate (Nat.le_refl _)
  rw [shD_step, jmp_at hm]
  have d1 : decide (mate ∈ ch ++ [mate]) = true := by simp
  have d2 : decide (mate ∈ ch) = false := by simp [hn]
  simp only [d1, d2, endI]
  unfold shD at z
  unfold growA
  simp
  omega
/-- behind the mate a shift moves as the law's goes -/
theorem shD_next {i : Nat} {x : Itm} (hx : xs[i]? = some x) (hi : mate < i) (hf : ∀ s, x = .fil s → s ∈ P2) : shD xs gs ch mate (i + 1) ∈ goS [shD xs gs ch mate i] x := by
  rw [shD_step, hx]
  have d : decide (i ∈ ch ++ [mate]) = decide (i ∈ ch) := by
    have : i ≠ mate := by omega
    simp [this]
  simp only [d]
  cases x with
  | lab => simp [goS, endI, shD]; omega
  | jmp g s l => simp [goS, endI, shD]; omega
  | fil s =>
    have hs := isP2 (hf s rfl)
    show _ ∈ [shD xs gs ch mate i].flatMap fun k => rnd k s
    rw [List.mem_flatMap]
    refine ⟨_, List.mem_singleton.mpr rfl, mem_rnd.mpr ?_⟩
    unfold shD
    simp only [endI]
    generalize hereN xs gs (ch ++ [mate]) i = a
    generalize hereN xs gs ch i = b
    generalize gpA gs i = g
    rcases hs with rfl | rfl | rfl | rfl | rfl | rfl <;> omega
theorem goL_mono {items : List Itm} : ∀ {S T : List Int}, (∀ k ∈ S, k ∈ T) → ∀ k ∈ goL items S, k ∈ goL items T := by
  unfold goL
  induction items with
  | nil => exact fun h => h
  | cons x r ih =>
    intro S T h
    rw [List.foldl_cons, List.foldl_cons]
    refine ih fun k hk => ?_
    cases x with
    | lab => exact h k hk
    | jmp g a b => exact h k hk
    | fil a =>
      obtain ⟨j, hj, hk⟩ := List.mem_flatMap.mp hk
      exact List.mem_flatMap.mpr ⟨j, h j hj, hk⟩
theorem goS_mem {k : Int} {S : List Int} {x : Itm} {j : Int} (hk : k ∈ S) (h : j ∈ goS [k] x) : j ∈ goS S x := by
  cases x with
  | lab => rw [List.mem_singleton.mp h]; exact hk
  | jmp g a b => rw [List.mem_singleton.mp h]; exact hk
  | fil a =>
    obtain ⟨k2, h2, h3⟩ := List.mem_flatMap.mp h
    rw [List.mem_singleton.mp h2] at h3
    exact List.mem_flatMap.mpr ⟨k, hk, h3⟩
/-- from a to b, both behind the mate -/
theorem shD_goes (hf : FilP xs) {a : Nat} (ha : mate < a) : ∀ n, a + n ≤ xs.length → shD xs gs ch mate (a + n) ∈ goL (seg xs a (a + n)) [shD xs gs ch mate a]
  | 0, _ => by
    have : seg xs a (a + 0) = [] := by unfold seg; rw [Nat.add_zero, List.drop_eq_nil_iff, List.length_take]; omega
    rw [this]
    exact List.mem_singleton.mpr rfl
  | n + 1, h => by
    have ih := shD_goes hf ha n (by omega)
    have hx := List.getElem?_eq_getElem (show a + n < xs.length by omega)
    rw [show a + (n + 1) = a + n + 1 by omega, seg_snoc (by omega) hx, goL_snoc]
    refine goS_mem ih (shD_next hx (by omega) fun s e => hf s (e ▸ List.getElem_mem _))
end ZL

namespace ZL
open PySem PySem.Spec PyProof.Rows L2 Z
variable {xs : List Itm} {gs : List Int} {ch : List Nat} {mate at_ : Nat}
theorem way_shift : wayN xs gs (ch ++ [mate]) at_ - wayN xs gs ch at_ = if at_ < goal xs at_ then shD xs gs ch mate (goal xs at_) - shD xs gs ch mate (at_ + 1) else shD xs gs ch mate (at_ + 1) - shD xs gs ch mate (goal xs at_) := by
  unfold wayN shD
  split <;> omega
/-- a jump other than the mate moves no shift -/
theorem shD_jump (ha : at_ ∈ places Itm.isJ xs) (hne : mate ≠ at_) : shD xs gs ch mate (at_ + 1) = shD xs gs ch mate at_ := by
  rw [shD_step, jmp_at ha]
  have d : decide (at_ ∈ ch ++ [mate]) = decide (at_ ∈ ch) := by
    have : at_ ≠ mate := fun e => hne e.symm
    simp [this]
  simp only [d, endI]
  unfold shD
  omega
theorem shD_lab {g : Nat} (h : xs[g]? = some .lab) : shD xs gs ch mate (g + 1) = shD xs gs ch mate g := by
  rw [shD_step, h]
  simp only [endI]
  unfold shD
  omega
/-- the way's change is the shift at the far end less the shift at the near end -/
theorem way_ends (ha : at_ ∈ places Itm.isJ xs) (hne : mate ≠ at_) : wayN xs gs (ch ++ [mate]) at_ - wayN xs gs ch at_ = shD xs gs ch mate (highA xs at_) - shD xs gs ch mate (lowA xs at_) := by
  rw [way_shift, shD_jump ha hne]
  unfold highA lowA
  split
  · rename_i h
    rw [Nat.max_eq_right (by omega), Nat.min_eq_left (by omega)]
  · rename_i h
    rw [Nat.max_eq_left (by omega), Nat.min_eq_right (by omega)]
theorem shD_low (hgl : GL xs) (ha : at_ ∈ places Itm.isJ xs) (hne : mate ≠ at_) : shD xs gs ch mate (lowA xs at_ + 1) = shD xs gs ch mate (lowA xs at_) := by
  unfold lowA
  rcases Nat.le_total at_ (goal xs at_) with h | h
  · rw [Nat.min_eq_left h]; exact shD_jump ha hne
  · rw [Nat.min_eq_right h]; exact shD_lab (hgl at_ ha)
/-- the law's step is one of the changes -/
theorem way_in (h : FrOk xs) (hgl : GL xs) (hm : mate ∈ places Itm.isJ xs) (ha : at_ ∈ places Itm.isJ xs) (hne : mate ≠ at_) (hn : mate ∉ ch) :
    wayN xs gs (ch ++ [mate]) at_ - wayN xs gs ch at_ ∈ chgL xs mate at_ := by
  rw [way_ends ha hne]
  have xm := jmp_at hm
  have hml : mate ≠ goal xs at_ := fun e => by have xg := hgl at_ ha; rw [e, xg] at xm; cases xm
  have al := (List.getElem?_eq_some_iff.mp (jmp_at ha)).1
  have gl := (h.2.2 at_ ha).1
  have hlh : lowA xs at_ ≤ highA xs at_ := by unfold lowA highA; omega
  have hhl : highA xs at_ < xs.length := by unfold highA; omega
  have hlo : lowA xs at_ = at_ ∨ lowA xs at_ = goal xs at_ := by unfold lowA; omega
  have hhi : highA xs at_ = at_ ∨ highA xs at_ = goal xs at_ := by unfold highA; omega
  have hne2 : at_ ≠ goal xs at_ := fun e => by
    have xg := hgl at_ ha
    rw [← e, jmp_at ha] at xg
    cases xg
  have hlt : lowA xs at_ < highA xs at_ := by unfold lowA highA; omega
  have gm := shD_mate (gs := gs) hm hn
  unfold chgL
  split
  · rename_i c
    rw [shD_zero _ (by omega), shD_zero _ (by omega)]
    exact List.mem_singleton.mpr rfl
  · rename_i c
    split
    · rename_i c2
      rw [shD_zero (lowA xs at_) (by omega), Int.sub_zero, ← gm]
      have := shD_goes (gs := gs) (ch := ch) (mate := mate) h.2.1 (a := mate + 1) (by omega) (highA xs at_ - (mate + 1)) (by omega)
      rw [show mate + 1 + (highA xs at_ - (mate + 1)) = highA xs at_ by omega] at this
      exact this
    · rename_i c2
      have c3 : mate < lowA xs at_ := by omega
      have t1 := shD_goes (gs := gs) (ch := ch) (mate := mate) h.2.1 (a := mate + 1) (by omega) (lowA xs at_ - (mate + 1)) (by omega)
      rw [show mate + 1 + (lowA xs at_ - (mate + 1)) = lowA xs at_ by omega, gm] at t1
      have t2 := shD_goes (gs := gs) (ch := ch) (mate := mate) h.2.1 (a := lowA xs at_ + 1) (by omega) (highA xs at_ - (lowA xs at_ + 1)) (by omega)
      rw [show lowA xs at_ + 1 + (highA xs at_ - (lowA xs at_ + 1)) = highA xs at_ by omega, shD_low hgl ha hne] at t2
      exact List.mem_flatMap.mpr ⟨_, t1, List.mem_map.mpr ⟨_, t2, rfl⟩⟩
end ZL

namespace ZL
open PySem PySem.Spec PyProof.Rows L2 Z
def isJat (xs : List Itm) (p : Nat) : Bool := match xs[p]? with
  | some x => x.isJ
  | none => false
def kept (xs : List Itm) (o p : Nat) : Bool := ((xs.take p).drop (o + 1)).any fun x => x.isF && decide (szAt xs p ≤ x.sz)
def tripB (xs : List Itm) (p o : Nat) : Bool := !kept xs o p && decide ((longOf xs o - shortOf xs o) % szAt xs p ≠ 0)
def lowOf (xs : List Itm) (j : Nat) : Nat := min j (goal xs j)
def highOf (xs : List Itm) (j : Nat) : Nat := max j (goal xs j)
def fillsIn (xs : List Itm) (j : Nat) : List Nat := (List.range' (lowOf xs j + 1) (highOf xs j - (lowOf xs j + 1))).filter (isFat xs)
def othersOf (xs : List Itm) (j : Nat) : List Nat := (places Itm.isJ xs).filter fun o => decide (o < lowOf xs j)
def tripsAt (xs : List Itm) (j p : Nat) : List (Nat × Nat × Nat) := ((othersOf xs j).filter (tripB xs p)).map fun o => (j, p, o)
def tripsOf (xs : List Itm) (j : Nat) : List (Nat × Nat × Nat) := (fillsIn xs j).flatMap (tripsAt xs j)
def trips (xs : List Itm) : List (Nat × Nat × Nat) := (places Itm.isJ xs).flatMap (tripsOf xs)
def enc3 (t : Nat × Nat × Nat) : P := .tuple [.int (t.1 : Int), .int (t.2.1 : Int), .int (t.2.2 : Int)]
/-- the programs' data are in order: positive fills -/
def PSane (xs : List Itm) : Prop := ∀ s, Itm.fil s ∈ xs → 0 < s
theorem len_others (xs : List Itm) (j : Nat) : (othersOf xs j).length ≤ xs.length := Nat.le_trans (List.length_filter_le _ _) (len_places _ _)
theorem len_tripsAt (xs : List Itm) (j p : Nat) : (tripsAt xs j p).length ≤ xs.length := by
  unfold tripsAt
  rw [List.length_map]
  exact Nat.le_trans (List.length_filter_le _ _) (len_others _ _)
theorem len_flat2 {α β : Type} (f : α → List β) (b : Nat) : ∀ (l : List α), (∀ x ∈ l, (f x).length ≤ b) → (l.flatMap f).length ≤ b * l.length
  | [], _ => Nat.zero_le _
  | x :: l, h => by
    rw [List.flatMap_cons, List.length_append, List.length_cons, Nat.mul_succ]
    have h1 := h x List.mem_cons_self
    have h2 := len_flat2 f b l fun y hy => h y (List.mem_cons_of_mem _ hy)
    omega
theorem len_fillsIn {xs : List Itm} {j : Nat} (h : highOf xs j ≤ xs.length) : (fillsIn xs j).length ≤ xs.length := by
  unfold fillsIn
  refine Nat.le_trans (List.length_filter_le _ _) ?_
  rw [List.length_range']
  omega
theorem fil_at {xs : List Itm} {j p : Nat} (h : p ∈ fillsIn xs j) : xs[p]? = some (.fil (szAt xs p)) := by
  obtain ⟨_, h2⟩ := List.mem_filter.mp h
  unfold isFat at h2
  unfold szAt
  cases e : xs[p]? with
  | none => rw [e] at h2; cases h2
  | some x =>
    rw [e] at h2
    cases x with
    | fil s => rfl
    | _ => cases h2
def e3s (ts : List (Nat × Nat × Nat)) : List D := ts.map fun t => D.p (enc3 t)
theorem e3s_len (ts : List (Nat × Nat × Nat)) : (e3s ts).length = ts.length := by simp [e3s]
theorem in_range {xs : List Itm} {j : Nat} (hh : highOf xs j ≤ xs.length) {p : Nat} (hp : p ∈ List.range' (lowOf xs j + 1) (highOf xs j - (lowOf xs j + 1))) : p < xs.length := by
  rw [List.mem_range'_1] at hp
  omega
theorem high_le {xs : List Itm} (h : JSane xs) {j : Nat} (hj : j ∈ places Itm.isJ xs) : highOf xs j ≤ xs.length ∧ lowOf xs j ≤ xs.length := by
  have h1 := goal_le h hj
  have h2 := (List.getElem?_eq_some_iff.mp (jmp_at hj)).1
  unfold highOf lowOf
  omega
theorem jmp_other {xs : List Itm} {j o : Nat} (h : o ∈ othersOf xs j) : xs[o]? = some (.jmp (goal xs o) (shortOf xs o) (longOf xs o)) := jmp_at (List.mem_filter.mp h).1
theorem len_tripsOf {xs : List Itm} (hl : xs.length ≤ 200) {j : Nat} (hh : highOf xs j ≤ xs.length) : (tripsOf xs j).length ≤ 40000 := by
  unfold tripsOf
  have h1 := len_flat2 (tripsAt xs j) 200 (fillsIn xs j) fun p _ => Nat.le_trans (len_tripsAt xs j p) hl
  have h2 := len_fillsIn hh
  omega
theorem sh_3 (ts : List (Nat × Nat × Nat)) : SeqAt.shaped (.tuple (ts.map enc3)) = true ∧ SeqAt.shaped (.list (ts.map enc3)) = true := sh_tup enc3 1 (by decide) (fun t => ⟨rfl, Nat.le_refl _⟩) ts
end ZL

namespace ZL
open PySem PySem.Spec PyProof.Rows L2 Z
/-! ### triples -/
theorem places_range (xs : List Itm) : places Itm.isJ xs = (List.range xs.length).filter (isJat xs) := by
  have h : ∀ (ys zs : List Itm), ((ys.zipIdx zs.length).filter fun q => q.1.isJ).map Prod.snd = (List.range' zs.length ys.length).filter (isJat (zs ++ ys)) := by
    intro ys
    induction ys with
    | nil => intro zs; rfl
    | cons y ys ih =>
      intro zs
      have := ih (zs ++ [y])
      rw [List.length_append, List.length_singleton, List.append_assoc] at this
      rw [List.zipIdx_cons, List.length_cons, List.range'_succ]
      have e : isJat (zs ++ y :: ys) zs.length = y.isJ := by simp [isJat]
      have e2 : zs ++ ([y] ++ ys) = zs ++ y :: ys := by simp
      rw [e2] at this
      cases c : y.isJ with
      | true => rw [List.filter_cons_of_pos (by exact c), List.filter_cons_of_pos (by rw [e, c]), List.map_cons, this]
      | false => rw [List.filter_cons_of_neg (by simp [c]), List.filter_cons_of_neg (by simp [e, c]), this]
  have := h xs []
  simp only [List.length_nil, List.nil_append] at this
  unfold places
  rw [this, List.range_eq_range']
theorem others_range {xs : List Itm} {j : Nat} (h : lowOf xs j ≤ xs.length) : othersOf xs j = (List.range' 0 (lowOf xs j)).filter (isJat xs) := by
  unfold othersOf
  rw [places_range, List.filter_filter]
  have e : List.range xs.length = List.range' 0 (lowOf xs j) ++ List.range' (lowOf xs j) (xs.length - lowOf xs j) := by
    rw [List.range_eq_range']
    have := List.range'_append_1 (s := 0) (m := lowOf xs j) (n := xs.length - lowOf xs j)
    rw [Nat.zero_add] at this
    rw [this]
    congr 1
    omega
  rw [e, List.filter_append]
  have e2 : (List.range' (lowOf xs j) (xs.length - lowOf xs j)).filter (fun a => decide (a < lowOf xs j) && isJat xs a) = [] := by
    rw [List.filter_eq_nil_iff]
    intro a ha
    rw [List.mem_range'_1] at ha
    simp
    omega
  rw [e2, List.append_nil]
  apply List.filter_congr
  intro a ha
  rw [List.mem_range'_1] at ha
  rw [decide_eq_true (by omega), Bool.true_and]
theorem e_growth {xs : List Itm} {o g : Nat} {s l : Int} (M : Store) : F_growth [.p (Itm.jmp g s l).enc] M = .ok (.p (.int (l - s))) M := by
  apply fn_rt0
  simp [c_growth, Itm.enc]
theorem any_map_bool {α : Type} (f : α → Bool) (l : List α) : (l.map f).any id = l.any f := by
  induction l with
  | nil => rfl
  | cons x l ih => simp [ih]
theorem e_kept_away {xs : List Itm} (h : xs.length ≤ 1000) {o p : Nat} {s : Int} (hp : xs[p]? = some (.fil s)) (M : Store) :
    F_is_kept_away [.p (sk xs), .p (.int (o : Int)), .p (.int (p : Int))] M = .ok (.p (.bool (kept xs o p))) M := by
  apply fn_rt0
  obtain ⟨o1, ho⟩ : ∃ o1, o1 = o + 1 := ⟨_, rfl⟩
  have eo : (o : Int) + 1 = (o1 : Int) := by omega
  have es : szAt xs p = s := by simp [szAt, hp, Itm.sz]
  have ix1 : ∀ M, zIx (.p (Itm.fil s).enc) (.p (.int 1)) M = .ok (.p (.int s)) M := fun M => rfl
  unfold kept
  rw [es, ← ho]
  simp [c_is_kept_away, wipeS, eo, cutG_nn, -List.map_drop, -List.map_take]
  rw [compP_map (M := M) (fun x : Itm => D.p x.enc) (fun _ => true) (fun x : Itm => D.p (.bool (x.isF && decide (s ≤ x.sz))))]
  · rw [List.filter_eq_self.mpr fun _ _ => rfl]
    have hz : ((xs.take p).drop o1).length ≤ 16777216 := by simp; omega
    have hb : boolsOf (((xs.take p).drop o1).map fun x => D.p (.bool (x.isF && decide (s ≤ x.sz)))) = some (((xs.take p).drop o1).map fun x => x.isF && decide (s ≤ x.sz)) := by
      have := boolsOf_map (((xs.take p).drop o1).map fun x => x.isF && decide (s ≤ x.sz))
      rw [List.map_map] at this
      exact this
    have za : ∀ M, zAny [.p (.list (((xs.take p).drop o1).map fun x => PyData.bool (x.isF && decide (s ≤ x.sz))))] M = .ok (.p (.bool (((xs.take p).drop o1).any fun x => x.isF && decide (s ≤ x.sz)))) M := fun M => by
      unfold zAny
      simp only [lstv_p, List.map_map]
      rw [show (D.p ∘ fun x : Itm => PyData.bool (x.isF && decide (s ≤ x.sz))) = fun x => D.p (.bool (x.isF && decide (s ≤ x.sz))) from rfl, hb]
      simp only [any_map_bool]
    have hz2 : min p xs.length - o1 ≤ 16777216 := by simpa using hz
    simp [-List.map_drop, -List.map_take, hz2, za]
  · intro x _
    refine ⟨_, rfl, rfl, fun _ => ?_⟩
    cases hx : x.isF with
    | false => simp [hx]
    | true => simp [hx, ix_sz _ hx, ix_sk _ hp, ix1]
theorem e_is_triple {xs : List Itm} (h : xs.length ≤ 1000) (hps : PSane xs) {o p g : Nat} {s a b : Int} (hp : xs[p]? = some (.fil s)) (ho : xs[o]? = some (.jmp g a b)) (M : Store) :
    F_is_triple [.p (sk xs), .p (.int (p : Int)), .p (.int (o : Int))] M = .ok (.p (.bool (tripB xs p o))) M := by
  apply fn_rt0
  have es : szAt xs p = s := by simp [szAt, hp, Itm.sz]
  have e1 : longOf xs o = b := by simp [longOf, ho]
  have e2 : shortOf xs o = a := by simp [shortOf, ho]
  have hs : 0 < s := hps s (List.mem_of_getElem? hp)
  have ix1 : ∀ M, zIx (.p (Itm.fil s).enc) (.p (.int 1)) M = .ok (.p (.int s)) M := fun M => rfl
  have k := e_kept_away h hp (o := o)
  have gr := fun M => e_growth (xs := xs) (o := o) (g := g) (s := a) (l := b) M
  unfold tripB
  rw [es, e1, e2]
  cases hk : kept xs o p with
  | true => simp [c_is_triple, k, hk]
  | false => simp [c_is_triple, k, hk, ix_sk _ hp, ix_sk _ ho, ix1, gr, hs]
theorem b_trip1 {xs : List Itm} (h : JSane xs) (hps : PSane xs) {j p : Nat} (hj : j ∈ places Itm.isJ xs) (hp : p ∈ fillsIn xs j) (M : Store) {ts : List (Nat × Nat × Nat)} (hts : ts.length ≤ 16000000) {d3 d6 : Option D} :
    L_triples_1 [some (.p (sk xs)), some (.ref M.length), some (.p (.int (j : Int))), d3, some (.p (.list (pnats (othersOf xs j)))), some (.p (.int (p : Int))), d6, none] (M ++ [Ob.lst (e3s ts)]) =
      .nx [some (.p (sk xs)), some (.ref M.length), some (.p (.int (j : Int))), d3, some (.p (.list (pnats (othersOf xs j)))), some (.p (.int (p : Int))), d6, none] (M ++ [Ob.lst (e3s (ts ++ tripsAt xs j p))]) := by
  have hl := len_tripsAt xs j p
  have hxl := h.1
  simp [L_triples_1, wipeS, dp_pnats]
  rw [compP_map (M := M ++ [Ob.lst (e3s ts)]) (fun o : Nat => D.p (.int (o : Int))) (tripB xs p) (fun o : Nat => D.p (enc3 (j, p, o)))]
  · have hz : ((othersOf xs j).filter (tripB xs p)).length ≤ 16777216 := by
      unfold tripsAt at hl
      rw [List.length_map] at hl
      omega
    have hz2 : ts.length + ((othersOf xs j).filter (tripB xs p)).length ≤ 16777216 := by
      unfold tripsAt at hl
      rw [List.length_map] at hl
      omega
    simp [hz, hz2, e3s_len]
    simp [e3s, tripsAt]
  · intro o ho
    have it := e_is_triple h.1 hps (fil_at hp) (jmp_other ho) (o := o)
    refine ⟨_, rfl, ?_, fun _ => ?_⟩
    · simp [it]
    · simp [mkTup, enc3]
theorem tr_cons (x y z : P) : PyData.tuple [x, y, z] = PyData.tuple [x, y, z] := rfl
theorem b_trip2 {xs : List Itm} (h : JSane xs) (hps : PSane xs) (hlen : xs.length ≤ 200) {j : Nat} (hj : j ∈ places Itm.isJ xs) (M : Store) {ts : List (Nat × Nat × Nat)} (hts : ts.length ≤ 8000000) {d3 d4 d5 : Option D} :
    Sat (fun out => ∃ d3 d4 d5, out = .nx [some (.p (sk xs)), some (.ref M.length), some (.p (.int (j : Int))), d3, d4, d5, none, none] (M ++ [Ob.lst (e3s (ts ++ tripsOf xs j))]))
    (L_triples_2 [some (.p (sk xs)), some (.ref M.length), some (.p (.int (j : Int))), d3, d4, d5, none, none] (M ++ [Ob.lst (e3s ts)])) := by
  obtain ⟨hh, hlo⟩ := high_le h hj
  have hx := jmp_at hj
  have hg := goal_le h hj
  have iw : ∀ M, F_in_way [.p (sk xs), .p (.int (j : Int))] M = .ok (.p (.tuple (pnats (List.range' (lowOf xs j + 1) (highOf xs j - (lowOf xs j + 1)))))) M := fun M => by
    rw [e_in_way hx h.1 (by omega), show min (j : Int) (goal xs j) + 1 = ((lowOf xs j + 1 : Nat) : Int) by unfold lowOf; omega, show max (j : Int) (goal xs j) = ((highOf xs j : Nat) : Int) by unfold highOf; omega, rgP_nat]
  have aw : ∀ M, F_ahead_of_way [.p (sk xs), .p (.int (j : Int))] M = .ok (.p (.tuple (pnats (List.range' 0 (lowOf xs j))))) M := fun M => by
    rw [e_ahead hx h.1 (by omega), show min (j : Int) (goal xs j) = ((lowOf xs j : Nat) : Int) by unfold lowOf; omega]
    have := rgP_nat 0 (lowOf xs j)
    simp at this
    rw [this]
  have c1 : ∀ (Q : Store) a1 a3 a4 a5, compP (tgN 6) (zt (z2 zEq (z2 zIx (z2 zIx (zv 0) (zv 6)) (zk (.int 0))) (zk (.str "fill")))) (zv 6) [some (.p (sk xs)), a1, some (.p (.int (j : Int))), a3, a4, a5, none, none] ((List.range' (lowOf xs j + 1) (highOf xs j - (lowOf xs j + 1))).map fun p : Nat => D.p (.int (p : Int))) Q = .ok ((pnats (fillsIn xs j)).map .p) Q := fun Q a1 a3 a4 a5 => by
    rw [compP_map (M := Q) (fun p : Nat => D.p (.int (p : Int))) (isFat xs) (fun p : Nat => D.p (.int (p : Int))), dp_pnats]
    · rfl
    · intro p hp
      have hy := List.getElem?_eq_getElem (in_range hh hp)
      refine ⟨_, rfl, ?_, fun _ => rfl⟩
      simp [isFat, ix_sk _ hy, hy]
  have c2 : ∀ (Q : Store) a1 a3 a4 a5, compP (tgN 6) (zt (z2 zEq (z2 zIx (z2 zIx (zv 0) (zv 6)) (zk (.int 0))) (zk (.str "jump")))) (zv 6) [some (.p (sk xs)), a1, some (.p (.int (j : Int))), a3, a4, a5, none, none] ((List.range' 0 (lowOf xs j)).map fun p : Nat => D.p (.int (p : Int))) Q = .ok ((pnats (othersOf xs j)).map .p) Q := fun Q a1 a3 a4 a5 => by
    rw [others_range hlo, compP_map (M := Q) (fun p : Nat => D.p (.int (p : Int))) (isJat xs) (fun p : Nat => D.p (.int (p : Int))), dp_pnats]
    intro p hp
    have hy := List.getElem?_eq_getElem (show p < xs.length by rw [List.mem_range'_1] at hp; omega)
    refine ⟨_, rfl, ?_, fun _ => rfl⟩
    simp [isJat, ix_sk _ hy, hy]
  have z1 : (fillsIn xs j).length ≤ 16777216 := by have := len_fillsIn hh; omega
  have z2' : (othersOf xs j).length ≤ 16777216 := by have := len_others xs j; omega
  simp [L_triples_2, iw, aw, wipeS, dp_pnats, c1, c2, z1, z2']
  refine forP_last _ _ (fun done sl M' => ∃ d5, sl = [some (.p (sk xs)), some (.ref M.length), some (.p (.int (j : Int))), some (.p (.list (pnats (fillsIn xs j)))), some (.p (.list (pnats (othersOf xs j)))), d5, none, none] ∧ M' = M ++ [Ob.lst (e3s (ts ++ done.flatMap (tripsAt xs j)))])
    ⟨d5, rfl, by simp⟩ ?_ ?_
  · rintro done p rest sl M' e ⟨d5, rfl, rfl⟩
    have hp : p ∈ fillsIn xs j := by rw [e]; simp
    have hd : (done.flatMap (tripsAt xs j)).length ≤ 40000 := by
      have h1 := len_flat2 (tripsAt xs j) 200 done fun p _ => Nat.le_trans (len_tripsAt xs j p) hlen
      have h2 := len_fillsIn hh
      rw [e] at h2
      simp at h2
      omega
    exact ⟨_, rfl, _, _, b_trip1 h hps hj hp M (by rw [List.length_append]; omega), some (.p (.int p)), rfl, by simp⟩
  · rintro sl M' ⟨d5, rfl, rfl⟩
    exact ⟨_, _, _, rfl⟩
theorem e_triples {xs : List Itm} (h : JSane xs) (hps : PSane xs) (hlen : xs.length ≤ 200) (M : Store) : F_triples [.p (sk xs)] M = .ok (.p (.tuple ((trips xs).map enc3))) M := by
  apply fn_satN
  simp [c_triples, e_jumps_of h.1, dp_pnats]
  refine forP_seq _ _ (fun done sl M' => ∃ d2 d3 d4 d5, sl = [some (.p (sk xs)), some (.ref M.length), d2, d3, d4, d5, none, none] ∧ M' = M ++ [Ob.lst (e3s (done.flatMap (tripsOf xs)))])
    ⟨none, none, none, none, rfl, rfl⟩ ?_ ?_
  · rintro done j rest sl M' e ⟨d2, d3, d4, d5, rfl, rfl⟩
    have hj : j ∈ places Itm.isJ xs := by rw [e]; simp
    have hd : (done.flatMap (tripsOf xs)).length ≤ 8000000 := by
      have h1 := len_flat2 (tripsOf xs) 40000 done fun i hi => by
        have hi' : i ∈ places Itm.isJ xs := by rw [e]; simp [hi]
        exact len_tripsOf hlen (high_le h hi').1
      have h2 := len_places Itm.isJ xs
      rw [e] at h2
      simp at h2
      omega
    obtain ⟨d3', d4', d5', e2⟩ := b_trip2 h hps hlen hj M hd (d3 := d3) (d4 := d4) (d5 := d5)
    exact ⟨_, rfl, _, _, e2, some (.p (.int j)), d3', d4', d5', rfl, by simp⟩
  · rintro sl M' ⟨d2, d3, d4, d5, rfl, rfl⟩
    have t : ∀ Q, zTuple [.ref M.length] (M ++ Ob.lst (e3s (trips xs)) :: Q) = .ok (.p (.tuple ((trips xs).map enc3))) (M ++ Ob.lst (e3s (trips xs)) :: Q) := fun Q => by
      simp [zTuple, e3s]
    have t0 := t []
    unfold trips at t0 ⊢
    simp [t0, Sat]
end ZL

namespace ZL
open PySem PySem.Spec PyProof.Rows L2 Z
/-! the law's _law_triples -/
theorem app_3 {M : Store} {ts : List (Nat × Nat × Nat)} {t : Nat × Nat × Nat} (h : ts.length ≤ 16000000) : zAppend (.ref M.length) [.p (enc3 t)] (M ++ [Ob.lst (e3s ts)]) = .ok (.p .none) (M ++ [Ob.lst (e3s (ts ++ [t]))]) := by
  have hzt : ts.length < 16777216 := by omega
  rw [zAppend_e]
  simp [e3s_len, hzt]
  simp [e3s]
theorem cmp_enc (x : Itm) : Cmp x.enc := ⟨lay_itm.can x, Nat.le_trans (lay_itm.dep x) (by decide)⟩
theorem b_t1 {xs : List Itm} (h : xs.length ≤ 1000) (hps : PSane xs) {j p o g : Nat} {s a b : Int} (hp : xs[p]? = some (.fil s)) (ho : xs[o]? = some (.jmp g a b)) (M : Store) {ts : List (Nat × Nat × Nat)} (hts : ts.length ≤ 16000000) {d3 d4 d7 d8 : Option D} :
    Sat (fun out => ∃ d7 d8, out = .nx [some (.p (sk xs)), some (.ref M.length), some (.p (.int (j : Int))), d3, d4, some (.p (.int (p : Int))), some (.p (.int (o : Int))), d7, d8, none] (M ++ [Ob.lst (e3s (ts ++ if tripB xs p o then [(j, p, o)] else []))]))
    (L__law_triples_1 [some (.p (sk xs)), some (.ref M.length), some (.p (.int (j : Int))), d3, d4, some (.p (.int (p : Int))), some (.p (.int (o : Int))), d7, d8, none] (M ++ [Ob.lst (e3s ts)])) := by
  refine sat_any fun Φ hΦ => ?_
  have es : szAt xs p = s := by simp [szAt, hp, Itm.sz]
  have e1 : longOf xs o = b := by simp [longOf, ho]
  have e2 : shortOf xs o = a := by simp [shortOf, ho]
  have hs : 0 < s := hps s (List.mem_of_getElem? hp)
  have ix1 : ∀ M, zIx (.p (Itm.fil s).enc) (.p (.int 1)) M = .ok (.p (.int s)) M := fun M => rfl
  have ix2 : ∀ M, zIx (.p (Itm.jmp g a b).enc) (.p (.int 2)) M = .ok (.p (.int a)) M := fun M => rfl
  have ix3 : ∀ M, zIx (.p (Itm.jmp g a b).enc) (.p (.int 3)) M = .ok (.p (.int b)) M := fun M => rfl
  obtain ⟨bt, hbt⟩ : ∃ bt, bt = (((xs.take p).drop (o + 1)).filter fun x => x.isF && decide (s ≤ x.sz)) := ⟨_, rfl⟩
  have hk : kept xs o p = !decide (bt = []) := by
    unfold kept
    rw [es, hbt, Bool.eq_iff_iff, List.any_eq_true]
    simp
  have hz : bt.length ≤ 1000 := by
    rw [hbt]
    refine Nat.le_trans (List.length_filter_le _ _) ?_
    simp
    omega
  have eo : ((o : Int) + 1) = ((o + 1 : Nat) : Int) := by omega
  have sl : ∀ M, zSl (.p (sk xs)) (some ((o : Int) + 1)) (some (p : Int)) M = .ok (.p (sk ((xs.take p).drop (o + 1)))) M := fun M => by rw [eo, sl_sk, cutG_nn]
  have co : ∀ (Q : Store), compP (tgN 9) (ztand (zt (z2 zEq (z2 zIx (zv 9) (zk (.int 0))) (zk (.str "fill")))) (zt (z2 zGe (z2 zIx (zv 9) (zk (.int 1))) (zv 7)))) (zv 9)
      [some (.p (sk xs)), some (.ref M.length), some (.p (.int (j : Int))), d3, d4, some (.p (.int (p : Int))), some (.p (.int (o : Int))), some (.p (.int s)), d8, none] (((xs.take p).drop (o + 1)).map fun x => D.p x.enc) Q = .ok ((bt.map Itm.enc).map .p) Q := fun Q => by
    rw [compP_map (M := Q) (fun x : Itm => D.p x.enc) (fun x => x.isF && decide (s ≤ x.sz)) (fun x : Itm => D.p x.enc), dp_enc, hbt]
    intro x _
    refine ⟨_, rfl, ?_, fun _ => rfl⟩
    cases hx : x.isF with
    | false => simp [hx]
    | true => simp [hx, ix_sz _ hx]
  have fz : ∀ Q, frzl ((bt.map Itm.enc).map .p) Q = .ok (.p (.list (bt.map Itm.enc))) Q := fun Q => by rw [frzl_map, if_pos (by rw [List.length_map, sizeLine_val]; omega)]
  have eq0 := eq_nil_l (xs := bt.map Itm.enc) fun x hx => by
    obtain ⟨y, _, rfl⟩ := List.mem_map.mp hx
    exact cmp_enc y
  have hbn : decide (bt.map Itm.enc = []) = decide (bt = []) := by
    rw [decide_eq_decide]
    exact List.map_eq_nil_iff
  rw [hbn] at eq0
  have ap := app_3 (M := M) (ts := ts) (t := (j, p, o)) hts
  have mk : PyData.tuple [.int (j : Int), .int (p : Int), .int (o : Int)] = enc3 (j, p, o) := rfl
  obtain ⟨seg, hseg⟩ : ∃ seg, seg = (xs.take p).drop (o + 1) := ⟨_, rfl⟩
  rw [← hseg] at sl co
  obtain ⟨bl, hbl⟩ : ∃ bl, bl = bt.map Itm.enc := ⟨_, rfl⟩
  rw [← hbl] at co fz eq0
  have it : ∀ Q, itemsOf (.p (sk seg)) Q = .ok (seg.map fun x => .p x.enc) Q := fun Q => items_sk seg Q
  unfold tripB at hΦ
  rw [es, e1, e2, hk] at hΦ
  by_cases hb : bt = []
  · have hd : decide (bt = []) = true := decide_eq_true hb
    rw [hd] at eq0 hΦ
    by_cases hm : (b - a) % s = 0
    · have hn : ¬ (0 < (b - a) % s) := by omega
      simp [hm] at hΦ
      simp [-zAppend_e, -sl_sk, -frzl_map, L__law_triples_1, ix_sk _ hp, ix_sk _ ho, ix1, ix2, ix3, sl, wipeS, co, fz, mkLstF, eq0, zInt, hs, hm]
      exact hΦ _ _ _ rfl
    · have hn : 0 < (b - a) % s := by
        have := Int.emod_nonneg (b - a) (b := s) (by omega)
        omega
      simp [hm] at hΦ
      simp [-zAppend_e, -sl_sk, -frzl_map, L__law_triples_1, ix_sk _ hp, ix_sk _ ho, ix1, ix2, ix3, sl, wipeS, co, fz, mkLstF, eq0, zInt, hs, hn, mkTup, mk, ap]
      exact hΦ _ _ _ rfl
  · have hd : decide (bt = []) = false := decide_eq_false hb
    rw [hd] at eq0 hΦ
    simp at hΦ
    simp [-zAppend_e, -sl_sk, -frzl_map, L__law_triples_1, ix_sk _ hp, ix_sk _ ho, ix1, ix2, ix3, sl, wipeS, co, fz, mkLstF, eq0, zInt, hs]
    exact hΦ _ _ _ rfl
end ZL

namespace ZL
open PySem PySem.Spec PyProof.Rows L2 Z
theorem filt_snoc {α β : Type} (p : α → Bool) (f : α → β) (a : List α) (x : α) : ((a ++ [x]).filter p).map f = (a.filter p).map f ++ if p x then [f x] else [] := by
  cases h : p x <;> simp [h]
theorem b_t2 {xs : List Itm} (h : JSane xs) (hps : PSane xs) (hlen : xs.length ≤ 200) {j p : Nat} (hj : j ∈ places Itm.isJ xs) (hp : p ∈ fillsIn xs j) (M : Store) {ts : List (Nat × Nat × Nat)} (hts : ts.length ≤ 15000000) {d4 d6 d7 d8 : Option D} :
    Sat (fun out => ∃ d6 d7 d8, out = .nx [some (.p (sk xs)), some (.ref M.length), some (.p (.int (j : Int))), some (.p (.int (lowOf xs j : Int))), d4, some (.p (.int (p : Int))), d6, d7, d8, none] (M ++ [Ob.lst (e3s (ts ++ tripsAt xs j p))]))
    (L__law_triples_2 [some (.p (sk xs)), some (.ref M.length), some (.p (.int (j : Int))), some (.p (.int (lowOf xs j : Int))), d4, some (.p (.int (p : Int))), d6, d7, d8, none] (M ++ [Ob.lst (e3s ts)])) := by
  refine sat_any fun Φ hΦ => ?_
  obtain ⟨lo, hlo⟩ : ∃ lo, lo = lowOf xs j := ⟨_, rfl⟩
  rw [← hlo] at hΦ ⊢
  have lj := e_law_jumps h.1
  have co : ∀ (Q : Store) a1 a2 a4 a5 a6 a7 a8, compP (tgN 9) (zt (z2 zLt (zv 9) (zv 3))) (zv 9) [some (.p (sk xs)), a1, a2, some (.p (.int (lo : Int))), a4, a5, a6, a7, a8, none] ((pnats (places Itm.isJ xs)).map .p) Q = .ok ((pnats (othersOf xs j)).map .p) Q := fun Q a1 a2 a4 a5 a6 a7 a8 => by
    rw [dp_pnats, compP_map (M := Q) (fun o : Nat => D.p (.int (o : Int))) (fun o => decide (o < lo)) (fun o : Nat => D.p (.int (o : Int))), dp_pnats]
    · unfold othersOf
      rw [hlo]
    · intro o _
      refine ⟨_, rfl, ?_, fun _ => rfl⟩
      simp
  have lo' := len_others xs j
  have fz : ∀ Q, frzl ((pnats (othersOf xs j)).map .p) Q = .ok (.p (.list (pnats (othersOf xs j)))) Q := fun Q => by rw [frzl_map, if_pos (by simp; omega)]
  have it : ∀ js Q, itemsOf (.p (.list (pnats js))) Q = .ok ((pnats js).map .p) Q := fun js Q => rfl
  obtain ⟨os, hos⟩ : ∃ os, os = othersOf xs j := ⟨_, rfl⟩
  rw [← hos] at co fz
  simp [-itemsOf_l, -frzl_map, L__law_triples_2, lj, it, wipeS, co, fz]
  simp only [dp_pnats]
  refine forP_last _ _ (fun done sl M' => ∃ d6 d7 d8, sl = [some (.p (sk xs)), some (.ref M.length), some (.p (.int (j : Int))), some (.p (.int (lo : Int))), d4, some (.p (.int (p : Int))), d6, d7, d8, none] ∧ M' = M ++ [Ob.lst (e3s (ts ++ (done.filter (tripB xs p)).map fun o => (j, p, o)))])
    ⟨d6, d7, d8, rfl, by simp⟩ ?_ ?_
  · rintro done o rest sl M' e ⟨d6, d7, d8, rfl, rfl⟩
    have ho : o ∈ othersOf xs j := by rw [← hos, e]; simp
    have hd : ((done.filter (tripB xs p)).map fun o => (j, p, o)).length ≤ 200 := by
      rw [List.length_map]
      refine Nat.le_trans (List.length_filter_le _ _) ?_
      rw [← hos, e] at lo'
      simp at lo'
      omega
    obtain ⟨d7', d8', e2⟩ := b_t1 h.1 hps (j := j) (fil_at hp) (jmp_other ho) M (ts := ts ++ (done.filter (tripB xs p)).map fun o => (j, p, o)) (by rw [List.length_append]; omega) (d3 := some (.p (.int (lo : Int)))) (d4 := d4) (d7 := d7) (d8 := d8)
    refine ⟨_, rfl, _, _, e2, some (.p (.int o)), d7', d8', rfl, ?_⟩
    rw [filt_snoc, List.append_assoc]
  · rintro sl M' ⟨d6, d7, d8, rfl, rfl⟩
    refine hΦ _ ⟨d6, d7, d8, ?_⟩
    rw [hos]
    rfl
theorem b_t3 {xs : List Itm} (h : JSane xs) (hps : PSane xs) (hlen : xs.length ≤ 200) {j : Nat} (hj : j ∈ places Itm.isJ xs) (M : Store) {ts : List (Nat × Nat × Nat)} (hts : ts.length ≤ 8000000) {d3 d4 d5 d6 d7 d8 : Option D} :
    Sat (fun out => ∃ d3 d4 d5 d6 d7 d8, out = .nx [some (.p (sk xs)), some (.ref M.length), some (.p (.int (j : Int))), d3, d4, d5, d6, d7, d8, none] (M ++ [Ob.lst (e3s (ts ++ tripsOf xs j))]))
    (L__law_triples_3 [some (.p (sk xs)), some (.ref M.length), some (.p (.int (j : Int))), d3, d4, d5, d6, d7, d8, none] (M ++ [Ob.lst (e3s ts)])) := by
  refine sat_any fun Φ hΦ => ?_
  obtain ⟨hh, hlo⟩ := high_le h hj
  have hx2 := jmp_at hj
  obtain ⟨lo, hlo'⟩ : ∃ lo, lo = lowOf xs j := ⟨_, rfl⟩
  obtain ⟨hi, hhi⟩ : ∃ hi, hi = highOf xs j := ⟨_, rfl⟩
  obtain ⟨l1, hl1⟩ : ∃ l1, l1 = lo + 1 := ⟨_, rfl⟩
  have em : ∀ M, zMin [.p (.int (j : Int)), .p (.int (goal xs j : Int))] M = .ok (.p (.int (lo : Int))) M := fun M => by
    rw [zMin_2, show min (j : Int) (goal xs j) = (lo : Int) by rw [hlo']; unfold lowOf; omega]
  have eM : ∀ M, zMax [.p (.int (j : Int)), .p (.int (goal xs j : Int))] M = .ok (.p (.int (hi : Int))) M := fun M => by
    rw [zMax_2, show max (j : Int) (goal xs j) = (hi : Int) by rw [hhi]; unfold highOf; omega]
  have em1 : (lo : Int) + 1 = (l1 : Int) := by omega
  have rg : ∀ M, rgo2 (l1 : Int) (hi : Int) M = .ok ((List.range' l1 (hi - l1)).map fun p : Nat => D.p (.int (p : Int))) M := fun M => rgo2_nat (by omega) (by omega) M
  have hfl : fillsIn xs j = (List.range' l1 (hi - l1)).filter (isFat xs) := by unfold fillsIn; rw [hl1, hlo', hhi]
  have co : ∀ (Q : Store) a1 a2 a3 a4 a5 a6 a7 a8, compP (tgN 9) (zt (z2 zEq (z2 zIx (z2 zIx (zv 0) (zv 9)) (zk (.int 0))) (zk (.str "fill")))) (zv 9) [some (.p (sk xs)), a1, a2, a3, a4, a5, a6, a7, a8, none] ((List.range' l1 (hi - l1)).map fun p : Nat => D.p (.int (p : Int))) Q = .ok ((pnats (fillsIn xs j)).map .p) Q := fun Q a1 a2 a3 a4 a5 a6 a7 a8 => by
    rw [hfl, compP_map (M := Q) (fun p : Nat => D.p (.int (p : Int))) (isFat xs) (fun p : Nat => D.p (.int (p : Int))), dp_pnats]
    intro p hp
    have hy := List.getElem?_eq_getElem (show p < xs.length by rw [List.mem_range'_1] at hp; omega)
    refine ⟨_, rfl, ?_, fun _ => rfl⟩
    simp [isFat, ix_sk _ hy, hy]
  have hfl2 := len_fillsIn hh
  have fz : ∀ Q, frzl ((pnats (fillsIn xs j)).map .p) Q = .ok (.p (.list (pnats (fillsIn xs j)))) Q := fun Q => by rw [frzl_map, if_pos (by simp; omega)]
  have it : ∀ js Q, itemsOf (.p (.list (pnats js))) Q = .ok ((pnats js).map .p) Q := fun js Q => rfl
  obtain ⟨fl, hfls⟩ : ∃ fl, fl = fillsIn xs j := ⟨_, rfl⟩
  rw [← hfls] at co fz
  simp [-zMin_2, -zMax_2, -itemsOf_l, -frzl_map, L__law_triples_3, ix_sk _ hx2, Itm.enc, em, eM, em1, rg, wipeS, co, fz, it]
  simp only [dp_pnats]
  rw [hlo']
  refine forP_last _ _ (fun done sl M' => ∃ d5 d6 d7 d8, sl = [some (.p (sk xs)), some (.ref M.length), some (.p (.int (j : Int))), some (.p (.int (lowOf xs j : Int))), some (.p (.int (hi : Int))), d5, d6, d7, d8, none] ∧ M' = M ++ [Ob.lst (e3s (ts ++ done.flatMap (tripsAt xs j)))])
    ⟨d5, d6, d7, d8, rfl, by simp⟩ ?_ ?_
  · rintro done p rest sl M' e ⟨d5, d6, d7, d8, rfl, rfl⟩
    have hp : p ∈ fillsIn xs j := by rw [← hfls, e]; simp
    have hd : (done.flatMap (tripsAt xs j)).length ≤ 40000 := by
      have h1 := len_flat2 (tripsAt xs j) 200 done fun p _ => Nat.le_trans (len_tripsAt xs j p) hlen
      rw [← hfls, e] at hfl2
      simp at hfl2
      omega
    obtain ⟨d6', d7', d8', e2⟩ := b_t2 h hps hlen hj hp M (ts := ts ++ done.flatMap (tripsAt xs j)) (by rw [List.length_append]; omega) (d4 := some (.p (.int (hi : Int)))) (d6 := d6) (d7 := d7) (d8 := d8)
    exact ⟨_, rfl, _, _, e2, some (.p (.int p)), d6', d7', d8', rfl, by simp⟩
  · rintro sl M' ⟨d5, d6, d7, d8, rfl, rfl⟩
    refine hΦ _ ⟨some (.p (.int (lowOf xs j : Int))), some (.p (.int (hi : Int))), d5, d6, d7, d8, ?_⟩
    rw [hfls]
    rfl
theorem e_law_triples {xs : List Itm} (h : JSane xs) (hps : PSane xs) (hlen : xs.length ≤ 200) (M : Store) : F__law_triples [.p (sk xs)] M = .ok (.p (.list ((trips xs).map enc3))) M := by
  apply fn_satN
  have lj := e_law_jumps h.1
  have it : ∀ js Q, itemsOf (.p (.list (pnats js))) Q = .ok ((pnats js).map .p) Q := fun js Q => rfl
  simp [-itemsOf_l, c__law_triples, lj, it]
  simp only [dp_pnats]
  have cnt : ∀ done rest j, places Itm.isJ xs = done ++ j :: rest → (done.flatMap (tripsOf xs)).length ≤ 8000000 := fun done rest j e => by
    have h1 := len_flat2 (tripsOf xs) 40000 done fun i hi => by
      have hi' : i ∈ places Itm.isJ xs := by rw [e]; simp [hi]
      exact len_tripsOf hlen (high_le h hi').1
    have h2 := len_places Itm.isJ xs
    rw [e] at h2
    simp at h2
    omega
  refine forP_seq _ _ (fun done sl M' => ∃ d2 d3 d4 d5 d6 d7 d8, sl = [some (.p (sk xs)), some (.ref M.length), d2, d3, d4, d5, d6, d7, d8, none] ∧ M' = M ++ [Ob.lst (e3s (done.flatMap (tripsOf xs)))])
    ⟨none, none, none, none, none, none, none, rfl, rfl⟩ ?_ ?_
  · rintro done j rest sl M' e ⟨d2, d3, d4, d5, d6, d7, d8, rfl, rfl⟩
    have hj : j ∈ places Itm.isJ xs := by rw [e]; simp
    obtain ⟨d3', d4', d5', d6', d7', d8', e2⟩ := b_t3 h hps hlen hj M (cnt _ _ _ e) (d3 := d3) (d4 := d4) (d5 := d5) (d6 := d6) (d7 := d7) (d8 := d8)
    exact ⟨_, rfl, _, _, e2, some (.p (.int j)), d3', d4', d5', d6', d7', d8', rfl, by simp⟩
  · rintro sl M' ⟨d2, d3, d4, d5, d6, d7, d8, rfl, rfl⟩
    have e : e3s ((places Itm.isJ xs).flatMap (tripsOf xs)) = ((trips xs).map enc3).map .p := by
      unfold e3s trips
      rw [List.map_map]
      rfl
    rw [e]
    have fz := zfreeze_app0 M [] ((trips xs).map enc3)
    simp [-List.map_map, fz, Sat]
end ZL

namespace ZL
open PySem PySem.Spec PyProof.Rows L2 Z
theorem fold_max : ∀ (ns : List Int) (n : Int), n ≤ ns.foldl max n ∧ (∀ x ∈ ns, x ≤ ns.foldl max n) ∧ (ns.foldl max n = n ∨ ns.foldl max n ∈ ns)
  | [], n => ⟨Int.le_refl _, fun x hx => (by cases hx), .inl rfl⟩
  | y :: ns, n => by
    obtain ⟨h1, h2, h3⟩ := fold_max ns (max n y)
    rw [List.foldl_cons]
    refine ⟨by omega, fun x hx => ?_, ?_⟩
    · rcases List.mem_cons.mp hx with rfl | hx
      · omega
      · exact h2 x hx
    · rcases h3 with e | e
      · rw [e]
        by_cases c : n ≤ y
        · rw [Int.max_eq_right c]; exact .inr (List.mem_cons_self ..)
        · rw [Int.max_eq_left (by omega)]; exact .inl rfl
      · exact .inr (List.mem_cons_of_mem _ e)
theorem mem_fillsOf {l : List Itm} {s : Int} : s ∈ fillsOf l ↔ Itm.fil s ∈ l := by
  unfold fillsOf
  rw [List.mem_map]
  constructor
  · rintro ⟨x, hx, rfl⟩
    obtain ⟨h1, h2⟩ := List.mem_filter.mp hx
    cases x with
    | fil s => exact h1
    | lab => cases h2
    | jmp g a b => cases h2
  · intro h
    exact ⟨.fil s, List.mem_filter.mpr ⟨h, rfl⟩, rfl⟩
theorem topF_one (l : List Itm) : 1 ≤ topF l := (fold_max _ _).1
theorem topF_ge {l : List Itm} {s : Int} (h : Itm.fil s ∈ l) : s ≤ topF l := (fold_max _ _).2.1 s (mem_fillsOf.mpr h)
theorem topF_in (l : List Itm) : topF l = 1 ∨ Itm.fil (topF l) ∈ l := (fold_max _ _).2.2.imp id fun h => mem_fillsOf.mp h
theorem pow_mod {a m g : Int} (ha : a ∈ P2) (hm : isP m) (h : a ≤ m) (h0 : g % a ≠ 0) : g % m ≠ 0 := by
  have ha := isP2 ha
  rcases ha with rfl | rfl | rfl | rfl | rfl | rfl <;> rcases hm with rfl | rfl | rfl | rfl | rfl | rfl | rfl <;> omega
theorem seg_get {xs : List Itm} {a b i : Nat} : (seg xs a b)[i]? = if a + i < b then xs[a + i]? else none := by
  unfold seg
  rw [List.getElem?_drop, List.getElem?_take]
theorem kept_iff {xs : List Itm} {o p : Nat} : kept xs o p = true ↔ ∃ s, Itm.fil s ∈ seg xs (o + 1) p ∧ szAt xs p ≤ s := by
  unfold kept
  rw [List.any_eq_true]
  constructor
  · rintro ⟨x, hx, h⟩
    simp at h
    cases x with
    | fil s => exact ⟨s, hx, h.2⟩
    | lab => simp [Itm.isF] at h
    | jmp g a b => simp [Itm.isF] at h
  · rintro ⟨s, hs, h⟩
    exact ⟨.fil s, hs, by simp [Itm.isF, Itm.sz, h]⟩
theorem mem_seg {xs : List Itm} {a b : Nat} {x : Itm} : x ∈ seg xs a b ↔ ∃ i, a ≤ i ∧ i < b ∧ xs[i]? = some x := by
  rw [List.mem_iff_getElem?]
  constructor
  · rintro ⟨i, h⟩
    rw [seg_get] at h
    split at h
    · rename_i c
      exact ⟨a + i, by omega, c, h⟩
    · cases h
  · rintro ⟨i, h1, h2, h3⟩
    refine ⟨i - a, ?_⟩
    rw [seg_get, show a + (i - a) = i by omega, if_pos h2, h3]
theorem trip_iff {xs : List Itm} (h : FrOk xs) (hgl : GL xs) {mate at_ : Nat} (hm : mate ∈ places Itm.isJ xs) (ha : at_ ∈ places Itm.isJ xs) (hlo : mate < lowA xs at_) :
    (∃ p ∈ fillsIn xs at_, tripB xs p mate = true) ↔ topF (seg xs (mate + 1) (lowA xs at_)) < topF (seg xs (lowA xs at_ + 1) (highA xs at_)) ∧ growA xs mate % topF (seg xs (lowA xs at_ + 1) (highA xs at_)) ≠ 0 := by
  obtain ⟨h1, h2, h3⟩ := h
  have xa := jmp_at ha
  have xg := hgl at_ ha
  obtain ⟨lo, hlo'⟩ : ∃ lo, lo = lowA xs at_ := ⟨_, rfl⟩
  obtain ⟨hi, hhi⟩ : ∃ hi, hi = highA xs at_ := ⟨_, rfl⟩
  have nlo : ∀ s, xs[lo]? ≠ some (.fil s) := fun s e => by
    have : lo = at_ ∨ lo = goal xs at_ := by rw [hlo']; unfold lowA; omega
    rcases this with r | r
    · rw [r, xa] at e; cases e
    · rw [r, xg] at e; cases e
  have lf : lowOf xs at_ = lo := by rw [hlo']; rfl
  have hf : highOf xs at_ = hi := by rw [hhi]; rfl
  rw [← hlo'] at hlo
  rw [← hlo', ← hhi]
  have p2 := topF_isP _ _ rfl (seg_filP h2 (lo + 1) hi)
  have memF : ∀ p, p ∈ fillsIn xs at_ ↔ lo < p ∧ p < hi ∧ ∃ s, xs[p]? = some (.fil s) := fun p => by
    unfold fillsIn
    rw [List.mem_filter, List.mem_range'_1, lf, hf]
    unfold isFat
    constructor
    · rintro ⟨⟨a, b⟩, c⟩
      cases hx : xs[p]? with
      | none => rw [hx] at c; cases c
      | some x =>
        rw [hx] at c
        cases x with
        | fil s => exact ⟨by omega, by omega, s, rfl⟩
        | lab => cases c
        | jmp g a b => cases c
    · rintro ⟨a, b, s, e⟩
      rw [e]
      exact ⟨by omega, rfl⟩
  have tb : ∀ p s, xs[p]? = some (.fil s) → (tripB xs p mate = true ↔ (¬ ∃ r, Itm.fil r ∈ seg xs (mate + 1) p ∧ s ≤ r) ∧ growA xs mate % s ≠ 0) := fun p s e => by
    have es : szAt xs p = s := by simp [szAt, e, Itm.sz]
    unfold tripB
    rw [Bool.and_eq_true, decide_eq_true_eq, es]
    rw [← es, ← kept_iff, es]
    unfold growA
    simp
  constructor
  · rintro ⟨p, hp, ht⟩
    obtain ⟨q1, q2, s, e⟩ := (memF p).mp hp
    obtain ⟨t1, t2⟩ := (tb p s e).mp ht
    have hs : s ∈ P2 := h2 s (List.mem_of_getElem? e)
    have hge : s ≤ topF (seg xs (lo + 1) hi) := topF_ge (mem_seg.mpr ⟨p, by omega, q2, e⟩)
    refine ⟨?_, pow_mod hs p2 hge t2⟩
    rcases topF_in (seg xs (mate + 1) lo) with r | r
    · have := p2_in hs; omega
    · obtain ⟨i, i1, i2, i3⟩ := mem_seg.mp r
      have : ¬ s ≤ topF (seg xs (mate + 1) lo) := fun z => t1 ⟨_, mem_seg.mpr ⟨i, i1, by omega, i3⟩, z⟩
      omega
  · rintro ⟨t1, t2⟩
    have one := topF_one (seg xs (mate + 1) lo)
    obtain ⟨M, hM⟩ : ∃ M, M = topF (seg xs (lo + 1) hi) := ⟨_, rfl⟩
    rw [← hM] at t1 t2
    have hin : Itm.fil M ∈ seg xs (lo + 1) hi := by
      rcases topF_in (seg xs (lo + 1) hi) with r | r
      · omega
      · rw [hM]; exact r
    obtain ⟨i, hi1⟩ : ∃ i, (seg xs (lo + 1) hi).findIdx? (fun x => decide (x = .fil M)) = some i := by
      cases hf : (seg xs (lo + 1) hi).findIdx? (fun x => decide (x = .fil M)) with
      | none =>
        rw [List.findIdx?_eq_none_iff] at hf
        have := hf _ hin
        simp at this
      | some i => exact ⟨i, rfl⟩
    obtain ⟨j1, j2, j3⟩ := List.findIdx?_eq_some_iff_getElem.mp hi1
    have j2 : (seg xs (lo + 1) hi)[i] = .fil M := by simpa using j2
    have g1 : (seg xs (lo + 1) hi)[i]? = some (.fil M) := by rw [List.getElem?_eq_getElem j1, j2]
    rw [seg_get] at g1
    split at g1
    · rename_i c
      refine ⟨lo + 1 + i, (memF _).mpr ⟨by omega, c, M, g1⟩, (tb _ M g1).mpr ⟨?_, t2⟩⟩
      rintro ⟨r, hr, hge⟩
      obtain ⟨k, k1, k2, k3⟩ := mem_seg.mp hr
      rcases Nat.lt_trichotomy k lo with c1 | c1 | c1
      · have := topF_ge (mem_seg.mpr ⟨k, k1, c1, k3⟩ : Itm.fil r ∈ seg xs (mate + 1) lo)
        omega
      · rw [c1] at k3; exact nlo r k3
      · have hle := topF_ge (mem_seg.mpr ⟨k, by omega, by omega, k3⟩ : Itm.fil r ∈ seg xs (lo + 1) hi)
        have er : r = M := by omega
        subst er
        have := j3 (k - (lo + 1)) (by omega)
        have e2 : (seg xs (lo + 1) hi)[k - (lo + 1)]'(by omega) = .fil r := by
          have : (seg xs (lo + 1) hi)[k - (lo + 1)]? = some (.fil r) := by
            rw [seg_get, show lo + 1 + (k - (lo + 1)) = k by omega, if_pos (by omega), k3]
          obtain ⟨_, e⟩ := List.getElem?_eq_some_iff.mp this
          exact e
        rw [e2] at this
        simp at this
    · cases g1
end ZL

namespace ZL
open PySem PySem.Spec PyProof.Rows L2 Z
theorem e_law_top {xs : List Itm} (h : xs.length ≤ 1000) (M : Store) : F__law_top [.p (sk xs)] M = .ok (.p (.int (topF xs))) M := by
  apply fn_rt0
  have co : ∀ Q : Store, compP (tgN 1) (zt (z2 zEq (z2 zIx (zv 1) (zk (.int 0))) (zk (.str "fill")))) (z2 zIx (zv 1) (zk (.int 1))) [some (.p (sk xs)), none] (xs.map fun x => D.p x.enc) Q = .ok ((pints (fillsOf xs)).map .p) Q := fun Q => by
    rw [compP_map (M := Q) (fun x => D.p x.enc) Itm.isF (fun x => .p (.int x.sz))]
    · simp [pints, fillsOf]
    · intro x _
      refine ⟨_, rfl, by simp, fun hx => ?_⟩
      simp [ix_sz _ hx]
  have hl := len_fills xs
  have fz : ∀ Q, frzl ((pints (fillsOf xs)).map .p) Q = .ok (.p (.list (pints (fillsOf xs)))) Q := fun Q => by rw [frzl_map, if_pos (by simp; omega)]
  have ad : ∀ M, zAdd (.p (.list [.int 1])) (.p (.list (pints (fillsOf xs)))) M = .ok (.p (.list (pints (1 :: fillsOf xs)))) M := fun M => by
    simp only [zAdd, zAddL, lstv_p]
    rw [← List.map_append, frzl_map, if_pos (by simp; omega)]
    simp [pints]
  have mx : ∀ M, zMax [.p (.list (pints (1 :: fillsOf xs)))] M = .ok (.p (.int (topF xs))) M := fun M => by
    simp [zMax, pints, topF]
  obtain ⟨fs, hfs⟩ : ∃ fs, fs = pints (fillsOf xs) := ⟨_, rfl⟩
  rw [← hfs] at co fz ad
  obtain ⟨f1, hf1⟩ : ∃ f1, f1 = pints (1 :: fillsOf xs) := ⟨_, rfl⟩
  rw [← hf1] at ad mx
  simp [-frzl_map, c__law_top, mkLstF, wipeS, co, fz, ad, mx]
end ZL

namespace ZL
open PySem PySem.Spec PyProof.Rows L2 Z
/-- an item with its growth changed -/
def SameI (n : Nat) (sz : Int) (x y : Itm) : Prop := (x.isJ = false → y = x) ∧ ∀ g s l, x = .jmp g s l → ∃ l', y = .jmp g s l' ∧ okF n y ∧ (l' - s) % sz = 0
theorem b_stead {q : Stq} (hq : q.ok) (R : Store) {acc : List Itm} {x : Itm} {n : Nat} (hx : okF n x) (hl : acc.length ≤ 100) {sz : Int} (hs : isP sz) {d1 d5 : Option D} :
    Sat (fun o => ∃ (q' : Stq) (y : Itm) (d4 d5 : Option D), o = .nx [some (.ref 1), d1, some (.p (.int sz)), some (.ref (R.length + 2)), d4, d5] (St q' ++ (R ++ [Ob.lst (encs (acc ++ [y]))])) ∧ q'.ok ∧ SameI n sz x y)
      (L__law_steadied_1 [some (.ref 1), d1, some (.p (.int sz)), some (.ref (R.length + 2)), some (.p x.enc), d5] (St q ++ (R ++ [Ob.lst (encs acc)]))) := by
  refine sat_any fun Φ hΦ => ?_
  have l1 : ∀ q ds, lstv (St q ++ (R ++ [Ob.lst ds])) (.ref (R.length + 2)) = some ds := fun q ds => lstvS rfl
  cases hxj : x.isJ with
  | false =>
    have ap := appS (q := q) (R := R) (i := R.length + 2) (acc := acc) (x := x) rfl (by omega)
    simp [-zAppend_e, L__law_steadied_1, hxj, l1, ap]
    exact hΦ _ ⟨q, x, _, _, rfl, hq, fun _ => rfl, fun g s l e => by rw [e] at hxj; cases hxj⟩
  | true =>
    cases x with
    | lab => cases hxj
    | fil s => cases hxj
    | jmp g s l =>
      have hsz : 1 ≤ sz ∧ sz ≤ 64 := by unfold isP at hs; omega
      obtain ⟨mm, hmm⟩ : ∃ mm : Int, mm = max 1 (min 4 (900 / sz)) := ⟨_, rfl⟩
      have hm4 : mm ≤ 4 := by omega
      obtain ⟨k, q1, hk, ok1, e1⟩ := e_drawN q hq (R ++ [Ob.lst (encs acc)]) (z := mm) (by omega)
      have hk3 : k ≤ 3 := by omega
      have mn0 : ∀ M, zMin [.p (.int 4), .p (.int (900 / sz))] M = .ok (.p (.int (min 4 (900 / sz)))) M := fun M => zMin_2 ..
      have mx0 : ∀ M, zMax [.p (.int 1), .p (.int (min 4 (900 / sz)))] M = .ok (.p (.int mm)) M := fun M => by rw [zMax_2, hmm]
      have hd : 0 < sz ∧ sz < 1073741824 := by omega
      have cm : CMul sz (1 + (k : Int)) := .inl (by omega)
      obtain ⟨gr, hgr⟩ : ∃ gr : Int, gr = sz * (1 + (k : Int)) := ⟨_, rfl⟩
      have hgr1 : 1 ≤ gr ∧ gr ≤ 256 := by
        rw [hgr]
        have : (k : Int) = 0 ∨ (k : Int) = 1 ∨ (k : Int) = 2 ∨ (k : Int) = 3 := by omega
        rcases this with e | e | e | e <;> rw [e] <;> omega
      have hs9 : s ≤ 9 ∧ 1 ≤ s := ⟨hx.2.2.1, hx.2.1⟩
      have mn : ∀ M, zMin [.p (.int s), .p (.int 99)] M = .ok (.p (.int s)) M := fun M => by rw [zMin_2, Int.min_eq_left (by omega)]
      have s3 : ∀ l M, zSl (.p (Itm.jmp g s l).enc) none (some 3) M = .ok (.p (.tuple [.str "jump", .int (g : Int), .int s])) M := fun _ M => rfl
      have s2 : ∀ l M, zSl (.p (Itm.jmp g s l).enc) none (some 2) M = .ok (.p (.tuple [.str "jump", .int (g : Int)])) M := fun _ M => rfl
      have i2 : ∀ l M, zIx (.p (Itm.jmp g s l).enc) (.p (.int 2)) M = .ok (.p (.int s)) M := fun _ M => rfl
      have i3 : ∀ l M, zIx (.p (Itm.jmp g s l).enc) (.p (.int 3)) M = .ok (.p (.int l)) M := fun _ M => rfl
      have a1 : ∀ M, zAdd (.p (.tuple [.str "jump", .int (g : Int), .int s])) (.p (.tuple [.int (s + gr)])) M = .ok (.p (Itm.jmp g s (s + gr)).enc) M := fun M => by simp [zAdd, Itm.enc]
      have a2 : ∀ M, zAdd (.p (.tuple [.str "jump", .int (g : Int)])) (.p (.tuple [.int s, .int (s + gr)])) M = .ok (.p (Itm.jmp g s (s + gr)).enc) M := fun M => by simp [zAdd, Itm.enc]
      have gt : (Itm.jmp g s l).isJ = true := rfl
      have ap := appS (q := q1) (R := R) (i := R.length + 2) (acc := acc) (x := .jmp g s (s + gr)) rfl (by omega)
      simp [-zAppend_e, -zMax_2, -zMin_2, L__law_steadied_1, gt, hd, mn0, mx0, e1, cm, ← hgr, s3, i2, mn, mkTup, a1, s2, i3, a2, l1, ap]
      exact hΦ _ ⟨q1, .jmp g s (s + gr), _, _, rfl, ok1, fun z => (by cases z), fun g' s' l' e => by
        cases e
        exact ⟨_, rfl, ⟨hx.1, by omega, by omega, by omega, by omega⟩, by rw [show s + gr - s = gr by omega, hgr, Int.mul_emod_right]⟩⟩
theorem e_steadiedY {q : Stq} (hq : q.ok) (R : Store) {xs : List Itm} {j : Nat} (h : Frm xs j) (hgl : GL xs) : ∃ x q', (∃ ys, x = sk ys ∧ Frm ys j ∧ GL ys ∧ (ys.filter Itm.isF).length = (xs.filter Itm.isF).length ∧ places Itm.isJ ys = places Itm.isJ xs ∧ ys.length = xs.length ∧ (∀ k ∈ places Itm.isJ ys, growA ys k % topF xs = 0) ∧ ∀ s, Itm.fil s ∈ ys → Itm.fil s ∈ xs) ∧ q'.ok ∧ F__law_steadied [.ref 1, .p (sk xs)] (St q ++ R) = .ok (.p x) (St q' ++ R) := by
  apply fn_satS
  refine sat_any fun Φ hΦ => ?_
  have hxl := h.2.1
  have tp := e_law_top (xs := xs) (by omega)
  have hs := topF_isP _ xs rfl fun s hs => h.1 _ hs
  have l2 : ∀ q : Stq, (St q).length + R.length = R.length + 2 := fun q => by rw [St_len]; omega
  simp [c__law_steadied, tp, l2]
  have b0 : St q ++ (R ++ [Ob.lst []]) = St q ++ (R ++ [.lst (encs [])]) := rfl
  rw [b0]
  refine forP_seq _ _ (fun done sl M' => ∃ q' acc d4 d5, sl = [some (.ref 1), some (.p (sk xs)), some (.p (.int (topF xs))), some (.ref (R.length + 2)), d4, d5] ∧ M' = St q' ++ (R ++ [.lst (encs acc)]) ∧ q'.ok ∧ acc.length = done.length ∧ ∀ (i : Nat) (x : Itm), done[i]? = some x → ∃ y, acc[i]? = some y ∧ SameI xs.length (topF xs) x y)
    ⟨q, [], none, none, rfl, rfl, hq, rfl, fun i x hx => by simp at hx⟩ ?_ ?_
  · rintro done x rest sl M' e ⟨q', acc, d4, d5, rfl, rfl, ok, hal, hac⟩
    have hd : done.length ≤ 100 := by
      have := congrArg List.length e
      simp at this
      omega
    obtain ⟨q2, y, d4', d5', e2, ok2, hy⟩ := b_stead ok R (acc := acc) (x := x) (n := xs.length) (h.1 x (by rw [e]; simp)) (by omega) hs (d1 := some (.p (sk xs))) (d5 := d5)
    refine ⟨_, rfl, _, _, e2, q2, acc ++ [y], _, d5', rfl, rfl, ok2, by simp [hal], fun i z hz => ?_⟩
    by_cases hid : i < done.length
    · rw [List.getElem?_append_left hid] at hz
      obtain ⟨y', e', h'⟩ := hac i z hz
      exact ⟨y', by rw [List.getElem?_append_left (by omega)]; exact e', h'⟩
    · have hil : i = done.length := by
        have := (List.getElem?_eq_some_iff.mp hz).1
        simp at this
        omega
      subst hil
      rw [List.getElem?_append_right (Nat.le_refl _), Nat.sub_self] at hz
      have hzx : x = z := by simpa using hz
      subst hzx
      exact ⟨y, by rw [List.getElem?_append_right (by omega), show done.length - acc.length = 0 by omega]; rfl, hy⟩
  · rintro sl M' ⟨q2, ys, d4, d5, rfl, rfl, ok2, hal, hac⟩
    have t := tupS (q := q2) (R := R) (Q := []) (i := R.length + 2) (xs := ys) rfl
    simp [t]
    have back : ∀ (i : Nat) (y : Itm), ys[i]? = some y → ∃ x, xs[i]? = some x ∧ SameI xs.length (topF xs) x y := fun i y hy => by
      have hi := (List.getElem?_eq_some_iff.mp hy).1
      have hx := List.getElem?_eq_getElem (show i < xs.length by omega)
      obtain ⟨y', e', h'⟩ := hac i _ hx
      rw [hy] at e'
      cases e'
      exact ⟨_, hx, h'⟩
    have same_J : ∀ {x y : Itm}, SameI xs.length (topF xs) x y → y.isJ = x.isJ := fun {x y} hs => by
      cases hxj : x.isJ with
      | false => rw [hs.1 hxj, hxj]
      | true =>
        cases x with
        | lab => cases hxj
        | fil s => cases hxj
        | jmp g s l => obtain ⟨l', e, _⟩ := hs.2 g s l rfl; rw [e]; rfl
    have ep : places Itm.isJ ys = places Itm.isJ xs := by
      have : ∀ (a b : List Itm), a.length = b.length → (∀ (i : Nat) x, b[i]? = some x → ∃ y, a[i]? = some y ∧ y.isJ = x.isJ) → ∀ k, ((a.zipIdx k).filter fun q => q.1.isJ).map Prod.snd = ((b.zipIdx k).filter fun q => q.1.isJ).map Prod.snd := by
        intro a
        induction a with
        | nil => intro b hl _ k; rw [List.length_eq_zero_iff.mp hl.symm]
        | cons u a ih =>
          intro b hl hb k
          cases b with
          | nil => cases hl
          | cons v b =>
            obtain ⟨y, e, hj⟩ := hb 0 v rfl
            have e : u = y := by simpa using e
            subst e
            have ih2 := ih b (by simpa using hl) (fun i x hx => by simpa using hb (i + 1) x (by simpa using hx)) (k + 1)
            rw [List.zipIdx_cons, List.zipIdx_cons, List.filter_cons, List.filter_cons]
            simp only [hj]
            split
            · rw [List.map_cons, List.map_cons, ih2]
            · exact ih2
      exact this ys xs (by omega) (fun i x hx => by
        obtain ⟨y, e, h'⟩ := hac i x hx
        exact ⟨y, e, same_J h'⟩) 0
    have ef : (ys.filter Itm.isF).length = (xs.filter Itm.isF).length := by
      have : ∀ (a b : List Itm), a.length = b.length → (∀ (i : Nat) x, b[i]? = some x → ∃ y, a[i]? = some y ∧ y.isF = x.isF) → (a.filter Itm.isF).length = (b.filter Itm.isF).length := by
        intro a
        induction a with
        | nil => intro b hl _; rw [List.length_eq_zero_iff.mp hl.symm]
        | cons u a ih =>
          intro b hl hb
          cases b with
          | nil => cases hl
          | cons v b =>
            obtain ⟨y, e, hj⟩ := hb 0 v rfl
            have e : u = y := by simpa using e
            subst e
            have ih2 := ih b (by simpa using hl) (fun i x hx => by simpa using hb (i + 1) x (by simpa using hx))
            rw [List.filter_cons, List.filter_cons, hj]
            split
            · rw [List.length_cons, List.length_cons, ih2]
            · exact ih2
      refine this ys xs (by omega) fun i x hx => ?_
      obtain ⟨y, e, hs⟩ := hac i x hx
      refine ⟨y, e, ?_⟩
      cases hxj : x.isJ with
      | false => rw [hs.1 hxj]
      | true =>
        cases x with
        | lab => cases hxj
        | fil s => cases hxj
        | jmp g s l => obtain ⟨l', e, _⟩ := hs.2 g s l rfl; rw [e]; rfl
    refine hΦ _ ⟨_, q2, [.lst (encs ys)], rfl, ok2, ys, rfl, ⟨fun y hy => ?_, by omega, by rw [ep]; exact h.2.2⟩, fun k hk => ?_, ef, ep, by omega, fun k hk => ?_, fun s hs => ?_⟩
    · obtain ⟨i, hi⟩ := List.getElem?_of_mem hy
      obtain ⟨x, hx, hs⟩ := back i y hi
      rw [show ys.length = xs.length by omega]
      cases hxj : x.isJ with
      | false => rw [hs.1 hxj]; exact h.1 x (List.mem_of_getElem? hx)
      | true =>
        cases x with
        | lab => cases hxj
        | fil s => cases hxj
        | jmp g s l => obtain ⟨l', e, ho, _⟩ := hs.2 g s l rfl; exact ho
    · have hk' := hk
      rw [ep] at hk'
      have xk := jmp_at hk'
      obtain ⟨y, ey, hs⟩ := hac k _ xk
      obtain ⟨l', e, _⟩ := hs.2 _ _ _ rfl
      rw [e] at ey
      have hg : goal ys k = goal xs k := by simp [goal, ey]
      rw [hg]
      obtain ⟨y2, e2, hs2⟩ := hac _ _ (hgl k hk')
      rw [e2, hs2.1 rfl]
    · have hk' := hk
      rw [ep] at hk'
      obtain ⟨y, ey, hs⟩ := hac k _ (jmp_at hk')
      obtain ⟨l', e, _, hm⟩ := hs.2 _ _ _ rfl
      rw [e] at ey
      have g1 : growA ys k = l' - shortOf xs k := by unfold growA; simp [longOf, shortOf, ey]
      rw [g1]
      exact hm
    · obtain ⟨i, hi⟩ := List.getElem?_of_mem hs
      obtain ⟨x, hx, hsm⟩ := back i _ hi
      cases hxj : x.isJ with
      | false => rw [hsm.1 hxj]; exact List.mem_of_getElem? hx
      | true =>
        cases x with
        | lab => cases hxj
        | fil s => cases hxj
        | jmp g a l => obtain ⟨l', e, _⟩ := hsm.2 g a l rfl; cases e
theorem e_steadiedX {q : Stq} (hq : q.ok) (R : Store) {xs : List Itm} {j : Nat} (h : Frm xs j) (hgl : GL xs) : ∃ x q', (∃ ys, x = sk ys ∧ Frm ys j ∧ GL ys ∧ (ys.filter Itm.isF).length = (xs.filter Itm.isF).length) ∧ q'.ok ∧ F__law_steadied [.ref 1, .p (sk xs)] (St q ++ R) = .ok (.p x) (St q' ++ R) := by
  obtain ⟨x, q', ⟨ys, a, b, c, d, _⟩, h⟩ := e_steadiedY hq R h hgl
  exact ⟨x, q', ⟨ys, a, b, c, d⟩, h⟩
theorem e_steadied {q : Stq} (hq : q.ok) (R : Store) {xs : List Itm} {j : Nat} (h : Frm xs j) (hgl : GL xs) : ∃ x q', (∃ ys, x = sk ys ∧ Frm ys j ∧ GL ys) ∧ q'.ok ∧ F__law_steadied [.ref 1, .p (sk xs)] (St q ++ R) = .ok (.p x) (St q' ++ R) := by
  obtain ⟨x, q', ⟨ys, a, b, c, _⟩, h⟩ := e_steadiedX hq R h hgl
  exact ⟨x, q', ⟨ys, a, b, c⟩, h⟩
end ZL

namespace ZL
open PySem PySem.Spec PyProof.Rows L2 Z
/-- a rising row's least and greatest -/
theorem row_ends {r : List Int} (h : r.Pairwise (· < ·)) (hn : r ≠ []) : ∃ a b, r[0]? = some a ∧ r[r.length - 1]? = some b ∧ (∀ d ∈ r, a ≤ d ∧ d ≤ b) := by
  have hp := List.length_pos_iff.mpr hn
  refine ⟨r[0], r[r.length - 1], List.getElem?_eq_getElem hp, List.getElem?_eq_getElem (by omega), fun d hd => ?_⟩
  obtain ⟨i, hi, rfl⟩ := List.mem_iff_getElem.mp hd
  have hpw := List.pairwise_iff_getElem.mp h
  constructor
  · by_cases c : i = 0
    · subst c; exact Int.le_refl _
    · have := hpw 0 i hp hi (by omega); omega
  · by_cases c : i = r.length - 1
    · subst c; exact Int.le_refl _
    · have := hpw i (r.length - 1) hi (by omega) (by omega); omega
theorem ix_last {r : List Int} {b : Int} (h : r[r.length - 1]? = some b) (M : Store) : zIx (.p (.tuple (pints r))) (.p (.int (-1))) M = .ok (.p (.int b)) M := by
  have hl := (List.getElem?_eq_some_iff.mp h).1
  rw [zIx_no (by rfl)]
  unfold zIxL
  have e : atI (pints r) (-1) = some (.int b) := by
    unfold atI ixN
    rw [if_neg (by omega), if_pos (by rw [pints_len]; omega)]
    have : ((-1 : Int) + ((pints r).length : Int)).toNat = r.length - 1 := by rw [pints_len]; omega
    rw [Option.bind_some, this, pints, List.getElem?_map, h]
    rfl
  simp only [e]
theorem ix_first {r : List Int} {a : Int} (h : r[0]? = some a) (M : Store) : zIx (.p (.tuple (pints r))) (.p (.int 0)) M = .ok (.p (.int a)) M := zIx_t (j := 0) M (by rw [pints, List.getElem?_map, h]; rfl)
def endsOf (xs : List Itm) : List (List Nat) := (trips xs).map fun t => [t.1, t.2.2]
theorem mem_ends {xs : List Itm} {at_ mate : Nat} (ha : at_ ∈ places Itm.isJ xs) (hm : mate ∈ places Itm.isJ xs) : [at_, mate] ∈ endsOf xs ↔ mate < lowA xs at_ ∧ ∃ p ∈ fillsIn xs at_, tripB xs p mate = true := by
  unfold endsOf trips
  rw [List.mem_map]
  constructor
  · rintro ⟨t, ht, e⟩
    obtain ⟨j, hj, ht⟩ := List.mem_flatMap.mp ht
    obtain ⟨p, hp, ht⟩ := List.mem_flatMap.mp ht
    obtain ⟨o, ho, rfl⟩ := List.mem_map.mp ht
    obtain ⟨ho1, ho2⟩ := List.mem_filter.mp ho
    injection e with e1 e2
    injection e2 with e2
    simp only at e1 e2
    subst e1 e2
    exact ⟨of_decide_eq_true (List.mem_filter.mp ho1).2, p, hp, ho2⟩
  · rintro ⟨h1, p, hp, ht⟩
    exact ⟨(at_, p, mate), List.mem_flatMap.mpr ⟨at_, ha, List.mem_flatMap.mpr ⟨p, hp, List.mem_map.mpr ⟨mate, List.mem_filter.mpr ⟨List.mem_filter.mpr ⟨hm, decide_eq_true h1⟩, ht⟩, rfl⟩⟩⟩, rfl⟩
theorem chg_ne {xs : List Itm} (mate at_ : Nat) {d : Int} (h : d ∈ chgL xs mate at_) : chg xs mate at_ ≠ [] := fun z => by
  have : d ∈ chg xs mate at_ := (mem_uns d _).mpr h
  rw [z] at this
  cases this
/-- what the law asks of a row -/
theorem row_sign {xs : List Itm} {j : Nat} (h : Frm xs j) (hgl : GL xs) {mate at_ : Nat} (hm : mate ∈ places Itm.isJ xs) (ha : at_ ∈ places Itm.isJ xs) (hne : mate ≠ at_) :
    ∃ a b, (chg xs mate at_)[0]? = some a ∧ (chg xs mate at_)[(chg xs mate at_).length - 1]? = some b ∧ chg xs mate at_ ≠ [] ∧
      if lowA xs at_ < mate ∧ mate < highA xs at_ then 0 ≤ a ∧ 0 < b else if [at_, mate] ∈ endsOf xs then a < 0 ∧ 0 < b else chg xs mate at_ = [0] := by
  have hfr := h.ok
  have hg := hfr.2.2 mate hm
  have hg1 : 1 ≤ growA xs mate := by
    have := h.1 _ (List.mem_of_getElem? (jmp_at hm))
    unfold growA
    have := this.2.2.2.1
    omega
  have xm := jmp_at hm
  have xg := hgl at_ ha
  have hml : mate ≠ goal xs at_ := fun e => by rw [e, xg] at xm; cases xm
  obtain ⟨g, hgg⟩ : ∃ g, g = growA xs mate := ⟨_, rfl⟩
  have exi : ∃ d, d ∈ chgL xs mate at_ := by
    unfold chgL
    split
    · exact ⟨0, List.mem_singleton.mpr rfl⟩
    · split
      · exact ⟨_, (goL_exact _ _ rfl (seg_filP hfr.2.1 _ _) _ _).mpr (.inl rfl)⟩
      · exact ⟨_, List.mem_flatMap.mpr ⟨_, (goL_exact _ _ rfl (seg_filP hfr.2.1 _ _) _ _).mpr (.inl rfl), List.mem_map.mpr ⟨_, (goL_exact _ _ rfl (seg_filP hfr.2.1 _ _) _ _).mpr (.inl rfl), rfl⟩⟩⟩
  obtain ⟨d0, hd0⟩ := exi
  have hnn := chg_ne mate at_ hd0
  obtain ⟨a, b, e1, e2, e3⟩ := row_ends (uns_rise (chgL xs mate at_)) hnn
  have e3 : ∀ d ∈ chgL xs mate at_, a ≤ d ∧ d ≤ b := fun d hd => e3 d ((mem_uns d _).mpr hd)
  have am : a ∈ chgL xs mate at_ := (mem_uns a _).mp (List.mem_of_getElem? e1)
  refine ⟨a, b, e1, e2, hnn, ?_⟩
  have hlh : lowA xs at_ ≤ highA xs at_ := by unfold lowA highA; omega
  by_cases c1 : lowA xs at_ < mate ∧ mate < highA xs at_
  · rw [if_pos c1]
    have ec : chgL xs mate at_ = goL (seg xs (mate + 1) (highA xs at_)) [growA xs mate] := by unfold chgL; rw [if_neg (by omega), if_pos c1.1]
    rw [ec] at am e3
    have hp := topF_isP _ _ rfl (seg_filP hfr.2.1 (mate + 1) (highA xs at_))
    have ex := goL_exact _ _ rfl (seg_filP hfr.2.1 (mate + 1) (highA xs at_)) (growA xs mate)
    have am' := (ex a).mp am
    rw [← hgg] at am' hg1 e3 ex
    have k1 := fun k hk => (e3 k ((ex k).mpr hk)).2
    revert am' k1
    generalize topF (seg xs (mate + 1) (highA xs at_)) = m at hp
    unfold At
    intro am' k1
    have q1 := k1 (g / m * m) (.inl rfl)
    by_cases hz : g % m = 0
    · rcases hp with rfl | rfl | rfl | rfl | rfl | rfl | rfl <;> omega
    · have q2 := k1 (g / m * m + m) (.inr ⟨rfl, hz⟩)
      rcases hp with rfl | rfl | rfl | rfl | rfl | rfl | rfl <;> omega
  · rw [if_neg c1]
    by_cases c2 : mate < lowA xs at_
    · have ti := trip_iff hfr hgl hm ha c2
      have ec : chgL xs mate at_ = diffs (seg xs (mate + 1) (lowA xs at_)) (seg xs (lowA xs at_ + 1) (highA xs at_)) (growA xs mate) := by unfold chgL; rw [if_neg (by omega), if_neg (by omega)]
      by_cases c3 : [at_, mate] ∈ endsOf xs
      · rw [if_pos c3]
        obtain ⟨t1, t2⟩ := ti.mp ((mem_ends ha hm).mp c3).2
        obtain ⟨⟨d1, hd1, s1⟩, ⟨d2, hd2, s2⟩⟩ := diffs_both (seg_filP hfr.2.1 _ _) (seg_filP hfr.2.1 _ _) t1 t2
        rw [ec] at e3
        have := e3 d1 hd1
        have := e3 d2 hd2
        omega
      · rw [if_neg c3]
        have nt : ¬ (∃ p ∈ fillsIn xs at_, tripB xs p mate = true) := fun z => c3 ((mem_ends ha hm).mpr ⟨c2, z⟩)
        rw [ti] at nt
        have st := diffs_still (it1 := seg xs (mate + 1) (lowA xs at_)) (it2 := seg xs (lowA xs at_ + 1) (highA xs at_)) (g := growA xs mate) (seg_filP hfr.2.1 _ _) (seg_filP hfr.2.1 _ _) (by
          by_cases c : topF (seg xs (mate + 1) (lowA xs at_)) < topF (seg xs (lowA xs at_ + 1) (highA xs at_))
          · right
            by_cases z : growA xs mate % topF (seg xs (lowA xs at_ + 1) (highA xs at_)) = 0
            · exact z
            · exact absurd ⟨c, z⟩ nt
          · left; omega)
        unfold chg
        rw [ec]
        exact uns_ext (b := [0]) fun k => by rw [st, List.mem_singleton]
    · have c4 : highA xs at_ < mate := by
        have hlo : lowA xs at_ = at_ ∨ lowA xs at_ = goal xs at_ := by unfold lowA; omega
        have hhi : highA xs at_ = at_ ∨ highA xs at_ = goal xs at_ := by unfold highA; omega
        omega
      have c3 : ¬ [at_, mate] ∈ endsOf xs := fun z => c2 ((mem_ends ha hm).mp z).1
      rw [if_neg c3]
      unfold chg chgL
      rw [if_pos c4]
      rfl
end ZL

namespace ZL
open PySem PySem.Spec PyProof.Rows L2 Z
theorem Frm.sane {xs : List Itm} {j : Nat} (h : Frm xs j) : JSane xs ∧ PSane xs ∧ xs.length ≤ 200 :=
  ⟨⟨by have := h.2.1; omega, fun j g s l e => by
    have := (h.1 _ (List.mem_of_getElem? e)).1
    omega⟩, fun s hs => by
    have := p2_in (h.1 _ hs)
    omega, by have := h.2.1; omega⟩
end ZL

namespace ZL
open PySem PySem.Spec PyProof.Rows L2 Z
theorem pl_nodup (p : Itm → Bool) (xs : List Itm) : (places p xs).Nodup := by
  unfold places
  have h : (xs.zipIdx.map Prod.snd).Nodup := by
    rw [List.zipIdx_map_snd]
    exact List.nodup_range'
  exact List.Nodup.sublist (List.Sublist.map _ List.filter_sublist) h
theorem two_of {l : List Nat} (h : 2 ≤ l.length) : ∃ a b r, l = a :: b :: r := by
  match l, h with
  | a :: b :: r, _ => exact ⟨a, b, r, rfl⟩
end ZL

namespace ZL
open PySem PySem.Spec PyProof.Rows L2 Z
theorem e_steady {xs : List Itm} (h : JSane xs) (hps : PSane xs) (hlen : xs.length ≤ 200) (M : Store) : F_steady_error [.p (sk xs)] M = .ok (.p (match trips xs with | [] => .none | t :: _ => enc3 t)) M := by
  apply fn_rt0
  have e1 := e_triples h hps hlen
  cases ht : trips xs with
  | nil =>
    have ne : ∀ M, zNe (.p (.tuple (([] : List (Nat × Nat × Nat)).map enc3))) (.p (.tuple [])) M = .ok (.p (.bool false)) M := fun M => zNe_refl M (sh_3 []).1
    rw [ht] at e1
    simp only [List.map_nil] at ne e1
    simp [c_steady_error, e1, mkTup, ne]
  | cons t r =>
    have ne : ∀ M, zNe (.p (.tuple ((t :: r).map enc3))) (.p (.tuple [])) M = .ok (.p (.bool true)) M := fun M => by
      have h2 := (sh_3 []).1
      unfold zNe
      simp only [snap_p]
      have : peq (.tuple ((t :: r).map enc3)) (.tuple []) = some false := by
        show (if _ then _ else _) = _
        rw [if_pos ⟨(sh_3 _).1, h2⟩]
        rfl
      rw [this]
      rfl
    rw [ht] at e1
    simp only [List.map_cons] at ne e1
    simp [c_steady_error, e1, mkTup, ne]
end ZL

namespace ZL
open PySem PySem.Spec PyProof.Rows L2 Z
def bytesAt (x : Itm) (p : Int) (b : Bool) : Int := match x with
  | .lab => 0
  | .fil s => (-p) % s
  | .jmp _ s l => if b then l else s
def encQ (q : Int × Int) : P := .tuple [.int q.1, .int q.2]
def PosF (x : Itm) : Prop := match x with
  | .fil s => 0 < s
  | _ => True
theorem PSane.posF {xs : List Itm} (h : ∀ s, Itm.fil s ∈ xs → 0 < s) {x : Itm} (hx : x ∈ xs) : PosF x := by
  cases x with
  | fil s => exact h s hx
  | _ => trivial
theorem n_jf : ¬ (Str.ofString "jump" = Str.ofString "fill") := by decide +kernel
theorem n_lj : ¬ (Str.ofString "label" = Str.ofString "jump") := by decide +kernel
theorem n_lf : ¬ (Str.ofString "label" = Str.ofString "fill") := by decide +kernel
theorem n_fj : ¬ (Str.ofString "fill" = Str.ofString "jump") := by decide +kernel
theorem n_fl : ¬ (Str.ofString "fill" = Str.ofString "label") := by decide +kernel
theorem n_jl : ¬ (Str.ofString "jump" = Str.ofString "label") := by decide +kernel
theorem e_bytes_at {x : Itm} (h : PosF x) (p : Int) (b : Bool) (M : Store) : F_bytes_at [.p x.enc, .p (.int p), .p (.bool b)] M = .ok (.p (.int (bytesAt x p b))) M := by
  apply fn_rt0
  cases x with
  | lab => simp [c_bytes_at, Itm.enc, bytesAt]
  | fil s =>
    have hs : 0 < s := h
    simp [c_bytes_at, Itm.enc, bytesAt, n_fl, hs]
  | jmp g s l => cases b <;> simp [c_bytes_at, Itm.enc, bytesAt, n_jl, n_jf]
def lnA (ls : List Int) (p : Nat) : Int := ls.getD p 0
def spotStep (ls : List Int) (ch : List Nat) (s : List (Int × Int) × Int) (q : Itm × Nat) : List (Int × Int) × Int :=
  (s.1 ++ [(s.2 + lnA ls q.2, s.2 + lnA ls q.2 + bytesAt q.1 (s.2 + lnA ls q.2) (decide (q.2 ∈ ch)))], s.2 + lnA ls q.2 + bytesAt q.1 (s.2 + lnA ls q.2) (decide (q.2 ∈ ch)))
def spotF (ls : List Int) (ch : List Nat) (qs : List (Itm × Nat)) : List (Int × Int) × Int := qs.foldl (spotStep ls ch) ([], 0)
/-- where each item begins and ends -/
def spots (xs : List Itm) (ls : List Int) (ch : List Nat) : List (Int × Int) := (spotF ls ch xs.zipIdx).1
theorem spotF_snoc (ls : List Int) (ch : List Nat) (a : List (Itm × Nat)) (q : Itm × Nat) : spotF ls ch (a ++ [q]) = spotStep ls ch (spotF ls ch a) q := by
  unfold spotF
  rw [List.foldl_append]
  rfl
theorem spotF_len (ls : List Int) (ch : List Nat) (qs : List (Itm × Nat)) : (spotF ls ch qs).1.length = qs.length := by
  have : ∀ (qs : List (Itm × Nat)) (s : List (Int × Int) × Int), (qs.foldl (spotStep ls ch) s).1.length = s.1.length + qs.length := by
    intro qs
    induction qs with
    | nil => intro s; rfl
    | cons q qs ih =>
      intro s
      rw [List.foldl_cons, ih]
      simp [spotStep]
      omega
  have := this qs ([], 0)
  simpa [spotF] using this
theorem spots_len (xs : List Itm) (ls : List Int) (ch : List Nat) : (spots xs ls ch).length = xs.length := by
  unfold spots
  rw [spotF_len, List.length_zipIdx]
/-- lengths and items that can be laid -/
def LOk (xs : List Itm) (ls : List Int) : Prop := xs.length ≤ 100 ∧ xs.length ≤ ls.length ∧ ∀ s, Itm.fil s ∈ xs → 0 < s
theorem ls_at {ls : List Int} {p : Nat} (h : p < ls.length) (M : Store) : zIx (.p (.tuple (pints ls))) (.p (.int (p : Int))) M = .ok (.p (.int (lnA ls p))) M := by
  refine zIx_t M ?_
  rw [pints, List.getElem?_map, List.getElem?_eq_getElem h, lnA, List.getD_eq_getElem?_getD, List.getElem?_eq_getElem h]
  rfl
theorem app_q {M R : Store} {ys : List (Int × Int)} {y : Int × Int} (h : ys.length < 1000) : zAppend (.ref M.length) [.p (encQ y)] (M ++ .lst ((ys.map encQ).map .p) :: R) = .ok (.p .none) (M ++ .lst (((ys ++ [y]).map encQ).map .p) :: R) := by
  rw [zAppend_e]
  have : ys.length < 16777216 := by omega
  simp [this]
theorem e_laid {xs : List Itm} {ls : List Int} (h : LOk xs ls) (ch : List Nat) (M : Store) : F_laid [.p (sk xs), .p (.tuple (pints ls)), .p (.tuple (pnats ch))] M = .ok (.p (.tuple ((spots xs ls ch).map encQ))) M := by
  obtain ⟨h1, h2, h3⟩ := h
  apply fn_satN
  simp [c_laid]
  refine forP_seq _ _ (fun done sl M' => ∃ d5 d6 d7, sl = [some (.p (sk xs)), some (.p (.tuple (pints ls))), some (.p (.tuple (pnats ch))), some (.ref M.length), some (.p (.int (spotF ls ch done).2)), d5, d6, d7] ∧ M' = M ++ [.lst (((spotF ls ch done).1.map encQ).map .p)])
    ⟨none, none, none, rfl, rfl⟩ ?_ ?_
  · rintro done ⟨x, p⟩ rest sl M' e ⟨d5, d6, d7, rfl, rfl⟩
    have hm : (x, p) ∈ xs.zipIdx := by rw [e]; simp
    have hx : xs[p]? = some x := by simpa using List.mem_zipIdx_iff_getElem?.mp hm
    have hp := (List.getElem?_eq_some_iff.mp hx).1
    have hd : done.length ≤ 100 := by
      have := congrArg List.length e
      simp at this
      omega
    have hb := e_bytes_at (PSane.posF h3 (List.mem_of_getElem? hx))
    have il := ls_at (ls := ls) (p := p) (by omega)
    rw [spotF_snoc]
    obtain ⟨acc, here, hs⟩ : ∃ (a : List (Int × Int)) (b : Int), (a, b) = spotF ls ch done := ⟨_, _, rfl⟩
    have hal : acc.length ≤ 100 := by
      have := spotF_len ls ch done
      rw [← hs] at this
      simp only at this
      omega
    rw [← hs]
    refine ⟨_, rfl, ?_⟩
    have ap : ∀ a b : Int, zAppend (.ref M.length) [.p (.tuple [.int a, .int b])] (M ++ [.lst ((acc.map encQ).map .p)]) = .ok (.p .none) (M ++ [.lst (((acc ++ [(a, b)]).map encQ).map .p)]) := fun a b => app_q (M := M) (R := []) (ys := acc) (y := (a, b)) (by omega)
    simp [-zAppend_e, -List.map_append, -List.map_map, L_laid_1, il, zIn, hb, mkTup, ap, spotStep, Sat]
  · rintro sl M' ⟨d5, d6, d7, rfl, rfl⟩
    have tu : ∀ xs : List P, zTuple [.ref M.length] (M ++ [.lst (xs.map .p)]) = .ok (.p (.tuple xs)) (M ++ [.lst (xs.map .p)]) := fun xs => by unfold zTuple; simp
    simp [-List.map_map, tu, spots, Sat]
end ZL

namespace ZL
open PySem PySem.Spec PyProof.Rows L2 Z
/-- begin and end of an item -/
def bg (sp : List (Int × Int)) (p : Nat) : Int := (sp.getD p (0, 0)).1
def en (sp : List (Int × Int)) (p : Nat) : Int := (sp.getD p (0, 0)).2
theorem sp_at {sp : List (Int × Int)} {p : Nat} (h : p < sp.length) : (sp.map encQ)[p]? = some (.tuple [.int (bg sp p), .int (en sp p)]) := by
  rw [List.getElem?_map, List.getElem?_eq_getElem h]
  unfold bg en
  rw [List.getD_eq_getElem?_getD, List.getElem?_eq_getElem h]
  rfl
theorem sp_t {sp : List (Int × Int)} {p : Nat} (h : p < sp.length) (M : Store) : zIx (.p (.tuple (sp.map encQ))) (.p (.int (p : Int))) M = .ok (.p (.tuple [.int (bg sp p), .int (en sp p)])) M := zIx_t M (sp_at h)
theorem sp_l {sp : List (Int × Int)} {p : Nat} (h : p < sp.length) (M : Store) : zIx (.p (.list (sp.map encQ))) (.p (.int (p : Int))) M = .ok (.p (.tuple [.int (bg sp p), .int (en sp p)])) M := zIx_l M (sp_at h)
theorem q_0 (a b : Int) (M : Store) : zIx (.p (.tuple [.int a, .int b])) (.p (.int 0)) M = .ok (.p (.int a)) M := rfl
theorem q_1 (a b : Int) (M : Store) : zIx (.p (.tuple [.int a, .int b])) (.p (.int 1)) M = .ok (.p (.int b)) M := rfl
def wayIn (sp : List (Int × Int)) (j g : Nat) : Int := if j < g then bg sp g - en sp j else en sp j - bg sp g
def wayOf (xs : List Itm) (ls : List Int) (ch : List Nat) (j : Nat) : Int := wayIn (spots xs ls ch) j (goal xs j)
/-- goals stand in the skeleton -/
def GOk (xs : List Itm) : Prop := ∀ j ∈ places Itm.isJ xs, goal xs j < xs.length
theorem e_way_between {xs : List Itm} {sp : List (Int × Int)} {j g : Nat} {s l : Int} (hx : xs[j]? = some (.jmp g s l)) (hj : j < sp.length) (hg : g < sp.length) (M : Store) :
    F_way_between [.p (sk xs), .p (.tuple (sp.map encQ)), .p (.int (j : Int))] M = .ok (.p (.int (wayIn sp j g))) M := by
  apply fn_rt0
  have a := sp_t hj
  have b := sp_t hg
  by_cases h : j < g
  · simp [-List.map_map, c_way_between, ix_sk _ hx, Itm.enc, a, b, q_0, q_1, h, wayIn]
  · simp [-List.map_map, c_way_between, ix_sk _ hx, Itm.enc, a, b, q_0, q_1, h, wayIn]
end ZL

namespace ZL
open PySem PySem.Spec PyProof.Rows L2 Z
/-- skeleton, lengths, reaches -/
def prg (xs : List Itm) (ls rs : List Int) : P := .tuple [sk xs, .tuple (pints ls), .tuple (pints rs)]
/-- a jump that is too short for its way -/
def badB (xs : List Itm) (ls : List Int) (ch : List Nat) (q : Nat × Int) : Bool := !decide (q.1 ∈ ch) && decide (q.2 < wayOf xs ls ch q.1)
def stuckL (xs : List Itm) (ls rs : List Int) (ch : List Nat) : List Nat := (((places Itm.isJ xs).zip rs).filter (badB xs ls ch)).map Prod.fst
def fit (xs : List Itm) (ls rs : List Int) (ch : List Nat) : Bool := decide (stuckL xs ls rs ch = [])
theorem eq_tn (a b : List Nat) (M : Store) : zEq (.p (tnats a)) (.p (tnats b)) M = .ok (.p (.bool (decide (a = b)))) M := zEq_lay lay_tn (by decide) a b M
theorem zip_ni : ∀ (js : List Nat) (rs : List Int), zipP (pnats js) (pints rs) = (js.zip rs).map fun q => D.p (.tuple [.int (q.1 : Int), .int q.2])
  | [], _ => rfl
  | _ :: _, [] => rfl
  | j :: js, r :: rs => by
    have := zip_ni js rs
    unfold pnats pints at this ⊢
    rw [List.map_cons, List.map_cons, zipP, this]
    rfl
theorem zip_mem {js : List Nat} {rs : List Int} {q : Nat × Int} (h : q ∈ js.zip rs) : q.1 ∈ js := (List.of_mem_zip (a := q.1) (b := q.2) h).1
theorem app_n {M R : Store} {ys : List Nat} {y : Nat} (h : ys.length < 1000) : zAppend (.ref M.length) [.p (.int (y : Int))] (M ++ .lst ((pnats ys).map .p) :: R) = .ok (.p .none) (M ++ .lst ((pnats (ys ++ [y])).map .p) :: R) := by
  rw [zAppend_e]
  have : ys.length < 16777216 := by omega
  simp [this, pnats]
theorem e_stuck {xs : List Itm} {ls rs : List Int} (h : LOk xs ls) (hg : GOk xs) (ch : List Nat) (M : Store) : F_stuck [.p (prg xs ls rs), .p (tnats ch)] M = .ok (.p (tnats (stuckL xs ls rs ch))) M := by
  have h1 := h.1
  have la := e_laid h ch
  have jo := e_jumps_of (xs := xs) (by omega)
  have sl := spots_len xs ls ch
  apply fn_satN
  simp [c_stuck, prg, tnats, la, jo, zzip, zip_ni]
  refine forP_seq _ _ (fun done sl M' => ∃ d7 d8, sl = [some (D.p (PyData.tuple [sk xs, PyData.tuple (pints ls), PyData.tuple (pints rs)])), some (D.p (PyData.tuple (pnats ch))), some (D.p (sk xs)), some (D.p (PyData.tuple (pints ls))),
      some (D.p (PyData.tuple (pints rs))), some (D.p (PyData.tuple (List.map encQ (spots xs ls ch)))), some (D.ref M.length), d7, d8] ∧ M' = M ++ [.lst ((pnats ((done.filter (badB xs ls ch)).map Prod.fst)).map .p)])
    ⟨none, none, rfl, rfl⟩ ?_ ?_
  · rintro done ⟨j, r⟩ rest sl' M' e ⟨d7, d8, rfl, rfl⟩
    have hz : (j, r) ∈ (places Itm.isJ xs).zip rs := by rw [e]; simp
    have hj : j ∈ places Itm.isJ xs := zip_mem hz
    have hx := jmp_at hj
    have hjl := (List.getElem?_eq_some_iff.mp hx).1
    have hgl := hg j hj
    have wb := e_way_between (sp := spots xs ls ch) hx (by omega) (by omega)
    have hd : ((done.filter (badB xs ls ch)).map Prod.fst).length ≤ 200 := by
      rw [List.length_map]
      have h2 := List.length_filter_le (badB xs ls ch) done
      have h3 := len_places Itm.isJ xs
      have h4 := congrArg List.length e
      rw [List.length_zip] at h4
      simp at h4
      omega
    have ap := app_n (M := M) (R := []) (ys := (done.filter (badB xs ls ch)).map Prod.fst) (y := j) (by omega)
    have ni := zin_tn true j ch
    have hw : wayIn (spots xs ls ch) j (goal xs j) = wayOf xs ls ch j := rfl
    rw [hw] at wb
    refine ⟨_, rfl, ?_⟩
    have hb : badB xs ls ch (j, r) = (!decide (j ∈ ch) && decide (r < wayOf xs ls ch j)) := rfl
    rw [List.filter_append, List.map_append]
    obtain ⟨acc, ha⟩ : ∃ a, a = (done.filter (badB xs ls ch)).map Prod.fst := ⟨_, rfl⟩
    rw [← ha] at ap ⊢
    by_cases hc : j ∈ ch
    · have : ([(j, r)].filter (badB xs ls ch)).map Prod.fst = [] := by simp [hb, hc]
      rw [this, List.append_nil]
      simp [-List.map_map, L_stuck_1, zNotIn, ni, hc, Sat]
    · by_cases hr : r < wayOf xs ls ch j
      · have : ([(j, r)].filter (badB xs ls ch)).map Prod.fst = [j] := by simp [hb, hc, hr]
        rw [this]
        simp [-zAppend_e, -List.map_map, L_stuck_1, zNotIn, ni, hc, wb, hr, ap, Sat]
      · have : ([(j, r)].filter (badB xs ls ch)).map Prod.fst = [] := by simp [hb, hc, hr]
        rw [this, List.append_nil]
        simp [-List.map_map, L_stuck_1, zNotIn, ni, hc, wb, hr, Sat]
  · rintro sl' M' ⟨d7, d8, rfl, rfl⟩
    have tu : ∀ xs : List P, zTuple [.ref M.length] (M ++ [.lst (xs.map .p)]) = .ok (.p (.tuple xs)) (M ++ [.lst (xs.map .p)]) := fun xs => by unfold zTuple; simp
    simp [-List.map_map, tu, stuckL, Sat]
theorem fit_iff {xs : List Itm} {ls rs : List Int} {ch : List Nat} : fit xs ls rs ch = true ↔ ∀ q ∈ (places Itm.isJ xs).zip rs, q.1 ∉ ch → wayOf xs ls ch q.1 ≤ q.2 := by
  unfold fit stuckL
  rw [decide_eq_true_eq, List.map_eq_nil_iff, List.filter_eq_nil_iff]
  constructor
  · intro h q hq hc
    have := h q hq
    simp [badB, hc] at this
    omega
  · intro h q hq hb
    simp [badB] at hb
    have := h q hq hb.1
    omega
end ZL

namespace Z
open PySem PySem.Spec PyProof.Rows L2
@[simp] theorem Out.thn_exc {α : Type} (e : Ex) (M : Store) (k : α → Store → OutS) : (Out.exc e M : Out α).thn k = .exc e M := id rfl
@[simp] theorem OutS.seq_exc (e : Ex) (M : Store) (k : SC) : (OutS.exc e M).seq k = .exc e M := id rfl
theorem fn_exc {n : Nat} {c : SC} {ds : List D} {M : Store} {e : Ex} (h : c (ds.map some ++ List.replicate (n - ds.length) none) M = .exc e M) : fnB n c ds M = .exc e M := by
  unfold fnB runB
  rw [h]
  show Out.exc e (M.take M.length) = _
  rw [List.take_length]
@[simp] theorem sraise1_e (cn f : Str) (c : ZC) (sl : Sl) (M : Store) : sraise1 cn f c sl M = (c sl M).thn fun d M1 => match d with
  | .p y => .exc ⟨cn, some (f, y)⟩ M1
  | _ => .stuck := id rfl
@[simp] theorem sraise0_e (cn : Str) (sl : Sl) (M : Store) : sraise0 cn sl M = .exc ⟨cn, none⟩ M := id rfl
theorem stry_rt {cb : SC} {x : Str} {h : Option (Str × PyData) → Option PyData} {sl : Sl} {M M' : Store} {d : D} (e : cb sl M = .rt d M') : stry cb x h sl M = .rt d M' := by
  unfold stry
  rw [e]
theorem stry_exc {cb : SC} {x : Str} {h : Option (Str × PyData) → Option PyData} {sl : Sl} {M M' : Store} {a : Option (Str × PyData)} {y : PyData} (e : cb sl M = .exc ⟨x, a⟩ M') (hy : h a = some y) : stry cb x h sl M = .rt (.p y) M' := by
  unfold stry
  rw [e]
  simp only [if_true, hy]
/-- a loop whose body goes on or raises -/
theorem forP_raise {α : Type} {f : Tg} {body : SC} (g : α → D) (p : α → Bool) (ex : α → Ex) (I : Sl → Prop) {M : Store} : ∀ (xs : List α) {sl : Sl}, I sl →
    (∀ x ∈ xs, ∀ sl, I sl → ∃ sl1, f (g x) sl = some sl1 ∧ (p x = true → ∃ sl2, body sl1 M = .nx sl2 M ∧ I sl2) ∧ (p x = false → body sl1 M = .exc (ex x) M)) →
    (xs.find? (fun x => !p x) = none → ∃ sl', forP f body (xs.map g) sl M = .nx sl' M ∧ I sl') ∧ (∀ x, xs.find? (fun x => !p x) = some x → forP f body (xs.map g) sl M = .exc (ex x) M)
  | [], sl, hi, _ => ⟨fun _ => ⟨sl, rfl, hi⟩, fun x h => by cases h⟩
  | x :: xs, sl, hi, st => by
    obtain ⟨sl1, e1, e2, e3⟩ := st x (List.mem_cons_self ..) sl hi
    cases hp : p x with
    | true =>
      obtain ⟨sl2, e4, hi2⟩ := e2 hp
      have eq : forP f body ((x :: xs).map g) sl M = forP f body (xs.map g) sl2 M := by
        rw [List.map_cons]
        conv => lhs; unfold forP
        simp only [e1, e4, OutS.seq_nx]
      rw [eq, List.find?_cons_of_neg (by simp [hp])]
      exact forP_raise g p ex I xs hi2 fun y hy => st y (List.mem_cons_of_mem _ hy)
    | false =>
      rw [List.find?_cons_of_pos (by simp [hp])]
      refine And.intro (fun h => nomatch h) fun y hy => ?_
      have hy' := Option.some.inj hy
      subst hy'
      rw [List.map_cons]
      unfold forP
      simp only [e1, e3 hp, OutS.seq_exc]
end Z

namespace ZL
open PySem PySem.Spec PyProof.Rows L2 Z
/-- a choice: jumps, none twice -/
def ChOk (xs : List Itm) (ch : List Nat) : Prop := ch.Nodup ∧ ∀ j ∈ ch, j ∈ places Itm.isJ xs
def srtN (l : List Nat) : List Nat := lsort (fun n : Nat => PyData.int (n : Int)) l
theorem mem_srtN {l : List Nat} {j : Nat} : j ∈ srtN l ↔ j ∈ l := mem_lsort
theorem nodup_le : ∀ {l m : List Nat}, l.Nodup → (∀ j ∈ l, j ∈ m) → l.length ≤ m.length
  | [], _, _, _ => Nat.zero_le _
  | a :: l, m, nd, h => by
    rw [List.nodup_cons] at nd
    have ha := h a (List.mem_cons_self ..)
    have := nodup_le (m := m.erase a) nd.2 fun j hj => (List.mem_erase_of_ne (fun e => nd.1 (by rw [← e]; exact hj))).mpr (h j (List.mem_cons_of_mem _ hj))
    rw [List.length_erase_of_mem ha] at this
    have hp : 0 < m.length := List.length_pos_of_mem ha
    rw [List.length_cons]
    omega
theorem ChOk.le {xs : List Itm} {ch : List Nat} (h : ChOk xs ch) : ch.length ≤ (places Itm.isJ xs).length := nodup_le h.1 h.2
theorem plc_nodup (xs : List Itm) : (places Itm.isJ xs).Nodup := by
  unfold places
  have : ((xs.zipIdx.filter fun q => Itm.isJ q.1).map Prod.snd).Sublist (xs.zipIdx.map Prod.snd) := List.Sublist.map _ List.filter_sublist
  refine List.Nodup.sublist this ?_
  rw [List.zipIdx_map_snd]
  exact List.nodup_range'
theorem mem_stuck {xs : List Itm} {ls rs : List Int} {ch : List Nat} {j : Nat} : j ∈ stuckL xs ls rs ch ↔ ∃ r, (j, r) ∈ (places Itm.isJ xs).zip rs ∧ j ∉ ch ∧ r < wayOf xs ls ch j := by
  unfold stuckL
  rw [List.mem_map]
  constructor
  · rintro ⟨⟨i, r⟩, h, rfl⟩
    obtain ⟨h1, h2⟩ := List.mem_filter.mp h
    simp [badB] at h2
    exact ⟨r, h1, h2.1, h2.2⟩
  · rintro ⟨r, h1, h2, h3⟩
    exact ⟨(j, r), List.mem_filter.mpr ⟨h1, by simp [badB, h2, h3]⟩, rfl⟩
theorem stuck_ok {xs : List Itm} {ls rs : List Int} {ch : List Nat} (h : ChOk xs ch) (hr : rs.length = (places Itm.isJ xs).length) : ChOk xs (ch ++ stuckL xs ls rs ch) := by
  constructor
  · refine List.nodup_append.mpr ⟨h.1, ?_, fun a ha b hb e => ?_⟩
    · unfold stuckL
      have e : ((places Itm.isJ xs).zip rs).map Prod.fst = places Itm.isJ xs := List.map_fst_zip (by omega)
      have : ((((places Itm.isJ xs).zip rs).filter (badB xs ls ch)).map Prod.fst).Sublist (((places Itm.isJ xs).zip rs).map Prod.fst) := List.Sublist.map _ List.filter_sublist
      rw [e] at this
      exact List.Nodup.sublist this (plc_nodup _)
    · obtain ⟨r, _, h2, _⟩ := mem_stuck.mp hb
      exact h2 (e ▸ ha)
  · intro j hj
    rcases List.mem_append.mp hj with hj | hj
    · exact h.2 j hj
    · obtain ⟨r, h1, _⟩ := mem_stuck.mp hj
      exact (List.of_mem_zip h1).1
theorem srt_ok {xs : List Itm} {ch : List Nat} (h : ChOk xs ch) : ChOk xs (srtN ch) := ⟨(lsort_perm _ _).nodup_iff.mpr h.1, fun j hj => h.2 j (mem_srtN.mp hj)⟩
/-- all that get stuck made long, until none is -/
def fillU (xs : List Itm) (ls rs : List Int) : Nat → List Nat → List Nat
  | 0, ch => ch
  | n + 1, ch => if stuckL xs ls rs ch = [] then ch else fillU xs ls rs n (srtN (ch ++ stuckL xs ls rs ch))
theorem fill_ok {xs : List Itm} {ls rs : List Int} (hr : rs.length = (places Itm.isJ xs).length) : ∀ (n : Nat) (ch : List Nat), ChOk xs ch → (places Itm.isJ xs).length < n + ch.length →
    ChOk xs (fillU xs ls rs n ch) ∧ (∀ j ∈ ch, j ∈ fillU xs ls rs n ch) ∧ (∀ j ∈ stuckL xs ls rs ch, j ∈ fillU xs ls rs n ch) ∧ stuckL xs ls rs (fillU xs ls rs n ch) = []
  | 0, ch, h, hn => absurd h.le (by omega)
  | n + 1, ch, h, hn => by
    unfold fillU
    by_cases hs : stuckL xs ls rs ch = []
    · rw [if_pos hs]
      exact ⟨h, fun j hj => hj, fun j hj => (by rw [hs] at hj; cases hj), hs⟩
    · rw [if_neg hs]
      have hp : 0 < (stuckL xs ls rs ch).length := List.length_pos_iff.mpr hs
      have hl : (srtN (ch ++ stuckL xs ls rs ch)).length = ch.length + (stuckL xs ls rs ch).length := by rw [srtN, len_lsort, List.length_append]
      obtain ⟨h1, h2, _, h4⟩ := fill_ok hr n (srtN (ch ++ stuckL xs ls rs ch)) (srt_ok (stuck_ok h hr)) (by omega)
      exact ⟨h1, fun j hj => h2 j (mem_srtN.mpr (List.mem_append.mpr (.inl hj))), fun j hj => h2 j (mem_srtN.mpr (List.mem_append.mpr (.inr hj))), h4⟩
/-- a jump that is never stuck is never made long -/
theorem fill_out {xs : List Itm} {ls rs : List Int} {j : Nat} (hj : ∀ ch, j ∉ stuckL xs ls rs ch) : ∀ (n : Nat) (ch : List Nat), j ∉ ch → j ∉ fillU xs ls rs n ch
  | 0, ch, h => h
  | n + 1, ch, h => by
    unfold fillU
    split
    · exact h
    · refine fill_out hj n _ fun hm => ?_
      rcases List.mem_append.mp (mem_srtN.mp hm) with hm | hm
      · exact h hm
      · exact hj ch hm
def fillA (xs : List Itm) (ls rs : List Int) (ch : List Nat) : List Nat := fillU xs ls rs 64 ch
theorem zSort_n {l : List Nat} (h : l.length ≤ 1000) (M : Store) : zSort [.p (.tuple (pnats l))] M = .ok (.p (.list (pnats (srtN l)))) M :=
  zSort_of srt_nat (xs := l) rfl (by omega)
theorem add_tn {a b : List Nat} (h : a.length + b.length ≤ 1000) (M : Store) : zAdd (.p (tnats a)) (.p (tnats b)) M = .ok (.p (tnats (a ++ b))) M := by
  unfold tnats
  have : a.length + b.length ≤ 16777216 := by omega
  simp [zAdd, this, pnats]
theorem fill_loop {xs : List Itm} {ls rs : List Int} (h : LOk xs ls) (hg : GOk xs) (hr : rs.length = (places Itm.isJ xs).length) (M : Store) : ∀ (n : Nat) (ch : List Nat), ChOk xs ch → (places Itm.isJ xs).length < n + ch.length →
    whileN (zt (z2 zNe (zv 2) (zs mkTup znil))) L_filled_up_1 n [some (.p (prg xs ls rs)), some (.p (tnats ch)), some (.p (tnats (stuckL xs ls rs ch)))] M =
      .nx [some (.p (prg xs ls rs)), some (.p (tnats (fillU xs ls rs n ch))), some (.p (tnats []))] M
  | 0, ch, hc, hn => absurd hc.le (by omega)
  | n + 1, ch, hc, hn => by
    have h1 := h.1
    have hpl := len_places Itm.isJ xs
    have ne : ∀ M, zNe (.p (tnats (stuckL xs ls rs ch))) (.p (.tuple [])) M = .ok (.p (.bool (!decide (stuckL xs ls rs ch = [])))) M := fun M => zNe_lay lay_tn (by decide) (stuckL xs ls rs ch) [] M
    unfold whileN fillU
    by_cases hs : stuckL xs ls rs ch = []
    · rw [if_pos hs]
      rw [hs] at ne ⊢
      simp at ne
      simp [mkTup, ne]
    · rw [if_neg hs]
      have hp : 0 < (stuckL xs ls rs ch).length := List.length_pos_iff.mpr hs
      have hl : (srtN (ch ++ stuckL xs ls rs ch)).length = ch.length + (stuckL xs ls rs ch).length := by rw [srtN, len_lsort, List.length_append]
      have ih := fill_loop h hg hr M n (srtN (ch ++ stuckL xs ls rs ch)) (srt_ok (stuck_ok hc hr)) (by omega)
      have so := stuck_ok (ls := ls) hc hr
      have hle := so.le
      rw [List.length_append] at hle
      have ad := add_tn (a := ch) (b := stuckL xs ls rs ch) (by omega)
      have so2 := zSort_n (l := ch ++ stuckL xs ls rs ch) (by rw [List.length_append]; omega)
      have st := e_stuck (rs := rs) h hg (srtN (ch ++ stuckL xs ls rs ch))
      have tu : ∀ M, zTuple [.p (.list (pnats (srtN (ch ++ stuckL xs ls rs ch))))] M = .ok (.p (tnats (srtN (ch ++ stuckL xs ls rs ch)))) M := fun M => by unfold zTuple; simp
      have hd : decide (stuckL xs ls rs ch = []) = false := decide_eq_false hs
      rw [hd] at ne
      have so3 : ∀ M, zSort [.p (tnats (ch ++ stuckL xs ls rs ch))] M = .ok (.p (.list (pnats (srtN (ch ++ stuckL xs ls rs ch))))) M := so2
      obtain ⟨p, hp⟩ : ∃ p, p = prg xs ls rs := ⟨_, rfl⟩
      rw [← hp] at st ih ⊢
      obtain ⟨t1, ht1⟩ : ∃ t, t = tnats (stuckL xs ls rs ch) := ⟨_, rfl⟩
      obtain ⟨t2, ht2⟩ : ∃ t, t = tnats (ch ++ stuckL xs ls rs ch) := ⟨_, rfl⟩
      obtain ⟨c2, hc2⟩ : ∃ t, t = srtN (ch ++ stuckL xs ls rs ch) := ⟨_, rfl⟩
      rw [← hc2] at ih so3 st tu ⊢
      rw [← ht1] at ne ad ⊢
      rw [← ht2] at ad so3
      have eb : L_filled_up_1 [some (.p p), some (.p (tnats ch)), some (.p t1)] M = .nx [some (.p p), some (.p (tnats c2)), some (.p (tnats (stuckL xs ls rs c2)))] M := by
        simp [-zTuple_l, L_filled_up_1, ad, so3, tu, st]
      simp [mkTup, ne, eb, ih]
theorem e_filled {xs : List Itm} {ls rs : List Int} (h : LOk xs ls) (hg : GOk xs) (hr : rs.length = (places Itm.isJ xs).length) (h8 : (places Itm.isJ xs).length ≤ 60) {ch : List Nat} (hc : ChOk xs ch) (M : Store) :
    F_filled_up [.p (prg xs ls rs), .p (tnats ch)] M = .ok (.p (tnats (fillA xs ls rs ch))) M := by
  apply fn_rt0
  have st := e_stuck (rs := rs) h hg ch
  have lo := fill_loop h hg hr M 64 ch hc (by omega)
  obtain ⟨p, hp⟩ : ∃ p, p = prg xs ls rs := ⟨_, rfl⟩
  rw [← hp] at st lo ⊢
  unfold c_filled_up swhile
  simp [st, lo, fillA]
end ZL

namespace ZL
open PySem PySem.Spec PyProof.Rows L2 Z
theorem e_step_of {xs : List Itm} (h : xs.length ≤ 1000) (M : Store) : F_step_of [.p (sk xs)] M = .ok (.p (.int (topF xs))) M := by
  apply fn_rt0
  have co : ∀ Q : Store, compP (tgN 1) (zt (z2 zEq (z2 zIx (zv 1) (zk (.int 0))) (zk (.str "fill")))) (z2 zIx (zv 1) (zk (.int 1))) [some (.p (sk xs)), none] (xs.map fun x => D.p x.enc) Q = .ok ((pints (fillsOf xs)).map .p) Q := fun Q => by
    rw [compP_map (M := Q) (fun x => D.p x.enc) Itm.isF (fun x => .p (.int x.sz))]
    · simp [pints, fillsOf]
    · intro x _
      refine ⟨_, rfl, by simp, fun hx => ?_⟩
      simp [ix_sz _ hx]
  have hl := len_fills xs
  have fz : ∀ Q, frzl ((pints (fillsOf xs)).map .p) Q = .ok (.p (.list (pints (fillsOf xs)))) Q := fun Q => by rw [frzl_map, if_pos (by simp; omega)]
  have ad : ∀ M, zAdd (.p (.list [.int 1])) (.p (.list (pints (fillsOf xs)))) M = .ok (.p (.list (pints (1 :: fillsOf xs)))) M := fun M => by
    simp only [zAdd, zAddL, lstv_p]
    rw [← List.map_append, frzl_map, if_pos (by simp; omega)]
    simp [pints]
  have mx : ∀ M, zMax [.p (.list (pints (1 :: fillsOf xs)))] M = .ok (.p (.int (topF xs))) M := fun M => by
    simp [zMax, pints, topF]
  obtain ⟨fs, hfs⟩ : ∃ fs, fs = pints (fillsOf xs) := ⟨_, rfl⟩
  rw [← hfs] at co fz ad
  obtain ⟨f1, hf1⟩ : ∃ f1, f1 = pints (1 :: fillsOf xs) := ⟨_, rfl⟩
  rw [← hf1] at ad mx
  simp [-frzl_map, c_step_of, mkLstF, wipeS, co, fz, ad, mx]
theorem e_way_of {xs : List Itm} {ls : List Int} (h : LOk xs ls) (hg : GOk xs) {ch : List Nat} (hcl : ch.length ≤ 1000) {j : Nat} (hj : j ∈ places Itm.isJ xs) (hn : j ∉ ch) (M : Store) :
    F_way_of [.p (sk xs), .p (.tuple (pints ls)), .p (tnats ch), .p (.int (j : Int))] M = .ok (.p (.int (wayOf xs ls ch j))) M := by
  apply fn_rt0
  have hx := jmp_at hj
  have hjl := (List.getElem?_eq_some_iff.mp hx).1
  have la : ∀ M, F_laid [.p (sk xs), .p (.tuple (pints ls)), .p (tnats ch)] M = .ok (.p (.tuple ((spots xs ls ch).map encQ))) M := e_laid h ch
  have sl := spots_len xs ls ch
  have hgl := hg j hj
  have wb := e_way_between (sp := spots xs ls ch) hx (by omega) (by omega)
  have co : ∀ Q : Store, compP (tgN 5) (zt (z2 zNe (zv 5) (zv 3))) (zv 5) [some (.p (sk xs)), some (.p (.tuple (pints ls))), some (.p (tnats ch)), some (.p (.int (j : Int))), none, none] (ch.map fun k : Nat => D.p (.int (k : Int))) Q = .ok ((pnats ch).map .p) Q := fun Q => by
    rw [compP_map (M := Q) (fun k : Nat => D.p (.int (k : Int))) (fun _ => true) (fun k => D.p (.int (k : Int)))]
    · rw [List.filter_eq_self.mpr fun _ _ => rfl, dp_pnats]
    · intro k hk
      refine ⟨_, rfl, ?_, fun _ => rfl⟩
      have : ¬ (k : Int) = (j : Int) := fun e => by
        have e2 : k = j := by omega
        exact hn (e2 ▸ hk)
      simp [this]
  have it : ∀ Q, itemsOf (.p (tnats ch)) Q = .ok (ch.map fun k : Nat => D.p (.int (k : Int))) Q := fun Q => by unfold tnats; rw [itemsOf_t, dp_pnats]
  have fz : ∀ Q, frzl ((pnats ch).map .p) Q = .ok (.p (.list (pnats ch))) Q := fun Q => by rw [frzl_map, if_pos (by simp; omega)]
  have tu : ∀ Q, zTuple [.p (.list (pnats ch))] Q = .ok (.p (tnats ch)) Q := fun Q => by unfold zTuple; simp
  have hw : wayIn (spots xs ls ch) j (goal xs j) = wayOf xs ls ch j := rfl
  rw [hw] at wb
  obtain ⟨sp, hsp⟩ : ∃ sp, sp = PyData.tuple ((spots xs ls ch).map encQ) := ⟨_, rfl⟩
  rw [← hsp] at la wb
  simp [-frzl_map, -zTuple_l, c_way_of, it, wipeS, co, fz, tu, la, wb]
/-- the length at place p lies in the jump's way -/
def holdsB (xs : List Itm) (j p : Nat) : Bool := decide (lowA xs j < p ∧ p ≤ highA xs j)
theorem e_holds {xs : List Itm} {j : Nat} (hj : j ∈ places Itm.isJ xs) (p : Nat) (M : Store) : F_holds_length [.p (sk xs), .p (.int (j : Int)), .p (.int (p : Int))] M = .ok (.p (.bool (holdsB xs j p))) M := by
  apply fn_rt0
  have hx := jmp_at hj
  obtain ⟨lo, hlo⟩ : ∃ lo, lo = lowA xs j := ⟨_, rfl⟩
  obtain ⟨hi, hhi⟩ : ∃ hi, hi = highA xs j := ⟨_, rfl⟩
  have em : ∀ M, zMin [.p (.int (j : Int)), .p (.int (goal xs j : Int))] M = .ok (.p (.int (lo : Int))) M := fun M => by
    rw [zMin_2, show min (j : Int) (goal xs j) = (lo : Int) by rw [hlo]; unfold lowA; omega]
  have eM : ∀ M, zMax [.p (.int (j : Int)), .p (.int (goal xs j : Int))] M = .ok (.p (.int (hi : Int))) M := fun M => by
    rw [zMax_2, show max (j : Int) (goal xs j) = (hi : Int) by rw [hhi]; unfold highA; omega]
  unfold holdsB
  rw [← hlo, ← hhi]
  by_cases h1 : lo < p
  · by_cases h2 : p ≤ hi
    · simp [-zMin_2, -zMax_2, c_holds_length, ix_sk _ hx, Itm.enc, em, eM, h1, h2]
    · simp [-zMin_2, -zMax_2, c_holds_length, ix_sk _ hx, Itm.enc, em, eM, h1, h2]
  · simp [-zMin_2, -zMax_2, c_holds_length, ix_sk _ hx, Itm.enc, em, eM, h1]
/-- one length made greater -/
def longer (ls : List Int) (p : Nat) (m : Int) : List Int := ls.set p (lnA ls p + m)
theorem longer_len (ls : List Int) (p : Nat) (m : Int) : (longer ls p m).length = ls.length := by simp [longer]
theorem longer_at (ls : List Int) (p : Nat) (m : Int) (hp : p < ls.length) (k : Nat) : lnA (longer ls p m) k = lnA ls k + if k = p then m else 0 := by
  unfold longer lnA
  rw [List.getD_eq_getElem?_getD, List.getElem?_set, List.getD_eq_getElem?_getD, List.getD_eq_getElem?_getD]
  by_cases h : k = p
  · subst h
    rw [if_pos rfl, if_pos hp, if_pos rfl]
    rfl
  · rw [if_neg (fun e => h e.symm), if_neg h, Int.add_zero]
theorem e_lengthened {ls : List Int} {p : Nat} (hp : p < ls.length) (hl : ls.length ≤ 1000) (m : Int) (M : Store) : F_lengthened [.p (.tuple (pints ls)), .p (.int (p : Int)), .p (.int m)] M = .ok (.p (.tuple (pints (longer ls p m)))) M := by
  apply fn_rt0
  have il := ls_at (ls := ls) (p := p) hp
  have s1 : ∀ M, zSl (.p (.tuple (pints ls))) none (some (p : Int)) M = .ok (.p (.tuple (pints (ls.take p)))) M := fun M => by
    rw [zSl_t, cutG__n, pints, pints, List.map_take]
  have s2 : ∀ M, zSl (.p (.tuple (pints ls))) (some ((p : Int) + 1)) none M = .ok (.p (.tuple (pints (ls.drop (p + 1))))) M := fun M => by
    rw [zSl_t, show ((p : Int) + 1) = ((p + 1 : Nat) : Int) by omega, cutG_n_, pints, pints, List.map_drop]
  have e : longer ls p m = ls.take p ++ [lnA ls p + m] ++ ls.drop (p + 1) := by
    unfold longer
    rw [List.set_eq_take_append_cons_drop, if_pos hp]
    simp
  have ad : ∀ (a b : List Int) (M : Store), a.length + b.length ≤ 2000 → zAdd (.p (.tuple (pints a))) (.p (.tuple (pints b))) M = .ok (.p (.tuple (pints (a ++ b)))) M := fun a b M h => by
    have : a.length + b.length ≤ 16777216 := by omega
    simp [zAdd, pints, this]
  have a1 := fun M => ad (ls.take p) [lnA ls p + m] M (by simp; omega)
  have a2 := fun M => ad (ls.take p ++ [lnA ls p + m]) (ls.drop (p + 1)) M (by simp; omega)
  have o1 : pints [lnA ls p + m] = [.int (lnA ls p + m)] := rfl
  rw [o1] at a1
  rw [e]
  obtain ⟨t1, ht1⟩ : ∃ t, t = pints (ls.take p) := ⟨_, rfl⟩
  obtain ⟨t2, ht2⟩ : ∃ t, t = pints (ls.take p ++ [lnA ls p + m]) := ⟨_, rfl⟩
  obtain ⟨t3, ht3⟩ : ∃ t, t = pints (ls.drop (p + 1)) := ⟨_, rfl⟩
  obtain ⟨t4, ht4⟩ : ∃ t, t = pints (ls.take p ++ [lnA ls p + m] ++ ls.drop (p + 1)) := ⟨_, rfl⟩
  rw [← ht1] at s1 a1
  rw [← ht2] at a1 a2
  rw [← ht3] at s2 a2
  rw [← ht4] at a2 ⊢
  simp [-zSl_t, c_lengthened, s1, s2, il, mkTup, a1, a2]
/-! ### steps wanted -/
def wantB (xs : List Itm) (ch : List Nat) (p : Nat) (q : Nat × Int) : Bool := !decide (q.1 ∈ ch) && holdsB xs q.1 p
def wantOf (xs : List Itm) (ls : List Int) (ch : List Nat) (step : Int) (q : Nat × Int) : Int := (q.2 - wayOf xs ls ch q.1) / step + 1
def wants (xs : List Itm) (ls rs : List Int) (ch : List Nat) (p : Nat) (step : Int) : List Int := (((places Itm.isJ xs).zip rs).filter (wantB xs ch p)).map (wantOf xs ls ch step)
def minL : List Int → Option Int
  | [] => none
  | n :: ns => some (ns.foldl min n)
def optP : Option Int → P
  | none => .none
  | some n => .int n
theorem foldl_min_le : ∀ (ns : List Int) (n : Int), ns.foldl min n ≤ n ∧ (∀ x ∈ ns, ns.foldl min n ≤ x) ∧ (ns.foldl min n = n ∨ ns.foldl min n ∈ ns)
  | [], n => ⟨Int.le_refl _, (fun _ h => nomatch h), .inl rfl⟩
  | m :: ns, n => by
    obtain ⟨h1, h2, h3⟩ := foldl_min_le ns (min n m)
    rw [List.foldl_cons]
    refine ⟨by omega, fun x hx => ?_, ?_⟩
    · rcases List.mem_cons.mp hx with rfl | hx
      · omega
      · exact h2 x hx
    · rcases h3 with h3 | h3
      · rw [h3]
        by_cases h : n ≤ m
        · exact .inl (by omega)
        · exact .inr (by rw [show min n m = m by omega]; exact List.mem_cons_self ..)
      · exact .inr (List.mem_cons_of_mem _ h3)
theorem minL_spec {l : List Int} {n : Int} (h : minL l = some n) : n ∈ l ∧ ∀ x ∈ l, n ≤ x := by
  cases l with
  | nil => cases h
  | cons a l =>
    cases h
    obtain ⟨h1, h2, h3⟩ := foldl_min_le l a
    refine ⟨?_, fun x hx => ?_⟩
    · rcases h3 with h3 | h3
      · rw [h3]; exact List.mem_cons_self ..
      · exact List.mem_cons_of_mem _ h3
    · rcases List.mem_cons.mp hx with rfl | hx
      · exact h1
      · exact h2 x hx
theorem app_i {M R : Store} {ys : List Int} {y : Int} (h : ys.length < 1000) : zAppend (.ref M.length) [.p (.int y)] (M ++ .lst ((pints ys).map .p) :: R) = .ok (.p .none) (M ++ .lst ((pints (ys ++ [y])).map .p) :: R) := by
  rw [zAppend_e]
  have : ys.length < 16777216 := by omega
  simp [this, pints]
theorem e_steps {xs : List Itm} {ls rs : List Int} (h : LOk xs ls) (hg : GOk xs) {ch : List Nat} (hcl : ch.length ≤ 1000) (p : Nat) {step : Int} (hs : 0 < step ∧ step ≤ 1000) (M : Store) :
    F_steps_wanted [.p (prg xs ls rs), .p (tnats ch), .p (.int (p : Int)), .p (.int step)] M = .ok (.p (optP (minL (wants xs ls rs ch p step)))) M := by
  have h1 := h.1
  have jo := e_jumps_of (xs := xs) (by omega)
  have hpl := len_places Itm.isJ xs
  apply fn_satN
  simp [c_steps_wanted, prg, jo, zzip, zip_ni]
  refine forP_seq _ _ (fun done sl M' => ∃ d8 d9, sl = [some (D.p (PyData.tuple [sk xs, PyData.tuple (pints ls), PyData.tuple (pints rs)])), some (D.p (tnats ch)), some (.p (.int (p : Int))), some (.p (.int step)), some (D.p (sk xs)), some (D.p (PyData.tuple (pints ls))),
      some (D.p (PyData.tuple (pints rs))), some (D.ref M.length), d8, d9] ∧ M' = M ++ [.lst ((pints ((done.filter (wantB xs ch p)).map (wantOf xs ls ch step))).map .p)])
    ⟨none, none, rfl, rfl⟩ ?_ ?_
  · rintro done ⟨j, r⟩ rest sl' M' e ⟨d8, d9, rfl, rfl⟩
    have hz : (j, r) ∈ (places Itm.isJ xs).zip rs := by rw [e]; simp
    have hj : j ∈ places Itm.isJ xs := zip_mem hz
    have hd : ((done.filter (wantB xs ch p)).map (wantOf xs ls ch step)).length ≤ 200 := by
      rw [List.length_map]
      have h2 := List.length_filter_le (wantB xs ch p) done
      have h4 := congrArg List.length e
      rw [List.length_zip] at h4
      simp at h4
      omega
    have ho := e_holds hj p
    refine ⟨_, rfl, ?_⟩
    rw [List.filter_append, List.map_append]
    obtain ⟨acc, ha⟩ : ∃ a, a = (done.filter (wantB xs ch p)).map (wantOf xs ls ch step) := ⟨_, rfl⟩
    rw [← ha] at hd ⊢
    by_cases hc : j ∈ ch
    · have e0 : ([(j, r)].filter (wantB xs ch p)).map (wantOf xs ls ch step) = [] := by simp [wantB, hc]
      rw [e0, List.append_nil]
      have ni := zin_tn true j ch
      simp [hc] at ni
      have ni' : ∀ M, zNotIn (.p (.int (j : Int))) (.p (tnats ch)) M = .ok (.p (.bool false)) M := fun M => by unfold zNotIn tnats; rw [zin_tn]; simp [hc]
      simp [-List.map_map, L_steps_wanted_1, ni', Sat]
    · have ni' : ∀ M, zNotIn (.p (.int (j : Int))) (.p (tnats ch)) M = .ok (.p (.bool true)) M := fun M => by unfold zNotIn tnats; rw [zin_tn]; simp [hc]
      by_cases hh : holdsB xs j p = true
      · have e0 : ([(j, r)].filter (wantB xs ch p)).map (wantOf xs ls ch step) = [wantOf xs ls ch step (j, r)] := by simp [wantB, hc, hh]
        rw [e0]
        rw [hh] at ho
        have wy := e_way_of h hg hcl hj hc
        have ap := app_i (M := M) (R := []) (ys := acc) (y := wantOf xs ls ch step (j, r)) (by omega)
        have hw : (r - wayOf xs ls ch j) / step + 1 = wantOf xs ls ch step (j, r) := rfl
        have hs2 : step < 1073741824 := by omega
        simp [-zAppend_e, -List.map_map, -List.map_append, L_steps_wanted_1, ni', ho, wy, hs.1, hs2, hw, ap, Sat]
      · have hh' : holdsB xs j p = false := Bool.eq_false_iff.mpr hh
        have e0 : ([(j, r)].filter (wantB xs ch p)).map (wantOf xs ls ch step) = [] := by simp [wantB, hh']
        rw [e0, List.append_nil]
        rw [hh'] at ho
        simp [-List.map_map, L_steps_wanted_1, ni', ho, Sat]
  · rintro sl' M' ⟨d8, d9, rfl, rfl⟩
    have hlen : (wants xs ls rs ch p step).length ≤ 200 := by
      unfold wants
      rw [List.length_map]
      refine Nat.le_trans (List.length_filter_le _ _) ?_
      rw [List.length_zip]
      omega
    have ew : (((places Itm.isJ xs).zip rs).filter (wantB xs ch p)).map (wantOf xs ls ch step) = wants xs ls rs ch p step := rfl
    rw [ew]
    obtain ⟨w, hw⟩ : ∃ w, w = wants xs ls rs ch p step := ⟨_, rfl⟩
    rw [← hw]
    have ne := ne_nil_ref (M := M ++ [Ob.lst ((pints w).map .p)]) (i := M.length) (xs := pints w) (by simp) fun x hx => by
      obtain ⟨i, _, rfl⟩ := List.mem_map.mp hx
      exact cmp_int i
    cases w with
    | nil => simp [pints, mkLstF, minL, optP, Sat] at ne ⊢; simp [ne, Sat]
    | cons n ns =>
      have mi : zMin [.ref M.length] (M ++ [Ob.lst ((pints (n :: ns)).map .p)]) = .ok (.p (.int (ns.foldl min n))) (M ++ [Ob.lst ((pints (n :: ns)).map .p)]) := by
        unfold zMin
        simp only [lstv_app0]
        have : intsOf ((pints (n :: ns)).map D.p) = some (n :: ns) := by
          have := intsOf_map (n :: ns)
          rw [pints, List.map_map]
          exact this
        simp [lstv, this]
      have hd : decide (pints (n :: ns) = []) = false := by simp [pints]
      rw [hd] at ne
      simp [-List.map_cons, mkLstF, minL, optP, ne, mi, Sat]
end ZL

namespace ZL
open PySem PySem.Spec PyProof.Rows L2 Z
/-! ### where items stand, by recursion -/
def preE (sp : List (Int × Int)) (k : Nat) : Int := if k = 0 then 0 else en sp (k - 1)
theorem en_app {a b : List (Int × Int)} {k : Nat} (h : k < a.length) : en (a ++ b) k = en a k := by
  unfold en
  rw [List.getD_eq_getElem?_getD, List.getElem?_append_left h, List.getD_eq_getElem?_getD]
theorem bg_app {a b : List (Int × Int)} {k : Nat} (h : k < a.length) : bg (a ++ b) k = bg a k := by
  unfold bg
  rw [List.getD_eq_getElem?_getD, List.getElem?_append_left h, List.getD_eq_getElem?_getD]
theorem bg_last {a : List (Int × Int)} {q : Int × Int} {k : Nat} (h : k = a.length) : bg (a ++ [q]) k = q.1 ∧ en (a ++ [q]) k = q.2 := by
  subst h
  unfold bg en
  simp [List.getD_eq_getElem?_getD]
theorem spots_rec {xs : List Itm} (ls : List Int) (ch : List Nat) {k : Nat} {x : Itm} (hx : xs[k]? = some x) :
    bg (spots xs ls ch) k = preE (spots xs ls ch) k + lnA ls k ∧ en (spots xs ls ch) k = bg (spots xs ls ch) k + bytesAt x (bg (spots xs ls ch) k) (decide (k ∈ ch)) := by
  have hz : ∀ (i : Nat) (y : Itm × Nat), xs.zipIdx[i]? = some y → y.2 = i ∧ xs[i]? = some y.1 := fun i y hy => by
    rw [List.getElem?_zipIdx] at hy
    cases e : xs[i]? with
    | none => rw [e] at hy; cases hy
    | some z => rw [e] at hy; cases hy; exact ⟨by simp, rfl⟩
  have go : ∀ n, n ≤ xs.length → (spotF ls ch (xs.zipIdx.take n)).1.length = n ∧ ((spotF ls ch (xs.zipIdx.take n)).2 = preE (spotF ls ch (xs.zipIdx.take n)).1 n) ∧ ∀ k x, k < n → xs[k]? = some x →
      bg (spotF ls ch (xs.zipIdx.take n)).1 k = preE (spotF ls ch (xs.zipIdx.take n)).1 k + lnA ls k ∧ en (spotF ls ch (xs.zipIdx.take n)).1 k = bg (spotF ls ch (xs.zipIdx.take n)).1 k + bytesAt x (bg (spotF ls ch (xs.zipIdx.take n)).1 k) (decide (k ∈ ch)) := by
    intro n
    induction n with
    | zero => intro _; exact ⟨rfl, rfl, fun k x h => absurd h (Nat.not_lt_zero _)⟩
    | succ n ih =>
      intro hn
      obtain ⟨i1, i2, i3⟩ := ih (by omega)
      have hl : n < xs.zipIdx.length := by rw [List.length_zipIdx]; omega
      have ht : xs.zipIdx.take (n + 1) = xs.zipIdx.take n ++ [xs.zipIdx[n]] := by rw [List.take_succ_eq_append_getElem hl]
      obtain ⟨e1, e2⟩ := hz n _ (List.getElem?_eq_getElem hl)
      rw [ht, spotF_snoc]
      obtain ⟨⟨y, m⟩, hy⟩ : ∃ y, y = xs.zipIdx[n] := ⟨_, rfl⟩
      rw [← hy] at e1 e2 ⊢
      simp only at e1 e2
      subst e1
      obtain ⟨acc, here, hs⟩ : ∃ (a : List (Int × Int)) (b : Int), (a, b) = spotF ls ch (xs.zipIdx.take m) := ⟨_, _, rfl⟩
      rw [← hs] at i1 i2 i3 ⊢
      simp only at i1 i2 i3
      have hb := bg_last (a := acc) (q := (here + lnA ls m, here + lnA ls m + bytesAt y (here + lnA ls m) (decide (m ∈ ch)))) (k := m) i1.symm
      have hp : ∀ k, k ≤ m → preE (acc ++ [(here + lnA ls m, here + lnA ls m + bytesAt y (here + lnA ls m) (decide (m ∈ ch)))]) k = preE acc k := fun k hk => by
        unfold preE
        by_cases h0 : k = 0
        · rw [if_pos h0, if_pos h0]
        · rw [if_neg h0, if_neg h0, en_app (by omega)]
      refine ⟨by simp [spotStep, i1], ?_, fun k x hk hx => ?_⟩
      · show here + lnA ls m + bytesAt y (here + lnA ls m) (decide (m ∈ ch)) = _
        unfold preE
        rw [if_neg (by omega)]
        show _ = en (acc ++ [_]) (m + 1 - 1)
        rw [Nat.add_sub_cancel, hb.2]
      · show bg (acc ++ [_]) k = preE (acc ++ [_]) k + _ ∧ en (acc ++ [_]) k = bg (acc ++ [_]) k + bytesAt x (bg (acc ++ [_]) k) _
        by_cases hkm : k < m
        · rw [hp k (by omega), bg_app (by omega), en_app (by omega)]
          exact i3 k x hkm hx
        · have hkm : k = m := by omega
          subst hkm
          rw [hx] at e2
          cases e2
          rw [hp k (Nat.le_refl _), hb.1, hb.2, ← i2]
          exact ⟨rfl, rfl⟩
  have hk := (List.getElem?_eq_some_iff.mp hx).1
  have := (go xs.length (Nat.le_refl _)).2.2 k x hk hx
  rw [List.take_of_length_le (by rw [List.length_zipIdx]; exact Nat.le_refl _)] at this
  exact this
theorem bytes_shift {x : Itm} {b D : Int} {c : Bool} (h : ∀ s, x = .fil s → D % s = 0) : bytesAt x (b + D) c = bytesAt x b c := by
  cases x with
  | lab => rfl
  | jmp g s l => rfl
  | fil s =>
    have := h s rfl
    show (-(b + D)) % s = (-b) % s
    obtain ⟨t, ht⟩ := Int.dvd_of_emod_eq_zero this
    have e : -(b + D) = -b + s * (-t) := by rw [ht, Int.neg_add, Int.mul_neg]
    rw [e, Int.add_mul_emod_self_left]
/-- all behind a length goes on by what it grows, where every fill divides that -/
theorem spots_longer {xs : List Itm} {ls : List Int} (ch : List Nat) {p : Nat} (hp : p < ls.length) {D : Int} (hD : ∀ s, Itm.fil s ∈ xs → D % s = 0) : ∀ (k : Nat) (x : Itm), xs[k]? = some x →
    bg (spots xs (longer ls p D) ch) k = bg (spots xs ls ch) k + (if p ≤ k then D else 0) ∧ en (spots xs (longer ls p D) ch) k = en (spots xs ls ch) k + (if p ≤ k then D else 0) := by
  intro k
  induction k with
  | zero =>
    intro x hx
    obtain ⟨a1, a2⟩ := spots_rec ls ch hx
    obtain ⟨b1, b2⟩ := spots_rec (longer ls p D) ch hx
    have l0 := longer_at ls p D hp 0
    have e : bg (spots xs (longer ls p D) ch) 0 = bg (spots xs ls ch) 0 + (if p ≤ 0 then D else 0) := by
      rw [b1, a1, l0]
      simp only [preE, if_true]
      split <;> split <;> omega
    refine ⟨e, ?_⟩
    rw [b2, a2, e]
    split
    · rw [bytes_shift fun s hs => hD s (by rw [← hs]; exact List.mem_of_getElem? hx)]; omega
    · rw [Int.add_zero, Int.add_zero]
  | succ k ih =>
    intro x hx
    have hk := (List.getElem?_eq_some_iff.mp hx).1
    obtain ⟨c1, c2⟩ := ih xs[k] (List.getElem?_eq_getElem (by omega))
    obtain ⟨a1, a2⟩ := spots_rec ls ch hx
    obtain ⟨b1, b2⟩ := spots_rec (longer ls p D) ch hx
    have l0 := longer_at ls p D hp (k + 1)
    have e : bg (spots xs (longer ls p D) ch) (k + 1) = bg (spots xs ls ch) (k + 1) + (if p ≤ k + 1 then D else 0) := by
      have pe : ∀ sp, preE sp (k + 1) = en sp k := fun sp => by unfold preE; rw [if_neg (by omega), Nat.add_sub_cancel]
      rw [b1, a1, l0, pe, pe, c2]
      split <;> split <;> split <;> omega
    refine ⟨e, ?_⟩
    rw [b2, a2, e]
    split
    · rw [bytes_shift fun s hs => hD s (by rw [← hs]; exact List.mem_of_getElem? hx)]; omega
    · rw [Int.add_zero, Int.add_zero]
theorem way_longer {xs : List Itm} {ls : List Int} (hg : GOk xs) (ch : List Nat) {p : Nat} (hp : p < ls.length) {D : Int} (hD : ∀ s, Itm.fil s ∈ xs → D % s = 0) {j : Nat} (hj : j ∈ places Itm.isJ xs) :
    wayOf xs (longer ls p D) ch j = wayOf xs ls ch j + (if holdsB xs j p = true then D else 0) := by
  have hx := jmp_at hj
  have hgl := hg j hj
  obtain ⟨_, e1⟩ := spots_longer (xs := xs) ch hp hD j _ hx
  obtain ⟨b1, e2⟩ := spots_longer (xs := xs) ch hp hD (goal xs j) _ (List.getElem?_eq_getElem hgl)
  obtain ⟨c1, _⟩ := spots_longer (xs := xs) ch hp hD j _ hx
  unfold wayOf wayIn
  rw [e1, b1]
  have hb : holdsB xs j p = true ↔ min j (goal xs j) < p ∧ p ≤ max j (goal xs j) := by unfold holdsB lowA highA; simp
  by_cases hh : holdsB xs j p = true
  · rw [if_pos hh]
    rw [hb] at hh
    by_cases hlt : j < goal xs j
    · rw [if_pos hlt, if_pos hlt, if_pos (by omega), if_neg (by omega)]; omega
    · rw [if_neg hlt, if_neg hlt, if_pos (by omega), if_neg (by omega)]; omega
  · rw [if_neg hh]
    rw [hb] at hh
    by_cases hlt : j < goal xs j
    · rw [if_pos hlt, if_pos hlt]
      by_cases h1 : p ≤ j
      · rw [if_pos h1, if_pos (by omega)]; omega
      · rw [if_neg h1, if_neg (by omega)]; omega
    · rw [if_neg hlt, if_neg hlt]
      by_cases h1 : p ≤ j
      · rw [if_pos h1, if_pos (by omega)]; omega
      · rw [if_neg h1, if_neg (by omega)]; omega
end ZL

namespace ZL
open PySem PySem.Spec PyProof.Rows L2 Z
/-- the turns of turning: lengthen by the fewest steps that make one more long -/
def turnU (xs : List Itm) (rs : List Int) (p jump : Nat) (step : Int) : Nat → List Int → Int → List Nat → Option Int
  | 0, _, _, _ => none
  | n + 1, ls, many, ch => if jump ∈ ch then some many else match minL (wants xs ls rs ch p step) with
    | none => none
    | some m => turnU xs rs p jump step n (longer ls p (m * step)) (many + m) (fillA xs (longer ls p (m * step)) rs ch)
theorem mem_wants {xs : List Itm} {ls rs : List Int} {ch : List Nat} {p : Nat} {step m : Int} : m ∈ wants xs ls rs ch p step ↔ ∃ j r, (j, r) ∈ (places Itm.isJ xs).zip rs ∧ j ∉ ch ∧ holdsB xs j p = true ∧ m = (r - wayOf xs ls ch j) / step + 1 := by
  unfold wants
  rw [List.mem_map]
  constructor
  · rintro ⟨⟨j, r⟩, h, rfl⟩
    obtain ⟨h1, h2⟩ := List.mem_filter.mp h
    simp [wantB] at h2
    exact ⟨j, r, h1, h2.1, h2.2, rfl⟩
  · rintro ⟨j, r, h1, h2, h3, rfl⟩
    exact ⟨(j, r), List.mem_filter.mpr ⟨h1, by simp [wantB, h2, h3]⟩, rfl⟩
theorem not_stuck {xs : List Itm} {ls rs : List Int} {ch : List Nat} (h : stuckL xs ls rs ch = []) {j : Nat} {r : Int} (hz : (j, r) ∈ (places Itm.isJ xs).zip rs) (hn : j ∉ ch) : wayOf xs ls ch j ≤ r := by
  refine Int.not_lt.mp fun hlt => ?_
  have := mem_stuck.mpr ⟨r, hz, hn, hlt⟩
  rw [h] at this
  cases this
theorem want_pos {xs : List Itm} {ls rs : List Int} {ch : List Nat} (h : stuckL xs ls rs ch = []) {p : Nat} {step m : Int} (hs : 0 < step) (hm : m ∈ wants xs ls rs ch p step) : 1 ≤ m := by
  obtain ⟨j, r, h1, h2, h3, rfl⟩ := mem_wants.mp hm
  have := not_stuck h h1 h2
  have := Int.ediv_nonneg (show 0 ≤ r - wayOf xs ls ch j by omega) (Int.le_of_lt hs)
  omega
/-- what each fill divides -/
def Steps (xs : List Itm) (step : Int) : Prop := 0 < step ∧ step ≤ 1000 ∧ ∀ s, Itm.fil s ∈ xs → step % s = 0
theorem Steps.mul {xs : List Itm} {step : Int} (h : Steps xs step) (m : Int) : ∀ s, Itm.fil s ∈ xs → (m * step) % s = 0 := fun s hs => by
  rw [Int.mul_emod, h.2.2 s hs, Int.mul_zero, Int.zero_emod]
theorem top_steps {xs : List Itm} (hf : FilP xs) : Steps xs (topF xs) := by
  have hp := topF_isP _ xs rfl hf
  refine ⟨by rcases hp with h | h | h | h | h | h | h <;> omega, by rcases hp with h | h | h | h | h | h | h <;> omega, fun s hs => ?_⟩
  have h1 := isP2 (hf s hs)
  have h2 := topF_ge hs
  rcases hp with h | h | h | h | h | h | h <;> rw [h] at h2 ⊢ <;> rcases h1 with e | e | e | e | e | e <;> subst e <;> first | omega | decide
/-- a turn makes one more long -/
theorem turn_more {xs : List Itm} {ls rs : List Int} (hg : GOk xs) {ch : List Nat} {p : Nat} (hp : p < ls.length) {step m : Int} (hs : Steps xs step) (hm : minL (wants xs ls rs ch p step) = some m) : ∃ j, j ∈ stuckL xs (longer ls p (m * step)) rs ch := by
  obtain ⟨j, r, h1, h2, h3, e⟩ := mem_wants.mp (minL_spec hm).1
  have hj := (List.of_mem_zip h1).1
  refine ⟨j, mem_stuck.mpr ⟨r, h1, h2, ?_⟩⟩
  rw [way_longer hg ch hp (hs.mul m) hj, if_pos h3]
  have := Int.lt_ediv_add_one_mul_self (r - wayOf xs ls ch j) hs.1
  rw [← e] at this
  omega
theorem longer_ok {xs : List Itm} {ls : List Int} (h : LOk xs ls) (p : Nat) (m : Int) : LOk xs (longer ls p m) := ⟨h.1, by rw [longer_len]; exact h.2.1, h.2.2⟩
/-- a choice that turning comes to -/
def Tn (xs : List Itm) (ls rs : List Int) (ch : List Nat) : Prop := ChOk xs ch ∧ stuckL xs ls rs ch = []
theorem turn_next {xs : List Itm} {ls rs : List Int} (hg : GOk xs) (hr : rs.length = (places Itm.isJ xs).length) (h8 : (places Itm.isJ xs).length ≤ 60) {ch : List Nat} {p : Nat} (hp : p < ls.length) {step m : Int} (hs : Steps xs step) (ht : Tn xs ls rs ch) (hm : minL (wants xs ls rs ch p step) = some m) :
    Tn xs (longer ls p (m * step)) rs (fillA xs (longer ls p (m * step)) rs ch) ∧ ch.length < (fillA xs (longer ls p (m * step)) rs ch).length ∧ ∀ j ∈ ch, j ∈ fillA xs (longer ls p (m * step)) rs ch := by
  obtain ⟨f1, f2, f3, f4⟩ := fill_ok (ls := longer ls p (m * step)) hr 64 ch ht.1 (by omega)
  obtain ⟨j, hj⟩ := turn_more hg hp hs hm
  obtain ⟨r, _, hn, _⟩ := mem_stuck.mp hj
  refine ⟨⟨f1, f4⟩, ?_, f2⟩
  have := nodup_le (l := j :: ch) (m := fillA xs (longer ls p (m * step)) rs ch) (List.nodup_cons.mpr ⟨hn, ht.1.1⟩) fun i hi => by
    rcases List.mem_cons.mp hi with rfl | hi
    · exact f3 _ hj
    · exact f2 _ hi
  rw [List.length_cons] at this
  omega
theorem turn_ge {xs : List Itm} {rs : List Int} (hg : GOk xs) (hr : rs.length = (places Itm.isJ xs).length) (h8 : (places Itm.isJ xs).length ≤ 60) {p jump : Nat} {step : Int} (hs : Steps xs step) : ∀ (n : Nat) (ls : List Int) (many : Int) (ch : List Nat), p < ls.length → Tn xs ls rs ch →
    ∀ v, turnU xs rs p jump step n ls many ch = some v → many ≤ v
  | 0, _, _, _, _, _, v, h => by cases h
  | n + 1, ls, many, ch, hp, ht, v, h => by
    unfold turnU at h
    split at h
    · cases h; exact Int.le_refl _
    · cases em : minL (wants xs ls rs ch p step) with
      | none => rw [em] at h; cases h
      | some m =>
        rw [em] at h
        have h1 := want_pos ht.2 hs.1 (minL_spec em).1
        obtain ⟨t1, _, _⟩ := turn_next hg hr h8 hp hs ht em
        have := turn_ge hg hr h8 hs n _ _ _ (by rw [longer_len]; exact hp) t1 v h
        omega
/-- where the jump is stuck at no lengths of that place, it never turns -/
theorem turn_none {xs : List Itm} {rs : List Int} {p jump : Nat} {step : Int} : ∀ (n : Nat) (ls : List Int) (many : Int) (ch : List Nat), (∀ ls', ls'.length = ls.length → (∀ k, k ≠ p → lnA ls' k = lnA ls k) → ∀ ch, jump ∉ stuckL xs ls' rs ch) → p < ls.length → jump ∉ ch → turnU xs rs p jump step n ls many ch = none
  | 0, _, _, _, _, _, _ => rfl
  | n + 1, ls, many, ch, hn, hp, hc => by
    unfold turnU
    rw [if_neg hc]
    cases em : minL (wants xs ls rs ch p step) with
    | none => rfl
    | some m =>
      have hl : ∀ k, k ≠ p → lnA (longer ls p (m * step)) k = lnA ls k := fun k hk => by rw [longer_at ls p _ hp, if_neg hk, Int.add_zero]
      refine turn_none n _ _ _ (fun ls' e1 e2 ch' => hn ls' (by rw [e1, longer_len]) (fun k hk => by rw [e2 k hk, hl k hk]) ch') (by rw [longer_len]; exact hp) ?_
      exact fill_out (fun ch' => hn _ (longer_len _ _ _) hl ch') 64 ch hc
theorem turn_loop {xs : List Itm} {rs : List Int} (hg : GOk xs) (hr : rs.length = (places Itm.isJ xs).length) (h8 : (places Itm.isJ xs).length ≤ 60) {p jump : Nat} {step : Int} (hs : Steps xs step) {d0 : Option D} (M : Store) : ∀ (n : Nat) (ls : List Int) (many : Int) (ch : List Nat) (d10 : Option D), LOk xs ls → p < ls.length → ls.length ≤ 200 → Tn xs ls rs ch → (places Itm.isJ xs).length < n + ch.length →
    match turnU xs rs p jump step n ls many ch with
    | none => whileN (zt (z2 zNotIn (zv 2) (zv 9))) L_turning_1 n [d0, some (.p (.int (p : Int))), some (.p (.int (jump : Int))), some (.p (sk xs)), some (.p (.tuple (pints ls))), some (.p (.tuple (pints rs))), some (.p .none), some (.p (.int step)), some (.p (.int many)), some (.p (tnats ch)), d10] M = .rt (.p .none) M
    | some v => ∃ ls' ch' d10', whileN (zt (z2 zNotIn (zv 2) (zv 9))) L_turning_1 n [d0, some (.p (.int (p : Int))), some (.p (.int (jump : Int))), some (.p (sk xs)), some (.p (.tuple (pints ls))), some (.p (.tuple (pints rs))), some (.p .none), some (.p (.int step)), some (.p (.int many)), some (.p (tnats ch)), d10] M =
        .nx [d0, some (.p (.int (p : Int))), some (.p (.int (jump : Int))), some (.p (sk xs)), some (.p (.tuple (pints ls'))), some (.p (.tuple (pints rs))), some (.p .none), some (.p (.int step)), some (.p (.int v)), some (.p (tnats ch')), d10'] M
  | 0, ls, many, ch, d10, hl, hp, hlen, ht, hn => absurd ht.1.le (by omega)
  | n + 1, ls, many, ch, d10, hl, hp, hlen, ht, hn => by
    have hcl := ht.1.le
    unfold turnU
    by_cases hc : jump ∈ ch
    · rw [if_pos hc]
      have ni : ∀ M, zNotIn (.p (.int (jump : Int))) (.p (tnats ch)) M = .ok (.p (.bool false)) M := fun M => by unfold zNotIn tnats; rw [zin_tn]; simp [hc]
      refine ⟨ls, ch, d10, ?_⟩
      unfold whileN
      simp [ni]
    · rw [if_neg hc]
      have ni : ∀ M, zNotIn (.p (.int (jump : Int))) (.p (tnats ch)) M = .ok (.p (.bool true)) M := fun M => by unfold zNotIn tnats; rw [zin_tn]; simp [hc]
      have es := e_steps (rs := rs) hl hg (ch := ch) (by omega) p ⟨hs.1, hs.2.1⟩
      have epr : PyData.tuple [sk xs, .tuple (pints ls), .tuple (pints rs)] = prg xs ls rs := rfl
      cases em : minL (wants xs ls rs ch p step) with
      | none =>
        rw [em] at es
        have i0 : ∀ M, zIs false (.p PyData.none) (.p PyData.none) M = .ok (.p (.bool true)) M := fun M => rfl
        obtain ⟨pr, hpr⟩ : ∃ pr, pr = prg xs ls rs := ⟨_, rfl⟩
        rw [← hpr] at es epr
        unfold whileN
        have eb : L_turning_1 [d0, some (.p (.int (p : Int))), some (.p (.int (jump : Int))), some (.p (sk xs)), some (.p (.tuple (pints ls))), some (.p (.tuple (pints rs))), some (.p .none), some (.p (.int step)), some (.p (.int many)), some (.p (tnats ch)), d10] M = .rt (.p .none) M := by
          simp [L_turning_1, mkTup, epr, es, optP, i0]
        simp [ni, eb]
      | some m =>
        rw [em] at es
        obtain ⟨t1, t2, t3⟩ := turn_next hg hr h8 hp hs ht em
        have ef := e_filled (longer_ok hl p (m * step)) hg hr h8 ht.1
        have el := e_lengthened hp (by omega) (m * step)
        have ih := turn_loop hg hr h8 (jump := jump) hs (d0 := d0) M n (longer ls p (m * step)) (many + m) (fillA xs (longer ls p (m * step)) rs ch) (some (.p (.int m))) (longer_ok hl p (m * step)) (by rw [longer_len]; exact hp) (by rw [longer_len]; exact hlen) t1 (by omega)
        have i0 : ∀ M, zIs false (.p (PyData.int m)) (.p PyData.none) M = .ok (.p (.bool false)) M := fun M => rfl
        have epr2 : PyData.tuple [sk xs, .tuple (pints (longer ls p (m * step))), .tuple (pints rs)] = prg xs (longer ls p (m * step)) rs := rfl
        have cm : CMul m step := cm_r m ⟨by have := hs.1; omega, by have := hs.2.1; omega⟩
        obtain ⟨pr, hpr⟩ : ∃ pr, pr = prg xs ls rs := ⟨_, rfl⟩
        rw [← hpr] at es epr
        obtain ⟨pr2, hpr2⟩ : ∃ pr, pr = prg xs (longer ls p (m * step)) rs := ⟨_, rfl⟩
        rw [← hpr2] at ef epr2
        obtain ⟨l2, hl2⟩ : ∃ l, l = longer ls p (m * step) := ⟨_, rfl⟩
        rw [← hl2] at el ih ef epr2
        obtain ⟨ch2, hch2⟩ : ∃ c, c = fillA xs l2 rs ch := ⟨_, rfl⟩
        rw [← hch2] at ef ih
        have eb : L_turning_1 [d0, some (.p (.int (p : Int))), some (.p (.int (jump : Int))), some (.p (sk xs)), some (.p (.tuple (pints ls))), some (.p (.tuple (pints rs))), some (.p .none), some (.p (.int step)), some (.p (.int many)), some (.p (tnats ch)), d10] M =
            .nx [d0, some (.p (.int (p : Int))), some (.p (.int (jump : Int))), some (.p (sk xs)), some (.p (.tuple (pints l2))), some (.p (.tuple (pints rs))), some (.p .none), some (.p (.int step)), some (.p (.int (many + m))), some (.p (tnats ch2)), some (.p (.int m))] M := by
          simp [L_turning_1, mkTup, epr, es, optP, i0, cm, el, epr2, ef]
        dsimp only
        rw [← hl2, ← hch2]
        unfold whileN
        simp [ni, eb]
        exact ih
/-- turning, where the skeleton is steady -/
def turnA (xs : List Itm) (ls rs : List Int) (p jump : Nat) : Option Int := turnU xs rs p jump (topF xs) 64 ls 0 (fillA xs ls rs [])
theorem ch_nil (xs : List Itm) : ChOk xs [] := ⟨List.nodup_nil, fun j hj => by cases hj⟩
theorem fillA_tn {xs : List Itm} (ls : List Int) {rs : List Int} (hr : rs.length = (places Itm.isJ xs).length) (h8 : (places Itm.isJ xs).length ≤ 60) {ch : List Nat} (hc : ChOk xs ch) : Tn xs ls rs (fillA xs ls rs ch) := by
  obtain ⟨f1, _, _, f4⟩ := fill_ok (ls := ls) hr 64 ch hc (by omega)
  exact ⟨f1, f4⟩
theorem e_turning {xs : List Itm} {ls rs : List Int} {j : Nat} (hf : Frm xs j) (hl : LOk xs ls) (hg : GOk xs) (hr : rs.length = (places Itm.isJ xs).length) (hfp : FilP xs) (hlen : ls.length ≤ 200) {p : Nat} (hp : p < ls.length) (jump : Nat) :
    (trips xs = [] → ∀ M, F_turning [.p (prg xs ls rs), .p (.int (p : Int)), .p (.int (jump : Int))] M = .ok (.p (optP (turnA xs ls rs p jump))) M) ∧
    ∀ t r, trips xs = t :: r → ∀ M, F_turning [.p (prg xs ls rs), .p (.int (p : Int)), .p (.int (jump : Int))] M = .exc ⟨"Loose", some ("triple", enc3 t)⟩ M := by
  have hx := hf.2.1
  have hpl := len_places Itm.isJ xs
  obtain ⟨s1, s2, s3⟩ := hf.sane
  have st := e_steady s1 s2 s3
  have eu : prg xs ls rs = PyData.tuple [sk xs, .tuple (pints ls), .tuple (pints rs)] := rfl
  constructor
  · intro ht M
    rw [ht] at st
    simp only at st
    have so := e_step_of (xs := xs) (by omega)
    have ef := e_filled (rs := rs) hl hg hr (by omega) (ch_nil xs)
    have ti := fillA_tn ls hr (by omega) (ch_nil xs)
    have lo := turn_loop hg hr (by omega) (jump := jump) (top_steps hfp) (d0 := some (.p (prg xs ls rs))) M 64 ls 0 (fillA xs ls rs []) none hl hp hlen ti (by omega)
    have et : turnU xs rs p jump (topF xs) 64 ls 0 (fillA xs ls rs []) = turnA xs ls rs p jump := rfl
    rw [et] at lo
    have i0 : ∀ M, zIs true (.p PyData.none) (.p PyData.none) M = .ok (.p (.bool false)) M := fun M => rfl
    have tn0 : PyData.tuple [] = tnats [] := rfl
    obtain ⟨fi, hfi⟩ : ∃ f, f = fillA xs ls rs [] := ⟨_, rfl⟩
    rw [← hfi] at ef lo
    obtain ⟨tf, htf⟩ : ∃ f, f = topF xs := ⟨_, rfl⟩
    rw [← htf] at so lo
    apply fn_rt0
    have go : ∀ (k : SC), c_turning ([D.p (prg xs ls rs), D.p (.int (p : Int)), D.p (.int (jump : Int))].map some ++ List.replicate (11 - 3) none) M =
        (whileN (zt (z2 zNotIn (zv 2) (zv 9))) L_turning_1 64 [some (.p (prg xs ls rs)), some (.p (.int (p : Int))), some (.p (.int (jump : Int))), some (.p (sk xs)), some (.p (.tuple (pints ls))), some (.p (.tuple (pints rs))), some (.p .none), some (.p (.int tf)), some (.p (.int 0)), some (.p (tnats fi)), none] M).seq (sret (zv 8)) := fun k => by
      unfold c_turning swhile
      rw [eu] at ef
      simp [eu, st, i0, so, mkTup, tn0, ef]
    rw [show 11 - [D.p (prg xs ls rs), D.p (.int (p : Int)), D.p (.int (jump : Int))].length = 11 - 3 from rfl, go sskip]
    cases ea : turnA xs ls rs p jump with
    | none =>
      rw [ea] at lo
      simp only at lo
      rw [lo]
      rfl
    | some v =>
      rw [ea] at lo
      simp only at lo
      obtain ⟨ls', ch', d', e⟩ := lo
      rw [e]
      rfl
  · intro t r ht M
    rw [ht] at st
    simp only at st
    have i0 : ∀ M, zIs true (.p (enc3 t)) (.p PyData.none) M = .ok (.p (.bool true)) M := fun M => rfl
    obtain ⟨et, het⟩ : ∃ e, e = enc3 t := ⟨_, rfl⟩
    rw [← het] at st i0 ⊢
    apply fn_exc
    unfold c_turning
    simp [eu, st, i0]
end ZL

namespace ZL
open PySem PySem.Spec PyProof.Rows L2 Z
theorem Frm.gok {xs : List Itm} {j : Nat} (h : Frm xs j) : GOk xs := fun k hk => (h.1 _ (List.mem_of_getElem? (jmp_at hk))).1
theorem Frm.filP {xs : List Itm} {j : Nat} (h : Frm xs j) : FilP xs := fun s hs => h.1 _ hs
theorem Frm.lok {xs : List Itm} {j : Nat} (h : Frm xs j) {ls : List Int} (hl : ls.length = xs.length + 1) : LOk xs ls := ⟨by have := h.2.1; omega, by omega, fun s hs => by
  have := p2_in (h.filP s hs)
  omega⟩
theorem bytes_bd {xs : List Itm} {j : Nat} (h : Frm xs j) {k : Nat} {x : Itm} (hx : xs[k]? = some x) (b : Int) (c : Bool) : 0 ≤ bytesAt x b c ∧ bytesAt x b c ≤ 1000 := by
  have := h.1 x (List.mem_of_getElem? hx)
  cases x with
  | lab => exact ⟨Int.le_refl _, by show (0 : Int) ≤ 1000; decide⟩
  | fil s =>
    have hs := p2_in (show s ∈ P2 from this)
    have h0 := Int.emod_nonneg (-b) (b := s) (by omega)
    have h1 := Int.emod_lt_of_pos (-b) (b := s) (by omega)
    exact ⟨h0, by show (-b) % s ≤ 1000; omega⟩
  | jmp g s l =>
    obtain ⟨_, h1, h2, h3, h4⟩ := this
    cases c
    · exact ⟨by show 0 ≤ s; omega, by show s ≤ 1000; omega⟩
    · exact ⟨by show 0 ≤ l; omega, by show l ≤ 1000; omega⟩
/-- from an end to a later begin -/
theorem gap_bd {xs : List Itm} {j : Nat} (h : Frm xs j) (ls : List Int) (ch : List Nat) {G : Int} {a : Nat} : ∀ (d : Nat), a + 1 + d < xs.length → ((∀ k, a < k → k ≤ a + 1 + d → lnA ls k ≤ G) → bg (spots xs ls ch) (a + 1 + d) - en (spots xs ls ch) a ≤ (d + 1 : Nat) * (G + 1000)) ∧
    ((∀ k, 0 ≤ lnA ls k) → 0 ≤ bg (spots xs ls ch) (a + 1 + d) - en (spots xs ls ch) a)
  | 0, hd => by
    obtain ⟨a1, _⟩ := spots_rec ls ch (List.getElem?_eq_getElem hd)
    have pe : preE (spots xs ls ch) (a + 1 + 0) = en (spots xs ls ch) a := by unfold preE; rw [if_neg (by omega)]; rfl
    rw [pe] at a1
    refine ⟨fun hG => ?_, fun h0 => ?_⟩
    · have := hG (a + 1 + 0) (by omega) (Nat.le_refl _)
      rw [a1]
      omega
    · have := h0 (a + 1 + 0)
      rw [a1]
      omega
  | d + 1, hd => by
    obtain ⟨i1, i2⟩ := gap_bd h ls ch (G := G) (a := a) d (by omega)
    obtain ⟨a1, _⟩ := spots_rec ls ch (List.getElem?_eq_getElem hd)
    have hx := List.getElem?_eq_getElem (show a + 1 + d < xs.length by omega)
    obtain ⟨_, a2⟩ := spots_rec ls ch hx
    obtain ⟨b1, b2⟩ := bytes_bd h hx (bg (spots xs ls ch) (a + 1 + d)) (decide (a + 1 + d ∈ ch))
    have pe : preE (spots xs ls ch) (a + 1 + (d + 1)) = en (spots xs ls ch) (a + 1 + d) := by unfold preE; rw [if_neg (by omega)]; rfl
    rw [pe] at a1
    refine ⟨fun hG => ?_, fun h0 => ?_⟩
    · have h1 := i1 fun k h1 h2 => hG k h1 (by omega)
      have h2 := hG (a + 1 + (d + 1)) (by omega) (Nat.le_refl _)
      have e : ((d + 1 + 1 : Nat) : Int) * (G + 1000) = ((d + 1 : Nat) : Int) * (G + 1000) + (G + 1000) := by
        rw [show ((d + 1 + 1 : Nat) : Int) = ((d + 1 : Nat) : Int) + 1 by omega, Int.add_mul, Int.one_mul]
      rw [e]
      omega
    · have h1 := i2 h0
      have h2 := h0 (a + 1 + (d + 1))
      omega
theorem way_ge {xs : List Itm} {j : Nat} (h : Frm xs j) (hgl : GL xs) {ls : List Int} (h0 : ∀ k, 0 ≤ lnA ls k) (ch : List Nat) {k : Nat} (hk : k ∈ places Itm.isJ xs) : 0 ≤ wayOf xs ls ch k := by
  have hx := jmp_at hk
  have hg := h.gok k hk
  have hkl := (List.getElem?_eq_some_iff.mp hx).1
  have gl := hgl k hk
  have ne : k ≠ goal xs k := fun e => by rw [← e, hx] at gl; cases gl
  unfold wayOf wayIn
  by_cases hlt : k < goal xs k
  · rw [if_pos hlt]
    have := (gap_bd h ls ch (G := 0) (a := k) (goal xs k - k - 1) (by omega)).2 h0
    rw [show k + 1 + (goal xs k - k - 1) = goal xs k by omega] at this
    exact this
  · rw [if_neg hlt]
    have := (gap_bd h ls ch (G := 0) (a := goal xs k) (k - goal xs k - 1) (by omega)).2 h0
    rw [show goal xs k + 1 + (k - goal xs k - 1) = k by omega] at this
    obtain ⟨_, a2⟩ := spots_rec ls ch hx
    obtain ⟨_, a3⟩ := spots_rec ls ch gl
    have b1 := (bytes_bd h hx (bg (spots xs ls ch) k) (decide (k ∈ ch))).1
    have b2 := (bytes_bd h gl (bg (spots xs ls ch) (goal xs k)) (decide (goal xs k ∈ ch))).1
    omega
theorem way_le {xs : List Itm} {j : Nat} (h : Frm xs j) (hgl : GL xs) {ls : List Int} {G : Int} (hG : 0 ≤ G) (ch : List Nat) {k : Nat} (hk : k ∈ places Itm.isJ xs) (hb : ∀ i, lowA xs k < i → i ≤ highA xs k → lnA ls i ≤ G) : wayOf xs ls ch k ≤ 62 * (G + 1000) := by
  have hx := jmp_at hk
  have hg := h.gok k hk
  have hkl := (List.getElem?_eq_some_iff.mp hx).1
  have gl := hgl k hk
  have hlen := h.2.1
  have ne : k ≠ goal xs k := fun e => by rw [← e, hx] at gl; cases gl
  have mulle : ∀ n : Nat, n ≤ 60 → (n : Int) * (G + 1000) ≤ 60 * (G + 1000) := fun n hn => Int.mul_le_mul_of_nonneg_right (by omega) (by omega)
  unfold lowA highA at hb
  unfold wayOf wayIn
  by_cases hlt : k < goal xs k
  · rw [if_pos hlt]
    have := (gap_bd h ls ch (G := G) (a := k) (goal xs k - k - 1) (by omega)).1 fun i h1 h2 => hb i (by omega) (by omega)
    rw [show k + 1 + (goal xs k - k - 1) = goal xs k by omega] at this
    have := mulle (goal xs k - k - 1 + 1) (by omega)
    omega
  · rw [if_neg hlt]
    have := (gap_bd h ls ch (G := G) (a := goal xs k) (k - goal xs k - 1) (by omega)).1 fun i h1 h2 => hb i (by omega) (by omega)
    rw [show goal xs k + 1 + (k - goal xs k - 1) = k by omega] at this
    have := mulle (k - goal xs k - 1 + 1) (by omega)
    obtain ⟨_, a2⟩ := spots_rec ls ch hx
    obtain ⟨_, a3⟩ := spots_rec ls ch gl
    have b1 := (bytes_bd h hx (bg (spots xs ls ch) k) (decide (k ∈ ch))).2
    have b2 := (bytes_bd h gl (bg (spots xs ls ch) (goal xs k)) (decide (goal xs k ∈ ch))).2
    omega
/-- turning's number is no greater than its turns allow -/
theorem turn_le {xs : List Itm} {j : Nat} (hf : Frm xs j) (hgl : GL xs) {rs : List Int} (hr : rs.length = (places Itm.isJ xs).length) (hrb : ∀ r ∈ rs, r ≤ 1000000000) {p jump : Nat} {step : Int} (hs : Steps xs step) : ∀ (n : Nat) (ls : List Int) (many : Int) (ch : List Nat), p < ls.length → (∀ k, 0 ≤ lnA ls k) → Tn xs ls rs ch →
    ∀ v, turnU xs rs p jump step n ls many ch = some v → v ≤ many + n * 1000000001
  | 0, _, _, _, _, _, _, v, h => by cases h
  | n + 1, ls, many, ch, hp, h0, ht, v, h => by
    have hpl := len_places Itm.isJ xs
    have hlen := hf.2.1
    unfold turnU at h
    split at h
    · cases h
      have : 0 ≤ ((n + 1 : Nat) : Int) * 1000000001 := Int.mul_nonneg (by omega) (by decide)
      omega
    · cases em : minL (wants xs ls rs ch p step) with
      | none => rw [em] at h; cases h
      | some m =>
        rw [em] at h
        have hm := (minL_spec em).1
        have h1 := want_pos ht.2 hs.1 hm
        obtain ⟨k, r, w1, w2, w3, w4⟩ := mem_wants.mp hm
        have hk := (List.of_mem_zip w1).1
        have hrm := hrb r (List.of_mem_zip w1).2
        have hw := way_ge hf hgl h0 ch hk
        have hq : (r - wayOf xs ls ch k) / step ≤ r - wayOf xs ls ch k := Int.ediv_le_self _ (by have := not_stuck ht.2 w1 w2; omega)
        obtain ⟨t1, _, _⟩ := turn_next hf.gok hr (by omega) hp hs ht em
        have := turn_le hf hgl hr hrb hs n _ _ _ (by rw [longer_len]; exact hp) (fun i => by
          rw [longer_at ls p _ hp]
          have := h0 i
          have hms : 0 ≤ m * step := Int.mul_nonneg (by omega) (Int.le_of_lt hs.1)
          split <;> omega) t1 v h
        rw [show ((n + 1 : Nat) : Int) = (n : Int) + 1 by omega, Int.add_mul, Int.one_mul]
        omega
theorem turnA_bd {xs : List Itm} {j : Nat} (hf : Frm xs j) (hgl : GL xs) {ls rs : List Int} (hr : rs.length = (places Itm.isJ xs).length) (hrb : ∀ r ∈ rs, r ≤ 1000000000) (h0 : ∀ k, 0 ≤ lnA ls k) {p jump : Nat} (hp : p < ls.length) : ∀ v, turnA xs ls rs p jump = some v → 0 ≤ v ∧ v < 10 ^ 12 := by
  intro v hv
  have hpl := len_places Itm.isJ xs
  have hlen := hf.2.1
  have tn := fillA_tn ls hr (by omega) (ch_nil xs)
  have h1 := turn_ge hf.gok hr (by omega) (top_steps hf.filP) 64 ls 0 _ hp tn v hv
  have h2 := turn_le hf hgl hr hrb (top_steps hf.filP) 64 ls 0 _ hp h0 tn v hv
  exact ⟨h1, by omega⟩
/-- far reaches and a length out of the jump's way: it never turns -/
theorem turnA_far {xs : List Itm} {j : Nat} (hf : Frm xs j) (hgl : GL xs) {ls rs : List Int} (hrb : ∀ r ∈ rs, 1000000000 ≤ r) (hlb : ∀ k, lnA ls k ≤ 999) {p jump : Nat} (hp : p < ls.length) (hj : jump ∈ places Itm.isJ xs) (hh : holdsB xs jump p = false) : turnA xs ls rs p jump = none := by
  have hb : ¬ (lowA xs jump < p ∧ p ≤ highA xs jump) := by simpa [holdsB] using hh
  have ns : ∀ ls', ls'.length = ls.length → (∀ k, k ≠ p → lnA ls' k = lnA ls k) → ∀ ch, jump ∉ stuckL xs ls' rs ch := fun ls' _ e ch hm => by
    obtain ⟨r, w1, w2, w3⟩ := mem_stuck.mp hm
    have hrm := hrb r (List.of_mem_zip w1).2
    have := way_le hf hgl (ls := ls') (G := 999) (by decide) ch hj fun i h1 h2 => by
      rw [e i fun z => hb (by rw [← z]; exact ⟨h1, h2⟩)]
      exact hlb i
    omega
  exact turn_none 64 ls 0 _ ns hp (fill_out (ns ls rfl fun _ _ => rfl) 64 [] fun z => by cases z)
theorem pow9t (M : Store) : zPow (.p (.int 10)) (.p (.int 9)) M = .ok (.p (.int 1000000000)) M := by
  unfold zPow
  simp only
  rw [if_pos ⟨by decide, by decide, by decide⟩]
  rfl
end ZL

namespace ZL
open PySem PySem.Spec PyProof.Rows L2 Z
/-! ### a way never gets shorter where the skeleton is steady -/
theorem endI_bytes {x : Itm} (h : PosF x) (b : Int) (c : Bool) : endI x b c = b + bytesAt x b c := by
  cases x with
  | lab => show b = b + 0; omega
  | jmp g s l => rfl
  | fil s =>
    have hs : 0 < s := h
    show (b + s - 1) / s * s = b + (-b) % s
    have e1 := Int.emod_add_mul_ediv (-b) s
    have e2 := Int.emod_nonneg (-b) (b := s) (by omega)
    have e3 := Int.emod_lt_of_pos (-b) hs
    obtain ⟨t, ht⟩ : ∃ t, t = (-b) / s := ⟨_, rfl⟩
    obtain ⟨r, hr⟩ : ∃ r, r = (-b) % s := ⟨_, rfl⟩
    rw [← ht, ← hr] at e1
    rw [← hr] at e2 e3 ⊢
    have e4 : b + s - 1 = s * (-t) + (s - 1 - r) := by rw [Int.mul_neg]; omega
    have e5 : (b + s - 1) / s = -t := by
      rw [e4, Int.add_comm, Int.add_mul_ediv_left _ _ (by omega), Int.ediv_eq_zero_of_lt (by omega) (by omega), Int.zero_add]
    rw [e5, Int.neg_mul, Int.mul_comm]
    omega
theorem here_spots {xs : List Itm} (hp : ∀ s, Itm.fil s ∈ xs → 0 < s) (ls : List Int) (ch : List Nat) : ∀ k, k < xs.length → bg (spots xs ls ch) k = hereN xs ls ch k + gpA ls k ∧ en (spots xs ls ch) k = hereN xs ls ch (k + 1) := by
  intro k
  induction k with
  | zero =>
    intro hk
    have hx := List.getElem?_eq_getElem hk
    obtain ⟨a1, a2⟩ := spots_rec ls ch hx
    have e : bg (spots xs ls ch) 0 = hereN xs ls ch 0 + gpA ls 0 := by rw [a1]; rfl
    refine ⟨e, ?_⟩
    rw [a2, e]
    simp only [hereN, hx]
    rw [endI_bytes (PSane.posF hp (List.getElem_mem hk))]
  | succ k ih =>
    intro hk
    have hx := List.getElem?_eq_getElem hk
    obtain ⟨_, i2⟩ := ih (by omega)
    obtain ⟨a1, a2⟩ := spots_rec ls ch hx
    have e : bg (spots xs ls ch) (k + 1) = hereN xs ls ch (k + 1) + gpA ls (k + 1) := by
      have pe : preE (spots xs ls ch) (k + 1) = en (spots xs ls ch) k := by unfold preE; rw [if_neg (by omega)]; rfl
      rw [a1, pe, i2]
      rfl
    refine ⟨e, ?_⟩
    rw [a2, e]
    conv => rhs; unfold hereN
    simp only [hx]
    rw [endI_bytes (PSane.posF hp (List.getElem_mem hk))]
theorem way_N {xs : List Itm} {n : Nat} (h : Frm xs n) (ls : List Int) (ch : List Nat) {j : Nat} (hj : j ∈ places Itm.isJ xs) : wayOf xs ls ch j = wayN xs ls ch j := by
  have hp : ∀ s, Itm.fil s ∈ xs → 0 < s := fun s hs => by have := p2_in (h.1 _ hs); omega
  have hx := jmp_at hj
  have hjl := (List.getElem?_eq_some_iff.mp hx).1
  have hgl := (h.ok.2.2 j hj).1
  obtain ⟨_, a2⟩ := here_spots hp ls ch j hjl
  obtain ⟨b1, _⟩ := here_spots hp ls ch _ hgl
  unfold wayOf wayIn wayN
  rw [a2, b1]
theorem here_congr {xs : List Itm} {gs : List Int} {ch ch' : List Nat} (h : ∀ i, i ∈ ch ↔ i ∈ ch') : ∀ k, hereN xs gs ch k = hereN xs gs ch' k
  | 0 => rfl
  | k + 1 => by
    unfold hereN
    rw [here_congr h k]
    have : decide (k ∈ ch) = decide (k ∈ ch') := by rw [Bool.eq_iff_iff]; simp [h k]
    rw [this]
theorem way_congr {xs : List Itm} {gs : List Int} {ch ch' : List Nat} (h : ∀ i, i ∈ ch ↔ i ∈ ch') (j : Nat) : wayN xs gs ch j = wayN xs gs ch' j := by
  unfold wayN
  rw [here_congr h, here_congr h]
theorem chg_ge0 {xs : List Itm} {n : Nat} (h : Frm xs n) (hgl : GL xs) (hst : trips xs = []) {mate at_ : Nat} (hm : mate ∈ places Itm.isJ xs) (ha : at_ ∈ places Itm.isJ xs) (hne : mate ≠ at_) {d : Int} (hd : d ∈ chgL xs mate at_) : 0 ≤ d := by
  obtain ⟨a, b, e1, e2, hnn, e3⟩ := row_sign h hgl hm ha hne
  obtain ⟨a', b', f1, f2, f3⟩ := row_ends (uns_rise (chgL xs mate at_)) hnn
  have ea : a' = a := by
    have : (chg xs mate at_)[0]? = some a' := f1
    rw [e1] at this
    exact (Option.some.inj this).symm
  have hda := (f3 d ((mem_uns d _).mpr hd)).1
  split at e3
  · omega
  · have en : [at_, mate] ∉ endsOf xs := by unfold endsOf; rw [hst]; simp
    rw [if_neg en] at e3
    have : d ∈ chg xs mate at_ := (mem_uns d _).mpr hd
    rw [e3] at this
    rw [List.mem_singleton.mp this]
    exact Int.le_refl _
theorem way_mono1 {xs : List Itm} {n : Nat} (h : Frm xs n) (hgl : GL xs) (hst : trips xs = []) {gs : List Int} {ch : List Nat} {mate at_ : Nat} (hm : mate ∈ places Itm.isJ xs) (ha : at_ ∈ places Itm.isJ xs) (hne : mate ≠ at_) : wayN xs gs ch at_ ≤ wayN xs gs (ch ++ [mate]) at_ := by
  by_cases hn : mate ∈ ch
  · rw [way_congr (ch := ch ++ [mate]) (ch' := ch) fun i => by
      rw [List.mem_append, List.mem_singleton]
      exact ⟨fun e => e.elim id fun e => e ▸ hn, .inl⟩]
    exact Int.le_refl _
  · have := chg_ge0 h hgl hst hm ha hne (way_in (gs := gs) h.ok hgl hm ha hne hn)
    omega
theorem way_mono {xs : List Itm} {n : Nat} (h : Frm xs n) (hgl : GL xs) (hst : trips xs = []) {gs : List Int} {at_ : Nat} (ha : at_ ∈ places Itm.isJ xs) : ∀ (more ch : List Nat), (∀ m ∈ more, m ∈ places Itm.isJ xs ∧ m ≠ at_) → wayN xs gs ch at_ ≤ wayN xs gs (ch ++ more) at_
  | [], ch, _ => by rw [List.append_nil]; exact Int.le_refl _
  | m :: more, ch, hm => by
    obtain ⟨h1, h2⟩ := hm m (List.mem_cons_self ..)
    have a1 := way_mono1 h hgl hst (gs := gs) (ch := ch) h1 ha h2
    have a2 := way_mono h hgl hst (gs := gs) ha more (ch ++ [m]) fun k hk => hm k (List.mem_cons_of_mem _ hk)
    rw [List.append_assoc] at a2
    exact Int.le_trans a1 a2
/-- a greater choice, a way no shorter -/
theorem wayOf_mono {xs : List Itm} {n : Nat} (h : Frm xs n) (hgl : GL xs) (hst : trips xs = []) (ls : List Int) {ch C : List Nat} (hC : ∀ i ∈ C, i ∈ places Itm.isJ xs) (hs : ∀ i ∈ ch, i ∈ C) {j : Nat} (hj : j ∈ places Itm.isJ xs) (hn : j ∉ C) : wayOf xs ls ch j ≤ wayOf xs ls C j := by
  rw [way_N h ls ch hj, way_N h ls C hj]
  have := way_mono h hgl hst (gs := ls) hj C ch fun m hm => ⟨hC m hm, fun e => hn (e ▸ hm)⟩
  rw [way_congr (ch := ch ++ C) (ch' := C) fun i => by
    rw [List.mem_append]
    exact ⟨fun e => e.elim (hs i) id, .inr⟩] at this
  exact this
/-! ### the least choice that holds -/
/-- nothing outside is stuck -/
def Holds (xs : List Itm) (ls rs : List Int) (C : List Nat) : Prop := (∀ i ∈ C, i ∈ places Itm.isJ xs) ∧ stuckL xs ls rs C = []
theorem fill_in {xs : List Itm} {n : Nat} (h : Frm xs n) (hgl : GL xs) (hst : trips xs = []) {ls rs : List Int} {C : List Nat} (hC : Holds xs ls rs C) : ∀ (k : Nat) (ch : List Nat), (∀ i ∈ ch, i ∈ C) → ∀ i ∈ fillU xs ls rs k ch, i ∈ C
  | 0, ch, hs => hs
  | k + 1, ch, hs => by
    unfold fillU
    split
    · exact hs
    · refine fill_in h hgl hst hC k _ fun i hi => ?_
      rcases List.mem_append.mp (mem_srtN.mp hi) with hi | hi
      · exact hs i hi
      · obtain ⟨r, h1, h2, h3⟩ := mem_stuck.mp hi
        refine Classical.byContradiction fun hn => ?_
        have hj := (List.of_mem_zip h1).1
        have := wayOf_mono h hgl hst ls hC.1 hs hj hn
        have := not_stuck hC.2 h1 hn
        omega
/-- the least choice at lengths ls -/
def leastA (xs : List Itm) (ls rs : List Int) : List Nat := fillA xs ls rs []
section
variable {xs : List Itm} {n : Nat} {rs : List Int} {p : Nat} {step : Int}
theorem least_holds (h : Frm xs n) (hr : rs.length = (places Itm.isJ xs).length) (ls : List Int) : Holds xs ls rs (leastA xs ls rs) := by
  have hlen := h.2.1
  have hpl := len_places Itm.isJ xs
  have t := fillA_tn ls hr (by omega) (ch_nil xs)
  exact ⟨t.1.2, t.2⟩
theorem least_in (h : Frm xs n) (hgl : GL xs) (hst : trips xs = []) {ls : List Int} {C : List Nat} (hC : Holds xs ls rs C) : ∀ i ∈ leastA xs ls rs, i ∈ C := fill_in h hgl hst hC 64 [] fun i hi => by cases hi
/-- a choice that holds at greater lengths holds at smaller ones -/
theorem holds_less (h : Frm xs n) {ls : List Int} (hp : p < ls.length) (hs : Steps xs step) {m : Int} (hm : 0 ≤ m) {C : List Nat} (hC : Holds xs (longer ls p (m * step)) rs C) : Holds xs ls rs C := by
  refine ⟨hC.1, ?_⟩
  rw [List.eq_nil_iff_forall_not_mem]
  intro j hj
  obtain ⟨r, h1, h2, h3⟩ := mem_stuck.mp hj
  have hjp := (List.of_mem_zip h1).1
  have := not_stuck hC.2 h1 h2
  rw [way_longer h.gok C hp (hs.mul m) hjp] at this
  have h0 : 0 ≤ m * step := Int.mul_nonneg hm (Int.le_of_lt hs.1)
  split at this <;> omega
/-- fewer steps than any wants change nothing -/
theorem holds_more (h : Frm xs n) {ls : List Int} (hp : p < ls.length) (hs : Steps xs step) {m : Int} {C : List Nat} (hC : Holds xs ls rs C) (hm : ∀ w ∈ wants xs ls rs C p step, m < w) : Holds xs (longer ls p (m * step)) rs C := by
  refine ⟨hC.1, ?_⟩
  rw [List.eq_nil_iff_forall_not_mem]
  intro j hj
  obtain ⟨r, h1, h2, h3⟩ := mem_stuck.mp hj
  have hjp := (List.of_mem_zip h1).1
  have hr := not_stuck hC.2 h1 h2
  rw [way_longer h.gok C hp (hs.mul m) hjp] at h3
  split at h3
  · rename_i hh
    have hw := hm _ (mem_wants.mpr ⟨j, r, h1, h2, hh, rfl⟩)
    have : m * step ≤ (r - wayOf xs ls C j) / step * step := Int.mul_le_mul_of_nonneg_right (by omega) (Int.le_of_lt hs.1)
    have := Int.ediv_mul_le (r - wayOf xs ls C j) (show step ≠ 0 by have := hs.1; omega)
    omega
  · omega
theorem longer_longer {ls : List Int} (hp : p < ls.length) (a b : Int) : longer (longer ls p a) p b = longer ls p (a + b) := by
  have e : lnA (longer ls p a) p = lnA ls p + a := by rw [longer_at ls p a hp, if_pos rfl]
  show (longer ls p a).set p (lnA (longer ls p a) p + b) = _
  rw [e]
  unfold longer
  rw [List.set_set, Int.add_assoc]
theorem longer_zero {ls : List Int} (hp : p < ls.length) : longer ls p 0 = ls := by
  unfold longer lnA
  rw [Int.add_zero, List.getD_eq_getElem?_getD, List.getElem?_eq_getElem hp]
  exact List.set_getElem_self hp
theorem wants_congr {ls : List Int} {C C' : List Nat} (h : Frm xs n) (hc : ∀ i, i ∈ C ↔ i ∈ C') : wants xs ls rs C p step = wants xs ls rs C' p step := by
  unfold wants
  have e1 : ((places Itm.isJ xs).zip rs).filter (wantB xs C p) = ((places Itm.isJ xs).zip rs).filter (wantB xs C' p) := List.filter_congr fun q _ => by
    unfold wantB
    have : decide (q.1 ∈ C) = decide (q.1 ∈ C') := by rw [Bool.eq_iff_iff]; simp [hc]
    rw [this]
  rw [e1]
  refine List.map_congr_left fun q hq => ?_
  have hj := (List.of_mem_zip (List.mem_filter.mp hq).1).1
  unfold wantOf
  rw [way_N h ls C hj, way_N h ls C' hj, way_congr hc]
/-- what turning tells -/
theorem turn_spec (h : Frm xs n) (hgl : GL xs) (hst : trips xs = []) (hr : rs.length = (places Itm.isJ xs).length) {jump : Nat} (hs : Steps xs step) {ls0 : List Int} (hp : p < ls0.length) : ∀ (k : Nat) (many : Int) (ch : List Nat), 0 ≤ many → Tn xs (longer ls0 p (many * step)) rs ch → (∀ i, i ∈ ch ↔ i ∈ leastA xs (longer ls0 p (many * step)) rs) →
    (∀ m, 0 ≤ m → m < many → jump ∉ leastA xs (longer ls0 p (m * step)) rs) → (places Itm.isJ xs).length < k + ch.length →
    match turnU xs rs p jump step k (longer ls0 p (many * step)) many ch with
    | none => ∀ m, 0 ≤ m → jump ∉ leastA xs (longer ls0 p (m * step)) rs
    | some v => 0 ≤ v ∧ jump ∈ leastA xs (longer ls0 p (v * step)) rs ∧ ∀ m, 0 ≤ m → m < v → jump ∉ leastA xs (longer ls0 p (m * step)) rs
  | 0, many, ch, h0, ht, hc, hb, hk => absurd ht.1.le (by omega)
  | k + 1, many, ch, h0, ht, hc, hb, hk => by
    have hlen := h.2.1
    have hpl := len_places Itm.isJ xs
    have hp' : p < (longer ls0 p (many * step)).length := by rw [longer_len]; exact hp
    have hch : Holds xs (longer ls0 p (many * step)) rs ch := ⟨ht.1.2, ht.2⟩
    unfold turnU
    by_cases hj : jump ∈ ch
    · rw [if_pos hj]
      exact ⟨h0, (hc jump).mp hj, hb⟩
    · rw [if_neg hj]
      have stay : ∀ m, many ≤ m → (∀ w ∈ wants xs (longer ls0 p (many * step)) rs ch p step, m - many < w) → jump ∉ leastA xs (longer ls0 p (m * step)) rs := fun m hm hw hin => by
        have := holds_more h hp' hs hch hw
        rw [longer_longer hp, show many * step + (m - many) * step = m * step by rw [← Int.add_mul]; congr 1; omega] at this
        exact hj (least_in h hgl hst this jump hin)
      cases em : minL (wants xs (longer ls0 p (many * step)) rs ch p step) with
      | none =>
        have hw : wants xs (longer ls0 p (many * step)) rs ch p step = [] := by
          cases e : wants xs (longer ls0 p (many * step)) rs ch p step with
          | nil => rfl
          | cons a l => rw [e] at em; cases em
        intro m hm
        by_cases hlt : m < many
        · exact hb m hm hlt
        · exact stay m (by omega) (by rw [hw]; intro w hw; cases hw)
      | some w =>
        obtain ⟨w1, w2⟩ := minL_spec em
        have wp := want_pos ht.2 hs.1 w1
        obtain ⟨t1, t2, t3⟩ := turn_next h.gok hr (by omega) hp' hs ht em
        have el : longer (longer ls0 p (many * step)) p (w * step) = longer ls0 p ((many + w) * step) := by rw [longer_longer hp, ← Int.add_mul]
        dsimp only
        rw [el] at t1 t2 t3 ⊢
        refine turn_spec h hgl hst hr hs hp k (many + w) _ (by omega) t1 (fun i => ?_) (fun m hm hlt => ?_) (by omega)
        · have lh := least_holds h hr (longer ls0 p ((many + w) * step))
          constructor
          · refine fill_in h hgl hst lh 64 ch (fun i hi => ?_) i
            have hl2 : Holds xs (longer ls0 p (many * step)) rs (leastA xs (longer ls0 p ((many + w) * step)) rs) := by
              refine holds_less h hp' hs (m := w) (by omega) ?_
              rw [el]
              exact lh
            exact least_in h hgl hst hl2 i ((hc i).mp hi)
          · exact least_in h hgl hst ⟨t1.1.2, t1.2⟩ i
        · by_cases hlt2 : m < many
          · exact hb m hm hlt2
          · exact stay m (by omega) fun v hv => by have := w2 v hv; omega
/-- turning's number: the fewest steps at which the jump is long -/
theorem turnA_spec (h : Frm xs n) (hgl : GL xs) (hst : trips xs = []) (hr : rs.length = (places Itm.isJ xs).length) {ls : List Int} (hp : p < ls.length) (jump : Nat) :
    match turnA xs ls rs p jump with
    | none => ∀ m, 0 ≤ m → jump ∉ leastA xs (longer ls p (m * topF xs)) rs
    | some v => 0 ≤ v ∧ jump ∈ leastA xs (longer ls p (v * topF xs)) rs ∧ ∀ m, 0 ≤ m → m < v → jump ∉ leastA xs (longer ls p (m * topF xs)) rs := by
  have hlen := h.2.1
  have hpl := len_places Itm.isJ xs
  have e0 : longer ls p (0 * topF xs) = ls := by rw [Int.zero_mul, longer_zero hp]
  have t := fillA_tn ls hr (by omega) (ch_nil xs)
  have := turn_spec h hgl hst hr (jump := jump) (top_steps h.filP) hp 64 0 (fillA xs ls rs []) (Int.le_refl _) (by rw [e0]; exact t) (fun i => by rw [e0]; exact Iff.rfl) (fun m h0 h1 => by omega) (by omega)
  rw [e0] at this
  exact this
/-- more steps keep what fewer made long -/
theorem least_mono (h : Frm xs n) (hgl : GL xs) (hst : trips xs = []) (hr : rs.length = (places Itm.isJ xs).length) {ls : List Int} (hp : p < ls.length) {a b : Int} (hab : a ≤ b) : ∀ i ∈ leastA xs (longer ls p (a * topF xs)) rs, i ∈ leastA xs (longer ls p (b * topF xs)) rs := by
  have lh := least_holds h hr (longer ls p (b * topF xs))
  have : Holds xs (longer ls p (a * topF xs)) rs (leastA xs (longer ls p (b * topF xs)) rs) := by
    refine holds_less h (p := p) (by rw [longer_len]; exact hp) (top_steps h.filP) (m := b - a) (by omega) ?_
    rw [longer_longer hp, ← Int.add_mul, show a + (b - a) = b by omega]
    exact lh
  exact least_in h hgl hst this
/-- a jump is long at m steps just where m is no fewer than its number -/
theorem in_least (h : Frm xs n) (hgl : GL xs) (hst : trips xs = []) (hr : rs.length = (places Itm.isJ xs).length) {ls : List Int} (hp : p < ls.length) (jump : Nat) {m : Int} (hm : 0 ≤ m) : jump ∈ leastA xs (longer ls p (m * topF xs)) rs ↔ ∃ v, turnA xs ls rs p jump = some v ∧ v ≤ m := by
  have sp := turnA_spec h hgl hst hr hp jump
  cases e : turnA xs ls rs p jump with
  | none =>
    rw [e] at sp
    exact ⟨fun hin => absurd hin (sp m hm), fun ⟨v, hv, _⟩ => by cases hv⟩
  | some v =>
    rw [e] at sp
    obtain ⟨s1, s2, s3⟩ := sp
    refine ⟨fun hin => ⟨v, rfl, Int.not_lt.mp fun hlt => s3 m hm hlt hin⟩, fun ⟨w, hw, hle⟩ => ?_⟩
    cases hw
    exact least_mono h hgl hst hr hp hle _ s2
end
end ZL

namespace ZL
open PySem PySem.Spec PyProof.Rows L2 Z
def begE (xs : List Itm) (gs : List Int) (ch : List Nat) (k : Nat) : Int × Int := (hereN xs gs ch k + gpA gs k, hereN xs gs ch (k + 1))
theorem gp_atT {gs : List Int} {p : Nat} (h : p < gs.length) (M : Store) : zIx (.p (.tuple (pints gs))) (.p (.int (p : Int))) M = .ok (.p (.int (gpA gs p))) M := ls_at h M
theorem e_law_laid {xs : List Itm} {gs : List Int} (h1 : xs.length ≤ 100) (h2 : xs.length ≤ gs.length) (h3 : FilP xs) (ch : List Nat) (M : Store) :
    F__law_laid [.p (sk xs), .p (.tuple (pints gs)), .p (.list (pnats ch))] M = .ok (.p (.list (((List.range xs.length).map (begE xs gs ch)).map encQ))) M := by
  apply fn_satN
  simp [-List.map_map, c__law_laid]
  refine forP_seq _ _ (fun done sl M' => ∃ d5 d6 d7, sl = [some (.p (sk xs)), some (.p (.tuple (pints gs))), some (.p (.list (pnats ch))), some (.p (.int (hereN xs gs ch done.length))), some (.ref M.length), d5, d6, d7] ∧ M' = M ++ [.lst ((((List.range done.length).map (begE xs gs ch)).map encQ).map .p)])
    ⟨none, none, none, rfl, rfl⟩ ?_ ?_
  · rintro done ⟨x, p⟩ rest sl M' e ⟨d5, d6, d7, rfl, rfl⟩
    have hm : (x, p) ∈ xs.zipIdx := by rw [e]; simp
    have hx : xs[p]? = some x := by simpa using List.mem_zipIdx_iff_getElem?.mp hm
    have hp := (List.getElem?_eq_some_iff.mp hx).1
    have hpd : p = done.length := by
      have t : xs.zipIdx[done.length]? = some (x, p) := by rw [e]; simp
      rw [List.getElem?_zipIdx] at t
      cases hy : xs[done.length]? with
      | none => rw [hy] at t; cases t
      | some y =>
        rw [hy] at t
        simp at t
        exact t.2.symm
    subst hpd
    have il := gp_atT (gs := gs) (p := done.length) (by omega)
    have inn : ∀ M, zIn (.p (.int (done.length : Int))) (.p (.list (pnats ch))) M = .ok (.p (.bool (decide (done.length ∈ ch)))) M := fun M => by
      refine (zin_layL Lay.nat (by decide) false done.length ch M).trans ?_
      simp
    have hn : hereN xs gs ch (done.length + 1) = endI x (hereN xs gs ch done.length + gpA gs done.length) (decide (done.length ∈ ch)) := by simp [hereN, hx]
    have ap : ∀ a b : Int, (a, b) = begE xs gs ch done.length → zAppend (.ref M.length) [.p (.tuple [.int a, .int b])] (M ++ [.lst ((((List.range done.length).map (begE xs gs ch)).map encQ).map .p)]) = .ok (.p .none) (M ++ [.lst ((((List.range (done.length + 1)).map (begE xs gs ch)).map encQ).map .p)]) := fun a b eab => by
      have := app_q (M := M) (R := []) (ys := (List.range done.length).map (begE xs gs ch)) (y := (a, b)) (by simp; omega)
      rw [eab] at this
      rw [List.range_succ, List.map_append]
      rw [← eab] at this
      refine this.trans ?_
      rw [eab]
      rfl
    have el : (done ++ [(x, done.length)]).length = done.length + 1 := by simp
    rw [el]
    obtain ⟨l1, hl1⟩ : ∃ l1, l1 = PyData.tuple (pints gs) := ⟨_, rfl⟩
    obtain ⟨b, hb⟩ : ∃ b, b = hereN xs gs ch done.length + gpA gs done.length := ⟨_, rfl⟩
    have hbe : begE xs gs ch done.length = (b, hereN xs gs ch (done.length + 1)) := by rw [hb]; rfl
    rw [← hb] at hn
    rw [hbe] at ap
    refine ⟨_, rfl, ?_⟩
    cases x with
    | lab =>
      have ap' := ap b b (by rw [hn]; rfl)
      have hn' : hereN xs gs ch (done.length + 1) = b := hn
      rw [hn']
      simp [-zAppend_e, -List.map_append, -List.map_map, L__law_laid_1, il, ← hb, Itm.enc, n_lf, n_lj, mkTup, ap', Sat]
    | fil s =>
      have hs : 0 < s ∧ s < 1073741824 := by have := isP2 (h3 s (List.mem_of_getElem? hx)); omega
      have cm : CMul ((b + s - 1) / s) s := .inr (by omega)
      have hn' : hereN xs gs ch (done.length + 1) = (b + s - 1) / s * s := hn
      have ap' := ap b ((b + s - 1) / s * s) (by rw [hn'])
      rw [hn']
      simp [-zAppend_e, -List.map_append, -List.map_map, L__law_laid_1, il, ← hb, Itm.enc, hs, cm, mkTup, ap', Sat]
    | jmp g s l =>
      by_cases c : done.length ∈ ch
      · have hn' : hereN xs gs ch (done.length + 1) = b + l := by rw [hn]; simp [endI, c]
        have ap' := ap b (b + l) (by rw [hn'])
        rw [hn']
        simp [-zAppend_e, -List.map_append, -List.map_map, L__law_laid_1, il, ← hb, Itm.enc, n_jf, inn, c, mkTup, ap', Sat]
      · have hn' : hereN xs gs ch (done.length + 1) = b + s := by rw [hn]; simp [endI, c]
        have ap' := ap b (b + s) (by rw [hn'])
        rw [hn']
        simp [-zAppend_e, -List.map_append, -List.map_map, L__law_laid_1, il, ← hb, Itm.enc, n_jf, inn, c, mkTup, ap', Sat]
  · rintro sl M' ⟨d5, d6, d7, rfl, rfl⟩
    simp [-List.map_map, Sat]
theorem e_law_way {xs : List Itm} {gs : List Int} (h : FrOk xs) (h2 : xs.length ≤ gs.length) {ch : List Nat} (hc : ch.length ≤ 1000) {at_ : Nat} (ha : at_ ∈ places Itm.isJ xs) (hn : at_ ∉ ch) (M : Store) :
    F__law_way [.p (sk xs), .p (.tuple (pints gs)), .p (.list (pnats ch)), .p (.int (at_ : Int))] M = .ok (.p (.int (wayN xs gs ch at_))) M := by
  apply fn_rt0
  have hx2 := jmp_at ha
  have al := (List.getElem?_eq_some_iff.mp hx2).1
  have gl := (h.2.2 at_ ha).1
  have la := e_law_laid h.1 h2 h.2.1 ch
  have co : ∀ (Q : Store) a0 a1 a2 a4 a5, compP (tgN 6) (zt (z2 zNe (zv 6) (zv 3))) (zv 6) [a0, a1, a2, some (.p (.int (at_ : Int))), a4, a5, none] ((pnats ch).map .p) Q = .ok ((pnats ch).map .p) Q := fun Q a0 a1 a2 a4 a5 => by
    rw [dp_pnats, compP_map (M := Q) (fun o : Nat => D.p (.int (o : Int))) (fun o => true) (fun o : Nat => D.p (.int (o : Int)))]
    · rw [List.filter_eq_self.mpr fun _ _ => rfl]
    · intro o ho
      refine ⟨_, rfl, ?_, fun _ => rfl⟩
      have : ¬ o = at_ := fun e => hn (e ▸ ho)
      have : ¬ (o : Int) = (at_ : Int) := by omega
      simp [this]
  have fz : ∀ Q, frzl ((pnats ch).map .p) Q = .ok (.p (.list (pnats ch))) Q := fun Q => by rw [frzl_map, if_pos (by simp; omega)]
  have it : ∀ js Q, itemsOf (.p (.list (pnats js))) Q = .ok ((pnats js).map .p) Q := fun js Q => rfl
  have sp : ∀ p, p < xs.length → ∀ M, zIx (.p (.list (((List.range xs.length).map (begE xs gs ch)).map encQ))) (.p (.int (p : Int))) M = .ok (.p (encQ (begE xs gs ch p))) M := fun p hp M => zIx_l M (by
    rw [List.getElem?_map, List.getElem?_map, List.getElem?_range hp]
    rfl)
  have s1 := sp at_ al
  have s2 := sp (goal xs at_) gl
  obtain ⟨b1, hb1⟩ : ∃ b1, b1 = begE xs gs ch at_ := ⟨_, rfl⟩
  obtain ⟨b2, hb2⟩ : ∃ b2, b2 = begE xs gs ch (goal xs at_) := ⟨_, rfl⟩
  rw [← hb1] at s1
  rw [← hb2] at s2
  have e1 : b1.2 = hereN xs gs ch (at_ + 1) := by rw [hb1]; rfl
  have e2 : b2.1 = hereN xs gs ch (goal xs at_) + gpA gs (goal xs at_) := by rw [hb2]; rfl
  obtain ⟨lay, hlay⟩ : ∃ lay, lay = PyData.list (((List.range xs.length).map (begE xs gs ch)).map encQ) := ⟨_, rfl⟩
  rw [← hlay] at s1 s2 la
  have w : wayN xs gs ch at_ = if at_ < goal xs at_ then b2.1 - b1.2 else b1.2 - b2.1 := by rw [e1, e2]; rfl
  rw [w]
  by_cases c : at_ < goal xs at_
  · simp [-itemsOf_l, -frzl_map, c__law_way, it, wipeS, co, fz, la, ix_sk _ hx2, Itm.enc, c, s1, s2, encQ]
  · simp [-itemsOf_l, -frzl_map, c__law_way, it, wipeS, co, fz, la, ix_sk _ hx2, Itm.enc, c, s1, s2, encQ]
end ZL

namespace ZL
open PySem PySem.Spec PyProof.Rows L2 Z
theorem e_law_stuck {xs : List Itm} {gs rs : List Int} {n : Nat} (h : Frm xs n) (hl : xs.length ≤ gs.length) (hr : rs.length = (places Itm.isJ xs).length) {ch : List Nat} (hc : ch.length ≤ 1000) (M : Store) :
    F__law_stuck [.p (sk xs), .p (.tuple (pints gs)), .p (.tuple (pints rs)), .p (.list (pnats ch))] M = .ok (.p (.list (pnats (stuckL xs gs rs ch)))) M := by
  have hx := h.2.1
  have lj := e_law_jumps (xs := xs) (by omega)
  have hpl := len_places Itm.isJ xs
  apply fn_satN
  have en : ∀ M, enumOf (.p (.list (pnats (places Itm.isJ xs)))) M = .ok ((places Itm.isJ xs).zipIdx.map fun p => D.p (.tuple [.int (p.2 : Int), .int (p.1 : Int)])) M := fun M => by
    rw [enumOf_l, pnats, enumFrom_map]
  obtain ⟨sx, hsx⟩ : ∃ sx, sx = sk xs := ⟨_, rfl⟩
  obtain ⟨gl, hgl⟩ : ∃ gl, gl = PyData.tuple (pints gs) := ⟨_, rfl⟩
  have lw := fun (j : Nat) (hj : j ∈ places Itm.isJ xs) (hn : j ∉ ch) (M : Store) => e_law_way (gs := gs) h.ok hl hc hj hn M
  rw [← hsx] at lj lw ⊢
  rw [← hgl] at lw ⊢
  simp [-List.map_map, c__law_stuck, lj, en]
  refine forP_seq _ _ (fun done sl M' => ∃ d5 d6, sl = [some (.p sx), some (.p gl), some (.p (.tuple (pints rs))), some (.p (.list (pnats ch))), some (.ref M.length), d5, d6] ∧ M' = M ++ [.lst ((pnats (((((places Itm.isJ xs).zip rs).take done.length).filter (badB xs gs ch)).map Prod.fst)).map .p)])
    ⟨none, none, rfl, rfl⟩ ?_ ?_
  · rintro done ⟨j, i⟩ rest sl M' e ⟨d5, d6, rfl, rfl⟩
    have hji : (places Itm.isJ xs)[done.length]? = some j ∧ i = done.length := by
      have t : (places Itm.isJ xs).zipIdx[done.length]? = some (j, i) := by rw [e]; simp
      rw [List.getElem?_zipIdx] at t
      cases hy : (places Itm.isJ xs)[done.length]? with
      | none => rw [hy] at t; cases t
      | some y =>
        rw [hy] at t
        simp at t
        exact ⟨by rw [t.1], t.2.symm⟩
    obtain ⟨hj, hi⟩ := hji
    subst hi
    have hil := (List.getElem?_eq_some_iff.mp hj).1
    have hrl : done.length < rs.length := by omega
    have hjp := List.mem_of_getElem? hj
    obtain ⟨r, hrr⟩ : ∃ r, r = rs[done.length] := ⟨_, rfl⟩
    have ixr : ∀ M, zIx (.p (.tuple (pints rs))) (.p (.int (done.length : Int))) M = .ok (.p (.int r)) M := fun M => zIx_t M (by rw [pints, List.getElem?_map, List.getElem?_eq_getElem hrl, hrr]; rfl)
    have hz : ((places Itm.isJ xs).zip rs)[done.length]? = some (j, r) := by
      rw [List.getElem?_zip_eq_some]
      exact ⟨hj, by rw [List.getElem?_eq_getElem hrl, hrr]⟩
    have ht : ((places Itm.isJ xs).zip rs).take (done.length + 1) = ((places Itm.isJ xs).zip rs).take done.length ++ [(j, r)] := by
      rw [List.take_add_one, hz]
      rfl
    have el : (done ++ [(j, done.length)]).length = done.length + 1 := by simp
    rw [el, ht, List.filter_append, List.map_append]
    have hal : ((((places Itm.isJ xs).zip rs).take done.length).filter (badB xs gs ch)).length ≤ 100 := by
      have h1 := List.length_filter_le (badB xs gs ch) (((places Itm.isJ xs).zip rs).take done.length)
      have h2 := List.length_take_le done.length ((places Itm.isJ xs).zip rs)
      omega
    obtain ⟨acc, ha⟩ : ∃ a, a = ((((places Itm.isJ xs).zip rs).take done.length).filter (badB xs gs ch)).map Prod.fst := ⟨_, rfl⟩
    have hacl : acc.length ≤ 100 := by rw [ha, List.length_map]; exact hal
    rw [← ha]
    have ap := app_n (M := M) (R := []) (ys := acc) (y := j) (by omega)
    have inn : ∀ M, zNotIn (.p (.int (j : Int))) (.p (.list (pnats ch))) M = .ok (.p (.bool (!decide (j ∈ ch)))) M := fun M => by
      refine (zin_layL Lay.nat (by decide) true j ch M).trans ?_
      simp
    refine ⟨_, rfl, ?_⟩
    by_cases hc' : j ∈ ch
    · have e0 : ([(j, r)].filter (badB xs gs ch)).map Prod.fst = [] := by simp [badB, hc']
      rw [e0, List.append_nil]
      simp [-List.map_map, L__law_stuck_1, inn, hc', Sat]
    · have lw' := lw j hjp hc'
      rw [← way_N h gs ch hjp] at lw'
      by_cases hw : r < wayOf xs gs ch j
      · have e0 : ([(j, r)].filter (badB xs gs ch)).map Prod.fst = [j] := by simp [badB, hc', hw]
        rw [e0]
        simp [-zAppend_e, -List.map_map, L__law_stuck_1, inn, hc', lw', ixr, hw, ap, Sat]
      · have e0 : ([(j, r)].filter (badB xs gs ch)).map Prod.fst = [] := by simp [badB, hc', hw]
        rw [e0, List.append_nil]
        simp [-List.map_map, L__law_stuck_1, inn, hc', lw', ixr, hw, Sat]
  · rintro sl M' ⟨d5, d6, rfl, rfl⟩
    have e0 : (places Itm.isJ xs).zipIdx.length = ((places Itm.isJ xs).zip rs).length := by rw [List.length_zipIdx, List.length_zip]; omega
    rw [e0, List.take_length]
    have e1 : (((places Itm.isJ xs).zip rs).filter (badB xs gs ch)).map Prod.fst = stuckL xs gs rs ch := rfl
    rw [e1]
    have fz := zfreeze_app0 M [] (pnats (stuckL xs gs rs ch))
    simp [-List.map_map, fz, Sat]
theorem add_ln {a b : List Nat} (h : a.length + b.length ≤ 1000) (M : Store) : zAdd (.p (.list (pnats a))) (.p (.list (pnats b))) M = .ok (.p (.list (pnats (a ++ b)))) M := by
  simp only [zAdd, zAddL, lstv_p]
  rw [← List.map_append, frzl_map, if_pos (by simp; omega)]
  simp [pnats]
theorem least_loop {xs : List Itm} {gs rs : List Int} {n : Nat} (h : Frm xs n) (hl : xs.length ≤ gs.length) (hr : rs.length = (places Itm.isJ xs).length) (M : Store) : ∀ (k : Nat) (ch : List Nat), ChOk xs ch → (places Itm.isJ xs).length < k + ch.length →
    whileN (zt (z2 zNe (zv 4) (zs mkLstF znil))) L__law_least_1 k [some (.p (sk xs)), some (.p (.tuple (pints gs))), some (.p (.tuple (pints rs))), some (.p (.list (pnats ch))), some (.p (.list (pnats (stuckL xs gs rs ch))))] M =
      .nx [some (.p (sk xs)), some (.p (.tuple (pints gs))), some (.p (.tuple (pints rs))), some (.p (.list (pnats (fillU xs gs rs k ch)))), some (.p (.list []))] M
  | 0, ch, hc, hn => absurd hc.le (by omega)
  | k + 1, ch, hc, hn => by
    have h1 := h.2.1
    have hpl := len_places Itm.isJ xs
    have ne : ∀ M, zNe (.p (.list (pnats (stuckL xs gs rs ch)))) (.p (.list [])) M = .ok (.p (.bool (!decide (stuckL xs gs rs ch = [])))) M := fun M => zNe_lay Lay.nat.lst (by decide) (stuckL xs gs rs ch) [] M
    unfold whileN fillU
    by_cases hs : stuckL xs gs rs ch = []
    · rw [if_pos hs]
      rw [hs] at ne ⊢
      simp at ne
      have pn : pnats [] = [] := rfl
      rw [pn] at ne ⊢
      simp [mkLstF, ne]
    · rw [if_neg hs]
      have hp : 0 < (stuckL xs gs rs ch).length := List.length_pos_iff.mpr hs
      have hll : (srtN (ch ++ stuckL xs gs rs ch)).length = ch.length + (stuckL xs gs rs ch).length := by rw [srtN, len_lsort, List.length_append]
      have so := stuck_ok (ls := gs) hc hr
      have ih := least_loop h hl hr M k (srtN (ch ++ stuckL xs gs rs ch)) (srt_ok so) (by omega)
      have hle := so.le
      rw [List.length_append] at hle
      have ad := add_ln (a := ch) (b := stuckL xs gs rs ch) (by omega)
      have so2 : ∀ M, zSort [.p (.list (pnats (ch ++ stuckL xs gs rs ch)))] M = .ok (.p (.list (pnats (srtN (ch ++ stuckL xs gs rs ch))))) M := fun M => zSort_of srt_nat (xs := ch ++ stuckL xs gs rs ch) rfl (by rw [List.length_append]; omega)
      have st := e_law_stuck h hl hr (ch := srtN (ch ++ stuckL xs gs rs ch)) (by omega)
      have hd : decide (stuckL xs gs rs ch = []) = false := decide_eq_false hs
      rw [hd] at ne
      obtain ⟨sx, hsx⟩ : ∃ sx, sx = sk xs := ⟨_, rfl⟩
      obtain ⟨gl, hgl⟩ : ∃ gl, gl = PyData.tuple (pints gs) := ⟨_, rfl⟩
      obtain ⟨rl, hrl⟩ : ∃ rl, rl = PyData.tuple (pints rs) := ⟨_, rfl⟩
      rw [← hsx, ← hgl, ← hrl] at ih st ⊢
      obtain ⟨t1, ht1⟩ : ∃ t, t = PyData.list (pnats (stuckL xs gs rs ch)) := ⟨_, rfl⟩
      obtain ⟨t2, ht2⟩ : ∃ t, t = PyData.list (pnats (ch ++ stuckL xs gs rs ch)) := ⟨_, rfl⟩
      obtain ⟨t0, ht0⟩ : ∃ t, t = PyData.list (pnats ch) := ⟨_, rfl⟩
      obtain ⟨c2, hc2⟩ : ∃ t, t = srtN (ch ++ stuckL xs gs rs ch) := ⟨_, rfl⟩
      rw [← hc2] at ih so2 st ⊢
      rw [← ht1] at ne ad ⊢
      rw [← ht0] at ad ⊢
      rw [← ht2] at ad so2
      have eb : L__law_least_1 [some (.p sx), some (.p gl), some (.p rl), some (.p t0), some (.p t1)] M = .nx [some (.p sx), some (.p gl), some (.p rl), some (.p (.list (pnats c2))), some (.p (.list (pnats (stuckL xs gs rs c2))))] M := by
        simp [L__law_least_1, ad, so2, st]
      simp [mkLstF, ne, eb, ih]
theorem e_law_least {xs : List Itm} {gs rs : List Int} {n : Nat} (h : Frm xs n) (hl : xs.length ≤ gs.length) (hr : rs.length = (places Itm.isJ xs).length) (M : Store) : F__law_least [.p (sk xs), .p (.tuple (pints gs)), .p (.tuple (pints rs))] M = .ok (.p (tnats (leastA xs gs rs))) M := by
  have h1 := h.2.1
  have hpl := len_places Itm.isJ xs
  apply fn_rt0
  have st := e_law_stuck h hl hr (ch := []) (by simp)
  have lo := least_loop h hl hr M 64 [] (ch_nil xs) (by omega)
  have pn : pnats [] = [] := rfl
  rw [pn] at st lo
  obtain ⟨sx, hsx⟩ : ∃ sx, sx = sk xs := ⟨_, rfl⟩
  obtain ⟨gl, hgl⟩ : ∃ gl, gl = PyData.tuple (pints gs) := ⟨_, rfl⟩
  obtain ⟨rl, hrl⟩ : ∃ rl, rl = PyData.tuple (pints rs) := ⟨_, rfl⟩
  rw [← hsx, ← hgl, ← hrl] at lo st ⊢
  have tu : ∀ M, zTuple [.p (.list (pnats (fillU xs gs rs 64 [])))] M = .ok (.p (tnats (fillU xs gs rs 64 []))) M := fun M => by unfold zTuple; simp
  unfold c__law_least swhile
  simp [-zTuple_l, mkLstF, st, lo, tu, leastA, fillA]
theorem e_law_longer {ls : List Int} {p : Nat} (hp : p < ls.length) (hl : ls.length ≤ 1000) (m : Int) (M : Store) : F__law_longer [.p (.tuple (pints ls)), .p (.int (p : Int)), .p (.int m)] M = .ok (.p (.tuple (pints (longer ls p m)))) M := e_lengthened hp hl m M
end ZL

namespace ZL
open PySem PySem.Spec PyProof.Rows L2 Z
theorem no_trips {xs : List Itm} (h : ∀ k ∈ places Itm.isJ xs, ∀ s, Itm.fil s ∈ xs → growA xs k % s = 0) : trips xs = [] := by
  rw [List.eq_nil_iff_forall_not_mem]
  intro t ht
  unfold trips at ht
  obtain ⟨k, hk, ht⟩ := List.mem_flatMap.mp ht
  obtain ⟨p, hp, ht⟩ := List.mem_flatMap.mp ht
  obtain ⟨o, ho, rfl⟩ := List.mem_map.mp ht
  obtain ⟨ho1, ho2⟩ := List.mem_filter.mp ho
  have hpf := (List.mem_filter.mp hp).2
  have ho3 := (List.mem_filter.mp ho1).1
  unfold isFat at hpf
  cases hx : xs[p]? with
  | none => rw [hx] at hpf; cases hpf
  | some x =>
    rw [hx] at hpf
    cases x with
    | lab => cases hpf
    | jmp g s l => cases hpf
    | fil s =>
      have hs : szAt xs p = s := by simp [szAt, hx, Itm.sz]
      have := h o ho3 s (List.mem_of_getElem? hx)
      unfold growA at this
      unfold tripB at ho2
      rw [hs, this] at ho2
      simp at ho2
theorem e_steadiedZ {q : Stq} (hq : q.ok) (R : Store) {xs : List Itm} {j : Nat} (h : Frm xs j) (hgl : GL xs) : ∃ x q', (∃ ys, x = sk ys ∧ Frm ys j ∧ GL ys ∧ trips ys = [] ∧ ys.length = xs.length) ∧ q'.ok ∧ F__law_steadied [.ref 1, .p (sk xs)] (St q ++ R) = .ok (.p x) (St q' ++ R) := by
  obtain ⟨x, q', ⟨ys, a, b, c, d, e, f, g, i⟩, k⟩ := e_steadiedY hq R h hgl
  refine ⟨x, q', ⟨ys, a, b, c, no_trips fun k hk s hs => ?_, f⟩, k⟩
  obtain ⟨m, hm⟩ := Int.dvd_of_emod_eq_zero (g k hk)
  rw [hm, Int.mul_emod, (top_steps h.filP).2.2 s (i s hs), Int.zero_mul, Int.zero_emod]
/-- the law's frame is steady -/
theorem e_calm {q : Stq} (hq : q.ok) (R : Store) {xs : List Itm} {j : Nat} (h : Frm xs j) (hgl : GL xs) : ∃ x q', (∃ ys, x = sk ys ∧ Frm ys j ∧ GL ys ∧ trips ys = []) ∧ q'.ok ∧ F__law_calm [.ref 1, .p (sk xs)] (St q ++ R) = .ok (.p x) (St q' ++ R) := by
  apply fn_satS
  refine sat_any fun Φ hΦ => ?_
  obtain ⟨sj, sp, sln⟩ := h.sane
  have lt := e_law_triples sj sp sln
  have eqn : ∀ M, zEq (.p (.list ((trips xs).map enc3))) (.p (.list [])) M = .ok (.p (.bool (decide (trips xs = [])))) M := fun M => by
    rw [eq_nil_l (fun x hx => by
      obtain ⟨t, _, rfl⟩ := List.mem_map.mp hx
      exact ⟨by simp [enc3, PyData.canLay0, PyData.canLayAll0], by simp [enc3, PyData.depth, PyData.depthAll]⟩)]
    congr 3
    rw [Bool.eq_iff_iff]
    simp
  obtain ⟨x, q1, ⟨ys, rfl, a, b, c, _⟩, ok1, e1⟩ := e_steadiedZ hq R h hgl
  obtain ⟨k, q2, hk, ok2, e2⟩ := e_drawZ q hq R (z := 5) (n := 5) rfl (by decide) (by decide)
  obtain ⟨x, q3, ⟨zs, rfl, a3, b3, c3, _⟩, ok3, e3⟩ := e_steadiedZ ok2 R h hgl
  obtain ⟨sx, hsx⟩ : ∃ sx, sx = sk xs := ⟨_, rfl⟩
  obtain ⟨tr, htr⟩ : ∃ tr, tr = PyData.list ((trips xs).map enc3) := ⟨_, rfl⟩
  rw [← hsx, ← htr] at lt
  rw [← htr] at eqn
  rw [← hsx] at e1 e3 ⊢
  by_cases ht : trips xs = []
  · by_cases h0 : 0 < k
    · simp [c__law_calm, lt, eqn, ht, mkLstF, e2, h0]
      exact hΦ _ ⟨sx, q2, [], by rw [List.append_nil], ok2, xs, hsx, h, hgl, ht⟩
    · simp [c__law_calm, lt, eqn, ht, mkLstF, e2, h0, e3]
      exact hΦ _ ⟨_, q3, [], by rw [List.append_nil], ok3, zs, rfl, a3, b3, c3⟩
  · simp [c__law_calm, lt, eqn, ht, mkLstF, e1]
    exact hΦ _ ⟨_, q1, [], by rw [List.append_nil], ok1, ys, rfl, a, b, c⟩
end ZL

namespace ZL
open PySem PySem.Spec PyProof.Rows L2 Z
theorem e_serves {xs : List Itm} {ls rs : List Int} (h : LOk xs ls) (hg : GOk xs) (ch : List Nat) (M : Store) : F_serves [.p (prg xs ls rs), .p (tnats ch)] M = .ok (.p (.bool (fit xs ls rs ch))) M := by
  apply fn_rt0
  have e := e_stuck (rs := rs) h hg ch
  have q : ∀ M, zEq (.p (tnats (stuckL xs ls rs ch))) (.p (.tuple [])) M = .ok (.p (.bool (fit xs ls rs ch))) M := eq_tn _ []
  simp [c_serves, e, mkTup, q]
/-! ### all choices -/
def chs (js : List Nat) : List (List Nat) := js.foldl (fun acc j => acc ++ acc.map fun c => c ++ [j]) [[]]
theorem chs_snoc (js : List Nat) (j : Nat) : chs (js ++ [j]) = chs js ++ (chs js).map fun c => c ++ [j] := by
  unfold chs
  rw [List.foldl_append]
  rfl
theorem chs_len (js : List Nat) : (chs js).length = 2 ^ js.length := by
  have : ∀ (js : List Nat) (acc : List (List Nat)), (js.foldl (fun acc j => acc ++ acc.map fun c => c ++ [j]) acc).length = acc.length * 2 ^ js.length := by
    intro js
    induction js with
    | nil => intro acc; simp
    | cons j js ih =>
      intro acc
      rw [List.foldl_cons, ih, List.length_append, List.length_map, List.length_cons, Nat.pow_succ, ← Nat.two_mul, Nat.mul_comm 2, Nat.mul_assoc, Nat.mul_comm 2]
  have := this js [[]]
  simpa [chs] using this
theorem chs_in {js c : List Nat} (h : c ∈ chs js) : ∀ j ∈ c, j ∈ js := by
  have : ∀ (js : List Nat) (acc : List (List Nat)) (S : Nat → Prop), (∀ c ∈ acc, ∀ j ∈ c, S j) → ∀ c ∈ js.foldl (fun acc j => acc ++ acc.map fun c => c ++ [j]) acc, ∀ j ∈ c, S j ∨ j ∈ js := by
    intro js
    induction js with
    | nil => intro acc S h c hc j hj; exact .inl (h c hc j hj)
    | cons k js ih =>
      intro acc S h c hc j hj
      rw [List.foldl_cons] at hc
      rcases ih _ (fun j => S j ∨ j = k) (fun c hc j hj => by
        rcases List.mem_append.mp hc with hc | hc
        · exact .inl (h c hc j hj)
        · obtain ⟨d, hd, rfl⟩ := List.mem_map.mp hc
          rcases List.mem_append.mp hj with hj | hj
          · exact .inl (h d hd j hj)
          · exact .inr (List.mem_singleton.mp hj)) c hc j hj with (h1 | h1) | h1
      · exact .inl h1
      · exact .inr (by rw [h1]; exact List.mem_cons_self ..)
      · exact .inr (List.mem_cons_of_mem _ h1)
  intro j hj
  rcases this js [[]] (fun _ => False) (fun c hc j hj => by rw [List.mem_singleton.mp hc] at hj; cases hj) c h j hj with h | h
  · exact h.elim
  · exact h
theorem chs_sub {js c : List Nat} (h : c ∈ chs js) : c.length ≤ js.length := by
  have : ∀ (js : List Nat) (acc : List (List Nat)) (n : Nat), (∀ c ∈ acc, c.length ≤ n) → ∀ c ∈ js.foldl (fun acc j => acc ++ acc.map fun c => c ++ [j]) acc, c.length ≤ n + js.length := by
    intro js
    induction js with
    | nil => intro acc n h c hc; exact h c hc
    | cons k js ih =>
      intro acc n h c hc
      rw [List.foldl_cons] at hc
      have := ih _ (n + 1) (fun c hc => by
        rcases List.mem_append.mp hc with hc | hc
        · exact Nat.le_succ_of_le (h c hc)
        · obtain ⟨d, hd, rfl⟩ := List.mem_map.mp hc
          have := h d hd
          simp
          exact this) c hc
      rw [List.length_cons]
      omega
  have := this js [[]] 0 (fun c hc => by rw [List.mem_singleton.mp hc]; exact Nat.le_refl _) c h
  omega
theorem chs_full (js : List Nat) : js ∈ chs js := by
  have : ∀ (n : Nat) (l : List Nat), l.length = n → l ∈ chs l := by
    intro n
    induction n with
    | zero => intro l h; rw [List.length_eq_zero_iff.mp h]; exact List.mem_singleton.mpr rfl
    | succ n ih =>
      intro l h
      rcases List.eq_nil_or_concat l with e | ⟨l', j, e⟩
      · rw [e] at h; cases h
      · rw [List.concat_eq_append] at e
        subst e
        rw [chs_snoc]
        exact List.mem_append.mpr (.inr (List.mem_map.mpr ⟨l', ih l' (by simpa using h), rfl⟩))
  exact this _ js rfl
theorem comp_ch {acc : List (List Nat)} {j : Nat} {d0 d1 : Option D} (hc : ∀ c ∈ acc, c.length ≤ 1000) (Q : Store) :
    compP (tgN 3) ztyes (z2 zAdd (zv 3) (zs mkTup (zcons (zv 2) znil))) [d0, d1, some (.p (.int (j : Int))), none] ((acc.map tnats).map .p) Q = .ok (((acc.map fun c => c ++ [j]).map tnats).map .p) Q := by
  rw [show (acc.map tnats).map D.p = acc.map fun c => D.p (tnats c) by rw [List.map_map]; rfl]
  rw [compP_map (M := Q) (fun c : List Nat => D.p (tnats c)) (fun _ => true) (fun c => D.p (tnats (c ++ [j])))]
  · rw [List.filter_eq_self.mpr fun _ _ => rfl]
    simp
  · intro c hcm
    have := hc c hcm
    have hz : c.length + 1 ≤ 16777216 := by omega
    refine ⟨_, rfl, rfl, fun _ => ?_⟩
    simp [mkTup, zAdd, hz, pnats]
theorem add_ch {a b : List (List Nat)} (h : a.length + b.length ≤ 10000) (Q : Store) : zAdd (.p (.list (a.map tnats))) (.p (.list (b.map tnats))) Q = .ok (.p (.list ((a ++ b).map tnats))) Q := by
  simp only [zAdd, zAddL, lstv_p]
  rw [← List.map_append, frzl_map, if_pos (by simp; omega), List.map_append]
theorem frz_ch {a : List (List Nat)} (h : a.length ≤ 10000) (Q : Store) : frzl ((a.map tnats).map .p) Q = .ok (.p (.list (a.map tnats))) Q := by
  rw [frzl_map, if_pos (by simp; omega)]
theorem pow_le {n : Nat} (h : n ≤ 8) : 2 ^ n ≤ 256 := Nat.pow_le_pow_right (by decide) h
theorem b_all1 {js : List Nat} {j : Nat} (h : js.length < 8) {d0 : Option D} (M : Store) : L_all_choices_1 [d0, some (.p (.list ((chs js).map tnats))), some (.p (.int (j : Int))), none] M = .nx [d0, some (.p (.list ((chs (js ++ [j])).map tnats))), some (.p (.int (j : Int))), none] M := by
  have hl : (chs js).length ≤ 256 := by rw [chs_len]; exact pow_le (by omega)
  have hc : ∀ c ∈ chs js, c.length ≤ 1000 := fun c hc => by
    have := chs_sub hc
    omega
  have co := comp_ch (acc := chs js) (j := j) (d0 := d0) (d1 := some (.p (.list ((chs js).map tnats)))) hc
  have fz := frz_ch (a := (chs js).map fun c => c ++ [j]) (by rw [List.length_map]; omega)
  have ad := add_ch (a := chs js) (b := (chs js).map fun c => c ++ [j]) (by rw [List.length_map]; omega)
  rw [chs_snoc]
  simp [-frzl_map, -List.map_map, -List.map_append, L_all_choices_1, wipeS, co, fz, ad]
/-- all choices of a skeleton, in order -/
def allCh (xs : List Itm) : List (List Nat) := lsort tnats (chs (places Itm.isJ xs))
theorem allCh_len {xs : List Itm} (h : (places Itm.isJ xs).length ≤ 8) : (allCh xs).length ≤ 256 := by
  unfold allCh
  rw [len_lsort, chs_len]
  exact pow_le h
theorem zSort_ch {xs : List Itm} (h : (places Itm.isJ xs).length ≤ 8) (M : Store) : zSort [.p (.list ((chs (places Itm.isJ xs)).map tnats))] M = .ok (.p (.list ((allCh xs).map tnats))) M :=
  zSort_of srt_tn rfl (by rw [chs_len]; have := pow_le h; omega)
theorem e_all_choices {xs : List Itm} (hl : xs.length ≤ 1000) (h : (places Itm.isJ xs).length ≤ 8) (M : Store) : F_all_choices [.p (sk xs)] M = .ok (.p (.list ((allCh xs).map tnats))) M := by
  have jo := e_jumps_of hl
  have so := zSort_ch h
  apply fn_satN
  have e0 : PyData.list [.tuple []] = .list ((chs []).map tnats) := rfl
  simp [c_all_choices, mkTup, mkLstF, e0, jo, dp_pnats]
  refine forP_seq _ _ (fun done sl M' => ∃ d2, sl = [some (.p (sk xs)), some (.p (.list ((chs done).map tnats))), d2, none] ∧ M = M') ⟨none, rfl, rfl⟩ ?_ ?_
  · rintro done j rest sl M' e ⟨d2, rfl, rfl⟩
    have hd : done.length < 8 := by
      rw [e] at h
      simp at h
      omega
    exact ⟨_, rfl, _, _, b_all1 hd M, _, rfl, rfl⟩
  · rintro sl M' ⟨d2, rfl, rfl⟩
    simp [so, Sat]
/-- the choices that serve -/
def served (xs : List Itm) (ls rs : List Int) : List (List Nat) := (allCh xs).filter (fit xs ls rs)
theorem served_len {xs : List Itm} (h : (places Itm.isJ xs).length ≤ 8) (ls rs : List Int) : (served xs ls rs).length ≤ 256 := Nat.le_trans (List.length_filter_le _ _) (allCh_len h)
theorem e_serving {xs : List Itm} {ls rs : List Int} (h : LOk xs ls) (hg : GOk xs) (h8 : (places Itm.isJ xs).length ≤ 8) (M : Store) : F_serving [.p (prg xs ls rs)] M = .ok (.p (.tuple ((served xs ls rs).map tnats))) M := by
  apply fn_rt0
  have h1 := h.1
  have ac := e_all_choices (xs := xs) (by omega) h8
  have sv := e_serves (rs := rs) h hg
  have ix : ∀ M, zIx (.p (prg xs ls rs)) (.p (.int 0)) M = .ok (.p (sk xs)) M := fun M => rfl
  have co : ∀ Q : Store, compP (tgN 1) (zt (zs (zfc 2 F_serves) (zcons (zv 0) (zcons (zv 1) znil)))) (zv 1) [some (.p (prg xs ls rs)), none] (((allCh xs).map tnats).map .p) Q = .ok (((served xs ls rs).map tnats).map .p) Q := fun Q => by
    rw [show ((allCh xs).map tnats).map D.p = (allCh xs).map fun c => D.p (tnats c) by rw [List.map_map]; rfl]
    rw [compP_map (M := Q) (fun c : List Nat => D.p (tnats c)) (fit xs ls rs) (fun c => D.p (tnats c)), List.map_map]
    · rfl
    · intro c _
      refine ⟨_, rfl, ?_, fun _ => rfl⟩
      have := sv c
      simp [this]
  have fz := frz_ch (a := served xs ls rs) (by have := served_len h8 ls rs; omega)
  simp [-frzl_map, -List.map_map, c_serving, ix, ac, wipeS, co, fz, zTuple]
theorem served_in {xs : List Itm} {ls rs : List Int} {c : List Nat} (h : c ∈ served xs ls rs) : c ∈ chs (places Itm.isJ xs) := mem_lsort.mp (List.mem_filter.mp h).1
/-- that every jump is long serves -/
theorem full_serves (xs : List Itm) (ls rs : List Int) : places Itm.isJ xs ∈ served xs ls rs := by
  refine List.mem_filter.mpr ⟨mem_lsort.mpr (chs_full _), ?_⟩
  rw [fit_iff]
  intro q hq hn
  exact absurd (zip_mem hq) hn
end ZL

namespace ZL
open PySem PySem.Spec PyProof.Rows L2 Z
/-- a within b -/
def wth (a b : List Nat) : Bool := decide (∀ j ∈ a, j ∈ b)
theorem boolsOf_p (f : Nat → Bool) : ∀ a : List Nat, boolsOf ((a.map fun j => PyData.bool (f j)).map D.p) = some (a.map f)
  | [] => rfl
  | x :: a => by rw [List.map_cons, List.map_cons, boolsOf, boolsOf_p f a]; rfl
theorem e_is_within {a b : List Nat} (ha : a.length ≤ 1000) (M : Store) : F_is_within [.p (tnats a), .p (tnats b)] M = .ok (.p (.bool (wth a b))) M := by
  apply fn_rt0
  have co : ∀ Q : Store, compP (tgN 2) ztyes (z2 zIn (zv 2) (zv 1)) [some (.p (tnats a)), some (.p (tnats b)), none] (a.map fun j : Nat => D.p (.int (j : Int))) Q = .ok ((a.map fun j => PyData.bool (decide (j ∈ b))).map .p) Q := fun Q => by
    rw [compP_map (M := Q) (fun j : Nat => D.p (.int (j : Int))) (fun _ => true) (fun j => D.p (.bool (decide (j ∈ b))))]
    · rw [List.filter_eq_self.mpr fun _ _ => rfl, List.map_map]
      rfl
    · intro j _
      refine ⟨_, rfl, rfl, fun _ => ?_⟩
      simp [zIn, tnats]
  have fz : ∀ Q, frzl ((a.map fun j => PyData.bool (decide (j ∈ b))).map .p) Q = .ok (.p (.list (a.map fun j => PyData.bool (decide (j ∈ b))))) Q := fun Q => by rw [frzl_map, if_pos (by simp; omega)]
  have al : ∀ Q, zAll [.p (.list (a.map fun j => PyData.bool (decide (j ∈ b))))] Q = .ok (.p (.bool (wth a b))) Q := fun Q => by
    unfold zAll
    simp only [lstv_p, boolsOf_p]
    congr 3
    rw [Bool.eq_iff_iff]
    simp [wth]
  have it : ∀ Q, itemsOf (.p (tnats a)) Q = .ok (a.map fun j : Nat => D.p (.int (j : Int))) Q := fun Q => by unfold tnats; rw [itemsOf_t, dp_pnats]
  simp [-frzl_map, -List.map_map, c_is_within, it, wipeS, co, fz, al]
/-- the first of the shortest choices -/
def few (sv : List (List Nat)) : List Nat := sv.getD (leastAt (sv.map List.length)) []
theorem few_spec {sv : List (List Nat)} (h : sv ≠ []) : sv[leastAt (sv.map List.length)]? = some (few sv) ∧ few sv ∈ sv ∧ ∀ c ∈ sv, (few sv).length ≤ c.length := by
  have hl : 0 < sv.length := List.length_pos_iff.mpr h
  obtain ⟨h1, h2⟩ := argBest_lt (fun i => ((((sv.map List.length).getD i 0 : Nat) : Int))) ((sv.map List.length).length - 1)
  have e : argBest (fun i j => decide ((((sv.map List.length).getD i 0 : Nat) : Int) < (((sv.map List.length).getD j 0 : Nat) : Int))) ((sv.map List.length).length - 1) = leastAt (sv.map List.length) := rfl
  rw [e] at h1 h2
  rw [List.length_map] at h1 h2
  have hk : leastAt (sv.map List.length) < sv.length := by omega
  have e1 : sv[leastAt (sv.map List.length)]? = some (few sv) := by
    unfold few
    rw [List.getD_eq_getElem?_getD, List.getElem?_eq_getElem hk]
    rfl
  refine ⟨e1, List.mem_of_getElem? e1, fun c hc => ?_⟩
  obtain ⟨j, hj, ej⟩ := List.mem_iff_getElem.mp hc
  have h3 := h2 j (by omega)
  have g1 : (sv.map List.length).getD j 0 = c.length := by
    rw [List.getD_eq_getElem?_getD, List.getElem?_map, List.getElem?_eq_getElem hj, ej]
    rfl
  have g2 : (sv.map List.length).getD (leastAt (sv.map List.length)) 0 = (few sv).length := by
    rw [List.getD_eq_getElem?_getD, List.getElem?_map, e1]
    rfl
  rw [g1, g2] at h3
  omega
def paperE (a b : List Nat) : Ex := ⟨"NoLeast", some ("paper", .tuple [tnats a, tnats b])⟩
theorem e_least {xs : List Itm} {ls rs : List Int} (h : LOk xs ls) (hg : GOk xs) (h8 : (places Itm.isJ xs).length ≤ 8) :
    ((∀ c ∈ served xs ls rs, wth (few (served xs ls rs)) c = true) → ∀ M, F_least_choice [.p (prg xs ls rs)] M = .ok (.p (tnats (few (served xs ls rs)))) M) ∧
    ((¬ ∀ c ∈ served xs ls rs, wth (few (served xs ls rs)) c = true) → ∃ c ∈ served xs ls rs, wth (few (served xs ls rs)) c = false ∧ ∀ M, F_least_choice [.p (prg xs ls rs)] M = .exc (paperE (few (served xs ls rs)) c) M) := by
  have sv := e_serving (rs := rs) h hg h8
  have ne : served xs ls rs ≠ [] := List.ne_nil_of_mem (full_serves xs ls rs)
  have hin : ∀ c ∈ served xs ls rs, c.length ≤ 8 := fun c hc => Nat.le_trans (chs_sub (served_in hc)) h8
  obtain ⟨s, hs⟩ : ∃ s, s = served xs ls rs := ⟨_, rfl⟩
  rw [← hs] at sv ne hin ⊢
  obtain ⟨f1, f2, f3⟩ := few_spec ne
  have fl := hin _ f2
  have mn : ∀ (sl : Sl) (Q : Store), zMinLen (zv 1) (some (.p (prg xs ls rs)) :: some (.p (.tuple (s.map tnats))) :: sl) Q = .ok (.p (tnats (few s))) Q := fun sl Q => by
    unfold zMinLen
    have e : s.map tnats = (s.map pnats).map PyData.tuple := by rw [List.map_map]; rfl
    have e2 : (s.map pnats).map List.length = s.map List.length := by rw [List.map_map]; exact List.map_congr_left fun c _ => pnats_len c
    simp only [zv_S, zv_0, Out.bind_ok]
    rw [e, tupLens_map, e2]
    have e3 : ((s.map pnats).map PyData.tuple)[leastAt (s.map List.length)]? = some (tnats (few s)) := by
      rw [List.map_map, List.getElem?_map, f1]
      rfl
    simp only [e3]
  obtain ⟨p, hp⟩ : ∃ p, p = prg xs ls rs := ⟨_, rfl⟩
  rw [← hp] at sv mn ⊢
  have rr := fun M => forP_raise (f := tgN 3) (body := L_least_choice_1) (fun c : List Nat => D.p (tnats c)) (fun c => wth (few s) c) (fun c => paperE (few s) c)
    (fun sl => ∃ d3, sl = [some (.p p), some (.p (.tuple (s.map tnats))), some (.p (tnats (few s))), d3]) (M := M) s (sl := [some (.p p), some (.p (.tuple (s.map tnats))), some (.p (tnats (few s))), none]) ⟨none, rfl⟩
    (fun c hc sl ⟨d3, hsl⟩ => by
      subst hsl
      have ew := fun M => e_is_within (a := few s) (b := c) (by omega) M
      refine ⟨_, rfl, fun hw => ⟨[some (.p p), some (.p (.tuple (s.map tnats))), some (.p (tnats (few s))), some (.p (tnats c))], ?_, _, rfl⟩, fun hw => ?_⟩
      · rw [hw] at ew
        simp [L_least_choice_1, ew]
      · rw [hw] at ew
        simp [L_least_choice_1, ew, mkTup, paperE])
  have e0 : (s.map tnats).map D.p = s.map fun c => D.p (tnats c) := by rw [List.map_map]; rfl
  refine ⟨fun hall M => ?_, fun hno => ?_⟩
  · obtain ⟨sl', e1, d3, rfl⟩ := (rr M).1 (List.find?_eq_none.mpr fun x hx => by simp [hall x hx])
    apply fn_rt0
    simp [-List.map_map, c_least_choice, sv, mn, e0, e1]
  · obtain ⟨c, hfc⟩ : ∃ c, s.find? (fun x => !wth (few s) x) = some c := by
      cases e : s.find? (fun x => !wth (few s) x) with
      | some c => exact ⟨c, rfl⟩
      | none => exact absurd (fun c hc => by simpa using List.find?_eq_none.mp e c hc) hno
    refine ⟨c, List.mem_of_find?_eq_some hfc, by simpa using List.find?_some hfc, fun M => ?_⟩
    have e1 := (rr M).2 c hfc
    apply fn_exc
    simp [-List.map_map, c_least_choice, sv, mn, e0, e1]
theorem plcs_nodup (xs : List Itm) : (places Itm.isJ xs).Nodup := by
  unfold places
  have : ((xs.zipIdx.filter fun q => Itm.isJ q.1).map Prod.snd).Sublist (xs.zipIdx.map Prod.snd) := List.Sublist.map _ List.filter_sublist
  refine List.Nodup.sublist this ?_
  rw [List.zipIdx_map_snd]
  exact List.nodup_range'
theorem chs_sublist {js c : List Nat} (h : c ∈ chs js) : c.Sublist js := by
  have : ∀ (n : Nat) (js c : List Nat), js.length = n → c ∈ chs js → c.Sublist js := by
    intro n
    induction n with
    | zero =>
      intro js c hn hc
      rw [List.length_eq_zero_iff.mp hn] at hc ⊢
      rw [List.mem_singleton.mp hc]
      exact List.Sublist.refl _
    | succ n ih =>
      intro js c hn hc
      rcases List.eq_nil_or_concat js with e | ⟨l', j, e⟩
      · rw [e] at hn; cases hn
      · rw [List.concat_eq_append] at e
        subst e
        rw [chs_snoc] at hc
        have hl : l'.length = n := by simpa using hn
        rcases List.mem_append.mp hc with hc | hc
        · exact (ih l' c hl hc).trans (List.sublist_append_left _ _)
        · obtain ⟨d, hd, rfl⟩ := List.mem_map.mp hc
          exact (ih l' d hl hd).append (List.Sublist.refl _)
  exact this _ js c rfl h
theorem sub_filter : ∀ {l s : List Nat}, s.Sublist l → l.Nodup → l.filter (fun j => decide (j ∈ s)) = s
  | _, _, .slnil, _ => rfl
  | _, _, .cons a h, nd => by
    rw [List.nodup_cons] at nd
    rw [List.filter_cons_of_neg (by simpa using fun z => nd.1 (h.subset z))]
    exact sub_filter h nd.2
  | _, _, .cons₂ (l₁ := s) (l₂ := l) a h, nd => by
    rw [List.nodup_cons] at nd
    rw [List.filter_cons_of_pos (by simp)]
    congr 1
    have : l.filter (fun j => decide (j ∈ a :: s)) = l.filter (fun j => decide (j ∈ s)) := List.filter_congr fun j hj => by
      have : j ≠ a := fun e => nd.1 (e ▸ hj)
      simp [this]
    rw [this]
    exact sub_filter h nd.2
theorem sub_of_sub {a b js : List Nat} (ha : a.Sublist js) (hb : b.Sublist js) (nd : js.Nodup) (h : ∀ j ∈ a, j ∈ b) : a.Sublist b := by
  have e1 := sub_filter ha nd
  have e2 := sub_filter hb nd
  have e3 : b.filter (fun j => decide (j ∈ a)) = a := by
    conv => lhs; rw [← e2]
    rw [List.filter_filter]
    have : js.filter (fun j => decide (j ∈ a) && decide (j ∈ b)) = js.filter (fun j => decide (j ∈ a)) := List.filter_congr fun j _ => by
      by_cases hj : j ∈ a
      · simp [hj, h j hj]
      · simp [hj]
    rw [this, e1]
  rw [← e3]
  exact List.filter_sublist
/-- the jumps that every choice holds -/
def shar (xs : List Itm) (sv : List (List Nat)) : List Nat := (places Itm.isJ xs).filter fun j => sv.all fun c => decide (j ∈ c)
theorem wth_iff {a b : List Nat} : wth a b = true ↔ ∀ j ∈ a, j ∈ b := by simp [wth]
section
variable {xs : List Itm} {ls rs : List Int}
theorem few_in : few (served xs ls rs) ∈ served xs ls rs ∧ ∀ c ∈ served xs ls rs, (few (served xs ls rs)).length ≤ c.length := (few_spec (List.ne_nil_of_mem (full_serves xs ls rs))).2
theorem served_sub {c : List Nat} (h : c ∈ served xs ls rs) : c.Sublist (places Itm.isJ xs) := chs_sublist (served_in h)
theorem shar_in {c : List Nat} (h : c ∈ served xs ls rs) : ∀ j ∈ shar xs (served xs ls rs), j ∈ c := fun j hj => by
  have := (List.mem_filter.mp hj).2
  rw [List.all_eq_true] at this
  simpa using this c h
theorem few_shar (h : shar xs (served xs ls rs) ∈ served xs ls rs) : few (served xs ls rs) = shar xs (served xs ls rs) := by
  obtain ⟨f1, f2⟩ := few_in (xs := xs) (ls := ls) (rs := rs)
  exact ((sub_of_sub (served_sub h) (served_sub f1) (plcs_nodup _) (shar_in f1)).eq_of_length_le (f2 _ h)).symm
theorem shar_of_all (h : ∀ c ∈ served xs ls rs, wth (few (served xs ls rs)) c = true) : shar xs (served xs ls rs) = few (served xs ls rs) := by
  obtain ⟨f1, f2⟩ := few_in (xs := xs) (ls := ls) (rs := rs)
  have s1 : (shar xs (served xs ls rs)).Sublist (places Itm.isJ xs) := List.filter_sublist
  refine (sub_of_sub s1 (served_sub f1) (plcs_nodup _) (shar_in f1)).eq_of_length_le (sub_of_sub (served_sub f1) s1 (plcs_nodup _) fun j hj => ?_).length_le
  refine List.mem_filter.mpr ⟨(served_sub f1).subset hj, ?_⟩
  rw [List.all_eq_true]
  exact fun c hc => by simpa using wth_iff.mp (h c hc) j hj
theorem own_few {own : List Nat} (h : own ∈ served xs ls rs) (hw : wth own (few (served xs ls rs)) = true) : own = few (served xs ls rs) := by
  obtain ⟨f1, f2⟩ := few_in (xs := xs) (ls := ls) (rs := rs)
  exact (sub_of_sub (served_sub h) (served_sub f1) (plcs_nodup _) (wth_iff.mp hw)).eq_of_length_le (f2 _ h)
end
end ZL

namespace ZL
open PySem PySem.Spec PyProof.Rows L2 Z
theorem pl_rise (xs : List Itm) : (places Itm.isJ xs).Pairwise (· < ·) := by
  unfold places
  have h : (xs.zipIdx.map Prod.snd).Pairwise (· < ·) := by
    rw [List.zipIdx_map_snd]
    exact List.pairwise_lt_range' (s := 0)
  exact List.Pairwise.sublist (List.Sublist.map _ List.filter_sublist) h
theorem srtN_rise {l : List Nat} (h : l.Nodup) : (srtN l).Pairwise (· < ·) := by
  have h1 : (srtN l).Pairwise (· ≤ ·) := by
    unfold srtN lsort
    rw [PySem.W.dataLe_int]
    refine (List.pairwise_mergeSort (fun a b c h1 h2 => ?_) (fun a b => ?_) l).imp fun {a b} h => ?_
    · simp at h1 h2 ⊢; omega
    · simp; omega
    · simp at h; omega
  have h2 : (srtN l).Nodup := (lsort_perm _ _).nodup_iff.mpr h
  exact (h1.and h2).imp fun ⟨a, b⟩ => by omega
theorem riseN_eq {a b : List Nat} (ha : a.Pairwise (· < ·)) (hb : b.Pairwise (· < ·)) (h : ∀ i, i ∈ a ↔ i ∈ b) : a = b :=
  List.Perm.eq_of_pairwise (le := fun x y => x < y) (fun x y _ _ h1 h2 => by omega) ha hb ((List.perm_ext_iff_of_nodup (ha.imp fun h => by omega) (hb.imp fun h => by omega)).mpr h)
theorem fill_rise {xs : List Itm} {ls rs : List Int} (hr : rs.length = (places Itm.isJ xs).length) : ∀ (k : Nat) (ch : List Nat), ChOk xs ch → ch.Pairwise (· < ·) → (fillU xs ls rs k ch).Pairwise (· < ·)
  | 0, ch, _, h => h
  | k + 1, ch, hc, h => by
    unfold fillU
    split
    · exact h
    · have so := stuck_ok (ls := ls) hc hr
      exact fill_rise hr k _ (srt_ok so) (srtN_rise so.1)
section
variable {xs : List Itm} {n : Nat} {ls rs : List Int}
theorem least_rise (hr : rs.length = (places Itm.isJ xs).length) : (leastA xs ls rs).Pairwise (· < ·) := fill_rise hr 64 [] (ch_nil xs) List.Pairwise.nil
theorem least_filter (h : Frm xs n) (hr : rs.length = (places Itm.isJ xs).length) {f : Nat → Bool} (hf : ∀ j ∈ places Itm.isJ xs, j ∈ leastA xs ls rs ↔ f j = true) : leastA xs ls rs = (places Itm.isJ xs).filter f := by
  refine riseN_eq (least_rise hr) (List.Pairwise.sublist List.filter_sublist (pl_rise xs)) fun i => ?_
  rw [List.mem_filter]
  constructor
  · intro hi
    have hp := (least_holds h hr ls).1 i hi
    exact ⟨hp, (hf i hp).mp hi⟩
  · rintro ⟨hp, hi⟩
    exact (hf i hp).mpr hi
end
theorem chs_all {js c : List Nat} (h : c.Sublist js) : c ∈ chs js := by
  have : ∀ (n : Nat) (js c : List Nat), js.length = n → c.Sublist js → c ∈ chs js := by
    intro n
    induction n with
    | zero =>
      intro js c hn hc
      rw [List.length_eq_zero_iff.mp hn] at hc ⊢
      rw [List.sublist_nil.mp hc]
      exact List.mem_singleton.mpr rfl
    | succ n ih =>
      intro js c hn hc
      rcases List.eq_nil_or_concat js with e | ⟨l', j, e⟩
      · rw [e] at hn; cases hn
      · rw [List.concat_eq_append] at e
        subst e
        have hl : l'.length = n := by simpa using hn
        rw [chs_snoc]
        obtain ⟨a, b, rfl, ha, hb⟩ := List.sublist_append_iff.mp hc
        have hb2 : b = [] ∨ b = [j] := by
          cases b with
          | nil => exact .inl rfl
          | cons x b =>
            have h1 := hb.length_le
            have h2 := hb.subset (List.mem_cons_self ..)
            have h3 : b = [] := List.length_eq_zero_iff.mp (by simpa using h1)
            subst h3
            rw [List.mem_singleton.mp h2]
            exact .inr rfl
        rcases hb2 with rfl | rfl
        · rw [List.append_nil]
          exact List.mem_append.mpr (.inl (ih l' a hl ha))
        · exact List.mem_append.mpr (.inr (List.mem_map.mpr ⟨a, ih l' a hl ha, rfl⟩))
  exact this _ js c rfl h
/-- least_choice finds the least choice of a steady skeleton -/
theorem e_least_steady {xs : List Itm} {n : Nat} {ls rs : List Int} (h : Frm xs n) (hgl : GL xs) (hst : trips xs = []) (hl : LOk xs ls) (hr : rs.length = (places Itm.isJ xs).length) (h8 : (places Itm.isJ xs).length ≤ 8) (M : Store) :
    F_least_choice [.p (prg xs ls rs)] M = .ok (.p (tnats (leastA xs ls rs))) M := by
  obtain ⟨l1, l2⟩ := e_least (rs := rs) hl h.gok h8
  have lh := least_holds h hr ls
  have lf : leastA xs ls rs = (places Itm.isJ xs).filter fun j => decide (j ∈ leastA xs ls rs) := least_filter h hr fun j _ => by simp
  have lsub : (leastA xs ls rs).Sublist (places Itm.isJ xs) := by rw [lf]; exact List.filter_sublist
  have lin : leastA xs ls rs ∈ served xs ls rs := List.mem_filter.mpr ⟨mem_lsort.mpr (chs_all lsub), by unfold fit; rw [lh.2]; rfl⟩
  have lw : ∀ c ∈ served xs ls rs, ∀ i ∈ leastA xs ls rs, i ∈ c := fun c hc => by
    refine least_in h hgl hst ⟨fun i hi => (served_sub hc).subset hi, ?_⟩
    have := (List.mem_filter.mp hc).2
    unfold fit at this
    exact of_decide_eq_true this
  have es : shar xs (served xs ls rs) = leastA xs ls rs := by
    have s1 : (shar xs (served xs ls rs)).Sublist (places Itm.isJ xs) := List.filter_sublist
    refine riseN_eq (List.Pairwise.sublist s1 (pl_rise xs)) (least_rise hr) fun i => ⟨shar_in lin i, fun hi => List.mem_filter.mpr ⟨lsub.subset hi, ?_⟩⟩
    rw [List.all_eq_true]
    exact fun c hc => by simpa using lw c hc i hi
  have ef : few (served xs ls rs) = leastA xs ls rs := by
    have := few_shar (xs := xs) (ls := ls) (rs := rs) (by rw [es]; exact lin)
    rw [this, es]
  have := l1 (fun c hc => wth_iff.mpr (by rw [ef]; exact lw c hc)) M
  rw [ef] at this
  exact this
end ZL

namespace ZL
open PySem PySem.Spec PyProof.Rows L2 Z
theorem app_si {q : Stq} {R : Store} {ys : List Int} {y : Int} (h : ys.length < 1000) : zAppend (.ref (R.length + 2)) [.p (.int y)] (St q ++ (R ++ [.lst ((pints ys).map .p)])) = .ok (.p .none) (St q ++ (R ++ [.lst ((pints (ys ++ [y])).map .p)])) := by
  have := app_i (M := St q ++ R) (R := []) (ys := ys) (y := y) h
  rw [List.length_append, St_len, Nat.add_comm, List.append_assoc, List.append_assoc] at this
  exact this
theorem isl_si {q : Stq} {R : Store} {ys : List Int} : isL (St q ++ (R ++ [.lst ((pints ys).map .p)])) (.ref (R.length + 2)) = true := by rw [isL_ref, lstvS rfl]; rfl
theorem tup_si {q : Stq} {R : Store} {ys : List Int} : zTuple [.ref (R.length + 2)] (St q ++ (R ++ [.lst ((pints ys).map .p)])) = .ok (.p (.tuple (pints ys))) (St q ++ (R ++ [.lst ((pints ys).map .p)])) := by
  have h := lstvS (q := q) (R := R) (Q := []) (ds := (pints ys).map .p) (i := R.length + 2) rfl
  unfold zTuple
  simp only [h, pures_map]
/-- gaps, not long ones -/
def Gps (gs : List Int) (n : Nat) (G : Int) : Prop := gs.length = n ∧ ∀ i ∈ gs, 0 ≤ i ∧ i ≤ G
theorem Gps.at {gs : List Int} {n : Nat} {G : Int} (h : Gps gs n G) (hG : 0 ≤ G) (k : Nat) : 0 ≤ lnA gs k ∧ lnA gs k ≤ G := by
  unfold lnA
  rw [List.getD_eq_getElem?_getD]
  cases e : gs[k]? with
  | none => exact ⟨Int.le_refl _, hG⟩
  | some i => exact h.2 i (List.mem_of_getElem? e)
theorem way_bd {xs : List Itm} {n : Nat} (h : Frm xs n) (hgl : GL xs) {gs : List Int} {m : Nat} {G : Int} (hG : 0 ≤ G) (hg : Gps gs m G) (ch : List Nat) {k : Nat} (hk : k ∈ places Itm.isJ xs) : 0 ≤ wayN xs gs ch k ∧ wayN xs gs ch k ≤ 62 * (G + 1000) := by
  rw [← way_N h gs ch hk]
  exact ⟨way_ge h hgl (fun k => (hg.at hG k).1) ch hk, way_le h hgl hG ch hk fun i _ _ => (hg.at hG i).2⟩
/-- spans: one for each jump, none below 0 -/
def Spn (rs : List Int) (n : Nat) (B : Int) : Prop := rs.length = n ∧ ∀ i ∈ rs, 0 ≤ i ∧ i ≤ B
theorem e_spans {q : Stq} (hq : q.ok) (R : Store) {xs : List Itm} {n : Nat} (h : Frm xs n) (hgl : GL xs) {gs : List Int} {G : Int} (hG : 0 ≤ G) (hG2 : G ≤ 1000000) (hg : Gps gs (xs.length + 1) G) :
    ∃ x q', (∃ rs, x = .tuple (pints rs) ∧ Spn rs (places Itm.isJ xs).length (62 * (G + 1000) + 20)) ∧ q'.ok ∧ F__law_spans [.ref 1, .p (sk xs), .p (.tuple (pints gs))] (St q ++ R) = .ok (.p x) (St q' ++ R) := by
  apply fn_satS
  refine sat_any fun Φ hΦ => ?_
  have hx := h.2.1
  have lj := e_law_jumps (xs := xs) (by omega)
  have hpl := len_places Itm.isJ xs
  have l2 : ∀ q : Stq, (St q).length + R.length = R.length + 2 := fun q => by rw [St_len]; omega
  have lw := fun (j : Nat) (hj : j ∈ places Itm.isJ xs) (M : Store) => e_law_way (gs := gs) h.ok (by rw [hg.1]; omega) (ch := []) (by simp) hj (by simp) M
  have pn : pnats [] = [] := rfl
  rw [pn] at lw
  obtain ⟨sx, hsx⟩ : ∃ sx, sx = sk xs := ⟨_, rfl⟩
  obtain ⟨gl, hgl'⟩ : ∃ gl, gl = PyData.tuple (pints gs) := ⟨_, rfl⟩
  rw [← hsx] at lj lw ⊢
  rw [← hgl'] at lw ⊢
  simp [-List.map_map, c__law_spans, lj, l2, dp_pnats]
  have b0 : St q ++ (R ++ [Ob.lst []]) = St q ++ (R ++ [.lst ((pints []).map .p)]) := rfl
  rw [b0]
  refine forP_seq _ _ (fun done sl M' => ∃ q' acc d4 d5, sl = [some (.ref 1), some (.p sx), some (.p gl), some (.ref (R.length + 2)), d4, d5] ∧ M' = St q' ++ (R ++ [.lst ((pints acc).map .p)]) ∧ q'.ok ∧ Spn acc done.length (62 * (G + 1000) + 20))
    ⟨q, [], none, none, rfl, rfl, hq, rfl, fun i hi => by cases hi⟩ ?_ ?_
  · rintro done j rest sl M' e ⟨q', acc, d4, d5, rfl, rfl, ok, hs⟩
    have hj : j ∈ places Itm.isJ xs := by rw [e]; simp
    have hd : done.length ≤ 100 := by
      have := congrArg List.length e
      simp at this
      omega
    obtain ⟨w1, w2⟩ := way_bd h hgl hG hg [] hj
    have lw' := lw j hj
    obtain ⟨b, hb⟩ : ∃ b, b = wayN xs gs [] j := ⟨_, rfl⟩
    rw [← hb] at w1 w2 lw'
    obtain ⟨v, q2, hv1, hv2, ok2, e2⟩ := e_pickI q' ok (R ++ [.lst ((pints acc).map .p)]) (ns := [-1, 0, 0, 1, 2, 5, 9, -b, 20]) (lo := -(62 * (G + 1000))) (hi := 20) (by simp) (by simp) (by simp; omega)
    have e2' : F__law_pick [.ref 1, .p (.list [.int (-1), .int 0, .int 0, .int 1, .int 2, .int 5, .int 9, .int (-b), .int 20])] (St q' ++ (R ++ [.lst ((pints acc).map .p)])) = .ok (.p (.int v)) (St q2 ++ (R ++ [.lst ((pints acc).map .p)])) := e2
    obtain ⟨r, hr⟩ : ∃ r : Int, r = max 0 (b + v) := ⟨_, rfl⟩
    have mx : ∀ M, zMax [.p (.int 0), .p (.int (b + v))] M = .ok (.p (.int r)) M := fun M => by rw [zMax_2, hr]
    have ap := app_si (q := q2) (R := R) (ys := acc) (y := r) (by rw [hs.1]; omega)
    have il := fun q : Stq => isl_si (q := q) (R := R) (ys := acc)
    refine ⟨_, rfl, sat_any fun Ψ hΨ => ?_⟩
    simp [-zMax_2, -zAppend_e, -isL_ref, -List.map_map, L__law_spans_1, mkLstF, lw', il, e2', mx, ap]
    refine hΨ _ ⟨_, _, rfl, q2, acc ++ [r], _, _, rfl, rfl, ok2, by simp [hs.1], fun i hi => ?_⟩
    rcases List.mem_append.mp hi with hi | hi
    · exact hs.2 i hi
    · rw [List.mem_singleton.mp hi]
      omega
  · rintro sl M' ⟨q', acc, d4, d5, rfl, rfl, ok, hs⟩
    have tu := tup_si (q := q') (R := R) (ys := acc)
    simp [-List.map_map, tu]
    exact hΦ _ ⟨_, q', _, rfl, ok, acc, rfl, hs⟩
end ZL

namespace ZL
open PySem PySem.Spec PyProof.Rows L2 Z
/-- a frame whose ways hold no fill behind a jump -/
def Rd (xs : List Itm) : Prop := ∀ (k : Nat) (x : Itm), xs[k]? = some x → match x with
  | .lab => True
  | .fil s => s ∈ P2
  | .jmp g s l => xs[g]? = some .lab ∧ 1 ≤ s ∧ s ≤ 9 ∧ s < l ∧ l ≤ 999 ∧ (g = k + 1 ∨ k = 0 ∨ g = 0)
theorem Rd.frm {xs : List Itm} (h : Rd xs) (hl : xs.length ≤ 60) : Frm xs (places Itm.isJ xs).length ∧ GL xs ∧ trips xs = [] := by
  have at_ : ∀ k ∈ places Itm.isJ xs, xs[goal xs k]? = some .lab ∧ (goal xs k = k + 1 ∨ k = 0 ∨ goal xs k = 0) := fun k hk => by
    have := h k _ (jmp_at hk)
    exact ⟨this.1, this.2.2.2.2.2⟩
  refine ⟨⟨fun x hx => ?_, hl, rfl⟩, fun k hk => (at_ k hk).1, ?_⟩
  · obtain ⟨k, hk⟩ := List.getElem?_of_mem hx
    have := h k x hk
    cases x with
    | lab => trivial
    | fil s => exact this
    | jmp g s l => exact ⟨(List.getElem?_eq_some_iff.mp this.1).1, this.2.1, this.2.2.1, this.2.2.2.1, this.2.2.2.2.1⟩
  · rw [List.eq_nil_iff_forall_not_mem]
    intro t ht
    unfold trips at ht
    obtain ⟨k, hk, ht⟩ := List.mem_flatMap.mp ht
    obtain ⟨p, hp, ht⟩ := List.mem_flatMap.mp ht
    obtain ⟨o, ho, rfl⟩ := List.mem_map.mp ht
    have ho3 := of_decide_eq_true (List.mem_filter.mp (List.mem_filter.mp ho).1).2
    have hp2 := List.mem_range'_1.mp (List.mem_filter.mp hp).1
    have := (at_ k hk).2
    unfold lowOf at ho3 hp2
    unfold highOf at hp2
    omega
/-- the inner jumps, n of them -/
def Inn (acc : List Itm) (n : Nat) : Prop := acc.length = 2 * n ∧ (acc.filter Itm.isJ).length = n ∧ ∀ (j : Nat) (x : Itm), acc[j]? = some x → (x = .lab ∧ j % 2 = 1) ∨ (∃ s l, x = .jmp (2 + j) s l ∧ j % 2 = 0 ∧ 1 ≤ s ∧ s ≤ 9 ∧ s < l ∧ l ≤ 999)
theorem Inn.next {acc : List Itm} {n : Nat} (h : Inn acc n) {s l : Int} (h1 : 1 ≤ s) (h2 : s ≤ 9) (h3 : s < l) (h4 : l ≤ 999) : Inn (acc ++ [.jmp (2 + 2 * n) s l, .lab]) (n + 1) := by
  obtain ⟨a, b, c⟩ := h
  refine ⟨by simp [a]; omega, by rw [List.filter_append, List.length_append, b]; rfl, fun j x hx => ?_⟩
  by_cases hj : j < acc.length
  · rw [List.getElem?_append_left hj] at hx
    exact c j x hx
  · rw [List.getElem?_append_right (by omega)] at hx
    have : j - acc.length = 0 ∨ j - acc.length = 1 := by
      have := (List.getElem?_eq_some_iff.mp hx).1
      simp at this
      omega
    rcases this with e | e
    · rw [e] at hx
      cases hx
      exact .inr ⟨s, l, by rw [show 2 + j = 2 + 2 * n by omega], by omega, h1, h2, h3, h4⟩
    · rw [e] at hx
      cases hx
      exact .inl ⟨rfl, by omega⟩
/-- inner jumps, then fills -/
theorem Inn.at {acc fs : List Itm} {n : Nat} (h : Inn acc n) (hf : ∀ x ∈ fs, ∃ s, x = .fil s ∧ s ∈ P2) {j : Nat} {x : Itm} (hx : (acc ++ fs)[j]? = some x) :
    x = .lab ∨ (∃ s, x = .fil s ∧ s ∈ P2) ∨ ∃ s l, x = .jmp (2 + j) s l ∧ (acc ++ fs)[j + 1]? = some .lab ∧ 1 ≤ s ∧ s ≤ 9 ∧ s < l ∧ l ≤ 999 := by
  obtain ⟨a, b, c⟩ := h
  by_cases hj : j < acc.length
  · rw [List.getElem?_append_left hj] at hx
    rcases c j x hx with ⟨e, _⟩ | ⟨s, l, e, h0, h1, h2, h3, h4⟩
    · exact .inl e
    · have hj1 : j + 1 < acc.length := by omega
      refine .inr (.inr ⟨s, l, e, ?_, h1, h2, h3, h4⟩)
      rw [List.getElem?_append_left hj1]
      rcases c (j + 1) _ (List.getElem?_eq_getElem hj1) with ⟨e2, _⟩ | ⟨_, _, _, h5, _⟩
      · rw [List.getElem?_eq_getElem hj1, e2]
      · omega
  · rw [List.getElem?_append_right (by omega)] at hx
    exact .inr (.inl (hf x (List.mem_of_getElem? hx)))
theorem rd_back {acc fs : List Itm} {n : Nat} (h : Inn acc n) (hf : ∀ x ∈ fs, ∃ s, x = .fil s ∧ s ∈ P2) {s l : Int} (h1 : 1 ≤ s) (h2 : s ≤ 9) (h3 : s < l) (h4 : l ≤ 999) : Rd ([.lab] ++ (acc ++ fs) ++ [.jmp 0 s l]) := by
  have g0 : ([.lab] ++ (acc ++ fs) ++ [.jmp 0 s l])[0]? = some .lab := rfl
  intro k x hx
  by_cases hk0 : k = 0
  · subst hk0
    rw [g0] at hx
    cases hx
    trivial
  · obtain ⟨j, rfl⟩ : ∃ j, k = j + 1 := ⟨k - 1, by omega⟩
    have e1 : ([.lab] ++ (acc ++ fs) ++ [.jmp 0 s l])[j + 1]? = ((acc ++ fs) ++ [.jmp 0 s l])[j]? := by simp
    rw [e1] at hx
    by_cases hj : j < (acc ++ fs).length
    · rw [List.getElem?_append_left hj] at hx
      rcases h.at hf hx with rfl | ⟨s, rfl, hs⟩ | ⟨s', l', rfl, hl, q1, q2, q3, q4⟩
      · trivial
      · exact hs
      · have hj1 := (List.getElem?_eq_some_iff.mp hl).1
        refine ⟨?_, q1, q2, q3, q4, .inl (by omega)⟩
        have e2 : ([.lab] ++ (acc ++ fs) ++ [.jmp 0 s l])[2 + j]? = ((acc ++ fs) ++ [.jmp 0 s l])[j + 1]? := by rw [show 2 + j = (j + 1) + 1 by omega]; simp
        rw [e2, List.getElem?_append_left hj1, hl]
    · rw [List.getElem?_append_right (by omega)] at hx
      have e3 : j - (acc ++ fs).length = 0 := Nat.lt_one_iff.mp (List.getElem?_eq_some_iff.mp hx).1
      rw [e3] at hx
      cases hx
      exact ⟨g0, h1, h2, h3, h4, .inr (.inr rfl)⟩
theorem rd_fwd {acc fs : List Itm} {n : Nat} (h : Inn acc n) (hf : ∀ x ∈ fs, ∃ s, x = .fil s ∧ s ∈ P2) {s l : Int} (h1 : 1 ≤ s) (h2 : s ≤ 9) (h3 : s < l) (h4 : l ≤ 999) : Rd ([.jmp ((acc ++ fs).length + 1) s l] ++ (acc ++ fs) ++ [.lab]) := by
  obtain ⟨g, hg⟩ : ∃ g, g = (acc ++ fs).length + 1 := ⟨_, rfl⟩
  rw [← hg]
  have e0 : ∀ j, ([.jmp g s l] ++ (acc ++ fs) ++ [.lab])[j + 1]? = ((acc ++ fs) ++ [.lab])[j]? := fun j => by simp
  have g0 : ([.jmp g s l] ++ (acc ++ fs) ++ [.lab])[g]? = some .lab := by
    have e4 := e0 (acc ++ fs).length
    rw [← hg] at e4
    rw [e4, List.getElem?_append_right (Nat.le_refl _), Nat.sub_self]
    rfl
  intro k x hx
  by_cases hk0 : k = 0
  · subst hk0
    have : ([.jmp g s l] ++ (acc ++ fs) ++ [.lab])[0]? = some (.jmp g s l) := rfl
    rw [this] at hx
    cases hx
    exact ⟨g0, h1, h2, h3, h4, .inr (.inl rfl)⟩
  · obtain ⟨j, rfl⟩ : ∃ j, k = j + 1 := ⟨k - 1, by omega⟩
    rw [e0] at hx
    by_cases hj : j < (acc ++ fs).length
    · rw [List.getElem?_append_left hj] at hx
      rcases h.at hf hx with rfl | ⟨s, rfl, hs⟩ | ⟨s', l', rfl, hl, q1, q2, q3, q4⟩
      · trivial
      · exact hs
      · have hj1 := (List.getElem?_eq_some_iff.mp hl).1
        refine ⟨?_, q1, q2, q3, q4, .inl (by omega)⟩
        rw [show 2 + j = (j + 1) + 1 by omega, e0, List.getElem?_append_left hj1, hl]
    · rw [List.getElem?_append_right (by omega)] at hx
      have e3 : j - (acc ++ fs).length = 0 := Nat.lt_one_iff.mp (List.getElem?_eq_some_iff.mp hx).1
      rw [e3] at hx
      cases hx
      trivial
theorem addM_l {M : Store} {a : D} {xs : List Itm} (h : lstv M a = some (encs xs)) (ys : List Itm) (hl : xs.length + ys.length ≤ 1000) : zAddM a (.p (.list (ys.map Itm.enc))) M = .ok (.ref M.length) (M ++ [.lst (encs (xs ++ ys))]) := by
  unfold zAddM
  simp only [h, lstv_p]
  have e : encs xs ++ (ys.map Itm.enc).map D.p = encs (xs ++ ys) := by unfold encs; rw [List.map_append, List.map_map]; rfl
  rw [e]
  unfold mkLst
  rw [if_pos (by unfold encs; rw [List.length_map, List.length_append, sizeLine_val]; omega)]
theorem b_round {q : Stq} (hq : q.ok) (Q : Store) {top : Int} (ht : 2 ≤ top ∧ top ≤ 64) {acc : List Itm} {n : Nat} (ha : Inn acc n) (hn : n < 3) {d1 d3 d5 d7 d8 : Option D} :
    Sat (fun o => ∃ (q' : Stq) (acc' : List Itm) (d7 : Option D), o = .nx [some (.ref 1), d1, some (.p (.int top)), d3, some (.ref ((Q ++ [Ob.lst (encs acc)]).length + 2)), d5, some (.p (.int (n : Int))), d7, d8] (St q' ++ ((Q ++ [.lst (encs acc)]) ++ [.lst (encs acc')])) ∧ q'.ok ∧ Inn acc' (n + 1))
      (L__law_rounded_1 [some (.ref 1), d1, some (.p (.int top)), d3, some (.ref (Q.length + 2)), d5, some (.p (.int (n : Int))), d7, d8] (St q ++ (Q ++ [.lst (encs acc)]))) := by
  refine sat_any fun Φ hΦ => ?_
  obtain ⟨k1, q1, hk1, ok1, e1⟩ := e_drawZ q hq (Q ++ [.lst (encs acc)]) (z := 5) (n := 5) rfl (by decide) (by decide)
  obtain ⟨k2, q2, hk2, ok2, e2⟩ := e_drawZ q1 ok1 (Q ++ [.lst (encs acc)]) (z := top + 3) (n := (top + 3).toNat) (by omega) (by omega) (by omega)
  obtain ⟨sh, hsh⟩ : ∃ sh : Int, sh = 1 + (k1 : Int) := ⟨_, rfl⟩
  obtain ⟨t3, ht3⟩ : ∃ t3 : Int, t3 = top + 3 := ⟨_, rfl⟩
  rw [← ht3] at e2
  obtain ⟨lg, hlg⟩ : ∃ lg : Int, lg = sh + 1 + (k2 : Int) := ⟨_, rfl⟩
  have cm : CMul 2 (n : Int) := cm_l _ (by decide)
  have hal : acc.length ≤ 100 := by have := ha.1; omega
  have ad := addM_l (M := St q2 ++ (Q ++ [.lst (encs acc)])) (a := .ref (Q.length + 2)) (xs := acc) (lstvS rfl) [.jmp (2 + 2 * n) sh lg, .lab] (by simp; omega)
  have ej : PyData.list [.tuple [.str "jump", .int (2 + 2 * (n : Int)), .int sh, .int lg], .tuple [.str "label"]] = .list ([Itm.jmp (2 + 2 * n) sh lg, .lab].map Itm.enc) := by
    simp [Itm.enc]
  have le : (St q2 ++ (Q ++ [Ob.lst (encs acc)])).length = (Q ++ [Ob.lst (encs acc)]).length + 2 := by rw [List.length_append, St_len]; omega
  rw [le] at ad
  obtain ⟨tl, htl⟩ : ∃ tl, tl = PyData.list ([Itm.jmp (2 + 2 * n) sh lg, .lab].map Itm.enc) := ⟨_, rfl⟩
  rw [← htl] at ad ej
  obtain ⟨QQ, hQQ⟩ : ∃ QQ, QQ = Q ++ [Ob.lst (encs acc)] := ⟨_, rfl⟩
  rw [← hQQ] at e1 e2 ad ⊢
  obtain ⟨g2, hg2⟩ : ∃ g2 : Int, g2 = 2 + 2 * (n : Int) := ⟨_, rfl⟩
  rw [← hg2] at ej
  simp [L__law_rounded_1, e1, ← hsh, cm, ← hg2, ← ht3, e2, ← hlg, mkTup, mkLstF, ej, ad]
  exact hΦ _ ⟨q2, acc ++ [.jmp (2 + 2 * n) sh lg, .lab], some (.p (.int sh)), by rw [hQQ, List.append_assoc], ok2, ha.next (by omega) (by omega) (by omega) (by omega)⟩
/-- a rounded frame -/
theorem e_rounded {q : Stq} (hq : q.ok) (R : Store) : ∃ x q', (∃ xs, x = sk xs ∧ Frm xs (places Itm.isJ xs).length ∧ GL xs ∧ trips xs = [] ∧ 0 < (places Itm.isJ xs).length ∧ (places Itm.isJ xs).length ≤ 4) ∧ q'.ok ∧ F__law_rounded [.ref 1, .p (.int 3)] (St q ++ R) = .ok (.p x) (St q' ++ R) := by
  apply fn_satS
  refine sat_any fun Φ hΦ => ?_
  obtain ⟨top, q1, ht, ok1, e1⟩ := e_pickF q hq R (ns := [2, 4, 8, 16, 64]) (by decide) (by decide) (by decide)
  have e1' : F__law_pick [.ref 1, .p (.list [.int 2, .int 4, .int 8, .int 16, .int 64])] (St q ++ R) = .ok (.p (.int top)) (St q1 ++ R) := e1
  have htop := p2_in ht
  obtain ⟨k2, q2, hk2, ok2, e2⟩ := e_drawZ q1 ok1 R (z := 3) (n := 3) rfl (by decide) (by decide)
  obtain ⟨k3, q3, hk3, ok3, e3⟩ := e_drawZ q2 ok2 (R ++ [.lst (encs [])]) (z := 2) (n := 2) rfl (by decide) (by decide)
  obtain ⟨mn, hmn⟩ : ∃ mn : Int, mn = 1 + (k2 : Int) := ⟨_, rfl⟩
  have rg : ∀ M, rgo1 mn M = .ok ((List.range (1 + k2)).map fun p : Nat => D.p (.int (p : Int))) M := fun M => by
    rw [show mn = ((1 + k2 : Nat) : Int) by omega]
    exact rgo1_nat (b := 1 + k2) (by omega) M
  have l2 : ∀ q : Stq, (St q).length + R.length = R.length + 2 := fun q => by rw [St_len]; omega
  have e3' : F__law_draw [.ref 1, .p (.int 2)] (St q2 ++ (R ++ [Ob.lst []])) = .ok (.p (.int (k3 : Int))) (St q3 ++ (R ++ [Ob.lst []])) := e3
  simp [c__law_rounded, mkLstF, e1', e2, ← hmn, l2, e3', rg]
  obtain ⟨ib, hib⟩ : ∃ ib : Bool, ib = decide (k3 = 0) := ⟨_, rfl⟩
  rw [← hib]
  have b0 : St q3 ++ (R ++ [Ob.lst []]) = St q3 ++ ((R ++ []) ++ [.lst (encs [])]) := by rw [List.append_nil]; rfl
  rw [b0]
  refine forP_seq _ _ (fun done sl M' => ∃ q' Q acc d6 d7, sl = [some (.ref 1), some (.p (.int 3)), some (.p (.int top)), some (.p (.int mn)), some (.ref ((R ++ Q).length + 2)), some (.p (.bool ib)), d6, d7, none] ∧ M' = St q' ++ ((R ++ Q) ++ [.lst (encs acc)]) ∧ q'.ok ∧ Inn acc done.length)
    ⟨q3, [], [], none, none, by rw [List.append_nil], rfl, ok3, rfl, rfl, fun j x hx => by simp at hx⟩ ?_ ?_
  · rintro done p rest sl M' e ⟨q', Q, acc, d6, d7, rfl, rfl, ok, ha⟩
    have hd : p = done.length ∧ done.length < 3 := by
      have h1 : (List.range (1 + k2))[done.length]? = some p := by rw [e]; simp
      obtain ⟨h2, h3⟩ := List.getElem?_eq_some_iff.mp h1
      simp at h2 h3
      exact ⟨h3.symm, by omega⟩
    rw [hd.1]
    obtain ⟨q2', acc', d7', e', ok', ha'⟩ := b_round ok (R ++ Q) htop ha hd.2 (d1 := some (.p (.int 3))) (d3 := some (.p (.int mn))) (d5 := some (.p (.bool ib))) (d7 := d7) (d8 := none)
    refine ⟨_, rfl, _, _, e', q2', Q ++ [.lst (encs acc)], acc', _, d7', by rw [List.append_assoc], by rw [List.append_assoc R Q], ok', by rw [List.length_append]; exact ha'⟩
  · rintro sl M' ⟨q4, Q, acc, d6, d7, rfl, rfl, ok4, ha⟩
    rw [List.length_range] at ha
    have hal : acc.length ≤ 6 := by have := ha.1; omega
    obtain ⟨RQ, hRQ⟩ : ∃ RQ, RQ = R ++ Q := ⟨_, rfl⟩
    rw [← hRQ]
    have ap1 := appS (q := q4) (R := RQ) (i := RQ.length + 2) (acc := acc) (x := .fil top) rfl (by omega)
    have il : ∀ (q : Stq) (a : List Itm), isL (St q ++ (RQ ++ [.lst (encs a)])) (.ref (RQ.length + 2)) = true := fun q a => by rw [isL_ref, lstvS rfl]; rfl
    obtain ⟨k5, q5, hk5, ok5, e5⟩ := e_drawZ q4 ok4 (RQ ++ [.lst (encs (acc ++ [.fil top]))]) (z := 3) (n := 3) rfl (by decide) (by decide)
    have ef : PyData.tuple [.str "fill", .int top] = (Itm.fil top).enc := rfl
    -- the end, with the fills fs
    have fin : ∀ (fs : List Itm) (q6 : Stq), fs.length ≤ 2 → (∀ x ∈ fs, ∃ s, x = .fil s ∧ s ∈ P2) → q6.ok → Sat Φ ((sseq (sset 8 (zs mkTup (zcons (zk (.str "jump")) (zcons (zif (zt (zv 5)) (zk (.int 0)) (z2 zAdd (zs zLen (zcons (zv 4) znil)) (zk (.int 1)))) (zcons (zk (.int 2)) (zcons (z2 zAdd (zk (.int 3)) (zs (zfc 2 F__law_draw) (zcons (zv 0) (zcons (z2 zAdd (zv 2) (zk (.int 3))) znil)))) znil)))))) (sret (zif (zt (zv 5)) (z2 zAdd (z2 zAdd (zs mkTup (zcons (zs mkTup (zcons (zk (.str "label")) znil)) znil)) (zs zTuple (zcons (zv 4) znil))) (zs mkTup (zcons (zv 8) znil))) (z2 zAdd (z2 zAdd (zs mkTup (zcons (zv 8) znil)) (zs zTuple (zcons (zv 4) znil))) (zs mkTup (zcons (zs mkTup (zcons (zk (.str "label")) znil)) znil))))))
        [some (.ref 1), some (.p (.int 3)), some (.p (.int top)), some (.p (.int mn)), some (.ref (RQ.length + 2)), some (.p (.bool ib)), d6, d7, none] (St q6 ++ (RQ ++ [.lst (encs (acc ++ fs))]))) := by
      intro fs q6 hfl hf ok6
      obtain ⟨k7, q7, hk7, ok7, e7⟩ := e_drawZ q6 ok6 (RQ ++ [.lst (encs (acc ++ fs))]) (z := top + 3) (n := (top + 3).toNat) (by omega) (by omega) (by omega)
      obtain ⟨t3, ht3⟩ : ∃ t3 : Int, t3 = top + 3 := ⟨_, rfl⟩
      rw [← ht3] at e7
      obtain ⟨lg, hlg⟩ : ∃ lg : Int, lg = 3 + (k7 : Int) := ⟨_, rfl⟩
      have tu := tupS (q := q7) (R := RQ) (Q := []) (i := RQ.length + 2) (xs := acc ++ fs) rfl
      have ln := lenS (q := q6) (R := RQ) (Q := []) (i := RQ.length + 2) (ds := encs (acc ++ fs)) rfl
      have enl : (encs (acc ++ fs)).length = (acc ++ fs).length := by unfold encs; rw [List.length_map]
      rw [enl] at ln
      have hbl : (acc ++ fs).length ≤ 10 := by rw [List.length_append]; omega
      have fsJ : (fs.filter Itm.isJ) = [] := by
        rw [List.filter_eq_nil_iff]
        intro x hx
        obtain ⟨s, rfl, _⟩ := hf x hx
        simp [Itm.isJ]
      have lb : PyData.tuple [.tuple [.str "label"]] = sk [.lab] := rfl
      cases ib with
      | true =>
        have rd := rd_back ha hf (s := 2) (l := lg) (by decide) (by decide) (by omega) (by omega)
        have jo : PyData.tuple [.tuple [.str "jump", .int 0, .int 2, .int lg]] = sk [.jmp 0 2 lg] := rfl
        have a1 := add_sk [.lab] (acc ++ fs) (by simp; omega)
        have a2 := add_sk ([.lab] ++ (acc ++ fs)) [.jmp 0 2 lg] (by simp; omega)
        obtain ⟨body, hbody⟩ : ∃ b, b = acc ++ fs := ⟨_, rfl⟩
        rw [← hbody] at tu a1 a2 rd e7 hbl ⊢
        have hxl : ([Itm.lab] ++ body ++ [Itm.jmp 0 2 lg]).length ≤ 60 := by simp; omega
        have hpc : (places Itm.isJ ([.lab] ++ body ++ [.jmp 0 2 lg])).length = 2 + k2 := by
          rw [len_J, List.filter_append, List.filter_append, hbody, List.filter_append, fsJ]
          simp [List.filter_cons, Itm.isJ, ha.2.1]
          omega
        obtain ⟨f1, f2, f3⟩ := rd.frm hxl
        obtain ⟨sb, hsb⟩ : ∃ s, s = sk body := ⟨_, rfl⟩
        rw [← hsb] at tu a1
        obtain ⟨s1, hs1⟩ : ∃ s, s = sk ([.lab] ++ body) := ⟨_, rfl⟩
        rw [← hs1] at a1 a2
        obtain ⟨so, hso⟩ : ∃ s, s = sk [.jmp 0 2 lg] := ⟨_, rfl⟩
        rw [← hso] at a2 jo
        obtain ⟨sl, hsl⟩ : ∃ s, s = sk [.lab] := ⟨_, rfl⟩
        rw [← hsl] at a1 lb
        obtain ⟨zs, hzs⟩ : ∃ zs, zs = [Itm.lab] ++ body ++ [Itm.jmp 0 2 lg] := ⟨_, rfl⟩
        rw [← hzs] at a2 f1 f2 f3 hpc
        simp [mkTup, ← ht3, e7, ← hlg, tu, lb, jo, a1, a2]
        exact hΦ _ ⟨_, q7, Q ++ [.lst (encs body)], by rw [hRQ, List.append_assoc], ok7, _, rfl, f1, f2, f3, by rw [hpc]; omega, by rw [hpc]; omega⟩
      | false =>
        have rd := rd_fwd ha hf (s := 2) (l := lg) (by decide) (by decide) (by omega) (by omega)
        obtain ⟨g, hg⟩ : ∃ g, g = (acc ++ fs).length + 1 := ⟨_, rfl⟩
        rw [← hg] at rd
        obtain ⟨gi, hgi⟩ : ∃ gi : Int, gi = ((acc ++ fs).length : Int) + 1 := ⟨_, rfl⟩
        have jo : PyData.tuple [.tuple [.str "jump", .int gi, .int 2, .int lg]] = sk [.jmp g 2 lg] := by rw [hgi, hg]; rfl
        have a1 := add_sk [.jmp g 2 lg] (acc ++ fs) (by simp; omega)
        have a2 := add_sk ([.jmp g 2 lg] ++ (acc ++ fs)) [.lab] (by simp; omega)
        obtain ⟨body, hbody⟩ : ∃ b, b = acc ++ fs := ⟨_, rfl⟩
        rw [← hbody] at tu a1 a2 rd e7 hbl ln hgi ⊢
        have hxl : ([Itm.jmp g 2 lg] ++ body ++ [Itm.lab]).length ≤ 60 := by simp; omega
        have hpc : (places Itm.isJ ([.jmp g 2 lg] ++ body ++ [.lab])).length = 2 + k2 := by
          rw [len_J, List.filter_append, List.filter_append, hbody, List.filter_append, fsJ]
          simp [List.filter_cons, Itm.isJ, ha.2.1]
          omega
        obtain ⟨f1, f2, f3⟩ := rd.frm hxl
        obtain ⟨sb, hsb⟩ : ∃ s, s = sk body := ⟨_, rfl⟩
        rw [← hsb] at tu a1
        obtain ⟨s1, hs1⟩ : ∃ s, s = sk ([.jmp g 2 lg] ++ body) := ⟨_, rfl⟩
        rw [← hs1] at a1 a2
        obtain ⟨so, hso⟩ : ∃ s, s = sk [.jmp g 2 lg] := ⟨_, rfl⟩
        rw [← hso] at a1 jo
        obtain ⟨sl, hsl⟩ : ∃ s, s = sk [.lab] := ⟨_, rfl⟩
        rw [← hsl] at a2 lb
        obtain ⟨bl, hbl2⟩ : ∃ bl : Int, bl = (body.length : Int) := ⟨_, rfl⟩
        rw [← hbl2] at ln hgi
        obtain ⟨zs, hzs⟩ : ∃ zs, zs = [Itm.jmp g 2 lg] ++ body ++ [Itm.lab] := ⟨_, rfl⟩
        rw [← hzs] at a2 f1 f2 f3 hpc
        simp [mkTup, ln, ← hgi, ← ht3, e7, ← hlg, tu, lb, jo, a1, a2]
        exact hΦ _ ⟨_, q7, Q ++ [.lst (encs body)], by rw [hRQ, List.append_assoc], ok7, _, rfl, f1, f2, f3, by rw [hpc]; omega, by rw [hpc]; omega⟩
    have f1 : ∀ x ∈ [Itm.fil top], ∃ s, x = .fil s ∧ s ∈ P2 := fun x hx => ⟨top, List.mem_singleton.mp hx, ht⟩
    have g1 : ((sexpr (zmt isL zAppend (zv 4) (zcons (zs mkTup (zcons (zk (.str "fill")) (zcons (zv 2) znil))) znil))) [some (.ref 1), some (.p (.int 3)), some (.p (.int top)), some (.p (.int mn)), some (.ref (RQ.length + 2)), some (.p (.bool ib)), d6, d7, none] (St q4 ++ (RQ ++ [.lst (encs acc)]))) = .nx [some (.ref 1), some (.p (.int 3)), some (.p (.int top)), some (.p (.int mn)), some (.ref (RQ.length + 2)), some (.p (.bool ib)), d6, d7, none] (St q4 ++ (RQ ++ [.lst (encs (acc ++ [.fil top]))])) := by
      have il4 := il q4 acc
      simp [-zAppend_e, -isL_ref, mkTup, il4, ef, ap1]
    rw [sseq_e, g1, OutS.seq_nx, sseq_e]
    by_cases h5 : k5 = 0
    · obtain ⟨tp2, q6, ht2, ok6, e6⟩ := e_pickF q5 ok5 (RQ ++ [.lst (encs (acc ++ [.fil top]))]) (ns := [2, 4]) (by decide) (by decide) (by decide)
      have e6' : F__law_pick [.ref 1, .p (.list [.int 2, .int 4])] (St q5 ++ (RQ ++ [.lst (encs (acc ++ [.fil top]))])) = .ok (.p (.int tp2)) (St q6 ++ (RQ ++ [.lst (encs (acc ++ [.fil top]))])) := e6
      have ap2 := appS (q := q6) (R := RQ) (i := RQ.length + 2) (acc := acc ++ [.fil top]) (x := .fil tp2) rfl (by simp; omega)
      have ef2 : PyData.tuple [.str "fill", .int tp2] = (Itm.fil tp2).enc := rfl
      have this := fin [.fil top, .fil tp2] q6 (by simp) (fun x hx => by
        simp at hx
        rcases hx with rfl | rfl
        · exact ⟨_, rfl, ht⟩
        · exact ⟨_, rfl, ht2⟩) ok6
      have ea : acc ++ [Itm.fil top, .fil tp2] = acc ++ [.fil top] ++ [.fil tp2] := by simp
      rw [ea] at this
      obtain ⟨a1, ha1⟩ : ∃ a1, a1 = acc ++ [Itm.fil top] := ⟨_, rfl⟩
      rw [← ha1] at this e5 e6' ap2 ⊢
      have il5 := il q5 a1
      have g2 : (sif (zt (z2 zEq (zs (zfc 2 F__law_draw) (zcons (zv 0) (zcons (zk (.int 3)) znil))) (zk (.int 0)))) (sexpr (zmt isL zAppend (zv 4) (zcons (zs mkTup (zcons (zk (.str "fill")) (zcons (zs (zfc 2 F__law_pick) (zcons (zv 0) (zcons (zs mkLstF (zcons (zk (.int 2)) (zcons (zk (.int 4)) znil))) znil))) znil))) znil))) sskip)
          [some (.ref 1), some (.p (.int 3)), some (.p (.int top)), some (.p (.int mn)), some (.ref (RQ.length + 2)), some (.p (.bool ib)), d6, d7, none] (St q4 ++ (RQ ++ [.lst (encs a1)])) = .nx [some (.ref 1), some (.p (.int 3)), some (.p (.int top)), some (.p (.int mn)), some (.ref (RQ.length + 2)), some (.p (.bool ib)), d6, d7, none] (St q6 ++ (RQ ++ [.lst (encs (a1 ++ [.fil tp2]))])) := by
        simp [-zAppend_e, -isL_ref, -List.map_append, e5, h5, mkTup, mkLstF, il5, e6', ef2, ap2]
      rw [g2, OutS.seq_nx]
      exact this
    · have this := fin [.fil top] q5 (by simp) f1 ok5
      obtain ⟨a1, ha1⟩ : ∃ a1, a1 = acc ++ [Itm.fil top] := ⟨_, rfl⟩
      rw [← ha1] at this e5 ⊢
      have g2 : (sif (zt (z2 zEq (zs (zfc 2 F__law_draw) (zcons (zv 0) (zcons (zk (.int 3)) znil))) (zk (.int 0)))) (sexpr (zmt isL zAppend (zv 4) (zcons (zs mkTup (zcons (zk (.str "fill")) (zcons (zs (zfc 2 F__law_pick) (zcons (zv 0) (zcons (zs mkLstF (zcons (zk (.int 2)) (zcons (zk (.int 4)) znil))) znil))) znil))) znil))) sskip)
          [some (.ref 1), some (.p (.int 3)), some (.p (.int top)), some (.p (.int mn)), some (.ref (RQ.length + 2)), some (.p (.bool ib)), d6, d7, none] (St q4 ++ (RQ ++ [.lst (encs a1)])) = .nx [some (.ref 1), some (.p (.int 3)), some (.p (.int top)), some (.p (.int mn)), some (.ref (RQ.length + 2)), some (.p (.bool ib)), d6, d7, none] (St q5 ++ (RQ ++ [.lst (encs a1)])) := by
        simp [e5, h5]
      rw [g2, OutS.seq_nx]
      exact this
end ZL

namespace ZL
open PySem PySem.Spec PyProof.Rows L2 Z
/-- the place of a number in a list of numbers -/
theorem index_i {ns : List Int} {y : Int} (h : y ∈ ns) : ∃ i : Nat, i < ns.length ∧ ∀ M, zIndex (.p (.list (pints ns))) [.p (.int y)] M = .ok (.p (.int (i : Int))) M := by
  have e1 : ∀ z : Int, PyData.eqv (.int z) (.int y) = decide (z = y) := fun z => by simp only [PyData.eqv]; rfl
  have hf : ∃ i, (pints ns).findIdx? (fun z => PyData.eqv z (.int y)) = some i ∧ i < ns.length := by
    unfold pints
    rw [List.findIdx?_map]
    cases e : List.findIdx? ((fun z => PyData.eqv z (.int y)) ∘ PyData.int) ns with
    | none =>
      rw [List.findIdx?_eq_none_iff] at e
      have := e y h
      simp only [Function.comp, e1] at this
      simp at this
    | some i => exact ⟨i, rfl, (List.findIdx?_eq_some_iff_getElem.mp e).1⟩
  obtain ⟨i, hi, hl⟩ := hf
  refine ⟨i, hl, fun M => ?_⟩
  have hsh : SeqAt.shaped (.list (pints ns)) = true := cmp_list fun x hx => by
    obtain ⟨j, _, rfl⟩ := List.mem_map.mp hx
    exact cmp_int j
  have hd : (PyData.list (pints ns)).hasDict = false := by
    have : ∀ l : List Int, PyData.hasDictAll (pints l) = false := fun l => by
      induction l with
      | nil => rfl
      | cons a l ih => rw [pints, List.map_cons, PyData.hasDictAll]; rw [pints] at ih; rw [ih]; rfl
    have := this ns
    simpa [PyData.hasDict] using this
  unfold zIndex
  simp only
  rw [if_pos ⟨hsh, rfl, hd, rfl⟩, hi]
theorem max_list {ns : List Int} (h : ns ≠ []) : ∃ m, m ∈ ns ∧ ∀ M, zMax [.p (.list (pints ns))] M = .ok (.p (.int m)) M := by
  cases ns with
  | nil => exact absurd rfl h
  | cons n ns =>
    obtain ⟨f1, f2, f3⟩ := fold_max ns n
    refine ⟨ns.foldl max n, ?_, fun M => ?_⟩
    · rcases f3 with f3 | f3
      · rw [f3]; exact List.mem_cons_self ..
      · exact List.mem_cons_of_mem _ f3
    · have : intsOf ((pints (n :: ns)).map D.p) = some (n :: ns) := by
        have := intsOf_map (n :: ns)
        rw [pints, List.map_map]
        exact this
      unfold zMax
      simp only [lstv_p, this]
theorem sum_list (ns : List Int) (M : Store) : zSum [.p (.list (pints ns))] M = .ok (.p (.int ns.sum)) M := by
  have : intsOf ((pints ns).map D.p) = some ns := by
    have := intsOf_map ns
    rw [pints, List.map_map]
    exact this
  unfold zSum
  simp only [lstv_p, this]
theorem e_sharp {q : Stq} (hq : q.ok) (R : Store) {xs : List Itm} {n : Nat} (h : Frm xs n) (hn : 0 < n) (hgl : GL xs) {gs : List Int} {G : Int} (hG : 0 ≤ G) (hG2 : G ≤ 1000000) (hg : Gps gs (xs.length + 1) G) {far : Int} {fN : Nat} (hf : far = fN) (hf0 : 0 < fN) (hf1 : fN ≤ 100000) :
    ∃ x q', (∃ rs, x = .tuple (pints rs) ∧ Spn rs (places Itm.isJ xs).length (62 * (G + 1000) + 64 * fN + 2)) ∧ q'.ok ∧ F__law_sharp [.ref 1, .p (sk xs), .p (.tuple (pints gs)), .p (.int far)] (St q ++ R) = .ok (.p x) (St q' ++ R) := by
  apply fn_satS
  refine sat_any fun Φ hΦ => ?_
  have hx := h.2.1
  have lj := e_law_jumps (xs := xs) (by omega)
  have lt := e_law_top (xs := xs) (by omega)
  have hpl := len_places Itm.isJ xs
  have hts := top_steps h.filP
  have htp : topF xs ≤ 64 := by
    have := topF_isP _ xs rfl h.filP
    unfold isP at this
    omega
  have hgs : xs.length ≤ gs.length := by rw [hg.1]; omega
  have lw0 := fun (j : Nat) (hj : j ∈ places Itm.isJ xs) (M : Store) => e_law_way (gs := gs) h.ok hgs (ch := []) (by simp) hj (by simp) M
  have pn : pnats [] = [] := rfl
  rw [pn] at lw0
  -- all ways
  obtain ⟨W, hW⟩ : ∃ W, W = (places Itm.isJ xs).map (wayN xs gs []) := ⟨_, rfl⟩
  have hWl : W.length = (places Itm.isJ xs).length := by rw [hW, List.length_map]
  have hWb : ∀ w ∈ W, 0 ≤ w ∧ w ≤ 62 * (G + 1000) := fun w hw => by
    rw [hW] at hw
    obtain ⟨j, hj, rfl⟩ := List.mem_map.mp hw
    exact way_bd h hgl hG hg [] hj
  have hWn : W ≠ [] := fun e => by
    rw [e, h.2.2] at hWl
    simp at hWl
    omega
  obtain ⟨mx, hmx, emx⟩ := max_list hWn
  obtain ⟨i, hi, eix⟩ := index_i hmx
  obtain ⟨o, ho⟩ : ∃ o, (places Itm.isJ xs)[i]? = some o := ⟨_, List.getElem?_eq_getElem (by omega)⟩
  have hop := List.mem_of_getElem? ho
  have exo : ∀ M, zIx (.p (.list (pnats (places Itm.isJ xs)))) (.p (.int (i : Int))) M = .ok (.p (.int (o : Int))) M := fun M => zIx_l M (by rw [pnats, List.getElem?_map, ho]; rfl)
  obtain ⟨inn, hinn⟩ : ∃ inn, inn = (places Itm.isJ xs).filter fun j => !decide (j = o) := ⟨_, rfl⟩
  have hino : o ∉ inn := fun hm => by rw [hinn] at hm; simpa using (List.mem_filter.mp hm).2
  have hinl : inn.length ≤ 1000 := by rw [hinn]; have := List.length_filter_le (fun j => !decide (j = o)) (places Itm.isJ xs); omega
  have lwo := fun M => e_law_way (gs := gs) h.ok hgs (ch := inn) hinl hop hino M
  obtain ⟨b1, b2⟩ := way_bd h hgl hG hg inn hop
  obtain ⟨wh, hwh⟩ : ∃ wh, wh = wayN xs gs inn o := ⟨_, rfl⟩
  rw [← hwh] at lwo b1 b2
  obtain ⟨G2, hG2⟩ : ∃ g, g = inn.map fun j => longOf xs j - shortOf xs j := ⟨_, rfl⟩
  obtain ⟨sm, hsm⟩ : ∃ sm, sm = mx + G2.sum := ⟨_, rfl⟩
  obtain ⟨k, q1, hk, ok1, e1⟩ := e_drawZ q hq R (z := far) (n := fN) hf hf0 hf1
  obtain ⟨st, hst⟩ : ∃ st : Int, st = (1 + (k : Int)) * topF xs - (if sm < wh then 1 else 0) := ⟨_, rfl⟩
  have hstb : 0 ≤ st ∧ st ≤ 64 * fN := by
    have m1 : 1 * topF xs ≤ (1 + (k : Int)) * topF xs := Int.mul_le_mul_of_nonneg_right (by omega) (by have := hts.1; omega)
    have m2 : (1 + (k : Int)) * topF xs ≤ fN * topF xs := Int.mul_le_mul_of_nonneg_right (by omega) (by have := hts.1; omega)
    have m3 : (fN : Int) * topF xs ≤ fN * 64 := Int.mul_le_mul_of_nonneg_left htp (by omega)
    have := hts.1
    rw [hst]
    split <;> omega
  have it : ∀ (js : List Nat) Q, itemsOf (.p (.list (pnats js))) Q = .ok (js.map fun j : Nat => D.p (.int (j : Int))) Q := fun js Q => by rw [itemsOf_l, dp_pnats]
  have jx : ∀ j ∈ places Itm.isJ xs, ∀ M, zIx (.p (sk xs)) (.p (.int (j : Int))) M = .ok (.p (.tuple [.str "jump", .int (goal xs j : Int), .int (shortOf xs j), .int (longOf xs j)])) M := fun j hj M => ix_sk M (jmp_at hj)
  have hinj : ∀ j ∈ inn, j ∈ places Itm.isJ xs := fun j hj => by rw [hinn] at hj; exact (List.mem_filter.mp hj).1
  obtain ⟨sx, hsx⟩ : ∃ sx, sx = sk xs := ⟨_, rfl⟩
  obtain ⟨gl, hgl'⟩ : ∃ gl, gl = PyData.tuple (pints gs) := ⟨_, rfl⟩
  rw [← hsx] at lj lt lw0 lwo jx ⊢
  rw [← hgl'] at lw0 lwo ⊢
  have co1 : ∀ (Q : Store) a3 a4 a5, compP (tgN 13) ztyes (zs (zfc 4 F__law_way) (zcons (zv 1) (zcons (zv 2) (zcons (zs mkLstF znil) (zcons (zv 13) znil))))) [some (.ref 1), some (.p sx), some (.p gl), a3, a4, a5, none, none, none, none, none, none, none, none, none] ((places Itm.isJ xs).map fun j : Nat => D.p (.int (j : Int))) Q = .ok ((pints W).map .p) Q := fun Q a3 a4 a5 => by
    rw [compP_map (M := Q) (fun j : Nat => D.p (.int (j : Int))) (fun _ => true) (fun j => D.p (.int (wayN xs gs [] j)))]
    · rw [List.filter_eq_self.mpr fun _ _ => rfl, hW, pints, List.map_map, List.map_map]
      rfl
    · intro j hj
      refine ⟨_, rfl, rfl, fun _ => ?_⟩
      have := lw0 j hj
      simp [mkLstF, this]
  have fz1 : ∀ Q, frzl ((pints W).map .p) Q = .ok (.p (.list (pints W))) Q := fun Q => by rw [frzl_map, if_pos (by simp [pints]; omega)]
  have co2 : ∀ (Q : Store) a3 a4 a5 a6, compP (tgN 13) (zt (z2 zNe (zv 13) (zv 7))) (zv 13) [some (.ref 1), some (.p sx), some (.p gl), a3, a4, a5, a6, some (.p (.int (o : Int))), none, none, none, none, none, none, none] ((places Itm.isJ xs).map fun j : Nat => D.p (.int (j : Int))) Q = .ok ((pnats inn).map .p) Q := fun Q a3 a4 a5 a6 => by
    rw [compP_map (M := Q) (fun j : Nat => D.p (.int (j : Int))) (fun j => !decide (j = o)) (fun j => D.p (.int (j : Int)))]
    · rw [hinn, dp_pnats]
    · intro j hj
      refine ⟨_, rfl, ?_, fun _ => rfl⟩
      have : ((j : Int) = (o : Int)) ↔ j = o := by omega
      simp [this]
  have fz2 : ∀ Q, frzl ((pnats inn).map .p) Q = .ok (.p (.list (pnats inn))) Q := fun Q => by rw [frzl_map, if_pos (by simp; omega)]
  have co3 : ∀ (Q : Store) a3 a4 a5 a6 a7 a8, compP (tgN 13) ztyes (z2 zSub (z2 zIx (z2 zIx (zv 1) (zv 13)) (zk (.int 3))) (z2 zIx (z2 zIx (zv 1) (zv 13)) (zk (.int 2)))) [some (.ref 1), some (.p sx), some (.p gl), a3, a4, a5, a6, a7, a8, none, none, none, none, none, none] (inn.map fun j : Nat => D.p (.int (j : Int))) Q = .ok ((pints G2).map .p) Q := fun Q a3 a4 a5 a6 a7 a8 => by
    rw [compP_map (M := Q) (fun j : Nat => D.p (.int (j : Int))) (fun _ => true) (fun j => D.p (.int (longOf xs j - shortOf xs j)))]
    · rw [List.filter_eq_self.mpr fun _ _ => rfl, hG2, pints, List.map_map, List.map_map]
      rfl
    · intro j hj
      refine ⟨_, rfl, rfl, fun _ => ?_⟩
      have := jx j (hinj j hj)
      simp [this]
  have hG2l : G2.length ≤ 1000 := by rw [hG2, List.length_map]; exact hinl
  have fz3 : ∀ Q, frzl ((pints G2).map .p) Q = .ok (.p (.list (pints G2))) Q := fun Q => by rw [frzl_map, if_pos (by simp [pints]; omega)]
  have su := sum_list G2
  obtain ⟨tp, htp'⟩ : ∃ tp, tp = topF xs := ⟨_, rfl⟩
  rw [← htp'] at lt hst htp hts
  have cm : CMul (1 + (k : Int)) tp := cm_r _ (by have := hts.1; omega)
  obtain ⟨bi, hbi⟩ : ∃ b : Int, b = (if sm < wh then 1 else 0) := ⟨_, rfl⟩
  have zb : ∀ M, zInt [.p (.bool (decide (sm < wh)))] M = .ok (.p (.int bi)) M := fun M => by rw [zInt_b, hbi]; simp
  rw [← hbi] at hst
  have l2 : ∀ q : Stq, (St q).length + R.length = R.length + 2 := fun q => by rw [St_len]; omega
  obtain ⟨wl, hwl⟩ : ∃ wl, wl = pints W := ⟨_, rfl⟩
  obtain ⟨pj, hpj⟩ : ∃ pj, pj = pnats (places Itm.isJ xs) := ⟨_, rfl⟩
  obtain ⟨pi, hpi⟩ : ∃ pj, pj = pnats inn := ⟨_, rfl⟩
  obtain ⟨pg, hpg⟩ : ∃ pj, pj = pints G2 := ⟨_, rfl⟩
  have itj := it (places Itm.isJ xs)
  have iti := it inn
  have zz : ∀ Q, (zzip (zv 5) (zv 6)) [some (.ref 1), some (.p sx), some (.p gl), some (.p (.int far)), some (.p (.int tp)), some (.p (.list pj)), some (.p (.list wl)), some (.p (.int (o : Int))), some (.p (.list pi)), some (.p (.int wh)), some (.p (.int sm)), some (.p (.int st)), some (.ref (R.length + 2)), none, none] Q = .ok (((places Itm.isJ xs).zip W).map fun q => D.p (.tuple [.int (q.1 : Int), .int q.2])) Q := fun Q => by
    rw [hpj, hwl]
    simp [zzip, zip_ni]
  rw [← hwl] at co1 fz1 emx eix
  rw [← hpj] at lj exo itj
  rw [← hpi] at co2 fz2 iti lwo
  rw [← hpg] at co3 fz3 su
  have isl : ∀ M, isL M (.p (.list wl)) = true := fun M => rfl
  simp [-frzl_map, -List.map_map, -itemsOf_l, c__law_sharp, lt, lj, itj, wipeS, co1, fz1, emx, isl, eix, exo, co2, fz2, lwo, iti, co3, fz3, su, ← hsm, e1, cm, zb, ← hst, l2, zz]
  have b0 : St q1 ++ (R ++ [Ob.lst []]) = St q1 ++ (R ++ [.lst ((pints []).map .p)]) := rfl
  rw [b0]
  refine forP_seq _ _ (fun done sl M' => ∃ q' acc d13 d14, sl = [some (.ref 1), some (.p sx), some (.p gl), some (.p (.int far)), some (.p (.int tp)), some (.p (.list pj)), some (.p (.list wl)), some (.p (.int (o : Int))), some (.p (.list pi)), some (.p (.int wh)), some (.p (.int sm)), some (.p (.int st)), some (.ref (R.length + 2)), d13, d14] ∧ M' = St q' ++ (R ++ [.lst ((pints acc).map .p)]) ∧ q'.ok ∧ Spn acc done.length (62 * (G + 1000) + 64 * fN + 2))
    ⟨q1, [], none, none, rfl, rfl, ok1, rfl, fun i hi => by cases hi⟩ ?_ ?_
  · rintro done ⟨j, w⟩ rest sl M' e ⟨q', acc, d13, d14, rfl, rfl, ok, hs⟩
    have hz : (j, w) ∈ (places Itm.isJ xs).zip W := by rw [e]; simp
    have hw := hWb w (List.of_mem_zip hz).2
    have hd : done.length ≤ 100 := by
      have := congrArg List.length e
      rw [List.length_zip] at this
      simp at this
      omega
    obtain ⟨r, hr0, q2, ok2, er⟩ : ∃ r : Int, (0 ≤ r ∧ r ≤ 62 * (G + 1000) + 64 * fN + 2) ∧ ∃ q2 : Stq, q2.ok ∧ ∀ d13 : Option D, (zif (zt (z2 zEq (zv 13) (zv 7))) (z2 zAdd (zv 9) (zv 11)) (zs zMax (zcons (zk (.int 0)) (zcons (z2 zAdd (zv 14) (zs (zfc 2 F__law_pick) (zcons (zv 0) (zcons (zs mkLstF (zcons (z1 zNeg (zk (.int 1))) (zcons (z1 zNeg (zk (.int 1))) (zcons (z1 zNeg (zk (.int 1))) (zcons (z1 zNeg (zk (.int 1))) (zcons (z1 zNeg (zk (.int 1))) (zcons (z1 zNeg (zk (.int 1))) (zcons (zk (.int 0)) (zcons (zk (.int 2)) znil))))))))) znil)))) znil))))
        [some (.ref 1), some (.p sx), some (.p gl), some (.p (.int far)), some (.p (.int tp)), some (.p (.list pj)), some (.p (.list wl)), some (.p (.int (o : Int))), some (.p (.list pi)), some (.p (.int wh)), some (.p (.int sm)), some (.p (.int st)), d13, some (.p (.int (j : Int))), some (.p (.int w))] (St q' ++ (R ++ [.lst ((pints acc).map .p)])) = .ok (.p (.int r)) (St q2 ++ (R ++ [.lst ((pints acc).map .p)])) := by
      by_cases hjo : j = o
      · refine ⟨wh + st, by omega, q', ok, fun d13 => ?_⟩
        simp [hjo]
      · obtain ⟨v, q2, hv1, hv2, ok2, e2⟩ := e_pickI q' ok (R ++ [.lst ((pints acc).map .p)]) (ns := [-1, -1, -1, -1, -1, -1, 0, 2]) (lo := -1) (hi := 2) (by simp) (by simp) (by decide)
        have e2' : F__law_pick [.ref 1, .p (.list [.int (-1), .int (-1), .int (-1), .int (-1), .int (-1), .int (-1), .int 0, .int 2])] (St q' ++ (R ++ [.lst ((pints acc).map .p)])) = .ok (.p (.int v)) (St q2 ++ (R ++ [.lst ((pints acc).map .p)])) := e2
        obtain ⟨r, hr⟩ : ∃ r : Int, r = max 0 (w + v) := ⟨_, rfl⟩
        have mx : ∀ M, zMax [.p (.int 0), .p (.int (w + v))] M = .ok (.p (.int r)) M := fun M => by rw [zMax_2, hr]
        refine ⟨r, by omega, q2, ok2, fun d13 => ?_⟩
        have : ¬ (j : Int) = (o : Int) := by omega
        simp [-zMax_2, this, mkLstF, e2', mx]
    have ap := app_si (q := q2) (R := R) (ys := acc) (y := r) (by rw [hs.1]; omega)
    have il := fun q : Stq => isl_si (q := q) (R := R) (ys := acc)
    refine ⟨_, rfl, sat_any fun Ψ hΨ => ?_⟩
    have er' := er (some (.ref (R.length + 2)))
    simp [-zif_e, -zAppend_e, -isL_ref, -List.map_map, L__law_sharp_1, il, er', ap]
    refine hΨ _ ⟨_, _, rfl, q2, acc ++ [r], _, _, rfl, rfl, ok2, by simp [hs.1], fun i hi => ?_⟩
    rcases List.mem_append.mp hi with hi | hi
    · exact hs.2 i hi
    · rw [List.mem_singleton.mp hi]
      exact hr0
  · rintro sl M' ⟨q', acc, d13, d14, rfl, rfl, ok, hs⟩
    have tu := tup_si (q := q') (R := R) (ys := acc)
    rw [List.length_zip, hWl, Nat.min_self] at hs
    simp [-List.map_map, tu]
    exact hΦ _ ⟨_, q', _, rfl, ok, acc, rfl, hs⟩
end ZL

namespace ZL
open PySem PySem.Spec PyProof.Rows L2 Z
def isDue (o : Option Int) (m : Int) : Bool := match o with
  | none => false
  | some v => decide (v ≤ m)
/-- the jumps that are long at m steps -/
def dueL (xs : List Itm) (gs rs : List Int) (p : Nat) (m : Int) : List Nat := (places Itm.isJ xs).filter fun j => isDue (turnA xs gs rs p j) m
theorem due_least {xs : List Itm} {n : Nat} (h : Frm xs n) (hgl : GL xs) (hst : trips xs = []) {gs rs : List Int} (hr : rs.length = (places Itm.isJ xs).length) {p : Nat} (hp : p < gs.length) {m : Int} (hm : 0 ≤ m) : leastA xs (longer gs p (m * topF xs)) rs = dueL xs gs rs p m := by
  refine least_filter h hr fun j hj => ?_
  rw [in_least h hgl hst hr hp j hm]
  unfold isDue
  constructor
  · rintro ⟨v, e, hle⟩
    rw [e]
    simpa using hle
  · intro hd
    cases e : turnA xs gs rs p j with
    | none => rw [e] at hd; cases hd
    | some v => rw [e] at hd; exact ⟨v, rfl, by simpa using hd⟩
theorem due_mono {xs : List Itm} {gs rs : List Int} {p : Nat} {a b : Int} (hab : a ≤ b) : ∀ i ∈ dueL xs gs rs p a, i ∈ dueL xs gs rs p b := fun i hi => by
  obtain ⟨h1, h2⟩ := List.mem_filter.mp hi
  refine List.mem_filter.mpr ⟨h1, ?_⟩
  unfold isDue at h2 ⊢
  cases e : turnA xs gs rs p i with
  | none => rw [e] at h2; cases h2
  | some v =>
    rw [e] at h2
    simp at h2 ⊢
    omega
def numP (xs : List Itm) (gs rs : List Int) (p : Nat) : List P := (places Itm.isJ xs).map fun j => optP (turnA xs gs rs p j)
theorem zip_num (js : List Nat) (f : Nat → P) : zipP (pnats js) (js.map f) = js.map fun j : Nat => D.p (.tuple [.int (j : Int), f j]) := by
  induction js with
  | nil => rfl
  | cons j js ih =>
    unfold pnats at ih ⊢
    rw [List.map_cons, List.map_cons, zipP, ih]
    rfl
theorem show_tn {c : List Nat} (h : c.length ≤ 1000 ∧ ∀ j ∈ c, j ≤ 1000) : ∃ w : Str, ∀ M, zShow [.p (tnats c)] M = .ok (.p (.str w)) M := by
  refine ⟨_, fun M => zShow_t (n := 20000) (d := 1) ((Sh.tup (n := 14) (d := 0) fun z hz => ?_).mono (by rw [pnats_len]; omega) (Nat.le_refl _)) (by decide) (by decide) M⟩
  obtain ⟨i, hi, rfl⟩ := List.mem_map.mp hz
  have := h.2 i hi
  exact Sh.nat (by omega)
theorem b_law1 {xs : List Itm} {n : Nat} (h : Frm xs n) (h8 : n ≤ 8) (hgl : GL xs) (hst : trips xs = []) {gs rs : List Int} (hgs : gs.length = xs.length + 1) (hr : rs.length = (places Itm.isJ xs).length) {p : Nat} (hp : p < gs.length) {m : Int} (hm : 0 ≤ m) {bf : List Nat} (hbf : bf.length ≤ 1000) (hb : ∀ i ∈ bf, i ∈ dueL xs gs rs p m) (M : Store) {jn : Int}
    {d0 d1 d2 d11 d12 d15 d16 d17 d18 d19 d20 d21 : Option D} : Sat (fun o => ∃ d15 d16, o = .nx [d0, d1, d2, some (.p (.int jn)), some (.p (.int (topF xs))), some (.p (sk xs)), some (.p (.tuple (pints gs))), some (.p (.tuple (pints rs))), some (.p (.int (p : Int))), some (.p (.list (pnats (places Itm.isJ xs)))), some (.p (.list (numP xs gs rs p))), d11, d12, some (.p (tnats (dueL xs gs rs p m))), some (.p (.int m)), d15, d16, d17, none, none, d20, d21] M)
      (L_law_1 [d0, d1, d2, some (.p (.int jn)), some (.p (.int (topF xs))), some (.p (sk xs)), some (.p (.tuple (pints gs))), some (.p (.tuple (pints rs))), some (.p (.int (p : Int))), some (.p (.list (pnats (places Itm.isJ xs)))), some (.p (.list (numP xs gs rs p))), d11, d12, some (.p (tnats bf)), some (.p (.int m)), d15, d16, d17, none, none, d20, d21] M) := by
  refine sat_any fun Φ hΦ => ?_
  have hx := h.2.1
  have hpl := len_places Itm.isJ xs
  have hlok : ∀ l : List Int, l.length = gs.length → LOk xs l := fun l hl => h.lok (by omega)
  have ll := longer_len gs p (m * topF xs)
  have dl := due_least h hgl hst hr hp hm
  have le := e_law_least h (gs := longer gs p (m * topF xs)) (rs := rs) (by omega) hr
  have lc := e_least_steady h hgl hst (hlok _ ll) hr (by rw [h.2.2]; exact h8)
  rw [dl] at le lc
  have lo := e_law_longer hp (by omega) (m * topF xs)
  have hdl : (dueL xs gs rs p m).length ≤ 60 := by
    unfold dueL
    have := List.length_filter_le (fun j => isDue (turnA xs gs rs p j) m) (places Itm.isJ xs)
    omega
  obtain ⟨w, sw⟩ := show_tn (c := dueL xs gs rs p m) ⟨by omega, fun j hj => by
    have := (List.getElem?_eq_some_iff.mp (jmp_at (List.mem_filter.mp hj).1)).1
    omega⟩
  have tb := top_steps h.filP
  have cm : CMul m (topF xs) := cm_r _ (by have := tb.1; have := tb.2.1; omega)
  have il := ls_at (ls := longer gs p (m * topF xs)) (p := p) (by omega)
  have ne1 : ∀ M, zNe (.p (tnats (dueL xs gs rs p m))) (.p (tnats (dueL xs gs rs p m))) M = .ok (.p (.bool false)) M := fun M => by
    rw [zNe_lay lay_tn (by decide)]
    simp
  have zz : ∀ Q d13 d14 d15 d16 d17 d20 d21, (zzip (zv 9) (zv 10)) [d0, d1, d2, some (.p (.int jn)), some (.p (.int (topF xs))), some (.p (sk xs)), some (.p (.tuple (pints gs))), some (.p (.tuple (pints rs))), some (.p (.int (p : Int))), some (.p (.list (pnats (places Itm.isJ xs)))), some (.p (.list (numP xs gs rs p))), d11, d12, d13, d14, d15, d16, d17, none, none, d20, d21] Q = .ok ((places Itm.isJ xs).map fun j : Nat => D.p (.tuple [.int (j : Int), optP (turnA xs gs rs p j)])) Q := fun Q d13 d14 d15 d16 d17 d20 d21 => by
    have := zip_num (places Itm.isJ xs) fun j => optP (turnA xs gs rs p j)
    simp [zzip, numP, this]
  have co : ∀ (Q : Store) a3 a4 a5 a6 a7 a8 a9 a10 a13 a15 a16 a17, compP (tgT (tgsCons (tgN 18) (tgsCons (tgN 19) tgsNil))) (ztand (zt (z2 (zIs true) (zv 19) (zk .none))) (zt (z2 zLe (zv 19) (zv 14)))) (zv 18) [d0, d1, d2, a3, a4, a5, a6, a7, a8, a9, a10, d11, d12, a13, some (.p (.int m)), a15, a16, a17, none, none, d20, d21]
      ((places Itm.isJ xs).map fun j : Nat => D.p (.tuple [.int (j : Int), optP (turnA xs gs rs p j)])) Q = .ok ((pnats (dueL xs gs rs p m)).map .p) Q := fun Q a3 a4 a5 a6 a7 a8 a9 a10 a13 a15 a16 a17 => by
    rw [compP_map (M := Q) (fun j : Nat => D.p (.tuple [.int (j : Int), optP (turnA xs gs rs p j)])) (fun j => isDue (turnA xs gs rs p j) m) (fun j => D.p (.int (j : Int)))]
    · rw [dp_pnats]; rfl
    · intro j hj
      refine ⟨_, rfl, ?_, fun _ => rfl⟩
      cases e : turnA xs gs rs p j with
      | none =>
        have i0 : ∀ M, zIs true (.p PyData.none) (.p PyData.none) M = .ok (.p (.bool false)) M := fun M => rfl
        simp [optP, isDue, i0]
      | some v =>
        have i0 : ∀ M, zIs true (.p (PyData.int v)) (.p PyData.none) M = .ok (.p (.bool true)) M := fun M => rfl
        simp [optP, isDue, i0, zLe]
  have fz : ∀ Q, frzl ((pnats (dueL xs gs rs p m)).map .p) Q = .ok (.p (.list (pnats (dueL xs gs rs p m)))) Q := fun Q => by rw [frzl_map, if_pos (by simp; omega)]
  have tu : ∀ Q, zTuple [.p (.list (pnats (dueL xs gs rs p m)))] Q = .ok (.p (tnats (dueL xs gs rs p m))) Q := fun Q => by unfold zTuple; simp
  have itb : ∀ Q, itemsOf (.p (tnats bf)) Q = .ok (bf.map fun j : Nat => D.p (.int (j : Int))) Q := fun Q => by unfold tnats; rw [itemsOf_t, dp_pnats]
  have cob : ∀ (Q : Store) a3 a4 a5 a6 a7 a8 a9 a10 a13 a14 a16 a17, compP (tgN 18) (zt (z2 zNotIn (zv 18) (zv 15))) (zv 18) [d0, d1, d2, a3, a4, a5, a6, a7, a8, a9, a10, d11, d12, a13, a14, some (.p (tnats (dueL xs gs rs p m))), a16, a17, none, none, d20, d21] (bf.map fun j : Nat => D.p (.int (j : Int))) Q = .ok [] Q := fun Q a3 a4 a5 a6 a7 a8 a9 a10 a13 a14 a16 a17 => by
    rw [compP_map (M := Q) (fun j : Nat => D.p (.int (j : Int))) (fun j => !decide (j ∈ dueL xs gs rs p m)) (fun j => D.p (.int (j : Int)))]
    · rw [List.filter_eq_nil_iff.mpr fun j hj => by simp [hb j hj]]
      rfl
    · intro j _
      refine ⟨_, rfl, ?_, fun _ => rfl⟩
      simp [zNotIn, tnats]
  have fz0 : ∀ Q, frzl [] Q = .ok (.p (.list [])) Q := fun Q => rfl
  have n0 : ∀ M, zNe (.p (.list [])) (.p (.list [])) M = .ok (.p (.bool false)) M := fun M => ne_nil_l (xs := []) (fun x hx => by cases hx) M
  have epr : PyData.tuple [sk xs, .tuple (pints (longer gs p (m * topF xs))), .tuple (pints rs)] = prg xs (longer gs p (m * topF xs)) rs := rfl
  obtain ⟨lv, hlv⟩ : ∃ lv, lv = lnA (longer gs p (m * topF xs)) p := ⟨_, rfl⟩
  rw [← hlv] at il
  obtain ⟨pr, hpr⟩ : ∃ x, x = prg xs (longer gs p (m * topF xs)) rs := ⟨_, rfl⟩
  rw [← hpr] at lc epr
  obtain ⟨lg, hlg⟩ : ∃ x, x = pints (longer gs p (m * topF xs)) := ⟨_, rfl⟩
  rw [← hlg] at le lo il epr
  obtain ⟨tf, htf⟩ : ∃ x, x = topF xs := ⟨_, rfl⟩
  rw [← htf] at cm lo zz ⊢
  obtain ⟨mt, hmt⟩ : ∃ x, x = m * tf := ⟨_, rfl⟩
  rw [← hmt] at lo
  obtain ⟨du, hdu⟩ : ∃ x, x = tnats (dueL xs gs rs p m) := ⟨_, rfl⟩
  rw [← hdu] at le lc sw ne1 tu cob
  obtain ⟨pd, hpd⟩ : ∃ x, x = pnats (dueL xs gs rs p m) := ⟨_, rfl⟩
  rw [← hpd] at co fz tu
  obtain ⟨tb2, htb⟩ : ∃ x, x = tnats bf := ⟨_, rfl⟩
  rw [← htb] at itb ⊢
  obtain ⟨sx, hsx⟩ : ∃ x, x = sk xs := ⟨_, rfl⟩
  rw [← hsx] at le zz epr ⊢
  by_cases hj : jn < 5
  · by_cases hv : lv ≤ 1000000000
    · simp [-frzl_map, -zTuple_l, -List.map_map, -itemsOf_l, -itemsOf_t, L_law_1, wipeS, zz, co, fz, tu, cm, ← hmt, lo, le, ne1, itb, cob, fz0, mkLstF, n0, mkTup, hj, il, pow9t, hv, epr, lc, sw]
      exact hΦ _ ⟨some (.p du), some (.p (.tuple lg)), by rw [hdu, hsx, htf]⟩
    · simp [-frzl_map, -zTuple_l, -List.map_map, -itemsOf_l, -itemsOf_t, L_law_1, wipeS, zz, co, fz, tu, cm, ← hmt, lo, le, ne1, itb, cob, fz0, mkLstF, n0, mkTup, hj, il, pow9t, hv]
      exact hΦ _ ⟨some (.p du), some (.p (.tuple lg)), by rw [hdu, hsx, htf]⟩
  · simp [-frzl_map, -zTuple_l, -List.map_map, -itemsOf_l, -itemsOf_t, L_law_1, wipeS, zz, co, fz, tu, cm, ← hmt, lo, le, ne1, itb, cob, fz0, mkLstF, n0, mkTup, hj]
    exact hΦ _ ⟨some (.p du), some (.p (.tuple lg)), by rw [hdu, hsx, htf]⟩
end ZL

namespace ZL
open PySem PySem.Spec PyProof.Rows L2 Z
/-- draws with one more at the third turn -/
theorem comp_dr2 {z : Int} {n : Nat} (hz : z = n) (h0 : 0 < n) (hn : n ≤ 1000) (i : Nat) (t : Int) (a : Option D) (rest : Sl) : ∀ (ds : List D) (q : Stq), q.ok → ∃ (q' : Stq) (ks : List Int), q'.ok ∧ ks.length = ds.length ∧ (∀ k ∈ ks, 0 ≤ k ∧ k ≤ n) ∧
    compP (tgN (i + 3)) ztyes (z2 zAdd (zs (zfc 2 F__law_draw) (zcons (zv 1) (zcons (zk (.int z)) znil))) (zs zInt (zcons (z2 zEq (zv 2) (zk (.int 2))) znil))) (a :: some (.ref 1) :: some (.p (.int t)) :: rest) ds (St q) = .ok ((pints ks).map .p) (St q')
  | [], q, ok => ⟨q, [], ok, rfl, (fun k hk => by cases hk), rfl⟩
  | d :: ds, q, ok => by
    obtain ⟨k, q1, hk, ok1, e1⟩ := e_drawZ q ok [] (z := z) (n := n) hz h0 (by omega)
    simp only [List.append_nil] at e1
    obtain ⟨q2, ks, ok2, hl, hb, e2⟩ := comp_dr2 hz h0 hn i t a rest ds q1 ok1
    obtain ⟨c, hc⟩ : ∃ c : Int, c = (if t = 2 then 1 else 0) := ⟨_, rfl⟩
    have hc2 : 0 ≤ c ∧ c ≤ 1 := by rw [hc]; split <;> omega
    refine ⟨q2, ((k : Int) + c) :: ks, ok2, by simp [hl], fun y hy => ?_, ?_⟩
    · rcases List.mem_cons.mp hy with rfl | hy
      · omega
      · exact hb y hy
    · unfold compP
      rw [show (pints (((k : Int) + c) :: ks)).map D.p = D.p (.int ((k : Int) + c)) :: (pints ks).map D.p from rfl]
      simp [tgN, e1, e2, hc]
/-- spans made greater by steps -/
theorem comp_sp {top : Int} (ht : 0 < top ∧ top ≤ 64) {B : Int} (a0 a2 a3 a5 a6 a7 a8 a9 a10 a11 a12 a13 a14 a15 a16 a17 a18 a19 a21 : Option D) : ∀ (rs : List Int) (q : Stq), q.ok → (∀ r ∈ rs, 0 ≤ r ∧ r ≤ B) → ∃ (q' : Stq) (ks : List Int), q'.ok ∧ ks.length = rs.length ∧ (∀ k ∈ ks, 0 ≤ k ∧ k ≤ B + 256) ∧
    compP (tgN 20) ztyes (z2 zAdd (zv 20) (z2 zMul (zv 4) (zs (zfc 2 F__law_draw) (zcons (zv 1) (zcons (zk (.int 5)) znil))))) [a0, some (.ref 1), a2, a3, some (.p (.int top)), a5, a6, a7, a8, a9, a10, a11, a12, a13, a14, a15, a16, a17, a18, a19, none, a21] ((pints rs).map .p) (St q) = .ok ((pints ks).map .p) (St q')
  | [], q, ok, _ => ⟨q, [], ok, rfl, (fun k hk => by cases hk), rfl⟩
  | r :: rs, q, ok, hr => by
    obtain ⟨k, q1, hk, ok1, e1⟩ := e_drawZ q ok [] (z := 5) (n := 5) rfl (by decide) (by decide)
    simp only [List.append_nil] at e1
    obtain ⟨q2, ks, ok2, hl, hb, e2⟩ := comp_sp ht a0 a2 a3 a5 a6 a7 a8 a9 a10 a11 a12 a13 a14 a15 a16 a17 a18 a19 a21 rs q1 ok1 fun x hx => hr x (List.mem_cons_of_mem _ hx)
    have cm : CMul top (k : Int) := cm_l _ ⟨by omega, by omega⟩
    have h1 := hr r (List.mem_cons_self ..)
    have hk4 : (k : Int) ≤ 4 := by omega
    have m1 : 0 ≤ top * (k : Int) := Int.mul_nonneg (by omega) (by omega)
    have m2 : top * (k : Int) ≤ top * 4 := Int.mul_le_mul_of_nonneg_left hk4 (by omega)
    refine ⟨q2, (r + top * (k : Int)) :: ks, ok2, by simp [hl], fun y hy => ?_, ?_⟩
    · rcases List.mem_cons.mp hy with rfl | hy
      · omega
      · exact hb y hy
    · rw [show (pints (r :: rs)).map D.p = D.p (.int r) :: (pints rs).map D.p from rfl]
      unfold compP
      rw [show (pints ((r + top * (k : Int)) :: ks)).map D.p = D.p (.int (r + top * (k : Int))) :: (pints ks).map D.p from rfl]
      simp [tgN, e1, e2, cm]
/-- the numbers of all jumps -/
theorem comp_num {xs : List Itm} {n : Nat} (h : Frm xs n) (hst : trips xs = []) {gs rs : List Int} (hgs : gs.length = xs.length + 1) (hr : rs.length = (places Itm.isJ xs).length) {p : Nat} (hp : p < gs.length) (Q : Store) (a0 a1 a2 a3 a4 a9 a10 a11 a12 a13 a14 a15 a16 a17 a19 a20 a21 : Option D) :
    compP (tgN 18) ztyes (zs (zfc 3 F_turning) (zcons (zs mkTup (zcons (zv 5) (zcons (zv 6) (zcons (zv 7) znil)))) (zcons (zv 8) (zcons (zv 18) znil)))) [a0, a1, a2, a3, a4, some (.p (sk xs)), some (.p (.tuple (pints gs))), some (.p (.tuple (pints rs))), some (.p (.int (p : Int))), a9, a10, a11, a12, a13, a14, a15, a16, a17, none, a19, a20, a21]
      ((places Itm.isJ xs).map fun j : Nat => D.p (.int (j : Int))) Q = .ok ((numP xs gs rs p).map .p) Q := by
  have hx := h.2.1
  rw [compP_map (M := Q) (fun j : Nat => D.p (.int (j : Int))) (fun _ => true) (fun j => D.p (optP (turnA xs gs rs p j)))]
  · rw [List.filter_eq_self.mpr fun _ _ => rfl, numP, List.map_map]
    rfl
  · intro j hj
    refine ⟨_, rfl, rfl, fun _ => ?_⟩
    have e := (e_turning h (h.lok hgs) h.gok hr h.filP (by omega) hp j).1 hst
    have epr : PyData.tuple [sk xs, .tuple (pints gs), .tuple (pints rs)] = prg xs gs rs := rfl
    obtain ⟨pr, hpr⟩ : ∃ pr, pr = prg xs gs rs := ⟨_, rfl⟩
    rw [← hpr] at e epr
    simp [mkTup, epr, e]
/-- those that are told -/
def known (ns : List (Option Int)) : List Int := ns.filterMap id
theorem comp_known (ns : List (Option Int)) (Q : Store) (sl : Sl) (hs : sl.length = 22) : compP (tgN 19) (zt (z2 (zIs true) (zv 19) (zk .none))) (zv 19) sl ((ns.map optP).map .p) Q = .ok ((pints (known ns)).map .p) Q := by
  have hg : ∀ d, (sl.set 19 (some d))[19]? = some (some d) := fun d => List.getElem?_set_self (by omega)
  have hz : ∀ d, zv 19 (sl.set 19 (some d)) Q = .ok d Q := fun d => by
    unfold zv
    simp only [hg]
  induction ns with
  | nil => rfl
  | cons o ns ih =>
    rw [List.map_cons, List.map_cons]
    unfold compP
    cases o with
    | none =>
      have i0 : zIs true (.p PyData.none) (.p PyData.none) Q = .ok (.p (.bool false)) Q := rfl
      have := hz (.p PyData.none)
      simp only [tgN, optP, zt_e, z2_e, this, Out.bind_ok, zk_e, i0, asBool_b]
      exact ih
    | some v =>
      have i0 : zIs true (.p (PyData.int v)) (.p PyData.none) Q = .ok (.p (.bool true)) Q := rfl
      have := hz (.p (PyData.int v))
      simp only [tgN, optP, zt_e, z2_e, this, Out.bind_ok, zk_e, i0, asBool_b, noexc, if_true, ih]
      rfl
end ZL

namespace ZL
open PySem PySem.Spec PyProof.Rows L2 Z
theorem ints_of (ns : List Int) : intsOf ((pints ns).map D.p) = some ns := by
  have := intsOf_map ns
  rw [pints, List.map_map]
  exact this
theorem sortSet_l {ns : List Int} (h : ns.length ≤ 60) (M : Store) : zSortSet (.p (.list (pints ns))) M = .ok (.p (.list (pints (uns ns)))) M := by
  have sv : seqv M (.p (.list (pints ns))) = some ((pints ns).map .p) := rfl
  have hu := uns_len ns
  unfold zSortSet
  simp only [sv, ints_of]
  rw [if_pos ⟨by omega, by omega⟩]
  rfl
theorem rise_le {l : List Int} (h : l.Pairwise (· < ·)) : l.Pairwise (· ≤ ·) := h.imp fun h => by omega
theorem lsortI_rise (l : List Int) : (lsort PyData.int l).Pairwise (· ≤ ·) := by
  unfold lsort
  have := PySem.W.dataLe_int (fun i : Int => i)
  have e : (PySem.W.dataLe false PyData.int) = fun a b : Int => decide (a ≤ b) := this
  rw [e]
  refine (List.pairwise_mergeSort (fun a b c h1 h2 => ?_) (fun a b => ?_) l).imp fun {a b} h => ?_
  · simp at h1 h2 ⊢; omega
  · simp; omega
  · simpa using h
theorem perm_ints {ys : List P} {ns : List Int} (h : ys.Perm (pints ns)) : ∃ ms : List Int, ys = pints ms ∧ ∀ i ∈ ms, i ∈ ns := by
  have : ∀ y ∈ ys, ∃ i : Int, y = .int i ∧ i ∈ ns := fun y hy => by
    obtain ⟨i, hi, rfl⟩ := List.mem_map.mp (h.mem_iff.mp hy)
    exact ⟨i, rfl, hi⟩
  clear h
  induction ys with
  | nil => exact ⟨[], rfl, fun i hi => by cases hi⟩
  | cons y ys ih =>
    obtain ⟨i, rfl, hi⟩ := this y (List.mem_cons_self ..)
    obtain ⟨ms, rfl, hms⟩ := ih fun z hz => this z (List.mem_cons_of_mem _ hz)
    exact ⟨i :: ms, rfl, fun k hk => by
      rcases List.mem_cons.mp hk with rfl | hk
      · exact hi
      · exact hms k hk⟩
/-- six of many, in order -/
theorem e_six {q : Stq} (hq : q.ok) {E : List Int} (hE : E.Pairwise (· < ·)) (hl : E.length ≤ 60) : ∃ (F : List Int) (q' : Stq), F.Pairwise (· ≤ ·) ∧ (∀ m ∈ F, m ∈ E) ∧ q'.ok ∧ F.length ≤ 60 ∧ ∀ (a0 a2 a3 a4 a5 a6 a7 a8 a9 a10 a11 : Option D) (sl : Sl),
    (zif (zt (z2 zLt (zs zLen (zcons (zv 12) znil)) (zk (.int 8)))) (zv 12) (zs zSort (zcons (zslice (zs (zfc 2 F__law_mixed) (zcons (zv 1) (zcons (zv 12) znil))) zno (zpart (zk (.int 6)))) znil))) (a0 :: some (.ref 1) :: a2 :: a3 :: a4 :: a5 :: a6 :: a7 :: a8 :: a9 :: a10 :: a11 :: some (.p (.list (pints E))) :: sl) (St q) = .ok (.p (.list (pints F))) (St q') := by
  have ln : ∀ M, zLen [.p (.list (pints E))] M = .ok (.p (.int (E.length : Int))) M := fun M => by rw [zLen_l, List.length_map, pints_len]
  by_cases h8 : (E.length : Int) < 8
  · have h8' : E.length < 8 := by omega
    refine ⟨E, q, rise_le hE, fun m hm => hm, hq, hl, fun a0 a2 a3 a4 a5 a6 a7 a8 a9 a10 a11 sl => ?_⟩
    simp [-zLen_l, ln, h8, h8']
  · have h8' : ¬ E.length < 8 := by omega
    obtain ⟨y, q1, ⟨ys, rfl, pm⟩, ok1, e1⟩ := e_mixed q hq [] (x := .list (pints E)) (xs := pints E) (fun M => rfl) (fun x hx => by
      obtain ⟨i, _, rfl⟩ := List.mem_map.mp hx
      exact cmp_int i) (by simp; omega)
    simp only [List.append_nil] at e1
    have hlen := pm.length_eq
    obtain ⟨ms, rfl, hms⟩ := perm_ints pm
    have hml : ms.length ≤ 60 := by
      simp at hlen
      omega
    have sl6 : ∀ M, zSl (.p (.list (pints ms))) none (some 6) M = .ok (.p (.list (pints (ms.take 6)))) M := fun M => by
      unfold zSl
      simp only [lstv_p]
      have := cutG__n ((pints ms).map D.p) 6
      rw [show (some (6 : Int)) = some ((6 : Nat) : Int) from rfl, this, ← List.map_take, frzl_map, if_pos (by simp [pints]; omega)]
      rw [pints, pints, List.map_take]
    have so : ∀ M, zSort [.p (.list (pints (ms.take 6)))] M = .ok (.p (.list (pints (lsort PyData.int (ms.take 6))))) M := fun M => zSort_of srt_int (xs := ms.take 6) rfl (by rw [List.length_take]; omega)
    refine ⟨lsort PyData.int (ms.take 6), q1, lsortI_rise _, fun m hm => hms m (List.mem_of_mem_take (mem_lsort.mp hm)), ok1, by rw [len_lsort, List.length_take]; omega, fun a0 a2 a3 a4 a5 a6 a7 a8 a9 a10 a11 sl => ?_⟩
    simp [-zLen_l, ln, h8, h8', e1, sl6, so]
end ZL

namespace ZL
open PySem PySem.Spec PyProof.Rows L2 Z
theorem turnA_behind {xs : List Itm} {gs rs : List Int} {p j : Nat} (h : ∀ i ∈ places Itm.isJ xs, holdsB xs i p = false) : turnA xs gs rs p j = none ∨ turnA xs gs rs p j = some 0 := by
  unfold turnA
  rw [show (64 : Nat) = 63 + 1 from rfl]
  unfold turnU
  split
  · exact .inr rfl
  · have hw : wants xs gs rs (fillA xs gs rs []) p (topF xs) = [] := by
      rw [List.eq_nil_iff_forall_not_mem]
      intro m hm
      obtain ⟨i, r, h1, _, h3, _⟩ := mem_wants.mp hm
      rw [h i (List.of_mem_zip h1).1] at h3
      cases h3
    rw [hw]
    exact .inl rfl
/-- what a turn of the law has drawn -/
theorem b_behind {xs : List Itm} {n : Nat} (h : Frm xs n) (hn : 0 < n) {gs rs : List Int} {p : Nat} {q : Stq} {d0 d1 d2 d3 d4 d6 d7 d11 d12 d13 d14 d15 d16 d17 : Option D} :
    Sat (fun o => ∃ d17, o = .nx [d0, d1, d2, d3, d4, some (.p (sk xs)), d6, d7, some (.p (.int (p : Int))), some (.p (.list (pnats (places Itm.isJ xs)))), some (.p (.list (numP xs gs rs p))), d11, d12, d13, d14, d15, d16, d17, none, none, none, none] (St q))
      (((sset 17 (zs zMax (zcons (zcomp frzl [18] (zitems (zv 9)) (tgN 18) ztyes (zs zMax (zcons (zv 18) (zcons (z2 zIx (z2 zIx (zv 5) (zv 18)) (zk (.int 1))) znil)))) znil))) [d0, d1, d2, d3, d4, some (.p (sk xs)), d6, d7, some (.p (.int (p : Int))), some (.p (.list (pnats (places Itm.isJ xs)))), some (.p (.list (numP xs gs rs p))), d11, d12, d13, d14, d15, d16, d17, none, none, none, none] (St q)).seq
        (sif (ztand (zt (z2 zGt (zv 8) (zv 17))) (zt (z2 zNe (zcomp frzl [19] (zitems (zv 10)) (tgN 19) (zt (z2 zNotIn (zv 19) (zs mkTup (zcons (zk (.int 0)) (zcons (zk .none) znil))))) (zv 19)) (zs mkLstF znil)))) (sret (zk (.bool false))) sskip)) := by
  refine sat_any fun Φ hΦ => ?_
  have hx := h.2.1
  have hpl := len_places Itm.isJ xs
  have itj : ∀ Q, itemsOf (.p (.list (pnats (places Itm.isJ xs)))) Q = .ok ((places Itm.isJ xs).map fun j : Nat => D.p (.int (j : Int))) Q := fun Q => by rw [itemsOf_l, dp_pnats]
  obtain ⟨H, hH⟩ : ∃ H : List Int, H = (places Itm.isJ xs).map fun j => (highA xs j : Int) := ⟨_, rfl⟩
  have hHn : H ≠ [] := fun e => by
    have : H.length = n := by rw [hH, List.length_map, h.2.2]
    rw [e] at this
    simp at this
    omega
  obtain ⟨mx, hmx, emx⟩ := max_list hHn
  have hge : ∀ j ∈ places Itm.isJ xs, (highA xs j : Int) ≤ mx := by
    have : ∀ w ∈ H, w ≤ mx := by
      cases H with
      | nil => exact absurd rfl hHn
      | cons a l =>
        obtain ⟨f1, f2, _⟩ := fold_max l a
        have e1 := emx []
        unfold zMax at e1
        simp only [lstv_p, ints_of] at e1
        have e2 : l.foldl max a = mx := by
          injection e1 with e1
          injection e1 with e1
          injection e1
        intro w hw
        rw [← e2]
        rcases List.mem_cons.mp hw with rfl | hw
        · exact f1
        · exact f2 w hw
    intro j hj
    exact this _ (by rw [hH]; exact List.mem_map.mpr ⟨j, hj, rfl⟩)
  have co1 : ∀ (Q : Store) a17, compP (tgN 18) ztyes (zs zMax (zcons (zv 18) (zcons (z2 zIx (z2 zIx (zv 5) (zv 18)) (zk (.int 1))) znil))) [d0, d1, d2, d3, d4, some (.p (sk xs)), d6, d7, some (.p (.int (p : Int))), some (.p (.list (pnats (places Itm.isJ xs)))), some (.p (.list (numP xs gs rs p))), d11, d12, d13, d14, d15, d16, a17, none, none, none, none] ((places Itm.isJ xs).map fun j : Nat => D.p (.int (j : Int))) Q = .ok ((pints H).map .p) Q := fun Q a17 => by
    rw [compP_map (M := Q) (fun j : Nat => D.p (.int (j : Int))) (fun _ => true) (fun j => D.p (.int (highA xs j : Int)))]
    · rw [List.filter_eq_self.mpr fun _ _ => rfl, hH, pints, List.map_map, List.map_map]
      rfl
    · intro j hj
      refine ⟨_, rfl, rfl, fun _ => ?_⟩
      have jx : ∀ M, zIx (.p (sk xs)) (.p (.int (j : Int))) M = .ok (.p (.tuple [.str "jump", .int (goal xs j : Int), .int (shortOf xs j), .int (longOf xs j)])) M := fun M => ix_sk M (jmp_at hj)
      have eM : ∀ M, zMax [.p (.int (j : Int)), .p (.int (goal xs j : Int))] M = .ok (.p (.int (highA xs j : Int))) M := fun M => by
        rw [zMax_2, show max (j : Int) (goal xs j) = (highA xs j : Int) by unfold highA; omega]
      simp [-zMax_2, jx, eM]
  have hHl : H.length ≤ 60 := by rw [hH, List.length_map]; omega
  have fz1 : ∀ Q, frzl ((pints H).map .p) Q = .ok (.p (.list (pints H))) Q := fun Q => by rw [frzl_map, if_pos (by simp [pints]; omega)]
  obtain ⟨pj, hpj⟩ : ∃ pj, pj = pnats (places Itm.isJ xs) := ⟨_, rfl⟩
  obtain ⟨ph, hph⟩ : ∃ pj, pj = pints H := ⟨_, rfl⟩
  obtain ⟨np, hnp⟩ : ∃ np, np = numP xs gs rs p := ⟨_, rfl⟩
  obtain ⟨sx, hsx⟩ : ∃ sx, sx = sk xs := ⟨_, rfl⟩
  rw [← hpj] at itj co1 ⊢
  rw [← hph] at co1 fz1 emx
  rw [← hnp] at co1 ⊢
  rw [← hsx] at co1 ⊢
  by_cases hp : mx < (p : Int)
  · have hold : ∀ i ∈ places Itm.isJ xs, holdsB xs i p = false := fun i hi => by
      have := hge i hi
      unfold holdsB
      rw [decide_eq_false_iff_not]
      omega
    have itn : ∀ Q, itemsOf (.p (.list np)) Q = .ok ((places Itm.isJ xs).map fun j => D.p (optP (turnA xs gs rs p j))) Q := fun Q => by rw [hnp, itemsOf_l, numP, List.map_map]; rfl
    have co2 : ∀ (Q : Store) a17, compP (tgN 19) (zt (z2 zNotIn (zv 19) (zs mkTup (zcons (zk (.int 0)) (zcons (zk .none) znil))))) (zv 19) [d0, d1, d2, d3, d4, some (.p sx), d6, d7, some (.p (.int (p : Int))), some (.p (.list pj)), some (.p (.list np)), d11, d12, d13, d14, d15, d16, a17, none, none, none, none] ((places Itm.isJ xs).map fun j => D.p (optP (turnA xs gs rs p j))) Q = .ok [] Q := fun Q a17 => by
      rw [compP_map (M := Q) (fun j : Nat => D.p (optP (turnA xs gs rs p j))) (fun _ => false) (fun j => D.p (optP (turnA xs gs rs p j)))]
      · rw [List.filter_eq_nil_iff.mpr fun _ _ => by simp]
        rfl
      · intro j hj
        refine ⟨_, rfl, ?_, fun z => by cases z⟩
        have t : ∀ M, zNotIn (.p (optP (turnA xs gs rs p j))) (.p (.tuple [.int 0, .none])) M = .ok (.p (.bool false)) M := fun M => by
          rcases turnA_behind (gs := gs) (rs := rs) (j := j) hold with e | e
          · rw [e]; rfl
          · rw [e]; rfl
        simp [mkTup, t]
    have fz0 : ∀ Q, frzl [] Q = .ok (.p (.list [])) Q := fun Q => rfl
    have n0 : ∀ M, zNe (.p (.list [])) (.p (.list [])) M = .ok (.p (.bool false)) M := fun M => ne_nil_l (xs := []) (fun x hx => by cases hx) M
    simp [-frzl_map, -List.map_map, -itemsOf_l, itj, wipeS, co1, fz1, emx, hp, itn, co2, fz0, mkLstF, n0]
    exact hΦ _ ⟨some (.p (.int mx)), by rw [hsx, hpj, hnp]⟩
  · simp [-frzl_map, -List.map_map, -itemsOf_l, itj, wipeS, co1, fz1, emx, hp]
    exact hΦ _ ⟨some (.p (.int mx)), by rw [hsx, hpj, hnp]⟩
end ZL

namespace ZL
open PySem PySem.Spec PyProof.Rows L2 Z
theorem num_map (xs : List Itm) (gs rs : List Int) (p : Nat) : numP xs gs rs p = ((places Itm.isJ xs).map (turnA xs gs rs p)).map optP := by
  unfold numP
  rw [List.map_map]
  rfl
theorem known_pos {xs : List Itm} {n : Nat} (h : Frm xs n) (hgl : GL xs) (hst : trips xs = []) {gs rs : List Int} (hr : rs.length = (places Itm.isJ xs).length) {p : Nat} (hp : p < gs.length) : ∀ v ∈ known ((places Itm.isJ xs).map (turnA xs gs rs p)), 0 ≤ v := fun v hv => by
  unfold known at hv
  obtain ⟨o, ho, e⟩ := List.mem_filterMap.mp hv
  obtain ⟨j, hj, rfl⟩ := List.mem_map.mp ho
  have sp := turnA_spec h hgl hst hr hp j
  have e' : turnA xs gs rs p j = some v := e
  rw [e'] at sp
  exact sp.1
theorem known_len (ns : List (Option Int)) : (known ns).length ≤ ns.length := List.length_filterMap_le _ _
theorem comp_pos (K : List Int) (Q : Store) (sl : Sl) (hs : sl.length = 22) : compP (tgN 19) (zt (z2 zGt (zv 19) (zk (.int 0)))) (z2 zSub (zv 19) (zk (.int 1))) sl ((pints K).map .p) Q = .ok ((pints ((K.filter fun v => decide (0 < v)).map fun v => v - 1)).map .p) Q := by
  have hg : ∀ d, (sl.set 19 (some d))[19]? = some (some d) := fun d => List.getElem?_set_self (by omega)
  have hz : ∀ d, zv 19 (sl.set 19 (some d)) Q = .ok d Q := fun d => by
    unfold zv
    simp only [hg]
  rw [pints, List.map_map]
  rw [compP_map (M := Q) (D.p ∘ PyData.int) (fun v => decide (0 < v)) (fun v => D.p (.int (v - 1)))]
  · rw [pints, List.map_map, List.map_map]
    rfl
  · intro v _
    have := hz (.p (.int v))
    refine ⟨sl.set 19 (some (.p (.int v))), rfl, ?_, fun _ => ?_⟩
    · simp only [zt_e, z2_e, this, Out.bind_ok, zk_e]
      simp [zGt]
    · simp only [z2_e, this, Out.bind_ok, zk_e, zSub_i]
end ZL

namespace ZL
open PySem PySem.Spec PyProof.Rows L2 Z
theorem b_law2 {q : Stq} (hq : q.ok) {t : Nat} (ht : t < 4) {d0 d3 d4 d5 d6 d7 d8 d9 d10 d11 d12 d13 d14 d15 d16 d17 : Option D} : Sat (fun o => ∃ q' d3 d4 d5 d6 d7 d8 d9 d10 d11 d12 d13 d14 d15 d16 d17, o = .nx [d0, some (.ref 1), some (.p (.int (t : Int))), d3, d4, d5, d6, d7, d8, d9, d10, d11, d12, d13, d14, d15, d16, d17, none, none, none, none] (St q') ∧ q'.ok)
    (L_law_2 [d0, some (.ref 1), some (.p (.int (t : Int))), d3, d4, d5, d6, d7, d8, d9, d10, d11, d12, d13, d14, d15, d16, d17, none, none, none, none] (St q)) := by
  refine sat_any fun Φ hΦ => ?_
  obtain ⟨k0, q1, hk0, ok1, e1⟩ := e_drawZ q hq [] (z := 2) (n := 2) rfl (by decide) (by decide)
  obtain ⟨f5, hf5⟩ : ∃ f5 : Int, f5 = 5 + (k0 : Int) := ⟨_, rfl⟩
  obtain ⟨a, ha1, ha2, ea⟩ : ∃ a : Nat, 0 < a ∧ a ≤ 6 ∧ ∀ M, zIx (.p (.list [.int 2, .int 3, .int 4, .int f5])) (.p (.int (t : Int))) M = .ok (.p (.int (a : Int))) M := by
    match t, ht with
    | 0, _ => exact ⟨2, by decide, by decide, fun M => rfl⟩
    | 1, _ => exact ⟨3, by decide, by decide, fun M => rfl⟩
    | 2, _ => exact ⟨4, by decide, by decide, fun M => rfl⟩
    | 3, _ => exact ⟨5 + k0, by omega, by omega, fun M => by rw [show f5 = ((5 + k0 : Nat) : Int) by omega]; rfl⟩
  obtain ⟨top, q2, ht1, ht2, ok2, e2⟩ := e_pickI q1 ok1 [] (ns := [2, 8, 64]) (lo := 2) (hi := 64) (by decide) (by decide) (by decide)
  have e2' : F__law_pick [.ref 1, .p (.list [.int 2, .int 8, .int 64])] (St q1 ++ []) = .ok (.p (.int top)) (St q2 ++ []) := e2
  obtain ⟨kf, q3, hkf, ok3, e3⟩ := e_drawZ q2 ok2 [] (z := 4) (n := 4) rfl (by decide) (by decide)
  obtain ⟨kl, q4, hkl, ok4, e4⟩ := e_drawZ q3 ok3 [] (z := 3) (n := 3) rfl (by decide) (by decide)
  obtain ⟨x, q5, ⟨xs0, rfl, hf0, hg0, _⟩, ok5, e5⟩ := e_frameX ok4 [] (j := a) (f := kf) (l := 1 + kl) (top := top) (growth := 9) (by omega) (by omega) ht1 (by decide)
  obtain ⟨x, q6, ⟨xs1, rfl, hf1, hg1, hst1⟩, ok6, e6⟩ := e_calm ok5 [] hf0 hg0
  obtain ⟨ln, hln⟩ : ∃ ln : Int, ln = 1 + (kl : Int) := ⟨_, rfl⟩
  have cl : ((1 + kl : Nat) : Int) = ln := by omega
  rw [cl] at e5
  simp only [List.append_nil] at e1 e2' e3 e4 e5 e6
  -- the skeleton
  obtain ⟨xs, n, q7, hf, hn, hn8, hgl, hst, ok7, e7⟩ : ∃ (xs : List Itm) (n : Nat) (q7 : Stq), Frm xs n ∧ 0 < n ∧ n ≤ 8 ∧ GL xs ∧ trips xs = [] ∧ q7.ok ∧
      ∀ a3 a4 sl, (zif (zt (z2 zEq (zv 2) (zk (.int 2)))) (zs (zfc 2 F__law_rounded) (zcons (zv 1) (zcons (zk (.int 3)) znil))) (zv 5)) (d0 :: some (.ref 1) :: some (.p (.int (t : Int))) :: a3 :: a4 :: some (.p (sk xs1)) :: sl) (St q6) = .ok (.p (sk xs)) (St q7) := by
    by_cases h2 : (t : Int) = 2
    · obtain ⟨x, q7, ⟨ys, rfl, a1, a2, a3, a4, a5⟩, ok7, e7⟩ := e_rounded ok6 []
      simp only [List.append_nil] at e7
      exact ⟨ys, _, q7, a1, a4, by omega, a2, a3, ok7, fun a3 a4 sl => by simp [h2, e7]⟩
    · exact ⟨xs1, a, q6, hf1, ha1, by omega, hg1, hst1, ok6, fun a3 a4 sl => by simp [h2]⟩
  have hx := hf.2.1
  have hpl := len_places Itm.isJ xs
  -- gaps
  obtain ⟨q8, gs0, ok8, hgs0, hgb0, e8⟩ := comp_dr2 (z := 9) (n := 9) rfl (by decide) (by decide) 18 (t : Int) d0 [some (.p (.int (a : Int))), some (.p (.int top)), some (.p (sk xs)), d6, d7, d8, d9, d10, d11, d12, d13, d14, d15, d16, d17, none, none, none, none] (xs.map fun x => D.p x.enc) q7 ok7
  rw [List.length_map] at hgs0
  have fz1 : ∀ Q, frzl ((pints gs0).map .p) Q = .ok (.p (.list (pints gs0))) Q := fun Q => by rw [frzl_map, if_pos (by simp [pints]; omega)]
  have tu1 : ∀ Q, zTuple [.p (.list (pints gs0))] Q = .ok (.p (.tuple (pints gs0))) Q := fun Q => by unfold zTuple; simp
  obtain ⟨gs, hgs⟩ : ∃ gs, gs = gs0 ++ [(0 : Int)] := ⟨_, rfl⟩
  have a1 : ∀ M, zAdd (.p (.tuple (pints gs0))) (.p (.tuple [.int 0])) M = .ok (.p (.tuple (pints gs))) M := fun M => by
    have : gs0.length + 1 ≤ 16777216 := by omega
    rw [hgs]
    simp [zAdd, pints, this]
  have hgp : Gps gs (xs.length + 1) 9 := ⟨by rw [hgs]; simp [hgs0], fun i hi => by
    rw [hgs] at hi
    rcases List.mem_append.mp hi with hi | hi
    · have := hgb0 i hi; omega
    · rw [List.mem_singleton.mp hi]; decide⟩
  have lt := e_law_top (xs := xs) (by omega)
  have htp := top_steps hf.filP
  have htp2 : 0 < topF xs ∧ topF xs ≤ 64 := ⟨htp.1, by
    have := topF_isP _ xs rfl hf.filP
    unfold isP at this
    omega⟩
  -- spans
  obtain ⟨x, q9, ⟨rs0, rfl, hrs0⟩, ok9, e9⟩ := e_spans ok8 [] hf hgl (G := 9) (by decide) (by decide) hgp
  simp only [List.append_nil] at e9
  obtain ⟨q10, rs1, ok10, hrl1, hrb1, e10⟩ := comp_sp htp2 d0 (some (.p (.int (t : Int)))) (some (.p (.int (a : Int)))) (some (.p (sk xs))) (some (.p (.tuple (pints gs)))) d7 d8 d9 d10 d11 d12 d13 d14 d15 d16 d17 none none none rs0 q9 ok9 hrs0.2
  have fz2 : ∀ Q, frzl ((pints rs1).map .p) Q = .ok (.p (.list (pints rs1))) Q := fun Q => by rw [frzl_map, if_pos (by simp [pints]; rw [hrl1, hrs0.1]; omega)]
  have tu2 : ∀ Q, zTuple [.p (.list (pints rs1))] Q = .ok (.p (.tuple (pints rs1))) Q := fun Q => by unfold zTuple; simp
  obtain ⟨rs, q11, hrs, ok11, e11⟩ : ∃ (rs : List Int) (q11 : Stq), rs.length = (places Itm.isJ xs).length ∧ q11.ok ∧
      ∀ a3 a4 sl, (zif (zt (z2 zEq (zv 2) (zk (.int 2)))) (zs (zfc 4 F__law_sharp) (zcons (zv 1) (zcons (zv 5) (zcons (zv 6) (zcons (zk (.int 9)) znil))))) (zv 7)) (d0 :: some (.ref 1) :: some (.p (.int (t : Int))) :: a3 :: a4 :: some (.p (sk xs)) :: some (.p (.tuple (pints gs))) :: some (.p (.tuple (pints rs1))) :: sl) (St q10) = .ok (.p (.tuple (pints rs))) (St q11) := by
    by_cases h2 : (t : Int) = 2
    · obtain ⟨x, q11, ⟨ys, rfl, b1⟩, ok11, e11⟩ := e_sharp ok10 [] hf hn hgl (G := 9) (by decide) (by decide) hgp (far := 9) (fN := 9) rfl (by decide) (by decide)
      simp only [List.append_nil] at e11
      exact ⟨ys, q11, b1.1, ok11, fun a3 a4 sl => by simp [h2, e11]⟩
    · exact ⟨rs1, q10, by rw [hrl1, hrs0.1], ok10, fun a3 a4 sl => by simp [h2]⟩
  obtain ⟨p, q12, hp, ok12, e12⟩ := e_drawZ q11 ok11 [] (z := (gs.length : Int)) (n := gs.length) rfl (by rw [hgp.1]; omega) (by rw [hgp.1]; omega)
  simp only [List.append_nil] at e12
  have lng : ∀ M, zLen [.p (.tuple (pints gs))] M = .ok (.p (.int (gs.length : Int))) M := fun M => by rw [zLen_t, pints_len]
  have lj := e_law_jumps (xs := xs) (by omega)
  have itj : ∀ Q, itemsOf (.p (.list (pnats (places Itm.isJ xs)))) Q = .ok ((places Itm.isJ xs).map fun j : Nat => D.p (.int (j : Int))) Q := fun Q => by rw [itemsOf_l, dp_pnats]
  have cn := fun Q a9 a10 a11 a12 => comp_num hf hst hgp.1 hrs hp Q d0 (some (.ref 1)) (some (.p (.int (t : Int)))) (some (.p (.int (a : Int)))) (some (.p (.int (topF xs)))) a9 a10 a11 a12 d13 d14 d15 d16 d17 none none none
  have hnl : (numP xs gs rs p).length ≤ 60 := by unfold numP; rw [List.length_map]; omega
  have fz3 : ∀ Q, frzl ((numP xs gs rs p).map .p) Q = .ok (.p (.list (numP xs gs rs p))) Q := fun Q => by rw [frzl_map, if_pos (by rw [sizeLine_val]; omega)]
  obtain ⟨K, hK⟩ : ∃ K, K = known ((places Itm.isJ xs).map (turnA xs gs rs p)) := ⟨_, rfl⟩
  have hK0 : ∀ v ∈ K, 0 ≤ v := by rw [hK]; exact known_pos hf hgl hst hrs hp
  have hKl : K.length ≤ 8 := by
    rw [hK]
    have := known_len ((places Itm.isJ xs).map (turnA xs gs rs p))
    rw [List.length_map, hf.2.2] at this
    omega
  have ck : ∀ Q sl, sl.length = 22 → compP (tgN 19) (zt (z2 (zIs true) (zv 19) (zk .none))) (zv 19) sl ((numP xs gs rs p).map .p) Q = .ok ((pints K).map .p) Q := fun Q sl hs => by
    rw [num_map, hK]
    exact comp_known _ Q sl hs
  have itn : ∀ Q, itemsOf (.p (.list (numP xs gs rs p))) Q = .ok ((numP xs gs rs p).map .p) Q := fun Q => rfl
  have fz4 : ∀ Q, frzl ((pints K).map .p) Q = .ok (.p (.list (pints K))) Q := fun Q => by rw [frzl_map, if_pos (by simp [pints]; omega)]
  have itk : ∀ Q, itemsOf (.p (.list (pints K))) Q = .ok ((pints K).map .p) Q := fun Q => rfl
  obtain ⟨K2, hK2⟩ : ∃ K2, K2 = (K.filter fun v => decide (0 < v)).map fun v => v - 1 := ⟨_, rfl⟩
  have hK2l : K2.length ≤ 8 := by
    rw [hK2, List.length_map]
    have := List.length_filter_le (fun v : Int => decide (0 < v)) K
    omega
  have hK20 : ∀ v ∈ K2, 0 ≤ v := fun v hv => by
    rw [hK2] at hv
    obtain ⟨w, hw, rfl⟩ := List.mem_map.mp hv
    have := (List.mem_filter.mp hw).2
    simp at this
    omega
  have cp := fun Q sl hs => comp_pos K Q sl hs
  rw [← hK2] at cp
  have fz5 : ∀ Q, frzl ((pints K2).map .p) Q = .ok (.p (.list (pints K2))) Q := fun Q => by rw [frzl_map, if_pos (by simp [pints]; omega)]
  obtain ⟨A1, hA1⟩ : ∃ A1, A1 = [(0 : Int), 1, 1000000] ++ K := ⟨_, rfl⟩
  obtain ⟨A2, hA2⟩ : ∃ A2, A2 = A1 ++ K2 := ⟨_, rfl⟩
  have ad1 : ∀ M, zAdd (.p (.list [.int 0, .int 1, .int 1000000])) (.p (.list (pints K))) M = .ok (.p (.list (pints A1))) M := fun M => by
    rw [hA1]
    have := add_ps (pints [0, 1, 1000000]) (pints K) (by simp [pints]; omega) M
    rw [← show pints ([(0 : Int), 1, 1000000] ++ K) = pints [0, 1, 1000000] ++ pints K by unfold pints; rw [List.map_append]] at this
    exact this
  have hA1l : A1.length ≤ 11 := by rw [hA1]; simp; omega
  have ad2 : ∀ M, zAdd (.p (.list (pints A1))) (.p (.list (pints K2))) M = .ok (.p (.list (pints A2))) M := fun M => by
    rw [hA2]
    have := add_ps (pints A1) (pints K2) (by simp [pints]; omega) M
    rw [← show pints (A1 ++ K2) = pints A1 ++ pints K2 by unfold pints; rw [List.map_append]] at this
    exact this
  have hA2l : A2.length ≤ 19 := by rw [hA2, List.length_append]; omega
  have ss := sortSet_l (ns := A2) (by omega)
  have p6 : ∀ M, zPow (.p (.int 10)) (.p (.int 6)) M = .ok (.p (.int 1000000)) M := fun M => by
    unfold zPow
    simp only
    rw [if_pos ⟨by decide, by decide, by decide⟩]
    rfl
  obtain ⟨F, q13, hF, hFE, ok13, hFl, e13⟩ := e_six ok12 (E := uns A2) (uns_rise A2) (by have := uns_len A2; omega)
  have hF0 : ∀ m ∈ F, 0 ≤ m := fun m hm => by
    have := (mem_uns m A2).mp (hFE m hm)
    rw [hA2, hA1] at this
    simp at this
    rcases this with h | h | h | h | h <;> first | omega | exact hK0 m h | exact hK20 m h
  have itF : ∀ Q, itemsOf (.p (.list (pints F))) Q = .ok (F.map fun m => D.p (.int m)) Q := fun Q => by rw [itemsOf_l, pints, List.map_map]; rfl
  have bl := fun (m : Int) (hm : 0 ≤ m) (bf : List Nat) (h1 : bf.length ≤ 1000) (h2 : ∀ i ∈ bf, i ∈ dueL xs gs rs p m) (M : Store) a11 a12 a15 a16 a17 => b_law1 hf hn8 hgl hst hgp.1 hrs hp hm h1 h2 M (jn := (a : Int)) (d0 := d0) (d1 := some (.ref 1)) (d2 := some (.p (.int (t : Int)))) (d11 := a11) (d12 := a12) (d15 := a15) (d16 := a16) (d17 := a17) (d18 := none) (d19 := none) (d20 := none) (d21 := none)
  have bb := fun (q : Stq) a6 a7 a11 a12 a13 a14 a15 a16 a17 => b_behind hf hn (gs := gs) (rs := rs) (p := p) (q := q) (d0 := d0) (d1 := some (.ref 1)) (d2 := some (.p (.int (t : Int)))) (d3 := some (.p (.int (a : Int)))) (d4 := some (.p (.int (topF xs)))) (d6 := a6) (d7 := a7) (d11 := a11) (d12 := a12) (d13 := a13) (d14 := a14) (d15 := a15) (d16 := a16) (d17 := a17)
  have tn0 : PyData.tuple [] = tnats [] := rfl
  have hdl : ∀ m, (dueL xs gs rs p m).length ≤ 1000 := fun m => by
    unfold dueL
    have := List.length_filter_le (fun j => isDue (turnA xs gs rs p j) m) (places Itm.isJ xs)
    omega
  obtain ⟨tf, htf⟩ : ∃ x, x = topF xs := ⟨_, rfl⟩
  obtain ⟨s0, hs0⟩ : ∃ x, x = sk xs0 := ⟨_, rfl⟩
  obtain ⟨s1, hs1⟩ : ∃ x, x = sk xs1 := ⟨_, rfl⟩
  obtain ⟨sx, hsx⟩ : ∃ x, x = sk xs := ⟨_, rfl⟩
  obtain ⟨pg0, hpg0⟩ : ∃ x, x = pints gs0 := ⟨_, rfl⟩
  obtain ⟨pg, hpg⟩ : ∃ x, x = pints gs := ⟨_, rfl⟩
  obtain ⟨pr0, hpr0⟩ : ∃ x, x = pints rs0 := ⟨_, rfl⟩
  obtain ⟨pr1, hpr1⟩ : ∃ x, x = pints rs1 := ⟨_, rfl⟩
  obtain ⟨pr, hpr⟩ : ∃ x, x = pints rs := ⟨_, rfl⟩
  obtain ⟨pj, hpj⟩ : ∃ x, x = pnats (places Itm.isJ xs) := ⟨_, rfl⟩
  obtain ⟨np, hnp⟩ : ∃ x, x = numP xs gs rs p := ⟨_, rfl⟩
  obtain ⟨pk, hpk⟩ : ∃ x, x = pints K := ⟨_, rfl⟩
  obtain ⟨pk2, hpk2⟩ : ∃ x, x = pints K2 := ⟨_, rfl⟩
  obtain ⟨pa1, hpa1⟩ : ∃ x, x = pints A1 := ⟨_, rfl⟩
  obtain ⟨pa2, hpa2⟩ : ∃ x, x = pints A2 := ⟨_, rfl⟩
  obtain ⟨pu, hpu⟩ : ∃ x, x = pints (uns A2) := ⟨_, rfl⟩
  obtain ⟨pF, hpF⟩ : ∃ x, x = pints F := ⟨_, rfl⟩
  obtain ⟨gl, hgl'⟩ : ∃ x, x = (gs.length : Int) := ⟨_, rfl⟩
  obtain ⟨xd, hxd⟩ : ∃ xd, xd = xs.map fun x => D.p x.enc := ⟨_, rfl⟩
  have itx : ∀ Q, itemsOf (.p sx) Q = .ok xd Q := fun Q => by rw [hsx, hxd]; exact items_sk xs Q
  have itr0 : ∀ Q, itemsOf (.p (.tuple pr0)) Q = .ok (pr0.map .p) Q := fun Q => rfl
  rw [← hs0] at e5 e6
  rw [← hs1] at e6 e7
  rw [← hsx] at e7 e8 e9 e10 e11 lt lj cn bl bb
  rw [← hxd] at e8
  rw [← hpg0] at e8 fz1 tu1 a1
  rw [← hpg] at a1 e9 e10 e11 lng cn bl
  rw [← hpr0] at e9 e10
  rw [← hpr1] at e10 fz2 tu2 e11
  rw [← hpr] at e11 cn bl
  rw [← hgl'] at e12 lng
  rw [← hpj] at lj itj bl bb
  rw [← hnp] at cn fz3 ck itn bl bb
  rw [← hpk] at ck fz4 itk cp ad1
  rw [← hpk2] at cp fz5 ad2
  rw [← hpa1] at ad1 ad2
  rw [← hpa2] at ad2 ss
  rw [← hpu] at ss e13
  rw [← hpF] at e13 itF
  rw [← htf] at lt cn bl bb e10
  unfold L_law_2
  simp [-zif_e, -sif_e, -List.map_map, -frzl_map, -zTuple_l, -itemsOf_l, -itemsOf_t, -zLen_t, e1, ← hf5, ea, e2', e3, ← hln, e4, e5, e6, e7, mkLstF, mkTup, itx, wipeS, e8, fz1, tu1, a1, lt, e9, itr0, e10, fz2, tu2, e11, lng, e12, lj, itj, cn, fz3, itn, ck, fz4, itk, cp, fz5, p6, ad1, ad2, ss, e13, tn0, itF]
  refine forP_seq _ _ (fun done sl M' => ∃ bf d14 d15 d16, sl = [d0, some (.ref 1), some (.p (.int (t : Int))), some (.p (.int (a : Int))), some (.p (.int tf)), some (.p sx), some (.p (.tuple pg)), some (.p (.tuple pr)), some (.p (.int (p : Int))), some (.p (.list pj)), some (.p (.list np)), some (.p (.list pk)), some (.p (.list pF)), some (.p (tnats bf)), d14, d15, d16, d17, none, none, none, none] ∧ M' = St q13 ∧ bf.length ≤ 1000 ∧ (bf = [] ∨ ∃ m0 ∈ done, bf = dueL xs gs rs p m0))
    ⟨[], d14, d15, d16, rfl, rfl, by simp, .inl rfl⟩ ?_ ?_
  · rintro done m rest sl M' e ⟨bf, d14', d15', d16', rfl, rfl, hbl, hbf⟩
    have hmF : m ∈ F := by rw [e]; simp
    have hpw := hF
    rw [e] at hpw
    have hle := (List.pairwise_append.mp hpw).2.2
    obtain ⟨d15'', d16'', e'⟩ := bl m (hF0 m hmF) bf hbl (fun i hi => by
      rcases hbf with rfl | ⟨m0, hm0, rfl⟩
      · cases hi
      · exact due_mono (hle m0 hm0 m (List.mem_cons_self ..)) i hi) (St q13) (some (.p (.list pk))) (some (.p (.list pF))) d15' d16' d17
    exact ⟨_, rfl, _, _, e', dueL xs gs rs p m, _, d15'', d16'', rfl, rfl, hdl m, .inr ⟨m, by simp, rfl⟩⟩
  · rintro sl M' ⟨bf, d14', d15', d16', rfl, rfl, hbl, hbf⟩
    obtain ⟨d17', e'⟩ := bb q13 (some (.p (.tuple pg))) (some (.p (.tuple pr))) (some (.p (.list pk))) (some (.p (.list pF))) (some (.p (tnats bf))) d14' d15' d16' d17
    rw [sseq_e, e']
    exact hΦ _ ⟨q13, _, _, _, _, _, _, _, _, _, _, _, d14', d15', d16', d17', rfl, ok13⟩
theorem yes_law : Yes F_law 63 := by
  intro ns hn _
  obtain ⟨q, ok, e⟩ := e_stock ns hn
  have main : Sat (fun o => ∃ M, o = .rt (.p (.bool true)) M) (c_law ([D.p (.list (pints ns))].map some ++ List.replicate (22 - 1) none) []) := by
    have r4 : ∀ M, rgo1 4 M = .ok ((List.range 4).map fun p : Nat => D.p (.int (p : Int))) M := fun M => rgo1_nat (b := 4) (by decide) M
    simp [c_law, e, r4]
    refine forP_seq _ _ (fun done sl M' => ∃ q' d2 d3 d4 d5 d6 d7 d8 d9 d10 d11 d12 d13 d14 d15 d16 d17, sl = [some (.p (.list (pints ns))), some (.ref 1), d2, d3, d4, d5, d6, d7, d8, d9, d10, d11, d12, d13, d14, d15, d16, d17, none, none, none, none] ∧ M' = St q' ∧ q'.ok) ⟨q, none, none, none, none, none, none, none, none, none, none, none, none, none, none, none, none, rfl, rfl, ok⟩ ?_ ?_
    · rintro done t rest sl M' et ⟨q', d2, d3, d4, d5, d6, d7, d8, d9, d10, d11, d12, d13, d14, d15, d16, d17, rfl, rfl, ok'⟩
      have ht : t < 4 := List.mem_range.mp (by rw [et]; simp)
      obtain ⟨q2, a3, a4, a5, a6, a7, a8, a9, a10, a11, a12, a13, a14, a15, a16, a17, e2, ok2⟩ := b_law2 ok' ht (d0 := some (.p (.list (pints ns)))) (d3 := d3) (d4 := d4) (d5 := d5) (d6 := d6) (d7 := d7) (d8 := d8) (d9 := d9) (d10 := d10) (d11 := d11) (d12 := d12) (d13 := d13) (d14 := d14) (d15 := d15) (d16 := d16) (d17 := d17)
      exact ⟨_, rfl, _, _, e2, q2, _, a3, a4, a5, a6, a7, a8, a9, a10, a11, a12, a13, a14, a15, a16, a17, rfl, rfl, ok2⟩
    · rintro sl M' ⟨q', d2, d3, d4, d5, d6, d7, d8, d9, d10, d11, d12, d13, d14, d15, d16, d17, rfl, rfl, ok'⟩
      simp [Sat]
  obtain ⟨M, hM⟩ := main
  exact ⟨_, fn_rt hM⟩
end ZL

open PySem PySem.W PyProof.Rows in
set_option maxHeartbeats 0 in
theorem PySem.Challenge.cw_longernearer_k52_whole_long_jumps_that_s_holds : PySem.Challenge.rw_longernearer_k52_whole_long_jumps_that_s.Holds := by
  w_on; o_law; k_head; (case hw => w_witness2)
  k_fill
  refine Z.walkZ (l := PySem.Challenge.rw_longernearer_k52_whole_long_jumps_that_s) (n := 63) (k := 7) (x := "script") (F := ZL.F_law) rfl (by decide) rfl ⟨rfl, by decide, by decide⟩ (fun w h Y => PySem.W.kIn_of Y) ?F ZL.yes_law
  case F =>
    intro w mg fa h KX G hmg
    refine' ZL.all_mk KX G hmg ?z_abs ?z_all ?z_any ?z_enumerate ?z_int ?z_len ?z_list ?z_max ?z_min ?z_range ?z_repr ?z_set ?z_sorted ?z_sum ?z_tuple ?z_zip ?aC_Loose ?kC_Loose ?eC_Loose ?tC_Loose ?hC_Loose ?xC_Loose ?sa_Loose ?ga_Loose ?gg_Loose ?nb_Loose ?ve_Loose ?op_Loose ?su_Loose ?xL_Loose ?iL_Loose ?hq_Loose ?i1_Loose ?t1_Loose ?l1_Loose ?c1_Loose ?l2_Loose ?v2_Loose ?hf_Loose ?l3_Loose ?ht_Loose ?aC_NoLeast ?kC_NoLeast ?eC_NoLeast ?tC_NoLeast ?hC_NoLeast ?xC_NoLeast ?sa_NoLeast ?ga_NoLeast ?gg_NoLeast ?nb_NoLeast ?ve_NoLeast ?op_NoLeast ?su_NoLeast ?xL_NoLeast ?iL_NoLeast ?hq_NoLeast ?i1_NoLeast ?t1_NoLeast ?l1_NoLeast ?c1_NoLeast ?l2_NoLeast ?v2_NoLeast ?hf_NoLeast ?l3_NoLeast ?ht_NoLeast ?a0 ?l0 ?c0 ?k0 ?a1 ?l1 ?c1 ?k1 ?a2 ?l2 ?c2 ?k2 ?a3 ?l3 ?c3 ?k3 ?a4 ?l4 ?c4 ?k4 ?a5 ?l5 ?c5 ?k5 ?a6 ?l6 ?c6 ?k6 ?a7 ?l7 ?c7 ?k7 ?a8 ?l8 ?c8 ?k8 ?a9 ?l9 ?c9 ?k9 ?a10 ?l10 ?c10 ?k10 ?a11 ?l11 ?c11 ?k11 ?a12 ?l12 ?c12 ?k12 ?a13 ?l13 ?c13 ?k13 ?a14 ?l14 ?c14 ?k14 ?a15 ?l15 ?c15 ?k15 ?a16 ?l16 ?c16 ?k16 ?a17 ?l17 ?c17 ?k17 ?a18 ?l18 ?c18 ?k18 ?a19 ?l19 ?c19 ?k19 ?a20 ?l20 ?c20 ?k20 ?a21 ?l21 ?c21 ?k21 ?a22 ?l22 ?c22 ?k22 ?a23 ?l23 ?c23 ?k23 ?a24 ?l24 ?c24 ?k24 ?a25 ?l25 ?c25 ?k25 ?a26 ?l26 ?c26 ?k26 ?a27 ?l27 ?c27 ?k27 ?a28 ?l28 ?c28 ?k28 ?a29 ?l29 ?c29 ?k29 ?a30 ?l30 ?c30 ?k30 ?a31 ?l31 ?c31 ?k31 ?a32 ?l32 ?c32 ?k32 ?a33 ?l33 ?c33 ?k33 ?a34 ?l34 ?c34 ?k34 ?a35 ?l35 ?c35 ?k35 ?a36 ?l36 ?c36 ?k36 ?a37 ?l37 ?c37 ?k37 ?a38 ?l38 ?c38 ?k38 ?a39 ?l39 ?c39 ?k39 ?a40 ?l40 ?c40 ?k40 ?a41 ?l41 ?c41 ?k41 ?a42 ?l42 ?c42 ?k42
    (case z_abs => k_is); (case z_all => k_is); (case z_any => k_is); (case z_enumerate => k_is); (case z_int => k_is); (case z_len => k_is); (case z_list => k_is); (case z_max => k_is)
    (case z_min => k_is); (case z_range => k_is); (case z_repr => k_is); (case z_set => k_is); (case z_sorted => k_is); (case z_sum => k_is); (case z_tuple => k_is); (case z_zip => k_is)
    (case aC_Loose => k_is); (case kC_Loose => k_is); (case eC_Loose => k_is); (case tC_Loose => k_is); (case hC_Loose => k_is); (case xC_Loose => k_is); (case sa_Loose => k_is); (case ga_Loose => k_is)
    (case gg_Loose => k_is); (case nb_Loose => k_is); (case ve_Loose => k_is); (case op_Loose => k_is); (case su_Loose => k_is); (case xL_Loose => k_is); (case iL_Loose => k_is); (case hq_Loose => rfl)
    (case i1_Loose => k_is); (case t1_Loose => k_is); (case l1_Loose => k_is); (case c1_Loose => k_is); (case l2_Loose => k_is); (case v2_Loose => exact rfl); (case hf_Loose => decide +kernel); (case l3_Loose => k_is)
    (case ht_Loose => decide +kernel); (case aC_NoLeast => k_is); (case kC_NoLeast => k_is); (case eC_NoLeast => k_is); (case tC_NoLeast => k_is); (case hC_NoLeast => k_is); (case xC_NoLeast => k_is); (case sa_NoLeast => k_is)
    (case ga_NoLeast => k_is); (case gg_NoLeast => k_is); (case nb_NoLeast => k_is); (case ve_NoLeast => k_is); (case op_NoLeast => k_is); (case su_NoLeast => k_is); (case xL_NoLeast => k_is); (case iL_NoLeast => k_is)
    (case hq_NoLeast => rfl); (case i1_NoLeast => k_is); (case t1_NoLeast => k_is); (case l1_NoLeast => k_is); (case c1_NoLeast => k_is); (case l2_NoLeast => k_is); (case v2_NoLeast => exact rfl); (case hf_NoLeast => decide +kernel)
    (case l3_NoLeast => k_is); (case ht_NoLeast => decide +kernel); (case a0 => k_is); (case l0 => k_is); (case c0 => k_is); (case k0 => k_is); (case a1 => k_is); (case l1 => k_is)
    (case c1 => k_is); (case k1 => k_is); (case a2 => k_is); (case l2 => k_is); (case c2 => k_is); (case k2 => k_is); (case a3 => k_is); (case l3 => k_is)
    (case c3 => k_is); (case k3 => k_is); (case a4 => k_is); (case l4 => k_is); (case c4 => k_is); (case k4 => k_is); (case a5 => k_is); (case l5 => k_is)
    (case c5 => k_is); (case k5 => k_is); (case a6 => k_is); (case l6 => k_is); (case c6 => k_is); (case k6 => k_is); (case a7 => k_is); (case l7 => k_is)
    (case c7 => k_is); (case k7 => k_is); (case a8 => k_is); (case l8 => k_is); (case c8 => k_is); (case k8 => k_is); (case a9 => k_is); (case l9 => k_is)
    (case c9 => k_is); (case k9 => k_is); (case a10 => k_is); (case l10 => k_is); (case c10 => k_is); (case k10 => k_is); (case a11 => k_is); (case l11 => k_is)
    (case c11 => k_is); (case k11 => k_is); (case a12 => k_is); (case l12 => k_is); (case c12 => k_is); (case k12 => k_is); (case a13 => k_is); (case l13 => k_is)
    (case c13 => k_is); (case k13 => k_is); (case a14 => k_is); (case l14 => k_is); (case c14 => k_is); (case k14 => k_is); (case a15 => k_is); (case l15 => k_is)
    (case c15 => k_is); (case k15 => k_is); (case a16 => k_is); (case l16 => k_is); (case c16 => k_is); (case k16 => k_is); (case a17 => k_is); (case l17 => k_is)
    (case c17 => k_is); (case k17 => k_is); (case a18 => k_is); (case l18 => k_is); (case c18 => k_is); (case k18 => k_is); (case a19 => k_is); (case l19 => k_is)
    (case c19 => k_is); (case k19 => k_is); (case a20 => k_is); (case l20 => k_is); (case c20 => k_is); (case k20 => k_is); (case a21 => k_is); (case l21 => k_is)
    (case c21 => k_is); (case k21 => k_is); (case a22 => k_is); (case l22 => k_is); (case c22 => k_is); (case k22 => k_is); (case a23 => k_is); (case l23 => k_is)
    (case c23 => k_is); (case k23 => k_is); (case a24 => k_is); (case l24 => k_is); (case c24 => k_is); (case k24 => k_is); (case a25 => k_is); (case l25 => k_is)
    (case c25 => k_is); (case k25 => k_is); (case a26 => k_is); (case l26 => k_is); (case c26 => k_is); (case k26 => k_is); (case a27 => k_is); (case l27 => k_is)
    (case c27 => k_is); (case k27 => k_is); (case a28 => k_is); (case l28 => k_is); (case c28 => k_is); (case k28 => k_is); (case a29 => k_is); (case l29 => k_is)
    (case c29 => k_is); (case k29 => k_is); (case a30 => k_is); (case l30 => k_is); (case c30 => k_is); (case k30 => k_is); (case a31 => k_is); (case l31 => k_is)
    (case c31 => k_is); (case k31 => k_is); (case a32 => k_is); (case l32 => k_is); (case c32 => k_is); (case k32 => k_is); (case a33 => k_is); (case l33 => k_is)
    (case c33 => k_is); (case k33 => k_is); (case a34 => k_is); (case l34 => k_is); (case c34 => k_is); (case k34 => k_is); (case a35 => k_is); (case l35 => k_is)
    (case c35 => k_is); (case k35 => k_is); (case a36 => k_is); (case l36 => k_is); (case c36 => k_is); (case k36 => k_is); (case a37 => k_is); (case l37 => k_is)
    (case c37 => k_is); (case k37 => k_is); (case a38 => k_is); (case l38 => k_is); (case c38 => k_is); (case k38 => k_is); (case a39 => k_is); (case l39 => k_is)
    (case c39 => k_is); (case k39 => k_is); (case a40 => k_is); (case l40 => k_is); (case c40 => k_is); (case k40 => k_is); (case a41 => k_is); (case l41 => k_is)
    (case c41 => k_is); (case k41 => k_is); (case a42 => k_is); (case l42 => k_is); (case c42 => k_is); (case k42 => k_is)
