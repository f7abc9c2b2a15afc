import PyProof.Rows.All
import Wide.All
import OpenK.AllK
import Wide.FinOn
import HandS.ForMost
import HandS.Exc
import HandS.EndBits
import HandS.Deep
import HandS.Zip
import HandS.Walk
import HandS.TupAny
import HandS.TupLe
import HandS.Conv
import HandS.IsInst
import HandS.Wide
import KE.SortData
import PyProof.ReprReads
import HandS.Star
import KE.DatumOrd
import KE.GoesEnum
import PyProof.ReprRoads
import HandS.RaiseMore
import HandS.Style
import KE.Datum
import PyProof.P3Eq
import HandS.Small
import HandS.Dict
import KE.KDictZip
import HandS.SetFor
import HandS.Strs
import HandS.TupMul
import HandS.TupSets
import HandS.More
import HandS.NoneIn
import HandS.DictComp
import PySem.Challenge.RW_longernearer_k42_whole_what_ways_hang_on
set_option Elab.async false
set_option linter.all false
set_option maxRecDepth 100000
set_option maxHeartbeats 4000000
/-! Z: a small functional semantics over the hand layer. -/
namespace Z
open PySem PySem.Spec PyProof.Rows L2

/-! ### values, objects, outcomes -/
abbrev P := PyData
inductive D where
  | p (x : P)
  | ref (i : Nat)
inductive Ob where
  | lst (xs : List D)
  | frz (xs : List P)
  | dic (kvs : List (Key × D))
  | dit (kvs : List (List Key × D))
  | fdc (kvs : List (P × P))
abbrev Store := List Ob
abbrev Sl := List (Option D)
structure Ex where
  cls : Str
  arg : Option (Str × P)
inductive Out (α : Type) where
  | stuck
  | ok (a : α) (M : Store)
  | exc (e : Ex) (M : Store)
def Out.bind {α β : Type} : Out α → (α → Store → Out β) → Out β
  | .ok a M, k => k a M
  | .stuck, _ => .stuck
  | .exc e M, _ => .exc e M
@[simp] theorem Out.bind_ok {α β : Type} (a : α) (M : Store) (k : α → Store → Out β) : (Out.ok a M).bind k = k a M := id rfl
@[simp] theorem Out.bind_stuck {α β : Type} (k : α → Store → Out β) : (Out.stuck : Out α).bind k = .stuck := id rfl
@[simp] theorem Out.bind_exc {α β : Type} (e : Ex) (M : Store) (k : α → Store → Out β) : (Out.exc e M : Out α).bind k = .exc e M := id rfl

def D.low (i : Nat) : D → Bool
  | .p _ => true
  | .ref j => decide (j < i)
def Ob.low (i : Nat) : Ob → Bool
  | .lst xs => xs.all (D.low i)
  | .frz _ => true
  | .dic kvs => kvs.all fun kv => kv.2.low i
  | .dit kvs => kvs.all fun kv => kv.2.low i
  | .fdc _ => true
theorem D.low_mono {i j : Nat} (h : i ≤ j) : ∀ {d : D}, d.low i = true → d.low j = true
  | .p _, _ => rfl
  | .ref k, e => by
    have : k < i := of_decide_eq_true e
    exact decide_eq_true (by omega)
/-- all items are pure -/
def pures : List D → Option (List P)
  | [] => some []
  | .p x :: r => (pures r).map (x :: ·)
  | .ref _ :: _ => none
@[simp] theorem pures_nil : pures [] = some [] := id rfl
@[simp] theorem pures_map : ∀ xs : List P, pures (xs.map .p) = some xs
  | [] => rfl
  | x :: r => by rw [List.map_cons, pures, pures_map r]; rfl
theorem pures_eq : ∀ {ds : List D} {xs : List P}, pures ds = some xs → ds = xs.map .p
  | [], xs, h => by cases h; rfl
  | .p x :: r, xs, h => by
    unfold pures at h
    cases q : pures r with
    | none => rw [q] at h; cases h
    | some ys => rw [q] at h; cases h; rw [pures_eq q]; rfl
  | .ref _ :: _, _, h => by cases h

def kP : Key → P
  | .inl i => .int i
  | .inr x => .str x
/-! ### how they stand in the abstract heap -/
def Fro : HO → Prop
  | .tup _ => True
  | .frz _ _ => True
  | _ => False
section
variable (K : PySem.W.Frag)
def FzL (H : Hp) (a : Addr) (xs : List V) : Prop :=
  (∃ o, H a = some (.frz o (.lst xs))) ∨
    ∃ (its : List Value) (n : Nat), K.lookup a = some { cls := .type "list", data := .seq its.toArray n } ∧ its.length ≤ sizeLine ∧ Vals xs its
/-- a list, frozen or not -/
def SqX (H : Hp) (a : Addr) (xs : List V) : Prop := H a = some (.lst xs) ∨ FzL K H a xs
mutual
inductive Fz (H : Hp) : V → P → Prop
  | non : Fz H .non .none
  | bl (b : Bool) : Fz H (.bl b) (.bool b)
  | int (i : Int) : Fz H (.int i) (.int i)
  | str (x : Str) : Fz H (.str x) (.str x)
  | lst {a : Addr} {xs : List V} {ds : List P} : FzL K H a xs → FzAll H xs ds → Fz H (.ref a) (.list ds)
  | tup {a : Addr} {xs : List V} {ds : List P} : SqT K H a xs → FzAll H xs ds → Fz H (.ref a) (.tuple ds)
  | dct {a : Addr} {o : Obj} {us : List (Key × V)} {ds : List (P × P)} : H a = some (.frz o (.dK us)) → ds.map Prod.fst = us.map (fun u => kP u.1) → FzAll H (us.map Prod.snd) (ds.map Prod.snd) → Fz H (.ref a) (.dict ds)
inductive FzAll (H : Hp) : List V → List P → Prop
  | nil : FzAll H [] []
  | cons {v : V} {vs : List V} {d : P} {ds : List P} : Fz H v d → FzAll H vs ds → FzAll H (v :: vs) (d :: ds)
end
def Dr (θ : List Addr) (H : Hp) (v : V) : D → Prop
  | .p x => Fz K H v x
  | .ref i => ∃ a, θ[i]? = some a ∧ v = .ref a
def Drs (θ : List Addr) (H : Hp) : List V → List D → Prop := Paired (Dr K θ H)
def ObOk (θ : List Addr) (H : Hp) (a : Addr) : Ob → Prop
  | .lst ds => ∃ vs, H a = some (.lst vs) ∧ Drs K θ H vs ds
  | .frz xs => ∃ vs o, H a = some (.frz o (.lst vs)) ∧ FzAll K H vs xs
  | .dic kvs => ∃ us, H a = some (.dK us) ∧ Paired (fun (p : Key × V) (q : Key × D) => p.1 = q.1 ∧ Dr K θ H p.2 q.2) us kvs
  | .fdc ds => ∃ us o, H a = some (.frz o (.dK us)) ∧ ds.map Prod.fst = us.map (fun u => kP u.1) ∧ FzAll K H (us.map Prod.snd) (ds.map Prod.snd)
  | .dit kvs => ∃ us, H a = some (.dT us) ∧ Paired (fun (p : List Key × V) (q : List Key × D) => p.1 = q.1 ∧ Dr K θ H p.2 q.2) us kvs
structure SR (θ : List Addr) (H : Hp) (M : Store) : Prop where
  len : θ.length = M.length
  nd : θ.Nodup
  ob : ∀ (i : Nat) o a, M[i]? = some o → θ[i]? = some a → ObOk K θ H a o
  low : ∀ (i : Nat) o, M[i]? = some o → o.low i = true
structure SV (θ : List Addr) (H : Hp) (σ : L2.St) (sl : Sl) : Prop where
  len : sl.length = σ.length
  at_ : ∀ (i : Nat) d, sl[i]? = some (some d) → ∃ v, σ[i]? = some (some v) ∧ Dr K θ H v d
end
structure Go (θ θ' : List Addr) (H H' : Hp) : Prop where
  pre : θ <+: θ'
  fr : ∀ a u, H a = some u → (a ∉ θ ∨ Fro u) → H' a = some u
  fresh : ∀ a, a ∈ θ' → a ∉ θ → H a = none

theorem Go.refl {θ : List Addr} {H : Hp} : Go θ θ H H := ⟨List.prefix_refl _, fun _ _ h _ => h, fun _ h n => absurd h n⟩
theorem Go.trans {θ θ1 θ2 : List Addr} {H H1 H2 : Hp} (a : Go θ θ1 H H1) (b : Go θ1 θ2 H1 H2) : Go θ θ2 H H2 := by
  refine ⟨a.pre.trans b.pre, fun x u h c => ?_, fun x h n => ?_⟩
  · refine b.fr x u (a.fr x u h c) ?_
    rcases c with c | c
    · by_cases m : x ∈ θ1
      · rw [a.fresh x m c] at h; cases h
      · exact .inl m
    · exact .inr c
  · by_cases m : x ∈ θ1
    · exact a.fresh x m n
    · have e := b.fresh x h m
      cases q : H x with
      | none => rfl
      | some u => rw [a.fr x u q (.inl n)] at e; cases e
/-- frozen things stay -/
def Keep (H H' : Hp) : Prop := ∀ a u, H a = some u → Fro u → H' a = some u
theorem Go.keep {θ θ' : List Addr} {H H' : Hp} (g : Go θ θ' H H') : Keep H H' := fun a u h f => g.fr a u h (.inr f)
theorem Go.at {θ θ' : List Addr} {H H' : Hp} (g : Go θ θ' H H') {i : Nat} {a : Addr} (h : θ[i]? = some a) : θ'[i]? = some a := by
  obtain ⟨t, rfl⟩ := g.pre
  rw [List.getElem?_append_left]
  · exact h
  · exact (List.getElem?_eq_some_iff.mp h).1
section
variable {K : PySem.W.Frag} {θ θ' : List Addr} {H H' : Hp}
theorem FzL.keep {a : Addr} {xs : List V} (k : Keep H H') (h : FzL K H a xs) : FzL K H' a xs := by
  rcases h with ⟨o, h⟩ | h
  · exact .inl ⟨o, k _ _ h trivial⟩
  · exact .inr h
theorem SqT.keep {a : Addr} {xs : List V} (k : Keep H H') (h : SqT K H a xs) : SqT K H' a xs := by
  rcases h with (h | ⟨o, h⟩) | h
  · exact .inl (.inl (k _ _ h trivial))
  · exact .inl (.inr ⟨o, k _ _ h trivial⟩)
  · exact .inr h
mutual
theorem Fz.keep (k : Keep H H') : ∀ {v : V} {d : P}, Fz K H v d → Fz K H' v d
  | _, _, .non => .non
  | _, _, .bl b => .bl b
  | _, _, .int i => .int i
  | _, _, .str x => .str x
  | _, _, .lst h a => .lst (h.keep k) (a.keep k)
  | _, _, .tup h a => .tup (SqT.keep k h) (a.keep k)
  | _, _, .dct h e a => .dct (k _ _ h trivial) e (a.keep k)
theorem FzAll.keep (k : Keep H H') : ∀ {vs : List V} {ds : List P}, FzAll K H vs ds → FzAll K H' vs ds
  | _, _, .nil => .nil
  | _, _, .cons a b => .cons (a.keep k) (b.keep k)
end
theorem FzL.sq {a : Addr} {xs : List V} (h : FzL K H a xs) : SqL K H a xs := by
  rcases h with ⟨o, h⟩ | ⟨its, n, h, l, r⟩
  · exact .inl (.inr ⟨o, h⟩)
  · exact .inr ⟨_, _, n, h, rfl, rfl, rfl, by simpa using l, by simpa using r⟩
theorem SqX.sq {a : Addr} {xs : List V} (h : SqX K H a xs) : SqL K H a xs := h.elim SqL.of fun h => h.sq
theorem SqX.at {X : Cx} {pins : List (Addr × Obj)} {σ : L2.St} {H : Hp} {s : Shared} (I : Inv X pins σ H s) {a : Addr} {xs : List V} (h : SqX X.K H a xs) :
    xs.length ≤ sizeLine ∧ ∃ (its : List Value) (n : Nat), Vals xs its ∧ xs.length = its.length ∧ s.heap.get? a = some { cls := .type "list", data := .seq its.toArray n } := by
  rcases h with h | ⟨o, h⟩ | ⟨its, n, h, l, r⟩
  · exact I.lstM h
  · obtain ⟨_, z, its, n, r, e⟩ := I.hok a _ h
    exact ⟨z, its, n, r, r.length, e⟩
  · exact ⟨by rw [r.length]; exact l, its, n, r, r.length, I.kIn a _ h⟩
mutual
theorem Fz.dp : ∀ {v : V} {d : P}, d.hasDict = false → Fz K H v d → Dp K H v d
  | _, _, _, .non => .non
  | _, _, _, .bl b => .bl b
  | _, _, _, .int i => .int i
  | _, _, _, .str x => .str x
  | _, _, c, .lst h a => .lst h.sq (FzAll.dp (by simpa [PyData.hasDict] using c) a)
  | _, _, c, .tup h a => .tup h (FzAll.dp (by simpa [PyData.hasDict] using c) a)
  | _, _, c, .dct _ _ _ => by simp [PyData.hasDict] at c
theorem FzAll.dp : ∀ {vs : List V} {ds : List P}, PyData.hasDictAll ds = false → FzAll K H vs ds → DpAll K H vs ds
  | _, _, _, .nil => .nil
  | _, d :: ds, c, .cons a b => by
    have c' : (d.hasDict || PyData.hasDictAll ds) = false := by simpa [PyData.hasDictAll] using c
    rw [Bool.or_eq_false_iff] at c'
    exact .cons (Fz.dp c'.1 a) (FzAll.dp c'.2 b)
end
/-- data that may stand in lists of the store -/
inductive Dz (K : PySem.W.Frag) (H : Hp) : V → P → Prop
  | fz {v : V} {d : P} : Fz K H v d → Dz K H v d
  | lst {a : Addr} {xs : List V} {ds : List P} : SqL K H a xs → Paired (Dz K H) xs ds → Dz K H (.ref a) (.list ds)
theorem FzAll.paired : ∀ {vs : List V} {ds : List P}, FzAll K H vs ds → Paired (Fz K H) vs ds
  | _, _, .nil => .nil
  | _, _, .cons a b => .cons a b.paired
theorem FzAll.of : ∀ {vs : List V} {ds : List P}, Paired (Fz K H) vs ds → FzAll K H vs ds
  | _, _, .nil => .nil
  | _, _, .cons a b => .cons a (FzAll.of b)
theorem FzAll.length {vs : List V} {ds : List P} (h : FzAll K H vs ds) : vs.length = ds.length := Paired.length h.paired
theorem FzAll.drs : ∀ {vs : List V} {ds : List P}, FzAll K H vs ds → Drs K θ H vs (ds.map .p)
  | _, _, .nil => .nil
  | _, _, .cons a b => .cons a b.drs
theorem FzAll.ofDrs : ∀ {vs : List V} {ds : List P}, Drs K θ H vs (ds.map .p) → FzAll K H vs ds
  | _, [], h => by cases h; exact .nil
  | _, d :: ds, h => by cases h with | cons a b => exact .cons a (FzAll.ofDrs b)
theorem paired_at {α β : Type} {R : α → β → Prop} : ∀ {l : List α} {m : List β}, Paired R l m → ∀ {i : Nat} {b : β}, m[i]? = some b → ∃ a, l[i]? = some a ∧ R a b
  | _, _, .nil, i, b, e => by simp at e
  | _, _, .cons r t, 0, b, e => by simp at e; subst e; exact ⟨_, rfl, r⟩
  | _, _, .cons r t, i + 1, b, e => by
    obtain ⟨a, h1, h2⟩ := paired_at t (i := i) (b := b) (by simpa using e)
    exact ⟨a, by simpa using h1, h2⟩
theorem paired_at' {α β : Type} {R : α → β → Prop} : ∀ {l : List α} {m : List β}, Paired R l m → ∀ {i : Nat} {a : α}, l[i]? = some a → ∃ b, m[i]? = some b ∧ R a b
  | _, _, .nil, i, b, e => by simp at e
  | _, _, .cons r t, 0, b, e => by simp at e; subst e; exact ⟨_, rfl, r⟩
  | _, _, .cons r t, i + 1, b, e => by
    obtain ⟨a, h1, h2⟩ := paired_at' t (i := i) (a := b) (by simpa using e)
    exact ⟨a, by simpa using h1, h2⟩
theorem paired_append {α β : Type} {R : α → β → Prop} : ∀ {l l' : List α} {m m' : List β}, Paired R l m → Paired R l' m' → Paired R (l ++ l') (m ++ m')
  | _, _, _, _, .nil, h => h
  | _, _, _, _, .cons a b, h => .cons a (paired_append b h)
theorem paired_imp {α β : Type} {R R' : α → β → Prop} (f : ∀ a b, R a b → R' a b) : ∀ {l : List α} {m : List β}, Paired R l m → Paired R' l m
  | _, _, .nil => .nil
  | _, _, .cons a b => .cons (f _ _ a) (paired_imp f b)
theorem paired_take {α β : Type} {R : α → β → Prop} : ∀ (n : Nat) {l : List α} {m : List β}, Paired R l m → Paired R (l.take n) (m.take n)
  | 0, _, _, _ => .nil
  | _ + 1, _, _, .nil => .nil
  | n + 1, _, _, .cons a b => .cons a (paired_take n b)
theorem paired_drop {α β : Type} {R : α → β → Prop} : ∀ (n : Nat) {l : List α} {m : List β}, Paired R l m → Paired R (l.drop n) (m.drop n)
  | 0, _, _, h => h
  | _ + 1, _, _, .nil => .nil
  | n + 1, _, _, .cons a b => paired_drop n b
theorem paired_set {α β : Type} {R : α → β → Prop} {x : α} {y : β} (r : R x y) : ∀ (n : Nat) {l : List α} {m : List β}, Paired R l m → Paired R (l.set n x) (m.set n y)
  | _, _, _, .nil => .nil
  | 0, _, _, .cons a b => .cons r b
  | n + 1, _, _, .cons a b => .cons a (paired_set r n b)
theorem paired_erase {α β : Type} {R : α → β → Prop} : ∀ (n : Nat) {l : List α} {m : List β}, Paired R l m → Paired R (l.eraseIdx n) (m.eraseIdx n)
  | _, _, _, .nil => .nil
  | 0, _, _, .cons a b => b
  | n + 1, _, _, .cons a b => .cons a (paired_erase n b)
theorem paired_reverse {α β : Type} {R : α → β → Prop} : ∀ {l : List α} {m : List β}, Paired R l m → Paired R l.reverse m.reverse
  | _, _, .nil => .nil
  | _, _, .cons a b => by
    rw [List.reverse_cons, List.reverse_cons]
    exact paired_append (paired_reverse b) (.cons a .nil)
theorem Dr.go {v : V} {d : D} (g : Go θ θ' H H') (h : Dr K θ H v d) : Dr K θ' H' v d := by
  cases d with
  | p x => exact Fz.keep g.keep h
  | ref i =>
    obtain ⟨a, e, q⟩ := h
    exact ⟨a, g.at e, q⟩
theorem Drs.go {vs : List V} {ds : List D} (g : Go θ θ' H H') (h : Drs K θ H vs ds) : Drs K θ' H' vs ds := paired_imp (fun _ _ r => Dr.go g r) h
theorem SV.go {σ : L2.St} {sl : Sl} (g : Go θ θ' H H') (h : SV K θ H σ sl) : SV K θ' H' σ sl :=
  ⟨h.len, fun i d e => let ⟨v, e', r⟩ := h.at_ i d e; ⟨v, e', r.go g⟩⟩
/-- what the store's addresses hold is tracked -/
theorem SR.there {M : Store} (h : SR K θ H M) {i : Nat} {a : Addr} (hi : θ[i]? = some a) : ∃ o u, M[i]? = some o ∧ ObOk K θ H a o ∧ H a = some u := by
  have hl := (List.getElem?_eq_some_iff.mp hi).1
  rw [h.len] at hl
  have k := h.ob i _ a (List.getElem?_eq_getElem hl) hi
  refine ⟨M[i], ?_⟩
  cases q : M[i] with
  | lst ds => rw [q] at k; obtain ⟨_, e, r⟩ := k; exact ⟨_, by rw [List.getElem?_eq_getElem hl, q], ⟨_, e, r⟩, e⟩
  | frz ds => rw [q] at k; obtain ⟨_, _, e, r⟩ := k; exact ⟨_, by rw [List.getElem?_eq_getElem hl, q], ⟨_, _, e, r⟩, e⟩
  | dic ds => rw [q] at k; obtain ⟨_, e, r⟩ := k; exact ⟨_, by rw [List.getElem?_eq_getElem hl, q], ⟨_, e, r⟩, e⟩
  | dit ds => rw [q] at k; obtain ⟨_, e, r⟩ := k; exact ⟨_, by rw [List.getElem?_eq_getElem hl, q], ⟨_, e, r⟩, e⟩
  | fdc ds => rw [q] at k; obtain ⟨_, _, e, r⟩ := k; exact ⟨_, by rw [List.getElem?_eq_getElem hl, q], ⟨_, _, e, r⟩, e⟩
theorem SR.apart {M : Store} (h : SR K θ H M) {p : Addr} (hp : H p = none) : ∀ a ∈ θ, a ≠ p := by
  intro a ha e
  obtain ⟨i, hi⟩ := List.getElem?_of_mem ha
  obtain ⟨_, u, _, _, q⟩ := h.there hi
  rw [e, hp] at q
  cases q
theorem ObOk.carry {θ1 : List Addr} {H1 : Hp} {a : Addr} {o : Ob} (g : ∀ {v : V} {d : D}, Dr K θ H v d → Dr K θ1 H1 v d) (k : Keep H H1) (e : H1 a = H a) (h : ObOk K θ H a o) : ObOk K θ1 H1 a o := by
  cases o with
  | lst ds => obtain ⟨vs, q, r⟩ := h; exact ⟨vs, e.trans q, paired_imp (fun _ _ z => g z) r⟩
  | frz xs => obtain ⟨vs, o, q, r⟩ := h; exact ⟨vs, o, e.trans q, r.keep k⟩
  | dic kvs => obtain ⟨us, q, r⟩ := h; exact ⟨us, e.trans q, paired_imp (fun _ _ z => ⟨z.1, g z.2⟩) r⟩
  | dit kvs => obtain ⟨us, q, r⟩ := h; exact ⟨us, e.trans q, paired_imp (fun _ _ z => ⟨z.1, g z.2⟩) r⟩
  | fdc ds => obtain ⟨us, o, q, r1, r2⟩ := h; exact ⟨us, o, e.trans q, r1, r2.keep k⟩
/-- a fresh address that no object of the store is at -/
theorem Go.out {M : Store} (h : SR K θ H M) {p : Addr} {u : HO} (hp : H p = none) : Go θ θ H (L2.upd H p u) :=
  ⟨List.prefix_refl _, fun a w e _ => by rw [upd_ne (ne_of_none e hp)]; exact e, fun a m n => absurd m n⟩
theorem SR.out {M : Store} (h : SR K θ H M) {p : Addr} {u : HO} (hp : H p = none) : SR K θ (upd H p u) M :=
  ⟨h.len, h.nd, fun i o a e1 e2 => (h.ob i o a e1 e2).carry (fun z => z.go (Go.out h hp)) (Go.out (u := u) h hp).keep (upd_ne (h.apart hp a (List.mem_of_getElem? e2))), h.low⟩
/-- a new object of the store -/
theorem Go.new {M : Store} (h : SR K θ H M) {p : Addr} {u : HO} (hp : H p = none) : Go θ (θ ++ [p]) H (upd H p u) :=
  ⟨List.prefix_append _ _, fun a w e _ => by rw [upd_ne (ne_of_none e hp)]; exact e, fun a m n => by
    rcases List.mem_append.mp m with m | m
    · exact absurd m n
    · rw [List.mem_singleton.mp m]; exact hp⟩
theorem SR.new {M : Store} {p : Addr} {u : HO} {o : Ob} (h : SR K θ H M) (hp : H p = none) (ok : ObOk K (θ ++ [p]) (upd H p u) p o) (lo : o.low M.length = true) : SR K (θ ++ [p]) (upd H p u) (M ++ [o]) := by
  have g : Go θ (θ ++ [p]) H (upd H p u) := Go.new h hp
  refine ⟨?_, ?_, fun i q a e1 e2 => ?_, fun i q e => ?_⟩
  · rw [List.length_append, List.length_append, h.len]; rfl
  · rw [List.nodup_append]
    refine ⟨h.nd, by simp, fun a ha b hb => ?_⟩
    rw [List.mem_singleton.mp hb]
    exact h.apart hp a ha
  · by_cases hi : i < M.length
    · rw [List.getElem?_append_left hi] at e1
      rw [List.getElem?_append_left (by rw [h.len]; exact hi)] at e2
      exact (h.ob i q a e1 e2).carry (fun z => z.go g) g.keep (upd_ne (h.apart hp a (List.mem_of_getElem? e2)))
    · have hi' : i = M.length := by
        have := (List.getElem?_eq_some_iff.mp e1).1
        rw [List.length_append] at this
        simp at this
        omega
      subst hi'
      rw [List.getElem?_append_right (Nat.le_refl _), Nat.sub_self] at e1
      rw [List.getElem?_append_right (by rw [h.len]; exact Nat.le_refl _), h.len, Nat.sub_self] at e2
      cases e1; cases e2
      exact ok
  · by_cases hi : i < M.length
    · rw [List.getElem?_append_left hi] at e
      exact h.low i q e
    · have hi' : i = M.length := by
        have := (List.getElem?_eq_some_iff.mp e).1
        rw [List.length_append] at this
        simp at this
        omega
      subst hi'
      rw [List.getElem?_append_right (Nat.le_refl _), Nat.sub_self] at e
      cases e
      exact lo
theorem SR.newD {M : Store} {p : Addr} (h : SR K θ H M) : Dr K (θ ++ [p]) H (.ref p) (.ref M.length) :=
  ⟨p, by rw [List.getElem?_append_right (by rw [h.len]; exact Nat.le_refl _), h.len, Nat.sub_self]; rfl, rfl⟩
theorem Drs.low {M : Store} (h : SR K θ H M) : ∀ {vs : List V} {ds : List D}, Drs K θ H vs ds → ds.all (D.low M.length) = true
  | _, _, .nil => rfl
  | _, d :: _, .cons a b => by
    rw [List.all_cons, Drs.low h b, Bool.and_true]
    cases d with
    | p x => rfl
    | ref i =>
      obtain ⟨q, e, _⟩ := a
      have := (List.getElem?_eq_some_iff.mp e).1
      exact decide_eq_true (by rw [← h.len]; exact this)
/-- an object of the store is changed -/
theorem SR.set {M : Store} {i : Nat} {a : Addr} {u0 u : HO} {o : Ob} (h : SR K θ H M) (hi : θ[i]? = some a) (h0 : H a = some u0) (nf : ¬ Fro u0) (ok : ObOk K θ (upd H a u) a o) (lo : o.low i = true) :
    SR K θ (upd H a u) (M.set i o) ∧ Go θ θ H (upd H a u) := by
  have g : Go θ θ H (L2.upd H a u) := ⟨List.prefix_refl _, fun b w e c => by
    have ne : b ≠ a := by
      rintro rfl
      rw [h0] at e; cases e
      rcases c with c | c
      · exact c (List.mem_of_getElem? hi)
      · exact nf c
    rw [upd_ne ne]; exact e, fun b m n => absurd m n⟩
  refine ⟨⟨by rw [List.length_set]; exact h.len, h.nd, fun j q b e1 e2 => ?_, fun j q e => ?_⟩, g⟩
  · by_cases hj : i = j
    · subst hj
      rw [hi] at e2; cases e2
      have hl : i < M.length := by rw [← h.len]; exact (List.getElem?_eq_some_iff.mp hi).1
      rw [List.getElem?_set_self hl] at e1
      cases e1
      exact ok
    · rw [List.getElem?_set_ne hj] at e1
      refine (h.ob j q b e1 e2).carry (fun z => z.go g) g.keep (upd_ne ?_)
      rintro rfl
      obtain ⟨l1, r1⟩ := List.getElem?_eq_some_iff.mp hi
      obtain ⟨l2, r2⟩ := List.getElem?_eq_some_iff.mp e2
      exact hj ((List.getElem_inj h.nd).mp (r1.trans r2.symm))
  · by_cases hj : i = j
    · subst hj
      have hl : i < M.length := by rw [← h.len]; exact (List.getElem?_eq_some_iff.mp hi).1
      rw [List.getElem?_set_self hl] at e
      cases e
      exact lo
    · rw [List.getElem?_set_ne hj] at e
      exact h.low j q e
/-- the younger objects forgotten -/
theorem Dr.cut {n : Nat} {v : V} {d : D} (h : Dr K θ H v d) (lo : d.low n = true) : Dr K (θ.take n) H v d := by
  cases d with
  | p x => exact h
  | ref i =>
    obtain ⟨a, e, q⟩ := h
    have : i < n := of_decide_eq_true lo
    exact ⟨a, by rw [List.getElem?_take, if_pos this]; exact e, q⟩
theorem Drs.cut {n : Nat} : ∀ {vs : List V} {ds : List D}, Drs K θ H vs ds → ds.all (D.low n) = true → Drs K (θ.take n) H vs ds
  | _, _, .nil, _ => .nil
  | _, _, .cons a b, l => by
    rw [List.all_cons, Bool.and_eq_true] at l
    exact .cons (a.cut l.1) (Drs.cut b l.2)
theorem pairs_cut {κ : Type} {n : Nat} : ∀ {us : List (κ × V)} {kvs : List (κ × D)}, Paired (fun (p : κ × V) (q : κ × D) => p.1 = q.1 ∧ Dr K θ H p.2 q.2) us kvs → (kvs.all fun kv => kv.2.low n) = true → Paired (fun (p : κ × V) (q : κ × D) => p.1 = q.1 ∧ Dr K (θ.take n) H p.2 q.2) us kvs
  | _, _, .nil, _ => .nil
  | _, _, .cons a b, l => by
    rw [List.all_cons, Bool.and_eq_true] at l
    exact .cons ⟨a.1, a.2.cut l.1⟩ (pairs_cut b l.2)
theorem ObOk.cut {n : Nat} {a : Addr} {o : Ob} (h : ObOk K θ H a o) (lo : o.low n = true) : ObOk K (θ.take n) H a o := by
  cases o with
  | lst ds => obtain ⟨vs, q, r⟩ := h; exact ⟨vs, q, Drs.cut r lo⟩
  | frz xs => exact h
  | dic kvs => obtain ⟨us, q, r⟩ := h; exact ⟨us, q, pairs_cut r lo⟩
  | dit kvs => obtain ⟨us, q, r⟩ := h; exact ⟨us, q, pairs_cut r lo⟩
  | fdc ds => exact h
theorem Ob.low_mono {i j : Nat} (h : i ≤ j) {o : Ob} (e : o.low i = true) : o.low j = true := by
  cases o with
  | lst ds => exact List.all_eq_true.mpr fun x m => D.low_mono h (List.all_eq_true.mp e x m)
  | frz xs => rfl
  | dic kvs => exact List.all_eq_true.mpr fun x m => D.low_mono h (List.all_eq_true.mp e x m)
  | dit kvs => exact List.all_eq_true.mpr fun x m => D.low_mono h (List.all_eq_true.mp e x m)
  | fdc ds => rfl
theorem SR.cut {M : Store} (h : SR K θ H M) (n : Nat) : SR K (θ.take n) H (M.take n) := by
  refine ⟨by rw [List.length_take, List.length_take, h.len], h.nd.sublist (List.take_sublist _ _), fun i o a e1 e2 => ?_, fun i o e => ?_⟩
  · rw [List.getElem?_take] at e1 e2
    by_cases hi : i < n
    · rw [if_pos hi] at e1 e2
      exact (h.ob i o a e1 e2).cut (Ob.low_mono (Nat.le_of_lt hi) (h.low i o e1))
    · rw [if_neg hi] at e1; cases e1
  · rw [List.getElem?_take] at e
    by_cases hi : i < n
    · rw [if_pos hi] at e; exact h.low i o e
    · rw [if_neg hi] at e; cases e
end
/-! ### outcomes against the heap -/
def ExOk (K : PySem.W.Frag) (mg : Str → Option Value) (H : Hp) (x : Ex) (cls : Value) (dd : Option Addr) : Prop :=
  mg x.cls = some cls ∧ match x.arg with
    | none => True
    | some (f, y) => ∃ d v, dd = some d ∧ H d = some (.xd [(f, v)]) ∧ Fz K H v y
section
variable (K : PySem.W.Frag) (mg : Str → Option Value) (E : XK)
def Post {α β : Type} (R : List Addr → Hp → β → α → Prop) (Q : β → Hp → Prop) (θ : List Addr) (H : Hp) : Out α → Prop
  | .stuck => False
  | .ok a M' => ∀ b H' θ', Go θ θ' H H' → SR K θ' H' M' → R θ' H' b a → Q b H'
  | .exc x M' => ∀ cls dd H' θ', Go θ θ' H H' → SR K θ' H' M' → ExOk K mg H' x cls dd → E cls dd H'
end
section
variable {K : PySem.W.Frag} {mg : Str → Option Value} {E : XK} {α β γ δ : Type} {R : List Addr → Hp → β → α → Prop} {Q : β → Hp → Prop} {R' : List Addr → Hp → δ → γ → Prop} {Q' : δ → Hp → Prop}
theorem Post.go {θ θ1 : List Addr} {H H1 : Hp} {o : Out α} (g : Go θ θ1 H H1) (h : Post K mg E R Q θ H o) : Post K mg E R Q θ1 H1 o := by
  cases o with
  | stuck => exact h
  | ok a M' => exact fun b H' θ' g' s r => h b H' θ' (g.trans g') s r
  | exc x M' => exact fun c d H' θ' g' s r => h c d H' θ' (g.trans g') s r
theorem Post.bind {θ : List Addr} {H : Hp} {o : Out α} {k : α → Store → Out γ} (h : Post K mg E R' Q' θ H (o.bind k))
    (f : ∀ a M1 b H1 θ1, Go θ θ1 H H1 → SR K θ1 H1 M1 → R θ1 H1 b a → Post K mg E R' Q' θ1 H1 (k a M1) → Q b H1) : Post K mg E R Q θ H o := by
  cases o with
  | stuck => exact h
  | ok a M' => exact fun b H' θ' g s r => f a M' b H' θ' g s r (Post.go g h)
  | exc x M' => exact h
theorem Post.imp {θ : List Addr} {H : Hp} {o : Out α} {Q2 : β → Hp → Prop} (h : Post K mg E R Q θ H o) (f : ∀ b H', Q b H' → Q2 b H') : Post K mg E R Q2 θ H o := by
  cases o with
  | stuck => exact h
  | ok a M' => exact fun b H' θ' g s r => f _ _ (h b H' θ' g s r)
  | exc x M' => exact h
theorem Post.here {θ : List Addr} {H : Hp} {a : α} {M : Store} {b : β} (h : Post K mg E R Q θ H (.ok a M)) (s : SR K θ H M) (r : R θ H b a) : Q b H := h b H θ .refl s r
end
/-! ### the judgements -/
abbrev ZC := Sl → Store → Out D
abbrev ZCb := Sl → Store → Out Bool
abbrev ZCs := Sl → Store → Out (List D)
def EqR : List Addr → Hp → Bool → Bool → Prop := fun _ _ b a => b = a
structure ZX (X : Cx) : Prop where
  calm : X.calm = true
  own : PassesOwn (model X.prog X.w) X.A X.env X.xe
  nd : X.N.Nodup
  hu : X.A.units + 100 < cLine
  gd : X.A.guards = some []
section
variable (X : Cx) (E : XK)
def ZE (e : Expr) (c : ZC) : Prop := ∃ t, PE X e t ∧ ∀ σ H θ sl M Q, SV X.K θ H σ sl → SR X.K θ H M → Post X.K X.mg E (Dr X.K) Q θ H (c sl M) → t σ H Q
def ZT (e : Expr) (c : ZCb) : Prop := ∃ t, PT X e t ∧ ∀ σ H θ sl M Q, SV X.K θ H σ sl → SR X.K θ H M → Post X.K X.mg E EqR Q θ H (c sl M) → t σ H Q
def ZW (e : Expr) (c : ZCb) : Prop := ∃ t, PW X e t ∧ ∀ σ H θ sl M Q, SV X.K θ H σ sl → SR X.K θ H M → Post X.K X.mg E EqR Q θ H (c sl M) → t σ H Q
def ZA (es : List Expr) (c : ZCs) : Prop := ∃ t, PA X es t ∧ ∀ σ H θ sl M Q, SV X.K θ H σ sl → SR X.K θ H M → Post X.K X.mg E (Drs X.K) Q θ H (c sl M) → t σ H Q
end
end Z

/-! Z: expressions. -/
namespace Z
open PySem PySem.Spec PyProof.Rows L2

/-! ### views -/
def optAll {α β : Type} (f : α → Option β) : List α → Option (List β)
  | [] => some []
  | x :: r => match f x, optAll f r with
    | some y, some ys => some (y :: ys)
    | _, _ => none
def snap : Nat → Store → D → Option P
  | _, _, .p x => some x
  | 0, _, .ref _ => none
  | n + 1, M, .ref i => match M[i]? with
    | some (.lst ds) => (optAll (snap n M) ds).map .list
    | some (.frz xs) => some (.list xs)
    | _ => none
@[simp] theorem snap_p (n : Nat) (M : Store) (x : P) : snap n M (.p x) = some x := by cases n <;> rfl
def lstv (M : Store) : D → Option (List D)
  | .p (.list xs) => some (xs.map .p)
  | .ref i => match M[i]? with
    | some (.lst ds) => some ds
    | some (.frz xs) => some (xs.map .p)
    | _ => none
  | _ => none
@[simp] theorem lstv_p (M : Store) (xs : List P) : lstv M (.p (.list xs)) = some (xs.map .p) := id rfl
@[simp] theorem lstv_t (M : Store) (xs : List P) : lstv M (.p (.tuple xs)) = none := id rfl
@[simp] theorem lstv_i (M : Store) (i : Int) : lstv M (.p (.int i)) = none := id rfl
/-! dicts -/
def kOf : P → Option Key
  | .int i => some (.inl i)
  | .str x => some (.inr x)
  | _ => none
theorem kOf_kP (k : Key) : kOf (kP k) = some k := by cases k <;> rfl
theorem kP_of {x : P} {k : Key} (h : kOf x = some k) : x = kP k := by
  unfold kOf at h
  split at h <;> cases h <;> rfl
def keyed : List (P × P) → Option (List (Key × D))
  | [] => some []
  | kv :: r => match kOf kv.1, keyed r with
    | some k, some ks => some ((k, .p kv.2) :: ks)
    | _, _ => none
/-- what a dict holds -/
def dictv (M : Store) : D → Option (List (Key × D))
  | .p (.dict kvs) => keyed kvs
  | .ref i => match M[i]? with
    | some (.dic kvs) => some kvs
    | some (.fdc kvs) => keyed kvs
    | _ => none
  | _ => none
def valD (kvs : List (Key × D)) (k : Key) : Option D := (kvs.find? fun kv => decide (kv.1 = k)).map Prod.snd
@[simp] theorem dictv_l (M : Store) (xs : List P) : dictv M (.p (.list xs)) = none := id rfl
@[simp] theorem dictv_t (M : Store) (xs : List P) : dictv M (.p (.tuple xs)) = none := id rfl
@[simp] theorem dictv_i (M : Store) (i : Int) : dictv M (.p (.int i)) = none := id rfl
@[simp] theorem dictv_s (M : Store) (i : Str) : dictv M (.p (.str i)) = none := id rfl
@[simp] theorem dictv_b (M : Store) (i : Bool) : dictv M (.p (.bool i)) = none := id rfl
@[simp] theorem dictv_n (M : Store) : dictv M (.p .none) = none := id rfl
@[simp] theorem dictv_d (M : Store) (kvs : List (P × P)) : dictv M (.p (.dict kvs)) = keyed kvs := id rfl
section
variable {K : PySem.W.Frag} {θ : List Addr} {H : Hp} {M : Store}
theorem dr_ref {v : V} {i : Nat} {o : Ob} (s : SR K θ H M) (r : Dr K θ H v (.ref i)) (e : M[i]? = some o) : ∃ a, θ[i]? = some a ∧ v = .ref a ∧ ObOk K θ H a o := by
  obtain ⟨a, h, rfl⟩ := r
  exact ⟨a, h, rfl, s.ob i o a e h⟩
mutual
theorem Dz.dp : ∀ (d : P) (v : V), d.hasDict = false → Dz K H v d → Dp K H v d
  | .none, v, c, h => by
    cases h with
    | fz h => exact h.dp c
  | .bool b, v, c, h => by
    cases h with
    | fz h => exact h.dp c
  | .int b, v, c, h => by
    cases h with
    | fz h => exact h.dp c
  | .str b, v, c, h => by
    cases h with
    | fz h => exact h.dp c
  | .dict b, v, c, h => by simp [PyData.hasDict] at c
  | .tuple b, v, c, h => by
    cases h with
    | fz h => exact h.dp c
  | .list ds, v, c, h => by
    cases h with
    | fz h => exact h.dp c
    | lst q r => exact .lst q (Dz.dps ds _ (by simpa [PyData.hasDict] using c) r)
theorem Dz.dps : ∀ (ds : List P) (vs : List V), PyData.hasDictAll ds = false → Paired (Dz K H) vs ds → DpAll K H vs ds
  | [], _, c, h => by cases h; exact .nil
  | d :: ds, _, c, h => by
    cases h with
    | cons a b =>
      have c' : (d.hasDict || PyData.hasDictAll ds) = false := by simpa [PyData.hasDictAll] using c
      rw [Bool.or_eq_false_iff] at c'
      exact .cons (Dz.dp d _ c'.1 a) (Dz.dps ds _ c'.2 b)
end
theorem optAll_dz {n : Nat} (ih : ∀ v d x, Dr K θ H v d → snap n M d = some x → Dz K H v x) : ∀ {vs : List V} {ds : List D} {xs : List P}, Drs K θ H vs ds → optAll (snap n M) ds = some xs → Paired (Dz K H) vs xs
  | _, _, xs, .nil, e => by cases e; exact .nil
  | _, d :: ds, xs, .cons a b, e => by
    unfold optAll at e
    cases q1 : snap n M d with
    | none => rw [q1] at e; cases e
    | some y =>
      cases q2 : optAll (snap n M) ds with
      | none => rw [q1, q2] at e; cases e
      | some ys =>
        rw [q1, q2] at e
        cases e
        exact .cons (ih _ _ _ a q1) (optAll_dz ih b q2)
theorem fz_dz : ∀ {vs : List V} {xs : List P}, FzAll K H vs xs → Paired (Dz K H) vs xs
  | _, _, .nil => .nil
  | _, _, .cons a b => .cons (.fz a) (fz_dz b)
theorem snap_dz (s : SR K θ H M) : ∀ (n : Nat) (v : V) (d : D) (x : P), Dr K θ H v d → snap n M d = some x → Dz K H v x
  | n, v, .p y, x, r, e => by
    rw [snap_p] at e
    cases e
    exact .fz r
  | 0, _, .ref _, _, _, e => by cases e
  | n + 1, v, .ref i, x, r, e => by
    unfold snap at e
    cases q : M[i]? with
    | none => rw [q] at e; cases e
    | some o =>
      rw [q] at e
      obtain ⟨a, h, rfl, k⟩ := dr_ref s r q
      cases o with
      | lst ds =>
        simp only at e
        cases q2 : optAll (snap n M) ds with
        | none => rw [q2] at e; cases e
        | some ys =>
          rw [q2] at e
          cases e
          obtain ⟨vs, e1, rs⟩ := k
          exact .lst (SqL.of e1) (optAll_dz (snap_dz s n) rs q2)
      | frz xs =>
        simp only at e
        cases e
        obtain ⟨vs, o, e1, rs⟩ := k
        exact .lst (.inl (.inr ⟨o, e1⟩)) (fz_dz rs)
      | dic kvs => cases e
      | dit kvs => cases e
      | fdc kvs => cases e
theorem snap_dp (s : SR K θ H M) (n : Nat) (v : V) (d : D) (x : P) (r : Dr K θ H v d) (e : snap n M d = some x) (c : x.hasDict = false) : Dp K H v x := Dz.dp x v c (snap_dz s n v d x r e)
theorem lstv_ok {v : V} {d : D} {ds : List D} (s : SR K θ H M) (r : Dr K θ H v d) (e : lstv M d = some ds) : ∃ a vs, v = .ref a ∧ SqX K H a vs ∧ Drs K θ H vs ds := by
  cases d with
  | p x =>
    cases x with
    | list xs =>
      cases e
      cases r with
      | lst h a => exact ⟨_, _, rfl, .inr h, a.drs⟩
    | _ => cases e
  | ref i =>
    unfold lstv at e
    simp only at e
    cases q : M[i]? with
    | none => rw [q] at e; cases e
    | some o =>
      rw [q] at e
      obtain ⟨a, h, rfl, k⟩ := dr_ref s r q
      cases o with
      | lst ds => cases e; obtain ⟨vs, e1, rs⟩ := k; exact ⟨_, _, rfl, .inl e1, rs⟩
      | frz xs => cases e; obtain ⟨vs, o, e1, rs⟩ := k; exact ⟨_, _, rfl, .inr (.inl ⟨o, e1⟩), rs.drs⟩
      | dic kvs => cases e
      | dit kvs => cases e
      | fdc kvs => cases e
abbrev KD (K : PySem.W.Frag) (θ : List Addr) (H : Hp) (us : List (Key × V)) (kvs : List (Key × D)) : Prop := Paired (fun (p : Key × V) (q : Key × D) => p.1 = q.1 ∧ Dr K θ H p.2 q.2) us kvs
theorem keyed_ok : ∀ {us : List (Key × V)} {ds : List (P × P)} {kvs : List (Key × D)}, ds.map Prod.fst = us.map (fun u => kP u.1) → FzAll K H (us.map Prod.snd) (ds.map Prod.snd) → keyed ds = some kvs → KD K θ H us kvs
  | [], [], kvs, _, _, e => by cases e; exact .nil
  | [], _ :: _, _, h, _, _ => by simp at h
  | _ :: _, [], _, h, _, _ => by simp at h
  | u :: us, d :: ds, kvs, h, f, e => by
    rw [List.map_cons, List.map_cons, List.cons.injEq] at h
    rw [List.map_cons, List.map_cons] at f
    cases f with
    | cons f1 f2 =>
      unfold keyed at e
      rw [h.1, kOf_kP] at e
      cases q : keyed ds with
      | none => rw [q] at e; cases e
      | some ks =>
        rw [q] at e
        cases e
        exact .cons ⟨rfl, f1⟩ (keyed_ok h.2 f2 q)
theorem dictv_ok {v : V} {d : D} {kvs : List (Key × D)} (s : SR K θ H M) (r : Dr K θ H v d) (e : dictv M d = some kvs) : ∃ a us, v = .ref a ∧ Rd H a (.dK us) ∧ KD K θ H us kvs := by
  cases d with
  | p x =>
    cases x with
    | dict ds =>
      cases r with
      | dct h k f => exact ⟨_, _, rfl, .inr ⟨_, h⟩, keyed_ok k f e⟩
    | _ => cases e
  | ref i =>
    unfold dictv at e
    simp only at e
    cases q : M[i]? with
    | none => rw [q] at e; cases e
    | some o =>
      rw [q] at e
      obtain ⟨a, h, rfl, k⟩ := dr_ref s r q
      cases o with
      | dic ds => cases e; obtain ⟨us, e1, rs⟩ := k; exact ⟨_, _, rfl, .inl e1, rs⟩
      | fdc ds => obtain ⟨us, o, e1, r1, r2⟩ := k; exact ⟨_, _, rfl, .inr ⟨_, e1⟩, keyed_ok r1 r2 e⟩
      | lst _ => cases e
      | frz _ => cases e
      | dit _ => cases e
theorem kd_val (k : Key) : ∀ {us : List (Key × V)} {kvs : List (Key × D)}, KD K θ H us kvs → (valV us k = none ∧ valD kvs k = none) ∨ ∃ v d, valV us k = some v ∧ valD kvs k = some d ∧ Dr K θ H v d
  | _, _, .nil => .inl ⟨rfl, rfl⟩
  | u :: us, q :: kvs, .cons a b => by
    by_cases e : u.1 = k
    · exact .inr ⟨u.2, q.2, valV_pos e, by simp [valD, List.find?_cons, a.1 ▸ e], a.2⟩
    · have e2 : ¬ q.1 = k := fun z => e (a.1.trans z)
      have := kd_val k b
      rw [valV_neg e, show valD (q :: kvs) k = valD kvs k by simp [valD, List.find?_cons, e2]]
      exact this
theorem kv_is {v : V} {x : P} {k : Key} (r : Fz K H v x) (h : kOf x = some k) : v = kV k := by
  unfold kOf at h
  split at h <;> cases h <;> cases r <;> rfl
theorem fz_ints : ∀ {ns : List Int} {vs : List V}, FzAll K H vs (ns.map .int) → vs = ns.map V.int
  | [], _, h => by cases h; rfl
  | n :: ns, _, h => by
    cases h with
    | cons a b => cases a; rw [fz_ints b]; rfl
end

/-! ### readings by outcomes -/
section
variable (X : Cx) (E : XK)
def rZ1 (g : D → Store → Out D) : V → Hp → VK → Prop := fun v H Q => ∃ x θ M, SR X.K θ H M ∧ Dr X.K θ H v x ∧ Post X.K X.mg E (Dr X.K) Q θ H (g x M)
def rZ2 (g : D → D → Store → Out D) : R2 := fun v u H Q => ∃ x y θ M, SR X.K θ H M ∧ Dr X.K θ H v x ∧ Dr X.K θ H u y ∧ Post X.K X.mg E (Dr X.K) Q θ H (g x y M)
def rZs (g : List D → Store → Out D) : List V → Hp → VK → Prop := fun vs H Q => ∃ ds θ M, SR X.K θ H M ∧ Drs X.K θ H vs ds ∧ Post X.K X.mg E (Dr X.K) Q θ H (g ds M)
def rZm (g : D → List D → Store → Out D) : V → List V → Hp → VK → Prop := fun v vs H Q => ∃ x ds θ M, SR X.K θ H M ∧ Dr X.K θ H v x ∧ Drs X.K θ H vs ds ∧ Post X.K X.mg E (Dr X.K) Q θ H (g x ds M)
end
def z1 (g : D → Store → Out D) (a : ZC) : ZC := fun sl M => (a sl M).bind g
def z2 (g : D → D → Store → Out D) (a b : ZC) : ZC := fun sl M => (a sl M).bind fun x M1 => (b sl M1).bind fun y M2 => g x y M2
def zs (g : List D → Store → Out D) (a : ZCs) : ZC := fun sl M => (a sl M).bind g
def zm (g : D → List D → Store → Out D) (o : ZC) (a : ZCs) : ZC := fun sl M => (o sl M).bind fun x M1 => (a sl M1).bind fun ds M2 => g x ds M2
def zv (i : Nat) : ZC := fun sl M => match sl[i]? with
  | some (some d) => .ok d M
  | _ => .stuck
def zk (x : P) : ZC := fun _ M => .ok (.p x) M
def asBool (d : D) (M : Store) : Out Bool := match d with
  | .p (.bool b) => .ok b M
  | _ => .stuck
def zt (a : ZC) : ZCb := fun sl M => (a sl M).bind asBool
def znil : ZCs := fun _ M => .ok [] M
def zcons (a : ZC) (r : ZCs) : ZCs := fun sl M => (a sl M).bind fun x M1 => (r sl M1).bind fun xs M2 => .ok (x :: xs) M2

section
variable {X : Cx} {E : XK} {e a b c : Expr} {es : List Expr} {pos : Pos} {ca cb cc : ZC} {cs : ZCs}
theorem ZE.v (i : Nat) {x : Str} (hN : X.N[i]? = some x := by rfl) (hv : Vis X.env.scope x := by first | exact Or.inl rfl | exact Or.inr (Or.inl rfl) | exact Or.inr (Or.inr rfl))
    (hd : (x == ("__debug__" : Str)) = false := by decide) (hcd : (x == ("__classdict__" : Str)) = false := by decide) : ZE X E (.Name x pos) (zv i) := by
  refine ⟨_, pe_var hN hv hd hcd, fun σ H θ sl M Q hs hm h => ?_⟩
  unfold zv at h
  cases q : sl[i]? with
  | none => rw [q] at h; exact h.elim
  | some o =>
    cases o with
    | none => rw [q] at h; exact h.elim
    | some d =>
      rw [q] at h
      obtain ⟨v, ev, r⟩ := hs.at_ i d q
      exact ⟨v, ev, Post.here h hm r⟩
theorem ZE.const {x : P} {v : V} (h : PE X e (tC v)) (f : ∀ H, Fz X.K H v x) : ZE X E e (zk x) :=
  ⟨_, h, fun σ H θ sl M Q hs hm q => Post.here (b := v) (show Post X.K X.mg E (Dr X.K) Q θ H (.ok (.p x) M) from q) hm (f H)⟩
theorem ZE.int {i : Int} {j} : ZE X E (.Constant (.int i) j pos) (zk (.int i)) := .const pe_int fun _ => .int i
theorem ZE.bl {i : Bool} {j} : ZE X E (.Constant (.bool i) j pos) (zk (.bool i)) := .const pe_bl fun _ => .bl i
theorem ZE.non {j} : ZE X E (.Constant .none j pos) (zk .none) := .const pe_non fun _ => .non
theorem ZE.str {i : String} {j} : ZE X E (.Constant (.str i) j pos) (zk (.str i)) := .const pe_str fun _ => .str _
/-- a module's int -/
theorem ZE.gint {x : Str} {i : Int} {t : Tok} (hg : Gl X x) (hm : X.mg x = some (.int i t)) (hd : (x == ("__debug__" : Str)) = false := by decide) : ZE X E (.Name x pos) (zk (.int i)) :=
  .const (v := .int i) (pe_glob hg hm ⟨t, rfl⟩ hd) fun _ => .int i
theorem ZE.op1 {op : UnaryOp} {g : D → Store → Out D} (ho : UnR X (unaryOp op) (rZ1 X E g)) (ha : ZE X E a ca) : ZE X E (.UnaryOp op a pos) (z1 g ca) := by
  obtain ⟨ta, pa, qa⟩ := ha
  refine ⟨_, pe_un ho pa, fun σ H θ sl M Q hs hm h => ?_⟩
  exact qa σ H θ sl M _ hs hm (Post.bind h fun x M1 v H1 θ1 g1 m1 r1 h1 => ⟨x, θ1, M1, m1, r1, h1⟩)
theorem two {g : D → D → Store → Out D} {ta tb : TE}
    (qa : ∀ σ H θ sl M Q, SV X.K θ H σ sl → SR X.K θ H M → Post X.K X.mg E (Dr X.K) Q θ H (ca sl M) → ta σ H Q)
    (qb : ∀ σ H θ sl M Q, SV X.K θ H σ sl → SR X.K θ H M → Post X.K X.mg E (Dr X.K) Q θ H (cb sl M) → tb σ H Q) {σ : L2.St} {H : Hp} {θ : List Addr} {sl : Sl} {M : Store} {Q : VK} (hs : SV X.K θ H σ sl) (hm : SR X.K θ H M)
    (h : Post X.K X.mg E (Dr X.K) Q θ H (z2 g ca cb sl M)) : tOp (rZ2 X E g) ta tb σ H Q := by
  refine qa σ H θ sl M _ hs hm (Post.bind h fun x M1 v H1 θ1 g1 m1 r1 h1 => ?_)
  refine qb σ H1 θ1 sl M1 _ (hs.go g1) m1 (Post.bind h1 fun y M2 u H2 θ2 g2 m2 r2 h2 => ?_)
  exact ⟨x, y, θ2, M2, m2, r1.go g2, r2, h2⟩
theorem ZE.op2 {op : Operator} {g : D → D → Store → Out D} (ho : OpR X (binaryOp op) (rZ2 X E g)) (ha : ZE X E a ca) (hb : ZE X E b cb) : ZE X E (.BinOp a op b pos) (z2 g ca cb) := by
  obtain ⟨ta, pa, qa⟩ := ha
  obtain ⟨tb, pb, qb⟩ := hb
  exact ⟨_, pe_op ho pa pb, fun σ H θ sl M Q hs hm h => two qa qb hs hm h⟩
theorem ZE.cmp {op : CmpOp} {g : D → D → Store → Out D} (ho : OpR X (compareOp op) (rZ2 X E g)) (ha : ZE X E a ca) (hb : ZE X E b cb) (hm : behindInMarks op b = false := by first | exact nomark _ | rfl) :
    ZE X E (.Compare a [op] [b] pos) (z2 g ca cb) := by
  obtain ⟨ta, pa, qa⟩ := ha
  obtain ⟨tb, pb, qb⟩ := hb
  exact ⟨_, pe_cmpR ho pa pb hm, fun σ H θ sl M Q hs hm h => two qa qb hs hm h⟩
theorem tt_of {t : TE} {c : ZC} (q : ∀ σ H θ sl M Q, SV X.K θ H σ sl → SR X.K θ H M → Post X.K X.mg E (Dr X.K) Q θ H (c sl M) → t σ H Q) {σ : L2.St} {H : Hp} {θ : List Addr} {sl : Sl} {M : Store} {Q : Bool → Hp → Prop}
    (hs : SV X.K θ H σ sl) (hm : SR X.K θ H M) (h : Post X.K X.mg E EqR Q θ H (zt c sl M)) : t σ H fun x H' => ∃ k, x = .bl k ∧ Q k H' := by
  refine q σ H θ sl M _ hs hm (Post.bind h fun x M1 v H1 θ1 g1 m1 r1 h1 => ?_)
  cases x with
  | ref i => exact h1.elim
  | p y =>
    cases y with
    | bool k =>
      cases r1
      exact ⟨k, rfl, Post.here h1 m1 rfl⟩
    | _ => exact h1.elim
theorem ZT.cmp {op : CmpOp} {g : D → D → Store → Out D} (ho : OpR X (compareOp op) (rZ2 X E g)) (ha : ZE X E a ca) (hb : ZE X E b cb) (hm : behindInMarks op b = false := by first | exact nomark _ | rfl) :
    ZT X E (.Compare a [op] [b] pos) (zt (z2 g ca cb)) := by
  obtain ⟨ta, pa, qa⟩ := ha
  obtain ⟨tb, pb, qb⟩ := hb
  exact ⟨_, pt_cmpR ho pa pb hm, fun σ H θ sl M Q hs hm h => tt_of (t := tOp (rZ2 X E g) ta tb) (c := z2 g ca cb) (fun σ H θ sl M Q hs hm h => two qa qb hs hm h) hs hm h⟩
/-- a < b < c -/
def zchain (g g' : D → D → Store → Out D) (a b c : ZC) : ZC := fun sl M => (a sl M).bind fun x M1 => (b sl M1).bind fun y M2 => (g x y M2).bind fun z M3 => match z with
  | .p (.bool true) => (c sl M3).bind fun w M4 => g' y w M4
  | .p (.bool false) => .ok (.p (.bool false)) M3
  | _ => .stuck
theorem chain_ok {g g' : D → D → Store → Out D} {ta tb tc : TE} {op : CmpOp}
    (qa : ∀ σ H θ sl M Q, SV X.K θ H σ sl → SR X.K θ H M → Post X.K X.mg E (Dr X.K) Q θ H (ca sl M) → ta σ H Q)
    (qb : ∀ σ H θ sl M Q, SV X.K θ H σ sl → SR X.K θ H M → Post X.K X.mg E (Dr X.K) Q θ H (cb sl M) → tb σ H Q)
    (qc : ∀ σ H θ sl M Q, SV X.K θ H σ sl → SR X.K θ H M → Post X.K X.mg E (Dr X.K) Q θ H (cc sl M) → tc σ H Q)
    {σ : L2.St} {H : Hp} {θ : List Addr} {sl : Sl} {M : Store} {Q : VK} (hs : SV X.K θ H σ sl) (hm : SR X.K θ H M)
    (h : Post X.K X.mg E (Dr X.K) Q θ H (zchain g g' ca cb cc sl M)) : ta σ H fun x H1 => tb σ H1 fun y H2 => rZ2 X E g x y H2 fun z H3 => ∃ k, z = .bl k ∧ (if k = true then tc σ H3 fun w H4 => rZ2 X E g' y w H4 Q else Q (.bl false) H3) := by
  refine qa σ H θ sl M _ hs hm (Post.bind h fun x M1 v H1 θ1 g1 m1 r1 h1 => ?_)
  refine qb σ H1 θ1 sl M1 _ (hs.go g1) m1 (Post.bind h1 fun y M2 u H2 θ2 g2 m2 r2 h2 => ?_)
  refine ⟨x, y, θ2, M2, m2, r1.go g2, r2, Post.bind h2 fun z M3 w H3 θ3 g3 m3 r3 h3 => ?_⟩
  cases z with
  | ref i => exact h3.elim
  | p y' =>
    cases y' with
    | bool k =>
      cases r3
      refine ⟨k, rfl, ?_⟩
      cases k with
      | false =>
        rw [if_neg Bool.false_ne_true]
        exact Post.here (show Post X.K X.mg E (Dr X.K) Q θ3 H3 (.ok (.p (.bool false)) M3) from h3) m3 (Fz.bl false)
      | true =>
        rw [if_pos rfl]
        exact qc σ H3 θ3 sl M3 _ (((hs.go g1).go g2).go g3) m3 (Post.bind h3 fun w' M4 u4 H4 θ4 g4 m4 r4 h4 => ⟨y, w', θ4, M4, m4, (r2.go g3).go g4, r4, h4⟩)
    | _ => exact h3.elim
theorem ZE.chain {op op' : CmpOp} {g g' : D → D → Store → Out D} (ho : OpR X (compareOp op) (rZ2 X E g)) (ho' : OpR X (compareOp op') (rZ2 X E g')) (ha : ZE X E a ca) (hb : ZE X E b cb) (hc : ZE X E c cc)
    (hm : lastMarks [op, op'] [b, c] = false := by with_unfolding_all rfl) : ZE X E (.Compare a [op, op'] [b, c] pos) (zchain g g' ca cb cc) := by
  obtain ⟨ta, pa, qa⟩ := ha
  obtain ⟨tb, pb, qb⟩ := hb
  obtain ⟨tc, pc, qc⟩ := hc
  exact ⟨_, pe_chain ho ho' pa pb pc hm, fun σ H θ sl M Q hs hm h => chain_ok (op := op) qa qb qc hs hm h⟩
theorem ZT.chain {op op' : CmpOp} {g g' : D → D → Store → Out D} (ho : OpR X (compareOp op) (rZ2 X E g)) (ho' : OpR X (compareOp op') (rZ2 X E g')) (ha : ZE X E a ca) (hb : ZE X E b cb) (hc : ZE X E c cc)
    (hm : lastMarks [op, op'] [b, c] = false := by with_unfolding_all rfl) : ZT X E (.Compare a [op, op'] [b, c] pos) (zt (zchain g g' ca cb cc)) := by
  obtain ⟨ta, pa, qa⟩ := ha
  obtain ⟨tb, pb, qb⟩ := hb
  obtain ⟨tc, pc, qc⟩ := hc
  exact ⟨_, pt_chain ho ho' pa pb pc hm, fun σ H θ sl M Q hs hm h => tt_of (t := tChain (rZ2 X E g) (rZ2 X E g') ta tb tc) (c := zchain g g' ca cb cc) (fun σ H θ sl M Q hs hm h => chain_ok (op := op) qa qb qc hs hm h) hs hm h⟩
/-- a bool as a test -/
theorem ZT.val (ha : ZE X E a ca) (he : ∀ whole, isTrue a X.env whole = (do let v ← whole; standAt a.pos; holding [v] (truthy v)) := by intro _; rfl) : ZT X E a (zt ca) := by
  obtain ⟨ta, pa, qa⟩ := ha
  exact ⟨_, pt_val pa he, fun σ H θ sl M Q hs hm h => tt_of qa hs hm h⟩
/-! ### and, or, not -/
def ztand (a b : ZCb) : ZCb := fun sl M => (a sl M).bind fun k M1 => if k = true then b sl M1 else .ok false M1
def ztor (a b : ZCb) : ZCb := fun sl M => (a sl M).bind fun k M1 => if k = true then .ok true M1 else b sl M1
def ztnot (a : ZCb) : ZCb := fun sl M => (a sl M).bind fun k M1 => .ok (!k) M1
variable {ta tb : ZCb} {rest : List Expr}
theorem ZW.and1 (ha : ZT X E a ta) : ZW X E (.BoolOp .And [a] pos) ta := by
  obtain ⟨t, p, q⟩ := ha
  exact ⟨_, pw_and1 p, q⟩
theorem ZW.or1 (ha : ZT X E a ta) : ZW X E (.BoolOp .Or [a] pos) ta := by
  obtain ⟨t, p, q⟩ := ha
  exact ⟨_, pw_or1 p, q⟩
theorem ZW.and (ha : ZT X E a ta) (hb : ZW X E (.BoolOp .And (b :: rest) pos) tb) : ZW X E (.BoolOp .And (a :: b :: rest) pos) (ztand ta tb) := by
  obtain ⟨t, p, q⟩ := ha
  obtain ⟨u, pb, qb⟩ := hb
  refine ⟨_, pw_and p pb, fun σ H θ sl M Q hs hm h => q σ H θ sl M _ hs hm (Post.bind h fun k M1 k' H1 θ1 g1 m1 r1 h1 => ?_)⟩
  cases r1
  cases k with
  | false => exact Post.here (by simpa using h1) m1 rfl
  | true => exact qb σ H1 θ1 sl M1 Q (hs.go g1) m1 (by simpa using h1)
theorem ZW.or (ha : ZT X E a ta) (hb : ZW X E (.BoolOp .Or (b :: rest) pos) tb) : ZW X E (.BoolOp .Or (a :: b :: rest) pos) (ztor ta tb) := by
  obtain ⟨t, p, q⟩ := ha
  obtain ⟨u, pb, qb⟩ := hb
  refine ⟨_, pw_or p pb, fun σ H θ sl M Q hs hm h => q σ H θ sl M _ hs hm (Post.bind h fun k M1 k' H1 θ1 g1 m1 r1 h1 => ?_)⟩
  cases r1
  cases k with
  | true => exact Post.here (by simpa using h1) m1 rfl
  | false => exact qb σ H1 θ1 sl M1 Q (hs.go g1) m1 (by simpa using h1)
theorem ZT.w (h : ZW X E a ta) : ZT X E a ta := by
  obtain ⟨t, p, q⟩ := h
  exact ⟨t, p.pt, q⟩
theorem ZT.not (ha : ZT X E a ta) : ZT X E (.UnaryOp .Not a pos) (ztnot ta) := by
  obtain ⟨t, p, q⟩ := ha
  refine ⟨_, pt_not p, fun σ H θ sl M Q hs hm h => q σ H θ sl M _ hs hm (Post.bind h fun k M1 k' H1 θ1 g1 m1 r1 h1 => ?_)⟩
  cases r1
  exact Post.here (show Post X.K X.mg E EqR Q θ1 H1 (.ok (!k) M1) from h1) m1 rfl
def zand (a b : ZC) : ZC := fun sl M => (a sl M).bind fun x M1 => (asBool x M1).bind fun k M2 => if k = true then b sl M2 else .ok (.p (.bool false)) M2
def zor (a b : ZC) : ZC := fun sl M => (a sl M).bind fun x M1 => (asBool x M1).bind fun k M2 => if k = true then .ok (.p (.bool true)) M2 else b sl M2
def znot (a : ZC) : ZC := fun sl M => (a sl M).bind fun x M1 => (asBool x M1).bind fun k M2 => .ok (.p (.bool (!k))) M2
theorem asBool_ok {Q : Bool → Hp → Prop} {θ : List Addr} {H : Hp} {x : D} {M : Store} {v : V} {α : Type} {k : Bool → Store → Out α} {β : Type} {R' : List Addr → Hp → β → α → Prop} {Q' : β → Hp → Prop}
    (h : Post X.K X.mg E R' Q' θ H ((asBool x M).bind k)) (r : Dr X.K θ H v x) : ∃ b, v = .bl b ∧ Post X.K X.mg E R' Q' θ H (k b M) := by
  cases x with
  | ref i => exact h.elim
  | p y =>
    cases y with
    | bool b => cases r; exact ⟨b, rfl, h⟩
    | _ => exact h.elim
theorem ZE.one {op} (ha : ZE X E a ca) : ZE X E (.BoolOp op [a] pos) ca := by
  obtain ⟨t, p, q⟩ := ha
  exact ⟨_, pe_one p, q⟩
theorem ZE.and (ha : ZE X E a ca) (hb : ZE X E (.BoolOp .And (b :: rest) pos) cb) : ZE X E (.BoolOp .And (a :: b :: rest) pos) (zand ca cb) := by
  obtain ⟨t, p, q⟩ := ha
  obtain ⟨u, pb, qb⟩ := hb
  refine ⟨_, pe_and p pb, fun σ H θ sl M Q hs hm h => q σ H θ sl M _ hs hm (Post.bind h fun x M1 v H1 θ1 g1 m1 r1 h1 => ?_)⟩
  obtain ⟨k, rfl, h2⟩ := asBool_ok (Q := fun _ _ => True) h1 r1
  refine ⟨k, rfl, ?_⟩
  cases k with
  | false => exact Post.here (show Post X.K X.mg E (Dr X.K) Q θ1 H1 (.ok (.p (.bool false)) M1) from by simpa using h2) m1 (Fz.bl false)
  | true => exact qb σ H1 θ1 sl M1 Q (hs.go g1) m1 (by simpa using h2)
theorem ZE.or (ha : ZE X E a ca) (hb : ZE X E (.BoolOp .Or (b :: rest) pos) cb) : ZE X E (.BoolOp .Or (a :: b :: rest) pos) (zor ca cb) := by
  obtain ⟨t, p, q⟩ := ha
  obtain ⟨u, pb, qb⟩ := hb
  refine ⟨_, pe_or p pb, fun σ H θ sl M Q hs hm h => q σ H θ sl M _ hs hm (Post.bind h fun x M1 v H1 θ1 g1 m1 r1 h1 => ?_)⟩
  obtain ⟨k, rfl, h2⟩ := asBool_ok (Q := fun _ _ => True) h1 r1
  refine ⟨k, rfl, ?_⟩
  cases k with
  | true => exact Post.here (show Post X.K X.mg E (Dr X.K) Q θ1 H1 (.ok (.p (.bool true)) M1) from by simpa using h2) m1 (Fz.bl true)
  | false => exact qb σ H1 θ1 sl M1 Q (hs.go g1) m1 (by simpa using h2)
theorem ZE.not (ha : ZE X E a ca) : ZE X E (.UnaryOp .Not a pos) (znot ca) := by
  obtain ⟨t, p, q⟩ := ha
  refine ⟨_, pe_not p, fun σ H θ sl M Q hs hm h => q σ H θ sl M _ hs hm (Post.bind h fun x M1 v H1 θ1 g1 m1 r1 h1 => ?_)⟩
  obtain ⟨k, rfl, h2⟩ := asBool_ok (Q := fun _ _ => True) h1 r1
  exact ⟨k, rfl, Post.here (b := V.bl (!k)) (show Post X.K X.mg E (Dr X.K) Q θ1 H1 (.ok (.p (.bool (!k))) M1) from h2) m1 (Fz.bl _)⟩
def zif (t : ZCb) (a b : ZC) : ZC := fun sl M => (t sl M).bind fun k M1 => if k = true then a sl M1 else b sl M1
theorem ZE.ife (hc : ZT X E c ta) (ha : ZE X E a ca) (hb : ZE X E b cb) : ZE X E (.IfExp c a b pos) (zif ta ca cb) := by
  obtain ⟨t, p, q⟩ := hc
  obtain ⟨u, pa, qa⟩ := ha
  obtain ⟨w, pb, qb⟩ := hb
  refine ⟨_, pe_ifExp p pa pb, fun σ H θ sl M Q hs hm h => q σ H θ sl M _ hs hm (Post.bind h fun k M1 k' H1 θ1 g1 m1 r1 h1 => ?_)⟩
  cases r1
  cases k with
  | true => exact (if_pos rfl).mpr (qa σ H1 θ1 sl M1 Q (hs.go g1) m1 (by simpa using h1))
  | false => exact (if_neg Bool.false_ne_true).mpr (qb σ H1 θ1 sl M1 Q (hs.go g1) m1 (by simpa using h1))
/-! ### lists of arguments, displays -/
theorem ZA.nil : ZA X E [] znil := ⟨_, pa_nil, fun σ H θ sl M Q hs hm h => Post.here (b := []) (show Post X.K X.mg E (Drs X.K) Q θ H (.ok [] M) from h) hm .nil⟩
theorem ZA.cons (ha : ZE X E a ca) (hr : ZA X E es cs) (hs : starEach (a :: es) X.env = (false, eval a X.env) :: starEach es X.env := by rfl) : ZA X E (a :: es) (zcons ca cs) := by
  obtain ⟨t, p, q⟩ := ha
  obtain ⟨u, pr, qr⟩ := hr
  refine ⟨_, pa_cons p pr hs, fun σ H θ sl M Q hs hm h => q σ H θ sl M _ hs hm (Post.bind h fun x M1 v H1 θ1 g1 m1 r1 h1 => ?_)⟩
  refine qr σ H1 θ1 sl M1 _ (hs.go g1) m1 (Post.bind h1 fun xs M2 vs H2 θ2 g2 m2 r2 h2 => ?_)
  exact Post.here (b := v :: vs) (show Post X.K X.mg E (Drs X.K) Q θ2 H2 (.ok (x :: xs) M2) from h2) m2 (.cons (r1.go g2) r2)
def mkTup (ds : List D) (M : Store) : Out D := match pures ds with
  | some xs => if xs.length ≤ sizeLine then .ok (.p (.tuple xs)) M else .stuck
  | none => .stuck
def mkLstF (ds : List D) (M : Store) : Out D := match pures ds with
  | some xs => if xs.length ≤ sizeLine then .ok (.p (.list xs)) M else .stuck
  | none => .stuck
def mkLst (ds : List D) (M : Store) : Out D := if ds.length ≤ sizeLine then .ok (.ref M.length) (M ++ [.lst ds]) else .stuck
theorem SqT.new {K : PySem.W.Frag} {H : Hp} {p : Addr} {xs : List V} : SqT K (upd H p (.tup xs)) p xs := .inl (.inl upd_same)
/-- a new tuple -/
theorem new_tup {θ : List Addr} {H : Hp} {M : Store} {Q : VK} {vs : List V} {xs : List P} {p : Addr} (h : Post X.K X.mg E (Dr X.K) Q θ H (.ok (.p (.tuple xs)) M)) (s : SR X.K θ H M) (r : FzAll X.K H vs xs) (hp : H p = none) : Q (.ref p) (upd H p (.tup vs)) :=
  h (.ref p) _ θ (Go.out s hp) (s.out hp) (.tup SqT.new (r.keep (Go.out s hp).keep))
/-- a new list that nobody changes from now on -/
theorem new_frz {θ : List Addr} {H : Hp} {M : Store} {Q : VK} {vs : List V} {xs : List P} {p : Addr} {o : Obj} (h : Post X.K X.mg E (Dr X.K) Q θ H (.ok (.p (.list xs)) M)) (s : SR X.K θ H M) (r : FzAll X.K H vs xs) (hp : H p = none) :
    Q (.ref p) (upd (upd H p (.lst vs)) p (.frz o (.lst vs))) := by
  rw [upd_upd]
  exact h (.ref p) _ θ (Go.out s hp) (s.out hp) (.lst (.inl ⟨o, upd_same⟩) (r.keep (Go.out s hp).keep))
theorem new_lst {θ : List Addr} {H : Hp} {M : Store} {Q : VK} {vs : List V} {ds : List D} {p : Addr} (h : Post X.K X.mg E (Dr X.K) Q θ H (.ok (.ref M.length) (M ++ [.lst ds]))) (s : SR X.K θ H M) (r : Drs X.K θ H vs ds) (hp : H p = none) :
    Q (.ref p) (upd H p (.lst vs)) :=
  h (.ref p) _ (θ ++ [p]) (Go.new s hp) (s.new hp ⟨vs, upd_same, Drs.go (Go.new s hp) r⟩ (Drs.low s r)) s.newD
def FrzQ (Q : VK) : VK := fun v H1 => ∃ a xs, v = .ref a ∧ H1 a = some (.lst xs) ∧ ∀ o, Q v (upd H1 a (.frz o (.lst xs)))
theorem ep_frz {pins : List (Addr × Obj)} {σ : L2.St} {Q : VK} {u : Value} {s : Shared} (h : EP X pins σ (FrzQ Q) u s) : EP X pins σ Q u s := by
  obtain ⟨v, H1, I, r, a, xs, rfl, e, q⟩ := h
  obtain ⟨o, I2⟩ := I.lock e trivial
  exact ⟨_, _, I2, r, q o⟩
theorem pe_frz {t : TE} (h : PE X e t) : PE X e (fun σ H Q => t σ H (FrzQ Q)) :=
  ⟨fun pins s σ H Q I w => thn (h.run pins s σ H _ I w) fun u s1 q => ep_frz q⟩
theorem ZE.tup {x1} (h : ZA X E es cs) : ZE X E (.Tuple es x1 pos) (zs mkTup cs) := by
  obtain ⟨t, p, q⟩ := h
  refine ⟨_, pe_tup p, fun σ H θ sl M Q hs hm h => q σ H θ sl M _ hs hm (Post.bind h fun ds M1 vs H1 θ1 g1 m1 r1 h1 => ?_)⟩
  unfold mkTup at h1
  cases e : pures ds with
  | none => rw [e] at h1; exact h1.elim
  | some xs =>
    rw [e] at h1
    simp only at h1
    rw [pures_eq e] at r1
    have r2 := FzAll.ofDrs r1
    by_cases l : xs.length ≤ sizeLine
    · rw [if_pos l] at h1
      exact ⟨by rw [r2.length]; exact l, fun a ha => new_tup h1 m1 r2 ha⟩
    · rw [if_neg l] at h1; exact h1.elim
theorem ZE.lstF (h : ZA X E es cs) : ZE X E (.List es pos) (zs mkLstF cs) := by
  obtain ⟨t, p, q⟩ := h
  refine ⟨fun σ H Q => tLst t σ H (FrzQ Q), pe_frz (pe_lst p), fun σ H θ sl M Q hs hm h => q σ H θ sl M _ hs hm (Post.bind h fun ds M1 vs H1 θ1 g1 m1 r1 h1 => ?_)⟩
  unfold mkLstF at h1
  cases e : pures ds with
  | none => rw [e] at h1; exact h1.elim
  | some xs =>
    rw [e] at h1
    simp only at h1
    rw [pures_eq e] at r1
    have r2 := FzAll.ofDrs r1
    by_cases l : xs.length ≤ sizeLine
    · rw [if_pos l] at h1
      exact ⟨by rw [r2.length]; exact l, fun a ha => ⟨a, vs, rfl, upd_same, fun o => new_frz h1 m1 r2 ha⟩⟩
    · rw [if_neg l] at h1; exact h1.elim
theorem ZE.lst (h : ZA X E es cs) : ZE X E (.List es pos) (zs mkLst cs) := by
  obtain ⟨t, p, q⟩ := h
  refine ⟨_, pe_lst p, fun σ H θ sl M Q hs hm h => q σ H θ sl M _ hs hm (Post.bind h fun ds M1 vs H1 θ1 g1 m1 r1 h1 => ?_)⟩
  unfold mkLst at h1
  by_cases l : ds.length ≤ sizeLine
  · rw [if_pos l] at h1
    exact ⟨by rw [Paired.length r1]; exact l, fun a ha => new_lst h1 m1 r1 ha⟩
  · rw [if_neg l] at h1; exact h1.elim
/-! ### an object of the store is frozen -/
def zfreeze (d : D) (M : Store) : Out D := match d with
  | .p x => .ok (.p x) M
  | .ref i => match M[i]? with
    | some (.lst ds) => match pures ds with
      | some xs => .ok (.p (.list xs)) (M.set i (.frz xs))
      | none => .stuck
    | some (.frz xs) => .ok (.p (.list xs)) M
    | some (.dic kvs) => match pures (kvs.map Prod.snd) with
      | some xs => .ok (.p (.dict ((kvs.map fun kv => kP kv.1).zip xs))) (M.set i (.fdc ((kvs.map fun kv => kP kv.1).zip xs)))
      | none => .stuck
    | some (.fdc ds) => .ok (.p (.dict ds)) M
    | _ => .stuck
@[simp] theorem zfreeze_p (x : P) (M : Store) : zfreeze (.p x) M = .ok (.p x) M := id rfl
def zfrz (a : ZC) : ZC := fun sl M => (a sl M).bind zfreeze
def FrzD (Q : VK) : VK := fun v H1 => ∃ a us, v = .ref a ∧ H1 a = some (.dK us) ∧ ∀ o, Q v (upd H1 a (.frz o (.dK us)))
theorem ep_frzD {pins : List (Addr × Obj)} {σ : L2.St} {Q : VK} {u : Value} {s : Shared} (h : EP X pins σ (FrzD Q) u s) : EP X pins σ Q u s := by
  obtain ⟨v, H1, I, r, a, xs, rfl, e, q⟩ := h
  obtain ⟨o, I2⟩ := I.lock e trivial
  exact ⟨_, _, I2, r, q o⟩
theorem pairs_keys {κ : Type} {K : PySem.W.Frag} {θ : List Addr} {H : Hp} : ∀ {us : List (κ × V)} {kvs : List (κ × D)}, Paired (fun (p : κ × V) (q : κ × D) => p.1 = q.1 ∧ Dr K θ H p.2 q.2) us kvs → us.map Prod.fst = kvs.map Prod.fst ∧ Drs K θ H (us.map Prod.snd) (kvs.map Prod.snd)
  | _, _, .nil => ⟨rfl, .nil⟩
  | _, _, .cons a b => by
    obtain ⟨h1, h2⟩ := pairs_keys b
    exact ⟨by rw [List.map_cons, List.map_cons, h1, a.1], .cons a.2 h2⟩
theorem ZE.frz (ha : ZE X E a ca) : ZE X E a (zfrz ca) := by
  obtain ⟨t, p, q⟩ := ha
  refine ⟨fun σ H Q => t σ H fun v H1 => Q v H1 ∨ FrzQ Q v H1 ∨ FrzD Q v H1, ⟨fun pins s σ H Q I w => thn (p.run pins s σ H _ I w) fun u s1 h => ?_⟩, fun σ H θ sl M Q hs hm h => q σ H θ sl M _ hs hm (Post.bind h fun x M1 v H1 θ1 g1 m1 r1 h1 => ?_)⟩
  · obtain ⟨v, H', I', r, h⟩ := h
    rcases h with h | h | h
    · exact ⟨v, H', I', r, h⟩
    · exact ep_frz ⟨v, H', I', r, h⟩
    · exact ep_frzD ⟨v, H', I', r, h⟩
  · cases x with
    | p y => exact .inl (Post.here (show Post X.K X.mg E (Dr X.K) Q θ1 H1 (.ok (.p y) M1) from h1) m1 r1)
    | ref i =>
      unfold zfreeze at h1
      simp only at h1
      cases e : M1[i]? with
      | none => rw [e] at h1; exact h1.elim
      | some ob =>
        rw [e] at h1
        obtain ⟨ad, hi, rfl, k⟩ := dr_ref m1 r1 e
        cases ob with
        | lst ds =>
          simp only at h1
          cases e2 : pures ds with
          | none => rw [e2] at h1; exact h1.elim
          | some xs =>
            rw [e2] at h1
            simp only at h1
            obtain ⟨vs, e3, rs⟩ := k
            rw [pures_eq e2] at rs
            refine .inr (.inl ⟨ad, vs, rfl, e3, fun o => ?_⟩)
            have f2 : FzAll X.K (upd H1 ad (.frz o (.lst vs))) vs xs := (FzAll.ofDrs rs).keep fun b u eb fb => by
              rw [upd_ne (fun z => by rw [z, e3] at eb; cases eb; exact fb)]; exact eb
            obtain ⟨s2, g2⟩ := m1.set hi e3 (u := .frz o (.lst vs)) (o := .frz xs) (fun z => z) ⟨vs, o, upd_same, f2⟩ rfl
            exact h1 _ _ θ1 g2 s2 (.lst (.inl ⟨o, upd_same⟩) f2)
        | frz xs =>
          simp only at h1
          obtain ⟨vs, o, e3, rs⟩ := k
          exact .inl (h1 _ _ θ1 .refl m1 (.lst (.inl ⟨o, e3⟩) rs))
        | dic kvs =>
          simp only at h1
          cases e2 : pures (kvs.map Prod.snd) with
          | none => rw [e2] at h1; exact h1.elim
          | some xs =>
            rw [e2] at h1
            simp only at h1
            obtain ⟨us, e3, rs⟩ := k
            obtain ⟨k1, k2⟩ := pairs_keys rs
            rw [pures_eq e2] at k2
            have xl : xs.length = kvs.length := by have := congrArg List.length (pures_eq e2); simpa using this.symm
            have hk : (((kvs.map fun kv => kP kv.1).zip xs).map Prod.fst) = us.map fun u => kP u.1 := by
              rw [List.map_fst_zip (by rw [List.length_map, xl]; exact Nat.le_refl _)]
              have := congrArg (List.map kP) k1
              rw [List.map_map, List.map_map] at this
              exact this.symm
            have hv : (((kvs.map fun kv => kP kv.1).zip xs).map Prod.snd) = xs := List.map_snd_zip (by rw [List.length_map, xl]; exact Nat.le_refl _)
            refine .inr (.inr ⟨ad, us, rfl, e3, fun o => ?_⟩)
            have f2 : FzAll X.K (upd H1 ad (.frz o (.dK us))) (us.map Prod.snd) (((kvs.map fun kv => kP kv.1).zip xs).map Prod.snd) := by
              rw [hv]
              exact (FzAll.ofDrs k2).keep fun b u eb fb => by
                rw [upd_ne (fun z => by rw [z, e3] at eb; cases eb; exact fb)]; exact eb
            obtain ⟨s2, g2⟩ := m1.set hi e3 (u := .frz o (.dK us)) (o := .fdc ((kvs.map fun kv => kP kv.1).zip xs)) (fun z => z) ⟨us, o, upd_same, hk, f2⟩ rfl
            exact h1 _ _ θ1 g2 s2 (.dct upd_same hk f2)
        | dit kvs => exact h1.elim
        | fdc ds =>
          simp only at h1
          obtain ⟨us, o, e3, r1, r2⟩ := k
          exact .inl (h1 _ _ θ1 .refl m1 (.dct e3 r1 r2))
end
end Z

/-! Z: operators on values. -/
namespace Z
open PySem PySem.Spec PyProof.Rows L2

/-! ### arithmetic -/
instance {i j : Int} : Decidable (CMul i j) := by unfold CMul; infer_instance
instance {i j : Int} : Decidable (CPow i j) := by unfold CPow; infer_instance
def frzl (ds : List D) (M : Store) : Out D := match pures ds with
  | some zs => if zs.length ≤ sizeLine then .ok (.p (.list zs)) M else .stuck
  | none => .stuck
@[simp] theorem frzl_map (xs : List P) (M : Store) : frzl (xs.map .p) M = if xs.length ≤ sizeLine then .ok (.p (.list xs)) M else .stuck := by simp [frzl]
def zAddL (a b : D) (M : Store) : Out D := match lstv M a, lstv M b with
  | some xs, some ys => frzl (xs ++ ys) M
  | _, _ => .stuck
def zAdd (a b : D) (M : Store) : Out D := match a, b with
  | .p (.int i), .p (.int j) => .ok (.p (.int (i + j))) M
  | .p (.tuple xs), .p (.tuple ys) => if xs.length + ys.length ≤ sizeLine then .ok (.p (.tuple (xs ++ ys))) M else .stuck
  | a, b => zAddL a b M
def zSub (a b : D) (M : Store) : Out D := match a, b with
  | .p (.int i), .p (.int j) => .ok (.p (.int (i - j))) M
  | _, _ => .stuck
def zMul (a b : D) (M : Store) : Out D := match a, b with
  | .p (.int i), .p (.int j) => if CMul i j then .ok (.p (.int (i * j))) M else .stuck
  | a, .p (.int k) => match lstv M a with
    | some xs => if -(2 ^ 63) ≤ k ∧ k < 2 ^ 63 ∧ xs.length * k.toNat ≤ sizeLine then frzl (List.replicate k.toNat xs).flatten M else .stuck
    | none => .stuck
  | _, _ => .stuck
def zMod (a b : D) (M : Store) : Out D := match a, b with
  | .p (.int i), .p (.int j) => if 0 < j then .ok (.p (.int (i % j))) M else .stuck
  | _, _ => .stuck
def zDiv (a b : D) (M : Store) : Out D := match a, b with
  | .p (.int i), .p (.int j) => if 0 < j ∧ j < 1073741824 then .ok (.p (.int (i / j))) M else .stuck
  | _, _ => .stuck
def zPow (a b : D) (M : Store) : Out D := match a, b with
  | .p (.int i), .p (.int j) => if CPow i j then .ok (.p (.int (i ^ j.toNat))) M else .stuck
  | _, _ => .stuck
def zNeg (a : D) (M : Store) : Out D := match a with
  | .p (.int i) => .ok (.p (.int (-i))) M
  | _ => .stuck

section
variable {X : Cx} {E : XK}
theorem zNeg_ok : UnR X (unaryOp .USub) (rZ1 X E zNeg) := by
  intro pins s σ H x v Q I rx h
  obtain ⟨d, θ, M, m, r, h⟩ := h
  cases d with
  | ref i => exact h.elim
  | p y =>
    cases y with
    | int i => cases r; exact un_neg pins s σ H _ v Q I rx ⟨i, rfl, Post.here (b := V.int (-i)) (show Post X.K X.mg E (Dr X.K) Q θ H (.ok (.p (.int (-i))) M) from h) m (Fz.int _)⟩
    | _ => exact h.elim
theorem op_catX : OpR X (binaryOp .Add) (fun x y H Q => ∃ l b xs zs, x = .ref l ∧ y = .ref b ∧ SqX X.K H l xs ∧ SqX X.K H b zs ∧ xs.length + zs.length ≤ sizeLine ∧ ∀ p, H p = none → Q (.ref p) (upd H p (.lst (xs ++ zs)))) := by
  intro pins s σ H x y v u Q I rx ry h
  obtain ⟨l, b, xs, zs, rfl, rfl, hH, hB, hz, q⟩ := h
  cases rx
  cases ry
  obtain ⟨z, its, n, r, hl, e⟩ := hH.at I
  obtain ⟨z2, its2, n2, r2, hl2, e2⟩ := hB.at I
  refine PySem.P.add_list e e2 ?_ (by rw [List.size_toArray, List.size_toArray]; omega)
  have ea : its.toArray ++ its2.toArray = (its ++ its2).toArray := by simp
  rw [ea]
  exact ⟨.ref _, _, I.lnew (t' := s.toks) (r.append r2) (by rw [List.length_append]; omega), rfl, q _ I.fresh⟩
theorem op_repX : OpR X (binaryOp .Mult) (fun x y H Q => ∃ l k xs, x = .ref l ∧ y = .int k ∧ SqX X.K H l xs ∧ -(2 ^ 63) ≤ k ∧ k < 2 ^ 63 ∧ xs.length * k.toNat ≤ sizeLine ∧
  ∀ p, H p = none → Q (.ref p) (upd H p (.lst (List.replicate k.toNat xs).flatten))) := by
  intro pins s σ H x y v u Q I rx ry h
  obtain ⟨l, k, xs, rfl, rfl, hH, h1, h2, hz, q⟩ := h
  cases rx
  obtain ⟨t, rfl⟩ := ry
  obtain ⟨z, its, n, r, hl, e⟩ := hH.at I
  have hlen : its.toArray.size * k.toNat ≤ sizeLine := by rw [List.size_toArray, ← hl]; exact hz
  have hcap : ¬ its.toArray.size * k.toNat > (2 ^ 63 - 1) / 8 := by
    have : (sizeLine : Nat) ≤ (2 ^ 63 - 1) / 8 := by decide
    omega
  have hfit : ¬ (!Builtin.List.listFitsIndex k) = true := by
    rw [fitsIndex_both h1 h2]
    exact Bool.false_ne_true
  have hlong : ¬ Builtin.List.listTooLong (its.toArray.size * k.toNat) = true := by
    rw [notLongL hlen]
    exact Bool.false_ne_true
  have hnew : List.foldl (fun x1 x2 => x1 ++ x2) #[] (List.replicate (if its.toArray.isEmpty = true then 0 else k.toNat) its.toArray) = (List.replicate k.toNat its).flatten.toArray := by
    have f0 : ∀ m : Nat, List.foldl (fun x1 x2 => x1 ++ x2) #[] (List.replicate m its.toArray) = (List.replicate m its).flatten.toArray := fun m => by
      have := foldl_rep its m []
      rw [List.nil_append] at this
      exact this
    rw [f0]
    cases its with
    | nil => simp
    | cons a r' => rw [if_neg (by simp)]
  refine wpAny_binaryOp_repeat_ref (T := "list") (U := "int") (by decide) ⟨_, e, rfl⟩ (fun s' => typeIs_int s' k t) noFill_list_mul F.fills_int_mul F.slot_int_rmul repeat_list F.slot_int_index.lookup
    (call_meets F.slot_int_rmul (typeIs_int s k t) F.entry_int_rmul (F.args_int_rmul_2 _ _) (int___rmul___int_list k t l its.toArray n)
      ⟨e, rfl, ⟨_, e, rfl⟩, call_meets F.slot_list_mul ⟨_, e, rfl⟩ F.entry_list_mul (F.args_list_mul_2 _ _) (AutoListH.list___mul___list_int_3 l its.toArray n k t hfit hcap hlong) ⟨e, ?_⟩⟩)
  rw [hnew]
  exact ⟨.ref _, _, I.lnew (t' := s.toks) (r.rep k.toNat) (by rw [PyProof.Rows.lm_len_rep_flat, Nat.mul_comm]; exact hz), rfl, q _ I.fresh⟩
theorem frzl_ok {θ : List Addr} {H : Hp} {M : Store} {Q : VK} {vs : List V} {ds : List D} (h : Post X.K X.mg E (Dr X.K) Q θ H (frzl ds M)) (m : SR X.K θ H M) (r : Drs X.K θ H vs ds) :
    vs.length ≤ sizeLine ∧ ∀ p, H p = none → FrzQ Q (.ref p) (upd H p (.lst vs)) := by
  unfold frzl at h
  cases e : pures ds with
  | none => rw [e] at h; exact h.elim
  | some zs =>
    rw [e] at h
    simp only at h
    rw [pures_eq e] at r
    have r2 := FzAll.ofDrs r
    by_cases l : zs.length ≤ sizeLine
    · rw [if_pos l] at h
      exact ⟨by rw [r2.length]; exact l, fun p hp => ⟨p, vs, rfl, upd_same, fun o => new_frz h m r2 hp⟩⟩
    · rw [if_neg l] at h; exact h.elim
theorem zAddL_ok (pins : List (Addr × Obj)) (s : Shared) (σ : L2.St) (H : Hp) (x y : V) (v u : Value) (Q : VK) (I : Inv X pins σ H s) (rx : RelV x v) (ry : RelV y u) (h : rZ2 X E zAddL x y H Q) :
    wpAny (model X.prog X.w) X.A (binaryOp .Add v u) (EP X pins σ Q) X.xe s := by
  obtain ⟨a, b, θ, M, m, ra, rb, h⟩ := h
  unfold zAddL at h
  cases e1 : lstv M a with
  | none => rw [e1] at h; exact h.elim
  | some xs =>
    cases e2 : lstv M b with
    | none => rw [e1, e2] at h; exact h.elim
    | some ys =>
      rw [e1, e2] at h
      simp only at h
      obtain ⟨p, vs, rfl, hp, dp⟩ := lstv_ok m ra e1
      obtain ⟨q, ws, rfl, hq, dq⟩ := lstv_ok m rb e2
      obtain ⟨l, k⟩ := frzl_ok h m (paired_append dp dq)
      rw [List.length_append] at l
      exact thn (op_catX pins s σ H _ _ v u (FrzQ Q) I rx ry ⟨p, q, vs, ws, rfl, rfl, hp, hq, l, k⟩) fun u s1 z => ep_frz z
theorem zAdd_ok : OpR X (binaryOp .Add) (rZ2 X E zAdd) := by
  intro pins s σ H x y v u Q I rx ry h
  obtain ⟨a, b, θ, M, m, ra, rb, h⟩ := h
  have list : ∀ (h : Post X.K X.mg E (Dr X.K) Q θ H (zAddL a b M)), wpAny (model X.prog X.w) X.A (binaryOp .Add v u) (EP X pins σ Q) X.xe s := fun h => zAddL_ok pins s σ H x y v u Q I rx ry ⟨a, b, θ, M, m, ra, rb, h⟩
  unfold zAdd at h
  split at h
  · rename_i i j
    cases ra; cases rb
    exact op_add pins s σ H _ _ v u Q I rx ry ⟨i, j, rfl, rfl, Post.here h m (Fz.int _)⟩
  · rename_i xs ys
    cases ra with
    | tup h1 k1 =>
      cases rb with
      | tup h2 k2 =>
        split at h
        · rename_i l
          have r := FzAll.of (paired_append k1.paired k2.paired)
          refine op_catA pins s σ H _ _ v u Q I rx ry ⟨_, _, _, _, rfl, rfl, h1, h2, by rw [k1.length, k2.length]; exact l, fun e => ?_, fun e e' => ?_, fun e e' p hp => new_tup h m r hp⟩
          · subst e
            cases k1
            exact Post.here h m (Fz.tup h2 k2)
          · subst e'
            cases k2
            rw [List.append_nil] at h
            exact Post.here h m (Fz.tup h1 k1)
        · exact h.elim
  · exact list h
theorem zSub_ok : OpR X (binaryOp .Sub) (rZ2 X E zSub) := by
  intro pins s σ H x y v u Q I rx ry h
  obtain ⟨a, b, θ, M, m, ra, rb, h⟩ := h
  unfold zSub at h
  split at h
  · rename_i i j
    cases ra; cases rb
    exact op_sub pins s σ H _ _ v u Q I rx ry ⟨i, j, rfl, rfl, Post.here h m (Fz.int _)⟩
  · exact h.elim
theorem flat_rep {R : V → D → Prop} : ∀ (k : Nat) {vs : List V} {ds : List D}, Paired R vs ds → Paired R (List.replicate k vs).flatten (List.replicate k ds).flatten
  | 0, _, _, _ => .nil
  | k + 1, _, _, h => by
    rw [List.replicate_succ, List.replicate_succ, List.flatten_cons, List.flatten_cons]
    exact paired_append h (flat_rep k h)
theorem zMul_ok : OpR X (binaryOp .Mult) (rZ2 X E zMul) := by
  intro pins s σ H x y v u Q I rx ry h
  obtain ⟨a, b, θ, M, m, ra, rb, h⟩ := h
  unfold zMul at h
  split at h
  · rename_i i j
    split at h
    · rename_i c
      cases ra; cases rb
      exact op_mul pins s σ H _ _ v u Q I rx ry ⟨i, j, rfl, rfl, c, Post.here h m (Fz.int _)⟩
    · exact h.elim
  · rename_i k _
    cases rb
    cases e : lstv M a with
    | none => rw [e] at h; exact h.elim
    | some xs =>
      rw [e] at h
      simp only at h
      split at h
      · rename_i c
        obtain ⟨p, vs, rfl, hp, dp⟩ := lstv_ok m ra e
        obtain ⟨l, kk⟩ := frzl_ok h m (flat_rep k.toNat dp)
        exact thn (op_repX pins s σ H _ _ v u (FrzQ Q) I rx ry ⟨p, k, vs, rfl, rfl, hp, c.1, c.2.1, by rw [Paired.length dp]; exact c.2.2, kk⟩) fun u s1 z => ep_frz z
      · exact h.elim
  · exact h.elim
theorem zMod_ok : OpR X (binaryOp .Mod) (rZ2 X E zMod) := by
  intro pins s σ H x y v u Q I rx ry h
  obtain ⟨a, b, θ, M, m, ra, rb, h⟩ := h
  unfold zMod at h
  split at h
  · rename_i i j
    split at h
    · rename_i c
      cases ra; cases rb
      exact op_mod pins s σ H _ _ v u Q I rx ry ⟨i, j, rfl, rfl, c, Post.here h m (Fz.int _)⟩
    · exact h.elim
  · exact h.elim
theorem zDiv_ok : OpR X (binaryOp .FloorDiv) (rZ2 X E zDiv) := by
  intro pins s σ H x y v u Q I rx ry h
  obtain ⟨a, b, θ, M, m, ra, rb, h⟩ := h
  unfold zDiv at h
  split at h
  · rename_i i j
    split at h
    · rename_i c
      cases ra; cases rb
      exact op_fdiv pins s σ H _ _ v u Q I rx ry ⟨i, j, rfl, rfl, c, Post.here h m (Fz.int _)⟩
    · exact h.elim
  · exact h.elim
theorem zPow_ok : OpR X (binaryOp .Pow) (rZ2 X E zPow) := by
  intro pins s σ H x y v u Q I rx ry h
  obtain ⟨a, b, θ, M, m, ra, rb, h⟩ := h
  unfold zPow at h
  split at h
  · rename_i i j
    split at h
    · rename_i c
      cases ra; cases rb
      exact op_pow pins s σ H _ _ v u Q I rx ry ⟨i, j, rfl, rfl, c, Post.here h m (Fz.int _)⟩
    · exact h.elim
  · exact h.elim
end

/-! ### comparisons -/
def zcmpI (f : Int → Int → Bool) (a b : D) (M : Store) : Out D := match a, b with
  | .p (.int i), .p (.int j) => .ok (.p (.bool (f i j))) M
  | _, _ => .stuck
abbrev zLt := zcmpI fun i j => decide (i < j)
abbrev zLe := zcmpI fun i j => decide (i ≤ j)
abbrev zGt := zcmpI fun i j => decide (j < i)
abbrev zGe := zcmpI fun i j => decide (j ≤ i)
/-- == of data -/
def peq : P → P → Option Bool
  | .int i, .int j => some (decide (i = j))
  | .str x, .str y => some (decide (x = y))
  | .none, .none => some true
  | x, y => if SeqAt.shaped x = true ∧ SeqAt.shaped y = true then some (PyData.eqv x y) else none
def zEq (a b : D) (M : Store) : Out D := match snap 6 M a, snap 6 M b with
  | some x, some y => match peq x y with
    | some r => .ok (.p (.bool r)) M
    | none => .stuck
  | _, _ => .stuck
def zNe (a b : D) (M : Store) : Out D := match snap 6 M a, snap 6 M b with
  | some x, some y => match peq x y with
    | some r => .ok (.p (.bool (!r))) M
    | none => .stuck
  | _, _ => .stuck
theorem sh_int (i : Int) : SeqAt.shaped (.int i) = true := by simp [SeqAt.shaped, PyData.canLay0, PyData.depth]
theorem peq_cases {x y : P} {r : Bool} (h : peq x y = some r) : (SeqAt.shaped x = true ∧ SeqAt.shaped y = true ∧ r = PyData.eqv x y) ∨ (∃ i j, x = .int i ∧ y = .int j ∧ r = decide (i = j)) ∨ (∃ i j, x = .str i ∧ y = .str j ∧ r = decide (i = j)) ∨ (x = .none ∧ y = .none ∧ r = true) := by
  unfold peq at h
  split at h
  · cases h; exact .inr (.inl ⟨_, _, rfl, rfl, rfl⟩)
  · cases h; exact .inr (.inr (.inl ⟨_, _, rfl, rfl, rfl⟩))
  · cases h; exact .inr (.inr (.inr ⟨rfl, rfl, rfl⟩))
  · split at h
    · rename_i c
      cases h
      exact .inl ⟨c.1, c.2, rfl⟩
    · cases h
theorem sh_noDict {x : P} (h : SeqAt.shaped x = true) : x.hasDict = false := by
  have h' : (x.canLay0 && decide (x.depth ≤ 64)) = true := h
  rw [Bool.and_eq_true] at h'
  exact PyData.hasDict_of_canLay x h'.1
theorem peq_noDict {x y : P} {r : Bool} (h : peq x y = some r) : x.hasDict = false ∧ y.hasDict = false := by
  rcases peq_cases h with ⟨k1, k2, _⟩ | ⟨i, j, rfl, rfl, _⟩ | ⟨i, j, rfl, rfl, _⟩ | ⟨rfl, rfl, _⟩
  · exact ⟨sh_noDict k1, sh_noDict k2⟩
  · exact ⟨rfl, rfl⟩
  · exact ⟨rfl, rfl⟩
  · exact ⟨rfl, rfl⟩
/-- x in c -/
def zinL (neg : Bool) (a b : D) (M : Store) : Out D := match snap 6 M a, snap 6 M b with
  | some x, some (.list ys) => if SeqAt.shaped x = true ∧ SeqAt.shaped (.list ys) = true then .ok (.p (.bool (neg ^^ ys.any fun z => PyData.eqv z x))) M else .stuck
  | some x, some (.tuple ys) => if SeqAt.shaped x = true ∧ SeqAt.shaped (.tuple ys) = true then .ok (.p (.bool (neg ^^ ys.any fun z => PyData.eqv z x))) M else .stuck
  | _, _ => .stuck
def zin (neg : Bool) (a b : D) (M : Store) : Out D := match dictv M b with
  | some kvs => match a with
    | .p x => match kOf x with
      | some k => .ok (.p (.bool (neg ^^ (valD kvs k).isSome))) M
      | none => .stuck
    | _ => .stuck
  | none => zinL neg a b M
abbrev zIn := zin false
abbrev zNotIn := zin true
def zIs (neg : Bool) (a b : D) (M : Store) : Out D := match b with
  | .p .none => match a with
    | .p .none => .ok (.p (.bool (neg ^^ true))) M
    | _ => .ok (.p (.bool (neg ^^ false))) M
  | .p (.bool k) => match a with
    | .p (.bool j) => .ok (.p (.bool (neg ^^ decide (j = k)))) M
    | _ => .stuck
  | _ => .stuck
section
variable {X : Cx} {E : XK}
theorem cmpI_ok {op : CmpOp} {f : Int → Int → Bool} (h0 : OpR X (compareOp op) (rI0 fun i j => .bl (f i j))) : OpR X (compareOp op) (rZ2 X E (zcmpI f)) := by
  intro pins s σ H x y v u Q I rx ry h
  obtain ⟨a, b, θ, M, m, ra, rb, h⟩ := h
  unfold zcmpI at h
  split at h
  · rename_i i j
    cases ra; cases rb
    exact h0 pins s σ H _ _ v u Q I rx ry ⟨i, j, rfl, rfl, Post.here h m (Fz.bl _)⟩
  · exact h.elim
theorem zLt_ok : OpR X (compareOp .Lt) (rZ2 X E zLt) := cmpI_ok op_lt
theorem zLe_ok : OpR X (compareOp .LtE) (rZ2 X E zLe) := cmpI_ok op_le
theorem zGt_ok : OpR X (compareOp .Gt) (rZ2 X E zGt) := cmpI_ok op_gt
theorem zGe_ok : OpR X (compareOp .GtE) (rZ2 X E zGe) := cmpI_ok op_ge
theorem zEq_ok (zx : ZX X) : OpR X (compareOp .Eq) (rZ2 X E zEq) := by
  intro pins s σ H x y v u Q I rx ry h
  obtain ⟨a, b, θ, M, m, ra, rb, h⟩ := h
  unfold zEq at h
  split at h
  · rename_i d e h1 h2
    split at h
    · rename_i r h3
      have hd := peq_noDict h3
      have d1 := snap_dp m _ _ _ _ ra h1 hd.1
      have d2 := snap_dp m _ _ _ _ rb h2 hd.2
      have q : Q (.bl (r)) H := Post.here h m (Fz.bl _)
      rcases peq_cases h3 with ⟨k1, k2, rfl⟩ | ⟨i, j, rfl, rfl, rfl⟩ | ⟨i, j, rfl, rfl, rfl⟩ | ⟨rfl, rfl, rfl⟩
      · exact op_eqD (by have := zx.hu; omega) pins s σ H _ _ v u Q I rx ry ⟨d, e, d1, d2, k1, k2, q⟩
      · cases d1; cases d2
        exact op_eq pins s σ H _ _ v u Q I rx ry ⟨rfl, by simpa using q⟩
      · cases d1; cases d2
        exact op_eq pins s σ H _ _ v u Q I rx ry ⟨rfl, by simpa using q⟩
      · cases d1; cases d2
        exact op_eq pins s σ H _ _ v u Q I rx ry ⟨rfl, by simpa using q⟩
    · exact h.elim
  · exact h.elim
theorem zNe_ok (zx : ZX X) : OpR X (compareOp .NotEq) (rZ2 X E zNe) := by
  intro pins s σ H x y v u Q I rx ry h
  obtain ⟨a, b, θ, M, m, ra, rb, h⟩ := h
  unfold zNe at h
  split at h
  · rename_i d e h1 h2
    split at h
    · rename_i r h3
      have hd := peq_noDict h3
      have d1 := snap_dp m _ _ _ _ ra h1 hd.1
      have d2 := snap_dp m _ _ _ _ rb h2 hd.2
      have q : Q (.bl (!r)) H := Post.here h m (Fz.bl _)
      rcases peq_cases h3 with ⟨k1, k2, rfl⟩ | ⟨i, j, rfl, rfl, rfl⟩ | ⟨i, j, rfl, rfl, rfl⟩ | ⟨rfl, rfl, rfl⟩
      · exact op_neD (by have := zx.hu; omega) pins s σ H _ _ v u Q I rx ry ⟨d, e, d1, d2, k1, k2, q⟩
      · cases d1; cases d2
        exact op_ne pins s σ H _ _ v u Q I rx ry ⟨rfl, by simpa using q⟩
      · cases d1; cases d2
        exact op_ne pins s σ H _ _ v u Q I rx ry ⟨rfl, by simpa using q⟩
      · cases d1; cases d2
        exact op_ne pins s σ H _ _ v u Q I rx ry ⟨rfl, by simpa using q⟩
    · exact h.elim
  · exact h.elim
theorem zIn_ok (zx : ZX X) : OpR X (compareOp .In) (rZ2 X E zIn) := by
  intro pins s σ H x y v u Q I rx ry h
  obtain ⟨a, b, θ, M, m, ra, rb, h⟩ := h
  have hu := zx.hu
  unfold zIn zin at h
  split at h
  · rename_i kvs e1
    obtain ⟨p, us, rfl, hp, dp⟩ := dictv_ok m rb e1
    cases ry
    split at h
    · split at h
      · rename_i k ek
        have ev := kv_is ra ek
        subst ev
        have g : DGet H p (kV k) (valV us k) := .inl ⟨us, k, hp, rfl, rfl⟩
        have es : (valV us k).isSome = (valD kvs k).isSome := by
          rcases kd_val k dp with ⟨h1, h2⟩ | ⟨_, _, h1, h2, _⟩ <;> rw [h1, h2] <;> rfl
        refine d_in (by omega) I g rx fun s' I' => ⟨.bl (valV us k).isSome, H, I', rfl, ?_⟩
        rw [es]
        rw [Bool.false_xor] at h
        exact Post.here h m (Fz.bl _)
      · exact h.elim
    · exact h.elim
  unfold zinL at h
  split at h
  · rename_i d ds h1 h2
    split at h
    · rename_i c
      rw [Bool.false_xor] at h
      exact op_inD (by omega) pins s σ H _ _ v u Q I rx ry ⟨d, ds, snap_dp m _ _ _ _ ra h1 (sh_noDict c.1), snap_dp m _ _ _ _ rb h2 (sh_noDict c.2), c.1, c.2, Post.here h m (Fz.bl _)⟩
    · exact h.elim
  · rename_i d ds h1 h2
    split at h
    · rename_i c
      rw [Bool.false_xor] at h
      obtain ⟨as, r1⟩ := Dp.reads I d x v (snap_dp m _ _ _ _ ra h1 (sh_noDict c.1)) rx
      obtain ⟨bs, r2⟩ := Dp.reads I (.tuple ds) y u (snap_dp m _ _ _ _ rb h2 (sh_noDict c.2)) ry
      exact SeqAt.in_tuple_reads r2 r1 (SeqAt.canLay_of_shaped c.2) (SeqAt.canLay_of_shaped c.1) (room_in_shaped c.1 (by omega)) ⟨.bl _, H, I, rfl, Post.here h m (Fz.bl _)⟩
    · exact h.elim
  · exact h.elim
theorem zNotIn_ok (zx : ZX X) : OpR X (compareOp .NotIn) (rZ2 X E zNotIn) := by
  intro pins s σ H x y v u Q I rx ry h
  obtain ⟨a, b, θ, M, m, ra, rb, h⟩ := h
  have hu := zx.hu
  unfold zNotIn zin at h
  split at h
  · rename_i kvs e1
    obtain ⟨p, us, rfl, hp, dp⟩ := dictv_ok m rb e1
    cases ry
    split at h
    · split at h
      · rename_i k ek
        have ev := kv_is ra ek
        subst ev
        have g : DGet H p (kV k) (valV us k) := .inl ⟨us, k, hp, rfl, rfl⟩
        have es : (valV us k).isSome = (valD kvs k).isSome := by
          rcases kd_val k dp with ⟨h1, h2⟩ | ⟨_, _, h1, h2, _⟩ <;> rw [h1, h2] <;> rfl
        refine d_notIn (by omega) I g rx fun s' I' => ⟨.bl (!(valV us k).isSome), H, I', rfl, ?_⟩
        rw [es]
        rw [Bool.true_xor] at h
        exact Post.here h m (Fz.bl _)
      · exact h.elim
    · exact h.elim
  unfold zinL at h
  split at h
  · rename_i d ds h1 h2
    split at h
    · rename_i c
      rw [Bool.true_xor] at h
      exact op_notInD (by omega) pins s σ H _ _ v u Q I rx ry ⟨d, ds, snap_dp m _ _ _ _ ra h1 (sh_noDict c.1), snap_dp m _ _ _ _ rb h2 (sh_noDict c.2), c.1, c.2, Post.here h m (Fz.bl _)⟩
    · exact h.elim
  · rename_i d ds h1 h2
    split at h
    · rename_i c
      rw [Bool.true_xor] at h
      obtain ⟨as, r1⟩ := Dp.reads I d x v (snap_dp m _ _ _ _ ra h1 (sh_noDict c.1)) rx
      obtain ⟨bs, r2⟩ := Dp.reads I (.tuple ds) y u (snap_dp m _ _ _ _ rb h2 (sh_noDict c.2)) ry
      exact SeqAt.notIn_tuple_reads r2 r1 (SeqAt.canLay_of_shaped c.2) (SeqAt.canLay_of_shaped c.1) (room_in_shaped c.1 (by omega)) ⟨.bl _, H, I, rfl, Post.here h m (Fz.bl _)⟩
    · exact h.elim
  · exact h.elim
theorem fz_none {K : PySem.W.Frag} {H : Hp} {v : V} {d : P} (r : Fz K H v d) : decide (v = .non) = (match d with | .none => true | _ => false) := by
  cases r <;> simp
theorem is_cases {neg : Bool} {a b : D} {M : Store} {θ : List Addr} {H : Hp} {x y : V} {Q : VK} (m : SR X.K θ H M) (ra : Dr X.K θ H x a) (rb : Dr X.K θ H y b) (h : Post X.K X.mg E (Dr X.K) Q θ H (zIs neg a b M)) :
    (y = .non ∧ Q (.bl (neg ^^ decide (x = .non))) H) ∨ (∃ j k, x = .bl j ∧ y = .bl k ∧ Q (.bl (neg ^^ decide (j = k))) H) := by
  unfold zIs at h
  split at h
  · cases rb
    refine .inl ⟨rfl, ?_⟩
    cases a with
    | ref i =>
      obtain ⟨p, _, rfl⟩ := ra
      exact Post.here (show Post X.K X.mg E (Dr X.K) Q θ H (.ok (.p (.bool (neg ^^ decide (V.ref p = .non)))) M) from h) m (Fz.bl _)
    | p d =>
      rw [fz_none ra]
      cases d with
      | none => exact Post.here (show Post X.K X.mg E (Dr X.K) Q θ H (.ok (.p (.bool (neg ^^ true))) M) from h) m (Fz.bl _)
      | _ => exact Post.here (show Post X.K X.mg E (Dr X.K) Q θ H (.ok (.p (.bool (neg ^^ false))) M) from h) m (Fz.bl _)
  · split at h
    · cases ra; cases rb
      exact .inr ⟨_, _, rfl, rfl, Post.here h m (Fz.bl _)⟩
    · exact h.elim
  · exact h.elim
theorem zIs_ok : OpR X (compareOp .Is) (rZ2 X E (zIs false)) := by
  intro pins s σ H x y v u Q I rx ry h
  obtain ⟨a, b, θ, M, m, ra, rb, h⟩ := h
  rcases is_cases m ra rb h with ⟨e, q⟩ | ⟨j, k, e1, e2, q⟩
  · rw [Bool.false_xor] at q
    exact op_isN pins s σ H _ _ v u Q I rx ry ⟨e, q⟩
  · rw [Bool.false_xor] at q
    exact op_is_bl pins s σ H _ _ v u Q I rx ry ⟨j, k, e1, e2, q⟩
theorem zIsNot_ok : OpR X (compareOp .IsNot) (rZ2 X E (zIs true)) := by
  intro pins s σ H x y v u Q I rx ry h
  obtain ⟨a, b, θ, M, m, ra, rb, h⟩ := h
  rcases is_cases m ra rb h with ⟨e, q⟩ | ⟨j, k, e1, e2, q⟩
  · rw [Bool.true_xor] at q
    exact op_notN pins s σ H _ _ v u Q I rx ry ⟨e, q⟩
  · rw [Bool.true_xor] at q
    exact op_isnot_bl pins s σ H _ _ v u Q I rx ry ⟨j, k, e1, e2, q⟩
end

/-! ### subscripts -/
def zIxL (a b : D) (M : Store) : Out D := match b with
  | .p (.int i) => match a with
    | .p (.tuple xs) => match atI xs i with
      | some x => .ok (.p x) M
      | none => .stuck
    | a => match lstv M a with
      | some ds => match atI ds i with
        | some d => .ok d M
        | none => .stuck
      | none => .stuck
  | _ => .stuck
def zIx (a b : D) (M : Store) : Out D := match dictv M a with
  | some kvs => match b with
    | .p x => match kOf x with
      | some k => match valD kvs k with
        | some d => .ok d M
        | none => .stuck
      | none => .stuck
    | _ => .stuck
  | none => zIxL a b M
theorem atI_paired {α β : Type} {R : α → β → Prop} {l : List α} {m : List β} (h : Paired R l m) {i : Int} {b : β} (e : atI m i = some b) : ∃ a, atI l i = some a ∧ R a b := by
  unfold atI at e ⊢
  rw [Paired.length h]
  cases q : ixN m.length i with
  | none => rw [q] at e; cases e
  | some j =>
    rw [q] at e
    obtain ⟨a, h1, h2⟩ := paired_at h (i := j) (b := b) e
    exact ⟨a, h1, h2⟩
section
variable {X : Cx} {E : XK} {a b : Expr} {ca cb : ZC} {pos : Pos}
theorem zIx_ok (zx : ZX X) : IxR X (rZ2 X E zIx) := by
  intro value slice pins s σ H x y v u Q I rx ry h hs
  obtain ⟨d, e, θ, M, m, ra, rb, h⟩ := h
  have hu := zx.hu
  unfold zIx at h
  split at h
  · rename_i kvs e1
    obtain ⟨p, us, rfl, hp, dp⟩ := dictv_ok m ra e1
    cases rx
    split at h
    · split at h
      · rename_i k ek
        have ev := kv_is rb ek
        subst ev
        split at h
        · rename_i dd ed
          rcases kd_val k dp with ⟨h1, h2⟩ | ⟨v1, d1, h1, h2, r1⟩
          · rw [h2] at ed; cases ed
          · rw [h2] at ed
            cases ed
            have g : DGet H p (kV k) (some v1) := .inl ⟨us, k, hp, rfl, h1.symm⟩
            exact tail_any (dict_typeIs I g) PySem.F.slot_dict_getitem.lookup (d_getItem (by omega) I g ry fun w' s' I' r' => ⟨v1, H, I', r', Post.here h m r1⟩) hs
        · exact h.elim
      · exact h.elim
    · exact h.elim
  unfold zIxL at h
  split at h
  · rename_i i
    cases rb
    split at h
    · rename_i xs
      split at h
      · rename_i z ez
        cases ra with
        | tup h1 k1 =>
          obtain ⟨w, ew, rw'⟩ := atI_paired k1.paired ez
          exact ix_tup value slice pins s σ H _ _ v u Q I rx ry ⟨_, _, i, w, rfl, rfl, h1, ew, Post.here (show Post X.K X.mg E (Dr X.K) Q θ H (.ok (.p z) M) from h) m rw'⟩ hs
      · exact h.elim
    · split at h
      · rename_i ds e1
        split at h
        · rename_i z ez
          obtain ⟨p, vs, rfl, hp, dp⟩ := lstv_ok m ra e1
          obtain ⟨w, ew, rw'⟩ := atI_paired dp ez
          exact ix_list value slice pins s σ H _ _ v u Q I rx ry ⟨_, _, i, w, rfl, rfl, hp.sq, ew, Post.here h m rw'⟩ hs
        · exact h.elim
      · exact h.elim
  · exact h.elim
theorem ZE.ix (zx : ZX X) (ha : ZE X E a ca) (hb : ZE X E b cb) (hs : PlainIx b := by exact fun _ _ => rfl) : ZE X E (.Subscript a b pos) (z2 zIx ca cb) := by
  obtain ⟨ta, pa, qa⟩ := ha
  obtain ⟨tb, pb, qb⟩ := hb
  exact ⟨_, pe_ix (zIx_ok zx) pa pb hs, fun σ H θ sl M Q hs hm h => two qa qb hs hm h⟩
/-! ### slices -/
def cutG {α : Type} (xs : List α) (lo hi : Option Int) : List α := (xs.drop (HT.sIx xs.length 0 lo)).take (HT.sIx xs.length xs.length hi - HT.sIx xs.length 0 lo)
def zSl (d : D) (lo hi : Option Int) (M : Store) : Out D := match d with
  | .p (.tuple xs) => .ok (.p (.tuple (cutG xs lo hi))) M
  | d => match lstv M d with
    | some ds => frzl (cutG ds lo hi) M
    | none => .stuck
abbrev ZO := Sl → Store → Out (Option Int)
def EqO : List Addr → Hp → Option Int → Option Int → Prop := fun _ _ b a => b = a
def ZP (X : Cx) (E : XK) (e : Option Expr) (c : ZO) : Prop := ∃ t, PO X e t ∧ ∀ σ H θ sl M Q, SV X.K θ H σ sl → SR X.K θ H M → Post X.K X.mg E EqO Q θ H (c sl M) → t σ H Q
def zno : ZO := fun _ M => .ok none M
def zpart (a : ZC) : ZO := fun sl M => (a sl M).bind fun d M1 => match d with
  | .p (.int i) => .ok (some i) M1
  | _ => .stuck
theorem ZP.none : ZP X E Option.none zno := ⟨_, po_none, fun σ H θ sl M Q hs hm h => Post.here (show Post X.K X.mg E EqO Q θ H (.ok Option.none M) from h) hm rfl⟩
theorem ZP.some (ha : ZE X E a ca) : ZP X E (Option.some a) (zpart ca) := by
  obtain ⟨ta, pa, qa⟩ := ha
  refine ⟨_, po_some pa, fun σ H θ sl M Q hs hm h => qa σ H θ sl M _ hs hm (Post.bind h fun x M1 v H1 θ1 g1 m1 r1 h1 => ?_)⟩
  cases x with
  | ref i => exact h1.elim
  | p y =>
    cases y with
    | int i => cases r1; exact ⟨i, rfl, Post.here (show Post X.K X.mg E EqO Q θ1 H1 (.ok (Option.some i) M1) from h1) m1 rfl⟩
    | _ => exact h1.elim
def zslice (a : ZC) (l h : ZO) : ZC := fun sl M => (a sl M).bind fun d M1 => (l sl M1).bind fun lo M2 => (h sl M2).bind fun hi M3 => zSl d lo hi M3
theorem paired_cut {α β : Type} {R : α → β → Prop} {l : List α} {m : List β} (h : Paired R l m) (lo hi : Option Int) : Paired R (cutG l lo hi) (cutG m lo hi) := by
  unfold cutG
  rw [Paired.length h]
  exact paired_take _ (paired_drop _ h)
def rZsl (X : Cx) (E : XK) : V → Option Int → Option Int → Hp → VK → Prop := fun x lo hi H Q => ∃ d θ M, SR X.K θ H M ∧ Dr X.K θ H x d ∧ Post X.K X.mg E (Dr X.K) Q θ H (zSl d lo hi M)
theorem zSl_ok : SlR X (rZsl X E) := by
  intro pins s σ H x v vl vu lo hi sl Q I rx hs pl pu h
  obtain ⟨d, θ, M, m, ra, h⟩ := h
  unfold zSl at h
  split at h
  · rename_i xs
    cases ra with
    | tup h1 k1 =>
      have k2 := FzAll.of (paired_cut k1.paired lo hi)
      refine sl_tupA pins s σ H _ v vl vu lo hi sl Q I rx hs pl pu ⟨_, _, rfl, h1, fun w => ?_, fun w p hp => new_tup h m k2 hp⟩
      have e : cutG xs lo hi = xs := by
        unfold cutG
        rw [← k1.length, w.1, w.2, List.drop_zero, k1.length, Nat.sub_zero, List.take_length]
      rw [e] at h
      exact Post.here h m (Fz.tup h1 k1)
  · split at h
    · rename_i ds e1
      obtain ⟨p, vs, rfl, hp, dp⟩ := lstv_ok m ra e1
      obtain ⟨l, k⟩ := frzl_ok h m (paired_cut dp lo hi)
      obtain ⟨T, id, q1, q2, q3⟩ := sl_list pins s σ H _ v vl vu lo hi sl (FrzQ Q) I rx hs pl pu ⟨p, vs, rfl, hp.sq, k⟩
      exact ⟨T, id, q1, q2, thn q3 fun u s1 z => ep_frz z⟩
    · exact h.elim
theorem ZE.sl {lo hi : Option Expr} {cl ch : ZO} {p2 : Pos} (ha : ZE X E a ca) (hl : ZP X E lo cl) (hh : ZP X E hi ch) : ZE X E (.Subscript a (.Slice lo hi Option.none p2) pos) (zslice ca cl ch) := by
  obtain ⟨ta, pa, qa⟩ := ha
  obtain ⟨tl, pl, ql⟩ := hl
  obtain ⟨th, ph, qh⟩ := hh
  refine ⟨_, pe_slice (zSl_ok (E := E)) pa pl ph, fun σ H θ sl M Q hs hm h => qa σ H θ sl M _ hs hm (Post.bind h fun x M1 v H1 θ1 g1 m1 r1 h1 => ?_)⟩
  refine ql σ H1 θ1 sl M1 _ (hs.go g1) m1 (Post.bind h1 fun l M2 l' H2 θ2 g2 m2 r2 h2 => ?_)
  cases r2
  refine qh σ H2 θ2 sl M2 _ ((hs.go g1).go g2) m2 (Post.bind h2 fun l M3 l' H3 θ3 g3 m3 r3 h3 => ?_)
  cases r3
  exact ⟨x, θ3, M3, m3, (r1.go g2).go g3, h3⟩
end
end Z

/-! Z: built-ins called by name; methods of lists. -/
namespace Z
open PySem PySem.Spec PyProof.Rows L2
section
variable {X : Cx} {E : XK} {e a b c o : Expr} {es : List Expr} {pos p apos cpos : Pos} {ca cb cc co : ZC} {cs : ZCs}
/-! ### the forms of calls -/
theorem ZE.callB {x : Str} {id : String} {g : List D → Store → Out D} (hc : CallR X (.builtin id) (rZs X E g)) (hg : Gl X x) (hm : X.mg x = none) (hv : bootBuiltins x = some (.builtin id)) (ha : ZA X E (e :: es) cs)
    (hn : x ≠ "__name__" := by decide) (hdb : (x == ("__debug__" : Str)) = false := by decide)
    (he : starEach (e :: es) X.env = (false, eval e X.env) :: starEach es X.env := by rfl) (hpl : (backTo pos (starEach es X.env)).any (·.1) = false := by rfl) : ZE X E (.Call (.Name x p) (e :: es) [] pos) (zs g cs) := by
  obtain ⟨t, pa, q⟩ := ha
  exact ⟨_, pe_callB hc hg hm hv pa hn hdb he hpl, fun σ H θ sl M Q hs hm h => q σ H θ sl M _ hs hm (Post.bind h fun ds M1 vs H1 θ1 g1 m1 r1 h1 => ⟨ds, θ1, M1, m1, r1, h1⟩)⟩
theorem ZE.callTy {x : Str} {id : String} {g : List D → Store → Out D} (hc : CallR X (.type id) (rZs X E g)) (hg : Gl X x) (hm : X.mg x = none) (hv : bootBuiltins x = some (.type id)) (ha : ZA X E (e :: es) cs)
    (hn : x ≠ "__name__" := by decide) (hdb : (x == ("__debug__" : Str)) = false := by decide)
    (he : starEach (e :: es) X.env = (false, eval e X.env) :: starEach es X.env := by rfl) (hpl : (backTo pos (starEach es X.env)).any (·.1) = false := by rfl) : ZE X E (.Call (.Name x p) (e :: es) [] pos) (zs g cs) := by
  obtain ⟨t, pa, q⟩ := ha
  exact ⟨_, pe_callTy hc hg hm hv pa hn hdb he hpl, fun σ H θ sl M Q hs hm h => q σ H θ sl M _ hs hm (Post.bind h fun ds M1 vs H1 θ1 g1 m1 r1 h1 => ⟨ds, θ1, M1, m1, r1, h1⟩)⟩
/-- *e in a list of arguments, a display -/
def zstar (a : ZC) (r : ZCs) : ZCs := fun sl M => (a sl M).bind fun x M1 => match x with
  | .p (.tuple xs) => (r sl M1).bind fun ys M2 => .ok (xs.map .p ++ ys) M2
  | x => match lstv M1 x with
    | some xs => (r sl M1).bind fun ys M2 => .ok (xs ++ ys) M2
    | none => .stuck
theorem ZA.star (ha : ZE X E a ca) (hr : ZA X E es cs) (hs : starEach (.Starred a p :: es) X.env = (true, eval a X.env) :: starEach es X.env := by rfl) : ZA X E (.Starred a p :: es) (zstar ca cs) := by
  obtain ⟨t, pa, q⟩ := ha
  obtain ⟨u, pr, qr⟩ := hr
  refine ⟨_, StX.pa_star pa pr hs, fun σ H θ sl M Q hs hm h => q σ H θ sl M _ hs hm (Post.bind h fun x M1 v H1 θ1 g1 m1 r1 h1 => ?_)⟩
  have fin : ∀ {ws : List V} {xs : List D}, Drs X.K θ1 H1 ws xs → Post X.K X.mg E (Drs X.K) Q θ1 H1 ((cs sl M1).bind fun ys M2 => .ok (xs ++ ys) M2) → u σ H1 fun ys H2 => Q (ws ++ ys) H2 := fun {ws xs} r h =>
    qr σ H1 θ1 sl M1 _ (hs.go g1) m1 (Post.bind h fun ys M2 vs H2 θ2 g2 m2 r2 h2 => Post.here (b := ws ++ vs) (show Post X.K X.mg E (Drs X.K) Q θ2 H2 (.ok (xs ++ ys) M2) from h2) m2 (paired_append (Drs.go g2 r) r2))
  split at h1
  · rename_i xs
    cases r1 with
    | tup k1 k2 => exact ⟨_, _, rfl, .inl k1, fin k2.drs h1⟩
  · split at h1
    · rename_i xs e1
      obtain ⟨ad, vs, rfl, hp, dp⟩ := lstv_ok m1 r1 e1
      exact ⟨_, _, rfl, .inr hp.sq, fin dp h1⟩
    · exact h1.elim
end

/-! ### len, int, abs, min, max, sum -/
def zLen (ds : List D) (M : Store) : Out D := match ds with
  | [d] => match d with
    | .p (.tuple xs) => .ok (.p (.int xs.length)) M
    | .p (.str x) => if x.length ≤ sizeLine then .ok (.p (.int x.length)) M else .stuck
    | d => match lstv M d with
      | some xs => .ok (.p (.int xs.length)) M
      | none => .stuck
  | _ => .stuck
def zInt (ds : List D) (M : Store) : Out D := match ds with
  | [.p (.int i)] => .ok (.p (.int i)) M
  | [.p (.bool b)] => .ok (.p (.int (if b then 1 else 0))) M
  | _ => .stuck
def zAbs (ds : List D) (M : Store) : Out D := match ds with
  | [.p (.int i)] => .ok (.p (.int (if i < 0 then -i else i))) M
  | _ => .stuck
def intsOf : List D → Option (List Int)
  | [] => some []
  | .p (.int i) :: r => (intsOf r).map (i :: ·)
  | _ :: _ => none
def boolsOf : List D → Option (List Bool)
  | [] => some []
  | .p (.bool i) :: r => (boolsOf r).map (i :: ·)
  | _ :: _ => none
theorem intsOf_eq : ∀ {ds : List D} {ns : List Int}, intsOf ds = some ns → ds = ns.map fun i => .p (.int i)
  | [], ns, h => by cases h; rfl
  | .p (.int i) :: r, ns, h => by
    unfold intsOf at h
    cases q : intsOf r with
    | none => rw [q] at h; cases h
    | some ms => rw [q] at h; cases h; rw [intsOf_eq q]; rfl
  | .ref _ :: _, _, h => by cases h
  | .p .none :: _, _, h => by cases h
  | .p (.bool _) :: _, _, h => by cases h
  | .p (.str _) :: _, _, h => by cases h
  | .p (.list _) :: _, _, h => by cases h
  | .p (.tuple _) :: _, _, h => by cases h
  | .p (.dict _) :: _, _, h => by cases h
theorem boolsOf_eq : ∀ {ds : List D} {ns : List Bool}, boolsOf ds = some ns → ds = ns.map fun i => .p (.bool i)
  | [], ns, h => by cases h; rfl
  | .p (.bool i) :: r, ns, h => by
    unfold boolsOf at h
    cases q : boolsOf r with
    | none => rw [q] at h; cases h
    | some ms => rw [q] at h; cases h; rw [boolsOf_eq q]; rfl
  | .ref _ :: _, _, h => by cases h
  | .p .none :: _, _, h => by cases h
  | .p (.int _) :: _, _, h => by cases h
  | .p (.str _) :: _, _, h => by cases h
  | .p (.list _) :: _, _, h => by cases h
  | .p (.tuple _) :: _, _, h => by cases h
  | .p (.dict _) :: _, _, h => by cases h
@[simp] theorem intsOf_map : ∀ ns : List Int, intsOf (ns.map fun i => .p (.int i)) = some ns
  | [] => rfl
  | n :: ns => by rw [List.map_cons, intsOf, intsOf_map ns]; rfl
@[simp] theorem boolsOf_map : ∀ ns : List Bool, boolsOf (ns.map fun i => .p (.bool i)) = some ns
  | [] => rfl
  | n :: ns => by rw [List.map_cons, boolsOf, boolsOf_map ns]; rfl
def zMax (ds : List D) (M : Store) : Out D := match ds with
  | [.p (.int i), .p (.int j)] => .ok (.p (.int (max i j))) M
  | [.p (.tuple xs)] => match intsOf (xs.map .p) with
    | some (n :: ns) => .ok (.p (.int (ns.foldl max n))) M
    | _ => .stuck
  | [l] => match lstv M l with
    | some xs => match intsOf xs with
      | some (n :: ns) => .ok (.p (.int (ns.foldl max n))) M
      | _ => .stuck
    | none => .stuck
  | _ => .stuck
def zMin (ds : List D) (M : Store) : Out D := match ds with
  | [.p (.int i), .p (.int j)] => .ok (.p (.int (min i j))) M
  | [l] => match lstv M l with
    | some xs => match intsOf xs with
      | some (n :: ns) => .ok (.p (.int (ns.foldl min n))) M
      | _ => .stuck
    | none => .stuck
  | _ => .stuck
def zSum (ds : List D) (M : Store) : Out D := match ds with
  | [l] => match lstv M l with
    | some xs => match intsOf xs with
      | some ns => .ok (.p (.int ns.sum)) M
      | none => .stuck
    | none => .stuck
  | _ => .stuck
def zAny (ds : List D) (M : Store) : Out D := match ds with
  | [l] => match lstv M l with
    | some xs => match boolsOf xs with
      | some ns => .ok (.p (.bool (ns.any id))) M
      | none => .stuck
    | none => .stuck
  | _ => .stuck
def zAll (ds : List D) (M : Store) : Out D := match ds with
  | [l] => match lstv M l with
    | some xs => match boolsOf xs with
      | some ns => .ok (.p (.bool (ns.all id))) M
      | none => .stuck
    | none => .stuck
  | _ => .stuck
theorem foldl_max_ge : ∀ (ns : List Int) (n : Int), n ≤ ns.foldl max n ∧ ∀ y ∈ ns, y ≤ ns.foldl max n
  | [], n => ⟨Int.le_refl _, fun _ h => nomatch h⟩
  | m :: ns, n => by
    obtain ⟨h1, h2⟩ := foldl_max_ge ns (max n m)
    rw [List.foldl_cons]
    refine ⟨by omega, fun y hy => ?_⟩
    rcases List.mem_cons.mp hy with rfl | hy
    · omega
    · exact h2 y hy
theorem foldl_max_mem : ∀ (ns : List Int) (n : Int), ns.foldl max n = n ∨ ns.foldl max n ∈ ns
  | [], n => .inl rfl
  | m :: ns, n => by
    rw [List.foldl_cons]
    rcases foldl_max_mem ns (max n m) with h | h
    · rw [h]
      rcases (by omega : max n m = n ∨ max n m = m) with e | e
      · exact .inl e
      · rw [e]; exact .inr List.mem_cons_self
    · exact .inr (List.mem_cons_of_mem _ h)
theorem foldl_min_le : ∀ (ns : List Int) (n : Int), ns.foldl min n ≤ n ∧ ∀ y ∈ ns, ns.foldl min n ≤ y
  | [], n => ⟨Int.le_refl _, fun _ h => nomatch h⟩
  | m :: ns, n => by
    obtain ⟨h1, h2⟩ := foldl_min_le ns (min n m)
    rw [List.foldl_cons]
    refine ⟨by omega, fun y hy => ?_⟩
    rcases List.mem_cons.mp hy with rfl | hy
    · omega
    · exact h2 y hy
theorem foldl_min_mem : ∀ (ns : List Int) (n : Int), ns.foldl min n = n ∨ ns.foldl min n ∈ ns
  | [], n => .inl rfl
  | m :: ns, n => by
    rw [List.foldl_cons]
    rcases foldl_min_mem ns (min n m) with h | h
    · rw [h]
      rcases (by omega : min n m = n ∨ min n m = m) with e | e
      · exact .inl e
      · rw [e]; exact .inr List.mem_cons_self
    · exact .inr (List.mem_cons_of_mem _ h)
theorem max_only {ns : List Int} {n m : Int} (h1 : m ∈ n :: ns) (h2 : ∀ y, y ∈ n :: ns → y ≤ m) : m = ns.foldl max n := by
  obtain ⟨a, b⟩ := foldl_max_ge ns n
  have c : ns.foldl max n ∈ n :: ns := by
    rcases foldl_max_mem ns n with h | h
    · rw [h]; exact List.mem_cons_self
    · exact List.mem_cons_of_mem _ h
  have d := h2 _ c
  rcases List.mem_cons.mp h1 with rfl | h
  · omega
  · have := b m h; omega
theorem min_only {ns : List Int} {n m : Int} (h1 : m ∈ n :: ns) (h2 : ∀ y, y ∈ n :: ns → m ≤ y) : m = ns.foldl min n := by
  obtain ⟨a, b⟩ := foldl_min_le ns n
  have c : ns.foldl min n ∈ n :: ns := by
    rcases foldl_min_mem ns n with h | h
    · rw [h]; exact List.mem_cons_self
    · exact List.mem_cons_of_mem _ h
  have d := h2 _ c
  rcases List.mem_cons.mp h1 with rfl | h
  · omega
  · have := b m h; omega
theorem drs_ints {K : PySem.W.Frag} {θ : List Addr} {H : Hp} : ∀ {ns : List Int} {vs : List V}, Drs K θ H vs (ns.map fun i => .p (.int i)) → vs = ns.map V.int
  | [], _, h => by cases h; rfl
  | n :: ns, _, h => by
    cases h with
    | cons a b => cases a; rw [drs_ints b]; rfl
theorem drs_bools {K : PySem.W.Frag} {θ : List Addr} {H : Hp} : ∀ {ns : List Bool} {vs : List V}, Drs K θ H vs (ns.map fun i => .p (.bool i)) → vs = ns.map V.bl
  | [], _, h => by cases h; rfl
  | n :: ns, _, h => by
    cases h with
    | cons a b => cases a; rw [drs_bools b]; rfl
section
variable {X : Cx} {E : XK}
theorem zLen_ok : CallR X (.builtin "len") (rZs X E zLen) := by
  intro pins s σ H xs us Q I r h
  obtain ⟨ds, θ, M, m, rs, h⟩ := h
  unfold zLen at h
  split at h
  · rename_i d
    cases rs with
    | cons r1 rr =>
      cases rr
      split at h
      · rename_i xs
        cases r1 with
        | tup k1 k2 => exact call_len_seq pins s σ H _ us Q I r ⟨_, _, rfl, .inr k1, by rw [k2.length]; exact Post.here h m (Fz.int _)⟩
      · rename_i x
        split at h
        · rename_i l
          cases r1
          exact call_len_str pins s σ H _ us Q I r ⟨_, rfl, l, Post.here h m (Fz.int _)⟩
        · exact h.elim
      · split at h
        · rename_i xs e1
          obtain ⟨ad, vs, rfl, hp, dp⟩ := lstv_ok m r1 e1
          exact call_len_seq pins s σ H _ us Q I r ⟨_, _, rfl, .inl hp.sq, by rw [Paired.length dp]; exact Post.here h m (Fz.int _)⟩
        · exact h.elim
  · exact h.elim
theorem zInt_ok : CallR X (.type "int") (rZs X E zInt) := by
  intro pins s σ H xs us Q I r h
  obtain ⟨ds, θ, M, m, rs, h⟩ := h
  unfold zInt at h
  split at h
  · cases rs with
    | cons r1 rr => cases rr; cases r1; exact call_int1 pins s σ H _ us Q I r (.inl ⟨_, rfl, Post.here h m (Fz.int _)⟩)
  · cases rs with
    | cons r1 rr => cases rr; cases r1; exact call_int1 pins s σ H _ us Q I r (.inr ⟨_, rfl, Post.here h m (Fz.int _)⟩)
  · exact h.elim
theorem zAbs_ok : CallR X (.builtin "abs") (rZs X E zAbs) := by
  intro pins s σ H xs us Q I r h
  obtain ⟨ds, θ, M, m, rs, h⟩ := h
  unfold zAbs at h
  split at h
  · cases rs with
    | cons r1 rr => cases rr; cases r1; exact call_abs pins s σ H _ us Q I r ⟨_, rfl, Post.here h m (Fz.int _)⟩
  · exact h.elim
theorem maxOf_int (n : Int) (ns : List Int) : PySem.W.maxOf n ns = ns.foldl max n := by
  unfold PySem.W.maxOf
  induction ns generalizing n with
  | nil => rfl
  | cons m ns ih =>
    rw [List.foldl_cons, List.foldl_cons, ← ih]
    congr 1
    show (if decide (n < m) = true then m else n) = max n m
    by_cases h : n < m
    · rw [if_pos (by simpa using h)]; omega
    · rw [if_neg (by simpa using h)]; omega
theorem holdAll_ints {h : Heap} : ∀ {us : List Value} {ns : List Int}, Vals (ns.map V.int) us → PySem.W.HoldAll h us ns
  | _, [], .nil => PySem.W.HoldAll.nil
  | _, n :: ns, .cons r t => by
    obtain ⟨t', rfl⟩ := r
    exact PySem.W.HoldAll.cons ⟨_, .int n t'⟩ (holdAll_ints t)
theorem cr_maxT (hc : X.calm = true) (hu : X.A.units + 100 < cLine) {pins : List (Addr × Obj)} {s : Shared} {σ : L2.St} {H : Hp} {a : Addr} {n : Int} {ns : List Int} {us : List Value} {Q : VK} (I : Inv X pins σ H s) (r : Vals [.ref a] us) (hs : SqT X.K H a ((n :: ns).map V.int))
    (q : Q (.int (ns.foldl max n)) H) : wpAny (model X.prog X.w) X.A (call (.builtin "max") us) (EP X pins σ Q) X.xe s := by
  obtain ⟨its, rv, ⟨o, ho, hcl, nn, hd⟩, _⟩ := I.tuple hs
  rw [Vals.ref1 r]
  refine PySem.W.max_tuple_datum (x := n) (xs := ns) (I.ok.hd hc) ⟨o, ho, hcl, nn, hd⟩ (by simpa using holdAll_ints rv) (by show X.A.units + 1 + 0 < cLine; omega) fun i v h' tk hi hh hk => ?_
  rw [maxOf_int] at hh
  obtain ⟨as, hr⟩ := hh
  cases hr
  exact ⟨.int _, H, I.kept hk, ⟨_, rfl⟩, q⟩
theorem zMax_ok (zx : ZX X) : CallR X (.builtin "max") (rZs X E zMax) := by
  intro pins s σ H xs us Q I r h
  obtain ⟨ds, θ, M, m, rs, h⟩ := h
  unfold zMax at h
  split at h
  · rename_i i j
    cases rs with
    | cons r1 rr =>
      cases rr with
      | cons r2 rr =>
        cases rr; cases r1; cases r2
        refine call_max2 zx.calm pins s σ H _ us Q I r ⟨i, j, rfl, ?_⟩
        rw [show (if j > i then j else i) = max i j by split <;> omega]
        exact Post.here h m (Fz.int _)
  · rename_i xs
    split at h
    · rename_i n ns e2
      cases rs with
      | cons r1 rr =>
        cases rr
        cases r1 with
        | tup k1 k2 =>
          have dp := k2.drs (θ := θ)
          rw [intsOf_eq e2] at dp
          have ev := drs_ints dp
          subst ev
          exact cr_maxT zx.calm zx.hu I r k1 (Post.here h m (Fz.int _))
    · exact h.elim
  · split at h
    · rename_i xs e1
      split at h
      · rename_i n ns e2
        cases rs with
        | cons r1 rr =>
          cases rr
          obtain ⟨ad, vs, rfl, hp, dp⟩ := lstv_ok m r1 e1
          rw [intsOf_eq e2] at dp
          have ev := drs_ints dp
          subst ev
          exact cr_max zx.calm pins s σ H _ us Q I r ⟨ad, n :: ns, rfl, hp.sq, by simp, fun k h1 h2 => by rw [max_only h1 h2]; exact Post.here h m (Fz.int _)⟩
      · exact h.elim
    · exact h.elim
  · exact h.elim
theorem zMin_ok (zx : ZX X) : CallR X (.builtin "min") (rZs X E zMin) := by
  intro pins s σ H xs us Q I r h
  obtain ⟨ds, θ, M, m, rs, h⟩ := h
  unfold zMin at h
  split at h
  · rename_i i j
    cases rs with
    | cons r1 rr =>
      cases rr with
      | cons r2 rr =>
        cases rr; cases r1; cases r2
        refine call_min2 zx.calm pins s σ H _ us Q I r ⟨i, j, rfl, ?_⟩
        rw [show (if j < i then j else i) = min i j by split <;> omega]
        exact Post.here h m (Fz.int _)
  · split at h
    · rename_i xs e1
      split at h
      · rename_i n ns e2
        cases rs with
        | cons r1 rr =>
          cases rr
          obtain ⟨ad, vs, rfl, hp, dp⟩ := lstv_ok m r1 e1
          rw [intsOf_eq e2] at dp
          have ev := drs_ints dp
          subst ev
          exact cr_min zx.calm pins s σ H _ us Q I r ⟨ad, n :: ns, rfl, hp.sq, by simp, fun k h1 h2 => by rw [min_only h1 h2]; exact Post.here h m (Fz.int _)⟩
      · exact h.elim
    · exact h.elim
  · exact h.elim
theorem zSum_ok (zx : ZX X) : CallR X (.builtin "sum") (rZs X E zSum) := by
  intro pins s σ H xs us Q I r h
  obtain ⟨ds, θ, M, m, rs, h⟩ := h
  unfold zSum at h
  split at h
  · split at h
    · rename_i xs e1
      split at h
      · rename_i ns e2
        cases rs with
        | cons r1 rr =>
          cases rr
          obtain ⟨ad, vs, rfl, hp, dp⟩ := lstv_ok m r1 e1
          rw [intsOf_eq e2] at dp
          have ev := drs_ints dp
          subst ev
          exact cr_sum zx.calm pins s σ H _ us Q I r ⟨ad, ns, rfl, hp.sq, Post.here h m (Fz.int _)⟩
      · exact h.elim
    · exact h.elim
  · exact h.elim
theorem zAny_ok (zx : ZX X) : CallR X (.builtin "any") (rZs X E zAny) := by
  intro pins s σ H xs us Q I r h
  obtain ⟨ds, θ, M, m, rs, h⟩ := h
  unfold zAny at h
  split at h
  · split at h
    · rename_i xs e1
      split at h
      · rename_i ns e2
        cases rs with
        | cons r1 rr =>
          cases rr
          obtain ⟨ad, vs, rfl, hp, dp⟩ := lstv_ok m r1 e1
          rw [boolsOf_eq e2] at dp
          have ev := drs_bools dp
          subst ev
          exact cr_any zx.calm pins s σ H _ us Q I r ⟨ad, ns, rfl, hp.sq, Post.here h m (Fz.bl _)⟩
      · exact h.elim
    · exact h.elim
  · exact h.elim
theorem zAll_ok (zx : ZX X) : CallR X (.builtin "all") (rZs X E zAll) := by
  intro pins s σ H xs us Q I r h
  obtain ⟨ds, θ, M, m, rs, h⟩ := h
  unfold zAll at h
  split at h
  · split at h
    · rename_i xs e1
      split at h
      · rename_i ns e2
        cases rs with
        | cons r1 rr =>
          cases rr
          obtain ⟨ad, vs, rfl, hp, dp⟩ := lstv_ok m r1 e1
          rw [boolsOf_eq e2] at dp
          have ev := drs_bools dp
          subst ev
          exact cr_all zx.calm pins s σ H _ us Q I r ⟨ad, ns, rfl, hp.sq, Post.here h m (Fz.bl _)⟩
      · exact h.elim
    · exact h.elim
  · exact h.elim
end

/-! ### tuple, list, sorted, repr -/
/-- the items of a tuple or a list -/
def seqv (M : Store) (d : D) : Option (List D) := match d with
  | .p (.tuple xs) => some (xs.map .p)
  | d => lstv M d
@[simp] theorem seqv_t (M : Store) (xs : List P) : seqv M (.p (.tuple xs)) = some (xs.map .p) := id rfl
@[simp] theorem seqv_l (M : Store) (xs : List P) : seqv M (.p (.list xs)) = some (xs.map .p) := id rfl
def zTuple (ds : List D) (M : Store) : Out D := match ds with
  | [.p (.tuple xs)] => .ok (.p (.tuple xs)) M
  | [d] => match lstv M d with
    | some xs => match pures xs with
      | some ys => .ok (.p (.tuple ys)) M
      | none => .stuck
    | none => .stuck
  | _ => .stuck
def zList (ds : List D) (M : Store) : Out D := match ds with
  | [d] => match seqv M d with
    | some xs => frzl xs M
    | none => .stuck
  | _ => .stuck
def zListM (ds : List D) (M : Store) : Out D := match ds with
  | [d] => match seqv M d with
    | some xs => .ok (.ref M.length) (M ++ [.lst xs])
    | none => .stuck
  | _ => .stuck
/-- data in their order -/
def psort (xs : List P) : List P := xs.mergeSort (PySem.W.dataLe false id)
def psortable (xs : List P) : Prop := PySem.W.AllAlike xs ∧ PySem.W.Sortable xs ∧ xs.length ≤ sizeLine ∧ ∀ x ∈ xs, x.depth ≤ 60
open Classical in
noncomputable def zSorted (ds : List D) (M : Store) : Out D := match ds with
  | [d] => match lstv M d with
    | some xs => match pures xs with
      | some ys => if psortable ys then .ok (.p (.list (psort ys))) M else .stuck
      | none => .stuck
    | none => .stuck
  | _ => .stuck
def zRepr (ds : List D) (M : Store) : Out D := match ds with
  | [d] => match snap 6 M d with
    | some x => if x.showable = true ∧ x.hasDict = false ∧ x.shown.length ≤ sizeLine ∧ x.depth ≤ 60 then .ok (.p (.str x.shown)) M else .stuck
    | none => .stuck
  | _ => .stuck
theorem seqv_ok {K : PySem.W.Frag} {θ : List Addr} {H : Hp} {M : Store} {v : V} {d : D} {ds : List D} (s : SR K θ H M) (r : Dr K θ H v d) (e : seqv M d = some ds) : ∃ a vs, v = .ref a ∧ (SqX K H a vs ∨ SqT K H a vs) ∧ Drs K θ H vs ds := by
  unfold seqv at e
  split at e
  · cases e
    cases r with
    | tup k1 k2 => exact ⟨_, _, rfl, .inr k1, k2.drs⟩
  · obtain ⟨a, vs, e1, h, q⟩ := lstv_ok s r e
    exact ⟨a, vs, e1, .inl h, q⟩
section
variable {X : Cx} {E : XK}
theorem zTuple_ok : CallR X (.type "tuple") (rZs X E zTuple) := by
  intro pins s σ H xs us Q I r h
  obtain ⟨ds, θ, M, m, rs, h⟩ := h
  unfold zTuple at h
  split at h
  · cases rs with
    | cons r1 rr =>
      cases rr
      cases r1 with
      | tup k1 k2 => exact call_tuple_of pins s σ H _ us Q I r ⟨_, _, rfl, .inr ⟨k1, Post.here h m (Fz.tup k1 k2)⟩⟩
  · split at h
    · rename_i xs e1
      split at h
      · rename_i ys e2
        cases rs with
        | cons r1 rr =>
          cases rr
          obtain ⟨ad, vs, rfl, hp, dp⟩ := lstv_ok m r1 e1
          rw [pures_eq e2] at dp
          exact call_tuple_of pins s σ H _ us Q I r ⟨_, _, rfl, .inl ⟨hp.sq, fun l hl => new_tup h m (FzAll.ofDrs dp) hl⟩⟩
      · exact h.elim
    · exact h.elim
  · exact h.elim
theorem zList_ok : CallR X (.type "list") (rZs X E zList) := by
  intro pins s σ H xs us Q I r h
  obtain ⟨ds, θ, M, m, rs, h⟩ := h
  unfold zList at h
  split at h
  · split at h
    · rename_i xs e1
      cases rs with
      | cons r1 rr =>
        cases rr
        obtain ⟨ad, vs, rfl, hp, dp⟩ := seqv_ok m r1 e1
        obtain ⟨l, k⟩ := frzl_ok h m dp
        exact thn (call_list_of pins s σ H _ us (FrzQ Q) I r ⟨_, _, rfl, hp.imp (fun h => h.sq) id, k⟩) fun u s1 z => ep_frz z
    · exact h.elim
  · exact h.elim
theorem zListM_ok : CallR X (.type "list") (rZs X E zListM) := by
  intro pins s σ H xs us Q I r h
  obtain ⟨ds, θ, M, m, rs, h⟩ := h
  unfold zListM at h
  split at h
  · split at h
    · rename_i xs e1
      cases rs with
      | cons r1 rr =>
        cases rr
        obtain ⟨ad, vs, rfl, hp, dp⟩ := seqv_ok m r1 e1
        exact call_list_of pins s σ H _ us Q I r ⟨_, _, rfl, hp.imp (fun h => h.sq) id, fun l hl => new_lst h m dp hl⟩
    · exact h.elim
  · exact h.elim
end
end Z

/-! Z: what loops and comprehensions walk. -/
namespace Z
open PySem PySem.Spec PyProof.Rows L2

/-! ### enumerate(tuple) -/
theorem meets_enum1 {v : Value} {o : Obj} {H : Heap → Prop} (B : Begins v o H) :
    Meets (Builtin.«enumerate.__new__» ⟨[.type "enumerate", v], []⟩) (fun _ R s => H s.heap ∧
      R (.ok (.ret (.ref (s.heap.push o).objs.size))) { s with heap := (s.heap.push o).push { cls := .type "enumerate", data := .fields #[.none, .bool false, .ref s.heap.objs.size, rawInt 0, .none, .none] } }) :=
  .of_wp fun prog w A R s h => by
    obtain ⟨hp, g, d, tk, os⟩ := s; obtain ⟨h1, h⟩ := h
    have hsub := sub_enumerate
    have q1 : ∀ {A' : Around} {E : Value → Shared → Prop} {Q : Value → Shared → Prop}, Q (.ref hp.objs.size) ⟨hp.push o, g, d, tk, os⟩ → wpAny (model prog w) A' (pyIter v) Q E ⟨hp, g, d, tk, os⟩ :=
      fun q => B.iter prog w _ _ ⟨hp, g, d, tk, os⟩ _ h1 q
    wp_walk using q1
    refine wpAny_stack_any fun st => wpAny_pure ?_
    split
    · rename_i c _ _ _ _ _
      cases (c == Value.type "enumerate")
      · wp_walk using q1
        exact ⟨_, rfl, h⟩
      · wp_walk using q1
        exact ⟨_, rfl, h⟩
    · wp_walk using q1
      exact ⟨_, rfl, h⟩
theorem enum_begins1 {prog : Program} {w : World} {A : Around} {E : Value → Shared → Prop} {s : Shared} {v : Value} {o : Obj} {H : Heap → Prop} {Q : Value → Shared → Prop} (B : Begins v o H) (h1 : H s.heap)
    (h : ∀ h', IsEnum h' (s.heap.objs.size + 1) s.heap.objs.size 0 .none → h'.get? s.heap.objs.size = some o → h'.objs.size = s.heap.objs.size + 2 →
      (∀ b o, s.heap.get? b = some o → h'.get? b = some o) → Q (.ref (s.heap.objs.size + 1)) { s with heap := h' }) :
    wpAny (model prog w) A (call (.type "enumerate") [v]) Q E s := by
  refine callType_new F.called_enumerate (by decide) (F.typeCall_enumerate_1 _) (F.newCall_enumerate_1 _) (fun obj => F.args_object_init_2 obj _) F.entry_enumerate_new
    (meets_enum1 B) ⟨h1, ?_⟩
  have hz : (s.heap.push o).objs.size = s.heap.objs.size + 1 := Heap.size_push ..
  show _ ∧ _
  rw [hz]
  have he : IsEnum ((s.heap.push o).push { cls := .type "enumerate", data := .fields #[.none, .bool false, .ref s.heap.objs.size, rawInt 0, .none, .none] }) (s.heap.objs.size + 1) s.heap.objs.size 0 .none := by
    have := Heap.get?_push_size (s.heap.push o) (o := { cls := .type "enumerate", data := .fields #[.none, .bool false, .ref s.heap.objs.size, rawInt 0, .none, .none] }) rfl
    rw [hz] at this; exact this
  refine ⟨⟨_, he, rfl⟩, h _ he (Heap.get?_push_of_some _ (Heap.get?_push_size _ B.free)) (by rw [Heap.size_push, hz]) fun b o x => Heap.get?_push_of_some _ (Heap.get?_push_of_some _ x)⟩

def IteT (K : PySem.W.Frag) (a : Addr) (ws : List V) : It :=
  ⟨fun i H => SqT K H a ws ∧ i < ws.length, fun i H v H' => ∃ T x, v = .ref T ∧ H T = none ∧ H' = upd H T (.tup [.int (i : Nat), x]) ∧ ws[i]? = some x, fun i H => SqT K H a ws ∧ ws.length ≤ i⟩
theorem turn_enumT {P : Program} {w : World} {K : PySem.W.Frag} {elts : List Expr} {kk : Nat} {tpos : Pos} (a e it : Addr) (ws : List V) :
    Turn P w K (.Tuple elts kk tpos) (IteT K a ws) [e, it] e (fun i h => (∃ old, IsEnum h e it ((i : Nat) : Int) old) ∧ h.IsTupleIter it a i ∧ e ≠ it ∧ e ≠ a ∧ a ≠ it) where
  mem := by simp
  obj := fun i h st b hb => by
    obtain ⟨⟨old, he⟩, ⟨o, ho, hc, hd⟩, _⟩ := st
    have e' : b = e ∨ b = it := by simpa using hb
    rcases e' with z | z
    · rw [z]; exact ⟨_, he, fun v q => nomatch q⟩
    · rw [z]; exact ⟨o, ho, fun v q => by rw [hd] at q; cases q⟩
  keep := fun i h h' st k => let ⟨⟨old, he⟩, hi, hne⟩ := st; ⟨⟨old, k e (by simp) _ he⟩, hi.at fun o q => k it (by simp) o q, hne⟩
  item := by
    intro X hP hw hK hc i pins s σ H E I hf st hg
    subst hP hw hK
    obtain ⟨⟨old, he⟩, hit, hne, hea, hai⟩ := st
    obtain ⟨hq, hi⟩ := hg
    obtain ⟨its, rv, p, hz⟩ := I.tuple hq
    have hlen := rv.length
    obtain ⟨u, hu, ru⟩ := rv.get (List.getElem?_eq_getElem hi)
    have hel : e < s.heap.objs.size := Heap.lt_size he
    have hil : it < s.heap.objs.size := by obtain ⟨_, q, _⟩ := hit; exact Heap.lt_size q
    have D := Draws.tuple (prog := X.prog) (w := X.w) (A := X.A.in1) (I.ok.hd hc) it a hai its.toArray
    refine wpAny_pyNext_enum_itemD D he ⟨hit, show s.heap.IsTuple a its.toArray from p⟩ (by rw [List.size_toArray, ← hlen]; exact hi) hne (by simp; exact ⟨hne, hea⟩) fun x h' tk hx ho hst' hT hsz hk => ?_
    have ex : x = u := by
      have hx' : its.toArray[i]? = some x := hx
      rw [List.getElem?_toArray, hu] at hx'
      exact (Option.some.inj hx').symm
    subst ex
    refine ⟨_, rfl, wpAny_letOwnedTupleGo_enum (s := { s with heap := h', toks := tk + 1 }) ho fun h'' he' sb => ?_⟩
    have hT2 : h''.get? s.heap.objs.size = some { cls := .type "tuple", data := .seq #[.int i tk, x] } := (sb.2 _ (Nat.ne_of_gt hel)).trans hT
    have new : ObjOk X.prog X.w (upd H s.heap.objs.size (.tup [.int (i : Nat), ws[i]])) h'' s.heap.objs.size (.tup [.int (i : Nat), ws[i]]) :=
      ⟨by show 2 ≤ sizeLine; decide, [.int i tk, x], .cons ⟨_, rfl⟩ (.cons ru .nil), ⟨_, hT2, rfl, _, rfl⟩⟩
    have I1 : Inv X pins σ (upd H s.heap.objs.size (.tup [.int (i : Nat), ws[i]])) { s with heap := h'', toks := tk + 1 } :=
      I.turnedNew (ch := [e, it]) (fun b ob hb q => (sb.2 b (fun z => hb (by simp [z]))).trans (hk b ob (fun z => hb (by simp [z])) (fun z => hb (by simp [z])) q)) hf (Nat.le_refl _) new
    refine ⟨.ref s.heap.objs.size, _, I1, rfl, ⟨_, ws[i], rfl, I.hok.fresh (Nat.le_refl _), rfl, List.getElem?_eq_getElem hi⟩, ⟨⟨x, ?_⟩, hst'.1.at fun o q => (sb.2 it (Ne.symm hne)).trans q, hne, hea, hai⟩, fun b hb => ?_⟩
    · have e1 : ((i + 1 : Nat) : Int) = (i : Int) + 1 := by omega
      rw [e1]; exact he'
    · have hb' : b < s.heap.objs.size := by
        have e' : b = e ∨ b = it := by simpa using hb
        rcases e' with z | z
        · rw [z]; exact hel
        · rw [z]; exact hil
      rw [upd_ne (Nat.ne_of_lt hb')]
      exact (hf b hb).1
  done := by
    intro X hP hw hK hc i pins s σ H E I hf st hg
    subst hP hw hK
    obtain ⟨⟨old, he⟩, hit, hne, hea, hai⟩ := st
    obtain ⟨hq, hx⟩ := hg
    obtain ⟨its, rv, p, hz⟩ := I.tuple hq
    obtain ⟨f0, f1, f2, f3, f4, f5⟩ := hf it (by simp)
    have hl := rv.length
    have D := Draws.tuple (prog := X.prog) (w := X.w) (A := X.A.in1) (I.ok.hd hc) it a hai its.toArray
    have nx : its.toArray[i]? = none := by rw [List.getElem?_toArray, List.getElem?_eq_none_iff]; omega
    have hT : s.TypeIs (.ref e) "enumerate" := ⟨_, he, rfl⟩
    unfold pyNext
    refine wpAny_bind (wpAny_attempt (wpAny_callSpecial?_slot (name := Str.ofString "__next__") hT F.slot_enumerate_next
      (wpAny_call_entry F.slot_enumerate_next hT F.entry_enumerate_next ?_ (F.args_enumerate_next_1 _))))
    show wpAny _ _ (field (.ref e) 2 >>= _) _ _ _
    refine wpAny_bind (wpAny_field he rfl (x := .ref it) rfl ?_)
    refine wpAny_bind (wpAny_nextOf_tuple_end (I.ok.hd hc) hit (show s.heap.IsTuple a its.toArray from p) nx fun h' x he' hx' => ?_)
    obtain ⟨o, ho, hcc⟩ := hx'
    refine wpAny_bind (wpAny_isInstance (T := "StopIteration") (b := true) ⟨o, ho, hcc⟩ isSubtype_stop ?_)
    exact wpAny_pure ⟨rfl, I.turned (t' := s.toks) (fun b o hb q => he' b o hb q) f0 f1 f3 f4 f5⟩
  self := fun A i s Q E st h => let ⟨⟨_, he⟩, _⟩ := st; wpAny_pyIter_enum he h
def iEnumT (K : PySem.W.Frag) (ta : TA) : TI := fun σ H R => ta σ H fun vs H1 => ∃ a ws, vs = [.ref a] ∧ ((SqL K H1 a ws ∧ R (Ite K a) H1) ∨ (SqT K H1 a ws ∧ R (IteT K a ws) H1))
theorem pi_enumT {X : Cx} {e : Expr} {ta : TA} {p pos tpos : Pos} {elts : List Expr} {kk : Nat} (hg : Gl X "enumerate") (hm : X.mg "enumerate" = none) (ha : PA X [e] ta) (hs : starEach [e] X.env = [(false, eval e X.env)] := by rfl) :
    PI X (.Tuple elts kk tpos) (.Call (.Name "enumerate" p) [e] [] pos) (iEnumT X.K ta) := by
  refine ⟨fun pins s σ H R I h => ?_⟩
  refine Call_ (ld_blt I hg hm boot_enumerate (PyProof.Rows.callWith_type1 (thn (ha.run pos pins s σ H _ I h) fun us s1 ⟨vs, H1, I1, r1, q1⟩ => ?_) hs rfl))
  obtain ⟨a, xs, ex, q⟩ := q1
  subst ex
  cases r1 with
  | cons r rr =>
    cases rr
    cases r
    have fresh : ∀ b, b ∈ [s1.heap.objs.size + 1, s1.heap.objs.size] → s1.heap.objs.size ≤ b := fun b hb => by
      have e' : b = s1.heap.objs.size + 1 ∨ b = s1.heap.objs.size := by simpa using hb
      rcases e' with z | z
      · rw [z]; exact Nat.le_add_right _ _
      · rw [z]; exact Nat.le_refl _
    rcases q with ⟨hq, q⟩ | ⟨hq, q⟩
    · obtain ⟨its, rv, p', hz⟩ := I1.list hq
      refine call_enumerate_list p'.isList fun h' he hit hsz hk => wpAny_pyIter_enum he ?_
      have I2 : Inv X pins σ H1 { s1 with heap := h' } := I1.kept (t' := s1.toks) hk
      exact ⟨s1.heap.objs.size + 1, [s1.heap.objs.size + 1, s1.heap.objs.size], _, _, H1, rfl, I2, turn_enum a (s1.heap.objs.size + 1) s1.heap.objs.size, ⟨⟨.none, he⟩, hit, Nat.succ_ne_self _⟩, fun b hb => I1.fpOk (fresh b hb) (I1.hok.fresh (fresh b hb)), q⟩
    · obtain ⟨its, rv, p', hz⟩ := I1.tuple hq
      have hlt : a < s1.heap.objs.size := p'.lt
      refine enum_begins1 (begins_tuple a its.toArray) (show s1.heap.IsTuple a its.toArray from p') fun h' he ho hsz hk => wpAny_pyIter_enum he ?_
      have I2 : Inv X pins σ H1 { s1 with heap := h' } := I1.kept (t' := s1.toks) hk
      exact ⟨s1.heap.objs.size + 1, [s1.heap.objs.size + 1, s1.heap.objs.size], _, _, H1, rfl, I2, turn_enumT a (s1.heap.objs.size + 1) s1.heap.objs.size xs, ⟨⟨.none, he⟩, ⟨_, ho, rfl, rfl⟩, Nat.succ_ne_self _, Nat.ne_of_gt (Nat.lt_succ_of_lt hlt), Nat.ne_of_lt hlt⟩, fun b hb => I1.fpOk (fresh b hb) (I1.hok.fresh (fresh b hb)), q⟩
end Z

/-! Z: targets, statements, loops, comprehensions. -/
namespace Z
open PySem PySem.Spec PyProof.Rows L2

/-! ### what is walked -/
structure WalkR (K : PySem.W.Frag) (θ : List Addr) (H : Hp) (J : It) (items : List D) : Prop where
  go : ∀ i H1 θ1, i < items.length → Go θ θ1 H H1 → J.go i H1
  yld : ∀ i H1 θ1 M x H2, i < items.length → Go θ θ1 H H1 → SR K θ1 H1 M → J.yld i H1 x H2 → ∃ d, items[i]? = some d ∧ Go θ1 θ1 H1 H2 ∧ SR K θ1 H2 M ∧ Dr K θ1 H2 x d
  stop : ∀ i H1 θ1, items.length ≤ i → Go θ θ1 H H1 → J.stop i H1
section
variable (X : Cx) (E : XK)
def ZI (tg iter : Expr) (c : ZCs) : Prop := ∃ wi, PI X tg iter wi ∧ ∀ σ H θ sl M R, SV X.K θ H σ sl → SR X.K θ H M → Post X.K X.mg E (WalkR X.K) R θ H (c sl M) → wi σ H R
end
/-- the items of what is walked -/
def zitems (a : ZC) : ZCs := fun sl M => (a sl M).bind fun d M1 => match d with
  | .p (.tuple xs) => .ok (xs.map .p) M1
  | .p (.list xs) => .ok (xs.map .p) M1
  | .p (.dict kvs) => .ok (kvs.map fun kv => .p kv.1) M1
  | _ => .stuck
def rgItems (lo : Int) (n : Nat) : List D := (List.range n).map fun i : Nat => .p (.int (lo + (i : Int)))
def zrange1 (a : ZC) : ZCs := fun sl M => (a sl M).bind fun d M1 => match d with
  | .p (.int j) => if -(2 ^ 62) ≤ j ∧ j < 2 ^ 62 then .ok (rgItems 0 j.toNat) M1 else .stuck
  | _ => .stuck
def zrange2 (a b : ZC) : ZCs := fun sl M => (a sl M).bind fun d M1 => (b sl M1).bind fun e M2 => match d, e with
  | .p (.int i), .p (.int j) => if -(2 ^ 62) ≤ i ∧ i < 2 ^ 62 ∧ -(2 ^ 62) ≤ j ∧ j < 2 ^ 62 then .ok (rgItems i (j - i).toNat) M2 else .stuck
  | _, _ => .stuck
def enumFrom (i : Nat) : List P → List D
  | [] => []
  | x :: r => .p (.tuple [.int i, x]) :: enumFrom (i + 1) r
def zenum (a : ZC) : ZCs := fun sl M => (a sl M).bind fun d M1 => match d with
  | .p (.tuple xs) => .ok (enumFrom 0 xs) M1
  | .p (.list xs) => .ok (enumFrom 0 xs) M1
  | _ => .stuck
def zipP : List P → List P → List D
  | x :: xs, y :: ys => .p (.tuple [x, y]) :: zipP xs ys
  | _, _ => []
def zzip (a b : ZC) : ZCs := fun sl M => (a sl M).bind fun d M1 => (b sl M1).bind fun e M2 => match d, e with
  | .p (.tuple xs), .p (.tuple ys) => .ok (zipP xs ys) M2
  | .p (.list xs), .p (.list ys) => .ok (zipP xs ys) M2
  | _, _ => .stuck
theorem enumFrom_get : ∀ (xs : List P) (k i : Nat), (enumFrom k xs)[i]? = (xs[i]?).map fun x => .p (.tuple [.int (k + i : Nat), x])
  | [], k, i => by simp [enumFrom]
  | x :: r, k, 0 => by simp [enumFrom]
  | x :: r, k, i + 1 => by
    rw [enumFrom, List.getElem?_cons_succ, List.getElem?_cons_succ, enumFrom_get r (k + 1) i, show k + 1 + i = k + (i + 1) by omega]
theorem enumFrom_len : ∀ (xs : List P) (k : Nat), (enumFrom k xs).length = xs.length
  | [], k => rfl
  | x :: r, k => by rw [enumFrom, List.length_cons, enumFrom_len r, List.length_cons]
theorem zipP_get : ∀ (xs ys : List P) (i : Nat) (x y : P), xs[i]? = some x → ys[i]? = some y → (zipP xs ys)[i]? = some (.p (.tuple [x, y]))
  | [], _, _, _, _, h, _ => by simp at h
  | _ :: _, [], _, _, _, _, h => by simp at h
  | a :: xs, b :: ys, 0, x, y, h, h' => by simp at h h'; subst h h'; rfl
  | a :: xs, b :: ys, i + 1, x, y, h, h' => by
    rw [zipP, List.getElem?_cons_succ]
    exact zipP_get xs ys i x y (by simpa using h) (by simpa using h')
theorem zipP_len : ∀ (xs ys : List P), (zipP xs ys).length = min xs.length ys.length
  | [], _ => by simp [zipP]
  | _ :: _, [] => by simp [zipP]
  | a :: xs, b :: ys => by rw [zipP, List.length_cons, zipP_len, List.length_cons, List.length_cons]; omega
/-- walking a list or a tuple -/
def iSeq (K : PySem.W.Frag) (tl : TE) : TI := fun σ H R => tl σ H fun x H1 => ∃ a, x = .ref a ∧ (((∃ xs, SqL K H1 a xs) ∧ R (Itl K a) H1) ∨ ((∃ xs, SqT K H1 a xs) ∧ R (Itt K a) H1) ∨ ∃ o kvs, H1 a = some (.frz o (.dK kvs)) ∧ R (Itk a o kvs) H1)
theorem pi_seq {X : Cx} {tg l : Expr} {tl : TE} (hl : PE X l tl) : PI X tg l (iSeq X.K tl) := by
  refine ⟨fun pins s σ H R I h => ?_⟩
  refine thn (hl.run pins s σ H _ I h) fun v s1 ⟨x, H1, I1, r1, q1⟩ => ?_
  obtain ⟨a, e, q⟩ := q1
  subst e
  cases r1
  rcases q with ⟨⟨xs, hq⟩, q⟩ | ⟨⟨xs, hq⟩, q⟩ | ⟨o, kvs, hq, q⟩
  · obtain ⟨its, rv, p, hz⟩ := I1.list hq
    refine wpAny_pyIter_list p.isList ?_
    refine ⟨s1.heap.objs.size, [s1.heap.objs.size], _, _, H1, rfl, I1.kept (t' := s1.toks) fun b o e => Heap.get?_push_of_some _ e, turn_list a _, ⟨_, Heap.get?_push_size _ rfl, rfl, rfl⟩, fun b hb => ?_, q⟩
    have e : b = s1.heap.objs.size := by simpa using hb
    subst e
    exact I1.fpOk (Nat.le_refl _) (I1.hok.fresh (Nat.le_refl _))
  · obtain ⟨its, rv, p, hz⟩ := I1.tuple hq
    refine wpAny_pyIter_tuple (show s1.heap.IsTuple a its.toArray from p) ?_
    refine ⟨s1.heap.objs.size, [s1.heap.objs.size], _, _, H1, rfl, I1.kept (t' := s1.toks) fun b o e => Heap.get?_push_of_some _ e, turn_tuple a _, ⟨_, Heap.get?_push_size _ rfl, rfl, rfl⟩, fun b hb => ?_, q⟩
    have e : b = s1.heap.objs.size := by simpa using hb
    subst e
    exact I1.fpOk (Nat.le_refl _) (I1.hok.fresh (Nat.le_refl _))
  · obtain ⟨hs, hgd, hx, es, ep, vs, hdt, hsz, kv, hm⟩ := I1.frzK hq
    refine iter_keys hs hgd hx hdt (pi_one (tk := s1.toks) I1 _ (turn_keys _ hdt) ⟨_, Heap.get?_push_size _ rfl, rfl, ?_⟩ q)
    rw [hsz] <;> rfl
section
variable {K : PySem.W.Frag} {θ : List Addr} {H : Hp}
theorem fz_at {vs : List V} {xs : List P} (h : FzAll K H vs xs) {i : Nat} {v : V} (e : vs[i]? = some v) : ∃ x, xs[i]? = some x ∧ Fz K H v x := paired_at' h.paired e
theorem walk_l {a : Addr} {vs : List V} {xs : List P} (h : FzL K H a vs) (f : FzAll K H vs xs) : WalkR K θ H (Itl K a) (xs.map .p) := by
  refine ⟨fun i H1 θ1 l g => ?_, fun i H1 θ1 M x H2 l g s y => ?_, fun i H1 θ1 l g => ?_⟩
  · rw [List.length_map, ← f.length] at l
    exact ⟨vs, vs[i], (h.keep g.keep).sq, List.getElem?_eq_getElem l⟩
  · obtain ⟨rfl, y⟩ := y
    obtain ⟨d, e, r⟩ := fz_at f (y vs (h.keep g.keep).sq)
    exact ⟨.p d, by rw [List.getElem?_map, e]; rfl, .refl, s, r.keep g.keep⟩
  · rw [List.length_map, ← f.length] at l
    exact ⟨vs, (h.keep g.keep).sq, l⟩
theorem walk_t {a : Addr} {vs : List V} {xs : List P} (h : SqT K H a vs) (f : FzAll K H vs xs) : WalkR K θ H (Itt K a) (xs.map .p) := by
  refine ⟨fun i H1 θ1 l g => ?_, fun i H1 θ1 M x H2 l g s y => ?_, fun i H1 θ1 l g => ?_⟩
  · rw [List.length_map, ← f.length] at l
    exact ⟨vs, vs[i], SqT.keep g.keep h, List.getElem?_eq_getElem l⟩
  · obtain ⟨rfl, y⟩ := y
    obtain ⟨d, e, r⟩ := fz_at f (y vs (SqT.keep g.keep h))
    exact ⟨.p d, by rw [List.getElem?_map, e]; rfl, .refl, s, r.keep g.keep⟩
  · rw [List.length_map, ← f.length] at l
    exact ⟨vs, SqT.keep g.keep h, l⟩
theorem kv_all : ∀ {us : List (Key × V)} {ds : List (P × P)}, ds.map Prod.fst = us.map (fun u => kP u.1) → FzAll K H (us.map Prod.snd) (ds.map Prod.snd) → Paired (fun (u : Key × V) (d : P × P) => d.1 = kP u.1 ∧ Fz K H u.2 d.2) us ds
  | [], [], _, _ => .nil
  | [], _ :: _, h, _ => by simp at h
  | _ :: _, [], h, _ => by simp at h
  | u :: us, d :: ds, h, f => by
    rw [List.map_cons, List.map_cons, List.cons.injEq] at h
    rw [List.map_cons, List.map_cons] at f
    cases f with
    | cons f1 f2 => exact .cons ⟨h.1, f1⟩ (kv_all h.2 f2)
theorem fz_key (k : Key) : Fz K H (kV k) (kP k) := by
  cases k with
  | inl i => exact .int i
  | inr x => exact .str x
theorem walk_k {a : Addr} {o : Obj} {us : List (Key × V)} {ds : List (P × P)} (h : H a = some (.frz o (.dK us))) (p : Paired (fun (u : Key × V) (d : P × P) => d.1 = kP u.1 ∧ Fz K H u.2 d.2) us ds) : WalkR K θ H (Itk a o us) (ds.map fun kv => .p kv.1) := by
  have hl : us.length = ds.length := Paired.length p
  refine ⟨fun i H1 θ1 l g => ?_, fun i H1 θ1 M x H2 l g s y => ?_, fun i H1 θ1 l g => ?_⟩
  · rw [List.length_map, ← hl] at l
    exact ⟨g.keep _ _ h trivial, l⟩
  · obtain ⟨rfl, k, v, e, rfl⟩ := y
    obtain ⟨d, e2, r⟩ := paired_at' p e
    exact ⟨.p d.1, by rw [List.getElem?_map, e2]; rfl, .refl, s, by rw [r.1]; exact fz_key k⟩
  · rw [List.length_map, ← hl] at l
    exact ⟨g.keep _ _ h trivial, l⟩
theorem walk_rg {lo : Int} {n : Nat} : WalkR K θ H (Itr lo n) (rgItems lo n) := by
  have len : (rgItems lo n).length = n := by simp [rgItems]
  refine ⟨fun i H1 θ1 l g => by rw [len] at l; exact l, fun i H1 θ1 M x H2 l g s y => ?_, fun i H1 θ1 l g => by rw [len] at l; exact l⟩
  obtain ⟨rfl, rfl⟩ := y
  rw [len] at l
  exact ⟨.p (.int (lo + i)), by simp [rgItems, l], .refl, s, Fz.int _⟩
theorem pair_new {θ1 : List Addr} {H1 : Hp} {M : Store} {T : Addr} {v w : V} {x y : P} (s : SR K θ1 H1 M) (hT : H1 T = none) (r : Fz K H1 v x) (q : Fz K H1 w y) :
    Go θ1 θ1 H1 (upd H1 T (.tup [v, w])) ∧ SR K θ1 (upd H1 T (.tup [v, w])) M ∧ Fz K (upd H1 T (.tup [v, w])) (.ref T) (.tuple [x, y]) :=
  have g := Go.out (u := .tup [v, w]) s hT
  ⟨g, s.out hT, .tup SqT.new (.cons (r.keep g.keep) (.cons (q.keep g.keep) .nil))⟩
theorem walk_el {a : Addr} {vs : List V} {xs : List P} (h : FzL K H a vs) (f : FzAll K H vs xs) : WalkR K θ H (Ite K a) (enumFrom 0 xs) := by
  refine ⟨fun i H1 θ1 l g => ?_, fun i H1 θ1 M x H2 l g s y => ?_, fun i H1 θ1 l g => ?_⟩
  · rw [enumFrom_len, ← f.length] at l
    exact ⟨vs, vs[i], (h.keep g.keep).sq, List.getElem?_eq_getElem l⟩
  · obtain ⟨T, z, rfl, hT, rfl, y⟩ := y
    obtain ⟨d, e, r⟩ := fz_at f (y vs (h.keep g.keep).sq)
    obtain ⟨g2, s2, r2⟩ := pair_new s hT (.int (i : Int)) (r.keep g.keep)
    exact ⟨_, by rw [enumFrom_get, e]; rfl, g2, s2, by rw [Nat.zero_add]; exact r2⟩
  · rw [enumFrom_len, ← f.length] at l
    exact ⟨vs, (h.keep g.keep).sq, l⟩
theorem walk_et {a : Addr} {vs : List V} {xs : List P} (h : SqT K H a vs) (f : FzAll K H vs xs) : WalkR K θ H (IteT K a vs) (enumFrom 0 xs) := by
  refine ⟨fun i H1 θ1 l g => ?_, fun i H1 θ1 M x H2 l g s y => ?_, fun i H1 θ1 l g => ?_⟩
  · rw [enumFrom_len, ← f.length] at l
    exact ⟨SqT.keep g.keep h, l⟩
  · obtain ⟨T, z, rfl, hT, rfl, y⟩ := y
    obtain ⟨d, e, r⟩ := fz_at f y
    obtain ⟨g2, s2, r2⟩ := pair_new s hT (.int (i : Int)) (r.keep g.keep)
    exact ⟨_, by rw [enumFrom_get, e]; rfl, g2, s2, by rw [Nat.zero_add]; exact r2⟩
  · rw [enumFrom_len, ← f.length] at l
    exact ⟨SqT.keep g.keep h, l⟩
theorem walk_i {a : Addr} {o : Obj} {us : List (Key × V)} {ds : List (P × P)} (h : H a = some (.frz o (.dK us))) (p : Paired (fun (u : Key × V) (d : P × P) => d.1 = kP u.1 ∧ Fz K H u.2 d.2) us ds) : WalkR K θ H (Iti a o us) (ds.map fun kv => .p (.tuple [kv.1, kv.2])) := by
  have hl : us.length = ds.length := Paired.length p
  refine ⟨fun i H1 θ1 l g => ?_, fun i H1 θ1 M x H2 l g s y => ?_, fun i H1 θ1 l g => ?_⟩
  · rw [List.length_map, ← hl] at l
    exact ⟨g.keep _ _ h trivial, l⟩
  · obtain ⟨T, k, v, e, rfl, hT, rfl⟩ := y
    obtain ⟨d, e2, r⟩ := paired_at' p e
    obtain ⟨g2, s2, r2⟩ := pair_new s hT (fz_key (K := K) (H := H1) k) (r.2.keep g.keep)
    exact ⟨.p (.tuple [d.1, d.2]), by rw [List.getElem?_map, e2]; rfl, g2, s2, by rw [r.1]; exact r2⟩
  · rw [List.length_map, ← hl] at l
    exact ⟨g.keep _ _ h trivial, l⟩
theorem walk_zl {a b : Addr} {vs ws : List V} {xs ys : List P} (h : FzL K H a vs) (f : FzAll K H vs xs) (h' : FzL K H b ws) (f' : FzAll K H ws ys) : WalkR K θ H (Itz K a b) (zipP xs ys) := by
  refine ⟨fun i H1 θ1 l g => ?_, fun i H1 θ1 M x H2 l g s y => ?_, fun i H1 θ1 l g => ?_⟩
  · rw [zipP_len, ← f.length, ← f'.length] at l
    exact ⟨vs, ws, vs[i]'(by omega), ws[i]'(by omega), (h.keep g.keep).sq, (h'.keep g.keep).sq, List.getElem?_eq_getElem (by omega), List.getElem?_eq_getElem (by omega)⟩
  · obtain ⟨T, z, z', rfl, hT, rfl, y, y'⟩ := y
    obtain ⟨d, e, r⟩ := fz_at f (y vs (h.keep g.keep).sq)
    obtain ⟨d', e', r'⟩ := fz_at f' (y' ws (h'.keep g.keep).sq)
    obtain ⟨g2, s2, r2⟩ := pair_new s hT (r.keep g.keep) (r'.keep g.keep)
    exact ⟨_, zipP_get _ _ _ _ _ e e', g2, s2, r2⟩
  · rw [zipP_len, ← f.length, ← f'.length] at l
    exact ⟨vs, ws, (h.keep g.keep).sq, (h'.keep g.keep).sq, by omega⟩
theorem walk_zt {a b : Addr} {vs ws : List V} {xs ys : List P} (h : SqT K H a vs) (f : FzAll K H vs xs) (h' : SqT K H b ws) (f' : FzAll K H ws ys) : WalkR K θ H (RZ.ItzT K a b) (zipP xs ys) := by
  refine ⟨fun i H1 θ1 l g => ?_, fun i H1 θ1 M x H2 l g s y => ?_, fun i H1 θ1 l g => ?_⟩
  · rw [zipP_len, ← f.length, ← f'.length] at l
    exact ⟨vs, ws, vs[i]'(by omega), ws[i]'(by omega), SqT.keep g.keep h, SqT.keep g.keep h', List.getElem?_eq_getElem (by omega), List.getElem?_eq_getElem (by omega)⟩
  · obtain ⟨T, z, z', rfl, hT, rfl, y, y'⟩ := y
    obtain ⟨d, e, r⟩ := fz_at f (y vs (SqT.keep g.keep h))
    obtain ⟨d', e', r'⟩ := fz_at f' (y' ws (SqT.keep g.keep h'))
    obtain ⟨g2, s2, r2⟩ := pair_new s hT (r.keep g.keep) (r'.keep g.keep)
    exact ⟨_, zipP_get _ _ _ _ _ e e', g2, s2, r2⟩
  · rw [zipP_len, ← f.length, ← f'.length] at l
    exact ⟨vs, ws, SqT.keep g.keep h, SqT.keep g.keep h', by omega⟩
end
section
variable {X : Cx} {E : XK} {e a b : Expr} {es : List Expr} {pos p tpos : Pos} {tg : Expr} {ca cb : ZC}
theorem ZI.seq (ha : ZE X E a ca) : ZI X E tg a (zitems ca) := by
  obtain ⟨t, pa, q⟩ := ha
  refine ⟨_, pi_seq pa, fun σ H θ sl M R hs hm h => q σ H θ sl M _ hs hm (Post.bind h fun d M1 v H1 θ1 g1 m1 r1 h1 => ?_)⟩
  split at h1
  · rename_i xs
    cases r1 with
    | tup k1 k2 => exact ⟨_, rfl, .inr (.inl ⟨⟨_, k1⟩, Post.here h1 m1 (walk_t k1 k2)⟩)⟩
  · rename_i xs
    cases r1 with
    | lst k1 k2 => exact ⟨_, rfl, .inl ⟨⟨_, k1.sq⟩, Post.here h1 m1 (walk_l k1 k2)⟩⟩
  · rename_i ds
    cases r1 with
    | dct k1 k2 k3 => exact ⟨_, rfl, .inr (.inr ⟨_, _, k1, Post.here h1 m1 (walk_k k1 (kv_all k2 k3))⟩)⟩
  · exact h1.elim
theorem pa1 {ta : TE} (pa : PE X a ta) (hs : starEach [a] X.env = [(false, eval a X.env)] := by rfl) : PA X [a] (tCons ta tNil) := pa_cons pa pa_nil hs
theorem ZI.range1 (hg : Gl X "range") (hm : X.mg "range" = none) (ha : ZE X E a ca) (hs : starEach [a] X.env = [(false, eval a X.env)] := by rfl) : ZI X E tg (.Call (.Name "range" p) [a] [] pos) (zrange1 ca) := by
  obtain ⟨t, pa, q⟩ := ha
  refine ⟨_, pi_range1 hg hm (pa1 pa hs) hs, fun σ H θ sl M R hs hm h => q σ H θ sl M _ hs hm (Post.bind h fun d M1 v H1 θ1 g1 m1 r1 h1 => ?_)⟩
  split at h1
  · rename_i j
    cases r1
    split at h1
    · rename_i c
      exact ⟨j, rfl, c.1, c.2, Post.here h1 m1 walk_rg⟩
    · exact h1.elim
  · exact h1.elim
theorem ZI.range2 (hg : Gl X "range") (hm : X.mg "range" = none) (ha : ZE X E a ca) (hb : ZE X E b cb) (hs : starEach [a, b] X.env = [(false, eval a X.env), (false, eval b X.env)] := by rfl) (hs2 : starEach [b] X.env = [(false, eval b X.env)] := by rfl) :
    ZI X E tg (.Call (.Name "range" p) [a, b] [] pos) (zrange2 ca cb) := by
  obtain ⟨t, pa, q⟩ := ha
  obtain ⟨t', pb, q'⟩ := hb
  refine ⟨_, pi_range2 hg hm (pa_cons pa (pa1 pb hs2) (by rw [hs, hs2])) hs hs2, fun σ H θ sl M R hs hm h => q σ H θ sl M _ hs hm (Post.bind h fun d M1 v H1 θ1 g1 m1 r1 h1 => ?_)⟩
  refine q' σ H1 θ1 sl M1 _ (hs.go g1) m1 (Post.bind h1 fun d' M2 v' H2 θ2 g2 m2 r2 h2 => ?_)
  split at h2
  · rename_i i j
    cases r1; cases r2
    split at h2
    · rename_i c
      exact ⟨i, j, rfl, c, Post.here h2 m2 walk_rg⟩
    · exact h2.elim
  · exact h2.elim
theorem ZI.enum {elts : List Expr} {kk : Nat} (hg : Gl X "enumerate") (hm : X.mg "enumerate" = none) (ha : ZE X E a ca) (hs : starEach [a] X.env = [(false, eval a X.env)] := by rfl) : ZI X E (.Tuple elts kk tpos) (.Call (.Name "enumerate" p) [a] [] pos) (zenum ca) := by
  obtain ⟨t, pa, q⟩ := ha
  refine ⟨_, pi_enumT hg hm (pa1 pa hs) hs, fun σ H θ sl M R hs hm h => q σ H θ sl M _ hs hm (Post.bind h fun d M1 v H1 θ1 g1 m1 r1 h1 => ?_)⟩
  split at h1
  · cases r1 with
    | tup k1 k2 => exact ⟨_, _, rfl, .inr ⟨k1, Post.here h1 m1 (walk_et k1 k2)⟩⟩
  · cases r1 with
    | lst k1 k2 => exact ⟨_, _, rfl, .inl ⟨k1.sq, Post.here h1 m1 (walk_el k1 k2)⟩⟩
  · exact h1.elim
theorem ZI.zip {elts : List Expr} {kk : Nat} (hg : Gl X "zip") (hm : X.mg "zip" = none) (ha : ZE X E a ca) (hb : ZE X E b cb) (hs : starEach [a, b] X.env = [(false, eval a X.env), (false, eval b X.env)] := by rfl) (hs2 : starEach [b] X.env = [(false, eval b X.env)] := by rfl) :
    ZI X E (.Tuple elts kk tpos) (.Call (.Name "zip" p) [a, b] [] pos) (zzip ca cb) := by
  obtain ⟨t, pa, q⟩ := ha
  obtain ⟨t', pb, q'⟩ := hb
  refine ⟨_, RZ.pi_zipA hg hm (pa_cons pa (pa1 pb hs2) (by rw [hs, hs2])) (by rw [hs, hs2]) (by rw [hs2]; rfl), fun σ H θ sl M R hs hm h => q σ H θ sl M _ hs hm (Post.bind h fun d M1 v H1 θ1 g1 m1 r1 h1 => ?_)⟩
  refine q' σ H1 θ1 sl M1 _ (hs.go g1) m1 (Post.bind h1 fun d' M2 v' H2 θ2 g2 m2 r2 h2 => ?_)
  split at h2
  · cases r1 with
    | tup k1 k2 =>
      cases r2 with
      | tup l1 l2 => exact ⟨_, _, _, _, rfl, .inr ⟨SqT.keep g2.keep k1, l1, Post.here h2 m2 (walk_zt (SqT.keep g2.keep k1) (k2.keep g2.keep) l1 l2)⟩⟩
  · cases r1 with
    | lst k1 k2 =>
      cases r2 with
      | lst l1 l2 => exact ⟨_, _, _, _, rfl, .inl ⟨(k1.keep g2.keep).sq, l1.sq, Post.here h2 m2 (walk_zl (k1.keep g2.keep) (k2.keep g2.keep) l1 l2)⟩⟩
  · exact h2.elim
/-- d.items() -/
def zditems (a : ZC) : ZCs := fun sl M => (a sl M).bind fun d M1 => match d with
  | .p (.dict kvs) => .ok (kvs.map fun kv => .p (.tuple [kv.1, kv.2])) M1
  | _ => .stuck
theorem ZI.items {elts : List Expr} {kk : Nat} {apos cpos : Pos} (ha : ZE X E a ca) (hbase : attributeBase a "items" X.env (eval a X.env) = eval a X.env := by rfl) (hline : (apos.endLine == cpos.line) = true := by rfl) :
    ZI X E (.Tuple elts kk tpos) (.Call (.Attribute a "items" apos) [] [] cpos) (zditems ca) := by
  obtain ⟨t, pa, q⟩ := ha
  refine ⟨_, pi_items pa hbase hline, fun σ H θ sl M R hs hm h => q σ H θ sl M _ hs hm (Post.bind h fun d M1 v H1 θ1 g1 m1 r1 h1 => ?_)⟩
  split at h1
  · cases r1 with
    | dct k1 k2 k3 => exact ⟨_, _, _, rfl, k1, Post.here h1 m1 (walk_i k1 (kv_all k2 k3))⟩
  · exact h1.elim
end
end Z

/-! Z: targets, statements, loops. -/
namespace Z
open PySem PySem.Spec PyProof.Rows L2

/-! ### canonical readings -/
section
variable (K : PySem.W.Frag) (mg : Str → Option Value) (E : XK)
def tZ (c : ZC) : TE := fun σ H Q => ∃ θ sl M, SV K θ H σ sl ∧ SR K θ H M ∧ Post K mg E (Dr K) Q θ H (c sl M)
def tZb (c : ZCb) : TT := fun σ H Q => ∃ θ sl M, SV K θ H σ sl ∧ SR K θ H M ∧ Post K mg E EqR Q θ H (c sl M)
end
theorem ZE.can {X : Cx} {E : XK} {e : Expr} {c : ZC} (h : ZE X E e c) : PE X e (tZ X.K X.mg E c) := by
  obtain ⟨t, p, q⟩ := h
  exact ⟨fun pins s σ H Q I ⟨θ, sl, M, hs, hm, w⟩ => p.run pins s σ H Q I (q σ H θ sl M Q hs hm w)⟩
theorem ZT.can {X : Cx} {E : XK} {e : Expr} {c : ZCb} (h : ZT X E e c) : PT X e (tZb X.K X.mg E c) := by
  obtain ⟨t, p, q⟩ := h
  exact ⟨fun pins s σ H Q I ⟨θ, sl, M, hs, hm, w⟩ => p.run pins s σ H Q I (q σ H θ sl M Q hs hm w)⟩

/-! ### targets -/
abbrev Tg := D → Sl → Option Sl
/-- alike but for some places -/
def But (ix : List Nat) (σ σ' : L2.St) : Prop := σ'.length = σ.length ∧ ∀ j, j ∉ ix → σ'[j]? = σ[j]?
structure ZG (X : Cx) (tg : Expr) (f : Tg) (ix : List Nat) : Prop where
  run : ∃ g, PG X tg g ∧ ∀ v d σ H θ sl sl' Q, SV X.K θ H σ sl → Dr X.K θ H v d → f d sl = some sl' → (∀ σ', SV X.K θ H σ' sl' → But ix σ σ' → Q σ' H) → g v σ H Q
structure ZGs (X : Cx) (ts : List Expr) (f : List P → Sl → Option Sl) (ix : List Nat) : Prop where
  run : ∃ g, PGs X ts g ∧ ∀ vs xs σ H θ sl sl' Q, SV X.K θ H σ sl → FzAll X.K H vs xs → f xs sl = some sl' → (∀ σ', SV X.K θ H σ' sl' → But ix σ σ' → Q σ' H) → g vs σ H Q
def tgN (i : Nat) : Tg := fun d sl => some (sl.set i (some d))
def tgsNil : List P → Sl → Option Sl := fun xs sl => match xs with
  | [] => some sl
  | _ => none
def tgsCons (f : Tg) (r : List P → Sl → Option Sl) : List P → Sl → Option Sl := fun xs sl => match xs with
  | x :: xs => match f (.p x) sl with
    | some sl1 => r xs sl1
    | none => none
  | [] => none
def tgT (f : List P → Sl → Option Sl) : Tg := fun d sl => match d with
  | .p (.tuple xs) => f xs sl
  | _ => none
section
variable {X : Cx} {E : XK}
theorem SV.set {K : PySem.W.Frag} {θ : List Addr} {H : Hp} {σ : L2.St} {sl : Sl} {i : Nat} {v : V} {d : D} (h : SV K θ H σ sl) (r : Dr K θ H v d) : SV K θ H (σ.set i (some v)) (sl.set i (some d)) := by
  refine ⟨by rw [List.length_set, List.length_set]; exact h.len, fun j d' e => ?_⟩
  by_cases hj : i = j
  · subst hj
    have hl : i < sl.length := by
      have := (List.getElem?_eq_some_iff.mp e).1
      rw [List.length_set] at this
      exact this
    rw [List.getElem?_set_self hl] at e
    cases e
    exact ⟨v, List.getElem?_set_self (by rw [← h.len]; exact hl), r⟩
  · rw [List.getElem?_set_ne hj] at e
    rw [List.getElem?_set_ne hj]
    exact h.at_ j d' e
theorem ZG.name (nd : X.N.Nodup) (i : Nat) {x : Str} {pos : Pos} (hi : X.N[i]? = some x := by rfl) (hx : Loc X.env.scope x := by first | exact .inl rfl | exact .inr rfl)
    (hf : X.fn x = true ∨ X.env.scope.names.lookup x = some .local := by first | exact .inl rfl | exact .inr rfl) : ZG X (.Name x pos) (tgN i) [i] :=
  ⟨_, pg_name nd hi hx hf, fun v d σ H θ sl sl' Q hs r e q => by
    cases e
    exact q _ (hs.set r) ⟨List.length_set, fun j hj => List.getElem?_set_ne (fun z => hj (by simp [z]))⟩⟩
theorem ZGs.nil : ZGs X [] tgsNil [] :=
  ⟨_, pgs_nil, fun vs xs σ H θ sl sl' Q hs r e q => by
    cases r with
    | nil => cases e; exact ⟨rfl, q σ hs ⟨rfl, fun _ _ => rfl⟩⟩
    | cons a b => cases e⟩
theorem ZGs.cons {e : Expr} {es : List Expr} {f : Tg} {r : List P → Sl → Option Sl} {ix jx : List Nat} (h : ZG X e f ix) (hr : ZGs X es r jx) (hs : (assignEach (e :: es) X.env).map (·.2) = assign e X.env :: (assignEach es X.env).map (·.2) := by rfl) :
    ZGs X (e :: es) (tgsCons f r) (ix ++ jx) := by
  obtain ⟨g, pg, q⟩ := h.run
  obtain ⟨gr, pr, qr⟩ := hr.run
  refine ⟨_, pgs_cons pg pr hs, fun vs xs σ H θ sl sl' Q hsv rr e k => ?_⟩
  cases rr with
  | nil => cases e
  | cons a b =>
    rename_i v vs d ds
    unfold tgsCons at e
    simp only at e
    cases e1 : f (.p d) sl with
    | none => rw [e1] at e; cases e
    | some sl1 =>
      rw [e1] at e
      refine ⟨v, vs, rfl, q v (.p d) σ H θ sl sl1 _ hsv a e1 fun σ1 h1 f1 => ?_⟩
      refine qr vs ds σ1 H θ sl1 sl' _ h1 b e fun σ2 h2 f2 => k σ2 h2 ⟨f2.1.trans f1.1, fun j hj => ?_⟩
      rw [List.mem_append, not_or] at hj
      rw [f2.2 j hj.2, f1.2 j hj.1]
theorem ZG.tup {es : List Expr} {k n : Nat} {pos : Pos} {f : List P → Sl → Option Sl} {ix : List Nat} (zx : X.calm = true) (h : ZGs X es f ix) (hlen : ∀ xs sl sl', f xs sl = some sl' → xs.length = n)
    (hn : (assignEach es X.env).length = n := by rfl) (hst : (assignEach es X.env).findIdx? (·.1) = none := by rfl) : ZG X (.Tuple es k pos) (tgT f) ix := by
  obtain ⟨g, pg, q⟩ := h.run
  refine ⟨_, pg_tup zx pg hn hst, fun v d σ H θ sl sl' Q hs r e kk => ?_⟩
  unfold tgT at e
  split at e
  · rename_i xs
    cases r with
    | tup k1 k2 => exact ⟨_, _, rfl, k1, by rw [k2.length]; exact hlen _ _ _ e, q _ xs σ H θ sl sl' Q hs k2 e kk⟩
  · cases e
theorem len_nil : ∀ xs sl sl', tgsNil xs sl = some sl' → xs.length = 0 := fun xs sl sl' h => by
  cases xs with
  | nil => rfl
  | cons x r => cases h
theorem len_cons {f : Tg} {r : List P → Sl → Option Sl} {n : Nat} (h : ∀ xs sl sl', r xs sl = some sl' → xs.length = n) : ∀ xs sl sl', tgsCons f r xs sl = some sl' → xs.length = n + 1 := fun xs sl sl' e => by
  cases xs with
  | nil => cases e
  | cons x xs =>
    unfold tgsCons at e
    simp only at e
    cases e1 : f (.p x) sl with
    | none => rw [e1] at e; cases e
    | some sl1 => rw [e1] at e; rw [List.length_cons, h _ _ _ e]
/-- (a, b), (a, b, c) of names -/
theorem ZG.two {a b : Expr} {f g : Tg} {i j : List Nat} {k : Nat} {pos : Pos} (zx : X.calm = true) (h : ZG X a f i) (h' : ZG X b g j) (hs : (assignEach [a, b] X.env).map (·.2) = assign a X.env :: (assignEach [b] X.env).map (·.2) := by rfl)
    (hs' : (assignEach [b] X.env).map (·.2) = assign b X.env :: (assignEach [] X.env).map (·.2) := by rfl)
    (hn : (assignEach [a, b] X.env).length = 2 := by rfl) (hst : (assignEach [a, b] X.env).findIdx? (·.1) = none := by rfl) : ZG X (.Tuple [a, b] k pos) (tgT (tgsCons f (tgsCons g tgsNil))) (i ++ (j ++ [])) :=
  ZG.tup zx (ZGs.cons h (ZGs.cons h' .nil hs') hs) (len_cons (len_cons len_nil)) hn hst
theorem ZG.three {a b c : Expr} {f g u : Tg} {i j m : List Nat} {k : Nat} {pos : Pos} (zx : X.calm = true) (h : ZG X a f i) (h' : ZG X b g j) (h'' : ZG X c u m) (hs : (assignEach [a, b, c] X.env).map (·.2) = assign a X.env :: (assignEach [b, c] X.env).map (·.2) := by rfl)
    (hs' : (assignEach [b, c] X.env).map (·.2) = assign b X.env :: (assignEach [c] X.env).map (·.2) := by rfl) (hs'' : (assignEach [c] X.env).map (·.2) = assign c X.env :: (assignEach [] X.env).map (·.2) := by rfl)
    (hn : (assignEach [a, b, c] X.env).length = 3 := by rfl) (hst : (assignEach [a, b, c] X.env).findIdx? (·.1) = none := by rfl) : ZG X (.Tuple [a, b, c] k pos) (tgT (tgsCons f (tgsCons g (tgsCons u tgsNil)))) (i ++ (j ++ (m ++ []))) :=
  ZG.tup zx (ZGs.cons h (ZGs.cons h' (ZGs.cons h'' .nil hs'') hs') hs) (len_cons (len_cons (len_cons len_nil))) hn hst
end

/-! ### statements -/
inductive OutS where
  | stuck
  | nx (sl : Sl) (M : Store)
  | rt (d : D) (M : Store)
  | exc (e : Ex) (M : Store)
abbrev SC := Sl → Store → OutS
section
variable (K : PySem.W.Frag) (mg : Str → Option Value) (E : XK)
def PostS (N : Ends) (θ : List Addr) (H : Hp) : OutS → Prop
  | .stuck => False
  | .nx sl M => ∀ σ' H' θ', Go θ θ' H H' → SV K θ' H' σ' sl → SR K θ' H' M → N.nx σ' H'
  | .rt d M => ∀ v H' θ', Go θ θ' H H' → SR K θ' H' M → Dr K θ' H' v d → N.rt v H'
  | .exc x M' => ∀ cls dd H' θ', Go θ θ' H H' → SR K θ' H' M' → ExOk K mg H' x cls dd → E cls dd H'
end
theorem PostS.go {K : PySem.W.Frag} {mg : Str → Option Value} {E : XK} {N : Ends} {θ θ1 : List Addr} {H H1 : Hp} {o : OutS} (g : Go θ θ1 H H1) (h : PostS K mg E N θ H o) : PostS K mg E N θ1 H1 o := by
  cases o with
  | stuck => exact h
  | nx a M' => exact fun b H' θ' g' s r => h b H' θ' (g.trans g') s r
  | rt a M' => exact fun b H' θ' g' s r => h b H' θ' (g.trans g') s r
  | exc x M' => exact fun c d H' θ' g' s r => h c d H' θ' (g.trans g') s r
/-- an expression's outcome, then a statement's -/
def Out.thn {α : Type} : Out α → (α → Store → OutS) → OutS
  | .ok a M, k => k a M
  | .stuck, _ => .stuck
  | .exc e M, _ => .exc e M
@[simp] theorem Out.thn_ok {α : Type} (a : α) (M : Store) (k : α → Store → OutS) : (Out.ok a M).thn k = k a M := id rfl
@[simp] theorem Out.thn_stuck {α : Type} (k : α → Store → OutS) : (Out.stuck : Out α).thn k = .stuck := id rfl
theorem PostS.thn {K : PySem.W.Frag} {mg : Str → Option Value} {E : XK} {α β : Type} {R : List Addr → Hp → β → α → Prop} {Q : β → Hp → Prop} {N : Ends} {θ : List Addr} {H : Hp} {o : Out α} {k : α → Store → OutS} (h : PostS K mg E N θ H (o.thn k))
    (f : ∀ a M1 b H1 θ1, Go θ θ1 H H1 → SR K θ1 H1 M1 → R θ1 H1 b a → PostS K mg E N θ1 H1 (k a M1) → Q b H1) : Post K mg E R Q θ H o := by
  cases o with
  | stuck => exact h
  | ok a M' => exact fun b H' θ' g s r => f a M' b H' θ' g s r (PostS.go g h)
  | exc x M' => exact h
def ZS (X : Cx) (E : XK) (st : Stmt) (c : SC) : Prop := ∃ t, PS X st t ∧ ∀ σ H θ sl M N, SV X.K θ H σ sl → SR X.K θ H M → PostS X.K X.mg E N θ H (c sl M) → t N σ H
def ZB (X : Cx) (E : XK) (sts : List Stmt) (c : SC) : Prop := ∃ t, PSs X sts t ∧ ∀ σ H θ sl M N, SV X.K θ H σ sl → SR X.K θ H M → PostS X.K X.mg E N θ H (c sl M) → t N σ H
def sskip : SC := fun sl M => .nx sl M
def OutS.seq : OutS → SC → OutS
  | .nx sl M, k => k sl M
  | .rt d M, _ => .rt d M
  | .exc e M, _ => .exc e M
  | .stuck, _ => .stuck
@[simp] theorem OutS.seq_nx (sl : Sl) (M : Store) (k : SC) : (OutS.nx sl M).seq k = k sl M := id rfl
@[simp] theorem OutS.seq_rt (d : D) (M : Store) (k : SC) : (OutS.rt d M).seq k = .rt d M := id rfl
@[simp] theorem OutS.seq_stuck (k : SC) : OutS.stuck.seq k = .stuck := id rfl
def sseq (a b : SC) : SC := fun sl M => (a sl M).seq b
def sset (i : Nat) (c : ZC) : SC := fun sl M => (c sl M).thn fun d M1 => .nx (sl.set i (some d)) M1
def sret (c : ZC) : SC := fun sl M => (c sl M).thn fun d M1 => .rt d M1
def sretN : SC := fun sl M => .rt (.p .none) M
def sexpr (c : ZC) : SC := fun sl M => (c sl M).thn fun _ M1 => .nx sl M1
def sif (t : ZCb) (a b : SC) : SC := fun sl M => (t sl M).thn fun k M1 => if k = true then a sl M1 else b sl M1
/-- target = e -/
def stg (f : Tg) (c : ZC) : SC := fun sl M => (c sl M).thn fun d M1 => match f d sl with
  | some sl1 => .nx sl1 M1
  | none => .stuck
/-- a, b = e1, e2 -/
def setAll : List Nat → List D → Sl → Option Sl
  | [], [], sl => some sl
  | i :: is, d :: ds, sl => setAll is ds (sl.set i (some d))
  | _, _, _ => none
def spar (is : List Nat) (c : ZCs) : SC := fun sl M => (c sl M).thn fun ds M1 => match setAll is ds sl with
  | some sl1 => .nx sl1 M1
  | none => .stuck
section
variable {X : Cx} {E : XK} {e a b : Expr} {st : Stmt} {rest body orelse : List Stmt} {pos pos' : Pos} {c d : SC} {ca cb : ZC} {ta : ZCb} {cs : ZCs} {tg : Expr} {f : Tg} {ix : List Nat}
theorem ZB.nil : ZB X E [] sskip := ⟨_, pss_nil, fun σ H θ sl M N hs hm h => h σ H θ .refl hs hm⟩
theorem ZB.cons (h : ZS X E st c) (hr : ZB X E rest d) : ZB X E (st :: rest) (sseq c d) := by
  obtain ⟨t, p, q⟩ := h
  obtain ⟨u, pr, qr⟩ := hr
  refine ⟨_, pss_cons p pr, fun σ H θ sl M N hs hm h => q σ H θ sl M _ hs hm ?_⟩
  unfold sseq at h
  cases e : c sl M with
  | stuck => rw [e] at h; exact h
  | nx sl1 M1 => rw [e] at h; exact fun σ' H' θ' g s r => qr σ' H' θ' sl1 M1 N s r (PostS.go g h)
  | rt d M1 => rw [e] at h; exact h
  | exc x M1 => rw [e] at h; exact h
theorem ZB.one (h : ZS X E st c) : ZB X E [st] c := by
  obtain ⟨t, p, q⟩ := h
  exact ⟨_, pss_one p, q⟩
theorem ZS.pass : ZS X E (.Pass pos) sskip := ⟨_, ps_pass, fun σ H θ sl M N hs hm h => h σ H θ .refl hs hm⟩
theorem ZS.doc {x j} : ZS X E (.Expr (.Constant (.str x) j pos') pos) sskip := ⟨_, ps_doc, fun σ H θ sl M N hs hm h => h σ H θ .refl hs hm⟩
theorem ZS.expr (he : ZE X E e ca) (hs : swapsWith e none pos.line X.env = pure false := by rfl) : ZS X E (.Expr e pos) (sexpr ca) := by
  obtain ⟨t, p, q⟩ := he
  exact ⟨_, ps_expr p hs, fun σ H θ sl M N hs hm h => q σ H θ sl M _ hs hm (PostS.thn h fun d M1 v H1 θ1 g1 m1 r1 h1 => h1 σ H1 θ1 .refl (hs.go g1) m1)⟩
theorem ZS.ret (he : ZE X E e ca) : ZS X E (.Return (some e) pos) (sret ca) := by
  obtain ⟨t, p, q⟩ := he
  exact ⟨_, ps_ret p, fun σ H θ sl M N hs hm h => q σ H θ sl M _ hs hm (PostS.thn h fun d M1 v H1 θ1 g1 m1 r1 h1 => h1 v H1 θ1 .refl m1 r1)⟩
theorem ZS.retN : ZS X E (.Return none pos) sretN := ⟨_, ps_retN, fun σ H θ sl M N hs hm h => h .non H θ .refl hm Fz.non⟩
theorem ZS.ife (hc : ZT X E e ta) (ha : ZB X E body c) (hb : ZB X E orelse d) : ZS X E (.If e body orelse pos) (sif ta c d) := by
  obtain ⟨t, p, q⟩ := hc
  obtain ⟨u, pa, qa⟩ := ha
  obtain ⟨w, pb, qb⟩ := hb
  refine ⟨_, ps_if p pa pb, fun σ H θ sl M N hs hm h => q σ H θ sl M _ hs hm (PostS.thn h fun k M1 k' H1 θ1 g1 m1 r1 h1 => ?_)⟩
  cases r1
  cases k with
  | true => exact (if_pos rfl).mpr (qa σ H1 θ1 sl M1 N (hs.go g1) m1 (by simpa using h1))
  | false => exact (if_neg Bool.false_ne_true).mpr (qb σ H1 θ1 sl M1 N (hs.go g1) m1 (by simpa using h1))
theorem ZS.set (nd : X.N.Nodup) (i : Nat) {x : Str} (he : ZE X E e ca) (hi : X.N[i]? = some x := by rfl) (hx : Loc X.env.scope x := by first | exact .inl rfl | exact .inr rfl) (hs : swapsWith e (some (.Name x pos')) pos.line X.env = pure false := by rfl)
    (hf : X.fn x = true ∨ X.env.scope.names.lookup x = some .local := by first | exact .inl rfl | exact .inr rfl) : ZS X E (.Assign [.Name x pos'] e pos) (sset i ca) := by
  obtain ⟨t, p, q⟩ := he
  exact ⟨_, ps_set nd hi hx p hs hf, fun σ H θ sl M N hs hm h => q σ H θ sl M _ hs hm (PostS.thn h fun d M1 v H1 θ1 g1 m1 r1 h1 => h1 _ H1 θ1 .refl ((hs.go g1).set r1) m1)⟩
theorem ZS.asg (he : ZE X E e ca) (hg : ZG X tg f ix) (hs : swapsWithSole [tg] e pos.line X.env = pure false := by rfl) (hw : swappedStores [tg] e X.env = pure none := by rfl)
    (h1 : (assignEach [tg] X.env).map (·.2) = [assign tg X.env] := by rfl) : ZS X E (.Assign [tg] e pos) (stg f ca) := by
  obtain ⟨t, p, q⟩ := he
  obtain ⟨g, pg, qg⟩ := hg.run
  refine ⟨_, ps_asg p pg hs hw h1, fun σ H θ sl M N hs hm h => q σ H θ sl M _ hs hm (PostS.thn h fun d M1 v H1 θ1 g1 m1 r1 h1 => ?_)⟩
  cases e1 : f d sl with
  | none => rw [e1] at h1; exact h1.elim
  | some sl1 =>
    rw [e1] at h1
    exact qg v d σ H1 θ1 sl sl1 _ (hs.go g1) r1 e1 fun σ' h' _ => h1 σ' H1 θ1 .refl h' m1
/-- a, b = e1, e2, local names -/
theorem ZS.par2 (zx : ZX X) (i j : Nat) {x y : Str} {px py pt : Pos} {kt k2 : Nat} {pt2 : Pos} (ha : ZA X E [a, b] cs) (hi : X.N[i]? = some x := by rfl) (hj : X.N[j]? = some y := by rfl) (hij : i ≠ j := by decide)
    (hx : X.env.scope.names.lookup x = some .local := by rfl) (hy : X.env.scope.names.lookup y = some .local := by rfl) (hw : swappedStores [.Tuple [.Name x px, .Name y py] kt pt] (.Tuple [a, b] k2 pt2) X.env = pure (some [x, y]) := by rfl)
    (hs : swapsWithSole [.Tuple [.Name x px, .Name y py] kt pt] (.Tuple [a, b] k2 pt2) pos.line X.env = pure false := by rfl) : ZS X E (.Assign [.Tuple [.Name x px, .Name y py] kt pt] (.Tuple [a, b] k2 pt2) pos) (spar [i, j] cs) := by
  obtain ⟨t, p, q⟩ := ha
  refine ⟨_, ps_par zx.calm zx.nd hi hj hij hx hy p hw hs, fun σ H θ sl M N hs hm h => q σ H θ sl M _ hs hm (PostS.thn h fun ds M1 vs H1 θ1 g1 m1 r1 h1 => ?_)⟩
  cases r1 with
  | nil => exact h1.elim
  | cons a1 r1 =>
    cases r1 with
    | nil => exact h1.elim
    | cons a2 r2 =>
      cases r2 with
      | cons _ _ => exact h1.elim
      | nil => exact ⟨_, _, rfl, h1 _ H1 θ1 .refl (((hs.go g1).set a1).set a2) m1⟩
/-! the same by a tuple that is made and taken apart -/
theorem ZS.parT {ts es : List Expr} {is : List Nat} {kt k2 n : Nat} {pt pt2 : Pos} (zx : ZX X) (ha : ZA X E es cs) (hg : ∃ g, PGs X ts g ∧ ∀ vs ds σ H θ sl sl' Q, SV X.K θ H σ sl → Drs X.K θ H vs ds → setAll is ds sl = some sl' → (∀ σ', SV X.K θ H σ' sl' → Q σ' H) → g vs σ H Q)
    (hl : is.length = n := by rfl) (hn : (assignEach ts X.env).length = n := by rfl) (hst : (assignEach ts X.env).findIdx? (·.1) = none := by rfl) (hsz : n ≤ 100 := by decide)
    (hs : swapsWithSole [.Tuple ts kt pt] (.Tuple es k2 pt2) pos.line X.env = pure false := by rfl) (hw : swappedStores [.Tuple ts kt pt] (.Tuple es k2 pt2) X.env = pure none := by rfl)
    (h1 : (assignEach [.Tuple ts kt pt] X.env).map (·.2) = [assign (.Tuple ts kt pt) X.env] := by rfl) : ZS X E (.Assign [.Tuple ts kt pt] (.Tuple es k2 pt2) pos) (spar is cs) := by
  obtain ⟨t, p, q⟩ := ha
  obtain ⟨g, pg, qg⟩ := hg
  refine ⟨_, ps_asg (pe_tup p) (pg_tup zx.calm pg hn hst) hs hw h1, fun σ H θ sl M N hs hm h => q σ H θ sl M _ hs hm (PostS.thn h fun ds M1 vs H1 θ1 g1 m1 r1 h1 => ?_)⟩
  cases e1 : setAll is ds sl with
  | none => rw [e1] at h1; exact h1.elim
  | some sl1 =>
    rw [e1] at h1
    have hlen : ds.length = n := by
      rw [← hl]
      clear h1 h q qg p pg
      have go : ∀ (is : List Nat) (ds : List D) (sl : Sl), setAll is ds sl = some sl1 → ds.length = is.length := by
        intro is
        induction is with
        | nil => intro ds sl e; cases ds with
          | nil => rfl
          | cons _ _ => cases e
        | cons i is ih => intro ds sl e; cases ds with
          | nil => cases e
          | cons d ds => rw [List.length_cons, List.length_cons, ih ds _ e]
      exact go is ds sl e1
    have vlen : vs.length = n := by rw [Paired.length r1]; exact hlen
    refine ⟨by rw [vlen, sizeLine_eq]; omega, fun ad had => ?_⟩
    have g2 := Go.out (u := .tup vs) m1 had
    refine ⟨ad, vs, rfl, SqT.new, vlen, qg vs ds σ _ θ1 sl sl1 _ ((hs.go g1).go g2) (Drs.go g2 r1) e1 fun σ' h' => h1 σ' _ θ1 g2 h' (m1.out had)⟩
theorem tn_nil : ∃ g, PGs X [] g ∧ ∀ vs ds σ H θ sl sl' Q, SV X.K θ H σ sl → Drs X.K θ H vs ds → setAll [] ds sl = some sl' → (∀ σ', SV X.K θ H σ' sl' → Q σ' H) → g vs σ H Q :=
  ⟨_, pgs_nil, fun vs ds σ H θ sl sl' Q hs r e q => by
    cases r with
    | nil => cases e; exact ⟨rfl, q σ hs⟩
    | cons _ _ => cases e⟩
theorem tn_cons {is : List Nat} {ts : List Expr} (nd : X.N.Nodup) (i : Nat) {x : Str} (h : ∃ g, PGs X ts g ∧ ∀ vs ds σ H θ sl sl' Q, SV X.K θ H σ sl → Drs X.K θ H vs ds → setAll is ds sl = some sl' → (∀ σ', SV X.K θ H σ' sl' → Q σ' H) → g vs σ H Q)
    (hi : X.N[i]? = some x := by rfl) (hx : Loc X.env.scope x := by first | exact .inl rfl | exact .inr rfl) (hf : X.fn x = true ∨ X.env.scope.names.lookup x = some .local := by first | exact .inl rfl | exact .inr rfl)
    (hs : (assignEach (.Name x pos :: ts) X.env).map (·.2) = assign (.Name x pos) X.env :: (assignEach ts X.env).map (·.2) := by rfl) :
    ∃ g, PGs X (.Name x pos :: ts) g ∧ ∀ vs ds σ H θ sl sl' Q, SV X.K θ H σ sl → Drs X.K θ H vs ds → setAll (i :: is) ds sl = some sl' → (∀ σ', SV X.K θ H σ' sl' → Q σ' H) → g vs σ H Q := by
  obtain ⟨g, pg, q⟩ := h
  refine ⟨_, pgs_cons (pg_name nd hi hx hf) pg hs, fun vs ds σ H θ sl sl' Q hsv r e k => ?_⟩
  cases r with
  | nil => cases e
  | cons a b => exact ⟨_, _, rfl, q _ _ _ H θ _ sl' Q (hsv.set a) b e k⟩
end
end Z

/-! Z: for, while, list comprehensions. -/
namespace Z
open PySem PySem.Spec PyProof.Rows L2

/-! ### for -/
def forP (f : Tg) (body : SC) : List D → SC
  | [], sl, M => .nx sl M
  | d :: ds, sl, M => match f d sl with
    | some sl1 => (body sl1 M).seq (forP f body ds)
    | none => .stuck
@[simp] theorem forP_nil (f : Tg) (body : SC) (sl : Sl) (M : Store) : forP f body [] sl M = .nx sl M := id rfl
def sfor (f : Tg) (ci : ZCs) (body : SC) : SC := fun sl M => (ci sl M).thn fun ds M1 => forP f body ds sl M1
section
variable {X : Cx} {E : XK} {tg iter : Expr} {body : List Stmt} {pos : Pos} {f : Tg} {ix : List Nat} {ci : ZCs} {c : SC}
theorem ZS.for_ (zx : ZX X) (hi : ZI X E tg iter ci) (hg : ZG X tg f ix) (hb : ZB X E body c) (hs : ∀ x, foldedSetIterable iter X.env x = pure x := by intro _; rfl) : ZS X E (.For tg iter body [] pos) (sfor f ci c) := by
  obtain ⟨wi, pi, qi⟩ := hi
  obtain ⟨g, pg, qg⟩ := hg.run
  obtain ⟨tb, pb, qb⟩ := hb
  refine ⟨_, ps_for zx.own zx.calm pi pg pb hs, fun σ H θ sl M N hs hm h => qi σ H θ sl M _ hs hm (PostS.thn h fun ds M1 J H1 θ1 g1 m1 w1 h1 => ?_)⟩
  refine ⟨fun i m σ H => ∃ θ sl M, Go θ1 θ H1 H ∧ SV X.K θ H σ sl ∧ SR X.K θ H M ∧ m = ds.length - i ∧ i ≤ ds.length ∧ PostS X.K X.mg E N θ H (forP f c (ds.drop i) sl M), ⟨_, θ1, sl, M1, .refl, hs.go g1, m1, rfl, Nat.zero_le _, h1⟩, ?_⟩
  rintro i m σ2 H2 ⟨θ2, sl2, M2, g2, s2, m2, rfl, hi, h2⟩
  by_cases hlt : i < ds.length
  · refine .inr ⟨w1.go i H2 θ2 hlt g2, fun σ' H' => ∃ θ' sl' M', Go θ1 θ' H1 H' ∧ SV X.K θ' H' σ' sl' ∧ SR X.K θ' H' M' ∧ PostS X.K X.mg E N θ' H' (forP f c (ds.drop (i + 1)) sl' M'), ?_, ?_⟩
    · rintro σ' H' ⟨θ', sl', M', a, b, c', d⟩
      exact ⟨ds.length - (i + 1), by omega, θ', sl', M', a, b, c', rfl, hlt, d⟩
    · intro x H3 y
      obtain ⟨d, ed, g3, m3, r3⟩ := w1.yld i H2 θ2 M2 x H3 hlt g2 m2 y
      have e0 : ds.drop i = d :: ds.drop (i + 1) := by
        rw [List.drop_eq_getElem_cons hlt]
        rw [List.getElem?_eq_getElem hlt] at ed
        rw [Option.some.inj ed]
      rw [e0] at h2
      unfold forP at h2
      cases e1 : f d sl2 with
      | none => rw [e1] at h2; exact h2.elim
      | some sl3 =>
        rw [e1] at h2
        simp only at h2
        refine qg x d σ2 H3 θ2 sl2 sl3 _ (s2.go g3) r3 e1 fun σ3 s3 _ => ?_
        refine qb σ3 H3 θ2 sl3 M2 _ s3 m3 ?_
        have h3 := PostS.go g3 h2
        cases e2 : c sl3 M2 with
        | stuck => rw [e2] at h3; exact h3
        | nx sl4 M4 => rw [e2] at h3; exact fun σ' H' θ' g s r => ⟨θ', sl4, M4, (g2.trans g3).trans g, s, r, PostS.go g h3⟩
        | rt d4 M4 => rw [e2] at h3; exact h3
        | exc x4 M4 => rw [e2] at h3; exact h3
  · have e : i = ds.length := by omega
    subst e
    refine .inl ⟨w1.stop _ H2 θ2 (Nat.le_refl _) g2, ?_⟩
    rw [List.drop_length] at h2
    exact h2 σ2 H2 θ2 .refl s2 m2
end

/-! ### while -/
def whileN (t : ZCb) (body : SC) : Nat → SC
  | 0, _, _ => .stuck
  | n + 1, sl, M => (t sl M).thn fun k M1 => if k = true then (body sl M1).seq (whileN t body n) else .nx sl M1
/-- a while of at most n turns -/
def swhile (n : Nat) (t : ZCb) (body : SC) : SC := whileN t body n
section
variable {X : Cx} {E : XK} {e : Expr} {body : List Stmt} {pos : Pos} {t : ZCb} {c : SC}
theorem ZS.while_ (zx : ZX X) (n : Nat) (ht : ZT X E e t) (hb : ZB X E body c) : ZS X E (.While e body [] pos) (swhile n t c) := by
  obtain ⟨tt, pt, qt⟩ := ht
  obtain ⟨tb, pb, qb⟩ := hb
  refine ⟨_, ps_while zx.own pt pb, fun σ H θ sl M N hs hm h => ?_⟩
  refine ⟨fun k σ H => ∃ θ sl M, SV X.K θ H σ sl ∧ SR X.K θ H M ∧ PostS X.K X.mg E N θ H (whileN t c k sl M), ⟨n, θ, sl, M, hs, hm, h⟩, ?_⟩
  rintro k σ1 H1 ⟨θ1, sl1, M1, s1, m1, h1⟩
  cases k with
  | zero => exact h1.elim
  | succ k =>
    unfold whileN at h1
    refine qt σ1 H1 θ1 sl1 M1 _ s1 m1 (PostS.thn h1 fun b M2 b' H2 θ2 g2 m2 r2 h2 => ?_)
    cases r2
    cases b with
    | false => exact (if_neg Bool.false_ne_true).mpr ((show PostS X.K X.mg E N θ2 H2 (.nx sl1 M2) from by simpa using h2) σ1 H2 θ2 .refl (s1.go g2) m2)
    | true =>
      refine (if_pos rfl).mpr ⟨fun σ' H' => ∃ θ' sl' M', SV X.K θ' H' σ' sl' ∧ SR X.K θ' H' M' ∧ PostS X.K X.mg E N θ' H' (whileN t c k sl' M'), ?_, ?_⟩
      · rintro σ' H' ⟨θ', sl', M', a, b, d⟩
        exact ⟨k, Nat.lt_succ_self k, θ', sl', M', a, b, d⟩
      · refine qb σ1 H2 θ2 sl1 M2 _ (s1.go g2) m2 ?_
        have h3 : PostS X.K X.mg E N θ2 H2 ((c sl1 M2).seq (whileN t c k)) := by simpa using h2
        cases e2 : c sl1 M2 with
        | stuck => rw [e2] at h3; exact h3
        | nx sl4 M4 => rw [e2] at h3; exact fun σ' H' θ' g s r => ⟨θ', sl4, M4, s, r, PostS.go g h3⟩
        | rt d4 M4 => rw [e2] at h3; exact h3
        | exc x4 M4 => rw [e2] at h3; exact h3
end

/-! ### list comprehensions -/
def noexc {α : Type} : Out α → Out α
  | .exc _ _ => .stuck
  | o => o
@[simp] theorem noexc_ok {α : Type} (a : α) (M : Store) : noexc (.ok a M) = .ok a M := id rfl
def wipeS (sl : Sl) : List Nat → Sl
  | [] => sl
  | v :: vs => (wipeS sl vs).set v none
/-- the items of a comprehension; sl: the slots, the block's own forgotten -/
def compP (f : Tg) (t : ZCb) (e : ZC) (sl : Sl) : List D → Store → Out (List D)
  | [], M => .ok [] M
  | d :: ds, M => match f d sl with
    | some sl1 => (noexc (t sl1 M)).bind fun k M1 => if k = true then (noexc (e sl1 M1)).bind fun y M2 => (compP f t e sl ds M2).bind fun ys M3 => .ok (y :: ys) M3 else compP f t e sl ds M1
    | none => .stuck
def ztyes : ZCb := fun _ M => .ok true M
/-- fin: frzl (nobody changes it) or mkLst -/
def zcomp (fin : List D → Store → Out D) (vs : List Nat) (ci : ZCs) (f : Tg) (t : ZCb) (e : ZC) : ZC := fun sl M => (ci sl M).bind fun ds M1 => (compP f t e (wipeS sl vs) ds M1).bind fin
/-- the heap without an address -/
def hid (H : Hp) (p : Addr) : Hp := fun b => if b = p then none else H b
theorem hid_ne {H : Hp} {p b : Addr} (h : b ≠ p) : hid H p b = H b := if_neg h
theorem hid_same {H : Hp} {p : Addr} : hid H p p = none := if_pos rfl
theorem upd_hid {H : Hp} {p : Addr} {u : HO} (h : H p = some u) : upd (hid H p) p u = H := by
  funext b
  by_cases e : b = p
  · subst e; rw [upd_same, h]
  · rw [upd_ne e, hid_ne e]
section
variable {K : PySem.W.Frag} {θ θ1 : List Addr} {H H1 : Hp} {p : Addr} {u : HO}
theorem keep_hid (h : H p = some u) (nf : ¬ Fro u) : Keep H (hid H p) := fun a w e f => by
  rw [hid_ne (fun z => by rw [z, h] at e; cases e; exact nf f)]; exact e
theorem SR.hid {M : Store} (s : SR K θ H M) (h : H p = some u) (nf : ¬ Fro u) (np : p ∉ θ) : SR K θ (Z.hid H p) M := by
  refine ⟨s.len, s.nd, fun i o a e1 e2 => (s.ob i o a e1 e2).carry (fun {v d} r => ?_) (keep_hid h nf) (hid_ne fun z => np (z ▸ List.mem_of_getElem? e2)), s.low⟩
  cases d with
  | p x => exact Fz.keep (keep_hid h nf) r
  | ref i => exact r
theorem Dr.hid {v : V} {d : D} (r : Dr K θ H v d) (h : H p = some u) (nf : ¬ Fro u) : Dr K θ (Z.hid H p) v d := by
  cases d with
  | p x => exact Fz.keep (keep_hid h nf) r
  | ref i => exact r
/-- behind what ran beside an object at p that the store does not know -/
theorem Go.hid {H4 : Hp} (g : Go θ θ1 (L2.upd H p u) H4) (hp : H p = none) : Go θ θ1 H (Z.hid H4 p) := by
  refine ⟨g.pre, fun a w e c => ?_, fun a m n => ?_⟩
  · have ne : a ≠ p := ne_of_none e hp
    rw [hid_ne ne]
    exact g.fr a w (by rw [upd_ne ne]; exact e) c
  · have q := g.fresh a m n
    by_cases ne : a = p
    · rw [ne]; exact hp
    · rw [upd_ne ne] at q; exact q
theorem Go.notin {H4 : Hp} (g : Go θ θ1 (L2.upd H p u) H4) (np : p ∉ θ) : p ∉ θ1 := fun m => by
  have q := g.fresh p m np
  rw [upd_same] at q; cases q
theorem Go.same {H4 : Hp} (g : Go θ θ1 (L2.upd H p u) H4) (np : p ∉ θ) : H4 p = some u := g.fr p u upd_same (.inl np)
end
theorem wipe_get : ∀ (vs : List Nat) (σ : L2.St) (j : Nat), (wipe σ vs)[j]? = if j ∈ vs then (if j < σ.length then some none else none) else σ[j]?
  | [], σ, j => by simp [wipe]
  | v :: vs, σ, j => by
    unfold wipe
    by_cases h : v = j
    · subst h
      by_cases hl : v < σ.length
      · rw [List.getElem?_set_self (by rw [wipe_length]; exact hl)]
        simp [hl]
      · rw [List.getElem?_eq_none (by rw [List.length_set, wipe_length]; omega)]
        simp [hl]
    · rw [List.getElem?_set_ne h, wipe_get vs σ j]
      have : (j = v) = False := by simp [Ne.symm h]
      simp [this]
theorem wipe_same {σ σ' : L2.St} {vs ix : List Nat} (hl : σ'.length = σ.length) (h : ∀ j, j ∉ ix → σ'[j]? = (wipe σ vs)[j]?) (hsub : ∀ j ∈ ix, j ∈ vs) : wipe σ' vs = wipe σ vs := by
  apply List.ext_getElem?
  intro j
  rw [wipe_get, wipe_get, hl]
  by_cases hj : j ∈ vs
  · rw [if_pos hj, if_pos hj]
  · rw [if_neg hj, if_neg hj, h j (fun z => hj (hsub j z)), wipe_get, if_neg hj]
theorem SV.wipe {K : PySem.W.Frag} {θ : List Addr} {H : Hp} {σ : L2.St} {sl : Sl} (h : SV K θ H σ sl) : ∀ vs : List Nat, SV K θ H (L2.wipe σ vs) (wipeS sl vs)
  | [] => h
  | v :: vs => by
    have ih := SV.wipe h vs
    unfold L2.wipe wipeS
    refine ⟨by rw [List.length_set, List.length_set]; exact ih.len, fun j d e => ?_⟩
    by_cases hj : v = j
    · subst hj
      by_cases hl : v < (wipeS sl vs).length
      · rw [List.getElem?_set_self hl] at e; cases e
      · rw [List.getElem?_eq_none (by rw [List.length_set]; omega)] at e; cases e
    · rw [List.getElem?_set_ne hj] at e
      rw [List.getElem?_set_ne hj]
      exact ih.at_ j d e
def gZ (K : PySem.W.Frag) (f : Tg) (ix : List Nat) : TG := fun v σ H Q => ∃ d θ sl sl', SV K θ H σ sl ∧ Dr K θ H v d ∧ f d sl = some sl' ∧ ∀ σ', SV K θ H σ' sl' → But ix σ σ' → Q σ' H
theorem ZG.can {X : Cx} {tg : Expr} {f : Tg} {ix : List Nat} (h : ZG X tg f ix) : PG X tg (gZ X.K f ix) := by
  obtain ⟨g, p, q⟩ := h.run
  exact ⟨fun pins s σ H v u Q I r ⟨d, θ, sl, sl', a, b, c, w⟩ => p.run pins s σ H v u Q I r (q v d σ H θ sl sl' Q a b c w)⟩
def ZTs (X : Cx) (E : XK) (ifs : List Expr) (t : ZCb) : Prop := PTs X ifs (tZb X.K X.mg E t)
theorem ZTs.nil {X : Cx} {E : XK} : ZTs X E [] ztyes := by
  refine ⟨fun pins s σ H Q I h => pts_nil.run pins s σ H Q I ?_⟩
  obtain ⟨θ, sl, M, a, b, c⟩ := h
  exact Post.here (show Post X.K X.mg E EqR Q θ H (.ok true M) from c) b rfl
theorem ZTs.one {X : Cx} {E : XK} {e : Expr} {t : ZCb} (h : ZT X E e t) : ZTs X E [e] t := pts_one h.can
theorem compP_noexc {f : Tg} {t : ZCb} {e : ZC} {sl : Sl} {x : Ex} {M' : Store} : ∀ {ds : List D} {M : Store}, compP f t e sl ds M = .exc x M' → False
  | [], M, h => by cases h
  | d :: ds, M, h => by
    unfold compP at h
    cases e1 : f d sl with
    | none => rw [e1] at h; cases h
    | some sl1 =>
      rw [e1] at h
      simp only at h
      cases e2 : t sl1 M with
      | stuck => rw [e2] at h; cases h
      | exc _ _ => rw [e2] at h; cases h
      | ok k M1 =>
        rw [e2] at h
        simp only [noexc_ok, Out.bind_ok] at h
        cases k with
        | false => exact compP_noexc (by simpa using h)
        | true =>
          simp only [if_true] at h
          cases e3 : e sl1 M1 with
          | stuck => rw [e3] at h; cases h
          | exc _ _ => rw [e3] at h; cases h
          | ok y M2 =>
            rw [e3] at h
            simp only [noexc_ok, Out.bind_ok] at h
            cases e4 : compP f t e sl ds M2 with
            | stuck => rw [e4] at h; cases h
            | exc _ _ => exact compP_noexc e4
            | ok _ _ => rw [e4] at h; cases h
/-- what a comprehension's rule asks, from its outcome -/
theorem comp_ok {X : Cx} {E : XK} {fin : List D → Store → Out D} {vs ix : List Nat} {ci : ZCs} {f : Tg} {t : ZCb} {e : ZC} {wi : TI} {Qf : VK}
    (qi : ∀ σ H θ sl M R, SV X.K θ H σ sl → SR X.K θ H M → Post X.K X.mg E (WalkR X.K) R θ H (ci sl M) → wi σ H R) (hsub : ∀ j ∈ ix, j ∈ vs)
    (hsz : ∀ ds M, fin ds M ≠ .stuck → ds.length ≤ sizeLine)
    {σ : L2.St} {H : Hp} {θ : List Addr} {sl : Sl} {M : Store} {Q : VK}
    (hend : ∀ (θ : List Addr) (H : Hp) (M : Store) (acc : List V) (ds : List D) (p : Addr), SR X.K θ H M → H p = none → Drs X.K θ H acc ds → Post X.K X.mg E (Dr X.K) Q θ H (fin ds M) → Qf (.ref p) (upd H p (.lst acc)))
    (hs : SV X.K θ H σ sl) (hm : SR X.K θ H M) (h : Post X.K X.mg E (Dr X.K) Q θ H (zcomp fin vs ci f t e sl M)) :
    tLc wi (gZ X.K f ix) (tZb X.K X.mg E0 t) (tZ X.K X.mg E0 e) vs σ H Qf := by
  refine qi σ H θ sl M _ hs hm (Post.bind h fun ds M1 J H1 θ1 g1 m1 w1 h1 => ?_)
  intro p hp
  refine ⟨fun i m H => ∃ Hv θ M acc ys, H = upd Hv p (.lst acc) ∧ Hv p = none ∧ Go θ1 θ H1 Hv ∧ SR X.K θ Hv M ∧ Drs X.K θ Hv acc ys ∧ m = ds.length - i ∧ i ≤ ds.length ∧
      Post X.K X.mg E (Dr X.K) Q θ Hv ((compP f t e (wipeS sl vs) (ds.drop i) M).bind fun zs M' => fin (ys ++ zs) M'),
    ⟨_, H1, θ1, M1, [], [], rfl, hp, .refl, m1, .nil, rfl, Nat.zero_le _, h1⟩, ?_⟩
  rintro i m H2 ⟨Hv, θ2, M2, acc, ys, rfl, hp2, g2, m2, r2, rfl, hi, h2⟩
  have np : p ∉ θ2 := fun z => m2.apart hp2 p z rfl
  have gB : Go θ2 θ2 Hv (upd Hv p (.lst acc)) := Go.out m2 hp2
  have mB : SR X.K θ2 (upd Hv p (.lst acc)) M2 := m2.out hp2
  by_cases hlt : i < ds.length
  · refine .inr ⟨w1.go i _ θ2 hlt (g2.trans gB), fun H' => ∃ Hv θ M acc ys, H' = upd Hv p (.lst acc) ∧ Hv p = none ∧ Go θ1 θ H1 Hv ∧ SR X.K θ Hv M ∧ Drs X.K θ Hv acc ys ∧
        Post X.K X.mg E (Dr X.K) Q θ Hv ((compP f t e (wipeS sl vs) (ds.drop (i + 1)) M).bind fun zs M' => fin (ys ++ zs) M'), ?_, ?_⟩
    · rintro H' ⟨Hv', θ', M', acc', ys', a1, a2, a3, a4, a5, a6⟩
      exact ⟨ds.length - (i + 1), by omega, Hv', θ', M', acc', ys', a1, a2, a3, a4, a5, rfl, hlt, a6⟩
    · intro x H3 y
      obtain ⟨d, ed, g3, m3, r3⟩ := w1.yld i _ θ2 M2 x H3 hlt (g2.trans gB) mB y
      have e0 : ds.drop i = d :: ds.drop (i + 1) := by
        rw [List.drop_eq_getElem_cons hlt]
        rw [List.getElem?_eq_getElem hlt] at ed
        rw [Option.some.inj ed]
      rw [e0] at h2
      unfold compP at h2
      cases e1 : f d (wipeS sl vs) with
      | none => rw [e1] at h2; exact h2.elim
      | some sl3 =>
        rw [e1] at h2
        simp only at h2
        have sB : SV X.K θ2 H3 (wipe σ vs) (wipeS sl vs) := ((((hs.go g1).go g2).go gB).go g3).wipe vs
        refine ⟨d, θ2, wipeS sl vs, sl3, sB, r3, e1, fun σ3 s3 f3 => ⟨?_, ?_⟩⟩
        · exact wipe_same (f3.1.trans (wipe_length σ vs)) f3.2 hsub
        · obtain ⟨Hv3, e3, hp3, g3', m3'⟩ : ∃ Hv3, H3 = upd Hv3 p (.lst acc) ∧ Hv3 p = none ∧ Go θ2 θ2 Hv Hv3 ∧ SR X.K θ2 Hv3 M2 :=
            ⟨hid H3 p, (upd_hid (g3.same np)).symm, hid_same, g3.hid hp2, m3.hid (g3.same np) (fun z => z) np⟩
          subst e3
          refine ⟨θ2, sl3, M2, s3, m3, ?_⟩
          cases et : t sl3 M2 with
          | stuck => rw [et] at h2; exact h2
          | exc x M4 => rw [et] at h2; exact (show False from h2).elim
          | ok k M4 =>
            rw [et] at h2
            simp only [noexc_ok, Out.bind_ok] at h2
            intro b H4 θ4 g4 m4 rb
            cases rb
            obtain ⟨Hv4, e4, hp4, g4', m4', np4⟩ : ∃ Hv4, H4 = upd Hv4 p (.lst acc) ∧ Hv4 p = none ∧ Go θ2 θ4 Hv3 Hv4 ∧ SR X.K θ4 Hv4 M4 ∧ p ∉ θ4 :=
              ⟨hid H4 p, (upd_hid (g4.same np)).symm, hid_same, g4.hid hp3, m4.hid (g4.same np) (fun z => z) (g4.notin np), g4.notin np⟩
            subst e4
            have r4 : Drs X.K θ4 Hv4 acc ys := Drs.go (g3'.trans g4') r2
            have h4 := Post.go (g3'.trans g4') h2
            cases k with
            | false =>
              exact (if_neg Bool.false_ne_true).mpr ⟨Hv4, θ4, M4, acc, ys, rfl, hp4, (g2.trans g3').trans g4', m4', r4, by simpa using h4⟩
            | true =>
              have h4 : Post X.K X.mg E (Dr X.K) Q θ4 Hv4 (((noexc (e sl3 M4)).bind fun y M2 => (compP f t e (wipeS sl vs) (ds.drop (i + 1)) M2).bind fun ys M3 => .ok (y :: ys) M3).bind fun zs M' => fin (ys ++ zs) M') := by simpa using h4
              refine (if_pos rfl).mpr ⟨θ4, sl3, M4, s3.go g4, m4, ?_⟩
              cases ee : e sl3 M4 with
              | stuck => rw [ee] at h4; exact h4
              | exc x M5 => rw [ee] at h4; exact (show False from h4).elim
              | ok yd M5 =>
                rw [ee] at h4
                simp only [noexc_ok, Out.bind_ok] at h4
                intro v H5 θ5 g5 m5 r5
                obtain ⟨Hv5, e5, hp5, g5', m5'⟩ : ∃ Hv5, H5 = upd Hv5 p (.lst acc) ∧ Hv5 p = none ∧ Go θ4 θ5 Hv4 Hv5 ∧ SR X.K θ5 Hv5 M5 :=
                  ⟨hid H5 p, (upd_hid (g5.same np4)).symm, hid_same, g5.hid hp4, m5.hid (g5.same np4) (fun z => z) (g5.notin np4)⟩
                subst e5
                have r5' : Dr X.K θ5 Hv5 v yd := by
                  have z := r5.hid (p := p) (u := .lst acc) upd_same (fun z => z)
                  have ez : hid (upd Hv5 p (.lst acc)) p = Hv5 := by
                    funext b
                    by_cases eb : b = p
                    · rw [eb, hid_same, hp5]
                    · rw [hid_ne eb, upd_ne eb]
                  rw [ez] at z
                  exact z
                have h5 := Post.go g5' h4
                have eo : ∀ o : Out (List D), ((o.bind fun ys M3 => .ok (yd :: ys) M3).bind fun zs M' => fin (ys ++ zs) M') = o.bind fun zs M' => fin ((ys ++ [yd]) ++ zs) M' := fun o => by
                  cases o <;> simp
                rw [eo] at h5
                have hlen : acc.length < sizeLine := by
                  rw [Paired.length r2]
                  cases ec : compP f t e (wipeS sl vs) (ds.drop (i + 1)) M5 with
                  | stuck => rw [ec] at h5; exact (show False from h5).elim
                  | exc x M6 => exact (compP_noexc ec).elim
                  | ok zs M6 =>
                    rw [ec] at h5
                    have := hsz ((ys ++ [yd]) ++ zs) M6 fun z => by
                      rw [show ((Out.ok zs M6).bind fun zs M' => fin ((ys ++ [yd]) ++ zs) M') = fin ((ys ++ [yd]) ++ zs) M6 from rfl, z] at h5
                      exact h5
                    rw [List.length_append, List.length_append, List.length_singleton] at this
                    omega
                refine ⟨acc, upd_same, hlen, Hv5, θ5, M5, acc ++ [v], ys ++ [yd], by rw [upd_upd], hp5, ((g2.trans g3').trans g4').trans g5', m5', paired_append (Drs.go g5' r4) (.cons r5' .nil), h5⟩
  · have ei : i = ds.length := by omega
    subst ei
    refine .inl ⟨w1.stop _ _ θ2 (Nat.le_refl _) (g2.trans gB), ?_⟩
    rw [List.drop_length] at h2
    have h3 : Post X.K X.mg E (Dr X.K) Q θ2 Hv (fin ys M2) := by simpa [compP] using h2
    exact hend θ2 Hv M2 acc ys p m2 hp2 r2 h3
section
variable {X : Cx} {E : XK} {elt tg iter : Expr} {ifs : List Expr} {scope : Scope} {own : List (Str × Nat)} {pos : Pos} {ix : List Nat} {ci : ZCs} {f : Tg} {t : ZCb} {e : ZC}
theorem frzl_sz {ds : List D} {M : Store} (h : frzl ds M ≠ .stuck) : ds.length ≤ sizeLine := by
  unfold frzl at h
  cases q : pures ds with
  | none => rw [q] at h; exact absurd rfl h
  | some zs =>
    rw [q] at h
    simp only at h
    by_cases l : zs.length ≤ sizeLine
    · rw [pures_eq q, List.length_map]; exact l
    · rw [if_neg l] at h; exact absurd rfl h
theorem mkLst_sz {ds : List D} {M : Store} (h : mkLst ds M ≠ .stuck) : ds.length ≤ sizeLine := by
  unfold mkLst at h
  by_cases l : ds.length ≤ sizeLine
  · exact l
  · rw [if_neg l] at h; exact absurd rfl h
/-- the new list is handed on, or frozen -/
def OrF (Q : VK) : VK := fun v H' => FrzQ Q v H' ∨ Q v H'
structure Fin (X : Cx) (E : XK) (fin : List D → Store → Out D) : Prop where
  sz : ∀ ds M, fin ds M ≠ .stuck → ds.length ≤ sizeLine
  fi : ∀ (θ : List Addr) (H : Hp) (M : Store) (acc : List V) (ds : List D) (Q : VK) (p : Addr), SR X.K θ H M → H p = none → Drs X.K θ H acc ds → Post X.K X.mg E (Dr X.K) Q θ H (fin ds M) → OrF Q (.ref p) (upd H p (.lst acc))
theorem fin_f : Fin X E frzl := ⟨fun _ _ => frzl_sz, fun θ H M acc ds Q p m hp r h => .inl ((frzl_ok h m r).2 p hp)⟩
theorem fin_m : Fin X E mkLst := ⟨fun _ _ => mkLst_sz, fun θ H M acc ds Q p m hp r h => by
  unfold mkLst at h
  by_cases l : ds.length ≤ sizeLine
  · rw [if_pos l] at h; exact .inr (new_lst h m r hp)
  · rw [if_neg l] at h; exact h.elim⟩
theorem pe_orfrz {e : Expr} {t : TE} (h : PE X e t) : PE X e (fun σ H Q => t σ H (OrF Q)) :=
  ⟨fun pins s σ H Q I w => thn (h.run pins s σ H _ I w) fun u s1 ⟨v, H', I', r, q⟩ => by
    rcases q with q | q
    · exact ep_frz ⟨v, H', I', r, q⟩
    · exact ⟨v, H', I', r, q⟩⟩
theorem ZE.comp {fin : List D → Store → Out D} (F : Fin X E fin)
    (zx : ZX X) (hi : ZI X E tg iter ci) (ok : BlkOk X.N X.env.scope scope own) (hsub : ∀ j ∈ ix, j ∈ own.map (·.2))
    (hg : ∀ (s : Shared) (H : Hp) (C : Addr) (cl : List (Str × Addr)) (fp : List Addr), ZG (X.blk s H scope (compEnvC scope cl C X.env) fp) tg f ix) (ht : ∀ (s : Shared) (H : Hp) (C : Addr) (cl : List (Str × Addr)) (fp : List Addr), ZTs (X.blk s H scope (compEnvC scope cl C X.env) fp) E0 ifs t)
    (he : ∀ (s : Shared) (H : Hp) (C : Addr) (cl : List (Str × Addr)) (fp : List Addr), ZE (X.blk s H scope (compEnvC scope cl C X.env) fp) E0 elt e) (hs : ∀ x, foldedSetIterable iter X.env x = pure x := by intro _; rfl) :
    ZE X E (.ListComp elt [⟨tg, iter, ifs, 0⟩] scope pos) (zcomp fin (own.map (·.2)) ci f t e) := by
  obtain ⟨wi, pi, qi⟩ := hi
  have p := pe_orfrz (pe_lc (pos := pos) (g := gZ X.K f ix) (tt := tZb X.K X.mg E0 t) (te := tZ X.K X.mg E0 e) zx.calm zx.nd pi ok (fun s H C cl fp => (hg s H C cl fp).can) (fun s H C cl fp => ht s H C cl fp) (fun s H C cl fp => (he s H C cl fp).can) hs)
  exact ⟨_, p, fun σ H θ sl M Q hs hm h => comp_ok qi hsub F.sz (fun θ H M acc ds p m hp r h => F.fi θ H M acc ds Q p m hp r h) hs hm h⟩
/-- y = [..] -/
theorem ZS.comp {fin : List D → Store → Out D} {i : Nat} {y : Str} {py spos : Pos} (F : Fin X E fin)
    (zx : ZX X) (hi : ZI X E tg iter ci) (ok : BlkOk X.N X.env.scope scope own) (hsub : ∀ j ∈ ix, j ∈ own.map (·.2)) (hy : X.N[i]? = some y) (hyl : X.env.scope.names.lookup y = some .local)
    (hsw : swapsWith (.ListComp elt [⟨tg, iter, ifs, 0⟩] scope pos) (some (.Name y py)) spos.line X.env = pure true)
    (hg : ∀ (s : Shared) (H : Hp) (C : Addr) (cl : List (Str × Addr)) (fp : List Addr), ZG (X.blk s H scope (compEnvC scope cl C X.env) fp) tg f ix) (ht : ∀ (s : Shared) (H : Hp) (C : Addr) (cl : List (Str × Addr)) (fp : List Addr), ZTs (X.blk s H scope (compEnvC scope cl C X.env) fp) E0 ifs t)
    (he : ∀ (s : Shared) (H : Hp) (C : Addr) (cl : List (Str × Addr)) (fp : List Addr), ZE (X.blk s H scope (compEnvC scope cl C X.env) fp) E0 elt e) (hs : ∀ x, foldedSetIterable iter X.env x = pure x := by intro _; rfl) :
    ZS X E (.Assign [.Name y py] (.ListComp elt [⟨tg, iter, ifs, 0⟩] scope pos) spos) (sset i (zcomp fin (own.map (·.2)) ci f t e)) := by
  obtain ⟨wi, pi, qi⟩ := hi
  have p := ps_setLc (g := gZ X.K f ix) (tt := tZb X.K X.mg E0 t) (te := tZ X.K X.mg E0 e) zx.calm zx.nd hy hyl hsw pi ok (fun s H C cl fp => (hg s H C cl fp).can) (fun s H C cl fp => ht s H C cl fp) (fun s H C cl fp => (he s H C cl fp).can) hs
  refine ⟨fun N σ H => tLc wi (gZ X.K f ix) (tZb X.K X.mg E0 t) (tZ X.K X.mg E0 e) (own.map (·.2)) σ H fun v H' => N.nx (σ.set i (some v)) H' ∨ ∃ a xs, H' a = some (.lst xs) ∧ ∀ o, N.nx (σ.set i (some v)) (upd H' a (.frz o (.lst xs))), ⟨fun pins s σ H N I w => ?_⟩, fun σ H θ sl M N hs hm h => ?_⟩
  · refine thn (p.run pins s σ H { N with nx := fun σ' H' => N.nx σ' H' ∨ ∃ a xs, H' a = some (.lst xs) ∧ ∀ o, N.nx σ' (upd H' a (.frz o (.lst xs))) } I w) fun fl s' hq => ?_
    cases fl with
    | next =>
      obtain ⟨σ', H', I', q⟩ := hq
      rcases q with q | ⟨a, xs, e1, q⟩
      · exact ⟨σ', H', I', q⟩
      · obtain ⟨o, I2⟩ := I'.lock e1 trivial
        exact ⟨σ', _, I2, q o⟩
    | brk => exact hq
    | cont => exact hq
    | ret v => exact hq
  · refine comp_ok (E := E) (fin := fin) (Q := fun v H' => N.nx (σ.set i (some v)) H') qi hsub F.sz (fun θ H M acc ds p m hp r h => ?_) hs hm (PostS.thn h fun d M1 v H1 θ1 g1 m1 r1 h1 => h1 _ H1 θ1 .refl ((hs.go g1).set r1) m1)
    rcases F.fi θ H M acc ds _ p m hp r h with ⟨a, xs, e1, e2, q⟩ | q
    · cases e1
      exact .inr ⟨_, xs, e2, q⟩
    · exact .inl q
end
end Z

/-! Z: defs, their calls, the law's end. -/
namespace Z
open PySem PySem.Spec PyProof.Rows L2

abbrev Fn := List D → Store → Out D
/-- what was made in a call and is not handed back is forgotten -/
def gc (n : Nat) : Out D → Out D
  | .ok (.p x) M => .ok (.p x) (M.take n)
  | .ok (.ref i) M => if i < n then .ok (.ref i) (M.take n) else match M[i]? with
    | some ob => if ob.low n = true then .ok (.ref n) (M.take n ++ [ob]) else .ok (.ref i) M
    | none => .stuck
  | .exc e M => .exc e (M.take n)
  | .stuck => .stuck
def runB (n : Nat) (c : SC) : Fn := fun ds M => match c (ds.map some ++ List.replicate (n - ds.length) none) M with
  | .nx _ M' => .ok (.p .none) M'
  | .rt d M' => .ok d M'
  | .exc e M' => .exc e M'
  | .stuck => .stuck
/-- a call that hands n -/
def zfc (n : Nat) (F : Fn) : Fn := fun ds M => if ds.length = n then F ds M else .stuck
/-- a def of n slots -/
def fnB (n : Nat) (c : SC) : Fn := fun ds M => gc M.length (runB n c ds M)
def spZ (K : PySem.W.Frag) (mg : Str → Option Value) (F : Fn) (n : Nat) : Sp := fun vs H Q E => ∃ θ ds M, vs.length = n ∧ SR K θ H M ∧ Drs K θ H vs ds ∧ Post K mg E (Dr K) Q θ H (F ds M)
/-- a def at f keeps its promise, where no repr runs -/
structure FnG (P : Program) (w : World) (K : PySem.W.Frag) (mg : Str → Option Value) (base : Heap) (k : Nat) (f : Addr) (fd : FuncData) (ps : List Str) (sp : Sp) : Prop where
  len : ∀ vs H Q E, sp vs H Q E → vs.length = ps.length
  run : ∀ (A : Around) (outer : List Env) (s : Shared) (H : Hp) (args : Args) (us : List Value) (vs : List V) (Q : VK) (E : XK), Room k A → A.guards = some [] → Env0 P w K mg base A outer s H → BindsTo s fd args (ps.zip us) → Vals vs us → sp vs H Q E →
    codeAny (model P w) A (.call (.ref f) args) (CR (CX P w) outer P w H s Q E) s
section
variable {K : PySem.W.Frag} {mg : Str → Option Value} {E : XK} {θ : List Addr} {H : Hp} {M : Store} {Q : VK}
theorem Go.back {θ' : List Addr} {H' : Hp} (g : Go θ θ' H H') {n : Nat} (hn : θ.length = n) : θ'.take n = θ ∧ Go θ θ H H' := by
  obtain ⟨t, rfl⟩ := g.pre
  refine ⟨by rw [← hn]; exact List.take_left, List.prefix_refl _, fun a u h c => g.fr a u h c, fun a m n => absurd m n⟩
theorem Post.gc {o : Out D} (h : Post K mg E (Dr K) Q θ H (Z.gc M.length o)) (s : SR K θ H M) : Post K mg E (Dr K) Q θ H o := by
  cases o with
  | stuck => exact h
  | exc x M' =>
    intro cls dd H' θ' g s' r
    obtain ⟨e, g2⟩ := g.back s.len
    refine h cls dd H' θ g2 ?_ r
    have c := s'.cut M.length
    rw [e] at c
    exact c
  | ok d M' =>
    intro v H' θ' g s' r
    obtain ⟨e, g2⟩ := g.back s.len
    have c := s'.cut M.length
    rw [e] at c
    cases d with
    | p x => exact h v H' θ g2 c r
    | ref i =>
      unfold Z.gc at h
      simp only at h
      by_cases hi : i < M.length
      · rw [if_pos hi] at h
        refine h v H' θ g2 c ?_
        obtain ⟨a, e1, e2⟩ := r
        rw [← e]
        exact ⟨a, by rw [List.getElem?_take, if_pos hi]; exact e1, e2⟩
      · rw [if_neg hi] at h
        cases q : M'[i]? with
        | none => rw [q] at h; exact h.elim
        | some ob =>
          rw [q] at h
          simp only at h
          by_cases lo : ob.low M.length = true
          · rw [if_pos lo] at h
            obtain ⟨a, e1, rfl⟩ := r
            have na : a ∉ θ := fun m => by
              obtain ⟨j, hj⟩ := List.getElem?_of_mem m
              have hjl := (List.getElem?_eq_some_iff.mp hj).1
              have e3 := g.at hj
              obtain ⟨l1, r1⟩ := List.getElem?_eq_some_iff.mp e1
              obtain ⟨l2, r2⟩ := List.getElem?_eq_some_iff.mp e3
              have := (List.getElem_inj s'.nd).mp (r1.trans r2.symm)
              rw [s.len] at hjl
              omega
            have hn : H a = none := g.fresh a (List.mem_of_getElem? e1) na
            refine h (.ref a) H' (θ ++ [a]) ⟨List.prefix_append _ _, fun b u eb c' => g2.fr b u eb c', fun b m nb => ?_⟩ ?_ ?_
            · rcases List.mem_append.mp m with m | m
              · exact absurd m nb
              · rw [List.mem_singleton.mp m]; exact hn
            · have ok : ObOk K θ H' a ob := by
                have z := (s'.ob i ob a q e1).cut lo
                rw [e] at z
                exact z
              refine ⟨by rw [List.length_append, List.length_append, c.len]; rfl, ?_, fun j o b e2 e3 => ?_, fun j o e2 => ?_⟩
              · rw [List.nodup_append]
                exact ⟨c.nd, by simp, fun x hx y hy => by rw [List.mem_singleton.mp hy]; exact fun z => na (z ▸ hx)⟩
              · have up : ∀ {v : V} {d : D}, Dr K θ H' v d → Dr K (θ ++ [a]) H' v d := fun {v d} r => by
                  cases d with
                  | p x => exact r
                  | ref j =>
                    obtain ⟨y, e4, e5⟩ := r
                    exact ⟨y, by rw [List.getElem?_append_left (List.getElem?_eq_some_iff.mp e4).1]; exact e4, e5⟩
                by_cases hj : j < θ.length
                · rw [List.getElem?_append_left (by rw [← c.len]; exact hj)] at e2
                  rw [List.getElem?_append_left hj] at e3
                  exact (c.ob j o b e2 e3).carry up (fun _ _ h _ => h) rfl
                · have hj' : j = θ.length := by
                    have := (List.getElem?_eq_some_iff.mp e3).1
                    rw [List.length_append] at this
                    simp at this
                    omega
                  subst hj'
                  rw [List.getElem?_append_right (by rw [c.len]; exact Nat.le_refl _), c.len, Nat.sub_self] at e2
                  rw [List.getElem?_append_right (Nat.le_refl _), Nat.sub_self] at e3
                  cases e2; cases e3
                  exact ok.carry up (fun _ _ h _ => h) rfl
              · by_cases hj : j < (M'.take M.length).length
                · rw [List.getElem?_append_left hj] at e2
                  exact c.low j o e2
                · have hl : (M'.take M.length).length = M.length := by rw [← c.len, s.len]
                  have hj' : j = M.length := by
                    have := (List.getElem?_eq_some_iff.mp e2).1
                    rw [List.length_append, hl] at this
                    simp at this
                    omega
                  subst hj'
                  rw [List.getElem?_append_right (by rw [hl]; exact Nat.le_refl _), hl, Nat.sub_self] at e2
                  cases e2
                  exact lo
            · exact ⟨a, by rw [← s.len, List.getElem?_append_right (Nat.le_refl _), Nat.sub_self]; rfl, rfl⟩
          · rw [if_neg lo] at h
            exact h v H' θ' g s' r
end
section
variable {P : Program} {w : World} {K : PySem.W.Frag} {mg : Str → Option Value} {base : Heap}
theorem fn_ofG {k : Nat} {f : Addr} {name qual : Str} {params : Arguments} {body : List Stmt} {scope : Scope} {dV kV doc pm cdv ct oc : Value} {an od : Option Addr}
    {osl : Array (Option Value)} {N ps : List Str} {sp : Sp} (lk : K.lookup f = some ⟨oc, od, .func (PySem.W.fnOf name qual params body scope dV kV doc pm an cdv ct), osl⟩) (hcd : PySem.W.codeIn K cdv qual = true) (S : FnScope N ps scope)
    (len : ∀ vs H Q E, sp vs H Q E → vs.length = ps.length)
    (hbody : ∀ (A : Around) (outer : List Env) (s : Shared) (H : Hp) (vs : List V) (Q : VK) (E : XK), Room k (A.deeper (envOfC qual scope s.heap.objs.size f cdv)) → A.guards = some [] → sp vs H Q E →
      ∃ t, PSs (cxOf (CX P w) P w K mg base N qual scope f cdv A outer s H E) body t ∧ t { nx := fun _ H' => Q .non H', rt := Q } (L2.start N vs) H) :
    FnG P w K mg base (k + 1) f (PySem.W.fnOf name qual params body scope dV kV doc pm an cdv ct) ps sp := by
  refine ⟨len, fun A outer s H args us vs Q E hr hgd e0 hb r hsp => ?_⟩
  have hl := len _ _ _ _ hsp
  have KX : K.In s.heap := e0.mod.kin.keeps fun b o e => (e0.bs b o e).1
  have lim : s.heap.NoLimit := e0.mod.nolimit.keeps fun b o e => (e0.bs b o e).1
  have hkind : ∀ y ∈ ps.zip us, scope.names.lookup y.1 = some .local ∨ (scope.names.lookup y.1 = some .cell ∧ ((cellsFrom (s.heap.objs.size + 1) scope.names []).lookup y.1).isSome = true) := fun ⟨n, v⟩ hy => by
    rcases S.par n (List.of_mem_zip hy).1 with q | q
    · exact .inl q
    · exact .inr ⟨q, PySem.W.cellsFrom_some _ _ _ (.inl q)⟩
  refine codeAny_call_function hr.depth (KX _ _ lk) rfl S.co S.gen rfl (PySem.W.codeRec_of KX hcd) (hb _ _ _ _ ?_)
  refine wpAny_newFunctionEnv_cells S.kind hkind fun env he s1 x => ?_
  subst he
  refine ⟨lim.keeps x.toInCall.keep, codeAny_func ?_⟩
  obtain ⟨t, ht, hq⟩ := hbody A outer s H vs Q E (hr.deeper _) hgd hsp
  have I : Inv (cxOf (CX P w) P w K mg base N qual scope f cdv A outer s H E) [] (L2.start N vs) H s1 := inv_start S hr.hd e0 hl r x
  refine wpAny_mono (ht.run [] s1 (L2.start N vs) H _ I hq) (fun fl s' hs => ?_) fun e s' hs => hs
  have fin : ∀ {σ' : L2.St} {H' : Hp} {v : V} {u : Value}, Inv (cxOf (CX P w) P w K mg base N qual scope f cdv A outer s H E) [] σ' H' s' → RelV v u → Q v H' → CE outer P w H s Q u s' :=
    fun {σ' H' v u} J rv q => ⟨v, H', J.os, J.bare, J.base, J.hok, rv, q⟩
  cases fl with
  | ret u =>
    obtain ⟨v, σ', H', J, rv, q⟩ := hs
    exact fin J rv q
  | next =>
    obtain ⟨σ', H', J, q⟩ := hs
    exact fin (v := V.non) (u := Value.none) J rfl q
  | brk =>
    obtain ⟨_, _, _, q⟩ := hs
    exact False.elim q
  | cont =>
    obtain ⟨_, _, _, q⟩ := hs
    exact False.elim q
/-- what a def's body stands on -/
structure BX (P : Program) (w : World) (K : PySem.W.Frag) (mg : Str → Option Value) (base : Heap) (k : Nat) (N : List Str) (X : Cx) (E : XK) : Prop where
  zx : ZX X
  hp : X.prog = P
  hw : X.w = w
  hK : X.K = K
  hmg : X.mg = mg
  hbase : X.base = base
  room : Room k X.A
  pass : Passes (CX P w) X E
/-- THE RULE for a def -/
theorem zfn {x qual : Str} {st : Stmt} {f : Addr} {fd : FuncData} {N ps : List Str} {k : Nat} {c : SC} (F : Fun K x qual st f fd) (S : FnScope N ps (defScope st))
    (hbody : ∀ (cdv : Value) (A : Around) (outer : List Env) (s : Shared) (H : Hp) (E : XK), BX P w K mg base k N (cxOf (CX P w) P w K mg base N qual (defScope st) f cdv A outer s H E) E → ZB (cxOf (CX P w) P w K mg base N qual (defScope st) f cdv A outer s H E) E (defBody st) c) :
    FnG P w K mg base (k + 1) f fd ps (spZ K mg (fnB N.length c) ps.length) := by
  obtain ⟨oc, od, kV, doc, pm, an, cdv, ct, osl, rfl, lk, hcd⟩ := F.ex
  refine fn_ofG lk hcd S (fun vs H Q E h => h.choose_spec.choose_spec.choose_spec.1) fun A outer s H vs Q E hr hg hsp => ?_
  obtain ⟨θ, ds, M, hl, sr, dr, post⟩ := hsp
  have tk : Takes (cxOf (CX P w) P w K mg base N qual (defScope st) f cdv A outer s H E) (fun cls d _ H => E cls d H) := takes_of rfl rfl rfl rfl
  have zx : ZX (cxOf (CX P w) P w K mg base N qual (defScope st) f cdv A outer s H E) := ⟨rfl, passes_of rfl, S.nd, by have := hr.un; show _ + 100 < _; simp only [cxOf]; omega, hg⟩
  obtain ⟨t, p, q⟩ := hbody cdv A outer s H E ⟨zx, rfl, rfl, rfl, rfl, rfl, hr, passes_call tk fun _ _ _ _ h => h⟩
  refine ⟨t, p, q _ _ θ (ds.map some ++ List.replicate (N.length - ds.length) none) M _ ?_ sr ?_⟩
  · have el := Paired.length dr
    refine ⟨by unfold L2.start; rw [List.length_append, List.length_append, List.length_map, List.length_map, List.length_replicate, List.length_replicate, el], fun i d e => ?_⟩
    by_cases hi : i < ds.length
    · rw [List.getElem?_append_left (by rw [List.length_map]; exact hi), List.getElem?_map] at e
      cases ed : ds[i]? with
      | none => rw [ed] at e; cases e
      | some d' =>
        rw [ed] at e
        cases e
        obtain ⟨v, ev, r⟩ := paired_at dr ed
        exact ⟨v, by unfold L2.start; rw [List.getElem?_append_left (by rw [List.length_map, el]; exact hi), List.getElem?_map, ev]; rfl, r⟩
    · rw [List.getElem?_append_right (by rw [List.length_map]; omega), List.getElem?_replicate] at e
      split at e <;> cases e
  · have h2 := Post.gc post sr
    unfold runB at h2
    cases ec : c (ds.map some ++ List.replicate (N.length - ds.length) none) M with
    | stuck => rw [ec] at h2; exact h2
    | nx sl M' => rw [ec] at h2; exact fun σ' H' θ' g sv s' => h2 .non H' θ' g s' Fz.non
    | rt d M' => rw [ec] at h2; exact h2
    | exc x M' => rw [ec] at h2; exact h2
end
section
variable {P : Program} {w : World} {K : PySem.W.Frag} {mg : Str → Option Value} {base : Heap} {k j : Nat} {N : List Str} {X : Cx} {E : XK} {f : Addr} {fd : FuncData} {ps ks : List Str} {sp : Sp} {F : Fn} {n : Nat} {x : Str} {p pos kpos : Pos} {e : Expr} {es : List Expr} {cs : ZCs} {kws : List Keyword}
theorem FnG.mono (G : FnG P w K mg base j f fd ps sp) (h : j ≤ k) : FnG P w K mg base k f fd ps sp := ⟨G.len, fun A outer s H args us vs Q E hr => G.run A outer s H args us vs Q E (hr.mono h)⟩
/-- the block of a comprehension -/
theorem BX.blk (B : BX P w K mg base k N X E) (s : Shared) (H : Hp) (scope : Scope) (cenv : Env) (fp : List Addr) : BX P w K mg base k N (X.blk s H scope cenv fp) E0 := by
  obtain ⟨zx, e1, e2, e3, e4, e5, hr, ps⟩ := B
  refine ⟨⟨zx.calm, PassesOwn.never, zx.nd, zx.hu, zx.gd⟩, e1, e2, e3, e4, e5, hr, ?_⟩
  intro pins σ H s e s' I c
  obtain ⟨_, _, _, _, _, _, _, _, _, _, _, _, q⟩ := c
  exact q
theorem BX.runs (B : BX P w K mg base k N X E) (G : FnG P w K mg base j f fd ps sp) (h : j ≤ k) {args : Args} {us : List Value} {vs : List V} {pins : List (Addr × Obj)} {σ : L2.St} {H : Hp} {s : Shared} {Q : VK} (I : Inv X pins σ H s) (hb : BindsTo s fd args (ps.zip us)) (r : Vals vs us) (q : sp vs H Q E) :
    wpAny (model X.prog X.w) X.A (call (.ref f) args.pos args.kw) (EP X pins σ Q) X.xe s := by
  obtain ⟨zx, rfl, rfl, rfl, rfl, rfl, hr, pas⟩ := B
  refine wpAny_call (codeAny_mono (G.run X.A X.stack s H args us vs Q E (hr.mono h) zx.gd I.env0 hb r q) fun r s' hq => ?_)
  cases r with
  | error e => exact pas pins σ H s e s' I hq
  | ok fl =>
    cases fl with
    | ret u => exact I.after hq
    | next => exact False.elim hq
    | brk => exact False.elim hq
    | cont => exact False.elim hq
/-- f(e, ..) -/
theorem ZE.call (B : BX P w K mg base k N X E) (G : FnG P w K mg base j f fd ps (spZ K mg F n)) (h : j ≤ k) (hg : Gl X x) (hm : X.mg x = some (.ref f)) (hk : PySem.W.keepIn X.K (.ref f) = true) (hb : Binds X.K fd ps []) (ha : ZA X E (e :: es) cs) (hn : ps.length = n := by rfl) (hes : (e :: es).length = n := by rfl)
    (hdb : (x == ("__debug__" : Str)) = false := by decide) (he : starEach (e :: es) X.env = (false, eval e X.env) :: starEach es X.env := by rfl) (hpl : (backTo pos (starEach es X.env)).any (·.1) = false := by rfl) :
    ZE X E (.Call (.Name x p) (e :: es) [] pos) (zs (zfc n F) cs) := by
  obtain ⟨t, pa, q⟩ := ha
  have eK := B.hK
  have em := B.hmg
  refine ⟨fun σ H Q => t σ H fun vs H1 => vs.length = n ∧ spZ K mg F n vs H1 Q E, ⟨fun pins s σ H Q I h' => ?_⟩, fun σ H θ sl M Q hs hm' h' => q σ H θ sl M _ hs hm' (Post.bind h' fun ds M1 vs H1 θ1 g1 m1 r1 h1 => ?_)⟩
  · refine wpAny_Call_Name_kw (ld_glob I hg hm ?_ hdb)
    refine PySem.W.callWith_K (h₀ := X.base) I.ok.mod.kin hk (thn (pa.run pos pins s σ H _ I h') fun us s1 ⟨vs, H1, I1, r, l, qq⟩ => ⟨I1.kIn, ?_⟩) he hpl
    have hl : (us ++ []).length = ps.length := by rw [List.append_nil, ← r.length, l, hn]
    have bt := hb s1 us I1.kIn hl
    rw [List.append_nil] at bt
    exact B.runs G h (args := ⟨us, []⟩) I1 bt r qq
  · have hl := Paired.length r1
    unfold zfc at h1
    by_cases hd : ds.length = n
    · rw [if_pos hd] at h1
      subst eK em
      exact ⟨hl.trans hd, θ1, ds, M1, hl.trans hd, m1, r1, h1⟩
    · rw [if_neg hd] at h1
      exact h1.elim
end
end Z

/-! Z: methods of lists, stores into lists. -/
namespace Z
open PySem PySem.Spec PyProof.Rows L2
/-- what may be the receiver of a list's method -/
def isL (M : Store) (d : D) : Bool := (lstv M d).isSome
def zmt (ok : Store → D → Bool) (g : D → List D → Store → Out D) (co : ZC) (cs : ZCs) : ZC := fun sl M => (co sl M).bind fun x M1 => if ok M1 x then (cs sl M1).bind fun ds M2 => g x ds M2 else .stuck
def zm0 (ok : Store → D → Bool) (g : D → List D → Store → Out D) (co : ZC) : ZC := fun sl M => (co sl M).bind fun x M1 => if ok M1 x then g x [] M1 else .stuck
section
variable {X : Cx} {E : XK} {o e : Expr} {es : List Expr} {co : ZC} {cs : ZCs} {name : Str} {apos cpos : Pos} {T id : String} {g : D → List D → Store → Out D} {ok : Store → D → Bool}
theorem ZE.meth (pa : PlainAttrs T) (slot : Slot T name id) (hty : typeOf (.builtin id) = pure (.type "method_descriptor")) (hm : MtR X id (rZm X E g)) (hok : ∀ {θ H M v d}, SR X.K θ H M → Dr X.K θ H v d → ok M d = true → tyV X.K T v H)
    (ho : ZE X E o co) (ha : ZA X E (e :: es) cs)
    (hbase : attributeBase o name X.env (eval o X.env) = eval o X.env := by rfl)
    (hfew : ((backTo cpos (starEach (e :: es) X.env)).all (fun x => !x.1) && (backToKw cpos (keywordEach [] X.env)).all (fun x => x.1.isSome)
      && decide ((e :: es).length + ([] : List Keyword).length + (if ([] : List Keyword).isEmpty then 0 else 1) < 30)) = true := by rfl)
    (hline : (apos.endLine == cpos.line) = true := by rfl) (hs : starEach (e :: es) X.env = (false, eval e X.env) :: starEach es X.env := by rfl) (hplain : (backTo cpos (starEach es X.env)).any (·.1) = false := by rfl) :
    ZE X E (.Call (.Attribute o name apos) (e :: es) [] cpos) (zmt ok g co cs) := by
  obtain ⟨t, po, q⟩ := ho
  obtain ⟨u, pa', qa⟩ := ha
  refine ⟨_, pe_bm pa slot hty hm po pa' hbase hfew hline hs hplain, fun σ H θ sl M Q hs hmm h => q σ H θ sl M _ hs hmm (Post.bind h fun x M1 v H1 θ1 g1 m1 r1 h1 => ?_)⟩
  by_cases hk : ok M1 x = true
  · rw [if_pos hk] at h1
    exact ⟨hok m1 r1 hk, qa σ H1 θ1 sl M1 _ (hs.go g1) m1 (Post.bind h1 fun ds M2 vs H2 θ2 g2 m2 r2 h2 => ⟨x, ds, θ2, M2, m2, r1.go g2, r2, h2⟩)⟩
  · rw [if_neg hk] at h1
    exact h1.elim
theorem ZE.meth0 (pa : PlainAttrs T) (slot : Slot T name id) (hty : typeOf (.builtin id) = pure (.type "method_descriptor")) (hm : MtR X id (rZm X E g)) (hok : ∀ {θ H M v d}, SR X.K θ H M → Dr X.K θ H v d → ok M d = true → tyV X.K T v H)
    (ho : ZE X E o co) (hbase : attributeBase o name X.env (eval o X.env) = eval o X.env := by rfl) (hline : (apos.endLine == cpos.line) = true := by rfl) :
    ZE X E (.Call (.Attribute o name apos) [] [] cpos) (zm0 ok g co) := by
  obtain ⟨t, po, q⟩ := ho
  refine ⟨_, pe_bm0 pa slot hty hm po hbase hline, fun σ H θ sl M Q hs hmm h => q σ H θ sl M _ hs hmm (Post.bind h fun x M1 v H1 θ1 g1 m1 r1 h1 => ?_)⟩
  by_cases hk : ok M1 x = true
  · rw [if_pos hk] at h1
    exact ⟨hok m1 r1 hk, x, [], θ1, M1, m1, r1, .nil, h1⟩
  · rw [if_neg hk] at h1
    exact h1.elim
theorem isL_ok {K : PySem.W.Frag} {θ : List Addr} {H : Hp} {M : Store} {v : V} {d : D} (m : SR K θ H M) (r : Dr K θ H v d) (e : isL M d = true) : tyV K "list" v H := by
  obtain ⟨ds, e⟩ := Option.isSome_iff_exists.mp e
  obtain ⟨a, vs, rfl, h, _⟩ := lstv_ok m r e
  exact .inl ⟨rfl, _, h.sq⟩
end

/-! ### what the methods do -/
/-- the items of a list of the store -/
def lstAt (M : Store) (i : Nat) : Option (List D) := match M[i]? with
  | some (.lst ds) => some ds
  | _ => none
theorem lstAt_ok {K : PySem.W.Frag} {θ : List Addr} {H : Hp} {M : Store} {v : V} {i : Nat} {ds : List D} (m : SR K θ H M) (r : Dr K θ H v (.ref i)) (e : lstAt M i = some ds) :
    ∃ a vs, v = .ref a ∧ θ[i]? = some a ∧ H a = some (.lst vs) ∧ Drs K θ H vs ds := by
  unfold lstAt at e
  split at e
  · rename_i q
    cases e
    obtain ⟨a, h, rfl, k⟩ := dr_ref m r q
    obtain ⟨vs, e1, rs⟩ := k
    exact ⟨a, vs, rfl, h, e1, rs⟩
  · cases e
/-- the list at i gets other items -/
theorem post_set {X : Cx} {E : XK} {Q : VK} {θ : List Addr} {H : Hp} {M : Store} {i : Nat} {a : Addr} {vs ws : List V} {ds : List D} {d : D} {v : V} (h : Post X.K X.mg E (Dr X.K) Q θ H (.ok d (M.set i (.lst ds)))) (m : SR X.K θ H M)
    (hi : θ[i]? = some a) (h0 : H a = some (.lst vs)) (r : Drs X.K θ H ws ds) (lo : ds.all (D.low i) = true) (rv : Dr X.K θ H v d) : Q v (upd H a (.lst ws)) := by
  have g : Go θ θ H (upd H a (.lst ws)) := ⟨List.prefix_refl _, fun b w e c => by
    have ne : b ≠ a := by
      rintro rfl
      rw [h0] at e; cases e
      rcases c with c | c
      · exact c (List.mem_of_getElem? hi)
      · exact c
    rw [upd_ne ne]; exact e, fun b m n => absurd m n⟩
  obtain ⟨s, g'⟩ := m.set (o := .lst ds) (u := .lst ws) hi h0 (fun z => z) ⟨ws, upd_same, r.go g⟩ lo
  exact h v _ θ g s (rv.go g)
def zAppend (x : D) (ds : List D) (M : Store) : Out D := match x, ds with
  | .ref i, [y] => match lstAt M i with
    | some xs => if y.low i = true ∧ xs.length < sizeLine then .ok (.p .none) (M.set i (.lst (xs ++ [y]))) else .stuck
    | none => .stuck
  | _, _ => .stuck
def zExtend (x : D) (ds : List D) (M : Store) : Out D := match x, ds with
  | .ref i, [y] => match lstAt M i, lstv M y with
    | some xs, some ys => if ys.all (D.low i) = true ∧ xs.length + ys.length ≤ sizeLine then .ok (.p .none) (M.set i (.lst (xs ++ ys))) else .stuck
    | _, _ => .stuck
  | _, _ => .stuck
def zPop (x : D) (ds : List D) (M : Store) : Out D := match x, ds with
  | .ref i, [] => match lstAt M i with
    | some xs => match xs[xs.length - 1]? with
      | some y => .ok y (M.set i (.lst xs.dropLast))
      | none => .stuck
    | none => .stuck
  | _, _ => .stuck
def zPopAt (x : D) (ds : List D) (M : Store) : Out D := match x, ds with
  | .ref i, [.p (.int j)] => match lstAt M i with
    | some xs => match ixN xs.length j with
      | some k => match xs[k]? with
        | some y => .ok y (M.set i (.lst (xs.eraseIdx k)))
        | none => .stuck
      | none => .stuck
    | none => .stuck
  | _, _ => .stuck
theorem paired_dropLast {α β : Type} {R : α → β → Prop} : ∀ {l : List α} {m : List β}, Paired R l m → Paired R l.dropLast m.dropLast
  | _, _, .nil => .nil
  | _, _, .cons a .nil => .nil
  | _, _, .cons a (.cons b t) => .cons a (paired_dropLast (.cons b t))
theorem low_at {K : PySem.W.Frag} {θ : List Addr} {H : Hp} {M : Store} {i : Nat} {ds : List D} (m : SR K θ H M) (e : lstAt M i = some ds) : ds.all (D.low i) = true := by
  unfold lstAt at e
  split at e
  · rename_i q
    cases e
    exact m.low i _ q
  · cases e
section
variable {X : Cx} {E : XK}
theorem zAppend_ok : MtR X "list.append" (rZm X E zAppend) := by
  intro pins s σ H v vs u us Q I rv rs h
  obtain ⟨x, ds, θ, M, m, rx, rd, h⟩ := h
  unfold zAppend at h
  split at h
  · rename_i i y
    split at h
    · rename_i xs e
      split at h
      · rename_i c
        obtain ⟨a, ws, rfl, hi, h0, r⟩ := lstAt_ok m rx e
        cases rd with
        | cons r1 rr =>
          cases rr
          exact mt_append pins s σ H _ _ u us Q I rv rs ⟨a, ws, _, rfl, rfl, h0, by rw [Paired.length r]; exact c.2, post_set h m hi h0 (paired_append r (.cons r1 .nil)) (by rw [List.all_append, low_at m e]; simp [c.1]) Fz.non⟩
      · exact h.elim
    · exact h.elim
  · exact h.elim
/-- l.extend(any list) -/
theorem mt_extendX {pins : List (Addr × Obj)} {s : Shared} {σ : L2.St} {H : Hp} {l b : Addr} {xs zs : List V} {us : List Value} {Q : VK} (I : Inv X pins σ H s) (rv : Vals [.ref b] us) (hH : H l = some (.lst xs)) (hB : SqX X.K H b zs) (hz : xs.length + zs.length ≤ sizeLine)
    (q : Q .non (upd H l (.lst (xs ++ zs)))) : wpAny (model X.prog X.w) X.A (call (.builtin "list.extend") (.ref l :: us)) (EP X pins σ Q) X.xe s := by
  obtain ⟨u, rfl, ru⟩ := rv.one
  cases ru
  obtain ⟨z, its, n, r, hl, e⟩ := I.lstM hH
  obtain ⟨z2, its2, n2, r2, hl2, e2⟩ := SqX.at I hB
  have hsz : its.length + its2.length ≤ sizeLine := by omega
  refine call_meets F.slot_list_extend ⟨_, e, rfl⟩ F.entry_list_extend (F.args_list_extend_2 _ _)
    (AutoSeq1.list_extend_list_list_0 l its.toArray n b its2.toArray n2 (by simp only [List.size_toArray]; rw [notLongL hsz, Bool.and_false]; exact Bool.false_ne_true) (by simp only [List.size_toArray]; omega) (by simp only [List.size_toArray]; omega)) ⟨e, e2, ?_⟩
  exact ⟨.non, _, I.lset (its' := its ++ its2) hH e (by simp) (r.append r2) (by rw [List.length_append]; exact hz), rfl, q⟩
theorem zExtend_ok : MtR X "list.extend" (rZm X E zExtend) := by
  intro pins s σ H v vs u us Q I rv rs h
  obtain ⟨x, ds, θ, M, m, rx, rd, h⟩ := h
  unfold zExtend at h
  split at h
  · rename_i i y
    split at h
    · rename_i xs ys e e'
      split at h
      · rename_i c
        obtain ⟨a, ws, rfl, hi, h0, r⟩ := lstAt_ok m rx e
        cases rd with
        | cons r1 rr =>
          cases rr
          obtain ⟨b, zs, rfl, hb, r2⟩ := lstv_ok m r1 e'
          cases rv
          exact mt_extendX I rs h0 hb (by rw [Paired.length r, Paired.length r2]; exact c.2) (post_set h m hi h0 (paired_append r r2) (by rw [List.all_append, low_at m e, c.1]; rfl) Fz.non)
      · exact h.elim
    · exact h.elim
  · exact h.elim
theorem zPop_ok : MtR X "list.pop" (rZm X E zPop) := by
  intro pins s σ H v vs u us Q I rv rs h
  obtain ⟨x, ds, θ, M, m, rx, rd, h⟩ := h
  unfold zPop at h
  split at h
  · rename_i i
    split at h
    · rename_i xs e
      split at h
      · rename_i y ey
        obtain ⟨a, ws, rfl, hi, h0, r⟩ := lstAt_ok m rx e
        obtain ⟨w, ew, rw'⟩ := paired_at r ey
        cases rd
        exact mt_pop pins s σ H _ _ u us Q I rv rs ⟨a, ws, w, rfl, rfl, h0, by rw [Paired.length r]; exact ew, post_set h m hi h0 (paired_dropLast r) (List.all_eq_true.mpr fun z hz => List.all_eq_true.mp (low_at m e) z ((List.dropLast_sublist _).subset hz)) rw'⟩
      · exact h.elim
    · exact h.elim
  · exact h.elim
theorem zPopAt_ok : MtR X "list.pop" (rZm X E zPopAt) := by
  intro pins s σ H v vs u us Q I rv rs h
  obtain ⟨x, ds, θ, M, m, rx, rd, h⟩ := h
  unfold zPopAt at h
  split at h
  · rename_i i j
    split at h
    · rename_i xs e
      split at h
      · rename_i k ek
        split at h
        · rename_i y ey
          obtain ⟨a, ws, rfl, hi, h0, r⟩ := lstAt_ok m rx e
          obtain ⟨w, ew, rw'⟩ := paired_at r ey
          cases rd with
          | cons r1 rr =>
            cases rr
            cases r1
            obtain ⟨h1, h2, h3, h4⟩ := ixN_seq ek
            have z := (I.lstM h0).1
            have hn := line63
            rw [← Paired.length r] at h1 h3 h4
            refine mt_popAt pins s σ H _ _ u us Q I rv rs ⟨a, ws, j, k, w, rfl, rfl, h0, by omega, by omega, h1, ew, post_set h m hi h0 (paired_erase k r) (List.all_eq_true.mpr fun z hz => List.all_eq_true.mp (low_at m e) z (List.mem_of_mem_eraseIdx hz)) rw'⟩
        · exact h.elim
      · exact h.elim
    · exact h.elim
  · exact h.elim
end

/-! ### o[i] = v -/
def zSetL (x y v : D) (M : Store) : Option Store := match x, y with
  | .ref i, .p (.int j) => match lstAt M i with
    | some xs => match ixN xs.length j with
      | some k => if v.low i = true then some (M.set i (.lst (xs.set k v))) else none
      | none => none
    | none => none
  | _, _ => none
def rZset (X : Cx) (f : D → D → D → Store → Option Store) : TSet := fun o i v H Q => ∃ θ M x y d M', SR X.K θ H M ∧ Dr X.K θ H o x ∧ Dr X.K θ H i y ∧ Dr X.K θ H v d ∧ f x y d M = some M' ∧ ∀ H', Go θ θ H H' → SR X.K θ H' M' → Q H'
/-- o[i] = e -/
def sstore (f : D → D → D → Store → Option Store) (cv co ci : ZC) : SC := fun sl M => match cv sl M with
  | .ok v M1 => match co sl M1 with
    | .ok o M2 => match ci sl M2 with
      | .ok i M3 => match f o i v M3 with
        | some M4 => .nx sl M4
        | none => .stuck
      | .exc e M => .exc e M
      | .stuck => .stuck
    | .exc e M => .exc e M
    | .stuck => .stuck
  | .exc e M => .exc e M
  | .stuck => .stuck
section
variable {X : Cx} {E : XK}
theorem zSetL_ok : PSet X (rZset X zSetL) := by
  intro pins s σ H o i v ov iv u Q I ro ri rv h
  obtain ⟨θ, M, x, y, d, M', m, rx, ry, rd, e, q⟩ := h
  unfold zSetL at e
  split at e
  · rename_i j k
    split at e
    · rename_i xs ex
      split at e
      · rename_i n en
        split at e
        · rename_i lo
          cases e
          obtain ⟨a, ws, rfl, hi, h0, r⟩ := lstAt_ok m rx ex
          cases ry
          refine set_list pins s σ H _ _ v ov iv u Q I ro ri rv ⟨a, ws, k, n, rfl, rfl, h0, by rw [Paired.length r]; exact en, ?_⟩
          have g : Go θ θ H (upd H a (.lst (ws.set n v))) := ⟨List.prefix_refl _, fun b w e c => by
            have ne : b ≠ a := by
              rintro rfl
              rw [h0] at e; cases e
              rcases c with c | c
              · exact c (List.mem_of_getElem? hi)
              · exact c
            rw [upd_ne ne]; exact e, fun b m n => absurd m n⟩
          obtain ⟨s', g'⟩ := m.set (o := .lst (xs.set n d)) (u := .lst (ws.set n v)) hi h0 (fun z => z) ⟨_, upd_same, paired_set (rd.go g) n (r.go g)⟩ (List.all_eq_true.mpr fun z hz => by
            rcases List.mem_or_eq_of_mem_set hz with h | rfl
            · exact List.all_eq_true.mp (low_at m ex) z h
            · exact lo)
          exact q _ g' s'
        · cases e
      · cases e
    · cases e
  · cases e
theorem ZS.store {v o i : Expr} {cv co ci : ZC} {f : D → D → D → Store → Option Store} {p pos : Pos} (hset : PSet X (rZset X f)) (hv : ZE X E v cv) (ho : ZE X E o co) (hi : ZE X E i ci)
    (hs : swapsWithSole [.Subscript o i p] v pos.line X.env = pure false := by rfl) (hw : swappedStores [.Subscript o i p] v X.env = pure none := by rfl)
    (h1 : (assignEach [.Subscript o i p] X.env).map (·.2) = [assign (.Subscript o i p) X.env] := by rfl)
    (ha : ∀ v, assign (.Subscript o i p) X.env v = (do
      let ov ← holding [v] (eval o X.env)
      let iv ← holding [v, ov] (eval i X.env)
      standAt p
      holding [v, ov, iv] (setItem ov iv v)
      release [v, ov, iv] []) := by intro _; rfl) : ZS X E (.Assign [.Subscript o i p] v pos) (sstore f cv co ci) := by
  obtain ⟨t, pv, qv⟩ := hv
  obtain ⟨u, po, qo⟩ := ho
  obtain ⟨w, pi, qi⟩ := hi
  refine ⟨_, ps_asg pv (pg_sub po pi hset ha) hs hw h1, fun σ H θ sl M N hs hm h => qv σ H θ sl M _ hs hm ?_⟩
  unfold sstore at h
  cases e1 : cv sl M with
  | stuck => rw [e1] at h; exact h
  | exc x M1 => rw [e1] at h; exact h
  | ok d M1 =>
    rw [e1] at h
    intro v1 H1 θ1 g1 m1 r1
    refine qo σ H1 θ1 sl M1 _ (hs.go g1) m1 ?_
    simp only at h
    cases e2 : co sl M1 with
    | stuck => rw [e2] at h; exact h
    | exc x M2 => rw [e2] at h; exact PostS.go g1 h
    | ok o' M2 =>
      rw [e2] at h
      intro v2 H2 θ2 g2 m2 r2
      refine qi σ H2 θ2 sl M2 _ (hs.go (g1.trans g2)) m2 ?_
      simp only at h
      cases e3 : ci sl M2 with
      | stuck => rw [e3] at h; exact h
      | exc x M3 => rw [e3] at h; exact PostS.go (g1.trans g2) h
      | ok i' M3 =>
        rw [e3] at h
        intro v3 H3 θ3 g3 m3 r3
        simp only at h
        cases e4 : f o' i' d M3 with
        | none => rw [e4] at h; exact h.elim
        | some M4 =>
          rw [e4] at h
          exact ⟨θ3, M3, o', i', d, M4, m3, r2.go g3, r3, (r1.go g2).go g3, e4, fun H' g m' => h σ H' θ3 (((g1.trans g2).trans g3).trans g) (((hs.go (g1.trans g2)).go g3).go g) m'⟩
end
end Z

/-! Z: repr and sorted, calls without and by named arguments. -/
namespace Z
open PySem PySem.Spec PyProof.Rows L2
def zShow (ds : List D) (M : Store) : Out D := match ds with
  | [d] => match snap 6 M d with
    | some (.int i) => if i.natAbs.log2 < 1920 then .ok (.p (.str (toString i))) M else .stuck
    | some (.tuple xs) => if (PyData.tuple xs).showable = true ∧ (PyData.tuple xs).hasDict = false ∧ (PyData.tuple xs).shown.length ≤ sizeLine ∧ (PyData.tuple xs).depth ≤ 60 then .ok (.p (.str (PyData.tuple xs).shown)) M else .stuck
    | some (.list xs) => if (PyData.list xs).showable = true ∧ (PyData.list xs).hasDict = false ∧ (PyData.list xs).shown.length ≤ sizeLine ∧ (PyData.list xs).depth ≤ 60 then .ok (.p (.str (PyData.list xs).shown)) M else .stuck
    | some .none => .ok (.p (.str "None")) M
    | some (.bool b) => .ok (.p (.str (if b then "True" else "False"))) M
    | _ => .stuck
  | _ => .stuck
section
variable {X : Cx} {E : XK}
theorem repr_data (zx : ZX X) {pins : List (Addr × Obj)} {s : Shared} {σ : L2.St} {H : Hp} {a : Addr} {x : P} {us : List Value} {Q : VK} (I : Inv X pins σ H s) (rv : Vals [.ref a] us) (h : Dp X.K H (.ref a) x)
    (c : x.showable = true ∧ x.hasDict = false ∧ x.shown.length ≤ sizeLine ∧ x.depth ≤ 60) (q : Q (.str x.shown) H) : wpAny (model X.prog X.w) X.A (call (.builtin "repr") us) (EP X pins σ Q) X.xe s := by
  obtain ⟨u, rfl, ru⟩ := rv.one
  cases ru
  obtain ⟨as, rd⟩ := Dp.reads I x (.ref a) (.ref a) h rfl
  have hu := zx.hu
  exact repr_of_reads' rd c.1 (fun z => by rw [c.2.1] at z; cases z) zx.gd (by have := c.2.2.2; omega) (fun _ _ e => e) (fun h' u tk k => ⟨.str x.shown, H, I.kept k, ⟨u, rfl⟩, q⟩) c.2.2.1
theorem zShow_ok (zx : ZX X) : CallR X (.builtin "repr") (rZs X E zShow) := by
  intro pins s σ H xs us Q I r h
  obtain ⟨ds, θ, M, m, rs, h⟩ := h
  unfold zShow at h
  split at h
  · cases rs with
    | cons r1 rr =>
      cases rr
      split at h
      · rename_i e
        split at h
        · rename_i c
          have d1 := snap_dp m _ _ _ _ r1 e rfl
          cases d1
          exact SkE.call_repr_int pins s σ H _ us Q I r ⟨_, rfl, c, Post.here h m (Fz.str _)⟩
        · exact h.elim
      · rename_i e
        split at h
        · rename_i c
          have d1 := snap_dp m _ _ _ _ r1 e c.2.1
          cases d1 with
          | tup k1 k2 => exact repr_data zx I r (.tup k1 k2) c (Post.here h m (Fz.str _))
        · exact h.elim
      · rename_i e
        split at h
        · rename_i c
          have d1 := snap_dp m _ _ _ _ r1 e c.2.1
          cases d1 with
          | lst k1 k2 => exact repr_data zx I r (.lst k1 k2) c (Post.here h m (Fz.str _))
        · exact h.elim
      · rename_i e
        have d1 := snap_dp m _ _ _ _ r1 e rfl
        cases d1
        obtain ⟨u, rfl, ru⟩ := r.one
        cases ru
        exact PySem.P.repr_of_none ⟨.str _, H, I.tok _, ⟨_, rfl⟩, Post.here h m (Fz.str _)⟩
      · rename_i b e
        have d1 := snap_dp m _ _ _ _ r1 e rfl
        cases d1
        obtain ⟨u, rfl, ru⟩ := r.one
        cases ru
        exact PySem.P.repr_of_bool (b := b) ⟨.str _, H, I.tok _, ⟨_, rfl⟩, Post.here h m (Fz.str _)⟩
      · exact h.elim
  · exact h.elim

/-! ### sorted -/
theorem eachIs_of {K : PySem.W.Frag} {h : Heap} {H : Hp} : ∀ {us : List Value} {vs : List V} {xs : List P}, Vals vs us → FzAll K H vs xs → PySem.W.EachIs (fun u x => ∃ v, RelV v u ∧ Fz K H v x) us xs
  | _, _, _, .nil, .nil => .nil
  | _, _, _, .cons a b, .cons c d => .cons ⟨_, a, c⟩ (eachIs_of (h := h) b d)
theorem ofEachIs {K : PySem.W.Frag} {H : Hp} : ∀ {us : List Value} {xs : List P}, PySem.W.EachIs (fun u x => ∃ v, RelV v u ∧ Fz K H v x) us xs → ∃ vs, Vals vs us ∧ FzAll K H vs xs
  | _, _, .nil => ⟨[], .nil, .nil⟩
  | _, _, .cons ⟨v, r, z⟩ t => by
    obtain ⟨vs, h1, h2⟩ := ofEachIs t
    exact ⟨v :: vs, .cons r h1, .cons z h2⟩
mutual
theorem alike_noDict : ∀ x : P, PySem.W.alike x x = true → x.hasDict = false
  | .none, _ => rfl
  | .bool _, _ => rfl
  | .int _, _ => rfl
  | .str _, _ => rfl
  | .list xs, h => by rw [PyData.hasDict]; exact alikes_noDict xs (by simpa [PySem.W.alike] using h)
  | .tuple xs, h => by rw [PyData.hasDict]; exact alikes_noDict xs (by simpa [PySem.W.alike] using h)
  | .dict _, h => by simp [PySem.W.alike] at h
theorem alikes_noDict : ∀ xs : List P, PySem.W.alikeAll xs xs = true → PyData.hasDictAll xs = false
  | [], _ => rfl
  | x :: xs, h => by
    rw [PySem.W.alikeAll, Bool.and_eq_true] at h
    rw [PyData.hasDictAll, alike_noDict x h.1, alikes_noDict xs h.2]
    rfl
end
theorem eachReads {K : PySem.W.Frag} {h : Heap} {H : Hp} (f : ∀ v u x, x.hasDict = false → RelV v u → Fz K H v x → ∃ as, Reads h u x as) : ∀ {us : List Value} {xs : List P}, (∀ x ∈ xs, x.hasDict = false) → PySem.W.EachIs (fun u x => ∃ v, RelV v u ∧ Fz K H v x) us xs → PySem.W.EachIs (fun u x => ∃ as, Reads h u (id x) as) us xs
  | _, _, _, .nil => .nil
  | _, _, c, .cons ⟨v, r, z⟩ t => .cons (f v _ _ (c _ List.mem_cons_self) r z) (eachReads f (fun x hx => c x (List.mem_cons_of_mem _ hx)) t)
theorem all_noDict {xs : List P} (h : PySem.W.AllAlike xs) : ∀ x ∈ xs, x.hasDict = false := fun x hx => alike_noDict x (h x hx x hx)
/-- the list that sorted makes, frozen at once -/
theorem post_frz {Q : VK} {θ : List Addr} {H : Hp} {M : Store} {xs : List P} {vs : List V} (h : Post X.K X.mg E (Dr X.K) Q θ H (.ok (.p (.list xs)) M)) (m : SR X.K θ H M) {a : Addr} (ha : H a = none) (hz : xs.length ≤ sizeLine) (r : FzAll X.K H vs xs) :
    FrzQ Q (.ref a) (upd H a (.lst vs)) := (frzl_ok (ds := xs.map .p) (by rw [frzl_map, if_pos hz]; exact h) m r.drs).2 a ha
theorem zSorted_ok (zx : ZX X) : CallR X (.builtin "sorted") (rZs X E zSorted) := by
  intro pins s σ H xs us Q I r h
  obtain ⟨ds, θ, M, m, rs, h⟩ := h
  unfold zSorted at h
  split at h
  · split at h
    · rename_i zs e1
      split at h
      · rename_i ys e2
        split at h
        · rename_i c
          cases rs with
          | cons r1 rr =>
            cases rr
            obtain ⟨ad, vs, rfl, hp, dp⟩ := lstv_ok m r1 e1
            rw [pures_eq e2] at dp
            have fz := FzAll.ofDrs dp
            obtain ⟨u, rfl, ru⟩ := r.one
            cases ru
            obtain ⟨its, rv, pl, hz⟩ := I.list hp.sq
            have hu := zx.hu
            have ei := eachIs_of (h := s.heap) rv fz
            have er := eachReads (h := s.heap) (fun v u x c r z => Dp.reads I x v u (z.dp c) r) (all_noDict c.1) ei
            refine thn (Q := EP X pins σ (FrzQ Q)) (PySem.W.sorted_data (enc := id) pl.isList ei er (by rw [List.map_id]; exact c.1) (by rw [List.map_id]; exact c.2.1) c.2.2.1 (fun b hb => by have := c.2.2.2 b hb; show X.A.units + 2 + b.depth < cLine; omega) fun out hl ho => ?_) fun u s1 z => ep_frz z
            obtain ⟨ws, w1, w2⟩ := ofEachIs ho
            obtain ⟨ep, at_⟩ := sortedAll_at s.heap its out.toArray
            have hn : H (s.heap.objs.size + 1) = none := I.hok.fresh (Nat.le_succ _)
            have wl : ws.length = ys.length := by rw [w1.length, hl]
            have J := Inv.laid (o := .lst ws) (t' := s.toks) I (fun b u q => sortedAll_old q) (Nat.le_succ _) ⟨by rw [wl]; exact c.2.2.1, out, ep, w1, at_⟩
            exact ⟨.ref _, _, J, rfl, post_frz h m hn (by rw [psort, List.length_mergeSort]; exact c.2.2.1) w2⟩
        · exact h.elim
      · exact h.elim
    · exact h.elim
  · exact h.elim
end

/-! ### calls without arguments, by names -/
def permBy {α : Type} (ix : List Nat) (l : List α) : List α := ix.filterMap fun i => l[i]?
theorem paired_perm {α β : Type} {R : α → β → Prop} {l : List α} {m : List β} (h : Paired R l m) : ∀ ix : List Nat, Paired R (permBy ix l) (permBy ix m)
  | [] => .nil
  | i :: ix => by
    unfold permBy
    have hl := Paired.length h
    cases e : m[i]? with
    | none =>
      have e' : l[i]? = none := by
        rw [List.getElem?_eq_none_iff] at e ⊢
        omega
      rw [List.filterMap_cons_none e, List.filterMap_cons_none e']
      exact paired_perm h ix
    | some b =>
      obtain ⟨a, ea, r⟩ := paired_at h e
      rw [List.filterMap_cons_some e, List.filterMap_cons_some ea]
      exact .cons r (paired_perm h ix)
theorem vals_perm {vs : List V} {us : List Value} (h : Vals vs us) : ∀ ix : List Nat, Vals (permBy ix vs) (permBy ix us)
  | [] => .nil
  | i :: ix => by
    unfold permBy
    have hl := h.length
    cases e : vs[i]? with
    | none =>
      have e' : us[i]? = none := by
        rw [List.getElem?_eq_none_iff] at e ⊢
        omega
      rw [List.filterMap_cons_none e, List.filterMap_cons_none e']
      exact vals_perm h ix
    | some b =>
      obtain ⟨a, ea, r⟩ := h.get e
      rw [List.filterMap_cons_some e, List.filterMap_cons_some ea]
      exact .cons r (vals_perm h ix)
def ZK (X : Cx) (E : XK) (kws : List Keyword) (c : ZCs) : Prop := ∃ t, PK X kws t ∧ ∀ σ H θ sl M Q, SV X.K θ H σ sl → SR X.K θ H M → Post X.K X.mg E (Drs X.K) Q θ H (c sl M) → t σ H Q
section
variable {P : Program} {w : World} {K : PySem.W.Frag} {mg : Str → Option Value} {base : Heap} {k j : Nat} {N : List Str} {X : Cx} {E : XK} {f : Addr} {fd : FuncData} {ps ks : List Str} {F : Fn} {n : Nat} {x : Str} {p pos kpos : Pos} {e : Expr} {es : List Expr} {c : ZC} {cs : ZCs} {kws : List Keyword} {nm : Option Str}
theorem ZK.nil : ZK X E [] znil := ⟨_, pk_nil, fun σ H θ sl M Q hs hm h => Post.here (R := Drs X.K) (b := []) h hm .nil⟩
theorem ZK.cons (ha : ZE X E e c) (hr : ZK X E kws cs) : ZK X E (⟨nm, e, kpos⟩ :: kws) (zcons c cs) := by
  obtain ⟨t, pa, q⟩ := ha
  obtain ⟨u, pr, qr⟩ := hr
  exact ⟨_, pk_cons pa pr, fun σ H θ sl M Q hs hm h => q σ H θ sl M _ hs hm (Post.bind h fun x M1 v H1 θ1 g1 m1 r1 h1 => qr σ H1 θ1 sl M1 _ (hs.go g1) m1 (Post.bind h1 fun xs M2 vs H2 θ2 g2 m2 r2 h2 => Post.here h2 m2 (.cons (r1.go g2) r2)))⟩
theorem ZE.callK (B : BX P w K mg base k N X E) (G : FnG P w K mg base j f fd ps (spZ K mg F n)) (h : j ≤ k) (hg : Gl X x) (hm : X.mg x = some (.ref f)) (hk : PySem.W.keepIn X.K (.ref f) = true) (ix : List Nat)
    (hb : ∀ (s : Shared) (us : List Value), us.length = n → BindsTo s fd ⟨[], ks.zip us⟩ (ps.zip (permBy ix us))) (ha : ZK X E kws cs) (hix : ∀ (us : List D), us.length = n → (permBy ix us).length = n) (hn : ps.length = n := by rfl)
    (hall : (backToKw pos (keywordEach kws X.env)).all (·.1.isSome) = true := by rfl) (hks : (backToKw pos (keywordEach kws X.env)).filterMap (·.1) = ks := by rfl)
    (hdb : (x == ("__debug__" : Str)) = false := by decide) (hpl : ((backTo pos (starEach [] X.env)).any (·.1) || (backToKw pos (keywordEach kws X.env)).any (·.1.isNone)) = false := by rfl) :
    ZE X E (.Call (.Name x p) [] kws pos) (zs (fun ds M => zfc n (fun ds M => F (permBy ix ds) M) ds M) cs) := by
  obtain ⟨t, pa, q⟩ := ha
  have eK := B.hK
  have em := B.hmg
  refine ⟨fun σ H Q => t σ H fun vs H1 => vs.length = n ∧ spZ K mg F n (permBy ix vs) H1 Q E, ⟨fun pins s σ H Q I h' => ?_⟩, fun σ H θ sl M Q hs hm' h' => q σ H θ sl M _ hs hm' (Post.bind h' fun ds M1 vs H1 θ1 g1 m1 r1 h1 => ?_)⟩
  · refine wpAny_Call_Name_kw (ld_glob I hg hm ?_ hdb)
    refine PySem.W.callWith_KW0 (h₀ := X.base) I.ok.mod.kin hk hall (thn (pa.run pos pins s σ H _ I h') fun us s1 ⟨vs, H1, I1, r, l, qq⟩ => ⟨I1.kIn, ?_⟩) hpl
    rw [hks]
    exact B.runs G h (args := ⟨[], ks.zip us⟩) I1 (hb s1 us (by rw [← r.length]; exact l)) (vals_perm r ix) qq
  · have hl := Paired.length r1
    unfold zfc at h1
    by_cases hd : ds.length = n
    · rw [if_pos hd] at h1
      subst eK em
      have pp := paired_perm r1 ix
      exact ⟨hl.trans hd, θ1, _, M1, (Paired.length pp).trans (hix ds hd), m1, pp, h1⟩
    · rw [if_neg hd] at h1
      exact h1.elim
/-- f() -/
theorem ZE.call0 (B : BX P w K mg base k N X E) (G : FnG P w K mg base j f fd ps (spZ K mg F 0)) (h : j ≤ k) (hg : Gl X x) (hm : X.mg x = some (.ref f)) (hk : PySem.W.keepIn X.K (.ref f) = true) (hb : Binds X.K fd ps []) (hn : ps.length = 0 := by rfl)
    (hdb : (x == ("__debug__" : Str)) = false := by decide) : ZE X E (.Call (.Name x p) [] [] pos) (fun _ M => F [] M) := by
  have eK := B.hK
  have em := B.hmg
  refine ⟨fun σ H Q => spZ K mg F 0 [] H Q E, ⟨fun pins s σ H Q I h' => ?_⟩, fun σ H θ sl M Q hs hm' h' => ?_⟩
  · refine wpAny_Call_Name_kw (ld_glob I hg hm ?_ hdb)
    have bt := hb s [] I.kIn (by rw [hn]; rfl)
    exact PySem.W.callWith_K0 I.kIn hk (B.runs G h (args := ⟨[], []⟩) I bt .nil h')
  · subst eK em
    exact ⟨θ, [], M, rfl, hm', .nil, h'⟩
end

/-! ### a fresh list that may change; three names at once -/
def zAddM (a b : D) (M : Store) : Out D := match lstv M a, lstv M b with
  | some xs, some ys => mkLst (xs ++ ys) M
  | _, _ => .stuck
theorem mkLst_ok {X : Cx} {E : XK} {θ : List Addr} {H : Hp} {M : Store} {Q : VK} {vs : List V} {ds : List D} (h : Post X.K X.mg E (Dr X.K) Q θ H (mkLst ds M)) (m : SR X.K θ H M) (r : Drs X.K θ H vs ds) :
    vs.length ≤ sizeLine ∧ ∀ p, H p = none → Q (.ref p) (upd H p (.lst vs)) := by
  unfold mkLst at h
  by_cases l : ds.length ≤ sizeLine
  · rw [if_pos l] at h
    exact ⟨by rw [Paired.length r]; exact l, fun p hp => new_lst h m r hp⟩
  · rw [if_neg l] at h; exact h.elim
section
variable {X : Cx} {E : XK} {a b c : Expr} {cs : ZCs} {pos : Pos}
theorem zAddM_ok : OpR X (binaryOp .Add) (rZ2 X E zAddM) := by
  intro pins s σ H x y v u Q I rx ry h
  obtain ⟨a, b, θ, M, m, ra, rb, h⟩ := h
  unfold zAddM at h
  split at h
  · rename_i xs ys e1 e2
    obtain ⟨p, vs, rfl, hp, dp⟩ := lstv_ok m ra e1
    obtain ⟨q, ws, rfl, hq, dq⟩ := lstv_ok m rb e2
    obtain ⟨l, k⟩ := mkLst_ok h m (paired_append dp dq)
    rw [List.length_append] at l
    exact op_catX pins s σ H _ _ v u Q I rx ry ⟨p, q, vs, ws, rfl, rfl, hp, hq, l, k⟩
  · exact h.elim
theorem ZS.par3 (zx : ZX X) (i j l : Nat) {x y z : Str} {px py pz pt : Pos} {kt k2 : Nat} {pt2 : Pos} (ha : ZA X E [a, b, c] cs) (hi : X.N[i]? = some x := by rfl) (hj : X.N[j]? = some y := by rfl) (hl : X.N[l]? = some z := by rfl)
    (hij : i ≠ j := by decide) (hil : i ≠ l := by decide) (hjl : j ≠ l := by decide)
    (hx : X.env.scope.names.lookup x = some .local := by rfl) (hy : X.env.scope.names.lookup y = some .local := by rfl) (hz : X.env.scope.names.lookup z = some .local := by rfl)
    (hw : swappedStores [.Tuple [.Name x px, .Name y py, .Name z pz] kt pt] (.Tuple [a, b, c] k2 pt2) X.env = pure (some [x, y, z]) := by rfl)
    (hs : swapsWithSole [.Tuple [.Name x px, .Name y py, .Name z pz] kt pt] (.Tuple [a, b, c] k2 pt2) pos.line X.env = pure false := by rfl) :
    ZS X E (.Assign [.Tuple [.Name x px, .Name y py, .Name z pz] kt pt] (.Tuple [a, b, c] k2 pt2) pos) (spar [i, j, l] cs) := by
  obtain ⟨t, p, q⟩ := ha
  refine ⟨_, ps_par3 zx.calm zx.nd hi hj hl hij hil hjl hx hy hz p hw hs, fun σ H θ sl M N hs hm h => q σ H θ sl M _ hs hm (PostS.thn h fun ds M1 vs H1 θ1 g1 m1 r1 h1 => ?_)⟩
  match r1, h1 with
  | .nil, h1 => exact h1.elim
  | .cons _ .nil, h1 => exact h1.elim
  | .cons _ (.cons _ .nil), h1 => exact h1.elim
  | .cons a1 (.cons a2 (.cons a3 .nil)), h1 => exact ⟨_, _, _, rfl, h1 _ H1 θ1 .refl ((((hs.go g1).set a1).set a2).set a3) m1⟩
  | .cons _ (.cons _ (.cons _ (.cons _ _))), h1 => exact h1.elim
end

/-! ### tuple(range(..)), list(range(..)) -/
abbrev ZCr := Sl → Store → Out (Int × Int)
def EqP : List Addr → Hp → Int × Int → Int × Int → Prop := fun _ _ b a => b = a
def ZR (X : Cx) (E : XK) (e : Expr) (c : ZCr) : Prop := ∃ t, PRg X e t ∧ ∀ σ H θ sl M (Q : Int → Int → Hp → Prop), SV X.K θ H σ sl → SR X.K θ H M → Post X.K X.mg E EqP (fun p H => Q p.1 p.2 H) θ H (c sl M) → t σ H Q
def zrg1 (a : ZC) : ZCr := fun sl M => (a sl M).bind fun d M1 => match d with
  | .p (.int n) => .ok (0, n) M1
  | _ => .stuck
def zrg2 (a b : ZC) : ZCr := fun sl M => (a sl M).bind fun d M1 => (b sl M1).bind fun e M2 => match d, e with
  | .p (.int i), .p (.int j) => .ok (i, j) M2
  | _, _ => .stuck
def rgP (a b : Int) : List P := (List.range (b - a).toNat).map fun i : Nat => .int (a + (i : Int))
def rgIn (a b : Int) : Bool := decide (-(2 ^ 62) ≤ a) && decide (a < 2 ^ 62) && decide (-(2 ^ 62) ≤ b) && decide (b < 2 ^ 62) && decide ((b - a).toNat ≤ 2 ^ 24)
theorem rgIn_ok {a b : Int} (h : rgIn a b = true) : RgOk a b := by
  unfold rgIn at h
  simp only [Bool.and_eq_true, decide_eq_true_eq] at h
  exact ⟨h.1.1.1.1, h.1.1.1.2, h.1.1.2, h.1.2, h.2⟩
theorem fz_rg {K : PySem.W.Frag} {H : Hp} (a b : Int) : FzAll K H (rgV a b) (rgP a b) := by
  unfold rgV rgP
  generalize List.range (b - a).toNat = l
  induction l with
  | nil => exact .nil
  | cons i l ih => exact .cons (.int _) ih
def ztrg (c : ZCr) : ZC := fun sl M => (c sl M).bind fun p M1 => if rgIn p.1 p.2 = true then .ok (.p (.tuple (rgP p.1 p.2))) M1 else .stuck
def zlrg (c : ZCr) : ZC := fun sl M => (c sl M).bind fun p M1 => if rgIn p.1 p.2 = true then frzl ((rgP p.1 p.2).map .p) M1 else .stuck
def zlrgM (c : ZCr) : ZC := fun sl M => (c sl M).bind fun p M1 => if rgIn p.1 p.2 = true then mkLst ((rgP p.1 p.2).map .p) M1 else .stuck
section
variable {X : Cx} {E : XK} {a b e : Expr} {ca cb : ZC} {c : ZCr} {p pos : Pos}
theorem ZR.one (hg : Gl X "range") (hm : X.mg "range" = none) (ha : ZE X E a ca) (na : starEach [a] X.env = (false, eval a X.env) :: starEach [] X.env := by rfl) : ZR X E (.Call (.Name "range" p) [a] [] pos) (zrg1 ca) := by
  obtain ⟨t, pa, q⟩ := ha
  refine ⟨_, prg_1 hg hm pa na, fun σ H θ sl M Q hs hm h => q σ H θ sl M _ hs hm (Post.bind h fun d M1 v H1 θ1 g1 m1 r1 h1 => ?_)⟩
  split at h1
  · cases r1
    exact ⟨_, rfl, Post.here (R := EqP) h1 m1 rfl⟩
  · exact h1.elim
theorem ZR.two (hg : Gl X "range") (hm : X.mg "range" = none) (ha : ZE X E a ca) (hb : ZE X E b cb) (na : starEach [a, b] X.env = (false, eval a X.env) :: starEach [b] X.env := by rfl)
    (nb : starEach [b] X.env = (false, eval b X.env) :: starEach [] X.env := by rfl) (hp : (backTo pos (starEach [b] X.env)).any (·.1) = false := by rfl) : ZR X E (.Call (.Name "range" p) [a, b] [] pos) (zrg2 ca cb) := by
  obtain ⟨t, pa, q⟩ := ha
  obtain ⟨u, pb, qb⟩ := hb
  refine ⟨_, prg_2 hg hm pa pb na nb hp, fun σ H θ sl M Q hs hm h => q σ H θ sl M _ hs hm (Post.bind h fun d M1 v H1 θ1 g1 m1 r1 h1 => ?_)⟩
  refine qb σ H1 θ1 sl M1 _ (hs.go g1) m1 (Post.bind h1 fun d2 M2 v2 H2 θ2 g2 m2 r2 h2 => ?_)
  split at h2
  · cases r1
    cases r2
    exact ⟨_, _, rfl, rfl, Post.here (R := EqP) h2 m2 rfl⟩
  · exact h2.elim
theorem ZE.tupRg (zx : ZX X) (hg : Gl X "tuple") (hm : X.mg "tuple" = none) (he : ZR X E e c) (na : starEach [e] X.env = (false, eval e X.env) :: starEach [] X.env := by rfl) : ZE X E (.Call (.Name "tuple" p) [e] [] pos) (ztrg c) := by
  obtain ⟨t, pa, q⟩ := he
  refine ⟨_, pe_tupRg zx.calm hg hm pa na, fun σ H θ sl M Q hs hm h => q σ H θ sl M _ hs hm (Post.bind h fun d M1 v H1 θ1 g1 m1 r1 h1 => ?_)⟩
  cases r1
  split at h1
  · exact ⟨rgIn_ok (by assumption), fun l hl => new_tup h1 m1 (fz_rg _ _) hl⟩
  · exact h1.elim
theorem ZE.lstRg (zx : ZX X) (hg : Gl X "list") (hm : X.mg "list" = none) (he : ZR X E e c) (na : starEach [e] X.env = (false, eval e X.env) :: starEach [] X.env := by rfl) : ZE X E (.Call (.Name "list" p) [e] [] pos) (zlrg c) := by
  obtain ⟨t, pa, q⟩ := he
  refine ⟨_, pe_frz (pe_listRg zx.calm hg hm pa na), fun σ H θ sl M Q hs hm h => q σ H θ sl M _ hs hm (Post.bind h fun d M1 v H1 θ1 g1 m1 r1 h1 => ?_)⟩
  cases r1
  split at h1
  · exact ⟨rgIn_ok (by assumption), (frzl_ok h1 m1 (fz_rg _ _).drs).2⟩
  · exact h1.elim
theorem ZE.lstRgM (zx : ZX X) (hg : Gl X "list") (hm : X.mg "list" = none) (he : ZR X E e c) (na : starEach [e] X.env = (false, eval e X.env) :: starEach [] X.env := by rfl) : ZE X E (.Call (.Name "list" p) [e] [] pos) (zlrgM c) := by
  obtain ⟨t, pa, q⟩ := he
  refine ⟨_, pe_listRg zx.calm hg hm pa na, fun σ H θ sl M Q hs hm h => q σ H θ sl M _ hs hm (Post.bind h fun d M1 v H1 θ1 g1 m1 r1 h1 => ?_)⟩
  cases r1
  split at h1
  · exact ⟨rgIn_ok (by assumption), (mkLst_ok h1 m1 (fz_rg _ _).drs).2⟩
  · exact h1.elim
end
end Z

/-! Z: the law row from its def. -/
namespace Z
open PySem PySem.Spec PyProof.Rows L2
/-- the law's answer is yes, whatever the small script -/
def Yes (F : Fn) (most : Nat) : Prop := ∀ ns : List Int, ns.length ≤ most → (∀ z ∈ ns, Builtin.Int.intBits z ≤ 1048576) → ∃ M, F [.p (.list (ns.map .int))] [] = .ok (.p (.bool true)) M
theorem sr_none {K : PySem.W.Frag} {H : Hp} : SR K [] H [] := ⟨rfl, List.nodup_nil, fun i o a e => by simp at e, fun i o e => by simp at e⟩
theorem fzall_ints {K : PySem.W.Frag} {H : Hp} : ∀ ns : List Int, FzAll K H (ns.map V.int) (ns.map .int)
  | [] => .nil
  | n :: r => .cons (.int n) (fzall_ints r)
/-- the call of the law's def over one abstract heap -/
theorem yes_at {P : Program} {w : World} {K : PySem.W.Frag} {mg : Str → Option Value} {base : Heap} {k : Nat} {fa a : Addr} {fd : FuncData} {x : Str} {Fz_ : Fn} {H : Hp} {s₁ : Shared} {ns : List Int}
    (G : FnG P w K mg base k fa fd [x] (spZ K mg Fz_ 1)) (hbind : ∀ (s : Shared) (u : Value), BindsTo s fd ⟨[u], []⟩ [(x, u)]) (hr : Room k callerA) (e0 : Env0 P w K mg base callerA [] s₁ H)
    (hS : FzL K H a (ns.map V.int)) (yes : ∃ M, Fz_ [.p (.list (ns.map .int))] [] = .ok (.p (.bool true)) M) :
    codeAny (model P w) callerA (.call (.ref fa) ⟨[.ref a], []⟩) (CR (CX P w) [] P w H s₁ (fun v _ => v = .bl true) fun _ _ _ => False) s₁ := by
  obtain ⟨M, hM⟩ := yes
  refine G.run callerA [] s₁ H ⟨[.ref a], []⟩ [.ref a] [.ref a] _ _ hr rfl e0 (hbind s₁ (.ref a)) (.cons rfl .nil) ?_
  refine ⟨[], [.p (.list (ns.map .int))], [], rfl, sr_none, .cons (Fz.lst hS (fzall_ints ns)) .nil, ?_⟩
  rw [hM]
  intro v H' θ' g s' r
  cases r
  rfl
/-- from the law's def to the row's walk -/
theorem walkZ {l : PySem.W.OpenLaw} {n k : Nat} {q : Program} {loose : List Str} {XP : (Str → Option Value) → Heap → Prop} {YP : World → Heap → Prop} {d : DefRec} {K : Params → PySem.W.Frag} {F : Fn} {x : Str}
    (hn : l.most = some n) (hn2 : n ≤ sizeLine) (hdf : d.params.defaults = []) (hr : Room k callerA) (hY : ∀ (w : World) (h : Heap), YP w h → (K w.params).In h)
    (G : ∀ (w : World) (mg : Str → Option Value) (fa : Addr) (h : Heap), (K w.params).In h → h.Ns mainGlobals mg → mg d.name = some (.ref fa) →
      ∃ fd : FuncData, (∀ (s : Shared) (u : Value), BindsTo s fd ⟨[u], []⟩ [(x, u)]) ∧
        ∀ base : Heap, (K w.params).In base → base.Ns mainGlobals mg → FnG l.prog w (K w.params) mg base k fa fd [x] (spZ (K w.params) mg F 1))
    (yes : Yes F n) : PySem.W.WalkO q loose XP YP l.row.toRowW d [] (fun f vs => PySem.call f vs) := by
  refine Att.attach_callB hn hdf fun w s₀ s₁ mg mb fa o pm cd doc a vs ns Gr Y ho hd hcd hmg hobj hints hlen hbits hg => ?_
  have KX : (K w.params).In s₁.heap := hY w _ Y
  obtain ⟨fd, hb, hF⟩ := G w mg fa _ KX Gr.T.g hmg
  have rv : Vals (ns.map V.int) vs := vals_ints hints
  have lv : vs.length = ns.length := hints.length.symm ▸ rfl
  have main : ∀ H : Hp, FzL (K w.params) H a (ns.map V.int) → HOk l.prog w H s₁.heap → (∀ b u, H b = some u → b = a ∧ ∃ o xs, u = .frz o (.lst xs)) → (H a ≠ none → (K w.params).lookup a = none) →
      codeAny (model l.prog w) callerA (.call (.ref fa) ⟨[.ref a], []⟩) (fun r s' => r = .ok (.ret (.bool true)) ∧ OldK s₁.heap s'.heap ∧ s'.os = s₁.os ∧ AllBare s'.gens) s₁ := by
    intro H hS hok hA hK
    have off : ∀ {b : Addr}, b ≠ a → H b = none := fun {b} nb => by
      cases e : H b with
      | none => rfl
      | some u => exact absurd (hA b u e).1 nb
    have dict : ∀ {b : Addr} {o : Obj} {es : Array DictEntry} {ep : Nat}, s₁.heap.get? b = some o → o.data = .dict es ep → (hidT s₁.heap H).get? b = some o := fun {b o es ep} e de => by
      refine hidT_get e (off fun z => ?_)
      subst z
      rw [hobj] at e
      cases e
      cases (show Data.seq vs.toArray _ = Data.dict es ep from de)
    have ns_ : ∀ {b : Addr} {m : Str → Option Value}, s₁.heap.Ns b m → (hidT s₁.heap H).Ns b m := fun {b m} ⟨o, es, ep, e, de, r⟩ => ⟨o, es, ep, dict e de, de, r⟩
    have kb : (K w.params).In (hidT s₁.heap H) := fun b o e => hidT_get (KX b o e) (by
      cases z : H b with
      | none => rfl
      | some u =>
        obtain ⟨rfl, _⟩ := hA b u z
        rw [hK (by rw [z]; simp)] at e
        cases e)
    have mod : Mod (K w.params) mg (hidT s₁.heap H) := by
      obtain ⟨mc, h1, h2⟩ := Gr.T.nolimit
      exact ⟨kb, ns_ Gr.T.g, ⟨mb, ns_ Gr.T.b, Gr.T.builtins⟩, mc, ns_ h1, h2⟩
    have none_in : ∀ b : Addr, ¬ b ∈ ([] : List Addr) := fun b m => by simp at m
    have e0 : Env0 l.prog w (K w.params) mg (hidT s₁.heap H) callerA [] s₁ H := ⟨rfl, mod, fun b o e => of_hidT e, Nat.le_of_eq (hidT_size _ _), trivial, fun b m => (none_in b m).elim, hok, .of_eq hg⟩
    refine codeAny_mono (yes_at (hF _ kb (ns_ Gr.T.g)) hb hr e0 hS (yes ns hlen hbits)) fun r s' h => ?_
    match r, h with
    | .error e, h =>
      obtain ⟨_, _, _, _, _, _, _, _, _, _, _, _, c⟩ := h
      exact c.elim
    | .ok .next, h => exact False.elim h
    | .ok .brk, h => exact False.elim h
    | .ok .cont, h => exact False.elim h
    | .ok (.ret u), ⟨v, H', os, bare, un, hok', r', e⟩ =>
      have e' : v = .bl true := e
      subst e'
      obtain rfl : u = Value.bool true := r'
      refine ⟨rfl, OldK.of_keep fun b o eb => ?_, os, bare⟩
      cases z : H b with
      | none => exact un.keep b o eb z (none_in b) (by simp)
      | some u =>
        obtain ⟨rfl, ob, xs, rfl⟩ := hA b u z
        obtain ⟨g1, _⟩ := hok b _ z
        obtain ⟨g2, _⟩ := hok' b _ (un.frzs b ob _ z)
        rw [eb] at g1
        cases g1
        exact g2
  cases hk : (K w.params).lookup a with
  | some o =>
    have e := KX a o hk
    rw [hobj] at e
    cases e
    exact main (fun _ => none) (.inr ⟨vs, _, hk, by rw [lv]; exact Nat.le_trans hlen hn2, rv⟩) (fun b u z => nomatch z) (fun b u z => nomatch z) fun z => absurd rfl z
  | none =>
    have at_ : ∀ {b : Addr} {u : HO}, (if b = a then some (HO.frz { cls := .type "list", data := .seq vs.toArray } (.lst (ns.map V.int))) else none) = some u → b = a ∧ u = .frz { cls := .type "list", data := .seq vs.toArray } (.lst (ns.map V.int)) := fun {b u} z => by
      split at z
      · cases z; exact ⟨by assumption, rfl⟩
      · cases z
    refine main (fun b => if b = a then some (.frz { cls := .type "list", data := .seq vs.toArray } (.lst (ns.map V.int))) else none) (.inl ⟨_, if_pos rfl⟩) (fun b u z => ?_) (fun b u z => ⟨(at_ z).1, _, _, (at_ z).2⟩) fun _ => hk
    obtain ⟨rfl, rfl⟩ := at_ z
    exact ⟨hobj, by rw [List.length_map]; exact Nat.le_trans hlen hn2, vs, _, rv, hobj⟩
end Z

/-! Z: reckoning with the combinators. -/
namespace Z
open PySem PySem.Spec PyProof.Rows L2
/-! only what stands first is looked at -/
theorem Out.bind_congr {α β : Type} {o o' : Out α} (k : α → Store → Out β) (h : o = o') : o.bind k = o'.bind k := by rw [h]
theorem Out.thn_congr {α : Type} {o o' : Out α} (k : α → Store → OutS) (h : o = o') : o.thn k = o'.thn k := by rw [h]
theorem OutS.seq_congr {o o' : OutS} (k : SC) (h : o = o') : o.seq k = o'.seq k := by rw [h]
section
variable (sl : Sl) (M : Store)
@[simp] theorem z1_e (g : D → Store → Out D) (a : ZC) : z1 g a sl M = (a sl M).bind g := id rfl
@[simp] theorem z2_e (g : D → D → Store → Out D) (a b : ZC) : z2 g a b sl M = (a sl M).bind fun x M1 => (b sl M1).bind fun y M2 => g x y M2 := id rfl
@[simp] theorem zs_e (g : List D → Store → Out D) (a : ZCs) : zs g a sl M = (a sl M).bind g := id rfl
@[simp] theorem zk_e (x : P) : zk x sl M = .ok (.p x) M := id rfl
@[simp] theorem znil_e : znil sl M = .ok [] M := id rfl
@[simp] theorem zcons_e (a : ZC) (r : ZCs) : zcons a r sl M = (a sl M).bind fun x M1 => (r sl M1).bind fun xs M2 => .ok (x :: xs) M2 := id rfl
@[simp] theorem zt_e (a : ZC) : zt a sl M = (a sl M).bind asBool := id rfl
@[simp] theorem asBool_b (b : Bool) : asBool (.p (.bool b)) M = .ok b M := id rfl
@[simp] theorem ztand_e (a b : ZCb) : ztand a b sl M = (a sl M).bind fun k M1 => if k = true then b sl M1 else .ok false M1 := id rfl
@[simp] theorem ztor_e (a b : ZCb) : ztor a b sl M = (a sl M).bind fun k M1 => if k = true then .ok true M1 else b sl M1 := id rfl
@[simp] theorem ztnot_e (a : ZCb) : ztnot a sl M = (a sl M).bind fun k M1 => .ok (!k) M1 := id rfl
@[simp] theorem zand_e (a b : ZC) : zand a b sl M = (a sl M).bind fun x M1 => (asBool x M1).bind fun k M2 => if k = true then b sl M2 else .ok (.p (.bool false)) M2 := id rfl
@[simp] theorem zor_e (a b : ZC) : zor a b sl M = (a sl M).bind fun x M1 => (asBool x M1).bind fun k M2 => if k = true then .ok (.p (.bool true)) M2 else b sl M2 := id rfl
@[simp] theorem znot_e (a : ZC) : znot a sl M = (a sl M).bind fun x M1 => (asBool x M1).bind fun k M2 => .ok (.p (.bool (!k))) M2 := id rfl
@[simp] theorem zif_e (t : ZCb) (a b : ZC) : zif t a b sl M = (t sl M).bind fun k M1 => if k = true then a sl M1 else b sl M1 := id rfl
@[simp] theorem zfrz_e (a : ZC) : zfrz a sl M = (a sl M).bind zfreeze := id rfl
@[simp] theorem zchain_e (g g' : D → D → Store → Out D) (a b c : ZC) : zchain g g' a b c sl M = (a sl M).bind fun x M1 => (b sl M1).bind fun y M2 => (g x y M2).bind fun z M3 => (asBool z M3).bind fun k M4 => if k = true then (c sl M4).bind fun w M5 => g' y w M5 else .ok (.p (.bool false)) M4 := by
  unfold zchain
  congr 1; funext x M1; congr 1; funext y M2; congr 1; funext z M3
  cases z with
  | ref i => rfl
  | p v =>
    cases v with
    | bool k => cases k <;> rfl
    | _ => rfl
@[simp] theorem zno_e : zno sl M = .ok none M := id rfl
@[simp] theorem zpart_e (a : ZC) : zpart a sl M = (a sl M).bind fun d M1 => match d with
  | .p (.int i) => .ok (some i) M1
  | _ => .stuck := id rfl
@[simp] theorem zslice_e (a : ZC) (l h : ZO) : zslice a l h sl M = (a sl M).bind fun d M1 => (l sl M1).bind fun lo M2 => (h sl M2).bind fun hi M3 => zSl d lo hi M3 := id rfl
def itemsOf (d : D) (M1 : Store) : Out (List D) := match d with
  | .p (.tuple xs) => .ok (xs.map .p) M1
  | .p (.list xs) => .ok (xs.map .p) M1
  | .p (.dict kvs) => .ok (kvs.map fun kv => .p kv.1) M1
  | _ => .stuck
def enumOf (d : D) (M1 : Store) : Out (List D) := match d with
  | .p (.tuple xs) => .ok (enumFrom 0 xs) M1
  | .p (.list xs) => .ok (enumFrom 0 xs) M1
  | _ => .stuck
@[simp] theorem zitems_e (a : ZC) : zitems a sl M = (a sl M).bind itemsOf := id rfl
@[simp] theorem zenum_e (a : ZC) : zenum a sl M = (a sl M).bind enumOf := id rfl
@[simp] theorem itemsOf_t (xs : List P) : itemsOf (.p (.tuple xs)) M = .ok (xs.map .p) M := id rfl
@[simp] theorem itemsOf_l (xs : List P) : itemsOf (.p (.list xs)) M = .ok (xs.map .p) M := id rfl
@[simp] theorem itemsOf_d (kvs : List (P × P)) : itemsOf (.p (.dict kvs)) M = .ok (kvs.map fun kv => .p kv.1) M := id rfl
@[simp] theorem enumOf_t (xs : List P) : enumOf (.p (.tuple xs)) M = .ok (enumFrom 0 xs) M := id rfl
@[simp] theorem enumOf_l (xs : List P) : enumOf (.p (.list xs)) M = .ok (enumFrom 0 xs) M := id rfl
theorem rgo1_ex : ∃ f : Int → Store → Out (List D), f = fun j M => if -(2 ^ 62) ≤ j ∧ j < 2 ^ 62 then .ok (rgItems 0 j.toNat) M else .stuck := ⟨_, rfl⟩
/-- sealed: nobody is to reckon with the great numbers in it -/
noncomputable def rgo1 : Int → Store → Out (List D) := Classical.choose rgo1_ex
theorem rgo1_eq : rgo1 = fun j M => if -(2 ^ 62) ≤ j ∧ j < 2 ^ 62 then .ok (rgItems 0 j.toNat) M else .stuck := Classical.choose_spec rgo1_ex
theorem rgo2_ex : ∃ f : Int → Int → Store → Out (List D), f = fun i j M => if -(2 ^ 62) ≤ i ∧ i < 2 ^ 62 ∧ -(2 ^ 62) ≤ j ∧ j < 2 ^ 62 then .ok (rgItems i (j - i).toNat) M else .stuck := ⟨_, rfl⟩
noncomputable def rgo2 : Int → Int → Store → Out (List D) := Classical.choose rgo2_ex
theorem rgo2_eq : rgo2 = fun i j M => if -(2 ^ 62) ≤ i ∧ i < 2 ^ 62 ∧ -(2 ^ 62) ≤ j ∧ j < 2 ^ 62 then .ok (rgItems i (j - i).toNat) M else .stuck := Classical.choose_spec rgo2_ex
@[simp] theorem zrange1_e (a : ZC) : zrange1 a sl M = (a sl M).bind fun d M1 => match d with
  | .p (.int j) => rgo1 j M1
  | _ => .stuck := by rw [rgo1_eq]; rfl
@[simp] theorem zrange2_e (a b : ZC) : zrange2 a b sl M = (a sl M).bind fun d M1 => (b sl M1).bind fun e M2 => match d, e with
  | .p (.int i), .p (.int j) => rgo2 i j M2
  | _, _ => .stuck := by rw [rgo2_eq]; rfl
@[simp] theorem zrg1_e (a : ZC) : zrg1 a sl M = (a sl M).bind fun d M1 => match d with
  | .p (.int n) => .ok ((0 : Int), n) M1
  | _ => .stuck := id rfl
@[simp] theorem zrg2_e (a b : ZC) : zrg2 a b sl M = (a sl M).bind fun d M1 => (b sl M1).bind fun e M2 => match d, e with
  | .p (.int i), .p (.int j) => .ok (i, j) M2
  | _, _ => .stuck := id rfl
@[simp] theorem ztrg_e (c : ZCr) : ztrg c sl M = (c sl M).bind fun p M1 => if rgIn p.1 p.2 = true then .ok (.p (.tuple (rgP p.1 p.2))) M1 else .stuck := id rfl
@[simp] theorem zmt_e (ok : Store → D → Bool) (g : D → List D → Store → Out D) (co : ZC) (cs : ZCs) : zmt ok g co cs sl M = (co sl M).bind fun x M1 => if ok M1 x then (cs sl M1).bind fun ds M2 => g x ds M2 else .stuck := id rfl
@[simp] theorem zm0_e (ok : Store → D → Bool) (g : D → List D → Store → Out D) (co : ZC) : zm0 ok g co sl M = (co sl M).bind fun x M1 => if ok M1 x then g x [] M1 else .stuck := id rfl
@[simp] theorem zstar_e (a : ZC) (r : ZCs) : zstar a r sl M = (a sl M).bind fun x M1 => match x with
  | .p (.tuple xs) => (r sl M1).bind fun ys M2 => .ok (xs.map .p ++ ys) M2
  | x => match lstv M1 x with
    | some xs => (r sl M1).bind fun ys M2 => .ok (xs ++ ys) M2
    | none => .stuck := id rfl
@[simp] theorem zcomp_e (fin : List D → Store → Out D) (vs : List Nat) (ci : ZCs) (f : Tg) (t : ZCb) (e : ZC) : zcomp fin vs ci f t e sl M = (ci sl M).bind fun ds M1 => (compP f t e (wipeS sl vs) ds M1).bind fin := id rfl
@[simp] theorem ztyes_e : ztyes sl M = .ok true M := id rfl
/-- a local name -/
@[simp] theorem zv_0 (d : D) (r : Sl) : zv 0 (some d :: r) M = .ok d M := id rfl
@[simp] theorem zv_S (i : Nat) (o : Option D) (r : Sl) : zv (i + 1) (o :: r) M = zv i r M := id rfl
/-! statements -/
@[simp] theorem sseq_e (a b : SC) : sseq a b sl M = (a sl M).seq b := id rfl
@[simp] theorem sskip_e : sskip sl M = .nx sl M := id rfl
@[simp] theorem sset_e (i : Nat) (c : ZC) : sset i c sl M = (c sl M).thn fun d M1 => .nx (sl.set i (some d)) M1 := id rfl
@[simp] theorem sret_e (c : ZC) : sret c sl M = (c sl M).thn fun d M1 => .rt d M1 := id rfl
@[simp] theorem sretN_e : sretN sl M = .rt (.p .none) M := id rfl
@[simp] theorem sexpr_e (c : ZC) : sexpr c sl M = (c sl M).thn fun _ M1 => .nx sl M1 := id rfl
@[simp] theorem sif_e (t : ZCb) (a b : SC) : sif t a b sl M = (t sl M).thn fun k M1 => if k = true then a sl M1 else b sl M1 := id rfl
@[simp] theorem stg_e (f : Tg) (c : ZC) : stg f c sl M = (c sl M).thn fun d M1 => match f d sl with
  | some sl1 => .nx sl1 M1
  | none => .stuck := id rfl
@[simp] theorem spar_e (is : List Nat) (c : ZCs) : spar is c sl M = (c sl M).thn fun ds M1 => match setAll is ds sl with
  | some sl1 => .nx sl1 M1
  | none => .stuck := id rfl
@[simp] theorem sfor_e (f : Tg) (ci : ZCs) (body : SC) : sfor f ci body sl M = (ci sl M).thn fun ds M1 => forP f body ds sl M1 := id rfl
@[simp] theorem setAll_nil : setAll [] [] sl = some sl := id rfl
@[simp] theorem setAll_cons (i : Nat) (is : List Nat) (d : D) (ds : List D) : setAll (i :: is) (d :: ds) sl = setAll is ds (sl.set i (some d)) := id rfl
@[simp] theorem sstore_e (f : D → D → D → Store → Option Store) (cv co ci : ZC) : sstore f cv co ci sl M = (cv sl M).thn fun v M1 => (co sl M1).thn fun o M2 => (ci sl M2).thn fun i M3 => match f o i v M3 with
  | some M4 => .nx sl M4
  | none => .stuck := by
  unfold sstore
  cases cv sl M with
  | stuck => rfl
  | exc x M1 => rfl
  | ok v M1 =>
    simp only [Out.thn_ok]
    cases co sl M1 with
    | stuck => rfl
    | exc x M1 => rfl
    | ok o M2 =>
      simp only [Out.thn_ok]
      cases ci sl M2 with
      | stuck => rfl
      | exc x M1 => rfl
      | ok i M3 => rfl
@[simp] theorem tgN_e (i : Nat) (d : D) : tgN i d sl = some (sl.set i (some d)) := id rfl
@[simp] theorem tgT_e (f : List P → Sl → Option Sl) (xs : List P) : tgT f (.p (.tuple xs)) sl = f xs sl := id rfl
@[simp] theorem tgsNil_e : tgsNil [] sl = some sl := id rfl
@[simp] theorem tgsCons_e (f : Tg) (r : List P → Sl → Option Sl) (x : P) (xs : List P) : tgsCons f r (x :: xs) sl = match f (.p x) sl with
  | some sl1 => r xs sl1
  | none => none := id rfl
/-! operators -/
@[simp] theorem zAdd_i (i j : Int) : zAdd (.p (.int i)) (.p (.int j)) M = .ok (.p (.int (i + j))) M := id rfl
@[simp] theorem zSub_i (i j : Int) : zSub (.p (.int i)) (.p (.int j)) M = .ok (.p (.int (i - j))) M := id rfl
@[simp] theorem zNeg_i (i : Int) : zNeg (.p (.int i)) M = .ok (.p (.int (-i))) M := id rfl
@[simp] theorem zMul_i (i j : Int) : zMul (.p (.int i)) (.p (.int j)) M = if CMul i j then .ok (.p (.int (i * j))) M else .stuck := id rfl
@[simp] theorem zMod_i (i j : Int) : zMod (.p (.int i)) (.p (.int j)) M = if 0 < j then .ok (.p (.int (i % j))) M else .stuck := id rfl
@[simp] theorem zDiv_i (i j : Int) : zDiv (.p (.int i)) (.p (.int j)) M = if 0 < j ∧ j < 1073741824 then .ok (.p (.int (i / j))) M else .stuck := id rfl
@[simp] theorem zcmpI_i (f : Int → Int → Bool) (i j : Int) : zcmpI f (.p (.int i)) (.p (.int j)) M = .ok (.p (.bool (f i j))) M := id rfl
@[simp] theorem zInt_i (i : Int) : zInt [.p (.int i)] M = .ok (.p (.int i)) M := id rfl
@[simp] theorem zInt_b (i : Bool) : zInt [.p (.bool i)] M = .ok (.p (.int (if i then 1 else 0))) M := id rfl
@[simp] theorem zMax_2 (i j : Int) : zMax [.p (.int i), .p (.int j)] M = .ok (.p (.int (max i j))) M := id rfl
@[simp] theorem zMin_2 (i j : Int) : zMin [.p (.int i), .p (.int j)] M = .ok (.p (.int (min i j))) M := id rfl
@[simp] theorem zLen_t (xs : List P) : zLen [.p (.tuple xs)] M = .ok (.p (.int xs.length)) M := id rfl
@[simp] theorem zLen_l (xs : List P) : zLen [.p (.list xs)] M = .ok (.p (.int (xs.map D.p).length)) M := id rfl
@[simp] theorem mkTup_p (xs : List P) : mkTup (xs.map .p) M = if xs.length ≤ sizeLine then .ok (.p (.tuple xs)) M else .stuck := by simp [mkTup]
@[simp] theorem snap_ptup (n : Nat) (x : P) : snap n M (.p x) = some x := snap_p n M x
@[simp] theorem zEq_int (i j : Int) : zEq (.p (.int i)) (.p (.int j)) M = .ok (.p (.bool (decide (i = j)))) M := by simp [zEq, peq]
@[simp] theorem zEq_str (i j : Str) : zEq (.p (.str i)) (.p (.str j)) M = .ok (.p (.bool (decide (i = j)))) M := by simp [zEq, peq]
@[simp] theorem zNe_int (i j : Int) : zNe (.p (.int i)) (.p (.int j)) M = .ok (.p (.bool (!decide (i = j)))) M := by simp [zNe, peq]
@[simp] theorem zNe_str (i j : Str) : zNe (.p (.str i)) (.p (.str j)) M = .ok (.p (.bool (!decide (i = j)))) M := by simp [zNe, peq]
@[simp] theorem zTuple_t (xs : List P) : zTuple [.p (.tuple xs)] M = .ok (.p (.tuple xs)) M := id rfl
@[simp] theorem zTuple_l (xs : List P) : zTuple [.p (.list xs)] M = .ok (.p (.tuple xs)) M := by simp [zTuple]
end
/-! subscripts, slices -/
theorem atI_nat' {α : Type} (xs : List α) (j : Nat) : atI xs (j : Int) = xs[j]? := by
  unfold atI ixN
  rw [if_pos (by omega)]
  by_cases h : j < xs.length
  · rw [if_pos (by omega)]
    simp
  · rw [if_neg (by omega), List.getElem?_eq_none (by omega)]
    rfl
theorem zIx_no {a b : D} {M : Store} (h : dictv M a = none) : zIx a b M = zIxL a b M := by
  unfold zIx
  rw [h]
theorem zIx_t {xs : List P} {j : Nat} {x : P} (M : Store) (h : xs[j]? = some x) : zIx (.p (.tuple xs)) (.p (.int (j : Int))) M = .ok (.p x) M := by
  rw [zIx_no (by rfl)]
  unfold zIxL
  simp only [atI_nat', h]
theorem zIx_l {xs : List P} {j : Nat} {x : P} (M : Store) (h : xs[j]? = some x) : zIx (.p (.list xs)) (.p (.int (j : Int))) M = .ok (.p x) M := by
  rw [zIx_no (by rfl)]
  unfold zIxL
  simp only [lstv_p, atI_nat', List.getElem?_map, h, Option.map_some]
@[simp] theorem zIx_t0 (x : P) (xs : List P) (M : Store) : zIx (.p (.tuple (x :: xs))) (.p (.int 0)) M = .ok (.p x) M := zIx_t (j := 0) M rfl
@[simp] theorem zIx_t1 (y x : P) (xs : List P) (M : Store) : zIx (.p (.tuple (y :: x :: xs))) (.p (.int 1)) M = .ok (.p x) M := zIx_t (j := 1) M rfl
@[simp] theorem zIx_t2 (z y x : P) (xs : List P) (M : Store) : zIx (.p (.tuple (z :: y :: x :: xs))) (.p (.int 2)) M = .ok (.p x) M := zIx_t (j := 2) M rfl
@[simp] theorem zIx_t3 (u z y x : P) (xs : List P) (M : Store) : zIx (.p (.tuple (u :: z :: y :: x :: xs))) (.p (.int 3)) M = .ok (.p x) M := zIx_t (j := 3) M rfl
/-- a subscript of a list of the store -/
theorem zIx_r {M : Store} {i j : Nat} {ds : List D} {d : D} (h : lstAt M i = some ds) (e : ds[j]? = some d) : zIx (.ref i) (.p (.int (j : Int))) M = .ok d M := by
  have l : lstv M (.ref i) = some ds := by
    unfold lstAt at h
    unfold lstv
    simp only
    split at h
    · cases h; simp [*]
    · cases h
  have l2 : dictv M (.ref i) = none := by
    unfold lstAt at h
    unfold dictv
    simp only
    split at h
    · simp [*]
    · cases h
  rw [zIx_no l2]
  unfold zIxL
  simp only [l, atI_nat', e]
theorem lstv_of {M : Store} {i : Nat} {ds : List D} (h : lstAt M i = some ds) : lstv M (.ref i) = some ds := by
  unfold lstAt at h
  unfold lstv
  simp only
  split at h
  · cases h; simp [*]
  · cases h
/-! loops -/
/-- a loop that goes to its end, by an invariant over what is done -/
theorem forP_inv {f : Tg} {body : SC} (I : List D → Sl → Store → Prop) : ∀ (post pre : List D) {sl : Sl} {M : Store}, I pre sl M →
    (∀ a d b sl M, pre ++ post = a ++ d :: b → I a sl M → ∃ sl1 sl2 M2, f d sl = some sl1 ∧ body sl1 M = .nx sl2 M2 ∧ I (a ++ [d]) sl2 M2) →
    ∃ sl' M', forP f body post sl M = .nx sl' M' ∧ I (pre ++ post) sl' M'
  | [], pre, sl, M, h, _ => ⟨sl, M, rfl, by rw [List.append_nil]; exact h⟩
  | d :: post, pre, sl, M, h, st => by
    obtain ⟨sl1, sl2, M2, e1, e2, h2⟩ := st pre d post sl M rfl h
    obtain ⟨sl', M', e3, h3⟩ := forP_inv I post (pre ++ [d]) h2 (fun a d' b sl M e => st a d' b sl M (by rw [← e]; simp))
    refine ⟨sl', M', ?_, by simpa using h3⟩
    unfold forP
    simp only [e1, e2, OutS.seq_nx, e3]
/-- the same where what is walked is a mapped list -/
theorem forP_map {α : Type} {f : Tg} {body : SC} (g : α → D) (xs : List α) (I : List α → Sl → Store → Prop) {sl : Sl} {M : Store} (h0 : I [] sl M)
    (st : ∀ a x b sl M, xs = a ++ x :: b → I a sl M → ∃ sl1 sl2 M2, f (g x) sl = some sl1 ∧ body sl1 M = .nx sl2 M2 ∧ I (a ++ [x]) sl2 M2) :
    ∃ sl' M', forP f body (xs.map g) sl M = .nx sl' M' ∧ I xs sl' M' := by
  have go : ∀ (post pre : List α) {sl : Sl} {M : Store}, xs = pre ++ post → I pre sl M → ∃ sl' M', forP f body (post.map g) sl M = .nx sl' M' ∧ I xs sl' M' := by
    intro post
    induction post with
    | nil => intro pre sl M e h; exact ⟨sl, M, rfl, by rw [e, List.append_nil]; exact h⟩
    | cons x post ih =>
      intro pre sl M e h
      obtain ⟨sl1, sl2, M2, e1, e2, h2⟩ := st pre x post sl M e h
      obtain ⟨sl', M', e3, h3⟩ := ih (pre ++ [x]) (by rw [e]; simp) h2
      refine ⟨sl', M', ?_, h3⟩
      rw [List.map_cons]
      unfold forP
      simp only [e1, e2, OutS.seq_nx, e3]
  exact go xs [] rfl h0
/-- a comprehension whose parts change nothing -/
theorem compP_map {α : Type} {f : Tg} {t : ZCb} {e : ZC} {sl : Sl} {M : Store} (g : α → D) (p : α → Bool) (r : α → D) : ∀ (xs : List α),
    (∀ x ∈ xs, ∃ sl1, f (g x) sl = some sl1 ∧ t sl1 M = .ok (p x) M ∧ (p x = true → e sl1 M = .ok (r x) M)) → compP f t e sl (xs.map g) M = .ok ((xs.filter p).map r) M
  | [], _ => rfl
  | x :: xs, h => by
    obtain ⟨sl1, e1, e2, e3⟩ := h x List.mem_cons_self
    have ih := compP_map g p r xs fun y hy => h y (List.mem_cons_of_mem _ hy)
    rw [List.map_cons]
    unfold compP
    simp only [e1, e2, noexc, Out.bind_ok]
    cases hp : p x with
    | true =>
      simp only [if_true, e3 hp, noexc, Out.bind_ok, ih]
      rw [List.filter_cons_of_pos hp, List.map_cons]
    | false =>
      simp only [Bool.false_eq_true, if_false, ih]
      rw [List.filter_cons_of_neg (by simp [hp])]
theorem enumFrom_map {α : Type} (enc : α → P) (xs : List α) : enumFrom 0 (xs.map enc) = xs.zipIdx.map fun p => .p (.tuple [.int (p.2 : Nat), enc p.1]) := by
  have go : ∀ (xs : List α) (k : Nat), enumFrom k (xs.map enc) = (xs.zipIdx k).map fun p => .p (.tuple [.int (p.2 : Nat), enc p.1]) := by
    intro xs
    induction xs with
    | nil => intro k; rfl
    | cons x xs ih => intro k; rw [List.map_cons, enumFrom, List.zipIdx_cons, List.map_cons, ih (k + 1)]
  exact go xs 0
end Z

/-! Skeletons as Lean lists. -/
namespace Z
open PySem PySem.Spec PyProof.Rows L2
theorem fn_rt {n : Nat} {c : SC} {ds : List D} {M M' : Store} {x : P} (h : c (ds.map some ++ List.replicate (n - ds.length) none) M = .rt (.p x) M') : fnB n c ds M = .ok (.p x) (M'.take M.length) := by
  unfold fnB runB
  rw [h]
  rfl
theorem fn_rtN {n : Nat} {c : SC} {ds : List D} {M R : Store} {x : P} (h : c (ds.map some ++ List.replicate (n - ds.length) none) M = .rt (.p x) (M ++ R)) : fnB n c ds M = .ok (.p x) M := by
  rw [fn_rt h, List.take_left]
theorem fn_rt0 {n : Nat} {c : SC} {ds : List D} {M : Store} {x : P} (h : c (ds.map some ++ List.replicate (n - ds.length) none) M = .rt (.p x) M) : fnB n c ds M = .ok (.p x) M := by
  rw [fn_rt h, List.take_length]
inductive Itm where
  | lab
  | fil (s : Int)
  | jmp (g : Nat) (s l : Int)
deriving DecidableEq
def Itm.enc : Itm → P
  | .lab => .tuple [.str "label"]
  | .fil s => .tuple [.str "fill", .int s]
  | .jmp g s l => .tuple [.str "jump", .int (g : Int), .int s, .int l]
def Itm.isJ : Itm → Bool
  | .jmp _ _ _ => true
  | _ => false
def Itm.isF : Itm → Bool
  | .fil _ => true
  | _ => false
def Itm.isL : Itm → Bool
  | .lab => true
  | _ => false
def Itm.tag : Itm → Str
  | .lab => "label"
  | .fil _ => "fill"
  | .jmp _ _ _ => "jump"
def sk (xs : List Itm) : P := .tuple (xs.map Itm.enc)
def pints (ns : List Int) : List P := ns.map .int
def pnats (ns : List Nat) : List P := ns.map fun n : Nat => .int (n : Int)
@[simp] theorem tag_J (x : Itm) : decide (x.tag = ("jump" : Str)) = x.isJ := by cases x <;> rfl
@[simp] theorem tag_F (x : Itm) : decide (x.tag = ("fill" : Str)) = x.isF := by cases x <;> rfl
@[simp] theorem tag_L (x : Itm) : decide (x.tag = ("label" : Str)) = x.isL := by cases x <;> rfl
@[simp] theorem ix_tag (x : Itm) (M : Store) : zIx (.p x.enc) (.p (.int 0)) M = .ok (.p (.str x.tag)) M := by cases x <;> rfl
/-- an item of the skeleton -/
theorem ix_sk {xs : List Itm} {j : Nat} {x : Itm} (M : Store) (h : xs[j]? = some x) : zIx (.p (sk xs)) (.p (.int (j : Int))) M = .ok (.p x.enc) M := zIx_t M (by rw [List.getElem?_map, h]; rfl)
/-- the places at which p holds -/
def places (p : Itm → Bool) (xs : List Itm) : List Nat := (xs.zipIdx.filter fun q => p q.1).map Prod.snd
theorem mem_places {p : Itm → Bool} {xs : List Itm} {j : Nat} : j ∈ places p xs ↔ ∃ x, xs[j]? = some x ∧ p x = true := by
  unfold places
  simp only [List.mem_map, List.mem_filter]
  constructor
  · rintro ⟨⟨x, i⟩, ⟨h, hp⟩, rfl⟩
    exact ⟨x, by simpa using List.mem_zipIdx_iff_getElem?.mp h, hp⟩
  · rintro ⟨x, h, hp⟩
    exact ⟨(x, j), ⟨List.mem_zipIdx_iff_getElem?.mpr h, hp⟩, rfl⟩

@[simp] theorem frzl_mapf {α : Type} (f : α → P) (xs : List α) (M : Store) : frzl (xs.map fun x => .p (f x)) M = if xs.length ≤ sizeLine then .ok (.p (.list (xs.map f))) M else .stuck := by
  have e : (xs.map fun x => D.p (f x)) = (xs.map f).map .p := by rw [List.map_map]; rfl
  rw [e, frzl_map, List.length_map]
@[simp] theorem intsOf_mapf {α : Type} (f : α → Int) (xs : List α) : intsOf (xs.map fun x => .p (.int (f x))) = some (xs.map f) := by
  have e : (xs.map fun x => D.p (.int (f x))) = (xs.map f).map fun i => .p (.int i) := by rw [List.map_map]; rfl
  rw [e, intsOf_map]
theorem zlen_places (p : Itm → Bool) (xs : List Itm) : (xs.zipIdx.filter fun q => p q.1).length ≤ xs.length := by
  have := List.length_filter_le (fun q : Itm × Nat => p q.1) xs.zipIdx
  rw [List.length_zipIdx] at this
  exact this
theorem small {n : Nat} (h : n ≤ 1000) : n ≤ 16777216 := by omega
/-- the skeleton's shape: goals and sizes are not out of the way -/
def Sane (xs : List Itm) : Prop := xs.length ≤ 1000 ∧ ∀ x ∈ xs, match x with
  | .jmp g _ _ => g ≤ xs.length
  | _ => True

/-! ### stores -/
@[simp] theorem pures_cons (x : P) (r : List D) : pures (.p x :: r) = (pures r).map (x :: ·) := id rfl
@[simp] theorem pures_mapf {α : Type} (f : α → P) (xs : List α) : pures (xs.map fun x => .p (f x)) = some (xs.map f) := by
  have e : (xs.map fun x => D.p (f x)) = (xs.map f).map .p := by rw [List.map_map]; rfl
  rw [e, pures_map]
@[simp] theorem pures_comp {α : Type} (f : α → P) (xs : List α) : pures (xs.map (D.p ∘ f)) = some (xs.map f) := pures_mapf f xs
@[simp] theorem intsOf_cons (i : Int) (r : List D) : intsOf (.p (.int i) :: r) = (intsOf r).map (i :: ·) := id rfl
@[simp] theorem intsOf_comp (xs : List Int) : intsOf (xs.map (D.p ∘ PyData.int)) = some xs := by
  have := intsOf_mapf (fun x : Int => x) xs
  simpa [Function.comp_def] using this
@[simp] theorem intsOf_ints (xs : List Int) : intsOf ((pints xs).map .p) = some xs := by rw [pints, List.map_map]; exact intsOf_comp xs
@[simp] theorem intsOf_nil : intsOf [] = some [] := id rfl
@[simp] theorem lstAt_app0 (M R : Store) : lstAt (M ++ R) M.length = lstAt R 0 := by unfold lstAt; rw [List.getElem?_append_right (Nat.le_refl _), Nat.sub_self]
@[simp] theorem lstAt_appk (M R : Store) (k : Nat) : lstAt (M ++ R) (M.length + k) = lstAt R k := by unfold lstAt; rw [List.getElem?_append_right (by omega), Nat.add_sub_cancel_left]
@[simp] theorem set_app0 (M R : Store) (o : Ob) : (M ++ R).set M.length o = M ++ R.set 0 o := by rw [List.set_append_right _ _ (Nat.le_refl _), Nat.sub_self]
@[simp] theorem set_appk (M R : Store) (k : Nat) (o : Ob) : (M ++ R).set (M.length + k) o = M ++ R.set k o := by rw [List.set_append_right _ _ (by omega), Nat.add_sub_cancel_left]
@[simp] theorem lstAt_c0 (ds : List D) (R : Store) : lstAt (.lst ds :: R) 0 = some ds := id rfl
@[simp] theorem lstAt_cS (o : Ob) (R : Store) (k : Nat) : lstAt (o :: R) (k + 1) = lstAt R k := id rfl
theorem lstv_ref {M : Store} {i : Nat} : lstv M (.ref i) = match M[i]? with
  | some (.lst ds) => some ds
  | some (.frz xs) => some (xs.map .p)
  | _ => none := rfl
@[simp] theorem lstv_app0 (M R : Store) : lstv (M ++ R) (.ref M.length) = lstv R (.ref 0) := by simp only [lstv_ref, List.getElem?_append_right (Nat.le_refl _), Nat.sub_self]
@[simp] theorem lstv_appk (M R : Store) (k : Nat) : lstv (M ++ R) (.ref (M.length + k)) = lstv R (.ref k) := by
  simp only [lstv_ref]; rw [List.getElem?_append_right (by omega), Nat.add_sub_cancel_left]
@[simp] theorem lstv_c0 (ds : List D) (R : Store) : lstv (.lst ds :: R) (.ref 0) = some ds := id rfl
@[simp] theorem lstv_f0 (ds : List P) (R : Store) : lstv (.frz ds :: R) (.ref 0) = some (ds.map .p) := id rfl
@[simp] theorem lstv_cS (o : Ob) (R : Store) (k : Nat) : lstv (o :: R) (.ref (k + 1)) = lstv R (.ref k) := id rfl
theorem zfreeze_r {M M' : Store} {i : Nat} {xs : List P} (h : lstAt M i = some (xs.map .p)) : zfreeze (.ref i) M = .ok (.p (.list xs)) (M.set i (.frz xs)) := by
  unfold lstAt at h
  unfold zfreeze
  simp only
  split at h
  · rename_i q
    cases h
    simp only [q, pures_map]
  · cases h
@[simp] theorem zfreeze_app0 (M R : Store) (xs : List P) : zfreeze (.ref M.length) (M ++ .lst (xs.map .p) :: R) = .ok (.p (.list xs)) (M ++ .frz xs :: R) := by
  rw [zfreeze_r (M' := M) (xs := xs) (by simp)]
  simp
@[simp] theorem isL_ref (M : Store) (d : D) : isL M d = (lstv M d).isSome := id rfl
@[simp] theorem zAppend_e (i : Nat) (y : P) (M : Store) : zAppend (.ref i) [.p y] M = match lstAt M i with
  | some xs => if xs.length < sizeLine then .ok (.p .none) (M.set i (.lst (xs ++ [.p y]))) else .stuck
  | none => .stuck := by
  unfold zAppend
  simp only
  cases lstAt M i with
  | none => rfl
  | some xs => simp [D.low]
theorem all_low (i : Nat) (xs : List P) : (xs.map D.p).all (D.low i) = true := by simp [List.all_eq_true, D.low]
@[simp] theorem zExtend_e (i : Nat) (ys : List P) (M : Store) : zExtend (.ref i) [.p (.list ys)] M = match lstAt M i with
  | some xs => if xs.length + ys.length ≤ sizeLine then .ok (.p .none) (M.set i (.lst (xs ++ ys.map .p))) else .stuck
  | none => .stuck := by
  unfold zExtend
  simp only [lstv_p]
  cases lstAt M i with
  | none => rfl
  | some xs => simp only [all_low, List.length_map, true_and]
@[simp] theorem mkLst_e (ds : List D) (M : Store) : mkLst ds M = if ds.length ≤ sizeLine then .ok (.ref M.length) (M ++ [.lst ds]) else .stuck := id rfl
/-! ### slices -/
theorem cutG_nn {α : Type} (l : List α) (a b : Nat) : cutG l (some (a : Int)) (some (b : Int)) = (l.take b).drop a := by
  unfold cutG
  rw [HT.sIx_nat, HT.sIx_nat, List.drop_take]
  by_cases h : a ≤ l.length
  · rw [Nat.min_eq_left h]
    by_cases h2 : b ≤ l.length
    · rw [Nat.min_eq_left h2]
    · rw [Nat.min_eq_right (by omega), List.take_of_length_le (by rw [List.length_drop]; omega), List.take_of_length_le (by rw [List.length_drop]; omega)]
  · rw [List.drop_eq_nil_of_le (show l.length ≤ a by omega), List.take_nil, show min a l.length = l.length by omega, List.drop_length, List.take_nil]
theorem cutG_n_ {α : Type} (l : List α) (a : Nat) : cutG l (some (a : Int)) none = l.drop a := by
  unfold cutG
  rw [HT.sIx_nat, HT.sIx_none]
  by_cases h : a ≤ l.length
  · rw [Nat.min_eq_left h, List.take_of_length_le (by rw [List.length_drop]; omega)]
  · rw [Nat.min_eq_right (by omega), List.drop_eq_nil_of_le (Nat.le_refl _), List.drop_eq_nil_of_le (by omega), List.take_nil]
theorem cutG__n {α : Type} (l : List α) (b : Nat) : cutG l none (some (b : Int)) = l.take b := by
  unfold cutG
  rw [HT.sIx_none, HT.sIx_nat, List.drop_zero, Nat.sub_zero]
  exact List.take_eq_take_min.symm
theorem cutG_map {α β : Type} (f : α → β) (l : List α) (a b : Option Int) : cutG (l.map f) a b = (cutG l a b).map f := by
  unfold cutG
  simp [List.map_take, List.map_drop]
@[simp] theorem zSl_t (xs : List P) (a b : Option Int) (M : Store) : zSl (.p (.tuple xs)) a b M = .ok (.p (.tuple (cutG xs a b))) M := id rfl
/-! ### fills -/
def Itm.sz : Itm → Int
  | .fil s => s
  | _ => 0
def fillsOf (l : List Itm) : List Int := (l.filter Itm.isF).map Itm.sz
theorem ix_sz {x : Itm} (M : Store) (h : x.isF = true) : zIx (.p x.enc) (.p (.int 1)) M = .ok (.p (.int x.sz)) M := by
  cases x with
  | fil s => rfl
  | _ => cases h
theorem len_fills (l : List Itm) : (fillsOf l).length ≤ l.length := by unfold fillsOf; rw [List.length_map]; exact List.length_filter_le _ _

@[simp] theorem zfc_e (n : Nat) (F : Fn) (ds : List D) (M : Store) : zfc n F ds M = if ds.length = n then F ds M else .stuck := id rfl
/-- an outcome as wanted -/
def Sat {α : Type} (Q : α → Prop) (o : α) : Prop := Q o
theorem Sat.mk {α : Type} {Q : α → Prop} {o : α} (h : Q o) : Sat Q o := h
/-- a loop, then what follows -/
theorem forP_seq {α : Type} {f : Tg} {body : SC} {Q : OutS → Prop} {k : SC} {sl : Sl} {M : Store} (g : α → D) (xs : List α) (I : List α → Sl → Store → Prop) (h0 : I [] sl M)
    (st : ∀ a x b sl M, xs = a ++ x :: b → I a sl M → ∃ sl1, f (g x) sl = some sl1 ∧ Sat (fun o => ∃ sl2 M2, o = .nx sl2 M2 ∧ I (a ++ [x]) sl2 M2) (body sl1 M))
    (fin : ∀ sl M, I xs sl M → Sat Q (k sl M)) : Sat Q ((forP f body (xs.map g) sl M).seq k) := by
  obtain ⟨sl', M', e, h⟩ := forP_map g xs I h0 fun a x b sl M e i => by
    obtain ⟨sl1, e1, sl2, M2, e2, i2⟩ := st a x b sl M e i
    exact ⟨sl1, sl2, M2, e1, e2, i2⟩
  rw [e]
  exact fin sl' M' h
/-- a loop that is the block's last -/
theorem forP_last {α : Type} {f : Tg} {body : SC} {Q : OutS → Prop} {sl : Sl} {M : Store} (g : α → D) (xs : List α) (I : List α → Sl → Store → Prop) (h0 : I [] sl M)
    (st : ∀ a x b sl M, xs = a ++ x :: b → I a sl M → ∃ sl1, f (g x) sl = some sl1 ∧ Sat (fun o => ∃ sl2 M2, o = .nx sl2 M2 ∧ I (a ++ [x]) sl2 M2) (body sl1 M))
    (fin : ∀ sl M, I xs sl M → Sat Q (.nx sl M)) : Sat Q (forP f body (xs.map g) sl M) := by
  obtain ⟨sl', M', e, h⟩ := forP_map g xs I h0 fun a x b sl M e i => by
    obtain ⟨sl1, e1, sl2, M2, e2, i2⟩ := st a x b sl M e i
    exact ⟨sl1, sl2, M2, e1, e2, i2⟩
  rw [e]
  exact fin sl' M' h
theorem fn_satN {n : Nat} {c : SC} {ds : List D} {M : Store} {x : P} (h : Sat (fun o => ∃ R, o = .rt (.p x) (M ++ R)) (c (ds.map some ++ List.replicate (n - ds.length) none) M)) : fnB n c ds M = .ok (.p x) M := by
  obtain ⟨R, h⟩ := h
  exact fn_rtN h
theorem dp_pnats (ns : List Nat) : (pnats ns).map D.p = ns.map fun n : Nat => D.p (.int (n : Int)) := by rw [pnats, List.map_map]; rfl
theorem dp_pints (ns : List Int) : (pints ns).map D.p = ns.map fun n : Int => D.p (.int n) := by rw [pints, List.map_map]; rfl
theorem dp_enc (xs : List Itm) : (xs.map Itm.enc).map D.p = xs.map fun x => D.p x.enc := by rw [List.map_map]; rfl
@[simp] theorem pints_app (a b : List Int) : pints a ++ pints b = pints (a ++ b) := by simp [pints]
@[simp] theorem pints_len (a : List Int) : (pints a).length = a.length := by simp [pints]
@[simp] theorem pnats_len (a : List Nat) : (pnats a).length = a.length := by simp [pnats]
theorem dp_snoc (a : List Int) (i : Int) : (pints a).map D.p ++ [D.p (.int i)] = (pints (a ++ [i])).map D.p := by simp [pints]

/-! ### comparing -/
theorem can_map {α : Type} (f : α → P) (h : ∀ x, (f x).canLay0 = true) : ∀ xs : List α, PyData.canLayAll0 (xs.map f) = true
  | [] => rfl
  | x :: xs => by rw [List.map_cons, PyData.canLayAll0, h x, can_map f h xs]; rfl
theorem dep_map {α : Type} (f : α → P) (n : Nat) (h : ∀ x, (f x).depth ≤ n) : ∀ xs : List α, PyData.depthAll (xs.map f) ≤ n
  | [] => Nat.zero_le _
  | x :: xs => by rw [List.map_cons, PyData.depthAll]; exact Nat.max_le.mpr ⟨h x, dep_map f n h xs⟩
theorem sh_tup {α : Type} (f : α → P) (n : Nat) (hn : n ≤ 60) (h : ∀ x, (f x).canLay0 = true ∧ (f x).depth ≤ n) (xs : List α) : SeqAt.shaped (.tuple (xs.map f)) = true ∧ SeqAt.shaped (.list (xs.map f)) = true := by
  have h1 := can_map f (fun x => (h x).1) xs
  have h2 := dep_map f n (fun x => (h x).2) xs
  have h3 : PyData.depthAll (xs.map f) + 1 ≤ 64 := by omega
  have h4 : (PyData.canLayAll0 (xs.map f) && decide (PyData.depthAll (xs.map f) + 1 ≤ 64)) = true := by rw [h1, decide_eq_true h3]; rfl
  exact ⟨h4, h4⟩
theorem eqv_ints (xs ys : List Int) : PyData.eqvAll (pints xs) (pints ys) = decide (xs = ys) := PySem.W.eqvAll_map xs ys
theorem pnats_ints (ns : List Nat) : pnats ns = pints (ns.map fun n : Nat => (n : Int)) := by simp [pnats, pints]
theorem any_ints (ns : List Int) (i : Int) : ((pints ns).any fun z => PyData.eqv z (.int i)) = decide (i ∈ ns) := PySem.W.any_datum ns i
theorem any_strs (ns : List Str) (i : Str) : ((ns.map PyData.str).any fun z => PyData.eqv z (.str i)) = decide (i ∈ ns) := PySem.W.any_datum ns i
theorem sh_ints (ns : List Int) : SeqAt.shaped (.tuple (pints ns)) = true ∧ SeqAt.shaped (.list (pints ns)) = true := sh_tup _ 0 (by decide) (fun x => ⟨rfl, Nat.le_refl _⟩) ns
theorem zin_ti (neg : Bool) (i : Int) (ns : List Int) (M : Store) : zin neg (.p (.int i)) (.p (.tuple (pints ns))) M = .ok (.p (.bool (neg ^^ decide (i ∈ ns)))) M := by
  unfold zin zinL
  simp only [dictv_t, snap_p, sh_int, (sh_ints ns).1, and_self, if_true, any_ints]
theorem zin_li (neg : Bool) (i : Int) (ns : List Int) (M : Store) : zin neg (.p (.int i)) (.p (.list (pints ns))) M = .ok (.p (.bool (neg ^^ decide (i ∈ ns)))) M := by
  unfold zin zinL
  simp only [dictv_l, snap_p, sh_int, (sh_ints ns).2, and_self, if_true, any_ints]
@[simp] theorem zin_tn (neg : Bool) (i : Nat) (ns : List Nat) (M : Store) : zin neg (.p (.int (i : Int))) (.p (.tuple (pnats ns))) M = .ok (.p (.bool (neg ^^ decide (i ∈ ns)))) M := by
  rw [pnats_ints, zin_ti]
  congr 4
  simp only [List.mem_map, decide_eq_decide]
  exact ⟨fun ⟨a, h, e⟩ => by rw [← Int.ofNat.inj e]; exact h, fun h => ⟨i, h, rfl⟩⟩
theorem zEq_refl {x : P} (M : Store) (h : SeqAt.shaped x = true) : zEq (.p x) (.p x) M = .ok (.p (.bool true)) M := by
  unfold zEq
  simp only [snap_p]
  have e : peq x x = some true := by
    unfold peq
    split
    · simp
    · simp
    · rfl
    · rw [if_pos ⟨h, h⟩, SeqAt.eqv_refl x (SeqAt.canLay_of_shaped h)]
  rw [e]
theorem zNe_refl {x : P} (M : Store) (h : SeqAt.shaped x = true) : zNe (.p x) (.p x) M = .ok (.p (.bool false)) M := by
  unfold zNe
  simp only [snap_p]
  have e : peq x x = some true := by
    unfold peq
    split
    · simp
    · simp
    · rfl
    · rw [if_pos ⟨h, h⟩, SeqAt.eqv_refl x (SeqAt.canLay_of_shaped h)]
  rw [e]
  rfl
/-- xs != [] -/
theorem zNe_nil {ns : List Int} (M : Store) : zNe (.p (.list (pints ns))) (.p (.list [])) M = .ok (.p (.bool (!decide (ns = [])))) M := by
  unfold zNe
  simp only [snap_p]
  have e : peq (.list (pints ns)) (.list []) = some (decide (ns = [])) := by
    show (if _ then _ else _) = _
    rw [if_pos ⟨(sh_ints ns).2, (sh_ints []).2⟩, PyData.eqv, show ([] : List P) = pints [] from rfl, eqv_ints]
  rw [e]
theorem rgP_nat (a b : Nat) : rgP (a : Int) (b : Int) = pnats (List.range' a (b - a)) := by
  unfold rgP pnats
  rw [show ((b : Int) - a).toNat = b - a by omega, List.range'_eq_map_range, List.map_map]
  apply List.map_congr_left
  intro i _
  simp

theorem rgItems_nat (a b : Nat) : rgItems (a : Int) ((b : Int) - a).toNat = (List.range' a (b - a)).map fun p : Nat => D.p (.int (p : Int)) := by
  unfold rgItems
  rw [show ((b : Int) - a).toNat = b - a by omega, List.range'_eq_map_range, List.map_map]
  apply List.map_congr_left
  intro i _
  simp
theorem rgo2_nat {a b : Nat} (ha : a ≤ 100000) (hb : b ≤ 100000) (M : Store) : rgo2 (a : Int) (b : Int) M = .ok ((List.range' a (b - a)).map fun p : Nat => D.p (.int (p : Int))) M := by
  rw [rgo2_eq]
  simp only
  rw [if_pos ⟨by omega, by omega, by omega, by omega⟩, rgItems_nat]
theorem rgo1_nat {b : Nat} (hb : b ≤ 100000) (M : Store) : rgo1 (b : Int) M = .ok ((List.range b).map fun p : Nat => D.p (.int (p : Int))) M := by
  rw [rgo1_eq]
  simp only
  rw [if_pos ⟨by omega, by omega⟩]
  unfold rgItems
  congr 1
  rw [Int.toNat_natCast]
  apply List.map_congr_left
  intro i _
  simp
@[simp] theorem items_sk (xs : List Itm) (M : Store) : itemsOf (.p (sk xs)) M = .ok (xs.map fun x => .p x.enc) M := by unfold sk; rw [itemsOf_t, dp_enc]
@[simp] theorem enum_sk (xs : List Itm) (M : Store) : enumOf (.p (sk xs)) M = .ok (xs.zipIdx.map fun p => .p (.tuple [.int (p.2 : Nat), p.1.enc])) M := by unfold sk; rw [enumOf_t, enumFrom_map]
@[simp] theorem len_sk (xs : List Itm) (M : Store) : zLen [.p (sk xs)] M = .ok (.p (.int xs.length)) M := by unfold sk; rw [zLen_t, List.length_map]
@[simp] theorem sl_sk (xs : List Itm) (a b : Option Int) (M : Store) : zSl (.p (sk xs)) a b M = .ok (.p (sk (cutG xs a b))) M := by unfold sk; rw [zSl_t, cutG_map]
theorem optAll_p (n : Nat) (M : Store) : ∀ xs : List P, optAll (snap n M) (xs.map .p) = some xs
  | [] => rfl
  | x :: xs => by rw [List.map_cons, optAll, snap_p, optAll_p n M xs]
theorem snap_lst {M : Store} {i n : Nat} {xs : List P} (h : lstAt M i = some (xs.map .p)) : snap (n + 1) M (.ref i) = some (.list xs) := by
  unfold lstAt at h
  unfold snap
  split at h
  · rename_i q
    cases h
    simp only [q, optAll_p, Option.map_some]
  · cases h
theorem zNe_ref {M : Store} {i : Nat} {ns : List Int} (h : lstAt M i = some ((pints ns).map .p)) : zNe (.ref i) (.p (.list [])) M = .ok (.p (.bool (!decide (ns = [])))) M := by
  rw [← zNe_nil M]
  unfold zNe
  rw [snap_lst h]
  rfl
theorem zIx_r' {M : Store} {i j : Nat} {ds : List D} {d : D} (h : lstAt M i = some ds) (e : ds[j]? = some d) {k : Int} (hk : k = (j : Int)) : zIx (.ref i) (.p (.int k)) M = .ok d M := by rw [hk]; exact zIx_r h e
theorem zPop_r {M : Store} {i : Nat} {ds : List D} {d : D} (h : lstAt M i = some (ds ++ [d])) : zPop (.ref i) [] M = .ok d (M.set i (.lst ds)) := by
  unfold zPop
  simp only [h]
  simp
theorem zSetL_r {M : Store} {i j : Nat} {ds : List D} {v : P} (h : lstAt M i = some ds) (hj : j < ds.length) {k : Int} (hk : k = (j : Int)) : zSetL (.ref i) (.p (.int k)) (.p v) M = some (M.set i (.lst (ds.set j (.p v)))) := by
  unfold zSetL
  simp only [h, hk]
  rw [show ixN ds.length (j : Int) = some j by unfold ixN; rw [if_pos (by omega), if_pos (by omega)]; simp]
  simp [D.low]
@[simp] theorem sizeLine_val : sizeLine = 16777216 := id rfl
end Z

/-! Z: how long a shown value is. -/
namespace Z
open PySem PySem.Spec PyProof.Rows L2
structure Sh (n d : Nat) (x : P) : Prop where
  s : x.showable = true
  h : x.hasDict = false
  l : x.shown.length ≤ n
  d : x.depth ≤ d
theorem Sh.mono {n m d e : Nat} {x : P} (k : Sh n d x) (h : n ≤ m) (h' : d ≤ e) : Sh m e x := ⟨k.s, k.h, Nat.le_trans k.l h, Nat.le_trans k.d h'⟩
theorem tf_le {n : Nat} : ∀ (ts : List Str) (k : Nat) (acc : Str), (∀ t ∈ ts, t.length ≤ n) → (textFrom k acc ts).length ≤ acc.length + ts.length * (n + 2)
  | [], k, acc, _ => by simp [textFrom]
  | t :: ts, k, acc, h => by
    have ih := tf_le (n := n) ts (k + 1) (acc ++ (if k > 0 then ", " else "" : String) ++ t) fun u hu => h u (List.mem_cons_of_mem _ hu)
    have h1 := h t List.mem_cons_self
    have e : (acc ++ (if k > 0 then ", " else "" : String) ++ t).length = acc.length + (if k > 0 then 2 else 0) + t.length := by
      rw [strLen_append, strLen_append]
      split <;> rfl
    have e5 : (if k > 0 then 2 else 0) ≤ 2 := by split <;> omega
    have : (textFrom k acc (t :: ts)) = textFrom (k + 1) (acc ++ (if k > 0 then ", " else "" : String) ++ t) ts := rfl
    rw [this, List.length_cons, Nat.succ_mul]
    rw [e] at ih
    omega
theorem piled_le {n : Nat} : ∀ ts : List Str, (∀ t ∈ ts, t.length ≤ n) → piled ts ≤ ts.length * (n + 2)
  | [], _ => Nat.zero_le _
  | t :: ts, h => by
    have ih := piled_le (n := n) ts fun u hu => h u (List.mem_cons_of_mem _ hu)
    have h1 := h t List.mem_cons_self
    have : piled (t :: ts) = t.length + 2 + piled ts := by simp [piled]
    rw [this, List.length_cons, Nat.succ_mul]
    omega
theorem shownAll_map : ∀ xs : List P, PyData.shownAll xs = xs.map PyData.shown
  | [] => rfl
  | x :: xs => by rw [PyData.shownAll, shownAll_map xs]; rfl
theorem sh_all {n d : Nat} : ∀ {xs : List P}, (∀ x ∈ xs, Sh n d x) → PyData.showableAll xs = true ∧ PyData.hasDictAll xs = false ∧ (∀ t ∈ PyData.shownAll xs, t.length ≤ n) ∧ PyData.depthAll xs ≤ d
  | [], _ => ⟨rfl, rfl, fun t h => by rw [PyData.shownAll] at h; simp at h, Nat.zero_le _⟩
  | x :: xs, h => by
    obtain ⟨a, b, c, e⟩ := sh_all fun y hy => h y (List.mem_cons_of_mem _ hy)
    have k := h x List.mem_cons_self
    refine ⟨by rw [PyData.showableAll, k.s, a]; rfl, by rw [PyData.hasDictAll, k.h, b]; rfl, fun t ht => ?_, by rw [PyData.depthAll]; exact Nat.max_le.mpr ⟨k.d, e⟩⟩
    rw [PyData.shownAll] at ht
    rcases List.mem_cons.mp ht with rfl | ht
    · exact k.l
    · exact c t ht
theorem Sh.lst {n d : Nat} {xs : List P} (h : ∀ x ∈ xs, Sh n d x) : Sh (2 + xs.length * (n + 2)) (d + 1) (.list xs) := by
  obtain ⟨a, b, c, e⟩ := sh_all h
  refine ⟨by rw [PyData.showable]; exact a, by rw [PyData.hasDict]; exact b, ?_, by rw [PyData.depth]; omega⟩
  rw [PyData.shown]
  have := tf_le (n := n) (PyData.shownAll xs) 0 "[" c
  unfold listText
  rw [strLen_append]
  have e1 : ("[" : Str).length = 1 := rfl
  have e2 : ("]" : Str).length = 1 := rfl
  have e3 : (PyData.shownAll xs).length = xs.length := by rw [shownAll_map, List.length_map]
  rw [e3] at this
  omega
theorem Sh.tup {n d : Nat} {xs : List P} (h : ∀ x ∈ xs, Sh n d x) : Sh (3 + xs.length * (n + 2)) (d + 1) (.tuple xs) := by
  obtain ⟨a, b, c, e⟩ := sh_all h
  refine ⟨by rw [PyData.showable]; exact a, by rw [PyData.hasDict]; exact b, ?_, by rw [PyData.depth]; omega⟩
  rw [PyData.shown]
  have e3 : (PyData.shownAll xs).length = xs.length := by rw [shownAll_map, List.length_map]
  have e1 : ("(" : Str).length = 1 := rfl
  have e2 : ((if (PyData.shownAll xs).length == 1 then ",)" else ")" : String) : Str).length ≤ 2 := by split <;> decide
  unfold tupleText
  rw [strLen_append, strLen_append]
  have p := piled_le (n := n) _ c
  rw [e3] at p
  by_cases hn : PyData.shownAll xs = []
  · rw [hn] at e2 ⊢
    have : (Str.join ", " ([] : List Str)).length = 0 := rfl
    omega
  · have := join_length_add _ hn
    omega
theorem Sh.int {i : Int} (h : -(10 ^ 12) < i ∧ i < 10 ^ 12) : Sh 14 0 (.int i) := by
  have hn : i.natAbs < 10 ^ 12 := by omega
  refine ⟨?_, rfl, ?_, Nat.le_refl _⟩
  · rw [PyData.showable, decide_eq_true_eq]
    have : i.natAbs < 2 ^ 64 := by omega
    by_cases hz : i.natAbs = 0
    · rw [hz]; decide
    · have := (Nat.log2_lt hz).mpr this
      omega
  · rw [PyData.shown]
    have := int_text_length_le10 (a := i) (k := 12) (by decide) hn
    show (Str.ofString (toString i)).length ≤ 14
    rw [PySem.ofString_length]
    omega
theorem Sh.nat {i : Nat} (h : i < 10 ^ 12) : Sh 14 0 (.int (i : Int)) := Sh.int ⟨by omega, by omega⟩
theorem zShow_t {n d : Nat} {xs : List P} (h : Sh n d (.tuple xs)) (hn : n ≤ 16000000) (hd : d ≤ 50) (M : Store) : zShow [.p (.tuple xs)] M = .ok (.p (.str (PyData.tuple xs).shown)) M := by
  have a : (PyData.tuple xs).shown.length ≤ sizeLine := by have := h.l; rw [sizeLine_val]; omega
  have b : (PyData.tuple xs).depth ≤ 60 := by have := h.d; omega
  unfold zShow
  simp only [snap_p]
  rw [if_pos ⟨h.s, h.h, a, b⟩]
theorem zShow_l {n d : Nat} {xs : List P} (h : Sh n d (.list xs)) (hn : n ≤ 16000000) (hd : d ≤ 50) (M : Store) : zShow [.p (.list xs)] M = .ok (.p (.str (PyData.list xs).shown)) M := by
  have a : (PyData.list xs).shown.length ≤ sizeLine := by have := h.l; rw [sizeLine_val]; omega
  have b : (PyData.list xs).depth ≤ 60 := by have := h.d; omega
  unfold zShow
  simp only [snap_p]
  rw [if_pos ⟨h.s, h.h, a, b⟩]
/-- items of modest size -/
def Mod1 (x : Itm) : Prop := match x with
  | .lab => True
  | .fil s => -(10 ^ 12) < s ∧ s < 10 ^ 12
  | .jmp g s l => g < 10 ^ 12 ∧ -(10 ^ 12) < s ∧ s < 10 ^ 12 ∧ -(10 ^ 12) < l ∧ l < 10 ^ 12
theorem Sh.str4 : Sh 14 0 (.str "jump") ∧ Sh 14 0 (.str "fill") ∧ Sh 14 0 (.str "label") := ⟨⟨rfl, rfl, by decide +kernel, Nat.le_refl _⟩, ⟨rfl, rfl, by decide +kernel, Nat.le_refl _⟩, ⟨rfl, rfl, by decide +kernel, Nat.le_refl _⟩⟩
theorem Sh.itm {x : Itm} (h : Mod1 x) : Sh 67 1 x.enc := by
  cases x with
  | lab =>
    refine (Sh.tup (n := 14) (d := 0) fun y hy => ?_).mono (by decide) (Nat.le_refl _)
    rw [List.mem_singleton.mp hy]
    exact Sh.str4.2.2
  | fil s =>
    refine (Sh.tup (n := 14) (d := 0) fun y hy => ?_).mono (by simp) (Nat.le_refl _)
    simp at hy
    rcases hy with rfl | rfl
    · exact Sh.str4.2.1
    · exact Sh.int h
  | jmp g s l =>
    refine (Sh.tup (n := 14) (d := 0) fun y hy => ?_).mono (by simp) (Nat.le_refl _)
    simp at hy
    obtain ⟨h1, h2, h3, h4, h5⟩ := h
    rcases hy with rfl | rfl | rfl | rfl
    · exact Sh.str4.1
    · exact Sh.nat h1
    · exact Sh.int ⟨h2, h3⟩
    · exact Sh.int ⟨h4, h5⟩
theorem show_sk {xs : List Itm} (h : ∀ x ∈ xs, Mod1 x) (hl : xs.length ≤ 1000) (M : Store) : zShow [.p (sk xs)] M = .ok (.p (.str (sk xs).shown)) M := by
  refine zShow_t (n := 3 + 1000 * 69) (d := 2) ((Sh.tup (n := 67) (d := 1) fun y hy => ?_).mono (by rw [List.length_map]; omega) (Nat.le_refl _)) (by decide) (by decide) M
  obtain ⟨x, hx, rfl⟩ := List.mem_map.mp hy
  exact Sh.itm (h x hx)
theorem show_ints {ns : List Int} (h : ∀ i ∈ ns, -(10 ^ 12) < i ∧ i < 10 ^ 12) (hl : ns.length ≤ 1000) (M : Store) : zShow [.p (.tuple (pints ns))] M = .ok (.p (.str (PyData.tuple (pints ns)).shown)) M := by
  refine zShow_t (n := 3 + 1000 * 16) (d := 1) ((Sh.tup (n := 14) (d := 0) fun y hy => ?_).mono (by rw [pints_len]; omega) (Nat.le_refl _)) (by decide) (by decide) M
  obtain ⟨x, hx, rfl⟩ := List.mem_map.mp hy
  exact Sh.int (h x hx)
end Z

/-! Z: sorting tuples of which some are empty; sorting what a tuple holds. -/
namespace Z
open PySem PySem.Spec PyProof.Rows L2
section
open PySem.W PySem.SeqAt PySem.Calls
variable {prog : Program} {w : World} {A : Around} {s : Shared}
/-- tuple.__lt__ as sorting calls it -/
theorem tup_lt_call {E : Value → Shared → Prop} {Q : Value → Shared → Prop} {l b : Addr} {items items2 : Array Value} {e r : Nat → Bool} (hl : s.heap.IsTuple l items) (hb : s.heap.IsTuple b items2)
    (he : ∀ j (h1 : j < items.size) (h2 : j < items2.size), EqAt A.in1 s items[j] items2[j] (e j)) (hr : ∀ j (h1 : j < items.size) (h2 : j < items2.size), e j = false → RcLt A.in1 s items[j] items2[j] (r j))
    (h : Q (.bool (firstLt e r (decide (items.size < items2.size)) (List.range (min items.size items2.size)))) s) : wpAny (model prog w) A (call (.builtin "tuple.__lt__") [.ref l, .ref b]) Q E s := by
  obtain ⟨⟨k1, d1, t1, u1⟩, o1, c1, n1, e1⟩ := id hl
  obtain ⟨⟨k2, d2, t2, u2⟩, o2, c2, n2, e2⟩ := id hb
  simp only at c1 e1 c2 e2
  subst c1 e1 c2 e2
  exact call_meets F.slot_tuple_lt ⟨_, o1, rfl⟩ F.entry_tuple_lt (F.args_tuple_lt_2 _ _) (tuple_ltAt l b items items2 n1 n2 d1 d2 u1 u2 e r) ⟨o1, o2, he, hr, h⟩
theorem one_tup {E : Value → Shared → Prop} {xs ys : List P} {a b : Value} {as bs : List Addr} {Q : Bool → Shared → Prop} (ra : Reads s.heap a (.tuple xs) as) (rb : Reads s.heap b (.tuple ys) bs) (hal : alikeAll xs ys = true)
    (hu : A.units + min (PyData.tuple xs).depth (PyData.tuple ys).depth < cLine) (hq : Q (dataLt (.tuple xs) (.tuple ys)) s) : wpAny (model prog w) A (oneLt' true a b) Q E s := by
  cases ra with
  | @tuple l o vs n _ as1 h1 h2 h3 h4 =>
    cases rb with
    | @tuple l2 o2 vs2 n2 _ bs1 k1 k2 k3 k4 =>
      have m1 : vs.size = xs.length := by simpa using ReadsAll.length _ _ _ h4
      have m2 : vs2.size = ys.length := by simpa using ReadsAll.length _ _ _ k4
      rw [dataLt_tuple, ← firstLt_toks xs ys hal, ← m1, ← m2] at hq
      rw [oneLt'_eq]
      simp only [if_true]
      refine wpAny_bind (wpAny_cRoomFor (room_here hu) ?_)
      refine wpAny_bind (wpAny_callSpecialIfBound?_slot (T := "tuple") ⟨_, h1, h2⟩ F.slot_tuple_lt
        (tup_lt_call (e := pairEq xs ys) (r := fun j => dataLt (xs.getD j .none) (ys.getD j .none)) ⟨_, h1, h2, _, h3⟩ ⟨_, k1, k2, _, k3⟩ (fun j j1 j2 => ?_) (fun j j1 j2 hj => ?_) ?_))
      · have z := eqAt_alikeAll xs ys A.in1 s vs.toList vs2.toList _ _ h4 k4 hal (room_in hu) j (by simpa using j1) (by simpa using j2)
        simpa using z
      · have z := rcLt_alikeAll xs ys A.in1 s vs.toList vs2.toList _ _ h4 k4 hal (room_in hu) j (by simpa using j1) (by simpa using j2) hj
        simpa using z
      · exact wpAny_truthy_bool hq
/-- the first item of a tuple -/
def firstV (h : Heap) (v : Value) : Option Value := match v with
  | .ref a => match h.get? a with
    | some o => match o.data with
      | .seq ys _ => ys[0]?
      | _ => none
    | none => none
  | _ => none
theorem tup_firsts {M : Model} {B : Around} {E : Value → Shared → Prop} : ∀ {vs : List Value} {ds : List P} (Q : List (Option Value) → Shared → Prop), EachIs (fun v d => ∃ as, Reads s.heap v d as) vs ds → (∀ d, d ∈ ds → ∃ xs, d = .tuple xs) →
    Q (vs.map (firstV s.heap)) s → wpAny M B (vs.mapM firstOfTuple') Q E s
  | _, _, Q, .nil, _, h => by rw [List.mapM_nil]; exact wpAny_pure h
  | _, _, Q, .cons (a := v) (b := d) (as := vs) (bs := ds) ⟨as, r⟩ t, ht, h => by
    obtain ⟨xs, rfl⟩ := ht d (List.mem_cons_self ..)
    cases r with
    | @tuple a o ys n _ _ ho hc hd hr =>
      have e1 : firstV s.heap (.ref a) = ys[0]? := by
        unfold firstV
        simp only [ho, hd]
      rw [List.map_cons, e1] at h
      rw [List.mapM_cons]
      refine wpAny_bind ?_
      rw [kas_first_eq]
      refine wpAny_bind (Looks.here (show Looks M s.heap (typeOf (.ref a)) o.cls from (Looks.ld ho).andThen .now) ?_)
      rw [hc, if_neg (by first | decide | simp)]
      refine wpAny_bind (listItems_at ho hd (wpAny_pure ?_))
      exact wpAny_bind (tup_firsts (fun bs s' => wpAny M B (pure (ys[0]? :: bs)) Q E s') t (fun d hd => ht d (List.mem_cons_of_mem _ hd)) (wpAny_pure h))
theorem tups_full {vs : List Value} {ds : List P} : EachIs (fun v d => ∃ as, Reads s.heap v d as) vs ds → (∀ d, d ∈ ds → ∃ xs, d = .tuple xs) → (∀ v ∈ vs, (firstV s.heap v).isSome = true) → ∀ d, d ∈ ds → ∃ x r, d = .tuple (x :: r) := by
  intro e
  induction e with
  | nil => exact fun _ _ d hd => by simp at hd
  | @cons v d vs ds h t ih =>
    intro ht al d' hd'
    rcases List.mem_cons.mp hd' with rfl | hd'
    · obtain ⟨as, r⟩ := h
      obtain ⟨xs, rfl⟩ := ht d' (List.mem_cons_self ..)
      cases xs with
      | cons x xr => exact ⟨x, xr, rfl⟩
      | nil =>
        cases r with
        | @tuple a o ys n _ _ ho hc hd hr =>
          have h0 := al _ (List.mem_cons_self ..)
          have e1 : firstV s.heap (.ref a) = ys[0]? := by
            unfold firstV
            simp only [ho, hd]
          have z := SeqAt.ReadsAll.length _ _ _ hr
          have z2 : ys.size = 0 := by simpa using z
          rw [e1, Array.getElem?_eq_none (by omega)] at h0
          cases h0
    · exact ih (fun d hd => ht d (List.mem_cons_of_mem _ hd)) (fun v hv => al v (List.mem_cons_of_mem _ hv)) d' hd'
theorem sorts_tups {vs : List Value} {ds : List P} (e : EachIs (fun v d => ∃ as, Reads s.heap v d as) vs ds) (hal : AllAlike ds) (ht : ∀ d, d ∈ ds → ∃ xs, d = .tuple xs) (hu : ∀ d, d ∈ ds → A.units + d.depth < cLine) : SortsAt prog w A s (dataKind s.heap ds) vs := by
  by_cases hne : ∀ v ∈ vs, (firstV s.heap v).isSome = true
  · exact SortsAt.data e hal (.inl (tups_full e ht hne)) hu
  have room : ∀ {d d' : PyData}, d ∈ ds → A.units + min d.depth d'.depth < cLine := fun {d d'} hd => Nat.lt_of_le_of_lt (Nat.add_le_add_left (Nat.min_le_left _ _) _) (hu d hd)
  refine ⟨fun v hv => ?_, ?_⟩
  · obtain ⟨d, hd, as, r⟩ := e.left v hv
    exact ⟨_, dataKind_some hal hd r⟩
  have hall : ¬ ((vs.map (firstV s.heap)).toArray.all fun x => x.isSome) = true := by
    intro z
    apply hne
    intro v hv
    have z2 : ∀ x ∈ vs, (firstV s.heap x).isSome = true := by simpa using z
    exact z2 v hv
  by_cases hf : (((vs.map (firstV s.heap)).toArray)[0]?.bind id).isSome = true
  · refine ⟨general', ?_, fun h2 E Q hq => ?_⟩
    · intro E x y a b Q ha hb hq
      obtain ⟨d, as, hd, ra, rfl⟩ := dataKind_inv ha
      obtain ⟨d', as', hd', rb, rfl⟩ := dataKind_inv hb
      show wpAny (model prog w) A (oneLt' false x y) Q E s
      exact oneLt_alike (fun z => nomatch z) ra rb (hal d hd d' hd') (fun z => by obtain ⟨xs, e⟩ := ht d hd; rw [e] at z; cases z) (room hd) hq
    · rw [keyKind'_eq, List.mapM_toArray, map_eq_pure_bind]
      refine wpAny_bind (wpAny_bind (tup_firsts _ e ht (wpAny_pure ?_)))
      rw [if_neg hall, if_pos hf]
      exact wpAny_pure hq
  · refine ⟨oneType', ?_, fun h2 E Q hq => ?_⟩
    · intro E x y a b Q ha hb hq
      obtain ⟨d, as, hd, ra, rfl⟩ := dataKind_inv ha
      obtain ⟨d', as', hd', rb, rfl⟩ := dataKind_inv hb
      rw [keyLt'_oneType]
      have hdd := hal d hd d' hd'
      have rm := room (d' := d') hd
      obtain ⟨xs, rfl⟩ := ht d hd
      obtain ⟨ys, rfl⟩ := ht d' hd'
      exact one_tup ra rb (by simpa [alike] using hdd) rm hq
    · rw [keyKind'_eq, List.mapM_toArray, map_eq_pure_bind]
      refine wpAny_bind (wpAny_bind (tup_firsts _ e ht (wpAny_pure ?_)))
      rw [if_neg hall, if_neg hf]
      have hT : ∀ v ∈ vs, Looks (model prog w) s.heap (typeOf v) (Value.type "tuple") := fun v hv => by
        obtain ⟨d, hd, as, r⟩ := e.left v hv
        obtain ⟨xs, rfl⟩ := ht d hd
        exact looks_reads r
      rw [oneTypeOnly'_eq, List.mapM_toArray, map_eq_pure_bind]
      refine wpAny_bind (wpAny_bind (wpAny_bind (kas_mapM (r := Value.type "tuple") _ (fun v hv Q' hq' => (hT v hv).here hq') (wpAny_pure ?_))))
      obtain ⟨v1, rest, rfl⟩ : ∃ v1 rest, vs = v1 :: rest := by
        match vs, h2 with
        | [], h2 => simp at h2
        | v1 :: rest, _ => exact ⟨v1, rest, rfl⟩
      have hall2 : ((List.map (fun _ => Value.type "tuple") (v1 :: rest)).toArray.all fun x => x == Value.type "tuple") = true := by
        simp only [List.all_toArray, List.all_map, List.all_eq_true]
        intro _ _
        rfl
      have h0 : (List.map (fun _ => Value.type "tuple") (v1 :: rest)).toArray[0]? = some (Value.type "tuple") := by simp
      rw [h0]
      simp only [hall2, if_true]
      refine wpAny_pure (wpAny_pure ?_)
      simpa using hq
/-- sorted(x), x a list or a tuple of data that can be sorted -/
theorem sorted_seq {E : Value → Shared → Prop} {l : Addr} {T : String} {o : Obj} {n : Nat} {vs : List Value} {bs : List P} {R : Value → P → Prop} {Q : Value → Shared → Prop} (hT : T = "list" ∨ T = "tuple") (ho : s.heap.get? l = some o) (hc : o.cls = .type T)
    (hd : o.data = .seq vs.toArray n) (e : EachIs R vs bs) (er : EachIs (fun v b => ∃ as, Reads s.heap v b as) vs bs) (hal : AllAlike bs) (hk : (∀ d, d ∈ bs → ∃ xs, d = .tuple xs) ∨ Sortable bs) (hz : bs.length ≤ sizeLine) (hu : ∀ b, b ∈ bs → A.units + 2 + b.depth < cLine)
    (h : ∀ h1 : Heap, (∀ b u, s.heap.get? b = some u → h1.get? b = some u) → ∀ (h' : Heap) (out : List Value) (c : Nat), (∀ b u, h1.get? b = some u → h'.get? b = some u) → h'.get? h1.objs.size = some (seqObj "list" (List.toArray out) c) → out.length = bs.length → EachIs R out (bs.mergeSort (dataLe false id)) →
      Q (.ref h1.objs.size) { s with heap := h' }) : wpAny (model prog w) A (call (.builtin "sorted") [.ref l]) Q E s := by
  have hL : vs.length ≤ sizeLine := by rw [e.length]; exact hz
  refine Calls.call_function_entry kind_sorted plain_sorted entry_sorted (args_sorted1 _) ?_
  unfold Builtin.«sorted»
  refine wpAny_bind (m := checkCount "sorted" 1 1 _) (wpAny_pure ?_)
  refine wpAny_bind (wpAny_collect_seq l hT ho hc hd (fun h1 k1 => ?_) (by rw [List.size_toArray]; exact hL))
  refine wpAny_bind (wpAny_newList ?_ (by simpa using hL))
  have ha : (h1.push (seqObj "list" vs.toArray 0)).get? h1.objs.size = some (seqObj "list" vs.toArray 0) := Heap.get?_push_size _ rfl
  have er2 : EachIs (fun v b => ∃ as, Reads (sortingHeap (h1.push (seqObj "list" vs.toArray 0)) h1.objs.size vs) v b as) vs bs := er.mono fun v b ⟨as, r⟩ => ⟨as, PyProof.Rows.Reads.keeps (fun b u q =>
    sortingHeap_old (Nat.ne_of_lt (Heap.lt_size (k1 b u q))) (Heap.get?_push_of_some _ (k1 b u q))) r⟩
  have S : SortsAt prog w A.in1.in1 { s with heap := sortingHeap (h1.push (seqObj "list" vs.toArray 0)) h1.objs.size vs } (dataKind (sortingHeap (h1.push (seqObj "list" vs.toArray 0)) h1.objs.size vs) bs) vs := by
    rcases hk with hk | hk
    · exact sorts_tups (s := { s with heap := sortingHeap (h1.push (seqObj "list" vs.toArray 0)) h1.objs.size vs }) er2 hal hk hu
    · exact SortsAt.data (s := { s with heap := sortingHeap (h1.push (seqObj "list" vs.toArray 0)) h1.objs.size vs }) er2 hal hk hu
  refine wpAny_bind (wpAny_holding (wpAny_call_entry slot_list_sort ⟨_, (show (Heap.get? { s with heap := h1.push (seqObj "list" vs.toArray 0) }.heap h1.objs.size) = _ from ha), rfl⟩ entry_list_sort ?_ (args_list_sort _)))
  refine wpAny_mono (list_sort_vals (s := { s with heap := h1.push (seqObj "list" vs.toArray 0) }) (P := fun f s' => f = .done (.ret .none) ∧ s' = { s with heap := sortedHeap (h1.push (seqObj "list" vs.toArray 0)) h1.objs.size vs (List.toArray _) }) ha S hL ⟨rfl, rfl⟩) (fun f s' hf => ?_) fun _ _ e => e
  obtain ⟨rfl, rfl⟩ := hf
  obtain ⟨c, hat⟩ := sortedHeap_at (vs := vs) (out := List.toArray (sortVals (dataKind (sortingHeap (h1.push (seqObj "list" vs.toArray 0)) h1.objs.size vs) bs) false vs vs)) ha
  have em : bs.map id = bs := List.map_id bs
  refine ⟨_, rfl, wpAny_pure ⟨_, rfl, h h1 k1 _ _ c (fun b u q => ?_) hat (by rw [sortVals_length false rfl]; exact e.length) ?_⟩⟩
  · rw [sortedHeap_old (Nat.ne_of_lt (Heap.lt_size q)) (by rw [Heap.size_push]; exact Nat.lt_succ_of_lt (Heap.lt_size q))]
    exact Heap.get?_push_of_some _ q
  · have := sortVals_data (enc := id) (R := R) false e (by simpa using er2) (by rw [em]; exact hal)
    rw [em] at this
    exact this
end
def psortT (ys : List P) : Prop := PySem.W.AllAlike ys ∧ ((∀ d, d ∈ ys → ∃ xs, d = .tuple xs) ∨ PySem.W.Sortable ys) ∧ ys.length ≤ sizeLine ∧ ∀ x ∈ ys, x.depth ≤ 60
open Classical in
/-- sorted(x) -/
noncomputable def zSort (ds : List D) (M : Store) : Out D := match ds with
  | [d] => match seqv M d with
    | some xs => match pures xs with
      | some ys => if psortT ys then .ok (.p (.list (psort ys))) M else .stuck
      | none => .stuck
    | none => .stuck
  | _ => .stuck
section
variable {X : Cx} {E : XK}
theorem zSort_ok (zx : ZX X) : CallR X (.builtin "sorted") (rZs X E zSort) := by
  intro pins s σ H xs us Q I r h
  obtain ⟨ds, θ, M, m, rs, h⟩ := h
  unfold zSort at h
  split at h
  · split at h
    · rename_i zs e1
      split at h
      · rename_i ys e2
        split at h
        · rename_i c
          cases rs with
          | cons r1 rr =>
            cases rr
            obtain ⟨ad, vs, rfl, hp, dp⟩ := seqv_ok m r1 e1
            rw [pures_eq e2] at dp
            have fz := FzAll.ofDrs dp
            obtain ⟨u, rfl, ru⟩ := r.one
            cases ru
            have hu := zx.hu
            obtain ⟨T, o, n, its, hT, rv, ho, hc, hd⟩ : ∃ (T : String) (o : Obj) (n : Nat) (its : List Value), (T = "list" ∨ T = "tuple") ∧ Vals vs its ∧ s.heap.get? ad = some o ∧ o.cls = .type T ∧ o.data = .seq its.toArray n := by
              rcases hp with hp | hp
              · obtain ⟨its, rv, pl, hz⟩ := I.list hp.sq
                obtain ⟨o, ho, hc, n, hd⟩ := pl.isList
                exact ⟨_, o, n, its, .inl rfl, rv, ho, hc, hd⟩
              · obtain ⟨its, rv, ⟨o, ho, hc, n, hd⟩, hz⟩ := I.tuple hp
                exact ⟨_, o, n, its, .inr rfl, rv, ho, hc, hd⟩
            have ei := eachIs_of (h := s.heap) rv fz
            have er := eachReads (h := s.heap) (fun v u x c r z => Dp.reads I x v u (z.dp c) r) (all_noDict c.1) ei
            refine thn (Q := EP X pins σ (FrzQ Q)) (sorted_seq hT ho hc hd ei er c.1 c.2.1 c.2.2.1 (fun b hb => by have := c.2.2.2 b hb; show X.A.units + 2 + b.depth < cLine; omega) fun h1 k1 h' out cc k2 at_ hl hout => ?_) fun u s1 z => ep_frz z
            obtain ⟨ws, w1, w2⟩ := ofEachIs hout
            have I1 : Inv X pins σ H { s with heap := h1 } := I.kept (t' := s.toks) k1
            have hn : H h1.objs.size = none := I1.hok.fresh (Nat.le_refl _)
            have wl : ws.length = ys.length := by rw [w1.length, hl]
            have J := Inv.laid (o := .lst ws) (t' := s.toks) I1 (fun b u q => k2 b u q) (Nat.le_refl _) ⟨by rw [wl]; exact c.2.2.1, out, cc, w1, at_⟩
            exact ⟨.ref _, _, J, rfl, post_frz h m hn (by rw [psort, List.length_mergeSort]; exact c.2.2.1) w2⟩
        · exact h.elim
      · exact h.elim
    · exact h.elim
  · exact h.elim
end
end Z

/-! Z: data of one make: ==, in, sorted. -/
namespace Z
open PySem PySem.Spec PyProof.Rows L2
theorem peq_sh {a b : P} (ha : SeqAt.shaped a = true) (hb : SeqAt.shaped b = true) : peq a b = some (PyData.eqv a b) := by
  unfold peq
  split
  · simp only [PyData.eqv]; congr 1
  · simp only [PyData.eqv]; congr 1
  · rfl
  · rw [if_pos ⟨ha, hb⟩]
theorem zEq_sh {a b : P} (ha : SeqAt.shaped a = true) (hb : SeqAt.shaped b = true) (M : Store) : zEq (.p a) (.p b) M = .ok (.p (.bool (PyData.eqv a b))) M := by
  unfold zEq
  simp only [snap_p, peq_sh ha hb]
theorem zNe_sh {a b : P} (ha : SeqAt.shaped a = true) (hb : SeqAt.shaped b = true) (M : Store) : zNe (.p a) (.p b) M = .ok (.p (.bool (!PyData.eqv a b))) M := by
  unfold zNe
  simp only [snap_p, peq_sh ha hb]
/-- data that == tells apart just as Lean does -/
structure Lay {α : Type} [DecidableEq α] (f : α → P) (n : Nat) : Prop where
  can : ∀ x, (f x).canLay0 = true
  dep : ∀ x, (f x).depth ≤ n
  eq : ∀ x y, PyData.eqv (f x) (f y) = decide (x = y)
section
variable {α β γ : Type} [DecidableEq α] [DecidableEq β] [DecidableEq γ] {f : α → P} {g : β → P} {k : γ → P} {n m l : Nat}
theorem Lay.sh (h : Lay f n) (hn : n ≤ 60) (x : α) : SeqAt.shaped (f x) = true := by
  have h1 := h.can x
  have h2 := h.dep x
  have h3 : (f x).depth ≤ 64 := by omega
  show ((f x).canLay0 && decide ((f x).depth ≤ 64)) = true
  rw [h1, decide_eq_true h3]
  rfl
theorem Lay.mono (h : Lay f n) (hn : n ≤ m) : Lay f m := ⟨h.can, fun x => Nat.le_trans (h.dep x) hn, h.eq⟩
theorem Lay.eqs (h : Lay f n) : ∀ xs ys : List α, PyData.eqvAll (xs.map f) (ys.map f) = decide (xs = ys)
  | [], [] => by simp [PyData.eqvAll]
  | [], y :: ys => by simp [PyData.eqvAll]
  | x :: xs, [] => by simp [PyData.eqvAll]
  | x :: xs, y :: ys => by
    rw [List.map_cons, List.map_cons, PyData.eqvAll, h.eq, h.eqs xs ys]
    simp
theorem Lay.int : Lay PyData.int 0 := ⟨fun _ => rfl, fun _ => Nat.le_refl _, fun x y => by simp only [PyData.eqv]; rfl⟩
theorem Lay.nat : Lay (fun n : Nat => PyData.int (n : Int)) 0 := ⟨fun _ => rfl, fun _ => Nat.le_refl _, fun x y => by
  have := Lay.int.eq (x : Int) (y : Int)
  rw [this]
  simp only [decide_eq_decide]
  omega⟩
theorem Lay.tup (h : Lay f n) : Lay (fun xs : List α => .tuple (xs.map f)) (n + 1) := ⟨fun xs => by
    show PyData.canLayAll0 (xs.map f) = true
    exact can_map f h.can xs, fun xs => by
    show PyData.depthAll (xs.map f) + 1 ≤ n + 1
    exact Nat.succ_le_succ (dep_map f n h.dep xs), fun xs ys => by rw [PyData.eqv, h.eqs]⟩
theorem Lay.lst (h : Lay f n) : Lay (fun xs : List α => .list (xs.map f)) (n + 1) := ⟨fun xs => by
    show PyData.canLayAll0 (xs.map f) = true
    exact can_map f h.can xs, fun xs => by
    show PyData.depthAll (xs.map f) + 1 ≤ n + 1
    exact Nat.succ_le_succ (dep_map f n h.dep xs), fun xs ys => by rw [PyData.eqv, h.eqs]⟩
theorem Lay.pair (h : Lay f n) (h' : Lay g n) : Lay (fun p : α × β => .tuple [f p.1, g p.2]) (n + 1) := ⟨fun p => by
    show (( f p.1).canLay0 && ((g p.2).canLay0 && true)) = true
    rw [h.can, h'.can]
    rfl, fun p => by
    have h1 := h.dep p.1
    have h2 := h'.dep p.2
    show max (f p.1).depth (max (g p.2).depth 0) + 1 ≤ n + 1
    omega, fun p q => by
    rw [PyData.eqv, PyData.eqvAll, PyData.eqvAll, PyData.eqvAll, h.eq, h'.eq]
    simp [Prod.ext_iff]⟩
theorem Lay.inj (h : Lay f n) {x y : α} (e : f x = f y) : x = y := by
  have h1 := h.eq x x
  have h2 := h.eq x y
  rw [← e, h1] at h2
  simpa using h2.symm
theorem zEq_lay (h : Lay f n) (hn : n ≤ 60) (x y : α) (M : Store) : zEq (.p (f x)) (.p (f y)) M = .ok (.p (.bool (decide (x = y)))) M := by
  rw [zEq_sh (h.sh hn x) (h.sh hn y), h.eq]
theorem zNe_lay (h : Lay f n) (hn : n ≤ 60) (x y : α) (M : Store) : zNe (.p (f x)) (.p (f y)) M = .ok (.p (.bool (!decide (x = y)))) M := by
  rw [zNe_sh (h.sh hn x) (h.sh hn y), h.eq]
theorem Lay.any (h : Lay f n) (x : α) (xs : List α) : ((xs.map f).any fun z => PyData.eqv z (f x)) = decide (x ∈ xs) := by
  induction xs with
  | nil => simp
  | cons y ys ih =>
    rw [List.map_cons, List.any_cons, ih, h.eq]
    by_cases e : y = x
    · simp [e]
    · have e2 : ¬ x = y := fun z => e z.symm
      simp [e, e2]
theorem zin_layL (h : Lay f n) (hn : n ≤ 59) (neg : Bool) (x : α) (xs : List α) (M : Store) : zin neg (.p (f x)) (.p (.list (xs.map f))) M = .ok (.p (.bool (neg ^^ decide (x ∈ xs)))) M := by
  unfold zin zinL
  simp only [dictv_l, snap_p, h.sh (by omega) x, h.lst.sh (by omega) xs, and_self, if_true, h.any]
theorem zin_layT (h : Lay f n) (hn : n ≤ 59) (neg : Bool) (x : α) (xs : List α) (M : Store) : zin neg (.p (f x)) (.p (.tuple (xs.map f))) M = .ok (.p (.bool (neg ^^ decide (x ∈ xs)))) M := by
  unfold zin zinL
  simp only [dictv_t, snap_p, h.sh (by omega) x, h.tup.sh (by omega) xs, and_self, if_true, h.any]
end
abbrev tnats (ns : List Nat) : P := .tuple (pnats ns)
abbrev tints (ns : List Int) : P := .tuple (pints ns)
theorem lay_tn : Lay tnats 1 := Lay.nat.tup
theorem lay_ti : Lay tints 1 := Lay.int.tup
theorem lay_itm : Lay Itm.enc 1 := ⟨fun x => by cases x <;> simp [Itm.enc, PyData.canLay0, PyData.canLayAll0] <;> decide +kernel, fun x => by cases x <;> simp [Itm.enc, PyData.depth, PyData.depthAll], fun x y => by
  cases x <;> cases y <;> simp [Itm.enc, PyData.eqv, PyData.eqvAll] <;> (rw [Bool.eq_iff_iff]; simp; try omega)⟩
/-! ### sorted -/
@[simp] theorem seqv_r (M : Store) (i : Nat) : seqv M (.ref i) = lstv M (.ref i) := id rfl
structure Srt {α : Type} (f : α → P) : Prop where
  al : ∀ x y, PySem.W.alike (f x) (f y) = true
  kd : (∀ x, ∃ t, f x = .tuple t) ∨ ∀ x, f x ≠ .none ∧ ∀ t, f x ≠ .tuple t
  dep : ∀ x, (f x).depth ≤ 60
def lsort {α : Type} (f : α → P) (xs : List α) : List α := xs.mergeSort (PySem.W.dataLe false f)
theorem lsort_perm {α : Type} (f : α → P) (xs : List α) : (lsort f xs).Perm xs := List.mergeSort_perm _ _
theorem mem_lsort {α : Type} {f : α → P} {xs : List α} {x : α} : x ∈ lsort f xs ↔ x ∈ xs := (lsort_perm f xs).mem_iff
theorem len_lsort {α : Type} (f : α → P) (xs : List α) : (lsort f xs).length = xs.length := (lsort_perm f xs).length_eq
theorem psort_map {α : Type} (f : α → P) (xs : List α) : psort (xs.map f) = (lsort f xs).map f := by
  unfold psort lsort
  rw [List.map_mergeSort]
  intro a _ b _
  rfl
theorem Srt.ok {α : Type} {f : α → P} (h : Srt f) {xs : List α} (hl : xs.length ≤ 16777216) : psortT (xs.map f) := by
  refine ⟨PySem.W.AllAlike.of h.al, ?_, by rw [List.length_map]; exact hl, fun x hx => ?_⟩
  · rcases h.kd with k | k
    · exact .inl fun d hd => by
        obtain ⟨x, _, rfl⟩ := List.mem_map.mp hd
        exact k x
    · exact .inr (PySem.W.Sortable.others k)
  · obtain ⟨y, _, rfl⟩ := List.mem_map.mp hx
    exact h.dep y
theorem zSort_of {α : Type} {f : α → P} (h : Srt f) {d : D} {M : Store} {xs : List α} (e : seqv M d = some ((xs.map f).map .p)) (hl : xs.length ≤ 16777216) : zSort [d] M = .ok (.p (.list ((lsort f xs).map f))) M := by
  unfold zSort
  simp only [e, pures_map]
  rw [if_pos (h.ok hl), psort_map]
theorem srt_int : Srt PyData.int := ⟨fun _ _ => rfl, .inr fun x => ⟨(fun z => nomatch z), fun t z => nomatch z⟩, fun _ => Nat.zero_le _⟩
theorem srt_nat : Srt (fun n : Nat => PyData.int (n : Int)) := ⟨fun _ _ => rfl, .inr fun x => ⟨(fun z => nomatch z), fun t z => nomatch z⟩, fun _ => Nat.zero_le _⟩
theorem alike_map {α : Type} {f : α → P} (h : ∀ x y, PySem.W.alike (f x) (f y) = true) : ∀ xs ys : List α, PySem.W.alikeAll (xs.map f) (ys.map f) = true
  | [], _ => by simp [PySem.W.alikeAll]
  | _ :: _, [] => by simp [PySem.W.alikeAll]
  | x :: xs, y :: ys => by
    rw [List.map_cons, List.map_cons, PySem.W.alikeAll, h, alike_map h xs ys]
    rfl
theorem srt_ti : Srt tints := ⟨fun x y => by rw [PySem.W.alike]; exact alike_map srt_int.al x y, .inl fun x => ⟨_, rfl⟩, fun x => Nat.le_trans (lay_ti.dep x) (by decide)⟩
theorem srt_tn : Srt tnats := ⟨fun x y => by rw [PySem.W.alike]; exact alike_map srt_nat.al x y, .inl fun x => ⟨_, rfl⟩, fun x => Nat.le_trans (lay_tn.dep x) (by decide)⟩
/-- what is wanted, put out of sight -/
theorem sat_any {α : Type} {Q : α → Prop} {o : α} (h : ∀ Φ : α → Prop, (∀ o, Q o → Φ o) → Sat Φ o) : Sat Q o := h Q fun _ k => k
end Z

/-! Z: dicts made and filled. -/
namespace Z
open PySem PySem.Spec PyProof.Rows L2
def putD (kvs : List (Key × D)) (k : Key) (d : D) : List (Key × D) := if (kvs.any fun kv => decide (kv.1 = k)) = true then kvs.map (fun kv => if kv.1 = k then (kv.1, d) else kv) else kvs ++ [(k, d)]
def mergeD (kvs more : List (Key × D)) : List (Key × D) := more.foldl (fun acc kv => putD acc kv.1 kv.2) kvs
section
variable {K : PySem.W.Frag} {θ θ' : List Addr} {H H' : Hp} {M : Store}
theorem kd_any (k : Key) : ∀ {us : List (Key × V)} {kvs : List (Key × D)}, KD K θ H us kvs → (us.any fun kv => decide (kv.1 = k)) = kvs.any fun kv => decide (kv.1 = k)
  | _, _, .nil => rfl
  | _, _, .cons a b => by rw [List.any_cons, List.any_cons, kd_any k b, a.1]
theorem kd_repl {k : Key} {v : V} {d : D} (r : Dr K θ H v d) : ∀ {us : List (Key × V)} {kvs : List (Key × D)}, KD K θ H us kvs → KD K θ H (us.map fun kv => if kv.1 = k then (kv.1, v) else kv) (kvs.map fun kv => if kv.1 = k then (kv.1, d) else kv)
  | _, _, .nil => .nil
  | u :: us, q :: kvs, .cons a b => by
    rw [List.map_cons, List.map_cons]
    refine .cons ?_ (kd_repl r b)
    by_cases e : u.1 = k
    · rw [if_pos e, if_pos (a.1 ▸ e)]; exact ⟨a.1, r⟩
    · rw [if_neg e, if_neg (fun z => e (a.1.trans z))]; exact a
theorem kd_put {k : Key} {v : V} {d : D} (r : Dr K θ H v d) {us : List (Key × V)} {kvs : List (Key × D)} (h : KD K θ H us kvs) : KD K θ H (putK us k v) (putD kvs k d) := by
  unfold putK putD
  rw [kd_any k h]
  split
  · exact kd_repl r h
  · exact paired_append h (.cons ⟨rfl, r⟩ .nil)
theorem kd_merge : ∀ {more : List (Key × V)} {dm : List (Key × D)} {us : List (Key × V)} {kvs : List (Key × D)}, KD K θ H more dm → KD K θ H us kvs → KD K θ H (mergeK us more) (mergeD kvs dm)
  | _, _, _, _, .nil, h => h
  | p :: _, q :: _, _, _, .cons a b, h => by
    unfold mergeK mergeD
    rw [List.foldl_cons, List.foldl_cons]
    have := kd_put (k := p.1) a.2 h
    rw [← a.1]
    exact kd_merge b this
theorem kd_go {us : List (Key × V)} {kvs : List (Key × D)} (g : Go θ θ' H H') (h : KD K θ H us kvs) : KD K θ' H' us kvs := paired_imp (fun _ _ z => ⟨z.1, z.2.go g⟩) h
theorem kd_low (s : SR K θ H M) : ∀ {us : List (Key × V)} {kvs : List (Key × D)}, KD K θ H us kvs → (kvs.all fun kv => kv.2.low M.length) = true
  | _, _, .nil => rfl
  | _, q :: kvs, .cons a b => by
    rw [List.all_cons, kd_low s b, Bool.and_true]
    have := Drs.low s (.cons a.2 .nil)
    simpa using this
theorem kd_len {us : List (Key × V)} {kvs : List (Key × D)} (h : KD K θ H us kvs) : us.length = kvs.length := Paired.length h
end
section
variable {X : Cx} {E : XK} {a b : Expr} {ca cb : ZC} {pos : Pos}
theorem new_dic {θ : List Addr} {H : Hp} {M : Store} {Q : VK} {us : List (Key × V)} {kvs : List (Key × D)} {p : Addr} (h : Post X.K X.mg E (Dr X.K) Q θ H (.ok (.ref M.length) (M ++ [.dic kvs]))) (s : SR X.K θ H M) (r : KD X.K θ H us kvs) (hp : H p = none) :
    Q (.ref p) (upd H p (.dK us)) :=
  h (.ref p) _ (θ ++ [p]) (Go.new s hp) (s.new hp ⟨us, upd_same, kd_go (Go.new s hp) r⟩ (kd_low s r)) s.newD
/-- {} -/
def zDnew : ZC := fun _ M => .ok (.ref M.length) (M ++ [.dic []])
theorem ZE.dnew : ZE X E (.Dict [] [] pos) zDnew := ⟨_, pe_dnewK, fun σ H θ sl M Q hs hm h p hp => new_dic h hm .nil hp⟩
/-- d[k] = v -/
def zDput (x y v : D) (M : Store) : Option Store := match x, y with
  | .ref i, .p yk => match M[i]?, kOf yk with
    | some (.dic kvs), some k => if v.low i = true ∧ kvs.length < sizeLine then some (M.set i (.dic (putD kvs k v))) else none
    | _, _ => none
  | _, _ => none
theorem putD_mem {kvs : List (Key × D)} {k : Key} {d : D} {kv : Key × D} (h : kv ∈ putD kvs k d) : kv.2 = d ∨ kv ∈ kvs := by
  unfold putD at h
  split at h
  · obtain ⟨z, hz, e⟩ := List.mem_map.mp h
    split at e
    · rw [← e]; exact .inl rfl
    · rw [← e]; exact .inr hz
  · rcases List.mem_append.mp h with h | h
    · exact .inr h
    · rw [List.mem_singleton.mp h]; exact .inl rfl
theorem zDput_ok (zx : ZX X) : PSet X (rZset X zDput) := by
  intro pins s σ H o i v ov iv u Q I ro ri rv h
  obtain ⟨θ, M, x, y, d, M', m, rx, ry, rd, e, q⟩ := h
  have hu := zx.hu
  unfold zDput at e
  split at e
  · rename_i j yk
    split at e
    · rename_i kvs k e1 e2
      split at e
      · rename_i c
        cases e
        obtain ⟨ad, hi, rfl, hk⟩ := dr_ref m rx e1
        obtain ⟨us, h0, r⟩ := hk
        have ev := kv_is ry e2
        subst ev
        refine set_dict (by omega) pins s σ H _ _ v ov iv u Q I ro ri rv ⟨ad, _, rfl, DPut.k h0 (by rw [kd_len r]; exact c.2), ?_⟩
        have g : Go θ θ H (upd H ad (.dK (putK us k v))) := ⟨List.prefix_refl _, fun b w e c => by
          have ne : b ≠ ad := by
            rintro rfl
            rw [h0] at e; cases e
            rcases c with c | c
            · exact c (List.mem_of_getElem? hi)
            · exact c
          rw [upd_ne ne]; exact e, fun b m n => absurd m n⟩
        have lo := m.low j _ e1
        obtain ⟨s', g'⟩ := m.set (o := .dic (putD kvs k d)) (u := .dK (putK us k v)) hi h0 (fun z => z) ⟨_, upd_same, kd_put (rd.go g) (kd_go g r)⟩ (List.all_eq_true.mpr fun z hz => by
          rcases putD_mem hz with h | h
          · rw [h]; exact c.1
          · exact List.all_eq_true.mp lo z h)
        exact q _ g' s'
      · cases e
    · cases e
  · cases e
/-! {k: v, ..} -/
abbrev ZCp := Sl → Store → Out (List (P × D))
def PR (K : PySem.W.Frag) (θ : List Addr) (H : Hp) : List (V × V) → List (P × D) → Prop := Paired fun p q => Fz K H p.1 q.1 ∧ Dr K θ H p.2 q.2
def ZPr (X : Cx) (E : XK) (pos : Pos) (ks : List (Option Expr)) (vs : List Expr) (c : ZCp) : Prop := ∃ trs, PPs X pos ks vs trs ∧ ∀ σ H θ sl M Q, SV X.K θ H σ sl → SR X.K θ H M → Post X.K X.mg E (PR X.K) Q θ H (c sl M) → tPairs trs σ H Q
def zpnil : ZCp := fun _ M => .ok [] M
def zpcons (k v : ZC) (r : ZCp) : ZCp := fun sl M => (k sl M).bind fun kd M1 => match kd with
  | .p x => (v sl M1).bind fun vd M2 => (r sl M2).bind fun ps M3 => .ok ((x, vd) :: ps) M3
  | _ => .stuck
theorem ZPr.nil : ZPr X E pos [] [] zpnil := ⟨_, pps_nil, fun σ H θ sl M Q hs hm h => Post.here (b := []) (show Post X.K X.mg E (PR X.K) Q θ H (.ok [] M) from h) hm .nil⟩
theorem ZPr.cons {ks : List (Option Expr)} {vs : List Expr} {cr : ZCp} (ha : ZE X E a ca) (hb : ZE X E b cb) (hr : ZPr X E pos ks vs cr) : ZPr X E pos (some a :: ks) (b :: vs) (zpcons ca cb cr) := by
  obtain ⟨ta, pa, qa⟩ := ha
  obtain ⟨tb, pb, qb⟩ := hb
  obtain ⟨tr, pr, qr⟩ := hr
  refine ⟨_, pps_cons pa pb pr, fun σ H θ sl M Q hs hm h => qa σ H θ sl M _ hs hm (Post.bind h fun d M1 v H1 θ1 g1 m1 r1 h1 => ?_)⟩
  split at h1
  · refine qb σ H1 θ1 sl M1 _ (hs.go g1) m1 (Post.bind h1 fun d2 M2 v2 H2 θ2 g2 m2 r2 h2 => ?_)
    refine qr σ H2 θ2 sl M2 _ ((hs.go g1).go g2) m2 (Post.bind h2 fun ps M3 pv H3 θ3 g3 m3 r3 h3 => ?_)
    exact Post.here (b := (v, v2) :: pv) h3 m3 (.cons ⟨Fz.keep (g2.trans g3).keep r1, r2.go g3⟩ r3)
  · exact h1.elim
def keyedD : List (P × D) → Option (List (Key × D))
  | [] => some []
  | kv :: r => match kOf kv.1, keyedD r with
    | some k, some ks => some ((k, kv.2) :: ks)
    | _, _ => none
def zdisp (c : ZCp) : ZC := fun sl M => (c sl M).bind fun ps M1 => match keyedD ps with
  | some kvs => if kvs.length ≤ 15 then .ok (.ref M1.length) (M1 ++ [.dic (mergeD [] kvs)]) else .stuck
  | none => .stuck
theorem keyedD_ok {K : PySem.W.Frag} {θ : List Addr} {H : Hp} : ∀ {ps : List (V × V)} {ds : List (P × D)} {kvs : List (Key × D)}, PR K θ H ps ds → keyedD ds = some kvs → ∃ us : List (Key × V), ps = us.map (fun kv => (kV kv.1, kv.2)) ∧ KD K θ H us kvs
  | _, _, kvs, .nil, e => by cases e; exact ⟨[], rfl, .nil⟩
  | p :: ps, d :: ds, kvs, .cons x y, e => by
    unfold keyedD at e
    cases q1 : kOf d.1 with
    | none => rw [q1] at e; cases e
    | some k =>
      cases q2 : keyedD ds with
      | none => rw [q1, q2] at e; cases e
      | some ks =>
        rw [q1, q2] at e
        cases e
        obtain ⟨us, e1, r⟩ := keyedD_ok y q2
        refine ⟨(k, p.2) :: us, ?_, .cons ⟨rfl, x.2⟩ r⟩
        rw [List.map_cons, e1]
        congr 1
        rw [← kv_is x.1 q1]
theorem ZE.disp {ks : List (Option Expr)} {vs : List Expr} {c : ZCp} (h : ZPr X E pos ks vs c) (hall : ks.all (·.isSome) = true := by rfl) (hl : ks.length = vs.length := by rfl) (h0 : ks ≠ [] := by exact fun z => by cases z) (hn : ks.length ≤ 15 := by decide) :
    ZE X E (.Dict ks vs pos) (zdisp c) := by
  obtain ⟨trs, p, q⟩ := h
  refine ⟨_, pe_disp p hall hl h0 hn, fun σ H θ sl M Q hs hm h => ?_⟩
  intro pa hp
  have g0 : Go θ θ H (upd H pa (.dK [])) := Go.out hm hp
  have np : pa ∉ θ := fun z => hm.apart hp pa z rfl
  refine q σ _ θ sl M _ (hs.go g0) (hm.out hp) ?_
  unfold zdisp at h
  cases ec : c sl M with
  | stuck => rw [ec] at h; exact h
  | exc x M1 => rw [ec] at h; exact Post.go (α := List (P × D)) (β := List (V × V)) (R := PR X.K) (Q := fun _ _ => True) g0 (show Post X.K X.mg E (PR X.K) (fun _ _ => True) θ H (.exc x M1) from h)
  | ok ps M1 =>
    rw [ec] at h
    simp only [Out.bind_ok] at h
    intro pv H2 θ2 g2 m2 r2
    have hs2 : H2 pa = some (.dK []) := g2.same np
    refine ⟨hs2, ?_⟩
    cases ek : keyedD ps with
    | none => rw [ek] at h; exact h.elim
    | some kvs =>
      rw [ek] at h
      simp only at h
      by_cases hl15 : kvs.length ≤ 15
      · rw [if_pos hl15] at h
        obtain ⟨us, e1, r3⟩ := keyedD_ok r2 ek
        refine ⟨us, e1, by rw [kd_len r3]; exact hl15, ?_⟩
        have np2 : pa ∉ θ2 := g2.notin np
        have hv := g2.hid hp
        have mv := m2.hid hs2 (fun z => z) np2
        have rv : KD X.K θ2 (hid H2 pa) us kvs := paired_imp (fun _ _ z => ⟨z.1, z.2.hid hs2 (fun z => z)⟩) r3
        have := new_dic (us := mergeK [] us) (p := pa) (Post.go hv h) mv (kd_merge rv .nil) hid_same
        have eu : upd (hid H2 pa) pa (.dK (mergeK [] us)) = upd H2 pa (.dK (mergeK [] us)) := by
          funext b
          by_cases eb : b = pa
          · rw [eb, upd_same, upd_same]
          · rw [upd_ne eb, upd_ne eb, hid_ne eb]
        rw [eu] at this
        exact this
      · rw [if_neg hl15] at h; exact h.elim
end
end Z

/-! Z: dict(zip(a, b)), lists and tuples in any mix. -/
namespace Z
open PySem PySem.Spec PyProof.Rows L2
section
variable {prog : Program} {w : World} {A : Around} {E : Value → Shared → Prop} {s : Shared} {z TI TO T i1 i2 : Addr} {fp1 fp2 : List Addr} {n1 n2 i : Nat} {P1 P2 : Nat → Value → Prop} {St1 St2 : Nat → Heap → Prop} {f : Bool} {oT : Obj}
/-- zip's next pair while the one before is still out -/
theorem held_item {Q : Value → Shared → Prop} (S : ZipSep2 z TI TO i1 i2 fp1 fp2) (D1 : Draws prog w A i1 fp1 n1 P1 St1) (D2 : Draws prog w A i2 fp2 n2 P2 St2) (hz : IsZipHeld s.heap z TI TO T f) (hT : s.heap.get? T = some oT) (hTI : IsTupOf2 s.heap TI (.ref i1) (.ref i2))
    (st1 : St1 i s.heap) (st2 : St2 i s.heap) (l1 : i < n1) (l2 : i < n2)
    (hQ : ∀ x y h' tk, P1 i x → P2 i y → IsZipHeld h' z TI TO T true → St1 (i + 1) h' → St2 (i + 1) h' → IsTupOf2 h' s.heap.objs.size x y → (∀ c o, c ≠ z → c ≠ i1 → c ≠ i2 → s.heap.get? c = some o → h'.get? c = some o) → Q (.ref s.heap.objs.size) { s with heap := h', toks := tk }) :
    wpAny (model prog w) A (Builtin.«zip.__next__» ⟨[.ref z], []⟩) (fun fin s' => ∃ v, fin = .done (.ret v) ∧ Q v s') E s := by
  obtain ⟨hp, g, d, tk0, os⟩ := s
  show wpAny _ _ (field (.ref z) 2 >>= _) _ _ _
  refine wpAny_bind (wpAny_field hz rfl (x := .bool false) rfl ?_)
  show wpAny _ _ (field (.ref z) 3 >>= _) _ _ _
  refine wpAny_bind (wpAny_field hz rfl (x := .ref TI) rfl (wpAny_bind (wpAny_seqItems hTI rfl ?_)))
  show wpAny _ _ (Builtin.SmallTypes.ownedTupleIsFree (.ref z) >>= _) _ _ _
  refine wpAny_bind (wpAny_tupleHeld_zip hz hT fun g0 hz0 hs0 => ?_)
  replace hs0 : Heap.SameBut z hp g0 := hs0
  simp only [Bool.false_eq_true, if_false]
  refine wpAny_bind ?_
  rw [← Array.forIn_toList]
  simp only [List.forIn_cons, List.forIn_nil]
  refine wpAny_bind (wpAny_bind (wpAny_holding ?_))
  show wpAny _ _ (Builtin.SmallTypes.nextOf (.ref i1) >>= _) _ _ ⟨g0, g, d, tk0, os⟩
  refine wpAny_bind (D1.item i _ _ _ l1 (D1.over st1 hs0 S.zf1) fun x1 p1 tk1 hx1 sn1 hp1 => wpAny_pure (wpAny_pure ?_))
  replace hp1 : Heap.SameBut i1 g0 p1 := hp1
  refine wpAny_bind (wpAny_bind (wpAny_holding ?_))
  show wpAny _ _ (Builtin.SmallTypes.nextOf (.ref i2) >>= _) _ _ ⟨p1, g, d, tk1, os⟩
  refine wpAny_bind (D2.item i _ _ _ l2 (D2.over (D2.over st2 hs0 S.zf2) hp1 S.sep1_2) fun x2 p2 tk2 hx2 sn2 hp2 => wpAny_pure (wpAny_pure (wpAny_pure ?_)))
  replace hp2 : Heap.SameBut i2 p1 p2 := hp2
  show wpAny _ _ (newTuple [x1, x2] >>= _) _ _ _
  refine wpAny_bind (wpAny_newTuple ?_)
  have hsz : p2.objs.size = hp.objs.size := by rw [hp2.1, hp1.1, hs0.1]
  have hz3 : IsZipHeld p2 z TI TO T true := hp2.extBut _ _ S.zi2 (hp1.extBut _ _ S.zi1 hz0)
  have hk : ∀ c o, c ≠ z → c ≠ i1 → c ≠ i2 → hp.get? c = some o → p2.get? c = some o := fun c o c1 c2 c3 e => hp2.extBut _ _ c3 (hp1.extBut _ _ c2 (hs0.extBut _ _ c1 e))
  refine wpAny_pure ⟨_, rfl, ?_⟩
  show Q (.ref p2.objs.size) _
  have hpp : IsTupOf2 (p2.push { cls := .type "tuple", data := .seq #[x1, x2] }) p2.objs.size x1 x2 := Heap.get?_push_size _ rfl
  rw [hsz] at hpp ⊢
  exact hQ x1 x2 _ tk2 hx1 hx2 (Heap.get?_push_of_some _ hz3) (D1.frame _ _ _ (D1.over sn1 hp2 S.sep2_1) fun b _ o e => Heap.get?_push_of_some _ e) (D2.frame _ _ _ sn2 fun b _ o e => Heap.get?_push_of_some _ e) hpp fun c o c1 c2 c3 e => Heap.get?_push_of_some _ (hk c o c1 c2 c3 e)
theorem held_end {Q : PySem.Fin → Shared → Prop} (S : ZipSep2 z TI TO i1 i2 fp1 fp2) (D1 : Draws prog w A i1 fp1 n1 P1 St1) (D2 : Draws prog w A i2 fp2 n2 P2 St2) (hz : IsZipHeld s.heap z TI TO T f) (hT : s.heap.get? T = some oT) (hTI : IsTupOf2 s.heap TI (.ref i1) (.ref i2))
    (st1 : St1 i s.heap) (st2 : St2 i s.heap) (l1 : i ≤ n1) (l2 : i ≤ n2) (hend : i = n1 ∨ i = n2)
    (hE : ∀ h' tk e, (∀ c o, c ≠ z → c ≠ i1 → c ≠ i2 → s.heap.get? c = some o → h'.get? c = some o) → (∃ o, h'.get? e = some o ∧ o.cls = .type "StopIteration") → E (.ref e) { s with heap := h', toks := tk }) :
    wpAny (model prog w) A (Builtin.«zip.__next__» ⟨[.ref z], []⟩) Q E s := by
  obtain ⟨hp, g, d, tk0, os⟩ := s
  show wpAny _ _ (field (.ref z) 2 >>= _) _ _ _
  refine wpAny_bind (wpAny_field hz rfl (x := .bool false) rfl ?_)
  show wpAny _ _ (field (.ref z) 3 >>= _) _ _ _
  refine wpAny_bind (wpAny_field hz rfl (x := .ref TI) rfl (wpAny_bind (wpAny_seqItems hTI rfl ?_)))
  show wpAny _ _ (Builtin.SmallTypes.ownedTupleIsFree (.ref z) >>= _) _ _ _
  refine wpAny_bind (wpAny_tupleHeld_zip hz hT fun g0 hz0 hs0 => ?_)
  replace hs0 : Heap.SameBut z hp g0 := hs0
  simp only [Bool.false_eq_true, if_false]
  refine wpAny_bind ?_
  rw [← Array.forIn_toList]
  simp only [List.forIn_cons, List.forIn_nil]
  refine wpAny_bind (wpAny_bind (wpAny_holding ?_))
  show wpAny _ _ (Builtin.SmallTypes.nextOf (.ref i1) >>= _) _ _ ⟨g0, g, d, tk0, os⟩
  by_cases e1 : i = n1
  · refine wpAny_bind (D1.done _ _ _ (D1.over (by rw [← e1]; exact st1) hs0 S.zf1) fun p1 e hp1 he => ?_)
    exact hE p1 tk0 e (fun c o c1 c2 _ x => hp1 _ _ c2 (hs0.extBut _ _ c1 x)) he
  · have e2 : i = n2 := by omega
    refine wpAny_bind (D1.item i _ _ _ (by omega) (D1.over st1 hs0 S.zf1) fun x1 p1 tk1 hx1 sn1 hp1 => wpAny_pure (wpAny_pure ?_))
    replace hp1 : Heap.SameBut i1 g0 p1 := hp1
    refine wpAny_bind (wpAny_bind (wpAny_holding ?_))
    show wpAny _ _ (Builtin.SmallTypes.nextOf (.ref i2) >>= _) _ _ ⟨p1, g, d, tk1, os⟩
    refine wpAny_bind (D2.done _ _ _ (D2.over (D2.over (by rw [← e2]; exact st2) hs0 S.zf2) hp1 S.sep1_2) fun p2 e hp2 he => ?_)
    exact hE p2 tk1 e (fun c o c1 c2 c3 x => hp2 _ _ c3 (hp1.extBut _ _ c2 (hs0.extBut _ _ c1 x))) he
theorem next_held {Q : Option Value → Shared → Prop} (S : ZipSep2 z TI TO i1 i2 fp1 fp2) (D1 : Draws prog w A.in1 i1 fp1 n1 P1 St1) (D2 : Draws prog w A.in1 i2 fp2 n2 P2 St2) (hz : IsZipHeld s.heap z TI TO T f) (hT : s.heap.get? T = some oT) (hTI : IsTupOf2 s.heap TI (.ref i1) (.ref i2))
    (st1 : St1 i s.heap) (st2 : St2 i s.heap) (l1 : i < n1) (l2 : i < n2)
    (hQ : ∀ x y h' tk, P1 i x → P2 i y → IsZipHeld h' z TI TO T true → St1 (i + 1) h' → St2 (i + 1) h' → IsTupOf2 h' s.heap.objs.size x y → (∀ c o, c ≠ z → c ≠ i1 → c ≠ i2 → s.heap.get? c = some o → h'.get? c = some o) → Q (some (.ref s.heap.objs.size)) { s with heap := h', toks := tk }) :
    wpAny (model prog w) A (pyNext (.ref z)) Q E s := by
  have hTy : s.TypeIs (.ref z) "zip" := ⟨_, hz, rfl⟩
  unfold pyNext
  exact wpAny_bind (wpAny_attempt (wpAny_callSpecial?_slot (name := Str.ofString "__next__") hTy F.slot_zip_next
    (wpAny_call_entry F.slot_zip_next hTy F.entry_zip_next (held_item S D1 D2 hz hT hTI st1 st2 l1 l2 fun x y h' tk a1 a2 a3 a4 a5 a6 a7 => wpAny_pure (hQ x y h' tk a1 a2 a3 a4 a5 a6 a7)) (F.args_zip_next_1 _))))
theorem end_held {Q : Option Value → Shared → Prop} (S : ZipSep2 z TI TO i1 i2 fp1 fp2) (D1 : Draws prog w A.in1 i1 fp1 n1 P1 St1) (D2 : Draws prog w A.in1 i2 fp2 n2 P2 St2) (hz : IsZipHeld s.heap z TI TO T f) (hT : s.heap.get? T = some oT) (hTI : IsTupOf2 s.heap TI (.ref i1) (.ref i2))
    (st1 : St1 i s.heap) (st2 : St2 i s.heap) (l1 : i ≤ n1) (l2 : i ≤ n2) (hend : i = n1 ∨ i = n2)
    (hQ : ∀ h' tk, (∀ c o, c ≠ z → c ≠ i1 → c ≠ i2 → s.heap.get? c = some o → h'.get? c = some o) → Q none { s with heap := h', toks := tk }) : wpAny (model prog w) A (pyNext (.ref z)) Q E s := by
  have hTy : s.TypeIs (.ref z) "zip" := ⟨_, hz, rfl⟩
  unfold pyNext
  refine wpAny_bind (wpAny_attempt (wpAny_callSpecial?_slot (name := Str.ofString "__next__") hTy F.slot_zip_next
    (wpAny_call_entry F.slot_zip_next hTy F.entry_zip_next (held_end S D1 D2 hz hT hTI st1 st2 l1 l2 hend fun h' tk e hk he => ?_) (F.args_zip_next_1 _))))
  obtain ⟨o, ho, hc⟩ := he
  refine wpAny_bind (wpAny_isInstance (T := "StopIteration") (b := true) ⟨o, ho, hc⟩ isSubtype_stop ?_)
  exact wpAny_pure (hQ _ _ hk)
end
/-- zip over any two iterators, as what dict() is given -/
theorem zip_pairs {prog : Program} {w : World} {z TI TO i1 i2 : Addr} {fp1 fp2 : List Addr} {n1 n2 : Nat} {P1 P2 : Nat → Value → Prop} {St1 St2 : Nat → Heap → Prop} (S : ZipSep2 z TI TO i1 i2 fp1 fp2)
    (D1 : ∀ A : Around, A.handled = none → Draws prog w A i1 fp1 n1 P1 St1) (D2 : ∀ A : Around, A.handled = none → Draws prog w A i2 fp2 n2 P2 St2) :
    PairArg prog w "zip" z (z :: TI :: TO :: (fp1 ++ fp2)) [z, TO, i1, i2] (min n1 n2) (fun i k v => P1 i k ∧ P2 i v)
      (fun h => IsZip h z TI TO .none ∧ IsTupOf2 h TI (.ref i1) (.ref i2) ∧ (∃ a b, IsTupOf2 h TO a b) ∧ St1 0 h ∧ St2 0 h ∧ ∀ b ∈ fp1 ++ fp2, ∃ o, h.get? b = some o) where
  type := fun s ok => ⟨_, ok.1, rfl⟩
  notDict := by decide
  keep := fun h h' ok hk => by
    obtain ⟨hz, hTI, ⟨a, b, hTO⟩, h1, h2, h3⟩ := ok
    exact ⟨hk _ _ hz, hk _ _ hTI, ⟨a, b, hk _ _ hTO⟩, (D1 {} rfl).frame _ _ _ h1 fun b _ o e => hk _ o e, (D2 {} rfl).frame _ _ _ h2 fun b _ o e => hk _ o e, fun b hb => let ⟨o, ho⟩ := h3 b hb; ⟨o, hk _ _ ho⟩⟩
  there := fun h ok b hb => by
    obtain ⟨hz, hTI, ⟨a, c, hTO⟩, _, _, h3⟩ := ok
    rcases List.mem_cons.mp hb with rfl | hb
    · exact ⟨_, hz⟩
    rcases List.mem_cons.mp hb with rfl | hb
    · exact ⟨_, hTI⟩
    rcases List.mem_cons.mp hb with rfl | hb
    · exact ⟨_, hTO⟩
    exact h3 b hb
  sub := fun b hb => by
    simp only [List.mem_cons, List.not_mem_nil, or_false] at hb
    rcases hb with rfl | rfl | rfl | rfl
    · simp
    · simp
    · simp [S.mem1]
    · simp [S.mem2]
  noKeys := fun A s Q E hA ok h => getAttrOr_miss_zip ok.1 rfl rfl rfl zip_no_keys (by decide +kernel) hA h
  iter := fun A s d Q E hA ok hd hdf h => by
    obtain ⟨hz, hTI, ⟨a, b, hTO⟩, h1, h2, h3⟩ := ok
    simp only [List.mem_cons, List.mem_append, not_or] at hdf
    obtain ⟨dz, dTI, dTO, df1, df2⟩ := hdf
    have di1 : d ≠ i1 := fun e => df1 (e ▸ S.mem1)
    have di2 : d ≠ i2 := fun e => df2 (e ▸ S.mem2)
    refine wpAny_pyIter_zip hz (h z [z, TO, i1, i2] (fun i h => IsTupOf2 h TI (.ref i1) (.ref i2) ∧ St1 i h ∧ St2 i h ∧ ((IsZip h z TI TO .none ∧ ∃ a b, IsTupOf2 h TO a b) ∨ ∃ T f oT, IsZipHeld h z TI TO T f ∧ h.get? T = some oT ∧ T ≠ z ∧ T ≠ i1 ∧ T ≠ i2 ∧ T ≠ d)) s.heap s.toks ?_
      ⟨hTI, h1, h2, .inl ⟨hz, a, b, hTO⟩⟩ (fun _ _ e => e) fun b hb => .inl hb)
    have up : ∀ {h h' : Heap} {fp : List Addr}, d ∉ fp → (∀ b o, b ≠ d → h.get? b = some o → h'.get? b = some o) → ∀ b ∈ fp, ∀ o, h.get? b = some o → h'.get? b = some o := fun {h h' fp} hf hk b hb o e => hk b o (fun q => hf (q ▸ hb)) e
    exact {
      off := fun hm => by
        simp only [List.mem_cons, List.not_mem_nil, or_false] at hm
        rcases hm with e | e | e | e
        · exact dz e
        · exact dTO e
        · exact di1 e
        · exact di2 e
      frame := fun i g g' st hk => by
        obtain ⟨hTI, h1, h2, hz⟩ := st
        refine ⟨hk _ _ (Ne.symm dTI) hTI, (D1 {} rfl).frame _ _ _ h1 (up df1 hk), (D2 {} rfl).frame _ _ _ h2 (up df2 hk), ?_⟩
        rcases hz with ⟨hz, a, b, hTO⟩ | ⟨T, f, oT, hz, hT, r1, r2, r3, r4⟩
        · exact .inl ⟨hk _ _ (Ne.symm dz) hz, a, b, hk _ _ (Ne.symm dTO) hTO⟩
        · exact .inr ⟨T, f, oT, hk _ _ (Ne.symm dz) hz, hk _ _ r4 hT, r1, r2, r3, r4⟩
      item := fun i t Q1 E1 hi st hds hQ => by
        obtain ⟨hTI, h1, h2, hz⟩ := st
        have l1 : i < n1 := Nat.lt_of_lt_of_le hi (Nat.min_le_left ..)
        have l2 : i < n2 := Nat.lt_of_lt_of_le hi (Nat.min_le_right ..)
        have m1 : t.heap.objs.size ≠ i1 := let ⟨_, e⟩ := (D1 {} rfl).live _ _ h1; Nat.ne_of_gt (Heap.lt_size e)
        have m2 : t.heap.objs.size ≠ i2 := let ⟨_, e⟩ := (D2 {} rfl).live _ _ h2; Nat.ne_of_gt (Heap.lt_size e)
        rcases hz with ⟨hz, a, b, hTO⟩ | ⟨T, f, oT, hz, hT, r1, r2, r3, r4⟩
        · refine wpAny_pyNext_zipD2_item S (D1 _ hA) (D2 _ hA) hz hTI hTO h1 h2 l1 l2 fun x y h' tk b1 b2 a1 a2 a3 a4 a5 a6 hk => ?_
          exact hQ t.heap.objs.size _ _ h' tk ⟨b1, b2⟩ (.inl ⟨_, a5, rfl, _, rfl⟩) ⟨hk _ _ S.TIz S.TITO S.TIi1 S.TIi2 hTI, a3, a4, .inr ⟨t.heap.objs.size, false, _, a1, a5, Nat.ne_of_gt (Heap.lt_size hz), m1, m2, Nat.ne_of_gt hds⟩⟩
            fun c o hc e => hk c o (fun x => hc (by simp [x])) (fun x => hc (by simp [x])) (fun x => hc (by simp [x])) (fun x => hc (by simp [x])) e
        · refine next_held S (D1 _ hA) (D2 _ hA) hz hT hTI h1 h2 l1 l2 fun x y h' tk b1 b2 a1 a3 a4 a5 hk => ?_
          exact hQ t.heap.objs.size _ _ h' tk ⟨b1, b2⟩ (.inl ⟨_, a5, rfl, _, rfl⟩) ⟨hk _ _ S.TIz S.TIi1 S.TIi2 hTI, a3, a4, .inr ⟨T, true, oT, a1, hk _ _ r1 r2 r3 hT, r1, r2, r3, r4⟩⟩
            fun c o hc e => hk c o (fun x => hc (by simp [x])) (fun x => hc (by simp [x])) (fun x => hc (by simp [x])) e
      done := fun t Q1 E1 st hQ => by
        obtain ⟨hTI, h1, h2, hz⟩ := st
        rcases hz with ⟨hz, a, b, hTO⟩ | ⟨T, f, oT, hz, hT, r1, r2, r3, r4⟩
        · exact wpAny_pyNext_zipD2_end S (D1 _ hA) (D2 _ hA) hz hTI hTO h1 h2 (Nat.min_le_left ..) (Nat.min_le_right ..) (by omega) fun h' tk hk => hQ h' tk fun c o hc e => hk c o (fun x => hc (by simp [x])) (fun x => hc (by simp [x])) (fun x => hc (by simp [x])) (fun x => hc (by simp [x])) e
        · exact end_held S (D1 _ hA) (D2 _ hA) hz hT hTI h1 h2 (Nat.min_le_left ..) (Nat.min_le_right ..) (by omega) fun h' tk hk => hQ h' tk fun c o hc e => hk c o (fun x => hc (by simp [x])) (fun x => hc (by simp [x])) (fun x => hc (by simp [x])) e }
/-! ### the expression dict(zip(a, b)) -/
section
variable {X : Cx} {pins : List (Addr × Obj)} {σ : L2.St} {H : Hp} {s : Shared}
theorem src_of (I : Inv X pins σ H s) {a : Addr} {xs : List V} (h : SqX X.K H a xs ∨ SqT X.K H a xs) : ∃ (its : List Value) (o : Obj) (Hh : Heap → Prop) (St : Addr → Nat → Heap → Prop), Vals xs its ∧ xs.length ≤ sizeLine ∧ Begins (.ref a) o Hh ∧ Hh s.heap ∧ a < s.heap.objs.size ∧
    (∀ (it : Addr) (A : Around), a ≠ it → A.handled = none → Draws X.prog X.w A it [it, a] its.length (fun i v => its.toArray[i]? = some v) (St it)) ∧
    ∀ it (h' : Heap), h'.get? it = some o → (∀ b u, s.heap.get? b = some u → h'.get? b = some u) → St it 0 h' := by
  rcases h with h | h
  · obtain ⟨its, r, pl, hz⟩ := I.list h.sq
    refine ⟨its, _, _, (fun it i h => h.IsListIter it a i ∧ h.IsList a its.toArray), r, hz, begins_list a its.toArray, pl.isList, pl.lt, fun it A ne hA => ?_, fun it h' e k => ?_⟩
    · have := Draws.list (prog := X.prog) (w := X.w) hA it a ne its.toArray
      simpa using this
    · exact ⟨⟨_, e, rfl, rfl⟩, pl.isList.at fun o q => k _ _ q⟩
  · obtain ⟨its, r, ⟨o, ho, hc, n, hd⟩, hz⟩ := I.tuple h
    refine ⟨its, _, _, (fun it i h => h.IsTupleIter it a i ∧ h.IsTuple a its.toArray), r, hz, begins_tuple a its.toArray, ⟨o, ho, hc, n, hd⟩, Heap.lt_size ho, fun it A ne hA => ?_, fun it h' e k => ?_⟩
    · have := Draws.tuple (prog := X.prog) (w := X.w) hA it a ne its.toArray
      simpa using this
    · exact ⟨⟨_, e, rfl, rfl⟩, ⟨o, k _ _ ho, hc, n, hd⟩⟩
theorem src_there (I : Inv X pins σ H s) {a : Addr} {xs : List V} (h : SqX X.K H a xs ∨ SqT X.K H a xs) : ∃ o, s.heap.get? a = some o := by
  rcases h with h | h
  · obtain ⟨its, r, pl, hz⟩ := I.list h.sq
    obtain ⟨o, ho, _⟩ := pl.isList
    exact ⟨o, ho⟩
  · obtain ⟨its, r, ⟨o, ho, _⟩, hz⟩ := I.tuple h
    exact ⟨o, ho⟩
theorem key_at : ∀ {ks : List Key} {us : List Value}, Vals (ks.map kV) us → ∀ {i : Nat} {u : Value}, us[i]? = some u → ∃ k, ks[i]? = some k ∧ RelV (kV k) u
  | [], _, .nil, i, u, e => by simp at e
  | k :: ks, _, .cons r t, 0, u, e => by simp at e; subst e; exact ⟨k, rfl, r⟩
  | k :: ks, _, .cons r t, i + 1, u, e => by
    obtain ⟨k', e1, e2⟩ := key_at t (i := i) (u := u) (by simpa using e)
    exact ⟨k', by simpa using e1, e2⟩
theorem kv_zip : ∀ (ks : List Key) {ys : List V} {us : List Value}, Vals ys us → KV (ks.zip ys) (ks.zip us)
  | [], _, _, _ => .nil
  | k :: ks, _, _, .nil => by rw [List.zip_nil_right, List.zip_nil_right]; exact .nil
  | k :: ks, _, _, .cons r t => by rw [List.zip_cons_cons, List.zip_cons_cons]; exact .cons ⟨rfl, r⟩ (kv_zip ks t)
def tDZ (K : PySem.W.Frag) (t : TA) : TE := fun σ H Q => t σ H fun vs H1 => ∃ (a b : Addr) (ks : List Key) (ys : List V), vs = [.ref a, .ref b] ∧ (SqX K H1 a (ks.map kV) ∨ SqT K H1 a (ks.map kV)) ∧ (SqX K H1 b ys ∨ SqT K H1 b ys) ∧ ∀ p, H1 p = none → Q (.ref p) (upd H1 p (.dK (mergeK [] (ks.zip ys))))
theorem pe_dz {t : TA} {a b : Expr} {p p2 pos pos2 : Pos} (zx : ZX X) (hg : Gl X "dict") (hm : X.mg "dict" = none) (hg2 : Gl X "zip") (hm2 : X.mg "zip" = none) (ha : PA X [a, b] t)
    (hs : starEach [a, b] X.env = (false, eval a X.env) :: starEach [b] X.env := by rfl) (hpl : (backTo pos2 (starEach [b] X.env)).any (·.1) = false := by rfl)
    (hs1 : starEach [Expr.Call (.Name "zip" p2) [a, b] [] pos2] X.env = (false, eval (.Call (.Name "zip" p2) [a, b] [] pos2) X.env) :: starEach [] X.env := by rfl) :
    PE X (.Call (.Name "dict" p) [.Call (.Name "zip" p2) [a, b] [] pos2] [] pos) (tDZ X.K t) := by
  refine ⟨fun pins s σ H Q I h => wpAny_Call_Name_kw (ld_blt (u := .type "dict") I hg hm (by decide +kernel) (PyProof.Rows.callWith_type1 ?_ hs1 rfl))⟩
  rw [hs1]
  show wpAny _ _ (spliced ((false, eval (.Call (.Name "zip" p2) [a, b] [] pos2) X.env) :: backTo pos (starEach [] X.env))) _ _ s
  refine Calls.spliced_cons (wpAny_Call_Name_kw (ld_blt I hg2 hm2 PyProof.Rows.boot_zip (PyProof.Rows.callWith_type1 (thn (ha.run pos2 pins s σ H _ I h) fun us s1 ⟨vs, H1, I1, r1, q1⟩ => ?_) hs hpl)))
  obtain ⟨l1, l2, ks, ys, rfl, q1, q2, q⟩ := q1
  cases r1 with
  | cons r rr =>
    cases rr with
    | cons r' rr =>
      cases rr
      cases r
      cases r'
      obtain ⟨its1, o1, G1, St1, v1, z1, B1, g1, lt1, D1, T1⟩ := src_of I1 q1
      obtain ⟨its2, o2, G2, St2, v2, z2, B2, g2, lt2, D2, T2⟩ := src_of I1 q2
      refine zip_begins2 B1 B2 g1 g2 fun h' hz hTI hTO e1 e2 hsz hk => ?_
      refine Calls.spliced_nil ?_
      have hl1 : (ks.map kV).length = its1.length := v1.length
      have hl2 : ys.length = its2.length := v2.length
      rw [List.length_map] at hl1 z1
      have S := zip_sep2 (N := s1.heap.objs.size) (fp1 := [l1]) (fp2 := [l2]) (fun b hb => by rw [List.mem_singleton.mp hb]; exact lt1) (fun b hb => by rw [List.mem_singleton.mp hb]; exact lt2)
      have P := zip_pairs (prog := X.prog) (w := X.w) S (fun A hA => D1 _ A (Nat.ne_of_lt lt1) hA) (fun A hA => D2 _ A (Nat.ne_of_lt (Nat.lt_succ_of_lt lt2)) hA)
      have hn : (ks.zip its2).length = min its1.length its2.length := by rw [List.length_zip, hl1]
      refine call_dict_pairs (s := { s1 with heap := h' }) (knd := mixKind X.prog X.w) (kvs := ks.zip its2) P (I1.ok.hd zx.calm) ⟨hz, hTI, ⟨_, _, hTO⟩, T1 _ _ e1 hk, T2 _ _ e2 hk, fun b hb => ?_⟩ ⟨hn, fun i key v hr => ?_⟩ (by omega) fun h'' tk hd' hk2 => ?_
      · simp only [List.mem_append, List.mem_cons, List.not_mem_nil, or_false] at hb
        obtain ⟨p1, hp1⟩ := src_there I1 q1
        obtain ⟨p2, hp2⟩ := src_there I1 q2
        rcases hb with (rfl | rfl) | rfl | rfl
        · exact ⟨_, e1⟩
        · exact ⟨_, hk _ _ hp1⟩
        · exact ⟨_, e2⟩
        · exact ⟨_, hk _ _ hp2⟩
      · obtain ⟨ek, ev⟩ := hr
        have ek' : its1[i]? = some key := by simpa using ek
        have ev' : its2[i]? = some v := by simpa using ev
        obtain ⟨k, k1, k2⟩ := key_at v1 ek'
        exact ⟨k, List.getElem?_zip_eq_some.mpr ⟨k1, ev'⟩, kV_is k2⟩
      · have k3 : ∀ b u, s1.heap.get? b = some u → h''.get? b = some u := fun b u e => hk2 b u (fun hm => by
          have hb := Heap.lt_size e
          simp only [List.mem_cons, List.not_mem_nil, or_false] at hm
          have low : ∀ n : Nat, ¬ (s1.heap.objs.size + n < s1.heap.objs.size) := fun n => by omega
          rcases hm with h | h | h | h
          · rw [h] at hb; exact low 4 hb
          · rw [h] at hb; exact low 3 hb
          · rw [h] at hb; exact low 0 hb
          · rw [h] at hb; exact low 1 hb) (hk b u e)
        have rel := kv_zip ks v2
        have hm0 : (h'.objs.size == sysModules) = false := beq_eq_false_iff_ne.mpr (Nat.ne_of_gt (Nat.lt_of_lt_of_le I1.big (by omega)))
        have hlen : (mergeK [] (ks.zip ys)).length ≤ sizeLine := by
          refine Nat.le_trans (length_mergeK (ks.zip ys) []) ?_
          rw [List.length_nil, Nat.zero_add, List.length_zip]
          exact Nat.le_trans (Nat.min_le_left _ _) z1
        have J := Inv.laid (a := h'.objs.size) (o := .dK (mergeK [] (ks.zip ys))) (t' := tk) I1 k3 (by omega) ⟨hlen, hm0, merged [] (ks.zip its2), KV.merge rel .nil, hd'⟩
        exact ⟨.ref h'.objs.size, _, J, rfl, q _ (I1.hok.fresh (by omega))⟩
def keysOf : List D → Option (List Key)
  | [] => some []
  | .p x :: r => match kOf x, keysOf r with
    | some k, some ks => some (k :: ks)
    | _, _ => none
  | .ref _ :: _ => none
theorem keys_is {K : PySem.W.Frag} {θ : List Addr} {H : Hp} : ∀ {vs : List V} {ds : List D} {ks : List Key}, Drs K θ H vs ds → keysOf ds = some ks → vs = ks.map kV
  | _, _, ks, .nil, e => by cases e; rfl
  | _, .p x :: ds, ks, .cons a b, e => by
    unfold keysOf at e
    cases q1 : kOf x with
    | none => rw [q1] at e; cases e
    | some k =>
      cases q2 : keysOf ds with
      | none => rw [q1, q2] at e; cases e
      | some ks' =>
        rw [q1, q2] at e
        cases e
        rw [List.map_cons, ← keys_is b q2, kv_is a q1]
  | _, .ref _ :: _, _, .cons _ _, e => by cases e
theorem kd_zip {K : PySem.W.Frag} {θ : List Addr} {H : Hp} : ∀ (ks : List Key) {vs : List V} {ds : List D}, Drs K θ H vs ds → KD K θ H (ks.zip vs) (ks.zip ds)
  | [], _, _, _ => .nil
  | k :: ks, _, _, .nil => by rw [List.zip_nil_right, List.zip_nil_right]; exact .nil
  | k :: ks, _, _, .cons a b => by rw [List.zip_cons_cons, List.zip_cons_cons]; exact .cons ⟨rfl, a⟩ (kd_zip ks b)
variable {E : XK} {a b : Expr} {ca cb : ZC}
/-- dict(zip(a, b)) -/
def zdz (x y : D) (M : Store) : Out D := match seqv M x, seqv M y with
  | some xs, some ys => match keysOf xs with
    | some ks => .ok (.ref M.length) (M ++ [.dic (mergeD [] (ks.zip ys))])
    | none => .stuck
  | _, _ => .stuck
theorem ZE.dz {p p2 pos pos2 : Pos} (zx : ZX X) (hg : Gl X "dict") (hm : X.mg "dict" = none) (hg2 : Gl X "zip") (hm2 : X.mg "zip" = none) (ha : ZE X E a ca) (hb : ZE X E b cb)
    (hs : starEach [a, b] X.env = (false, eval a X.env) :: starEach [b] X.env := by rfl) (hs2 : starEach [b] X.env = (false, eval b X.env) :: starEach [] X.env := by rfl) (hpl : (backTo pos2 (starEach [b] X.env)).any (·.1) = false := by rfl)
    (hs1 : starEach [Expr.Call (.Name "zip" p2) [a, b] [] pos2] X.env = (false, eval (.Call (.Name "zip" p2) [a, b] [] pos2) X.env) :: starEach [] X.env := by rfl) :
    ZE X E (.Call (.Name "dict" p) [.Call (.Name "zip" p2) [a, b] [] pos2] [] pos) (z2 zdz ca cb) := by
  obtain ⟨ta, pa, qa⟩ := ha
  obtain ⟨tb, pb, qb⟩ := hb
  refine ⟨_, pe_dz zx hg hm hg2 hm2 (pa_cons pa (pa_cons pb pa_nil hs2) hs) hs hpl hs1, fun σ H θ sl M Q hs hm h => ?_⟩
  refine qa σ H θ sl M _ hs hm (Post.bind h fun x M1 v H1 θ1 g1 m1 r1 h1 => ?_)
  refine qb σ H1 θ1 sl M1 _ (hs.go g1) m1 (Post.bind h1 fun y M2 u H2 θ2 g2 m2 r2 h2 => ?_)
  unfold zdz at h2
  split at h2
  · rename_i xs ys e1 e2
    split at h2
    · rename_i ks e3
      obtain ⟨ad, vs, rfl, hp, dp⟩ := seqv_ok m2 (r1.go g2) e1
      obtain ⟨bd, ws, rfl, hp2, dp2⟩ := seqv_ok m2 r2 e2
      have ev := keys_is dp e3
      subst ev
      exact ⟨ad, bd, ks, ws, rfl, hp, hp2, fun p hp => new_dic h2 m2 (kd_merge (kd_zip ks dp2) .nil) hp⟩
    · exact h2.elim
  · exact h2.elim
end
end Z

/-! Z: isinstance; x[::-1] of lists and tuples. -/
namespace HT
open PySem PySem.Spec PyProof.Rows
section
variable {prog : Program} {w : World} {A : Around} {E : Value → Shared → Prop} {s : Shared}
theorem sliceApplied_rev {sl : Addr} {vl vu vs : Value} {n : Nat} {Q : Int × Int × Nat → Shared → Prop} (hs : s.heap.IsSliceOf sl vl vu vs) (pl : IsPart vl none) (pu : IsPart vu none) (ps : IsPart vs (some (-1)))
    (h : Q (((n : Int) - 1), -1, n) s) : wpAny (model prog w) A (Builtin.Slice.sliceApplied (.ref sl) (pure (n : Int))) Q E s := by
  obtain ⟨os, hos, hcs, hds⟩ := id hs
  unfold Builtin.Slice.sliceApplied Builtin.Slice.sliceFields
  refine wpAny_bind (wpAny_bind (wpAny_field hos hds (x := vl) rfl (wpAny_bind (wpAny_field hos hds (x := vu) rfl (wpAny_bind (wpAny_field hos hds (x := vs) rfl (wpAny_pure ?_)))))))
  refine wpAny_bind (slicePart_ ps ?_)
  show wpAny _ _ (if ((-1 : Int) == 0) = true then _ else _) _ _ s
  rw [if_neg (by decide)]
  refine wpAny_bind (slicePart_ pl (wpAny_bind (slicePart_ pu (wpAny_bind (wpAny_pure ?_)))))
  show wpAny _ _ (match Builtin.Slice.sliceAdjust none none (-1) (n : Int) with | (lo, hi) => pure (lo, (-1 : Int), Builtin.Slice.slicePlaces lo hi (-1))) _ _ s
  have e : Builtin.Slice.sliceAdjust none none (-1) (n : Int) = ((n : Int) - 1, -1) := by
    simp [Builtin.Slice.sliceAdjust]
  rw [e]
  have e2 : Builtin.Slice.slicePlaces ((n : Int) - 1) (-1) (-1) = n := by
    unfold Builtin.Slice.slicePlaces
    simp
    try omega
  show wpAny _ _ (pure ((n : Int) - 1, (-1 : Int), Builtin.Slice.slicePlaces ((n : Int) - 1) (-1) (-1))) _ _ s
  rw [e2]
  exact wpAny_pure h
theorem pick_rev (xs : Array Value) : ((List.range xs.size).filterMap fun (m : Nat) => xs[(((xs.size : Int) - 1) + (m : Int) * (-1)).toNat]?).toArray = xs.toList.reverse.toArray := by
  have e : (List.range xs.size).filterMap (fun (m : Nat) => xs[(((xs.size : Int) - 1) + (m : Int) * (-1)).toNat]?) = ((List.range xs.size).map fun k => xs.size - 1 - k).filterMap (xs[·]?) := by
    rw [List.filterMap_map]
    have aux : ∀ l : List Nat, (∀ m ∈ l, m < xs.size) → l.filterMap (fun (m : Nat) => xs[(((xs.size : Int) - 1) + (m : Int) * (-1)).toNat]?) = l.filterMap ((fun x => xs[x]?) ∘ fun k => xs.size - 1 - k) := by
      intro l
      induction l with
      | nil => intro _; rfl
      | cons m l ih =>
        intro hl
        have q : (((xs.size : Int) - 1) + (m : Int) * (-1)).toNat = xs.size - 1 - m := by have := hl m (List.mem_cons_self ..); omega
        rw [List.filterMap_cons, List.filterMap_cons, ih fun m hm => hl m (List.mem_cons_of_mem _ hm), q]
        rfl
    exact aux _ fun m hm => List.mem_range.mp hm
  rw [e, PySem.W.krv_range, List.filterMap_reverse, PySem.W.krv_all]
theorem getItem_tuple_rev {t sl : Addr} {items : Array Value} {vl vu vs : Value} {Q : Value → Shared → Prop} (ht : IsTup s.heap t items) (hs : s.heap.IsSliceOf sl vl vu vs) (pl : IsPart vl none) (pu : IsPart vu none) (ps : IsPart vs (some (-1)))
    (h : Q (.ref s.heap.objs.size) { s with heap := s.heap.push { cls := .type "tuple", data := .seq items.toList.reverse.toArray } })
    (hsz : items.size ≤ sizeLine) : wpAny (model prog w) A (getItem (.ref t) (.ref sl)) Q E s := by
  have htake : sizeOk (.seq items.toList.reverse.toArray) := by
    show items.toList.reverse.toArray.size ≤ sizeLine
    rw [List.size_toArray, List.length_reverse, Array.length_toList]
    exact hsz
  obtain ⟨os, hos, hcs, hds⟩ := id hs
  have hTs : s.TypeIs (.ref sl) "slice" := ⟨os, hos, hcs⟩
  unfold getItem
  try with_reducible refine wpAny_holding ?_
  first | refine wpAny_bind (wpAny_pure ?_) | skip
  refine wpAny_bind (wpAny_sequenceKey ht.typeIs (by decide) ?_)
  refine wpAny_bind (wpAny_callSpecial?_slot (name := Str.ofString "__getitem__") ht.typeIs PyProof.Rows.slot_tuple_getitem
    (wpAny_call_entry PyProof.Rows.slot_tuple_getitem ht.typeIs entry_tuple_getitem ?_ (args_tuple_getitem _ _)))
  show wpAny _ _ (Builtin.Tuple.tupleItemsOf (.ref t) >>= _) _ _ s
  refine wpAny_bind (tupleItemsOf_ ht ?_)
  refine wpAny_bind (wpAny_typeOf hTs ?_)
  rw [if_pos (by decide)]
  refine wpAny_bind (sliceApplied_rev hs pl pu ps ?_)
  have hno : ¬ ((((items.size : Int) - 1) == 0 && (-1 : Int) == 1 && items.size == items.size) = true) := by
    simp
  show wpAny _ _ (if (((items.size : Int) - 1) == 0 && (-1 : Int) == 1 && items.size == items.size) = true then _ else _) _ _ s
  rw [if_neg hno, pick_rev]
  first
    | exact wpAny_bind (m := Builtin.Tuple.tupleExact _) (wpAny_newObj_type (wpAny_pure ⟨_, rfl, wpAny_pure h⟩) htake)
    | exact wpAny_bind (m := Builtin.Tuple.tupleExact _) (wpAny_newObj_type (wpAny_bind (wpAny_pure (wpAny_pure ⟨_, rfl, wpAny_pure h⟩))) htake)
    | exact wpAny_bind (wpAny_bind (m := Builtin.Tuple.tupleExact _) (wpAny_newObj_type (wpAny_pure (wpAny_pure ⟨_, rfl, wpAny_pure h⟩)) htake))
    | exact wpAny_bind (wpAny_bind (m := Builtin.Tuple.tupleExact _) (wpAny_newObj_type (wpAny_pure ⟨_, rfl, wpAny_pure h⟩) htake))
end
end HT
namespace Z
open PySem PySem.Spec PyProof.Rows L2
section
variable {X : Cx} {E : XK} {a : Expr} {ca : ZC} {pos : Pos}
def tRevT (K : PySem.W.Frag) (te : TE) : TE := fun σ H Q => te σ H fun x H1 => ∃ a xs, x = .ref a ∧ ((SqL K H1 a xs ∧ ∀ p, H1 p = none → Q (.ref p) (upd H1 p (.lst xs.reverse))) ∨ (SqT K H1 a xs ∧ ∀ p, H1 p = none → Q (.ref p) (upd H1 p (.tup xs.reverse))))
theorem pe_revLT {e : Expr} {te : TE} {k : Nat} {p1 p2 p3 pos : Pos} (he : PE X e te) : PE X (.Subscript e (.Slice none none (some (.UnaryOp .USub (.Constant (.int 1) k p1) p2)) p3) pos) (tRevT X.K te) := by
  refine ⟨fun pins s σ H Q I h => ?_⟩
  refine Subscript_ (thn (he.run pins s σ H _ I h) fun v s1 ⟨x, H1, I1, r1, q1⟩ => ?_)
  obtain ⟨a, xs, ex, q⟩ := q1
  subst ex
  cases r1
  have hst : PO X (some (.UnaryOp .USub (.Constant (.int 1) k p1) p2)) (tPart (tUn (rU fun i => .int (-i)) (tC (.int 1)))) := po_some (pe_un un_neg pe_int)
  refine wpAny_Slice (thn (po_none.run pins s1 σ H1 (fun o H2 => o = none ∧ H2 = H1) I1 ⟨rfl, rfl⟩) fun vl s2 ⟨l, H2, I2, pl, el, e2⟩ => ?_)
  subst el e2
  refine thn (po_none.run pins s2 σ H2 (fun o H3 => o = none ∧ H3 = H2) I2 ⟨rfl, rfl⟩) fun vu s3 ⟨u, H3, I3, pu, eu, e3⟩ => ?_
  subst eu e3
  refine thn (hst.run pins s3 σ H3 (fun o H4 => o = some (-1) ∧ H4 = H3) I3 ⟨1, rfl, -1, rfl, rfl, rfl⟩) fun vs s4 ⟨o, H4, I4, ps, eo, e4⟩ => ?_
  subst eo e4
  have I5 : Inv X pins σ H4 { s4 with heap := s4.heap.push { cls := .type "slice", data := .fields #[vl, vu, vs] } } := I4.kept (t' := s4.toks) fun b ob q => Heap.get?_push_of_some _ q
  rcases q with ⟨hx, q⟩ | ⟨hx, q⟩
  · obtain ⟨its, r, ht, hz⟩ := I5.list hx
    have hlen := r.length
    show wpAny (model X.prog X.w) X.A (subscriptTail e (.Slice none none (some (.UnaryOp .USub (.Constant (.int 1) k p1) p2)) p3) (.ref a) (.ref s4.heap.objs.size)) (EP X pins σ Q) X.xe { s4 with heap := s4.heap.push { cls := .type "slice", data := .fields #[vl, vu, vs] } }
    refine tail_any (ops := [.ref a, .ref s4.heap.objs.size]) ht.isList.typeIs (PySem.slot_list_getitem.lookup) ?_ (by with_unfolding_all rfl)
    refine wpAny_getItem_list_slice ht.isList (Heap.IsSliceOf.new _ vl vu vs) pl pu ps (by decide) ?_ (by rw [List.size_toArray]; omega)
    rw [PySem.W.krv_pick]
    refine ⟨.ref _, _, I5.laid (t' := s4.toks) (o := .lst xs.reverse) (fun b ob q => Heap.get?_push_of_some _ q) (Nat.le_refl _) ?_, rfl, q _ (I5.hok.fresh (Nat.le_refl _))⟩
    exact ⟨by rw [List.length_reverse]; exact hz, _, 0, r.reverse, Heap.get?_push_size _ rfl⟩
  · obtain ⟨its, r, ht, hz⟩ := I5.tuple hx
    have hlen := r.length
    show wpAny (model X.prog X.w) X.A (subscriptTail e (.Slice none none (some (.UnaryOp .USub (.Constant (.int 1) k p1) p2)) p3) (.ref a) (.ref s4.heap.objs.size)) (EP X pins σ Q) X.xe { s4 with heap := s4.heap.push { cls := .type "slice", data := .fields #[vl, vu, vs] } }
    refine tail_any (ops := [.ref a, .ref s4.heap.objs.size]) ht.typeIs (PyProof.Rows.slot_tuple_getitem.lookup) ?_ (by with_unfolding_all rfl)
    refine HT.getItem_tuple_rev ht (Heap.IsSliceOf.new _ vl vu vs) pl pu ps ?_ (by rw [List.size_toArray]; omega)
    refine ⟨.ref _, _, I5.laid (t' := s4.toks) (o := .tup xs.reverse) (fun b ob q => Heap.get?_push_of_some _ q) (Nat.le_refl _) ?_, rfl, q _ (I5.hok.fresh (Nat.le_refl _))⟩
    exact ⟨by rw [List.length_reverse]; exact hz, _, r.reverse, IsTup.new _ _⟩
def zRev (d : D) (M : Store) : Out D := match d with
  | .p (.tuple xs) => .ok (.p (.tuple xs.reverse)) M
  | d => match lstv M d with
    | some ds => frzl ds.reverse M
    | none => .stuck
theorem ZE.rev {k : Nat} {p1 p2 p3 pos : Pos} (ha : ZE X E a ca) : ZE X E (.Subscript a (.Slice none none (some (.UnaryOp .USub (.Constant (.int 1) k p1) p2)) p3) pos) (z1 zRev ca) := by
  obtain ⟨t, pa, q⟩ := ha
  refine ⟨_, pe_orfrz (pe_revLT pa), fun σ H θ sl M Q hs hm h => q σ H θ sl M _ hs hm (Post.bind h fun x M1 v H1 θ1 g1 m1 r1 h1 => ?_)⟩
  unfold zRev at h1
  split at h1
  · rename_i xs
    cases r1 with
    | tup k1 k2 => exact ⟨_, _, rfl, .inr ⟨k1, fun p hp => .inr (new_tup h1 m1 (FzAll.of (paired_reverse k2.paired)) hp)⟩⟩
  · split at h1
    · rename_i ds e1
      obtain ⟨p, vs, rfl, hp, dp⟩ := lstv_ok m1 r1 e1
      obtain ⟨l, kk⟩ := frzl_ok h1 m1 (paired_reverse dp)
      exact ⟨_, _, rfl, .inl ⟨hp.sq, fun p hp => .inl (kk p hp)⟩⟩
    · exact h1.elim
/-! ### isinstance -/
def tyD (M : Store) : D → Option String
  | .p .none => some "NoneType"
  | .p (.bool _) => some "bool"
  | .p (.int _) => some "int"
  | .p (.str _) => some "str"
  | .p (.tuple _) => some "tuple"
  | .p (.dict _) => some "dict"
  | .p (.list _) => some "list"
  | d => match lstv M d with
    | some _ => some "list"
    | none => match dictv M d with
      | some _ => some "dict"
      | none => none
def zIsi (T : String) (d : D) (M : Store) : Out D := match tyD M d with
  | some t => match kitB t T with
    | some b => .ok (.p (.bool b)) M
    | none => .stuck
  | none => .stuck
theorem ty_lst {K : PySem.W.Frag} {θ : List Addr} {H : Hp} {M : Store} {v : V} {d : D} {ds : List D} (m : SR K θ H M) (r : Dr K θ H v d) (e : lstv M d = some ds) : TyX K H v (.type "list") := by
  obtain ⟨p, vs, rfl, hp, dp⟩ := lstv_ok m r e
  rcases hp with h | ⟨o, h⟩ | ⟨its, n, h, _⟩
  · exact .base (.lst h)
  · exact .base (.frz h)
  · exact .kList h rfl
theorem tyD_ok {K : PySem.W.Frag} {θ : List Addr} {H : Hp} {M : Store} {v : V} {d : D} {t : String} (m : SR K θ H M) (r : Dr K θ H v d) (e : tyD M d = some t) : TyX K H v (.type t) := by
  unfold tyD at e
  split at e
  · cases e; cases r; exact .base .non
  · cases e; cases r; exact .base (.bl _)
  · cases e; cases r; exact .base (.int _)
  · cases e; cases r; exact .base (.str _)
  · cases e
    cases r with
    | tup h k =>
      rcases h with (h | ⟨o, h⟩) | h
      · exact .base (.tup h)
      · exact .fTuple h
      · obtain ⟨o, _, _, h1, h2, _⟩ := h
        exact .kTuple h1 h2
  · cases e
    cases r with
    | dct h k f => exact .fDict h
  · cases e; exact ty_lst m r rfl
  · split at e
    · rename_i ds e1
      cases e
      exact ty_lst m r e1
    · split at e
      · rename_i kvs e1
        cases e
        obtain ⟨p, us, rfl, hp, dp⟩ := dictv_ok m r e1
        rcases hp with h | ⟨o, h⟩
        · exact .base (.dK h)
        · exact .fDict h
      · cases e
theorem ZE.isi {T : String} {x : Str} {p1 p2 pos : Pos} (hg : Gl X "isinstance") (hm : X.mg "isinstance" = none) (hgT : Gl X x) (hmT : X.mg x = none) (hv : bootBuiltins x = some (.type T)) (ha : ZE X E a ca)
    (hn : x ≠ "__name__" := by decide) (hd : (x == ("__debug__" : Str)) = false := by decide)
    (he : starEach [a, Expr.Name x p2] X.env = (false, eval a X.env) :: starEach [Expr.Name x p2] X.env := by rfl) (hs2 : starEach [Expr.Name x p2] X.env = (false, eval (.Name x p2) X.env) :: starEach [] X.env := by rfl)
    (hpl : (backTo pos (starEach [Expr.Name x p2] X.env)).any (·.1) = false := by rfl) :
    ZE X E (.Call (.Name "isinstance" p1) [a, .Name x p2] [] pos) (z1 (zIsi T) ca) := by
  obtain ⟨t, pa, q⟩ := ha
  refine ⟨_, pe_callB call_isi hg hm PyProof.Rows.boot_isinstance (pa_cons pa (pa_cons (pe_bltn (v := .ty T) hgT hmT hv (ClsV.eq (.ty T) rfl).symm hn hd) pa_nil hs2) he) (by decide) (by decide) he hpl, fun σ H θ sl M Q hs hm h => q σ H θ sl M _ hs hm (Post.bind h fun x M1 v H1 θ1 g1 m1 r1 h1 => ?_)⟩
  unfold zIsi at h1
  split at h1
  · rename_i t e1
    split at h1
    · rename_i b e2
      exact ⟨_, _, _, _, b, rfl, .ty T, tyD_ok m1 r1 e1, kit_ty e2, Post.here (b := V.bl b) h1 m1 (.bl b)⟩
    · exact h1.elim
  · exact h1.elim
/-! ### a module's tuple of ints -/
def TupK (K : PySem.W.Frag) (a : Addr) (ds : List P) : Prop := ∃ (ns : List Int) (o : Obj) (its : Array Value) (n : Nat), ds = ns.map .int ∧ K.lookup a = some o ∧ o.cls = .type "tuple" ∧ o.data = .seq its n ∧ its.size ≤ sizeLine ∧ Vals (ns.map V.int) its.toList
theorem fz_intsK {K : PySem.W.Frag} {H : Hp} : ∀ ns : List Int, FzAll K H (ns.map V.int) (ns.map .int)
  | [] => .nil
  | n :: ns => .cons (.int n) (fz_intsK ns)
theorem ZE.gtup {x : Str} {l : Addr} {ds : List P} {pos : Pos} (hg : Gl X x) (hm : X.mg x = some (.ref l)) (hk : TupK X.K l ds) (hd : (x == ("__debug__" : Str)) = false := by decide) : ZE X E (.Name x pos) (zk (.tuple ds)) := by
  obtain ⟨ns, o, its, n, rfl, h1, h2, h3, h4, h5⟩ := hk
  exact ⟨_, pe_glob (v := .ref l) hg hm rfl hd, fun σ H θ sl M Q hs hm h => Post.here (b := V.ref l) (show Post X.K X.mg E (Dr X.K) Q θ H (.ok (.p (.tuple (ns.map .int))) M) from h) hm (Fz.tup (.inr ⟨o, its, n, h1, h2, h3, h4, h5⟩) (fz_intsK ns))⟩
end
end Z

/-! Z: sorted(set(x)), x a list or a tuple of ints. -/
namespace L2
open PySem PySem.Spec PyProof.Rows
section
variable {P : Program} {w : World} {A : Around} {E : Value → Shared → Prop} {s : Shared}
theorem call_set_lstI {l : Addr} {items : Array Value} (ns : List Int) {Q : Value → Shared → Prop} (hh : A.handled = none) (hl : s.heap.IsList l items) (hit : IntsAre items.toList ns) (hb : ns.length + 1 < scanBound)
    (h : ∀ (h' : Heap) (tk c : Nat), SetR w h' s.heap.objs.size (fun j => decide (j ∈ ns)) c → c ≤ ns.length → (∀ b o, s.heap.get? b = some o → h'.get? b = some o) → Q (.ref s.heap.objs.size) { s with heap := h', toks := tk }) :
    wpAny (model P w) A (call (.type "set") [.ref l]) Q E s := by
  have hisz : items.size = ns.length := by
    have q := IntsAre.length hit
    rw [Array.length_toList] at q
    exact q
  obtain ⟨c, tl, hmro⟩ := F.called_set.mro
  have hmade := F.called_set.made
  have hsub := F.called_set.sub
  refine wpAny_call (codeAny_of_tree ?_)
  show wpAny _ _ (callAny (.type "set") _) _ _ _
  refine wpAny_pure ⟨Code.quiet_builtin _ (by decide +kernel), codeAny_builtin F.entry_type_call ?_⟩
  rw [Around.under_plain (weight_type_call_type "set" [.ref l] []) rfl]
  have h1 := F.called_set.notType
  have h2 := F.called_set.canCreate
  have hct := F.typeCall_set_1 (.ref l)
  repeat (any_goals (first | assumption | wp_step))

  refine codeAny_mono (code_set_led1 (.ref l) (E := E) (Q₁ := fun obj s₁ => obj = .ref s.heap.objs.size ∧ s₁ = { s with heap := s.heap.push { cls := .type "set", dict := none, data := .set #[] 0 (.fresh 0 0 (!w.params.followText "set-order")) } }) ⟨rfl, rfl⟩) fun r s₁ hr => ?_
  cases r with
  | error e => exact hr
  | ok fl =>
    cases fl with
    | ret obj =>
      obtain ⟨rfl, rfl⟩ := hr
      have hS : (s.heap.push { cls := .type "set", dict := none, data := .set #[] 0 (.fresh 0 0 (!w.params.followText "set-order")) }).get? s.heap.objs.size = some { cls := .type "set", dict := none, data := .set #[] 0 (.fresh 0 0 (!w.params.followText "set-order")) } := Heap.get?_push_size _ rfl
      have hT : Shared.TypeIs { s with heap := s.heap.push { cls := .type "set", dict := none, data := .set #[] 0 (.fresh 0 0 (!w.params.followText "set-order")) } } (.ref s.heap.objs.size) "set" := ⟨_, hS, rfl⟩
      have hli := F.called_set.init.lookup
      have hbi := F.called_set.init.bind (.ref s.heap.objs.size)
      repeat (any_goals (first | assumption | wp_step))

      refine codeAny_mono (codeAny_call_builtin (R := wants (fun r s₂ => r = .none ∧ ∃ h' tk c, s₂ = { s with heap := h', toks := tk } ∧ SetR w h' s.heap.objs.size (fun j => decide (j ∈ ns)) c ∧ c ≤ ns.length ∧
          (∀ b o, s.heap.get? b = some o → h'.get? b = some o)) E) F.called_set.init.plain F.entry_set_init (check_set_init_1 hT ?_)) fun r₂ s₂ hr₂ => ?_
      · obtain ⟨ol, hol, hcl, nl, hdl⟩ := hl
        obtain ⟨ocls, odict, odata, oslots⟩ := ol
        simp only at hcl hdl
        subst hcl; subst hdl
        have hol' : (s.heap.push { cls := .type "set", dict := none, data := .set #[] 0 (.fresh 0 0 (!w.params.followText "set-order")) }).get? l = some { cls := .type "list", dict := odict, data := .seq items nl, slots := oslots } := Heap.get?_push_of_some _ hol
        have hsls := F.sub_list_set
        have hslf := F.sub_list_frozenset
        have hne : (Value.type "list" == Value.type "dict") = false := by decide
        have hl1 : (s.heap.push { cls := .type "set", dict := none, data := .set #[] 0 (.fresh 0 0 (!w.params.followText "set-order")) }).IsList l items := ⟨_, hol', rfl, nl, rfl⟩
        unfold Builtin.«set.__init__» noKeywords Builtin.Frozenset.updateFrom
        generalize hPI : pyIter = PI
        wp_walk
        subst hPI

        refine wpAny_pyIter_list hl1 ?_
        refine wpAny_bind (wpAny_runValue ?_)
        have hlS : l < s.heap.objs.size := Heap.lt_size hol
        have hh3 : A.in1.in1.in1.handled = none := by simp [hh]
        have hz1 : (s.heap.push { cls := .type "set", dict := none, data := .set #[] 0 (.fresh 0 0 (!w.params.followText "set-order")) }).objs.size = s.heap.objs.size + 1 := Heap.size_push ..
        have hneI : l ≠ (s.heap.push { cls := .type "set", dict := none, data := .set #[] 0 (.fresh 0 0 (!w.params.followText "set-order")) }).objs.size := by
          rw [Heap.size_push]; exact Nat.ne_of_lt (Nat.lt_succ_of_lt hlS)
        have hSf : s.heap.objs.size ∉ [(s.heap.push { cls := .type "set", dict := none, data := .set #[] 0 (.fresh 0 0 (!w.params.followText "set-order")) }).objs.size, l] := by
          rw [Heap.size_push]; simp only [List.mem_cons, List.mem_singleton, List.not_mem_nil, or_false, not_or]
          exact ⟨Nat.ne_of_lt (Nat.lt_succ_self _), Nat.ne_of_gt hlS⟩
        have hval : ∀ (i : Nat) (v : Value), items[i]? = some v → ∃ k t, ns[i]? = some k ∧ v = .int k t := fun i v hv => by
          have hi : i < ns.length := by rw [← hisz]; exact (Array.getElem?_eq_some_iff.mp hv).1
          obtain ⟨t, e⟩ := PyProof.Rows.IntsAre.int_at hit i v (by rw [Array.getElem?_toList]; exact hv)
          refine ⟨ns[i], t, List.getElem?_eq_getElem hi, ?_⟩
          rw [e, List.getD_eq_getElem?_getD, List.getElem?_eq_getElem hi] <;> rfl
        refine set_update_ints ((Walks.list hh3 _ l hneI items).toS) s.heap.objs.size
          hSf ns hisz hb hval (items.size - 0) 0 _ (by omega) (Nat.zero_le _)
          ⟨⟨_, Heap.get?_push_size _ rfl, rfl, rfl⟩, (hl1.push _)⟩ ?hS0 ?hR
        case hS0 =>
          have hget : ((s.heap.push { cls := .type "set", dict := none, data := .set #[] 0 (.fresh 0 0 (!w.params.followText "set-order")) }).push { cls := .type "list_iterator", data := .fields #[.ref l, .int 0 0] }).get? s.heap.objs.size
              = some { cls := .type "set", dict := none, data := .set #[] 0 (.fresh 0 0 (!w.params.followText "set-order")) } := Heap.get?_push_of_some _ hS
          exact ⟨0, Nat.le_refl 0, setR_new_at hget⟩
        case hR =>
          intro s' c' hm hc' hS'
          obtain ⟨h', g2, d', tk', os'⟩ := s'
          have eg : g2 = s.gens := hm.gens
          have ed : d' = s.drawn := hm.drawn
          have eo : os' = s.os := hm.os
          subst eg; subst ed; subst eo
          show wpAny _ _ _ _ _ _
          refine wpAny_pure ?_
          show wpAny _ _ (ret Value.none) _ _ _
          rw [hisz] at hc'
          refine wpAny_pure ⟨rfl, h', tk', c', rfl, hS', hc', fun b o e => ?_⟩
          have hb0 : b < s.heap.objs.size := Heap.lt_size e
          have hb1 : b ≠ s.heap.objs.size := Nat.ne_of_lt hb0
          have hb2 : b ≠ (s.heap.push { cls := .type "set", dict := none, data := .set #[] 0 (.fresh 0 0 (!w.params.followText "set-order")) }).objs.size := by
            rw [Heap.size_push]; exact Nat.ne_of_lt (Nat.lt_succ_of_lt hb0)
          exact hm.heap b o (by simp only [List.mem_cons, List.mem_singleton, List.not_mem_nil, or_false, not_or]; exact ⟨hb1, hb2⟩) (Heap.get?_push_of_some _ (Heap.get?_push_of_some _ e))

      · cases r₂ with
        | error e => exact hr₂
        | ok fl₂ =>
          cases fl₂ with
          | ret r =>
            obtain ⟨rfl, h', tk, c', rfl, hS', hc', hk'⟩ := hr₂
            repeat (any_goals (first | assumption | wp_step))
            exact h _ _ _ hS' hc' hk'
          | _ => exact hr₂.elim
    | _ => exact hr.elim
end
end L2
namespace Z
open PySem PySem.Spec PyProof.Rows L2
/-- put into a rising list -/
def uput (k : Int) : List Int → List Int
  | [] => [k]
  | x :: r => if k < x then k :: x :: r else if k = x then x :: r else x :: uput k r
def uns : List Int → List Int
  | [] => []
  | k :: r => uput k (uns r)
theorem mem_uput (k j : Int) : ∀ l : List Int, j ∈ uput k l ↔ j = k ∨ j ∈ l
  | [] => by simp [uput]
  | x :: r => by
    unfold uput
    split
    · simp
    · split
      · rename_i h; subst h; simp
      · rw [List.mem_cons, mem_uput k j r, List.mem_cons]
        constructor
        · rintro (h | h | h)
          · exact .inr (.inl h)
          · exact .inl h
          · exact .inr (.inr h)
        · rintro (h | h | h)
          · exact .inr (.inl h)
          · exact .inl h
          · exact .inr (.inr h)
theorem mem_uns (j : Int) : ∀ l : List Int, j ∈ uns l ↔ j ∈ l
  | [] => Iff.rfl
  | k :: r => by rw [uns, mem_uput, mem_uns j r, List.mem_cons]
theorem uput_rise (k : Int) : ∀ l : List Int, l.Pairwise (· < ·) → (uput k l).Pairwise (· < ·)
  | [], _ => by simp [uput]
  | x :: r, h => by
    obtain ⟨h1, h2⟩ := List.pairwise_cons.mp h
    unfold uput
    split
    · rename_i c
      refine List.pairwise_cons.mpr ⟨fun y hy => ?_, h⟩
      rcases List.mem_cons.mp hy with rfl | hy
      · exact c
      · exact Int.lt_trans c (h1 y hy)
    · split
      · exact h
      · refine List.pairwise_cons.mpr ⟨fun y hy => ?_, uput_rise k r h2⟩
        rcases (mem_uput k y r).mp hy with rfl | hy
        · omega
        · exact h1 y hy
theorem uns_rise : ∀ l : List Int, (uns l).Pairwise (· < ·)
  | [] => .nil
  | k :: r => uput_rise k _ (uns_rise r)
theorem rise_eq : ∀ {a b : List Int}, a.Pairwise (· < ·) → b.Pairwise (· < ·) → (∀ k, k ∈ a ↔ k ∈ b) → a = b
  | [], [], _, _, _ => rfl
  | [], y :: b, _, _, h => absurd ((h y).mpr (List.mem_cons_self ..)) (by simp)
  | x :: a, [], _, _, h => absurd ((h x).mp (List.mem_cons_self ..)) (by simp)
  | x :: a, y :: b, ha, hb, h => by
    obtain ⟨a1, a2⟩ := List.pairwise_cons.mp ha
    obtain ⟨b1, b2⟩ := List.pairwise_cons.mp hb
    have e : x = y := by
      rcases List.mem_cons.mp ((h x).mp (List.mem_cons_self ..)) with e | e
      · exact e
      · rcases List.mem_cons.mp ((h y).mpr (List.mem_cons_self ..)) with e2 | e2
        · exact e2.symm
        · have := a1 y e2
          have := b1 x e
          omega
    subst e
    rw [rise_eq a2 b2 fun k => ⟨fun m => ?_, fun m => ?_⟩]
    · rcases List.mem_cons.mp ((h k).mp (List.mem_cons_of_mem _ m)) with e | e
      · have := a1 k m; omega
      · exact e
    · rcases List.mem_cons.mp ((h k).mpr (List.mem_cons_of_mem _ m)) with e | e
      · have := b1 k m; omega
      · exact e
theorem uput_len (k : Int) : ∀ l : List Int, (uput k l).length ≤ l.length + 1
  | [] => Nat.le_refl _
  | x :: r => by
    unfold uput
    split
    · exact Nat.le_refl _
    · split
      · exact Nat.le_succ _
      · exact Nat.succ_le_succ (uput_len k r)
theorem uns_len : ∀ l : List Int, (uns l).length ≤ l.length
  | [] => Nat.le_refl _
  | k :: r => Nat.le_trans (uput_len k _) (Nat.succ_le_succ (uns_len r))
theorem rise_nodup {l : List Int} (h : l.Pairwise (· < ·)) : l.Nodup := List.Pairwise.imp (fun h e => by omega) h
theorem setR_size {w : World} {h : Heap} {a : Addr} {n : Nat} {ns : List Int} (R : SetR w h a (fun j => decide (j ∈ ns)) n) : n = (uns ns).length := by
  obtain ⟨o, es, ep, t, ho, hex, hd, g, nd, hm, hb, hf, hn, hr, hl⟩ := R
  have p : (es.toList.map keyOf).Perm (uns ns) := (List.perm_ext_iff_of_nodup nd (rise_nodup (uns_rise ns))).mpr fun k => by
    rw [← hm k, mem_uns]
    simp
  have := p.length_eq
  rw [List.length_map, Array.length_toList] at this
  omega
theorem fz_intsR {K : PySem.W.Frag} {H : Hp} : ∀ ns : List Int, FzAll K H (ns.map V.int) (ns.map .int)
  | [] => .nil
  | n :: ns => .cons (.int n) (fz_intsR ns)
section
variable {X : Cx} {E : XK} {a : Expr} {ca : ZC} {te : TE}
def tSS (K : PySem.W.Frag) (te : TE) : TE := fun σ H Q => te σ H fun x H1 => ∃ (a : Addr) (ns : List Int), x = .ref a ∧ (SqL K H1 a (ns.map V.int) ∨ SqT K H1 a (ns.map V.int)) ∧ ns.length ≤ 4000 ∧ (uns ns).length < 64 ∧ ∀ p, H1 p = none → Q (.ref p) (upd H1 p (.lst ((uns ns).map V.int)))
theorem pe_ss {p p2 q pos : Pos} (zx : ZX X) (hg : Gl X "sorted") (hm : X.mg "sorted" = none) (hg2 : Gl X "set") (hm2 : X.mg "set" = none) (ha : PE X a te)
    (na : starEach [a] X.env = (false, eval a X.env) :: starEach [] X.env := by rfl) : PE X (.Call (.Name "sorted" p) [.Call (.Name "set" p2) [a] [] q] [] pos) (tSS X.K te) := by
  refine ⟨fun pins s σ H Q I h => ?_⟩
  refine Call_ (ld_blt I hg hm PyProof.Rows.boot_sorted ?_)
  refine PyProof.Rows.callWith_builtin1 (PyProof.Rows.args_cons ?_ rfl) rfl rfl
  refine Call_ (ld_blt I hg2 hm2 PyProof.Rows.boot_set ?_)
  refine PyProof.Rows.callWith_type1 (PyProof.Rows.args_cons (thn (ha.run pins s σ H _ I h) fun v s1 ⟨x, H1, I1, r1, q1⟩ => PyProof.Rows.args_nil ?_) na) na rfl
  obtain ⟨l, ns, rfl, hq, hl, h64, q1⟩ := q1
  cases r1
  have fin : ∀ (h' : Heap) (tk c : Nat), SetR X.w h' s1.heap.objs.size (fun j => decide (j ∈ ns)) c → (∀ b o, s1.heap.get? b = some o → h'.get? b = some o) →
      wpAny (model X.prog X.w) X.A (call (.builtin "sorted") [.ref s1.heap.objs.size]) (EP X pins σ Q) X.xe { s1 with heap := h', toks := tk } := by
    intro h' tk c R k1
    have I2 : Inv X pins σ H1 { s1 with heap := h', toks := tk } := I1.kept k1
    refine sorted_set R (I2.ok.hd zx.calm) (by rw [setR_size R]; exact h64) fun s' p out cc ms k g o hp hg hi hs hmm hll => ?_
    have em : ms = uns ns := rise_eq hs (uns_rise ns) fun j => by rw [hmm j, mem_uns]; simp
    subst em
    have hlen : ((uns ns).map V.int).length ≤ sizeLine := by rw [List.length_map, sizeLine_eq]; omega
    have hn : H1 p = none := I2.hok.fresh hp
    have J : Inv X pins σ (upd H1 p (.lst ((uns ns).map V.int))) s' :=
      I2.call' (ch := []) o (Un.laid k hp hn) (I2.hok.laid k hp ⟨hlen, out.toList, cc, vals_of_ints hi, hg⟩) (by rw [g]; exact I2.bare) (fun _ z => nomatch z)
    exact ⟨.ref p, _, J, rfl, q1 p hn⟩
  rcases hq with hq | hq
  · obtain ⟨its, r, pl, hz⟩ := I1.list hq
    exact call_set_lstI ns (I1.ok.hd zx.calm) pl.isList (by simpa using r.ints) (by unfold scanBound; omega) fun h' tk c R _ k => PyProof.Rows.args_nil (fin h' tk c R k)
  · obtain ⟨its, r, ht, hz⟩ := I1.tuple hq
    exact call_set_tupI ns (I1.ok.hd zx.calm) ht (by simpa using r.ints) (by unfold scanBound; omega) fun h' tk c R _ k => PyProof.Rows.args_nil (fin h' tk c R k)
/-- sorted(set(x)) of ints -/
def zSortSet (d : D) (M : Store) : Out D := match seqv M d with
  | some xs => match intsOf xs with
    | some ns => if ns.length ≤ 4000 ∧ (uns ns).length < 64 then .ok (.p (.list ((uns ns).map .int))) M else .stuck
    | none => .stuck
  | none => .stuck
theorem ZE.sortSet {p p2 q pos : Pos} (zx : ZX X) (hg : Gl X "sorted") (hm : X.mg "sorted" = none) (hg2 : Gl X "set") (hm2 : X.mg "set" = none) (ha : ZE X E a ca)
    (na : starEach [a] X.env = (false, eval a X.env) :: starEach [] X.env := by rfl) : ZE X E (.Call (.Name "sorted" p) [.Call (.Name "set" p2) [a] [] q] [] pos) (z1 zSortSet ca) := by
  obtain ⟨t, pa, qa⟩ := ha
  refine ⟨_, pe_frz (pe_ss zx hg hm hg2 hm2 pa na), fun σ H θ sl M Q hs hm h => qa σ H θ sl M _ hs hm (Post.bind h fun x M1 v H1 θ1 g1 m1 r1 h1 => ?_)⟩
  unfold zSortSet at h1
  split at h1
  · rename_i xs e1
    split at h1
    · rename_i ns e2
      split at h1
      · rename_i c
        obtain ⟨ad, vs, rfl, hp, dp⟩ := seqv_ok m1 r1 e1
        rw [intsOf_eq e2] at dp
        have ev : vs = ns.map V.int := drs_ints dp
        subst ev
        refine ⟨ad, ns, rfl, hp.imp (fun h => h.sq) id, c.1, c.2, fun p hp => ?_⟩
        exact post_frz h1 m1 hp (by rw [List.length_map, sizeLine_eq]; omega) (fz_intsR _)
      · exact h1.elim
    · exact h1.elim
  · exact h1.elim
end
end Z

/-! Z: t * n of tuples, l.index(x), d.get(k, x). -/
namespace L2
open PySem PySem.Spec PyProof.Rows
theorem tuple_mul1 (l : Addr) (items : Array Value) (n : Nat) (dd : Option Addr) (sl : Array (Option Value)) (u : Tok) :
    Meets (Builtin.«tuple.__mul__» ⟨[.ref l, .int 1 u], []⟩) (fun _ R s => s.heap.get? l = some { cls := .type "tuple", dict := dd, data := .seq items n, slots := sl } ∧ R (.ok (.ret (Value.ref l))) s) :=
  .of_wp fun prog w A R s h => by
    obtain ⟨hp, g, d, tk, os⟩ := s
    obtain ⟨hl, h⟩ := h
    have f1 := AutoSeq1.idx_int
    wp_walk using wpAny_loadPart' hl
    exact ⟨_, rfl, h⟩
theorem tuple_mul0 (l : Addr) (items : Array Value) (n : Nat) (dd : Option Addr) (sl : Array (Option Value)) (u : Tok) (c1 : items.isEmpty = false) :
    Meets (Builtin.«tuple.__mul__» ⟨[.ref l, .int 0 u], []⟩) (fun _ R s => s.heap.get? l = some { cls := .type "tuple", dict := dd, data := .seq items n, slots := sl } ∧
      R (.ok (.ret (Value.ref s.heap.objs.size))) { s with heap := s.heap.push { cls := Value.type "tuple", data := Data.seq #[] }, toks := s.toks }) :=
  .of_wp fun prog w A R s h => by
    obtain ⟨hp, g, d, tk, os⟩ := s
    obtain ⟨hl, h⟩ := h
    have f1 := AutoSeq1.idx_int
    have c2 : ¬ ((items.isEmpty || (0 : Int) == 1) = true) := by rw [c1]; decide
    wp_walk using wpAny_loadPart' hl
    repeat (first
      | (refine wpAny_ite_false (decide_eq_false c2) ?_; wp_walk using wpAny_loadPart' hl)
      | (simp only [c1]; wp_walk using wpAny_loadPart' hl))
    exact ⟨_, rfl, h⟩
def rRepT01 (K : PySem.W.Frag) : R2 := fun x y H Q => ∃ l k xs, x = .ref l ∧ y = .int k ∧ SqT K H l xs ∧ xs ≠ [] ∧ ((k = 1 ∧ Q (.ref l) H) ∨ (k = 0 ∧ ∀ p, H p = none → Q (.ref p) (upd H p (.tup []))))
section
variable {X : Cx}
theorem op_repT01 : OpR X (binaryOp .Mult) (rRepT01 X.K) := by
  intro pins s σ H x y v u Q I rx ry h
  obtain ⟨l, k, xs, rfl, rfl, hT, hne, q⟩ := h
  cases rx
  obtain ⟨t, rfl⟩ := ry
  obtain ⟨its, r, ⟨⟨cls, dd, data, sl⟩, ho, hc, n, hd⟩, hs⟩ := I.tuple hT
  simp only at hc hd
  subst hc hd
  have hle : its.length = xs.length := r.length.symm
  have hn : its ≠ [] := fun e => hne (by
    rw [e] at hle
    exact List.eq_nil_of_length_eq_zero hle.symm)
  have hi : its.toArray.isEmpty = false := by
    cases its with
    | nil => exact absurd rfl hn
    | cons a b => rfl
  rcases q with ⟨rfl, q⟩ | ⟨rfl, q⟩
  · exact wpAny_binaryOp_repeat_ref (T := "tuple") (U := "int") (by decide) ⟨_, ho, rfl⟩ (fun s' => typeIs_int s' 1 t) noFill_tuple_mul F.fills_int_mul F.slot_int_rmul repeat_tuple F.slot_int_index.lookup
      (call_meets F.slot_int_rmul (typeIs_int s 1 t) F.entry_int_rmul (F.args_int_rmul_2 _ _) (int_rmul_tuple 1 t l its.toArray n dd sl)
        ⟨ho, rfl, ⟨_, ho, rfl⟩, call_meets F.slot_tuple_mul ⟨_, ho, rfl⟩ F.entry_tuple_mul (F.args_tuple_mul_2 _ _) (tuple_mul1 l its.toArray n dd sl t) ⟨ho, ⟨.ref l, H, I, rfl, q⟩⟩⟩)
  · exact wpAny_binaryOp_repeat_ref (T := "tuple") (U := "int") (by decide) ⟨_, ho, rfl⟩ (fun s' => typeIs_int s' 0 t) noFill_tuple_mul F.fills_int_mul F.slot_int_rmul repeat_tuple F.slot_int_index.lookup
      (call_meets F.slot_int_rmul (typeIs_int s 0 t) F.entry_int_rmul (F.args_int_rmul_2 _ _) (int_rmul_tuple 0 t l its.toArray n dd sl)
        ⟨ho, rfl, ⟨_, ho, rfl⟩, call_meets F.slot_tuple_mul ⟨_, ho, rfl⟩ F.entry_tuple_mul (F.args_tuple_mul_2 _ _) (tuple_mul0 l its.toArray n dd sl t hi)
          ⟨ho, ⟨.ref s.heap.objs.size, _, I.laid (t' := s.toks) (o := .tup []) (fun b ob q => Heap.get?_push_of_some _ q) (Nat.le_refl _) ⟨Nat.zero_le _, _, .nil, IsTup.new _ _⟩, rfl, q _ (I.hok.fresh (Nat.le_refl _))⟩⟩⟩)
end
end L2
namespace Z
open PySem PySem.Spec PyProof.Rows L2
section
variable {X : Cx} {E : XK} {a b o e f : Expr} {ca cb co ce cf : ZC} {pos : Pos}
def zMulT (a b : D) (M : Store) : Out D := match a, b with
  | .p (.tuple xs), .p (.int k) => if xs ≠ [] ∧ 0 ≤ k ∧ k ≤ 1000 ∧ xs.length ≤ 1000 then .ok (.p (.tuple (List.replicate k.toNat xs).flatten)) M else .stuck
  | _, _ => .stuck
theorem fz_rep {K : PySem.W.Frag} {H : Hp} {vs : List V} {xs : List P} (h : FzAll K H vs xs) : ∀ n : Nat, FzAll K H (List.replicate n vs).flatten (List.replicate n xs).flatten
  | 0 => .nil
  | n + 1 => by
    rw [List.replicate_succ, List.replicate_succ, List.flatten_cons, List.flatten_cons]
    exact FzAll.of (paired_append h.paired (fz_rep h n).paired)
theorem zMulT_ok : OpR X (binaryOp .Mult) (rZ2 X E zMulT) := by
  intro pins s σ H x y v u Q I rx ry h
  obtain ⟨a, b, θ, M, m, ra, rb, h⟩ := h
  unfold zMulT at h
  split at h
  · rename_i xs k
    split at h
    · rename_i c
      obtain ⟨c1, c2, c3, c4⟩ := c
      cases rb
      cases ra with
      | @tup l vs _ k1 k2 =>
        have hl := k2.length
        have hne : vs ≠ [] := fun e => c1 (by rw [e] at hl; exact List.eq_nil_of_length_eq_zero hl.symm)
        by_cases h0 : k = 0
        · subst h0
          exact op_repT01 pins s σ H _ _ v u Q I rx ry ⟨l, 0, vs, rfl, rfl, k1, hne, .inr ⟨rfl, fun p hp => new_tup h m .nil hp⟩⟩
        · by_cases h1 : k = 1
          · subst h1
            refine op_repT01 pins s σ H _ _ v u Q I rx ry ⟨l, 1, vs, rfl, rfl, k1, hne, .inl ⟨rfl, ?_⟩⟩
            have e : (List.replicate (Int.toNat 1) xs).flatten = xs := by simp [show Int.toNat 1 = 1 from rfl]
            rw [e] at h
            exact Post.here h m (Fz.tup k1 k2)
          · exact op_repT pins s σ H _ _ v u Q I rx ry ⟨l, k, vs, rfl, rfl, k1, hne, by omega, c3, by omega, fun p hp => new_tup h m (fz_rep k2 _) hp⟩
    · exact h.elim
  · exact h.elim
/-! ### l.index(x) -/
def zIndex (x : D) (ds : List D) (M : Store) : Out D := match x, ds with
  | .p (.list xs), [.p y] => if SeqAt.shaped (.list xs) = true ∧ SeqAt.shaped y = true ∧ (PyData.list xs).hasDict = false ∧ y.hasDict = false then match xs.findIdx? (fun z => PyData.eqv z y) with
      | some j => .ok (.p (.int (j : Nat))) M
      | none => .stuck
    else .stuck
  | _, _ => .stuck
theorem zIndex_ok (zx : ZX X) : MtR X "list.index" (rZm X E zIndex) := by
  intro pins s σ H x xs v us Q I rx rxs h
  obtain ⟨d, ds, θ, M, m, r, rs, h⟩ := h
  have hu := zx.hu
  unfold zIndex at h
  split at h
  · rename_i zs y
    split at h
    · rename_i c
      split at h
      · rename_i j hj
        cases rs with
        | cons r1 rr =>
          cases rr
          have dl := Fz.dp c.2.2.1 r
          have dy := Fz.dp c.2.2.2 r1
          cases r with
          | @lst p vs _ k1 k2 =>
            obtain ⟨hj1, hj2, hj3⟩ := List.findIdx?_eq_some_iff_getElem.mp hj
            exact mt_indexD (by omega) pins s σ H _ _ v us Q I rx rxs ⟨p, _, y, zs, j, zs[j], rfl, rfl, dl, dy, c.1, c.2.1, List.getElem?_eq_getElem hj1, hj2, fun m z' hm hz => by
              obtain ⟨hm1, hm2⟩ := List.getElem?_eq_some_iff.mp hz
              have := hj3 m hm
              rw [← hm2]
              simpa using this, Post.here h m (Fz.int _)⟩
      · exact h.elim
    · exact h.elim
  · exact h.elim
/-! ### d.get(k, x) -/
def isD (M : Store) (d : D) : Bool := (dictv M d).isSome
def zGet (x : D) (k y : D) (M : Store) : Out D := match dictv M x, k with
  | some kvs, .p k => match kOf k with
    | some k => match valD kvs k with
      | some d => .ok d M
      | none => .ok y M
    | none => .stuck
  | _, _ => .stuck
def zget2 (o : ZC) (a b : ZC) : ZC := fun sl M => (o sl M).bind fun x M1 => if isD M1 x = true then (a sl M1).bind fun k M2 => (b sl M2).bind fun y M3 => zGet x k y M3 else .stuck
theorem ZE.get2 {apos cpos : Pos} (zx : ZX X) (ho : ZE X E o co) (he : ZE X E e ce) (hf : ZE X E f cf) (m2 : M2 X o "get" apos e f cpos) : ZE X E (.Call (.Attribute o "get" apos) [e, f] [] cpos) (zget2 co ce cf) := by
  obtain ⟨to, po, qo⟩ := ho
  obtain ⟨te, pe, qe⟩ := he
  obtain ⟨tf, pf, qf⟩ := hf
  have hu := zx.hu
  refine ⟨_, pe_dget2 (by omega) po pe pf m2, fun σ H θ sl M Q hs hm h => qo σ H θ sl M _ hs hm (Post.bind h fun x M1 v H1 θ1 g1 m1 r1 h1 => ?_)⟩
  split at h1
  · rename_i hd
    obtain ⟨kv0, hkv0⟩ := Option.isSome_iff_exists.mp hd
    obtain ⟨a, us0, rfl, hr0, _⟩ := dictv_ok m1 r1 hkv0
    refine ⟨a, rfl, .inl ⟨us0, hr0⟩, qe σ H1 θ1 sl M1 _ (hs.go g1) m1 (Post.bind h1 fun k M2 kv H2 θ2 g2 m2 r2 h2 => ?_)⟩
    refine qf σ H2 θ2 sl M2 _ ((hs.go g1).go g2) m2 (Post.bind h2 fun y M3 yv H3 θ3 g3 m3 r3 h3 => ?_)
    unfold zGet at h3
    split at h3
    · rename_i kvs kk e1
      obtain ⟨a', us, ea, hr, kd⟩ := dictv_ok m3 ((r1.go g2).go g3) e1
      cases ea
      split at h3
      · rename_i key e2
        have ek := kv_is (Dr.go g3 r2) e2
        subst ek
        rcases kd_val key kd with ⟨v1, v2⟩ | ⟨v, d, v1, v2, rd⟩
        · rw [v2] at h3
          exact ⟨none, .inl ⟨us, key, hr, rfl, v1.symm⟩, Post.here h3 m3 r3⟩
        · rw [v2] at h3
          exact ⟨some v, .inl ⟨us, key, hr, rfl, v1.symm⟩, Post.here h3 m3 rd⟩
      · exact h3.elim
    · exact h3.elim
  · exact h1.elim
end
end Z

/-! Z: sorted(set(x)) of pairs of ints, sorted(d) of a dict with int keys. -/
namespace Z
open PySem PySem.Spec PyProof.Rows L2
/-- the bound of the pairs' ints -/
def bB : Int := 100000
def pcode (p : Int × Int) : Int := p.1 * bB + p.2
def pdec (c : Int) : Int × Int := (c / bB, c % bB)
def pOk (p : Int × Int) : Prop := 0 ≤ p.1 ∧ p.1 < bB ∧ 0 ≤ p.2 ∧ p.2 < bB
instance (p : Int × Int) : Decidable (pOk p) := by unfold pOk; infer_instance
theorem pdec_code {p : Int × Int} (h : pOk p) : pdec (pcode p) = p := by
  obtain ⟨h1, h2, h3, h4⟩ := h
  unfold pdec pcode
  have hb : (0 : Int) < bB := by decide
  have e1 : (p.1 * bB + p.2) / bB = p.1 := by
    rw [Int.add_comm, Int.add_mul_ediv_right _ _ (by decide), Int.ediv_eq_zero_of_lt h3 h4, Int.zero_add]
  have e2 : (p.1 * bB + p.2) % bB = p.2 := by
    rw [Int.add_comm, Int.add_mul_emod_self_right, Int.emod_eq_of_lt h3 h4]
  rw [e1, e2]
/-- the pairs, each once, in order -/
def unp (ps : List (Int × Int)) : List (Int × Int) := (uns (ps.map pcode)).map pdec
theorem mem_unp {ps : List (Int × Int)} (h : ∀ p ∈ ps, pOk p) (p : Int × Int) : p ∈ unp ps ↔ p ∈ ps := by
  unfold unp
  rw [List.mem_map]
  constructor
  · rintro ⟨c, hc, rfl⟩
    rw [mem_uns, List.mem_map] at hc
    obtain ⟨q, hq, rfl⟩ := hc
    rw [pdec_code (h q hq)]
    exact hq
  · intro hp
    exact ⟨pcode p, by rw [mem_uns]; exact List.mem_map.mpr ⟨p, hp, rfl⟩, pdec_code (h p hp)⟩
theorem unp_len (ps : List (Int × Int)) : (unp ps).length ≤ ps.length := by
  unfold unp
  rw [List.length_map]
  have := uns_len (ps.map pcode)
  rw [List.length_map] at this
  exact this
abbrev encP (p : Int × Int) : P := .tuple [.int p.1, .int p.2]
theorem tcode (x y : Int) : TS.code bB [x, y] = pcode (x, y) := by
  have e1 : bB ^ 1 = bB := by decide
  have e0 : bB ^ 0 = 1 := by decide
  show x * bB ^ 1 + (y * bB ^ 0 + 0) = x * bB + y
  rw [e1, e0, Int.mul_one, Int.add_zero]
section
variable {X : Cx} {E : XK} {a : Expr} {ca : ZC} {te : TE}
def tST (K : PySem.W.Frag) (te : TE) : TE := fun σ H Q => te σ H fun x H1 => ∃ (a : Addr) (ks : List (Addr × (Int × Int))), x = .ref a ∧ SqL K H1 a (ks.map fun p => V.ref p.1) ∧ (∀ p ∈ ks, SqT K H1 p.1 [.int p.2.1, .int p.2.2] ∧ pOk p.2) ∧ ks.length < 64 ∧
  ∀ (p : Addr) (L : List (Addr × (Int × Int))), H1 p = none → (∀ q ∈ L, q ∈ ks) → L.map Prod.snd = unp (ks.map Prod.snd) → Q (.ref p) (upd H1 p (.lst (L.map fun q => V.ref q.1)))
theorem pe_st {p p2 q pos : Pos} (zx : ZX X) (hg : Gl X "sorted") (hm : X.mg "sorted" = none) (hg2 : Gl X "set") (hm2 : X.mg "set" = none) (ha : PE X a te)
    (na : starEach [a] X.env = (false, eval a X.env) :: starEach [] X.env := by rfl) : PE X (.Call (.Name "sorted" p) [.Call (.Name "set" p2) [a] [] q] [] pos) (tST X.K te) := by
  refine ⟨fun pins s σ H Q I h => ?_⟩
  have hu := zx.hu
  refine Call_ (ld_blt I hg hm PyProof.Rows.boot_sorted ?_)
  refine PyProof.Rows.callWith_builtin1 (PyProof.Rows.args_cons ?_ rfl) rfl rfl
  refine Call_ (ld_blt I hg2 hm2 PyProof.Rows.boot_set ?_)
  refine PyProof.Rows.callWith_type1 (PyProof.Rows.args_cons (thn (ha.run pins s σ H _ I h) fun v s1 ⟨x, H1, I1, r1, q1⟩ => PyProof.Rows.args_nil ?_) na) na rfl
  obtain ⟨l, ks, rfl, hl, hk, hf, q1⟩ := q1
  cases r1
  obtain ⟨its, rv, pl, hz⟩ := I1.list hl
  let K2 : List (Addr × List Int) := ks.map fun p => (p.1, [p.2.1, p.2.2])
  have hl2 : K2.length = ks.length := List.length_map _
  have rv2 : Vals (K2.map fun p => V.ref p.1) its := by
    show Vals ((ks.map fun p => (p.1, [p.2.1, p.2.2])).map fun p => V.ref p.1) its
    rw [List.map_map]
    exact rv
  have hk2 : ∀ p ∈ K2, SqT X.K H1 p.1 (p.2.map V.int) := fun p hp => by
    obtain ⟨q, hq, rfl⟩ := List.mem_map.mp hp
    exact (hk q hq).1
  refine call_set_tups (P := X.prog) (w := X.w) K2 (I1.ok.hd zx.calm) pl.isList (by simpa using refs_of_vals rv2) (fun p hp => I1.isT (hk2 p hp)) (by rw [hl2]; exact hf) (by show X.A.units + 3 < cLine; omega) fun h' tk L es ep t R g k => ?_
  refine PyProof.Rows.args_nil ?_
  have I2 : Inv X pins σ H1 { s1 with heap := h', toks := tk } := I1.kept k
  have sub : ∀ p ∈ L, p ∈ K2 := fun p hp => List.mem_of_mem_take (g.sub p hp)
  have all : ∀ p ∈ K2, p.2 ∈ L.map (·.2) := fun p hp => g.all p (by rw [List.take_length]; exact hp)
  have hB : ∀ p ∈ L, p.2.length = 2 ∧ TS.Bd bB p.2 := fun p hp => by
    obtain ⟨q, hq, rfl⟩ := List.mem_map.mp (sub p hp)
    obtain ⟨_, h1, h2, h3, h4⟩ := hk q hq
    refine ⟨rfl, fun m hm => ?_⟩
    simp at hm
    rcases hm with rfl | rfl
    · exact ⟨h1, h2⟩
    · exact ⟨h3, h4⟩
  refine sorted_setT R (I2.ok.hd zx.calm) (by decide) hB fun s' p out c L' k2 g2 o2 hp hg3 hout pm pw => ?_
  have hfew : L'.length < 64 := by rw [pm.length_eq]; exact R.few
  have hlen : (L'.map fun q => V.ref q.1).length ≤ sizeLine := by rw [List.length_map, sizeLine_eq]; omega
  have hn : H1 p = none := I2.hok.fresh hp
  have hv : Vals (L'.map fun q => V.ref q.1) out.toList := by rw [hout]; exact vals_of_refs L'
  have J : Inv X pins σ (upd H1 p (.lst (L'.map fun q => V.ref q.1))) s' :=
    I2.call' (ch := []) o2 (Un.laid k2 hp hn) (I2.hok.laid k2 hp ⟨hlen, out.toList, c, hv, hg3⟩) (by rw [g2]; exact I2.bare) (fun _ z => nomatch z)
  -- the pairs behind
  have back : ∀ M : List (Addr × List Int), (∀ p ∈ M, p ∈ K2) → ∃ N : List (Addr × (Int × Int)), M = N.map (fun p => (p.1, [p.2.1, p.2.2])) ∧ ∀ q ∈ N, q ∈ ks := by
    intro M
    induction M with
    | nil => intro _; exact ⟨[], rfl, fun q h => (by cases h)⟩
    | cons m M ih =>
      intro hM
      obtain ⟨N, e, hN⟩ := ih fun p hp => hM p (List.mem_cons_of_mem _ hp)
      obtain ⟨q, hq, rfl⟩ := List.mem_map.mp (hM m (List.mem_cons_self ..))
      exact ⟨q :: N, by rw [e]; rfl, fun r hr => by
        rcases List.mem_cons.mp hr with rfl | hr
        · exact hq
        · exact hN r hr⟩
  obtain ⟨N, eN, hN⟩ := back L' fun p hp => sub p (pm.mem_iff.mp hp)
  have eout : (L'.map fun q => V.ref q.1) = N.map fun q => V.ref q.1 := by rw [eN, List.map_map]; rfl
  refine ⟨.ref p, _, J, rfl, ?_⟩
  rw [eout]
  refine q1 p N hn hN ?_
  have nd' : (L'.map (·.2)).Nodup := (pm.map (·.2)).nodup_iff.mpr R.nd
  have cs : N.map (fun q => pcode q.2) = uns ((ks.map Prod.snd).map pcode) := by
    refine rise_eq ?_ (uns_rise _) fun c => ?_
    · rw [List.pairwise_map]
      rw [eN, List.pairwise_map] at pw
      rw [eN, List.map_map] at nd'
      have nd2 := List.pairwise_map.mp nd'
      refine List.Pairwise.imp_of_mem (fun {x y} hx hy h => ?_) (List.Pairwise.and pw nd2)
      obtain ⟨h1, h2⟩ := h
      rw [tcode, tcode] at h1
      have : pcode x.2 ≠ pcode y.2 := fun e => h2 (by
        have e2 : x.2 = y.2 := by
          rw [← pdec_code (hk x (hN x hx)).2, ← pdec_code (hk y (hN y hy)).2, e]
        show [x.2.1, x.2.2] = [y.2.1, y.2.2]
        rw [e2])
      have h1' : pcode x.2 ≤ pcode y.2 := h1
      omega
    · rw [mem_uns, List.mem_map, List.mem_map]
      constructor
      · rintro ⟨q, hq, rfl⟩
        exact ⟨q.2, List.mem_map.mpr ⟨q, hN q hq, rfl⟩, rfl⟩
      · rintro ⟨q, hq, rfl⟩
        obtain ⟨r, hr, rfl⟩ := List.mem_map.mp hq
        have := all (r.1, [r.2.1, r.2.2]) (List.mem_map.mpr ⟨r, hr, rfl⟩)
        obtain ⟨m, hm, em⟩ := List.mem_map.mp this
        have hm' := pm.mem_iff.mpr hm
        rw [eN] at hm'
        obtain ⟨n, hn, rfl⟩ := List.mem_map.mp hm'
        refine ⟨n, hn, ?_⟩
        have e : [n.2.1, n.2.2] = [r.2.1, r.2.2] := em
        injection e with e1 e2
        injection e2 with e2
        show pcode n.2 = pcode r.2
        unfold pcode
        rw [e1, e2]
  unfold unp
  rw [← cs, List.map_map]
  refine List.map_congr_left fun q hq => ?_
  exact (pdec_code (hk q (hN q hq)).2).symm
def pairsOfD : List D → Option (List (Int × Int))
  | [] => some []
  | .p (.tuple [.int x, .int y]) :: r => (pairsOfD r).map ((x, y) :: ·)
  | _ :: _ => none
theorem pairsOfD_map : ∀ ps : List (Int × Int), pairsOfD (ps.map fun p => .p (encP p)) = some ps
  | [] => rfl
  | p :: ps => by rw [List.map_cons, pairsOfD, pairsOfD_map ps]; rfl
theorem pairs_drs {K : PySem.W.Frag} {θ : List Addr} {H : Hp} : ∀ {ds : List D} {ps : List (Int × Int)} {vs : List V}, Drs K θ H vs ds → pairsOfD ds = some ps → ∃ ks : List (Addr × (Int × Int)), vs = ks.map (fun p => V.ref p.1) ∧ ks.map Prod.snd = ps ∧ ∀ p ∈ ks, SqT K H p.1 [.int p.2.1, .int p.2.2]
  | [], ps, _, .nil, e => by cases e; exact ⟨[], rfl, rfl, fun p h => (by cases h)⟩
  | d :: ds, ps, v :: vs, .cons r rr, e => by
    unfold pairsOfD at e
    split at e
    · rename_i h; cases h
    · rename_i x y r' h
      injection h with h1 h2
      subst h1 h2
      cases q : pairsOfD ds with
      | none => rw [q] at e; cases e
      | some qs =>
        rw [q] at e
        cases e
        obtain ⟨ks, e1, e2, e3⟩ := pairs_drs rr q
        cases r with
        | @tup p ws _ k1 k2 =>
          have ew : ws = [.int x, .int y] := by
            cases k2 with
            | cons a b =>
              cases a
              cases b with
              | cons a b => cases a; cases b; rfl
          subst ew
          exact ⟨(p, (x, y)) :: ks, by rw [e1]; rfl, by rw [List.map_cons, e2], fun z hz => by
            rcases List.mem_cons.mp hz with rfl | hz
            · exact k1
            · exact e3 z hz⟩
    · cases e
def zSortSetP (d : D) (M : Store) : Out D := match lstv M d with
  | some xs => match pairsOfD xs with
    | some ps => if ps.length < 64 ∧ ∀ p ∈ ps, pOk p then .ok (.p (.list ((unp ps).map encP))) M else .stuck
    | none => .stuck
  | none => .stuck
theorem fz_pairs {K : PySem.W.Frag} {H : Hp} : ∀ L : List (Addr × (Int × Int)), (∀ p ∈ L, SqT K H p.1 [.int p.2.1, .int p.2.2]) → FzAll K H (L.map fun q => V.ref q.1) ((L.map Prod.snd).map encP)
  | [], _ => .nil
  | p :: L, h => .cons (.tup (h p (List.mem_cons_self ..)) (.cons (.int _) (.cons (.int _) .nil))) (fz_pairs L fun q hq => h q (List.mem_cons_of_mem _ hq))
theorem ZE.sortSetP {p p2 q pos : Pos} (zx : ZX X) (hg : Gl X "sorted") (hm : X.mg "sorted" = none) (hg2 : Gl X "set") (hm2 : X.mg "set" = none) (ha : ZE X E a ca)
    (na : starEach [a] X.env = (false, eval a X.env) :: starEach [] X.env := by rfl) : ZE X E (.Call (.Name "sorted" p) [.Call (.Name "set" p2) [a] [] q] [] pos) (z1 zSortSetP ca) := by
  obtain ⟨t, pa, qa⟩ := ha
  refine ⟨_, pe_frz (pe_st zx hg hm hg2 hm2 pa na), fun σ H θ sl M Q hs hm h => qa σ H θ sl M _ hs hm (Post.bind h fun x M1 v H1 θ1 g1 m1 r1 h1 => ?_)⟩
  unfold zSortSetP at h1
  split at h1
  · rename_i xs e1
    split at h1
    · rename_i ps e2
      split at h1
      · rename_i c
        obtain ⟨ad, vs, rfl, hp, dp⟩ := lstv_ok m1 r1 e1
        obtain ⟨ks, ev, es, hk⟩ := pairs_drs dp e2
        subst ev
        have hkl : ks.length = ps.length := by rw [← es, List.length_map]
        refine ⟨ad, ks, rfl, hp.sq, fun p hp => ⟨hk p hp, c.2 p.2 (by rw [← es]; exact List.mem_map.mpr ⟨p, hp, rfl⟩)⟩, by rw [hkl]; exact c.1, fun p L hp hL eL => ?_⟩
        rw [es] at eL
        rw [← eL] at h1
        exact post_frz h1 m1 hp (by
          have := unp_len ps
          rw [← eL, List.length_map] at this
          rw [List.length_map, List.length_map, sizeLine_eq]
          omega) (fz_pairs L fun q hq => hk q (hL q hq))
      · exact h1.elim
    · exact h1.elim
  · exact h1.elim
/-! ### sorted(d) -/
def ikeys : List (Key × D) → Option (List Int)
  | [] => some []
  | (.inl i, _) :: r => (ikeys r).map (i :: ·)
  | _ :: _ => none
theorem ikeys_eq {K : PySem.W.Frag} {θ : List Addr} {H : Hp} : ∀ {us : List (Key × V)} {kvs : List (Key × D)} {ks : List Int}, KD K θ H us kvs → ikeys kvs = some ks → us.map (·.1) = ks.map Sum.inl
  | _, _, ks, .nil, e => by cases e; rfl
  | u :: us, (k, d) :: kvs, ks, .cons a b, e => by
    cases k with
    | inr x => cases e
    | inl i =>
      unfold ikeys at e
      cases q : ikeys kvs with
      | none => rw [q] at e; cases e
      | some js =>
        rw [q] at e
        cases e
        rw [List.map_cons, List.map_cons, ikeys_eq b q]
        exact congrArg (· :: _) a.1
def zSortD (ds : List D) (M : Store) : Out D := match ds with
  | [d] => match dictv M d with
    | some kvs => match ikeys kvs with
      | some ks => if ks.Nodup ∧ ks.length < 64 then .ok (.p (.list ((uns ks).map .int))) M else .stuck
      | none => .stuck
    | none => .stuck
  | _ => .stuck
theorem le_rise : ∀ {l : List Int}, l.Pairwise (· ≤ ·) → l.Nodup → l.Pairwise (· < ·) := fun h n => by
  refine List.Pairwise.imp (fun h => ?_) (List.Pairwise.and h n)
  have h1 := h.1
  have h2 := h.2
  omega
theorem zSortD_ok (zx : ZX X) : CallR X (.builtin "sorted") (rZs X E zSortD) := by
  intro pins s σ H xs us Q I r h
  obtain ⟨ds, θ, M, m, rs, h⟩ := h
  unfold zSortD at h
  split at h
  · split at h
    · rename_i kvs e1
      split at h
      · rename_i ks e2
        split at h
        · rename_i c
          cases rs with
          | cons r1 rr =>
            cases rr
            obtain ⟨ad, us', rfl, hr, kd⟩ := dictv_ok m r1 e1
            refine thn (Q := EP X pins σ (FrzQ Q)) (call_sortedDI zx.calm pins s σ H _ us (FrzQ Q) I r ⟨ad, us', ks, rfl, hr, ikeys_eq kd e2, c.2, fun ys p pm pw hp => ?_⟩) fun u s1 z => ep_frz z
            have ey : ys = uns ks := rise_eq (le_rise pw (pm.nodup_iff.mpr c.1)) (uns_rise ks) fun k => by rw [mem_uns]; exact pm.mem_iff
            subst ey
            have := uns_len ks
            exact post_frz h m hp (by rw [List.length_map, sizeLine_eq]; have := c.2; omega) (fz_intsR _)
        · exact h.elim
      · exact h.elim
    · exact h.elim
  · exact h.elim
end
end Z

/-! Z: a, b = list. -/
namespace Z
open PySem PySem.Spec PyProof.Rows L2
/-- a target that unpacks a list -/
def tgU (f : List P → Sl → Option Sl) : Tg := fun d sl => match d with
  | .p (.list xs) => f xs sl
  | _ => none
section
variable {X : Cx} {E : XK}
theorem ZG.unl {es : List Expr} {k n : Nat} {pos : Pos} {f : List P → Sl → Option Sl} {ix : List Nat} (zx : X.calm = true) (h : ZGs X es f ix) (hlen : ∀ xs sl sl', f xs sl = some sl' → xs.length = n)
    (hn : (assignEach es X.env).length = n := by rfl) (hst : (assignEach es X.env).findIdx? (·.1) = none := by rfl) : ZG X (.Tuple es k pos) (tgU f) ix := by
  obtain ⟨g, pg, q⟩ := h.run
  refine ⟨_, pg_unl zx pg hn hst, fun v d σ H θ sl sl' Q hs r e kk => ?_⟩
  unfold tgU at e
  split at e
  · rename_i xs
    cases r with
    | lst k1 k2 => exact ⟨_, _, rfl, k1.sq, by rw [k2.length]; exact hlen _ _ _ e, q _ xs σ H θ sl sl' Q hs k2 e kk⟩
  · cases e
theorem ZG.unl2 {a b : Expr} {f g : Tg} {i j : List Nat} {k : Nat} {pos : Pos} (zx : X.calm = true) (h : ZG X a f i) (h' : ZG X b g j) (hs : (assignEach [a, b] X.env).map (·.2) = assign a X.env :: (assignEach [b] X.env).map (·.2) := by rfl)
    (hs' : (assignEach [b] X.env).map (·.2) = assign b X.env :: (assignEach [] X.env).map (·.2) := by rfl)
    (hn : (assignEach [a, b] X.env).length = 2 := by rfl) (hst : (assignEach [a, b] X.env).findIdx? (·.1) = none := by rfl) : ZG X (.Tuple [a, b] k pos) (tgU (tgsCons f (tgsCons g tgsNil))) (i ++ (j ++ [])) :=
  ZG.unl zx (ZGs.cons h (ZGs.cons h' .nil hs') hs) (len_cons (len_cons len_nil)) hn hst
end
end Z

/-! Z: {k: v for ..}. -/
namespace Z
open PySem PySem.Spec PyProof.Rows L2
def keyOf : D → Option Key
  | .p x => kOf x
  | .ref _ => none
/-- the pairs of a dict comprehension -/
def dcP (f : Tg) (t : ZCb) (ek ev : ZC) (sl : Sl) : List D → Store → Out (List (Key × D))
  | [], M => .ok [] M
  | d :: ds, M => match f d sl with
    | some sl1 => (noexc (t sl1 M)).bind fun k M1 => if k = true then (noexc (ek sl1 M1)).bind fun y M2 => (match keyOf y with
        | some key => (noexc (ev sl1 M2)).bind fun z M3 => (dcP f t ek ev sl ds M3).bind fun ys M4 => .ok ((key, z) :: ys) M4
        | none => .stuck) else dcP f t ek ev sl ds M1
    | none => .stuck
def dfin (kvs : List (Key × D)) (M : Store) : Out D := .ok (.ref M.length) (M ++ [.dic kvs])
def zdcomp (vs : List Nat) (ci : ZCs) (f : Tg) (t : ZCb) (ek ev : ZC) : ZC := fun sl M => (ci sl M).bind fun ds M1 => if ds.length ≤ 1000 then (dcP f t ek ev (wipeS sl vs) ds M1).bind fun kvs M2 => dfin (mergeD [] kvs) M2 else .stuck
theorem putD_len (kvs : List (Key × D)) (k : Key) (d : D) : (putD kvs k d).length ≤ kvs.length + 1 := by
  unfold putD
  split
  · rw [List.length_map]; omega
  · rw [List.length_append]; exact Nat.le_refl _
theorem dcomp_ok {X : Cx} {E : XK} {vs ix : List Nat} {ci : ZCs} {f : Tg} {t : ZCb} {ek ev : ZC} {wi : TI} {Q : VK}
    (qi : ∀ σ H θ sl M R, SV X.K θ H σ sl → SR X.K θ H M → Post X.K X.mg E (WalkR X.K) R θ H (ci sl M) → wi σ H R) (hsub : ∀ j ∈ ix, j ∈ vs)
    {σ : L2.St} {H : Hp} {θ : List Addr} {sl : Sl} {M : Store}
    (hs : SV X.K θ H σ sl) (hm : SR X.K θ H M) (h : Post X.K X.mg E (Dr X.K) Q θ H (zdcomp vs ci f t ek ev sl M)) :
    tDc wi (gZ X.K f ix) (tZb X.K X.mg E0 t) (tZ X.K X.mg E0 ek) (tZ X.K X.mg E0 ev) vs σ H Q := by
  refine qi σ H θ sl M _ hs hm (Post.bind h fun ds M1 J H1 θ1 g1 m1 w1 h1 => ?_)
  by_cases hsz : ds.length ≤ 1000
  rotate_left
  · rw [if_neg hsz] at h1; exact h1.elim
  rw [if_pos hsz] at h1
  intro p hp
  refine ⟨fun i m H => ∃ Hv θ M acc ys, H = upd Hv p (.dK acc) ∧ Hv p = none ∧ Go θ1 θ H1 Hv ∧ SR X.K θ Hv M ∧ KD X.K θ Hv acc ys ∧ ys.length ≤ i ∧ m = ds.length - i ∧ i ≤ ds.length ∧
      Post X.K X.mg E (Dr X.K) Q θ Hv ((dcP f t ek ev (wipeS sl vs) (ds.drop i) M).bind fun zs M' => dfin (mergeD ys zs) M'),
    ⟨_, H1, θ1, M1, [], [], rfl, hp, .refl, m1, .nil, Nat.le_refl _, rfl, Nat.zero_le _, h1⟩, ?_⟩
  rintro i m H2 ⟨Hv, θ2, M2, acc, ys, rfl, hp2, g2, m2, r2, hyl, rfl, hi, h2⟩
  have np : p ∉ θ2 := fun z => m2.apart hp2 p z rfl
  have gB : Go θ2 θ2 Hv (upd Hv p (.dK acc)) := Go.out m2 hp2
  have mB : SR X.K θ2 (upd Hv p (.dK acc)) M2 := m2.out hp2
  by_cases hlt : i < ds.length
  · refine .inr ⟨w1.go i _ θ2 hlt (g2.trans gB), fun H' => ∃ Hv θ M acc ys, H' = upd Hv p (.dK acc) ∧ Hv p = none ∧ Go θ1 θ H1 Hv ∧ SR X.K θ Hv M ∧ KD X.K θ Hv acc ys ∧ ys.length ≤ i + 1 ∧
        Post X.K X.mg E (Dr X.K) Q θ Hv ((dcP f t ek ev (wipeS sl vs) (ds.drop (i + 1)) M).bind fun zs M' => dfin (mergeD ys zs) M'), ?_, ?_⟩
    · rintro H' ⟨Hv', θ', M', acc', ys', a1, a2, a3, a4, a5, a6, a7⟩
      exact ⟨ds.length - (i + 1), by omega, Hv', θ', M', acc', ys', a1, a2, a3, a4, a5, a6, rfl, hlt, a7⟩
    · intro x H3 y
      obtain ⟨d, ed, g3, m3, r3⟩ := w1.yld i _ θ2 M2 x H3 hlt (g2.trans gB) mB y
      have e0 : ds.drop i = d :: ds.drop (i + 1) := by
        rw [List.drop_eq_getElem_cons hlt]
        rw [List.getElem?_eq_getElem hlt] at ed
        rw [Option.some.inj ed]
      rw [e0] at h2
      unfold dcP at h2
      cases e1 : f d (wipeS sl vs) with
      | none => rw [e1] at h2; exact h2.elim
      | some sl3 =>
        rw [e1] at h2
        simp only at h2
        have sB : SV X.K θ2 H3 (wipe σ vs) (wipeS sl vs) := ((((hs.go g1).go g2).go gB).go g3).wipe vs
        refine ⟨d, θ2, wipeS sl vs, sl3, sB, r3, e1, fun σ3 s3 f3 => ⟨?_, ?_⟩⟩
        · exact wipe_same (f3.1.trans (wipe_length σ vs)) f3.2 hsub
        · obtain ⟨Hv3, e3, hp3, g3', m3'⟩ : ∃ Hv3, H3 = upd Hv3 p (.dK acc) ∧ Hv3 p = none ∧ Go θ2 θ2 Hv Hv3 ∧ SR X.K θ2 Hv3 M2 :=
            ⟨hid H3 p, (upd_hid (g3.same np)).symm, hid_same, g3.hid hp2, m3.hid (g3.same np) (fun z => z) np⟩
          subst e3
          refine ⟨θ2, sl3, M2, s3, m3, ?_⟩
          cases et : t sl3 M2 with
          | stuck => rw [et] at h2; exact h2
          | exc x M4 => rw [et] at h2; exact (show False from h2).elim
          | ok k M4 =>
            rw [et] at h2
            simp only [noexc_ok, Out.bind_ok] at h2
            intro b H4 θ4 g4 m4 rb
            cases rb
            obtain ⟨Hv4, e4, hp4, g4', m4', np4⟩ : ∃ Hv4, H4 = upd Hv4 p (.dK acc) ∧ Hv4 p = none ∧ Go θ2 θ4 Hv3 Hv4 ∧ SR X.K θ4 Hv4 M4 ∧ p ∉ θ4 :=
              ⟨hid H4 p, (upd_hid (g4.same np)).symm, hid_same, g4.hid hp3, m4.hid (g4.same np) (fun z => z) (g4.notin np), g4.notin np⟩
            subst e4
            have r4 : KD X.K θ4 Hv4 acc ys := kd_go (g3'.trans g4') r2
            have h4 := Post.go (g3'.trans g4') h2
            cases k with
            | false =>
              exact (if_neg Bool.false_ne_true).mpr ⟨Hv4, θ4, M4, acc, ys, rfl, hp4, (g2.trans g3').trans g4', m4', r4, by omega, by simpa using h4⟩
            | true =>
              rw [if_pos rfl] at h4
              refine (if_pos rfl).mpr ⟨θ4, sl3, M4, s3.go g4, m4, ?_⟩
              cases ee : ek sl3 M4 with
              | stuck => rw [ee] at h4; exact h4
              | exc x M5 => rw [ee] at h4; exact (show False from h4).elim
              | ok yd M5 =>
                rw [ee] at h4
                simp only [noexc_ok, Out.bind_ok] at h4
                intro v H5 θ5 g5 m5 r5
                obtain ⟨Hv5, e5, hp5, g5', m5', np5⟩ : ∃ Hv5, H5 = upd Hv5 p (.dK acc) ∧ Hv5 p = none ∧ Go θ4 θ5 Hv4 Hv5 ∧ SR X.K θ5 Hv5 M5 ∧ p ∉ θ5 :=
                  ⟨hid H5 p, (upd_hid (g5.same np4)).symm, hid_same, g5.hid hp4, m5.hid (g5.same np4) (fun z => z) (g5.notin np4), g5.notin np4⟩
                subst e5
                cases ekey : keyOf yd with
                | none => rw [ekey] at h4; exact (show False from h4).elim
                | some key =>
                  rw [ekey] at h4
                  simp only at h4
                  have hkv : v = kV key := by
                    cases yd with
                    | ref j => cases ekey
                    | p x => exact kv_is r5 ekey
                  have h5 := Post.go g5' h4
                  refine ⟨θ5, sl3, M5, (s3.go g4).go g5, m5, ?_⟩
                  cases ev1 : ev sl3 M5 with
                  | stuck => rw [ev1] at h5; exact h5
                  | exc x M6 => rw [ev1] at h5; exact (show False from h5).elim
                  | ok zd M6 =>
                    rw [ev1] at h5
                    simp only [noexc_ok, Out.bind_ok] at h5
                    intro z H6 θ6 g6 m6 r6
                    obtain ⟨Hv6, e6, hp6, g6', m6'⟩ : ∃ Hv6, H6 = upd Hv6 p (.dK acc) ∧ Hv6 p = none ∧ Go θ5 θ6 Hv5 Hv6 ∧ SR X.K θ6 Hv6 M6 :=
                      ⟨hid H6 p, (upd_hid (g6.same np5)).symm, hid_same, g6.hid hp5, m6.hid (g6.same np5) (fun z => z) (g6.notin np5)⟩
                    subst e6
                    have r6' : Dr X.K θ6 Hv6 z zd := by
                      have z := r6.hid (p := p) (u := .dK acc) upd_same (fun z => z)
                      have ez : hid (upd Hv6 p (.dK acc)) p = Hv6 := by
                        funext b
                        by_cases eb : b = p
                        · rw [eb, hid_same, hp6]
                        · rw [hid_ne eb, upd_ne eb]
                      rw [ez] at z
                      exact z
                    have h6 := Post.go g6' h5
                    have eo : ∀ o : Out (List (Key × D)), ((o.bind fun ys M4 => .ok ((key, zd) :: ys) M4).bind fun zs M' => dfin (mergeD ys zs) M') = o.bind fun zs M' => dfin (mergeD (putD ys key zd) zs) M' := fun o => by
                      cases o <;> rfl
                    rw [eo] at h6
                    have rk : KD X.K θ6 Hv6 acc ys := kd_go (g5'.trans g6') r4
                    have hal : acc.length = ys.length := Paired.length rk
                    have pl := putD_len ys key zd
                    refine ⟨acc, key, hkv, upd_same, by rw [hal, sizeLine_eq]; omega, Hv6, θ6, M6, putK acc key z, putD ys key zd, by rw [upd_upd], hp6, ((((g2.trans g3').trans g4').trans g5').trans g6'), m6', kd_put r6' rk, by omega, h6⟩
  · have ei : i = ds.length := by omega
    subst ei
    refine .inl ⟨w1.stop _ _ θ2 (Nat.le_refl _) (g2.trans gB), ?_⟩
    rw [List.drop_length] at h2
    have h3 : Post X.K X.mg E (Dr X.K) Q θ2 Hv (dfin ys M2) := h2
    exact new_dic h3 m2 r2 hp2
section
variable {X : Cx} {E : XK} {kx vx tg iter : Expr} {ifs : List Expr} {scope : Scope} {own : List (Str × Nat)} {pos : Pos} {ix : List Nat} {ci : ZCs} {f : Tg} {t : ZCb} {ek ev : ZC}
theorem ZE.dcomp (zx : ZX X) (hi : ZI X E tg iter ci) (ok : BlkOk X.N X.env.scope scope own) (hsub : ∀ j ∈ ix, j ∈ own.map (·.2))
    (hg : ∀ (s : Shared) (H : Hp) (C : Addr) (cl : List (Str × Addr)) (fp : List Addr), ZG (X.blk s H scope (compEnvC scope cl C X.env) fp) tg f ix) (ht : ∀ (s : Shared) (H : Hp) (C : Addr) (cl : List (Str × Addr)) (fp : List Addr), ZTs (X.blk s H scope (compEnvC scope cl C X.env) fp) E0 ifs t)
    (hk : ∀ (s : Shared) (H : Hp) (C : Addr) (cl : List (Str × Addr)) (fp : List Addr), ZE (X.blk s H scope (compEnvC scope cl C X.env) fp) E0 kx ek)
    (he : ∀ (s : Shared) (H : Hp) (C : Addr) (cl : List (Str × Addr)) (fp : List Addr), ZE (X.blk s H scope (compEnvC scope cl C X.env) fp) E0 vx ev) (hs : ∀ x, foldedSetIterable iter X.env x = pure x := by intro _; rfl) :
    ZE X E (.DictComp kx vx [⟨tg, iter, ifs, 0⟩] scope pos) (zdcomp (own.map (·.2)) ci f t ek ev) := by
  obtain ⟨wi, pi, qi⟩ := hi
  have p := pe_dc (pos := pos) (g := gZ X.K f ix) (tt := tZb X.K X.mg E0 t) (tk := tZ X.K X.mg E0 ek) (tv := tZ X.K X.mg E0 ev) zx.calm zx.nd pi ok (fun s H C cl fp => (hg s H C cl fp).can) (fun s H C cl fp => ht s H C cl fp) (fun s H C cl fp => (hk s H C cl fp).can) (fun s H C cl fp => (he s H C cl fp).can) hs
  exact ⟨_, p, fun σ H θ sl M Q hs hm h => dcomp_ok qi hsub hs hm h⟩
end
end Z

/-! Z: list(a dict). -/
namespace Z
open PySem PySem.Spec PyProof.Rows L2
theorem call_list_rd {X : Cx} (hc : X.calm = true) : CallR X (.type "list") (fun xs H Q => ∃ p kvs, xs = [.ref p] ∧ Rd H p (.dK kvs) ∧ ∀ q, H q = none → Q (.ref q) (upd H q (.lst (kvs.map fun kv => kV kv.1)))) := by
  intro pins s σ H xs us Q I r h
  obtain ⟨p, kvs, e, hk, q⟩ := h
  subst e
  obtain ⟨u, eu, rx⟩ := vals1 r
  subst eu
  obtain rfl : u = Value.ref p := rx
  obtain ⟨z, lo, vs, rk, hd⟩ := (show ObjOk X.prog X.w H s.heap p (.dK kvs) from hk.ok I.hok)
  obtain ⟨ep, hat⟩ := hd.dictAt
  have hl : kvs.length = vs.length := Paired.length rk
  refine PySem.W.kdl_call (PySem.W.kdl_dict (knd := mixKind X.prog X.w) (kvs := vs) (ep := ep) lo) (I.ok.hd hc) hat (by rw [← hl]; exact z) fun h' tk acc' c' hkeep hS hacc => ?_
  refine ⟨.ref s.heap.objs.size, upd H s.heap.objs.size (.lst (kvs.map fun kv => kV kv.1)), I.laid hkeep (Nat.le_refl _) (show ObjOk X.prog X.w _ _ _ (.lst (kvs.map fun kv => kV kv.1)) from ⟨?_, acc'.toList, c', ?_, ?_⟩), rfl, q _ (I.hok.fresh (Nat.le_refl _))⟩
  · rw [List.length_map]; exact z
  · have el : acc'.toList.length = acc'.size := by simp
    refine vals_of_at (by rw [List.length_map, el, hacc.1, hl]) fun j x w h1 h2 => ?_
    obtain ⟨k, y, hky, hi⟩ := hacc.2 j w (by rw [← Array.getElem?_toList]; exact h2)
    have e1 : (kvs.map (·.1))[j]? = some k := by
      rw [KV.keys rk, List.getElem?_map, hky] <;> rfl
    have e2 : (kvs.map fun kv => kV kv.1)[j]? = some (kV k) := by
      have e3 : (kvs.map fun kv => kV kv.1) = (kvs.map (·.1)).map kV := by rw [List.map_map] <;> rfl
      rw [e3, List.getElem?_map, e1] <;> rfl
    rw [e2] at h1
    cases h1
    exact keyIs_rel hi
  · rw [Array.toArray_toList]; exact hS
section
variable {X : Cx} {E : XK}
theorem kd_keys {K : PySem.W.Frag} {θ : List Addr} {H : Hp} : ∀ {us : List (Key × V)} {kvs : List (Key × D)}, KD K θ H us kvs → FzAll K H (us.map fun kv => kV kv.1) (kvs.map fun kv => kP kv.1)
  | _, _, .nil => .nil
  | u :: us, q :: kvs, .cons a b => by
    rw [List.map_cons, List.map_cons, a.1]
    exact .cons (fz_key q.1) (kd_keys b)
/-- list(x), x a dict or a row -/
def zListA (ds : List D) (M : Store) : Out D := match ds with
  | [d] => match dictv M d with
    | some kvs => if kvs.length ≤ 1000 then .ok (.p (.list (kvs.map fun kv => kP kv.1))) M else .stuck
    | none => zList [d] M
  | _ => .stuck
theorem zListA_ok (zx : ZX X) : CallR X (.type "list") (rZs X E zListA) := by
  intro pins s σ H xs us Q I r h
  obtain ⟨ds, θ, M, m, rs, h⟩ := h
  unfold zListA at h
  split at h
  · split at h
    · rename_i kvs e1
      split at h
      · rename_i c
        cases rs with
        | cons r1 rr =>
          cases rr
          obtain ⟨ad, us', rfl, hr, kd⟩ := dictv_ok m r1 e1
          refine thn (Q := EP X pins σ (FrzQ Q)) (call_list_rd zx.calm pins s σ H _ us (FrzQ Q) I r ⟨ad, us', rfl, hr, fun p hp => ?_⟩) fun u s1 z => ep_frz z
          exact post_frz h m hp (by rw [List.length_map, sizeLine_eq]; omega) (kd_keys kd)
      · exact h.elim
    · exact zList_ok pins s σ H xs us Q I r ⟨_, θ, M, m, rs, h⟩
  · exact h.elim
end
end Z

namespace ZL
open PySem PySem.Spec PyProof.Rows L2 Z
def topS (i : Nat) : Stmt := PySem.Challenge.pw_longernearer_k42_whole_what_ways_hang_on.main.body.getD i (.Pass ⟨0, 0, 0, 0⟩)
abbrev s_jumps_of : Stmt := topS 1
abbrev N_jumps_of : List Str := ["skeleton", "place", "item"]
abbrev s_in_way : Stmt := topS 3
abbrev N_in_way : List Str := ["skeleton", "jump", "goal"]
abbrev s_ahead_of_way : Stmt := topS 4
abbrev N_ahead_of_way : List Str := ["skeleton", "jump"]
abbrev s_growth : Stmt := topS 6
abbrev N_growth : List Str := ["item"]
abbrev s_is_kept_away : Stmt := topS 7
abbrev N_is_kept_away : List Str := ["skeleton", "other", "fill", "between", "item"]
abbrev s_ends_of_way : Stmt := topS 11
abbrev N_ends_of_way : List Str := ["skeleton", "jump", "goal"]
abbrev s_roundings : Stmt := topS 12
abbrev N_roundings : List Str := ["shift", "a", "over"]
abbrev s__law_loom : Stmt := topS 19
abbrev N__law_loom : List Str := ["script", "cells", "stirred", "cell"]
abbrev s__law_draw : Stmt := topS 20
abbrev N__law_draw : List Str := ["loom", "many", "cell", "one"]
abbrev s__law_jumps : Stmt := topS 24
abbrev N__law_jumps : List Str := ["frame", "at", "item"]
abbrev s__law_top : Stmt := topS 25
abbrev N__law_top : List Str := ["frame", "item"]
abbrev s__law_goes : Stmt := topS 27
abbrev N__law_goes : List Str := ["pairs", "items", "item", "fresh", "first", "shift", "down"]
abbrev s__law_sure : Stmt := topS 31
abbrev N__law_sure : List Str := ["threes", "hung", "unsure", "turn", "at", "spot", "mate", "own"]
abbrev s_is_triple : Stmt := topS 8
abbrev N_is_triple : List Str := ["skeleton", "fill", "other"]
abbrev s_shifts_behind : Stmt := topS 13
abbrev N_shifts_behind : List Str := ["skeleton", "first", "behind", "shift", "found", "place", "fresh", "own", "begins", "rest", "later"]
abbrev s__law_pick : Stmt := topS 21
abbrev N__law_pick : List Str := ["loom", "things"]
abbrev s__law_mixed : Stmt := topS 22
abbrev N__law_mixed : List Str := ["loom", "things", "rest", "found"]
abbrev s__law_triples : Stmt := topS 26
abbrev N__law_triples : List Str := ["frame", "found", "at", "low", "high", "spot", "mate", "size", "between", "own"]
abbrev s__law_changed : Stmt := topS 28
abbrev N__law_changed : List Str := ["frame", "mate", "at", "low", "high", "growth_v", "pairs", "first", "shift"]
abbrev s__law_steadied : Stmt := topS 29
abbrev N__law_steadied : List Str := ["loom", "frame", "size", "found", "item", "growth_v"]
abbrev s_triples : Stmt := topS 9
abbrev N_triples : List Str := ["skeleton", "found", "jump", "fills", "others", "fill", "place", "other"]
abbrev s_all_changes : Stmt := topS 14
abbrev N_all_changes : List Str := ["skeleton", "other", "jump", "low", "high", "growth", "found", "first", "begins", "second", "more"]
abbrev s__law_frame : Stmt := topS 23
abbrev N__law_frame : List Str := ["loom", "jumps", "fills", "labels", "top", "growth_v", "kinds", "spots", "found", "kind", "short", "at", "own"]
abbrev s__law_hung : Stmt := topS 30
abbrev N__law_hung : List Str := ["frame", "found", "jumps", "at", "own"]
abbrev s__law_chain : Stmt := topS 32
abbrev N__law_chain : List Str := ["loom", "short", "top", "found", "nth"]
abbrev s_changes : Stmt := topS 15
abbrev N_changes : List Str := ["skeleton", "other", "jump"]
abbrev s_hangs_on : Stmt := topS 16
abbrev N_hangs_on : List Str := ["skeleton", "jump", "others", "other"]
abbrev s_sure_part : Stmt := topS 17
abbrev N_sure_part : List Str := ["skeleton", "unsure", "ways", "turn", "triple", "jump", "other"]
abbrev s__law_is_told : Stmt := topS 33
abbrev N__law_is_told : List Str := ["frame", "turn", "kept", "threes", "jumps", "hung", "is_within", "at", "seen", "low", "high", "ends", "due", "again", "first", "spot", "mate", "own"]
abbrev s_law : Stmt := topS 34
abbrev N_law : List Str := ["script", "loom", "turn", "jumps", "fills", "top", "growth_v", "frame"]
noncomputable section
structure FX (K : PySem.W.Frag) (mg : Str → Option Value) where
  n_abs : mg "abs" = none
  n_any : mg "any" = none
  n_enumerate : mg "enumerate" = none
  n_int : mg "int" = none
  n_len : mg "len" = none
  n_list : mg "list" = none
  n_max : mg "max" = none
  n_min : mg "min" = none
  n_range : mg "range" = none
  n_repr : mg "repr" = none
  n_set : mg "set" = none
  n_sorted : mg "sorted" = none
  n_tuple : mg "tuple" = none
  a_jumps_of : Addr
  d_jumps_of : FuncData
  f_jumps_of : Fun K "jumps_of" "jumps_of" s_jumps_of a_jumps_of d_jumps_of
  b_jumps_of : Binds K d_jumps_of ["skeleton"] []
  m_jumps_of : mg "jumps_of" = some (.ref a_jumps_of)
  a_in_way : Addr
  d_in_way : FuncData
  f_in_way : Fun K "in_way" "in_way" s_in_way a_in_way d_in_way
  b_in_way : Binds K d_in_way ["skeleton", "jump"] []
  m_in_way : mg "in_way" = some (.ref a_in_way)
  a_ahead_of_way : Addr
  d_ahead_of_way : FuncData
  f_ahead_of_way : Fun K "ahead_of_way" "ahead_of_way" s_ahead_of_way a_ahead_of_way d_ahead_of_way
  b_ahead_of_way : Binds K d_ahead_of_way ["skeleton", "jump"] []
  m_ahead_of_way : mg "ahead_of_way" = some (.ref a_ahead_of_way)
  a_growth : Addr
  d_growth : FuncData
  f_growth : Fun K "growth" "growth" s_growth a_growth d_growth
  b_growth : Binds K d_growth ["item"] []
  m_growth : mg "growth" = some (.ref a_growth)
  a_is_kept_away : Addr
  d_is_kept_away : FuncData
  f_is_kept_away : Fun K "is_kept_away" "is_kept_away" s_is_kept_away a_is_kept_away d_is_kept_away
  b_is_kept_away : Binds K d_is_kept_away ["skeleton", "other", "fill"] []
  m_is_kept_away : mg "is_kept_away" = some (.ref a_is_kept_away)
  a_ends_of_way : Addr
  d_ends_of_way : FuncData
  f_ends_of_way : Fun K "ends_of_way" "ends_of_way" s_ends_of_way a_ends_of_way d_ends_of_way
  b_ends_of_way : Binds K d_ends_of_way ["skeleton", "jump"] []
  m_ends_of_way : mg "ends_of_way" = some (.ref a_ends_of_way)
  a_roundings : Addr
  d_roundings : FuncData
  f_roundings : Fun K "roundings" "roundings" s_roundings a_roundings d_roundings
  b_roundings : Binds K d_roundings ["shift", "a"] []
  m_roundings : mg "roundings" = some (.ref a_roundings)
  a__law_loom : Addr
  d__law_loom : FuncData
  f__law_loom : Fun K "_law_loom" "_law_loom" s__law_loom a__law_loom d__law_loom
  b__law_loom : Binds K d__law_loom ["script"] []
  m__law_loom : mg "_law_loom" = some (.ref a__law_loom)
  a__law_draw : Addr
  d__law_draw : FuncData
  f__law_draw : Fun K "_law_draw" "_law_draw" s__law_draw a__law_draw d__law_draw
  b__law_draw : Binds K d__law_draw ["loom", "many"] []
  m__law_draw : mg "_law_draw" = some (.ref a__law_draw)
  a__law_jumps : Addr
  d__law_jumps : FuncData
  f__law_jumps : Fun K "_law_jumps" "_law_jumps" s__law_jumps a__law_jumps d__law_jumps
  b__law_jumps : Binds K d__law_jumps ["frame"] []
  m__law_jumps : mg "_law_jumps" = some (.ref a__law_jumps)
  a__law_top : Addr
  d__law_top : FuncData
  f__law_top : Fun K "_law_top" "_law_top" s__law_top a__law_top d__law_top
  b__law_top : Binds K d__law_top ["frame"] []
  m__law_top : mg "_law_top" = some (.ref a__law_top)
  a__law_goes : Addr
  d__law_goes : FuncData
  f__law_goes : Fun K "_law_goes" "_law_goes" s__law_goes a__law_goes d__law_goes
  b__law_goes : Binds K d__law_goes ["pairs", "items"] []
  m__law_goes : mg "_law_goes" = some (.ref a__law_goes)
  a__law_sure : Addr
  d__law_sure : FuncData
  f__law_sure : Fun K "_law_sure" "_law_sure" s__law_sure a__law_sure d__law_sure
  b__law_sure : Binds K d__law_sure ["threes", "hung"] []
  m__law_sure : mg "_law_sure" = some (.ref a__law_sure)
  a_is_triple : Addr
  d_is_triple : FuncData
  f_is_triple : Fun K "is_triple" "is_triple" s_is_triple a_is_triple d_is_triple
  b_is_triple : Binds K d_is_triple ["skeleton", "fill", "other"] []
  m_is_triple : mg "is_triple" = some (.ref a_is_triple)
  a_shifts_behind : Addr
  d_shifts_behind : FuncData
  f_shifts_behind : Fun K "shifts_behind" "shifts_behind" s_shifts_behind a_shifts_behind d_shifts_behind
  b_shifts_behind : Binds K d_shifts_behind ["skeleton", "first", "behind", "shift"] []
  m_shifts_behind : mg "shifts_behind" = some (.ref a_shifts_behind)
  a__law_pick : Addr
  d__law_pick : FuncData
  f__law_pick : Fun K "_law_pick" "_law_pick" s__law_pick a__law_pick d__law_pick
  b__law_pick : Binds K d__law_pick ["loom", "things"] []
  m__law_pick : mg "_law_pick" = some (.ref a__law_pick)
  a__law_mixed : Addr
  d__law_mixed : FuncData
  f__law_mixed : Fun K "_law_mixed" "_law_mixed" s__law_mixed a__law_mixed d__law_mixed
  b__law_mixed : Binds K d__law_mixed ["loom", "things"] []
  m__law_mixed : mg "_law_mixed" = some (.ref a__law_mixed)
  a__law_triples : Addr
  d__law_triples : FuncData
  f__law_triples : Fun K "_law_triples" "_law_triples" s__law_triples a__law_triples d__law_triples
  b__law_triples : Binds K d__law_triples ["frame"] []
  m__law_triples : mg "_law_triples" = some (.ref a__law_triples)
  a__law_changed : Addr
  d__law_changed : FuncData
  f__law_changed : Fun K "_law_changed" "_law_changed" s__law_changed a__law_changed d__law_changed
  b__law_changed : Binds K d__law_changed ["frame", "mate", "at"] []
  m__law_changed : mg "_law_changed" = some (.ref a__law_changed)
  a__law_steadied : Addr
  d__law_steadied : FuncData
  f__law_steadied : Fun K "_law_steadied" "_law_steadied" s__law_steadied a__law_steadied d__law_steadied
  b__law_steadied : Binds K d__law_steadied ["loom", "frame"] []
  m__law_steadied : mg "_law_steadied" = some (.ref a__law_steadied)
  a_triples : Addr
  d_triples : FuncData
  f_triples : Fun K "triples" "triples" s_triples a_triples d_triples
  b_triples : Binds K d_triples ["skeleton"] []
  m_triples : mg "triples" = some (.ref a_triples)
  a_all_changes : Addr
  d_all_changes : FuncData
  f_all_changes : Fun K "all_changes" "all_changes" s_all_changes a_all_changes d_all_changes
  b_all_changes : Binds K d_all_changes ["skeleton", "other", "jump"] []
  m_all_changes : mg "all_changes" = some (.ref a_all_changes)
  a__law_frame : Addr
  d__law_frame : FuncData
  f__law_frame : Fun K "_law_frame" "_law_frame" s__law_frame a__law_frame d__law_frame
  b__law_frame : Binds K d__law_frame ["loom", "jumps", "fills", "labels", "top", "growth_v"] []
  m__law_frame : mg "_law_frame" = some (.ref a__law_frame)
  a__law_hung : Addr
  d__law_hung : FuncData
  f__law_hung : Fun K "_law_hung" "_law_hung" s__law_hung a__law_hung d__law_hung
  b__law_hung : Binds K d__law_hung ["frame"] []
  m__law_hung : mg "_law_hung" = some (.ref a__law_hung)
  a__law_chain : Addr
  d__law_chain : FuncData
  f__law_chain : Fun K "_law_chain" "_law_chain" s__law_chain a__law_chain d__law_chain
  b__law_chain : Binds K d__law_chain ["loom"] []
  m__law_chain : mg "_law_chain" = some (.ref a__law_chain)
  a_changes : Addr
  d_changes : FuncData
  f_changes : Fun K "changes" "changes" s_changes a_changes d_changes
  b_changes : Binds K d_changes ["skeleton", "other", "jump"] []
  m_changes : mg "changes" = some (.ref a_changes)
  a_hangs_on : Addr
  d_hangs_on : FuncData
  f_hangs_on : Fun K "hangs_on" "hangs_on" s_hangs_on a_hangs_on d_hangs_on
  b_hangs_on : Binds K d_hangs_on ["skeleton", "jump"] []
  m_hangs_on : mg "hangs_on" = some (.ref a_hangs_on)
  k_hangs_on_jump_skeleton : ∀ (s : Shared) (us : List Value), us.length = 2 → BindsTo s d_hangs_on ⟨[], (["jump", "skeleton"] : List Str).zip us⟩ ((["skeleton", "jump"] : List Str).zip (permBy [1, 0] us))
  a_sure_part : Addr
  d_sure_part : FuncData
  f_sure_part : Fun K "sure_part" "sure_part" s_sure_part a_sure_part d_sure_part
  b_sure_part : Binds K d_sure_part ["skeleton"] []
  m_sure_part : mg "sure_part" = some (.ref a_sure_part)
  k_sure_part_skeleton : ∀ (s : Shared) (us : List Value), us.length = 1 → BindsTo s d_sure_part ⟨[], (["skeleton"] : List Str).zip us⟩ ((["skeleton"] : List Str).zip (permBy [0] us))
  a__law_is_told : Addr
  d__law_is_told : FuncData
  f__law_is_told : Fun K "_law_is_told" "_law_is_told" s__law_is_told a__law_is_told d__law_is_told
  b__law_is_told : Binds K d__law_is_told ["frame", "turn"] []
  m__law_is_told : mg "_law_is_told" = some (.ref a__law_is_told)
  a_law : Addr
  d_law : FuncData
  f_law : Fun K "law" "law" s_law a_law d_law
  b_law : Binds K d_law ["script"] []
  m_law : mg "law" = some (.ref a_law)
theorem perm_hangs_on_jump_skeleton (us : List D) (h : us.length = 2) : (permBy [1, 0] us).length = 2 := by
  match us, h with
  | [_, _], _ => rfl
theorem perm_sure_part_skeleton (us : List D) (h : us.length = 1) : (permBy [0] us).length = 1 := by
  match us, h with
  | [_], _ => rfl
def c_jumps_of : SC := (sret (zs zTuple (zcons (zcomp frzl [1, 2] (zenum (zv 0)) (tgT (tgsCons (tgN 1) (tgsCons (tgN 2) tgsNil))) (zt (z2 zEq (z2 zIx (zv 2) (zk (.int 0))) (zk (.str "jump")))) (zv 1)) znil)))
def F_jumps_of : Fn := fnB 3 c_jumps_of
def c_in_way : SC := (sseq (sset 2 (z2 zIx (z2 zIx (zv 0) (zv 1)) (zk (.int 1)))) (sret (ztrg (zrg2 (z2 zAdd (zs zMin (zcons (zv 1) (zcons (zv 2) znil))) (zk (.int 1))) (zs zMax (zcons (zv 1) (zcons (zv 2) znil)))))))
def F_in_way : Fn := fnB 3 c_in_way
def c_ahead_of_way : SC := (sret (ztrg (zrg1 (zs zMin (zcons (zv 1) (zcons (z2 zIx (z2 zIx (zv 0) (zv 1)) (zk (.int 1))) znil))))))
def F_ahead_of_way : Fn := fnB 2 c_ahead_of_way
def c_growth : SC := (sret (z2 zSub (z2 zIx (zv 0) (zk (.int 3))) (z2 zIx (zv 0) (zk (.int 2)))))
def F_growth : Fn := fnB 1 c_growth
def c_is_kept_away : SC := (sseq (sset 3 (zslice (zv 0) (zpart (z2 zAdd (zv 1) (zk (.int 1)))) (zpart (zv 2)))) (sret (zs zAny (zcons (zcomp frzl [4] (zitems (zv 3)) (tgN 4) ztyes (zand (z2 zEq (z2 zIx (zv 4) (zk (.int 0))) (zk (.str "fill"))) (z2 zGe (z2 zIx (zv 4) (zk (.int 1))) (z2 zIx (z2 zIx (zv 0) (zv 2)) (zk (.int 1)))))) znil))))
def F_is_kept_away : Fn := fnB 5 c_is_kept_away
def c_ends_of_way : SC := (sseq (sset 2 (z2 zIx (z2 zIx (zv 0) (zv 1)) (zk (.int 1)))) (sret (zs mkTup (zcons (zs zMin (zcons (zv 1) (zcons (zv 2) znil))) (zcons (zs zMax (zcons (zv 1) (zcons (zv 2) znil))) znil)))))
def F_ends_of_way : Fn := fnB 3 c_ends_of_way
def c_roundings : SC := (sseq (sset 2 (z2 zMod (zv 0) (zv 1))) (sseq (sif (zt (z2 zEq (zv 2) (zk (.int 0)))) (sret (zs mkLstF (zcons (zs mkTup (zcons (zk .none) (zcons (zv 0) znil))) znil))) sskip) (sret (zs mkLstF (zcons (zs mkTup (zcons (zk (.int 1)) (zcons (z2 zSub (zv 0) (zv 2)) znil))) (zcons (zs mkTup (zcons (zk (.int 0)) (zcons (z2 zAdd (z2 zSub (zv 0) (zv 2)) (zv 1)) znil))) znil))))))
def F_roundings : Fn := fnB 3 c_roundings
def L__law_loom_1 : SC := (sset 2 (z2 zMod (zs zInt (zcons (z2 zAdd (z2 zAdd (z2 zMul (zv 2) (zk (.int 16807))) (zv 3)) (zk (.int 3))) znil)) (zk (.int 4294967291))))
def c__law_loom : SC := (sseq (spar [1, 2] (zcons (zcomp frzl [3] (zitems (zslice (zv 0) zno (zpart (zk (.int 63))))) (tgN 3) ztyes (z2 zAdd (z2 zMul (zk (.int 2)) (zs zAbs (zcons (zv 3) znil))) (zs zInt (zcons (z2 zLt (zv 3) (zk (.int 0))) znil)))) (zcons (z2 zAdd (zk (.int 90001)) (z2 zMul (zk (.int 7)) (zs zLen (zcons (zv 0) znil)))) znil))) (sseq (sfor (tgN 3) (zitems (zv 1)) L__law_loom_1) (sret (zdisp (zpcons (zk (.str "far")) (zcomp mkLst [3] (zitems (zv 1)) (tgN 3) (zt (z2 zGe (zv 3) (z2 zPow (zk (.int 10)) (zk (.int 15))))) (zv 3)) (zpcons (zk (.str "stirred")) (zv 2) (zpcons (zk (.str "times")) (zk (.int 0)) zpnil)))))))
def F__law_loom : Fn := fnB 4 c__law_loom
def c__law_draw : SC := (sseq (sif (zt (z2 zLt (zv 1) (zk (.int 2)))) (sret (zk (.int 0))) sskip) (sseq (sif (zt (z2 zNe (z2 zIx (zv 0) (zk (.str "far"))) (zs mkLstF znil))) (sseq (sset 2 (zm0 isL zPop (z2 zIx (zv 0) (zk (.str "far"))))) (sseq (sif (zt (z2 zGe (zv 2) (zv 1))) (sexpr (zmt isL zAppend (z2 zIx (zv 0) (zk (.str "far"))) (zcons (z2 zDiv (zv 2) (zv 1)) znil))) sskip) (sret (z2 zMod (zs zInt (zcons (zv 2) znil)) (zv 1))))) sskip) (sseq (sstore zDput (z2 zAdd (z2 zIx (zv 0) (zk (.str "times"))) (zk (.int 1))) (zv 0) (zk (.str "times"))) (sseq (sset 3 (z2 zMod (zs zInt (zcons (z2 zAdd (z2 zIx (zv 0) (zk (.str "stirred"))) (z2 zMul (zk (.int 2654435761)) (z2 zIx (zv 0) (zk (.str "times"))))) znil)) (zk (.int 4294967279)))) (sseq (sset 3 (z2 zMod (zs zInt (zcons (z2 zAdd (z2 zAdd (z2 zMul (zv 3) (zv 3)) (z2 zMul (zk (.int 40503)) (z2 zIx (zv 0) (zk (.str "times"))))) (zk (.int 17))) znil)) (zk (.int 4294967231)))) (sseq (sset 3 (z2 zMod (zs zInt (zcons (z2 zAdd (z2 zMul (zv 3) (zv 3)) (z2 zIx (zv 0) (zk (.str "stirred")))) znil)) (zk (.int 4294967197)))) (sret (z2 zMod (zs zInt (zcons (z2 zDiv (zv 3) (zk (.int 128))) znil)) (zv 1)))))))))
def F__law_draw : Fn := fnB 4 c__law_draw
def c__law_jumps : SC := (sret (zcomp frzl [1, 2] (zenum (zv 0)) (tgT (tgsCons (tgN 1) (tgsCons (tgN 2) tgsNil))) (zt (z2 zEq (z2 zIx (zv 2) (zk (.int 0))) (zk (.str "jump")))) (zv 1)))
def F__law_jumps : Fn := fnB 3 c__law_jumps
def c__law_top : SC := (sret (zs zMax (zcons (z2 zAdd (zs mkLstF (zcons (zk (.int 1)) znil)) (zcomp frzl [1] (zitems (zv 0)) (tgN 1) (zt (z2 zEq (z2 zIx (zv 1) (zk (.int 0))) (zk (.str "fill")))) (z2 zIx (zv 1) (zk (.int 1))))) znil)))
def F__law_top : Fn := fnB 2 c__law_top
def L__law_goes_1 : SC := (sseq (sset 6 (z2 zMul (z2 zDiv (zv 5) (z2 zIx (zv 2) (zk (.int 1)))) (z2 zIx (zv 2) (zk (.int 1))))) (sset 3 (z2 zAdd (z2 zAdd (zv 3) (zs mkLstF (zcons (zs mkTup (zcons (zv 4) (zcons (zv 6) znil))) znil))) (zif (zt (z2 zNe (zv 6) (zv 5))) (zs mkLstF (zcons (zs mkTup (zcons (zv 4) (zcons (z2 zAdd (zv 6) (z2 zIx (zv 2) (zk (.int 1)))) znil))) znil)) (zs mkLstF znil)))))
def L__law_goes_2 : SC := (sif (zt (z2 zEq (z2 zIx (zv 2) (zk (.int 0))) (zk (.str "fill")))) (sseq (sset 3 (zs mkLstF znil)) (sseq (sfor (tgT (tgsCons (tgN 4) (tgsCons (tgN 5) tgsNil))) (zitems (zv 0)) L__law_goes_1) (sset 0 (z1 zSortSetP (zv 3))))) sskip)
def c__law_goes : SC := (sseq (sfor (tgN 2) (zitems (zv 1)) L__law_goes_2) (sret (zv 0)))
def F__law_goes : Fn := fnB 7 c__law_goes
def L__law_sure_1 : SC := (sset 2 (z1 zSortSet (z2 zAdd (zv 2) (zcomp frzl [4] (zitems (zv 1)) (tgN 4) (zt (z2 zNe (zcomp frzl [7] (zitems (z2 zIx (zv 1) (zv 4))) (tgN 7) (zt (z2 zIn (zv 7) (zv 2))) (zv 7)) (zs mkLstF znil))) (zv 4)))))
def c__law_sure : SC := (sseq (sset 2 (zcomp frzl [4, 5, 6] (zitems (zv 0)) (tgT (tgsCons (tgN 4) (tgsCons (tgN 5) (tgsCons (tgN 6) tgsNil)))) ztyes (zv 4))) (sseq (sfor (tgN 3) (zitems (zv 1)) L__law_sure_1) (sret (zs zTuple (zcons (zcomp frzl [4] (zitems (zs zSort (zcons (zs zListA (zcons (zv 1) znil)) znil))) (tgN 4) (zt (z2 zNotIn (zv 4) (zv 2))) (zv 4)) znil)))))
def F__law_sure : Fn := fnB 8 c__law_sure
def c_is_triple : SC := (sseq (sif (zt (zs (zfc 3 F_is_kept_away) (zcons (zv 0) (zcons (zv 2) (zcons (zv 1) znil))))) (sret (zk (.bool false))) sskip) (sret (z2 zNe (z2 zMod (zs (zfc 1 F_growth) (zcons (z2 zIx (zv 0) (zv 2)) znil)) (z2 zIx (z2 zIx (zv 0) (zv 1)) (zk (.int 1)))) (zk (.int 0)))))
def F_is_triple : Fn := fnB 3 c_is_triple
def L_shifts_behind_1 : SC := (sstore zDput (zif (zt (z2 (zIs false) (zv 9) (zk .none))) (zv 8) (z2 zAdd (zv 8) (zs mkTup (zcons (zs mkTup (zcons (zv 5) (zcons (zv 9) znil))) znil)))) (zv 6) (zv 10))
def L_shifts_behind_2 : SC := (sfor (tgT (tgsCons (tgN 9) (tgsCons (tgN 10) tgsNil))) (zitems (zs (zfc 2 F_roundings) (zcons (zv 7) (zcons (z2 zIx (z2 zIx (zv 0) (zv 5)) (zk (.int 1))) znil)))) L_shifts_behind_1)
def L_shifts_behind_3 : SC := (sif (zt (z2 zEq (z2 zIx (z2 zIx (zv 0) (zv 5)) (zk (.int 0))) (zk (.str "fill")))) (sseq (sset 6 zDnew) (sseq (sfor (tgT (tgsCons (tgN 7) (tgsCons (tgN 8) tgsNil))) (zditems (zv 4)) L_shifts_behind_2) (sset 4 (zfrz (zv 6))))) sskip)
def c_shifts_behind : SC := (sseq (sset 4 (zfrz (zdisp (zpcons (zv 3) (zs mkTup znil) zpnil)))) (sseq (sfor (tgN 5) (zrange2 (zv 1) (zv 2)) L_shifts_behind_3) (sret (zv 4))))
def F_shifts_behind : Fn := fnB 11 c_shifts_behind
def c__law_pick : SC := (sret (z2 zIx (zv 1) (zs (zfc 2 F__law_draw) (zcons (zv 0) (zcons (zs zLen (zcons (zv 1) znil)) znil)))))
def F__law_pick : Fn := fnB 2 c__law_pick
def L__law_mixed_1 : SC := (sexpr (zmt isL zAppend (zv 3) (zcons (zmt isL zPopAt (zv 2) (zcons (zs (zfc 2 F__law_draw) (zcons (zv 0) (zcons (zs zLen (zcons (zv 2) znil)) znil))) znil)) znil)))
def c__law_mixed : SC := (sseq (spar [2, 3] (zcons (zs zListM (zcons (zv 1) znil)) (zcons (zs mkLst znil) znil))) (sseq (swhile 64 (zt (z2 zNe (zv 2) (zs mkLstF znil))) L__law_mixed_1) (sret (zfrz (zv 3)))))
def F__law_mixed : Fn := fnB 4 c__law_mixed
def L__law_triples_1 : SC := (sseq (sset 7 (z2 zIx (z2 zIx (zv 0) (zv 5)) (zk (.int 1)))) (sseq (sset 8 (zcomp frzl [9] (zitems (zslice (zv 0) (zpart (z2 zAdd (zv 6) (zk (.int 1)))) (zpart (zv 5)))) (tgN 9) (ztand (zt (z2 zEq (z2 zIx (zv 9) (zk (.int 0))) (zk (.str "fill")))) (zt (z2 zGe (z2 zIx (zv 9) (zk (.int 1))) (zv 7)))) (zv 9))) (sif (ztand (zt (z2 zEq (zv 8) (zs mkLstF znil))) (zt (z2 zGt (z2 zMod (zs zInt (zcons (z2 zSub (z2 zIx (z2 zIx (zv 0) (zv 6)) (zk (.int 3))) (z2 zIx (z2 zIx (zv 0) (zv 6)) (zk (.int 2)))) znil)) (zv 7)) (zk (.int 0))))) (sexpr (zmt isL zAppend (zv 1) (zcons (zs mkTup (zcons (zv 2) (zcons (zv 5) (zcons (zv 6) znil)))) znil))) sskip)))
def L__law_triples_2 : SC := (sfor (tgN 6) (zitems (zcomp frzl [9] (zitems (zs (zfc 1 F__law_jumps) (zcons (zv 0) znil))) (tgN 9) (zt (z2 zLt (zv 9) (zv 3))) (zv 9))) L__law_triples_1)
def L__law_triples_3 : SC := (sseq (spar [3, 4] (zcons (zs zMin (zcons (zv 2) (zcons (z2 zIx (z2 zIx (zv 0) (zv 2)) (zk (.int 1))) znil))) (zcons (zs zMax (zcons (zv 2) (zcons (z2 zIx (z2 zIx (zv 0) (zv 2)) (zk (.int 1))) znil))) znil))) (sfor (tgN 5) (zitems (zcomp frzl [9] (zrange2 (z2 zAdd (zv 3) (zk (.int 1))) (zv 4)) (tgN 9) (zt (z2 zEq (z2 zIx (z2 zIx (zv 0) (zv 9)) (zk (.int 0))) (zk (.str "fill")))) (zv 9))) L__law_triples_2))
def c__law_triples : SC := (sseq (sset 1 (zs mkLst znil)) (sseq (sfor (tgN 2) (zitems (zs (zfc 1 F__law_jumps) (zcons (zv 0) znil))) L__law_triples_3) (sret (zfrz (zv 1)))))
def F__law_triples : Fn := fnB 10 c__law_triples
def c__law_changed : SC := (sseq (spar [3, 4] (zcons (zs zMin (zcons (zv 2) (zcons (z2 zIx (z2 zIx (zv 0) (zv 2)) (zk (.int 1))) znil))) (zcons (zs zMax (zcons (zv 2) (zcons (z2 zIx (z2 zIx (zv 0) (zv 2)) (zk (.int 1))) znil))) znil))) (sseq (sset 5 (z2 zSub (z2 zIx (z2 zIx (zv 0) (zv 1)) (zk (.int 3))) (z2 zIx (z2 zIx (zv 0) (zv 1)) (zk (.int 2))))) (sseq (sif (zt (z2 zGt (zv 1) (zv 4))) (sret (zs mkTup (zcons (zk (.int 0)) znil))) sskip) (sseq (sif (zt (z2 zGt (zv 1) (zv 3))) (sret (zs zTuple (zcons (z1 zSortSet (zcomp frzl [7, 8] (zitems (zs (zfc 2 F__law_goes) (zcons (zs mkLstF (zcons (zs mkTup (zcons (zk (.int 0)) (zcons (zv 5) znil))) znil)) (zcons (zslice (zv 0) (zpart (z2 zAdd (zv 1) (zk (.int 1)))) (zpart (zv 4))) znil)))) (tgT (tgsCons (tgN 7) (tgsCons (tgN 8) tgsNil))) ztyes (zv 8))) znil))) sskip) (sseq (sset 6 (zs (zfc 2 F__law_goes) (zcons (zs mkLstF (zcons (zs mkTup (zcons (zk (.int 0)) (zcons (zv 5) znil))) znil)) (zcons (zslice (zv 0) (zpart (z2 zAdd (zv 1) (zk (.int 1)))) (zpart (zv 3))) znil)))) (sseq (sset 6 (zs (zfc 2 F__law_goes) (zcons (zcomp frzl [7, 8] (zitems (zv 6)) (tgT (tgsCons (tgN 7) (tgsCons (tgN 8) tgsNil))) ztyes (zs mkTup (zcons (zv 8) (zcons (zv 8) znil)))) (zcons (zslice (zv 0) (zpart (z2 zAdd (zv 3) (zk (.int 1)))) (zpart (zv 4))) znil)))) (sret (zs zTuple (zcons (z1 zSortSet (zcomp frzl [7, 8] (zitems (zv 6)) (tgT (tgsCons (tgN 7) (tgsCons (tgN 8) tgsNil))) ztyes (z2 zSub (zv 8) (zv 7)))) znil)))))))))
def F__law_changed : Fn := fnB 9 c__law_changed
def L__law_steadied_1 : SC := (sseq (sif (zt (z2 zEq (z2 zIx (zv 4) (zk (.int 0))) (zk (.str "jump")))) (sseq (sset 5 (z2 zMul (zv 2) (z2 zAdd (zk (.int 1)) (zs (zfc 2 F__law_draw) (zcons (zv 0) (zcons (zs zMax (zcons (zk (.int 1)) (zcons (zs zMin (zcons (zk (.int 4)) (zcons (z2 zDiv (zk (.int 900)) (zv 2)) znil))) znil))) znil)))))) (sseq (sset 4 (z2 zAdd (zslice (zv 4) zno (zpart (zk (.int 3)))) (zs mkTup (zcons (z2 zAdd (zs zMin (zcons (z2 zIx (zv 4) (zk (.int 2))) (zcons (zk (.int 99)) znil))) (zv 5)) znil)))) (sset 4 (z2 zAdd (zslice (zv 4) zno (zpart (zk (.int 2)))) (zs mkTup (zcons (zs zMin (zcons (z2 zIx (zv 4) (zk (.int 2))) (zcons (zk (.int 99)) znil))) (zcons (z2 zIx (zv 4) (zk (.int 3))) znil))))))) sskip) (sexpr (zmt isL zAppend (zv 3) (zcons (zv 4) znil))))
def c__law_steadied : SC := (sseq (spar [2, 3] (zcons (zs (zfc 1 F__law_top) (zcons (zv 1) znil)) (zcons (zs mkLst znil) znil))) (sseq (sfor (tgN 4) (zitems (zv 1)) L__law_steadied_1) (sret (zs zTuple (zcons (zv 3) znil)))))
def F__law_steadied : Fn := fnB 6 c__law_steadied
def L_triples_1 : SC := (sexpr (zmt isL zExtend (zv 1) (zcons (zcomp frzl [7] (zitems (zv 4)) (tgN 7) (zt (zs (zfc 3 F_is_triple) (zcons (zv 0) (zcons (zv 5) (zcons (zv 7) znil))))) (zs mkTup (zcons (zv 2) (zcons (zv 5) (zcons (zv 7) znil))))) znil)))
def L_triples_2 : SC := (sseq (sset 3 (zcomp frzl [6] (zitems (zs (zfc 2 F_in_way) (zcons (zv 0) (zcons (zv 2) znil)))) (tgN 6) (zt (z2 zEq (z2 zIx (z2 zIx (zv 0) (zv 6)) (zk (.int 0))) (zk (.str "fill")))) (zv 6))) (sseq (sset 4 (zcomp frzl [6] (zitems (zs (zfc 2 F_ahead_of_way) (zcons (zv 0) (zcons (zv 2) znil)))) (tgN 6) (zt (z2 zEq (z2 zIx (z2 zIx (zv 0) (zv 6)) (zk (.int 0))) (zk (.str "jump")))) (zv 6))) (sfor (tgN 5) (zitems (zv 3)) L_triples_1)))
def c_triples : SC := (sseq (sset 1 (zs mkLst znil)) (sseq (sfor (tgN 2) (zitems (zs (zfc 1 F_jumps_of) (zcons (zv 0) znil))) L_triples_2) (sret (zs zTuple (zcons (zv 1) znil)))))
def F_triples : Fn := fnB 8 c_triples
def L_all_changes_1 : SC := (sstore zDput (z2 zAdd (zv 8) (zv 10)) (zv 6) (z2 zSub (zv 9) (zv 7)))
def L_all_changes_2 : SC := (sfor (tgT (tgsCons (tgN 9) (tgsCons (tgN 10) tgsNil))) (zditems (zs (zfc 4 F_shifts_behind) (zcons (zv 0) (zcons (z2 zAdd (zv 3) (zk (.int 1))) (zcons (zv 4) (zcons (zv 7) znil)))))) L_all_changes_1)
def c_all_changes : SC := (sseq (stg (tgT (tgsCons (tgN 3) (tgsCons (tgN 4) tgsNil))) (zs (zfc 2 F_ends_of_way) (zcons (zv 0) (zcons (zv 2) znil)))) (sseq (sset 5 (z2 zSub (z2 zIx (z2 zIx (zv 0) (zv 1)) (zk (.int 3))) (z2 zIx (z2 zIx (zv 0) (zv 1)) (zk (.int 2))))) (sseq (sif (zt (z2 zGt (zv 1) (zv 4))) (sret (zfrz (zdisp (zpcons (zk (.int 0)) (zs mkTup znil) zpnil)))) sskip) (sseq (sif (zt (z2 zGt (zv 1) (zv 3))) (sret (zs (zfc 4 F_shifts_behind) (zcons (zv 0) (zcons (z2 zAdd (zv 1) (zk (.int 1))) (zcons (zv 4) (zcons (zv 5) znil)))))) sskip) (sseq (sset 6 zDnew) (sseq (sfor (tgT (tgsCons (tgN 7) (tgsCons (tgN 8) tgsNil))) (zditems (zs (zfc 4 F_shifts_behind) (zcons (zv 0) (zcons (z2 zAdd (zv 1) (zk (.int 1))) (zcons (zv 3) (zcons (zv 5) znil)))))) L_all_changes_2) (sret (zfrz (zv 6)))))))))
def F_all_changes : Fn := fnB 11 c_all_changes
def L__law_frame_1 : SC := (sif (zt (z2 zEq (zv 9) (zk (.str "label")))) (sexpr (zmt isL zAppend (zv 8) (zcons (zs mkTup (zcons (zv 9) znil)) znil))) (sif (zt (z2 zEq (zv 9) (zk (.str "fill")))) (sexpr (zmt isL zAppend (zv 8) (zcons (zs mkTup (zcons (zv 9) (zcons (zs (zfc 2 F__law_pick) (zcons (zv 0) (zcons (zcomp frzl [12] (zitems (zs mkTup (zcons (zk (.int 2)) (zcons (zk (.int 4)) (zcons (zk (.int 8)) (zcons (zk (.int 16)) (zcons (zk (.int 32)) (zcons (zk (.int 64)) znil)))))))) (tgN 12) (zt (z2 zLe (zv 12) (zv 4))) (zv 12)) znil))) znil))) znil))) (sseq (sset 10 (z2 zAdd (zk (.int 1)) (zs (zfc 2 F__law_draw) (zcons (zv 0) (zcons (zk (.int 9)) znil))))) (sexpr (zmt isL zAppend (zv 8) (zcons (zs mkTup (zcons (zv 9) (zcons (zs (zfc 2 F__law_pick) (zcons (zv 0) (zcons (zv 7) znil))) (zcons (zv 10) (zcons (zs zMin (zcons (zk (.int 999)) (zcons (z2 zAdd (z2 zAdd (zv 10) (zk (.int 1))) (zs (zfc 2 F__law_draw) (zcons (zv 0) (zcons (zv 5) znil)))) znil))) znil))))) znil))))))
def c__law_frame : SC := (sseq (sset 6 (zs (zfc 2 F__law_mixed) (zcons (zv 0) (zcons (z2 zAdd (z2 zAdd (z2 zMul (zs mkLstF (zcons (zk (.str "jump")) znil)) (zv 1)) (z2 zMul (zs mkLstF (zcons (zk (.str "fill")) znil)) (zv 2))) (z2 zMul (zs mkLstF (zcons (zk (.str "label")) znil)) (zv 3))) znil)))) (sseq (spar [7, 8] (zcons (zcomp frzl [11, 9] (zenum (zv 6)) (tgT (tgsCons (tgN 11) (tgsCons (tgN 9) tgsNil))) (zt (z2 zEq (zv 9) (zk (.str "label")))) (zv 11)) (zcons (zs mkLst znil) znil))) (sseq (sfor (tgN 9) (zitems (zv 6)) L__law_frame_1) (sret (zs zTuple (zcons (zv 8) znil))))))
def F__law_frame : Fn := fnB 13 c__law_frame
def L__law_hung_1 : SC := (sstore zDput (zs zTuple (zcons (zcomp frzl [4] (zitems (zv 2)) (tgN 4) (ztand (zt (z2 zNe (zv 4) (zv 3))) (zt (z2 zNe (zs (zfc 3 F__law_changed) (zcons (zv 0) (zcons (zv 4) (zcons (zv 3) znil)))) (zs mkTup (zcons (zk (.int 0)) znil))))) (zv 4)) znil)) (zv 1) (zv 3))
def c__law_hung : SC := (sseq (spar [1, 2] (zcons zDnew (zcons (zs (zfc 1 F__law_jumps) (zcons (zv 0) znil)) znil))) (sseq (sfor (tgN 3) (zitems (zv 2)) L__law_hung_1) (sret (zfrz (zv 1)))))
def F__law_hung : Fn := fnB 5 c__law_hung
def L__law_chain_1 : SC := (sseq (sset 1 (z2 zAdd (zk (.int 1)) (zs (zfc 2 F__law_draw) (zcons (zv 0) (zcons (zk (.int 9)) znil))))) (sset 3 (z2 zAdd (zv 3) (zs mkLstF (zcons (zs mkTup (zcons (zk (.str "jump")) (zcons (z2 zAdd (zk (.int 1)) (z2 zMul (zk (.int 2)) (zv 4))) (zcons (zv 1) (zcons (z2 zAdd (z2 zAdd (zv 1) (zk (.int 1))) (zs (zfc 2 F__law_draw) (zcons (zv 0) (zcons (zk (.int 40)) znil)))) znil))))) (zcons (zs mkTup (zcons (zk (.str "label")) znil)) znil))))))
def c__law_chain : SC := (sseq (spar [1, 2, 3] (zcons (z2 zAdd (zk (.int 1)) (zs (zfc 2 F__law_draw) (zcons (zv 0) (zcons (zk (.int 9)) znil)))) (zcons (zs (zfc 2 F__law_pick) (zcons (zv 0) (zcons (zs mkLstF (zcons (zk (.int 2)) (zcons (zk (.int 8)) (zcons (zk (.int 64)) znil)))) znil))) (zcons (zs mkLstF znil) znil)))) (sseq (sset 3 (zs mkLstF (zcons (zs mkTup (zcons (zk (.str "jump")) (zcons (zk (.int 1)) (zcons (zv 1) (zcons (z2 zAdd (z2 zAdd (zv 1) (zk (.int 1))) (z2 zMul (zk (.int 2)) (zs (zfc 2 F__law_draw) (zcons (zv 0) (zcons (zk (.int 20)) znil))))) znil))))) (zcons (zs mkTup (zcons (zk (.str "label")) znil)) (zcons (zs mkTup (zcons (zk (.str "fill")) (zcons (zv 2) znil))) (zcons (zs mkTup (zcons (zk (.str "label")) znil)) znil)))))) (sseq (sfor (tgN 4) (zrange1 (z2 zAdd (zk (.int 2)) (zs (zfc 2 F__law_draw) (zcons (zv 0) (zcons (zk (.int 6)) znil))))) L__law_chain_1) (sret (zs zTuple (zcons (zv 3) znil))))))
def F__law_chain : Fn := fnB 5 c__law_chain
def c_changes : SC := (sret (zs zTuple (zcons (zs zSortD (zcons (zs (zfc 3 F_all_changes) (zcons (zv 0) (zcons (zv 1) (zcons (zv 2) znil)))) znil)) znil)))
def F_changes : Fn := fnB 3 c_changes
def c_hangs_on : SC := (sseq (sset 2 (zcomp frzl [3] (zitems (zs (zfc 1 F_jumps_of) (zcons (zv 0) znil))) (tgN 3) (zt (z2 zNe (zv 3) (zv 1))) (zv 3))) (sret (zs zTuple (zcons (zcomp frzl [3] (zitems (zv 2)) (tgN 3) (zt (z2 zNe (zs (zfc 3 F_changes) (zcons (zv 0) (zcons (zv 3) (zcons (zv 1) znil)))) (zs mkTup (zcons (zk (.int 0)) znil)))) (zv 3)) znil))))
def F_hangs_on : Fn := fnB 4 c_hangs_on
def L_sure_part_1 : SC := (sset 1 (zcomp frzl [5] (zitems (zv 2)) (tgN 5) (ztor (zt (z2 zIn (zv 5) (zv 1))) (zt (zs zAny (zcons (zcomp frzl [6] (zitems (z2 zIx (zv 2) (zv 5))) (tgN 6) ztyes (z2 zIn (zv 6) (zv 1))) znil)))) (zv 5)))
def c_sure_part : SC := (sseq (sset 1 (zcomp frzl [4] (zitems (zs (zfc 1 F_triples) (zcons (zv 0) znil))) (tgN 4) ztyes (z2 zIx (zv 4) (zk (.int 0))))) (sseq (sset 2 (zfrz (zdcomp [5] (zitems (zs (zfc 1 F_jumps_of) (zcons (zv 0) znil))) (tgN 5) ztyes (zv 5) (zs (zfc 2 F_hangs_on) (zcons (zv 0) (zcons (zv 5) znil)))))) (sseq (sfor (tgN 3) (zitems (zv 2)) L_sure_part_1) (sret (zs zTuple (zcons (zcomp frzl [5] (zitems (zv 2)) (tgN 5) (zt (z2 zNotIn (zv 5) (zv 1))) (zv 5)) znil))))))
def F_sure_part : Fn := fnB 7 c_sure_part
def L__law_is_told_1 : SC := (sseq (sset 8 (zif (zt (z2 zEq (zv 1) (zk (.int 1)))) (zs (fun ds M => zfc 2 (fun ds M => F_hangs_on (permBy [1, 0] ds) M) ds M) (zcons (zv 7) (zcons (zv 0) znil))) (zs (zfc 2 F_hangs_on) (zcons (zv 0) (zcons (zv 7) znil))))) (sseq (spar [9, 10] (zcons (zs zMin (zcons (zv 7) (zcons (z2 zIx (z2 zIx (zv 0) (zv 7)) (zk (.int 1))) znil))) (zcons (zs zMax (zcons (zv 7) (zcons (z2 zIx (z2 zIx (zv 0) (zv 7)) (zk (.int 1))) znil))) znil))) (sseq (sset 11 (zcomp frzl [14, 15, 16] (zitems (zv 3)) (tgT (tgsCons (tgN 14) (tgsCons (tgN 15) (tgsCons (tgN 16) tgsNil)))) (zt (z2 zEq (zv 14) (zv 7))) (zv 16))) (sseq (sset 12 (zs zTuple (zcons (zcomp frzl [17] (zitems (zv 4)) (tgN 17) (ztand (zt (z2 zNe (zv 17) (zv 7))) (ztor (zt (zchain zLt zLt (zv 9) (zv 17) (zv 10))) (zt (z2 zIn (zv 17) (zv 11))))) (zv 17)) znil))) (sseq (sset 13 (zif (zt (z2 zLt (zs zLen (zcons (zv 4) znil)) (zk (.int 5)))) (zs (zfc 2 F_hangs_on) (zcons (zv 0) (zcons (zv 7) znil))) (zv 8))) (sseq (sif (zt (z2 zNe (zs zShow (zcons (zs mkLstF (zcons (zv 8) (zcons (zv 13) (zcons (z2 zIx (zv 5) (zv 7)) znil)))) znil)) (zs zShow (zcons (z2 zMul (zs mkLstF (zcons (zv 12) znil)) (zk (.int 3))) znil)))) (sret (zk (.bool false))) sskip) (sset 6 (zand (zv 6) (z2 zEq (zcomp frzl [17] (zitems (zv 8)) (tgN 17) (ztnot (zt (zchain zLt zLt (zv 9) (zv 17) (zv 10)))) (zv 17)) (zs mkLstF znil))))))))))
def c__law_is_told : SC := (sseq (spar [2, 3, 4, 5] (zcons (zs zShow (zcons (zv 0) znil)) (zcons (zs (zfc 1 F__law_triples) (zcons (zv 0) znil)) (zcons (zs (zfc 1 F__law_jumps) (zcons (zv 0) znil)) (zcons (zs (zfc 1 F__law_hung) (zcons (zv 0) znil)) znil))))) (sseq (sset 6 (zk (.bool true))) (sseq (sfor (tgN 7) (zitems (zv 4)) L__law_is_told_1) (sseq (sset 8 (zif (zt (z2 zEq (zv 1) (zk (.int 2)))) (zs (fun ds M => zfc 1 (fun ds M => F_sure_part (permBy [0] ds) M) ds M) (zcons (zv 0) znil)) (zs (zfc 1 F_sure_part) (zcons (zv 0) znil)))) (sseq (sset 12 (zs (zfc 2 F__law_sure) (zcons (zv 3) (zcons (zv 5) znil)))) (sseq (sset 13 (zif (zt (z2 zLt (zs zLen (zcons (zv 4) znil)) (zk (.int 5)))) (zs (zfc 1 F_sure_part) (zcons (zv 0) znil)) (zv 8))) (sseq (sif (ztor (zt (z2 zNe (zs zShow (zcons (zs mkLstF (zcons (zv 8) (zcons (zv 13) znil))) znil)) (zs zShow (zcons (zs mkLstF (zcons (zv 12) (zcons (zv 12) znil))) znil)))) (zt (z2 zNe (zs zShow (zcons (zv 0) znil)) (zv 2)))) (sret (zk (.bool false))) sskip) (sret (zand (z2 zEq (zv 6) (z2 zEq (zv 3) (zs mkLstF znil))) (zor (z2 zNe (zv 3) (zs mkLstF znil)) (z2 zEq (zv 12) (zs zTuple (zcons (zv 4) znil)))))))))))))
def F__law_is_told : Fn := fnB 18 c__law_is_told
def L_law_1 : SC := (sseq (spar [3, 4] (zcons (z2 zAdd (zk (.int 1)) (zs (zfc 2 F__law_draw) (zcons (zv 1) (zcons (z2 zIx (zs mkLstF (zcons (zk (.int 2)) (zcons (zk (.int 3)) (zcons (zk (.int 4)) (zcons (zk (.int 4)) (zcons (zk (.int 4)) (zcons (zk (.int 8)) znil))))))) (zv 2)) znil)))) (zcons (zs (zfc 2 F__law_draw) (zcons (zv 1) (zcons (z2 zIx (zs mkLstF (zcons (zk (.int 3)) (zcons (zk (.int 4)) (zcons (zk (.int 4)) (zcons (zk (.int 8)) (zcons (zk (.int 11)) (zcons (zk (.int 8)) znil))))))) (zv 2)) znil))) znil))) (sseq (spar [5, 6] (zcons (zs (zfc 2 F__law_pick) (zcons (zv 1) (zcons (zs mkLstF (zcons (zk (.int 2)) (zcons (zk (.int 8)) (zcons (zk (.int 64)) znil)))) znil))) (zcons (zs (zfc 2 F__law_pick) (zcons (zv 1) (zcons (zs mkLstF (zcons (zk (.int 6)) (zcons (zk (.int 40)) (zcons (zk (.int 900)) znil)))) znil))) znil))) (sseq (sset 7 (zs (zfc 6 F__law_frame) (zcons (zv 1) (zcons (zv 3) (zcons (zv 4) (zcons (z2 zAdd (zk (.int 1)) (zs (zfc 2 F__law_draw) (zcons (zv 1) (zcons (zk (.int 4)) znil)))) (zcons (zv 5) (zcons (zv 6) znil)))))))) (sseq (sset 7 (zif (zt (z2 zEq (zs (zfc 2 F__law_draw) (zcons (zv 1) (zcons (zk (.int 4)) znil))) (zk (.int 0)))) (zs (zfc 2 F__law_steadied) (zcons (zv 1) (zcons (zv 7) znil))) (zv 7))) (sif (ztnot (zt (zs (zfc 2 F__law_is_told) (zcons (zv 7) (zcons (zv 2) znil))))) (sret (zk (.bool false))) sskip)))))
def c_law : SC := (sseq (sset 1 (zs (zfc 1 F__law_loom) (zcons (zv 0) znil))) (sseq (sfor (tgN 2) (zrange1 (zk (.int 6))) L_law_1) (sret (zor (z2 zGt (zs (zfc 2 F__law_draw) (zcons (zv 1) (zcons (zk (.int 2)) znil))) (zk (.int 0))) (zs (zfc 2 F__law_is_told) (zcons (zs (zfc 1 F__law_chain) (zcons (zv 1) znil)) (zcons (zk (.int 0)) znil)))))))
def F_law : Fn := fnB 8 c_law
section
variable {P : Program} {w : World} {K : PySem.W.Frag} {mg : Str → Option Value} {base : Heap}
theorem sc_jumps_of : FnScope N_jumps_of ["skeleton"] (defScope s_jumps_of) := ⟨rfl, rfl, rfl, by decide +kernel, rfl, by decide +kernel, by decide +kernel⟩
theorem ok_jumps_of (fx : FX K mg) : FnG P w K mg base 1 fx.a_jumps_of fx.d_jumps_of ["skeleton"] (spZ K mg F_jumps_of 1) :=
  zfn fx.f_jumps_of sc_jumps_of fun cdv A outer s H E B => ((.one (.ret (.callTy zTuple_ok (by rfl) fx.n_tuple (by rfl) (.cons (ZE.comp (own := [("place", 1), ("item", 2)]) fin_f B.zx (.enum (by rfl) fx.n_enumerate (.v 0)) (blkOk_by (by rfl)) (by decide) (fun s1 h1 _ _ p1 => (.two (B.blk s1 h1 _ _ p1).zx.calm (.name (B.blk s1 h1 _ _ p1).zx.nd 1) (.name (B.blk s1 h1 _ _ p1).zx.nd 2))) (fun s1 h1 _ _ p1 => (.one (.cmp (zEq_ok (B.blk s1 h1 _ _ p1).zx) (.ix (B.blk s1 h1 _ _ p1).zx (.v 2) .int) .str))) (fun s1 h1 _ _ p1 => (.v 1))) .nil)))))
theorem sc_in_way : FnScope N_in_way ["skeleton", "jump"] (defScope s_in_way) := ⟨rfl, rfl, rfl, by decide +kernel, rfl, by decide +kernel, by decide +kernel⟩
theorem ok_in_way (fx : FX K mg) : FnG P w K mg base 1 fx.a_in_way fx.d_in_way ["skeleton", "jump"] (spZ K mg F_in_way 2) :=
  zfn fx.f_in_way sc_in_way fun cdv A outer s H E B => ((.cons (.set B.zx.nd 2 (.ix B.zx (.ix B.zx (.v 0) (.v 1)) .int))
  (.one (.ret (.tupRg B.zx (by rfl) fx.n_tuple (.two (by rfl) fx.n_range (.op2 zAdd_ok (.callB (zMin_ok B.zx) (by rfl) fx.n_min (by rfl) (.cons (.v 1) (.cons (.v 2) .nil))) .int) (.callB (zMax_ok B.zx) (by rfl) fx.n_max (by rfl) (.cons (.v 1) (.cons (.v 2) .nil)))))))))
theorem sc_ahead_of_way : FnScope N_ahead_of_way ["skeleton", "jump"] (defScope s_ahead_of_way) := ⟨rfl, rfl, rfl, by decide +kernel, rfl, by decide +kernel, by decide +kernel⟩
theorem ok_ahead_of_way (fx : FX K mg) : FnG P w K mg base 1 fx.a_ahead_of_way fx.d_ahead_of_way ["skeleton", "jump"] (spZ K mg F_ahead_of_way 2) :=
  zfn fx.f_ahead_of_way sc_ahead_of_way fun cdv A outer s H E B => ((.one (.ret (.tupRg B.zx (by rfl) fx.n_tuple (.one (by rfl) fx.n_range (.callB (zMin_ok B.zx) (by rfl) fx.n_min (by rfl) (.cons (.v 1) (.cons (.ix B.zx (.ix B.zx (.v 0) (.v 1)) .int) .nil))))))))
theorem sc_growth : FnScope N_growth ["item"] (defScope s_growth) := ⟨rfl, rfl, rfl, by decide +kernel, rfl, by decide +kernel, by decide +kernel⟩
theorem ok_growth (fx : FX K mg) : FnG P w K mg base 1 fx.a_growth fx.d_growth ["item"] (spZ K mg F_growth 1) :=
  zfn fx.f_growth sc_growth fun cdv A outer s H E B => ((.one (.ret (.op2 zSub_ok (.ix B.zx (.v 0) .int) (.ix B.zx (.v 0) .int)))))
theorem sc_is_kept_away : FnScope N_is_kept_away ["skeleton", "other", "fill"] (defScope s_is_kept_away) := ⟨rfl, rfl, rfl, by decide +kernel, rfl, by decide +kernel, by decide +kernel⟩
theorem ok_is_kept_away (fx : FX K mg) : FnG P w K mg base 1 fx.a_is_kept_away fx.d_is_kept_away ["skeleton", "other", "fill"] (spZ K mg F_is_kept_away 3) :=
  zfn fx.f_is_kept_away sc_is_kept_away fun cdv A outer s H E B => ((.cons (.set B.zx.nd 3 (.sl (.v 0) (.some (.op2 zAdd_ok (.v 1) .int)) (.some (.v 2))))
  (.one (.ret (.callB (zAny_ok B.zx) (by rfl) fx.n_any (by rfl) (.cons (ZE.comp (own := [("item", 4)]) fin_f B.zx (.seq (.v 3)) (blkOk_by (by rfl)) (by decide) (fun s1 h1 _ _ p1 => (.name (B.blk s1 h1 _ _ p1).zx.nd 4)) (fun s1 h1 _ _ p1 => .nil) (fun s1 h1 _ _ p1 => (.and (.cmp (zEq_ok (B.blk s1 h1 _ _ p1).zx) (.ix (B.blk s1 h1 _ _ p1).zx (.v 4) .int) .str) (.one (.cmp zGe_ok (.ix (B.blk s1 h1 _ _ p1).zx (.v 4) .int) (.ix (B.blk s1 h1 _ _ p1).zx (.ix (B.blk s1 h1 _ _ p1).zx (.v 0) (.v 2)) .int)))))) .nil))))))
theorem sc_ends_of_way : FnScope N_ends_of_way ["skeleton", "jump"] (defScope s_ends_of_way) := ⟨rfl, rfl, rfl, by decide +kernel, rfl, by decide +kernel, by decide +kernel⟩
theorem ok_ends_of_way (fx : FX K mg) : FnG P w K mg base 1 fx.a_ends_of_way fx.d_ends_of_way ["skeleton", "jump"] (spZ K mg F_ends_of_way 2) :=
  zfn fx.f_ends_of_way sc_ends_of_way fun cdv A outer s H E B => ((.cons (.set B.zx.nd 2 (.ix B.zx (.ix B.zx (.v 0) (.v 1)) .int))
  (.one (.ret (.tup (.cons (.callB (zMin_ok B.zx) (by rfl) fx.n_min (by rfl) (.cons (.v 1) (.cons (.v 2) .nil))) (.cons (.callB (zMax_ok B.zx) (by rfl) fx.n_max (by rfl) (.cons (.v 1) (.cons (.v 2) .nil))) .nil)))))))
theorem sc_roundings : FnScope N_roundings ["shift", "a"] (defScope s_roundings) := ⟨rfl, rfl, rfl, by decide +kernel, rfl, by decide +kernel, by decide +kernel⟩
theorem ok_roundings (fx : FX K mg) : FnG P w K mg base 1 fx.a_roundings fx.d_roundings ["shift", "a"] (spZ K mg F_roundings 2) :=
  zfn fx.f_roundings sc_roundings fun cdv A outer s H E B => ((.cons (.set B.zx.nd 2 (.op2 zMod_ok (.v 0) (.v 1)))
  (.cons (.ife (.cmp (zEq_ok B.zx) (.v 2) .int)
  (.one (.ret (.lstF (.cons (.tup (.cons .non (.cons (.v 0) .nil))) .nil))))
  .nil)
  (.one (.ret (.lstF (.cons (.tup (.cons .int (.cons (.op2 zSub_ok (.v 0) (.v 2)) .nil))) (.cons (.tup (.cons .int (.cons (.op2 zAdd_ok (.op2 zSub_ok (.v 0) (.v 2)) (.v 1)) .nil))) .nil))))))))
theorem sc__law_loom : FnScope N__law_loom ["script"] (defScope s__law_loom) := ⟨rfl, rfl, rfl, by decide +kernel, rfl, by decide +kernel, by decide +kernel⟩
theorem ok__law_loom (fx : FX K mg) : FnG P w K mg base 1 fx.a__law_loom fx.d__law_loom ["script"] (spZ K mg F__law_loom 1) :=
  zfn fx.f__law_loom sc__law_loom fun cdv A outer s H E B => ((.cons (.par2 B.zx 1 2 (.cons (ZE.comp (own := [("cell", 3)]) fin_f B.zx (.seq (.sl (.v 0) .none (.some .int))) (blkOk_by (by rfl)) (by decide) (fun s1 h1 _ _ p1 => (.name (B.blk s1 h1 _ _ p1).zx.nd 3)) (fun s1 h1 _ _ p1 => .nil) (fun s1 h1 _ _ p1 => (.op2 zAdd_ok (.op2 zMul_ok .int (.callB zAbs_ok (by rfl) fx.n_abs (by rfl) (.cons (.v 3) .nil))) (.callTy zInt_ok (by rfl) fx.n_int (by rfl) (.cons (.cmp zLt_ok (.v 3) .int) .nil))))) (.cons (.op2 zAdd_ok .int (.op2 zMul_ok .int (.callB zLen_ok (by rfl) fx.n_len (by rfl) (.cons (.v 0) .nil)))) .nil)))
  (.cons (.for_ B.zx (.seq (.v 1)) (.name B.zx.nd 3)
  (.one (.set B.zx.nd 2 (.op2 zMod_ok (.callTy zInt_ok (by rfl) fx.n_int (by rfl) (.cons (.op2 zAdd_ok (.op2 zAdd_ok (.op2 zMul_ok (.v 2) .int) (.v 3)) .int) .nil)) .int))))
  (.one (.ret (ZE.disp (.cons .str (ZE.comp (own := [("cell", 3)]) fin_m B.zx (.seq (.v 1)) (blkOk_by (by rfl)) (by decide) (fun s2 h2 _ _ p2 => (.name (B.blk s2 h2 _ _ p2).zx.nd 3)) (fun s2 h2 _ _ p2 => (.one (.cmp zGe_ok (.v 3) (.op2 zPow_ok .int .int)))) (fun s2 h2 _ _ p2 => (.v 3))) (.cons .str (.v 2) (.cons .str .int .nil)))))))))
theorem sc__law_draw : FnScope N__law_draw ["loom", "many"] (defScope s__law_draw) := ⟨rfl, rfl, rfl, by decide +kernel, rfl, by decide +kernel, by decide +kernel⟩
theorem ok__law_draw (fx : FX K mg) : FnG P w K mg base 1 fx.a__law_draw fx.d__law_draw ["loom", "many"] (spZ K mg F__law_draw 2) :=
  zfn fx.f__law_draw sc__law_draw fun cdv A outer s H E B => ((.cons (.ife (.cmp zLt_ok (.v 1) .int)
  (.one (.ret .int))
  .nil)
  (.cons (.ife (.cmp (zNe_ok B.zx) (.ix B.zx (.v 0) .str) (.lstF .nil))
  (.cons (.set B.zx.nd 2 (.meth0 PySem.F.plainAttrs_list PySem.F.slot_list_pop PySem.F.type_list_pop zPop_ok isL_ok (.ix B.zx (.v 0) .str)))
  (.cons (.ife (.cmp zGe_ok (.v 2) (.v 1))
  (.one (.expr (.meth PySem.F.plainAttrs_list PySem.F.slot_list_append PySem.F.type_list_append zAppend_ok isL_ok (.ix B.zx (.v 0) .str) (.cons (.op2 zDiv_ok (.v 2) (.v 1)) .nil))))
  .nil)
  (.one (.ret (.op2 zMod_ok (.callTy zInt_ok (by rfl) fx.n_int (by rfl) (.cons (.v 2) .nil)) (.v 1))))))
  .nil)
  (.cons (.store (zDput_ok B.zx) (.op2 zAdd_ok (.ix B.zx (.v 0) .str) .int) (.v 0) .str)
  (.cons (.set B.zx.nd 3 (.op2 zMod_ok (.callTy zInt_ok (by rfl) fx.n_int (by rfl) (.cons (.op2 zAdd_ok (.ix B.zx (.v 0) .str) (.op2 zMul_ok .int (.ix B.zx (.v 0) .str))) .nil)) .int))
  (.cons (.set B.zx.nd 3 (.op2 zMod_ok (.callTy zInt_ok (by rfl) fx.n_int (by rfl) (.cons (.op2 zAdd_ok (.op2 zAdd_ok (.op2 zMul_ok (.v 3) (.v 3)) (.op2 zMul_ok .int (.ix B.zx (.v 0) .str))) .int) .nil)) .int))
  (.cons (.set B.zx.nd 3 (.op2 zMod_ok (.callTy zInt_ok (by rfl) fx.n_int (by rfl) (.cons (.op2 zAdd_ok (.op2 zMul_ok (.v 3) (.v 3)) (.ix B.zx (.v 0) .str)) .nil)) .int))
  (.one (.ret (.op2 zMod_ok (.callTy zInt_ok (by rfl) fx.n_int (by rfl) (.cons (.op2 zDiv_ok (.v 3) .int) .nil)) (.v 1)))))))))))
theorem sc__law_jumps : FnScope N__law_jumps ["frame"] (defScope s__law_jumps) := ⟨rfl, rfl, rfl, by decide +kernel, rfl, by decide +kernel, by decide +kernel⟩
theorem ok__law_jumps (fx : FX K mg) : FnG P w K mg base 1 fx.a__law_jumps fx.d__law_jumps ["frame"] (spZ K mg F__law_jumps 1) :=
  zfn fx.f__law_jumps sc__law_jumps fun cdv A outer s H E B => ((.one (.ret (ZE.comp (own := [("at", 1), ("item", 2)]) fin_f B.zx (.enum (by rfl) fx.n_enumerate (.v 0)) (blkOk_by (by rfl)) (by decide) (fun s1 h1 _ _ p1 => (.two (B.blk s1 h1 _ _ p1).zx.calm (.name (B.blk s1 h1 _ _ p1).zx.nd 1) (.name (B.blk s1 h1 _ _ p1).zx.nd 2))) (fun s1 h1 _ _ p1 => (.one (.cmp (zEq_ok (B.blk s1 h1 _ _ p1).zx) (.ix (B.blk s1 h1 _ _ p1).zx (.v 2) .int) .str))) (fun s1 h1 _ _ p1 => (.v 1))))))
theorem sc__law_top : FnScope N__law_top ["frame"] (defScope s__law_top) := ⟨rfl, rfl, rfl, by decide +kernel, rfl, by decide +kernel, by decide +kernel⟩
theorem ok__law_top (fx : FX K mg) : FnG P w K mg base 1 fx.a__law_top fx.d__law_top ["frame"] (spZ K mg F__law_top 1) :=
  zfn fx.f__law_top sc__law_top fun cdv A outer s H E B => ((.one (.ret (.callB (zMax_ok B.zx) (by rfl) fx.n_max (by rfl) (.cons (.op2 zAdd_ok (.lstF (.cons .int .nil)) (ZE.comp (own := [("item", 1)]) fin_f B.zx (.seq (.v 0)) (blkOk_by (by rfl)) (by decide) (fun s1 h1 _ _ p1 => (.name (B.blk s1 h1 _ _ p1).zx.nd 1)) (fun s1 h1 _ _ p1 => (.one (.cmp (zEq_ok (B.blk s1 h1 _ _ p1).zx) (.ix (B.blk s1 h1 _ _ p1).zx (.v 1) .int) .str))) (fun s1 h1 _ _ p1 => (.ix (B.blk s1 h1 _ _ p1).zx (.v 1) .int)))) .nil)))))
theorem sc__law_goes : FnScope N__law_goes ["pairs", "items"] (defScope s__law_goes) := ⟨rfl, rfl, rfl, by decide +kernel, rfl, by decide +kernel, by decide +kernel⟩
theorem ok__law_goes (fx : FX K mg) : FnG P w K mg base 1 fx.a__law_goes fx.d__law_goes ["pairs", "items"] (spZ K mg F__law_goes 2) :=
  zfn fx.f__law_goes sc__law_goes fun cdv A outer s H E B => ((.cons (.for_ B.zx (.seq (.v 1)) (.name B.zx.nd 2)
  (.one (.ife (.cmp (zEq_ok B.zx) (.ix B.zx (.v 2) .int) .str)
  (.cons (.set B.zx.nd 3 (.lstF .nil))
  (.cons (.for_ B.zx (.seq (.v 0)) (.two B.zx.calm (.name B.zx.nd 4) (.name B.zx.nd 5))
  (.cons (.set B.zx.nd 6 (.op2 zMul_ok (.op2 zDiv_ok (.v 5) (.ix B.zx (.v 2) .int)) (.ix B.zx (.v 2) .int)))
  (.one (.set B.zx.nd 3 (.op2 zAdd_ok (.op2 zAdd_ok (.v 3) (.lstF (.cons (.tup (.cons (.v 4) (.cons (.v 6) .nil))) .nil))) (.ife (.cmp (zNe_ok B.zx) (.v 6) (.v 5)) (.lstF (.cons (.tup (.cons (.v 4) (.cons (.op2 zAdd_ok (.v 6) (.ix B.zx (.v 2) .int)) .nil))) .nil)) (.lstF .nil)))))))
  (.one (.set B.zx.nd 0 (.sortSetP B.zx (by rfl) fx.n_sorted (by rfl) fx.n_set (.v 3))))))
  .nil)))
  (.one (.ret (.v 0)))))
theorem sc__law_sure : FnScope N__law_sure ["threes", "hung"] (defScope s__law_sure) := ⟨rfl, rfl, rfl, by decide +kernel, rfl, by decide +kernel, by decide +kernel⟩
theorem ok__law_sure (fx : FX K mg) : FnG P w K mg base 1 fx.a__law_sure fx.d__law_sure ["threes", "hung"] (spZ K mg F__law_sure 2) :=
  zfn fx.f__law_sure sc__law_sure fun cdv A outer s H E B => ((.cons (.set B.zx.nd 2 (ZE.comp (own := [("at", 4), ("spot", 5), ("mate", 6)]) fin_f B.zx (.seq (.v 0)) (blkOk_by (by rfl)) (by decide) (fun s1 h1 _ _ p1 => (.three (B.blk s1 h1 _ _ p1).zx.calm (.name (B.blk s1 h1 _ _ p1).zx.nd 4) (.name (B.blk s1 h1 _ _ p1).zx.nd 5) (.name (B.blk s1 h1 _ _ p1).zx.nd 6))) (fun s1 h1 _ _ p1 => .nil) (fun s1 h1 _ _ p1 => (.v 4))))
  (.cons (.for_ B.zx (.seq (.v 1)) (.name B.zx.nd 3)
  (.one (.set B.zx.nd 2 (.sortSet B.zx (by rfl) fx.n_sorted (by rfl) fx.n_set (.op2 zAdd_ok (.v 2) (ZE.comp (own := [("at", 4)]) fin_f B.zx (.seq (.v 1)) (blkOk_by (by rfl)) (by decide) (fun s2 h2 _ _ p2 => (.name (B.blk s2 h2 _ _ p2).zx.nd 4)) (fun s2 h2 _ _ p2 => (.one (.cmp (zNe_ok (B.blk s2 h2 _ _ p2).zx) (ZE.comp (own := [("own", 7)]) fin_f (B.blk s2 h2 _ _ p2).zx (.seq (.ix (B.blk s2 h2 _ _ p2).zx (.v 1) (.v 4))) (blkOk_by (by rfl)) (by decide) (fun s3 h3 _ _ p3 => (.name ((B.blk s2 h2 _ _ p2).blk s3 h3 _ _ p3).zx.nd 7)) (fun s3 h3 _ _ p3 => (.one (.cmp (zIn_ok ((B.blk s2 h2 _ _ p2).blk s3 h3 _ _ p3).zx) (.v 7) (.v 2)))) (fun s3 h3 _ _ p3 => (.v 7))) (.lstF .nil)))) (fun s2 h2 _ _ p2 => (.v 4))))))))
  (.one (.ret (.callTy zTuple_ok (by rfl) fx.n_tuple (by rfl) (.cons (ZE.comp (own := [("at", 4)]) fin_f B.zx (.seq (.callB (zSort_ok B.zx) (by rfl) fx.n_sorted (by rfl) (.cons (.callTy (zListA_ok B.zx) (by rfl) fx.n_list (by rfl) (.cons (.v 1) .nil)) .nil))) (blkOk_by (by rfl)) (by decide) (fun s4 h4 _ _ p4 => (.name (B.blk s4 h4 _ _ p4).zx.nd 4)) (fun s4 h4 _ _ p4 => (.one (.cmp (zNotIn_ok (B.blk s4 h4 _ _ p4).zx) (.v 4) (.v 2)))) (fun s4 h4 _ _ p4 => (.v 4))) .nil)))))))
theorem sc_is_triple : FnScope N_is_triple ["skeleton", "fill", "other"] (defScope s_is_triple) := ⟨rfl, rfl, rfl, by decide +kernel, rfl, by decide +kernel, by decide +kernel⟩
theorem ok_is_triple (fx : FX K mg) : FnG P w K mg base 2 fx.a_is_triple fx.d_is_triple ["skeleton", "fill", "other"] (spZ K mg F_is_triple 3) :=
  zfn fx.f_is_triple sc_is_triple fun cdv A outer s H E B => ((.cons (.ife (.val (.call B (ok_is_kept_away fx) (by decide) (by rfl) fx.m_is_kept_away fx.f_is_kept_away.kp fx.b_is_kept_away (.cons (.v 0) (.cons (.v 2) (.cons (.v 1) .nil)))))
  (.one (.ret .bl))
  .nil)
  (.one (.ret (.cmp (zNe_ok B.zx) (.op2 zMod_ok (.call B (ok_growth fx) (by decide) (by rfl) fx.m_growth fx.f_growth.kp fx.b_growth (.cons (.ix B.zx (.v 0) (.v 2)) .nil)) (.ix B.zx (.ix B.zx (.v 0) (.v 1)) .int)) .int)))))
theorem sc_shifts_behind : FnScope N_shifts_behind ["skeleton", "first", "behind", "shift"] (defScope s_shifts_behind) := ⟨rfl, rfl, rfl, by decide +kernel, rfl, by decide +kernel, by decide +kernel⟩
theorem ok_shifts_behind (fx : FX K mg) : FnG P w K mg base 2 fx.a_shifts_behind fx.d_shifts_behind ["skeleton", "first", "behind", "shift"] (spZ K mg F_shifts_behind 4) :=
  zfn fx.f_shifts_behind sc_shifts_behind fun cdv A outer s H E B => ((.cons (.set B.zx.nd 4 (ZE.frz (ZE.disp (.cons (.v 3) (.tup .nil) .nil))))
  (.cons (.for_ B.zx (.range2 (by rfl) fx.n_range (.v 1) (.v 2)) (.name B.zx.nd 5)
  (.one (.ife (.cmp (zEq_ok B.zx) (.ix B.zx (.ix B.zx (.v 0) (.v 5)) .int) .str)
  (.cons (.set B.zx.nd 6 .dnew)
  (.cons (.for_ B.zx (.items (.v 4)) (.two B.zx.calm (.name B.zx.nd 7) (.name B.zx.nd 8))
  (.one (.for_ B.zx (.seq (.call B (ok_roundings fx) (by decide) (by rfl) fx.m_roundings fx.f_roundings.kp fx.b_roundings (.cons (.v 7) (.cons (.ix B.zx (.ix B.zx (.v 0) (.v 5)) .int) .nil)))) (.two B.zx.calm (.name B.zx.nd 9) (.name B.zx.nd 10))
  (.one (.store (zDput_ok B.zx) (.ife (.cmp zIs_ok (.v 9) .non) (.v 8) (.op2 zAdd_ok (.v 8) (.tup (.cons (.tup (.cons (.v 5) (.cons (.v 9) .nil))) .nil)))) (.v 6) (.v 10))))))
  (.one (.set B.zx.nd 4 (ZE.frz (.v 6))))))
  .nil)))
  (.one (.ret (.v 4))))))
theorem sc__law_pick : FnScope N__law_pick ["loom", "things"] (defScope s__law_pick) := ⟨rfl, rfl, rfl, by decide +kernel, rfl, by decide +kernel, by decide +kernel⟩
theorem ok__law_pick (fx : FX K mg) : FnG P w K mg base 2 fx.a__law_pick fx.d__law_pick ["loom", "things"] (spZ K mg F__law_pick 2) :=
  zfn fx.f__law_pick sc__law_pick fun cdv A outer s H E B => ((.one (.ret (.ix B.zx (.v 1) (.call B (ok__law_draw fx) (by decide) (by rfl) fx.m__law_draw fx.f__law_draw.kp fx.b__law_draw (.cons (.v 0) (.cons (.callB zLen_ok (by rfl) fx.n_len (by rfl) (.cons (.v 1) .nil)) .nil)))))))
theorem sc__law_mixed : FnScope N__law_mixed ["loom", "things"] (defScope s__law_mixed) := ⟨rfl, rfl, rfl, by decide +kernel, rfl, by decide +kernel, by decide +kernel⟩
theorem ok__law_mixed (fx : FX K mg) : FnG P w K mg base 2 fx.a__law_mixed fx.d__law_mixed ["loom", "things"] (spZ K mg F__law_mixed 2) :=
  zfn fx.f__law_mixed sc__law_mixed fun cdv A outer s H E B => ((.cons (.par2 B.zx 2 3 (.cons (ZE.callTy zListM_ok (by rfl) fx.n_list (by rfl) (.cons (.v 1) .nil)) (.cons (ZE.lst .nil) .nil)))
  (.cons (.while_ B.zx 64 (.cmp (zNe_ok B.zx) (.v 2) (.lstF .nil))
  (.one (.expr (.meth PySem.F.plainAttrs_list PySem.F.slot_list_append PySem.F.type_list_append zAppend_ok isL_ok (.v 3) (.cons (.meth PySem.F.plainAttrs_list PySem.F.slot_list_pop PySem.F.type_list_pop zPopAt_ok isL_ok (.v 2) (.cons (.call B (ok__law_draw fx) (by decide) (by rfl) fx.m__law_draw fx.f__law_draw.kp fx.b__law_draw (.cons (.v 0) (.cons (.callB zLen_ok (by rfl) fx.n_len (by rfl) (.cons (.v 2) .nil)) .nil))) .nil)) .nil)))))
  (.one (.ret (ZE.frz (.v 3)))))))
theorem sc__law_triples : FnScope N__law_triples ["frame"] (defScope s__law_triples) := ⟨rfl, rfl, rfl, by decide +kernel, rfl, by decide +kernel, by decide +kernel⟩
theorem ok__law_triples (fx : FX K mg) : FnG P w K mg base 2 fx.a__law_triples fx.d__law_triples ["frame"] (spZ K mg F__law_triples 1) :=
  zfn fx.f__law_triples sc__law_triples fun cdv A outer s H E B => ((.cons (.set B.zx.nd 1 (ZE.lst .nil))
  (.cons (.for_ B.zx (.seq (.call B (ok__law_jumps fx) (by decide) (by rfl) fx.m__law_jumps fx.f__law_jumps.kp fx.b__law_jumps (.cons (.v 0) .nil))) (.name B.zx.nd 2)
  (.cons (.parT B.zx (.cons (.callB (zMin_ok B.zx) (by rfl) fx.n_min (by rfl) (.cons (.v 2) (.cons (.ix B.zx (.ix B.zx (.v 0) (.v 2)) .int) .nil))) (.cons (.callB (zMax_ok B.zx) (by rfl) fx.n_max (by rfl) (.cons (.v 2) (.cons (.ix B.zx (.ix B.zx (.v 0) (.v 2)) .int) .nil))) .nil)) (tn_cons B.zx.nd 3 (tn_cons B.zx.nd 4 tn_nil)))
  (.one (.for_ B.zx (.seq (ZE.comp (own := [("own", 9)]) fin_f B.zx (.range2 (by rfl) fx.n_range (.op2 zAdd_ok (.v 3) .int) (.v 4)) (blkOk_by (by rfl)) (by decide) (fun s1 h1 _ _ p1 => (.name (B.blk s1 h1 _ _ p1).zx.nd 9)) (fun s1 h1 _ _ p1 => (.one (.cmp (zEq_ok (B.blk s1 h1 _ _ p1).zx) (.ix (B.blk s1 h1 _ _ p1).zx (.ix (B.blk s1 h1 _ _ p1).zx (.v 0) (.v 9)) .int) .str))) (fun s1 h1 _ _ p1 => (.v 9)))) (.name B.zx.nd 5)
  (.one (.for_ B.zx (.seq (ZE.comp (own := [("own", 9)]) fin_f B.zx (.seq (.call B (ok__law_jumps fx) (by decide) (by rfl) fx.m__law_jumps fx.f__law_jumps.kp fx.b__law_jumps (.cons (.v 0) .nil))) (blkOk_by (by rfl)) (by decide) (fun s2 h2 _ _ p2 => (.name (B.blk s2 h2 _ _ p2).zx.nd 9)) (fun s2 h2 _ _ p2 => (.one (.cmp zLt_ok (.v 9) (.v 3)))) (fun s2 h2 _ _ p2 => (.v 9)))) (.name B.zx.nd 6)
  (.cons (.set B.zx.nd 7 (.ix B.zx (.ix B.zx (.v 0) (.v 5)) .int))
  (.cons (.comp (i := 8) (own := [("own", 9)]) fin_f B.zx (.seq (.sl (.v 0) (.some (.op2 zAdd_ok (.v 6) .int)) (.some (.v 5)))) (blkOk_by (by rfl)) (by decide) (by rfl) (by rfl) (by rfl) (fun s3 h3 _ _ p3 => (.name (B.blk s3 h3 _ _ p3).zx.nd 9)) (fun s3 h3 _ _ p3 => (.one (.w (.and (.cmp (zEq_ok (B.blk s3 h3 _ _ p3).zx) (.ix (B.blk s3 h3 _ _ p3).zx (.v 9) .int) .str) (.and1 (.cmp zGe_ok (.ix (B.blk s3 h3 _ _ p3).zx (.v 9) .int) (.v 7))))))) (fun s3 h3 _ _ p3 => (.v 9)))
  (.one (.ife (.w (.and (.cmp (zEq_ok B.zx) (.v 8) (.lstF .nil)) (.and1 (.cmp zGt_ok (.op2 zMod_ok (.callTy zInt_ok (by rfl) fx.n_int (by rfl) (.cons (.op2 zSub_ok (.ix B.zx (.ix B.zx (.v 0) (.v 6)) .int) (.ix B.zx (.ix B.zx (.v 0) (.v 6)) .int)) .nil)) (.v 7)) .int))))
  (.one (.expr (.meth PySem.F.plainAttrs_list PySem.F.slot_list_append PySem.F.type_list_append zAppend_ok isL_ok (.v 1) (.cons (.tup (.cons (.v 2) (.cons (.v 5) (.cons (.v 6) .nil)))) .nil))))
  .nil))))))))))
  (.one (.ret (ZE.frz (.v 1)))))))
theorem sc__law_changed : FnScope N__law_changed ["frame", "mate", "at"] (defScope s__law_changed) := ⟨rfl, rfl, rfl, by decide +kernel, rfl, by decide +kernel, by decide +kernel⟩
theorem ok__law_changed (fx : FX K mg) : FnG P w K mg base 2 fx.a__law_changed fx.d__law_changed ["frame", "mate", "at"] (spZ K mg F__law_changed 3) :=
  zfn fx.f__law_changed sc__law_changed fun cdv A outer s H E B => ((.cons (.par2 B.zx 3 4 (.cons (.callB (zMin_ok B.zx) (by rfl) fx.n_min (by rfl) (.cons (.v 2) (.cons (.ix B.zx (.ix B.zx (.v 0) (.v 2)) .int) .nil))) (.cons (.callB (zMax_ok B.zx) (by rfl) fx.n_max (by rfl) (.cons (.v 2) (.cons (.ix B.zx (.ix B.zx (.v 0) (.v 2)) .int) .nil))) .nil)))
  (.cons (.set B.zx.nd 5 (.op2 zSub_ok (.ix B.zx (.ix B.zx (.v 0) (.v 1)) .int) (.ix B.zx (.ix B.zx (.v 0) (.v 1)) .int)))
  (.cons (.ife (.cmp zGt_ok (.v 1) (.v 4))
  (.one (.ret (.tup (.cons .int .nil))))
  .nil)
  (.cons (.ife (.cmp zGt_ok (.v 1) (.v 3))
  (.one (.ret (.callTy zTuple_ok (by rfl) fx.n_tuple (by rfl) (.cons (.sortSet B.zx (by rfl) fx.n_sorted (by rfl) fx.n_set (ZE.comp (own := [("first", 7), ("shift", 8)]) fin_f B.zx (.seq (.call B (ok__law_goes fx) (by decide) (by rfl) fx.m__law_goes fx.f__law_goes.kp fx.b__law_goes (.cons (.lstF (.cons (.tup (.cons .int (.cons (.v 5) .nil))) .nil)) (.cons (.sl (.v 0) (.some (.op2 zAdd_ok (.v 1) .int)) (.some (.v 4))) .nil)))) (blkOk_by (by rfl)) (by decide) (fun s1 h1 _ _ p1 => (.two (B.blk s1 h1 _ _ p1).zx.calm (.name (B.blk s1 h1 _ _ p1).zx.nd 7) (.name (B.blk s1 h1 _ _ p1).zx.nd 8))) (fun s1 h1 _ _ p1 => .nil) (fun s1 h1 _ _ p1 => (.v 8)))) .nil))))
  .nil)
  (.cons (.set B.zx.nd 6 (.call B (ok__law_goes fx) (by decide) (by rfl) fx.m__law_goes fx.f__law_goes.kp fx.b__law_goes (.cons (.lstF (.cons (.tup (.cons .int (.cons (.v 5) .nil))) .nil)) (.cons (.sl (.v 0) (.some (.op2 zAdd_ok (.v 1) .int)) (.some (.v 3))) .nil))))
  (.cons (.set B.zx.nd 6 (.call B (ok__law_goes fx) (by decide) (by rfl) fx.m__law_goes fx.f__law_goes.kp fx.b__law_goes (.cons (ZE.comp (own := [("first", 7), ("shift", 8)]) fin_f B.zx (.seq (.v 6)) (blkOk_by (by rfl)) (by decide) (fun s2 h2 _ _ p2 => (.two (B.blk s2 h2 _ _ p2).zx.calm (.name (B.blk s2 h2 _ _ p2).zx.nd 7) (.name (B.blk s2 h2 _ _ p2).zx.nd 8))) (fun s2 h2 _ _ p2 => .nil) (fun s2 h2 _ _ p2 => (.tup (.cons (.v 8) (.cons (.v 8) .nil))))) (.cons (.sl (.v 0) (.some (.op2 zAdd_ok (.v 3) .int)) (.some (.v 4))) .nil))))
  (.one (.ret (.callTy zTuple_ok (by rfl) fx.n_tuple (by rfl) (.cons (.sortSet B.zx (by rfl) fx.n_sorted (by rfl) fx.n_set (ZE.comp (own := [("first", 7), ("shift", 8)]) fin_f B.zx (.seq (.v 6)) (blkOk_by (by rfl)) (by decide) (fun s3 h3 _ _ p3 => (.two (B.blk s3 h3 _ _ p3).zx.calm (.name (B.blk s3 h3 _ _ p3).zx.nd 7) (.name (B.blk s3 h3 _ _ p3).zx.nd 8))) (fun s3 h3 _ _ p3 => .nil) (fun s3 h3 _ _ p3 => (.op2 zSub_ok (.v 8) (.v 7))))) .nil)))))))))))
theorem sc__law_steadied : FnScope N__law_steadied ["loom", "frame"] (defScope s__law_steadied) := ⟨rfl, rfl, rfl, by decide +kernel, rfl, by decide +kernel, by decide +kernel⟩
theorem ok__law_steadied (fx : FX K mg) : FnG P w K mg base 2 fx.a__law_steadied fx.d__law_steadied ["loom", "frame"] (spZ K mg F__law_steadied 2) :=
  zfn fx.f__law_steadied sc__law_steadied fun cdv A outer s H E B => ((.cons (.par2 B.zx 2 3 (.cons (.call B (ok__law_top fx) (by decide) (by rfl) fx.m__law_top fx.f__law_top.kp fx.b__law_top (.cons (.v 1) .nil)) (.cons (ZE.lst .nil) .nil)))
  (.cons (.for_ B.zx (.seq (.v 1)) (.name B.zx.nd 4)
  (.cons (.ife (.cmp (zEq_ok B.zx) (.ix B.zx (.v 4) .int) .str)
  (.cons (.set B.zx.nd 5 (.op2 zMul_ok (.v 2) (.op2 zAdd_ok .int (.call B (ok__law_draw fx) (by decide) (by rfl) fx.m__law_draw fx.f__law_draw.kp fx.b__law_draw (.cons (.v 0) (.cons (.callB (zMax_ok B.zx) (by rfl) fx.n_max (by rfl) (.cons .int (.cons (.callB (zMin_ok B.zx) (by rfl) fx.n_min (by rfl) (.cons .int (.cons (.op2 zDiv_ok .int (.v 2)) .nil))) .nil))) .nil))))))
  (.cons (.set B.zx.nd 4 (.op2 zAdd_ok (.sl (.v 4) .none (.some .int)) (.tup (.cons (.op2 zAdd_ok (.callB (zMin_ok B.zx) (by rfl) fx.n_min (by rfl) (.cons (.ix B.zx (.v 4) .int) (.cons .int .nil))) (.v 5)) .nil))))
  (.one (.set B.zx.nd 4 (.op2 zAdd_ok (.sl (.v 4) .none (.some .int)) (.tup (.cons (.callB (zMin_ok B.zx) (by rfl) fx.n_min (by rfl) (.cons (.ix B.zx (.v 4) .int) (.cons .int .nil))) (.cons (.ix B.zx (.v 4) .int) .nil))))))))
  .nil)
  (.one (.expr (.meth PySem.F.plainAttrs_list PySem.F.slot_list_append PySem.F.type_list_append zAppend_ok isL_ok (.v 3) (.cons (.v 4) .nil))))))
  (.one (.ret (.callTy zTuple_ok (by rfl) fx.n_tuple (by rfl) (.cons (.v 3) .nil)))))))
theorem sc_triples : FnScope N_triples ["skeleton"] (defScope s_triples) := ⟨rfl, rfl, rfl, by decide +kernel, rfl, by decide +kernel, by decide +kernel⟩
theorem ok_triples (fx : FX K mg) : FnG P w K mg base 3 fx.a_triples fx.d_triples ["skeleton"] (spZ K mg F_triples 1) :=
  zfn fx.f_triples sc_triples fun cdv A outer s H E B => ((.cons (.set B.zx.nd 1 (ZE.lst .nil))
  (.cons (.for_ B.zx (.seq (.call B (ok_jumps_of fx) (by decide) (by rfl) fx.m_jumps_of fx.f_jumps_of.kp fx.b_jumps_of (.cons (.v 0) .nil))) (.name B.zx.nd 2)
  (.cons (.comp (i := 3) (own := [("place", 6)]) fin_f B.zx (.seq (.call B (ok_in_way fx) (by decide) (by rfl) fx.m_in_way fx.f_in_way.kp fx.b_in_way (.cons (.v 0) (.cons (.v 2) .nil)))) (blkOk_by (by rfl)) (by decide) (by rfl) (by rfl) (by rfl) (fun s1 h1 _ _ p1 => (.name (B.blk s1 h1 _ _ p1).zx.nd 6)) (fun s1 h1 _ _ p1 => (.one (.cmp (zEq_ok (B.blk s1 h1 _ _ p1).zx) (.ix (B.blk s1 h1 _ _ p1).zx (.ix (B.blk s1 h1 _ _ p1).zx (.v 0) (.v 6)) .int) .str))) (fun s1 h1 _ _ p1 => (.v 6)))
  (.cons (.comp (i := 4) (own := [("place", 6)]) fin_f B.zx (.seq (.call B (ok_ahead_of_way fx) (by decide) (by rfl) fx.m_ahead_of_way fx.f_ahead_of_way.kp fx.b_ahead_of_way (.cons (.v 0) (.cons (.v 2) .nil)))) (blkOk_by (by rfl)) (by decide) (by rfl) (by rfl) (by rfl) (fun s2 h2 _ _ p2 => (.name (B.blk s2 h2 _ _ p2).zx.nd 6)) (fun s2 h2 _ _ p2 => (.one (.cmp (zEq_ok (B.blk s2 h2 _ _ p2).zx) (.ix (B.blk s2 h2 _ _ p2).zx (.ix (B.blk s2 h2 _ _ p2).zx (.v 0) (.v 6)) .int) .str))) (fun s2 h2 _ _ p2 => (.v 6)))
  (.one (.for_ B.zx (.seq (.v 3)) (.name B.zx.nd 5)
  (.one (.expr (.meth PySem.F.plainAttrs_list PySem.F.slot_list_extend PySem.F.type_list_extend zExtend_ok isL_ok (.v 1) (.cons (ZE.comp (own := [("other", 7)]) fin_f B.zx (.seq (.v 4)) (blkOk_by (by rfl)) (by decide) (fun s3 h3 _ _ p3 => (.name (B.blk s3 h3 _ _ p3).zx.nd 7)) (fun s3 h3 _ _ p3 => (.one (.val (.call (B.blk s3 h3 _ _ p3) (ok_is_triple fx) (by decide) (by rfl) fx.m_is_triple fx.f_is_triple.kp fx.b_is_triple (.cons (.v 0) (.cons (.v 5) (.cons (.v 7) .nil))))))) (fun s3 h3 _ _ p3 => (.tup (.cons (.v 2) (.cons (.v 5) (.cons (.v 7) .nil)))))) .nil)))))))))
  (.one (.ret (.callTy zTuple_ok (by rfl) fx.n_tuple (by rfl) (.cons (.v 1) .nil)))))))
theorem sc_all_changes : FnScope N_all_changes ["skeleton", "other", "jump"] (defScope s_all_changes) := ⟨rfl, rfl, rfl, by decide +kernel, rfl, by decide +kernel, by decide +kernel⟩
theorem ok_all_changes (fx : FX K mg) : FnG P w K mg base 3 fx.a_all_changes fx.d_all_changes ["skeleton", "other", "jump"] (spZ K mg F_all_changes 3) :=
  zfn fx.f_all_changes sc_all_changes fun cdv A outer s H E B => ((.cons (.asg (.call B (ok_ends_of_way fx) (by decide) (by rfl) fx.m_ends_of_way fx.f_ends_of_way.kp fx.b_ends_of_way (.cons (.v 0) (.cons (.v 2) .nil))) (.two B.zx.calm (.name B.zx.nd 3) (.name B.zx.nd 4)))
  (.cons (.set B.zx.nd 5 (.op2 zSub_ok (.ix B.zx (.ix B.zx (.v 0) (.v 1)) .int) (.ix B.zx (.ix B.zx (.v 0) (.v 1)) .int)))
  (.cons (.ife (.cmp zGt_ok (.v 1) (.v 4))
  (.one (.ret (ZE.frz (ZE.disp (.cons .int (.tup .nil) .nil)))))
  .nil)
  (.cons (.ife (.cmp zGt_ok (.v 1) (.v 3))
  (.one (.ret (.call B (ok_shifts_behind fx) (by decide) (by rfl) fx.m_shifts_behind fx.f_shifts_behind.kp fx.b_shifts_behind (.cons (.v 0) (.cons (.op2 zAdd_ok (.v 1) .int) (.cons (.v 4) (.cons (.v 5) .nil)))))))
  .nil)
  (.cons (.set B.zx.nd 6 .dnew)
  (.cons (.for_ B.zx (.items (.call B (ok_shifts_behind fx) (by decide) (by rfl) fx.m_shifts_behind fx.f_shifts_behind.kp fx.b_shifts_behind (.cons (.v 0) (.cons (.op2 zAdd_ok (.v 1) .int) (.cons (.v 3) (.cons (.v 5) .nil)))))) (.two B.zx.calm (.name B.zx.nd 7) (.name B.zx.nd 8))
  (.one (.for_ B.zx (.items (.call B (ok_shifts_behind fx) (by decide) (by rfl) fx.m_shifts_behind fx.f_shifts_behind.kp fx.b_shifts_behind (.cons (.v 0) (.cons (.op2 zAdd_ok (.v 3) .int) (.cons (.v 4) (.cons (.v 7) .nil)))))) (.two B.zx.calm (.name B.zx.nd 9) (.name B.zx.nd 10))
  (.one (.store (zDput_ok B.zx) (.op2 zAdd_ok (.v 8) (.v 10)) (.v 6) (.op2 zSub_ok (.v 9) (.v 7)))))))
  (.one (.ret (ZE.frz (.v 6)))))))))))
theorem sc__law_frame : FnScope N__law_frame ["loom", "jumps", "fills", "labels", "top", "growth_v"] (defScope s__law_frame) := ⟨rfl, rfl, rfl, by decide +kernel, rfl, by decide +kernel, by decide +kernel⟩
theorem ok__law_frame (fx : FX K mg) : FnG P w K mg base 3 fx.a__law_frame fx.d__law_frame ["loom", "jumps", "fills", "labels", "top", "growth_v"] (spZ K mg F__law_frame 6) :=
  zfn fx.f__law_frame sc__law_frame fun cdv A outer s H E B => ((.cons (.set B.zx.nd 6 (.call B (ok__law_mixed fx) (by decide) (by rfl) fx.m__law_mixed fx.f__law_mixed.kp fx.b__law_mixed (.cons (.v 0) (.cons (.op2 zAdd_ok (.op2 zAdd_ok (.op2 zMul_ok (.lstF (.cons .str .nil)) (.v 1)) (.op2 zMul_ok (.lstF (.cons .str .nil)) (.v 2))) (.op2 zMul_ok (.lstF (.cons .str .nil)) (.v 3))) .nil))))
  (.cons (.par2 B.zx 7 8 (.cons (ZE.comp (own := [("at", 11), ("kind", 9)]) fin_f B.zx (.enum (by rfl) fx.n_enumerate (.v 6)) (blkOk_by (by rfl)) (by decide) (fun s1 h1 _ _ p1 => (.two (B.blk s1 h1 _ _ p1).zx.calm (.name (B.blk s1 h1 _ _ p1).zx.nd 11) (.name (B.blk s1 h1 _ _ p1).zx.nd 9))) (fun s1 h1 _ _ p1 => (.one (.cmp (zEq_ok (B.blk s1 h1 _ _ p1).zx) (.v 9) .str))) (fun s1 h1 _ _ p1 => (.v 11))) (.cons (ZE.lst .nil) .nil)))
  (.cons (.for_ B.zx (.seq (.v 6)) (.name B.zx.nd 9)
  (.one (.ife (.cmp (zEq_ok B.zx) (.v 9) .str)
  (.one (.expr (.meth PySem.F.plainAttrs_list PySem.F.slot_list_append PySem.F.type_list_append zAppend_ok isL_ok (.v 8) (.cons (.tup (.cons (.v 9) .nil)) .nil))))
  (.one (.ife (.cmp (zEq_ok B.zx) (.v 9) .str)
  (.one (.expr (.meth PySem.F.plainAttrs_list PySem.F.slot_list_append PySem.F.type_list_append zAppend_ok isL_ok (.v 8) (.cons (.tup (.cons (.v 9) (.cons (.call B (ok__law_pick fx) (by decide) (by rfl) fx.m__law_pick fx.f__law_pick.kp fx.b__law_pick (.cons (.v 0) (.cons (ZE.comp (own := [("own", 12)]) fin_f B.zx (.seq (.tup (.cons .int (.cons .int (.cons .int (.cons .int (.cons .int (.cons .int .nil)))))))) (blkOk_by (by rfl)) (by decide) (fun s2 h2 _ _ p2 => (.name (B.blk s2 h2 _ _ p2).zx.nd 12)) (fun s2 h2 _ _ p2 => (.one (.cmp zLe_ok (.v 12) (.v 4)))) (fun s2 h2 _ _ p2 => (.v 12))) .nil))) .nil))) .nil))))
  (.cons (.set B.zx.nd 10 (.op2 zAdd_ok .int (.call B (ok__law_draw fx) (by decide) (by rfl) fx.m__law_draw fx.f__law_draw.kp fx.b__law_draw (.cons (.v 0) (.cons .int .nil)))))
  (.one (.expr (.meth PySem.F.plainAttrs_list PySem.F.slot_list_append PySem.F.type_list_append zAppend_ok isL_ok (.v 8) (.cons (.tup (.cons (.v 9) (.cons (.call B (ok__law_pick fx) (by decide) (by rfl) fx.m__law_pick fx.f__law_pick.kp fx.b__law_pick (.cons (.v 0) (.cons (.v 7) .nil))) (.cons (.v 10) (.cons (.callB (zMin_ok B.zx) (by rfl) fx.n_min (by rfl) (.cons .int (.cons (.op2 zAdd_ok (.op2 zAdd_ok (.v 10) .int) (.call B (ok__law_draw fx) (by decide) (by rfl) fx.m__law_draw fx.f__law_draw.kp fx.b__law_draw (.cons (.v 0) (.cons (.v 5) .nil)))) .nil))) .nil))))) .nil))))))))))
  (.one (.ret (.callTy zTuple_ok (by rfl) fx.n_tuple (by rfl) (.cons (.v 8) .nil))))))))
theorem sc__law_hung : FnScope N__law_hung ["frame"] (defScope s__law_hung) := ⟨rfl, rfl, rfl, by decide +kernel, rfl, by decide +kernel, by decide +kernel⟩
theorem ok__law_hung (fx : FX K mg) : FnG P w K mg base 3 fx.a__law_hung fx.d__law_hung ["frame"] (spZ K mg F__law_hung 1) :=
  zfn fx.f__law_hung sc__law_hung fun cdv A outer s H E B => ((.cons (.par2 B.zx 1 2 (.cons .dnew (.cons (.call B (ok__law_jumps fx) (by decide) (by rfl) fx.m__law_jumps fx.f__law_jumps.kp fx.b__law_jumps (.cons (.v 0) .nil)) .nil)))
  (.cons (.for_ B.zx (.seq (.v 2)) (.name B.zx.nd 3)
  (.one (.store (zDput_ok B.zx) (.callTy zTuple_ok (by rfl) fx.n_tuple (by rfl) (.cons (ZE.comp (own := [("own", 4)]) fin_f B.zx (.seq (.v 2)) (blkOk_by (by rfl)) (by decide) (fun s1 h1 _ _ p1 => (.name (B.blk s1 h1 _ _ p1).zx.nd 4)) (fun s1 h1 _ _ p1 => (.one (.w (.and (.cmp (zNe_ok (B.blk s1 h1 _ _ p1).zx) (.v 4) (.v 3)) (.and1 (.cmp (zNe_ok (B.blk s1 h1 _ _ p1).zx) (.call (B.blk s1 h1 _ _ p1) (ok__law_changed fx) (by decide) (by rfl) fx.m__law_changed fx.f__law_changed.kp fx.b__law_changed (.cons (.v 0) (.cons (.v 4) (.cons (.v 3) .nil)))) (.tup (.cons .int .nil)))))))) (fun s1 h1 _ _ p1 => (.v 4))) .nil)) (.v 1) (.v 3))))
  (.one (.ret (ZE.frz (.v 1)))))))
theorem sc__law_chain : FnScope N__law_chain ["loom"] (defScope s__law_chain) := ⟨rfl, rfl, rfl, by decide +kernel, rfl, by decide +kernel, by decide +kernel⟩
theorem ok__law_chain (fx : FX K mg) : FnG P w K mg base 3 fx.a__law_chain fx.d__law_chain ["loom"] (spZ K mg F__law_chain 1) :=
  zfn fx.f__law_chain sc__law_chain fun cdv A outer s H E B => ((.cons (.par3 B.zx 1 2 3 (.cons (.op2 zAdd_ok .int (.call B (ok__law_draw fx) (by decide) (by rfl) fx.m__law_draw fx.f__law_draw.kp fx.b__law_draw (.cons (.v 0) (.cons .int .nil)))) (.cons (.call B (ok__law_pick fx) (by decide) (by rfl) fx.m__law_pick fx.f__law_pick.kp fx.b__law_pick (.cons (.v 0) (.cons (.lstF (.cons .int (.cons .int (.cons .int .nil)))) .nil))) (.cons (.lstF .nil) .nil))))
  (.cons (.set B.zx.nd 3 (.lstF (.cons (.tup (.cons .str (.cons .int (.cons (.v 1) (.cons (.op2 zAdd_ok (.op2 zAdd_ok (.v 1) .int) (.op2 zMul_ok .int (.call B (ok__law_draw fx) (by decide) (by rfl) fx.m__law_draw fx.f__law_draw.kp fx.b__law_draw (.cons (.v 0) (.cons .int .nil))))) .nil))))) (.cons (.tup (.cons .str .nil)) (.cons (.tup (.cons .str (.cons (.v 2) .nil))) (.cons (.tup (.cons .str .nil)) .nil))))))
  (.cons (.for_ B.zx (.range1 (by rfl) fx.n_range (.op2 zAdd_ok .int (.call B (ok__law_draw fx) (by decide) (by rfl) fx.m__law_draw fx.f__law_draw.kp fx.b__law_draw (.cons (.v 0) (.cons .int .nil))))) (.name B.zx.nd 4)
  (.cons (.set B.zx.nd 1 (.op2 zAdd_ok .int (.call B (ok__law_draw fx) (by decide) (by rfl) fx.m__law_draw fx.f__law_draw.kp fx.b__law_draw (.cons (.v 0) (.cons .int .nil)))))
  (.one (.set B.zx.nd 3 (.op2 zAdd_ok (.v 3) (.lstF (.cons (.tup (.cons .str (.cons (.op2 zAdd_ok .int (.op2 zMul_ok .int (.v 4))) (.cons (.v 1) (.cons (.op2 zAdd_ok (.op2 zAdd_ok (.v 1) .int) (.call B (ok__law_draw fx) (by decide) (by rfl) fx.m__law_draw fx.f__law_draw.kp fx.b__law_draw (.cons (.v 0) (.cons .int .nil)))) .nil))))) (.cons (.tup (.cons .str .nil)) .nil))))))))
  (.one (.ret (.callTy zTuple_ok (by rfl) fx.n_tuple (by rfl) (.cons (.v 3) .nil))))))))
theorem sc_changes : FnScope N_changes ["skeleton", "other", "jump"] (defScope s_changes) := ⟨rfl, rfl, rfl, by decide +kernel, rfl, by decide +kernel, by decide +kernel⟩
theorem ok_changes (fx : FX K mg) : FnG P w K mg base 4 fx.a_changes fx.d_changes ["skeleton", "other", "jump"] (spZ K mg F_changes 3) :=
  zfn fx.f_changes sc_changes fun cdv A outer s H E B => ((.one (.ret (.callTy zTuple_ok (by rfl) fx.n_tuple (by rfl) (.cons (.callB (zSortD_ok B.zx) (by rfl) fx.n_sorted (by rfl) (.cons (.call B (ok_all_changes fx) (by decide) (by rfl) fx.m_all_changes fx.f_all_changes.kp fx.b_all_changes (.cons (.v 0) (.cons (.v 1) (.cons (.v 2) .nil)))) .nil)) .nil)))))
theorem sc_hangs_on : FnScope N_hangs_on ["skeleton", "jump"] (defScope s_hangs_on) := ⟨rfl, rfl, rfl, by decide +kernel, rfl, by decide +kernel, by decide +kernel⟩
theorem ok_hangs_on (fx : FX K mg) : FnG P w K mg base 5 fx.a_hangs_on fx.d_hangs_on ["skeleton", "jump"] (spZ K mg F_hangs_on 2) :=
  zfn fx.f_hangs_on sc_hangs_on fun cdv A outer s H E B => ((.cons (.comp (i := 2) (own := [("other", 3)]) fin_f B.zx (.seq (.call B (ok_jumps_of fx) (by decide) (by rfl) fx.m_jumps_of fx.f_jumps_of.kp fx.b_jumps_of (.cons (.v 0) .nil))) (blkOk_by (by rfl)) (by decide) (by rfl) (by rfl) (by rfl) (fun s1 h1 _ _ p1 => (.name (B.blk s1 h1 _ _ p1).zx.nd 3)) (fun s1 h1 _ _ p1 => (.one (.cmp (zNe_ok (B.blk s1 h1 _ _ p1).zx) (.v 3) (.v 1)))) (fun s1 h1 _ _ p1 => (.v 3)))
  (.one (.ret (.callTy zTuple_ok (by rfl) fx.n_tuple (by rfl) (.cons (ZE.comp (own := [("other", 3)]) fin_f B.zx (.seq (.v 2)) (blkOk_by (by rfl)) (by decide) (fun s2 h2 _ _ p2 => (.name (B.blk s2 h2 _ _ p2).zx.nd 3)) (fun s2 h2 _ _ p2 => (.one (.cmp (zNe_ok (B.blk s2 h2 _ _ p2).zx) (.call (B.blk s2 h2 _ _ p2) (ok_changes fx) (by decide) (by rfl) fx.m_changes fx.f_changes.kp fx.b_changes (.cons (.v 0) (.cons (.v 3) (.cons (.v 1) .nil)))) (.tup (.cons .int .nil))))) (fun s2 h2 _ _ p2 => (.v 3))) .nil))))))
theorem sc_sure_part : FnScope N_sure_part ["skeleton"] (defScope s_sure_part) := ⟨rfl, rfl, rfl, by decide +kernel, rfl, by decide +kernel, by decide +kernel⟩
theorem ok_sure_part (fx : FX K mg) : FnG P w K mg base 6 fx.a_sure_part fx.d_sure_part ["skeleton"] (spZ K mg F_sure_part 1) :=
  zfn fx.f_sure_part sc_sure_part fun cdv A outer s H E B => ((.cons (.set B.zx.nd 1 (ZE.comp (own := [("triple", 4)]) fin_f B.zx (.seq (.call B (ok_triples fx) (by decide) (by rfl) fx.m_triples fx.f_triples.kp fx.b_triples (.cons (.v 0) .nil))) (blkOk_by (by rfl)) (by decide) (fun s1 h1 _ _ p1 => (.name (B.blk s1 h1 _ _ p1).zx.nd 4)) (fun s1 h1 _ _ p1 => .nil) (fun s1 h1 _ _ p1 => (.ix (B.blk s1 h1 _ _ p1).zx (.v 4) .int))))
  (.cons (.set B.zx.nd 2 (ZE.frz (ZE.dcomp (own := [("jump", 5)]) B.zx (.seq (.call B (ok_jumps_of fx) (by decide) (by rfl) fx.m_jumps_of fx.f_jumps_of.kp fx.b_jumps_of (.cons (.v 0) .nil))) (blkOk_by (by rfl)) (by decide) (fun s2 h2 _ _ p2 => (.name (B.blk s2 h2 _ _ p2).zx.nd 5)) (fun s2 h2 _ _ p2 => .nil) (fun s2 h2 _ _ p2 => (.v 5)) (fun s2 h2 _ _ p2 => (.call (B.blk s2 h2 _ _ p2) (ok_hangs_on fx) (by decide) (by rfl) fx.m_hangs_on fx.f_hangs_on.kp fx.b_hangs_on (.cons (.v 0) (.cons (.v 5) .nil)))))))
  (.cons (.for_ B.zx (.seq (.v 2)) (.name B.zx.nd 3)
  (.one (.set B.zx.nd 1 (ZE.comp (own := [("jump", 5)]) fin_f B.zx (.seq (.v 2)) (blkOk_by (by rfl)) (by decide) (fun s3 h3 _ _ p3 => (.name (B.blk s3 h3 _ _ p3).zx.nd 5)) (fun s3 h3 _ _ p3 => (.one (.w (.or (.cmp (zIn_ok (B.blk s3 h3 _ _ p3).zx) (.v 5) (.v 1)) (.or1 (.val (.callB (zAny_ok (B.blk s3 h3 _ _ p3).zx) (by rfl) fx.n_any (by rfl) (.cons (ZE.comp (own := [("other", 6)]) fin_f (B.blk s3 h3 _ _ p3).zx (.seq (.ix (B.blk s3 h3 _ _ p3).zx (.v 2) (.v 5))) (blkOk_by (by rfl)) (by decide) (fun s4 h4 _ _ p4 => (.name ((B.blk s3 h3 _ _ p3).blk s4 h4 _ _ p4).zx.nd 6)) (fun s4 h4 _ _ p4 => .nil) (fun s4 h4 _ _ p4 => (.cmp (zIn_ok ((B.blk s3 h3 _ _ p3).blk s4 h4 _ _ p4).zx) (.v 6) (.v 1)))) .nil)))))))) (fun s3 h3 _ _ p3 => (.v 5))))))
  (.one (.ret (.callTy zTuple_ok (by rfl) fx.n_tuple (by rfl) (.cons (ZE.comp (own := [("jump", 5)]) fin_f B.zx (.seq (.v 2)) (blkOk_by (by rfl)) (by decide) (fun s5 h5 _ _ p5 => (.name (B.blk s5 h5 _ _ p5).zx.nd 5)) (fun s5 h5 _ _ p5 => (.one (.cmp (zNotIn_ok (B.blk s5 h5 _ _ p5).zx) (.v 5) (.v 1)))) (fun s5 h5 _ _ p5 => (.v 5))) .nil))))))))
theorem sc__law_is_told : FnScope N__law_is_told ["frame", "turn"] (defScope s__law_is_told) := ⟨rfl, rfl, rfl, by decide +kernel, rfl, by decide +kernel, by decide +kernel⟩
theorem ok__law_is_told (fx : FX K mg) : FnG P w K mg base 7 fx.a__law_is_told fx.d__law_is_told ["frame", "turn"] (spZ K mg F__law_is_told 2) :=
  zfn fx.f__law_is_told sc__law_is_told fun cdv A outer s H E B => ((.cons (.parT B.zx (.cons (.callB (zShow_ok B.zx) (by rfl) fx.n_repr (by rfl) (.cons (.v 0) .nil)) (.cons (.call B (ok__law_triples fx) (by decide) (by rfl) fx.m__law_triples fx.f__law_triples.kp fx.b__law_triples (.cons (.v 0) .nil)) (.cons (.call B (ok__law_jumps fx) (by decide) (by rfl) fx.m__law_jumps fx.f__law_jumps.kp fx.b__law_jumps (.cons (.v 0) .nil)) (.cons (.call B (ok__law_hung fx) (by decide) (by rfl) fx.m__law_hung fx.f__law_hung.kp fx.b__law_hung (.cons (.v 0) .nil)) .nil)))) (tn_cons B.zx.nd 2 (tn_cons B.zx.nd 3 (tn_cons B.zx.nd 4 (tn_cons B.zx.nd 5 tn_nil)))))
  (.cons (.set B.zx.nd 6 .bl)
  (.cons (.for_ B.zx (.seq (.v 4)) (.name B.zx.nd 7)
  (.cons (.set B.zx.nd 8 (.ife (.cmp (zEq_ok B.zx) (.v 1) .int) (.callK B (ok_hangs_on fx) (by decide) (by rfl) fx.m_hangs_on fx.f_hangs_on.kp [1, 0] fx.k_hangs_on_jump_skeleton (.cons (.v 7) (.cons (.v 0) .nil)) perm_hangs_on_jump_skeleton) (.call B (ok_hangs_on fx) (by decide) (by rfl) fx.m_hangs_on fx.f_hangs_on.kp fx.b_hangs_on (.cons (.v 0) (.cons (.v 7) .nil)))))
  (.cons (.parT B.zx (.cons (.callB (zMin_ok B.zx) (by rfl) fx.n_min (by rfl) (.cons (.v 7) (.cons (.ix B.zx (.ix B.zx (.v 0) (.v 7)) .int) .nil))) (.cons (.callB (zMax_ok B.zx) (by rfl) fx.n_max (by rfl) (.cons (.v 7) (.cons (.ix B.zx (.ix B.zx (.v 0) (.v 7)) .int) .nil))) .nil)) (tn_cons B.zx.nd 9 (tn_cons B.zx.nd 10 tn_nil)))
  (.cons (.set B.zx.nd 11 (ZE.comp (own := [("first", 14), ("spot", 15), ("mate", 16)]) fin_f B.zx (.seq (.v 3)) (blkOk_by (by rfl)) (by decide) (fun s1 h1 _ _ p1 => (.three (B.blk s1 h1 _ _ p1).zx.calm (.name (B.blk s1 h1 _ _ p1).zx.nd 14) (.name (B.blk s1 h1 _ _ p1).zx.nd 15) (.name (B.blk s1 h1 _ _ p1).zx.nd 16))) (fun s1 h1 _ _ p1 => (.one (.cmp (zEq_ok (B.blk s1 h1 _ _ p1).zx) (.v 14) (.v 7)))) (fun s1 h1 _ _ p1 => (.v 16))))
  (.cons (.set B.zx.nd 12 (.callTy zTuple_ok (by rfl) fx.n_tuple (by rfl) (.cons (ZE.comp (own := [("own", 17)]) fin_f B.zx (.seq (.v 4)) (blkOk_by (by rfl)) (by decide) (fun s2 h2 _ _ p2 => (.name (B.blk s2 h2 _ _ p2).zx.nd 17)) (fun s2 h2 _ _ p2 => (.one (.w (.and (.cmp (zNe_ok (B.blk s2 h2 _ _ p2).zx) (.v 17) (.v 7)) (.and1 (.w (.or (.chain zLt_ok zLt_ok (.v 9) (.v 17) (.v 10)) (.or1 (.cmp (zIn_ok (B.blk s2 h2 _ _ p2).zx) (.v 17) (.v 11)))))))))) (fun s2 h2 _ _ p2 => (.v 17))) .nil)))
  (.cons (.set B.zx.nd 13 (.ife (.cmp zLt_ok (.callB zLen_ok (by rfl) fx.n_len (by rfl) (.cons (.v 4) .nil)) .int) (.call B (ok_hangs_on fx) (by decide) (by rfl) fx.m_hangs_on fx.f_hangs_on.kp fx.b_hangs_on (.cons (.v 0) (.cons (.v 7) .nil))) (.v 8)))
  (.cons (.ife (.cmp (zNe_ok B.zx) (.callB (zShow_ok B.zx) (by rfl) fx.n_repr (by rfl) (.cons (.lstF (.cons (.v 8) (.cons (.v 13) (.cons (.ix B.zx (.v 5) (.v 7)) .nil)))) .nil)) (.callB (zShow_ok B.zx) (by rfl) fx.n_repr (by rfl) (.cons (.op2 zMul_ok (.lstF (.cons (.v 12) .nil)) .int) .nil)))
  (.one (.ret .bl))
  .nil)
  (.one (.set B.zx.nd 6 (.and (.v 6) (.one (.cmp (zEq_ok B.zx) (ZE.comp (own := [("own", 17)]) fin_f B.zx (.seq (.v 8)) (blkOk_by (by rfl)) (by decide) (fun s3 h3 _ _ p3 => (.name (B.blk s3 h3 _ _ p3).zx.nd 17)) (fun s3 h3 _ _ p3 => (.one (.not (.chain zLt_ok zLt_ok (.v 9) (.v 17) (.v 10))))) (fun s3 h3 _ _ p3 => (.v 17))) (.lstF .nil)))))))))))))
  (.cons (.set B.zx.nd 8 (.ife (.cmp (zEq_ok B.zx) (.v 1) .int) (.callK B (ok_sure_part fx) (by decide) (by rfl) fx.m_sure_part fx.f_sure_part.kp [0] fx.k_sure_part_skeleton (.cons (.v 0) .nil) perm_sure_part_skeleton) (.call B (ok_sure_part fx) (by decide) (by rfl) fx.m_sure_part fx.f_sure_part.kp fx.b_sure_part (.cons (.v 0) .nil))))
  (.cons (.set B.zx.nd 12 (.call B (ok__law_sure fx) (by decide) (by rfl) fx.m__law_sure fx.f__law_sure.kp fx.b__law_sure (.cons (.v 3) (.cons (.v 5) .nil))))
  (.cons (.set B.zx.nd 13 (.ife (.cmp zLt_ok (.callB zLen_ok (by rfl) fx.n_len (by rfl) (.cons (.v 4) .nil)) .int) (.call B (ok_sure_part fx) (by decide) (by rfl) fx.m_sure_part fx.f_sure_part.kp fx.b_sure_part (.cons (.v 0) .nil)) (.v 8)))
  (.cons (.ife (.w (.or (.cmp (zNe_ok B.zx) (.callB (zShow_ok B.zx) (by rfl) fx.n_repr (by rfl) (.cons (.lstF (.cons (.v 8) (.cons (.v 13) .nil))) .nil)) (.callB (zShow_ok B.zx) (by rfl) fx.n_repr (by rfl) (.cons (.lstF (.cons (.v 12) (.cons (.v 12) .nil))) .nil))) (.or1 (.cmp (zNe_ok B.zx) (.callB (zShow_ok B.zx) (by rfl) fx.n_repr (by rfl) (.cons (.v 0) .nil)) (.v 2)))))
  (.one (.ret .bl))
  .nil)
  (.one (.ret (.and (.cmp (zEq_ok B.zx) (.v 6) (.cmp (zEq_ok B.zx) (.v 3) (.lstF .nil))) (.one (.or (.cmp (zNe_ok B.zx) (.v 3) (.lstF .nil)) (.one (.cmp (zEq_ok B.zx) (.v 12) (.callTy zTuple_ok (by rfl) fx.n_tuple (by rfl) (.cons (.v 4) .nil)))))))))))))))))
theorem sc_law : FnScope N_law ["script"] (defScope s_law) := ⟨rfl, rfl, rfl, by decide +kernel, rfl, by decide +kernel, by decide +kernel⟩
theorem ok_law (fx : FX K mg) : FnG P w K mg base 8 fx.a_law fx.d_law ["script"] (spZ K mg F_law 1) :=
  zfn fx.f_law sc_law fun cdv A outer s H E B => ((.cons (.set B.zx.nd 1 (.call B (ok__law_loom fx) (by decide) (by rfl) fx.m__law_loom fx.f__law_loom.kp fx.b__law_loom (.cons (.v 0) .nil)))
  (.cons (.for_ B.zx (.range1 (by rfl) fx.n_range .int) (.name B.zx.nd 2)
  (.cons (.par2 B.zx 3 4 (.cons (.op2 zAdd_ok .int (.call B (ok__law_draw fx) (by decide) (by rfl) fx.m__law_draw fx.f__law_draw.kp fx.b__law_draw (.cons (.v 1) (.cons (.ix B.zx (.lstF (.cons .int (.cons .int (.cons .int (.cons .int (.cons .int (.cons .int .nil))))))) (.v 2)) .nil)))) (.cons (.call B (ok__law_draw fx) (by decide) (by rfl) fx.m__law_draw fx.f__law_draw.kp fx.b__law_draw (.cons (.v 1) (.cons (.ix B.zx (.lstF (.cons .int (.cons .int (.cons .int (.cons .int (.cons .int (.cons .int .nil))))))) (.v 2)) .nil))) .nil)))
  (.cons (.par2 B.zx 5 6 (.cons (.call B (ok__law_pick fx) (by decide) (by rfl) fx.m__law_pick fx.f__law_pick.kp fx.b__law_pick (.cons (.v 1) (.cons (.lstF (.cons .int (.cons .int (.cons .int .nil)))) .nil))) (.cons (.call B (ok__law_pick fx) (by decide) (by rfl) fx.m__law_pick fx.f__law_pick.kp fx.b__law_pick (.cons (.v 1) (.cons (.lstF (.cons .int (.cons .int (.cons .int .nil)))) .nil))) .nil)))
  (.cons (.set B.zx.nd 7 (.call B (ok__law_frame fx) (by decide) (by rfl) fx.m__law_frame fx.f__law_frame.kp fx.b__law_frame (.cons (.v 1) (.cons (.v 3) (.cons (.v 4) (.cons (.op2 zAdd_ok .int (.call B (ok__law_draw fx) (by decide) (by rfl) fx.m__law_draw fx.f__law_draw.kp fx.b__law_draw (.cons (.v 1) (.cons .int .nil)))) (.cons (.v 5) (.cons (.v 6) .nil))))))))
  (.cons (.set B.zx.nd 7 (.ife (.cmp (zEq_ok B.zx) (.call B (ok__law_draw fx) (by decide) (by rfl) fx.m__law_draw fx.f__law_draw.kp fx.b__law_draw (.cons (.v 1) (.cons .int .nil))) .int) (.call B (ok__law_steadied fx) (by decide) (by rfl) fx.m__law_steadied fx.f__law_steadied.kp fx.b__law_steadied (.cons (.v 1) (.cons (.v 7) .nil))) (.v 7)))
  (.one (.ife (.not (.val (.call B (ok__law_is_told fx) (by decide) (by rfl) fx.m__law_is_told fx.f__law_is_told.kp fx.b__law_is_told (.cons (.v 7) (.cons (.v 2) .nil)))))
  (.one (.ret .bl))
  .nil)))))))
  (.one (.ret (.or (.cmp zGt_ok (.call B (ok__law_draw fx) (by decide) (by rfl) fx.m__law_draw fx.f__law_draw.kp fx.b__law_draw (.cons (.v 1) (.cons .int .nil))) .int) (.one (.call B (ok__law_is_told fx) (by decide) (by rfl) fx.m__law_is_told fx.f__law_is_told.kp fx.b__law_is_told (.cons (.call B (ok__law_chain fx) (by decide) (by rfl) fx.m__law_chain fx.f__law_chain.kp fx.b__law_chain (.cons (.v 1) .nil)) (.cons .int .nil))))))))))
end
theorem all_mk {P : Program} {w : World} {K : PySem.W.Frag} {h : Heap} {mg : Str → Option Value} {fa : Addr} (X : K.In h) (G : h.Ns mainGlobals mg) (hfa : mg "law" = some (.ref fa))
    (z_abs : PySem.W.nsIn K mainGlobals "abs" = some none)
    (z_any : PySem.W.nsIn K mainGlobals "any" = some none)
    (z_enumerate : PySem.W.nsIn K mainGlobals "enumerate" = some none)
    (z_int : PySem.W.nsIn K mainGlobals "int" = some none)
    (z_len : PySem.W.nsIn K mainGlobals "len" = some none)
    (z_list : PySem.W.nsIn K mainGlobals "list" = some none)
    (z_max : PySem.W.nsIn K mainGlobals "max" = some none)
    (z_min : PySem.W.nsIn K mainGlobals "min" = some none)
    (z_range : PySem.W.nsIn K mainGlobals "range" = some none)
    (z_repr : PySem.W.nsIn K mainGlobals "repr" = some none)
    (z_set : PySem.W.nsIn K mainGlobals "set" = some none)
    (z_sorted : PySem.W.nsIn K mainGlobals "sorted" = some none)
    (z_tuple : PySem.W.nsIn K mainGlobals "tuple" = some none)
    {f0 : Addr} {od0 an0 : Option Addr} {sl0 : Array (Option Value)} {oc0 kV0 dc0 pm0 cd0 ct0 : Value} (a0 : PySem.W.nsIn K mainGlobals "jumps_of" = some (some (.ref f0)))
    (l0 : K.lookup f0 = some ⟨oc0, od0, .func (PySem.W.fnOf "jumps_of" "jumps_of" (defArgs s_jumps_of) (defBody s_jumps_of) (defScope s_jumps_of) .none kV0 dc0 pm0 an0 cd0 ct0), sl0⟩) (c0 : PySem.W.codeIn K cd0 "jumps_of" = true) (k0 : PySem.W.keepIn K (.ref f0) = true)
    {f1 : Addr} {od1 an1 : Option Addr} {sl1 : Array (Option Value)} {oc1 kV1 dc1 pm1 cd1 ct1 : Value} (a1 : PySem.W.nsIn K mainGlobals "in_way" = some (some (.ref f1)))
    (l1 : K.lookup f1 = some ⟨oc1, od1, .func (PySem.W.fnOf "in_way" "in_way" (defArgs s_in_way) (defBody s_in_way) (defScope s_in_way) .none kV1 dc1 pm1 an1 cd1 ct1), sl1⟩) (c1 : PySem.W.codeIn K cd1 "in_way" = true) (k1 : PySem.W.keepIn K (.ref f1) = true)
    {f2 : Addr} {od2 an2 : Option Addr} {sl2 : Array (Option Value)} {oc2 kV2 dc2 pm2 cd2 ct2 : Value} (a2 : PySem.W.nsIn K mainGlobals "ahead_of_way" = some (some (.ref f2)))
    (l2 : K.lookup f2 = some ⟨oc2, od2, .func (PySem.W.fnOf "ahead_of_way" "ahead_of_way" (defArgs s_ahead_of_way) (defBody s_ahead_of_way) (defScope s_ahead_of_way) .none kV2 dc2 pm2 an2 cd2 ct2), sl2⟩) (c2 : PySem.W.codeIn K cd2 "ahead_of_way" = true) (k2 : PySem.W.keepIn K (.ref f2) = true)
    {f3 : Addr} {od3 an3 : Option Addr} {sl3 : Array (Option Value)} {oc3 kV3 dc3 pm3 cd3 ct3 : Value} (a3 : PySem.W.nsIn K mainGlobals "growth" = some (some (.ref f3)))
    (l3 : K.lookup f3 = some ⟨oc3, od3, .func (PySem.W.fnOf "growth" "growth" (defArgs s_growth) (defBody s_growth) (defScope s_growth) .none kV3 dc3 pm3 an3 cd3 ct3), sl3⟩) (c3 : PySem.W.codeIn K cd3 "growth" = true) (k3 : PySem.W.keepIn K (.ref f3) = true)
    {f4 : Addr} {od4 an4 : Option Addr} {sl4 : Array (Option Value)} {oc4 kV4 dc4 pm4 cd4 ct4 : Value} (a4 : PySem.W.nsIn K mainGlobals "is_kept_away" = some (some (.ref f4)))
    (l4 : K.lookup f4 = some ⟨oc4, od4, .func (PySem.W.fnOf "is_kept_away" "is_kept_away" (defArgs s_is_kept_away) (defBody s_is_kept_away) (defScope s_is_kept_away) .none kV4 dc4 pm4 an4 cd4 ct4), sl4⟩) (c4 : PySem.W.codeIn K cd4 "is_kept_away" = true) (k4 : PySem.W.keepIn K (.ref f4) = true)
    {f5 : Addr} {od5 an5 : Option Addr} {sl5 : Array (Option Value)} {oc5 kV5 dc5 pm5 cd5 ct5 : Value} (a5 : PySem.W.nsIn K mainGlobals "ends_of_way" = some (some (.ref f5)))
    (l5 : K.lookup f5 = some ⟨oc5, od5, .func (PySem.W.fnOf "ends_of_way" "ends_of_way" (defArgs s_ends_of_way) (defBody s_ends_of_way) (defScope s_ends_of_way) .none kV5 dc5 pm5 an5 cd5 ct5), sl5⟩) (c5 : PySem.W.codeIn K cd5 "ends_of_way" = true) (k5 : PySem.W.keepIn K (.ref f5) = true)
    {f6 : Addr} {od6 an6 : Option Addr} {sl6 : Array (Option Value)} {oc6 kV6 dc6 pm6 cd6 ct6 : Value} (a6 : PySem.W.nsIn K mainGlobals "roundings" = some (some (.ref f6)))
    (l6 : K.lookup f6 = some ⟨oc6, od6, .func (PySem.W.fnOf "roundings" "roundings" (defArgs s_roundings) (defBody s_roundings) (defScope s_roundings) .none kV6 dc6 pm6 an6 cd6 ct6), sl6⟩) (c6 : PySem.W.codeIn K cd6 "roundings" = true) (k6 : PySem.W.keepIn K (.ref f6) = true)
    {f7 : Addr} {od7 an7 : Option Addr} {sl7 : Array (Option Value)} {oc7 kV7 dc7 pm7 cd7 ct7 : Value} (a7 : PySem.W.nsIn K mainGlobals "_law_loom" = some (some (.ref f7)))
    (l7 : K.lookup f7 = some ⟨oc7, od7, .func (PySem.W.fnOf "_law_loom" "_law_loom" (defArgs s__law_loom) (defBody s__law_loom) (defScope s__law_loom) .none kV7 dc7 pm7 an7 cd7 ct7), sl7⟩) (c7 : PySem.W.codeIn K cd7 "_law_loom" = true) (k7 : PySem.W.keepIn K (.ref f7) = true)
    {f8 : Addr} {od8 an8 : Option Addr} {sl8 : Array (Option Value)} {oc8 kV8 dc8 pm8 cd8 ct8 : Value} (a8 : PySem.W.nsIn K mainGlobals "_law_draw" = some (some (.ref f8)))
    (l8 : K.lookup f8 = some ⟨oc8, od8, .func (PySem.W.fnOf "_law_draw" "_law_draw" (defArgs s__law_draw) (defBody s__law_draw) (defScope s__law_draw) .none kV8 dc8 pm8 an8 cd8 ct8), sl8⟩) (c8 : PySem.W.codeIn K cd8 "_law_draw" = true) (k8 : PySem.W.keepIn K (.ref f8) = true)
    {f9 : Addr} {od9 an9 : Option Addr} {sl9 : Array (Option Value)} {oc9 kV9 dc9 pm9 cd9 ct9 : Value} (a9 : PySem.W.nsIn K mainGlobals "_law_jumps" = some (some (.ref f9)))
    (l9 : K.lookup f9 = some ⟨oc9, od9, .func (PySem.W.fnOf "_law_jumps" "_law_jumps" (defArgs s__law_jumps) (defBody s__law_jumps) (defScope s__law_jumps) .none kV9 dc9 pm9 an9 cd9 ct9), sl9⟩) (c9 : PySem.W.codeIn K cd9 "_law_jumps" = true) (k9 : PySem.W.keepIn K (.ref f9) = true)
    {f10 : Addr} {od10 an10 : Option Addr} {sl10 : Array (Option Value)} {oc10 kV10 dc10 pm10 cd10 ct10 : Value} (a10 : PySem.W.nsIn K mainGlobals "_law_top" = some (some (.ref f10)))
    (l10 : K.lookup f10 = some ⟨oc10, od10, .func (PySem.W.fnOf "_law_top" "_law_top" (defArgs s__law_top) (defBody s__law_top) (defScope s__law_top) .none kV10 dc10 pm10 an10 cd10 ct10), sl10⟩) (c10 : PySem.W.codeIn K cd10 "_law_top" = true) (k10 : PySem.W.keepIn K (.ref f10) = true)
    {f11 : Addr} {od11 an11 : Option Addr} {sl11 : Array (Option Value)} {oc11 kV11 dc11 pm11 cd11 ct11 : Value} (a11 : PySem.W.nsIn K mainGlobals "_law_goes" = some (some (.ref f11)))
    (l11 : K.lookup f11 = some ⟨oc11, od11, .func (PySem.W.fnOf "_law_goes" "_law_goes" (defArgs s__law_goes) (defBody s__law_goes) (defScope s__law_goes) .none kV11 dc11 pm11 an11 cd11 ct11), sl11⟩) (c11 : PySem.W.codeIn K cd11 "_law_goes" = true) (k11 : PySem.W.keepIn K (.ref f11) = true)
    {f12 : Addr} {od12 an12 : Option Addr} {sl12 : Array (Option Value)} {oc12 kV12 dc12 pm12 cd12 ct12 : Value} (a12 : PySem.W.nsIn K mainGlobals "_law_sure" = some (some (.ref f12)))
    (l12 : K.lookup f12 = some ⟨oc12, od12, .func (PySem.W.fnOf "_law_sure" "_law_sure" (defArgs s__law_sure) (defBody s__law_sure) (defScope s__law_sure) .none kV12 dc12 pm12 an12 cd12 ct12), sl12⟩) (c12 : PySem.W.codeIn K cd12 "_law_sure" = true) (k12 : PySem.W.keepIn K (.ref f12) = true)
    {f13 : Addr} {od13 an13 : Option Addr} {sl13 : Array (Option Value)} {oc13 kV13 dc13 pm13 cd13 ct13 : Value} (a13 : PySem.W.nsIn K mainGlobals "is_triple" = some (some (.ref f13)))
    (l13 : K.lookup f13 = some ⟨oc13, od13, .func (PySem.W.fnOf "is_triple" "is_triple" (defArgs s_is_triple) (defBody s_is_triple) (defScope s_is_triple) .none kV13 dc13 pm13 an13 cd13 ct13), sl13⟩) (c13 : PySem.W.codeIn K cd13 "is_triple" = true) (k13 : PySem.W.keepIn K (.ref f13) = true)
    {f14 : Addr} {od14 an14 : Option Addr} {sl14 : Array (Option Value)} {oc14 kV14 dc14 pm14 cd14 ct14 : Value} (a14 : PySem.W.nsIn K mainGlobals "shifts_behind" = some (some (.ref f14)))
    (l14 : K.lookup f14 = some ⟨oc14, od14, .func (PySem.W.fnOf "shifts_behind" "shifts_behind" (defArgs s_shifts_behind) (defBody s_shifts_behind) (defScope s_shifts_behind) .none kV14 dc14 pm14 an14 cd14 ct14), sl14⟩) (c14 : PySem.W.codeIn K cd14 "shifts_behind" = true) (k14 : PySem.W.keepIn K (.ref f14) = true)
    {f15 : Addr} {od15 an15 : Option Addr} {sl15 : Array (Option Value)} {oc15 kV15 dc15 pm15 cd15 ct15 : Value} (a15 : PySem.W.nsIn K mainGlobals "_law_pick" = some (some (.ref f15)))
    (l15 : K.lookup f15 = some ⟨oc15, od15, .func (PySem.W.fnOf "_law_pick" "_law_pick" (defArgs s__law_pick) (defBody s__law_pick) (defScope s__law_pick) .none kV15 dc15 pm15 an15 cd15 ct15), sl15⟩) (c15 : PySem.W.codeIn K cd15 "_law_pick" = true) (k15 : PySem.W.keepIn K (.ref f15) = true)
    {f16 : Addr} {od16 an16 : Option Addr} {sl16 : Array (Option Value)} {oc16 kV16 dc16 pm16 cd16 ct16 : Value} (a16 : PySem.W.nsIn K mainGlobals "_law_mixed" = some (some (.ref f16)))
    (l16 : K.lookup f16 = some ⟨oc16, od16, .func (PySem.W.fnOf "_law_mixed" "_law_mixed" (defArgs s__law_mixed) (defBody s__law_mixed) (defScope s__law_mixed) .none kV16 dc16 pm16 an16 cd16 ct16), sl16⟩) (c16 : PySem.W.codeIn K cd16 "_law_mixed" = true) (k16 : PySem.W.keepIn K (.ref f16) = true)
    {f17 : Addr} {od17 an17 : Option Addr} {sl17 : Array (Option Value)} {oc17 kV17 dc17 pm17 cd17 ct17 : Value} (a17 : PySem.W.nsIn K mainGlobals "_law_triples" = some (some (.ref f17)))
    (l17 : K.lookup f17 = some ⟨oc17, od17, .func (PySem.W.fnOf "_law_triples" "_law_triples" (defArgs s__law_triples) (defBody s__law_triples) (defScope s__law_triples) .none kV17 dc17 pm17 an17 cd17 ct17), sl17⟩) (c17 : PySem.W.codeIn K cd17 "_law_triples" = true) (k17 : PySem.W.keepIn K (.ref f17) = true)
    {f18 : Addr} {od18 an18 : Option Addr} {sl18 : Array (Option Value)} {oc18 kV18 dc18 pm18 cd18 ct18 : Value} (a18 : PySem.W.nsIn K mainGlobals "_law_changed" = some (some (.ref f18)))
    (l18 : K.lookup f18 = some ⟨oc18, od18, .func (PySem.W.fnOf "_law_changed" "_law_changed" (defArgs s__law_changed) (defBody s__law_changed) (defScope s__law_changed) .none kV18 dc18 pm18 an18 cd18 ct18), sl18⟩) (c18 : PySem.W.codeIn K cd18 "_law_changed" = true) (k18 : PySem.W.keepIn K (.ref f18) = true)
    {f19 : Addr} {od19 an19 : Option Addr} {sl19 : Array (Option Value)} {oc19 kV19 dc19 pm19 cd19 ct19 : Value} (a19 : PySem.W.nsIn K mainGlobals "_law_steadied" = some (some (.ref f19)))
    (l19 : K.lookup f19 = some ⟨oc19, od19, .func (PySem.W.fnOf "_law_steadied" "_law_steadied" (defArgs s__law_steadied) (defBody s__law_steadied) (defScope s__law_steadied) .none kV19 dc19 pm19 an19 cd19 ct19), sl19⟩) (c19 : PySem.W.codeIn K cd19 "_law_steadied" = true) (k19 : PySem.W.keepIn K (.ref f19) = true)
    {f20 : Addr} {od20 an20 : Option Addr} {sl20 : Array (Option Value)} {oc20 kV20 dc20 pm20 cd20 ct20 : Value} (a20 : PySem.W.nsIn K mainGlobals "triples" = some (some (.ref f20)))
    (l20 : K.lookup f20 = some ⟨oc20, od20, .func (PySem.W.fnOf "triples" "triples" (defArgs s_triples) (defBody s_triples) (defScope s_triples) .none kV20 dc20 pm20 an20 cd20 ct20), sl20⟩) (c20 : PySem.W.codeIn K cd20 "triples" = true) (k20 : PySem.W.keepIn K (.ref f20) = true)
    {f21 : Addr} {od21 an21 : Option Addr} {sl21 : Array (Option Value)} {oc21 kV21 dc21 pm21 cd21 ct21 : Value} (a21 : PySem.W.nsIn K mainGlobals "all_changes" = some (some (.ref f21)))
    (l21 : K.lookup f21 = some ⟨oc21, od21, .func (PySem.W.fnOf "all_changes" "all_changes" (defArgs s_all_changes) (defBody s_all_changes) (defScope s_all_changes) .none kV21 dc21 pm21 an21 cd21 ct21), sl21⟩) (c21 : PySem.W.codeIn K cd21 "all_changes" = true) (k21 : PySem.W.keepIn K (.ref f21) = true)
    {f22 : Addr} {od22 an22 : Option Addr} {sl22 : Array (Option Value)} {oc22 kV22 dc22 pm22 cd22 ct22 : Value} (a22 : PySem.W.nsIn K mainGlobals "_law_frame" = some (some (.ref f22)))
    (l22 : K.lookup f22 = some ⟨oc22, od22, .func (PySem.W.fnOf "_law_frame" "_law_frame" (defArgs s__law_frame) (defBody s__law_frame) (defScope s__law_frame) .none kV22 dc22 pm22 an22 cd22 ct22), sl22⟩) (c22 : PySem.W.codeIn K cd22 "_law_frame" = true) (k22 : PySem.W.keepIn K (.ref f22) = true)
    {f23 : Addr} {od23 an23 : Option Addr} {sl23 : Array (Option Value)} {oc23 kV23 dc23 pm23 cd23 ct23 : Value} (a23 : PySem.W.nsIn K mainGlobals "_law_hung" = some (some (.ref f23)))
    (l23 : K.lookup f23 = some ⟨oc23, od23, .func (PySem.W.fnOf "_law_hung" "_law_hung" (defArgs s__law_hung) (defBody s__law_hung) (defScope s__law_hung) .none kV23 dc23 pm23 an23 cd23 ct23), sl23⟩) (c23 : PySem.W.codeIn K cd23 "_law_hung" = true) (k23 : PySem.W.keepIn K (.ref f23) = true)
    {f24 : Addr} {od24 an24 : Option Addr} {sl24 : Array (Option Value)} {oc24 kV24 dc24 pm24 cd24 ct24 : Value} (a24 : PySem.W.nsIn K mainGlobals "_law_chain" = some (some (.ref f24)))
    (l24 : K.lookup f24 = some ⟨oc24, od24, .func (PySem.W.fnOf "_law_chain" "_law_chain" (defArgs s__law_chain) (defBody s__law_chain) (defScope s__law_chain) .none kV24 dc24 pm24 an24 cd24 ct24), sl24⟩) (c24 : PySem.W.codeIn K cd24 "_law_chain" = true) (k24 : PySem.W.keepIn K (.ref f24) = true)
    {f25 : Addr} {od25 an25 : Option Addr} {sl25 : Array (Option Value)} {oc25 kV25 dc25 pm25 cd25 ct25 : Value} (a25 : PySem.W.nsIn K mainGlobals "changes" = some (some (.ref f25)))
    (l25 : K.lookup f25 = some ⟨oc25, od25, .func (PySem.W.fnOf "changes" "changes" (defArgs s_changes) (defBody s_changes) (defScope s_changes) .none kV25 dc25 pm25 an25 cd25 ct25), sl25⟩) (c25 : PySem.W.codeIn K cd25 "changes" = true) (k25 : PySem.W.keepIn K (.ref f25) = true)
    {f26 : Addr} {od26 an26 : Option Addr} {sl26 : Array (Option Value)} {oc26 kV26 dc26 pm26 cd26 ct26 : Value} (a26 : PySem.W.nsIn K mainGlobals "hangs_on" = some (some (.ref f26)))
    (l26 : K.lookup f26 = some ⟨oc26, od26, .func (PySem.W.fnOf "hangs_on" "hangs_on" (defArgs s_hangs_on) (defBody s_hangs_on) (defScope s_hangs_on) .none kV26 dc26 pm26 an26 cd26 ct26), sl26⟩) (c26 : PySem.W.codeIn K cd26 "hangs_on" = true) (k26 : PySem.W.keepIn K (.ref f26) = true)
    {f27 : Addr} {od27 an27 : Option Addr} {sl27 : Array (Option Value)} {oc27 kV27 dc27 pm27 cd27 ct27 : Value} (a27 : PySem.W.nsIn K mainGlobals "sure_part" = some (some (.ref f27)))
    (l27 : K.lookup f27 = some ⟨oc27, od27, .func (PySem.W.fnOf "sure_part" "sure_part" (defArgs s_sure_part) (defBody s_sure_part) (defScope s_sure_part) .none kV27 dc27 pm27 an27 cd27 ct27), sl27⟩) (c27 : PySem.W.codeIn K cd27 "sure_part" = true) (k27 : PySem.W.keepIn K (.ref f27) = true)
    {f28 : Addr} {od28 an28 : Option Addr} {sl28 : Array (Option Value)} {oc28 kV28 dc28 pm28 cd28 ct28 : Value} (a28 : PySem.W.nsIn K mainGlobals "_law_is_told" = some (some (.ref f28)))
    (l28 : K.lookup f28 = some ⟨oc28, od28, .func (PySem.W.fnOf "_law_is_told" "_law_is_told" (defArgs s__law_is_told) (defBody s__law_is_told) (defScope s__law_is_told) .none kV28 dc28 pm28 an28 cd28 ct28), sl28⟩) (c28 : PySem.W.codeIn K cd28 "_law_is_told" = true) (k28 : PySem.W.keepIn K (.ref f28) = true)
    {f29 : Addr} {od29 an29 : Option Addr} {sl29 : Array (Option Value)} {oc29 kV29 dc29 pm29 cd29 ct29 : Value} (a29 : PySem.W.nsIn K mainGlobals "law" = some (some (.ref f29)))
    (l29 : K.lookup f29 = some ⟨oc29, od29, .func (PySem.W.fnOf "law" "law" (defArgs s_law) (defBody s_law) (defScope s_law) .none kV29 dc29 pm29 an29 cd29 ct29), sl29⟩) (c29 : PySem.W.codeIn K cd29 "law" = true) (k29 : PySem.W.keepIn K (.ref f29) = true)
    : ∃ fd : FuncData, (∀ (s : Shared) (u : Value), BindsTo s fd ⟨[u], []⟩ [("script", u)]) ∧ ∀ base : Heap, K.In base → base.Ns mainGlobals mg → FnG P w K mg base 8 fa fd ["script"] (spZ K mg F_law 1) := by
  have e := hfa.symm.trans (PySem.W.mg_of X G a29)
  cases e
  let fx : FX K mg :=
    { n_abs := PySem.W.mg_none_of X G z_abs,
      n_any := PySem.W.mg_none_of X G z_any,
      n_enumerate := PySem.W.mg_none_of X G z_enumerate,
      n_int := PySem.W.mg_none_of X G z_int,
      n_len := PySem.W.mg_none_of X G z_len,
      n_list := PySem.W.mg_none_of X G z_list,
      n_max := PySem.W.mg_none_of X G z_max,
      n_min := PySem.W.mg_none_of X G z_min,
      n_range := PySem.W.mg_none_of X G z_range,
      n_repr := PySem.W.mg_none_of X G z_repr,
      n_set := PySem.W.mg_none_of X G z_set,
      n_sorted := PySem.W.mg_none_of X G z_sorted,
      n_tuple := PySem.W.mg_none_of X G z_tuple,
      a_jumps_of := f0, d_jumps_of := _, f_jumps_of := fun_mk (st := s_jumps_of) l0 c0 k0, m_jumps_of := PySem.W.mg_of X G a0,
      b_jumps_of := (fun_mk (st := s_jumps_of) l0 c0 k0).binds (ps := ["skeleton"]) (fun _ _ _ _ _ _ us hl => match us, hl with | [_], _ => rfl),
      a_in_way := f1, d_in_way := _, f_in_way := fun_mk (st := s_in_way) l1 c1 k1, m_in_way := PySem.W.mg_of X G a1,
      b_in_way := (fun_mk (st := s_in_way) l1 c1 k1).binds (ps := ["skeleton", "jump"]) (fun _ _ _ _ _ _ us hl => match us, hl with | [_, _], _ => rfl),
      a_ahead_of_way := f2, d_ahead_of_way := _, f_ahead_of_way := fun_mk (st := s_ahead_of_way) l2 c2 k2, m_ahead_of_way := PySem.W.mg_of X G a2,
      b_ahead_of_way := (fun_mk (st := s_ahead_of_way) l2 c2 k2).binds (ps := ["skeleton", "jump"]) (fun _ _ _ _ _ _ us hl => match us, hl with | [_, _], _ => rfl),
      a_growth := f3, d_growth := _, f_growth := fun_mk (st := s_growth) l3 c3 k3, m_growth := PySem.W.mg_of X G a3,
      b_growth := (fun_mk (st := s_growth) l3 c3 k3).binds (ps := ["item"]) (fun _ _ _ _ _ _ us hl => match us, hl with | [_], _ => rfl),
      a_is_kept_away := f4, d_is_kept_away := _, f_is_kept_away := fun_mk (st := s_is_kept_away) l4 c4 k4, m_is_kept_away := PySem.W.mg_of X G a4,
      b_is_kept_away := (fun_mk (st := s_is_kept_away) l4 c4 k4).binds (ps := ["skeleton", "other", "fill"]) (fun _ _ _ _ _ _ us hl => match us, hl with | [_, _, _], _ => rfl),
      a_ends_of_way := f5, d_ends_of_way := _, f_ends_of_way := fun_mk (st := s_ends_of_way) l5 c5 k5, m_ends_of_way := PySem.W.mg_of X G a5,
      b_ends_of_way := (fun_mk (st := s_ends_of_way) l5 c5 k5).binds (ps := ["skeleton", "jump"]) (fun _ _ _ _ _ _ us hl => match us, hl with | [_, _], _ => rfl),
      a_roundings := f6, d_roundings := _, f_roundings := fun_mk (st := s_roundings) l6 c6 k6, m_roundings := PySem.W.mg_of X G a6,
      b_roundings := (fun_mk (st := s_roundings) l6 c6 k6).binds (ps := ["shift", "a"]) (fun _ _ _ _ _ _ us hl => match us, hl with | [_, _], _ => rfl),
      a__law_loom := f7, d__law_loom := _, f__law_loom := fun_mk (st := s__law_loom) l7 c7 k7, m__law_loom := PySem.W.mg_of X G a7,
      b__law_loom := (fun_mk (st := s__law_loom) l7 c7 k7).binds (ps := ["script"]) (fun _ _ _ _ _ _ us hl => match us, hl with | [_], _ => rfl),
      a__law_draw := f8, d__law_draw := _, f__law_draw := fun_mk (st := s__law_draw) l8 c8 k8, m__law_draw := PySem.W.mg_of X G a8,
      b__law_draw := (fun_mk (st := s__law_draw) l8 c8 k8).binds (ps := ["loom", "many"]) (fun _ _ _ _ _ _ us hl => match us, hl with | [_, _], _ => rfl),
      a__law_jumps := f9, d__law_jumps := _, f__law_jumps := fun_mk (st := s__law_jumps) l9 c9 k9, m__law_jumps := PySem.W.mg_of X G a9,
      b__law_jumps := (fun_mk (st := s__law_jumps) l9 c9 k9).binds (ps := ["frame"]) (fun _ _ _ _ _ _ us hl => match us, hl with | [_], _ => rfl),
      a__law_top := f10, d__law_top := _, f__law_top := fun_mk (st := s__law_top) l10 c10 k10, m__law_top := PySem.W.mg_of X G a10,
      b__law_top := (fun_mk (st := s__law_top) l10 c10 k10).binds (ps := ["frame"]) (fun _ _ _ _ _ _ us hl => match us, hl with | [_], _ => rfl),
      a__law_goes := f11, d__law_goes := _, f__law_goes := fun_mk (st := s__law_goes) l11 c11 k11, m__law_goes := PySem.W.mg_of X G a11,
      b__law_goes := (fun_mk (st := s__law_goes) l11 c11 k11).binds (ps := ["pairs", "items"]) (fun _ _ _ _ _ _ us hl => match us, hl with | [_, _], _ => rfl),
      a__law_sure := f12, d__law_sure := _, f__law_sure := fun_mk (st := s__law_sure) l12 c12 k12, m__law_sure := PySem.W.mg_of X G a12,
      b__law_sure := (fun_mk (st := s__law_sure) l12 c12 k12).binds (ps := ["threes", "hung"]) (fun _ _ _ _ _ _ us hl => match us, hl with | [_, _], _ => rfl),
      a_is_triple := f13, d_is_triple := _, f_is_triple := fun_mk (st := s_is_triple) l13 c13 k13, m_is_triple := PySem.W.mg_of X G a13,
      b_is_triple := (fun_mk (st := s_is_triple) l13 c13 k13).binds (ps := ["skeleton", "fill", "other"]) (fun _ _ _ _ _ _ us hl => match us, hl with | [_, _, _], _ => rfl),
      a_shifts_behind := f14, d_shifts_behind := _, f_shifts_behind := fun_mk (st := s_shifts_behind) l14 c14 k14, m_shifts_behind := PySem.W.mg_of X G a14,
      b_shifts_behind := (fun_mk (st := s_shifts_behind) l14 c14 k14).binds (ps := ["skeleton", "first", "behind", "shift"]) (fun _ _ _ _ _ _ us hl => match us, hl with | [_, _, _, _], _ => rfl),
      a__law_pick := f15, d__law_pick := _, f__law_pick := fun_mk (st := s__law_pick) l15 c15 k15, m__law_pick := PySem.W.mg_of X G a15,
      b__law_pick := (fun_mk (st := s__law_pick) l15 c15 k15).binds (ps := ["loom", "things"]) (fun _ _ _ _ _ _ us hl => match us, hl with | [_, _], _ => rfl),
      a__law_mixed := f16, d__law_mixed := _, f__law_mixed := fun_mk (st := s__law_mixed) l16 c16 k16, m__law_mixed := PySem.W.mg_of X G a16,
      b__law_mixed := (fun_mk (st := s__law_mixed) l16 c16 k16).binds (ps := ["loom", "things"]) (fun _ _ _ _ _ _ us hl => match us, hl with | [_, _], _ => rfl),
      a__law_triples := f17, d__law_triples := _, f__law_triples := fun_mk (st := s__law_triples) l17 c17 k17, m__law_triples := PySem.W.mg_of X G a17,
      b__law_triples := (fun_mk (st := s__law_triples) l17 c17 k17).binds (ps := ["frame"]) (fun _ _ _ _ _ _ us hl => match us, hl with | [_], _ => rfl),
      a__law_changed := f18, d__law_changed := _, f__law_changed := fun_mk (st := s__law_changed) l18 c18 k18, m__law_changed := PySem.W.mg_of X G a18,
      b__law_changed := (fun_mk (st := s__law_changed) l18 c18 k18).binds (ps := ["frame", "mate", "at"]) (fun _ _ _ _ _ _ us hl => match us, hl with | [_, _, _], _ => rfl),
      a__law_steadied := f19, d__law_steadied := _, f__law_steadied := fun_mk (st := s__law_steadied) l19 c19 k19, m__law_steadied := PySem.W.mg_of X G a19,
      b__law_steadied := (fun_mk (st := s__law_steadied) l19 c19 k19).binds (ps := ["loom", "frame"]) (fun _ _ _ _ _ _ us hl => match us, hl with | [_, _], _ => rfl),
      a_triples := f20, d_triples := _, f_triples := fun_mk (st := s_triples) l20 c20 k20, m_triples := PySem.W.mg_of X G a20,
      b_triples := (fun_mk (st := s_triples) l20 c20 k20).binds (ps := ["skeleton"]) (fun _ _ _ _ _ _ us hl => match us, hl with | [_], _ => rfl),
      a_all_changes := f21, d_all_changes := _, f_all_changes := fun_mk (st := s_all_changes) l21 c21 k21, m_all_changes := PySem.W.mg_of X G a21,
      b_all_changes := (fun_mk (st := s_all_changes) l21 c21 k21).binds (ps := ["skeleton", "other", "jump"]) (fun _ _ _ _ _ _ us hl => match us, hl with | [_, _, _], _ => rfl),
      a__law_frame := f22, d__law_frame := _, f__law_frame := fun_mk (st := s__law_frame) l22 c22 k22, m__law_frame := PySem.W.mg_of X G a22,
      b__law_frame := (fun_mk (st := s__law_frame) l22 c22 k22).binds (ps := ["loom", "jumps", "fills", "labels", "top", "growth_v"]) (fun _ _ _ _ _ _ us hl => match us, hl with | [_, _, _, _, _, _], _ => rfl),
      a__law_hung := f23, d__law_hung := _, f__law_hung := fun_mk (st := s__law_hung) l23 c23 k23, m__law_hung := PySem.W.mg_of X G a23,
      b__law_hung := (fun_mk (st := s__law_hung) l23 c23 k23).binds (ps := ["frame"]) (fun _ _ _ _ _ _ us hl => match us, hl with | [_], _ => rfl),
      a__law_chain := f24, d__law_chain := _, f__law_chain := fun_mk (st := s__law_chain) l24 c24 k24, m__law_chain := PySem.W.mg_of X G a24,
      b__law_chain := (fun_mk (st := s__law_chain) l24 c24 k24).binds (ps := ["loom"]) (fun _ _ _ _ _ _ us hl => match us, hl with | [_], _ => rfl),
      a_changes := f25, d_changes := _, f_changes := fun_mk (st := s_changes) l25 c25 k25, m_changes := PySem.W.mg_of X G a25,
      b_changes := (fun_mk (st := s_changes) l25 c25 k25).binds (ps := ["skeleton", "other", "jump"]) (fun _ _ _ _ _ _ us hl => match us, hl with | [_, _, _], _ => rfl),
      a_hangs_on := f26, d_hangs_on := _, f_hangs_on := fun_mk (st := s_hangs_on) l26 c26 k26, m_hangs_on := PySem.W.mg_of X G a26,
      b_hangs_on := (fun_mk (st := s_hangs_on) l26 c26 k26).binds (ps := ["skeleton", "jump"]) (fun _ _ _ _ _ _ us hl => match us, hl with | [_, _], _ => rfl),
      k_hangs_on_jump_skeleton := (fun s us hl => match us, hl with | [_, _], _ => .of_eq rfl),
      a_sure_part := f27, d_sure_part := _, f_sure_part := fun_mk (st := s_sure_part) l27 c27 k27, m_sure_part := PySem.W.mg_of X G a27,
      b_sure_part := (fun_mk (st := s_sure_part) l27 c27 k27).binds (ps := ["skeleton"]) (fun _ _ _ _ _ _ us hl => match us, hl with | [_], _ => rfl),
      k_sure_part_skeleton := (fun s us hl => match us, hl with | [_], _ => .of_eq rfl),
      a__law_is_told := f28, d__law_is_told := _, f__law_is_told := fun_mk (st := s__law_is_told) l28 c28 k28, m__law_is_told := PySem.W.mg_of X G a28,
      b__law_is_told := (fun_mk (st := s__law_is_told) l28 c28 k28).binds (ps := ["frame", "turn"]) (fun _ _ _ _ _ _ us hl => match us, hl with | [_, _], _ => rfl),
      a_law := fa, d_law := _, f_law := fun_mk (st := s_law) l29 c29 k29, m_law := PySem.W.mg_of X G a29,
      b_law := (fun_mk (st := s_law) l29 c29 k29).binds (ps := ["script"]) (fun _ _ _ _ _ _ us hl => match us, hl with | [_], _ => rfl) }
  exact ⟨fx.d_law, fun s u => .of_eq rfl, fun base _ _ => ok_law fx⟩
end
end ZL

namespace ZL
open PySem PySem.Spec PyProof.Rows L2 Z
theorem e_jumps_of {xs : List Itm} (h : xs.length ≤ 1000) (M : Store) : F_jumps_of [.p (sk xs)] M = .ok (.p (.tuple (pnats (places Itm.isJ xs)))) M := by
  apply fn_rt0
  simp [c_jumps_of, wipeS]
  rw [compP_map (M := M) _ (fun q => q.1.isJ) (fun q => .p (.int (q.2 : Nat)))]
  · have hz := small (Nat.le_trans (zlen_places Itm.isJ xs) h)
    simp [hz, pnats, places]
  · intro q _
    simp
theorem e_in_way {xs : List Itm} {j g : Nat} {s l : Int} (hx : xs[j]? = some (.jmp g s l)) (h : xs.length ≤ 1000) (hg : g ≤ 1000) (M : Store) :
    F_in_way [.p (sk xs), .p (.int (j : Int))] M = .ok (.p (.tuple (rgP (min (j : Int) g + 1) (max (j : Int) g)))) M := by
  apply fn_rt0
  have hj := (List.getElem?_eq_some_iff.mp hx).1
  have hr : rgIn (min (j : Int) g + 1) (max (j : Int) g) = true := by
    unfold rgIn; simp only [Bool.and_eq_true, decide_eq_true_eq]; omega
  simp [c_in_way, ix_sk M hx, Itm.enc, hr]
theorem e_ahead {xs : List Itm} {j g : Nat} {s l : Int} (hx : xs[j]? = some (.jmp g s l)) (h : xs.length ≤ 1000) (hg : g ≤ 1000) (M : Store) :
    F_ahead_of_way [.p (sk xs), .p (.int (j : Int))] M = .ok (.p (.tuple (rgP 0 (min (j : Int) g)))) M := by
  apply fn_rt0
  have hj := (List.getElem?_eq_some_iff.mp hx).1
  have hr : rgIn 0 (min (j : Int) g) = true := by
    unfold rgIn; simp only [Bool.and_eq_true, decide_eq_true_eq]; omega
  simp [c_ahead_of_way, ix_sk M hx, Itm.enc, hr]
def szAt (xs : List Itm) (p : Nat) : Int := match xs[p]? with
  | some x => x.sz
  | none => 0
def JSane (xs : List Itm) : Prop := xs.length ≤ 1000 ∧ ∀ (j g : Nat) (s l : Int), xs[j]? = some (.jmp g s l) → g ≤ xs.length
def goal (xs : List Itm) (j : Nat) : Nat := match xs[j]? with
  | some (.jmp g _ _) => g
  | _ => 0
def shortOf (xs : List Itm) (j : Nat) : Int := match xs[j]? with
  | some (.jmp _ s _) => s
  | _ => 0
def longOf (xs : List Itm) (j : Nat) : Int := match xs[j]? with
  | some (.jmp _ _ l) => l
  | _ => 0
theorem jmp_at {xs : List Itm} {j : Nat} (h : j ∈ places Itm.isJ xs) : xs[j]? = some (.jmp (goal xs j) (shortOf xs j) (longOf xs j)) := by
  obtain ⟨x, e, hx⟩ := mem_places.mp h
  cases x with
  | jmp g s l => simp [goal, shortOf, longOf, e]
  | _ => cases hx
theorem len_places (p : Itm → Bool) (xs : List Itm) : (places p xs).length ≤ xs.length := by
  unfold places
  rw [List.length_map]
  exact zlen_places p xs
theorem goal_le {xs : List Itm} (h : JSane xs) {j : Nat} (hj : j ∈ places Itm.isJ xs) : goal xs j ≤ xs.length := h.2 _ _ _ _ (jmp_at hj)
def isFat (xs : List Itm) (p : Nat) : Bool := match xs[p]? with
  | some x => x.isF
  | none => false
end ZL

namespace ZL
open PySem PySem.Spec PyProof.Rows L2 Z
theorem e_law_jumps {xs : List Itm} (h : xs.length ≤ 1000) (M : Store) : F__law_jumps [.p (sk xs)] M = .ok (.p (.list (pnats (places Itm.isJ xs)))) M := by
  apply fn_rt0
  simp [c__law_jumps, wipeS]
  rw [compP_map (M := M) _ (fun q => q.1.isJ) (fun q => .p (.int (q.2 : Nat)))]
  · have hz := small (Nat.le_trans (zlen_places Itm.isJ xs) h)
    simp [hz, pnats, places]
  · intro q _
    simp
end ZL

namespace ZL
open PySem PySem.Spec PyProof.Rows L2 Z
/-- the loom's state -/
structure Stq where
  far : List Int
  stir : Int
  times : Int
def Stq.ok (q : Stq) : Prop := q.far.length ≤ 63
def kF : Key := .inr (Str.ofString "far")
def kS : Key := .inr (Str.ofString "stirred")
def kT : Key := .inr (Str.ofString "times")
def loomD (q : Stq) : List (Key × D) := [(kF, .ref 0), (kS, .p (.int q.stir)), (kT, .p (.int q.times))]
def St (q : Stq) : Store := [.lst ((pints q.far).map .p), .dic (loomD q)]
theorem St_len (q : Stq) : (St q).length = 2 := rfl
theorem cm_r (a : Int) {j : Int} (h : -1000000000000 < j ∧ j < 1000000000000) : CMul a j := .inr (by omega)
theorem cm_l {a : Int} (j : Int) (h : -1000000000000 < a ∧ a < 1000000000000) : CMul a j := .inl (by omega)
theorem cm_sq1 (x : Int) : CMul (x % 4294967279) (x % 4294967279) := .inr (by have := Int.emod_nonneg x (b := 4294967279) (by decide); have := Int.emod_lt_of_pos x (b := 4294967279) (by decide); omega)
theorem cm_sq2 (x : Int) : CMul (x % 4294967231) (x % 4294967231) := .inr (by have := Int.emod_nonneg x (b := 4294967231) (by decide); have := Int.emod_lt_of_pos x (b := 4294967231) (by decide); omega)
theorem k_fs : decide (kF = kS) = false := by decide +kernel
theorem k_ft : decide (kF = kT) = false := by decide +kernel
theorem k_st : decide (kS = kT) = false := by decide +kernel
theorem lo_ix {q : Stq} {Q : Store} {x : Str} {d : D} (h : valD (loomD q) (.inr x) = some d) : zIx (.ref 1) (.p (.str x)) (St q ++ Q) = .ok d (St q ++ Q) := by
  have e : dictv (St q ++ Q) (.ref 1) = some (loomD q) := rfl
  unfold zIx
  simp only [e, kOf, h]
theorem v_far (q : Stq) : valD (loomD q) kF = some (.ref 0) := by
  unfold valD loomD
  rw [List.find?_cons]
  simp
theorem v_stir (q : Stq) : valD (loomD q) kS = some (.p (.int q.stir)) := by
  unfold valD loomD
  rw [List.find?_cons, List.find?_cons]
  simp only [k_fs]
  simp
theorem v_times (q : Stq) : valD (loomD q) kT = some (.p (.int q.times)) := by
  unfold valD loomD
  rw [List.find?_cons, List.find?_cons, List.find?_cons]
  simp only [k_ft, k_st]
  simp
theorem lo_far (q : Stq) (Q : Store) : zIx (.ref 1) (.p (.str (Str.ofString "far"))) (St q ++ Q) = .ok (.ref 0) (St q ++ Q) := lo_ix (v_far q)
theorem lo_stir (q : Stq) (Q : Store) : zIx (.ref 1) (.p (.str (Str.ofString "stirred"))) (St q ++ Q) = .ok (.p (.int q.stir)) (St q ++ Q) := lo_ix (v_stir q)
theorem lo_times (q : Stq) (Q : Store) : zIx (.ref 1) (.p (.str (Str.ofString "times"))) (St q ++ Q) = .ok (.p (.int q.times)) (St q ++ Q) := lo_ix (v_times q)
theorem lo_put (q : Stq) (Q : Store) (t : Int) : zDput (.ref 1) (.p (.str (Str.ofString "times"))) (.p (.int t)) (St q ++ Q) = some (St ⟨q.far, q.stir, t⟩ ++ Q) := by
  have e : (St q ++ Q)[1]? = some (.dic (loomD q)) := rfl
  unfold zDput
  simp only [e, kOf]
  rw [if_pos ⟨rfl, by show 3 < sizeLine; rw [sizeLine_val]; decide⟩]
  have : putD (loomD q) kT (.p (.int t)) = loomD ⟨q.far, q.stir, t⟩ := by
    have n1 : ¬ kF = kT := of_decide_eq_false k_ft
    have n2 : ¬ kS = kT := of_decide_eq_false k_st
    unfold putD loomD
    simp [n1, n2]
  rw [show (.inr (Str.ofString "times") : Key) = kT from rfl, this]
  rfl
theorem e_draw0 (q : Stq) (hq : q.ok) (R : Store) {z : Int} (hz : 2 ≤ z) (hz' : z ≤ 100000) : ∃ i q', q'.ok ∧ F__law_draw [.ref 1, .p (.int z)] (St q ++ R) = .ok (.p (.int (i % z))) (St q' ++ R) := by
  obtain ⟨gr, stir, times⟩ := q
  have hq1 : gr.length ≤ 63 := hq
  have fin : ∀ (q' : Stq), q'.ok → (∃ i, c__law_draw ([D.ref 1, D.p (.int z)].map some ++ List.replicate (4 - 2) none) (St ⟨gr, stir, times⟩ ++ R) = .rt (.p (.int (i % z))) (St q' ++ R)) →
      ∃ i q', q'.ok ∧ F__law_draw [.ref 1, .p (.int z)] (St ⟨gr, stir, times⟩ ++ R) = .ok (.p (.int (i % z))) (St q' ++ R) := fun q' ok ⟨i, e⟩ => by
    have e2 := fn_rt (n := 4) (ds := [D.ref 1, D.p (.int z)]) e
    rw [List.take_of_length_le (by simp [St])] at e2
    exact ⟨i, q', ok, e2⟩
  have a0 : ∀ (q : Stq) (Q : Store), lstAt (St q ++ Q) 0 = some ((pints q.far).map .p) := fun q Q => rfl
  have l0 : ∀ q Q, lstv (St q ++ Q) (.ref 0) = some ((pints q.far).map .p) := fun q Q => rfl
  have ne : ∀ q Q, zNe (.ref 0) (.p (.list [])) (St q ++ Q) = .ok (.p (.bool (!decide (q.far = [])))) (St q ++ Q) := fun q Q => zNe_ref (a0 q Q)
  have hn : 0 < z ∧ z < 1073741824 := by omega
  have hz2 : ¬ z < 2 := by omega
  rcases List.eq_nil_or_concat gr with e | ⟨gs, g, e⟩
  · subst e
    refine fin ⟨[], stir, times + 1⟩ (Nat.zero_le _) ?_
    simp [c__law_draw, hz2, lo_far, lo_stir, lo_times, lo_put, ne, l0, mkLstF, hn, cm_r, cm_l, cm_sq1, cm_sq2]
    exact ⟨_, rfl⟩
  · rw [List.concat_eq_append] at e
    subst e
    have po : zPop (.ref 0) [] (St ⟨gs ++ [g], stir, times⟩ ++ R) = .ok (.p (.int g)) (St ⟨gs, stir, times⟩ ++ R) := by
      rw [zPop_r (ds := (pints gs).map .p) (d := .p (.int g)) (by rw [a0, dp_snoc])]
      rfl
    have hl : gs.length + 1 ≤ 63 := by simpa using hq1
    have ap : zAppend (.ref 0) [.p (.int (g / z))] (St ⟨gs, stir, times⟩ ++ R) = .ok (.p .none) (St ⟨gs ++ [g / z], stir, times⟩ ++ R) := by
      rw [zAppend_e, a0]
      simp only [List.length_map, pints_len]
      rw [if_pos (by simp; omega), dp_snoc]
      rfl
    by_cases hg : z ≤ g
    · refine fin ⟨gs ++ [g / z], stir, times⟩ (by show (gs ++ [g / z]).length ≤ 63; simpa using hq1) ⟨g, ?_⟩
      simp [c__law_draw, -zAppend_e, hz2, lo_far, ne, l0, po, hg, mkLstF, hn, ap]
    · refine fin ⟨gs, stir, times⟩ (by show gs.length ≤ 63; omega) ⟨g, ?_⟩
      simp [c__law_draw, hz2, lo_far, ne, l0, po, hg, mkLstF, hn]
theorem e_draw (q : Stq) (hq : q.ok) (R : Store) {n : Nat} (h : 0 < n) (h' : n ≤ 100000) : ∃ k q', k < n ∧ q'.ok ∧ F__law_draw [.ref 1, .p (.int (n : Int))] (St q ++ R) = .ok (.p (.int (k : Nat))) (St q' ++ R) := by
  by_cases h2 : n < 2
  · refine ⟨0, q, h, hq, ?_⟩
    have hn : n = 1 := by omega
    subst hn
    have e : c__law_draw ([D.ref 1, D.p (.int ((1 : Nat) : Int))].map some ++ List.replicate (4 - 2) none) (St q ++ R) = .rt (.p (.int ((0 : Nat) : Int))) (St q ++ R) := by
      simp [c__law_draw]
    have e2 := fn_rt (n := 4) (ds := [D.ref 1, D.p (.int ((1 : Nat) : Int))]) e
    rw [List.take_of_length_le (by simp [St])] at e2
    exact e2
  · obtain ⟨i, q', ok, e⟩ := e_draw0 q hq R (z := (n : Int)) (by omega) (by omega)
    have h0 := Int.emod_nonneg i (b := (n : Int)) (by omega)
    have h1 := Int.emod_lt_of_pos i (b := (n : Int)) (by omega)
    exact ⟨(i % (n : Int)).toNat, q', by omega, ok, by rw [Int.toNat_of_nonneg h0]; exact e⟩
/-- a draw of none or of less -/
theorem e_drawN (q : Stq) (hq : q.ok) (R : Store) {z : Int} (hz : z ≤ 100000) : ∃ (k : Nat) (q' : Stq), ((k : Int) < z ∨ k = 0) ∧ q'.ok ∧ F__law_draw [.ref 1, .p (.int z)] (St q ++ R) = .ok (.p (.int (k : Nat))) (St q' ++ R) := by
  by_cases h2 : z < 2
  · refine ⟨0, q, .inr rfl, hq, ?_⟩
    have e : c__law_draw ([D.ref 1, D.p (.int z)].map some ++ List.replicate (4 - 2) none) (St q ++ R) = .rt (.p (.int ((0 : Nat) : Int))) (St q ++ R) := by
      simp [c__law_draw, h2]
    have e2 := fn_rt (n := 4) (ds := [D.ref 1, D.p (.int z)]) e
    rw [List.take_of_length_le (by simp [St])] at e2
    exact e2
  · obtain ⟨k, q', h, ok, e⟩ := e_draw q hq R (n := z.toNat) (by omega) (by omega)
    rw [Int.toNat_of_nonneg (by omega)] at e
    exact ⟨k, q', .inl (by omega), ok, e⟩
theorem e_pick (q : Stq) (hq : q.ok) (R : Store) {xs : List P} (h : 0 < xs.length) (h' : xs.length ≤ 100000) : ∃ x q', x ∈ xs ∧ q'.ok ∧ F__law_pick [.ref 1, .p (.list xs)] (St q ++ R) = .ok (.p x) (St q' ++ R) := by
  obtain ⟨k, q', hk, ok, e⟩ := e_draw q hq R h h'
  refine ⟨xs[k], q', List.getElem_mem hk, ok, ?_⟩
  have e2 : c__law_pick ([D.ref 1, D.p (.list xs)].map some ++ List.replicate (2 - 2) none) (St q ++ R) = .rt (.p xs[k]) (St q' ++ R) := by
    simp [c__law_pick, e, zIx_l _ (List.getElem?_eq_getElem hk)]
  have e3 := fn_rt (n := 2) (ds := [D.ref 1, D.p (.list xs)]) e2
  rw [List.take_of_length_le (by simp [St])] at e3
  exact e3
def lcell (i : Int) : Int := 2 * (if i < 0 then -i else i) + if i < 0 then 1 else 0
theorem e_stock (ns : List Int) (h : ns.length ≤ 63) : ∃ q, q.ok ∧ F__law_loom [.p (.list (pints ns))] [] = .ok (.ref 1) (St q) := by
  have cut : cutG ((pints ns).map D.p) none (some 63) = (pints ns).map D.p := by
    have := cutG__n ((pints ns).map D.p) 63
    rw [List.take_of_length_le (by simp; omega)] at this
    exact this
  have sl : ∀ M, zSl (.p (.list (pints ns))) none (some 63) M = .ok (.p (.list (pints ns))) M := fun M => by
    unfold zSl
    simp only [lstv_p, cut, frzl_map]
    rw [if_pos (by simp; omega)]
  have co : ∀ M d e, compP (tgN 3) ztyes (z2 zAdd (z2 zMul (zk (.int 2)) (zs zAbs (zcons (zv 3) znil))) (zs zInt (zcons (z2 zLt (zv 3) (zk (.int 0))) znil))) [d, e, none, none] ((pints ns).map .p) M = .ok ((pints (ns.map lcell)).map .p) M := fun M d e => by
    rw [dp_pints, compP_map (M := M) (fun i : Int => D.p (.int i)) (fun _ => true) (fun i => D.p (.int (lcell i)))]
    · rw [List.filter_eq_self.mpr fun _ _ => rfl]
      simp [pints]
    · intro i _
      refine ⟨_, rfl, rfl, fun _ => ?_⟩
      by_cases hi : i < 0
      · simp [zAbs, zInt, hi, lcell, show ∀ a, CMul 2 a from fun a => .inl (by omega)]
      · simp [zAbs, zInt, hi, lcell, show ∀ a, CMul 2 a from fun a => .inl (by omega)]
  obtain ⟨cs, hcs⟩ : ∃ cs, cs = ns.map lcell := ⟨_, rfl⟩
  have hcl : cs.length ≤ 63 := by rw [hcs, List.length_map]; exact h
  rw [← hcs] at co
  have co2 : ∀ M d e, compP (tgN 3) (zt (z2 zGe (zv 3) (z2 zPow (zk (.int 10)) (zk (.int 15))))) (zv 3) [d, some (.p (.list (pints cs))), e, none] ((pints cs).map .p) M = .ok ((pints (cs.filter fun i => decide (10 ^ 15 ≤ i))).map .p) M := fun M d e => by
    rw [dp_pints, compP_map (M := M) (fun i : Int => D.p (.int i)) (fun i => decide (10 ^ 15 ≤ i)) (fun i => D.p (.int i)), dp_pints]
    intro i _
    refine ⟨_, rfl, ?_, fun _ => rfl⟩
    have hp : zPow (.p (.int 10)) (.p (.int 15)) M = .ok (.p (.int (10 ^ 15))) M := by
      unfold zPow
      simp only
      rw [if_pos ⟨by decide, by decide, by decide⟩]
      rfl
    simp [hp]
  obtain ⟨gr, hgr⟩ : ∃ gr, gr = cs.filter fun i => decide (10 ^ 15 ≤ i) := ⟨_, rfl⟩
  have hgl : gr.length ≤ 63 := by rw [hgr]; exact Nat.le_trans (List.length_filter_le _ _) hcl
  rw [← hgr] at co2
  have fz : ∀ M, frzl ((pints cs).map .p) M = .ok (.p (.list (pints cs))) M := fun M => by rw [frzl_map, if_pos (by simp; omega)]
  have ln : ∀ M, zLen [.p (.list (pints ns))] M = .ok (.p (.int ns.length)) M := fun M => by rw [zLen_l, List.length_map, pints_len]
  have it : ∀ M, itemsOf (.p (.list (pints cs))) M = .ok ((pints cs).map .p) M := fun M => rfl
  have it2 : ∀ M, itemsOf (.p (.list (pints ns))) M = .ok ((pints ns).map .p) M := fun M => rfl
  obtain ⟨k, hk⟩ : ∃ k : Int, k = ns.length := ⟨_, rfl⟩
  rw [← hk] at ln
  have main : Sat (fun o => ∃ q : Stq, q.ok ∧ o = .rt (.ref 1) (St q)) (c__law_loom ([D.p (.list (pints ns))].map some ++ List.replicate (4 - 1) none) []) := by
    refine sat_any fun Φ hΦ => ?_
    simp [-frzl_map, -zLen_l, -itemsOf_l, -List.map_map, c__law_loom, sl, wipeS, it2, co, fz, ln, it, show ∀ a, CMul 7 a from fun a => .inl (by omega)]
    simp only [dp_pints]
    refine forP_seq _ _ (fun done sl M' => ∃ (s : Int) (d3 : Option D), sl = [some (.p (.list (pints ns))), some (.p (.list (pints cs))), some (.p (.int s)), d3] ∧ M' = []) ⟨_, _, rfl, rfl⟩ ?_ ?_
    · rintro done c rest sl' M' e ⟨s, d3, rfl, rfl⟩
      refine ⟨_, rfl, ?_⟩
      simp [L__law_loom_1, zInt, cm_r, Sat]
    · rintro sl' M' ⟨s, d3, rfl, rfl⟩
      have hz : gr.length ≤ 16777216 := by omega
      have en : keyedD [(.str (Str.ofString "far"), .ref 0), (.str (Str.ofString "stirred"), .p (.int s)), (.str (Str.ofString "times"), .p (.int 0))] = some (loomD ⟨gr, s, 0⟩) := rfl
      have mg : mergeD [] (loomD ⟨gr, s, 0⟩) = loomD ⟨gr, s, 0⟩ := by
        have n1 : ¬ kF = kS := of_decide_eq_false k_fs
        have n2 : ¬ kF = kT := of_decide_eq_false k_ft
        have n3 : ¬ kS = kT := of_decide_eq_false k_st
        unfold mergeD loomD
        simp [putD, n1, n2, n3]
      simp [-itemsOf_l, -List.map_map, zdisp, zpcons, zpnil, it, wipeS, co2, hz, en, mg]
      exact hΦ _ ⟨⟨gr, s, 0⟩, hgl, rfl⟩
  obtain ⟨q, okq, main⟩ := main
  refine ⟨q, okq, ?_⟩
  show Z.gc 0 (runB 4 c__law_loom _ _) = _
  unfold runB
  have main' : c__law_loom (List.map some [D.p (PyData.list (pints ns))] ++ List.replicate (4 - [D.p (PyData.list (pints ns))].length) none) [] = _ := main
  rw [main']
  rfl
end ZL

namespace ZL
open PySem PySem.Spec PyProof.Rows L2 Z
theorem zPopAt0 {M : Store} {i : Nat} {d : D} {ds : List D} (h : lstAt M i = some (d :: ds)) : zPopAt (.ref i) [.p (.int 0)] M = .ok d (M.set i (.lst ds)) := by
  unfold zPopAt
  simp only [h]
  have : ixN (d :: ds).length 0 = some 0 := by unfold ixN; rw [if_pos (by decide), if_pos (by simp)]; rfl
  simp only [this]
  rfl
def encs (xs : List Itm) : List D := xs.map fun x => D.p x.enc
theorem encs_snoc (acc : List Itm) (x : Itm) : encs acc ++ [D.p x.enc] = encs (acc ++ [x]) := by simp [encs]
theorem encs_len (acc : List Itm) : (encs acc).length = acc.length := by simp [encs]
/-- append to the list behind M -/
theorem app0 {M R : Store} {acc : List Itm} {x : Itm} (h : acc.length ≤ 1000) : zAppend (.ref M.length) [.p x.enc] (M ++ .lst (encs acc) :: R) = .ok (.p .none) (M ++ .lst (encs (acc ++ [x])) :: R) := by
  rw [zAppend_e]
  have : acc.length < 16777216 := by omega
  simp [encs_len, this, encs_snoc]
theorem len_J (xs : List Itm) : (places Itm.isJ xs).length = (xs.filter Itm.isJ).length := by
  unfold places
  rw [List.length_map]
  have : ∀ (xs : List Itm) (k : Nat), ((xs.zipIdx k).filter fun q => q.1.isJ).length = (xs.filter Itm.isJ).length := by
    intro xs
    induction xs with
    | nil => intro k; rfl
    | cons x xs ih => intro k; rw [List.zipIdx_cons, List.filter_cons, List.filter_cons]; cases h : x.isJ <;> simp [ih]
  exact this xs 0
theorem tuple_encs (M R : Store) (xs : List Itm) : zTuple [.ref M.length] (M ++ .lst (encs xs) :: R) = .ok (.p (sk xs)) (M ++ .lst (encs xs) :: R) := by
  simp [zTuple, encs, sk]
theorem add_sk (xs ys : List Itm) (h : xs.length + ys.length ≤ 10000) (M : Store) : zAdd (.p (sk xs)) (.p (sk ys)) M = .ok (.p (sk (xs ++ ys))) M := by
  have : xs.length + ys.length ≤ 16777216 := by omega
  simp [zAdd, sk, this]
end ZL

namespace ZL
open PySem PySem.Spec PyProof.Rows L2 Z
theorem e_pickI (q : Stq) (hq : q.ok) (R : Store) {ns : List Int} {lo hi : Int} (h : 0 < ns.length) (h' : ns.length ≤ 100000) (hb : ∀ i ∈ ns, lo ≤ i ∧ i ≤ hi) :
    ∃ i q', lo ≤ i ∧ i ≤ hi ∧ q'.ok ∧ F__law_pick [.ref 1, .p (.list (pints ns))] (St q ++ R) = .ok (.p (.int i)) (St q' ++ R) := by
  obtain ⟨x, q', hx, ok, e⟩ := e_pick q hq R (xs := pints ns) (by simpa using h) (by simpa using h')
  obtain ⟨i, hi', rfl⟩ := List.mem_map.mp hx
  exact ⟨i, q', (hb i hi').1, (hb i hi').2, ok, e⟩
/-- the fills' sizes -/
def P2 : List Int := [2, 4, 8, 16, 32, 64]
theorem p2_in {s : Int} (h : s ∈ P2) : 2 ≤ s ∧ s ≤ 64 := by
  simp [P2] at h
  omega
theorem e_pickF (q : Stq) (hq : q.ok) (R : Store) {ns : List Int} (h : 0 < ns.length) (h' : ns.length ≤ 100000) (hb : ∀ i ∈ ns, i ∈ P2) :
    ∃ i q', i ∈ P2 ∧ q'.ok ∧ F__law_pick [.ref 1, .p (.list (pints ns))] (St q ++ R) = .ok (.p (.int i)) (St q' ++ R) := by
  obtain ⟨x, q', hx, ok, e⟩ := e_pick q hq R (xs := pints ns) (by simpa using h) (by simpa using h')
  obtain ⟨i, hi', rfl⟩ := List.mem_map.mp hx
  exact ⟨i, q', hb i hi', ok, e⟩
/-- an item of a skeleton of n items -/
def okI (n : Nat) : Itm → Prop
  | .lab => True
  | .fil s => s ∈ P2
  | .jmp g s l => g ≤ n ∧ 0 ≤ s ∧ s ≤ 2000 ∧ 0 ≤ l ∧ l ≤ 2000
theorem okI.mono {m n : Nat} (h : m ≤ n) {x : Itm} (k : okI m x) : okI n x := by
  cases x with
  | lab => trivial
  | fil s => exact k
  | jmp g s l => exact ⟨Nat.le_trans k.1 h, k.2⟩
def okA (xs : List Itm) : Prop := ∀ x ∈ xs, okI xs.length x
theorem okA.app {xs ys : List Itm} (h : okA xs) (k : ∀ y ∈ ys, okI (xs.length + ys.length) y) : okA (xs ++ ys) := by
  intro x hx
  rw [List.length_append]
  rcases List.mem_append.mp hx with hx | hx
  · exact okI.mono (Nat.le_add_right _ _) (h x hx)
  · exact k x hx
theorem fn_rtS {n : Nat} {c : SC} {ds : List D} {q q' : Stq} {R Rx : Store} {x : P} (h : c (ds.map some ++ List.replicate (n - ds.length) none) (St q ++ R) = .rt (.p x) (St q' ++ (R ++ Rx))) : fnB n c ds (St q ++ R) = .ok (.p x) (St q' ++ R) := by
  rw [fn_rt h]
  have : (St q' ++ (R ++ Rx)).take (St q ++ R).length = St q' ++ R := by
    rw [← List.append_assoc, List.take_left' (by simp [St])]
  rw [this]
theorem appS {q : Stq} {R : Store} {i : Nat} {acc : List Itm} {x : Itm} (hi : i = R.length + 2) (h : acc.length ≤ 1000) : zAppend (.ref i) [.p x.enc] (St q ++ (R ++ [.lst (encs acc)])) = .ok (.p .none) (St q ++ (R ++ [.lst (encs (acc ++ [x]))])) := by
  have := app0 (M := St q ++ R) (R := []) (x := x) h
  rw [List.length_append, St_len, Nat.add_comm, ← hi, List.append_assoc, List.append_assoc] at this
  exact this
theorem lstvS {q : Stq} {R Q : Store} {i : Nat} {ds : List D} (hi : i = R.length + 2) : lstv (St q ++ (R ++ Ob.lst ds :: Q)) (.ref i) = some ds := by
  have := lstv_app0 (St q ++ R) (Ob.lst ds :: Q)
  rw [List.length_append, St_len, Nat.add_comm, ← hi, List.append_assoc] at this
  rw [this]
  rfl
theorem addS {q : Stq} {R : Store} {i : Nat} {acc ys : List Itm} (hi : i = R.length + 2) (h : acc.length + ys.length ≤ 1000) : zAddM (.ref i) (.p (.list (ys.map Itm.enc))) (St q ++ (R ++ [.lst (encs acc)])) =
    .ok (.ref (i + 1)) (St q ++ ((R ++ [.lst (encs acc)]) ++ [.lst (encs (acc ++ ys))])) := by
  unfold zAddM
  rw [lstvS hi, lstv_p]
  simp only
  unfold mkLst
  rw [if_pos (by simp [encs_len]; omega)]
  have e1 : (St q ++ (R ++ [Ob.lst (encs acc)])).length = i + 1 := by simp [St_len]; omega
  rw [e1]
  simp [encs]
theorem e_drawZ (q : Stq) (hq : q.ok) (R : Store) {z : Int} {n : Nat} (hz : z = n) (h : 0 < n) (h' : n ≤ 100000) : ∃ k q', k < n ∧ q'.ok ∧ F__law_draw [.ref 1, .p (.int z)] (St q ++ R) = .ok (.p (.int (k : Nat))) (St q' ++ R) := by
  rw [hz]
  exact e_draw q hq R h h'
theorem rep_fill (s : Int) (k : Nat) (hk : k ≤ 1000) (M : Store) : zMul (.p (.list [(Itm.fil s).enc])) (.p (.int (k : Int))) M = .ok (.p (.list ((List.replicate k (Itm.fil s)).map Itm.enc))) M := by
  unfold zMul
  simp only [lstv_p]
  rw [if_pos ⟨by omega, by omega, by simp; omega⟩, Int.toNat_natCast]
  have : (List.replicate k ([(Itm.fil s).enc].map D.p)).flatten = (List.replicate k (Itm.fil s)).map fun x => D.p x.enc := by
    induction k with
    | zero => rfl
    | succ k ih => rw [List.replicate_succ, List.flatten_cons, ih (by omega), List.replicate_succ]; rfl
  rw [this, frzl_mapf, if_pos (by simp; omega)]
def Gd (xs : List Itm) : Prop := okA xs ∧ xs.length ≤ 60 ∧ 0 < xs.length
theorem lenS {q : Stq} {R Q : Store} {i : Nat} {ds : List D} (hi : i = R.length + 2) : zLen [.ref i] (St q ++ (R ++ Ob.lst ds :: Q)) = .ok (.p (.int ds.length)) (St q ++ (R ++ Ob.lst ds :: Q)) := by
  unfold zLen
  simp only [lstvS hi]
theorem tupS {q : Stq} {R Q : Store} {i : Nat} {xs : List Itm} (hi : i = R.length + 2) : zTuple [.ref i] (St q ++ (R ++ Ob.lst (encs xs) :: Q)) = .ok (.p (sk xs)) (St q ++ (R ++ Ob.lst (encs xs) :: Q)) := by
  have h := lstvS (q := q) (R := R) (Q := Q) (ds := encs xs) hi
  unfold zTuple
  simp only [h]
  simp [encs, sk]
theorem fn_satS {n : Nat} {c : SC} {ds : List D} {q : Stq} {R : Store} {Φ : P → Prop} (h : Sat (fun o => ∃ x q' Rx, o = .rt (.p x) (St q' ++ (R ++ Rx)) ∧ q'.ok ∧ Φ x) (c (ds.map some ++ List.replicate (n - ds.length) none) (St q ++ R))) :
    ∃ x q', Φ x ∧ q'.ok ∧ fnB n c ds (St q ++ R) = .ok (.p x) (St q' ++ R) := by
  obtain ⟨x, q', Rx, e, ok, hx⟩ := h
  exact ⟨x, q', hx, ok, fn_rtS e⟩
end ZL

namespace ZL
open PySem PySem.Spec PyProof.Rows L2 Z
/-- data that may be compared -/
def Cmp (x : P) : Prop := x.canLay0 = true ∧ x.depth ≤ 50
theorem cmp_list {xs : List P} (h : ∀ x ∈ xs, Cmp x) : SeqAt.shaped (.list xs) = true := by
  have a : PyData.canLayAll0 xs = true := by
    induction xs with
    | nil => rfl
    | cons x xs ih => rw [PyData.canLayAll0, (h x (List.mem_cons_self ..)).1, ih fun y hy => h y (List.mem_cons_of_mem _ hy)]; rfl
  have b : PyData.depthAll xs ≤ 50 := by
    clear a
    induction xs with
    | nil => exact Nat.zero_le _
    | cons x xs ih => rw [PyData.depthAll]; exact Nat.max_le.mpr ⟨(h x (List.mem_cons_self ..)).2, ih fun y hy => h y (List.mem_cons_of_mem _ hy)⟩
  have c : PyData.depthAll xs + 1 ≤ 64 := by omega
  show (PyData.canLayAll0 xs && decide (PyData.depthAll xs + 1 ≤ 64)) = true
  rw [a, decide_eq_true c]
  rfl
theorem ne_nil_ref {M : Store} {i : Nat} {xs : List P} (h : lstAt M i = some (xs.map .p)) (hc : ∀ x ∈ xs, Cmp x) : zNe (.ref i) (.p (.list [])) M = .ok (.p (.bool (!decide (xs = [])))) M := by
  have e : peq (.list xs) (.list []) = some (decide (xs = [])) := by
    rw [peq_sh (cmp_list hc) rfl]
    cases xs <;> rfl
  unfold zNe
  rw [snap_lst h]
  simp only [snap_p, e]
theorem cmp_int (i : Int) : Cmp (.int i) := ⟨rfl, Nat.zero_le _⟩
theorem eq_nil_l {xs : List P} (h : ∀ x ∈ xs, Cmp x) (M : Store) : zEq (.p (.list xs)) (.p (.list [])) M = .ok (.p (.bool (decide (xs = [])))) M := by
  rw [zEq_sh (cmp_list h) rfl]
  cases xs <;> rfl
theorem ne_nil_l {xs : List P} (h : ∀ x ∈ xs, Cmp x) (M : Store) : zNe (.p (.list xs)) (.p (.list [])) M = .ok (.p (.bool (!decide (xs = [])))) M := by
  rw [zNe_sh (cmp_list h) rfl]
  cases xs <;> rfl
end ZL

namespace ZL
open PySem PySem.Spec PyProof.Rows L2 Z
theorem erase_mapP {α β : Type} {f : α → β} : ∀ (xs : List α) (k : Nat), (xs.map f).eraseIdx k = (xs.eraseIdx k).map f
  | [], _ => rfl
  | _ :: _, 0 => rfl
  | x :: xs, k + 1 => by
    rw [List.map_cons, List.eraseIdx_cons_succ, List.eraseIdx_cons_succ, List.map_cons, erase_mapP xs k]
theorem popAt_at {M R : Store} {xs : List P} {k : Nat} (hk : k < xs.length) : zPopAt (.ref M.length) [.p (.int (k : Int))] (M ++ .lst (xs.map .p) :: R) = .ok (.p xs[k]) (M ++ .lst ((xs.eraseIdx k).map .p) :: R) := by
  have : ixN (xs.map D.p).length (k : Int) = some k := by
    unfold ixN
    rw [if_pos (by omega), if_pos (by rw [List.length_map]; omega)]
    simp
  unfold zPopAt
  have em : (xs.map D.p).eraseIdx k = (xs.eraseIdx k).map D.p := erase_mapP xs k
  simp only [lstAt_app0, lstAt_c0, this, em]
  simp [hk]
theorem app_at {M R : Store} {o : Ob} {ys : List P} {y : P} (h : ys.length < 1000) : zAppend (.ref (M.length + 1)) [.p y] (M ++ o :: .lst (ys.map .p) :: R) = .ok (.p .none) (M ++ o :: .lst ((ys ++ [y]).map .p) :: R) := by
  rw [zAppend_e]
  have : ys.length < 16777216 := by omega
  simp [this]
theorem perm_out {α : Type} : ∀ (l : List α) (k : Nat) (h : k < l.length), ([l[k]] ++ l.eraseIdx k).Perm l
  | [], _, h => absurd h (Nat.not_lt_zero _)
  | x :: l, 0, _ => by simp
  | x :: l, k + 1, h => by
    have ih := perm_out l k (by simpa using h)
    simp only [List.getElem_cons_succ, List.eraseIdx_cons_succ, List.cons_append, List.nil_append] at ih ⊢
    exact (List.Perm.swap _ _ _).trans (List.Perm.cons x ih)
theorem mixed_loop {R : Store} {s1 : Option D} : ∀ (n : Nat) (rest acc : List P) (q : Stq), q.ok → rest.length < n → (∀ x ∈ rest, Cmp x) → rest.length + acc.length ≤ 500 →
    ∃ (q' : Stq) (acc' : List P), q'.ok ∧ acc'.Perm (acc ++ rest) ∧
      whileN (zt (z2 zNe (zv 2) (zs mkLstF znil))) L__law_mixed_1 n [some (.ref 1), s1, some (.ref (R.length + 2)), some (.ref (R.length + 3))] (St q ++ (R ++ [.lst (rest.map .p), .lst (acc.map .p)])) =
      .nx [some (.ref 1), s1, some (.ref (R.length + 2)), some (.ref (R.length + 3))] (St q' ++ (R ++ [.lst [], .lst (acc'.map .p)]))
  | 0, rest, acc, q, _, h, _, _ => absurd h (Nat.not_lt_zero _)
  | n + 1, rest, acc, q, ok, h, hc, hl => by
    have e2 : ∀ q : Stq, R.length + 2 = (St q ++ R).length := fun q => by simp [St_len]; omega
    have ea : ∀ (q : Stq) (Q : Store), St q ++ (R ++ Q) = (St q ++ R) ++ Q := fun q Q => (List.append_assoc ..).symm
    have ne : ∀ q, zNe (.ref (R.length + 2)) (.p (.list [])) (St q ++ (R ++ [.lst (rest.map .p), .lst (acc.map .p)])) = .ok (.p (.bool (!decide (rest = [])))) (St q ++ (R ++ [.lst (rest.map .p), .lst (acc.map .p)])) := fun q => by
      rw [ea]
      refine ne_nil_ref ?_ hc
      rw [e2 q, lstAt_app0]
      rfl
    unfold whileN
    by_cases hr : rest = []
    · subst hr
      refine ⟨q, acc, ok, by simp, ?_⟩
      simp [mkLstF] at ne ⊢
      simp [ne]
    · have hpos : 0 < rest.length := List.length_pos_iff.mpr hr
      obtain ⟨k, q', hk, ok', ed⟩ := e_draw q ok (R ++ [.lst (rest.map .p), .lst (acc.map .p)]) hpos (by omega)
      have hlen : (rest.eraseIdx k).length = rest.length - 1 := List.length_eraseIdx_of_lt hk
      obtain ⟨q2, acc', ok2, pm, e⟩ := mixed_loop (R := R) (s1 := s1) n (rest.eraseIdx k) (acc ++ [rest[k]]) q' ok' (by omega) (fun x hx => hc x (List.mem_of_mem_eraseIdx hx)) (by simp; omega)
      refine ⟨q2, acc', ok2, pm.trans ?_, ?_⟩
      · rw [List.append_assoc]
        refine List.Perm.append_left acc ?_
        exact perm_out rest k hk
      · have ln : ∀ q, zLen [.ref (R.length + 2)] (St q ++ (R ++ [.lst (rest.map .p), .lst (acc.map .p)])) = .ok (.p (.int rest.length)) (St q ++ (R ++ [.lst (rest.map .p), .lst (acc.map .p)])) := fun q => by
          have := lenS (q := q) (R := R) (Q := [.lst (acc.map .p)]) (ds := rest.map .p) (i := R.length + 2) rfl
          rw [List.length_map] at this
          exact this
        have po : zPopAt (.ref (R.length + 2)) [.p (.int (k : Int))] (St q' ++ (R ++ [.lst (rest.map .p), .lst (acc.map .p)])) = .ok (.p rest[k]) (St q' ++ (R ++ [.lst ((rest.eraseIdx k).map .p), .lst (acc.map .p)])) := by
          rw [ea, ea, e2 q']
          exact popAt_at hk
        have ap : zAppend (.ref (R.length + 3)) [.p rest[k]] (St q' ++ (R ++ [.lst ((rest.eraseIdx k).map .p), .lst (acc.map .p)])) = .ok (.p .none) (St q' ++ (R ++ [.lst ((rest.eraseIdx k).map .p), .lst ((acc ++ [rest[k]]).map .p)])) := by
          rw [ea, ea, show R.length + 3 = (St q' ++ R).length + 1 by rw [← e2 q']]
          exact app_at (by omega)
        have il : ∀ (q : Stq) (a : List P), isL (St q ++ (R ++ [.lst (a.map .p), .lst (acc.map .p)])) (.ref (R.length + 3)) = true := fun q a => by
          rw [ea, isL_ref, show R.length + 3 = (St q ++ R).length + 1 by rw [← e2 q], lstv_appk]
          rfl
        have il2 : ∀ (q : Stq) (a : List P), isL (St q ++ (R ++ [.lst (a.map .p), .lst (acc.map .p)])) (.ref (R.length + 2)) = true := fun q a => by
          rw [ea, isL_ref, e2 q, lstv_app0]
          rfl
        have eb : L__law_mixed_1 [some (.ref 1), s1, some (.ref (R.length + 2)), some (.ref (R.length + 3))] (St q ++ (R ++ [.lst (rest.map .p), .lst (acc.map .p)])) =
            .nx [some (.ref 1), s1, some (.ref (R.length + 2)), some (.ref (R.length + 3))] (St q' ++ (R ++ [.lst ((rest.eraseIdx k).map .p), .lst ((acc ++ [rest[k]]).map .p)])) := by
          simp [-zAppend_e, -isL_ref, -List.map_append, L__law_mixed_1, ln, ed, po, ap, il, il2]
        simp [-List.map_append, mkLstF, ne, hr, eb, e]
theorem e_mixed (q : Stq) (hq : q.ok) (R : Store) {x : P} {xs : List P} (hx : ∀ M, zListM [.p x] M = .ok (.ref M.length) (M ++ [.lst (xs.map .p)])) (hc : ∀ x ∈ xs, Cmp x) (hl : xs.length ≤ 63) :
    ∃ y q', (∃ ys : List P, y = .list ys ∧ ys.Perm xs) ∧ q'.ok ∧ F__law_mixed [.ref 1, .p x] (St q ++ R) = .ok (.p y) (St q' ++ R) := by
  apply fn_satS
  obtain ⟨q', acc', ok', pm, e⟩ := mixed_loop (R := R) (s1 := some (.p x)) 64 xs [] q hq (by omega) hc (by simp; omega)
  have e2 : (St q ++ R).length = R.length + 2 := by simp [St_len]; omega
  simp only [List.map_nil] at e
  have fz : zfreeze (.ref (R.length + 3)) (St q' ++ (R ++ [.lst [], .lst (acc'.map .p)])) = .ok (.p (.list acc')) (St q' ++ (R ++ [.lst [], .frz acc'])) := by
    have ea : ∀ (Q : Store), St q' ++ (R ++ Q) = (St q' ++ R) ++ Q := fun Q => (List.append_assoc ..).symm
    rw [ea, ea, show R.length + 3 = (St q' ++ R).length + 1 by simp [St_len]; omega]
    rw [zfreeze_r (M' := []) (xs := acc') (by rw [lstAt_appk]; rfl), set_appk]
    rfl
  simp [c__law_mixed, hx]
  rw [show (St q).length + R.length = R.length + 2 by rw [St_len]; omega, show (St q).length + (R.length + 1) = R.length + 3 by rw [St_len]; omega]
  unfold swhile
  rw [e]
  simp only [OutS.seq_nx]
  simp [fz]
  exact ⟨.list acc', q', ⟨[.lst [], .frz acc'], rfl⟩, ok', acc', rfl, by simpa using pm⟩
end ZL

namespace ZL
open PySem PySem.Spec PyProof.Rows L2 Z
/-- where a shift may be after a fill -/
def rnd (k a : Int) : List Int := if k % a = 0 then [k] else [k - k % a, k - k % a + a]
def goS (S : List Int) : Itm → List Int
  | .fil a => S.flatMap fun k => rnd k a
  | _ => S
def goL (items : List Itm) (S : List Int) : List Int := items.foldl goS S
theorem goL_snoc (items : List Itm) (x : Itm) (S : List Int) : goL (items ++ [x]) S = goS (goL items S) x := by
  unfold goL
  rw [List.foldl_append]
  rfl
def isP (m : Int) : Prop := m = 1 ∨ m = 2 ∨ m = 4 ∨ m = 8 ∨ m = 16 ∨ m = 32 ∨ m = 64
theorem isP2 {a : Int} (h : a ∈ P2) : a = 2 ∨ a = 4 ∨ a = 8 ∨ a = 16 ∨ a = 32 ∨ a = 64 := by simpa [P2] using h
/-- all shifts that come of one stand at two places at most -/
def Two (s m k : Int) : Prop := k = s / m * m ∨ k = s / m * m + m
theorem two_step {s m a k k' : Int} (hm : isP m) (ha : a ∈ P2) (h : Two s m k) (hk : k' ∈ rnd k a) : Two s (max m a) k' := by
  have ha := isP2 ha
  unfold rnd at hk
  unfold Two at h ⊢
  rcases hm with rfl | rfl | rfl | rfl | rfl | rfl | rfl <;> rcases ha with rfl | rfl | rfl | rfl | rfl | rfl <;>
    (split at hk <;> simp at hk <;> (first | rw [Int.max_eq_left (by decide)] | rw [Int.max_eq_right (by decide)]) <;> omega)
theorem isP_max {m a : Int} (hm : isP m) (ha : a ∈ P2) : isP (max m a) := by
  have ha := isP2 ha
  unfold isP at hm ⊢
  rcases hm with rfl | rfl | rfl | rfl | rfl | rfl | rfl <;> rcases ha with rfl | rfl | rfl | rfl | rfl | rfl <;> decide
def FilP (items : List Itm) : Prop := ∀ s, Itm.fil s ∈ items → s ∈ P2
theorem two_all : ∀ (n : Nat) (items : List Itm), items.length = n → FilP items → ∃ m, isP m ∧ ∀ s, ∀ k ∈ goL items [s], Two s m k
  | 0, items, h, _ => by
    rw [List.length_eq_zero_iff.mp h]
    exact ⟨1, .inl rfl, fun s k hk => by
      rw [List.mem_singleton.mp hk]
      exact .inl (by simp)⟩
  | n + 1, items, h, hf => by
    rcases List.eq_nil_or_concat items with e | ⟨l, x, e⟩
    · rw [e] at h; cases h
    · rw [List.concat_eq_append] at e
      subst e
      obtain ⟨m, hm, h2⟩ := two_all n l (by simpa using h) fun s hs => hf s (List.mem_append_left _ hs)
      cases x with
      | lab => exact ⟨m, hm, fun s k hk => h2 s k (by rw [goL_snoc] at hk; exact hk)⟩
      | jmp g a b => exact ⟨m, hm, fun s k hk => h2 s k (by rw [goL_snoc] at hk; exact hk)⟩
      | fil a =>
        have ha : a ∈ P2 := hf a (by simp)
        refine ⟨max m a, isP_max hm ha, fun s k hk => ?_⟩
        rw [goL_snoc] at hk
        obtain ⟨j, hj, hk⟩ := List.mem_flatMap.mp hk
        exact two_step hm ha (h2 s j hj) hk
theorem two_bd {s m k : Int} (hm : isP m) (h : Two s m k) (h0 : 0 ≤ s) : 0 ≤ k ∧ k ≤ s + 64 := by
  unfold Two at h
  rcases hm with rfl | rfl | rfl | rfl | rfl | rfl | rfl <;> omega
theorem nodup_sub {α : Type} [DecidableEq α] : ∀ (l m : List α), l.Nodup → (∀ x ∈ l, x ∈ m) → l.length ≤ m.length
  | [], m, _, _ => Nat.zero_le _
  | x :: l, m, hn, hs => by
    rw [List.nodup_cons] at hn
    have hx := hs x (List.mem_cons_self ..)
    have := nodup_sub l (m.erase x) hn.2 fun y hy => by
      have ne : y ≠ x := fun e => hn.1 (e ▸ hy)
      exact (List.mem_erase_of_ne ne).mpr (hs y (List.mem_cons_of_mem _ hy))
    rw [List.length_erase_of_mem hx] at this
    have := List.length_pos_of_mem hx
    rw [List.length_cons]
    omega
def seg (xs : List Itm) (a b : Nat) : List Itm := (xs.take b).drop a
def lowA (xs : List Itm) (j : Nat) : Nat := min j (goal xs j)
def highA (xs : List Itm) (j : Nat) : Nat := max j (goal xs j)
def growA (xs : List Itm) (j : Nat) : Int := longOf xs j - shortOf xs j
/-- the differences that two stretches may make -/
def diffs (it1 it2 : List Itm) (g : Int) : List Int := (goL it1 [g]).flatMap fun f => (goL it2 [f]).map fun k => k - f
def chgL (xs : List Itm) (mate at_ : Nat) : List Int :=
  if highA xs at_ < mate then [0] else if lowA xs at_ < mate then goL (seg xs (mate + 1) (highA xs at_)) [growA xs mate]
  else diffs (seg xs (mate + 1) (lowA xs at_)) (seg xs (lowA xs at_ + 1) (highA xs at_)) (growA xs mate)
def chg (xs : List Itm) (mate at_ : Nat) : List Int := uns (chgL xs mate at_)
theorem uns_ext {a b : List Int} (h : ∀ k, k ∈ a ↔ k ∈ b) : uns a = uns b := rise_eq (uns_rise a) (uns_rise b) fun k => by rw [mem_uns, mem_uns]; exact h k
/-- a frame that the law reckons with -/
def FrOk (xs : List Itm) : Prop := xs.length ≤ 100 ∧ FilP xs ∧ ∀ j ∈ places Itm.isJ xs, goal xs j < xs.length ∧ 0 ≤ growA xs j ∧ growA xs j ≤ 2000
theorem seg_filP {xs : List Itm} (h : FilP xs) (a b : Nat) : FilP (seg xs a b) := fun s hs => h s (List.mem_of_mem_take (List.mem_of_mem_drop hs))
theorem seg_len (xs : List Itm) (a b : Nat) : (seg xs a b).length ≤ xs.length := by
  unfold seg
  rw [List.length_drop, List.length_take]
  omega
theorem sl_seg (xs : List Itm) (a b : Nat) (M : Store) : zSl (.p (sk xs)) (some (a : Int)) (some (b : Int)) M = .ok (.p (sk (seg xs a b))) M := by
  rw [sl_sk, cutG_nn]
  rfl
end ZL

namespace ZL
open PySem PySem.Spec PyProof.Rows L2 Z
/-! ### the law's pairs -/
def goP (ps : List (Int × Int)) : Itm → List (Int × Int)
  | .fil a => ps.flatMap fun p => (rnd p.2 a).map fun k => (p.1, k)
  | _ => ps
theorem unp_nodup (ps : List (Int × Int)) (h : ∀ p ∈ ps, pOk p) : (unp ps).Nodup := by
  unfold unp
  have hn := rise_nodup (uns_rise (ps.map pcode))
  refine List.pairwise_map.mpr (List.Pairwise.imp_of_mem (fun {x y} hx hy ne e => ?_) hn)
  rw [mem_uns, List.mem_map] at hx hy
  obtain ⟨p, hp, rfl⟩ := hx
  obtain ⟨q, hq, rfl⟩ := hy
  rw [pdec_code (h p hp), pdec_code (h q hq)] at e
  exact ne (by rw [e])
/-- the pairs that come of the origins -/
def From (os : List (Int × Int)) (items : List Itm) (ps : List (Int × Int)) : Prop := (∀ p, p ∈ ps ↔ ∃ o ∈ os, p.1 = o.1 ∧ p.2 ∈ goL items [o.2]) ∧ ps.length ≤ 2 * os.length
def orig (os : List (Int × Int)) : Prop := os.length ≤ 4 ∧ ∀ o ∈ os, 0 ≤ o.1 ∧ o.1 ≤ 5000 ∧ 0 ≤ o.2 ∧ o.2 ≤ 5000
theorem from_ok {os : List (Int × Int)} (ho : orig os) {items : List Itm} (hf : FilP items) {p : Int × Int} (h : ∃ o ∈ os, p.1 = o.1 ∧ p.2 ∈ goL items [o.2]) : pOk p := by
  obtain ⟨o, hm, e1, e2⟩ := h
  obtain ⟨m, hmp, h2⟩ := two_all _ items rfl hf
  have b := two_bd hmp (h2 o.2 p.2 e2) (ho.2 o hm).2.2.1
  have := ho.2 o hm
  refine ⟨by rw [e1]; exact this.1, ?_, b.1, ?_⟩
  · have e : bB = 100000 := rfl
    rw [e1, e]; omega
  · have e : bB = 100000 := rfl
    rw [e]; omega
theorem len_two {α β : Type} (f g : α → β) : ∀ os : List α, (os.flatMap fun o => [f o, g o]).length = 2 * os.length
  | [] => rfl
  | o :: os => by
    rw [List.flatMap_cons, List.length_append, len_two f g os, List.length_cons]
    simp only [List.length_cons, List.length_nil]
    omega
theorem from_len {os : List (Int × Int)} {items : List Itm} (hf : FilP items) {ps : List (Int × Int)} (hn : ps.Nodup) (h : ∀ p ∈ ps, ∃ o ∈ os, p.1 = o.1 ∧ p.2 ∈ goL items [o.2]) : ps.length ≤ 2 * os.length := by
  obtain ⟨m, hmp, h2⟩ := two_all _ items rfl hf
  have := nodup_sub ps (os.flatMap fun o => [(o.1, o.2 / m * m), (o.1, o.2 / m * m + m)]) hn fun p hp => by
    obtain ⟨o, ho, e1, e2⟩ := h p hp
    refine List.mem_flatMap.mpr ⟨o, ho, ?_⟩
    rcases h2 o.2 p.2 e2 with e | e
    · have : p = (o.1, o.2 / m * m) := Prod.ext e1 e
      rw [this]; simp
    · have : p = (o.1, o.2 / m * m + m) := Prod.ext e1 e
      rw [this]; simp
  have e : (os.flatMap fun o => [(o.1, o.2 / m * m), (o.1, o.2 / m * m + m)]).length = 2 * os.length := by
    exact len_two _ _ os
  omega
theorem add_encP (a b : List (Int × Int)) (h : a.length + b.length ≤ 100000) (M : Store) : zAdd (.p (.list (a.map encP))) (.p (.list (b.map encP))) M = .ok (.p (.list ((a ++ b).map encP))) M := by
  simp only [zAdd, zAddL, lstv_p]
  rw [← List.map_append, frzl_map, if_pos (by simp; omega), List.map_append]
theorem b_goes1 {fr : List (Int × Int)} {p : Int × Int} {a : Int} (ha : a ∈ P2) (hl : fr.length ≤ 1000) {d0 d1 d6 : Option D} (M : Store) :
    Sat (fun o => ∃ d6, o = .nx [d0, d1, some (.p (Itm.fil a).enc), some (.p (.list ((fr ++ (rnd p.2 a).map fun k => (p.1, k)).map encP))), some (.p (.int p.1)), some (.p (.int p.2)), d6] M)
      (L__law_goes_1 [d0, d1, some (.p (Itm.fil a).enc), some (.p (.list (fr.map encP))), some (.p (.int p.1)), some (.p (.int p.2)), d6] M) := by
  refine sat_any fun Φ hΦ => ?_
  have hp := p2_in ha
  have ha0 : 0 < a := by omega
  have ha1 : a < 1073741824 := by omega
  have ix : ∀ M, zIx (.p (Itm.fil a).enc) (.p (.int 1)) M = .ok (.p (.int a)) M := fun M => rfl
  have cm : ∀ x, CMul x a := fun x => .inr (by omega)
  obtain ⟨f, k⟩ := p
  obtain ⟨dn, hdn⟩ : ∃ dn : Int, dn = k / a * a := ⟨_, rfl⟩
  have hkm : k = dn + k % a := by
    rw [hdn, Int.mul_comm]
    exact (Int.mul_ediv_add_emod k a).symm
  have a1 : ∀ M, zAdd (.p (.list (fr.map encP))) (.p (.list [.tuple [.int f, .int dn]])) M = .ok (.p (.list ((fr ++ [(f, dn)]).map encP))) M := add_encP fr [(f, dn)] (by simp; omega)
  by_cases h : k % a = 0
  · have e : dn = k := by omega
    have er : rnd k a = [k] := by unfold rnd; rw [if_pos h]
    have a2 : ∀ M, zAdd (.p (.list ((fr ++ [(f, dn)]).map encP))) (.p (.list [])) M = .ok (.p (.list ((fr ++ [(f, dn)]).map encP))) M := fun M => by
      have := add_encP (fr ++ [(f, dn)]) [] (by simp; omega) M
      rw [List.append_nil] at this
      exact this
    simp only [er] at hΦ
    rw [e] at a1 a2 hdn
    simp only [List.map_cons, List.map_nil] at hΦ
    obtain ⟨f1, hf1⟩ : ∃ f1, f1 = fr ++ [(f, k)] := ⟨_, rfl⟩
    rw [← hf1] at a1 a2 hΦ
    simp [L__law_goes_1, ix, ha0, ha1, cm, ← hdn, mkTup, mkLstF, a1, a2]
    exact hΦ _ ⟨_, rfl⟩
  · have e : ¬ dn = k := by omega
    have er : rnd k a = [dn, dn + a] := by unfold rnd; rw [if_neg h]; congr 1 <;> (try congr 1) <;> omega
    have a2 : ∀ M, zAdd (.p (.list ((fr ++ [(f, dn)]).map encP))) (.p (.list [.tuple [.int f, .int (dn + a)]])) M = .ok (.p (.list ((fr ++ [(f, dn)] ++ [(f, dn + a)]).map encP))) M := add_encP (fr ++ [(f, dn)]) [(f, dn + a)] (by simp; omega)
    have e3 : fr ++ (rnd k a).map (fun k => (f, k)) = fr ++ [(f, dn)] ++ [(f, dn + a)] := by rw [er]; simp
    simp only [e3] at hΦ
    obtain ⟨f1, hf1⟩ : ∃ f1, f1 = fr ++ [(f, dn)] := ⟨_, rfl⟩
    rw [← hf1] at a1 a2 hΦ
    obtain ⟨f2, hf2⟩ : ∃ f2, f2 = f1 ++ [(f, dn + a)] := ⟨_, rfl⟩
    rw [← hf2] at a2 hΦ
    simp [L__law_goes_1, ix, ha0, ha1, cm, ← hdn, mkTup, mkLstF, a1, a2, e]
    exact hΦ _ ⟨_, rfl⟩
theorem goP_len (ps : List (Int × Int)) (a : Int) : (goP ps (.fil a)).length ≤ 2 * ps.length := by
  show (ps.flatMap fun p => (rnd p.2 a).map fun k => (p.1, k)).length ≤ 2 * ps.length
  induction ps with
  | nil => exact Nat.le_refl _
  | cons p ps ih =>
    rw [List.flatMap_cons, List.length_append, List.length_map, List.length_cons]
    have : (rnd p.2 a).length ≤ 2 := by unfold rnd; split <;> simp
    omega
theorem e_goes {os : List (Int × Int)} (ho : orig os) {items : List Itm} (hf : FilP items) (hl : items.length ≤ 1000) (M : Store) :
    ∃ ps, From os items ps ∧ F__law_goes [.p (.list (os.map encP)), .p (sk items)] M = .ok (.p (.list (ps.map encP))) M := by
  have main : Sat (fun o => ∃ ps, From os items ps ∧ o = .rt (.p (.list (ps.map encP))) M) (c__law_goes ([D.p (.list (os.map encP)), D.p (sk items)].map some ++ List.replicate (7 - 2) none) M) := by
    refine sat_any fun Φ hΦ => ?_
    simp [-List.map_map, c__law_goes]
    refine forP_seq _ _ (fun done sl M' => ∃ ps d2 d3 d4 d5 d6, sl = [some (.p (.list (ps.map encP))), some (.p (sk items)), d2, d3, d4, d5, d6] ∧ M = M' ∧ From os done ps) ⟨os, none, none, none, none, none, rfl, rfl, fun p => ?_, by omega⟩ ?_ ?_
    · constructor
      · intro hp
        exact ⟨p, hp, rfl, List.mem_singleton.mpr rfl⟩
      · rintro ⟨o, ho, e1, e2⟩
        have e2 := List.mem_singleton.mp e2
        rw [show p = o from Prod.ext e1 e2]
        exact ho
    · rintro done x rest sl M' e ⟨ps, d2, d3, d4, d5, d6, rfl, rfl, hps, hpl⟩
      refine ⟨_, rfl, ?_⟩
      have hfd : FilP (done ++ [x]) := fun s hs => hf s (by rw [e]; simp at hs ⊢; rcases hs with h | h <;> simp [h])
      have hx : x ∈ items := by rw [e]; simp
      cases hxf : x.isF with
      | false =>
        have eg : ∀ S, goL (done ++ [x]) S = goL done S := fun S => by
          rw [goL_snoc]
          cases x with
          | fil s => cases hxf
          | _ => rfl
        refine sat_any fun Ψ hΨ => ?_
        simp [-List.map_map, L__law_goes_2, hxf]
        exact hΨ _ ⟨_, _, rfl, ps, _, _, _, _, _, rfl, rfl, fun p => by rw [hps]; simp only [eg], hpl⟩
      | true =>
        cases x with
        | lab => cases hxf
        | jmp g s l => cases hxf
        | fil a =>
          have ha : a ∈ P2 := hf a hx
          have it : ∀ Q, itemsOf (.p (.list (ps.map encP))) Q = .ok (ps.map fun p => .p (encP p)) Q := fun Q => by rw [itemsOf_l, List.map_map]; rfl
          have hpl2 : ps.length ≤ 8 := by have := ho.1; omega
          refine sat_any fun Ψ hΨ => ?_
          have e0 : PyData.list [] = .list (([] : List (Int × Int)).map encP) := rfl
          have hif : (Itm.fil a).isF = true := rfl
          simp [-List.map_map, -itemsOf_l, L__law_goes_2, hif, mkLstF, it]
          rw [e0]
          refine forP_seq _ _ (fun dn sl M' => ∃ d4 d5 d6, sl = [some (.p (.list (ps.map encP))), some (.p (sk items)), some (.p (Itm.fil a).enc), some (.p (.list ((goP dn (.fil a)).map encP))), d4, d5, d6] ∧ M = M') ⟨d4, d5, d6, rfl, rfl⟩ ?_ ?_
          · rintro dn p rest' sl M' e' ⟨d4, d5, d6, rfl, rfl⟩
            have hdl : dn.length ≤ 8 := by
              have := congrArg List.length e'
              simp at this
              omega
            have gl := goP_len dn a
            obtain ⟨d6', eb⟩ := b_goes1 (fr := goP dn (.fil a)) (p := p) ha (by omega) (d0 := some (.p (.list (ps.map encP)))) (d1 := some (.p (sk items))) (d6 := d6) M
            have ep : goP dn (.fil a) ++ (rnd p.2 a).map (fun k => (p.1, k)) = goP (dn ++ [p]) (.fil a) := by simp [goP]
            rw [ep] at eb
            exact ⟨_, rfl, _, _, eb, _, _, d6', rfl, rfl⟩
          · rintro sl M' ⟨d4, d5, d6, rfl, rfl⟩
            obtain ⟨fr, hfr⟩ : ∃ fr, fr = goP ps (.fil a) := ⟨_, rfl⟩
            have gl := goP_len ps a
            rw [← hfr] at gl ⊢
            have mem : ∀ p, p ∈ fr ↔ ∃ o ∈ os, p.1 = o.1 ∧ p.2 ∈ goL (done ++ [.fil a]) [o.2] := fun p => by
              rw [hfr]
              show p ∈ ps.flatMap (fun p => (rnd p.2 a).map fun k => (p.1, k)) ↔ _
              rw [List.mem_flatMap]
              constructor
              · rintro ⟨q, hq, hp⟩
                obtain ⟨k, hk, rfl⟩ := List.mem_map.mp hp
                obtain ⟨o, ho, e1, e2⟩ := (hps q).mp hq
                exact ⟨o, ho, e1, by rw [goL_snoc]; exact List.mem_flatMap.mpr ⟨q.2, e2, hk⟩⟩
              · rintro ⟨o, ho, e1, e2⟩
                rw [goL_snoc] at e2
                obtain ⟨j, hj, hk⟩ := List.mem_flatMap.mp e2
                exact ⟨(o.1, j), (hps (o.1, j)).mpr ⟨o, ho, rfl, hj⟩, List.mem_map.mpr ⟨p.2, hk, Prod.ext e1.symm rfl⟩⟩
            have hok : ∀ p ∈ fr, pOk p := fun p hp => from_ok ho hfd ((mem p).mp hp)
            have ss : ∀ Q, zSortSetP (.p (.list (fr.map encP))) Q = .ok (.p (.list ((unp fr).map encP))) Q := fun Q => by
              unfold zSortSetP
              have e1 : lstv Q (.p (.list (fr.map encP))) = some (fr.map fun p => .p (encP p)) := by rw [lstv_p, List.map_map]; rfl
              simp only [e1, pairsOfD_map]
              rw [if_pos ⟨by omega, hok⟩]
            simp [-List.map_map, ss]
            have mu : ∀ p, p ∈ unp fr ↔ ∃ o ∈ os, p.1 = o.1 ∧ p.2 ∈ goL (done ++ [.fil a]) [o.2] := fun p => by rw [mem_unp hok]; exact mem p
            exact hΨ _ ⟨_, _, rfl, unp fr, _, _, _, _, _, rfl, rfl, mu, from_len hfd (unp_nodup fr hok) fun p hp => (mu p).mp hp⟩
    · rintro sl M' ⟨ps, d2, d3, d4, d5, d6, rfl, rfl, hps⟩
      simp
      exact hΦ _ ⟨ps, hps, by simp⟩
  obtain ⟨ps, hps, e⟩ := main
  exact ⟨ps, hps, fn_rt0 e⟩
end ZL

namespace ZL
open PySem PySem.Spec PyProof.Rows L2 Z
theorem sortSet_ints {ns : List Int} (h : ns.length ≤ 60) (M : Store) : zSortSet (.p (.list (pints ns))) M = .ok (.p (.list (pints (uns ns)))) M := by
  have sv : seqv M (.p (.list (pints ns))) = some ((pints ns).map .p) := rfl
  have := uns_len ns
  unfold zSortSet
  simp only [sv, intsOf_ints]
  rw [if_pos ⟨by omega, by omega⟩]
  rfl
theorem comp_p {f : Int × Int → Int} {e : ZC} {a0 a1 a2 a3 a4 a5 a6 : Option D} (ps : List (Int × Int)) (Q : Store) (he : ∀ p : Int × Int, e [a0, a1, a2, a3, a4, a5, a6, some (.p (.int p.1)), some (.p (.int p.2))] Q = .ok (.p (.int (f p))) Q) :
    compP (tgT (tgsCons (tgN 7) (tgsCons (tgN 8) tgsNil))) ztyes e [a0, a1, a2, a3, a4, a5, a6, none, none] ((ps.map encP).map .p) Q = .ok ((pints (ps.map f)).map .p) Q := by
  rw [show (ps.map encP).map D.p = ps.map fun p => D.p (encP p) by rw [List.map_map]; rfl]
  rw [compP_map (M := Q) (fun p : Int × Int => D.p (encP p)) (fun _ => true) (fun p => D.p (.int (f p)))]
  · rw [List.filter_eq_self.mpr fun _ _ => rfl]
    simp [pints]
  · intro p _
    exact ⟨_, rfl, rfl, fun _ => he p⟩
theorem comp_pp {a0 a1 a2 a3 a4 a5 a6 : Option D} (ps : List (Int × Int)) (Q : Store) :
    compP (tgT (tgsCons (tgN 7) (tgsCons (tgN 8) tgsNil))) ztyes (zs mkTup (zcons (zv 8) (zcons (zv 8) znil))) [a0, a1, a2, a3, a4, a5, a6, none, none] ((ps.map encP).map .p) Q = .ok (((ps.map fun p => (p.2, p.2)).map encP).map .p) Q := by
  rw [show (ps.map encP).map D.p = ps.map fun p => D.p (encP p) by rw [List.map_map]; rfl]
  rw [compP_map (M := Q) (fun p : Int × Int => D.p (encP p)) (fun _ => true) (fun p => D.p (encP (p.2, p.2)))]
  · rw [List.filter_eq_self.mpr fun _ _ => rfl]
    simp
  · intro p _
    refine ⟨_, rfl, rfl, fun _ => ?_⟩
    simp [mkTup]
theorem e_law_changed {xs : List Itm} (h : FrOk xs) {mate at_ : Nat} (hm : mate ∈ places Itm.isJ xs) (ha : at_ ∈ places Itm.isJ xs) (M : Store) :
    F__law_changed [.p (sk xs), .p (.int (mate : Int)), .p (.int (at_ : Int))] M = .ok (.p (.tuple (pints (chg xs mate at_)))) M := by
  obtain ⟨h1, h2, h3⟩ := h
  have xm := jmp_at hm
  have xa := jmp_at ha
  have hg := h3 at_ ha
  have hgm := h3 mate hm
  have hal := (List.getElem?_eq_some_iff.mp xa).1
  obtain ⟨lo, hlo⟩ : ∃ lo, lo = lowA xs at_ := ⟨_, rfl⟩
  obtain ⟨hi, hhi⟩ : ∃ hi, hi = highA xs at_ := ⟨_, rfl⟩
  have em : ∀ M, zMin [.p (.int (at_ : Int)), .p (.int (goal xs at_ : Int))] M = .ok (.p (.int (lo : Int))) M := fun M => by
    rw [zMin_2, show min (at_ : Int) (goal xs at_) = (lo : Int) by rw [hlo]; unfold lowA; omega]
  have eM : ∀ M, zMax [.p (.int (at_ : Int)), .p (.int (goal xs at_ : Int))] M = .ok (.p (.int (hi : Int))) M := fun M => by
    rw [zMax_2, show max (at_ : Int) (goal xs at_) = (hi : Int) by rw [hhi]; unfold highA; omega]
  have eg : longOf xs mate - shortOf xs mate = growA xs mate := rfl
  obtain ⟨g, hgg⟩ : ∃ g, g = growA xs mate := ⟨_, rfl⟩
  rw [← hgg] at eg hgm
  have ix2 : ∀ g s l M, zIx (.p (Itm.jmp g s l).enc) (.p (.int 2)) M = .ok (.p (.int s)) M := fun _ _ _ _ => rfl
  have ix3 : ∀ g s l M, zIx (.p (Itm.jmp g s l).enc) (.p (.int 3)) M = .ok (.p (.int l)) M := fun _ _ _ _ => rfl
  have ix1 : ∀ g s l M, zIx (.p (Itm.jmp g s l).enc) (.p (.int 1)) M = .ok (.p (.int (g : Int))) M := fun _ _ _ _ => rfl
  have o1 : orig [((0 : Int), g)] := ⟨by simp, fun o ho => by rw [List.mem_singleton.mp ho]; exact ⟨by simp, by simp, by simp; omega, by simp; omega⟩⟩
  have ec1 : ((mate : Int) + 1) = ((mate + 1 : Nat) : Int) := by omega
  have ec2 : ((lo : Int) + 1) = ((lo + 1 : Nat) : Int) := by omega
  have s1 : ∀ (b : Nat) M, zSl (.p (sk xs)) (some ((mate : Int) + 1)) (some (b : Int)) M = .ok (.p (sk (seg xs (mate + 1) b))) M := fun b M => by rw [ec1]; exact sl_seg xs (mate + 1) b M
  have s2 : ∀ (b : Nat) M, zSl (.p (sk xs)) (some ((lo : Int) + 1)) (some (b : Int)) M = .ok (.p (sk (seg xs (lo + 1) b))) M := fun b M => by rw [ec2]; exact sl_seg xs (lo + 1) b M
  have it : ∀ (ps : List (Int × Int)) Q, itemsOf (.p (.list (ps.map encP))) Q = .ok ((ps.map encP).map .p) Q := fun ps Q => rfl
  have tu : ∀ ns M, zTuple [.p (.list (pints ns))] M = .ok (.p (.tuple (pints ns))) M := fun ns M => by unfold zTuple; simp
  have e0 : (PyData.list [.tuple [.int 0, .int g]]) = .list ([((0 : Int), g)].map encP) := rfl
  by_cases c1 : hi < mate
  · have : chg xs mate at_ = [0] := by unfold chg chgL; rw [← hhi, if_pos c1]; rfl
    rw [this]
    apply fn_rt0
    simp [-zMin_2, -zMax_2, c__law_changed, ix_sk _ xm, ix_sk _ xa, ix1, ix2, ix3, em, eM, eg, c1, mkTup, pints]
  · by_cases c2 : lo < mate
    · obtain ⟨ps, hps, e⟩ := e_goes o1 (seg_filP h2 (mate + 1) hi) (by have := seg_len xs (mate + 1) hi; omega) M
      have hpl : ps.length ≤ 2 := hps.2
      have co := comp_p (f := fun p => p.2) (e := zv 8) (a0 := some (.p (sk xs))) (a1 := some (.p (.int (mate : Int)))) (a2 := some (.p (.int (at_ : Int)))) (a3 := some (.p (.int (lo : Int)))) (a4 := some (.p (.int (hi : Int)))) (a5 := some (.p (.int g))) (a6 := none) ps M fun p => rfl
      have fz : ∀ Q, frzl ((pints (ps.map fun p => p.2)).map .p) Q = .ok (.p (.list (pints (ps.map fun p => p.2)))) Q := fun Q => by rw [frzl_map, if_pos (by simp; omega)]
      have ss := sortSet_ints (ns := ps.map fun p => p.2) (by rw [List.length_map]; omega)
      have ev : chg xs mate at_ = uns (ps.map fun p => p.2) := by
        unfold chg chgL
        rw [← hhi, ← hlo, if_neg c1, if_pos c2]
        refine uns_ext fun k => ?_
        rw [List.mem_map, ← hgg]
        constructor
        · intro hk
          exact ⟨(0, k), (hps.1 (0, k)).mpr ⟨(0, g), List.mem_singleton.mpr rfl, rfl, hk⟩, rfl⟩
        · rintro ⟨p, hp, rfl⟩
          obtain ⟨o, ho, e1, e2⟩ := (hps.1 p).mp hp
          rw [List.mem_singleton.mp ho] at e2
          exact e2
      rw [ev]
      apply fn_rt0
      obtain ⟨qs, hqs⟩ : ∃ qs, qs = ps.map fun p => p.2 := ⟨_, rfl⟩
      rw [← hqs] at co fz ss ⊢
      simp [-zMin_2, -zMax_2, -List.map_map, -frzl_map, -itemsOf_l, c__law_changed, ix_sk _ xm, ix_sk _ xa, ix1, ix2, ix3, em, eM, eg, c1, c2, mkTup, mkLstF, s1, -sl_sk]
      rw [e0, e]
      simp [-List.map_map, -frzl_map, -itemsOf_l, it, wipeS, co, fz, ss, tu]
    · obtain ⟨ps, hps, e⟩ := e_goes o1 (seg_filP h2 (mate + 1) lo) (by have := seg_len xs (mate + 1) lo; omega) M
      have hpl : ps.length ≤ 2 := hps.2
      have co := comp_pp (a0 := some (.p (sk xs))) (a1 := some (.p (.int (mate : Int)))) (a2 := some (.p (.int (at_ : Int)))) (a3 := some (.p (.int (lo : Int)))) (a4 := some (.p (.int (hi : Int)))) (a5 := some (.p (.int g))) (a6 := some (.p (.list (ps.map encP)))) ps M
      have fz : ∀ Q, frzl (((ps.map fun p => (p.2, p.2)).map encP).map .p) Q = .ok (.p (.list ((ps.map fun p => (p.2, p.2)).map encP))) Q := fun Q => by rw [frzl_map, if_pos (by simp; omega)]
      have o2 : orig (ps.map fun p => (p.2, p.2)) := ⟨by rw [List.length_map]; omega, fun o ho => by
        obtain ⟨p, hp, rfl⟩ := List.mem_map.mp ho
        obtain ⟨o, ho, e1, e2⟩ := (hps.1 p).mp hp
        rw [List.mem_singleton.mp ho] at e2
        obtain ⟨m, hmp, h2⟩ := two_all _ _ rfl (seg_filP h2 (mate + 1) lo)
        have := two_bd hmp (h2 g p.2 e2) (by omega)
        exact ⟨by omega, by omega, by omega, by omega⟩⟩
      obtain ⟨ps2, hps2, e2⟩ := e_goes o2 (seg_filP h2 (lo + 1) hi) (by have := seg_len xs (lo + 1) hi; omega) M
      have hpl2 : ps2.length ≤ 4 := by
        have := hps2.2
        rw [List.length_map] at this
        omega
      have co2 := comp_p (f := fun p => p.2 - p.1) (e := z2 zSub (zv 8) (zv 7)) (a0 := some (.p (sk xs))) (a1 := some (.p (.int (mate : Int)))) (a2 := some (.p (.int (at_ : Int)))) (a3 := some (.p (.int (lo : Int)))) (a4 := some (.p (.int (hi : Int)))) (a5 := some (.p (.int g))) (a6 := some (.p (.list (ps2.map encP)))) ps2 M fun p => rfl
      have fz2 : ∀ Q, frzl ((pints (ps2.map fun p => p.2 - p.1)).map .p) Q = .ok (.p (.list (pints (ps2.map fun p => p.2 - p.1)))) Q := fun Q => by rw [frzl_map, if_pos (by simp; omega)]
      have ss := sortSet_ints (ns := ps2.map fun p => p.2 - p.1) (by rw [List.length_map]; omega)
      have ev : chg xs mate at_ = uns (ps2.map fun p => p.2 - p.1) := by
        unfold chg chgL
        rw [← hhi, ← hlo, if_neg c1, if_neg c2]
        refine uns_ext fun k => ?_
        unfold diffs
        rw [List.mem_map, List.mem_flatMap, ← hgg]
        constructor
        · rintro ⟨f, hf, hk⟩
          obtain ⟨j, hj, rfl⟩ := List.mem_map.mp hk
          have hp : (0, f) ∈ ps := (hps.1 (0, f)).mpr ⟨(0, g), List.mem_singleton.mpr rfl, rfl, hf⟩
          exact ⟨(f, j), (hps2.1 (f, j)).mpr ⟨(f, f), List.mem_map.mpr ⟨(0, f), hp, rfl⟩, rfl, hj⟩, rfl⟩
        · rintro ⟨p, hp, rfl⟩
          obtain ⟨o, ho, e1, e2⟩ := (hps2.1 p).mp hp
          obtain ⟨q, hq, rfl⟩ := List.mem_map.mp ho
          obtain ⟨o', ho', e3, e4⟩ := (hps.1 q).mp hq
          rw [List.mem_singleton.mp ho'] at e4
          exact ⟨q.2, e4, List.mem_map.mpr ⟨p.2, e2, by rw [e1]⟩⟩
      rw [ev]
      apply fn_rt0
      obtain ⟨qs, hqs⟩ : ∃ qs, qs = ps2.map fun p => p.2 - p.1 := ⟨_, rfl⟩
      rw [← hqs] at co2 fz2 ss ⊢
      obtain ⟨os, hos⟩ : ∃ os, os = ps.map fun p => (p.2, p.2) := ⟨_, rfl⟩
      rw [← hos] at co fz e2
      simp [-zMin_2, -zMax_2, -List.map_map, -frzl_map, -itemsOf_l, c__law_changed, ix_sk _ xm, ix_sk _ xa, ix1, ix2, ix3, em, eM, eg, c1, c2, mkTup, mkLstF, s1, -sl_sk]
      rw [e0, e]
      simp [-List.map_map, -frzl_map, -itemsOf_l, it, wipeS, co, fz, s2, -sl_sk, e2, co2, fz2, ss, tu]
end ZL

namespace ZL
open PySem PySem.Spec PyProof.Rows L2 Z
theorem mem_rnd {k a j : Int} : j ∈ rnd k a ↔ (k % a = 0 ∧ j = k) ∨ (k % a ≠ 0 ∧ (j = k - k % a ∨ j = k - k % a + a)) := by
  unfold rnd
  split
  · rename_i h
    simp [h]
  · rename_i h
    simp [h]
/-- where the shifts of s stand behind fills of which m is the greatest -/
def At (s m k : Int) : Prop := k = s / m * m ∨ (k = s / m * m + m ∧ s % m ≠ 0)
theorem step_exact {s m a j : Int} (hm : isP m) (ha : a ∈ P2) : (j ∈ rnd (s / m * m) a ∨ (s % m ≠ 0 ∧ j ∈ rnd (s / m * m + m) a)) ↔ At s (max m a) j := by
  have ha := isP2 ha
  rw [mem_rnd, mem_rnd]
  unfold At
  rcases hm with rfl | rfl | rfl | rfl | rfl | rfl | rfl <;> rcases ha with rfl | rfl | rfl | rfl | rfl | rfl <;>
    ((first | rw [Int.max_eq_left (by decide)] | rw [Int.max_eq_right (by decide)]) <;> omega)
def topF (items : List Itm) : Int := (fillsOf items).foldl max 1
theorem topF_snoc (items : List Itm) (x : Itm) : topF (items ++ [x]) = match x with | .fil a => max (topF items) a | _ => topF items := by
  unfold topF fillsOf
  rw [List.filter_append, List.map_append, List.foldl_append]
  cases x <;> rfl
theorem topF_isP : ∀ (n : Nat) (items : List Itm), items.length = n → FilP items → isP (topF items)
  | 0, items, h, _ => by rw [List.length_eq_zero_iff.mp h]; exact .inl rfl
  | n + 1, items, h, hf => by
    rcases List.eq_nil_or_concat items with e | ⟨l, x, e⟩
    · rw [e] at h; cases h
    · rw [List.concat_eq_append] at e
      subst e
      have ih := topF_isP n l (by simpa using h) fun s hs => hf s (List.mem_append_left _ hs)
      rw [topF_snoc]
      cases x with
      | lab => exact ih
      | jmp g a b => exact ih
      | fil a => exact isP_max ih (hf a (by simp))
theorem goL_exact : ∀ (n : Nat) (items : List Itm), items.length = n → FilP items → ∀ s k, k ∈ goL items [s] ↔ At s (topF items) k
  | 0, items, h, _, s, k => by
    rw [List.length_eq_zero_iff.mp h]
    show k ∈ [s] ↔ At s 1 k
    unfold At
    rw [List.mem_singleton]
    omega
  | n + 1, items, h, hf, s, k => by
    rcases List.eq_nil_or_concat items with e | ⟨l, x, e⟩
    · rw [e] at h; cases h
    · rw [List.concat_eq_append] at e
      subst e
      have ih := goL_exact n l (by simpa using h) (fun s hs => hf s (List.mem_append_left _ hs)) s
      have hp := topF_isP n l (by simpa using h) fun s hs => hf s (List.mem_append_left _ hs)
      rw [goL_snoc, topF_snoc]
      cases x with
      | lab => exact ih k
      | jmp g a b => exact ih k
      | fil a =>
        show k ∈ (goL l [s]).flatMap (fun k => rnd k a) ↔ At s (max (topF l) a) k
        rw [← step_exact hp (hf a (by simp)), List.mem_flatMap]
        constructor
        · rintro ⟨j, hj, hk⟩
          rcases (ih j).mp hj with e | ⟨e, h0⟩
          · rw [e] at hk; exact .inl hk
          · rw [e] at hk; exact .inr ⟨h0, hk⟩
        · rintro (hk | ⟨h0, hk⟩)
          · exact ⟨_, (ih _).mpr (.inl rfl), hk⟩
          · exact ⟨_, (ih _).mpr (.inr ⟨rfl, h0⟩), hk⟩
/-- what two stretches make of a growth: all still, or both ways -/
theorem diffs_still {it1 it2 : List Itm} (h1 : FilP it1) (h2 : FilP it2) {g : Int} (h : topF it2 ≤ topF it1 ∨ g % topF it2 = 0) : ∀ d, d ∈ diffs it1 it2 g ↔ d = 0 := by
  have p1 := topF_isP _ it1 rfl h1
  have p2 := topF_isP _ it2 rfl h2
  have still : ∀ f, At g (topF it1) f → ∀ k, At f (topF it2) k ↔ k = f := by
    intro f hf k
    unfold At at hf ⊢
    revert h hf
    generalize topF it1 = m1 at p1
    generalize topF it2 = m2 at p2
    rcases p1 with rfl | rfl | rfl | rfl | rfl | rfl | rfl <;> rcases p2 with rfl | rfl | rfl | rfl | rfl | rfl | rfl <;> omega
  intro d
  unfold diffs
  rw [List.mem_flatMap]
  constructor
  · rintro ⟨f, hf, hd⟩
    obtain ⟨k, hk, rfl⟩ := List.mem_map.mp hd
    have := (still f ((goL_exact _ it1 rfl h1 g f).mp hf) k).mp ((goL_exact _ it2 rfl h2 f k).mp hk)
    omega
  · rintro rfl
    have hf : At g (topF it1) (g / topF it1 * topF it1) := .inl rfl
    refine ⟨_, (goL_exact _ it1 rfl h1 g _).mpr hf, List.mem_map.mpr ⟨_, (goL_exact _ it2 rfl h2 _ _).mpr ((still _ hf _).mpr rfl), by omega⟩⟩
theorem diffs_both {it1 it2 : List Itm} (h1 : FilP it1) (h2 : FilP it2) {g : Int} (h : topF it1 < topF it2) (h0 : g % topF it2 ≠ 0) : (∃ d ∈ diffs it1 it2 g, d < 0) ∧ ∃ d ∈ diffs it1 it2 g, 0 < d := by
  have p1 := topF_isP _ it1 rfl h1
  have p2 := topF_isP _ it2 rfl h2
  obtain ⟨f, hf, hfm⟩ : ∃ f, At g (topF it1) f ∧ f % topF it2 ≠ 0 := by
    unfold At
    revert h h0
    generalize topF it1 = m1 at p1
    generalize topF it2 = m2 at p2
    intro h h0
    by_cases e : g / m1 * m1 % m2 = 0
    · refine ⟨g / m1 * m1 + m1, .inr ⟨rfl, ?_⟩, ?_⟩ <;>
        (rcases p1 with rfl | rfl | rfl | rfl | rfl | rfl | rfl <;> rcases p2 with rfl | rfl | rfl | rfl | rfl | rfl | rfl <;> omega)
    · exact ⟨_, .inl rfl, e⟩
  have mem : ∀ k, At f (topF it2) k → k - f ∈ diffs it1 it2 g := fun k hk => by
    unfold diffs
    exact List.mem_flatMap.mpr ⟨f, (goL_exact _ it1 rfl h1 g f).mpr hf, List.mem_map.mpr ⟨k, (goL_exact _ it2 rfl h2 f k).mpr hk, rfl⟩⟩
  refine ⟨⟨_, mem _ (.inl rfl), ?_⟩, ⟨_, mem _ (.inr ⟨rfl, hfm⟩), ?_⟩⟩
  · revert hfm
    generalize topF it2 = m2 at p2
    rcases p2 with rfl | rfl | rfl | rfl | rfl | rfl | rfl <;> omega
  · revert hfm
    generalize topF it2 = m2 at p2
    rcases p2 with rfl | rfl | rfl | rfl | rfl | rfl | rfl <;> omega
end ZL

namespace ZL
open PySem PySem.Spec PyProof.Rows L2 Z
/-! ### dicts of shifts -/
abbrev Kvs := List (Int × List P)
def kvI (ps : Kvs) : P := .dict (ps.map fun q => (.int q.1, .tuple q.2))
def kvDI (ps : Kvs) : List (Key × D) := ps.map fun q => (.inl q.1, .p (.tuple q.2))
def ky (ps : Kvs) : List Int := ps.map Prod.fst
def putI (ps : Kvs) (k : Int) (l : List P) : Kvs := if (ps.any fun q => decide (q.1 = k)) = true then ps.map (fun q => if q.1 = k then (q.1, l) else q) else ps ++ [(k, l)]
theorem any_ky (ps : Kvs) (k : Int) : (ps.any fun q => decide (q.1 = k)) = decide (k ∈ ky ps) := by
  rw [Bool.eq_iff_iff, List.any_eq_true, decide_eq_true_eq]
  unfold ky
  rw [List.mem_map]
  constructor
  · rintro ⟨q, hq, e⟩
    exact ⟨q, hq, of_decide_eq_true e⟩
  · rintro ⟨q, hq, e⟩
    exact ⟨q, hq, decide_eq_true e⟩
theorem ky_put (ps : Kvs) (k : Int) (l : List P) : ky (putI ps k l) = if k ∈ ky ps then ky ps else ky ps ++ [k] := by
  unfold putI
  rw [any_ky]
  by_cases h : k ∈ ky ps
  · rw [if_pos (decide_eq_true h), if_pos h]
    unfold ky
    rw [List.map_map]
    refine List.map_congr_left fun q _ => ?_
    show (if q.1 = k then (q.1, l) else q).1 = q.1
    split <;> rfl
  · rw [if_neg (by simpa using h), if_neg h]
    simp [ky]
theorem mem_ky_put {ps : Kvs} {k j : Int} {l : List P} : j ∈ ky (putI ps k l) ↔ j ∈ ky ps ∨ j = k := by
  rw [ky_put]
  split
  · rename_i h
    exact ⟨.inl, fun z => z.elim id fun e => e ▸ h⟩
  · simp
theorem nd_put {ps : Kvs} {k : Int} {l : List P} (h : (ky ps).Nodup) : (ky (putI ps k l)).Nodup := by
  rw [ky_put]
  split
  · exact h
  · rename_i hk
    rw [List.nodup_append]
    exact ⟨h, by simp, fun a ha b hb => by rw [List.mem_singleton.mp hb]; exact fun e => hk (e ▸ ha)⟩
theorem mem_put {ps : Kvs} {k : Int} {l : List P} {q : Int × List P} (h : q ∈ putI ps k l) : q.2 = l ∨ q ∈ ps := by
  unfold putI at h
  split at h
  · obtain ⟨z, hz, e⟩ := List.mem_map.mp h
    split at e
    · rw [← e]; exact .inl rfl
    · rw [← e]; exact .inr hz
  · rcases List.mem_append.mp h with h | h
    · exact .inr h
    · rw [List.mem_singleton.mp h]; exact .inl rfl
theorem put_D (ps : Kvs) (k : Int) (l : List P) : putD (kvDI ps) (.inl k) (.p (.tuple l)) = kvDI (putI ps k l) := by
  have e : ((kvDI ps).any fun kv => decide (kv.1 = .inl k)) = ps.any fun q => decide (q.1 = k) := by
    unfold kvDI
    rw [List.any_map]
    congr 1
    funext q
    simp [Function.comp]
  unfold putD putI
  rw [e]
  split
  · unfold kvDI
    rw [List.map_map, List.map_map]
    refine List.map_congr_left fun q _ => ?_
    by_cases h : q.1 = k
    · simp [Function.comp, h]
    · simp [Function.comp, h]
  · simp [kvDI]
theorem dput_I {M : Store} {ps : Kvs} {k : Int} {l : List P} (h : ps.length ≤ 1000) : zDput (.ref M.length) (.p (.int k)) (.p (.tuple l)) (M ++ [.dic (kvDI ps)]) = some (M ++ [.dic (kvDI (putI ps k l))]) := by
  have e : (M ++ [Ob.dic (kvDI ps)])[M.length]? = some (.dic (kvDI ps)) := by simp
  have hz : (kvDI ps).length < sizeLine := by unfold kvDI; rw [List.length_map, sizeLine_val]; omega
  unfold zDput
  simp only [e, kOf]
  rw [if_pos ⟨rfl, hz⟩, put_D, set_app0]
  rfl
theorem frz_I {M : Store} {ps : Kvs} : ∃ R, zfreeze (.ref M.length) (M ++ [.dic (kvDI ps)]) = .ok (.p (kvI ps)) (M ++ R) := by
  have e : (M ++ [Ob.dic (kvDI ps)])[M.length]? = some (.dic (kvDI ps)) := by simp
  have p : pures ((kvDI ps).map Prod.snd) = some (ps.map fun q => .tuple q.2) := by
    unfold kvDI
    rw [List.map_map]
    exact pures_mapf (fun q : Int × List P => PyData.tuple q.2) ps
  have z : ((kvDI ps).map fun kv => kP kv.1).zip (ps.map fun q => PyData.tuple q.2) = ps.map fun q => (PyData.int q.1, PyData.tuple q.2) := by
    unfold kvDI
    rw [List.map_map, List.zip_map']
    rfl
  unfold zfreeze
  simp only [e, p, z, set_app0]
  exact ⟨_, rfl⟩
/-- good: each key once, few, what they hold is short -/
def Nice (n : Nat) (ps : Kvs) : Prop := (ky ps).Nodup ∧ ∀ q ∈ ps, q.2.length ≤ n
theorem nice_put {n : Nat} {ps : Kvs} (h : Nice n ps) {k : Int} {l : List P} (hl : l.length ≤ n) : Nice n (putI ps k l) := ⟨nd_put h.1, fun q hq => by
  rcases mem_put hq with e | hq
  · rw [e]; exact hl
  · exact h.2 q hq⟩
theorem put_len {ps : Kvs} {k : Int} {l : List P} : (putI ps k l).length ≤ ps.length + 1 := by
  unfold putI
  split
  · rw [List.length_map]; omega
  · rw [List.length_append]; exact Nat.le_refl _
/-! ### one shift at one fill -/
theorem e_roundings {k a : Int} (ha : 0 < a) (M : Store) : F_roundings [.p (.int k), .p (.int a)] M = .ok (.p (.list (if k % a = 0 then [.tuple [.none, .int k]] else [.tuple [.int 1, .int (k - k % a)], .tuple [.int 0, .int (k - k % a + a)]]))) M := by
  apply fn_rt0
  by_cases h : k % a = 0
  · simp [c_roundings, ha, h, mkTup, mkLstF]
  · simp [c_roundings, ha, h, mkTup, mkLstF]
def bgn (p : Nat) (l : List P) (r : Int) : List P := l ++ [.tuple [.int (p : Int), .int r]]
def stepI (p : Nat) (fr : Kvs) (k : Int) (l : List P) (a : Int) : Kvs := if k % a = 0 then putI fr k l else putI (putI fr (k - k % a) (bgn p l 1)) (k - k % a + a) (bgn p l 0)
theorem step_ky {p : Nat} {fr : Kvs} {k a j : Int} {l : List P} : j ∈ ky (stepI p fr k l a) ↔ j ∈ ky fr ∨ j ∈ rnd k a := by
  unfold stepI rnd
  split
  · rw [mem_ky_put]; simp
  · rw [mem_ky_put, mem_ky_put]; simp [or_assoc]
theorem step_nice {p n : Nat} {fr : Kvs} {k a : Int} {l : List P} (h : Nice (n + 1) fr) (hl : l.length ≤ n) : Nice (n + 1) (stepI p fr k l a) := by
  unfold stepI
  split
  · exact nice_put h (by omega)
  · exact nice_put (nice_put h (by simp [bgn]; omega)) (by simp [bgn]; omega)
theorem step_len {p : Nat} {fr : Kvs} {k a : Int} {l : List P} : (stepI p fr k l a).length ≤ fr.length + 2 := by
  unfold stepI
  split
  · exact Nat.le_trans put_len (by omega)
  · exact Nat.le_trans put_len (by have := put_len (ps := fr) (k := k - k % a) (l := bgn p l 1); omega)
theorem b_sb2 {xs : List Itm} {p : Nat} {a : Int} (hx : xs[p]? = some (.fil a)) (ha : 0 < a) {fr : Kvs} {k : Int} {l : List P} (hf : fr.length ≤ 500) (hl : l.length ≤ 500) (M : Store) {d1 d2 d3 d4 d9 d10 : Option D} :
    Sat (fun o => ∃ d9 d10, o = .nx [some (.p (sk xs)), d1, d2, d3, d4, some (.p (.int (p : Int))), some (.ref M.length), some (.p (.int k)), some (.p (.tuple l)), d9, d10] (M ++ [.dic (kvDI (stepI p fr k l a))]))
      (L_shifts_behind_2 [some (.p (sk xs)), d1, d2, d3, d4, some (.p (.int (p : Int))), some (.ref M.length), some (.p (.int k)), some (.p (.tuple l)), d9, d10] (M ++ [.dic (kvDI fr)])) := by
  refine sat_any fun Φ hΦ => ?_
  have er := e_roundings (k := k) ha
  have ix1 : ∀ M, zIx (.p (Itm.fil a).enc) (.p (.int 1)) M = .ok (.p (.int a)) M := fun M => rfl
  have is1 : ∀ M, zIs false (.p .none) (.p .none) M = .ok (.p (.bool true)) M := fun M => rfl
  have is2 : ∀ i M, zIs false (.p (.int i)) (.p .none) M = .ok (.p (.bool false)) M := fun i M => rfl
  have hz : l.length + 1 ≤ 16777216 := by omega
  have ad : ∀ r M, zAdd (.p (.tuple l)) (.p (.tuple [.tuple [.int (p : Int), .int r]])) M = .ok (.p (.tuple (bgn p l r))) M := fun r M => by
    simp [zAdd, hz, bgn]
  by_cases h : k % a = 0
  · have dp := dput_I (M := M) (ps := fr) (k := k) (l := l) (by omega)
    have es : stepI p fr k l a = putI fr k l := by unfold stepI; rw [if_pos h]
    rw [es] at hΦ
    simp [L_shifts_behind_2, ix_sk _ hx, ix1, er, h, forP, L_shifts_behind_1, is1, dp]
    exact hΦ _ ⟨_, _, rfl⟩
  · have dp1 := dput_I (M := M) (ps := fr) (k := k - k % a) (l := bgn p l 1) (by omega)
    have pl := put_len (ps := fr) (k := k - k % a) (l := bgn p l 1)
    have es : stepI p fr k l a = putI (putI fr (k - k % a) (bgn p l 1)) (k - k % a + a) (bgn p l 0) := by unfold stepI; rw [if_neg h]
    rw [es] at hΦ
    obtain ⟨f1, hf1⟩ : ∃ f1, f1 = putI fr (k - k % a) (bgn p l 1) := ⟨_, rfl⟩
    rw [← hf1] at dp1 pl hΦ
    have dp2 := dput_I (M := M) (ps := f1) (k := k - k % a + a) (l := bgn p l 0) (by omega)
    simp [L_shifts_behind_2, ix_sk _ hx, ix1, er, h, forP, L_shifts_behind_1, is2, mkTup, ad, dp1, dp2]
    exact hΦ _ ⟨_, _, rfl⟩
end ZL

namespace ZL
open PySem PySem.Spec PyProof.Rows L2 Z
def stepAll (p : Nat) (a : Int) (ps : Kvs) : Kvs := ps.foldl (fun fr q => stepI p fr q.1 q.2 a) []
theorem stepAll_snoc (p : Nat) (a : Int) (ps : Kvs) (q : Int × List P) : stepAll p a (ps ++ [q]) = stepI p (stepAll p a ps) q.1 q.2 a := by
  unfold stepAll
  rw [List.foldl_append]
  rfl
theorem stepAll_facts (p : Nat) (a : Int) (n : Nat) : ∀ (m : Nat) (ps : Kvs), ps.length = m → (∀ q ∈ ps, q.2.length ≤ n) → Nice (n + 1) (stepAll p a ps) ∧ (stepAll p a ps).length ≤ 2 * ps.length ∧ ∀ j, j ∈ ky (stepAll p a ps) ↔ ∃ q ∈ ps, j ∈ rnd q.1 a
  | 0, ps, h, _ => by
    rw [List.length_eq_zero_iff.mp h]
    exact ⟨⟨List.nodup_nil, fun q hq => by cases hq⟩, Nat.le_refl _, fun j => ⟨fun z => (by cases z), fun ⟨q, hq, _⟩ => (by cases hq)⟩⟩
  | m + 1, ps, h, hl => by
    rcases List.eq_nil_or_concat ps with e | ⟨l, x, e⟩
    · rw [e] at h; cases h
    · rw [List.concat_eq_append] at e
      subst e
      obtain ⟨h1, h2, h3⟩ := stepAll_facts p a n m l (by simpa using h) fun q hq => hl q (List.mem_append_left _ hq)
      rw [stepAll_snoc]
      refine ⟨step_nice h1 (hl x (by simp)), ?_, fun j => ?_⟩
      · have := step_len (p := p) (fr := stepAll p a l) (k := x.1) (a := a) (l := x.2)
        rw [List.length_append, List.length_singleton]
        omega
      · rw [step_ky, h3]
        constructor
        · rintro (⟨q, hq, hj⟩ | hj)
          · exact ⟨q, List.mem_append_left _ hq, hj⟩
          · exact ⟨x, by simp, hj⟩
        · rintro ⟨q, hq, hj⟩
          rcases List.mem_append.mp hq with hq | hq
          · exact .inl ⟨q, hq, hj⟩
          · rw [List.mem_singleton.mp hq] at hj
            exact .inr hj
theorem items_I (ps : Kvs) {c : ZC} {sl : Sl} {M M' : Store} (h : c sl M = .ok (.p (kvI ps)) M') : zditems c sl M = .ok (ps.map fun q => .p (.tuple [.int q.1, .tuple q.2])) M' := by
  unfold zditems
  rw [h]
  simp [kvI]
def nextK (x : Itm) (p : Nat) (ps : Kvs) : Kvs := match x with
  | .fil a => stepAll p a ps
  | _ => ps
theorem b_sb3 {xs : List Itm} {p : Nat} {x : Itm} (hx : xs[p]? = some x) (hf : FilP xs) {ps : Kvs} {n : Nat} (hl : ps.length ≤ 100) (hn : n ≤ 100) (hq : ∀ q ∈ ps, q.2.length ≤ n) (M : Store) {d1 d2 d3 d6 d7 d8 d9 d10 : Option D} :
    Sat (fun o => ∃ ps' R d6 d7 d8 d9 d10, o = .nx [some (.p (sk xs)), d1, d2, d3, some (.p (kvI ps')), some (.p (.int (p : Int))), d6, d7, d8, d9, d10] (M ++ R) ∧ ps' = nextK x p ps)
      (L_shifts_behind_3 [some (.p (sk xs)), d1, d2, d3, some (.p (kvI ps)), some (.p (.int (p : Int))), d6, d7, d8, d9, d10] M) := by
  refine sat_any fun Φ hΦ => ?_
  cases hxf : x.isF with
  | false =>
    have e : nextK x p ps = ps := by cases x with
      | fil a => cases hxf
      | _ => rfl
    rw [e] at hΦ
    simp [L_shifts_behind_3, ix_sk _ hx, hxf]
    exact hΦ _ ⟨ps, [], _, _, _, _, _, by rw [List.append_nil], rfl⟩
  | true =>
    cases x with
    | lab => cases hxf
    | jmp g s l => cases hxf
    | fil a =>
      have ha := p2_in (hf a (List.mem_of_getElem? hx))
      have hif : (Itm.fil a).isF = true := rfl
      have it : ∀ sl : Sl, sl[4]? = some (some (.p (kvI ps))) → ∀ Q, zditems (zv 4) sl Q = .ok (ps.map fun q => .p (.tuple [.int q.1, .tuple q.2])) Q := fun sl hsl Q => items_I ps (by unfold zv; rw [hsl])
      simp [L_shifts_behind_3, ix_sk _ hx, hif, zDnew]
      rw [it _ rfl]
      simp only [Out.thn_ok]
      have e0 : M ++ [Ob.dic []] = M ++ [.dic (kvDI (stepAll p a []))] := rfl
      rw [e0]
      refine forP_seq _ _ (fun dn sl M' => ∃ d7 d8 d9 d10, sl = [some (.p (sk xs)), d1, d2, d3, some (.p (kvI ps)), some (.p (.int (p : Int))), some (.ref M.length), d7, d8, d9, d10] ∧ M' = M ++ [.dic (kvDI (stepAll p a dn))]) ⟨d7, d8, d9, d10, rfl, rfl⟩ ?_ ?_
      · rintro dn q rest sl M' e ⟨d7, d8, d9, d10, rfl, rfl⟩
        have hqm : q ∈ ps := by rw [e]; simp
        have hdl : dn.length ≤ 100 := by
          have := congrArg List.length e
          simp at this
          omega
        have fa := (stepAll_facts p a n _ dn rfl fun z hz => hq z (by rw [e]; simp [hz])).2.1
        obtain ⟨d9', d10', eb⟩ := b_sb2 hx (by omega) (fr := stepAll p a dn) (k := q.1) (l := q.2) (by omega) (by have := hq q hqm; omega) M (d1 := d1) (d2 := d2) (d3 := d3) (d4 := some (.p (kvI ps))) (d9 := d9) (d10 := d10)
        rw [← stepAll_snoc] at eb
        exact ⟨_, rfl, _, _, eb, _, _, _, _, rfl, rfl⟩
      · rintro sl M' ⟨d7, d8, d9, d10, rfl, rfl⟩
        obtain ⟨R, hR⟩ := frz_I (M := M) (ps := stepAll p a ps)
        simp [hR]
        exact hΦ _ ⟨_, R, _, _, _, _, _, rfl, rfl⟩
theorem seg_snoc {xs : List Itm} {a b : Nat} {x : Itm} (hab : a ≤ b) (hx : xs[b]? = some x) : seg xs a (b + 1) = seg xs a b ++ [x] := by
  have hb := (List.getElem?_eq_some_iff.mp hx).1
  unfold seg
  rw [List.take_add_one, hx, List.drop_append_of_le_length (by rw [List.length_take]; omega)]
  rfl
theorem seg_self (xs : List Itm) (a b : Nat) (h : b ≤ a) : seg xs a b = [] := by
  unfold seg
  exact List.drop_eq_nil_of_le (by rw [List.length_take]; omega)
/-- the keys are where the shift may be -/
def KeysOf (ps : Kvs) (l : List Int) : Prop := (ky ps).Nodup ∧ ∀ j, j ∈ ky ps ↔ j ∈ l
theorem two_len {ps : Kvs} {items : List Itm} {s : Int} (hf : FilP items) (h : KeysOf ps (goL items [s])) : ps.length ≤ 2 := by
  obtain ⟨m, hm, h2⟩ := two_all _ items rfl hf
  have := nodup_sub (ky ps) [s / m * m, s / m * m + m] h.1 fun j hj => by
    rcases h2 s j ((h.2 j).mp hj) with e | e
    · rw [e]; simp
    · rw [e]; simp
  unfold ky at this
  rw [List.length_map] at this
  exact this
theorem e_shifts {xs : List Itm} (hx : xs.length ≤ 100) (hf : FilP xs) (first behind : Nat) (hb : behind ≤ xs.length) (hfi : first ≤ 1000) (s : Int) (M : Store) :
    ∃ ps, F_shifts_behind [.p (sk xs), .p (.int (first : Int)), .p (.int (behind : Int)), .p (.int s)] M = .ok (.p (kvI ps)) M ∧ KeysOf ps (goL (seg xs first behind) [s]) ∧ ∀ q ∈ ps, q.2.length ≤ 100 := by
  have main : Sat (fun o => ∃ ps R, o = .rt (.p (kvI ps)) (M ++ R) ∧ KeysOf ps (goL (seg xs first behind) [s]) ∧ ∀ q ∈ ps, q.2.length ≤ 100)
      (c_shifts_behind ([D.p (sk xs), D.p (.int (first : Int)), D.p (.int (behind : Int)), D.p (.int s)].map some ++ List.replicate (11 - 4) none) M) := by
    refine sat_any fun Φ hΦ => ?_
    have rg : ∀ M, rgo2 (first : Int) (behind : Int) M = .ok ((List.range' first (behind - first)).map fun p : Nat => D.p (.int (p : Int))) M := fun M => rgo2_nat (by omega) (by omega) M
    have kd : keyedD [(PyData.int s, D.p (.tuple []))] = some (kvDI [(s, [])]) := rfl
    have mg : mergeD [] (kvDI [(s, [])]) = kvDI [(s, [])] := rfl
    obtain ⟨R0, hR0⟩ := frz_I (M := M) (ps := [(s, [])])
    have dz : zfrz (zdisp (zpcons (zv 3) (zs mkTup znil) zpnil)) [some (.p (sk xs)), some (.p (.int (first : Int))), some (.p (.int (behind : Int))), some (.p (.int s)), none, none, none, none, none, none, none] M = .ok (.p (kvI [(s, [])])) (M ++ R0) := by
      rw [← hR0]
      have h15 : (kvDI [(s, [])]).length ≤ 15 := (show 1 ≤ 15 by decide)
      simp [zfrz, zdisp, zpcons, zpnil, mkTup, kd, mg, h15]
    show Sat Φ (c_shifts_behind [some (.p (sk xs)), some (.p (.int (first : Int))), some (.p (.int (behind : Int))), some (.p (.int s)), none, none, none, none, none, none, none] M)
    unfold c_shifts_behind
    rw [sseq_e, sset_e, dz]
    simp [rg]
    refine forP_seq _ _ (fun done sl M' => ∃ ps R d5 d6 d7 d8 d9 d10, sl = [some (.p (sk xs)), some (.p (.int (first : Int))), some (.p (.int (behind : Int))), some (.p (.int s)), some (.p (kvI ps)), d5, d6, d7, d8, d9, d10] ∧ M' = M ++ R ∧ KeysOf ps (goL (seg xs first (first + done.length)) [s]) ∧ ∀ q ∈ ps, q.2.length ≤ done.length)
      ⟨[(s, [])], R0, none, none, none, none, none, none, rfl, rfl, ?_, fun q hq => by rw [List.mem_singleton.mp hq]; exact Nat.zero_le _⟩ ?_ ?_
    · rw [List.length_nil, Nat.add_zero, seg_self xs first first (Nat.le_refl _)]
      exact ⟨by simp [ky], fun j => Iff.rfl⟩
    · rintro done p rest sl M' e ⟨ps, R, d5, d6, d7, d8, d9, d10, rfl, rfl, hk, hq⟩
      have hp : p = first + done.length ∧ p < behind := by
        have h1 : (List.range' first (behind - first))[done.length]? = some p := by rw [e]; simp
        obtain ⟨h2, h3⟩ := List.getElem?_eq_some_iff.mp h1
        rw [List.length_range'] at h2
        rw [List.getElem_range'] at h3
        omega
      have hxp := List.getElem?_eq_getElem (show p < xs.length by omega)
      have hl2 := two_len (seg_filP hf first (first + done.length)) hk
      obtain ⟨ps', R', d6', d7', d8', d9', d10', eb, ep⟩ := b_sb3 hxp hf (ps := ps) (n := done.length) (by omega) (by omega) hq (M ++ R) (d1 := some (.p (.int (first : Int)))) (d2 := some (.p (.int (behind : Int)))) (d3 := some (.p (.int s))) (d6 := d6) (d7 := d7) (d8 := d8) (d9 := d9) (d10 := d10)
      refine ⟨_, rfl, _, _, eb, ps', R ++ R', _, _, _, _, _, _, rfl, by rw [List.append_assoc], ?_, ?_⟩
      · rw [List.length_append, List.length_singleton, ← Nat.add_assoc, ← hp.1, seg_snoc (by omega) hxp, goL_snoc]
        rw [← hp.1] at hk
        cases hxx : xs[p] with
        | lab => rw [hxx] at ep; rw [ep]; exact hk
        | jmp g a b => rw [hxx] at ep; rw [ep]; exact hk
        | fil a =>
          rw [hxx] at ep
          rw [ep]
          show _
          unfold nextK
          simp only
          obtain ⟨f1, f2, f3⟩ := stepAll_facts p a done.length _ ps rfl hq
          refine ⟨f1.1, fun j => ?_⟩
          rw [f3]
          show _ ↔ j ∈ (goL (seg xs first p) [s]).flatMap fun k => rnd k a
          rw [List.mem_flatMap]
          constructor
          · rintro ⟨q, hq, hj⟩
            exact ⟨q.1, (hk.2 q.1).mp (List.mem_map.mpr ⟨q, hq, rfl⟩), hj⟩
          · rintro ⟨k, hkk, hj⟩
            obtain ⟨q, hq, rfl⟩ := List.mem_map.mp ((hk.2 k).mpr hkk)
            exact ⟨q, hq, hj⟩
      · rw [List.length_append, List.length_singleton]
        cases hxx : xs[p] with
        | lab => rw [hxx] at ep; rw [ep]; exact fun q h => Nat.le_succ_of_le (hq q h)
        | jmp g a b => rw [hxx] at ep; rw [ep]; exact fun q h => Nat.le_succ_of_le (hq q h)
        | fil a =>
          rw [hxx] at ep
          rw [ep]
          show _
          unfold nextK
          simp only
          exact (stepAll_facts p a done.length _ ps rfl hq).1.2
    · rintro sl M' ⟨ps, R, d5, d6, d7, d8, d9, d10, rfl, rfl, hk, hq⟩
      rw [List.length_range'] at hk hq
      simp
      refine hΦ _ ⟨ps, R, rfl, ?_, fun q h => by have := hq q h; omega⟩
      by_cases hfb : first ≤ behind
      · rw [show first + (behind - first) = behind by omega] at hk
        exact hk
      · rw [show first + (behind - first) = first by omega, seg_self xs first first (Nat.le_refl _)] at hk
        rw [seg_self xs first behind (by omega)]
        exact hk
  obtain ⟨ps, R, e, hk, hq⟩ := main
  exact ⟨ps, fn_rtN e, hk, hq⟩
end ZL

namespace ZL
open PySem PySem.Spec PyProof.Rows L2 Z
theorem keyed_I : ∀ ps : Kvs, keyed (ps.map fun q => (PyData.int q.1, PyData.tuple q.2)) = some (kvDI ps)
  | [] => rfl
  | q :: ps => by
    rw [List.map_cons, keyed, keyed_I ps]
    rfl
theorem ikeys_I : ∀ ps : Kvs, ikeys (kvDI ps) = some (ky ps)
  | [] => rfl
  | q :: ps => by
    show ikeys ((.inl q.1, .p (.tuple q.2)) :: kvDI ps) = _
    rw [ikeys, ikeys_I ps]
    rfl
theorem sortD_I {ps : Kvs} (h : (ky ps).Nodup) (hl : ps.length ≤ 60) (M : Store) : zSortD [.p (kvI ps)] M = .ok (.p (.list (pints (uns (ky ps))))) M := by
  unfold zSortD kvI
  simp only [dictv_d, keyed_I, ikeys_I]
  rw [if_pos ⟨h, by unfold ky; rw [List.length_map]; omega⟩]
  rfl
/-- first and second stretch put together -/
def pairI (ps : Kvs) (f : Int) (b : List P) (qs : Kvs) : Kvs := qs.foldl (fun acc q => putI acc (q.1 - f) (b ++ q.2)) ps
theorem pairI_snoc (ps : Kvs) (f : Int) (b : List P) (qs : Kvs) (q : Int × List P) : pairI ps f b (qs ++ [q]) = putI (pairI ps f b qs) (q.1 - f) (b ++ q.2) := by
  unfold pairI
  rw [List.foldl_append]
  rfl
theorem pairI_facts (ps : Kvs) (f : Int) (b : List P) : ∀ (m : Nat) (qs : Kvs), qs.length = m → (ky ps).Nodup → (ky (pairI ps f b qs)).Nodup ∧ (pairI ps f b qs).length ≤ ps.length + qs.length ∧ ∀ j, j ∈ ky (pairI ps f b qs) ↔ j ∈ ky ps ∨ ∃ k ∈ ky qs, j = k - f
  | 0, qs, h, hn => by
    rw [List.length_eq_zero_iff.mp h]
    exact ⟨hn, Nat.le_refl _, fun j => ⟨.inl, fun z => z.elim id fun ⟨k, hk, _⟩ => (by cases hk)⟩⟩
  | m + 1, qs, h, hn => by
    rcases List.eq_nil_or_concat qs with e | ⟨l, x, e⟩
    · rw [e] at h; cases h
    · rw [List.concat_eq_append] at e
      subst e
      obtain ⟨h1, h2, h3⟩ := pairI_facts ps f b m l (by simpa using h) hn
      rw [pairI_snoc]
      refine ⟨nd_put h1, ?_, fun j => ?_⟩
      · have := put_len (ps := pairI ps f b l) (k := x.1 - f) (l := b ++ x.2)
        rw [List.length_append, List.length_singleton]
        omega
      · rw [mem_ky_put, h3]
        have e : ky (l ++ [x]) = ky l ++ [x.1] := by simp [ky]
        rw [e]
        constructor
        · rintro ((hj | ⟨k, hk, e⟩) | e)
          · exact .inl hj
          · exact .inr ⟨k, List.mem_append_left _ hk, e⟩
          · exact .inr ⟨x.1, by simp, e⟩
        · rintro (hj | ⟨k, hk, e⟩)
          · exact .inl (.inl hj)
          · rcases List.mem_append.mp hk with hk | hk
            · exact .inl (.inr ⟨k, hk, e⟩)
            · rw [List.mem_singleton.mp hk] at e
              exact .inr e
theorem b_ac1 {ps : Kvs} {f : Int} {b : List P} {q : Int × List P} (hp : ps.length ≤ 500) (hb : b.length ≤ 1000) (hq : q.2.length ≤ 1000) (M : Store) {d0 d1 d2 d3 d4 d5 : Option D} :
    L_all_changes_1 [d0, d1, d2, d3, d4, d5, some (.ref M.length), some (.p (.int f)), some (.p (.tuple b)), some (.p (.int q.1)), some (.p (.tuple q.2))] (M ++ [.dic (kvDI ps)]) =
      .nx [d0, d1, d2, d3, d4, d5, some (.ref M.length), some (.p (.int f)), some (.p (.tuple b)), some (.p (.int q.1)), some (.p (.tuple q.2))] (M ++ [.dic (kvDI (putI ps (q.1 - f) (b ++ q.2)))]) := by
  have dp := dput_I (M := M) (ps := ps) (k := q.1 - f) (l := b ++ q.2) (by omega)
  have hz : b.length + q.2.length ≤ 16777216 := by omega
  simp [L_all_changes_1, zAdd, hz, dp]
theorem e_all_changes {xs : List Itm} (h : FrOk xs) {mate at_ : Nat} (hm : mate ∈ places Itm.isJ xs) (ha : at_ ∈ places Itm.isJ xs) (M : Store) :
    ∃ ps, F_all_changes [.p (sk xs), .p (.int (mate : Int)), .p (.int (at_ : Int))] M = .ok (.p (kvI ps)) M ∧ KeysOf ps (chgL xs mate at_) ∧ ps.length ≤ 60 := by
  obtain ⟨h1, h2, h3⟩ := h
  have xm := jmp_at hm
  have xa := jmp_at ha
  have hg := h3 at_ ha
  have hal := (List.getElem?_eq_some_iff.mp xa).1
  have hml := (List.getElem?_eq_some_iff.mp xm).1
  obtain ⟨lo, hlo⟩ : ∃ lo, lo = lowA xs at_ := ⟨_, rfl⟩
  obtain ⟨hi, hhi⟩ : ∃ hi, hi = highA xs at_ := ⟨_, rfl⟩
  have hhl : hi < xs.length ∧ lo ≤ hi := by rw [hhi, hlo]; unfold highA lowA; omega
  have ew : ∀ M, F_ends_of_way [.p (sk xs), .p (.int (at_ : Int))] M = .ok (.p (.tuple [.int (lo : Int), .int (hi : Int)])) M := fun M => by
    apply fn_rt0
    have em : ∀ M, zMin [.p (.int (at_ : Int)), .p (.int (goal xs at_ : Int))] M = .ok (.p (.int (lo : Int))) M := fun M => by
      rw [zMin_2, show min (at_ : Int) (goal xs at_) = (lo : Int) by rw [hlo]; unfold lowA; omega]
    have eM : ∀ M, zMax [.p (.int (at_ : Int)), .p (.int (goal xs at_ : Int))] M = .ok (.p (.int (hi : Int))) M := fun M => by
      rw [zMax_2, show max (at_ : Int) (goal xs at_) = (hi : Int) by rw [hhi]; unfold highA; omega]
    simp [-zMin_2, -zMax_2, c_ends_of_way, ix_sk _ xa, Itm.enc, em, eM, mkTup]
  have eg : longOf xs mate - shortOf xs mate = growA xs mate := rfl
  obtain ⟨g, hgg⟩ : ∃ g, g = growA xs mate := ⟨_, rfl⟩
  rw [← hgg] at eg
  have ix2 : ∀ g s l M, zIx (.p (Itm.jmp g s l).enc) (.p (.int 2)) M = .ok (.p (.int s)) M := fun _ _ _ _ => rfl
  have ix3 : ∀ g s l M, zIx (.p (Itm.jmp g s l).enc) (.p (.int 3)) M = .ok (.p (.int l)) M := fun _ _ _ _ => rfl
  have ec1 : ((mate : Int) + 1) = ((mate + 1 : Nat) : Int) := by omega
  have ec2 : ((lo : Int) + 1) = ((lo + 1 : Nat) : Int) := by omega
  unfold chgL
  rw [← hhi, ← hlo, ← hgg]
  by_cases c1 : hi < mate
  · rw [if_pos c1]
    refine ⟨[(0, [])], ?_, ⟨by simp [ky], fun j => by simp [ky]⟩, by decide⟩
    apply fn_satN
    have kd : keyedD [(PyData.int 0, D.p (.tuple []))] = some (kvDI [(0, [])]) := rfl
    have mg : mergeD [] (kvDI [(0, [])]) = kvDI [(0, [])] := rfl
    obtain ⟨R0, hR0⟩ := frz_I (M := M) (ps := [(0, [])])
    have h15 : (kvDI [(0, [])]).length ≤ 15 := by decide
    simp [c_all_changes, ew, ix_sk _ xm, ix2, ix3, eg, c1, zdisp, zpcons, zpnil, mkTup, kd, mg, h15, hR0, Sat]
  · rw [if_neg c1]
    by_cases c2 : lo < mate
    · rw [if_pos c2]
      obtain ⟨ps, e, hk, hq⟩ := e_shifts h1 h2 (mate + 1) hi (by omega) (by omega) g M
      rw [← ec1] at e
      refine ⟨ps, ?_, hk, by have := two_len (seg_filP h2 _ _) hk; omega⟩
      apply fn_rt0
      simp [c_all_changes, ew, ix_sk _ xm, ix2, ix3, eg, c1, c2, e]
    · rw [if_neg c2]
      have main : Sat (fun o => ∃ ps R, o = .rt (.p (kvI ps)) (M ++ R) ∧ KeysOf ps (diffs (seg xs (mate + 1) lo) (seg xs (lo + 1) hi) g) ∧ ps.length ≤ 60)
          (c_all_changes ([D.p (sk xs), D.p (.int (mate : Int)), D.p (.int (at_ : Int))].map some ++ List.replicate (11 - 3) none) M) := by
        refine sat_any fun Φ hΦ => ?_
        obtain ⟨ps1, e1, hk1, hq1⟩ := e_shifts h1 h2 (mate + 1) lo (by omega) (by omega) g (M ++ [.dic []])
        rw [← ec1] at e1
        have l1 := two_len (seg_filP h2 _ _) hk1
        have it1 : ∀ sl : Sl, sl = [some (.p (sk xs)), some (.p (.int (mate : Int))), some (.p (.int (at_ : Int))), some (.p (.int (lo : Int))), some (.p (.int (hi : Int))), some (.p (.int g)), some (.ref M.length), none, none, none, none] →
            zditems (zs (zfc 4 F_shifts_behind) (zcons (zv 0) (zcons (z2 zAdd (zv 1) (zk (.int 1))) (zcons (zv 3) (zcons (zv 5) znil))))) sl (M ++ [.dic []]) = .ok (ps1.map fun q => .p (.tuple [.int q.1, .tuple q.2])) (M ++ [.dic []]) := fun sl hsl => items_I ps1 (by subst hsl; simp [e1])
        simp [c_all_changes, ew, ix_sk _ xm, ix2, ix3, eg, c1, c2, zDnew]
        rw [it1 _ rfl]
        simp only [Out.thn_ok]
        have e0 : M ++ [Ob.dic []] = M ++ [.dic (kvDI [])] := rfl
        rw [e0]
        refine forP_seq _ _ (fun dn sl M' => ∃ ps d7 d8 d9 d10, sl = [some (.p (sk xs)), some (.p (.int (mate : Int))), some (.p (.int (at_ : Int))), some (.p (.int (lo : Int))), some (.p (.int (hi : Int))), some (.p (.int g)), some (.ref M.length), d7, d8, d9, d10] ∧ M' = M ++ [.dic (kvDI ps)] ∧ (ky ps).Nodup ∧ ps.length ≤ 2 * dn.length ∧ ∀ j, j ∈ ky ps ↔ ∃ f ∈ ky dn, ∃ k ∈ goL (seg xs (lo + 1) hi) [f], j = k - f)
          ⟨[], none, none, none, none, rfl, rfl, List.nodup_nil, Nat.le_refl _, fun j => ⟨fun z => (by cases z), fun ⟨f, hf, _⟩ => (by cases hf)⟩⟩ ?_ ?_
        · rintro dn q rest sl M' e ⟨ps, d7, d8, d9, d10, rfl, rfl, hn, hl, hmem⟩
          have hqm : q ∈ ps1 := by rw [e]; simp
          have hdl : dn.length ≤ 2 := by
            have := congrArg List.length e
            simp at this
            omega
          obtain ⟨ps2, e2, hk2, hq2⟩ := e_shifts h1 h2 (lo + 1) hi (by omega) (by omega) q.1 (M ++ [.dic (kvDI ps)])
          rw [← ec2] at e2
          have l2 := two_len (seg_filP h2 _ _) hk2
          have it2 : ∀ sl : Sl, sl = [some (.p (sk xs)), some (.p (.int (mate : Int))), some (.p (.int (at_ : Int))), some (.p (.int (lo : Int))), some (.p (.int (hi : Int))), some (.p (.int g)), some (.ref M.length), some (.p (.int q.1)), some (.p (.tuple q.2)), d9, d10] →
              zditems (zs (zfc 4 F_shifts_behind) (zcons (zv 0) (zcons (z2 zAdd (zv 3) (zk (.int 1))) (zcons (zv 4) (zcons (zv 7) znil))))) sl (M ++ [.dic (kvDI ps)]) = .ok (ps2.map fun q => .p (.tuple [.int q.1, .tuple q.2])) (M ++ [.dic (kvDI ps)]) := fun sl hsl => items_I ps2 (by subst hsl; simp [e2])
          refine ⟨_, rfl, ?_⟩
          refine sat_any fun Ψ hΨ => ?_
          show Sat Ψ (L_all_changes_2 [some (.p (sk xs)), some (.p (.int (mate : Int))), some (.p (.int (at_ : Int))), some (.p (.int (lo : Int))), some (.p (.int (hi : Int))), some (.p (.int g)), some (.ref M.length), some (.p (.int q.1)), some (.p (.tuple q.2)), d9, d10] (M ++ [.dic (kvDI ps)]))
          unfold L_all_changes_2
          rw [sfor_e, it2 _ rfl]
          simp only [Out.thn_ok]
          have e3 : M ++ [Ob.dic (kvDI ps)] = M ++ [.dic (kvDI (pairI ps q.1 q.2 []))] := rfl
          rw [e3]
          refine forP_last _ _ (fun dn2 sl M' => ∃ d9 d10, sl = [some (.p (sk xs)), some (.p (.int (mate : Int))), some (.p (.int (at_ : Int))), some (.p (.int (lo : Int))), some (.p (.int (hi : Int))), some (.p (.int g)), some (.ref M.length), some (.p (.int q.1)), some (.p (.tuple q.2)), d9, d10] ∧ M' = M ++ [.dic (kvDI (pairI ps q.1 q.2 dn2))]) ⟨d9, d10, rfl, rfl⟩ ?_ ?_
          · rintro dn2 q2 rest2 sl M' ee ⟨d9, d10, rfl, rfl⟩
            have hd2 : dn2.length ≤ 2 := by
              have := congrArg List.length ee
              simp at this
              omega
            have pf := (pairI_facts ps q.1 q.2 _ dn2 rfl hn).2.1
            have eb := b_ac1 (ps := pairI ps q.1 q.2 dn2) (f := q.1) (b := q.2) (q := q2) (by omega) (by have := hq1 q hqm; omega) (by have := hq2 q2 (by rw [ee]; simp); omega) M (d0 := some (.p (sk xs))) (d1 := some (.p (.int (mate : Int)))) (d2 := some (.p (.int (at_ : Int)))) (d3 := some (.p (.int (lo : Int)))) (d4 := some (.p (.int (hi : Int)))) (d5 := some (.p (.int g)))
            rw [← pairI_snoc] at eb
            exact ⟨_, rfl, _, _, eb, _, _, rfl, rfl⟩
          · rintro sl M' ⟨d9, d10, rfl, rfl⟩
            obtain ⟨p1, p2, p3⟩ := pairI_facts ps q.1 q.2 _ ps2 rfl hn
            refine hΨ _ ⟨_, _, rfl, pairI ps q.1 q.2 ps2, _, _, _, _, rfl, rfl, p1, by rw [List.length_append, List.length_singleton]; omega, fun j => ?_⟩
            rw [p3, hmem]
            have ek : ky (dn ++ [q]) = ky dn ++ [q.1] := by simp [ky]
            rw [ek]
            constructor
            · rintro (⟨f, hf, k, hk, e⟩ | ⟨k, hk, e⟩)
              · exact ⟨f, List.mem_append_left _ hf, k, hk, e⟩
              · exact ⟨q.1, by simp, k, (hk2.2 k).mp hk, e⟩
            · rintro ⟨f, hf, k, hk, e⟩
              rcases List.mem_append.mp hf with hf | hf
              · exact .inl ⟨f, hf, k, hk, e⟩
              · rw [List.mem_singleton.mp hf] at hk e
                exact .inr ⟨k, (hk2.2 k).mpr hk, e⟩
        · rintro sl M' ⟨ps, d7, d8, d9, d10, rfl, rfl, hn, hl, hmem⟩
          obtain ⟨R, hR⟩ := frz_I (M := M) (ps := ps)
          simp [hR]
          refine hΦ _ ⟨ps, R, rfl, ⟨hn, fun j => ?_⟩, by omega⟩
          rw [hmem]
          unfold diffs
          rw [List.mem_flatMap]
          constructor
          · rintro ⟨f, hf, k, hk, e⟩
            exact ⟨f, (hk1.2 f).mp hf, List.mem_map.mpr ⟨k, hk, e.symm⟩⟩
          · rintro ⟨f, hf, hj⟩
            obtain ⟨k, hk, e⟩ := List.mem_map.mp hj
            exact ⟨f, (hk1.2 f).mpr hf, k, hk, e.symm⟩
      obtain ⟨ps, R, e, hk, hl⟩ := main
      exact ⟨ps, fn_rtN e, hk, hl⟩
theorem e_changes {xs : List Itm} (h : FrOk xs) {mate at_ : Nat} (hm : mate ∈ places Itm.isJ xs) (ha : at_ ∈ places Itm.isJ xs) (M : Store) :
    F_changes [.p (sk xs), .p (.int (mate : Int)), .p (.int (at_ : Int))] M = .ok (.p (.tuple (pints (chg xs mate at_)))) M := by
  obtain ⟨ps, e, hk, hl⟩ := e_all_changes h hm ha M
  apply fn_rt0
  have so := sortD_I hk.1 hl M
  have ev : uns (ky ps) = chg xs mate at_ := uns_ext hk.2
  rw [ev] at so
  have tu : ∀ ns M, zTuple [.p (.list (pints ns))] M = .ok (.p (.tuple (pints ns))) M := fun ns M => by unfold zTuple; simp
  simp [c_changes, e, so, tu]
end ZL

namespace ZL
open PySem PySem.Spec PyProof.Rows L2 Z
inductive Kd where
  | L
  | F
  | J
deriving DecidableEq
def Kd.s : Kd → Str
  | .L => "label"
  | .F => "fill"
  | .J => "jump"
@[simp] theorem kd_J (k : Kd) : decide (k.s = ("jump" : Str)) = decide (k = .J) := by cases k <;> rfl
@[simp] theorem kd_F (k : Kd) : decide (k.s = ("fill" : Str)) = decide (k = .F) := by cases k <;> rfl
@[simp] theorem kd_L (k : Kd) : decide (k.s = ("label" : Str)) = decide (k = .L) := by cases k <;> rfl
def pstrs (ks : List Kd) : List P := ks.map fun k => .str k.s
def goalsOf (ks : List Kd) : List Nat := (ks.zipIdx.filter fun p => decide (p.1 = Kd.L)).map Prod.snd
theorem mem_goals {ks : List Kd} {j : Nat} : j ∈ goalsOf ks ↔ ks[j]? = some .L := by
  unfold goalsOf
  simp only [List.mem_map, List.mem_filter, decide_eq_true_eq]
  constructor
  · rintro ⟨⟨x, i⟩, ⟨h, rfl⟩, rfl⟩
    simpa using List.mem_zipIdx_iff_getElem?.mp h
  · intro h
    exact ⟨(.L, j), ⟨List.mem_zipIdx_iff_getElem?.mpr h, rfl⟩, rfl⟩
theorem len_goals (ks : List Kd) : (goalsOf ks).length ≤ ks.length := by
  unfold goalsOf
  rw [List.length_map]
  have := List.length_filter_le (fun p : Kd × Nat => decide (p.1 = Kd.L)) ks.zipIdx
  rw [List.length_zipIdx] at this
  exact this
def nJ (ks : List Kd) : Nat := (ks.filter fun k => decide (k = .J)).length
def nF (ks : List Kd) : Nat := (ks.filter fun k => decide (k = .F)).length
theorem nF_snoc (ks : List Kd) (k : Kd) : nF (ks ++ [k]) = nF ks + if k = .F then 1 else 0 := by
  unfold nF
  rw [List.filter_append, List.length_append]
  by_cases h : k = .F <;> simp [h]
theorem nJ_snoc (ks : List Kd) (k : Kd) : nJ (ks ++ [k]) = nJ ks + if k = .J then 1 else 0 := by
  unfold nJ
  rw [List.filter_append, List.length_append]
  by_cases h : k = .J <;> simp [h]
end ZL

namespace ZL
open PySem PySem.Spec PyProof.Rows L2 Z
theorem rep_p (x : P) (k : Nat) (hk : k ≤ 1000) (M : Store) : zMul (.p (.list [x])) (.p (.int (k : Int))) M = .ok (.p (.list (List.replicate k x))) M := by
  unfold zMul
  simp only [lstv_p]
  rw [if_pos ⟨by omega, by omega, by simp; omega⟩, Int.toNat_natCast]
  have : (List.replicate k ([x].map D.p)).flatten = (List.replicate k x).map .p := by
    induction k with
    | zero => rfl
    | succ k ih => rw [List.replicate_succ, List.flatten_cons, ih (by omega), List.replicate_succ]; rfl
  rw [this, frzl_map, if_pos (by simp; omega)]
theorem add_ps (a b : List P) (h : a.length + b.length ≤ 100000) (M : Store) : zAdd (.p (.list a)) (.p (.list b)) M = .ok (.p (.list (a ++ b))) M := by
  simp only [zAdd, zAddL, lstv_p]
  rw [← List.map_append, frzl_map, if_pos (by simp; omega)]
def decK : P → Kd
  | .str s => if s = (Kd.J).s then .J else if s = (Kd.F).s then .F else .L
  | _ => .L
theorem dec_s (k : Kd) : decK (.str k.s) = k := by
  have e : decK (.str k.s) = if k.s = (Kd.J).s then .J else if k.s = (Kd.F).s then .F else .L := rfl
  rw [e]
  have n1 : ¬ (Kd.L).s = (Kd.J).s := by decide +kernel
  have n2 : ¬ (Kd.L).s = (Kd.F).s := by decide +kernel
  have n3 : ¬ (Kd.F).s = (Kd.J).s := by decide +kernel
  cases k
  · rw [if_neg n1, if_neg n2]
  · rw [if_neg n3, if_pos rfl]
  · rw [if_pos rfl]
/-- the kinds, mixed -/
theorem perm_kinds {ys : List P} {ks : List Kd} (h : ys.Perm (pstrs ks)) : ∃ ms, ys = pstrs ms ∧ ms.Perm ks := by
  refine ⟨ys.map decK, ?_, ?_⟩
  · unfold pstrs
    rw [List.map_map]
    have : ∀ y ∈ ys, y = (fun k : Kd => PyData.str k.s) (decK y) := fun y hy => by
      obtain ⟨k, _, rfl⟩ := List.mem_map.mp (h.mem_iff.mp hy)
      show PyData.str k.s = PyData.str (decK (.str k.s)).s
      rw [dec_s]
    conv => lhs; rw [← List.map_id ys]
    exact List.map_congr_left this
  · have := h.map decK
    unfold pstrs at this
    rw [List.map_map] at this
    have e : ks.map (decK ∘ fun k : Kd => PyData.str k.s) = ks := by
      conv => rhs; rw [← List.map_id ks]
      exact List.map_congr_left fun k _ => dec_s k
    rw [e] at this
    exact this
/-- an item of a frame of n items -/
def okF (n : Nat) : Itm → Prop
  | .lab => True
  | .fil s => s ∈ P2
  | .jmp g s l => g < n ∧ 1 ≤ s ∧ s ≤ 9 ∧ s < l ∧ l ≤ 999
def Frm (xs : List Itm) (jumps : Nat) : Prop := (∀ x ∈ xs, okF xs.length x) ∧ xs.length ≤ 60 ∧ (places Itm.isJ xs).length = jumps
theorem Frm.ok {xs : List Itm} {j : Nat} (h : Frm xs j) : FrOk xs := ⟨by have := h.2.1; omega, fun s hs => h.1 _ hs, fun k hk => by
  have := h.1 _ (List.mem_of_getElem? (jmp_at hk))
  unfold growA
  exact ⟨this.1, by have := this.2.2.2.1; omega, by have h1 := this.2.1; have h2 := this.2.2.2.2; omega⟩⟩
theorem Frm.mod {xs : List Itm} {j : Nat} (h : Frm xs j) : ∀ x ∈ xs, Mod1 x := fun x hx => by
  have h2 := h.2.1
  have := h.1 x hx
  cases x with
  | lab => trivial
  | fil s =>
    have := p2_in (show s ∈ P2 from this)
    exact ⟨by omega, by omega⟩
  | jmp g s l => exact ⟨by have := this.1; omega, by have := this.2.1; omega, by have := this.2.2.1; omega, by have h1 := this.2.1; have h2 := this.2.2.2.1; omega, by have := this.2.2.2.2; omega⟩
/-- goals are labels -/
def GL (xs : List Itm) : Prop := ∀ k ∈ places Itm.isJ xs, xs[goal xs k]? = some .lab
theorem b_frame {q : Stq} (hq : q.ok) (R : Store) {acc : List Itm} {kd : Kd} {goals : List Nat} {n : Nat} {top growth : Int} (hl : acc.length ≤ 100) (hg : ∀ g ∈ goals, g < n) (hg0 : goals ≠ []) (hgl : goals.length ≤ 1000) (ht : 2 ≤ top) (hgr : growth ≤ 100000) {d1 d2 d3 d6 d10 : Option D} :
    Sat (fun o => ∃ (q' : Stq) (x : Itm) (d10 : Option D), o = .nx [some (.ref 1), d1, d2, d3, some (.p (.int top)), some (.p (.int growth)), d6, some (.p (.list (pnats goals))), some (.ref (R.length + 2)), some (.p (.str kd.s)), d10, none, none] (St q' ++ (R ++ [Ob.lst (encs (acc ++ [x]))])) ∧ q'.ok ∧ okF n x ∧ x.isJ = decide (kd = .J) ∧ (kd = .L → x = .lab) ∧ (∀ g s l, x = .jmp g s l → g ∈ goals) ∧ (∀ s, x = .fil s → s ≤ top) ∧ (kd = .F → ∃ s, x = .fil s))
      (L__law_frame_1 [some (.ref 1), d1, d2, d3, some (.p (.int top)), some (.p (.int growth)), d6, some (.p (.list (pnats goals))), some (.ref (R.length + 2)), some (.p (.str kd.s)), d10, none, none] (St q ++ (R ++ [Ob.lst (encs acc)]))) := by
  refine sat_any fun Φ hΦ => ?_
  have l1 : ∀ q ds, lstv (St q ++ (R ++ [Ob.lst ds])) (.ref (R.length + 2)) = some ds := fun q ds => lstvS rfl
  cases kd with
  | L =>
    have el : (PyData.tuple [.str (Kd.L).s]) = Itm.lab.enc := rfl
    have ap := appS (q := q) (R := R) (i := R.length + 2) (acc := acc) (x := .lab) rfl (by omega)
    simp [-zAppend_e, L__law_frame_1, mkTup, el, l1, ap]
    exact hΦ _ ⟨q, .lab, d10, rfl, hq, trivial, rfl, fun _ => rfl, fun _ _ _ z => (by cases z), fun _ z => (by cases z), fun z => (by cases z)⟩
  | F =>
    have co : ∀ Q : Store, compP (tgN 12) (zt (z2 zLe (zv 12) (zv 4))) (zv 12) [some (.ref 1), d1, d2, d3, some (.p (.int top)), some (.p (.int growth)), d6, some (.p (.list (pnats goals))), some (.ref (R.length + 2)), some (.p (.str (Kd.F).s)), d10, none, none] ((pints P2).map .p) Q = .ok ((pints (P2.filter fun s => decide (s ≤ top))).map .p) Q := fun Q => by
      rw [dp_pints, compP_map (M := Q) (fun s : Int => D.p (.int s)) (fun s => decide (s ≤ top)) (fun s : Int => D.p (.int s)), dp_pints]
      intro s _
      refine ⟨_, rfl, ?_, fun _ => rfl⟩
      simp
    obtain ⟨fs, hfs⟩ : ∃ fs, fs = P2.filter fun s => decide (s ≤ top) := ⟨_, rfl⟩
    rw [← hfs] at co
    have hf0 : 0 < fs.length := List.length_pos_of_mem (a := 2) (by rw [hfs]; exact List.mem_filter.mpr ⟨by decide, by simpa using ht⟩)
    have hfl : fs.length ≤ 6 := by rw [hfs]; exact Nat.le_trans (List.length_filter_le _ _) (by decide)
    have fz : ∀ Q, frzl ((pints fs).map .p) Q = .ok (.p (.list (pints fs))) Q := fun Q => by rw [frzl_map, if_pos (by simp; omega)]
    obtain ⟨x, q1, hx, ok1, e1⟩ := e_pick q hq (R ++ [Ob.lst (encs acc)]) (xs := pints fs) (by simpa using hf0) (by simp; omega)
    obtain ⟨f, hff, rfl⟩ := List.mem_map.mp hx
    rw [hfs] at hff
    have hfm : f ∈ P2 := (List.mem_filter.mp hff).1
    have hft : f ≤ top := of_decide_eq_true (List.mem_filter.mp hff).2
    have ef : (PyData.tuple [.str (Kd.F).s, .int f]) = (Itm.fil f).enc := rfl
    have ap := appS (q := q1) (R := R) (i := R.length + 2) (acc := acc) (x := .fil f) rfl (by omega)
    have e6 : ([.p (.int 2), .p (.int 4), .p (.int 8), .p (.int 16), .p (.int 32), .p (.int 64)] : List D) = (pints P2).map .p := rfl
    have it : ∀ Q, itemsOf (.p (.tuple [.int 2, .int 4, .int 8, .int 16, .int 32, .int 64])) Q = .ok ((pints P2).map .p) Q := fun Q => rfl
    simp [-zAppend_e, -frzl_map, -itemsOf_t, L__law_frame_1, mkTup, it, wipeS, co, fz, e1, ef, l1, ap]
    exact hΦ _ ⟨q1, .fil f, d10, rfl, ok1, hfm, rfl, fun z => (by cases z), fun _ _ _ z => (by cases z), fun _ z => (by cases z; exact hft), fun _ => ⟨f, rfl⟩⟩
  | J =>
    obtain ⟨k1, q1, hk1, ok1, e1⟩ := e_drawZ q hq (R ++ [Ob.lst (encs acc)]) (z := 9) (n := 9) rfl (by decide) (by decide)
    obtain ⟨sh, hsh⟩ : ∃ s : Int, s = 1 + (k1 : Int) := ⟨_, rfl⟩
    obtain ⟨x, q2, hx, ok2, e2⟩ := e_pick q1 ok1 (R ++ [Ob.lst (encs acc)]) (xs := pnats goals) (by
      have := List.length_pos_iff.mpr hg0
      simp; omega) (by simp; omega)
    obtain ⟨g, hgm, rfl⟩ := List.mem_map.mp hx
    obtain ⟨k3, q3, hk3, ok3, e3⟩ := e_drawN q2 ok2 (R ++ [Ob.lst (encs acc)]) (z := growth) hgr
    obtain ⟨lg, hlg⟩ : ∃ lg : Int, lg = min 999 (sh + 1 + (k3 : Int)) := ⟨_, rfl⟩
    have emin : ∀ M, zMin [.p (.int 999), .p (.int (sh + 1 + (k3 : Int)))] M = .ok (.p (.int lg)) M := fun M => by rw [zMin_2, hlg]
    have ej : (PyData.tuple [.str (Kd.J).s, .int (g : Int), .int sh, .int lg]) = (Itm.jmp g sh lg).enc := rfl
    have ap := appS (q := q3) (R := R) (i := R.length + 2) (acc := acc) (x := .jmp g sh lg) rfl (by omega)
    simp [-zAppend_e, -zMin_2, L__law_frame_1, mkTup, e1, ← hsh, e2, e3, emin, ej, l1, ap]
    exact hΦ _ ⟨q3, .jmp g sh lg, _, rfl, ok3, ⟨hg g hgm, by omega, by omega, by omega, by omega⟩, rfl, fun z => (by cases z), fun _ _ _ z => (by cases z; exact hgm), fun _ z => (by cases z), fun z => (by cases z)⟩
/-- what more is known of a frame: its fills are no greater than top, and there are some -/
def FrX (xs : List Itm) (n f : Nat) (top : Int) : Prop := (∀ s, Itm.fil s ∈ xs → s ≤ top) ∧ xs.length = n ∧ (xs.filter Itm.isF).length = f
theorem e_frameX {q : Stq} (hq : q.ok) (R : Store) {j f l : Nat} {top growth : Int} (hl : 1 ≤ l) (hn : j + f + l ≤ 60) (ht : 2 ≤ top) (hgr : growth ≤ 100000) :
    ∃ x q', (∃ xs, x = sk xs ∧ Frm xs j ∧ GL xs ∧ FrX xs (j + f + l) f top) ∧ q'.ok ∧ F__law_frame [.ref 1, .p (.int (j : Int)), .p (.int (f : Int)), .p (.int (l : Int)), .p (.int top), .p (.int growth)] (St q ++ R) = .ok (.p x) (St q' ++ R) := by
  apply fn_satS
  refine sat_any fun Φ hΦ => ?_
  have r1 := rep_p (.str "jump") j (by omega)
  have r2 := rep_p (.str "fill") f (by omega)
  have r3 := rep_p (.str "label") l (by omega)
  obtain ⟨k0, hk0⟩ : ∃ k0, k0 = List.replicate j Kd.J ++ List.replicate f Kd.F ++ List.replicate l Kd.L := ⟨_, rfl⟩
  have a1 : ∀ M, zAdd (.p (.list (List.replicate j (.str "jump")))) (.p (.list (List.replicate f (.str "fill")))) M = .ok (.p (.list (List.replicate j (.str "jump") ++ List.replicate f (.str "fill")))) M := add_ps _ _ (by simp; omega)
  have ek : List.replicate j (PyData.str "jump") ++ List.replicate f (.str "fill") ++ List.replicate l (.str "label") = pstrs k0 := by
    rw [hk0]
    simp [pstrs, Kd.s]
  have a2 : ∀ M, zAdd (.p (.list (List.replicate j (.str "jump") ++ List.replicate f (.str "fill")))) (.p (.list (List.replicate l (.str "label")))) M = .ok (.p (.list (pstrs k0))) M := fun M => by
    rw [add_ps _ _ (by simp; omega), ek]
  have hkl : k0.length = j + f + l := by rw [hk0]; simp; omega
  obtain ⟨y, q1, ⟨ys, rfl, pm⟩, ok1, em⟩ := e_mixed q hq R (x := .list (pstrs k0)) (xs := pstrs k0) (fun M => rfl) (fun x hx => by
    obtain ⟨k, _, rfl⟩ := List.mem_map.mp hx
    cases k <;> exact ⟨by decide +kernel, Nat.zero_le _⟩) (by unfold pstrs; rw [List.length_map]; omega)
  obtain ⟨ks, rfl, pk⟩ := perm_kinds pm
  have hks : ks.length = j + f + l := by rw [pk.length_eq, hkl]
  have hL : Kd.L ∈ ks := pk.mem_iff.mpr (by rw [hk0]; exact List.mem_append.mpr (.inr (List.mem_replicate.mpr ⟨by omega, rfl⟩)))
  have hnj : nJ ks = j := by
    unfold nJ
    rw [(pk.filter _).length_eq, hk0]
    simp [List.filter_append, List.filter_replicate]
  have hnf : nF ks = f := by
    unfold nF
    rw [(pk.filter _).length_eq, hk0]
    simp [List.filter_append, List.filter_replicate]
  have en : ∀ M, enumOf (.p (.list (pstrs ks))) M = .ok (ks.zipIdx.map fun p => D.p (.tuple [.int (p.2 : Nat), .str p.1.s])) M := fun M => by
    rw [enumOf_l, pstrs, enumFrom_map]
  have co : ∀ (M : Store) a0 a1 a2 a3 a4 a5 a6 a7 a8 a10, compP (tgT (tgsCons (tgN 11) (tgsCons (tgN 9) tgsNil))) (zt (z2 zEq (zv 9) (zk (.str "label")))) (zv 11) [a0, a1, a2, a3, a4, a5, a6, a7, a8, none, a10, none, none] (ks.zipIdx.map fun p => D.p (.tuple [.int (p.2 : Nat), .str p.1.s])) M = .ok ((pnats (goalsOf ks)).map .p) M := fun M a0 a1 a2 a3 a4 a5 a6 a7 a8 a10 => by
    rw [compP_map (M := M) _ (fun p => decide (p.1 = Kd.L)) (fun p => .p (.int (p.2 : Nat)))]
    · simp [goalsOf, pnats]
    · intro p _
      simp
  have hgl := len_goals ks
  have fz : ∀ Q, frzl ((pnats (goalsOf ks)).map .p) Q = .ok (.p (.list (pnats (goalsOf ks)))) Q := fun Q => by rw [frzl_map, if_pos (by simp; omega)]
  have it : ∀ M, itemsOf (.p (.list (pstrs ks))) M = .ok (ks.map fun k => D.p (.str k.s)) M := fun M => by simp [pstrs]
  have l2 : ∀ q : Stq, (St q).length + R.length = R.length + 2 := fun q => by rw [St_len]; omega
  simp [-frzl_map, -itemsOf_l, c__law_frame, mkLstF, r1, r2, r3, a1, a2, em, en, wipeS, co, fz, l2, it]
  have b0 : St q1 ++ (R ++ [Ob.lst []]) = St q1 ++ (R ++ [.lst (encs [])]) := rfl
  rw [b0]
  refine forP_seq _ _ (fun done sl M' => ∃ q' acc d9 d10, sl = [some (.ref 1), some (.p (.int (j : Int))), some (.p (.int (f : Int))), some (.p (.int (l : Int))), some (.p (.int top)), some (.p (.int growth)), some (.p (.list (pstrs ks))), some (.p (.list (pnats (goalsOf ks)))), some (.ref (R.length + 2)), d9, d10, none, none] ∧ M' = St q' ++ (R ++ [.lst (encs acc)]) ∧ q'.ok ∧ (∀ x ∈ acc, okF ks.length x) ∧ acc.length = done.length ∧ (acc.filter Itm.isJ).length = nJ done ∧ (∀ i : Nat, done[i]? = some Kd.L → acc[i]? = some Itm.lab) ∧ (∀ x ∈ acc, ∀ g s l, x = .jmp g s l → g ∈ goalsOf ks) ∧ (∀ s, Itm.fil s ∈ acc → s ≤ top) ∧ (acc.filter Itm.isF).length = nF done)
    ⟨q1, [], none, none, rfl, rfl, ok1, fun x hx => by simp at hx, rfl, rfl, fun i hi => by simp at hi, fun x hx => by simp at hx, fun x hx => by simp at hx, rfl⟩ ?_ ?_
  · rintro done kd rest sl M' e ⟨q', acc, d9, d10, rfl, rfl, ok, ha, hal, hj, hgl1, hgl2, hft, hfn⟩
    have hd : done.length ≤ 100 := by
      have := congrArg List.length e
      simp at this
      omega
    obtain ⟨q2, x, d10', e2, ok2, hx, hxj, hxl, hxg, hxt, hxf⟩ := b_frame ok R (acc := acc) (kd := kd) (goals := goalsOf ks) (n := ks.length) (top := top) (growth := growth) (by omega)
      (fun g hg => (List.getElem?_eq_some_iff.mp (mem_goals.mp hg)).1)
      (fun z => by
        obtain ⟨i, hi⟩ := List.getElem?_of_mem hL
        have := mem_goals.mpr hi
        rw [z] at this
        cases this)
      (by omega) ht hgr (d1 := some (.p (.int (j : Int)))) (d2 := some (.p (.int (f : Int)))) (d3 := some (.p (.int (l : Int)))) (d6 := some (.p (.list (pstrs ks)))) (d10 := d10)
    exact ⟨_, rfl, _, _, e2, q2, acc ++ [x], _, d10', rfl, rfl, ok2, fun y hy => by
      rcases List.mem_append.mp hy with h | h
      · exact ha y h
      · rw [List.mem_singleton.mp h]; exact hx, by simp [hal], by
      rw [nJ_snoc, List.filter_append, List.length_append, hj]
      congr 1
      by_cases c : kd = .J <;> simp [List.filter_cons, hxj, c], fun i hi => by
      by_cases hid : i < done.length
      · rw [List.getElem?_append_left hid] at hi
        rw [List.getElem?_append_left (by omega)]
        exact hgl1 i hi
      · have hil : i = done.length := by
          have := (List.getElem?_eq_some_iff.mp hi).1
          simp at this
          omega
        subst hil
        rw [List.getElem?_append_right (Nat.le_refl _), Nat.sub_self] at hi
        rw [List.getElem?_append_right (by omega), show done.length - acc.length = 0 by omega]
        have : kd = .L := by simpa using hi
        rw [hxl this]
        rfl, fun y hy g s l e => by
      rcases List.mem_append.mp hy with h | h
      · exact hgl2 y h g s l e
      · rw [List.mem_singleton.mp h] at e; exact hxg g s l e, fun s hs => by
      rcases List.mem_append.mp hs with h | h
      · exact hft s h
      · exact hxt s (List.mem_singleton.mp h).symm, by
      rw [nF_snoc, List.filter_append, List.length_append, hfn]
      congr 1
      cases kd with
      | F => obtain ⟨s, rfl⟩ := hxf rfl; rfl
      | L => rw [hxl rfl]; rfl
      | J =>
        cases x with
        | lab => cases hxj
        | fil s => cases hxj
        | jmp g s l => rfl⟩
  · rintro sl M' ⟨q', acc, d9, d10, rfl, rfl, ok, ha, hal, hj, hgl1, hgl2, hft, hfn⟩
    have t := tupS (q := q') (R := R) (Q := []) (i := R.length + 2) (xs := acc) rfl
    simp [t]
    exact hΦ _ ⟨_, q', [.lst (encs acc)], rfl, ok, acc, rfl, ⟨fun x hx => by rw [hal]; exact ha x hx, by omega, by rw [len_J, hj, hnj]⟩, fun k hk => hgl1 _ (mem_goals.mp (hgl2 _ (List.mem_of_getElem? (jmp_at hk)) _ _ _ rfl)), hft, by omega, by rw [hfn, hnf]⟩
theorem e_frame {q : Stq} (hq : q.ok) (R : Store) {j f l : Nat} {top growth : Int} (hl : 1 ≤ l) (hn : j + f + l ≤ 60) (ht : 2 ≤ top) (hgr : growth ≤ 100000) :
    ∃ x q', (∃ xs, x = sk xs ∧ Frm xs j ∧ GL xs) ∧ q'.ok ∧ F__law_frame [.ref 1, .p (.int (j : Int)), .p (.int (f : Int)), .p (.int (l : Int)), .p (.int top), .p (.int growth)] (St q ++ R) = .ok (.p x) (St q' ++ R) := by
  obtain ⟨x, q', ⟨xs, a, b, c, _⟩, h⟩ := e_frameX hq R hl hn ht hgr (f := f)
  exact ⟨x, q', ⟨xs, a, b, c⟩, h⟩
end ZL

namespace ZL
open PySem PySem.Spec PyProof.Rows L2 Z
def isJat (xs : List Itm) (p : Nat) : Bool := match xs[p]? with
  | some x => x.isJ
  | none => false
def kept (xs : List Itm) (o p : Nat) : Bool := ((xs.take p).drop (o + 1)).any fun x => x.isF && decide (szAt xs p ≤ x.sz)
def tripB (xs : List Itm) (p o : Nat) : Bool := !kept xs o p && decide ((longOf xs o - shortOf xs o) % szAt xs p ≠ 0)
def lowOf (xs : List Itm) (j : Nat) : Nat := min j (goal xs j)
def highOf (xs : List Itm) (j : Nat) : Nat := max j (goal xs j)
def fillsIn (xs : List Itm) (j : Nat) : List Nat := (List.range' (lowOf xs j + 1) (highOf xs j - (lowOf xs j + 1))).filter (isFat xs)
def othersOf (xs : List Itm) (j : Nat) : List Nat := (places Itm.isJ xs).filter fun o => decide (o < lowOf xs j)
def tripsAt (xs : List Itm) (j p : Nat) : List (Nat × Nat × Nat) := ((othersOf xs j).filter (tripB xs p)).map fun o => (j, p, o)
def tripsOf (xs : List Itm) (j : Nat) : List (Nat × Nat × Nat) := (fillsIn xs j).flatMap (tripsAt xs j)
def trips (xs : List Itm) : List (Nat × Nat × Nat) := (places Itm.isJ xs).flatMap (tripsOf xs)
def enc3 (t : Nat × Nat × Nat) : P := .tuple [.int (t.1 : Int), .int (t.2.1 : Int), .int (t.2.2 : Int)]
/-- the programs' data are in order: positive fills -/
def PSane (xs : List Itm) : Prop := ∀ s, Itm.fil s ∈ xs → 0 < s
theorem len_others (xs : List Itm) (j : Nat) : (othersOf xs j).length ≤ xs.length := Nat.le_trans (List.length_filter_le _ _) (len_places _ _)
theorem len_tripsAt (xs : List Itm) (j p : Nat) : (tripsAt xs j p).length ≤ xs.length := by
  unfold tripsAt
  rw [List.length_map]
  exact Nat.le_trans (List.length_filter_le _ _) (len_others _ _)
theorem len_flat2 {α β : Type} (f : α → List β) (b : Nat) : ∀ (l : List α), (∀ x ∈ l, (f x).length ≤ b) → (l.flatMap f).length ≤ b * l.length
  | [], _ => Nat.zero_le _
  | x :: l, h => by
    rw [List.flatMap_cons, List.length_append, List.length_cons, Nat.mul_succ]
    have h1 := h x List.mem_cons_self
    have h2 := len_flat2 f b l fun y hy => h y (List.mem_cons_of_mem _ hy)
    omega
theorem len_fillsIn {xs : List Itm} {j : Nat} (h : highOf xs j ≤ xs.length) : (fillsIn xs j).length ≤ xs.length := by
  unfold fillsIn
  refine Nat.le_trans (List.length_filter_le _ _) ?_
  rw [List.length_range']
  omega
theorem fil_at {xs : List Itm} {j p : Nat} (h : p ∈ fillsIn xs j) : xs[p]? = some (.fil (szAt xs p)) := by
  obtain ⟨_, h2⟩ := List.mem_filter.mp h
  unfold isFat at h2
  unfold szAt
  cases e : xs[p]? with
  | none => rw [e] at h2; cases h2
  | some x =>
    rw [e] at h2
    cases x with
    | fil s => rfl
    | _ => cases h2
def e3s (ts : List (Nat × Nat × Nat)) : List D := ts.map fun t => D.p (enc3 t)
theorem e3s_len (ts : List (Nat × Nat × Nat)) : (e3s ts).length = ts.length := by simp [e3s]
theorem in_range {xs : List Itm} {j : Nat} (hh : highOf xs j ≤ xs.length) {p : Nat} (hp : p ∈ List.range' (lowOf xs j + 1) (highOf xs j - (lowOf xs j + 1))) : p < xs.length := by
  rw [List.mem_range'_1] at hp
  omega
theorem high_le {xs : List Itm} (h : JSane xs) {j : Nat} (hj : j ∈ places Itm.isJ xs) : highOf xs j ≤ xs.length ∧ lowOf xs j ≤ xs.length := by
  have h1 := goal_le h hj
  have h2 := (List.getElem?_eq_some_iff.mp (jmp_at hj)).1
  unfold highOf lowOf
  omega
theorem jmp_other {xs : List Itm} {j o : Nat} (h : o ∈ othersOf xs j) : xs[o]? = some (.jmp (goal xs o) (shortOf xs o) (longOf xs o)) := jmp_at (List.mem_filter.mp h).1
theorem len_tripsOf {xs : List Itm} (hl : xs.length ≤ 200) {j : Nat} (hh : highOf xs j ≤ xs.length) : (tripsOf xs j).length ≤ 40000 := by
  unfold tripsOf
  have h1 := len_flat2 (tripsAt xs j) 200 (fillsIn xs j) fun p _ => Nat.le_trans (len_tripsAt xs j p) hl
  have h2 := len_fillsIn hh
  omega
theorem sh_3 (ts : List (Nat × Nat × Nat)) : SeqAt.shaped (.tuple (ts.map enc3)) = true ∧ SeqAt.shaped (.list (ts.map enc3)) = true := sh_tup enc3 1 (by decide) (fun t => ⟨rfl, Nat.le_refl _⟩) ts
end ZL

namespace ZL
open PySem PySem.Spec PyProof.Rows L2 Z
/-! ### triples -/
theorem places_range (xs : List Itm) : places Itm.isJ xs = (List.range xs.length).filter (isJat xs) := by
  have h : ∀ (ys zs : List Itm), ((ys.zipIdx zs.length).filter fun q => q.1.isJ).map Prod.snd = (List.range' zs.length ys.length).filter (isJat (zs ++ ys)) := by
    intro ys
    induction ys with
    | nil => intro zs; rfl
    | cons y ys ih =>
      intro zs
      have := ih (zs ++ [y])
      rw [List.length_append, List.length_singleton, List.append_assoc] at this
      rw [List.zipIdx_cons, List.length_cons, List.range'_succ]
      have e : isJat (zs ++ y :: ys) zs.length = y.isJ := by simp [isJat]
      have e2 : zs ++ ([y] ++ ys) = zs ++ y :: ys := by simp
      rw [e2] at this
      cases c : y.isJ with
      | true => rw [List.filter_cons_of_pos (by exact c), List.filter_cons_of_pos (by rw [e, c]), List.map_cons, this]
      | false => rw [List.filter_cons_of_neg (by simp [c]), List.filter_cons_of_neg (by simp [e, c]), this]
  have := h xs []
  simp only [List.length_nil, List.nil_append] at this
  unfold places
  rw [this, List.range_eq_range']
theorem others_range {xs : List Itm} {j : Nat} (h : lowOf xs j ≤ xs.length) : othersOf xs j = (List.range' 0 (lowOf xs j)).filter (isJat xs) := by
  unfold othersOf
  rw [places_range, List.filter_filter]
  have e : List.range xs.length = List.range' 0 (lowOf xs j) ++ List.range' (lowOf xs j) (xs.length - lowOf xs j) := by
    rw [List.range_eq_range']
    have := List.range'_append_1 (s := 0) (m := lowOf xs j) (n := xs.length - lowOf xs j)
    rw [Nat.zero_add] at this
    rw [this]
    congr 1
    omega
  rw [e, List.filter_append]
  have e2 : (List.range' (lowOf xs j) (xs.length - lowOf xs j)).filter (fun a => decide (a < lowOf xs j) && isJat xs a) = [] := by
    rw [List.filter_eq_nil_iff]
    intro a ha
    rw [List.mem_range'_1] at ha
    simp
    omega
  rw [e2, List.append_nil]
  apply List.filter_congr
  intro a ha
  rw [List.mem_range'_1] at ha
  rw [decide_eq_true (by omega), Bool.true_and]
theorem e_growth {xs : List Itm} {o g : Nat} {s l : Int} (M : Store) : F_growth [.p (Itm.jmp g s l).enc] M = .ok (.p (.int (l - s))) M := by
  apply fn_rt0
  simp [c_growth, Itm.enc]
theorem any_map_bool {α : Type} (f : α → Bool) (l : List α) : (l.map f).any id = l.any f := by
  induction l with
  | nil => rfl
  | cons x l ih => simp [ih]
theorem e_kept_away {xs : List Itm} (h : xs.length ≤ 1000) {o p : Nat} {s : Int} (hp : xs[p]? = some (.fil s)) (M : Store) :
    F_is_kept_away [.p (sk xs), .p (.int (o : Int)), .p (.int (p : Int))] M = .ok (.p (.bool (kept xs o p))) M := by
  apply fn_rt0
  obtain ⟨o1, ho⟩ : ∃ o1, o1 = o + 1 := ⟨_, rfl⟩
  have eo : (o : Int) + 1 = (o1 : Int) := by omega
  have es : szAt xs p = s := by simp [szAt, hp, Itm.sz]
  have ix1 : ∀ M, zIx (.p (Itm.fil s).enc) (.p (.int 1)) M = .ok (.p (.int s)) M := fun M => rfl
  unfold kept
  rw [es, ← ho]
  simp [c_is_kept_away, wipeS, eo, cutG_nn, -List.map_drop, -List.map_take]
  rw [compP_map (M := M) (fun x : Itm => D.p x.enc) (fun _ => true) (fun x : Itm => D.p (.bool (x.isF && decide (s ≤ x.sz))))]
  · rw [List.filter_eq_self.mpr fun _ _ => rfl]
    have hz : ((xs.take p).drop o1).length ≤ 16777216 := by simp; omega
    have hb : boolsOf (((xs.take p).drop o1).map fun x => D.p (.bool (x.isF && decide (s ≤ x.sz)))) = some (((xs.take p).drop o1).map fun x => x.isF && decide (s ≤ x.sz)) := by
      have := boolsOf_map (((xs.take p).drop o1).map fun x => x.isF && decide (s ≤ x.sz))
      rw [List.map_map] at this
      exact this
    have za : ∀ M, zAny [.p (.list (((xs.take p).drop o1).map fun x => PyData.bool (x.isF && decide (s ≤ x.sz))))] M = .ok (.p (.bool (((xs.take p).drop o1).any fun x => x.isF && decide (s ≤ x.sz)))) M := fun M => by
      unfold zAny
      simp only [lstv_p, List.map_map]
      rw [show (D.p ∘ fun x : Itm => PyData.bool (x.isF && decide (s ≤ x.sz))) = fun x => D.p (.bool (x.isF && decide (s ≤ x.sz))) from rfl, hb]
      simp only [any_map_bool]
    have hz2 : min p xs.length - o1 ≤ 16777216 := by simpa using hz
    simp [-List.map_drop, -List.map_take, hz2, za]
  · intro x _
    refine ⟨_, rfl, rfl, fun _ => ?_⟩
    cases hx : x.isF with
    | false => simp [hx]
    | true => simp [hx, ix_sz _ hx, ix_sk _ hp, ix1]
theorem e_is_triple {xs : List Itm} (h : xs.length ≤ 1000) (hps : PSane xs) {o p g : Nat} {s a b : Int} (hp : xs[p]? = some (.fil s)) (ho : xs[o]? = some (.jmp g a b)) (M : Store) :
    F_is_triple [.p (sk xs), .p (.int (p : Int)), .p (.int (o : Int))] M = .ok (.p (.bool (tripB xs p o))) M := by
  apply fn_rt0
  have es : szAt xs p = s := by simp [szAt, hp, Itm.sz]
  have e1 : longOf xs o = b := by simp [longOf, ho]
  have e2 : shortOf xs o = a := by simp [shortOf, ho]
  have hs : 0 < s := hps s (List.mem_of_getElem? hp)
  have ix1 : ∀ M, zIx (.p (Itm.fil s).enc) (.p (.int 1)) M = .ok (.p (.int s)) M := fun M => rfl
  have k := e_kept_away h hp (o := o)
  have gr := fun M => e_growth (xs := xs) (o := o) (g := g) (s := a) (l := b) M
  unfold tripB
  rw [es, e1, e2]
  cases hk : kept xs o p with
  | true => simp [c_is_triple, k, hk]
  | false => simp [c_is_triple, k, hk, ix_sk _ hp, ix_sk _ ho, ix1, gr, hs]
theorem b_trip1 {xs : List Itm} (h : JSane xs) (hps : PSane xs) {j p : Nat} (hj : j ∈ places Itm.isJ xs) (hp : p ∈ fillsIn xs j) (M : Store) {ts : List (Nat × Nat × Nat)} (hts : ts.length ≤ 16000000) {d3 d6 : Option D} :
    L_triples_1 [some (.p (sk xs)), some (.ref M.length), some (.p (.int (j : Int))), d3, some (.p (.list (pnats (othersOf xs j)))), some (.p (.int (p : Int))), d6, none] (M ++ [Ob.lst (e3s ts)]) =
      .nx [some (.p (sk xs)), some (.ref M.length), some (.p (.int (j : Int))), d3, some (.p (.list (pnats (othersOf xs j)))), some (.p (.int (p : Int))), d6, none] (M ++ [Ob.lst (e3s (ts ++ tripsAt xs j p))]) := by
  have hl := len_tripsAt xs j p
  have hxl := h.1
  simp [L_triples_1, wipeS, dp_pnats]
  rw [compP_map (M := M ++ [Ob.lst (e3s ts)]) (fun o : Nat => D.p (.int (o : Int))) (tripB xs p) (fun o : Nat => D.p (enc3 (j, p, o)))]
  · have hz : ((othersOf xs j).filter (tripB xs p)).length ≤ 16777216 := by
      unfold tripsAt at hl
      rw [List.length_map] at hl
      omega
    have hz2 : ts.length + ((othersOf xs j).filter (tripB xs p)).length ≤ 16777216 := by
      unfold tripsAt at hl
      rw [List.length_map] at hl
      omega
    simp [hz, hz2, e3s_len]
    simp [e3s, tripsAt]
  · intro o ho
    have it := e_is_triple h.1 hps (fil_at hp) (jmp_other ho) (o := o)
    refine ⟨_, rfl, ?_, fun _ => ?_⟩
    · simp [it]
    · simp [mkTup, enc3]
theorem tr_cons (x y z : P) : PyData.tuple [x, y, z] = PyData.tuple [x, y, z] := rfl
theorem b_trip2 {xs : List Itm} (h : JSane xs) (hps : PSane xs) (hlen : xs.length ≤ 200) {j : Nat} (hj : j ∈ places Itm.isJ xs) (M : Store) {ts : List (Nat × Nat × Nat)} (hts : ts.length ≤ 8000000) {d3 d4 d5 : Option D} :
    Sat (fun out => ∃ d3 d4 d5, out = .nx [some (.p (sk xs)), some (.ref M.length), some (.p (.int (j : Int))), d3, d4, d5, none, none] (M ++ [Ob.lst (e3s (ts ++ tripsOf xs j))]))
    (L_triples_2 [some (.p (sk xs)), some (.ref M.length), some (.p (.int (j : Int))), d3, d4, d5, none, none] (M ++ [Ob.lst (e3s ts)])) := by
  obtain ⟨hh, hlo⟩ := high_le h hj
  have hx := jmp_at hj
  have hg := goal_le h hj
  have iw : ∀ M, F_in_way [.p (sk xs), .p (.int (j : Int))] M = .ok (.p (.tuple (pnats (List.range' (lowOf xs j + 1) (highOf xs j - (lowOf xs j + 1)))))) M := fun M => by
    rw [e_in_way hx h.1 (by omega), show min (j : Int) (goal xs j) + 1 = ((lowOf xs j + 1 : Nat) : Int) by unfold lowOf; omega, show max (j : Int) (goal xs j) = ((highOf xs j : Nat) : Int) by unfold highOf; omega, rgP_nat]
  have aw : ∀ M, F_ahead_of_way [.p (sk xs), .p (.int (j : Int))] M = .ok (.p (.tuple (pnats (List.range' 0 (lowOf xs j))))) M := fun M => by
    rw [e_ahead hx h.1 (by omega), show min (j : Int) (goal xs j) = ((lowOf xs j : Nat) : Int) by unfold lowOf; omega]
    have := rgP_nat 0 (lowOf xs j)
    simp at this
    rw [this]
  have c1 : ∀ (Q : Store) a1 a3 a4 a5, compP (tgN 6) (zt (z2 zEq (z2 zIx (z2 zIx (zv 0) (zv 6)) (zk (.int 0))) (zk (.str "fill")))) (zv 6) [some (.p (sk xs)), a1, some (.p (.int (j : Int))), a3, a4, a5, none, none] ((List.range' (lowOf xs j + 1) (highOf xs j - (lowOf xs j + 1))).map fun p : Nat => D.p (.int (p : Int))) Q = .ok ((pnats (fillsIn xs j)).map .p) Q := fun Q a1 a3 a4 a5 => by
    rw [compP_map (M := Q) (fun p : Nat => D.p (.int (p : Int))) (isFat xs) (fun p : Nat => D.p (.int (p : Int))), dp_pnats]
    · rfl
    · intro p hp
      have hy := List.getElem?_eq_getElem (in_range hh hp)
      refine ⟨_, rfl, ?_, fun _ => rfl⟩
      simp [isFat, ix_sk _ hy, hy]
  have c2 : ∀ (Q : Store) a1 a3 a4 a5, compP (tgN 6) (zt (z2 zEq (z2 zIx (z2 zIx (zv 0) (zv 6)) (zk (.int 0))) (zk (.str "jump")))) (zv 6) [some (.p (sk xs)), a1, some (.p (.int (j : Int))), a3, a4, a5, none, none] ((List.range' 0 (lowOf xs j)).map fun p : Nat => D.p (.int (p : Int))) Q = .ok ((pnats (othersOf xs j)).map .p) Q := fun Q a1 a3 a4 a5 => by
    rw [others_range hlo, compP_map (M := Q) (fun p : Nat => D.p (.int (p : Int))) (isJat xs) (fun p : Nat => D.p (.int (p : Int))), dp_pnats]
    intro p hp
    have hy := List.getElem?_eq_getElem (show p < xs.length by rw [List.mem_range'_1] at hp; omega)
    refine ⟨_, rfl, ?_, fun _ => rfl⟩
    simp [isJat, ix_sk _ hy, hy]
  have z1 : (fillsIn xs j).length ≤ 16777216 := by have := len_fillsIn hh; omega
  have z2' : (othersOf xs j).length ≤ 16777216 := by have := len_others xs j; omega
  simp [L_triples_2, iw, aw, wipeS, dp_pnats, c1, c2, z1, z2']
  refine forP_last _ _ (fun done sl M' => ∃ d5, sl = [some (.p (sk xs)), some (.ref M.length), some (.p (.int (j : Int))), some (.p (.list (pnats (fillsIn xs j)))), some (.p (.list (pnats (othersOf xs j)))), d5, none, none] ∧ M' = M ++ [Ob.lst (e3s (ts ++ done.flatMap (tripsAt xs j)))])
    ⟨d5, rfl, by simp⟩ ?_ ?_
  · rintro done p rest sl M' e ⟨d5, rfl, rfl⟩
    have hp : p ∈ fillsIn xs j := by rw [e]; simp
    have hd : (done.flatMap (tripsAt xs j)).length ≤ 40000 := by
      have h1 := len_flat2 (tripsAt xs j) 200 done fun p _ => Nat.le_trans (len_tripsAt xs j p) hlen
      have h2 := len_fillsIn hh
      rw [e] at h2
      simp at h2
      omega
    exact ⟨_, rfl, _, _, b_trip1 h hps hj hp M (by rw [List.length_append]; omega), some (.p (.int p)), rfl, by simp⟩
  · rintro sl M' ⟨d5, rfl, rfl⟩
    exact ⟨_, _, _, rfl⟩
theorem e_triples {xs : List Itm} (h : JSane xs) (hps : PSane xs) (hlen : xs.length ≤ 200) (M : Store) : F_triples [.p (sk xs)] M = .ok (.p (.tuple ((trips xs).map enc3))) M := by
  apply fn_satN
  simp [c_triples, e_jumps_of h.1, dp_pnats]
  refine forP_seq _ _ (fun done sl M' => ∃ d2 d3 d4 d5, sl = [some (.p (sk xs)), some (.ref M.length), d2, d3, d4, d5, none, none] ∧ M' = M ++ [Ob.lst (e3s (done.flatMap (tripsOf xs)))])
    ⟨none, none, none, none, rfl, rfl⟩ ?_ ?_
  · rintro done j rest sl M' e ⟨d2, d3, d4, d5, rfl, rfl⟩
    have hj : j ∈ places Itm.isJ xs := by rw [e]; simp
    have hd : (done.flatMap (tripsOf xs)).length ≤ 8000000 := by
      have h1 := len_flat2 (tripsOf xs) 40000 done fun i hi => by
        have hi' : i ∈ places Itm.isJ xs := by rw [e]; simp [hi]
        exact len_tripsOf hlen (high_le h hi').1
      have h2 := len_places Itm.isJ xs
      rw [e] at h2
      simp at h2
      omega
    obtain ⟨d3', d4', d5', e2⟩ := b_trip2 h hps hlen hj M hd (d3 := d3) (d4 := d4) (d5 := d5)
    exact ⟨_, rfl, _, _, e2, some (.p (.int j)), d3', d4', d5', rfl, by simp⟩
  · rintro sl M' ⟨d2, d3, d4, d5, rfl, rfl⟩
    have t : ∀ Q, zTuple [.ref M.length] (M ++ Ob.lst (e3s (trips xs)) :: Q) = .ok (.p (.tuple ((trips xs).map enc3))) (M ++ Ob.lst (e3s (trips xs)) :: Q) := fun Q => by
      simp [zTuple, e3s]
    have t0 := t []
    unfold trips at t0 ⊢
    simp [t0, Sat]
end ZL

namespace ZL
open PySem PySem.Spec PyProof.Rows L2 Z
/-! the law's _law_triples -/
theorem app_3 {M : Store} {ts : List (Nat × Nat × Nat)} {t : Nat × Nat × Nat} (h : ts.length ≤ 16000000) : zAppend (.ref M.length) [.p (enc3 t)] (M ++ [Ob.lst (e3s ts)]) = .ok (.p .none) (M ++ [Ob.lst (e3s (ts ++ [t]))]) := by
  have hzt : ts.length < 16777216 := by omega
  rw [zAppend_e]
  simp [e3s_len, hzt]
  simp [e3s]
theorem cmp_enc (x : Itm) : Cmp x.enc := ⟨lay_itm.can x, Nat.le_trans (lay_itm.dep x) (by decide)⟩
theorem b_t1 {xs : List Itm} (h : xs.length ≤ 1000) (hps : PSane xs) {j p o g : Nat} {s a b : Int} (hp : xs[p]? = some (.fil s)) (ho : xs[o]? = some (.jmp g a b)) (M : Store) {ts : List (Nat × Nat × Nat)} (hts : ts.length ≤ 16000000) {d3 d4 d7 d8 : Option D} :
    Sat (fun out => ∃ d7 d8, out = .nx [some (.p (sk xs)), some (.ref M.length), some (.p (.int (j : Int))), d3, d4, some (.p (.int (p : Int))), some (.p (.int (o : Int))), d7, d8, none] (M ++ [Ob.lst (e3s (ts ++ if tripB xs p o then [(j, p, o)] else []))]))
    (L__law_triples_1 [some (.p (sk xs)), some (.ref M.length), some (.p (.int (j : Int))), d3, d4, some (.p (.int (p : Int))), some (.p (.int (o : Int))), d7, d8, none] (M ++ [Ob.lst (e3s ts)])) := by
  refine sat_any fun Φ hΦ => ?_
  have es : szAt xs p = s := by simp [szAt, hp, Itm.sz]
  have e1 : longOf xs o = b := by simp [longOf, ho]
  have e2 : shortOf xs o = a := by simp [shortOf, ho]
  have hs : 0 < s := hps s (List.mem_of_getElem? hp)
  have ix1 : ∀ M, zIx (.p (Itm.fil s).enc) (.p (.int 1)) M = .ok (.p (.int s)) M := fun M => rfl
  have ix2 : ∀ M, zIx (.p (Itm.jmp g a b).enc) (.p (.int 2)) M = .ok (.p (.int a)) M := fun M => rfl
  have ix3 : ∀ M, zIx (.p (Itm.jmp g a b).enc) (.p (.int 3)) M = .ok (.p (.int b)) M := fun M => rfl
  obtain ⟨bt, hbt⟩ : ∃ bt, bt = (((xs.take p).drop (o + 1)).filter fun x => x.isF && decide (s ≤ x.sz)) := ⟨_, rfl⟩
  have hk : kept xs o p = !decide (bt = []) := by
    unfold kept
    rw [es, hbt, Bool.eq_iff_iff, List.any_eq_true]
    simp
  have hz : bt.length ≤ 1000 := by
    rw [hbt]
    refine Nat.le_trans (List.length_filter_le _ _) ?_
    simp
    omega
  have eo : ((o : Int) + 1) = ((o + 1 : Nat) : Int) := by omega
  have sl : ∀ M, zSl (.p (sk xs)) (some ((o : Int) + 1)) (some (p : Int)) M = .ok (.p (sk ((xs.take p).drop (o + 1)))) M := fun M => by rw [eo, sl_sk, cutG_nn]
  have co : ∀ (Q : Store), compP (tgN 9) (ztand (zt (z2 zEq (z2 zIx (zv 9) (zk (.int 0))) (zk (.str "fill")))) (zt (z2 zGe (z2 zIx (zv 9) (zk (.int 1))) (zv 7)))) (zv 9)
      [some (.p (sk xs)), some (.ref M.length), some (.p (.int (j : Int))), d3, d4, some (.p (.int (p : Int))), some (.p (.int (o : Int))), some (.p (.int s)), d8, none] (((xs.take p).drop (o + 1)).map fun x => D.p x.enc) Q = .ok ((bt.map Itm.enc).map .p) Q := fun Q => by
    rw [compP_map (M := Q) (fun x : Itm => D.p x.enc) (fun x => x.isF && decide (s ≤ x.sz)) (fun x : Itm => D.p x.enc), dp_enc, hbt]
    intro x _
    refine ⟨_, rfl, ?_, fun _ => rfl⟩
    cases hx : x.isF with
    | false => simp [hx]
    | true => simp [hx, ix_sz _ hx]
  have fz : ∀ Q, frzl ((bt.map Itm.enc).map .p) Q = .ok (.p (.list (bt.map Itm.enc))) Q := fun Q => by rw [frzl_map, if_pos (by rw [List.length_map, sizeLine_val]; omega)]
  have eq0 := eq_nil_l (xs := bt.map Itm.enc) fun x hx => by
    obtain ⟨y, _, rfl⟩ := List.mem_map.mp hx
    exact cmp_enc y
  have hbn : decide (bt.map Itm.enc = []) = decide (bt = []) := by
    rw [decide_eq_decide]
    exact List.map_eq_nil_iff
  rw [hbn] at eq0
  have ap := app_3 (M := M) (ts := ts) (t := (j, p, o)) hts
  have mk : PyData.tuple [.int (j : Int), .int (p : Int), .int (o : Int)] = enc3 (j, p, o) := rfl
  obtain ⟨seg, hseg⟩ : ∃ seg, seg = (xs.take p).drop (o + 1) := ⟨_, rfl⟩
  rw [← hseg] at sl co
  obtain ⟨bl, hbl⟩ : ∃ bl, bl = bt.map Itm.enc := ⟨_, rfl⟩
  rw [← hbl] at co fz eq0
  have it : ∀ Q, itemsOf (.p (sk seg)) Q = .ok (seg.map fun x => .p x.enc) Q := fun Q => items_sk seg Q
  unfold tripB at hΦ
  rw [es, e1, e2, hk] at hΦ
  by_cases hb : bt = []
  · have hd : decide (bt = []) = true := decide_eq_true hb
    rw [hd] at eq0 hΦ
    by_cases hm : (b - a) % s = 0
    · have hn : ¬ (0 < (b - a) % s) := by omega
      simp [hm] at hΦ
      simp [-zAppend_e, -sl_sk, -frzl_map, L__law_triples_1, ix_sk _ hp, ix_sk _ ho, ix1, ix2, ix3, sl, wipeS, co, fz, mkLstF, eq0, zInt, hs, hm]
      exact hΦ _ _ _ rfl
    · have hn : 0 < (b - a) % s := by
        have := Int.emod_nonneg (b - a) (b := s) (by omega)
        omega
      simp [hm] at hΦ
      simp [-zAppend_e, -sl_sk, -frzl_map, L__law_triples_1, ix_sk _ hp, ix_sk _ ho, ix1, ix2, ix3, sl, wipeS, co, fz, mkLstF, eq0, zInt, hs, hn, mkTup, mk, ap]
      exact hΦ _ _ _ rfl
  · have hd : decide (bt = []) = false := decide_eq_false hb
    rw [hd] at eq0 hΦ
    simp at hΦ
    simp [-zAppend_e, -sl_sk, -frzl_map, L__law_triples_1, ix_sk _ hp, ix_sk _ ho, ix1, ix2, ix3, sl, wipeS, co, fz, mkLstF, eq0, zInt, hs]
    exact hΦ _ _ _ rfl
end ZL

namespace ZL
open PySem PySem.Spec PyProof.Rows L2 Z
theorem filt_snoc {α β : Type} (p : α → Bool) (f : α → β) (a : List α) (x : α) : ((a ++ [x]).filter p).map f = (a.filter p).map f ++ if p x then [f x] else [] := by
  cases h : p x <;> simp [h]
theorem b_t2 {xs : List Itm} (h : JSane xs) (hps : PSane xs) (hlen : xs.length ≤ 200) {j p : Nat} (hj : j ∈ places Itm.isJ xs) (hp : p ∈ fillsIn xs j) (M : Store) {ts : List (Nat × Nat × Nat)} (hts : ts.length ≤ 15000000) {d4 d6 d7 d8 : Option D} :
    Sat (fun out => ∃ d6 d7 d8, out = .nx [some (.p (sk xs)), some (.ref M.length), some (.p (.int (j : Int))), some (.p (.int (lowOf xs j : Int))), d4, some (.p (.int (p : Int))), d6, d7, d8, none] (M ++ [Ob.lst (e3s (ts ++ tripsAt xs j p))]))
    (L__law_triples_2 [some (.p (sk xs)), some (.ref M.length), some (.p (.int (j : Int))), some (.p (.int (lowOf xs j : Int))), d4, some (.p (.int (p : Int))), d6, d7, d8, none] (M ++ [Ob.lst (e3s ts)])) := by
  refine sat_any fun Φ hΦ => ?_
  obtain ⟨lo, hlo⟩ : ∃ lo, lo = lowOf xs j := ⟨_, rfl⟩
  rw [← hlo] at hΦ ⊢
  have lj := e_law_jumps h.1
  have co : ∀ (Q : Store) a1 a2 a4 a5 a6 a7 a8, compP (tgN 9) (zt (z2 zLt (zv 9) (zv 3))) (zv 9) [some (.p (sk xs)), a1, a2, some (.p (.int (lo : Int))), a4, a5, a6, a7, a8, none] ((pnats (places Itm.isJ xs)).map .p) Q = .ok ((pnats (othersOf xs j)).map .p) Q := fun Q a1 a2 a4 a5 a6 a7 a8 => by
    rw [dp_pnats, compP_map (M := Q) (fun o : Nat => D.p (.int (o : Int))) (fun o => decide (o < lo)) (fun o : Nat => D.p (.int (o : Int))), dp_pnats]
    · unfold othersOf
      rw [hlo]
    · intro o _
      refine ⟨_, rfl, ?_, fun _ => rfl⟩
      simp
  have lo' := len_others xs j
  have fz : ∀ Q, frzl ((pnats (othersOf xs j)).map .p) Q = .ok (.p (.list (pnats (othersOf xs j)))) Q := fun Q => by rw [frzl_map, if_pos (by simp; omega)]
  have it : ∀ js Q, itemsOf (.p (.list (pnats js))) Q = .ok ((pnats js).map .p) Q := fun js Q => rfl
  obtain ⟨os, hos⟩ : ∃ os, os = othersOf xs j := ⟨_, rfl⟩
  rw [← hos] at co fz
  simp [-itemsOf_l, -frzl_map, L__law_triples_2, lj, it, wipeS, co, fz]
  simp only [dp_pnats]
  refine forP_last _ _ (fun done sl M' => ∃ d6 d7 d8, sl = [some (.p (sk xs)), some (.ref M.length), some (.p (.int (j : Int))), some (.p (.int (lo : Int))), d4, some (.p (.int (p : Int))), d6, d7, d8, none] ∧ M' = M ++ [Ob.lst (e3s (ts ++ (done.filter (tripB xs p)).map fun o => (j, p, o)))])
    ⟨d6, d7, d8, rfl, by simp⟩ ?_ ?_
  · rintro done o rest sl M' e ⟨d6, d7, d8, rfl, rfl⟩
    have ho : o ∈ othersOf xs j := by rw [← hos, e]; simp
    have hd : ((done.filter (tripB xs p)).map fun o => (j, p, o)).length ≤ 200 := by
      rw [List.length_map]
      refine Nat.le_trans (List.length_filter_le _ _) ?_
      rw [← hos, e] at lo'
      simp at lo'
      omega
    obtain ⟨d7', d8', e2⟩ := b_t1 h.1 hps (j := j) (fil_at hp) (jmp_other ho) M (ts := ts ++ (done.filter (tripB xs p)).map fun o => (j, p, o)) (by rw [List.length_append]; omega) (d3 := some (.p (.int (lo : Int)))) (d4 := d4) (d7 := d7) (d8 := d8)
    refine ⟨_, rfl, _, _, e2, some (.p (.int o)), d7', d8', rfl, ?_⟩
    rw [filt_snoc, List.append_assoc]
  · rintro sl M' ⟨d6, d7, d8, rfl, rfl⟩
    refine hΦ _ ⟨d6, d7, d8, ?_⟩
    rw [hos]
    rfl
theorem b_t3 {xs : List Itm} (h : JSane xs) (hps : PSane xs) (hlen : xs.length ≤ 200) {j : Nat} (hj : j ∈ places Itm.isJ xs) (M : Store) {ts : List (Nat × Nat × Nat)} (hts : ts.length ≤ 8000000) {d3 d4 d5 d6 d7 d8 : Option D} :
    Sat (fun out => ∃ d3 d4 d5 d6 d7 d8, out = .nx [some (.p (sk xs)), some (.ref M.length), some (.p (.int (j : Int))), d3, d4, d5, d6, d7, d8, none] (M ++ [Ob.lst (e3s (ts ++ tripsOf xs j))]))
    (L__law_triples_3 [some (.p (sk xs)), some (.ref M.length), some (.p (.int (j : Int))), d3, d4, d5, d6, d7, d8, none] (M ++ [Ob.lst (e3s ts)])) := by
  refine sat_any fun Φ hΦ => ?_
  obtain ⟨hh, hlo⟩ := high_le h hj
  have hx2 := jmp_at hj
  obtain ⟨lo, hlo'⟩ : ∃ lo, lo = lowOf xs j := ⟨_, rfl⟩
  obtain ⟨hi, hhi⟩ : ∃ hi, hi = highOf xs j := ⟨_, rfl⟩
  obtain ⟨l1, hl1⟩ : ∃ l1, l1 = lo + 1 := ⟨_, rfl⟩
  have em : ∀ M, zMin [.p (.int (j : Int)), .p (.int (goal xs j : Int))] M = .ok (.p (.int (lo : Int))) M := fun M => by
    rw [zMin_2, show min (j : Int) (goal xs j) = (lo : Int) by rw [hlo']; unfold lowOf; omega]
  have eM : ∀ M, zMax [.p (.int (j : Int)), .p (.int (goal xs j : Int))] M = .ok (.p (.int (hi : Int))) M := fun M => by
    rw [zMax_2, show max (j : Int) (goal xs j) = (hi : Int) by rw [hhi]; unfold highOf; omega]
  have em1 : (lo : Int) + 1 = (l1 : Int) := by omega
  have rg : ∀ M, rgo2 (l1 : Int) (hi : Int) M = .ok ((List.range' l1 (hi - l1)).map fun p : Nat => D.p (.int (p : Int))) M := fun M => rgo2_nat (by omega) (by omega) M
  have hfl : fillsIn xs j = (List.range' l1 (hi - l1)).filter (isFat xs) := by unfold fillsIn; rw [hl1, hlo', hhi]
  have co : ∀ (Q : Store) a1 a2 a3 a4 a5 a6 a7 a8, compP (tgN 9) (zt (z2 zEq (z2 zIx (z2 zIx (zv 0) (zv 9)) (zk (.int 0))) (zk (.str "fill")))) (zv 9) [some (.p (sk xs)), a1, a2, a3, a4, a5, a6, a7, a8, none] ((List.range' l1 (hi - l1)).map fun p : Nat => D.p (.int (p : Int))) Q = .ok ((pnats (fillsIn xs j)).map .p) Q := fun Q a1 a2 a3 a4 a5 a6 a7 a8 => by
    rw [hfl, compP_map (M := Q) (fun p : Nat => D.p (.int (p : Int))) (isFat xs) (fun p : Nat => D.p (.int (p : Int))), dp_pnats]
    intro p hp
    have hy := List.getElem?_eq_getElem (show p < xs.length by rw [List.mem_range'_1] at hp; omega)
    refine ⟨_, rfl, ?_, fun _ => rfl⟩
    simp [isFat, ix_sk _ hy, hy]
  have hfl2 := len_fillsIn hh
  have fz : ∀ Q, frzl ((pnats (fillsIn xs j)).map .p) Q = .ok (.p (.list (pnats (fillsIn xs j)))) Q := fun Q => by rw [frzl_map, if_pos (by simp; omega)]
  have it : ∀ js Q, itemsOf (.p (.list (pnats js))) Q = .ok ((pnats js).map .p) Q := fun js Q => rfl
  obtain ⟨fl, hfls⟩ : ∃ fl, fl = fillsIn xs j := ⟨_, rfl⟩
  rw [← hfls] at co fz
  simp [-zMin_2, -zMax_2, -itemsOf_l, -frzl_map, L__law_triples_3, ix_sk _ hx2, Itm.enc, em, eM, em1, rg, wipeS, co, fz, it]
  simp only [dp_pnats]
  rw [hlo']
  refine forP_last _ _ (fun done sl M' => ∃ d5 d6 d7 d8, sl = [some (.p (sk xs)), some (.ref M.length), some (.p (.int (j : Int))), some (.p (.int (lowOf xs j : Int))), some (.p (.int (hi : Int))), d5, d6, d7, d8, none] ∧ M' = M ++ [Ob.lst (e3s (ts ++ done.flatMap (tripsAt xs j)))])
    ⟨d5, d6, d7, d8, rfl, by simp⟩ ?_ ?_
  · rintro done p rest sl M' e ⟨d5, d6, d7, d8, rfl, rfl⟩
    have hp : p ∈ fillsIn xs j := by rw [← hfls, e]; simp
    have hd : (done.flatMap (tripsAt xs j)).length ≤ 40000 := by
      have h1 := len_flat2 (tripsAt xs j) 200 done fun p _ => Nat.le_trans (len_tripsAt xs j p) hlen
      rw [← hfls, e] at hfl2
      simp at hfl2
      omega
    obtain ⟨d6', d7', d8', e2⟩ := b_t2 h hps hlen hj hp M (ts := ts ++ done.flatMap (tripsAt xs j)) (by rw [List.length_append]; omega) (d4 := some (.p (.int (hi : Int)))) (d6 := d6) (d7 := d7) (d8 := d8)
    exact ⟨_, rfl, _, _, e2, some (.p (.int p)), d6', d7', d8', rfl, by simp⟩
  · rintro sl M' ⟨d5, d6, d7, d8, rfl, rfl⟩
    refine hΦ _ ⟨some (.p (.int (lowOf xs j : Int))), some (.p (.int (hi : Int))), d5, d6, d7, d8, ?_⟩
    rw [hfls]
    rfl
theorem e_law_triples {xs : List Itm} (h : JSane xs) (hps : PSane xs) (hlen : xs.length ≤ 200) (M : Store) : F__law_triples [.p (sk xs)] M = .ok (.p (.list ((trips xs).map enc3))) M := by
  apply fn_satN
  have lj := e_law_jumps h.1
  have it : ∀ js Q, itemsOf (.p (.list (pnats js))) Q = .ok ((pnats js).map .p) Q := fun js Q => rfl
  simp [-itemsOf_l, c__law_triples, lj, it]
  simp only [dp_pnats]
  have cnt : ∀ done rest j, places Itm.isJ xs = done ++ j :: rest → (done.flatMap (tripsOf xs)).length ≤ 8000000 := fun done rest j e => by
    have h1 := len_flat2 (tripsOf xs) 40000 done fun i hi => by
      have hi' : i ∈ places Itm.isJ xs := by rw [e]; simp [hi]
      exact len_tripsOf hlen (high_le h hi').1
    have h2 := len_places Itm.isJ xs
    rw [e] at h2
    simp at h2
    omega
  refine forP_seq _ _ (fun done sl M' => ∃ d2 d3 d4 d5 d6 d7 d8, sl = [some (.p (sk xs)), some (.ref M.length), d2, d3, d4, d5, d6, d7, d8, none] ∧ M' = M ++ [Ob.lst (e3s (done.flatMap (tripsOf xs)))])
    ⟨none, none, none, none, none, none, none, rfl, rfl⟩ ?_ ?_
  · rintro done j rest sl M' e ⟨d2, d3, d4, d5, d6, d7, d8, rfl, rfl⟩
    have hj : j ∈ places Itm.isJ xs := by rw [e]; simp
    obtain ⟨d3', d4', d5', d6', d7', d8', e2⟩ := b_t3 h hps hlen hj M (cnt _ _ _ e) (d3 := d3) (d4 := d4) (d5 := d5) (d6 := d6) (d7 := d7) (d8 := d8)
    exact ⟨_, rfl, _, _, e2, some (.p (.int j)), d3', d4', d5', d6', d7', d8', rfl, by simp⟩
  · rintro sl M' ⟨d2, d3, d4, d5, d6, d7, d8, rfl, rfl⟩
    have e : e3s ((places Itm.isJ xs).flatMap (tripsOf xs)) = ((trips xs).map enc3).map .p := by
      unfold e3s trips
      rw [List.map_map]
      rfl
    rw [e]
    have fz := zfreeze_app0 M [] ((trips xs).map enc3)
    simp [-List.map_map, fz, Sat]
end ZL

namespace ZL
open PySem PySem.Spec PyProof.Rows L2 Z
theorem fold_max : ∀ (ns : List Int) (n : Int), n ≤ ns.foldl max n ∧ (∀ x ∈ ns, x ≤ ns.foldl max n) ∧ (ns.foldl max n = n ∨ ns.foldl max n ∈ ns)
  | [], n => ⟨Int.le_refl _, fun x hx => (by cases hx), .inl rfl⟩
  | y :: ns, n => by
    obtain ⟨h1, h2, h3⟩ := fold_max ns (max n y)
    rw [List.foldl_cons]
    refine ⟨by omega, fun x hx => ?_, ?_⟩
    · rcases List.mem_cons.mp hx with rfl | hx
      · omega
      · exact h2 x hx
    · rcases h3 with e | e
      · rw [e]
        by_cases c : n ≤ y
        · rw [Int.max_eq_right c]; exact .inr (List.mem_cons_self ..)
        · rw [Int.max_eq_left (by omega)]; exact .inl rfl
      · exact .inr (List.mem_cons_of_mem _ e)
theorem mem_fillsOf {l : List Itm} {s : Int} : s ∈ fillsOf l ↔ Itm.fil s ∈ l := by
  unfold fillsOf
  rw [List.mem_map]
  constructor
  · rintro ⟨x, hx, rfl⟩
    obtain ⟨h1, h2⟩ := List.mem_filter.mp hx
    cases x with
    | fil s => exact h1
    | lab => cases h2
    | jmp g a b => cases h2
  · intro h
    exact ⟨.fil s, List.mem_filter.mpr ⟨h, rfl⟩, rfl⟩
theorem topF_one (l : List Itm) : 1 ≤ topF l := (fold_max _ _).1
theorem topF_ge {l : List Itm} {s : Int} (h : Itm.fil s ∈ l) : s ≤ topF l := (fold_max _ _).2.1 s (mem_fillsOf.mpr h)
theorem topF_in (l : List Itm) : topF l = 1 ∨ Itm.fil (topF l) ∈ l := (fold_max _ _).2.2.imp id fun h => mem_fillsOf.mp h
theorem pow_mod {a m g : Int} (ha : a ∈ P2) (hm : isP m) (h : a ≤ m) (h0 : g % a ≠ 0) : g % m ≠ 0 := by
  have ha := isP2 ha
  rcases ha with rfl | rfl | rfl | rfl | rfl | rfl <;> rcases hm with rfl | rfl | rfl | rfl | rfl | rfl | rfl <;> omega
theorem seg_get {xs : List Itm} {a b i : Nat} : (seg xs a b)[i]? = if a + i < b then xs[a + i]? else none := by
  unfold seg
  rw [List.getElem?_drop, List.getElem?_take]
theorem kept_iff {xs : List Itm} {o p : Nat} : kept xs o p = true ↔ ∃ s, Itm.fil s ∈ seg xs (o + 1) p ∧ szAt xs p ≤ s := by
  unfold kept
  rw [List.any_eq_true]
  constructor
  · rintro ⟨x, hx, h⟩
    simp at h
    cases x with
    | fil s => exact ⟨s, hx, h.2⟩
    | lab => simp [Itm.isF] at h
    | jmp g a b => simp [Itm.isF] at h
  · rintro ⟨s, hs, h⟩
    exact ⟨.fil s, hs, by simp [Itm.isF, Itm.sz, h]⟩
theorem mem_seg {xs : List Itm} {a b : Nat} {x : Itm} : x ∈ seg xs a b ↔ ∃ i, a ≤ i ∧ i < b ∧ xs[i]? = some x := by
  rw [List.mem_iff_getElem?]
  constructor
  · rintro ⟨i, h⟩
    rw [seg_get] at h
    split at h
    · rename_i c
      exact ⟨a + i, by omega, c, h⟩
    · cases h
  · rintro ⟨i, h1, h2, h3⟩
    refine ⟨i - a, ?_⟩
    rw [seg_get, show a + (i - a) = i by omega, if_pos h2, h3]
theorem trip_iff {xs : List Itm} (h : FrOk xs) (hgl : GL xs) {mate at_ : Nat} (hm : mate ∈ places Itm.isJ xs) (ha : at_ ∈ places Itm.isJ xs) (hlo : mate < lowA xs at_) :
    (∃ p ∈ fillsIn xs at_, tripB xs p mate = true) ↔ topF (seg xs (mate + 1) (lowA xs at_)) < topF (seg xs (lowA xs at_ + 1) (highA xs at_)) ∧ growA xs mate % topF (seg xs (lowA xs at_ + 1) (highA xs at_)) ≠ 0 := by
  obtain ⟨h1, h2, h3⟩ := h
  have xa := jmp_at ha
  have xg := hgl at_ ha
  obtain ⟨lo, hlo'⟩ : ∃ lo, lo = lowA xs at_ := ⟨_, rfl⟩
  obtain ⟨hi, hhi⟩ : ∃ hi, hi = highA xs at_ := ⟨_, rfl⟩
  have nlo : ∀ s, xs[lo]? ≠ some (.fil s) := fun s e => by
    have : lo = at_ ∨ lo = goal xs at_ := by rw [hlo']; unfold lowA; omega
    rcases this with r | r
    · rw [r, xa] at e; cases e
    · rw [r, xg] at e; cases e
  have lf : lowOf xs at_ = lo := by rw [hlo']; rfl
  have hf : highOf xs at_ = hi := by rw [hhi]; rfl
  rw [← hlo'] at hlo
  rw [← hlo', ← hhi]
  have p2 := topF_isP _ _ rfl (seg_filP h2 (lo + 1) hi)
  have memF : ∀ p, p ∈ fillsIn xs at_ ↔ lo < p ∧ p < hi ∧ ∃ s, xs[p]? = some (.fil s) := fun p => by
    unfold fillsIn
    rw [List.mem_filter, List.mem_range'_1, lf, hf]
    unfold isFat
    constructor
    · rintro ⟨⟨a, b⟩, c⟩
      cases hx : xs[p]? with
      | none => rw [hx] at c; cases c
      | some x =>
        rw [hx] at c
        cases x with
        | fil s => exact ⟨by omega, by omega, s, rfl⟩
        | lab => cases c
        | jmp g a b => cases c
    · rintro ⟨a, b, s, e⟩
      rw [e]
      exact ⟨by omega, rfl⟩
  have tb : ∀ p s, xs[p]? = some (.fil s) → (tripB xs p mate = true ↔ (¬ ∃ r, Itm.fil r ∈ seg xs (mate + 1) p ∧ s ≤ r) ∧ growA xs mate % s ≠ 0) := fun p s e => by
    have es : szAt xs p = s := by simp [szAt, e, Itm.sz]
    unfold tripB
    rw [Bool.and_eq_true, decide_eq_true_eq, es]
    rw [← es, ← kept_iff, es]
    unfold growA
    simp
  constructor
  · rintro ⟨p, hp, ht⟩
    obtain ⟨q1, q2, s, e⟩ := (memF p).mp hp
    obtain ⟨t1, t2⟩ := (tb p s e).mp ht
    have hs : s ∈ P2 := h2 s (List.mem_of_getElem? e)
    have hge : s ≤ topF (seg xs (lo + 1) hi) := topF_ge (mem_seg.mpr ⟨p, by omega, q2, e⟩)
    refine ⟨?_, pow_mod hs p2 hge t2⟩
    rcases topF_in (seg xs (mate + 1) lo) with r | r
    · have := p2_in hs; omega
    · obtain ⟨i, i1, i2, i3⟩ := mem_seg.mp r
      have : ¬ s ≤ topF (seg xs (mate + 1) lo) := fun z => t1 ⟨_, mem_seg.mpr ⟨i, i1, by omega, i3⟩, z⟩
      omega
  · rintro ⟨t1, t2⟩
    have one := topF_one (seg xs (mate + 1) lo)
    obtain ⟨M, hM⟩ : ∃ M, M = topF (seg xs (lo + 1) hi) := ⟨_, rfl⟩
    rw [← hM] at t1 t2
    have hin : Itm.fil M ∈ seg xs (lo + 1) hi := by
      rcases topF_in (seg xs (lo + 1) hi) with r | r
      · omega
      · rw [hM]; exact r
    obtain ⟨i, hi1⟩ : ∃ i, (seg xs (lo + 1) hi).findIdx? (fun x => decide (x = .fil M)) = some i := by
      cases hf : (seg xs (lo + 1) hi).findIdx? (fun x => decide (x = .fil M)) with
      | none =>
        rw [List.findIdx?_eq_none_iff] at hf
        have := hf _ hin
        simp at this
      | some i => exact ⟨i, rfl⟩
    obtain ⟨j1, j2, j3⟩ := List.findIdx?_eq_some_iff_getElem.mp hi1
    have j2 : (seg xs (lo + 1) hi)[i] = .fil M := by simpa using j2
    have g1 : (seg xs (lo + 1) hi)[i]? = some (.fil M) := by rw [List.getElem?_eq_getElem j1, j2]
    rw [seg_get] at g1
    split at g1
    · rename_i c
      refine ⟨lo + 1 + i, (memF _).mpr ⟨by omega, c, M, g1⟩, (tb _ M g1).mpr ⟨?_, t2⟩⟩
      rintro ⟨r, hr, hge⟩
      obtain ⟨k, k1, k2, k3⟩ := mem_seg.mp hr
      rcases Nat.lt_trichotomy k lo with c1 | c1 | c1
      · have := topF_ge (mem_seg.mpr ⟨k, k1, c1, k3⟩ : Itm.fil r ∈ seg xs (mate + 1) lo)
        omega
      · rw [c1] at k3; exact nlo r k3
      · have hle := topF_ge (mem_seg.mpr ⟨k, by omega, by omega, k3⟩ : Itm.fil r ∈ seg xs (lo + 1) hi)
        have er : r = M := by omega
        subst er
        have := j3 (k - (lo + 1)) (by omega)
        have e2 : (seg xs (lo + 1) hi)[k - (lo + 1)]'(by omega) = .fil r := by
          have : (seg xs (lo + 1) hi)[k - (lo + 1)]? = some (.fil r) := by
            rw [seg_get, show lo + 1 + (k - (lo + 1)) = k by omega, if_pos (by omega), k3]
          obtain ⟨_, e⟩ := List.getElem?_eq_some_iff.mp this
          exact e
        rw [e2] at this
        simp at this
    · cases g1
end ZL

namespace ZL
open PySem PySem.Spec PyProof.Rows L2 Z
theorem e_law_top {xs : List Itm} (h : xs.length ≤ 1000) (M : Store) : F__law_top [.p (sk xs)] M = .ok (.p (.int (topF xs))) M := by
  apply fn_rt0
  have co : ∀ Q : Store, compP (tgN 1) (zt (z2 zEq (z2 zIx (zv 1) (zk (.int 0))) (zk (.str "fill")))) (z2 zIx (zv 1) (zk (.int 1))) [some (.p (sk xs)), none] (xs.map fun x => D.p x.enc) Q = .ok ((pints (fillsOf xs)).map .p) Q := fun Q => by
    rw [compP_map (M := Q) (fun x => D.p x.enc) Itm.isF (fun x => .p (.int x.sz))]
    · simp [pints, fillsOf]
    · intro x _
      refine ⟨_, rfl, by simp, fun hx => ?_⟩
      simp [ix_sz _ hx]
  have hl := len_fills xs
  have fz : ∀ Q, frzl ((pints (fillsOf xs)).map .p) Q = .ok (.p (.list (pints (fillsOf xs)))) Q := fun Q => by rw [frzl_map, if_pos (by simp; omega)]
  have ad : ∀ M, zAdd (.p (.list [.int 1])) (.p (.list (pints (fillsOf xs)))) M = .ok (.p (.list (pints (1 :: fillsOf xs)))) M := fun M => by
    simp only [zAdd, zAddL, lstv_p]
    rw [← List.map_append, frzl_map, if_pos (by simp; omega)]
    simp [pints]
  have mx : ∀ M, zMax [.p (.list (pints (1 :: fillsOf xs)))] M = .ok (.p (.int (topF xs))) M := fun M => by
    simp [zMax, pints, topF]
  obtain ⟨fs, hfs⟩ : ∃ fs, fs = pints (fillsOf xs) := ⟨_, rfl⟩
  rw [← hfs] at co fz ad
  obtain ⟨f1, hf1⟩ : ∃ f1, f1 = pints (1 :: fillsOf xs) := ⟨_, rfl⟩
  rw [← hf1] at ad mx
  simp [-frzl_map, c__law_top, mkLstF, wipeS, co, fz, ad, mx]
end ZL

namespace ZL
open PySem PySem.Spec PyProof.Rows L2 Z
/-- an item with its growth changed -/
def SameI (n : Nat) (x y : Itm) : Prop := (x.isJ = false → y = x) ∧ ∀ g s l, x = .jmp g s l → ∃ l', y = .jmp g s l' ∧ okF n y
theorem b_stead {q : Stq} (hq : q.ok) (R : Store) {acc : List Itm} {x : Itm} {n : Nat} (hx : okF n x) (hl : acc.length ≤ 100) {sz : Int} (hs : isP sz) {d1 d5 : Option D} :
    Sat (fun o => ∃ (q' : Stq) (y : Itm) (d4 d5 : Option D), o = .nx [some (.ref 1), d1, some (.p (.int sz)), some (.ref (R.length + 2)), d4, d5] (St q' ++ (R ++ [Ob.lst (encs (acc ++ [y]))])) ∧ q'.ok ∧ SameI n x y)
      (L__law_steadied_1 [some (.ref 1), d1, some (.p (.int sz)), some (.ref (R.length + 2)), some (.p x.enc), d5] (St q ++ (R ++ [Ob.lst (encs acc)]))) := by
  refine sat_any fun Φ hΦ => ?_
  have l1 : ∀ q ds, lstv (St q ++ (R ++ [Ob.lst ds])) (.ref (R.length + 2)) = some ds := fun q ds => lstvS rfl
  cases hxj : x.isJ with
  | false =>
    have ap := appS (q := q) (R := R) (i := R.length + 2) (acc := acc) (x := x) rfl (by omega)
    simp [-zAppend_e, L__law_steadied_1, hxj, l1, ap]
    exact hΦ _ ⟨q, x, _, _, rfl, hq, fun _ => rfl, fun g s l e => by rw [e] at hxj; cases hxj⟩
  | true =>
    cases x with
    | lab => cases hxj
    | fil s => cases hxj
    | jmp g s l =>
      have hsz : 1 ≤ sz ∧ sz ≤ 64 := by unfold isP at hs; omega
      obtain ⟨mm, hmm⟩ : ∃ mm : Int, mm = max 1 (min 4 (900 / sz)) := ⟨_, rfl⟩
      have hm4 : mm ≤ 4 := by omega
      obtain ⟨k, q1, hk, ok1, e1⟩ := e_drawN q hq (R ++ [Ob.lst (encs acc)]) (z := mm) (by omega)
      have hk3 : k ≤ 3 := by omega
      have mn0 : ∀ M, zMin [.p (.int 4), .p (.int (900 / sz))] M = .ok (.p (.int (min 4 (900 / sz)))) M := fun M => zMin_2 ..
      have mx0 : ∀ M, zMax [.p (.int 1), .p (.int (min 4 (900 / sz)))] M = .ok (.p (.int mm)) M := fun M => by rw [zMax_2, hmm]
      have hd : 0 < sz ∧ sz < 1073741824 := by omega
      have cm : CMul sz (1 + (k : Int)) := .inl (by omega)
      obtain ⟨gr, hgr⟩ : ∃ gr : Int, gr = sz * (1 + (k : Int)) := ⟨_, rfl⟩
      have hgr1 : 1 ≤ gr ∧ gr ≤ 256 := by
        rw [hgr]
        have : (k : Int) = 0 ∨ (k : Int) = 1 ∨ (k : Int) = 2 ∨ (k : Int) = 3 := by omega
        rcases this with e | e | e | e <;> rw [e] <;> omega
      have hs9 : s ≤ 9 ∧ 1 ≤ s := ⟨hx.2.2.1, hx.2.1⟩
      have mn : ∀ M, zMin [.p (.int s), .p (.int 99)] M = .ok (.p (.int s)) M := fun M => by rw [zMin_2, Int.min_eq_left (by omega)]
      have s3 : ∀ l M, zSl (.p (Itm.jmp g s l).enc) none (some 3) M = .ok (.p (.tuple [.str "jump", .int (g : Int), .int s])) M := fun _ M => rfl
      have s2 : ∀ l M, zSl (.p (Itm.jmp g s l).enc) none (some 2) M = .ok (.p (.tuple [.str "jump", .int (g : Int)])) M := fun _ M => rfl
      have i2 : ∀ l M, zIx (.p (Itm.jmp g s l).enc) (.p (.int 2)) M = .ok (.p (.int s)) M := fun _ M => rfl
      have i3 : ∀ l M, zIx (.p (Itm.jmp g s l).enc) (.p (.int 3)) M = .ok (.p (.int l)) M := fun _ M => rfl
      have a1 : ∀ M, zAdd (.p (.tuple [.str "jump", .int (g : Int), .int s])) (.p (.tuple [.int (s + gr)])) M = .ok (.p (Itm.jmp g s (s + gr)).enc) M := fun M => by simp [zAdd, Itm.enc]
      have a2 : ∀ M, zAdd (.p (.tuple [.str "jump", .int (g : Int)])) (.p (.tuple [.int s, .int (s + gr)])) M = .ok (.p (Itm.jmp g s (s + gr)).enc) M := fun M => by simp [zAdd, Itm.enc]
      have gt : (Itm.jmp g s l).isJ = true := rfl
      have ap := appS (q := q1) (R := R) (i := R.length + 2) (acc := acc) (x := .jmp g s (s + gr)) rfl (by omega)
      simp [-zAppend_e, -zMax_2, -zMin_2, L__law_steadied_1, gt, hd, mn0, mx0, e1, cm, ← hgr, s3, i2, mn, mkTup, a1, s2, i3, a2, l1, ap]
      exact hΦ _ ⟨q1, .jmp g s (s + gr), _, _, rfl, ok1, fun z => (by cases z), fun g' s' l' e => by
        cases e
        exact ⟨_, rfl, hx.1, by omega, by omega, by omega, by omega⟩⟩
theorem e_steadiedX {q : Stq} (hq : q.ok) (R : Store) {xs : List Itm} {j : Nat} (h : Frm xs j) (hgl : GL xs) : ∃ x q', (∃ ys, x = sk ys ∧ Frm ys j ∧ GL ys ∧ (ys.filter Itm.isF).length = (xs.filter Itm.isF).length) ∧ q'.ok ∧ F__law_steadied [.ref 1, .p (sk xs)] (St q ++ R) = .ok (.p x) (St q' ++ R) := by
  apply fn_satS
  refine sat_any fun Φ hΦ => ?_
  have hxl := h.2.1
  have tp := e_law_top (xs := xs) (by omega)
  have hs := topF_isP _ xs rfl fun s hs => h.1 _ hs
  have l2 : ∀ q : Stq, (St q).length + R.length = R.length + 2 := fun q => by rw [St_len]; omega
  simp [c__law_steadied, tp, l2]
  have b0 : St q ++ (R ++ [Ob.lst []]) = St q ++ (R ++ [.lst (encs [])]) := rfl
  rw [b0]
  refine forP_seq _ _ (fun done sl M' => ∃ q' acc d4 d5, sl = [some (.ref 1), some (.p (sk xs)), some (.p (.int (topF xs))), some (.ref (R.length + 2)), d4, d5] ∧ M' = St q' ++ (R ++ [.lst (encs acc)]) ∧ q'.ok ∧ acc.length = done.length ∧ ∀ (i : Nat) (x : Itm), done[i]? = some x → ∃ y, acc[i]? = some y ∧ SameI xs.length x y)
    ⟨q, [], none, none, rfl, rfl, hq, rfl, fun i x hx => by simp at hx⟩ ?_ ?_
  · rintro done x rest sl M' e ⟨q', acc, d4, d5, rfl, rfl, ok, hal, hac⟩
    have hd : done.length ≤ 100 := by
      have := congrArg List.length e
      simp at this
      omega
    obtain ⟨q2, y, d4', d5', e2, ok2, hy⟩ := b_stead ok R (acc := acc) (x := x) (n := xs.length) (h.1 x (by rw [e]; simp)) (by omega) hs (d1 := some (.p (sk xs))) (d5 := d5)
    refine ⟨_, rfl, _, _, e2, q2, acc ++ [y], _, d5', rfl, rfl, ok2, by simp [hal], fun i z hz => ?_⟩
    by_cases hid : i < done.length
    · rw [List.getElem?_append_left hid] at hz
      obtain ⟨y', e', h'⟩ := hac i z hz
      exact ⟨y', by rw [List.getElem?_append_left (by omega)]; exact e', h'⟩
    · have hil : i = done.length := by
        have := (List.getElem?_eq_some_iff.mp hz).1
        simp at this
        omega
      subst hil
      rw [List.getElem?_append_right (Nat.le_refl _), Nat.sub_self] at hz
      have hzx : x = z := by simpa using hz
      subst hzx
      exact ⟨y, by rw [List.getElem?_append_right (by omega), show done.length - acc.length = 0 by omega]; rfl, hy⟩
  · rintro sl M' ⟨q2, ys, d4, d5, rfl, rfl, ok2, hal, hac⟩
    have t := tupS (q := q2) (R := R) (Q := []) (i := R.length + 2) (xs := ys) rfl
    simp [t]
    have back : ∀ (i : Nat) (y : Itm), ys[i]? = some y → ∃ x, xs[i]? = some x ∧ SameI xs.length x y := fun i y hy => by
      have hi := (List.getElem?_eq_some_iff.mp hy).1
      have hx := List.getElem?_eq_getElem (show i < xs.length by omega)
      obtain ⟨y', e', h'⟩ := hac i _ hx
      rw [hy] at e'
      cases e'
      exact ⟨_, hx, h'⟩
    have same_J : ∀ {x y : Itm}, SameI xs.length x y → y.isJ = x.isJ := fun {x y} hs => by
      cases hxj : x.isJ with
      | false => rw [hs.1 hxj, hxj]
      | true =>
        cases x with
        | lab => cases hxj
        | fil s => cases hxj
        | jmp g s l => obtain ⟨l', e, _⟩ := hs.2 g s l rfl; rw [e]; rfl
    have ep : places Itm.isJ ys = places Itm.isJ xs := by
      have : ∀ (a b : List Itm), a.length = b.length → (∀ (i : Nat) x, b[i]? = some x → ∃ y, a[i]? = some y ∧ y.isJ = x.isJ) → ∀ k, ((a.zipIdx k).filter fun q => q.1.isJ).map Prod.snd = ((b.zipIdx k).filter fun q => q.1.isJ).map Prod.snd := by
        intro a
        induction a with
        | nil => intro b hl _ k; rw [List.length_eq_zero_iff.mp hl.symm]
        | cons u a ih =>
          intro b hl hb k
          cases b with
          | nil => cases hl
          | cons v b =>
            obtain ⟨y, e, hj⟩ := hb 0 v rfl
            have e : u = y := by simpa using e
            subst e
            have ih2 := ih b (by simpa using hl) (fun i x hx => by simpa using hb (i + 1) x (by simpa using hx)) (k + 1)
            rw [List.zipIdx_cons, List.zipIdx_cons, List.filter_cons, List.filter_cons]
            simp only [hj]
            split
            · rw [List.map_cons, List.map_cons, ih2]
            · exact ih2
      exact this ys xs (by omega) (fun i x hx => by
        obtain ⟨y, e, h'⟩ := hac i x hx
        exact ⟨y, e, same_J h'⟩) 0
    have ef : (ys.filter Itm.isF).length = (xs.filter Itm.isF).length := by
      have : ∀ (a b : List Itm), a.length = b.length → (∀ (i : Nat) x, b[i]? = some x → ∃ y, a[i]? = some y ∧ y.isF = x.isF) → (a.filter Itm.isF).length = (b.filter Itm.isF).length := by
        intro a
        induction a with
        | nil => intro b hl _; rw [List.length_eq_zero_iff.mp hl.symm]
        | cons u a ih =>
          intro b hl hb
          cases b with
          | nil => cases hl
          | cons v b =>
            obtain ⟨y, e, hj⟩ := hb 0 v rfl
            have e : u = y := by simpa using e
            subst e
            have ih2 := ih b (by simpa using hl) (fun i x hx => by simpa using hb (i + 1) x (by simpa using hx))
            rw [List.filter_cons, List.filter_cons, hj]
            split
            · rw [List.length_cons, List.length_cons, ih2]
            · exact ih2
      refine this ys xs (by omega) fun i x hx => ?_
      obtain ⟨y, e, hs⟩ := hac i x hx
      refine ⟨y, e, ?_⟩
      cases hxj : x.isJ with
      | false => rw [hs.1 hxj]
      | true =>
        cases x with
        | lab => cases hxj
        | fil s => cases hxj
        | jmp g s l => obtain ⟨l', e, _⟩ := hs.2 g s l rfl; rw [e]; rfl
    refine hΦ _ ⟨_, q2, [.lst (encs ys)], rfl, ok2, ys, rfl, ⟨fun y hy => ?_, by omega, by rw [ep]; exact h.2.2⟩, fun k hk => ?_, ef⟩
    · obtain ⟨i, hi⟩ := List.getElem?_of_mem hy
      obtain ⟨x, hx, hs⟩ := back i y hi
      rw [show ys.length = xs.length by omega]
      cases hxj : x.isJ with
      | false => rw [hs.1 hxj]; exact h.1 x (List.mem_of_getElem? hx)
      | true =>
        cases x with
        | lab => cases hxj
        | fil s => cases hxj
        | jmp g s l => obtain ⟨l', e, ho⟩ := hs.2 g s l rfl; exact ho
    · have hk' := hk
      rw [ep] at hk'
      have xk := jmp_at hk'
      obtain ⟨y, ey, hs⟩ := hac k _ xk
      obtain ⟨l', e, _⟩ := hs.2 _ _ _ rfl
      rw [e] at ey
      have hg : goal ys k = goal xs k := by simp [goal, ey]
      rw [hg]
      obtain ⟨y2, e2, hs2⟩ := hac _ _ (hgl k hk')
      rw [e2, hs2.1 rfl]
theorem e_steadied {q : Stq} (hq : q.ok) (R : Store) {xs : List Itm} {j : Nat} (h : Frm xs j) (hgl : GL xs) : ∃ x q', (∃ ys, x = sk ys ∧ Frm ys j ∧ GL ys) ∧ q'.ok ∧ F__law_steadied [.ref 1, .p (sk xs)] (St q ++ R) = .ok (.p x) (St q' ++ R) := by
  obtain ⟨x, q', ⟨ys, a, b, c, _⟩, h⟩ := e_steadiedX hq R h hgl
  exact ⟨x, q', ⟨ys, a, b, c⟩, h⟩
end ZL

namespace ZL
open PySem PySem.Spec PyProof.Rows L2 Z
/-- a rising row's least and greatest -/
theorem row_ends {r : List Int} (h : r.Pairwise (· < ·)) (hn : r ≠ []) : ∃ a b, r[0]? = some a ∧ r[r.length - 1]? = some b ∧ (∀ d ∈ r, a ≤ d ∧ d ≤ b) := by
  have hp := List.length_pos_iff.mpr hn
  refine ⟨r[0], r[r.length - 1], List.getElem?_eq_getElem hp, List.getElem?_eq_getElem (by omega), fun d hd => ?_⟩
  obtain ⟨i, hi, rfl⟩ := List.mem_iff_getElem.mp hd
  have hpw := List.pairwise_iff_getElem.mp h
  constructor
  · by_cases c : i = 0
    · subst c; exact Int.le_refl _
    · have := hpw 0 i hp hi (by omega); omega
  · by_cases c : i = r.length - 1
    · subst c; exact Int.le_refl _
    · have := hpw i (r.length - 1) hi (by omega) (by omega); omega
theorem ix_last {r : List Int} {b : Int} (h : r[r.length - 1]? = some b) (M : Store) : zIx (.p (.tuple (pints r))) (.p (.int (-1))) M = .ok (.p (.int b)) M := by
  have hl := (List.getElem?_eq_some_iff.mp h).1
  rw [zIx_no (by rfl)]
  unfold zIxL
  have e : atI (pints r) (-1) = some (.int b) := by
    unfold atI ixN
    rw [if_neg (by omega), if_pos (by rw [pints_len]; omega)]
    have : ((-1 : Int) + ((pints r).length : Int)).toNat = r.length - 1 := by rw [pints_len]; omega
    rw [Option.bind_some, this, pints, List.getElem?_map, h]
    rfl
  simp only [e]
theorem ix_first {r : List Int} {a : Int} (h : r[0]? = some a) (M : Store) : zIx (.p (.tuple (pints r))) (.p (.int 0)) M = .ok (.p (.int a)) M := zIx_t (j := 0) M (by rw [pints, List.getElem?_map, h]; rfl)
def endsOf (xs : List Itm) : List (List Nat) := (trips xs).map fun t => [t.1, t.2.2]
theorem mem_ends {xs : List Itm} {at_ mate : Nat} (ha : at_ ∈ places Itm.isJ xs) (hm : mate ∈ places Itm.isJ xs) : [at_, mate] ∈ endsOf xs ↔ mate < lowA xs at_ ∧ ∃ p ∈ fillsIn xs at_, tripB xs p mate = true := by
  unfold endsOf trips
  rw [List.mem_map]
  constructor
  · rintro ⟨t, ht, e⟩
    obtain ⟨j, hj, ht⟩ := List.mem_flatMap.mp ht
    obtain ⟨p, hp, ht⟩ := List.mem_flatMap.mp ht
    obtain ⟨o, ho, rfl⟩ := List.mem_map.mp ht
    obtain ⟨ho1, ho2⟩ := List.mem_filter.mp ho
    injection e with e1 e2
    injection e2 with e2
    simp only at e1 e2
    subst e1 e2
    exact ⟨of_decide_eq_true (List.mem_filter.mp ho1).2, p, hp, ho2⟩
  · rintro ⟨h1, p, hp, ht⟩
    exact ⟨(at_, p, mate), List.mem_flatMap.mpr ⟨at_, ha, List.mem_flatMap.mpr ⟨p, hp, List.mem_map.mpr ⟨mate, List.mem_filter.mpr ⟨List.mem_filter.mpr ⟨hm, decide_eq_true h1⟩, ht⟩, rfl⟩⟩⟩, rfl⟩
theorem chg_ne {xs : List Itm} (mate at_ : Nat) {d : Int} (h : d ∈ chgL xs mate at_) : chg xs mate at_ ≠ [] := fun z => by
  have : d ∈ chg xs mate at_ := (mem_uns d _).mpr h
  rw [z] at this
  cases this
/-- what the law asks of a row -/
theorem row_sign {xs : List Itm} {j : Nat} (h : Frm xs j) (hgl : GL xs) {mate at_ : Nat} (hm : mate ∈ places Itm.isJ xs) (ha : at_ ∈ places Itm.isJ xs) (hne : mate ≠ at_) :
    ∃ a b, (chg xs mate at_)[0]? = some a ∧ (chg xs mate at_)[(chg xs mate at_).length - 1]? = some b ∧ chg xs mate at_ ≠ [] ∧
      if lowA xs at_ < mate ∧ mate < highA xs at_ then 0 ≤ a ∧ 0 < b else if [at_, mate] ∈ endsOf xs then a < 0 ∧ 0 < b else chg xs mate at_ = [0] := by
  have hfr := h.ok
  have hg := hfr.2.2 mate hm
  have hg1 : 1 ≤ growA xs mate := by
    have := h.1 _ (List.mem_of_getElem? (jmp_at hm))
    unfold growA
    have := this.2.2.2.1
    omega
  have xm := jmp_at hm
  have xg := hgl at_ ha
  have hml : mate ≠ goal xs at_ := fun e => by rw [e, xg] at xm; cases xm
  obtain ⟨g, hgg⟩ : ∃ g, g = growA xs mate := ⟨_, rfl⟩
  have exi : ∃ d, d ∈ chgL xs mate at_ := by
    unfold chgL
    split
    · exact ⟨0, List.mem_singleton.mpr rfl⟩
    · split
      · exact ⟨_, (goL_exact _ _ rfl (seg_filP hfr.2.1 _ _) _ _).mpr (.inl rfl)⟩
      · exact ⟨_, List.mem_flatMap.mpr ⟨_, (goL_exact _ _ rfl (seg_filP hfr.2.1 _ _) _ _).mpr (.inl rfl), List.mem_map.mpr ⟨_, (goL_exact _ _ rfl (seg_filP hfr.2.1 _ _) _ _).mpr (.inl rfl), rfl⟩⟩⟩
  obtain ⟨d0, hd0⟩ := exi
  have hnn := chg_ne mate at_ hd0
  obtain ⟨a, b, e1, e2, e3⟩ := row_ends (uns_rise (chgL xs mate at_)) hnn
  have e3 : ∀ d ∈ chgL xs mate at_, a ≤ d ∧ d ≤ b := fun d hd => e3 d ((mem_uns d _).mpr hd)
  have am : a ∈ chgL xs mate at_ := (mem_uns a _).mp (List.mem_of_getElem? e1)
  refine ⟨a, b, e1, e2, hnn, ?_⟩
  have hlh : lowA xs at_ ≤ highA xs at_ := by unfold lowA highA; omega
  by_cases c1 : lowA xs at_ < mate ∧ mate < highA xs at_
  · rw [if_pos c1]
    have ec : chgL xs mate at_ = goL (seg xs (mate + 1) (highA xs at_)) [growA xs mate] := by unfold chgL; rw [if_neg (by omega), if_pos c1.1]
    rw [ec] at am e3
    have hp := topF_isP _ _ rfl (seg_filP hfr.2.1 (mate + 1) (highA xs at_))
    have ex := goL_exact _ _ rfl (seg_filP hfr.2.1 (mate + 1) (highA xs at_)) (growA xs mate)
    have am' := (ex a).mp am
    rw [← hgg] at am' hg1 e3 ex
    have k1 := fun k hk => (e3 k ((ex k).mpr hk)).2
    revert am' k1
    generalize topF (seg xs (mate + 1) (highA xs at_)) = m at hp
    unfold At
    intro am' k1
    have q1 := k1 (g / m * m) (.inl rfl)
    by_cases hz : g % m = 0
    · rcases hp with rfl | rfl | rfl | rfl | rfl | rfl | rfl <;> omega
    · have q2 := k1 (g / m * m + m) (.inr ⟨rfl, hz⟩)
      rcases hp with rfl | rfl | rfl | rfl | rfl | rfl | rfl <;> omega
  · rw [if_neg c1]
    by_cases c2 : mate < lowA xs at_
    · have ti := trip_iff hfr hgl hm ha c2
      have ec : chgL xs mate at_ = diffs (seg xs (mate + 1) (lowA xs at_)) (seg xs (lowA xs at_ + 1) (highA xs at_)) (growA xs mate) := by unfold chgL; rw [if_neg (by omega), if_neg (by omega)]
      by_cases c3 : [at_, mate] ∈ endsOf xs
      · rw [if_pos c3]
        obtain ⟨t1, t2⟩ := ti.mp ((mem_ends ha hm).mp c3).2
        obtain ⟨⟨d1, hd1, s1⟩, ⟨d2, hd2, s2⟩⟩ := diffs_both (seg_filP hfr.2.1 _ _) (seg_filP hfr.2.1 _ _) t1 t2
        rw [ec] at e3
        have := e3 d1 hd1
        have := e3 d2 hd2
        omega
      · rw [if_neg c3]
        have nt : ¬ (∃ p ∈ fillsIn xs at_, tripB xs p mate = true) := fun z => c3 ((mem_ends ha hm).mpr ⟨c2, z⟩)
        rw [ti] at nt
        have st := diffs_still (it1 := seg xs (mate + 1) (lowA xs at_)) (it2 := seg xs (lowA xs at_ + 1) (highA xs at_)) (g := growA xs mate) (seg_filP hfr.2.1 _ _) (seg_filP hfr.2.1 _ _) (by
          by_cases c : topF (seg xs (mate + 1) (lowA xs at_)) < topF (seg xs (lowA xs at_ + 1) (highA xs at_))
          · right
            by_cases z : growA xs mate % topF (seg xs (lowA xs at_ + 1) (highA xs at_)) = 0
            · exact z
            · exact absurd ⟨c, z⟩ nt
          · left; omega)
        unfold chg
        rw [ec]
        exact uns_ext (b := [0]) fun k => by rw [st, List.mem_singleton]
    · have c4 : highA xs at_ < mate := by
        have hlo : lowA xs at_ = at_ ∨ lowA xs at_ = goal xs at_ := by unfold lowA; omega
        have hhi : highA xs at_ = at_ ∨ highA xs at_ = goal xs at_ := by unfold highA; omega
        omega
      have c3 : ¬ [at_, mate] ∈ endsOf xs := fun z => c2 ((mem_ends ha hm).mp z).1
      rw [if_neg c3]
      unfold chg chgL
      rw [if_pos c4]
      rfl
end ZL

namespace ZL
open PySem PySem.Spec PyProof.Rows L2 Z
theorem pl_nodup (p : Itm → Bool) (xs : List Itm) : (places p xs).Nodup := by
  unfold places
  have h : (xs.zipIdx.map Prod.snd).Nodup := by
    rw [List.zipIdx_map_snd]
    exact List.nodup_range'
  exact List.Nodup.sublist (List.Sublist.map _ List.filter_sublist) h
theorem two_of {l : List Nat} (h : 2 ≤ l.length) : ∃ a b r, l = a :: b :: r := by
  match l, h with
  | a :: b :: r, _ => exact ⟨a, b, r, rfl⟩
end ZL

namespace ZL
open PySem PySem.Spec PyProof.Rows L2 Z
/-- the jumps on which a way hangs -/
def hung (xs : List Itm) (a : Nat) : List Nat := (places Itm.isJ xs).filter fun o => decide (o ≠ a) && !decide (chg xs o a = [0])
theorem mem_hung {xs : List Itm} {a o : Nat} : o ∈ hung xs a ↔ o ∈ places Itm.isJ xs ∧ o ≠ a ∧ chg xs o a ≠ [0] := by
  unfold hung
  rw [List.mem_filter]
  simp
theorem len_hung (xs : List Itm) (a : Nat) : (hung xs a).length ≤ (places Itm.isJ xs).length := List.length_filter_le _ _
theorem ne_zero_t (ns : List Int) (M : Store) : zNe (.p (.tuple (pints ns))) (.p (.tuple [.int 0])) M = .ok (.p (.bool (!decide (ns = [0])))) M := zNe_lay (f := fun xs : List Int => .tuple (xs.map PyData.int)) Lay.int.tup (by decide) ns [0] M
theorem e_hangs_on {xs : List Itm} (h : FrOk xs) {a : Nat} (ha : a ∈ places Itm.isJ xs) (M : Store) : F_hangs_on [.p (sk xs), .p (.int (a : Int))] M = .ok (.p (.tuple (pnats (hung xs a)))) M := by
  have hxl := h.1
  have lp := len_places Itm.isJ xs
  have lj := e_jumps_of (xs := xs) (by omega)
  have co : ∀ (Q : Store) d0 d2, compP (tgN 3) (zt (z2 zNe (zv 3) (zv 1))) (zv 3) [d0, some (.p (.int (a : Int))), d2, none] ((pnats (places Itm.isJ xs)).map .p) Q = .ok ((pnats ((places Itm.isJ xs).filter fun o => decide (o ≠ a))).map .p) Q := fun Q d0 d2 => by
    rw [dp_pnats, compP_map (M := Q) (fun o : Nat => D.p (.int (o : Int))) (fun o => decide (o ≠ a)) (fun o : Nat => D.p (.int (o : Int))), dp_pnats]
    intro o _
    refine ⟨_, rfl, ?_, fun _ => rfl⟩
    simp
    omega
  obtain ⟨os, hos⟩ : ∃ os, os = (places Itm.isJ xs).filter fun o => decide (o ≠ a) := ⟨_, rfl⟩
  rw [← hos] at co
  have hol : os.length ≤ (places Itm.isJ xs).length := by rw [hos]; exact List.length_filter_le _ _
  have eh : os.filter (fun o => !decide (chg xs o a = [0])) = hung xs a := by
    rw [hos, List.filter_filter]
    unfold hung
    congr 1
    funext o
    rw [Bool.and_comm]
  have co2 : ∀ (Q : Store) d2, compP (tgN 3) (zt (z2 zNe (zs (zfc 3 F_changes) (zcons (zv 0) (zcons (zv 3) (zcons (zv 1) znil)))) (zs mkTup (zcons (zk (.int 0)) znil)))) (zv 3) [some (.p (sk xs)), some (.p (.int (a : Int))), d2, none] ((pnats os).map .p) Q = .ok ((pnats (hung xs a)).map .p) Q := fun Q d2 => by
    rw [dp_pnats, compP_map (M := Q) (fun o : Nat => D.p (.int (o : Int))) (fun o => !decide (chg xs o a = [0])) (fun o : Nat => D.p (.int (o : Int))), eh, dp_pnats]
    intro o ho
    refine ⟨_, rfl, ?_, fun _ => rfl⟩
    have hop : o ∈ places Itm.isJ xs := by rw [hos] at ho; exact (List.mem_filter.mp ho).1
    have ch := e_changes h hop ha
    have ne := ne_zero_t (chg xs o a)
    obtain ⟨cg, hcg⟩ : ∃ cg, cg = PyData.tuple (pints (chg xs o a)) := ⟨_, rfl⟩
    rw [← hcg] at ch ne
    simp [ch, mkTup, ne]
  have fz : ∀ Q, frzl ((pnats os).map .p) Q = .ok (.p (.list (pnats os))) Q := fun Q => by rw [frzl_map, if_pos (by simp; omega)]
  have lh := len_hung xs a
  have fz2 : ∀ Q, frzl ((pnats (hung xs a)).map .p) Q = .ok (.p (.list (pnats (hung xs a)))) Q := fun Q => by rw [frzl_map, if_pos (by simp; omega)]
  have it : ∀ js Q, itemsOf (.p (.list (pnats js))) Q = .ok ((pnats js).map .p) Q := fun js Q => rfl
  have it2 : ∀ js Q, itemsOf (.p (.tuple (pnats js))) Q = .ok ((pnats js).map .p) Q := fun js Q => rfl
  apply fn_rt0
  simp [-itemsOf_l, -itemsOf_t, -frzl_map, c_hangs_on, lj, it2, wipeS, co, fz, it, co2, fz2]
/-- the dict of what the ways hang on -/
def hungK (xs : List Itm) (js : List Nat) : Kvs := js.map fun a : Nat => ((a : Int), pnats (hung xs a))
theorem ky_hung (xs : List Itm) (js : List Nat) : ky (hungK xs js) = js.map fun a : Nat => (a : Int) := by unfold ky hungK; rw [List.map_map]; rfl
theorem put_hung {xs : List Itm} {js : List Nat} {a : Nat} (h : a ∉ js) : putI (hungK xs js) (a : Int) (pnats (hung xs a)) = hungK xs (js ++ [a]) := by
  unfold putI
  rw [any_ky, ky_hung]
  have : (a : Int) ∉ js.map fun a : Nat => (a : Int) := fun z => by
    obtain ⟨b, hb, e⟩ := List.mem_map.mp z
    exact h (by rw [show a = b by omega]; exact hb)
  rw [if_neg (by simpa using this)]
  simp [hungK]
theorem ix_hung {xs : List Itm} {js : List Nat} {a : Nat} (h : a ∈ js) (M : Store) : zIx (.p (kvI (hungK xs js))) (.p (.int (a : Int))) M = .ok (.p (.tuple (pnats (hung xs a)))) M := by
  unfold zIx kvI
  simp only [dictv_d, keyed_I, kOf]
  have : valD (kvDI (hungK xs js)) (.inl (a : Int)) = some (.p (.tuple (pnats (hung xs a)))) := by
    induction js with
    | nil => cases h
    | cons j js ih =>
      unfold valD kvDI hungK
      rw [List.map_cons, List.map_cons, List.find?_cons]
      by_cases e : j = a
      · subst e; simp
      · have ne2 : decide ((Sum.inl (j : Int) : Key) = .inl (a : Int)) = false := by
          rw [decide_eq_false_iff_not]
          intro e'
          injection e' with e'
          omega
        simp only [ne2]
        exact ih (by rcases List.mem_cons.mp h with r | r; exact absurd r.symm e; exact r)
  rw [this]
theorem items_hung (xs : List Itm) (js : List Nat) (M : Store) : itemsOf (.p (kvI (hungK xs js))) M = .ok (js.map fun a : Nat => D.p (.int (a : Int))) M := by
  unfold kvI hungK
  rw [itemsOf_d]
  simp
theorem e_law_hung {xs : List Itm} (h : FrOk xs) (M : Store) : F__law_hung [.p (sk xs)] M = .ok (.p (kvI (hungK xs (places Itm.isJ xs)))) M := by
  apply fn_satN
  refine sat_any fun Φ hΦ => ?_
  have hxl := h.1
  have lp := len_places Itm.isJ xs
  have lj := e_law_jumps (xs := xs) (by omega)
  simp [c__law_hung, lj, zDnew]
  have e0 : M ++ [Ob.dic []] = M ++ [.dic (kvDI (hungK xs []))] := rfl
  rw [e0]
  simp only [dp_pnats]
  refine forP_seq _ _ (fun dn sl M' => ∃ d3, sl = [some (.p (sk xs)), some (.ref M.length), some (.p (.list (pnats (places Itm.isJ xs)))), d3, none] ∧ M' = M ++ [.dic (kvDI (hungK xs dn))]) ⟨none, rfl, rfl⟩ ?_ ?_
  · rintro dn a rest sl M' e ⟨d3, rfl, rfl⟩
    have ha : a ∈ places Itm.isJ xs := by rw [e]; simp
    have hnd := pl_nodup Itm.isJ xs
    have na : a ∉ dn := fun z => by
      rw [e, List.nodup_append] at hnd
      exact hnd.2.2 a z a (by simp) rfl
    have hdl : dn.length ≤ 100 := by
      have := congrArg List.length e
      simp at this
      omega
    have co : ∀ (Q : Store) d1 d2, compP (tgN 4) (ztand (zt (z2 zNe (zv 4) (zv 3))) (zt (z2 zNe (zs (zfc 3 F__law_changed) (zcons (zv 0) (zcons (zv 4) (zcons (zv 3) znil)))) (zs mkTup (zcons (zk (.int 0)) znil))))) (zv 4) [some (.p (sk xs)), d1, d2, some (.p (.int (a : Int))), none] ((pnats (places Itm.isJ xs)).map .p) Q = .ok ((pnats (hung xs a)).map .p) Q := fun Q d1 d2 => by
      rw [dp_pnats, compP_map (M := Q) (fun o : Nat => D.p (.int (o : Int))) (fun o => decide (o ≠ a) && !decide (chg xs o a = [0])) (fun o : Nat => D.p (.int (o : Int))), dp_pnats]
      · rfl
      · intro o ho
        refine ⟨_, rfl, ?_, fun _ => rfl⟩
        have ch := e_law_changed h ho ha
        have ne := ne_zero_t (chg xs o a)
        obtain ⟨cg, hcg⟩ : ∃ cg, cg = PyData.tuple (pints (chg xs o a)) := ⟨_, rfl⟩
        rw [← hcg] at ch ne
        by_cases c : o = a
        · simp [c]
        · have c' : ¬ (o : Int) = (a : Int) := by omega
          simp [c, c', ch, mkTup, ne]
    have lh := len_hung xs a
    have fz2 : ∀ Q, frzl ((pnats (hung xs a)).map .p) Q = .ok (.p (.list (pnats (hung xs a)))) Q := fun Q => by rw [frzl_map, if_pos (by simp; omega)]
    have it : ∀ js Q, itemsOf (.p (.list (pnats js))) Q = .ok ((pnats js).map .p) Q := fun js Q => rfl
    have dp := dput_I (M := M) (ps := hungK xs dn) (k := (a : Int)) (l := pnats (hung xs a)) (by unfold hungK; rw [List.length_map]; omega)
    rw [put_hung na] at dp
    refine ⟨_, rfl, ?_⟩
    refine sat_any fun Ψ hΨ => ?_
    simp [-itemsOf_l, -frzl_map, L__law_hung_1, it, wipeS, co, fz2, dp]
    exact hΨ _ ⟨_, _, rfl, _, rfl, rfl⟩
  · rintro sl M' ⟨d3, rfl, rfl⟩
    obtain ⟨R, hR⟩ := frz_I (M := M) (ps := hungK xs (places Itm.isJ xs))
    simp [hR]
    exact hΦ _ ⟨_, rfl⟩
end ZL

namespace ZL
open PySem PySem.Spec PyProof.Rows L2 Z
theorem Frm.sane {xs : List Itm} {j : Nat} (h : Frm xs j) : JSane xs ∧ PSane xs ∧ xs.length ≤ 200 :=
  ⟨⟨by have := h.2.1; omega, fun j g s l e => by
    have := (h.1 _ (List.mem_of_getElem? e)).1
    omega⟩, fun s hs => by
    have := p2_in (h.1 _ hs)
    omega, by have := h.2.1; omega⟩
end ZL

namespace ZL
open PySem PySem.Spec PyProof.Rows L2 Z
/-- the jumps that stand first in triples -/
def heads (xs : List Itm) : List Nat := (trips xs).map fun t => t.1
/-- unsure behind n turns -/
def unB (xs : List Itm) : Nat → Nat → Bool
  | 0, a => decide (a ∈ heads xs)
  | n + 1, a => unB xs n a || (decide (a ∈ places Itm.isJ xs) && (hung xs a).any (unB xs n))
def sure (xs : List Itm) : List Nat := (places Itm.isJ xs).filter fun a => !unB xs (places Itm.isJ xs).length a
theorem heads_in {xs : List Itm} {a : Nat} (h : a ∈ heads xs) : a ∈ places Itm.isJ xs := by
  obtain ⟨t, ht, rfl⟩ := List.mem_map.mp h
  obtain ⟨j, hj, ht⟩ := List.mem_flatMap.mp ht
  obtain ⟨p, hp, ht⟩ := List.mem_flatMap.mp ht
  obtain ⟨o, ho, rfl⟩ := List.mem_map.mp ht
  exact hj
theorem unB_in {xs : List Itm} : ∀ {n a : Nat}, unB xs n a = true → a ∈ places Itm.isJ xs
  | 0, a, h => heads_in (of_decide_eq_true h)
  | n + 1, a, h => by
    unfold unB at h
    rw [Bool.or_eq_true] at h
    rcases h with h | h
    · exact unB_in h
    · rw [Bool.and_eq_true] at h
      exact of_decide_eq_true h.1
theorem places_rise (xs : List Itm) : (places Itm.isJ xs).Pairwise (· < ·) := by
  unfold places
  have h : (xs.zipIdx.map Prod.snd).Pairwise (· < ·) := by
    rw [List.zipIdx_map_snd]
    exact List.pairwise_lt_range' (s := 0)
  exact List.Pairwise.sublist (List.Sublist.map _ List.filter_sublist) h
theorem lsort_rise {ns : List Nat} (h : ns.Pairwise (· < ·)) : lsort (fun n : Nat => PyData.int (n : Int)) ns = ns := by
  unfold lsort
  rw [PySem.W.dataLe_int]
  exact List.mergeSort_of_pairwise (h.imp fun h => decide_eq_true (by omega))
theorem sort_rise {ns : List Nat} (h : ns.Pairwise (· < ·)) (hl : ns.length ≤ 100000) (M : Store) : zSort [.p (.list (pnats ns))] M = .ok (.p (.list (pnats ns))) M := by
  have := zSort_of srt_nat (d := .p (.list (pnats ns))) (M := M) (xs := ns) rfl (by omega)
  rw [lsort_rise h] at this
  exact this
/-! the program's -/
theorem dc_hung {xs : List Itm} (h : FrOk xs) {d1 d2 d3 d4 d6 : Option D} (M : Store) : ∀ js : List Nat, (∀ a ∈ js, a ∈ places Itm.isJ xs) →
    dcP (tgN 5) ztyes (zv 5) (zs (zfc 2 F_hangs_on) (zcons (zv 0) (zcons (zv 5) znil))) [some (.p (sk xs)), d1, d2, d3, d4, none, d6] ((pnats js).map .p) M = .ok (kvDI (hungK xs js)) M
  | [], _ => rfl
  | a :: js, hj => by
    have ho := e_hangs_on h (hj a (List.mem_cons_self ..)) M
    have ih := dc_hung h M js (d1 := d1) (d2 := d2) (d3 := d3) (d4 := d4) (d6 := d6) fun b hb => hj b (List.mem_cons_of_mem _ hb)
    have e1 : (pnats (a :: js)).map D.p = D.p (.int (a : Int)) :: (pnats js).map D.p := rfl
    have e2 : keyOf (D.p (.int (a : Int))) = some (.inl (a : Int)) := rfl
    rw [e1]
    unfold dcP
    simp [tgN, e2, ho, ih]
    rfl
theorem merge_hung (xs : List Itm) : ∀ (rest dn : List Nat), (dn ++ rest).Nodup → mergeD (kvDI (hungK xs dn)) (kvDI (hungK xs rest)) = kvDI (hungK xs (dn ++ rest))
  | [], dn, _ => by rw [List.append_nil]; rfl
  | a :: rest, dn, h => by
    have na : a ∉ dn := fun z => by
      rw [List.nodup_append] at h
      exact h.2.2 a z a (by simp) rfl
    have := merge_hung xs rest (dn ++ [a]) (by simpa using h)
    rw [show dn ++ a :: rest = dn ++ [a] ++ rest by simp, ← this]
    unfold mergeD
    rw [show kvDI (hungK xs (a :: rest)) = (.inl (a : Int), .p (.tuple (pnats (hung xs a)))) :: kvDI (hungK xs rest) from rfl, List.foldl_cons]
    simp only [put_D, put_hung na]
theorem any_bools (U : List Nat) (os : List Nat) (M : Store) : zAny [.p (.list (os.map fun o => PyData.bool (decide (o ∈ U))))] M = .ok (.p (.bool (os.any fun o => decide (o ∈ U)))) M := by
  have hb : boolsOf (os.map fun o => D.p (.bool (decide (o ∈ U)))) = some (os.map fun o => decide (o ∈ U)) := by
    have := boolsOf_map (os.map fun o => decide (o ∈ U))
    rw [List.map_map] at this
    exact this
  unfold zAny
  simp only [lstv_p, List.map_map]
  rw [show (D.p ∘ fun o : Nat => PyData.bool (decide (o ∈ U))) = fun o => D.p (.bool (decide (o ∈ U))) from rfl, hb]
  simp only [any_map_bool]
theorem in_list (o : Nat) (U : List Nat) (neg : Bool) (M : Store) : zin neg (.p (.int (o : Int))) (.p (.list (pnats U))) M = .ok (.p (.bool (neg ^^ decide (o ∈ U)))) M := zin_layL Lay.nat (by decide) neg o U M
theorem heads_len {xs : List Itm} {j : Nat} (h : Frm xs j) : (heads xs).length ≤ 8000000 := by
  unfold heads trips
  rw [List.length_map]
  have hs := h.sane
  have h1 := len_flat2 (tripsOf xs) 40000 (places Itm.isJ xs) fun i hi => len_tripsOf hs.2.2 (high_le hs.1 hi).1
  have h2 := len_places Itm.isJ xs
  have h3 := h.2.1
  have h4 : (places Itm.isJ xs).length * 40000 ≤ 60 * 40000 := Nat.mul_le_mul_right _ (by omega)
  have h5 : (List.flatMap (tripsOf xs) (places Itm.isJ xs)).length = ((places Itm.isJ xs).flatMap (tripsOf xs)).length := rfl
  omega
theorem b_sure1 {xs : List Itm} (hl : (places Itm.isJ xs).length ≤ 1000) {U : List Nat} (M : Store) {d0 d3 d4 : Option D} :
    L_sure_part_1 [d0, some (.p (.list (pnats U))), some (.p (kvI (hungK xs (places Itm.isJ xs)))), d3, d4, none, none] M =
      .nx [d0, some (.p (.list (pnats ((places Itm.isJ xs).filter fun a => decide (a ∈ U) || (hung xs a).any fun o => decide (o ∈ U))))), some (.p (kvI (hungK xs (places Itm.isJ xs)))), d3, d4, none, none] M := by
  have ih := items_hung xs (places Itm.isJ xs)
  have ix := fun a (ha : a ∈ places Itm.isJ xs) => ix_hung (xs := xs) ha
  obtain ⟨kv, hkv⟩ : ∃ kv, kv = kvI (hungK xs (places Itm.isJ xs)) := ⟨_, rfl⟩
  obtain ⟨ul, hul⟩ : ∃ ul, ul = PyData.list (pnats U) := ⟨_, rfl⟩
  have inn := fun o neg M => in_list o U neg M
  rw [← hkv] at ih ix ⊢
  rw [← hul] at inn ⊢
  have ci : ∀ (os : List Nat) (Q : Store) d5, compP (tgN 6) ztyes (z2 zIn (zv 6) (zv 1)) [d0, some (.p ul), some (.p kv), d3, d4, d5, none] ((pnats os).map .p) Q = .ok ((os.map fun o => PyData.bool (decide (o ∈ U))).map .p) Q := fun os Q d5 => by
    rw [dp_pnats, compP_map (M := Q) (fun o : Nat => D.p (.int (o : Int))) (fun _ => true) (fun o : Nat => D.p (.bool (decide (o ∈ U))))]
    · rw [List.filter_eq_self.mpr fun _ _ => rfl, List.map_map]
      rfl
    · intro o _
      refine ⟨_, rfl, rfl, fun _ => ?_⟩
      simp [zIn, inn]
  have it2 : ∀ js Q, itemsOf (.p (.tuple (pnats js))) Q = .ok ((pnats js).map .p) Q := fun js Q => rfl
  have co : ∀ (Q : Store), compP (tgN 5) (ztor (zt (z2 zIn (zv 5) (zv 1))) (zt (zs zAny (zcons (zcomp frzl [6] (zitems (z2 zIx (zv 2) (zv 5))) (tgN 6) ztyes (z2 zIn (zv 6) (zv 1))) znil)))) (zv 5) [d0, some (.p ul), some (.p kv), d3, d4, none, none] ((places Itm.isJ xs).map fun a : Nat => D.p (.int (a : Int))) Q = .ok ((pnats ((places Itm.isJ xs).filter fun a => decide (a ∈ U) || (hung xs a).any fun o => decide (o ∈ U))).map .p) Q := fun Q => by
    rw [compP_map (M := Q) (fun o : Nat => D.p (.int (o : Int))) (fun a => decide (a ∈ U) || (hung xs a).any fun o => decide (o ∈ U)) (fun o : Nat => D.p (.int (o : Int))), dp_pnats]
    intro a ha
    refine ⟨_, rfl, ?_, fun _ => rfl⟩
    have hx := ix a ha
    have lh := len_hung xs a
    have fz : ∀ Q, frzl (((hung xs a).map fun o => PyData.bool (decide (o ∈ U))).map .p) Q = .ok (.p (.list ((hung xs a).map fun o => PyData.bool (decide (o ∈ U))))) Q := fun Q => by rw [frzl_map, if_pos (by simp; omega)]
    have an := any_bools U (hung xs a)
    obtain ⟨bl, hbl⟩ : ∃ bl, bl = (hung xs a).map fun o => PyData.bool (decide (o ∈ U)) := ⟨_, rfl⟩
    have ci' := fun Q d5 => ci (hung xs a) Q d5
    rw [← hbl] at fz an ci'
    by_cases c : a ∈ U
    · simp [zIn, inn, c]
    · simp [-itemsOf_t, -frzl_map, zIn, inn, c, hx, it2, wipeS, ci', fz, an]
  obtain ⟨F, hF⟩ : ∃ F, F = (places Itm.isJ xs).filter fun a => decide (a ∈ U) || (hung xs a).any fun o => decide (o ∈ U) := ⟨_, rfl⟩
  have hFl : F.length ≤ 1000 := by rw [hF]; exact Nat.le_trans (List.length_filter_le _ _) hl
  rw [← hF] at co ⊢
  have fz : ∀ Q, frzl ((pnats F).map .p) Q = .ok (.p (.list (pnats F))) Q := fun Q => by rw [frzl_map, if_pos (by simp; omega)]
  simp [-frzl_map, L_sure_part_1, ih, wipeS, co, fz]
theorem e_sure_part {xs : List Itm} {j : Nat} (h : Frm xs j) (M : Store) : F_sure_part [.p (sk xs)] M = .ok (.p (.tuple (pnats (sure xs)))) M := by
  apply fn_satN
  refine sat_any fun Φ hΦ => ?_
  have hf := h.ok
  have hs := h.sane
  have hxl := h.2.1
  have lp := len_places Itm.isJ xs
  have lj := e_jumps_of (xs := xs) (by omega)
  have et := e_triples hs.1 hs.2.1 hs.2.2
  have hl := heads_len h
  have co0 : ∀ (Q : Store), compP (tgN 4) ztyes (z2 zIx (zv 4) (zk (.int 0))) [some (.p (sk xs)), none, none, none, none, none, none] (((trips xs).map enc3).map .p) Q = .ok ((pnats (heads xs)).map .p) Q := fun Q => by
    rw [show ((trips xs).map enc3).map D.p = (trips xs).map fun t => D.p (enc3 t) by rw [List.map_map]; rfl]
    rw [compP_map (M := Q) (fun t => D.p (enc3 t)) (fun _ => true) (fun t => D.p (.int (t.1 : Int)))]
    · rw [List.filter_eq_self.mpr fun _ _ => rfl]
      unfold heads pnats
      rw [List.map_map, List.map_map]
      rfl
    · intro t _
      exact ⟨_, rfl, rfl, fun _ => rfl⟩
  have fz0 : ∀ Q, frzl ((pnats (heads xs)).map .p) Q = .ok (.p (.list (pnats (heads xs)))) Q := fun Q => by rw [frzl_map, if_pos (by simp; omega)]
  have it1 : ∀ Q, itemsOf (.p (.tuple ((trips xs).map enc3))) Q = .ok (((trips xs).map enc3).map .p) Q := fun Q => rfl
  have it2 : ∀ js Q, itemsOf (.p (.tuple (pnats js))) Q = .ok ((pnats js).map .p) Q := fun js Q => rfl
  have dc := fun M d1 => dc_hung hf M (d1 := d1) (d2 := none) (d3 := none) (d4 := none) (d6 := none) (places Itm.isJ xs) fun _ h => h
  have mg := merge_hung xs (places Itm.isJ xs) [] (by simpa using pl_nodup Itm.isJ xs)
  have mg' : mergeD [] (kvDI (hungK xs (places Itm.isJ xs))) = kvDI (hungK xs (places Itm.isJ xs)) := mg
  obtain ⟨R, hR⟩ := frz_I (M := M) (ps := hungK xs (places Itm.isJ xs))
  have hpl : ((pnats (places Itm.isJ xs)).map D.p).length ≤ 1000 := by simp; omega
  have dfr : (dfin (mergeD [] (kvDI (hungK xs (places Itm.isJ xs)))) M).bind zfreeze = .ok (.p (kvI (hungK xs (places Itm.isJ xs)))) (M ++ R) := by
    rw [mg']
    exact hR
  have ih := items_hung xs (places Itm.isJ xs)
  have zd : ∀ sl : Sl, sl = [some (.p (sk xs)), some (.p (.list (pnats (heads xs)))), none, none, none, none, none] → (zfrz (zdcomp [5] (zitems (zs (zfc 1 F_jumps_of) (zcons (zv 0) znil))) (tgN 5) ztyes (zv 5) (zs (zfc 2 F_hangs_on) (zcons (zv 0) (zcons (zv 5) znil))))) sl M = .ok (.p (kvI (hungK xs (places Itm.isJ xs)))) (M ++ R) := fun sl e => by
    subst e
    unfold zfrz zdcomp
    simp only [zitems_e, zs_e, zcons_e, zv_0, znil_e, Out.bind_ok, zfc_e, List.length_cons, List.length_nil, lj, if_true]
    rw [it2]
    simp only [Out.bind_ok]
    rw [if_pos hpl, show wipeS [some (D.p (sk xs)), some (D.p (.list (pnats (heads xs)))), none, none, none, none, none] [5] = [some (D.p (sk xs)), some (D.p (.list (pnats (heads xs)))), none, none, none, none, none] from rfl, dc]
    exact dfr
  obtain ⟨kv, hkv⟩ : ∃ kv, kv = kvI (hungK xs (places Itm.isJ xs)) := ⟨_, rfl⟩
  unfold c_sure_part
  rw [sseq_e]
  have s1 : (sset 1 (zcomp frzl [4] (zitems (zs (zfc 1 F_triples) (zcons (zv 0) znil))) (tgN 4) ztyes (z2 zIx (zv 4) (zk (.int 0))))) [some (.p (sk xs)), none, none, none, none, none, none] M = .nx [some (.p (sk xs)), some (.p (.list (pnats (heads xs)))), none, none, none, none, none] M := by
    simp [-itemsOf_t, -frzl_map, -List.map_map, et, it1, wipeS, co0, fz0]
  have s0 : ([D.p (sk xs)].map some ++ List.replicate (7 - [D.p (sk xs)].length) none : Sl) = [some (.p (sk xs)), none, none, none, none, none, none] := rfl
  rw [s0, s1, OutS.seq_nx, sseq_e, sset_e, zd _ rfl]
  simp only [Out.thn_ok, OutS.seq_nx, List.set]
  rw [sseq_e, sfor_e, zitems_e]
  simp only [zv_S, zv_0, Out.bind_ok, ih, Out.thn_ok]
  have n1 : ∀ i a (b : Sl) M, zv (i + 1) (a :: b) M = zv i b M := fun _ _ _ _ => rfl
  refine forP_seq _ _ (fun dn sl M' => ∃ U d3, sl = [some (.p (sk xs)), some (.p (.list (pnats U))), some (.p (kvI (hungK xs (places Itm.isJ xs)))), d3, none, none, none] ∧ M' = M ++ R ∧ ∀ a, a ∈ U ↔ unB xs dn.length a = true)
    ⟨heads xs, none, rfl, rfl, fun a => by simp [unB]⟩ ?_ ?_
  · rintro dn a rest sl M' e ⟨U, d3, rfl, rfl, hU⟩
    have bs := b_sure1 (xs := xs) (by omega) (U := U) (M ++ R) (d0 := some (.p (sk xs))) (d3 := some (.p (.int (a : Int)))) (d4 := none)
    refine ⟨_, rfl, _, _, bs, _, _, rfl, rfl, fun b => ?_⟩
    rw [List.length_append, List.length_singleton, List.mem_filter]
    show _ ↔ (unB xs dn.length b || (decide (b ∈ places Itm.isJ xs) && (hung xs b).any (unB xs dn.length))) = true
    have ea : (hung xs b).any (fun o => decide (o ∈ U)) = (hung xs b).any (unB xs dn.length) := by
      congr 1
      funext o
      rw [Bool.eq_iff_iff, decide_eq_true_eq]
      exact hU o
    have eb : decide (b ∈ U) = unB xs dn.length b := by rw [Bool.eq_iff_iff, decide_eq_true_eq]; exact hU b
    rw [ea, eb]
    constructor
    · rintro ⟨h1, h2⟩
      simp only [Bool.or_eq_true, Bool.and_eq_true, decide_eq_true_eq] at h2 ⊢
      rcases h2 with h2 | h2
      · exact .inl h2
      · exact .inr ⟨h1, h2⟩
    · intro h2
      simp only [Bool.or_eq_true, Bool.and_eq_true, decide_eq_true_eq] at h2 ⊢
      rcases h2 with h2 | h2
      · exact ⟨unB_in h2, .inl h2⟩
      · exact ⟨h2.1, .inr h2.2⟩
  · rintro sl M' ⟨U, d3, rfl, rfl, hU⟩
    have co : ∀ (Q : Store), compP (tgN 5) (zt (z2 zNotIn (zv 5) (zv 1))) (zv 5) [some (.p (sk xs)), some (.p (.list (pnats U))), some (.p (kvI (hungK xs (places Itm.isJ xs)))), d3, none, none, none] ((places Itm.isJ xs).map fun a : Nat => D.p (.int (a : Int))) Q = .ok ((pnats (sure xs)).map .p) Q := fun Q => by
      have inn := fun o neg M => in_list o U neg M
      rw [compP_map (M := Q) (fun o : Nat => D.p (.int (o : Int))) (fun a => !unB xs (places Itm.isJ xs).length a) (fun o : Nat => D.p (.int (o : Int))), dp_pnats]
      · rfl
      · intro a _
        refine ⟨_, rfl, ?_, fun _ => rfl⟩
        have : decide (a ∈ U) = unB xs (places Itm.isJ xs).length a := by rw [Bool.eq_iff_iff, decide_eq_true_eq]; exact hU a
        simp [zNotIn, inn, this]
    have hsl : (sure xs).length ≤ 1000 := Nat.le_trans (List.length_filter_le _ _) (by omega)
    have fz : ∀ Q, frzl ((pnats (sure xs)).map .p) Q = .ok (.p (.list (pnats (sure xs)))) Q := fun Q => by rw [frzl_map, if_pos (by simp; omega)]
    rw [← hkv] at co ih ⊢
    simp [-frzl_map, ih, wipeS, co, fz]
    exact hΦ _ ⟨_, rfl⟩
end ZL

namespace ZL
open PySem PySem.Spec PyProof.Rows L2 Z
def nats (ns : List Nat) : List Int := ns.map fun n : Nat => (n : Int)
theorem mem_nats {n : Nat} {ns : List Nat} : (n : Int) ∈ nats ns ↔ n ∈ ns := by
  unfold nats
  rw [List.mem_map]
  exact ⟨fun ⟨m, hm, e⟩ => by rw [← show m = n by omega]; exact hm, fun h => ⟨n, h, rfl⟩⟩
theorem sortSet_l {ns : List Int} (h1 : ns.length ≤ 4000) (h2 : (uns ns).length < 64) (M : Store) : zSortSet (.p (.list (pints ns))) M = .ok (.p (.list (pints (uns ns)))) M := by
  have sv : seqv M (.p (.list (pints ns))) = some ((pints ns).map .p) := rfl
  unfold zSortSet
  simp only [sv, intsOf_ints]
  rw [if_pos ⟨h1, h2⟩]
  rfl
/-- the unsure jumps, by the law's sets -/
theorem b_lsure {xs : List Itm} (hl : (places Itm.isJ xs).length < 60) {L : List Int} (hL : L.length ≤ 3900) (hin : ∀ i ∈ L, ∃ a : Nat, i = (a : Int) ∧ a ∈ places Itm.isJ xs) (M : Store) {d0 d3 d5 d6 : Option D} :
    ∃ L', L__law_sure_1 [d0, some (.p (kvI (hungK xs (places Itm.isJ xs)))), some (.p (.list (pints L))), d3, none, d5, d6, none] M =
      .nx [d0, some (.p (kvI (hungK xs (places Itm.isJ xs)))), some (.p (.list (pints L'))), d3, none, d5, d6, none] M ∧ L'.length ≤ 60 ∧
      ∀ i, i ∈ L' ↔ i ∈ L ∨ ∃ a : Nat, i = (a : Int) ∧ a ∈ places Itm.isJ xs ∧ ∃ o ∈ hung xs a, (o : Int) ∈ L := by
  have ih := items_hung xs (places Itm.isJ xs)
  have ix := fun a (ha : a ∈ places Itm.isJ xs) => ix_hung (xs := xs) ha
  obtain ⟨kv, hkv⟩ : ∃ kv, kv = kvI (hungK xs (places Itm.isJ xs)) := ⟨_, rfl⟩
  obtain ⟨ul, hul⟩ : ∃ ul, ul = PyData.list (pints L) := ⟨_, rfl⟩
  have inn := fun (o : Nat) neg M => zin_li neg (o : Int) L M
  have ad : ∀ (F : List Nat) M, L.length + F.length ≤ 100000 → zAdd (.p (.list (pints L))) (.p (.list (pnats F))) M = .ok (.p (.list (pints (L ++ nats F)))) M := fun F M h => by
    simp only [zAdd, zAddL, lstv_p]
    rw [← List.map_append, frzl_map, if_pos (by simp; omega), pnats_ints, pints_app]
    rfl
  rw [← hkv] at ih ix ⊢
  rw [← hul] at inn ad ⊢
  have it2 : ∀ js Q, itemsOf (.p (.tuple (pnats js))) Q = .ok ((pnats js).map .p) Q := fun js Q => rfl
  have ci : ∀ (os : List Nat) (Q : Store) d4, compP (tgN 7) (zt (z2 zIn (zv 7) (zv 2))) (zv 7) [d0, some (.p kv), some (.p ul), d3, d4, d5, d6, none] ((pnats os).map .p) Q = .ok ((pnats (os.filter fun o => decide ((o : Int) ∈ L))).map .p) Q := fun os Q d4 => by
    rw [dp_pnats, compP_map (M := Q) (fun o : Nat => D.p (.int (o : Int))) (fun o => decide ((o : Int) ∈ L)) (fun o : Nat => D.p (.int (o : Int))), dp_pnats]
    intro o _
    refine ⟨_, rfl, ?_, fun _ => rfl⟩
    simp [zIn, inn]
  have co : ∀ (Q : Store), compP (tgN 4) (zt (z2 zNe (zcomp frzl [7] (zitems (z2 zIx (zv 1) (zv 4))) (tgN 7) (zt (z2 zIn (zv 7) (zv 2))) (zv 7)) (zs mkLstF znil))) (zv 4) [d0, some (.p kv), some (.p ul), d3, none, d5, d6, none] ((places Itm.isJ xs).map fun a : Nat => D.p (.int (a : Int))) Q = .ok ((pnats ((places Itm.isJ xs).filter fun a => (hung xs a).any fun o => decide ((o : Int) ∈ L))).map .p) Q := fun Q => by
    rw [compP_map (M := Q) (fun o : Nat => D.p (.int (o : Int))) (fun a => (hung xs a).any fun o => decide ((o : Int) ∈ L)) (fun o : Nat => D.p (.int (o : Int))), dp_pnats]
    intro a ha
    refine ⟨_, rfl, ?_, fun _ => rfl⟩
    have hx := ix a ha
    have lh := len_hung xs a
    have ci' := fun Q d4 => ci (hung xs a) Q d4
    obtain ⟨G, hG⟩ : ∃ G : List Nat, G = (hung xs a).filter fun o : Nat => decide ((o : Int) ∈ L) := ⟨_, rfl⟩
    have hGl : G.length ≤ 1000 := by rw [hG]; exact Nat.le_trans (List.length_filter_le _ _) (by omega)
    rw [← hG] at ci'
    have fz : ∀ Q, frzl ((pnats G).map .p) Q = .ok (.p (.list (pnats G))) Q := fun Q => by rw [frzl_map, if_pos (by simp; omega)]
    have ne : ∀ M, zNe (.p (.list (pnats G))) (.p (.list [])) M = .ok (.p (.bool ((hung xs a).any fun o => decide ((o : Int) ∈ L)))) M := fun M => by
      rw [pnats_ints, zNe_nil]
      congr 3
      rw [Bool.eq_iff_iff, List.any_eq_true, hG]
      simp
    simp [-itemsOf_t, -frzl_map, hx, it2, wipeS, ci', fz, mkLstF, ne]
  obtain ⟨F, hF⟩ : ∃ F, F = (places Itm.isJ xs).filter fun a => (hung xs a).any fun o => decide ((o : Int) ∈ L) := ⟨_, rfl⟩
  have hFl : F.length ≤ 60 := by rw [hF]; exact Nat.le_trans (List.length_filter_le _ _) (by omega)
  rw [← hF] at co
  have fz : ∀ Q, frzl ((pnats F).map .p) Q = .ok (.p (.list (pnats F))) Q := fun Q => by rw [frzl_map, if_pos (by simp; omega)]
  have all : ∀ i ∈ uns (L ++ nats F), i ∈ nats (places Itm.isJ xs) := fun i hi => by
    rw [mem_uns] at hi
    rcases List.mem_append.mp hi with h | h
    · obtain ⟨a, rfl, ha⟩ := hin i h
      exact mem_nats.mpr ha
    · obtain ⟨a, ha, rfl⟩ := List.mem_map.mp h
      rw [hF] at ha
      exact mem_nats.mpr (List.mem_filter.mp ha).1
  have hul2 : (uns (L ++ nats F)).length ≤ (places Itm.isJ xs).length := by
    have := nodup_sub _ _ (rise_nodup (uns_rise (L ++ nats F))) all
    unfold nats at this
    rwa [List.length_map] at this
  have ss := sortSet_l (ns := L ++ nats F) (by unfold nats; rw [List.length_append, List.length_map]; omega) (by omega)
  have ad' := ad F
  obtain ⟨L', hL'⟩ : ∃ L', L' = uns (L ++ nats F) := ⟨_, rfl⟩
  obtain ⟨lf, hlf⟩ : ∃ lf, lf = L ++ nats F := ⟨_, rfl⟩
  rw [← hlf] at ad' ss
  have e2 : uns lf = L' := by rw [hL', hlf]
  rw [e2] at ss
  obtain ⟨pf, hpf⟩ : ∃ pf, pf = PyData.list (pints lf) := ⟨_, rfl⟩
  rw [← hpf] at ad' ss
  refine ⟨L', ?_, by rw [hL']; omega, fun i => ?_⟩
  · have ad2 := fun M => ad' M (by omega)
    simp [-frzl_map, L__law_sure_1, ih, wipeS, co, fz, ad2, ss]
  · rw [hL', mem_uns, List.mem_append]
    refine or_congr Iff.rfl ?_
    constructor
    · intro h
      obtain ⟨a, ha, rfl⟩ := List.mem_map.mp h
      rw [hF] at ha
      obtain ⟨h1, h2⟩ := List.mem_filter.mp ha
      obtain ⟨o, ho, h3⟩ := List.any_eq_true.mp h2
      exact ⟨a, rfl, h1, o, ho, of_decide_eq_true h3⟩
    · rintro ⟨a, rfl, h1, o, ho, h3⟩
      refine mem_nats.mpr ?_
      rw [hF]
      exact List.mem_filter.mpr ⟨h1, List.any_eq_true.mpr ⟨o, ho, decide_eq_true h3⟩⟩
theorem e_law_sure {xs : List Itm} {j : Nat} (h : Frm xs j) (hj : j < 60) (hh : (heads xs).length ≤ 3900) (M : Store) : F__law_sure [.p (.list ((trips xs).map enc3)), .p (kvI (hungK xs (places Itm.isJ xs)))] M = .ok (.p (.tuple (pnats (sure xs)))) M := by
  apply fn_satN
  refine sat_any fun Φ hΦ => ?_
  have hpl : (places Itm.isJ xs).length < 60 := by rw [h.2.2]; exact hj
  have co0 : ∀ (Q : Store) d0 d1 d2 d3, compP (tgT (tgsCons (tgN 4) (tgsCons (tgN 5) (tgsCons (tgN 6) tgsNil)))) ztyes (zv 4) [d0, d1, d2, d3, none, none, none, none] (((trips xs).map enc3).map .p) Q = .ok ((pnats (heads xs)).map .p) Q := fun Q d0 d1 d2 d3 => by
    rw [show ((trips xs).map enc3).map D.p = (trips xs).map fun t => D.p (enc3 t) by rw [List.map_map]; rfl]
    rw [compP_map (M := Q) (fun t => D.p (enc3 t)) (fun _ => true) (fun t => D.p (.int (t.1 : Int)))]
    · rw [List.filter_eq_self.mpr fun _ _ => rfl]
      unfold heads pnats
      rw [List.map_map, List.map_map]
      rfl
    · intro t _
      exact ⟨_, rfl, rfl, fun _ => rfl⟩
  have fz0 : ∀ Q, frzl ((pnats (heads xs)).map .p) Q = .ok (.p (.list (pints (nats (heads xs))))) Q := fun Q => by
    rw [frzl_map, if_pos (by simp; omega), pnats_ints]
    rfl
  have it1 : ∀ Q, itemsOf (.p (.list ((trips xs).map enc3))) Q = .ok (((trips xs).map enc3).map .p) Q := fun Q => rfl
  have ih := items_hung xs (places Itm.isJ xs)
  have zl : ∀ M, zListA [.p (kvI (hungK xs (places Itm.isJ xs)))] M = .ok (.p (.list (pnats (places Itm.isJ xs)))) M := fun M => by
    have e : dictv M (.p (kvI (hungK xs (places Itm.isJ xs)))) = some (kvDI (hungK xs (places Itm.isJ xs))) := by
      unfold kvI
      rw [dictv_d, keyed_I]
    unfold zListA
    simp only [e]
    rw [if_pos (by unfold kvDI hungK; rw [List.length_map, List.length_map]; omega)]
    unfold kvDI hungK pnats
    rw [List.map_map, List.map_map]
    rfl
  have so := sort_rise (places_rise xs) (by omega)
  have it3 : ∀ js Q, itemsOf (.p (.list (pnats js))) Q = .ok ((pnats js).map .p) Q := fun js Q => rfl
  unfold c__law_sure
  rw [sseq_e]
  obtain ⟨tl, htl⟩ : ∃ tl, tl = PyData.list ((trips xs).map enc3) := ⟨_, rfl⟩
  rw [← htl] at it1 ⊢
  obtain ⟨kv, hkv⟩ : ∃ kv, kv = kvI (hungK xs (places Itm.isJ xs)) := ⟨_, rfl⟩
  have s1 : (sset 2 (zcomp frzl [4, 5, 6] (zitems (zv 0)) (tgT (tgsCons (tgN 4) (tgsCons (tgN 5) (tgsCons (tgN 6) tgsNil)))) ztyes (zv 4))) [some (.p tl), some (.p kv), none, none, none, none, none, none] M = .nx [some (.p tl), some (.p kv), some (.p (.list (pints (nats (heads xs))))), none, none, none, none, none] M := by
    simp [-frzl_map, -List.map_map, it1, wipeS, co0, fz0]
  have s0 : ([D.p tl, D.p kv].map some ++ List.replicate (8 - [D.p tl, D.p kv].length) none : Sl) = [some (.p tl), some (.p kv), none, none, none, none, none, none] := rfl
  rw [← hkv] at ih zl ⊢
  rw [s0, s1, OutS.seq_nx, sseq_e, sfor_e, zitems_e]
  simp only [zv_S, zv_0, Out.bind_ok, ih, Out.thn_ok]
  refine forP_seq _ _ (fun dn sl M' => ∃ (L : List Int) (d3 : Option D), sl = [some (.p tl), some (.p kv), some (.p (.list (pints L))), d3, none, none, none, none] ∧ M' = M ∧ L.length ≤ 3900 ∧ ∀ i, i ∈ L ↔ ∃ a : Nat, i = (a : Int) ∧ unB xs dn.length a = true)
    ⟨nats (heads xs), none, rfl, rfl, by unfold nats; rw [List.length_map]; exact hh, fun i => ?_⟩ ?_ ?_
  · unfold nats
    rw [List.mem_map]
    constructor
    · rintro ⟨a, ha, rfl⟩
      exact ⟨a, rfl, decide_eq_true ha⟩
    · rintro ⟨a, rfl, ha⟩
      exact ⟨a, of_decide_eq_true ha, rfl⟩
  · rintro dn a rest sl M' e ⟨L, d3, rfl, rfl, hL, hm⟩
    obtain ⟨L', e2, hl', hm'⟩ := b_lsure (xs := xs) hpl (L := L) hL (fun i hi => by
      obtain ⟨a, rfl, ha⟩ := (hm i).mp hi
      exact ⟨a, rfl, unB_in ha⟩) M' (d0 := some (.p tl)) (d3 := some (.p (.int (a : Int)))) (d5 := none) (d6 := none)
    rw [← hkv] at e2
    refine ⟨_, rfl, _, _, e2, L', _, rfl, rfl, by omega, fun i => ?_⟩
    rw [hm', List.length_append, List.length_singleton, hm]
    constructor
    · rintro (⟨b, rfl, hb⟩ | ⟨b, rfl, hb, o, ho, h3⟩)
      · refine ⟨b, rfl, ?_⟩
        show (unB xs dn.length b || _) = true
        rw [hb, Bool.true_or]
      · obtain ⟨c, ec, hc⟩ := (hm _).mp h3
        have ec : c = o := by omega
        subst ec
        refine ⟨b, rfl, ?_⟩
        show (unB xs dn.length b || (decide (b ∈ places Itm.isJ xs) && (hung xs b).any (unB xs dn.length))) = true
        rw [decide_eq_true hb, List.any_eq_true.mpr ⟨c, ho, hc⟩]
        simp
    · rintro ⟨b, rfl, hb⟩
      have hb : (unB xs dn.length b || (decide (b ∈ places Itm.isJ xs) && (hung xs b).any (unB xs dn.length))) = true := hb
      simp only [Bool.or_eq_true, Bool.and_eq_true, decide_eq_true_eq] at hb
      rcases hb with hb | ⟨h1, h2⟩
      · exact .inl ⟨b, rfl, hb⟩
      · obtain ⟨o, ho, h3⟩ := List.any_eq_true.mp h2
        exact .inr ⟨b, rfl, h1, o, ho, (hm _).mpr ⟨o, rfl, h3⟩⟩
  · rintro sl M' ⟨L, d3, rfl, rfl, hL, hm⟩
    have co : ∀ (Q : Store), compP (tgN 4) (zt (z2 zNotIn (zv 4) (zv 2))) (zv 4) [some (.p tl), some (.p kv), some (.p (.list (pints L))), d3, none, none, none, none] ((pnats (places Itm.isJ xs)).map .p) Q = .ok ((pnats (sure xs)).map .p) Q := fun Q => by
      have inn := fun (o : Nat) neg M => zin_li neg (o : Int) L M
      rw [dp_pnats, compP_map (M := Q) (fun o : Nat => D.p (.int (o : Int))) (fun a => !unB xs (places Itm.isJ xs).length a) (fun o : Nat => D.p (.int (o : Int))), dp_pnats]
      · rfl
      · intro a _
        refine ⟨_, rfl, ?_, fun _ => rfl⟩
        have : decide ((a : Int) ∈ L) = unB xs (places Itm.isJ xs).length a := by
          rw [Bool.eq_iff_iff, decide_eq_true_eq, hm]
          exact ⟨fun ⟨b, e, hb⟩ => by rw [show a = b by omega]; exact hb, fun h => ⟨a, rfl, h⟩⟩
        simp [zNotIn, inn, this]
    have hsl : (sure xs).length ≤ 1000 := Nat.le_trans (List.length_filter_le _ _) (by omega)
    have fz : ∀ Q, frzl ((pnats (sure xs)).map .p) Q = .ok (.p (.list (pnats (sure xs)))) Q := fun Q => by rw [frzl_map, if_pos (by simp; omega)]
    simp [-frzl_map, -itemsOf_l, zl, so, it3, wipeS, co, fz]
    exact hΦ _ ⟨[], by simp⟩
end ZL

namespace ZL
open PySem PySem.Spec PyProof.Rows L2 Z
def endsN (xs : List Itm) (a : Nat) : List Nat := ((trips xs).filter fun t => decide (t.1 = a)).map fun t => t.2.2
def inW (xs : List Itm) (a o : Nat) : Bool := decide (lowA xs a < o) && decide (o < highA xs a)
theorem mem_endsN {xs : List Itm} {a o : Nat} : o ∈ endsN xs a ↔ [a, o] ∈ endsOf xs := by
  unfold endsN endsOf
  rw [List.mem_map, List.mem_map]
  constructor
  · rintro ⟨t, ht, rfl⟩
    obtain ⟨h1, h2⟩ := List.mem_filter.mp ht
    exact ⟨t, h1, by rw [of_decide_eq_true h2]⟩
  · rintro ⟨t, ht, e⟩
    injection e with e1 e2
    injection e2 with e2
    exact ⟨t, List.mem_filter.mpr ⟨ht, decide_eq_true e1⟩, e2⟩
theorem due_hung {xs : List Itm} {j : Nat} (h : Frm xs j) (hgl : GL xs) {a : Nat} (ha : a ∈ places Itm.isJ xs) :
    ((places Itm.isJ xs).filter fun o => decide (o ≠ a) && (inW xs a o || decide (o ∈ endsN xs a))) = hung xs a := by
  unfold hung
  apply List.filter_congr
  intro o ho
  by_cases c : o = a
  · simp [c]
  · rw [decide_eq_true (show o ≠ a from c), Bool.true_and, Bool.true_and, Bool.eq_iff_iff]
    obtain ⟨x, y, e1, e2, e3, e4⟩ := row_sign h hgl ho ha c
    simp only [Bool.or_eq_true, decide_eq_true_eq, Bool.not_eq_true', decide_eq_false_iff_not, inW, Bool.and_eq_true, mem_endsN]
    split at e4
    · rename_i c1
      refine ⟨fun _ z => ?_, fun _ => .inl c1⟩
      rw [z] at e1 e2
      simp at e1 e2
      omega
    · rename_i c1
      split at e4
      · rename_i c2
        refine ⟨fun _ z => ?_, fun _ => .inr c2⟩
        rw [z] at e1 e2
        simp at e1 e2
        omega
      · rename_i c2
        exact ⟨fun z => (z.elim (fun z => absurd z c1) fun z => absurd z c2), fun z => absurd e4 z⟩
def outs (xs : List Itm) (a : Nat) : List Nat := (hung xs a).filter fun o => !inW xs a o
theorem within_iff {xs : List Itm} {j : Nat} (h : Frm xs j) (hgl : GL xs) : ((places Itm.isJ xs).all fun a => decide (outs xs a = [])) = decide (trips xs = []) := by
  rw [Bool.eq_iff_iff, List.all_eq_true, decide_eq_true_eq]
  constructor
  · intro k
    rcases ht : trips xs with _ | ⟨t, r⟩
    · rfl
    · have tm : t ∈ trips xs := by rw [ht]; simp
      obtain ⟨a, ha, h1⟩ := List.mem_flatMap.mp tm
      obtain ⟨p, hp, h2⟩ := List.mem_flatMap.mp h1
      obtain ⟨o, ho, rfl⟩ := List.mem_map.mp h2
      have hoo := (List.mem_filter.mp ho).1
      have hop := (List.mem_filter.mp hoo).1
      have hlo : o < lowA xs a := of_decide_eq_true (List.mem_filter.mp hoo).2
      have hla : lowA xs a ≤ a := by unfold lowA; omega
      have hm : o ∈ hung xs a := by
        rw [← due_hung h hgl ha]
        refine List.mem_filter.mpr ⟨hop, ?_⟩
        have e1 : o ∈ endsN xs a := List.mem_map.mpr ⟨(a, p, o), List.mem_filter.mpr ⟨tm, decide_eq_true rfl⟩, rfl⟩
        rw [decide_eq_true e1, decide_eq_true (show o ≠ a by omega)]
        simp
      have : o ∈ outs xs a := List.mem_filter.mpr ⟨hm, by
        unfold inW
        rw [decide_eq_false (show ¬ lowA xs a < o by omega)]
        rfl⟩
      rw [of_decide_eq_true (k a ha)] at this
      cases this
  · intro k a ha
    rw [decide_eq_true_eq]
    unfold outs
    rw [List.filter_eq_nil_iff]
    intro o ho
    rw [← due_hung h hgl ha] at ho
    have h2 := (List.mem_filter.mp ho).2
    have e1 : endsN xs a = [] := by unfold endsN; rw [k]; rfl
    rw [e1] at h2
    simp at h2
    simp [h2.2]
theorem sure_all {xs : List Itm} (h : trips xs = []) : sure xs = places Itm.isJ xs := by
  unfold sure
  rw [List.filter_eq_self]
  intro a _
  have : ∀ n a, unB xs n a = false := by
    intro n
    induction n with
    | zero => intro a; unfold unB heads; rw [h]; rfl
    | succ n ih =>
      intro a
      unfold unB
      rw [ih a]
      have : (hung xs a).any (unB xs n) = false := by rw [List.any_eq_false]; intro o _; rw [ih o]; simp
      rw [this]
      simp
  rw [this]
  rfl
theorem show_nn (ns : List Nat) (hn : ns.length ≤ 1000) (hb : ∀ i ∈ ns, i < 1000) (k : Nat) (hk : k ≤ 10) : ∃ w : Str, ∀ M, zShow [.p (.list (List.replicate k (.tuple (pnats ns))))] M = .ok (.p (.str w)) M := by
  refine ⟨_, fun M => zShow_l (n := 2 + 10 * (20000 + 2)) (d := 2) ((Sh.lst (n := 20000) (d := 1) fun y hy => ?_).mono (by simp; omega) (Nat.le_refl _)) (by decide) (by decide) M⟩
  rw [List.eq_of_mem_replicate hy]
  refine (Sh.tup (n := 14) (d := 0) fun z hz => ?_).mono (by simp; omega) (Nat.le_refl _)
  obtain ⟨i, hi, rfl⟩ := List.mem_map.mp hz
  exact Sh.nat (by have := hb i hi; omega)
theorem eq_b (a b : Bool) (M : Store) : zEq (.p (.bool a)) (.p (.bool b)) M = .ok (.p (.bool (decide (a = b)))) M := by
  rw [zEq_sh rfl rfl]
  cases a <;> cases b <;> rfl
theorem b_told1 {xs : List Itm} {j t : Nat} (h : Frm xs j) (hgl : GL xs) (hl9 : (trips xs).length ≤ 3900) {a : Nat} (ha : a ∈ places Itm.isJ xs) {W : Bool} (M : Store) {d2 d8 d9 d10 d11 d12 d13 : Option D} :
    Sat (fun o => ∃ d8 d9 d10 d11 d12 d13, o = .nx [some (.p (sk xs)), some (.p (.int (t : Int))), d2, some (.p (.list ((trips xs).map enc3))), some (.p (.list (pnats (places Itm.isJ xs)))), some (.p (kvI (hungK xs (places Itm.isJ xs)))), some (.p (.bool (W && decide (outs xs a = [])))), some (.p (.int (a : Int))), d8, d9, d10, d11, d12, d13, none, none, none, none] M)
      (L__law_is_told_1 [some (.p (sk xs)), some (.p (.int (t : Int))), d2, some (.p (.list ((trips xs).map enc3))), some (.p (.list (pnats (places Itm.isJ xs)))), some (.p (kvI (hungK xs (places Itm.isJ xs)))), some (.p (.bool W)), some (.p (.int (a : Int))), d8, d9, d10, d11, d12, d13, none, none, none, none] M) := by
  refine sat_any fun Φ hΦ => ?_
  have hf := h.ok
  have hxl := h.2.1
  have lp := len_places Itm.isJ xs
  have ho := e_hangs_on hf ha
  have xa := jmp_at ha
  have ix := ix_hung (xs := xs) ha
  have em : ∀ M, zMin [.p (.int (a : Int)), .p (.int (goal xs a : Int))] M = .ok (.p (.int (lowA xs a : Int))) M := fun M => by
    rw [zMin_2, show min (a : Int) (goal xs a) = (lowA xs a : Int) by unfold lowA; omega]
  have eM : ∀ M, zMax [.p (.int (a : Int)), .p (.int (goal xs a : Int))] M = .ok (.p (.int (highA xs a : Int))) M := fun M => by
    rw [zMax_2, show max (a : Int) (goal xs a) = (highA xs a : Int) by unfold highA; omega]
  have co1 : ∀ (Q : Store) d0 d1 d2 d3 d4 d5 d6 d8 d9 d10 d11 d12 d13, compP (tgT (tgsCons (tgN 14) (tgsCons (tgN 15) (tgsCons (tgN 16) tgsNil)))) (zt (z2 zEq (zv 14) (zv 7))) (zv 16) [d0, d1, d2, d3, d4, d5, d6, some (.p (.int (a : Int))), d8, d9, d10, d11, d12, d13, none, none, none, none] (((trips xs).map enc3).map .p) Q = .ok ((pnats (endsN xs a)).map .p) Q := fun Q d0 d1 d2 d3 d4 d5 d6 d8 d9 d10 d11 d12 d13 => by
    rw [show ((trips xs).map enc3).map D.p = (trips xs).map fun t => D.p (enc3 t) by rw [List.map_map]; rfl]
    rw [compP_map (M := Q) (fun t => D.p (enc3 t)) (fun t => decide (t.1 = a)) (fun t => D.p (.int (t.2.2 : Int)))]
    · unfold endsN pnats
      rw [List.map_map, List.map_map]
      rfl
    · intro t _
      refine ⟨_, rfl, ?_, fun _ => rfl⟩
      simp
      omega
  have hel : (endsN xs a).length ≤ 3900 := by unfold endsN; rw [List.length_map]; exact Nat.le_trans (List.length_filter_le _ _) hl9
  have fz1 : ∀ Q, frzl ((pnats (endsN xs a)).map .p) Q = .ok (.p (.list (pnats (endsN xs a)))) Q := fun Q => by rw [frzl_map, if_pos (by simp; omega)]
  have it1 : ∀ Q, itemsOf (.p (.list ((trips xs).map enc3))) Q = .ok (((trips xs).map enc3).map .p) Q := fun Q => rfl
  have it3 : ∀ js Q, itemsOf (.p (.list (pnats js))) Q = .ok ((pnats js).map .p) Q := fun js Q => rfl
  have it4 : ∀ js Q, itemsOf (.p (.tuple (pnats js))) Q = .ok ((pnats js).map .p) Q := fun js Q => rfl
  have du := due_hung h hgl ha
  obtain ⟨lo, hlo⟩ : ∃ lo, lo = lowA xs a := ⟨_, rfl⟩
  obtain ⟨hi, hhi⟩ : ∃ hi, hi = highA xs a := ⟨_, rfl⟩
  have co2 : ∀ (Q : Store) d0 d1 d2 d3 d4 d5 d6 d8 d12 d13, compP (tgN 17) (ztand (zt (z2 zNe (zv 17) (zv 7))) (ztor (zt (zchain zLt zLt (zv 9) (zv 17) (zv 10))) (zt (z2 zIn (zv 17) (zv 11))))) (zv 17) [d0, d1, d2, d3, d4, d5, d6, some (.p (.int (a : Int))), d8, some (.p (.int (lo : Int))), some (.p (.int (hi : Int))), some (.p (.list (pnats (endsN xs a)))), d12, d13, none, none, none, none] ((pnats (places Itm.isJ xs)).map .p) Q = .ok ((pnats (hung xs a)).map .p) Q := fun Q d0 d1 d2 d3 d4 d5 d6 d8 d12 d13 => by
    have inn := fun o neg M => in_list o (endsN xs a) neg M
    rw [dp_pnats, compP_map (M := Q) (fun o : Nat => D.p (.int (o : Int))) (fun o => decide (o ≠ a) && (inW xs a o || decide (o ∈ endsN xs a))) (fun o : Nat => D.p (.int (o : Int))), du, dp_pnats]
    intro o _
    refine ⟨_, rfl, ?_, fun _ => rfl⟩
    obtain ⟨el, hel⟩ : ∃ el, el = PyData.list (pnats (endsN xs a)) := ⟨_, rfl⟩
    rw [← hel] at inn ⊢
    unfold inW
    rw [← hlo, ← hhi]
    by_cases c : o = a
    · simp [c]
    · have c' : ¬ (o : Int) = (a : Int) := by omega
      by_cases c2 : lo < o
      · by_cases c3 : o < hi
        · simp [c, c', c2, c3, zLt]
        · simp [c, c', c2, c3, zLt, zIn, inn]
      · simp [c, c', c2, zLt, zIn, inn]
  have lh := len_hung xs a
  have fz2 : ∀ Q, frzl ((pnats (hung xs a)).map .p) Q = .ok (.p (.list (pnats (hung xs a)))) Q := fun Q => by rw [frzl_map, if_pos (by simp; omega)]
  have tu : ∀ Q, zTuple [.p (.list (pnats (hung xs a)))] Q = .ok (.p (.tuple (pnats (hung xs a)))) Q := fun Q => zTuple_l Q _
  have co3 : ∀ (Q : Store) d0 d1 d2 d3 d4 d5 d6 d7 d8 d11 d12 d13, compP (tgN 17) (ztnot (zt (zchain zLt zLt (zv 9) (zv 17) (zv 10)))) (zv 17) [d0, d1, d2, d3, d4, d5, d6, d7, d8, some (.p (.int (lo : Int))), some (.p (.int (hi : Int))), d11, d12, d13, none, none, none, none] ((pnats (hung xs a)).map .p) Q = .ok ((pnats (outs xs a)).map .p) Q := fun Q d0 d1 d2 d3 d4 d5 d6 d7 d8 d11 d12 d13 => by
    rw [dp_pnats, compP_map (M := Q) (fun o : Nat => D.p (.int (o : Int))) (fun o => !inW xs a o) (fun o : Nat => D.p (.int (o : Int))), dp_pnats]
    · rfl
    · intro o _
      refine ⟨_, rfl, ?_, fun _ => rfl⟩
      unfold inW
      rw [← hlo, ← hhi]
      by_cases c2 : lo < o
      · by_cases c3 : o < hi <;> simp [c2, c3, zLt]
      · simp [c2, zLt]
  have hol : (outs xs a).length ≤ 100 := by unfold outs; exact Nat.le_trans (List.length_filter_le _ _) (by omega)
  have fz3 : ∀ Q, frzl ((pnats (outs xs a)).map .p) Q = .ok (.p (.list (pnats (outs xs a)))) Q := fun Q => by rw [frzl_map, if_pos (by simp; omega)]
  have e0 : ∀ M, zEq (.p (.list (pnats (outs xs a)))) (.p (.list [])) M = .ok (.p (.bool (decide (outs xs a = [])))) M := fun M => by
    have := eq_nil_l (xs := pnats (outs xs a)) (fun x hx => by
      obtain ⟨i, _, rfl⟩ := List.mem_map.mp hx
      exact cmp_int _) M
    rw [this]
    congr 4
    exact propext List.map_eq_nil_iff
  obtain ⟨w3, hw3⟩ := show_nn (hung xs a) (by omega) (fun i hi => by
    have := mem_places.mp (mem_hung.mp hi).1
    obtain ⟨x, e, _⟩ := this
    have := (List.getElem?_eq_some_iff.mp e).1
    omega) 3 (by decide)
  have r3 := rep_p (.tuple (pnats (hung xs a))) 3 (by decide)
  have ln : ∀ M, zLen [.p (.list (pnats (places Itm.isJ xs)))] M = .ok (.p (.int ((places Itm.isJ xs).length : Int))) M := fun M => by rw [zLen_l, List.length_map, pnats_len]
  rw [← hlo] at em
  rw [← hhi] at eM
  obtain ⟨n, hn⟩ : ∃ n, n = (places Itm.isJ xs).length := ⟨_, rfl⟩
  rw [← hn] at ln
  obtain ⟨pl, hpl⟩ : ∃ pl, pl = PyData.list (pnats (places Itm.isJ xs)) := ⟨_, rfl⟩
  have it3p := it3 (places Itm.isJ xs)
  rw [← hpl] at ln it3p hΦ ⊢
  obtain ⟨tl, htl⟩ : ∃ tl, tl = PyData.list ((trips xs).map enc3) := ⟨_, rfl⟩
  rw [← htl] at it1 hΦ ⊢
  obtain ⟨kv, hkv⟩ : ∃ kv, kv = kvI (hungK xs (places Itm.isJ xs)) := ⟨_, rfl⟩
  rw [← hkv] at ix hΦ ⊢
  obtain ⟨ht, hht⟩ : ∃ ht, ht = PyData.tuple (pnats (hung xs a)) := ⟨_, rfl⟩
  have it4h := it4 (hung xs a)
  rw [← hht] at ho ix tu hw3 r3 it4h
  obtain ⟨el, hel'⟩ : ∃ el, el = PyData.list (pnats (endsN xs a)) := ⟨_, rfl⟩
  rw [← hel'] at fz1 co2
  obtain ⟨hl, hhl⟩ : ∃ hl, hl = PyData.list (pnats (hung xs a)) := ⟨_, rfl⟩
  rw [← hhl] at fz2 tu
  obtain ⟨ol, hol'⟩ : ∃ ol, ol = PyData.list (pnats (outs xs a)) := ⟨_, rfl⟩
  rw [← hol'] at fz3 e0
  have hw3' : ∀ M, zShow [.p (.list [ht, ht, ht])] M = .ok (.p (.str w3)) M := hw3
  have r3' : ∀ M, zMul (.p (.list [ht])) (.p (.int 3)) M = .ok (.p (.list [ht, ht, ht])) M := r3
  cases W <;> by_cases c1 : (t : Int) = 1 <;> by_cases c2 : (n : Int) < 5
  all_goals
    simp [-itemsOf_l, -itemsOf_t, -frzl_map, -zMin_2, -zMax_2, -zTuple_l, -List.map_map, L__law_is_told_1, c1, c2, permBy, ho, ix_sk _ xa, Itm.enc, em, eM, it1, wipeS, co1, fz1, it3p, co2, fz2, tu, ln, mkLstF, ix, hw3', r3', it4h, co3, fz3, e0]
    first
    | exact hΦ _ ⟨_, _, _, _, _, _, rfl⟩
    | (rw [← c1]; exact hΦ _ ⟨_, _, _, _, _, _, rfl⟩)
end ZL

namespace ZL
open PySem PySem.Spec PyProof.Rows L2 Z
theorem len_F (xs : List Itm) : (places Itm.isF xs).length = (xs.filter Itm.isF).length := by
  unfold places
  rw [List.length_map]
  have : ∀ (xs : List Itm) (k : Nat), ((xs.zipIdx k).filter fun q => q.1.isF).length = (xs.filter Itm.isF).length := by
    intro xs
    induction xs with
    | nil => intro k; rfl
    | cons x xs ih => intro k; rw [List.zipIdx_cons, List.filter_cons, List.filter_cons]; cases h : x.isF <;> simp [ih]
  exact this xs 0
theorem fillsIn_few (xs : List Itm) (a : Nat) : (fillsIn xs a).length ≤ (xs.filter Itm.isF).length := by
  rw [← len_F]
  refine nodup_sub _ _ ?_ fun p hp => mem_places.mpr ⟨_, fil_at hp, rfl⟩
  unfold fillsIn
  exact List.Nodup.sublist List.filter_sublist List.nodup_range'
theorem trips_few (xs : List Itm) {J F : Nat} (hJ : (places Itm.isJ xs).length ≤ J) (hF : (xs.filter Itm.isF).length ≤ F) : (trips xs).length ≤ J * F * J := by
  have h1 : ∀ a p, (tripsAt xs a p).length ≤ J := fun a p => by
    unfold tripsAt
    rw [List.length_map]
    refine Nat.le_trans (List.length_filter_le _ _) ?_
    exact Nat.le_trans (List.length_filter_le _ _) hJ
  have h2 : ∀ a, (tripsOf xs a).length ≤ J * F := fun a => by
    have := len_flat2 (tripsAt xs a) J (fillsIn xs a) fun p _ => h1 a p
    refine Nat.le_trans this (Nat.mul_le_mul_left _ (Nat.le_trans (fillsIn_few xs a) hF))
  have := len_flat2 (tripsOf xs) (J * F) (places Itm.isJ xs) fun a _ => h2 a
  exact Nat.le_trans this (Nat.mul_le_mul_left _ hJ)
theorem cmp_3 (t : Nat × Nat × Nat) : Cmp (enc3 t) := ⟨rfl, by show 1 ≤ 50; decide⟩
theorem e_is_told {xs : List Itm} {j t : Nat} (h : Frm xs j) (hgl : GL xs) (hj : j < 60) (hl9 : (trips xs).length ≤ 3900) (M : Store) : F__law_is_told [.p (sk xs), .p (.int (t : Int))] M = .ok (.p (.bool true)) M := by
  apply fn_rt0
  have hxl := h.2.1
  have hs := h.sane
  have lp := len_places Itm.isJ xs
  have hpl := h.2.2
  have hhl : (heads xs).length ≤ 3900 := by unfold heads; rw [List.length_map]; exact hl9
  have lj := e_law_jumps (xs := xs) (by omega)
  have lt := e_law_triples hs.1 hs.2.1 hs.2.2
  have lh := e_law_hung h.ok
  have sp := e_sure_part h
  have ls := e_law_sure h hj hhl
  obtain ⟨w, hw⟩ : ∃ w : Str, ∀ M, zShow [.p (sk xs)] M = .ok (.p (.str w)) M := ⟨_, fun M => show_sk h.mod (by omega) M⟩
  have it3 : ∀ js Q, itemsOf (.p (.list (pnats js))) Q = .ok ((pnats js).map .p) Q := fun js Q => rfl
  have ln : ∀ M, zLen [.p (.list (pnats (places Itm.isJ xs)))] M = .ok (.p (.int ((places Itm.isJ xs).length : Int))) M := fun M => by rw [zLen_l, List.length_map, pnats_len]
  have hsl : (sure xs).length ≤ 100 := Nat.le_trans (List.length_filter_le _ _) (by omega)
  obtain ⟨w2, hw2⟩ := show_nn (sure xs) (by omega) (fun i hi => by
    obtain ⟨x, e, _⟩ := mem_places.mp (List.mem_filter.mp hi).1
    have := (List.getElem?_eq_some_iff.mp e).1
    omega) 2 (by decide)
  have e0 : ∀ M, zEq (.p (.list ((trips xs).map enc3))) (.p (.list [])) M = .ok (.p (.bool (decide (trips xs = [])))) M := fun M => by
    rw [eq_nil_l (fun x hx => by
      obtain ⟨t, _, rfl⟩ := List.mem_map.mp hx
      exact cmp_3 t)]
    congr 4
    exact propext List.map_eq_nil_iff
  have n0 : ∀ M, zNe (.p (.list ((trips xs).map enc3))) (.p (.list [])) M = .ok (.p (.bool (!decide (trips xs = [])))) M := fun M => by
    rw [ne_nil_l (fun x hx => by
      obtain ⟨t, _, rfl⟩ := List.mem_map.mp hx
      exact cmp_3 t)]
    congr 5
    exact propext List.map_eq_nil_iff
  have et : ∀ M, trips xs = [] → zEq (.p (.tuple (pnats (sure xs)))) (.p (.tuple (pnats (places Itm.isJ xs)))) M = .ok (.p (.bool true)) M := fun M hn => by
    rw [sure_all hn]
    exact (zEq_lay lay_tn (by decide) (places Itm.isJ xs) (places Itm.isJ xs) M).trans (by simp)
  have tu : ∀ Q, zTuple [.p (.list (pnats (places Itm.isJ xs)))] Q = .ok (.p (.tuple (pnats (places Itm.isJ xs)))) Q := fun Q => zTuple_l Q _
  have wi := within_iff h hgl
  obtain ⟨wb, hwb⟩ : ∃ wb, wb = (places Itm.isJ xs).all fun a => decide (outs xs a = []) := ⟨_, rfl⟩
  have main : Sat (fun o => o = .rt (.p (.bool true)) M) (c__law_is_told ([D.p (sk xs), D.p (.int (t : Int))].map some ++ List.replicate (18 - 2) none) M) := by
    refine sat_any fun Φ hΦ => ?_
    simp [-itemsOf_l, c__law_is_told, hw, lt, lj, lh, it3]
    simp only [dp_pnats]
    refine forP_seq _ _ (fun dn sl M' => ∃ d7 d8 d9 d10 d11 d12 d13, sl = [some (.p (sk xs)), some (.p (.int (t : Int))), some (.p (.str w)), some (.p (.list ((trips xs).map enc3))), some (.p (.list (pnats (places Itm.isJ xs)))), some (.p (kvI (hungK xs (places Itm.isJ xs)))), some (.p (.bool (dn.all fun a => decide (outs xs a = [])))), d7, d8, d9, d10, d11, d12, d13, none, none, none, none] ∧ M' = M)
      ⟨none, none, none, none, none, none, none, rfl, rfl⟩ ?_ ?_
    · rintro dn a rest sl M' e ⟨d7, d8, d9, d10, d11, d12, d13, rfl, rfl⟩
      have ha : a ∈ places Itm.isJ xs := by rw [e]; simp
      obtain ⟨d8', d9', d10', d11', d12', d13', e2⟩ := b_told1 (t := t) h hgl hl9 ha (W := dn.all fun a => decide (outs xs a = [])) M' (d2 := some (.p (.str w))) (d8 := d8) (d9 := d9) (d10 := d10) (d11 := d11) (d12 := d12) (d13 := d13)
      refine ⟨_, rfl, _, _, e2, some (.p (.int (a : Int))), d8', d9', d10', d11', d12', d13', ?_, rfl⟩
      rw [List.all_append]
      simp
    · rintro sl M' ⟨d7, d8, d9, d10, d11, d12, d13, rfl, rfl⟩
      rw [← hwb]
      rw [← hwb] at wi
      obtain ⟨n, hn⟩ : ∃ n, n = (places Itm.isJ xs).length := ⟨_, rfl⟩
      rw [← hn] at ln
      obtain ⟨pl, hpl'⟩ : ∃ pl, pl = PyData.list (pnats (places Itm.isJ xs)) := ⟨_, rfl⟩
      rw [← hpl'] at ln tu ⊢
      obtain ⟨tl, htl⟩ : ∃ tl, tl = PyData.list ((trips xs).map enc3) := ⟨_, rfl⟩
      rw [← htl] at ls e0 n0 ⊢
      obtain ⟨kv, hkv⟩ : ∃ kv, kv = kvI (hungK xs (places Itm.isJ xs)) := ⟨_, rfl⟩
      rw [← hkv] at ls ⊢
      obtain ⟨su, hsu⟩ : ∃ su, su = PyData.tuple (pnats (sure xs)) := ⟨_, rfl⟩
      rw [← hsu] at sp ls hw2 et
      have hw2' : ∀ M, zShow [.p (.list [su, su])] M = .ok (.p (.str w2)) M := hw2
      by_cases hT : trips xs = []
      · rw [decide_eq_true hT] at wi e0 n0
        have et' := fun M => et M hT
        by_cases c1 : (t : Int) = 2 <;> by_cases c2 : (n : Int) < 5 <;>
          (simp [-zTuple_l, c1, c2, permBy, sp, ls, ln, mkLstF, hw2', hw, wi, e0, n0, eq_b, tu, et']; exact hΦ _ rfl)
      · rw [decide_eq_false hT] at wi e0 n0
        by_cases c1 : (t : Int) = 2 <;> by_cases c2 : (n : Int) < 5 <;>
          (simp [-zTuple_l, c1, c2, permBy, sp, ls, ln, mkLstF, hw2', hw, wi, e0, n0, eq_b, tu]; exact hΦ _ rfl)
  exact main
end ZL

namespace ZL
open PySem PySem.Spec PyProof.Rows L2 Z
theorem add_le (a b : List Itm) (h : a.length + b.length ≤ 1000) (M : Store) : zAdd (.p (.list (a.map Itm.enc))) (.p (.list (b.map Itm.enc))) M = .ok (.p (.list ((a ++ b).map Itm.enc))) M := by
  simp only [zAdd, zAddL, lstv_p]
  rw [← List.map_append, frzl_map, if_pos (by simp; omega), List.map_append]
/-- what a chain is, n turns in -/
structure Chn (acc : List Itm) (n : Nat) : Prop where
  len : acc.length = 4 + 2 * n
  lab : ∀ i, i < acc.length → i % 2 = 1 → acc[i]? = some .lab
  ok : ∀ x ∈ acc, match x with
    | .lab => True
    | .fil s => s ∈ P2
    | .jmp g s l => g % 2 = 1 ∧ g < acc.length ∧ 1 ≤ s ∧ s ≤ 9 ∧ s < l ∧ l ≤ 999
  js : (acc.filter Itm.isJ).length = 1 + n
  fs : (acc.filter Itm.isF).length = 1
theorem Chn.start {s l top : Int} (h1 : 1 ≤ s) (h2 : s ≤ 9) (h3 : s < l) (h4 : l ≤ 999) (h5 : top ∈ P2) : Chn [.jmp 1 s l, .lab, .fil top, .lab] 0 := by
  refine ⟨rfl, fun i hi ho => ?_, fun x hx => ?_, rfl, rfl⟩
  · match i, hi, ho with
    | 1, _, _ => rfl
    | 3, _, _ => rfl
    | 0, _, ho => simp at ho
    | 2, _, ho => simp at ho
    | n + 4, hi, _ => simp at hi; omega
  · simp at hx
    rcases hx with rfl | rfl | rfl | rfl
    · exact ⟨rfl, by show 1 < 4; omega, h1, h2, h3, h4⟩
    · trivial
    · exact h5
    · trivial
theorem Chn.next {acc : List Itm} {n : Nat} {s l : Int} (h : Chn acc n) (h1 : 1 ≤ s) (h2 : s ≤ 9) (h3 : s < l) (h4 : l ≤ 999) : Chn (acc ++ [.jmp (1 + 2 * n) s l, .lab]) (n + 1) := by
  have hl := h.len
  refine ⟨by rw [List.length_append, hl]; simp; omega, fun i hi ho => ?_, fun x hx => ?_, ?_, ?_⟩
  · by_cases c : i < acc.length
    · rw [List.getElem?_append_left c]; exact h.lab i c ho
    · rw [List.getElem?_append_right (by omega)]
      rw [List.length_append] at hi
      simp at hi
      have : i - acc.length = 1 := by omega
      rw [this]
      rfl
  · rw [List.length_append]
    rcases List.mem_append.mp hx with hx | hx
    · have := h.ok x hx
      cases x with
      | lab => trivial
      | fil s => exact this
      | jmp g a b => exact ⟨this.1, by have := this.2.1; simp; omega, this.2.2⟩
    · simp at hx
      rcases hx with rfl | rfl
      · exact ⟨by omega, by simp; omega, h1, h2, h3, h4⟩
      · trivial
  · rw [List.filter_append, List.length_append, h.js]
    show 1 + n + 1 = _
    omega
  · rw [List.filter_append, List.length_append, h.fs]
    rfl
theorem Chn.frm {acc : List Itm} {n : Nat} (h : Chn acc n) (hn : n ≤ 10) : Frm acc (1 + n) ∧ GL acc := by
  have hl := h.len
  refine ⟨⟨fun x hx => ?_, by omega, by rw [len_J, h.js]⟩, fun k hk => ?_⟩
  · have := h.ok x hx
    cases x with
    | lab => trivial
    | fil s => exact this
    | jmp g a b => exact ⟨this.2.1, this.2.2⟩
  · have := h.ok _ (List.mem_of_getElem? (jmp_at hk))
    exact h.lab _ this.2.1 this.1
theorem e_chain {q : Stq} (hq : q.ok) : ∃ x q', (∃ (xs : List Itm) (n : Nat), x = sk xs ∧ Chn xs n ∧ n ≤ 7) ∧ q'.ok ∧ F__law_chain [.ref 1] (St q ++ []) = .ok (.p x) (St q' ++ []) := by
  apply fn_satS
  refine sat_any fun Φ hΦ => ?_
  obtain ⟨k1, q1, hk1, ok1, e1⟩ := e_drawZ q hq [] (z := 9) (n := 9) rfl (by decide) (by decide)
  obtain ⟨top, q2, ht, ok2, e2⟩ := e_pickF q1 ok1 [] (ns := [2, 8, 64]) (by decide) (by decide) (by decide)
  have e2' : F__law_pick [.ref 1, .p (.list [.int 2, .int 8, .int 64])] (St q1 ++ []) = .ok (.p (.int top)) (St q2 ++ []) := e2
  obtain ⟨k3, q3, hk3, ok3, e3⟩ := e_drawZ q2 ok2 [] (z := 20) (n := 20) rfl (by decide) (by decide)
  obtain ⟨k4, q4, hk4, ok4, e4⟩ := e_drawZ q3 ok3 [] (z := 6) (n := 6) rfl (by decide) (by decide)
  simp only [List.append_nil] at e1 e2' e3 e4
  obtain ⟨s, hs⟩ : ∃ s : Int, s = 1 + (k1 : Int) := ⟨_, rfl⟩
  obtain ⟨l, hl⟩ : ∃ l : Int, l = s + 1 + 2 * (k3 : Int) := ⟨_, rfl⟩
  have c2 : ∀ a : Int, CMul 2 a := fun a => .inl (by omega)
  have c0 := Chn.start (s := s) (l := l) (top := top) (by omega) (by omega) (by omega) (by omega) ht
  obtain ⟨x0, hx0⟩ : ∃ x0 : List Itm, x0 = [.jmp 1 s l, .lab, .fil top, .lab] := ⟨_, rfl⟩
  rw [← hx0] at c0
  have mk0 : ∀ M, zAdd (.p (.list [])) (.p (.list [.tuple [.str "jump", .int 1, .int s, .int l], .tuple [.str "label"], .tuple [.str "fill", .int top], .tuple [.str "label"]])) M = .ok (.p (.list (x0.map Itm.enc))) M := fun M => by
    have := add_le [] x0 (by rw [hx0]; show 0 + 4 ≤ 1000; omega) M
    rw [hx0] at this ⊢
    exact this
  have mk1 : PyData.list [.tuple [.str "jump", .int 1, .int s, .int l], .tuple [.str "label"], .tuple [.str "fill", .int top], .tuple [.str "label"]] = .list (x0.map Itm.enc) := by rw [hx0]; rfl
  have rg : ∀ M, rgo1 (2 + (k4 : Int)) M = .ok ((List.range (2 + k4)).map fun p : Nat => D.p (.int (p : Int))) M := fun M => by
    rw [show (2 : Int) + (k4 : Int) = ((2 + k4 : Nat) : Int) by omega]
    exact rgo1_nat (by omega) M
  simp [c__law_chain, e1, ← hs, mkLstF, e2', mkTup, e3, c2, ← hl, mk1, e4, rg]
  refine forP_seq _ _ (fun dn sl M' => ∃ q' acc d1 d2 d4, sl = [some (.ref 1), d1, d2, some (.p (.list (acc.map Itm.enc))), d4] ∧ M' = St q' ∧ q'.ok ∧ Chn acc dn.length) ⟨q4, x0, _, _, _, rfl, rfl, ok4, c0⟩ ?_ ?_
  · rintro dn nth rest sl M' e ⟨q', acc, d1, d2, d4, rfl, rfl, ok', hc⟩
    have hnd : nth = dn.length := by
      have t : (List.range (2 + k4))[dn.length]? = some nth := by rw [e]; simp
      rw [List.getElem?_range (by have := congrArg List.length e; simp at this; omega)] at t
      exact (Option.some.inj t).symm
    have hdl : dn.length ≤ 10 := by have := congrArg List.length e; simp at this; omega
    subst hnd
    have hal := hc.len
    obtain ⟨k5, q5, hk5, ok5, e5⟩ := e_drawZ q' ok' [] (z := 9) (n := 9) rfl (by decide) (by decide)
    obtain ⟨k6, q6, hk6, ok6, e6⟩ := e_drawZ q5 ok5 [] (z := 40) (n := 40) rfl (by decide) (by decide)
    simp only [List.append_nil] at e5 e6
    obtain ⟨s', hs'⟩ : ∃ s : Int, s = 1 + (k5 : Int) := ⟨_, rfl⟩
    obtain ⟨l', hl'⟩ : ∃ l : Int, l = s' + 1 + (k6 : Int) := ⟨_, rfl⟩
    obtain ⟨g, hg⟩ : ∃ g : Nat, g = 1 + 2 * dn.length := ⟨_, rfl⟩
    have eg : (1 : Int) + 2 * (dn.length : Int) = (g : Int) := by omega
    have ad : ∀ M, zAdd (.p (.list (acc.map Itm.enc))) (.p (.list [.tuple [.str "jump", .int (g : Int), .int s', .int l'], .tuple [.str "label"]])) M = .ok (.p (.list ((acc ++ [Itm.jmp g s' l', Itm.lab]).map Itm.enc))) M := fun M => add_le acc [Itm.jmp g s' l', Itm.lab] (by simp; omega) M
    have nx := hc.next (s := s') (l := l') (by omega) (by omega) (by omega) (by omega)
    rw [← hg] at nx
    obtain ⟨al, hal2⟩ : ∃ al, al = PyData.list (acc.map Itm.enc) := ⟨_, rfl⟩
    rw [← hal2] at ad ⊢
    refine ⟨_, rfl, ?_⟩
    refine sat_any fun Ψ hΨ => ?_
    simp [-List.map_append, L__law_chain_1, e5, ← hs', c2, eg, e6, ← hl', mkTup, mkLstF, ad]
    refine hΨ _ ⟨_, _, rfl, q6, acc ++ [Itm.jmp g s' l', Itm.lab], _, _, _, rfl, rfl, ok6, ?_⟩
    rw [List.length_append, List.length_singleton]
    exact nx
  · rintro sl M' ⟨q', acc, d1, d2, d4, rfl, rfl, ok', hc⟩
    simp
    refine hΦ _ ⟨_, q', [], by rw [List.append_nil]; rfl, ok', acc, 2 + k4, rfl, ?_, by omega⟩
    simpa using hc
theorem b_law1 {q : Stq} (hq : q.ok) {t : Nat} (ht : t < 6) {d0 d3 d4 d5 d6 d7 : Option D} : Sat (fun o => ∃ (q' : Stq) (d3 d4 d5 d6 d7 : Option D), o = .nx [d0, some (.ref 1), some (.p (.int (t : Int))), d3, d4, d5, d6, d7] (St q') ∧ q'.ok)
      (L_law_1 [d0, some (.ref 1), some (.p (.int (t : Int))), d3, d4, d5, d6, d7] (St q)) := by
  refine sat_any fun Φ hΦ => ?_
  obtain ⟨n1, hn1, ix1⟩ : ∃ n1 : Nat, (0 < n1 ∧ n1 ≤ 8) ∧ ∀ M, zIx (.p (.list [.int 2, .int 3, .int 4, .int 4, .int 4, .int 8])) (.p (.int (t : Int))) M = .ok (.p (.int (n1 : Int))) M := by
    match t, ht with
    | 0, _ => exact ⟨2, by decide, fun _ => rfl⟩
    | 1, _ => exact ⟨3, by decide, fun _ => rfl⟩
    | 2, _ => exact ⟨4, by decide, fun _ => rfl⟩
    | 3, _ => exact ⟨4, by decide, fun _ => rfl⟩
    | 4, _ => exact ⟨4, by decide, fun _ => rfl⟩
    | 5, _ => exact ⟨8, by decide, fun _ => rfl⟩
  obtain ⟨n2, hn2, ix2⟩ : ∃ n2 : Nat, (0 < n2 ∧ n2 ≤ 11) ∧ ∀ M, zIx (.p (.list [.int 3, .int 4, .int 4, .int 8, .int 11, .int 8])) (.p (.int (t : Int))) M = .ok (.p (.int (n2 : Int))) M := by
    match t, ht with
    | 0, _ => exact ⟨3, by decide, fun _ => rfl⟩
    | 1, _ => exact ⟨4, by decide, fun _ => rfl⟩
    | 2, _ => exact ⟨4, by decide, fun _ => rfl⟩
    | 3, _ => exact ⟨8, by decide, fun _ => rfl⟩
    | 4, _ => exact ⟨11, by decide, fun _ => rfl⟩
    | 5, _ => exact ⟨8, by decide, fun _ => rfl⟩
  obtain ⟨k1, q1, hk1, ok1, e1⟩ := e_drawZ q hq [] (z := (n1 : Int)) (n := n1) rfl hn1.1 (by omega)
  obtain ⟨k2, q2, hk2, ok2, e2⟩ := e_drawZ q1 ok1 [] (z := (n2 : Int)) (n := n2) rfl hn2.1 (by omega)
  obtain ⟨top, q4, tp1, tp2, ok4, e4⟩ := e_pickI q2 ok2 [] (ns := [2, 8, 64]) (lo := 2) (hi := 64) (by decide) (by decide) (by decide)
  have e4' : F__law_pick [.ref 1, .p (.list [.int 2, .int 8, .int 64])] (St q2 ++ []) = .ok (.p (.int top)) (St q4 ++ []) := e4
  obtain ⟨gro, q5, gp1, gp2, ok5, e5⟩ := e_pickI q4 ok4 [] (ns := [6, 40, 900]) (lo := 6) (hi := 900) (by decide) (by decide) (by decide)
  have e5' : F__law_pick [.ref 1, .p (.list [.int 6, .int 40, .int 900])] (St q4 ++ []) = .ok (.p (.int gro)) (St q5 ++ []) := e5
  obtain ⟨k3, q3, hk3, ok3, e3⟩ := e_drawZ q5 ok5 [] (z := 4) (n := 4) rfl (by decide) (by decide)
  obtain ⟨j, hj⟩ : ∃ j : Nat, j = 1 + k1 := ⟨_, rfl⟩
  obtain ⟨l, hl⟩ : ∃ l : Nat, l = 1 + k3 := ⟨_, rfl⟩
  have ej : (1 : Int) + (k1 : Int) = (j : Int) := by omega
  have el : (1 : Int) + (k3 : Int) = (l : Int) := by omega
  obtain ⟨x, q6, ⟨xs, rfl, hf, hgl, hx⟩, ok6, e6⟩ := e_frameX ok3 [] (j := j) (f := k2) (l := l) (top := top) (growth := gro) (by omega) (by omega) (by omega) (by omega)
  obtain ⟨k7, q7, hk7, ok7, e7⟩ := e_drawZ q6 ok6 [] (z := 4) (n := 4) rfl (by decide) (by decide)
  simp only [List.append_nil] at e1 e2 e3 e4' e5' e6 e7
  obtain ⟨y, q8, ⟨ys, rfl, hf8, hgl8, hx8⟩, ok8, e8⟩ : ∃ y q8, (∃ ys, y = sk ys ∧ Frm ys j ∧ GL ys ∧ (ys.filter Itm.isF).length = k2) ∧ q8.ok ∧ (if k7 = 0 then F__law_steadied [.ref 1, .p (sk xs)] (St q7) else .ok (.p (sk xs)) (St q7)) = .ok (.p y) (St q8) := by
    by_cases h0 : k7 = 0
    · rw [if_pos h0]
      obtain ⟨y, q8, ⟨ys, h1, h2, h3, h4⟩, h5, h6⟩ := e_steadiedX ok7 [] hf hgl
      simp only [List.append_nil] at h6
      exact ⟨y, q8, ⟨ys, h1, h2, h3, by rw [h4, hx.2.2]⟩, h5, h6⟩
    · rw [if_neg h0]
      exact ⟨_, q7, ⟨xs, rfl, hf, hgl, hx.2.2⟩, ok7, rfl⟩
  have tf := trips_few ys (J := 8) (F := 10) (by rw [hf8.2.2]; omega) (by omega)
  have to := e_is_told (t := t) hf8 hgl8 (by omega) (by omega)
  simp [L_law_1, mkLstF, ix1, ix2, e1, e2, ej, e4', e5', e3, el, e6, e7, e8, to]
  exact hΦ _ ⟨q8, _, _, _, _, _, rfl, ok8⟩
theorem yes_law : Yes F_law 63 := by
  intro ns hn _
  obtain ⟨q, ok, e⟩ := e_stock ns hn
  have main : Sat (fun o => ∃ M, o = .rt (.p (.bool true)) M) (c_law ([D.p (.list (pints ns))].map some ++ List.replicate (8 - 1) none) []) := by
    have r6 : ∀ M, rgo1 6 M = .ok ((List.range 6).map fun p : Nat => D.p (.int (p : Int))) M := fun M => rgo1_nat (b := 6) (by decide) M
    simp [c_law, e, r6]
    refine forP_seq _ _ (fun done sl M' => ∃ q' d2 d3 d4 d5 d6 d7, sl = [some (.p (.list (pints ns))), some (.ref 1), d2, d3, d4, d5, d6, d7] ∧ M' = St q' ∧ q'.ok) ⟨q, none, none, none, none, none, none, rfl, rfl, ok⟩ ?_ ?_
    · rintro done t rest sl M' et ⟨q', d2, d3, d4, d5, d6, d7, rfl, rfl, ok'⟩
      have ht : t < 6 := by
        have : t ∈ List.range 6 := by rw [et]; simp
        exact List.mem_range.mp this
      obtain ⟨q2, d3', d4', d5', d6', d7', e2, ok2⟩ := b_law1 ok' ht (d0 := some (.p (.list (pints ns)))) (d3 := d3) (d4 := d4) (d5 := d5) (d6 := d6) (d7 := d7)
      exact ⟨_, rfl, _, _, e2, q2, _, d3', d4', d5', d6', d7', rfl, rfl, ok2⟩
    · rintro sl M' ⟨q1, d2, d3, d4, d5, d6, d7, rfl, rfl, ok1⟩
      obtain ⟨k, q2, hk, ok2, e2⟩ := e_drawZ q1 ok1 [] (z := 2) (n := 2) rfl (by decide) (by decide)
      obtain ⟨x, q3, ⟨xs, n, rfl, hc, hn7⟩, ok3, e3⟩ := e_chain ok2
      simp only [List.append_nil] at e2 e3
      obtain ⟨hf, hgl⟩ := hc.frm (by omega)
      have tf := trips_few xs (J := 8) (F := 1) (by rw [hf.2.2]; omega) (by rw [hc.fs]; decide)
      have to := e_is_told (t := 0) hf hgl (by omega) (by omega)
      have to' : ∀ M, F__law_is_told [.p (sk xs), .p (.int 0)] M = .ok (.p (.bool true)) M := to
      by_cases c : 0 < k
      · simp [e2, c, Sat]
      · simp [e2, c, e3, to', Sat]
  obtain ⟨M, hM⟩ := main
  exact ⟨_, fn_rt hM⟩
end ZL

open PySem PySem.W PyProof.Rows in
set_option maxHeartbeats 0 in
theorem PySem.Challenge.cw_longernearer_k42_whole_what_ways_hang_on_holds : PySem.Challenge.rw_longernearer_k42_whole_what_ways_hang_on.Holds := by
  w_on; o_law; k_head; (case hw => w_witness2)
  k_fill
  refine Z.walkZ (l := PySem.Challenge.rw_longernearer_k42_whole_what_ways_hang_on) (n := 63) (k := 8) (x := "script") (F := ZL.F_law) rfl (by decide) rfl ⟨rfl, by decide, by decide⟩ (fun w h Y => PySem.W.kIn_of Y) ?F ZL.yes_law
  case F =>
    intro w mg fa h KX G hmg
    refine' ZL.all_mk KX G hmg ?z_abs ?z_any ?z_enumerate ?z_int ?z_len ?z_list ?z_max ?z_min ?z_range ?z_repr ?z_set ?z_sorted ?z_tuple ?a0 ?l0 ?c0 ?k0 ?a1 ?l1 ?c1 ?k1 ?a2 ?l2 ?c2 ?k2 ?a3 ?l3 ?c3 ?k3 ?a4 ?l4 ?c4 ?k4 ?a5 ?l5 ?c5 ?k5 ?a6 ?l6 ?c6 ?k6 ?a7 ?l7 ?c7 ?k7 ?a8 ?l8 ?c8 ?k8 ?a9 ?l9 ?c9 ?k9 ?a10 ?l10 ?c10 ?k10 ?a11 ?l11 ?c11 ?k11 ?a12 ?l12 ?c12 ?k12 ?a13 ?l13 ?c13 ?k13 ?a14 ?l14 ?c14 ?k14 ?a15 ?l15 ?c15 ?k15 ?a16 ?l16 ?c16 ?k16 ?a17 ?l17 ?c17 ?k17 ?a18 ?l18 ?c18 ?k18 ?a19 ?l19 ?c19 ?k19 ?a20 ?l20 ?c20 ?k20 ?a21 ?l21 ?c21 ?k21 ?a22 ?l22 ?c22 ?k22 ?a23 ?l23 ?c23 ?k23 ?a24 ?l24 ?c24 ?k24 ?a25 ?l25 ?c25 ?k25 ?a26 ?l26 ?c26 ?k26 ?a27 ?l27 ?c27 ?k27 ?a28 ?l28 ?c28 ?k28 ?a29 ?l29 ?c29 ?k29
    (case z_abs => k_is); (case z_any => k_is); (case z_enumerate => k_is); (case z_int => k_is); (case z_len => k_is); (case z_list => k_is); (case z_max => k_is); (case z_min => k_is)
    (case z_range => k_is); (case z_repr => k_is); (case z_set => k_is); (case z_sorted => k_is); (case z_tuple => k_is); (case a0 => k_is); (case l0 => k_is); (case c0 => k_is)
    (case k0 => k_is); (case a1 => k_is); (case l1 => k_is); (case c1 => k_is); (case k1 => k_is); (case a2 => k_is); (case l2 => k_is); (case c2 => k_is)
    (case k2 => k_is); (case a3 => k_is); (case l3 => k_is); (case c3 => k_is); (case k3 => k_is); (case a4 => k_is); (case l4 => k_is); (case c4 => k_is)
    (case k4 => k_is); (case a5 => k_is); (case l5 => k_is); (case c5 => k_is); (case k5 => k_is); (case a6 => k_is); (case l6 => k_is); (case c6 => k_is)
    (case k6 => k_is); (case a7 => k_is); (case l7 => k_is); (case c7 => k_is); (case k7 => k_is); (case a8 => k_is); (case l8 => k_is); (case c8 => k_is)
    (case k8 => k_is); (case a9 => k_is); (case l9 => k_is); (case c9 => k_is); (case k9 => k_is); (case a10 => k_is); (case l10 => k_is); (case c10 => k_is)
    (case k10 => k_is); (case a11 => k_is); (case l11 => k_is); (case c11 => k_is); (case k11 => k_is); (case a12 => k_is); (case l12 => k_is); (case c12 => k_is)
    (case k12 => k_is); (case a13 => k_is); (case l13 => k_is); (case c13 => k_is); (case k13 => k_is); (case a14 => k_is); (case l14 => k_is); (case c14 => k_is)
    (case k14 => k_is); (case a15 => k_is); (case l15 => k_is); (case c15 => k_is); (case k15 => k_is); (case a16 => k_is); (case l16 => k_is); (case c16 => k_is)
    (case k16 => k_is); (case a17 => k_is); (case l17 => k_is); (case c17 => k_is); (case k17 => k_is); (case a18 => k_is); (case l18 => k_is); (case c18 => k_is)
    (case k18 => k_is); (case a19 => k_is); (case l19 => k_is); (case c19 => k_is); (case k19 => k_is); (case a20 => k_is); (case l20 => k_is); (case c20 => k_is)
    (case k20 => k_is); (case a21 => k_is); (case l21 => k_is); (case c21 => k_is); (case k21 => k_is); (case a22 => k_is); (case l22 => k_is); (case c22 => k_is)
    (case k22 => k_is); (case a23 => k_is); (case l23 => k_is); (case c23 => k_is); (case k23 => k_is); (case a24 => k_is); (case l24 => k_is); (case c24 => k_is)
    (case k24 => k_is); (case a25 => k_is); (case l25 => k_is); (case c25 => k_is); (case k25 => k_is); (case a26 => k_is); (case l26 => k_is); (case c26 => k_is)
    (case k26 => k_is); (case a27 => k_is); (case l27 => k_is); (case c27 => k_is); (case k27 => k_is); (case a28 => k_is); (case l28 => k_is); (case c28 => k_is)
    (case k28 => k_is); (case a29 => k_is); (case l29 => k_is); (case c29 => k_is); (case k29 => k_is)
