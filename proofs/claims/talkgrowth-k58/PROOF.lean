import PyProof.Rows.All
import Wide.All
import OpenK.AllK
import Wide.FinOn
import HandS.ForMost
import HandS.ForExc
import HandS.CallSlots
import HandS.HeadHook1
import HandS.HeadHook2
import HandS.TupAny
import HandS.Style
import HandS.IsInst
import HandS.Conv
import HandS.Deep
import HandS.TupLen
import HandS.WordsDict
import KE.KExcSuper
import KE.KSuper
import KE.KExcIs
import HandS.ExcInit
import HandS.TryMany
import HandS.ExcIs
import HandS.ExcField
import HandS.Head0
import HandS.Head1
import HandS.Head2
import HandS.HeadEnd
import PySem.Challenge.RW_talkgrowth_k58_pruned
set_option Elab.async false
set_option linter.all false
set_option autoImplicit false
set_option maxRecDepth 100000
set_option maxHeartbeats 1000000
namespace S
open PySem PySem.Spec PyProof.Rows L2

/-! ### values by content, objects by place -/
inductive D where
  | non
  | bl (b : Bool)
  | int (i : Int)
  | str (x : Str)
  | tup (xs : List D)
  | ref (l : Nat)
  /-- a list of the written part (never changed) -/
  | kl (xs : List D)
  | exn (a dx : Nat) (c fld : Str) (d : D)
  deriving Inhabited

inductive O where
  | lst (xs : List D)
  | fro (xs : List D)
  | dct (t : Bool) (kvs : List (D × D))
  | fdc (t : Bool) (kvs : List (D × D))
  | ins (c : Str) (fs : List (Str × D))

abbrev Hh := List O
inductive Rs (α : Type) where
  | ok (a : α)
  | exc (c : Str) (fs : List (Str × D))
abbrev Ot (α : Type) := Option (Rs α × Hh)
abbrev En := List (Option D)
abbrev M (α : Type) := Hh → Ot α

/-! ### how they lie in the heap -/
def KLst (K : PySem.W.Frag) (a : Addr) (xs : List V) : Prop := ∃ (o : Obj) (its : Array Value) (n : Nat), K.lookup a = some o ∧ o.cls = .type "list" ∧ o.dict = none ∧ o.data = .seq its n ∧ its.size ≤ sizeLine ∧ Vals xs its.toList
mutual
inductive RV (K : PySem.W.Frag) (ρ : List Addr) (H : Hp) : D → V → Prop
  | non : RV K ρ H .non .non
  | bl (b : Bool) : RV K ρ H (.bl b) (.bl b)
  | int (i : Int) : RV K ρ H (.int i) (.int i)
  | str (x : Str) : RV K ρ H (.str x) (.str x)
  | ref {l : Nat} {a : Addr} : ρ[l]? = some a → RV K ρ H (.ref l) (.ref a)
  | tup {ds : List D} {a : Addr} {xs : List V} : H a = some (.tup xs) → xs.length ≤ sizeLine → RVs K ρ H ds xs → RV K ρ H (.tup ds) (.ref a)
  | kl {ds : List D} {a : Addr} {xs : List V} : KLst K a xs → xs.length ≤ sizeLine → RVs K ρ H ds xs → RV K ρ H (.kl ds) (.ref a)
  | exn {a dx : Addr} {c fld : Str} {d : D} {v : V} : H dx = some (.xd [(fld, v)]) → RV K ρ H d v → RV K ρ H (.exn a dx c fld d) (.ref a)
inductive RVs (K : PySem.W.Frag) (ρ : List Addr) (H : Hp) : List D → List V → Prop
  | nil : RVs K ρ H [] []
  | cons {d : D} {v : V} {ds : List D} {vs : List V} : RV K ρ H d v → RVs K ρ H ds vs → RVs K ρ H (d :: ds) (v :: vs)
end

/-- tuples and the fields of an exception stay -/
def Kp : HO → Bool
  | .tup _ => true
  | .xd _ => true
  | _ => false
def KT (H H' : Hp) : Prop := ∀ a o, Kp o = true → H a = some o → H' a = some o
/-- a dict's key, by value: an int, a text; a flat tuple of such -/
def kD : Key → D
  | .inl i => .int i
  | .inr x => .str x
def RKv (K : PySem.W.Frag) (ρ : List Addr) (H : Hp) : List (D × D) → List (Key × V) → Prop := Paired fun p q => p.1 = kD q.1 ∧ True ∧ RV K ρ H p.2 q.2
def RTv (K : PySem.W.Frag) (ρ : List Addr) (H : Hp) : List (D × D) → List (List Key × V) → Prop := Paired fun p q => p.1 = .tup (q.1.map kD) ∧ q.1.length ≤ sizeLine ∧ RV K ρ H p.2 q.2
def RFs (K : PySem.W.Frag) (ρ : List Addr) (H : Hp) : List (Str × D) → List (Str × V) → Prop := Paired fun p q => p.1 = q.1 ∧ RV K ρ H p.2 q.2

def RO (K : PySem.W.Frag) (ρ : List Addr) (H : Hp) (a : Addr) : O → Prop
  | .lst ds => ∃ xs, H a = some (.lst xs) ∧ xs.length ≤ sizeLine ∧ RVs K ρ H ds xs
  | .fro ds => ∃ xs o, H a = some (.frz o (.lst xs)) ∧ xs.length ≤ sizeLine ∧ RVs K ρ H ds xs
  | .dct false kvs => ∃ ks, H a = some (.dK ks) ∧ RKv K ρ H kvs ks
  | .dct true kvs => ∃ ks, H a = some (.dT ks) ∧ RTv K ρ H kvs ks
  | .fdc false kvs => ∃ ks o, H a = some (.frz o (.dK ks)) ∧ RKv K ρ H kvs ks
  | .fdc true kvs => ∃ ks o, H a = some (.frz o (.dT ks)) ∧ RTv K ρ H kvs ks
  | .ins c fs => ∃ dx ys, H a = some (.ins (He.ga K c) dx ys) ∧ RFs K ρ H fs ys

structure HR (K : PySem.W.Frag) (ρ : List Addr) (H : Hp) (h : Hh) : Prop where
  len : ρ.length = h.length
  nd : ρ.Nodup
  at_ : ∀ (l : Nat) (o : O) (a : Addr), h[l]? = some o → ρ[l]? = some a → RO K ρ H a o

/-- what an operation may have done: new places; all that is not of ours stands -/
structure Ex (ρ : List Addr) (H : Hp) (ρ' : List Addr) (H' : Hp) : Prop where
  pre : ρ <+: ρ'
  fr : ∀ a o, a ∉ ρ → H a = some o → H' a = some o ∧ a ∉ ρ'
  fz : ∀ a o u, H a = some (.frz o u) → H' a = some (.frz o u)

section
variable {K : PySem.W.Frag} {ρ ρ' ρ1 : List Addr} {H H' H1 : Hp} {h h' : Hh}
theorem Ex.refl : Ex ρ H ρ H := ⟨List.prefix_refl _, fun _ _ n e => ⟨e, n⟩, fun _ _ _ e => e⟩
theorem Ex.trans (a : Ex ρ H ρ1 H1) (b : Ex ρ1 H1 ρ' H') : Ex ρ H ρ' H' :=
  ⟨a.pre.trans b.pre, fun x o n e => let ⟨e1, n1⟩ := a.fr x o n e; b.fr x o n1 e1, fun x o u e => b.fz x o u (a.fz x o u e)⟩
theorem pre_get {a : Addr} {l : Nat} (p : ρ <+: ρ') (e : ρ[l]? = some a) : ρ'[l]? = some a := by
  obtain ⟨t, rfl⟩ := p
  rw [List.getElem?_append_left (List.getElem?_eq_some_iff.mp e).1]
  exact e
/-- no tuple stands at a place of ours -/
theorem HR.notup (R : HR K ρ H h) {a : Addr} (ha : a ∈ ρ) : (∀ o, Kp o = true → H a ≠ some o) ∧ (∀ o xs, H a ≠ some (.frz o (.tup xs))) ∧ H a ≠ none := by
  obtain ⟨l, hl⟩ := List.getElem?_of_mem ha
  have hlt : l < h.length := by rw [← R.len]; exact (List.getElem?_eq_some_iff.mp hl).1
  have q := R.at_ l h[l] a (by simp [hlt]) hl
  cases e : h[l] with
  | lst ds => rw [e] at q; obtain ⟨xs, q, _⟩ := q; rw [q]; exact ⟨fun o k e => (by cases e; cases k), by simp, by simp⟩
  | fro ds => rw [e] at q; obtain ⟨xs, o, q, _⟩ := q; rw [q]; exact ⟨fun o k e => (by cases e; cases k), by simp, by simp⟩
  | dct t kvs => rw [e] at q; cases t <;> (obtain ⟨ks, q, _⟩ := q; rw [q]; exact ⟨fun o k e => (by cases e; cases k), by simp, by simp⟩)
  | fdc t kvs => rw [e] at q; cases t <;> (obtain ⟨ks, o, q, _⟩ := q; rw [q]; exact ⟨fun o k e => (by cases e; cases k), by simp, by simp⟩)
  | ins c fs => rw [e] at q; obtain ⟨dx, ys, q, _⟩ := q; rw [q]; exact ⟨fun o k e => (by cases e; cases k), by simp, by simp⟩
theorem Ex.tup (x : Ex ρ H ρ' H') (R : HR K ρ H h) {a : Addr} {xs : List V} (s : H a = some (.tup xs)) : H' a = some (.tup xs) :=
  (x.fr a _ (fun m => (R.notup m).1 _ rfl s) s).1
theorem Ex.kp (x : Ex ρ H ρ' H') (R : HR K ρ H h) : KT H H' := fun a o k s => (x.fr a _ (fun m => (R.notup m).1 _ k s) s).1
mutual
theorem RV.monoT (p : ρ <+: ρ') (x : KT H H') : ∀ {d : D} {v : V}, RV K ρ H d v → RV K ρ' H' d v
  | _, _, .non => .non
  | _, _, .bl b => .bl b
  | _, _, .int i => .int i
  | _, _, .str y => .str y
  | _, _, .ref e => .ref (pre_get p e)
  | _, _, .tup s z r =>   .tup (x _ _ rfl s) z (RVs.monoT p x r)
  | _, _, .kl s z r => .kl s z (RVs.monoT p x r)
  | _, _, .exn s r => .exn (x _ _ rfl s) (RV.monoT p x r)
theorem RVs.monoT (p : ρ <+: ρ') (x : KT H H') : ∀ {ds : List D} {vs : List V}, RVs K ρ H ds vs → RVs K ρ' H' ds vs
  | _, _, .nil => .nil
  | _, _, .cons r s => .cons (RV.monoT p x r) (RVs.monoT p x s)
end
theorem RV.mono (x : Ex ρ H ρ' H') (R : HR K ρ H h) {d : D} {v : V} (r : RV K ρ H d v) : RV K ρ' H' d v := r.monoT x.pre (x.kp R)
theorem RVs.mono (x : Ex ρ H ρ' H') (R : HR K ρ H h) {ds : List D} {vs : List V} (r : RVs K ρ H ds vs) : RVs K ρ' H' ds vs := r.monoT x.pre (x.kp R)
theorem RVs.length : ∀ {ds : List D} {vs : List V}, RVs K ρ H ds vs → vs.length = ds.length
  | _, _, .nil => rfl
  | _, _, .cons _ s => by rw [List.length_cons, List.length_cons, RVs.length s]
theorem RVs.get : ∀ {ds : List D} {vs : List V} {i : Nat} {d : D}, RVs K ρ H ds vs → ds[i]? = some d → ∃ v, vs[i]? = some v ∧ RV K ρ H d v
  | _, _, _, _, .nil, e => by simp at e
  | _, _, 0, _, .cons r s, e => by simp at e; subst e; exact ⟨_, rfl, r⟩
  | _, _, i + 1, _, .cons r s, e => by
    obtain ⟨v, h1, h2⟩ := RVs.get (i := i) s (by simpa using e)
    exact ⟨v, by simpa using h1, h2⟩
theorem RVs.get' : ∀ {ds : List D} {vs : List V} {i : Nat} {v : V}, RVs K ρ H ds vs → vs[i]? = some v → ∃ d, ds[i]? = some d ∧ RV K ρ H d v
  | _, _, _, _, .nil, e => by simp at e
  | _, _, 0, _, .cons r s, e => by simp at e; subst e; exact ⟨_, rfl, r⟩
  | _, _, i + 1, _, .cons r s, e => by
    obtain ⟨v, h1, h2⟩ := RVs.get' (i := i) s (by simpa using e)
    exact ⟨v, by simpa using h1, h2⟩
theorem RVs.app : ∀ {ds es : List D} {vs ws : List V}, RVs K ρ H ds vs → RVs K ρ H es ws → RVs K ρ H (ds ++ es) (vs ++ ws)
  | _, _, _, _, .nil, s => s
  | _, _, _, _, .cons r t, s => .cons r (RVs.app t s)
theorem RVs.take : ∀ {ds : List D} {vs : List V} (n : Nat), RVs K ρ H ds vs → RVs K ρ H (ds.take n) (vs.take n)
  | _, _, 0, _ => .nil
  | _, _, _ + 1, .nil => .nil
  | _, _, n + 1, .cons r t => .cons r (RVs.take n t)
theorem RVs.drop : ∀ {ds : List D} {vs : List V} (n : Nat), RVs K ρ H ds vs → RVs K ρ H (ds.drop n) (vs.drop n)
  | _, _, 0, r => r
  | _, _, _ + 1, .nil => .nil
  | _, _, n + 1, .cons _ t => RVs.drop n t
theorem RVs.set {d : D} {v : V} (r : RV K ρ H d v) : ∀ {ds : List D} {vs : List V} (i : Nat), RVs K ρ H ds vs → RVs K ρ H (ds.set i d) (vs.set i v)
  | _, _, _, .nil => .nil
  | _, _, 0, .cons _ t => .cons r t
  | _, _, i + 1, .cons q t => .cons q (RVs.set r i t)
theorem RVs.rev : ∀ {ds : List D} {vs : List V}, RVs K ρ H ds vs → RVs K ρ H ds.reverse vs.reverse
  | _, _, .nil => .nil
  | _, _, .cons r t => by simpa using RVs.app (RVs.rev t) (.cons r .nil)
theorem RVs.erase : ∀ {ds : List D} {vs : List V} (i : Nat), RVs K ρ H ds vs → RVs K ρ H (ds.eraseIdx i) (vs.eraseIdx i)
  | _, _, _, .nil => .nil
  | _, _, 0, .cons _ t => t
  | _, _, i + 1, .cons q t => .cons q (RVs.erase i t)
theorem Paired.mono {α β : Type} {P Q : α → β → Prop} (f : ∀ a b, P a b → Q a b) : ∀ {xs : List α} {ys : List β}, Paired P xs ys → Paired Q xs ys
  | _, _, .nil => .nil
  | _, _, .cons r t => .cons (f _ _ r) (Paired.mono f t)
theorem RO.monoT (p : ρ <+: ρ') (x : KT H H') {a : Addr} {o : O} (e : H' a = H a) (r : RO K ρ H a o) : RO K ρ' H' a o := by
  have hk : ∀ {kvs : List (D × D)} {ks : List (Key × V)}, RKv K ρ H kvs ks → RKv K ρ' H' kvs ks := fun r => Paired.mono (fun _ _ z => ⟨z.1, z.2.1, z.2.2.monoT p x⟩) r
  have ht : ∀ {kvs : List (D × D)} {ks : List (List Key × V)}, RTv K ρ H kvs ks → RTv K ρ' H' kvs ks := fun r => Paired.mono (fun _ _ z => ⟨z.1, z.2.1, z.2.2.monoT p x⟩) r
  have hf : ∀ {fs : List (Str × D)} {ys : List (Str × V)}, RFs K ρ H fs ys → RFs K ρ' H' fs ys := fun r => Paired.mono (fun _ _ z => ⟨z.1, z.2.monoT p x⟩) r
  cases o with
  | lst ds => obtain ⟨xs, q, z, r⟩ := r; exact ⟨xs, e.trans q, z, r.monoT p x⟩
  | fro ds => obtain ⟨xs, o, q, z, r⟩ := r; exact ⟨xs, o, e.trans q, z, r.monoT p x⟩
  | dct t kvs =>
    cases t
    · obtain ⟨ks, q, r⟩ := r; exact ⟨ks, e.trans q, hk r⟩
    · obtain ⟨ks, q, r⟩ := r; exact ⟨ks, e.trans q, ht r⟩
  | fdc t kvs =>
    cases t
    · obtain ⟨ks, o, q, r⟩ := r; exact ⟨ks, o, e.trans q, hk r⟩
    · obtain ⟨ks, o, q, r⟩ := r; exact ⟨ks, o, e.trans q, ht r⟩
  | ins c fs => obtain ⟨dx, ys, q, r⟩ := r; exact ⟨dx, ys, e.trans q, hf r⟩
theorem RO.mono (x : Ex ρ H ρ' H') (R : HR K ρ H h) {a : Addr} {o : O} (e : H' a = H a) (r : RO K ρ H a o) : RO K ρ' H' a o := r.monoT x.pre (x.kp R) e
/-- a hidden thing (no tuple, none of ours) is changed -/
theorem HR.hid {p : Addr} {o : HO} (R : HR K ρ H h) (hp : p ∉ ρ) (ht : ∀ o, Kp o = true → H p ≠ some o) : HR K ρ (upd H p o) h :=
  ⟨R.len, R.nd, fun l u a e1 e2 => (R.at_ l u a e1 e2).monoT (List.prefix_refl _) (fun b xs k e => by
    have hb : b ≠ p := fun z => by
      subst z
      exact ht _ k e
    rw [upd_ne hb]; exact e) (upd_ne fun z => hp (z ▸ List.mem_of_getElem? e2))⟩
/-- a new tracked thing that is none of ours -/
theorem Ex.aside {p : Addr} {o : HO} (R : HR K ρ H h) (hp : H p = none) : Ex ρ H ρ (upd H p o) :=
  ⟨List.prefix_refl _, fun a u n e => ⟨by rw [upd_ne (ne_of_none e hp)]; exact e, n⟩, fun a o u e => by rw [upd_ne (ne_of_none e hp)]; exact e⟩
theorem HR.aside {p : Addr} {o : HO} (R : HR K ρ H h) (hp : H p = none) : HR K ρ (upd H p o) h :=
  ⟨R.len, R.nd, fun l u a e1 e2 => (R.at_ l u a e1 e2).mono (Ex.aside R hp) R (upd_ne fun z => (R.notup (List.mem_of_getElem? e2)).2.2 (z ▸ hp))⟩
/-- a new object of ours -/
theorem Ex.new {p : Addr} {o : HO} (hp : H p = none) : Ex ρ H (ρ ++ [p]) (upd H p o) :=
  ⟨List.prefix_append _ _, fun a u n e => ⟨by rw [upd_ne (ne_of_none e hp)]; exact e, by
    simp only [List.mem_append, List.mem_singleton, not_or]; exact ⟨n, ne_of_none e hp⟩⟩, fun a o u e => by rw [upd_ne (ne_of_none e hp)]; exact e⟩
theorem HR.new {p : Addr} {o : HO} {u : O} (R : HR K ρ H h) (hp : H p = none) (q : RO K (ρ ++ [p]) (upd H p o) p u) : HR K (ρ ++ [p]) (upd H p o) (h ++ [u]) := by
  have hn : p ∉ ρ := fun m => (R.notup m).2.2 hp
  refine ⟨by simp [R.len], ?_, fun l v a e1 e2 => ?_⟩
  · rw [List.nodup_append]
    exact ⟨R.nd, by simp, fun a ha b hb => by simp at hb; subst hb; exact fun z => hn (z ▸ ha)⟩
  · by_cases hl : l < h.length
    · rw [List.getElem?_append_left hl] at e1
      rw [List.getElem?_append_left (by rw [R.len]; exact hl)] at e2
      exact (R.at_ l v a e1 e2).mono (Ex.new hp) R (upd_ne fun z => hn (z ▸ List.mem_of_getElem? e2))
    · have hl' : l = h.length := by
        have := (List.getElem?_eq_some_iff.mp e1).1
        simp at this; omega
      subst hl'
      rw [List.getElem?_append_right (Nat.le_refl _)] at e1
      rw [List.getElem?_append_right (by rw [R.len]; exact Nat.le_refl _), R.len] at e2
      simp at e1 e2
      subst e1; subst e2
      exact q
/-- a thing that stands becomes ours -/
theorem HR.join {p : Addr} {u : O} (R : HR K ρ H h) (hn : p ∉ ρ) (q : RO K (ρ ++ [p]) H p u) : HR K (ρ ++ [p]) H (h ++ [u]) := by
  refine ⟨by simp [R.len], ?_, fun l v a e1 e2 => ?_⟩
  · rw [List.nodup_append]
    exact ⟨R.nd, by simp, fun a ha b hb => by simp at hb; subst hb; exact fun z => hn (z ▸ ha)⟩
  · by_cases hl : l < h.length
    · rw [List.getElem?_append_left hl] at e1
      rw [List.getElem?_append_left (by rw [R.len]; exact hl)] at e2
      exact (R.at_ l v a e1 e2).monoT (List.prefix_append _ _) (fun _ _ _ e => e) rfl
    · have hl' : l = h.length := by
        have := (List.getElem?_eq_some_iff.mp e1).1
        simp at this; omega
      subst hl'
      rw [List.getElem?_append_right (Nat.le_refl _)] at e1
      rw [List.getElem?_append_right (by rw [R.len]; exact Nat.le_refl _), R.len] at e2
      simp at e1 e2
      subst e1; subst e2
      exact q
/-- an object of ours is changed -/
theorem Ex.put {a : Addr} {o : HO} (ha : a ∈ ρ) (hm : Mut (H a)) : Ex ρ H ρ (upd H a o) :=
  ⟨List.prefix_refl _, fun b u n e => ⟨by rw [upd_ne fun z => n (by rw [z]; exact ha)]; exact e, n⟩, fun b o u e => by
    have hb : b ≠ a := fun z => by
      subst z
      rw [e] at hm
      exact hm
    rw [upd_ne hb]; exact e⟩
theorem nodup_ne {xs : List Addr} (nd : xs.Nodup) {i j : Nat} {a b : Addr} (e1 : xs[i]? = some a) (e2 : xs[j]? = some b) (ne : i ≠ j) : a ≠ b := by
  obtain ⟨h1, e1⟩ := List.getElem?_eq_some_iff.mp e1
  obtain ⟨h2, e2⟩ := List.getElem?_eq_some_iff.mp e2
  intro z
  exact ne ((List.getElem_inj nd).mp (by rw [e1, e2, z]))
theorem HR.put {l : Nat} {a : Addr} {o : HO} {u : O} (R : HR K ρ H h) (hl : ρ[l]? = some a) (hm : Mut (H a)) (q : RO K ρ (upd H a o) a u) : HR K ρ (upd H a o) (h.set l u) := by
  refine ⟨by simp [R.len], R.nd, fun k v b e1 e2 => ?_⟩
  by_cases hk : k = l
  · subst hk
    rw [hl] at e2; cases e2
    have hlt : k < h.length := by rw [← R.len]; exact (List.getElem?_eq_some_iff.mp hl).1
    rw [List.getElem?_set_self hlt] at e1
    cases e1
    exact q
  · rw [List.getElem?_set_ne (Ne.symm hk)] at e1
    exact (R.at_ k v b e1 e2).mono (Ex.put (List.mem_of_getElem? hl) hm) R (upd_ne (nodup_ne R.nd e2 hl hk))
/-- the same, whatever it was -/
theorem HR.putA {l : Nat} {a : Addr} {o : HO} {u : O} (R : HR K ρ H h) (hl : ρ[l]? = some a) (q : RO K ρ (upd H a o) a u) : HR K ρ (upd H a o) (h.set l u) := by
  have nt := (R.notup (List.mem_of_getElem? hl)).1
  refine ⟨by simp [R.len], R.nd, fun k v b e1 e2 => ?_⟩
  by_cases hk : k = l
  · subst hk
    rw [hl] at e2; cases e2
    have hlt : k < h.length := by rw [← R.len]; exact (List.getElem?_eq_some_iff.mp hl).1
    rw [List.getElem?_set_self hlt] at e1
    cases e1
    exact q
  · rw [List.getElem?_set_ne (Ne.symm hk)] at e1
    refine (R.at_ k v b e1 e2).monoT (List.prefix_refl _) (fun c xs k e => ?_) (upd_ne (nodup_ne R.nd e2 hl hk))
    have hb : c ≠ a := fun z => by
      subst z
      exact nt _ k e
    rw [upd_ne hb]; exact e
theorem HR.place (R : HR K ρ H h) {l : Nat} {a : Addr} (hl : ρ[l]? = some a) : ∃ o, h[l]? = some o := by
  have hlt : l < h.length := by rw [← R.len]; exact (List.getElem?_eq_some_iff.mp hl).1
  exact ⟨h[l], by simp [hlt]⟩
theorem HR.addr (R : HR K ρ H h) {l : Nat} {o : O} (hl : h[l]? = some o) : ∃ a, ρ[l]? = some a := by
  have hlt : l < ρ.length := by rw [R.len]; exact (List.getElem?_eq_some_iff.mp hl).1
  exact ⟨ρ[l], by simp [hlt]⟩
end

/-! ### what is read of a state -/
structure Rp (K : PySem.W.Frag) (ρ : List Addr) (env : En) (h : Hh) (σ : L2.St) (H : Hp) : Prop where
  heap : HR K ρ H h
  len : env.length = σ.length
  slot : ∀ (i : Nat) (d : D), env[i]? = some (some d) → ∃ v, σ[i]? = some (some v) ∧ RV K ρ H d v
section
variable {K : PySem.W.Frag} {ρ ρ' ρ1 : List Addr} {H H' H1 : Hp} {h h' : Hh} {env : En} {σ : L2.St}
theorem Rp.go (R : Rp K ρ env h σ H) (x : Ex ρ H ρ' H') (R' : HR K ρ' H' h') : Rp K ρ' env h' σ H' :=
  ⟨R', R.len, fun i d e => let ⟨v, e1, r⟩ := R.slot i d e; ⟨v, e1, r.mono x R.heap⟩⟩
theorem Rp.set (R : Rp K ρ env h σ H) {d : D} {v : V} (r : RV K ρ H d v) (i : Nat) : Rp K ρ (env.set i (some d)) h (σ.set i (some v)) H := by
  refine ⟨R.heap, by simp [R.len], fun j u e => ?_⟩
  by_cases hj : j = i
  · subst hj
    have hlt : j < env.length := by have := (List.getElem?_eq_some_iff.mp e).1; simpa using this
    rw [List.getElem?_set_self hlt] at e
    cases e
    exact ⟨v, by rw [List.getElem?_set_self (by rw [← R.len]; exact hlt)], r⟩
  · rw [List.getElem?_set_ne (Ne.symm hj)] at e
    obtain ⟨w, e1, r1⟩ := R.slot j u e
    exact ⟨w, by rw [List.getElem?_set_ne (Ne.symm hj)]; exact e1, r1⟩
end

/-! ### the outcome -/
abbrev WK := Value → Option Addr → Hp → Prop
def Out (K : PySem.W.Frag) (ρ : List Addr) (H : Hp) (W : WK) {α β : Type} (rel : List Addr → Hp → α → β → Prop) (r : Ot α) (Q : β → Hp → Prop) : Prop :=
  match r with
  | some (.ok d, h') => ∀ ρ' H' v, Ex ρ H ρ' H' → HR K ρ' H' h' → rel ρ' H' d v → Q v H'
  | some (.exc c fs, h') => ∀ ρ' H' dx ys, Ex ρ H ρ' H' → HR K ρ' H' h' → H' dx = some (.xd ys) → dx ∉ ρ' → RFs K ρ' H' fs ys → W (.ref (He.ga K c)) (some dx) H'
  | none => False
abbrev relV (K : PySem.W.Frag) : List Addr → Hp → D → V → Prop := fun ρ H d v => RV K ρ H d v
abbrev relVs (K : PySem.W.Frag) : List Addr → Hp → List D → List V → Prop := fun ρ H d v => RVs K ρ H d v
abbrev relB : List Addr → Hp → Bool → Bool → Prop := fun _ _ b c => c = b

def bnd {α β : Type} (x : Ot α) (k : α → M β) : Ot β := match x with
  | some (.ok a, h) => k a h
  | some (.exc c fs, h) => some (.exc c fs, h)
  | none => none
@[simp] theorem bnd_ok {α β : Type} (a : α) (h : Hh) (k : α → M β) : bnd (some (.ok a, h)) k = k a h := rfl
@[simp] theorem bnd_exc {α β : Type} (c : Str) (fs : List (Str × D)) (h : Hh) (k : α → M β) : bnd (some (.exc c fs, h)) k = some (.exc c fs, h) := rfl
@[simp] theorem bnd_none {α β : Type} (k : α → M β) : bnd (none : Ot α) k = none := rfl

section
variable {K : PySem.W.Frag} {ρ ρ' ρ1 : List Addr} {H H' H1 : Hp} {h h' : Hh} {env : En} {σ : L2.St} {W : WK} {α β γ δ : Type}
  {rel : List Addr → Hp → α → β → Prop} {rel2 : List Addr → Hp → γ → δ → Prop}
theorem Out.from (x : Ex ρ H ρ1 H1) {r : Ot α} {Q : β → Hp → Prop} (o : Out K ρ H W rel r Q) : Out K ρ1 H1 W rel r Q := by
  unfold Out at o ⊢
  match r, o with
  | some (.ok d, h'), o => exact fun ρ' H' v y => o ρ' H' v (x.trans y)
  | some (.exc c fs, h'), o => exact fun ρ' H' dx ys y => o ρ' H' dx ys (x.trans y)
theorem Out.ok {d : α} {v : β} {Q : β → Hp → Prop} (o : Out K ρ H W rel (some (.ok d, h)) Q) (R : HR K ρ H h) (r : rel ρ H d v) : Q v H :=
  o ρ H v Ex.refl R r
/-- one thing after another -/
theorem Out.bind {x : Ot α} {k : α → M γ} {Q : δ → Hp → Prop} (o : Out K ρ H W rel2 (bnd x k) Q) :
    Out K ρ H W rel x fun v H1 => ∃ ρ1 h1 d, Ex ρ H ρ1 H1 ∧ HR K ρ1 H1 h1 ∧ rel ρ1 H1 d v ∧ Out K ρ1 H1 W rel2 (k d h1) Q := by
  match x, o with
  | some (.ok d, h1), o => exact fun ρ' H' v y R r => ⟨ρ', h1, d, y, R, r, Out.from y o⟩
  | some (.exc c fs, h1), o => exact o
theorem Out.mono {r : Ot α} {Q Q' : β → Hp → Prop} (o : Out K ρ H W rel r Q) (f : ∀ v H', Q v H' → Q' v H') : Out K ρ H W rel r Q' := by
  match r, o with
  | some (.ok d, h'), o => exact fun ρ' H' v x R q => f _ _ (o ρ' H' v x R q)
  | some (.exc c fs, h'), o => exact o
end

/-! ### readings by a function -/
abbrev Ef := En → M D
abbrev Tf := En → M Bool
abbrev Af := En → M (List D)
def simE (K : PySem.W.Frag) (W : WX) (d : Ef) : TE := fun σ H Q => ∃ ρ env h, Rp K ρ env h σ H ∧ Out K ρ H (fun c a H' => W c a σ H') (relV K) (d env h) Q
def simT (K : PySem.W.Frag) (W : WX) (d : Tf) : TT := fun σ H Q => ∃ ρ env h, Rp K ρ env h σ H ∧ Out K ρ H (fun c a H' => W c a σ H') relB (d env h) Q
def simA (K : PySem.W.Frag) (W : WX) (d : Af) : TA := fun σ H Q => ∃ ρ env h, Rp K ρ env h σ H ∧ Out K ρ H (fun c a H' => W c a σ H') (relVs K) (d env h) Q

theorem _root_.L2.PE.imp {X : Cx} {e : Expr} {t t' : TE} (p : PE X e t) (f : ∀ σ H Q, t' σ H Q → t σ H Q) : PE X e t' := ⟨fun pins s σ H Q I q => p.run pins s σ H Q I (f _ _ _ q)⟩
theorem _root_.L2.PT.imp {X : Cx} {e : Expr} {t t' : TT} (p : PT X e t) (f : ∀ σ H Q, t' σ H Q → t σ H Q) : PT X e t' := ⟨fun pins s σ H Q I q => p.run pins s σ H Q I (f _ _ _ q)⟩
theorem _root_.L2.PW.imp {X : Cx} {e : Expr} {t t' : TT} (p : PW X e t) (f : ∀ σ H Q, t' σ H Q → t σ H Q) : PW X e t' := ⟨fun w pins s σ H Q I q => p.run w pins s σ H Q I (f _ _ _ q)⟩
theorem _root_.L2.PA.imp {X : Cx} {e : List Expr} {t t' : TA} (p : PA X e t) (f : ∀ σ H Q, t' σ H Q → t σ H Q) : PA X e t' := ⟨fun pos pins s σ H Q I q => p.run pos pins s σ H Q I (f _ _ _ q)⟩
theorem _root_.L2.PS.imp {X : Cx} {e : Stmt} {t t' : TS} (p : PS X e t) (f : ∀ D σ H, t' D σ H → t D σ H) : PS X e t' := ⟨fun pins s σ H D I q => p.run pins s σ H D I (f _ _ _ q)⟩
theorem _root_.L2.PSs.imp {X : Cx} {e : List Stmt} {t t' : TS} (p : PSs X e t) (f : ∀ D σ H, t' D σ H → t D σ H) : PSs X e t' := ⟨fun pins s σ H D I q => p.run pins s σ H D I (f _ _ _ q)⟩
end S
set_option Elab.async false
set_option linter.all false
set_option autoImplicit false
set_option maxRecDepth 100000
set_option maxHeartbeats 1000000
namespace S
open PySem PySem.Spec PyProof.Rows L2

/-! ### operations that raise nothing -/
abbrev Op (α : Type) := Option (α × Hh)
def lft {α : Type} (x : Op α) : Ot α := match x with
  | some (a, h) => some (.ok a, h)
  | none => none
@[simp] theorem lft_some {α : Type} (a : α) (h : Hh) : lft (some (a, h)) = some (.ok a, h) := rfl
@[simp] theorem lft_none {α : Type} : lft (none : Op α) = none := rfl
def OutP (K : PySem.W.Frag) (ρ : List Addr) (H : Hp) {α β : Type} (rel : List Addr → Hp → α → β → Prop) (r : Op α) (Q : β → Hp → Prop) : Prop :=
  match r with
  | some (d, h') => ∀ ρ' H' v, Ex ρ H ρ' H' → HR K ρ' H' h' → rel ρ' H' d v → Q v H'
  | none => False
section
variable {K : PySem.W.Frag} {ρ ρ' ρ1 : List Addr} {H H' H1 : Hp} {h h' : Hh} {W : WK} {α β : Type} {rel : List Addr → Hp → α → β → Prop}
theorem Out.lft {x : Op α} {Q : β → Hp → Prop} (o : Out K ρ H W rel (S.lft x) Q) : OutP K ρ H rel x Q := by
  match x, o with
  | some (a, h), o => exact o
theorem OutP.same {d : α} {v : β} {Q : β → Hp → Prop} (o : OutP K ρ H rel (some (d, h)) Q) (R : HR K ρ H h) (r : rel ρ H d v) : Q v H := o ρ H v Ex.refl R r
/-- a new object of ours -/
theorem OutP.new {p : Addr} {o : HO} {u : O} {Q : V → Hp → Prop} (q : OutP K ρ H (relV K) (some (.ref h.length, h ++ [u])) Q) (R : HR K ρ H h) (hp : H p = none) (r : RO K (ρ ++ [p]) (upd H p o) p u) : Q (.ref p) (upd H p o) :=
  q _ _ _ (Ex.new hp) (R.new hp r) (.ref (by rw [← R.len]; simp))
/-- a new tuple -/
theorem OutP.tup {p : Addr} {ds : List D} {xs : List V} {Q : V → Hp → Prop} (q : OutP K ρ H (relV K) (some (.tup ds, h)) Q) (R : HR K ρ H h) (hp : H p = none) (z : xs.length ≤ sizeLine) (r : RVs K ρ H ds xs) : Q (.ref p) (upd H p (.tup xs)) :=
  q _ _ _ (Ex.aside R hp) (R.aside hp) (.tup upd_same z (r.mono (Ex.aside R hp) R))
/-- an object of ours changed -/
theorem OutP.put {a : Addr} {l : Nat} {o : HO} {u : O} {d : α} {v : β} {Q : β → Hp → Prop} (q : OutP K ρ H rel (some (d, h.set l u)) Q) (R : HR K ρ H h) (hl : ρ[l]? = some a) (hm : Mut (H a)) (r : RO K ρ (upd H a o) a u) (rd : rel ρ (upd H a o) d v) : Q v (upd H a o) :=
  q _ _ _ (Ex.put (List.mem_of_getElem? hl) hm) (R.put hl hm r) rd
end

/-! ### expressions -/
def getv (env : En) (i : Nat) : Option D := match env[i]? with
  | some o => o
  | none => none
def dVar (i : Nat) : Ef := fun env h => match getv env i with
  | some d => some (.ok d, h)
  | none => none
def dC (d : D) : Ef := fun _ h => some (.ok d, h)
def dNil : Af := fun _ h => some (.ok [], h)
def dCons (a : Ef) (r : Af) : Af := fun env h => bnd (a env h) fun x h => bnd (r env h) fun xs h => some (.ok (x :: xs), h)
def dTup (a : Af) : Ef := fun env h => bnd (a env h) fun xs h => if xs.length ≤ sizeLine then some (.ok (.tup xs), h) else none
def dLst (a : Af) : Ef := fun env h => bnd (a env h) fun xs h => if xs.length ≤ sizeLine then some (.ok (.ref h.length), h ++ [.lst xs]) else none
def dBin (op : D → D → Hh → Op D) (a b : Ef) : Ef := fun env h => bnd (a env h) fun x h => bnd (b env h) fun y h => lft (op x y h)
def dUn (op : D → Hh → Op D) (a : Ef) : Ef := fun env h => bnd (a env h) fun x h => lft (op x h)
def dFun (f : List D → Hh → Op D) (a : Af) : Ef := fun env h => bnd (a env h) fun xs h => lft (f xs h)
def dCall (f : List D → M D) (a : Af) : Ef := fun env h => bnd (a env h) f
def dIf (t : Tf) (a b : Ef) : Ef := fun env h => bnd (t env h) fun c h => if c then a env h else b env h
def truD : D → Hh → Option Bool
  | .bl b, _ => some b
  | .non, _ => some false
  | .int i, _ => some (i != 0)
  | .tup xs, _ => some (!xs.isEmpty)
  | .ref l, h => (match h[l]? with
    | some (.lst xs) => some (!xs.isEmpty)
    | _ => none)
  | _, _ => none
def tV (a : Ef) : Tf := fun env h => bnd (a env h) fun x h => match truD x h with
  | some b => some (.ok b, h)
  | none => none
def tNot (t : Tf) : Tf := fun env h => bnd (t env h) fun c h => some (.ok (!c), h)
def tAnd (t u : Tf) : Tf := fun env h => bnd (t env h) fun c h => if c then u env h else some (.ok false, h)
def tOr (t u : Tf) : Tf := fun env h => bnd (t env h) fun c h => if c then some (.ok true, h) else u env h
/-- and, or of bools as values; not -/
def dAnd (a b : Ef) : Ef := fun env h => bnd (a env h) fun x h => match x with
  | .bl true => b env h
  | .bl false => some (.ok (.bl false), h)
  | _ => none
def dOr (a b : Ef) : Ef := fun env h => bnd (a env h) fun x h => match x with
  | .bl false => b env h
  | .bl true => some (.ok (.bl true), h)
  | _ => none
def dNot (a : Ef) : Ef := fun env h => bnd (a env h) fun x h => match x with
  | .bl b => some (.ok (.bl (!b)), h)
  | _ => none

abbrev EE (X : Cx) (W : WX) (e : Expr) (d : Ef) : Prop := PE X e (simE X.K W d)
abbrev TT_ (X : Cx) (W : WX) (e : Expr) (d : Tf) : Prop := PT X e (simT X.K W d)
abbrev TW_ (X : Cx) (W : WX) (e : Expr) (d : Tf) : Prop := PW X e (simT X.K W d)
abbrev AA (X : Cx) (W : WX) (e : List Expr) (d : Af) : Prop := PA X e (simA X.K W d)

/-- a two-place operation does what op says -/
def OpS (X : Cx) (f : Value → Value → Sem Value) (op : D → D → Hh → Op D) : Prop :=
  OpR X f fun x y H Q => ∃ ρ h d e, HR X.K ρ H h ∧ RV X.K ρ H d x ∧ RV X.K ρ H e y ∧ OutP X.K ρ H (relV X.K) (op d e h) Q

section
variable {X : Cx} {W : WX} {a b c e : Expr} {es : List Expr} {da db dc : Ef} {ta tb : Tf} {ds : Af} {pos : Pos}

theorem getv_at {env : En} {i : Nat} {d : D} (e : getv env i = some d) : env[i]? = some (some d) := by
  unfold getv at e
  split at e
  · rename_i o h; rw [h, e]
  · cases e
theorem e_var {i : Nat} {x : Str} {pos : Pos} (p : PE X (.Name x pos) (tVar i)) : EE X W (.Name x pos) (dVar i) := p.imp fun σ H Q h => by
  obtain ⟨ρ, env, h, R, o⟩ := h
  unfold dVar at o
  split at o
  · rename_i d hd
    obtain ⟨v, e1, r⟩ := R.slot i d (getv_at hd)
    exact ⟨v, e1, o.ok R.heap r⟩
  · exact o.elim
theorem e_con {v : V} {d : D} (p : PE X e (tC v)) (r : ∀ ρ H, RV X.K ρ H d v) : EE X W e (dC d) := p.imp fun σ H Q h => by
  obtain ⟨ρ, env, h, R, o⟩ := h
  exact o.ok R.heap (r ρ H)
theorem e_int {i j pos} : EE X W (.Constant (.int i) j pos) (dC (.int i)) := e_con pe_int fun _ _ => .int i
theorem e_str {i j pos} : EE X W (.Constant (.str i) j pos) (dC (.str i)) := e_con pe_str fun _ _ => .str i
theorem e_bl {i j pos} : EE X W (.Constant (.bool i) j pos) (dC (.bl i)) := e_con pe_bl fun _ _ => .bl i
theorem e_non {j pos} : EE X W (.Constant .none j pos) (dC .non) := e_con pe_non fun _ _ => .non
theorem e_globI {x : Str} {i : Int} {t : Tok} {pos : Pos} (hg : Gl X x) (hm : X.mg x = some (.int i t)) (hd : (x == ("__debug__" : Str)) = false := by decide) : EE X W (.Name x pos) (dC (.int i)) := e_con (v := .int i) (pe_glob hg hm ⟨_, rfl⟩ hd) fun _ _ => .int i

/-- the frame of most proofs: one expression, then what follows with its value -/
theorem sim1 {γ δ : Type} {rel2 : List Addr → Hp → γ → δ → Prop} {K : PySem.W.Frag} {σ : L2.St} {H : Hp} {ρ : List Addr} {env : En} {h : Hh} {Wk : WK} {k : D → M γ} {Q : δ → Hp → Prop} {d : Ef}
    (R : Rp K ρ env h σ H) (o : Out K ρ H Wk rel2 (bnd (d env h) k) Q) (hW : ∀ c a H', Wk c a H' → W c a σ H') {Q' : V → Hp → Prop}
    (f : ∀ ρ1 h1 x v H1, Rp K ρ1 env h1 σ H1 → RV K ρ1 H1 x v → Ex ρ H ρ1 H1 → Out K ρ1 H1 Wk rel2 (k x h1) Q → Q' v H1) : simE K W d σ H Q' := by
  refine ⟨ρ, env, h, R, ?_⟩
  have q := Out.mono (Out.bind (rel := relV K) o) fun v H1 ⟨ρ1, h1, x, ex, R1, r1, o1⟩ => f ρ1 h1 x v H1 (R.go ex R1) r1 ex o1
  revert q
  generalize d env h = z
  intro q
  match z, q with
  | some (.ok d, h'), q => exact q
  | some (.exc c fs, h'), q => exact fun ρ' H' dx ys x r e n f => hW _ _ _ (q ρ' H' dx ys x r e n f)
theorem simA1 {γ δ : Type} {rel2 : List Addr → Hp → γ → δ → Prop} {K : PySem.W.Frag} {σ : L2.St} {H : Hp} {ρ : List Addr} {env : En} {h : Hh} {Wk : WK} {k : List D → M γ} {Q : δ → Hp → Prop} {d : Af}
    (R : Rp K ρ env h σ H) (o : Out K ρ H Wk rel2 (bnd (d env h) k) Q) (hW : ∀ c a H', Wk c a H' → W c a σ H') {Q' : List V → Hp → Prop}
    (f : ∀ ρ1 h1 x v H1, Rp K ρ1 env h1 σ H1 → RVs K ρ1 H1 x v → Ex ρ H ρ1 H1 → Out K ρ1 H1 Wk rel2 (k x h1) Q → Q' v H1) : simA K W d σ H Q' := by
  refine ⟨ρ, env, h, R, ?_⟩
  have q := Out.mono (Out.bind (rel := relVs K) o) fun v H1 ⟨ρ1, h1, x, ex, R1, r1, o1⟩ => f ρ1 h1 x v H1 (R.go ex R1) r1 ex o1
  revert q
  generalize d env h = z
  intro q
  match z, q with
  | some (.ok d, h'), q => exact q
  | some (.exc c fs, h'), q => exact fun ρ' H' dx ys x r e n f => hW _ _ _ (q ρ' H' dx ys x r e n f)
theorem simT1 {γ δ : Type} {rel2 : List Addr → Hp → γ → δ → Prop} {K : PySem.W.Frag} {σ : L2.St} {H : Hp} {ρ : List Addr} {env : En} {h : Hh} {Wk : WK} {k : Bool → M γ} {Q : δ → Hp → Prop} {d : Tf}
    (R : Rp K ρ env h σ H) (o : Out K ρ H Wk rel2 (bnd (d env h) k) Q) (hW : ∀ c a H', Wk c a H' → W c a σ H') {Q' : Bool → Hp → Prop}
    (f : ∀ ρ1 h1 x H1, Rp K ρ1 env h1 σ H1 → Ex ρ H ρ1 H1 → Out K ρ1 H1 Wk rel2 (k x h1) Q → Q' x H1) : simT K W d σ H Q' := by
  refine ⟨ρ, env, h, R, ?_⟩
  have q := Out.mono (Out.bind (rel := relB) o) fun v H1 ⟨ρ1, h1, x, ex, R1, r1, o1⟩ => by
    have r1' : v = x := r1
    subst r1'
    exact f ρ1 h1 v H1 (R.go ex R1) ex o1
  revert q
  generalize d env h = z
  intro q
  match z, q with
  | some (.ok d, h'), q => exact q
  | some (.exc c fs, h'), q => exact fun ρ' H' dx ys x r e n f => hW _ _ _ (q ρ' H' dx ys x r e n f)

theorem a_nil : AA X W [] dNil := pa_nil.imp fun σ H Q h => by
  obtain ⟨ρ, env, h, R, o⟩ := h
  exact o.ok R.heap .nil
theorem a_cons (ha : EE X W e da) (hr : AA X W es ds) (hs : starEach (e :: es) X.env = (false, eval e X.env) :: starEach es X.env := by rfl) : AA X W (e :: es) (dCons da ds) := (pa_cons ha hr hs).imp fun σ H Q h => by
  obtain ⟨ρ, env, h, R, o⟩ := h
  refine sim1 R o (fun _ _ _ z => z) fun ρ1 h1 x v H1 R1 r1 ex o1 => ?_
  refine simA1 R1 o1 (fun _ _ _ z => z) fun ρ2 h2 xs vs H2 R2 r2 ex2 o2 => ?_
  exact o2.ok R2.heap (.cons (r1.mono ex2 R1.heap) r2)
theorem e_tup {x1} (ha : AA X W es ds) : EE X W (.Tuple es x1 pos) (dTup ds) := (pe_tup ha).imp fun σ H Q h => by
  obtain ⟨ρ, env, h, R, o⟩ := h
  refine simA1 R o (fun _ _ _ z => z) fun ρ1 h1 x v H1 R1 r1 ex o1 => ?_
  split at o1
  · rename_i hz
    exact ⟨by rw [r1.length]; exact hz, fun p hp => OutP.tup (ds := x) (Out.lft (x := some (D.tup x, h1)) o1) R1.heap hp (by rw [r1.length]; exact hz) r1⟩
  · exact o1.elim
theorem e_lst (ha : AA X W es ds) : EE X W (.List es pos) (dLst ds) := (pe_lst ha).imp fun σ H Q h => by
  obtain ⟨ρ, env, h, R, o⟩ := h
  refine simA1 R o (fun _ _ _ z => z) fun ρ1 h1 x v H1 R1 r1 ex o1 => ?_
  split at o1
  · rename_i hz
    exact ⟨by rw [r1.length]; exact hz, fun p hp => OutP.new (u := O.lst x) (Out.lft (x := some (D.ref h1.length, h1 ++ [O.lst x])) o1) R1.heap hp ⟨v, upd_same, by rw [r1.length]; exact hz, r1.mono (Ex.new hp) R1.heap⟩⟩
  · exact o1.elim

/-- two expressions, then an operation -/
theorem sim2 {op : D → D → Hh → Op D} {f : Value → Value → Sem Value} {r : R2} (hr : ∀ x y H Q, (∃ ρ h d e, HR X.K ρ H h ∧ RV X.K ρ H d x ∧ RV X.K ρ H e y ∧ OutP X.K ρ H (relV X.K) (op d e h) Q) → r x y H Q)
    {σ : L2.St} {H : Hp} {Q : VK} (h : simE X.K W (dBin op da db) σ H Q) : tOp r (simE X.K W da) (simE X.K W db) σ H Q := by
  obtain ⟨ρ, env, h, R, o⟩ := h
  refine sim1 R o (fun _ _ _ z => z) fun ρ1 h1 x v H1 R1 r1 ex o1 => ?_
  refine sim1 R1 o1 (fun _ _ _ z => z) fun ρ2 h2 y u H2 R2 r2 ex2 o2 => ?_
  exact hr _ _ _ _ ⟨ρ2, h2, x, y, R2.heap, r1.mono ex2 R1.heap, r2, o2.lft⟩
theorem e_bin {o : Operator} {op : D → D → Hh → Op D} (ho : OpS X (binaryOp o) op) (ha : EE X W a da) (hb : EE X W b db) : EE X W (.BinOp a o b pos) (dBin op da db) :=
  (pe_op ho ha hb).imp fun σ H Q h => sim2 (f := binaryOp o) (fun _ _ _ _ z => z) h
theorem e_cmp {o : CmpOp} {op : D → D → Hh → Op D} (ho : OpS X (compareOp o) op) (ha : EE X W a da) (hb : EE X W b db) (hm : behindInMarks o b = false) : EE X W (.Compare a [o] [b] pos) (dBin op da db) :=
  (pe_cmpR ho ha hb hm).imp fun σ H Q h => sim2 (f := compareOp o) (fun _ _ _ _ z => z) h
def tCmp (op : D → D → Hh → Op D) (a b : Ef) : Tf := fun env h => bnd (a env h) fun x h => bnd (b env h) fun y h => match op x y h with
  | some (.bl c, h) => some (.ok c, h)
  | _ => none
theorem t_cmp {o : CmpOp} {op : D → D → Hh → Op D} (ho : OpS X (compareOp o) op) (ha : EE X W a da) (hb : EE X W b db) (hm : behindInMarks o b = false) : TT_ X W (.Compare a [o] [b] pos) (S.tCmp op da db) :=
  (pt_cmpR ho ha hb hm).imp fun σ H Q h => by
    obtain ⟨ρ, env, h, R, o⟩ := h
    refine sim1 R o (fun _ _ _ z => z) fun ρ1 h1 x v H1 R1 r1 ex o1 => ?_
    refine sim1 R1 o1 (fun _ _ _ z => z) fun ρ2 h2 y u H2 R2 r2 ex2 o2 => ?_
    refine ⟨ρ2, h2, x, y, R2.heap, r1.mono ex2 R1.heap, r2, ?_⟩
    split at o2
    · rename_i c h' he
      rw [he]
      intro ρ' H' v' ex' R' r'
      cases r'
      exact ⟨c, rfl, o2 ρ' H' c ex' R' rfl⟩
    · exact o2.elim
theorem e_ifExp (hc : TT_ X W c ta) (ha : EE X W a da) (hb : EE X W b db) : EE X W (.IfExp c a b pos) (dIf ta da db) := (pe_ifExp hc ha hb).imp fun σ H Q h => by
  obtain ⟨ρ, env, h, R, o⟩ := h
  refine simT1 R o (fun _ _ _ z => z) fun ρ1 h1 x H1 R1 ex o1 => ?_
  cases x with
  | true => exact iteT ⟨ρ1, env, h1, R1, o1⟩
  | false => exact iteF ⟨ρ1, env, h1, R1, o1⟩

/-! ### tests -/
theorem t_val (ha : EE X W a da) (he : ∀ whole, isTrue a X.env whole = (do let v ← whole; standAt a.pos; holding [v] (truthy v)) := by intro _; rfl) : TT_ X W a (tV da) := (pt_truth ha he).imp fun σ H Q h => by
  obtain ⟨ρ, env, h, R, o⟩ := h
  refine sim1 R o (fun _ _ _ z => z) fun ρ1 h1 x v H1 R1 r1 ex o1 => ?_
  split at o1
  · rename_i k hk
    refine ⟨k, ?_, o1.ok R1.heap rfl⟩
    cases r1 with
    | non => exact (Option.some.inj hk).symm
    | bl b => exact (Option.some.inj hk).symm
    | int i => exact (Option.some.inj hk).symm
    | str x => cases hk
    | kl _ _ _ => cases hk
    | exn _ _ => cases hk
    | tup s z r =>
      refine .inr (.inl ⟨_, .of s, ?_⟩)
      have := (Option.some.inj hk).symm
      cases r <;> exact this
    | ref e =>
      rename_i l a'
      obtain ⟨ob, ho⟩ := R1.heap.place e
      have q := R1.heap.at_ l ob _ ho e
      unfold truD at hk
      simp only [ho] at hk
      cases ob with
      | lst ds =>
        obtain ⟨xs, q, z, r⟩ := q
        refine .inl ⟨xs, SqL.of q, ?_⟩
        have := (Option.some.inj hk).symm
        cases r <;> exact this
      | fro ds => cases hk
      | dct t ds => cases hk
      | fdc t ds => cases hk
      | ins c fs => cases hk
  · exact o1.elim
theorem t_not (ha : TT_ X W a ta) : TT_ X W (.UnaryOp .Not a pos) (tNot ta) := (pt_not ha).imp fun σ H Q h => by
  obtain ⟨ρ, env, h, R, o⟩ := h
  exact simT1 R o (fun _ _ _ z => z) fun ρ1 h1 x H1 R1 ex o1 => o1.ok R1.heap rfl
theorem w_and1 (ha : TT_ X W a ta) : TW_ X W (.BoolOp .And [a] pos) ta := pw_and1 ha
theorem w_or1 (ha : TT_ X W a ta) : TW_ X W (.BoolOp .Or [a] pos) ta := pw_or1 ha
theorem w_and (ha : TT_ X W a ta) (hb : TW_ X W (.BoolOp .And (b :: es) pos) tb) : TW_ X W (.BoolOp .And (a :: b :: es) pos) (S.tAnd ta tb) := (pw_and ha hb).imp fun σ H Q h => by
  obtain ⟨ρ, env, h, R, o⟩ := h
  refine simT1 R o (fun _ _ _ z => z) fun ρ1 h1 x H1 R1 ex o1 => ?_
  cases x with
  | true => exact iteT ⟨ρ1, env, h1, R1, o1⟩
  | false => exact iteF (o1.ok R1.heap rfl)
theorem w_or (ha : TT_ X W a ta) (hb : TW_ X W (.BoolOp .Or (b :: es) pos) tb) : TW_ X W (.BoolOp .Or (a :: b :: es) pos) (S.tOr ta tb) := (pw_or ha hb).imp fun σ H Q h => by
  obtain ⟨ρ, env, h, R, o⟩ := h
  refine simT1 R o (fun _ _ _ z => z) fun ρ1 h1 x H1 R1 ex o1 => ?_
  cases x with
  | true => exact iteT (o1.ok R1.heap rfl)
  | false => exact iteF ⟨ρ1, env, h1, R1, o1⟩
theorem e_and (ha : EE X W a da) (hb : EE X W (.BoolOp .And (b :: es) pos) db) : EE X W (.BoolOp .And (a :: b :: es) pos) (dAnd da db) := (pe_and ha hb).imp fun σ H Q h => by
  obtain ⟨ρ, env, h, R, o⟩ := h
  refine sim1 R o (fun _ _ _ z => z) fun ρ1 h1 x v H1 R1 r1 ex o1 => ?_
  cases r1 with
  | bl b =>
    cases b with
    | true => exact ⟨true, rfl, iteT ⟨ρ1, env, h1, R1, o1⟩⟩
    | false => exact ⟨false, rfl, iteF (o1.ok R1.heap (.bl false))⟩
  | _ => exact o1.elim
theorem e_or (ha : EE X W a da) (hb : EE X W (.BoolOp .Or (b :: es) pos) db) : EE X W (.BoolOp .Or (a :: b :: es) pos) (dOr da db) := (pe_or ha hb).imp fun σ H Q h => by
  obtain ⟨ρ, env, h, R, o⟩ := h
  refine sim1 R o (fun _ _ _ z => z) fun ρ1 h1 x v H1 R1 r1 ex o1 => ?_
  cases r1 with
  | bl b =>
    cases b with
    | false => exact ⟨false, rfl, iteF ⟨ρ1, env, h1, R1, o1⟩⟩
    | true => exact ⟨true, rfl, iteT (o1.ok R1.heap (.bl true))⟩
  | _ => exact o1.elim
theorem e_one {op} (ha : EE X W a da) : EE X W (.BoolOp op [a] pos) da := pe_one ha
theorem e_not (ha : EE X W a da) : EE X W (.UnaryOp .Not a pos) (dNot da) := (pe_not ha).imp fun σ H Q h => by
  obtain ⟨ρ, env, h, R, o⟩ := h
  refine sim1 R o (fun _ _ _ z => z) fun ρ1 h1 x v H1 R1 r1 ex o1 => ?_
  cases r1 with
  | bl b => exact ⟨b, rfl, o1.ok R1.heap (.bl _)⟩
  | _ => exact o1.elim
end
end S
set_option Elab.async false
set_option linter.all false
set_option autoImplicit false
set_option maxRecDepth 100000
set_option maxHeartbeats 1000000
namespace S
open PySem PySem.Spec PyProof.Rows L2

/-! ### whole numbers -/
def opI (f : Int → Int → Int) : D → D → Hh → Op D
  | .int i, .int j, h => some (.int (f i j), h)
  | _, _, _ => none
def opIc (c : Int → Int → Bool) (f : Int → Int → Int) : D → D → Hh → Op D
  | .int i, .int j, h => if c i j then some (.int (f i j), h) else none
  | _, _, _ => none
def opB (f : Int → Int → Bool) : D → D → Hh → Op D
  | .int i, .int j, h => some (.bl (f i j), h)
  | _, _, _ => none
abbrev opSub := opI fun i j => i - j
abbrev opAnd := opI Builtin.bitAnd
abbrev opOr := opI Builtin.bitOr
abbrev opXor := opI Builtin.bitXor
abbrev opMulI := opIc (fun i j => (decide (-(2 ^ 64) < i) && decide (i < 2 ^ 64)) || (decide (-(2 ^ 64) < j) && decide (j < 2 ^ 64))) fun i j => i * j
abbrev opDiv := opIc (fun _ j => decide (0 < j) && decide (j < 1073741824)) fun i j => i / j
abbrev opMod := opIc (fun _ j => decide (0 < j)) fun i j => i % j
abbrev opPow := opIc (fun i j => decide (0 ≤ j) && decide (j ≤ 1000000) && decide (i.natAbs < 2 ^ 64)) fun i j => i ^ j.toNat
abbrev opShl := opIc (fun i j => decide (0 ≤ j) && decide (j ≤ 1000000) && decide (i.natAbs < 2 ^ 64)) fun i j => i * 2 ^ j.toNat
abbrev opShr := opIc (fun _ j => decide (0 ≤ j)) fun i j => i / 2 ^ j.toNat
abbrev opLt := opB fun i j => decide (i < j)
abbrev opLe := opB fun i j => decide (i ≤ j)
abbrev opGt := opB fun i j => decide (j < i)
abbrev opGe := opB fun i j => decide (j ≤ i)
section
variable {X : Cx} {f : Value → Value → Sem Value}
theorem o_I {g : Int → Int → Int} (o : OpR X f (rI0 fun i j => .int (g i j))) : OpS X f (opI g) := fun pins s σ H x y v u Q I rx ry ⟨ρ, h, d, e, R, r1, r2, q⟩ => by
  cases r1 <;> first | exact q.elim | skip
  cases r2 <;> first | exact q.elim | skip
  exact o pins s σ H _ _ v u Q I rx ry ⟨_, _, rfl, rfl, q.same R (.int _)⟩
theorem o_B {g : Int → Int → Bool} (o : OpR X f (rI0 fun i j => .bl (g i j))) : OpS X f (opB g) := fun pins s σ H x y v u Q I rx ry ⟨ρ, h, d, e, R, r1, r2, q⟩ => by
  cases r1 <;> first | exact q.elim | skip
  cases r2 <;> first | exact q.elim | skip
  exact o pins s σ H _ _ v u Q I rx ry ⟨_, _, rfl, rfl, q.same R (.bl _)⟩
theorem o_Ic {C : Int → Int → Prop} {c : Int → Int → Bool} {g : Int → Int → Int} (o : OpR X f (rI C fun i j => .int (g i j))) (hc : ∀ i j, c i j = true → C i j) : OpS X f (opIc c g) := fun pins s σ H x y v u Q I rx ry ⟨ρ, h, d, e, R, r1, r2, q⟩ => by
  cases r1 <;> first | exact q.elim | skip
  cases r2 <;> first | exact q.elim | skip
  rename_i i j
  unfold opIc at q
  dsimp only at q
  split at q
  · rename_i hcc
    exact o pins s σ H _ _ v u Q I rx ry ⟨_, _, rfl, rfl, hc _ _ hcc, q.same R (.int _)⟩
  · exact q.elim
theorem o_sub : OpS X (binaryOp .Sub) opSub := o_I op_sub
theorem o_and : OpS X (binaryOp .BitAnd) opAnd := o_I op_and
theorem o_or : OpS X (binaryOp .BitOr) opOr := o_I op_or
theorem o_xor : OpS X (binaryOp .BitXor) opXor := o_I op_xor
theorem o_mulI : OpS X (binaryOp .Mult) opMulI := o_Ic op_mul fun i j h => by
  simp only [Bool.or_eq_true, Bool.and_eq_true, decide_eq_true_eq] at h
  exact h
theorem o_div : OpS X (binaryOp .FloorDiv) opDiv := o_Ic op_fdiv fun i j h => by
  simp only [Bool.and_eq_true, decide_eq_true_eq] at h
  exact h
theorem o_mod : OpS X (binaryOp .Mod) opMod := o_Ic op_mod fun i j h => by
  simp only [decide_eq_true_eq] at h
  exact h
theorem o_pow : OpS X (binaryOp .Pow) opPow := o_Ic op_pow fun i j h => by
  simp only [Bool.and_eq_true, decide_eq_true_eq] at h
  exact ⟨h.1.1, h.1.2, h.2⟩
theorem o_shl : OpS X (binaryOp .LShift) opShl := o_Ic op_shl fun i j h => by
  simp only [Bool.and_eq_true, decide_eq_true_eq] at h
  exact ⟨h.1.1, h.1.2, h.2⟩
theorem o_shr : OpS X (binaryOp .RShift) opShr := o_Ic op_shr fun i j h => by
  simp only [decide_eq_true_eq] at h
  exact h
theorem o_lt : OpS X (compareOp .Lt) opLt := o_B op_lt
theorem o_le : OpS X (compareOp .LtE) opLe := o_B op_le
theorem o_gt : OpS X (compareOp .Gt) opGt := o_B op_gt
theorem o_ge : OpS X (compareOp .GtE) opGe := o_B op_ge
end

/-! ### a + b -/
def opAdd : D → D → Hh → Op D
  | .int i, .int j, h => some (.int (i + j), h)
  | .int i, .bl b, h => some (.int (i + (if b then 1 else 0)), h)
  | .str a, .str b, h => if a.length + b.length ≤ sizeLine then some (.str (a ++ b), h) else none
  | .tup xs, .tup ys, h => if xs.length + ys.length ≤ sizeLine then some (.tup (xs ++ ys), h) else none
  | .ref l, .ref m, h => (match h[l]?, h[m]? with
    | some (.lst xs), some (.lst ys) => if xs.length + ys.length ≤ sizeLine then some (.ref h.length, h ++ [.lst (xs ++ ys)]) else none
    | _, _ => none)
  | _, _, _ => none
section
variable {X : Cx}
theorem HR.lst {K : PySem.W.Frag} {ρ : List Addr} {H : Hp} {h : Hh} (R : HR K ρ H h) {l : Nat} {a : Addr} {ds : List D} (e : ρ[l]? = some a) (hl : h[l]? = some (.lst ds)) :
    ∃ xs, H a = some (.lst xs) ∧ xs.length ≤ sizeLine ∧ RVs K ρ H ds xs := R.at_ l _ a hl e
theorem o_add : OpS X (binaryOp .Add) opAdd := fun pins s σ H x y v u Q I rx ry ⟨ρ, h, d, e, R, r1, r2, q⟩ => by
  cases r1 with
  | int i =>
    cases r2 <;> first | exact q.elim | skip
    · rename_i b
      exact op_add_ib pins s σ H _ _ v u Q I rx ry ⟨_, _, rfl, rfl, by
        have := q.same R (.int _)
        cases b <;> exact this⟩
    · exact op_add pins s σ H _ _ v u Q I rx ry ⟨_, _, rfl, rfl, q.same R (.int _)⟩
  | str a =>
    cases r2 <;> first | exact q.elim | skip
    unfold opAdd at q
    dsimp only at q
    split at q
    · rename_i hz
      exact op_add_str pins s σ H _ _ v u Q I rx ry ⟨_, _, rfl, rfl, hz, q.same R (.str _)⟩
    · exact q.elim
  | tup s1 z1 t1 =>
    cases r2 with
    | tup s2 z2 t2 =>
      unfold opAdd at q
      dsimp only at q
      split at q
      · rename_i hz
        rw [← t1.length, ← t2.length] at hz
        refine op_catA pins s σ H _ _ v u Q I rx ry ⟨_, _, _, _, rfl, rfl, .of s1, .of s2, hz, fun e => ?_, fun _ e => ?_, fun _ _ p hp => q.tup R hp (by rw [List.length_append]; exact hz) (t1.app t2)⟩
        · subst e
          cases t1
          exact q.same R (.tup s2 z2 t2)
        · subst e
          cases t2
          rw [List.append_nil] at q
          exact q.same R (.tup s1 z1 t1)
      · exact q.elim
    | _ => exact q.elim
  | ref e1 =>
    cases r2 with
    | ref e2 =>
      unfold opAdd at q
      dsimp only at q
      split at q
      · rename_i xs ys h1 h2
        split at q
        · rename_i hz
          obtain ⟨as, q1, z1, t1⟩ := R.lst e1 h1
          obtain ⟨bs, q2, z2, t2⟩ := R.lst e2 h2
          have hz' : as.length + bs.length ≤ sizeLine := by rw [t1.length, t2.length]; exact hz
          exact op_cat pins s σ H _ _ v u Q I rx ry ⟨_, _, as, bs, rfl, rfl, q1, q2, hz', fun p hp => OutP.new (u := O.lst (xs ++ ys)) q R hp ⟨as ++ bs, upd_same, by rw [List.length_append]; exact hz', (t1.app t2).mono (Ex.new hp) R⟩⟩
        · exact q.elim
      · exact q.elim
    | _ => exact q.elim
  | _ => exact q.elim
/-- [x] * n -/
def opRep : D → D → Hh → Op D
  | .ref l, .int k, h => (match h[l]? with
    | some (.lst xs) => if (-(2 ^ 63) ≤ k) ∧ k < 2 ^ 63 ∧ xs.length * k.toNat ≤ sizeLine then some (.ref h.length, h ++ [.lst (List.replicate k.toNat xs).flatten]) else none
    | _ => none)
  | _, _, _ => none
end

/-! ### equality -/
mutual
def eqD : D → D → Bool
  | .non, .non => true
  | .bl a, .bl b => a == b
  | .bl a, .int j => (if a then 1 else 0) == j
  | .int i, .bl b => i == (if b then 1 else 0)
  | .int i, .int j => i == j
  | .str x, .str y => x == y
  | .tup xs, .tup ys => eqDs xs ys
  | _, _ => false
def eqDs : List D → List D → Bool
  | [], [] => true
  | x :: xs, y :: ys => eqD x y && eqDs xs ys
  | _, _ => false
end
mutual
/-- no places in it; the texts are texts -/
def okD : D → Bool
  | .non => true
  | .bl _ => true
  | .int _ => true
  | .str x => PyData.strOk x
  | .tup xs => okDs xs
  | .ref _ => false
  | .kl _ => false
  | .exn .. => false
def okDs : List D → Bool
  | [] => true
  | x :: xs => okD x && okDs xs
end
mutual
def dep : D → Nat
  | .tup xs => deps xs + 1
  | _ => 0
def deps : List D → Nat
  | [] => 0
  | x :: xs => max (dep x) (deps xs)
end
mutual
def pyD : D → PyData
  | .non => .none
  | .bl b => .bool b
  | .int i => .int i
  | .str x => .str x
  | .tup xs => .tuple (pyDs xs)
  | .ref _ => .none
  | .kl _ => .none
  | .exn .. => .none
def pyDs : List D → List PyData
  | [] => []
  | x :: xs => pyD x :: pyDs xs
end
mutual
theorem eqv_py : ∀ (x y : D), okD x = true → okD y = true → PyData.eqv (pyD x) (pyD y) = eqD x y
  | .tup xs, .tup ys, h1, h2 => eqvs_py xs ys h1 h2
  | .non, .non, _, _ => rfl
  | .non, .bl _, _, _ => rfl
  | .non, .int _, _, _ => rfl
  | .non, .str _, _, _ => rfl
  | .non, .tup _, _, _ => rfl
  | .bl _, .non, _, _ => rfl
  | .bl _, .bl _, _, _ => rfl
  | .bl _, .int _, _, _ => rfl
  | .bl _, .str _, _, _ => rfl
  | .bl _, .tup _, _, _ => rfl
  | .int _, .non, _, _ => rfl
  | .int _, .bl _, _, _ => rfl
  | .int _, .int _, _, _ => rfl
  | .int _, .str _, _, _ => rfl
  | .int _, .tup _, _, _ => rfl
  | .str _, .non, _, _ => rfl
  | .str _, .bl _, _, _ => rfl
  | .str _, .int _, _, _ => rfl
  | .str _, .str _, _, _ => rfl
  | .str _, .tup _, _, _ => rfl
  | .tup _, .non, _, _ => rfl
  | .tup _, .bl _, _, _ => rfl
  | .tup _, .int _, _, _ => rfl
  | .tup _, .str _, _, _ => rfl
  | .ref _, _, h, _ => by cases h
  | _, .ref _, _, h => by cases h
  | .kl _, _, h, _ => by cases h
  | _, .kl _, _, h => by cases h
  | .exn .., _, h, _ => by cases h
  | _, .exn .., _, h => by cases h
theorem eqvs_py : ∀ (x y : List D), okDs x = true → okDs y = true → PyData.eqvAll (pyDs x) (pyDs y) = eqDs x y
  | [], [], _, _ => rfl
  | [], _ :: _, _, _ => rfl
  | _ :: _, [], _, _ => rfl
  | x :: xs, y :: ys, h1, h2 => by
    have a := (Bool.and_eq_true_iff.mp h1)
    have b := (Bool.and_eq_true_iff.mp h2)
    show (PyData.eqv (pyD x) (pyD y) && PyData.eqvAll (pyDs xs) (pyDs ys)) = _
    rw [eqv_py x y a.1 b.1, eqvs_py xs ys a.2 b.2]
    rfl
end
mutual
theorem lay_py : ∀ (x : D), okD x = true → (pyD x).canLay0 = true
  | .non, _ => rfl
  | .bl _, _ => rfl
  | .int _, _ => rfl
  | .str _, h => h
  | .tup xs, h => lays_py xs h
  | .ref _, h => by cases h
  | .kl _, h => by cases h
  | .exn .., h => by cases h
theorem lays_py : ∀ (x : List D), okDs x = true → PyData.canLayAll0 (pyDs x) = true
  | [], _ => rfl
  | x :: xs, h => by
    have a := (Bool.and_eq_true_iff.mp h)
    show ((pyD x).canLay0 && PyData.canLayAll0 (pyDs xs)) = true
    rw [lay_py x a.1, lays_py xs a.2]
    rfl
end
mutual
theorem dep_py : ∀ (x : D), (pyD x).depth = dep x
  | .non => rfl
  | .bl _ => rfl
  | .int _ => rfl
  | .str _ => rfl
  | .tup xs => by
    show PyData.depthAll (pyDs xs) + 1 = deps xs + 1
    rw [deps_py xs]
  | .ref _ => rfl
  | .kl _ => rfl
  | .exn .. => rfl
theorem deps_py : ∀ (x : List D), PyData.depthAll (pyDs x) = deps x
  | [] => rfl
  | x :: xs => by
    show max (pyD x).depth (PyData.depthAll (pyDs xs)) = max (dep x) (deps xs)
    rw [dep_py x, deps_py xs]
end
section
variable {K : PySem.W.Frag} {ρ : List Addr} {H : Hp} {h : Hh}
mutual
theorem RV.dp : ∀ {x : D} {v : V}, RV K ρ H x v → okD x = true → Dp K H v (pyD x)
  | _, _, .non, _ => .non
  | _, _, .bl _, _ => .bl _
  | _, _, .int _, _ => .int _
  | _, _, .str _, _ => .str _
  | _, _, .tup s _ r, h => .tup (.of s) (RVs.dp r h)
  | _, _, .ref _, h => by cases h
  | _, _, .kl _ _ _, h => by cases h
  | _, _, .exn _ _, h => by cases h
theorem RVs.dp : ∀ {x : List D} {v : List V}, RVs K ρ H x v → okDs x = true → DpAll K H v (pyDs x)
  | _, _, .nil, _ => .nil
  | _, _, .cons r s, h => .cons (RV.dp r (Bool.and_eq_true_iff.mp h).1) (RVs.dp s (Bool.and_eq_true_iff.mp h).2)
end
end
/-- x == y; two lists by their items -/
def cmpD (x y : D) (h : Hh) : Option Bool := match x, y with
  | .ref l, .ref m => (match h[l]?, h[m]? with
    | some (.lst xs), some (.lst ys) => if okDs xs && okDs ys && decide (deps xs ≤ 63) && decide (deps ys ≤ 63) then some (eqDs xs ys) else none
    | _, _ => none)
  | x, y => if okD x && okD y && decide (dep x ≤ 64) && decide (dep y ≤ 64) then some (eqD x y) else none
def opEq (x y : D) (h : Hh) : Op D := match cmpD x y h with
  | some b => some (.bl b, h)
  | none => none
def opNe (x y : D) (h : Hh) : Op D := match cmpD x y h with
  | some b => some (.bl (!b), h)
  | none => none
section
variable {X : Cx} {K : PySem.W.Frag} {ρ : List Addr} {H : Hp} {h : Hh}
theorem cmp_dp {x y : D} {a b : V} {c : Bool} (R : HR K ρ H h) (r1 : RV K ρ H x a) (r2 : RV K ρ H y b) (e : cmpD x y h = some c) :
    ∃ d f, Dp K H a d ∧ Dp K H b f ∧ SeqAt.shaped d = true ∧ SeqAt.shaped f = true ∧ PyData.eqv d f = c := by
  have flat : (if okD x && okD y && decide (dep x ≤ 64) && decide (dep y ≤ 64) then some (eqD x y) else none) = some c → ∃ d f, Dp K H a d ∧ Dp K H b f ∧ SeqAt.shaped d = true ∧ SeqAt.shaped f = true ∧ PyData.eqv d f = c := fun e => by
    split at e
    · rename_i hc
      simp only [Bool.and_eq_true, decide_eq_true_eq] at hc
      obtain ⟨⟨⟨h1, h2⟩, h3⟩, h4⟩ := hc
      refine ⟨_, _, r1.dp h1, r2.dp h2, ?_, ?_, ?_⟩
      · unfold SeqAt.shaped; rw [lay_py x h1, dep_py]; simpa using h3
      · unfold SeqAt.shaped; rw [lay_py y h2, dep_py]; simpa using h4
      · rw [eqv_py x y h1 h2]; exact Option.some.inj e
    · cases e
  unfold cmpD at e
  split at e
  · rename_i l m
    split at e
    · rename_i xs ys h1 h2
      split at e
      · rename_i hc
        simp only [Bool.and_eq_true, decide_eq_true_eq] at hc
        obtain ⟨⟨⟨c1, c2⟩, c3⟩, c4⟩ := hc
        cases r1 with
        | ref e1 =>
        cases r2 with
        | ref e2 =>
        obtain ⟨as, q1, z1, t1⟩ := R.lst e1 h1
        obtain ⟨bs, q2, z2, t2⟩ := R.lst e2 h2
        refine ⟨.list (pyDs xs), .list (pyDs ys), .lst (.of q1) (t1.dp c1), .lst (.of q2) (t2.dp c2), ?_, ?_, ?_⟩
        · show (PyData.canLayAll0 (pyDs xs) && decide (PyData.depthAll (pyDs xs) + 1 ≤ 64)) = true
          rw [lays_py xs c1, deps_py]; simpa using c3
        · show (PyData.canLayAll0 (pyDs ys) && decide (PyData.depthAll (pyDs ys) + 1 ≤ 64)) = true
          rw [lays_py ys c2, deps_py]; simpa using c4
        · show PyData.eqvAll (pyDs xs) (pyDs ys) = c
          rw [eqvs_py xs ys c1 c2]; exact Option.some.inj e
      · cases e
    · cases e
  · exact flat e
theorem o_eq (hu : X.A.units + 64 < cLine) : OpS X (compareOp .Eq) opEq := fun pins s σ H x y v u Q I rx ry ⟨ρ, h, d, e, R, r1, r2, q⟩ => by
  unfold opEq at q
  split at q
  · rename_i c hc
    obtain ⟨d', f', p1, p2, p3, p4, p5⟩ := cmp_dp R r1 r2 hc
    exact op_eqD hu pins s σ H _ _ v u Q I rx ry ⟨_, _, p1, p2, p3, p4, by rw [p5]; exact q.same R (.bl _)⟩
  · exact q.elim
theorem o_ne (hu : X.A.units + 64 < cLine) : OpS X (compareOp .NotEq) opNe := fun pins s σ H x y v u Q I rx ry ⟨ρ, h, d, e, R, r1, r2, q⟩ => by
  unfold opNe at q
  split at q
  · rename_i c hc
    obtain ⟨d', f', p1, p2, p3, p4, p5⟩ := cmp_dp R r1 r2 hc
    exact op_neD hu pins s σ H _ _ v u Q I rx ry ⟨_, _, p1, p2, p3, p4, by rw [p5]; exact q.same R (.bl _)⟩
  · exact q.elim
def opIsN : D → D → Hh → Op D
  | .non, .non, h => some (.bl true, h)
  | _, .non, h => some (.bl false, h)
  | _, _, _ => none
def opNotN : D → D → Hh → Op D
  | .non, .non, h => some (.bl false, h)
  | _, .non, h => some (.bl true, h)
  | _, _, _ => none
theorem o_isN : OpS X (compareOp .Is) opIsN := fun pins s σ H x y v u Q I rx ry ⟨ρ, h, d, e, R, r1, r2, q⟩ => by
  cases r2 with
  | non =>
    refine op_isN pins s σ H _ _ v u Q I rx ry ⟨rfl, ?_⟩
    cases r1 <;> exact q.same R (.bl _)
  | _ => cases r1 <;> exact q.elim
theorem o_notN : OpS X (compareOp .IsNot) opNotN := fun pins s σ H x y v u Q I rx ry ⟨ρ, h, d, e, R, r1, r2, q⟩ => by
  cases r2 with
  | non =>
    refine op_notN pins s σ H _ _ v u Q I rx ry ⟨rfl, ?_⟩
    cases r1 <;> exact q.same R (.bl _)
  | _ => cases r1 <;> exact q.elim
end

/-! ### x in t -/
def flatD : D → Bool
  | .non => true
  | .bl _ => true
  | .int _ => true
  | .str _ => true
  | _ => false
def inD (x : D) (ys : List D) : Bool := ys.any fun y => eqD y x
def memD (x y : D) (h : Hh) : Option Bool := match y with
  | .tup ys => if flatD x && ys.all flatD then some (inD x ys) else none
  | .ref l => (match h[l]? with
    | some (.lst ys) => if flatD x && ys.all flatD then some (inD x ys) else if okD x && okDs ys && decide (dep x ≤ 64) && decide (deps ys ≤ 63) then some (inD x ys) else none
    | _ => none)
  | _ => none
def opIn (x y : D) (h : Hh) : Op D := match memD x y h with
  | some b => some (.bl b, h)
  | none => none
def opNotIn (x y : D) (h : Hh) : Op D := match memD x y h with
  | some b => some (.bl (!b), h)
  | none => none
section
variable {X : Cx} {K : PySem.W.Frag} {ρ : List Addr} {H : Hp} {h : Hh}
theorem flat_v {d : D} {v : V} (r : RV K ρ H d v) (f : flatD d = true) : flatV v = true := by
  cases r <;> first | rfl | cases f
theorem eqV_D {d e : D} {v u : V} (r : RV K ρ H d v) (r2 : RV K ρ H e u) (f : flatD d = true) (f2 : flatD e = true) : eqV v u = eqD d e := by
  cases r <;> cases r2 <;> first | rfl | cases f | cases f2
theorem flats_v : ∀ {ds : List D} {vs : List V}, RVs K ρ H ds vs → ds.all flatD = true → vs.all flatV = true
  | _, _, .nil, _ => rfl
  | _, _, .cons r s, f => by
    have a := Bool.and_eq_true_iff.mp f
    show (_ && _) = true
    rw [flat_v r a.1, flats_v s a.2]; rfl
theorem any_v {x : D} {v : V} (r : RV K ρ H x v) (f : flatD x = true) : ∀ {ds : List D} {vs : List V}, RVs K ρ H ds vs → ds.all flatD = true → inV v vs = inD x ds
  | _, _, .nil, _ => rfl
  | _, _, .cons r1 s, f1 => by
    have a := Bool.and_eq_true_iff.mp f1
    show (eqV _ v || inV v _) = (eqD _ x || inD x _)
    rw [eqV_D r1 r a.1 f, any_v r f s a.2]
theorem any_py {x : D} (hx : okD x = true) : ∀ {ds : List D}, okDs ds = true → ((pyDs ds).any fun z => PyData.eqv z (pyD x)) = inD x ds
  | [], _ => rfl
  | d :: ds, h => by
    have a := Bool.and_eq_true_iff.mp h
    show (PyData.eqv (pyD d) (pyD x) || (pyDs ds).any fun z => PyData.eqv z (pyD x)) = (eqD d x || inD x ds)
    rw [eqv_py d x a.1 hx, any_py hx a.2]
theorem mem_cases {x y : D} {a b : V} {c : Bool} (R : HR K ρ H h) (r1 : RV K ρ H x a) (r2 : RV K ρ H y b) (e : memD x y h = some c) :
    (∃ p xs, b = .ref p ∧ (SqL K H p xs ∨ SqT K H p xs) ∧ flatV a = true ∧ xs.all flatV = true ∧ inV a xs = c) ∨
    (∃ d ds, Dp K H a d ∧ Dp K H b (.list ds) ∧ SeqAt.shaped d = true ∧ SeqAt.shaped (.list ds) = true ∧ (ds.any fun z => PyData.eqv z d) = c) := by
  unfold memD at e
  split at e
  · rename_i ys
    split at e
    · rename_i hc
      obtain ⟨c1, c2⟩ := Bool.and_eq_true_iff.mp hc
      cases r2 with
      | tup s z t => exact .inl ⟨_, _, rfl, .inr (.of s), flat_v r1 c1, flats_v t c2, by rw [any_v r1 c1 t c2]; exact Option.some.inj e⟩
    · cases e
  · rename_i l
    split at e
    · rename_i ys hl
      cases r2 with
      | ref e2 =>
      obtain ⟨bs, q2, z2, t⟩ := R.lst e2 hl
      split at e
      · rename_i hc
        obtain ⟨c1, c2⟩ := Bool.and_eq_true_iff.mp hc
        exact .inl ⟨_, _, rfl, .inl (.of q2), flat_v r1 c1, flats_v t c2, by rw [any_v r1 c1 t c2]; exact Option.some.inj e⟩
      · split at e
        · rename_i hc
          simp only [Bool.and_eq_true, decide_eq_true_eq] at hc
          obtain ⟨⟨⟨c1, c2⟩, c3⟩, c4⟩ := hc
          refine .inr ⟨_, _, r1.dp c1, .lst (.of q2) (t.dp c2), ?_, ?_, by rw [any_py c1 c2]; exact Option.some.inj e⟩
          · unfold SeqAt.shaped; rw [lay_py x c1, dep_py]; simpa using c3
          · show (PyData.canLayAll0 (pyDs ys) && decide (PyData.depthAll (pyDs ys) + 1 ≤ 64)) = true
            rw [lays_py ys c2, deps_py]; simpa using c4
        · cases e
    · cases e
  · cases e
theorem o_in (hu : X.A.units + 65 < cLine) : OpS X (compareOp .In) opIn := fun pins s σ H x y v u Q I rx ry ⟨ρ, h, d, e, R, r1, r2, q⟩ => by
  unfold opIn at q
  split at q
  · rename_i c hc
    rcases mem_cases R r1 r2 hc with ⟨p, xs, rfl, p1, p2, p3, p4⟩ | ⟨d', ds, p1, p2, p3, p4, p5⟩
    · exact op_in_seq pins s σ H _ _ v u Q I rx ry ⟨_, _, rfl, p1, p2, p3, by rw [if_neg (by decide), p4]; exact q.same R (.bl _)⟩
    · exact op_inD hu pins s σ H _ _ v u Q I rx ry ⟨_, _, p1, p2, p3, p4, by rw [p5]; exact q.same R (.bl _)⟩
  · exact q.elim
theorem o_notIn (hu : X.A.units + 65 < cLine) : OpS X (compareOp .NotIn) opNotIn := fun pins s σ H x y v u Q I rx ry ⟨ρ, h, d, e, R, r1, r2, q⟩ => by
  unfold opNotIn at q
  split at q
  · rename_i c hc
    rcases mem_cases R r1 r2 hc with ⟨p, xs, rfl, p1, p2, p3, p4⟩ | ⟨d', ds, p1, p2, p3, p4, p5⟩
    · exact op_notIn_seq pins s σ H _ _ v u Q I rx ry ⟨_, _, rfl, p1, p2, p3, by rw [if_pos rfl, p4]; exact q.same R (.bl _)⟩
    · exact op_notInD hu pins s σ H _ _ v u Q I rx ry ⟨_, _, p1, p2, p3, p4, by rw [p5]; exact q.same R (.bl _)⟩
  · exact q.elim
end

/-! ### a[i], a[i:j] -/
def seqOf (x : D) (h : Hh) : Option (List D) := match x with
  | .tup xs => some xs
  | .kl xs => some xs
  | .ref l => (match h[l]? with
    | some (.lst xs) => some xs
    | some (.fro xs) => some xs
    | _ => none)
  | _ => none
def opIx (x y : D) (h : Hh) : Op D := match y with
  | .int i => (match seqOf x h with
    | some xs => (match atI xs i with
      | some d => some (d, h)
      | none => none)
    | none => none)
  | _ => none
section
variable {X : Cx} {W : WX} {a b : Expr} {da db : Ef} {pos : Pos} {K : PySem.W.Frag} {ρ : List Addr} {H : Hp} {h : Hh}
theorem seq_v {x : D} {v : V} {xs : List D} (R : HR K ρ H h) (r : RV K ρ H x v) (e : seqOf x h = some xs) : ∃ p ys, v = .ref p ∧ (SqL K H p ys ∨ H p = some (.tup ys)) ∧ ys.length ≤ sizeLine ∧ RVs K ρ H xs ys := by
  unfold seqOf at e
  cases r with
  | tup s z t => cases e; exact ⟨_, _, rfl, .inr s, z, t⟩
  | kl s z t => cases e; exact ⟨_, _, rfl, .inl (.inr s), z, t⟩
  | ref e1 =>
    dsimp only at e
    split at e
    · rename_i ys hl
      cases e
      obtain ⟨bs, q2, z2, t⟩ := R.lst e1 hl
      exact ⟨_, _, rfl, .inl (.of q2), z2, t⟩
    · rename_i ys hl
      cases e
      obtain ⟨bs, o, q2, z2, t⟩ := R.at_ _ _ _ hl e1
      exact ⟨_, _, rfl, .inl (.inl (.inr ⟨o, q2⟩)), z2, t⟩
    · cases e
  | _ => cases e
theorem atI_v {xs : List D} {ys : List V} {i : Int} {d : D} (r : RVs K ρ H xs ys) (e : atI xs i = some d) : ∃ v, atI ys i = some v ∧ RV K ρ H d v := by
  unfold atI at e ⊢
  rw [r.length]
  cases q : ixN xs.length i with
  | none => rw [q] at e; cases e
  | some j => rw [q] at e; exact r.get e
theorem x_ix : IxR X fun x y H Q => ∃ ρ h d e, HR X.K ρ H h ∧ RV X.K ρ H d x ∧ RV X.K ρ H e y ∧ OutP X.K ρ H (relV X.K) (opIx d e h) Q := by
  intro value slice pins s σ H x y v u Q I rx ry ⟨ρ, h, d, e, R, r1, r2, q⟩ hs
  cases r2 with
  | int i =>
    unfold opIx at q
    dsimp only at q
    split at q
    · rename_i xs hx
      split at q
      · rename_i z hz
        obtain ⟨p, ys, rfl, hp, zl, t⟩ := seq_v R r1 hx
        obtain ⟨w, hw, rw_⟩ := atI_v t hz
        have q' := q.same R rw_
        rcases hp with hp | hp
        · exact ix_list value slice pins s σ H _ _ v u Q I rx ry ⟨_, _, _, _, rfl, rfl, hp, hw, q'⟩ hs
        · exact ix_tup value slice pins s σ H _ _ v u Q I rx ry ⟨_, _, _, _, rfl, rfl, .of hp, hw, q'⟩ hs
      · exact q.elim
    · exact q.elim
  | _ => exact q.elim
theorem e_ix (ha : EE X W a da) (hb : EE X W b db) (hs : PlainIx b) : EE X W (.Subscript a b pos) (dBin opIx da db) := (pe_ix x_ix ha hb hs).imp fun σ H Q h => sim2 (f := binaryOp .Add) (fun _ _ _ _ z => z) h
/-! slices -/
def dPart (a : Ef) : En → M (Option Int) := fun env h => bnd (a env h) fun x h => match x with
  | .int i => some (.ok (some i), h)
  | _ => none
def dNo : En → M (Option Int) := fun _ h => some (.ok none, h)
def cutD (xs : List D) (lo hi : Option Int) : List D := (xs.drop (HT.sIx xs.length 0 lo)).take (HT.sIx xs.length xs.length hi - HT.sIx xs.length 0 lo)
def opSl (x : D) (lo hi : Option Int) (h : Hh) : Op D := match x with
  | .kl xs => some (.ref h.length, h ++ [.lst (cutD xs lo hi)])
  | .tup xs => some (.tup (cutD xs lo hi), h)
  | .ref l => (match h[l]? with
    | some (.lst xs) => some (.ref h.length, h ++ [.lst (cutD xs lo hi)])
    | some (.fro xs) => some (.ref h.length, h ++ [.lst (cutD xs lo hi)])
    | _ => none)
  | _ => none
def dSl (a : Ef) (lo hi : En → M (Option Int)) : Ef := fun env h => bnd (a env h) fun x h => bnd (lo env h) fun l h => bnd (hi env h) fun u h => lft (opSl x l u h)
def simO (K : PySem.W.Frag) (W : WX) (d : En → M (Option Int)) : TO := fun σ H Q => ∃ ρ env h, Rp K ρ env h σ H ∧ Out K ρ H (fun c a H' => W c a σ H') (fun _ _ (b c : Option Int) => c = b) (d env h) Q
theorem po_imp {o : Option Expr} {t t' : TO} (p : PO X o t) (f : ∀ σ H Q, t' σ H Q → t σ H Q) : PO X o t' := ⟨fun pins s σ H Q I q => p.run pins s σ H Q I (f _ _ _ q)⟩
theorem p_no : PO X none (simO X.K W dNo) := po_imp po_none fun σ H Q h => by
  obtain ⟨ρ, env, h, R, o⟩ := h
  exact o.ok R.heap rfl
theorem p_so (ha : EE X W a da) : PO X (some a) (simO X.K W (dPart da)) := po_imp (po_some ha) fun σ H Q h => by
  obtain ⟨ρ, env, h, R, o⟩ := h
  refine sim1 R o (fun _ _ _ z => z) fun ρ1 h1 x v H1 R1 r1 ex o1 => ?_
  cases r1 with
  | int i => exact ⟨i, rfl, o1.ok R1.heap rfl⟩
  | _ => exact o1.elim
theorem simO1 {γ δ : Type} {rel2 : List Addr → Hp → γ → δ → Prop} {K : PySem.W.Frag} {σ : L2.St} {H : Hp} {ρ : List Addr} {env : En} {h : Hh} {Wk : WK} {k : Option Int → M γ} {Q : δ → Hp → Prop} {d : En → M (Option Int)}
    (R : Rp K ρ env h σ H) (o : Out K ρ H Wk rel2 (bnd (d env h) k) Q) (hW : ∀ c a H', Wk c a H' → W c a σ H') {Q' : Option Int → Hp → Prop}
    (f : ∀ ρ1 h1 x H1, Rp K ρ1 env h1 σ H1 → Ex ρ H ρ1 H1 → Out K ρ1 H1 Wk rel2 (k x h1) Q → Q' x H1) : simO K W d σ H Q' := by
  refine ⟨ρ, env, h, R, ?_⟩
  have q := Out.mono (Out.bind (rel := fun _ _ (b c : Option Int) => c = b) o) fun v H1 ⟨ρ1, h1, x, ex, R1, r1, o1⟩ => by
    have r1' : v = x := r1
    subst r1'
    exact f ρ1 h1 v H1 (R.go ex R1) ex o1
  revert q
  generalize d env h = z
  intro q
  match z, q with
  | some (.ok d, h'), q => exact q
  | some (.exc c fs, h'), q => exact fun ρ' H' dx ys x r e n f => hW _ _ _ (q ρ' H' dx ys x r e n f)
theorem cut_v {xs : List D} {ys : List V} (r : RVs K ρ H xs ys) (lo hi : Option Int) : RVs K ρ H (cutD xs lo hi) (cutV ys lo hi) := by
  unfold cutD cutV
  rw [r.length]
  exact (r.drop _).take _
theorem cut_all (xs : List D) (lo hi : Option Int) (h : HT.sIx xs.length 0 lo = 0 ∧ HT.sIx xs.length xs.length hi = xs.length) : cutD xs lo hi = xs := by
  unfold cutD
  rw [h.1, h.2]
  simp
theorem x_sl : SlR X fun x lo hi H Q => ∃ ρ h d, HR X.K ρ H h ∧ RV X.K ρ H d x ∧ OutP X.K ρ H (relV X.K) (opSl d lo hi h) Q := by
  intro pins s σ H x v vl vu lo hi sl Q I rx hs pl pu ⟨ρ, h, d, R, r, q⟩
  cases r with
  | tup s1 z t =>
    refine sl_tupA pins s σ H _ v vl vu lo hi sl Q I rx hs pl pu ⟨_, _, rfl, .of s1, fun c => ?_, fun c p hp => q.tup R hp (Nat.le_trans (cutV_length _ _ _) z) (cut_v t lo hi)⟩
    unfold opSl at q
    dsimp only at q
    rw [t.length] at c
    rw [cut_all _ _ _ c] at q
    exact q.same R (.tup s1 z t)
  | kl s1 z t => exact sl_list pins s σ H _ v vl vu lo hi sl Q I rx hs pl pu ⟨_, _, rfl, .inr s1, fun p hp => OutP.new (u := O.lst (cutD _ lo hi)) q R hp ⟨_, upd_same, Nat.le_trans (cutV_length _ _ _) z, (cut_v t lo hi).mono (Ex.new hp) R⟩⟩
  | ref e1 =>
    unfold opSl at q
    dsimp only at q
    split at q
    · rename_i ys hl
      obtain ⟨bs, q2, z2, t⟩ := R.lst e1 hl
      exact sl_list pins s σ H _ v vl vu lo hi sl Q I rx hs pl pu ⟨_, _, rfl, .of q2, fun p hp => OutP.new (u := O.lst (cutD ys lo hi)) q R hp ⟨_, upd_same, Nat.le_trans (cutV_length _ _ _) z2, (cut_v t lo hi).mono (Ex.new hp) R⟩⟩
    · rename_i ys hl
      obtain ⟨bs, o, q2, z2, t⟩ := R.at_ _ _ _ hl e1
      exact sl_list pins s σ H _ v vl vu lo hi sl Q I rx hs pl pu ⟨_, _, rfl, .inl (.inr ⟨o, q2⟩), fun p hp => OutP.new (u := O.lst (cutD ys lo hi)) q R hp ⟨_, upd_same, Nat.le_trans (cutV_length _ _ _) z2, (cut_v t lo hi).mono (Ex.new hp) R⟩⟩
    · exact q.elim
  | _ => exact q.elim
theorem e_sl {lo hi : Option Expr} {dl dh : En → M (Option Int)} {p2 : Pos} (ha : EE X W a da) (hl : PO X lo (simO X.K W dl)) (hh : PO X hi (simO X.K W dh)) : EE X W (.Subscript a (.Slice lo hi none p2) pos) (dSl da dl dh) := (pe_slice x_sl ha hl hh).imp fun σ H Q h => by
  obtain ⟨ρ, env, h, R, o⟩ := h
  refine sim1 R o (fun _ _ _ z => z) fun ρ1 h1 x v H1 R1 r1 ex o1 => ?_
  refine simO1 R1 o1 (fun _ _ _ z => z) fun ρ2 h2 l H2 R2 ex2 o2 => ?_
  refine simO1 R2 o2 (fun _ _ _ z => z) fun ρ3 h3 u H3 R3 ex3 o3 => ?_
  exact ⟨ρ3, h3, x, R3.heap, (r1.mono ex2 R1.heap).mono ex3 R2.heap, o3.lft⟩
/-- xs[::-1] of a list -/
def opRev (x : D) (h : Hh) : Op D := match x with
  | .ref l => (match h[l]? with
    | some (.lst xs) => some (.ref h.length, h ++ [.lst xs.reverse])
    | _ => none)
  | _ => none
theorem e_rev {k : Nat} {p1 p2 p3 : Pos} (ha : EE X W a da) : EE X W (.Subscript a (.Slice none none (some (.UnaryOp .USub (.Constant (.int 1) k p1) p2)) p3) pos) (dUn opRev da) := (pe_revL ha).imp fun σ H Q h => by
  obtain ⟨ρ, env, h, R, o⟩ := h
  refine sim1 R o (fun _ _ _ z => z) fun ρ1 h1 x v H1 R1 r1 ex o1 => ?_
  have o2 := o1.lft
  cases r1 with
  | ref e1 =>
    unfold opRev at o2
    dsimp only at o2
    split at o2
    · rename_i ys hl
      obtain ⟨bs, q2, z2, t⟩ := R1.heap.lst e1 hl
      exact ⟨_, _, rfl, .of q2, fun p hp => OutP.new (u := O.lst ys.reverse) o2 R1.heap hp ⟨_, upd_same, by simpa using z2, t.rev.mono (Ex.new hp) R1.heap⟩⟩
    · exact o2.elim
  | _ => exact o2.elim
end
end S
set_option Elab.async false
set_option linter.all false
set_option autoImplicit false
set_option maxRecDepth 100000
set_option maxHeartbeats 1000000
namespace S
open PySem PySem.Spec PyProof.Rows L2

/-! ### calls of built-ins -/
def CallS (X : Cx) (f : Value) (op : List D → Hh → Op D) : Prop := CallR X f fun xs H Q => ∃ ρ h ds, HR X.K ρ H h ∧ RVs X.K ρ H ds xs ∧ OutP X.K ρ H (relV X.K) (op ds h) Q
section
variable {X : Cx} {W : WX} {a b e : Expr} {es : List Expr} {da db : Ef} {ds : Af} {pos p : Pos} {K : PySem.W.Frag} {ρ : List Addr} {H : Hp} {h : Hh} {x : Str} {id T : String} {op : List D → Hh → Op D}
theorem simCB {σ : L2.St} {Q : VK} (h : simE X.K W (dFun op ds) σ H Q) : tCB (fun xs H Q => ∃ ρ h ds, HR X.K ρ H h ∧ RVs X.K ρ H ds xs ∧ OutP X.K ρ H (relV X.K) (op ds h) Q) (simA X.K W ds) σ H Q := by
  obtain ⟨ρ, env, h, R, o⟩ := h
  exact simA1 R o (fun _ _ _ z => z) fun ρ1 h1 x v H1 R1 r1 ex o1 => ⟨ρ1, h1, x, R1.heap, r1, o1.lft⟩
theorem e_callB (hc : CallS X (.builtin id) op) (hg : Gl X x) (hm : X.mg x = none) (hv : bootBuiltins x = some (.builtin id)) (ha : AA X W (e :: es) ds) (hn : x ≠ "__name__" := by decide) (hdb : (x == ("__debug__" : Str)) = false := by decide)
    (he : starEach (e :: es) X.env = (false, eval e X.env) :: starEach es X.env := by rfl) (hpl : (backTo pos (starEach es X.env)).any (·.1) = false := by rfl) : EE X W (.Call (.Name x p) (e :: es) [] pos) (dFun op ds) :=
  (pe_callB hc hg hm hv ha hn hdb he hpl).imp fun σ H Q h => simCB h
theorem e_callTy (hc : CallS X (.type T) op) (hg : Gl X x) (hm : X.mg x = none) (hv : bootBuiltins x = some (.type T)) (ha : AA X W (e :: es) ds) (hn : x ≠ "__name__" := by decide) (hdb : (x == ("__debug__" : Str)) = false := by decide)
    (he : starEach (e :: es) X.env = (false, eval e X.env) :: starEach es X.env := by rfl) (hpl : (backTo pos (starEach es X.env)).any (·.1) = false := by rfl) : EE X W (.Call (.Name x p) (e :: es) [] pos) (dFun op ds) :=
  (pe_callTy hc hg hm hv ha hn hdb he hpl).imp fun σ H Q h => simCB h

def f1 (op : D → Hh → Op D) : List D → Hh → Op D
  | [x], h => op x h
  | _, _ => none
theorem f1_of {f : Value} {op : D → Hh → Op D} (c : ∀ (pins : List (Addr × Obj)) (s : Shared) (σ : L2.St) (H : Hp) (v : V) (u : Value) (Q : VK) (ρ : List Addr) (h : Hh) (d : D), L2.Inv X pins σ H s → L2.RelV v u → HR X.K ρ H h → RV X.K ρ H d v → OutP X.K ρ H (relV X.K) (op d h) Q →
    wpAny (model X.prog X.w) X.A (call f [u]) (EP X pins σ Q) X.xe s) : CallS X f (f1 op) := fun pins s σ H xs us Q I r ⟨ρ, h, ds, R, r1, q⟩ => by
  cases r1 with
  | nil => exact q.elim
  | cons r1 rs =>
    cases rs with
    | cons _ _ => exact q.elim
    | nil =>
      obtain ⟨u, rfl, ru⟩ := vals1 r
      exact c pins s σ H _ u Q ρ h _ I ru R r1 q
theorem Vals.one' {v : V} {u : Value} (r : L2.RelV v u) : L2.Vals [v] [u] := .cons r .nil
/-! len -/
def lenD (x : D) (h : Hh) : Option Nat := match x with
  | .tup xs => some xs.length
  | .kl xs => some xs.length
  | .ref l => (match h[l]? with
    | some (.lst xs) => some xs.length
    | some (.fro xs) => some xs.length
    | some (.dct _ kvs) => some kvs.length
    | _ => none)
  | _ => none
def opLen (x : D) (h : Hh) : Op D := match lenD x h with
  | some n => some (.int n, h)
  | none => none
theorem Paired.len {α β : Type} {P : α → β → Prop} : ∀ {xs : List α} {ys : List β}, Paired P xs ys → ys.length = xs.length
  | _, _, .nil => rfl
  | _, _, .cons _ s => by rw [List.length_cons, List.length_cons, Paired.len s]
theorem c_len : CallS X (.builtin "len") (f1 opLen) := f1_of fun pins s σ H v u Q ρ h d I ru R r q => by
  unfold opLen at q
  split at q
  · rename_i n hn
    cases r with
    | tup s1 z t =>
      cases hn
      exact call_len pins s σ H _ _ Q I (Vals.one' ru) ⟨_, _, rfl, .inr ⟨_, .of s1, rfl⟩, by rw [t.length]; exact q.same R (.int _)⟩
    | kl s1 z t =>
      cases hn
      exact call_len pins s σ H _ _ Q I (Vals.one' ru) ⟨_, _, rfl, .inl ⟨_, .inr s1, rfl⟩, by rw [t.length]; exact q.same R (.int _)⟩
    | ref e1 =>
      unfold lenD at hn
      dsimp only at hn
      split at hn
      · rename_i xs hl
        cases hn
        obtain ⟨bs, q2, z2, t⟩ := R.lst e1 hl
        exact call_len pins s σ H _ _ Q I (Vals.one' ru) ⟨_, _, rfl, .inl ⟨_, .of q2, rfl⟩, by rw [t.length]; exact q.same R (.int _)⟩
      · rename_i xs hl
        cases hn
        obtain ⟨bs, o, q2, z2, t⟩ := R.at_ _ _ _ hl e1
        exact call_len pins s σ H _ _ Q I (Vals.one' ru) ⟨_, _, rfl, .inl ⟨_, .inl (.inr ⟨o, q2⟩), rfl⟩, by rw [t.length]; exact q.same R (.int _)⟩
      · rename_i tt xs hl
        cases hn
        cases tt
        · obtain ⟨ks, q2, t⟩ := R.at_ _ _ _ hl e1
          exact call_lenD pins s σ H _ _ Q I (Vals.one' ru) ⟨_, _, rfl, q2, by rw [Paired.len t]; exact q.same R (.int _)⟩
        · obtain ⟨ks, q2, t⟩ := R.at_ _ _ _ hl e1
          exact call_len_dT pins s σ H _ _ Q I (Vals.one' ru) ⟨_, _, rfl, q2, by rw [Paired.len t]; exact q.same R (.int _)⟩
      · cases hn
    | _ => cases hn
  · exact q.elim
def opAbs (x : D) (h : Hh) : Op D := match x with
  | .int i => some (.int (if i < 0 then -i else i), h)
  | _ => none
theorem c_abs : CallS X (.builtin "abs") (f1 opAbs) := f1_of fun pins s σ H v u Q ρ h d I ru R r q => by
  cases r with
  | int i => exact call_abs pins s σ H _ _ Q I (Vals.one' ru) ⟨_, rfl, q.same R (.int _)⟩
  | _ => exact q.elim
def opInt (x : D) (h : Hh) : Op D := match x with
  | .int i => some (.int i, h)
  | .bl b => some (.int (if b then 1 else 0), h)
  | _ => none
theorem c_int : CallS X (.type "int") (f1 opInt) := f1_of fun pins s σ H v u Q ρ h d I ru R r q => by
  cases r with
  | int i => exact call_int1 pins s σ H _ _ Q I (Vals.one' ru) (.inl ⟨_, rfl, q.same R (.int _)⟩)
  | bl b => exact call_int1 pins s σ H _ _ Q I (Vals.one' ru) (.inr ⟨_, rfl, q.same R (.int _)⟩)
  | _ => exact q.elim
/-! tuple(xs), list(xs) -/
def opTuple (x : D) (h : Hh) : Op D := match seqOf x h with
  | some xs => some (.tup xs, h)
  | none => none
theorem c_tuple : CallS X (.type "tuple") (f1 opTuple) := f1_of fun pins s σ H v u Q ρ h d I ru R r q => by
  unfold opTuple at q
  split at q
  · rename_i xs hx
    obtain ⟨p, ys, rfl, hp, zl, t⟩ := seq_v R r hx
    rcases hp with hp | hp
    · exact call_tuple_of pins s σ H _ _ Q I (Vals.one' ru) ⟨_, _, rfl, .inl ⟨hp, fun l hl => q.tup R hl zl t⟩⟩
    · exact call_tuple_of pins s σ H _ _ Q I (Vals.one' ru) ⟨_, _, rfl, .inr ⟨.of hp, q.same R (.tup hp zl t)⟩⟩
  · exact q.elim
def opList (x : D) (h : Hh) : Op D := match seqOf x h with
  | some xs => some (.ref h.length, h ++ [.lst xs])
  | none => none
theorem c_list : CallS X (.type "list") (f1 opList) := f1_of fun pins s σ H v u Q ρ h d I ru R r q => by
  unfold opList at q
  split at q
  · rename_i xs hx
    obtain ⟨p, ys, rfl, hp, zl, t⟩ := seq_v R r hx
    exact call_list_of pins s σ H _ _ Q I (Vals.one' ru) ⟨_, _, rfl, hp.imp id .of, fun l hl => OutP.new (u := O.lst xs) q R hl ⟨_, upd_same, zl, t.mono (Ex.new hl) R⟩⟩
  · exact q.elim
/-! max, min of two; of a list -/
def opMax2 : List D → Hh → Op D
  | [.int i, .int j], h => some (.int (if j > i then j else i), h)
  | _, _ => none
def opMin2 : List D → Hh → Op D
  | [.int i, .int j], h => some (.int (if j < i then j else i), h)
  | _, _ => none
theorem two_of {f : Value} {g : Int → Int → Int} {op : List D → Hh → Op D} (ho : ∀ ds h r, op ds h = some r → ∃ i j, ds = [.int i, .int j] ∧ r = (.int (g i j), h)) (c : CallR X f fun xs H Q => ∃ i j, xs = [.int i, .int j] ∧ Q (.int (g i j)) H) : CallS X f op := fun pins s σ H xs us Q I r ⟨ρ, h, ds, R, r1, q⟩ => by
  cases e : op ds h with
  | none => rw [e] at q; exact q.elim
  | some z =>
    obtain ⟨i, j, rfl, rfl⟩ := ho _ _ _ e
    rw [e] at q
    cases r1 with
    | cons r1 rs =>
      cases rs with
      | cons r2 rs =>
        cases rs
        cases r1
        cases r2
        exact c pins s σ H _ us Q I r ⟨i, j, rfl, q.same R (.int _)⟩
theorem c_max2 (hc : X.calm = true) : CallS X (.builtin "max") opMax2 := two_of (g := fun i j => if j > i then j else i) (fun ds h r e => by
  unfold opMax2 at e
  split at e
  · cases e; exact ⟨_, _, rfl, rfl⟩
  · cases e) (call_max2 hc)
theorem c_min2 (hc : X.calm = true) : CallS X (.builtin "min") opMin2 := two_of (g := fun i j => if j < i then j else i) (fun ds h r e => by
  unfold opMin2 at e
  split at e
  · cases e; exact ⟨_, _, rfl, rfl⟩
  · cases e) (call_min2 hc)
def intsOf : List D → Option (List Int)
  | [] => some []
  | .int i :: r => (intsOf r).map (i :: ·)
  | _ => none
theorem ints_v : ∀ {ds : List D} {vs : List V} {ns : List Int}, RVs K ρ H ds vs → intsOf ds = some ns → vs = ns.map V.int
  | _, _, _, .nil, e => by cases e; rfl
  | _, _, _, .cons r s, e => by
    cases r with
    | int i =>
      unfold intsOf at e
      cases q : intsOf _ with
      | none => rw [q] at e; cases e
      | some ms => rw [q] at e; cases e; rw [ints_v s q]; rfl
    | _ => cases e
def maxI : List Int → Int
  | [] => 0
  | [x] => x
  | x :: y :: r => max x (maxI (y :: r))
theorem maxI_mem : ∀ {ns : List Int}, 0 < ns.length → maxI ns ∈ ns ∧ ∀ y ∈ ns, y ≤ maxI ns
  | [x], _ => by simp [maxI]
  | x :: y :: r, _ => by
    obtain ⟨h1, h2⟩ := maxI_mem (ns := y :: r) (by simp)
    unfold maxI
    refine ⟨?_, fun z hz => ?_⟩
    · by_cases c : x ≤ maxI (y :: r)
      · rw [Int.max_eq_right c]; exact List.mem_cons_of_mem _ h1
      · rw [Int.max_eq_left (by omega)]; exact List.mem_cons_self
    · rcases List.mem_cons.mp hz with rfl | hz
      · exact Int.le_max_left _ _
      · exact Int.le_trans (h2 z hz) (Int.le_max_right _ _)
def minI : List Int → Int
  | [] => 0
  | [x] => x
  | x :: y :: r => min x (minI (y :: r))
theorem minI_mem : ∀ {ns : List Int}, 0 < ns.length → minI ns ∈ ns ∧ ∀ y ∈ ns, minI ns ≤ y
  | [x], _ => by simp [minI]
  | x :: y :: r, _ => by
    obtain ⟨h1, h2⟩ := minI_mem (ns := y :: r) (by simp)
    unfold minI
    refine ⟨?_, fun z hz => ?_⟩
    · by_cases c : minI (y :: r) ≤ x
      · rw [Int.min_eq_right c]; exact List.mem_cons_of_mem _ h1
      · rw [Int.min_eq_left (by omega)]; exact List.mem_cons_self
    · rcases List.mem_cons.mp hz with rfl | hz
      · exact Int.min_le_left _ _
      · exact Int.le_trans (Int.min_le_right _ _) (h2 z hz)
def lstI (g : List Int → Option Int) (x : D) (h : Hh) : Op D := match x with
  | .ref l => (match h[l]? with
    | some (.lst xs) => (match intsOf xs with
      | some ns => (match g ns with
        | some i => some (.int i, h)
        | none => none)
      | none => none)
    | _ => none)
  | _ => none
abbrev opMaxL := lstI fun ns => if 0 < ns.length then some (maxI ns) else none
abbrev opMinL := lstI fun ns => if 0 < ns.length then some (minI ns) else none
abbrev opSumL := lstI fun ns => some ns.sum
theorem c_lstI {f : Value} {g : List Int → Option Int} (c : ∀ (pins : List (Addr × Obj)) (s : Shared) (σ : L2.St) (H : Hp) (a : Addr) (ns : List Int) (i : Int) (Q : VK), L2.Inv X pins σ H s → SqL X.K H a (ns.map V.int) → g ns = some i → Q (.int i) H →
    wpAny (model X.prog X.w) X.A (call f [.ref a]) (EP X pins σ Q) X.xe s) : CallS X f (f1 (lstI g)) := f1_of fun pins s σ H v u Q ρ h d I ru R r q => by
  unfold lstI at q
  split at q
  · split at q
    · rename_i l xs hl
      split at q
      · rename_i ns hn
        split at q
        · rename_i i hi
          cases r with
          | ref e1 =>
            obtain ⟨bs, q2, z2, t⟩ := R.lst e1 hl
            have e := ints_v t hn
            subst e
            cases ru
            exact c pins s σ H _ ns i Q I (.of q2) hi (q.same R (.int _))
        · exact q.elim
      · exact q.elim
    · exact q.elim
  · exact q.elim
theorem c_sumL (hc : X.calm = true) : CallS X (.builtin "sum") (f1 opSumL) := c_lstI fun pins s σ H a ns i Q I hs hi q => by
  cases hi
  exact cr_sum hc pins s σ H _ _ Q I (Vals.one' (v := .ref a) rfl) ⟨_, _, rfl, hs, q⟩
theorem c_maxL (hc : X.calm = true) : CallS X (.builtin "max") (f1 opMaxL) := c_lstI fun pins s σ H a ns i Q I hs hi q => by
  split at hi
  · rename_i hl
    cases hi
    obtain ⟨m1, m2⟩ := maxI_mem hl
    exact cr_max hc pins s σ H _ _ Q I (Vals.one' (v := .ref a) rfl) ⟨_, _, rfl, hs, hl, fun m h1 h2 => by
      have e : m = maxI ns := Int.le_antisymm (m2 m h1) (h2 _ m1)
      rw [e]; exact q⟩
  · cases hi
theorem c_minL (hc : X.calm = true) : CallS X (.builtin "min") (f1 opMinL) := c_lstI fun pins s σ H a ns i Q I hs hi q => by
  split at hi
  · rename_i hl
    cases hi
    obtain ⟨m1, m2⟩ := minI_mem hl
    exact cr_min hc pins s σ H _ _ Q I (Vals.one' (v := .ref a) rfl) ⟨_, _, rfl, hs, hl, fun m h1 h2 => by
      have e : m = minI ns := Int.le_antisymm (h2 _ m1) (m2 m h1)
      rw [e]; exact q⟩
  · cases hi
/-! isinstance(x, T), T built-in -/
def tyD (x : D) (h : Hh) : Option String := match x with
  | .non => some "NoneType"
  | .bl _ => some "bool"
  | .int _ => some "int"
  | .str _ => some "str"
  | .tup _ => some "tuple"
  | .ref l => (match h[l]? with
    | some (.lst _) => some "list"
    | some (.fro _) => some "list"
    | some (.dct _ _) => some "dict"
    | _ => none)
  | .kl _ => some "list"
  | .exn .. => none
def isiB (s T : String) : Bool := s == T || (s == "bool" && T == "int")
def opIsi (T : String) (x : D) (h : Hh) : Op D := match tyD x h with
  | some s => some (.bl (isiB s T), h)
  | none => none
theorem e_isi {T : String} {Tx : Str} {p2 p3 : Pos} (hg : Gl X "isinstance") (hm : X.mg "isinstance" = none) (hgT : Gl X Tx) (hmT : X.mg Tx = none) (hvT : bootBuiltins Tx = some (.type T))
    (hk : ∀ s ∈ ["NoneType", "bool", "int", "str", "tuple", "list", "dict"], kitB s T = some (isiB s T)) (ha : EE X W a da)
    (hn : Tx ≠ "__name__" := by decide) (hd : (Tx == ("__debug__" : Str)) = false := by decide)
    (he : starEach [a, .Name Tx p3] X.env = (false, eval a X.env) :: starEach [.Name Tx p3] X.env := by rfl) (hpl : (backTo pos (starEach [.Name Tx p3] X.env)).any (·.1) = false := by rfl) :
    EE X W (.Call (.Name "isinstance" p2) [a, .Name Tx p3] [] pos) (dUn (opIsi T) da) :=
  (pe_callB call_isi hg hm (by decide +kernel) (pa_cons ha (pa_cons (pe_bltn (v := .ty T) hgT hmT hvT rfl hn hd) pa_nil) he) (by decide) (by decide) he hpl).imp fun σ H Q h => by
    obtain ⟨ρ, env, h, R, o⟩ := h
    refine sim1 R o (fun _ _ _ z => z) fun ρ1 h1 x v H1 R1 r1 ex o1 => ?_
    have o2 := o1.lft
    unfold opIsi at o2
    split at o2
    · rename_i s hs
      have hmem : s ∈ ["NoneType", "bool", "int", "str", "tuple", "list", "dict"] := by
        unfold tyD at hs
        split at hs
        · cases hs; decide
        · cases hs; decide
        · cases hs; decide
        · cases hs; decide
        · cases hs; decide
        · split at hs
          · cases hs; decide
          · cases hs; decide
          · cases hs; decide
          · cases hs
        · cases hs; decide
        · cases hs
      have ty : TyX X.K H1 v (.type s) := by
        cases r1 with
        | non => cases hs; exact .base .non
        | bl b => cases hs; exact .base (.bl b)
        | int i => cases hs; exact .base (.int i)
        | str i => cases hs; exact .base (.str i)
        | tup s1 z t =>
          cases hs
          exact .base (.tup s1)
        | exn _ _ => cases hs
        | kl s1 z t =>
          cases hs
          obtain ⟨ob, its, n, k1, k2, _⟩ := s1
          exact .kList k1 k2
        | ref e1 =>
          unfold tyD at hs
          dsimp only at hs
          split at hs
          · rename_i xs hl
            cases hs
            obtain ⟨bs, q2, z2, t⟩ := R1.heap.lst e1 hl
            exact .base (.lst q2)
          · rename_i xs hl
            cases hs
            obtain ⟨bs, ob, q2, z2, t⟩ := R1.heap.at_ _ _ _ hl e1
            exact .base (.frz q2)
          · rename_i tt xs hl
            cases hs
            cases tt
            · obtain ⟨ks, q2, t⟩ := R1.heap.at_ _ _ _ hl e1
              exact .base (.dK q2)
            · obtain ⟨ks, q2, t⟩ := R1.heap.at_ _ _ _ hl e1
              exact .base (.dT q2)
          · cases hs
      exact ⟨v, .ty T, .type s, .type T, isiB s T, rfl, .ty T, ty, kit_ty (hk s hmem), o2.same R1.heap (.bl _)⟩
    · exact o2.elim

/-! ### methods of lists -/
def isL (x : D) (h : Hh) : Bool := match x with
  | .ref l => (match h[l]? with
    | some (.lst _) => true
    | _ => false)
  | _ => false
def dMet (op : D → List D → Hh → Op D) (a : Ef) (r : Af) : Ef := fun env h => bnd (a env h) fun x h => if isL x h then bnd (r env h) fun xs h => lft (op x xs h) else none
def MtS (X : Cx) (id : String) (op : D → List D → Hh → Op D) : Prop := MtR X id fun x xs H Q => ∃ ρ h d ds, HR X.K ρ H h ∧ RV X.K ρ H d x ∧ RVs X.K ρ H ds xs ∧ OutP X.K ρ H (relV X.K) (op d ds h) Q
theorem isL_ty {d : D} {v : V} (R : HR K ρ H h) (r : RV K ρ H d v) (hl : isL d h = true) : tyV K "list" v H := by
  unfold isL at hl
  cases r with
  | ref e1 =>
    dsimp only at hl
    split at hl
    · rename_i xs e2
      obtain ⟨bs, q2, z2, t⟩ := R.lst e1 e2
      exact .inl ⟨rfl, _, .of q2⟩
    · cases hl
  | _ => cases hl
variable {o : Expr} {name : Str} {apos cpos : Pos} {opM : D → List D → Hh → Op D}
theorem e_met0 (pa : PlainAttrs "list") (slot : Slot "list" name id) (hty : typeOf (.builtin id) = pure (.type "method_descriptor")) (hm : MtS X id opM) (ho : EE X W o da)
    (hbase : attributeBase o name X.env (eval o X.env) = eval o X.env := by rfl) (hline : (apos.endLine == cpos.line) = true := by rfl) : EE X W (.Call (.Attribute o name apos) [] [] cpos) (dMet opM da dNil) :=
  (pe_bm0 pa slot hty hm ho hbase hline).imp fun σ H Q h => by
    obtain ⟨ρ, env, h, R, o⟩ := h
    refine sim1 R o (fun _ _ _ z => z) fun ρ1 h1 x v H1 R1 r1 ex o1 => ?_
    split at o1
    · rename_i hl
      exact ⟨isL_ty R1.heap r1 hl, ρ1, h1, x, [], R1.heap, r1, .nil, o1.lft⟩
    · exact o1.elim
theorem e_met (pa : PlainAttrs "list") (slot : Slot "list" name id) (hty : typeOf (.builtin id) = pure (.type "method_descriptor")) (hm : MtS X id opM) (ho : EE X W o da) (ha : AA X W (e :: es) ds)
    (hbase : attributeBase o name X.env (eval o X.env) = eval o X.env := by rfl)
    (hfew : ((backTo cpos (starEach (e :: es) X.env)).all (fun x => !x.1) && (backToKw cpos (keywordEach [] X.env)).all (fun x => x.1.isSome)
      && decide ((e :: es).length + ([] : List Keyword).length + (if ([] : List Keyword).isEmpty then 0 else 1) < 30)) = true := by rfl)
    (hline : (apos.endLine == cpos.line) = true := by rfl) (hs : starEach (e :: es) X.env = (false, eval e X.env) :: starEach es X.env := by rfl) (hplain : (backTo cpos (starEach es X.env)).any (·.1) = false := by rfl) :
    EE X W (.Call (.Attribute o name apos) (e :: es) [] cpos) (dMet opM da ds) :=
  (pe_bm pa slot hty hm ho ha hbase hfew hline hs hplain).imp fun σ H Q h => by
    obtain ⟨ρ, env, h, R, o⟩ := h
    refine sim1 R o (fun _ _ _ z => z) fun ρ1 h1 x v H1 R1 r1 ex o1 => ?_
    split at o1
    · rename_i hl
      refine ⟨isL_ty R1.heap r1 hl, simA1 R1 o1 (fun _ _ _ z => z) fun ρ2 h2 xs vs H2 R2 r2 ex2 o2 => ?_⟩
      exact ⟨ρ2, h2, x, xs, R2.heap, r1.mono ex2 R1.heap, r2, o2.lft⟩
    · exact o1.elim
def lstAt (x : D) (h : Hh) : Option (Nat × List D) := match x with
  | .ref l => (match h[l]? with
    | some (.lst xs) => some (l, xs)
    | _ => none)
  | _ => none
theorem lstAt_v {d : D} {v : V} {l : Nat} {xs : List D} (R : HR K ρ H h) (r : RV K ρ H d v) (e : lstAt d h = some (l, xs)) : d = .ref l ∧ h[l]? = some (.lst xs) ∧ ∃ a ys, ρ[l]? = some a ∧ v = .ref a ∧ H a = some (.lst ys) ∧ ys.length ≤ sizeLine ∧ RVs K ρ H xs ys := by
  unfold lstAt at e
  cases r with
  | ref e1 =>
    dsimp only at e
    split at e
    · rename_i zs e2
      cases e
      obtain ⟨bs, q2, z2, t⟩ := R.lst e1 e2
      exact ⟨rfl, e2, _, bs, e1, rfl, q2, z2, t⟩
    · cases e
  | _ => cases e
def mAppend (x : D) (ys : List D) (h : Hh) : Op D := match lstAt x h, ys with
  | some (l, xs), [y] => if xs.length < sizeLine then some (.non, h.set l (.lst (xs ++ [y]))) else none
  | _, _ => none
theorem m_append : MtS X "list.append" mAppend := fun pins s σ H x xs v us Q I rx rs ⟨ρ, h, d, ds, R, r1, r2, q⟩ => by
  unfold mAppend at q
  split at q
  · rename_i l zs y e
    obtain ⟨rfl, hl, a, ys, e1, rfl, q2, z2, t⟩ := lstAt_v R r1 e
    split at q
    · rename_i hz
      cases r2 with
      | cons ry rn =>
        cases rn
        rename_i w _
        have hz' : ys.length < sizeLine := by rw [t.length]; exact hz
        refine mt_append pins s σ H _ _ v us Q I rx rs ⟨_, ys, _, rfl, rfl, q2, hz', ?_⟩
        have m := Ex.put (H := H) (o := .lst (ys ++ [w])) (List.mem_of_getElem? e1) (by rw [q2]; trivial)
        exact OutP.put (u := O.lst (zs ++ [y])) (d := D.non) q R e1 (by rw [q2]; trivial) ⟨_, upd_same, by rw [List.length_append]; exact hz', (t.app (.cons ry .nil)).mono m R⟩ .non
    · exact q.elim
  · exact q.elim
def mExtend (x : D) (ys : List D) (h : Hh) : Op D := match lstAt x h, ys with
  | some (l, xs), [y] => (match lstAt y h with
    | some (_, zs) => if xs.length + zs.length ≤ sizeLine then some (.non, h.set l (.lst (xs ++ zs))) else none
    | none => none)
  | _, _ => none
theorem m_extend : MtS X "list.extend" mExtend := fun pins s σ H x xs v us Q I rx rs ⟨ρ, h, d, ds, R, r1, r2, q⟩ => by
  unfold mExtend at q
  split at q
  · rename_i l zs y e
    obtain ⟨rfl, hl, a, ys, e1, rfl, q2, z2, t⟩ := lstAt_v R r1 e
    split at q
    · rename_i l2 ws e2
      split at q
      · rename_i hz
        cases r2 with
        | cons ry rn =>
          cases rn
          obtain ⟨rfl, hl2, a2, ys2, e12, rfl, q22, z22, t2⟩ := lstAt_v R ry e2
          have hz' : ys.length + ys2.length ≤ sizeLine := by rw [t.length, t2.length]; exact hz
          refine mt_extend pins s σ H _ _ v us Q I rx rs ⟨_, _, ys, ys2, rfl, rfl, q2, q22, hz', ?_⟩
          have m := Ex.put (H := H) (o := .lst (ys ++ ys2)) (List.mem_of_getElem? e1) (by rw [q2]; trivial)
          exact OutP.put (u := O.lst (zs ++ ws)) (d := D.non) q R e1 (by rw [q2]; trivial) ⟨_, upd_same, by rw [List.length_append]; exact hz', (t.app t2).mono m R⟩ .non
      · exact q.elim
    · exact q.elim
  · exact q.elim
def mPop (x : D) (ys : List D) (h : Hh) : Op D := match lstAt x h, ys with
  | some (l, xs), [] => (match xs[xs.length - 1]? with
    | some y => some (y, h.set l (.lst xs.dropLast))
    | none => none)
  | some (l, xs), [.int i] => if 0 ≤ i ∧ i < xs.length ∧ i < 2 ^ 63 then (match xs[i.toNat]? with
    | some y => some (y, h.set l (.lst (xs.eraseIdx i.toNat)))
    | none => none) else none
  | _, _ => none
theorem RVs.dropLast : ∀ {ds : List D} {vs : List V}, RVs K ρ H ds vs → RVs K ρ H ds.dropLast vs.dropLast
  | _, _, .nil => .nil
  | _, _, .cons r .nil => .nil
  | _, _, .cons r (.cons r2 s) => .cons r (RVs.dropLast (.cons r2 s))
theorem m_pop : MtS X "list.pop" mPop := fun pins s σ H x xs v us Q I rx rs ⟨ρ, h, d, ds, R, r1, r2, q⟩ => by
  unfold mPop at q
  split at q
  · rename_i l zs e
    obtain ⟨rfl, hl, a, ys, e1, rfl, q2, z2, t⟩ := lstAt_v R r1 e
    split at q
    · rename_i y hy
      cases r2
      obtain ⟨w, hw, rw_⟩ := t.get hy
      have m := Ex.put (H := H) (o := .lst ys.dropLast) (List.mem_of_getElem? e1) (by rw [q2]; trivial)
      exact mt_pop pins s σ H _ _ v us Q I rx rs ⟨_, ys, w, rfl, rfl, q2, by rw [t.length]; exact hw, OutP.put (u := O.lst zs.dropLast) (d := y) (v := w) (rel := relV X.K) q R e1 (by rw [q2]; trivial) ⟨_, upd_same, Nat.le_trans (by simp) z2, (RVs.dropLast t).mono m R⟩ (rw_.mono m R)⟩
    · exact q.elim
  · rename_i l zs i e
    obtain ⟨rfl, hl, a, ys, e1, rfl, q2, z2, t⟩ := lstAt_v R r1 e
    split at q
    · rename_i hi
      split at q
      · rename_i y hy
        cases r2 with
        | cons ri rn =>
          cases rn
          cases ri
          obtain ⟨w, hw, rw_⟩ := t.get hy
          have m := Ex.put (H := H) (o := .lst (ys.eraseIdx i.toNat)) (List.mem_of_getElem? e1) (by rw [q2]; trivial)
          refine mt_popAt pins s σ H _ _ v us Q I rx rs ⟨_, ys, i, i.toNat, w, rfl, rfl, q2, by omega, hi.2.2, ?_, hw, OutP.put (u := O.lst (zs.eraseIdx i.toNat)) (d := y) (v := w) (rel := relV X.K) q R e1 (by rw [q2]; trivial) ⟨_, upd_same, Nat.le_trans (len_erase _ _) z2, (RVs.erase _ t).mono m R⟩ (rw_.mono m R)⟩
          unfold seqIndex?
          rw [t.length]
          have h0 : ¬ i < 0 := by omega
          simp only [if_neg h0, show decide (0 ≤ i) = true from by simpa using hi.1, show decide (i < (zs.length : Int)) = true from by simpa using hi.2.1, Bool.and_self, if_true]
      · exact q.elim
    · exact q.elim
  · exact q.elim
end
end S
set_option Elab.async false
set_option linter.all false
set_option autoImplicit false
set_option maxRecDepth 100000
set_option maxHeartbeats 1000000
namespace S
open PySem PySem.Spec PyProof.Rows L2

/-! ### statements -/
inductive Fl where
  | nx | bk | ct
  | rt (d : D)
  | exc (c : Str) (fs : List (Str × D))
abbrev Os := Option (Fl × En × Hh)
abbrev Sf := En → Hh → Os
def OutS (K : PySem.W.Frag) (ρ : List Addr) (H : Hp) (W : WX) (r : Os) (D : Ends) : Prop := match r with
  | some (.nx, e', h') => ∀ ρ' H' σ', Ex ρ H ρ' H' → Rp K ρ' e' h' σ' H' → D.nx σ' H'
  | some (.bk, e', h') => ∀ ρ' H' σ', Ex ρ H ρ' H' → Rp K ρ' e' h' σ' H' → D.bk σ' H'
  | some (.ct, e', h') => ∀ ρ' H' σ', Ex ρ H ρ' H' → Rp K ρ' e' h' σ' H' → D.ct σ' H'
  | some (.rt d, e', h') => ∀ ρ' H' v, Ex ρ H ρ' H' → HR K ρ' H' h' → RV K ρ' H' d v → D.rt v H'
  | some (.exc c fs, e', h') => ∀ ρ' H' σ' dx ys, Ex ρ H ρ' H' → Rp K ρ' e' h' σ' H' → H' dx = some (.xd ys) → dx ∉ ρ' → RFs K ρ' H' fs ys → W (.ref (He.ga K c)) (some dx) σ' H'
  | none => False
def simS (K : PySem.W.Frag) (W : WX) (d : Sf) : TS := fun D σ H => ∃ ρ env h, Rp K ρ env h σ H ∧ OutS K ρ H W (d env h) D
abbrev SS (X : Cx) (W : WX) (st : Stmt) (d : Sf) : Prop := PS X st (simS X.K W d)
abbrev SB (X : Cx) (W : WX) (st : List Stmt) (d : Sf) : Prop := PSs X st (simS X.K W d)

def bndS {α : Type} (x : Ot α) (env : En) (k : α → Hh → Os) : Os := match x with
  | some (.ok a, h) => k a h
  | some (.exc c fs, h) => some (.exc c fs, env, h)
  | none => none
@[simp] theorem bndS_ok {α : Type} (a : α) (h : Hh) (env : En) (k : α → Hh → Os) : bndS (some (.ok a, h)) env k = k a h := rfl
@[simp] theorem bndS_exc {α : Type} (c : Str) (fs : List (Str × D)) (h : Hh) (env : En) (k : α → Hh → Os) : bndS (some (.exc c fs, h)) env k = some (.exc c fs, env, h) := rfl
@[simp] theorem bndS_none {α : Type} (env : En) (k : α → Hh → Os) : bndS (none : Ot α) env k = none := rfl

def sSkip : Sf := fun env h => some (.nx, env, h)
def sSeq (a b : Sf) : Sf := fun env h => match a env h with
  | some (.nx, env, h) => b env h
  | r => r
def sIf (t : Tf) (a b : Sf) : Sf := fun env h => bndS (t env h) env fun c h => if c then a env h else b env h
def sRet (e : Ef) : Sf := fun env h => bndS (e env h) env fun d h => some (.rt d, env, h)
def sRetN : Sf := fun env h => some (.rt .non, env, h)
def sEx (e : Ef) : Sf := fun env h => bndS (e env h) env fun _ h => some (.nx, env, h)
def sBreak : Sf := fun env h => some (.bk, env, h)
def sCont : Sf := fun env h => some (.ct, env, h)
def sSet (i : Nat) (e : Ef) : Sf := fun env h => bndS (e env h) env fun d h => some (.nx, env.set i (some d), h)
def sAug (i : Nat) (op : D → D → Hh → Op D) (e : Ef) : Sf := fun env h => match getv env i with
  | some x => bndS (e env h) env fun y h => match op x y h with
    | some (z, h) => some (.nx, env.set i (some z), h)
    | none => none
  | none => none
def sNo : Sf := fun _ _ => none

/-! ### targets -/
abbrev Gf := D → En → Hh → Option (En × Hh)
abbrev Gfs := List D → En → Hh → Option (En × Hh)
def gNm (i : Nat) : Gf := fun d env h => some (env.set i (some d), h)
def gsNil : Gfs := fun ds env h => match ds with
  | [] => some (env, h)
  | _ => none
def gsCons (g : Gf) (r : Gfs) : Gfs := fun ds env h => match ds with
  | d :: ds => (match g d env h with
    | some (env, h) => r ds env h
    | none => none)
  | [] => none
def gTp (g : Gfs) : Gf := fun d env h => match d with
  | .tup ds => g ds env h
  | _ => none
def gSet (op : D → D → D → Hh → Option Hh) (o i : Ef) : Gf := fun d env h => match o env h with
  | some (.ok x, h) => (match i env h with
    | some (.ok y, h) => (match op x y d h with
      | some h => some (env, h)
      | none => none)
    | _ => none)
  | _ => none
def sAs (g : Gf) (e : Ef) : Sf := fun env h => bndS (e env h) env fun d h => match g d env h with
  | some (env, h) => some (.nx, env, h)
  | none => none

def OutG (K : PySem.W.Frag) (ρ : List Addr) (H : Hp) (r : Option (En × Hh)) (Q : L2.St → Hp → Prop) : Prop := match r with
  | some (e', h') => ∀ ρ' H' σ', Ex ρ H ρ' H' → Rp K ρ' e' h' σ' H' → Q σ' H'
  | none => False
def simG (K : PySem.W.Frag) (g : Gf) : TG := fun v σ H Q => ∃ ρ env h d, Rp K ρ env h σ H ∧ RV K ρ H d v ∧ OutG K ρ H (g d env h) Q
def simGs (K : PySem.W.Frag) (g : Gfs) : TGs := fun vs σ H Q => ∃ ρ env h ds, Rp K ρ env h σ H ∧ RVs K ρ H ds vs ∧ OutG K ρ H (g ds env h) Q
theorem _root_.L2.PG.imp {X : Cx} {e : Expr} {t t' : TG} (p : PG X e t) (f : ∀ v σ H Q, t' v σ H Q → t v σ H Q) : PG X e t' := ⟨fun pins s σ H v u Q I r q => p.run pins s σ H v u Q I r (f _ _ _ _ q)⟩
theorem _root_.L2.PGs.imp {X : Cx} {e : List Expr} {t t' : TGs} (p : PGs X e t) (f : ∀ v σ H Q, t' v σ H Q → t v σ H Q) : PGs X e t' := ⟨fun pins s σ H v u Q I r q => p.run pins s σ H v u Q I r (f _ _ _ _ q)⟩

section
variable {K : PySem.W.Frag} {ρ ρ1 : List Addr} {H H1 : Hp} {h : Hh} {env : En} {σ : L2.St} {W : WX}
theorem OutS.from (x : Ex ρ H ρ1 H1) {r : Os} {D : Ends} (o : OutS K ρ H W r D) : OutS K ρ1 H1 W r D := by
  match r, o with
  | some (.nx, e', h'), o => exact fun ρ' H' σ' y => o ρ' H' σ' (x.trans y)
  | some (.bk, e', h'), o => exact fun ρ' H' σ' y => o ρ' H' σ' (x.trans y)
  | some (.ct, e', h'), o => exact fun ρ' H' σ' y => o ρ' H' σ' (x.trans y)
  | some (.rt d, e', h'), o => exact fun ρ' H' v y => o ρ' H' v (x.trans y)
  | some (.exc c fs, e', h'), o => exact fun ρ' H' σ' dx ys y => o ρ' H' σ' dx ys (x.trans y)
theorem OutG.from (x : Ex ρ H ρ1 H1) {r : Option (En × Hh)} {Q : L2.St → Hp → Prop} (o : OutG K ρ H r Q) : OutG K ρ1 H1 r Q := by
  match r, o with
  | some (e', h'), o => exact fun ρ' H' σ' y => o ρ' H' σ' (x.trans y)
theorem OutS.nx {D : Ends} (o : OutS K ρ H W (some (.nx, env, h)) D) (R : Rp K ρ env h σ H) : D.nx σ H := o ρ H σ Ex.refl R
theorem OutG.nx {Q : L2.St → Hp → Prop} (o : OutG K ρ H (some (env, h)) Q) (R : Rp K ρ env h σ H) : Q σ H := o ρ H σ Ex.refl R
/-- an expression ahead -/
theorem simS1 {d : Ef} {k : D → Hh → Os} {Q' : VK} {D : Ends} (R : Rp K ρ env h σ H) (o : OutS K ρ H W (bndS (d env h) env k) D)
    (f : ∀ ρ1 h1 x v H1, Rp K ρ1 env h1 σ H1 → RV K ρ1 H1 x v → Ex ρ H ρ1 H1 → OutS K ρ1 H1 W (k x h1) D → Q' v H1) : simE K W d σ H Q' := by
  refine ⟨ρ, env, h, R, ?_⟩
  revert o
  generalize d env h = z
  intro o
  match z, o with
  | some (.ok d, h'), o => exact fun ρ' H' v x R' r => f ρ' h' d v H' (R.go x R') r x (OutS.from x o)
  | some (.exc c fs, h'), o => exact fun ρ' H' dx ys x R' e n q => o ρ' H' σ dx ys x (R.go x R') e n q
theorem simST {d : Tf} {k : Bool → Hh → Os} {Q' : Bool → Hp → Prop} {D : Ends} (R : Rp K ρ env h σ H) (o : OutS K ρ H W (bndS (d env h) env k) D)
    (f : ∀ ρ1 h1 x H1, Rp K ρ1 env h1 σ H1 → Ex ρ H ρ1 H1 → OutS K ρ1 H1 W (k x h1) D → Q' x H1) : simT K W d σ H Q' := by
  refine ⟨ρ, env, h, R, ?_⟩
  revert o
  generalize d env h = z
  intro o
  match z, o with
  | some (.ok d, h'), o =>
    exact fun ρ' H' v x R' r => by
      have r' : v = d := r
      subst r'
      exact f ρ' h' v H' (R.go x R') x (OutS.from x o)
  | some (.exc c fs, h'), o => exact fun ρ' H' dx ys x R' e n q => o ρ' H' σ dx ys x (R.go x R') e n q
end

section
variable {X : Cx} {W : WX} {st : Stmt} {rest sa sb : List Stmt} {e c : Expr} {es : List Expr} {d d1 d2 : Sf} {de : Ef} {t : Tf} {g : Gf} {gs : Gfs} {pos : Pos}
theorem s_nil : SB X W [] sSkip := pss_nil.imp fun D σ H ⟨ρ, env, h, R, o⟩ => o.nx R
theorem s_cons (h1 : SS X W st d1) (h2 : SB X W rest d2) : SB X W (st :: rest) (sSeq d1 d2) := (pss_cons h1 h2).imp fun D σ H ⟨ρ, env, h, R, o⟩ => by
  refine ⟨ρ, env, h, R, ?_⟩
  unfold sSeq at o
  revert o
  generalize d1 env h = z
  intro o
  match z, o with
  | some (.nx, e', h'), o => exact fun ρ' H' σ' x R' => ⟨ρ', e', h', R', OutS.from x o⟩
  | some (.bk, e', h'), o => exact o
  | some (.ct, e', h'), o => exact o
  | some (.rt d, e', h'), o => exact o
  | some (.exc c fs, e', h'), o => exact o
theorem s_one (h1 : SS X W st d) : SB X W [st] d := pss_one h1
theorem s_pass : SS X W (.Pass pos) sSkip := ps_pass.imp fun D σ H ⟨ρ, env, h, R, o⟩ => o.nx R
theorem s_break : SS X W (.Break pos) sBreak := ps_break.imp fun D σ H ⟨ρ, env, h, R, o⟩ => o ρ H σ Ex.refl R
theorem s_cont : SS X W (.Continue pos) sCont := ps_continue.imp fun D σ H ⟨ρ, env, h, R, o⟩ => o ρ H σ Ex.refl R
theorem s_doc {x j pos pos'} : SS X W (.Expr (.Constant (.str x) j pos) pos') sSkip := ps_doc.imp fun D σ H ⟨ρ, env, h, R, o⟩ => o.nx R
theorem s_expr (he : EE X W e de) (hs : swapsWith e none pos.line X.env = pure false := by rfl) : SS X W (.Expr e pos) (sEx de) := (ps_expr he hs).imp fun D σ H ⟨ρ, env, h, R, o⟩ =>
  simS1 R o fun ρ1 h1 x v H1 R1 r1 ex o1 => o1.nx R1
theorem s_ret (he : EE X W e de) : SS X W (.Return (some e) pos) (sRet de) := (ps_ret he).imp fun D σ H ⟨ρ, env, h, R, o⟩ =>
  simS1 R o fun ρ1 h1 x v H1 R1 r1 ex o1 => o1 ρ1 H1 v Ex.refl R1.heap r1
theorem s_retN : SS X W (.Return none pos) sRetN := ps_retN.imp fun D σ H ⟨ρ, env, h, R, o⟩ => o ρ H .non Ex.refl R.heap .non
theorem s_if (hc : TT_ X W c t) (ha : SB X W sa d1) (hb : SB X W sb d2) : SS X W (.If c sa sb pos) (sIf t d1 d2) := (ps_if hc ha hb).imp fun D σ H ⟨ρ, env, h, R, o⟩ =>
  simST R o fun ρ1 h1 x H1 R1 ex o1 => by
    cases x with
    | true => exact iteT ⟨ρ1, env, h1, R1, o1⟩
    | false => exact iteF ⟨ρ1, env, h1, R1, o1⟩
theorem s_never : SS X W st sNo := ps_never.imp fun D σ H ⟨ρ, env, h, R, o⟩ => o.elim
theorem s_set {i : Nat} {x : Str} {pos' : Pos} (hN : X.N.Nodup) (hi : X.N[i]? = some x) (hx : Loc X.env.scope x) (he : EE X W e de) (hs : swapsWith e (some (.Name x pos')) pos.line X.env = pure false := by rfl) (hf : X.fn x = true ∨ X.env.scope.names.lookup x = some .local := by first | exact .inl rfl | exact .inr rfl | assumption) :
    SS X W (.Assign [.Name x pos'] e pos) (sSet i de) := (ps_set hN hi hx he hs hf).imp fun D σ H ⟨ρ, env, h, R, o⟩ =>
  simS1 R o fun ρ1 h1 y v H1 R1 r1 ex o1 => o1.nx (R1.set r1 i)
theorem s_aug {i : Nat} {x : Str} {o : Operator} {op : D → D → Hh → Op D} {pos' : Pos} (hN : X.N.Nodup) (hi : X.N[i]? = some x) (hx : Loc X.env.scope x) (he : EE X W e de) (ho : OpS X (inplaceOp o) op) (hf : X.fn x = true ∨ X.env.scope.names.lookup x = some .local := by first | exact .inl rfl | exact .inr rfl | assumption) :
    SS X W (.AugAssign (.Name x pos') o e pos) (sAug i op de) := (ps_aug hN hi hx he ho hf).imp fun D σ H ⟨ρ, env, h, R, o⟩ => by
  unfold sAug at o
  split at o
  · rename_i a ha
    obtain ⟨v, e1, r⟩ := R.slot i a (getv_at ha)
    refine ⟨v, e1, simS1 R o fun ρ1 h1 y w H1 R1 r1 ex o1 => ?_⟩
    refine ⟨ρ1, h1, a, y, R1.heap, r.mono ex R.heap, r1, ?_⟩
    cases q : op a y h1 with
    | none => rw [q] at o1; exact o1
    | some z =>
      rw [q] at o1
      exact fun ρ2 H2 z' ex2 R2 r2 => o1 ρ2 H2 _ ex2 ((R1.go ex2 R2).set r2 i)
  · exact o.elim
theorem ip_addS : OpS X (inplaceOp .Add) (opI fun i j => i + j) := fun pins s σ H x y v u Q I rx ry ⟨ρ, h, d, e, R, r1, r2, q⟩ => by
  cases r1 <;> first | exact q.elim | skip
  cases r2 <;> first | exact q.elim | skip
  exact ip_add pins s σ H _ _ v u Q I rx ry ⟨_, _, rfl, rfl, q.same R (.int _)⟩
theorem ip_subS : OpS X (inplaceOp .Sub) (opI fun i j => i - j) := fun pins s σ H x y v u Q I rx ry ⟨ρ, h, d, e, R, r1, r2, q⟩ => by
  cases r1 <;> first | exact q.elim | skip
  cases r2 <;> first | exact q.elim | skip
  exact ip_sub pins s σ H _ _ v u Q I rx ry ⟨_, _, rfl, rfl, q.same R (.int _)⟩

/-! targets -/
theorem g_name {i : Nat} {x : Str} (hN : X.N.Nodup) (hi : X.N[i]? = some x) (hx : Loc X.env.scope x) (hf : X.fn x = true ∨ X.env.scope.names.lookup x = some .local := by first | exact .inl rfl | exact .inr rfl | assumption) : PG X (.Name x pos) (simG X.K (gNm i)) :=
  (pg_name hN hi hx hf).imp fun v σ H Q ⟨ρ, env, h, d, R, r, o⟩ => o.nx (R.set r i)
theorem gs_nil : PGs X [] (simGs X.K gsNil) := pgs_nil.imp fun vs σ H Q ⟨ρ, env, h, ds, R, r, o⟩ => by
  cases r with
  | nil => exact ⟨rfl, o.nx R⟩
  | cons _ _ => exact o.elim
theorem gs_cons (h1 : PG X e (simG X.K g)) (h2 : PGs X es (simGs X.K gs)) (hs : (assignEach (e :: es) X.env).map (·.2) = assign e X.env :: (assignEach es X.env).map (·.2) := by rfl) : PGs X (e :: es) (simGs X.K (gsCons g gs)) := (pgs_cons h1 h2 hs).imp fun vs σ H Q ⟨ρ, env, h, ds, R, r, o⟩ => by
  cases r with
  | nil => exact o.elim
  | cons r1 rs =>
    refine ⟨_, _, rfl, ρ, env, h, _, R, r1, ?_⟩
    unfold gsCons at o
    dsimp only at o
    revert o
    generalize g _ env h = z
    intro o
    match z, o with
    | some (e', h'), o => exact fun ρ' H' σ' x R' => ⟨ρ', e', h', _, R', rs.mono x R.heap, OutG.from x o⟩
theorem g_tup {k : Nat} {n : Nat} (hc : X.calm = true) (h : PGs X es (simGs X.K gs)) (hl : ∀ ds env h r, gs ds env h = some r → ds.length = n)
    (hn : (assignEach es X.env).length = n := by rfl) (hst : (assignEach es X.env).findIdx? (·.1) = none := by rfl) : PG X (.Tuple es k pos) (simG X.K (gTp gs)) := (pg_tup hc h hn hst).imp fun v σ H Q ⟨ρ, env, h, d, R, r, o⟩ => by
  cases r with
  | tup s z t =>
    have o' : OutG X.K ρ H (gs _ env h) Q := o
    refine ⟨_, _, rfl, .of s, ?_, ρ, env, h, _, R, t, o'⟩
    rw [t.length]
    cases q : gs _ env h with
    | none => rw [q] at o'; exact o'.elim
    | some y => exact hl _ _ _ _ q
  | _ => exact o.elim
theorem gl_nil : ∀ ds env h r, gsNil ds env h = some r → ds.length = 0 := fun ds env h r e => by
  cases ds with
  | nil => rfl
  | cons _ _ => cases e
theorem gl_cons {n : Nat} (hl : ∀ ds env h r, gs ds env h = some r → ds.length = n) : ∀ ds env h r, gsCons g gs ds env h = some r → ds.length = n + 1 := fun ds env h r e => by
  cases ds with
  | nil => cases e
  | cons d ds =>
    unfold gsCons at e
    dsimp only at e
    split at e
    · rw [List.length_cons, hl _ _ _ _ e]
    · cases e
def PSetS (X : Cx) (op : D → D → D → Hh → Option Hh) : Prop := PSet X fun o i v H Q => ∃ ρ h a b c, HR X.K ρ H h ∧ RV X.K ρ H a o ∧ RV X.K ρ H b i ∧ RV X.K ρ H c v ∧ (match op a b c h with
  | some h' => ∀ ρ' H', Ex ρ H ρ' H' → HR X.K ρ' H' h' → Q H'
  | none => False)
theorem g_sub {o i : Expr} {do_ di : Ef} {op : D → D → D → Hh → Option Hh} (ho : EE X W o do_) (hi : EE X W i di) (hs : PSetS X op)
    (ha : ∀ v, assign (.Subscript o i pos) X.env v = (do
      let ov ← holding [v] (eval o X.env)
      let iv ← holding [v, ov] (eval i X.env)
      standAt pos
      holding [v, ov, iv] (setItem ov iv v)
      release [v, ov, iv] []) := by intro _; rfl) : PG X (.Subscript o i pos) (simG X.K (gSet op do_ di)) := (pg_sub ho hi hs ha).imp fun v σ H Q ⟨ρ, env, h, d, R, r, o⟩ => by
  refine ⟨ρ, env, h, R, ?_⟩
  unfold gSet at o
  revert o
  generalize do_ env h = z
  intro o
  match z, o with
  | some (.ok x, h1), o =>
    intro ρ1 H1 vx ex R1 r1
    refine ⟨ρ1, env, h1, R.go ex R1, ?_⟩
    dsimp only at o
    revert o
    generalize di env h1 = z2
    intro o
    match z2, o with
    | some (.ok y, h2), o =>
      intro ρ2 H2 vy ex2 R2 r2
      refine ⟨ρ2, h2, x, y, d, R2, r1.mono ex2 R1, r2, (r.mono ex R.heap).mono ex2 R1, ?_⟩
      dsimp only at o
      revert o
      generalize op x y d h2 = z3
      intro o
      match z3, o with
      | some h3, o => exact fun ρ3 H3 ex3 R3 => o ρ3 H3 σ (ex.trans (ex2.trans ex3)) (((R.go ex R1).go ex2 R2).go ex3 R3)
theorem s_asg {tg : Expr} (he : EE X W e de) (hg : PG X tg (simG X.K g)) (hs : swapsWithSole [tg] e pos.line X.env = pure false := by rfl) (hw : swappedStores [tg] e X.env = pure none := by rfl)
    (h1 : (assignEach [tg] X.env).map (·.2) = [assign tg X.env] := by rfl) : SS X W (.Assign [tg] e pos) (sAs g de) := (ps_asg he hg hs hw h1).imp fun D σ H ⟨ρ, env, h, R, o⟩ =>
  simS1 R o fun ρ1 h1 x v H1 R1 r1 ex o1 => by
    refine ⟨ρ1, env, h1, x, R1, r1, ?_⟩
    revert o1
    generalize g x env h1 = z
    intro o1
    match z, o1 with
    | some (e', h'), o1 => exact o1
/-- xs[i] = v -/
def opSetL (x y v : D) (h : Hh) : Option Hh := match lstAt x h, y with
  | some (l, xs), .int i => (match ixN xs.length i with
    | some j => some (h.set l (.lst (xs.set j v)))
    | none => none)
  | _, _ => none
theorem set_L : PSetS X opSetL := fun pins s σ H o i v ov iv u Q I ro ri rv ⟨ρ, h, a, b, c, R, r1, r2, r3, q⟩ => by
  split at q
  · rename_i h' hq
    unfold opSetL at hq
    split at hq
    · rename_i l zs k e
      obtain ⟨rfl, hl, ad, ys, e1, rfl, q2, z2, t⟩ := lstAt_v R r1 e
      split at hq
      · rename_i j hj
        cases hq
        cases r2
        refine set_list pins s σ H _ _ _ ov iv u Q I ro ri rv ⟨_, ys, _, j, rfl, rfl, q2, by rw [t.length]; exact hj, ?_⟩
        have m := Ex.put (H := H) (o := .lst (ys.set j v)) (List.mem_of_getElem? e1) (by rw [q2]; trivial)
        exact q ρ _ m (R.put e1 (by rw [q2]; trivial) ⟨_, upd_same, by rw [List.length_set]; exact z2, (RVs.set r3 j t).mono m R⟩)
      · cases hq
    · cases hq
  · exact q.elim
/-- a, b = x, y -/
def sPar (i j : Nat) (a : Af) : Sf := fun env h => bndS (a env h) env fun ds h => match ds with
  | [x, y] => some (.nx, (env.set i (some x)).set j (some y), h)
  | _ => none
theorem simSA {K : PySem.W.Frag} {ρ : List Addr} {H : Hp} {h : Hh} {env : En} {σ : L2.St} {d : Af} {k : List S.D → Hh → Os} {Q' : List V → Hp → Prop} {D : Ends} (R : Rp K ρ env h σ H) (o : OutS K ρ H W (bndS (d env h) env k) D)
    (f : ∀ ρ1 h1 x v H1, Rp K ρ1 env h1 σ H1 → RVs K ρ1 H1 x v → Ex ρ H ρ1 H1 → OutS K ρ1 H1 W (k x h1) D → Q' v H1) : simA K W d σ H Q' := by
  refine ⟨ρ, env, h, R, ?_⟩
  revert o
  generalize d env h = z
  intro o
  match z, o with
  | some (.ok d, h'), o => exact fun ρ' H' v x R' r => f ρ' h' d v H' (R.go x R') r x (OutS.from x o)
  | some (.exc c fs, h'), o => exact fun ρ' H' dx ys x R' e n q => o ρ' H' σ dx ys x (R.go x R') e n q
theorem s_par {i j : Nat} {x y : Str} {a b : Expr} {ta : Af} {px py pt : Pos} {kt k2 pt2} (hc : X.calm = true) (hN : X.N.Nodup) (hi : X.N[i]? = some x) (hj : X.N[j]? = some y) (hij : i ≠ j)
    (hx : X.env.scope.names.lookup x = some .local) (hy : X.env.scope.names.lookup y = some .local) (ha : AA X W [a, b] ta)
    (hw : swappedStores [.Tuple [.Name x px, .Name y py] kt pt] (.Tuple [a, b] k2 pt2) X.env = pure (some [x, y]))
    (hs : swapsWithSole [.Tuple [.Name x px, .Name y py] kt pt] (.Tuple [a, b] k2 pt2) pos.line X.env = pure false := by rfl) :
    SS X W (.Assign [.Tuple [.Name x px, .Name y py] kt pt] (.Tuple [a, b] k2 pt2) pos) (sPar i j ta) := (ps_par hc hN hi hj hij hx hy ha hw hs).imp fun D σ H ⟨ρ, env, h, R, o⟩ =>
  simSA R o fun ρ1 h1 ds vs H1 R1 r1 ex o1 => by
    match ds, r1, o1 with
    | [x, y], .cons ra (.cons rb .nil), o1 => exact ⟨_, _, rfl, o1.nx ((R1.set ra i).set rb j)⟩

/-! ### while -/
def whileN (t : Tf) (b : Sf) : Nat → Sf
  | 0 => fun _ _ => none
  | n + 1 => fun env h => bndS (t env h) env fun c h => if c then (match b env h with
    | some (.nx, env, h) => whileN t b n env h
    | some (.ct, env, h) => whileN t b n env h
    | some (.bk, env, h) => some (.nx, env, h)
    | r => r) else some (.nx, env, h)
open Classical in
noncomputable def sWhile (t : Tf) (b : Sf) : Sf := fun env h => if x : ∃ n, (whileN t b n env h).isSome then whileN t b x.choose env h else none
theorem whileN_mono {t : Tf} {b : Sf} : ∀ {n : Nat} {env : En} {h : Hh} {r}, whileN t b n env h = some r → ∀ m, n ≤ m → whileN t b m env h = some r
  | 0, _, _, _, e, _, _ => by cases e
  | n + 1, env, h, r, e, 0, hm => by omega
  | n + 1, env, h, r, e, m + 1, hm => by
    unfold whileN at e ⊢
    revert e
    generalize t env h = z
    intro e
    match z, e with
    | some (.ok true, h1), e =>
      dsimp only [bndS_ok] at e ⊢
      rw [if_pos rfl] at e ⊢
      revert e
      generalize b env h1 = z2
      intro e
      match z2, e with
      | some (.nx, e2, h2), e => exact whileN_mono e m (by omega)
      | some (.ct, e2, h2), e => exact whileN_mono e m (by omega)
      | some (.bk, e2, h2), e => exact e
      | some (.rt d, e2, h2), e => exact e
      | some (.exc c fs, e2, h2), e => exact e
    | some (.ok false, h1), e => exact e
    | some (.exc c fs, h1), e => exact e
theorem while_eq {t : Tf} {b : Sf} {n : Nat} {env : En} {h : Hh} {r} (e : whileN t b n env h = some r) : sWhile t b env h = some r := by
  have x : ∃ n, (whileN t b n env h).isSome := ⟨n, by rw [e]; rfl⟩
  unfold sWhile
  rw [dif_pos x]
  have q := x.choose_spec
  cases z : whileN t b x.choose env h with
  | none => rw [z] at q; cases q
  | some r' =>
    rcases Nat.le_total n x.choose with hh | hh
    · rw [← z, whileN_mono e _ hh]
    · rw [← whileN_mono z _ hh, e]
theorem s_while (hp : PassesOwn (model X.prog X.w) X.A X.env X.xe) (hc : TT_ X W c t) (hb : SB X W sa d) : SS X W (.While c sa [] pos) (sWhile t d) := (ps_while hp hc hb).imp fun D σ H ⟨ρ, env, h, R, o⟩ => by
  unfold sWhile at o
  split at o
  · rename_i x
    revert o
    generalize x.choose = n
    intro o
    refine ⟨fun m σ1 H1 => ∃ ρ1 env1 h1, Rp X.K ρ1 env1 h1 σ1 H1 ∧ OutS X.K ρ1 H1 W (whileN t d m env1 h1) D, ⟨n, ρ, env, h, R, o⟩, ?_⟩
    rintro m σ1 H1 ⟨ρ1, env1, h1, R1, o1⟩
    cases m with
    | zero => exact o1.elim
    | succ m =>
      unfold whileN at o1
      refine simST R1 o1 fun ρ2 h2 b H2 R2 ex2 o2 => ?_
      cases b with
      | false => exact iteF (o2.nx R2)
      | true =>
        refine iteT ⟨fun σ' H' => ∃ ρ' env' h', Rp X.K ρ' env' h' σ' H' ∧ OutS X.K ρ' H' W (whileN t d m env' h') D, fun σ' H' q => ⟨m, Nat.lt_succ_self _, q⟩, ρ2, env1, h2, R2, ?_⟩
        rw [if_pos rfl] at o2
        revert o2
        generalize d env1 h2 = z
        intro o2
        match z, o2 with
        | some (.nx, e', h'), o2 => exact fun ρ' H' σ' x R' => ⟨ρ', e', h', R', OutS.from x o2⟩
        | some (.ct, e', h'), o2 => exact fun ρ' H' σ' x R' => ⟨ρ', e', h', R', OutS.from x o2⟩
        | some (.bk, e', h'), o2 => exact o2
        | some (.rt d, e', h'), o2 => exact o2
        | some (.exc c fs, e', h'), o2 => exact o2
  · exact o.elim
end
end S
set_option Elab.async false
set_option linter.all false
set_option autoImplicit false
set_option maxRecDepth 100000
set_option maxHeartbeats 1000000
namespace S
open PySem PySem.Spec PyProof.Rows L2

/-! ### what a loop walks -/
/-- the items; the lists that must stand meanwhile -/
structure Iy where
  xs : List D
  ck : List (Nat × List D)
def ckOk (ck : List (Nat × List D)) (h : Hh) : Prop := ∀ p ∈ ck, h[p.1]? = some (.lst p.2)
open Classical in
noncomputable def ckB (ck : List (Nat × List D)) (h : Hh) : Bool := if ckOk ck h then true else false
theorem ckB_nil (h : Hh) : ckB [] h = true := by unfold ckB; rw [if_pos]; intro p hp; cases hp
theorem ckB_true {ck : List (Nat × List D)} {h : Hh} (c : ckOk ck h) : ckB ck h = true := if_pos c
theorem ckB_one {l : Nat} {xs : List D} {h : Hh} (c : h[l]? = some (.lst xs)) : ckB [(l, xs)] h = true := ckB_true fun p hp => by simp at hp; subst hp; exact c
theorem ckB_ok {ck : List (Nat × List D)} {h : Hh} (e : ckB ck h = true) : ckOk ck h := by
  unfold ckB at e
  split at e
  · assumption
  · cases e
def Walk (K : PySem.W.Frag) (ρ : List Addr) (H : Hp) (it : Iy) (J : It) : Prop := ∀ ρ' H' h', Ex ρ H ρ' H' → HR K ρ' H' h' → ckOk it.ck h' →
  J.stop it.xs.length H' ∧ ∀ i x, it.xs[i]? = some x → J.go i H' ∧ ∀ v Hn, J.yld i H' v Hn → Ex ρ' H' ρ' Hn ∧ HR K ρ' Hn h' ∧ RV K ρ' Hn x v
abbrev If_ := En → M Iy
def OutI (K : PySem.W.Frag) (ρ : List Addr) (H : Hp) (W : WK) (r : Ot Iy) (Q : It → Hp → Prop) : Prop := match r with
  | some (.ok it, h') => ∀ ρ' H' J, Ex ρ H ρ' H' → HR K ρ' H' h' → Walk K ρ' H' it J → Q J H'
  | some (.exc c fs, h') => ∀ ρ' H' dx ys, Ex ρ H ρ' H' → HR K ρ' H' h' → H' dx = some (.xd ys) → dx ∉ ρ' → RFs K ρ' H' fs ys → W (.ref (He.ga K c)) (some dx) H'
  | none => False
def simI (K : PySem.W.Frag) (W : WX) (d : If_) : TI := fun σ H R => ∃ ρ env h, Rp K ρ env h σ H ∧ OutI K ρ H (fun c a H' => W c a σ H') (d env h) R
theorem _root_.L2.PI.imp {X : Cx} {tg e : Expr} {t t' : TI} (p : PI X tg e t) (f : ∀ σ H Q, t' σ H Q → t σ H Q) : PI X tg e t' := ⟨fun pins s σ H R I q => p.run pins s σ H R I (f _ _ _ q)⟩
abbrev II (X : Cx) (W : WX) (tg e : Expr) (d : If_) : Prop := PI X tg e (simI X.K W d)

section
variable {X : Cx} {W : WX} {tg e a b : Expr} {es : List Expr} {da db : Ef} {ds : Af} {pos p : Pos} {K : PySem.W.Frag} {ρ ρ1 : List Addr} {H H1 : Hp} {h : Hh} {env : En} {σ : L2.St}
theorem OutI.from (x : Ex ρ H ρ1 H1) {Wk : WK} {r : Ot Iy} {Q : It → Hp → Prop} (o : OutI K ρ H Wk r Q) : OutI K ρ1 H1 Wk r Q := by
  match r, o with
  | some (.ok d, h'), o => exact fun ρ' H' v y => o ρ' H' v (x.trans y)
  | some (.exc c fs, h'), o => exact fun ρ' H' dx ys y => o ρ' H' dx ys (x.trans y)
theorem simI1 {Wk : WK} {k : D → M Iy} {Q : It → Hp → Prop} {d : Ef}
    (R : Rp K ρ env h σ H) (o : OutI K ρ H Wk (bnd (d env h) k) Q) (hW : ∀ c a H', Wk c a H' → W c a σ H') {Q' : V → Hp → Prop}
    (f : ∀ ρ1 h1 x v H1, Rp K ρ1 env h1 σ H1 → RV K ρ1 H1 x v → Ex ρ H ρ1 H1 → OutI K ρ1 H1 Wk (k x h1) Q → Q' v H1) : simE K W d σ H Q' := by
  refine ⟨ρ, env, h, R, ?_⟩
  revert o
  generalize d env h = z
  intro o
  match z, o with
  | some (.ok d, h'), o => exact fun ρ' H' v x R' r => f ρ' h' d v H' (R.go x R') r x (OutI.from x o)
  | some (.exc c fs, h'), o => exact fun ρ' H' dx ys x R' e n q => hW _ _ _ (o ρ' H' dx ys x R' e n q)
theorem simIA1 {Wk : WK} {k : List D → M Iy} {Q : It → Hp → Prop} {d : Af}
    (R : Rp K ρ env h σ H) (o : OutI K ρ H Wk (bnd (d env h) k) Q) (hW : ∀ c a H', Wk c a H' → W c a σ H') {Q' : List V → Hp → Prop}
    (f : ∀ ρ1 h1 x v H1, Rp K ρ1 env h1 σ H1 → RVs K ρ1 H1 x v → Ex ρ H ρ1 H1 → OutI K ρ1 H1 Wk (k x h1) Q → Q' v H1) : simA K W d σ H Q' := by
  refine ⟨ρ, env, h, R, ?_⟩
  revert o
  generalize d env h = z
  intro o
  match z, o with
  | some (.ok d, h'), o => exact fun ρ' H' v x R' r => f ρ' h' d v H' (R.go x R') r x (OutI.from x o)
  | some (.exc c fs, h'), o => exact fun ρ' H' dx ys x R' e n q => hW _ _ _ (o ρ' H' dx ys x R' e n q)

/-! a tuple; a list -/
def iTp (a : Ef) : If_ := fun env h => bnd (a env h) fun x h => match x with
  | .tup xs => some (.ok ⟨xs, []⟩, h)
  | _ => none
def iLs (a : Ef) : If_ := fun env h => bnd (a env h) fun x h => match lstAt x h with
  | some (l, xs) => some (.ok ⟨xs, [(l, xs)]⟩, h)
  | none => none
theorem sqT_inj {H : Hp} {a : Addr} {xs ys : List V} (e : H a = some (.tup xs)) (f : H a = some (.tup ys)) : xs = ys := by
  rw [e] at f; cases f; rfl
theorem i_tup (ha : EE X W a da) : II X W tg a (iTp da) := (pi_tup ha).imp fun σ H Q ⟨ρ, env, h, R, o⟩ =>
  simI1 R o (fun _ _ _ z => z) fun ρ1 h1 x v H1 R1 r1 ex o1 => by
    cases r1 with
    | @tup ds ad xs s z t =>
      refine ⟨_, rfl, ⟨_, .of s⟩, o1 ρ1 H1 _ Ex.refl R1.heap fun ρ2 H2 h2 ex2 R2 _ => ?_⟩
      have s2 := ex2.tup R1.heap s
      refine ⟨⟨_, .of s2, by rw [t.length]; exact Nat.le_refl _⟩, fun i x hx => ?_⟩
      obtain ⟨w, hw, rw_⟩ := (t.mono ex2 R1.heap).get hx
      refine ⟨⟨_, w, .of s2, hw⟩, fun v Hn y => ?_⟩
      obtain ⟨e1, e2⟩ := y
      subst e1
      have := e2 _ (.of s2)
      rw [hw] at this
      cases this
      exact ⟨Ex.refl, R2, rw_⟩
    | _ => exact o1.elim
theorem i_lst (ha : EE X W a da) : II X W tg a (iLs da) := (pi_list ha).imp fun σ H Q ⟨ρ, env, h, R, o⟩ =>
  simI1 R o (fun _ _ _ z => z) fun ρ1 h1 x v H1 R1 r1 ex o1 => by
    split at o1
    · rename_i l xs e
      obtain ⟨rfl, hl, ad, ys, e1, rfl, q2, z2, t⟩ := lstAt_v R1.heap r1 e
      refine ⟨_, rfl, ⟨_, .of q2⟩, o1 ρ1 H1 _ Ex.refl R1.heap fun ρ2 H2 h2 ex2 R2 ck => ?_⟩
      have hl2 : h2[l]? = some (.lst xs) := ck (l, xs) (by simp)
      obtain ⟨zs, q3, z3, t3⟩ := R2.lst (pre_get ex2.pre e1) hl2
      refine ⟨⟨_, .of q3, by rw [t3.length]; exact Nat.le_refl _⟩, fun i x hx => ?_⟩
      obtain ⟨w, hw, rw_⟩ := t3.get hx
      refine ⟨⟨_, w, .of q3, hw⟩, fun v Hn y => ?_⟩
      obtain ⟨e4, e2⟩ := y
      subst e4
      have := e2 _ (.of q3)
      rw [hw] at this
      cases this
      exact ⟨Ex.refl, R2, rw_⟩
    · exact o1.elim
/-! range(n), range(a, b) -/
def rgD (lo : Int) (n : Nat) : List D := (List.range n).map fun i => .int (lo + (i : Nat))
theorem rgD_length (lo : Int) (n : Nat) : (rgD lo n).length = n := by simp [rgD]
def iRg1 (a : Af) : If_ := fun env h => bnd (a env h) fun xs h => match xs with
  | [.int j] => if -(2 ^ 62) ≤ j ∧ j < 2 ^ 62 then some (.ok ⟨rgD 0 j.toNat, []⟩, h) else none
  | _ => none
def iRg2 (a : Af) : If_ := fun env h => bnd (a env h) fun xs h => match xs with
  | [.int i, .int j] => if -(2 ^ 62) ≤ i ∧ i < 2 ^ 62 ∧ -(2 ^ 62) ≤ j ∧ j < 2 ^ 62 then some (.ok ⟨rgD i (j - i).toNat, []⟩, h) else none
  | _ => none
theorem walk_rg (lo : Int) (n : Nat) : Walk K ρ H ⟨rgD lo n, []⟩ (Itr lo n) := fun ρ' H' h' ex R _ => by
  refine ⟨by rw [rgD_length]; exact Nat.le_refl _, fun i x hx => ?_⟩
  have hlt : i < n := by have := (List.getElem?_eq_some_iff.mp hx).1; rw [rgD_length] at this; exact this
  refine ⟨hlt, fun v Hn y => ?_⟩
  obtain ⟨e1, e2⟩ := y
  subst e1
  subst e2
  refine ⟨Ex.refl, R, ?_⟩
  unfold rgD at hx
  rw [List.getElem?_map, List.getElem?_range hlt] at hx
  cases hx
  exact .int _
theorem i_rg1 (hg : Gl X "range") (hm : X.mg "range" = none) (ha : AA X W [a] ds) (hs : starEach [a] X.env = [(false, eval a X.env)] := by rfl) : II X W tg (.Call (.Name "range" p) [a] [] pos) (iRg1 ds) := (pi_range1 hg hm ha hs).imp fun σ H Q ⟨ρ, env, h, R, o⟩ =>
  simIA1 R o (fun _ _ _ z => z) fun ρ1 h1 xs vs H1 R1 r1 ex o1 => by
    match xs, r1, o1 with
    | [.int j], .cons (.int _) .nil, o1 =>
      dsimp only at o1
      split at o1
      · rename_i hj
        exact ⟨j, rfl, hj.1, hj.2, o1 ρ1 H1 _ Ex.refl R1.heap (walk_rg 0 _)⟩
      · exact o1.elim
theorem i_rg2 (hg : Gl X "range") (hm : X.mg "range" = none) (ha : AA X W [a, b] ds) (hs : starEach [a, b] X.env = [(false, eval a X.env), (false, eval b X.env)] := by rfl) (hs2 : starEach [b] X.env = [(false, eval b X.env)] := by rfl) : II X W tg (.Call (.Name "range" p) [a, b] [] pos) (iRg2 ds) := (pi_range2 hg hm ha hs hs2).imp fun σ H Q ⟨ρ, env, h, R, o⟩ =>
  simIA1 R o (fun _ _ _ z => z) fun ρ1 h1 xs vs H1 R1 r1 ex o1 => by
    match xs, r1, o1 with
    | [.int i, .int j], .cons (.int _) (.cons (.int _) .nil), o1 =>
      dsimp only at o1
      split at o1
      · rename_i hj
        exact ⟨i, j, rfl, hj, o1 ρ1 H1 _ Ex.refl R1.heap (walk_rg i _)⟩
      · exact o1.elim

/-! ### for -/
noncomputable def forL (g : Gf) (b : Sf) (ck : List (Nat × List D)) : List D → Sf
  | [] => fun env h => if ckB ck h then some (.nx, env, h) else none
  | x :: xs => fun env h => if ckB ck h then (match g x env h with
    | some (env, h) => (match b env h with
      | some (.nx, env, h) => forL g b ck xs env h
      | some (.ct, env, h) => forL g b ck xs env h
      | some (.bk, env, h) => some (.nx, env, h)
      | r => r)
    | none => none) else none
noncomputable def sFor (i : If_) (g : Gf) (b : Sf) : Sf := fun env h => bndS (i env h) env fun it h => forL g b it.ck it.xs env h
theorem for_core {E : Ends} {it : Iy} {J : It} {g : Gf} {d : Sf} (R1 : Rp K ρ1 env h σ H1) (wk : Walk K ρ1 H1 it J) (o1 : OutS K ρ1 H1 W (forL g d it.ck it.xs env h) E) :
    ∃ W' : Nat → Nat → L2.St → Hp → Prop, (∃ m, W' 0 m σ H1) ∧ ∀ i m σ H, W' i m σ H →
      (J.stop i H ∧ E.nx σ H) ∨ (J.go i H ∧ ∃ N : L2.St → Hp → Prop, (∀ σ' H', N σ' H' → ∃ m', m' < m ∧ W' (i + 1) m' σ' H') ∧ ∀ x H', J.yld i H x H' → simG K g x σ H' fun σ2 H2 => simS K W d { E with nx := N, ct := N, bk := E.nx } σ2 H2) := by
  refine ⟨fun i m σ2 H2 => m = it.xs.length - i ∧ i ≤ it.xs.length ∧ ∃ ρ2 env2 h2, Rp K ρ2 env2 h2 σ2 H2 ∧ Ex ρ1 H1 ρ2 H2 ∧ OutS K ρ2 H2 W (forL g d it.ck (it.xs.drop i) env2 h2) E,
    ⟨_, rfl, Nat.zero_le _, ρ1, env, h, R1, Ex.refl, by simpa using o1⟩, ?_⟩
  rintro i m σ2 H2 ⟨rfl, hi, ρ2, env2, h2, R2, ex2, o2⟩
  by_cases hlt : i < it.xs.length
  · rw [List.drop_eq_getElem_cons hlt] at o2
    unfold forL at o2
    split at o2
    · rename_i ck
      obtain ⟨_, wi⟩ := wk ρ2 H2 h2 ex2 R2.heap (ckB_ok ck)
      obtain ⟨go, yl⟩ := wi i it.xs[i] (by simp [hlt])
      refine .inr ⟨go, fun σ3 H3 => ∃ ρ3 env3 h3, Rp K ρ3 env3 h3 σ3 H3 ∧ Ex ρ1 H1 ρ3 H3 ∧ OutS K ρ3 H3 W (forL g d it.ck (it.xs.drop (i + 1)) env3 h3) E,
        fun σ3 H3 ⟨ρ3, env3, h3, R3, ex3, o3⟩ => ⟨it.xs.length - (i + 1), by omega, rfl, hlt, ρ3, env3, h3, R3, ex3, o3⟩, fun v Hn y => ?_⟩
      obtain ⟨exn, Rn, rv⟩ := yl v Hn y
      have R2n := R2.go exn Rn
      refine ⟨ρ2, env2, h2, it.xs[i], R2n, rv, ?_⟩
      have o2n := OutS.from exn o2
      revert o2n
      generalize g it.xs[i] env2 h2 = z2
      intro o2n
      match z2, o2n with
      | some (env4, h4), o4 =>
        intro ρ4 H4 σ4 ex4 R4
        refine ⟨ρ4, env4, h4, R4, ?_⟩
        have o5 := OutS.from ex4 o4
        dsimp only at o5
        revert o5
        generalize d env4 h4 = z3
        intro o5
        have exx := ex2.trans (exn.trans ex4)
        match z3, o5 with
        | some (.nx, e5, h5), o5 => exact fun ρ5 H5 σ5 ex5 R5 => ⟨ρ5, e5, h5, R5, exx.trans ex5, OutS.from ex5 o5⟩
        | some (.ct, e5, h5), o5 => exact fun ρ5 H5 σ5 ex5 R5 => ⟨ρ5, e5, h5, R5, exx.trans ex5, OutS.from ex5 o5⟩
        | some (.bk, e5, h5), o5 => exact o5
        | some (.rt v, e5, h5), o5 => exact o5
        | some (.exc c fs, e5, h5), o5 => exact o5
    · exact o2.elim
  · have hi' : i = it.xs.length := by omega
    subst hi'
    rw [List.drop_length] at o2
    unfold forL at o2
    split at o2
    · rename_i ck
      exact .inl ⟨(wk ρ2 H2 h2 ex2 R2.heap (ckB_ok ck)).1, o2.nx R2⟩
    · exact o2.elim
theorem s_for {iter : Expr} {body : List Stmt} {di : If_} {g : Gf} {d : Sf} (hp : PassesOwn (model X.prog X.w) X.A X.env X.xe) (hc : X.calm = true) (hi : II X W tg iter di) (hg : PG X tg (simG X.K g)) (hb : SB X W body d)
    (hs : ∀ x, foldedSetIterable iter X.env x = pure x := by intro _; rfl) : SS X W (.For tg iter body [] pos) (sFor di g d) := (ps_for hp hc hi hg hb hs).imp fun E σ H ⟨ρ, env, h, R, o⟩ => by
  refine ⟨ρ, env, h, R, ?_⟩
  unfold sFor at o
  revert o
  generalize di env h = z
  intro o
  match z, o with
  | some (.exc c fs, h'), o => exact fun ρ' H' dx ys x R' e n q => o ρ' H' σ dx ys x (R.go x R') e n q
  | some (.ok it, h'), o => exact fun ρ1 H1 J ex1 R1 wk => for_core (R.go ex1 R1) wk (OutS.from ex1 o)

/-! ### comprehensions -/
def wipeE (env : En) : List Nat → En
  | [] => env
  | v :: vs => (wipeE env vs).set v none
theorem wipe_rp {K : PySem.W.Frag} {ρ : List Addr} {env : En} {h : Hh} {σ : L2.St} {H : Hp} (R : Rp K ρ env h σ H) : ∀ vs : List Nat, Rp K ρ (wipeE env vs) h (wipe σ vs) H
  | [] => R
  | v :: vs => by
    have R1 := wipe_rp R vs
    refine ⟨R1.heap, by simp [wipeE, wipe, R1.len], fun i d e => ?_⟩
    unfold wipeE at e
    by_cases hi : v = i
    · subst hi
      by_cases hv : v < (wipeE env vs).length
      · rw [List.getElem?_set_self hv] at e; cases e
      · rw [List.getElem?_eq_none (by simpa using hv)] at e; cases e
    · rw [List.getElem?_set_ne hi] at e
      obtain ⟨w, e1, r⟩ := R1.slot i d e
      exact ⟨w, by unfold wipe; rw [List.getElem?_set_ne hi]; exact e1, r⟩
end
def bndN {α β : Type} (x : Ot α) (k : α → M β) : Ot β := match x with
  | some (.ok a, h) => k a h
  | _ => none
@[simp] theorem bndN_ok {α β : Type} (a : α) (h : Hh) (k : α → M β) : bndN (some (.ok a, h)) k = k a h := rfl
@[simp] theorem bndN_none {α β : Type} (k : α → M β) : bndN (none : Ot α) k = none := rfl
theorem bndN_some {α β : Type} {x : Ot α} {k : α → M β} {r} (e : bndN x k = some r) : ∃ a h, x = some (.ok a, h) ∧ k a h = some r := by
  match x, e with
  | some (.ok a, h), e => exact ⟨a, h, rfl, e⟩
noncomputable def lcL (g : Gf) (t : Tf) (e : Ef) (ck : List (Nat × List D)) (env : En) : List D → Hh → Option (List D × Hh)
  | [] => fun h => if ckB ck h then some ([], h) else none
  | x :: xs => fun h => if ckB ck h then (match g x env h with
    | some (env', h) => (match t env' h with
      | some (.ok true, h) => (match e env' h with
        | some (.ok y, h) => (match lcL g t e ck env xs h with
          | some (ys, h) => some (y :: ys, h)
          | none => none)
        | _ => none)
      | some (.ok false, h) => lcL g t e ck env xs h
      | _ => none)
    | none => none) else none
noncomputable def dLc (vs : List Nat) (i : If_) (g : Gf) (t : Tf) (e : Ef) : Ef := fun env h => bnd (i env h) fun it h => if it.xs.length ≤ sizeLine then (match lcL g t e it.ck (wipeE env vs) it.xs h with
  | some (ys, h) => some (.ok (.ref h.length), h ++ [.lst ys])
  | none => none) else none
/-- a comprehension's target: it stores the block's own slots alone -/
def TgOk (K : PySem.W.Frag) (vs : List Nat) (g : Gf) (tG : TG) : Prop := ∀ ρ env h σ H x v env' h' (Q : L2.St → Hp → Prop), Rp K ρ env h σ H → RV K ρ H x v → g x env h = some (env', h') →
  (∀ σ', Rp K ρ env' h' σ' H → wipe σ' vs = wipe σ vs → h' = h → Q σ' H) → tG v σ H Q
theorem wipe_set {i : Nat} {vs : List Nat} (hi : i ∈ vs) (σ : L2.St) (x : Option V) : wipe (σ.set i x) vs = wipe σ vs := by
  have out : ∀ (vs : List Nat), i ∉ vs → wipe (σ.set i x) vs = (wipe σ vs).set i x := by
    intro vs
    induction vs with
    | nil => intro _; rfl
    | cons w ws ih2 =>
      intro hn
      simp only [List.mem_cons, not_or] at hn
      unfold wipe
      rw [ih2 hn.2, List.set_comm _ _ hn.1]
  induction vs with
  | nil => cases hi
  | cons v vs ih =>
    unfold wipe
    by_cases hm : i ∈ vs
    · rw [ih hm]
    · rcases List.mem_cons.mp hi with hh | hh
      · subst hh
        rw [out vs hm, List.set_set]
      · exact absurd hh hm
theorem tg_nm {K : PySem.W.Frag} {i : Nat} {vs : List Nat} (hi : i ∈ vs) : TgOk K vs (gNm i) (gName i) := fun ρ env h σ H x v env' h' Q R r e q => by
  cases e
  exact q _ (R.set r i) (wipe_set hi _ _) rfl
/-- a tuple of names -/
def gNms : List Nat → Gfs
  | [] => gsNil
  | i :: is => gsCons (gNm i) (gNms is)
def gNames : List Nat → TGs
  | [] => gNil
  | i :: is => gCons (gName i) (gNames is)
theorem tg_nms {K : PySem.W.Frag} {vs : List Nat} : ∀ {is : List Nat}, (∀ i ∈ is, i ∈ vs) → ∀ ρ env h σ H xs ys env' h' (Q : L2.St → Hp → Prop), Rp K ρ env h σ H → RVs K ρ H xs ys → gNms is xs env h = some (env', h') →
    (∀ σ', Rp K ρ env' h' σ' H → wipe σ' vs = wipe σ vs → h' = h → Q σ' H) → gNames is ys σ H Q
  | [], _, ρ, env, h, σ, H, _, _, env', h', Q, R, .nil, e, q => by
    cases e
    exact ⟨rfl, q σ R rfl rfl⟩
  | [], _, _, _, _, _, _, _, _, _, _, _, _, .cons _ _, e, _ => by cases e
  | _ :: _, _, _, _, _, _, _, _, _, _, _, _, _, .nil, e, _ => by cases e
  | i :: is, hi, ρ, env, h, σ, H, _, _, env', h', Q, R, .cons r rs, e, q => by
    refine ⟨_, _, rfl, ?_⟩
    exact tg_nms (is := is) (fun j hj => hi j (List.mem_cons_of_mem _ hj)) ρ _ h _ H _ _ env' h' Q (R.set r i) rs e fun σ' R' hw hh => q σ' R' (by rw [hw, wipe_set (hi i List.mem_cons_self)]) hh
theorem gNms_len : ∀ {is : List Nat} ds env h r, gNms is ds env h = some r → ds.length = is.length
  | [] => gl_nil
  | i :: is => gl_cons (gNms_len (is := is))
theorem tg_tup {K : PySem.W.Frag} {vs is : List Nat} {n : Nat} (hi : ∀ i ∈ is, i ∈ vs) (hn : is.length = n) : TgOk K vs (gTp (gNms is)) (gTup K n (gNames is)) := fun ρ env h σ H x v env' h' Q R r e q => by
  cases r with
  | tup s z t =>
    refine ⟨_, _, rfl, .of s, ?_, tg_nms hi ρ env h σ H _ _ env' h' Q R t e q⟩
    rw [t.length, gNms_len _ _ _ _ e, hn]
  | _ => cases e
theorem wipe_in {i : Nat} : ∀ {vs : List Nat} {σ : L2.St}, i ∈ vs → (wipe σ vs)[i]? = if i < σ.length then some none else none
  | [], _, h => by cases h
  | v :: vs, σ, h => by
    unfold wipe
    by_cases e : v = i
    · subst e
      by_cases hl : v < σ.length
      · rw [List.getElem?_set_self (by rw [wipe_length]; exact hl), if_pos hl]
      · rw [List.getElem?_eq_none (by rw [List.length_set, wipe_length]; omega), if_neg hl]
    · rw [List.getElem?_set_ne e]
      rcases List.mem_cons.mp h with hh | hh
      · exact absurd hh.symm e
      · exact wipe_in hh
theorem wipe_idem (σ : L2.St) (vs : List Nat) : wipe (wipe σ vs) vs = wipe σ vs := by
  apply List.ext_getElem?
  intro i
  by_cases h : i ∈ vs
  · rw [wipe_in h, wipe_in h, wipe_length]
  · rw [wipe_out h]
abbrev W0 : WX := fun _ _ _ _ => False
theorem simE0 {K : PySem.W.Frag} {ρ : List Addr} {env : En} {h h' : Hh} {σ : L2.St} {H : Hp} {d : Ef} {y : D} {Q : VK} (R : Rp K ρ env h σ H) (e : d env h = some (.ok y, h')) (f : ∀ ρ' H' v, Ex ρ H ρ' H' → Rp K ρ' env h' σ H' → RV K ρ' H' y v → Q v H') : simE K W0 d σ H Q :=
  ⟨ρ, env, h, R, by rw [e]; exact fun ρ' H' v x R' r => f ρ' H' v x (R.go x R') r⟩
theorem simT0 {K : PySem.W.Frag} {ρ : List Addr} {env : En} {h h' : Hh} {σ : L2.St} {H : Hp} {d : Tf} {y : Bool} {Q : Bool → Hp → Prop} (R : Rp K ρ env h σ H) (e : d env h = some (.ok y, h')) (f : ∀ ρ' H', Ex ρ H ρ' H' → Rp K ρ' env h' σ H' → Q y H') : simT K W0 d σ H Q :=
  ⟨ρ, env, h, R, by rw [e]; exact fun ρ' H' v x R' r => by cases r; exact f ρ' H' x (R.go x R')⟩
theorem lc_len {g : Gf} {t : Tf} {e : Ef} {ck : List (Nat × List D)} {env : En} : ∀ {xs : List D} {h : Hh} {ys : List D} {h' : Hh}, lcL g t e ck env xs h = some (ys, h') → ys.length ≤ xs.length
  | [], h, ys, h', q => by
    unfold lcL at q
    split at q
    · cases q; exact Nat.le_refl _
    · cases q
  | x :: xs, h, ys, h', q => by
    unfold lcL at q
    split at q
    · split at q
      · split at q
        · split at q
          · split at q
            · rename_i zs _ hz
              cases q
              exact Nat.succ_le_succ (lc_len hz)
            · cases q
          · cases q
        · exact Nat.le_succ_of_le (lc_len q)
        · cases q
      · cases q
    · cases q
/-- the reading of a comprehension -/
theorem lc_read {K : PySem.W.Frag} {W : WX} {vs : List Nat} {di : If_} {g : Gf} {tG : TG} {t : Tf} {de : Ef} (tg : TgOk K vs g tG) {σ : L2.St} {H : Hp} {Q : VK} (q : simE K W (dLc vs di g t de) σ H Q) :
    tLc (simI K W di) tG (simT K W0 t) (simE K W0 de) vs σ H Q := by
  obtain ⟨ρ, env, h, R, o⟩ := q
  refine ⟨ρ, env, h, R, ?_⟩
  unfold dLc at o
  revert o
  generalize di env h = z
  intro o
  match z, o with
  | some (.exc c fs, h'), o => exact fun ρ' H' dx ys x R' e n q => o ρ' H' dx ys x R' e n q
  | some (.ok it, h1), o =>
    intro ρ1 H1 J ex1 R1 wk L hL
    dsimp only [bnd_ok] at o
    split at o
    · rename_i hsz
      split at o
      · rename_i ys hf hys
        have R1w := wipe_rp (R.go ex1 R1) vs
        have hn1 : L ∉ ρ1 := fun m => (R1.notup m).2.2 hL
        refine ⟨fun i m H2 => m = it.xs.length - i ∧ i ≤ it.xs.length ∧ ∃ ρ2 h2 acc done rest, Rp K ρ2 (wipeE env vs) h2 (wipe σ vs) H2 ∧ Ex ρ1 H1 ρ2 H2 ∧ L ∉ ρ2 ∧ H2 L = some (.lst acc) ∧ RVs K ρ2 H2 done acc ∧ acc.length ≤ i ∧
            lcL g t de it.ck (wipeE env vs) (it.xs.drop i) h2 = some (rest, hf) ∧ ys = done ++ rest,
          ⟨_, rfl, Nat.zero_le _, ρ1, h1, [], [], ys, R1w.go (Ex.aside R1 hL) (R1.aside hL), Ex.aside R1 hL, hn1, upd_same, .nil, Nat.zero_le _, by simpa using hys, rfl⟩, ?_⟩
        rintro i m H2 ⟨rfl, hi, ρ2, h2, acc, done, rest, R2, ex2, hn2, hL2, rd, hacc, hrest, hall⟩
        have nt : ∀ xs, H2 L ≠ some (.tup xs) := fun xs e => by rw [hL2] at e; cases e
        by_cases hlt : i < it.xs.length
        · rw [List.drop_eq_getElem_cons hlt] at hrest
          unfold lcL at hrest
          split at hrest
          · rename_i ck
            obtain ⟨_, wi⟩ := wk ρ2 H2 h2 ex2 R2.heap (ckB_ok ck)
            obtain ⟨go, yl⟩ := wi i it.xs[i] (by simp [hlt])
            refine .inr ⟨go, fun H3 => ∃ ρ3 h3 acc done rest, Rp K ρ3 (wipeE env vs) h3 (wipe σ vs) H3 ∧ Ex ρ1 H1 ρ3 H3 ∧ L ∉ ρ3 ∧ H3 L = some (.lst acc) ∧ RVs K ρ3 H3 done acc ∧ acc.length ≤ i + 1 ∧
                lcL g t de it.ck (wipeE env vs) (it.xs.drop (i + 1)) h3 = some (rest, hf) ∧ ys = done ++ rest,
              fun H3 q => ⟨it.xs.length - (i + 1), by omega, rfl, hlt, q⟩, fun v Hn y => ?_⟩
            obtain ⟨exn, Rn, rv⟩ := yl v Hn y
            have R2n := R2.go exn Rn
            obtain ⟨hLn, hnn⟩ := exn.fr L _ hn2 hL2
            have rdn := rd.mono exn R2.heap
            have ex3 := ex2.trans exn
            split at hrest
            · rename_i env4 h4 hg
              refine tg ρ2 _ h2 _ Hn _ v env4 h4 _ R2n rv hg fun σ4 R4 hw hh => ⟨hw.trans (wipe_idem _ _), ?_⟩
              subst hh
              split at hrest
              · rename_i h5 ht
                refine simT0 R4 ht fun ρ5 H5 ex5 R5 => ?_
                refine iteT ?_
                obtain ⟨hL5, hn5⟩ := ex5.fr L _ hn2 hLn
                have rd5 := rdn.mono ex5 Rn
                have ex35 := ex3.trans ex5
                split at hrest
                · rename_i y6 h6 he
                  refine simE0 R5 he fun ρ6 H6 w ex6 R6 r6 => ?_
                  obtain ⟨hL6, hn6⟩ := ex6.fr L _ hn5 hL5
                  have rd6 := rd5.mono ex6 R5.heap
                  have ex36 := ex35.trans ex6
                  split at hrest
                  · rename_i ys7 h7 h7e
                    cases hrest
                    have nt6 : ∀ o, Kp o = true → H6 L ≠ some o := fun xs k e => by
                      rw [hL6] at e
                      cases e
                      cases k
                    have keepT : KT H6 (upd H6 L (.lst (acc ++ [w]))) := fun a xs k e => by
                      have hb : a ≠ L := fun z => by
                        subst z
                        exact nt6 _ k e
                      rw [upd_ne hb]; exact e
                    have R6u : HR K ρ6 (upd H6 L (.lst (acc ++ [w]))) h6 := R6.heap.hid hn6 nt6
                    have RW : Rp K ρ6 (wipeE env vs) h6 (wipe σ vs) (upd H6 L (.lst (acc ++ [w]))) :=
                      ⟨R6u, R2n.len, fun j d e => by
                        obtain ⟨u, e1, r⟩ := R2n.slot j d e
                        exact ⟨u, e1, ((r.mono (ex5.trans ex6) Rn)).monoT (List.prefix_refl _) keepT⟩⟩
                    have exL : Ex ρ1 H1 ρ6 (upd H6 L (.lst (acc ++ [w]))) := ⟨ex36.pre, fun a o na ea => by
                      obtain ⟨ea6, na6⟩ := ex36.fr a o na ea
                      exact ⟨by rw [upd_ne (ne_of_none ea hL)]; exact ea6, na6⟩, fun a o u e => by rw [upd_ne (ne_of_none e hL)]; exact ex36.fz a o u e⟩
                    refine ⟨acc, hL6, by omega, ρ6, h6, acc ++ [w], done ++ [y6], ys7, RW, exL, hn6, upd_same, ?_, by simpa using hacc, h7e, by rw [hall]; simp⟩
                    exact (rd6.app (.cons r6 .nil)).monoT (List.prefix_refl _) keepT
                  · cases hrest
                · cases hrest
              · rename_i h5 ht
                refine simT0 R4 ht fun ρ5 H5 ex5 R5 => ?_
                refine iteF ?_
                obtain ⟨hL5, hn5⟩ := ex5.fr L _ hn2 hLn
                refine ⟨ρ5, h5, acc, done, rest, R2n.go ex5 R5.heap, ex3.trans ex5, hn5, hL5, rdn.mono ex5 Rn, by omega, hrest, hall⟩
              · cases hrest
            · cases hrest
          · cases hrest
        · have hi' : i = it.xs.length := by omega
          subst hi'
          rw [List.drop_length] at hrest
          unfold lcL at hrest
          split at hrest
          · rename_i ck
            cases hrest
            rw [List.append_nil] at hall
            subst hall
            refine .inl ⟨(wk ρ2 H2 _ ex2 R2.heap (ckB_ok ck)).1, ?_⟩
            have hz : acc.length ≤ sizeLine := Nat.le_trans hacc hsz
            refine o (ρ2 ++ [L]) H2 (.ref L) ⟨(ex1.trans ex2).pre.trans (List.prefix_append _ _), fun a u na ea => ?_, (ex1.trans ex2).fz⟩ ?_ (.ref (by rw [← R2.heap.len]; simp))
            · obtain ⟨e1, n1⟩ := ex1.fr a u na ea
              obtain ⟨e2, n2⟩ := ex2.fr a u n1 e1
              exact ⟨e2, by simp only [List.mem_append, List.mem_singleton, not_or]; exact ⟨n2, ne_of_none e1 hL⟩⟩
            · exact R2.heap.join hn2 ⟨acc, hL2, hz, rd.monoT (List.prefix_append _ _) fun _ _ _ e => e⟩
          · cases hrest
      · exact o.elim
    · exact o.elim
section
variable {X : Cx} {W : WX} {elt tg iter : Expr} {ifs : List Expr} {scope : Scope} {own : List (Str × Nat)} {pos : Pos} {di : If_} {g : Gf} {tG : TG} {t : Tf} {de : Ef}
theorem e_lc (hc : X.calm = true) (hN : X.N.Nodup) (hi : II X W tg iter di) (ok : BlkOk X.N X.env.scope scope own) (htg : TgOk X.K (own.map (·.2)) g tG)
    (hg : ∀ (s : Shared) (H : Hp) (C : Addr) (cl : List (Str × Addr)) (fp : List Addr), PG (X.blk s H scope (compEnvC scope cl C X.env) fp) tg tG) (ht : ∀ (s : Shared) (H : Hp) (C : Addr) (cl : List (Str × Addr)) (fp : List Addr), PTs (X.blk s H scope (compEnvC scope cl C X.env) fp) ifs (simT X.K W0 t))
    (he : ∀ (s : Shared) (H : Hp) (C : Addr) (cl : List (Str × Addr)) (fp : List Addr), PE (X.blk s H scope (compEnvC scope cl C X.env) fp) elt (simE X.K W0 de)) (hs : ∀ x, foldedSetIterable iter X.env x = pure x := by intro _; rfl) :
    EE X W (.ListComp elt [⟨tg, iter, ifs, 0⟩] scope pos) (dLc (own.map (·.2)) di g t de) := (pe_lc hc hN hi ok hg ht he hs).imp fun σ H Q q => lc_read htg q
theorem s_setLc {i : Nat} {y : Str} {py spos : Pos} (hc : X.calm = true) (hN : X.N.Nodup) (hy : X.N[i]? = some y) (hyl : X.env.scope.names.lookup y = some .local)
    (hsw : swapsWith (.ListComp elt [⟨tg, iter, ifs, 0⟩] scope pos) (some (.Name y py)) spos.line X.env = pure true) (hi : II X W tg iter di) (ok : BlkOk X.N X.env.scope scope own) (htg : TgOk X.K (own.map (·.2)) g tG)
    (hg : ∀ (s : Shared) (H : Hp) (C : Addr) (cl : List (Str × Addr)) (fp : List Addr), PG (X.blk s H scope (compEnvC scope cl C X.env) fp) tg tG) (ht : ∀ (s : Shared) (H : Hp) (C : Addr) (cl : List (Str × Addr)) (fp : List Addr), PTs (X.blk s H scope (compEnvC scope cl C X.env) fp) ifs (simT X.K W0 t))
    (he : ∀ (s : Shared) (H : Hp) (C : Addr) (cl : List (Str × Addr)) (fp : List Addr), PE (X.blk s H scope (compEnvC scope cl C X.env) fp) elt (simE X.K W0 de)) (hs : ∀ x, foldedSetIterable iter X.env x = pure x := by intro _; rfl) :
    SS X W (.Assign [.Name y py] (.ListComp elt [⟨tg, iter, ifs, 0⟩] scope pos) spos) (sSet i (dLc (own.map (·.2)) di g t de)) := (ps_setLc hc hN hy hyl hsw hi ok hg ht he hs).imp fun D σ H ⟨ρ, env, h, R, o⟩ =>
  lc_read htg (simS1 R o fun ρ1 h1 x v H1 R1 r1 ex o1 => o1.nx (R1.set r1 i))
def tYes : Tf := fun _ h => some (.ok true, h)
theorem ts_nil : PTs X [] (simT X.K W S.tYes) := ⟨fun pins s σ H Q I ⟨ρ, env, h, R, o⟩ => pts_nil.run pins s σ H Q I (o.ok R.heap rfl)⟩
theorem ts_one {c : Expr} (h : TT_ X W c t) : PTs X [c] (simT X.K W t) := pts_one h
end
end S
set_option Elab.async false
set_option linter.all false
set_option autoImplicit false
set_option maxRecDepth 100000
set_option maxHeartbeats 1000000
namespace S
open PySem PySem.Spec PyProof.Rows L2

/-! ### where a body stands -/
structure Cty (X : Cx) (W : WX) (k : Nat) : Prop where
  calm : X.calm = true
  tk : Takes X W
  hp : PassesOwn (model X.prog X.w) X.A X.env X.xe
  nd : X.N.Nodup
  room : Room k X.A
theorem Cty.hu {X : Cx} {W : WX} {k : Nat} (c : Cty X W k) : X.A.units + 64 < cLine := c.room.units
theorem Cty.hv {X : Cx} {W : WX} {k : Nat} (c : Cty X W k) : X.A.units + 65 < cLine := by have := c.room.un; omega
theorem Cty.h1 {X : Cx} {W : WX} {k : Nat} (c : Cty X W k) : X.A.units + 1 < cLine := by have := c.room.un; omega
theorem Cty.blk {X : Cx} {W : WX} {k : Nat} (c : Cty X W k) (s : Shared) (H : Hp) (scope : Scope) (cenv : Env) (fp : List Addr) : Cty (X.blk s H scope cenv fp) W0 k :=
  ⟨c.calm, takes0, .never, c.nd, c.room⟩

/-! ### defs -/
def spF (K : PySem.W.Frag) (n : Nat) (f : List D → M D) : Sp := fun vs H Q E => vs.length = n ∧ ∃ ρ h ds, HR K ρ H h ∧ RVs K ρ H ds vs ∧ Out K ρ H E (relV K) (f ds h) Q
structure DefOk (P : Program) (w : World) (K : PySem.W.Frag) (mg : Str → Option Value) (base : Heap) (k : Nat) (x : Str) (n : Nat) (f : List D → M D) : Prop where
  ex : ∃ fd ps, FnOk P w K mg base (L2.CX P w) k (He.ga K x) fd ps (spF K n f) ∧ Binds K fd ps []
  gl : mg x = some (.ref (He.ga K x))
  kp : PySem.W.keepIn K (.ref (He.ga K x)) = true
  len : ∀ ds h r, f ds h = some r → ds.length = n
/-- what a body does with its arguments -/
def bodyF (N n : Nat) (d : Sf) : List D → M D := fun ds h => if ds.length = n then (match d (ds.map some ++ List.replicate (N - n) none) h with
  | some (.nx, _, h) => some (.ok .non, h)
  | some (.rt v, _, h) => some (.ok v, h)
  | some (.exc c fs, _, h) => some (.exc c fs, h)
  | _ => none) else none
section
variable {P : Program} {w : World} {K : PySem.W.Frag} {mg : Str → Option Value} {base : Heap} {x qual : Str} {params : Arguments} {body : List Stmt} {scope : Scope} {fd : FuncData} {N ps : List Str} {n k j : Nat} {d : Sf} {f : List D → M D} {X : Cx} {W : WX}
theorem start_rp {ρ : List Addr} {H : Hp} {h : Hh} {ds : List D} {vs : List V} (R : HR K ρ H h) (r : RVs K ρ H ds vs) (N : List Str) : Rp K ρ (ds.map some ++ List.replicate (N.length - vs.length) none) h (L2.start N vs) H := by
  refine ⟨R, by simp [L2.start, r.length], fun i d e => ?_⟩
  have hi : i < ds.length := by
    by_cases hi : i < ds.length
    · exact hi
    · rw [List.getElem?_append_right (by simpa using hi), List.getElem?_replicate] at e
      split at e <;> cases e
  rw [List.getElem?_append_left (by simpa using hi), List.getElem?_map] at e
  cases q : ds[i]? with
  | none => rw [q] at e; cases e
  | some d' =>
    rw [q] at e
    cases e
    obtain ⟨v, hv, rv⟩ := r.get q
    refine ⟨v, ?_, rv⟩
    unfold L2.start
    rw [List.getElem?_append_left (by simpa [r.length] using hi), List.getElem?_map, hv]
    rfl
theorem def_fn (F : FunD K x qual params body scope [] [] (He.ga K x) fd) (S : FnScope N ps scope) (hn : ps.length = n)
    (hb : ∀ (cdv : Value) (A : Around) (outer : List Env) (s : Shared) (H : Hp) (E : XK),
      Cty (cxOf (L2.CX P w) P w K mg base N qual scope (He.ga K x) cdv A outer s H E) (fun c a _ H' => E c a H') k →
      SB (cxOf (L2.CX P w) P w K mg base N qual scope (He.ga K x) cdv A outer s H E) (fun c a _ H' => E c a H') body d) :
    FnOk P w K mg base (L2.CX P w) (k + 1) (He.ga K x) fd ps (spF K n (bodyF N.length n d)) := by
  refine F.ok S (fun vs H Q E h => h.1.trans hn.symm) fun cdv A outer s H vs Q E hr h => ?_
  obtain ⟨hl, ρ, h, ds, R, r, o⟩ := h
  refine ⟨_, hb cdv A outer s H E ⟨rfl, takes_of rfl rfl rfl rfl, passes_of rfl, S.nd, hr⟩, ρ, _, h, start_rp R r N, ?_⟩
  unfold bodyF at o
  have hd : ds.length = n := by rw [← r.length]; exact hl
  rw [if_pos hd] at o
  rw [hl]
  revert o
  generalize d _ h = z
  intro o
  match z, o with
  | some (.nx, e', h'), o => exact fun ρ' H' σ' x R' => o ρ' H' .non x R'.heap .non
  | some (.rt v, e', h'), o => exact o
  | some (.exc c fs, e', h'), o => exact fun ρ' H' σ' dx ys x R' e q r => o ρ' H' dx ys x R'.heap e q r
theorem body_len : ∀ ds h r, bodyF N.length n d ds h = some r → ds.length = n := fun ds h r e => by
  unfold bodyF at e
  split at e
  · assumption
  · cases e
theorem DefOk.mono (o : DefOk P w K mg base j x n f) (h : j ≤ k) : DefOk P w K mg base k x n f :=
  ⟨let ⟨fd, ps, F, b⟩ := o.ex; ⟨fd, ps, F.mono h, b⟩, o.gl, o.kp, o.len⟩
/-- the same def by another function: where the new one says something, the old one says it too (up to places that nobody names) -/
theorem DefOk.by_ {f' : List D → M D} (o : DefOk P w K mg base k x n f) (h : ∀ ds h r, f' ds h = some r → f ds h = some r) : DefOk P w K mg base k x n f' := by
  obtain ⟨fd, ps, F, b⟩ := o.ex
  refine ⟨⟨fd, ps, F.imp fun vs H Q E q => ?_, b⟩, o.gl, o.kp, fun ds h' r e => o.len ds h' r (h ds h' r e)⟩
  obtain ⟨hl, ρ, h1, ds, R, r, q⟩ := q
  refine ⟨hl, ρ, h1, ds, R, r, ?_⟩
  cases z : f' ds h1 with
  | none => rw [z] at q; exact q.elim
  | some y => rw [h _ _ _ z]; rw [z] at q; exact q
/-- nothing is asked of it -/
theorem DefOk.none (F : FunD K x qual params body scope [] [] (He.ga K x) fd) (b : Binds K fd ps []) (gl : mg x = some (.ref (He.ga K x))) (hn : ps.length = n) : DefOk P w K mg base k x n (fun _ _ => none) :=
  ⟨⟨fd, ps, ⟨fun vs H Q E h => h.1.trans hn.symm, fun A outer s H args us vs Q E _ _ _ _ h => by
    obtain ⟨_, _, _, _, _, _, o⟩ := h
    exact o.elim⟩, b⟩, gl, F.kp, fun _ _ _ e => by cases e⟩
theorem e_call {e : Expr} {es : List Expr} {ds : Af} {p pos : Pos} (o : DefOk X.prog X.w X.K X.mg X.base j x n f) (c : Cty X W k) (hj : j ≤ k) (hg : Gl X x) (ha : AA X W (e :: es) ds)
    (hdb : (x == ("__debug__" : Str)) = false := by decide) (he : starEach (e :: es) X.env = (false, eval e X.env) :: starEach es X.env := by rfl) (hpl : (backTo pos (starEach es X.env)).any (·.1) = false := by rfl) :
    EE X W (.Call (.Name x p) (e :: es) [] pos) (dCall f ds) := by
  obtain ⟨fd, ps, F, b⟩ := o.ex
  refine (pe_callS F (c.room.mono hj) hg o.gl o.kp b (fun σ => passAt c.tk σ) ha hdb he hpl).imp fun σ H Q ⟨ρ, env, h, R, q⟩ => ?_
  refine simA1 R q (fun _ _ _ z => z) fun ρ1 h1 xs vs H1 R1 r1 ex q1 => ?_
  refine ⟨?_, ρ1, h1, xs, R1.heap, r1, q1⟩
  rw [r1.length]
  cases z : f xs h1 with
  | none => rw [z] at q1; exact q1.elim
  | some y => exact o.len _ _ _ z

/-! ### raise C(e) -/
def sRaise (c fld : Str) (e : Ef) : Sf := fun env h => bndS (e env h) env fun d h => some (.exc c [(fld, d)], env, h)
/-- the making of an error with one field -/
def MkS (X : Cx) (c fld : Str) : Prop := ∀ (a : Expr) (ta : TA) (p pos : Pos), PA X [a] ta → PMk X (.Call (.Name c p) [a] [] pos) fun σ H Q => ta σ H fun vs H1 => ∃ v, vs = [v] ∧ ∀ d, H1 d = none → Q (.ref (He.ga X.K c)) (some d) (upd H1 d (.xd [(fld, v)]))
theorem s_raise {a : Expr} {de : Ef} {c fld : Str} {p pos pos2 : Pos} (ct : Cty X W k) (mk : MkS X c fld) (ha : EE X W a de) (hs : starEach [a] X.env = (false, eval a X.env) :: starEach [] X.env := by rfl) : SS X W (.Raise (some (.Call (.Name c p) [a] [] pos)) none pos2) (sRaise c fld de) :=
  (ps_raise ct.calm ct.tk (mk a _ p pos (pa_cons ha pa_nil hs))).imp fun D σ H ⟨ρ, env, h, R, o⟩ => by
    refine simS1 R o fun ρ1 h1 x v H1 R1 r1 ex o1 => ?_
    refine ⟨v, rfl, fun d hd => ?_⟩
    refine o1 ρ1 _ σ d _ (Ex.aside R1.heap hd) (R1.go (Ex.aside R1.heap hd) (R1.heap.aside hd)) upd_same (fun m => (R1.heap.notup m).2.2 hd) ?_
    exact .cons ⟨rfl, r1.mono (Ex.aside R1.heap hd) R1.heap⟩ .nil
end
end S
set_option Elab.async false
set_option linter.all false
set_option autoImplicit false
set_option maxRecDepth 100000
set_option maxHeartbeats 1000000
namespace S
open PySem PySem.Spec PyProof.Rows L2

/-! ### dicts -/
def keyD : D → Option Key
  | .int i => some (.inl i)
  | .str x => some (.inr x)
  | _ => none
def keysD : List D → Option (List Key)
  | [] => some []
  | x :: xs => (match keyD x, keysD xs with
    | some k, some ks => some (k :: ks)
    | _, _ => none)
def isKey (t : Bool) (k : D) : Bool := if t then (match k with
  | .tup xs => (keysD xs).isSome
  | _ => false) else (keyD k).isSome
theorem keyD_of : ∀ {x : D} {k : Key}, keyD x = some k → x = kD k
  | .int i, k, e => by cases e; rfl
  | .str i, k, e => by cases e; rfl
theorem keysD_of : ∀ {xs : List D} {ks : List Key}, keysD xs = some ks → xs = ks.map kD
  | [], ks, e => by cases e; rfl
  | x :: xs, ks, e => by
    unfold keysD at e
    split at e
    · rename_i k ks' h1 h2
      cases e
      rw [keyD_of h1, keysD_of h2]
      rfl
    · cases e
theorem eqD_k (a b : Key) : eqD (kD a) (kD b) = decide (a = b) := by
  cases a <;> cases b <;> simp [kD, eqD] <;> rfl
theorem eqDs_k : ∀ (a b : List Key), eqDs (a.map kD) (b.map kD) = decide (a = b)
  | [], [] => rfl
  | [], _ :: _ => rfl
  | _ :: _, [] => rfl
  | x :: xs, y :: ys => by
    show (eqD (kD x) (kD y) && eqDs (xs.map kD) (ys.map kD)) = _
    rw [eqD_k, eqDs_k xs ys]
    simp
def dlook (kvs : List (D × D)) (k : D) : Option D := (kvs.find? fun p => eqD p.1 k).map (·.2)
def dput (kvs : List (D × D)) (k v : D) : List (D × D) := if (kvs.any fun p => eqD p.1 k) = true then kvs.map (fun p => if eqD p.1 k = true then (p.1, v) else p) else kvs ++ [(k, v)]
section
variable {K : PySem.W.Frag} {ρ : List Addr} {H : Hp} {h : Hh} {κ : Type} [DecidableEq κ] {F : κ → D} {G : κ → Prop}
theorem look_v (hF : ∀ a b, eqD (F a) (F b) = decide (a = b)) {k : κ} : ∀ {kvs : List (D × D)} {ks : List (κ × V)}, Paired (fun p q => p.1 = F q.1 ∧ G q.1 ∧ RV K ρ H p.2 q.2) kvs ks →
    (∀ d, dlook kvs (F k) = some d → ∃ v, valV ks k = some v ∧ RV K ρ H d v) ∧ (dlook kvs (F k) = none → valV ks k = none)
  | _, _, .nil => ⟨fun d e => (by cases e), fun _ => rfl⟩
  | _, _, .cons (a := p) (b := q) r s => by
    obtain ⟨i1, i2⟩ := look_v hF (k := k) s
    obtain ⟨e1, _, r1⟩ := r
    by_cases hk : q.1 = k
    · have he : eqD p.1 (F k) = true := by rw [e1, hF]; simp [hk]
      refine ⟨fun d e => ?_, fun e => ?_⟩
      · unfold dlook at e
        rw [List.find?_cons, he] at e
        cases e
        exact ⟨_, valV_pos hk, r1⟩
      · unfold dlook at e
        rw [List.find?_cons, he] at e
        cases e
    · have he : eqD p.1 (F k) = false := by rw [e1, hF]; simp [hk]
      refine ⟨fun d e => ?_, fun e => ?_⟩
      · unfold dlook at e
        rw [List.find?_cons, he] at e
        rw [valV_neg hk]
        exact i1 d e
      · unfold dlook at e
        rw [List.find?_cons, he] at e
        rw [valV_neg hk]
        exact i2 e
theorem any_k (hF : ∀ a b, eqD (F a) (F b) = decide (a = b)) {k : κ} : ∀ {kvs : List (D × D)} {ks : List (κ × V)}, Paired (fun p q => p.1 = F q.1 ∧ G q.1 ∧ RV K ρ H p.2 q.2) kvs ks → (kvs.any fun p => eqD p.1 (F k)) = ks.any fun q => decide (q.1 = k)
  | _, _, .nil => rfl
  | _, _, .cons r s => by
    rw [List.any_cons, List.any_cons, any_k hF s, r.1, hF]
theorem map_k (hF : ∀ a b, eqD (F a) (F b) = decide (a = b)) {k : κ} {d : D} {v : V} (rv : RV K ρ H d v) : ∀ {kvs : List (D × D)} {ks : List (κ × V)}, Paired (fun p q => p.1 = F q.1 ∧ G q.1 ∧ RV K ρ H p.2 q.2) kvs ks →
    Paired (fun p q => p.1 = F q.1 ∧ G q.1 ∧ RV K ρ H p.2 q.2) (kvs.map (fun p => if eqD p.1 (F k) = true then (p.1, d) else p)) (ks.map (fun q => if q.1 = k then (q.1, v) else q))
  | _, _, .nil => .nil
  | _, _, .cons (a := p) (b := q) r s => by
    refine .cons ?_ (map_k hF rv s)
    by_cases hk : q.1 = k
    · have he : eqD p.1 (F k) = true := by rw [r.1, hF]; simp [hk]
      dsimp only
      rw [if_pos he, if_pos hk]
      exact ⟨r.1, r.2.1, rv⟩
    · have he : ¬ eqD p.1 (F k) = true := by rw [r.1, hF]; simp [hk]
      dsimp only
      rw [if_neg he, if_neg hk]
      exact r
theorem Paired.app {α β : Type} {P : α → β → Prop} : ∀ {xs xs' : List α} {ys ys' : List β}, Paired P xs ys → Paired P xs' ys' → Paired P (xs ++ xs') (ys ++ ys')
  | _, _, _, _, .nil, s => s
  | _, _, _, _, .cons r t, s => .cons r (Paired.app t s)
theorem put_k (hF : ∀ a b, eqD (F a) (F b) = decide (a = b)) {k : κ} (hG : G k) {d : D} {v : V} (rv : RV K ρ H d v) {kvs : List (D × D)} {ks : List (κ × V)} (s : Paired (fun p q => p.1 = F q.1 ∧ G q.1 ∧ RV K ρ H p.2 q.2) kvs ks) :
    Paired (fun p q => p.1 = F q.1 ∧ G q.1 ∧ RV K ρ H p.2 q.2) (dput kvs (F k) d) (putK ks k v) := by
  unfold dput putK
  rw [any_k hF s]
  split
  · exact map_k hF rv s
  · exact Paired.app s (.cons ⟨rfl, hG, rv⟩ .nil)
end
abbrev FT (k : List Key) : D := .tup (k.map kD)
theorem eqD_t (a b : List Key) : eqD (FT a) (FT b) = decide (a = b) := eqDs_k a b
/-- the dict that x is: its place, the kind of its keys, what it holds -/
def dctAt (x : D) (h : Hh) : Option (Nat × Bool × List (D × D)) := match x with
  | .ref l => (match h[l]? with
    | some (.dct t kvs) => some (l, t, kvs)
    | _ => none)
  | _ => none
def dctRd (x : D) (h : Hh) : Option (Bool × List (D × D)) := match x with
  | .ref l => (match h[l]? with
    | some (.dct t kvs) => some (t, kvs)
    | some (.fdc t kvs) => some (t, kvs)
    | _ => none)
  | _ => none
section
variable {K : PySem.W.Frag} {ρ : List Addr} {H : Hp} {h : Hh}
theorem keysV {ks : List Key} : ∀ {xs : List V}, RVs K ρ H (ks.map kD) xs → xs = ks.map kV := by
  induction ks with
  | nil => intro xs r; cases r; rfl
  | cons k ks ih =>
    intro xs r
    cases r with
    | cons r s =>
      rw [ih s]
      cases k with
      | inl i => cases r; rfl
      | inr x => cases r; rfl
theorem keyV {k : Key} {v : V} (r : RV K ρ H (kD k) v) : v = kV k := by
  cases k with
  | inl i => cases r; rfl
  | inr x => cases r; rfl
/-- a look into a dict -/
theorem rd_get {x y : D} {v u : V} {t : Bool} {kvs : List (D × D)} (R : HR K ρ H h) (r1 : RV K ρ H x v) (r2 : RV K ρ H y u) (e : dctRd x h = some (t, kvs)) (hk : isKey t y = true) :
    ∃ a o, v = .ref a ∧ DGet H a u o ∧ (∀ d, dlook kvs y = some d → ∃ w, o = some w ∧ RV K ρ H d w) ∧ (dlook kvs y = none → o = none) := by
  have main : ∀ {a : Addr}, (t = false → ∃ ks, Rd H a (.dK ks) ∧ RKv K ρ H kvs ks) → (t = true → ∃ ks, Rd H a (.dT ks) ∧ RTv K ρ H kvs ks) → ∃ o, DGet H a u o ∧ (∀ d, dlook kvs y = some d → ∃ w, o = some w ∧ RV K ρ H d w) ∧ (dlook kvs y = none → o = none) := fun {a} hf ht => by
    cases t with
    | false =>
      obtain ⟨ks, q, s⟩ := hf rfl
      unfold isKey at hk
      rw [if_neg (by decide)] at hk
      cases e2 : keyD y with
      | none => rw [e2] at hk; cases hk
      | some k =>
        obtain rfl := keyD_of e2
        obtain ⟨i1, i2⟩ := look_v (G := fun _ => True) eqD_k (k := k) s
        refine ⟨valV ks k, .inl ⟨ks, k, q, keyV r2, rfl⟩, i1, i2⟩
    | true =>
      obtain ⟨ks, q, s⟩ := ht rfl
      unfold isKey at hk
      rw [if_pos rfl] at hk
      cases r2 with
      | tup s2 z t2 =>
        rename_i ds b xs
        dsimp only at hk
        cases e2 : keysD ds with
        | none => rw [e2] at hk; cases hk
        | some k =>
          have e3 := keysD_of e2
          subst e3
          obtain ⟨i1, i2⟩ := look_v (G := fun (k : List Key) => k.length ≤ sizeLine) eqD_t (k := k) s
          have e4 := keysV t2
          subst e4
          exact ⟨valV ks k, .inr ⟨ks, k, b, q, rfl, s2, rfl⟩, i1, i2⟩
      | _ => cases hk
  unfold dctRd at e
  cases r1 with
  | ref e1 =>
    dsimp only at e
    split at e
    · rename_i t' kvs' hl
      cases e
      have q := R.at_ _ _ _ hl e1
      obtain ⟨o, h1, h2, h3⟩ := main (a := _) (fun z => by subst z; obtain ⟨ks, q, s⟩ := q; exact ⟨ks, .inl q, s⟩) (fun z => by subst z; obtain ⟨ks, q, s⟩ := q; exact ⟨ks, .inl q, s⟩)
      exact ⟨_, o, rfl, h1, h2, h3⟩
    · rename_i t' kvs' hl
      cases e
      have q := R.at_ _ _ _ hl e1
      obtain ⟨o, h1, h2, h3⟩ := main (a := _) (fun z => by subst z; obtain ⟨ks, o, q, s⟩ := q; exact ⟨ks, .inr ⟨o, q⟩, s⟩) (fun z => by subst z; obtain ⟨ks, o, q, s⟩ := q; exact ⟨ks, .inr ⟨o, q⟩, s⟩)
      exact ⟨_, o, rfl, h1, h2, h3⟩
    · cases e
  | _ => cases e
end

theorem Paired.at {α β : Type} {P : α → β → Prop} : ∀ {xs : List α} {ys : List β} {i : Nat} {x : α} {y : β}, Paired P xs ys → xs[i]? = some x → ys[i]? = some y → P x y
  | _, _, _, _, _, .nil, e, _ => by simp at e
  | _, _, 0, _, _, .cons r s, e, f => by simp at e f; subst e; subst f; exact r
  | _, _, i + 1, _, _, .cons r s, e, f => Paired.at (i := i) s (by simpa using e) (by simpa using f)
theorem keysR {K : PySem.W.Frag} {ρ : List Addr} {H : Hp} : ∀ ks : List Key, RVs K ρ H (ks.map kD) (ks.map kV)
  | [] => .nil
  | .inl i :: ks => .cons (.int i) (keysR ks)
  | .inr x :: ks => .cons (.str x) (keysR ks)
def dNew (t : Bool) : Ef := fun _ h => some (.ok (.ref h.length), h ++ [.dct t []])
def opDix (x y : D) (h : Hh) : Op D := match dctRd x h with
  | some (t, kvs) => if isKey t y then (match dlook kvs y with
    | some d => some (d, h)
    | none => none) else none
  | none => none
def opDin (b : Bool) (y x : D) (h : Hh) : Op D := match dctRd x h with
  | some (t, kvs) => if isKey t y then some (.bl ((dlook kvs y).isSome == b), h) else none
  | none => none
def opDget (x y z : D) (h : Hh) : Op D := match dctRd x h with
  | some (t, kvs) => if isKey t y then some ((dlook kvs y).getD z, h) else none
  | none => none
def dDget1 (a b : Ef) : Ef := fun env h => bnd (a env h) fun x h => if (dctRd x h).isSome then bnd (b env h) fun y h => lft (opDget x y .non h) else none
def dDget2 (a b c : Ef) : Ef := fun env h => bnd (a env h) fun x h => if (dctRd x h).isSome then bnd (b env h) fun y h => bnd (c env h) fun z h => lft (opDget x y z h) else none
def sDput (a b c : Ef) : Sf := fun env h => bndS (c env h) env fun v h => bndS (a env h) env fun x h => bndS (b env h) env fun y h => match dctAt x h with
  | some (l, t, kvs) => if isKey t y ∧ kvs.length < sizeLine then some (.nx, env, h.set l (.dct t (dput kvs y v))) else none
  | none => none
section
variable {X : Cx} {W : WX} {o i e f value : Expr} {da db dc : Ef} {pos pos' apos cpos : Pos} {k : Nat}
theorem e_dnewK : EE X W (.Dict [] [] pos) (dNew false) := pe_dnewK.imp fun σ H Q ⟨ρ, env, h, R, o⟩ p hp => OutP.new (u := O.dct false []) (Out.lft (x := some (D.ref h.length, h ++ [O.dct false []])) o) R.heap hp ⟨[], upd_same, .nil⟩
theorem e_dnewT : EE X W (.Dict [] [] pos) (dNew true) := pe_dnewT.imp fun σ H Q ⟨ρ, env, h, R, o⟩ p hp => OutP.new (u := O.dct true []) (Out.lft (x := some (D.ref h.length, h ++ [O.dct true []])) o) R.heap hp ⟨[], upd_same, .nil⟩
theorem e_dix (c : Cty X W k) (ho : EE X W o da) (hi : EE X W i db) (hs : NoSl i) : EE X W (.Subscript o i pos) (dBin opDix da db) := (pe_dget c.h1 ho hi hs).imp fun σ H Q ⟨ρ, env, h, R, o⟩ => by
  refine sim1 R o (fun _ _ _ z => z) fun ρ1 h1 x v H1 R1 r1 ex o1 => ?_
  refine sim1 R1 o1 (fun _ _ _ z => z) fun ρ2 h2 y u H2 R2 r2 ex2 o2 => ?_
  have o3 := o2.lft
  unfold opDix at o3
  split at o3
  · rename_i t kvs hd
    split at o3
    · rename_i hk
      split at o3
      · rename_i d hdl
        obtain ⟨a, ov, rfl, g, i1, i2⟩ := rd_get R2.heap (r1.mono ex2 R1.heap) r2 hd hk
        obtain ⟨w, rfl, rw_⟩ := i1 d hdl
        exact ⟨a, w, rfl, g, o3.same R2.heap rw_⟩
      · exact o3.elim
    · exact o3.elim
  · exact o3.elim
theorem din_core (b : Bool) {σ : L2.St} {H : Hp} {Q : VK} {ρ : List Addr} {env : En} {h : Hh} {Wk : WK} (hW : ∀ c a H', Wk c a H' → W c a σ H') (R : Rp X.K ρ env h σ H) (o : Out X.K ρ H Wk (relV X.K) (dBin (opDin b) da db env h) Q) :
    simE X.K W da σ H fun y H1 => simE X.K W db σ H1 fun x H2 => ∃ a o, x = .ref a ∧ DGet H2 a y o ∧ Q (.bl (o.isSome == b)) H2 := by
  refine sim1 R o hW fun ρ1 h1 y v H1 R1 r1 ex o1 => ?_
  refine sim1 R1 o1 hW fun ρ2 h2 x u H2 R2 r2 ex2 o2 => ?_
  have o3 := o2.lft
  unfold opDin at o3
  split at o3
  · rename_i t kvs hd
    split at o3
    · rename_i hk
      obtain ⟨a, ov, rfl, g, i1, i2⟩ := rd_get R2.heap r2 (r1.mono ex2 R1.heap) hd hk
      have e : ov.isSome = (dlook kvs y).isSome := by
        cases q : dlook kvs y with
        | none => rw [i2 q]; rfl
        | some d => obtain ⟨w, e, _⟩ := i1 d q; rw [e]; rfl
      exact ⟨a, ov, rfl, g, by rw [e]; exact o3.same R2.heap (.bl _)⟩
    · exact o3.elim
  · exact o3.elim
theorem e_din (c : Cty X W k) (hi : EE X W i da) (ho : EE X W o db) (h1 : behindInMarks .In o = false := by rfl) : EE X W (.Compare i [.In] [o] pos) (dBin (opDin true) da db) := (pe_cmp (pc_din c.h1 hi ho) h1).imp fun σ H Q ⟨ρ, env, h, R, o⟩ => by
  have q := din_core (X := X) (W := W) true (fun _ _ _ z => z) R o
  simp only [beq_true] at q
  exact q
theorem e_dnotin (c : Cty X W k) (hi : EE X W i da) (ho : EE X W o db) (h1 : behindInMarks .NotIn o = false := by rfl) : EE X W (.Compare i [.NotIn] [o] pos) (dBin (opDin false) da db) := (pe_cmp (pc_dnotin c.h1 hi ho) h1).imp fun σ H Q ⟨ρ, env, h, R, o⟩ => by
  have q := din_core (X := X) (W := W) false (fun _ _ _ z => z) R o
  simp only [beq_false] at q
  exact q
theorem tcmp_out {op : D → D → Hh → Op D} {ρ : List Addr} {H : Hp} {env : En} {h : Hh} {Wk : WK} {Q : Bool → Hp → Prop} (o : Out X.K ρ H Wk relB (S.tCmp op da db env h) Q) : Out X.K ρ H Wk (relV X.K) (dBin op da db env h) (fun x H1 => ∃ c, x = .bl c ∧ Q c H1) := by
  unfold S.tCmp at o
  unfold dBin
  revert o
  generalize da env h = z
  intro o
  match z, o with
  | some (.exc c fs, h'), o => exact o
  | some (.ok x, h1), o =>
    dsimp only [bnd_ok] at o ⊢
    revert o
    generalize db env h1 = z2
    intro o
    match z2, o with
    | some (.exc c fs, h'), o => exact o
    | some (.ok y, h2), o =>
      dsimp only [bnd_ok] at o ⊢
      revert o
      generalize op x y h2 = z3
      intro o
      match z3, o with
      | some (.bl c, h3), o =>
        exact fun ρ' H' v x R r => by
          cases r
          exact ⟨c, rfl, o ρ' H' c x R rfl⟩
theorem t_din (c : Cty X W k) (hi : EE X W i da) (ho : EE X W o db) (h1 : behindInMarks .In o = false := by rfl) : TT_ X W (.Compare i [.In] [o] pos) (S.tCmp (opDin true) da db) := (pt_cmp (pc_din c.h1 hi ho) h1).imp fun σ H Q ⟨ρ, env, h, R, o⟩ => by
  have q := din_core (X := X) (W := W) true (fun _ _ _ z => z) R (tcmp_out o)
  simp only [beq_true] at q
  exact q
theorem t_dnotin (c : Cty X W k) (hi : EE X W i da) (ho : EE X W o db) (h1 : behindInMarks .NotIn o = false := by rfl) : TT_ X W (.Compare i [.NotIn] [o] pos) (S.tCmp (opDin false) da db) := (pt_cmp (pc_dnotin c.h1 hi ho) h1).imp fun σ H Q ⟨ρ, env, h, R, o⟩ => by
  have q := din_core (X := X) (W := W) false (fun _ _ _ z => z) R (tcmp_out o)
  simp only [beq_false] at q
  exact q
theorem rd_isD {K : PySem.W.Frag} {ρ : List Addr} {H : Hp} {h : Hh} {x : D} {v : V} (R : HR K ρ H h) (r : RV K ρ H x v) (e : (dctRd x h).isSome = true) : ∃ a, v = .ref a ∧ IsD H a := by
  unfold dctRd at e
  cases r with
  | ref e1 =>
    dsimp only at e
    split at e
    · rename_i t kvs hl
      have q := R.at_ _ _ _ hl e1
      cases t
      · obtain ⟨ks, q, s⟩ := q; exact ⟨_, rfl, .inl ⟨ks, .inl q⟩⟩
      · obtain ⟨ks, q, s⟩ := q; exact ⟨_, rfl, .inr ⟨ks, .inl q⟩⟩
    · rename_i t kvs hl
      have q := R.at_ _ _ _ hl e1
      cases t
      · obtain ⟨ks, o, q, s⟩ := q; exact ⟨_, rfl, .inl ⟨ks, .inr ⟨o, q⟩⟩⟩
      · obtain ⟨ks, o, q, s⟩ := q; exact ⟨_, rfl, .inr ⟨ks, .inr ⟨o, q⟩⟩⟩
    · cases e
  | _ => cases e
theorem getD_v {K : PySem.W.Frag} {ρ : List Addr} {H : Hp} {kvs : List (D × D)} {y z : D} {w : V} {ov : Option V} (i1 : ∀ d, dlook kvs y = some d → ∃ w, ov = some w ∧ RV K ρ H d w) (i2 : dlook kvs y = none → ov = none) (rz : RV K ρ H z w) : RV K ρ H ((dlook kvs y).getD z) (ov.getD w) := by
  cases q : dlook kvs y with
  | none => rw [i2 q]; exact rz
  | some d => obtain ⟨u, e, r⟩ := i1 d q; rw [e]; exact r
theorem e_dget1 (c : Cty X W k) (ho : EE X W o da) (he : EE X W e db) (m : M1 X o "get" apos e cpos) : EE X W (.Call (.Attribute o "get" apos) [e] [] cpos) (dDget1 da db) := (pe_dget1 c.h1 ho he m).imp fun σ H Q ⟨ρ, env, h, R, o⟩ => by
  refine sim1 R o (fun _ _ _ z => z) fun ρ1 h1 x v H1 R1 r1 ex o1 => ?_
  split at o1
  · rename_i hd
    obtain ⟨a, rfl, hD⟩ := rd_isD R1.heap r1 hd
    refine ⟨a, rfl, hD, sim1 R1 o1 (fun _ _ _ z => z) fun ρ2 h2 y u H2 R2 r2 ex2 o2 => ?_⟩
    have o3 := o2.lft
    unfold opDget at o3
    split at o3
    · rename_i t kvs hd
      split at o3
      · rename_i hk
        obtain ⟨a', ov, e, g, i1, i2⟩ := rd_get R2.heap (r1.mono ex2 R1.heap) r2 hd hk
        cases e
        exact ⟨ov, g, o3.same R2.heap (getD_v i1 i2 .non)⟩
      · exact o3.elim
    · exact o3.elim
  · exact o1.elim
theorem e_dget2 (c : Cty X W k) (ho : EE X W o da) (he : EE X W e db) (hf : EE X W f dc) (m : M2 X o "get" apos e f cpos) : EE X W (.Call (.Attribute o "get" apos) [e, f] [] cpos) (dDget2 da db dc) := (pe_dget2 c.h1 ho he hf m).imp fun σ H Q ⟨ρ, env, h, R, o⟩ => by
  refine sim1 R o (fun _ _ _ z => z) fun ρ1 h1 x v H1 R1 r1 ex o1 => ?_
  split at o1
  · rename_i hd
    obtain ⟨a, rfl, hD⟩ := rd_isD R1.heap r1 hd
    refine ⟨a, rfl, hD, sim1 R1 o1 (fun _ _ _ z => z) fun ρ2 h2 y u H2 R2 r2 ex2 o2 => ?_⟩
    refine sim1 R2 o2 (fun _ _ _ z => z) fun ρ3 h3 z w H3 R3 r3 ex3 o2 => ?_
    have o3 := o2.lft
    unfold opDget at o3
    split at o3
    · rename_i t kvs hd
      split at o3
      · rename_i hk
        obtain ⟨a', ov, e, g, i1, i2⟩ := rd_get R3.heap ((r1.mono ex2 R1.heap).mono ex3 R2.heap) (r2.mono ex3 R2.heap) hd hk
        cases e
        exact ⟨ov, g, o3.same R3.heap (getD_v i1 i2 r3)⟩
      · exact o3.elim
    · exact o3.elim
  · exact o1.elim
theorem s_dput (c : Cty X W k) (ho : EE X W o da) (hi : EE X W i db) (hv : EE X W value dc) (hs : swapsWith value (some (.Subscript o i pos')) pos.line X.env = pure false := by rfl) : SS X W (.Assign [.Subscript o i pos'] value pos) (sDput da db dc) := (ps_dput c.h1 ho hi hv hs).imp fun E σ H ⟨ρ, env, h, R, o⟩ => by
  refine simS1 R o fun ρ1 h1 v vv H1 R1 r1 ex o1 => ?_
  refine simS1 R1 o1 fun ρ2 h2 x vx H2 R2 r2 ex2 o2 => ?_
  refine simS1 R2 o2 fun ρ3 h3 y vy H3 R3 r3 ex3 o3 => ?_
  split at o3
  · rename_i l t kvs hd
    split at o3
    · rename_i hk
      have r1' := (r1.mono ex2 R1.heap).mono ex3 R2.heap
      have r2' := r2.mono ex3 R2.heap
      unfold dctAt at hd
      cases r2' with
      | ref e1 =>
        rename_i l' a
        dsimp only at hd
        split at hd
        · rename_i t' kvs' hl
          cases hd
          have q := R3.heap.at_ _ _ _ hl e1
          obtain ⟨hk, hz⟩ := hk
          unfold isKey at hk
          cases t with
          | false =>
            obtain ⟨ks, q, s⟩ := q
            rw [if_neg (by decide)] at hk
            cases e2 : keyD y with
            | none => rw [e2] at hk; cases hk
            | some kk =>
              have e3 := keyD_of e2
              subst e3
              have e4 := keyV r3
              subst e4
              have m := Ex.put (H := H3) (o := .dK (putK ks kk vv)) (List.mem_of_getElem? e1) (by rw [q]; trivial)
              refine ⟨a, _, rfl, DPut.k q (by rw [Paired.len s]; exact hz), o3 ρ3 _ σ m (R3.go m (R3.heap.put e1 (by rw [q]; trivial) ⟨_, upd_same, ?_⟩))⟩
              exact put_k (G := fun _ => True) eqD_k trivial (r1'.mono m R3.heap) (Paired.mono (fun _ _ z => ⟨z.1, z.2.1, z.2.2.mono m R3.heap⟩) s)
          | true =>
            obtain ⟨ks, q, s⟩ := q
            rw [if_pos rfl] at hk
            cases r3 with
            | tup s2 z_ t2 =>
              rename_i ds b xs
              dsimp only at hk
              cases e2 : keysD ds with
              | none => rw [e2] at hk; cases hk
              | some kk =>
                have e3 := keysD_of e2
                subst e3
                have e4 := keysV t2
                subst e4
                have m := Ex.put (H := H3) (o := .dT (putK ks kk vv)) (List.mem_of_getElem? e1) (by rw [q]; trivial)
                refine ⟨a, _, rfl, DPut.t q s2 (by rw [Paired.len s]; exact hz), o3 ρ3 _ σ m (R3.go m (R3.heap.put e1 (by rw [q]; trivial) ⟨_, upd_same, ?_⟩))⟩
                exact put_k (G := fun (k : List Key) => k.length ≤ sizeLine) eqD_t (by rw [List.length_map] at z_; exact z_) (r1'.mono m R3.heap) (Paired.mono (fun _ _ z => ⟨z.1, z.2.1, z.2.2.mono m R3.heap⟩) s)
            | _ => cases hk
        · cases hd
      | _ => cases hd
    · exact o3.elim
  · exact o3.elim

/-! ### for k in d -/
def unlk (l : Nat) (t : Bool) (kvs : List (D × D)) (h : Hh) : Option Hh := match h[l]? with
  | some (.fdc _ _) => some (h.set l (.dct t kvs))
  | _ => none
noncomputable def sForD (i : Nat) (g : Gf) (b : Sf) : Sf := fun env h => match getv env i with
  | some x => (match dctAt x h with
    | some (l, t, kvs) => (match forL g b [] (kvs.map (·.1)) env (h.set l (.fdc t kvs)) with
      | some (.exc _ _, _, _) => none
      | some (fl, env', h') => (match unlk l t kvs h' with
        | some h2 => some (fl, env', h2)
        | none => none)
      | none => none)
    | none => none)
  | none => none

theorem s_forD {tg : Expr} {body : List Stmt} {i : Nat} {x : Str} {p : Pos} {g : Gf} {d : Sf} (c : Cty X W k) (pe : PE X (.Name x p) (tVar i)) (hg : PG X tg (simG X.K g)) (hb : SB X W body d)
    (hs : ∀ v, foldedSetIterable (.Name x p) X.env v = pure v := by intro _; rfl) : SS X W (.For tg (.Name x p) body [] pos) (sForD i g d) := (ps_lock (ps_for c.hp c.calm (pi_keys pe) hg hb hs)).imp fun E σ H ⟨ρ, env, h, R, o⟩ => by
  unfold sForD at o
  split at o
  · rename_i y hy
    obtain ⟨v, ev, rv⟩ := R.slot i y (getv_at hy)
    split at o
    · rename_i l t kvs hd
      -- the place
      have hpl : y = .ref l ∧ h[l]? = some (.dct t kvs) := by
        unfold dctAt at hd
        split at hd
        · split at hd
          · rename_i l' t' kvs' hl
            cases hd
            exact ⟨rfl, hl⟩
          · cases hd
        · cases hd
      obtain ⟨rfl, hl⟩ := hpl
      cases rv with
      | ref e1 =>
      rename_i a
      have main : ∀ (u : HO) (J : Obj → It), H a = some u → Mut (some u) → (∀ xs, u ≠ .tup xs) → (∀ od ρ' H', Ex ρ H ρ' H' → H' a = some (.frz od u) → RO X.K ρ' H' a (.fdc t kvs)) → (∀ ρ' H', Ex ρ H ρ' H' → H' a = some u → RO X.K ρ' H' a (.dct t kvs)) →
          (∀ od, Walk X.K ρ (upd H a (.frz od u)) ⟨kvs.map (·.1), []⟩ (J od)) →
          (∀ od (R' : It → Hp → Prop), R' (J od) (upd H a (.frz od u)) → iKeys (tVar i) σ (upd H a (.frz od u)) R') →
          tLock (tFor (iKeys (tVar i)) (simG X.K g) (simS X.K W d)) E σ H := fun u J hu mu nt hf ht wk ik => by
        refine ⟨a, u, hu, mu, fun od => ?_⟩
        have ha : a ∈ ρ := List.mem_of_getElem? e1
        have ex0 : Ex ρ H ρ (upd H a (.frz od u)) := Ex.put ha (by rw [hu]; exact mu)
        have R1 : Rp X.K ρ env (h.set l (.fdc t kvs)) σ (upd H a (.frz od u)) := R.go ex0 (R.heap.putA e1 (hf od _ _ ex0 upd_same))
        -- behind the loop
        have back : ∀ {ρ' H' h' h2}, Ex ρ (upd H a (.frz od u)) ρ' H' → HR X.K ρ' H' h' → unlk l t kvs h' = some h2 → H' a = some (.frz od u) ∧ Ex ρ H ρ' (upd H' a u) ∧ HR X.K ρ' (upd H' a u) h2 ∧ KT H' (upd H' a u) := fun {ρ' H' h' h2} x R' hu2 => by
          have z := x.fz a od u upd_same
          have ex2 : Ex ρ H ρ' (upd H' a u) := ⟨x.pre, fun b o nb e => by
              have hb : b ≠ a := fun q => nb (q ▸ ha)
              obtain ⟨q1, q2⟩ := x.fr b o nb (by rw [upd_ne hb]; exact e)
              exact ⟨by rw [upd_ne hb]; exact q1, q2⟩, fun b o w e => by
              have hb : b ≠ a := fun q => by
                subst q
                rw [hu] at e
                cases e
                exact mu
              rw [upd_ne hb]
              exact x.fz b o w (by rw [upd_ne hb]; exact e)⟩
          refine ⟨z, ex2, ?_, fun b xs k e => ?_⟩
          · unfold unlk at hu2
            split at hu2
            · cases hu2
              exact R'.putA (pre_get x.pre e1) (ht _ _ ex2 upd_same)
            · cases hu2
          · have hb : b ≠ a := fun q => by
              subst q
              rw [z] at e
              cases e
              cases k
            rw [upd_ne hb]; exact e
        have backR : ∀ {ρ' H' e' h' h2 σ'}, Ex ρ (upd H a (.frz od u)) ρ' H' → Rp X.K ρ' e' h' σ' H' → unlk l t kvs h' = some h2 → H' a = some (.frz od u) ∧ Ex ρ H ρ' (upd H' a u) ∧ Rp X.K ρ' e' h2 σ' (upd H' a u) := fun {ρ' H' e' h' h2 σ'} x R' hu2 => by
          obtain ⟨b1, b2, b3, b4⟩ := back x R'.heap hu2
          exact ⟨b1, b2, b3, R'.len, fun j d e => by
            obtain ⟨w, e2, r⟩ := R'.slot j d e
            exact ⟨w, e2, r.monoT (List.prefix_refl _) b4⟩⟩
        refine ik od _ (for_core (it := ⟨kvs.map (·.1), []⟩) R1 (wk od) ?_)
        dsimp only
        revert o
        generalize forL g d [] (kvs.map (·.1)) env (h.set l (.fdc t kvs)) = z
        intro o
        match z, o with
        | some (.nx, e', h'), o =>
          intro ρ' H' σ' x R'
          dsimp only at o
          split at o
          · rename_i h2 hh
            obtain ⟨b1, b2, b3⟩ := backR x R' hh
            exact ⟨b1, o ρ' _ σ' b2 b3⟩
          · exact o.elim
        | some (.bk, e', h'), o =>
          intro ρ' H' σ' x R'
          dsimp only at o
          split at o
          · rename_i h2 hh
            obtain ⟨b1, b2, b3⟩ := backR x R' hh
            exact ⟨b1, o ρ' _ σ' b2 b3⟩
          · exact o.elim
        | some (.ct, e', h'), o =>
          intro ρ' H' σ' x R'
          dsimp only at o
          split at o
          · rename_i h2 hh
            obtain ⟨b1, b2, b3⟩ := backR x R' hh
            exact ⟨b1, o ρ' _ σ' b2 b3⟩
          · exact o.elim
        | some (.rt v, e', h'), o =>
          intro ρ' H' w x R' r
          dsimp only at o
          split at o
          · rename_i h2 hh
            obtain ⟨b1, b2, b3, b4⟩ := back x R' hh
            exact ⟨b1, o ρ' _ w b2 b3 (r.monoT (List.prefix_refl _) b4)⟩
          · exact o.elim
      have q := R.heap.at_ _ _ _ hl e1
      cases t with
      | false =>
        obtain ⟨ks, q, s⟩ := q
        have hlen := Paired.len s
        refine main (.dK ks) (fun od => Itk a od ks) q trivial (fun xs z => by cases z) (fun od ρ' H' x e => ⟨ks, od, e, Paired.mono (fun _ _ z => ⟨z.1, z.2.1, z.2.2.mono x R.heap⟩) s⟩) (fun ρ' H' x e => ⟨ks, e, Paired.mono (fun _ _ z => ⟨z.1, z.2.1, z.2.2.mono x R.heap⟩) s⟩) (fun od => ?_) (fun od R' r => ⟨_, ev, a, od, rfl, .inl ⟨ks, upd_same, r⟩⟩)
        intro ρ' H' h' x R' _
        have hz := x.fz a od _ upd_same
        refine ⟨⟨hz, by rw [List.length_map, hlen]; exact Nat.le_refl _⟩, fun j y hj => ?_⟩
        have hjl : j < ks.length := by have := (List.getElem?_eq_some_iff.mp hj).1; rw [List.length_map] at this; omega
        refine ⟨⟨hz, hjl⟩, fun v Hn yy => ?_⟩
        obtain ⟨rfl, kk, w, e2, rfl⟩ := yy
        refine ⟨Ex.refl, R', ?_⟩
        rw [List.getElem?_map] at hj
        cases q3 : kvs[j]? with
        | none => rw [q3] at hj; cases hj
        | some pr =>
          rw [q3] at hj
          cases hj
          have := Paired.at s q3 e2
          show RV X.K ρ' _ pr.1 _
          rw [this.1]
          cases kk with
          | inl n => exact .int n
          | inr z => exact .str z
      | true =>
        obtain ⟨ks, q, s⟩ := q
        have hlen := Paired.len s
        refine main (.dT ks) (fun od => Itkt a od ks) q trivial (fun xs z => by cases z) (fun od ρ' H' x e => ⟨ks, od, e, Paired.mono (fun _ _ z => ⟨z.1, z.2.1, z.2.2.mono x R.heap⟩) s⟩) (fun ρ' H' x e => ⟨ks, e, Paired.mono (fun _ _ z => ⟨z.1, z.2.1, z.2.2.mono x R.heap⟩) s⟩) (fun od => ?_) (fun od R' r => ⟨_, ev, a, od, rfl, .inr ⟨ks, upd_same, r⟩⟩)
        intro ρ' H' h' x R' _
        have hz := x.fz a od _ upd_same
        refine ⟨⟨hz, by rw [List.length_map, hlen]; exact Nat.le_refl _⟩, fun j y hj => ?_⟩
        have hjl : j < ks.length := by have := (List.getElem?_eq_some_iff.mp hj).1; rw [List.length_map] at this; omega
        refine ⟨⟨hz, hjl⟩, fun v Hn yy => ?_⟩
        obtain ⟨rfl, kk, w, b, e2, rfl, eb⟩ := yy
        refine ⟨Ex.refl, R', ?_⟩
        rw [List.getElem?_map] at hj
        cases q3 : kvs[j]? with
        | none => rw [q3] at hj; cases hj
        | some pr =>
          rw [q3] at hj
          cases hj
          have := Paired.at s q3 e2
          show RV X.K ρ' _ pr.1 _
          rw [this.1]
          exact .tup eb (by rw [List.length_map]; exact this.2.1) (keysR kk)
    · exact o.elim
  · exact o.elim
end
end S
set_option Elab.async false
set_option linter.all false
set_option autoImplicit false
set_option maxRecDepth 100000
set_option maxHeartbeats 1000000
namespace S
open PySem PySem.Spec PyProof.Rows L2
section
variable {X : Cx} {W : WX} {a b c' e : Expr} {es : List Expr} {da db dc : Ef} {ds : Af} {pos p : Pos} {k : Nat}
theorem e_globI' {x : Str} {i : Int} {pos : Pos} (hg : Gl X x) (hm : ∃ t, X.mg x = some (.int i t)) (hd : (x == ("__debug__" : Str)) = false := by decide) : EE X W (.Name x pos) (dC (.int i)) := let ⟨_, e⟩ := hm; e_globI hg e hd
def opNeg (x : D) (h : Hh) : Op D := match x with
  | .int i => some (.int (-i), h)
  | _ => none
theorem e_neg (ha : EE X W a da) : EE X W (.UnaryOp .USub a pos) (dUn opNeg da) := (pe_un un_neg ha).imp fun σ H Q ⟨ρ, env, h, R, o⟩ =>
  sim1 R o (fun _ _ _ z => z) fun ρ1 h1 x v H1 R1 r1 ex o1 => by
    have o2 := o1.lft
    cases r1 with
    | int i => exact ⟨i, rfl, o2.same R1.heap (.int _)⟩
    | _ => exact o2.elim
/-- a op b op' c -/
def dChain (op op' : D → D → Hh → Op D) (a b c : Ef) : Ef := fun env h => bnd (a env h) fun x h => bnd (b env h) fun y h => match op x y h with
  | some (.bl true, h) => bnd (c env h) fun z h => lft (op' y z h)
  | some (.bl false, h) => some (.ok (.bl false), h)
  | _ => none
theorem e_chain {o1 o2 : CmpOp} {op op' : D → D → Hh → Op D} (h1 : OpS X (compareOp o1) op) (h2 : OpS X (compareOp o2) op') (ha : EE X W a da) (hb : EE X W b db) (hc : EE X W c' dc)
    (hm : lastMarks [o1, o2] [b, c'] = false := by with_unfolding_all rfl) : EE X W (.Compare a [o1, o2] [b, c'] pos) (dChain op op' da db dc) := (pe_chain h1 h2 ha hb hc hm).imp fun σ H Q ⟨ρ, env, h, R, o⟩ => by
  refine sim1 R o (fun _ _ _ z => z) fun ρ1 h1 x v H1 R1 r1 ex q1 => ?_
  refine sim1 R1 q1 (fun _ _ _ z => z) fun ρ2 h2 y u H2 R2 r2 ex2 q2 => ?_
  refine ⟨ρ2, h2, x, y, R2.heap, r1.mono ex2 R1.heap, r2, ?_⟩
  revert q2
  generalize op x y h2 = z
  intro q2
  match z, q2 with
  | some (.bl true, h3), q2 =>
    intro ρ3 H3 v3 ex3 R3 r3
    cases r3
    refine ⟨true, rfl, iteT ?_⟩
    refine sim1 (R2.go ex3 R3) (Out.from ex3 q2) (fun _ _ _ z => z) fun ρ4 h4 w v4 H4 R4 r4 ex4 q4 => ?_
    exact ⟨ρ4, h4, y, w, R4.heap, (r2.mono ex3 R2.heap).mono ex4 R3, r4, q4.lft⟩
  | some (.bl false, h3), q2 =>
    intro ρ3 H3 v3 ex3 R3 r3
    cases r3
    exact ⟨false, rfl, iteF ((Out.from ex3 q2).ok R3 (.bl _))⟩
def tChain_ (op op' : D → D → Hh → Op D) (a b c : Ef) : Tf := tV (dChain op op' a b c)
theorem tv_out {d : Ef} {ρ : List Addr} {H : Hp} {env : En} {h : Hh} {Wk : WK} {Q : Bool → Hp → Prop} (hb : ∀ env h x h', d env h = some (.ok x, h') → ∃ b, x = .bl b) (o : Out X.K ρ H Wk relB (tV d env h) Q) : Out X.K ρ H Wk (relV X.K) (d env h) (fun x H1 => ∃ c, x = .bl c ∧ Q c H1) := by
  unfold tV at o
  have hb' := hb env h
  revert o hb'
  generalize d env h = z
  intro o hb'
  match z, o with
  | some (.exc c fs, h'), o => exact o
  | some (.ok x, h1), o =>
    obtain ⟨b, rfl⟩ := hb' x h1 rfl
    exact fun ρ' H' v x R r => by
      cases r
      exact ⟨b, rfl, o ρ' H' b x R rfl⟩
theorem t_chain {o1 o2 : CmpOp} {op op' : D → D → Hh → Op D} (h1 : OpS X (compareOp o1) op) (h2 : OpS X (compareOp o2) op') (hbl : ∀ x y h z h', op' x y h = some (z, h') → ∃ b, z = .bl b) (ha : EE X W a da) (hb : EE X W b db) (hc : EE X W c' dc)
    (hm : lastMarks [o1, o2] [b, c'] = false := by with_unfolding_all rfl) : TT_ X W (.Compare a [o1, o2] [b, c'] pos) (tV (dChain op op' da db dc)) := (pt_chain h1 h2 ha hb hc hm).imp fun σ H Q ⟨ρ, env, h, R, o⟩ => by
  have o := tv_out (X := X) (fun env h x h' e => by
    unfold dChain at e
    revert e
    generalize da env h = z
    intro e
    match z, e with
    | some (.ok x1, h1), e =>
      dsimp only [bnd_ok] at e
      revert e
      generalize db env h1 = z2
      intro e
      match z2, e with
      | some (.ok x2, h2), e =>
        dsimp only [bnd_ok] at e
        split at e
        · rename_i h3 _
          revert e
          generalize dc env h3 = z3
          intro e
          match z3, e with
          | some (.ok x3, h4), e =>
            dsimp only [bnd_ok] at e
            cases q : op' x2 x3 h4 with
            | none => rw [q] at e; cases e
            | some y =>
              rw [q] at e
              cases e
              exact hbl _ _ _ _ _ q
        · cases e; exact ⟨_, rfl⟩
        · cases e) o
  refine sim1 R o (fun _ _ _ z => z) fun ρ1 h1 x v H1 R1 r1 ex q1 => ?_
  refine sim1 R1 q1 (fun _ _ _ z => z) fun ρ2 h2 y u H2 R2 r2 ex2 q2 => ?_
  refine ⟨ρ2, h2, x, y, R2.heap, r1.mono ex2 R1.heap, r2, ?_⟩
  revert q2
  generalize op x y h2 = z
  intro q2
  match z, q2 with
  | some (.bl true, h3), q2 =>
    intro ρ3 H3 v3 ex3 R3 r3
    cases r3
    refine ⟨true, rfl, iteT ?_⟩
    refine sim1 (R2.go ex3 R3) (Out.from ex3 q2) (fun _ _ _ z => z) fun ρ4 h4 w v4 H4 R4 r4 ex4 q4 => ?_
    exact ⟨ρ4, h4, y, w, R4.heap, (r2.mono ex3 R2.heap).mono ex4 R3, r4, q4.lft⟩
  | some (.bl false, h3), q2 =>
    intro ρ3 H3 v3 ex3 R3 r3
    cases r3
    exact ⟨false, rfl, iteF ((Out.from ex3 q2).ok R3 (.bl _))⟩
theorem bl_B {g : Int → Int → Bool} : ∀ x y h z h', opB g x y h = some (z, h') → ∃ b, z = D.bl b := fun x y h z h' e => by
  unfold opB at e
  split at e
  · cases e; exact ⟨_, rfl⟩
  · cases e
/-! tuple(range(n)), list(range(n)) -/
def rgOk (a b : Int) : Bool := decide (-(2 ^ 62) ≤ a) && decide (a < 2 ^ 62) && decide (-(2 ^ 62) ≤ b) && decide (b < 2 ^ 62) && decide ((b - a).toNat ≤ 2 ^ 24)
theorem rgOk_of {a b : Int} (h : rgOk a b = true) : RgOk a b := by
  unfold rgOk at h
  simp only [Bool.and_eq_true, decide_eq_true_eq] at h
  exact ⟨h.1.1.1.1, h.1.1.1.2, h.1.1.2, h.1.2, h.2⟩
def dTupRg (a b : Ef) : Ef := fun env h => bnd (a env h) fun x h => bnd (b env h) fun y h => match x, y with
  | .int i, .int j => if rgOk i j then some (.ok (.tup (rgD i (j - i).toNat)), h) else none
  | _, _ => none
def dLstRg (a b : Ef) : Ef := fun env h => bnd (a env h) fun x h => bnd (b env h) fun y h => match x, y with
  | .int i, .int j => if rgOk i j then some (.ok (.ref h.length), h ++ [.lst (rgD i (j - i).toNat)]) else none
  | _, _ => none
theorem rg_v {K : PySem.W.Frag} {ρ : List Addr} {H : Hp} (a b : Int) : RVs K ρ H (rgD a (b - a).toNat) (rgV a b) := by
  unfold rgD rgV
  generalize List.range (b - a).toNat = l
  induction l with
  | nil => exact .nil
  | cons i l ih => exact .cons (.int _) ih
def PRgS (X : Cx) (W : WX) (e : Expr) (a b : Ef) : Prop := ∃ te : L2.St → Hp → (Int → Int → Hp → Prop) → Prop, PRg X e te ∧ ∀ (k : Int → Int → Hh → Ot D) σ H (Q : V → Hp → Prop) ρ env h, Rp X.K ρ env h σ H →
  Out X.K ρ H (fun c a H' => W c a σ H') (relV X.K) (bnd (a env h) fun x h => bnd (b env h) fun y h => match x, y with
    | .int i, .int j => k i j h
    | _, _ => none) Q → ∀ Q', (∀ ρ1 h1 i j H1, Rp X.K ρ1 env h1 σ H1 → Ex ρ H ρ1 H1 → Out X.K ρ1 H1 (fun c a H' => W c a σ H') (relV X.K) (k i j h1) Q → Q' i j H1) → te σ H Q'
theorem rg_1 (hg : Gl X "range") (hm : X.mg "range" = none) (ha : EE X W a da) (na : starEach [a] X.env = (false, eval a X.env) :: starEach [] X.env := by rfl) : PRgS X W (.Call (.Name "range" p) [a] [] pos) (dC (.int 0)) da :=
  ⟨_, prg_1 hg hm ha na, fun kk σ H Q ρ env h R o Q' f => sim1 (d := da) (k := fun y h => match (D.int 0), y with
    | .int i, .int j => kk i j h
    | _, _ => none) R o (fun _ _ _ z => z) fun ρ1 h1 x v H1 R1 r1 ex o1 => by
    cases r1 with
    | int i => exact ⟨i, rfl, f ρ1 h1 0 i H1 R1 ex o1⟩
    | _ => exact o1.elim⟩
theorem rg_2 (hg : Gl X "range") (hm : X.mg "range" = none) (ha : EE X W a da) (hb : EE X W b db) (na : starEach [a, b] X.env = (false, eval a X.env) :: starEach [b] X.env := by rfl) (nb : starEach [b] X.env = (false, eval b X.env) :: starEach [] X.env := by rfl) (np : (backTo pos (starEach [b] X.env)).any (·.1) = false := by rfl) : PRgS X W (.Call (.Name "range" p) [a, b] [] pos) da db :=
  ⟨_, prg_2 hg hm ha hb na nb np, fun kk σ H Q ρ env h R o Q' f => sim1 R o (fun _ _ _ z => z) fun ρ1 h1 x v H1 R1 r1 ex o1 => by
    refine sim1 R1 o1 (fun _ _ _ z => z) fun ρ2 h2 y u H2 R2 r2 ex2 o2 => ?_
    cases r1 with
    | int i =>
      cases r2 with
      | int j => exact ⟨i, j, rfl, rfl, f ρ2 h2 i j H2 R2 (ex.trans ex2) o2⟩
      | _ => exact o2.elim
    | _ => cases r2 <;> exact o2.elim⟩
theorem e_tupRg (c : Cty X W k) (hg : Gl X "tuple") (hm : X.mg "tuple" = none) (he : PRgS X W e da db) (na : starEach [e] X.env = (false, eval e X.env) :: starEach [] X.env := by rfl) : EE X W (.Call (.Name "tuple" p) [e] [] pos) (dTupRg da db) := by
  obtain ⟨te, hp, hr⟩ := he
  refine (pe_tupRg c.calm hg hm hp na).imp fun σ H Q ⟨ρ, env, h, R, o⟩ => hr (fun i j h => if rgOk i j then some (.ok (.tup (rgD i (j - i).toNat)), h) else none) σ H Q ρ env h R o _ fun ρ1 h1 i j H1 R1 ex o1 => ?_
  split at o1
  · rename_i hk
    have ok := rgOk_of hk
    exact ⟨ok, fun q hq => OutP.tup (ds := rgD i (j - i).toNat) (Out.lft (x := some (D.tup (rgD i (j - i).toNat), h1)) o1) R1.heap hq (by rw [rgV_length, sizeLine_eq]; have := ok.2.2.2.2; omega) (rg_v i j)⟩
  · exact o1.elim
theorem e_lstRg (c : Cty X W k) (hg : Gl X "list") (hm : X.mg "list" = none) (he : PRgS X W e da db) (na : starEach [e] X.env = (false, eval e X.env) :: starEach [] X.env := by rfl) : EE X W (.Call (.Name "list" p) [e] [] pos) (dLstRg da db) := by
  obtain ⟨te, hp, hr⟩ := he
  refine (pe_listRg c.calm hg hm hp na).imp fun σ H Q ⟨ρ, env, h, R, o⟩ => hr (fun i j h => if rgOk i j then some (Rs.ok (D.ref h.length), h ++ [O.lst (rgD i (j - i).toNat)]) else none) σ H Q ρ env h R o _ fun ρ1 h1 i j H1 R1 ex o1 => ?_
  split at o1
  · rename_i hk
    have ok := rgOk_of hk
    exact ⟨ok, fun q hq => OutP.new (u := O.lst (rgD i (j - i).toNat)) (Out.lft (x := some (D.ref h1.length, h1 ++ [O.lst (rgD i (j - i).toNat)])) o1) R1.heap hq ⟨_, upd_same, by rw [rgV_length, sizeLine_eq]; have := ok.2.2.2.2; omega, rg_v i j⟩⟩
  · exact o1.elim
/-! comprehensions, by the context -/
section
variable {elt tg iter : Expr} {ifs : List Expr} {scope : Scope} {own : List (Str × Nat)} {di : If_} {g : Gf} {tG : TG} {t : Tf} {de : Ef}
theorem e_lcC (c : Cty X W k) (hi : II X W tg iter di) (ok : BlkOk X.N X.env.scope scope own) (htg : TgOk X.K (own.map (·.2)) g tG)
    (hg : ∀ (s : Shared) (H : Hp) (C : Addr) (cl : List (Str × Addr)) (fp : List Addr), Cty (X.blk s H scope (compEnvC scope cl C X.env) fp) W0 k → PG (X.blk s H scope (compEnvC scope cl C X.env) fp) tg tG) (ht : ∀ (s : Shared) (H : Hp) (C : Addr) (cl : List (Str × Addr)) (fp : List Addr), Cty (X.blk s H scope (compEnvC scope cl C X.env) fp) W0 k → PTs (X.blk s H scope (compEnvC scope cl C X.env) fp) ifs (simT X.K W0 t))
    (he : ∀ (s : Shared) (H : Hp) (C : Addr) (cl : List (Str × Addr)) (fp : List Addr), Cty (X.blk s H scope (compEnvC scope cl C X.env) fp) W0 k → PE (X.blk s H scope (compEnvC scope cl C X.env) fp) elt (simE X.K W0 de)) (hs : ∀ x, foldedSetIterable iter X.env x = pure x := by intro _; rfl) :
    EE X W (.ListComp elt [⟨tg, iter, ifs, 0⟩] scope pos) (dLc (own.map (·.2)) di g t de) :=
  e_lc c.calm c.nd hi ok htg (fun s H C cl fp => hg s H C cl fp (c.blk s H _ _ _)) (fun s H C cl fp => ht s H C cl fp (c.blk s H _ _ _)) (fun s H C cl fp => he s H C cl fp (c.blk s H _ _ _)) hs
theorem s_lcC {i : Nat} {y : Str} {py spos : Pos} (c : Cty X W k) (hy : X.N[i]? = some y) (hyl : X.env.scope.names.lookup y = some .local)
    (hsw : swapsWith (.ListComp elt [⟨tg, iter, ifs, 0⟩] scope pos) (some (.Name y py)) spos.line X.env = pure true) (hi : II X W tg iter di) (ok : BlkOk X.N X.env.scope scope own) (htg : TgOk X.K (own.map (·.2)) g tG)
    (hg : ∀ (s : Shared) (H : Hp) (C : Addr) (cl : List (Str × Addr)) (fp : List Addr), Cty (X.blk s H scope (compEnvC scope cl C X.env) fp) W0 k → PG (X.blk s H scope (compEnvC scope cl C X.env) fp) tg tG) (ht : ∀ (s : Shared) (H : Hp) (C : Addr) (cl : List (Str × Addr)) (fp : List Addr), Cty (X.blk s H scope (compEnvC scope cl C X.env) fp) W0 k → PTs (X.blk s H scope (compEnvC scope cl C X.env) fp) ifs (simT X.K W0 t))
    (he : ∀ (s : Shared) (H : Hp) (C : Addr) (cl : List (Str × Addr)) (fp : List Addr), Cty (X.blk s H scope (compEnvC scope cl C X.env) fp) W0 k → PE (X.blk s H scope (compEnvC scope cl C X.env) fp) elt (simE X.K W0 de)) (hs : ∀ x, foldedSetIterable iter X.env x = pure x := by intro _; rfl) :
    SS X W (.Assign [.Name y py] (.ListComp elt [⟨tg, iter, ifs, 0⟩] scope pos) spos) (sSet i (dLc (own.map (·.2)) di g t de)) :=
  s_setLc c.calm c.nd hy hyl hsw hi ok htg (fun s H C cl fp => hg s H C cl fp (c.blk s H _ _ _)) (fun s H C cl fp => ht s H C cl fp (c.blk s H _ _ _)) (fun s H C cl fp => he s H C cl fp (c.blk s H _ _ _)) hs
end
end
/-! ### the law -/
theorem law_sp {K : PySem.W.Frag} {f : List D → M D} {H : Hp} {a : Addr} {ns : List Int} (hO : Only H) (hS : SqL K H a (ns.map V.int)) (hl : ns.length ≤ 63)
    (h1 : ∃ h', f [.ref 0] [.fro (ns.map D.int)] = some (.ok (.bl true), h')) (h2 : ∃ h', f [.kl (ns.map D.int)] [] = some (.ok (.bl true), h')) :
    spF K 1 f [.ref a] H (fun v _ => v = .bl true) fun _ _ _ => False := by
  have ri : ∀ ρ, RVs K ρ H (ns.map D.int) (ns.map V.int) := fun ρ => by
    clear hS hl h1 h2
    induction ns with
    | nil => exact .nil
    | cons n ns ih => exact .cons (.int n) ih
  have hz : (ns.map V.int).length ≤ sizeLine := by rw [List.length_map, sizeLine_eq]; omega
  refine ⟨rfl, ?_⟩
  rcases hS with (hS | ⟨o, hS⟩) | hS
  · rcases hO a with e | ⟨o, xs, e⟩
    · rw [e] at hS; cases hS
    · rw [e] at hS; cases hS
  · obtain ⟨h', e⟩ := h1
    refine ⟨[a], _, [.ref 0], ⟨rfl, by simp, fun l u b e1 e2 => ?_⟩, .cons (.ref rfl) .nil, by rw [e]; exact fun ρ' H' v x R r => by cases r; rfl⟩
    cases l with
    | zero =>
      simp at e1 e2
      subst e1; subst e2
      exact ⟨_, o, hS, hz, ri _⟩
    | succ l => simp at e1
  · obtain ⟨h', e⟩ := h2
    exact ⟨[], [], [.kl (ns.map D.int)], ⟨rfl, by simp, fun l u b e1 e2 => by simp at e1⟩, .cons (.kl hS hz (ri _)) .nil, by rw [e]; exact fun ρ' H' v x R r => by cases r; rfl⟩
end S
set_option Elab.async false
set_option linter.all false
set_option autoImplicit false
set_option maxRecDepth 100000
set_option maxHeartbeats 2000000
namespace PySem
namespace EMK
open PySem.W PySem.Calls PyProof.Rows PySem.HandSPX
/-! ### the text of __init__: super().__init__(msg); self.fld = fld -/
def iA (fld : Str) (p1 p2 : Pos) : Arguments := { posonlyargs := [], args := [{ arg := "self", annotation := none, pos := p1 }, { arg := fld, annotation := none, pos := p2 }], vararg := none, kwonlyargs := [], kw_defaults := [], kwarg := none, defaults := [] }
def iB (msg fld : Str) (j : Nat) (q0 q1 q2 q3 q4 q5 q6 q7 q8 q9 : Pos) : List Stmt :=
  [.Expr (.Call (.Attribute (.Call (.Name "super" q0) [] [] q1) "__init__" q2) [.Constant (.str msg) j q3] [] q4) q5, .Assign [.Attribute (.Name "self" q6) fld q7] (.Name fld q8) q9]
def iS (fld : Str) : Scope := { kind := .function, names := [(PySem.Str.ofString "self", .local), (fld, .local), (PySem.Str.ofString "__class__", .free), (PySem.Str.ofString "super", .globalImplicit)], isGenerator := false, isCoroutine := false }
structure ETx (prog : Program) (K : Frag) (mg : Str → Option Value) (x fld : Str) (C fI cc cda : Addr) : Prop where
  gC : mg x = some (.ref C)
  cls : ∃ nm q N bs bm sn sub ab col dd k0 k1 k2 k3 k5, K.lookup C = some (excClassObj nm q C N bs bm true sn sub ab col dd k0 k1 k2 k3 k5 "ValueError.__new__") ∧ refsVE bm = true
  init : excInitIn K C veTail "ValueError.__new__" = true
  sa : findIn K (.ref C) "__setattr__" = some (some (.builtin "object.__setattr__"))
  noN : findIn K (.ref C) fld = some none
  iC : findIn K (.ref C) "__init__" = some (some (.ref fI))
  tC : typeIn K (.ref fI) = some (.type "function")
  kp : keepIn K (.ref C) = true
  exC : subIn K (.ref C) (.type "BaseException") = some true
  tyC : typeIn K (.ref C) = some (.type "type")
  fn : ∃ (oc : Value) (od : Option Addr) (doc pm : Value) (an : Option Addr) (ct : Value) (osl : Array (Option Value)) (qual msg : Str) (j : Nat) (p1 p2 q0 q1 q2 q3 q4 q5 q6 q7 q8 q9 : Pos),
    K.lookup fI = some ⟨oc, od, .func (ksFn "__init__" qual (iA fld p1 p2) (iB msg fld j q0 q1 q2 q3 q4 q5 q6 q7 q8 q9) (iS fld) .none .none doc pm an (.ref cda) ct cc), osl⟩ ∧ codeIn K (.ref cda) qual = true ∧
      (∀ (s : Shared) (u v : Value), BindsTo s (ksFn "__init__" qual (iA fld p1 p2) (iB msg fld j q0 q1 q2 q3 q4 q5 q6 q7 q8 q9) (iS fld) .none .none doc pm an (.ref cda) ct cc) ⟨[u, v], []⟩ [("self", u), (fld, v)]) ∧
      ∃ pl : Env → Sem Bool, ∀ env : Env, eval (.Call (.Attribute (.Call (.Name "super" q0) [] [] q1) "__init__" q2) [.Constant (.str msg) j q3] [] q4) env = (do
        let ov ← attributeBase (.Call (.Name "super" q0) [] [] q1) "__init__" env (eval (.Call (.Name "super" q0) [] [] q1) env)
        standAt q2.atName
        let (f, first) ← holding [ov] (getMethod ov "__init__" (pl env))
        callWith q4 f first (backTo q4 (starEach [.Constant (.str msg) j q3] env)) [])
  code : ∃ (ccl : Value) (cdd : Option Addr) (vs : Array Value) (ccs : Array (Option Value)) (tf : Tok), K.lookup cda = some ⟨ccl, cdd, .fields vs, ccs⟩ ∧ vs[2]? = some (.str prog.main.file tf)
  cell : ∃ (cl : Value) (cld : Option Addr) (csl : Array (Option Value)), K.lookup cc = some ⟨cl, cld, .cell (some (.ref C)), csl⟩
  opq : nsIn K cStatics "thirdparty.any" = some none
  sup : ks_superIn K C C "__init__" = some (some (.builtin "ValueError.__init__"))
  subV : subIn K (.ref C) (.type "ValueError") = some true
  mroC : mroIn K C (.ref C) = some true
  zs : mg "super" = none
  top : (prog.main.scope.names.lookup ("super" : Str)).isSome = false
  fS : (fld == ("self" : Str)) = false
  fD : (fld == ("__debug__" : Str)) = false
  kF : (iS fld).names.lookup fld = some .local
  kC : (iS fld).names.lookup ("__class__" : Str) = some .free
  kU : (iS fld).names.lookup ("super" : Str) = some .globalImplicit
/-- what __init__ leaves of a fresh exception at x -/
structure InitEnd (h h' : Heap) (x C dx t1 : Addr) (fld : Str) (v : Value) : Prop where
  keep : ∀ b o, b ≠ x → h.get? b = some o → h'.get? b = some o
  obj : h'.get? x = some { cls := .ref C, dict := some dx, data := .fields #[.ref t1, .none, .none, .none, .bool false, .none] }
  dbig : h.objs.size ≤ dx
  dne : dx ≠ x
  ns : h'.Ns1 dx (fun y => if y = fld then some v else none)
section
variable {prog : Program} {w : World} {A : Around} {E : Value → Shared → Prop} {R : Result → Shared → Prop} {s : Shared} {K : Frag} {mg mb : Str → Option Value} {x fld : Str} {C fI cc cda : Addr}
theorem ex_init (T : ETx prog K mg x fld C fI cc cda) {e t0 : Addr} {v : Value} (X : K.In s.heap) (hlim : s.heap.NoLimit) (G : s.heap.Ns mainGlobals mg) (B : s.heap.Ns builtinsNs mb) (BB : ∀ x : Str, x ≠ "__name__" → mb x = bootBuiltins x)
    (hx : s.heap.get? e = some (excO C t0)) (hnx : K.lookup e = none) (hroom : A.depth < recursionLimit)
    (hq : ∀ h' tk dx t1, InitEnd s.heap h' e C dx t1 fld v → R (.ok (.ret .none)) { s with heap := h', toks := tk }) :
    codeAny (model prog w) A (.call (.ref fI) ⟨[.ref e, v], []⟩) R s := by
  obtain ⟨oc, od, doc, pm, an, ct, osl, qual, msg, j, p1, p2, q0, q1, q2, q3, q4, q5, q6, q7, q8, q9, ho, hcd, hbd, pl, hev⟩ := T.fn
  obtain ⟨ccl, cdd, vs, ccs, tf, hcode, hvs⟩ := T.code
  obtain ⟨cl, cld, csl, hcell⟩ := T.cell
  obtain ⟨nm, q, N, bs, bm, sn, sub, ab, col, dd, k0, k1, k2, k3, k5, hC, hbm⟩ := T.cls
  have hcl : clsIn K C = some { name := nm, bases := bs, mro := .ref C :: bm, ns := N, qualname := q, hasDict := true, slotNames := sn, subclasses := sub, abstract := ab, collection := col, hasDel := false } := by unfold clsIn; rw [hC] <;> rfl
  have kS : (iS fld).names.lookup ("self" : Str) = some .local := rfl
  have kF := T.kF
  have kC := T.kC
  have kU := T.kU
  have hD : ∃ oD, s.heap.get? C = some oD ∧ oD.data = .cls { name := nm, bases := bs, mro := .ref C :: bm, ns := N, qualname := q, hasDict := true, slotNames := sn, subclasses := sub, abstract := ab, collection := col, hasDel := false } := ⟨_, X _ _ hC, rfl⟩
  refine ks_codeAny_call_defAt (fd := ksFn "__init__" qual (iA fld p1 p2) (iB msg fld j q0 q1 q2 q3 q4 q5 q6 q7 q8 q9) (iS fld) .none .none doc pm an (.ref cda) ct cc) (binds := [("self", .ref e), (fld, v)]) hroom (X _ _ ho) rfl hlim (codeRec_of X hcd) rfl (hbd _ _ _) ?_ ?_ (fun h₁ hn k => ?_) rfl rfl rfl
  · intro y hy
    simp only [iS, List.mem_cons, List.not_mem_nil, or_false] at hy
    rcases hy with rfl | rfl | rfl | rfl <;> (intro z; cases z)
  · intro y hy
    simp only [List.mem_cons, List.not_mem_nil, or_false] at hy
    rcases hy with rfl | rfl
    · rfl
    · exact kF
  have hse : (("self" : Str) == fld) = false := by
    have := T.fS
    simp only [beq_eq_false_iff_ne] at this ⊢
    exact fun z => this z.symm
  have m1 : ([(("self" : Str), Value.ref e), (fld, v)].reverse.lookup ("self" : Str)) = some (.ref e) := by
    show (match ("self" : Str) == fld with | true => some v | false => _) = _
    rw [hse]
    rfl
  have m2 : ([(("self" : Str), Value.ref e), (fld, v)].reverse.lookup fld) = some v := by
    show (match fld == fld with | true => some v | false => _) = _
    rw [beq_self_eq_true]
  have X₁ : K.In h₁ := X.keeps k
  have hx₁ := k _ _ hx
  have hL : s.heap.objs.size ≠ e := Nat.ne_of_gt (Heap.lt_size hx)
  -- the ledger: all but e, below the frame
  let h₀ : Heap := hideAll s.heap [e]
  have h0in : K.In h₀ := fun b o hb => PySem.W.hideAll_get _ (X b o hb) (fun z => by
    simp only [List.mem_cons, List.not_mem_nil, or_false] at z
    rw [z, hnx] at hb
    cases hb)
  have F1 : Fr h₀ s.heap.objs.size h₁ (fun y => [(("self" : Str), Value.ref e), (fld, v)].reverse.lookup y) := ⟨hn, fun b o hb => k b o (PySem.W.of_hideAll _ hb), Nat.le_of_eq (PySem.W.hideAll_size _ _)⟩
  have N1 : News h₀ s.heap.objs.size h₁ [(e, excObj C t0 none .none)] := fun p hp => by
    simp only [List.mem_cons, List.not_mem_nil, or_false] at hp
    subst hp
    exact ⟨hx₁, Ne.symm hL, PySem.W.hideAll_none _ (by simp)⟩
  have I1 : InstAt h₁ e (excObj C t0 none .none) C none := InstAt.of_exc0 N1 (by simp)
  obtain ⟨oD, hD1, hD2⟩ := hD
  refine ks_wpAt_execs_cons (ks_wpAt_Expr_any (ks_wpAt_MethodCall ?_ (hev _)) rfl rfl)
  refine ks_wpAt_super_base (f := fI) (cc := cda) (tf := tf) kU kC (by decide) rfl (X₁ _ _ ho) rfl (ar := { arg := "self", annotation := none, pos := p1 }) rfl rfl (X₁ _ _ hcode) rfl hvs (beq_self_eq_true _) T.top ?_
  refine ks_loadName_global rfl kU (loadGlobal_builtin (G.keeps k) T.zs (B.keeps k) ((BB _ (by decide +kernel)).trans (show bootBuiltins "super" = some (.type "super") by decide +kernel)) ⟨rfl, ?_⟩)
  refine wpAny_loadName_free rfl kC (c := cc) rfl ⟨_, X₁ _ _ hcell, rfl⟩ ?_
  refine wpAny_loadName_local rfl rfl hn m1 ?_
  refine ks_wpAny_isType_cls (k _ _ hD1) hD2 ⟨rfl, ?_⟩
  refine ks_wpAny_call_super (k _ _ hD1) hD2 I1.at_ I1.cls (fun c z => by cases z) (looks_mroIn X₁ T.mroC) (fun h2 e2 k2 => ?_)
  obtain ⟨F2, N2, l2⟩ := ks_newsPush (s := { s with heap := h₁, toks := s.toks + 2 }) F1 N1 rfl e2 k2
  have I2 : InstAt h2 e (excObj C t0 none .none) C none := InstAt.of_exc0 N2 (by simp)
  refine kxs_method kxs_ValueError F2 h0in N2 (by simp) I2 T.opq T.sup T.subV (by decide) (fun u h3 F3 N3 l3 => ?_)
  refine kxs_callWith1 (i := "ValueError.__init__") (x := e) N3 (by simp) ?_
  show wpAny _ _ (spliced ((false, eval (.Constant (.str msg) j q3) _) :: [])) _ _ _
  refine Calls.spliced_cons (Calls.Constant_str (Calls.spliced_nil ⟨kxs_at N3 (by simp), ?_⟩))
  have ne1 : h₁.objs.size ≠ e := Nat.ne_of_gt (Heap.lt_size hx₁)
  have ne2 : u ≠ e := Nat.ne_of_gt (l3 (e, excObj C t0 none .none) (by simp))
  refine kxs_call (nw := fun o' => [(u, kxs_mw "ValueError.__init__" e), (h₁.objs.size, { cls := Value.type "super", data := Data.fields #[Value.ref C, Value.ref e, Value.ref C] }), (e, o')]) F3 h0in N3 F.excBase_ValueError T.init (by simp) (UpdF.tail ne2 (UpdF.tail ne1 (UpdF.head (fun _ z => nomatch z)))) (show 1 ≤ sizeLine by decide) (fun t1 h4 F4 N4 l4 => ?_)
  show wpAt _ _ _ (execs _ _) _ _ _
  have hx4 : h4.get? e = some (excObj C t1 none .none) := (N4 (e, excObj C t1 none .none) (by simp)).1
  have X4 : K.In h4 := h0in.keeps F4.keep
  have k4 : ∀ b o, b ≠ e → s.heap.get? b = some o → h4.get? b = some o := fun b o hb z => F4.keep b o (PySem.W.hideAll_get _ z (by simpa using hb))
  have hn4 := F4.ns
  have lt4 : h₁.objs.size ≤ h4.objs.size := by
    exact Nat.le_of_lt <| Heap.lt_size (N4 (h₁.objs.size, { cls := Value.type "super", data := Data.fields #[Value.ref C, Value.ref e, Value.ref C] }) (by simp)).1
  refine wpAt_of_wpAny (wpAny_execs_cons (plainObj_wpAny_Assign_Attribute ?_))
  refine wpAny_Name (wpAny_loadName_local rfl kF hn4 m2 ?_) T.fD
  refine wpAny_Name (wpAny_loadName_local rfl kS hn4 m1 ?_) (by decide)
  refine set_plain X4 (ox := excObj C t1 none .none) (od := none) ⟨hx4, rfl, rfl, trivial⟩ T.sa ?_
  refine exc_osa X4 hx4 hcl (show refsVE (.ref C :: bm) = true from hbm) rfl T.noN (fun h₃ tk₃ dx k₃ dn dne hx₃ hn₃ => ?_)
  show wpAny _ _ (execs _ _) _ _ _
  have z : s.heap.objs.size < h₁.objs.size := hn.lt
  exact wpAny_execs_nil (hq h₃ tk₃ dx t1 ⟨fun b o hb e => k₃ b o hb (k4 b o hb e), hx₃, Nat.le_trans (Nat.le_of_lt z) (Nat.le_trans lt4 dn), dne, hn₃⟩)
structure OwnMade (h h' : Heap) (e C d : Addr) (fld : Str) (v : Value) : Prop where
  keep : ∀ b o, h.get? b = some o → h'.get? b = some o
  new : h.objs.size ≤ e
  obj : ∃ oe vs, h'.get? e = some oe ∧ oe.cls = .ref C ∧ oe.dict = some d ∧ oe.data = .fields vs ∧ vs[1]? = some .none
  dbig : h.objs.size ≤ d
  dne : d ≠ e
  ns : h'.Ns1 d (fun y => if y = fld then some v else none)
theorem ex_made (T : ETx prog K mg x fld C fI cc cda) {v : Value} (X : K.In s.heap) (hlim : s.heap.NoLimit) (G : s.heap.Ns mainGlobals mg) (B : s.heap.Ns builtinsNs mb) (BB : ∀ x : Str, x ≠ "__name__" → mb x = bootBuiltins x) (hroom : A.depth + 1 < recursionLimit)
    (hq : ∀ h' tk e d, OwnMade s.heap h' e C d fld v → R (.ok (.ret (.ref e))) { s with heap := h', toks := tk }) :
    codeAny (model prog w) A (.call (.ref C) ⟨[v], []⟩) R s := by
  obtain ⟨nm, q, N, bs, bm, sn, sub, ab, col, dd, k0, k1, k2, k3, k5, hC, hbm⟩ := T.cls
  obtain ⟨hp, g, dr, tk, os⟩ := s
  have k : ∀ b o, hp.get? b = some o → ((hp.push (kdv_tup [v])).push (excO C hp.objs.size)).get? b = some o := fun b o e => Heap.get?_push_of_some _ (Heap.get?_push_of_some _ e)
  have hget : ((hp.push (kdv_tup [v])).push (excO C hp.objs.size)).get? (hp.objs.size + 1) = some (excO C hp.objs.size) := by heap_get
  have hnx : K.lookup (hp.objs.size + 1) = none := by
    cases e : K.lookup (hp.objs.size + 1) with
    | none => rfl
    | some o =>
      have z : hp.get? (hp.objs.size + 1) = some o := X _ _ e
      exact absurd (Nat.lt_of_succ_lt (Heap.lt_size z)) (Nat.lt_irrefl _)
  refine call_own F.excBase_ValueError (fun X => refsVE_contains X bm hbm) (X _ _ hC) (looks_findIn X T.iC) (fun self => bind_fn X self T.tC) (show 1 ≤ sizeLine by decide) ?_
  refine ex_init (s := ⟨(hp.push (kdv_tup [v])).push (excO C hp.objs.size), g, dr, tk, os⟩) T (X.keeps k) (hlim.keeps k) (G.keeps k) (B.keeps k) BB hget hnx ?_ fun h' tk' dx t1 ⟨k', hx, dn, dne, hns⟩ => ?_
  · show A.depth + 1 < recursionLimit
    exact hroom
  · have old : ∀ b o, hp.get? b = some o → h'.get? b = some o := fun b o e => k' b o (Nat.ne_of_lt (Nat.lt_succ_of_lt (Heap.lt_size e))) (k b o e)
    have z : hp.objs.size + 1 + 1 ≤ dx := by
      first
        | (simpa only [Heap.size_push] using dn)
        | exact dn
        | (have q := dn; rw [Heap.size_push, Heap.size_push] at q; exact q)
    exact ⟨rfl, hq h' tk' (hp.objs.size + 1) dx ⟨old, Nat.le_succ _, ⟨_, _, hx, rfl, rfl, rfl, rfl⟩, Nat.le_trans (Nat.le_trans (Nat.le_succ _) (Nat.le_succ _)) z, dne, hns⟩⟩
end
end EMK
end PySem
namespace L2
open PySem PySem.Spec PyProof.Rows
theorem relO_fld {fld : Str} {v : V} {v' : Value} (r : RelV v v') (f : Str) : RelO (List.lookup f [(fld, v)]) (if f = fld then some v' else none) := by
  by_cases hw : f = fld
  · subst hw
    rw [if_pos rfl]
    have q : List.lookup f [(f, v)] = some v := by simp [List.lookup]
    rw [q]
    exact r
  · rw [if_neg hw]
    have q2 : List.lookup f [(fld, v)] = none := by
      have qw : (f == fld) = false := by simpa using hw
      simp [List.lookup, qw]
    rw [q2]
    trivial
end L2
namespace He
open L2 PySem PySem.Spec PyProof.Rows PySem.HandSPX
section
variable {X : Cx} {x fld : Str} {fI cc cda : Addr} {k : Nat}
theorem mk_own (T : EMK.ETx X.prog X.K X.mg x fld (He.ga X.K x) fI cc cda) (hdb : (x == ("__debug__" : Str)) = false) (hg : Gl X x) (hr : Room k X.A)
    {a : Expr} {ta : TA} {p pos : Pos} (ha : PA X [a] ta) (he : starEach (a :: []) X.env = (false, eval a X.env) :: starEach [] X.env) (hpl : (backTo pos (starEach [] X.env)).any (·.1) = false) :
    PMk X (.Call (.Name x p) [a] [] pos) fun σ H Q => ta σ H fun vs H1 => ∃ v, vs = [v] ∧ ∀ d, H1 d = none → Q (.ref (He.ga X.K x)) (some d) (upd H1 d (.xd [(fld, v)])) := by
  intro pins s σ H Q I h
  refine wpAny_Call_Name_kw (ld_glob I hg T.gC ?_ hdb)
  refine PySem.W.callWith_K (h₀ := X.base) I.ok.mod.kin T.kp (thn (ha.run pos pins s σ H _ I h) fun us s1 hh => ?_) he hpl
  obtain ⟨vs, H1, I1, r1, v, ev, q1⟩ := hh
  subst ev
  refine ⟨I1.kIn, ?_⟩
  cases r1 with
  | cons rv rn =>
    rename_i v' us'
    cases rn
    show wpAny _ _ (call (.ref _) [v']) _ _ _
    have hlim := I1.nolimit
    obtain ⟨mb, hB, hBB⟩ := I1.ok.mod.blt
    obtain ⟨hp, g, dr, tk, os⟩ := s1
    refine wpAny_call (EMK.ex_made T I1.kIn hlim (I1.ok.mod.glob.keeps I1.bk) (hB.keeps I1.bk) hBB (by have := hr.dp; omega) fun h' tk' e d M => ?_)
    show MkP X pins σ Q (.ref e) ⟨h', g, dr, tk', os⟩
    obtain ⟨oe, fv, hoe, hc, hd, hdat, h1⟩ := M.obj
    have hns := M.ns
    obtain ⟨G', g1, g2⟩ := restrict h' fun b => decide (b ≠ e)
    have gk : ∀ b, b ≠ e → G'.get? b = h'.get? b := fun b hb => g1 b (decide_eq_true hb)
    have ge : G'.get? e = none := g2 e (by simp)
    have old : ∀ b o, hp.get? b = some o → G'.get? b = some o := fun b o q => (gk b (Nat.ne_of_lt (Nat.lt_of_lt_of_le (Heap.lt_size q) M.new))).trans (M.keep b o q)
    have ob : ObjOk X.prog X.w (upd H1 d (.xd [(fld, v)])) G' d (.xd [(fld, v)]) :=
      ⟨_, hns.at (fun o q => (gk d M.dne).trans q), fun f => relO_fld rv f⟩
    have J : Inv X pins σ (upd H1 d (.xd [(fld, v)])) ⟨G', g, dr, tk', os⟩ := I1.laid (t' := tk') old M.dbig ob
    refine ⟨e, oe, fv, ⟨G', g, dr, tk', os⟩, _, .ref _, some d, rfl, J, fun b o q => ?_, ge, hoe, ⟨hc, hd⟩, hdat, h1, ?_, rfl, I1.bare, raises_own T.exC T.tyC, q1 d (I1.hok.fresh M.dbig)⟩
    · by_cases hb : b = e
      · have q' : G'.get? b = some o := q
        rw [hb, ge] at q'; cases q'
      · exact (gk b hb).symm.trans q
    · rw [upd_ne (Ne.symm M.dne)]
      exact I1.hok.fresh M.new
end
end He
set_option Elab.async false
set_option linter.all false
set_option autoImplicit false
set_option maxRecDepth 100000
set_option maxHeartbeats 2000000
namespace S
open PySem PySem.Spec PyProof.Rows L2
/-! ### try: body, clauses with and without a name -/
abbrev Cl := Value × Option Nat × (Addr → Value → Option Addr → TS)
/-- D behind the suite: the name is gone -/
def offD (i : Option Nat) (D : Ends) : Ends := match i with
  | none => D
  | some i => { nx := fun σ' H' => D.nx (σ'.set i none) H', rt := D.rt, bk := fun σ' H' => D.bk (σ'.set i none) H', ct := fun σ' H' => D.ct (σ'.set i none) H' }
def onS (i : Option Nat) (a : Addr) (σ : L2.St) : L2.St := match i with
  | none => σ
  | some i => σ.set i (some (.ref a))
def wCls (K : PySem.W.Frag) (Wout : WX) (D : Ends) : List Cl → WX
  | [] => Wout
  | (c, i, ts) :: r => fun cls d σ H => ∃ b, PySem.W.exmOne K cls c = some b ∧ (b = true → ∀ a, H a = none → ts a cls d (offD i D) (onS i a σ) H) ∧ (b = false → wCls K Wout D r cls d σ H)
inductive ClOk (X : Cx) : List ExceptHandler → List Cl → Prop
  | nil : ClOk X [] []
  | bare {x : Str} {c : Value} {ts : Addr → Value → Option Addr → TS} {b₀ : Stmt} {suite : List Stmt} {np pos' : Pos} {hds : List ExceptHandler} {l : List Cl} (hc : Names X x c)
      (hsu : ∀ (a : Addr) (oe : Obj) (cls : Value) (d : Option Addr) (pn : List (Addr × Obj)), Zc cls d oe → (∃ vs, oe.data = .fields vs) → PSs (X.suite a ((a, oe) :: pn)) (b₀ :: suite) (ts a cls d)) (r : ClOk X hds l) :
      ClOk X (.ExceptHandler (some (.Name x np)) none (b₀ :: suite) pos' :: hds) ((c, none, ts) :: l)
  | named {x n : Str} {i : Nat} {c : Value} {ts : Addr → Value → Option Addr → TS} {b₀ : Stmt} {suite : List Stmt} {np pos' : Pos} {hds : List ExceptHandler} {l : List Cl} (hN : X.N.Nodup) (hi : X.N[i]? = some n) (hln : X.env.kindOf n = some .local) (hc : Names X x c)
      (hsu : ∀ (a : Addr) (oe : Obj) (cls : Value) (d : Option Addr) (pn : List (Addr × Obj)), Zc cls d oe → (∃ vs, oe.data = .fields vs) → PSs (X.suite a ((a, oe) :: pn)) (b₀ :: suite) (ts a cls d)) (r : ClOk X hds l) :
      ClOk X (.ExceptHandler (some (.Name x np)) (some n) (b₀ :: suite) pos' :: hds) ((c, some i, ts) :: l)
section
variable {X : Cx} {body : List Stmt} {h₀ : ExceptHandler} {hds : List ExceptHandler} {l : List Cl} {pos : Pos} {tb : WX → TS} {Wout : WX}
theorem ps_tryC (hs : X.stack = X.env :: X.outer) (hf : X.env.frame = some X.env.locals) (tk : Takes X Wout)
    (hb : ∀ (W : WX) (pn : List (Addr × Obj)) (xe : Value → Shared → Prop), Takes (X.tr pn xe) W → PassesOwn (model X.prog X.w) X.A X.env xe → PSs (X.tr pn xe) body (tb W))
    (hh : ClOk X (h₀ :: hds) l) : PS X (.Try body (h₀ :: hds) [] [] pos) (fun D σ H => tb (wCls X.K Wout D l) D σ H) := by
  refine ⟨fun pins s σ H D I h => ?_⟩
  have ok := I.ok
  have hfr : X.A.frames = some (X.env :: X.outer) := by rw [ok.frames, hs]
  refine wpAny_Try_except (wpAny_mono ((hb (wCls X.K Wout D l) (X.pn ++ pins) _ (fun u s' xx => ?_) PassesOwn.looking).run [] s σ H D (I.toTry _) h) (fun f s1 hsp => ?_) (fun e s1 he => he))
  rotate_left
  · cases f with
    | next => exact let ⟨_, _, J, q⟩ := hsp; wpAny_execs_nil ⟨_, _, J.ofTry ok, q⟩
    | brk => exact let ⟨_, _, J, q⟩ := hsp; ⟨_, _, J.ofTry ok, q⟩
    | cont => exact let ⟨_, _, J, q⟩ := hsp; ⟨_, _, J.ofTry ok, q⟩
    | ret u => exact let ⟨_, _, _, J, r, q⟩ := hsp; ⟨_, _, _, J.ofTry ok, r, q⟩
  obtain ⟨a, B, sI, pins', σ', H', cls, d, rfl, J', nb, up, sky, na, os, ag, w⟩ := xx
  have J : Inv X pins σ' H' sI := J'.ofTry ok
  have sky' : Sky B (X.env :: X.outer) a (Zc cls d) X.env.locals s'.heap := by rw [← hs]; exact sky
  refine Sky.land Zc.steady hfr hf sky' fun h3 fl3 up3 => ?_
  have J3 : Inv X pins σ' H' { s' with heap := h3 } := J.landed nb fl3.1 (up.trans up3) os ag
  obtain ⟨oe3, vs3, he3, hz3, hd3⟩ := fl3.there
  have nfr : a ∉ frs (X.env :: X.outer) := fun hm => by
    obtain ⟨_, o', e', hnf⟩ := fl3.2.2.1.mem hm
    rw [he3] at e'; cases e'
    exact hnf _ hd3
  have nL : a ≠ X.env.locals := fun z => nfr (List.mem_filterMap.mpr ⟨X.env, List.mem_cons_self, by rw [hf, z]⟩)
  have nF : a ∉ X.fs := fun hm => by
    obtain ⟨e, he, q⟩ := List.mem_filterMap.mp hm
    exact nfr (List.mem_filterMap.mpr ⟨e, List.mem_cons_of_mem _ he, q⟩)
  have S3 := J3.suite he3 hd3 na nL nF
  have LT : PySem.W.Looks (model X.prog X.w) h3 (typeOf (.ref a)) cls := fun A Q E s k q => wpAny_typeOf_ref (k _ _ he3) (by rw [hz3.1]; exact q)
  have test : ∀ {x : Str} {c : Value} {np : Pos} {Q : Value → Shared → Prop} {E : Value → Shared → Prop}, Names X x c → Q c { s' with heap := h3 } → wpAny (model X.prog X.w) (X.A.mark (some (.ref a))) (eval (.Name x np) X.env) Q E { s' with heap := h3 } := fun {x c np Q E} hc q => by
    obtain ⟨hg, hdbg, hm | ⟨hm, hv, hnn⟩⟩ := hc
    · exact ld_glob (X := X.suite a ((a, oe3) :: (X.pn ++ pins))) S3 hg hm q hdbg
    · exact ld_blt (X := X.suite a ((a, oe3) :: (X.pn ++ pins))) S3 hg hm hv q hnn hdbg
  suffices go : ∀ {hds' : List ExceptHandler} {l' : List Cl}, ClOk X hds' l' → wCls X.K Wout D l' cls d σ' H' →
      wpAny (model X.prog X.w) X.A (handleBy (.ref a) X.env hds') (SP X pins D) X.xe { s' with heap := h3 } from go hh w
  intro hds' l' hk
  induction hk with
  | nil =>
    intro w
    refine wpAny_handleBy_nil ?_
    obtain ⟨k1, k2, k3, oe, vs, T, oT, ts', he, hz, hd, h1, hr⟩ := id fl3
    unfold PySem.passOn
    refine wpAny_bind (wpAny_field he hd h1 ?_)
    rw [if_neg (show ¬ ((Value.ref T == Value.none) = true) from by simp)]
    have fin : wpAny (model X.prog X.w) X.A (setFlight (.ref a) X.env.frame) (fun _ s4 => wpAny (model X.prog X.w) X.A (throw (.ref a) : Sem Flow) (SP X pins D) X.xe s4) X.xe { s' with heap := h3 } := by
      rw [hf]
      refine HandSPX.setFlight_upZ fl3 fun h4 hh4 up4 => wpAny_throw (tk _ _ ?_)
      exact ⟨a, B, sI, pins, σ', H', cls, d, rfl, J, nb, (up.trans up3).trans up4, .inr (.inr (by rw [hs]; exact hh4)), na, os, ag, w⟩
    first
      | exact wpAny_bind (wpAny_pure (wpAny_bind fin))
      | exact wpAny_bind fin
  | bare hc hsu r ih =>
    intro w
    obtain ⟨b, hb1, hyes, hno⟩ := w
    refine wpAny_handleBy_cons (codeAny_handlers_test (test hc ((PySem.W.exm_one (M := model X.prog X.w) (J3.kIn) LT hb1).here ?_))) (by intro q; cases q)
    cases b with
    | false => exact ih (hno rfl)
    | true =>
      refine codeAny_handlers_suite (HandSPX.lands_againZ fl3 fun h4 fl4 up4 => ?_)
      have J4 : Inv X pins σ' H' { s' with heap := h4 } := J.landed nb fl4.1 ((up.trans up3).trans up4) os ag
      obtain ⟨oe4, vs4, he4, hz4, hd4⟩ := fl4.there
      refine wpAny_mono ((hsu a oe4 cls d (X.pn ++ pins) hz4 ⟨_, hd4⟩).run [] _ _ H' _ (J4.suite he4 hd4 na nL nF) (hyes rfl a na)) (fun f s6 hsp => ?_) (fun _ _ z => False.elim z)
      cases f with
      | next => exact let ⟨_, _, S6, q6⟩ := hsp; ⟨_, _, S6.unsuite ok, q6⟩
      | brk => exact let ⟨_, _, S6, q6⟩ := hsp; ⟨_, _, S6.unsuite ok, q6⟩
      | cont => exact let ⟨_, _, S6, q6⟩ := hsp; ⟨_, _, S6.unsuite ok, q6⟩
      | ret u => exact let ⟨_, _, _, S6, r6, q6⟩ := hsp; ⟨_, _, _, S6.unsuite ok, r6, q6⟩
  | named hN hi hln hc hsu r ih =>
    intro w
    obtain ⟨b, hb1, hyes, hno⟩ := w
    refine wpAny_handleBy_cons (codeAny_handlers_test (test hc ((PySem.W.exm_one (M := model X.prog X.w) (J3.kIn) LT hb1).here ?_))) (by intro q; cases q)
    cases b with
    | false => exact ih (hno rfl)
    | true =>
      refine codeAny_handlers_suite_as (HandSPX.lands_againZ fl3 fun h4 fl4 up4 => ?_)
      have J4 : Inv X pins σ' H' { s' with heap := h4 } := J.landed nb fl4.1 ((up.trans up3).trans up4) os ag
      obtain ⟨oe4, vs4, he4, hz4, hd4⟩ := fl4.there
      refine store_ok (X := X.suite a ((a, oe4) :: (X.pn ++ pins))) (v := .ref a) (J4.suite he4 hd4 na nL nF) hN hi (.inl hln) rfl (fun s5 S5 => ?_) (.inr hln)
      refine wpAny_mono ((hsu a oe4 cls d (X.pn ++ pins) hz4 ⟨_, hd4⟩).run [] s5 _ H' _ S5 (hyes rfl a na)) (fun f s6 hsp => ?_) (fun _ _ z => False.elim z)
      cases f with
      | next => exact let ⟨_, _, S6, q6⟩ := hsp; gone_ok (S6.unsuite ok) hN hi hln fun s7 J7 => ⟨_, _, J7, q6⟩
      | brk => exact let ⟨_, _, S6, q6⟩ := hsp; gone_ok (S6.unsuite ok) hN hi hln fun s7 J7 => ⟨_, _, J7, q6⟩
      | cont => exact let ⟨_, _, S6, q6⟩ := hsp; gone_ok (S6.unsuite ok) hN hi hln fun s7 J7 => ⟨_, _, J7, q6⟩
      | ret u => exact let ⟨_, _, _, S6, r6, q6⟩ := hsp; gone_ok (S6.unsuite ok) hN hi hln fun s7 J7 => ⟨_, _, _, J7, r6, q6⟩
end
end S
set_option Elab.async false
set_option linter.all false
set_option autoImplicit false
set_option maxRecDepth 100000
set_option maxHeartbeats 2000000
namespace S
open PySem PySem.Spec PyProof.Rows L2
/-! ### the error classes -/
def exCs : List Str := ["TalkError", "BadText", "BadValue", "TooMany", "Unlike", "Unknown", "BadPaper"]
def exFs : List Str := ["at", "what", "name"]
/-- is c the class C or under it -/
def subX (c C : Str) : Bool := c == C || C == "TalkError" || C == "ValueError"
structure XCl (K : PySem.W.Frag) : Prop where
  xf : ∀ c ∈ exCs, XfC K (He.ga K c)
  no : ∀ c ∈ exCs, ∀ f ∈ exFs, PySem.W.findIn K (.ref (He.ga K c)) f = some none
  kc : ∀ c ∈ exCs, (PySem.W.clsIn K (He.ga K c)).isSome = true ∧ PySem.W.findIn K (.ref (He.ga K c)) "__class__" = some (some (.builtin "object.__class__")) ∧ PySem.W.mroIn K (He.ga K c) (.type "object") = some true
  hn : PySem.W.specialIn K (.builtin "object.__class__") "__get__" = some (some (.builtin "getset_descriptor.__get__"))
  ht : PySem.W.takesIn K (.builtin "object.__class__") = some true
  kit : ∀ c ∈ exCs, ∀ C ∈ exCs, PySem.W.kitOne K (.ref (He.ga K c)) (.ref (He.ga K C)) = some (subX c C)
  kitV : ∀ c ∈ exCs, PySem.W.kitOne K (.ref (He.ga K c)) (.type "ValueError") = some true
  exm : ∀ c ∈ exCs, ∀ C ∈ exCs, PySem.W.exmOne K (.ref (He.ga K c)) (.ref (He.ga K C)) = some (subX c C)
/-- the same, to be reckoned -/
def xclB (K : PySem.W.Frag) : Bool :=
  (exCs.all fun c => xfB K (He.ga K c)) &&
  ((exCs.all fun c => exFs.all fun f => decide (PySem.W.findIn K (.ref (He.ga K c)) f = some none)) &&
  ((exCs.all fun c => (PySem.W.clsIn K (He.ga K c)).isSome && (decide (PySem.W.findIn K (.ref (He.ga K c)) "__class__" = some (some (.builtin "object.__class__"))) && decide (PySem.W.mroIn K (He.ga K c) (.type "object") = some true))) &&
  (decide (PySem.W.specialIn K (.builtin "object.__class__") "__get__" = some (some (.builtin "getset_descriptor.__get__"))) &&
  (decide (PySem.W.takesIn K (.builtin "object.__class__") = some true) &&
  ((exCs.all fun c => exCs.all fun C => decide (PySem.W.kitOne K (.ref (He.ga K c)) (.ref (He.ga K C)) = some (subX c C))) &&
  ((exCs.all fun c => decide (PySem.W.kitOne K (.ref (He.ga K c)) (.type "ValueError") = some true)) &&
  (exCs.all fun c => exCs.all fun C => decide (PySem.W.exmOne K (.ref (He.ga K c)) (.ref (He.ga K C)) = some (subX c C)))))))))
theorem xcl_ok {K : PySem.W.Frag} (h : xclB K = true) : XCl K := by
  unfold xclB at h
  simp only [Bool.and_eq_true, List.all_eq_true, decide_eq_true_eq] at h
  obtain ⟨h1, h2, h3, h4, h5, h6, h7, h8⟩ := h
  exact ⟨fun c hc => xfB_ok (h1 c hc), h2, h3, h4, h5, h6, h7, h8⟩
/-! ### what a suite reads of its exception -/
/-- x is the caught exception -/
def meX (a dx : Nat) (c : Str) (x : D) : Option (Str × D) := match x with
  | .exn a' dx' c' fld d => if a' = a ∧ dx' = dx ∧ c' = c then some (fld, d) else none
  | _ => none
def opIsX (a dx : Nat) (c : Str) (Cs : List Str) (x : D) (h : Hh) : Op D := match meX a dx c x with
  | some _ => some (.bl (Cs.any (subX c)), h)
  | none => none
def opFldX (a dx : Nat) (c n : Str) (x : D) (h : Hh) : Op D := match meX a dx c x with
  | some (fld, d) => if fld = n then some (d, h) else none
  | none => none
def rIsX (K : PySem.W.Frag) (a dx C : Nat) : List V → Hp → VK → Prop := fun xs H Q => ∃ (c : V) (u : Value) (b : Bool) (fs : List (Str × V)), xs = [.ref a, c] ∧ H dx = some (.xd fs) ∧ ClsV c u ∧ PySem.W.kitOne K (.ref C) u = some b ∧ Q (.bl b) H
def rIsXT (K : PySem.W.Frag) (a dx C : Nat) : List V → Hp → VK → Prop := fun xs H Q => ∃ (tp : Addr) (cs : List V) (us : List Value) (b : Bool) (fs : List (Str × V)), xs = [.ref a, .ref tp] ∧ H dx = some (.xd fs) ∧ H tp = some (.tup cs) ∧ Paired ClsV cs us ∧ PySem.W.kitAny K (.ref C) us = some b ∧ Q (.bl b) H
section
variable {X : Cx} {a dx : Addr} {c : Str} {oe : Obj} {pn pins : List (Addr × Obj)} {W : WX}
theorem inst_x {σ : L2.St} {H : Hp} {s : Shared} {C : Addr} {fs : List (Str × V)} (hz : Zc (.ref C) (some dx) oe) (hf : ∃ vs, oe.data = .fields vs) (I : L2.Inv (X.suite a ((a, oe) :: pn)) pins σ H s) (hx : H dx = some (.xd fs)) : ∃ od, PySem.W.InstAt s.heap a oe C od := by
  obtain ⟨ha, _⟩ := I.pin (a, oe) (List.mem_append_left _ List.mem_cons_self)
  obtain ⟨vs, hd⟩ := hf
  have hb : ObjOk X.prog X.w H s.heap dx (.xd fs) := I.hok dx _ hx
  obtain ⟨mA, hns, hr⟩ := hb
  obtain ⟨od, ho, hl⟩ := lookIn_ns hns
  exact ⟨some od, ha, hz.1, by unfold PySem.W.notCls; rw [hd] <;> rfl, by rw [hz.2]; exact ho⟩
theorem kit_x {C : Addr} {od : Option Obj} (XC : XCl X.K) (hc : c ∈ exCs) (hC : C = He.ga X.K c) : PySem.W.KitX X.K (.ref a) (.ref C) (fun h => PySem.W.InstAt h a oe C od) := by
  subst hC
  have f := XC.xf c hc
  obtain ⟨k1, k2, k3⟩ := XC.kc c hc
  exact PySem.W.kitx_exc k1 f.ga f.gg f.exC k2 XC.hn XC.ht k3
theorem call_isX (XC : XCl X.K) (hc : c ∈ exCs) (hz : Zc (.ref (He.ga X.K c)) (some dx) oe) (hf : ∃ vs, oe.data = .fields vs) : CallR (X.suite a ((a, oe) :: pn)) (.builtin "isinstance") (rIsX X.K a dx (He.ga X.K c)) := by
  intro pins s σ H xs us Q I r h
  obtain ⟨k, u, b, fs, rfl, hx, kk, e, q⟩ := h
  obtain ⟨u1, u2, rfl, r1, r2⟩ := vals2 r
  have e2 := kk.eq r2
  subst e2
  cases (show u1 = Value.ref a from r1)
  obtain ⟨od, J⟩ := inst_x hz hf I hx
  exact PySem.W.kia_one (kit_x XC hc rfl) I.kIn J e (fun z => nomatch z) fun tk => ⟨.bl b, H, I.tok tk, rfl, q⟩
theorem call_isXT (XC : XCl X.K) (hc : c ∈ exCs) (hz : Zc (.ref (He.ga X.K c)) (some dx) oe) (hf : ∃ vs, oe.data = .fields vs) : CallR (X.suite a ((a, oe) :: pn)) (.builtin "isinstance") (rIsXT X.K a dx (He.ga X.K c)) := by
  intro pins s σ H xs us Q I r h
  obtain ⟨tp, cs, ws, b, fs, rfl, hx, hT, k, e, q⟩ := h
  obtain ⟨u1, u2, rfl, r1, r2⟩ := vals2 r
  cases (show u2 = Value.ref tp from r2)
  cases (show u1 = Value.ref a from r1)
  obtain ⟨od, J⟩ := inst_x hz hf I hx
  obtain ⟨_, its, rv, o, h1, h2, n, h3⟩ := (show ObjOk X.prog X.w H s.heap tp (.tup cs) from I.hok tp _ hT)
  have e3 := ClsV.all k rv
  subst e3
  obtain ⟨oc, od, dt, sl⟩ := o
  simp only at h2 h3
  subst h2 h3
  exact PySem.W.kia_tup (kit_x XC hc rfl) I.kIn J h1 e (fun z => nomatch z) fun tk => ⟨.bl b, H, I.tok tk, rfl, q⟩
theorem kits_x {K : PySem.W.Frag} (XC : XCl K) (hc : c ∈ exCs) : ∀ (Cs : List Str), (∀ C ∈ Cs, C ∈ exCs) → PySem.W.kitAny K (.ref (He.ga K c)) (Cs.map fun C => .ref (He.ga K C)) = some (Cs.any (subX c))
  | [], _ => kitAny_nil
  | C :: Cs, hC => by
    refine kitAny_cons (XC.kit c hc C (hC C List.mem_cons_self)) (fun e => ?_) (fun e => ?_)
    · rw [kits_x XC hc Cs fun D hD => hC D (List.mem_cons_of_mem _ hD)]
      rw [List.any_cons, e, Bool.false_or]
    · rw [List.any_cons, e, Bool.true_or]
theorem meX_v {ρ : List Addr} {H : Hp} {x : D} {v : V} {y : Str × D} (r : RV X.K ρ H x v) (e : meX a dx c x = some y) : v = .ref a ∧ ∃ w, H dx = some (.xd [(y.1, w)]) ∧ RV X.K ρ H y.2 w := by
  unfold meX at e
  split at e
  · rename_i a' dx' c' fld d
    split at e
    · rename_i hh
      obtain ⟨rfl, rfl, rfl⟩ := hh
      cases e
      cases r with
      | exn s t => exact ⟨rfl, _, s, t⟩
    · cases e
  · cases e
section
variable {ea : Expr} {da : Ef} {p2 p3 p4 pos : Pos} {C : Str}
theorem e_isX (XC : XCl X.K) (hc : c ∈ exCs) (hz : Zc (.ref (He.ga X.K c)) (some dx) oe) (hf : ∃ vs, oe.data = .fields vs)
    (hg : Gl X "isinstance") (hm : X.mg "isinstance" = none) (hgC : Gl X C) (hmC : X.mg C = some (.ref (He.ga X.K C))) (hC : C ∈ exCs) (ha : EE (X.suite a ((a, oe) :: pn)) W ea da)
    (hd : (C == ("__debug__" : Str)) = false := by decide)
    (he : starEach [ea, .Name C p3] X.env = (false, eval ea X.env) :: starEach [.Name C p3] X.env := by rfl) (hpl : (backTo pos (starEach [.Name C p3] X.env)).any (·.1) = false := by rfl) :
    EE (X.suite a ((a, oe) :: pn)) W (.Call (.Name "isinstance" p2) [ea, .Name C p3] [] pos) (dUn (opIsX a dx c [C]) da) :=
  (pe_callB (call_isX XC hc hz hf) hg hm (by decide +kernel) (pa_cons ha (pa_cons (pe_glob (v := .ref (He.ga X.K C)) hgC hmC rfl hd) pa_nil) he) (by decide) (by decide) he hpl).imp fun σ H Q h => by
    obtain ⟨ρ, env, h, R, o⟩ := h
    refine sim1 R o (fun _ _ _ z => z) fun ρ1 h1 x v H1 R1 r1 ex o1 => ?_
    unfold opIsX at o1
    split at o1
    · rename_i y hy
      obtain ⟨rfl, w, hw, rw_⟩ := meX_v r1 hy
      exact ⟨_, _, _, _, rfl, hw, .own _, XC.kit c hc C hC, o1.ok R1.heap (by simp [List.any_cons]; exact .bl _)⟩
    · exact o1.elim
theorem e_isXV (XC : XCl X.K) (hc : c ∈ exCs) (hz : Zc (.ref (He.ga X.K c)) (some dx) oe) (hf : ∃ vs, oe.data = .fields vs)
    (hg : Gl X "isinstance") (hm : X.mg "isinstance" = none) (hgC : Gl X "ValueError") (hmC : X.mg "ValueError" = none) (ha : EE (X.suite a ((a, oe) :: pn)) W ea da)
    (he : starEach [ea, .Name "ValueError" p3] X.env = (false, eval ea X.env) :: starEach [.Name "ValueError" p3] X.env := by rfl) (hpl : (backTo pos (starEach [.Name "ValueError" p3] X.env)).any (·.1) = false := by rfl) :
    EE (X.suite a ((a, oe) :: pn)) W (.Call (.Name "isinstance" p2) [ea, .Name "ValueError" p3] [] pos) (dUn (opIsX a dx c ["ValueError"]) da) :=
  (pe_callB (call_isX XC hc hz hf) hg hm (by decide +kernel) (pa_cons ha (pa_cons (pe_bltn (v := .ty "ValueError") hgC hmC (by decide +kernel) rfl (by decide) (by decide)) pa_nil) he) (by decide) (by decide) he hpl).imp fun σ H Q h => by
    obtain ⟨ρ, env, h, R, o⟩ := h
    refine sim1 R o (fun _ _ _ z => z) fun ρ1 h1 x v H1 R1 r1 ex o1 => ?_
    unfold opIsX at o1
    split at o1
    · rename_i y hy
      obtain ⟨rfl, w, hw, rw_⟩ := meX_v r1 hy
      exact ⟨_, _, _, _, rfl, hw, .ty _, XC.kitV c hc, o1.ok R1.heap (by simp [List.any_cons, subX]; exact .bl _)⟩
    · exact o1.elim
inductive NmsOk (X : Cx) : List Expr → List Str → Prop
  | nil : NmsOk X [] []
  | cons {C : Str} {p : Pos} {es : List Expr} {Cs : List Str} (hg : Gl X C) (hm : X.mg C = some (.ref (He.ga X.K C))) (hC : C ∈ exCs) (hd : (C == ("__debug__" : Str)) = false) (r : NmsOk X es Cs) : NmsOk X (.Name C p :: es) (C :: Cs)
theorem NmsOk.pa {X : Cx} {es : List Expr} {Cs : List Str} (r : NmsOk X es Cs) : PA X es fun σ H Q => Q (Cs.map fun C => V.ref (He.ga X.K C)) H := by
  induction r with
  | nil => exact pa_nil
  | cons hg hm hC hd r ih => exact (pa_cons (pe_glob (v := .ref (He.ga X.K _)) hg hm rfl hd) ih).imp fun σ H Q q => q
theorem NmsOk.mem {X : Cx} {es : List Expr} {Cs : List Str} (r : NmsOk X es Cs) : ∀ C ∈ Cs, C ∈ exCs := by
  induction r with
  | nil => exact fun C h => nomatch h
  | cons hg hm hC hd r ih =>
    intro C h
    rcases List.mem_cons.mp h with rfl | h
    · exact hC
    · exact ih C h
theorem clsv_all (K : PySem.W.Frag) : ∀ Cs : List Str, Paired ClsV (Cs.map fun C => V.ref (He.ga K C)) (Cs.map fun C => Value.ref (He.ga K C))
  | [] => .nil
  | C :: Cs => .cons (.own _) (clsv_all K Cs)
theorem e_isXT {es : List Expr} {Cs : List Str} {x1 : Nat} (XC : XCl X.K) (hc : c ∈ exCs) (hz : Zc (.ref (He.ga X.K c)) (some dx) oe) (hf : ∃ vs, oe.data = .fields vs)
    (hg : Gl X "isinstance") (hm : X.mg "isinstance" = none) (hn : NmsOk (X.suite a ((a, oe) :: pn)) es Cs) (hsz : Cs.length ≤ sizeLine) (ha : EE (X.suite a ((a, oe) :: pn)) W ea da)
    (he : starEach [ea, .Tuple es x1 p3] X.env = (false, eval ea X.env) :: starEach [.Tuple es x1 p3] X.env := by rfl) (hpl : (backTo pos (starEach [.Tuple es x1 p3] X.env)).any (·.1) = false := by rfl) :
    EE (X.suite a ((a, oe) :: pn)) W (.Call (.Name "isinstance" p2) [ea, .Tuple es x1 p3] [] pos) (dUn (opIsX a dx c Cs) da) :=
  (pe_callB (call_isXT XC hc hz hf) hg hm (by decide +kernel) (pa_cons ha (pa_cons (pe_tup hn.pa) pa_nil) he) (by decide) (by decide) he hpl).imp fun σ H Q h => by
    obtain ⟨ρ, env, h, R, o⟩ := h
    refine sim1 R o (fun _ _ _ z => z) fun ρ1 h1 x v H1 R1 r1 ex o1 => ?_
    unfold opIsX at o1
    split at o1
    · rename_i y hy
      obtain ⟨rfl, w, hw, rw_⟩ := meX_v r1 hy
      refine ⟨by simpa using hsz, fun p hp => ⟨_, _, _, _, [(y.1, w)], rfl, ?_, upd_same, clsv_all X.K Cs, kits_x XC hc Cs hn.mem, ?_⟩⟩
      · rw [upd_ne (ne_of_none hw hp)]
        exact hw
      · exact o1 ρ1 _ _ (Ex.aside R1.heap hp) (R1.heap.aside hp) (.bl _)
    · exact o1.elim
theorem e_fldX {n : Str} (XC : XCl X.K) (hc : c ∈ exCs) (hz : Zc (.ref (He.ga X.K c)) (some dx) oe) (hf : ∃ vs, oe.data = .fields vs) (hn : n ∈ exFs) (ha : EE (X.suite a ((a, oe) :: pn)) W ea da)
    (hb : attributeBase ea n X.env (eval ea X.env) = eval ea X.env := by rfl) : EE (X.suite a ((a, oe) :: pn)) W (.Attribute ea n pos) (dUn (opFldX a dx c n) da) :=
  (pe_xf (XC.xf c hc) (XC.no c hc n hn) hz hf ha hb).imp fun σ H Q h => by
    obtain ⟨ρ, env, h, R, o⟩ := h
    refine sim1 R o (fun _ _ _ z => z) fun ρ1 h1 x v H1 R1 r1 ex o1 => ?_
    unfold opFldX at o1
    split at o1
    · rename_i fld d hy
      obtain ⟨rfl, w, hw, rw_⟩ := meX_v r1 hy
      split at o1
      · rename_i e
        subst e
        exact ⟨rfl, rfl, dx, _, w, rfl, hw, by simp [List.lookup], o1.ok R1.heap rw_⟩
      · exact o1.elim
    · exact o1.elim
end
end
/-! ### try -/
/-- what holds for all places of the exception -/
noncomputable def common (g : Nat → Nat → Os) : Os := open Classical in if ∀ a dx, g a dx = g 0 0 then g 0 0 else none
theorem common_of {g : Nat → Nat → Os} (h : ∀ a dx, g a dx = g 0 0) : common g = g 0 0 := if_pos h
def offE (i : Option Nat) (env : En) : En := match i with
  | none => env
  | some i => env.set i none
/-- behind the suite the name is gone -/
def offO (i : Option Nat) : Os → Os
  | some (.nx, e, h) => some (.nx, offE i e, h)
  | some (.bk, e, h) => some (.bk, offE i e, h)
  | some (.ct, e, h) => some (.ct, offE i e, h)
  | some (.rt v, e, h) => some (.rt v, offE i e, h)
  | _ => none
def onE (i : Option Nat) (x : D) (env : En) : En := match i with
  | none => env
  | some i => env.set i (some x)
abbrev SCl := Str × Option Nat × (Nat → Nat → Str → Sf)
noncomputable def catchC (c : Str) (fs : List (Str × D)) (env : En) (h : Hh) : List SCl → Os
  | [] => some (.exc c fs, env, h)
  | (x, i, f) :: r => if c ∈ exCs ∧ x ∈ exCs then (if subX c x = true then (match fs with
    | [(fld, d)] => common fun a dx => offO i (f a dx c (onE i (.exn a dx c fld d) env) h)
    | _ => none) else catchC c fs env h r) else none
noncomputable def sTry (cs : List SCl) (db : Sf) : Sf := fun env h => match db env h with
  | some (.exc c fs, env', h') => catchC c fs env' h' cs
  | r => r
def toCl (K : PySem.W.Frag) (s : SCl) : Cl := (.ref (He.ga K s.1), s.2.1, fun a cls d D σ H => ∃ c dx, cls = .ref (He.ga K c) ∧ c ∈ exCs ∧ d = some dx ∧ simS K (fun _ _ _ _ => False) (s.2.2 a dx c) D σ H)
theorem Rp.unset {K : PySem.W.Frag} {ρ : List Addr} {env : En} {h : Hh} {σ : L2.St} {H : Hp} (R : Rp K ρ env h σ H) (i : Nat) : Rp K ρ (env.set i none) h (σ.set i none) H := by
  refine ⟨R.heap, by simp [R.len], fun j u e => ?_⟩
  by_cases hj : j = i
  · subst hj
    have hlt : j < env.length := by have := (List.getElem?_eq_some_iff.mp e).1; simpa using this
    rw [List.getElem?_set_self hlt] at e
    cases e
  · rw [List.getElem?_set_ne (Ne.symm hj)] at e
    obtain ⟨w, e1, r1⟩ := R.slot j u e
    exact ⟨w, by rw [List.getElem?_set_ne (Ne.symm hj)]; exact e1, r1⟩
theorem offO_out {K : PySem.W.Frag} {ρ ρ' : List Addr} {H H' : Hp} {W : WX} {i : Option Nat} {r : Os} {D : Ends} (x : Ex ρ H ρ' H') (o : OutS K ρ H W (offO i r) D) : OutS K ρ' H' (fun _ _ _ _ => False) r (offD i D) := by
  have un : ∀ {ρ : List Addr} {env : En} {h : Hh} {σ : L2.St} {H : Hp}, Rp K ρ env h σ H → Rp K ρ (offE i env) h (match i with | none => σ | some i => σ.set i none) H := fun R => by
    cases i with
    | none => exact R
    | some i => exact R.unset i
  match r, o with
  | some (.nx, e, h), o =>
    intro ρ1 H1 σ1 x1 R1
    have q := o ρ1 H1 _ (x.trans x1) (un R1)
    cases i <;> exact q
  | some (.bk, e, h), o =>
    intro ρ1 H1 σ1 x1 R1
    have q := o ρ1 H1 _ (x.trans x1) (un R1)
    cases i <;> exact q
  | some (.ct, e, h), o =>
    intro ρ1 H1 σ1 x1 R1
    have q := o ρ1 H1 _ (x.trans x1) (un R1)
    cases i <;> exact q
  | some (.rt v, e, h), o =>
    intro ρ1 H1 w x1 R1 r1
    have q := o ρ1 H1 w (x.trans x1) R1 r1
    cases i <;> exact q
theorem catch_out {K : PySem.W.Frag} (XC : XCl K) {Wout : WX} {DD : Ends} {c : Str} {fs : List (Str × D)} {env : En} {h : Hh} {ρ ρ' : List Addr} {H H' : Hp} {σ : L2.St} {dx : Addr} {ys : List (Str × V)}
    (x : Ex ρ H ρ' H') (R : Rp K ρ' env h σ H') (hx : H' dx = some (.xd ys)) (hn : dx ∉ ρ') (rf : RFs K ρ' H' fs ys) :
    ∀ (cs : List SCl), OutS K ρ H Wout (catchC c fs env h cs) DD → wCls K Wout DD (cs.map (toCl K)) (.ref (He.ga K c)) (some dx) σ H'
  | [], o => o ρ' H' σ dx ys x R hx hn rf
  | (y, i, f) :: r, o => by
    unfold catchC at o
    by_cases hc : c ∈ exCs ∧ y ∈ exCs
    · rw [if_pos hc] at o
      refine ⟨subX c y, XC.exm c hc.1 y hc.2, fun e a ha => ?_, fun e => ?_⟩
      · rw [if_pos e] at o
        match fs, rf, o with
        | [(fld, d)], rf, o =>
          cases rf with
          | cons r1 r2 =>
            cases r2
            rename_i w
            obtain ⟨w1, w2⟩ := w
            obtain ⟨e1, r1⟩ := r1
            cases e1
            refine ⟨c, dx, rfl, hc.1, rfl, ρ', onE i (.exn a dx c fld d) env, h, ?_, ?_⟩
            · cases i with
              | none => exact R
              | some i => exact R.set (.exn hx r1) i
            · dsimp only at o
              unfold common at o
              split at o
              · rename_i hh
                rw [← hh a dx] at o
                exact offO_out x o
              · exact o.elim
        | [], rf, o => exact o.elim
        | _ :: _ :: _, rf, o => exact o.elim
      · rw [if_neg (by rw [e]; exact Bool.false_ne_true)] at o
        exact catch_out XC x R hx hn rf r o
    · rw [if_neg hc] at o
      exact o.elim
section
variable {X : Cx} {body : List Stmt} {h₀ : ExceptHandler} {hds : List ExceptHandler} {cs : List SCl} {pos : Pos} {db : Sf} {W : WX}
theorem s_try (XC : XCl X.K) (hs : X.stack = X.env :: X.outer) (hf : X.env.frame = some X.env.locals) {k : Nat} (ct : Cty X W k)
    (hb : ∀ (W : WX) (pn : List (Addr × Obj)) (xe : Value → Shared → Prop), Cty (X.tr pn xe) W k → SB (X.tr pn xe) W body db)
    (hh : ClOk X (h₀ :: hds) (cs.map (toCl X.K))) : SS X W (.Try body (h₀ :: hds) [] [] pos) (sTry cs db) :=
  (ps_tryC (tb := fun W => simS X.K W db) hs hf ct.tk (fun W pn xe tk hp => hb W pn xe ⟨ct.calm, tk, hp, ct.nd, ct.room⟩) hh).imp fun E σ H ⟨ρ, env, h, R, o⟩ => by
    refine ⟨ρ, env, h, R, ?_⟩
    unfold sTry at o
    revert o
    generalize db env h = z
    intro o
    match z, o with
    | some (.nx, e', h'), o => exact o
    | some (.bk, e', h'), o => exact o
    | some (.ct, e', h'), o => exact o
    | some (.rt d, e', h'), o => exact o
    | some (.exc c fs, e', h'), o => exact fun ρ' H' σ' dx ys x R' hx hn rf => catch_out XC x R' hx hn rf cs o
theorem cl_named {x n : Str} {i : Nat} {b₀ : Stmt} {suite : List Stmt} {np pos' : Pos} {f : Nat → Nat → Str → Sf} (hN : X.N.Nodup) (hi : X.N[i]? = some n) (hln : X.env.kindOf n = some .local) (hg : Gl X x) (hd : (x == ("__debug__" : Str)) = false) (hm : X.mg x = some (.ref (He.ga X.K x)))
    (hsu : ∀ (a : Addr) (oe : Obj) (c : Str) (dx : Addr) (pn : List (Addr × Obj)), c ∈ exCs → Zc (.ref (He.ga X.K c)) (some dx) oe → (∃ vs, oe.data = .fields vs) → SB (X.suite a ((a, oe) :: pn)) (fun _ _ _ _ => False) (b₀ :: suite) (f a dx c))
    (r : ClOk X hds (cs.map (toCl X.K))) : ClOk X (.ExceptHandler (some (.Name x np)) (some n) (b₀ :: suite) pos' :: hds) (((x, some i, f) :: cs).map (toCl X.K)) :=
  .named hN hi hln ⟨hg, hd, .inl hm⟩ (fun a oe cls d pn hz hf => ⟨fun pins s σ H E I q => by
    obtain ⟨c, dx, rfl, hc, rfl, q⟩ := q
    exact (hsu a oe c dx pn hc hz hf).run pins s σ H E I q⟩) r
theorem cl_bare {x : Str} {b₀ : Stmt} {suite : List Stmt} {np pos' : Pos} {f : Nat → Nat → Str → Sf} (hg : Gl X x) (hd : (x == ("__debug__" : Str)) = false) (hm : X.mg x = some (.ref (He.ga X.K x)))
    (hsu : ∀ (a : Addr) (oe : Obj) (c : Str) (dx : Addr) (pn : List (Addr × Obj)), c ∈ exCs → Zc (.ref (He.ga X.K c)) (some dx) oe → (∃ vs, oe.data = .fields vs) → SB (X.suite a ((a, oe) :: pn)) (fun _ _ _ _ => False) (b₀ :: suite) (f a dx c))
    (r : ClOk X hds (cs.map (toCl X.K))) : ClOk X (.ExceptHandler (some (.Name x np)) none (b₀ :: suite) pos' :: hds) (((x, none, f) :: cs).map (toCl X.K)) :=
  .bare ⟨hg, hd, .inl hm⟩ (fun a oe cls d pn hz hf => ⟨fun pins s σ H E I q => by
    obtain ⟨c, dx, rfl, hc, rfl, q⟩ := q
    exact (hsu a oe c dx pn hc hz hf).run pins s σ H E I q⟩) r
end
end S
set_option Elab.async false
set_option linter.all false
set_option autoImplicit false
set_option maxRecDepth 100000
set_option maxHeartbeats 2000000
namespace S
open PySem PySem.Spec PyProof.Rows L2
/-- what the top says of an own error class with one field -/
def MkT (P : Program) (K : PySem.W.Frag) (mg : Str → Option Value) (x fld : Str) : Prop := ∃ fI cc cda, EMK.ETx P K mg x fld (He.ga K x) fI cc cda
section
variable {X : Cx} {W : WX} {k : Nat}
theorem s_raiseX {a : Expr} {de : Ef} {x fld : Str} {p pos pos2 : Pos} (ct : Cty X W k) (mk : MkT X.prog X.K X.mg x fld) (hg : Gl X x) (ha : EE X W a de) (hd : (x == ("__debug__" : Str)) = false := by decide)
    (hs : starEach (a :: []) X.env = (false, eval a X.env) :: starEach [] X.env := by rfl) (hpl : (backTo pos (starEach [] X.env)).any (·.1) = false := by rfl) :
    SS X W (.Raise (some (.Call (.Name x p) [a] [] pos)) none pos2) (sRaise x fld de) := by
  obtain ⟨fI, cc, cda, T⟩ := mk
  refine (ps_raise ct.calm ct.tk (He.mk_own T hd hg ct.room (pa_cons ha pa_nil hs) hs hpl)).imp fun D σ H ⟨ρ, env, h, R, o⟩ => ?_
  refine simS1 R o fun ρ1 h1 x v H1 R1 r1 ex o1 => ?_
  refine ⟨v, rfl, fun d hd => ?_⟩
  refine o1 ρ1 _ σ d _ (Ex.aside R1.heap hd) (R1.go (Ex.aside R1.heap hd) (R1.heap.aside hd)) upd_same (fun m => (R1.heap.notup m).2.2 hd) ?_
  exact .cons ⟨rfl, r1.mono (Ex.aside R1.heap hd) R1.heap⟩ .nil
end
end S
set_option Elab.async false
set_option linter.all false
set_option autoImplicit false
set_option maxRecDepth 100000
set_option maxHeartbeats 2000000
namespace EMH
open PySem PySem.Spec PySem.W PySem.Calls PyProof.Rows PySem.HandSPX
/-! ### an error class's own maker, off the top -/
/-- the first def of a class's text -/
def initS (st : Stmt) : Stmt := match st with
  | .ClassDef _ _ _ (d :: _) _ _ _ _ _ _ _ => d
  | _ => st
structure ExD where
  x : Str
  fld : Str
  st : Stmt
abbrev InW : Type := Option (Str × Str × Arguments × FuncBody × Scope × Addr × List Str × Addr)
def inAt (K : Frag) (x : Str) : Addr := He.ma K (He.ga K x) "__init__"
def inW (K : Frag) (x : Str) : InW := match K.lookup (inAt K x) with
  | some ⟨_, _, .func fd, _⟩ => some (fd.name, fd.qualname, fd.params, fd.body, fd.scope, fd.globals, fd.closure.map (·.1), fd.builtins)
  | _ => none
def ExD.val (d : ExD) : InW := some ("__init__", d.x ++ ".__init__", L2.defArgs (initS d.st), .stmts (L2.defBody (initS d.st)), L2.defScope (initS d.st), mainGlobals, ["__class__"], builtinsNs)
def isN (v : Value) : Bool := match v with
  | .none => true
  | _ => false
theorem isN_ok {v : Value} (h : isN v = true) : v = .none := by
  cases v <;> first | rfl | cases h
def clsB (K : Frag) (C : Addr) : Bool := match K.lookup C with
  | some ⟨.type "type", _, .cls cd, sl⟩ => (match cd.mro, sl.toList with
    | .ref C' :: bm, [_, _, _, _, some (.builtin n), _] => C' == C && (n == "ValueError.__new__" && (!cd.hasDel && (cd.hasDict && refsVE bm)))
    | _, _ => false)
  | _ => false
def codeB (file : Str) (K : Frag) (cd : Value) : Bool := match cd with
  | .ref c => (match K.lookup c with
    | some ⟨_, _, .fields vs, _⟩ => (match (vs[2]? : Option Value) with
      | some (.str f _) => decide (f = file)
      | _ => false)
    | _ => false)
  | _ => false
def cellB (K : Frag) (C : Addr) (cl : List (Str × Addr)) : Bool := match cl with
  | [(_, cc)] => (match K.lookup cc with
    | some ⟨_, _, .cell (some (.ref C')), _⟩ => C' == C
    | _ => false)
  | _ => false
def fnB (file : Str) (K : Frag) (C f : Addr) : Bool := match K.lookup f with
  | some ⟨_, _, .func fd, _⟩ => isN fd.defaults && (isN fd.kwdefaults && (codeIn K fd.code fd.qualname && (codeB file K fd.code && cellB K C fd.closure)))
  | _ => false
def exB (file : Str) (K : Frag) (d : ExD) : Bool :=
  He.eqO (nsIn K mainGlobals d.x) (some (some (.ref (He.ga K d.x)))) && (clsB K (He.ga K d.x) && (excInitIn K (He.ga K d.x) veTail "ValueError.__new__" &&
  (He.eqO (findIn K (.ref (He.ga K d.x)) "__setattr__") (some (some (.builtin "object.__setattr__"))) && (He.eqO (findIn K (.ref (He.ga K d.x)) d.fld) (some none) &&
  (He.eqO (findIn K (.ref (He.ga K d.x)) "__init__") (some (some (.ref (inAt K d.x)))) && (decide (typeIn K (.ref (inAt K d.x)) = some (.type "function")) &&
  (keepIn K (.ref (He.ga K d.x)) && (decide (subIn K (.ref (He.ga K d.x)) (.type "BaseException") = some true) && (decide (typeIn K (.ref (He.ga K d.x)) = some (.type "type")) &&
  (fnB file K (He.ga K d.x) (inAt K d.x) && (He.eqO (nsIn K cStatics "thirdparty.any") (some none) && (He.eqO (ks_superIn K (He.ga K d.x) (He.ga K d.x) "__init__") (some (some (.builtin "ValueError.__init__"))) &&
  (decide (subIn K (.ref (He.ga K d.x)) (.type "ValueError") = some true) && (decide (mroIn K (He.ga K d.x) (.ref (He.ga K d.x)) = some true) && He.eqO (nsIn K mainGlobals "super") (some none)))))))))))))))
theorem clsB_ok {K : Frag} {C : Addr} (q : clsB K C = true) : ∃ nm q N bs bm sn sub ab col dd k0 k1 k2 k3 k5, K.lookup C = some (excClassObj nm q C N bs bm true sn sub ab col dd k0 k1 k2 k3 k5 "ValueError.__new__") ∧ refsVE bm = true := by
  unfold clsB at q
  split at q
  · rename_i dd cd sl ho
    split at q
    · rename_i C' bm k0 k1 k2 k3 n k5 hm hs
      simp only [Bool.and_eq_true, beq_iff_eq, Bool.not_eq_true'] at q
      obtain ⟨rfl, rfl, hdel, hdict, hr⟩ := q
      obtain ⟨nm, bs, mro, ns, qn, hd, sn, sub, ab, col, del⟩ := cd
      dsimp only at hm hdel hdict
      subst hm hdel hdict
      have hsl : sl = #[k0, k1, k2, k3, some (.builtin "ValueError.__new__"), k5] := by
        obtain ⟨l⟩ := sl
        simp only at hs
        rw [hs]
      subst hsl
      exact ⟨nm, qn, ns, bs, bm, sn, sub, ab, col, dd, k0, k1, k2, k3, k5, ho, hr⟩
    · cases q
  · cases q
/-- the text of such a def -/
def TxtOk (d : ExD) : Prop := ∃ (msg : Str) (j : Nat) (p1 p2 q0 q1 q2 q3 q4 q5 q6 q7 q8 q9 : Pos),
  L2.defArgs (initS d.st) = EMK.iA d.fld p1 p2 ∧ L2.defBody (initS d.st) = EMK.iB msg d.fld j q0 q1 q2 q3 q4 q5 q6 q7 q8 q9 ∧ L2.defScope (initS d.st) = EMK.iS d.fld ∧
  (∀ (qual : Str) (doc pm : Value) (an : Option Addr) (cdv ct : Value) (cc : Addr) (s : Shared) (u v : Value), BindsTo s (ksFn "__init__" qual (EMK.iA d.fld p1 p2) (EMK.iB msg d.fld j q0 q1 q2 q3 q4 q5 q6 q7 q8 q9) (EMK.iS d.fld) .none .none doc pm an cdv ct cc) ⟨[u, v], []⟩ [("self", u), (d.fld, v)]) ∧
  ∃ pl : Env → Sem Bool, ∀ env : Env, eval (.Call (.Attribute (.Call (.Name "super" q0) [] [] q1) "__init__" q2) [.Constant (.str msg) j q3] [] q4) env = (do
        let ov ← attributeBase (.Call (.Name "super" q0) [] [] q1) "__init__" env (eval (.Call (.Name "super" q0) [] [] q1) env)
        standAt q2.atName
        let (f, first) ← holding [ov] (getMethod ov "__init__" (pl env))
        callWith q4 f first (backTo q4 (starEach [.Constant (.str msg) j q3] env)) [])
section
variable {P : Program} {K : Frag} {h : Heap} {mg : Str → Option Value}
theorem mkT_of (X : K.In h) (G : h.Ns mainGlobals mg) {d : ExD} (e : inW K d.x = d.val) (c : exB P.main.file K d = true) (t : TxtOk d)
    (top : (P.main.scope.names.lookup ("super" : Str)).isSome = false) (fS : (d.fld == ("self" : Str)) = false) (fD : (d.fld == ("__debug__" : Str)) = false)
    (kF : (EMK.iS d.fld).names.lookup d.fld = some .local) (kC : (EMK.iS d.fld).names.lookup ("__class__" : Str) = some .free) (kU : (EMK.iS d.fld).names.lookup ("super" : Str) = some .globalImplicit) : S.MkT P K mg d.x d.fld := by
  unfold exB at c
  simp only [Bool.and_eq_true] at c
  obtain ⟨c1, c2, c3, c4, c5, c6, c7, c8, c9, c10, c11, c12, c13, c14, c15, c16⟩ := c
  obtain ⟨msg, j, p1, p2, q0, q1, q2, q3, q4, q5, q6, q7, q8, q9, t1, t2, t3, t4, pl, t5⟩ := t
  unfold fnB at c11
  unfold inW at e
  cases q : K.lookup (inAt K d.x) with
  | none =>
    rw [q] at c11
    cases c11
  | some o =>
    obtain ⟨oc, od, dt, osl⟩ := o
    rw [q] at c11 e
    cases dt with
    | func fd =>
      obtain ⟨n1, n2, n3, n4, n5, n6, n7, n8, n9, n10, n11, n12, n13, n14, n15⟩ := fd
      have e2 : (some (n1, n2, n3, n4, n5, n6, n7.map (·.1), n15) : InW) = (some (("__init__" : Str), (d.x ++ ".__init__" : Str), L2.defArgs (initS d.st), FuncBody.stmts (L2.defBody (initS d.st)), L2.defScope (initS d.st), mainGlobals, [("__class__" : Str)], builtinsNs) : InW) := e
      simp only [Option.some.injEq, Prod.mk.injEq] at e2
      obtain ⟨h1, h2, h3, h4, h5, h6, h7, h8⟩ := e2
      simp only [Bool.and_eq_true] at c11
      obtain ⟨k1, k2, k3, k4, k5⟩ := c11
      cases isN_ok k1
      cases isN_ok k2
      rw [t1] at h3
      rw [t2] at h4
      rw [t3] at h5
      subst h1 h3 h4 h5 h6 h8
      unfold codeB at k4
      split at k4
      · rename_i cda
        split at k4
        · rename_i ccl cdd vs ccs hcode
          split at k4
          · rename_i f tf hvs
            cases of_decide_eq_true k4
            unfold cellB at k5
            split at k5
            · rename_i nm cc
              split at k5
              · rename_i cl cld C' csl hcell
                have ec := beq_iff_eq.mp k5
                subst ec
                have en : nm = "__class__" := by simpa using h7
                subst en
                exact ⟨_, cc, cda, {
                  gC := mg_of X G (He.eqO_ok c1), cls := clsB_ok c2, init := c3, sa := He.eqO_ok c4, noN := He.eqO_ok c5, iC := He.eqO_ok c6, tC := of_decide_eq_true c7, kp := c8,
                  exC := of_decide_eq_true c9, tyC := of_decide_eq_true c10,
                  fn := ⟨oc, od, n10, n11, n12, n14, osl, n2, msg, j, p1, p2, q0, q1, q2, q3, q4, q5, q6, q7, q8, q9, q, k3, fun s u v => t4 _ _ _ _ _ _ _ s u v, pl, t5⟩,
                  code := ⟨_, _, _, _, _, hcode, hvs⟩, cell := ⟨_, _, _, hcell⟩, opq := He.eqO_ok c12, sup := He.eqO_ok c13, subV := of_decide_eq_true c14, mroC := of_decide_eq_true c15,
                  zs := mg_none_of X G (He.eqO_ok c16), top := top, fS := fS, fD := fD, kF := kF, kC := kC, kU := kU }⟩
              · cases k5
            · cases k5
          · cases k4
        · cases k4
      · cases k4
    | _ => cases c11
end
/-! ### the hook -/
def asE (g : Addr → Option Obj) (n : Nat) : List Addr := He.asD g n ++ [cStatics]
abbrev AlE : Type := Bool × List He.FnW × List InW
def obsE (file : Str) (xb : Bool) (fa : List He.Fa) (fn : List He.DefD) (ex : List ExD) (K : Frag) : AlE :=
  (((fa.all fun f => f.ok K) && (fn.all fun d => d.ok K)) && ((ex.all fun d => exB file K d) && (!xb || S.xclB K)), fn.map (fun d => He.fnW K d.at_), ex.map fun d => inW K d.x)
def valE (fn : List He.DefD) (ex : List ExD) : AlE := (true, fn.map He.DefD.val, ex.map ExD.val)
def SaysE (file : Str) (xb : Bool) (fa : List He.Fa) (fn : List He.DefD) (ex : List ExD) (K : Frag) : Prop := obsE file xb fa fn ex K = valE fn ex
def obsEG (file : Str) (xb : Bool) (n : Nat) (fa : List He.Fa) (fn : List He.DefD) (ex : List ExD) (g : Addr → Option Obj) : AlE := obsE file xb fa fn ex (He.frG g (asE g n))
def hookE (file : Str) (xb : Bool) (n : Nat) (fa : List He.Fa) (fn : List He.DefD) (ex : List ExD) : Hook where
  α := AlE
  obs := fun s => obsEG file xb n fa fn ex s.heap.get?
  val := fun _ => valE fn ex
  says := fun _ h => ∃ K : Frag, K.In h ∧ SaysE file xb fa fn ex K
  of := fun _ _ e => ⟨_, He.frG_in, e⟩
  keeps := fun _ _ _ ⟨K, hK, c⟩ k => ⟨K, Frag.In.keeps hK k, c⟩
theorem obsEG_eq {file : Str} {xb : Bool} {n : Nat} {fa : List He.Fa} {fn : List He.DefD} {ex : List ExD} {g : Addr → Option Obj} {s : Shared} (h : ∀ a, g a = s.heap.get? a) : obsEG file xb n fa fn ex g = (hookE file xb n fa fn ex).obs s := by
  have e : g = s.heap.get? := funext h
  rw [e] <;> rfl
section
variable {P : Program} {file : Str} {xb : Bool} {fa : List He.Fa} {fn : List He.DefD} {ex : List ExD} {K : Frag} {h : Heap} {mg : Str → Option Value}
theorem SaysE.b (c : SaysE file xb fa fn ex K) : (((fa.all fun f => f.ok K) && (fn.all fun d => d.ok K)) && ((ex.all fun d => exB file K d) && (!xb || S.xclB K))) = true := congrArg (fun z : AlE => z.1) c
theorem SaysE.fact (c : SaysE file xb fa fn ex K) (i : Nat) {f : He.Fa} (h : fa[i]? = some f := by rfl) : f.ok K = true :=
  List.all_eq_true.mp (He.ba (He.ba c.b).1).1 f (List.mem_of_getElem? h)
theorem SaysE.def_ (c : SaysE file xb fa fn ex K) (i : Nat) {d : He.DefD} (h : fn[i]? = some d := by rfl) : ∃ fd, L2.FunD K d.name d.qual d.params d.body d.scope (d.dvs K) (d.kws K) (He.fAd K d.at_) fd := by
  have e : fn.map (fun d => He.fnW K d.at_) = fn.map He.DefD.val := congrArg (fun z : AlE => z.2.1) c
  have e2 : (fn.map fun d => He.fnW K d.at_)[i]? = (fn.map He.DefD.val)[i]? := by rw [e]
  rw [List.getElem?_map, List.getElem?_map, h] at e2
  exact He.DefD.funD (Option.some.inj e2) (List.all_eq_true.mp (He.ba (He.ba c.b).1).2 d (List.mem_of_getElem? h))
theorem SaysE.xcl (c : SaysE file true fa fn ex K) : S.XCl K := S.xcl_ok (He.ba (He.ba c.b).2).2
theorem SaysE.mk (X : K.In h) (G : h.Ns mainGlobals mg) (c : SaysE P.main.file xb fa fn ex K) (i : Nat) {d : ExD} (t : TxtOk d) (hi : ex[i]? = some d := by rfl)
    (top : (P.main.scope.names.lookup ("super" : Str)).isSome = false := by rfl) (fS : (d.fld == ("self" : Str)) = false := by rfl) (fD : (d.fld == ("__debug__" : Str)) = false := by rfl)
    (kF : (EMK.iS d.fld).names.lookup d.fld = some .local := by rfl) (kC : (EMK.iS d.fld).names.lookup ("__class__" : Str) = some .free := by rfl) (kU : (EMK.iS d.fld).names.lookup ("super" : Str) = some .globalImplicit := by rfl) : S.MkT P K mg d.x d.fld := by
  have e : ex.map (fun d => inW K d.x) = ex.map ExD.val := congrArg (fun z : AlE => z.2.2) c
  have e2 : (ex.map fun d => inW K d.x)[i]? = (ex.map ExD.val)[i]? := by rw [e]
  rw [List.getElem?_map, List.getElem?_map, hi] at e2
  exact mkT_of X G (Option.some.inj e2) (List.all_eq_true.mp (He.ba (He.ba c.b).2).1 d (List.mem_of_getElem? hi)) t top fS fD kF kC kU
end
end EMH
set_option Elab.async false
set_option linter.all false
set_option autoImplicit false
set_option maxRecDepth 100000
set_option maxHeartbeats 2000000
namespace S
open PySem PySem.Spec PyProof.Rows L2
/-- what a law's function must answer -/
def Keeps (f : List D → M D) : Prop := ∀ ns : List Int, ns.length ≤ 63 → (∃ h', f [.ref 0] [.fro (ns.map D.int)] = some (.ok (.bl true), h')) ∧ ∃ h', f [.kl (ns.map D.int)] [] = some (.ok (.bl true), h')
theorem law_walk {l : PySem.W.OpenLaw} {k : Nat} {q : Program} {loose : List Str} {XP : (Str → Option Value) → Heap → Prop} {YP : World → Heap → Prop} {d : DefRec} {f : List D → M D} (hn : l.most = some 63) (hdf : d.params.defaults = []) (hr : Room k callerA) (hf : Keeps f)
    (F : ∀ (w : World) (mg : Str → Option Value) (fa : Addr) (h : Heap), YP w h → h.Ns mainGlobals mg → mg d.name = some (.ref fa) →
      ∃ K : PySem.W.Frag, K.In h ∧ ∃ fd : FuncData, (∀ (s : Shared) (u : Value), BindsTo s fd ⟨[u], []⟩ [(("script" : Str), u)]) ∧ ∀ base : Heap, FnOk l.prog w K mg base (L2.CX l.prog w) k fa fd ["script"] (spF K 1 f)) :
    PySem.W.WalkO q loose XP YP l.row.toRowW d [] (fun f vs => PySem.call f vs) := by
  refine Att.attach_call hn hdf fun w s₀ s₁ mg mb fa o pm cd doc a vs ns G Y ho hd hcd hmg hobj hints hlen hg => ?_
  obtain ⟨K, KX, fd, hb, hF⟩ := F w mg fa _ Y G.T.g hmg
  exact law_call KX G.T.g G.T.b G.T.builtins G.T.nolimit hg hobj hints (Nat.le_trans hlen (by decide)) hr (fun base _ _ => hF base) hb (fun H hO hS => law_sp hO hS hlen (hf ns hlen).1 (hf ns hlen).2)
    fun H e s' ⟨_, _, _, _, _, _, _, _, _, _, _, _, z⟩ => z
end S
set_option Elab.async false
set_option linter.all false
set_option autoImplicit false
set_option maxRecDepth 100000
set_option maxHeartbeats 1000000
namespace S
open PySem
/-! ### what a reckoning answers -/
def RX {α : Type} (x : Ot α) (Q : α → Hh → Prop) (E : Str → List (Str × D) → Hh → Prop) : Prop := match x with
  | some (.ok a, h) => Q a h
  | some (.exc c fs, h) => E c fs h
  | none => False
abbrev R1 {α : Type} (x : Ot α) (Q : α → Hh → Prop) : Prop := RX x Q fun _ _ _ => False
def RS (x : Os) (Q : Fl → En → Hh → Prop) : Prop := match x with
  | some (f, e, h) => Q f e h
  | none => False
section
variable {α β : Type}
@[simp] theorem RX_ok {a : α} {h : Hh} {Q : α → Hh → Prop} {E : Str → List (Str × D) → Hh → Prop} : RX (some (.ok a, h)) Q E ↔ Q a h := Iff.rfl
@[simp] theorem RX_exc {c : Str} {fs : List (Str × D)} {h : Hh} {Q : α → Hh → Prop} {E : Str → List (Str × D) → Hh → Prop} : RX (some (.exc c fs, h) : Ot α) Q E ↔ E c fs h := Iff.rfl
@[simp] theorem RX_none {Q : α → Hh → Prop} {E : Str → List (Str × D) → Hh → Prop} : RX (none : Ot α) Q E ↔ False := Iff.rfl
theorem RX.bnd {x : Ot α} {k : α → M β} {Q : β → Hh → Prop} {E : Str → List (Str × D) → Hh → Prop} (r : RX x (fun a h => RX (k a h) Q E) E) : RX (bnd x k) Q E := by
  match x, r with
  | some (.ok a, h), r => exact r
  | some (.exc c fs, h), r => exact r
theorem RX_bnd {x : Ot α} {k : α → M β} {Q : β → Hh → Prop} {E : Str → List (Str × D) → Hh → Prop} : RX (bnd x k) Q E ↔ RX x (fun a h => RX (k a h) Q E) E := by
  match x with
  | some (.ok a, h) => exact Iff.rfl
  | some (.exc c fs, h) => exact Iff.rfl
  | none => exact Iff.rfl
theorem RX.mono {x : Ot α} {Q Q' : α → Hh → Prop} {E E' : Str → List (Str × D) → Hh → Prop} (r : RX x Q E) (f : ∀ a h, Q a h → Q' a h) (g : ∀ c fs h, E c fs h → E' c fs h) : RX x Q' E' := by
  match x, r with
  | some (.ok a, h), r => exact f _ _ r
  | some (.exc c fs, h), r => exact g _ _ _ r
theorem R1.mono {x : Ot α} {Q Q' : α → Hh → Prop} {E' : Str → List (Str × D) → Hh → Prop} (r : R1 x Q) (f : ∀ a h, Q a h → Q' a h) : RX x Q' E' := RX.mono r f fun _ _ _ z => z.elim
theorem R1.get {x : Ot α} {Q : α → Hh → Prop} (r : R1 x Q) : ∃ a h, x = some (.ok a, h) ∧ Q a h := by
  match x, r with
  | some (.ok a, h), r => exact ⟨a, h, rfl, r⟩
  | some (.exc c fs, h), r => exact r.elim
theorem R1.of {x : Ot α} {Q : α → Hh → Prop} {a : α} {h : Hh} (e : x = some (.ok a, h)) (q : Q a h) : R1 x Q := by rw [e]; exact q
@[simp] theorem RS_some {f : Fl} {e : En} {h : Hh} {Q : Fl → En → Hh → Prop} : RS (some (f, e, h)) Q ↔ Q f e h := Iff.rfl
@[simp] theorem RS_none {Q : Fl → En → Hh → Prop} : RS none Q ↔ False := Iff.rfl
theorem RS.mono {x : Os} {Q Q' : Fl → En → Hh → Prop} (r : RS x Q) (f : ∀ a e h, Q a e h → Q' a e h) : RS x Q' := by
  match x, r with
  | some (a, e, h), r => exact f _ _ _ r
theorem RS_bndS {x : Ot α} {env : En} {k : α → Hh → Os} {Q : Fl → En → Hh → Prop} : RS (bndS x env k) Q ↔ RX x (fun a h => RS (k a h) Q) fun c fs h => Q (.exc c fs) env h := by
  match x with
  | some (.ok a, h) => exact Iff.rfl
  | some (.exc c fs, h) => exact Iff.rfl
  | none => exact Iff.rfl
theorem RS.bndS {x : Ot α} {env : En} {k : α → Hh → Os} {Q : Fl → En → Hh → Prop} (r : RX x (fun a h => RS (k a h) Q) fun c fs h => Q (.exc c fs) env h) : RS (bndS x env k) Q := RS_bndS.mpr r
/-- behind a statement: on, or out -/
def thenS (b : Sf) (Q : Fl → En → Hh → Prop) : Fl → En → Hh → Prop := fun f e h => match f with
  | .nx => RS (b e h) Q
  | f => Q f e h
theorem RS_seq {a b : Sf} {env : En} {h : Hh} {Q : Fl → En → Hh → Prop} : RS (sSeq a b env h) Q ↔ RS (a env h) (thenS b Q) := by
  unfold sSeq
  match a env h with
  | some (.nx, e, h) => exact Iff.rfl
  | some (.bk, e, h) => exact Iff.rfl
  | some (.ct, e, h) => exact Iff.rfl
  | some (.rt _, e, h) => exact Iff.rfl
  | some (.exc _ _, e, h) => exact Iff.rfl
  | none => exact Iff.rfl
@[simp] theorem thenS_nx {b : Sf} {Q : Fl → En → Hh → Prop} {e : En} {h : Hh} : thenS b Q .nx e h ↔ RS (b e h) Q := Iff.rfl
@[simp] theorem thenS_bk {b : Sf} {Q : Fl → En → Hh → Prop} {e : En} {h : Hh} : thenS b Q .bk e h ↔ Q .bk e h := Iff.rfl
@[simp] theorem thenS_ct {b : Sf} {Q : Fl → En → Hh → Prop} {e : En} {h : Hh} : thenS b Q .ct e h ↔ Q .ct e h := Iff.rfl
@[simp] theorem thenS_rt {b : Sf} {Q : Fl → En → Hh → Prop} {e : En} {h : Hh} {d : D} : thenS b Q (.rt d) e h ↔ Q (.rt d) e h := Iff.rfl
@[simp] theorem thenS_exc {b : Sf} {Q : Fl → En → Hh → Prop} {e : En} {h : Hh} {c : Str} {fs : List (Str × D)} : thenS b Q (.exc c fs) e h ↔ Q (.exc c fs) e h := Iff.rfl
/-- what a def's body must end in -/
def ends (Q : D → Hh → Prop) (E : Str → List (Str × D) → Hh → Prop) : Fl → En → Hh → Prop := fun f _ h => match f with
  | .nx => Q .non h
  | .rt v => Q v h
  | .exc c fs => E c fs h
  | _ => False
@[simp] theorem ends_nx {Q : D → Hh → Prop} {E : Str → List (Str × D) → Hh → Prop} {e : En} {h : Hh} : ends Q E .nx e h ↔ Q .non h := Iff.rfl
@[simp] theorem ends_rt {Q : D → Hh → Prop} {E : Str → List (Str × D) → Hh → Prop} {e : En} {h : Hh} {d : D} : ends Q E (.rt d) e h ↔ Q d h := Iff.rfl
@[simp] theorem ends_exc {Q : D → Hh → Prop} {E : Str → List (Str × D) → Hh → Prop} {e : En} {h : Hh} {c : Str} {fs : List (Str × D)} : ends Q E (.exc c fs) e h ↔ E c fs h := Iff.rfl
@[simp] theorem ends_bk {Q : D → Hh → Prop} {E : Str → List (Str × D) → Hh → Prop} {e : En} {h : Hh} : ends Q E .bk e h ↔ False := Iff.rfl
@[simp] theorem ends_ct {Q : D → Hh → Prop} {E : Str → List (Str × D) → Hh → Prop} {e : En} {h : Hh} : ends Q E .ct e h ↔ False := Iff.rfl
theorem RX_body {N n : Nat} {d : Sf} {ds : List D} {h : Hh} {Q : D → Hh → Prop} {E : Str → List (Str × D) → Hh → Prop} (hl : ds.length = n) (r : RS (d (ds.map some ++ List.replicate (N - n) none) h) (ends Q E)) : RX (bodyF N n d ds h) Q E := by
  unfold bodyF
  rw [if_pos hl]
  revert r
  generalize d (ds.map some ++ List.replicate (N - n) none) h = z
  intro r
  match z, r with
  | some (.nx, e, h), r => exact r
  | some (.rt v, e, h), r => exact r
  | some (.exc c fs, e, h), r => exact r
end
/-! ### loops -/
/-- what a loop's body leaves -/
def lpS (nx : En → Hh → Prop) (Q : Fl → En → Hh → Prop) : Fl → En → Hh → Prop := fun f e h => match f with
  | .nx => nx e h
  | .ct => nx e h
  | .bk => Q .nx e h
  | f => Q f e h
@[simp] theorem lpS_nx {n : En → Hh → Prop} {Q : Fl → En → Hh → Prop} {e : En} {h : Hh} : lpS n Q .nx e h ↔ n e h := Iff.rfl
@[simp] theorem lpS_ct {n : En → Hh → Prop} {Q : Fl → En → Hh → Prop} {e : En} {h : Hh} : lpS n Q .ct e h ↔ n e h := Iff.rfl
@[simp] theorem lpS_bk {n : En → Hh → Prop} {Q : Fl → En → Hh → Prop} {e : En} {h : Hh} : lpS n Q .bk e h ↔ Q .nx e h := Iff.rfl
@[simp] theorem lpS_rt {n : En → Hh → Prop} {Q : Fl → En → Hh → Prop} {e : En} {h : Hh} {d : D} : lpS n Q (.rt d) e h ↔ Q (.rt d) e h := Iff.rfl
@[simp] theorem lpS_exc {n : En → Hh → Prop} {Q : Fl → En → Hh → Prop} {e : En} {h : Hh} {c : Str} {fs : List (Str × D)} : lpS n Q (.exc c fs) e h ↔ Q (.exc c fs) e h := Iff.rfl
theorem RS_while {t : Tf} {b : Sf} {Q : Fl → En → Hh → Prop} (I : Nat → En → Hh → Prop)
    (step : ∀ n e h, I n e h → RX (t e h) (fun c h => if c then RS (b e h) (lpS (fun e h => ∃ m, m < n ∧ I m e h) Q) else Q .nx e h) fun c fs h => Q (.exc c fs) e h)
    {n : Nat} {e : En} {h : Hh} (i : I n e h) : RS (sWhile t b e h) Q := by
  suffices hh : ∃ k r, whileN t b k e h = some r ∧ RS (some r) Q by
    obtain ⟨k, r, e1, e2⟩ := hh
    rw [while_eq e1]
    exact e2
  induction n using Nat.strongRecOn generalizing e h with
  | ind n ih =>
    have s := step n e h i
    cases z : t e h with
    | none => rw [z] at s; exact s.elim
    | some y =>
      obtain ⟨rs, h1⟩ := y
      rw [z] at s
      cases rs with
      | exc c fs => exact ⟨1, (.exc c fs, e, h1), by simp [whileN, z], s⟩
      | ok c =>
        cases c with
        | false => exact ⟨1, (.nx, e, h1), by simp [whileN, z], by simpa using s⟩
        | true =>
          simp only [RX_ok, if_true] at s
          cases w : b e h1 with
          | none => rw [w] at s; exact s.elim
          | some y =>
            obtain ⟨f, e2, h2⟩ := y
            rw [w] at s
            cases f with
            | nx =>
              obtain ⟨m, hm, i2⟩ := s
              obtain ⟨k, r, q1, q2⟩ := ih m hm i2
              exact ⟨k + 1, r, by simp [whileN, z, w, q1], q2⟩
            | ct =>
              obtain ⟨m, hm, i2⟩ := s
              obtain ⟨k, r, q1, q2⟩ := ih m hm i2
              exact ⟨k + 1, r, by simp [whileN, z, w, q1], q2⟩
            | bk => exact ⟨1, (.nx, e2, h2), by simp [whileN, z, w], s⟩
            | rt d => exact ⟨1, (.rt d, e2, h2), by simp [whileN, z, w], s⟩
            | exc c fs => exact ⟨1, (.exc c fs, e2, h2), by simp [whileN, z, w], s⟩
theorem RS_forL {g : Gf} {b : Sf} {ck : List (Nat × List D)} {Q : Fl → En → Hh → Prop} (I : Nat → En → Hh → Prop) (all : List D)
    (step : ∀ k x e h, all[k]? = some x → I k e h → ckOk ck h ∧ ∃ e' h', g x e h = some (e', h') ∧ RS (b e' h') (lpS (I (k + 1)) Q))
    (fin : ∀ e h, I all.length e h → ckOk ck h ∧ Q .nx e h) : ∀ (xs : List D) (k : Nat) {e : En} {h : Hh}, all.drop k = xs → k ≤ all.length → I k e h → RS (forL g b ck xs e h) Q
  | [], k, e, h, ed, hk, i => by
    have : all.length - k = 0 := by rw [← List.length_drop, ed]; rfl
    obtain rfl : k = all.length := by omega
    obtain ⟨c, q⟩ := fin e h i
    unfold forL
    rw [if_pos (ckB_true c)]
    exact q
  | x :: xs, k, e, h, ed, hk, i => by
    have hlt : k < all.length := by
      have : all.length - k = xs.length + 1 := by rw [← List.length_drop, ed]; rfl
      omega
    rw [List.drop_eq_getElem_cons hlt] at ed
    cases ed
    obtain ⟨c, e', h', eg, r⟩ := step k _ e h (List.getElem?_eq_getElem hlt) i
    have go : ∀ e2 h2, I (k + 1) e2 h2 → RS (forL g b ck (all.drop (k + 1)) e2 h2) Q := fun e2 h2 i2 => RS_forL I all step fin _ (k + 1) rfl hlt i2
    unfold forL
    rw [if_pos (ckB_true c), eg]
    dsimp only
    cases w : b e' h' with
    | none => rw [w] at r; exact r.elim
    | some y =>
      obtain ⟨f, e2, h2⟩ := y
      rw [w] at r
      cases f with
      | nx => exact go e2 h2 r
      | ct => exact go e2 h2 r
      | bk => exact r
      | rt d => exact r
      | exc c fs => exact r
theorem RS_for {i : If_} {g : Gf} {b : Sf} {Q : Fl → En → Hh → Prop} {env : En} {h h1 : Hh} {it : Iy} (I : Nat → En → Hh → Prop) (ei : i env h = some (.ok it, h1)) (start : I 0 env h1)
    (step : ∀ k x e h, it.xs[k]? = some x → I k e h → ckOk it.ck h ∧ ∃ e' h', g x e h = some (e', h') ∧ RS (b e' h') (lpS (I (k + 1)) Q))
    (fin : ∀ e h, I it.xs.length e h → ckOk it.ck h ∧ Q .nx e h) : RS (sFor i g b env h) Q := by
  unfold sFor
  rw [ei]
  exact RS_forL I it.xs step fin _ 0 rfl (Nat.zero_le _) start
theorem lcL_run {g : Gf} {t : Tf} {e : Ef} {ck : List (Nat × List D)} {env : En} {Q : List D → Hh → Prop} (J : Nat → List D → Hh → Prop) (all : List D)
    (step : ∀ k x ys h, all[k]? = some x → J k ys h → ckOk ck h ∧ ∃ env' h1, g x env h = some (env', h1) ∧ R1 (t env' h1) fun c h2 => if c then R1 (e env' h2) fun y h3 => J (k + 1) (ys ++ [y]) h3 else J (k + 1) ys h2)
    (fin : ∀ ys h, J all.length ys h → ckOk ck h ∧ Q ys h) : ∀ (xs : List D) (k : Nat) (ys : List D) {h : Hh}, all.drop k = xs → k ≤ all.length → J k ys h → ∃ zs h', lcL g t e ck env xs h = some (zs, h') ∧ Q (ys ++ zs) h'
  | [], k, ys, h, ed, hk, i => by
    have : all.length - k = 0 := by rw [← List.length_drop, ed]; rfl
    obtain rfl : k = all.length := by omega
    obtain ⟨c, q⟩ := fin ys h i
    unfold lcL
    rw [if_pos (ckB_true c)]
    exact ⟨[], h, rfl, by simpa using q⟩
  | x :: xs, k, ys, h, ed, hk, i => by
    have hlt : k < all.length := by
      have : all.length - k = xs.length + 1 := by rw [← List.length_drop, ed]; rfl
      omega
    rw [List.drop_eq_getElem_cons hlt] at ed
    cases ed
    obtain ⟨c, env', h1, eg, r⟩ := step k _ ys h (List.getElem?_eq_getElem hlt) i
    unfold lcL
    rw [if_pos (ckB_true c), eg]
    dsimp only
    obtain ⟨b, h2, e1, r⟩ := r.get
    rw [e1]
    cases b with
    | false =>
      simp only [Bool.false_eq_true, if_false] at r
      exact lcL_run J all step fin _ (k + 1) ys rfl hlt r
    | true =>
      simp only [if_true] at r
      obtain ⟨y, h3, e2, r⟩ := r.get
      obtain ⟨zs, h4, e3, q⟩ := lcL_run J all step fin _ (k + 1) (ys ++ [y]) rfl hlt r
      dsimp only
      rw [e2]
      dsimp only
      rw [e3]
      exact ⟨y :: zs, h4, rfl, by simpa using q⟩
theorem R_lc {vs : List Nat} {i : If_} {g : Gf} {t : Tf} {e : Ef} {env : En} {h h1 : Hh} {it : Iy} {Q : D → Hh → Prop} {E : Str → List (Str × D) → Hh → Prop} (J : Nat → List D → Hh → Prop) (ei : i env h = some (.ok it, h1)) (hz : it.xs.length ≤ sizeLine) (start : J 0 [] h1)
    (step : ∀ k x ys h, it.xs[k]? = some x → J k ys h → ckOk it.ck h ∧ ∃ env' h1, g x (wipeE env vs) h = some (env', h1) ∧ R1 (t env' h1) fun c h2 => if c then R1 (e env' h2) fun y h3 => J (k + 1) (ys ++ [y]) h3 else J (k + 1) ys h2)
    (fin : ∀ ys h, J it.xs.length ys h → ckOk it.ck h ∧ Q (.ref h.length) (h ++ [.lst ys])) : RX (dLc vs i g t e env h) Q E := by
  unfold dLc
  rw [ei, bnd_ok, if_pos hz]
  obtain ⟨zs, h', e1, q⟩ := lcL_run (Q := fun ys h => Q (.ref h.length) (h ++ [.lst ys])) J it.xs step fin it.xs 0 [] rfl (Nat.zero_le _) start
  rw [e1]
  exact q
end S
set_option Elab.async false
set_option linter.all false
set_option autoImplicit false
set_option maxRecDepth 100000
set_option maxHeartbeats 1000000
namespace S
open PySem L2
/-! ### the combinators, unfolded -/
@[simp] theorem sizeL : sizeLine = 16777216 := sizeLine_eq
/-- a target's answer -/
def gK (o : Option (En × Hh)) : Os := match o with | some (env, h) => some (.nx, env, h) | none => none
@[simp] theorem gK_some {env : En} {h : Hh} : gK (some (env, h)) = some (.nx, env, h) := rfl
/-- a bool's choice -/
def boolD {β : Type} (x : D) (t f : Option β) : Option β := match x with | .bl true => t | .bl false => f | _ => none
@[simp] theorem boolD_bl {β : Type} {b : Bool} {t f : Option β} : boolD (.bl b) t f = if b then t else f := by cases b <;> rfl
def chnD (r : Op D) (k : Hh → Ot D) : Ot D := match r with | some (.bl true, h) => k h | some (.bl false, h) => some (.ok (.bl false), h) | _ => none
@[simp] theorem chnD_bl {b : Bool} {h : Hh} {k : Hh → Ot D} : chnD (some (.bl b, h)) k = if b then k h else some (.ok (.bl false), h) := by cases b <;> rfl
section
variable {α : Type} {env : En} {h : Hh} {d e : D} {Q : Fl → En → Hh → Prop}
@[simp] theorem v_getv_nil {i : Nat} : getv [] i = none := rfl
@[simp] theorem v_getv_z {o : Option D} {r : En} : getv (o :: r) 0 = o := rfl
@[simp] theorem v_getv_s {o : Option D} {r : En} {i : Nat} : getv (o :: r) (i + 1) = getv r i := rfl
@[simp] theorem v_var {i : Nat} : dVar i env h = (match getv env i with | some d => some (.ok d, h) | none => none) := rfl
@[simp] theorem v_C : dC d env h = some (.ok d, h) := rfl
@[simp] theorem v_nil : dNil env h = some (.ok [], h) := rfl
@[simp] theorem v_cons {a : Ef} {r : Af} : dCons a r env h = bnd (a env h) fun x h => bnd (r env h) fun xs h => some (.ok (x :: xs), h) := rfl
@[simp] theorem v_tup {a : Af} : dTup a env h = bnd (a env h) fun xs h => if xs.length ≤ sizeLine then some (.ok (.tup xs), h) else none := rfl
@[simp] theorem v_lst {a : Af} : dLst a env h = bnd (a env h) fun xs h => if xs.length ≤ sizeLine then some (.ok (.ref h.length), h ++ [.lst xs]) else none := rfl
@[simp] theorem v_bin {op : D → D → Hh → Op D} {a b : Ef} : dBin op a b env h = bnd (a env h) fun x h => bnd (b env h) fun y h => lft (op x y h) := rfl
@[simp] theorem v_un {op : D → Hh → Op D} {a : Ef} : dUn op a env h = bnd (a env h) fun x h => lft (op x h) := rfl
@[simp] theorem v_fun {f : List D → Hh → Op D} {a : Af} : dFun f a env h = bnd (a env h) fun xs h => lft (f xs h) := rfl
@[simp] theorem v_call {f : List D → M D} {a : Af} : dCall f a env h = bnd (a env h) f := rfl
@[simp] theorem v_if {t : Tf} {a b : Ef} : dIf t a b env h = bnd (t env h) fun c h => if c then a env h else b env h := rfl
@[simp] theorem v_tV {a : Ef} : tV a env h = bnd (a env h) fun x h => match truD x h with | some b => some (.ok b, h) | none => none := rfl
@[simp] theorem v_tNot {t : Tf} : S.tNot t env h = bnd (t env h) fun c h => some (.ok (!c), h) := rfl
@[simp] theorem v_tAnd {t u : Tf} : S.tAnd t u env h = bnd (t env h) fun c h => if c then u env h else some (.ok false, h) := rfl
@[simp] theorem v_tOr {t u : Tf} : S.tOr t u env h = bnd (t env h) fun c h => if c then some (.ok true, h) else u env h := rfl
@[simp] theorem v_dAnd {a b : Ef} : dAnd a b env h = bnd (a env h) fun x h => boolD x (b env h) (some (.ok (.bl false), h)) := rfl
@[simp] theorem v_dOr {a b : Ef} : dOr a b env h = bnd (a env h) fun x h => boolD x (some (.ok (.bl true), h)) (b env h) := by
  unfold dOr
  congr
  funext x h
  cases x <;> try rfl
  rename_i b
  cases b <;> rfl
@[simp] theorem v_dNot {a : Ef} : dNot a env h = bnd (a env h) fun x h => match x with | .bl b => some (.ok (.bl (!b)), h) | _ => none := rfl
@[simp] theorem v_tCmp {op : D → D → Hh → Op D} {a b : Ef} : S.tCmp op a b env h = bnd (a env h) fun x h => bnd (b env h) fun y h => match op x y h with | some (.bl c, h) => some (.ok c, h) | _ => none := rfl
@[simp] theorem v_chain {op op' : D → D → Hh → Op D} {a b c : Ef} : dChain op op' a b c env h = bnd (a env h) fun x h => bnd (b env h) fun y h => chnD (op x y h) fun h => bnd (c env h) fun z h => lft (op' y z h) := rfl
@[simp] theorem v_opI {f : Int → Int → Int} {i j : Int} : opI f (.int i) (.int j) h = some (.int (f i j), h) := rfl
@[simp] theorem v_opIc {c : Int → Int → Bool} {f : Int → Int → Int} {i j : Int} : opIc c f (.int i) (.int j) h = if c i j then some (.int (f i j), h) else none := rfl
@[simp] theorem v_opB {f : Int → Int → Bool} {i j : Int} : opB f (.int i) (.int j) h = some (.bl (f i j), h) := rfl
@[simp] theorem v_addI {i j : Int} : opAdd (.int i) (.int j) h = some (.int (i + j), h) := rfl
@[simp] theorem v_addT {xs ys : List D} : opAdd (.tup xs) (.tup ys) h = if xs.length + ys.length ≤ sizeLine then some (.tup (xs ++ ys), h) else none := rfl
@[simp] theorem v_f1 {op : D → Hh → Op D} : f1 op [d] h = op d h := rfl
@[simp] theorem v_int {i : Int} : opInt (.int i) h = some (.int i, h) := rfl
@[simp] theorem v_abs {i : Int} : opAbs (.int i) h = some (.int (if i < 0 then -i else i), h) := rfl
@[simp] theorem v_lenT {xs : List D} : opLen (.tup xs) h = some (.int xs.length, h) := rfl
@[simp] theorem v_seq {a b : Sf} : RS (sSeq a b env h) Q ↔ RS (a env h) (thenS b Q) := RS_seq
@[simp] theorem v_sif {t : Tf} {a b : Sf} : sIf t a b env h = bndS (t env h) env fun c h => if c then a env h else b env h := rfl
@[simp] theorem v_ret {a : Ef} : sRet a env h = bndS (a env h) env fun d h => some (.rt d, env, h) := rfl
@[simp] theorem v_retN : sRetN env h = some (.rt .non, env, h) := rfl
@[simp] theorem v_ex {a : Ef} : sEx a env h = bndS (a env h) env fun _ h => some (.nx, env, h) := rfl
@[simp] theorem v_skip : sSkip env h = some (.nx, env, h) := rfl
@[simp] theorem v_brk : sBreak env h = some (.bk, env, h) := rfl
@[simp] theorem v_cnt : sCont env h = some (.ct, env, h) := rfl
@[simp] theorem v_set {i : Nat} {a : Ef} : sSet i a env h = bndS (a env h) env fun d h => some (.nx, env.set i (some d), h) := rfl
@[simp] theorem v_gNm {i : Nat} : gNm i d env h = some (env.set i (some d), h) := rfl
@[simp] theorem v_sAs {g : Gf} {a : Ef} : sAs g a env h = bndS (a env h) env fun d h => gK (g d env h) := rfl
@[simp] theorem v_isi_non_int {b : Bool} {i : Int} {x : Str} {xs : List D} : opIsi "int" D.non h = some (.bl false, h) := rfl
@[simp] theorem v_isi_non_bool {b : Bool} {i : Int} {x : Str} {xs : List D} : opIsi "bool" D.non h = some (.bl false, h) := rfl
@[simp] theorem v_isi_non_tuple {b : Bool} {i : Int} {x : Str} {xs : List D} : opIsi "tuple" D.non h = some (.bl false, h) := rfl
@[simp] theorem v_isi_non_str {b : Bool} {i : Int} {x : Str} {xs : List D} : opIsi "str" D.non h = some (.bl false, h) := rfl
@[simp] theorem v_isi_non_list {b : Bool} {i : Int} {x : Str} {xs : List D} : opIsi "list" D.non h = some (.bl false, h) := rfl
@[simp] theorem v_isi_non_dict {b : Bool} {i : Int} {x : Str} {xs : List D} : opIsi "dict" D.non h = some (.bl false, h) := rfl
@[simp] theorem v_isi_bl_int {b : Bool} {i : Int} {x : Str} {xs : List D} : opIsi "int" (D.bl b) h = some (.bl true, h) := rfl
@[simp] theorem v_isi_bl_bool {b : Bool} {i : Int} {x : Str} {xs : List D} : opIsi "bool" (D.bl b) h = some (.bl true, h) := rfl
@[simp] theorem v_isi_bl_tuple {b : Bool} {i : Int} {x : Str} {xs : List D} : opIsi "tuple" (D.bl b) h = some (.bl false, h) := rfl
@[simp] theorem v_isi_bl_str {b : Bool} {i : Int} {x : Str} {xs : List D} : opIsi "str" (D.bl b) h = some (.bl false, h) := rfl
@[simp] theorem v_isi_bl_list {b : Bool} {i : Int} {x : Str} {xs : List D} : opIsi "list" (D.bl b) h = some (.bl false, h) := rfl
@[simp] theorem v_isi_bl_dict {b : Bool} {i : Int} {x : Str} {xs : List D} : opIsi "dict" (D.bl b) h = some (.bl false, h) := rfl
@[simp] theorem v_isi_int_int {b : Bool} {i : Int} {x : Str} {xs : List D} : opIsi "int" (D.int i) h = some (.bl true, h) := rfl
@[simp] theorem v_isi_int_bool {b : Bool} {i : Int} {x : Str} {xs : List D} : opIsi "bool" (D.int i) h = some (.bl false, h) := rfl
@[simp] theorem v_isi_int_tuple {b : Bool} {i : Int} {x : Str} {xs : List D} : opIsi "tuple" (D.int i) h = some (.bl false, h) := rfl
@[simp] theorem v_isi_int_str {b : Bool} {i : Int} {x : Str} {xs : List D} : opIsi "str" (D.int i) h = some (.bl false, h) := rfl
@[simp] theorem v_isi_int_list {b : Bool} {i : Int} {x : Str} {xs : List D} : opIsi "list" (D.int i) h = some (.bl false, h) := rfl
@[simp] theorem v_isi_int_dict {b : Bool} {i : Int} {x : Str} {xs : List D} : opIsi "dict" (D.int i) h = some (.bl false, h) := rfl
@[simp] theorem v_isi_str_int {b : Bool} {i : Int} {x : Str} {xs : List D} : opIsi "int" (D.str x) h = some (.bl false, h) := rfl
@[simp] theorem v_isi_str_bool {b : Bool} {i : Int} {x : Str} {xs : List D} : opIsi "bool" (D.str x) h = some (.bl false, h) := rfl
@[simp] theorem v_isi_str_tuple {b : Bool} {i : Int} {x : Str} {xs : List D} : opIsi "tuple" (D.str x) h = some (.bl false, h) := rfl
@[simp] theorem v_isi_str_str {b : Bool} {i : Int} {x : Str} {xs : List D} : opIsi "str" (D.str x) h = some (.bl true, h) := rfl
@[simp] theorem v_isi_str_list {b : Bool} {i : Int} {x : Str} {xs : List D} : opIsi "list" (D.str x) h = some (.bl false, h) := rfl
@[simp] theorem v_isi_str_dict {b : Bool} {i : Int} {x : Str} {xs : List D} : opIsi "dict" (D.str x) h = some (.bl false, h) := rfl
@[simp] theorem v_isi_tup_int {b : Bool} {i : Int} {x : Str} {xs : List D} : opIsi "int" (D.tup xs) h = some (.bl false, h) := rfl
@[simp] theorem v_isi_tup_bool {b : Bool} {i : Int} {x : Str} {xs : List D} : opIsi "bool" (D.tup xs) h = some (.bl false, h) := rfl
@[simp] theorem v_isi_tup_tuple {b : Bool} {i : Int} {x : Str} {xs : List D} : opIsi "tuple" (D.tup xs) h = some (.bl true, h) := rfl
@[simp] theorem v_isi_tup_str {b : Bool} {i : Int} {x : Str} {xs : List D} : opIsi "str" (D.tup xs) h = some (.bl false, h) := rfl
@[simp] theorem v_isi_tup_list {b : Bool} {i : Int} {x : Str} {xs : List D} : opIsi "list" (D.tup xs) h = some (.bl false, h) := rfl
@[simp] theorem v_isi_tup_dict {b : Bool} {i : Int} {x : Str} {xs : List D} : opIsi "dict" (D.tup xs) h = some (.bl false, h) := rfl
end
@[simp] theorem RX_ite {α : Type} {c : Prop} [Decidable c] {x y : Ot α} {Q : α → Hh → Prop} {E : Str → List (Str × D) → Hh → Prop} : RX (if c then x else y) Q E ↔ (c → RX x Q E) ∧ (¬ c → RX y Q E) := by
  by_cases h : c <;> simp [h]
@[simp] theorem RS_ite {c : Prop} [Decidable c] {x y : Os} {Q : Fl → En → Hh → Prop} : RS (if c then x else y) Q ↔ (c → RS x Q) ∧ (¬ c → RS y Q) := by
  by_cases h : c <;> simp [h]
@[simp] theorem v_RSb {α : Type} {x : Ot α} {env : En} {k : α → Hh → Os} {Q : Fl → En → Hh → Prop} : RS (bndS x env k) Q ↔ RX x (fun a h => RS (k a h) Q) fun c fs h => Q (.exc c fs) env h := RS_bndS
@[simp] theorem v_RXb {α β : Type} {x : Ot α} {k : α → M β} {Q : β → Hh → Prop} {E : Str → List (Str × D) → Hh → Prop} : RX (bnd x k) Q E ↔ RX x (fun a h => RX (k a h) Q E) E := RX_bnd
@[simp] theorem v_lftite {α : Type} {c : Prop} [Decidable c] {x y : Op α} : lft (if c then x else y) = if c then lft x else lft y := by by_cases h : c <;> simp [h]
theorem eq_of_R1 {α : Type} {x : Ot α} {v : α} {h : Hh} (r : R1 x fun a h' => a = v ∧ h' = h) : x = some (.ok v, h) := by
  obtain ⟨a, h', e, rfl, rfl⟩ := r.get
  exact e
/-- a place of a list, of a tuple -/
theorem atI_get {α : Type} {xs : List α} {i : Int} {j : Nat} (e : i = j) (hj : j < xs.length) : atI xs i = some xs[j] := by
  subst e
  unfold atI ixN
  rw [if_pos (by omega), if_pos (by omega)]
  simp [hj]
@[simp] theorem v_at0 {α : Type} {x : α} {xs : List α} : atI (x :: xs) 0 = some x := by
  exact (atI_get (i := 0) (j := 0) rfl (by simp)).trans rfl
@[simp] theorem v_at1 {α : Type} {x y : α} {xs : List α} : atI (x :: y :: xs) 1 = some y := by
  exact (atI_get (i := 1) (j := 1) rfl (by simp)).trans rfl
@[simp] theorem v_at2 {α : Type} {x y z : α} {xs : List α} : atI (x :: y :: z :: xs) 2 = some z := by
  exact (atI_get (i := 2) (j := 2) rfl (by simp)).trans rfl
@[simp] theorem v_at3 {α : Type} {x y z u : α} {xs : List α} : atI (x :: y :: z :: u :: xs) 3 = some u := by
  exact (atI_get (i := 3) (j := 3) rfl (by simp)).trans rfl
def someO {α : Type} (o : Option α) (h : Hh) : Op α := match o with | some d => some (d, h) | none => none
@[simp] theorem someO_some {α : Type} {d : α} {h : Hh} : someO (some d) h = some (d, h) := rfl
@[simp] theorem v_ixT {xs : List D} {i : Int} {h : Hh} : opIx (.tup xs) (.int i) h = someO (atI xs i) h := by
  show (match atI xs i with | some d => some (d, h) | none => none) = _
  cases atI xs i <;> rfl
def lsO (o : Option O) : Option (List D) := match o with | some (.lst xs) => some xs | some (.fro xs) => some xs | _ => none
@[simp] theorem lsO_lst {xs : List D} : lsO (some (.lst xs)) = some xs := rfl
@[simp] theorem lsO_fro {xs : List D} : lsO (some (.fro xs)) = some xs := rfl
def ixO (o : Option (List D)) (i : Int) (h : Hh) : Op D := match o with | some xs => someO (atI xs i) h | none => none
@[simp] theorem ixO_some {xs : List D} {i : Int} {h : Hh} : ixO (some xs) i h = someO (atI xs i) h := rfl
theorem seqOf_ref {l : Nat} {h : Hh} : seqOf (.ref l) h = lsO h[l]? := by
  cases e : h[l]? with
  | none => simp [seqOf, lsO, e]
  | some o => cases o <;> simp [seqOf, lsO, e]
@[simp] theorem v_ixR {l : Nat} {i : Int} {h : Hh} : opIx (.ref l) (.int i) h = ixO (lsO h[l]?) i h := by
  show (match seqOf (.ref l) h with | some xs => (match atI xs i with | some d => some (d, h) | none => none) | none => none) = _
  rw [seqOf_ref]
  cases lsO h[l]? with
  | none => rfl
  | some xs => cases e : atI xs i <;> simp [ixO, someO, e]
def lnO (o : Option O) (h : Hh) : Op D := match o with | some (.lst xs) => some (.int xs.length, h) | some (.fro xs) => some (.int xs.length, h) | some (.dct _ kvs) => some (.int kvs.length, h) | _ => none
@[simp] theorem lnO_lst {xs : List D} {h : Hh} : lnO (some (.lst xs)) h = some (.int xs.length, h) := rfl
@[simp] theorem lnO_fro {xs : List D} {h : Hh} : lnO (some (.fro xs)) h = some (.int xs.length, h) := rfl
@[simp] theorem lnO_dct {t : Bool} {xs : List (D × D)} {h : Hh} : lnO (some (.dct t xs)) h = some (.int xs.length, h) := rfl
@[simp] theorem v_lenR {l : Nat} {h : Hh} : opLen (.ref l) h = lnO h[l]? h := by
  cases e : h[l]? with
  | none => simp [opLen, lenD, lnO, e]
  | some o => cases o <;> simp [opLen, lenD, lnO, e]
/-- the written list at a place -/
def wrO (o : Option O) : Option (List D) := match o with | some (.lst xs) => some xs | _ => none
@[simp] theorem wrO_lst {xs : List D} : wrO (some (.lst xs)) = some xs := rfl
@[simp] theorem v_lstAt {l : Nat} {h : Hh} : lstAt (.ref l) h = (wrO h[l]?).map fun xs => (l, xs) := by
  cases e : h[l]? with
  | none => simp [lstAt, wrO, e]
  | some o => cases o <;> simp [lstAt, wrO, e]
def setK (o : Option (List D)) (l : Nat) (i : Int) (v : D) (h : Hh) : Option Hh := match o with | some xs => (ixN xs.length i).map fun j => h.set l (.lst (xs.set j v)) | none => none
@[simp] theorem setK_some {xs : List D} {l : Nat} {i : Int} {v : D} {h : Hh} : setK (some xs) l i v h = (ixN xs.length i).map fun j => h.set l (.lst (xs.set j v)) := rfl
@[simp] theorem v_setL {l : Nat} {i : Int} {v : D} {h : Hh} : opSetL (.ref l) (.int i) v h = setK (wrO h[l]?) l i v h := by
  unfold opSetL setK
  rw [v_lstAt]
  cases wrO h[l]? with
  | none => rfl
  | some xs => simp; cases ixN xs.length i <;> rfl
theorem ixN_pos {n j : Nat} {i : Int} (e : i = j) (h : j < n) : ixN n i = some j := by
  subst e; unfold ixN; rw [if_pos (by omega), if_pos (by omega)]; simp
@[simp] theorem ixN_0 {n : Nat} : ixN (n + 1) 0 = some 0 := ixN_pos (j := 0) rfl (by omega)
@[simp] theorem ixN_1 {n : Nat} : ixN (n + 2) 1 = some 1 := ixN_pos (j := 1) rfl (by omega)
@[simp] theorem ixN_2 {n : Nat} : ixN (n + 3) 2 = some 2 := ixN_pos (j := 2) rfl (by omega)
@[simp] theorem ixN_30 : ixN 3 0 = some 0 := rfl
@[simp] theorem ixN_31 : ixN 3 1 = some 1 := rfl
@[simp] theorem ixN_32 : ixN 3 2 = some 2 := rfl
@[simp] theorem ixN_20 : ixN 2 0 = some 0 := rfl
@[simp] theorem ixN_21 : ixN 2 1 = some 1 := rfl
@[simp] theorem v_gSet {op : D → D → D → Hh → Option Hh} {o i : Ef} {d : D} {env : En} {h : Hh} : gSet op o i d env h = (match o env h with
  | some (.ok x, h) => (match i env h with
    | some (.ok y, h) => (op x y d h).map fun h => (env, h)
    | _ => none)
  | _ => none) := by
  unfold gSet
  cases e1 : o env h with
  | none => rfl
  | some p =>
    obtain ⟨r, h1⟩ := p
    cases r with
    | exc c fs => rfl
    | ok x =>
      dsimp only
      cases e2 : i env h1 with
      | none => rfl
      | some q =>
        obtain ⟨r2, h2⟩ := q
        cases r2 with
        | exc c fs => rfl
        | ok y =>
          dsimp only
          cases op x y d h2 <;> rfl
@[simp] theorem v_trR {l : Nat} {h : Hh} : truD (.ref l) h = (wrO h[l]?).map fun xs => !xs.isEmpty := by
  cases e : h[l]? with
  | none => simp [truD, wrO, e]
  | some o => cases o <;> simp [truD, wrO, e]
@[simp] theorem v_isL {l : Nat} {h : Hh} : isL (.ref l) h = (wrO h[l]?).isSome := by
  cases e : h[l]? with
  | none => simp [isL, wrO, e]
  | some o => cases o <;> simp [isL, wrO, e]
@[simp] theorem v_met {op : D → List D → Hh → Op D} {a : Ef} {r : Af} {env : En} {h : Hh} : dMet op a r env h = bnd (a env h) fun x h => if isL x h then bnd (r env h) fun xs h => lft (op x xs h) else none := rfl
def apK (o : Option (List D)) (l : Nat) (y : D) (h : Hh) : Op D := match o with | some xs => if xs.length < sizeLine then some (.non, h.set l (.lst (xs ++ [y]))) else none | none => none
@[simp] theorem apK_some {xs : List D} {l : Nat} {y : D} {h : Hh} : apK (some xs) l y h = if xs.length < sizeLine then some (.non, h.set l (.lst (xs ++ [y]))) else none := rfl
@[simp] theorem v_app {l : Nat} {y : D} {h : Hh} : mAppend (.ref l) [y] h = apK (wrO h[l]?) l y h := by
  unfold mAppend apK
  rw [v_lstAt]
  cases wrO h[l]? <;> rfl
def poK (o : Option (List D)) (l : Nat) (h : Hh) : Op D := match o with | some xs => (xs.getLast?).map fun y => (y, h.set l (.lst xs.dropLast)) | none => none
@[simp] theorem poK_some {xs : List D} {l : Nat} {h : Hh} : poK (some xs) l h = (xs.getLast?).map fun y => (y, h.set l (.lst xs.dropLast)) := rfl
@[simp] theorem v_pop {l : Nat} {h : Hh} : mPop (.ref l) [] h = poK (wrO h[l]?) l h := by
  unfold mPop poK
  rw [v_lstAt]
  cases wrO h[l]? with
  | none => rfl
  | some xs =>
    simp only [Option.map_some]
    rw [List.getLast?_eq_getElem?]
    cases xs[xs.length - 1]? <;> rfl
/-! ### equality by value -/
theorem cmp_val {x y : D} {h : Hh} (h1 : okD x = true) (h2 : okD y = true) (h3 : dep x ≤ 64) (h4 : dep y ≤ 64) : cmpD x y h = some (eqD x y) := by
  cases x <;> first | (cases h1; done) | skip
  all_goals simp [cmpD, h1, h2, h3, h4]
theorem opEq_val {x y : D} {h : Hh} (h1 : okD x = true) (h2 : okD y = true) (h3 : dep x ≤ 64) (h4 : dep y ≤ 64) : opEq x y h = some (.bl (eqD x y), h) := by
  unfold opEq; rw [cmp_val h1 h2 h3 h4]
theorem opNe_val {x y : D} {h : Hh} (h1 : okD x = true) (h2 : okD y = true) (h3 : dep x ≤ 64) (h4 : dep y ≤ 64) : opNe x y h = some (.bl (!eqD x y), h) := by
  unfold opNe; rw [cmp_val h1 h2 h3 h4]
@[simp] theorem v_eqI {i j : Int} {h : Hh} : opEq (.int i) (.int j) h = some (.bl (i == j), h) := rfl
@[simp] theorem v_neI {i j : Int} {h : Hh} : opNe (.int i) (.int j) h = some (.bl (!(i == j)), h) := rfl
@[simp] theorem v_trB {b : Bool} {h : Hh} : truD (.bl b) h = some b := rfl
@[simp] theorem v_trN {h : Hh} : truD .non h = some false := rfl
@[simp] theorem v_trI {i : Int} {h : Hh} : truD (.int i) h = some (i != 0) := rfl
@[simp] theorem v_trT {xs : List D} {h : Hh} : truD (.tup xs) h = some (!xs.isEmpty) := rfl
@[simp] theorem v_neg {i : Int} {h : Hh} : opNeg (.int i) h = some (.int (-i), h) := rfl
@[simp] theorem v_iTp {a : Ef} {env : En} {h : Hh} : iTp a env h = bnd (a env h) fun x h => (match x with | .tup xs => some (.ok ⟨xs, []⟩, h) | _ => none) := rfl
@[simp] theorem v_tuT {xs : List D} {h : Hh} : opTuple (.tup xs) h = some (.tup xs, h) := rfl
def tuO (o : Option (List D)) (h : Hh) : Op D := match o with | some xs => some (.tup xs, h) | none => none
@[simp] theorem tuO_some {xs : List D} {h : Hh} : tuO (some xs) h = some (.tup xs, h) := rfl
@[simp] theorem v_tuR {l : Nat} {h : Hh} : opTuple (.ref l) h = tuO (lsO h[l]?) h := by
  unfold opTuple tuO
  rw [seqOf_ref] <;> cases lsO h[l]? <;> rfl
@[simp] theorem v_gTp {g : Gfs} {xs : List D} {env : En} {h : Hh} : gTp g (.tup xs) env h = g xs env h := rfl
@[simp] theorem v_gsNil {env : En} {h : Hh} : gsNil [] env h = some (env, h) := rfl
def gsK (o : Option (En × Hh)) (r : Gfs) (ds : List D) : Option (En × Hh) := match o with | some (env, h) => r ds env h | none => none
@[simp] theorem gsK_some {env : En} {h : Hh} {r : Gfs} {ds : List D} : gsK (some (env, h)) r ds = r ds env h := rfl
@[simp] theorem v_gsCons {g : Gf} {r : Gfs} {d : D} {ds : List D} {env : En} {h : Hh} : gsCons g r (d :: ds) env h = gsK (g d env h) r ds := rfl
@[simp] theorem v_aug {i : Nat} {op : D → D → Hh → Op D} {e : Ef} {env : En} {h : Hh} : sAug i op e env h = (match getv env i with
  | some x => bndS (e env h) env fun y h => (match op x y h with
    | some (z, h) => some (.nx, env.set i (some z), h)
    | none => none)
  | none => none) := rfl
@[simp] theorem v_isNN {h : Hh} : opIsN .non .non h = some (.bl true, h) := rfl
@[simp] theorem v_notNN {h : Hh} : opNotN .non .non h = some (.bl false, h) := rfl
@[simp] theorem v_isIN {i : Int} {h : Hh} : opIsN (.int i) .non h = some (.bl false, h) := rfl
@[simp] theorem v_notIN {i : Int} {h : Hh} : opNotN (.int i) .non h = some (.bl true, h) := rfl
@[simp] theorem v_isTN {xs : List D} {h : Hh} : opIsN (.tup xs) .non h = some (.bl false, h) := rfl
@[simp] theorem v_notTN {xs : List D} {h : Hh} : opNotN (.tup xs) .non h = some (.bl true, h) := rfl
/-! texts -/
@[simp] theorem v_eqS {x y : Str} {h : Hh} (hx : PyData.strOk x = true) (hy : PyData.strOk y = true) : opEq (.str x) (.str y) h = some (.bl (x == y), h) := opEq_val hx hy (by simp [dep]) (by simp [dep])
@[simp] theorem v_neS {x y : Str} {h : Hh} (hx : PyData.strOk x = true) (hy : PyData.strOk y = true) : opNe (.str x) (.str y) h = some (.bl (!(x == y)), h) := opNe_val hx hy (by simp [dep]) (by simp [dep])
@[simp] theorem k_tell : PyData.strOk (Str.ofString "tell") = true := by decide +kernel
@[simp] theorem k_row : PyData.strOk (Str.ofString "row") = true := by decide +kernel
@[simp] theorem k_col : PyData.strOk (Str.ofString "column") = true := by decide +kernel
@[simp] theorem k_rt : (Str.ofString "row" == Str.ofString "tell") = false := by decide +kernel
@[simp] theorem k_ct : (Str.ofString "column" == Str.ofString "tell") = false := by decide +kernel
@[simp] theorem k_cr : (Str.ofString "column" == Str.ofString "row") = false := by decide +kernel
@[simp] theorem k_rc : (Str.ofString "row" == Str.ofString "column") = false := by decide +kernel
@[simp] theorem k_tr : (Str.ofString "tell" == Str.ofString "row") = false := by decide +kernel
@[simp] theorem k_tc : (Str.ofString "tell" == Str.ofString "column") = false := by decide +kernel
/-! in a tuple of flat things -/
@[simp] theorem v_inT {x : D} {ys : List D} {h : Hh} : opIn x (.tup ys) h = if flatD x && ys.all flatD then some (.bl (inD x ys), h) else none := by
  simp only [opIn, memD]
  split <;> simp_all
@[simp] theorem v_notInT {x : D} {ys : List D} {h : Hh} : opNotIn x (.tup ys) h = if flatD x && ys.all flatD then some (.bl (!inD x ys), h) else none := by
  simp only [opNotIn, memD]
  split <;> simp_all
@[simp] theorem k_fI {i : Int} : flatD (.int i) = true := rfl
@[simp] theorem k_fS {x : Str} : flatD (.str x) = true := rfl
@[simp] theorem k_fN : flatD .non = true := rfl
@[simp] theorem k_fB {b : Bool} : flatD (.bl b) = true := rfl
@[simp] theorem k_fT {xs : List D} : flatD (.tup xs) = false := rfl
@[simp] theorem k_inN {x : D} : inD x [] = false := rfl
@[simp] theorem k_inC {x y : D} {ys : List D} : inD x (y :: ys) = (eqD y x || inD x ys) := rfl
@[simp] theorem k_eqII {i j : Int} : eqD (.int i) (.int j) = (i == j) := by simp [eqD]
@[simp] theorem k_eqSS {x y : Str} : eqD (.str x) (.str y) = (x == y) := by simp [eqD]
@[simp] theorem k_eqIS {i : Int} {y : Str} : eqD (.int i) (.str y) = false := by simp [eqD]
@[simp] theorem k_eqSI {i : Int} {y : Str} : eqD (.str y) (.int i) = false := by simp [eqD]
@[simp] theorem k_eqNS {y : Str} : eqD .non (.str y) = false := by simp [eqD]
@[simp] theorem k_eqSN {y : Str} : eqD (.str y) .non = false := by simp [eqD]
theorem inD_ints {i : Int} {xs : List Int} : inD (.int i) (xs.map D.int) = decide (i ∈ xs) := by
  induction xs with
  | nil => rfl
  | cons x xs ih =>
    rw [List.map_cons, k_inC, ih, k_eqII]
    by_cases h : x = i
    · simp [h]
    · have h2 : ¬ i = x := fun z => h z.symm
      simp [h, h2]
theorem all_flat {xs : List Int} : (xs.map D.int).all flatD = true := by simp
/-! ### what stands -/
/-- all places of h stand in h', but those of l -/
def Hk (l : List Nat) (h h' : Hh) : Prop := h.length ≤ h'.length ∧ ∀ i, i < h.length → i ∉ l → h'[i]? = h[i]?
section
variable {l l' : List Nat} {h h1 h2 h' : Hh}
theorem Hk.refl (l : List Nat) (h : Hh) : Hk l h h := ⟨Nat.le_refl _, fun _ _ _ => rfl⟩
theorem Hk.trans (a : Hk l h h1) (b : Hk l h1 h2) : Hk l h h2 := ⟨Nat.le_trans a.1 b.1, fun i hi n => (b.2 i (Nat.lt_of_lt_of_le hi a.1) n).trans (a.2 i hi n)⟩
theorem Hk.mono (a : Hk l h h1) (s : ∀ i ∈ l, i ∈ l') : Hk l' h h1 := ⟨a.1, fun i hi n => a.2 i hi fun m => n (s i m)⟩
theorem Hk.nil (a : Hk [] h h1) : Hk l h h1 := a.mono fun _ m => nomatch m
theorem Hk.app (g : Hh) : Hk l h (h ++ g) := ⟨by simp, fun i hi _ => List.getElem?_append_left hi⟩
theorem Hk.set {i : Nat} {o : O} (m : i ∈ l) : Hk l h (h.set i o) := ⟨by simp, fun j _ n => List.getElem?_set_ne fun e => n (by rw [← e]; exact m)⟩
/-- a place that is newer than h -/
theorem Hk.new {i : Nat} {o : O} (a : Hk l h h1) (hi : h.length ≤ i) : Hk l h (h1.set i o) := ⟨by simpa using a.1, fun j hj n => (List.getElem?_set_ne (by omega)).trans (a.2 j hj n)⟩
theorem Hk.app' (a : Hk l h h1) (g : Hh) : Hk l h (h1 ++ g) := a.trans (Hk.app g)
theorem Hk.at {i : Nat} {o : O} (a : Hk l h h') (e : h[i]? = some o) (n : i ∉ l) : h'[i]? = some o := (a.2 i (List.getElem?_eq_some_iff.mp e).1 n).trans e
theorem lt_of {i : Nat} {o : O} (e : h[i]? = some o) : i < h.length := (List.getElem?_eq_some_iff.mp e).1
theorem set_at {i : Nat} {o o' : O} (e : h[i]? = some o) : (h.set i o')[i]? = some o' := List.getElem?_set_self (lt_of e)
theorem set_ne {i j : Nat} {o o' : O} (e : h[i]? = some o) (n : i ≠ j) : (h.set j o')[i]? = some o := (List.getElem?_set_ne (Ne.symm n)).trans e
theorem app_at {i : Nat} {o : O} {g : Hh} (e : h[i]? = some o) : (h ++ g)[i]? = some o := (List.getElem?_append_left (lt_of e)).trans e
end
@[simp] theorem set_last {h g : Hh} {a b : O} : (h ++ a :: g).set h.length b = h ++ b :: g := by simp [List.set_append]
@[simp] theorem get_last {h g : Hh} {a : O} : (h ++ a :: g)[h.length]? = some a := by simp
/-- the last of a stack, top first -/
@[simp] theorem last_rev {α : Type} {x : α} {xs : List α} : (xs.reverse ++ [x]).getLast? = some x := by simp
@[simp] theorem drop_rev {α : Type} {x : α} {xs : List α} : (xs.reverse ++ [x]).dropLast = xs.reverse := by simp
/-- a comprehension that changes nothing -/
theorem lc_pure {vs : List Nat} {i : If_} {g : Gf} {t : Tf} {e : Ef} {env : En} {h h1 : Hh} {ck : List (Nat × List D)} {xs : List D} (f : D → Option D) (hi : i env h = some (.ok ⟨xs, ck⟩, h1)) (hc : ckOk ck h1) (hz : xs.length ≤ sizeLine)
    (hx : ∀ x ∈ xs, ∃ env', g x (wipeE env vs) h1 = some (env', h1) ∧ ((t env' h1 = some (.ok false, h1) ∧ f x = none) ∨ (t env' h1 = some (.ok true, h1) ∧ ∃ y, e env' h1 = some (.ok y, h1) ∧ f x = some y))) :
    dLc vs i g t e env h = some (.ok (.ref h1.length), h1 ++ [.lst (xs.filterMap f)]) := by
  have r : R1 (dLc vs i g t e env h) fun d h' => d = .ref h1.length ∧ h' = h1 ++ [.lst (xs.filterMap f)] := by
    refine R_lc (it := ⟨xs, ck⟩) (h1 := h1) (J := fun k ys h' => h' = h1 ∧ ys = (xs.take k).filterMap f) hi hz ⟨rfl, by simp⟩ (fun k x ys h' hk ⟨e1, e2⟩ => ?_) (fun ys h' ⟨e1, e2⟩ => ?_)
    · subst e1 e2
      obtain ⟨hlt, he⟩ := List.getElem?_eq_some_iff.mp hk
      have hm : x ∈ xs := he ▸ List.getElem_mem hlt
      obtain ⟨env', q1, q⟩ := hx x hm
      refine ⟨hc, env', _, q1, ?_⟩
      rw [List.take_succ_eq_append_getElem hlt, List.filterMap_append, he]
      rcases q with ⟨q2, q3⟩ | ⟨q2, y, q4, q5⟩
      · rw [q2]
        simp [q3]
      · rw [q2]
        simp [q4, q5]
    · subst e1 e2
      exact ⟨hc, rfl, by simp⟩
  obtain ⟨a, h', e, rfl, rfl⟩ := r.get
  exact e
@[simp] theorem v_wipe0 {env : En} : wipeE env [] = env := rfl
@[simp] theorem v_wipe1 {env : En} {v : Nat} {vs : List Nat} : wipeE env (v :: vs) = (wipeE env vs).set v none := rfl
@[simp] theorem v_yes {env : En} {h : Hh} : S.tYes env h = some (.ok true, h) := rfl
@[simp] theorem v_raise {c fld : Str} {e : Ef} {env : En} {h : Hh} : sRaise c fld e env h = bndS (e env h) env fun d h => some (.exc c [(fld, d)], env, h) := rfl
theorem ckNil {h : Hh} : ckOk [] h := fun p hp => nomatch hp
theorem ckOne {l : Nat} {xs : List D} {h : Hh} (e : h[l]? = some (.lst xs)) : ckOk [(l, xs)] h := fun p hp => by
  simp at hp; subst hp; exact e
theorem fm_filter {xs : List Int} {p : Int → Bool} {f : D → Option D} (hf : ∀ x ∈ xs, f (.int x) = if p x then some (.int x) else none) : (xs.map D.int).filterMap f = (xs.filter p).map D.int := by
  induction xs with
  | nil => rfl
  | cons x xs ih =>
    have h1 := hf x List.mem_cons_self
    have h2 := ih fun y hy => hf y (List.mem_cons_of_mem _ hy)
    rw [List.map_cons, List.filterMap_cons, h1, h2]
    by_cases c : p x = true
    · simp [c]
    · simp [c]
def rgK (x y : D) (k : List D → Ot D) : Ot D := match x, y with
  | .int i, .int j => if rgOk i j then k (rgD i (j - i).toNat) else none
  | _, _ => none
@[simp] theorem rgK_ints {i j : Int} {k : List D → Ot D} : rgK (.int i) (.int j) k = if rgOk i j then k (rgD i (j - i).toNat) else none := rfl
@[simp] theorem v_tupRg {a b : Ef} {env : En} {h : Hh} : dTupRg a b env h = bnd (a env h) fun x h => bnd (b env h) fun y h => rgK x y fun xs => some (.ok (.tup xs), h) := rfl
@[simp] theorem v_lstRg {a b : Ef} {env : En} {h : Hh} : dLstRg a b env h = bnd (a env h) fun x h => bnd (b env h) fun y h => rgK x y fun xs => some (.ok (.ref h.length), h ++ [.lst xs]) := rfl
theorem rgOk_small {a b : Int} (h1 : -1000000 ≤ a) (h2 : a ≤ 1000000) (h3 : -1000000 ≤ b) (h4 : b ≤ 1000000) : rgOk a b = true := by
  unfold rgOk
  simp only [Bool.and_eq_true, decide_eq_true_eq]
  refine ⟨⟨⟨⟨by omega, by omega⟩, by omega⟩, by omega⟩, by omega⟩
def rg1K (xs : List D) (h : Hh) : Ot Iy := match xs with | [.int j] => if -(2 ^ 62) ≤ j ∧ j < 2 ^ 62 then some (.ok ⟨rgD 0 j.toNat, []⟩, h) else none | _ => none
@[simp] theorem rg1K_int {j : Int} {h : Hh} : rg1K [.int j] h = if -(2 ^ 62) ≤ j ∧ j < 2 ^ 62 then some (.ok ⟨rgD 0 j.toNat, []⟩, h) else none := rfl
@[simp] theorem v_iRg1 {a : Af} {env : En} {h : Hh} : iRg1 a env h = bnd (a env h) rg1K := by
  rfl
theorem rg1K_ok {j : Int} {h : Hh} (h1 : -1000000 ≤ j) (h2 : j ≤ 1000000) : rg1K [.int j] h = some (.ok ⟨rgD 0 j.toNat, []⟩, h) := by
  rw [rg1K_int, if_pos ⟨by omega, by omega⟩]
def lsIt (o : Option (List D)) (l : Nat) (h : Hh) : Ot Iy := match o with | some xs => some (.ok ⟨xs, [(l, xs)]⟩, h) | none => none
@[simp] theorem lsIt_some {xs : List D} {l : Nat} {h : Hh} : lsIt (some xs) l h = some (.ok ⟨xs, [(l, xs)]⟩, h) := rfl
def lsK (x : D) (h : Hh) : Ot Iy := match lstAt x h with | some (l, xs) => some (.ok ⟨xs, [(l, xs)]⟩, h) | none => none
@[simp] theorem lsK_ref {l : Nat} {h : Hh} : lsK (.ref l) h = lsIt (wrO h[l]?) l h := by
  unfold lsK lsIt
  rw [v_lstAt]
  cases wrO h[l]? <;> rfl
@[simp] theorem v_iLs {a : Ef} {env : En} {h : Hh} : iLs a env h = bnd (a env h) lsK := rfl
def nwO (o : Option (List D)) (h : Hh) : Op D := match o with | some xs => some (.ref h.length, h ++ [.lst xs]) | none => none
@[simp] theorem nwO_some {xs : List D} {h : Hh} : nwO (some xs) h = some (.ref h.length, h ++ [.lst xs]) := rfl
@[simp] theorem v_rev {l : Nat} {h : Hh} : opRev (.ref l) h = nwO ((wrO h[l]?).map List.reverse) h := by
  cases e : h[l]? with
  | none => simp [opRev, wrO, nwO, e]
  | some o => cases o <;> simp [opRev, wrO, nwO, e]
@[simp] theorem v_listT {xs : List D} {h : Hh} : opList (.tup xs) h = some (.ref h.length, h ++ [.lst xs]) := rfl
@[simp] theorem v_listR {l : Nat} {h : Hh} : opList (.ref l) h = nwO (lsO h[l]?) h := by
  unfold opList nwO
  rw [seqOf_ref] <;> cases lsO h[l]? <;> rfl
@[simp] theorem v_dSl {a : Ef} {lo hi : En → M (Option Int)} {env : En} {h : Hh} : dSl a lo hi env h = bnd (a env h) fun x h => bnd (lo env h) fun l h => bnd (hi env h) fun u h => lft (opSl x l u h) := rfl
@[simp] theorem v_no {env : En} {h : Hh} : dNo env h = some (.ok none, h) := rfl
def ptK (x : D) (h : Hh) : Ot (Option Int) := match x with | .int i => some (.ok (some i), h) | _ => none
@[simp] theorem ptK_int {i : Int} {h : Hh} : ptK (.int i) h = some (.ok (some i), h) := rfl
@[simp] theorem v_part {a : Ef} {env : En} {h : Hh} : dPart a env h = bnd (a env h) ptK := rfl
@[simp] theorem v_slT {xs : List D} {lo hi : Option Int} {h : Hh} : opSl (.tup xs) lo hi h = some (.tup (cutD xs lo hi), h) := rfl
@[simp] theorem v_slR {l : Nat} {lo hi : Option Int} {h : Hh} : opSl (.ref l) lo hi h = nwO ((lsO h[l]?).map fun xs => cutD xs lo hi) h := by
  cases e : h[l]? with
  | none => simp [opSl, lsO, nwO, e]
  | some o => cases o <;> simp [opSl, lsO, nwO, e]
theorem rgD_get {lo : Int} {n k : Nat} {x : D} (e : (rgD lo n)[k]? = some x) : x = .int (lo + k) ∧ k < n := by
  have hk := (List.getElem?_eq_some_iff.mp e).1
  rw [rgD_length] at hk
  simp [rgD, hk] at e
  exact ⟨e.symm, hk⟩
@[simp] theorem set_last2 {h g : Hh} {a b c : O} : (h ++ a :: b :: g).set (h.length + 1) c = h ++ a :: c :: g := by simp [List.set_append]
@[simp] theorem get_last2 {h g : Hh} {a b : O} : (h ++ a :: b :: g)[h.length + 1]? = some b := by simp [List.getElem?_append_right]
@[simp] theorem set_last3 {h g : Hh} {a b c d : O} : (h ++ a :: b :: c :: g).set (h.length + 2) d = h ++ a :: b :: d :: g := by simp [List.set_append]
@[simp] theorem get_last3 {h g : Hh} {a b c : O} : (h ++ a :: b :: c :: g)[h.length + 2]? = some c := by simp [List.getElem?_append_right]
theorem RS_of {x : Os} {f : Fl} {e : En} {h : Hh} {Q : Fl → En → Hh → Prop} (r : RS x fun f' e' h' => f' = f ∧ e' = e ∧ h' = h) (q : Q f e h) : RS x Q :=
  RS.mono r fun _ _ _ ⟨a, b, c⟩ => by rw [a, b, c]; exact q
end S
set_option Elab.async false
set_option linter.all false
set_option autoImplicit false
set_option maxRecDepth 100000
set_option maxHeartbeats 1000000
namespace S
open PySem L2
/-! ### dicts whose keys are read by an encoding -/
section
variable {κ : Type} [DecidableEq κ] {F : κ → D}
/-- put: in its place, or behind -/
def kput (l : List (κ × D)) (k : κ) (v : D) : List (κ × D) := if k ∈ l.map (·.1) then l.map fun p => if p.1 = k then (p.1, v) else p else l ++ [(k, v)]
def klook (l : List (κ × D)) (k : κ) : Option D := (l.find? fun p => decide (p.1 = k)).map (·.2)
def kD2 (F : κ → D) (l : List (κ × D)) : List (D × D) := l.map fun p => (F p.1, p.2)
theorem dlook_k (hF : ∀ a b, eqD (F a) (F b) = decide (a = b)) (l : List (κ × D)) (k : κ) : dlook (kD2 F l) (F k) = klook l k := by
  induction l with
  | nil => rfl
  | cons p l ih =>
    unfold dlook klook kD2 at ih ⊢
    simp only [List.map_cons, List.find?_cons, hF]
    by_cases c : p.1 = k
    · simp [c]
    · simpa [c] using ih
theorem dput_k (hF : ∀ a b, eqD (F a) (F b) = decide (a = b)) (l : List (κ × D)) (k : κ) (v : D) : dput (kD2 F l) (F k) v = kD2 F (kput l k v) := by
  have h1 : ((kD2 F l).any fun p => eqD p.1 (F k)) = decide (k ∈ l.map (·.1)) := by
    induction l with
    | nil => rfl
    | cons p l ih =>
      unfold kD2 at ih ⊢
      simp only [List.map_cons, List.any_cons, hF, List.mem_cons, ih]
      by_cases c : p.1 = k
      · simp [c]
      · have c2 : ¬ k = p.1 := fun z => c z.symm
        simp [c, c2]
  unfold dput kput
  rw [h1]
  by_cases c : k ∈ l.map (·.1)
  · rw [if_pos (by simpa using c), if_pos c]
    unfold kD2
    rw [List.map_map, List.map_map]
    refine List.map_congr_left fun p _ => ?_
    simp only [Function.comp_apply, hF]
    by_cases c2 : p.1 = k <;> simp [c2]
  · rw [if_neg (by simpa using c), if_neg c]
    simp [kD2]
theorem kput_len (l : List (κ × D)) (k : κ) (v : D) : (kput l k v).length ≤ l.length + 1 := by
  unfold kput; split <;> simp
theorem kput_keys (l : List (κ × D)) (k : κ) (v : D) : (kput l k v).map (·.1) = if k ∈ l.map (·.1) then l.map (·.1) else l.map (·.1) ++ [k] := by
  unfold kput
  split
  · rw [List.map_map]
    refine List.map_congr_left fun p _ => ?_
    simp only [Function.comp_apply]
    split <;> rfl
  · simp
theorem klook_some (l : List (κ × D)) (k : κ) : (klook l k).isSome = decide (k ∈ l.map (·.1)) := by
  induction l with
  | nil => rfl
  | cons p l ih =>
    unfold klook at ih ⊢
    simp only [List.find?_cons, List.map_cons, List.mem_cons]
    by_cases c : p.1 = k
    · simp [c]
    · have c2 : ¬ k = p.1 := fun z => c z.symm
      simpa [c, c2] using ih
theorem klook_of {l : List (κ × D)} (nd : (l.map (·.1)).Nodup) {p : κ × D} (hp : p ∈ l) : klook l p.1 = some p.2 := by
  induction l with
  | nil => cases hp
  | cons q l ih =>
    simp only [List.map_cons, List.nodup_cons] at nd
    unfold klook at ih ⊢
    simp only [List.find?_cons]
    rcases List.mem_cons.mp hp with rfl | hp
    · simp
    · have c : ¬ q.1 = p.1 := fun z => nd.1 (by rw [z]; exact List.mem_map.mpr ⟨p, hp, rfl⟩)
      simpa [c] using ih nd.2 hp
end
/-! ### evaluation -/
def dcO (o : Option O) : Option (Bool × List (D × D)) := match o with
  | some (.dct t kvs) => some (t, kvs)
  | some (.fdc t kvs) => some (t, kvs)
  | _ => none
@[simp] theorem dcO_dct {t : Bool} {kvs : List (D × D)} : dcO (some (.dct t kvs)) = some (t, kvs) := rfl
@[simp] theorem dcO_fdc {t : Bool} {kvs : List (D × D)} : dcO (some (.fdc t kvs)) = some (t, kvs) := rfl
theorem v_dRd {l : Nat} {h : Hh} : dctRd (.ref l) h = dcO h[l]? := by
  cases e : h[l]? with
  | none => simp [dctRd, dcO, e]
  | some o => cases o <;> simp [dctRd, dcO, e]
@[simp] theorem v_dnew {t : Bool} {env : En} {h : Hh} : dNew t env h = some (.ok (.ref h.length), h ++ [.dct t []]) := rfl
def dixK (o : Option (Bool × List (D × D))) (y : D) (h : Hh) : Op D := match o with
  | some (t, kvs) => if isKey t y then someO (dlook kvs y) h else none
  | none => none
@[simp] theorem dixK_some {t : Bool} {kvs : List (D × D)} {y : D} {h : Hh} : dixK (some (t, kvs)) y h = if isKey t y then someO (dlook kvs y) h else none := rfl
@[simp] theorem v_dix {l : Nat} {y : D} {h : Hh} : opDix (.ref l) y h = dixK (dcO h[l]?) y h := by
  unfold opDix
  rw [v_dRd]
  cases dcO h[l]? with
  | none => rfl
  | some p => obtain ⟨t, kvs⟩ := p; simp only [dixK_some]; split <;> (try rfl); unfold someO; cases dlook kvs y <;> rfl
def dinK (b : Bool) (o : Option (Bool × List (D × D))) (y : D) (h : Hh) : Op D := match o with
  | some (t, kvs) => if isKey t y then some (.bl ((dlook kvs y).isSome == b), h) else none
  | none => none
@[simp] theorem dinK_some {b t : Bool} {kvs : List (D × D)} {y : D} {h : Hh} : dinK b (some (t, kvs)) y h = if isKey t y then some (.bl ((dlook kvs y).isSome == b), h) else none := rfl
@[simp] theorem v_din {b : Bool} {l : Nat} {y : D} {h : Hh} : opDin b y (.ref l) h = dinK b (dcO h[l]?) y h := by
  unfold opDin
  rw [v_dRd]
  cases dcO h[l]? with
  | none => rfl
  | some p => rfl
def dctO (o : Option O) : Option (Bool × List (D × D)) := match o with
  | some (.dct t kvs) => some (t, kvs)
  | _ => none
@[simp] theorem dctO_dct {t : Bool} {kvs : List (D × D)} : dctO (some (.dct t kvs)) = some (t, kvs) := rfl
theorem v_dAt {l : Nat} {h : Hh} : dctAt (.ref l) h = (dctO h[l]?).map fun p => (l, p.1, p.2) := by
  cases e : h[l]? with
  | none => simp [dctAt, dctO, e]
  | some o => cases o <;> simp [dctAt, dctO, e]
def dputK (x y v : D) (env : En) (h : Hh) : Os := match dctAt x h with
  | some (l, t, kvs) => if isKey t y ∧ kvs.length < sizeLine then some (.nx, env, h.set l (.dct t (dput kvs y v))) else none
  | none => none
theorem dputK_at {l : Nat} {t : Bool} {kvs : List (D × D)} {y v : D} {env : En} {h : Hh} (e : h[l]? = some (.dct t kvs)) (hk : isKey t y = true) (hz : kvs.length < sizeLine) : dputK (.ref l) y v env h = some (.nx, env, h.set l (.dct t (dput kvs y v))) := by
  unfold dputK
  rw [v_dAt, e]
  simp only [dctO_dct, Option.map_some]
  rw [if_pos ⟨hk, hz⟩]
@[simp] theorem v_dput {a b c : Ef} {env : En} {h : Hh} : sDput a b c env h = bndS (c env h) env fun v h => bndS (a env h) env fun x h => bndS (b env h) env fun y h => dputK x y v env h := rfl
theorem RS_forD {i l : Nat} {t : Bool} {kvs : List (D × D)} {g : Gf} {b : Sf} {env : En} {h : Hh} {Q : Fl → En → Hh → Prop} (I : Nat → En → Hh → Prop) (ei : getv env i = some (.ref l)) (el : h[l]? = some (.dct t kvs)) (start : I 0 env (h.set l (.fdc t kvs)))
    (step : ∀ k x e h, (kvs.map (·.1))[k]? = some x → I k e h → ∃ e' h', g x e h = some (e', h') ∧ RS (b e' h') (lpS (I (k + 1)) fun _ _ _ => False))
    (fin : ∀ e h, I kvs.length e h → (∃ t' k', h[l]? = some (.fdc t' k')) ∧ Q .nx e (h.set l (.dct t kvs))) : RS (sForD i g b env h) Q := by
  unfold sForD
  rw [ei]
  dsimp only
  rw [v_dAt, el]
  simp only [dctO_dct, Option.map_some]
  have r : RS (forL g b [] (kvs.map (·.1)) env (h.set l (.fdc t kvs))) fun f e h => f = .nx ∧ I kvs.length e h := by
    refine RS_forL I (kvs.map (·.1)) (fun k x e h hk i => ⟨ckNil, ?_⟩) (fun e h i => ⟨ckNil, rfl, by simpa using i⟩) _ 0 rfl (Nat.zero_le _) start
    obtain ⟨e', h', q1, q2⟩ := step k x e h hk i
    exact ⟨e', h', q1, RS.mono q2 fun f e h z => by cases f <;> first | exact z | exact z.elim⟩
  revert r
  generalize forL g b [] (kvs.map (·.1)) env (h.set l (.fdc t kvs)) = z
  intro r
  match z, r with
  | some (f, e, h'), r =>
    obtain ⟨e0, i⟩ := r
    subst e0
    obtain ⟨⟨t', k', e1⟩, q⟩ := fin e h' i
    dsimp only
    unfold unlk
    rw [e1]
    exact q
/-! keys: tuples of ints -/
def tI (xs : List Int) : D := .tup (xs.map D.int)
theorem eqDs_I : ∀ (xs ys : List Int), eqDs (xs.map D.int) (ys.map D.int) = decide (xs = ys)
  | [], [] => rfl
  | [], _ :: _ => rfl
  | _ :: _, [] => rfl
  | x :: xs, y :: ys => by
    rw [List.map_cons, List.map_cons]
    show (eqD (.int x) (.int y) && eqDs (xs.map D.int) (ys.map D.int)) = _
    rw [eqDs_I xs ys, k_eqII]
    by_cases h1 : x = y <;> by_cases h2 : xs = ys <;> simp [h1, h2]
theorem eqD_tI (xs ys : List Int) : eqD (tI xs) (tI ys) = decide (xs = ys) := eqDs_I xs ys
theorem key_tI (xs : List Int) : isKey true (tI xs) = true := by
  have : ∀ xs : List Int, (keysD (xs.map D.int)).isSome = true := fun xs => by
    induction xs with
    | nil => rfl
    | cons x xs ih =>
      obtain ⟨k, hk⟩ := Option.isSome_iff_exists.mp ih
      simp [keysD, keyD, hk]
  exact this xs
end S
set_option Elab.async false
set_option linter.all false
set_option maxRecDepth 100000
set_option maxHeartbeats 2000000
namespace G
open PySem PySem.Spec PyProof.Rows L2 S
def topS (i : Nat) : Stmt := PySem.Challenge.pw_talkgrowth_k58_pruned.main.body.getD i (.Pass ⟨0, 0, 0, 0⟩)
/-! ### what the top has written -/
structure Tx (P : Program) (w : World) (K : PySem.W.Frag) (mg : Str → Option Value) : Prop where
  f_is_count : ∃ fd, FunD K "is_count" "is_count" (defArgs (topS 9)) (defBody (topS 9)) (defScope (topS 9)) [] [] (He.ga K "is_count") fd
  g_is_count : mg "is_count" = some (.ref (He.ga K "is_count"))
  f_is_rising : ∃ fd, FunD K "is_rising" "is_rising" (defArgs (topS 10)) (defBody (topS 10)) (defScope (topS 10)) [] [] (He.ga K "is_rising") fd
  g_is_rising : mg "is_rising" = some (.ref (He.ga K "is_rising"))
  f_is_talk : ∃ fd, FunD K "is_talk" "is_talk" (defArgs (topS 14)) (defBody (topS 14)) (defScope (topS 14)) [] [] (He.ga K "is_talk") fd
  g_is_talk : mg "is_talk" = some (.ref (He.ga K "is_talk"))
  f_must_be_talk : ∃ fd, FunD K "must_be_talk" "must_be_talk" (defArgs (topS 15)) (defBody (topS 15)) (defScope (topS 15)) [] [] (He.ga K "must_be_talk") fd
  g_must_be_talk : mg "must_be_talk" = some (.ref (He.ga K "must_be_talk"))
  f_parted : ∃ fd, FunD K "parted" "parted" (defArgs (topS 16)) (defBody (topS 16)) (defScope (topS 16)) [] [] (He.ga K "parted") fd
  g_parted : mg "parted" = some (.ref (He.ga K "parted"))
  f_depth_of : ∃ fd, FunD K "depth_of" "depth_of" (defArgs (topS 17)) (defBody (topS 17)) (defScope (topS 17)) [] [] (He.ga K "depth_of") fd
  g_depth_of : mg "depth_of" = some (.ref (He.ga K "depth_of"))
  f_leaves_of : ∃ fd, FunD K "leaves_of" "leaves_of" (defArgs (topS 18)) (defBody (topS 18)) (defScope (topS 18)) [] [] (He.ga K "leaves_of") fd
  g_leaves_of : mg "leaves_of" = some (.ref (He.ga K "leaves_of"))
  f_pruned_branch : ∃ fd, FunD K "pruned_branch" "pruned_branch" (defArgs (topS 20)) (defBody (topS 20)) (defScope (topS 20)) [] [] (He.ga K "pruned_branch") fd
  g_pruned_branch : mg "pruned_branch" = some (.ref (He.ga K "pruned_branch"))
  f_pruned : ∃ fd, FunD K "pruned" "pruned" (defArgs (topS 19)) (defBody (topS 19)) (defScope (topS 19)) [] [] (He.ga K "pruned") fd
  g_pruned : mg "pruned" = some (.ref (He.ga K "pruned"))
  f__law_source : ∃ fd, FunD K "_law_source" "_law_source" (defArgs (topS 22)) (defBody (topS 22)) (defScope (topS 22)) [] [] (He.ga K "_law_source") fd
  g__law_source : mg "_law_source" = some (.ref (He.ga K "_law_source"))
  f__law_pick : ∃ fd, FunD K "_law_pick" "_law_pick" (defArgs (topS 23)) (defBody (topS 23)) (defScope (topS 23)) [] [] (He.ga K "_law_pick") fd
  g__law_pick : mg "_law_pick" = some (.ref (He.ga K "_law_pick"))
  f__law_heard : ∃ fd, FunD K "_law_heard" "_law_heard" (defArgs (topS 24)) (defBody (topS 24)) (defScope (topS 24)) [] [] (He.ga K "_law_heard") fd
  g__law_heard : mg "_law_heard" = some (.ref (He.ga K "_law_heard"))
  f__law_is_int : ∃ fd, FunD K "_law_is_int" "_law_is_int" (defArgs (topS 25)) (defBody (topS 25)) (defScope (topS 25)) [] [] (He.ga K "_law_is_int") fd
  g__law_is_int : mg "_law_is_int" = some (.ref (He.ga K "_law_is_int"))
  f__law_members : ∃ fd, FunD K "_law_members" "_law_members" (defArgs (topS 26)) (defBody (topS 26)) (defScope (topS 26)) [] [] (He.ga K "_law_members") fd
  g__law_members : mg "_law_members" = some (.ref (He.ga K "_law_members"))
  f__law_talk : ∃ fd, FunD K "_law_talk" "_law_talk" (defArgs (topS 27)) (defBody (topS 27)) (defScope (topS 27)) [] [] (He.ga K "_law_talk") fd
  g__law_talk : mg "_law_talk" = some (.ref (He.ga K "_law_talk"))
  f__law_peeled : ∃ fd, FunD K "_law_peeled" "_law_peeled" (defArgs (topS 28)) (defBody (topS 28)) (defScope (topS 28)) [] [] (He.ga K "_law_peeled") fd
  g__law_peeled : mg "_law_peeled" = some (.ref (He.ga K "_law_peeled"))
  f__law_is_talk : ∃ fd, FunD K "_law_is_talk" "_law_is_talk" (defArgs (topS 29)) (defBody (topS 29)) (defScope (topS 29)) [] [] (He.ga K "_law_is_talk") fd
  g__law_is_talk : mg "_law_is_talk" = some (.ref (He.ga K "_law_is_talk"))
  f__law_way_down : ∃ fd, FunD K "_law_way_down" "_law_way_down" (defArgs (topS 30)) (defBody (topS 30)) (defScope (topS 30)) [] [] (He.ga K "_law_way_down") fd
  g__law_way_down : mg "_law_way_down" = some (.ref (He.ga K "_law_way_down"))
  f__law_put : ∃ fd, FunD K "_law_put" "_law_put" (defArgs (topS 31)) (defBody (topS 31)) (defScope (topS 31)) [] [] (He.ga K "_law_put") fd
  g__law_put : mg "_law_put" = some (.ref (He.ga K "_law_put"))
  f__law_leaf_ways : ∃ fd, FunD K "_law_leaf_ways" "_law_leaf_ways" (defArgs (topS 32)) (defBody (topS 32)) (defScope (topS 32)) [] [] (He.ga K "_law_leaf_ways") fd
  g__law_leaf_ways : mg "_law_leaf_ways" = some (.ref (He.ga K "_law_leaf_ways"))
  f__law_idled : ∃ fd, FunD K "_law_idled" "_law_idled" (defArgs (topS 33)) (defBody (topS 33)) (defScope (topS 33)) [] [] (He.ga K "_law_idled") fd
  g__law_idled : mg "_law_idled" = some (.ref (He.ga K "_law_idled"))
  f__law_due : ∃ fd, FunD K "_law_due" "_law_due" (defArgs (topS 34)) (defBody (topS 34)) (defScope (topS 34)) [] [] (He.ga K "_law_due") fd
  g__law_due : mg "_law_due" = some (.ref (He.ga K "_law_due"))
  f__law_pruned_right : ∃ fd, FunD K "_law_pruned_right" "_law_pruned_right" (defArgs (topS 35)) (defBody (topS 35)) (defScope (topS 35)) [] [] (He.ga K "_law_pruned_right") fd
  g__law_pruned_right : mg "_law_pruned_right" = some (.ref (He.ga K "_law_pruned_right"))
  f__law_refused : ∃ fd, FunD K "_law_refused" "_law_refused" (defArgs (topS 36)) (defBody (topS 36)) (defScope (topS 36)) [] [] (He.ga K "_law_refused") fd
  g__law_refused : mg "_law_refused" = some (.ref (He.ga K "_law_refused"))
  f__law_refusals_right : ∃ fd, FunD K "_law_refusals_right" "_law_refusals_right" (defArgs (topS 37)) (defBody (topS 37)) (defScope (topS 37)) [] [] (He.ga K "_law_refusals_right") fd
  g__law_refusals_right : mg "_law_refusals_right" = some (.ref (He.ga K "_law_refusals_right"))
  f_law : ∃ fd, FunD K "law" "law" (defArgs (topS 38)) (defBody (topS 38)) (defScope (topS 38)) [] [] (He.ga K "law") fd
  g_law : mg "law" = some (.ref (He.ga K "law"))
  z_ValueError : mg "ValueError" = none
  z_abs : mg "abs" = none
  z_bool : mg "bool" = none
  z_int : mg "int" = none
  z_isinstance : mg "isinstance" = none
  z_len : mg "len" = none
  z_max : mg "max" = none
  z_range : mg "range" = none
  z_tuple : mg "tuple" = none
  i_MOST_DEPTH : ∃ t, mg "MOST_DEPTH" = some (.int 60 t)
  i_MOST_NODES : ∃ t, mg "MOST_NODES" = some (.int 20000 t)
  mk_BadValue : MkT P K mg "BadValue" "what"
  xcl : XCl K
  c_BadPaper : mg "BadPaper" = some (.ref (He.ga K "BadPaper"))
  c_BadText : mg "BadText" = some (.ref (He.ga K "BadText"))
  c_BadValue : mg "BadValue" = some (.ref (He.ga K "BadValue"))
  c_TalkError : mg "TalkError" = some (.ref (He.ga K "TalkError"))
  c_TooMany : mg "TooMany" = some (.ref (He.ga K "TooMany"))
  c_Unknown : mg "Unknown" = some (.ref (He.ga K "Unknown"))
  c_Unlike : mg "Unlike" = some (.ref (He.ga K "Unlike"))
section
variable {P : Program} {w : World} {K : PySem.W.Frag} {mg : Str → Option Value} {base : Heap}
/-! ### is_count -/
abbrev s_is_count : Stmt := topS 9
abbrev NN_is_count : List Str := ["value", "least", "most"]
noncomputable def d_is_count : Sf :=
  (sRet (dAnd (dUn (opIsi "int") (dVar 0)) (dAnd (dNot (dUn (opIsi "bool") (dVar 0))) (dChain opLe opLe (dVar 1) (dVar 0) (dVar 2)))))
noncomputable def m_is_count : List D → M D := bodyF 3 3 d_is_count
theorem sc_is_count : FnScope ["value", "least", "most"] ["value", "least", "most"] (defScope s_is_count) := ⟨rfl, rfl, rfl, by decide +kernel, rfl, by decide +kernel, by decide +kernel⟩
theorem ok_is_count (T : Tx P w K mg)  : DefOk P w K mg base 1 "is_count" 3 m_is_count :=
  ⟨⟨_, _, def_fn (k := 0) (N := ["value", "least", "most"]) T.f_is_count.choose_spec sc_is_count rfl (fun cdv A outer s H E c =>
    (s_one (s_ret (e_and (e_isi rfl T.z_isinstance rfl T.z_int (by decide +kernel) (by decide +kernel) (e_var (pv 0))) (e_and (e_not (e_isi rfl T.z_isinstance rfl T.z_bool (by decide +kernel) (by decide +kernel) (e_var (pv 0)))) (e_one (e_chain o_le o_le (e_var (pv 1)) (e_var (pv 0)) (e_var (pv 2))))))))), T.f_is_count.choose_spec.bindsN (fun _ _ _ _ _ _ us hl => match us, hl with | [_, _, _], _ => rfl)⟩, T.g_is_count, T.f_is_count.choose_spec.kp, body_len (N := ["value", "least", "most"])⟩
/-! ### is_rising -/
abbrev s_is_rising : Stmt := topS 10
abbrev NN_is_rising : List Str := ["numbers", "most", "last", "number"]
noncomputable def d_is_rising : Sf :=
  (sSeq (sIf (S.tNot (tV (dUn (opIsi "tuple") (dVar 0)))) (sRet (dC (.bl false))) sSkip)
    (sSeq (sSet 2 (dUn opNeg (dC (.int 1))))
    (sSeq (sFor (iTp (dVar 0)) (gNm 3) (sSeq (sIf (S.tNot (tV (dCall m_is_count (dCons (dVar 3) (dCons (dBin opAdd (dVar 2) (dC (.int 1))) (dCons (dVar 1) dNil)))))) (sRet (dC (.bl false))) sSkip)
    (sSet 2 (dVar 3))))
    (sRet (dC (.bl true))))))
noncomputable def m_is_rising : List D → M D := bodyF 4 2 d_is_rising
theorem sc_is_rising : FnScope ["numbers", "most", "last", "number"] ["numbers", "most"] (defScope s_is_rising) := ⟨rfl, rfl, rfl, by decide +kernel, rfl, by decide +kernel, by decide +kernel⟩
theorem ok_is_rising (T : Tx P w K mg) (o_is_count : DefOk P w K mg base 1 "is_count" 3 (m_is_count)) : DefOk P w K mg base 2 "is_rising" 2 m_is_rising :=
  ⟨⟨_, _, def_fn (k := 1) (N := ["numbers", "most", "last", "number"]) T.f_is_rising.choose_spec sc_is_rising rfl (fun cdv A outer s H E c =>
    (s_cons (s_if (t_not (t_val (e_isi rfl T.z_isinstance rfl T.z_tuple (by decide +kernel) (by decide +kernel) (e_var (pv 0))))) (s_one (s_ret e_bl)) s_nil)
    (s_cons (s_set (i := 2) c.nd rfl (.inl rfl) (e_neg e_int))
    (s_cons (s_for c.hp c.calm (i_tup (e_var (pv 0))) (g_name (i := 3) c.nd rfl (.inl rfl)) (s_cons (s_if (t_not (t_val (e_call o_is_count c (by omega) rfl (a_cons (e_var (pv 3)) (a_cons (e_bin o_add (e_var (pv 2)) e_int) (a_cons (e_var (pv 1)) a_nil)))))) (s_one (s_ret e_bl)) s_nil)
    (s_one (s_set (i := 2) c.nd rfl (.inl rfl) (e_var (pv 3))))))
    (s_one (s_ret e_bl)))))), T.f_is_rising.choose_spec.bindsN (fun _ _ _ _ _ _ us hl => match us, hl with | [_, _], _ => rfl)⟩, T.g_is_rising, T.f_is_rising.choose_spec.kp, body_len (N := ["numbers", "most", "last", "number"])⟩
/-! ### is_talk -/
abbrev s_is_talk : Stmt := topS 14
abbrev NN_is_talk : List Str := ["value", "rows", "columns", "line", "many", "talk", "depth"]
noncomputable def d_is_talk : Sf :=
  (sSeq (sSet 3 (dLst (dCons (dTup (dCons (dVar 0) (dCons (dC (.int 0)) dNil))) dNil)))
    (sSeq (sSet 4 (dC (.int 0)))
    (sSeq (sWhile (tV (dVar 3)) (sSeq (sAs (gTp (gsCons (gNm 5) (gsCons (gNm 6) gsNil))) (dMet mPop (dVar 3) dNil))
    (sSeq (sAug 4 (opI fun i j => i + j) (dC (.int 1)))
    (sSeq (sIf (S.tCmp opGt (dVar 4) (dC (.int 20000))) (sRet (dC (.bl false))) sSkip)
    (sSeq (sIf (S.tOr (S.tNot (tV (dUn (opIsi "tuple") (dVar 5)))) (S.tOr (S.tCmp opNotIn (dFun (f1 opLen) (dCons (dVar 5) dNil)) (dTup (dCons (dC (.int 2)) (dCons (dC (.int 4)) dNil)))) (S.tCmp opGt (dVar 6) (dC (.int 60))))) (sRet (dC (.bl false))) sSkip)
    (sIf (S.tCmp opEq (dFun (f1 opLen) (dCons (dVar 5) dNil)) (dC (.int 2))) (sIf (S.tOr (S.tCmp opNe (dBin opIx (dVar 5) (dC (.int 0))) (dC (.str (Str.ofString "tell")))) (S.tNot (tV (dCall m_is_count (dCons (dBin opIx (dVar 5) (dC (.int 1))) (dCons (dC (.int 0)) (dCons (dC (.int 99)) dNil))))))) (sRet (dC (.bl false))) sSkip) (sSeq (sIf (S.tCmp opNotIn (dBin opIx (dVar 5) (dC (.int 0))) (dTup (dCons (dC (.str (Str.ofString "row"))) (dCons (dC (.str (Str.ofString "column"))) dNil)))) (sRet (dC (.bl false))) sSkip)
    (sSeq (sIf (S.tNot (tV (dCall m_is_rising (dCons (dBin opIx (dVar 5) (dC (.int 1))) (dCons (dBin opSub (dIf (S.tCmp opEq (dBin opIx (dVar 5) (dC (.int 0))) (dC (.str (Str.ofString "row")))) (dVar 1) (dVar 2)) (dC (.int 1))) dNil))))) (sRet (dC (.bl false))) sSkip)
    (sSeq (sEx (dMet mAppend (dVar 3) (dCons (dTup (dCons (dBin opIx (dVar 5) (dC (.int 2))) (dCons (dBin opAdd (dVar 6) (dC (.int 1))) dNil))) dNil)))
    (sEx (dMet mAppend (dVar 3) (dCons (dTup (dCons (dBin opIx (dVar 5) (dC (.int 3))) (dCons (dBin opAdd (dVar 6) (dC (.int 1))) dNil))) dNil))))))))))))
    (sRet (dC (.bl true))))))
noncomputable def m_is_talk : List D → M D := bodyF 7 3 d_is_talk
theorem sc_is_talk : FnScope ["value", "rows", "columns", "line", "many", "talk", "depth"] ["value", "rows", "columns"] (defScope s_is_talk) := ⟨rfl, rfl, rfl, by decide +kernel, rfl, by decide +kernel, by decide +kernel⟩
theorem ok_is_talk (T : Tx P w K mg) (o_is_count : DefOk P w K mg base 1 "is_count" 3 (m_is_count)) (o_is_rising : DefOk P w K mg base 2 "is_rising" 2 (m_is_rising)) : DefOk P w K mg base 3 "is_talk" 3 m_is_talk :=
  ⟨⟨_, _, def_fn (k := 2) (N := ["value", "rows", "columns", "line", "many", "talk", "depth"]) T.f_is_talk.choose_spec sc_is_talk rfl (fun cdv A outer s H E c =>
    (s_cons (s_set (i := 3) c.nd rfl (.inl rfl) (e_lst (a_cons (e_tup (a_cons (e_var (pv 0)) (a_cons e_int a_nil))) a_nil)))
    (s_cons (s_set (i := 4) c.nd rfl (.inl rfl) e_int)
    (s_cons (s_while c.hp (t_val (e_var (pv 3))) (s_cons (s_asg (e_met0 PySem.F.plainAttrs_list PySem.F.slot_list_pop PySem.F.type_list_pop m_pop (e_var (pv 3))) (g_tup (n := 2) c.calm (gs_cons (g_name (i := 5) c.nd rfl (.inl rfl)) (gs_cons (g_name (i := 6) c.nd rfl (.inl rfl)) gs_nil)) (gl_cons (gl_cons gl_nil))))
    (s_cons (s_aug (i := 4) c.nd rfl (.inl rfl) e_int ip_addS)
    (s_cons (s_if (t_cmp o_gt (e_var (pv 4)) (e_globI' rfl T.i_MOST_NODES) (nomark _)) (s_one (s_ret e_bl)) s_nil)
    (s_cons (s_if (PW.pt (w_or (t_not (t_val (e_isi rfl T.z_isinstance rfl T.z_tuple (by decide +kernel) (by decide +kernel) (e_var (pv 5))))) (w_or (t_cmp (o_notIn c.hv) (e_callB c_len (by rfl) T.z_len (by decide +kernel) (a_cons (e_var (pv 5)) a_nil)) (e_tup (a_cons e_int (a_cons e_int a_nil))) (by rfl)) (w_or1 (t_cmp o_gt (e_var (pv 6)) (e_globI' rfl T.i_MOST_DEPTH) (nomark _)))))) (s_one (s_ret e_bl)) s_nil)
    (s_one (s_if (t_cmp (o_eq c.hu) (e_callB c_len (by rfl) T.z_len (by decide +kernel) (a_cons (e_var (pv 5)) a_nil)) e_int (nomark _)) (s_one (s_if (PW.pt (w_or (t_cmp (o_ne c.hu) (e_ix (e_var (pv 5)) e_int (fun _ _ => rfl)) e_str (nomark _)) (w_or1 (t_not (t_val (e_call o_is_count c (by omega) rfl (a_cons (e_ix (e_var (pv 5)) e_int (fun _ _ => rfl)) (a_cons e_int (a_cons e_int a_nil))))))))) (s_one (s_ret e_bl)) s_nil)) (s_cons (s_if (t_cmp (o_notIn c.hv) (e_ix (e_var (pv 5)) e_int (fun _ _ => rfl)) (e_tup (a_cons e_str (a_cons e_str a_nil))) (by rfl)) (s_one (s_ret e_bl)) s_nil)
    (s_cons (s_if (t_not (t_val (e_call o_is_rising c (by omega) rfl (a_cons (e_ix (e_var (pv 5)) e_int (fun _ _ => rfl)) (a_cons (e_bin o_sub (e_ifExp (t_cmp (o_eq c.hu) (e_ix (e_var (pv 5)) e_int (fun _ _ => rfl)) e_str (nomark _)) (e_var (pv 1)) (e_var (pv 2))) e_int) a_nil))))) (s_one (s_ret e_bl)) s_nil)
    (s_cons (s_expr (e_met PySem.F.plainAttrs_list PySem.F.slot_list_append PySem.F.type_list_append m_append (e_var (pv 3)) (a_cons (e_tup (a_cons (e_ix (e_var (pv 5)) e_int (fun _ _ => rfl)) (a_cons (e_bin o_add (e_var (pv 6)) e_int) a_nil))) a_nil)))
    (s_one (s_expr (e_met PySem.F.plainAttrs_list PySem.F.slot_list_append PySem.F.type_list_append m_append (e_var (pv 3)) (a_cons (e_tup (a_cons (e_ix (e_var (pv 5)) e_int (fun _ _ => rfl)) (a_cons (e_bin o_add (e_var (pv 6)) e_int) a_nil))) a_nil))))))))))))))
    (s_one (s_ret e_bl)))))), T.f_is_talk.choose_spec.bindsN (fun _ _ _ _ _ _ us hl => match us, hl with | [_, _, _], _ => rfl)⟩, T.g_is_talk, T.f_is_talk.choose_spec.kp, body_len (N := ["value", "rows", "columns", "line", "many", "talk", "depth"])⟩
/-! ### must_be_talk -/
abbrev s_must_be_talk : Stmt := topS 15
abbrev NN_must_be_talk : List Str := ["value", "rows", "columns"]
noncomputable def d_must_be_talk : Sf :=
  (sIf (S.tNot (tV (dCall m_is_talk (dCons (dVar 0) (dCons (dVar 1) (dCons (dVar 2) dNil)))))) (sRaise (Str.ofString "BadValue") (Str.ofString "what") (dC (.str (Str.ofString "talk")))) sSkip)
noncomputable def m_must_be_talk : List D → M D := bodyF 3 3 d_must_be_talk
theorem sc_must_be_talk : FnScope ["value", "rows", "columns"] ["value", "rows", "columns"] (defScope s_must_be_talk) := ⟨rfl, rfl, rfl, by decide +kernel, rfl, by decide +kernel, by decide +kernel⟩
theorem ok_must_be_talk (T : Tx P w K mg) (o_is_talk : DefOk P w K mg base 3 "is_talk" 3 (m_is_talk)) : DefOk P w K mg base 4 "must_be_talk" 3 m_must_be_talk :=
  ⟨⟨_, _, def_fn (k := 3) (N := ["value", "rows", "columns"]) T.f_must_be_talk.choose_spec sc_must_be_talk rfl (fun cdv A outer s H E c =>
    (s_one (s_if (t_not (t_val (e_call o_is_talk c (by omega) rfl (a_cons (e_var (pv 0)) (a_cons (e_var (pv 1)) (a_cons (e_var (pv 2)) a_nil)))))) (s_one (s_raiseX c T.mk_BadValue rfl e_str)) s_nil))), T.f_must_be_talk.choose_spec.bindsN (fun _ _ _ _ _ _ us hl => match us, hl with | [_, _, _], _ => rfl)⟩, T.g_must_be_talk, T.f_must_be_talk.choose_spec.kp, body_len (N := ["value", "rows", "columns"])⟩
/-! ### parted -/
abbrev s_parted : Stmt := topS 16
abbrev NN_parted : List Str := ["branch", "rows", "columns", "members", "inside", "outside", "row", "column"]
noncomputable def d_parted : Sf :=
  (sSeq (sSet 3 (dBin opIx (dVar 0) (dC (.int 1))))
    (sSeq (sIf (S.tCmp opEq (dBin opIx (dVar 0) (dC (.int 0))) (dC (.str (Str.ofString "row")))) (sSeq (sSet 4 (dFun (f1 opTuple) (dCons (dLc [6] (iTp (dVar 1)) (gNm 6) (S.tCmp opIn (dVar 6) (dVar 3)) (dVar 6)) dNil)))
    (sSeq (sSet 5 (dFun (f1 opTuple) (dCons (dLc [6] (iTp (dVar 1)) (gNm 6) (S.tCmp opNotIn (dVar 6) (dVar 3)) (dVar 6)) dNil)))
    (sRet (dTup (dCons (dTup (dCons (dVar 4) (dCons (dVar 2) dNil))) (dCons (dTup (dCons (dVar 5) (dCons (dVar 2) dNil))) dNil)))))) sSkip)
    (sSeq (sSet 4 (dFun (f1 opTuple) (dCons (dLc [7] (iTp (dVar 2)) (gNm 7) (S.tCmp opIn (dVar 7) (dVar 3)) (dVar 7)) dNil)))
    (sSeq (sSet 5 (dFun (f1 opTuple) (dCons (dLc [7] (iTp (dVar 2)) (gNm 7) (S.tCmp opNotIn (dVar 7) (dVar 3)) (dVar 7)) dNil)))
    (sRet (dTup (dCons (dTup (dCons (dVar 1) (dCons (dVar 4) dNil))) (dCons (dTup (dCons (dVar 1) (dCons (dVar 5) dNil))) dNil))))))))
noncomputable def m_parted : List D → M D := bodyF 8 3 d_parted
theorem sc_parted : FnScope ["branch", "rows", "columns", "members", "inside", "outside", "row", "column"] ["branch", "rows", "columns"] (defScope s_parted) := ⟨rfl, rfl, rfl, by decide +kernel, rfl, by decide +kernel, by decide +kernel⟩
theorem ok_parted (T : Tx P w K mg)  : DefOk P w K mg base 1 "parted" 3 m_parted :=
  ⟨⟨_, _, def_fn (k := 0) (N := ["branch", "rows", "columns", "members", "inside", "outside", "row", "column"]) T.f_parted.choose_spec sc_parted rfl (fun cdv A outer s H E c =>
    (s_cons (s_set (i := 3) c.nd rfl (.inr rfl) (e_ix (e_var (pv 0)) e_int (fun _ _ => rfl)))
    (s_cons (s_if (t_cmp (o_eq c.hu) (e_ix (e_var (pv 0)) e_int (fun _ _ => rfl)) e_str (nomark _)) (s_cons (s_set (i := 4) c.nd rfl (.inl rfl) (e_callTy c_tuple (by rfl) T.z_tuple (by decide +kernel) (a_cons (e_lcC (own := [("row", 6)]) c (i_tup (e_var (pv 1))) (blkOk_by (N := NN_parted) (sc := defScope s_parted) (by decide +kernel)) (tg_nm (by decide)) (fun _ _ _ _ _ c => pg_name (i := 6) c.nd rfl (.inl rfl)) (fun _ _ _ _ _ c => ts_one (t_cmp (o_in c.hv) (e_var (pv 6)) (e_var (pv 3)) (by rfl))) (fun _ _ _ _ _ c => (e_var (pv 6)))) a_nil)))
    (s_cons (s_set (i := 5) c.nd rfl (.inl rfl) (e_callTy c_tuple (by rfl) T.z_tuple (by decide +kernel) (a_cons (e_lcC (own := [("row", 6)]) c (i_tup (e_var (pv 1))) (blkOk_by (N := NN_parted) (sc := defScope s_parted) (by decide +kernel)) (tg_nm (by decide)) (fun _ _ _ _ _ c => pg_name (i := 6) c.nd rfl (.inl rfl)) (fun _ _ _ _ _ c => ts_one (t_cmp (o_notIn c.hv) (e_var (pv 6)) (e_var (pv 3)) (by rfl))) (fun _ _ _ _ _ c => (e_var (pv 6)))) a_nil)))
    (s_one (s_ret (e_tup (a_cons (e_tup (a_cons (e_var (pv 4)) (a_cons (e_var (pv 2)) a_nil))) (a_cons (e_tup (a_cons (e_var (pv 5)) (a_cons (e_var (pv 2)) a_nil))) a_nil))))))) s_nil)
    (s_cons (s_set (i := 4) c.nd rfl (.inl rfl) (e_callTy c_tuple (by rfl) T.z_tuple (by decide +kernel) (a_cons (e_lcC (own := [("column", 7)]) c (i_tup (e_var (pv 2))) (blkOk_by (N := NN_parted) (sc := defScope s_parted) (by decide +kernel)) (tg_nm (by decide)) (fun _ _ _ _ _ c => pg_name (i := 7) c.nd rfl (.inl rfl)) (fun _ _ _ _ _ c => ts_one (t_cmp (o_in c.hv) (e_var (pv 7)) (e_var (pv 3)) (by rfl))) (fun _ _ _ _ _ c => (e_var (pv 7)))) a_nil)))
    (s_cons (s_set (i := 5) c.nd rfl (.inl rfl) (e_callTy c_tuple (by rfl) T.z_tuple (by decide +kernel) (a_cons (e_lcC (own := [("column", 7)]) c (i_tup (e_var (pv 2))) (blkOk_by (N := NN_parted) (sc := defScope s_parted) (by decide +kernel)) (tg_nm (by decide)) (fun _ _ _ _ _ c => pg_name (i := 7) c.nd rfl (.inl rfl)) (fun _ _ _ _ _ c => ts_one (t_cmp (o_notIn c.hv) (e_var (pv 7)) (e_var (pv 3)) (by rfl))) (fun _ _ _ _ _ c => (e_var (pv 7)))) a_nil)))
    (s_one (s_ret (e_tup (a_cons (e_tup (a_cons (e_var (pv 1)) (a_cons (e_var (pv 4)) a_nil))) (a_cons (e_tup (a_cons (e_var (pv 1)) (a_cons (e_var (pv 5)) a_nil))) a_nil)))))))))), T.f_parted.choose_spec.bindsN (fun _ _ _ _ _ _ us hl => match us, hl with | [_, _, _], _ => rfl)⟩, T.g_parted, T.f_parted.choose_spec.kp, body_len (N := ["branch", "rows", "columns", "members", "inside", "outside", "row", "column"])⟩
/-! ### depth_of -/
abbrev s_depth_of : Stmt := topS 17
abbrev NN_depth_of : List Str := ["talk", "deepest", "line", "branch", "depth"]
noncomputable def d_depth_of : Sf :=
  (sSeq (sSet 1 (dC (.int 0)))
    (sSeq (sSet 2 (dLst (dCons (dTup (dCons (dVar 0) (dCons (dC (.int 0)) dNil))) dNil)))
    (sSeq (sWhile (tV (dVar 2)) (sSeq (sAs (gTp (gsCons (gNm 3) (gsCons (gNm 4) gsNil))) (dMet mPop (dVar 2) dNil))
    (sSeq (sSet 1 (dFun opMax2 (dCons (dVar 1) (dCons (dVar 4) dNil))))
    (sIf (S.tCmp opNe (dBin opIx (dVar 3) (dC (.int 0))) (dC (.str (Str.ofString "tell")))) (sSeq (sEx (dMet mAppend (dVar 2) (dCons (dTup (dCons (dBin opIx (dVar 3) (dC (.int 2))) (dCons (dBin opAdd (dVar 4) (dC (.int 1))) dNil))) dNil)))
    (sEx (dMet mAppend (dVar 2) (dCons (dTup (dCons (dBin opIx (dVar 3) (dC (.int 3))) (dCons (dBin opAdd (dVar 4) (dC (.int 1))) dNil))) dNil)))) sSkip))))
    (sRet (dVar 1)))))
noncomputable def m_depth_of : List D → M D := bodyF 5 1 d_depth_of
theorem sc_depth_of : FnScope ["talk", "deepest", "line", "branch", "depth"] ["talk"] (defScope s_depth_of) := ⟨rfl, rfl, rfl, by decide +kernel, rfl, by decide +kernel, by decide +kernel⟩
theorem ok_depth_of (T : Tx P w K mg)  : DefOk P w K mg base 1 "depth_of" 1 m_depth_of :=
  ⟨⟨_, _, def_fn (k := 0) (N := ["talk", "deepest", "line", "branch", "depth"]) T.f_depth_of.choose_spec sc_depth_of rfl (fun cdv A outer s H E c =>
    (s_cons (s_set (i := 1) c.nd rfl (.inl rfl) e_int)
    (s_cons (s_set (i := 2) c.nd rfl (.inl rfl) (e_lst (a_cons (e_tup (a_cons (e_var (pv 0)) (a_cons e_int a_nil))) a_nil)))
    (s_cons (s_while c.hp (t_val (e_var (pv 2))) (s_cons (s_asg (e_met0 PySem.F.plainAttrs_list PySem.F.slot_list_pop PySem.F.type_list_pop m_pop (e_var (pv 2))) (g_tup (n := 2) c.calm (gs_cons (g_name (i := 3) c.nd rfl (.inl rfl)) (gs_cons (g_name (i := 4) c.nd rfl (.inl rfl)) gs_nil)) (gl_cons (gl_cons gl_nil))))
    (s_cons (s_set (i := 1) c.nd rfl (.inl rfl) (e_callB (c_max2 c.calm) (by rfl) T.z_max (by decide +kernel) (a_cons (e_var (pv 1)) (a_cons (e_var (pv 4)) a_nil))))
    (s_one (s_if (t_cmp (o_ne c.hu) (e_ix (e_var (pv 3)) e_int (fun _ _ => rfl)) e_str (nomark _)) (s_cons (s_expr (e_met PySem.F.plainAttrs_list PySem.F.slot_list_append PySem.F.type_list_append m_append (e_var (pv 2)) (a_cons (e_tup (a_cons (e_ix (e_var (pv 3)) e_int (fun _ _ => rfl)) (a_cons (e_bin o_add (e_var (pv 4)) e_int) a_nil))) a_nil)))
    (s_one (s_expr (e_met PySem.F.plainAttrs_list PySem.F.slot_list_append PySem.F.type_list_append m_append (e_var (pv 2)) (a_cons (e_tup (a_cons (e_ix (e_var (pv 3)) e_int (fun _ _ => rfl)) (a_cons (e_bin o_add (e_var (pv 4)) e_int) a_nil))) a_nil))))) s_nil)))))
    (s_one (s_ret (e_var (pv 1)))))))), T.f_depth_of.choose_spec.bindsN (fun _ _ _ _ _ _ us hl => match us, hl with | [_], _ => rfl)⟩, T.g_depth_of, T.f_depth_of.choose_spec.kp, body_len (N := ["talk", "deepest", "line", "branch", "depth"])⟩
/-! ### leaves_of -/
abbrev s_leaves_of : Stmt := topS 18
abbrev NN_leaves_of : List Str := ["talk", "many", "line", "branch"]
noncomputable def d_leaves_of : Sf :=
  (sSeq (sSet 1 (dC (.int 0)))
    (sSeq (sSet 2 (dLst (dCons (dVar 0) dNil)))
    (sSeq (sWhile (tV (dVar 2)) (sSeq (sSet 3 (dMet mPop (dVar 2) dNil))
    (sIf (S.tCmp opEq (dBin opIx (dVar 3) (dC (.int 0))) (dC (.str (Str.ofString "tell")))) (sAug 1 (opI fun i j => i + j) (dC (.int 1))) (sSeq (sEx (dMet mAppend (dVar 2) (dCons (dBin opIx (dVar 3) (dC (.int 2))) dNil)))
    (sEx (dMet mAppend (dVar 2) (dCons (dBin opIx (dVar 3) (dC (.int 3))) dNil)))))))
    (sRet (dVar 1)))))
noncomputable def m_leaves_of : List D → M D := bodyF 4 1 d_leaves_of
theorem sc_leaves_of : FnScope ["talk", "many", "line", "branch"] ["talk"] (defScope s_leaves_of) := ⟨rfl, rfl, rfl, by decide +kernel, rfl, by decide +kernel, by decide +kernel⟩
theorem ok_leaves_of (T : Tx P w K mg)  : DefOk P w K mg base 1 "leaves_of" 1 m_leaves_of :=
  ⟨⟨_, _, def_fn (k := 0) (N := ["talk", "many", "line", "branch"]) T.f_leaves_of.choose_spec sc_leaves_of rfl (fun cdv A outer s H E c =>
    (s_cons (s_set (i := 1) c.nd rfl (.inl rfl) e_int)
    (s_cons (s_set (i := 2) c.nd rfl (.inl rfl) (e_lst (a_cons (e_var (pv 0)) a_nil)))
    (s_cons (s_while c.hp (t_val (e_var (pv 2))) (s_cons (s_set (i := 3) c.nd rfl (.inl rfl) (e_met0 PySem.F.plainAttrs_list PySem.F.slot_list_pop PySem.F.type_list_pop m_pop (e_var (pv 2))))
    (s_one (s_if (t_cmp (o_eq c.hu) (e_ix (e_var (pv 3)) e_int (fun _ _ => rfl)) e_str (nomark _)) (s_one (s_aug (i := 1) c.nd rfl (.inl rfl) e_int ip_addS)) (s_cons (s_expr (e_met PySem.F.plainAttrs_list PySem.F.slot_list_append PySem.F.type_list_append m_append (e_var (pv 2)) (a_cons (e_ix (e_var (pv 3)) e_int (fun _ _ => rfl)) a_nil)))
    (s_one (s_expr (e_met PySem.F.plainAttrs_list PySem.F.slot_list_append PySem.F.type_list_append m_append (e_var (pv 2)) (a_cons (e_ix (e_var (pv 3)) e_int (fun _ _ => rfl)) a_nil)))))))))
    (s_one (s_ret (e_var (pv 1)))))))), T.f_leaves_of.choose_spec.bindsN (fun _ _ _ _ _ _ us hl => match us, hl with | [_], _ => rfl)⟩, T.g_leaves_of, T.f_leaves_of.choose_spec.kp, body_len (N := ["talk", "many", "line", "branch"])⟩
/-! ### pruned_branch -/
abbrev s_pruned_branch : Stmt := topS 20
abbrev NN_pruned_branch : List Str := ["branch", "rows", "columns", "yes", "no"]
noncomputable def d_pruned_branch (r_pruned_branch : List D → M D) : Sf :=
  (sSeq (sWhile (S.tCmp opNe (dBin opIx (dVar 0) (dC (.int 0))) (dC (.str (Str.ofString "tell")))) (sSeq (sAs (gTp (gsCons (gNm 3) (gsCons (gNm 4) gsNil))) (dCall m_parted (dCons (dVar 0) (dCons (dVar 1) (dCons (dVar 2) dNil)))))
    (sSeq (sIf (S.tAnd (S.tCmp opGt (dFun (f1 opLen) (dCons (dBin opIx (dVar 3) (dC (.int 0))) dNil)) (dC (.int 0))) (S.tAnd (S.tCmp opGt (dFun (f1 opLen) (dCons (dBin opIx (dVar 3) (dC (.int 1))) dNil)) (dC (.int 0))) (S.tAnd (S.tCmp opGt (dFun (f1 opLen) (dCons (dBin opIx (dVar 4) (dC (.int 0))) dNil)) (dC (.int 0))) (S.tCmp opGt (dFun (f1 opLen) (dCons (dBin opIx (dVar 4) (dC (.int 1))) dNil)) (dC (.int 0)))))) (sRet (dTup (dCons (dBin opIx (dVar 0) (dC (.int 0))) (dCons (dBin opIx (dVar 0) (dC (.int 1))) (dCons (dCall r_pruned_branch (dCons (dBin opIx (dVar 0) (dC (.int 2))) (dCons (dBin opIx (dVar 3) (dC (.int 0))) (dCons (dBin opIx (dVar 3) (dC (.int 1))) dNil)))) (dCons (dCall r_pruned_branch (dCons (dBin opIx (dVar 0) (dC (.int 3))) (dCons (dBin opIx (dVar 4) (dC (.int 0))) (dCons (dBin opIx (dVar 4) (dC (.int 1))) dNil)))) dNil)))))) sSkip)
    (sSet 0 (dIf (S.tAnd (S.tCmp opGt (dFun (f1 opLen) (dCons (dBin opIx (dVar 3) (dC (.int 0))) dNil)) (dC (.int 0))) (S.tCmp opGt (dFun (f1 opLen) (dCons (dBin opIx (dVar 3) (dC (.int 1))) dNil)) (dC (.int 0)))) (dBin opIx (dVar 0) (dC (.int 2))) (dBin opIx (dVar 0) (dC (.int 3))))))))
    (sRet (dVar 0)))
abbrev N_pruned_branch : Nat := 64
noncomputable def m_pruned_branch : Nat → List D → M D
  | 0 => fun _ _ => none
  | k + 1 => bodyF 5 3 (d_pruned_branch (m_pruned_branch k))
theorem sc_pruned_branch : FnScope ["branch", "rows", "columns", "yes", "no"] ["branch", "rows", "columns"] (defScope s_pruned_branch) := ⟨rfl, rfl, rfl, by decide +kernel, rfl, by decide +kernel, by decide +kernel⟩
theorem ok_pruned_branch (T : Tx P w K mg) (o_parted : DefOk P w K mg base 1 "parted" 3 (m_parted)) : ∀ j : Nat, DefOk P w K mg base (2 + j) "pruned_branch" 3 (m_pruned_branch j)
  | 0 => DefOk.none T.f_pruned_branch.choose_spec (T.f_pruned_branch.choose_spec.bindsN (ps := ["branch", "rows", "columns"]) (fun _ _ _ _ _ _ us hl => match us, hl with | [_, _, _], _ => rfl)) T.g_pruned_branch rfl
  | j + 1 => by
    have o_pruned_branch := ok_pruned_branch T o_parted j
    exact ⟨⟨_, _, def_fn (k := 2 + j) (N := ["branch", "rows", "columns", "yes", "no"]) T.f_pruned_branch.choose_spec sc_pruned_branch rfl (fun cdv A outer s H E c =>
    (s_cons (s_while c.hp (t_cmp (o_ne c.hu) (e_ix (e_var (pv 0)) e_int (fun _ _ => rfl)) e_str (nomark _)) (s_cons (s_asg (e_call o_parted c (by omega) rfl (a_cons (e_var (pv 0)) (a_cons (e_var (pv 1)) (a_cons (e_var (pv 2)) a_nil)))) (g_tup (n := 2) c.calm (gs_cons (g_name (i := 3) c.nd rfl (.inl rfl)) (gs_cons (g_name (i := 4) c.nd rfl (.inl rfl)) gs_nil)) (gl_cons (gl_cons gl_nil))))
    (s_cons (s_if (PW.pt (w_and (t_cmp o_gt (e_callB c_len (by rfl) T.z_len (by decide +kernel) (a_cons (e_ix (e_var (pv 3)) e_int (fun _ _ => rfl)) a_nil)) e_int (nomark _)) (w_and (t_cmp o_gt (e_callB c_len (by rfl) T.z_len (by decide +kernel) (a_cons (e_ix (e_var (pv 3)) e_int (fun _ _ => rfl)) a_nil)) e_int (nomark _)) (w_and (t_cmp o_gt (e_callB c_len (by rfl) T.z_len (by decide +kernel) (a_cons (e_ix (e_var (pv 4)) e_int (fun _ _ => rfl)) a_nil)) e_int (nomark _)) (w_and1 (t_cmp o_gt (e_callB c_len (by rfl) T.z_len (by decide +kernel) (a_cons (e_ix (e_var (pv 4)) e_int (fun _ _ => rfl)) a_nil)) e_int (nomark _))))))) (s_one (s_ret (e_tup (a_cons (e_ix (e_var (pv 0)) e_int (fun _ _ => rfl)) (a_cons (e_ix (e_var (pv 0)) e_int (fun _ _ => rfl)) (a_cons (e_call o_pruned_branch c (by omega) rfl (a_cons (e_ix (e_var (pv 0)) e_int (fun _ _ => rfl)) (a_cons (e_ix (e_var (pv 3)) e_int (fun _ _ => rfl)) (a_cons (e_ix (e_var (pv 3)) e_int (fun _ _ => rfl)) a_nil)))) (a_cons (e_call o_pruned_branch c (by omega) rfl (a_cons (e_ix (e_var (pv 0)) e_int (fun _ _ => rfl)) (a_cons (e_ix (e_var (pv 4)) e_int (fun _ _ => rfl)) (a_cons (e_ix (e_var (pv 4)) e_int (fun _ _ => rfl)) a_nil)))) a_nil))))))) s_nil)
    (s_one (s_set (i := 0) c.nd rfl (.inl rfl) (e_ifExp (PW.pt (w_and (t_cmp o_gt (e_callB c_len (by rfl) T.z_len (by decide +kernel) (a_cons (e_ix (e_var (pv 3)) e_int (fun _ _ => rfl)) a_nil)) e_int (nomark _)) (w_and1 (t_cmp o_gt (e_callB c_len (by rfl) T.z_len (by decide +kernel) (a_cons (e_ix (e_var (pv 3)) e_int (fun _ _ => rfl)) a_nil)) e_int (nomark _))))) (e_ix (e_var (pv 0)) e_int (fun _ _ => rfl)) (e_ix (e_var (pv 0)) e_int (fun _ _ => rfl))))))))
    (s_one (s_ret (e_var (pv 0)))))), T.f_pruned_branch.choose_spec.bindsN (fun _ _ _ _ _ _ us hl => match us, hl with | [_, _, _], _ => rfl)⟩, T.g_pruned_branch, T.f_pruned_branch.choose_spec.kp, body_len (N := ["branch", "rows", "columns", "yes", "no"])⟩
/-! ### pruned -/
abbrev s_pruned : Stmt := topS 19
abbrev NN_pruned : List Str := ["talk", "rows", "columns"]
noncomputable def d_pruned : Sf :=
  (sSeq (sEx (dCall m_must_be_talk (dCons (dVar 0) (dCons (dVar 1) (dCons (dVar 2) dNil)))))
    (sRet (dCall (m_pruned_branch N_pruned_branch) (dCons (dVar 0) (dCons (dTupRg (dC (.int 0)) (dVar 1)) (dCons (dTupRg (dC (.int 0)) (dVar 2)) dNil))))))
noncomputable def m_pruned : List D → M D := bodyF 3 3 d_pruned
theorem sc_pruned : FnScope ["talk", "rows", "columns"] ["talk", "rows", "columns"] (defScope s_pruned) := ⟨rfl, rfl, rfl, by decide +kernel, rfl, by decide +kernel, by decide +kernel⟩
theorem ok_pruned (T : Tx P w K mg) (o_must_be_talk : DefOk P w K mg base 4 "must_be_talk" 3 (m_must_be_talk)) (o_pruned_branch : DefOk P w K mg base 66 "pruned_branch" 3 (m_pruned_branch N_pruned_branch)) : DefOk P w K mg base 67 "pruned" 3 m_pruned :=
  ⟨⟨_, _, def_fn (k := 66) (N := ["talk", "rows", "columns"]) T.f_pruned.choose_spec sc_pruned rfl (fun cdv A outer s H E c =>
    (s_cons (s_expr (e_call o_must_be_talk c (by omega) rfl (a_cons (e_var (pv 0)) (a_cons (e_var (pv 1)) (a_cons (e_var (pv 2)) a_nil)))))
    (s_one (s_ret (e_call o_pruned_branch c (by omega) rfl (a_cons (e_var (pv 0)) (a_cons (e_tupRg c rfl T.z_tuple (rg_1 rfl T.z_range (e_var (pv 1)))) (a_cons (e_tupRg c rfl T.z_tuple (rg_1 rfl T.z_range (e_var (pv 2)))) a_nil)))))))), T.f_pruned.choose_spec.bindsN (fun _ _ _ _ _ _ us hl => match us, hl with | [_, _, _], _ => rfl)⟩, T.g_pruned, T.f_pruned.choose_spec.kp, body_len (N := ["talk", "rows", "columns"])⟩
/-! ### _law_source -/
abbrev s__law_source : Stmt := topS 22
abbrev NN__law_source : List Str := ["script", "cells", "cell"]
noncomputable def d__law_source : Sf :=
  (sSeq (sSet 1 (dLc [2] (iLs (dSl (dVar 0) dNo (dPart (dC (.int 63))))) (gNm 2) S.tYes (dFun (f1 opAbs) (dCons (dFun (f1 opInt) (dCons (dVar 2) dNil)) dNil))))
    (sSeq (sIf (S.tCmp opEq (dFun (f1 opLen) (dCons (dVar 1) dNil)) (dC (.int 0))) (sSet 1 (dLst (dCons (dC (.int 0)) dNil))) sSkip)
    (sRet (dLst (dCons (dVar 1) (dCons (dC (.int 0)) (dCons (dC (.int 0)) dNil)))))))
noncomputable def m__law_source : List D → M D := bodyF 3 1 d__law_source
theorem sc__law_source : FnScope ["script", "cells", "cell"] ["script"] (defScope s__law_source) := ⟨rfl, rfl, rfl, by decide +kernel, rfl, by decide +kernel, by decide +kernel⟩
theorem ok__law_source (T : Tx P w K mg)  : DefOk P w K mg base 1 "_law_source" 1 m__law_source :=
  ⟨⟨_, _, def_fn (k := 0) (N := ["script", "cells", "cell"]) T.f__law_source.choose_spec sc__law_source rfl (fun cdv A outer s H E c =>
    (s_cons (s_lcC (i := 1) (own := [("cell", 2)]) c rfl rfl (sw_true rfl rfl rfl (by decide +kernel)) (i_lst (e_sl (e_var (pv 0)) p_no (p_so e_int))) (blkOk_by (N := NN__law_source) (sc := defScope s__law_source) (by decide +kernel)) (tg_nm (by decide)) (fun _ _ _ _ _ c => pg_name (i := 2) c.nd rfl (.inl rfl)) (fun _ _ _ _ _ c => ts_nil) (fun _ _ _ _ _ c => (e_callB c_abs (by rfl) T.z_abs (by decide +kernel) (a_cons (e_callTy c_int (by rfl) T.z_int (by decide +kernel) (a_cons (e_var (pv 2)) a_nil)) a_nil))))
    (s_cons (s_if (t_cmp (o_eq c.hu) (e_callB c_len (by rfl) T.z_len (by decide +kernel) (a_cons (e_var (pv 1)) a_nil)) e_int (nomark _)) (s_one (s_set (i := 1) c.nd rfl (.inl rfl) (e_lst (a_cons e_int a_nil)))) s_nil)
    (s_one (s_ret (e_lst (a_cons (e_var (pv 1)) (a_cons e_int (a_cons e_int a_nil))))))))), T.f__law_source.choose_spec.bindsN (fun _ _ _ _ _ _ us hl => match us, hl with | [_], _ => rfl)⟩, T.g__law_source, T.f__law_source.choose_spec.kp, body_len (N := ["script", "cells", "cell"])⟩
/-! ### _law_pick -/
abbrev s__law_pick : Stmt := topS 23
abbrev NN__law_pick : List Str := ["source", "many", "left", "turn", "cells", "cell", "first", "second"]
noncomputable def d__law_pick : Sf :=
  (sSeq (sIf (S.tCmp opGt (dBin opIx (dVar 0) (dC (.int 1))) (dC (.int 0))) (sSeq (sSet 2 (dBin opIx (dVar 0) (dC (.int 1))))
    (sSeq (sAs (gSet opSetL (dVar 0) (dC (.int 1))) (dBin opDiv (dVar 2) (dVar 1)))
    (sRet (dBin opMod (dFun (f1 opInt) (dCons (dVar 2) dNil)) (dVar 1))))) sSkip)
    (sSeq (sSet 3 (dBin opIx (dVar 0) (dC (.int 2))))
    (sSeq (sAs (gSet opSetL (dVar 0) (dC (.int 2))) (dBin opAdd (dVar 3) (dC (.int 1))))
    (sSeq (sSet 4 (dBin opIx (dVar 0) (dC (.int 0))))
    (sSeq (sSet 5 (dBin opIx (dVar 4) (dBin opMod (dFun (f1 opInt) (dCons (dVar 3) dNil)) (dFun (f1 opLen) (dCons (dVar 4) dNil)))))
    (sSeq (sIf (S.tAnd (S.tCmp opGe (dVar 5) (dBin opPow (dC (.int 10)) (dC (.int 18)))) (S.tCmp opLt (dVar 3) (dFun (f1 opLen) (dCons (dVar 4) dNil)))) (sSeq (sAs (gSet opSetL (dVar 0) (dC (.int 1))) (dBin opDiv (dVar 5) (dVar 1)))
    (sRet (dBin opMod (dFun (f1 opInt) (dCons (dVar 5) dNil)) (dVar 1)))) sSkip)
    (sSeq (sSet 6 (dBin opMod (dFun (f1 opInt) (dCons (dBin opAdd (dBin opAdd (dBin opMulI (dBin opMod (dFun (f1 opInt) (dCons (dVar 5) dNil)) (dC (.int 2147483647))) (dC (.int 48271))) (dBin opMulI (dVar 3) (dC (.int 69621)))) (dC (.int 40692))) dNil)) (dC (.int 2147483399))))
    (sSeq (sSet 7 (dBin opMod (dFun (f1 opInt) (dCons (dBin opAdd (dBin opAdd (dBin opMulI (dVar 6) (dBin opAdd (dBin opMod (dFun (f1 opInt) (dCons (dVar 6) dNil)) (dC (.int 65537))) (dC (.int 3)))) (dBin opMulI (dVar 3) (dC (.int 7919)))) (dC (.int 17))) dNil)) (dC (.int 2147483647))))
    (sRet (dBin opMod (dFun (f1 opInt) (dCons (dBin opDiv (dVar 7) (dC (.int 5))) dNil)) (dVar 1)))))))))))
noncomputable def m__law_pick : List D → M D := bodyF 8 2 d__law_pick
theorem sc__law_pick : FnScope ["source", "many", "left", "turn", "cells", "cell", "first", "second"] ["source", "many"] (defScope s__law_pick) := ⟨rfl, rfl, rfl, by decide +kernel, rfl, by decide +kernel, by decide +kernel⟩
theorem ok__law_pick (T : Tx P w K mg)  : DefOk P w K mg base 1 "_law_pick" 2 m__law_pick :=
  ⟨⟨_, _, def_fn (k := 0) (N := ["source", "many", "left", "turn", "cells", "cell", "first", "second"]) T.f__law_pick.choose_spec sc__law_pick rfl (fun cdv A outer s H E c =>
    (s_cons (s_if (t_cmp o_gt (e_ix (e_var (pv 0)) e_int (fun _ _ => rfl)) e_int (nomark _)) (s_cons (s_set (i := 2) c.nd rfl (.inl rfl) (e_ix (e_var (pv 0)) e_int (fun _ _ => rfl)))
    (s_cons (s_asg (e_bin o_div (e_var (pv 2)) (e_var (pv 1))) (g_sub (W := fun c a _ H' => E c a H') (e_var (pv 0)) e_int set_L))
    (s_one (s_ret (e_bin o_mod (e_callTy c_int (by rfl) T.z_int (by decide +kernel) (a_cons (e_var (pv 2)) a_nil)) (e_var (pv 1))))))) s_nil)
    (s_cons (s_set (i := 3) c.nd rfl (.inl rfl) (e_ix (e_var (pv 0)) e_int (fun _ _ => rfl)))
    (s_cons (s_asg (e_bin o_add (e_var (pv 3)) e_int) (g_sub (W := fun c a _ H' => E c a H') (e_var (pv 0)) e_int set_L))
    (s_cons (s_set (i := 4) c.nd rfl (.inl rfl) (e_ix (e_var (pv 0)) e_int (fun _ _ => rfl)))
    (s_cons (s_set (i := 5) c.nd rfl (.inl rfl) (e_ix (e_var (pv 4)) (e_bin o_mod (e_callTy c_int (by rfl) T.z_int (by decide +kernel) (a_cons (e_var (pv 3)) a_nil)) (e_callB c_len (by rfl) T.z_len (by decide +kernel) (a_cons (e_var (pv 4)) a_nil))) (fun _ _ => rfl)))
    (s_cons (s_if (PW.pt (w_and (t_cmp o_ge (e_var (pv 5)) (e_bin o_pow e_int e_int) (nomark _)) (w_and1 (t_cmp o_lt (e_var (pv 3)) (e_callB c_len (by rfl) T.z_len (by decide +kernel) (a_cons (e_var (pv 4)) a_nil)) (nomark _))))) (s_cons (s_asg (e_bin o_div (e_var (pv 5)) (e_var (pv 1))) (g_sub (W := fun c a _ H' => E c a H') (e_var (pv 0)) e_int set_L))
    (s_one (s_ret (e_bin o_mod (e_callTy c_int (by rfl) T.z_int (by decide +kernel) (a_cons (e_var (pv 5)) a_nil)) (e_var (pv 1)))))) s_nil)
    (s_cons (s_set (i := 6) c.nd rfl (.inl rfl) (e_bin o_mod (e_callTy c_int (by rfl) T.z_int (by decide +kernel) (a_cons (e_bin o_add (e_bin o_add (e_bin o_mulI (e_bin o_mod (e_callTy c_int (by rfl) T.z_int (by decide +kernel) (a_cons (e_var (pv 5)) a_nil)) e_int) e_int) (e_bin o_mulI (e_var (pv 3)) e_int)) e_int) a_nil)) e_int))
    (s_cons (s_set (i := 7) c.nd rfl (.inl rfl) (e_bin o_mod (e_callTy c_int (by rfl) T.z_int (by decide +kernel) (a_cons (e_bin o_add (e_bin o_add (e_bin o_mulI (e_var (pv 6)) (e_bin o_add (e_bin o_mod (e_callTy c_int (by rfl) T.z_int (by decide +kernel) (a_cons (e_var (pv 6)) a_nil)) e_int) e_int)) (e_bin o_mulI (e_var (pv 3)) e_int)) e_int) a_nil)) e_int))
    (s_one (s_ret (e_bin o_mod (e_callTy c_int (by rfl) T.z_int (by decide +kernel) (a_cons (e_bin o_div (e_var (pv 7)) e_int) a_nil)) (e_var (pv 1)))))))))))))), T.f__law_pick.choose_spec.bindsN (fun _ _ _ _ _ _ us hl => match us, hl with | [_, _], _ => rfl)⟩, T.g__law_pick, T.f__law_pick.choose_spec.kp, body_len (N := ["source", "many", "left", "turn", "cells", "cell", "first", "second"])⟩
/-! ### _law_heard -/
abbrev s__law_heard : Stmt := topS 24
abbrev NN__law_heard : List Str := ["talk", "row", "column", "bits", "turn", "own"]
noncomputable def d__law_heard : Sf :=
  (sSeq (sSet 3 (dLst dNil))
    (sSeq (sFor (iRg1 (dCons (dC (.int 100)) dNil)) (gNm 4) (sSeq (sIf (S.tCmp opEq (dBin opIx (dVar 0) (dC (.int 0))) (dC (.str (Str.ofString "tell")))) sBreak sSkip)
    (sSeq (sSet 5 (dIf (S.tCmp opEq (dBin opIx (dVar 0) (dC (.int 0))) (dC (.str (Str.ofString "row")))) (dVar 1) (dVar 2)))
    (sSeq (sEx (dMet mAppend (dVar 3) (dCons (dIf (S.tCmp opIn (dVar 5) (dBin opIx (dVar 0) (dC (.int 1)))) (dC (.int 1)) (dC (.int 0))) dNil)))
    (sSet 0 (dIf (S.tCmp opIn (dVar 5) (dBin opIx (dVar 0) (dC (.int 1)))) (dBin opIx (dVar 0) (dC (.int 2))) (dBin opIx (dVar 0) (dC (.int 3)))))))))
    (sRet (dTup (dCons (dBin opIx (dVar 0) (dC (.int 1))) (dCons (dVar 3) dNil))))))
noncomputable def m__law_heard : List D → M D := bodyF 6 3 d__law_heard
theorem sc__law_heard : FnScope ["talk", "row", "column", "bits", "turn", "own"] ["talk", "row", "column"] (defScope s__law_heard) := ⟨rfl, rfl, rfl, by decide +kernel, rfl, by decide +kernel, by decide +kernel⟩
theorem ok__law_heard (T : Tx P w K mg)  : DefOk P w K mg base 1 "_law_heard" 3 m__law_heard :=
  ⟨⟨_, _, def_fn (k := 0) (N := ["talk", "row", "column", "bits", "turn", "own"]) T.f__law_heard.choose_spec sc__law_heard rfl (fun cdv A outer s H E c =>
    (s_cons (s_set (i := 3) c.nd rfl (.inl rfl) (e_lst a_nil))
    (s_cons (s_for c.hp c.calm (i_rg1 (by rfl) T.z_range (a_cons e_int a_nil)) (g_name (i := 4) c.nd rfl (.inl rfl)) (s_cons (s_if (t_cmp (o_eq c.hu) (e_ix (e_var (pv 0)) e_int (fun _ _ => rfl)) e_str (nomark _)) (s_one s_break) s_nil)
    (s_cons (s_set (i := 5) c.nd rfl (.inl rfl) (e_ifExp (t_cmp (o_eq c.hu) (e_ix (e_var (pv 0)) e_int (fun _ _ => rfl)) e_str (nomark _)) (e_var (pv 1)) (e_var (pv 2))))
    (s_cons (s_expr (e_met PySem.F.plainAttrs_list PySem.F.slot_list_append PySem.F.type_list_append m_append (e_var (pv 3)) (a_cons (e_ifExp (t_cmp (o_in c.hv) (e_var (pv 5)) (e_ix (e_var (pv 0)) e_int (fun _ _ => rfl)) (by rfl)) e_int e_int) a_nil)))
    (s_one (s_set (i := 0) c.nd rfl (.inl rfl) (e_ifExp (t_cmp (o_in c.hv) (e_var (pv 5)) (e_ix (e_var (pv 0)) e_int (fun _ _ => rfl)) (by rfl)) (e_ix (e_var (pv 0)) e_int (fun _ _ => rfl)) (e_ix (e_var (pv 0)) e_int (fun _ _ => rfl)))))))))
    (s_one (s_ret (e_tup (a_cons (e_ix (e_var (pv 0)) e_int (fun _ _ => rfl)) (a_cons (e_var (pv 3)) a_nil)))))))), T.f__law_heard.choose_spec.bindsN (fun _ _ _ _ _ _ us hl => match us, hl with | [_, _, _], _ => rfl)⟩, T.g__law_heard, T.f__law_heard.choose_spec.kp, body_len (N := ["talk", "row", "column", "bits", "turn", "own"])⟩
/-! ### _law_is_int -/
abbrev s__law_is_int : Stmt := topS 25
abbrev NN__law_is_int : List Str := ["value"]
noncomputable def d__law_is_int : Sf :=
  (sRet (dAnd (dUn (opIsi "int") (dVar 0)) (dNot (dUn (opIsi "bool") (dVar 0)))))
noncomputable def m__law_is_int : List D → M D := bodyF 1 1 d__law_is_int
theorem sc__law_is_int : FnScope ["value"] ["value"] (defScope s__law_is_int) := ⟨rfl, rfl, rfl, by decide +kernel, rfl, by decide +kernel, by decide +kernel⟩
theorem ok__law_is_int (T : Tx P w K mg)  : DefOk P w K mg base 1 "_law_is_int" 1 m__law_is_int :=
  ⟨⟨_, _, def_fn (k := 0) (N := ["value"]) T.f__law_is_int.choose_spec sc__law_is_int rfl (fun cdv A outer s H E c =>
    (s_one (s_ret (e_and (e_isi rfl T.z_isinstance rfl T.z_int (by decide +kernel) (by decide +kernel) (e_var (pv 0))) (e_one (e_not (e_isi rfl T.z_isinstance rfl T.z_bool (by decide +kernel) (by decide +kernel) (e_var (pv 0))))))))), T.f__law_is_int.choose_spec.bindsN (fun _ _ _ _ _ _ us hl => match us, hl with | [_], _ => rfl)⟩, T.g__law_is_int, T.f__law_is_int.choose_spec.kp, body_len (N := ["value"])⟩
/-! ### _law_members -/
abbrev s__law_members : Stmt := topS 26
abbrev NN__law_members : List Str := ["source", "lines", "at"]
noncomputable def d__law_members : Sf :=
  (sRet (dFun (f1 opTuple) (dCons (dLc [2] (iRg1 (dCons (dVar 1) dNil)) (gNm 2) (S.tCmp opEq (dCall m__law_pick (dCons (dVar 0) (dCons (dC (.int 2)) dNil))) (dC (.int 0))) (dVar 2)) dNil)))
noncomputable def m__law_members : List D → M D := bodyF 3 2 d__law_members
theorem sc__law_members : FnScope ["source", "lines", "at"] ["source", "lines"] (defScope s__law_members) := ⟨rfl, rfl, rfl, by decide +kernel, rfl, by decide +kernel, by decide +kernel⟩
theorem ok__law_members (T : Tx P w K mg) (o__law_pick : DefOk P w K mg base 1 "_law_pick" 2 (m__law_pick)) : DefOk P w K mg base 2 "_law_members" 2 m__law_members :=
  ⟨⟨_, _, def_fn (k := 1) (N := ["source", "lines", "at"]) T.f__law_members.choose_spec sc__law_members rfl (fun cdv A outer s H E c =>
    (s_one (s_ret (e_callTy c_tuple (by rfl) T.z_tuple (by decide +kernel) (a_cons (e_lcC (own := [("at", 2)]) c (i_rg1 (by rfl) T.z_range (a_cons (e_var (pv 1)) a_nil)) (blkOk_by (N := NN__law_members) (sc := defScope s__law_members) (by decide +kernel)) (tg_nm (by decide)) (fun _ _ _ _ _ c => pg_name (i := 2) c.nd rfl (.inl rfl)) (fun _ _ _ _ _ c => ts_one (t_cmp (o_eq c.hu) (e_call o__law_pick c (by omega) rfl (a_cons (e_var (pv 0)) (a_cons e_int a_nil))) e_int (nomark _))) (fun _ _ _ _ _ c => (e_var (pv 2)))) a_nil))))), T.f__law_members.choose_spec.bindsN (fun _ _ _ _ _ _ us hl => match us, hl with | [_, _], _ => rfl)⟩, T.g__law_members, T.f__law_members.choose_spec.kp, body_len (N := ["source", "lines", "at"])⟩
/-! ### _law_talk -/
abbrev s__law_talk : Stmt := topS 27
abbrev NN__law_talk : List Str := ["source", "rows", "columns", "depth", "many", "side", "members", "yes", "no"]
noncomputable def d__law_talk (r__law_talk : List D → M D) : Sf :=
  (sSeq (sIf (S.tOr (S.tCmp opEq (dVar 3) (dC (.int 0))) (S.tCmp opEq (dCall m__law_pick (dCons (dVar 0) (dCons (dC (.int 4)) dNil))) (dC (.int 0)))) (sRet (dTup (dCons (dC (.str (Str.ofString "tell"))) (dCons (dCall m__law_pick (dCons (dVar 0) (dCons (dVar 4) dNil))) dNil)))) sSkip)
    (sSeq (sSet 5 (dCall m__law_pick (dCons (dVar 0) (dCons (dC (.int 2)) dNil))))
    (sSeq (sSet 6 (dCall m__law_members (dCons (dVar 0) (dCons (dIf (S.tCmp opEq (dVar 5) (dC (.int 1))) (dVar 2) (dVar 1)) dNil))))
    (sSeq (sSet 7 (dCall r__law_talk (dCons (dVar 0) (dCons (dVar 1) (dCons (dVar 2) (dCons (dBin opSub (dVar 3) (dC (.int 1))) (dCons (dVar 4) dNil)))))))
    (sSeq (sSet 8 (dCall r__law_talk (dCons (dVar 0) (dCons (dVar 1) (dCons (dVar 2) (dCons (dBin opSub (dVar 3) (dC (.int 1))) (dCons (dVar 4) dNil)))))))
    (sRet (dTup (dCons (dBin opIx (dLst (dCons (dC (.str (Str.ofString "row"))) (dCons (dC (.str (Str.ofString "column"))) dNil))) (dVar 5)) (dCons (dVar 6) (dCons (dVar 7) (dCons (dVar 8) dNil)))))))))))
abbrev N__law_talk : Nat := 8
noncomputable def m__law_talk : Nat → List D → M D
  | 0 => fun _ _ => none
  | k + 1 => bodyF 9 5 (d__law_talk (m__law_talk k))
theorem sc__law_talk : FnScope ["source", "rows", "columns", "depth", "many", "side", "members", "yes", "no"] ["source", "rows", "columns", "depth", "many"] (defScope s__law_talk) := ⟨rfl, rfl, rfl, by decide +kernel, rfl, by decide +kernel, by decide +kernel⟩
theorem ok__law_talk (T : Tx P w K mg) (o__law_members : DefOk P w K mg base 2 "_law_members" 2 (m__law_members)) (o__law_pick : DefOk P w K mg base 1 "_law_pick" 2 (m__law_pick)) : ∀ j : Nat, DefOk P w K mg base (3 + j) "_law_talk" 5 (m__law_talk j)
  | 0 => DefOk.none T.f__law_talk.choose_spec (T.f__law_talk.choose_spec.bindsN (ps := ["source", "rows", "columns", "depth", "many"]) (fun _ _ _ _ _ _ us hl => match us, hl with | [_, _, _, _, _], _ => rfl)) T.g__law_talk rfl
  | j + 1 => by
    have o__law_talk := ok__law_talk T o__law_members o__law_pick j
    exact ⟨⟨_, _, def_fn (k := 3 + j) (N := ["source", "rows", "columns", "depth", "many", "side", "members", "yes", "no"]) T.f__law_talk.choose_spec sc__law_talk rfl (fun cdv A outer s H E c =>
    (s_cons (s_if (PW.pt (w_or (t_cmp (o_eq c.hu) (e_var (pv 3)) e_int (nomark _)) (w_or1 (t_cmp (o_eq c.hu) (e_call o__law_pick c (by omega) rfl (a_cons (e_var (pv 0)) (a_cons e_int a_nil))) e_int (nomark _))))) (s_one (s_ret (e_tup (a_cons e_str (a_cons (e_call o__law_pick c (by omega) rfl (a_cons (e_var (pv 0)) (a_cons (e_var (pv 4)) a_nil))) a_nil))))) s_nil)
    (s_cons (s_set (i := 5) c.nd rfl (.inl rfl) (e_call o__law_pick c (by omega) rfl (a_cons (e_var (pv 0)) (a_cons e_int a_nil))))
    (s_cons (s_set (i := 6) c.nd rfl (.inl rfl) (e_call o__law_members c (by omega) rfl (a_cons (e_var (pv 0)) (a_cons (e_ifExp (t_cmp (o_eq c.hu) (e_var (pv 5)) e_int (nomark _)) (e_var (pv 2)) (e_var (pv 1))) a_nil))))
    (s_cons (s_set (i := 7) c.nd rfl (.inl rfl) (e_call o__law_talk c (by omega) rfl (a_cons (e_var (pv 0)) (a_cons (e_var (pv 1)) (a_cons (e_var (pv 2)) (a_cons (e_bin o_sub (e_var (pv 3)) e_int) (a_cons (e_var (pv 4)) a_nil)))))))
    (s_cons (s_set (i := 8) c.nd rfl (.inl rfl) (e_call o__law_talk c (by omega) rfl (a_cons (e_var (pv 0)) (a_cons (e_var (pv 1)) (a_cons (e_var (pv 2)) (a_cons (e_bin o_sub (e_var (pv 3)) e_int) (a_cons (e_var (pv 4)) a_nil)))))))
    (s_one (s_ret (e_tup (a_cons (e_ix (e_lst (a_cons e_str (a_cons e_str a_nil))) (e_var (pv 5)) (fun _ _ => rfl)) (a_cons (e_var (pv 6)) (a_cons (e_var (pv 7)) (a_cons (e_var (pv 8)) a_nil))))))))))))), T.f__law_talk.choose_spec.bindsN (fun _ _ _ _ _ _ us hl => match us, hl with | [_, _, _, _, _], _ => rfl)⟩, T.g__law_talk, T.f__law_talk.choose_spec.kp, body_len (N := ["source", "rows", "columns", "depth", "many", "side", "members", "yes", "no"])⟩
/-! ### _law_peeled -/
abbrev s__law_peeled : Stmt := topS 28
abbrev NN__law_peeled : List Str := ["source", "rows", "columns", "most", "many", "left", "steps", "turn", "side", "talk", "line", "leaf", "others", "at"]
noncomputable def d__law_peeled : Sf :=
  (sSeq (sSet 5 (dLst (dCons (dLc [13] (iRg1 (dCons (dVar 1) dNil)) (gNm 13) S.tYes (dVar 13)) (dCons (dLc [13] (iRg1 (dCons (dVar 2) dNil)) (gNm 13) S.tYes (dVar 13)) dNil))))
    (sSeq (sSet 6 (dLst dNil))
    (sSeq (sFor (iRg1 (dCons (dVar 3) dNil)) (gNm 7) (sSeq (sSet 8 (dCall m__law_pick (dCons (dVar 0) (dCons (dC (.int 2)) dNil))))
    (sSeq (sIf (S.tCmp opLt (dFun (f1 opLen) (dCons (dBin opIx (dVar 5) (dVar 8)) dNil)) (dC (.int 2))) (sSet 8 (dBin opSub (dC (.int 1)) (dVar 8))) sSkip)
    (sSeq (sIf (S.tCmp opLt (dFun (f1 opLen) (dCons (dBin opIx (dVar 5) (dVar 8)) dNil)) (dC (.int 2))) sBreak sSkip)
    (sEx (dMet mAppend (dVar 6) (dCons (dTup (dCons (dVar 8) (dCons (dMet mPop (dBin opIx (dVar 5) (dVar 8)) (dCons (dCall m__law_pick (dCons (dVar 0) (dCons (dFun (f1 opLen) (dCons (dBin opIx (dVar 5) (dVar 8)) dNil)) dNil))) dNil)) dNil))) dNil)))))))
    (sSeq (sSet 9 (dTup (dCons (dC (.str (Str.ofString "tell"))) (dCons (dCall m__law_pick (dCons (dVar 0) (dCons (dVar 4) dNil))) dNil))))
    (sSeq (sFor (iLs (dUn opRev (dVar 6))) (gTp (gsCons (gNm 8) (gsCons (gNm 10) gsNil))) (sSeq (sSet 11 (dCall (m__law_talk N__law_talk) (dCons (dVar 0) (dCons (dVar 1) (dCons (dVar 2) (dCons (dCall m__law_pick (dCons (dVar 0) (dCons (dC (.int 2)) dNil))) (dCons (dVar 4) dNil)))))))
    (sIf (S.tCmp opEq (dCall m__law_pick (dCons (dVar 0) (dCons (dC (.int 2)) dNil))) (dC (.int 0))) (sSet 9 (dTup (dCons (dBin opIx (dLst (dCons (dC (.str (Str.ofString "row"))) (dCons (dC (.str (Str.ofString "column"))) dNil))) (dVar 8)) (dCons (dTup (dCons (dVar 10) dNil)) (dCons (dVar 11) (dCons (dVar 9) dNil)))))) (sSeq (sSet 12 (dFun (f1 opTuple) (dCons (dLc [13] (iRg1 (dCons (dBin opIx (dLst (dCons (dVar 1) (dCons (dVar 2) dNil))) (dVar 8)) dNil)) (gNm 13) (S.tCmp opNe (dVar 13) (dVar 10)) (dVar 13)) dNil)))
    (sSet 9 (dTup (dCons (dBin opIx (dLst (dCons (dC (.str (Str.ofString "row"))) (dCons (dC (.str (Str.ofString "column"))) dNil))) (dVar 8)) (dCons (dVar 12) (dCons (dVar 9) (dCons (dVar 11) dNil))))))))))
    (sRet (dVar 9)))))))
noncomputable def m__law_peeled : List D → M D := bodyF 14 5 d__law_peeled
theorem sc__law_peeled : FnScope ["source", "rows", "columns", "most", "many", "left", "steps", "turn", "side", "talk", "line", "leaf", "others", "at"] ["source", "rows", "columns", "most", "many"] (defScope s__law_peeled) := ⟨rfl, rfl, rfl, by decide +kernel, rfl, by decide +kernel, by decide +kernel⟩
theorem ok__law_peeled (T : Tx P w K mg) (o__law_pick : DefOk P w K mg base 1 "_law_pick" 2 (m__law_pick)) (o__law_talk : DefOk P w K mg base 11 "_law_talk" 5 (m__law_talk N__law_talk)) : DefOk P w K mg base 12 "_law_peeled" 5 m__law_peeled :=
  ⟨⟨_, _, def_fn (k := 11) (N := ["source", "rows", "columns", "most", "many", "left", "steps", "turn", "side", "talk", "line", "leaf", "others", "at"]) T.f__law_peeled.choose_spec sc__law_peeled rfl (fun cdv A outer s H E c =>
    (s_cons (s_set (i := 5) c.nd rfl (.inl rfl) (e_lst (a_cons (e_lcC (own := [("at", 13)]) c (i_rg1 (by rfl) T.z_range (a_cons (e_var (pv 1)) a_nil)) (blkOk_by (N := NN__law_peeled) (sc := defScope s__law_peeled) (by decide +kernel)) (tg_nm (by decide)) (fun _ _ _ _ _ c => pg_name (i := 13) c.nd rfl (.inl rfl)) (fun _ _ _ _ _ c => ts_nil) (fun _ _ _ _ _ c => (e_var (pv 13)))) (a_cons (e_lcC (own := [("at", 13)]) c (i_rg1 (by rfl) T.z_range (a_cons (e_var (pv 2)) a_nil)) (blkOk_by (N := NN__law_peeled) (sc := defScope s__law_peeled) (by decide +kernel)) (tg_nm (by decide)) (fun _ _ _ _ _ c => pg_name (i := 13) c.nd rfl (.inl rfl)) (fun _ _ _ _ _ c => ts_nil) (fun _ _ _ _ _ c => (e_var (pv 13)))) a_nil))))
    (s_cons (s_set (i := 6) c.nd rfl (.inl rfl) (e_lst a_nil))
    (s_cons (s_for c.hp c.calm (i_rg1 (by rfl) T.z_range (a_cons (e_var (pv 3)) a_nil)) (g_name (i := 7) c.nd rfl (.inl rfl)) (s_cons (s_set (i := 8) c.nd rfl (.inl rfl) (e_call o__law_pick c (by omega) rfl (a_cons (e_var (pv 0)) (a_cons e_int a_nil))))
    (s_cons (s_if (t_cmp o_lt (e_callB c_len (by rfl) T.z_len (by decide +kernel) (a_cons (e_ix (e_var (pv 5)) (e_var (pv 8)) (fun _ _ => rfl)) a_nil)) e_int (nomark _)) (s_one (s_set (i := 8) c.nd rfl (.inl rfl) (e_bin o_sub e_int (e_var (pv 8))))) s_nil)
    (s_cons (s_if (t_cmp o_lt (e_callB c_len (by rfl) T.z_len (by decide +kernel) (a_cons (e_ix (e_var (pv 5)) (e_var (pv 8)) (fun _ _ => rfl)) a_nil)) e_int (nomark _)) (s_one s_break) s_nil)
    (s_one (s_expr (e_met PySem.F.plainAttrs_list PySem.F.slot_list_append PySem.F.type_list_append m_append (e_var (pv 6)) (a_cons (e_tup (a_cons (e_var (pv 8)) (a_cons (e_met PySem.F.plainAttrs_list PySem.F.slot_list_pop PySem.F.type_list_pop m_pop (e_ix (e_var (pv 5)) (e_var (pv 8)) (fun _ _ => rfl)) (a_cons (e_call o__law_pick c (by omega) rfl (a_cons (e_var (pv 0)) (a_cons (e_callB c_len (by rfl) T.z_len (by decide +kernel) (a_cons (e_ix (e_var (pv 5)) (e_var (pv 8)) (fun _ _ => rfl)) a_nil)) a_nil))) a_nil)) a_nil))) a_nil))))))))
    (s_cons (s_set (i := 9) c.nd rfl (.inl rfl) (e_tup (a_cons e_str (a_cons (e_call o__law_pick c (by omega) rfl (a_cons (e_var (pv 0)) (a_cons (e_var (pv 4)) a_nil))) a_nil))))
    (s_cons (s_for c.hp c.calm (i_lst (e_rev (e_var (pv 6)))) (g_tup (n := 2) c.calm (gs_cons (g_name (i := 8) c.nd rfl (.inl rfl)) (gs_cons (g_name (i := 10) c.nd rfl (.inr rfl)) gs_nil)) (gl_cons (gl_cons gl_nil))) (s_cons (s_set (i := 11) c.nd rfl (.inl rfl) (e_call o__law_talk c (by omega) rfl (a_cons (e_var (pv 0)) (a_cons (e_var (pv 1)) (a_cons (e_var (pv 2)) (a_cons (e_call o__law_pick c (by omega) rfl (a_cons (e_var (pv 0)) (a_cons e_int a_nil))) (a_cons (e_var (pv 4)) a_nil)))))))
    (s_one (s_if (t_cmp (o_eq c.hu) (e_call o__law_pick c (by omega) rfl (a_cons (e_var (pv 0)) (a_cons e_int a_nil))) e_int (nomark _)) (s_one (s_set (i := 9) c.nd rfl (.inl rfl) (e_tup (a_cons (e_ix (e_lst (a_cons e_str (a_cons e_str a_nil))) (e_var (pv 8)) (fun _ _ => rfl)) (a_cons (e_tup (a_cons (e_var (pv 10)) a_nil)) (a_cons (e_var (pv 11)) (a_cons (e_var (pv 9)) a_nil))))))) (s_cons (s_set (i := 12) c.nd rfl (.inl rfl) (e_callTy c_tuple (by rfl) T.z_tuple (by decide +kernel) (a_cons (e_lcC (own := [("at", 13)]) c (i_rg1 (by rfl) T.z_range (a_cons (e_ix (e_lst (a_cons (e_var (pv 1)) (a_cons (e_var (pv 2)) a_nil))) (e_var (pv 8)) (fun _ _ => rfl)) a_nil)) (blkOk_by (N := NN__law_peeled) (sc := defScope s__law_peeled) (by decide +kernel)) (tg_nm (by decide)) (fun _ _ _ _ _ c => pg_name (i := 13) c.nd rfl (.inl rfl)) (fun _ _ _ _ _ c => ts_one (t_cmp (o_ne c.hu) (e_var (pv 13)) (e_var (pv 10)) (nomark _))) (fun _ _ _ _ _ c => (e_var (pv 13)))) a_nil)))
    (s_one (s_set (i := 9) c.nd rfl (.inl rfl) (e_tup (a_cons (e_ix (e_lst (a_cons e_str (a_cons e_str a_nil))) (e_var (pv 8)) (fun _ _ => rfl)) (a_cons (e_var (pv 12)) (a_cons (e_var (pv 9)) (a_cons (e_var (pv 11)) a_nil))))))))))))
    (s_one (s_ret (e_var (pv 9)))))))))), T.f__law_peeled.choose_spec.bindsN (fun _ _ _ _ _ _ us hl => match us, hl with | [_, _, _, _, _], _ => rfl)⟩, T.g__law_peeled, T.f__law_peeled.choose_spec.kp, body_len (N := ["source", "rows", "columns", "most", "many", "left", "steps", "turn", "side", "talk", "line", "leaf", "others", "at"])⟩
/-! ### _law_is_talk -/
abbrev s__law_is_talk : Stmt := topS 29
abbrev NN__law_is_talk : List Str := ["value", "rows", "columns", "line", "many", "talk", "depth", "last", "member"]
noncomputable def d__law_is_talk : Sf :=
  (sSeq (sSet 3 (dLst (dCons (dTup (dCons (dVar 0) (dCons (dC (.int 0)) dNil))) dNil)))
    (sSeq (sSet 4 (dC (.int 0)))
    (sSeq (sWhile (S.tCmp opGt (dFun (f1 opLen) (dCons (dVar 3) dNil)) (dC (.int 0))) (sSeq (sAs (gTp (gsCons (gNm 5) (gsCons (gNm 6) gsNil))) (dMet mPop (dVar 3) dNil))
    (sSeq (sAug 4 (opI fun i j => i + j) (dC (.int 1)))
    (sSeq (sIf (S.tOr (S.tCmp opGt (dVar 4) (dC (.int 20000))) (S.tOr (S.tCmp opGt (dVar 6) (dC (.int 60))) (S.tNot (tV (dUn (opIsi "tuple") (dVar 5)))))) (sRet (dC (.bl false))) sSkip)
    (sIf (S.tAnd (S.tCmp opEq (dFun (f1 opLen) (dCons (dVar 5) dNil)) (dC (.int 2))) (S.tCmp opEq (dBin opIx (dVar 5) (dC (.int 0))) (dC (.str (Str.ofString "tell"))))) (sIf (S.tOr (S.tNot (tV (dCall m__law_is_int (dCons (dBin opIx (dVar 5) (dC (.int 1))) dNil)))) (S.tOr (S.tCmp opLt (dBin opIx (dVar 5) (dC (.int 1))) (dC (.int 0))) (S.tCmp opGt (dBin opIx (dVar 5) (dC (.int 1))) (dC (.int 99))))) (sRet (dC (.bl false))) sSkip) (sIf (S.tAnd (S.tCmp opEq (dFun (f1 opLen) (dCons (dVar 5) dNil)) (dC (.int 4))) (S.tAnd (S.tCmp opIn (dBin opIx (dVar 5) (dC (.int 0))) (dTup (dCons (dC (.str (Str.ofString "row"))) (dCons (dC (.str (Str.ofString "column"))) dNil)))) (tV (dUn (opIsi "tuple") (dBin opIx (dVar 5) (dC (.int 1))))))) (sSeq (sSet 7 (dBin opSub (dC (.int 0)) (dC (.int 1))))
    (sSeq (sFor (iTp (dBin opIx (dVar 5) (dC (.int 1)))) (gNm 8) (sSeq (sIf (S.tOr (S.tNot (tV (dCall m__law_is_int (dCons (dVar 8) dNil)))) (S.tOr (S.tCmp opLe (dVar 8) (dVar 7)) (S.tCmp opGe (dVar 8) (dIf (S.tCmp opEq (dBin opIx (dVar 5) (dC (.int 0))) (dC (.str (Str.ofString "row")))) (dVar 1) (dVar 2))))) (sRet (dC (.bl false))) sSkip)
    (sSet 7 (dVar 8))))
    (sSeq (sEx (dMet mAppend (dVar 3) (dCons (dTup (dCons (dBin opIx (dVar 5) (dC (.int 2))) (dCons (dBin opAdd (dVar 6) (dC (.int 1))) dNil))) dNil)))
    (sEx (dMet mAppend (dVar 3) (dCons (dTup (dCons (dBin opIx (dVar 5) (dC (.int 3))) (dCons (dBin opAdd (dVar 6) (dC (.int 1))) dNil))) dNil)))))) (sRet (dC (.bl false)))))))))
    (sRet (dC (.bl true))))))
noncomputable def m__law_is_talk : List D → M D := bodyF 9 3 d__law_is_talk
theorem sc__law_is_talk : FnScope ["value", "rows", "columns", "line", "many", "talk", "depth", "last", "member"] ["value", "rows", "columns"] (defScope s__law_is_talk) := ⟨rfl, rfl, rfl, by decide +kernel, rfl, by decide +kernel, by decide +kernel⟩
theorem ok__law_is_talk (T : Tx P w K mg) (o__law_is_int : DefOk P w K mg base 1 "_law_is_int" 1 (m__law_is_int)) : DefOk P w K mg base 2 "_law_is_talk" 3 m__law_is_talk :=
  ⟨⟨_, _, def_fn (k := 1) (N := ["value", "rows", "columns", "line", "many", "talk", "depth", "last", "member"]) T.f__law_is_talk.choose_spec sc__law_is_talk rfl (fun cdv A outer s H E c =>
    (s_cons (s_set (i := 3) c.nd rfl (.inl rfl) (e_lst (a_cons (e_tup (a_cons (e_var (pv 0)) (a_cons e_int a_nil))) a_nil)))
    (s_cons (s_set (i := 4) c.nd rfl (.inl rfl) e_int)
    (s_cons (s_while c.hp (t_cmp o_gt (e_callB c_len (by rfl) T.z_len (by decide +kernel) (a_cons (e_var (pv 3)) a_nil)) e_int (nomark _)) (s_cons (s_asg (e_met0 PySem.F.plainAttrs_list PySem.F.slot_list_pop PySem.F.type_list_pop m_pop (e_var (pv 3))) (g_tup (n := 2) c.calm (gs_cons (g_name (i := 5) c.nd rfl (.inl rfl)) (gs_cons (g_name (i := 6) c.nd rfl (.inl rfl)) gs_nil)) (gl_cons (gl_cons gl_nil))))
    (s_cons (s_aug (i := 4) c.nd rfl (.inl rfl) e_int ip_addS)
    (s_cons (s_if (PW.pt (w_or (t_cmp o_gt (e_var (pv 4)) e_int (nomark _)) (w_or (t_cmp o_gt (e_var (pv 6)) e_int (nomark _)) (w_or1 (t_not (t_val (e_isi rfl T.z_isinstance rfl T.z_tuple (by decide +kernel) (by decide +kernel) (e_var (pv 5))))))))) (s_one (s_ret e_bl)) s_nil)
    (s_one (s_if (PW.pt (w_and (t_cmp (o_eq c.hu) (e_callB c_len (by rfl) T.z_len (by decide +kernel) (a_cons (e_var (pv 5)) a_nil)) e_int (nomark _)) (w_and1 (t_cmp (o_eq c.hu) (e_ix (e_var (pv 5)) e_int (fun _ _ => rfl)) e_str (nomark _))))) (s_one (s_if (PW.pt (w_or (t_not (t_val (e_call o__law_is_int c (by omega) rfl (a_cons (e_ix (e_var (pv 5)) e_int (fun _ _ => rfl)) a_nil)))) (w_or (t_cmp o_lt (e_ix (e_var (pv 5)) e_int (fun _ _ => rfl)) e_int (nomark _)) (w_or1 (t_cmp o_gt (e_ix (e_var (pv 5)) e_int (fun _ _ => rfl)) e_int (nomark _)))))) (s_one (s_ret e_bl)) s_nil)) (s_one (s_if (PW.pt (w_and (t_cmp (o_eq c.hu) (e_callB c_len (by rfl) T.z_len (by decide +kernel) (a_cons (e_var (pv 5)) a_nil)) e_int (nomark _)) (w_and (t_cmp (o_in c.hv) (e_ix (e_var (pv 5)) e_int (fun _ _ => rfl)) (e_tup (a_cons e_str (a_cons e_str a_nil))) (by rfl)) (w_and1 (t_val (e_isi rfl T.z_isinstance rfl T.z_tuple (by decide +kernel) (by decide +kernel) (e_ix (e_var (pv 5)) e_int (fun _ _ => rfl)))))))) (s_cons (s_set (i := 7) c.nd rfl (.inl rfl) (e_bin o_sub e_int e_int))
    (s_cons (s_for c.hp c.calm (i_tup (e_ix (e_var (pv 5)) e_int (fun _ _ => rfl))) (g_name (i := 8) c.nd rfl (.inl rfl)) (s_cons (s_if (PW.pt (w_or (t_not (t_val (e_call o__law_is_int c (by omega) rfl (a_cons (e_var (pv 8)) a_nil)))) (w_or (t_cmp o_le (e_var (pv 8)) (e_var (pv 7)) (nomark _)) (w_or1 (t_cmp o_ge (e_var (pv 8)) (e_ifExp (t_cmp (o_eq c.hu) (e_ix (e_var (pv 5)) e_int (fun _ _ => rfl)) e_str (nomark _)) (e_var (pv 1)) (e_var (pv 2))) (nomark _)))))) (s_one (s_ret e_bl)) s_nil)
    (s_one (s_set (i := 7) c.nd rfl (.inl rfl) (e_var (pv 8))))))
    (s_cons (s_expr (e_met PySem.F.plainAttrs_list PySem.F.slot_list_append PySem.F.type_list_append m_append (e_var (pv 3)) (a_cons (e_tup (a_cons (e_ix (e_var (pv 5)) e_int (fun _ _ => rfl)) (a_cons (e_bin o_add (e_var (pv 6)) e_int) a_nil))) a_nil)))
    (s_one (s_expr (e_met PySem.F.plainAttrs_list PySem.F.slot_list_append PySem.F.type_list_append m_append (e_var (pv 3)) (a_cons (e_tup (a_cons (e_ix (e_var (pv 5)) e_int (fun _ _ => rfl)) (a_cons (e_bin o_add (e_var (pv 6)) e_int) a_nil))) a_nil))))))) (s_one (s_ret e_bl))))))))))
    (s_one (s_ret e_bl)))))), T.f__law_is_talk.choose_spec.bindsN (fun _ _ _ _ _ _ us hl => match us, hl with | [_, _, _], _ => rfl)⟩, T.g__law_is_talk, T.f__law_is_talk.choose_spec.kp, body_len (N := ["value", "rows", "columns", "line", "many", "talk", "depth", "last", "member"])⟩
/-! ### _law_way_down -/
abbrev s__law_way_down : Stmt := topS 30
abbrev NN__law_way_down : List Str := ["source", "talk", "told", "side"]
noncomputable def d__law_way_down : Sf :=
  (sSeq (sSet 2 (dLst dNil))
    (sSeq (sWhile (S.tAnd (S.tCmp opNe (dBin opIx (dVar 1) (dC (.int 0))) (dC (.str (Str.ofString "tell")))) (S.tCmp opGt (dCall m__law_pick (dCons (dVar 0) (dCons (dC (.int 4)) dNil))) (dC (.int 0)))) (sSeq (sSet 3 (dBin opAdd (dC (.int 2)) (dCall m__law_pick (dCons (dVar 0) (dCons (dC (.int 2)) dNil)))))
    (sSeq (sEx (dMet mAppend (dVar 2) (dCons (dTup (dCons (dVar 1) (dCons (dVar 3) dNil))) dNil)))
    (sSet 1 (dBin opIx (dVar 1) (dVar 3))))))
    (sRet (dVar 2))))
noncomputable def m__law_way_down : List D → M D := bodyF 4 2 d__law_way_down
theorem sc__law_way_down : FnScope ["source", "talk", "told", "side"] ["source", "talk"] (defScope s__law_way_down) := ⟨rfl, rfl, rfl, by decide +kernel, rfl, by decide +kernel, by decide +kernel⟩
theorem ok__law_way_down (T : Tx P w K mg) (o__law_pick : DefOk P w K mg base 1 "_law_pick" 2 (m__law_pick)) : DefOk P w K mg base 2 "_law_way_down" 2 m__law_way_down :=
  ⟨⟨_, _, def_fn (k := 1) (N := ["source", "talk", "told", "side"]) T.f__law_way_down.choose_spec sc__law_way_down rfl (fun cdv A outer s H E c =>
    (s_cons (s_set (i := 2) c.nd rfl (.inl rfl) (e_lst a_nil))
    (s_cons (s_while c.hp (PW.pt (w_and (t_cmp (o_ne c.hu) (e_ix (e_var (pv 1)) e_int (fun _ _ => rfl)) e_str (nomark _)) (w_and1 (t_cmp o_gt (e_call o__law_pick c (by omega) rfl (a_cons (e_var (pv 0)) (a_cons e_int a_nil))) e_int (nomark _))))) (s_cons (s_set (i := 3) c.nd rfl (.inl rfl) (e_bin o_add e_int (e_call o__law_pick c (by omega) rfl (a_cons (e_var (pv 0)) (a_cons e_int a_nil)))))
    (s_cons (s_expr (e_met PySem.F.plainAttrs_list PySem.F.slot_list_append PySem.F.type_list_append m_append (e_var (pv 2)) (a_cons (e_tup (a_cons (e_var (pv 1)) (a_cons (e_var (pv 3)) a_nil))) a_nil)))
    (s_one (s_set (i := 1) c.nd rfl (.inl rfl) (e_ix (e_var (pv 1)) (e_var (pv 3)) (fun _ _ => rfl)))))))
    (s_one (s_ret (e_var (pv 2))))))), T.f__law_way_down.choose_spec.bindsN (fun _ _ _ _ _ _ us hl => match us, hl with | [_, _], _ => rfl)⟩, T.g__law_way_down, T.f__law_way_down.choose_spec.kp, body_len (N := ["source", "talk", "told", "side"])⟩
/-! ### _law_put -/
abbrev s__law_put : Stmt := topS 31
abbrev NN__law_put : List Str := ["above", "piece", "node", "side"]
noncomputable def d__law_put : Sf :=
  (sSeq (sFor (iLs (dUn opRev (dVar 0))) (gTp (gsCons (gNm 2) (gsCons (gNm 3) gsNil))) (sSet 1 (dBin opAdd (dBin opAdd (dSl (dVar 2) dNo (dPart (dVar 3))) (dTup (dCons (dVar 1) dNil))) (dSl (dVar 2) (dPart (dBin opAdd (dVar 3) (dC (.int 1)))) dNo))))
    (sRet (dVar 1)))
noncomputable def m__law_put : List D → M D := bodyF 4 2 d__law_put
theorem sc__law_put : FnScope ["above", "piece", "node", "side"] ["above", "piece"] (defScope s__law_put) := ⟨rfl, rfl, rfl, by decide +kernel, rfl, by decide +kernel, by decide +kernel⟩
theorem ok__law_put (T : Tx P w K mg)  : DefOk P w K mg base 1 "_law_put" 2 m__law_put :=
  ⟨⟨_, _, def_fn (k := 0) (N := ["above", "piece", "node", "side"]) T.f__law_put.choose_spec sc__law_put rfl (fun cdv A outer s H E c =>
    (s_cons (s_for c.hp c.calm (i_lst (e_rev (e_var (pv 0)))) (g_tup (n := 2) c.calm (gs_cons (g_name (i := 2) c.nd rfl (.inl rfl)) (gs_cons (g_name (i := 3) c.nd rfl (.inl rfl)) gs_nil)) (gl_cons (gl_cons gl_nil))) (s_one (s_set (i := 1) c.nd rfl (.inl rfl) (e_bin o_add (e_bin o_add (e_sl (e_var (pv 2)) p_no (p_so (e_var (pv 3)))) (e_tup (a_cons (e_var (pv 1)) a_nil))) (e_sl (e_var (pv 2)) (p_so (e_bin o_add (e_var (pv 3)) e_int)) p_no)))))
    (s_one (s_ret (e_var (pv 1)))))), T.f__law_put.choose_spec.bindsN (fun _ _ _ _ _ _ us hl => match us, hl with | [_, _], _ => rfl)⟩, T.g__law_put, T.f__law_put.choose_spec.kp, body_len (N := ["above", "piece", "node", "side"])⟩
/-! ### _law_leaf_ways -/
abbrev s__law_leaf_ways : Stmt := topS 32
abbrev NN__law_leaf_ways : List Str := ["talk", "told", "line", "branch", "depth"]
noncomputable def d__law_leaf_ways : Sf :=
  (sSeq (sSet 1 (dLst dNil))
    (sSeq (sSet 2 (dLst (dCons (dTup (dCons (dVar 0) (dCons (dC (.int 0)) dNil))) dNil)))
    (sSeq (sWhile (S.tCmp opGt (dFun (f1 opLen) (dCons (dVar 2) dNil)) (dC (.int 0))) (sSeq (sAs (gTp (gsCons (gNm 3) (gsCons (gNm 4) gsNil))) (dMet mPop (dVar 2) dNil))
    (sIf (S.tCmp opEq (dBin opIx (dVar 3) (dC (.int 0))) (dC (.str (Str.ofString "tell")))) (sEx (dMet mAppend (dVar 1) (dCons (dVar 4) dNil))) (sSeq (sEx (dMet mAppend (dVar 2) (dCons (dTup (dCons (dBin opIx (dVar 3) (dC (.int 2))) (dCons (dBin opAdd (dVar 4) (dC (.int 1))) dNil))) dNil)))
    (sEx (dMet mAppend (dVar 2) (dCons (dTup (dCons (dBin opIx (dVar 3) (dC (.int 3))) (dCons (dBin opAdd (dVar 4) (dC (.int 1))) dNil))) dNil)))))))
    (sRet (dVar 1)))))
noncomputable def m__law_leaf_ways : List D → M D := bodyF 5 1 d__law_leaf_ways
theorem sc__law_leaf_ways : FnScope ["talk", "told", "line", "branch", "depth"] ["talk"] (defScope s__law_leaf_ways) := ⟨rfl, rfl, rfl, by decide +kernel, rfl, by decide +kernel, by decide +kernel⟩
theorem ok__law_leaf_ways (T : Tx P w K mg)  : DefOk P w K mg base 1 "_law_leaf_ways" 1 m__law_leaf_ways :=
  ⟨⟨_, _, def_fn (k := 0) (N := ["talk", "told", "line", "branch", "depth"]) T.f__law_leaf_ways.choose_spec sc__law_leaf_ways rfl (fun cdv A outer s H E c =>
    (s_cons (s_set (i := 1) c.nd rfl (.inl rfl) (e_lst a_nil))
    (s_cons (s_set (i := 2) c.nd rfl (.inl rfl) (e_lst (a_cons (e_tup (a_cons (e_var (pv 0)) (a_cons e_int a_nil))) a_nil)))
    (s_cons (s_while c.hp (t_cmp o_gt (e_callB c_len (by rfl) T.z_len (by decide +kernel) (a_cons (e_var (pv 2)) a_nil)) e_int (nomark _)) (s_cons (s_asg (e_met0 PySem.F.plainAttrs_list PySem.F.slot_list_pop PySem.F.type_list_pop m_pop (e_var (pv 2))) (g_tup (n := 2) c.calm (gs_cons (g_name (i := 3) c.nd rfl (.inl rfl)) (gs_cons (g_name (i := 4) c.nd rfl (.inl rfl)) gs_nil)) (gl_cons (gl_cons gl_nil))))
    (s_one (s_if (t_cmp (o_eq c.hu) (e_ix (e_var (pv 3)) e_int (fun _ _ => rfl)) e_str (nomark _)) (s_one (s_expr (e_met PySem.F.plainAttrs_list PySem.F.slot_list_append PySem.F.type_list_append m_append (e_var (pv 1)) (a_cons (e_var (pv 4)) a_nil)))) (s_cons (s_expr (e_met PySem.F.plainAttrs_list PySem.F.slot_list_append PySem.F.type_list_append m_append (e_var (pv 2)) (a_cons (e_tup (a_cons (e_ix (e_var (pv 3)) e_int (fun _ _ => rfl)) (a_cons (e_bin o_add (e_var (pv 4)) e_int) a_nil))) a_nil)))
    (s_one (s_expr (e_met PySem.F.plainAttrs_list PySem.F.slot_list_append PySem.F.type_list_append m_append (e_var (pv 2)) (a_cons (e_tup (a_cons (e_ix (e_var (pv 3)) e_int (fun _ _ => rfl)) (a_cons (e_bin o_add (e_var (pv 4)) e_int) a_nil))) a_nil)))))))))
    (s_one (s_ret (e_var (pv 1)))))))), T.f__law_leaf_ways.choose_spec.bindsN (fun _ _ _ _ _ _ us hl => match us, hl with | [_], _ => rfl)⟩, T.g__law_leaf_ways, T.f__law_leaf_ways.choose_spec.kp, body_len (N := ["talk", "told", "line", "branch", "depth"])⟩
/-! ### _law_idled -/
abbrev s__law_idled : Stmt := topS 33
abbrev NN__law_idled : List Str := ["source", "talk", "rows", "columns", "many", "turn", "above", "branch", "stray", "word", "lines", "style", "node", "side", "at"]
noncomputable def d__law_idled : Sf :=
  (sSeq (sFor (iRg1 (dCons (dCall m__law_pick (dCons (dVar 0) (dCons (dC (.int 7)) dNil))) dNil)) (gNm 5) (sSeq (sSet 6 (dCall m__law_way_down (dCons (dVar 0) (dCons (dVar 1) dNil))))
    (sSeq (sSet 7 (dIf (S.tCmp opGt (dFun (f1 opLen) (dCons (dVar 6) dNil)) (dC (.int 0))) (dBin opIx (dBin opIx (dBin opIx (dVar 6) (dUn opNeg (dC (.int 1)))) (dC (.int 0))) (dBin opIx (dBin opIx (dVar 6) (dUn opNeg (dC (.int 1)))) (dC (.int 1)))) (dVar 1)))
    (sSeq (sSet 8 (dTup (dCons (dC (.str (Str.ofString "tell"))) (dCons (dCall m__law_pick (dCons (dVar 0) (dCons (dVar 4) dNil))) dNil))))
    (sSeq (sAs (gTp (gsCons (gNm 9) (gsCons (gNm 10) gsNil))) (dBin opIx (dLst (dCons (dTup (dCons (dC (.str (Str.ofString "row"))) (dCons (dVar 2) dNil))) (dCons (dTup (dCons (dC (.str (Str.ofString "column"))) (dCons (dVar 3) dNil))) dNil))) (dCall m__law_pick (dCons (dVar 0) (dCons (dC (.int 2)) dNil)))))
    (sSeq (sSet 11 (dCall m__law_pick (dCons (dVar 0) (dCons (dC (.int 4)) dNil))))
    (sSeq (sIf (S.tOr (S.tCmp opEq (dVar 11) (dC (.int 0))) (S.tCmp opEq (dFun (f1 opLen) (dCons (dVar 6) dNil)) (dC (.int 0)))) (sSet 7 (dTup (dCons (dVar 9) (dCons (dTup dNil) (dCons (dVar 8) (dCons (dVar 7) dNil)))))) (sIf (S.tCmp opEq (dVar 11) (dC (.int 1))) (sSet 7 (dTup (dCons (dVar 9) (dCons (dFun (f1 opTuple) (dCons (dLc [14] (iRg1 (dCons (dVar 10) dNil)) (gNm 14) S.tYes (dVar 14)) dNil)) (dCons (dVar 7) (dCons (dVar 8) dNil)))))) (sSeq (sAs (gTp (gsCons (gNm 12) (gsCons (gNm 13) gsNil))) (dBin opIx (dVar 6) (dCall m__law_pick (dCons (dVar 0) (dCons (dFun (f1 opLen) (dCons (dVar 6) dNil)) dNil)))))
    (sSet 7 (dIf (S.tCmp opEq (dVar 13) (dC (.int 2))) (dTup (dCons (dBin opIx (dVar 12) (dC (.int 0))) (dCons (dBin opIx (dVar 12) (dC (.int 1))) (dCons (dVar 7) (dCons (dVar 8) dNil))))) (dTup (dCons (dBin opIx (dVar 12) (dC (.int 0))) (dCons (dBin opIx (dVar 12) (dC (.int 1))) (dCons (dVar 8) (dCons (dVar 7) dNil))))))))))
    (sSet 1 (dCall m__law_put (dCons (dVar 6) (dCons (dVar 7) dNil)))))))))))
    (sRet (dVar 1)))
noncomputable def m__law_idled : List D → M D := bodyF 15 5 d__law_idled
theorem sc__law_idled : FnScope ["source", "talk", "rows", "columns", "many", "turn", "above", "branch", "stray", "word", "lines", "style", "node", "side", "at"] ["source", "talk", "rows", "columns", "many"] (defScope s__law_idled) := ⟨rfl, rfl, rfl, by decide +kernel, rfl, by decide +kernel, by decide +kernel⟩
theorem ok__law_idled (T : Tx P w K mg) (o__law_pick : DefOk P w K mg base 1 "_law_pick" 2 (m__law_pick)) (o__law_put : DefOk P w K mg base 1 "_law_put" 2 (m__law_put)) (o__law_way_down : DefOk P w K mg base 2 "_law_way_down" 2 (m__law_way_down)) : DefOk P w K mg base 3 "_law_idled" 5 m__law_idled :=
  ⟨⟨_, _, def_fn (k := 2) (N := ["source", "talk", "rows", "columns", "many", "turn", "above", "branch", "stray", "word", "lines", "style", "node", "side", "at"]) T.f__law_idled.choose_spec sc__law_idled rfl (fun cdv A outer s H E c =>
    (s_cons (s_for c.hp c.calm (i_rg1 (by rfl) T.z_range (a_cons (e_call o__law_pick c (by omega) rfl (a_cons (e_var (pv 0)) (a_cons e_int a_nil))) a_nil)) (g_name (i := 5) c.nd rfl (.inl rfl)) (s_cons (s_set (i := 6) c.nd rfl (.inl rfl) (e_call o__law_way_down c (by omega) rfl (a_cons (e_var (pv 0)) (a_cons (e_var (pv 1)) a_nil))))
    (s_cons (s_set (i := 7) c.nd rfl (.inl rfl) (e_ifExp (t_cmp o_gt (e_callB c_len (by rfl) T.z_len (by decide +kernel) (a_cons (e_var (pv 6)) a_nil)) e_int (nomark _)) (e_ix (e_ix (e_ix (e_var (pv 6)) (e_neg e_int) (fun _ _ => rfl)) e_int (fun _ _ => rfl)) (e_ix (e_ix (e_var (pv 6)) (e_neg e_int) (fun _ _ => rfl)) e_int (fun _ _ => rfl)) (fun _ _ => rfl)) (e_var (pv 1))))
    (s_cons (s_set (i := 8) c.nd rfl (.inl rfl) (e_tup (a_cons e_str (a_cons (e_call o__law_pick c (by omega) rfl (a_cons (e_var (pv 0)) (a_cons (e_var (pv 4)) a_nil))) a_nil))))
    (s_cons (s_asg (e_ix (e_lst (a_cons (e_tup (a_cons e_str (a_cons (e_var (pv 2)) a_nil))) (a_cons (e_tup (a_cons e_str (a_cons (e_var (pv 3)) a_nil))) a_nil))) (e_call o__law_pick c (by omega) rfl (a_cons (e_var (pv 0)) (a_cons e_int a_nil))) (fun _ _ => rfl)) (g_tup (n := 2) c.calm (gs_cons (g_name (i := 9) c.nd rfl (.inl rfl)) (gs_cons (g_name (i := 10) c.nd rfl (.inl rfl)) gs_nil)) (gl_cons (gl_cons gl_nil))))
    (s_cons (s_set (i := 11) c.nd rfl (.inl rfl) (e_call o__law_pick c (by omega) rfl (a_cons (e_var (pv 0)) (a_cons e_int a_nil))))
    (s_cons (s_if (PW.pt (w_or (t_cmp (o_eq c.hu) (e_var (pv 11)) e_int (nomark _)) (w_or1 (t_cmp (o_eq c.hu) (e_callB c_len (by rfl) T.z_len (by decide +kernel) (a_cons (e_var (pv 6)) a_nil)) e_int (nomark _))))) (s_one (s_set (i := 7) c.nd rfl (.inl rfl) (e_tup (a_cons (e_var (pv 9)) (a_cons (e_tup a_nil) (a_cons (e_var (pv 8)) (a_cons (e_var (pv 7)) a_nil))))))) (s_one (s_if (t_cmp (o_eq c.hu) (e_var (pv 11)) e_int (nomark _)) (s_one (s_set (i := 7) c.nd rfl (.inl rfl) (e_tup (a_cons (e_var (pv 9)) (a_cons (e_callTy c_tuple (by rfl) T.z_tuple (by decide +kernel) (a_cons (e_lcC (own := [("at", 14)]) c (i_rg1 (by rfl) T.z_range (a_cons (e_var (pv 10)) a_nil)) (blkOk_by (N := NN__law_idled) (sc := defScope s__law_idled) (by decide +kernel)) (tg_nm (by decide)) (fun _ _ _ _ _ c => pg_name (i := 14) c.nd rfl (.inl rfl)) (fun _ _ _ _ _ c => ts_nil) (fun _ _ _ _ _ c => (e_var (pv 14)))) a_nil)) (a_cons (e_var (pv 7)) (a_cons (e_var (pv 8)) a_nil))))))) (s_cons (s_asg (e_ix (e_var (pv 6)) (e_call o__law_pick c (by omega) rfl (a_cons (e_var (pv 0)) (a_cons (e_callB c_len (by rfl) T.z_len (by decide +kernel) (a_cons (e_var (pv 6)) a_nil)) a_nil))) (fun _ _ => rfl)) (g_tup (n := 2) c.calm (gs_cons (g_name (i := 12) c.nd rfl (.inl rfl)) (gs_cons (g_name (i := 13) c.nd rfl (.inl rfl)) gs_nil)) (gl_cons (gl_cons gl_nil))))
    (s_one (s_set (i := 7) c.nd rfl (.inl rfl) (e_ifExp (t_cmp (o_eq c.hu) (e_var (pv 13)) e_int (nomark _)) (e_tup (a_cons (e_ix (e_var (pv 12)) e_int (fun _ _ => rfl)) (a_cons (e_ix (e_var (pv 12)) e_int (fun _ _ => rfl)) (a_cons (e_var (pv 7)) (a_cons (e_var (pv 8)) a_nil))))) (e_tup (a_cons (e_ix (e_var (pv 12)) e_int (fun _ _ => rfl)) (a_cons (e_ix (e_var (pv 12)) e_int (fun _ _ => rfl)) (a_cons (e_var (pv 8)) (a_cons (e_var (pv 7)) a_nil))))))))))))
    (s_one (s_set (i := 1) c.nd rfl (.inl rfl) (e_call o__law_put c (by omega) rfl (a_cons (e_var (pv 6)) (a_cons (e_var (pv 7)) a_nil))))))))))))
    (s_one (s_ret (e_var (pv 1)))))), T.f__law_idled.choose_spec.bindsN (fun _ _ _ _ _ _ us hl => match us, hl with | [_, _, _, _, _], _ => rfl)⟩, T.g__law_idled, T.f__law_idled.choose_spec.kp, body_len (N := ["source", "talk", "rows", "columns", "many", "turn", "above", "branch", "stray", "word", "lines", "style", "node", "side", "at"])⟩
/-! ### _law_due -/
abbrev s__law_due : Stmt := topS 34
abbrev NN__law_due : List Str := ["talk", "rows", "columns", "heard", "met", "row", "column", "told", "bits", "at", "due", "place", "left"]
noncomputable def d__law_due : Sf :=
  (sSeq (sSet 3 (dNew true))
    (sSeq (sSet 4 (dNew true))
    (sSeq (sFor (iRg1 (dCons (dVar 1) dNil)) (gNm 5) (sFor (iRg1 (dCons (dVar 2) dNil)) (gNm 6) (sSeq (sAs (gTp (gsCons (gNm 7) (gsCons (gNm 8) gsNil))) (dCall m__law_heard (dCons (dVar 0) (dCons (dVar 5) (dCons (dVar 6) dNil)))))
    (sSeq (sDput (dVar 3) (dTup (dCons (dVar 5) (dCons (dVar 6) dNil))) (dTup (dCons (dVar 7) (dCons (dFun (f1 opTuple) (dCons (dVar 8) dNil)) dNil))))
    (sFor (iRg1 (dCons (dBin opAdd (dFun (f1 opLen) (dCons (dVar 8) dNil)) (dC (.int 1))) dNil)) (gNm 9) (sDput (dVar 4) (dFun (f1 opTuple) (dCons (dSl (dVar 8) dNo (dPart (dVar 9))) dNil)) (dC (.bl true))))))))
    (sSeq (sSet 10 (dNew true))
    (sSeq (sForD 3 (gNm 11) (sSeq (sAs (gTp (gsCons (gNm 7) (gsCons (gNm 8) gsNil))) (dBin opDix (dVar 3) (dVar 11)))
    (sSeq (sSet 12 (dLc [9] (iRg1 (dCons (dFun (f1 opLen) (dCons (dVar 8) dNil)) dNil)) (gNm 9) (S.tCmp (opDin true) (dBin opAdd (dSl (dVar 8) dNo (dPart (dVar 9))) (dTup (dCons (dBin opSub (dC (.int 1)) (dBin opIx (dVar 8) (dVar 9))) dNil))) (dVar 4)) (dBin opIx (dVar 8) (dVar 9))))
    (sDput (dVar 10) (dVar 11) (dTup (dCons (dVar 7) (dCons (dFun (f1 opTuple) (dCons (dVar 12) dNil)) dNil)))))))
    (sRet (dVar 10)))))))
noncomputable def m__law_due : List D → M D := bodyF 13 3 d__law_due
theorem sc__law_due : FnScope ["talk", "rows", "columns", "heard", "met", "row", "column", "told", "bits", "at", "due", "place", "left"] ["talk", "rows", "columns"] (defScope s__law_due) := ⟨rfl, rfl, rfl, by decide +kernel, rfl, by decide +kernel, by decide +kernel⟩
theorem ok__law_due (T : Tx P w K mg) (o__law_heard : DefOk P w K mg base 1 "_law_heard" 3 (m__law_heard)) : DefOk P w K mg base 2 "_law_due" 3 m__law_due :=
  ⟨⟨_, _, def_fn (k := 1) (N := ["talk", "rows", "columns", "heard", "met", "row", "column", "told", "bits", "at", "due", "place", "left"]) T.f__law_due.choose_spec sc__law_due rfl (fun cdv A outer s H E c =>
    (s_cons (s_set (i := 3) c.nd rfl (.inl rfl) e_dnewT)
    (s_cons (s_set (i := 4) c.nd rfl (.inr rfl) e_dnewT)
    (s_cons (s_for c.hp c.calm (i_rg1 (by rfl) T.z_range (a_cons (e_var (pv 1)) a_nil)) (g_name (i := 5) c.nd rfl (.inl rfl)) (s_one (s_for c.hp c.calm (i_rg1 (by rfl) T.z_range (a_cons (e_var (pv 2)) a_nil)) (g_name (i := 6) c.nd rfl (.inl rfl)) (s_cons (s_asg (e_call o__law_heard c (by omega) rfl (a_cons (e_var (pv 0)) (a_cons (e_var (pv 5)) (a_cons (e_var (pv 6)) a_nil)))) (g_tup (n := 2) c.calm (gs_cons (g_name (i := 7) c.nd rfl (.inl rfl)) (gs_cons (g_name (i := 8) c.nd rfl (.inr rfl)) gs_nil)) (gl_cons (gl_cons gl_nil))))
    (s_cons (s_dput c (e_var (pv 3)) (e_tup (a_cons (e_var (pv 5)) (a_cons (e_var (pv 6)) a_nil))) (e_tup (a_cons (e_var (pv 7)) (a_cons (e_callTy c_tuple (by rfl) T.z_tuple (by decide +kernel) (a_cons (e_var (pv 8)) a_nil)) a_nil))))
    (s_one (s_for c.hp c.calm (i_rg1 (by rfl) T.z_range (a_cons (e_bin o_add (e_callB c_len (by rfl) T.z_len (by decide +kernel) (a_cons (e_var (pv 8)) a_nil)) e_int) a_nil)) (g_name (i := 9) c.nd rfl (.inl rfl)) (s_one (s_dput c (e_var (pv 4)) (e_callTy c_tuple (by rfl) T.z_tuple (by decide +kernel) (a_cons (e_sl (e_var (pv 8)) p_no (p_so (e_var (pv 9)))) a_nil)) e_bl)))))))))
    (s_cons (s_set (i := 10) c.nd rfl (.inl rfl) e_dnewT)
    (s_cons (s_forD c (pv 3) (g_name (i := 11) c.nd rfl (.inl rfl)) (s_cons (s_asg (e_dix c (e_var (pv 3)) (e_var (pv 11)) (fun _ _ => rfl)) (g_tup (n := 2) c.calm (gs_cons (g_name (i := 7) c.nd rfl (.inl rfl)) (gs_cons (g_name (i := 8) c.nd rfl (.inr rfl)) gs_nil)) (gl_cons (gl_cons gl_nil))))
    (s_cons (s_lcC (i := 12) (own := [("at", 9)]) c rfl rfl (sw_true rfl rfl rfl (by decide +kernel)) (i_rg1 (by rfl) T.z_range (a_cons (e_callB c_len (by rfl) T.z_len (by decide +kernel) (a_cons (e_var (pv 8)) a_nil)) a_nil)) (blkOk_by (N := NN__law_due) (sc := defScope s__law_due) (by decide +kernel)) (tg_nm (by decide)) (fun _ _ _ _ _ c => pg_name (i := 9) c.nd rfl (.inl rfl)) (fun _ _ _ _ _ c => ts_one (t_din c (e_bin o_add (e_sl (e_var (pv 8)) p_no (p_so (e_var (pv 9)))) (e_tup (a_cons (e_bin o_sub e_int (e_ix (e_var (pv 8)) (e_var (pv 9)) (fun _ _ => rfl))) a_nil))) (e_var (pv 4)))) (fun _ _ _ _ _ c => (e_ix (e_var (pv 8)) (e_var (pv 9)) (fun _ _ => rfl))))
    (s_one (s_dput c (e_var (pv 10)) (e_var (pv 11)) (e_tup (a_cons (e_var (pv 7)) (a_cons (e_callTy c_tuple (by rfl) T.z_tuple (by decide +kernel) (a_cons (e_var (pv 12)) a_nil)) a_nil))))))))
    (s_one (s_ret (e_var (pv 10)))))))))), T.f__law_due.choose_spec.bindsN (fun _ _ _ _ _ _ us hl => match us, hl with | [_, _, _], _ => rfl)⟩, T.g__law_due, T.f__law_due.choose_spec.kp, body_len (N := ["talk", "rows", "columns", "heard", "met", "row", "column", "told", "bits", "at", "due", "place", "left"])⟩
/-! ### _law_pruned_right -/
abbrev s__law_pruned_right : Stmt := topS 35
abbrev NN__law_pruned_right : List Str := ["talk", "rows", "columns", "told", "due", "ways", "row", "column", "own", "bits", "lengths", "ahead"]
noncomputable def d__law_pruned_right : Sf :=
  (sSeq (sSet 3 (dCall m_pruned (dCons (dVar 0) (dCons (dVar 1) (dCons (dVar 2) dNil)))))
    (sSeq (sIf (S.tNot (tV (dCall m__law_is_talk (dCons (dVar 3) (dCons (dVar 1) (dCons (dVar 2) dNil)))))) (sRet (dC (.bl false))) sSkip)
    (sSeq (sSet 4 (dCall m__law_due (dCons (dVar 0) (dCons (dVar 1) (dCons (dVar 2) dNil)))))
    (sSeq (sSet 5 (dNew true))
    (sSeq (sFor (iRg1 (dCons (dVar 1) dNil)) (gNm 6) (sFor (iRg1 (dCons (dVar 2) dNil)) (gNm 7) (sSeq (sAs (gTp (gsCons (gNm 8) (gsCons (gNm 9) gsNil))) (dCall m__law_heard (dCons (dVar 3) (dCons (dVar 6) (dCons (dVar 7) dNil)))))
    (sSeq (sIf (S.tCmp opNe (dTup (dCons (dVar 8) (dCons (dFun (f1 opTuple) (dCons (dVar 9) dNil)) dNil))) (dBin opDix (dVar 4) (dTup (dCons (dVar 6) (dCons (dVar 7) dNil))))) (sRet (dC (.bl false))) sSkip)
    (sDput (dVar 5) (dFun (f1 opTuple) (dCons (dVar 9) dNil)) (dC (.bl true)))))))
    (sSeq (sSet 10 (dCall m__law_leaf_ways (dCons (dVar 3) dNil)))
    (sSeq (sSet 11 (dCall m__law_leaf_ways (dCons (dVar 0) dNil)))
    (sSeq (sIf (S.tOr (S.tCmp opNe (dFun (f1 opLen) (dCons (dVar 10) dNil)) (dFun (f1 opLen) (dCons (dVar 5) dNil))) (S.tCmp opGt (dFun (f1 opMaxL) (dCons (dVar 10) dNil)) (dFun (f1 opMaxL) (dCons (dVar 11) dNil)))) (sRet (dC (.bl false))) sSkip)
    (sSeq (sIf (S.tOr (S.tCmp opNe (dCall m_leaves_of (dCons (dVar 3) dNil)) (dFun (f1 opLen) (dCons (dVar 5) dNil))) (S.tOr (S.tCmp opNe (dCall m_depth_of (dCons (dVar 3) dNil)) (dFun (f1 opMaxL) (dCons (dVar 10) dNil))) (S.tCmp opNe (dCall m_pruned (dCons (dVar 3) (dCons (dVar 1) (dCons (dVar 2) dNil)))) (dVar 3)))) (sRet (dC (.bl false))) sSkip)
    (sRet (dOr (dBin opGt (dFun (f1 opLen) (dCons (dVar 11) dNil)) (dFun (f1 opLen) (dCons (dVar 5) dNil))) (dBin opEq (dVar 3) (dVar 0)))))))))))))
noncomputable def m__law_pruned_right : List D → M D := bodyF 12 3 d__law_pruned_right
theorem sc__law_pruned_right : FnScope ["talk", "rows", "columns", "told", "due", "ways", "row", "column", "own", "bits", "lengths", "ahead"] ["talk", "rows", "columns"] (defScope s__law_pruned_right) := ⟨rfl, rfl, rfl, by decide +kernel, rfl, by decide +kernel, by decide +kernel⟩
theorem ok__law_pruned_right (T : Tx P w K mg) (o__law_due : DefOk P w K mg base 2 "_law_due" 3 (m__law_due)) (o__law_heard : DefOk P w K mg base 1 "_law_heard" 3 (m__law_heard)) (o__law_is_talk : DefOk P w K mg base 2 "_law_is_talk" 3 (m__law_is_talk)) (o__law_leaf_ways : DefOk P w K mg base 1 "_law_leaf_ways" 1 (m__law_leaf_ways)) (o_depth_of : DefOk P w K mg base 1 "depth_of" 1 (m_depth_of)) (o_leaves_of : DefOk P w K mg base 1 "leaves_of" 1 (m_leaves_of)) (o_pruned : DefOk P w K mg base 67 "pruned" 3 (m_pruned)) : DefOk P w K mg base 68 "_law_pruned_right" 3 m__law_pruned_right :=
  ⟨⟨_, _, def_fn (k := 67) (N := ["talk", "rows", "columns", "told", "due", "ways", "row", "column", "own", "bits", "lengths", "ahead"]) T.f__law_pruned_right.choose_spec sc__law_pruned_right rfl (fun cdv A outer s H E c =>
    (s_cons (s_set (i := 3) c.nd rfl (.inl rfl) (e_call o_pruned c (by omega) rfl (a_cons (e_var (pv 0)) (a_cons (e_var (pv 1)) (a_cons (e_var (pv 2)) a_nil)))))
    (s_cons (s_if (t_not (t_val (e_call o__law_is_talk c (by omega) rfl (a_cons (e_var (pv 3)) (a_cons (e_var (pv 1)) (a_cons (e_var (pv 2)) a_nil)))))) (s_one (s_ret e_bl)) s_nil)
    (s_cons (s_set (i := 4) c.nd rfl (.inl rfl) (e_call o__law_due c (by omega) rfl (a_cons (e_var (pv 0)) (a_cons (e_var (pv 1)) (a_cons (e_var (pv 2)) a_nil)))))
    (s_cons (s_set (i := 5) c.nd rfl (.inl rfl) e_dnewT)
    (s_cons (s_for c.hp c.calm (i_rg1 (by rfl) T.z_range (a_cons (e_var (pv 1)) a_nil)) (g_name (i := 6) c.nd rfl (.inl rfl)) (s_one (s_for c.hp c.calm (i_rg1 (by rfl) T.z_range (a_cons (e_var (pv 2)) a_nil)) (g_name (i := 7) c.nd rfl (.inl rfl)) (s_cons (s_asg (e_call o__law_heard c (by omega) rfl (a_cons (e_var (pv 3)) (a_cons (e_var (pv 6)) (a_cons (e_var (pv 7)) a_nil)))) (g_tup (n := 2) c.calm (gs_cons (g_name (i := 8) c.nd rfl (.inl rfl)) (gs_cons (g_name (i := 9) c.nd rfl (.inl rfl)) gs_nil)) (gl_cons (gl_cons gl_nil))))
    (s_cons (s_if (t_cmp (o_ne c.hu) (e_tup (a_cons (e_var (pv 8)) (a_cons (e_callTy c_tuple (by rfl) T.z_tuple (by decide +kernel) (a_cons (e_var (pv 9)) a_nil)) a_nil))) (e_dix c (e_var (pv 4)) (e_tup (a_cons (e_var (pv 6)) (a_cons (e_var (pv 7)) a_nil))) (fun _ _ => rfl)) (nomark _)) (s_one (s_ret e_bl)) s_nil)
    (s_one (s_dput c (e_var (pv 5)) (e_callTy c_tuple (by rfl) T.z_tuple (by decide +kernel) (a_cons (e_var (pv 9)) a_nil)) e_bl)))))))
    (s_cons (s_set (i := 10) c.nd rfl (.inl rfl) (e_call o__law_leaf_ways c (by omega) rfl (a_cons (e_var (pv 3)) a_nil)))
    (s_cons (s_set (i := 11) c.nd rfl (.inl rfl) (e_call o__law_leaf_ways c (by omega) rfl (a_cons (e_var (pv 0)) a_nil)))
    (s_cons (s_if (PW.pt (w_or (t_cmp (o_ne c.hu) (e_callB c_len (by rfl) T.z_len (by decide +kernel) (a_cons (e_var (pv 10)) a_nil)) (e_callB c_len (by rfl) T.z_len (by decide +kernel) (a_cons (e_var (pv 5)) a_nil)) (nomark _)) (w_or1 (t_cmp o_gt (e_callB (c_maxL c.calm) (by rfl) T.z_max (by decide +kernel) (a_cons (e_var (pv 10)) a_nil)) (e_callB (c_maxL c.calm) (by rfl) T.z_max (by decide +kernel) (a_cons (e_var (pv 11)) a_nil)) (nomark _))))) (s_one (s_ret e_bl)) s_nil)
    (s_cons (s_if (PW.pt (w_or (t_cmp (o_ne c.hu) (e_call o_leaves_of c (by omega) rfl (a_cons (e_var (pv 3)) a_nil)) (e_callB c_len (by rfl) T.z_len (by decide +kernel) (a_cons (e_var (pv 5)) a_nil)) (nomark _)) (w_or (t_cmp (o_ne c.hu) (e_call o_depth_of c (by omega) rfl (a_cons (e_var (pv 3)) a_nil)) (e_callB (c_maxL c.calm) (by rfl) T.z_max (by decide +kernel) (a_cons (e_var (pv 10)) a_nil)) (nomark _)) (w_or1 (t_cmp (o_ne c.hu) (e_call o_pruned c (by omega) rfl (a_cons (e_var (pv 3)) (a_cons (e_var (pv 1)) (a_cons (e_var (pv 2)) a_nil)))) (e_var (pv 3)) (nomark _)))))) (s_one (s_ret e_bl)) s_nil)
    (s_one (s_ret (e_or (e_cmp o_gt (e_callB c_len (by rfl) T.z_len (by decide +kernel) (a_cons (e_var (pv 11)) a_nil)) (e_callB c_len (by rfl) T.z_len (by decide +kernel) (a_cons (e_var (pv 5)) a_nil)) (nomark _)) (e_one (e_cmp (o_eq c.hu) (e_var (pv 3)) (e_var (pv 0)) (nomark _)))))))))))))))), T.f__law_pruned_right.choose_spec.bindsN (fun _ _ _ _ _ _ us hl => match us, hl with | [_, _, _], _ => rfl)⟩, T.g__law_pruned_right, T.f__law_pruned_right.choose_spec.kp, body_len (N := ["talk", "rows", "columns", "told", "due", "ways", "row", "column", "own", "bits", "lengths", "ahead"])⟩
/-! ### _law_refused -/
abbrev s__law_refused : Stmt := topS 36
abbrev NN__law_refused : List Str := ["talk", "rows", "columns", "refused"]
noncomputable def d__law_refused : Sf :=
  (sSeq (sTry [((Str.ofString "TalkError"), some 3, fun a dx cx => (sSeq (sIf (S.tOr (tV (dUn (opIsX a dx cx [(Str.ofString "BadText")]) (dVar 3))) (S.tOr (tV (dUn (opIsX a dx cx [(Str.ofString "TooMany")]) (dVar 3))) (tV (dUn (opIsX a dx cx [(Str.ofString "Unlike")]) (dVar 3))))) (sRet (dTup (dCons (dC (.str (Str.ofString "other"))) dNil))) sSkip)
    (sSeq (sIf (S.tOr (tV (dUn (opIsX a dx cx [(Str.ofString "Unknown")]) (dVar 3))) (tV (dUn (opIsX a dx cx [(Str.ofString "BadPaper")]) (dVar 3)))) (sRet (dTup (dCons (dC (.str (Str.ofString "other"))) dNil))) sSkip)
    (sSeq (sIf (S.tAnd (tV (dUn (opIsX a dx cx [(Str.ofString "BadValue")]) (dVar 3))) (tV (dUn (opIsX a dx cx ["ValueError"]) (dVar 3)))) (sRet (dTup (dCons (dC (.str (Str.ofString "value"))) (dCons (dUn (opFldX a dx cx (Str.ofString "what")) (dVar 3)) dNil)))) sSkip)
    (sRet (dTup (dCons (dC (.str (Str.ofString "other"))) dNil)))))))] (sEx (dCall m_pruned (dCons (dVar 0) (dCons (dVar 1) (dCons (dVar 2) dNil))))))
    (sRet (dTup dNil)))
noncomputable def m__law_refused : List D → M D := bodyF 4 3 d__law_refused
theorem sc__law_refused : FnScope ["talk", "rows", "columns", "refused"] ["talk", "rows", "columns"] (defScope s__law_refused) := ⟨rfl, rfl, rfl, by decide +kernel, rfl, by decide +kernel, by decide +kernel⟩
theorem ok__law_refused (T : Tx P w K mg) (o_pruned : DefOk P w K mg base 67 "pruned" 3 (m_pruned)) : DefOk P w K mg base 68 "_law_refused" 3 m__law_refused :=
  ⟨⟨_, _, def_fn (k := 67) (N := ["talk", "rows", "columns", "refused"]) T.f__law_refused.choose_spec sc__law_refused rfl (fun cdv A outer s H E c =>
    (s_cons (s_try T.xcl rfl rfl c (fun _ _ _ c => (s_one (s_expr (e_call o_pruned c (by omega) rfl (a_cons (e_var (pv 0)) (a_cons (e_var (pv 1)) (a_cons (e_var (pv 2)) a_nil))))))) (cl_named (i := 3) c.nd rfl rfl rfl rfl T.c_TalkError (fun a oe cx dx pn hc hz hf => (s_cons (s_if (PW.pt (w_or (t_val (e_isX T.xcl hc hz hf rfl T.z_isinstance rfl T.c_BadText (by decide) (e_var (pv 3)))) (w_or (t_val (e_isX T.xcl hc hz hf rfl T.z_isinstance rfl T.c_TooMany (by decide) (e_var (pv 3)))) (w_or1 (t_val (e_isX T.xcl hc hz hf rfl T.z_isinstance rfl T.c_Unlike (by decide) (e_var (pv 3)))))))) (s_one (s_ret (e_tup (a_cons e_str a_nil)))) s_nil)
    (s_cons (s_if (PW.pt (w_or (t_val (e_isX T.xcl hc hz hf rfl T.z_isinstance rfl T.c_Unknown (by decide) (e_var (pv 3)))) (w_or1 (t_val (e_isX T.xcl hc hz hf rfl T.z_isinstance rfl T.c_BadPaper (by decide) (e_var (pv 3))))))) (s_one (s_ret (e_tup (a_cons e_str a_nil)))) s_nil)
    (s_cons (s_if (PW.pt (w_and (t_val (e_isX T.xcl hc hz hf rfl T.z_isinstance rfl T.c_BadValue (by decide) (e_var (pv 3)))) (w_and1 (t_val (e_isXV T.xcl hc hz hf rfl T.z_isinstance rfl T.z_ValueError (e_var (pv 3))))))) (s_one (s_ret (e_tup (a_cons e_str (a_cons (e_fldX T.xcl hc hz hf (by decide) (e_var (pv 3))) a_nil))))) s_nil)
    (s_one (s_ret (e_tup (a_cons e_str a_nil)))))))) .nil))
    (s_one (s_ret (e_tup a_nil))))), T.f__law_refused.choose_spec.bindsN (fun _ _ _ _ _ _ us hl => match us, hl with | [_, _, _], _ => rfl)⟩, T.g__law_refused, T.f__law_refused.choose_spec.kp, body_len (N := ["talk", "rows", "columns", "refused"])⟩
/-! ### _law_refusals_right -/
abbrev s__law_refusals_right : Stmt := topS 37
abbrev NN__law_refusals_right : List Str := ["source", "talk", "rows", "columns", "leaf", "wrong", "right", "above", "piece"]
noncomputable def d__law_refusals_right : Sf :=
  (sSeq (sSet 4 (dTup (dCons (dC (.str (Str.ofString "tell"))) (dCons (dC (.int 0)) dNil))))
    (sSeq (sSet 5 (dLst (dCons (dTup (dCons (dC (.str (Str.ofString "tell"))) (dCons (dC (.int 100)) dNil))) (dCons (dTup (dCons (dC (.str (Str.ofString "tell"))) (dCons (dBin opSub (dC (.int 0)) (dC (.int 1))) dNil))) (dCons (dTup (dCons (dC (.str (Str.ofString "tell"))) (dCons (dC (.str (Str.ofString "0"))) dNil))) (dCons (dTup (dCons (dC (.str (Str.ofString "tell"))) dNil)) (dCons (dC .non) (dCons (dTup dNil) (dCons (dTup (dCons (dC (.str (Str.ofString "rows"))) (dCons (dTup dNil) (dCons (dVar 4) (dCons (dVar 4) dNil))))) dNil)))))))))
    (sSeq (sSet 5 (dBin opAdd (dVar 5) (dLst (dCons (dTup (dCons (dC (.str (Str.ofString "row"))) (dCons (dTup (dCons (dVar 2) dNil)) (dCons (dVar 4) (dCons (dVar 4) dNil))))) (dCons (dTup (dCons (dC (.str (Str.ofString "column"))) (dCons (dTup (dCons (dVar 3) dNil)) (dCons (dVar 4) (dCons (dVar 4) dNil))))) (dCons (dTup (dCons (dC (.str (Str.ofString "row"))) (dCons (dTup (dCons (dC (.int 0)) (dCons (dC (.int 0)) dNil))) (dCons (dVar 4) (dCons (dVar 4) dNil))))) dNil))))))
    (sSeq (sSet 5 (dBin opAdd (dVar 5) (dLst (dCons (dTup (dCons (dC (.str (Str.ofString "row"))) (dCons (dTup (dCons (dC .non) dNil)) (dCons (dVar 4) (dCons (dVar 4) dNil))))) (dCons (dTup (dCons (dC (.str (Str.ofString "column"))) (dCons (dTup (dCons (dBin opSub (dC (.int 0)) (dC (.int 1))) dNil)) (dCons (dVar 4) (dCons (dVar 4) dNil))))) (dCons (dTup (dCons (dC (.str (Str.ofString "column"))) (dCons (dC .non) (dCons (dVar 4) (dCons (dVar 4) dNil))))) dNil))))))
    (sSeq (sSet 5 (dBin opAdd (dVar 5) (dLst (dCons (dTup (dCons (dC (.str (Str.ofString "row"))) (dCons (dTup dNil) (dCons (dVar 4) dNil)))) (dCons (dTup (dCons (dC (.str (Str.ofString "column"))) (dCons (dTup dNil) (dCons (dVar 4) (dCons (dVar 4) (dCons (dVar 4) dNil)))))) dNil)))))
    (sSeq (sSet 6 (dLst (dCons (dTup (dCons (dC (.str (Str.ofString "tell"))) (dCons (dC (.int 99)) dNil))) (dCons (dVar 4) (dCons (dTup (dCons (dC (.str (Str.ofString "row"))) (dCons (dTup (dCons (dBin opSub (dVar 2) (dC (.int 1))) dNil)) (dCons (dVar 4) (dCons (dVar 4) dNil))))) (dCons (dTup (dCons (dC (.str (Str.ofString "column"))) (dCons (dTup (dCons (dBin opSub (dVar 3) (dC (.int 1))) dNil)) (dCons (dVar 4) (dCons (dVar 4) dNil))))) (dCons (dVar 1) dNil)))))))
    (sSeq (sSet 7 (dCall m__law_way_down (dCons (dVar 0) (dCons (dVar 1) dNil))))
    (sSeq (sFor (iLs (dVar 5)) (gNm 8) (sSeq (sIf (S.tCmp opNe (dCall m__law_refused (dCons (dVar 8) (dCons (dVar 2) (dCons (dVar 3) dNil)))) (dTup (dCons (dC (.str (Str.ofString "value"))) (dCons (dC (.str (Str.ofString "talk"))) dNil)))) (sRet (dC (.bl false))) sSkip)
    (sSeq (sIf (S.tCmp opNe (dCall m__law_refused (dCons (dCall m__law_put (dCons (dVar 7) (dCons (dVar 8) dNil))) (dCons (dVar 2) (dCons (dVar 3) dNil)))) (dTup (dCons (dC (.str (Str.ofString "value"))) (dCons (dC (.str (Str.ofString "talk"))) dNil)))) (sRet (dC (.bl false))) sSkip)
    (sIf (S.tCmp opNe (dCall m__law_refused (dCons (dTup (dCons (dC (.str (Str.ofString "row"))) (dCons (dTup dNil) (dCons (dVar 8) (dCons (dVar 1) dNil))))) (dCons (dVar 2) (dCons (dVar 3) dNil)))) (dTup (dCons (dC (.str (Str.ofString "value"))) (dCons (dC (.str (Str.ofString "talk"))) dNil)))) (sRet (dC (.bl false))) sSkip))))
    (sSeq (sFor (iLs (dVar 6)) (gNm 8) (sIf (S.tOr (S.tCmp opNe (dCall m__law_refused (dCons (dVar 8) (dCons (dVar 2) (dCons (dVar 3) dNil)))) (dTup dNil)) (S.tCmp opNe (dCall m__law_refused (dCons (dCall m__law_put (dCons (dVar 7) (dCons (dVar 8) dNil))) (dCons (dVar 2) (dCons (dVar 3) dNil)))) (dTup dNil))) (sRet (dC (.bl false))) sSkip))
    (sRet (dC (.bl true))))))))))))
noncomputable def m__law_refusals_right : List D → M D := bodyF 9 4 d__law_refusals_right
theorem sc__law_refusals_right : FnScope ["source", "talk", "rows", "columns", "leaf", "wrong", "right", "above", "piece"] ["source", "talk", "rows", "columns"] (defScope s__law_refusals_right) := ⟨rfl, rfl, rfl, by decide +kernel, rfl, by decide +kernel, by decide +kernel⟩
theorem ok__law_refusals_right (T : Tx P w K mg) (o__law_put : DefOk P w K mg base 1 "_law_put" 2 (m__law_put)) (o__law_refused : DefOk P w K mg base 68 "_law_refused" 3 (m__law_refused)) (o__law_way_down : DefOk P w K mg base 2 "_law_way_down" 2 (m__law_way_down)) : DefOk P w K mg base 69 "_law_refusals_right" 4 m__law_refusals_right :=
  ⟨⟨_, _, def_fn (k := 68) (N := ["source", "talk", "rows", "columns", "leaf", "wrong", "right", "above", "piece"]) T.f__law_refusals_right.choose_spec sc__law_refusals_right rfl (fun cdv A outer s H E c =>
    (s_cons (s_set (i := 4) c.nd rfl (.inl rfl) (e_tup (a_cons e_str (a_cons e_int a_nil))))
    (s_cons (s_set (i := 5) c.nd rfl (.inl rfl) (e_lst (a_cons (e_tup (a_cons e_str (a_cons e_int a_nil))) (a_cons (e_tup (a_cons e_str (a_cons (e_bin o_sub e_int e_int) a_nil))) (a_cons (e_tup (a_cons e_str (a_cons e_str a_nil))) (a_cons (e_tup (a_cons e_str a_nil)) (a_cons e_non (a_cons (e_tup a_nil) (a_cons (e_tup (a_cons e_str (a_cons (e_tup a_nil) (a_cons (e_var (pv 4)) (a_cons (e_var (pv 4)) a_nil))))) a_nil)))))))))
    (s_cons (s_set (i := 5) c.nd rfl (.inl rfl) (e_bin o_add (e_var (pv 5)) (e_lst (a_cons (e_tup (a_cons e_str (a_cons (e_tup (a_cons (e_var (pv 2)) a_nil)) (a_cons (e_var (pv 4)) (a_cons (e_var (pv 4)) a_nil))))) (a_cons (e_tup (a_cons e_str (a_cons (e_tup (a_cons (e_var (pv 3)) a_nil)) (a_cons (e_var (pv 4)) (a_cons (e_var (pv 4)) a_nil))))) (a_cons (e_tup (a_cons e_str (a_cons (e_tup (a_cons e_int (a_cons e_int a_nil))) (a_cons (e_var (pv 4)) (a_cons (e_var (pv 4)) a_nil))))) a_nil))))))
    (s_cons (s_set (i := 5) c.nd rfl (.inl rfl) (e_bin o_add (e_var (pv 5)) (e_lst (a_cons (e_tup (a_cons e_str (a_cons (e_tup (a_cons e_non a_nil)) (a_cons (e_var (pv 4)) (a_cons (e_var (pv 4)) a_nil))))) (a_cons (e_tup (a_cons e_str (a_cons (e_tup (a_cons (e_bin o_sub e_int e_int) a_nil)) (a_cons (e_var (pv 4)) (a_cons (e_var (pv 4)) a_nil))))) (a_cons (e_tup (a_cons e_str (a_cons e_non (a_cons (e_var (pv 4)) (a_cons (e_var (pv 4)) a_nil))))) a_nil))))))
    (s_cons (s_set (i := 5) c.nd rfl (.inl rfl) (e_bin o_add (e_var (pv 5)) (e_lst (a_cons (e_tup (a_cons e_str (a_cons (e_tup a_nil) (a_cons (e_var (pv 4)) a_nil)))) (a_cons (e_tup (a_cons e_str (a_cons (e_tup a_nil) (a_cons (e_var (pv 4)) (a_cons (e_var (pv 4)) (a_cons (e_var (pv 4)) a_nil)))))) a_nil)))))
    (s_cons (s_set (i := 6) c.nd rfl (.inl rfl) (e_lst (a_cons (e_tup (a_cons e_str (a_cons e_int a_nil))) (a_cons (e_var (pv 4)) (a_cons (e_tup (a_cons e_str (a_cons (e_tup (a_cons (e_bin o_sub (e_var (pv 2)) e_int) a_nil)) (a_cons (e_var (pv 4)) (a_cons (e_var (pv 4)) a_nil))))) (a_cons (e_tup (a_cons e_str (a_cons (e_tup (a_cons (e_bin o_sub (e_var (pv 3)) e_int) a_nil)) (a_cons (e_var (pv 4)) (a_cons (e_var (pv 4)) a_nil))))) (a_cons (e_var (pv 1)) a_nil)))))))
    (s_cons (s_set (i := 7) c.nd rfl (.inl rfl) (e_call o__law_way_down c (by omega) rfl (a_cons (e_var (pv 0)) (a_cons (e_var (pv 1)) a_nil))))
    (s_cons (s_for c.hp c.calm (i_lst (e_var (pv 5))) (g_name (i := 8) c.nd rfl (.inl rfl)) (s_cons (s_if (t_cmp (o_ne c.hu) (e_call o__law_refused c (by omega) rfl (a_cons (e_var (pv 8)) (a_cons (e_var (pv 2)) (a_cons (e_var (pv 3)) a_nil)))) (e_tup (a_cons e_str (a_cons e_str a_nil))) (nomark _)) (s_one (s_ret e_bl)) s_nil)
    (s_cons (s_if (t_cmp (o_ne c.hu) (e_call o__law_refused c (by omega) rfl (a_cons (e_call o__law_put c (by omega) rfl (a_cons (e_var (pv 7)) (a_cons (e_var (pv 8)) a_nil))) (a_cons (e_var (pv 2)) (a_cons (e_var (pv 3)) a_nil)))) (e_tup (a_cons e_str (a_cons e_str a_nil))) (nomark _)) (s_one (s_ret e_bl)) s_nil)
    (s_one (s_if (t_cmp (o_ne c.hu) (e_call o__law_refused c (by omega) rfl (a_cons (e_tup (a_cons e_str (a_cons (e_tup a_nil) (a_cons (e_var (pv 8)) (a_cons (e_var (pv 1)) a_nil))))) (a_cons (e_var (pv 2)) (a_cons (e_var (pv 3)) a_nil)))) (e_tup (a_cons e_str (a_cons e_str a_nil))) (nomark _)) (s_one (s_ret e_bl)) s_nil)))))
    (s_cons (s_for c.hp c.calm (i_lst (e_var (pv 6))) (g_name (i := 8) c.nd rfl (.inl rfl)) (s_one (s_if (PW.pt (w_or (t_cmp (o_ne c.hu) (e_call o__law_refused c (by omega) rfl (a_cons (e_var (pv 8)) (a_cons (e_var (pv 2)) (a_cons (e_var (pv 3)) a_nil)))) (e_tup a_nil) (nomark _)) (w_or1 (t_cmp (o_ne c.hu) (e_call o__law_refused c (by omega) rfl (a_cons (e_call o__law_put c (by omega) rfl (a_cons (e_var (pv 7)) (a_cons (e_var (pv 8)) a_nil))) (a_cons (e_var (pv 2)) (a_cons (e_var (pv 3)) a_nil)))) (e_tup a_nil) (nomark _))))) (s_one (s_ret e_bl)) s_nil)))
    (s_one (s_ret e_bl)))))))))))), T.f__law_refusals_right.choose_spec.bindsN (fun _ _ _ _ _ _ us hl => match us, hl with | [_, _, _, _], _ => rfl)⟩, T.g__law_refusals_right, T.f__law_refusals_right.choose_spec.kp, body_len (N := ["source", "talk", "rows", "columns", "leaf", "wrong", "right", "above", "piece"])⟩
/-! ### law -/
abbrev s_law : Stmt := topS 38
abbrev NN_law : List Str := ["script", "source", "asked", "turn", "most", "rows", "columns", "many", "talk"]
noncomputable def d_law : Sf :=
  (sSeq (sSet 1 (dCall m__law_source (dCons (dVar 0) dNil)))
    (sSeq (sSet 2 (dLst dNil))
    (sSeq (sFor (iRg1 (dCons (dC (.int 2)) dNil)) (gNm 3) (sSeq (sSet 4 (dIf (S.tCmp opEq (dCall m__law_pick (dCons (dVar 1) (dCons (dC (.int 8)) dNil))) (dC (.int 0))) (dC (.int 12)) (dC (.int 6))))
    (sSeq (sPar 5 6 (dCons (dBin opAdd (dC (.int 1)) (dCall m__law_pick (dCons (dVar 1) (dCons (dVar 4) dNil)))) (dCons (dBin opAdd (dC (.int 1)) (dCall m__law_pick (dCons (dVar 1) (dCons (dVar 4) dNil)))) dNil)))
    (sSeq (sSet 7 (dBin opIx (dLst (dCons (dC (.int 3)) (dCons (dC (.int 2)) (dCons (dC (.int 5)) (dCons (dC (.int 100)) dNil))))) (dCall m__law_pick (dCons (dVar 1) (dCons (dC (.int 4)) dNil)))))
    (sSeq (sIf (S.tCmp opEq (dCall m__law_pick (dCons (dVar 1) (dCons (dC (.int 2)) dNil))) (dC (.int 0))) (sSet 8 (dCall m__law_peeled (dCons (dVar 1) (dCons (dVar 5) (dCons (dVar 6) (dCons (dBin opAdd (dC (.int 1)) (dCall m__law_pick (dCons (dVar 1) (dCons (dC (.int 22)) dNil)))) (dCons (dVar 7) dNil))))))) (sSet 8 (dCall (m__law_talk N__law_talk) (dCons (dVar 1) (dCons (dVar 5) (dCons (dVar 6) (dCons (dC (.int 6)) (dCons (dVar 7) dNil))))))))
    (sEx (dMet mAppend (dVar 2) (dCons (dTup (dCons (dCall m__law_idled (dCons (dVar 1) (dCons (dVar 8) (dCons (dVar 5) (dCons (dVar 6) (dCons (dVar 7) dNil)))))) (dCons (dVar 5) (dCons (dVar 6) dNil)))) dNil))))))))
    (sSeq (sFor (iLs (dBin opAdd (dVar 2) (dSl (dVar 2) dNo (dPart (dC (.int 1)))))) (gTp (gsCons (gNm 8) (gsCons (gNm 5) (gsCons (gNm 6) gsNil)))) (sIf (S.tNot (tV (dCall m__law_pruned_right (dCons (dVar 8) (dCons (dVar 5) (dCons (dVar 6) dNil)))))) (sRet (dC (.bl false))) sSkip))
    (sRet (dCall m__law_refusals_right (dCons (dVar 1) (dCons (dBin opIx (dBin opIx (dVar 2) (dC (.int 1))) (dC (.int 0))) (dCons (dBin opIx (dBin opIx (dVar 2) (dC (.int 1))) (dC (.int 1))) (dCons (dBin opIx (dBin opIx (dVar 2) (dC (.int 1))) (dC (.int 2))) dNil))))))))))
noncomputable def m_law : List D → M D := bodyF 9 1 d_law
theorem sc_law : FnScope ["script", "source", "asked", "turn", "most", "rows", "columns", "many", "talk"] ["script"] (defScope s_law) := ⟨rfl, rfl, rfl, by decide +kernel, rfl, by decide +kernel, by decide +kernel⟩
theorem fn_law (T : Tx P w K mg) : ∃ fd : FuncData, (∀ (s : Shared) (u : Value), BindsTo s fd ⟨[u], []⟩ [(("script" : Str), u)]) ∧ ∀ base : Heap, FnOk P w K mg base (L2.CX P w) 70 (He.ga K "law") fd ["script"] (spF K 1 m_law) := by
  refine ⟨T.f_law.choose, fun s u => T.f_law.choose_spec.bindsA (ps := ["script"]) (fun _ _ _ _ _ _ us hl => match us, hl with | [_], _ => rfl) s [u] rfl, fun base => ?_⟩
  have o_is_count : DefOk P w K mg base 1 "is_count" 3 (m_is_count) := ok_is_count T 
  have o_is_rising : DefOk P w K mg base 2 "is_rising" 2 (m_is_rising) := ok_is_rising T o_is_count
  have o_is_talk : DefOk P w K mg base 3 "is_talk" 3 (m_is_talk) := ok_is_talk T o_is_count o_is_rising
  have o_must_be_talk : DefOk P w K mg base 4 "must_be_talk" 3 (m_must_be_talk) := ok_must_be_talk T o_is_talk
  have o_parted : DefOk P w K mg base 1 "parted" 3 (m_parted) := ok_parted T 
  have o_depth_of : DefOk P w K mg base 1 "depth_of" 1 (m_depth_of) := ok_depth_of T 
  have o_leaves_of : DefOk P w K mg base 1 "leaves_of" 1 (m_leaves_of) := ok_leaves_of T 
  have o_pruned_branch : DefOk P w K mg base 66 "pruned_branch" 3 (m_pruned_branch N_pruned_branch) := ok_pruned_branch T o_parted N_pruned_branch
  have o_pruned : DefOk P w K mg base 67 "pruned" 3 (m_pruned) := ok_pruned T o_must_be_talk o_pruned_branch
  have o__law_source : DefOk P w K mg base 1 "_law_source" 1 (m__law_source) := ok__law_source T 
  have o__law_pick : DefOk P w K mg base 1 "_law_pick" 2 (m__law_pick) := ok__law_pick T 
  have o__law_heard : DefOk P w K mg base 1 "_law_heard" 3 (m__law_heard) := ok__law_heard T 
  have o__law_is_int : DefOk P w K mg base 1 "_law_is_int" 1 (m__law_is_int) := ok__law_is_int T 
  have o__law_members : DefOk P w K mg base 2 "_law_members" 2 (m__law_members) := ok__law_members T o__law_pick
  have o__law_talk : DefOk P w K mg base 11 "_law_talk" 5 (m__law_talk N__law_talk) := ok__law_talk T o__law_members o__law_pick N__law_talk
  have o__law_peeled : DefOk P w K mg base 12 "_law_peeled" 5 (m__law_peeled) := ok__law_peeled T o__law_pick o__law_talk
  have o__law_is_talk : DefOk P w K mg base 2 "_law_is_talk" 3 (m__law_is_talk) := ok__law_is_talk T o__law_is_int
  have o__law_way_down : DefOk P w K mg base 2 "_law_way_down" 2 (m__law_way_down) := ok__law_way_down T o__law_pick
  have o__law_put : DefOk P w K mg base 1 "_law_put" 2 (m__law_put) := ok__law_put T 
  have o__law_leaf_ways : DefOk P w K mg base 1 "_law_leaf_ways" 1 (m__law_leaf_ways) := ok__law_leaf_ways T 
  have o__law_idled : DefOk P w K mg base 3 "_law_idled" 5 (m__law_idled) := ok__law_idled T o__law_pick o__law_put o__law_way_down
  have o__law_due : DefOk P w K mg base 2 "_law_due" 3 (m__law_due) := ok__law_due T o__law_heard
  have o__law_pruned_right : DefOk P w K mg base 68 "_law_pruned_right" 3 (m__law_pruned_right) := ok__law_pruned_right T o__law_due o__law_heard o__law_is_talk o__law_leaf_ways o_depth_of o_leaves_of o_pruned
  have o__law_refused : DefOk P w K mg base 68 "_law_refused" 3 (m__law_refused) := ok__law_refused T o_pruned
  have o__law_refusals_right : DefOk P w K mg base 69 "_law_refusals_right" 4 (m__law_refusals_right) := ok__law_refusals_right T o__law_put o__law_refused o__law_way_down
  exact def_fn (k := 69) (N := NN_law) T.f_law.choose_spec sc_law rfl (fun cdv A outer s H E c =>
    (s_cons (s_set (i := 1) c.nd rfl (.inl rfl) (e_call o__law_source c (by omega) rfl (a_cons (e_var (pv 0)) a_nil)))
    (s_cons (s_set (i := 2) c.nd rfl (.inl rfl) (e_lst a_nil))
    (s_cons (s_for c.hp c.calm (i_rg1 (by rfl) T.z_range (a_cons e_int a_nil)) (g_name (i := 3) c.nd rfl (.inl rfl)) (s_cons (s_set (i := 4) c.nd rfl (.inl rfl) (e_ifExp (t_cmp (o_eq c.hu) (e_call o__law_pick c (by omega) rfl (a_cons (e_var (pv 1)) (a_cons e_int a_nil))) e_int (nomark _)) e_int e_int))
    (s_cons (s_par (i := 5) (j := 6) c.calm c.nd rfl rfl (by decide) rfl rfl (a_cons (e_bin o_add e_int (e_call o__law_pick c (by omega) rfl (a_cons (e_var (pv 1)) (a_cons (e_var (pv 4)) a_nil)))) (a_cons (e_bin o_add e_int (e_call o__law_pick c (by omega) rfl (a_cons (e_var (pv 1)) (a_cons (e_var (pv 4)) a_nil)))) a_nil)) (by rfl))
    (s_cons (s_set (i := 7) c.nd rfl (.inl rfl) (e_ix (e_lst (a_cons e_int (a_cons e_int (a_cons e_int (a_cons e_int a_nil))))) (e_call o__law_pick c (by omega) rfl (a_cons (e_var (pv 1)) (a_cons e_int a_nil))) (fun _ _ => rfl)))
    (s_cons (s_if (t_cmp (o_eq c.hu) (e_call o__law_pick c (by omega) rfl (a_cons (e_var (pv 1)) (a_cons e_int a_nil))) e_int (nomark _)) (s_one (s_set (i := 8) c.nd rfl (.inl rfl) (e_call o__law_peeled c (by omega) rfl (a_cons (e_var (pv 1)) (a_cons (e_var (pv 5)) (a_cons (e_var (pv 6)) (a_cons (e_bin o_add e_int (e_call o__law_pick c (by omega) rfl (a_cons (e_var (pv 1)) (a_cons e_int a_nil)))) (a_cons (e_var (pv 7)) a_nil)))))))) (s_one (s_set (i := 8) c.nd rfl (.inl rfl) (e_call o__law_talk c (by omega) rfl (a_cons (e_var (pv 1)) (a_cons (e_var (pv 5)) (a_cons (e_var (pv 6)) (a_cons e_int (a_cons (e_var (pv 7)) a_nil)))))))))
    (s_one (s_expr (e_met PySem.F.plainAttrs_list PySem.F.slot_list_append PySem.F.type_list_append m_append (e_var (pv 2)) (a_cons (e_tup (a_cons (e_call o__law_idled c (by omega) rfl (a_cons (e_var (pv 1)) (a_cons (e_var (pv 8)) (a_cons (e_var (pv 5)) (a_cons (e_var (pv 6)) (a_cons (e_var (pv 7)) a_nil)))))) (a_cons (e_var (pv 5)) (a_cons (e_var (pv 6)) a_nil)))) a_nil)))))))))
    (s_cons (s_for c.hp c.calm (i_lst (e_bin o_add (e_var (pv 2)) (e_sl (e_var (pv 2)) p_no (p_so e_int)))) (g_tup (n := 3) c.calm (gs_cons (g_name (i := 8) c.nd rfl (.inl rfl)) (gs_cons (g_name (i := 5) c.nd rfl (.inl rfl)) (gs_cons (g_name (i := 6) c.nd rfl (.inl rfl)) gs_nil))) (gl_cons (gl_cons (gl_cons gl_nil)))) (s_one (s_if (t_not (t_val (e_call o__law_pruned_right c (by omega) rfl (a_cons (e_var (pv 8)) (a_cons (e_var (pv 5)) (a_cons (e_var (pv 6)) a_nil)))))) (s_one (s_ret e_bl)) s_nil)))
    (s_one (s_ret (e_call o__law_refusals_right c (by omega) rfl (a_cons (e_var (pv 1)) (a_cons (e_ix (e_ix (e_var (pv 2)) e_int (fun _ _ => rfl)) e_int (fun _ _ => rfl)) (a_cons (e_ix (e_ix (e_var (pv 2)) e_int (fun _ _ => rfl)) e_int (fun _ _ => rfl)) (a_cons (e_ix (e_ix (e_var (pv 2)) e_int (fun _ _ => rfl)) e_int (fun _ _ => rfl)) a_nil))))))))))))
end
/-! ### the head -/
def fa : List He.Fa := [.glo "is_count", .glo "is_rising", .glo "is_talk", .glo "must_be_talk", .glo "parted", .glo "depth_of", .glo "leaves_of", .glo "pruned_branch", .glo "pruned", .glo "_law_source", .glo "_law_pick", .glo "_law_heard", .glo "_law_is_int", .glo "_law_members", .glo "_law_talk", .glo "_law_peeled", .glo "_law_is_talk", .glo "_law_way_down", .glo "_law_put", .glo "_law_leaf_ways", .glo "_law_idled", .glo "_law_due", .glo "_law_pruned_right", .glo "_law_refused", .glo "_law_refusals_right", .glo "law", .free "ValueError", .free "abs", .free "bool", .free "int", .free "isinstance", .free "len", .free "max", .free "range", .free "tuple", .int "MOST_DEPTH" 60, .int "MOST_NODES" 20000, .glo "BadPaper", .glo "BadText", .glo "BadValue", .glo "TalkError", .glo "TooMany", .glo "Unknown", .glo "Unlike"]
def fn : List He.DefD := [⟨("is_count", none), "is_count", "is_count", defArgs (topS 9), defBody (topS 9), defScope (topS 9), [], []⟩,
  ⟨("is_rising", none), "is_rising", "is_rising", defArgs (topS 10), defBody (topS 10), defScope (topS 10), [], []⟩,
  ⟨("is_talk", none), "is_talk", "is_talk", defArgs (topS 14), defBody (topS 14), defScope (topS 14), [], []⟩,
  ⟨("must_be_talk", none), "must_be_talk", "must_be_talk", defArgs (topS 15), defBody (topS 15), defScope (topS 15), [], []⟩,
  ⟨("parted", none), "parted", "parted", defArgs (topS 16), defBody (topS 16), defScope (topS 16), [], []⟩,
  ⟨("depth_of", none), "depth_of", "depth_of", defArgs (topS 17), defBody (topS 17), defScope (topS 17), [], []⟩,
  ⟨("leaves_of", none), "leaves_of", "leaves_of", defArgs (topS 18), defBody (topS 18), defScope (topS 18), [], []⟩,
  ⟨("pruned_branch", none), "pruned_branch", "pruned_branch", defArgs (topS 20), defBody (topS 20), defScope (topS 20), [], []⟩,
  ⟨("pruned", none), "pruned", "pruned", defArgs (topS 19), defBody (topS 19), defScope (topS 19), [], []⟩,
  ⟨("_law_source", none), "_law_source", "_law_source", defArgs (topS 22), defBody (topS 22), defScope (topS 22), [], []⟩,
  ⟨("_law_pick", none), "_law_pick", "_law_pick", defArgs (topS 23), defBody (topS 23), defScope (topS 23), [], []⟩,
  ⟨("_law_heard", none), "_law_heard", "_law_heard", defArgs (topS 24), defBody (topS 24), defScope (topS 24), [], []⟩,
  ⟨("_law_is_int", none), "_law_is_int", "_law_is_int", defArgs (topS 25), defBody (topS 25), defScope (topS 25), [], []⟩,
  ⟨("_law_members", none), "_law_members", "_law_members", defArgs (topS 26), defBody (topS 26), defScope (topS 26), [], []⟩,
  ⟨("_law_talk", none), "_law_talk", "_law_talk", defArgs (topS 27), defBody (topS 27), defScope (topS 27), [], []⟩,
  ⟨("_law_peeled", none), "_law_peeled", "_law_peeled", defArgs (topS 28), defBody (topS 28), defScope (topS 28), [], []⟩,
  ⟨("_law_is_talk", none), "_law_is_talk", "_law_is_talk", defArgs (topS 29), defBody (topS 29), defScope (topS 29), [], []⟩,
  ⟨("_law_way_down", none), "_law_way_down", "_law_way_down", defArgs (topS 30), defBody (topS 30), defScope (topS 30), [], []⟩,
  ⟨("_law_put", none), "_law_put", "_law_put", defArgs (topS 31), defBody (topS 31), defScope (topS 31), [], []⟩,
  ⟨("_law_leaf_ways", none), "_law_leaf_ways", "_law_leaf_ways", defArgs (topS 32), defBody (topS 32), defScope (topS 32), [], []⟩,
  ⟨("_law_idled", none), "_law_idled", "_law_idled", defArgs (topS 33), defBody (topS 33), defScope (topS 33), [], []⟩,
  ⟨("_law_due", none), "_law_due", "_law_due", defArgs (topS 34), defBody (topS 34), defScope (topS 34), [], []⟩,
  ⟨("_law_pruned_right", none), "_law_pruned_right", "_law_pruned_right", defArgs (topS 35), defBody (topS 35), defScope (topS 35), [], []⟩,
  ⟨("_law_refused", none), "_law_refused", "_law_refused", defArgs (topS 36), defBody (topS 36), defScope (topS 36), [], []⟩,
  ⟨("_law_refusals_right", none), "_law_refusals_right", "_law_refusals_right", defArgs (topS 37), defBody (topS 37), defScope (topS 37), [], []⟩,
  ⟨("law", none), "law", "law", defArgs (topS 38), defBody (topS 38), defScope (topS 38), [], []⟩]
def ex : List EMH.ExD := [⟨"BadValue", "what", topS 3⟩]
abbrev R : PySem.W.OpenRow := PySem.W.OpenLaw.row PySem.Challenge.rw_talkgrowth_k58_pruned
abbrev hk : PySem.W.Hook := EMH.hookE PySem.Challenge.pw_talkgrowth_k58_pruned.main.file true 5 fa fn ex
def ob (s : PySem.W.SharedT) : EMH.AlE := EMH.obsEG PySem.Challenge.pw_talkgrowth_k58_pruned.main.file true 5 fa fn ex (HandSHeadRun.getT s)
theorem ob_eq (s : PySem.W.SharedT) : ob s = hk.obs s.abs := EMH.obsEG_eq (HandSHeadRun.getT_eq s)
def loose0 : List Str := ["TalkError", "BadText", "BadValue", "TooMany", "Unlike", "Unknown", "BadPaper", "MOST_DEPTH", "MOST_NODES", "is_count", "is_rising", "is_talk", "must_be_talk", "parted", "depth_of", "leaves_of", "pruned", "pruned_branch", "_law_source", "_law_pick", "_law_heard", "_law_is_int", "_law_members", "_law_talk", "_law_peeled", "_law_is_talk", "_law_way_down", "_law_put", "_law_leaf_ways", "_law_idled"]
def loose1 : List Str := ["_law_due", "_law_pruned_right", "_law_refused", "_law_refusals_right"]
abbrev loose : List Str := loose0 ++ loose1
theorem run (w : World) : HandSHeadRun.RunEq R (PySem.W.view R.prog [38]) hk ob 4000 loose w := by
  intro os
  kernel_rfl
theorem txt : ∀ d ∈ ex, EMH.TxtOk d := by
  intro d hd
  simp only [ex, List.mem_cons, List.not_mem_nil, or_false] at hd
  rcases hd with rfl <;> exact ⟨_, _, _, _, _, _, _, _, _, _, _, _, _, _, rfl, rfl, rfl, fun _ _ _ _ _ _ _ _ _ _ => BindsTo.of_eq rfl, _, fun _ => rfl⟩
theorem tx {w : World} {K : PySem.W.Frag} {h : Heap} {mg : Str → Option Value} (X : K.In h) (G : h.Ns mainGlobals mg) (c : EMH.SaysE PySem.Challenge.pw_talkgrowth_k58_pruned.main.file true fa fn ex K) : Tx PySem.Challenge.pw_talkgrowth_k58_pruned w K mg where
  f_is_count := c.def_ 0 rfl
  g_is_count := He.glo_ok X G (c.fact 0 rfl)
  f_is_rising := c.def_ 1 rfl
  g_is_rising := He.glo_ok X G (c.fact 1 rfl)
  f_is_talk := c.def_ 2 rfl
  g_is_talk := He.glo_ok X G (c.fact 2 rfl)
  f_must_be_talk := c.def_ 3 rfl
  g_must_be_talk := He.glo_ok X G (c.fact 3 rfl)
  f_parted := c.def_ 4 rfl
  g_parted := He.glo_ok X G (c.fact 4 rfl)
  f_depth_of := c.def_ 5 rfl
  g_depth_of := He.glo_ok X G (c.fact 5 rfl)
  f_leaves_of := c.def_ 6 rfl
  g_leaves_of := He.glo_ok X G (c.fact 6 rfl)
  f_pruned_branch := c.def_ 7 rfl
  g_pruned_branch := He.glo_ok X G (c.fact 7 rfl)
  f_pruned := c.def_ 8 rfl
  g_pruned := He.glo_ok X G (c.fact 8 rfl)
  f__law_source := c.def_ 9 rfl
  g__law_source := He.glo_ok X G (c.fact 9 rfl)
  f__law_pick := c.def_ 10 rfl
  g__law_pick := He.glo_ok X G (c.fact 10 rfl)
  f__law_heard := c.def_ 11 rfl
  g__law_heard := He.glo_ok X G (c.fact 11 rfl)
  f__law_is_int := c.def_ 12 rfl
  g__law_is_int := He.glo_ok X G (c.fact 12 rfl)
  f__law_members := c.def_ 13 rfl
  g__law_members := He.glo_ok X G (c.fact 13 rfl)
  f__law_talk := c.def_ 14 rfl
  g__law_talk := He.glo_ok X G (c.fact 14 rfl)
  f__law_peeled := c.def_ 15 rfl
  g__law_peeled := He.glo_ok X G (c.fact 15 rfl)
  f__law_is_talk := c.def_ 16 rfl
  g__law_is_talk := He.glo_ok X G (c.fact 16 rfl)
  f__law_way_down := c.def_ 17 rfl
  g__law_way_down := He.glo_ok X G (c.fact 17 rfl)
  f__law_put := c.def_ 18 rfl
  g__law_put := He.glo_ok X G (c.fact 18 rfl)
  f__law_leaf_ways := c.def_ 19 rfl
  g__law_leaf_ways := He.glo_ok X G (c.fact 19 rfl)
  f__law_idled := c.def_ 20 rfl
  g__law_idled := He.glo_ok X G (c.fact 20 rfl)
  f__law_due := c.def_ 21 rfl
  g__law_due := He.glo_ok X G (c.fact 21 rfl)
  f__law_pruned_right := c.def_ 22 rfl
  g__law_pruned_right := He.glo_ok X G (c.fact 22 rfl)
  f__law_refused := c.def_ 23 rfl
  g__law_refused := He.glo_ok X G (c.fact 23 rfl)
  f__law_refusals_right := c.def_ 24 rfl
  g__law_refusals_right := He.glo_ok X G (c.fact 24 rfl)
  f_law := c.def_ 25 rfl
  g_law := He.glo_ok X G (c.fact 25 rfl)
  z_ValueError := He.free_ok X G (c.fact 26 rfl)
  z_abs := He.free_ok X G (c.fact 27 rfl)
  z_bool := He.free_ok X G (c.fact 28 rfl)
  z_int := He.free_ok X G (c.fact 29 rfl)
  z_isinstance := He.free_ok X G (c.fact 30 rfl)
  z_len := He.free_ok X G (c.fact 31 rfl)
  z_max := He.free_ok X G (c.fact 32 rfl)
  z_range := He.free_ok X G (c.fact 33 rfl)
  z_tuple := He.free_ok X G (c.fact 34 rfl)
  i_MOST_DEPTH := He.int_ok X G (c.fact 35 rfl)
  i_MOST_NODES := He.int_ok X G (c.fact 36 rfl)
  mk_BadValue := c.mk (P := PySem.Challenge.pw_talkgrowth_k58_pruned) X G 0 (d := ⟨"BadValue", "what", topS 3⟩) (txt _ (List.mem_of_getElem? (i := 0) rfl)) rfl
  xcl := c.xcl
  c_BadPaper := He.glo_ok X G (c.fact 37 rfl)
  c_BadText := He.glo_ok X G (c.fact 38 rfl)
  c_BadValue := He.glo_ok X G (c.fact 39 rfl)
  c_TalkError := He.glo_ok X G (c.fact 40 rfl)
  c_TooMany := He.glo_ok X G (c.fact 41 rfl)
  c_Unknown := He.glo_ok X G (c.fact 42 rfl)
  c_Unlike := He.glo_ok X G (c.fact 43 rfl)
theorem holds_of (hf : Keeps m_law) : PySem.Challenge.rw_talkgrowth_k58_pruned.Holds := by
  w_on; o_law
  refine HandSHeadRun.head_any (r := R) (q := PySem.W.view R.prog [38]) (H := hk) (ob := ob) (M := 4000) (loose := loose) (d := HandSHeadRun.topDef R.prog 38) (kwd := []) ob_eq
    (by kernel_rfl) (fun s => by kernel_rfl) run (by kernel_rfl) (by kernel_rfl) (by kernel_rfl) (by rfl) (by first | assumption | decide +kernel) (by decide +kernel) ⟨rfl, rfl, rfl, rfl, rfl, by decide +kernel⟩ ?hw ?hc
  case hw => w_witness2
  case hc =>
    refine law_walk (l := PySem.Challenge.rw_talkgrowth_k58_pruned) (k := 70) rfl (by kernel_rfl) ⟨rfl, by decide, by decide⟩ hf ?F
    intro w mg fa h Y G hmg0
    obtain ⟨K, KX, c⟩ := Y
    have hmg : mg ("law" : PySem.Str) = some (.ref fa) := by
      have e : (HandSHeadRun.topDef R.prog 38).name = ("law" : PySem.Str) := by kernel_rfl
      rw [← e]
      exact hmg0
    have T := tx (w := w) KX G c
    cases hmg.symm.trans T.g_law
    exact ⟨K, KX, fn_law T⟩
end G
set_option maxRecDepth 100000
set_option maxHeartbeats 2000000
namespace G
open PySem S L2
/-! ### the source -/
def Src (l : Nat) (h : Hh) : Prop := ∃ (c : Nat) (ns : List Int) (left turn : Int), h[l]? = some (.lst [.ref c, .int left, .int turn]) ∧ h[c]? = some (.lst (ns.map D.int)) ∧ ns ≠ [] ∧ c ≠ l ∧ (∀ n ∈ ns, 0 ≤ n) ∧ 0 ≤ left ∧ 0 ≤ turn ∧ c < l
theorem Src.keep {l : Nat} {h h' : Hh} (s : Src l h) (k : Hk [] h h') : Src l h' := by
  obtain ⟨c, ns, left, turn, e1, e2, r⟩ := s
  exact ⟨c, ns, left, turn, k.at e1 (by simp), k.at e2 (by simp), r⟩
theorem Src.keep' {l : Nat} {h h' : Hh} {n : Nat} (s : Src l h) (hn : l < n) (k : ∀ i, i < n → h'[i]? = h[i]?) : Src l h' := by
  obtain ⟨c, ns, left, turn, e1, e2, e3, e4, e5, e6, e7, e8⟩ := s
  exact ⟨c, ns, left, turn, (k l hn).trans e1, (k c (by omega)).trans e2, e3, e4, e5, e6, e7, e8⟩
theorem Src.lt {l : Nat} {h : Hh} (s : Src l h) : l < h.length := by
  obtain ⟨c, ns, left, turn, e1, _⟩ := s
  exact lt_of e1
theorem Src.put {l c : Nat} {h : Hh} {ns : List Int} {o : O} {a b : Int} (e1 : h[l]? = some o) (e2 : h[c]? = some (.lst (ns.map D.int))) (hne : ns ≠ []) (hcl : c ≠ l) (hnn : ∀ n ∈ ns, 0 ≤ n) (h1 : 0 ≤ a) (h2 : 0 ≤ b) (h3 : c < l) : Src l (h.set l (.lst [.ref c, .int a, .int b])) :=
  ⟨c, ns, a, b, set_at e1, set_ne e2 hcl, hne, hcl, hnn, h1, h2, h3⟩
theorem pick_run {l : Nat} {h : Hh} {many : Int} (s : Src l h) (hm : 0 < many) (hb : many < 1073741824) : R1 (m__law_pick [.ref l, .int many] h) fun d h' => (∃ v : Int, d = .int v ∧ 0 ≤ v ∧ v < many) ∧ Src l h' ∧ Hk [l] h h' := by
  obtain ⟨c, ns, left, turn, e1, e2, hne, hcl, hnn, hl0, ht0, hlt⟩ := s
  have e1' : ∀ o, (h.set l o)[l]? = some o := fun o => set_at e1
  have e2' : ∀ o, (h.set l o)[c]? = some (.lst (ns.map D.int)) := fun o => set_ne e2 hcl
  have hpos : 0 < ns.length := List.length_pos_iff.mpr hne
  have hp' : (0 : Int) < ns.length := by omega
  obtain ⟨cell, hc, hc0⟩ : ∃ cell : Int, atI (ns.map D.int) (turn % ns.length) = some (.int cell) ∧ 0 ≤ cell := by
    have h1 := Int.emod_nonneg turn (show (ns.length : Int) ≠ 0 by omega)
    have h2 := Int.emod_lt_of_pos turn hp'
    have hj : (turn % ns.length).toNat < ns.length := by omega
    refine ⟨ns[(turn % ns.length).toNat], ?_, hnn _ (List.getElem_mem hj)⟩
    rw [atI_get (j := (turn % ns.length).toNat) (by omega) (by simpa using hj)]
    simp
  have fin : ∀ (a b v : Int), 0 ≤ a → 0 ≤ b → (0 ≤ v % many ∧ v % many < many) ∧ Src l (h.set l (.lst [.ref c, .int a, .int b])) ∧ Hk [l] h (h.set l (.lst [.ref c, .int a, .int b])) := fun a b v ha hb =>
    ⟨⟨Int.emod_nonneg _ (by omega), Int.emod_lt_of_pos _ hm⟩, Src.put e1 e2 hne hcl hnn ha hb hlt, Hk.set (by simp)⟩
  have d1 : 0 ≤ left / many := Int.ediv_nonneg hl0 (by omega)
  have d2 : 0 ≤ cell / many := Int.ediv_nonneg hc0 (by omega)
  have t1 : 0 ≤ turn + 1 := by omega
  refine RX_body rfl ?_
  simp [d__law_pick, e1, e2', e1', hc, hm, hb, hpos, fin, d1, d2, t1, hl0]
  refine ⟨fun _ => fin _ _ _ d1 ht0, fun _ => ⟨fun _ => ⟨fun _ => fin _ _ _ d2 t1, fun _ => ⟨fun _ => fin _ _ _ hl0 t1, fun _ => by omega⟩⟩, fun _ => ⟨fun _ => fin _ _ _ hl0 t1, fun _ => by omega⟩⟩⟩
theorem source_run {x : D} {h : Hh} {xs : List Int} (hx : opSl x none (some 63) h = some (.ref h.length, h ++ [.lst (xs.map D.int)])) (hz : xs.length ≤ sizeLine) : R1 (m__law_source [x] h) fun d h' => ∃ l, d = .ref l ∧ Src l h' ∧ Hk [] h h' := by
  refine RX_body rfl ?_
  unfold d__law_source
  rw [v_seq, v_set, v_RSb]
  refine R_lc (it := ⟨xs.map D.int, [(h.length, xs.map D.int)]⟩) (h1 := h ++ [.lst (xs.map D.int)]) (J := fun k ys h' => h' = h ++ [.lst (xs.map D.int)] ∧ ys = (xs.take k).map fun i => D.int (if i < 0 then -i else i)) ?_ (by simpa using hz) ⟨rfl, rfl⟩ (fun k x ys h' hk ⟨e1, e2⟩ => ?_) (fun ys h' ⟨e1, e2⟩ => ?_)
  · simp [iLs, dSl, dNo, dPart, hx]
  · subst e1 e2
    refine ⟨fun p hp => by simp at hp; subst hp; simp, _, _, rfl, ?_⟩
    rw [List.getElem?_map] at hk
    cases e : xs[k]? with
    | none => rw [e] at hk; cases hk
    | some i =>
      rw [e] at hk
      cases hk
      have hlt : k < xs.length := (List.getElem?_eq_some_iff.mp e).1
      have he : xs[k] = i := (List.getElem?_eq_some_iff.mp e).2
      simp [S.tYes, wipeE, hlt, he, List.take_succ_eq_append_getElem]
  · subst e1 e2
    refine ⟨fun p hp => by simp at hp; subst hp; simp, ?_⟩
    have en : ∀ g : Hh, (h ++ g).length = h.length + g.length := fun g => by simp
    have kk : ∀ g : Hh, Hk [] h (h ++ g) := fun g => Hk.app g
    have ne : ∀ n ∈ (xs.map fun i => if i < 0 then -i else i), (0 : Int) ≤ n := fun n hn => by
      obtain ⟨i, _, rfl⟩ := List.mem_map.mp hn
      split <;> omega
    simp [List.getElem?_append_right]
    refine ⟨fun e => ?_, fun e => ?_⟩
    · subst e
      exact ⟨⟨h.length + 2, [0], 0, 0, by simp [List.getElem?_append_right], by simp [List.getElem?_append_right], by simp, by omega, by simp, by omega, by omega, by omega⟩, kk _⟩
    · exact ⟨⟨h.length + 1, (xs.map fun i => if i < 0 then -i else i), 0, 0, by simp [List.getElem?_append_right], by simp [List.getElem?_append_right, Function.comp_def], by simpa using e, by omega, ne, by omega, by omega, by omega⟩, kk _⟩
/-! ### talks as trees -/
inductive Tk where
  | leaf (n : Int)
  | node (c : Bool) (ms : List Int) (y n : Tk)
abbrev tS : Str := Str.ofString "tell"
abbrev rS : Str := Str.ofString "row"
abbrev cS : Str := Str.ofString "column"
def sideS (c : Bool) : Str := if c then cS else rS
def dI (xs : List Int) : D := .tup (xs.map D.int)
def Tk.d : Tk → D
  | .leaf n => .tup [.str tS, .int n]
  | .node c ms y n => .tup [.str (sideS c), dI ms, y.d, n.d]
/-! counts, rising tuples -/
def countD (x : D) (a b : Int) : Bool := match x with
  | .int n => decide (a ≤ n) && decide (n ≤ b)
  | _ => false
theorem count_run {x : D} (hx : okD x = true) (a b : Int) (h : Hh) : m_is_count [x, .int a, .int b] h = some (.ok (.bl (countD x a b)), h) := by
  refine eq_of_R1 (RX_body rfl ?_)
  cases x <;> first | (cases hx; done) | skip
  all_goals simp [d_is_count, countD]
  omega
def risDs (last : Int) : List D → Int → Bool
  | [], _ => true
  | x :: xs, m => countD x (last + 1) m && (match x with
    | .int n => risDs n xs m
    | _ => false)
def risD (x : D) (m : Int) : Bool := match x with
  | .tup xs => risDs (-1) xs m
  | _ => false
theorem okDs_at {xs : List D} (h : okDs xs = true) {k : Nat} {x : D} (e : xs[k]? = some x) : okD x = true := by
  induction xs generalizing k with
  | nil => cases e
  | cons y ys ih =>
    obtain ⟨h1, h2⟩ := Bool.and_eq_true_iff.mp h
    cases k with
    | zero => cases e; exact h1
    | succ k => exact ih h2 e
theorem rising_run {x : D} (hx : okD x = true) (m : Int) (h : Hh) : m_is_rising [x, .int m] h = some (.ok (.bl (risD x m)), h) := by
  refine eq_of_R1 (RX_body rfl ?_)
  cases x with
  | tup xs =>
    simp [d_is_rising]
    refine RS_for (it := ⟨xs, []⟩) (h1 := h) (fun k e h' => h' = h ∧ ∃ (last : Int) (o : Option D), e = [some (.tup xs), some (.int m), some (.int last), o] ∧ risDs (-1) xs m = risDs last (xs.drop k) m) (by simp [iTp]) ⟨rfl, -1, none, rfl, by simp⟩ (fun k x e h' hk ⟨e1, last, o, e2, e3⟩ => ?_) (fun e h' ⟨e1, last, o, e2, e3⟩ => ?_)
    · subst e1 e2
      refine ⟨fun p hp => (nomatch hp), _, _, rfl, ?_⟩
      have hlt := (List.getElem?_eq_some_iff.mp hk)
      obtain ⟨hlt, he⟩ := hlt
      have ed : xs.drop k = x :: xs.drop (k + 1) := by rw [List.drop_eq_getElem_cons hlt, he]
      rw [ed] at e3
      have hc := count_run (okDs_at hx hk) (last + 1) m h'
      simp [hc]
      refine ⟨fun e => ?_, fun e => ?_⟩
      · simp [risD, e3, risDs, e]
      · cases x with
        | int n => exact ⟨n, rfl, by rw [e3]; simp [risDs, e]⟩
        | _ => cases e
    · subst e1 e2
      refine ⟨fun p hp => (nomatch hp), ?_⟩
      simp [risD, e3, risDs]
  | ref l => cases hx
  | kl xs => cases hx
  | exn a b c d e => cases hx
  | _ => simp [d_is_rising, risD]
inductive Good (r c : Int) : Nat → D → Nat → Prop
  | leaf {d : Nat} {n : Int} : d ≤ 60 → 0 ≤ n → n ≤ 99 → Good r c d (.tup [.str tS, .int n]) 1
  | node {d a b : Nat} {cc : Bool} {ms y n : D} : d ≤ 60 → okD ms = true → risD ms ((if cc then c else r) - 1) = true → Good r c (d + 1) y a → Good r c (d + 1) n b → Good r c d (.tup [.str (sideS cc), ms, y, n]) (a + b + 1)
/-- what is on the stack: (thing, depth), the top first; how many nodes are to come -/
inductive Goods (r c : Int) : List (D × Nat) → Nat → Prop
  | nil : Goods r c [] 0
  | cons {v : D} {d a b : Nat} {st : List (D × Nat)} : Good r c d v a → Goods r c st b → Goods r c ((v, d) :: st) (a + b)
def stD (p : D × Nat) : D := .tup [p.1, .int (p.2 : Int)]
def stL (st : List (D × Nat)) : List D := (st.map stD).reverse
@[simp] theorem stL_nil : stL [] = [] := rfl
@[simp] theorem stL_cons {v : D} {d : Nat} {st : List (D × Nat)} : stL ((v, d) :: st) = stL st ++ [.tup [v, .int (d : Int)]] := by simp [stL, stD]
@[simp] theorem sideS_t : sideS true = cS := rfl
@[simp] theorem sideS_f : sideS false = rS := rfl
@[simp] theorem sideS_ok {c : Bool} : PyData.strOk (sideS c) = true := by cases c <;> simp
@[simp] theorem sideS_tS {c : Bool} : (sideS c == tS) = false := by cases c <;> simp
theorem Good.pos {r c : Int} {d a : Nat} {v : D} (g : Good r c d v a) : 0 < a := by cases g <;> omega
theorem Goods.le {r c : Int} {st : List (D × Nat)} {n : Nat} (g : Goods r c st n) : st.length ≤ n := by
  induction g with
  | nil => simp
  | cons g _ ih => have := g.pos; simp; omega
theorem talk_good {v : D} {r c : Int} {k : Nat} {h : Hh} (g : Good r c 0 v k) (hk : k ≤ 20000) : R1 (m_is_talk [v, .int r, .int c] h) fun d h' => d = .bl true ∧ Hk [] h h' := by
  refine RX_body rfl ?_
  simp [d_is_talk]
  refine RS_while (I := fun n e h' => ∃ (st : List (D × Nat)) (many : Int) (o1 o2 : Option D), e = [some v, some (.int r), some (.int c), some (.ref h.length), some (.int many), o1, o2] ∧ h' = h ++ [.lst (stL st)] ∧ Goods r c st n ∧ 0 ≤ many ∧ many + n ≤ 20000)
    (fun n e h' ⟨st, many, o1, o2, e1, e2, gs, hm, hn⟩ => ?_) (n := k) ⟨[(v, 0)], 0, none, none, rfl, by simp, (by simpa using Goods.cons g .nil), by omega, by omega⟩
  subst e1 e2
  have hle := gs.le
  cases gs with
  | nil => simp [Hk.app]
  | @cons v d a b st g gs =>
    have hp := g.pos
    simp at hle
    have hst : (stL st).length ≤ 20000 := by simp [stL]; omega
    cases g with
    | @leaf _ m h1 h2 h3 =>
      have hc := fun h => count_run (x := .int m) (h := h) rfl 0 99
      simp [hc, countD, h2, h3]
      exact ⟨by omega, fun _ => ⟨by omega, fun _ => ⟨b, by omega, st, rfl, gs, by omega, by omega⟩⟩⟩
    | @node _ a' b' cc ms y m h1 h2 h3 gy gn =>
      have hc := fun h => rising_run (h := h) h2 ((if cc then c else r) - 1)
      have hs : ((stL st).length : Int) < 16777216 := by omega
      cases cc <;>
      · simp at hc h3
        simp [hc, h3]
        exact ⟨by omega, fun _ => ⟨by omega, fun _ => ⟨fun _ => ⟨fun _ => ⟨b' + (a' + b), by omega, (m, d + 1) :: (y, d + 1) :: st, by simp, .cons gn (.cons gy gs), by omega, by omega⟩, by omega⟩, by omega⟩⟩⟩
/-- what is no talk: found at the k-th node that is looked at -/
inductive Bad (r c : Int) : Nat → D → Nat → Prop
  | notup {d : Nat} {v : D} : (∀ h, opIsi "tuple" v h = some (.bl false, h)) → Bad r c d v 1
  | len {d : Nat} {xs : List D} : xs.length ≠ 2 → xs.length ≠ 4 → Bad r c d (.tup xs) 1
  | leaf {d : Nat} {x : D} : okD x = true → countD x 0 99 = false → Bad r c d (.tup [.str tS, x]) 1
  | word {d : Nat} {s : Str} {ms y n : D} : PyData.strOk s = true → (rS == s) = false → (cS == s) = false → Bad r c d (.tup [.str s, ms, y, n]) 1
  | mem {d : Nat} {cc : Bool} {ms y n : D} : okD ms = true → risD ms ((if cc then c else r) - 1) = false → Bad r c d (.tup [.str (sideS cc), ms, y, n]) 1
  | inN {d k : Nat} {cc : Bool} {ms y n : D} : okD ms = true → risD ms ((if cc then c else r) - 1) = true → Bad r c (d + 1) n k → Bad r c d (.tup [.str (sideS cc), ms, y, n]) (k + 1)
  | inY {d k b : Nat} {cc : Bool} {ms y n : D} : okD ms = true → risD ms ((if cc then c else r) - 1) = true → Bad r c (d + 1) y k → Good r c (d + 1) n b → Bad r c d (.tup [.str (sideS cc), ms, y, n]) (b + k + 1)
/-- the same on the stack -/
inductive Bads (r c : Int) : List (D × Nat) → Nat → Prop
  | here {v : D} {d k : Nat} {st : List (D × Nat)} : Bad r c d v k → Bads r c ((v, d) :: st) k
  | cons {v : D} {d a k : Nat} {st : List (D × Nat)} : Good r c d v a → Bads r c st k → Bads r c ((v, d) :: st) (a + k)
theorem talk_bad {v : D} {r c : Int} {k : Nat} {h : Hh} (g : Bad r c 0 v k) : R1 (m_is_talk [v, .int r, .int c] h) fun d h' => d = .bl false ∧ Hk [] h h' := by
  refine RX_body rfl ?_
  simp [d_is_talk]
  refine RS_while (I := fun n e h' => ∃ (st : List (D × Nat)) (many : Int) (o1 o2 : Option D), e = [some v, some (.int r), some (.int c), some (.ref h.length), some (.int many), o1, o2] ∧ h' = h ++ [.lst (stL st)] ∧ Bads r c st n ∧ st.length ≤ many + 1 ∧ 0 ≤ many)
    (fun n e h' ⟨st, many, o1, o2, e1, e2, gs, hle, hm⟩ => ?_) (n := k) ⟨[(v, 0)], 0, none, none, rfl, by simp, .here g, by simp, by omega⟩
  subst e1 e2
  cases gs with
  | @here v d k st b =>
    simp at hle
    have hst : (stL st).length ≤ many := by simp [stL]; omega
    cases b with
    | notup e => simp [e, Hk.app]
    | @len _ xs h1 h2 =>
      have e1 : ¬ (2 : Int) = xs.length := by omega
      have e2 : ¬ (4 : Int) = xs.length := by omega
      simp [e1, e2, Hk.app]
    | @leaf _ x h1 h2 =>
      have hc := fun h => count_run (h := h) h1 0 99
      simp [hc, h2, Hk.app]
    | word h1 h2 h3 =>
      simp [h2, h3, Hk.app]
    | @mem _ cc ms y m h1 h2 =>
      have hc := fun h => rising_run (h := h) h1 ((if cc then c else r) - 1)
      cases cc <;>
      · simp at hc h2
        simp [hc, h2, Hk.app]
    | @inN _ k cc ms y m h1 h2 b =>
      have hc := fun h => rising_run (h := h) h1 ((if cc then c else r) - 1)
      cases cc <;>
      · simp at hc h2
        simp [hc, h2, Hk.app]
        intro q1 q2
        exact ⟨fun _ => ⟨fun _ => ⟨k, by omega, (m, d + 1) :: (y, d + 1) :: st, by simp, .here b, by simp; omega, by omega⟩, by omega⟩, by omega⟩
    | @inY _ k b' cc ms y m h1 h2 b g =>
      have hc := fun h => rising_run (h := h) h1 ((if cc then c else r) - 1)
      cases cc <;>
      · simp at hc h2
        simp [hc, h2, Hk.app]
        intro q1 q2
        exact ⟨fun _ => ⟨fun _ => ⟨b' + k, by omega, (m, d + 1) :: (y, d + 1) :: st, by simp, .cons g (.here b), by simp; omega, by omega⟩, by omega⟩, by omega⟩
  | @cons v d a k st g b =>
    have hp := g.pos
    simp at hle
    have hst : (stL st).length ≤ many := by simp [stL]; omega
    cases g with
    | @leaf _ m h1 h2 h3 =>
      have hc := fun h => count_run (x := .int m) (h := h) rfl 0 99
      simp [hc, countD, h2, h3, Hk.app]
      exact fun _ _ => ⟨k, by omega, st, rfl, b, by omega, by omega⟩
    | @node _ a' b' cc ms y m h1 h2 h3 gy gn =>
      have hc := fun h => rising_run (h := h) h2 ((if cc then c else r) - 1)
      cases cc <;>
      · simp at hc h3
        simp [hc, h3, Hk.app]
        intro q1 q2
        exact ⟨fun _ => ⟨fun _ => ⟨b' + (a' + k), by omega, (m, d + 1) :: (y, d + 1) :: st, by simp, .cons gn (.cons gy b), by simp; omega, by omega⟩, by omega⟩, by omega⟩
def Tk.dep : Tk → Nat
  | .leaf _ => 0
  | .node _ _ y n => max y.dep n.dep + 1
def Tk.cnt : Tk → Nat
  | .leaf _ => 1
  | .node _ _ y n => y.cnt + n.cnt + 1
def Tk.lvs : Tk → Nat
  | .leaf _ => 1
  | .node _ _ y n => y.lvs + n.lvs
/-- rising, from lo on, below m -/
def Ris (lo : Int) (m : Int) : List Int → Prop
  | [] => True
  | x :: xs => lo ≤ x ∧ x < m ∧ Ris (x + 1) m xs
/-- a right talk -/
def Tk.ok (r c : Int) : Tk → Prop
  | .leaf n => 0 ≤ n ∧ n ≤ 99
  | .node cc ms y n => Ris 0 (if cc then c else r) ms ∧ y.ok r c ∧ n.ok r c
theorem Tk.cnt_pos (t : Tk) : 0 < t.cnt := by cases t <;> simp [Tk.cnt]
theorem okDs_ints (xs : List Int) : okDs (xs.map D.int) = true := by
  induction xs with
  | nil => rfl
  | cons x xs ih => simpa [okDs, okD] using ih
theorem okD_dI (xs : List Int) : okD (dI xs) = true := okDs_ints xs
theorem okD_tk (t : Tk) : okD t.d = true := by
  induction t with
  | leaf n => simp [Tk.d, okD, okDs]
  | node c ms y n h1 h2 => simp [Tk.d, okD, okDs, h1, h2, okD_dI]
theorem deps_ints (xs : List Int) : deps (xs.map D.int) = 0 := by
  induction xs with
  | nil => rfl
  | cons x xs ih => simpa [deps, dep] using ih
theorem dep_tk (t : Tk) : dep t.d ≤ t.dep + 2 := by
  induction t with
  | leaf n => simp [Tk.d, dep, deps, Tk.dep]
  | node c ms y n h1 h2 => simp [Tk.d, dep, deps, dI, deps_ints, Tk.dep]; omega
theorem ris_D {m : Int} : ∀ {xs : List Int} {last : Int}, Ris (last + 1) m xs → risDs last (xs.map D.int) (m - 1) = true
  | [], _, _ => rfl
  | x :: xs, last, ⟨h1, h2, h3⟩ => by
    have ih := ris_D h3
    simp [risDs, countD, ih]
    omega
theorem Tk.good {r c : Int} {t : Tk} (h : t.ok r c) : ∀ {d : Nat}, d + t.dep ≤ 60 → Good r c d t.d t.cnt := by
  induction t with
  | leaf n => exact fun hd => .leaf (by simp [Tk.dep] at hd; omega) h.1 h.2
  | node cc ms y n h1 h2 =>
    intro d hd
    obtain ⟨a, b, e⟩ := h
    simp [Tk.dep] at hd
    exact .node (by omega) (okD_dI ms) (ris_D (last := -1) a) (h1 b (by omega)) (h2 e (by omega))
theorem must_good {v : D} {r c : Int} {k : Nat} {h : Hh} (g : Good r c 0 v k) (hk : k ≤ 20000) : R1 (m_must_be_talk [v, .int r, .int c] h) fun _ h' => Hk [] h h' := by
  refine RX_body rfl ?_
  simp [d_must_be_talk]
  exact (talk_good g hk).mono fun d h' ⟨e, k⟩ => by subst e; simp [k]
theorem must_bad {v : D} {r c : Int} {k : Nat} {h : Hh} (g : Bad r c 0 v k) : RX (m_must_be_talk [v, .int r, .int c] h) (fun _ _ => False) fun x fs h' => x = Str.ofString "BadValue" ∧ fs = [(Str.ofString "what", .str (Str.ofString "talk"))] ∧ Hk [] h h' := by
  refine RX_body rfl ?_
  simp [d_must_be_talk]
  exact (talk_bad g).mono fun d h' ⟨e, k⟩ => by subst e; simp [k]
/-! ### parted, pruned -/
def cutL (ms : List Int) (b : Bool) (xs : List Int) : List Int := xs.filter fun x => decide (x ∈ ms) == b
def cutR (cc : Bool) (ms : List Int) (b : Bool) (R : List Int) : List Int := if cc then R else cutL ms b R
def cutC (cc : Bool) (ms : List Int) (b : Bool) (C : List Int) : List Int := if cc then cutL ms b C else C
theorem parted_run {cc : Bool} {ms R C : List Int} {y n : D} {h : Hh} (hR : R.length ≤ sizeLine) (hC : C.length ≤ sizeLine) :
    R1 (m_parted [.tup [.str (sideS cc), dI ms, y, n], dI R, dI C] h) fun d h' => d = .tup [.tup [dI (cutR cc ms true R), dI (cutC cc ms true C)], .tup [dI (cutR cc ms false R), dI (cutC cc ms false C)]] ∧ Hk [] h h' := by
  refine RX_body rfl ?_
  have key : ∀ (xs : List Int) (b : Bool), (xs.map D.int).filterMap (fun x => match x with | .int i => if decide (i ∈ ms) == b then some (.int i) else none | _ => none) = (cutL ms b xs).map D.int := fun xs b => fm_filter fun x _ => rfl
  cases cc with
  | false =>
    simp [d_parted]
    refine R1.of (lc_pure (ck := []) (h1 := h) (xs := R.map D.int) (fun x => match x with | .int i => if decide (i ∈ ms) == true then some (.int i) else none | _ => none) (by simp [dI]) ckNil (by simpa using hR) (fun x hx => ?_)) ?_
    · obtain ⟨i, hi, rfl⟩ := List.mem_map.mp hx
      refine ⟨_, rfl, ?_⟩
      by_cases c : i ∈ ms
      · exact .inr ⟨by simp [dI, inD_ints, c], _, by simp; rfl, by simp [c]⟩
      · exact .inl ⟨by simp [dI, inD_ints, c], by simp [c]⟩
    rw [key]
    simp
    refine R1.of (lc_pure (ck := []) (h1 := h ++ [.lst ((cutL ms true R).map D.int)]) (xs := R.map D.int) (fun x => match x with | .int i => if decide (i ∈ ms) == false then some (.int i) else none | _ => none) (by simp [dI]) ckNil (by simpa using hR) (fun x hx => ?_)) ?_
    · obtain ⟨i, hi, rfl⟩ := List.mem_map.mp hx
      refine ⟨_, rfl, ?_⟩
      by_cases c : i ∈ ms
      · exact .inl ⟨by simp [dI, inD_ints, c], by simp [c]⟩
      · exact .inr ⟨by simp [dI, inD_ints, c], _, by simp; rfl, by simp [c]⟩
    rw [key]
    simp [cutR, cutC, dI, Hk.app]
  | true =>
    simp [d_parted]
    refine R1.of (lc_pure (ck := []) (h1 := h) (xs := C.map D.int) (fun x => match x with | .int i => if decide (i ∈ ms) == true then some (.int i) else none | _ => none) (by simp [dI]) ckNil (by simpa using hC) (fun x hx => ?_)) ?_
    · obtain ⟨i, hi, rfl⟩ := List.mem_map.mp hx
      refine ⟨_, rfl, ?_⟩
      by_cases c : i ∈ ms
      · exact .inr ⟨by simp [dI, inD_ints, c], _, by simp; rfl, by simp [c]⟩
      · exact .inl ⟨by simp [dI, inD_ints, c], by simp [c]⟩
    rw [key]
    simp
    refine R1.of (lc_pure (ck := []) (h1 := h ++ [.lst ((cutL ms true C).map D.int)]) (xs := C.map D.int) (fun x => match x with | .int i => if decide (i ∈ ms) == false then some (.int i) else none | _ => none) (by simp [dI]) ckNil (by simpa using hC) (fun x hx => ?_)) ?_
    · obtain ⟨i, hi, rfl⟩ := List.mem_map.mp hx
      refine ⟨_, rfl, ?_⟩
      by_cases c : i ∈ ms
      · exact .inl ⟨by simp [dI, inD_ints, c], by simp [c]⟩
      · exact .inr ⟨by simp [dI, inD_ints, c], _, by simp; rfl, by simp [c]⟩
    rw [key]
    simp [cutR, cutC, dI, Hk.app]
def prune : Tk → List Int → List Int → Tk
  | .leaf n, _, _ => .leaf n
  | .node cc ms y n, R, C =>
    if cutR cc ms true R ≠ [] ∧ cutC cc ms true C ≠ [] then
      (if cutR cc ms false R ≠ [] ∧ cutC cc ms false C ≠ [] then .node cc ms (prune y (cutR cc ms true R) (cutC cc ms true C)) (prune n (cutR cc ms false R) (cutC cc ms false C)) else prune y R C)
    else prune n R C
theorem len_pos {α : Type} {xs : List α} : ((0 : Int) < xs.length) ↔ xs ≠ [] := by
  cases xs <;> simp
theorem cutL_le {ms : List Int} {b : Bool} {xs : List Int} : (cutL ms b xs).length ≤ xs.length := List.length_filter_le _ _
theorem cutR_le {cc : Bool} {ms : List Int} {b : Bool} {xs : List Int} : (cutR cc ms b xs).length ≤ xs.length := by
  unfold cutR; split
  · exact Nat.le_refl _
  · exact cutL_le
theorem cutC_le {cc : Bool} {ms : List Int} {b : Bool} {xs : List Int} : (cutC cc ms b xs).length ≤ xs.length := by
  unfold cutC; split
  · exact cutL_le
  · exact Nat.le_refl _
theorem dI_len {xs : List Int} {h : Hh} : opLen (dI xs) h = some (.int xs.length, h) := by simp [dI]
theorem prune_run : ∀ (j : Nat) (t : Tk) (R C : List Int) (h : Hh), t.dep < j → R.length ≤ sizeLine → C.length ≤ sizeLine → R1 (m_pruned_branch j [t.d, dI R, dI C] h) fun d h' => d = (prune t R C).d ∧ Hk [] h h'
  | 0, t, R, C, h, ht, _, _ => by omega
  | j + 1, t, R, C, h, ht, hR, hC => by
    refine RX_body rfl ?_
    unfold d_pruned_branch
    rw [v_seq]
    refine RS_while (I := fun n e h' => ∃ (t' : Tk) (o1 o2 : Option D), e = [some t'.d, some (dI R), some (dI C), o1, o2] ∧ prune t R C = prune t' R C ∧ t'.dep ≤ t.dep ∧ n = t'.cnt ∧ Hk [] h h')
      (fun n e h' ⟨t', o1, o2, e1, e2, e3, e4, k⟩ => ?_) (n := t.cnt) ⟨t, none, none, rfl, rfl, Nat.le_refl _, rfl, Hk.refl _ _⟩
    subst e1 e4
    cases t' with
    | leaf m =>
      simp [Tk.d, k]
      rw [e2]
      rfl
    | node cc ms y n =>
      simp [Tk.d]
      refine (parted_run (h := h') (cc := cc) (ms := ms) (y := y.d) (n := n.d) hR hC).mono fun d h2 ⟨ed, k2⟩ => ?_
      subst ed
      simp [Tk.dep] at e3
      have kk := k.trans k2
      have py := y.cnt_pos
      have pn := n.cnt_pos
      have toN : prune t R C = prune n R C → ∃ m, m < (Tk.node cc ms y n).cnt ∧ ∃ t' : Tk, n.d = t'.d ∧ prune t R C = prune t' R C ∧ t'.dep ≤ t.dep ∧ m = t'.cnt ∧ Hk [] h h2 := fun e => ⟨n.cnt, by simp [Tk.cnt]; omega, n, rfl, e, by omega, rfl, kk⟩
      have toY : prune t R C = prune y R C → ∃ m, m < (Tk.node cc ms y n).cnt ∧ ∃ t' : Tk, y.d = t'.d ∧ prune t R C = prune t' R C ∧ t'.dep ≤ t.dep ∧ m = t'.cnt ∧ Hk [] h h2 := fun e => ⟨y.cnt, by simp [Tk.cnt]; omega, y, rfl, e, by omega, rfl, kk⟩
      by_cases a1 : cutR cc ms true R = []
      · simp [dI_len, a1]
        exact toN (by rw [e2]; simp [prune, a1])
      have p1 := List.length_pos_iff.mpr a1
      by_cases a2 : cutC cc ms true C = []
      · simp [dI_len, a2, p1, a1]
        exact toN (by rw [e2]; simp [prune, a2])
      have p2 := List.length_pos_iff.mpr a2
      by_cases a3 : cutR cc ms false R = []
      · simp [dI_len, a3, p1, a1, p2, a2]
        exact toY (by rw [e2]; simp [prune, a1, a2, a3])
      have p3 := List.length_pos_iff.mpr a3
      by_cases a4 : cutC cc ms false C = []
      · simp [dI_len, a4, p1, a1, p2, a2, p3, a3]
        exact toY (by rw [e2]; simp [prune, a1, a2, a4])
      have p4 := List.length_pos_iff.mpr a4
      simp [dI_len, p1, a1, p2, a2, p3, a3, p4, a4]
      refine (prune_run j y _ _ h2 (by omega) (Nat.le_trans cutR_le hR) (Nat.le_trans cutC_le hC)).mono fun d h3 ⟨ed, k3⟩ => ?_
      refine (prune_run j n _ _ h3 (by omega) (Nat.le_trans cutR_le hR) (Nat.le_trans cutC_le hC)).mono fun d' h4 ⟨ed', k4⟩ => ?_
      subst ed ed'
      exact ⟨by rw [e2]; simp [prune, a1, a2, a3, a4, Tk.d], (kk.trans k3).trans k4⟩
/-- the numbers below n -/
def rg (n : Int) : List Int := (List.range n.toNat).map fun (i : Nat) => (i : Int)
theorem rgD_rg (n : Int) : D.tup (rgD 0 (n - 0).toNat) = dI (rg n) := by
  simp [rgD, dI, rg, Function.comp_def]
theorem rg_len (n : Int) : (rg n).length = n.toNat := by simp [rg]
theorem pruned_good {t : Tk} {r c : Int} {h : Hh} (o : t.ok r c) (hd : t.dep ≤ 60) (hk : t.cnt ≤ 20000) (hr : 0 ≤ r ∧ r ≤ 100) (hc : 0 ≤ c ∧ c ≤ 100) : R1 (m_pruned [t.d, .int r, .int c] h) fun d h' => d = (prune t (rg r) (rg c)).d ∧ Hk [] h h' := by
  refine RX_body rfl ?_
  simp [d_pruned]
  refine (must_good (t.good o (by omega)) hk).mono fun _ h1 k1 => ?_
  have g1 := rgOk_small (a := 0) (b := r) (by omega) (by omega) (by omega) (by omega)
  have g2 := rgOk_small (a := 0) (b := c) (by omega) (by omega) (by omega) (by omega)
  have e1 := rgD_rg r
  have e2 := rgD_rg c
  simp at e1 e2
  simp [g1, g2, e1, e2]
  exact (prune_run N_pruned_branch t _ _ h1 (by show t.dep < 64; omega) (by rw [rg_len, sizeL]; omega) (by rw [rg_len, sizeL]; omega)).mono fun d h2 ⟨e, k⟩ => ⟨e, k1.trans k⟩
theorem pruned_bad {v : D} {r c : Int} {k : Nat} {h : Hh} (g : Bad r c 0 v k) : RX (m_pruned [v, .int r, .int c] h) (fun _ _ => False) fun x fs h' => x = Str.ofString "BadValue" ∧ fs = [(Str.ofString "what", .str (Str.ofString "talk"))] ∧ Hk [] h h' := by
  refine RX_body rfl ?_
  simp [d_pruned]
  exact (must_bad g).mono (fun _ _ z => z.elim) fun _ _ _ z => z
/-! ### stacks of talks -/
def tkD (p : Tk × Nat) : D := .tup [p.1.d, .int (p.2 : Int)]
def tkL (st : List (Tk × Nat)) : List D := (st.map tkD).reverse
@[simp] theorem tkL_nil : tkL [] = [] := rfl
@[simp] theorem tkL_cons {t : Tk} {d : Nat} {st : List (Tk × Nat)} : tkL ((t, d) :: st) = tkL st ++ [.tup [t.d, .int (d : Int)]] := by simp [tkL, tkD]
@[simp] theorem tkL_len {st : List (Tk × Nat)} : (tkL st).length = st.length := by simp [tkL]
def cntS (st : List (Tk × Nat)) : Nat := (st.map fun p => p.1.cnt).sum
@[simp] theorem cntS_nil : cntS [] = 0 := rfl
@[simp] theorem cntS_cons {p : Tk × Nat} {st : List (Tk × Nat)} : cntS (p :: st) = p.1.cnt + cntS st := by simp [cntS]
theorem cntS_le (st : List (Tk × Nat)) : st.length ≤ cntS st := by
  induction st with
  | nil => simp
  | cons p st ih => have := p.1.cnt_pos; simp; omega
def mxS (st : List (Tk × Nat)) : Nat := st.foldr (fun p m => max (p.2 + p.1.dep) m) 0
@[simp] theorem mxS_nil : mxS [] = 0 := rfl
@[simp] theorem mxS_cons {p : Tk × Nat} {st : List (Tk × Nat)} : mxS (p :: st) = max (p.2 + p.1.dep) (mxS st) := rfl
@[simp] theorem max_i {i j : Int} {h : Hh} : opMax2 [.int i, .int j] h = some (.int (if j > i then j else i), h) := rfl
theorem depth_of_run {t : Tk} {h : Hh} (hk : t.cnt ≤ 1000000) : R1 (m_depth_of [t.d] h) fun d h' => d = .int t.dep ∧ Hk [] h h' := by
  refine RX_body rfl ?_
  simp [d_depth_of]
  refine RS_while (I := fun n e h' => ∃ (st : List (Tk × Nat)) (deep : Nat) (o1 o2 : Option D), e = [some t.d, some (.int deep), some (.ref h.length), o1, o2] ∧ h' = h ++ [.lst (tkL st)] ∧ n = cntS st ∧ n ≤ 1000000 ∧ max deep (mxS st) = t.dep)
    (fun n e h' ⟨st, deep, o1, o2, e1, e2, e3, e4, e5⟩ => ?_) (n := t.cnt) ⟨[(t, 0)], 0, none, none, rfl, by simp, by simp, hk, by simp⟩
  subst e1 e2 e3
  have hl := cntS_le st
  match st with
  | [] => simp at e5; simp [Hk.app, e5]
  | (.leaf m, d) :: st =>
    simp [Tk.cnt, Tk.dep] at e4 e5 hl
    simp [Tk.d, Tk.cnt]
    refine ⟨cntS st, by omega, st, max deep d, ?_, rfl, rfl, by omega, by omega⟩
    rw [show ((max deep d : Nat) : Int) = if (deep : Int) < (d : Int) then (d : Int) else (deep : Int) by split <;> omega]; simp
  | (.node cc ms y m, d) :: st =>
    simp [Tk.cnt, Tk.dep] at e4 e5 hl
    simp [Tk.d, Tk.cnt]
    exact ⟨fun _ => ⟨fun _ => ⟨m.cnt + (y.cnt + cntS st), by omega, (m, d + 1) :: (y, d + 1) :: st, max deep d, by rw [show ((max deep d : Nat) : Int) = if (deep : Int) < (d : Int) then (d : Int) else (deep : Int) by split <;> omega]; simp, by simp, by simp, by omega, by simp; omega⟩, by omega⟩, by omega⟩
theorem sumcnt_le (st : List Tk) : st.length ≤ (st.map Tk.cnt).sum := by
  induction st with
  | nil => simp
  | cons p st ih => have := p.cnt_pos; simp; omega
theorem leaves_of_run {t : Tk} {h : Hh} (hk : t.cnt ≤ 1000000) : R1 (m_leaves_of [t.d] h) fun d h' => d = .int t.lvs ∧ Hk [] h h' := by
  refine RX_body rfl ?_
  simp [d_leaves_of]
  refine RS_while (I := fun n e h' => ∃ (st : List Tk) (many : Nat) (o1 : Option D), e = [some t.d, some (.int many), some (.ref h.length), o1] ∧ h' = h ++ [.lst (st.map Tk.d).reverse] ∧ n = (st.map Tk.cnt).sum ∧ n ≤ 1000000 ∧ st.length ≤ n ∧ many + (st.map Tk.lvs).sum = t.lvs)
    (fun n e h' ⟨st, many, o1, e1, e2, e3, e4, e5, e6⟩ => ?_) (n := t.cnt) ⟨[t], 0, none, rfl, by simp, by simp, hk, by simp; exact t.cnt_pos, by simp⟩
  subst e1 e2 e3
  match st with
  | [] => simp at e6; simp [Hk.app, e6]
  | .leaf m :: st =>
    simp [Tk.cnt, Tk.lvs] at e4 e5 e6
    simp [Tk.d, Tk.cnt]
    exact ⟨(st.map Tk.cnt).sum, by omega, st, many + 1, by simp, rfl, rfl, by omega, by omega, by omega⟩
  | .node cc ms y m :: st =>
    have p1 := y.cnt_pos
    have p2 := m.cnt_pos
    have p3 := sumcnt_le st
    simp [Tk.cnt, Tk.lvs] at e4 e5 e6
    simp [Tk.d, Tk.cnt]
    exact ⟨fun _ => ⟨fun _ => ⟨m.cnt + (y.cnt + (st.map Tk.cnt).sum), by omega, m :: y :: st, many, by simp, by simp, by simp, by omega, by simp; omega, by simp; omega⟩, by omega⟩, by omega⟩
/-! ### what a talk says -/
def Tk.bts : Tk → Int → Int → List Bool
  | .leaf _, _, _ => []
  | .node cc ms y n, r, c => decide ((if cc then c else r) ∈ ms) :: (if (if cc then c else r) ∈ ms then y.bts r c else n.bts r c)
def Tk.ans : Tk → Int → Int → Int
  | .leaf a, _, _ => a
  | .node cc ms y n, r, c => if (if cc then c else r) ∈ ms then y.ans r c else n.ans r c
def bI (b : Bool) : D := .int (if b then 1 else 0)
theorem bts_len (t : Tk) (r c : Int) : (t.bts r c).length ≤ t.dep := by
  induction t with
  | leaf _ => simp [Tk.bts]
  | node cc ms y n h1 h2 =>
    simp only [Tk.bts, Tk.dep, List.length_cons]
    by_cases hh : (if cc = true then c else r) ∈ ms
    · rw [if_pos hh]; omega
    · rw [if_neg hh]; omega
theorem heard_run {t : Tk} {r c : Int} {h : Hh} (hd : t.dep < 100) : R1 (m__law_heard [t.d, .int r, .int c] h) fun d h' => ∃ l, d = .tup [.int (t.ans r c), .ref l] ∧ h'[l]? = some (.lst ((t.bts r c).map bI)) ∧ h.length ≤ l ∧ Hk [] h h' := by
  refine RX_body rfl ?_
  simp [d__law_heard]
  refine RS_for (it := ⟨rgD 0 100, []⟩) (h1 := h ++ [.lst []]) (I := fun k e h' => ∃ (t' : Tk) (pre : List Bool) (o1 o2 : Option D), e = [some t'.d, some (.int r), some (.int c), some (.ref h.length), o1, o2] ∧ h' = h ++ [.lst (pre.map bI)] ∧ pre ++ t'.bts r c = t.bts r c ∧ t'.ans r c = t.ans r c ∧ t'.dep + k ≤ t.dep ∧ pre.length = k)
    (by simp) ⟨t, [], none, none, rfl, by simp, by simp, rfl, by omega, rfl⟩ (fun k x e h' hk ⟨t', pre, o1, o2, e1, e2, e3, e4, e5, e6⟩ => ?_) (fun e h' ⟨t', pre, o1, o2, e1, e2, e3, e4, e5, e6⟩ => ?_)
  · subst e1 e2
    obtain ⟨rfl, hk⟩ := rgD_get hk
    refine ⟨ckNil, _, _, rfl, ?_⟩
    cases t' with
    | leaf m =>
      simp [Tk.bts, Tk.ans] at e3 e4
      simp [Tk.d, Hk.app, e3, e4]
    | node cc ms y n =>
      have hp : (pre.map bI).length < sizeLine := by rw [sizeL, List.length_map]; omega
      simp [Tk.dep] at e5
      simp at hp
      cases cc
      · by_cases hm : r ∈ ms
        · simp [Tk.d, dI, inD_ints, hm, hp]
          exact ⟨y, rfl, pre ++ [true], by simp [bI], by rw [← e3]; simp [Tk.bts, hm], by rw [← e4]; simp [Tk.ans, hm], by omega, by simp [e6]⟩
        · simp [Tk.d, dI, inD_ints, hm, hp]
          exact ⟨n, rfl, pre ++ [false], by simp [bI], by rw [← e3]; simp [Tk.bts, hm], by rw [← e4]; simp [Tk.ans, hm], by omega, by simp [e6]⟩
      · by_cases hm : c ∈ ms
        · simp [Tk.d, dI, inD_ints, hm, hp]
          exact ⟨y, rfl, pre ++ [true], by simp [bI], by rw [← e3]; simp [Tk.bts, hm], by rw [← e4]; simp [Tk.ans, hm], by omega, by simp [e6]⟩
        · simp [Tk.d, dI, inD_ints, hm, hp]
          exact ⟨n, rfl, pre ++ [false], by simp [bI], by rw [← e3]; simp [Tk.bts, hm], by rw [← e4]; simp [Tk.ans, hm], by omega, by simp [e6]⟩
  · rw [rgD_length] at e5
    omega
def Tk.wys : Tk → Nat → List Nat
  | .leaf _, d => [d]
  | .node _ _ y n, d => n.wys (d + 1) ++ y.wys (d + 1)
def nI (n : Nat) : D := .int (n : Int)
theorem leaf_ways_run {t : Tk} {h : Hh} (hk : t.cnt ≤ 1000000) : R1 (m__law_leaf_ways [t.d] h) fun d h' => d = .ref h.length ∧ h'[h.length]? = some (.lst ((t.wys 0).map nI)) ∧ Hk [] h h' := by
  refine RX_body rfl ?_
  simp [d__law_leaf_ways]
  refine RS_while (I := fun n e h' => ∃ (st : List (Tk × Nat)) (told : List Nat) (o1 o2 : Option D), e = [some t.d, some (.ref h.length), some (.ref (h.length + 1)), o1, o2] ∧ h' = h ++ [.lst (told.map nI), .lst (tkL st)] ∧ n = cntS st ∧ n + told.length ≤ 1000000 ∧ told ++ (st.map fun p => p.1.wys p.2).flatten = t.wys 0)
    (fun n e h' ⟨st, told, o1, o2, e1, e2, e3, e4, e5⟩ => ?_) (n := t.cnt) ⟨[(t, 0)], [], none, none, by simp, by simp, by simp, by simpa using hk, by simp⟩
  subst e1 e2 e3
  have hl := cntS_le st
  match st with
  | [] => simp at e5; simp [Hk.app, e5]
  | (.leaf m, d) :: st =>
    simp [Tk.cnt, Tk.wys] at e4 e5 hl
    simp [Tk.d, Tk.cnt]
    exact ⟨fun _ => ⟨cntS st, by omega, st, told ++ [d], ⟨by simp [nI], rfl⟩, rfl, by simp; omega, by simpa using e5⟩, by omega⟩
  | (.node cc ms y m, d) :: st =>
    simp [Tk.cnt, Tk.wys] at e4 e5 hl
    simp [Tk.d, Tk.cnt]
    exact ⟨fun _ => ⟨fun _ => ⟨m.cnt + (y.cnt + cntS st), by omega, (m, d + 1) :: (y, d + 1) :: st, told, ⟨rfl, by simp⟩, by simp, by omega, by simpa using e5⟩, by omega⟩, by omega⟩
theorem wys_len (t : Tk) (d : Nat) : (t.wys d).length = t.lvs := by
  induction t generalizing d with
  | leaf _ => rfl
  | node cc ms y n h1 h2 => simp [Tk.wys, Tk.lvs, h1, h2]; omega
theorem intsOf_nI (xs : List Nat) : intsOf (xs.map nI) = some (xs.map fun (n : Nat) => (n : Int)) := by
  induction xs with
  | nil => rfl
  | cons x xs ih => simp [nI, intsOf] at ih ⊢; rw [ih]
theorem lvs_pos (t : Tk) : 0 < t.lvs := by
  induction t with
  | leaf _ => simp [Tk.lvs]
  | node cc ms y n h1 h2 => simp [Tk.lvs]; omega
theorem wys_mem (t : Tk) (d : Nat) : (∀ x ∈ t.wys d, x ≤ d + t.dep) ∧ d + t.dep ∈ t.wys d := by
  induction t generalizing d with
  | leaf _ => simp [Tk.wys, Tk.dep]
  | node cc ms y n h1 h2 =>
    obtain ⟨a1, a2⟩ := h1 (d + 1)
    obtain ⟨b1, b2⟩ := h2 (d + 1)
    simp only [Tk.wys, Tk.dep, List.mem_append]
    refine ⟨fun x hx => ?_, ?_⟩
    · rcases hx with hx | hx
      · have := b1 x hx; omega
      · have := a1 x hx; omega
    · by_cases c : y.dep ≤ n.dep
      · exact .inl (by rw [show d + (max y.dep n.dep + 1) = d + 1 + n.dep by omega]; exact b2)
      · exact .inr (by rw [show d + (max y.dep n.dep + 1) = d + 1 + y.dep by omega]; exact a2)
theorem max_wys (t : Tk) : maxI ((t.wys 0).map fun (n : Nat) => (n : Int)) = t.dep := by
  have hp : 0 < ((t.wys 0).map fun (n : Nat) => (n : Int)).length := by rw [List.length_map, wys_len]; exact lvs_pos t
  obtain ⟨m1, m2⟩ := maxI_mem hp
  obtain ⟨a1, a2⟩ := wys_mem t 0
  obtain ⟨n, hn, e⟩ := List.mem_map.mp m1
  have h1 := a1 n hn
  have h2 := m2 _ (List.mem_map.mpr ⟨_, a2, rfl⟩)
  simp at h1 h2
  omega
/-- the greatest of the ways' lengths -/
theorem max_ways {t : Tk} {l : Nat} {h : Hh} (e : h[l]? = some (.lst ((t.wys 0).map nI))) : opMaxL (.ref l) h = some (.int t.dep, h) := by
  have hp : 0 < ((t.wys 0).map fun (n : Nat) => (n : Int)).length := by rw [List.length_map, wys_len]; exact lvs_pos t
  simp only [opMaxL, lstI, e, intsOf_nI, if_pos hp, max_wys]
theorem is_int_run (n : Int) (h : Hh) : m__law_is_int [.int n] h = some (.ok (.bl true), h) := by
  refine eq_of_R1 (RX_body rfl ?_)
  simp [d__law_is_int]
theorem ris_at {m : Int} : ∀ {xs : List Int} {lo : Int} {k : Nat} {x : Int}, Ris lo m xs → xs[k]? = some x → x < m ∧ (∀ (l : Int), (k = 0 → l + 1 = lo) → (∀ j, k = j + 1 → xs[j]? = some l) → l < x)
  | [], _, _, _, _, e => by cases e
  | y :: ys, lo, 0, x, ⟨h1, h2, h3⟩, e => by
    cases e
    exact ⟨h2, fun l h _ => by have := h rfl; omega⟩
  | y :: ys, lo, k + 1, x, ⟨h1, h2, h3⟩, e => by
    obtain ⟨a, b⟩ := ris_at (k := k) h3 (by simpa using e)
    refine ⟨a, fun l _ hj => b l (fun z => ?_) fun j ej => ?_⟩
    · subst z
      have := hj 0 rfl
      simp at this
      omega
    · have := hj k rfl
      subst ej
      simpa using this
theorem law_is_talk_run {t : Tk} {r c : Int} {h : Hh} (o : t.ok r c) (hd : t.dep ≤ 60) (hk : t.cnt ≤ 20000) : R1 (m__law_is_talk [t.d, .int r, .int c] h) fun d h' => d = .bl true ∧ Hk [] h h' := by
  refine RX_body rfl ?_
  simp [d__law_is_talk]
  refine RS_while (I := fun n e h' => ∃ (st : List (Tk × Nat)) (many : Int) (o1 o2 o3 o4 : Option D), e = [some t.d, some (.int r), some (.int c), some (.ref h.length), some (.int many), o1, o2, o3, o4] ∧ h' = h ++ [.lst (tkL st)] ∧ n = cntS st ∧ 0 ≤ many ∧ many + n ≤ 20000 ∧ mxS st ≤ 60 ∧ ∀ p ∈ st, p.1.ok r c)
    (fun n e h' ⟨st, many, o1, o2, o3, o4, e1, e2, e3, e4, e5, e6, e7⟩ => ?_) (n := t.cnt) ⟨[(t, 0)], 0, none, none, none, none, rfl, by simp, by simp, by omega, by omega, by simpa using hd, by simpa using o⟩
  subst e1 e2 e3
  have hl := cntS_le st
  match st with
  | [] => simp [Hk.app]
  | (.leaf m, d) :: st =>
    have ok := e7 _ List.mem_cons_self
    simp [Tk.ok] at ok
    simp [Tk.cnt, Tk.dep] at e5 e6 hl
    have h1 : ¬ m < 0 := by omega
    have h2 : ¬ 99 < m := by omega
    simp [Tk.d, Tk.cnt, is_int_run, h1, h2]
    exact ⟨by omega, fun _ => ⟨by omega, fun _ => ⟨cntS st, by omega, st, rfl, rfl, by omega, by omega, by omega, fun a b hm => e7 (a, b) (List.mem_cons_of_mem _ hm)⟩⟩⟩
  | (.node cc ms y m, d) :: st =>
    have ok := e7 _ List.mem_cons_self
    simp [Tk.cnt, Tk.dep] at e5 e6 hl
    obtain ⟨ok1, ok2, ok3⟩ := ok
    have h3 : d ≤ 60 := by omega
    have h3' : ¬ (60 : Int) < d := by omega
    have h4 : ¬ (20000 : Int) < many + 1 := by omega
    cases cc
    · simp [Tk.d, Tk.cnt, dI, h3, h4, h3']
      refine RS_for (it := ⟨ms.map D.int, []⟩) (h1 := h ++ [.lst (tkL st)]) (fun k e h' => h' = h ++ [.lst (tkL st)] ∧ ∃ (last : Int) (o : Option D), e = [some t.d, some (.int r), some (.int c), some (.ref h.length), some (.int (many + 1)), some (.tup [.str rS, .tup (ms.map D.int), y.d, m.d]), some (.int d), some (.int last), o] ∧ (k = 0 → last + 1 = 0) ∧ ∀ j, k = j + 1 → ms[j]? = some last)
        (by simp) ⟨rfl, -1, _, rfl, by simp, fun j hj => by cases hj⟩ (fun k x e h' hk ⟨e1, last, o, e2, q1, q2⟩ => ?_) (fun e h' ⟨e1, last, o, e2, q1, q2⟩ => ?_)
      · subst e1 e2
        rw [List.getElem?_map] at hk
        cases ek : ms[k]? with
        | none => rw [ek] at hk; cases hk
        | some z =>
          rw [ek] at hk
          cases hk
          obtain ⟨a1, a2⟩ := ris_at ok1 ek
          have a3 := a2 last q1 q2
          simp at a1
          have b1 : ¬ z ≤ last := by omega
          have b2 : ¬ r ≤ z := by omega
          refine ⟨ckNil, _, _, rfl, ?_⟩
          simp [is_int_run, b1, b2]
          exact ek
      · subst e1 e2
        refine ⟨ckNil, ?_⟩
        simp
        exact ⟨fun _ => ⟨fun _ => ⟨m.cnt + (y.cnt + cntS st), by omega, (m, d + 1) :: (y, d + 1) :: st, by simp, by simp, by omega, by omega, by simp; omega, fun a b hm => by
          simp at hm
          rcases hm with ⟨rfl, _⟩ | ⟨rfl, _⟩ | hm
          · exact ok3
          · exact ok2
          · exact e7 (a, b) (List.mem_cons_of_mem _ hm)⟩, by omega⟩, by omega⟩
    · simp [Tk.d, Tk.cnt, dI, h3, h4, h3']
      refine RS_for (it := ⟨ms.map D.int, []⟩) (h1 := h ++ [.lst (tkL st)]) (fun k e h' => h' = h ++ [.lst (tkL st)] ∧ ∃ (last : Int) (o : Option D), e = [some t.d, some (.int r), some (.int c), some (.ref h.length), some (.int (many + 1)), some (.tup [.str cS, .tup (ms.map D.int), y.d, m.d]), some (.int d), some (.int last), o] ∧ (k = 0 → last + 1 = 0) ∧ ∀ j, k = j + 1 → ms[j]? = some last)
        (by simp) ⟨rfl, -1, _, rfl, by simp, fun j hj => by cases hj⟩ (fun k x e h' hk ⟨e1, last, o, e2, q1, q2⟩ => ?_) (fun e h' ⟨e1, last, o, e2, q1, q2⟩ => ?_)
      · subst e1 e2
        rw [List.getElem?_map] at hk
        cases ek : ms[k]? with
        | none => rw [ek] at hk; cases hk
        | some z =>
          rw [ek] at hk
          cases hk
          obtain ⟨a1, a2⟩ := ris_at ok1 ek
          have a3 := a2 last q1 q2
          simp at a1
          have b1 : ¬ z ≤ last := by omega
          have b2 : ¬ c ≤ z := by omega
          refine ⟨ckNil, _, _, rfl, ?_⟩
          simp [is_int_run, b1, b2]
          exact ek
      · subst e1 e2
        refine ⟨ckNil, ?_⟩
        simp
        exact ⟨fun _ => ⟨fun _ => ⟨m.cnt + (y.cnt + cntS st), by omega, (m, d + 1) :: (y, d + 1) :: st, by simp, by simp, by omega, by omega, by simp; omega, fun a b hm => by
          simp at hm
          rcases hm with ⟨rfl, _⟩ | ⟨rfl, _⟩ | hm
          · exact ok3
          · exact ok2
          · exact e7 (a, b) (List.mem_cons_of_mem _ hm)⟩, by omega⟩, by omega⟩
/-! ### drawn talks -/
theorem ris_mono {m m' : Int} (h : m ≤ m') : ∀ {xs : List Int} {lo : Int}, Ris lo m xs → Ris lo m' xs
  | [], _, _ => trivial
  | x :: xs, lo, ⟨h1, h2, h3⟩ => ⟨h1, by omega, ris_mono h h3⟩
theorem ris_app {m : Int} : ∀ {xs : List Int} {lo : Int}, Ris lo m xs → lo ≤ m → Ris lo (m + 1) (xs ++ [m])
  | [], lo, _, h => ⟨h, by omega, trivial⟩
  | x :: xs, lo, ⟨h1, h2, h3⟩, h => ⟨h1, by omega, ris_app h3 (by omega)⟩
theorem members_run {l : Nat} {n : Int} {h : Hh} (s : Src l h) (h0 : 0 ≤ n) (h1 : n ≤ 1000) : R1 (m__law_members [.ref l, .int n] h) fun d h' => (∃ ms, d = dI ms ∧ Ris 0 n ms) ∧ Src l h' ∧ Hk [l] h h' := by
  refine RX_body rfl ?_
  have e0 := rg1K_ok (j := n) (h := h) (by omega) (by omega)
  simp [d__law_members, -rg1K_int]
  refine R_lc (it := ⟨rgD 0 n.toNat, []⟩) (h1 := h) (J := fun k ys h' => ∃ ms : List Int, ys = ms.map D.int ∧ Ris 0 k ms ∧ Src l h' ∧ Hk [l] h h') (by simp [e0, -rg1K_int]) (by simp [rgD_length]; omega) ⟨[], rfl, trivial, s, Hk.refl _ _⟩
    (fun k x ys h' hk ⟨ms, e1, e2, s', k'⟩ => ?_) (fun ys h' ⟨ms, e1, e2, s', k'⟩ => ?_)
  · subst e1
    obtain ⟨rfl, hk⟩ := rgD_get hk
    refine ⟨ckNil, _, _, rfl, ?_⟩
    simp
    refine (pick_run s' (by omega) (by omega)).mono fun d h2 ⟨⟨v, ev, v0, v1⟩, s2, k2⟩ => ?_
    subst ev
    simp
    by_cases hv : v = 0
    · simp [hv]
      exact ⟨ms ++ [(k : Int)], by simp, ris_app e2 (by omega), s2, k'.trans k2⟩
    · simp [hv]
      exact ⟨ms, rfl, ris_mono (by omega) e2, s2, k'.trans k2⟩
  · subst e1
    refine ⟨ckNil, ?_⟩
    rw [rgD_length] at e2
    simp
    exact ⟨⟨ms, rfl, by rwa [show ((n.toNat : Nat) : Int) = n by omega] at e2⟩, s'.keep (Hk.app _), k'.app' _⟩
theorem talk_run : ∀ (j : Nat) {l : Nat} {r c dep many : Int} {h : Hh}, Src l h → 0 ≤ r → r ≤ 100 → 0 ≤ c → c ≤ 100 → 0 ≤ dep → dep < j → 1 ≤ many → many ≤ 100 →
    R1 (m__law_talk j [.ref l, .int r, .int c, .int dep, .int many] h) fun d h' => (∃ t : Tk, d = t.d ∧ t.ok r c ∧ (t.dep : Int) ≤ dep ∧ t.cnt + 1 ≤ 2 ^ (dep.toNat + 1)) ∧ Src l h' ∧ Hk [l] h h'
  | 0, _, _, _, _, _, _, _, _, _, _, _, h0, h1, _, _ => by omega
  | j + 1, l, r, c, dep, many, h, s, r0, r1, c0, c1, d0, d1, m0, m1 => by
    refine RX_body rfl ?_
    have leaf : ∀ {h' : Hh}, Src l h' → Hk [l] h h' → R1 (m__law_pick [.ref l, .int many] h') fun d h'' => (∃ t : Tk, D.tup [.str tS, d] = t.d ∧ t.ok r c ∧ (t.dep : Int) ≤ dep ∧ t.cnt + 1 ≤ 2 ^ (dep.toNat + 1)) ∧ Src l h'' ∧ Hk [l] h h'' := fun {h'} s' k' =>
      (pick_run s' (by omega) (by omega)).mono fun d h2 ⟨⟨v, ev, v0, v1⟩, s2, k2⟩ => by
        subst ev
        exact ⟨⟨.leaf v, rfl, ⟨by omega, by omega⟩, by simp [Tk.dep]; omega, by
          have := Nat.pow_le_pow_right (show 0 < 2 by omega) (show 1 ≤ dep.toNat + 1 by omega)
          simpa [Tk.cnt] using this⟩, s2, k'.trans k2⟩
    by_cases hz : dep = 0
    · simp [d__law_talk, hz]
      exact (leaf s (Hk.refl _ _)).mono fun d h' q => by simpa [hz] using q
    simp [d__law_talk, hz]
    refine (pick_run s (by omega) (by omega)).mono fun d h1 ⟨⟨v, ev, v0, v1⟩, s1, k1⟩ => ?_
    subst ev
    by_cases hv : v = 0
    · simp [hv]
      exact (leaf s1 k1).mono fun d h' q => by simpa using q
    simp [hv]
    refine (pick_run s1 (by omega) (by omega)).mono fun d h2 ⟨⟨sd, ev, sd0, sd1⟩, s2, k2⟩ => ?_
    subst ev
    have fin : ∀ (cc : Bool) {h3 : Hh} (ms : List Int), Ris 0 (if cc then c else r) ms → Src l h3 → Hk [l] h h3 → R1 (m__law_talk j [.ref l, .int r, .int c, .int (dep - 1), .int many] h3) fun a h4 => R1 (m__law_talk j [.ref l, .int r, .int c, .int (dep - 1), .int many] h4) fun b h5 =>
        (∃ t : Tk, D.tup [.str (sideS cc), dI ms, a, b] = t.d ∧ t.ok r c ∧ (t.dep : Int) ≤ dep ∧ t.cnt + 1 ≤ 2 ^ (dep.toNat + 1)) ∧ Src l (h5 ++ [O.lst [.str rS, .str cS]]) ∧ Hk [l] h (h5 ++ [O.lst [.str rS, .str cS]]) := fun cc h3 ms hms s3 k3 => by
      refine (talk_run j s3 r0 r1 c0 c1 (by omega) (by omega) m0 m1).mono fun a h4 ⟨⟨ty, ea, oy, dy, cy⟩, s4, k4⟩ => ?_
      refine (talk_run j s4 r0 r1 c0 c1 (by omega) (by omega) m0 m1).mono fun b h5 ⟨⟨tn, eb, on, dn, cn⟩, s5, k5⟩ => ?_
      subst ea eb
      refine ⟨⟨.node cc ms ty tn, rfl, ⟨hms, oy, on⟩, by simp [Tk.dep]; omega, ?_⟩, s5.keep (Hk.app _), ((k3.trans k4).trans k5).app' _⟩
      have e1 : dep.toNat + 1 = (dep - 1).toNat + 1 + 1 := by omega
      rw [e1, Nat.pow_succ]
      show ty.cnt + tn.cnt + 1 + 1 ≤ _
      omega
    have hsd : sd = 0 ∨ sd = 1 := by omega
    rcases hsd with rfl | rfl
    · simp
      refine (members_run s2 r0 (by omega)).mono fun d h3 ⟨⟨ms, ed, hms⟩, s3, k3⟩ => ?_
      subst ed
      refine R1.mono (fin false ms (by simpa using hms) s3 ((k1.trans k2).trans k3)) fun a h4 q => ?_
      refine R1.mono q fun b h5 q => ?_
      simpa using q
    · simp
      refine (members_run s2 c0 (by omega)).mono fun d h3 ⟨⟨ms, ed, hms⟩, s3, k3⟩ => ?_
      subst ed
      refine R1.mono (fin true ms (by simpa using hms) s3 ((k1.trans k2).trans k3)) fun a h4 q => ?_
      refine R1.mono q fun b h5 q => ?_
      simpa using q
/-! ### a way down, and something put at its end -/
def kid (b : Bool) (y n : Tk) : Tk := if b then n else y
inductive Way : Tk → List (Tk × Bool) → Tk → Prop
  | nil (t : Tk) : Way t [] t
  | cons {cc : Bool} {ms : List Int} {y n e : Tk} {b : Bool} {ps : List (Tk × Bool)} : Way (kid b y n) ps e → Way (.node cc ms y n) ((.node cc ms y n, b) :: ps) e
theorem Way.snoc {t : Tk} {ps : List (Tk × Bool)} {cc : Bool} {ms : List Int} {y n : Tk} (b : Bool) (w : Way t ps (.node cc ms y n)) : Way t (ps ++ [(.node cc ms y n, b)]) (kid b y n) := by
  generalize he : Tk.node cc ms y n = e at w
  induction w with
  | nil t => subst he; exact .cons (.nil _)
  | cons w ih => exact .cons (ih he)
def sdI (b : Bool) : D := .int (if b then 3 else 2)
def wyD (p : Tk × Bool) : D := .tup [p.1.d, sdI p.2]
def plug1 (p : Tk × Bool) (x : D) : D := match p.1 with
  | .leaf a => (Tk.leaf a).d
  | .node cc ms y n => .tup [.str (sideS cc), dI ms, if p.2 then y.d else x, if p.2 then x else n.d]
def plug (ps : List (Tk × Bool)) (x : D) : D := ps.foldr plug1 x
def plugT1 (p : Tk × Bool) (x : Tk) : Tk := match p.1 with
  | .leaf a => .leaf a
  | .node cc ms y n => .node cc ms (if p.2 then y else x) (if p.2 then x else n)
def plugT (ps : List (Tk × Bool)) (x : Tk) : Tk := ps.foldr plugT1 x
theorem plug_tk (ps : List (Tk × Bool)) (x : Tk) : plug ps x.d = (plugT ps x).d := by
  induction ps with
  | nil => rfl
  | cons p ps ih =>
    show plug1 p (plug ps x.d) = (plugT1 p (plugT ps x)).d
    rw [ih]
    obtain ⟨t, b⟩ := p
    cases t with
    | leaf a => rfl
    | node cc ms y n => cases b <;> rfl
theorem Way.good {t e : Tk} {ps : List (Tk × Bool)} {r c : Int} (w : Way t ps e) (o : t.ok r c) : e.ok r c ∧ ps.length + e.dep ≤ t.dep ∧ e.cnt + ps.length ≤ t.cnt ∧ (∀ x : Tk, x.ok r c → (plugT ps x).ok r c ∧ (plugT ps x).dep ≤ max t.dep (ps.length + x.dep) ∧ (plugT ps x).cnt + e.cnt = t.cnt + x.cnt) := by
  induction w with
  | nil t => exact ⟨o, by simp, by simp, fun x hx => ⟨hx, by simp [plugT]; omega, by simp [plugT]; omega⟩⟩
  | @cons cc ms y n e b ps w ih =>
    obtain ⟨o1, o2, o3⟩ := o
    cases b with
    | false =>
      obtain ⟨h1, h2, h3, h4⟩ := ih o2
      simp [kid] at h2 h3 h4
      refine ⟨h1, by simp [Tk.dep]; omega, by simp [Tk.cnt]; omega, fun x hx => ?_⟩
      obtain ⟨a1, a2, a3⟩ := h4 x hx
      show (Tk.node cc ms (plugT ps x) n).ok r c ∧ (Tk.node cc ms (plugT ps x) n).dep ≤ _ ∧ (Tk.node cc ms (plugT ps x) n).cnt + _ = _
      exact ⟨⟨o1, a1, o3⟩, by simp [Tk.dep]; omega, by simp [Tk.cnt]; omega⟩
    | true =>
      obtain ⟨h1, h2, h3, h4⟩ := ih o3
      simp [kid] at h2 h3 h4
      refine ⟨h1, by simp [Tk.dep]; omega, by simp [Tk.cnt]; omega, fun x hx => ?_⟩
      obtain ⟨a1, a2, a3⟩ := h4 x hx
      show (Tk.node cc ms y (plugT ps x)).ok r c ∧ (Tk.node cc ms y (plugT ps x)).dep ≤ _ ∧ (Tk.node cc ms y (plugT ps x)).cnt + _ = _
      exact ⟨⟨o1, o2, a1⟩, by simp [Tk.dep]; omega, by simp [Tk.cnt]; omega⟩
theorem Way.node {t e : Tk} {ps : List (Tk × Bool)} (w : Way t ps e) : ∀ p ∈ ps, ∃ cc ms y n, p.1 = .node cc ms y n := by
  induction w with
  | nil t => exact fun p h => nomatch h
  | @cons cc ms y n e b ps w ih =>
    intro p h
    rcases List.mem_cons.mp h with rfl | h
    · exact ⟨_, _, _, _, rfl⟩
    · exact ih p h
theorem Way.nil_eq {t e : Tk} (w : Way t [] e) : e = t := by
  cases w
  rfl
/-- the last node's own branch is the end -/
theorem Way.last {t e : Tk} {ps : List (Tk × Bool)} (w : Way t ps e) {p : Tk × Bool} (hp : ps.getLast? = some p) : ∃ cc ms y n, p.1 = .node cc ms y n ∧ e = kid p.2 y n := by
  induction w with
  | nil t => cases hp
  | @cons cc ms y n e b ps w ih =>
    cases ps with
    | nil =>
      cases hp
      exact ⟨_, _, _, _, rfl, Way.nil_eq w⟩
    | cons q qs => exact ih (by simpa using hp)
theorem way_down_run {l : Nat} {t : Tk} {h : Hh} (s : Src l h) (hd : t.dep ≤ 1000) : R1 (m__law_way_down [.ref l, t.d] h) fun d h' => ∃ ps e, d = .ref h.length ∧ h'[h.length]? = some (.lst (ps.map wyD)) ∧ Way t ps e ∧ Src l h' ∧ Hk [l] h h' := by
  have hl := s.lt
  refine RX_body rfl ?_
  simp [d__law_way_down]
  refine RS_while (I := fun n e h' => ∃ (ps : List (Tk × Bool)) (t' : Tk) (o : Option D), e = [some (.ref l), some t'.d, some (.ref h.length), o] ∧ h'[h.length]? = some (.lst (ps.map wyD)) ∧ Way t ps t' ∧ n = t'.dep ∧ ps.length + t'.dep ≤ t.dep ∧ Src l h' ∧ Hk [l] h h')
    (fun n e h' ⟨ps, t', o, e1, e2, w, e4, e5, s', k'⟩ => ?_) (n := t.dep) ⟨[], t, none, rfl, by simp, .nil t, rfl, by simp, s.keep (Hk.app _), (Hk.refl _ _).app' _⟩
  subst e1 e4
  have fin : ∀ {h2 : Hh}, Hk [l] h' h2 → h2[h.length]? = some (.lst (ps.map wyD)) := fun k => k.at e2 (by simp; omega)
  cases t' with
  | leaf m =>
    simp [Tk.d]
    exact ⟨ps, e2, ⟨_, w⟩, s', k'⟩
  | node cc ms y n =>
    simp [Tk.d]
    refine (pick_run s' (by omega) (by omega)).mono fun d h1 ⟨⟨v, ev, v0, v1⟩, s1, k1⟩ => ?_
    subst ev
    by_cases hv : 0 < v
    rotate_left
    · simp [hv]
      exact ⟨ps, fin k1, ⟨_, w⟩, s1, k'.trans k1⟩
    simp [hv]
    refine (pick_run s1 (by omega) (by omega)).mono fun d h2 ⟨⟨sd, ev, sd0, sd1⟩, s2, k2⟩ => ?_
    subst ev
    have e3 := fin (k1.trans k2)
    have hlen : ps.length < 16777216 := by omega
    have kk : Hk [l] h (h2.set h.length (.lst (ps.map wyD ++ [wyD (.node cc ms y n, decide (sd = 1))]))) := ((k'.trans k1).trans k2).new (Nat.le_refl _)
    have ss : Src l (h2.set h.length (.lst (ps.map wyD ++ [wyD (.node cc ms y n, decide (sd = 1))]))) := s2.keep' hl fun i hi => by
      rw [List.getElem?_set_ne (by omega)]
    simp [Tk.dep] at e5
    have hsd : sd = 0 ∨ sd = 1 := by omega
    rcases hsd with rfl | rfl
    · simp [e3, hlen, Tk.dep, wyD, sdI, Tk.d] at kk ss ⊢
      exact ⟨y.dep, by omega, ps ++ [(.node cc ms y n, false)], y, rfl, by rw [set_at e3]; simp [wyD, sdI, Tk.d], w.snoc false, rfl, by simp; omega, ss, kk⟩
    · simp [e3, hlen, Tk.dep, wyD, sdI, Tk.d] at kk ss ⊢
      exact ⟨n.dep, by omega, ps ++ [(.node cc ms y n, true)], n, rfl, by rw [set_at e3]; simp [wyD, sdI, Tk.d], w.snoc true, rfl, by simp; omega, ss, kk⟩
theorem cut4a {a b c d : D} : cutD [a, b, c, d] none (some 2) = [a, b] := rfl
theorem cut4b {a b c d : D} : cutD [a, b, c, d] none (some 3) = [a, b, c] := rfl
theorem cut4c {a b c d : D} : cutD [a, b, c, d] (some 3) none = [d] := rfl
theorem cut4d {a b c d : D} : cutD [a, b, c, d] (some 4) none = [] := rfl
theorem put_run {a : Nat} {ps : List (Tk × Bool)} {x : D} {h : Hh} (e : h[a]? = some (.lst (ps.map wyD))) (hp : ∀ p ∈ ps, ∃ cc ms y n, p.1 = .node cc ms y n) : R1 (m__law_put [.ref a, x] h) fun d h' => d = plug ps x ∧ Hk [] h h' := by
  refine RX_body rfl ?_
  simp [d__law_put]
  refine RS_for (it := ⟨(ps.map wyD).reverse, [(h.length, (ps.map wyD).reverse)]⟩) (h1 := h ++ [.lst (ps.map wyD).reverse]) (fun k e h' => h' = h ++ [.lst (ps.map wyD).reverse] ∧ ∃ o1 o2, e = [some (.ref a), some (plug (ps.drop (ps.length - k)) x), o1, o2])
    (by simp [e]) ⟨rfl, none, none, by simp [plug]⟩ (fun k z e' h' hk ⟨e1, o1, o2, e2⟩ => ?_) (fun e' h' ⟨e1, o1, o2, e2⟩ => ?_)
  · subst e1 e2
    refine ⟨ckOne (by simp), ?_⟩
    have hlt := (List.getElem?_eq_some_iff.mp hk).1
    simp at hlt
    have hz := (List.getElem?_eq_some_iff.mp hk).2
    simp at hz
    have hm : ps.length - 1 - k < ps.length := by omega
    obtain ⟨cc, ms, y, n, en⟩ := hp _ (List.getElem_mem hm)
    have ed : ps.drop (ps.length - (k + 1)) = ps[ps.length - 1 - k] :: ps.drop (ps.length - k) := by
      rw [List.drop_eq_getElem_cons (by omega)]
      congr 1
      · congr 1; omega
      · congr 1; omega
    have ep : plug (ps.drop (ps.length - (k + 1))) x = plug1 ps[ps.length - 1 - k] (plug (ps.drop (ps.length - k)) x) := by rw [ed]; rfl
    rw [ep, ← hz]
    generalize plug (ps.drop (ps.length - k)) x = q
    generalize ps[ps.length - 1 - k] = p at en
    obtain ⟨t, b⟩ := p
    dsimp only at en
    subst en
    cases b <;> refine ⟨_, _, rfl, ?_⟩ <;> simp [sdI, Tk.d, plug1, cut4a, cut4b, cut4c, cut4d]
  · subst e1 e2
    refine ⟨ckOne (by simp), ?_⟩
    simp [Hk.app]
/-- Bad pieces make bad talks -/
theorem Way.bad {t e : Tk} {ps : List (Tk × Bool)} {r c : Int} (w : Way t ps e) (o : t.ok r c) {x : D} {k : Nat} : ∀ {d : Nat}, d + t.dep ≤ 60 → Bad r c (d + ps.length) x k → ∃ j, Bad r c d (plug ps x) j := by
  induction w with
  | nil t => exact fun _ hb => ⟨k, hb⟩
  | @cons cc ms y n e b ps w ih =>
    intro d hd hb
    obtain ⟨o1, o2, o3⟩ := o
    simp [Tk.dep] at hd
    cases b with
    | false =>
      obtain ⟨j, q⟩ := ih o2 (d := d + 1) (by simp [kid]; omega) (by simpa [Nat.add_assoc, Nat.add_comm 1] using hb)
      exact ⟨_, .inY (okD_dI ms) (ris_D (last := -1) o1) q (Tk.good o3 (by omega))⟩
    | true =>
      obtain ⟨j, q⟩ := ih o3 (d := d + 1) (by simp [kid]; omega) (by simpa [Nat.add_assoc, Nat.add_comm 1] using hb)
      exact ⟨_, .inN (okD_dI ms) (ris_D (last := -1) o1) q⟩
theorem atI_last {α : Type} {xs : List α} {x : α} (e : xs.getLast? = some x) : atI xs (-1) = some x := by
  have hp : 0 < xs.length := by cases xs <;> simp at e ⊢
  unfold atI ixN
  rw [if_neg (by omega), if_pos (by omega)]
  rw [List.getLast?_eq_getElem?] at e
  simp
  rw [show ((-1 : Int) + xs.length).toNat = xs.length - 1 by omega]
  exact e
theorem Way.oks {t e : Tk} {ps : List (Tk × Bool)} {r c : Int} (w : Way t ps e) (o : t.ok r c) : ∀ p ∈ ps, p.1.ok r c := by
  induction w with
  | nil t => exact fun p h => nomatch h
  | @cons cc ms y n e b ps w ih =>
    intro p h
    rcases List.mem_cons.mp h with rfl | h
    · exact o
    · exact ih (by cases b <;> simp [kid] <;> first | exact o.2.1 | exact o.2.2) p h
theorem ris_rg (n : Int) : Ris 0 n (rg n) := by
  have key : ∀ k : Nat, Ris 0 (k : Int) ((List.range k).map fun (i : Nat) => (i : Int)) := fun k => by
    induction k with
    | zero => trivial
    | succ k ih =>
      rw [List.range_succ, List.map_append]
      have := ris_app ih (by omega)
      simpa using this
  unfold rg
  by_cases h : 0 ≤ n
  · have := key n.toNat
    rwa [show ((n.toNat : Nat) : Int) = n by omega] at this
  · rw [show n.toNat = 0 by omega]
    trivial
theorem idled_run {l : Nat} {t : Tk} {r c many : Int} {h : Hh} (s : Src l h) (o : t.ok r c) (hd : t.dep ≤ 50) (r0 : 0 ≤ r) (r1 : r ≤ 100) (c0 : 0 ≤ c) (c1 : c ≤ 100) (m0 : 1 ≤ many) (m1 : many ≤ 100) :
    R1 (m__law_idled [.ref l, t.d, .int r, .int c, .int many] h) fun d h' => (∃ t' : Tk, d = t'.d ∧ t'.ok r c ∧ t'.dep ≤ t.dep + 6 ∧ t'.cnt ≤ t.cnt + 12) ∧ Src l h' ∧ Hk [l] h h' := by
  refine RX_body rfl ?_
  simp [d__law_idled]
  unfold sFor
  simp [-rg1K_int]
  refine (pick_run s (by omega) (by omega)).mono fun d h1 ⟨⟨v, ev, v0, v1⟩, s1, k1⟩ => ?_
  subst ev
  rw [rg1K_ok (by omega) (by omega)]
  simp
  refine RS_forL (I := fun k e h' => ∃ (t' : Tk) (o5 o6 o7 o8 o9 o10 o11 o12 o13 o14 : Option D), e = [some (.ref l), some t'.d, some (.int r), some (.int c), some (.int many), o5, o6, o7, o8, o9, o10, o11, o12, o13, o14] ∧ t'.ok r c ∧ t'.dep ≤ t.dep + k ∧ t'.cnt ≤ t.cnt + 2 * k ∧ Src l h' ∧ Hk [l] h h')
    (rgD 0 v.toNat) (fun k x e h' hk ⟨t', o5, o6, o7, o8, o9, o10, o11, o12, o13, o14, e1, q1, q2, q3, s', k'⟩ => ?_) (fun e h' ⟨t', o5, o6, o7, o8, o9, o10, o11, o12, o13, o14, e1, q1, q2, q3, s', k'⟩ => ?_) _ 0 rfl (Nat.zero_le _) ⟨t, _, _, _, _, _, _, _, _, _, _, rfl, o, by omega, by omega, s1, k1⟩
  · subst e1
    obtain ⟨rfl, hk⟩ := rgD_get hk
    refine ⟨ckNil, _, _, rfl, ?_⟩
    simp
    refine (way_down_run s' (by omega)).mono fun d h2 ⟨ps, e, ed, ea, w, s2, k2⟩ => ?_
    subst ed
    obtain ⟨g1, g2, g3, g4⟩ := w.good q1
    have hl := s'.lt
    have at_ : ∀ {h3 : Hh}, Hk [l] h2 h3 → h3[h'.length]? = some (.lst (ps.map wyD)) := fun k => k.at ea (by simp; omega)
    have oks := w.oks q1
    have nodes := w.node
    have fin : ∀ (x : Tk) {h5 : Hh}, x.ok r c → x.dep ≤ e.dep + 1 → x.cnt ≤ e.cnt + 2 → Src l h5 → Hk [l] h2 h5 → R1 (m__law_put [.ref h'.length, x.d] h5) fun a h6 => ∃ t2 : Tk, a = t2.d ∧ t2.ok r c ∧ t2.dep ≤ t.dep + (k + 1) ∧ t2.cnt ≤ t.cnt + 2 * (k + 1) ∧ Src l h6 ∧ Hk [l] h h6 := fun x h5 x1 x2 x3 s5 k5 => by
      refine (put_run (at_ k5) nodes).mono fun a h6 ⟨ea, k6⟩ => ?_
      rw [plug_tk] at ea
      obtain ⟨a1, a2, a3⟩ := g4 x x1
      exact ⟨_, ea, a1, by omega, by omega, s5.keep k6, ((k'.trans k2).trans k5).trans k6.nil⟩
    cases hps : ps.getLast? with
    | none =>
      have : ps = [] := by simpa using hps
      subst this
      have he : t'.d = e.d := by rw [w.nil_eq]
      simp [ea, he]
      refine (pick_run s2 (by omega) (by omega)).mono fun d h3 ⟨⟨v3, ev, v30, v31⟩, s3, k3⟩ => ?_
      subst ev
      refine (pick_run (s3.keep (Hk.app _)) (by omega) (by omega)).mono fun d h4 ⟨⟨sd, ev, sd0, sd1⟩, s4, k4⟩ => ?_
      subst ev
      have e34 := k4.at (show (h3 ++ [O.lst [D.tup [.str rS, .int r], D.tup [.str cS, .int c]]])[h3.length]? = some (O.lst [D.tup [.str rS, .int r], D.tup [.str cS, .int c]]) by simp) (by have := k2.1; have := k3.1; simp; omega)
      have k24 := (k3.app' [O.lst [D.tup [.str rS, .int r], D.tup [.str cS, .int c]]]).trans k4
      obtain ⟨cc, ecc⟩ : ∃ cc : Bool, sd = if cc then 1 else 0 := by
        have : sd = 0 ∨ sd = 1 := by omega
        rcases this with rfl | rfl
        · exact ⟨false, rfl⟩
        · exact ⟨true, rfl⟩
      subst ecc
      cases cc
      · simp [e34]
        refine (pick_run s4 (by omega) (by omega)).mono fun d h5 ⟨⟨st, ev, st0, st1⟩, s5, k5⟩ => ?_
        subst ev
        have k25 := k24.trans k5
        have ea5 := at_ k25
        have leaf : R1 (m__law_put [.ref h'.length, .tup [.str (sideS false), .tup [], .tup [.str tS, .int v3], e.d]] h5) fun a h6 => ∃ t2 : Tk, a = t2.d ∧ t2.ok r c ∧ t2.dep ≤ t.dep + (k + 1) ∧ t2.cnt ≤ t.cnt + 2 * (k + 1) ∧ Src l h6 ∧ Hk [l] h h6 :=
          fin (.node false [] (.leaf v3) e) ⟨trivial, ⟨by omega, by omega⟩, g1⟩ (by simp [Tk.dep]) (by simp [Tk.cnt]; omega) s5 k25
        by_cases z0 : st = 0
        · simp [z0]
          exact leaf
        simp [z0, ea5]
        exact leaf
      · simp [e34]
        refine (pick_run s4 (by omega) (by omega)).mono fun d h5 ⟨⟨st, ev, st0, st1⟩, s5, k5⟩ => ?_
        subst ev
        have k25 := k24.trans k5
        have ea5 := at_ k25
        have leaf : R1 (m__law_put [.ref h'.length, .tup [.str (sideS true), .tup [], .tup [.str tS, .int v3], e.d]] h5) fun a h6 => ∃ t2 : Tk, a = t2.d ∧ t2.ok r c ∧ t2.dep ≤ t.dep + (k + 1) ∧ t2.cnt ≤ t.cnt + 2 * (k + 1) ∧ Src l h6 ∧ Hk [l] h h6 :=
          fin (.node true [] (.leaf v3) e) ⟨trivial, ⟨by omega, by omega⟩, g1⟩ (by simp [Tk.dep]) (by simp [Tk.cnt]; omega) s5 k25
        by_cases z0 : st = 0
        · simp [z0]
          exact leaf
        simp [z0, ea5]
        exact leaf
    | some p =>
      obtain ⟨cc, ms, y, n, ep, ee⟩ := w.last hps
      obtain ⟨pt, b⟩ := p
      dsimp only at ep ee
      subst ep
      have hne : ps ≠ [] := fun z => by rw [z] at hps; cases hps
      have hpos : 0 < ps.length := List.length_pos_iff.mpr hne
      have ha : atI (ps.map wyD) (-1) = some (wyD (.node cc ms y n, b)) := atI_last (by rw [List.getLast?_map, hps]; rfl)
      cases b
      · have he : y.d = e.d := by rw [ee]; rfl
        simp [ea, hpos, ha, wyD, sdI, Tk.d, he]
        refine (pick_run s2 (by omega) (by omega)).mono fun d h3 ⟨⟨v3, ev, v30, v31⟩, s3, k3⟩ => ?_
        subst ev
        refine (pick_run (s3.keep (Hk.app _)) (by omega) (by omega)).mono fun d h4 ⟨⟨sd, ev, sd0, sd1⟩, s4, k4⟩ => ?_
        subst ev
        have e34 := k4.at (show (h3 ++ [O.lst [D.tup [.str rS, .int r], D.tup [.str cS, .int c]]])[h3.length]? = some (O.lst [D.tup [.str rS, .int r], D.tup [.str cS, .int c]]) by simp) (by have := k2.1; have := k3.1; simp; omega)
        have k24 := (k3.app' [O.lst [D.tup [.str rS, .int r], D.tup [.str cS, .int c]]]).trans k4
        obtain ⟨cc, ecc⟩ : ∃ cc : Bool, sd = if cc then 1 else 0 := by
          have : sd = 0 ∨ sd = 1 := by omega
          rcases this with rfl | rfl
          · exact ⟨false, rfl⟩
          · exact ⟨true, rfl⟩
        subst ecc
        cases cc
        · simp [e34]
          refine (pick_run s4 (by omega) (by omega)).mono fun d h5 ⟨⟨st, ev, st0, st1⟩, s5, k5⟩ => ?_
          subst ev
          have k25 := k24.trans k5
          have ea5 := at_ k25
          have leaf : R1 (m__law_put [.ref h'.length, .tup [.str (sideS false), .tup [], .tup [.str tS, .int v3], e.d]] h5) fun a h6 => ∃ t2 : Tk, a = t2.d ∧ t2.ok r c ∧ t2.dep ≤ t.dep + (k + 1) ∧ t2.cnt ≤ t.cnt + 2 * (k + 1) ∧ Src l h6 ∧ Hk [l] h h6 :=
            fin (.node false [] (.leaf v3) e) ⟨trivial, ⟨by omega, by omega⟩, g1⟩ (by simp [Tk.dep]) (by simp [Tk.cnt]; omega) s5 k25
          by_cases z0 : st = 0
          · simp [z0]
            exact leaf
          by_cases z1 : st = 1
          · simp [z1, ea5, hne, -rg1K_int]
            refine R1.of (lc_pure (h1 := h5) (ck := []) (xs := rgD 0 r.toNat) some (by simp [-rg1K_int]; rw [rg1K_ok (by omega) (by omega)]) ckNil (by rw [rgD_length, sizeL]; omega) (fun x hx => ⟨_, rfl, .inr ⟨rfl, x, by simp, rfl⟩⟩)) ?_
            have er : D.tup (rgD 0 r.toNat) = dI (rg r) := by simpa using rgD_rg r
            simp [er]
            exact fin (.node false (rg r) e (.leaf v3)) ⟨ris_rg r, g1, ⟨by omega, by omega⟩⟩ (by simp [Tk.dep]) (by simp [Tk.cnt]) (s5.keep (Hk.app _)) (k25.app' _)
          simp [z0, z1, ea5, hne]
          refine (pick_run s5 (by omega) (by omega)).mono fun d h6 ⟨⟨iv, ev, iv0, iv1⟩, s6, k6⟩ => ?_
          subst ev
          have k26 := k25.trans k6
          have ea6 := at_ k26
          have hiv : iv.toNat < ps.length := by omega
          obtain ⟨c3, ms3, y3, n3, ep3⟩ := nodes _ (List.getElem_mem hiv)
          have ok3 := oks _ (List.getElem_mem hiv)
          have ha3 : atI (ps.map wyD) iv = some (wyD ps[iv.toNat]) := by
            rw [atI_get (j := iv.toNat) (by omega) (by simpa using hiv)]
            simp
          generalize ps[iv.toNat] = p3 at ep3 ok3 ha3
          obtain ⟨pt3, b3⟩ := p3
          dsimp only at ep3
          subst ep3
          cases b3
          · simp [ea6, ha3, wyD, sdI, Tk.d]
            exact fin (.node c3 ms3 e (.leaf v3)) ⟨ok3.1, g1, ⟨by omega, by omega⟩⟩ (by simp [Tk.dep]) (by simp [Tk.cnt]) s6 k26
          · simp [ea6, ha3, wyD, sdI, Tk.d]
            exact fin (.node c3 ms3 (.leaf v3) e) ⟨ok3.1, ⟨by omega, by omega⟩, g1⟩ (by simp [Tk.dep]) (by simp [Tk.cnt]; omega) s6 k26
        · simp [e34]
          refine (pick_run s4 (by omega) (by omega)).mono fun d h5 ⟨⟨st, ev, st0, st1⟩, s5, k5⟩ => ?_
          subst ev
          have k25 := k24.trans k5
          have ea5 := at_ k25
          have leaf : R1 (m__law_put [.ref h'.length, .tup [.str (sideS true), .tup [], .tup [.str tS, .int v3], e.d]] h5) fun a h6 => ∃ t2 : Tk, a = t2.d ∧ t2.ok r c ∧ t2.dep ≤ t.dep + (k + 1) ∧ t2.cnt ≤ t.cnt + 2 * (k + 1) ∧ Src l h6 ∧ Hk [l] h h6 :=
            fin (.node true [] (.leaf v3) e) ⟨trivial, ⟨by omega, by omega⟩, g1⟩ (by simp [Tk.dep]) (by simp [Tk.cnt]; omega) s5 k25
          by_cases z0 : st = 0
          · simp [z0]
            exact leaf
          by_cases z1 : st = 1
          · simp [z1, ea5, hne, -rg1K_int]
            refine R1.of (lc_pure (h1 := h5) (ck := []) (xs := rgD 0 c.toNat) some (by simp [-rg1K_int]; rw [rg1K_ok (by omega) (by omega)]) ckNil (by rw [rgD_length, sizeL]; omega) (fun x hx => ⟨_, rfl, .inr ⟨rfl, x, by simp, rfl⟩⟩)) ?_
            have er : D.tup (rgD 0 c.toNat) = dI (rg c) := by simpa using rgD_rg c
            simp [er]
            exact fin (.node true (rg c) e (.leaf v3)) ⟨ris_rg c, g1, ⟨by omega, by omega⟩⟩ (by simp [Tk.dep]) (by simp [Tk.cnt]) (s5.keep (Hk.app _)) (k25.app' _)
          simp [z0, z1, ea5, hne]
          refine (pick_run s5 (by omega) (by omega)).mono fun d h6 ⟨⟨iv, ev, iv0, iv1⟩, s6, k6⟩ => ?_
          subst ev
          have k26 := k25.trans k6
          have ea6 := at_ k26
          have hiv : iv.toNat < ps.length := by omega
          obtain ⟨c3, ms3, y3, n3, ep3⟩ := nodes _ (List.getElem_mem hiv)
          have ok3 := oks _ (List.getElem_mem hiv)
          have ha3 : atI (ps.map wyD) iv = some (wyD ps[iv.toNat]) := by
            rw [atI_get (j := iv.toNat) (by omega) (by simpa using hiv)]
            simp
          generalize ps[iv.toNat] = p3 at ep3 ok3 ha3
          obtain ⟨pt3, b3⟩ := p3
          dsimp only at ep3
          subst ep3
          cases b3
          · simp [ea6, ha3, wyD, sdI, Tk.d]
            exact fin (.node c3 ms3 e (.leaf v3)) ⟨ok3.1, g1, ⟨by omega, by omega⟩⟩ (by simp [Tk.dep]) (by simp [Tk.cnt]) s6 k26
          · simp [ea6, ha3, wyD, sdI, Tk.d]
            exact fin (.node c3 ms3 (.leaf v3) e) ⟨ok3.1, ⟨by omega, by omega⟩, g1⟩ (by simp [Tk.dep]) (by simp [Tk.cnt]; omega) s6 k26
      · have he : n.d = e.d := by rw [ee]; rfl
        simp [ea, hpos, ha, wyD, sdI, Tk.d, he]
        refine (pick_run s2 (by omega) (by omega)).mono fun d h3 ⟨⟨v3, ev, v30, v31⟩, s3, k3⟩ => ?_
        subst ev
        refine (pick_run (s3.keep (Hk.app _)) (by omega) (by omega)).mono fun d h4 ⟨⟨sd, ev, sd0, sd1⟩, s4, k4⟩ => ?_
        subst ev
        have e34 := k4.at (show (h3 ++ [O.lst [D.tup [.str rS, .int r], D.tup [.str cS, .int c]]])[h3.length]? = some (O.lst [D.tup [.str rS, .int r], D.tup [.str cS, .int c]]) by simp) (by have := k2.1; have := k3.1; simp; omega)
        have k24 := (k3.app' [O.lst [D.tup [.str rS, .int r], D.tup [.str cS, .int c]]]).trans k4
        obtain ⟨cc, ecc⟩ : ∃ cc : Bool, sd = if cc then 1 else 0 := by
          have : sd = 0 ∨ sd = 1 := by omega
          rcases this with rfl | rfl
          · exact ⟨false, rfl⟩
          · exact ⟨true, rfl⟩
        subst ecc
        cases cc
        · simp [e34]
          refine (pick_run s4 (by omega) (by omega)).mono fun d h5 ⟨⟨st, ev, st0, st1⟩, s5, k5⟩ => ?_
          subst ev
          have k25 := k24.trans k5
          have ea5 := at_ k25
          have leaf : R1 (m__law_put [.ref h'.length, .tup [.str (sideS false), .tup [], .tup [.str tS, .int v3], e.d]] h5) fun a h6 => ∃ t2 : Tk, a = t2.d ∧ t2.ok r c ∧ t2.dep ≤ t.dep + (k + 1) ∧ t2.cnt ≤ t.cnt + 2 * (k + 1) ∧ Src l h6 ∧ Hk [l] h h6 :=
            fin (.node false [] (.leaf v3) e) ⟨trivial, ⟨by omega, by omega⟩, g1⟩ (by simp [Tk.dep]) (by simp [Tk.cnt]; omega) s5 k25
          by_cases z0 : st = 0
          · simp [z0]
            exact leaf
          by_cases z1 : st = 1
          · simp [z1, ea5, hne, -rg1K_int]
            refine R1.of (lc_pure (h1 := h5) (ck := []) (xs := rgD 0 r.toNat) some (by simp [-rg1K_int]; rw [rg1K_ok (by omega) (by omega)]) ckNil (by rw [rgD_length, sizeL]; omega) (fun x hx => ⟨_, rfl, .inr ⟨rfl, x, by simp, rfl⟩⟩)) ?_
            have er : D.tup (rgD 0 r.toNat) = dI (rg r) := by simpa using rgD_rg r
            simp [er]
            exact fin (.node false (rg r) e (.leaf v3)) ⟨ris_rg r, g1, ⟨by omega, by omega⟩⟩ (by simp [Tk.dep]) (by simp [Tk.cnt]) (s5.keep (Hk.app _)) (k25.app' _)
          simp [z0, z1, ea5, hne]
          refine (pick_run s5 (by omega) (by omega)).mono fun d h6 ⟨⟨iv, ev, iv0, iv1⟩, s6, k6⟩ => ?_
          subst ev
          have k26 := k25.trans k6
          have ea6 := at_ k26
          have hiv : iv.toNat < ps.length := by omega
          obtain ⟨c3, ms3, y3, n3, ep3⟩ := nodes _ (List.getElem_mem hiv)
          have ok3 := oks _ (List.getElem_mem hiv)
          have ha3 : atI (ps.map wyD) iv = some (wyD ps[iv.toNat]) := by
            rw [atI_get (j := iv.toNat) (by omega) (by simpa using hiv)]
            simp
          generalize ps[iv.toNat] = p3 at ep3 ok3 ha3
          obtain ⟨pt3, b3⟩ := p3
          dsimp only at ep3
          subst ep3
          cases b3
          · simp [ea6, ha3, wyD, sdI, Tk.d]
            exact fin (.node c3 ms3 e (.leaf v3)) ⟨ok3.1, g1, ⟨by omega, by omega⟩⟩ (by simp [Tk.dep]) (by simp [Tk.cnt]) s6 k26
          · simp [ea6, ha3, wyD, sdI, Tk.d]
            exact fin (.node c3 ms3 (.leaf v3) e) ⟨ok3.1, ⟨by omega, by omega⟩, g1⟩ (by simp [Tk.dep]) (by simp [Tk.cnt]; omega) s6 k26
        · simp [e34]
          refine (pick_run s4 (by omega) (by omega)).mono fun d h5 ⟨⟨st, ev, st0, st1⟩, s5, k5⟩ => ?_
          subst ev
          have k25 := k24.trans k5
          have ea5 := at_ k25
          have leaf : R1 (m__law_put [.ref h'.length, .tup [.str (sideS true), .tup [], .tup [.str tS, .int v3], e.d]] h5) fun a h6 => ∃ t2 : Tk, a = t2.d ∧ t2.ok r c ∧ t2.dep ≤ t.dep + (k + 1) ∧ t2.cnt ≤ t.cnt + 2 * (k + 1) ∧ Src l h6 ∧ Hk [l] h h6 :=
            fin (.node true [] (.leaf v3) e) ⟨trivial, ⟨by omega, by omega⟩, g1⟩ (by simp [Tk.dep]) (by simp [Tk.cnt]; omega) s5 k25
          by_cases z0 : st = 0
          · simp [z0]
            exact leaf
          by_cases z1 : st = 1
          · simp [z1, ea5, hne, -rg1K_int]
            refine R1.of (lc_pure (h1 := h5) (ck := []) (xs := rgD 0 c.toNat) some (by simp [-rg1K_int]; rw [rg1K_ok (by omega) (by omega)]) ckNil (by rw [rgD_length, sizeL]; omega) (fun x hx => ⟨_, rfl, .inr ⟨rfl, x, by simp, rfl⟩⟩)) ?_
            have er : D.tup (rgD 0 c.toNat) = dI (rg c) := by simpa using rgD_rg c
            simp [er]
            exact fin (.node true (rg c) e (.leaf v3)) ⟨ris_rg c, g1, ⟨by omega, by omega⟩⟩ (by simp [Tk.dep]) (by simp [Tk.cnt]) (s5.keep (Hk.app _)) (k25.app' _)
          simp [z0, z1, ea5, hne]
          refine (pick_run s5 (by omega) (by omega)).mono fun d h6 ⟨⟨iv, ev, iv0, iv1⟩, s6, k6⟩ => ?_
          subst ev
          have k26 := k25.trans k6
          have ea6 := at_ k26
          have hiv : iv.toNat < ps.length := by omega
          obtain ⟨c3, ms3, y3, n3, ep3⟩ := nodes _ (List.getElem_mem hiv)
          have ok3 := oks _ (List.getElem_mem hiv)
          have ha3 : atI (ps.map wyD) iv = some (wyD ps[iv.toNat]) := by
            rw [atI_get (j := iv.toNat) (by omega) (by simpa using hiv)]
            simp
          generalize ps[iv.toNat] = p3 at ep3 ok3 ha3
          obtain ⟨pt3, b3⟩ := p3
          dsimp only at ep3
          subst ep3
          cases b3
          · simp [ea6, ha3, wyD, sdI, Tk.d]
            exact fin (.node c3 ms3 e (.leaf v3)) ⟨ok3.1, g1, ⟨by omega, by omega⟩⟩ (by simp [Tk.dep]) (by simp [Tk.cnt]) s6 k26
          · simp [ea6, ha3, wyD, sdI, Tk.d]
            exact fin (.node c3 ms3 (.leaf v3) e) ⟨ok3.1, ⟨by omega, by omega⟩, g1⟩ (by simp [Tk.dep]) (by simp [Tk.cnt]; omega) s6 k26
  · refine ⟨ckNil, ?_⟩
    rw [rgD_length] at q2 q3
    subst e1
    simp
    exact ⟨⟨t', rfl, q1, by omega, by omega⟩, s', k'⟩
theorem eraseIdx_mapD : ∀ {xs : List Int} {i : Nat}, (xs.map D.int).eraseIdx i = (xs.eraseIdx i).map D.int
  | [], _ => rfl
  | x :: xs, 0 => rfl
  | x :: xs, i + 1 => by
    show D.int x :: (xs.map D.int).eraseIdx i = D.int x :: (xs.eraseIdx i).map D.int
    rw [eraseIdx_mapD]
def orF (F : En → Hh → Prop) (Q : Fl → En → Hh → Prop) : Fl → En → Hh → Prop := fun f e h => match f with
  | .nx => F e h
  | f => Q f e h
theorem orF_to {F : En → Hh → Prop} {Q : Fl → En → Hh → Prop} {x : Os} (r : RS x (orF F Q)) (f : ∀ e h, F e h → Q .nx e h) : RS x Q :=
  RS.mono r fun a e h q => by cases a <;> first | exact f e h q | exact q
@[simp] theorem orF_nx {F : En → Hh → Prop} {Q : Fl → En → Hh → Prop} {e : En} {h : Hh} : orF F Q .nx e h ↔ F e h := Iff.rfl
@[simp] theorem orF_rt {F : En → Hh → Prop} {Q : Fl → En → Hh → Prop} {e : En} {h : Hh} {d : D} : orF F Q (.rt d) e h ↔ Q (.rt d) e h := Iff.rfl
theorem pop_at {l : Nat} {xs : List Int} {i : Int} {h : Hh} (e : h[l]? = some (.lst (xs.map D.int))) (h0 : 0 ≤ i) (h1 : i < xs.length) (h2 : xs.length ≤ 1000) : ∃ x ∈ xs, mPop (.ref l) [.int i] h = some (.int x, h.set l (.lst ((xs.eraseIdx i.toNat).map D.int))) := by
  have hi : i.toNat < xs.length := by omega
  refine ⟨xs[i.toNat], List.getElem_mem hi, ?_⟩
  have e1 : (xs.map D.int)[i.toNat]? = some (.int xs[i.toNat]) := by simp [hi]
  unfold mPop
  rw [v_lstAt, e]
  simp only [wrO_lst, Option.map_some]
  rw [if_pos ⟨h0, by rw [List.length_map]; exact h1, by omega⟩, e1]
  simp [eraseIdx_mapD]
theorem ris_lo {m : Int} {xs : List Int} {lo lo' : Int} (h : lo' ≤ lo) (r : Ris lo m xs) : Ris lo' m xs := by
  cases xs with
  | nil => trivial
  | cons x xs => exact ⟨by have := r.1; omega, r.2.1, r.2.2⟩
theorem ris_filter {m : Int} (p : Int → Bool) : ∀ {xs : List Int} {lo : Int}, Ris lo m xs → Ris lo m (xs.filter p)
  | [], _, _ => trivial
  | x :: xs, lo, ⟨h1, h2, h3⟩ => by
    have ih := ris_filter p h3
    rw [List.filter_cons]
    split
    · exact ⟨h1, h2, ih⟩
    · exact ris_lo (by omega) ih
def spD (p : Bool × Int) : D := .tup [.int (if p.1 then 1 else 0), .int p.2]
theorem rg_mem {n x : Int} (h : x ∈ rg n) : 0 ≤ x ∧ x < n := by
  obtain ⟨i, hi, rfl⟩ := List.mem_map.mp h
  have := List.mem_range.mp hi
  omega
theorem fm_some (xs : List D) : xs.filterMap (fun x => some x) = xs := by simp
structure Peel (l a : Nat) (r c : Int) (h h' : Hh) (A B : List Int) (st : List (Bool × Int)) : Prop where
  ea : h'[a]? = some (.lst (A.map D.int))
  eb : h'[a + 1]? = some (.lst (B.map D.int))
  el : h'[a + 2]? = some (.lst [.ref a, .ref (a + 1)])
  es : h'[a + 3]? = some (.lst (st.map spD))
  ma : ∀ x ∈ A, 0 ≤ x ∧ x < r
  mb : ∀ x ∈ B, 0 ≤ x ∧ x < c
  ms : ∀ p ∈ st, 0 ≤ p.2 ∧ p.2 < (if p.1 then c else r)
  la : A.length ≤ 100
  lb : B.length ≤ 100
  s : Src l h'
  k : Hk [l] h h'
theorem Peel.keep {l a : Nat} {r c : Int} {h h' h2 : Hh} {A B : List Int} {st : List (Bool × Int)} (p : Peel l a r c h h' A B st) (hl : l < a) (s : Src l h2) (k : Hk [l] h' h2) : Peel l a r c h h2 A B st :=
  ⟨k.at p.ea (by simp; omega), k.at p.eb (by simp; omega), k.at p.el (by simp; omega), k.at p.es (by simp; omega), p.ma, p.mb, p.ms, p.la, p.lb, s, p.k.trans k⟩
theorem peeled_run {l : Nat} {r c most many : Int} {h : Hh} (s : Src l h) (r0 : 0 ≤ r) (r1 : r ≤ 100) (c0 : 0 ≤ c) (c1 : c ≤ 100) (n0 : 0 ≤ most) (n1 : most ≤ 22) (m0 : 1 ≤ many) (m1 : many ≤ 100) :
    R1 (m__law_peeled [.ref l, .int r, .int c, .int most, .int many] h) fun d h' => (∃ t : Tk, d = t.d ∧ t.ok r c ∧ t.dep ≤ 23 ∧ t.cnt ≤ 89) ∧ Src l h' ∧ Hk [l] h h' := by
  have hl := s.lt
  refine RX_body rfl ?_
  have q1 : ∀ h', rg1K [.int r] h' = some (.ok ⟨rgD 0 r.toNat, []⟩, h') := fun h' => rg1K_ok (by omega) (by omega)
  have q2 : ∀ h', rg1K [.int c] h' = some (.ok ⟨rgD 0 c.toNat, []⟩, h') := fun h' => rg1K_ok (by omega) (by omega)
  have q3 : ∀ h', rg1K [.int most] h' = some (.ok ⟨rgD 0 most.toNat, []⟩, h') := fun h' => rg1K_ok (by omega) (by omega)
  have er : rgD 0 r.toNat = (rg r).map D.int := by have := rgD_rg r; simpa [dI] using this
  have ec : rgD 0 c.toNat = (rg c).map D.int := by have := rgD_rg c; simpa [dI] using this
  simp [d__law_peeled, -rg1K_int]
  refine R1.of (lc_pure (h1 := h) (ck := []) (xs := rgD 0 r.toNat) some (by simp [-rg1K_int, q1]) ckNil (by rw [rgD_length, sizeL]; omega) (fun x hx => ⟨_, rfl, .inr ⟨rfl, x, by simp, rfl⟩⟩)) ?_
  refine R1.of (lc_pure (h1 := h ++ [.lst ((rgD 0 r.toNat).filterMap some)]) (ck := []) (xs := rgD 0 c.toNat) some (by simp [-rg1K_int, q2]) ckNil (by rw [rgD_length, sizeL]; omega) (fun x hx => ⟨_, rfl, .inr ⟨rfl, x, by simp, rfl⟩⟩)) ?_
  simp [-rg1K_int, er, ec]
  refine orF_to (F := fun e h' => ∃ (A B : List Int) (st : List (Bool × Int)) (o7 o8 : Option D), e = [some (.ref l), some (.int r), some (.int c), some (.int most), some (.int many), some (.ref (h.length + 2)), some (.ref (h.length + 3)), o7, o8, none, none, none, none, none] ∧ Peel l h.length r c h h' A B st ∧ st.length ≤ 22) ?_ ?_
  · refine RS_for (it := ⟨rgD 0 most.toNat, []⟩) (h1 := h ++ [.lst ((rg r).map D.int), .lst ((rg c).map D.int), .lst [.ref h.length, .ref (h.length + 1)], .lst []]) (I := fun k e h' => ∃ (A B : List Int) (st : List (Bool × Int)) (o7 o8 : Option D), e = [some (.ref l), some (.int r), some (.int c), some (.int most), some (.int many), some (.ref (h.length + 2)), some (.ref (h.length + 3)), o7, o8, none, none, none, none, none] ∧ Peel l h.length r c h h' A B st ∧ st.length ≤ k)
      (by simp [-rg1K_int, q3]) ⟨rg r, rg c, [], none, none, by simp, ⟨by simp, by simp [List.getElem?_append_right], by simp [List.getElem?_append_right], by simp [List.getElem?_append_right], fun x => rg_mem, fun x => rg_mem, fun p hp => (nomatch hp), by rw [rg_len]; omega, by rw [rg_len]; omega, s.keep (Hk.app _), Hk.app _⟩, by simp⟩
      (fun k x e h' hk ⟨A, B, st, o7, o8, e1, P, hst⟩ => ?_) (fun e h' ⟨A, B, st, o7, o8, e1, P, hst⟩ => ?_)
    · subst e1
      obtain ⟨rfl, hk⟩ := rgD_get hk
      refine ⟨ckNil, _, _, rfl, ?_⟩
      simp
      refine (pick_run P.s (by omega) (by omega)).mono fun d h2 ⟨⟨sd, ev, sd0, sd1⟩, s2, k2⟩ => ?_
      subst ev
      have P2 := P.keep hl s2 k2
      have la := P2.la
      have lb := P2.lb
      have hl2 : ∀ i, h.length ≤ i → l ≠ i := fun i hi => by omega
      have popA : ∀ {iv : Int} {h3 : Hh}, 0 ≤ iv → iv < A.length → Src l h3 → Hk [l] h2 h3 → ∃ x, mPop (.ref h.length) [.int iv] h3 = some (.int x, h3.set h.length (.lst ((A.eraseIdx iv.toNat).map D.int))) ∧ (h3.set h.length (.lst ((A.eraseIdx iv.toNat).map D.int)))[h.length + 3]? = some (.lst (st.map spD)) ∧
          Peel l h.length r c h ((h3.set h.length (.lst ((A.eraseIdx iv.toNat).map D.int))).set (h.length + 3) (.lst (st.map spD ++ [.tup [.int 0, .int x]]))) (A.eraseIdx iv.toNat) B (st ++ [(false, x)]) := fun {iv h3} i0 i1 s3 k3 => by
        have P3 := P2.keep hl s3 k3
        obtain ⟨x, hx, ex⟩ := pop_at P3.ea i0 i1 (by omega)
        have e4 := set_ne (o' := .lst ((A.eraseIdx iv.toNat).map D.int)) P3.es (show h.length + 3 ≠ h.length by omega)
        have hle : (A.eraseIdx iv.toNat).length ≤ A.length := by simp [List.length_eraseIdx]; split <;> omega
        refine ⟨x, ex, e4, ⟨?_, ?_, ?_, ?_, fun y hy => P3.ma y (List.mem_of_mem_eraseIdx hy), P3.mb, fun p hp => ?_, by omega, lb, ?_, ?_⟩⟩
        · exact set_ne (set_at P3.ea) (by omega)
        · exact set_ne (set_ne P3.eb (by omega)) (by omega)
        · exact set_ne (set_ne P3.el (by omega)) (by omega)
        · rw [set_at e4]; simp [spD]
        · rcases List.mem_append.mp hp with hp | hp
          · exact P3.ms p hp
          · simp at hp; subst hp; exact P3.ma x hx
        · exact P3.s.keep' hl fun i hi => by rw [List.getElem?_set_ne (by omega), List.getElem?_set_ne (by omega)]
        · exact (P3.k.new (Nat.le_refl _)).new (by omega)
      have popB : ∀ {iv : Int} {h3 : Hh}, 0 ≤ iv → iv < B.length → Src l h3 → Hk [l] h2 h3 → ∃ x, mPop (.ref (h.length + 1)) [.int iv] h3 = some (.int x, h3.set (h.length + 1) (.lst ((B.eraseIdx iv.toNat).map D.int))) ∧ (h3.set (h.length + 1) (.lst ((B.eraseIdx iv.toNat).map D.int)))[h.length + 3]? = some (.lst (st.map spD)) ∧
          Peel l h.length r c h ((h3.set (h.length + 1) (.lst ((B.eraseIdx iv.toNat).map D.int))).set (h.length + 3) (.lst (st.map spD ++ [.tup [.int 1, .int x]]))) A (B.eraseIdx iv.toNat) (st ++ [(true, x)]) := fun {iv h3} i0 i1 s3 k3 => by
        have P3 := P2.keep hl s3 k3
        obtain ⟨x, hx, ex⟩ := pop_at P3.eb i0 i1 (by omega)
        have e4 := set_ne (o' := .lst ((B.eraseIdx iv.toNat).map D.int)) P3.es (show h.length + 3 ≠ h.length + 1 by omega)
        have hle : (B.eraseIdx iv.toNat).length ≤ B.length := by simp [List.length_eraseIdx]; split <;> omega
        refine ⟨x, ex, e4, ⟨?_, ?_, ?_, ?_, P3.ma, fun y hy => P3.mb y (List.mem_of_mem_eraseIdx hy), fun p hp => ?_, la, by omega, ?_, ?_⟩⟩
        · exact set_ne (set_ne P3.ea (by omega)) (by omega)
        · exact set_ne (set_at P3.eb) (by omega)
        · exact set_ne (set_ne P3.el (by omega)) (by omega)
        · rw [set_at e4]; simp [spD]
        · rcases List.mem_append.mp hp with hp | hp
          · exact P3.ms p hp
          · simp at hp; subst hp; exact P3.mb x hx
        · exact P3.s.keep' hl fun i hi => by rw [List.getElem?_set_ne (by omega), List.getElem?_set_ne (by omega)]
        · exact (P3.k.new (by omega)).new (by omega)
      have hst2 : st.length < 16777216 := by omega
      have hsd : sd = 0 ∨ sd = 1 := by omega
      rcases hsd with rfl | rfl
      · by_cases u : (A.length : Int) < 2
        · by_cases v : (B.length : Int) < 2
          · simp [P2.el, P2.ea, P2.eb, u, v]
            exact ⟨A, B, st, P2, by omega⟩
          · simp [P2.el, P2.ea, P2.eb, P2.es, u, v]
            refine (pick_run P2.s (by omega) (by omega)).mono fun d h3 ⟨⟨iv, ev, iv0, iv1⟩, s3, k3⟩ => ?_
            subst ev
            obtain ⟨x, ex, e4, P5⟩ := popB iv0 iv1 s3 k3
            have P3 := P2.keep hl s3 k3
            simp [P3.el, P3.es, ex, e4, hst2]
            exact ⟨_, _, _, P5, by simp; omega⟩
        · simp [P2.el, P2.ea, P2.eb, P2.es, u]
          refine (pick_run P2.s (by omega) (by omega)).mono fun d h3 ⟨⟨iv, ev, iv0, iv1⟩, s3, k3⟩ => ?_
          subst ev
          obtain ⟨x, ex, e4, P5⟩ := popA iv0 iv1 s3 k3
          have P3 := P2.keep hl s3 k3
          simp [P3.el, P3.es, ex, e4, hst2]
          exact ⟨_, _, _, P5, by simp; omega⟩
      · by_cases u : (B.length : Int) < 2
        · by_cases v : (A.length : Int) < 2
          · simp [P2.el, P2.ea, P2.eb, u, v]
            exact ⟨A, B, st, P2, by omega⟩
          · simp [P2.el, P2.ea, P2.eb, P2.es, u, v]
            refine (pick_run P2.s (by omega) (by omega)).mono fun d h3 ⟨⟨iv, ev, iv0, iv1⟩, s3, k3⟩ => ?_
            subst ev
            obtain ⟨x, ex, e4, P5⟩ := popA iv0 iv1 s3 k3
            have P3 := P2.keep hl s3 k3
            simp [P3.el, P3.es, ex, e4, hst2]
            exact ⟨_, _, _, P5, by simp; omega⟩
        · simp [P2.el, P2.ea, P2.eb, P2.es, u]
          refine (pick_run P2.s (by omega) (by omega)).mono fun d h3 ⟨⟨iv, ev, iv0, iv1⟩, s3, k3⟩ => ?_
          subst ev
          obtain ⟨x, ex, e4, P5⟩ := popB iv0 iv1 s3 k3
          have P3 := P2.keep hl s3 k3
          simp [P3.el, P3.es, ex, e4, hst2]
          exact ⟨_, _, _, P5, by simp; omega⟩
    · subst e1
      refine ⟨ckNil, A, B, st, o7, o8, rfl, P, ?_⟩
      rw [rgD_length] at hst
      omega
  · rintro e h' ⟨A, B, st, o7, o8, rfl, P, hst⟩
    simp
    refine (pick_run P.s (by omega) (by omega)).mono fun d h2 ⟨⟨v, ev, v0, v1⟩, s2, k2⟩ => ?_
    subst ev
    have P2 := P.keep hl s2 k2
    have hl2 : l < h2.length := s2.lt
    refine RS_for (it := ⟨(st.map spD).reverse, [(h2.length, (st.map spD).reverse)]⟩) (h1 := h2 ++ [.lst (st.map spD).reverse]) (I := fun k e h' => ∃ (t' : Tk) (o7 o8 o10 o11 o12 o13 : Option D), e = [some (.ref l), some (.int r), some (.int c), some (.int most), some (.int many), some (.ref (h.length + 2)), some (.ref (h.length + 3)), o7, o8, some t'.d, o10, o11, o12, o13] ∧ t'.ok r c ∧ t'.dep ≤ k + 1 ∧ t'.cnt ≤ 1 + 4 * k ∧ Src l h' ∧ Hk [l] h h' ∧ h'[h2.length]? = some (.lst (st.map spD).reverse))
      (by simp [P2.es]) ⟨.leaf v, _, _, _, _, _, _, rfl, ⟨by omega, by omega⟩, by simp [Tk.dep], by simp [Tk.cnt], s2.keep (Hk.app _), P2.k.app' _, by simp⟩
      (fun k z e h' hk ⟨t', o7, o8, o10, o11, o12, o13, e1, q1, q2, q3, s', k', er'⟩ => ?_) (fun e h' ⟨t', o7, o8, o10, o11, o12, o13, e1, q1, q2, q3, s', k', er'⟩ => ?_)
    · subst e1
      have hz := List.mem_of_getElem? hk
      obtain ⟨⟨b, x⟩, hm, rfl⟩ := List.mem_map.mp (List.mem_reverse.mp hz)
      have hx := P2.ms _ hm
      refine ⟨ckOne er', _, _, rfl, ?_⟩
      simp
      refine (pick_run s' (by omega) (by omega)).mono fun d h3 ⟨⟨dv, ev, dv0, dv1⟩, s3, k3⟩ => ?_
      subst ev
      refine (talk_run N__law_talk s3 r0 r1 c0 c1 dv0 (by show dv < 8; omega) m0 m1).mono fun d h4 ⟨⟨tl, ev, ol, dl, cl⟩, s4, k4⟩ => ?_
      subst ev
      have hc4 : tl.cnt ≤ 3 := by
        have := Nat.pow_le_pow_right (show 0 < 2 by omega) (show dv.toNat + 1 ≤ 2 by omega)
        omega
      refine (pick_run s4 (by omega) (by omega)).mono fun d h5 ⟨⟨sv, ev, sv0, sv1⟩, s5, k5⟩ => ?_
      subst ev
      have kk := (k3.trans k4).trans k5
      have er5 := kk.at er' (by simp; omega)
      by_cases hs : sv = 0
      · cases b
        · simp at hx
          simp [hs]
          exact ⟨.node false [x] tl t', rfl, ⟨⟨hx.1, hx.2, trivial⟩, ol, q1⟩, by simp [Tk.dep]; omega, by simp [Tk.cnt]; omega, s5.keep (Hk.app _), (k'.trans kk).app' _, app_at er5⟩
        · simp at hx
          simp [hs]
          exact ⟨.node true [x] tl t', rfl, ⟨⟨hx.1, hx.2, trivial⟩, ol, q1⟩, by simp [Tk.dep]; omega, by simp [Tk.cnt]; omega, s5.keep (Hk.app _), (k'.trans kk).app' _, app_at er5⟩
      · cases b
        · simp at hx
          simp [hs]
          refine R1.of (lc_pure (h1 := h5 ++ [.lst [.int r, .int c]]) (ck := []) (xs := rgD 0 r.toNat) (fun z => match z with | .int i => if decide (¬ i = x) then some (.int i) else none | _ => none) (by simp [-rg1K_int]; rw [rg1K_ok (by omega) (by omega)]) ckNil (by rw [rgD_length, sizeL]; omega) (fun z hz => ?_)) ?_
          · obtain ⟨i, hi, rfl⟩ : ∃ i : Int, i ∈ rg r ∧ z = .int i := by
              have er : rgD 0 r.toNat = (rg r).map D.int := by have := rgD_rg r; simpa [dI] using this
              rw [er] at hz
              obtain ⟨i, hi, e⟩ := List.mem_map.mp hz
              exact ⟨i, hi, e.symm⟩
            refine ⟨_, rfl, ?_⟩
            by_cases hix : i = x
            · exact .inl ⟨by simp [hix], by simp [hix]⟩
            · exact .inr ⟨by simp [hix], _, by simp; rfl, by simp [hix]⟩
          · have er : rgD 0 r.toNat = (rg r).map D.int := by have := rgD_rg r; simpa [dI] using this
            rw [er, fm_filter (p := fun i => decide (¬ i = x)) (fun i _ => rfl)]
            simp
            exact ⟨.node false ((rg r).filter fun i => decide (¬ i = x)) t' tl, by simp [Tk.d, dI], ⟨ris_filter _ (ris_rg r), q1, ol⟩, by simp [Tk.dep]; omega, by simp [Tk.cnt]; omega, s5.keep (Hk.app _), (k'.trans kk).app' _, app_at er5⟩
        · simp at hx
          simp [hs]
          refine R1.of (lc_pure (h1 := h5 ++ [.lst [.int r, .int c]]) (ck := []) (xs := rgD 0 c.toNat) (fun z => match z with | .int i => if decide (¬ i = x) then some (.int i) else none | _ => none) (by simp [-rg1K_int]; rw [rg1K_ok (by omega) (by omega)]) ckNil (by rw [rgD_length, sizeL]; omega) (fun z hz => ?_)) ?_
          · obtain ⟨i, hi, rfl⟩ : ∃ i : Int, i ∈ rg c ∧ z = .int i := by
              have er : rgD 0 c.toNat = (rg c).map D.int := by have := rgD_rg c; simpa [dI] using this
              rw [er] at hz
              obtain ⟨i, hi, e⟩ := List.mem_map.mp hz
              exact ⟨i, hi, e.symm⟩
            refine ⟨_, rfl, ?_⟩
            by_cases hix : i = x
            · exact .inl ⟨by simp [hix], by simp [hix]⟩
            · exact .inr ⟨by simp [hix], _, by simp; rfl, by simp [hix]⟩
          · have er : rgD 0 c.toNat = (rg c).map D.int := by have := rgD_rg c; simpa [dI] using this
            rw [er, fm_filter (p := fun i => decide (¬ i = x)) (fun i _ => rfl)]
            simp
            exact ⟨.node true ((rg c).filter fun i => decide (¬ i = x)) t' tl, by simp [Tk.d, dI], ⟨ris_filter _ (ris_rg c), q1, ol⟩, by simp [Tk.dep]; omega, by simp [Tk.cnt]; omega, s5.keep (Hk.app _), (k'.trans kk).app' _, app_at er5⟩
    · subst e1
      refine ⟨ckOne er', ?_⟩
      simp at q2 q3
      simp
      exact ⟨⟨t', rfl, q1, by omega, by omega⟩, s', k'⟩
/-! ### the plain law of pruning -/
theorem mem_cutL {ms xs : List Int} {b : Bool} {x : Int} : x ∈ cutL ms b xs ↔ x ∈ xs ∧ decide (x ∈ ms) = b := by
  unfold cutL; simp [List.mem_filter]
def own (cc : Bool) (r c : Int) : Int := if cc then c else r
theorem mem_cut {cc : Bool} {ms R C : List Int} {b : Bool} {r c : Int} : (r ∈ cutR cc ms b R ∧ c ∈ cutC cc ms b C) ↔ (r ∈ R ∧ c ∈ C ∧ decide (own cc r c ∈ ms) = b) := by
  cases cc
  · simp only [cutR, cutC, own, Bool.false_eq_true, if_false, mem_cutL]
    constructor
    · rintro ⟨⟨a, b⟩, d⟩; exact ⟨a, d, b⟩
    · rintro ⟨a, d, b⟩; exact ⟨⟨a, b⟩, d⟩
  · simp only [cutR, cutC, own, if_true, mem_cutL]
def ne2 (R C : List Int) : Prop := R ≠ [] ∧ C ≠ []
theorem ne2_iff {R C : List Int} : ne2 R C ↔ ∃ r c, r ∈ R ∧ c ∈ C := by
  unfold ne2
  constructor
  · rintro ⟨a, b⟩
    obtain ⟨r, hr⟩ := List.exists_mem_of_ne_nil _ a
    obtain ⟨c, hc⟩ := List.exists_mem_of_ne_nil _ b
    exact ⟨r, c, hr, hc⟩
  · rintro ⟨r, c, hr, hc⟩
    exact ⟨List.ne_nil_of_mem hr, List.ne_nil_of_mem hc⟩
theorem prune_both {cc : Bool} {ms : List Int} {y n : Tk} {R C : List Int} (h1 : ne2 (cutR cc ms true R) (cutC cc ms true C)) (h2 : ne2 (cutR cc ms false R) (cutC cc ms false C)) :
    prune (.node cc ms y n) R C = .node cc ms (prune y (cutR cc ms true R) (cutC cc ms true C)) (prune n (cutR cc ms false R) (cutC cc ms false C)) := by
  unfold ne2 at h1 h2
  simp only [prune]
  rw [if_pos h1, if_pos h2]
theorem prune_one {cc : Bool} {ms : List Int} {y n : Tk} {R C : List Int} (b : Bool) (h1 : ne2 (cutR cc ms b R) (cutC cc ms b C)) (h2 : ¬ ne2 (cutR cc ms (!b) R) (cutC cc ms (!b) C)) : prune (.node cc ms y n) R C = prune (if b then y else n) R C := by
  unfold ne2 at h1 h2
  simp only [prune]
  cases b
  · simp only [Bool.not_false] at h2
    rw [if_neg h2]; rfl
  · simp only [Bool.not_true] at h2
    rw [if_pos h1, if_neg h2]; rfl
/-- one of both sides is there -/
theorem some_cut {cc : Bool} {ms : List Int} {R C : List Int} {r c : Int} (hr : r ∈ R) (hc : c ∈ C) : r ∈ cutR cc ms (decide (own cc r c ∈ ms)) R ∧ c ∈ cutC cc ms (decide (own cc r c ∈ ms)) C := mem_cut.mpr ⟨hr, hc, rfl⟩
/-- the cases of pruning a node over a part that is not empty -/
theorem prune_cases (cc : Bool) (ms : List Int) (y n : Tk) {R C : List Int} (h : ne2 R C) :
    (ne2 (cutR cc ms true R) (cutC cc ms true C) ∧ ne2 (cutR cc ms false R) (cutC cc ms false C) ∧ prune (.node cc ms y n) R C = .node cc ms (prune y (cutR cc ms true R) (cutC cc ms true C)) (prune n (cutR cc ms false R) (cutC cc ms false C))) ∨
    (∃ b : Bool, (∀ r c, r ∈ R → c ∈ C → decide (own cc r c ∈ ms) = b) ∧ prune (.node cc ms y n) R C = prune (if b then y else n) R C) := by
  have side : ∀ b : Bool, ¬ ne2 (cutR cc ms (!b) R) (cutC cc ms (!b) C) → ∀ r c, r ∈ R → c ∈ C → decide (own cc r c ∈ ms) = b := fun b hn r c hr hc => by
    have q := some_cut (cc := cc) (ms := ms) hr hc
    cases e : decide (own cc r c ∈ ms) <;> cases b <;> first | rfl | (rw [e] at q; exact (hn (ne2_iff.mpr ⟨r, c, q⟩)).elim)
  by_cases h1 : ne2 (cutR cc ms true R) (cutC cc ms true C)
  · by_cases h2 : ne2 (cutR cc ms false R) (cutC cc ms false C)
    · exact .inl ⟨h1, h2, prune_both h1 h2⟩
    · exact .inr ⟨true, side true h2, prune_one true h1 h2⟩
  · obtain ⟨r, c, hr, hc⟩ := ne2_iff.mp h
    have s := side false h1
    have q := some_cut (cc := cc) (ms := ms) hr hc
    rw [s r c hr hc] at q
    exact .inr ⟨false, s, prune_one false (ne2_iff.mpr ⟨r, c, q⟩) h1⟩
theorem ans_node {cc : Bool} {ms : List Int} {y n : Tk} {r c : Int} {b : Bool} (h : decide (own cc r c ∈ ms) = b) : (Tk.node cc ms y n).ans r c = (if b then y else n).ans r c := by
  unfold own at h
  simp only [Tk.ans]
  cases b <;> simp_all
theorem bts_node {cc : Bool} {ms : List Int} {y n : Tk} {r c : Int} {b : Bool} (h : decide (own cc r c ∈ ms) = b) : (Tk.node cc ms y n).bts r c = b :: (if b then y else n).bts r c := by
  unfold own at h
  simp only [Tk.bts]
  cases b <;> simp_all
theorem prune_ans (t : Tk) : ∀ {R C : List Int} {r c : Int}, r ∈ R → c ∈ C → (prune t R C).ans r c = t.ans r c := by
  induction t with
  | leaf n => exact fun _ _ => rfl
  | node cc ms y n h1 h2 =>
    intro R C r c hr hc
    rcases prune_cases cc ms y n (ne2_iff.mpr ⟨r, c, hr, hc⟩) with ⟨a, b, e⟩ | ⟨b, hb, e⟩
    · rw [e]
      have q := some_cut (cc := cc) (ms := ms) hr hc
      cases eb : decide (own cc r c ∈ ms)
      · rw [ans_node eb, ans_node eb]; rw [eb] at q; exact h2 q.1 q.2
      · rw [ans_node eb, ans_node eb]; rw [eb] at q; exact h1 q.1 q.2
    · rw [e, ans_node (hb r c hr hc)]
      cases b
      · exact h2 hr hc
      · exact h1 hr hc
/-- the bits that part something -/
def kp (met : List Bool → Bool) : List Bool → List Bool
  | [] => []
  | b :: w => (if met [!b] then [b] else []) ++ kp (fun v => met (b :: v)) w
theorem prune_bts (t : Tk) : ∀ {R C : List Int} {r c : Int} {met : List Bool → Bool}, r ∈ R → c ∈ C → (∀ w, w ≠ [] → (met w = true ↔ ∃ r' c', r' ∈ R ∧ c' ∈ C ∧ w <+: t.bts r' c')) → (prune t R C).bts r c = kp met (t.bts r c) := by
  induction t with
  | leaf n => exact fun _ _ _ => rfl
  | node cc ms y n h1 h2 =>
    intro R C r c met hr hc hm
    have low : ∀ (b : Bool) {R' C' : List Int}, (∀ r' c', (r' ∈ R' ∧ c' ∈ C') → r' ∈ R ∧ c' ∈ C ∧ decide (own cc r' c' ∈ ms) = b) → (∀ r' c', r' ∈ R → c' ∈ C → decide (own cc r' c' ∈ ms) = b → r' ∈ R' ∧ c' ∈ C') →
        ∀ w : List Bool, w ≠ [] → ((met (b :: w) = true) ↔ ∃ r' c', r' ∈ R' ∧ c' ∈ C' ∧ w <+: (if b then y else n).bts r' c') := fun b R' C' i1 i2 w _ => by
      rw [hm (b :: w) (by simp)]
      constructor
      · rintro ⟨r', c', a1, a2, a3⟩
        have eb : decide (own cc r' c' ∈ ms) = b := by
          cases e : decide (own cc r' c' ∈ ms) <;> (rw [bts_node e] at a3; have := (List.cons_prefix_cons.mp a3).1; rw [this])
        rw [bts_node eb] at a3
        obtain ⟨a4, a5⟩ := i2 r' c' a1 a2 eb
        exact ⟨r', c', a4, a5, (List.cons_prefix_cons.mp a3).2⟩
      · rintro ⟨r', c', a1, a2, a3⟩
        obtain ⟨b1, b2, b3⟩ := i1 r' c' ⟨a1, a2⟩
        exact ⟨r', c', b1, b2, by rw [bts_node b3]; exact List.cons_prefix_cons.mpr ⟨rfl, a3⟩⟩
    have hit : ∀ b : Bool, met [b] = true ↔ ∃ r' c', r' ∈ R ∧ c' ∈ C ∧ decide (own cc r' c' ∈ ms) = b := fun b => by
      rw [hm [b] (by simp)]
      constructor
      · rintro ⟨r', c', a1, a2, a3⟩
        refine ⟨r', c', a1, a2, ?_⟩
        cases e : decide (own cc r' c' ∈ ms) <;> (rw [bts_node e] at a3; exact ((List.cons_prefix_cons.mp a3).1).symm)
      · rintro ⟨r', c', a1, a2, a3⟩
        exact ⟨r', c', a1, a2, by rw [bts_node a3]; exact List.cons_prefix_cons.mpr ⟨rfl, List.nil_prefix⟩⟩
    rcases prune_cases cc ms y n (ne2_iff.mpr ⟨r, c, hr, hc⟩) with ⟨na, nb, e⟩ | ⟨b, hb, e⟩
    · rw [e]
      have q := some_cut (cc := cc) (ms := ms) hr hc
      have both : ∀ b : Bool, met [b] = true := fun b => by
        rw [hit]
        have : ne2 (cutR cc ms b R) (cutC cc ms b C) := by cases b <;> assumption
        obtain ⟨r', c', a1, a2⟩ := ne2_iff.mp this
        have := mem_cut.mp ⟨a1, a2⟩
        exact ⟨r', c', this.1, this.2.1, this.2.2⟩
      cases eb : decide (own cc r c ∈ ms)
      · rw [bts_node eb, bts_node eb]
        rw [eb] at q
        simp only [kp, both, if_true, List.singleton_append, List.cons_append, List.nil_append]
        have := h2 (met := fun v => met (false :: v)) q.1 q.2 (low false (fun r' c' z => mem_cut.mp z) (fun r' c' z1 z2 z3 => mem_cut.mpr ⟨z1, z2, z3⟩))
        simpa using this
      · rw [bts_node eb, bts_node eb]
        rw [eb] at q
        simp only [kp, both, if_true, List.singleton_append, List.cons_append, List.nil_append]
        have := h1 (met := fun v => met (true :: v)) q.1 q.2 (low true (fun r' c' z => mem_cut.mp z) (fun r' c' z1 z2 z3 => mem_cut.mpr ⟨z1, z2, z3⟩))
        simpa using this
    · rw [e, bts_node (hb r c hr hc)]
      have no : met [!b] = false := by
        rw [Bool.eq_false_iff]
        intro z
        obtain ⟨r', c', a1, a2, a3⟩ := (hit (!b)).mp z
        rw [hb r' c' a1 a2] at a3
        cases b <;> cases a3
      simp only [kp, no, Bool.false_eq_true, if_false, List.nil_append]
      have lw := low b (R' := R) (C' := C) (fun r' c' z => ⟨z.1, z.2, hb r' c' z.1 z.2⟩) (fun r' c' z1 z2 _ => ⟨z1, z2⟩)
      cases b
      · exact h2 hr hc lw
      · exact h1 hr hc lw
def Tk.paths : Tk → List (List Bool)
  | .leaf _ => [[]]
  | .node _ _ y n => y.paths.map (true :: ·) ++ n.paths.map (false :: ·)
theorem paths_len (t : Tk) : t.paths.length = t.lvs := by
  induction t with
  | leaf _ => rfl
  | node cc ms y n h1 h2 => simp [Tk.paths, Tk.lvs, h1, h2]
theorem nodup_cons_map {b : Bool} : ∀ {l : List (List Bool)}, l.Nodup → (l.map (b :: ·)).Nodup := fun {l} h => by
  induction l with
  | nil => simp
  | cons x l ih =>
    simp only [List.map_cons, List.nodup_cons] at h ⊢
    refine ⟨fun hm => ?_, ih h.2⟩
    obtain ⟨y, hy, e⟩ := List.mem_map.mp hm
    cases e
    exact h.1 hy
theorem paths_nodup (t : Tk) : t.paths.Nodup := by
  induction t with
  | leaf _ => simp [Tk.paths]
  | node cc ms y n h1 h2 =>
    simp only [Tk.paths]
    rw [List.nodup_append]
    refine ⟨nodup_cons_map h1, nodup_cons_map h2, fun a ha b hb => ?_⟩
    obtain ⟨x, _, rfl⟩ := List.mem_map.mp ha
    obtain ⟨z, _, rfl⟩ := List.mem_map.mp hb
    intro e
    cases e
theorem bts_path (t : Tk) (r c : Int) : t.bts r c ∈ t.paths := by
  induction t with
  | leaf _ => simp [Tk.bts, Tk.paths]
  | node cc ms y n h1 h2 =>
    simp only [Tk.paths, List.mem_append, List.mem_map]
    cases eb : decide (own cc r c ∈ ms)
    · exact .inr ⟨_, h2, (bts_node eb).symm⟩
    · exact .inl ⟨_, h1, (bts_node eb).symm⟩
theorem path_hit (t : Tk) : ∀ {R C : List Int}, ne2 R C → ∀ w ∈ (prune t R C).paths, ∃ r c, r ∈ R ∧ c ∈ C ∧ (prune t R C).bts r c = w := by
  induction t with
  | leaf _ =>
    intro R C h w hw
    simp [prune, Tk.paths] at hw
    obtain ⟨r, c, hr, hc⟩ := ne2_iff.mp h
    exact ⟨r, c, hr, hc, by rw [hw]; rfl⟩
  | node cc ms y n h1 h2 =>
    intro R C h w hw
    rcases prune_cases cc ms y n h with ⟨na, nb, e⟩ | ⟨b, hb, e⟩
    · rw [e] at hw ⊢
      simp only [Tk.paths, List.mem_append, List.mem_map] at hw
      rcases hw with ⟨v, hv, rfl⟩ | ⟨v, hv, rfl⟩
      · obtain ⟨r, c, hr, hc, q⟩ := h1 na v hv
        obtain ⟨a1, a2, a3⟩ := mem_cut.mp ⟨hr, hc⟩
        exact ⟨r, c, a1, a2, by rw [bts_node a3]; simpa using q⟩
      · obtain ⟨r, c, hr, hc, q⟩ := h2 nb v hv
        obtain ⟨a1, a2, a3⟩ := mem_cut.mp ⟨hr, hc⟩
        exact ⟨r, c, a1, a2, by rw [bts_node a3]; simpa using q⟩
    · rw [e] at hw ⊢
      cases b
      · exact h2 h w hw
      · exact h1 h w hw
theorem prune_facts (t : Tk) {rr cc' : Int} : ∀ {R C : List Int}, ne2 R C → (prune t R C).dep ≤ t.dep ∧ (prune t R C).cnt ≤ t.cnt ∧ (t.ok rr cc' → (prune t R C).ok rr cc') ∧ (prune t R C).lvs ≤ t.lvs ∧ (prune t R C = t ∨ (prune t R C).lvs < t.lvs) ∧ prune (prune t R C) R C = prune t R C := by
  induction t with
  | leaf _ => intro R C h; simp [prune]
  | node cc ms y n h1 h2 =>
    intro R C h
    rcases prune_cases cc ms y n h with ⟨na, nb, e⟩ | ⟨b, hb, e⟩
    · obtain ⟨a1, a2, a3, a4, a5, a6⟩ := h1 na
      obtain ⟨b1, b2, b3, b4, b5, b6⟩ := h2 nb
      rw [e]
      refine ⟨by simp only [Tk.dep]; omega, by simp only [Tk.cnt]; omega, fun o => ⟨o.1, a3 o.2.1, b3 o.2.2⟩, by simp only [Tk.lvs]; omega, ?_, ?_⟩
      · rcases a5 with a5 | a5
        · rcases b5 with b5 | b5
          · left; rw [a5, b5]
          · right; simp only [Tk.lvs]; omega
        · right; simp only [Tk.lvs]; omega
      · rw [prune_both na nb, a6, b6]
    · have pl : ∀ t : Tk, 0 < t.lvs := lvs_pos
      rw [e]
      cases b
      · obtain ⟨b1, b2, b3, b4, b5, b6⟩ := h2 h
        have := pl y
        exact ⟨by simp only [Tk.dep]; simp; omega, by simp only [Tk.cnt]; simp; omega, fun o => b3 o.2.2, by simp only [Tk.lvs]; simp; omega, .inr (by simp only [Tk.lvs]; simp; omega), b6⟩
      · obtain ⟨b1, b2, b3, b4, b5, b6⟩ := h1 h
        have := pl n
        exact ⟨by simp only [Tk.dep]; simp; omega, by simp only [Tk.cnt]; simp; omega, fun o => b3 o.2.1, by simp only [Tk.lvs]; simp; omega, .inr (by simp only [Tk.lvs]; simp; omega), b6⟩
/-- two lists without repeats that hold the same -/
theorem nodup_len {α : Type} [DecidableEq α] : ∀ {xs ys : List α}, xs.Nodup → (∀ x ∈ xs, x ∈ ys) → xs.length ≤ ys.length
  | [], _, _, _ => Nat.zero_le _
  | x :: xs, ys, nd, s => by
    have hx := s x List.mem_cons_self
    have nd' := List.nodup_cons.mp nd
    have ih := nodup_len (ys := ys.erase x) nd'.2 fun z hz => (List.mem_erase_of_ne fun e => nd'.1 (by rw [← e]; exact hz)).mpr (s z (List.mem_cons_of_mem _ hz))
    have := List.length_erase_of_mem hx
    have := List.length_pos_of_mem hx
    simp only [List.length_cons]
    omega
theorem nodup_same {α : Type} [DecidableEq α] {xs ys : List α} (h1 : xs.Nodup) (h2 : ys.Nodup) (s : ∀ x, x ∈ xs ↔ x ∈ ys) : xs.length = ys.length :=
  Nat.le_antisymm (nodup_len h1 fun x => (s x).mp) (nodup_len h2 fun x => (s x).mpr)
/-! ### what is due -/
def bs (w : List Bool) : List Int := w.map fun b => if b then 1 else 0
theorem tI_bs (w : List Bool) : D.tup (w.map bI) = tI (bs w) := by
  simp [tI, bs, Function.comp_def, bI]
theorem bs_inj : ∀ {v w : List Bool}, bs v = bs w → v = w
  | [], [], _ => rfl
  | [], _ :: _, h => by cases h
  | _ :: _, [], h => by cases h
  | a :: v, b :: w, h => by
    simp only [bs, List.map_cons, List.cons.injEq] at h
    have := bs_inj (v := v) (w := w) h.2
    subst this
    cases a <;> cases b <;> first | rfl | (simp at h)
def ent (t : Tk) (p : Int × Int) : List Int × D := ([p.1, p.2], .tup [.int (t.ans p.1 p.2), tI (bs (t.bts p.1 p.2))])
structure DueI (t : Tk) (r c : Int) (h h' : Hh) (a b : Int) (P : List (Int × Int)) (M : List (List Int × D)) : Prop where
  eh : h'[h.length]? = some (.dct true (kD2 tI (P.map (ent t))))
  em : h'[h.length + 1]? = some (.dct true (kD2 tI M))
  ch : ∀ x y, (x, y) ∈ P ↔ 0 ≤ x ∧ x < r ∧ 0 ≤ y ∧ y < c ∧ (x < a ∨ (x = a ∧ y < b))
  nd : P.Nodup
  pl : P.length ≤ a.toNat * c.toNat + b.toNat
  cm : ∀ w, w ∈ M.map (·.1) ↔ ∃ p ∈ P, ∃ i, i ≤ (t.bts p.1 p.2).length ∧ w = bs ((t.bts p.1 p.2).take i)
  ml : M.length ≤ P.length * 100
  k : Hk [] h h'
theorem DueI.keep {t : Tk} {r c : Int} {h h' h2 : Hh} {a b : Int} {P : List (Int × Int)} {M : List (List Int × D)} (d : DueI t r c h h' a b P M) (k : Hk [] h' h2) : DueI t r c h h2 a b P M :=
  ⟨k.at d.eh (by simp), k.at d.em (by simp), d.ch, d.nd, d.pl, d.cm, d.ml, d.k.trans k⟩
theorem kput_new {κ : Type} [DecidableEq κ] {l : List (κ × D)} {k : κ} {v : D} (h : k ∉ l.map (·.1)) : kput l k v = l ++ [(k, v)] := by
  unfold kput; rw [if_neg h]
theorem kput_mem {κ : Type} [DecidableEq κ] {l : List (κ × D)} {k w : κ} {v : D} : w ∈ (kput l k v).map (·.1) ↔ w ∈ l.map (·.1) ∨ w = k := by
  rw [kput_keys]
  split
  · rename_i hin
    constructor
    · exact .inl
    · rintro (z | z)
      · exact z
      · rw [z]; exact hin
  · rw [List.mem_append, List.mem_singleton]
theorem cut_take {xs : List D} {i : Nat} (h : i ≤ xs.length) : cutD xs none (some (i : Int)) = xs.take i := by
  unfold cutD
  rw [HT.sIx_nat, HT.sIx_none, Nat.min_eq_left h]
  simp
theorem due_loops {t : Tk} {r c : Int} {h : Hh} (hd : t.dep ≤ 60) (r0 : 0 ≤ r) (r1 : r ≤ 100) (c0 : 0 ≤ c) (c1 : c ≤ 100) {Q : Fl → En → Hh → Prop} (T3 T4 : Sf)
    (hQ : ∀ (P : List (Int × Int)) (M : List (List Int × D)) (o5 o6 o7 o8 o9 : Option D) (h' : Hh), DueI t r c h h' r 0 P M → Q .nx [some t.d, some (.int r), some (.int c), some (.ref h.length), some (.ref (h.length + 1)), o5, o6, o7, o8, o9, none, none, none] h') :
    RS (sFor (iRg1 (dCons (dVar 1) dNil)) (gNm 5) (sFor (iRg1 (dCons (dVar 2) dNil)) (gNm 6) (sSeq (sAs (gTp (gsCons (gNm 7) (gsCons (gNm 8) gsNil))) (dCall m__law_heard (dCons (dVar 0) (dCons (dVar 5) (dCons (dVar 6) dNil)))))
      (sSeq (sDput (dVar 3) (dTup (dCons (dVar 5) (dCons (dVar 6) dNil))) (dTup (dCons (dVar 7) (dCons (dFun (f1 opTuple) (dCons (dVar 8) dNil)) dNil))))
      (sFor (iRg1 (dCons (dBin opAdd (dFun (f1 opLen) (dCons (dVar 8) dNil)) (dC (.int 1))) dNil)) (gNm 9) (sDput (dVar 4) (dFun (f1 opTuple) (dCons (dSl (dVar 8) dNo (dPart (dVar 9))) dNil)) (dC (.bl true)))))))
      [some t.d, some (.int r), some (.int c), some (.ref h.length), some (.ref (h.length + 1)), none, none, none, none, none, none, none, none] (h ++ [.dct true [], .dct true []])) Q := by
  have q1 : ∀ h', rg1K [.int r] h' = some (.ok ⟨rgD 0 r.toNat, []⟩, h') := fun h' => rg1K_ok (by omega) (by omega)
  have q2 : ∀ h', rg1K [.int c] h' = some (.ok ⟨rgD 0 c.toNat, []⟩, h') := fun h' => rg1K_ok (by omega) (by omega)
  refine RS_for (it := ⟨rgD 0 r.toNat, []⟩) (h1 := h ++ [.dct true [], .dct true []]) (I := fun k e h' => ∃ P M o5 o6 o7 o8 o9, e = [some t.d, some (.int r), some (.int c), some (.ref h.length), some (.ref (h.length + 1)), o5, o6, o7, o8, o9, none, none, none] ∧ DueI t r c h h' k 0 P M)
    (by simp [-rg1K_int, q1]) ⟨[], [], _, _, _, _, _, rfl, ⟨by simp [kD2], by simp [kD2], fun x y => by simp; omega, by simp, by simp, by simp, by simp, Hk.app _⟩⟩ (fun k x e h' hk ⟨P, M, o5, o6, o7, o8, o9, e1, D1⟩ => ?_) (fun e h' ⟨P, M, o5, o6, o7, o8, o9, e1, D1⟩ => ?_)
  · subst e1
    obtain ⟨rfl, hk⟩ := rgD_get hk
    refine ⟨ckNil, _, _, rfl, ?_⟩
    refine RS_for (it := ⟨rgD 0 c.toNat, []⟩) (h1 := h') (I := fun j e h' => ∃ P M o6 o7 o8 o9, e = [some t.d, some (.int r), some (.int c), some (.ref h.length), some (.ref (h.length + 1)), some (.int (k : Int)), o6, o7, o8, o9, none, none, none] ∧ DueI t r c h h' k j P M)
      (by simp [-rg1K_int, q2]) ⟨P, M, o6, o7, o8, o9, by simp, D1⟩ (fun j x e h' hj ⟨P, M, o6, o7, o8, o9, e1, D1⟩ => ?_) (fun e h' ⟨P, M, o6, o7, o8, o9, e1, D1⟩ => ?_)
    · subst e1
      obtain ⟨rfl, hj⟩ := rgD_get hj
      refine ⟨ckNil, _, _, rfl, ?_⟩
      simp
      refine (heard_run (t := t) (r := k) (c := j) (h := h') (by omega)).mono fun d h2 ⟨lb, ed, eb, hlb, k2⟩ => ?_
      subst ed
      have D2 := D1.keep k2
      have hlb1 : h.length + 2 ≤ lb := by
        have := lt_of D1.em
        omega
      have hPl : P.length ≤ 10100 := by
        have := D1.pl
        have m1 : k * c.toNat ≤ 100 * 100 := Nat.mul_le_mul (by omega) (by omega)
        simp at this
        omega
      have hMl := D1.ml
      have hne : [((k : Nat) : Int), ((j : Nat) : Int)] ∉ (P.map (ent t)).map (·.1) := fun hm => by
        rw [List.map_map] at hm
        obtain ⟨⟨x, y⟩, hp, e⟩ := List.mem_map.mp hm
        simp [ent] at e
        have := (D1.ch x y).mp hp
        omega
      have ePut : ∀ env, dputK (.ref h.length) (.tup [.int k, .int j]) (.tup [.int (t.ans k j), .tup ((t.bts k j).map bI)]) env h2 = some (.nx, env, h2.set h.length (.dct true (kD2 tI ((P ++ [((k : Int), (j : Int))]).map (ent t))))) := fun env => by
        rw [show D.tup [D.int (k : Int), D.int (j : Int)] = tI [(k : Int), (j : Int)] from rfl, dputK_at D2.eh (key_tI [(k : Int), (j : Int)]) (by simp [kD2]; omega), tI_bs]
        have := dput_k eqD_tI (P.map (ent t)) [(k : Int), (j : Int)] (.tup [.int (t.ans k j), tI (bs (t.bts k j))])
        rw [kput_new hne] at this
        rw [this]
        simp [ent]
      have hbl := bts_len t k j
      obtain ⟨m, hm⟩ : ∃ m : Int, m = ((t.bts k j).length : Int) + 1 := ⟨_, rfl⟩
      have ea : ∀ h : Hh, opAdd (.int ((t.bts k j).length : Int)) (.int 1) h = some (.int m, h) := fun h => by rw [v_addI, hm]
      have q3 : ∀ h', rg1K [.int m] h' = some (.ok ⟨rgD 0 ((t.bts k j).length + 1), []⟩, h') := fun h' => by
        rw [rg1K_ok (by omega) (by omega)]
        rw [show m.toNat = (t.bts k j).length + 1 by omega]
      have eb3 := set_ne (o' := O.dct true (kD2 tI ((P ++ [((k : Int), (j : Int))]).map (ent t)))) eb (show lb ≠ h.length by omega)
      have em3 := set_ne (o' := O.dct true (kD2 tI ((P ++ [((k : Int), (j : Int))]).map (ent t)))) D2.em (show h.length + 1 ≠ h.length by omega)
      have eh3 := set_at (o' := O.dct true (kD2 tI ((P ++ [((k : Int), (j : Int))]).map (ent t)))) D2.eh
      have k3 : Hk [] h (h2.set h.length (.dct true (kD2 tI ((P ++ [((k : Int), (j : Int))]).map (ent t))))) := D2.k.new (Nat.le_refl _)
      generalize h2.set h.length (.dct true (kD2 tI ((P ++ [((k : Int), (j : Int))]).map (ent t)))) = h3 at ePut eb3 em3 eh3 k3
      simp [eb, ePut]
      refine RS_for (it := ⟨rgD 0 ((t.bts k j).length + 1), []⟩) (I := fun i e h' => ∃ (M' : List (List Int × D)) (o9 : Option D), e = [some t.d, some (.int r), some (.int c), some (.ref h.length), some (.ref (h.length + 1)), some (.int (k : Int)), some (.int (j : Int)), some (.int (t.ans k j)), some (.ref lb), o9, none, none, none] ∧
          h'[h.length]? = some (.dct true (kD2 tI ((P ++ [((k : Int), (j : Int))]).map (ent t)))) ∧ h'[h.length + 1]? = some (.dct true (kD2 tI M')) ∧ (∀ w, w ∈ M'.map (·.1) ↔ w ∈ M.map (·.1) ∨ ∃ i', i' < i ∧ w = bs ((t.bts k j).take i')) ∧ M'.length ≤ M.length + i ∧ h'[lb]? = some (.lst ((t.bts k j).map bI)) ∧ Hk [] h h')
        (by simp [-rg1K_int, -v_addI, eb3, ea, q3]) ⟨M, o9, rfl, eh3, em3, by simp, by simp, eb3, k3⟩ (fun i x e h' hi ⟨M', o9, e1, a1, a2, a3, a4, a5, a6⟩ => ?_) (fun e h' ⟨M', o9, e1, a1, a2, a3, a4, a5, a6⟩ => ?_)
      · subst e1
        obtain ⟨rfl, hi⟩ := rgD_get hi
        refine ⟨ckNil, _, _, rfl, ?_⟩
        have hct : cutD ((t.bts k j).map bI) none (some (i : Int)) = ((t.bts k j).take i).map bI := by
          rw [cut_take (by simp; omega), List.map_take]
        have ePut2 : ∀ (env : En) (h2 : Hh), h2[h.length + 1]? = some (.dct true (kD2 tI M')) → dputK (.ref (h.length + 1)) (.tup (((t.bts k j).take i).map bI)) (.bl true) env h2 = some (.nx, env, h2.set (h.length + 1) (.dct true (kD2 tI (kput M' (bs ((t.bts k j).take i)) (.bl true))))) := fun env h2 e => by
          rw [tI_bs, dputK_at e (key_tI _) (by simp [kD2]; omega), dput_k eqD_tI]
        have a2' := app_at (g := [O.lst (((t.bts k j).take i).map bI)]) a2
        have hl1 := lt_of a2
        have a1' := app_at (g := [O.lst (((t.bts k j).take i).map bI)]) a1
        have a5' := app_at (g := [O.lst (((t.bts k j).take i).map bI)]) a5
        refine RS_of (f := .nx) (e := [some t.d, some (.int r), some (.int c), some (.ref h.length), some (.ref (h.length + 1)), some (.int (k : Int)), some (.int (j : Int)), some (.int (t.ans k j)), some (.ref lb), some (.int (0 + (i : Int))), none, none, none])
          (h := (h' ++ [O.lst (((t.bts k j).take i).map bI)]).set (h.length + 1) (.dct true (kD2 tI (kput M' (bs ((t.bts k j).take i)) (.bl true))))) (by simp [a5, hct, ePut2, a2', -List.map_take]) ?_
        refine ⟨kput M' (bs ((t.bts k j).take i)) (.bl true), _, rfl, set_ne a1' (by omega), set_at a2', fun w => ?_, ?_, set_ne a5' (by omega), (a6.app' _).new (by omega)⟩
        · rw [kput_mem, a3]
          constructor
          · rintro ((z | ⟨i', q, z⟩) | z)
            · exact .inl z
            · exact .inr ⟨i', by omega, z⟩
            · exact .inr ⟨i, by omega, z⟩
          · rintro (z | ⟨i', q, z⟩)
            · exact .inl (.inl z)
            · by_cases e : i' = i
              · subst e; exact .inr z
              · exact .inl (.inr ⟨i', by omega, z⟩)
        · have := kput_len M' (bs ((t.bts k j).take i)) (.bl true)
          omega
      · subst e1
        rw [rgD_length] at a3 a4
        simp
        refine ⟨ckNil, P ++ [((k : Int), (j : Int))], M', a1, a2, fun x y => ?_, ?_, ?_, fun w => ?_, ?_, a6⟩
        · rw [List.mem_append, D1.ch]; simp; omega
        · rw [List.nodup_append]
          refine ⟨D1.nd, by simp, fun p hp q hq e => ?_⟩
          simp at hq
          subst hq
          subst e
          have := (D1.ch _ _).mp hp
          omega
        · have := D1.pl
          simp at this ⊢
          omega
        · rw [a3, D1.cm]
          constructor
          · rintro (⟨p, hp, i, hi, e⟩ | ⟨i, hi, e⟩)
            · exact ⟨p, List.mem_append_left _ hp, i, hi, e⟩
            · exact ⟨_, List.mem_append_right _ List.mem_cons_self, i, by show i ≤ (t.bts k j).length; omega, e⟩
          · rintro ⟨p, hp, i, hi, e⟩
            rcases List.mem_append.mp hp with hp | hp
            · exact .inl ⟨p, hp, i, hi, e⟩
            · simp at hp
              subst hp
              exact .inr ⟨i, Nat.lt_succ_of_le hi, e⟩
        · simp only [List.length_append, List.length_singleton]
          omega
    · subst e1
      refine ⟨ckNil, P, M, _, _, _, _, _, rfl, ?_⟩
      rw [rgD_length] at D1
      have ec : ((c.toNat : Nat) : Int) = c := by omega
      rw [ec] at D1
      refine ⟨D1.eh, D1.em, fun x y => ?_, D1.nd, ?_, D1.cm, D1.ml, D1.k⟩
      · rw [D1.ch]; simp; omega
      · have := D1.pl
        simp at this ⊢
        rw [Nat.add_mul]
        omega
  · subst e1
    refine ⟨ckNil, ?_⟩
    rw [rgD_length, show ((r.toNat : Nat) : Int) = r by omega] at D1
    exact hQ _ _ _ _ _ _ _ _ D1
def plc (r c : Int) : List (Int × Int) := (rg r).flatMap fun x => (rg c).map fun y => (x, y)
theorem mem_rg {n x : Int} : x ∈ rg n ↔ 0 ≤ x ∧ x < n := by
  constructor
  · exact rg_mem
  · rintro ⟨a, b⟩
    exact List.mem_map.mpr ⟨x.toNat, List.mem_range.mpr (by omega), by omega⟩
theorem mem_plc {r c x y : Int} : (x, y) ∈ plc r c ↔ 0 ≤ x ∧ x < r ∧ 0 ≤ y ∧ y < c := by
  unfold plc
  rw [List.mem_flatMap]
  constructor
  · rintro ⟨a, ha, hb⟩
    obtain ⟨b, hb, e⟩ := List.mem_map.mp hb
    cases e
    have := mem_rg.mp ha
    have := mem_rg.mp hb
    omega
  · rintro ⟨a, b, e, d⟩
    exact ⟨x, mem_rg.mpr ⟨a, b⟩, List.mem_map.mpr ⟨y, mem_rg.mpr ⟨e, d⟩, rfl⟩⟩
/-- is w ahead of the bits of some place -/
def mt (t : Tk) (r c : Int) (w : List Bool) : Bool := (plc r c).any fun p => w.isPrefixOf (t.bts p.1 p.2)
theorem mt_iff {t : Tk} {r c : Int} {w : List Bool} : mt t r c w = true ↔ ∃ x y, x ∈ rg r ∧ y ∈ rg c ∧ w <+: t.bts x y := by
  unfold mt
  rw [List.any_eq_true]
  constructor
  · rintro ⟨⟨x, y⟩, hp, q⟩
    have := mem_plc.mp hp
    exact ⟨x, y, mem_rg.mpr ⟨this.1, this.2.1⟩, mem_rg.mpr this.2.2, List.isPrefixOf_iff_prefix.mp q⟩
  · rintro ⟨x, y, hx, hy, q⟩
    have := mem_rg.mp hx
    have := mem_rg.mp hy
    exact ⟨(x, y), mem_plc.mpr (by omega), List.isPrefixOf_iff_prefix.mpr q⟩
theorem kp_rg : ∀ (w : List Bool) (met : List Bool → Bool), (List.range w.length).filterMap (fun i => (w[i]?).bind fun b => if met (w.take i ++ [!b]) then some (bI b) else none) = (kp met w).map bI
  | [], _ => rfl
  | b :: w, met => by
    rw [List.length_cons, List.range_succ_eq_map, List.filterMap_cons, List.filterMap_map]
    have ih := kp_rg w fun v => met (b :: v)
    have e : (List.filterMap ((fun i => ((b :: w)[i]?).bind fun b' => if met ((b :: w).take i ++ [!b']) then some (bI b') else none) ∘ Nat.succ) (List.range w.length)) = (kp (fun v => met (b :: v)) w).map bI := by
      rw [← ih]
      rfl
    rw [e]
    simp only [List.getElem?_cons_zero, Option.bind_some, List.take_zero, List.nil_append, kp, List.map_append]
    by_cases c : met [!b] = true
    · simp [c]
    · simp [c]
def ent2 (t : Tk) (r c : Int) (p : Int × Int) : List Int × D := ([p.1, p.2], .tup [.int (t.ans p.1 p.2), tI (bs (kp (mt t r c) (t.bts p.1 p.2)))])
def fDue (t : Tk) (r c : Int) (w : List Bool) (x : D) : Option D := match x with
  | .int i => (w[i.toNat]?).bind fun b => if mt t r c (w.take i.toNat ++ [!b]) then some (bI b) else none
  | _ => none
theorem fDue_all {t : Tk} {r c : Int} {w : List Bool} : (rgD 0 w.length).filterMap (fDue t r c w) = (kp (mt t r c) w).map bI := by
  rw [← kp_rg, rgD, List.filterMap_map]
  congr
  funext i
  simp [fDue]
theorem nodup_keys {P : List (Int × Int)} (nd : P.Nodup) (f : Int × Int → D) : ((P.map fun p => ([p.1, p.2], f p)).map (·.1)).Nodup := by
  rw [List.map_map]
  induction P with
  | nil => simp
  | cons p P ih =>
    have nd' := List.nodup_cons.mp nd
    simp only [List.map_cons, List.nodup_cons]
    refine ⟨fun hm => ?_, ih nd'.2⟩
    obtain ⟨q, hq, e⟩ := List.mem_map.mp hm
    simp at e
    have : q = p := Prod.ext e.1 e.2
    exact nd'.1 (this ▸ hq)
/-- is the key met -/
theorem met_look {t : Tk} {r c : Int} {h h' : Hh} {P : List (Int × Int)} {M : List (List Int × D)} (d : DueI t r c h h' r 0 P M) (w : List Bool) : (dlook (kD2 tI M) (tI (bs w))).isSome = mt t r c w := by
  rw [dlook_k eqD_tI, klook_some]
  have : bs w ∈ M.map (·.1) ↔ mt t r c w = true := by
    rw [d.cm, mt_iff]
    constructor
    · rintro ⟨⟨x, y⟩, hp, i, hi, e⟩
      have q := (d.ch x y).mp hp
      refine ⟨x, y, mem_rg.mpr ⟨q.1, q.2.1⟩, mem_rg.mpr ⟨q.2.2.1, q.2.2.2.1⟩, ?_⟩
      rw [bs_inj e]
      exact List.take_prefix _ _
    · rintro ⟨x, y, hx, hy, q⟩
      have := mem_rg.mp hx
      have := mem_rg.mp hy
      refine ⟨(x, y), (d.ch x y).mpr (by omega), w.length, q.length_le, ?_⟩
      rw [← List.prefix_iff_eq_take.mp q]
  by_cases e : mt t r c w = true
  · rw [e]; simpa using this.mpr e
  · have e' : mt t r c w = false := by simpa using e
    rw [e']
    have := fun z => e (this.mp z)
    simpa using this
theorem tI_at {xs : List Int} {i : Nat} {h : Hh} (hi : i < xs.length) : opIx (tI xs) (.int (i : Int)) h = some (.int xs[i], h) := by
  unfold tI
  rw [v_ixT, atI_get (j := i) rfl (by simpa using hi)]
  simp
theorem due_run {t : Tk} {r c : Int} {h : Hh} (hd : t.dep ≤ 60) (r0 : 0 ≤ r) (r1 : r ≤ 100) (c0 : 0 ≤ c) (c1 : c ≤ 100) :
    R1 (m__law_due [t.d, .int r, .int c] h) fun d h' => ∃ l L, d = .ref l ∧ h.length ≤ l ∧ h'[l]? = some (.dct true (kD2 tI L)) ∧ (∀ x y, 0 ≤ x → x < r → 0 ≤ y → y < c → klook L [x, y] = some (.tup [.int (t.ans x y), tI (bs (kp (mt t r c) (t.bts x y)))])) ∧ Hk [] h h' := by
  refine RX_body rfl ?_
  simp [d__law_due]
  refine due_loops hd r0 r1 c0 c1 sSkip sSkip fun P M o5 o6 o7 o8 o9 h1 D1 => ?_
  simp
  have hPl : P.length ≤ 10100 := by
    have := D1.pl
    have m1 : r.toNat * c.toNat ≤ 100 * 100 := Nat.mul_le_mul (by omega) (by omega)
    simp at this
    omega
  have l1 := lt_of D1.em
  refine RS_forD (l := h.length) (t := true) (kvs := kD2 tI (P.map (ent t))) (I := fun k e h' => ∃ o7 o8 o9 o11 o12, e = [some t.d, some (.int r), some (.int c), some (.ref h.length), some (.ref (h.length + 1)), o5, o6, o7, o8, o9, some (.ref h1.length), o11, o12] ∧
      h'[h.length]? = some (.fdc true (kD2 tI (P.map (ent t)))) ∧ h'[h.length + 1]? = some (.dct true (kD2 tI M)) ∧ h'[h1.length]? = some (.dct true (kD2 tI ((P.take k).map (ent2 t r c)))) ∧ Hk [] h h')
    (by simp) (app_at D1.eh) ⟨_, _, _, _, _, rfl, set_at (app_at D1.eh), set_ne (app_at D1.em) (by omega), set_ne (by simp [kD2]) (by omega), (D1.k.app' _).new (Nat.le_refl _)⟩
    (fun k x e h' hk ⟨o7, o8, o9, o11, o12, e1, a1, a2, a3, a4⟩ => ?_) (fun e h' ⟨o7, o8, o9, o11, o12, e1, a1, a2, a3, a4⟩ => ?_)
  · subst e1
    simp only [kD2, List.map_map, List.getElem?_map] at hk
    cases ek : P[k]? with
    | none => rw [ek] at hk; cases hk
    | some p =>
      rw [ek] at hk
      cases hk
      have hkl := (List.getElem?_eq_some_iff.mp ek).1
      have hp : p ∈ P := List.mem_of_getElem? ek
      refine ⟨_, _, rfl, ?_⟩
      have hlook : dlook (kD2 tI (P.map (ent t))) (tI [p.1, p.2]) = some (.tup [.int (t.ans p.1 p.2), tI (bs (t.bts p.1 p.2))]) := by
        rw [dlook_k eqD_tI]
        exact klook_of (l := P.map (ent t)) (p := ent t p) (nodup_keys D1.nd _) (List.mem_map.mpr ⟨p, hp, rfl⟩)
      have hkey := key_tI [p.1, p.2]
      have hbl := bts_len t p.1 p.2
      generalize hw : t.bts p.1 p.2 = w at hlook hbl
      generalize hdb : tI (bs w) = db at hlook
      obtain ⟨m, hm⟩ : ∃ m : Int, m = (w.length : Int) := ⟨_, rfl⟩
      have el : ∀ h : Hh, opLen db h = some (.int m, h) := fun h => by rw [← hdb, hm]; simp [tI, bs]
      have q3 : ∀ h', rg1K [.int m] h' = some (.ok ⟨rgD 0 w.length, []⟩, h') := fun h' => by
        rw [rg1K_ok (by omega) (by omega)]
        rw [show m.toNat = w.length by omega]
      simp [ent, a1, hlook, hkey]
      refine R1.of (lc_pure (h1 := h') (ck := []) (xs := rgD 0 w.length) (fDue t r c w) (by simp [-rg1K_int, el, q3]) ckNil (by rw [rgD_length, sizeL]; omega) (fun x hx => ?_)) ?_
      · obtain ⟨i, hi, e⟩ := List.mem_map.mp hx
        have hi := List.mem_range.mp hi
        subst e
        have hib : i < (bs w).length := by simpa [bs] using hi
        have es : ∀ h : Hh, opSl db none (some (i : Int)) h = some (tI (bs (w.take i)), h) := fun h => by
          rw [← hdb]
          unfold tI
          rw [v_slT, cut_take (by simp [bs]; omega), ← List.map_take]
          simp [bs, List.map_take]
        have ei : ∀ h : Hh, opIx db (.int (i : Int)) h = some (.int (if w[i] then 1 else 0), h) := fun h => by
          rw [← hdb, tI_at hib]
          simp [bs]
        have ea : ∀ h : Hh, opAdd (tI (bs (w.take i))) (.tup [.int (1 - if w[i] then 1 else 0)]) h = some (tI (bs (w.take i ++ [!w[i]])), h) := fun h => by
          unfold tI
          rw [v_addT, if_pos (by simp [bs]; omega)]
          cases w[i] <;> simp [bs]
        have ed : dinK true (dcO h'[h.length + 1]?) (tI (bs (w.take i ++ [!w[i]]))) h' = some (.bl (mt t r c (w.take i ++ [!w[i]])), h') := by
          rw [a2]
          simp [key_tI, met_look D1]
        refine ⟨_, rfl, ?_⟩
        have ef : fDue t r c w (.int (0 + (i : Int))) = if mt t r c (w.take i ++ [!w[i]]) then some (bI w[i]) else none := by
          simp [fDue, hi]
        rw [ef]
        cases hmt : mt t r c (w.take i ++ [!w[i]])
        · exact .inl ⟨by simp [es, ei, ea, ed, hmt], by simp⟩
        · exact .inr ⟨by simp [es, ei, ea, ed, hmt], bI w[i], by simp [ei, bI], by simp⟩
      rw [fDue_all]
      have a3' := app_at (g := [O.lst ((kp (mt t r c) w).map bI)]) a3
      have hlen : P.take (k + 1) = P.take k ++ [p] := by
        rw [List.take_succ_eq_append_getElem hkl]
        congr
        exact (List.getElem?_eq_some_iff.mp ek).2
      have hnew : [p.1, p.2] ∉ ((P.take k).map (ent2 t r c)).map (·.1) := fun hm => by
        have nd := D1.nd
        rw [← List.take_append_drop (k + 1) P, hlen] at nd
        have nd1 := (List.nodup_append.mp nd).1
        have nd2 := nodup_keys nd1 (fun p => (ent2 t r c p).2)
        rw [List.map_append, List.map_append, List.nodup_append] at nd2
        exact nd2.2.2 [p.1, p.2] hm _ (by simp) rfl
      have ePut : ∀ env, dputK (.ref h1.length) (tI [p.1, p.2]) (.tup [.int (t.ans p.1 p.2), .tup ((kp (mt t r c) w).map bI)]) env (h' ++ [O.lst ((kp (mt t r c) w).map bI)]) = some (.nx, env, (h' ++ [O.lst ((kp (mt t r c) w).map bI)]).set h1.length (.dct true (kD2 tI ((P.take (k + 1)).map (ent2 t r c))))) := fun env => by
        rw [dputK_at a3' hkey (by simp [kD2]; omega), dput_k eqD_tI, kput_new hnew, hlen, tI_bs]
        simp [ent2, hw]
      simp [ePut]
      refine ⟨set_ne (app_at a1) (by omega), set_ne (app_at a2) (by omega), ?_, (a4.app' _).new (by omega)⟩
      have := set_at (o' := O.dct true (kD2 tI ((P.take (k + 1)).map (ent2 t r c)))) a3'
      simpa using this
  · subst e1
    refine ⟨⟨_, _, a1⟩, ?_⟩
    have a3' := set_ne (o' := O.dct true (kD2 tI (P.map (ent t)))) a3 (show h1.length ≠ h.length by omega)
    simp
    refine ⟨by omega, P.map (ent2 t r c), by simpa [kD2] using a3', fun x y x0 x1 y0 y1 => ?_, a4.new (Nat.le_refl _)⟩
    have hp : (x, y) ∈ P := (D1.ch x y).mpr (by omega)
    exact klook_of (l := P.map (ent2 t r c)) (p := ent2 t r c (x, y)) (nodup_keys D1.nd _) (List.mem_map.mpr ⟨_, hp, rfl⟩)
/-! ### refusals -/
def tryS (cs : List SCl) (Q : Fl → En → Hh → Prop) : Fl → En → Hh → Prop := fun f e h => match f with
  | .exc c fs => RS (catchC c fs e h cs) Q
  | f => Q f e h
theorem RS_try {cs : List SCl} {db : Sf} {env : En} {h : Hh} {Q : Fl → En → Hh → Prop} (r : RS (db env h) (tryS cs Q)) : RS (sTry cs db env h) Q := by
  unfold sTry
  match db env h, r with
  | some (.nx, e, h), r => exact r
  | some (.bk, e, h), r => exact r
  | some (.ct, e, h), r => exact r
  | some (.rt _, e, h), r => exact r
  | some (.exc c fs, e, h), r => exact r
@[simp] theorem tryS_nx {cs : List SCl} {Q : Fl → En → Hh → Prop} {e : En} {h : Hh} : tryS cs Q .nx e h ↔ Q .nx e h := Iff.rfl
@[simp] theorem tryS_exc {cs : List SCl} {Q : Fl → En → Hh → Prop} {e : En} {h : Hh} {c : Str} {fs : List (Str × D)} : tryS cs Q (.exc c fs) e h ↔ RS (catchC c fs e h cs) Q := Iff.rfl
abbrev vS : Str := Str.ofString "value"
abbrev kS : Str := Str.ofString "talk"
def VT : D := .tup [.str vS, .str kS]
theorem refused_good {t : Tk} {r c : Int} {h : Hh} (o : t.ok r c) (hd : t.dep ≤ 60) (hk : t.cnt ≤ 20000) (hr : 0 ≤ r ∧ r ≤ 100) (hc : 0 ≤ c ∧ c ≤ 100) : R1 (m__law_refused [t.d, .int r, .int c] h) fun d h' => d = .tup [] ∧ Hk [] h h' := by
  refine RX_body rfl ?_
  unfold d__law_refused
  rw [v_seq]
  refine RS_try ?_
  simp
  exact (pruned_good o hd hk hr hc).mono fun d h' ⟨_, k⟩ => k
theorem subs : subX (Str.ofString "BadValue") (Str.ofString "BadText") = false ∧ subX (Str.ofString "BadValue") (Str.ofString "TooMany") = false ∧ subX (Str.ofString "BadValue") (Str.ofString "Unlike") = false ∧ subX (Str.ofString "BadValue") (Str.ofString "Unknown") = false ∧
    subX (Str.ofString "BadValue") (Str.ofString "BadPaper") = false ∧ subX (Str.ofString "BadValue") (Str.ofString "BadValue") = true ∧ subX (Str.ofString "BadValue") (Str.ofString "ValueError") = true ∧ subX (Str.ofString "BadValue") (Str.ofString "TalkError") = true ∧
    Str.ofString "BadValue" ∈ exCs ∧ Str.ofString "TalkError" ∈ exCs := by decide +kernel
theorem refused_bad {v : D} {r c : Int} {k : Nat} {h : Hh} (g : Bad r c 0 v k) : R1 (m__law_refused [v, .int r, .int c] h) fun d h' => d = VT ∧ Hk [] h h' := by
  refine RX_body rfl ?_
  unfold d__law_refused
  rw [v_seq]
  refine RS_try ?_
  rw [v_ex, v_RSb]
  simp only [v_call, v_cons, v_var, v_nil, bnd_ok, List.map_cons, List.map_nil, List.cons_append, List.nil_append, v_getv_z, v_getv_s]
  refine (pruned_bad g).mono (fun _ _ z => z.elim) fun x fs h' ⟨ex, ef, k⟩ => ?_
  subst ex ef
  obtain ⟨s1, s2, s3, s4, s5, s6, s7, s8, m1, m2⟩ := subs
  simp only [tryS_exc]
  unfold catchC
  rw [if_pos ⟨m1, m2⟩, if_pos s8]
  dsimp only
  have hg : ∀ a dx : Nat, offO (some 3) ((sSeq (sIf (S.tOr (tV (dUn (opIsX a dx (Str.ofString "BadValue") [(Str.ofString "BadText")]) (dVar 3))) (S.tOr (tV (dUn (opIsX a dx (Str.ofString "BadValue") [(Str.ofString "TooMany")]) (dVar 3))) (tV (dUn (opIsX a dx (Str.ofString "BadValue") [(Str.ofString "Unlike")]) (dVar 3))))) (sRet (dTup (dCons (dC (.str (Str.ofString "other"))) dNil))) sSkip)
    (sSeq (sIf (S.tOr (tV (dUn (opIsX a dx (Str.ofString "BadValue") [(Str.ofString "Unknown")]) (dVar 3))) (tV (dUn (opIsX a dx (Str.ofString "BadValue") [(Str.ofString "BadPaper")]) (dVar 3)))) (sRet (dTup (dCons (dC (.str (Str.ofString "other"))) dNil))) sSkip)
    (sSeq (sIf (S.tAnd (tV (dUn (opIsX a dx (Str.ofString "BadValue") [(Str.ofString "BadValue")]) (dVar 3))) (tV (dUn (opIsX a dx (Str.ofString "BadValue") ["ValueError"]) (dVar 3)))) (sRet (dTup (dCons (dC (.str (Str.ofString "value"))) (dCons (dUn (opFldX a dx (Str.ofString "BadValue") (Str.ofString "what")) (dVar 3)) dNil)))) sSkip)
    (sRet (dTup (dCons (dC (.str (Str.ofString "other"))) dNil)))))) [some v, some (.int r), some (.int c), some (.exn a dx (Str.ofString "BadValue") (Str.ofString "what") (.str (Str.ofString "talk")))] h') = some (.rt VT, [some v, some (.int r), some (.int c), none], h') := fun a dx => by
    simp [sSeq, opIsX, opFldX, meX, s1, s2, s3, s4, s5, s6, s7, offO, offE, VT, bndS]
  have hc := (common_of fun a dx => (hg a dx).trans (hg 0 0).symm).trans (hg 0 0)
  exact Eq.mpr (congrArg (fun z => RS z (thenS (sRet (dTup dNil)) (ends (fun d h' => d = VT ∧ Hk [] h h') fun x x_1 x_2 => False))) hc) ⟨rfl, k⟩
theorem eqD_tI_self (xs : List Int) : eqD (tI xs) (tI xs) = true := by rw [eqD_tI]; simp
theorem eqD_tk (t : Tk) : eqD t.d t.d = true := by
  induction t with
  | leaf n => simp [Tk.d, eqD, eqDs]
  | node cc ms y n h1 h2 =>
    have e : eqD (dI ms) (dI ms) = true := eqD_tI_self ms
    simp [Tk.d, eqD, eqDs, h1, h2, e]
theorem okD_tI (xs : List Int) : okD (tI xs) = true := okDs_ints xs
theorem dep_tI (xs : List Int) : dep (tI xs) = 1 := by simp [tI, dep, deps_ints]
structure WI (p : Tk) (r c : Int) (h h' : Hh) (ld lw : Nat) (L : List (List Int × D)) (a b : Int) (W : List (List Int × D)) : Prop where
  ed : h'[ld]? = some (.dct true (kD2 tI L))
  ew : h'[lw]? = some (.dct true (kD2 tI W))
  cw : ∀ w, w ∈ W.map (·.1) ↔ ∃ x y, 0 ≤ x ∧ x < r ∧ 0 ≤ y ∧ y < c ∧ (x < a ∨ (x = a ∧ y < b)) ∧ w = bs (p.bts x y)
  nd : (W.map (·.1)).Nodup
  wl : W.length ≤ a.toNat * c.toNat + b.toNat
  k : Hk [] h h'
theorem kput_nodup {κ : Type} [DecidableEq κ] {l : List (κ × D)} {k : κ} {v : D} (nd : (l.map (·.1)).Nodup) : ((kput l k v).map (·.1)).Nodup := by
  rw [kput_keys]
  split
  · exact nd
  · rename_i hn
    rw [List.nodup_append]
    refine ⟨nd, by simp, fun a ha b hb e => ?_⟩
    simp at hb
    subst hb
    subst e
    exact hn ha
theorem ways_count {t : Tk} {r c : Int} (hr : 1 ≤ r) (hc : 1 ≤ c) {h h' : Hh} {ld lw : Nat} {L W : List (List Int × D)} (w : WI (prune t (rg r) (rg c)) r c h h' ld lw L r 0 W) : W.length = (prune t (rg r) (rg c)).lvs := by
  have ne : ne2 (rg r) (rg c) := ne2_iff.mpr ⟨0, 0, mem_rg.mpr (by omega), mem_rg.mpr (by omega)⟩
  have e1 : W.length = (W.map (·.1)).length := by simp
  have nb : ((prune t (rg r) (rg c)).paths.map bs).Nodup := by
    have := paths_nodup (prune t (rg r) (rg c))
    revert this
    generalize (prune t (rg r) (rg c)).paths = ps
    intro nd
    induction ps with
    | nil => simp
    | cons x ps ih =>
      have nd' := List.nodup_cons.mp nd
      simp only [List.map_cons, List.nodup_cons]
      refine ⟨fun hm => ?_, ih nd'.2⟩
      obtain ⟨y, hy, e⟩ := List.mem_map.mp hm
      exact nd'.1 (bs_inj e ▸ hy)
  rw [e1, nodup_same w.nd nb fun x => ?_, List.length_map, paths_len]
  rw [w.cw, List.mem_map]
  constructor
  · rintro ⟨x', y', _, _, _, _, _, e⟩
    exact ⟨_, bts_path _ x' y', e.symm⟩
  · rintro ⟨v, hv, e⟩
    obtain ⟨x', y', hx, hy, q⟩ := path_hit t ne v hv
    have := mem_rg.mp hx
    have := mem_rg.mp hy
    exact ⟨x', y', by omega, by omega, by omega, by omega, by omega, by rw [q, e]⟩
theorem pruned_right_run {t : Tk} {r c : Int} {h : Hh} (o : t.ok r c) (hd : t.dep ≤ 60) (hk : t.cnt ≤ 20000) (r0 : 1 ≤ r) (r1 : r ≤ 100) (c0 : 1 ≤ c) (c1 : c ≤ 100) : R1 (m__law_pruned_right [t.d, .int r, .int c] h) fun d h' => d = .bl true ∧ Hk [] h h' := by
  have ne : ne2 (rg r) (rg c) := ne2_iff.mpr ⟨0, 0, mem_rg.mpr (by omega), mem_rg.mpr (by omega)⟩
  obtain ⟨pd, pc, po, pl, pe, pi⟩ := prune_facts t (rr := r) (cc' := c) ne
  have po := po o
  have q1 : ∀ h', rg1K [.int r] h' = some (.ok ⟨rgD 0 r.toNat, []⟩, h') := fun h' => rg1K_ok (by omega) (by omega)
  have q2 : ∀ h', rg1K [.int c] h' = some (.ok ⟨rgD 0 c.toNat, []⟩, h') := fun h' => rg1K_ok (by omega) (by omega)
  refine RX_body rfl ?_
  simp [d__law_pruned_right]
  refine (pruned_good o hd hk (by omega) (by omega)).mono fun d h1 ⟨e, k1⟩ => ?_
  subst e
  generalize hp : prune t (rg r) (rg c) = p at *
  refine (law_is_talk_run (h := h1) po (by omega) (by omega)).mono fun d h2 ⟨e, k2⟩ => ?_
  subst e
  simp
  refine (due_run (t := t) (r := r) (c := c) (h := h2) hd (by omega) r1 (by omega) c1).mono fun d h3 ⟨ld, L, e, hld, eL, lk, k3⟩ => ?_
  subst e
  have hl3 := lt_of eL
  refine orF_to (F := fun e h' => ∃ (W : List (List Int × D)) (o6 o7 o8 o9 : Option D), e = [some t.d, some (.int r), some (.int c), some p.d, some (.ref ld), some (.ref h3.length), o6, o7, o8, o9, none, none] ∧ WI p r c h h' ld h3.length L r 0 W) ?_ ?_
  · refine RS_for (it := ⟨rgD 0 r.toNat, []⟩) (h1 := h3 ++ [.dct true []]) (I := fun k e h' => ∃ (W : List (List Int × D)) (o6 o7 o8 o9 : Option D), e = [some t.d, some (.int r), some (.int c), some p.d, some (.ref ld), some (.ref h3.length), o6, o7, o8, o9, none, none] ∧ WI p r c h h' ld h3.length L k 0 W)
      (by simp [-rg1K_int, q1]) ⟨[], none, none, none, none, rfl, ⟨app_at eL, by simp [kD2], fun w => by simp; intro x hx _ y hy _ hh; omega, by simp, by simp, ((k1.trans k2).trans k3).app' _⟩⟩
      (fun k x e h' hk ⟨W, o6, o7, o8, o9, e1, w⟩ => ?_) (fun e h' ⟨W, o6, o7, o8, o9, e1, w⟩ => ?_)
    · subst e1
      obtain ⟨rfl, hk⟩ := rgD_get hk
      refine ⟨ckNil, _, _, rfl, ?_⟩
      refine RS_for (it := ⟨rgD 0 c.toNat, []⟩) (h1 := h') (I := fun j e h' => ∃ (W : List (List Int × D)) (o7 o8 o9 : Option D), e = [some t.d, some (.int r), some (.int c), some p.d, some (.ref ld), some (.ref h3.length), some (.int (k : Int)), o7, o8, o9, none, none] ∧ WI p r c h h' ld h3.length L k j W)
        (by simp [-rg1K_int, q2]) ⟨W, o7, o8, o9, by simp, w⟩ (fun j x e h' hj ⟨W, o7, o8, o9, e1, w⟩ => ?_) (fun e h' ⟨W, o7, o8, o9, e1, w⟩ => ?_)
      · subst e1
        obtain ⟨rfl, hj⟩ := rgD_get hj
        refine ⟨ckNil, _, _, rfl, ?_⟩
        simp
        refine (heard_run (t := p) (r := k) (c := j) (h := h') (by omega)).mono fun d h4 ⟨lb, ed, eb, hlb, k4⟩ => ?_
        subst ed
        have eD := k4.at w.ed (by simp)
        have eW := k4.at w.ew (by simp)
        have hWl : W.length ≤ 10100 := by
          have := w.wl
          have m1 : k * c.toNat ≤ 100 * 100 := Nat.mul_le_mul (by omega) (by omega)
          simp at this
          omega
        have hl := lk k j (by omega) (by omega) (by omega) (by omega)
        have hans : p.ans k j = t.ans k j := by rw [← hp]; exact prune_ans t (mem_rg.mpr (by omega)) (mem_rg.mpr (by omega))
        have hbts : p.bts k j = kp (mt t r c) (t.bts k j) := by rw [← hp]; exact prune_bts t (mem_rg.mpr (by omega)) (mem_rg.mpr (by omega)) fun w _ => mt_iff
        have hlook : dlook (kD2 tI L) (tI [(k : Int), (j : Int)]) = some (.tup [.int (p.ans k j), tI (bs (p.bts k j))]) := by
          rw [dlook_k eqD_tI, hl, hans, hbts]
        have hkey := key_tI [(k : Int), (j : Int)]
        have hne : ∀ h : Hh, opNe (.tup [.int (p.ans k j), tI (bs (p.bts k j))]) (.tup [.int (p.ans k j), tI (bs (p.bts k j))]) h = some (.bl false, h) := fun h => by
          rw [opNe_val (by simp [okD, okDs, okD_tI]) (by simp [okD, okDs, okD_tI]) (by simp [dep, deps, dep_tI]) (by simp [dep, deps, dep_tI])]
          simp [eqD, eqDs, eqD_tI_self]
        have etk : D.tup [.int (k : Int), .int (j : Int)] = tI [(k : Int), (j : Int)] := rfl
        have ePut : ∀ env, dputK (.ref h3.length) (tI (bs (p.bts k j))) (.bl true) env h4 = some (.nx, env, h4.set h3.length (.dct true (kD2 tI (kput W (bs (p.bts k j)) (.bl true))))) := fun env => by
          rw [dputK_at eW (key_tI _) (by simp [kD2]; omega), dput_k eqD_tI]
        simp [eb, tI_bs, etk, eD, hkey, hlook, hne, ePut]
        have hl4 := lt_of eD
        refine ⟨kput W (bs (p.bts k j)) (.bl true), set_ne eD (by omega), set_at eW, fun v => ?_, kput_nodup w.nd, ?_, ?_⟩
        · rw [kput_mem, w.cw]
          constructor
          · rintro (⟨x, y, a1, a2, a3, a4, a5, a6⟩ | z)
            · exact ⟨x, y, a1, a2, a3, a4, by omega, a6⟩
            · exact ⟨k, j, by omega, by omega, by omega, by omega, by omega, z⟩
          · rintro ⟨x, y, a1, a2, a3, a4, a5, a6⟩
            by_cases e : x = k ∧ y = j
            · obtain ⟨rfl, rfl⟩ := e
              exact .inr a6
            · exact .inl ⟨x, y, a1, a2, a3, a4, by omega, a6⟩
        · have := w.wl
          have := kput_len W (bs (p.bts k j)) (.bl true)
          simp at *
          omega
        · have := (w.k.trans k4).new (o := O.dct true (kD2 tI (kput W (bs (p.bts k j)) (.bl true)))) (i := h3.length) (by have := k1.1; have := k2.1; have := k3.1; omega)
          exact this
      · subst e1
        refine ⟨ckNil, W, _, _, _, _, rfl, ?_⟩
        rw [rgD_length, show ((c.toNat : Nat) : Int) = c by omega] at w
        refine ⟨w.ed, w.ew, fun v => ?_, w.nd, ?_, w.k⟩
        · rw [w.cw]
          constructor
          · rintro ⟨x, y, a1, a2, a3, a4, a5, a6⟩
            exact ⟨x, y, a1, a2, a3, a4, by simp; omega, a6⟩
          · rintro ⟨x, y, a1, a2, a3, a4, a5, a6⟩
            exact ⟨x, y, a1, a2, a3, a4, by simp at a5; omega, a6⟩
        · have := w.wl
          simp at this ⊢
          rw [Nat.add_mul]
          omega
    · subst e1
      rw [rgD_length, show ((r.toNat : Nat) : Int) = r by omega] at w
      exact ⟨ckNil, W, o6, o7, o8, o9, rfl, w⟩
  · rintro e h' ⟨W, o6, o7, o8, o9, rfl, w⟩
    have hcnt : W.length = p.lvs := by rw [← hp] at w ⊢; exact ways_count r0 c0 w
    simp
    refine (leaf_ways_run (t := p) (h := h') (by omega)).mono fun d h5 ⟨e, e5, k5⟩ => ?_
    subst e
    refine (leaf_ways_run (t := t) (h := h5) (by omega)).mono fun d h6 ⟨e, e6, k6⟩ => ?_
    subst e
    have e5' := k6.at e5 (by simp)
    have eW := (k5.trans k6).at w.ew (by simp)
    have x5 := max_ways (t := p) e5'
    have x6 := max_ways (t := t) e6
    have w5 := wys_len p 0
    have w6 := wys_len t 0
    have hgt : ¬ ((t.dep : Int) < (p.dep : Int)) := by omega
    simp [e5', e6, eW, x5, x6, w5, w6, hcnt, kD2, hgt]
    refine (leaves_of_run (t := p) (h := h6) (by omega)).mono fun d h7 ⟨e, k7⟩ => ?_
    subst e
    have e57 := k7.at e5' (by simp)
    have e67 := k7.at e6 (by simp)
    have eW7 := k7.at eW (by simp)
    simp [kD2] at eW7
    simp [eW7, hcnt]
    refine (depth_of_run (t := p) (h := h7) (by omega)).mono fun d h8 ⟨e, k8⟩ => ?_
    subst e
    have e58 := k8.at e57 (by simp)
    have e68 := k8.at e67 (by simp)
    have eW8 := k8.at eW7 (by simp)
    have x58 := max_ways (t := p) e58
    simp [x58]
    refine (pruned_good (t := p) (h := h8) po (by omega) (by omega) (by omega) (by omega)).mono fun d h9 ⟨e, k9⟩ => ?_
    subst e
    have e69 := k9.at e68 (by simp)
    have eW9 := k9.at eW8 (by simp)
    have kk : Hk [] h h9 := (((((w.k.trans k5).trans k6).trans k7).trans k8).trans k9)
    have dp : dep p.d ≤ 64 := by have := dep_tk p; omega
    have dt : dep t.d ≤ 64 := by have := dep_tk t; omega
    have hself : ∀ h : Hh, opNe p.d p.d h = some (.bl false, h) := fun h => by rw [opNe_val (okD_tk p) (okD_tk p) dp dp, eqD_tk]; rfl
    rw [pi]
    simp [hself, e69, eW9, w6, hcnt]
    rcases pe with pe | pe
    · have hs : ∀ h : Hh, opEq p.d t.d h = some (.bl true, h) := fun h => by rw [← pe, opEq_val (okD_tk p) (okD_tk p) dp dp, eqD_tk]
      simp [hs, kk]
    · have : (p.lvs : Int) < (t.lvs : Int) := by omega
      have pe2 : ¬ t.lvs ≤ p.lvs := by omega
      simp [this, pe, pe2, kk]
def adO (x y : Option (List D)) (h : Hh) : Op D := match x, y with
  | some xs, some ys => if xs.length + ys.length ≤ sizeLine then some (.ref h.length, h ++ [.lst (xs ++ ys)]) else none
  | _, _ => none
@[simp] theorem adO_some {xs ys : List D} {h : Hh} : adO (some xs) (some ys) h = if xs.length + ys.length ≤ sizeLine then some (.ref h.length, h ++ [.lst (xs ++ ys)]) else none := rfl
@[simp] theorem v_addR {l m : Nat} {h : Hh} : opAdd (.ref l) (.ref m) h = adO (wrO h[l]?) (wrO h[m]?) h := by
  cases e1 : h[l]? with
  | none => simp [opAdd, wrO, adO, e1]
  | some o1 =>
    cases e2 : h[m]? with
    | none => cases o1 <;> simp [opAdd, wrO, adO, e1, e2]
    | some o2 => cases o1 <;> cases o2 <;> simp [opAdd, wrO, adO, e1, e2]
abbrev lfD : D := .tup [.str tS, .int 0]
theorem sx : sideS true = cS := rfl
def wrongs (r c : Int) : List D :=
  [.tup [.str tS, .int 100], .tup [.str tS, .int (-1)], .tup [.str tS, .str (Str.ofString "0")], .tup [.str tS], .non, .tup [], .tup [.str (Str.ofString "rows"), .tup [], lfD, lfD],
   .tup [.str rS, .tup [.int r], lfD, lfD], .tup [.str cS, .tup [.int c], lfD, lfD], .tup [.str rS, .tup [.int 0, .int 0], lfD, lfD],
   .tup [.str rS, .tup [.non], lfD, lfD], .tup [.str cS, .tup [.int (-1)], lfD, lfD], .tup [.str cS, .non, lfD, lfD],
   .tup [.str rS, .tup [], lfD], .tup [.str cS, .tup [], lfD, lfD, lfD]]
theorem wrongs_bad {r c : Int} {x : D} (hx : x ∈ wrongs r c) (d : Nat) : Bad r c d x 1 := by
  simp only [wrongs, List.mem_cons, List.not_mem_nil, or_false] at hx
  have k0 : PyData.strOk (Str.ofString "0") = true := by decide +kernel
  have k1 : PyData.strOk (Str.ofString "rows") = true := by decide +kernel
  have k2 : (rS == Str.ofString "rows") = false := by decide +kernel
  have k3 : (cS == Str.ofString "rows") = false := by decide +kernel
  rcases hx with rfl | rfl | rfl | rfl | rfl | rfl | rfl | rfl | rfl | rfl | rfl | rfl | rfl | rfl | rfl
  · exact .leaf rfl rfl
  · exact .leaf rfl rfl
  · exact .leaf k0 rfl
  · exact .len (by simp) (by simp)
  · exact .notup fun h => rfl
  · exact .len (by simp) (by simp)
  · exact .word k1 k2 k3
  · exact .mem (cc := false) rfl (by simp [risD, risDs, countD]; omega)
  · exact .mem (cc := true) rfl (by simp [risD, risDs, countD]; omega)
  · exact .mem (cc := false) rfl (by simp [risD, risDs, countD])
  · exact .mem (cc := false) rfl (by simp [risD, risDs, countD])
  · exact .mem (cc := true) rfl (by simp [risD, risDs, countD])
  · exact .mem (cc := true) rfl (by simp [risD])
  · exact .len (by simp) (by simp)
  · exact .len (by simp) (by simp)
def rights (r c : Int) (t : Tk) : List Tk := [.leaf 99, .leaf 0, .node false [r - 1] (.leaf 0) (.leaf 0), .node true [c - 1] (.leaf 0) (.leaf 0), t]
theorem rights_ok {r c : Int} {t : Tk} (r0 : 1 ≤ r) (c0 : 1 ≤ c) (o : t.ok r c) (hd : t.dep ≤ 29) (hk : t.cnt ≤ 200) : ∀ x ∈ rights r c t, x.ok r c ∧ x.dep ≤ 29 ∧ x.cnt ≤ 200 := by
  intro x hx
  simp only [rights, List.mem_cons, List.not_mem_nil, or_false] at hx
  rcases hx with rfl | rfl | rfl | rfl | rfl
  · simp [Tk.ok, Tk.dep, Tk.cnt]
  · simp [Tk.ok, Tk.dep, Tk.cnt]
  · simp [Tk.ok, Tk.dep, Tk.cnt, Ris]; omega
  · simp [Tk.ok, Tk.dep, Tk.cnt, Ris]; omega
  · exact ⟨o, hd, hk⟩
theorem neVT (h : Hh) : opNe VT (.tup [.str vS, .str kS]) h = some (.bl false, h) := by
  rw [opNe_val (by decide +kernel) (by decide +kernel) (by decide +kernel) (by decide +kernel)]
  rw [show eqD VT (.tup [.str vS, .str kS]) = true by decide +kernel]
  rfl
theorem ne00 (h : Hh) : opNe (.tup []) (.tup []) h = some (.bl false, h) := rfl
theorem refusals_run {l : Nat} {t : Tk} {r c : Int} {h : Hh} (s : Src l h) (o : t.ok r c) (hd : t.dep ≤ 29) (hk : t.cnt ≤ 200) (r0 : 1 ≤ r) (r1 : r ≤ 12) (c0 : 1 ≤ c) (c1 : c ≤ 12) : R1 (m__law_refusals_right [.ref l, t.d, .int r, .int c] h) fun d h' => d = .bl true := by
  refine RX_body rfl ?_
  simp [d__law_refusals_right, List.getElem?_append_right]
  refine (way_down_run (s.keep (Hk.app _)) (by omega)).mono fun d h2 ⟨ps, e, ed, ea, w, s2, k2⟩ => ?_
  subst ed
  have nodes := w.node
  obtain ⟨g1, g2, g3, g4⟩ := w.good o
  have hlt := s.lt
  have eW : h2[h.length + 6]? = some (.lst (wrongs r c)) := k2.at (by simp [List.getElem?_append_right, wrongs]) (by simp; omega)
  have eR : h2[h.length + 7]? = some (.lst ((rights r c t).map Tk.d)) := k2.at (by simp [List.getElem?_append_right, rights, Tk.d, dI]) (by simp; omega)
  simp at ea
  simp
  refine RS_for (it := ⟨wrongs r c, [(h.length + 6, wrongs r c)]⟩) (h1 := h2) (I := fun k e h' => ∃ o8, e = [some (.ref l), some t.d, some (.int r), some (.int c), some (.tup [.str tS, .int 0]), some (.ref (h.length + 6)), some (.ref (h.length + 7)), some (.ref (h.length + 8)), o8] ∧ h'[h.length + 6]? = some (.lst (wrongs r c)) ∧ h'[h.length + 7]? = some (.lst ((rights r c t).map Tk.d)) ∧ h'[h.length + 8]? = some (.lst (ps.map wyD)))
    (by simp [eW]) ⟨_, rfl, eW, eR, ea⟩ (fun k x e' h' hx ⟨o8, e1, a1, a2, a3⟩ => ?_) (fun e' h' ⟨o8, e1, a1, a2, a3⟩ => ?_)
  · subst e1
    have hm := List.mem_of_getElem? hx
    refine ⟨ckOne a1, _, _, rfl, ?_⟩
    simp
    refine (refused_bad (h := h') (wrongs_bad hm 0)).mono fun d h3 ⟨e, k3⟩ => ?_
    subst e
    simp [neVT]
    refine (put_run (h := h3) (x := x) (k3.at a3 (by simp)) nodes).mono fun d h4 ⟨e, k4⟩ => ?_
    subst e
    obtain ⟨j, hj⟩ := w.bad o (d := 0) (by omega) (wrongs_bad hm (0 + ps.length))
    refine (refused_bad (h := h4) hj).mono fun d h5 ⟨e, k5⟩ => ?_
    subst e
    simp [neVT]
    have b3 : Bad r c 0 (.tup [.str rS, .tup [], x, t.d]) (t.cnt + 1 + 1) := .inY (cc := false) (ms := .tup []) rfl rfl (wrongs_bad hm 1) (t.good o (by omega))
    refine (refused_bad (h := h5) b3).mono fun d h6 ⟨e, k6⟩ => ?_
    subst e
    have kk := ((k3.trans k4).trans k5).trans k6
    simp [neVT]
    exact ⟨kk.at a1 (by simp), kk.at a2 (by simp), kk.at a3 (by simp)⟩
  · subst e1
    refine ⟨ckOne a1, ?_⟩
    simp
    refine RS_for (it := ⟨(rights r c t).map Tk.d, [(h.length + 7, (rights r c t).map Tk.d)]⟩) (h1 := h') (I := fun k e h' => ∃ o8, e = [some (.ref l), some t.d, some (.int r), some (.int c), some (.tup [.str tS, .int 0]), some (.ref (h.length + 6)), some (.ref (h.length + 7)), some (.ref (h.length + 8)), o8] ∧ h'[h.length + 7]? = some (.lst ((rights r c t).map Tk.d)) ∧ h'[h.length + 8]? = some (.lst (ps.map wyD)))
      (by simp [a2]) ⟨_, rfl, a2, a3⟩ (fun k x e' h' hx ⟨o8, e1, a2, a3⟩ => ?_) (fun e' h' ⟨o8, e1, a2, a3⟩ => ?_)
    · subst e1
      obtain ⟨u, hu, eu⟩ := List.mem_map.mp (List.mem_of_getElem? hx)
      subst eu
      obtain ⟨u1, u2, u3⟩ := rights_ok r0 c0 o hd hk u hu
      obtain ⟨v1, v2, v3⟩ := g4 u u1
      refine ⟨ckOne a2, _, _, rfl, ?_⟩
      simp
      refine (refused_good (t := u) (h := h') u1 (by omega) (by omega) (by omega) (by omega)).mono fun d h3 ⟨e, k3⟩ => ?_
      subst e
      simp [ne00]
      refine (put_run (h := h3) (x := u.d) (k3.at a3 (by simp)) nodes).mono fun d h4 ⟨e, k4⟩ => ?_
      subst e
      rw [plug_tk]
      refine (refused_good (t := plugT ps u) (h := h4) v1 (by omega) (by omega) (by omega) (by omega)).mono fun d h5 ⟨e, k5⟩ => ?_
      subst e
      have kk := (k3.trans k4).trans k5
      simp [ne00]
      exact ⟨kk.at a2 (by simp), kk.at a3 (by simp)⟩
    · subst e1
      exact ⟨ckOne a2, by simp⟩
/-! ### the law -/
def parK (xs : List D) (i j : Nat) (env : En) (h : Hh) : Os := match xs with
  | [x, y] => some (.nx, (env.set i (some x)).set j (some y), h)
  | _ => none
@[simp] theorem parK_two {x y : D} {i j : Nat} {env : En} {h : Hh} : parK [x, y] i j env h = some (.nx, (env.set i (some x)).set j (some y), h) := rfl
@[simp] theorem v_par {i j : Nat} {a : Af} {env : En} {h : Hh} : sPar i j a env h = bndS (a env h) env fun ds h => parK ds i j env h := rfl
abbrev Asked : Type := Tk × Int × Int
def aD (a : Asked) : D := .tup [a.1.d, .int a.2.1, .int a.2.2]
structure AOk (a : Asked) : Prop where
  o : a.1.ok a.2.1 a.2.2
  d : a.1.dep ≤ 29
  c : a.1.cnt ≤ 200
  r0 : 1 ≤ a.2.1
  r1 : a.2.1 ≤ 12
  c0 : 1 ≤ a.2.2
  c1 : a.2.2 ≤ 12
theorem law_run {x : D} {h : Hh} {xs : List Int} (hx : opSl x none (some 63) h = some (.ref h.length, h ++ [.lst (xs.map D.int)])) (hz : xs.length ≤ sizeLine) : R1 (m_law [x] h) fun d _ => d = .bl true := by
  refine RX_body rfl ?_
  simp [d_law]
  refine (source_run hx hz).mono fun d h1 ⟨l, e, s, k⟩ => ?_
  subst e
  have hl := s.lt
  refine orF_to (F := fun e h' => ∃ (A : List Asked) (o3 o4 o5 o6 o7 o8 : Option D), e = [some x, some (.ref l), some (.ref h1.length), o3, o4, o5, o6, o7, o8] ∧ h'[h1.length]? = some (.lst (A.map aD)) ∧ A.length = 2 ∧ (∀ a ∈ A, AOk a) ∧ Src l h') ?_ ?_
  · refine RS_for (it := ⟨rgD 0 2, []⟩) (h1 := h1 ++ [.lst []]) (I := fun k e h' => ∃ (A : List Asked) (o3 o4 o5 o6 o7 o8 : Option D), e = [some x, some (.ref l), some (.ref h1.length), o3, o4, o5, o6, o7, o8] ∧ h'[h1.length]? = some (.lst (A.map aD)) ∧ A.length = k ∧ (∀ a ∈ A, AOk a) ∧ Src l h')
      (by simp) ⟨[], _, _, _, _, _, _, rfl, by simp, rfl, fun a ha => (nomatch ha), s.keep (Hk.app _)⟩ (fun k x' e h' hk ⟨A, o3, o4, o5, o6, o7, o8, e1, eA, la, gA, s'⟩ => ?_) (fun e h' ⟨A, o3, o4, o5, o6, o7, o8, e1, eA, la, gA, s'⟩ => ?_)
    · subst e1
      obtain ⟨rfl, hk⟩ := rgD_get hk
      refine ⟨ckNil, _, _, rfl, ?_⟩
      rw [v_seq]
      have first : RS (sSet 4 (dIf (S.tCmp opEq (dCall m__law_pick (dCons (dVar 1) (dCons (dC (.int 8)) dNil))) (dC (.int 0))) (dC (.int 12)) (dC (.int 6))) [some x, some (.ref l), some (.ref h1.length), some (.int (k : Int)), o4, o5, o6, o7, o8] h')
          (fun f e h2 => f = .nx ∧ ∃ mo : Int, e = [some x, some (.ref l), some (.ref h1.length), some (.int (k : Int)), some (.int mo), o5, o6, o7, o8] ∧ 1 ≤ mo ∧ mo ≤ 12 ∧ Src l h2 ∧ Hk [l] h' h2) := by
        simp
        refine (pick_run s' (by omega) (by omega)).mono fun d h2 ⟨⟨v, ev, v0, v1⟩, s2, k2⟩ => ?_
        subst ev
        by_cases hv : v = 0
        · simp [hv]
          exact ⟨s2, k2⟩
        · simp [hv]
          exact ⟨s2, k2⟩
      rw [show ((0 : Int) + (k : Int)) = (k : Int) by omega]
      refine RS.mono first fun f e h2 ⟨ef, mo, ee, mo0, mo1, s2, k2⟩ => ?_
      subst ef ee
      rw [thenS_nx]
      have body : ∀ mo : Int, 1 ≤ mo → mo ≤ 12 → RS (sSeq (sPar 5 6 (dCons (dBin opAdd (dC (.int 1)) (dCall m__law_pick (dCons (dVar 1) (dCons (dVar 4) dNil)))) (dCons (dBin opAdd (dC (.int 1)) (dCall m__law_pick (dCons (dVar 1) (dCons (dVar 4) dNil)))) dNil)))
          (sSeq (sSet 7 (dBin opIx (dLst (dCons (dC (.int 3)) (dCons (dC (.int 2)) (dCons (dC (.int 5)) (dCons (dC (.int 100)) dNil))))) (dCall m__law_pick (dCons (dVar 1) (dCons (dC (.int 4)) dNil)))))
          (sSeq (sIf (S.tCmp opEq (dCall m__law_pick (dCons (dVar 1) (dCons (dC (.int 2)) dNil))) (dC (.int 0))) (sSet 8 (dCall m__law_peeled (dCons (dVar 1) (dCons (dVar 5) (dCons (dVar 6) (dCons (dBin opAdd (dC (.int 1)) (dCall m__law_pick (dCons (dVar 1) (dCons (dC (.int 22)) dNil)))) (dCons (dVar 7) dNil))))))) (sSet 8 (dCall (m__law_talk N__law_talk) (dCons (dVar 1) (dCons (dVar 5) (dCons (dVar 6) (dCons (dC (.int 6)) (dCons (dVar 7) dNil))))))))
          (sEx (dMet mAppend (dVar 2) (dCons (dTup (dCons (dCall m__law_idled (dCons (dVar 1) (dCons (dVar 8) (dCons (dVar 5) (dCons (dVar 6) (dCons (dVar 7) dNil)))))) (dCons (dVar 5) (dCons (dVar 6) dNil)))) dNil)))))
          [some x, some (.ref l), some (.ref h1.length), some (.int (k : Int)), some (.int mo), o5, o6, o7, o8] h2)
          (fun f e h' => f = .nx ∧ ∃ (A : List Asked) (o3 o4 o5 o6 o7 o8 : Option D), e = [some x, some (.ref l), some (.ref h1.length), o3, o4, o5, o6, o7, o8] ∧ h'[h1.length]? = some (.lst (A.map aD)) ∧ A.length = k + 1 ∧ (∀ a ∈ A, AOk a) ∧ Src l h') := fun mo mo0 mo1 => by
        have hal : ∀ i, h1.length ≤ i → l ≠ i := fun i hi => by omega
        simp
        refine (pick_run s2 (by omega) (by omega)).mono fun d h3 ⟨⟨rv, ev, rv0, rv1⟩, s3, k3⟩ => ?_
        subst ev
        simp
        refine (pick_run s3 (by omega) (by omega)).mono fun d h4 ⟨⟨cv, ev, cv0, cv1⟩, s4, k4⟩ => ?_
        subst ev
        simp
        refine (pick_run (s4.keep (Hk.app _)) (by omega) (by omega)).mono fun d h5 ⟨⟨mv, ev, mv0, mv1⟩, s5, k5⟩ => ?_
        subst ev
        have e45 := k5.at (show (h4 ++ [O.lst [D.int 3, D.int 2, D.int 5, D.int 100]])[h4.length]? = some (O.lst [D.int 3, D.int 2, D.int 5, D.int 100]) by simp) (by have := s4.lt; simp; omega)
        obtain ⟨many, em, m0, m1⟩ : ∃ many : Int, atI [D.int 3, D.int 2, D.int 5, D.int 100] mv = some (.int many) ∧ 1 ≤ many ∧ many ≤ 100 := by
          have : mv = 0 ∨ mv = 1 ∨ mv = 2 ∨ mv = 3 := by omega
          rcases this with rfl | rfl | rfl | rfl
          · exact ⟨3, by simp, by omega, by omega⟩
          · exact ⟨2, by simp, by omega, by omega⟩
          · exact ⟨5, by simp, by omega, by omega⟩
          · exact ⟨100, by simp, by omega, by omega⟩
        simp [e45, em]
        refine (pick_run s5 (by omega) (by omega)).mono fun d h6 ⟨⟨pv, ev, pv0, pv1⟩, s6, k6⟩ => ?_
        subst ev
        have k16 : Hk [l] h' h6 := (((k2.trans k3).trans (k4.app' _)).trans k5).trans k6
        have fin : ∀ (t : Tk) {h7 : Hh}, t.ok (1 + rv) (1 + cv) → t.dep ≤ 23 → t.cnt ≤ 188 → Src l h7 → Hk [l] h6 h7 → R1 (m__law_idled [.ref l, t.d, .int (1 + rv), .int (1 + cv), .int many] h7) fun d h8 => ∃ t' : Tk, d = t'.d ∧ AOk (t', 1 + rv, 1 + cv) ∧ Src l h8 ∧ h8[h1.length]? = some (.lst (A.map aD)) := fun t h7 o1 o2 o3 s7 k7 =>
          (idled_run s7 o1 (by omega) (by omega) (by omega) (by omega) (by omega) m0 m1).mono fun d h8 ⟨⟨t', et, p1, p2, p3⟩, s8, k8⟩ =>
            ⟨t', et, ⟨p1, by show t'.dep ≤ 29; omega, by show t'.cnt ≤ 200; omega, by show 1 ≤ 1 + rv; omega, by show 1 + rv ≤ 12; omega, by show 1 ≤ 1 + cv; omega, by show 1 + cv ≤ 12; omega⟩, s8, ((k16.trans k7).trans k8).at eA (by simp; omega)⟩
        have last : ∀ {t' : Tk} {h8 : Hh}, AOk (t', 1 + rv, 1 + cv) → Src l h8 → h8[h1.length]? = some (.lst (A.map aD)) → ∃ A' : List Asked, (h8.set h1.length (.lst (A.map aD ++ [.tup [t'.d, .int (1 + rv), .int (1 + cv)]])))[h1.length]? = some (.lst (A'.map aD)) ∧ A'.length = k + 1 ∧ (∀ a ∈ A', AOk a) ∧ Src l (h8.set h1.length (.lst (A.map aD ++ [.tup [t'.d, .int (1 + rv), .int (1 + cv)]]))) := fun {t' h8} p1 p2 p3 =>
          ⟨A ++ [(t', 1 + rv, 1 + cv)], by rw [set_at p3]; simp [aD], by simp [la], fun a ha => by
            rcases List.mem_append.mp ha with ha | ha
            · exact gA a ha
            · simp at ha; subst ha; exact p1, p2.keep' (n := h1.length) hl fun i hi => by rw [List.getElem?_set_ne (by omega)]⟩
        by_cases hp : pv = 0
        · simp [hp]
          refine (pick_run s6 (by omega) (by omega)).mono fun d h7 ⟨⟨nv, ev, nv0, nv1⟩, s7, k7⟩ => ?_
          subst ev
          simp
          refine (peeled_run (r := 1 + rv) (c := 1 + cv) (most := 1 + nv) s7 (by omega) (by omega) (by omega) (by omega) (by omega) (by omega) m0 m1).mono fun d h8 ⟨⟨t, et, o1, o2, o3⟩, s8, k8⟩ => ?_
          subst et
          have e8 := (k16.trans (k7.trans k8)).at eA (by simp; omega)
          simp [e8]
          refine (fin t o1 o2 (by omega) s8 (k7.trans k8)).mono fun d h9 ⟨t', et, p1, p2, p3⟩ => ?_
          subst et
          obtain ⟨A', b1, b2, b3, b4⟩ := last p1 p2 p3
          have hal2 : A.length < 16777216 := by omega
          simp [p3, hal2]
          exact ⟨A', b1, b2, fun a b c hm => b3 _ hm, b4⟩
        · simp [hp]
          refine (talk_run N__law_talk (r := 1 + rv) (c := 1 + cv) (dep := 6) s6 (by omega) (by omega) (by omega) (by omega) (by omega) (by show (6 : Int) < 8; omega) m0 m1).mono fun d h8 ⟨⟨t, et, o1, o2, o3⟩, s8, k8⟩ => ?_
          subst et
          have o4 : t.cnt ≤ 127 := by
            rw [show ((6 : Int).toNat + 1) = 7 from rfl] at o3
            omega
          have e8 := (k16.trans k8).at eA (by simp; omega)
          simp [e8]
          refine (fin t o1 (by omega) (by omega) s8 (k8)).mono fun d h9 ⟨t', et, p1, p2, p3⟩ => ?_
          subst et
          obtain ⟨A', b1, b2, b3, b4⟩ := last p1 p2 p3
          have hal2 : A.length < 16777216 := by omega
          simp [p3, hal2]
          exact ⟨A', b1, b2, fun a b c hm => b3 _ hm, b4⟩
      refine RS.mono (body mo mo0 mo1) fun f e h3 ⟨ef, A', o3, o4, o5, o6, o7, o8, ee, b1, b2, b3, b4⟩ => ?_
      subst ef ee
      exact ⟨A', o3, o4, o5, o6, o7, o8, rfl, b1, b2, b3, b4⟩
    · subst e1
      exact ⟨ckNil, A, o3, o4, o5, o6, o7, o8, rfl, eA, by rw [rgD_length] at la; exact la, gA, s'⟩
  · rintro e h' ⟨A, o3, o4, o5, o6, o7, o8, rfl, eA, la, gA, s'⟩
    match A, la, gA, eA with
    | [a0, a1], _, gA, eA =>
      have g0 := gA a0 (by simp)
      have g1 := gA a1 (by simp)
      have hc1 : cutD [aD a0, aD a1] none (some 1) = [aD a0] := rfl
      simp at eA
      have hlA := lt_of eA
      have eA2 := app_at (g := [O.lst [aD a0]]) eA
      have eA3 := app_at (g := [O.lst [aD a0], O.lst [aD a0, aD a1, aD a0]]) eA
      simp
      refine RS_for (it := ⟨[aD a0, aD a1, aD a0], [(h'.length + 1, [aD a0, aD a1, aD a0])]⟩) (h1 := h' ++ [.lst [aD a0], .lst [aD a0, aD a1, aD a0]]) (I := fun k e h2 => ∃ o5 o6 o8, e = [some x, some (.ref l), some (.ref h1.length), o3, o4, o5, o6, o7, o8] ∧ h2[h1.length]? = some (.lst [aD a0, aD a1]) ∧ h2[h'.length + 1]? = some (.lst [aD a0, aD a1, aD a0]) ∧ Src l h2)
        (by simp [eA, eA2, hc1]) ⟨_, _, _, rfl, eA3, by simp, s'.keep (Hk.app _)⟩ (fun k z e h2 hz ⟨o5, o6, o8, e1, b1, b2, b3⟩ => ?_) (fun e h2 ⟨o5, o6, o8, e1, b1, b2, b3⟩ => ?_)
      · subst e1
        have hm := List.mem_of_getElem? hz
        obtain ⟨a, ga, ez⟩ : ∃ a, AOk a ∧ z = aD a := by
          simp at hm
          rcases hm with rfl | rfl | rfl
          · exact ⟨a0, g0, rfl⟩
          · exact ⟨a1, g1, rfl⟩
          · exact ⟨a0, g0, rfl⟩
        subst ez
        refine ⟨ckOne b2, _, _, rfl, ?_⟩
        simp
        refine (pruned_right_run (t := a.1) (r := a.2.1) (c := a.2.2) (h := h2) ga.o (by have := ga.d; omega) (by have := ga.c; omega) ga.r0 (by have := ga.r1; omega) ga.c0 (by have := ga.c1; omega)).mono fun d h3 ⟨e, k3⟩ => ?_
        subst e
        simp
        exact ⟨k3.at b1 (by simp), k3.at b2 (by simp), b3.keep k3⟩
      · subst e1
        refine ⟨ckOne b2, ?_⟩
        simp [b1, aD]
        exact (refusals_run (t := a1.1) (r := a1.2.1) (c := a1.2.2) b3 g1.o g1.d g1.c g1.r0 g1.r1 g1.c0 g1.c1).mono fun d h3 e => e
theorem law_keeps : Keeps m_law := fun ns hn => by
  have hc : cutD (ns.map D.int) none (some 63) = ns.map D.int := by
    have h63 : (some (63 : Int)) = some ((63 : Nat) : Int) := rfl
    rw [h63]
    unfold cutD
    rw [HT.sIx_nat, HT.sIx_none, Nat.min_eq_right (by simpa using hn)]
    simp
    exact List.take_of_length_le (by simp)
  have hz : ns.length ≤ sizeLine := by rw [sizeL]; omega
  refine ⟨?_, ?_⟩
  · obtain ⟨a, h', e, q⟩ := (law_run (x := .ref 0) (h := [.fro (ns.map D.int)]) (xs := ns) (by simp [hc]) hz).get
    exact ⟨h', by rw [e, q]⟩
  · obtain ⟨a, h', e, q⟩ := (law_run (x := .kl (ns.map D.int)) (h := []) (xs := ns) (by simp [opSl, hc]) hz).get
    exact ⟨h', by rw [e, q]⟩
end G
theorem PySem.Challenge.cw_talkgrowth_k58_pruned_holds : PySem.Challenge.rw_talkgrowth_k58_pruned.Holds := by
  exact G.holds_of G.law_keeps
