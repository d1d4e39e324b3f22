import PyProof.Rows.All
import Wide.All
import OpenK.AllK
import Wide.FinOn
import HandS.ForMost
import HandS.IsInst
import HandS.TupAny
import HandS.Wide
import HandS.Exc
import HandS.ExcOwn
import HandS.TryOnly
import HandS.WordsExc
import HandS.Walk
import HandS.CallLocal
import PyProof.Rows.StrMul
import HandS.TupLe
import HandS.Zip
import HandS.Defaults
import HandS.EndBits
import HandS.Head0
import HandS.Head1
import HandS.Head2
import HandS.HeadEnd
import HandS.HeadHook1
import HandS.HeadHook2
import PyProof.FitsReplace
import HandS.Small
import HandS.HeadHook3
import HandS.HeadHook4
import PySem.Challenge.RW_usedonce_k02_what_is_ended
set_option Elab.async false
set_option linter.all false
set_option maxRecDepth 100000
set_option maxHeartbeats 0
/-! data, the small heap, how they lie in the abstract heap -/
namespace U
open PySem PySem.Spec PyProof.Rows L2

/-- a value as the proofs see it: data by value, a changing thing by its number -/
inductive D where
  | non | bl (b : Bool) | int (i : Int) | str (x : Str) | ty (n : String)
  | tup (l : List D) | lst (l : List D)
  | dic (l : List (Key × D)) | dit (l : List (List Key × D))
  | ref (i : Nat) | fn (i : Nat)
  deriving Inhabited

/-- a thing that may change -/
inductive Ob where
  | lst (l : List D) | dK (l : List (Key × D)) | dT (l : List (List Key × D)) | ins (c : Nat) (fs : List (Str × D)) | dead
  deriving Inhabited

abbrev Hs := List Ob
inductive R (α : Type) where
  | ok (a : α) (h : Hs) | er (c : Nat) (h : Hs) | no

/-- what is fixed: the written part, classes and defs by number -/
structure Gn where
  K : PySem.W.Frag
  w : World
  cl : Nat → Addr
  fa : Nat → Addr

mutual
inductive Rel (G : Gn) (F : Hp) (ι : List Addr) : D → V → Prop
  | non : Rel G F ι .non .non
  | bl (b : Bool) : Rel G F ι (.bl b) (.bl b)
  | int (i : Int) : Rel G F ι (.int i) (.int i)
  | str (x : Str) : Rel G F ι (.str x) (.str x)
  | ty (n : String) : Rel G F ι (.ty n) (.ty n)
  | tup {l : List D} {a : Addr} {xs : List V} : SqT G.K F a xs → RelL G F ι l xs → Rel G F ι (.tup l) (.ref a)
  | lst {l : List D} {a : Addr} {xs : List V} : SqL G.K F a xs → RelL G F ι l xs → Rel G F ι (.lst l) (.ref a)
  | dic {l : List (Key × D)} {a : Addr} {kvs : List (Key × V)} : Rd F a (.dK kvs) → RelK G F ι l kvs → Rel G F ι (.dic l) (.ref a)
  | dit {l : List (List Key × D)} {a : Addr} {kvs : List (List Key × V)} : Rd F a (.dT kvs) → RelT G F ι l kvs → Rel G F ι (.dit l) (.ref a)
  | ref {i : Nat} {a : Addr} : ι[i]? = some a → Rel G F ι (.ref i) (.ref a)
  | fn {i : Nat} {a : Addr} : G.fa i = a → Rel G F ι (.fn i) (.ref a)
inductive RelL (G : Gn) (F : Hp) (ι : List Addr) : List D → List V → Prop
  | nil : RelL G F ι [] []
  | cons {d : D} {v : V} {l : List D} {xs : List V} : Rel G F ι d v → RelL G F ι l xs → RelL G F ι (d :: l) (v :: xs)
inductive RelK (G : Gn) (F : Hp) (ι : List Addr) : List (Key × D) → List (Key × V) → Prop
  | nil : RelK G F ι [] []
  | cons {k : Key} {d : D} {v : V} {l : List (Key × D)} {xs : List (Key × V)} : Rel G F ι d v → RelK G F ι l xs → RelK G F ι ((k, d) :: l) ((k, v) :: xs)
inductive RelT (G : Gn) (F : Hp) (ι : List Addr) : List (List Key × D) → List (List Key × V) → Prop
  | nil : RelT G F ι [] []
  | cons {k : List Key} {d : D} {v : V} {l : List (List Key × D)} {xs : List (List Key × V)} : Rel G F ι d v → RelT G F ι l xs → RelT G F ι ((k, d) :: l) ((k, v) :: xs)
end

/-- the fields of an instance -/
inductive RelF (G : Gn) (F : Hp) (ι : List Addr) : List (Str × D) → List (Str × V) → Prop
  | nil : RelF G F ι [] []
  | cons {k : Str} {d : D} {v : V} {l : List (Str × D)} {xs : List (Str × V)} : Rel G F ι d v → RelF G F ι l xs → RelF G F ι ((k, d) :: l) ((k, v) :: xs)

def RelO (G : Gn) (F : Hp) (ι : List Addr) : Ob → HO → Prop
  | .lst l, .lst xs => RelL G F ι l xs
  | .dK l, .dK kvs => RelK G F ι l kvs
  | .dT l, .dT kvs => RelT G F ι l kvs
  | .ins c fs, .ins C _ vs => C = G.cl c ∧ RelF G F ι fs vs
  | .dead, _ => True
  | _, _ => False

/-- a longer ledger of boxes, more that is fixed -/
structure Ext (F : Hp) (ι : List Addr) (F' : Hp) (ι' : List Addr) : Prop where
  fz : ∀ a u, F a = some u → F' a = some u
  bx : ι <+: ι'
theorem Ext.refl (F : Hp) (ι : List Addr) : Ext F ι F ι := ⟨fun _ _ h => h, List.prefix_rfl⟩
theorem Ext.trans {F F1 F2 : Hp} {ι ι1 ι2 : List Addr} (a : Ext F ι F1 ι1) (b : Ext F1 ι1 F2 ι2) : Ext F ι F2 ι2 := ⟨fun c u h => b.fz c u (a.fz c u h), a.bx.trans b.bx⟩
theorem Ext.at_ {F F' : Hp} {ι ι' : List Addr} (e : Ext F ι F' ι') {i : Nat} {a : Addr} (h : ι[i]? = some a) : ι'[i]? = some a := by
  obtain ⟨t, rfl⟩ := e.bx
  rw [List.getElem?_append_left (by
    have := List.getElem?_eq_some_iff.mp h
    exact this.1)]
  exact h
theorem rd_ext {F F' : Hp} (e : ∀ a u, F a = some u → F' a = some u) {a : Addr} {u : HO} (h : Rd F a u) : Rd F' a u := by
  rcases h with h | ⟨o, h⟩
  · exact .inl (e _ _ h)
  · exact .inr ⟨o, e _ _ h⟩
theorem sqT_ext {K : PySem.W.Frag} {F F' : Hp} (e : ∀ a u, F a = some u → F' a = some u) {a : Addr} {xs : List V} (h : SqT K F a xs) : SqT K F' a xs := by
  rcases h with h | h
  · exact .inl (rd_ext e h)
  · exact .inr h
theorem sqL_ext {K : PySem.W.Frag} {F F' : Hp} (e : ∀ a u, F a = some u → F' a = some u) {a : Addr} {xs : List V} (h : SqL K F a xs) : SqL K F' a xs := by
  rcases h with h | h
  · exact .inl (rd_ext e h)
  · exact .inr h

section
variable {G : Gn} {F F' : Hp} {ι ι' : List Addr}
mutual
theorem Rel.ext (e : Ext F ι F' ι') : ∀ {d : D} {v : V}, Rel G F ι d v → Rel G F' ι' d v
  | _, _, .non => .non
  | _, _, .bl b => .bl b
  | _, _, .int i => .int i
  | _, _, .str x => .str x
  | _, _, .ty n => .ty n
  | _, _, .tup h r => .tup (sqT_ext e.fz h) (RelL.ext e r)
  | _, _, .lst h r => .lst (sqL_ext e.fz h) (RelL.ext e r)
  | _, _, .dic h r => .dic (rd_ext e.fz h) (RelK.ext e r)
  | _, _, .dit h r => .dit (rd_ext e.fz h) (RelT.ext e r)
  | _, _, .ref h => .ref (e.at_ h)
  | _, _, .fn h => .fn h
theorem RelL.ext (e : Ext F ι F' ι') : ∀ {l : List D} {xs : List V}, RelL G F ι l xs → RelL G F' ι' l xs
  | _, _, .nil => .nil
  | _, _, .cons h r => .cons (Rel.ext e h) (RelL.ext e r)
theorem RelK.ext (e : Ext F ι F' ι') : ∀ {l : List (Key × D)} {xs : List (Key × V)}, RelK G F ι l xs → RelK G F' ι' l xs
  | _, _, .nil => .nil
  | _, _, .cons h r => .cons (Rel.ext e h) (RelK.ext e r)
theorem RelT.ext (e : Ext F ι F' ι') : ∀ {l : List (List Key × D)} {xs : List (List Key × V)}, RelT G F ι l xs → RelT G F' ι' l xs
  | _, _, .nil => .nil
  | _, _, .cons h r => .cons (Rel.ext e h) (RelT.ext e r)
end
theorem RelF.ext (e : Ext F ι F' ι') {l : List (Str × D)} : ∀ {xs : List (Str × V)}, RelF G F ι l xs → RelF G F' ι' l xs := by
  induction l with
  | nil => intro xs h; cases h; exact .nil
  | cons p r ih => intro xs h; cases h with | cons h t => exact .cons (h.ext e) (ih t)
theorem RelO.ext (e : Ext F ι F' ι') {o : Ob} {u : HO} (h : RelO G F ι o u) : RelO G F' ι' o u := by
  cases o <;> cases u <;> first
    | exact (show False from h).elim
    | exact True.intro
    | exact RelL.ext e h
    | exact RelK.ext e h
    | exact RelT.ext e h
    | exact ⟨h.1, RelF.ext e h.2⟩
theorem RelL.len {l : List D} : ∀ {xs : List V}, RelL G F ι l xs → l.length = xs.length := by
  induction l with
  | nil => intro xs h; cases h; rfl
  | cons p r ih => intro xs h; cases h with | cons h t => exact congrArg (· + 1) (ih t)
theorem RelL.get {l : List D} : ∀ {xs : List V} {i : Nat} {v : V}, RelL G F ι l xs → xs[i]? = some v → ∃ d, l[i]? = some d ∧ Rel G F ι d v := by
  induction l with
  | nil => intro xs i v h e; cases h; simp at e
  | cons p r ih =>
    intro xs i v h e
    cases h with
    | cons h t =>
      cases i with
      | zero =>
        simp at e
        subst e
        exact ⟨_, rfl, h⟩
      | succ i =>
        obtain ⟨d, h1, h2⟩ := ih t (i := i) (by simpa using e)
        exact ⟨d, by simpa using h1, h2⟩
theorem RelL.get' {l : List D} : ∀ {xs : List V} {i : Nat} {d : D}, RelL G F ι l xs → l[i]? = some d → ∃ v, xs[i]? = some v ∧ Rel G F ι d v := by
  induction l with
  | nil => intro xs i v h e; simp at e
  | cons p r ih =>
    intro xs i v h e
    cases h with
    | cons h t =>
      cases i with
      | zero =>
        simp at e
        subst e
        exact ⟨_, rfl, h⟩
      | succ i =>
        obtain ⟨d, h1, h2⟩ := ih t (i := i) (by simpa using e)
        exact ⟨d, by simpa using h1, h2⟩
theorem RelL.app {m : List D} {ys : List V} (r : RelL G F ι m ys) {l : List D} : ∀ {xs : List V}, RelL G F ι l xs → RelL G F ι (l ++ m) (xs ++ ys) := by
  induction l with
  | nil => intro xs h; cases h; exact r
  | cons p q ih => intro xs h; cases h with | cons h t => exact .cons h (ih t)
theorem RelL.take {l : List D} : ∀ {xs : List V} (n : Nat), RelL G F ι l xs → RelL G F ι (l.take n) (xs.take n) := by
  induction l with
  | nil => intro xs n h; cases h; rw [List.take_nil, List.take_nil]; exact .nil
  | cons p q ih =>
    intro xs n h
    cases h with
    | cons h t =>
      cases n with
      | zero => exact .nil
      | succ n => exact .cons h (ih n t)
theorem RelL.drop {l : List D} : ∀ {xs : List V} (n : Nat), RelL G F ι l xs → RelL G F ι (l.drop n) (xs.drop n) := by
  induction l with
  | nil => intro xs n h; cases h; rw [List.drop_nil, List.drop_nil]; exact .nil
  | cons p q ih =>
    intro xs n h
    cases h with
    | cons h t =>
      cases n with
      | zero => exact .cons h t
      | succ n => exact ih n t
theorem RelL.set {l : List D} : ∀ {xs : List V} (n : Nat) {d : D} {v : V}, RelL G F ι l xs → Rel G F ι d v → RelL G F ι (l.set n d) (xs.set n v) := by
  induction l with
  | nil => intro xs n d v h r; cases h; exact .nil
  | cons p q ih =>
    intro xs n d v h r
    cases h with
    | cons h t =>
      cases n with
      | zero => exact .cons r t
      | succ n => exact .cons h (ih n t r)
end

theorem rd_some {H : Hp} {a : Addr} {u : HO} (h : Rd H a u) : H a ≠ none := by
  rcases h with h | ⟨o, h⟩ <;> rw [h] <;> exact fun z => nomatch z
theorem rd_upd {H : Hp} {a p : Addr} {u x : HO} (h : Rd H a u) (n : a ≠ p) : Rd (upd H p x) a u := by
  rcases h with h | ⟨o, h⟩
  · exact .inl (by rw [upd_ne n]; exact h)
  · exact .inr ⟨o, by rw [upd_ne n]; exact h⟩

/-- the small heap h, its boxes at ι, what is fixed F (in H it may be locked): so they lie in H -/
structure Rs (G : Gn) (F : Hp) (ι : List Addr) (h : Hs) (H : Hp) : Prop where
  fz : ∀ a u, F a = some u → Rd H a u
  nf : ∀ a o u, F a ≠ some (.frz o u)
  sep : ∀ (i : Nat) (a : Addr) (o : Ob), ι[i]? = some a → h[i]? = some o → o ≠ .dead → F a = none
  len : ι.length = h.length
  nd : ι.Nodup
  obj : ∀ (i : Nat) (o : Ob), h[i]? = some o → ∃ a u, ι[i]? = some a ∧ H a = some u ∧ RelO G F ι o u

section
variable {G : Gn} {F : Hp} {ι : List Addr} {h : Hs} {H : Hp}
theorem Rs.rd (r : Rs G F ι h H) {a : Addr} {u : HO} (q : Rd F a u) : Rd H a u := by
  rcases q with q | ⟨o, q⟩
  · exact r.fz _ _ q
  · exact absurd q (r.nf _ _ _)
theorem Rs.sqT (r : Rs G F ι h H) {a : Addr} {xs : List V} (q : SqT G.K F a xs) : SqT G.K H a xs := by
  rcases q with q | q
  · exact .inl (r.rd q)
  · exact .inr q
theorem Rs.sqL (r : Rs G F ι h H) {a : Addr} {xs : List V} (q : SqL G.K F a xs) : SqL G.K H a xs := by
  rcases q with q | q
  · exact .inl (r.rd q)
  · exact .inr q
theorem Rs.bx (r : Rs G F ι h H) {i : Nat} {a : Addr} {o : Ob} (e : ι[i]? = some a) (q : h[i]? = some o) : ∃ u, H a = some u ∧ RelO G F ι o u := by
  obtain ⟨b, u, e1, e2, e3⟩ := r.obj i o q
  rw [e] at e1
  cases e1
  exact ⟨u, e2, e3⟩
theorem Rs.inbox (r : Rs G F ι h H) {a : Addr} (m : a ∈ ι) : H a ≠ none := by
  obtain ⟨i, hi⟩ := List.mem_iff_getElem?.mp m
  have hl : i < h.length := by
    rw [← r.len]
    exact (List.getElem?_eq_some_iff.mp hi).1
  obtain ⟨b, x, e1, e2, _⟩ := r.obj i _ (List.getElem?_eq_getElem hl)
  rw [hi] at e1
  cases e1
  rw [e2]
  exact fun z => nomatch z
/-- a new thing is laid and fixed -/
theorem Rs.lay (r : Rs G F ι h H) {p : Addr} {u : HO} (n : H p = none) (nu : ∀ o x, u ≠ .frz o x) : Rs G (upd F p u) ι h (upd H p u) ∧ Ext F ι (upd F p u) ι := by
  have nF : ∀ a x, F a = some x → a ≠ p := fun a x e z => rd_some (r.fz a x e) (by rw [z]; exact n)
  have e : Ext F ι (upd F p u) ι := ⟨fun a x q => by rw [upd_ne (nF a x q)]; exact q, List.prefix_rfl⟩
  refine ⟨⟨fun a x q => ?_, fun a o x q => ?_, fun i a o m e2 e3 => ?_, r.len, r.nd, fun i o q => ?_⟩, e⟩
  · by_cases z : a = p
    · subst z
      rw [upd_same] at q
      exact .inl (by rw [upd_same]; exact q)
    · rw [upd_ne z] at q
      exact rd_upd (r.fz a x q) z
  · by_cases z : a = p
    · subst z
      rw [upd_same] at q
      exact nu o x (Option.some.inj q)
    · rw [upd_ne z] at q
      exact r.nf a o x q
  · have z : a ≠ p := fun z => r.inbox (List.mem_of_getElem? m) (by rw [z]; exact n)
    rw [upd_ne z]
    exact r.sep i a o m e2 e3
  · obtain ⟨b, x, e1, e2, e3⟩ := r.obj i o q
    refine ⟨b, x, e1, ?_, e3.ext e⟩
    rw [upd_ne (ne_of_none e2 n)]
    exact e2
/-- a new thing is laid as a box -/
theorem Rs.box (r : Rs G F ι h H) {p : Addr} {u : HO} {o : Ob} (n : H p = none) (q : RelO G F (ι ++ [p]) o u) : Rs G F (ι ++ [p]) (h ++ [o]) (upd H p u) ∧ Ext F ι F (ι ++ [p]) := by
  have nF : ∀ a x, F a = some x → a ≠ p := fun a x e z => rd_some (r.fz a x e) (by rw [z]; exact n)
  have e : Ext F ι F (ι ++ [p]) := ⟨fun _ _ h => h, List.prefix_append _ _⟩
  have np : p ∉ ι := fun m => r.inbox m n
  refine ⟨⟨fun a x q => rd_upd (r.fz a x q) (nF a x q), r.nf, fun i a o' m e2 e3 => ?_, ?_, ?_, fun i o' q' => ?_⟩, e⟩
  · by_cases hi : i < h.length
    · rw [List.getElem?_append_left hi] at e2
      rw [List.getElem?_append_left (by rw [r.len]; exact hi)] at m
      exact r.sep i a o' m e2 e3
    · rw [List.getElem?_append_right (by rw [r.len]; omega)] at m
      have z : a = p := by
        have := List.mem_of_getElem? m
        simpa using this
      rw [z]
      cases hF : F p with
      | none => rfl
      | some x => exact absurd rfl (nF p x hF)
  · rw [List.length_append, List.length_append, r.len]
    rfl
  · exact List.nodup_append.mpr ⟨r.nd, by simp, fun a ha b hb z => by
      have : b = p := by simpa using hb
      rw [z, this] at ha
      exact np ha⟩
  · by_cases hi : i < h.length
    · rw [List.getElem?_append_left hi] at q'
      obtain ⟨b, x, e1, e2, e3⟩ := r.obj i o' q'
      refine ⟨b, x, e.at_ e1, ?_, e3.ext e⟩
      rw [upd_ne (ne_of_none e2 n)]
      exact e2
    · rw [List.getElem?_append_right (by omega)] at q'
      have hz : i - h.length = 0 := by
        have := (List.getElem?_eq_some_iff.mp q').1
        simp at this
        omega
      rw [hz] at q'
      have q' : o = o' := by simpa using q'
      subst q'
      refine ⟨p, u, ?_, upd_same, q⟩
      rw [List.getElem?_append_right (by rw [r.len]; omega), r.len, hz]
      rfl
/-- a box is written -/
theorem Rs.put (r : Rs G F ι h H) {i : Nat} {a : Addr} {u : HO} {o o0 : Ob} (e : ι[i]? = some a) (e0 : h[i]? = some o0) (d0 : o0 ≠ .dead) (q : RelO G F ι o u) : Rs G F ι (h.set i o) (upd H a u) := by
  have hm : a ∈ ι := List.mem_of_getElem? e
  refine ⟨fun b x z => ?_, r.nf, fun j b o' m e2 e3 => ?_, by rw [List.length_set]; exact r.len, r.nd, fun j o' z => ?_⟩
  · have nb : b ≠ a := fun w => by
      rw [w, r.sep i a o0 e e0 d0] at z
      cases z
    exact rd_upd (r.fz b x z) nb
  · by_cases hj : j = i
    · subst hj
      rw [e] at m
      cases m
      exact r.sep j a o0 e e0 d0
    · rw [List.getElem?_set_ne (Ne.symm hj)] at e2
      exact r.sep j b o' m e2 e3
  · by_cases hj : j = i
    · subst hj
      have hl : j < h.length := by
        rw [← r.len]
        exact (List.getElem?_eq_some_iff.mp e).1
      rw [List.getElem?_set_self hl] at z
      cases z
      exact ⟨a, u, e, upd_same, q⟩
    · rw [List.getElem?_set_ne (Ne.symm hj)] at z
      obtain ⟨b, x, e1, e2, e3⟩ := r.obj j o' z
      have nb : b ≠ a := fun w => by
        subst w
        exact hj (nd_ix r.nd e1 e)
      exact ⟨b, x, e1, by rw [upd_ne nb]; exact e2, e3⟩
end

/-- from one state of the abstract heap to a later one: what is no box of ours stands as it stood -/
structure Stp (F : Hp) (ι : List Addr) (H : Hp) (F' : Hp) (ι' : List Addr) (H' : Hp) : Prop extends Ext F ι F' ι' where
  fr : ∀ a, a ∈ ι' → a ∉ ι → H a = none
  kp : ∀ a u, H a = some u → a ∉ ι → (∀ ps, u ≠ .tbl ps) → H' a = some u
  tb : ∀ a ps, H a = some (.tbl ps) → a ∉ ι → ∃ qs, H' a = some (.tbl qs)
  fx : ∀ a u, F' a = some u → F a = none → a ∈ ι ∨ H a = none
theorem Stp.refl (F : Hp) (ι : List Addr) (H : Hp) : Stp F ι H F ι H := ⟨Ext.refl F ι, fun _ m n => absurd m n, fun _ _ h _ _ => h, fun _ ps h _ => ⟨ps, h⟩, fun a u e n => by rw [n] at e; cases e⟩
theorem Stp.trans {F F1 F2 : Hp} {ι ι1 ι2 : List Addr} {H H1 H2 : Hp} (a : Stp F ι H F1 ι1 H1) (b : Stp F1 ι1 H1 F2 ι2 H2) : Stp F ι H F2 ι2 H2 := by
  have nin : ∀ c u, H c = some u → c ∉ ι → c ∉ ι1 := fun c u e n m => by
    have := a.fr c m n
    rw [e] at this
    cases this
  have back : ∀ c, c ∉ ι → H1 c = none → H c = none := fun c n e1 => by
    cases e : H c with
    | none => rfl
    | some u =>
      by_cases nt : ∃ ps, u = .tbl ps
      · obtain ⟨ps, rfl⟩ := nt
        obtain ⟨qs, e2⟩ := a.tb c ps e n
        rw [e1] at e2
        cases e2
      · have e2 := a.kp c u e n fun ps z => nt ⟨ps, z⟩
        rw [e1] at e2
        cases e2
  refine ⟨a.toExt.trans b.toExt, fun c m n => ?_, fun c u e n nt => b.kp c u (a.kp c u e n nt) (nin c u e n) nt, fun c ps e n => ?_, fun c u e n => ?_⟩
  · by_cases m1 : c ∈ ι1
    · exact a.fr c m1 n
    · exact back c n (b.fr c m m1)
  · obtain ⟨qs, e1⟩ := a.tb c ps e n
    exact b.tb c qs e1 (nin c _ e n)
  · by_cases m : c ∈ ι
    · exact .inl m
    · refine .inr ?_
      cases e1 : F1 c with
      | some x => exact (a.fx c x e1 n).elim (fun z => absurd z m) id
      | none =>
        rcases b.fx c u e e1 with m1 | e2
        · exact a.fr c m1 m
        · exact back c m e2
/-- a new thing -/
theorem Stp.lay {F : Hp} {ι : List Addr} {H : Hp} {p : Addr} {u : HO} (n : H p = none) (e : Ext F ι (upd F p u) ι) : Stp F ι H (upd F p u) ι (upd H p u) :=
  ⟨e, fun _ m z => absurd m z, fun a x q _ _ => by rw [upd_ne (ne_of_none q n)]; exact q, fun a ps q _ => ⟨ps, by rw [upd_ne (ne_of_none q n)]; exact q⟩, fun a x q z => by
    by_cases h : a = p
    · rw [h]
      exact .inr n
    · rw [upd_ne h, z] at q
      cases q⟩
/-- a new box -/
theorem Stp.box {F : Hp} {ι : List Addr} {H : Hp} {p : Addr} {u : HO} (n : H p = none) (e : Ext F ι F (ι ++ [p])) : Stp F ι H F (ι ++ [p]) (upd H p u) :=
  ⟨e, fun a m z => by
    rcases List.mem_append.mp m with m | m
    · exact absurd m z
    · have : a = p := by simpa using m
      rw [this]
      exact n, fun a x q _ _ => by rw [upd_ne (ne_of_none q n)]; exact q, fun a ps q _ => ⟨ps, by rw [upd_ne (ne_of_none q n)]; exact q⟩, fun a x q z => by rw [z] at q; cases q⟩
/-- a box written -/
theorem Stp.put {F : Hp} {ι : List Addr} {H : Hp} {i : Nat} {a : Addr} {u : HO} (e : ι[i]? = some a) : Stp F ι H F ι (upd H a u) := by
  have m := List.mem_of_getElem? e
  exact ⟨Ext.refl F ι, fun _ m z => absurd m z, fun b x q nb _ => by rw [upd_ne (fun z => nb (by rw [z]; exact m))]; exact q, fun b ps q nb => ⟨ps, by rw [upd_ne (fun z => nb (by rw [z]; exact m))]; exact q⟩, fun b x q z => by rw [z] at q; cases q⟩
theorem Stp.same {F F' : Hp} {ι : List Addr} {H : Hp} (e : Ext F ι F' ι) (k : ∀ a u, F' a = some u → F a = none → a ∈ ι ∨ H a = none) : Stp F ι H F' ι H := ⟨e, fun _ m z => absurd m z, fun _ _ h _ _ => h, fun _ ps h _ => ⟨ps, h⟩, k⟩
/-- a call's own boxes are forgotten behind it -/
theorem Stp.cut {F F' : Hp} {ι ι' : List Addr} {H H' : Hp} (s : Stp F ι H F' ι' H') (e : ι'.take ι.length = ι) : Stp F ι H F' ι H' :=
  ⟨⟨s.fz, List.prefix_rfl⟩, fun _ m z => absurd m z, s.kp, s.tb, s.fx⟩

section
variable {G : Gn} {F : Hp} {ι : List Addr} {h : Hs} {H : Hp}
/-- a box's list is fixed: the box is dead from now on -/
theorem Rs.freeze (r : Rs G F ι h H) {i : Nat} {l : List D} (e0 : h[i]? = some (.lst l)) : ∃ a xs F', ι[i]? = some a ∧ Stp F ι H F' ι H ∧ Rs G F' ι (h.set i .dead) H ∧ F' a = some (.lst xs) ∧ RelL G F' ι l xs := by
  obtain ⟨a, u, e1, e2, e3⟩ := r.obj i _ e0
  cases u with
  | lst xs =>
    have fa : F a = none := r.sep i a _ e1 e0 (fun z => nomatch z)
    have e : Ext F ι (upd F a (.lst xs)) ι := ⟨fun b x q => by
      have nb : b ≠ a := fun w => by
        rw [w, fa] at q
        cases q
      rw [upd_ne nb]
      exact q, List.prefix_rfl⟩
    have e3' : RelL G F ι l xs := e3
    refine ⟨a, xs, _, e1, Stp.same e (fun b x q z => by
      by_cases hb : b = a
      · exact .inl (by rw [hb]; exact List.mem_of_getElem? e1)
      · rw [upd_ne hb, z] at q
        cases q), ⟨fun b x q => ?_, fun b o x q => ?_, fun j b o' m m2 m3 => ?_, by rw [List.length_set]; exact r.len, r.nd, fun j o' z => ?_⟩, upd_same, RelL.ext e e3'⟩
    · by_cases hb : b = a
      · subst hb
        rw [upd_same] at q
        cases q
        exact .inl e2
      · rw [upd_ne hb] at q
        exact r.fz b x q
    · by_cases hb : b = a
      · subst hb
        rw [upd_same] at q
        cases q
      · rw [upd_ne hb] at q
        exact r.nf b o x q
    · by_cases hj : j = i
      · subst hj
        have hl : j < h.length := by
          rw [← r.len]
          exact (List.getElem?_eq_some_iff.mp e1).1
        rw [List.getElem?_set_self hl] at m2
        cases m2
        exact absurd rfl m3
      · rw [List.getElem?_set_ne (Ne.symm hj)] at m2
        have nb : b ≠ a := fun w => by
          subst w
          exact hj (nd_ix r.nd m e1)
        rw [upd_ne nb]
        exact r.sep j b o' m m2 m3
    · by_cases hj : j = i
      · subst hj
        have hl : j < h.length := by
          rw [← r.len]
          exact (List.getElem?_eq_some_iff.mp e1).1
        rw [List.getElem?_set_self hl] at z
        cases z
        exact ⟨a, _, e1, e2, True.intro⟩
      · rw [List.getElem?_set_ne (Ne.symm hj)] at z
        obtain ⟨b, x, g1, g2, g3⟩ := r.obj j o' z
        exact ⟨b, x, g1, g2, g3.ext e⟩
  | _ => exact (show False from e3).elim
/-- a box's dict is fixed -/
theorem Rs.freezeK (r : Rs G F ι h H) {i : Nat} {l : List (Key × D)} (e0 : h[i]? = some (.dK l)) : ∃ a xs F', ι[i]? = some a ∧ Stp F ι H F' ι H ∧ Rs G F' ι (h.set i .dead) H ∧ F' a = some (.dK xs) ∧ RelK G F' ι l xs := by
  obtain ⟨a, u, e1, e2, e3⟩ := r.obj i _ e0
  cases u with
  | dK xs =>
    have fa : F a = none := r.sep i a _ e1 e0 (fun z => nomatch z)
    have e : Ext F ι (upd F a (.dK xs)) ι := ⟨fun b x q => by
      have nb : b ≠ a := fun w => by
        rw [w, fa] at q
        cases q
      rw [upd_ne nb]
      exact q, List.prefix_rfl⟩
    have e3' : RelK G F ι l xs := e3
    refine ⟨a, xs, _, e1, Stp.same e (fun b x q z => by
      by_cases hb : b = a
      · exact .inl (by rw [hb]; exact List.mem_of_getElem? e1)
      · rw [upd_ne hb, z] at q
        cases q), ⟨fun b x q => ?_, fun b o x q => ?_, fun j b o' m m2 m3 => ?_, by rw [List.length_set]; exact r.len, r.nd, fun j o' z => ?_⟩, upd_same, RelK.ext e e3'⟩
    · by_cases hb : b = a
      · subst hb
        rw [upd_same] at q
        cases q
        exact .inl e2
      · rw [upd_ne hb] at q
        exact r.fz b x q
    · by_cases hb : b = a
      · subst hb
        rw [upd_same] at q
        cases q
      · rw [upd_ne hb] at q
        exact r.nf b o x q
    · by_cases hj : j = i
      · subst hj
        have hl : j < h.length := by
          rw [← r.len]
          exact (List.getElem?_eq_some_iff.mp e1).1
        rw [List.getElem?_set_self hl] at m2
        cases m2
        exact absurd rfl m3
      · rw [List.getElem?_set_ne (Ne.symm hj)] at m2
        have nb : b ≠ a := fun w => by
          subst w
          exact hj (nd_ix r.nd m e1)
        rw [upd_ne nb]
        exact r.sep j b o' m m2 m3
    · by_cases hj : j = i
      · subst hj
        have hl : j < h.length := by
          rw [← r.len]
          exact (List.getElem?_eq_some_iff.mp e1).1
        rw [List.getElem?_set_self hl] at z
        cases z
        exact ⟨a, _, e1, e2, True.intro⟩
      · rw [List.getElem?_set_ne (Ne.symm hj)] at z
        obtain ⟨b, x, g1, g2, g3⟩ := r.obj j o' z
        exact ⟨b, x, g1, g2, g3.ext e⟩
  | _ => exact (show False from e3).elim
end

/-! ### what leans on no box from n on -/
mutual
def okD (n : Nat) : D → Bool
  | .tup l => okL n l
  | .lst l => okL n l
  | .dic l => okK n l
  | .dit l => okT n l
  | .ref i => decide (i < n)
  | _ => true
def okL (n : Nat) : List D → Bool
  | [] => true
  | d :: l => okD n d && okL n l
def okK (n : Nat) : List (Key × D) → Bool
  | [] => true
  | (_, d) :: l => okD n d && okK n l
def okT (n : Nat) : List (List Key × D) → Bool
  | [] => true
  | (_, d) :: l => okD n d && okT n l
end
def okF (n : Nat) : List (Str × D) → Bool
  | [] => true
  | (_, d) :: l => okD n d && okF n l
def okO (n : Nat) : Ob → Bool
  | .lst l => okL n l
  | .dK l => okK n l
  | .dT l => okT n l
  | .ins _ fs => okF n fs
  | .dead => true
section
variable {G : Gn} {F : Hp} {ι : List Addr} {n : Nat}
theorem take_at {ι : List Addr} {n i : Nat} {a : Addr} (h : ι[i]? = some a) (hi : i < n) : (ι.take n)[i]? = some a := by
  rw [List.getElem?_take_of_lt hi]
  exact h
mutual
theorem Rel.cut : ∀ {d : D} {v : V}, okD n d = true → Rel G F ι d v → Rel G F (ι.take n) d v
  | _, _, _, .non => .non
  | _, _, _, .bl b => .bl b
  | _, _, _, .int i => .int i
  | _, _, _, .str x => .str x
  | _, _, _, .ty n => .ty n
  | _, _, o, .tup h r => .tup h (RelL.cut (by simpa [okD] using o) r)
  | _, _, o, .lst h r => .lst h (RelL.cut (by simpa [okD] using o) r)
  | _, _, o, .dic h r => .dic h (RelK.cut (by simpa [okD] using o) r)
  | _, _, o, .dit h r => .dit h (RelT.cut (by simpa [okD] using o) r)
  | _, _, o, .ref h => .ref (take_at h (by simpa [okD] using o))
  | _, _, _, .fn h => .fn h
theorem RelL.cut : ∀ {l : List D} {xs : List V}, okL n l = true → RelL G F ι l xs → RelL G F (ι.take n) l xs
  | _, _, _, .nil => .nil
  | _, _, o, .cons h r => .cons (Rel.cut (by simp [okL] at o; exact o.1) h) (RelL.cut (by simp [okL] at o; exact o.2) r)
theorem RelK.cut : ∀ {l : List (Key × D)} {xs : List (Key × V)}, okK n l = true → RelK G F ι l xs → RelK G F (ι.take n) l xs
  | _, _, _, .nil => .nil
  | _, _, o, .cons h r => .cons (Rel.cut (by simp [okK] at o; exact o.1) h) (RelK.cut (by simp [okK] at o; exact o.2) r)
theorem RelT.cut : ∀ {l : List (List Key × D)} {xs : List (List Key × V)}, okT n l = true → RelT G F ι l xs → RelT G F (ι.take n) l xs
  | _, _, _, .nil => .nil
  | _, _, o, .cons h r => .cons (Rel.cut (by simp [okT] at o; exact o.1) h) (RelT.cut (by simp [okT] at o; exact o.2) r)
end
theorem RelF.cut {l : List (Str × D)} : ∀ {xs : List (Str × V)}, okF n l = true → RelF G F ι l xs → RelF G F (ι.take n) l xs := by
  induction l with
  | nil => intro xs _ h; cases h; exact .nil
  | cons p r ih =>
    intro xs o h
    cases h with
    | cons h t =>
      simp [okF] at o
      exact .cons (h.cut o.1) (ih o.2 t)
theorem RelO.cut {o : Ob} {u : HO} (k : okO n o = true) (h : RelO G F ι o u) : RelO G F (ι.take n) o u := by
  cases o <;> cases u <;> first
    | exact (show False from h).elim
    | exact True.intro
    | exact RelL.cut k h
    | exact RelK.cut k h
    | exact RelT.cut k h
    | exact ⟨h.1, RelF.cut k h.2⟩
end
/-! ### sameness, told -/
mutual
def smD : D → D → Bool
  | .non, .non => true
  | .bl a, .bl b => a == b
  | .int a, .int b => a == b
  | .str a, .str b => a == b
  | .ty a, .ty b => a == b
  | .tup a, .tup b => smL a b
  | .lst a, .lst b => smL a b
  | .dic a, .dic b => smK a b
  | .dit a, .dit b => smT a b
  | .ref a, .ref b => a == b
  | .fn a, .fn b => a == b
  | _, _ => false
def smL : List D → List D → Bool
  | [], [] => true
  | a :: l, b :: m => smD a b && smL l m
  | _, _ => false
def smK : List (Key × D) → List (Key × D) → Bool
  | [], [] => true
  | (j, a) :: l, (k, b) :: m => decide (j = k) && smD a b && smK l m
  | _, _ => false
def smT : List (List Key × D) → List (List Key × D) → Bool
  | [], [] => true
  | (j, a) :: l, (k, b) :: m => decide (j = k) && smD a b && smT l m
  | _, _ => false
end
mutual
theorem smD_eq : ∀ {a b : D}, smD a b = true → a = b
  | .non, b, h => by cases b <;> first | rfl | (simp [smD] at h)
  | .bl _, b, h => by cases b <;> first | (simp [smD] at h; done) | (simp [smD] at h; rw [h])
  | .int _, b, h => by cases b <;> first | (simp [smD] at h; done) | (simp [smD] at h; rw [h])
  | .str _, b, h => by cases b <;> first | (simp [smD] at h; done) | (simp [smD] at h; rw [h])
  | .ty _, b, h => by cases b <;> first | (simp [smD] at h; done) | (simp [smD] at h; rw [h])
  | .ref _, b, h => by cases b <;> first | (simp [smD] at h; done) | (simp [smD] at h; rw [h])
  | .fn _, b, h => by cases b <;> first | (simp [smD] at h; done) | (simp [smD] at h; rw [h])
  | .tup l, b, h => by
    cases b with
    | tup m => rw [smL_eq (a := l) (b := m) (by simpa [smD] using h)]
    | _ => simp [smD] at h
  | .lst l, b, h => by
    cases b with
    | lst m => rw [smL_eq (a := l) (b := m) (by simpa [smD] using h)]
    | _ => simp [smD] at h
  | .dic l, b, h => by
    cases b with
    | dic m => rw [smK_eq (a := l) (b := m) (by simpa [smD] using h)]
    | _ => simp [smD] at h
  | .dit l, b, h => by
    cases b with
    | dit m => rw [smT_eq (a := l) (b := m) (by simpa [smD] using h)]
    | _ => simp [smD] at h
theorem smL_eq : ∀ {a b : List D}, smL a b = true → a = b
  | [], [], _ => rfl
  | [], _ :: _, h => by simp [smL] at h
  | _ :: _, [], h => by simp [smL] at h
  | x :: l, y :: m, h => by
    simp only [smL, Bool.and_eq_true] at h
    rw [smD_eq h.1, smL_eq h.2]
theorem smK_eq : ∀ {a b : List (Key × D)}, smK a b = true → a = b
  | [], [], _ => rfl
  | [], _ :: _, h => by simp [smK] at h
  | _ :: _, [], h => by simp [smK] at h
  | (j, x) :: l, (k, y) :: m, h => by
    simp only [smK, Bool.and_eq_true, decide_eq_true_eq] at h
    rw [h.1.1, smD_eq h.1.2, smK_eq h.2]
theorem smT_eq : ∀ {a b : List (List Key × D)}, smT a b = true → a = b
  | [], [], _ => rfl
  | [], _ :: _, h => by simp [smT] at h
  | _ :: _, [], h => by simp [smT] at h
  | (j, x) :: l, (k, y) :: m, h => by
    simp only [smT, Bool.and_eq_true, decide_eq_true_eq] at h
    rw [h.1.1, smD_eq h.1.2, smT_eq h.2]
end
mutual
theorem smD_rfl : ∀ a : D, smD a a = true
  | .non => by simp [smD]
  | .bl _ => by simp [smD]
  | .int _ => by simp [smD]
  | .str _ => by simp [smD]
  | .ty _ => by simp [smD]
  | .ref _ => by simp [smD]
  | .fn _ => by simp [smD]
  | .tup l => by simp [smD, smL_rfl l]
  | .lst l => by simp [smD, smL_rfl l]
  | .dic l => by simp [smD, smK_rfl l]
  | .dit l => by simp [smD, smT_rfl l]
theorem smL_rfl : ∀ a : List D, smL a a = true
  | [] => by simp [smL]
  | x :: l => by simp [smL, smD_rfl x, smL_rfl l]
theorem smK_rfl : ∀ a : List (Key × D), smK a a = true
  | [] => by simp [smK]
  | (j, x) :: l => by simp [smK, smD_rfl x, smK_rfl l]
theorem smT_rfl : ∀ a : List (List Key × D), smT a a = true
  | [] => by simp [smT]
  | (j, x) :: l => by simp [smT, smD_rfl x, smT_rfl l]
end
def smF : List (Str × D) → List (Str × D) → Bool
  | [], [] => true
  | (j, a) :: l, (k, b) :: m => decide (j = k) && smD a b && smF l m
  | _, _ => false
theorem smF_eq : ∀ {a b : List (Str × D)}, smF a b = true → a = b
  | [], [], _ => rfl
  | [], _ :: _, h => by simp [smF] at h
  | _ :: _, [], h => by simp [smF] at h
  | (j, x) :: l, (k, y) :: m, h => by
    simp only [smF, Bool.and_eq_true, decide_eq_true_eq] at h
    rw [h.1.1, smD_eq h.1.2, smF_eq h.2]
theorem smF_rfl : ∀ a : List (Str × D), smF a a = true
  | [] => by simp [smF]
  | (j, x) :: l => by simp [smF, smD_rfl x, smF_rfl l]
def smO : Ob → Ob → Bool
  | .lst a, .lst b => smL a b
  | .dK a, .dK b => smK a b
  | .dT a, .dT b => smT a b
  | .ins c a, .ins d b => c == d && smF a b
  | .dead, .dead => true
  | _, _ => false
theorem smO_eq {a b : Ob} (h : smO a b = true) : a = b := by
  cases a <;> cases b <;> first
    | (simp [smO] at h; done)
    | rfl
    | (rw [smL_eq (show smL _ _ = true from h)]; done)
    | (rw [smK_eq (show smK _ _ = true from h)]; done)
    | (rw [smT_eq (show smT _ _ = true from h)]; done)
    | (simp only [smO, Bool.and_eq_true, beq_iff_eq] at h; rw [h.1, smF_eq h.2])
theorem smO_rfl (a : Ob) : smO a a = true := by
  cases a <;> simp [smO, smL_rfl, smK_rfl, smT_rfl, smF_rfl]
/-- the boxes of h stand in h' as they did, or lean on none from n on -/
def chk (n : Nat) : Hs → Hs → Bool
  | [], _ => true
  | o :: h, o' :: h' => (smO o o' || okO n o') && chk n h h'
  | _ :: _, [] => false
theorem chk_at {n : Nat} : ∀ {h h' : Hs}, chk n h h' = true → ∀ {i : Nat} {o' : Ob}, i < h.length → h'[i]? = some o' → h[i]? = some o' ∨ okO n o' = true
  | [], _, _, i, _, hi, _ => by simp at hi
  | o :: h, [], c, _, _, _, _ => by simp [chk] at c
  | o :: h, p :: h', c, 0, o', _, e => by
    simp only [chk, Bool.and_eq_true, Bool.or_eq_true] at c
    have e : p = o' := by simpa using e
    subst e
    rcases c.1 with c | c
    · exact .inl (by simp [smO_eq c])
    · exact .inr c
  | o :: h, p :: h', c, i + 1, o', hi, e => by
    simp only [chk, Bool.and_eq_true] at c
    have := chk_at c.2 (i := i) (o' := o') (by simpa using hi) (by simpa using e)
    simpa using this
theorem chk_len {n : Nat} : ∀ {h h' : Hs}, chk n h h' = true → h.length ≤ h'.length
  | [], _, _ => Nat.zero_le _
  | o :: h, [], c => by simp [chk] at c
  | o :: h, p :: h', c => by
    simp only [chk, Bool.and_eq_true] at c
    have := chk_len c.2
    simp only [List.length_cons]
    omega
theorem chk_app (n : Nat) (g : Hs) : ∀ h : Hs, chk n h (h ++ g) = true
  | [] => by simp [chk]
  | o :: h => by simp [chk, smO_rfl, chk_app n g h]
theorem chk_rfl (n : Nat) (h : Hs) : chk n h h = true := by
  have := chk_app n [] h
  rwa [List.append_nil] at this
theorem chk_set {n : Nat} {o : Ob} (k : okO n o = true) (g : Hs) : ∀ (h : Hs) (i : Nat), chk n h (h.set i o ++ g) = true
  | [], _ => by simp [chk]
  | p :: h, 0 => by simp [chk, k, chk_app n g h]
  | p :: h, i + 1 => by simp [chk, smO_rfl, chk_set k g h i]

/-! ### frames -/
abbrev Rho := List (Option D)
def RelS (G : Gn) (F : Hp) (ι : List Addr) (ρ : Rho) (σ : L2.St) : Prop :=
  ρ.length = σ.length ∧ ∀ (i : Nat) (d : D), ρ[i]? = some (some d) → ∃ v, σ[i]? = some (some v) ∧ Rel G F ι d v
section
variable {G : Gn} {F F' : Hp} {ι ι' : List Addr} {ρ : Rho} {σ : L2.St}
theorem RelS.ext (e : Ext F ι F' ι') (r : RelS G F ι ρ σ) : RelS G F' ι' ρ σ := ⟨r.1, fun i d h => by
  obtain ⟨v, h1, h2⟩ := r.2 i d h
  exact ⟨v, h1, h2.ext e⟩⟩
theorem RelS.set (r : RelS G F ι ρ σ) {i : Nat} {d : D} {v : V} (q : Rel G F ι d v) : RelS G F ι (ρ.set i (some d)) (σ.set i (some v)) := by
  refine ⟨by rw [List.length_set, List.length_set]; exact r.1, fun j e h => ?_⟩
  by_cases hj : j = i
  · subst hj
    by_cases hl : j < ρ.length
    · rw [List.getElem?_set_self hl] at h
      cases h
      exact ⟨v, List.getElem?_set_self (by rw [← r.1]; exact hl), q⟩
    · rw [List.getElem?_eq_none (by rw [List.length_set]; omega)] at h
      cases h
  · rw [List.getElem?_set_ne (Ne.symm hj)] at h
    obtain ⟨w, h1, h2⟩ := r.2 j e h
    exact ⟨w, by rw [List.getElem?_set_ne (Ne.symm hj)]; exact h1, h2⟩
theorem RelS.unset (r : RelS G F ι ρ σ) (i : Nat) : RelS G F ι (ρ.set i none) (σ.set i none) := by
  refine ⟨by rw [List.length_set, List.length_set]; exact r.1, fun j e h => ?_⟩
  by_cases hj : j = i
  · subst hj
    by_cases hl : j < ρ.length
    · rw [List.getElem?_set_self hl] at h
      cases h
    · rw [List.getElem?_eq_none (by rw [List.length_set]; omega)] at h
      cases h
  · rw [List.getElem?_set_ne (Ne.symm hj)] at h
    obtain ⟨w, h1, h2⟩ := r.2 j e h
    exact ⟨w, by rw [List.getElem?_set_ne (Ne.symm hj)]; exact h1, h2⟩
end
theorem relS_start {G : Gn} {F : Hp} {ι : List Addr} {ds : List D} {vs : List V} (N : List Str) (r : RelL G F ι ds vs) : RelS G F ι (ds.map some ++ List.replicate (N.length - ds.length) none) (L2.start N vs) := by
  have hl := r.len
  unfold L2.start
  refine ⟨by simp [hl], fun i d h => ?_⟩
  by_cases hi : i < ds.length
  · rw [List.getElem?_append_left (by simpa using hi), List.getElem?_map] at h
    cases e : ds[i]? with
    | none =>
      rw [e] at h
      cases h
    | some x =>
      rw [e] at h
      cases h
      obtain ⟨v, h1, h2⟩ := r.get' e
      refine ⟨v, ?_, h2⟩
      rw [List.getElem?_append_left (by rw [List.length_map, ← hl]; exact hi), List.getElem?_map, h1]
      rfl
  · rw [List.getElem?_append_right (by rw [List.length_map]; omega), List.getElem?_replicate] at h
    split at h <;> cases h
end U
/-! readings over data: what an expression, a test, a statement gives -/
namespace U
open PySem PySem.Spec PyProof.Rows L2

/-- what stands fixed around a piece of code: level k -/
structure Bn (X : Cx) (G : Gn) (W : WX) (k : Nat) : Prop where
  K : X.K = G.K
  w : X.w = G.w
  calm : X.calm = true
  nd : X.N.Nodup
  tk : Takes X W
  hr : Room k X.A
  po : PassesOwn (model X.prog X.w) X.A X.env X.xe

section
variable {α β γ : Type} {G : Gn} {F F' H H' : Hp} {ι ι' : List Addr}
def Pst (G : Gn) (F : Hp) (ι : List Addr) (H : Hp) (rel : Hp → List Addr → α → β → Prop) (W : Nat → Hp → Prop) (r : R α) (Q : β → Hp → Prop) : Prop :=
  match r with
  | .ok a h' => ∀ b H' F' ι', Stp F ι H F' ι' H' → Rs G F' ι' h' H' → rel F' ι' a b → Q b H'
  | .er c h' => ∀ H' F' ι', Stp F ι H F' ι' H' → Rs G F' ι' h' H' → W c H'
  | .no => False
def R.bind (r : R α) (k : α → Hs → R β) : R β := match r with
  | .ok a h => k a h
  | .er c h => .er c h
  | .no => .no
theorem R.bind_ok (a : α) (h : Hs) (k : α → Hs → R β) : R.bind (.ok a h) k = k a h := rfl
theorem R.bind_er (c : Nat) (h : Hs) (k : α → Hs → R β) : R.bind (.er c h : R α) k = .er c h := rfl
theorem R.bind_no (k : α → Hs → R β) : R.bind (.no : R α) k = .no := rfl
theorem Pst.ext {rel : Hp → List Addr → α → β → Prop} {W : Nat → Hp → Prop} {r : R α} {Q : β → Hp → Prop} (e : Stp F ι H F' ι' H') (p : Pst G F ι H rel W r Q) : Pst G F' ι' H' rel W r Q := by
  cases r with
  | ok a h => exact fun b H2 F2 ι2 e2 => p b H2 F2 ι2 (e.trans e2)
  | er c h => exact fun H2 F2 ι2 e2 => p H2 F2 ι2 (e.trans e2)
  | no => exact p
theorem Pst.bind {δ : Type} {rel1 : Hp → List Addr → α → δ → Prop} {rel2 : Hp → List Addr → β → γ → Prop} {W : Nat → Hp → Prop} {r : R α} {k : α → Hs → R β} {Q : γ → Hp → Prop} {Q1 : δ → Hp → Prop}
    (p : Pst G F ι H rel2 W (r.bind k) Q) (h : ∀ a h1 b H1 F1 ι1, Stp F ι H F1 ι1 H1 → Rs G F1 ι1 h1 H1 → rel1 F1 ι1 a b → Pst G F1 ι1 H1 rel2 W (k a h1) Q → Q1 b H1) : Pst G F ι H rel1 W r Q1 := by
  cases r with
  | ok a h1 => exact fun b H1 F1 ι1 e r q => h a h1 b H1 F1 ι1 e r q (Pst.ext e p)
  | er c h1 => exact p
  | no => exact p
theorem Pst.okk {rel : Hp → List Addr → α → β → Prop} {W : Nat → Hp → Prop} {a : α} {h : Hs} {Q : β → Hp → Prop} (p : Pst G F ι H rel W (.ok a h) Q) {b : β} (r : Rs G F ι h H) (q : rel F ι a b) : Q b H := p b H F ι (Stp.refl F ι H) r q
end

abbrev EV := Rho → Hs → R D
abbrev AV := Rho → Hs → R (List D)
abbrev BV := Rho → Hs → R Bool
def relB : Hp → List Addr → Bool → Bool → Prop := fun _ _ a b => a = b

def tE (G : Gn) (W : WX) (f : EV) : TE := fun σ H Q => ∃ ρ h F ι, RelS G F ι ρ σ ∧ Rs G F ι h H ∧ Pst G F ι H (Rel G) (fun c H' => W (.ref (G.cl c)) none σ H') (f ρ h) Q
def tAa (G : Gn) (W : WX) (f : AV) : TA := fun σ H Q => ∃ ρ h F ι, RelS G F ι ρ σ ∧ Rs G F ι h H ∧ Pst G F ι H (RelL G) (fun c H' => W (.ref (G.cl c)) none σ H') (f ρ h) Q
def tBb (G : Gn) (W : WX) (f : BV) : TT := fun σ H Q => ∃ ρ h F ι, RelS G F ι ρ σ ∧ Rs G F ι h H ∧ Pst G F ι H relB (fun c H' => W (.ref (G.cl c)) none σ H') (f ρ h) Q

def QE (X : Cx) (G : Gn) (W : WX) (e : Expr) (f : EV) : Prop := PE X e (tE G W f)
def QA (X : Cx) (G : Gn) (W : WX) (es : List Expr) (f : AV) : Prop := PA X es (tAa G W f)
def QT (X : Cx) (G : Gn) (W : WX) (e : Expr) (f : BV) : Prop := PT X e (tBb G W f)
def QW (X : Cx) (G : Gn) (W : WX) (e : Expr) (f : BV) : Prop := PW X e (tBb G W f)

section
variable {X : Cx} {G : Gn} {W : WX} {k : Nat} {e a b c : Expr} {fa fb fc : EV} {pos : Pos}
theorem qe_of {t : TE} {f : EV} (hp : PE X e t) (h : ∀ σ H Q, tE G W f σ H Q → t σ H Q) : QE X G W e f := ⟨fun pins s σ H Q I q => hp.run pins s σ H Q I (h σ H Q q)⟩
theorem qt_of {t : TT} {f : BV} (hp : PT X e t) (h : ∀ σ H Q, tBb G W f σ H Q → t σ H Q) : QT X G W e f := ⟨fun pins s σ H Q I q => hp.run pins s σ H Q I (h σ H Q q)⟩
theorem PE.or {t u : TE} (h1 : PE X e t) (h2 : PE X e u) : PE X e (fun σ H Q => t σ H Q ∨ u σ H Q) := ⟨fun pins s σ H Q I q => q.elim (h1.run pins s σ H Q I) (h2.run pins s σ H Q I)⟩
/-- one part, then by values -/
theorem tE.bind {f : EV} {kf : D → Hs → R D} {σ : L2.St} {H : Hp} {Q : VK} {Q1 : VK} {ρ : Rho} {h : Hs} {F : Hp} {ι : List Addr} (rs : RelS G F ι ρ σ) (r0 : Rs G F ι h H)
    (p : Pst G F ι H (Rel G) (fun c H' => W (.ref (G.cl c)) none σ H') ((f ρ h).bind kf) Q)
    (hk : ∀ d h1 v H1 F1 ι1, Stp F ι H F1 ι1 H1 → Rs G F1 ι1 h1 H1 → Rel G F1 ι1 d v → Pst G F1 ι1 H1 (Rel G) (fun c H' => W (.ref (G.cl c)) none σ H') (kf d h1) Q → Q1 v H1) : tE G W f σ H Q1 :=
  ⟨ρ, h, F, ι, rs, r0, p.bind hk⟩

/-! ### names, constants -/
def eVar (i : Nat) : EV := fun ρ h => match ρ[i]? with
  | some (some d) => .ok d h
  | _ => .no
def eC (d : D) : EV := fun _ h => .ok d h
theorem q_var {i : Nat} {x : Str} (hN : X.N[i]? = some x := by rfl) (hv : Vis X.env.scope x := by first | exact Or.inl rfl | exact Or.inr (Or.inl rfl) | exact Or.inr (Or.inr rfl)) (hd : (x == ("__debug__" : Str)) = false := by decide)
    (hcd : (x == ("__classdict__" : Str)) = false := by decide) : QE X G W (.Name x pos) (eVar i) := by
  refine qe_of (pe_var (i := i) hN hv hd hcd) fun σ H Q ⟨ρ, h, F, ι, rs, r0, p⟩ => ?_
  unfold eVar at p
  cases e : ρ[i]? with
  | none => rw [e] at p; exact p.elim
  | some o =>
    cases o with
    | none => rw [e] at p; exact p.elim
    | some d =>
      rw [e] at p
      obtain ⟨v, h1, h2⟩ := rs.2 i d e
      exact ⟨v, h1, Pst.okk p r0 h2⟩
theorem q_c {d : D} {v : V} (hp : PE X e (tC v)) (hr : ∀ F ι, Rel G F ι d v) : QE X G W e (eC d) :=
  qe_of hp fun σ H Q ⟨ρ, h, F, ι, rs, r0, p⟩ => Pst.okk p r0 (hr F ι)
theorem q_int {i : Int} {j : Nat} : QE X G W (.Constant (.int i) j pos) (eC (.int i)) := q_c pe_int fun _ _ => .int i
theorem q_bl {i : Bool} {j : Nat} : QE X G W (.Constant (.bool i) j pos) (eC (.bl i)) := q_c pe_bl fun _ _ => .bl i
theorem q_non {j : Nat} : QE X G W (.Constant .none j pos) (eC .non) := q_c pe_non fun _ _ => .non
theorem q_str {x : Str} {j : Nat} : QE X G W (.Constant (.str x) j pos) (eC (.str x)) := q_c pe_str fun _ _ => .str x
theorem q_glob {x : Str} {v : V} {u : Value} {d : D} (hm : X.mg x = some u) (r : RelV v u) (hr : ∀ F ι, Rel G F ι d v) (hg : Gl X x := by rfl) (hd : (x == ("__debug__" : Str)) = false := by decide) : QE X G W (.Name x pos) (eC d) :=
  q_c (pe_glob hg hm r hd) hr

/-! ### operators by values -/
abbrev Op2 := D → D → Hs → Option D
def eOp (op : Op2) (fa fb : EV) : EV := fun ρ h => (fa ρ h).bind fun x h1 => (fb ρ h1).bind fun y h2 => match op x y h2 with
  | some d => .ok d h2
  | none => .no
def rOf (G : Gn) (op : Op2) : R2 := fun x y H Q => ∃ dx dy h F ι, Rs G F ι h H ∧ Rel G F ι dx x ∧ Rel G F ι dy y ∧ ∃ d, op dx dy h = some d ∧ ∀ v H' F' ι', Stp F ι H F' ι' H' → Rs G F' ι' h H' → Rel G F' ι' d v → Q v H'
theorem tOp_of {op : Op2} {σ : L2.St} {H : Hp} {Q : VK} (q : tE G W (eOp op fa fb) σ H Q) : tOp (rOf G op) (tE G W fa) (tE G W fb) σ H Q := by
  obtain ⟨ρ, h, F, ι, rs, r0, p⟩ := q
  refine tE.bind rs r0 p fun dx h1 x H1 F1 ι1 e1 r1 q1 p1 => ?_
  refine tE.bind (rs.ext e1.toExt) r1 p1 fun dy h2 y H2 F2 ι2 e2 r2 q2 p2 => ?_
  cases e : op dx dy h2 with
  | none => simp only [e] at p2; exact p2.elim
  | some d =>
    simp only [e] at p2
    exact ⟨dx, dy, h2, F2, ι2, r2, q1.ext e2.toExt, q2, d, e, p2⟩
theorem q_bin {o : Operator} {op : Op2} (ho : OpR X (binaryOp o) (rOf G op)) (ha : QE X G W a fa) (hb : QE X G W b fb) : QE X G W (.BinOp a o b pos) (eOp op fa fb) := qe_of (pe_op ho ha hb) fun _ _ _ => tOp_of
theorem q_cmp {o : CmpOp} {op : Op2} (ho : OpR X (compareOp o) (rOf G op)) (ha : QE X G W a fa) (hb : QE X G W b fb) (hm : behindInMarks o b = false := by rfl) : QE X G W (.Compare a [o] [b] pos) (eOp op fa fb) := qe_of (pe_cmpR ho ha hb hm) fun _ _ _ => tOp_of

/-! ### tests -/
/-- a value that is a bool, as a test -/
def bE (f : EV) : BV := fun ρ h => (f ρ h).bind fun d h1 => match d with
  | .bl b => .ok b h1
  | _ => .no
theorem tB_of {σ : L2.St} {H : Hp} {f : EV} {Q : Bool → Hp → Prop} (q : tBb G W (bE f) σ H Q) : tB (tE G W f) σ H Q := by
  obtain ⟨ρ, h, F, ι, rs, r0, p⟩ := q
  refine ⟨ρ, h, F, ι, rs, r0, p.bind fun d h1 v H1 F1 ι1 e1 r1 q1 p1 => ?_⟩
  cases d with
  | bl b =>
    cases q1
    exact ⟨b, rfl, Pst.okk p1 r1 rfl⟩
  | _ => exact p1.elim
theorem qt_val {f : EV} (h : QE X G W e f) (he : ∀ whole, isTrue e X.env whole = (do let v ← whole; standAt e.pos; holding [v] (truthy v)) := by intro _; rfl) : QT X G W e (bE f) := qt_of (pt_val h he) fun _ _ _ => tB_of
theorem qt_cmp {o : CmpOp} {op : Op2} (ho : OpR X (compareOp o) (rOf G op)) (ha : QE X G W a fa) (hb : QE X G W b fb) (hm : behindInMarks o b = false := by rfl) : QT X G W (.Compare a [o] [b] pos) (bE (eOp op fa fb)) := by
  refine qt_of (pt_cmpR ho ha hb hm) fun σ H Q q => ?_
  have q' := tB_of q
  exact tOp_of q'
def bNot (f : BV) : BV := fun ρ h => (f ρ h).bind fun b h1 => .ok (!b) h1
def bAnd (f g : BV) : BV := fun ρ h => (f ρ h).bind fun b h1 => if b = true then g ρ h1 else .ok false h1
def bOr (f g : BV) : BV := fun ρ h => (f ρ h).bind fun b h1 => if b = true then .ok true h1 else g ρ h1
variable {f g : BV} {rest : List Expr}
theorem tBb.bind {kf : Bool → Hs → R Bool} {σ : L2.St} {H : Hp} {Q Q1 : Bool → Hp → Prop} {ρ : Rho} {h : Hs} {F : Hp} {ι : List Addr} (rs : RelS G F ι ρ σ) (r0 : Rs G F ι h H)
    (p : Pst G F ι H relB (fun c H' => W (.ref (G.cl c)) none σ H') ((f ρ h).bind kf) Q)
    (hk : ∀ d h1 H1 F1 ι1, Stp F ι H F1 ι1 H1 → Rs G F1 ι1 h1 H1 → Pst G F1 ι1 H1 relB (fun c H' => W (.ref (G.cl c)) none σ H') (kf d h1) Q → Q1 d H1) : tBb G W f σ H Q1 :=
  ⟨ρ, h, F, ι, rs, r0, p.bind fun a h1 b H1 F1 ι1 e r q p => by
    cases q
    exact hk a h1 H1 F1 ι1 e r p⟩
theorem qt_not (h : QT X G W a f) : QT X G W (.UnaryOp .Not a pos) (bNot f) := by
  refine qt_of (L2.pt_not h) fun σ H Q ⟨ρ, h, F, ι, rs, r0, p⟩ => ?_
  exact tBb.bind rs r0 p fun d h1 H1 F1 ι1 e1 r1 p1 => Pst.okk p1 r1 rfl
theorem qw_and1 (h : QT X G W a f) : QW X G W (.BoolOp .And [a] pos) f := pw_and1 h
theorem qw_or1 (h : QT X G W a f) : QW X G W (.BoolOp .Or [a] pos) f := pw_or1 h
theorem qw_and (ha : QT X G W a f) (hb : QW X G W (.BoolOp .And (b :: rest) pos) g) : QW X G W (.BoolOp .And (a :: b :: rest) pos) (bAnd f g) := by
  have h := pw_and ha hb
  refine ⟨fun wh pins s σ H Q I q => h.run wh pins s σ H Q I ?_⟩
  obtain ⟨ρ, h, F, ι, rs, r0, p⟩ := q
  refine tBb.bind rs r0 p fun d h1 H1 F1 ι1 e1 r1 p1 => ?_
  cases d with
  | true => exact ⟨ρ, h1, F1, ι1, rs.ext e1.toExt, r1, p1⟩
  | false => exact Pst.okk p1 r1 rfl
theorem qw_or (ha : QT X G W a f) (hb : QW X G W (.BoolOp .Or (b :: rest) pos) g) : QW X G W (.BoolOp .Or (a :: b :: rest) pos) (bOr f g) := by
  have h := pw_or ha hb
  refine ⟨fun wh pins s σ H Q I q => h.run wh pins s σ H Q I ?_⟩
  obtain ⟨ρ, h, F, ι, rs, r0, p⟩ := q
  refine tBb.bind rs r0 p fun d h1 H1 F1 ι1 e1 r1 p1 => ?_
  cases d with
  | true => exact Pst.okk p1 r1 rfl
  | false => exact ⟨ρ, h1, F1, ι1, rs.ext e1.toExt, r1, p1⟩
theorem qt_w (h : QW X G W e f) : QT X G W e f := h.pt

/-! ### and, or, not as values -/
def eAnd (fa fb : EV) : EV := fun ρ h => (fa ρ h).bind fun d h1 => match d with
  | .bl true => fb ρ h1
  | .bl false => .ok (.bl false) h1
  | _ => .no
def eOr (fa fb : EV) : EV := fun ρ h => (fa ρ h).bind fun d h1 => match d with
  | .bl true => .ok (.bl true) h1
  | .bl false => fb ρ h1
  | _ => .no
def eNot (fa : EV) : EV := fun ρ h => (fa ρ h).bind fun d h1 => match d with
  | .bl b => .ok (.bl (!b)) h1
  | _ => .no
theorem q_one {o : BoolOp} (h : QE X G W a fa) : QE X G W (.BoolOp o [a] pos) fa := pe_one h
theorem q_and (ha : QE X G W a fa) (hb : QE X G W (.BoolOp .And (b :: rest) pos) fb) : QE X G W (.BoolOp .And (a :: b :: rest) pos) (eAnd fa fb) := by
  refine qe_of (pe_and ha hb) fun σ H Q ⟨ρ, h, F, ι, rs, r0, p⟩ => tE.bind rs r0 p fun d h1 v H1 F1 ι1 e1 r1 q1 p1 => ?_
  cases d with
  | bl t =>
    cases q1
    refine ⟨t, rfl, ?_⟩
    cases t with
    | true => exact ⟨ρ, h1, F1, ι1, rs.ext e1.toExt, r1, p1⟩
    | false => exact Pst.okk p1 r1 (.bl false)
  | _ => exact p1.elim
theorem q_or (ha : QE X G W a fa) (hb : QE X G W (.BoolOp .Or (b :: rest) pos) fb) : QE X G W (.BoolOp .Or (a :: b :: rest) pos) (eOr fa fb) := by
  refine qe_of (pe_or ha hb) fun σ H Q ⟨ρ, h, F, ι, rs, r0, p⟩ => tE.bind rs r0 p fun d h1 v H1 F1 ι1 e1 r1 q1 p1 => ?_
  cases d with
  | bl t =>
    cases q1
    refine ⟨t, rfl, ?_⟩
    cases t with
    | true => exact Pst.okk p1 r1 (.bl true)
    | false => exact ⟨ρ, h1, F1, ι1, rs.ext e1.toExt, r1, p1⟩
  | _ => exact p1.elim
theorem q_not (ha : QE X G W a fa) : QE X G W (.UnaryOp .Not a pos) (eNot fa) := by
  refine qe_of (pe_not ha) fun σ H Q ⟨ρ, h, F, ι, rs, r0, p⟩ => tE.bind rs r0 p fun d h1 v H1 F1 ι1 e1 r1 q1 p1 => ?_
  cases d with
  | bl t =>
    cases q1
    exact ⟨t, rfl, Pst.okk p1 r1 (.bl _)⟩
  | _ => exact p1.elim
def eIf (t : BV) (fa fb : EV) : EV := fun ρ h => (t ρ h).bind fun c h1 => if c = true then fa ρ h1 else fb ρ h1
theorem q_if (hc : QT X G W c f) (ha : QE X G W a fa) (hb : QE X G W b fb) : QE X G W (.IfExp c a b pos) (eIf f fa fb) := by
  refine qe_of (pe_ifExp hc ha hb) fun σ H Q ⟨ρ, h, F, ι, rs, r0, p⟩ => ?_
  refine ⟨ρ, h, F, ι, rs, r0, p.bind fun d h1 v H1 F1 ι1 e1 r1 q1 p1 => ?_⟩
  cases q1
  cases d with
  | true => exact ⟨ρ, h1, F1, ι1, rs.ext e1.toExt, r1, p1⟩
  | false => exact ⟨ρ, h1, F1, ι1, rs.ext e1.toExt, r1, p1⟩
/-- a op b op' c -/
def eChain (op op' : Op2) (fa fb fc : EV) : EV := fun ρ h => (fa ρ h).bind fun x h1 => (fb ρ h1).bind fun y h2 => match op x y h2 with
  | some (.bl true) => (fc ρ h2).bind fun z h3 => match op' y z h3 with
    | some d => .ok d h3
    | none => .no
  | some (.bl false) => .ok (.bl false) h2
  | _ => .no
theorem q_chain {o o' : CmpOp} {op op' : Op2} (ho : OpR X (compareOp o) (rOf G op)) (ho' : OpR X (compareOp o') (rOf G op')) (ha : QE X G W a fa) (hb : QE X G W b fb) (hc : QE X G W c fc)
    (hm : lastMarks [o, o'] [b, c] = false := by rfl) : QE X G W (.Compare a [o, o'] [b, c] pos) (eChain op op' fa fb fc) := by
  refine qe_of (pe_chain ho ho' ha hb hc hm) fun σ H Q ⟨ρ, h, F, ι, rs, r0, p⟩ => ?_
  refine tE.bind rs r0 p fun dx h1 x H1 F1 ι1 e1 r1 q1 p1 => ?_
  refine tE.bind (rs.ext e1.toExt) r1 p1 fun dy h2 y H2 F2 ι2 e2 r2 q2 p2 => ?_
  cases e : op dx dy h2 with
  | none => simp only [e] at p2; exact p2.elim
  | some d =>
    simp only [e] at p2
    refine ⟨dx, dy, h2, F2, ι2, r2, q1.ext e2.toExt, q2, d, e, fun v H' F' ι' e3 r3 q3 => ?_⟩
    cases d with
    | bl t =>
      cases q3
      refine ⟨t, rfl, ?_⟩
      cases t with
      | false => exact p2 _ H' F' ι' e3 r3 (.bl false)
      | true =>
        refine tE.bind ((rs.ext e1.toExt).ext (e2.trans e3).toExt) r3 (Pst.ext e3 p2) fun dz h4 z H4 F4 ι4 e4 r4 q4 p4 => ?_
        cases e5 : op' dy dz h4 with
        | none => simp only [e5] at p4; exact p4.elim
        | some d' =>
          simp only [e5] at p4
          exact ⟨dy, dz, h4, F4, ι4, r4, q2.ext (e3.trans e4).toExt, q4, d', e5, p4⟩
    | _ => exact p2.elim

/-! ### argument lists, displays -/
def aNil : AV := fun _ h => .ok [] h
def aCons (fa : EV) (g : AV) : AV := fun ρ h => (fa ρ h).bind fun d h1 => (g ρ h1).bind fun ds h2 => .ok (d :: ds) h2
variable {es : List Expr} {ga : AV}
theorem qa_nil : QA X G W [] aNil := ⟨fun pos pins s σ H Q I ⟨ρ, h, F, ι, rs, r0, p⟩ => pa_nil.run pos pins s σ H Q I (Pst.okk p r0 .nil)⟩
theorem qa_cons (ha : QE X G W e fa) (hr : QA X G W es ga) (hs : starEach (e :: es) X.env = (false, eval e X.env) :: starEach es X.env := by rfl) : QA X G W (e :: es) (aCons fa ga) := by
  have h := pa_cons ha hr hs
  refine ⟨fun pos pins s σ H Q I q => h.run pos pins s σ H Q I ?_⟩
  obtain ⟨ρ, h, F, ι, rs, r0, p⟩ := q
  refine ⟨ρ, h, F, ι, rs, r0, p.bind fun d h1 v H1 F1 ι1 e1 r1 q1 p1 => ?_⟩
  refine ⟨ρ, h1, F1, ι1, rs.ext e1.toExt, r1, p1.bind fun ds h2 vs H2 F2 ι2 e2 r2 q2 p2 => ?_⟩
  exact Pst.okk p2 r2 (.cons (q1.ext e2.toExt) q2)
/-- (a, b, ..): by value -/
def eTup (g : AV) : EV := fun ρ h => (g ρ h).bind fun ds h1 => if ds.length ≤ sizeLine then .ok (.tup ds) h1 else .no
/-- [a, b, ..]: by value -/
def eLst (g : AV) : EV := fun ρ h => (g ρ h).bind fun ds h1 => if ds.length ≤ sizeLine then .ok (.lst ds) h1 else .no
/-- [a, b, ..]: a box -/
def eBox (g : AV) : EV := fun ρ h => (g ρ h).bind fun ds h1 => if ds.length ≤ sizeLine then .ok (.ref h1.length) (h1 ++ [.lst ds]) else .no
theorem Rs.layTup {F : Hp} {ι : List Addr} {h : Hs} {H : Hp} (r : Rs G F ι h H) {p : Addr} {ds : List D} {vs : List V} (n : H p = none) (q : RelL G F ι ds vs) :
    ∃ F', Stp F ι H F' ι (upd H p (.tup vs)) ∧ Rs G F' ι h (upd H p (.tup vs)) ∧ Rel G F' ι (.tup ds) (.ref p) := by
  obtain ⟨r', e⟩ := r.lay (u := .tup vs) n (fun _ _ z => nomatch z)
  exact ⟨_, Stp.lay n e, r', .tup (.inl (.inl upd_same)) (q.ext e)⟩
theorem Rs.layLst {F : Hp} {ι : List Addr} {h : Hs} {H : Hp} (r : Rs G F ι h H) {p : Addr} {ds : List D} {vs : List V} (n : H p = none) (q : RelL G F ι ds vs) :
    ∃ F', Stp F ι H F' ι (upd H p (.lst vs)) ∧ Rs G F' ι h (upd H p (.lst vs)) ∧ Rel G F' ι (.lst ds) (.ref p) := by
  obtain ⟨r', e⟩ := r.lay (u := .lst vs) n (fun _ _ z => nomatch z)
  exact ⟨_, Stp.lay n e, r', .lst (.inl (.inl upd_same)) (q.ext e)⟩
theorem q_tup {x1 : Nat} (h : QA X G W es ga) : QE X G W (.Tuple es x1 pos) (eTup ga) := by
  refine qe_of (pe_tup h) fun σ H Q ⟨ρ, h, F, ι, rs, r0, p⟩ => ⟨ρ, h, F, ι, rs, r0, p.bind fun ds h1 vs H1 F1 ι1 e1 r1 q1 p1 => ?_⟩
  by_cases hl : ds.length ≤ sizeLine
  · simp only [if_pos hl] at p1
    refine ⟨by rw [← q1.len]; exact hl, fun q hq => ?_⟩
    obtain ⟨F', e', r', q'⟩ := r1.layTup hq q1
    exact p1 _ _ _ _ e' r' q'
  · simp only [if_neg hl] at p1
    exact p1.elim
theorem q_lst (h : QA X G W es ga) : QE X G W (.List es pos) (eLst ga) := by
  refine qe_of (pe_lst h) fun σ H Q ⟨ρ, h, F, ι, rs, r0, p⟩ => ⟨ρ, h, F, ι, rs, r0, p.bind fun ds h1 vs H1 F1 ι1 e1 r1 q1 p1 => ?_⟩
  by_cases hl : ds.length ≤ sizeLine
  · simp only [if_pos hl] at p1
    refine ⟨by rw [← q1.len]; exact hl, fun q hq => ?_⟩
    obtain ⟨F', e', r', q'⟩ := r1.layLst hq q1
    exact p1 _ _ _ _ e' r' q'
  · simp only [if_neg hl] at p1
    exact p1.elim
theorem Rs.new {F : Hp} {ι : List Addr} {h : Hs} {H : Hp} (r : Rs G F ι h H) {p : Addr} {ds : List D} {vs : List V} (n : H p = none) (q : RelL G F ι ds vs) :
    Stp F ι H F (ι ++ [p]) (upd H p (.lst vs)) ∧ Rs G F (ι ++ [p]) (h ++ [.lst ds]) (upd H p (.lst vs)) ∧ Rel G F (ι ++ [p]) (.ref h.length) (.ref p) := by
  have e : Ext F ι F (ι ++ [p]) := ⟨fun _ _ h => h, List.prefix_append _ _⟩
  obtain ⟨r', _⟩ := r.box (u := .lst vs) (o := .lst ds) n (q.ext e)
  refine ⟨Stp.box n e, r', .ref ?_⟩
  rw [← r.len, List.getElem?_append_right (Nat.le_refl _), Nat.sub_self]
  rfl
theorem q_box (h : QA X G W es ga) : QE X G W (.List es pos) (eBox ga) := by
  refine qe_of (pe_lst h) fun σ H Q ⟨ρ, h, F, ι, rs, r0, p⟩ => ⟨ρ, h, F, ι, rs, r0, p.bind fun ds h1 vs H1 F1 ι1 e1 r1 q1 p1 => ?_⟩
  by_cases hl : ds.length ≤ sizeLine
  · simp only [if_pos hl] at p1
    refine ⟨by rw [← q1.len]; exact hl, fun q hq => ?_⟩
    obtain ⟨e', r', q'⟩ := r1.new hq q1
    exact p1 _ _ _ _ e' r' q'
  · simp only [if_neg hl] at p1
    exact p1.elim
end

/-! ### statements -/
inductive RS where
  | nx (ρ : Rho) (h : Hs) | rt (d : D) (h : Hs) | bk (ρ : Rho) (h : Hs) | ct (ρ : Rho) (h : Hs) | er (c : Nat) (ρ : Rho) (h : Hs) | no
abbrev SV := Rho → Hs → RS
def PsS (G : Gn) (F : Hp) (ι : List Addr) (H : Hp) (W : WX) (r : RS) (Dn : Ends) : Prop :=
  match r with
  | .nx ρ' h' => ∀ σ' H' F' ι', Stp F ι H F' ι' H' → RelS G F' ι' ρ' σ' → Rs G F' ι' h' H' → Dn.nx σ' H'
  | .rt d h' => ∀ v H' F' ι', Stp F ι H F' ι' H' → Rs G F' ι' h' H' → Rel G F' ι' d v → Dn.rt v H'
  | .bk ρ' h' => ∀ σ' H' F' ι', Stp F ι H F' ι' H' → RelS G F' ι' ρ' σ' → Rs G F' ι' h' H' → Dn.bk σ' H'
  | .ct ρ' h' => ∀ σ' H' F' ι', Stp F ι H F' ι' H' → RelS G F' ι' ρ' σ' → Rs G F' ι' h' H' → Dn.ct σ' H'
  | .er c ρ' h' => ∀ σ' H' F' ι', Stp F ι H F' ι' H' → RelS G F' ι' ρ' σ' → Rs G F' ι' h' H' → W (.ref (G.cl c)) none σ' H'
  | .no => False
def tSs (G : Gn) (W : WX) (s : SV) : TS := fun Dn σ H => ∃ ρ h F ι, RelS G F ι ρ σ ∧ Rs G F ι h H ∧ PsS G F ι H W (s ρ h) Dn
def QS (X : Cx) (G : Gn) (W : WX) (st : Stmt) (s : SV) : Prop := PS X st (tSs G W s)
def QSs (X : Cx) (G : Gn) (W : WX) (st : List Stmt) (s : SV) : Prop := PSs X st (tSs G W s)
theorem PsS.ext {G : Gn} {F F' H H' : Hp} {ι ι' : List Addr} {W : WX} {r : RS} {Dn : Ends} (e : Stp F ι H F' ι' H') (p : PsS G F ι H W r Dn) : PsS G F' ι' H' W r Dn := by
  cases r with
  | nx _ _ => exact fun σ' H2 F2 ι2 e2 => p σ' H2 F2 ι2 (e.trans e2)
  | rt _ _ => exact fun σ' H2 F2 ι2 e2 => p σ' H2 F2 ι2 (e.trans e2)
  | bk _ _ => exact fun σ' H2 F2 ι2 e2 => p σ' H2 F2 ι2 (e.trans e2)
  | ct _ _ => exact fun σ' H2 F2 ι2 e2 => p σ' H2 F2 ι2 (e.trans e2)
  | er _ _ _ => exact fun σ' H2 F2 ι2 e2 => p σ' H2 F2 ι2 (e.trans e2)
  | no => exact p
section
variable {X : Cx} {G : Gn} {W : WX} {k : Nat} {st : Stmt} {rest : List Stmt} {s s' : SV} {e : Expr} {f : EV} {g : BV} {pos : Pos}
theorem qs_of {t : TS} (hp : PS X st t) (h : ∀ Dn σ H, tSs G W s Dn σ H → t Dn σ H) : QS X G W st s := ⟨fun pins sh σ H Dn I q => hp.run pins sh σ H Dn I (h Dn σ H q)⟩
def sNil : SV := fun ρ h => .nx ρ h
def sSeq (s t : SV) : SV := fun ρ h => match s ρ h with
  | .nx ρ' h' => t ρ' h'
  | r => r
theorem qs_nil : QSs X G W [] sNil := ⟨fun pins sh σ H Dn I ⟨ρ, h, F, ι, rs, r0, p⟩ => pss_nil.run pins sh σ H Dn I (p σ H F ι (Stp.refl F ι H) rs r0)⟩
theorem qs_cons (h1 : QS X G W st s) (h2 : QSs X G W rest s') : QSs X G W (st :: rest) (sSeq s s') := by
  have h := pss_cons h1 h2
  refine ⟨fun pins sh σ H Dn I q => h.run pins sh σ H Dn I ?_⟩
  obtain ⟨ρ, h, F, ι, rs, r0, p⟩ := q
  refine ⟨ρ, h, F, ι, rs, r0, ?_⟩
  unfold sSeq at p
  cases e : s ρ h with
  | nx ρ' h' =>
    rw [e] at p
    exact fun σ' H' F' ι' e1 rs1 r1 => ⟨ρ', h', F', ι', rs1, r1, PsS.ext e1 p⟩
  | rt d h' => rw [e] at p; exact p
  | bk d h' => rw [e] at p; exact p
  | ct d h' => rw [e] at p; exact p
  | er c d h' => rw [e] at p; exact p
  | no => rw [e] at p; exact p.elim
theorem qs_one (h1 : QS X G W st s) : QSs X G W [st] s := pss_one h1
/-- an expression, then what is made of its value -/
def sE (f : EV) (kf : D → Rho → Hs → RS) : SV := fun ρ h => match f ρ h with
  | .ok d h' => kf d ρ h'
  | .er c h' => .er c ρ h'
  | .no => .no
theorem tSs.bind {kf : D → Rho → Hs → RS} {Dn : Ends} {σ : L2.St} {H : Hp} {Q1 : VK} {ρ : Rho} {h : Hs} {F : Hp} {ι : List Addr} (rs : RelS G F ι ρ σ) (r0 : Rs G F ι h H) (p : PsS G F ι H W (sE f kf ρ h) Dn)
    (hk : ∀ d h1 v H1 F1 ι1, Stp F ι H F1 ι1 H1 → Rs G F1 ι1 h1 H1 → Rel G F1 ι1 d v → PsS G F1 ι1 H1 W (kf d ρ h1) Dn → Q1 v H1) : tE G W f σ H Q1 := by
  refine ⟨ρ, h, F, ι, rs, r0, ?_⟩
  unfold sE at p
  cases e : f ρ h with
  | ok d h' =>
    rw [e] at p
    exact fun v H1 F1 ι1 e1 r1 q1 => hk d h' v H1 F1 ι1 e1 r1 q1 (PsS.ext e1 p)
  | er c h' =>
    rw [e] at p
    exact fun H1 F1 ι1 e1 r1 => p σ H1 F1 ι1 e1 (rs.ext e1.toExt) r1
  | no => rw [e] at p; exact p.elim
def sSet (i : Nat) (f : EV) : SV := sE f fun d ρ h => .nx (ρ.set i (some d)) h
def sRet (f : EV) : SV := sE f fun d _ h => .rt d h
def sExpr (f : EV) : SV := sE f fun _ ρ h => .nx ρ h
def sRetN : SV := fun _ h => .rt .non h
theorem qs_set {i : Nat} {x : Str} {pos' : Pos} (bn : Bn X G W k) (he : QE X G W e f) (hi : X.N[i]? = some x := by rfl) (hx : Loc X.env.scope x := by first | exact Or.inl rfl | exact Or.inr rfl) (hs : swapsWith e (some (.Name x pos')) pos.line X.env = pure false := by rfl)
    (hf : X.fn x = true ∨ X.env.scope.names.lookup x = some .local := by first | exact .inl rfl | exact .inr rfl | assumption) : QS X G W (.Assign [.Name x pos'] e pos) (sSet i f) :=
  qs_of (ps_set bn.nd hi hx he hs hf) fun Dn σ H ⟨ρ, h, F, ι, rs, r0, p⟩ => tSs.bind rs r0 p fun d h1 v H1 F1 ι1 e1 r1 q1 p1 => p1 _ H1 F1 ι1 (Stp.refl _ _ _) ((rs.ext e1.toExt).set q1) r1
theorem qs_ret (he : QE X G W e f) : QS X G W (.Return (some e) pos) (sRet f) :=
  qs_of (ps_ret he) fun Dn σ H ⟨ρ, h, F, ι, rs, r0, p⟩ => tSs.bind rs r0 p fun d h1 v H1 F1 ι1 e1 r1 q1 p1 => p1 v H1 F1 ι1 (Stp.refl _ _ _) r1 q1
theorem qs_retN : QS X G W (.Return none pos) sRetN :=
  qs_of ps_retN fun Dn σ H ⟨ρ, h, F, ι, rs, r0, p⟩ => p _ H F ι (Stp.refl _ _ _) r0 .non
theorem qs_expr (he : QE X G W e f) (hs : swapsWith e none pos.line X.env = pure false := by rfl) : QS X G W (.Expr e pos) (sExpr f) :=
  qs_of (ps_expr he hs) fun Dn σ H ⟨ρ, h, F, ι, rs, r0, p⟩ => tSs.bind rs r0 p fun d h1 v H1 F1 ι1 e1 r1 q1 p1 => p1 σ H1 F1 ι1 (Stp.refl _ _ _) (rs.ext e1.toExt) r1
theorem qs_pass : QS X G W (.Pass pos) sNil := qs_of ps_pass fun Dn σ H ⟨ρ, h, F, ι, rs, r0, p⟩ => p σ H F ι (Stp.refl _ _ _) rs r0
def sBk : SV := fun ρ h => .bk ρ h
def sCt : SV := fun ρ h => .ct ρ h
theorem qs_break : QS X G W (.Break pos) sBk := qs_of ps_break fun Dn σ H ⟨ρ, h, F, ι, rs, r0, p⟩ => p σ H F ι (Stp.refl _ _ _) rs r0
theorem qs_continue : QS X G W (.Continue pos) sCt := qs_of ps_continue fun Dn σ H ⟨ρ, h, F, ι, rs, r0, p⟩ => p σ H F ι (Stp.refl _ _ _) rs r0
/-- a test, then what is made of it -/
def sT (g : BV) (kf : Bool → Rho → Hs → RS) : SV := fun ρ h => match g ρ h with
  | .ok d h' => kf d ρ h'
  | .er c h' => .er c ρ h'
  | .no => .no
def sIf (c : BV) (s t : SV) : SV := sT c fun b ρ h => if b = true then s ρ h else t ρ h
theorem tSs.bindT {kf : Bool → Rho → Hs → RS} {Dn : Ends} {σ : L2.St} {H : Hp} {Q1 : Bool → Hp → Prop} {ρ : Rho} {h : Hs} {F : Hp} {ι : List Addr} (rs : RelS G F ι ρ σ) (r0 : Rs G F ι h H) (p : PsS G F ι H W (sT g kf ρ h) Dn)
    (hk : ∀ d h1 H1 F1 ι1, Stp F ι H F1 ι1 H1 → Rs G F1 ι1 h1 H1 → PsS G F1 ι1 H1 W (kf d ρ h1) Dn → Q1 d H1) : tBb G W g σ H Q1 := by
  refine ⟨ρ, h, F, ι, rs, r0, ?_⟩
  unfold sT at p
  cases e : g ρ h with
  | ok d h' =>
    rw [e] at p
    intro v H1 F1 ι1 e1 r1 q1
    cases q1
    exact hk d h' H1 F1 ι1 e1 r1 (PsS.ext e1 p)
  | er c h' =>
    rw [e] at p
    exact fun H1 F1 ι1 e1 r1 => p σ H1 F1 ι1 e1 (rs.ext e1.toExt) r1
  | no => rw [e] at p; exact p.elim
theorem qs_if {c : Expr} {a b : List Stmt} (hc : QT X G W c g) (ha : QSs X G W a s) (hb : QSs X G W b s') : QS X G W (.If c a b pos) (sIf g s s') := by
  refine qs_of (ps_if hc ha hb) fun Dn σ H ⟨ρ, h, F, ι, rs, r0, p⟩ => tSs.bindT rs r0 p fun d h1 H1 F1 ι1 e1 r1 p1 => ?_
  cases d with
  | true => exact ⟨ρ, h1, F1, ι1, rs.ext e1.toExt, r1, p1⟩
  | false => exact ⟨ρ, h1, F1, ι1, rs.ext e1.toExt, r1, p1⟩
end
end U
/-! operators by values -/
namespace U
open PySem PySem.Spec PyProof.Rows L2

/-! ### what a list, a tuple holds -/
def lstD (d : D) (h : Hs) : Option (List D) := match d with
  | .lst l => some l
  | .ref i => match h[i]? with
    | some (.lst l) => some l
    | _ => none
  | _ => none
def seqD (d : D) (h : Hs) : Option (List D) := match d with
  | .tup l => some l
  | d => lstD d h
section
variable {X : Cx} {G : Gn} {W : WX} {k : Nat} {F : Hp} {ι : List Addr} {h : Hs} {H : Hp} {d : D} {v : V} {l : List D}
theorem lstD_at (r : Rs G F ι h H) (e : lstD d h = some l) (q : Rel G F ι d v) : ∃ a xs, v = .ref a ∧ SqL G.K H a xs ∧ RelL G F ι l xs := by
  cases d with
  | lst m =>
    cases q with
    | lst q1 q2 =>
      cases e
      exact ⟨_, _, rfl, r.sqL q1, q2⟩
  | ref i =>
    cases q with
    | ref q1 =>
      have e : (match h[i]? with | some (.lst l) => some l | _ => none) = some l := e
      cases e1 : h[i]? with
      | none => rw [e1] at e; cases e
      | some o =>
        rw [e1] at e
        cases o with
        | lst m =>
          cases e
          obtain ⟨u, h1, h2⟩ := r.bx q1 e1
          cases u with
          | lst xs => exact ⟨_, _, rfl, .inl (.inl h1), h2⟩
          | _ => exact (show False from h2).elim
        | _ => cases e
  | _ => cases e
theorem seqD_at (bn : Bn X G W k) (r : Rs G F ι h H) (e : seqD d h = some l) (q : Rel G F ι d v) : ∃ a xs, v = .ref a ∧ (SqL X.K H a xs ∨ SqT X.K H a xs) ∧ RelL G F ι l xs := by
  cases d with
  | tup m =>
    cases q with
    | tup q1 q2 =>
      cases e
      exact ⟨_, _, rfl, .inr (by rw [bn.K]; exact r.sqT q1), q2⟩
  | lst m =>
    obtain ⟨a, xs, h1, h2, h3⟩ := lstD_at (d := .lst m) r e q
    exact ⟨a, xs, h1, .inl (by rw [bn.K]; exact h2), h3⟩
  | ref m =>
    obtain ⟨a, xs, h1, h2, h3⟩ := lstD_at (d := .ref m) r e q
    exact ⟨a, xs, h1, .inl (by rw [bn.K]; exact h2), h3⟩
  | _ => cases e
end

/-! ### arithmetic -/
def opAdd : Op2 := fun x y h => match x, y with
  | .int i, .int j => some (.int (i + j))
  | .str a, .str b => if a.length + b.length ≤ sizeLine then some (.str (a ++ b)) else none
  | .tup a, .tup b => if a.length + b.length ≤ sizeLine then some (.tup (a ++ b)) else none
  | a, b => match lstD a h, lstD b h with
    | some l, some m => if l.length + m.length ≤ sizeLine then some (.lst (l ++ m)) else none
    | _, _ => none
def opSub : Op2 := fun x y _ => match x, y with
  | .int i, .int j => some (.int (i - j))
  | _, _ => none
def opMul : Op2 := fun x y _ => match x, y with
  | .int i, .int j => if (i.natAbs < 2 ^ 64 ∨ j.natAbs < 2 ^ 64) ∨ i.natAbs.log2 + j.natAbs.log2 < 1000000 then some (.int (i * j)) else none
  | .str a, .int j => if a.length ≤ 4096 ∧ 0 ≤ j ∧ j ≤ 4096 then some (.str (Txt.mul a j)) else none
  | _, _ => none
def opMod : Op2 := fun x y _ => match x, y with
  | .int i, .int j => if 0 < j then some (.int (i % j)) else none
  | _, _ => none
def opDiv : Op2 := fun x y _ => match x, y with
  | .int i, .int j => if 0 < j ∧ j.natAbs.log2 < 9000 then some (.int (i / j)) else none
  | _, _ => none
def opPow : Op2 := fun x y _ => match x, y with
  | .int i, .int j => if 0 ≤ j ∧ j ≤ 1000000 ∧ i.natAbs < 2 ^ 64 then some (.int (i ^ j.toNat)) else none
  | _, _ => none
def opShr : Op2 := fun x y _ => match x, y with
  | .int i, .int j => if 0 ≤ j then some (.int (i / 2 ^ j.toNat)) else none
  | _, _ => none
def opShl : Op2 := fun x y _ => match x, y with
  | .int i, .int j => if 0 ≤ j ∧ j ≤ 1000000 ∧ i.natAbs < 2 ^ 64 then some (.int (i * 2 ^ j.toNat)) else none
  | _, _ => none
section
variable {X : Cx} {G : Gn} {W : WX} {k : Nat}
/-- two ints -/
theorem or_ints {f : Value → Value → Sem Value} {C : Int → Int → Prop} {g : Int → Int → V} {gd : Int → Int → D} {op : Op2} (ho : OpR X f (rI C g)) (hr : ∀ G F ι i j, Rel G F ι (gd i j) (g i j))
    (hop : ∀ x y h d, op x y h = some d → ∃ i j, x = .int i ∧ y = .int j ∧ C i j ∧ d = gd i j) : OpR X f (rOf G op) := by
  intro pins s σ H x y v u Q I rx ry ⟨dx, dy, h, F, ι, r0, qx, qy, d, e, q⟩
  obtain ⟨i, j, rfl, rfl, c, rfl⟩ := hop _ _ _ _ e
  cases qx
  cases qy
  exact ho pins s σ H _ _ v u Q I rx ry ⟨i, j, rfl, rfl, c, q _ _ _ _ (Stp.refl _ _ _) r0 (hr G F ι i j)⟩
theorem or_sub : OpR X (binaryOp .Sub) (rOf G opSub) := by
  intro pins s σ H x y v u Q I rx ry ⟨dx, dy, h, F, ι, r0, qx, qy, d, e, q⟩
  unfold opSub at e
  split at e
  · cases e
    cases qx
    cases qy
    exact op_sub pins s σ H _ _ v u Q I rx ry ⟨_, _, rfl, rfl, q _ _ _ _ (Stp.refl _ _ _) r0 (.int _)⟩
  · cases e
theorem or_mod : OpR X (binaryOp .Mod) (rOf G opMod) := or_ints (gd := fun i j => .int (i % j)) op_mod (fun _ _ _ _ _ => .int _) fun x y h d e => by
  unfold opMod at e
  split at e
  · split at e
    · cases e
      exact ⟨_, _, rfl, rfl, by assumption, rfl⟩
    · cases e
  · cases e
theorem or_div : OpR X (binaryOp .FloorDiv) (rOf G opDiv) := or_ints (gd := fun i j => .int (i / j)) op_fdivW (fun _ _ _ _ _ => .int _) fun x y h d e => by
  unfold opDiv at e
  split at e
  · split at e
    · cases e
      exact ⟨_, _, rfl, rfl, by assumption, rfl⟩
    · cases e
  · cases e
theorem or_pow : OpR X (binaryOp .Pow) (rOf G opPow) := or_ints (gd := fun i j => .int (i ^ j.toNat)) op_pow (fun _ _ _ _ _ => .int _) fun x y h d e => by
  unfold opPow at e
  split at e
  · split at e
    · cases e
      exact ⟨_, _, rfl, rfl, by assumption, rfl⟩
    · cases e
  · cases e
theorem or_shr : OpR X (binaryOp .RShift) (rOf G opShr) := or_ints (gd := fun i j => .int (i / 2 ^ j.toNat)) op_shr (fun _ _ _ _ _ => .int _) fun x y h d e => by
  unfold opShr at e
  split at e
  · split at e
    · cases e
      exact ⟨_, _, rfl, rfl, by assumption, rfl⟩
    · cases e
  · cases e
theorem or_shl : OpR X (binaryOp .LShift) (rOf G opShl) := or_ints (gd := fun i j => .int (i * 2 ^ j.toNat)) op_shl (fun _ _ _ _ _ => .int _) fun x y h d e => by
  unfold opShl at e
  split at e
  · split at e
    · cases e
      exact ⟨_, _, rfl, rfl, by assumption, rfl⟩
    · cases e
  · cases e
theorem or_mul : OpR X (binaryOp .Mult) (rOf G opMul) := by
  intro pins s σ H x y v u Q I rx ry ⟨dx, dy, h, F, ι, r0, qx, qy, d, e, q⟩
  unfold opMul at e
  split at e
  · split at e
    · rename_i hc
      cases e
      cases qx
      cases qy
      rcases hc with hc | hc
      · refine op_mul pins s σ H _ _ v u Q I rx ry ⟨_, _, rfl, rfl, ?_, q _ _ _ _ (Stp.refl _ _ _) r0 (.int _)⟩
        rcases hc with hc | hc
        · exact .inl (by omega)
        · exact .inr (by omega)
      · exact op_mulW pins s σ H _ _ v u Q I rx ry ⟨_, _, rfl, rfl, hc, q _ _ _ _ (Stp.refl _ _ _) r0 (.int _)⟩
    · cases e
  · split at e
    · rename_i hc
      cases e
      cases qx
      cases qy
      obtain ⟨t, rfl⟩ := rx
      obtain ⟨t', rfl⟩ := ry
      exact SB.mul (mulOk_of 4096 4096 hc.1 (by omega) (by omega) (by decide) (by decide)) fun t'' n => ⟨.str _, H, I.tok _, ⟨_, rfl⟩, q _ _ _ _ (Stp.refl _ _ _) r0 (.str _)⟩
    · cases e
  · cases e
theorem or_add (bn : Bn X G W k) : OpR X (binaryOp .Add) (rOf G opAdd) := by
  intro pins s σ H x y v u Q I rx ry ⟨dx, dy, h, F, ι, r0, qx, qy, d, e, q⟩
  unfold opAdd at e
  split at e
  · cases e
    cases qx
    cases qy
    exact op_add pins s σ H _ _ v u Q I rx ry ⟨_, _, rfl, rfl, q _ _ _ _ (Stp.refl _ _ _) r0 (.int _)⟩
  · split at e
    · cases e
      cases qx
      cases qy
      exact op_add_str pins s σ H _ _ v u Q I rx ry ⟨_, _, rfl, rfl, by assumption, q _ _ _ _ (Stp.refl _ _ _) r0 (.str _)⟩
    · cases e
  · split at e
    · rename_i la lb hl
      cases e
      cases qx with
      | tup h1 r1 =>
        cases qy with
        | tup h2 r2 =>
          rename_i a xs b ys
          have l1 := r1.len
          have l2 := r2.len
          refine op_catA pins s σ H _ _ v u Q I rx ry ⟨_, _, xs, ys, rfl, rfl, by rw [bn.K]; exact r0.sqT h1, by rw [bn.K]; exact r0.sqT h2, by omega, fun z => ?_, fun z1 z2 => ?_, fun z1 z2 p hp => ?_⟩
          · subst z
            cases r1
            exact q _ _ _ _ (Stp.refl _ _ _) r0 (.tup h2 r2)
          · subst z2
            cases r2
            rw [List.append_nil] at q
            exact q _ _ _ _ (Stp.refl _ _ _) r0 (.tup h1 r1)
          · obtain ⟨F', e', r', q'⟩ := r0.layTup hp (RelL.app r2 r1 : RelL G F ι (la ++ lb) (xs ++ ys))
            exact q _ _ _ _ e' r' q'
    · cases e
  · split at e
    · rename_i l m e1 e2
      split at e
      · rename_i hl
        cases e
        obtain ⟨a, xs, rfl, h1, r1⟩ := lstD_at r0 e1 qx
        obtain ⟨b, ys, rfl, h2, r2⟩ := lstD_at r0 e2 qy
        have l1 := r1.len
        have l2 := r2.len
        cases rx
        cases ry
        obtain ⟨its, rr, eo, _⟩ := I.list (show SqL X.K H a xs by rw [bn.K]; exact h1)
        obtain ⟨its2, rr2, eo2, _⟩ := I.list (show SqL X.K H b ys by rw [bn.K]; exact h2)
        have k1 := rr.length
        have k2 := rr2.length
        obtain ⟨⟨c1, dd1, dt1, sl1⟩, n1, g1, g2, g3, g4⟩ := eo
        obtain ⟨⟨c2, dd2, dt2, sl2⟩, n2, g5, g6, g7, g8⟩ := eo2
        simp only at g2 g3 g4 g6 g7 g8
        subst g2 g3 g4 g6 g7 g8
        refine concat_meets ⟨_, g1, rfl⟩ ⟨_, g5, rfl⟩ noFill_list_add seq_list_add PySem.F.slot_list_add PySem.F.entry_list_add (PySem.F.args_list_add_2 _ _) (list_addW a b its.toArray its2.toArray n1 n2 none none sl1 sl2 (by rw [List.size_toArray, List.size_toArray]; omega)) ⟨g1, g5, ?_⟩
        have ea : its.toArray ++ its2.toArray = (its ++ its2).toArray := by simp
        rw [ea]
        obtain ⟨F', e', r', q'⟩ := r0.layLst I.fresh (RelL.app r2 r1 : RelL G F ι (l ++ m) (xs ++ ys))
        exact ⟨.ref _, _, I.lnew (t' := s.toks) (rr.append rr2) (by rw [List.length_append]; omega), rfl, q _ _ _ _ e' r' q'⟩
      · cases e
    · cases e

/-! ### comparisons of numbers and texts -/
def cmpI (p : Int → Int → Bool) : Op2 := fun x y _ => match x, y with
  | .int i, .int j => some (.bl (p i j))
  | _, _ => none
theorem or_cmpI {o : CmpOp} {p : Int → Int → Bool} (ho : OpR X (compareOp o) (rI0 fun i j => .bl (p i j))) : OpR X (compareOp o) (rOf G (cmpI p)) := by
  intro pins s σ H x y v u Q I rx ry ⟨dx, dy, h, F, ι, r0, qx, qy, d, e, q⟩
  unfold cmpI at e
  split at e
  · cases e
    cases qx
    cases qy
    exact ho pins s σ H _ _ v u Q I rx ry ⟨_, _, rfl, rfl, q _ _ _ _ (Stp.refl _ _ _) r0 (.bl _)⟩
  · cases e
abbrev opLt : Op2 := cmpI fun i j => decide (i < j)
abbrev opLe : Op2 := cmpI fun i j => decide (i ≤ j)
abbrev opGt : Op2 := cmpI fun i j => decide (j < i)
abbrev opGe : Op2 := cmpI fun i j => decide (j ≤ i)
theorem or_lt : OpR X (compareOp .Lt) (rOf G opLt) := or_cmpI op_lt
theorem or_le : OpR X (compareOp .LtE) (rOf G opLe) := or_cmpI op_le
theorem or_gt : OpR X (compareOp .Gt) (rOf G opGt) := or_cmpI op_gt
theorem or_ge : OpR X (compareOp .GtE) (rOf G opGe) := or_cmpI op_ge
end

/-! ### equality -/
mutual
def eqB : D → D → Bool
  | .non, .non => true
  | .bl a, .bl b => a == b
  | .bl a, .int j => (if a then 1 else 0) == j
  | .int i, .bl b => i == (if b then 1 else 0)
  | .int i, .int j => i == j
  | .str x, .str y => x == y
  | .lst xs, .lst ys => eqBs xs ys
  | .tup xs, .tup ys => eqBs xs ys
  | _, _ => false
def eqBs : List D → List D → Bool
  | [], [] => true
  | x :: xs, y :: ys => eqB x y && eqBs xs ys
  | _, _ => false
end
mutual
def py : D → PyData
  | .bl b => .bool b
  | .int i => .int i
  | .str x => .str x
  | .tup l => .tuple (pys l)
  | .lst l => .list (pys l)
  | _ => .none
def pys : List D → List PyData
  | [] => []
  | x :: xs => py x :: pys xs
end
mutual
/-- data alone, its texts sound -/
def plain : D → Bool
  | .non => true
  | .bl _ => true
  | .int _ => true
  | .str x => PyData.strOk x
  | .tup l => plains l
  | .lst l => plains l
  | _ => false
def plains : List D → Bool
  | [] => true
  | x :: xs => plain x && plains xs
end
mutual
def dep : D → Nat
  | .tup l => deps l + 1
  | .lst l => deps l + 1
  | _ => 0
def deps : List D → Nat
  | [] => 0
  | x :: xs => max (dep x) (deps xs)
end
mutual
theorem canLay_py : ∀ d : D, plain d = true → (py d).canLay0 = true
  | .non, _ => by simp [py, PyData.canLay0]
  | .bl _, _ => by simp [py, PyData.canLay0]
  | .int _, _ => by simp [py, PyData.canLay0]
  | .str x, h => by simpa [py, PyData.canLay0, plain] using h
  | .tup l, h => by
    simp only [py, PyData.canLay0]
    exact canLay_pys l (by simpa [plain] using h)
  | .lst l, h => by
    simp only [py, PyData.canLay0]
    exact canLay_pys l (by simpa [plain] using h)
  | .ty _, h => by simp [plain] at h
  | .dic _, h => by simp [plain] at h
  | .dit _, h => by simp [plain] at h
  | .ref _, h => by simp [plain] at h
  | .fn _, h => by simp [plain] at h
theorem canLay_pys : ∀ l : List D, plains l = true → PyData.canLayAll0 (pys l) = true
  | [], _ => by simp [pys, PyData.canLayAll0]
  | x :: xs, h => by
    have h' : plain x = true ∧ plains xs = true := by simpa [plains] using h
    simp only [pys, PyData.canLayAll0, canLay_py x h'.1, canLay_pys xs h'.2, Bool.and_self]
end
mutual
theorem dep_py : ∀ d : D, (py d).depth = dep d
  | .non => by simp [py, PyData.depth, dep]
  | .bl _ => by simp [py, PyData.depth, dep]
  | .int _ => by simp [py, PyData.depth, dep]
  | .str x => by simp [py, PyData.depth, dep]
  | .tup l => by simp [py, PyData.depth, dep, dep_pys l]
  | .lst l => by simp [py, PyData.depth, dep, dep_pys l]
  | .ty _ => by simp [py, PyData.depth, dep]
  | .dic _ => by simp [py, PyData.depth, dep]
  | .dit _ => by simp [py, PyData.depth, dep]
  | .ref _ => by simp [py, PyData.depth, dep]
  | .fn _ => by simp [py, PyData.depth, dep]
theorem dep_pys : ∀ l : List D, PyData.depthAll (pys l) = deps l
  | [] => by simp [pys, PyData.depthAll, deps]
  | x :: xs => by simp [pys, PyData.depthAll, deps, dep_py x, dep_pys xs]
end
mutual
theorem eqv_py : ∀ a b : D, plain a = true → plain b = true → PyData.eqv (py a) (py b) = eqB a b
  | .tup l, .tup m, ha, hb => by
    simp only [py, PyData.eqv, eqB]
    exact eqv_pys l m (by simpa [plain] using ha) (by simpa [plain] using hb)
  | .lst l, .lst m, ha, hb => by
    simp only [py, PyData.eqv, eqB]
    exact eqv_pys l m (by simpa [plain] using ha) (by simpa [plain] using hb)
  | .non, b, _, hb => by cases b <;> first | (simp [plain] at hb; done) | simp [py, PyData.eqv, eqB]
  | .bl _, b, _, hb => by cases b <;> first | (simp [plain] at hb; done) | simp [py, PyData.eqv, eqB]
  | .int _, b, _, hb => by cases b <;> first | (simp [plain] at hb; done) | simp [py, PyData.eqv, eqB]
  | .str _, b, _, hb => by cases b <;> simp [py, PyData.eqv, eqB]
  | .tup _, .non, _, _ => by simp [py, PyData.eqv, eqB]
  | .tup _, .bl _, _, _ => by simp [py, PyData.eqv, eqB]
  | .tup _, .int _, _, _ => by simp [py, PyData.eqv, eqB]
  | .tup _, .str _, _, _ => by simp [py, PyData.eqv, eqB]
  | .tup _, .lst _, _, _ => by simp [py, PyData.eqv, eqB]
  | .lst _, .non, _, _ => by simp [py, PyData.eqv, eqB]
  | .lst _, .bl _, _, _ => by simp [py, PyData.eqv, eqB]
  | .lst _, .int _, _, _ => by simp [py, PyData.eqv, eqB]
  | .lst _, .str _, _, _ => by simp [py, PyData.eqv, eqB]
  | .lst _, .tup _, _, _ => by simp [py, PyData.eqv, eqB]
  | .ty _, _, h, _ => by simp [plain] at h
  | .dic _, _, h, _ => by simp [plain] at h
  | .dit _, _, h, _ => by simp [plain] at h
  | .ref _, _, h, _ => by simp [plain] at h
  | .fn _, _, h, _ => by simp [plain] at h
  | _, .ty _, _, h => by simp [plain] at h
  | _, .dic _, _, h => by simp [plain] at h
  | _, .dit _, _, h => by simp [plain] at h
  | _, .ref _, _, h => by simp [plain] at h
  | _, .fn _, _, h => by simp [plain] at h
theorem eqv_pys : ∀ l m : List D, plains l = true → plains m = true → PyData.eqvAll (pys l) (pys m) = eqBs l m
  | [], [], _, _ => by simp [pys, PyData.eqvAll, eqBs]
  | [], _ :: _, _, _ => by simp [pys, PyData.eqvAll, eqBs]
  | _ :: _, [], _, _ => by simp [pys, PyData.eqvAll, eqBs]
  | x :: xs, y :: ys, ha, hb => by
    have h1 : plain x = true ∧ plains xs = true := by simpa [plains] using ha
    have h2 : plain y = true ∧ plains ys = true := by simpa [plains] using hb
    simp only [pys, PyData.eqvAll, eqBs, eqv_py x y h1.1 h2.1, eqv_pys xs ys h1.2 h2.2]
end
section
variable {X : Cx} {G : Gn} {W : WX} {k : Nat} {F : Hp} {ι : List Addr} {h : Hs} {H : Hp}
mutual
theorem dp_of (r : Rs G F ι h H) : ∀ (d : D) (v : V), plain d = true → Rel G F ι d v → Dp G.K H v (py d)
  | .non, _, _, q => by cases q; exact (show Dp G.K H .non (py .non) by simp only [py]; exact .non)
  | .bl b, _, _, q => by cases q; simp only [py]; exact .bl b
  | .int i, _, _, q => by cases q; simp only [py]; exact .int i
  | .str x, _, _, q => by cases q; simp only [py]; exact .str x
  | .tup l, _, p, q => by
    cases q with
    | tup h1 r1 =>
      simp only [py]
      exact .tup (r.sqT h1) (dps_of r l _ (by simpa [plain] using p) r1)
  | .lst l, _, p, q => by
    cases q with
    | lst h1 r1 =>
      simp only [py]
      exact .lst (r.sqL h1) (dps_of r l _ (by simpa [plain] using p) r1)
  | .ty _, _, p, _ => by simp [plain] at p
  | .dic _, _, p, _ => by simp [plain] at p
  | .dit _, _, p, _ => by simp [plain] at p
  | .ref _, _, p, _ => by simp [plain] at p
  | .fn _, _, p, _ => by simp [plain] at p
theorem dps_of (r : Rs G F ι h H) : ∀ (l : List D) (xs : List V), plains l = true → RelL G F ι l xs → DpAll G.K H xs (pys l)
  | [], _, _, q => by cases q; simp only [pys]; exact .nil
  | d :: l, _, p, q => by
    cases q with
    | cons q1 q2 =>
      have p' : plain d = true ∧ plains l = true := by simpa [plains] using p
      simp only [pys]
      exact .cons (dp_of r d _ p'.1 q1) (dps_of r l _ p'.2 q2)
end
end
/-- a box's list, read -/
def der (h : Hs) (d : D) : D := match d with
  | .ref i => match h[i]? with
    | some (.lst l) => .lst l
    | _ => .ref i
  | d => d
/-- pairs that == tells whatever their texts hold -/
def scalD : D → D → Bool
  | .non, .non => true | .non, .int _ => true | .int _, .non => true | .non, .bl _ => true | .bl _, .non => true | .non, .str _ => true | .str _, .non => true
  | .int _, .int _ => true | .bl _, .bl _ => true | .str _, .str _ => true
  | .int _, .str _ => true | .str _, .int _ => true | .bl _, .str _ => true | .str _, .bl _ => true
  | _, _ => false
def okEq (a b : D) : Bool := scalD a b || (plain a && plain b && decide (min (dep a) (dep b) ≤ 64))
def opEq : Op2 := fun x y h => if okEq (der h x) (der h y) = true then some (.bl (eqB (der h x) (der h y))) else none
def opNe : Op2 := fun x y h => if okEq (der h x) (der h y) = true then some (.bl (!eqB (der h x) (der h y))) else none
section
variable {X : Cx} {G : Gn} {W : WX} {k : Nat} {F : Hp} {ι : List Addr} {h : Hs} {H : Hp} {a b : D} {x y : V}
theorem dp_der (r : Rs G F ι h H) {d : D} {v : V} (p : plain (der h d) = true) (q : Rel G F ι d v) : Dp G.K H v (py (der h d)) := by
  cases d with
  | ref i =>
    cases e : h[i]? with
    | none => simp [der, e, plain] at p
    | some o =>
      cases o with
      | lst l =>
        have ed : der h (.ref i) = .lst l := by simp [der, e]
        rw [ed] at p ⊢
        obtain ⟨a, xs, rfl, h1, h2⟩ := lstD_at (d := .ref i) (l := l) r (by simp [lstD, e]) q
        simp only [py]
        exact .lst h1 (dps_of r l _ (by simpa [plain] using p) h2)
      | _ => simp [der, e, plain] at p
  | _ => exact dp_of r _ _ p q
theorem scal_of (c : scalD a b = true) (qa : Rel G F ι a x) (qb : Rel G F ι b y) : scal x y = true ∧ decide (x = y) = eqB a b := by
  cases qa <;> cases qb <;> first
    | (simp [scalD] at c; done)
    | (refine ⟨rfl, ?_⟩; simp [eqB]; done)
    | (refine ⟨rfl, ?_⟩; simp only [eqB]; first | exact dec_int | exact dec_bl | exact dec_str)
theorem scal_der {dx dy : D} (c : scalD (der h dx) (der h dy) = true) : der h dx = dx ∧ der h dy = dy := by
  have one : ∀ d e : D, (scalD (der h d) e = true ∨ scalD e (der h d) = true) → der h d = d := by
    intro d e z
    cases d with
    | ref i =>
      cases q : h[i]? with
      | none => simp [der, q]
      | some o =>
        cases o with
        | lst l =>
          have ed : der h (.ref i) = .lst l := by simp [der, q]
          rw [ed] at z
          rcases z with z | z <;> cases e <;> simp [scalD] at z
        | _ => simp [der, q]
    | _ => rfl
  exact ⟨one dx _ (.inl c), one dy _ (.inr c)⟩
theorem or_eq (bn : Bn X G W k) : OpR X (compareOp .Eq) (rOf G opEq) := by
  intro pins s σ H x y v u Q I rx ry ⟨dx, dy, h, F, ι, r0, qx, qy, d, e, q⟩
  unfold opEq at e
  split at e
  · rename_i c
    cases e
    by_cases sc : scalD (der h dx) (der h dy) = true
    · obtain ⟨e1, e2⟩ := scal_der sc
      rw [e1, e2] at sc q
      obtain ⟨s1, s2⟩ := scal_of sc qx qy
      refine op_eq pins s σ H _ _ v u Q I rx ry ⟨s1, ?_⟩
      rw [s2]
      exact q _ _ _ _ (Stp.refl _ _ _) r0 (.bl _)
    · have c' : (plain (der h dx) && plain (der h dy) && decide (min (dep (der h dx)) (dep (der h dy)) ≤ 64)) = true := by simpa [okEq, sc] using c
      simp only [Bool.and_eq_true, decide_eq_true_eq] at c'
      have q1 := dp_der r0 c'.1.1 qx
      have q2 := dp_der r0 c'.1.2 qy
      rw [← bn.K] at q1 q2
      obtain ⟨as, g1⟩ := Dp.reads I _ x v q1 rx
      obtain ⟨bs, g2⟩ := Dp.reads I _ y u q2 ry
      refine SeqAt.compareEq_reads g1 g2 (canLay_py _ c'.1.1) (canLay_py _ c'.1.2) ?_ ⟨.bl _, H, I, rfl, ?_⟩
      · rw [dep_py, dep_py]
        have := bn.hr.units
        omega
      · rw [eqv_py _ _ c'.1.1 c'.1.2]
        exact q _ _ _ _ (Stp.refl _ _ _) r0 (.bl _)
  · cases e
theorem or_ne (bn : Bn X G W k) : OpR X (compareOp .NotEq) (rOf G opNe) := by
  intro pins s σ H x y v u Q I rx ry ⟨dx, dy, h, F, ι, r0, qx, qy, d, e, q⟩
  unfold opNe at e
  split at e
  · rename_i c
    cases e
    by_cases sc : scalD (der h dx) (der h dy) = true
    · obtain ⟨e1, e2⟩ := scal_der sc
      rw [e1, e2] at sc q
      obtain ⟨s1, s2⟩ := scal_of sc qx qy
      refine op_ne pins s σ H _ _ v u Q I rx ry ⟨s1, ?_⟩
      rw [s2]
      exact q _ _ _ _ (Stp.refl _ _ _) r0 (.bl _)
    · have c' : (plain (der h dx) && plain (der h dy) && decide (min (dep (der h dx)) (dep (der h dy)) ≤ 64)) = true := by simpa [okEq, sc] using c
      simp only [Bool.and_eq_true, decide_eq_true_eq] at c'
      have q1 := dp_der r0 c'.1.1 qx
      have q2 := dp_der r0 c'.1.2 qy
      rw [← bn.K] at q1 q2
      obtain ⟨as, g1⟩ := Dp.reads I _ x v q1 rx
      obtain ⟨bs, g2⟩ := Dp.reads I _ y u q2 ry
      refine SeqAt.compareNe_reads g1 g2 (canLay_py _ c'.1.1) (canLay_py _ c'.1.2) ?_ ⟨.bl _, H, I, rfl, ?_⟩
      · rw [dep_py, dep_py]
        have := bn.hr.units
        omega
      · rw [eqv_py _ _ c'.1.1 c'.1.2]
        exact q _ _ _ _ (Stp.refl _ _ _) r0 (.bl _)
  · cases e

/-! ### is -/
def isNon : D → Bool
  | .non => true
  | _ => false
def opIs : Op2 := fun x y _ => match y with
  | .non => some (.bl (isNon x))
  | .bl b => match x with
    | .bl a => some (.bl (a == b))
    | _ => none
  | _ => none
def opIsNot : Op2 := fun x y _ => match y with
  | .non => some (.bl (!isNon x))
  | .bl b => match x with
    | .bl a => some (.bl (!(a == b)))
    | _ => none
  | _ => none
theorem isnon_of (qa : Rel G F ι a x) : decide (x = .non) = isNon a := by
  cases qa <;> simp [isNon]
theorem or_is : OpR X (compareOp .Is) (rOf G opIs) := by
  intro pins s σ H x y v u Q I rx ry ⟨dx, dy, h, F, ι, r0, qx, qy, d, e, q⟩
  unfold opIs at e
  split at e
  · cases e
    cases qy
    refine op_isN pins s σ H _ _ v u Q I rx ry ⟨rfl, ?_⟩
    have hq := q _ _ _ _ (Stp.refl _ _ _) r0 (.bl _)
    rw [← isnon_of qx] at hq
    exact hq
  · split at e
    · cases e
      cases qx
      cases qy
      have hq := q _ _ _ _ (Stp.refl _ _ _) r0 (.bl _)
      exact op_is_bl pins s σ H _ _ _ _ Q I rx ry ⟨_, _, rfl, rfl, by rw [← Bool.beq_eq_decide_eq]; exact hq⟩
    · cases e
  · cases e
theorem or_isnot : OpR X (compareOp .IsNot) (rOf G opIsNot) := by
  intro pins s σ H x y v u Q I rx ry ⟨dx, dy, h, F, ι, r0, qx, qy, d, e, q⟩
  unfold opIsNot at e
  split at e
  · cases e
    cases qy
    refine op_notN pins s σ H _ _ v u Q I rx ry ⟨rfl, ?_⟩
    have hq := q _ _ _ _ (Stp.refl _ _ _) r0 (.bl _)
    rw [← isnon_of qx] at hq
    exact hq
  · split at e
    · cases e
      cases qx
      cases qy
      have hq := q _ _ _ _ (Stp.refl _ _ _) r0 (.bl _)
      exact op_isnot_bl pins s σ H _ _ _ _ Q I rx ry ⟨_, _, rfl, rfl, by rw [← Bool.beq_eq_decide_eq]; exact hq⟩
    · cases e
  · cases e
end
end U
/-! membership, subscripts, slices, built-in calls -/
namespace U
open PySem PySem.Spec PyProof.Rows L2

/-! ### in -/
def scalF : D → Bool
  | .non => true
  | .bl _ => true
  | .int _ => true
  | .str _ => true
  | _ => false
def okIn (x : D) (l : List D) : Bool := (scalF x && l.all scalF) || (plain x && plains l && decide (min (deps l) (dep x) ≤ 63))
def inD (x : D) (l : List D) : Bool := l.any fun y => eqB y x
def valIn (x y : D) (h : Hs) : Option Bool := match y with
  | .str z => match x with
    | .str a => match a.cps.toList with
      | [c] => some (decide (c ∈ z.cps.toList))
      | _ => none
    | _ => none
  | y => match seqD y h with
    | some l => if okIn x l = true then some (inD x l) else none
    | none => none
def opIn : Op2 := fun x y h => (valIn x y h).map .bl
def opNotIn : Op2 := fun x y h => (valIn x y h).map fun b => .bl (!b)
section
variable {X : Cx} {G : Gn} {W : WX} {k : Nat} {F : Hp} {ι : List Addr} {h : Hs} {H : Hp} {x : D} {v : V} {l : List D} {xs : List V}
theorem flat_of (c : scalF x = true) (q : Rel G F ι x v) : flatV v = true := by
  cases q <;> first | rfl | (simp [scalF] at c)
theorem flats_of : ∀ {l : List D} {xs : List V}, l.all scalF = true → RelL G F ι l xs → xs.all flatV = true := by
  intro l
  induction l with
  | nil => intro xs _ q; cases q; rfl
  | cons d l ih =>
    intro xs c q
    cases q with
    | cons q1 q2 =>
      simp only [List.all_cons, Bool.and_eq_true] at c ⊢
      exact ⟨flat_of c.1 q1, ih c.2 q2⟩
theorem eqV_of {a b : D} {x y : V} (ca : scalF a = true) (cb : scalF b = true) (qa : Rel G F ι a x) (qb : Rel G F ι b y) : eqV x y = eqB a b := by
  cases qa <;> cases qb <;> first
    | (simp [scalF] at ca; done)
    | (simp [scalF] at cb; done)
    | simp [eqV, eqB]
theorem inV_of (cx : scalF x = true) : ∀ {l : List D} {xs : List V}, l.all scalF = true → Rel G F ι x v → RelL G F ι l xs → inV v xs = inD x l := by
  intro l
  induction l with
  | nil => intro xs _ _ q; cases q; rfl
  | cons d l ih =>
    intro xs c qv q
    cases q with
    | cons q1 q2 =>
      simp only [List.all_cons, Bool.and_eq_true] at c
      have e := ih c.2 qv q2
      unfold inV inD at *
      rw [List.any_cons, List.any_cons, eqV_of c.1 cx q1 qv, e]
theorem any_pys (px : plain x = true) : ∀ {l : List D}, plains l = true → ((pys l).any fun y => PyData.eqv y (py x)) = inD x l := by
  intro l
  induction l with
  | nil => intro _; simp [pys, inD]
  | cons d l ih =>
    intro c
    have c' : plain d = true ∧ plains l = true := by simpa [plains] using c
    simp only [pys, List.any_cons, inD, eqv_py d x c'.1 px]
    rw [ih c'.2]
    rfl
theorem in_core (bn : Bn X G W k) {y : D} {u w : V} {vu vw : Value} {pins : List (Addr × Obj)} {σ : L2.St} {s : Shared} {b : Bool} (I : Inv X pins σ H s) (r0 : Rs G F ι h H) (qx : Rel G F ι x u) (qy : Rel G F ι y w) (rx : RelV u vu) (ry : RelV w vw)
    (e : valIn x y h = some b) :
    (∀ Q : VK, Q (.bl b) H → wpAny (model X.prog X.w) X.A (compareOp .In vu vw) (EP X pins σ Q) X.xe s) ∧ (∀ Q : VK, Q (.bl (!b)) H → wpAny (model X.prog X.w) X.A (compareOp .NotIn vu vw) (EP X pins σ Q) X.xe s) := by
  by_cases hy : ∃ z, y = .str z
  · obtain ⟨z, rfl⟩ := hy
    cases x with
    | str a =>
      have e : (match a.cps.toList with | [c] => some (decide (c ∈ z.cps.toList)) | _ => none) = some b := e
      split at e
      · rename_i c hc
        cases e
        cases qx
        cases qy
        have ea : a = ⟨#[c]⟩ := by
          cases a
          simp only [PySem.Str.mk.injEq]
          apply Array.ext'
          exact hc
        subst ea
        exact ⟨fun Q q => op_in_sign pins s σ H _ _ vu vw Q I rx ry ⟨c, _, rfl, rfl, q⟩, fun Q q => op_notIn_sign pins s σ H _ _ vu vw Q I rx ry ⟨c, _, rfl, rfl, q⟩⟩
      · cases e
    | _ => cases e
  · have e : (match seqD y h with | some l => if okIn x l = true then some (inD x l) else none | none => none) = some b := by
      cases y <;> first | exact e | exact absurd ⟨_, rfl⟩ hy
    split at e
    · rename_i l hl
      split at e
      · rename_i c
        cases e
        obtain ⟨a, xs, rfl, hs, hr⟩ := seqD_at bn r0 hl qy
        by_cases fl : (scalF x && l.all scalF) = true
        · simp only [Bool.and_eq_true] at fl
          have e1 := inV_of (G := G) (F := F) (ι := ι) fl.1 fl.2 qx hr
          exact ⟨fun Q q => op_in_seq pins s σ H _ _ vu vw Q I rx ry ⟨a, xs, rfl, hs, flat_of fl.1 qx, flats_of fl.2 hr, by simp only [Bool.false_eq_true, if_false]; rw [e1]; exact q⟩,
            fun Q q => op_notIn_seq pins s σ H _ _ vu vw Q I rx ry ⟨a, xs, rfl, hs, flat_of fl.1 qx, flats_of fl.2 hr, by simp only [if_true]; rw [e1]; exact q⟩⟩
        · have c' : (plain x && plains l && decide (min (deps l) (dep x) ≤ 63)) = true := by simpa [okIn, fl] using c
          simp only [Bool.and_eq_true, decide_eq_true_eq] at c'
          have d1 := dp_of r0 x u c'.1.1 qx
          have d2 := dps_of r0 l xs c'.1.2 hr
          rw [← bn.K] at d1 d2
          obtain ⟨bs, g1⟩ := Dp.reads I _ u vu d1 rx
          have hu : X.A.units + 1 + min (PyData.depthAll (pys l)) (py x).depth < cLine := by
            rw [dep_py, dep_pys]
            have := bn.hr.units
            omega
          have cl := canLay_pys l c'.1.2
          have cx := canLay_py x c'.1.1
          rcases hs with hs | hs
          · obtain ⟨as, g2⟩ := Dp.reads I (.list (pys l)) _ vw (.lst hs d2) ry
            exact ⟨fun Q q => SeqAt.in_list_reads g2 g1 cl cx hu ⟨.bl _, H, I, rfl, by rw [any_pys c'.1.1 c'.1.2]; exact q⟩, fun Q q => SeqAt.notIn_list_reads g2 g1 cl cx hu ⟨.bl _, H, I, rfl, by rw [any_pys c'.1.1 c'.1.2]; exact q⟩⟩
          · obtain ⟨as, g2⟩ := Dp.reads I (.tuple (pys l)) _ vw (.tup hs d2) ry
            exact ⟨fun Q q => SeqAt.in_tuple_reads g2 g1 cl cx hu ⟨.bl _, H, I, rfl, by rw [any_pys c'.1.1 c'.1.2]; exact q⟩, fun Q q => SeqAt.notIn_tuple_reads g2 g1 cl cx hu ⟨.bl _, H, I, rfl, by rw [any_pys c'.1.1 c'.1.2]; exact q⟩⟩
      · cases e
    · cases e
theorem or_in (bn : Bn X G W k) : OpR X (compareOp .In) (rOf G opIn) := by
  intro pins s σ H x y v u Q I rx ry ⟨dx, dy, h, F, ι, r0, qx, qy, d, e, q⟩
  unfold opIn at e
  cases e1 : valIn dx dy h with
  | none => rw [e1] at e; cases e
  | some b =>
    rw [e1] at e
    cases e
    exact (in_core bn I r0 qx qy rx ry e1).1 Q (q _ _ _ _ (Stp.refl _ _ _) r0 (.bl _))
theorem or_notin (bn : Bn X G W k) : OpR X (compareOp .NotIn) (rOf G opNotIn) := by
  intro pins s σ H x y v u Q I rx ry ⟨dx, dy, h, F, ι, r0, qx, qy, d, e, q⟩
  unfold opNotIn at e
  cases e1 : valIn dx dy h with
  | none => rw [e1] at e; cases e
  | some b =>
    rw [e1] at e
    cases e
    exact (in_core bn I r0 qx qy rx ry e1).2 Q (q _ _ _ _ (Stp.refl _ _ _) r0 (.bl _))
end

/-! ### subscripts, slices -/
def atD (l : List D) (i : Int) : Option D := atI l i
def opIx : Op2 := fun x y h => match y with
  | .int i => match x with
    | .str z => if z.length ≤ sizeLine then (atI z.cps.toList i).map fun c => .str ⟨#[c]⟩ else none
    | x => match seqD x h with
      | some l => atI l i
      | none => none
  | _ => none
section
variable {X : Cx} {G : Gn} {W : WX} {k : Nat} {F : Hp} {ι : List Addr} {a b : Expr} {fa fb : EV} {pos : Pos}
theorem atI_rel {l : List D} {xs : List V} (r : RelL G F ι l xs) {i : Int} {d : D} (e : atI l i = some d) : ∃ v, atI xs i = some v ∧ Rel G F ι d v := by
  unfold atI at e ⊢
  rw [← r.len]
  cases q : ixN l.length i with
  | none => rw [q] at e; cases e
  | some j =>
    rw [q] at e
    have e : l[j]? = some d := e
    obtain ⟨v, h1, h2⟩ := r.get' e
    exact ⟨v, h1, h2⟩
theorem ir_seq (bn : Bn X G W k) : IxR X (rOf G opIx) := by
  intro value slice pins s σ H x y v u Q I rx ry ⟨dx, dy, h, F, ι, r0, qx, qy, d, e, q⟩ hs
  cases dy with
  | int i =>
    cases qy
    by_cases hx : ∃ z, dx = .str z
    · obtain ⟨z, rfl⟩ := hx
      have e : (if z.length ≤ sizeLine then (atI z.cps.toList i).map fun c => D.str ⟨#[c]⟩ else none) = some d := e
      split at e
      · rename_i hz
        cases qx
        cases e1 : atI z.cps.toList i with
        | none => rw [e1] at e; cases e
        | some c =>
          rw [e1] at e
          cases e
          exact ix_str value slice pins s σ H _ _ v u Q I rx ry ⟨z, i, c, rfl, rfl, hz, e1, q _ _ _ _ (Stp.refl _ _ _) r0 (.str _)⟩ hs
      · cases e
    · have e : (match seqD dx h with | some l => atI l i | none => none) = some d := by
        cases dx <;> first | exact e | exact absurd ⟨_, rfl⟩ hx
      split at e
      · rename_i l hl
        obtain ⟨a, xs, rfl, hq, hr⟩ := seqD_at bn r0 hl qx
        obtain ⟨w, h1, h2⟩ := atI_rel hr e
        rcases hq with hq | hq
        · exact ix_list value slice pins s σ H _ _ v u Q I rx ry ⟨a, xs, _, w, rfl, rfl, hq, h1, q _ _ _ _ (Stp.refl _ _ _) r0 h2⟩ hs
        · exact ix_tup value slice pins s σ H _ _ v u Q I rx ry ⟨a, xs, _, w, rfl, rfl, hq, h1, q _ _ _ _ (Stp.refl _ _ _) r0 h2⟩ hs
      · cases e
  | _ => cases e
theorem q_ix (bn : Bn X G W k) (ha : QE X G W a fa) (hb : QE X G W b fb) (hs : PlainIx b := by intro _ _; rfl) : QE X G W (.Subscript a b pos) (eOp opIx fa fb) := qe_of (pe_ix (ir_seq bn) ha hb hs) fun _ _ _ => tOp_of

/-- a slice's part -/
abbrev PV := Rho → Hs → R (Option Int)
def relP : Hp → List Addr → Option Int → Option Int → Prop := fun _ _ a b => a = b
def tPp (G : Gn) (W : WX) (f : PV) : TO := fun σ H Q => ∃ ρ h F ι, RelS G F ι ρ σ ∧ Rs G F ι h H ∧ Pst G F ι H relP (fun c H' => W (.ref (G.cl c)) none σ H') (f ρ h) Q
def QP (X : Cx) (G : Gn) (W : WX) (e : Option Expr) (f : PV) : Prop := PO X e (tPp G W f)
def pNone : PV := fun _ h => .ok none h
def pSome (f : EV) : PV := fun ρ h => (f ρ h).bind fun d h1 => match d with
  | .int i => .ok (some i) h1
  | _ => .no
theorem qp_none : QP X G W none pNone := ⟨fun pins s σ H Q I ⟨ρ, h, F, ι, rs, r0, p⟩ => po_none.run pins s σ H Q I (Pst.okk p r0 rfl)⟩
theorem qp_some (ha : QE X G W a fa) : QP X G W (some a) (pSome fa) := by
  have h := po_some ha
  refine ⟨fun pins s σ H Q I q => h.run pins s σ H Q I ?_⟩
  obtain ⟨ρ, h, F, ι, rs, r0, p⟩ := q
  refine ⟨ρ, h, F, ι, rs, r0, p.bind fun d h1 v H1 F1 ι1 e1 r1 q1 p1 => ?_⟩
  cases d with
  | int i =>
    cases q1
    exact ⟨i, rfl, Pst.okk p1 r1 rfl⟩
  | _ => exact p1.elim
def cutD (l : List D) (lo hi : Option Int) : List D := (l.drop (HT.sIx l.length 0 lo)).take (HT.sIx l.length l.length hi - HT.sIx l.length 0 lo)
def opSl (x : D) (lo hi : Option Int) (h : Hs) : Option D := match x with
  | .str z => if z.length ≤ sizeLine then some (.str (cutS z lo hi)) else none
  | .tup l => some (.tup (cutD l lo hi))
  | x => match lstD x h with
    | some l => some (.lst (cutD l lo hi))
    | none => none
def eSl (fa : EV) (lo hi : PV) : EV := fun ρ h => (fa ρ h).bind fun x h1 => (lo ρ h1).bind fun l h2 => (hi ρ h2).bind fun u h3 => match opSl x l u h3 with
  | some d => .ok d h3
  | none => .no
theorem cut_rel {l : List D} {xs : List V} (r : RelL G F ι l xs) (lo hi : Option Int) : RelL G F ι (cutD l lo hi) (cutV xs lo hi) := by
  unfold cutD cutV
  rw [← r.len]
  exact (r.drop _).take _
theorem cut_whole {l : List D} {xs : List V} {lo hi : Option Int} (r : RelL G F ι l xs) (z : HT.sIx xs.length 0 lo = 0 ∧ HT.sIx xs.length xs.length hi = xs.length) : cutD l lo hi = l := by
  unfold cutD
  rw [r.len, z.1, z.2, List.drop_zero, Nat.sub_zero, ← r.len, List.take_length]
theorem q_sl (bn : Bn X G W k) {lo hi : Option Expr} {fl fh : PV} {p2 : Pos} (ha : QE X G W a fa) (hl : QP X G W lo fl) (hh : QP X G W hi fh) : QE X G W (.Subscript a (.Slice lo hi none p2) pos) (eSl fa fl fh) := by
  have sr : SlR X (fun x lo hi H Q => rSlS x lo hi H Q ∨ rSlA X.K x lo hi H Q ∨ rSlL X.K x lo hi H Q) := sl_str.or (sl_tupA.or sl_list)
  refine qe_of (pe_slice sr ha hl hh) fun σ H Q ⟨ρ, h, F, ι, rs, r0, p⟩ => tE.bind rs r0 p fun d h1 v H1 F1 ι1 e1 r1 q1 p1 => ?_
  refine ⟨ρ, h1, F1, ι1, rs.ext e1.toExt, r1, p1.bind fun l h2 l' H2 F2 ι2 e2 r2 q2 p2 => ?_⟩
  cases q2
  refine ⟨ρ, h2, F2, ι2, (rs.ext e1.toExt).ext e2.toExt, r2, p2.bind fun u h3 u' H3 F3 ι3 e3 r3 q3 p3 => ?_⟩
  cases q3
  have q1' := q1.ext (e2.trans e3).toExt
  cases e : opSl d l u h3 with
  | none => simp only [e] at p3; exact p3.elim
  | some z =>
    simp only [e] at p3
    unfold opSl at e
    split at e
    · split at e
      · cases e
        cases q1'
        exact .inl ⟨_, rfl, by assumption, Pst.okk p3 r3 (.str _)⟩
      · cases e
    · cases e
      cases q1' with
      | tup hq hr =>
        rename_i l0 a xs
        refine .inr (.inl ⟨a, xs, rfl, by rw [bn.K]; exact r3.sqT hq, fun z => ?_, fun z q hq2 => ?_⟩)
        · rw [cut_whole hr z] at p3
          exact Pst.okk p3 r3 (.tup hq hr)
        · obtain ⟨F', e', r', q'⟩ := r3.layTup hq2 (cut_rel hr l u)
          exact p3 _ _ _ _ e' r' q'
    · split at e
      · rename_i l0 hl0
        cases e
        obtain ⟨a, xs, rfl, hq, hr⟩ := lstD_at r3 hl0 q1'
        refine .inr (.inr ⟨a, xs, rfl, by rw [bn.K]; exact hq, fun q hq2 => ?_⟩)
        obtain ⟨F', e', r', q'⟩ := r3.layLst hq2 (cut_rel hr l u)
        exact p3 _ _ _ _ e' r' q'
      · cases e

/-! ### built-in calls of one argument -/
abbrev Op1 := D → Hs → Option D
def eCal (op : Op1) (fa : EV) : EV := fun ρ h => (fa ρ h).bind fun x h1 => match op x h1 with
  | some d => .ok d h1
  | none => .no
def r1Of (G : Gn) (op : Op1) : List V → Hp → VK → Prop := fun xs H Q => ∃ x dx h F ι, xs = [x] ∧ Rs G F ι h H ∧ Rel G F ι dx x ∧ ∃ d, op dx h = some d ∧ ∀ v H' F' ι', Stp F ι H F' ι' H' → Rs G F' ι' h H' → Rel G F' ι' d v → Q v H'
theorem t1_of {op : Op1} {σ : L2.St} {H : Hp} {Q : VK} (q : tE G W (eCal op fa) σ H Q) : tCB (r1Of G op) (tCons (tE G W fa) tNil) σ H Q := by
  obtain ⟨ρ, h, F, ι, rs, r0, p⟩ := q
  refine tE.bind rs r0 p fun dx h1 x H1 F1 ι1 e1 r1 q1 p1 => ?_
  cases e : op dx h1 with
  | none => simp only [e] at p1; exact p1.elim
  | some d =>
    simp only [e] at p1
    exact ⟨x, dx, h1, F1, ι1, rfl, r1, q1, d, e, p1⟩
theorem q_callB {x : Str} {id : String} {op : Op1} {p : Pos} (hc : CallR X (.builtin id) (r1Of G op)) (hm : X.mg x = none) (hv : bootBuiltins x = some (.builtin id)) (ha : QE X G W a fa) (hg : Gl X x := by rfl)
    (hs : starEach [a] X.env = (false, eval a X.env) :: starEach [] X.env := by rfl) (hn : x ≠ "__name__" := by decide) (hd : (x == ("__debug__" : Str)) = false := by decide) :
    QE X G W (.Call (.Name x p) [a] [] pos) (eCal op fa) := qe_of (pe_callB hc hg hm hv (pa_cons ha pa_nil hs) hn hd hs) fun _ _ _ => t1_of
theorem q_callTy {x : Str} {T : String} {op : Op1} {p : Pos} (hc : CallR X (.type T) (r1Of G op)) (hm : X.mg x = none) (hv : bootBuiltins x = some (.type T)) (ha : QE X G W a fa) (hg : Gl X x := by rfl)
    (hs : starEach [a] X.env = (false, eval a X.env) :: starEach [] X.env := by rfl) (hn : x ≠ "__name__" := by decide) (hd : (x == ("__debug__" : Str)) = false := by decide) :
    QE X G W (.Call (.Name x p) [a] [] pos) (eCal op fa) := qe_of (pe_callTy hc hg hm hv (pa_cons ha pa_nil hs) hn hd hs) fun _ _ _ => t1_of
def opLen : Op1 := fun x h => match x with
  | .str z => if z.length ≤ sizeLine then some (.int z.length) else none
  | .dic l => some (.int l.length)
  | .dit l => some (.int l.length)
  | .ref i => match h[i]? with
    | some (.lst l) => some (.int l.length)
    | some (.dK l) => some (.int l.length)
    | some (.dT l) => some (.int l.length)
    | _ => none
  | x => match seqD x h with
    | some l => some (.int l.length)
    | none => none
end
end U
/-! built-ins by values -/
namespace U
open PySem PySem.Spec PyProof.Rows L2
section
variable {X : Cx} {G : Gn} {W : WX} {k : Nat} {F : Hp} {ι : List Addr} {h : Hs} {H : Hp} {a b : Expr} {fa fb : EV} {pos : Pos}

/-! ### len -/
def boxK (x : D) (h : Hs) : Option (List (Key × D)) := match x with
  | .ref i => match h[i]? with
    | some (.dK l) => some l
    | _ => none
  | _ => none
def opLenQ : Op1 := fun x h => match x with
  | .str z => if z.length ≤ sizeLine then some (.int z.length) else none
  | .dic l => some (.int l.length)
  | x => match seqD x h with
    | some l => some (.int l.length)
    | none => (boxK x h).map fun l => .int l.length
theorem boxK_at {d : D} {v : V} {l : List (Key × D)} (r : Rs G F ι h H) (e : boxK d h = some l) (q : Rel G F ι d v) : ∃ i a xs, d = .ref i ∧ h[i]? = some (.dK l) ∧ v = .ref a ∧ ι[i]? = some a ∧ H a = some (.dK xs) ∧ RelK G F ι l xs := by
  cases d with
  | ref i =>
    have e : (match h[i]? with | some (.dK l) => some l | _ => none) = some l := e
    cases ei : h[i]? with
    | none => rw [ei] at e; cases e
    | some o =>
      rw [ei] at e
      cases o with
      | dK m =>
        cases e
        cases q with
        | ref q1 =>
          obtain ⟨u, e1, e2⟩ := r.bx q1 ei
          cases u with
          | dK kvs => exact ⟨i, _, kvs, rfl, ei, rfl, q1, e1, e2⟩
          | _ => exact (show False from e2).elim
      | _ => cases e
  | _ => cases e
theorem relK_len {l : List (Key × D)} : ∀ {xs : List (Key × V)}, RelK G F ι l xs → l.length = xs.length := by
  induction l with
  | nil => intro xs h; cases h; rfl
  | cons p r ih => intro xs h; cases h with | cons h t => exact congrArg (· + 1) (ih t)
theorem cr_len (bn : Bn X G W k) : CallR X (.builtin "len") (r1Of G opLenQ) := by
  intro pins s σ H xs us Q I r hq
  obtain ⟨x, dx, h, F, ι, rfl, r0, qx, d, e, q⟩ := hq
  by_cases h1 : ∃ z, dx = .str z
  · obtain ⟨z, rfl⟩ := h1
    have e : (if z.length ≤ sizeLine then some (D.int z.length) else none) = some d := e
    split at e
    · cases e
      cases qx
      exact call_len_str pins s σ H _ us Q I r ⟨z, rfl, by assumption, q _ _ _ _ (Stp.refl _ _ _) r0 (.int _)⟩
    · cases e
  by_cases h2 : ∃ l, dx = .dic l
  · obtain ⟨l, rfl⟩ := h2
    have e : some (D.int l.length) = some d := e
    cases e
    cases qx with
    | dic q1 q2 =>
      obtain ⟨u, rfl, ru⟩ := vals1 r
      cases ru
      refine d_len I (r0.rd q1) fun t s' I' => ⟨.int _, H, I', ⟨t, rfl⟩, ?_⟩
      rw [← relK_len q2]
      exact q _ _ _ _ (Stp.refl _ _ _) r0 (.int _)
  have e : (match seqD dx h with
    | some l => some (D.int l.length)
    | none => (boxK dx h).map fun l => .int l.length) = some d := by
    cases dx <;> first | exact e | exact absurd ⟨_, rfl⟩ h1 | exact absurd ⟨_, rfl⟩ h2
  cases hl : seqD dx h with
  | some l =>
    rw [hl] at e
    cases e
    obtain ⟨a, xs, rfl, hq, hr⟩ := seqD_at bn r0 hl qx
    have hlen := hr.len
    refine call_len_seq pins s σ H _ us Q I r ⟨a, xs, rfl, hq, ?_⟩
    rw [← hlen]
    exact q _ _ _ _ (Stp.refl _ _ _) r0 (.int _)
  | none =>
    rw [hl] at e
    have e : (boxK dx h).map (fun l => D.int l.length) = some d := e
    cases hb : boxK dx h with
    | none => rw [hb] at e; cases e
    | some l =>
      rw [hb] at e
      cases e
      obtain ⟨i, a, kvs, rfl, _, rfl, _, e1, e2⟩ := boxK_at r0 hb qx
      obtain ⟨u, rfl, ru⟩ := vals1 r
      cases ru
      refine d_len I (.inl e1) fun t s' I' => ⟨.int _, H, I', ⟨t, rfl⟩, ?_⟩
      rw [← relK_len e2]
      exact q _ _ _ _ (Stp.refl _ _ _) r0 (.int _)

/-! ### isinstance -/
def tyD (d : D) (h : Hs) : Option String := match d with
  | .non => some "NoneType"
  | .bl _ => some "bool"
  | .int _ => some "int"
  | .str _ => some "str"
  | .tup _ => some "tuple"
  | .lst _ => some "list"
  | .dic _ => some "dict"
  | .ref i => match h[i]? with
    | some (.lst _) => some "list"
    | some (.dK _) => some "dict"
    | some (.dT _) => some "dict"
    | _ => none
  | _ => none
def isI (a b : String) : Bool := a == b || (a == "bool" && b == "int")
theorem kit_all : (["NoneType", "bool", "int", "str", "tuple", "list", "dict"].all fun a => ["int", "str", "bool", "tuple", "list", "dict"].all fun b => decide (kitB a b = some (isI a b))) = true := by decide +kernel
theorem kit_of_two {a b : String} (ha : a ∈ ["NoneType", "bool", "int", "str", "tuple", "list", "dict"]) (hb : b ∈ ["int", "str", "bool", "tuple", "list", "dict"]) : kitB a b = some (isI a b) := by
  have h := List.all_eq_true.mp kit_all a ha
  have h2 := List.all_eq_true.mp h b hb
  exact of_decide_eq_true h2
theorem tyD_at (bn : Bn X G W k) {d : D} {v : V} {t : String} (r : Rs G F ι h H) (e : tyD d h = some t) (q : Rel G F ι d v) : TyX X.K H v (.type t) ∧ t ∈ ["NoneType", "bool", "int", "str", "tuple", "list", "dict"] := by
  cases d with
  | non => cases q; cases e; exact ⟨.base .non, by simp⟩
  | bl b => cases q; cases e; exact ⟨.base (.bl b), by simp⟩
  | int i => cases q; cases e; exact ⟨.base (.int i), by simp⟩
  | str x => cases q; cases e; exact ⟨.base (.str x), by simp⟩
  | tup l =>
    cases e
    refine ⟨?_, by simp⟩
    cases q with
    | tup h1 _ =>
      have h2 := r.sqT h1
      rw [← bn.K] at h2
      rcases h2 with (h2 | ⟨o, h2⟩) | ⟨o, its, n, h2, h3, _⟩
      · exact .base (.tup h2)
      · exact .fTuple h2
      · exact .kTuple h2 h3
  | lst l =>
    cases e
    refine ⟨?_, by simp⟩
    cases q with
    | lst h1 _ =>
      have h2 := r.sqL h1
      rw [← bn.K] at h2
      rcases h2 with (h2 | ⟨o, h2⟩) | ⟨o, its, n, h2, h3, _⟩
      · exact .base (.lst h2)
      · exact .base (.frz h2)
      · exact .kList h2 h3
  | dic l =>
    cases e
    refine ⟨?_, by simp⟩
    cases q with
    | dic h1 _ =>
      rcases r.rd h1 with h2 | ⟨o, h2⟩
      · exact .base (.dK h2)
      · exact .fDict h2
  | ref i =>
    cases q with
    | ref q1 =>
      have e : (match h[i]? with | some (.lst _) => some "list" | some (.dK _) => some "dict" | some (.dT _) => some "dict" | _ => none) = some t := e
      cases ei : h[i]? with
      | none => rw [ei] at e; cases e
      | some o =>
        rw [ei] at e
        obtain ⟨u, e1, e2⟩ := r.bx q1 ei
        cases o with
        | lst m =>
          cases e
          cases u with
          | lst xs => exact ⟨.base (.lst e1), by simp⟩
          | _ => exact (show False from e2).elim
        | dK m =>
          cases e
          cases u with
          | dK xs => exact ⟨.base (.dK e1), by simp⟩
          | _ => exact (show False from e2).elim
        | dT m =>
          cases e
          cases u with
          | dT xs => exact ⟨.base (.dT e1), by simp⟩
          | _ => exact (show False from e2).elim
        | _ => cases e
  | _ => cases e
def opIsi (n : String) : Op1 := fun d h => (tyD d h).map fun t => .bl (isI t n)
theorem q_isi (bn : Bn X G W k) {n : String} {T : Str} {p p2 : Pos} (hb : n ∈ ["int", "str", "bool", "tuple", "list", "dict"]) (hm : X.mg "isinstance" = none) (hT : X.mg T = none) (hv : bootBuiltins T = some (.type n)) (ha : QE X G W a fa)
    (hg : Gl X "isinstance" := by rfl) (hg2 : Gl X T := by rfl) (hn : T ≠ "__name__" := by decide) (hd : (T == ("__debug__" : Str)) = false := by decide) (hs : starEach [a, .Name T p2] X.env = (false, eval a X.env) :: starEach [.Name T p2] X.env := by rfl) :
    QE X G W (.Call (.Name "isinstance" p) [a, .Name T p2] [] pos) (eCal (opIsi n) fa) := by
  have h2 : PE X (.Name T p2) (tC (.ty n)) := pe_bltn hg2 hT hv rfl hn hd
  refine qe_of (pe_callB call_isi hg hm boot_isinstance (pa_cons ha (pa_cons h2 pa_nil) hs) (by decide) (by decide) hs) fun σ H Q ⟨ρ, h, F, ι, rs, r0, p⟩ => tE.bind rs r0 p fun dx h1 x H1 F1 ι1 e1 r1 q1 p1 => ?_
  cases e : opIsi n dx h1 with
  | none => simp only [e] at p1; exact p1.elim
  | some d =>
    simp only [e] at p1
    unfold opIsi at e
    cases et : tyD dx h1 with
    | none => rw [et] at e; cases e
    | some t =>
      rw [et] at e
      cases e
      obtain ⟨ty, mem⟩ := tyD_at bn r1 et q1
      exact ⟨x, .ty n, .type t, .type n, isI t n, rfl, .ty n, ty, kit_ty (kit_of_two mem hb), Pst.okk p1 r1 (.bl _)⟩

/-! ### all, any -/
def boolsD : List D → Option (List Bool)
  | [] => some []
  | .bl b :: l => (boolsD l).map (b :: ·)
  | _ => none
theorem bools_at {l : List D} : ∀ {bs : List Bool} {xs : List V}, boolsD l = some bs → RelL G F ι l xs → xs = bs.map V.bl := by
  induction l with
  | nil => intro bs xs e q; cases q; cases e; rfl
  | cons d l ih =>
    intro bs xs e q
    cases q with
    | cons q1 q2 =>
      cases d with
      | bl b =>
        cases q1
        have e : (boolsD l).map (b :: ·) = some bs := e
        cases e1 : boolsD l with
        | none => rw [e1] at e; cases e
        | some cs =>
          rw [e1] at e
          cases e
          rw [ih e1 q2]
          rfl
      | _ => cases e
def opAll : Op1 := fun x h => (lstD x h).bind fun l => (boolsD l).map fun bs => .bl (bs.all id)
def opAny : Op1 := fun x h => (lstD x h).bind fun l => (boolsD l).map fun bs => .bl (bs.any id)
theorem cr_allD (bn : Bn X G W k) : CallR X (.builtin "all") (r1Of G opAll) := by
  intro pins s σ H xs us Q I r hq
  obtain ⟨x, dx, h, F, ι, rfl, r0, qx, d, e, q⟩ := hq
  unfold opAll at e
  cases e1 : lstD dx h with
  | none => rw [e1] at e; cases e
  | some l =>
    rw [e1] at e
    have e : (boolsD l).map (fun bs => D.bl (bs.all id)) = some d := e
    cases e2 : boolsD l with
    | none => rw [e2] at e; cases e
    | some bs =>
      rw [e2] at e
      cases e
      obtain ⟨a, xs, rfl, h1, h2⟩ := lstD_at r0 e1 qx
      rw [bools_at e2 h2] at h1
      exact cr_all bn.calm pins s σ H _ us Q I r ⟨a, bs, rfl, by rw [bn.K]; exact h1, q _ _ _ _ (Stp.refl _ _ _) r0 (.bl _)⟩
theorem cr_anyD (bn : Bn X G W k) : CallR X (.builtin "any") (r1Of G opAny) := by
  intro pins s σ H xs us Q I r hq
  obtain ⟨x, dx, h, F, ι, rfl, r0, qx, d, e, q⟩ := hq
  unfold opAny at e
  cases e1 : lstD dx h with
  | none => rw [e1] at e; cases e
  | some l =>
    rw [e1] at e
    have e : (boolsD l).map (fun bs => D.bl (bs.any id)) = some d := e
    cases e2 : boolsD l with
    | none => rw [e2] at e; cases e
    | some bs =>
      rw [e2] at e
      cases e
      obtain ⟨a, xs, rfl, h1, h2⟩ := lstD_at r0 e1 qx
      rw [bools_at e2 h2] at h1
      exact cr_any bn.calm pins s σ H _ us Q I r ⟨a, bs, rfl, by rw [bn.K]; exact h1, q _ _ _ _ (Stp.refl _ _ _) r0 (.bl _)⟩

/-! ### tuple, list, int -/
def opTuple : Op1 := fun x h => (seqD x h).map .tup
def opList : Op1 := fun x h => (seqD x h).map .lst
def opInt : Op1 := fun x _ => match x with
  | .int i => some (.int i)
  | .bl b => some (.int (if b then 1 else 0))
  | _ => none
theorem ct_tuple (bn : Bn X G W k) : CallR X (.type "tuple") (r1Of G opTuple) := by
  intro pins s σ H xs us Q I r hq
  obtain ⟨x, dx, h, F, ι, rfl, r0, qx, d, e, q⟩ := hq
  unfold opTuple at e
  cases e1 : seqD dx h with
  | none => rw [e1] at e; cases e
  | some l =>
    rw [e1] at e
    cases e
    obtain ⟨a, xs, rfl, h1, h2⟩ := seqD_at bn r0 e1 qx
    by_cases ht : ∃ l, dx = .tup l
    · obtain ⟨m, rfl⟩ := ht
      cases e1
      cases qx with
      | tup h3 h4 => exact call_tuple_of pins s σ H _ us Q I r ⟨a, _, rfl, .inr ⟨by rw [bn.K]; exact r0.sqT h3, q _ _ _ _ (Stp.refl _ _ _) r0 (.tup h3 h4)⟩⟩
    · have e2 : lstD dx h = some l := by cases dx <;> first | exact e1 | exact absurd ⟨_, rfl⟩ ht
      obtain ⟨a', xs', ea, h3, h4⟩ := lstD_at r0 e2 qx
      cases ea
      refine call_tuple_of pins s σ H _ us Q I r ⟨a, xs', rfl, .inl ⟨by rw [bn.K]; exact h3, fun p hp => ?_⟩⟩
      obtain ⟨F', e', r', q'⟩ := r0.layTup hp h4
      exact q _ _ _ _ e' r' q'
theorem ct_list (bn : Bn X G W k) : CallR X (.type "list") (r1Of G opList) := by
  intro pins s σ H xs us Q I r hq
  obtain ⟨x, dx, h, F, ι, rfl, r0, qx, d, e, q⟩ := hq
  unfold opList at e
  cases e1 : seqD dx h with
  | none => rw [e1] at e; cases e
  | some l =>
    rw [e1] at e
    cases e
    obtain ⟨a, xs, rfl, h1, h2⟩ := seqD_at bn r0 e1 qx
    refine call_list_of pins s σ H _ us Q I r ⟨a, xs, rfl, h1, fun p hp => ?_⟩
    obtain ⟨F', e', r', q'⟩ := r0.layLst hp h2
    exact q _ _ _ _ e' r' q'
theorem ct_int : CallR X (.type "int") (r1Of G opInt) := by
  intro pins s σ H xs us Q I r hq
  obtain ⟨x, dx, h, F, ι, rfl, r0, qx, d, e, q⟩ := hq
  cases dx with
  | int i =>
    cases e
    cases qx
    exact call_int1 pins s σ H _ us Q I r (.inl ⟨i, rfl, q _ _ _ _ (Stp.refl _ _ _) r0 (.int _)⟩)
  | bl b =>
    cases e
    cases qx
    exact call_int1 pins s σ H _ us Q I r (.inr ⟨b, rfl, q _ _ _ _ (Stp.refl _ _ _) r0 (.int _)⟩)
  | _ => cases e

/-! ### built-in calls of two arguments -/
def r2Of (G : Gn) (op : Op2) : List V → Hp → VK → Prop := fun xs H Q => ∃ x y dx dy h F ι, xs = [x, y] ∧ Rs G F ι h H ∧ Rel G F ι dx x ∧ Rel G F ι dy y ∧ ∃ d, op dx dy h = some d ∧ ∀ v H' F' ι', Stp F ι H F' ι' H' → Rs G F' ι' h H' → Rel G F' ι' d v → Q v H'
theorem q_callB2 {x : Str} {id : String} {op : Op2} {p : Pos} (hc : CallR X (.builtin id) (r2Of G op)) (hm : X.mg x = none) (hv : bootBuiltins x = some (.builtin id)) (ha : QE X G W a fa) (hb : QE X G W b fb) (hg : Gl X x := by rfl)
    (hs : starEach [a, b] X.env = (false, eval a X.env) :: starEach [b] X.env := by rfl) (hs2 : starEach [b] X.env = (false, eval b X.env) :: starEach [] X.env := by rfl) (hpl : (backTo pos (starEach [b] X.env)).any (·.1) = false := by rfl)
    (hn : x ≠ "__name__" := by decide) (hd : (x == ("__debug__" : Str)) = false := by decide) :
    QE X G W (.Call (.Name x p) [a, b] [] pos) (eOp op fa fb) := by
  refine qe_of (pe_callB hc hg hm hv (pa_cons ha (pa_cons hb pa_nil hs2) hs) hn hd hs hpl) fun σ H Q q => ?_
  obtain ⟨ρ, h, F, ι, rs, r0, p⟩ := q
  refine tE.bind rs r0 p fun dx h1 x H1 F1 ι1 e1 r1 q1 p1 => ?_
  refine tE.bind (rs.ext e1.toExt) r1 p1 fun dy h2 y H2 F2 ι2 e2 r2 q2 p2 => ?_
  cases e : op dx dy h2 with
  | none => simp only [e] at p2; exact p2.elim
  | some d =>
    simp only [e] at p2
    exact ⟨x, y, dx, dy, h2, F2, ι2, rfl, r2, q1.ext e2.toExt, q2, d, e, p2⟩
def opMin : Op2 := fun x y _ => match x, y with
  | .int i, .int j => some (.int (if j < i then j else i))
  | _, _ => none
def opMax : Op2 := fun x y _ => match x, y with
  | .int i, .int j => some (.int (if j > i then j else i))
  | _, _ => none
theorem cr_minD (bn : Bn X G W k) : CallR X (.builtin "min") (r2Of G opMin) := by
  intro pins s σ H xs us Q I r hq
  obtain ⟨x, y, dx, dy, h, F, ι, rfl, r0, qx, qy, d, e, q⟩ := hq
  unfold opMin at e
  split at e
  · cases e
    cases qx
    cases qy
    exact call_min2 bn.calm pins s σ H _ us Q I r ⟨_, _, rfl, q _ _ _ _ (Stp.refl _ _ _) r0 (.int _)⟩
  · cases e
theorem cr_maxD (bn : Bn X G W k) : CallR X (.builtin "max") (r2Of G opMax) := by
  intro pins s σ H xs us Q I r hq
  obtain ⟨x, y, dx, dy, h, F, ι, rfl, r0, qx, qy, d, e, q⟩ := hq
  unfold opMax at e
  split at e
  · cases e
    cases qx
    cases qy
    exact call_max2 bn.calm pins s σ H _ us Q I r ⟨_, _, rfl, q _ _ _ _ (Stp.refl _ _ _) r0 (.int _)⟩
  · cases e

/-! ### join -/
def strsD : List D → Option (List Str)
  | [] => some []
  | .str x :: l => (strsD l).map (x :: ·)
  | _ => none
theorem strs_at {l : List D} : ∀ {bs : List Str} {xs : List V}, strsD l = some bs → RelL G F ι l xs → xs = bs.map V.str := by
  induction l with
  | nil => intro bs xs e q; cases q; cases e; rfl
  | cons d l ih =>
    intro bs xs e q
    cases q with
    | cons q1 q2 =>
      cases d with
      | str b =>
        cases q1
        have e : (strsD l).map (b :: ·) = some bs := e
        cases e1 : strsD l with
        | none => rw [e1] at e; cases e
        | some cs =>
          rw [e1] at e
          cases e
          rw [ih e1 q2]
          rfl
      | _ => cases e
def opJoin : Op2 := fun x y h => match x with
  | .str a => (seqD y h).bind fun l => (strsD l).bind fun ys => if (ys.map (·.length)).sum + ys.length * a.length ≤ 16777216 then some (.str (Txt.join a ys)) else none
  | _ => none
theorem q_join (bn : Bn X G W k) {apos : Pos} (ha : QE X G W a fa) (hb : QE X G W b fb) (hstr : ∀ ρ h d h', fa ρ h = .ok d h' → ∃ z, d = .str z) (hs : starEach [b] X.env = [(false, eval b X.env)] := by rfl) (hbase : attributeBase a "join" X.env (eval a X.env) = eval a X.env := by rfl)
    (hline : (apos.endLine == pos.line) = true := by rfl) : QE X G W (.Call (.Attribute a "join" apos) [b] [] pos) (eOp opJoin fa fb) := by
  refine qe_of (pe_join ha hb hs hbase hline) fun σ H Q q => ?_
  obtain ⟨ρ, h, F, ι, rs, r0, p⟩ := q
  have hst := hstr ρ h
  unfold eOp at p
  refine ⟨ρ, h, F, ι, rs, r0, ?_⟩
  cases ef : fa ρ h with
  | no => rw [ef] at p; exact p.elim
  | er c h' => rw [ef] at p; exact p
  | ok dx h1 =>
    rw [ef] at p
    obtain ⟨z, rfl⟩ := hst _ _ ef
    intro x H1 F1 ι1 e1 r1 q1
    cases q1
    refine ⟨⟨z, rfl⟩, tE.bind (rs.ext e1.toExt) r1 (Pst.ext e1 p) fun dy h2 y H2 F2 ι2 e2 r2 q2 p2 => ?_⟩
    cases e : opJoin (.str z) dy h2 with
    | none => simp only [e] at p2; exact p2.elim
    | some d =>
      simp only [e] at p2
      have e : (seqD dy h2).bind (fun l => (strsD l).bind fun ys => if (ys.map (·.length)).sum + ys.length * z.length ≤ 16777216 then some (D.str (Txt.join z ys)) else none) = some d := e
      cases e3 : seqD dy h2 with
      | none => rw [e3] at e; cases e
      | some l =>
        rw [e3] at e
        have e : (strsD l).bind (fun ys => if (ys.map (·.length)).sum + ys.length * z.length ≤ 16777216 then some (D.str (Txt.join z ys)) else none) = some d := e
        cases e4 : strsD l with
        | none => rw [e4] at e; cases e
        | some ys =>
          rw [e4] at e
          have e : (if (ys.map (·.length)).sum + ys.length * z.length ≤ 16777216 then some (D.str (Txt.join z ys)) else none) = some d := e
          split at e
          · cases e
            obtain ⟨a, xs, rfl, h3, h4⟩ := seqD_at bn r2 e3 q2
            rw [strs_at e4 h4] at h3
            exact ⟨z, a, ys, rfl, rfl, h3, by assumption, Pst.okk p2 r2 (.str _)⟩
          · cases e
end
end U
/-! what a loop walks; loops, comprehensions, whiles -/
namespace U
open PySem PySem.Spec PyProof.Rows L2 RZ

/-! ### targets -/
inductive Tg where
  | nm (i : Nat) | tp (is : List Nat)
def setV : List Nat → List V → L2.St → L2.St
  | i :: is, x :: xs, σ => setV is xs (σ.set i (some x))
  | _, _, σ => σ
def setD : List Nat → List D → Rho → Rho
  | i :: is, x :: xs, ρ => setD is xs (ρ.set i (some x))
  | _, _, ρ => ρ
def Tg.set : Tg → D → Rho → Option Rho
  | .nm i, d, ρ => some (ρ.set i (some d))
  | .tp is, .tup ds, ρ => if ds.length = is.length then some (setD is ds ρ) else none
  | _, _, _ => none
def tgR (K : PySem.W.Frag) : Tg → TG
  | .nm i => gName i
  | .tp is => fun v σ H Q => ∃ a xs, v = .ref a ∧ SqT K H a xs ∧ xs.length = is.length ∧ Q (setV is xs σ) H
def QG (X : Cx) (G : Gn) (e : Expr) (t : Tg) : Prop := PG X e (tgR G.K t)
def gAll (is : List Nat) : TGs := fun vs σ H Q => vs.length = is.length ∧ Q (setV is vs σ) H
section
variable {X : Cx} {G : Gn} {W : WX} {k : Nat} {F : Hp} {ι : List Addr} {h : Hs} {H : Hp} {a b e : Expr} {fa fb : EV} {pos : Pos}
theorem qg_name (hN : X.N.Nodup) {i : Nat} {x : Str} (hi : X.N[i]? = some x := by rfl) (hx : Loc X.env.scope x := by first | exact Or.inl rfl | exact Or.inr rfl) (hf : X.fn x = true ∨ X.env.scope.names.lookup x = some .local := by first | exact .inl rfl | exact .inr rfl | assumption) : QG X G (.Name x pos) (.nm i) := pg_name hN hi hx hf
theorem pgs_all_nil : PGs X [] (gAll []) := ⟨fun pins s σ H vs us Q I r h => pgs_nil.run pins s σ H vs us Q I r ⟨List.eq_nil_of_length_eq_zero h.1, by
  have e : vs = [] := List.eq_nil_of_length_eq_zero h.1
  have q := h.2
  rw [e] at q
  exact q⟩⟩
theorem pgs_all_cons {es : List Expr} {is : List Nat} {i : Nat} (h1 : PG X e (gName i)) (h2 : PGs X es (gAll is)) (hs : (assignEach (e :: es) X.env).map (·.2) = assign e X.env :: (assignEach es X.env).map (·.2) := by rfl) : PGs X (e :: es) (gAll (i :: is)) := by
  have h := pgs_cons h1 h2 hs
  refine ⟨fun pins s σ H vs us Q I r q => h.run pins s σ H vs us Q I r ?_⟩
  obtain ⟨q1, q2⟩ := q
  cases vs with
  | nil => simp at q1
  | cons v vs => exact ⟨v, vs, rfl, by simpa using q1, q2⟩
theorem qg_tup (bn : Bn X G W k) {es : List Expr} {is : List Nat} {kk : Nat} (h : PGs X es (gAll is)) (hn : (assignEach es X.env).length = is.length := by rfl) (hst : (assignEach es X.env).findIdx? (·.1) = none := by rfl) : QG X G (.Tuple es kk pos) (.tp is) := by
  have q := pg_tup (pos := pos) (k := kk) bn.calm h hn hst
  refine ⟨fun pins s σ H v u Q I r w => q.run pins s σ H v u Q I r ?_⟩
  obtain ⟨a, xs, e1, e2, e3, e4⟩ := w
  exact ⟨a, xs, e1, by rw [bn.K]; exact e2, e3, e3, e4⟩
theorem RelS.setAll : ∀ {is : List Nat} {ds : List D} {xs : List V} {ρ : Rho} {σ : L2.St}, RelS G F ι ρ σ → RelL G F ι ds xs → RelS G F ι (setD is ds ρ) (setV is xs σ) := by
  intro is
  induction is with
  | nil => intro ds xs ρ σ r q; cases ds <;> cases xs <;> exact r
  | cons i is ih =>
    intro ds xs ρ σ r q
    cases q with
    | nil => exact r
    | cons q1 q2 => exact ih (r.set q1) q2
theorem tg_ok {t : Tg} {d : D} {x : V} {ρ ρ' : Rho} {σ : L2.St} {Q : L2.St → Hp → Prop} (e : t.set d ρ = some ρ') (q : Rel G F ι d x) (rs : RelS G F ι ρ σ) (r : Rs G F ι h H) (hk : ∀ σ', RelS G F ι ρ' σ' → Q σ' H) : tgR G.K t x σ H Q := by
  cases t with
  | nm i =>
    cases e
    exact hk _ (rs.set q)
  | tp is =>
    cases d with
    | tup ds =>
      have e : (if ds.length = is.length then some (setD is ds ρ) else none) = some ρ' := e
      split at e
      · cases e
        cases q with
        | tup h1 h2 =>
          refine ⟨_, _, rfl, r.sqT h1, ?_, hk _ (RelS.setAll rs h2)⟩
          rw [← h2.len]
          assumption
      · cases e
    | _ => cases e
/-- the slots that a target stores to -/
def Tg.ix : Tg → List Nat
  | .nm i => [i]
  | .tp is => is
theorem wipe_at {σ : L2.St} {j : Nat} : ∀ {vs : List Nat}, (wipe σ vs)[j]? = if j ∈ vs ∧ j < σ.length then some none else σ[j]? := by
  intro vs
  induction vs with
  | nil => simp [wipe]
  | cons v vs ih =>
    unfold wipe
    by_cases e : v = j
    · subst e
      by_cases hl : v < σ.length
      · rw [List.getElem?_set_self (by rw [wipe_length]; exact hl), if_pos ⟨by simp, hl⟩]
      · rw [List.getElem?_eq_none (by rw [List.length_set, wipe_length]; omega), if_neg (fun z => hl z.2), List.getElem?_eq_none (by omega)]
    · rw [List.getElem?_set_ne e, ih]
      have : (j ∈ v :: vs ∧ j < σ.length) ↔ (j ∈ vs ∧ j < σ.length) := by
        simp only [List.mem_cons]
        constructor
        · rintro ⟨h1 | h1, h2⟩
          · exact absurd h1.symm e
          · exact ⟨h1, h2⟩
        · rintro ⟨h1, h2⟩
          exact ⟨.inr h1, h2⟩
      simp only [this]
theorem setV_len : ∀ {is : List Nat} {xs : List V} {σ : L2.St}, (setV is xs σ).length = σ.length := by
  intro is
  induction is with
  | nil => intro xs σ; cases xs <;> rfl
  | cons i is ih => intro xs σ; cases xs with
    | nil => rfl
    | cons x xs => exact (ih (xs := xs)).trans (List.length_set ..)
theorem setV_out {j : Nat} : ∀ {is : List Nat} {xs : List V} {σ : L2.St}, j ∉ is → (setV is xs σ)[j]? = σ[j]? := by
  intro is
  induction is with
  | nil => intro xs σ _; cases xs <;> rfl
  | cons i is ih => intro xs σ h; cases xs with
    | nil => rfl
    | cons x xs =>
      simp only [List.mem_cons, not_or] at h
      exact (ih (xs := xs) h.2).trans (List.getElem?_set_ne (Ne.symm h.1))
theorem wipe_setV {vs is : List Nat} {xs : List V} {σ : L2.St} (hi : ∀ i ∈ is, i ∈ vs) : wipe (setV is xs (wipe σ vs)) vs = wipe σ vs := by
  apply List.ext_getElem?
  intro j
  rw [wipe_at, setV_len, wipe_length]
  by_cases hj : j ∈ vs ∧ j < σ.length
  · rw [if_pos hj, wipe_at, if_pos hj]
  · rw [if_neg hj]
    by_cases hm : j ∈ is
    · have hl : ¬ j < σ.length := fun z => hj ⟨hi j hm, z⟩
      rw [List.getElem?_eq_none (by rw [setV_len, wipe_length]; omega), wipe_at, if_neg hj, List.getElem?_eq_none (by omega)]
    · rw [setV_out hm]
theorem tg_okW {t : Tg} {d : D} {x : V} {ρ ρ' : Rho} {σ : L2.St} {vs : List Nat} {Q : L2.St → Hp → Prop} (hv : ∀ i ∈ t.ix, i ∈ vs) (e : t.set d ρ = some ρ') (q : Rel G F ι d x) (rs : RelS G F ι ρ (wipe σ vs)) (r : Rs G F ι h H)
    (hk : ∀ σ', RelS G F ι ρ' σ' → Q σ' H) : tgR G.K t x (wipe σ vs) H (fun σ2 H2 => wipe σ2 vs = wipe σ vs ∧ Q σ2 H2) := by
  cases t with
  | nm i =>
    cases e
    refine ⟨?_, hk _ (rs.set q)⟩
    exact wipe_setV (is := [i]) (xs := [x]) hv
  | tp is =>
    cases d with
    | tup ds =>
      have e : (if ds.length = is.length then some (setD is ds ρ) else none) = some ρ' := e
      split at e
      · cases e
        cases q with
        | tup h1 h2 =>
          refine ⟨_, _, rfl, r.sqT h1, ?_, wipe_setV hv, hk _ (RelS.setAll rs h2)⟩
          rw [← h2.len]
          assumption
      · cases e
    | _ => cases e

/-! ### sources -/
/-- what J walks are the items, as long as our state goes on -/
def Src (G : Gn) (F : Hp) (ι : List Addr) (H : Hp) (J : It) (items : List D) : Prop :=
  ∃ (G0 : Hp → Prop) (Y : Nat → Hp → V → Hp → Prop), Walk J items.length G0 Y ∧ (∀ F' ι' h' H', Stp F ι H F' ι' H' → Rs G F' ι' h' H' → G0 H') ∧
    ∀ (i : Nat) (d : D) (x : V) F' ι' h' H1 H2, items[i]? = some d → Stp F ι H F' ι' H1 → Rs G F' ι' h' H1 → Y i H1 x H2 → ∃ F'', Stp F' ι' H1 F'' ι' H2 ∧ Rs G F'' ι' h' H2 ∧ Rel G F'' ι' d x
def tIi (G : Gn) (W : WX) (f : AV) : TI := fun σ H R => ∃ ρ h F ι, RelS G F ι ρ σ ∧ Rs G F ι h H ∧ match f ρ h with
  | .ok items h' => ∀ J H' F' ι', Stp F ι H F' ι' H' → Rs G F' ι' h' H' → Src G F' ι' H' J items → R J H'
  | .er c h' => ∀ H' F' ι', Stp F ι H F' ι' H' → Rs G F' ι' h' H' → W (.ref (G.cl c)) none σ H'
  | .no => False
def QI (X : Cx) (G : Gn) (W : WX) (tg e : Expr) (f : AV) : Prop := PI X tg e (tIi G W f)
theorem PI.or {tg : Expr} {t u : TI} (h1 : PI X tg e t) (h2 : PI X tg e u) : PI X tg e (fun σ H R => t σ H R ∨ u σ H R) := ⟨fun pins s σ H R I q => q.elim (h1.run pins s σ H R I) (h2.run pins s σ H R I)⟩
def iSeq (fa : EV) : AV := fun ρ h => (fa ρ h).bind fun d h1 => match d with
  | .tup l => .ok l h1
  | .lst l => .ok l h1
  | .str z => .ok (z.cps.toList.map fun c => .str ⟨#[c]⟩) h1
  | _ => .no
theorem tE_er {f : EV} {σ : L2.St} {H : Hp} {Q : VK} {ρ : Rho} {h h' : Hs} {F : Hp} {ι : List Addr} {c : Nat} (rs : RelS G F ι ρ σ) (r0 : Rs G F ι h H) (e : f ρ h = .er c h') (p : ∀ H' F' ι', Stp F ι H F' ι' H' → Rs G F' ι' h' H' → W (.ref (G.cl c)) none σ H') : tE G W f σ H Q :=
  ⟨ρ, h, F, ι, rs, r0, by rw [e]; exact p⟩
theorem tE_ok {f : EV} {σ : L2.St} {H : Hp} {Q : VK} {ρ : Rho} {h h' : Hs} {F : Hp} {ι : List Addr} {d : D} (rs : RelS G F ι ρ σ) (r0 : Rs G F ι h H) (e : f ρ h = .ok d h') (p : ∀ v H' F' ι', Stp F ι H F' ι' H' → Rs G F' ι' h' H' → Rel G F' ι' d v → Q v H') : tE G W f σ H Q :=
  ⟨ρ, h, F, ι, rs, r0, by rw [e]; exact p⟩
theorem qi_seq (bn : Bn X G W k) {tg : Expr} (ha : QE X G W a fa) : QI X G W tg a (iSeq fa) := by
  have hp := PI.or (pi_tup (tg := tg) ha) (PI.or (pi_list (tg := tg) ha) (pi_str (tg := tg) ha))
  refine ⟨fun pins s σ H Rr I q => hp.run pins s σ H Rr I ?_⟩
  obtain ⟨ρ, h, F, ι, rs, r0, p⟩ := q
  unfold iSeq at p
  cases e : fa ρ h with
  | no => rw [e] at p; exact p.elim
  | er c h' =>
    rw [e] at p
    exact .inl (tE_er rs r0 e p)
  | ok d h' =>
    rw [e] at p
    cases d with
    | tup l =>
      refine .inl (tE_ok rs r0 e fun v H1 F1 ι1 e1 r1 q1 => ?_)
      cases q1 with
      | tup h1 h2 =>
        rename_i a xs
        refine ⟨a, rfl, ⟨xs, by rw [bn.K]; exact r1.sqT h1⟩, p _ H1 F1 ι1 e1 r1 ⟨_, _, by rw [h2.len]; exact walk_tup (xs := xs), fun F' ι' h' H' s r => by rw [bn.K]; exact r.sqT (sqT_ext s.fz h1), fun i d x F' ι' h' H2 H3 hi s r y => ?_⟩⟩
        obtain ⟨rfl, y⟩ := y
        obtain ⟨w, g1, g2⟩ := h2.get' hi
        rw [y] at g1
        cases g1
        exact ⟨F', Stp.refl _ _ _, r, g2.ext s.toExt⟩
    | lst l =>
      refine .inr (.inl (tE_ok rs r0 e fun v H1 F1 ι1 e1 r1 q1 => ?_))
      cases q1 with
      | lst h1 h2 =>
        rename_i a xs
        refine ⟨a, rfl, ⟨xs, by rw [bn.K]; exact r1.sqL h1⟩, p _ H1 F1 ι1 e1 r1 ⟨_, _, by rw [h2.len]; exact walk_list (xs := xs), fun F' ι' h' H' s r => by rw [bn.K]; exact r.sqL (sqL_ext s.fz h1), fun i d x F' ι' h' H2 H3 hi s r y => ?_⟩⟩
        obtain ⟨rfl, y⟩ := y
        obtain ⟨w, g1, g2⟩ := h2.get' hi
        rw [y] at g1
        cases g1
        exact ⟨F', Stp.refl _ _ _, r, g2.ext s.toExt⟩
    | str z =>
      refine .inr (.inr (tE_ok rs r0 e fun v H1 F1 ι1 e1 r1 q1 => ?_))
      cases q1
      refine ⟨z, rfl, p _ H1 F1 ι1 e1 r1 ⟨_, _, by rw [List.length_map, Array.length_toList]; exact walk_str (z := z), fun _ _ _ _ _ _ => True.intro, fun i d x F' ι' h' H2 H3 hi s r y => ?_⟩⟩
      obtain ⟨rfl, c, y1, rfl⟩ := y
      rw [List.getElem?_map, Array.getElem?_toList, y1] at hi
      cases hi
      exact ⟨F', Stp.refl _ _ _, r, .str _⟩
    | _ => exact p.elim
def iRange (fa : EV) : AV := fun ρ h => (fa ρ h).bind fun d h1 => match d with
  | .int j => if -(2 ^ 62) ≤ j ∧ j < 2 ^ 62 then .ok ((List.range j.toNat).map fun i => .int (i : Nat)) h1 else .no
  | _ => .no
theorem qi_range {tg : Expr} {p : Pos} (hm : X.mg "range" = none) (ha : QE X G W a fa) (hg : Gl X "range" := by rfl) (hs : starEach [a] X.env = [(false, eval a X.env)] := by rfl) : QI X G W tg (.Call (.Name "range" p) [a] [] pos) (iRange fa) := by
  have hp := pi_range1 (tg := tg) (p := p) (pos := pos) hg hm (pa_cons ha pa_nil hs) hs
  refine ⟨fun pins s σ H Rr I q => hp.run pins s σ H Rr I ?_⟩
  obtain ⟨ρ, h, F, ι, rs, r0, p⟩ := q
  unfold iRange at p
  cases e : fa ρ h with
  | no => rw [e] at p; exact p.elim
  | er c h' =>
    rw [e] at p
    exact tE_er rs r0 e p
  | ok d h' =>
    rw [e] at p
    refine tE_ok rs r0 e fun v H1 F1 ι1 e1 r1 q1 => ?_
    cases d with
    | int j =>
      cases q1
      have p : (match (if -(2 ^ 62) ≤ j ∧ j < 2 ^ 62 then R.ok ((List.range j.toNat).map fun i => D.int (i : Nat)) h' else .no : R (List D)) with
        | .ok items h' => ∀ J H' F' ι', Stp F ι H F' ι' H' → Rs G F' ι' h' H' → Src G F' ι' H' J items → Rr J H'
        | .er c h' => ∀ H' F' ι', Stp F ι H F' ι' H' → Rs G F' ι' h' H' → W (.ref (G.cl c)) none σ H'
        | .no => False) := p
      by_cases hj : -(2 ^ 62) ≤ j ∧ j < 2 ^ 62
      · rw [if_pos hj] at p
        refine ⟨j, rfl, hj.1, hj.2, p _ H1 F1 ι1 e1 r1 ⟨_, _, by rw [List.length_map, List.length_range]; exact walk_range (lo := 0), fun _ _ _ _ _ _ => True.intro, fun i d x F' ι' h' H2 H3 hi s r y => ?_⟩⟩
        obtain ⟨rfl, rfl⟩ := y
        rw [List.getElem?_map] at hi
        cases hr : (List.range j.toNat)[i]? with
        | none => rw [hr] at hi; cases hi
        | some m =>
          rw [hr] at hi
          cases hi
          have em : m = i := by
            have := List.getElem?_eq_some_iff.mp hr
            obtain ⟨h1, h2⟩ := this
            rw [List.getElem_range] at h2
            exact h2.symm
          subst em
          refine ⟨F', Stp.refl _ _ _, r, ?_⟩
          show Rel G F' ι' (.int (m : Nat)) (.int (0 + (m : Nat)))
          rw [Int.zero_add]
          exact .int _
      · rw [if_neg hj] at p
        exact p.elim
    | _ => exact p.elim
def iRange2 (fa fb : EV) : AV := fun ρ h => (fa ρ h).bind fun d h1 => (fb ρ h1).bind fun d2 h2 => match d, d2 with
  | .int i, .int j => if (-(2 ^ 62) ≤ i ∧ i < 2 ^ 62) ∧ -(2 ^ 62) ≤ j ∧ j < 2 ^ 62 then .ok ((List.range (j - i).toNat).map fun m => .int (i + (m : Nat))) h2 else .no
  | _, _ => .no
/-- new pairs -/
theorem src_pair {J : It} {n : Nat} {G0 : Hp → Prop} {f g : Nat → Option V} {items : List (D × D)} (w : Walk J items.length G0 (YPair f g)) (hG : ∀ F' ι' h' H', Stp F ι H F' ι' H' → Rs G F' ι' h' H' → G0 H')
    (hf : ∀ i d e, items[i]? = some (d, e) → ∀ x y, f i = some x → g i = some y → Rel G F ι d x ∧ Rel G F ι e y) : Src G F ι H J (items.map fun p => .tup [p.1, p.2]) := by
  refine ⟨G0, _, by rw [List.length_map]; exact w, hG, fun i d x F' ι' h' H1 H2 hi s r y => ?_⟩
  obtain ⟨T, x1, x2, rfl, nT, rfl, y1, y2⟩ := y
  rw [List.getElem?_map] at hi
  cases hr : items[i]? with
  | none => rw [hr] at hi; cases hi
  | some p =>
    rw [hr] at hi
    cases hi
    obtain ⟨g1, g2⟩ := hf i p.1 p.2 hr x1 x2 y1 y2
    obtain ⟨F'', e', r', q'⟩ := r.layTup nT (.cons (g1.ext s.toExt) (.cons (g2.ext s.toExt) .nil))
    exact ⟨F'', e', r', q'⟩
def iEnumD (fa : EV) : AV := fun ρ h => (fa ρ h).bind fun d h1 => match d with
  | .lst l => .ok ((l.zipIdx.map fun p => (D.int (p.2 : Nat), p.1)).map fun p => .tup [p.1, p.2]) h1
  | _ => .no
theorem qi_enum (bn : Bn X G W k) {p tpos : Pos} {elts : List Expr} {kk : Nat} (hm : X.mg "enumerate" = none) (ha : QE X G W a fa) (hg : Gl X "enumerate" := by rfl) (hs : starEach [a] X.env = [(false, eval a X.env)] := by rfl) :
    QI X G W (.Tuple elts kk tpos) (.Call (.Name "enumerate" p) [a] [] pos) (iEnumD fa) := by
  have hp := pi_enum (elts := elts) (kk := kk) (tpos := tpos) (p := p) (pos := pos) hg hm (pa_cons ha pa_nil hs) hs
  refine ⟨fun pins s σ H Rr I q => hp.run pins s σ H Rr I ?_⟩
  obtain ⟨ρ, h, F, ι, rs, r0, p⟩ := q
  unfold iEnumD at p
  cases e : fa ρ h with
  | no => rw [e] at p; exact p.elim
  | er c h' =>
    rw [e] at p
    exact tE_er rs r0 e p
  | ok d h' =>
    rw [e] at p
    refine tE_ok rs r0 e fun v H1 F1 ι1 e1 r1 q1 => ?_
    cases d with
    | lst l =>
      cases q1 with
      | lst g1 g2 =>
        rename_i a xs
        refine ⟨a, xs, rfl, by rw [bn.K]; exact r1.sqL g1, p _ H1 F1 ι1 e1 r1 (src_pair (n := 0) (by rw [List.length_map, List.length_zipIdx, g2.len]; exact walk_enum (xs := xs)) (fun F' ι' h' H' s r => by rw [bn.K]; exact r.sqL (sqL_ext s.fz g1)) fun i d e hi x y hx hy => ?_)⟩
        rw [List.getElem?_map, List.getElem?_zipIdx] at hi
        cases hl : l[i]? with
        | none => rw [hl] at hi; cases hi
        | some z =>
          rw [hl] at hi
          cases hi
          cases hx
          obtain ⟨w, k1, k2⟩ := g2.get' hl
          rw [hy] at k1
          cases k1
          rw [Nat.zero_add]
          exact ⟨.int _, k2⟩
    | _ => exact p.elim
def iZipD (fa fb : EV) : AV := fun ρ h => (fa ρ h).bind fun d h1 => (fb ρ h1).bind fun d2 h2 => match d, d2 with
  | .lst l, .lst m => .ok ((l.zip m).map fun p => .tup [p.1, p.2]) h2
  | .tup l, .tup m => .ok ((l.zip m).map fun p => .tup [p.1, p.2]) h2
  | _, _ => .no
theorem zip_rel {l m : List D} {xs ys : List V} (g2 : RelL G F ι l xs) (g4 : RelL G F ι m ys) : ∀ (i : Nat) (d e : D), (l.zip m)[i]? = some (d, e) → ∀ x y, xs[i]? = some x → ys[i]? = some y → Rel G F ι d x ∧ Rel G F ι e y := by
  intro i d e hi x y hx hy
  rw [List.getElem?_zip_eq_some] at hi
  obtain ⟨w, k1, k2⟩ := g2.get' hi.1
  obtain ⟨z, k3, k4⟩ := g4.get' hi.2
  rw [hx] at k1
  cases k1
  rw [hy] at k3
  cases k3
  exact ⟨k2, k4⟩
theorem walk_zipT {K : PySem.W.Frag} {a b : Addr} {xs ys : List V} {n : Nat} (hn : n = min xs.length ys.length) : Walk (ItzT K a b) n (fun H => SqT K H a xs ∧ SqT K H b ys) (YPair (fun i => xs[i]?) (fun i => ys[i]?)) := by
  subst hn
  refine ⟨fun i _ hi q => ?_, fun _ q => ⟨xs, ys, q.1, q.2, by omega⟩, fun i H v H' _ q y => ?_⟩
  · have h1 : i < xs.length := by omega
    have h2 : i < ys.length := by omega
    exact ⟨xs, ys, xs[i], ys[i], q.1, q.2, by simp [h1], by simp [h2]⟩
  · obtain ⟨T, x, z, h1, h2, h3, h4, h5⟩ := y
    exact ⟨T, x, z, h1, h2, h3, h4 xs q.1, h5 ys q.2⟩
theorem qi_zip (bn : Bn X G W k) {p tpos : Pos} {elts : List Expr} {kk : Nat} (hm : X.mg "zip" = none) (ha : QE X G W a fa) (hb : QE X G W b fb) (hg : Gl X "zip" := by rfl) (hs : starEach [a, b] X.env = (false, eval a X.env) :: starEach [b] X.env := by rfl)
    (hs2 : starEach [b] X.env = (false, eval b X.env) :: starEach [] X.env := by rfl) (hpl : (backTo pos (starEach [b] X.env)).any (·.1) = false := by rfl) : QI X G W (.Tuple elts kk tpos) (.Call (.Name "zip" p) [a, b] [] pos) (iZipD fa fb) := by
  have hp := pi_zipA (elts := elts) (kk := kk) (tpos := tpos) (p := p) (pos := pos) hg hm (pa_cons ha (pa_cons hb pa_nil hs2) hs) hs hpl
  refine ⟨fun pins s σ H Rr I q => hp.run pins s σ H Rr I ?_⟩
  obtain ⟨ρ, h, F, ι, rs, r0, p⟩ := q
  unfold iZipD at p
  cases e : fa ρ h with
  | no => rw [e] at p; exact p.elim
  | er c h' =>
    rw [e] at p
    exact tE_er rs r0 e p
  | ok d h' =>
    rw [e, R.bind_ok] at p
    refine tE_ok rs r0 e fun v H1 F1 ι1 e1 r1 q1 => ?_
    cases e2 : fb ρ h' with
    | no => rw [e2] at p; exact p.elim
    | er c h2 =>
      rw [e2] at p
      exact tE_er (rs.ext e1.toExt) r1 e2 fun H' F' ι' s r => p H' F' ι' (e1.trans s) r
    | ok d2 h2 =>
      rw [e2, R.bind_ok] at p
      refine tE_ok (rs.ext e1.toExt) r1 e2 fun v2 H2 F2 ι2 s2 r2 q2 => ?_
      have q1 := q1.ext s2.toExt
      cases d with
      | lst l =>
        cases d2 with
        | lst m =>
          cases q1 with
          | lst g1 g2 =>
            cases q2 with
            | lst g3 g4 =>
              rename_i a xs b ys
              refine ⟨a, b, xs, ys, rfl, .inl ⟨by rw [bn.K]; exact r2.sqL g1, by rw [bn.K]; exact r2.sqL g3, p _ H2 F2 ι2 (e1.trans s2) r2 (src_pair (n := 0) (walk_zip (xs := xs) (ys := ys) (by rw [List.length_zip, g2.len, g4.len])) (fun F' ι' h' H' s r => ⟨by rw [bn.K]; exact r.sqL (sqL_ext s.fz g1), by rw [bn.K]; exact r.sqL (sqL_ext s.fz g3)⟩) (zip_rel g2 g4))⟩⟩
        | _ => exact p.elim
      | tup l =>
        cases d2 with
        | tup m =>
          cases q1 with
          | tup g1 g2 =>
            cases q2 with
            | tup g3 g4 =>
              rename_i a xs b ys
              refine ⟨a, b, xs, ys, rfl, .inr ⟨by rw [bn.K]; exact r2.sqT g1, by rw [bn.K]; exact r2.sqT g3, p _ H2 F2 ι2 (e1.trans s2) r2 (src_pair (n := 0) (walk_zipT (xs := xs) (ys := ys) (by rw [List.length_zip, g2.len, g4.len])) (fun F' ι' h' H' s r => ⟨by rw [bn.K]; exact r.sqT (sqT_ext s.fz g1), by rw [bn.K]; exact r.sqT (sqT_ext s.fz g3)⟩) (zip_rel g2 g4))⟩⟩
        | _ => exact p.elim
      | _ => exact p.elim

/-! ### for -/
def forL (t : Tg) (s : SV) : List D → Rho → Hs → RS
  | [], ρ, h => .nx ρ h
  | d :: l, ρ, h => match t.set d ρ with
    | none => .no
    | some ρ1 => match s ρ1 h with
      | .nx ρ' h' => forL t s l ρ' h'
      | .ct ρ' h' => forL t s l ρ' h'
      | .bk ρ' h' => .nx ρ' h'
      | r => r
def sFor (fi : AV) (t : Tg) (s : SV) : SV := fun ρ h => match fi ρ h with
  | .ok items h' => forL t s items ρ h'
  | .er c h' => .er c ρ h'
  | .no => .no
theorem qs_for (bn : Bn X G W k) {tg iter : Expr} {body : List Stmt} {fi : AV} {t : Tg} {s : SV} (hi : QI X G W tg iter fi) (hg : QG X G tg t) (hb : QSs X G W body s) (hs : ∀ x, foldedSetIterable iter X.env x = pure x := by intro _; rfl) : QS X G W (.For tg iter body [] pos) (sFor fi t s) := by
  refine qs_of (ps_for bn.po bn.calm hi hg hb hs) fun Dn σ H q => ?_
  obtain ⟨ρ, h, F, ι, rs, r0, p⟩ := q
  unfold sFor at p
  refine ⟨ρ, h, F, ι, rs, r0, ?_⟩
  cases e : fi ρ h with
  | no => rw [e] at p; exact p.elim
  | er c h' =>
    rw [e] at p
    exact fun H' F' ι' s r => p σ H' F' ι' s (rs.ext s.toExt) r
  | ok items h' =>
    rw [e] at p
    intro J H1 F1 ι1 e1 r1 src
    obtain ⟨G0, Y, w, hG, hY⟩ := src
    refine for_it w (fun i σ2 H2 => ∃ ρ2 h2 F2 ι2, Stp F1 ι1 H1 F2 ι2 H2 ∧ RelS G F2 ι2 ρ2 σ2 ∧ Rs G F2 ι2 h2 H2 ∧ PsS G F2 ι2 H2 W (forL t s (items.drop i) ρ2 h2) Dn) ?_ ?_ ?_ ?_
    · exact ⟨ρ, h', F1, ι1, Stp.refl _ _ _, rs.ext e1.toExt, r1, PsS.ext e1 p⟩
    · rintro i σ2 H2 _ ⟨ρ2, h2, F2, ι2, s2, rs2, r2, _⟩
      exact hG _ _ _ _ s2 r2
    · rintro i x σ2 H2 H3 hi ⟨ρ2, h2, F2, ι2, s2, rs2, r2, p2⟩ hy
      have hd : items[i]? = some items[i] := List.getElem?_eq_getElem hi
      obtain ⟨F3, s3, r3, q3⟩ := hY i items[i] x F2 ι2 h2 H2 H3 hd s2 r2 hy
      rw [List.drop_eq_getElem_cons hi] at p2
      unfold forL at p2
      cases et : t.set items[i] ρ2 with
      | none => simp only [et] at p2; exact p2.elim
      | some ρ3 =>
        simp only [et] at p2
        refine tg_ok et q3 (rs2.ext s3.toExt) r3 fun σ3 rs3 => ⟨ρ3, h2, F3, ι2, rs3, r3, ?_⟩
        cases es : s ρ3 h2 with
        | nx ρ4 h4 =>
          simp only [es] at p2
          exact fun σ4 H4 F4 ι4 s4 rs4 r4 => ⟨ρ4, h4, F4, ι4, (s2.trans s3).trans s4, rs4, r4, PsS.ext (s3.trans s4) p2⟩
        | ct ρ4 h4 =>
          simp only [es] at p2
          exact fun σ4 H4 F4 ι4 s4 rs4 r4 => ⟨ρ4, h4, F4, ι4, (s2.trans s3).trans s4, rs4, r4, PsS.ext (s3.trans s4) p2⟩
        | bk ρ4 h4 =>
          simp only [es] at p2
          exact fun σ4 H4 F4 ι4 s4 rs4 r4 => p2 σ4 H4 F4 ι4 (s3.trans s4) rs4 r4
        | rt d4 h4 =>
          simp only [es] at p2
          exact fun v H4 F4 ι4 s4 r4 q4 => p2 v H4 F4 ι4 (s3.trans s4) r4 q4
        | er c ρ4 h4 =>
          simp only [es] at p2
          exact fun σ4 H4 F4 ι4 s4 rs4 r4 => p2 σ4 H4 F4 ι4 (s3.trans s4) rs4 r4
        | no => simp only [es] at p2; exact p2.elim
    · rintro σ2 H2 ⟨ρ2, h2, F2, ι2, s2, rs2, r2, p2⟩
      rw [List.drop_eq_nil_of_le (Nat.le_refl _)] at p2
      exact p2 σ2 H2 F2 ι2 (Stp.refl _ _ _) rs2 r2

/-! ### while: at most n turns -/
def whL (c : BV) (s : SV) : Nat → Rho → Hs → RS
  | 0, _, _ => .no
  | n + 1, ρ, h => match c ρ h with
    | .ok true h1 => match s ρ h1 with
      | .nx ρ' h' => whL c s n ρ' h'
      | .ct ρ' h' => whL c s n ρ' h'
      | .bk ρ' h' => .nx ρ' h'
      | r => r
    | .ok false h1 => .nx ρ h1
    | .er c h1 => .er c ρ h1
    | .no => .no
theorem qs_while (bn : Bn X G W k) (n : Nat) {c : Expr} {body : List Stmt} {g : BV} {s : SV} (hc : QT X G W c g) (hb : QSs X G W body s) : QS X G W (.While c body [] pos) (whL g s n) := by
  refine qs_of (ps_while bn.po hc hb) fun Dn σ H q => ?_
  obtain ⟨ρ, h, F, ι, rs, r0, p⟩ := q
  refine ⟨fun m σ2 H2 => ∃ ρ2 h2 F2 ι2, Stp F ι H F2 ι2 H2 ∧ RelS G F2 ι2 ρ2 σ2 ∧ Rs G F2 ι2 h2 H2 ∧ PsS G F2 ι2 H2 W (whL g s m ρ2 h2) Dn, ⟨n, ρ, h, F, ι, Stp.refl _ _ _, rs, r0, p⟩, ?_⟩
  rintro m σ2 H2 ⟨ρ2, h2, F2, ι2, s2, rs2, r2, p2⟩
  cases m with
  | zero => exact p2.elim
  | succ m =>
    unfold whL at p2
    refine ⟨ρ2, h2, F2, ι2, rs2, r2, ?_⟩
    cases e : g ρ2 h2 with
    | no => rw [e] at p2; exact p2.elim
    | er c h3 =>
      rw [e] at p2
      exact fun H' F' ι' s r => p2 σ2 H' F' ι' s (rs2.ext s.toExt) r
    | ok b h3 =>
      rw [e] at p2
      intro b' H3 F3 ι3 s3 r3 eb
      cases eb
      cases b with
      | false => exact p2 σ2 H3 F3 ι3 s3 (rs2.ext s3.toExt) r3
      | true =>
        refine ⟨fun σ4 H4 => ∃ ρ4 h4 F4 ι4, Stp F ι H F4 ι4 H4 ∧ RelS G F4 ι4 ρ4 σ4 ∧ Rs G F4 ι4 h4 H4 ∧ PsS G F4 ι4 H4 W (whL g s m ρ4 h4) Dn, fun σ4 H4 z => ⟨m, Nat.lt_succ_self m, z⟩, ρ2, h3, F3, ι3, rs2.ext s3.toExt, r3, ?_⟩
        cases es : s ρ2 h3 with
        | nx ρ4 h4 =>
          simp only [es] at p2
          exact fun σ4 H4 F4 ι4 s4 rs4 r4 => ⟨ρ4, h4, F4, ι4, (s2.trans s3).trans s4, rs4, r4, PsS.ext (s3.trans s4) p2⟩
        | ct ρ4 h4 =>
          simp only [es] at p2
          exact fun σ4 H4 F4 ι4 s4 rs4 r4 => ⟨ρ4, h4, F4, ι4, (s2.trans s3).trans s4, rs4, r4, PsS.ext (s3.trans s4) p2⟩
        | bk ρ4 h4 =>
          simp only [es] at p2
          exact fun σ4 H4 F4 ι4 s4 rs4 r4 => p2 σ4 H4 F4 ι4 (s3.trans s4) rs4 r4
        | rt d4 h4 =>
          simp only [es] at p2
          exact fun v H4 F4 ι4 s4 r4 q4 => p2 v H4 F4 ι4 (s3.trans s4) r4 q4
        | er c ρ4 h4 =>
          simp only [es] at p2
          exact fun σ4 H4 F4 ι4 s4 rs4 r4 => p2 σ4 H4 F4 ι4 (s3.trans s4) rs4 r4
        | no => simp only [es] at p2; exact p2.elim
end
end U
/-! list comprehensions of one clause -/
namespace U
open PySem PySem.Spec PyProof.Rows L2 RZ

def wipeD : List Nat → Rho → Rho
  | [], ρ => ρ
  | v :: vs, ρ => (wipeD vs ρ).set v none
theorem relS_wipe {G : Gn} {F : Hp} {ι : List Addr} {ρ : Rho} {σ : L2.St} (r : RelS G F ι ρ σ) : ∀ vs : List Nat, RelS G F ι (wipeD vs ρ) (wipe σ vs)
  | [] => r
  | v :: vs => (relS_wipe r vs).unset v

/-- the turns: each starts with the frame ρ, its own names unset -/
def lcL (t : Tg) (c : BV) (f : EV) (ρ : Rho) : List D → Hs → R (List D)
  | [], h => .ok [] h
  | d :: l, h => match t.set d ρ with
    | none => .no
    | some ρ1 => match c ρ1 h with
      | .ok true h1 => match f ρ1 h1 with
        | .ok y h2 => match lcL t c f ρ l h2 with
          | .ok ys h3 => .ok (y :: ys) h3
          | _ => .no
        | _ => .no
      | .ok false h1 => lcL t c f ρ l h1
      | _ => .no
def aLc (own : List Nat) (fi : AV) (t : Tg) (c : BV) (f : EV) : AV := fun ρ h => match fi ρ h with
  | .ok items h1 => match lcL t c f (wipeD own ρ) items h1 with
    | .ok ds h2 => if ds.length ≤ sizeLine then .ok ds h2 else .no
    | _ => .no
  | .er c h1 => .er c h1
  | .no => .no
/-- by value -/
def eLc (own : List Nat) (fi : AV) (t : Tg) (c : BV) (f : EV) : EV := fun ρ h => (aLc own fi t c f ρ h).bind fun ds h2 => .ok (.lst ds) h2
/-- a box -/
def eLcB (own : List Nat) (fi : AV) (t : Tg) (c : BV) (f : EV) : EV := fun ρ h => (aLc own fi t c f ρ h).bind fun ds h2 => .ok (.ref h2.length) (h2 ++ [.lst ds])
def bYes : BV := fun _ h => .ok true h

def QTs (X : Cx) (G : Gn) (W : WX) (ifs : List Expr) (c : BV) : Prop := PTs X ifs (tBb G W c)
abbrev W0 : WX := fun _ _ _ _ => False
theorem qts_nil {X : Cx} {G : Gn} {W : WX} : QTs X G W [] bYes := ⟨fun pins s σ H Q I ⟨ρ, h, F, ι, rs, r0, p⟩ => pts_nil.run pins s σ H Q I (Pst.okk p r0 rfl)⟩
theorem qts_one {X : Cx} {G : Gn} {W : WX} {e : Expr} {c : BV} (h : QT X G W e c) : QTs X G W [e] c := pts_one h

section
variable {G : Gn} {F F1 : Hp} {ι ι1 : List Addr} {h : Hs} {H H1 : Hp}
/-- something that is no concern of ours is written -/
theorem Rs.side (r : Rs G F ι h H) {p : Addr} {u : HO} (n : p ∉ ι) (nF : F p = none) : Rs G F ι h (upd H p u) := by
  refine ⟨fun a x q => rd_upd (r.fz a x q) (fun z => by rw [z, nF] at q; cases q), r.nf, r.sep, r.len, r.nd, fun i o q => ?_⟩
  obtain ⟨b, x, e1, e2, e3⟩ := r.obj i o q
  exact ⟨b, x, e1, by rw [upd_ne (fun z => n (by rw [← z]; exact List.mem_of_getElem? e1))]; exact e2, e3⟩
theorem Stp.side (s : Stp F ι H F1 ι1 H1) {p : Addr} {u : HO} (n : H p = none) : Stp F ι H F1 ι1 (upd H1 p u) :=
  ⟨s.toExt, s.fr, fun a x q m t => by rw [upd_ne (ne_of_none q n)]; exact s.kp a x q m t, fun a ps q m => by
    obtain ⟨qs, e⟩ := s.tb a ps q m
    exact ⟨qs, by rw [upd_ne (ne_of_none q n)]; exact e⟩, s.fx⟩
/-- it is fixed at last -/
theorem Rs.fixL (r : Rs G F ι h H) {p : Addr} {xs : List V} (n : p ∉ ι) (nF : F p = none) (e : H p = some (.lst xs)) : Rs G (upd F p (.lst xs)) ι h H ∧ Ext F ι (upd F p (.lst xs)) ι := by
  have ee : Ext F ι (upd F p (.lst xs)) ι := ⟨fun a x q => by rw [upd_ne (fun z => by rw [z, nF] at q; cases q)]; exact q, List.prefix_rfl⟩
  refine ⟨⟨fun a x q => ?_, fun a o x q => ?_, fun i a o m e2 e3 => ?_, r.len, r.nd, fun i o q => ?_⟩, ee⟩
  · by_cases z : a = p
    · subst z
      rw [upd_same] at q
      cases q
      exact .inl e
    · rw [upd_ne z] at q
      exact r.fz a x q
  · by_cases z : a = p
    · subst z
      rw [upd_same] at q
      cases q
    · rw [upd_ne z] at q
      exact r.nf a o x q
  · rw [upd_ne (fun z => n (by rw [← z]; exact List.mem_of_getElem? m))]
    exact r.sep i a o m e2 e3
  · obtain ⟨b, x, e1, e2, e3⟩ := r.obj i o q
    exact ⟨b, x, e1, e2, e3.ext ee⟩
theorem Stp.fixL (s : Stp F ι H F1 ι1 H1) {p : Addr} {xs : List V} (n : H p = none) (nF : F1 p = none) : Stp F ι H (upd F1 p (.lst xs)) ι1 H1 :=
  ⟨⟨fun a u q => by
    have q1 := s.fz a u q
    rw [upd_ne (fun z => by rw [z, nF] at q1; cases q1)]
    exact q1, s.bx⟩, s.fr, s.kp, s.tb, fun a u q z => by
    by_cases w : a = p
    · rw [w]
      exact .inr n
    · rw [upd_ne w] at q
      exact s.fx a u q z⟩
/-- a box of ours from now on -/
theorem Rs.boxL (r : Rs G F ι h H) {p : Addr} {xs : List V} {ds : List D} (n : p ∉ ι) (nF : F p = none) (e : H p = some (.lst xs)) (q : RelL G F ι ds xs) : Rs G F (ι ++ [p]) (h ++ [.lst ds]) H ∧ Ext F ι F (ι ++ [p]) := by
  have ee : Ext F ι F (ι ++ [p]) := ⟨fun _ _ h => h, List.prefix_append _ _⟩
  refine ⟨⟨r.fz, r.nf, fun i a o m e2 e3 => ?_, ?_, ?_, fun i o' q' => ?_⟩, ee⟩
  · by_cases hi : i < h.length
    · rw [List.getElem?_append_left hi] at e2
      rw [List.getElem?_append_left (by rw [r.len]; exact hi)] at m
      exact r.sep i a o m e2 e3
    · rw [List.getElem?_append_right (by rw [r.len]; omega)] at m
      have z : a = p := by
        have := List.mem_of_getElem? m
        simpa using this
      rw [z]
      exact nF
  · rw [List.length_append, List.length_append, r.len]
    rfl
  · exact List.nodup_append.mpr ⟨r.nd, by simp, fun a ha b hb z => by
      have : b = p := by simpa using hb
      rw [z, this] at ha
      exact n ha⟩
  · by_cases hi : i < h.length
    · rw [List.getElem?_append_left hi] at q'
      obtain ⟨b, x, e1, e2, e3⟩ := r.obj i o' q'
      exact ⟨b, x, ee.at_ e1, e2, e3.ext ee⟩
    · rw [List.getElem?_append_right (by omega)] at q'
      have hz : i - h.length = 0 := by
        have := (List.getElem?_eq_some_iff.mp q').1
        simp at this
        omega
      rw [hz] at q'
      have q' : Ob.lst ds = o' := by simpa using q'
      subst q'
      refine ⟨p, _, ?_, e, RelL.ext ee q⟩
      rw [List.getElem?_append_right (by rw [r.len]; omega), r.len, hz]
      rfl
theorem Stp.boxL (s : Stp F ι H F1 ι1 H1) {p : Addr} (n : H p = none) : Stp F ι H F1 (ι1 ++ [p]) H1 :=
  ⟨⟨s.fz, s.bx.trans (List.prefix_append _ _)⟩, fun a m z => by
    rcases List.mem_append.mp m with m | m
    · exact s.fr a m z
    · have : a = p := by simpa using m
      rw [this]
      exact n, s.kp, s.tb, s.fx⟩

/-- the loop of a comprehension: what stands at D when it is done -/
theorem lc_run {t : Tg} {c : BV} {f : EV} {own : List Nat} {ρ : Rho} {σ : L2.St} {items : List D} {J : It} {D' : Addr} {DS : List D} {hE : Hs} {Qd : Hp → Prop} (hv : ∀ i ∈ t.ix, i ∈ own) (rs : RelS G F ι ρ σ) (r : Rs G F ι h H) (nD : H D' = none) (src : Src G F ι H J items)
    (e : lcL t c f (wipeD own ρ) items h = .ok DS hE) (hl : DS.length ≤ sizeLine)
    (hd : ∀ F2 ι2 H2 xs, Stp F ι H F2 ι2 H2 → Rs G F2 ι2 hE H2 → H2 D' = some (.lst xs) → D' ∉ ι2 → F2 D' = none → RelL G F2 ι2 DS xs → Qd H2) :
    ∃ W : Nat → Nat → Hp → Prop, (∃ m, W 0 m (upd H D' (.lst []))) ∧ ∀ i m H, W i m H →
  (J.stop i H ∧ Qd H) ∨ (J.go i H ∧ ∃ Nx : Hp → Prop, (∀ H', Nx H' → ∃ m', m' < m ∧ W (i + 1) m' H') ∧ ∀ x H', J.yld i H x H' → tgR G.K t x (wipe σ own) H' fun σ2 H2 => wipe σ2 own = wipe σ own ∧ tBb G W0 c σ2 H2 fun b H3 =>
    if b = true then tE G W0 f σ2 H3 fun y H4 => ∃ acc, H4 D' = some (.lst acc) ∧ acc.length < sizeLine ∧ Nx (upd H4 D' (.lst (acc ++ [y]))) else Nx H3) := by
  obtain ⟨G0, Y, w, hG, hY⟩ := src
  have nDι : D' ∉ ι := fun m => r.inbox m nD
  have nDF : F D' = none := by
    cases z : F D' with
    | none => rfl
    | some u => exact absurd nD (rd_some (r.fz _ _ z))
  refine ⟨fun i m H' => m = items.length - i ∧ i ≤ items.length ∧ ∃ h2 F2 ι2 acc dacc ys, Stp F ι H F2 ι2 H' ∧ Rs G F2 ι2 h2 H' ∧ H' D' = some (.lst acc) ∧ D' ∉ ι2 ∧ F2 D' = none ∧ RelL G F2 ι2 dacc acc ∧ lcL t c f (wipeD own ρ) (items.drop i) h2 = .ok ys hE ∧ dacc ++ ys = DS,
    ⟨items.length, by simp, Nat.zero_le _, h, F, ι, [], [], DS, (Stp.refl F ι H).side nD, r.side nDι nDF, upd_same, nDι, nDF, .nil, e, rfl⟩, ?_⟩
  rintro i m H' ⟨rfl, hi, h2, F2, ι2, acc, dacc, ys, s2, r2, g1, g2, g3, g4, g5, g6⟩
  by_cases hlt : i < items.length
  · refine .inr ⟨w.goes i H' hlt (hG _ _ _ _ s2 r2), fun H3 => i + 1 ≤ items.length ∧ ∃ h2 F2 ι2 acc dacc ys, Stp F ι H F2 ι2 H3 ∧ Rs G F2 ι2 h2 H3 ∧ H3 D' = some (.lst acc) ∧ D' ∉ ι2 ∧ F2 D' = none ∧ RelL G F2 ι2 dacc acc ∧ lcL t c f (wipeD own ρ) (items.drop (i + 1)) h2 = .ok ys hE ∧ dacc ++ ys = DS,
      fun H3 z => ⟨items.length - (i + 1), by omega, rfl, z.1, z.2⟩, fun x H3 hy => ?_⟩
    have hdd : items[i]? = some items[i] := List.getElem?_eq_getElem hlt
    obtain ⟨F3, s3, r3, q3⟩ := hY i items[i] x F2 ι2 h2 H' H3 hdd s2 r2 (w.yields i H' x H3 hlt (hG _ _ _ _ s2 r2) hy)
    rw [List.drop_eq_getElem_cons hlt] at g5
    unfold lcL at g5
    -- D' goes on
    have kD : ∀ {Fa Fb : Hp} {ιa ιb : List Addr} {Ha Hb : Hp} {acc : List V}, Stp Fa ιa Ha Fb ιb Hb → Ha D' = some (.lst acc) → D' ∉ ιa → Fa D' = none → Hb D' = some (.lst acc) ∧ D' ∉ ιb ∧ Fb D' = none := fun {Fa Fb ιa ιb Ha Hb acc} s a b z => by
      refine ⟨s.kp _ _ a b (fun _ z => nomatch z), fun m => ?_, ?_⟩
      · have := s.fr _ m b
        rw [a] at this
        cases this
      · cases q : Fb D' with
        | none => rfl
        | some u =>
          rcases s.fx _ _ q z with z | z
          · exact absurd z b
          · rw [a] at z
            cases z
    obtain ⟨a1, a2, a3⟩ := kD s3 g1 g2 g3
    cases et : t.set items[i] (wipeD own ρ) with
    | none => rw [et] at g5; cases g5
    | some ρ3 =>
      simp only [et] at g5
      refine tg_okW hv et q3 (relS_wipe (rs.ext (s2.trans s3).toExt) own) r3 fun σ3 rs3 => ⟨ρ3, h2, F3, ι2, rs3, r3, ?_⟩
      cases ec : c ρ3 h2 with
      | no => rw [ec] at g5; cases g5
      | er _ _ => rw [ec] at g5; cases g5
      | ok b h4 =>
        intro b' H4 F4 ι4 s4 r4 eb
        cases eb
        obtain ⟨b1, b2, b3⟩ := kD s4 a1 a2 a3
        cases b with
        | false =>
          simp only [ec] at g5
          exact ⟨hlt, h4, F4, ι4, acc, dacc, ys, (s2.trans s3).trans s4, r4, b1, b2, b3, RelL.ext (s3.trans s4).toExt g4, g5, g6⟩
        | true =>
          simp only [ec] at g5
          refine ⟨ρ3, h4, F4, ι4, rs3.ext s4.toExt, r4, ?_⟩
          cases ef : f ρ3 h4 with
          | no => rw [ef] at g5; cases g5
          | er _ _ => rw [ef] at g5; cases g5
          | ok y h5 =>
            simp only [ef] at g5
            intro v H5 F5 ι5 s5 r5 q5
            obtain ⟨c1, c2, c3⟩ := kD s5 b1 b2 b3
            cases el : lcL t c f (wipeD own ρ) (items.drop (i + 1)) h5 with
            | no => rw [el] at g5; cases g5
            | er _ _ => rw [el] at g5; cases g5
            | ok zs h6 =>
              simp only [el] at g5
              cases g5
              have hacc : acc.length = dacc.length := g4.len.symm
              refine ⟨acc, c1, ?_, hlt, h5, F5, ι5, acc ++ [v], dacc ++ [y], zs, ?_, r5.side c2 c3, upd_same, c2, c3, RelL.app (.cons q5 .nil) (RelL.ext ((s3.trans s4).trans s5).toExt g4), el, ?_⟩
              · have := congrArg List.length g6
                simp at this
                omega
              · exact (((s2.trans s3).trans s4).trans s5).side nD
              · rw [List.append_assoc]
                exact g6
  · have e0 : i = items.length := by omega
    subst e0
    rw [List.drop_eq_nil_of_le (Nat.le_refl _)] at g5
    cases g5
    rw [List.append_nil] at g6
    subst g6
    exact .inl ⟨w.stops H' (hG _ _ _ _ s2 r2), hd F2 ι2 H' acc s2 r2 g1 g2 g3 g4⟩
end

section
variable {X : Cx} {G : Gn} {W : WX} {k : Nat} {pos : Pos} {elt tg iter : Expr} {ifs : List Expr} {scope : Scope} {own : List (Str × Nat)} {fi : AV} {t : Tg} {c : BV} {f : EV}
theorem bn_blk (bn : Bn X G W k) {s : Shared} {H : Hp} {cenv : Env} {fp : List Addr} : Bn (X.blk s H scope cenv fp) G W0 k where
  K := bn.K
  w := bn.w
  calm := bn.calm
  nd := bn.nd
  tk := fun _ _ ⟨_, _, _, _, _, _, _, _, _, _, _, _, _, _, _, _, w⟩ => w.elim
  hr := bn.hr
  po := PassesOwn.never
theorem tLc_of {σ : L2.St} {H : Hp} {Q : VK} (hv : ∀ i ∈ t.ix, i ∈ own.map (·.2)) (kf : List D → Hs → R D)
    (hk : ∀ F ι H F2 ι2 hE H2 D' xs DS, H D' = none → Stp F ι H F2 ι2 H2 → Rs G F2 ι2 hE H2 → H2 D' = some (.lst xs) → D' ∉ ι2 → F2 D' = none → RelL G F2 ι2 DS xs → Pst G F ι H (Rel G) (fun c H' => W (.ref (G.cl c)) none σ H') (kf DS hE) Q → Q (.ref D') H2)
    (q : tE G W (fun ρ h => (aLc (own.map (·.2)) fi t c f ρ h).bind kf) σ H Q) : tLc (tIi G W fi) (tgR G.K t) (tBb G W0 c) (tE G W0 f) (own.map (·.2)) σ H Q := by
  obtain ⟨ρ, h, F, ι, rs, r0, p⟩ := q
  refine ⟨ρ, h, F, ι, rs, r0, ?_⟩
  unfold aLc at p
  cases e : fi ρ h with
  | no => simp only [e] at p; exact p.elim
  | er c h' => simp only [e] at p; exact p
  | ok items h1 =>
    simp only [e] at p
    intro J H1 F1 ι1 s1 r1 src D' nD
    cases el : lcL t c f (wipeD (own.map (·.2)) ρ) items h1 with
    | no => simp only [el] at p; exact p.elim
    | er _ _ => simp only [el] at p; exact p.elim
    | ok ds h2 =>
      simp only [el] at p
      by_cases hl : ds.length ≤ sizeLine
      · simp only [if_pos hl] at p
        exact lc_run hv (rs.ext s1.toExt) r1 nD src el hl fun F2 ι2 H2 xs s2 r2 g1 g2 g3 g4 => hk F1 ι1 H1 F2 ι2 h2 H2 D' xs ds nD s2 r2 g1 g2 g3 g4 (Pst.ext s1 p)
      · simp only [if_neg hl] at p
        exact p.elim
theorem tLc_val {σ : L2.St} {H : Hp} {Q : VK} (hv : ∀ i ∈ t.ix, i ∈ own.map (·.2)) (q : tE G W (eLc (own.map (·.2)) fi t c f) σ H Q) : tLc (tIi G W fi) (tgR G.K t) (tBb G W0 c) (tE G W0 f) (own.map (·.2)) σ H Q := by
  refine tLc_of hv (fun ds h2 => .ok (.lst ds) h2) (fun F ι H F2 ι2 hE H2 D' xs DS nD s2 r2 g1 g2 g3 g4 p => ?_) q
  obtain ⟨r3, e3⟩ := r2.fixL g2 g3 g1
  exact p _ H2 _ ι2 (s2.fixL nD g3) r3 (.lst (.inl (.inl upd_same)) (RelL.ext e3 g4))
theorem tLc_box {σ : L2.St} {H : Hp} {Q : VK} (hv : ∀ i ∈ t.ix, i ∈ own.map (·.2)) (q : tE G W (eLcB (own.map (·.2)) fi t c f) σ H Q) : tLc (tIi G W fi) (tgR G.K t) (tBb G W0 c) (tE G W0 f) (own.map (·.2)) σ H Q := by
  refine tLc_of hv (fun ds h2 => .ok (.ref h2.length) (h2 ++ [Ob.lst ds])) (fun F ι H F2 ι2 hE H2 D' xs DS nD s2 r2 g1 g2 g3 g4 p => ?_) q
  obtain ⟨r3, e3⟩ := r2.boxL g2 g3 g1 g4
  refine p _ H2 _ _ (s2.boxL nD) r3 (.ref ?_)
  rw [← r2.len, List.getElem?_append_right (Nat.le_refl _), Nat.sub_self]
  rfl
theorem q_lc (bn : Bn X G W k) (hi : QI X G W tg iter fi) (own : List (Str × Nat)) (hg : ∀ s H C cl fp, QG (X.blk s H scope (compEnvC scope cl C X.env) fp) G tg t) (ht : ∀ s H C cl fp, Bn (X.blk s H scope (compEnvC scope cl C X.env) fp) G W0 k → QTs (X.blk s H scope (compEnvC scope cl C X.env) fp) G W0 ifs c)
    (he : ∀ s H C cl fp, Bn (X.blk s H scope (compEnvC scope cl C X.env) fp) G W0 k → QE (X.blk s H scope (compEnvC scope cl C X.env) fp) G W0 elt f) (ok : BlkOk X.N X.env.scope scope own := by exact blkOk_by (by rfl)) (hv : ∀ i ∈ t.ix, i ∈ own.map (·.2) := by decide) (hs : ∀ x, foldedSetIterable iter X.env x = pure x := by intro _; rfl) :
    QE X G W (.ListComp elt [⟨tg, iter, ifs, 0⟩] scope pos) (eLc (own.map (·.2)) fi t c f) :=
  qe_of (pe_lc bn.calm bn.nd hi ok hg (fun s H C cl fp => ht s H C cl fp (bn_blk bn)) (fun s H C cl fp => he s H C cl fp (bn_blk bn)) hs) fun σ H Q q => tLc_val hv q
theorem q_lcB (bn : Bn X G W k) (hi : QI X G W tg iter fi) (own : List (Str × Nat)) (hg : ∀ s H C cl fp, QG (X.blk s H scope (compEnvC scope cl C X.env) fp) G tg t) (ht : ∀ s H C cl fp, Bn (X.blk s H scope (compEnvC scope cl C X.env) fp) G W0 k → QTs (X.blk s H scope (compEnvC scope cl C X.env) fp) G W0 ifs c)
    (he : ∀ s H C cl fp, Bn (X.blk s H scope (compEnvC scope cl C X.env) fp) G W0 k → QE (X.blk s H scope (compEnvC scope cl C X.env) fp) G W0 elt f) (ok : BlkOk X.N X.env.scope scope own := by exact blkOk_by (by rfl)) (hv : ∀ i ∈ t.ix, i ∈ own.map (·.2) := by decide) (hs : ∀ x, foldedSetIterable iter X.env x = pure x := by intro _; rfl) :
    QE X G W (.ListComp elt [⟨tg, iter, ifs, 0⟩] scope pos) (eLcB (own.map (·.2)) fi t c f) :=
  qe_of (pe_lc bn.calm bn.nd hi ok hg (fun s H C cl fp => ht s H C cl fp (bn_blk bn)) (fun s H C cl fp => he s H C cl fp (bn_blk bn)) hs) fun σ H Q q => tLc_box hv q
/-- name = [..] -/
theorem tAsg_of {te : TE} {i : Nat} {f' : EV} {Dn : Ends} {σ : L2.St} {H : Hp} (ht : ∀ σ H Q, tE G W f' σ H Q → te σ H Q) (q : tSs G W (sSet i f') Dn σ H) : te σ H (fun x H1 => gName i x σ H1 Dn.nx) := by
  obtain ⟨ρ, h, F, ι, rs, r0, p⟩ := q
  exact ht _ _ _ (tSs.bind rs r0 p fun d h1 v H1 F1 ι1 e1 r1 q1 p1 => p1 _ H1 F1 ι1 (Stp.refl _ _ _) ((rs.ext e1.toExt).set q1) r1)
theorem qs_setLc (bn : Bn X G W k) {i : Nat} {y : Str} {py spos : Pos} (hi : QI X G W tg iter fi) (own : List (Str × Nat)) (hg : ∀ s H C cl fp, QG (X.blk s H scope (compEnvC scope cl C X.env) fp) G tg t) (ht : ∀ s H C cl fp, Bn (X.blk s H scope (compEnvC scope cl C X.env) fp) G W0 k → QTs (X.blk s H scope (compEnvC scope cl C X.env) fp) G W0 ifs c)
    (he : ∀ s H C cl fp, Bn (X.blk s H scope (compEnvC scope cl C X.env) fp) G W0 k → QE (X.blk s H scope (compEnvC scope cl C X.env) fp) G W0 elt f) (ok : BlkOk X.N X.env.scope scope own := by exact blkOk_by (by rfl)) (hv : ∀ i ∈ t.ix, i ∈ own.map (·.2) := by decide) (hs : ∀ x, foldedSetIterable iter X.env x = pure x := by intro _; rfl)
    (hy : X.N[i]? = some y := by rfl) (hyl : X.env.scope.names.lookup y = some .local := by rfl) (hk : X.env.scope.kind = .function := by rfl) (hl : (py.line == pos.line) = true := by rfl) (ha : (scope.names.any fun (n, k) => n == y && (k == .local || k == .cell)) = false := by rfl) :
    QS X G W (.Assign [.Name y py] (.ListComp elt [⟨tg, iter, ifs, 0⟩] scope pos) spos) (sSet i (eLc (own.map (·.2)) fi t c f)) :=
  qs_of (ps_setLc bn.calm bn.nd hy hyl (sw_true hk hyl hl ha) hi ok hg (fun s H C cl fp => ht s H C cl fp (bn_blk bn)) (fun s H C cl fp => he s H C cl fp (bn_blk bn)) hs) fun Dn σ H q => tAsg_of (fun σ H Q q => tLc_val hv q) q
theorem qs_setLcB (bn : Bn X G W k) {i : Nat} {y : Str} {py spos : Pos} (hi : QI X G W tg iter fi) (own : List (Str × Nat)) (hg : ∀ s H C cl fp, QG (X.blk s H scope (compEnvC scope cl C X.env) fp) G tg t) (ht : ∀ s H C cl fp, Bn (X.blk s H scope (compEnvC scope cl C X.env) fp) G W0 k → QTs (X.blk s H scope (compEnvC scope cl C X.env) fp) G W0 ifs c)
    (he : ∀ s H C cl fp, Bn (X.blk s H scope (compEnvC scope cl C X.env) fp) G W0 k → QE (X.blk s H scope (compEnvC scope cl C X.env) fp) G W0 elt f) (ok : BlkOk X.N X.env.scope scope own := by exact blkOk_by (by rfl)) (hv : ∀ i ∈ t.ix, i ∈ own.map (·.2) := by decide) (hs : ∀ x, foldedSetIterable iter X.env x = pure x := by intro _; rfl)
    (hy : X.N[i]? = some y := by rfl) (hyl : X.env.scope.names.lookup y = some .local := by rfl) (hk : X.env.scope.kind = .function := by rfl) (hl : (py.line == pos.line) = true := by rfl) (ha : (scope.names.any fun (n, k) => n == y && (k == .local || k == .cell)) = false := by rfl) :
    QS X G W (.Assign [.Name y py] (.ListComp elt [⟨tg, iter, ifs, 0⟩] scope pos) spos) (sSet i (eLcB (own.map (·.2)) fi t c f)) :=
  qs_of (ps_setLc bn.calm bn.nd hy hyl (sw_true hk hyl hl ha) hi ok hg (fun s H C cl fp => ht s H C cl fp (bn_blk bn)) (fun s H C cl fp => he s H C cl fp (bn_blk bn)) hs) fun Dn σ H q => tAsg_of (fun σ H Q q => tLc_box hv q) q
end
end U
/-! defs: a body over data is a map of data; calls -/
namespace U
open PySem PySem.Spec PyProof.Rows L2 RZ

section
variable {G : Gn} {F : Hp} {ι : List Addr}
theorem ix_lt {i : Nat} {a : Addr} (h : ι[i]? = some a) : decide (i < ι.length) = true := decide_eq_true (List.getElem?_eq_some_iff.mp h).1
mutual
theorem Rel.okD : ∀ {d : D} {v : V}, Rel G F ι d v → okD ι.length d = true
  | _, _, .non => by simp [U.okD]
  | _, _, .bl _ => by simp [U.okD]
  | _, _, .int _ => by simp [U.okD]
  | _, _, .str _ => by simp [U.okD]
  | _, _, .ty _ => by simp [U.okD]
  | _, _, .tup _ r => by simpa [U.okD] using RelL.okL r
  | _, _, .lst _ r => by simpa [U.okD] using RelL.okL r
  | _, _, .dic _ r => by simpa [U.okD] using RelK.okK r
  | _, _, .dit _ r => by simpa [U.okD] using RelT.okT r
  | _, _, .ref h => by simpa [U.okD] using ix_lt h
  | _, _, .fn _ => by simp [U.okD]
theorem RelL.okL : ∀ {l : List D} {xs : List V}, RelL G F ι l xs → U.okL ι.length l = true
  | _, _, .nil => by simp [U.okL]
  | _, _, .cons h r => by simp [U.okL, Rel.okD h, RelL.okL r]
theorem RelK.okK : ∀ {l : List (Key × D)} {xs : List (Key × V)}, RelK G F ι l xs → U.okK ι.length l = true
  | _, _, .nil => by simp [U.okK]
  | _, _, .cons h r => by simp [U.okK, Rel.okD h, RelK.okK r]
theorem RelT.okT : ∀ {l : List (List Key × D)} {xs : List (List Key × V)}, RelT G F ι l xs → U.okT ι.length l = true
  | _, _, .nil => by simp [U.okT]
  | _, _, .cons h r => by simp [U.okT, Rel.okD h, RelT.okT r]
end
theorem RelF.okF {l : List (Str × D)} : ∀ {xs : List (Str × V)}, RelF G F ι l xs → U.okF ι.length l = true := by
  induction l with
  | nil => intro xs h; simp [U.okF]
  | cons p q ih => intro xs h; cases h with | cons h t => simp [U.okF, Rel.okD h, ih t]
theorem RelO.okO {o : Ob} {u : HO} (h : RelO G F ι o u) : U.okO ι.length o = true := by
  cases o <;> cases u <;> first
    | exact (show False from h).elim
    | rfl
    | exact RelL.okL h
    | exact RelK.okK h
    | exact RelT.okT h
    | exact RelF.okF h.2
end

/-- a call's own boxes are forgotten at its end -/
theorem Rs.cut {G : Gn} {F F' H H' : Hp} {ι ι' : List Addr} {h h' : Hs} (r0 : Rs G F ι h H) (s : Stp F ι H F' ι' H') (r : Rs G F' ι' h' H') (c : chk h.length h h' = true) :
    Stp F ι H F' ι H' ∧ Rs G F' ι (h'.take h.length) H' ∧ ι'.take h.length = ι := by
  have e : ι'.take h.length = ι := by
    rw [← r0.len]
    exact (List.prefix_iff_eq_take.mp s.bx).symm
  have hl := chk_len c
  have at' : ∀ {i : Nat} {a : Addr}, ι[i]? = some a → ι'[i]? = some a := fun h => s.toExt.at_ h
  refine ⟨s.cut (by rw [r0.len]; exact e), ⟨r.fz, r.nf, fun i a o m e2 e3 => ?_, by rw [List.length_take, r0.len]; omega, r0.nd, fun i o q => ?_⟩, e⟩
  · have hi : i < h.length := by
      rw [← r0.len]
      exact (List.getElem?_eq_some_iff.mp m).1
    rw [List.getElem?_take_of_lt hi] at e2
    exact r.sep i a o (at' m) e2 e3
  · have hi : i < h.length := by
      have := (List.getElem?_eq_some_iff.mp q).1
      rw [List.length_take] at this
      omega
    rw [List.getElem?_take_of_lt hi] at q
    obtain ⟨a, u, g1, g2, g3⟩ := r.obj i o q
    have hz : i < ι.length := by rw [r0.len]; exact hi
    have g4 : ι[i]? = some ι[i] := List.getElem?_eq_getElem hz
    have g5 := at' g4
    rw [g1] at g5
    cases g5
    refine ⟨_, u, g4, g2, ?_⟩
    have ok : okO h.length o = true := by
      rcases chk_at c hi q with z | z
      · obtain ⟨b, x, _, _, z3⟩ := r0.obj i o z
        rw [← r0.len]
        exact RelO.okO z3
      · exact z
    have := RelO.cut ok g3
    rw [e] at this
    exact this

/-- a call's end: its own boxes are kept, or forgotten -/
def fin (keep : Bool) (h : Hs) (d : D) (h' : Hs) : R D := if keep = true then .ok d h' else if (okD h.length d && chk h.length h h') = true then .ok d (h'.take h.length) else .no
def finE (keep : Bool) (h : Hs) (c : Nat) (h' : Hs) : R D := if keep = true then .er c h' else if chk h.length h h' = true then .er c (h'.take h.length) else .no
def runD (np n : Nat) (keep : Bool) (b : SV) (ds : List D) (h : Hs) : R D :=
  if ds.length = np then match b (ds.map some ++ List.replicate (n - ds.length) none) h with
    | .nx _ h' => fin keep h .non h'
    | .rt d h' => fin keep h d h'
    | .er c _ h' => finE keep h c h'
    | _ => .no
  else .no
abbrev DF := List D → Hs → R D
def spD (G : Gn) (m : DF) : Sp := fun vs H Q E => ∃ ds h F ι, RelL G F ι ds vs ∧ Rs G F ι h H ∧ Pst G F ι H (Rel G) (fun c H' => E (.ref (G.cl c)) none H') (m ds h) Q
/-- m takes n things -/
def Ar (m : DF) (n : Nat) : Prop := ∀ ds h, ds.length ≠ n → m ds h = .no
theorem ar_run {np n : Nat} {keep : Bool} {b : SV} : Ar (runD np n keep b) np := fun ds h e => by
  unfold runD
  rw [if_neg e]
theorem Pst.fin {G : Gn} {F F' H H' : Hp} {ι ι' : List Addr} {h h' : Hs} {W : Nat → Hp → Prop} {keep : Bool} {d : D} {v : V} {Q : VK} (r0 : Rs G F ι h H) (s : Stp F ι H F' ι' H') (r : Rs G F' ι' h' H') (q : Rel G F' ι' d v)
    (p : Pst G F ι H (Rel G) W (fin keep h d h') Q) : Q v H' := by
  unfold U.fin at p
  split at p
  · exact p v H' F' ι' s r q
  · split at p
    · rename_i c
      rw [Bool.and_eq_true] at c
      obtain ⟨s', r', e⟩ := r0.cut s r c.2
      have q' := Rel.cut c.1 q
      rw [e] at q'
      exact p v H' F' ι s' r' q'
    · exact p.elim
theorem Pst.finE {G : Gn} {F F' H H' : Hp} {ι ι' : List Addr} {h h' : Hs} {W : Nat → Hp → Prop} {keep : Bool} {c : Nat} {Q : VK} (r0 : Rs G F ι h H) (s : Stp F ι H F' ι' H') (r : Rs G F' ι' h' H')
    (p : Pst G F ι H (Rel G) W (finE keep h c h') Q) : W c H' := by
  unfold U.finE at p
  split at p
  · exact p H' F' ι' s r
  · split at p
    · rename_i c
      obtain ⟨s', r', e⟩ := r0.cut s r c
      exact p H' F' ι s' r'
    · exact p.elim
section
variable {P : Program} {w : World} {K : PySem.W.Frag} {mg : Str → Option Value} {base : Heap} {k : Nat} {N ps : List Str} {qual : Str} {scope : Scope} {f : Addr} {cdv : Value} {A : Around} {outer : List Env} {s : Shared} {H : Hp} {E : XK} {G : Gn}
theorem bn_cx (hK : G.K = K) (hw : G.w = w) (S : FnScope N ps scope) (hr : Room k (A.deeper (envOfC qual scope s.heap.objs.size f cdv))) : Bn (cxOf (L2.CX P w) P w K mg base N qual scope f cdv A outer s H E) G (fun cls d _ H => E cls d H) k where
  K := hK.symm
  w := hw.symm
  calm := rfl
  nd := S.nd
  tk := takes_of rfl rfl rfl rfl
  hr := hr
  po := passes_of rfl
variable {x : Str} {params : Arguments} {body : List Stmt} {dvs : List V} {kws : List (Str × V)} {fd : FuncData} {b : SV}
/-- THE RULE of a def -/
theorem fn_ok (F : FunD K x qual params body scope dvs kws f fd) (S : FnScope N ps scope) (hK : G.K = K) (hw : G.w = w) (keep : Bool)
    (hb : ∀ (cdv : Value) (A : Around) (outer : List Env) (s : Shared) (H : Hp) (E : XK) (W : WX), Bn (cxOf (L2.CX P w) P w K mg base N qual scope f cdv A outer s H E) G W k → QSs (cxOf (L2.CX P w) P w K mg base N qual scope f cdv A outer s H E) G W body b) :
    FnOk P w K mg base (L2.CX P w) (k + 1) f fd ps (spD G (runD ps.length N.length keep b)) := by
  refine F.ok S (fun vs H Q E ⟨ds, h, F0, ι, r1, r0, p⟩ => ?_) (fun cdv A outer s H vs Q E hr ⟨ds, h, F0, ι, r1, r0, p⟩ => ⟨tSs G (fun cls d _ H => E cls d H) b, hb cdv A outer s H E _ (bn_cx hK hw S hr), ?_⟩)
  · rw [← r1.len]
    unfold runD at p
    split at p
    · assumption
    · exact p.elim
  · unfold runD at p
    split at p
    · refine ⟨_, h, F0, ι, relS_start N r1, r0, ?_⟩
      cases e : b (ds.map some ++ List.replicate (N.length - ds.length) none) h with
      | nx ρ' h' =>
        simp only [e] at p
        exact fun σ' H' F' ι' s rs r => p.fin r0 s r .non
      | rt d h' =>
        simp only [e] at p
        exact fun v H' F' ι' s r q => p.fin r0 s r q
      | er c ρ' h' =>
        simp only [e] at p
        exact fun σ' H' F' ι' s rs r => p.finE r0 s r
      | bk _ _ => simp only [e] at p; exact p.elim
      | ct _ _ => simp only [e] at p; exact p.elim
      | no => simp only [e] at p; exact p.elim
    · exact p.elim
end

/-! ### calls -/
def eCall (m : DF) (g : AV) : EV := fun ρ h => (g ρ h).bind m
section
variable {X : Cx} {G : Gn} {W : WX} {k j : Nat} {x : Str} {f : Addr} {fd : FuncData} {ps : List Str} {m : DF} {e : Expr} {es : List Expr} {ga : AV} {p pos : Pos}
/-- a def as its callers see it -/
structure Fd (P : Program) (w : World) (K : PySem.W.Frag) (mg : Str → Option Value) (base : Heap) (G : Gn) (j : Nat) (x : Str) (m : DF) : Prop where
  ex : ∃ (f : Addr) (fd : FuncData) (ps : List Str), FnOk P w K mg base (L2.CX P w) j f fd ps (spD G m) ∧ mg x = some (.ref f) ∧ PySem.W.keepIn K (.ref f) = true ∧ Binds K fd ps []
theorem q_call (bn : Bn X G W k) (F : Fd X.prog X.w X.K X.mg X.base G j x m) (ha : QA X G W (e :: es) ga) (hj : j ≤ k := by decide) (hg : Gl X x := by rfl) (hdb : (x == ("__debug__" : Str)) = false := by decide)
    (he : starEach (e :: es) X.env = (false, eval e X.env) :: starEach es X.env := by rfl) (hpl : (backTo pos (starEach es X.env)).any (·.1) = false := by rfl) : QE X G W (.Call (.Name x p) (e :: es) [] pos) (eCall m ga) := by
  obtain ⟨f, fd, ps, F, hm, hk, hb⟩ := F.ex
  refine qe_of (pe_callS (E := WE W) F (bn.hr.mono hj) hg hm hk hb (passAt bn.tk) ha hdb he hpl) fun σ H Q ⟨ρ, h, F0, ι, rs, r0, p⟩ => ?_
  exact ⟨ρ, h, F0, ι, rs, r0, p.bind fun ds h1 vs H1 F1 ι1 e1 r1 q1 p1 => ⟨ds, h1, F1, ι1, q1, r1, p1⟩⟩
end

/-! ### the law's end -/
theorem sp_law {G : Gn} {m : DF} {H : Hp} {a : Addr} {ns : List Int} {h' : Hs} (hO : Only H) (hS : SqL G.K H a (ns.map V.int)) (e : m [.lst (ns.map .int)] [] = .ok (.bl true) h') : spD G m [.ref a] H (fun v _ => v = .bl true) fun _ _ _ => False := by
  let F : Hp := fun b => match H b with
    | some (.frz _ u) => some u
    | _ => none
  have hF : ∀ b u, F b = some u → ∃ o xs, u = .lst xs ∧ H b = some (.frz o (.lst xs)) := fun b u z => by
    have z : (match H b with
      | some (.frz _ u) => some u
      | _ => none) = some u := z
    rcases hO b with q | ⟨o, xs, q⟩
    · rw [q] at z
      cases z
    · rw [q] at z
      cases z
      exact ⟨o, xs, rfl, q⟩
  have rl : ∀ l : List Int, RelL G F [] (l.map .int) (l.map V.int) := fun l => by
    induction l with
    | nil => exact .nil
    | cons z l ih => exact .cons (.int z) ih
  refine ⟨[.lst (ns.map .int)], [], F, [], .cons (.lst ?_ (rl ns)) .nil, ⟨fun b u z => ?_, fun b o u z => ?_, fun i a o m => by simp at m, rfl, List.nodup_nil, fun i o q => by simp at q⟩, ?_⟩
  · rcases hS with (q | ⟨o, q⟩) | q
    · rcases hO a with z | ⟨o, xs, z⟩
      · rw [q] at z
        cases z
      · rw [q] at z
        cases z
    · refine .inl (.inl ?_)
      show (match H a with
        | some (.frz _ u) => some u
        | _ => none) = _
      rw [q]
    · exact .inr q
  · obtain ⟨o, xs, rfl, q⟩ := hF b u z
    exact .inr ⟨o, q⟩
  · obtain ⟨o', xs, q, _⟩ := hF b _ z
    cases q
  · rw [e]
    exact fun v H' F' ι' _ _ q => by cases q; rfl
theorem cx_none {P : Program} {w : World} (H : Hp) (s : Shared) (e : Value) (s' : Shared) (h : L2.CX P w [] H s (fun _ _ _ => False) e s') : False := by
  obtain ⟨_, _, _, _, _, _, _, _, _, _, _, _, z⟩ := h
  exact z
end U
/-! odds and ends: chains as tests, minus -/
namespace U
open PySem PySem.Spec PyProof.Rows L2 RZ
section
variable {X : Cx} {G : Gn} {W : WX} {k : Nat} {a b c : Expr} {fa fb fc : EV} {pos : Pos}
theorem tChain_of {op op' : Op2} {σ : L2.St} {H : Hp} {Q : VK} (q : tE G W (eChain op op' fa fb fc) σ H Q) : tChain (rOf G op) (rOf G op') (tE G W fa) (tE G W fb) (tE G W fc) σ H Q := by
  obtain ⟨ρ, h, F, ι, rs, r0, p⟩ := q
  refine tE.bind rs r0 p fun dx h1 x H1 F1 ι1 e1 r1 q1 p1 => ?_
  refine tE.bind (rs.ext e1.toExt) r1 p1 fun dy h2 y H2 F2 ι2 e2 r2 q2 p2 => ?_
  cases e : op dx dy h2 with
  | none => simp only [e] at p2; exact p2.elim
  | some d =>
    simp only [e] at p2
    refine ⟨dx, dy, h2, F2, ι2, r2, q1.ext e2.toExt, q2, d, e, fun v H' F' ι' e3 r3 q3 => ?_⟩
    cases d with
    | bl t =>
      cases q3
      refine ⟨t, rfl, ?_⟩
      cases t with
      | false => exact p2 _ H' F' ι' e3 r3 (.bl false)
      | true =>
        refine tE.bind ((rs.ext e1.toExt).ext (e2.trans e3).toExt) r3 (Pst.ext e3 p2) fun dz h4 z H4 F4 ι4 e4 r4 q4 p4 => ?_
        cases e5 : op' dy dz h4 with
        | none => simp only [e5] at p4; exact p4.elim
        | some d' =>
          simp only [e5] at p4
          exact ⟨dy, dz, h4, F4, ι4, r4, q2.ext (e3.trans e4).toExt, q4, d', e5, p4⟩
    | _ => exact p2.elim
theorem qt_chain {o o' : CmpOp} {op op' : Op2} (ho : OpR X (compareOp o) (rOf G op)) (ho' : OpR X (compareOp o') (rOf G op')) (ha : QE X G W a fa) (hb : QE X G W b fb) (hc : QE X G W c fc)
    (hm : lastMarks [o, o'] [b, c] = false := by rfl) : QT X G W (.Compare a [o, o'] [b, c] pos) (bE (eChain op op' fa fb fc)) :=
  qt_of (pt_chain ho ho' ha hb hc hm) fun σ H Q q => tChain_of (tB_of q)
def eNeg (fa : EV) : EV := fun ρ h => (fa ρ h).bind fun d h1 => match d with
  | .int i => .ok (.int (-i)) h1
  | _ => .no
theorem q_neg (ha : QE X G W a fa) : QE X G W (.UnaryOp .USub a pos) (eNeg fa) := by
  refine qe_of (pe_un un_neg ha) fun σ H Q ⟨ρ, h, F, ι, rs, r0, p⟩ => tE.bind rs r0 p fun d h1 v H1 F1 ι1 e1 r1 q1 p1 => ?_
  cases d with
  | int i =>
    cases q1
    exact ⟨i, rfl, Pst.okk p1 r1 (.int _)⟩
  | _ => exact p1.elim
end
theorem seqC {f : EV} {z : Str} (e : f = eC (.str z)) : ∀ ρ h d h', f ρ h = .ok d h' → ∃ z, d = .str z := by
  intro ρ h d h' q
  rw [e] at q
  cases q
  exact ⟨z, rfl⟩
theorem str_eC (z : Str) : ∀ ρ h d h', eC (.str z) ρ h = .ok d h' → ∃ z, d = .str z := seqC rfl
end U
/-! defs by the head's facts; the end of a law -/
namespace U
open PySem PySem.Spec PyProof.Rows L2 RZ
theorem bo_len : bootBuiltins "len" = some (.builtin "len") := by decide +kernel
theorem bo_all : bootBuiltins "all" = some (.builtin "all") := by decide +kernel
theorem bo_any : bootBuiltins "any" = some (.builtin "any") := by decide +kernel
theorem bo_min : bootBuiltins "min" = some (.builtin "min") := by decide +kernel
theorem bo_max : bootBuiltins "max" = some (.builtin "max") := by decide +kernel
theorem bo_tuple : bootBuiltins "tuple" = some (.type "tuple") := by decide +kernel
theorem bo_list : bootBuiltins "list" = some (.type "list") := by decide +kernel
theorem bo_int : bootBuiltins "int" = some (.type "int") := by decide +kernel
theorem bo_str : bootBuiltins "str" = some (.type "str") := by decide +kernel
theorem bo_bool : bootBuiltins "bool" = some (.type "bool") := by decide +kernel
theorem bo_dict : bootBuiltins "dict" = some (.type "dict") := by decide +kernel

/-- a def of the top, as the head tells it -/
structure FDf (K : PySem.W.Frag) (mg : Str → Option Value) (x : Str) (st : Stmt) : Prop where
  ex : ∃ (f : Addr) (fd : FuncData), FunD K x x (defArgs st) (defBody st) (defScope st) [] [] f fd ∧ mg x = some (.ref f)
def BindsF (x : Str) (st : Stmt) (ps : List Str) : Prop :=
  ∀ (kV doc pm : Value) (an : Option Addr) (cdv ct : Value) (us : List Value), us.length = ps.length → bindArgs (PySem.W.fnOf x x (defArgs st) (defBody st) (defScope st) .none kV doc pm an cdv ct) ⟨us, []⟩ = pure (ps.zip us)
section
variable {P : Program} {w : World} {K : PySem.W.Frag} {mg : Str → Option Value} {base : Heap} {G : Gn} {x : Str} {st : Stmt} {N ps : List Str} {n : Nat} {b : SV}
theorem Fd.zero (D : FDf K mg x st) (hb : BindsF x st ps) : Fd P w K mg base G 0 x (fun _ _ => .no) := by
  obtain ⟨f, fd, F, e⟩ := D.ex
  exact ⟨f, fd, ps, ⟨fun vs H Q E ⟨_, _, _, _, _, _, p⟩ => p.elim, fun A outer s H args us vs Q E _ _ _ _ ⟨_, _, _, _, _, _, p⟩ => p.elim⟩, e, F.kp, F.bindsN hb⟩
theorem Fd.succ (D : FDf K mg x st) (S : FnScope N ps (defScope st)) (hK : G.K = K) (hw : G.w = w) (keep : Bool) (hb : BindsF x st ps)
    (d : ∀ (f : Addr) (cdv : Value) (A : Around) (outer : List Env) (s : Shared) (H : Hp) (E : XK) (W : WX), Bn (cxOf (L2.CX P w) P w K mg base N x (defScope st) f cdv A outer s H E) G W n → QSs (cxOf (L2.CX P w) P w K mg base N x (defScope st) f cdv A outer s H E) G W (defBody st) b) :
    Fd P w K mg base G (n + 1) x (runD ps.length N.length keep b) := by
  obtain ⟨f, fd, F, e⟩ := D.ex
  exact ⟨f, fd, ps, fn_ok F S hK hw keep (d f), e, F.kp, F.bindsN hb⟩
end
/-- the end of a law's row -/
theorem walk_law {l : PySem.W.OpenLaw} {n : Nat} {q : Program} {loose : List Str} {XP : (Str → Option Value) → Heap → Prop} {YP : World → Heap → Prop} {d : DefRec} {x : Str} (hn : l.most = some n) (hn2 : n ≤ sizeLine) (hdf : d.params.defaults = [])
    (F : ∀ (w : World) (mg : Str → Option Value) (fa : Addr) (h : Heap), YP w h → h.Ns mainGlobals mg → mg d.name = some (.ref fa) →
      ∃ (K : PySem.W.Frag) (G : Gn) (m : DF) (k : Nat) (fd : FuncData), K.In h ∧ G.K = K ∧ Room k callerA ∧ (∀ (s : Shared) (u : Value), BindsTo s fd ⟨[u], []⟩ [(x, u)]) ∧
        (∀ ns : List Int, ns.length ≤ n → (∀ z ∈ ns, Builtin.Int.intBits z ≤ 1048576) → ∃ h', m [.lst (ns.map .int)] [] = .ok (.bl true) h') ∧
        ∀ base : Heap, K.In base → base.Ns mainGlobals mg → FnOk l.prog w K mg base (L2.CX l.prog w) k fa fd [x] (spD G m)) :
    PySem.W.WalkO q loose XP YP l.row.toRowW d [] (fun f vs => PySem.call f vs) := by
  refine Att.attach_callB hn hdf fun w s₀ s₁ mg mb fa o pm cd doc a vs ns G Y ho hd hcd hmg hobj hints hlen hbits hg => ?_
  obtain ⟨K, GG, m, k, fd, KX, hK, hr, hb, hsp, hF⟩ := F w mg fa _ Y G.T.g hmg
  refine law_call KX G.T.g G.T.b G.T.builtins G.T.nolimit hg hobj hints (Nat.le_trans hlen hn2) hr hF hb (fun H hO hS => ?_) fun H e s' => cx_none H s₁ e s'
  obtain ⟨h', e⟩ := hsp ns hlen hbits
  exact sp_law hO (by rw [hK]; exact hS) e
end U
/-! reckoning with the readings: plain lemmas -/
namespace U
open PySem PySem.Spec PyProof.Rows L2 RZ
section
variable {ρ ρ' ρ1 : Rho} {h h' h1 h2 h3 : Hs} {d x y z : D} {i j : Int}
theorem mul_l (hi : i.natAbs < 2 ^ 64) : opMul (.int i) (.int j) h = some (.int (i * j)) := by
  show (if _ then _ else _) = _
  rw [if_pos (.inl (.inl hi))]
theorem mul_r (hj : j.natAbs < 2 ^ 64) : opMul (.int i) (.int j) h = some (.int (i * j)) := by
  show (if _ then _ else _) = _
  rw [if_pos (.inl (.inr hj))]
theorem mod_p (hj : 0 < j) : opMod (.int i) (.int j) h = some (.int (i % j)) := by
  show (if _ then _ else _) = _
  rw [if_pos hj]
theorem div_p (hj : 0 < j ∧ j.natAbs.log2 < 9000) : opDiv (.int i) (.int j) h = some (.int (i / j)) := by
  show (if _ then _ else _) = _
  rw [if_pos hj]
theorem add_i : opAdd (.int i) (.int j) h = some (.int (i + j)) := rfl
theorem add_s {a b : Str} (q : a.length + b.length ≤ sizeLine) : opAdd (.str a) (.str b) h = some (.str (a ++ b)) := by
  show (if _ then _ else _) = _
  rw [if_pos q]
theorem add_t {a b : List D} (q : a.length + b.length ≤ sizeLine) : opAdd (.tup a) (.tup b) h = some (.tup (a ++ b)) := by
  show (if _ then _ else _) = _
  rw [if_pos q]
theorem op_ok {op : Op2} {fa fb : EV} (ha : fa ρ h = .ok x h1) (hb : fb ρ h1 = .ok y h2) (ho : op x y h2 = some d) : eOp op fa fb ρ h = .ok d h2 := by
  unfold eOp
  rw [ha, R.bind_ok, hb, R.bind_ok, ho]
theorem chain_t {op op' : Op2} {fa fb fc : EV} (ha : fa ρ h = .ok x h1) (hb : fb ρ h1 = .ok y h2) (ho : op x y h2 = some (.bl true)) (hc : fc ρ h2 = .ok z h3) (ho' : op' y z h3 = some d) : eChain op op' fa fb fc ρ h = .ok d h3 := by
  unfold eChain
  rw [ha, R.bind_ok, hb, R.bind_ok, ho]
  show (fc ρ h2).bind _ = _
  rw [hc, R.bind_ok, ho']
theorem chain_f {op op' : Op2} {fa fb fc : EV} (ha : fa ρ h = .ok x h1) (hb : fb ρ h1 = .ok y h2) (ho : op x y h2 = some (.bl false)) : eChain op op' fa fb fc ρ h = .ok (.bl false) h2 := by
  unfold eChain
  rw [ha, R.bind_ok, hb, R.bind_ok, ho]
theorem cal_ok {op : Op1} {fa : EV} (ha : fa ρ h = .ok x h1) (ho : op x h1 = some d) : eCal op fa ρ h = .ok d h1 := by
  unfold eCal
  rw [ha, R.bind_ok, ho]
theorem call_ok {m : DF} {g : AV} {ds : List D} (hg : g ρ h = .ok ds h1) (e : m ds h1 = .ok d h2) : eCall m g ρ h = .ok d h2 := by
  unfold eCall
  rw [hg, R.bind_ok, e]
theorem cons_ok {f : EV} {g : AV} {ds : List D} (hf : f ρ h = .ok d h1) (hg : g ρ h1 = .ok ds h2) : aCons f g ρ h = .ok (d :: ds) h2 := by
  unfold aCons
  rw [hf, R.bind_ok, hg, R.bind_ok]
theorem tup_ok {g : AV} {ds : List D} (hg : g ρ h = .ok ds h1) (q : ds.length ≤ sizeLine) : eTup g ρ h = .ok (.tup ds) h1 := by
  unfold eTup
  rw [hg, R.bind_ok, if_pos q]
theorem lst_ok {g : AV} {ds : List D} (hg : g ρ h = .ok ds h1) (q : ds.length ≤ sizeLine) : eLst g ρ h = .ok (.lst ds) h1 := by
  unfold eLst
  rw [hg, R.bind_ok, if_pos q]
theorem sl_ok {fa : EV} {lo hi : PV} {l u : Option Int} (ha : fa ρ h = .ok x h1) (hl : lo ρ h1 = .ok l h2) (hu : hi ρ h2 = .ok u h3) (ho : opSl x l u h3 = some d) : eSl fa lo hi ρ h = .ok d h3 := by
  unfold eSl
  rw [ha, R.bind_ok, hl, R.bind_ok, hu, R.bind_ok, ho]
theorem some_ok {f : EV} (hf : f ρ h = .ok (.int i) h1) : pSome f ρ h = .ok (some i) h1 := by
  unfold pSome
  rw [hf, R.bind_ok]
/-! tests -/
variable {b b' : Bool}
theorem be_ok {f : EV} (e : f ρ h = .ok (.bl b) h1) : bE f ρ h = .ok b h1 := by
  unfold bE
  rw [e, R.bind_ok]
theorem bnot_ok {f : BV} (e : f ρ h = .ok b h1) : bNot f ρ h = .ok (!b) h1 := by
  unfold bNot
  rw [e, R.bind_ok]
theorem bor_t {f g : BV} (e : f ρ h = .ok true h1) : bOr f g ρ h = .ok true h1 := by
  unfold bOr
  rw [e, R.bind_ok, if_pos rfl]
theorem bor_f {f g : BV} (e : f ρ h = .ok false h1) (e2 : g ρ h1 = .ok b h2) : bOr f g ρ h = .ok b h2 := by
  unfold bOr
  rw [e, R.bind_ok, if_neg (by decide), e2]
theorem band_f {f g : BV} (e : f ρ h = .ok false h1) : bAnd f g ρ h = .ok false h1 := by
  unfold bAnd
  rw [e, R.bind_ok, if_neg (by decide)]
theorem band_t {f g : BV} (e : f ρ h = .ok true h1) (e2 : g ρ h1 = .ok b h2) : bAnd f g ρ h = .ok b h2 := by
  unfold bAnd
  rw [e, R.bind_ok, if_pos rfl, e2]
/-- both at once, where the second is known, too -/
theorem bor_b {f g : BV} (e : f ρ h = .ok b h) (e2 : g ρ h = .ok b' h) : bOr f g ρ h = .ok (b || b') h := by
  cases b with
  | true => exact bor_t e
  | false => exact bor_f e e2
theorem band_b {f g : BV} (e : f ρ h = .ok b h) (e2 : g ρ h = .ok b' h) : bAnd f g ρ h = .ok (b && b') h := by
  cases b with
  | true => exact band_t e e2
  | false => exact band_f e
theorem eand_t {f g : EV} (e : f ρ h = .ok (.bl true) h1) : eAnd f g ρ h = g ρ h1 := by
  unfold eAnd
  rw [e, R.bind_ok]
theorem eand_f {f g : EV} (e : f ρ h = .ok (.bl false) h1) : eAnd f g ρ h = .ok (.bl false) h1 := by
  unfold eAnd
  rw [e, R.bind_ok]
theorem eor_f {f g : EV} (e : f ρ h = .ok (.bl false) h1) : eOr f g ρ h = g ρ h1 := by
  unfold eOr
  rw [e, R.bind_ok]
theorem eor_t {f g : EV} (e : f ρ h = .ok (.bl true) h1) : eOr f g ρ h = .ok (.bl true) h1 := by
  unfold eOr
  rw [e, R.bind_ok]
/-! statements -/
theorem fin_same (ok : okD h.length d = true) : fin false h d h = .ok d h := by
  unfold fin
  rw [if_neg (by decide), ok, chk_rfl, List.take_length]
  rfl
theorem fin_app {g : Hs} (ok : okD h.length d = true) : fin false h d (h ++ g) = .ok d h := by
  unfold fin
  rw [if_neg (by decide), ok, chk_app, List.take_left]
  rfl
theorem set_ok {i : Nat} {f : EV} (e : f ρ h = .ok d h') : sSet i f ρ h = .nx (ρ.set i (some d)) h' := by
  unfold sSet sE
  rw [e]
theorem ret_ok {f : EV} (e : f ρ h = .ok d h') : sRet f ρ h = .rt d h' := by
  unfold sRet sE
  rw [e]
theorem expr_ok {f : EV} (e : f ρ h = .ok d h') : sExpr f ρ h = .nx ρ h' := by
  unfold sExpr sE
  rw [e]
theorem seq_nx {s t : SV} (e : s ρ h = .nx ρ' h') : sSeq s t ρ h = t ρ' h' := by
  unfold sSeq
  rw [e]
theorem seq_rt {s t : SV} (e : s ρ h = .rt d h') : sSeq s t ρ h = .rt d h' := by
  unfold sSeq
  rw [e]
theorem run_rt {np n : Nat} {b : SV} {ds : List D} (hl : ds.length = np) (e : b (ds.map some ++ List.replicate (n - ds.length) none) h = .rt d h) (ok : okD h.length d = true) : runD np n false b ds h = .ok d h := by
  unfold runD
  rw [if_pos hl, e]
  exact fin_same ok
theorem run_rta {np n : Nat} {b : SV} {ds : List D} {g : Hs} (hl : ds.length = np) (e : b (ds.map some ++ List.replicate (n - ds.length) none) h = .rt d (h ++ g)) (ok : okD h.length d = true) : runD np n false b ds h = .ok d h := by
  unfold runD
  rw [if_pos hl, e]
  exact fin_app ok
theorem if_t {c : BV} {s t : SV} (e : c ρ h = .ok true h') : sIf c s t ρ h = s ρ h' := by
  unfold sIf sT
  rw [e]
  rfl
theorem if_f {c : BV} {s t : SV} (e : c ρ h = .ok false h') : sIf c s t ρ h = t ρ h' := by
  unfold sIf sT
  rw [e]
  rfl
end
section
variable {ρ ρ' : Rho} {h h' h2 : Hs} {d : D} {i j : Int}
theorem sif_f {c : BV} {s t : SV} (e : c ρ h = .ok false h') : sSeq (sIf c s sNil) t ρ h = t ρ h' := seq_nx (if_f e)
theorem sif_t {c : BV} {s u t : SV} (e : c ρ h = .ok true h') (e2 : s ρ h' = .rt d h2) : sSeq (sIf c s u) t ρ h = .rt d h2 := seq_rt ((if_t e).trans e2)
theorem lt_i : opLt (.int i) (.int j) h = some (.bl (decide (i < j))) := rfl
theorem le_i : opLe (.int i) (.int j) h = some (.bl (decide (i ≤ j))) := rfl
theorem gt_i : opGt (.int i) (.int j) h = some (.bl (decide (j < i))) := rfl
theorem ge_i : opGe (.int i) (.int j) h = some (.bl (decide (j ≤ i))) := rfl
theorem eq_i : opEq (.int i) (.int j) h = some (.bl (i == j)) := rfl
theorem ne_i : opNe (.int i) (.int j) h = some (.bl (!(i == j))) := rfl
theorem eq_s {a b : Str} : opEq (.str a) (.str b) h = some (.bl (a == b)) := rfl
theorem ne_b {a b : Bool} : opNe (.bl a) (.bl b) h = some (.bl (!(a == b))) := rfl
end
/-! loops -/
section
variable {t : Tg} {c : BV} {f : EV} {s : SV} {ρ : Rho} {h : Hs}
/-- a comprehension whose parts leave the small heap -/
theorem lcL_map {p : D → Bool} {g : D → D} : ∀ items : List D, (∀ d ∈ items, ∃ ρ1, t.set d ρ = some ρ1 ∧ c ρ1 h = .ok (p d) h ∧ (p d = true → f ρ1 h = .ok (g d) h)) → lcL t c f ρ items h = .ok ((items.filter p).map g) h
  | [], _ => rfl
  | d :: l, hh => by
    obtain ⟨ρ1, e1, e2, e3⟩ := hh d (List.mem_cons_self ..)
    have ih := lcL_map (p := p) (g := g) l fun d m => hh d (List.mem_cons_of_mem _ m)
    unfold lcL
    simp only [e1, e2]
    cases q : p d with
    | true => simp only [e3 q, ih, List.filter_cons, q, if_true, List.map_cons]
    | false => simp only [ih, List.filter_cons, q, if_false, Bool.false_eq_true]
theorem lc_ok {own : List Nat} {fi : AV} {items : List D} {p : D → Bool} {g : D → D} (hi : fi ρ h = .ok items h)
    (hh : ∀ d ∈ items, ∃ ρ1, t.set d (wipeD own ρ) = some ρ1 ∧ c ρ1 h = .ok (p d) h ∧ (p d = true → f ρ1 h = .ok (g d) h)) (hl : items.length ≤ sizeLine) : eLc own fi t c f ρ h = .ok (.lst ((items.filter p).map g)) h := by
  unfold eLc aLc
  simp only [hi, lcL_map items hh]
  rw [if_pos (Nat.le_trans (by rw [List.length_map]; exact List.length_filter_le ..) hl), R.bind_ok]
/-- without a test -/
theorem lc_all {own : List Nat} {fi : AV} {items : List D} {g : D → D} (hi : fi ρ h = .ok items h)
    (hh : ∀ d ∈ items, ∃ ρ1, t.set d (wipeD own ρ) = some ρ1 ∧ f ρ1 h = .ok (g d) h) (hl : items.length ≤ sizeLine) : eLc own fi t bYes f ρ h = .ok (.lst (items.map g)) h := by
  have q := lc_ok (own := own) (c := bYes) (p := fun _ => true) (g := g) hi (fun d m => by
    obtain ⟨ρ1, e1, e2⟩ := hh d m
    exact ⟨ρ1, e1, rfl, fun _ => e2⟩) hl
  rw [q, List.filter_eq_self.mpr (fun _ _ => rfl)]
/-- a loop that ends at the first bad item, the small heap as it was -/
theorem for_bad {x : D} {bad : D → Bool} (Inv : Rho → Prop) : ∀ (items : List D) (ρ : Rho), Inv ρ →
    (∀ d ∈ items, ∀ ρ, Inv ρ → ∃ ρ1, t.set d ρ = some ρ1 ∧ (bad d = true → s ρ1 h = .rt x h) ∧ (bad d = false → ∃ ρ2, s ρ1 h = .nx ρ2 h ∧ Inv ρ2)) →
    (items.any bad = true → forL t s items ρ h = .rt x h) ∧ (items.any bad = false → ∃ ρ', forL t s items ρ h = .nx ρ' h ∧ Inv ρ')
  | [], ρ, i0, _ => ⟨fun z => by simp at z, fun _ => ⟨ρ, rfl, i0⟩⟩
  | d :: l, ρ, i0, hh => by
    obtain ⟨ρ1, e1, e2, e3⟩ := hh d (List.mem_cons_self ..) ρ i0
    cases q : bad d with
    | true =>
      refine ⟨fun _ => ?_, fun z => by simp [q] at z⟩
      unfold forL
      simp only [e1, e2 q]
    | false =>
      obtain ⟨ρ2, e4, i2⟩ := e3 q
      have ih := for_bad (x := x) Inv l ρ2 i2 fun d m => hh d (List.mem_cons_of_mem _ m)
      refine ⟨fun z => ?_, fun z => ?_⟩
      · have := ih.1 (by simpa [q] using z)
        unfold forL
        simp only [e1, e4]
        exact this
      · obtain ⟨ρ3, e5, i3⟩ := ih.2 (by simpa [q] using z)
        refine ⟨ρ3, ?_, i3⟩
        unfold forL
        simp only [e1, e4]
        exact e5
/-- a loop all of whose turns go on -/
theorem for_all (Inv : Rho → Prop) (items : List D) (ρ : Rho) (i0 : Inv ρ) (hh : ∀ d ∈ items, ∀ ρ, Inv ρ → ∃ ρ1 ρ2, t.set d ρ = some ρ1 ∧ s ρ1 h = .nx ρ2 h ∧ Inv ρ2) : ∃ ρ', forL t s items ρ h = .nx ρ' h ∧ Inv ρ' :=
  (for_bad (x := .non) (bad := fun _ => false) Inv items ρ i0 fun d m ρ i => by
    obtain ⟨ρ1, ρ2, e1, e2, e3⟩ := hh d m ρ i
    exact ⟨ρ1, e1, ⟨fun z => Bool.noConfusion z, fun _ => ⟨ρ2, e2, e3⟩⟩⟩).2 (by simp)
theorem forS_ok {fi : AV} {items : List D} {h' : Hs} (e : fi ρ h = .ok items h') : sFor fi t s ρ h = forL t s items ρ h' := by
  unfold sFor
  rw [e]
end
theorem iseq_l {f : EV} {ρ : Rho} {h h1 : Hs} {l : List D} (e : f ρ h = .ok (.lst l) h1) : iSeq f ρ h = .ok l h1 := by
  unfold iSeq
  rw [e, R.bind_ok]
theorem iseq_t {f : EV} {ρ : Rho} {h h1 : Hs} {l : List D} (e : f ρ h = .ok (.tup l) h1) : iSeq f ρ h = .ok l h1 := by
  unfold iSeq
  rw [e, R.bind_ok]
theorem iseq_s {f : EV} {ρ : Rho} {h h1 : Hs} {z : Str} (e : f ρ h = .ok (.str z) h1) : iSeq f ρ h = .ok (z.cps.toList.map fun c => .str ⟨#[c]⟩) h1 := by
  unfold iSeq
  rw [e, R.bind_ok]
theorem irange {f : EV} {ρ : Rho} {h h1 : Hs} {j : Int} (e : f ρ h = .ok (.int j) h1) (q : -(2 ^ 62) ≤ j ∧ j < 2 ^ 62) : iRange f ρ h = .ok ((List.range j.toNat).map fun i => .int (i : Nat)) h1 := by
  unfold iRange
  rw [e, R.bind_ok]
  show (if _ then _ else _) = _
  rw [if_pos q]
theorem small_line {n : Nat} (q : n ≤ 1000) : n ≤ sizeLine := by rw [sizeLine_eq]; omega
theorem sm {n : Nat} (q : Nat.ble n 1000 = true := by rfl) : n ≤ sizeLine := small_line (Nat.le_of_ble_eq_true q)
theorem atI_ok {α : Type} {l : List α} {i : Int} (h0 : 0 ≤ i) (h1 : i < l.length) : ∃ d, atI l i = some d ∧ l[i.toNat]? = some d := by
  have hl : i.toNat < l.length := by omega
  refine ⟨l[i.toNat], ?_, List.getElem?_eq_getElem hl⟩
  unfold atI ixN
  rw [if_pos h0, if_pos h1]
  exact List.getElem?_eq_getElem hl
theorem sub_str {z : Str} {i : Int} {h : Hs} (hz : z.length ≤ sizeLine) (h0 : 0 ≤ i) (h1 : i < z.length) : ∃ c, opIx (.str z) (.int i) h = some (.str ⟨#[c]⟩) := by
  obtain ⟨c, e, _⟩ := atI_ok (l := z.cps.toList) h0 (by rw [Array.length_toList]; exact h1)
  refine ⟨c, ?_⟩
  show (if _ then _ else _) = _
  rw [if_pos hz, e]
  rfl
theorem len1 (c : Nat) : Str.length (⟨#[c]⟩ : Str) = 1 := rfl
theorem str_len_app (a b : Str) : (a ++ b).length = a.length + b.length := by
  show (a.cps ++ b.cps).size = a.cps.size + b.cps.size
  exact Array.size_append ..
theorem cutS_len (z : Str) (lo hi : Option Int) : (cutS z lo hi).length ≤ z.length := by
  show (List.toArray _).size ≤ z.cps.size
  rw [List.size_toArray, List.length_take, List.length_drop, Array.length_toList]
  omega
end U
/-! boxes: subscripts of dicts, stores, methods of lists, displays of dicts; written dicts -/
namespace U
open PySem PySem.Spec PyProof.Rows L2 RZ

/-! ### dicts as data -/
def keyD : D → Option Key
  | .int i => some (.inl i)
  | .str x => some (.inr x)
  | _ => none
def valK (l : List (Key × D)) (k : Key) : Option D := (l.find? fun kv => decide (kv.1 = k)).map (·.2)
def putKd (l : List (Key × D)) (k : Key) (d : D) : List (Key × D) :=
  if (l.any fun kv => decide (kv.1 = k)) = true then l.map (fun kv => if kv.1 = k then (kv.1, d) else kv) else l ++ [(k, d)]
def mergeKd (l more : List (Key × D)) : List (Key × D) := more.foldl (fun acc kv => putKd acc kv.1 kv.2) l
section
variable {G : Gn} {F : Hp} {ι : List Addr}
theorem key_rel {d : D} {v : V} {k : Key} (e : keyD d = some k) (q : Rel G F ι d v) : v = kV k := by
  cases d with
  | int i =>
    cases q
    cases e
    rfl
  | str x =>
    cases q
    cases e
    rfl
  | _ => cases e
theorem relK_val {k : Key} {l : List (Key × D)} : ∀ {kvs : List (Key × V)}, RelK G F ι l kvs → (valK l k = none → valV kvs k = none) ∧ ∀ d, valK l k = some d → ∃ v, valV kvs k = some v ∧ Rel G F ι d v := by
  induction l with
  | nil => intro kvs h; cases h; exact ⟨fun _ => rfl, fun d e => by cases e⟩
  | cons p l ih =>
    intro kvs h
    cases h with
    | cons q r =>
      rename_i k' d' v' xs
      by_cases hk : k' = k
      · subst hk
        have e1 : valK ((k', d') :: l) k' = some d' := by simp [valK, List.find?_cons]
        have e2 : valV ((k', v') :: xs) k' = some v' := valV_pos rfl
        refine ⟨fun z => (by rw [e1] at z; cases z), fun d z => ?_⟩
        rw [e1] at z
        cases z
        exact ⟨v', e2, q⟩
      · have e1 : valK ((k', d') :: l) k = valK l k := by simp [valK, List.find?_cons, hk]
        have e2 : valV ((k', v') :: xs) k = valV xs k := valV_neg hk
        rw [e1, e2]
        exact ih r
theorem relK_any {k : Key} {l : List (Key × D)} : ∀ {kvs : List (Key × V)}, RelK G F ι l kvs → (l.any fun kv => decide (kv.1 = k)) = kvs.any fun kv => decide (kv.1 = k) := by
  induction l with
  | nil => intro kvs h; cases h; rfl
  | cons p l ih => intro kvs h; cases h with | cons q r => simp [ih r]
theorem relK_map {k : Key} {d : D} {v : V} (q0 : Rel G F ι d v) {l : List (Key × D)} : ∀ {kvs : List (Key × V)}, RelK G F ι l kvs → RelK G F ι (l.map (fun kv => if kv.1 = k then (kv.1, d) else kv)) (kvs.map (fun kv => if kv.1 = k then (kv.1, v) else kv)) := by
  induction l with
  | nil => intro kvs h; cases h; exact .nil
  | cons p l ih =>
    intro kvs h
    cases h with
    | cons q r =>
      rename_i k' d' v' xs
      simp only [List.map_cons]
      by_cases hk : k' = k
      · rw [if_pos hk, if_pos hk]
        exact .cons q0 (ih r)
      · rw [if_neg hk, if_neg hk]
        exact .cons q (ih r)
theorem relK_app {k : Key} {d : D} {v : V} (q0 : Rel G F ι d v) {l : List (Key × D)} : ∀ {kvs : List (Key × V)}, RelK G F ι l kvs → RelK G F ι (l ++ [(k, d)]) (kvs ++ [(k, v)]) := by
  induction l with
  | nil => intro kvs h; cases h; exact .cons q0 .nil
  | cons p l ih => intro kvs h; cases h with | cons q r => exact .cons q (ih r)
theorem relK_put {k : Key} {d : D} {v : V} {l : List (Key × D)} {kvs : List (Key × V)} (r : RelK G F ι l kvs) (q : Rel G F ι d v) : RelK G F ι (putKd l k d) (putK kvs k v) := by
  unfold putKd putK
  rw [relK_any r]
  split
  · exact relK_map q r
  · exact relK_app q r
theorem relK_merge {more : List (Key × D)} : ∀ {ms : List (Key × V)} {l : List (Key × D)} {kvs : List (Key × V)}, RelK G F ι more ms → RelK G F ι l kvs → RelK G F ι (mergeKd l more) (mergeK kvs ms) := by
  induction more with
  | nil => intro ms l kvs h r; cases h; exact r
  | cons p more ih =>
    intro ms l kvs h r
    cases h with
    | cons q t =>
      rename_i k d v xs
      show RelK G F ι (mergeKd (putKd l k d) more) (mergeK (putK kvs k v) xs)
      exact ih t (relK_put r q)
end

/-! ### subscripts: of lists, tuples, texts, dicts -/
def dicD (d : D) (h : Hs) : Option (List (Key × D)) := match d with
  | .dic l => some l
  | d => boxK d h
def opIx2 : Op2 := fun x y h => match opIx x y h with
  | some d => some d
  | none => (dicD x h).bind fun l => (keyD y).bind fun k => valK l k
section
variable {X : Cx} {G : Gn} {W : WX} {k : Nat} {F : Hp} {ι : List Addr} {h : Hs} {H : Hp} {a b : Expr} {fa fb fc : EV} {pos : Pos}
theorem dicD_at (r : Rs G F ι h H) {d : D} {v : V} {l : List (Key × D)} (e : dicD d h = some l) (q : Rel G F ι d v) : ∃ p kvs, v = .ref p ∧ Rd H p (.dK kvs) ∧ RelK G F ι l kvs := by
  by_cases z : ∃ l, d = .dic l
  · obtain ⟨m, rfl⟩ := z
    cases e
    cases q with
    | dic q1 q2 => exact ⟨_, _, rfl, r.rd q1, q2⟩
  · have e : boxK d h = some l := by cases d <;> first | exact e | exact absurd ⟨_, rfl⟩ z
    obtain ⟨i, p, kvs, rfl, _, rfl, _, e1, e2⟩ := boxK_at r e q
    exact ⟨p, kvs, rfl, .inl e1, e2⟩
theorem q_ix2 (bn : Bn X G W k) (ha : QE X G W a fa) (hb : QE X G W b fb) (hs : PlainIx b := by intro _ _; rfl) (hn : NoSl b := by intro _ _; rfl) : QE X G W (.Subscript a b pos) (eOp opIx2 fa fb) := by
  have hu : X.A.units + 1 < cLine := by have := bn.hr.units; omega
  refine qe_of (PE.or (pe_ix (ir_seq bn) ha hb hs) (pe_dget hu ha hb hn)) fun σ H Q ⟨ρ, h, F, ι, rs, r0, p⟩ => ?_
  cases e1 : fa ρ h with
  | no =>
    unfold eOp at p
    rw [e1] at p
    exact p.elim
  | er c h1 =>
    unfold eOp at p
    rw [e1] at p
    exact .inl ⟨ρ, h, F, ι, rs, r0, by rw [e1]; exact p⟩
  | ok x h1 =>
    cases e2 : fb ρ h1 with
    | no =>
      unfold eOp at p
      rw [e1, R.bind_ok, e2] at p
      exact p.elim
    | er c h2 =>
      unfold eOp at p
      rw [e1, R.bind_ok, e2] at p
      refine .inl ⟨ρ, h, F, ι, rs, r0, ?_⟩
      rw [e1]
      exact fun v H1 F1 ι1 s1 r1 q1 => ⟨ρ, h1, F1, ι1, rs.ext s1.toExt, r1, by rw [e2]; exact Pst.ext s1 p⟩
    | ok y h2 =>
      cases e3 : opIx x y h2 with
      | some d =>
        refine .inl (tOp_of ⟨ρ, h, F, ι, rs, r0, ?_⟩)
        unfold eOp at p ⊢
        rw [e1, R.bind_ok, e2, R.bind_ok] at p ⊢
        unfold opIx2 at p
        simp only [e3] at p ⊢
        exact p
      | none =>
        refine .inr ?_
        unfold eOp at p
        rw [e1, R.bind_ok, e2, R.bind_ok] at p
        unfold opIx2 at p
        simp only [e3] at p
        refine ⟨ρ, h, F, ι, rs, r0, ?_⟩
        rw [e1]
        intro v H1 F1 ι1 s1 r1 q1
        refine ⟨ρ, h1, F1, ι1, rs.ext s1.toExt, r1, ?_⟩
        rw [e2]
        intro u H2 F2 ι2 s2 r2 q2
        cases e4 : dicD x h2 with
        | none => rw [e4] at p; exact p.elim
        | some l =>
          cases e5 : keyD y with
          | none => rw [e4, e5] at p; exact p.elim
          | some kk =>
            simp only [e4, e5, Option.bind_some] at p
            cases e6 : valK l kk with
            | none => rw [e6] at p; exact p.elim
            | some d =>
              rw [e6] at p
              obtain ⟨pp, kvs, rfl, g1, g2⟩ := dicD_at r2 e4 (q1.ext s2.toExt)
              obtain ⟨w, g3, g4⟩ := (relK_val g2).2 d e6
              exact ⟨pp, w, rfl, .inl ⟨kvs, kk, g1, key_rel e5 q2, g3.symm⟩, p w H2 F2 ι2 (s1.trans s2) r2 g4⟩

/-! ### o[i] = v -/
def putD (x y v : D) (h : Hs) : Option Hs := match x with
  | .ref n => match h[n]? with
    | some (.lst l) => match y with
      | .int i => (ixN l.length i).map fun j => h.set n (.lst (l.set j v))
      | _ => none
    | some (.dK l) => (keyD y).bind fun kk => if l.length < sizeLine then some (h.set n (.dK (putKd l kk v))) else none
    | _ => none
  | _ => none
def sPut (fo fi fv : EV) : SV := sE fv fun v ρ h => match fo ρ h with
  | .ok x h1 => match fi ρ h1 with
    | .ok y h2 => match putD x y v h2 with
      | some h3 => .nx ρ h3
      | none => .no
    | .er c h2 => .er c ρ h2
    | .no => .no
  | .er c h1 => .er c ρ h1
  | .no => .no
theorem PSet.or {t u : TSet} (h1 : PSet X t) (h2 : PSet X u) : PSet X (fun o i v H Q => t o i v H Q ∨ u o i v H Q) := by
  intro pins s σ H o i v ov iv w Q I ro ri rv q
  rcases q with q | q
  · exact h1 pins s σ H o i v ov iv w Q I ro ri rv q
  · exact h2 pins s σ H o i v ov iv w Q I ro ri rv q
theorem put_at (r : Rs G F ι h H) {x y v : D} {xv yv vv : V} {h' : Hs} (e : putD x y v h = some h') (qx : Rel G F ι x xv) (qy : Rel G F ι y yv) (qv : Rel G F ι v vv) {Q : Hp → Prop}
    (hk : ∀ H', Stp F ι H F ι H' → Rs G F ι h' H' → Q H') : rSetL xv yv vv H Q ∨ rSetD xv yv vv H Q := by
  cases x with
  | ref n =>
    have e : (match (generalizing := false) h[n]? with
      | some (.lst l) => match (generalizing := false) y with
        | .int i => (ixN l.length i).map fun j => h.set n (.lst (l.set j v))
        | _ => none
      | some (.dK l) => (keyD y).bind fun kk => if l.length < sizeLine then some (h.set n (.dK (putKd l kk v))) else none
      | _ => none) = some h' := e
    cases qx with
    | ref qa =>
      cases e1 : h[n]? with
      | none => rw [e1] at e; cases e
      | some o =>
        obtain ⟨u, g1, g2⟩ := r.bx qa e1
        simp only [e1] at e
        cases o with
        | lst l =>
          cases u with
          | lst xs =>
            have g2 : RelL G F ι l xs := g2
            cases y with
            | int i =>
              cases qy
              have e : (ixN l.length i).map (fun j => h.set n (.lst (l.set j v))) = some h' := e
              cases e2 : ixN l.length i with
              | none => rw [e2] at e; cases e
              | some j =>
                rw [e2] at e
                cases e
                refine .inl ⟨_, xs, i, j, rfl, rfl, g1, by rw [← g2.len]; exact e2, hk _ (Stp.put qa) (r.put qa e1 (fun z => nomatch z) (g2.set j qv))⟩
            | _ => cases e
          | _ => exact (show False from g2).elim
        | dK l =>
          cases u with
          | dK kvs =>
            have g2 : RelK G F ι l kvs := g2
            have e : ((keyD y).bind fun kk => if l.length < sizeLine then some (h.set n (.dK (putKd l kk v))) else none) = some h' := e
            cases e2 : keyD y with
            | none => rw [e2] at e; cases e
            | some kk =>
              rw [e2, Option.bind_some] at e
              split at e
              · rename_i hl
                cases e
                refine .inr ⟨_, _, rfl, .inl ⟨kvs, kk, g1, key_rel e2 qy, by rw [← relK_len g2]; exact hl, rfl⟩, hk _ (Stp.put qa) (r.put qa e1 (fun z => nomatch z) (relK_put g2 qv))⟩
              · cases e
          | _ => exact (show False from g2).elim
        | _ => cases e
  | _ => cases e
theorem qs_put (bn : Bn X G W k) {o i e : Expr} {fo fi fv : EV} {p2 : Pos} (hv : QE X G W e fv) (ho : QE X G W o fo) (hi : QE X G W i fi)
    (ha : ∀ v, assign (.Subscript o i p2) X.env v = (do
      let ov ← holding [v] (eval o X.env)
      let iv ← holding [v, ov] (eval i X.env)
      standAt p2
      holding [v, ov, iv] (setItem ov iv v)
      release [v, ov, iv] []) := by intro _; rfl) (hs : swapsWithSole [.Subscript o i p2] e pos.line X.env = pure false := by rfl) (hw : swappedStores [.Subscript o i p2] e X.env = pure none := by rfl) :
    QS X G W (.Assign [.Subscript o i p2] e pos) (sPut fo fi fv) := by
  have hu : X.A.units + 1 < cLine := by have := bn.hr.units; omega
  refine qs_of (ps_asg hv (pg_sub ho hi (PSet.or set_list (set_dict hu)) ha) hs hw) fun Dn σ H ⟨ρ, h, F, ι, rs, r0, p⟩ => tSs.bind rs r0 p fun d h1 v H1 F1 ι1 s1 r1 q1 p1 => ?_
  refine ⟨ρ, h1, F1, ι1, rs.ext s1.toExt, r1, ?_⟩
  cases e1 : fo ρ h1 with
  | no => simp only [e1] at p1; exact p1.elim
  | er c h2 =>
    simp only [e1] at p1
    exact fun H2 F2 ι2 s2 r2 => p1 σ H2 F2 ι2 s2 ((rs.ext s1.toExt).ext s2.toExt) r2
  | ok x h2 =>
    simp only [e1] at p1
    intro xv H2 F2 ι2 s2 r2 q2
    refine ⟨ρ, h2, F2, ι2, (rs.ext s1.toExt).ext s2.toExt, r2, ?_⟩
    cases e2 : fi ρ h2 with
    | no => simp only [e2] at p1; exact p1.elim
    | er c h3 =>
      simp only [e2] at p1
      exact fun H3 F3 ι3 s3 r3 => p1 σ H3 F3 ι3 (s2.trans s3) ((rs.ext s1.toExt).ext (s2.trans s3).toExt) r3
    | ok y h3 =>
      simp only [e2] at p1
      intro yv H3 F3 ι3 s3 r3 q3
      cases e3 : putD x y d h3 with
      | none => simp only [e3] at p1; exact p1.elim
      | some h4 =>
        simp only [e3] at p1
        exact put_at r3 e3 (q2.ext s3.toExt) q3 (q1.ext (s2.trans s3).toExt) fun H4 s4 r4 => p1 σ H4 F3 ι3 ((s2.trans s3).trans s4) ((rs.ext s1.toExt).ext (s2.trans s3).toExt) r4

/-! ### methods of a list box -/
def bxL (x : D) (h : Hs) : Option (Nat × List D) := match x with
  | .ref n => match h[n]? with
    | some (.lst l) => some (n, l)
    | _ => none
  | _ => none
theorem bxL_at (r : Rs G F ι h H) {x : D} {xv : V} {n : Nat} {l : List D} (e : bxL x h = some (n, l)) (q : Rel G F ι x xv) : ∃ p xs, x = .ref n ∧ xv = .ref p ∧ ι[n]? = some p ∧ h[n]? = some (.lst l) ∧ H p = some (.lst xs) ∧ RelL G F ι l xs := by
  cases x with
  | ref m =>
    have e : (match h[m]? with | some (.lst l) => some (m, l) | _ => none) = some (n, l) := e
    cases q with
    | ref qa =>
      cases e1 : h[m]? with
      | none => rw [e1] at e; cases e
      | some o =>
        obtain ⟨u, g1, g2⟩ := r.bx qa e1
        simp only [e1] at e
        cases o with
        | lst l' =>
          cases e
          cases u with
          | lst xs => exact ⟨_, xs, rfl, rfl, qa, e1, g1, g2⟩
          | _ => exact (show False from g2).elim
        | _ => cases e
  | _ => cases e
/-- x.append(y): x is seen as a list ahead of y -/
def eApp (fa fb : EV) : EV := fun ρ h => (fa ρ h).bind fun x h1 => match bxL x h1 with
  | none => .no
  | some _ => (fb ρ h1).bind fun y h2 => match bxL x h2 with
    | some (n, l) => if l.length < sizeLine then .ok .non (h2.set n (.lst (l ++ [y]))) else .no
    | none => .no
theorem q_app {apos : Pos} (ha : QE X G W a fa) (hb : QE X G W b fb) (hs : starEach [b] X.env = (false, eval b X.env) :: starEach [] X.env := by rfl) (hbase : attributeBase a "append" X.env (eval a X.env) = eval a X.env := by rfl)
    (hfew : ((backTo pos (starEach [b] X.env)).all (fun x => !x.1) && (backToKw pos (keywordEach [] X.env)).all (fun x => x.1.isSome)
      && decide (([b] : List Expr).length + ([] : List Keyword).length + (if ([] : List Keyword).isEmpty then 0 else 1) < 30)) = true := by rfl)
    (hline : (apos.endLine == pos.line) = true := by rfl) (hK : X.K = G.K := by first | rfl | assumption) : QE X G W (.Call (.Attribute a "append" apos) [b] [] pos) (eApp fa fb) := by
  refine qe_of (pe_bm PySem.F.plainAttrs_list PySem.F.slot_list_append PySem.F.type_list_append mt_append ha (pa_cons hb pa_nil hs) hbase hfew hline hs) fun σ H Q ⟨ρ, h, F, ι, rs, r0, p⟩ => tE.bind rs r0 p fun x h1 v H1 F1 ι1 s1 r1 q1 p1 => ?_
  cases e1 : bxL x h1 with
  | none => simp only [e1] at p1; exact p1.elim
  | some nl =>
    obtain ⟨n, l⟩ := nl
    simp only [e1] at p1
    obtain ⟨pp, xs, rfl, rfl, g1, g2, g3, g4⟩ := bxL_at r1 e1 q1
    refine ⟨.inl ⟨rfl, xs, .inl (.inl g3)⟩, tE.bind (rs.ext s1.toExt) r1 p1 fun y h2 w H2 F2 ι2 s2 r2 q2 p2 => ?_⟩
    cases e2 : bxL (.ref n) h2 with
    | none => simp only [e2] at p2; exact p2.elim
    | some nl =>
      obtain ⟨n', l'⟩ := nl
      simp only [e2] at p2
      obtain ⟨p', xs', e3, e4, g5, g6, g7, g8⟩ := bxL_at r2 e2 (.ref (s2.toExt.at_ g1))
      cases e3
      cases e4
      by_cases hl : l'.length < sizeLine
      · simp only [if_pos hl] at p2
        exact ⟨_, xs', w, rfl, rfl, g7, by rw [← g8.len]; exact hl, p2 _ _ F2 ι2 (Stp.put g5) (r2.put g5 g6 (fun z => nomatch z) (RelL.app (.cons q2 .nil) g8)) .non⟩
      · simp only [if_neg hl] at p2
        exact p2.elim
/-- x.pop() -/
def ePop (fa : EV) : EV := fun ρ h => (fa ρ h).bind fun x h1 => match bxL x h1 with
  | some (n, l) => match l[l.length - 1]? with
    | some y => .ok y (h1.set n (.lst l.dropLast))
    | none => .no
  | none => .no
theorem RelL.dropLast {l : List D} : ∀ {xs : List V}, RelL G F ι l xs → RelL G F ι l.dropLast xs.dropLast := by
  intro xs h
  rw [List.dropLast_eq_take, List.dropLast_eq_take, h.len]
  exact h.take _
theorem q_pop {apos : Pos} (ha : QE X G W a fa) (hbase : attributeBase a "pop" X.env (eval a X.env) = eval a X.env := by rfl) (hline : (apos.endLine == pos.line) = true := by rfl) : QE X G W (.Call (.Attribute a "pop" apos) [] [] pos) (ePop fa) := by
  refine qe_of (pe_bm0 PySem.F.plainAttrs_list PySem.F.slot_list_pop PySem.F.type_list_pop mt_pop ha hbase hline) fun σ H Q ⟨ρ, h, F, ι, rs, r0, p⟩ => tE.bind rs r0 p fun x h1 v H1 F1 ι1 s1 r1 q1 p1 => ?_
  cases e1 : bxL x h1 with
  | none => simp only [e1] at p1; exact p1.elim
  | some nl =>
    obtain ⟨n, l⟩ := nl
    simp only [e1] at p1
    obtain ⟨pp, xs, rfl, rfl, g1, g2, g3, g4⟩ := bxL_at r1 e1 q1
    cases e2 : l[l.length - 1]? with
    | none => simp only [e2] at p1; exact p1.elim
    | some y =>
      simp only [e2] at p1
      obtain ⟨w, g5, g6⟩ := g4.get' e2
      exact ⟨.inl ⟨rfl, xs, .inl (.inl g3)⟩, _, xs, w, rfl, rfl, g3, by rw [← g4.len]; exact g5, p1 _ _ F1 ι1 (Stp.put g1) (r1.put g1 g2 (fun z => nomatch z) g4.dropLast) g6⟩
/-- x.clear() -/
def eClr (fa : EV) : EV := fun ρ h => (fa ρ h).bind fun x h1 => match bxL x h1 with
  | some (n, l) => .ok .non (h1.set n (.lst []))
  | none => .no
theorem q_clr {apos : Pos} (ha : QE X G W a fa) (hbase : attributeBase a "clear" X.env (eval a X.env) = eval a X.env := by rfl) (hline : (apos.endLine == pos.line) = true := by rfl) : QE X G W (.Call (.Attribute a "clear" apos) [] [] pos) (eClr fa) := by
  refine qe_of (pe_bm0 PySem.F.plainAttrs_list PySem.F.slot_list_clear PySem.F.type_list_clear mt_clear ha hbase hline) fun σ H Q ⟨ρ, h, F, ι, rs, r0, p⟩ => tE.bind rs r0 p fun x h1 v H1 F1 ι1 s1 r1 q1 p1 => ?_
  cases e1 : bxL x h1 with
  | none => simp only [e1] at p1; exact p1.elim
  | some nl =>
    obtain ⟨n, l⟩ := nl
    simp only [e1] at p1
    obtain ⟨pp, xs, rfl, rfl, g1, g2, g3, g4⟩ := bxL_at r1 e1 q1
    exact ⟨.inl ⟨rfl, xs, .inl (.inl g3)⟩, _, xs, rfl, rfl, g3, p1 _ _ F1 ι1 (Stp.put g1) (r1.put g1 g2 (fun z => nomatch z) .nil) .non⟩
end
end U
/-! displays of dicts; written dicts -/
namespace U
open PySem PySem.Spec PyProof.Rows L2 RZ

/-! ### {k: v, ..}, the keys told -/
def dP : List (Key × EV) → Rho → Hs → R (List (Key × D))
  | [], _, h => .ok [] h
  | (k, f) :: r, ρ, h => (f ρ h).bind fun d h1 => (dP r ρ h1).bind fun ps h2 => .ok ((k, d) :: ps) h2
/-- a box -/
def eDic (kfs : List (Key × EV)) : EV := fun ρ h => (dP kfs ρ h).bind fun ps h1 => .ok (.ref h1.length) (h1 ++ [.dK (mergeKd [] ps)])
def QPs (X : Cx) (G : Gn) (W : WX) (pos : Pos) (keys : List (Option Expr)) (values : List Expr) (kfs : List (Key × EV)) : Prop := PPs X pos keys values (kfs.map fun q => (tC (kV q.1), tE G W q.2))
section
variable {X : Cx} {G : Gn} {W : WX} {k : Nat} {F : Hp} {ι : List Addr} {h : Hs} {H : Hp} {a b : Expr} {fa fb fc : EV} {pos : Pos}
theorem qps_nil : QPs X G W pos [] [] [] := pps_nil
theorem qps_str {x : Str} {j : Nat} {kp : Pos} {ks : List (Option Expr)} {vs : List Expr} {f : EV} {kfs : List (Key × EV)} (hv : QE X G W a f) (hr : QPs X G W pos ks vs kfs) : QPs X G W pos (some (.Constant (.str x) j kp) :: ks) (a :: vs) ((.inr x, f) :: kfs) := pps_cons pe_str hv hr
theorem qps_int {x : Int} {j : Nat} {kp : Pos} {ks : List (Option Expr)} {vs : List Expr} {f : EV} {kfs : List (Key × EV)} (hv : QE X G W a f) (hr : QPs X G W pos ks vs kfs) : QPs X G W pos (some (.Constant (.int x) j kp) :: ks) (a :: vs) ((.inl x, f) :: kfs) := pps_cons pe_int hv hr
/-- what stands at p goes on, p no concern of ours -/
theorem goesK {F' : Hp} {ι' : List Addr} {H' : Hp} {p : Addr} {u : HO} (s : Stp F ι H F' ι' H') (a : H p = some u) (b : p ∉ ι) (z : F p = none) (nt : ∀ ps, u ≠ .tbl ps) : H' p = some u ∧ p ∉ ι' ∧ F' p = none := by
  refine ⟨s.kp _ _ a b nt, fun m => ?_, ?_⟩
  · have := s.fr _ m b
    rw [a] at this
    cases this
  · cases q : F' p with
    | none => rfl
    | some u =>
      rcases s.fx _ _ q z with z | z
      · exact absurd z b
      · rw [a] at z
        cases z
theorem pairs_of {ρ : Rho} {σ : L2.St} {p : Addr} {F0 : Hp} {ι0 : List Addr} {H0 : Hp} (n0 : H0 p = none) : ∀ (kfs : List (Key × EV)) {h : Hs} {F : Hp} {ι : List Addr} {H : Hp} {Q : List (V × V) → Hp → Prop}, RelS G F ι ρ σ → Rs G F ι h H → Stp F0 ι0 H0 F ι H → H p = some (.dK []) → p ∉ ι → F p = none →
    (match dP kfs ρ h with
      | .ok ps h1 => ∀ kvs F1 ι1 H1, Ext F ι F1 ι1 → Stp F0 ι0 H0 F1 ι1 H1 → Rs G F1 ι1 h1 H1 → H1 p = some (.dK []) → p ∉ ι1 → F1 p = none → RelK G F1 ι1 ps kvs → Q (kvs.map fun kv => (kV kv.1, kv.2)) H1
      | .er c h1 => ∀ H1 F1 ι1, Stp F0 ι0 H0 F1 ι1 H1 → Rs G F1 ι1 h1 H1 → W (.ref (G.cl c)) none σ H1
      | .no => False) → tPairs (kfs.map fun q => (tC (kV q.1), tE G W q.2)) σ H Q
  | [], h, F, ι, H, Q, rs, r, s, g1, g2, g3, q => q [] F ι H (Ext.refl _ _) s r g1 g2 g3 .nil
  | (kk, f) :: kfs, h, F, ι, H, Q, rs, r, s, g1, g2, g3, q => by
    refine (show tC (kV kk) σ H (fun x H1 => tE G W f σ H1 fun y H2 => tPairs (kfs.map fun q => (tC (kV q.1), tE G W q.2)) σ H2 fun ps H3 => Q ((x, y) :: ps) H3) from ?_)
    refine (show tE G W f σ H (fun y H2 => tPairs (kfs.map fun q => (tC (kV q.1), tE G W q.2)) σ H2 fun ps H3 => Q ((kV kk, y) :: ps) H3) from ?_)
    refine ⟨ρ, h, F, ι, rs, r, ?_⟩
    unfold dP at q
    cases e : f ρ h with
    | no => simp only [e, R.bind_no] at q
    | er c h1 =>
      simp only [e, R.bind_er] at q
      exact fun H1 F1 ι1 s1 r1 => q H1 F1 ι1 (s.trans s1) r1
    | ok d h1 =>
      intro y H2 F2 ι2 s2 r2 q2
      obtain ⟨a1, a2, a3⟩ := goesK s2 g1 g2 g3 (fun _ z => nomatch z)
      refine pairs_of n0 kfs (rs.ext s2.toExt) r2 (s.trans s2) a1 a2 a3 ?_
      simp only [e, R.bind_ok] at q
      cases e2 : dP kfs ρ h1 with
      | no => simp only [e2, R.bind_no] at q
      | er c h2 =>
        simp only [e2, R.bind_er] at q
        exact q
      | ok ps h2 =>
        simp only [e2, R.bind_ok] at q
        intro kvs F1 ι1 H1 ex s1 r1 b1 b2 b3 rk
        exact q ((kk, y) :: kvs) F1 ι1 H1 (s2.toExt.trans ex) s1 r1 b1 b2 b3 (.cons (q2.ext ex) rk)
/-- a box of ours from now on, a dict -/
theorem Rs.boxK (r : Rs G F ι h H) {p : Addr} {xs : List (Key × V)} {ds : List (Key × D)} (n : p ∉ ι) (nF : F p = none) (e : H p = some (.dK xs)) (q : RelK G F ι ds xs) : Rs G F (ι ++ [p]) (h ++ [.dK ds]) H ∧ Ext F ι F (ι ++ [p]) := by
  have ee : Ext F ι F (ι ++ [p]) := ⟨fun _ _ h => h, List.prefix_append _ _⟩
  refine ⟨⟨r.fz, r.nf, fun i a o m e2 e3 => ?_, ?_, ?_, fun i o' q' => ?_⟩, ee⟩
  · by_cases hi : i < h.length
    · rw [List.getElem?_append_left hi] at e2
      rw [List.getElem?_append_left (by rw [r.len]; exact hi)] at m
      exact r.sep i a o m e2 e3
    · rw [List.getElem?_append_right (by rw [r.len]; omega)] at m
      have z : a = p := by
        have := List.mem_of_getElem? m
        simpa using this
      rw [z]
      exact nF
  · rw [List.length_append, List.length_append, r.len]
    rfl
  · exact List.nodup_append.mpr ⟨r.nd, by simp, fun a ha b hb z => by
      have : b = p := by simpa using hb
      rw [z, this] at ha
      exact n ha⟩
  · by_cases hi : i < h.length
    · rw [List.getElem?_append_left hi] at q'
      obtain ⟨b, x, e1, e2, e3⟩ := r.obj i o' q'
      exact ⟨b, x, ee.at_ e1, e2, e3.ext ee⟩
    · rw [List.getElem?_append_right (by omega)] at q'
      have hz : i - h.length = 0 := by
        have := (List.getElem?_eq_some_iff.mp q').1
        simp at this
        omega
      rw [hz] at q'
      have q' : Ob.dK ds = o' := by simpa using q'
      subst q'
      refine ⟨p, _, ?_, e, RelK.ext ee q⟩
      rw [List.getElem?_append_right (by rw [r.len]; omega), r.len, hz]
      rfl
theorem q_dic {keys : List (Option Expr)} {values : List Expr} {kfs : List (Key × EV)} (hp : QPs X G W pos keys values kfs) (hn : kfs.length ≤ 15 := by decide) (hall : keys.all (·.isSome) = true := by rfl) (hl : keys.length = values.length := by rfl) (h0 : keys ≠ [] := by exact fun z => nomatch z)
    (h15 : keys.length ≤ 15 := by decide) : QE X G W (.Dict keys values pos) (eDic kfs) := by
  have dl : ∀ (kfs : List (Key × EV)) ρ h ps h1, dP kfs ρ h = .ok ps h1 → ps.length = kfs.length := fun kfs => by
    induction kfs with
    | nil => intro ρ h ps h1 e; cases e; rfl
    | cons q kfs ih =>
      obtain ⟨kk, f⟩ := q
      intro ρ h ps h1 e
      unfold dP at e
      cases e1 : f ρ h with
      | no => simp only [e1, R.bind_no] at e; cases e
      | er c h1 => simp only [e1, R.bind_er] at e; cases e
      | ok d h2 =>
        simp only [e1, R.bind_ok] at e
        cases e2 : dP kfs ρ h2 with
        | no => simp only [e2, R.bind_no] at e; cases e
        | er c h1 => simp only [e2, R.bind_er] at e; cases e
        | ok ps' h3 =>
          simp only [e2, R.bind_ok] at e
          cases e
          simp [ih _ _ _ _ e2]
  refine qe_of (pe_disp hp hall hl h0 h15) fun σ H Q ⟨ρ, h, F, ι, rs, r0, p⟩ p' n0 => ?_
  have nι : p' ∉ ι := fun m => r0.inbox m n0
  have nF : F p' = none := by
    cases z : F p' with
    | none => rfl
    | some u => exact absurd n0 (rd_some (r0.fz _ _ z))
  refine pairs_of n0 kfs rs (r0.side nι nF) ((Stp.refl F ι H).side n0) upd_same nι nF ?_
  unfold eDic at p
  cases e : dP kfs ρ h with
  | no => rw [e] at p; exact p.elim
  | er c h1 =>
    rw [e] at p
    exact p
  | ok ps h1 =>
    rw [e, R.bind_ok] at p
    intro kvs F1 ι1 H1 ex s1 r1 b1 b2 b3 rk
    refine ⟨b1, kvs, rfl, by rw [← relK_len rk, dl _ _ _ _ _ e]; exact hn, ?_⟩
    have rm : RelK G F1 ι1 (mergeKd [] ps) (mergeK [] kvs) := relK_merge rk .nil
    obtain ⟨r2, e2⟩ := (r1.side (u := .dK (mergeK [] kvs)) b2 b3).boxK b2 b3 upd_same rm
    refine p _ _ F1 (ι1 ++ [p']) ?_ r2 (.ref ?_)
    · have s2 := s1.side (u := .dK (mergeK [] kvs)) n0
      exact ⟨⟨s2.fz, s2.bx.trans (List.prefix_append _ _)⟩, fun a m z => by
        rcases List.mem_append.mp m with m | m
        · exact s2.fr a m z
        · have : a = p' := by simpa using m
          rw [this]
          exact n0, s2.kp, s2.tb, s2.fx⟩
    · rw [← r1.len, List.getElem?_append_right (Nat.le_refl _), Nat.sub_self]
      rfl
end
/-! ### a written dict with text keys -/
structure WTab (K : PySem.W.Frag) (w : World) (G : Gn) (mg : Str → Option Value) (x : Str) (tab : List (Str × D)) : Prop where
  ex : ∃ p, mg x = some (.ref p) ∧ ∀ z d, tab.lookup z = some d → ∀ F ι, ∃ v, KDct K w p z v ∧ Rel G F ι d v
def eWt (tab : List (Str × D)) (fb : EV) : EV := fun ρ h => (fb ρ h).bind fun y h1 => match y with
  | .str z => match tab.lookup z with
    | some d => .ok d h1
    | none => .no
  | _ => .no
theorem q_wt {X : Cx} {G : Gn} {W : WX} {b : Expr} {fb : EV} {x : Str} {tab : List (Str × D)} {pos p : Pos} (T : WTab X.K X.w G X.mg x tab) (hb : QE X G W b fb) (hg : Gl X x := by rfl) (hd : (x == ("__debug__" : Str)) = false := by decide) (hs : PlainIx b := by intro _ _; rfl) :
    QE X G W (.Subscript (.Name x p) b pos) (eWt tab fb) := by
  obtain ⟨a, hm, ht⟩ := T.ex
  refine qe_of (pe_ix ix_kdict (pe_glob (v := .ref a) hg hm rfl hd) hb hs) fun σ H Q ⟨ρ, h, F, ι, rs, r0, p⟩ => ?_
  refine tE.bind rs r0 p fun y h1 v H1 F1 ι1 s1 r1 q1 p1 => ?_
  cases y with
  | str z =>
    cases q1
    cases e : tab.lookup z with
    | none => simp only [e] at p1; exact p1.elim
    | some d =>
      simp only [e] at p1
      obtain ⟨u, k1, k2⟩ := ht z d e F1 ι1
      exact ⟨a, z, u, rfl, rfl, k1, Pst.okk p1 r1 k2⟩
  | _ => exact p1.elim
/-! what stands written, told -/
mutual
def relDB (K : PySem.W.Frag) : D → Value → Bool
  | .non, .none => true
  | .bl b, .bool c => b == c
  | .int i, .int j _ => i == j
  | .str x, .str y _ => x == y
  | .tup l, .ref a => match K.lookup a with
    | some ⟨.type c, _, .seq its _, _⟩ => c == "tuple" && decide (its.size ≤ sizeLine) && relLB K l its.toList
    | _ => false
  | _, _ => false
def relLB (K : PySem.W.Frag) : List D → List Value → Bool
  | [], [] => true
  | d :: l, u :: us => relDB K d u && relLB K l us
  | _, _ => false
end
mutual
theorem relDB_ok {G : Gn} {F : Hp} {ι : List Addr} : ∀ {d : D} {u : Value}, relDB G.K d u = true → ∃ v, RelV v u ∧ Rel G F ι d v
  | .non, u, h => by cases u <;> first | exact ⟨.non, rfl, .non⟩ | (simp [relDB] at h)
  | .bl b, u, h => by
    cases u with
    | bool c =>
      have : b = c := by simpa [relDB] using h
      subst this
      exact ⟨.bl b, rfl, .bl b⟩
    | _ => simp [relDB] at h
  | .int i, u, h => by
    cases u with
    | int j t =>
      have : i = j := by simpa [relDB] using h
      subst this
      exact ⟨.int i, ⟨t, rfl⟩, .int i⟩
    | _ => simp [relDB] at h
  | .str x, u, h => by
    cases u with
    | str y t =>
      have : x = y := by simpa [relDB] using h
      subst this
      exact ⟨.str x, ⟨t, rfl⟩, .str x⟩
    | _ => simp [relDB] at h
  | .tup l, u, h => by
    cases u with
    | ref a =>
      unfold relDB at h
      split at h
      · rename_i c od its n sl e
        simp only [Bool.and_eq_true, beq_iff_eq, decide_eq_true_eq] at h
        obtain ⟨vs, r1, r2⟩ := relLB_ok (G := G) (F := F) (ι := ι) h.2
        obtain ⟨rfl, hz⟩ := h.1
        exact ⟨.ref a, rfl, .tup (.inr ⟨_, its, n, e, rfl, rfl, hz, r1⟩) r2⟩
      · cases h
    | _ => simp [relDB] at h
  | .ty _, u, h => by simp [relDB] at h
  | .lst _, u, h => by simp [relDB] at h
  | .dic _, u, h => by simp [relDB] at h
  | .dit _, u, h => by simp [relDB] at h
  | .ref _, u, h => by simp [relDB] at h
  | .fn _, u, h => by simp [relDB] at h
theorem relLB_ok {G : Gn} {F : Hp} {ι : List Addr} : ∀ {l : List D} {us : List Value}, relLB G.K l us = true → ∃ vs, Vals vs us ∧ RelL G F ι l vs
  | [], [], _ => ⟨[], .nil, .nil⟩
  | [], _ :: _, h => by simp [relLB] at h
  | _ :: _, [], h => by simp [relLB] at h
  | d :: l, u :: us, h => by
    simp only [relLB, Bool.and_eq_true] at h
    obtain ⟨v, r1, q1⟩ := relDB_ok (G := G) (F := F) (ι := ι) h.1
    obtain ⟨vs, r2, q2⟩ := relLB_ok (G := G) (F := F) (ι := ι) h.2
    exact ⟨v :: vs, .cons r1 r2, .cons q1 q2⟩
end
/-- the table tab at x, as the head may tell it -/
def tabB (x : Str) (tab : List (Str × D)) (K : PySem.W.Frag) : Bool := tab.all fun q => match PySem.W.nsIn K (He.ga K x) q.1 with
  | some (some u) => relDB K q.2 u
  | _ => false
theorem wtab_of {G : Gn} {w : World} {mg : Str → Option Value} {x : Str} {tab : List (Str × D)} {es : Array DictEntry} {n : Nat} (D' : KDict G.K w (He.ga G.K x) es n) (hm : mg x = some (.ref (He.ga G.K x))) (hb : tabB x tab G.K = true) : WTab G.K w G mg x tab := by
  refine ⟨_, hm, fun z d e F ι => ?_⟩
  have hmem : (z, d) ∈ tab := by
    clear hb
    induction tab with
    | nil => cases e
    | cons q tab ih =>
      obtain ⟨k, d'⟩ := q
      rw [List.lookup_cons] at e
      cases hk : z == k with
      | true =>
        rw [hk] at e
        cases e
        have : z = k := by simpa using hk
        subst this
        exact List.mem_cons_self ..
      | false =>
        rw [hk] at e
        exact List.mem_cons_of_mem _ (ih e)
  have h1 := List.all_eq_true.mp hb _ hmem
  cases q : PySem.W.nsIn G.K (He.ga G.K x) z with
  | none => simp only [q] at h1; cases h1
  | some r =>
    cases r with
    | none => simp only [q] at h1; cases h1
    | some u =>
      simp only [q] at h1
      obtain ⟨v, r1, r2⟩ := relDB_ok (G := G) (F := F) (ι := ι) h1
      exact ⟨v, ⟨es, n, u, D'.at_, D'.lit, q, r1⟩, r2⟩
end U
namespace Gk02
open PySem PySem.Spec PyProof.Rows L2 RZ U
def tab_SHAPES : List (Str × D) := [("make", (.tup [(.str "name"), (.str "name"), (.str "term")])), ("burn", (.tup [(.str "name")])), ("split", (.tup [(.str "name"), (.str "name"), (.str "name"), (.str "term")])), ("join", (.tup [(.str "name"), (.str "name"), (.str "name")])), ("pack", (.tup [(.str "name"), (.str "name"), (.str "name"), (.str "name")])), ("unpack", (.tup [(.str "name"), (.str "name"), (.str "name")])), ("put", (.tup [(.str "name"), (.str "name")])), ("take", (.tup [(.str "name"), (.str "name"), (.str "term")])), ("set", (.tup [(.str "name"), (.str "term")])), ("lend", (.tup [(.str "name"), (.str "name"), (.str "block")])), ("ask", (.tup [(.str "block"), (.str "block")])), ("loop", (.tup [(.str "block")])), ("call", (.tup [(.str "names"), (.str "name"), (.str "name"), (.str "terms")])), ("try", (.tup [(.str "names"), (.str "name"), (.str "name"), (.str "terms"), (.str "block"), (.str "block")])), ("refuse", (.tup [])), ("give", (.tup [(.str "terms")]))]
def topS (i : Nat) : Stmt := PySem.Challenge.pw_usedonce_k02_what_is_ended.main.body.getD i (.Pass ⟨0, 0, 0, 0⟩)
abbrev s__law_mixed : Stmt := topS 6
abbrev N__law_mixed : List Str := ["_law_cell", "_law_k", "_law_number"]
abbrev P__law_mixed : List Str := ["_law_cell", "_law_k"]
theorem sc__law_mixed : FnScope N__law_mixed P__law_mixed (defScope s__law_mixed) := ⟨rfl, rfl, rfl, by decide +kernel, rfl, by decide +kernel, by decide +kernel⟩
abbrev s__law_draw : Stmt := topS 8
abbrev N__law_draw : List Str := ["_law_well_here", "_law_many", "_law_found"]
abbrev P__law_draw : List Str := ["_law_well_here", "_law_many"]
theorem sc__law_draw : FnScope N__law_draw P__law_draw (defScope s__law_draw) := ⟨rfl, rfl, rfl, by decide +kernel, rfl, by decide +kernel, by decide +kernel⟩
abbrev s__law_inner : Stmt := topS 12
abbrev N__law_inner : List Str := ["_law_statement_here"]
abbrev P__law_inner : List Str := ["_law_statement_here"]
theorem sc__law_inner : FnScope N__law_inner P__law_inner (defScope s__law_inner) := ⟨rfl, rfl, rfl, by decide +kernel, rfl, by decide +kernel, by decide +kernel⟩
abbrev s__law_due : Stmt := topS 13
abbrev N__law_due : List Str := ["_law_block_here", "_law_last", "_law_inner_here"]
abbrev P__law_due : List Str := ["_law_block_here"]
theorem sc__law_due : FnScope N__law_due P__law_due (defScope s__law_due) := ⟨rfl, rfl, rfl, by decide +kernel, rfl, by decide +kernel, by decide +kernel⟩
abbrev s__law_statement : Stmt := topS 10
abbrev N__law_statement : List Str := ["_law_well_here", "_law_mind", "_law_deep", "_law_way", "_law_name", "_law_block_here", "_law_first", "_law_second"]
abbrev P__law_statement : List Str := ["_law_well_here", "_law_mind", "_law_deep"]
theorem sc__law_statement : FnScope N__law_statement P__law_statement (defScope s__law_statement) := ⟨rfl, rfl, rfl, by decide +kernel, rfl, by decide +kernel, by decide +kernel⟩
abbrev s__law_block : Stmt := topS 11
abbrev N__law_block : List Str := ["_law_well_here", "_law_mind", "_law_deep", "_law_found", "_law_k"]
abbrev P__law_block : List Str := ["_law_well_here", "_law_mind", "_law_deep"]
theorem sc__law_block : FnScope N__law_block P__law_block (defScope s__law_block) := ⟨rfl, rfl, rfl, by decide +kernel, rfl, by decide +kernel, by decide +kernel⟩
abbrev s__law_cell_at : Stmt := topS 5
abbrev N__law_cell_at : List Str := ["_law_script", "_law_k"]
abbrev P__law_cell_at : List Str := ["_law_script", "_law_k"]
theorem sc__law_cell_at : FnScope N__law_cell_at P__law_cell_at (defScope s__law_cell_at) := ⟨rfl, rfl, rfl, by decide +kernel, rfl, by decide +kernel, by decide +kernel⟩
abbrev s__law_well : Stmt := topS 7
abbrev N__law_well : List Str := ["_law_script", "_law_k", "_law_cell"]
abbrev P__law_well : List Str := ["_law_script", "_law_k"]
theorem sc__law_well : FnScope N__law_well P__law_well (defScope s__law_well) := ⟨rfl, rfl, rfl, by decide +kernel, rfl, by decide +kernel, by decide +kernel⟩
abbrev s_blocks_in : Stmt := topS 2
abbrev N_blocks_in : List Str := ["statement", "sorts", "sort", "part"]
abbrev P_blocks_in : List Str := ["statement"]
theorem sc_blocks_in : FnScope N_blocks_in P_blocks_in (defScope s_blocks_in) := ⟨rfl, rfl, rfl, by decide +kernel, rfl, by decide +kernel, by decide +kernel⟩
abbrev s_is_ended : Stmt := topS 3
abbrev N_is_ended : List Str := ["block", "last", "inner"]
abbrev P_is_ended : List Str := ["block"]
theorem sc_is_ended : FnScope N_is_ended P_is_ended (defScope s_is_ended) := ⟨rfl, rfl, rfl, by decide +kernel, rfl, by decide +kernel, by decide +kernel⟩
abbrev s__law_right : Stmt := topS 14
abbrev N__law_right : List Str := ["_law_block_here", "_law_found", "_law_statement_here", "_law_inner_here"]
abbrev P__law_right : List Str := ["_law_block_here"]
theorem sc__law_right : FnScope N__law_right P__law_right (defScope s__law_right) := ⟨rfl, rfl, rfl, by decide +kernel, rfl, by decide +kernel, by decide +kernel⟩
abbrev s_law : Stmt := topS 15
abbrev N_law : List Str := ["_law_script", "_law_k", "_law_mind", "_law_block_here"]
abbrev P_law : List Str := ["_law_script"]
theorem sc_law : FnScope N_law P_law (defScope s_law) := ⟨rfl, rfl, rfl, by decide +kernel, rfl, by decide +kernel, by decide +kernel⟩
def b__law_mixed (n : Nat) : SV := (sSeq (sSet 2 (eOp opMod (eOp opMul (eOp opAdd (eOp opAdd (eVar 0) (eOp opMul (eC (.int 7919)) (eVar 1))) (eC (.int 1))) (eC (.int 48271))) (eC (.int 2147483647))))
  (sSeq (sSet 2 (eOp opMod (eOp opMul (eVar 2) (eOp opAdd (eOp opDiv (eVar 2) (eC (.int 1009))) (eC (.int 69621)))) (eC (.int 2147483647))))
  (sRet (eOp opMod (eOp opMul (eVar 2) (eOp opAdd (eOp opDiv (eVar 2) (eC (.int 2003))) (eC (.int 40692)))) (eC (.int 2147483399))))))
def m__law_mixed : Nat → DF
  | 0 => fun _ _ => .no
  | n + 1 => runD 2 3 false (b__law_mixed n)
def b__law_draw (n : Nat) : SV := (sSeq (sIf (bE (eOp opGe (eOp opIx (eVar 0) (eC (.int 0))) (eVar 1))) (sSeq (sSet 2 (eOp opMod (eOp opIx (eVar 0) (eC (.int 0))) (eVar 1)))
  (sSeq (sPut (eVar 0) (eC (.int 0)) (eOp opDiv (eOp opIx (eVar 0) (eC (.int 0))) (eVar 1)))
  (sRet (eVar 2)))) sNil)
  (sSeq (sPut (eVar 0) (eC (.int 2)) (eOp opAdd (eOp opIx (eVar 0) (eC (.int 2))) (eC (.int 1))))
  (sRet (eOp opMod (eCall (m__law_mixed n) (aCons (eOp opIx (eVar 0) (eC (.int 1))) (aCons (eOp opIx (eVar 0) (eC (.int 2))) aNil))) (eVar 1)))))
def m__law_draw : Nat → DF
  | 0 => fun _ _ => .no
  | n + 1 => runD 2 3 false (b__law_draw n)
def b__law_inner (n : Nat) : SV := (sSeq (sIf (bE (eOp opEq (eOp opIx (eVar 0) (eC (.int 0))) (eC (.str "ask")))) (sRet (eLst (aCons (eOp opIx (eVar 0) (eC (.int 1))) (aCons (eOp opIx (eVar 0) (eC (.int 2))) aNil)))) sNil)
  (sSeq (sIf (bE (eOp opEq (eOp opIx (eVar 0) (eC (.int 0))) (eC (.str "loop")))) (sRet (eLst (aCons (eOp opIx (eVar 0) (eC (.int 1))) aNil))) sNil)
  (sSeq (sIf (bE (eOp opEq (eOp opIx (eVar 0) (eC (.int 0))) (eC (.str "lend")))) (sRet (eLst (aCons (eOp opIx (eVar 0) (eC (.int 3))) aNil))) sNil)
  (sSeq (sIf (bE (eOp opEq (eOp opIx (eVar 0) (eC (.int 0))) (eC (.str "try")))) (sRet (eLst (aCons (eOp opIx (eVar 0) (eC (.int 5))) (aCons (eOp opIx (eVar 0) (eC (.int 6))) aNil)))) sNil)
  (sRet (eLst aNil))))))
def m__law_inner : Nat → DF
  | 0 => fun _ _ => .no
  | n + 1 => runD 1 1 false (b__law_inner n)
def m__law_due : Nat → DF
  | 0 => fun _ _ => .no
  | n + 1 => runD 1 3 false (sSeq (sIf (bE (eOp opEq (eVar 0) (eTup aNil))) (sRet (eC (.bl false))) sNil)
  (sSeq (sSet 1 (eOp opIx (eVar 0) (eNeg (eC (.int 1)))))
  (sSeq (sIf (bOr (bE (eOp opEq (eOp opIx (eVar 1) (eC (.int 0))) (eC (.str "give")))) (bE (eOp opEq (eOp opIx (eVar 1) (eC (.int 0))) (eC (.str "refuse"))))) (sRet (eC (.bl true))) sNil)
  (sSeq (sIf (bOr (bE (eOp opEq (eOp opIx (eVar 1) (eC (.int 0))) (eC (.str "ask")))) (bOr (bE (eOp opEq (eOp opIx (eVar 1) (eC (.int 0))) (eC (.str "try")))) (bE (eOp opEq (eOp opIx (eVar 1) (eC (.int 0))) (eC (.str "lend")))))) (sRet (eOp opEq (eLc [2] (iSeq (eCall (m__law_inner n) (aCons (eVar 1) aNil))) (.nm 2) (bNot (bE (eCall (m__law_due n) (aCons (eVar 2) aNil)))) (eVar 2)) (eLst aNil))) sNil)
  (sRet (eC (.bl false)))))))
abbrev b__law_due (n : Nat) : SV := (sSeq (sIf (bE (eOp opEq (eVar 0) (eTup aNil))) (sRet (eC (.bl false))) sNil)
  (sSeq (sSet 1 (eOp opIx (eVar 0) (eNeg (eC (.int 1)))))
  (sSeq (sIf (bOr (bE (eOp opEq (eOp opIx (eVar 1) (eC (.int 0))) (eC (.str "give")))) (bE (eOp opEq (eOp opIx (eVar 1) (eC (.int 0))) (eC (.str "refuse"))))) (sRet (eC (.bl true))) sNil)
  (sSeq (sIf (bOr (bE (eOp opEq (eOp opIx (eVar 1) (eC (.int 0))) (eC (.str "ask")))) (bOr (bE (eOp opEq (eOp opIx (eVar 1) (eC (.int 0))) (eC (.str "try")))) (bE (eOp opEq (eOp opIx (eVar 1) (eC (.int 0))) (eC (.str "lend")))))) (sRet (eOp opEq (eLc [2] (iSeq (eCall (m__law_inner n) (aCons (eVar 1) aNil))) (.nm 2) (bNot (bE (eCall (m__law_due n) (aCons (eVar 2) aNil)))) (eVar 2)) (eLst aNil))) sNil)
  (sRet (eC (.bl false)))))))
mutual
def m__law_statement : Nat → DF
  | 0 => fun _ _ => .no
  | n + 1 => runD 3 8 false (sSeq (sPut (eVar 1) (eC (.str "left")) (eOp opSub (eOp opIx2 (eVar 1) (eC (.str "left"))) (eC (.int 1))))
  (sSeq (sSet 3 (eCall (m__law_draw n) (aCons (eVar 0) (aCons (eC (.int 10)) aNil))))
  (sSeq (sIf (bOr (bE (eOp opLt (eVar 3) (eC (.int 2)))) (bAnd (bE (eOp opGt (eVar 2) (eC (.int 3)))) (bE (eOp opGt (eVar 3) (eC (.int 3)))))) (sRet (eTup (aCons (eC (.str "set")) (aCons (eC (.str "n")) (aCons (eCall (m__law_draw n) (aCons (eVar 0) (aCons (eOp opAdd (eOp opPow (eC (.int 10)) (eC (.int 12))) (eC (.int 1))) aNil))) aNil))))) sNil)
  (sSeq (sIf (bOr (bE (eOp opEq (eVar 3) (eC (.int 2)))) (bAnd (bE (eOp opEq (eVar 3) (eC (.int 3)))) (bE (eOp opGt (eOp opIx2 (eVar 1) (eC (.str "lends"))) (eC (.int 0)))))) (sRet (eTup (aCons (eC (.str "refuse")) aNil))) sNil)
  (sSeq (sIf (bE (eOp opEq (eVar 3) (eC (.int 3)))) (sRet (eTup (aCons (eC (.str "give")) (aCons (eTup aNil) aNil)))) sNil)
  (sSeq (sIf (bAnd (bE (eOp opEq (eVar 3) (eC (.int 5)))) (bAnd (bE (eOp opEq (eOp opIx2 (eVar 1) (eC (.str "lends"))) (eC (.int 0)))) (bE (eOp opNe (eOp opIx2 (eVar 1) (eC (.str "pool"))) (eLst aNil))))) (sSeq (sSet 4 (ePop (eOp opIx2 (eVar 1) (eC (.str "pool")))))
  (sSeq (sPut (eVar 1) (eC (.str "lends")) (eC (.int 1)))
  (sSeq (sSet 5 (eCall (m__law_block n) (aCons (eVar 0) (aCons (eVar 1) (aCons (eOp opAdd (eVar 2) (eC (.int 1))) aNil)))))
  (sSeq (sPut (eVar 1) (eC (.str "lends")) (eC (.int 0)))
  (sRet (eTup (aCons (eC (.str "lend")) (aCons (eVar 4) (aCons (eC (.str "x")) (aCons (eVar 5) aNil)))))))))) sNil)
  (sSeq (sSet 6 (eCall (m__law_block n) (aCons (eVar 0) (aCons (eVar 1) (aCons (eOp opAdd (eVar 2) (eC (.int 1))) aNil)))))
  (sSeq (sIf (bOr (bE (eOp opEq (eVar 3) (eC (.int 4)))) (bE (eOp opEq (eVar 3) (eC (.int 5))))) (sRet (eTup (aCons (eC (.str "loop")) (aCons (eVar 6) aNil)))) sNil)
  (sSeq (sSet 7 (eCall (m__law_block n) (aCons (eVar 0) (aCons (eVar 1) (aCons (eOp opAdd (eVar 2) (eC (.int 1))) aNil)))))
  (sSeq (sIf (bE (eOp opEq (eVar 3) (eC (.int 6)))) (sRet (eTup (aCons (eC (.str "try")) (aCons (eTup aNil) (aCons (eC (.str "h")) (aCons (eC (.str "f")) (aCons (eTup aNil) (aCons (eVar 6) (aCons (eVar 7) aNil))))))))) sNil)
  (sRet (eTup (aCons (eC (.str "ask")) (aCons (eVar 6) (aCons (eVar 7) aNil)))))))))))))))
def m__law_block : Nat → DF
  | 0 => fun _ _ => .no
  | n + 1 => runD 3 5 false (sSeq (sSet 3 (eTup aNil))
  (sSeq (sFor (iRange (eCall (m__law_draw n) (aCons (eVar 0) (aCons (eC (.int 4)) aNil)))) (.nm 4) (sIf (bAnd (bE (eOp opGt (eOp opIx2 (eVar 1) (eC (.str "left"))) (eC (.int 0)))) (bNot (bE (eCall (m__law_due n) (aCons (eVar 3) aNil))))) (sSet 3 (eOp opAdd (eVar 3) (eTup (aCons (eCall (m__law_statement n) (aCons (eVar 0) (aCons (eVar 1) (aCons (eVar 2) aNil)))) aNil)))) sNil))
  (sRet (eVar 3))))
end
abbrev b__law_statement (n : Nat) : SV := (sSeq (sPut (eVar 1) (eC (.str "left")) (eOp opSub (eOp opIx2 (eVar 1) (eC (.str "left"))) (eC (.int 1))))
  (sSeq (sSet 3 (eCall (m__law_draw n) (aCons (eVar 0) (aCons (eC (.int 10)) aNil))))
  (sSeq (sIf (bOr (bE (eOp opLt (eVar 3) (eC (.int 2)))) (bAnd (bE (eOp opGt (eVar 2) (eC (.int 3)))) (bE (eOp opGt (eVar 3) (eC (.int 3)))))) (sRet (eTup (aCons (eC (.str "set")) (aCons (eC (.str "n")) (aCons (eCall (m__law_draw n) (aCons (eVar 0) (aCons (eOp opAdd (eOp opPow (eC (.int 10)) (eC (.int 12))) (eC (.int 1))) aNil))) aNil))))) sNil)
  (sSeq (sIf (bOr (bE (eOp opEq (eVar 3) (eC (.int 2)))) (bAnd (bE (eOp opEq (eVar 3) (eC (.int 3)))) (bE (eOp opGt (eOp opIx2 (eVar 1) (eC (.str "lends"))) (eC (.int 0)))))) (sRet (eTup (aCons (eC (.str "refuse")) aNil))) sNil)
  (sSeq (sIf (bE (eOp opEq (eVar 3) (eC (.int 3)))) (sRet (eTup (aCons (eC (.str "give")) (aCons (eTup aNil) aNil)))) sNil)
  (sSeq (sIf (bAnd (bE (eOp opEq (eVar 3) (eC (.int 5)))) (bAnd (bE (eOp opEq (eOp opIx2 (eVar 1) (eC (.str "lends"))) (eC (.int 0)))) (bE (eOp opNe (eOp opIx2 (eVar 1) (eC (.str "pool"))) (eLst aNil))))) (sSeq (sSet 4 (ePop (eOp opIx2 (eVar 1) (eC (.str "pool")))))
  (sSeq (sPut (eVar 1) (eC (.str "lends")) (eC (.int 1)))
  (sSeq (sSet 5 (eCall (m__law_block n) (aCons (eVar 0) (aCons (eVar 1) (aCons (eOp opAdd (eVar 2) (eC (.int 1))) aNil)))))
  (sSeq (sPut (eVar 1) (eC (.str "lends")) (eC (.int 0)))
  (sRet (eTup (aCons (eC (.str "lend")) (aCons (eVar 4) (aCons (eC (.str "x")) (aCons (eVar 5) aNil)))))))))) sNil)
  (sSeq (sSet 6 (eCall (m__law_block n) (aCons (eVar 0) (aCons (eVar 1) (aCons (eOp opAdd (eVar 2) (eC (.int 1))) aNil)))))
  (sSeq (sIf (bOr (bE (eOp opEq (eVar 3) (eC (.int 4)))) (bE (eOp opEq (eVar 3) (eC (.int 5))))) (sRet (eTup (aCons (eC (.str "loop")) (aCons (eVar 6) aNil)))) sNil)
  (sSeq (sSet 7 (eCall (m__law_block n) (aCons (eVar 0) (aCons (eVar 1) (aCons (eOp opAdd (eVar 2) (eC (.int 1))) aNil)))))
  (sSeq (sIf (bE (eOp opEq (eVar 3) (eC (.int 6)))) (sRet (eTup (aCons (eC (.str "try")) (aCons (eTup aNil) (aCons (eC (.str "h")) (aCons (eC (.str "f")) (aCons (eTup aNil) (aCons (eVar 6) (aCons (eVar 7) aNil))))))))) sNil)
  (sRet (eTup (aCons (eC (.str "ask")) (aCons (eVar 6) (aCons (eVar 7) aNil)))))))))))))))
abbrev b__law_block (n : Nat) : SV := (sSeq (sSet 3 (eTup aNil))
  (sSeq (sFor (iRange (eCall (m__law_draw n) (aCons (eVar 0) (aCons (eC (.int 4)) aNil)))) (.nm 4) (sIf (bAnd (bE (eOp opGt (eOp opIx2 (eVar 1) (eC (.str "left"))) (eC (.int 0)))) (bNot (bE (eCall (m__law_due n) (aCons (eVar 3) aNil))))) (sSet 3 (eOp opAdd (eVar 3) (eTup (aCons (eCall (m__law_statement n) (aCons (eVar 0) (aCons (eVar 1) (aCons (eVar 2) aNil)))) aNil)))) sNil))
  (sRet (eVar 3))))
def b__law_cell_at (n : Nat) : SV := (sSeq (sIf (bE (eOp opLt (eVar 1) (eCal opLenQ (eVar 0)))) (sRet (eOp opIx (eVar 0) (eVar 1))) sNil)
  (sRet (eC (.int 0))))
def m__law_cell_at : Nat → DF
  | 0 => fun _ _ => .no
  | n + 1 => runD 2 2 false (b__law_cell_at n)
def b__law_well (n : Nat) : SV := (sSeq (sSet 2 (eCall (m__law_cell_at n) (aCons (eVar 0) (aCons (eVar 1) aNil))))
  (sRet (eBox (aCons (eOp opMul (eVar 2) (eCal opInt (eOp opGe (eVar 2) (eOp opPow (eC (.int 10)) (eC (.int 18)))))) (aCons (eVar 2) (aCons (eC (.int 0)) aNil))))))
def m__law_well : Nat → DF
  | 0 => fun _ _ => .no
  | n + 1 => runD 2 3 true (b__law_well n)
def b_blocks_in (n : Nat) : SV := (sSeq (sSet 1 (eWt tab_SHAPES (eOp opIx (eVar 0) (eC (.int 0)))))
  (sRet (eLc [2, 3] (iZipD (eVar 1) (eSl (eVar 0) (pSome (eC (.int 1))) pNone)) (.tp [2, 3]) (bE (eOp opEq (eVar 2) (eC (.str "block")))) (eVar 3))))
def m_blocks_in : Nat → DF
  | 0 => fun _ _ => .no
  | n + 1 => runD 1 4 false (b_blocks_in n)
def m_is_ended : Nat → DF
  | 0 => fun _ _ => .no
  | n + 1 => runD 1 3 false (sSeq (sIf (bE (eOp opEq (eVar 0) (eTup aNil))) (sRet (eC (.bl false))) sNil)
  (sSeq (sSet 1 (eOp opIx (eVar 0) (eNeg (eC (.int 1)))))
  (sSeq (sIf (bOr (bE (eOp opEq (eOp opIx (eVar 1) (eC (.int 0))) (eC (.str "give")))) (bE (eOp opEq (eOp opIx (eVar 1) (eC (.int 0))) (eC (.str "refuse"))))) (sRet (eC (.bl true))) sNil)
  (sSeq (sIf (bE (eOp opIn (eOp opIx (eVar 1) (eC (.int 0))) (eTup (aCons (eC (.str "ask")) (aCons (eC (.str "try")) (aCons (eC (.str "lend")) aNil)))))) (sRet (eCal opAll (eLc [2] (iSeq (eCall (m_blocks_in n) (aCons (eVar 1) aNil))) (.nm 2) bYes (eCall (m_is_ended n) (aCons (eVar 2) aNil))))) sNil)
  (sRet (eC (.bl false)))))))
abbrev b_is_ended (n : Nat) : SV := (sSeq (sIf (bE (eOp opEq (eVar 0) (eTup aNil))) (sRet (eC (.bl false))) sNil)
  (sSeq (sSet 1 (eOp opIx (eVar 0) (eNeg (eC (.int 1)))))
  (sSeq (sIf (bOr (bE (eOp opEq (eOp opIx (eVar 1) (eC (.int 0))) (eC (.str "give")))) (bE (eOp opEq (eOp opIx (eVar 1) (eC (.int 0))) (eC (.str "refuse"))))) (sRet (eC (.bl true))) sNil)
  (sSeq (sIf (bE (eOp opIn (eOp opIx (eVar 1) (eC (.int 0))) (eTup (aCons (eC (.str "ask")) (aCons (eC (.str "try")) (aCons (eC (.str "lend")) aNil)))))) (sRet (eCal opAll (eLc [2] (iSeq (eCall (m_blocks_in n) (aCons (eVar 1) aNil))) (.nm 2) bYes (eCall (m_is_ended n) (aCons (eVar 2) aNil))))) sNil)
  (sRet (eC (.bl false)))))))
def m__law_right : Nat → DF
  | 0 => fun _ _ => .no
  | n + 1 => runD 1 4 false (sSeq (sSet 1 (eCall (m_is_ended n) (aCons (eVar 0) aNil)))
  (sSeq (sIf (bOr (bNot (bE (eCal (opIsi "bool") (eVar 1)))) (bE (eOp opNe (eVar 1) (eCall (m__law_due n) (aCons (eVar 0) aNil))))) (sRet (eC (.bl false))) sNil)
  (sSeq (sFor (iSeq (eVar 0)) (.nm 2) (sIf (bE (eOp opNe (eLc [3] (iSeq (eCall (m__law_inner n) (aCons (eVar 2) aNil))) (.nm 3) (bNot (bE (eCall (m__law_right n) (aCons (eVar 3) aNil)))) (eVar 3)) (eLst aNil))) (sRet (eC (.bl false))) sNil))
  (sRet (eC (.bl true))))))
abbrev b__law_right (n : Nat) : SV := (sSeq (sSet 1 (eCall (m_is_ended n) (aCons (eVar 0) aNil)))
  (sSeq (sIf (bOr (bNot (bE (eCal (opIsi "bool") (eVar 1)))) (bE (eOp opNe (eVar 1) (eCall (m__law_due n) (aCons (eVar 0) aNil))))) (sRet (eC (.bl false))) sNil)
  (sSeq (sFor (iSeq (eVar 0)) (.nm 2) (sIf (bE (eOp opNe (eLc [3] (iSeq (eCall (m__law_inner n) (aCons (eVar 2) aNil))) (.nm 3) (bNot (bE (eCall (m__law_right n) (aCons (eVar 3) aNil)))) (eVar 3)) (eLst aNil))) (sRet (eC (.bl false))) sNil))
  (sRet (eC (.bl true))))))
def b_law (n : Nat) : SV := (sSeq (sFor (iRange (eOp opMin (eC (.int 6)) (eCal opLenQ (eVar 0)))) (.nm 1) (sSeq (sSet 2 (eDic [(.inr "left", (eC (.int 50))), (.inr "lends", (eC (.int 0))), (.inr "pool", (eBox (aCons (eC (.str "a")) (aCons (eC (.str "b")) (aCons (eC (.str "c")) (aCons (eC (.str "d")) (aCons (eC (.str "e")) (aCons (eC (.str "f")) aNil))))))))]))
  (sSeq (sSet 3 (eCall (m__law_block n) (aCons (eCall (m__law_well n) (aCons (eVar 0) (aCons (eVar 1) aNil))) (aCons (eVar 2) (aCons (eC (.int 0)) aNil)))))
  (sSeq (sIf (bOr (bNot (bE (eCall (m__law_right n) (aCons (eVar 3) aNil)))) (bE (eCall (m_is_ended n) (aCons (eSl (eVar 3) pNone (pSome (eNeg (eC (.int 1))))) aNil)))) (sRet (eC (.bl false))) sNil)
  (sIf (bAnd (bNot (bE (eCall (m_is_ended n) (aCons (eVar 3) aNil)))) (bOr (bE (eCall (m_is_ended n) (aCons (eOp opAdd (eVar 3) (eTup (aCons (eTup (aCons (eC (.str "set")) (aCons (eC (.str "n")) (aCons (eC (.int 0)) aNil)))) aNil))) aNil))) (bNot (bE (eCall (m_is_ended n) (aCons (eOp opAdd (eVar 3) (eTup (aCons (eTup (aCons (eC (.str "refuse")) aNil)) aNil))) aNil)))))) (sRet (eC (.bl false))) sNil)))))
  (sRet (eOp opIs (eCall (m_is_ended n) (aCons (eTup aNil) aNil)) (eC (.bl false)))))
def m_law : Nat → DF
  | 0 => fun _ _ => .no
  | n + 1 => runD 1 4 false (b_law n)
section
variable {P : Program} {w : World} {K : PySem.W.Frag} {mg : Str → Option Value} {base : Heap} {G : Gn}
theorem d__law_mixed {n : Nat} (f : Addr) (cdv : Value) (A : Around) (outer : List Env) (s : Shared) (H : Hp) (E : XK) (W : WX) (bn : Bn (cxOf (L2.CX P w) P w K mg base N__law_mixed "_law_mixed" (defScope s__law_mixed) f cdv A outer s H E) G W n) : QSs (cxOf (L2.CX P w) P w K mg base N__law_mixed "_law_mixed" (defScope s__law_mixed) f cdv A outer s H E) G W (defBody s__law_mixed) (b__law_mixed n) :=
  (qs_cons (qs_set bn (i := 2) (q_bin or_mod (q_bin or_mul (q_bin (or_add bn) (q_bin (or_add bn) (q_var (i := 0)) (q_bin or_mul q_int (q_var (i := 1)))) q_int) q_int) q_int))
  (qs_cons (qs_set bn (i := 2) (q_bin or_mod (q_bin or_mul (q_var (i := 2)) (q_bin (or_add bn) (q_bin or_div (q_var (i := 2)) q_int) q_int)) q_int))
  (qs_one (qs_ret (q_bin or_mod (q_bin or_mul (q_var (i := 2)) (q_bin (or_add bn) (q_bin or_div (q_var (i := 2)) q_int) q_int)) q_int)))))
theorem d__law_draw {n : Nat} (F__law_mixed : Fd P w K mg base G n "_law_mixed" (m__law_mixed n)) (f : Addr) (cdv : Value) (A : Around) (outer : List Env) (s : Shared) (H : Hp) (E : XK) (W : WX) (bn : Bn (cxOf (L2.CX P w) P w K mg base N__law_draw "_law_draw" (defScope s__law_draw) f cdv A outer s H E) G W n) : QSs (cxOf (L2.CX P w) P w K mg base N__law_draw "_law_draw" (defScope s__law_draw) f cdv A outer s H E) G W (defBody s__law_draw) (b__law_draw n) :=
  (qs_cons (qs_if (qt_cmp or_ge (q_ix bn (q_var (i := 0)) q_int) (q_var (i := 1))) (qs_cons (qs_set bn (i := 2) (q_bin or_mod (q_ix bn (q_var (i := 0)) q_int) (q_var (i := 1))))
  (qs_cons (qs_put bn (q_bin or_div (q_ix bn (q_var (i := 0)) q_int) (q_var (i := 1))) (q_var (i := 0)) q_int)
  (qs_one (qs_ret (q_var (i := 2)))))) qs_nil)
  (qs_cons (qs_put bn (q_bin (or_add bn) (q_ix bn (q_var (i := 0)) q_int) q_int) (q_var (i := 0)) q_int)
  (qs_one (qs_ret (q_bin or_mod (q_call bn F__law_mixed (qa_cons (q_ix bn (q_var (i := 0)) q_int) (qa_cons (q_ix bn (q_var (i := 0)) q_int) qa_nil)) (Nat.le_refl _)) (q_var (i := 1)))))))
theorem d__law_inner {n : Nat} (f : Addr) (cdv : Value) (A : Around) (outer : List Env) (s : Shared) (H : Hp) (E : XK) (W : WX) (bn : Bn (cxOf (L2.CX P w) P w K mg base N__law_inner "_law_inner" (defScope s__law_inner) f cdv A outer s H E) G W n) : QSs (cxOf (L2.CX P w) P w K mg base N__law_inner "_law_inner" (defScope s__law_inner) f cdv A outer s H E) G W (defBody s__law_inner) (b__law_inner n) :=
  (qs_cons (qs_if (qt_cmp (or_eq bn) (q_ix bn (q_var (i := 0)) q_int) q_str) (qs_one (qs_ret (q_lst (qa_cons (q_ix bn (q_var (i := 0)) q_int) (qa_cons (q_ix bn (q_var (i := 0)) q_int) qa_nil))))) qs_nil)
  (qs_cons (qs_if (qt_cmp (or_eq bn) (q_ix bn (q_var (i := 0)) q_int) q_str) (qs_one (qs_ret (q_lst (qa_cons (q_ix bn (q_var (i := 0)) q_int) qa_nil)))) qs_nil)
  (qs_cons (qs_if (qt_cmp (or_eq bn) (q_ix bn (q_var (i := 0)) q_int) q_str) (qs_one (qs_ret (q_lst (qa_cons (q_ix bn (q_var (i := 0)) q_int) qa_nil)))) qs_nil)
  (qs_cons (qs_if (qt_cmp (or_eq bn) (q_ix bn (q_var (i := 0)) q_int) q_str) (qs_one (qs_ret (q_lst (qa_cons (q_ix bn (q_var (i := 0)) q_int) (qa_cons (q_ix bn (q_var (i := 0)) q_int) qa_nil))))) qs_nil)
  (qs_one (qs_ret (q_lst qa_nil)))))))
theorem d__law_due {n : Nat} (F__law_inner : Fd P w K mg base G n "_law_inner" (m__law_inner n)) (F__law_due : Fd P w K mg base G n "_law_due" (m__law_due n)) (f : Addr) (cdv : Value) (A : Around) (outer : List Env) (s : Shared) (H : Hp) (E : XK) (W : WX) (bn : Bn (cxOf (L2.CX P w) P w K mg base N__law_due "_law_due" (defScope s__law_due) f cdv A outer s H E) G W n) : QSs (cxOf (L2.CX P w) P w K mg base N__law_due "_law_due" (defScope s__law_due) f cdv A outer s H E) G W (defBody s__law_due) (b__law_due n) :=
  (qs_cons (qs_if (qt_cmp (or_eq bn) (q_var (i := 0)) (q_tup qa_nil)) (qs_one (qs_ret q_bl)) qs_nil)
  (qs_cons (qs_set bn (i := 1) (q_ix bn (q_var (i := 0)) (q_neg q_int)))
  (qs_cons (qs_if (qt_w (qw_or (qt_cmp (or_eq bn) (q_ix bn (q_var (i := 1)) q_int) q_str) (qw_or1 (qt_cmp (or_eq bn) (q_ix bn (q_var (i := 1)) q_int) q_str)))) (qs_one (qs_ret q_bl)) qs_nil)
  (qs_cons (qs_if (qt_w (qw_or (qt_cmp (or_eq bn) (q_ix bn (q_var (i := 1)) q_int) q_str) (qw_or (qt_cmp (or_eq bn) (q_ix bn (q_var (i := 1)) q_int) q_str) (qw_or1 (qt_cmp (or_eq bn) (q_ix bn (q_var (i := 1)) q_int) q_str))))) (qs_one (qs_ret (q_cmp (or_eq bn) (q_lc bn (qi_seq bn (q_call bn F__law_inner (qa_cons (q_var (i := 1)) qa_nil) (Nat.le_refl _))) [("_law_inner_here", 2)] (fun _ _ _ _ _ => (fun bn => (qg_name bn.nd (i := 2))) (bn_blk bn)) (fun _ _ _ _ _ bn => (qts_one (qt_not (qt_val (q_call bn F__law_due (qa_cons (q_var (i := 2)) qa_nil) (Nat.le_refl _)))))) (fun _ _ _ _ _ bn => (q_var (i := 2)))) (q_lst qa_nil)))) qs_nil)
  (qs_one (qs_ret q_bl))))))
theorem d__law_statement {n : Nat} (F__law_draw : Fd P w K mg base G n "_law_draw" (m__law_draw n)) (F__law_block : Fd P w K mg base G n "_law_block" (m__law_block n)) (f : Addr) (cdv : Value) (A : Around) (outer : List Env) (s : Shared) (H : Hp) (E : XK) (W : WX) (bn : Bn (cxOf (L2.CX P w) P w K mg base N__law_statement "_law_statement" (defScope s__law_statement) f cdv A outer s H E) G W n) : QSs (cxOf (L2.CX P w) P w K mg base N__law_statement "_law_statement" (defScope s__law_statement) f cdv A outer s H E) G W (defBody s__law_statement) (b__law_statement n) :=
  (qs_cons (qs_put bn (q_bin or_sub (q_ix2 bn (q_var (i := 1)) q_str) q_int) (q_var (i := 1)) q_str)
  (qs_cons (qs_set bn (i := 3) (q_call bn F__law_draw (qa_cons (q_var (i := 0)) (qa_cons q_int qa_nil)) (Nat.le_refl _)))
  (qs_cons (qs_if (qt_w (qw_or (qt_cmp or_lt (q_var (i := 3)) q_int) (qw_or1 (qt_w (qw_and (qt_cmp or_gt (q_var (i := 2)) q_int) (qw_and1 (qt_cmp or_gt (q_var (i := 3)) q_int))))))) (qs_one (qs_ret (q_tup (qa_cons q_str (qa_cons q_str (qa_cons (q_call bn F__law_draw (qa_cons (q_var (i := 0)) (qa_cons (q_bin (or_add bn) (q_bin or_pow q_int q_int) q_int) qa_nil)) (Nat.le_refl _)) qa_nil)))))) qs_nil)
  (qs_cons (qs_if (qt_w (qw_or (qt_cmp (or_eq bn) (q_var (i := 3)) q_int) (qw_or1 (qt_w (qw_and (qt_cmp (or_eq bn) (q_var (i := 3)) q_int) (qw_and1 (qt_cmp or_gt (q_ix2 bn (q_var (i := 1)) q_str) q_int))))))) (qs_one (qs_ret (q_tup (qa_cons q_str qa_nil)))) qs_nil)
  (qs_cons (qs_if (qt_cmp (or_eq bn) (q_var (i := 3)) q_int) (qs_one (qs_ret (q_tup (qa_cons q_str (qa_cons (q_tup qa_nil) qa_nil))))) qs_nil)
  (qs_cons (qs_if (qt_w (qw_and (qt_cmp (or_eq bn) (q_var (i := 3)) q_int) (qw_and (qt_cmp (or_eq bn) (q_ix2 bn (q_var (i := 1)) q_str) q_int) (qw_and1 (qt_cmp (or_ne bn) (q_ix2 bn (q_var (i := 1)) q_str) (q_lst qa_nil)))))) (qs_cons (qs_set bn (i := 4) (q_pop (q_ix2 bn (q_var (i := 1)) q_str)))
  (qs_cons (qs_put bn q_int (q_var (i := 1)) q_str)
  (qs_cons (qs_set bn (i := 5) (q_call bn F__law_block (qa_cons (q_var (i := 0)) (qa_cons (q_var (i := 1)) (qa_cons (q_bin (or_add bn) (q_var (i := 2)) q_int) qa_nil))) (Nat.le_refl _)))
  (qs_cons (qs_put bn q_int (q_var (i := 1)) q_str)
  (qs_one (qs_ret (q_tup (qa_cons q_str (qa_cons (q_var (i := 4)) (qa_cons q_str (qa_cons (q_var (i := 5)) qa_nil))))))))))) qs_nil)
  (qs_cons (qs_set bn (i := 6) (q_call bn F__law_block (qa_cons (q_var (i := 0)) (qa_cons (q_var (i := 1)) (qa_cons (q_bin (or_add bn) (q_var (i := 2)) q_int) qa_nil))) (Nat.le_refl _)))
  (qs_cons (qs_if (qt_w (qw_or (qt_cmp (or_eq bn) (q_var (i := 3)) q_int) (qw_or1 (qt_cmp (or_eq bn) (q_var (i := 3)) q_int)))) (qs_one (qs_ret (q_tup (qa_cons q_str (qa_cons (q_var (i := 6)) qa_nil))))) qs_nil)
  (qs_cons (qs_set bn (i := 7) (q_call bn F__law_block (qa_cons (q_var (i := 0)) (qa_cons (q_var (i := 1)) (qa_cons (q_bin (or_add bn) (q_var (i := 2)) q_int) qa_nil))) (Nat.le_refl _)))
  (qs_cons (qs_if (qt_cmp (or_eq bn) (q_var (i := 3)) q_int) (qs_one (qs_ret (q_tup (qa_cons q_str (qa_cons (q_tup qa_nil) (qa_cons q_str (qa_cons q_str (qa_cons (q_tup qa_nil) (qa_cons (q_var (i := 6)) (qa_cons (q_var (i := 7)) qa_nil)))))))))) qs_nil)
  (qs_one (qs_ret (q_tup (qa_cons q_str (qa_cons (q_var (i := 6)) (qa_cons (q_var (i := 7)) qa_nil))))))))))))))))
theorem d__law_block {n : Nat} (u_range : mg "range" = none) (F__law_draw : Fd P w K mg base G n "_law_draw" (m__law_draw n)) (F__law_due : Fd P w K mg base G n "_law_due" (m__law_due n)) (F__law_statement : Fd P w K mg base G n "_law_statement" (m__law_statement n)) (f : Addr) (cdv : Value) (A : Around) (outer : List Env) (s : Shared) (H : Hp) (E : XK) (W : WX) (bn : Bn (cxOf (L2.CX P w) P w K mg base N__law_block "_law_block" (defScope s__law_block) f cdv A outer s H E) G W n) : QSs (cxOf (L2.CX P w) P w K mg base N__law_block "_law_block" (defScope s__law_block) f cdv A outer s H E) G W (defBody s__law_block) (b__law_block n) :=
  (qs_cons (qs_set bn (i := 3) (q_tup qa_nil))
  (qs_cons (qs_for bn (qi_range u_range (q_call bn F__law_draw (qa_cons (q_var (i := 0)) (qa_cons q_int qa_nil)) (Nat.le_refl _))) (qg_name bn.nd (i := 4)) (qs_one (qs_if (qt_w (qw_and (qt_cmp or_gt (q_ix2 bn (q_var (i := 1)) q_str) q_int) (qw_and1 (qt_not (qt_val (q_call bn F__law_due (qa_cons (q_var (i := 3)) qa_nil) (Nat.le_refl _))))))) (qs_one (qs_set bn (i := 3) (q_bin (or_add bn) (q_var (i := 3)) (q_tup (qa_cons (q_call bn F__law_statement (qa_cons (q_var (i := 0)) (qa_cons (q_var (i := 1)) (qa_cons (q_var (i := 2)) qa_nil))) (Nat.le_refl _)) qa_nil))))) qs_nil)))
  (qs_one (qs_ret (q_var (i := 3))))))
theorem d__law_cell_at {n : Nat} (u_len : mg "len" = none) (f : Addr) (cdv : Value) (A : Around) (outer : List Env) (s : Shared) (H : Hp) (E : XK) (W : WX) (bn : Bn (cxOf (L2.CX P w) P w K mg base N__law_cell_at "_law_cell_at" (defScope s__law_cell_at) f cdv A outer s H E) G W n) : QSs (cxOf (L2.CX P w) P w K mg base N__law_cell_at "_law_cell_at" (defScope s__law_cell_at) f cdv A outer s H E) G W (defBody s__law_cell_at) (b__law_cell_at n) :=
  (qs_cons (qs_if (qt_cmp or_lt (q_var (i := 1)) (q_callB (cr_len bn) u_len bo_len (q_var (i := 0)))) (qs_one (qs_ret (q_ix bn (q_var (i := 0)) (q_var (i := 1))))) qs_nil)
  (qs_one (qs_ret q_int)))
theorem d__law_well {n : Nat} (u_int : mg "int" = none) (F__law_cell_at : Fd P w K mg base G n "_law_cell_at" (m__law_cell_at n)) (f : Addr) (cdv : Value) (A : Around) (outer : List Env) (s : Shared) (H : Hp) (E : XK) (W : WX) (bn : Bn (cxOf (L2.CX P w) P w K mg base N__law_well "_law_well" (defScope s__law_well) f cdv A outer s H E) G W n) : QSs (cxOf (L2.CX P w) P w K mg base N__law_well "_law_well" (defScope s__law_well) f cdv A outer s H E) G W (defBody s__law_well) (b__law_well n) :=
  (qs_cons (qs_set bn (i := 2) (q_call bn F__law_cell_at (qa_cons (q_var (i := 0)) (qa_cons (q_var (i := 1)) qa_nil)) (Nat.le_refl _)))
  (qs_one (qs_ret (q_box (qa_cons (q_bin or_mul (q_var (i := 2)) (q_callTy ct_int u_int bo_int (q_cmp or_ge (q_var (i := 2)) (q_bin or_pow q_int q_int)))) (qa_cons (q_var (i := 2)) (qa_cons q_int qa_nil)))))))
theorem d_blocks_in {n : Nat} (u_zip : mg "zip" = none) (c_SHAPES : WTab K w G mg "SHAPES" tab_SHAPES) (f : Addr) (cdv : Value) (A : Around) (outer : List Env) (s : Shared) (H : Hp) (E : XK) (W : WX) (bn : Bn (cxOf (L2.CX P w) P w K mg base N_blocks_in "blocks_in" (defScope s_blocks_in) f cdv A outer s H E) G W n) : QSs (cxOf (L2.CX P w) P w K mg base N_blocks_in "blocks_in" (defScope s_blocks_in) f cdv A outer s H E) G W (defBody s_blocks_in) (b_blocks_in n) :=
  (qs_cons (qs_set bn (i := 1) (q_wt c_SHAPES (q_ix bn (q_var (i := 0)) q_int)))
  (qs_one (qs_ret (q_lc bn (qi_zip bn u_zip (q_var (i := 1)) (q_sl bn (q_var (i := 0)) (qp_some q_int) qp_none)) [("sort", 2), ("part", 3)] (fun _ _ _ _ _ => (fun bn => (qg_tup bn (pgs_all_cons (pg_name bn.nd (i := 2) rfl (by first | exact Or.inl rfl | exact Or.inr rfl) (by first | exact .inl rfl | exact .inr rfl)) (pgs_all_cons (pg_name bn.nd (i := 3) rfl (by first | exact Or.inl rfl | exact Or.inr rfl) (by first | exact .inl rfl | exact .inr rfl)) pgs_all_nil)))) (bn_blk bn)) (fun _ _ _ _ _ bn => (qts_one (qt_cmp (or_eq bn) (q_var (i := 2)) q_str))) (fun _ _ _ _ _ bn => (q_var (i := 3)))))))
theorem d_is_ended {n : Nat} (u_all : mg "all" = none) (F_blocks_in : Fd P w K mg base G n "blocks_in" (m_blocks_in n)) (F_is_ended : Fd P w K mg base G n "is_ended" (m_is_ended n)) (f : Addr) (cdv : Value) (A : Around) (outer : List Env) (s : Shared) (H : Hp) (E : XK) (W : WX) (bn : Bn (cxOf (L2.CX P w) P w K mg base N_is_ended "is_ended" (defScope s_is_ended) f cdv A outer s H E) G W n) : QSs (cxOf (L2.CX P w) P w K mg base N_is_ended "is_ended" (defScope s_is_ended) f cdv A outer s H E) G W (defBody s_is_ended) (b_is_ended n) :=
  (qs_cons (qs_if (qt_cmp (or_eq bn) (q_var (i := 0)) (q_tup qa_nil)) (qs_one (qs_ret q_bl)) qs_nil)
  (qs_cons (qs_set bn (i := 1) (q_ix bn (q_var (i := 0)) (q_neg q_int)))
  (qs_cons (qs_if (qt_w (qw_or (qt_cmp (or_eq bn) (q_ix bn (q_var (i := 1)) q_int) q_str) (qw_or1 (qt_cmp (or_eq bn) (q_ix bn (q_var (i := 1)) q_int) q_str)))) (qs_one (qs_ret q_bl)) qs_nil)
  (qs_cons (qs_if (qt_cmp (or_in bn) (q_ix bn (q_var (i := 1)) q_int) (q_tup (qa_cons q_str (qa_cons q_str (qa_cons q_str qa_nil))))) (qs_one (qs_ret (q_callB (cr_allD bn) u_all bo_all (q_lc bn (qi_seq bn (q_call bn F_blocks_in (qa_cons (q_var (i := 1)) qa_nil) (Nat.le_refl _))) [("inner", 2)] (fun _ _ _ _ _ => (fun bn => (qg_name bn.nd (i := 2))) (bn_blk bn)) (fun _ _ _ _ _ bn => qts_nil) (fun _ _ _ _ _ bn => (q_call bn F_is_ended (qa_cons (q_var (i := 2)) qa_nil) (Nat.le_refl _))))))) qs_nil)
  (qs_one (qs_ret q_bl))))))
theorem d__law_right {n : Nat} (u_bool : mg "bool" = none) (u_isinstance : mg "isinstance" = none) (F_is_ended : Fd P w K mg base G n "is_ended" (m_is_ended n)) (F__law_due : Fd P w K mg base G n "_law_due" (m__law_due n)) (F__law_inner : Fd P w K mg base G n "_law_inner" (m__law_inner n)) (F__law_right : Fd P w K mg base G n "_law_right" (m__law_right n)) (f : Addr) (cdv : Value) (A : Around) (outer : List Env) (s : Shared) (H : Hp) (E : XK) (W : WX) (bn : Bn (cxOf (L2.CX P w) P w K mg base N__law_right "_law_right" (defScope s__law_right) f cdv A outer s H E) G W n) : QSs (cxOf (L2.CX P w) P w K mg base N__law_right "_law_right" (defScope s__law_right) f cdv A outer s H E) G W (defBody s__law_right) (b__law_right n) :=
  (qs_cons (qs_set bn (i := 1) (q_call bn F_is_ended (qa_cons (q_var (i := 0)) qa_nil) (Nat.le_refl _)))
  (qs_cons (qs_if (qt_w (qw_or (qt_not (qt_val (q_isi bn (n := "bool") (by decide) u_isinstance u_bool bo_bool (q_var (i := 1))))) (qw_or1 (qt_cmp (or_ne bn) (q_var (i := 1)) (q_call bn F__law_due (qa_cons (q_var (i := 0)) qa_nil) (Nat.le_refl _)))))) (qs_one (qs_ret q_bl)) qs_nil)
  (qs_cons (qs_for bn (qi_seq bn (q_var (i := 0))) (qg_name bn.nd (i := 2)) (qs_one (qs_if (qt_cmp (or_ne bn) (q_lc bn (qi_seq bn (q_call bn F__law_inner (qa_cons (q_var (i := 2)) qa_nil) (Nat.le_refl _))) [("_law_inner_here", 3)] (fun _ _ _ _ _ => (fun bn => (qg_name bn.nd (i := 3))) (bn_blk bn)) (fun _ _ _ _ _ bn => (qts_one (qt_not (qt_val (q_call bn F__law_right (qa_cons (q_var (i := 3)) qa_nil) (Nat.le_refl _)))))) (fun _ _ _ _ _ bn => (q_var (i := 3)))) (q_lst qa_nil)) (qs_one (qs_ret q_bl)) qs_nil)))
  (qs_one (qs_ret q_bl)))))
theorem d_law {n : Nat} (u_len : mg "len" = none) (u_min : mg "min" = none) (u_range : mg "range" = none) (F__law_block : Fd P w K mg base G n "_law_block" (m__law_block n)) (F__law_well : Fd P w K mg base G n "_law_well" (m__law_well n)) (F__law_right : Fd P w K mg base G n "_law_right" (m__law_right n)) (F_is_ended : Fd P w K mg base G n "is_ended" (m_is_ended n)) (f : Addr) (cdv : Value) (A : Around) (outer : List Env) (s : Shared) (H : Hp) (E : XK) (W : WX) (bn : Bn (cxOf (L2.CX P w) P w K mg base N_law "law" (defScope s_law) f cdv A outer s H E) G W n) : QSs (cxOf (L2.CX P w) P w K mg base N_law "law" (defScope s_law) f cdv A outer s H E) G W (defBody s_law) (b_law n) :=
  (qs_cons (qs_for bn (qi_range u_range (q_callB2 (cr_minD bn) u_min bo_min q_int (q_callB (cr_len bn) u_len bo_len (q_var (i := 0))))) (qg_name bn.nd (i := 1)) (qs_cons (qs_set bn (i := 2) (q_dic (qps_str q_int (qps_str q_int (qps_str (q_box (qa_cons q_str (qa_cons q_str (qa_cons q_str (qa_cons q_str (qa_cons q_str (qa_cons q_str qa_nil))))))) qps_nil)))))
  (qs_cons (qs_set bn (i := 3) (q_call bn F__law_block (qa_cons (q_call bn F__law_well (qa_cons (q_var (i := 0)) (qa_cons (q_var (i := 1)) qa_nil)) (Nat.le_refl _)) (qa_cons (q_var (i := 2)) (qa_cons q_int qa_nil))) (Nat.le_refl _)))
  (qs_cons (qs_if (qt_w (qw_or (qt_not (qt_val (q_call bn F__law_right (qa_cons (q_var (i := 3)) qa_nil) (Nat.le_refl _)))) (qw_or1 (qt_val (q_call bn F_is_ended (qa_cons (q_sl bn (q_var (i := 3)) qp_none (qp_some (q_neg q_int))) qa_nil) (Nat.le_refl _)))))) (qs_one (qs_ret q_bl)) qs_nil)
  (qs_one (qs_if (qt_w (qw_and (qt_not (qt_val (q_call bn F_is_ended (qa_cons (q_var (i := 3)) qa_nil) (Nat.le_refl _)))) (qw_and1 (qt_w (qw_or (qt_val (q_call bn F_is_ended (qa_cons (q_bin (or_add bn) (q_var (i := 3)) (q_tup (qa_cons (q_tup (qa_cons q_str (qa_cons q_str (qa_cons q_int qa_nil)))) qa_nil))) qa_nil) (Nat.le_refl _))) (qw_or1 (qt_not (qt_val (q_call bn F_is_ended (qa_cons (q_bin (or_add bn) (q_var (i := 3)) (q_tup (qa_cons (q_tup (qa_cons q_str qa_nil)) qa_nil))) qa_nil) (Nat.le_refl _)))))))))) (qs_one (qs_ret q_bl)) qs_nil))))))
  (qs_one (qs_ret (q_cmp or_is (q_call bn F_is_ended (qa_cons (q_tup qa_nil) qa_nil) (Nat.le_refl _)) q_bl))))
structure Hd (K : PySem.W.Frag) (w : World) (G : Gn) (mg : Str → Option Value) : Prop where
  u_all : mg "all" = none
  u_bool : mg "bool" = none
  u_int : mg "int" = none
  u_isinstance : mg "isinstance" = none
  u_len : mg "len" = none
  u_min : mg "min" = none
  u_range : mg "range" = none
  u_zip : mg "zip" = none
  c_SHAPES : WTab K w G mg "SHAPES" tab_SHAPES
  f__law_mixed : FDf K mg "_law_mixed" s__law_mixed
  f__law_draw : FDf K mg "_law_draw" s__law_draw
  f__law_inner : FDf K mg "_law_inner" s__law_inner
  f__law_due : FDf K mg "_law_due" s__law_due
  f__law_statement : FDf K mg "_law_statement" s__law_statement
  f__law_block : FDf K mg "_law_block" s__law_block
  f__law_cell_at : FDf K mg "_law_cell_at" s__law_cell_at
  f__law_well : FDf K mg "_law_well" s__law_well
  f_blocks_in : FDf K mg "blocks_in" s_blocks_in
  f_is_ended : FDf K mg "is_ended" s_is_ended
  f__law_right : FDf K mg "_law_right" s__law_right
  f_law : FDf K mg "law" s_law
theorem ok__law_mixed (hd : Hd K w G mg) (hK : G.K = K) (hw : G.w = w) : ∀ n, Fd P w K mg base G n "_law_mixed" (m__law_mixed n)
  | 0 => Fd.zero hd.f__law_mixed (fun _ _ _ _ _ _ us hl => match us, hl with | [_, _], _ => rfl) (ps := P__law_mixed)
  | n + 1 => Fd.succ hd.f__law_mixed sc__law_mixed hK hw false (fun _ _ _ _ _ _ us hl => match us, hl with | [_, _], _ => rfl) (d__law_mixed)
theorem ok__law_draw (hd : Hd K w G mg) (hK : G.K = K) (hw : G.w = w) : ∀ n, Fd P w K mg base G n "_law_draw" (m__law_draw n)
  | 0 => Fd.zero hd.f__law_draw (fun _ _ _ _ _ _ us hl => match us, hl with | [_, _], _ => rfl) (ps := P__law_draw)
  | n + 1 => Fd.succ hd.f__law_draw sc__law_draw hK hw false (fun _ _ _ _ _ _ us hl => match us, hl with | [_, _], _ => rfl) (d__law_draw (ok__law_mixed hd hK hw n))
theorem ok__law_inner (hd : Hd K w G mg) (hK : G.K = K) (hw : G.w = w) : ∀ n, Fd P w K mg base G n "_law_inner" (m__law_inner n)
  | 0 => Fd.zero hd.f__law_inner (fun _ _ _ _ _ _ us hl => match us, hl with | [_], _ => rfl) (ps := P__law_inner)
  | n + 1 => Fd.succ hd.f__law_inner sc__law_inner hK hw false (fun _ _ _ _ _ _ us hl => match us, hl with | [_], _ => rfl) (d__law_inner)
theorem okk__law_due (hd : Hd K w G mg) (hK : G.K = K) (hw : G.w = w) : ∀ n, Fd P w K mg base G n "_law_due" (m__law_due n)
  | 0 => Fd.zero hd.f__law_due (fun _ _ _ _ _ _ us hl => match us, hl with | [_], _ => rfl) (ps := P__law_due)
  | n + 1 => by
    have r__law_due := okk__law_due hd hK hw n
    exact Fd.succ hd.f__law_due sc__law_due hK hw false (fun _ _ _ _ _ _ us hl => match us, hl with | [_], _ => rfl) (d__law_due (ok__law_inner hd hK hw n) r__law_due)
theorem ok__law_due (hd : Hd K w G mg) (hK : G.K = K) (hw : G.w = w) (n : Nat) : Fd P w K mg base G n "_law_due" (m__law_due n) := (okk__law_due hd hK hw n)
theorem okk__law_statement__law_block (hd : Hd K w G mg) (hK : G.K = K) (hw : G.w = w) : ∀ n, Fd P w K mg base G n "_law_statement" (m__law_statement n) ∧ Fd P w K mg base G n "_law_block" (m__law_block n)
  | 0 => ⟨Fd.zero hd.f__law_statement (fun _ _ _ _ _ _ us hl => match us, hl with | [_, _, _], _ => rfl) (ps := P__law_statement), Fd.zero hd.f__law_block (fun _ _ _ _ _ _ us hl => match us, hl with | [_, _, _], _ => rfl) (ps := P__law_block)⟩
  | n + 1 => by
    obtain ⟨r__law_statement, r__law_block⟩ := okk__law_statement__law_block hd hK hw n
    exact ⟨Fd.succ hd.f__law_statement sc__law_statement hK hw false (fun _ _ _ _ _ _ us hl => match us, hl with | [_, _, _], _ => rfl) (d__law_statement (ok__law_draw hd hK hw n) r__law_block), Fd.succ hd.f__law_block sc__law_block hK hw false (fun _ _ _ _ _ _ us hl => match us, hl with | [_, _, _], _ => rfl) (d__law_block hd.u_range (ok__law_draw hd hK hw n) (ok__law_due hd hK hw n) r__law_statement)⟩
theorem ok__law_statement (hd : Hd K w G mg) (hK : G.K = K) (hw : G.w = w) (n : Nat) : Fd P w K mg base G n "_law_statement" (m__law_statement n) := (okk__law_statement__law_block hd hK hw n).1
theorem ok__law_block (hd : Hd K w G mg) (hK : G.K = K) (hw : G.w = w) (n : Nat) : Fd P w K mg base G n "_law_block" (m__law_block n) := (okk__law_statement__law_block hd hK hw n).2
theorem ok__law_cell_at (hd : Hd K w G mg) (hK : G.K = K) (hw : G.w = w) : ∀ n, Fd P w K mg base G n "_law_cell_at" (m__law_cell_at n)
  | 0 => Fd.zero hd.f__law_cell_at (fun _ _ _ _ _ _ us hl => match us, hl with | [_, _], _ => rfl) (ps := P__law_cell_at)
  | n + 1 => Fd.succ hd.f__law_cell_at sc__law_cell_at hK hw false (fun _ _ _ _ _ _ us hl => match us, hl with | [_, _], _ => rfl) (d__law_cell_at hd.u_len)
theorem ok__law_well (hd : Hd K w G mg) (hK : G.K = K) (hw : G.w = w) : ∀ n, Fd P w K mg base G n "_law_well" (m__law_well n)
  | 0 => Fd.zero hd.f__law_well (fun _ _ _ _ _ _ us hl => match us, hl with | [_, _], _ => rfl) (ps := P__law_well)
  | n + 1 => Fd.succ hd.f__law_well sc__law_well hK hw true (fun _ _ _ _ _ _ us hl => match us, hl with | [_, _], _ => rfl) (d__law_well hd.u_int (ok__law_cell_at hd hK hw n))
theorem ok_blocks_in (hd : Hd K w G mg) (hK : G.K = K) (hw : G.w = w) : ∀ n, Fd P w K mg base G n "blocks_in" (m_blocks_in n)
  | 0 => Fd.zero hd.f_blocks_in (fun _ _ _ _ _ _ us hl => match us, hl with | [_], _ => rfl) (ps := P_blocks_in)
  | n + 1 => Fd.succ hd.f_blocks_in sc_blocks_in hK hw false (fun _ _ _ _ _ _ us hl => match us, hl with | [_], _ => rfl) (d_blocks_in hd.u_zip hd.c_SHAPES)
theorem okk_is_ended (hd : Hd K w G mg) (hK : G.K = K) (hw : G.w = w) : ∀ n, Fd P w K mg base G n "is_ended" (m_is_ended n)
  | 0 => Fd.zero hd.f_is_ended (fun _ _ _ _ _ _ us hl => match us, hl with | [_], _ => rfl) (ps := P_is_ended)
  | n + 1 => by
    have r_is_ended := okk_is_ended hd hK hw n
    exact Fd.succ hd.f_is_ended sc_is_ended hK hw false (fun _ _ _ _ _ _ us hl => match us, hl with | [_], _ => rfl) (d_is_ended hd.u_all (ok_blocks_in hd hK hw n) r_is_ended)
theorem ok_is_ended (hd : Hd K w G mg) (hK : G.K = K) (hw : G.w = w) (n : Nat) : Fd P w K mg base G n "is_ended" (m_is_ended n) := (okk_is_ended hd hK hw n)
theorem okk__law_right (hd : Hd K w G mg) (hK : G.K = K) (hw : G.w = w) : ∀ n, Fd P w K mg base G n "_law_right" (m__law_right n)
  | 0 => Fd.zero hd.f__law_right (fun _ _ _ _ _ _ us hl => match us, hl with | [_], _ => rfl) (ps := P__law_right)
  | n + 1 => by
    have r__law_right := okk__law_right hd hK hw n
    exact Fd.succ hd.f__law_right sc__law_right hK hw false (fun _ _ _ _ _ _ us hl => match us, hl with | [_], _ => rfl) (d__law_right hd.u_bool hd.u_isinstance (ok_is_ended hd hK hw n) (ok__law_due hd hK hw n) (ok__law_inner hd hK hw n) r__law_right)
theorem ok__law_right (hd : Hd K w G mg) (hK : G.K = K) (hw : G.w = w) (n : Nat) : Fd P w K mg base G n "_law_right" (m__law_right n) := (okk__law_right hd hK hw n)
theorem okL (hd : Hd K w G mg) (hK : G.K = K) (hw : G.w = w) {f : Addr} {fd : FuncData} (F : FunD K "law" "law" (defArgs s_law) (defBody s_law) (defScope s_law) [] [] f fd) (n : Nat) : FnOk P w K mg base (L2.CX P w) (n + 1) f fd P_law (spD G (m_law (n + 1))) :=
  fn_ok F sc_law hK hw false (d_law hd.u_len hd.u_min hd.u_range (ok__law_block hd hK hw n) (ok__law_well hd hK hw n) (ok__law_right hd hK hw n) (ok_is_ended hd hK hw n) f)
end
end Gk02
namespace U
open PySem PySem.Spec PyProof.Rows L2 RZ
mutual
theorem ok_plain (n : Nat) : ∀ d : D, plain d = true → okD n d = true
  | .non, _ => by simp [U.okD]
  | .bl _, _ => by simp [U.okD]
  | .int _, _ => by simp [U.okD]
  | .str _, _ => by simp [U.okD]
  | .tup l, h => by
    simp only [U.okD]
    exact ok_plains n l (by simpa [plain] using h)
  | .lst l, h => by
    simp only [U.okD]
    exact ok_plains n l (by simpa [plain] using h)
  | .ty _, h => by simp [plain] at h
  | .dic _, h => by simp [plain] at h
  | .dit _, h => by simp [plain] at h
  | .ref _, h => by simp [plain] at h
  | .fn _, h => by simp [plain] at h
theorem ok_plains (n : Nat) : ∀ l : List D, plains l = true → U.okL n l = true
  | [], _ => by simp [U.okL]
  | d :: l, h => by
    have h' : plain d = true ∧ plains l = true := by simpa [plains] using h
    simp [U.okL, ok_plain n d h'.1, ok_plains n l h'.2]
end
theorem atI_last {α : Type} (l : List α) (x : α) : atI (l ++ [x]) (-1) = some x := by
  unfold atI ixN
  rw [List.length_append]
  simp only [List.length_cons, List.length_nil]
  rw [if_neg (by omega), if_pos (by omega)]
  show (l ++ [x])[((-1 : Int) + ((l.length + (0 + 1) : Nat) : Int)).toNat]? = _
  have e : ((-1 : Int) + ((l.length + (0 + 1) : Nat) : Int)).toNat = l.length := by omega
  rw [e, List.getElem?_append_right (Nat.le_refl _), Nat.sub_self]
  rfl
theorem plains_app : ∀ (l m : List D), plains (l ++ m) = (plains l && plains m)
  | [], m => by simp [plains]
  | x :: l, m => by simp [plains, plains_app l m, Bool.and_assoc]
end U
namespace Gk02
open PySem PySem.Spec PyProof.Rows L2 RZ U
inductive Sm where
  | set (i : Int) | refuse | give
  | lend (x : Fin 6) (b : List Sm) | loop (b : List Sm) | trys (a b : List Sm) | ask (a b : List Sm)
def poolS : List Str := ["a", "b", "c", "d", "e", "f"]
def nm (x : Fin 6) : Str := poolS[x]'(by show x.val < 6; exact x.isLt)
mutual
def sd : Sm → D
  | .set i => .tup [.str "set", .str "n", .int i]
  | .refuse => .tup [.str "refuse"]
  | .give => .tup [.str "give", .tup []]
  | .lend x b => .tup [.str "lend", .str (nm x), .str "x", .tup (sds b)]
  | .loop b => .tup [.str "loop", .tup (sds b)]
  | .trys a b => .tup [.str "try", .tup [], .str "h", .str "f", .tup [], .tup (sds a), .tup (sds b)]
  | .ask a b => .tup [.str "ask", .tup (sds a), .tup (sds b)]
def sds : List Sm → List D
  | [] => []
  | s :: r => sd s :: sds r
end
theorem nm_ok : ∀ x : Fin 6, PyData.strOk (nm x) = true := by decide +kernel
mutual
theorem plain_sd : ∀ s : Sm, plain (sd s) = true
  | .set i => by simp only [sd, U.plain, U.plains, Bool.and_true, Bool.true_and, Bool.and_eq_true]; exact ⟨by decide +kernel, by decide +kernel⟩
  | .refuse => by simp only [sd, U.plain, U.plains, Bool.and_true]; decide +kernel
  | .give => by simp only [sd, U.plain, U.plains, Bool.and_true]; decide +kernel
  | .lend x b => by simp only [sd, U.plain, U.plains, plain_sds b, nm_ok x, Bool.and_true, Bool.true_and, Bool.and_eq_true]; exact ⟨by decide +kernel, by decide +kernel⟩
  | .loop b => by simp only [sd, U.plain, U.plains, plain_sds b, Bool.and_true]; decide +kernel
  | .trys a b => by simp only [sd, U.plain, U.plains, plain_sds a, plain_sds b, Bool.and_true, Bool.true_and, Bool.and_eq_true]; exact ⟨by decide +kernel, by decide +kernel, by decide +kernel⟩
  | .ask a b => by simp only [sd, U.plain, U.plains, plain_sds a, plain_sds b, Bool.and_true]; decide +kernel
theorem plain_sds : ∀ b : List Sm, plains (sds b) = true
  | [] => by simp [sds, U.plains]
  | s :: r => by simp [sds, U.plains, plain_sd s, plain_sds r]
end
theorem sds_app : ∀ a b : List Sm, sds (a ++ b) = sds a ++ sds b
  | [], b => by simp [sds]
  | s :: r, b => by simp [sds, sds_app r b]
mutual
def duS : Sm → Bool
  | .set _ => false
  | .refuse => true
  | .give => true
  | .lend _ b => duL b
  | .loop _ => false
  | .trys a b => duL a && duL b
  | .ask a b => duL a && duL b
def duL : List Sm → Bool
  | [] => false
  | [s] => duS s
  | _ :: t :: r => duL (t :: r)
end
theorem duL_last : ∀ (b : List Sm) (s : Sm), duL (b ++ [s]) = duS s
  | [], s => by simp [duL]
  | [t], s => by simp [duL]
  | t :: u :: r, s => by
    have := duL_last (u :: r) s
    simp only [List.cons_append] at this ⊢
    rw [duL]
    exact this
def inner : Sm → List (List Sm)
  | .lend _ b => [b]
  | .loop b => [b]
  | .trys a b => [a, b]
  | .ask a b => [a, b]
  | _ => []
mutual
def dpS : Sm → Nat
  | .lend _ b => dpL b + 1
  | .loop b => dpL b + 1
  | .trys a b => max (dpL a) (dpL b) + 1
  | .ask a b => max (dpL a) (dpL b) + 1
  | _ => 0
def dpL : List Sm → Nat
  | [] => 0
  | s :: r => max (dpS s) (dpL r)
end
theorem dp_mem {s : Sm} : ∀ {b : List Sm}, s ∈ b → dpS s ≤ dpL b
  | t :: r, h => by
    simp only [dpL]
    rcases List.mem_cons.mp h with rfl | h
    · exact Nat.le_max_left _ _
    · exact Nat.le_trans (dp_mem h) (Nat.le_max_right _ _)
theorem dp_inner {s : Sm} {b : List Sm} (h : b ∈ inner s) : dpL b < dpS s := by
  cases s <;> simp [inner] at h <;> simp only [dpS]
  · subst h; omega
  · subst h; omega
  · rcases h with rfl | rfl <;> omega
  · rcases h with rfl | rfl <;> omega
def blk (b : List Sm) : D := .tup (sds b)
theorem plain_blk (b : List Sm) : plain (blk b) = true := by
  show plain (.tup (sds b)) = true
  simp only [U.plain]
  exact plain_sds b
theorem plains_blks : ∀ l : List (List Sm), plains (l.map blk) = true
  | [] => by simp [U.plains]
  | b :: l => by simp only [List.map_cons, U.plains, plain_blk b, plains_blks l, Bool.and_self]
theorem ok_inner (s : Sm) (n : Nat) : okD n (.lst ((inner s).map blk)) = true := ok_plain n _ (by simp only [U.plain]; exact plains_blks _)
theorem r_inner (s : Sm) (h : Hs) (n : Nat) : m__law_inner (n + 1) [sd s] h = .ok (.lst ((inner s).map blk)) h := by
  refine run_rt rfl ?_ (ok_inner s _)
  cases s <;> kernel_rfl
theorem r_blocks (s : Sm) (h : Hs) (n : Nat) (hs : (∃ x b, s = .lend x b) ∨ (∃ a b, s = .trys a b) ∨ ∃ a b, s = .ask a b) : m_blocks_in (n + 1) [sd s] h = .ok (.lst ((inner s).map blk)) h := by
  refine run_rt rfl ?_ (ok_inner s _)
  rcases hs with ⟨x, b, rfl⟩ | ⟨a, b, rfl⟩ | ⟨a, b, rfl⟩ <;> kernel_rfl
end Gk02
namespace U
open PySem PySem.Spec PyProof.Rows L2 RZ
section
variable {t : Tg} {c : BV} {f : EV} {ρ : Rho} {h : Hs} {α : Type}
/-- a comprehension over things that stand for the members of l -/
theorem lcL_mapA {e g : α → D} {p : α → Bool} : ∀ l : List α, (∀ a ∈ l, ∃ ρ1, t.set (e a) ρ = some ρ1 ∧ c ρ1 h = .ok (p a) h ∧ (p a = true → f ρ1 h = .ok (g a) h)) → lcL t c f ρ (l.map e) h = .ok ((l.filter p).map g) h
  | [], _ => rfl
  | a :: l, hh => by
    obtain ⟨ρ1, e1, e2, e3⟩ := hh a (List.mem_cons_self ..)
    have ih := lcL_mapA (p := p) (g := g) l fun d m => hh d (List.mem_cons_of_mem _ m)
    rw [List.map_cons]
    unfold lcL
    simp only [e1, e2]
    cases q : p a with
    | true => simp only [e3 q, ih, List.filter_cons, q, if_true, List.map_cons]
    | false => simp only [ih, List.filter_cons, q, if_false, Bool.false_eq_true]
theorem lc_okA {own : List Nat} {fi : AV} {l : List α} {e g : α → D} {p : α → Bool} (hi : fi ρ h = .ok (l.map e) h)
    (hh : ∀ a ∈ l, ∃ ρ1, t.set (e a) (wipeD own ρ) = some ρ1 ∧ c ρ1 h = .ok (p a) h ∧ (p a = true → f ρ1 h = .ok (g a) h)) (hl : l.length ≤ sizeLine) : eLc own fi t c f ρ h = .ok (.lst ((l.filter p).map g)) h := by
  unfold eLc aLc
  simp only [hi, lcL_mapA l hh]
  rw [if_pos (Nat.le_trans (by rw [List.length_map]; exact List.length_filter_le ..) hl), R.bind_ok]
theorem lc_allA {own : List Nat} {fi : AV} {l : List α} {e g : α → D} (hi : fi ρ h = .ok (l.map e) h)
    (hh : ∀ a ∈ l, ∃ ρ1, t.set (e a) (wipeD own ρ) = some ρ1 ∧ f ρ1 h = .ok (g a) h) (hl : l.length ≤ sizeLine) : eLc own fi t bYes f ρ h = .ok (.lst (l.map g)) h := by
  have q := lc_okA (own := own) (c := bYes) (p := fun _ => true) (g := g) hi (fun d m => by
    obtain ⟨ρ1, e1, e2⟩ := hh d m
    exact ⟨ρ1, e1, rfl, fun _ => e2⟩) hl
  rw [q, List.filter_eq_self.mpr (fun _ _ => rfl)]
end
theorem eqt0 {l : List D} {h : Hs} (p : plains l = true) : opEq (.tup l) (.tup []) h = some (.bl l.isEmpty) := by
  show (if okEq (.tup l) (.tup []) = true then _ else _) = _
  rw [if_pos]
  · cases l <;> simp [der, eqB, eqBs]
  · unfold okEq
    have : plain (.tup l) = true := by simpa only [plain] using p
    rw [this]
    simp [scalD, plain, plains, dep, deps]
theorem eql0 {l : List D} {h : Hs} (p : plains l = true) : opEq (.lst l) (.lst []) h = some (.bl l.isEmpty) := by
  show (if okEq (.lst l) (.lst []) = true then _ else _) = _
  rw [if_pos]
  · cases l <;> simp [der, eqB, eqBs]
  · unfold okEq
    have : plain (.lst l) = true := by simpa only [plain] using p
    rw [this]
    simp [scalD, plain, plains, dep, deps]
theorem nel0 {l : List D} {h : Hs} (p : plains l = true) : opNe (.lst l) (.lst []) h = some (.bl (!l.isEmpty)) := by
  have q := eql0 (h := h) p
  unfold opEq at q
  unfold opNe
  split at q
  · rename_i z
    rw [if_pos z]
    have := Option.some.inj q
    injection this with this
    rw [this]
  · cases q
theorem bools_map {α : Type} (g : α → Bool) : ∀ l : List α, boolsD (l.map fun a => .bl (g a)) = some (l.map g)
  | [] => rfl
  | a :: l => by
    show (boolsD _).map _ = _
    rw [bools_map g l]
    rfl
end U
namespace Gk02
open PySem PySem.Spec PyProof.Rows L2 RZ U
theorem blk_cases (b : List Sm) : b = [] ∨ ∃ i s, b = i ++ [s] := by
  by_cases h : b = []
  · exact .inl h
  · exact .inr ⟨b.dropLast, b.getLast h, (List.dropLast_concat_getLast h).symm⟩
theorem ix_blk (i : List Sm) (s : Sm) (h : Hs) : opIx (blk (i ++ [s])) (.int (-1)) h = some (sd s) := by
  show atI (sds (i ++ [s])) (-1) = _
  rw [sds_app]
  exact U.atI_last _ _
theorem eq_blk (i : List Sm) (s : Sm) (h : Hs) : opEq (blk (i ++ [s])) (.tup []) h = some (.bl false) := by
  have q := eqt0 (h := h) (plain_sds (i ++ [s]))
  rw [sds_app] at q
  show opEq (.tup (sds (i ++ [s]))) (.tup []) h = _
  rw [sds_app, q]
  cases sds i <;> rfl
theorem inner_len (s : Sm) : (inner s).length ≤ sizeLine := by
  cases s <;> exact sm
theorem isEmpty_filter {α : Type} (p : α → Bool) (l : List α) (g : α → D) : ((l.filter fun a => !p a).map g).isEmpty = l.all p := by
  rw [List.isEmpty_map]
  induction l with
  | nil => rfl
  | cons a l ih =>
    rw [List.filter_cons, List.all_cons]
    cases h : p a <;> simp [h, ih]
theorem r_due : ∀ (k n : Nat) (b : List Sm) (h : Hs), dpL b ≤ k → m__law_due (n + 2 + k) [blk b] h = .ok (.bl (duL b)) h := by
  intro k
  induction k using Nat.strongRecOn with
  | ind k ih =>
    intro n b h hb
    rw [show n + 2 + k = (n + 1 + k) + 1 by omega]
    refine run_rt rfl ?_ rfl
    simp only [List.map_cons, List.map_nil, List.length_cons, List.length_nil, List.reduceReplicate, List.cons_append, List.nil_append, List.set_cons_zero, List.set_cons_succ, Nat.reduceAdd, Nat.reduceSub, Nat.zero_add]
    rcases blk_cases b with rfl | ⟨i, s, rfl⟩
    · kernel_rfl
    · rw [duL_last, sif_f (be_ok (op_ok rfl rfl (eq_blk i s h))), seq_nx (set_ok (op_ok rfl rfl (ix_blk i s h)))]
      simp only [List.map_cons, List.map_nil, List.length_cons, List.length_nil, List.reduceReplicate, List.cons_append, List.nil_append, List.set_cons_zero, List.set_cons_succ, Nat.reduceAdd, Nat.reduceSub, Nat.zero_add]
      have hs : dpS s ≤ k := Nat.le_trans (dp_mem (List.mem_append_right i (List.mem_singleton.mpr rfl))) hb
      generalize blk (i ++ [s]) = B
      have main : ((∃ x b, s = .lend x b) ∨ (∃ a b, s = .trys a b) ∨ ∃ a b, s = .ask a b) → eOp opEq (eLc [2] (iSeq (eCall (m__law_inner (n + 1 + k)) (aCons (eVar 1) aNil))) (.nm 2) (bNot (bE (eCall (m__law_due (n + 1 + k)) (aCons (eVar 2) aNil)))) (eVar 2)) (eLst aNil) [some B, some (sd s), none] h = .ok (.bl (duS s)) h := fun hk => by
        have e1 := lc_okA (own := [2]) (t := .nm 2) (ρ := [some B, some (sd s), none]) (h := h) (l := inner s) (e := blk) (g := blk) (p := fun b => !duL b) (c := bNot (bE (eCall (m__law_due (n + 1 + k)) (aCons (eVar 2) aNil)))) (f := eVar 2)
          (iseq_l (call_ok (m := m__law_inner (n + 1 + k)) (cons_ok (f := eVar 1) (g := aNil) rfl rfl) (by rw [show n + 1 + k = (n + k) + 1 by omega]; exact r_inner s h _))) (fun b' m => by
          have hd := dp_inner m
          refine ⟨_, rfl, bnot_ok (be_ok (call_ok (cons_ok rfl rfl) ?_)), fun _ => rfl⟩
          have q := ih (dpL b') (by omega) (n + 1 + k - 2 - dpL b') b' h (Nat.le_refl _)
          rw [show n + 1 + k - 2 - dpL b' + 2 + dpL b' = n + 1 + k by omega] at q
          exact q) (inner_len s)
        refine op_ok e1 rfl (eql0 (plains_blks _) |>.trans ?_)
        rw [isEmpty_filter]
        rcases hk with ⟨x, b, rfl⟩ | ⟨a, b, rfl⟩ | ⟨a, b, rfl⟩ <;> simp [inner, duS]
      cases s with
      | set _ => kernel_rfl
      | refuse => kernel_rfl
      | give => kernel_rfl
      | loop _ => kernel_rfl
      | lend x b =>
        rw [sif_f (h' := h) (by kernel_rfl), sif_t (h' := h) (by kernel_rfl) (ret_ok (main (.inl ⟨_, _, rfl⟩)))]
      | trys a b =>
        rw [sif_f (h' := h) (by kernel_rfl), sif_t (h' := h) (by kernel_rfl) (ret_ok (main (.inr (.inl ⟨_, _, rfl⟩))))]
      | ask a b =>
        rw [sif_f (h' := h) (by kernel_rfl), sif_t (h' := h) (by kernel_rfl) (ret_ok (main (.inr (.inr ⟨_, _, rfl⟩))))]
end Gk02
namespace Gk02
open PySem PySem.Spec PyProof.Rows L2 RZ U
theorem r_ended : ∀ (k n : Nat) (b : List Sm) (h : Hs), dpL b ≤ k → m_is_ended (n + 2 + k) [blk b] h = .ok (.bl (duL b)) h := by
  intro k
  induction k using Nat.strongRecOn with
  | ind k ih =>
    intro n b h hb
    rw [show n + 2 + k = (n + 1 + k) + 1 by omega]
    refine run_rt rfl ?_ rfl
    simp only [List.map_cons, List.map_nil, List.length_cons, List.length_nil, List.reduceReplicate, List.cons_append, List.nil_append, List.set_cons_zero, List.set_cons_succ, Nat.reduceAdd, Nat.reduceSub, Nat.zero_add]
    rcases blk_cases b with rfl | ⟨i, s, rfl⟩
    · kernel_rfl
    · rw [duL_last, sif_f (be_ok (op_ok rfl rfl (eq_blk i s h))), seq_nx (set_ok (op_ok rfl rfl (ix_blk i s h)))]
      simp only [List.map_cons, List.map_nil, List.length_cons, List.length_nil, List.reduceReplicate, List.cons_append, List.nil_append, List.set_cons_zero, List.set_cons_succ, Nat.reduceAdd, Nat.reduceSub, Nat.zero_add]
      have hs : dpS s ≤ k := Nat.le_trans (dp_mem (List.mem_append_right i (List.mem_singleton.mpr rfl))) hb
      generalize blk (i ++ [s]) = B
      have main : ((∃ x b, s = .lend x b) ∨ (∃ a b, s = .trys a b) ∨ ∃ a b, s = .ask a b) → eCal opAll (eLc [2] (iSeq (eCall (m_blocks_in (n + 1 + k)) (aCons (eVar 1) aNil))) (.nm 2) bYes (eCall (m_is_ended (n + 1 + k)) (aCons (eVar 2) aNil))) [some B, some (sd s), none] h = .ok (.bl (duS s)) h := fun hk => by
        have e1 := lc_allA (own := [2]) (t := .nm 2) (ρ := [some B, some (sd s), none]) (h := h) (l := inner s) (e := blk) (g := fun b => .bl (duL b)) (f := eCall (m_is_ended (n + 1 + k)) (aCons (eVar 2) aNil))
          (iseq_l (call_ok (m := m_blocks_in (n + 1 + k)) (cons_ok (f := eVar 1) (g := aNil) rfl rfl) (by rw [show n + 1 + k = (n + k) + 1 by omega]; exact r_blocks s h _ hk))) (fun b' m => by
          have hd := dp_inner m
          refine ⟨_, rfl, call_ok (cons_ok rfl rfl) ?_⟩
          have q := ih (dpL b') (by omega) (n + 1 + k - 2 - dpL b') b' h (Nat.le_refl _)
          rw [show n + 1 + k - 2 - dpL b' + 2 + dpL b' = n + 1 + k by omega] at q
          exact q) (inner_len s)
        refine cal_ok e1 ?_
        show (boolsD _).map _ = _
        rw [bools_map]
        rcases hk with ⟨x, b, rfl⟩ | ⟨a, b, rfl⟩ | ⟨a, b, rfl⟩ <;> simp [inner, duS]
      cases s with
      | set _ => kernel_rfl
      | refuse => kernel_rfl
      | give => kernel_rfl
      | loop _ => kernel_rfl
      | lend x b =>
        rw [sif_f (h' := h) (by kernel_rfl), sif_t (h' := h) (by kernel_rfl) (ret_ok (main (.inl ⟨_, _, rfl⟩)))]
      | trys a b =>
        rw [sif_f (h' := h) (by kernel_rfl), sif_t (h' := h) (by kernel_rfl) (ret_ok (main (.inr (.inl ⟨_, _, rfl⟩))))]
      | ask a b =>
        rw [sif_f (h' := h) (by kernel_rfl), sif_t (h' := h) (by kernel_rfl) (ret_ok (main (.inr (.inr ⟨_, _, rfl⟩))))]
theorem filter_none {α : Type} {p : α → Bool} {l : List α} (h : ∀ a ∈ l, p a = false) : l.filter p = [] := by
  induction l with
  | nil => rfl
  | cons a l ih =>
    rw [List.filter_cons, h a (List.mem_cons_self ..)]
    exact ih fun b m => h b (List.mem_cons_of_mem _ m)
theorem mem_sds : ∀ {b : List Sm} {d : D}, d ∈ sds b → ∃ s ∈ b, d = sd s
  | [], d, h => by simp [sds] at h
  | s :: r, d, h => by
    simp only [sds, List.mem_cons] at h
    rcases h with rfl | h
    · exact ⟨s, List.mem_cons_self .., rfl⟩
    · obtain ⟨t, m, e⟩ := mem_sds h
      exact ⟨t, List.mem_cons_of_mem _ m, e⟩
theorem r_right : ∀ (k n : Nat) (b : List Sm) (h : Hs), dpL b ≤ k → m__law_right (n + 3 + k) [blk b] h = .ok (.bl true) h := by
  intro k
  induction k using Nat.strongRecOn with
  | ind k ih =>
    intro n b h hb
    rw [show n + 3 + k = (n + 2 + k) + 1 by omega]
    refine run_rt rfl ?_ rfl
    simp only [List.map_cons, List.map_nil, List.length_cons, List.length_nil, List.reduceReplicate, List.cons_append, List.nil_append, List.set_cons_zero, List.set_cons_succ, Nat.reduceAdd, Nat.reduceSub, Nat.zero_add]
    rw [seq_nx (set_ok (call_ok (cons_ok rfl rfl) (r_ended k n b h hb)))]
    simp only [List.map_cons, List.map_nil, List.length_cons, List.length_nil, List.reduceReplicate, List.cons_append, List.nil_append, List.set_cons_zero, List.set_cons_succ, Nat.reduceAdd, Nat.reduceSub, Nat.zero_add]
    have e1 : bE (eOp opNe (eVar 1) (eCall (m__law_due (n + 2 + k)) (aCons (eVar 0) aNil))) [some (blk b), some (.bl (duL b)), none, none] h = .ok false h := be_ok (op_ok rfl (call_ok (cons_ok rfl rfl) (r_due k n b h hb)) (by rw [ne_b]; simp))
    rw [sif_f (bor_f (bnot_ok (b := true) (be_ok (cal_ok rfl rfl))) e1)]
    obtain ⟨ρ', e2, _⟩ := for_all (t := .nm 2) (h := h) (s := sIf (bE (eOp opNe (eLc [3] (iSeq (eCall (m__law_inner (n + 2 + k)) (aCons (eVar 2) aNil))) (.nm 3) (bNot (bE (eCall (m__law_right (n + 2 + k)) (aCons (eVar 3) aNil)))) (eVar 3)) (eLst aNil))) (sRet (eC (.bl false))) sNil)
      (fun ρ => ∃ o, ρ = [some (blk b), some (.bl (duL b)), o, none]) (sds b) [some (blk b), some (.bl (duL b)), none, none] ⟨_, rfl⟩ (fun d m ρ i => by
        obtain ⟨o, rfl⟩ := i
        obtain ⟨s, ms, rfl⟩ := mem_sds m
        have hs : dpS s ≤ k := Nat.le_trans (dp_mem ms) hb
        refine ⟨[some (blk b), some (.bl (duL b)), some (sd s), none], [some (blk b), some (.bl (duL b)), some (sd s), none], rfl, ?_, _, rfl⟩
        have e3 := lc_okA (own := [3]) (t := .nm 3) (ρ := [some (blk b), some (.bl (duL b)), some (sd s), none]) (h := h) (l := inner s) (e := blk) (g := blk) (p := fun _ => false) (c := bNot (bE (eCall (m__law_right (n + 2 + k)) (aCons (eVar 3) aNil)))) (f := eVar 3)
          (iseq_l (call_ok (m := m__law_inner (n + 2 + k)) (cons_ok (f := eVar 2) (g := aNil) rfl rfl) (by rw [show n + 2 + k = (n + 1 + k) + 1 by omega]; exact r_inner s h _))) (fun b' m' => by
          have hd := dp_inner m'
          refine ⟨_, rfl, bnot_ok (b := true) (be_ok (call_ok (cons_ok rfl rfl) ?_)), fun z => nomatch z⟩
          have q := ih (dpL b') (by omega) (n + 2 + k - 3 - dpL b') b' h (Nat.le_refl _)
          rw [show n + 2 + k - 3 - dpL b' + 3 + dpL b' = n + 2 + k by omega] at q
          exact q) (inner_len s)
        rw [filter_none (fun _ _ => rfl)] at e3
        exact (if_f (be_ok (op_ok e3 rfl ((nel0 rfl).trans rfl)))).trans rfl)
    rw [seq_nx ((forS_ok (iseq_t (f := eVar 0) (l := sds b) rfl)).trans e2)]
    exact ret_ok rfl
end Gk02
namespace U
open PySem PySem.Spec PyProof.Rows L2 RZ
theorem chk_of {n : Nat} : ∀ {h h' : Hs}, h.length ≤ h'.length → (∀ i o', i < h.length → h'[i]? = some o' → h[i]? = some o' ∨ okO n o' = true) → chk n h h' = true
  | [], _, _, _ => by simp [chk]
  | o :: h, [], l, _ => by simp at l
  | o :: h, p :: h', l, q => by
    simp only [chk, Bool.and_eq_true, Bool.or_eq_true]
    refine ⟨?_, chk_of (by simpa using l) fun i o' hi e => by simpa using q (i + 1) o' (by simpa using hi) (by simpa using e)⟩
    rcases q 0 p (by simp) rfl with z | z
    · have z : o = p := by simpa using z
      subst z
      exact .inl (smO_rfl _)
    · exact .inr z
/-- the same boxes, or boxes that lean on none beyond -/
def Kp (h h' : Hs) : Prop := h'.length = h.length ∧ ∀ (i : Nat) (o : Ob), h'[i]? = some o → h[i]? = some o ∨ okO h.length o = true
theorem Kp.refl (h : Hs) : Kp h h := ⟨rfl, fun _ _ e => .inl e⟩
theorem Kp.trans {h h1 h2 : Hs} (a : Kp h h1) (b : Kp h1 h2) : Kp h h2 := ⟨b.1.trans a.1, fun i o e => by
  rcases b.2 i o e with z | z
  · exact a.2 i o z
  · rw [a.1] at z
    exact .inr z⟩
theorem Kp.set {h : Hs} {i : Nat} {o : Ob} (q : okO h.length o = true) : Kp h (h.set i o) := ⟨List.length_set .., fun j p e => by
  by_cases hj : j = i
  · subst hj
    by_cases hl : j < h.length
    · rw [List.getElem?_set_self hl] at e
      cases e
      exact .inr q
    · rw [List.getElem?_eq_none (by rw [List.length_set]; omega)] at e
      cases e
  · rw [List.getElem?_set_ne (Ne.symm hj)] at e
    exact .inl e⟩
theorem fin_kp {h h' : Hs} {d : D} (k : Kp h h') (ok : okD h.length d = true) : fin false h d h' = .ok d h' := by
  unfold fin
  rw [if_neg (by decide), ok, chk_of (Nat.le_of_eq k.1.symm) fun i o _ e => k.2 i o e, ← k.1, List.take_length]
  rfl
theorem run_kp {np n : Nat} {b : SV} {ds : List D} {h h' : Hs} {d : D} (hl : ds.length = np) (e : b (ds.map some ++ List.replicate (n - ds.length) none) h = .rt d h') (k : Kp h h') (ok : okD h.length d = true) : runD np n false b ds h = .ok d h' := by
  unfold runD
  rw [if_pos hl, e]
  exact fin_kp k ok
theorem put_ok {fo fi fv : EV} {ρ : Rho} {h h1 h2 h3 h4 : Hs} {x y v : D} (hv : fv ρ h = .ok v h1) (ho : fo ρ h1 = .ok x h2) (hi : fi ρ h2 = .ok y h3) (e : putD x y v h3 = some h4) : sPut fo fi fv ρ h = .nx ρ h4 := by
  unfold sPut sE
  simp only [hv, ho, hi, e]
end U
namespace Gk02
open PySem PySem.Spec PyProof.Rows L2 RZ U
def mixed (c k : Int) : Int :=
  let n1 := (c + 7919 * k + 1) * 48271 % 2147483647
  let n2 := n1 * (n1 / 1009 + 69621) % 2147483647
  n2 * (n2 / 2003 + 40692) % 2147483399
theorem r_mixed (c k : Int) (h : Hs) (n : Nat) : m__law_mixed (n + 1) [.int c, .int k] h = .ok (.int (mixed c k)) h := by
  refine run_rt rfl ?_ rfl
  have e1 : ∀ x : Int, (x % 2147483647).natAbs < 2 ^ 64 := fun x => by omega
  refine (seq_nx (set_ok (op_ok (op_ok (op_ok (op_ok (x := .int c) rfl (op_ok rfl (y := .int k) rfl (mul_l (by decide))) add_i) rfl add_i) rfl (mul_r (by decide))) rfl (mod_p (by decide))))).trans ?_
  refine (seq_nx (set_ok (op_ok (op_ok rfl (op_ok (op_ok rfl rfl (div_p (by decide))) rfl add_i) (mul_l (e1 _))) rfl (mod_p (by decide))))).trans ?_
  exact ret_ok (op_ok (op_ok rfl (op_ok (op_ok rfl rfl (div_p (by decide))) rfl add_i) (mul_l (e1 _))) rfl (mod_p (by decide)))
def pl (m : Nat) : List D := (poolS.take m).map .str
def md (l e : Int) (pi : Nat) : List (Key × D) := [(.inr "left", .int l), (.inr "lends", .int e), (.inr "pool", .ref pi)]
/-- the state: a well, a mind, its pool -/
structure Stt (wi mi pi : Nat) (a b c l e : Int) (m : Nat) (h : Hs) : Prop where
  sw : h[wi]? = some (.lst [.int a, .int b, .int c])
  sm : h[mi]? = some (.dK (md l e pi))
  sp : h[pi]? = some (.lst (pl m))
def St (wi mi pi : Nat) (h : Hs) : Prop := ∃ a b c l e m, Stt wi mi pi a b c l e m h
section
variable {wi mi pi : Nat} {a b c l e : Int} {m : Nat} {h : Hs}
theorem ixw {i : Int} {d : D} (S : Stt wi mi pi a b c l e m h) (q : atI [D.int a, .int b, .int c] i = some d) : opIx (.ref wi) (.int i) h = some d := by
  show (match seqD (.ref wi) h with | some l => atI l i | none => none) = _
  simp only [seqD, lstD, S.sw]
  exact q
theorem putw {i : Int} {j : Nat} {x : D} (S : Stt wi mi pi a b c l e m h) (q : ixN 3 i = some j) : putD (.ref wi) (.int i) x h = some (h.set wi (.lst ([D.int a, .int b, .int c].set j x))) := by
  simp only [putD, S.sw]
  show (ixN 3 i).map _ = _
  rw [q]
  rfl
theorem Stt.setw (d1 : wi ≠ mi) (d2 : wi ≠ pi) (S : Stt wi mi pi a b c l e m h) (a' b' c' : Int) : Stt wi mi pi a' b' c' l e m (h.set wi (.lst [.int a', .int b', .int c'])) :=
  ⟨List.getElem?_set_self (List.getElem?_eq_some_iff.mp S.sw).1, by rw [List.getElem?_set_ne d1]; exact S.sm, by rw [List.getElem?_set_ne d2]; exact S.sp⟩
theorem Stt.setm (d1 : wi ≠ mi) (d3 : mi ≠ pi) (S : Stt wi mi pi a b c l e m h) (l' e' : Int) : Stt wi mi pi a b c l' e' m (h.set mi (.dK (md l' e' pi))) :=
  ⟨by rw [List.getElem?_set_ne (Ne.symm d1)]; exact S.sw, List.getElem?_set_self (List.getElem?_eq_some_iff.mp S.sm).1, by rw [List.getElem?_set_ne d3]; exact S.sp⟩
theorem Stt.setp (d2 : wi ≠ pi) (d3 : mi ≠ pi) (S : Stt wi mi pi a b c l e m h) (m' : Nat) : Stt wi mi pi a b c l e m' (h.set pi (.lst (pl m'))) :=
  ⟨by rw [List.getElem?_set_ne (Ne.symm d2)]; exact S.sw, by rw [List.getElem?_set_ne (Ne.symm d3)]; exact S.sm, List.getElem?_set_self (List.getElem?_eq_some_iff.mp S.sp).1⟩
theorem ixm (S : Stt wi mi pi a b c l e m h) {k : Str} {d : D} (q : valK (md l e pi) (.inr k) = some d) : opIx2 (.ref mi) (.str k) h = some d := by
  show (dicD (.ref mi) h).bind _ = _
  have e1 : dicD (.ref mi) h = some (md l e pi) := by
    show boxK (.ref mi) h = _
    simp only [boxK, S.sm]
  rw [e1]
  exact q
theorem putm (S : Stt wi mi pi a b c l e m h) {k : Str} {v : D} : putD (.ref mi) (.str k) v h = some (h.set mi (.dK (putKd (md l e pi) (.inr k) v))) := by
  simp only [putD, S.sm]
  have h3 : (md l e pi).length < sizeLine := by
    show 3 < sizeLine
    rw [sizeLine_eq]
    omega
  simp only [if_pos h3]
  rfl
theorem r_draw (d1 : wi ≠ mi) (d2 : wi ≠ pi) (S : St wi mi pi h) (n : Nat) {many : Int} (hm : 0 < many ∧ many.natAbs.log2 < 9000) :
    ∃ r h', m__law_draw (n + 2) [.ref wi, .int many] h = .ok (.int r) h' ∧ 0 ≤ r ∧ r < many ∧ St wi mi pi h' ∧ Kp h h' := by
  obtain ⟨a, b, c, l, e, m, S⟩ := S
  have e0 := ixw (i := 0) (d := .int a) S rfl
  by_cases q : many ≤ a
  · have S' := S.setw d1 d2 (a / many) b c
    refine ⟨a % many, _, run_kp (h' := h.set wi (.lst [.int (a / many), .int b, .int c])) rfl ?_ (Kp.set rfl) rfl, Int.emod_nonneg _ (by omega), Int.emod_lt_of_pos _ hm.1, ⟨_, _, _, _, _, _, S'⟩, Kp.set rfl⟩
    unfold b__law_draw
    simp only [List.map_cons, List.map_nil, List.length_cons, List.length_nil, List.reduceReplicate, List.cons_append, List.nil_append, List.set_cons_zero, List.set_cons_succ, Nat.reduceAdd, Nat.reduceSub, Nat.zero_add]
    refine sif_t (h' := h) (be_ok (op_ok (op_ok rfl rfl e0) rfl (by rw [ge_i, decide_eq_true q]))) ?_
    rw [seq_nx (set_ok (op_ok (op_ok rfl rfl e0) rfl (mod_p hm.1)))]
    simp only [List.map_cons, List.map_nil, List.length_cons, List.length_nil, List.reduceReplicate, List.cons_append, List.nil_append, List.set_cons_zero, List.set_cons_succ, Nat.reduceAdd, Nat.reduceSub, Nat.zero_add]
    rw [seq_nx (put_ok (op_ok (op_ok rfl rfl e0) rfl (div_p hm)) rfl rfl (putw S rfl))]
    exact ret_ok rfl
  · have S' := S.setw d1 d2 a b (c + 1)
    refine ⟨mixed b (c + 1) % many, _, run_kp (h' := h.set wi (.lst [.int a, .int b, .int (c + 1)])) rfl ?_ (Kp.set rfl) rfl, Int.emod_nonneg _ (by omega), Int.emod_lt_of_pos _ hm.1, ⟨_, _, _, _, _, _, S'⟩, Kp.set rfl⟩
    unfold b__law_draw
    simp only [List.map_cons, List.map_nil, List.length_cons, List.length_nil, List.reduceReplicate, List.cons_append, List.nil_append, List.set_cons_zero, List.set_cons_succ, Nat.reduceAdd, Nat.reduceSub, Nat.zero_add]
    rw [sif_f (h' := h) (be_ok (op_ok (op_ok rfl rfl e0) rfl (by rw [ge_i, decide_eq_false q])))]
    rw [seq_nx (put_ok (op_ok (op_ok rfl rfl (ixw (i := 2) S rfl)) rfl add_i) rfl rfl (putw S rfl))]
    refine ret_ok (op_ok (call_ok (cons_ok (op_ok rfl rfl (ixw (i := 1) S' rfl)) (cons_ok (op_ok rfl rfl (ixw (i := 2) S' rfl)) rfl)) (r_mixed b (c + 1) _ n)) rfl (mod_p hm.1))
end
end Gk02
namespace Gk02
open PySem PySem.Spec PyProof.Rows L2 RZ U
theorem put_left (l e x : Int) (pi : Nat) : putKd (md l e pi) (.inr "left") (.int x) = md x e pi := by kernel_rfl
theorem put_lends (l e x : Int) (pi : Nat) : putKd (md l e pi) (.inr "lends") (.int x) = md l x pi := by kernel_rfl
theorem pl_plain (m : Nat) : plains (pl m) = true := by
  unfold pl
  have h : ∀ l : List Str, (∀ x ∈ l, PyData.strOk x = true) → plains (l.map D.str) = true := fun l => by
    induction l with
    | nil => intro _; simp [U.plains]
    | cons x l ih => intro q; simp [U.plains, U.plain, q x (List.mem_cons_self ..), ih fun y m => q y (List.mem_cons_of_mem _ m)]
  refine h _ fun x hx => ?_
  have hm := List.mem_of_mem_take hx
  have : ∀ y ∈ poolS, PyData.strOk y = true := by decide +kernel
  exact this x hm
section
variable {wi mi pi : Nat} {a b c l e : Int} {m : Nat} {h : Hs}
theorem ok_md (S : Stt wi mi pi a b c l e m h) (l' e' : Int) : okO h.length (.dK (md l' e' pi)) = true := by
  have hp : pi < h.length := (List.getElem?_eq_some_iff.mp S.sp).1
  show U.okK h.length (md l' e' pi) = true
  simp [md, U.okK, U.okD, hp]
theorem ok_pl (n m : Nat) : okO n (.lst (pl m)) = true := ok_plains n _ (pl_plain m)
/-- what a statement is -/
def StmS (wi mi pi : Nat) (q : Nat) : Prop := ∀ (n : Nat) (h : Hs), St wi mi pi h → ∃ s h', m__law_statement (n + 4 + 2 * q) [.ref wi, .ref mi, .int (4 - (q : Int))] h = .ok (sd s) h' ∧ dpS s ≤ q ∧ St wi mi pi h' ∧ Kp h h'
def BlkS (wi mi pi : Nat) (q : Nat) : Prop := ∀ (n : Nat) (h : Hs), St wi mi pi h → ∃ b h', m__law_block (n + 5 + 2 * q) [.ref wi, .ref mi, .int (4 - (q : Int))] h = .ok (blk b) h' ∧ dpL b ≤ q ∧ duL b.dropLast = false ∧ b.length ≤ 10 ∧ St wi mi pi h' ∧ Kp h h'
theorem lg {i : Int} (q : 0 < i ∧ i.natAbs.log2 < 9000 := by decide +kernel) : 0 < i ∧ i.natAbs.log2 < 9000 := q
theorem dpL_app : ∀ (a b : List Sm), dpL (a ++ b) = max (dpL a) (dpL b)
  | [], b => by simp [dpL]
  | s :: r, b => by simp only [List.cons_append, dpL, dpL_app r b]; omega
/-- the turns of a block -/
theorem r_turns (d1 : wi ≠ mi) (d2 : wi ≠ pi) {q n : Nat} {dd : D} (ss : ∀ h, St wi mi pi h → ∃ s h', m__law_statement (n + 4 + 2 * q) [.ref wi, .ref mi, dd] h = .ok (sd s) h' ∧ dpS s ≤ q ∧ St wi mi pi h' ∧ Kp h h') :
    ∀ (items : List D) (o : Option D) (bb : List Sm) (h : Hs), St wi mi pi h → dpL bb ≤ q → duL bb.dropLast = false → bb.length + items.length ≤ 10 →
      ∃ o' b' h', forL (.nm 4) (sIf (bAnd (bE (eOp opGt (eOp opIx2 (eVar 1) (eC (.str "left"))) (eC (.int 0)))) (bNot (bE (eCall (m__law_due (n + 4 + 2 * q)) (aCons (eVar 3) aNil))))) (sSet 3 (eOp opAdd (eVar 3) (eTup (aCons (eCall (m__law_statement (n + 4 + 2 * q)) (aCons (eVar 0) (aCons (eVar 1) (aCons (eVar 2) aNil)))) aNil)))) sNil) items [some (.ref wi), some (.ref mi), some dd, some (blk bb), o] h = .nx [some (.ref wi), some (.ref mi), some dd, some (blk b'), o'] h' ∧ dpL b' ≤ q ∧ duL b'.dropLast = false ∧ b'.length ≤ 10 ∧ St wi mi pi h' ∧ Kp h h'
  | [], o, bb, h, S, h1, h2, h3 => ⟨o, bb, h, rfl, h1, h2, h3, S, Kp.refl h⟩
  | d :: items, o, bb, h, S, h1, h2, h3 => by
    obtain ⟨a, b, c, l, e, m, S1⟩ := id S
    simp only [List.length_cons] at h3
    have eg : bE (eOp opGt (eOp opIx2 (eVar 1) (eC (.str "left"))) (eC (.int 0))) [some (.ref wi), some (.ref mi), some dd, some (blk bb), some d] h = .ok (decide (0 < l)) h := be_ok (op_ok (op_ok rfl rfl (ixm S1 (d := .int l) (by kernel_rfl))) rfl gt_i)
    have ed : bNot (bE (eCall (m__law_due (n + 4 + 2 * q)) (aCons (eVar 3) aNil))) [some (.ref wi), some (.ref mi), some dd, some (blk bb), some d] h = .ok (!duL bb) h := bnot_ok (be_ok (call_ok (cons_ok rfl rfl) (by
      have r := r_due q (n + 2 + q) bb h h1
      rw [show n + 2 + q + 2 + q = n + 4 + 2 * q by omega] at r
      exact r)))
    have ec := band_b eg ed
    unfold forL
    simp only [Tg.set, List.set_cons_succ, List.set_cons_zero]
    by_cases z : (decide (0 < l) && !duL bb) = true
    · rw [z] at ec
      obtain ⟨s, h', es, g1, g2, g3⟩ := ss h S
      have en : sIf (bAnd (bE (eOp opGt (eOp opIx2 (eVar 1) (eC (.str "left"))) (eC (.int 0)))) (bNot (bE (eCall (m__law_due (n + 4 + 2 * q)) (aCons (eVar 3) aNil))))) (sSet 3 (eOp opAdd (eVar 3) (eTup (aCons (eCall (m__law_statement (n + 4 + 2 * q)) (aCons (eVar 0) (aCons (eVar 1) (aCons (eVar 2) aNil)))) aNil)))) sNil [some (.ref wi), some (.ref mi), some dd, some (blk bb), some d] h = .nx [some (.ref wi), some (.ref mi), some dd, some (blk (bb ++ [s])), some d] h' := by
        rw [if_t ec]
        have l1 : ∀ x : List Sm, (sds x).length = x.length := fun x => by
          induction x with
          | nil => rfl
          | cons y x ih => simp [sds, ih]
        refine (set_ok (op_ok (y := .tup [sd s]) rfl (tup_ok (cons_ok (call_ok (cons_ok rfl (cons_ok rfl (cons_ok rfl rfl))) es) rfl) sm) (add_t (by
          rw [l1]
          exact small_line (by simp; omega))))).trans ?_
        show RS.nx [some (.ref wi), some (.ref mi), some dd, some (.tup (sds bb ++ [sd s])), some d] h' = _
        have : sds bb ++ [sd s] = sds (bb ++ [s]) := by rw [sds_app]; simp [sds]
        rw [this]
        rfl
      rw [en]
      have z2 : duL bb = false := by
        rw [Bool.and_eq_true] at z
        simpa using z.2
      obtain ⟨o', b', h2', k1, k2, k3, k3', k4, k5⟩ := r_turns d1 d2 ss items (some d) (bb ++ [s]) h' g2 (by rw [dpL_app]; simp only [dpL]; omega) (by rw [List.dropLast_concat]; exact z2) (by rw [List.length_append, List.length_singleton]; omega)
      exact ⟨o', b', h2', k1, k2, k3, k3', k4, g3.trans k5⟩
    · have z' : (decide (0 < l) && !duL bb) = false := by simpa using z
      rw [z'] at ec
      rw [show sIf (bAnd (bE (eOp opGt (eOp opIx2 (eVar 1) (eC (.str "left"))) (eC (.int 0)))) (bNot (bE (eCall (m__law_due (n + 4 + 2 * q)) (aCons (eVar 3) aNil))))) (sSet 3 (eOp opAdd (eVar 3) (eTup (aCons (eCall (m__law_statement (n + 4 + 2 * q)) (aCons (eVar 0) (aCons (eVar 1) (aCons (eVar 2) aNil)))) aNil)))) sNil [some (.ref wi), some (.ref mi), some dd, some (blk bb), some d] h = .nx [some (.ref wi), some (.ref mi), some dd, some (blk bb), some d] h from (if_f ec).trans rfl]
      exact r_turns d1 d2 ss items (some d) bb h S h1 h2 (by omega)
theorem r_block (d1 : wi ≠ mi) (d2 : wi ≠ pi) {q : Nat} (ss : StmS wi mi pi q) : BlkS wi mi pi q := fun n h S => by
  obtain ⟨r, h1, e1, r0, r4, S1, K1⟩ := r_draw d1 d2 S (n + 2 + 2 * q) (lg (i := 4))
  rw [show n + 2 + 2 * q + 2 = n + 4 + 2 * q by omega] at e1
  obtain ⟨o', b', h', e2, g1, g2, g2', g3, g4⟩ := r_turns d1 d2 (ss n) ((List.range r.toNat).map fun i => .int (i : Nat)) none [] h1 S1 (by simp [dpL]) rfl (by rw [List.length_map, List.length_range]; simp; omega)
  refine ⟨b', h', ?_, g1, g2, g2', g3, K1.trans g4⟩
  rw [show n + 5 + 2 * q = (n + 4 + 2 * q) + 1 by omega]
  refine run_kp rfl ?_ (K1.trans g4) (ok_plain _ _ (plain_blk b'))
  simp only [List.map_cons, List.map_nil, List.length_cons, List.length_nil, List.reduceReplicate, List.cons_append, List.nil_append, List.set_cons_zero, List.set_cons_succ, Nat.reduceAdd, Nat.reduceSub, Nat.zero_add]
  rw [seq_nx (set_ok (d := blk []) (by kernel_rfl))]
  simp only [List.map_cons, List.map_nil, List.length_cons, List.length_nil, List.reduceReplicate, List.cons_append, List.nil_append, List.set_cons_zero, List.set_cons_succ, Nat.reduceAdd, Nat.reduceSub, Nat.zero_add]
  rw [seq_nx ((forS_ok (irange (call_ok (cons_ok rfl (cons_ok rfl rfl)) e1) (by omega))).trans e2)]
  exact ret_ok rfl
end
end Gk02
namespace Gk02
open PySem PySem.Spec PyProof.Rows L2 RZ U
theorem pl_pop (m : Nat) (h : (pl m).isEmpty = false) : ∃ (x : Fin 6) (m' : Nat), (pl m)[(pl m).length - 1]? = some (.str (nm x)) ∧ (pl m).dropLast = pl m' := by
  have big : 6 ≤ m → pl m = pl 6 := fun hm => by
    unfold pl
    rw [List.take_of_length_le (show poolS.length ≤ m from hm), List.take_of_length_le (show poolS.length ≤ 6 from Nat.le_refl _)]
  rcases Nat.lt_or_ge m 6 with hm | hm
  · match m, hm with
    | 0, _ => cases h
    | 1, _ => exact ⟨0, 0, rfl, rfl⟩
    | 2, _ => exact ⟨1, 1, rfl, rfl⟩
    | 3, _ => exact ⟨2, 2, rfl, rfl⟩
    | 4, _ => exact ⟨3, 3, rfl, rfl⟩
    | 5, _ => exact ⟨4, 4, rfl, rfl⟩
  · rw [big hm]
    exact ⟨5, 5, rfl, rfl⟩
section
variable {wi mi pi : Nat} {a b c l e : Int} {m : Nat} {h : Hs}
theorem ne_pool (S : Stt wi mi pi a b c l e m h) : opNe (.ref pi) (.lst []) h = some (.bl (!(pl m).isEmpty)) := by
  have q := nel0 (h := h) (pl_plain m)
  have e1 : der h (.ref pi) = .lst (pl m) := by
    show (match h[pi]? with | some (.lst l) => D.lst l | _ => .ref pi) = _
    rw [S.sp]
  unfold opNe at q ⊢
  rw [e1]
  exact q
theorem pop_ok {fa : EV} {ρ : Rho} {h0 : Hs} (S : Stt wi mi pi a b c l e m h) (ha : fa ρ h0 = .ok (.ref pi) h) {y : D} (hy : (pl m)[(pl m).length - 1]? = some y) : ePop fa ρ h0 = .ok y (h.set pi (.lst (pl m).dropLast)) := by
  unfold ePop
  rw [ha, R.bind_ok]
  have e1 : bxL (.ref pi) h = some (pi, pl m) := by
    show (match h[pi]? with | some (.lst l) => some (pi, l) | _ => none) = _
    rw [S.sp]
  simp only [e1, hy]
theorem r_stmt (d1 : wi ≠ mi) (d2 : wi ≠ pi) (d3 : mi ≠ pi) {q : Nat} (hb : ∀ p, q = p + 1 → BlkS wi mi pi p) : StmS wi mi pi q := fun n h S => by
  obtain ⟨a, b, c, l, e, m, S0⟩ := S
  -- left
  have S1 := S0.setm d1 d3 (l - 1) e
  have K1 : Kp h (h.set mi (.dK (md (l - 1) e pi))) := Kp.set (ok_md S0 (l - 1) e)
  have E1 : ∀ ρ : Rho, eVar 1 ρ h = .ok (.ref mi) h → eVar 1 ρ h = .ok (.ref mi) h := fun _ z => z
  have P1 := putm S0 (k := "left") (v := .int (l - 1))
  rw [put_left] at P1
  generalize h.set mi (.dK (md (l - 1) e pi)) = h1 at S1 K1 P1
  -- the way
  obtain ⟨r, h2, ew, r0, r9, S2, K2⟩ := r_draw d1 d2 ⟨_, _, _, _, _, _, S1⟩ (n + 1 + 2 * q) (lg (i := 10))
  rw [show n + 1 + 2 * q + 2 = n + 3 + 2 * q by omega] at ew
  have K12 := K1.trans K2
  rw [show n + 4 + 2 * q = (n + 3 + 2 * q) + 1 by omega]
  suffices ∃ s h', b__law_statement (n + 3 + 2 * q) ([D.ref wi, .ref mi, .int (4 - (q : Int))].map some ++ List.replicate (8 - [D.ref wi, .ref mi, .int (4 - (q : Int))].length) none) h = .rt (sd s) h' ∧ dpS s ≤ q ∧ St wi mi pi h' ∧ Kp h h' by
    obtain ⟨s, h', e1, e2, e3, e4⟩ := this
    exact ⟨s, h', run_kp rfl e1 e4 (ok_plain _ _ (plain_sd s)), e2, e3, e4⟩
  simp only [List.map_cons, List.map_nil, List.length_cons, List.length_nil, List.reduceReplicate, List.cons_append, List.nil_append, List.set_cons_zero, List.set_cons_succ, Nat.reduceAdd, Nat.reduceSub, Nat.zero_add]
  show ∃ s h', sSeq _ _ _ _ = _ ∧ _
  rw [seq_nx (put_ok (op_ok (op_ok rfl rfl (ixm S0 (d := .int l) (by kernel_rfl))) rfl rfl) rfl rfl P1)]
  rw [seq_nx (set_ok (call_ok (cons_ok rfl (cons_ok rfl rfl)) ew))]
  simp only [List.map_cons, List.map_nil, List.length_cons, List.length_nil, List.reduceReplicate, List.cons_append, List.nil_append, List.set_cons_zero, List.set_cons_succ, Nat.reduceAdd, Nat.reduceSub, Nat.zero_add]
  -- set
  have c1 : bOr (bE (eOp opLt (eVar 3) (eC (.int 2)))) (bAnd (bE (eOp opGt (eVar 2) (eC (.int 3)))) (bE (eOp opGt (eVar 3) (eC (.int 3))))) [some (.ref wi), some (.ref mi), some (.int (4 - (q : Int))), some (.int r), none, none, none, none] h2 = .ok (decide (r < 2) || (decide (3 < 4 - (q : Int)) && decide (3 < r))) h2 :=
    bor_b (be_ok (op_ok rfl rfl lt_i)) (band_b (be_ok (op_ok rfl rfl gt_i)) (be_ok (op_ok rfl rfl gt_i)))
  by_cases z1 : (decide (r < 2) || (decide (3 < 4 - (q : Int)) && decide (3 < r))) = true
  · rw [z1] at c1
    obtain ⟨x, h3, ex, _, _, S3, K3⟩ := r_draw d1 d2 S2 (n + 1 + 2 * q) (lg (i := 1000000000001))
    rw [show n + 1 + 2 * q + 2 = n + 3 + 2 * q by omega] at ex
    refine ⟨.set x, h3, sif_t c1 ((ret_ok (tup_ok (cons_ok rfl (cons_ok rfl (cons_ok (call_ok (cons_ok rfl (cons_ok (d := .int 1000000000001) (h1 := h2) (by kernel_rfl) rfl)) ex) rfl))) sm)).trans (by simp only [sd])), by simp [dpS], S3, K12.trans K3⟩
  have z1' : (decide (r < 2) || (decide (3 < 4 - (q : Int)) && decide (3 < r))) = false := by simpa using z1
  rw [z1'] at c1
  rw [sif_f c1]
  simp only [Bool.or_eq_false_iff, Bool.and_eq_false_iff, decide_eq_false_iff_not] at z1'
  obtain ⟨a2, b2, c2, l2, e2, m2, T2⟩ := id S2
  have cl : ∀ ρ : Rho, eVar 1 ρ h2 = .ok (.ref mi) h2 → eOp opIx2 (eVar 1) (eC (.str "lends")) ρ h2 = .ok (.int e2) h2 := fun ρ z => op_ok z rfl (ixm T2 (by kernel_rfl))
  -- refuse
  have cc : bOr (bE (eOp opEq (eVar 3) (eC (.int 2)))) (bAnd (bE (eOp opEq (eVar 3) (eC (.int 3)))) (bE (eOp opGt (eOp opIx2 (eVar 1) (eC (.str "lends"))) (eC (.int 0))))) [some (.ref wi), some (.ref mi), some (.int (4 - (q : Int))), some (.int r), none, none, none, none] h2 = .ok ((r == 2) || ((r == 3) && decide (0 < e2))) h2 :=
    bor_b (be_ok (op_ok rfl rfl eq_i)) (band_b (be_ok (op_ok rfl rfl eq_i)) (be_ok (op_ok (cl _ rfl) rfl gt_i)))
  by_cases z2 : ((r == 2) || ((r == 3) && decide (0 < e2))) = true
  · rw [z2] at cc
    exact ⟨.refuse, h2, sif_t cc ((ret_ok (tup_ok (cons_ok rfl rfl) sm)).trans (by simp only [sd])), by simp [dpS], S2, K12⟩
  have z2' : ((r == 2) || ((r == 3) && decide (0 < e2))) = false := by simpa using z2
  rw [z2'] at cc
  rw [sif_f cc]
  -- give
  have c3 : bE (eOp opEq (eVar 3) (eC (.int 3))) [some (.ref wi), some (.ref mi), some (.int (4 - (q : Int))), some (.int r), none, none, none, none] h2 = .ok (r == 3) h2 := be_ok (op_ok rfl rfl eq_i)
  by_cases z3 : (r == 3) = true
  · rw [z3] at c3
    exact ⟨.give, h2, sif_t c3 ((ret_ok (tup_ok (cons_ok rfl (cons_ok (tup_ok rfl sm) rfl)) sm)).trans (by simp only [sd])), by simp [dpS], S2, K12⟩
  have z3' : (r == 3) = false := by simpa using z3
  rw [z3'] at c3
  rw [sif_f c3]
  have r4 : 4 ≤ r := by
    have n3 : r ≠ 3 := by simpa using z3'
    have n2 : r ≠ 2 := by
      intro z
      rw [z] at z2'
      simp at z2'
    omega
  obtain ⟨p, hp⟩ : ∃ p, q = p + 1 := ⟨q - 1, by omega⟩
  have BB := hb p hp
  have lev : n + 3 + 2 * q = n + 5 + 2 * p := by omega
  have deep : (4 - (q : Int)) + 1 = 4 - (p : Int) := by omega
  -- a block
  have blkc : ∀ (ρ : Rho) (h3 : Hs), eVar 0 ρ h3 = .ok (.ref wi) h3 → eVar 1 ρ h3 = .ok (.ref mi) h3 → eVar 2 ρ h3 = .ok (.int (4 - (q : Int))) h3 → St wi mi pi h3 → ∃ bk h4, eCall (m__law_block (n + 3 + 2 * q)) (aCons (eVar 0) (aCons (eVar 1) (aCons (eOp opAdd (eVar 2) (eC (.int 1))) aNil))) ρ h3 = .ok (blk bk) h4 ∧ dpL bk ≤ p ∧ St wi mi pi h4 ∧ Kp h3 h4 := fun ρ h3 v0 v1 v2 S3 => by
    obtain ⟨bk, h4, g1, g2, _, _, g4, g5⟩ := BB n h3 S3
    refine ⟨bk, h4, call_ok (cons_ok v0 (cons_ok v1 (cons_ok (op_ok v2 rfl add_i) rfl))) ?_, g2, g4, g5⟩
    rw [lev, deep]
    exact g1
  -- lend
  have c4 : bAnd (bE (eOp opEq (eVar 3) (eC (.int 5)))) (bAnd (bE (eOp opEq (eOp opIx2 (eVar 1) (eC (.str "lends"))) (eC (.int 0)))) (bE (eOp opNe (eOp opIx2 (eVar 1) (eC (.str "pool"))) (eLst aNil)))) [some (.ref wi), some (.ref mi), some (.int (4 - (q : Int))), some (.int r), none, none, none, none] h2 = .ok ((r == 5) && ((e2 == 0) && !(pl m2).isEmpty)) h2 :=
    band_b (be_ok (op_ok rfl rfl eq_i)) (band_b (be_ok (op_ok (cl _ rfl) rfl eq_i)) (be_ok (op_ok (op_ok rfl rfl (ixm T2 (by kernel_rfl))) (lst_ok rfl sm) (ne_pool T2))))
  by_cases z4 : ((r == 5) && ((e2 == 0) && !(pl m2).isEmpty)) = true
  · rw [z4] at c4
    have hne : (pl m2).isEmpty = false := by
      simp only [Bool.and_eq_true] at z4
      simpa using z4.2.2
    obtain ⟨x, m', hx, hm'⟩ := pl_pop m2 hne
    have T3 := T2.setp d2 d3 m'
    have K3 : Kp h2 (h2.set pi (.lst (pl m'))) := Kp.set (ok_pl _ _)
    have ep := fun (ρ : Rho) (z : eVar 1 ρ h2 = .ok (.ref mi) h2) => pop_ok T2 (fa := eOp opIx2 (eVar 1) (eC (.str "pool"))) (ρ := ρ) (h0 := h2) (op_ok z rfl (ixm T2 (by kernel_rfl))) hx
    rw [hm'] at ep
    generalize h2.set pi (.lst (pl m')) = h3 at T3 K3 ep
    have T4 := T3.setm d1 d3 l2 1
    have K4 : Kp h3 (h3.set mi (.dK (md l2 1 pi))) := Kp.set (ok_md T3 _ _)
    have P4 := putm T3 (k := "lends") (v := .int 1)
    rw [put_lends] at P4
    generalize h3.set mi (.dK (md l2 1 pi)) = h4 at T4 K4 P4
    obtain ⟨bk, h5, e5, g5, S5, K5⟩ := blkc [some (.ref wi), some (.ref mi), some (.int (4 - (q : Int))), some (.int r), some (.str (nm x)), none, none, none] h4 rfl rfl rfl ⟨_, _, _, _, _, _, T4⟩
    obtain ⟨a5, b5, c5, l5, e5', m5, T5⟩ := S5
    have T6 := T5.setm d1 d3 l5 0
    have K6 : Kp h5 (h5.set mi (.dK (md l5 0 pi))) := Kp.set (ok_md T5 _ _)
    have P6 := putm T5 (k := "lends") (v := .int 0)
    rw [put_lends] at P6
    refine ⟨.lend x bk, _, sif_t c4 ?_, by simp only [dpS]; omega, ⟨_, _, _, _, _, _, T6⟩, ((((K12.trans K3).trans K4).trans K5).trans K6)⟩
    rw [seq_nx (set_ok (ep _ rfl))]
    simp only [List.map_cons, List.map_nil, List.length_cons, List.length_nil, List.reduceReplicate, List.cons_append, List.nil_append, List.set_cons_zero, List.set_cons_succ, Nat.reduceAdd, Nat.reduceSub, Nat.zero_add]
    rw [seq_nx (put_ok rfl rfl rfl P4), seq_nx (set_ok e5)]
    simp only [List.map_cons, List.map_nil, List.length_cons, List.length_nil, List.reduceReplicate, List.cons_append, List.nil_append, List.set_cons_zero, List.set_cons_succ, Nat.reduceAdd, Nat.reduceSub, Nat.zero_add]
    rw [seq_nx (put_ok rfl rfl rfl P6)]
    exact (ret_ok (tup_ok (cons_ok rfl (cons_ok rfl (cons_ok rfl (cons_ok rfl rfl)))) sm)).trans (by simp only [sd, blk])
  have z4' : ((r == 5) && ((e2 == 0) && !(pl m2).isEmpty)) = false := by simpa using z4
  rw [z4'] at c4
  rw [sif_f c4]
  -- first
  obtain ⟨b3, h3, e3, g3, S3, K3⟩ := blkc [some (.ref wi), some (.ref mi), some (.int (4 - (q : Int))), some (.int r), none, none, none, none] h2 rfl rfl rfl S2
  rw [seq_nx (set_ok e3)]
  simp only [List.map_cons, List.map_nil, List.length_cons, List.length_nil, List.reduceReplicate, List.cons_append, List.nil_append, List.set_cons_zero, List.set_cons_succ, Nat.reduceAdd, Nat.reduceSub, Nat.zero_add]
  have c5 : bOr (bE (eOp opEq (eVar 3) (eC (.int 4)))) (bE (eOp opEq (eVar 3) (eC (.int 5)))) [some (.ref wi), some (.ref mi), some (.int (4 - (q : Int))), some (.int r), none, none, some (blk b3), none] h3 = .ok ((r == 4) || (r == 5)) h3 :=
    bor_b (be_ok (op_ok rfl rfl eq_i)) (be_ok (op_ok rfl rfl eq_i))
  by_cases z5 : ((r == 4) || (r == 5)) = true
  · rw [z5] at c5
    exact ⟨.loop b3, h3, sif_t c5 ((ret_ok (tup_ok (cons_ok rfl (cons_ok rfl rfl)) sm)).trans (by simp only [sd, blk])), by simp only [dpS]; omega, S3, K12.trans K3⟩
  have z5' : ((r == 4) || (r == 5)) = false := by simpa using z5
  rw [z5'] at c5
  rw [sif_f c5]
  obtain ⟨b4, h4, e4, g4, S4, K4⟩ := blkc [some (.ref wi), some (.ref mi), some (.int (4 - (q : Int))), some (.int r), none, none, some (blk b3), none] h3 rfl rfl rfl S3
  rw [seq_nx (set_ok e4)]
  simp only [List.map_cons, List.map_nil, List.length_cons, List.length_nil, List.reduceReplicate, List.cons_append, List.nil_append, List.set_cons_zero, List.set_cons_succ, Nat.reduceAdd, Nat.reduceSub, Nat.zero_add]
  have c6 : bE (eOp opEq (eVar 3) (eC (.int 6))) [some (.ref wi), some (.ref mi), some (.int (4 - (q : Int))), some (.int r), none, none, some (blk b3), some (blk b4)] h4 = .ok (r == 6) h4 := be_ok (op_ok rfl rfl eq_i)
  by_cases z6 : (r == 6) = true
  · rw [z6] at c6
    exact ⟨.trys b3 b4, h4, sif_t c6 ((ret_ok (tup_ok (cons_ok rfl (cons_ok (tup_ok rfl sm) (cons_ok rfl (cons_ok rfl (cons_ok (tup_ok rfl sm) (cons_ok rfl (cons_ok rfl rfl))))))) sm)).trans (by simp only [sd, blk])), by simp only [dpS]; omega, S4, (K12.trans K3).trans K4⟩
  have z6' : (r == 6) = false := by simpa using z6
  rw [z6'] at c6
  rw [sif_f c6]
  exact ⟨.ask b3 b4, h4, (ret_ok (tup_ok (cons_ok rfl (cons_ok rfl (cons_ok rfl rfl))) sm)).trans (by simp only [sd, blk]), by simp only [dpS]; omega, S4, (K12.trans K3).trans K4⟩
theorem r_all (d1 : wi ≠ mi) (d2 : wi ≠ pi) (d3 : mi ≠ pi) : ∀ q, StmS wi mi pi q
  | 0 => r_stmt d1 d2 d3 fun p hp => by omega
  | q + 1 => r_stmt d1 d2 d3 fun p hp => by
    obtain rfl : p = q := by omega
    exact r_block d1 d2 (r_all d1 d2 d3 p)
end
end Gk02
namespace U
open PySem PySem.Spec PyProof.Rows L2 RZ
theorem for_heap {t : Tg} {s : SV} (Inv : Rho → Hs → Prop) : ∀ (items : List D) (ρ : Rho) (h : Hs), Inv ρ h → (∀ d ∈ items, ∀ ρ h, Inv ρ h → ∃ ρ1 ρ2 h2, t.set d ρ = some ρ1 ∧ s ρ1 h = .nx ρ2 h2 ∧ Inv ρ2 h2) → ∃ ρ' h', forL t s items ρ h = .nx ρ' h' ∧ Inv ρ' h'
  | [], ρ, h, i0, _ => ⟨ρ, h, rfl, i0⟩
  | d :: l, ρ, h, i0, hh => by
    obtain ⟨ρ1, ρ2, h2, e1, e2, i2⟩ := hh d (List.mem_cons_self ..) ρ h i0
    obtain ⟨ρ3, h3, e3, i3⟩ := for_heap Inv l ρ2 h2 i2 fun d m => hh d (List.mem_cons_of_mem _ m)
    refine ⟨ρ3, h3, ?_, i3⟩
    unfold forL
    simp only [e1, e2]
    exact e3
theorem run_nil {np n : Nat} {b : SV} {ds : List D} {h' : Hs} {d : D} (hl : ds.length = np) (e : b (ds.map some ++ List.replicate (n - ds.length) none) [] = .rt d h') (ok : okD 0 d = true) : runD np n false b ds [] = .ok d [] := by
  unfold runD
  rw [if_pos hl, e]
  show fin false [] d h' = _
  unfold fin
  rw [if_neg (by decide), if_pos (by rw [show okD ([] : Hs).length d = true from ok]; simp [chk])]
  rfl
theorem run_keep {np n : Nat} {b : SV} {ds : List D} {h h' : Hs} {d : D} (hl : ds.length = np) (e : b (ds.map some ++ List.replicate (n - ds.length) none) h = .rt d h') : runD np n true b ds h = .ok d h' := by
  unfold runD
  rw [if_pos hl, e]
  rfl
theorem cut_last (l : List D) : U.cutD l none (some (-1)) = l.dropLast := by
  unfold U.cutD
  rw [List.dropLast_eq_take]
  show ((l.drop 0).take ((if (-1 : Int) < 0 then ((-1 : Int) + (l.length : Int)).toNat else min (-1 : Int).toNat l.length) - 0)) = _
  rw [if_pos (by decide), List.drop_zero]
  congr 1
  omega
theorem box_ok {g : AV} {ρ : Rho} {h h1 : Hs} {ds : List D} (hg : g ρ h = .ok ds h1) (q : ds.length ≤ sizeLine) : eBox g ρ h = .ok (.ref h1.length) (h1 ++ [.lst ds]) := by
  unfold eBox
  rw [hg, R.bind_ok, if_pos q]
end U
namespace Gk02
open PySem PySem.Spec PyProof.Rows L2 RZ U
theorem r_cell (ns : List Int) (hl : ns.length ≤ 63) (j : Nat) (h : Hs) (n : Nat) : ∃ c : Int, m__law_cell_at (n + 1) [.lst (ns.map .int), .int (j : Int)] h = .ok (.int c) h := by
  have el : eCal opLenQ (eVar 0) [some (.lst (ns.map .int)), some (.int (j : Int))] h = .ok (.int ns.length) h := cal_ok rfl (by
    show some (D.int ((ns.map D.int).length : Int)) = _
    rw [List.length_map])
  by_cases q : (j : Int) < ns.length
  · obtain ⟨d, e1, e2⟩ := atI_ok (l := ns.map D.int) (i := (j : Int)) (by omega) (by rw [List.length_map]; exact q)
    obtain ⟨c, _, rfl⟩ := List.mem_map.mp (List.mem_of_getElem? e2)
    refine ⟨c, run_rt rfl ?_ rfl⟩
    unfold b__law_cell_at
    simp only [List.map_cons, List.map_nil, List.length_cons, List.length_nil, List.reduceReplicate, List.cons_append, List.nil_append, List.set_cons_zero, List.set_cons_succ, Nat.reduceAdd, Nat.reduceSub, Nat.zero_add]
    exact sif_t (h' := h) (be_ok (op_ok rfl el (by rw [lt_i, decide_eq_true q]))) (ret_ok (op_ok rfl rfl e1))
  · refine ⟨0, run_rt rfl ?_ rfl⟩
    unfold b__law_cell_at
    simp only [List.map_cons, List.map_nil, List.length_cons, List.length_nil, List.reduceReplicate, List.cons_append, List.nil_append, List.set_cons_zero, List.set_cons_succ, Nat.reduceAdd, Nat.reduceSub, Nat.zero_add]
    rw [sif_f (h' := h) (be_ok (op_ok rfl el (by rw [lt_i, decide_eq_false q])))]
    exact ret_ok rfl
theorem r_well (ns : List Int) (hl : ns.length ≤ 63) (j : Nat) (h : Hs) (n : Nat) : ∃ a b c : Int, m__law_well (n + 2) [.lst (ns.map .int), .int (j : Int)] h = .ok (.ref h.length) (h ++ [.lst [.int a, .int b, .int c]]) := by
  obtain ⟨c, ec⟩ := r_cell ns hl j h n
  have eb : ∃ x : Int, x.natAbs < 2 ^ 64 ∧ eCal opInt (eOp opGe (eVar 2) (eOp opPow (eC (.int 10)) (eC (.int 18)))) [some (.lst (ns.map .int)), some (.int (j : Int)), some (.int c)] h = .ok (.int x) h := by
    have e1 : eOp opGe (eVar 2) (eOp opPow (eC (.int 10)) (eC (.int 18))) [some (.lst (ns.map .int)), some (.int (j : Int)), some (.int c)] h = .ok (.bl (decide (1000000000000000000 ≤ c))) h := op_ok rfl (y := .int 1000000000000000000) (by kernel_rfl) ge_i
    exact ⟨if decide (1000000000000000000 ≤ c) then 1 else 0, by split <;> decide, cal_ok e1 rfl⟩
  obtain ⟨x, hx, ex⟩ := eb
  refine ⟨c * x, c, 0, run_keep rfl ?_⟩
  unfold b__law_well
  simp only [List.map_cons, List.map_nil, List.length_cons, List.length_nil, List.reduceReplicate, List.cons_append, List.nil_append, List.set_cons_zero, List.set_cons_succ, Nat.reduceAdd, Nat.reduceSub, Nat.zero_add]
  rw [seq_nx (set_ok (call_ok (cons_ok rfl (cons_ok rfl rfl)) ec))]
  simp only [List.map_cons, List.map_nil, List.length_cons, List.length_nil, List.reduceReplicate, List.cons_append, List.nil_append, List.set_cons_zero, List.set_cons_succ, Nat.reduceAdd, Nat.reduceSub, Nat.zero_add]
  exact ret_ok (box_ok (cons_ok (op_ok rfl ex (mul_r hx)) (cons_ok rfl (cons_ok rfl rfl))) sm)
theorem sds_len : ∀ b : List Sm, (sds b).length = b.length
  | [] => rfl
  | s :: r => by simp [sds, sds_len r]
theorem sds_drop : ∀ b : List Sm, (sds b).dropLast = sds b.dropLast
  | [] => rfl
  | [s] => rfl
  | s :: t :: r => by
    have := sds_drop (t :: r)
    simp only [sds, List.dropLast_cons₂] at this ⊢
    rw [this]
theorem dp_drop (b : List Sm) : dpL b.dropLast ≤ dpL b := by
  rcases blk_cases b with rfl | ⟨i, s, rfl⟩
  · exact Nat.le_refl _
  · rw [List.dropLast_concat, dpL_app]
    exact Nat.le_max_left _ _
theorem r_turn (ns : List Int) (hl : ns.length ≤ 63) (j : Nat) (o2 o3 : Option D) (h : Hs) : ∃ ρ2 h2, (sSeq (sSet 2 (eDic [(.inr "left", (eC (.int 50))), (.inr "lends", (eC (.int 0))), (.inr "pool", (eBox (aCons (eC (.str "a")) (aCons (eC (.str "b")) (aCons (eC (.str "c")) (aCons (eC (.str "d")) (aCons (eC (.str "e")) (aCons (eC (.str "f")) aNil))))))))]))
  (sSeq (sSet 3 (eCall (m__law_block 200) (aCons (eCall (m__law_well 200) (aCons (eVar 0) (aCons (eVar 1) aNil))) (aCons (eVar 2) (aCons (eC (.int 0)) aNil)))))
  (sSeq (sIf (bOr (bNot (bE (eCall (m__law_right 200) (aCons (eVar 3) aNil)))) (bE (eCall (m_is_ended 200) (aCons (eSl (eVar 3) pNone (pSome (eNeg (eC (.int 1))))) aNil)))) (sRet (eC (.bl false))) sNil)
  (sIf (bAnd (bNot (bE (eCall (m_is_ended 200) (aCons (eVar 3) aNil)))) (bOr (bE (eCall (m_is_ended 200) (aCons (eOp opAdd (eVar 3) (eTup (aCons (eTup (aCons (eC (.str "set")) (aCons (eC (.str "n")) (aCons (eC (.int 0)) aNil)))) aNil))) aNil))) (bNot (bE (eCall (m_is_ended 200) (aCons (eOp opAdd (eVar 3) (eTup (aCons (eTup (aCons (eC (.str "refuse")) aNil)) aNil))) aNil)))))) (sRet (eC (.bl false))) sNil)))) [some (.lst (ns.map .int)), some (.int (j : Int)), o2, o3] h = .nx ρ2 h2 ∧ ∃ p2 p3, ρ2 = [some (.lst (ns.map .int)), some (.int (j : Int)), p2, p3] := by
  have ed : eDic [(.inr "left", (eC (.int 50))), (.inr "lends", (eC (.int 0))), (.inr "pool", (eBox (aCons (eC (.str "a")) (aCons (eC (.str "b")) (aCons (eC (.str "c")) (aCons (eC (.str "d")) (aCons (eC (.str "e")) (aCons (eC (.str "f")) aNil))))))))] [some (.lst (ns.map .int)), some (.int (j : Int)), o2, o3] h = .ok (.ref (h ++ [Ob.lst (pl 6)]).length) ((h ++ [.lst (pl 6)]) ++ [.dK (md 50 0 h.length)]) := by
    have e0 : dP [(.inr "left", (eC (.int 50))), (.inr "lends", (eC (.int 0))), (.inr "pool", (eBox (aCons (eC (.str "a")) (aCons (eC (.str "b")) (aCons (eC (.str "c")) (aCons (eC (.str "d")) (aCons (eC (.str "e")) (aCons (eC (.str "f")) aNil))))))))] [some (.lst (ns.map .int)), some (.int (j : Int)), o2, o3] h = .ok [(.inr "left", .int 50), (.inr "lends", .int 0), (.inr "pool", .ref h.length)] (h ++ [.lst (pl 6)]) := by kernel_rfl
    unfold eDic
    rw [e0, R.bind_ok]
    have e1 : mergeKd [] [(.inr "left", .int 50), (.inr "lends", .int 0), (.inr "pool", .ref h.length)] = md 50 0 h.length := by kernel_rfl
    rw [e1]
  have lp : (h ++ [Ob.lst (pl 6)]).length = h.length + 1 := by simp
  rw [lp] at ed
  rw [seq_nx (set_ok ed)]
  simp only [List.map_cons, List.map_nil, List.length_cons, List.length_nil, List.reduceReplicate, List.cons_append, List.nil_append, List.set_cons_zero, List.set_cons_succ, Nat.reduceAdd, Nat.reduceSub, Nat.zero_add]
  obtain ⟨a, b, c, ew⟩ := r_well ns hl j ((h ++ [.lst (pl 6)]) ++ [.dK (md 50 0 h.length)]) 198
  have l2 : ((h ++ [Ob.lst (pl 6)]) ++ [Ob.dK (md 50 0 h.length)]).length = h.length + 2 := by simp
  rw [l2] at ew
  have S : St (h.length + 2) (h.length + 1) h.length (((h ++ [.lst (pl 6)]) ++ [.dK (md 50 0 h.length)]) ++ [.lst [.int a, .int b, .int c]]) := by
    refine ⟨a, b, c, 50, 0, 6, ?_, ?_, ?_⟩
    · rw [List.getElem?_append_right (by rw [l2]; exact Nat.le_refl _), l2, Nat.sub_self]
      rfl
    · rw [List.getElem?_append_left (by rw [l2]; omega), List.getElem?_append_right (by rw [lp]; exact Nat.le_refl _), lp, Nat.sub_self]
      rfl
    · rw [List.getElem?_append_left (by rw [l2]; omega), List.getElem?_append_left (by rw [lp]; omega), List.getElem?_append_right (Nat.le_refl _), Nat.sub_self]
      rfl
  obtain ⟨bk, h3, eb, g1, g2, g2', _, _⟩ := r_block (wi := h.length + 2) (mi := h.length + 1) (pi := h.length) (q := 4) (by omega) (by omega) (r_all (by omega) (by omega) (by omega) 4) 187 _ S
  have eb' : m__law_block 200 [.ref (h.length + 2), .ref (h.length + 1), .int 0] (((h ++ [.lst (pl 6)]) ++ [.dK (md 50 0 h.length)]) ++ [.lst [.int a, .int b, .int c]]) = .ok (blk bk) h3 := eb
  rw [seq_nx (set_ok (call_ok (cons_ok (call_ok (cons_ok rfl (cons_ok rfl rfl)) ew) (cons_ok rfl (cons_ok rfl rfl))) eb'))]
  simp only [List.map_cons, List.map_nil, List.length_cons, List.length_nil, List.reduceReplicate, List.cons_append, List.nil_append, List.set_cons_zero, List.set_cons_succ, Nat.reduceAdd, Nat.reduceSub, Nat.zero_add]
  have er : m__law_right 200 [blk bk] h3 = .ok (.bl true) h3 := r_right 4 193 bk h3 g1
  have en : ∀ x : List Sm, dpL x ≤ 4 → m_is_ended 200 [blk x] h3 = .ok (.bl (duL x)) h3 := fun x hx => r_ended 4 194 x h3 hx
  have e3 := en bk.dropLast (Nat.le_trans (dp_drop bk) g1)
  rw [g2] at e3
  have ls : (sds bk).length + 1 ≤ sizeLine := by
    rw [sds_len]
    exact small_line (by omega)
  have esl : eSl (eVar 3) pNone (pSome (eNeg (eC (.int 1)))) [some (.lst (ns.map .int)), some (.int (j : Int)), some (.ref (h.length + 1)), some (blk bk)] h3 = .ok (blk bk.dropLast) h3 := by
    refine sl_ok (x := .tup (sds bk)) rfl rfl (some_ok rfl) ?_
    show some (D.tup (U.cutD (sds bk) none (some (-1)))) = _
    rw [cut_last, sds_drop]
    rfl
  rw [sif_f (bor_f (bnot_ok (b := true) (be_ok (call_ok (cons_ok rfl rfl) er))) (be_ok (call_ok (cons_ok esl rfl) e3)))]
  have ea : ∀ s : Sm, opAdd (blk bk) (.tup [sd s]) h3 = some (blk (bk ++ [s])) := fun s => (add_t ls).trans (by
    show some (D.tup (sds bk ++ [sd s])) = some (D.tup (sds (bk ++ [s])))
    rw [sds_app]
    simp [sds])
  have e5 := en (bk ++ [.set 0]) (by rw [dpL_app]; simp [dpL, dpS]; exact g1)
  have e6 := en (bk ++ [.refuse]) (by rw [dpL_app]; simp [dpL, dpS]; exact g1)
  rw [duL_last] at e5 e6
  have ct := band_b (be_ok (f := eCall (m_is_ended 200) (aCons (eVar 3) aNil)) (ρ := [some (.lst (ns.map .int)), some (.int (j : Int)), some (.ref (h.length + 1)), some (blk bk)]) (call_ok (cons_ok rfl rfl) (en bk g1)) |> bnot_ok)
    (bor_b (be_ok (f := eCall (m_is_ended 200) (aCons (eOp opAdd (eVar 3) (eTup (aCons (eTup (aCons (eC (.str "set")) (aCons (eC (.str "n")) (aCons (eC (.int 0)) aNil)))) aNil))) aNil)) (call_ok (cons_ok (op_ok rfl (y := .tup [sd (.set 0)]) (by kernel_rfl) (ea (.set 0))) rfl) e5))
      (bnot_ok (be_ok (f := eCall (m_is_ended 200) (aCons (eOp opAdd (eVar 3) (eTup (aCons (eTup (aCons (eC (.str "refuse")) aNil)) aNil))) aNil)) (call_ok (cons_ok (op_ok rfl (y := .tup [sd .refuse]) (by kernel_rfl) (ea .refuse)) rfl) e6))))
  have cf : (!duL bk && (duS (.set 0) || !duS .refuse)) = false := by simp [duS]
  rw [cf] at ct
  exact ⟨_, h3, (if_f ct).trans rfl, _, _, rfl⟩
theorem plain (ns : List Int) (hl : ns.length ≤ 63) (hb : ∀ z ∈ ns, Builtin.Int.intBits z ≤ 1048576) : ∃ h', m_law 201 [.lst (ns.map .int)] [] = .ok (.bl true) h' := by
  have el : eOp opMin (eC (.int 6)) (eCal opLenQ (eVar 0)) [some (.lst (ns.map .int)), none, none, none] [] = .ok (.int (if (ns.length : Int) < 6 then (ns.length : Int) else 6)) [] := op_ok rfl (cal_ok rfl (show _ = some (D.int (ns.length : Int)) by
    show some (D.int ((ns.map D.int).length : Int)) = _
    rw [List.length_map])) rfl
  obtain ⟨ρ', h', e1, _⟩ := for_heap (t := .nm 1) (fun ρ _ => ∃ o1 o2 o3, ρ = [some (.lst (ns.map .int)), o1, o2, o3]) ((List.range (if (ns.length : Int) < 6 then (ns.length : Int) else 6).toNat).map fun i => .int (i : Nat)) [some (.lst (ns.map .int)), none, none, none] [] ⟨_, _, _, rfl⟩ (fun d m ρ h i => by
    obtain ⟨o1, o2, o3, rfl⟩ := i
    obtain ⟨j, _, rfl⟩ := List.mem_map.mp m
    obtain ⟨ρ2, h2, e2, p2, p3, e3⟩ := r_turn ns hl j o2 o3 h
    exact ⟨_, ρ2, h2, rfl, e2, _, _, _, e3⟩)
  refine ⟨[], run_nil (b := b_law 200) (h' := h') rfl ?_ rfl⟩
  unfold b_law
  simp only [List.map_cons, List.map_nil, List.length_cons, List.length_nil, List.reduceReplicate, List.cons_append, List.nil_append, List.set_cons_zero, List.set_cons_succ, Nat.reduceAdd, Nat.reduceSub, Nat.zero_add]
  rw [seq_nx ((forS_ok (irange el (by split <;> omega))).trans e1)]
  exact ret_ok (op_ok (call_ok (cons_ok (d := blk []) (by kernel_rfl) rfl) (r_ended 0 198 [] h' (Nat.le_refl _))) rfl rfl)
end Gk02
namespace Gk02
open PySem PySem.Spec PyProof.Rows L2 RZ U
def hfn : List He.DefD := [⟨("_law_mixed", none), "_law_mixed", "_law_mixed", defArgs s__law_mixed, defBody s__law_mixed, defScope s__law_mixed, [], []⟩, ⟨("_law_draw", none), "_law_draw", "_law_draw", defArgs s__law_draw, defBody s__law_draw, defScope s__law_draw, [], []⟩, ⟨("_law_inner", none), "_law_inner", "_law_inner", defArgs s__law_inner, defBody s__law_inner, defScope s__law_inner, [], []⟩, ⟨("_law_due", none), "_law_due", "_law_due", defArgs s__law_due, defBody s__law_due, defScope s__law_due, [], []⟩, ⟨("_law_statement", none), "_law_statement", "_law_statement", defArgs s__law_statement, defBody s__law_statement, defScope s__law_statement, [], []⟩, ⟨("_law_block", none), "_law_block", "_law_block", defArgs s__law_block, defBody s__law_block, defScope s__law_block, [], []⟩, ⟨("_law_cell_at", none), "_law_cell_at", "_law_cell_at", defArgs s__law_cell_at, defBody s__law_cell_at, defScope s__law_cell_at, [], []⟩, ⟨("_law_well", none), "_law_well", "_law_well", defArgs s__law_well, defBody s__law_well, defScope s__law_well, [], []⟩, ⟨("blocks_in", none), "blocks_in", "blocks_in", defArgs s_blocks_in, defBody s_blocks_in, defScope s_blocks_in, [], []⟩, ⟨("is_ended", none), "is_ended", "is_ended", defArgs s_is_ended, defBody s_is_ended, defScope s_is_ended, [], []⟩, ⟨("_law_right", none), "_law_right", "_law_right", defArgs s__law_right, defBody s__law_right, defScope s__law_right, [], []⟩, ⟨("law", none), "law", "law", defArgs s_law, defBody s_law, defScope s_law, [], []⟩]
def hfa : List He.Fa := [.free "all", .free "bool", .free "int", .free "isinstance", .free "len", .free "min", .free "range", .free "zip", .glo "SHAPES", .glo "_law_mixed", .glo "_law_draw", .glo "_law_inner", .glo "_law_due", .glo "_law_statement", .glo "_law_block", .glo "_law_cell_at", .glo "_law_well", .glo "blocks_in", .glo "is_ended", .glo "_law_right", .glo "law"]
abbrev RR : PySem.W.OpenRow := PySem.W.OpenLaw.row PySem.Challenge.rw_usedonce_k02_what_is_ended
def hts : List He.Tab := [(fun K => He.ga K "SHAPES", ["make", "burn", "split", "join", "pack", "unpack", "put", "take", "set", "lend", "ask", "loop", "call", "try", "refuse", "give"])]
def hex (K : PySem.W.Frag) : Bool := tabB "SHAPES" tab_SHAPES K
abbrev hkk : PySem.W.Hook := He.hookX 4 hfa hfn hts [] hex
def hob (s : PySem.W.SharedT) : He.AlX := He.obsX 4 hfa hfn hts [] hex (HandSHeadRun.getT s)
theorem hob_eq (s : PySem.W.SharedT) : hob s = hkk.obs s.abs := He.obsX_eq (HandSHeadRun.getT_eq s)
def hloose : List PySem.Str := ["SHAPES", "blocks_in", "is_ended", "_law_cell_at", "_law_mixed", "_law_well", "_law_draw", "_law_pick", "_law_statement", "_law_block", "_law_inner", "_law_due", "_law_right"]
theorem hrun0 (w : World) : HandSHeadRun.RunEq RR (PySem.W.view RR.prog [15]) hkk hob 3000 hloose (w.withFollow "special-get-raises" false) := by
  intro os
  kernel_rfl
theorem hrun1 (w : World) : HandSHeadRun.RunEq RR (PySem.W.view RR.prog [15]) hkk hob 3000 hloose (w.withFollow "special-get-raises" true) := by
  intro os
  kernel_rfl
theorem hrun (w : World) : HandSHeadRun.RunEq RR (PySem.W.view RR.prog [15]) hkk hob 3000 hloose w := PySem.W.byRow2 "special-get-raises" (P := fun w => HandSHeadRun.RunEq RR (PySem.W.view RR.prog [15]) hkk hob 3000 hloose w) hrun0 hrun1 w
theorem hfacts {K : PySem.W.Frag} {w : World} {GG : Gn} {h : Heap} {mg : Str → Option Value} (hGK : GG.K = K) (X : K.In h) (G : h.Ns mainGlobals mg) (cx : He.SaysX hfa hfn hts [] hex w h K) (c : He.SaysD hfa hfn K) : Hd K w GG mg where
  u_all := He.free_ok X G (c.fact 0 (f := .free "all") rfl)
  u_bool := He.free_ok X G (c.fact 1 (f := .free "bool") rfl)
  u_int := He.free_ok X G (c.fact 2 (f := .free "int") rfl)
  u_isinstance := He.free_ok X G (c.fact 3 (f := .free "isinstance") rfl)
  u_len := He.free_ok X G (c.fact 4 (f := .free "len") rfl)
  u_min := He.free_ok X G (c.fact 5 (f := .free "min") rfl)
  u_range := He.free_ok X G (c.fact 6 (f := .free "range") rfl)
  u_zip := He.free_ok X G (c.fact 7 (f := .free "zip") rfl)
  c_SHAPES := by
    subst hGK
    obtain ⟨es, n, D'⟩ := cx.t.tab 0 (t := (fun K => He.ga K "SHAPES", ["make", "burn", "split", "join", "pack", "unpack", "put", "take", "set", "lend", "ask", "loop", "call", "try", "refuse", "give"])) rfl
    exact wtab_of D' (He.glo_ok X G (c.fact 8 (f := .glo "SHAPES") rfl)) cx.more
  f__law_mixed := by
    obtain ⟨fd, F⟩ := c.def_ 0 rfl
    exact ⟨_, fd, F, He.glo_ok X G (c.fact 9 (f := .glo "_law_mixed") rfl)⟩
  f__law_draw := by
    obtain ⟨fd, F⟩ := c.def_ 1 rfl
    exact ⟨_, fd, F, He.glo_ok X G (c.fact 10 (f := .glo "_law_draw") rfl)⟩
  f__law_inner := by
    obtain ⟨fd, F⟩ := c.def_ 2 rfl
    exact ⟨_, fd, F, He.glo_ok X G (c.fact 11 (f := .glo "_law_inner") rfl)⟩
  f__law_due := by
    obtain ⟨fd, F⟩ := c.def_ 3 rfl
    exact ⟨_, fd, F, He.glo_ok X G (c.fact 12 (f := .glo "_law_due") rfl)⟩
  f__law_statement := by
    obtain ⟨fd, F⟩ := c.def_ 4 rfl
    exact ⟨_, fd, F, He.glo_ok X G (c.fact 13 (f := .glo "_law_statement") rfl)⟩
  f__law_block := by
    obtain ⟨fd, F⟩ := c.def_ 5 rfl
    exact ⟨_, fd, F, He.glo_ok X G (c.fact 14 (f := .glo "_law_block") rfl)⟩
  f__law_cell_at := by
    obtain ⟨fd, F⟩ := c.def_ 6 rfl
    exact ⟨_, fd, F, He.glo_ok X G (c.fact 15 (f := .glo "_law_cell_at") rfl)⟩
  f__law_well := by
    obtain ⟨fd, F⟩ := c.def_ 7 rfl
    exact ⟨_, fd, F, He.glo_ok X G (c.fact 16 (f := .glo "_law_well") rfl)⟩
  f_blocks_in := by
    obtain ⟨fd, F⟩ := c.def_ 8 rfl
    exact ⟨_, fd, F, He.glo_ok X G (c.fact 17 (f := .glo "blocks_in") rfl)⟩
  f_is_ended := by
    obtain ⟨fd, F⟩ := c.def_ 9 rfl
    exact ⟨_, fd, F, He.glo_ok X G (c.fact 18 (f := .glo "is_ended") rfl)⟩
  f__law_right := by
    obtain ⟨fd, F⟩ := c.def_ 10 rfl
    exact ⟨_, fd, F, He.glo_ok X G (c.fact 19 (f := .glo "_law_right") rfl)⟩
  f_law := by
    obtain ⟨fd, F⟩ := c.def_ 11 rfl
    exact ⟨_, fd, F, He.glo_ok X G (c.fact 20 (f := .glo "law") rfl)⟩
end Gk02
open PySem PySem.W PySem.Calls PyProof.Rows
theorem PySem.Challenge.cw_usedonce_k02_what_is_ended_holds : PySem.Challenge.rw_usedonce_k02_what_is_ended.Holds := by
  w_on; o_law
  refine HandSHeadRun.head_any (r := OpenLaw.row PySem.Challenge.rw_usedonce_k02_what_is_ended) (q := view (OpenLaw.row PySem.Challenge.rw_usedonce_k02_what_is_ended).prog [15]) (H := Gk02.hkk)
    (ob := Gk02.hob) (M := 3000) (loose := Gk02.hloose) (d := HandSHeadRun.topDef (OpenLaw.row PySem.Challenge.rw_usedonce_k02_what_is_ended).prog 15) (kwd := []) Gk02.hob_eq
    (by kernel_rfl) (fun s => by kernel_rfl) Gk02.hrun (by kernel_rfl) (by kernel_rfl) (by kernel_rfl) (by rfl) (by first | assumption | decide +kernel) (by decide +kernel)
    ⟨rfl, rfl, rfl, rfl, rfl, by decide +kernel⟩ ?hw ?hc
  case hw => w_witness2
  case hc =>
    refine U.walk_law (l := PySem.Challenge.rw_usedonce_k02_what_is_ended) (n := 63) (x := "_law_script") rfl (by decide) (by kernel_rfl) ?_
    intro w mg fa h Y G hmg0
    obtain ⟨K, KX, c⟩ := Y
    have hmg : mg ("law" : PySem.Str) = some (.ref fa) := by
      have e : (HandSHeadRun.topDef (OpenLaw.row PySem.Challenge.rw_usedonce_k02_what_is_ended).prog 15).name = ("law" : PySem.Str) := by kernel_rfl
      rw [← e]
      exact hmg0
    have hd : Gk02.Hd K w ⟨K, w, fun _ => 0, fun _ => 0⟩ mg := Gk02.hfacts rfl KX G c c.t.d
    obtain ⟨f, fd, FL, e⟩ := hd.f_law.ex
    obtain rfl : fa = f := by
      have z := hmg.symm.trans e
      cases z
      rfl
    have b := L2.FunD.bindsA (ps := ["_law_script"]) FL fun _ _ _ _ _ _ us hl => match us, hl with | [_], _ => rfl
    exact ⟨K, ⟨K, w, fun _ => 0, fun _ => 0⟩, Gk02.m_law 201, 201, fd, KX, rfl, ⟨rfl, by decide, by decide⟩, fun s v => b s [v] rfl, fun ns hl hb => Gk02.plain ns hl hb, fun base _ _ => Gk02.okL (G := ⟨K, w, fun _ => 0, fun _ => 0⟩) hd rfl rfl FL 200⟩
