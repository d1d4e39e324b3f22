import PyProof.Rows.All
import Wide.All
import OpenK.AllK
import Wide.FinOn
import HandS.ForMost
import HandS.IsInst
import HandS.TupAny
import HandS.Wide
import HandS.Exc
import HandS.ExcOwn
import HandS.TryOnly
import HandS.WordsExc
import HandS.Lambda
import HandS.Nested
import HandS.Walk
import HandS.CallLocal
import PyProof.Rows.StrMul
import HandS.TupLe
import HandS.Zip
import HandS.Defaults
import HandS.EndBits
import HandS.Head0
import HandS.Head1
import HandS.Head2
import HandS.HeadEnd
import HandS.HeadHook1
import HandS.HeadHook2
import HandS.HeadHook4
import HandS.EndTab
import PyProof.FitsReplace
import HandS.Small
import HandS.HeadHook3
import HandS.ExcIs
import HandS.TryMany
import HandS.Iter
import HandS.SetKeys
import HandS.TupMul
import PySem.Challenge.RW_usedonce_k56_what_is_a_worth
set_option Elab.async false
set_option linter.all false
set_option maxRecDepth 100000
set_option maxHeartbeats 0
/-! data, the small heap, how they lie in the abstract heap -/
namespace U
open PySem PySem.Spec PyProof.Rows L2

/-- a value as the proofs see it: data by value, a changing thing by its number -/
inductive D where
  | non | bl (b : Bool) | int (i : Int) | str (x : Str) | ty (n : String)
  | tup (l : List D) | lst (l : List D)
  | dic (l : List (Key × D)) | dit (l : List (List Key × D))
  | ref (i : Nat) | fn (i : Nat) (l : List D)
  | any | exc (c : Nat) | nam (i : Nat) | lin (c : Int) (ts : List (Nat × Int))
  deriving Inhabited

/-- a thing that may change -/
inductive Ob where
  | lst (l : List D) | dK (l : List (Key × D)) | dT (l : List (List Key × D)) | ins (c : Nat) (fs : List (Str × D)) | dead
  deriving Inhabited

abbrev Hs := List Ob
inductive R (α : Type) where
  | ok (a : α) (h : Hs) | er (c : Nat) (h : Hs) | no

/-- a made function: where it stands, what it caught, its code object and that one's name -/
structure FnI where
  a : Addr
  cv : List V
  c : Addr
  q : Str
/-- what is fixed: the written part, classes by number, tables of code objects -/
structure Gn where
  K : PySem.W.Frag
  w : World
  cl : Nat → Addr
  T : List (Addr × Str)
  fi : Nat → FnI := fun _ => ⟨0, [], 0, ""⟩
/-- the same, with other made functions -/
abbrev Gn.wi (G : Gn) (fi : Nat → FnI) : Gn := ⟨G.K, G.w, G.cl, G.T, fi⟩

mutual
inductive Rel (G : Gn) (F : Hp) (ι : List Addr) : D → V → Prop
  | non : Rel G F ι .non .non
  | bl (b : Bool) : Rel G F ι (.bl b) (.bl b)
  | int (i : Int) : Rel G F ι (.int i) (.int i)
  | str (x : Str) : Rel G F ι (.str x) (.str x)
  | ty (n : String) : Rel G F ι (.ty n) (.ty n)
  | tup {l : List D} {a : Addr} {xs : List V} : SqT G.K F a xs → RelL G F ι l xs → Rel G F ι (.tup l) (.ref a)
  | lst {l : List D} {a : Addr} {xs : List V} : SqL G.K F a xs → RelL G F ι l xs → Rel G F ι (.lst l) (.ref a)
  | dic {l : List (Key × D)} {a : Addr} {kvs : List (Key × V)} : Rd F a (.dK kvs) → RelK G F ι l kvs → Rel G F ι (.dic l) (.ref a)
  | dit {l : List (List Key × D)} {a : Addr} {kvs : List (List Key × V)} : Rd F a (.dT kvs) → RelT G F ι l kvs → Rel G F ι (.dit l) (.ref a)
  | ref {i : Nat} {a : Addr} : ι[i]? = some a → Rel G F ι (.ref i) (.ref a)
  | any {v : V} : Rel G F ι .any v
inductive RelL (G : Gn) (F : Hp) (ι : List Addr) : List D → List V → Prop
  | nil : RelL G F ι [] []
  | cons {d : D} {v : V} {l : List D} {xs : List V} : Rel G F ι d v → RelL G F ι l xs → RelL G F ι (d :: l) (v :: xs)
inductive RelK (G : Gn) (F : Hp) (ι : List Addr) : List (Key × D) → List (Key × V) → Prop
  | nil : RelK G F ι [] []
  | cons {k : Key} {d : D} {v : V} {l : List (Key × D)} {xs : List (Key × V)} : Rel G F ι d v → RelK G F ι l xs → RelK G F ι ((k, d) :: l) ((k, v) :: xs)
inductive RelT (G : Gn) (F : Hp) (ι : List Addr) : List (List Key × D) → List (List Key × V) → Prop
  | nil : RelT G F ι [] []
  | cons {k : List Key} {d : D} {v : V} {l : List (List Key × D)} {xs : List (List Key × V)} : Rel G F ι d v → RelT G F ι l xs → RelT G F ι ((k, d) :: l) ((k, v) :: xs)
end

/-- the fields of an instance -/
inductive RelF (G : Gn) (F : Hp) (ι : List Addr) : List (Str × D) → List (Str × V) → Prop
  | nil : RelF G F ι [] []
  | cons {k : Str} {d : D} {v : V} {l : List (Str × D)} {xs : List (Str × V)} : Rel G F ι d v → RelF G F ι l xs → RelF G F ι ((k, d) :: l) ((k, v) :: xs)

/-- no table, no code object -/
def Pl : HO → Prop
  | .tbl _ => False
  | .ext _ => False
  | _ => True
def RelO (G : Gn) (F : Hp) (ι : List Addr) : Ob → HO → Prop
  | .lst l, .lst xs => RelL G F ι l xs
  | .dK l, .dK kvs => RelK G F ι l kvs
  | .dT l, .dT kvs => RelT G F ι l kvs
  | .ins c fs, .ins C _ vs => C = G.cl c ∧ RelF G F ι fs vs
  | .dead, u => Pl u
  | _, _ => False

/-- a longer ledger of boxes, more that is fixed -/
structure Ext (F : Hp) (ι : List Addr) (F' : Hp) (ι' : List Addr) : Prop where
  fz : ∀ a u, F a = some u → F' a = some u
  bx : ι <+: ι'
theorem Ext.refl (F : Hp) (ι : List Addr) : Ext F ι F ι := ⟨fun _ _ h => h, List.prefix_rfl⟩
theorem Ext.trans {F F1 F2 : Hp} {ι ι1 ι2 : List Addr} (a : Ext F ι F1 ι1) (b : Ext F1 ι1 F2 ι2) : Ext F ι F2 ι2 := ⟨fun c u h => b.fz c u (a.fz c u h), a.bx.trans b.bx⟩
theorem Ext.at_ {F F' : Hp} {ι ι' : List Addr} (e : Ext F ι F' ι') {i : Nat} {a : Addr} (h : ι[i]? = some a) : ι'[i]? = some a := by
  obtain ⟨t, rfl⟩ := e.bx
  rw [List.getElem?_append_left (by
    have := List.getElem?_eq_some_iff.mp h
    exact this.1)]
  exact h
theorem rd_ext {F F' : Hp} (e : ∀ a u, F a = some u → F' a = some u) {a : Addr} {u : HO} (h : Rd F a u) : Rd F' a u := by
  rcases h with h | ⟨o, h⟩
  · exact .inl (e _ _ h)
  · exact .inr ⟨o, e _ _ h⟩
theorem sqT_ext {K : PySem.W.Frag} {F F' : Hp} (e : ∀ a u, F a = some u → F' a = some u) {a : Addr} {xs : List V} (h : SqT K F a xs) : SqT K F' a xs := by
  rcases h with h | h
  · exact .inl (rd_ext e h)
  · exact .inr h
theorem sqL_ext {K : PySem.W.Frag} {F F' : Hp} (e : ∀ a u, F a = some u → F' a = some u) {a : Addr} {xs : List V} (h : SqL K F a xs) : SqL K F' a xs := by
  rcases h with h | h
  · exact .inl (rd_ext e h)
  · exact .inr h

section
variable {G : Gn} {F F' : Hp} {ι ι' : List Addr}
mutual
theorem Rel.ext (e : Ext F ι F' ι') : ∀ {d : D} {v : V}, Rel G F ι d v → Rel G F' ι' d v
  | _, _, .non => .non
  | _, _, .bl b => .bl b
  | _, _, .int i => .int i
  | _, _, .str x => .str x
  | _, _, .ty n => .ty n
  | _, _, .tup h r => .tup (sqT_ext e.fz h) (RelL.ext e r)
  | _, _, .lst h r => .lst (sqL_ext e.fz h) (RelL.ext e r)
  | _, _, .dic h r => .dic (rd_ext e.fz h) (RelK.ext e r)
  | _, _, .dit h r => .dit (rd_ext e.fz h) (RelT.ext e r)
  | _, _, .ref h => .ref (e.at_ h)
  | _, _, .any => .any
theorem RelL.ext (e : Ext F ι F' ι') : ∀ {l : List D} {xs : List V}, RelL G F ι l xs → RelL G F' ι' l xs
  | _, _, .nil => .nil
  | _, _, .cons h r => .cons (Rel.ext e h) (RelL.ext e r)
theorem RelK.ext (e : Ext F ι F' ι') : ∀ {l : List (Key × D)} {xs : List (Key × V)}, RelK G F ι l xs → RelK G F' ι' l xs
  | _, _, .nil => .nil
  | _, _, .cons h r => .cons (Rel.ext e h) (RelK.ext e r)
theorem RelT.ext (e : Ext F ι F' ι') : ∀ {l : List (List Key × D)} {xs : List (List Key × V)}, RelT G F ι l xs → RelT G F' ι' l xs
  | _, _, .nil => .nil
  | _, _, .cons h r => .cons (Rel.ext e h) (RelT.ext e r)
end
theorem RelF.ext (e : Ext F ι F' ι') {l : List (Str × D)} : ∀ {xs : List (Str × V)}, RelF G F ι l xs → RelF G F' ι' l xs := by
  induction l with
  | nil => intro xs h; cases h; exact .nil
  | cons p r ih => intro xs h; cases h with | cons h t => exact .cons (h.ext e) (ih t)
theorem RelO.ext (e : Ext F ι F' ι') {o : Ob} {u : HO} (h : RelO G F ι o u) : RelO G F' ι' o u := by
  cases o <;> cases u <;> first
    | exact (show False from h).elim
    | exact True.intro
    | exact (show Pl _ from h)
    | exact RelL.ext e h
    | exact RelK.ext e h
    | exact RelT.ext e h
    | exact ⟨h.1, RelF.ext e h.2⟩
theorem RelL.len {l : List D} : ∀ {xs : List V}, RelL G F ι l xs → l.length = xs.length := by
  induction l with
  | nil => intro xs h; cases h; rfl
  | cons p r ih => intro xs h; cases h with | cons h t => exact congrArg (· + 1) (ih t)
theorem RelL.get {l : List D} : ∀ {xs : List V} {i : Nat} {v : V}, RelL G F ι l xs → xs[i]? = some v → ∃ d, l[i]? = some d ∧ Rel G F ι d v := by
  induction l with
  | nil => intro xs i v h e; cases h; simp at e
  | cons p r ih =>
    intro xs i v h e
    cases h with
    | cons h t =>
      cases i with
      | zero =>
        simp at e
        subst e
        exact ⟨_, rfl, h⟩
      | succ i =>
        obtain ⟨d, h1, h2⟩ := ih t (i := i) (by simpa using e)
        exact ⟨d, by simpa using h1, h2⟩
theorem RelL.get' {l : List D} : ∀ {xs : List V} {i : Nat} {d : D}, RelL G F ι l xs → l[i]? = some d → ∃ v, xs[i]? = some v ∧ Rel G F ι d v := by
  induction l with
  | nil => intro xs i v h e; simp at e
  | cons p r ih =>
    intro xs i v h e
    cases h with
    | cons h t =>
      cases i with
      | zero =>
        simp at e
        subst e
        exact ⟨_, rfl, h⟩
      | succ i =>
        obtain ⟨d, h1, h2⟩ := ih t (i := i) (by simpa using e)
        exact ⟨d, by simpa using h1, h2⟩
theorem RelL.app {m : List D} {ys : List V} (r : RelL G F ι m ys) {l : List D} : ∀ {xs : List V}, RelL G F ι l xs → RelL G F ι (l ++ m) (xs ++ ys) := by
  induction l with
  | nil => intro xs h; cases h; exact r
  | cons p q ih => intro xs h; cases h with | cons h t => exact .cons h (ih t)
theorem RelL.take {l : List D} : ∀ {xs : List V} (n : Nat), RelL G F ι l xs → RelL G F ι (l.take n) (xs.take n) := by
  induction l with
  | nil => intro xs n h; cases h; rw [List.take_nil, List.take_nil]; exact .nil
  | cons p q ih =>
    intro xs n h
    cases h with
    | cons h t =>
      cases n with
      | zero => exact .nil
      | succ n => exact .cons h (ih n t)
theorem RelL.drop {l : List D} : ∀ {xs : List V} (n : Nat), RelL G F ι l xs → RelL G F ι (l.drop n) (xs.drop n) := by
  induction l with
  | nil => intro xs n h; cases h; rw [List.drop_nil, List.drop_nil]; exact .nil
  | cons p q ih =>
    intro xs n h
    cases h with
    | cons h t =>
      cases n with
      | zero => exact .cons h t
      | succ n => exact ih n t
theorem RelL.set {l : List D} : ∀ {xs : List V} (n : Nat) {d : D} {v : V}, RelL G F ι l xs → Rel G F ι d v → RelL G F ι (l.set n d) (xs.set n v) := by
  induction l with
  | nil => intro xs n d v h r; cases h; exact .nil
  | cons p q ih =>
    intro xs n d v h r
    cases h with
    | cons h t =>
      cases n with
      | zero => exact .cons r t
      | succ n => exact .cons h (ih n t r)
end

theorem rd_some {H : Hp} {a : Addr} {u : HO} (h : Rd H a u) : H a ≠ none := by
  rcases h with h | ⟨o, h⟩ <;> rw [h] <;> exact fun z => nomatch z
theorem rd_upd {H : Hp} {a p : Addr} {u x : HO} (h : Rd H a u) (n : a ≠ p) : Rd (upd H p x) a u := by
  rcases h with h | ⟨o, h⟩
  · exact .inl (by rw [upd_ne n]; exact h)
  · exact .inr ⟨o, by rw [upd_ne n]; exact h⟩

/-- what may be fixed -/
def NFx (u : HO) : Prop := (∀ o x, u ≠ .frz o x) ∧ ∀ ps, u ≠ .tbl ps
theorem RelO.pl {G : Gn} {F : Hp} {ι : List Addr} {o : Ob} {u : HO} (h : RelO G F ι o u) : Pl u := by
  cases o <;> cases u <;> first
    | exact (show False from h).elim
    | exact True.intro
    | exact (show Pl _ from h)
theorem Pl.tbl {u : HO} (h : Pl u) : ∀ ps, u ≠ .tbl ps := fun ps z => by subst z; exact h
theorem Pl.code {u : HO} (h : Pl u) : ∀ c q, u ≠ LamX.CodeO c q := fun c q z => by subst z; exact h
theorem tabs_new {T : List (Addr × Str)} {H : Hp} {a : Addr} {u : HO} (t : LamX.Tabs T H) (n : H a = none) : LamX.Tabs T (upd H a u) := t.ext fun b o e => by rw [upd_ne (ne_of_none e n)]; exact e
theorem tabs_upd {T : List (Addr × Str)} {H : Hp} {a : Addr} {u u0 : HO} (t : LamX.Tabs T H) (e : H a = some u0) (p : Pl u0) : LamX.Tabs T (upd H a u) := fun q hq => by
  obtain ⟨ps, h1, h2, h3⟩ := t q hq
  refine ⟨ps, ?_, h2, fun pos cv hc => ?_⟩
  · rw [upd_ne (fun z => by rw [z, e] at h1; exact p.tbl ps (Option.some.inj h1))]
    exact h1
  · obtain ⟨c, e1, e2⟩ := h3 pos cv hc
    refine ⟨c, e1, ?_⟩
    rw [upd_ne (fun z => by rw [z, e] at e2; exact p.code _ _ (Option.some.inj e2))]
    exact e2
/-- the small heap h, its boxes at ι, what is fixed F (in H it may be locked): so they lie in H -/
structure Rs (G : Gn) (F : Hp) (ι : List Addr) (h : Hs) (H : Hp) : Prop where
  fz : ∀ a u, F a = some u → Rd H a u
  nf : ∀ a u, F a = some u → NFx u
  sep : ∀ (i : Nat) (a : Addr) (o : Ob), ι[i]? = some a → h[i]? = some o → o ≠ .dead → F a = none
  len : ι.length = h.length
  nd : ι.Nodup
  obj : ∀ (i : Nat) (o : Ob), h[i]? = some o → ∃ a u, ι[i]? = some a ∧ H a = some u ∧ RelO G F ι o u
  tabs : LamX.Tabs G.T H

section
variable {G : Gn} {F : Hp} {ι : List Addr} {h : Hs} {H : Hp}
theorem Rs.rd (r : Rs G F ι h H) {a : Addr} {u : HO} (q : Rd F a u) : Rd H a u := by
  rcases q with q | ⟨o, q⟩
  · exact r.fz _ _ q
  · exact absurd rfl ((r.nf _ _ q).1 _ _)
theorem Rs.sqT (r : Rs G F ι h H) {a : Addr} {xs : List V} (q : SqT G.K F a xs) : SqT G.K H a xs := by
  rcases q with q | q
  · exact .inl (r.rd q)
  · exact .inr q
theorem Rs.sqL (r : Rs G F ι h H) {a : Addr} {xs : List V} (q : SqL G.K F a xs) : SqL G.K H a xs := by
  rcases q with q | q
  · exact .inl (r.rd q)
  · exact .inr q
theorem Rs.bx (r : Rs G F ι h H) {i : Nat} {a : Addr} {o : Ob} (e : ι[i]? = some a) (q : h[i]? = some o) : ∃ u, H a = some u ∧ RelO G F ι o u := by
  obtain ⟨b, u, e1, e2, e3⟩ := r.obj i o q
  rw [e] at e1
  cases e1
  exact ⟨u, e2, e3⟩
theorem Rs.inbox (r : Rs G F ι h H) {a : Addr} (m : a ∈ ι) : H a ≠ none := by
  obtain ⟨i, hi⟩ := List.mem_iff_getElem?.mp m
  have hl : i < h.length := by
    rw [← r.len]
    exact (List.getElem?_eq_some_iff.mp hi).1
  obtain ⟨b, x, e1, e2, _⟩ := r.obj i _ (List.getElem?_eq_getElem hl)
  rw [hi] at e1
  cases e1
  rw [e2]
  exact fun z => nomatch z
/-- a new thing is laid and fixed -/
theorem Rs.lay (r : Rs G F ι h H) {p : Addr} {u : HO} (n : H p = none) (nu : NFx u) : Rs G (upd F p u) ι h (upd H p u) ∧ Ext F ι (upd F p u) ι := by
  have nF : ∀ a x, F a = some x → a ≠ p := fun a x e z => rd_some (r.fz a x e) (by rw [z]; exact n)
  have e : Ext F ι (upd F p u) ι := ⟨fun a x q => by rw [upd_ne (nF a x q)]; exact q, List.prefix_rfl⟩
  refine ⟨⟨fun a x q => ?_, fun a x q => ?_, fun i a o m e2 e3 => ?_, r.len, r.nd, fun i o q => ?_, tabs_new r.tabs n⟩, e⟩
  · by_cases z : a = p
    · subst z
      rw [upd_same] at q
      exact .inl (by rw [upd_same]; exact q)
    · rw [upd_ne z] at q
      exact rd_upd (r.fz a x q) z
  · by_cases z : a = p
    · subst z
      rw [upd_same] at q
      cases q
      exact nu
    · rw [upd_ne z] at q
      exact r.nf a x q
  · have z : a ≠ p := fun z => r.inbox (List.mem_of_getElem? m) (by rw [z]; exact n)
    rw [upd_ne z]
    exact r.sep i a o m e2 e3
  · obtain ⟨b, x, e1, e2, e3⟩ := r.obj i o q
    refine ⟨b, x, e1, ?_, e3.ext e⟩
    rw [upd_ne (ne_of_none e2 n)]
    exact e2
/-- a new thing is laid as a box -/
theorem Rs.box (r : Rs G F ι h H) {p : Addr} {u : HO} {o : Ob} (n : H p = none) (q : RelO G F (ι ++ [p]) o u) : Rs G F (ι ++ [p]) (h ++ [o]) (upd H p u) ∧ Ext F ι F (ι ++ [p]) := by
  have nF : ∀ a x, F a = some x → a ≠ p := fun a x e z => rd_some (r.fz a x e) (by rw [z]; exact n)
  have e : Ext F ι F (ι ++ [p]) := ⟨fun _ _ h => h, List.prefix_append _ _⟩
  have np : p ∉ ι := fun m => r.inbox m n
  refine ⟨⟨fun a x q => rd_upd (r.fz a x q) (nF a x q), r.nf, fun i a o' m e2 e3 => ?_, ?_, ?_, fun i o' q' => ?_, tabs_new r.tabs n⟩, e⟩
  · by_cases hi : i < h.length
    · rw [List.getElem?_append_left hi] at e2
      rw [List.getElem?_append_left (by rw [r.len]; exact hi)] at m
      exact r.sep i a o' m e2 e3
    · rw [List.getElem?_append_right (by rw [r.len]; omega)] at m
      have z : a = p := by
        have := List.mem_of_getElem? m
        simpa using this
      rw [z]
      cases hF : F p with
      | none => rfl
      | some x => exact absurd rfl (nF p x hF)
  · rw [List.length_append, List.length_append, r.len]
    rfl
  · exact List.nodup_append.mpr ⟨r.nd, by simp, fun a ha b hb z => by
      have : b = p := by simpa using hb
      rw [z, this] at ha
      exact np ha⟩
  · by_cases hi : i < h.length
    · rw [List.getElem?_append_left hi] at q'
      obtain ⟨b, x, e1, e2, e3⟩ := r.obj i o' q'
      refine ⟨b, x, e.at_ e1, ?_, e3.ext e⟩
      rw [upd_ne (ne_of_none e2 n)]
      exact e2
    · rw [List.getElem?_append_right (by omega)] at q'
      have hz : i - h.length = 0 := by
        have := (List.getElem?_eq_some_iff.mp q').1
        simp at this
        omega
      rw [hz] at q'
      have q' : o = o' := by simpa using q'
      subst q'
      refine ⟨p, u, ?_, upd_same, q⟩
      rw [List.getElem?_append_right (by rw [r.len]; omega), r.len, hz]
      rfl
/-- a box is written -/
theorem Rs.put (r : Rs G F ι h H) {i : Nat} {a : Addr} {u : HO} {o o0 : Ob} (e : ι[i]? = some a) (e0 : h[i]? = some o0) (d0 : o0 ≠ .dead) (q : RelO G F ι o u) : Rs G F ι (h.set i o) (upd H a u) := by
  have hm : a ∈ ι := List.mem_of_getElem? e
  obtain ⟨u0, g1, g2⟩ := r.bx e e0
  refine ⟨fun b x z => ?_, r.nf, fun j b o' m e2 e3 => ?_, by rw [List.length_set]; exact r.len, r.nd, fun j o' z => ?_, tabs_upd r.tabs g1 g2.pl⟩
  · have nb : b ≠ a := fun w => by
      rw [w, r.sep i a o0 e e0 d0] at z
      cases z
    exact rd_upd (r.fz b x z) nb
  · by_cases hj : j = i
    · subst hj
      rw [e] at m
      cases m
      exact r.sep j a o0 e e0 d0
    · rw [List.getElem?_set_ne (Ne.symm hj)] at e2
      exact r.sep j b o' m e2 e3
  · by_cases hj : j = i
    · subst hj
      have hl : j < h.length := by
        rw [← r.len]
        exact (List.getElem?_eq_some_iff.mp e).1
      rw [List.getElem?_set_self hl] at z
      cases z
      exact ⟨a, u, e, upd_same, q⟩
    · rw [List.getElem?_set_ne (Ne.symm hj)] at z
      obtain ⟨b, x, e1, e2, e3⟩ := r.obj j o' z
      have nb : b ≠ a := fun w => by
        subst w
        exact hj (nd_ix r.nd e1 e)
      exact ⟨b, x, e1, by rw [upd_ne nb]; exact e2, e3⟩
end

/-- a code object is fixed -/
theorem Rs.fixC {G : Gn} {F : Hp} {ι : List Addr} {h : Hs} {H : Hp} (r : Rs G F ι h H) {c : Addr} {q : Str} (e : H c = some (LamX.CodeO c q)) : Rs G (upd F c (LamX.CodeO c q)) ι h H ∧ Ext F ι (upd F c (LamX.CodeO c q)) ι := by
  have hF : ∀ u, F c = some u → u = LamX.CodeO c q := fun u z => by
    rcases r.fz c u z with w | ⟨o, w⟩
    · rw [e] at w
      exact (Option.some.inj w).symm
    · rw [e] at w
      have w := Option.some.inj w
      unfold LamX.CodeO at w
      cases w
  have ee : Ext F ι (upd F c (LamX.CodeO c q)) ι := ⟨fun a u z => by
    by_cases h : a = c
    · subst h
      rw [upd_same, hF u z]
    · rw [upd_ne h]
      exact z, List.prefix_rfl⟩
  refine ⟨⟨fun a x z => ?_, fun a x z => ?_, fun i a o m e2 e3 => ?_, r.len, r.nd, fun i o z => ?_, r.tabs⟩, ee⟩
  · by_cases h : a = c
    · subst h
      rw [upd_same] at z
      cases z
      exact .inl e
    · rw [upd_ne h] at z
      exact r.fz a x z
  · by_cases h : a = c
    · subst h
      rw [upd_same] at z
      cases z
      exact ⟨fun _ _ z => (by unfold LamX.CodeO at z; cases z), fun _ z => (by unfold LamX.CodeO at z; cases z)⟩
    · rw [upd_ne h] at z
      exact r.nf a x z
  · have h : a ≠ c := fun h => by
      obtain ⟨u, g1, g2⟩ := r.bx m e2
      rw [h, e] at g1
      exact g2.pl.code c q (Option.some.inj g1).symm
    rw [upd_ne h]
    exact r.sep i a o m e2 e3
  · obtain ⟨b, x, e1, e2, e3⟩ := r.obj i o z
    exact ⟨b, x, e1, e2, e3.ext ee⟩
/-- free ground (tables and the like are out of our sight) -/
def Fre2 (o : Option HO) : Prop := ∀ u, o = some u → ¬ Pl u
theorem Fre2.none {o : Option HO} (h : o = none) : Fre2 o := fun u e => by rw [h] at e; cases e
/-- from one state of the abstract heap to a later one: what is no box of ours and not fixed stands as it stood -/
structure Stp (F : Hp) (ι : List Addr) (H : Hp) (F' : Hp) (ι' : List Addr) (H' : Hp) : Prop extends Ext F ι F' ι' where
  fr : ∀ a, a ∈ ι' → a ∉ ι → F a = none → Fre2 (H a)
  kp : ∀ a u, H a = some u → a ∉ ι → F a = none → Pl u → H' a = some u
  fx : ∀ a u, F' a = some u → F a = none → a ∈ ι ∨ Fre2 (H a)
  lk : ∀ a o u, H a = some (.frz o u) → H' a = some (.frz o u)
theorem Stp.refl (F : Hp) (ι : List Addr) (H : Hp) : Stp F ι H F ι H := ⟨Ext.refl F ι, fun _ m n => absurd m n, fun _ _ h _ _ _ => h, fun a u e n => (by rw [n] at e; cases e), fun _ _ _ h => h⟩
theorem Stp.trans {F F1 F2 : Hp} {ι ι1 ι2 : List Addr} {H H1 H2 : Hp} (a : Stp F ι H F1 ι1 H1) (b : Stp F1 ι1 H1 F2 ι2 H2) : Stp F ι H F2 ι2 H2 := by
  have nin : ∀ c u, H c = some u → c ∉ ι → F c = none → Pl u → c ∉ ι1 := fun c u e n f p m => a.fr c m n f u e p
  have nfx : ∀ c u, H c = some u → c ∉ ι → F c = none → Pl u → F1 c = none := fun c u e n f p => by
    cases e1 : F1 c with
    | none => rfl
    | some x => exact (a.fx c x e1 f).elim (fun z => absurd z n) fun z => absurd p (z u e)
  refine ⟨a.toExt.trans b.toExt, fun c m n f => ?_, fun c u e n f p => b.kp c u (a.kp c u e n f p) (nin c u e n f p) (nfx c u e n f p) p, fun c u e f => ?_, fun c o u e => b.lk c o u (a.lk c o u e)⟩
  · by_cases m1 : c ∈ ι1
    · exact a.fr c m1 n f
    · exact fun u eu pu => b.fr c m m1 (nfx c u eu n f pu) u (a.kp c u eu n f pu) pu
  · by_cases m : c ∈ ι
    · exact .inl m
    · refine .inr fun u' eu pu => ?_
      rcases b.fx c u e (nfx c u' eu m f pu) with m1 | e2
      · exact nin c u' eu m f pu m1
      · exact e2 u' (a.kp c u' eu m f pu) pu
/-- a new thing -/
theorem Stp.lay {F : Hp} {ι : List Addr} {H : Hp} {p : Addr} {u : HO} (n : H p = none) (e : Ext F ι (upd F p u) ι) : Stp F ι H (upd F p u) ι (upd H p u) := by
  refine ⟨e, fun _ m z => absurd m z, fun a x q _ _ _ => by rw [upd_ne (ne_of_none q n)]; exact q, fun a x q z => ?_, fun a o x q => by rw [upd_ne (ne_of_none q n)]; exact q⟩
  by_cases h : a = p
  · rw [h]
    exact .inr (.none n)
  · rw [upd_ne h, z] at q
    cases q
/-- a new box -/
theorem Stp.box {F : Hp} {ι : List Addr} {H : Hp} {p : Addr} {u : HO} (n : H p = none) (e : Ext F ι F (ι ++ [p])) : Stp F ι H F (ι ++ [p]) (upd H p u) :=
  ⟨e, fun a m z _ => by
    rcases List.mem_append.mp m with m | m
    · exact absurd m z
    · have : a = p := by simpa using m
      rw [this]
      exact .none n, fun a x q _ _ _ => by rw [upd_ne (ne_of_none q n)]; exact q, fun a x q z => (by rw [z] at q; cases q), fun a o x q => by rw [upd_ne (ne_of_none q n)]; exact q⟩
/-- a box written -/
theorem Stp.put {F : Hp} {ι : List Addr} {H : Hp} {i : Nat} {a : Addr} {u : HO} (e : ι[i]? = some a) {u0 : HO} (e0 : H a = some u0) (nl : ∀ o x, u0 ≠ .frz o x) : Stp F ι H F ι (upd H a u) := by
  have m := List.mem_of_getElem? e
  exact ⟨Ext.refl F ι, fun _ m z => absurd m z, fun b x q nb _ _ => by rw [upd_ne (fun z => nb (by rw [z]; exact m))]; exact q, fun b x q z => (by rw [z] at q; cases q), fun b o x q => by rw [upd_ne (fun z => by rw [z, e0] at q; exact nl o x (Option.some.inj q))]; exact q⟩
theorem Stp.same {F F' : Hp} {ι : List Addr} {H : Hp} (e : Ext F ι F' ι) (k : ∀ a u, F' a = some u → F a = none → a ∈ ι ∨ Fre2 (H a)) : Stp F ι H F' ι H := ⟨e, fun _ m z => absurd m z, fun _ _ h _ _ _ => h, k, fun _ _ _ h => h⟩
/-- a call's own boxes are forgotten behind it -/
theorem Stp.cut {F F' : Hp} {ι ι' : List Addr} {H H' : Hp} (s : Stp F ι H F' ι' H') (e : ι'.take ι.length = ι) : Stp F ι H F' ι H' :=
  ⟨⟨s.fz, List.prefix_rfl⟩, fun _ m z => absurd m z, s.kp, s.fx, s.lk⟩

section
variable {G : Gn} {F : Hp} {ι : List Addr} {h : Hs} {H : Hp}
/-- a box's list is fixed: the box is dead from now on -/
theorem Rs.freeze (r : Rs G F ι h H) {i : Nat} {l : List D} (e0 : h[i]? = some (.lst l)) : ∃ a xs F', ι[i]? = some a ∧ Stp F ι H F' ι H ∧ Rs G F' ι (h.set i .dead) H ∧ F' a = some (.lst xs) ∧ RelL G F' ι l xs := by
  obtain ⟨a, u, e1, e2, e3⟩ := r.obj i _ e0
  cases u with
  | lst xs =>
    have fa : F a = none := r.sep i a _ e1 e0 (fun z => nomatch z)
    have e : Ext F ι (upd F a (.lst xs)) ι := ⟨fun b x q => by
      have nb : b ≠ a := fun w => by
        rw [w, fa] at q
        cases q
      rw [upd_ne nb]
      exact q, List.prefix_rfl⟩
    have e3' : RelL G F ι l xs := e3
    refine ⟨a, xs, _, e1, Stp.same e (fun b x q z => by
      by_cases hb : b = a
      · exact .inl (by rw [hb]; exact List.mem_of_getElem? e1)
      · rw [upd_ne hb, z] at q
        cases q), ⟨fun b x q => ?_, fun b x q => ?_, fun j b o' m m2 m3 => ?_, by rw [List.length_set]; exact r.len, r.nd, fun j o' z => ?_, r.tabs⟩, upd_same, RelL.ext e e3'⟩
    · by_cases hb : b = a
      · subst hb
        rw [upd_same] at q
        cases q
        exact .inl e2
      · rw [upd_ne hb] at q
        exact r.fz b x q
    · by_cases hb : b = a
      · subst hb
        rw [upd_same] at q
        cases q
        exact ⟨fun _ _ z => (by cases z), fun _ z => (by cases z)⟩
      · rw [upd_ne hb] at q
        exact r.nf b x q
    · by_cases hj : j = i
      · subst hj
        have hl : j < h.length := by
          rw [← r.len]
          exact (List.getElem?_eq_some_iff.mp e1).1
        rw [List.getElem?_set_self hl] at m2
        cases m2
        exact absurd rfl m3
      · rw [List.getElem?_set_ne (Ne.symm hj)] at m2
        have nb : b ≠ a := fun w => by
          subst w
          exact hj (nd_ix r.nd m e1)
        rw [upd_ne nb]
        exact r.sep j b o' m m2 m3
    · by_cases hj : j = i
      · subst hj
        have hl : j < h.length := by
          rw [← r.len]
          exact (List.getElem?_eq_some_iff.mp e1).1
        rw [List.getElem?_set_self hl] at z
        cases z
        exact ⟨a, _, e1, e2, by first | exact (True.intro : Pl (.lst xs)) | exact (True.intro : Pl (.dK xs))⟩
      · rw [List.getElem?_set_ne (Ne.symm hj)] at z
        obtain ⟨b, x, g1, g2, g3⟩ := r.obj j o' z
        exact ⟨b, x, g1, g2, g3.ext e⟩
  | _ => exact (show False from e3).elim
/-- a box's dict is fixed -/
theorem Rs.freezeK (r : Rs G F ι h H) {i : Nat} {l : List (Key × D)} (e0 : h[i]? = some (.dK l)) : ∃ a xs F', ι[i]? = some a ∧ Stp F ι H F' ι H ∧ Rs G F' ι (h.set i .dead) H ∧ F' a = some (.dK xs) ∧ RelK G F' ι l xs := by
  obtain ⟨a, u, e1, e2, e3⟩ := r.obj i _ e0
  cases u with
  | dK xs =>
    have fa : F a = none := r.sep i a _ e1 e0 (fun z => nomatch z)
    have e : Ext F ι (upd F a (.dK xs)) ι := ⟨fun b x q => by
      have nb : b ≠ a := fun w => by
        rw [w, fa] at q
        cases q
      rw [upd_ne nb]
      exact q, List.prefix_rfl⟩
    have e3' : RelK G F ι l xs := e3
    refine ⟨a, xs, _, e1, Stp.same e (fun b x q z => by
      by_cases hb : b = a
      · exact .inl (by rw [hb]; exact List.mem_of_getElem? e1)
      · rw [upd_ne hb, z] at q
        cases q), ⟨fun b x q => ?_, fun b x q => ?_, fun j b o' m m2 m3 => ?_, by rw [List.length_set]; exact r.len, r.nd, fun j o' z => ?_, r.tabs⟩, upd_same, RelK.ext e e3'⟩
    · by_cases hb : b = a
      · subst hb
        rw [upd_same] at q
        cases q
        exact .inl e2
      · rw [upd_ne hb] at q
        exact r.fz b x q
    · by_cases hb : b = a
      · subst hb
        rw [upd_same] at q
        cases q
        exact ⟨fun _ _ z => (by cases z), fun _ z => (by cases z)⟩
      · rw [upd_ne hb] at q
        exact r.nf b x q
    · by_cases hj : j = i
      · subst hj
        have hl : j < h.length := by
          rw [← r.len]
          exact (List.getElem?_eq_some_iff.mp e1).1
        rw [List.getElem?_set_self hl] at m2
        cases m2
        exact absurd rfl m3
      · rw [List.getElem?_set_ne (Ne.symm hj)] at m2
        have nb : b ≠ a := fun w => by
          subst w
          exact hj (nd_ix r.nd m e1)
        rw [upd_ne nb]
        exact r.sep j b o' m m2 m3
    · by_cases hj : j = i
      · subst hj
        have hl : j < h.length := by
          rw [← r.len]
          exact (List.getElem?_eq_some_iff.mp e1).1
        rw [List.getElem?_set_self hl] at z
        cases z
        exact ⟨a, _, e1, e2, by first | exact (True.intro : Pl (.lst xs)) | exact (True.intro : Pl (.dK xs))⟩
      · rw [List.getElem?_set_ne (Ne.symm hj)] at z
        obtain ⟨b, x, g1, g2, g3⟩ := r.obj j o' z
        exact ⟨b, x, g1, g2, g3.ext e⟩
  | _ => exact (show False from e3).elim
end

/-! ### what leans on no box from n on -/
mutual
def okD (n : Nat) : D → Bool
  | .tup l => okL n l
  | .lst l => okL n l
  | .dic l => okK n l
  | .dit l => okT n l
  | .ref i => decide (i < n)
  | _ => true
def okL (n : Nat) : List D → Bool
  | [] => true
  | d :: l => okD n d && okL n l
def okK (n : Nat) : List (Key × D) → Bool
  | [] => true
  | (_, d) :: l => okD n d && okK n l
def okT (n : Nat) : List (List Key × D) → Bool
  | [] => true
  | (_, d) :: l => okD n d && okT n l
end
def okF (n : Nat) : List (Str × D) → Bool
  | [] => true
  | (_, d) :: l => okD n d && okF n l
def okO (n : Nat) : Ob → Bool
  | .lst l => okL n l
  | .dK l => okK n l
  | .dT l => okT n l
  | .ins _ fs => okF n fs
  | .dead => true
section
variable {G : Gn} {F : Hp} {ι : List Addr} {n : Nat}
theorem take_at {ι : List Addr} {n i : Nat} {a : Addr} (h : ι[i]? = some a) (hi : i < n) : (ι.take n)[i]? = some a := by
  rw [List.getElem?_take_of_lt hi]
  exact h
mutual
theorem Rel.cut : ∀ {d : D} {v : V}, okD n d = true → Rel G F ι d v → Rel G F (ι.take n) d v
  | _, _, _, .non => .non
  | _, _, _, .bl b => .bl b
  | _, _, _, .int i => .int i
  | _, _, _, .str x => .str x
  | _, _, _, .ty n => .ty n
  | _, _, o, .tup h r => .tup h (RelL.cut (by simpa [okD] using o) r)
  | _, _, o, .lst h r => .lst h (RelL.cut (by simpa [okD] using o) r)
  | _, _, o, .dic h r => .dic h (RelK.cut (by simpa [okD] using o) r)
  | _, _, o, .dit h r => .dit h (RelT.cut (by simpa [okD] using o) r)
  | _, _, o, .ref h => .ref (take_at h (by simpa [okD] using o))
  | _, _, _, .any => .any
theorem RelL.cut : ∀ {l : List D} {xs : List V}, okL n l = true → RelL G F ι l xs → RelL G F (ι.take n) l xs
  | _, _, _, .nil => .nil
  | _, _, o, .cons h r => .cons (Rel.cut (by simp [okL] at o; exact o.1) h) (RelL.cut (by simp [okL] at o; exact o.2) r)
theorem RelK.cut : ∀ {l : List (Key × D)} {xs : List (Key × V)}, okK n l = true → RelK G F ι l xs → RelK G F (ι.take n) l xs
  | _, _, _, .nil => .nil
  | _, _, o, .cons h r => .cons (Rel.cut (by simp [okK] at o; exact o.1) h) (RelK.cut (by simp [okK] at o; exact o.2) r)
theorem RelT.cut : ∀ {l : List (List Key × D)} {xs : List (List Key × V)}, okT n l = true → RelT G F ι l xs → RelT G F (ι.take n) l xs
  | _, _, _, .nil => .nil
  | _, _, o, .cons h r => .cons (Rel.cut (by simp [okT] at o; exact o.1) h) (RelT.cut (by simp [okT] at o; exact o.2) r)
end
theorem RelF.cut {l : List (Str × D)} : ∀ {xs : List (Str × V)}, okF n l = true → RelF G F ι l xs → RelF G F (ι.take n) l xs := by
  induction l with
  | nil => intro xs _ h; cases h; exact .nil
  | cons p r ih =>
    intro xs o h
    cases h with
    | cons h t =>
      simp [okF] at o
      exact .cons (h.cut o.1) (ih o.2 t)
theorem RelO.cut {o : Ob} {u : HO} (k : okO n o = true) (h : RelO G F ι o u) : RelO G F (ι.take n) o u := by
  cases o <;> cases u <;> first
    | exact (show False from h).elim
    | exact True.intro
    | exact (show Pl _ from h)
    | exact RelL.cut k h
    | exact RelK.cut k h
    | exact RelT.cut k h
    | exact ⟨h.1, RelF.cut k h.2⟩
end
/-! ### sameness, told -/
mutual
def smD : D → D → Bool
  | .non, .non => true
  | .bl a, .bl b => a == b
  | .int a, .int b => a == b
  | .str a, .str b => a == b
  | .ty a, .ty b => a == b
  | .tup a, .tup b => smL a b
  | .lst a, .lst b => smL a b
  | .dic a, .dic b => smK a b
  | .dit a, .dit b => smT a b
  | .ref a, .ref b => a == b
  | .fn a l, .fn b m => a == b && smL l m
  | .any, .any => true
  | .nam a, .nam b => a == b
  | .exc a, .exc b => a == b
  | .lin a l, .lin b m => a == b && decide (l = m)
  | _, _ => false
def smL : List D → List D → Bool
  | [], [] => true
  | a :: l, b :: m => smD a b && smL l m
  | _, _ => false
def smK : List (Key × D) → List (Key × D) → Bool
  | [], [] => true
  | (j, a) :: l, (k, b) :: m => decide (j = k) && smD a b && smK l m
  | _, _ => false
def smT : List (List Key × D) → List (List Key × D) → Bool
  | [], [] => true
  | (j, a) :: l, (k, b) :: m => decide (j = k) && smD a b && smT l m
  | _, _ => false
end
mutual
theorem smD_eq : ∀ {a b : D}, smD a b = true → a = b
  | .non, b, h => by cases b <;> first | rfl | (simp [smD] at h)
  | .bl _, b, h => by cases b <;> first | (simp [smD] at h; done) | (simp [smD] at h; rw [h])
  | .int _, b, h => by cases b <;> first | (simp [smD] at h; done) | (simp [smD] at h; rw [h])
  | .str _, b, h => by cases b <;> first | (simp [smD] at h; done) | (simp [smD] at h; rw [h])
  | .ty _, b, h => by cases b <;> first | (simp [smD] at h; done) | (simp [smD] at h; rw [h])
  | .ref _, b, h => by cases b <;> first | (simp [smD] at h; done) | (simp [smD] at h; rw [h])
  | .fn _ l, b, h => by
    cases b with
    | fn _ m =>
      simp only [smD, Bool.and_eq_true, beq_iff_eq] at h
      rw [h.1, smL_eq (a := l) (b := m) h.2]
    | _ => simp [smD] at h
  | .exc _, b, h => by cases b <;> first | (simp [smD] at h; done) | (simp [smD] at h; rw [h])
  | .nam _, b, h => by cases b <;> first | (simp [smD] at h; done) | (simp [smD] at h; rw [h])
  | .lin _ _, b, h => by cases b <;> first | (simp [smD] at h; done) | (simp [smD] at h; rw [h.1, h.2])
  | .any, b, h => by cases b <;> first | rfl | (simp [smD] at h)
  | .tup l, b, h => by
    cases b with
    | tup m => rw [smL_eq (a := l) (b := m) (by simpa [smD] using h)]
    | _ => simp [smD] at h
  | .lst l, b, h => by
    cases b with
    | lst m => rw [smL_eq (a := l) (b := m) (by simpa [smD] using h)]
    | _ => simp [smD] at h
  | .dic l, b, h => by
    cases b with
    | dic m => rw [smK_eq (a := l) (b := m) (by simpa [smD] using h)]
    | _ => simp [smD] at h
  | .dit l, b, h => by
    cases b with
    | dit m => rw [smT_eq (a := l) (b := m) (by simpa [smD] using h)]
    | _ => simp [smD] at h
theorem smL_eq : ∀ {a b : List D}, smL a b = true → a = b
  | [], [], _ => rfl
  | [], _ :: _, h => by simp [smL] at h
  | _ :: _, [], h => by simp [smL] at h
  | x :: l, y :: m, h => by
    simp only [smL, Bool.and_eq_true] at h
    rw [smD_eq h.1, smL_eq h.2]
theorem smK_eq : ∀ {a b : List (Key × D)}, smK a b = true → a = b
  | [], [], _ => rfl
  | [], _ :: _, h => by simp [smK] at h
  | _ :: _, [], h => by simp [smK] at h
  | (j, x) :: l, (k, y) :: m, h => by
    simp only [smK, Bool.and_eq_true, decide_eq_true_eq] at h
    rw [h.1.1, smD_eq h.1.2, smK_eq h.2]
theorem smT_eq : ∀ {a b : List (List Key × D)}, smT a b = true → a = b
  | [], [], _ => rfl
  | [], _ :: _, h => by simp [smT] at h
  | _ :: _, [], h => by simp [smT] at h
  | (j, x) :: l, (k, y) :: m, h => by
    simp only [smT, Bool.and_eq_true, decide_eq_true_eq] at h
    rw [h.1.1, smD_eq h.1.2, smT_eq h.2]
end
mutual
theorem smD_rfl : ∀ a : D, smD a a = true
  | .non => by simp [smD]
  | .bl _ => by simp [smD]
  | .int _ => by simp [smD]
  | .str _ => by simp [smD]
  | .ty _ => by simp [smD]
  | .ref _ => by simp [smD]
  | .fn _ l => by simp [smD, smL_rfl l]
  | .any => by simp [smD]
  | .nam _ => by simp [smD]
  | .exc _ => by simp [smD]
  | .lin _ _ => by simp [smD]
  | .tup l => by simp [smD, smL_rfl l]
  | .lst l => by simp [smD, smL_rfl l]
  | .dic l => by simp [smD, smK_rfl l]
  | .dit l => by simp [smD, smT_rfl l]
theorem smL_rfl : ∀ a : List D, smL a a = true
  | [] => by simp [smL]
  | x :: l => by simp [smL, smD_rfl x, smL_rfl l]
theorem smK_rfl : ∀ a : List (Key × D), smK a a = true
  | [] => by simp [smK]
  | (j, x) :: l => by simp [smK, smD_rfl x, smK_rfl l]
theorem smT_rfl : ∀ a : List (List Key × D), smT a a = true
  | [] => by simp [smT]
  | (j, x) :: l => by simp [smT, smD_rfl x, smT_rfl l]
end
def smF : List (Str × D) → List (Str × D) → Bool
  | [], [] => true
  | (j, a) :: l, (k, b) :: m => decide (j = k) && smD a b && smF l m
  | _, _ => false
theorem smF_eq : ∀ {a b : List (Str × D)}, smF a b = true → a = b
  | [], [], _ => rfl
  | [], _ :: _, h => by simp [smF] at h
  | _ :: _, [], h => by simp [smF] at h
  | (j, x) :: l, (k, y) :: m, h => by
    simp only [smF, Bool.and_eq_true, decide_eq_true_eq] at h
    rw [h.1.1, smD_eq h.1.2, smF_eq h.2]
theorem smF_rfl : ∀ a : List (Str × D), smF a a = true
  | [] => by simp [smF]
  | (j, x) :: l => by simp [smF, smD_rfl x, smF_rfl l]
def smO : Ob → Ob → Bool
  | .lst a, .lst b => smL a b
  | .dK a, .dK b => smK a b
  | .dT a, .dT b => smT a b
  | .ins c a, .ins d b => c == d && smF a b
  | .dead, .dead => true
  | _, _ => false
theorem smO_eq {a b : Ob} (h : smO a b = true) : a = b := by
  cases a <;> cases b <;> first
    | (simp [smO] at h; done)
    | rfl
    | (rw [smL_eq (show smL _ _ = true from h)]; done)
    | (rw [smK_eq (show smK _ _ = true from h)]; done)
    | (rw [smT_eq (show smT _ _ = true from h)]; done)
    | (simp only [smO, Bool.and_eq_true, beq_iff_eq] at h; rw [h.1, smF_eq h.2])
theorem smO_rfl (a : Ob) : smO a a = true := by
  cases a <;> simp [smO, smL_rfl, smK_rfl, smT_rfl, smF_rfl]
/-- the boxes of h stand in h' as they did, or lean on none from n on -/
def chk (n : Nat) : Hs → Hs → Bool
  | [], _ => true
  | o :: h, o' :: h' => (smO o o' || okO n o') && chk n h h'
  | _ :: _, [] => false
theorem chk_at {n : Nat} : ∀ {h h' : Hs}, chk n h h' = true → ∀ {i : Nat} {o' : Ob}, i < h.length → h'[i]? = some o' → h[i]? = some o' ∨ okO n o' = true
  | [], _, _, i, _, hi, _ => by simp at hi
  | o :: h, [], c, _, _, _, _ => by simp [chk] at c
  | o :: h, p :: h', c, 0, o', _, e => by
    simp only [chk, Bool.and_eq_true, Bool.or_eq_true] at c
    have e : p = o' := by simpa using e
    subst e
    rcases c.1 with c | c
    · exact .inl (by simp [smO_eq c])
    · exact .inr c
  | o :: h, p :: h', c, i + 1, o', hi, e => by
    simp only [chk, Bool.and_eq_true] at c
    have := chk_at c.2 (i := i) (o' := o') (by simpa using hi) (by simpa using e)
    simpa using this
theorem chk_len {n : Nat} : ∀ {h h' : Hs}, chk n h h' = true → h.length ≤ h'.length
  | [], _, _ => Nat.zero_le _
  | o :: h, [], c => by simp [chk] at c
  | o :: h, p :: h', c => by
    simp only [chk, Bool.and_eq_true] at c
    have := chk_len c.2
    simp only [List.length_cons]
    omega
theorem chk_app (n : Nat) (g : Hs) : ∀ h : Hs, chk n h (h ++ g) = true
  | [] => by simp [chk]
  | o :: h => by simp [chk, smO_rfl, chk_app n g h]
theorem chk_rfl (n : Nat) (h : Hs) : chk n h h = true := by
  have := chk_app n [] h
  rwa [List.append_nil] at this
theorem chk_set {n : Nat} {o : Ob} (k : okO n o = true) (g : Hs) : ∀ (h : Hs) (i : Nat), chk n h (h.set i o ++ g) = true
  | [], _ => by simp [chk]
  | p :: h, 0 => by simp [chk, k, chk_app n g h]
  | p :: h, i + 1 => by simp [chk, smO_rfl, chk_set k g h i]

/-! ### frames -/
abbrev Rho := List (Option D)
/-- what a slot may have: data, or a made function with what it caught -/
def RelX (G : Gn) (F : Hp) (ι : List Addr) (d : D) (v : V) : Prop := match d with
  | .fn _ l => v = .ref (G.fi 0).a ∧ RelL G F ι l (G.fi 0).cv ∧ F (G.fi 0).c = some (LamX.CodeO (G.fi 0).c (G.fi 0).q)
  | .exc _ => v = .ref (G.fi 1).a
  | d => Rel G F ι d v
theorem Rel.x {G : Gn} {F : Hp} {ι : List Addr} {d : D} {v : V} (h : Rel G F ι d v) : RelX G F ι d v := by
  cases d with
  | fn i l => cases h
  | exc c => cases h
  | _ => exact h
theorem RelX.ext {G : Gn} {F F' : Hp} {ι ι' : List Addr} (e : Ext F ι F' ι') {d : D} {v : V} (h : RelX G F ι d v) : RelX G F' ι' d v := by
  cases d with
  | fn i l => exact ⟨h.1, RelL.ext e h.2.1, e.fz _ _ h.2.2⟩
  | exc c => exact h
  | _ => exact Rel.ext e h
def RelS (G : Gn) (F : Hp) (ι : List Addr) (ρ : Rho) (σ : L2.St) : Prop :=
  ρ.length = σ.length ∧ ∀ (i : Nat) (d : D), ρ[i]? = some (some d) → ∃ v, σ[i]? = some (some v) ∧ RelX G F ι d v
section
variable {G : Gn} {F F' : Hp} {ι ι' : List Addr} {ρ : Rho} {σ : L2.St}
theorem RelS.ext (e : Ext F ι F' ι') (r : RelS G F ι ρ σ) : RelS G F' ι' ρ σ := ⟨r.1, fun i d h => by
  obtain ⟨v, h1, h2⟩ := r.2 i d h
  exact ⟨v, h1, h2.ext e⟩⟩
theorem RelS.set (r : RelS G F ι ρ σ) {i : Nat} {d : D} {v : V} (q : Rel G F ι d v) : RelS G F ι (ρ.set i (some d)) (σ.set i (some v)) := by
  refine ⟨by rw [List.length_set, List.length_set]; exact r.1, fun j e h => ?_⟩
  by_cases hj : j = i
  · subst hj
    by_cases hl : j < ρ.length
    · rw [List.getElem?_set_self hl] at h
      cases h
      exact ⟨v, List.getElem?_set_self (by rw [← r.1]; exact hl), q.x⟩
    · rw [List.getElem?_eq_none (by rw [List.length_set]; omega)] at h
      cases h
  · rw [List.getElem?_set_ne (Ne.symm hj)] at h
    obtain ⟨w, h1, h2⟩ := r.2 j e h
    exact ⟨w, by rw [List.getElem?_set_ne (Ne.symm hj)]; exact h1, h2⟩
theorem RelS.unset (r : RelS G F ι ρ σ) (i : Nat) : RelS G F ι (ρ.set i none) (σ.set i none) := by
  refine ⟨by rw [List.length_set, List.length_set]; exact r.1, fun j e h => ?_⟩
  by_cases hj : j = i
  · subst hj
    by_cases hl : j < ρ.length
    · rw [List.getElem?_set_self hl] at h
      cases h
    · rw [List.getElem?_eq_none (by rw [List.length_set]; omega)] at h
      cases h
  · rw [List.getElem?_set_ne (Ne.symm hj)] at h
    obtain ⟨w, h1, h2⟩ := r.2 j e h
    exact ⟨w, by rw [List.getElem?_set_ne (Ne.symm hj)]; exact h1, h2⟩
end
inductive RelXL (G : Gn) (F : Hp) (ι : List Addr) : List D → List V → Prop
  | nil : RelXL G F ι [] []
  | cons {d : D} {v : V} {l : List D} {xs : List V} : RelX G F ι d v → RelXL G F ι l xs → RelXL G F ι (d :: l) (v :: xs)
theorem RelL.x {G : Gn} {F : Hp} {ι : List Addr} {l : List D} : ∀ {xs : List V}, RelL G F ι l xs → RelXL G F ι l xs := by
  induction l with
  | nil => intro xs h; cases h; exact .nil
  | cons p q ih => intro xs h; cases h with | cons h t => exact .cons h.x (ih t)
theorem RelXL.len {G : Gn} {F : Hp} {ι : List Addr} {l : List D} : ∀ {xs : List V}, RelXL G F ι l xs → l.length = xs.length := by
  induction l with
  | nil => intro xs h; cases h; rfl
  | cons p r ih => intro xs h; cases h with | cons h t => exact congrArg (· + 1) (ih t)
theorem RelXL.get' {G : Gn} {F : Hp} {ι : List Addr} {l : List D} : ∀ {xs : List V} {i : Nat} {d : D}, RelXL G F ι l xs → l[i]? = some d → ∃ v, xs[i]? = some v ∧ RelX G F ι d v := by
  induction l with
  | nil => intro xs i v h e; simp at e
  | cons p r ih =>
    intro xs i v h e
    cases h with
    | cons h t =>
      cases i with
      | zero =>
        simp at e
        subst e
        exact ⟨_, rfl, h⟩
      | succ i =>
        obtain ⟨d, h1, h2⟩ := ih t (i := i) (by simpa using e)
        exact ⟨d, by simpa using h1, h2⟩
theorem relS_startX {G : Gn} {F : Hp} {ι : List Addr} {ds : List D} {vs : List V} (N : List Str) (r : RelXL G F ι ds vs) : RelS G F ι (ds.map some ++ List.replicate (N.length - ds.length) none) (L2.start N vs) := by
  have hl := r.len
  unfold L2.start
  refine ⟨by simp [hl], fun i d h => ?_⟩
  by_cases hi : i < ds.length
  · rw [List.getElem?_append_left (by simpa using hi), List.getElem?_map] at h
    cases e : ds[i]? with
    | none =>
      rw [e] at h
      cases h
    | some x =>
      rw [e] at h
      cases h
      obtain ⟨v, h1, h2⟩ := r.get' e
      refine ⟨v, ?_, h2⟩
      rw [List.getElem?_append_left (by rw [List.length_map, ← hl]; exact hi), List.getElem?_map, h1]
      rfl
  · rw [List.getElem?_append_right (by rw [List.length_map]; omega), List.getElem?_replicate] at h
    split at h <;> cases h
theorem relS_start {G : Gn} {F : Hp} {ι : List Addr} {ds : List D} {vs : List V} (N : List Str) (r : RelL G F ι ds vs) : RelS G F ι (ds.map some ++ List.replicate (N.length - ds.length) none) (L2.start N vs) := relS_startX N r.x
/-! ### other made functions are no matter -/
section
variable {G : Gn} {F : Hp} {ι : List Addr} {fi : Nat → FnI}
mutual
theorem Rel.wi : ∀ {d : D} {v : V}, Rel G F ι d v → Rel (G.wi fi) F ι d v
  | _, _, .non => .non
  | _, _, .bl b => .bl b
  | _, _, .int i => .int i
  | _, _, .str x => .str x
  | _, _, .ty n => .ty n
  | _, _, .tup h r => .tup h (RelL.wi r)
  | _, _, .lst h r => .lst h (RelL.wi r)
  | _, _, .dic h r => .dic h (RelK.wi r)
  | _, _, .dit h r => .dit h (RelT.wi r)
  | _, _, .ref h => .ref h
  | _, _, .any => .any
theorem RelL.wi : ∀ {l : List D} {xs : List V}, RelL G F ι l xs → RelL (G.wi fi) F ι l xs
  | _, _, .nil => .nil
  | _, _, .cons h r => .cons (Rel.wi h) (RelL.wi r)
theorem RelK.wi : ∀ {l : List (Key × D)} {xs : List (Key × V)}, RelK G F ι l xs → RelK (G.wi fi) F ι l xs
  | _, _, .nil => .nil
  | _, _, .cons h r => .cons (Rel.wi h) (RelK.wi r)
theorem RelT.wi : ∀ {l : List (List Key × D)} {xs : List (List Key × V)}, RelT G F ι l xs → RelT (G.wi fi) F ι l xs
  | _, _, .nil => .nil
  | _, _, .cons h r => .cons (Rel.wi h) (RelT.wi r)
end
theorem RelF.wi {l : List (Str × D)} : ∀ {xs : List (Str × V)}, RelF G F ι l xs → RelF (G.wi fi) F ι l xs := by
  induction l with
  | nil => intro xs h; cases h; exact .nil
  | cons p r ih => intro xs h; cases h with | cons h t => exact .cons h.wi (ih t)
theorem RelO.wi {o : Ob} {u : HO} (h : RelO G F ι o u) : RelO (G.wi fi) F ι o u := by
  cases o <;> cases u <;> first
    | exact (show False from h).elim
    | exact True.intro
    | exact (show Pl _ from h)
    | exact RelL.wi h
    | exact RelK.wi h
    | exact RelT.wi h
    | exact ⟨h.1, RelF.wi h.2⟩
theorem Rs.wi {h : Hs} {H : Hp} (r : Rs G F ι h H) : Rs (G.wi fi) F ι h H := ⟨r.fz, r.nf, r.sep, r.len, r.nd, fun i o q => by
  obtain ⟨a, u, e1, e2, e3⟩ := r.obj i o q
  exact ⟨a, u, e1, e2, e3.wi⟩, r.tabs⟩
theorem Gn.wi_wi (G : Gn) (fi : Nat → FnI) : (G.wi fi).wi G.fi = G := rfl
end
end U
/-! readings over data: what an expression, a test, a statement gives -/
namespace U
open PySem PySem.Spec PyProof.Rows L2

/-- what stands fixed around a piece of code: level k -/
structure Bn0 (X : Cx) (G : Gn) : Prop where
  K : X.K = G.K
  w : X.w = G.w
  nd : X.N.Nodup
  un : X.A.units + 150 < cLine
structure Bn (X : Cx) (G : Gn) (W : WX) (k : Nat) : Prop extends Bn0 X G where
  calm : X.calm = true
  tk : Takes X W
  hr : Room k X.A
  po : PassesOwn (model X.prog X.w) X.A X.env X.xe
theorem Bn.b {X : Cx} {G : Gn} {W : WX} {k : Nat} (bn : Bn X G W k) : Bn0 X G := bn.toBn0

section
variable {α β γ : Type} {G : Gn} {F F' H H' : Hp} {ι ι' : List Addr}
def Pst (G : Gn) (F : Hp) (ι : List Addr) (H : Hp) (rel : Hp → List Addr → α → β → Prop) (W : Nat → Hp → Prop) (r : R α) (Q : β → Hp → Prop) : Prop :=
  match r with
  | .ok a h' => ∀ b H' F' ι', Stp F ι H F' ι' H' → Rs G F' ι' h' H' → rel F' ι' a b → Q b H'
  | .er c h' => ∀ H' F' ι', Stp F ι H F' ι' H' → Rs G F' ι' h' H' → W c H'
  | .no => False
def R.bind (r : R α) (k : α → Hs → R β) : R β := match r with
  | .ok a h => k a h
  | .er c h => .er c h
  | .no => .no
theorem R.bind_ok (a : α) (h : Hs) (k : α → Hs → R β) : R.bind (.ok a h) k = k a h := rfl
theorem R.bind_er (c : Nat) (h : Hs) (k : α → Hs → R β) : R.bind (.er c h : R α) k = .er c h := rfl
theorem R.bind_no (k : α → Hs → R β) : R.bind (.no : R α) k = .no := rfl
theorem Pst.ext {rel : Hp → List Addr → α → β → Prop} {W : Nat → Hp → Prop} {r : R α} {Q : β → Hp → Prop} (e : Stp F ι H F' ι' H') (p : Pst G F ι H rel W r Q) : Pst G F' ι' H' rel W r Q := by
  cases r with
  | ok a h => exact fun b H2 F2 ι2 e2 => p b H2 F2 ι2 (e.trans e2)
  | er c h => exact fun H2 F2 ι2 e2 => p H2 F2 ι2 (e.trans e2)
  | no => exact p
theorem Pst.bind {δ : Type} {rel1 : Hp → List Addr → α → δ → Prop} {rel2 : Hp → List Addr → β → γ → Prop} {W : Nat → Hp → Prop} {r : R α} {k : α → Hs → R β} {Q : γ → Hp → Prop} {Q1 : δ → Hp → Prop}
    (p : Pst G F ι H rel2 W (r.bind k) Q) (h : ∀ a h1 b H1 F1 ι1, Stp F ι H F1 ι1 H1 → Rs G F1 ι1 h1 H1 → rel1 F1 ι1 a b → Pst G F1 ι1 H1 rel2 W (k a h1) Q → Q1 b H1) : Pst G F ι H rel1 W r Q1 := by
  cases r with
  | ok a h1 => exact fun b H1 F1 ι1 e r q => h a h1 b H1 F1 ι1 e r q (Pst.ext e p)
  | er c h1 => exact p
  | no => exact p
theorem Pst.okk {rel : Hp → List Addr → α → β → Prop} {W : Nat → Hp → Prop} {a : α} {h : Hs} {Q : β → Hp → Prop} (p : Pst G F ι H rel W (.ok a h) Q) {b : β} (r : Rs G F ι h H) (q : rel F ι a b) : Q b H := p b H F ι (Stp.refl F ι H) r q
end

abbrev EV := Rho → Hs → R D
abbrev AV := Rho → Hs → R (List D)
abbrev BV := Rho → Hs → R Bool
def relB : Hp → List Addr → Bool → Bool → Prop := fun _ _ a b => a = b

def tE (G : Gn) (W : WX) (f : EV) : TE := fun σ H Q => ∃ ρ h F ι, RelS G F ι ρ σ ∧ Rs G F ι h H ∧ Pst G F ι H (Rel G) (fun c H' => W (.ref (G.cl c)) none σ H') (f ρ h) Q
def tAa (G : Gn) (W : WX) (f : AV) : TA := fun σ H Q => ∃ ρ h F ι, RelS G F ι ρ σ ∧ Rs G F ι h H ∧ Pst G F ι H (RelL G) (fun c H' => W (.ref (G.cl c)) none σ H') (f ρ h) Q
def tBb (G : Gn) (W : WX) (f : BV) : TT := fun σ H Q => ∃ ρ h F ι, RelS G F ι ρ σ ∧ Rs G F ι h H ∧ Pst G F ι H relB (fun c H' => W (.ref (G.cl c)) none σ H') (f ρ h) Q

def QE (X : Cx) (G : Gn) (W : WX) (e : Expr) (f : EV) : Prop := PE X e (tE G W f)
def QA (X : Cx) (G : Gn) (W : WX) (es : List Expr) (f : AV) : Prop := PA X es (tAa G W f)
def QT (X : Cx) (G : Gn) (W : WX) (e : Expr) (f : BV) : Prop := PT X e (tBb G W f)
def QW (X : Cx) (G : Gn) (W : WX) (e : Expr) (f : BV) : Prop := PW X e (tBb G W f)

section
variable {X : Cx} {G : Gn} {W : WX} {k : Nat} {e a b c : Expr} {fa fb fc : EV} {pos : Pos}
theorem qe_of {t : TE} {f : EV} (hp : PE X e t) (h : ∀ σ H Q, tE G W f σ H Q → t σ H Q) : QE X G W e f := ⟨fun pins s σ H Q I q => hp.run pins s σ H Q I (h σ H Q q)⟩
theorem qt_of {t : TT} {f : BV} (hp : PT X e t) (h : ∀ σ H Q, tBb G W f σ H Q → t σ H Q) : QT X G W e f := ⟨fun pins s σ H Q I q => hp.run pins s σ H Q I (h σ H Q q)⟩
theorem PE.or {t u : TE} (h1 : PE X e t) (h2 : PE X e u) : PE X e (fun σ H Q => t σ H Q ∨ u σ H Q) := ⟨fun pins s σ H Q I q => q.elim (h1.run pins s σ H Q I) (h2.run pins s σ H Q I)⟩
/-- one part, then by values -/
theorem tE.bind {f : EV} {kf : D → Hs → R D} {σ : L2.St} {H : Hp} {Q : VK} {Q1 : VK} {ρ : Rho} {h : Hs} {F : Hp} {ι : List Addr} (rs : RelS G F ι ρ σ) (r0 : Rs G F ι h H)
    (p : Pst G F ι H (Rel G) (fun c H' => W (.ref (G.cl c)) none σ H') ((f ρ h).bind kf) Q)
    (hk : ∀ d h1 v H1 F1 ι1, Stp F ι H F1 ι1 H1 → Rs G F1 ι1 h1 H1 → Rel G F1 ι1 d v → Pst G F1 ι1 H1 (Rel G) (fun c H' => W (.ref (G.cl c)) none σ H') (kf d h1) Q → Q1 v H1) : tE G W f σ H Q1 :=
  ⟨ρ, h, F, ι, rs, r0, p.bind hk⟩

/-! ### names, constants -/
def eVar (i : Nat) : EV := fun ρ h => match ρ[i]? with
  | some (some (.fn _ _)) => .no
  | some (some (.exc _)) => .no
  | some (some d) => .ok d h
  | _ => .no
def eC (d : D) : EV := fun _ h => .ok d h
theorem q_var {i : Nat} {x : Str} (hN : X.N[i]? = some x := by rfl) (hv : Vis X.env.scope x := by first | exact Or.inl rfl | exact Or.inr (Or.inl rfl) | exact Or.inr (Or.inr rfl)) (hd : (x == ("__debug__" : Str)) = false := by decide)
    (hcd : (x == ("__classdict__" : Str)) = false := by decide) : QE X G W (.Name x pos) (eVar i) := by
  refine qe_of (pe_var (i := i) hN hv hd hcd) fun σ H Q ⟨ρ, h, F, ι, rs, r0, p⟩ => ?_
  unfold eVar at p
  cases e : ρ[i]? with
  | none => rw [e] at p; exact p.elim
  | some o =>
    cases o with
    | none => rw [e] at p; exact p.elim
    | some d =>
      rw [e] at p
      obtain ⟨v, h1, h2⟩ := rs.2 i d e
      cases d with
      | fn _ _ => exact p.elim
      | exc _ => exact p.elim
      | _ => exact ⟨v, h1, Pst.okk p r0 h2⟩
theorem q_c {d : D} {v : V} (hp : PE X e (tC v)) (hr : ∀ F ι, Rel G F ι d v) : QE X G W e (eC d) :=
  qe_of hp fun σ H Q ⟨ρ, h, F, ι, rs, r0, p⟩ => Pst.okk p r0 (hr F ι)
theorem q_int {i : Int} {j : Nat} : QE X G W (.Constant (.int i) j pos) (eC (.int i)) := q_c pe_int fun _ _ => .int i
theorem q_bl {i : Bool} {j : Nat} : QE X G W (.Constant (.bool i) j pos) (eC (.bl i)) := q_c pe_bl fun _ _ => .bl i
theorem q_non {j : Nat} : QE X G W (.Constant .none j pos) (eC .non) := q_c pe_non fun _ _ => .non
theorem q_str {x : Str} {j : Nat} : QE X G W (.Constant (.str x) j pos) (eC (.str x)) := q_c pe_str fun _ _ => .str x
theorem q_glob {x : Str} {v : V} {u : Value} {d : D} (hm : X.mg x = some u) (r : RelV v u) (hr : ∀ F ι, Rel G F ι d v) (hg : Gl X x := by rfl) (hd : (x == ("__debug__" : Str)) = false := by decide) : QE X G W (.Name x pos) (eC d) :=
  q_c (pe_glob hg hm r hd) hr

/-! ### operators by values -/
abbrev Op2 := D → D → Hs → Option D
def eOp (op : Op2) (fa fb : EV) : EV := fun ρ h => (fa ρ h).bind fun x h1 => (fb ρ h1).bind fun y h2 => match op x y h2 with
  | some d => .ok d h2
  | none => .no
def rOf (G : Gn) (op : Op2) : R2 := fun x y H Q => ∃ dx dy h F ι, Rs G F ι h H ∧ Rel G F ι dx x ∧ Rel G F ι dy y ∧ ∃ d, op dx dy h = some d ∧ ∀ v H' F' ι', Stp F ι H F' ι' H' → Rs G F' ι' h H' → Rel G F' ι' d v → Q v H'
theorem tOp_of {op : Op2} {σ : L2.St} {H : Hp} {Q : VK} (q : tE G W (eOp op fa fb) σ H Q) : tOp (rOf G op) (tE G W fa) (tE G W fb) σ H Q := by
  obtain ⟨ρ, h, F, ι, rs, r0, p⟩ := q
  refine tE.bind rs r0 p fun dx h1 x H1 F1 ι1 e1 r1 q1 p1 => ?_
  refine tE.bind (rs.ext e1.toExt) r1 p1 fun dy h2 y H2 F2 ι2 e2 r2 q2 p2 => ?_
  cases e : op dx dy h2 with
  | none => simp only [e] at p2; exact p2.elim
  | some d =>
    simp only [e] at p2
    exact ⟨dx, dy, h2, F2, ι2, r2, q1.ext e2.toExt, q2, d, e, p2⟩
theorem q_bin {o : Operator} {op : Op2} (ho : OpR X (binaryOp o) (rOf G op)) (ha : QE X G W a fa) (hb : QE X G W b fb) : QE X G W (.BinOp a o b pos) (eOp op fa fb) := qe_of (pe_op ho ha hb) fun _ _ _ => tOp_of
theorem q_cmp {o : CmpOp} {op : Op2} (ho : OpR X (compareOp o) (rOf G op)) (ha : QE X G W a fa) (hb : QE X G W b fb) (hm : behindInMarks o b = false := by rfl) : QE X G W (.Compare a [o] [b] pos) (eOp op fa fb) := qe_of (pe_cmpR ho ha hb hm) fun _ _ _ => tOp_of

/-! ### tests -/
/-- a value that is a bool, as a test -/
def bE (f : EV) : BV := fun ρ h => (f ρ h).bind fun d h1 => match d with
  | .bl b => .ok b h1
  | _ => .no
theorem tB_of {σ : L2.St} {H : Hp} {f : EV} {Q : Bool → Hp → Prop} (q : tBb G W (bE f) σ H Q) : tB (tE G W f) σ H Q := by
  obtain ⟨ρ, h, F, ι, rs, r0, p⟩ := q
  refine ⟨ρ, h, F, ι, rs, r0, p.bind fun d h1 v H1 F1 ι1 e1 r1 q1 p1 => ?_⟩
  cases d with
  | bl b =>
    cases q1
    exact ⟨b, rfl, Pst.okk p1 r1 rfl⟩
  | _ => exact p1.elim
theorem qt_val {f : EV} (h : QE X G W e f) (he : ∀ whole, isTrue e X.env whole = (do let v ← whole; standAt e.pos; holding [v] (truthy v)) := by intro _; rfl) : QT X G W e (bE f) := qt_of (pt_val h he) fun _ _ _ => tB_of
theorem qt_cmp {o : CmpOp} {op : Op2} (ho : OpR X (compareOp o) (rOf G op)) (ha : QE X G W a fa) (hb : QE X G W b fb) (hm : behindInMarks o b = false := by rfl) : QT X G W (.Compare a [o] [b] pos) (bE (eOp op fa fb)) := by
  refine qt_of (pt_cmpR ho ha hb hm) fun σ H Q q => ?_
  have q' := tB_of q
  exact tOp_of q'
def bNot (f : BV) : BV := fun ρ h => (f ρ h).bind fun b h1 => .ok (!b) h1
def bAnd (f g : BV) : BV := fun ρ h => (f ρ h).bind fun b h1 => if b = true then g ρ h1 else .ok false h1
def bOr (f g : BV) : BV := fun ρ h => (f ρ h).bind fun b h1 => if b = true then .ok true h1 else g ρ h1
variable {f g : BV} {rest : List Expr}
theorem tBb.bind {kf : Bool → Hs → R Bool} {σ : L2.St} {H : Hp} {Q Q1 : Bool → Hp → Prop} {ρ : Rho} {h : Hs} {F : Hp} {ι : List Addr} (rs : RelS G F ι ρ σ) (r0 : Rs G F ι h H)
    (p : Pst G F ι H relB (fun c H' => W (.ref (G.cl c)) none σ H') ((f ρ h).bind kf) Q)
    (hk : ∀ d h1 H1 F1 ι1, Stp F ι H F1 ι1 H1 → Rs G F1 ι1 h1 H1 → Pst G F1 ι1 H1 relB (fun c H' => W (.ref (G.cl c)) none σ H') (kf d h1) Q → Q1 d H1) : tBb G W f σ H Q1 :=
  ⟨ρ, h, F, ι, rs, r0, p.bind fun a h1 b H1 F1 ι1 e r q p => by
    cases q
    exact hk a h1 H1 F1 ι1 e r p⟩
theorem qt_not (h : QT X G W a f) : QT X G W (.UnaryOp .Not a pos) (bNot f) := by
  refine qt_of (L2.pt_not h) fun σ H Q ⟨ρ, h, F, ι, rs, r0, p⟩ => ?_
  exact tBb.bind rs r0 p fun d h1 H1 F1 ι1 e1 r1 p1 => Pst.okk p1 r1 rfl
theorem qw_and1 (h : QT X G W a f) : QW X G W (.BoolOp .And [a] pos) f := pw_and1 h
theorem qw_or1 (h : QT X G W a f) : QW X G W (.BoolOp .Or [a] pos) f := pw_or1 h
theorem qw_and (ha : QT X G W a f) (hb : QW X G W (.BoolOp .And (b :: rest) pos) g) : QW X G W (.BoolOp .And (a :: b :: rest) pos) (bAnd f g) := by
  have h := pw_and ha hb
  refine ⟨fun wh pins s σ H Q I q => h.run wh pins s σ H Q I ?_⟩
  obtain ⟨ρ, h, F, ι, rs, r0, p⟩ := q
  refine tBb.bind rs r0 p fun d h1 H1 F1 ι1 e1 r1 p1 => ?_
  cases d with
  | true => exact ⟨ρ, h1, F1, ι1, rs.ext e1.toExt, r1, p1⟩
  | false => exact Pst.okk p1 r1 rfl
theorem qw_or (ha : QT X G W a f) (hb : QW X G W (.BoolOp .Or (b :: rest) pos) g) : QW X G W (.BoolOp .Or (a :: b :: rest) pos) (bOr f g) := by
  have h := pw_or ha hb
  refine ⟨fun wh pins s σ H Q I q => h.run wh pins s σ H Q I ?_⟩
  obtain ⟨ρ, h, F, ι, rs, r0, p⟩ := q
  refine tBb.bind rs r0 p fun d h1 H1 F1 ι1 e1 r1 p1 => ?_
  cases d with
  | true => exact Pst.okk p1 r1 rfl
  | false => exact ⟨ρ, h1, F1, ι1, rs.ext e1.toExt, r1, p1⟩
theorem qt_w (h : QW X G W e f) : QT X G W e f := h.pt

/-! ### and, or, not as values -/
def eAnd (fa fb : EV) : EV := fun ρ h => (fa ρ h).bind fun d h1 => match d with
  | .bl true => fb ρ h1
  | .bl false => .ok (.bl false) h1
  | _ => .no
def eOr (fa fb : EV) : EV := fun ρ h => (fa ρ h).bind fun d h1 => match d with
  | .bl true => .ok (.bl true) h1
  | .bl false => fb ρ h1
  | _ => .no
def eNot (fa : EV) : EV := fun ρ h => (fa ρ h).bind fun d h1 => match d with
  | .bl b => .ok (.bl (!b)) h1
  | _ => .no
theorem q_one {o : BoolOp} (h : QE X G W a fa) : QE X G W (.BoolOp o [a] pos) fa := pe_one h
theorem q_and (ha : QE X G W a fa) (hb : QE X G W (.BoolOp .And (b :: rest) pos) fb) : QE X G W (.BoolOp .And (a :: b :: rest) pos) (eAnd fa fb) := by
  refine qe_of (pe_and ha hb) fun σ H Q ⟨ρ, h, F, ι, rs, r0, p⟩ => tE.bind rs r0 p fun d h1 v H1 F1 ι1 e1 r1 q1 p1 => ?_
  cases d with
  | bl t =>
    cases q1
    refine ⟨t, rfl, ?_⟩
    cases t with
    | true => exact ⟨ρ, h1, F1, ι1, rs.ext e1.toExt, r1, p1⟩
    | false => exact Pst.okk p1 r1 (.bl false)
  | _ => exact p1.elim
theorem q_or (ha : QE X G W a fa) (hb : QE X G W (.BoolOp .Or (b :: rest) pos) fb) : QE X G W (.BoolOp .Or (a :: b :: rest) pos) (eOr fa fb) := by
  refine qe_of (pe_or ha hb) fun σ H Q ⟨ρ, h, F, ι, rs, r0, p⟩ => tE.bind rs r0 p fun d h1 v H1 F1 ι1 e1 r1 q1 p1 => ?_
  cases d with
  | bl t =>
    cases q1
    refine ⟨t, rfl, ?_⟩
    cases t with
    | true => exact Pst.okk p1 r1 (.bl true)
    | false => exact ⟨ρ, h1, F1, ι1, rs.ext e1.toExt, r1, p1⟩
  | _ => exact p1.elim
theorem q_not (ha : QE X G W a fa) : QE X G W (.UnaryOp .Not a pos) (eNot fa) := by
  refine qe_of (pe_not ha) fun σ H Q ⟨ρ, h, F, ι, rs, r0, p⟩ => tE.bind rs r0 p fun d h1 v H1 F1 ι1 e1 r1 q1 p1 => ?_
  cases d with
  | bl t =>
    cases q1
    exact ⟨t, rfl, Pst.okk p1 r1 (.bl _)⟩
  | _ => exact p1.elim
def eIf (t : BV) (fa fb : EV) : EV := fun ρ h => (t ρ h).bind fun c h1 => if c = true then fa ρ h1 else fb ρ h1
theorem q_if (hc : QT X G W c f) (ha : QE X G W a fa) (hb : QE X G W b fb) : QE X G W (.IfExp c a b pos) (eIf f fa fb) := by
  refine qe_of (pe_ifExp hc ha hb) fun σ H Q ⟨ρ, h, F, ι, rs, r0, p⟩ => ?_
  refine ⟨ρ, h, F, ι, rs, r0, p.bind fun d h1 v H1 F1 ι1 e1 r1 q1 p1 => ?_⟩
  cases q1
  cases d with
  | true => exact ⟨ρ, h1, F1, ι1, rs.ext e1.toExt, r1, p1⟩
  | false => exact ⟨ρ, h1, F1, ι1, rs.ext e1.toExt, r1, p1⟩
/-- a op b op' c -/
def eChain (op op' : Op2) (fa fb fc : EV) : EV := fun ρ h => (fa ρ h).bind fun x h1 => (fb ρ h1).bind fun y h2 => match op x y h2 with
  | some (.bl true) => (fc ρ h2).bind fun z h3 => match op' y z h3 with
    | some d => .ok d h3
    | none => .no
  | some (.bl false) => .ok (.bl false) h2
  | _ => .no
theorem q_chain {o o' : CmpOp} {op op' : Op2} (ho : OpR X (compareOp o) (rOf G op)) (ho' : OpR X (compareOp o') (rOf G op')) (ha : QE X G W a fa) (hb : QE X G W b fb) (hc : QE X G W c fc)
    (hm : lastMarks [o, o'] [b, c] = false := by rfl) : QE X G W (.Compare a [o, o'] [b, c] pos) (eChain op op' fa fb fc) := by
  refine qe_of (pe_chain ho ho' ha hb hc hm) fun σ H Q ⟨ρ, h, F, ι, rs, r0, p⟩ => ?_
  refine tE.bind rs r0 p fun dx h1 x H1 F1 ι1 e1 r1 q1 p1 => ?_
  refine tE.bind (rs.ext e1.toExt) r1 p1 fun dy h2 y H2 F2 ι2 e2 r2 q2 p2 => ?_
  cases e : op dx dy h2 with
  | none => simp only [e] at p2; exact p2.elim
  | some d =>
    simp only [e] at p2
    refine ⟨dx, dy, h2, F2, ι2, r2, q1.ext e2.toExt, q2, d, e, fun v H' F' ι' e3 r3 q3 => ?_⟩
    cases d with
    | bl t =>
      cases q3
      refine ⟨t, rfl, ?_⟩
      cases t with
      | false => exact p2 _ H' F' ι' e3 r3 (.bl false)
      | true =>
        refine tE.bind ((rs.ext e1.toExt).ext (e2.trans e3).toExt) r3 (Pst.ext e3 p2) fun dz h4 z H4 F4 ι4 e4 r4 q4 p4 => ?_
        cases e5 : op' dy dz h4 with
        | none => simp only [e5] at p4; exact p4.elim
        | some d' =>
          simp only [e5] at p4
          exact ⟨dy, dz, h4, F4, ι4, r4, q2.ext (e3.trans e4).toExt, q4, d', e5, p4⟩
    | _ => exact p2.elim

/-! ### argument lists, displays -/
def aNil : AV := fun _ h => .ok [] h
def aCons (fa : EV) (g : AV) : AV := fun ρ h => (fa ρ h).bind fun d h1 => (g ρ h1).bind fun ds h2 => .ok (d :: ds) h2
variable {es : List Expr} {ga : AV}
theorem qa_nil : QA X G W [] aNil := ⟨fun pos pins s σ H Q I ⟨ρ, h, F, ι, rs, r0, p⟩ => pa_nil.run pos pins s σ H Q I (Pst.okk p r0 .nil)⟩
theorem qa_cons (ha : QE X G W e fa) (hr : QA X G W es ga) (hs : starEach (e :: es) X.env = (false, eval e X.env) :: starEach es X.env := by rfl) : QA X G W (e :: es) (aCons fa ga) := by
  have h := pa_cons ha hr hs
  refine ⟨fun pos pins s σ H Q I q => h.run pos pins s σ H Q I ?_⟩
  obtain ⟨ρ, h, F, ι, rs, r0, p⟩ := q
  refine ⟨ρ, h, F, ι, rs, r0, p.bind fun d h1 v H1 F1 ι1 e1 r1 q1 p1 => ?_⟩
  refine ⟨ρ, h1, F1, ι1, rs.ext e1.toExt, r1, p1.bind fun ds h2 vs H2 F2 ι2 e2 r2 q2 p2 => ?_⟩
  exact Pst.okk p2 r2 (.cons (q1.ext e2.toExt) q2)
/-- (a, b, ..): by value -/
def eTup (g : AV) : EV := fun ρ h => (g ρ h).bind fun ds h1 => if ds.length ≤ sizeLine then .ok (.tup ds) h1 else .no
/-- [a, b, ..]: by value -/
def eLst (g : AV) : EV := fun ρ h => (g ρ h).bind fun ds h1 => if ds.length ≤ sizeLine then .ok (.lst ds) h1 else .no
/-- [a, b, ..]: a box -/
def eBox (g : AV) : EV := fun ρ h => (g ρ h).bind fun ds h1 => if ds.length ≤ sizeLine then .ok (.ref h1.length) (h1 ++ [.lst ds]) else .no
theorem Rs.layTup {F : Hp} {ι : List Addr} {h : Hs} {H : Hp} (r : Rs G F ι h H) {p : Addr} {ds : List D} {vs : List V} (n : H p = none) (q : RelL G F ι ds vs) :
    ∃ F', Stp F ι H F' ι (upd H p (.tup vs)) ∧ Rs G F' ι h (upd H p (.tup vs)) ∧ Rel G F' ι (.tup ds) (.ref p) := by
  obtain ⟨r', e⟩ := r.lay (u := .tup vs) n ⟨fun _ _ z => (nomatch z), fun _ z => (nomatch z)⟩
  exact ⟨_, Stp.lay n e, r', .tup (.inl (.inl upd_same)) (q.ext e)⟩
theorem Rs.layLst {F : Hp} {ι : List Addr} {h : Hs} {H : Hp} (r : Rs G F ι h H) {p : Addr} {ds : List D} {vs : List V} (n : H p = none) (q : RelL G F ι ds vs) :
    ∃ F', Stp F ι H F' ι (upd H p (.lst vs)) ∧ Rs G F' ι h (upd H p (.lst vs)) ∧ Rel G F' ι (.lst ds) (.ref p) := by
  obtain ⟨r', e⟩ := r.lay (u := .lst vs) n ⟨fun _ _ z => (nomatch z), fun _ z => (nomatch z)⟩
  exact ⟨_, Stp.lay n e, r', .lst (.inl (.inl upd_same)) (q.ext e)⟩
theorem q_tup {x1 : Nat} (h : QA X G W es ga) : QE X G W (.Tuple es x1 pos) (eTup ga) := by
  refine qe_of (pe_tup h) fun σ H Q ⟨ρ, h, F, ι, rs, r0, p⟩ => ⟨ρ, h, F, ι, rs, r0, p.bind fun ds h1 vs H1 F1 ι1 e1 r1 q1 p1 => ?_⟩
  by_cases hl : ds.length ≤ sizeLine
  · simp only [if_pos hl] at p1
    refine ⟨by rw [← q1.len]; exact hl, fun q hq => ?_⟩
    obtain ⟨F', e', r', q'⟩ := r1.layTup hq q1
    exact p1 _ _ _ _ e' r' q'
  · simp only [if_neg hl] at p1
    exact p1.elim
theorem q_lst (h : QA X G W es ga) : QE X G W (.List es pos) (eLst ga) := by
  refine qe_of (pe_lst h) fun σ H Q ⟨ρ, h, F, ι, rs, r0, p⟩ => ⟨ρ, h, F, ι, rs, r0, p.bind fun ds h1 vs H1 F1 ι1 e1 r1 q1 p1 => ?_⟩
  by_cases hl : ds.length ≤ sizeLine
  · simp only [if_pos hl] at p1
    refine ⟨by rw [← q1.len]; exact hl, fun q hq => ?_⟩
    obtain ⟨F', e', r', q'⟩ := r1.layLst hq q1
    exact p1 _ _ _ _ e' r' q'
  · simp only [if_neg hl] at p1
    exact p1.elim
theorem Rs.new {F : Hp} {ι : List Addr} {h : Hs} {H : Hp} (r : Rs G F ι h H) {p : Addr} {ds : List D} {vs : List V} (n : H p = none) (q : RelL G F ι ds vs) :
    Stp F ι H F (ι ++ [p]) (upd H p (.lst vs)) ∧ Rs G F (ι ++ [p]) (h ++ [.lst ds]) (upd H p (.lst vs)) ∧ Rel G F (ι ++ [p]) (.ref h.length) (.ref p) := by
  have e : Ext F ι F (ι ++ [p]) := ⟨fun _ _ h => h, List.prefix_append _ _⟩
  obtain ⟨r', _⟩ := r.box (u := .lst vs) (o := .lst ds) n (q.ext e)
  refine ⟨Stp.box n e, r', .ref ?_⟩
  rw [← r.len, List.getElem?_append_right (Nat.le_refl _), Nat.sub_self]
  rfl
theorem q_box (h : QA X G W es ga) : QE X G W (.List es pos) (eBox ga) := by
  refine qe_of (pe_lst h) fun σ H Q ⟨ρ, h, F, ι, rs, r0, p⟩ => ⟨ρ, h, F, ι, rs, r0, p.bind fun ds h1 vs H1 F1 ι1 e1 r1 q1 p1 => ?_⟩
  by_cases hl : ds.length ≤ sizeLine
  · simp only [if_pos hl] at p1
    refine ⟨by rw [← q1.len]; exact hl, fun q hq => ?_⟩
    obtain ⟨e', r', q'⟩ := r1.new hq q1
    exact p1 _ _ _ _ e' r' q'
  · simp only [if_neg hl] at p1
    exact p1.elim
end

/-! ### statements -/
inductive RS where
  | nx (ρ : Rho) (h : Hs) | rt (d : D) (h : Hs) | bk (ρ : Rho) (h : Hs) | ct (ρ : Rho) (h : Hs) | er (c : Nat) (ρ : Rho) (h : Hs) | no
abbrev SV := Rho → Hs → RS
def PsS (G : Gn) (F : Hp) (ι : List Addr) (H : Hp) (W : WX) (r : RS) (Dn : Ends) : Prop :=
  match r with
  | .nx ρ' h' => ∀ σ' H' F' ι', Stp F ι H F' ι' H' → RelS G F' ι' ρ' σ' → Rs G F' ι' h' H' → Dn.nx σ' H'
  | .rt d h' => ∀ v H' F' ι', Stp F ι H F' ι' H' → Rs G F' ι' h' H' → Rel G F' ι' d v → Dn.rt v H'
  | .bk ρ' h' => ∀ σ' H' F' ι', Stp F ι H F' ι' H' → RelS G F' ι' ρ' σ' → Rs G F' ι' h' H' → Dn.bk σ' H'
  | .ct ρ' h' => ∀ σ' H' F' ι', Stp F ι H F' ι' H' → RelS G F' ι' ρ' σ' → Rs G F' ι' h' H' → Dn.ct σ' H'
  | .er c ρ' h' => ∀ σ' H' F' ι', Stp F ι H F' ι' H' → RelS G F' ι' ρ' σ' → Rs G F' ι' h' H' → W (.ref (G.cl c)) none σ' H'
  | .no => False
def tSs (G : Gn) (W : WX) (s : SV) : TS := fun Dn σ H => ∃ ρ h F ι, RelS G F ι ρ σ ∧ Rs G F ι h H ∧ PsS G F ι H W (s ρ h) Dn
def QS (X : Cx) (G : Gn) (W : WX) (st : Stmt) (s : SV) : Prop := PS X st (tSs G W s)
def QSs (X : Cx) (G : Gn) (W : WX) (st : List Stmt) (s : SV) : Prop := PSs X st (tSs G W s)
theorem PsS.ext {G : Gn} {F F' H H' : Hp} {ι ι' : List Addr} {W : WX} {r : RS} {Dn : Ends} (e : Stp F ι H F' ι' H') (p : PsS G F ι H W r Dn) : PsS G F' ι' H' W r Dn := by
  cases r with
  | nx _ _ => exact fun σ' H2 F2 ι2 e2 => p σ' H2 F2 ι2 (e.trans e2)
  | rt _ _ => exact fun σ' H2 F2 ι2 e2 => p σ' H2 F2 ι2 (e.trans e2)
  | bk _ _ => exact fun σ' H2 F2 ι2 e2 => p σ' H2 F2 ι2 (e.trans e2)
  | ct _ _ => exact fun σ' H2 F2 ι2 e2 => p σ' H2 F2 ι2 (e.trans e2)
  | er _ _ _ => exact fun σ' H2 F2 ι2 e2 => p σ' H2 F2 ι2 (e.trans e2)
  | no => exact p
section
variable {X : Cx} {G : Gn} {W : WX} {k : Nat} {st : Stmt} {rest : List Stmt} {s s' : SV} {e : Expr} {f : EV} {g : BV} {pos : Pos}
theorem qs_of {t : TS} (hp : PS X st t) (h : ∀ Dn σ H, tSs G W s Dn σ H → t Dn σ H) : QS X G W st s := ⟨fun pins sh σ H Dn I q => hp.run pins sh σ H Dn I (h Dn σ H q)⟩
def sNil : SV := fun ρ h => .nx ρ h
def sSeq (s t : SV) : SV := fun ρ h => match s ρ h with
  | .nx ρ' h' => t ρ' h'
  | r => r
theorem qs_nil : QSs X G W [] sNil := ⟨fun pins sh σ H Dn I ⟨ρ, h, F, ι, rs, r0, p⟩ => pss_nil.run pins sh σ H Dn I (p σ H F ι (Stp.refl F ι H) rs r0)⟩
theorem qs_cons (h1 : QS X G W st s) (h2 : QSs X G W rest s') : QSs X G W (st :: rest) (sSeq s s') := by
  have h := pss_cons h1 h2
  refine ⟨fun pins sh σ H Dn I q => h.run pins sh σ H Dn I ?_⟩
  obtain ⟨ρ, h, F, ι, rs, r0, p⟩ := q
  refine ⟨ρ, h, F, ι, rs, r0, ?_⟩
  unfold sSeq at p
  cases e : s ρ h with
  | nx ρ' h' =>
    rw [e] at p
    exact fun σ' H' F' ι' e1 rs1 r1 => ⟨ρ', h', F', ι', rs1, r1, PsS.ext e1 p⟩
  | rt d h' => rw [e] at p; exact p
  | bk d h' => rw [e] at p; exact p
  | ct d h' => rw [e] at p; exact p
  | er c d h' => rw [e] at p; exact p
  | no => rw [e] at p; exact p.elim
theorem qs_one (h1 : QS X G W st s) : QSs X G W [st] s := pss_one h1
/-- an expression, then what is made of its value -/
def sE (f : EV) (kf : D → Rho → Hs → RS) : SV := fun ρ h => match f ρ h with
  | .ok d h' => kf d ρ h'
  | .er c h' => .er c ρ h'
  | .no => .no
theorem tSs.bind {kf : D → Rho → Hs → RS} {Dn : Ends} {σ : L2.St} {H : Hp} {Q1 : VK} {ρ : Rho} {h : Hs} {F : Hp} {ι : List Addr} (rs : RelS G F ι ρ σ) (r0 : Rs G F ι h H) (p : PsS G F ι H W (sE f kf ρ h) Dn)
    (hk : ∀ d h1 v H1 F1 ι1, Stp F ι H F1 ι1 H1 → Rs G F1 ι1 h1 H1 → Rel G F1 ι1 d v → PsS G F1 ι1 H1 W (kf d ρ h1) Dn → Q1 v H1) : tE G W f σ H Q1 := by
  refine ⟨ρ, h, F, ι, rs, r0, ?_⟩
  unfold sE at p
  cases e : f ρ h with
  | ok d h' =>
    rw [e] at p
    exact fun v H1 F1 ι1 e1 r1 q1 => hk d h' v H1 F1 ι1 e1 r1 q1 (PsS.ext e1 p)
  | er c h' =>
    rw [e] at p
    exact fun H1 F1 ι1 e1 r1 => p σ H1 F1 ι1 e1 (rs.ext e1.toExt) r1
  | no => rw [e] at p; exact p.elim
def sSet (i : Nat) (f : EV) : SV := sE f fun d ρ h => .nx (ρ.set i (some d)) h
def sRet (f : EV) : SV := sE f fun d _ h => .rt d h
def sExpr (f : EV) : SV := sE f fun _ ρ h => .nx ρ h
def sRetN : SV := fun _ h => .rt .non h
theorem qs_set {i : Nat} {x : Str} {pos' : Pos} (bn : Bn0 X G) (he : QE X G W e f) (hi : X.N[i]? = some x := by rfl) (hx : Loc X.env.scope x := by first | exact Or.inl rfl | exact Or.inr rfl) (hs : swapsWith e (some (.Name x pos')) pos.line X.env = pure false := by rfl)
    (hf : X.fn x = true ∨ X.env.scope.names.lookup x = some .local := by first | exact .inl rfl | exact .inr rfl | assumption) : QS X G W (.Assign [.Name x pos'] e pos) (sSet i f) :=
  qs_of (ps_set bn.nd hi hx he hs hf) fun Dn σ H ⟨ρ, h, F, ι, rs, r0, p⟩ => tSs.bind rs r0 p fun d h1 v H1 F1 ι1 e1 r1 q1 p1 => p1 _ H1 F1 ι1 (Stp.refl _ _ _) ((rs.ext e1.toExt).set q1) r1
theorem qs_ret (he : QE X G W e f) : QS X G W (.Return (some e) pos) (sRet f) :=
  qs_of (ps_ret he) fun Dn σ H ⟨ρ, h, F, ι, rs, r0, p⟩ => tSs.bind rs r0 p fun d h1 v H1 F1 ι1 e1 r1 q1 p1 => p1 v H1 F1 ι1 (Stp.refl _ _ _) r1 q1
theorem qs_retN : QS X G W (.Return none pos) sRetN :=
  qs_of ps_retN fun Dn σ H ⟨ρ, h, F, ι, rs, r0, p⟩ => p _ H F ι (Stp.refl _ _ _) r0 .non
theorem qs_expr (he : QE X G W e f) (hs : swapsWith e none pos.line X.env = pure false := by rfl) : QS X G W (.Expr e pos) (sExpr f) :=
  qs_of (ps_expr he hs) fun Dn σ H ⟨ρ, h, F, ι, rs, r0, p⟩ => tSs.bind rs r0 p fun d h1 v H1 F1 ι1 e1 r1 q1 p1 => p1 σ H1 F1 ι1 (Stp.refl _ _ _) (rs.ext e1.toExt) r1
theorem qs_pass : QS X G W (.Pass pos) sNil := qs_of ps_pass fun Dn σ H ⟨ρ, h, F, ι, rs, r0, p⟩ => p σ H F ι (Stp.refl _ _ _) rs r0
def sBk : SV := fun ρ h => .bk ρ h
def sCt : SV := fun ρ h => .ct ρ h
theorem qs_break : QS X G W (.Break pos) sBk := qs_of ps_break fun Dn σ H ⟨ρ, h, F, ι, rs, r0, p⟩ => p σ H F ι (Stp.refl _ _ _) rs r0
theorem qs_continue : QS X G W (.Continue pos) sCt := qs_of ps_continue fun Dn σ H ⟨ρ, h, F, ι, rs, r0, p⟩ => p σ H F ι (Stp.refl _ _ _) rs r0
/-- a test, then what is made of it -/
def sT (g : BV) (kf : Bool → Rho → Hs → RS) : SV := fun ρ h => match g ρ h with
  | .ok d h' => kf d ρ h'
  | .er c h' => .er c ρ h'
  | .no => .no
def sIf (c : BV) (s t : SV) : SV := sT c fun b ρ h => if b = true then s ρ h else t ρ h
theorem tSs.bindT {kf : Bool → Rho → Hs → RS} {Dn : Ends} {σ : L2.St} {H : Hp} {Q1 : Bool → Hp → Prop} {ρ : Rho} {h : Hs} {F : Hp} {ι : List Addr} (rs : RelS G F ι ρ σ) (r0 : Rs G F ι h H) (p : PsS G F ι H W (sT g kf ρ h) Dn)
    (hk : ∀ d h1 H1 F1 ι1, Stp F ι H F1 ι1 H1 → Rs G F1 ι1 h1 H1 → PsS G F1 ι1 H1 W (kf d ρ h1) Dn → Q1 d H1) : tBb G W g σ H Q1 := by
  refine ⟨ρ, h, F, ι, rs, r0, ?_⟩
  unfold sT at p
  cases e : g ρ h with
  | ok d h' =>
    rw [e] at p
    intro v H1 F1 ι1 e1 r1 q1
    cases q1
    exact hk d h' H1 F1 ι1 e1 r1 (PsS.ext e1 p)
  | er c h' =>
    rw [e] at p
    exact fun H1 F1 ι1 e1 r1 => p σ H1 F1 ι1 e1 (rs.ext e1.toExt) r1
  | no => rw [e] at p; exact p.elim
theorem qs_if {c : Expr} {a b : List Stmt} (hc : QT X G W c g) (ha : QSs X G W a s) (hb : QSs X G W b s') : QS X G W (.If c a b pos) (sIf g s s') := by
  refine qs_of (ps_if hc ha hb) fun Dn σ H ⟨ρ, h, F, ι, rs, r0, p⟩ => tSs.bindT rs r0 p fun d h1 H1 F1 ι1 e1 r1 p1 => ?_
  cases d with
  | true => exact ⟨ρ, h1, F1, ι1, rs.ext e1.toExt, r1, p1⟩
  | false => exact ⟨ρ, h1, F1, ι1, rs.ext e1.toExt, r1, p1⟩
end
end U
/-! operators by values -/
namespace U
open PySem PySem.Spec PyProof.Rows L2

/-! ### what a list, a tuple holds -/
def lstD (d : D) (h : Hs) : Option (List D) := match d with
  | .lst l => some l
  | .ref i => match h[i]? with
    | some (.lst l) => some l
    | _ => none
  | _ => none
def seqD (d : D) (h : Hs) : Option (List D) := match d with
  | .tup l => some l
  | d => lstD d h
section
variable {X : Cx} {G : Gn} {W : WX} {k : Nat} {F : Hp} {ι : List Addr} {h : Hs} {H : Hp} {d : D} {v : V} {l : List D}
theorem lstD_at (r : Rs G F ι h H) (e : lstD d h = some l) (q : Rel G F ι d v) : ∃ a xs, v = .ref a ∧ SqL G.K H a xs ∧ RelL G F ι l xs := by
  cases d with
  | lst m =>
    cases q with
    | lst q1 q2 =>
      cases e
      exact ⟨_, _, rfl, r.sqL q1, q2⟩
  | ref i =>
    cases q with
    | ref q1 =>
      have e : (match h[i]? with | some (.lst l) => some l | _ => none) = some l := e
      cases e1 : h[i]? with
      | none => rw [e1] at e; cases e
      | some o =>
        rw [e1] at e
        cases o with
        | lst m =>
          cases e
          obtain ⟨u, h1, h2⟩ := r.bx q1 e1
          cases u with
          | lst xs => exact ⟨_, _, rfl, .inl (.inl h1), h2⟩
          | _ => exact (show False from h2).elim
        | _ => cases e
  | _ => cases e
theorem seqD_at (bn : Bn0 X G) (r : Rs G F ι h H) (e : seqD d h = some l) (q : Rel G F ι d v) : ∃ a xs, v = .ref a ∧ (SqL X.K H a xs ∨ SqT X.K H a xs) ∧ RelL G F ι l xs := by
  cases d with
  | tup m =>
    cases q with
    | tup q1 q2 =>
      cases e
      exact ⟨_, _, rfl, .inr (by rw [bn.K]; exact r.sqT q1), q2⟩
  | lst m =>
    obtain ⟨a, xs, h1, h2, h3⟩ := lstD_at (d := .lst m) r e q
    exact ⟨a, xs, h1, .inl (by rw [bn.K]; exact h2), h3⟩
  | ref m =>
    obtain ⟨a, xs, h1, h2, h3⟩ := lstD_at (d := .ref m) r e q
    exact ⟨a, xs, h1, .inl (by rw [bn.K]; exact h2), h3⟩
  | _ => cases e
end

/-! ### arithmetic -/
def opAdd : Op2 := fun x y h => match x, y with
  | .int i, .int j => some (.int (i + j))
  | .str a, .str b => if a.length + b.length ≤ sizeLine then some (.str (a ++ b)) else none
  | .tup a, .tup b => if a.length + b.length ≤ sizeLine then some (.tup (a ++ b)) else none
  | a, b => match lstD a h, lstD b h with
    | some l, some m => if l.length + m.length ≤ sizeLine then some (.lst (l ++ m)) else none
    | _, _ => none
def opSub : Op2 := fun x y _ => match x, y with
  | .int i, .int j => some (.int (i - j))
  | _, _ => none
def opMul : Op2 := fun x y _ => match x, y with
  | .int i, .int j => if (i.natAbs < 2 ^ 64 ∨ j.natAbs < 2 ^ 64) ∨ i.natAbs.log2 + j.natAbs.log2 < 1000000 then some (.int (i * j)) else none
  | .str a, .int j => if a.length ≤ 4096 ∧ 0 ≤ j ∧ j ≤ 4096 then some (.str (Txt.mul a j)) else none
  | _, _ => none
def opMod : Op2 := fun x y _ => match x, y with
  | .int i, .int j => if 0 < j then some (.int (i % j)) else none
  | _, _ => none
def opDiv : Op2 := fun x y _ => match x, y with
  | .int i, .int j => if 0 < j ∧ j.natAbs.log2 < 9000 then some (.int (i / j)) else none
  | _, _ => none
def opPow : Op2 := fun x y _ => match x, y with
  | .int i, .int j => if 0 ≤ j ∧ j ≤ 1000000 ∧ i.natAbs < 2 ^ 64 then some (.int (i ^ j.toNat)) else none
  | _, _ => none
def opShr : Op2 := fun x y _ => match x, y with
  | .int i, .int j => if 0 ≤ j then some (.int (i / 2 ^ j.toNat)) else none
  | _, _ => none
def opShl : Op2 := fun x y _ => match x, y with
  | .int i, .int j => if 0 ≤ j ∧ j ≤ 1000000 ∧ i.natAbs < 2 ^ 64 then some (.int (i * 2 ^ j.toNat)) else none
  | _, _ => none
section
variable {X : Cx} {G : Gn} {W : WX} {k : Nat}
/-- two ints -/
theorem or_ints {f : Value → Value → Sem Value} {C : Int → Int → Prop} {g : Int → Int → V} {gd : Int → Int → D} {op : Op2} (ho : OpR X f (rI C g)) (hr : ∀ G F ι i j, Rel G F ι (gd i j) (g i j))
    (hop : ∀ x y h d, op x y h = some d → ∃ i j, x = .int i ∧ y = .int j ∧ C i j ∧ d = gd i j) : OpR X f (rOf G op) := by
  intro pins s σ H x y v u Q I rx ry ⟨dx, dy, h, F, ι, r0, qx, qy, d, e, q⟩
  obtain ⟨i, j, rfl, rfl, c, rfl⟩ := hop _ _ _ _ e
  cases qx
  cases qy
  exact ho pins s σ H _ _ v u Q I rx ry ⟨i, j, rfl, rfl, c, q _ _ _ _ (Stp.refl _ _ _) r0 (hr G F ι i j)⟩
theorem or_sub : OpR X (binaryOp .Sub) (rOf G opSub) := by
  intro pins s σ H x y v u Q I rx ry ⟨dx, dy, h, F, ι, r0, qx, qy, d, e, q⟩
  unfold opSub at e
  split at e
  · cases e
    cases qx
    cases qy
    exact op_sub pins s σ H _ _ v u Q I rx ry ⟨_, _, rfl, rfl, q _ _ _ _ (Stp.refl _ _ _) r0 (.int _)⟩
  · cases e
theorem or_mod : OpR X (binaryOp .Mod) (rOf G opMod) := or_ints (gd := fun i j => .int (i % j)) op_mod (fun _ _ _ _ _ => .int _) fun x y h d e => by
  unfold opMod at e
  split at e
  · split at e
    · cases e
      exact ⟨_, _, rfl, rfl, by assumption, rfl⟩
    · cases e
  · cases e
theorem or_div : OpR X (binaryOp .FloorDiv) (rOf G opDiv) := or_ints (gd := fun i j => .int (i / j)) op_fdivW (fun _ _ _ _ _ => .int _) fun x y h d e => by
  unfold opDiv at e
  split at e
  · split at e
    · cases e
      exact ⟨_, _, rfl, rfl, by assumption, rfl⟩
    · cases e
  · cases e
theorem or_pow : OpR X (binaryOp .Pow) (rOf G opPow) := or_ints (gd := fun i j => .int (i ^ j.toNat)) op_pow (fun _ _ _ _ _ => .int _) fun x y h d e => by
  unfold opPow at e
  split at e
  · split at e
    · cases e
      exact ⟨_, _, rfl, rfl, by assumption, rfl⟩
    · cases e
  · cases e
theorem or_shr : OpR X (binaryOp .RShift) (rOf G opShr) := or_ints (gd := fun i j => .int (i / 2 ^ j.toNat)) op_shr (fun _ _ _ _ _ => .int _) fun x y h d e => by
  unfold opShr at e
  split at e
  · split at e
    · cases e
      exact ⟨_, _, rfl, rfl, by assumption, rfl⟩
    · cases e
  · cases e
theorem or_shl : OpR X (binaryOp .LShift) (rOf G opShl) := or_ints (gd := fun i j => .int (i * 2 ^ j.toNat)) op_shl (fun _ _ _ _ _ => .int _) fun x y h d e => by
  unfold opShl at e
  split at e
  · split at e
    · cases e
      exact ⟨_, _, rfl, rfl, by assumption, rfl⟩
    · cases e
  · cases e
theorem or_mul : OpR X (binaryOp .Mult) (rOf G opMul) := by
  intro pins s σ H x y v u Q I rx ry ⟨dx, dy, h, F, ι, r0, qx, qy, d, e, q⟩
  unfold opMul at e
  split at e
  · split at e
    · rename_i hc
      cases e
      cases qx
      cases qy
      rcases hc with hc | hc
      · refine op_mul pins s σ H _ _ v u Q I rx ry ⟨_, _, rfl, rfl, ?_, q _ _ _ _ (Stp.refl _ _ _) r0 (.int _)⟩
        rcases hc with hc | hc
        · exact .inl (by omega)
        · exact .inr (by omega)
      · exact op_mulW pins s σ H _ _ v u Q I rx ry ⟨_, _, rfl, rfl, hc, q _ _ _ _ (Stp.refl _ _ _) r0 (.int _)⟩
    · cases e
  · split at e
    · rename_i hc
      cases e
      cases qx
      cases qy
      obtain ⟨t, rfl⟩ := rx
      obtain ⟨t', rfl⟩ := ry
      exact SB.mul (mulOk_of 4096 4096 hc.1 (by omega) (by omega) (by decide) (by decide)) fun t'' n => ⟨.str _, H, I.tok _, ⟨_, rfl⟩, q _ _ _ _ (Stp.refl _ _ _) r0 (.str _)⟩
    · cases e
  · cases e
theorem or_add (bn : Bn0 X G) : OpR X (binaryOp .Add) (rOf G opAdd) := by
  intro pins s σ H x y v u Q I rx ry ⟨dx, dy, h, F, ι, r0, qx, qy, d, e, q⟩
  unfold opAdd at e
  split at e
  · cases e
    cases qx
    cases qy
    exact op_add pins s σ H _ _ v u Q I rx ry ⟨_, _, rfl, rfl, q _ _ _ _ (Stp.refl _ _ _) r0 (.int _)⟩
  · split at e
    · cases e
      cases qx
      cases qy
      exact op_add_str pins s σ H _ _ v u Q I rx ry ⟨_, _, rfl, rfl, by assumption, q _ _ _ _ (Stp.refl _ _ _) r0 (.str _)⟩
    · cases e
  · split at e
    · rename_i la lb hl
      cases e
      cases qx with
      | tup h1 r1 =>
        cases qy with
        | tup h2 r2 =>
          rename_i a xs b ys
          have l1 := r1.len
          have l2 := r2.len
          refine op_catA pins s σ H _ _ v u Q I rx ry ⟨_, _, xs, ys, rfl, rfl, by rw [bn.K]; exact r0.sqT h1, by rw [bn.K]; exact r0.sqT h2, by omega, fun z => ?_, fun z1 z2 => ?_, fun z1 z2 p hp => ?_⟩
          · subst z
            cases r1
            exact q _ _ _ _ (Stp.refl _ _ _) r0 (.tup h2 r2)
          · subst z2
            cases r2
            rw [List.append_nil] at q
            exact q _ _ _ _ (Stp.refl _ _ _) r0 (.tup h1 r1)
          · obtain ⟨F', e', r', q'⟩ := r0.layTup hp (RelL.app r2 r1 : RelL G F ι (la ++ lb) (xs ++ ys))
            exact q _ _ _ _ e' r' q'
    · cases e
  · split at e
    · rename_i l m e1 e2
      split at e
      · rename_i hl
        cases e
        obtain ⟨a, xs, rfl, h1, r1⟩ := lstD_at r0 e1 qx
        obtain ⟨b, ys, rfl, h2, r2⟩ := lstD_at r0 e2 qy
        have l1 := r1.len
        have l2 := r2.len
        cases rx
        cases ry
        obtain ⟨its, rr, eo, _⟩ := I.list (show SqL X.K H a xs by rw [bn.K]; exact h1)
        obtain ⟨its2, rr2, eo2, _⟩ := I.list (show SqL X.K H b ys by rw [bn.K]; exact h2)
        have k1 := rr.length
        have k2 := rr2.length
        obtain ⟨⟨c1, dd1, dt1, sl1⟩, n1, g1, g2, g3, g4⟩ := eo
        obtain ⟨⟨c2, dd2, dt2, sl2⟩, n2, g5, g6, g7, g8⟩ := eo2
        simp only at g2 g3 g4 g6 g7 g8
        subst g2 g3 g4 g6 g7 g8
        refine concat_meets ⟨_, g1, rfl⟩ ⟨_, g5, rfl⟩ noFill_list_add seq_list_add PySem.F.slot_list_add PySem.F.entry_list_add (PySem.F.args_list_add_2 _ _) (list_addW a b its.toArray its2.toArray n1 n2 none none sl1 sl2 (by rw [List.size_toArray, List.size_toArray]; omega)) ⟨g1, g5, ?_⟩
        have ea : its.toArray ++ its2.toArray = (its ++ its2).toArray := by simp
        rw [ea]
        obtain ⟨F', e', r', q'⟩ := r0.layLst I.fresh (RelL.app r2 r1 : RelL G F ι (l ++ m) (xs ++ ys))
        exact ⟨.ref _, _, I.lnew (t' := s.toks) (rr.append rr2) (by rw [List.length_append]; omega), rfl, q _ _ _ _ e' r' q'⟩
      · cases e
    · cases e

/-! ### comparisons of numbers and texts -/
def cmpI (p : Int → Int → Bool) : Op2 := fun x y _ => match x, y with
  | .int i, .int j => some (.bl (p i j))
  | _, _ => none
theorem or_cmpI {o : CmpOp} {p : Int → Int → Bool} (ho : OpR X (compareOp o) (rI0 fun i j => .bl (p i j))) : OpR X (compareOp o) (rOf G (cmpI p)) := by
  intro pins s σ H x y v u Q I rx ry ⟨dx, dy, h, F, ι, r0, qx, qy, d, e, q⟩
  unfold cmpI at e
  split at e
  · cases e
    cases qx
    cases qy
    exact ho pins s σ H _ _ v u Q I rx ry ⟨_, _, rfl, rfl, q _ _ _ _ (Stp.refl _ _ _) r0 (.bl _)⟩
  · cases e
abbrev opLt : Op2 := cmpI fun i j => decide (i < j)
abbrev opLe : Op2 := cmpI fun i j => decide (i ≤ j)
abbrev opGt : Op2 := cmpI fun i j => decide (j < i)
abbrev opGe : Op2 := cmpI fun i j => decide (j ≤ i)
theorem or_lt : OpR X (compareOp .Lt) (rOf G opLt) := or_cmpI op_lt
theorem or_le : OpR X (compareOp .LtE) (rOf G opLe) := or_cmpI op_le
theorem or_gt : OpR X (compareOp .Gt) (rOf G opGt) := or_cmpI op_gt
theorem or_ge : OpR X (compareOp .GtE) (rOf G opGe) := or_cmpI op_ge
end

/-! ### equality -/
mutual
def eqB : D → D → Bool
  | .non, .non => true
  | .bl a, .bl b => a == b
  | .bl a, .int j => (if a then 1 else 0) == j
  | .int i, .bl b => i == (if b then 1 else 0)
  | .int i, .int j => i == j
  | .str x, .str y => x == y
  | .lst xs, .lst ys => eqBs xs ys
  | .tup xs, .tup ys => eqBs xs ys
  | _, _ => false
def eqBs : List D → List D → Bool
  | [], [] => true
  | x :: xs, y :: ys => eqB x y && eqBs xs ys
  | _, _ => false
end
mutual
def py : D → PyData
  | .bl b => .bool b
  | .int i => .int i
  | .str x => .str x
  | .tup l => .tuple (pys l)
  | .lst l => .list (pys l)
  | _ => .none
def pys : List D → List PyData
  | [] => []
  | x :: xs => py x :: pys xs
end
mutual
/-- data alone, its texts sound -/
def plain : D → Bool
  | .non => true
  | .bl _ => true
  | .int _ => true
  | .str x => PyData.strOk x
  | .tup l => plains l
  | .lst l => plains l
  | _ => false
def plains : List D → Bool
  | [] => true
  | x :: xs => plain x && plains xs
end
mutual
def dep : D → Nat
  | .tup l => deps l + 1
  | .lst l => deps l + 1
  | _ => 0
def deps : List D → Nat
  | [] => 0
  | x :: xs => max (dep x) (deps xs)
end
mutual
theorem canLay_py : ∀ d : D, plain d = true → (py d).canLay0 = true
  | .non, _ => by simp [py, PyData.canLay0]
  | .bl _, _ => by simp [py, PyData.canLay0]
  | .int _, _ => by simp [py, PyData.canLay0]
  | .str x, h => by simpa [py, PyData.canLay0, plain] using h
  | .tup l, h => by
    simp only [py, PyData.canLay0]
    exact canLay_pys l (by simpa [plain] using h)
  | .lst l, h => by
    simp only [py, PyData.canLay0]
    exact canLay_pys l (by simpa [plain] using h)
  | .ty _, h => by simp [plain] at h
  | .dic _, h => by simp [plain] at h
  | .dit _, h => by simp [plain] at h
  | .ref _, h => by simp [plain] at h
  | .fn _ _, h => by simp [plain] at h
  | .any, h => by simp [plain] at h
  | .nam _, h => by simp [plain] at h
  | .exc _, h => by simp [plain] at h
  | .lin _ _, h => by simp [plain] at h
theorem canLay_pys : ∀ l : List D, plains l = true → PyData.canLayAll0 (pys l) = true
  | [], _ => by simp [pys, PyData.canLayAll0]
  | x :: xs, h => by
    have h' : plain x = true ∧ plains xs = true := by simpa [plains] using h
    simp only [pys, PyData.canLayAll0, canLay_py x h'.1, canLay_pys xs h'.2, Bool.and_self]
end
mutual
theorem dep_py : ∀ d : D, (py d).depth = dep d
  | .non => by simp [py, PyData.depth, dep]
  | .bl _ => by simp [py, PyData.depth, dep]
  | .int _ => by simp [py, PyData.depth, dep]
  | .str x => by simp [py, PyData.depth, dep]
  | .tup l => by simp [py, PyData.depth, dep, dep_pys l]
  | .lst l => by simp [py, PyData.depth, dep, dep_pys l]
  | .ty _ => by simp [py, PyData.depth, dep]
  | .dic _ => by simp [py, PyData.depth, dep]
  | .dit _ => by simp [py, PyData.depth, dep]
  | .ref _ => by simp [py, PyData.depth, dep]
  | .fn _ _ => by simp [py, PyData.depth, dep]
  | .any => by simp [py, PyData.depth, dep]
  | .nam _ => by simp [py, PyData.depth, dep]
  | .exc _ => by simp [py, PyData.depth, dep]
  | .lin _ _ => by simp [py, PyData.depth, dep]
theorem dep_pys : ∀ l : List D, PyData.depthAll (pys l) = deps l
  | [] => by simp [pys, PyData.depthAll, deps]
  | x :: xs => by simp [pys, PyData.depthAll, deps, dep_py x, dep_pys xs]
end
mutual
theorem eqv_py : ∀ a b : D, plain a = true → plain b = true → PyData.eqv (py a) (py b) = eqB a b
  | .tup l, .tup m, ha, hb => by
    simp only [py, PyData.eqv, eqB]
    exact eqv_pys l m (by simpa [plain] using ha) (by simpa [plain] using hb)
  | .lst l, .lst m, ha, hb => by
    simp only [py, PyData.eqv, eqB]
    exact eqv_pys l m (by simpa [plain] using ha) (by simpa [plain] using hb)
  | .non, b, _, hb => by cases b <;> first | (simp [plain] at hb; done) | simp [py, PyData.eqv, eqB]
  | .bl _, b, _, hb => by cases b <;> first | (simp [plain] at hb; done) | simp [py, PyData.eqv, eqB]
  | .int _, b, _, hb => by cases b <;> first | (simp [plain] at hb; done) | simp [py, PyData.eqv, eqB]
  | .str _, b, _, hb => by cases b <;> simp [py, PyData.eqv, eqB]
  | .tup _, .non, _, _ => by simp [py, PyData.eqv, eqB]
  | .tup _, .bl _, _, _ => by simp [py, PyData.eqv, eqB]
  | .tup _, .int _, _, _ => by simp [py, PyData.eqv, eqB]
  | .tup _, .str _, _, _ => by simp [py, PyData.eqv, eqB]
  | .tup _, .lst _, _, _ => by simp [py, PyData.eqv, eqB]
  | .lst _, .non, _, _ => by simp [py, PyData.eqv, eqB]
  | .lst _, .bl _, _, _ => by simp [py, PyData.eqv, eqB]
  | .lst _, .int _, _, _ => by simp [py, PyData.eqv, eqB]
  | .lst _, .str _, _, _ => by simp [py, PyData.eqv, eqB]
  | .lst _, .tup _, _, _ => by simp [py, PyData.eqv, eqB]
  | .ty _, _, h, _ => by simp [plain] at h
  | .dic _, _, h, _ => by simp [plain] at h
  | .dit _, _, h, _ => by simp [plain] at h
  | .ref _, _, h, _ => by simp [plain] at h
  | .fn _ _, _, h, _ => by simp [plain] at h
  | .any, _, h, _ => by simp [plain] at h
  | .nam _, _, h, _ => by simp [plain] at h
  | .exc _, _, h, _ => by simp [plain] at h
  | .lin _ _, _, h, _ => by simp [plain] at h
  | _, .ty _, _, h => by simp [plain] at h
  | _, .dic _, _, h => by simp [plain] at h
  | _, .dit _, _, h => by simp [plain] at h
  | _, .ref _, _, h => by simp [plain] at h
  | _, .fn _ _, _, h => by simp [plain] at h
  | _, .any, _, h => by simp [plain] at h
  | _, .nam _, _, h => by simp [plain] at h
  | _, .exc _, _, h => by simp [plain] at h
  | _, .lin _ _, _, h => by simp [plain] at h
theorem eqv_pys : ∀ l m : List D, plains l = true → plains m = true → PyData.eqvAll (pys l) (pys m) = eqBs l m
  | [], [], _, _ => by simp [pys, PyData.eqvAll, eqBs]
  | [], _ :: _, _, _ => by simp [pys, PyData.eqvAll, eqBs]
  | _ :: _, [], _, _ => by simp [pys, PyData.eqvAll, eqBs]
  | x :: xs, y :: ys, ha, hb => by
    have h1 : plain x = true ∧ plains xs = true := by simpa [plains] using ha
    have h2 : plain y = true ∧ plains ys = true := by simpa [plains] using hb
    simp only [pys, PyData.eqvAll, eqBs, eqv_py x y h1.1 h2.1, eqv_pys xs ys h1.2 h2.2]
end
section
variable {X : Cx} {G : Gn} {W : WX} {k : Nat} {F : Hp} {ι : List Addr} {h : Hs} {H : Hp}
mutual
theorem dp_of (r : Rs G F ι h H) : ∀ (d : D) (v : V), plain d = true → Rel G F ι d v → Dp G.K H v (py d)
  | .non, _, _, q => by cases q; exact (show Dp G.K H .non (py .non) by simp only [py]; exact .non)
  | .bl b, _, _, q => by cases q; simp only [py]; exact .bl b
  | .int i, _, _, q => by cases q; simp only [py]; exact .int i
  | .str x, _, _, q => by cases q; simp only [py]; exact .str x
  | .tup l, _, p, q => by
    cases q with
    | tup h1 r1 =>
      simp only [py]
      exact .tup (r.sqT h1) (dps_of r l _ (by simpa [plain] using p) r1)
  | .lst l, _, p, q => by
    cases q with
    | lst h1 r1 =>
      simp only [py]
      exact .lst (r.sqL h1) (dps_of r l _ (by simpa [plain] using p) r1)
  | .ty _, _, p, _ => by simp [plain] at p
  | .dic _, _, p, _ => by simp [plain] at p
  | .dit _, _, p, _ => by simp [plain] at p
  | .ref _, _, p, _ => by simp [plain] at p
  | .fn _ _, _, p, _ => by simp [plain] at p
  | .any, _, p, _ => by simp [plain] at p
  | .nam _, _, p, _ => by simp [plain] at p
  | .exc _, _, p, _ => by simp [plain] at p
  | .lin _ _, _, p, _ => by simp [plain] at p
theorem dps_of (r : Rs G F ι h H) : ∀ (l : List D) (xs : List V), plains l = true → RelL G F ι l xs → DpAll G.K H xs (pys l)
  | [], _, _, q => by cases q; simp only [pys]; exact .nil
  | d :: l, _, p, q => by
    cases q with
    | cons q1 q2 =>
      have p' : plain d = true ∧ plains l = true := by simpa [plains] using p
      simp only [pys]
      exact .cons (dp_of r d _ p'.1 q1) (dps_of r l _ p'.2 q2)
end
end
/-- a box's list, read -/
def der (h : Hs) (d : D) : D := match d with
  | .ref i => match h[i]? with
    | some (.lst l) => .lst l
    | _ => .ref i
  | d => d
/-- pairs that == tells whatever their texts hold -/
def scalD : D → D → Bool
  | .non, .non => true | .non, .int _ => true | .int _, .non => true | .non, .bl _ => true | .bl _, .non => true | .non, .str _ => true | .str _, .non => true
  | .int _, .int _ => true | .bl _, .bl _ => true | .str _, .str _ => true
  | .int _, .str _ => true | .str _, .int _ => true | .bl _, .str _ => true | .str _, .bl _ => true
  | _, _ => false
def okEq (a b : D) : Bool := scalD a b || (plain a && plain b && decide (min (dep a) (dep b) ≤ 64))
def opEq : Op2 := fun x y h => if okEq (der h x) (der h y) = true then some (.bl (eqB (der h x) (der h y))) else none
def opNe : Op2 := fun x y h => if okEq (der h x) (der h y) = true then some (.bl (!eqB (der h x) (der h y))) else none
section
variable {X : Cx} {G : Gn} {W : WX} {k : Nat} {F : Hp} {ι : List Addr} {h : Hs} {H : Hp} {a b : D} {x y : V}
theorem dp_der (r : Rs G F ι h H) {d : D} {v : V} (p : plain (der h d) = true) (q : Rel G F ι d v) : Dp G.K H v (py (der h d)) := by
  cases d with
  | ref i =>
    cases e : h[i]? with
    | none => simp [der, e, plain] at p
    | some o =>
      cases o with
      | lst l =>
        have ed : der h (.ref i) = .lst l := by simp [der, e]
        rw [ed] at p ⊢
        obtain ⟨a, xs, rfl, h1, h2⟩ := lstD_at (d := .ref i) (l := l) r (by simp [lstD, e]) q
        simp only [py]
        exact .lst h1 (dps_of r l _ (by simpa [plain] using p) h2)
      | _ => simp [der, e, plain] at p
  | _ => exact dp_of r _ _ p q
theorem scal_of (c : scalD a b = true) (qa : Rel G F ι a x) (qb : Rel G F ι b y) : scal x y = true ∧ decide (x = y) = eqB a b := by
  cases qa <;> cases qb <;> first
    | (simp [scalD] at c; done)
    | (refine ⟨rfl, ?_⟩; simp [eqB]; done)
    | (refine ⟨rfl, ?_⟩; simp only [eqB]; first | exact dec_int | exact dec_bl | exact dec_str)
theorem scal_der {dx dy : D} (c : scalD (der h dx) (der h dy) = true) : der h dx = dx ∧ der h dy = dy := by
  have one : ∀ d e : D, (scalD (der h d) e = true ∨ scalD e (der h d) = true) → der h d = d := by
    intro d e z
    cases d with
    | ref i =>
      cases q : h[i]? with
      | none => simp [der, q]
      | some o =>
        cases o with
        | lst l =>
          have ed : der h (.ref i) = .lst l := by simp [der, q]
          rw [ed] at z
          rcases z with z | z <;> cases e <;> simp [scalD] at z
        | _ => simp [der, q]
    | _ => rfl
  exact ⟨one dx _ (.inl c), one dy _ (.inr c)⟩
theorem or_eq (bn : Bn0 X G) : OpR X (compareOp .Eq) (rOf G opEq) := by
  intro pins s σ H x y v u Q I rx ry ⟨dx, dy, h, F, ι, r0, qx, qy, d, e, q⟩
  unfold opEq at e
  split at e
  · rename_i c
    cases e
    by_cases sc : scalD (der h dx) (der h dy) = true
    · obtain ⟨e1, e2⟩ := scal_der sc
      rw [e1, e2] at sc q
      obtain ⟨s1, s2⟩ := scal_of sc qx qy
      refine op_eq pins s σ H _ _ v u Q I rx ry ⟨s1, ?_⟩
      rw [s2]
      exact q _ _ _ _ (Stp.refl _ _ _) r0 (.bl _)
    · have c' : (plain (der h dx) && plain (der h dy) && decide (min (dep (der h dx)) (dep (der h dy)) ≤ 64)) = true := by simpa [okEq, sc] using c
      simp only [Bool.and_eq_true, decide_eq_true_eq] at c'
      have q1 := dp_der r0 c'.1.1 qx
      have q2 := dp_der r0 c'.1.2 qy
      rw [← bn.K] at q1 q2
      obtain ⟨as, g1⟩ := Dp.reads I _ x v q1 rx
      obtain ⟨bs, g2⟩ := Dp.reads I _ y u q2 ry
      refine SeqAt.compareEq_reads g1 g2 (canLay_py _ c'.1.1) (canLay_py _ c'.1.2) ?_ ⟨.bl _, H, I, rfl, ?_⟩
      · rw [dep_py, dep_py]
        have := bn.un
        omega
      · rw [eqv_py _ _ c'.1.1 c'.1.2]
        exact q _ _ _ _ (Stp.refl _ _ _) r0 (.bl _)
  · cases e
theorem or_ne (bn : Bn0 X G) : OpR X (compareOp .NotEq) (rOf G opNe) := by
  intro pins s σ H x y v u Q I rx ry ⟨dx, dy, h, F, ι, r0, qx, qy, d, e, q⟩
  unfold opNe at e
  split at e
  · rename_i c
    cases e
    by_cases sc : scalD (der h dx) (der h dy) = true
    · obtain ⟨e1, e2⟩ := scal_der sc
      rw [e1, e2] at sc q
      obtain ⟨s1, s2⟩ := scal_of sc qx qy
      refine op_ne pins s σ H _ _ v u Q I rx ry ⟨s1, ?_⟩
      rw [s2]
      exact q _ _ _ _ (Stp.refl _ _ _) r0 (.bl _)
    · have c' : (plain (der h dx) && plain (der h dy) && decide (min (dep (der h dx)) (dep (der h dy)) ≤ 64)) = true := by simpa [okEq, sc] using c
      simp only [Bool.and_eq_true, decide_eq_true_eq] at c'
      have q1 := dp_der r0 c'.1.1 qx
      have q2 := dp_der r0 c'.1.2 qy
      rw [← bn.K] at q1 q2
      obtain ⟨as, g1⟩ := Dp.reads I _ x v q1 rx
      obtain ⟨bs, g2⟩ := Dp.reads I _ y u q2 ry
      refine SeqAt.compareNe_reads g1 g2 (canLay_py _ c'.1.1) (canLay_py _ c'.1.2) ?_ ⟨.bl _, H, I, rfl, ?_⟩
      · rw [dep_py, dep_py]
        have := bn.un
        omega
      · rw [eqv_py _ _ c'.1.1 c'.1.2]
        exact q _ _ _ _ (Stp.refl _ _ _) r0 (.bl _)
  · cases e

/-! ### is -/
def isNon : D → Bool
  | .non => true
  | _ => false
def isAny : D → Bool
  | .any => true
  | _ => false
def opIs : Op2 := fun x y _ => match y with
  | .non => if isAny x = true then none else some (.bl (isNon x))
  | .bl b => match x with
    | .bl a => some (.bl (a == b))
    | _ => none
  | _ => none
def opIsNot : Op2 := fun x y _ => match y with
  | .non => if isAny x = true then none else some (.bl (!isNon x))
  | .bl b => match x with
    | .bl a => some (.bl (!(a == b)))
    | _ => none
  | _ => none
theorem isnon_of (z : ¬ isAny a = true) (qa : Rel G F ι a x) : decide (x = .non) = isNon a := by
  cases qa <;> first | (exact absurd rfl z) | simp [isNon]
theorem or_is : OpR X (compareOp .Is) (rOf G opIs) := by
  intro pins s σ H x y v u Q I rx ry ⟨dx, dy, h, F, ι, r0, qx, qy, d, e, q⟩
  unfold opIs at e
  split at e
  · split at e
    · cases e
    rename_i za
    cases e
    cases qy
    refine op_isN pins s σ H _ _ v u Q I rx ry ⟨rfl, ?_⟩
    have hq := q _ _ _ _ (Stp.refl _ _ _) r0 (.bl _)
    rw [← isnon_of za qx] at hq
    exact hq
  · split at e
    · cases e
      cases qx
      cases qy
      have hq := q _ _ _ _ (Stp.refl _ _ _) r0 (.bl _)
      exact op_is_bl pins s σ H _ _ _ _ Q I rx ry ⟨_, _, rfl, rfl, by rw [← Bool.beq_eq_decide_eq]; exact hq⟩
    · cases e
  · cases e
theorem or_isnot : OpR X (compareOp .IsNot) (rOf G opIsNot) := by
  intro pins s σ H x y v u Q I rx ry ⟨dx, dy, h, F, ι, r0, qx, qy, d, e, q⟩
  unfold opIsNot at e
  split at e
  · split at e
    · cases e
    rename_i za
    cases e
    cases qy
    refine op_notN pins s σ H _ _ v u Q I rx ry ⟨rfl, ?_⟩
    have hq := q _ _ _ _ (Stp.refl _ _ _) r0 (.bl _)
    rw [← isnon_of za qx] at hq
    exact hq
  · split at e
    · cases e
      cases qx
      cases qy
      have hq := q _ _ _ _ (Stp.refl _ _ _) r0 (.bl _)
      exact op_isnot_bl pins s σ H _ _ _ _ Q I rx ry ⟨_, _, rfl, rfl, by rw [← Bool.beq_eq_decide_eq]; exact hq⟩
    · cases e
  · cases e
end
end U
/-! membership, subscripts, slices, built-in calls -/
namespace U
open PySem PySem.Spec PyProof.Rows L2

/-! ### in -/
def scalF : D → Bool
  | .non => true
  | .bl _ => true
  | .int _ => true
  | .str _ => true
  | _ => false
def okIn (x : D) (l : List D) : Bool := (scalF x && l.all scalF) || (plain x && plains l && decide (min (deps l) (dep x) ≤ 63))
def inD (x : D) (l : List D) : Bool := l.any fun y => eqB y x
def valIn (x y : D) (h : Hs) : Option Bool := match y with
  | .str z => match x with
    | .str a => match a.cps.toList with
      | [c] => some (decide (c ∈ z.cps.toList))
      | _ => none
    | _ => none
  | y => match seqD y h with
    | some l => if okIn x l = true then some (inD x l) else none
    | none => none
def opIn : Op2 := fun x y h => (valIn x y h).map .bl
def opNotIn : Op2 := fun x y h => (valIn x y h).map fun b => .bl (!b)
section
variable {X : Cx} {G : Gn} {W : WX} {k : Nat} {F : Hp} {ι : List Addr} {h : Hs} {H : Hp} {x : D} {v : V} {l : List D} {xs : List V}
theorem flat_of (c : scalF x = true) (q : Rel G F ι x v) : flatV v = true := by
  cases q <;> first | rfl | (simp [scalF] at c)
theorem flats_of : ∀ {l : List D} {xs : List V}, l.all scalF = true → RelL G F ι l xs → xs.all flatV = true := by
  intro l
  induction l with
  | nil => intro xs _ q; cases q; rfl
  | cons d l ih =>
    intro xs c q
    cases q with
    | cons q1 q2 =>
      simp only [List.all_cons, Bool.and_eq_true] at c ⊢
      exact ⟨flat_of c.1 q1, ih c.2 q2⟩
theorem eqV_of {a b : D} {x y : V} (ca : scalF a = true) (cb : scalF b = true) (qa : Rel G F ι a x) (qb : Rel G F ι b y) : eqV x y = eqB a b := by
  cases qa <;> cases qb <;> first
    | (simp [scalF] at ca; done)
    | (simp [scalF] at cb; done)
    | simp [eqV, eqB]
theorem inV_of (cx : scalF x = true) : ∀ {l : List D} {xs : List V}, l.all scalF = true → Rel G F ι x v → RelL G F ι l xs → inV v xs = inD x l := by
  intro l
  induction l with
  | nil => intro xs _ _ q; cases q; rfl
  | cons d l ih =>
    intro xs c qv q
    cases q with
    | cons q1 q2 =>
      simp only [List.all_cons, Bool.and_eq_true] at c
      have e := ih c.2 qv q2
      unfold inV inD at *
      rw [List.any_cons, List.any_cons, eqV_of c.1 cx q1 qv, e]
theorem any_pys (px : plain x = true) : ∀ {l : List D}, plains l = true → ((pys l).any fun y => PyData.eqv y (py x)) = inD x l := by
  intro l
  induction l with
  | nil => intro _; simp [pys, inD]
  | cons d l ih =>
    intro c
    have c' : plain d = true ∧ plains l = true := by simpa [plains] using c
    simp only [pys, List.any_cons, inD, eqv_py d x c'.1 px]
    rw [ih c'.2]
    rfl
theorem in_core (bn : Bn0 X G) {y : D} {u w : V} {vu vw : Value} {pins : List (Addr × Obj)} {σ : L2.St} {s : Shared} {b : Bool} (I : Inv X pins σ H s) (r0 : Rs G F ι h H) (qx : Rel G F ι x u) (qy : Rel G F ι y w) (rx : RelV u vu) (ry : RelV w vw)
    (e : valIn x y h = some b) :
    (∀ Q : VK, Q (.bl b) H → wpAny (model X.prog X.w) X.A (compareOp .In vu vw) (EP X pins σ Q) X.xe s) ∧ (∀ Q : VK, Q (.bl (!b)) H → wpAny (model X.prog X.w) X.A (compareOp .NotIn vu vw) (EP X pins σ Q) X.xe s) := by
  by_cases hy : ∃ z, y = .str z
  · obtain ⟨z, rfl⟩ := hy
    cases x with
    | str a =>
      have e : (match a.cps.toList with | [c] => some (decide (c ∈ z.cps.toList)) | _ => none) = some b := e
      split at e
      · rename_i c hc
        cases e
        cases qx
        cases qy
        have ea : a = ⟨#[c]⟩ := by
          cases a
          simp only [PySem.Str.mk.injEq]
          apply Array.ext'
          exact hc
        subst ea
        exact ⟨fun Q q => op_in_sign pins s σ H _ _ vu vw Q I rx ry ⟨c, _, rfl, rfl, q⟩, fun Q q => op_notIn_sign pins s σ H _ _ vu vw Q I rx ry ⟨c, _, rfl, rfl, q⟩⟩
      · cases e
    | _ => cases e
  · have e : (match seqD y h with | some l => if okIn x l = true then some (inD x l) else none | none => none) = some b := by
      cases y <;> first | exact e | exact absurd ⟨_, rfl⟩ hy
    split at e
    · rename_i l hl
      split at e
      · rename_i c
        cases e
        obtain ⟨a, xs, rfl, hs, hr⟩ := seqD_at bn r0 hl qy
        by_cases fl : (scalF x && l.all scalF) = true
        · simp only [Bool.and_eq_true] at fl
          have e1 := inV_of (G := G) (F := F) (ι := ι) fl.1 fl.2 qx hr
          exact ⟨fun Q q => op_in_seq pins s σ H _ _ vu vw Q I rx ry ⟨a, xs, rfl, hs, flat_of fl.1 qx, flats_of fl.2 hr, by simp only [Bool.false_eq_true, if_false]; rw [e1]; exact q⟩,
            fun Q q => op_notIn_seq pins s σ H _ _ vu vw Q I rx ry ⟨a, xs, rfl, hs, flat_of fl.1 qx, flats_of fl.2 hr, by simp only [if_true]; rw [e1]; exact q⟩⟩
        · have c' : (plain x && plains l && decide (min (deps l) (dep x) ≤ 63)) = true := by simpa [okIn, fl] using c
          simp only [Bool.and_eq_true, decide_eq_true_eq] at c'
          have d1 := dp_of r0 x u c'.1.1 qx
          have d2 := dps_of r0 l xs c'.1.2 hr
          rw [← bn.K] at d1 d2
          obtain ⟨bs, g1⟩ := Dp.reads I _ u vu d1 rx
          have hu : X.A.units + 1 + min (PyData.depthAll (pys l)) (py x).depth < cLine := by
            rw [dep_py, dep_pys]
            have := bn.un
            omega
          have cl := canLay_pys l c'.1.2
          have cx := canLay_py x c'.1.1
          rcases hs with hs | hs
          · obtain ⟨as, g2⟩ := Dp.reads I (.list (pys l)) _ vw (.lst hs d2) ry
            exact ⟨fun Q q => SeqAt.in_list_reads g2 g1 cl cx hu ⟨.bl _, H, I, rfl, by rw [any_pys c'.1.1 c'.1.2]; exact q⟩, fun Q q => SeqAt.notIn_list_reads g2 g1 cl cx hu ⟨.bl _, H, I, rfl, by rw [any_pys c'.1.1 c'.1.2]; exact q⟩⟩
          · obtain ⟨as, g2⟩ := Dp.reads I (.tuple (pys l)) _ vw (.tup hs d2) ry
            exact ⟨fun Q q => SeqAt.in_tuple_reads g2 g1 cl cx hu ⟨.bl _, H, I, rfl, by rw [any_pys c'.1.1 c'.1.2]; exact q⟩, fun Q q => SeqAt.notIn_tuple_reads g2 g1 cl cx hu ⟨.bl _, H, I, rfl, by rw [any_pys c'.1.1 c'.1.2]; exact q⟩⟩
      · cases e
    · cases e
theorem or_in (bn : Bn0 X G) : OpR X (compareOp .In) (rOf G opIn) := by
  intro pins s σ H x y v u Q I rx ry ⟨dx, dy, h, F, ι, r0, qx, qy, d, e, q⟩
  unfold opIn at e
  cases e1 : valIn dx dy h with
  | none => rw [e1] at e; cases e
  | some b =>
    rw [e1] at e
    cases e
    exact (in_core bn I r0 qx qy rx ry e1).1 Q (q _ _ _ _ (Stp.refl _ _ _) r0 (.bl _))
theorem or_notin (bn : Bn0 X G) : OpR X (compareOp .NotIn) (rOf G opNotIn) := by
  intro pins s σ H x y v u Q I rx ry ⟨dx, dy, h, F, ι, r0, qx, qy, d, e, q⟩
  unfold opNotIn at e
  cases e1 : valIn dx dy h with
  | none => rw [e1] at e; cases e
  | some b =>
    rw [e1] at e
    cases e
    exact (in_core bn I r0 qx qy rx ry e1).2 Q (q _ _ _ _ (Stp.refl _ _ _) r0 (.bl _))
end

/-! ### subscripts, slices -/
def atD (l : List D) (i : Int) : Option D := atI l i
def opIx : Op2 := fun x y h => match y with
  | .int i => match x with
    | .str z => if z.length ≤ sizeLine then (atI z.cps.toList i).map fun c => .str ⟨#[c]⟩ else none
    | x => match seqD x h with
      | some l => atI l i
      | none => none
  | _ => none
section
variable {X : Cx} {G : Gn} {W : WX} {k : Nat} {F : Hp} {ι : List Addr} {a b : Expr} {fa fb : EV} {pos : Pos}
theorem atI_rel {l : List D} {xs : List V} (r : RelL G F ι l xs) {i : Int} {d : D} (e : atI l i = some d) : ∃ v, atI xs i = some v ∧ Rel G F ι d v := by
  unfold atI at e ⊢
  rw [← r.len]
  cases q : ixN l.length i with
  | none => rw [q] at e; cases e
  | some j =>
    rw [q] at e
    have e : l[j]? = some d := e
    obtain ⟨v, h1, h2⟩ := r.get' e
    exact ⟨v, h1, h2⟩
theorem ir_seq (bn : Bn0 X G) : IxR X (rOf G opIx) := by
  intro value slice pins s σ H x y v u Q I rx ry ⟨dx, dy, h, F, ι, r0, qx, qy, d, e, q⟩ hs
  cases dy with
  | int i =>
    cases qy
    by_cases hx : ∃ z, dx = .str z
    · obtain ⟨z, rfl⟩ := hx
      have e : (if z.length ≤ sizeLine then (atI z.cps.toList i).map fun c => D.str ⟨#[c]⟩ else none) = some d := e
      split at e
      · rename_i hz
        cases qx
        cases e1 : atI z.cps.toList i with
        | none => rw [e1] at e; cases e
        | some c =>
          rw [e1] at e
          cases e
          exact ix_str value slice pins s σ H _ _ v u Q I rx ry ⟨z, i, c, rfl, rfl, hz, e1, q _ _ _ _ (Stp.refl _ _ _) r0 (.str _)⟩ hs
      · cases e
    · have e : (match seqD dx h with | some l => atI l i | none => none) = some d := by
        cases dx <;> first | exact e | exact absurd ⟨_, rfl⟩ hx
      split at e
      · rename_i l hl
        obtain ⟨a, xs, rfl, hq, hr⟩ := seqD_at bn r0 hl qx
        obtain ⟨w, h1, h2⟩ := atI_rel hr e
        rcases hq with hq | hq
        · exact ix_list value slice pins s σ H _ _ v u Q I rx ry ⟨a, xs, _, w, rfl, rfl, hq, h1, q _ _ _ _ (Stp.refl _ _ _) r0 h2⟩ hs
        · exact ix_tup value slice pins s σ H _ _ v u Q I rx ry ⟨a, xs, _, w, rfl, rfl, hq, h1, q _ _ _ _ (Stp.refl _ _ _) r0 h2⟩ hs
      · cases e
  | _ => cases e
theorem q_ix (bn : Bn0 X G) (ha : QE X G W a fa) (hb : QE X G W b fb) (hs : PlainIx b := by intro _ _; rfl) : QE X G W (.Subscript a b pos) (eOp opIx fa fb) := qe_of (pe_ix (ir_seq bn) ha hb hs) fun _ _ _ => tOp_of

/-- a slice's part -/
abbrev PV := Rho → Hs → R (Option Int)
def relP : Hp → List Addr → Option Int → Option Int → Prop := fun _ _ a b => a = b
def tPp (G : Gn) (W : WX) (f : PV) : TO := fun σ H Q => ∃ ρ h F ι, RelS G F ι ρ σ ∧ Rs G F ι h H ∧ Pst G F ι H relP (fun c H' => W (.ref (G.cl c)) none σ H') (f ρ h) Q
def QP (X : Cx) (G : Gn) (W : WX) (e : Option Expr) (f : PV) : Prop := PO X e (tPp G W f)
def pNone : PV := fun _ h => .ok none h
def pSome (f : EV) : PV := fun ρ h => (f ρ h).bind fun d h1 => match d with
  | .int i => .ok (some i) h1
  | _ => .no
theorem qp_none : QP X G W none pNone := ⟨fun pins s σ H Q I ⟨ρ, h, F, ι, rs, r0, p⟩ => po_none.run pins s σ H Q I (Pst.okk p r0 rfl)⟩
theorem qp_some (ha : QE X G W a fa) : QP X G W (some a) (pSome fa) := by
  have h := po_some ha
  refine ⟨fun pins s σ H Q I q => h.run pins s σ H Q I ?_⟩
  obtain ⟨ρ, h, F, ι, rs, r0, p⟩ := q
  refine ⟨ρ, h, F, ι, rs, r0, p.bind fun d h1 v H1 F1 ι1 e1 r1 q1 p1 => ?_⟩
  cases d with
  | int i =>
    cases q1
    exact ⟨i, rfl, Pst.okk p1 r1 rfl⟩
  | _ => exact p1.elim
def cutD (l : List D) (lo hi : Option Int) : List D := (l.drop (HT.sIx l.length 0 lo)).take (HT.sIx l.length l.length hi - HT.sIx l.length 0 lo)
def opSl (x : D) (lo hi : Option Int) (h : Hs) : Option D := match x with
  | .str z => if z.length ≤ sizeLine then some (.str (cutS z lo hi)) else none
  | .tup l => some (.tup (cutD l lo hi))
  | x => match lstD x h with
    | some l => some (.lst (cutD l lo hi))
    | none => none
def eSl (fa : EV) (lo hi : PV) : EV := fun ρ h => (fa ρ h).bind fun x h1 => (lo ρ h1).bind fun l h2 => (hi ρ h2).bind fun u h3 => match opSl x l u h3 with
  | some d => .ok d h3
  | none => .no
theorem cut_rel {l : List D} {xs : List V} (r : RelL G F ι l xs) (lo hi : Option Int) : RelL G F ι (cutD l lo hi) (cutV xs lo hi) := by
  unfold cutD cutV
  rw [← r.len]
  exact (r.drop _).take _
theorem cut_whole {l : List D} {xs : List V} {lo hi : Option Int} (r : RelL G F ι l xs) (z : HT.sIx xs.length 0 lo = 0 ∧ HT.sIx xs.length xs.length hi = xs.length) : cutD l lo hi = l := by
  unfold cutD
  rw [r.len, z.1, z.2, List.drop_zero, Nat.sub_zero, ← r.len, List.take_length]
theorem q_sl (bn : Bn0 X G) {lo hi : Option Expr} {fl fh : PV} {p2 : Pos} (ha : QE X G W a fa) (hl : QP X G W lo fl) (hh : QP X G W hi fh) : QE X G W (.Subscript a (.Slice lo hi none p2) pos) (eSl fa fl fh) := by
  have sr : SlR X (fun x lo hi H Q => rSlS x lo hi H Q ∨ rSlA X.K x lo hi H Q ∨ rSlL X.K x lo hi H Q) := sl_str.or (sl_tupA.or sl_list)
  refine qe_of (pe_slice sr ha hl hh) fun σ H Q ⟨ρ, h, F, ι, rs, r0, p⟩ => tE.bind rs r0 p fun d h1 v H1 F1 ι1 e1 r1 q1 p1 => ?_
  refine ⟨ρ, h1, F1, ι1, rs.ext e1.toExt, r1, p1.bind fun l h2 l' H2 F2 ι2 e2 r2 q2 p2 => ?_⟩
  cases q2
  refine ⟨ρ, h2, F2, ι2, (rs.ext e1.toExt).ext e2.toExt, r2, p2.bind fun u h3 u' H3 F3 ι3 e3 r3 q3 p3 => ?_⟩
  cases q3
  have q1' := q1.ext (e2.trans e3).toExt
  cases e : opSl d l u h3 with
  | none => simp only [e] at p3; exact p3.elim
  | some z =>
    simp only [e] at p3
    unfold opSl at e
    split at e
    · split at e
      · cases e
        cases q1'
        exact .inl ⟨_, rfl, by assumption, Pst.okk p3 r3 (.str _)⟩
      · cases e
    · cases e
      cases q1' with
      | tup hq hr =>
        rename_i l0 a xs
        refine .inr (.inl ⟨a, xs, rfl, by rw [bn.K]; exact r3.sqT hq, fun z => ?_, fun z q hq2 => ?_⟩)
        · rw [cut_whole hr z] at p3
          exact Pst.okk p3 r3 (.tup hq hr)
        · obtain ⟨F', e', r', q'⟩ := r3.layTup hq2 (cut_rel hr l u)
          exact p3 _ _ _ _ e' r' q'
    · split at e
      · rename_i l0 hl0
        cases e
        obtain ⟨a, xs, rfl, hq, hr⟩ := lstD_at r3 hl0 q1'
        refine .inr (.inr ⟨a, xs, rfl, by rw [bn.K]; exact hq, fun q hq2 => ?_⟩)
        obtain ⟨F', e', r', q'⟩ := r3.layLst hq2 (cut_rel hr l u)
        exact p3 _ _ _ _ e' r' q'
      · cases e

/-! ### built-in calls of one argument -/
abbrev Op1 := D → Hs → Option D
def eCal (op : Op1) (fa : EV) : EV := fun ρ h => (fa ρ h).bind fun x h1 => match op x h1 with
  | some d => .ok d h1
  | none => .no
def r1Of (G : Gn) (op : Op1) : List V → Hp → VK → Prop := fun xs H Q => ∃ x dx h F ι, xs = [x] ∧ Rs G F ι h H ∧ Rel G F ι dx x ∧ ∃ d, op dx h = some d ∧ ∀ v H' F' ι', Stp F ι H F' ι' H' → Rs G F' ι' h H' → Rel G F' ι' d v → Q v H'
theorem t1_of {op : Op1} {σ : L2.St} {H : Hp} {Q : VK} (q : tE G W (eCal op fa) σ H Q) : tCB (r1Of G op) (tCons (tE G W fa) tNil) σ H Q := by
  obtain ⟨ρ, h, F, ι, rs, r0, p⟩ := q
  refine tE.bind rs r0 p fun dx h1 x H1 F1 ι1 e1 r1 q1 p1 => ?_
  cases e : op dx h1 with
  | none => simp only [e] at p1; exact p1.elim
  | some d =>
    simp only [e] at p1
    exact ⟨x, dx, h1, F1, ι1, rfl, r1, q1, d, e, p1⟩
theorem q_callB {x : Str} {id : String} {op : Op1} {p : Pos} (hc : CallR X (.builtin id) (r1Of G op)) (hm : X.mg x = none) (hv : bootBuiltins x = some (.builtin id)) (ha : QE X G W a fa) (hg : Gl X x := by rfl)
    (hs : starEach [a] X.env = (false, eval a X.env) :: starEach [] X.env := by rfl) (hn : x ≠ "__name__" := by decide) (hd : (x == ("__debug__" : Str)) = false := by decide) :
    QE X G W (.Call (.Name x p) [a] [] pos) (eCal op fa) := qe_of (pe_callB hc hg hm hv (pa_cons ha pa_nil hs) hn hd hs) fun _ _ _ => t1_of
theorem q_callTy {x : Str} {T : String} {op : Op1} {p : Pos} (hc : CallR X (.type T) (r1Of G op)) (hm : X.mg x = none) (hv : bootBuiltins x = some (.type T)) (ha : QE X G W a fa) (hg : Gl X x := by rfl)
    (hs : starEach [a] X.env = (false, eval a X.env) :: starEach [] X.env := by rfl) (hn : x ≠ "__name__" := by decide) (hd : (x == ("__debug__" : Str)) = false := by decide) :
    QE X G W (.Call (.Name x p) [a] [] pos) (eCal op fa) := qe_of (pe_callTy hc hg hm hv (pa_cons ha pa_nil hs) hn hd hs) fun _ _ _ => t1_of
def opLen : Op1 := fun x h => match x with
  | .str z => if z.length ≤ sizeLine then some (.int z.length) else none
  | .dic l => some (.int l.length)
  | .dit l => some (.int l.length)
  | .ref i => match h[i]? with
    | some (.lst l) => some (.int l.length)
    | some (.dK l) => some (.int l.length)
    | some (.dT l) => some (.int l.length)
    | _ => none
  | x => match seqD x h with
    | some l => some (.int l.length)
    | none => none
end
end U
/-! built-ins by values -/
namespace U
open PySem PySem.Spec PyProof.Rows L2
section
variable {X : Cx} {G : Gn} {W : WX} {k : Nat} {F : Hp} {ι : List Addr} {h : Hs} {H : Hp} {a b : Expr} {fa fb : EV} {pos : Pos}

/-! ### len -/
def boxK (x : D) (h : Hs) : Option (List (Key × D)) := match x with
  | .ref i => match h[i]? with
    | some (.dK l) => some l
    | _ => none
  | _ => none
def opLenQ : Op1 := fun x h => match x with
  | .str z => if z.length ≤ sizeLine then some (.int z.length) else none
  | .dic l => some (.int l.length)
  | x => match seqD x h with
    | some l => some (.int l.length)
    | none => (boxK x h).map fun l => .int l.length
theorem boxK_at {d : D} {v : V} {l : List (Key × D)} (r : Rs G F ι h H) (e : boxK d h = some l) (q : Rel G F ι d v) : ∃ i a xs, d = .ref i ∧ h[i]? = some (.dK l) ∧ v = .ref a ∧ ι[i]? = some a ∧ H a = some (.dK xs) ∧ RelK G F ι l xs := by
  cases d with
  | ref i =>
    have e : (match h[i]? with | some (.dK l) => some l | _ => none) = some l := e
    cases ei : h[i]? with
    | none => rw [ei] at e; cases e
    | some o =>
      rw [ei] at e
      cases o with
      | dK m =>
        cases e
        cases q with
        | ref q1 =>
          obtain ⟨u, e1, e2⟩ := r.bx q1 ei
          cases u with
          | dK kvs => exact ⟨i, _, kvs, rfl, ei, rfl, q1, e1, e2⟩
          | _ => exact (show False from e2).elim
      | _ => cases e
  | _ => cases e
theorem relK_len {l : List (Key × D)} : ∀ {xs : List (Key × V)}, RelK G F ι l xs → l.length = xs.length := by
  induction l with
  | nil => intro xs h; cases h; rfl
  | cons p r ih => intro xs h; cases h with | cons h t => exact congrArg (· + 1) (ih t)
theorem cr_len (bn : Bn0 X G) : CallR X (.builtin "len") (r1Of G opLenQ) := by
  intro pins s σ H xs us Q I r hq
  obtain ⟨x, dx, h, F, ι, rfl, r0, qx, d, e, q⟩ := hq
  by_cases h1 : ∃ z, dx = .str z
  · obtain ⟨z, rfl⟩ := h1
    have e : (if z.length ≤ sizeLine then some (D.int z.length) else none) = some d := e
    split at e
    · cases e
      cases qx
      exact call_len_str pins s σ H _ us Q I r ⟨z, rfl, by assumption, q _ _ _ _ (Stp.refl _ _ _) r0 (.int _)⟩
    · cases e
  by_cases h2 : ∃ l, dx = .dic l
  · obtain ⟨l, rfl⟩ := h2
    have e : some (D.int l.length) = some d := e
    cases e
    cases qx with
    | dic q1 q2 =>
      obtain ⟨u, rfl, ru⟩ := vals1 r
      cases ru
      refine d_len I (r0.rd q1) fun t s' I' => ⟨.int _, H, I', ⟨t, rfl⟩, ?_⟩
      rw [← relK_len q2]
      exact q _ _ _ _ (Stp.refl _ _ _) r0 (.int _)
  have e : (match seqD dx h with
    | some l => some (D.int l.length)
    | none => (boxK dx h).map fun l => .int l.length) = some d := by
    cases dx <;> first | exact e | exact absurd ⟨_, rfl⟩ h1 | exact absurd ⟨_, rfl⟩ h2
  cases hl : seqD dx h with
  | some l =>
    rw [hl] at e
    cases e
    obtain ⟨a, xs, rfl, hq, hr⟩ := seqD_at bn r0 hl qx
    have hlen := hr.len
    refine call_len_seq pins s σ H _ us Q I r ⟨a, xs, rfl, hq, ?_⟩
    rw [← hlen]
    exact q _ _ _ _ (Stp.refl _ _ _) r0 (.int _)
  | none =>
    rw [hl] at e
    have e : (boxK dx h).map (fun l => D.int l.length) = some d := e
    cases hb : boxK dx h with
    | none => rw [hb] at e; cases e
    | some l =>
      rw [hb] at e
      cases e
      obtain ⟨i, a, kvs, rfl, _, rfl, _, e1, e2⟩ := boxK_at r0 hb qx
      obtain ⟨u, rfl, ru⟩ := vals1 r
      cases ru
      refine d_len I (.inl e1) fun t s' I' => ⟨.int _, H, I', ⟨t, rfl⟩, ?_⟩
      rw [← relK_len e2]
      exact q _ _ _ _ (Stp.refl _ _ _) r0 (.int _)

/-! ### isinstance -/
def tyD (d : D) (h : Hs) : Option String := match d with
  | .non => some "NoneType"
  | .bl _ => some "bool"
  | .int _ => some "int"
  | .str _ => some "str"
  | .tup _ => some "tuple"
  | .lst _ => some "list"
  | .dic _ => some "dict"
  | .ref i => match h[i]? with
    | some (.lst _) => some "list"
    | some (.dK _) => some "dict"
    | some (.dT _) => some "dict"
    | _ => none
  | _ => none
def isI (a b : String) : Bool := a == b || (a == "bool" && b == "int")
theorem kit_all : (["NoneType", "bool", "int", "str", "tuple", "list", "dict"].all fun a => ["int", "str", "bool", "tuple", "list", "dict"].all fun b => decide (kitB a b = some (isI a b))) = true := by decide +kernel
theorem kit_of_two {a b : String} (ha : a ∈ ["NoneType", "bool", "int", "str", "tuple", "list", "dict"]) (hb : b ∈ ["int", "str", "bool", "tuple", "list", "dict"]) : kitB a b = some (isI a b) := by
  have h := List.all_eq_true.mp kit_all a ha
  have h2 := List.all_eq_true.mp h b hb
  exact of_decide_eq_true h2
theorem tyD_at (bn : Bn0 X G) {d : D} {v : V} {t : String} (r : Rs G F ι h H) (e : tyD d h = some t) (q : Rel G F ι d v) : TyX X.K H v (.type t) ∧ t ∈ ["NoneType", "bool", "int", "str", "tuple", "list", "dict"] := by
  cases d with
  | non => cases q; cases e; exact ⟨.base .non, by simp⟩
  | bl b => cases q; cases e; exact ⟨.base (.bl b), by simp⟩
  | int i => cases q; cases e; exact ⟨.base (.int i), by simp⟩
  | str x => cases q; cases e; exact ⟨.base (.str x), by simp⟩
  | tup l =>
    cases e
    refine ⟨?_, by simp⟩
    cases q with
    | tup h1 _ =>
      have h2 := r.sqT h1
      rw [← bn.K] at h2
      rcases h2 with (h2 | ⟨o, h2⟩) | ⟨o, its, n, h2, h3, _⟩
      · exact .base (.tup h2)
      · exact .fTuple h2
      · exact .kTuple h2 h3
  | lst l =>
    cases e
    refine ⟨?_, by simp⟩
    cases q with
    | lst h1 _ =>
      have h2 := r.sqL h1
      rw [← bn.K] at h2
      rcases h2 with (h2 | ⟨o, h2⟩) | ⟨o, its, n, h2, h3, _⟩
      · exact .base (.lst h2)
      · exact .base (.frz h2)
      · exact .kList h2 h3
  | dic l =>
    cases e
    refine ⟨?_, by simp⟩
    cases q with
    | dic h1 _ =>
      rcases r.rd h1 with h2 | ⟨o, h2⟩
      · exact .base (.dK h2)
      · exact .fDict h2
  | ref i =>
    cases q with
    | ref q1 =>
      have e : (match h[i]? with | some (.lst _) => some "list" | some (.dK _) => some "dict" | some (.dT _) => some "dict" | _ => none) = some t := e
      cases ei : h[i]? with
      | none => rw [ei] at e; cases e
      | some o =>
        rw [ei] at e
        obtain ⟨u, e1, e2⟩ := r.bx q1 ei
        cases o with
        | lst m =>
          cases e
          cases u with
          | lst xs => exact ⟨.base (.lst e1), by simp⟩
          | _ => exact (show False from e2).elim
        | dK m =>
          cases e
          cases u with
          | dK xs => exact ⟨.base (.dK e1), by simp⟩
          | _ => exact (show False from e2).elim
        | dT m =>
          cases e
          cases u with
          | dT xs => exact ⟨.base (.dT e1), by simp⟩
          | _ => exact (show False from e2).elim
        | _ => cases e
  | _ => cases e
def opIsi (n : String) : Op1 := fun d h => (tyD d h).map fun t => .bl (isI t n)
theorem q_isi (bn : Bn0 X G) {n : String} {T : Str} {p p2 : Pos} (hb : n ∈ ["int", "str", "bool", "tuple", "list", "dict"]) (hm : X.mg "isinstance" = none) (hT : X.mg T = none) (hv : bootBuiltins T = some (.type n)) (ha : QE X G W a fa)
    (hg : Gl X "isinstance" := by rfl) (hg2 : Gl X T := by rfl) (hn : T ≠ "__name__" := by decide) (hd : (T == ("__debug__" : Str)) = false := by decide) (hs : starEach [a, .Name T p2] X.env = (false, eval a X.env) :: starEach [.Name T p2] X.env := by rfl) :
    QE X G W (.Call (.Name "isinstance" p) [a, .Name T p2] [] pos) (eCal (opIsi n) fa) := by
  have h2 : PE X (.Name T p2) (tC (.ty n)) := pe_bltn hg2 hT hv rfl hn hd
  refine qe_of (pe_callB call_isi hg hm boot_isinstance (pa_cons ha (pa_cons h2 pa_nil) hs) (by decide) (by decide) hs) fun σ H Q ⟨ρ, h, F, ι, rs, r0, p⟩ => tE.bind rs r0 p fun dx h1 x H1 F1 ι1 e1 r1 q1 p1 => ?_
  cases e : opIsi n dx h1 with
  | none => simp only [e] at p1; exact p1.elim
  | some d =>
    simp only [e] at p1
    unfold opIsi at e
    cases et : tyD dx h1 with
    | none => rw [et] at e; cases e
    | some t =>
      rw [et] at e
      cases e
      obtain ⟨ty, mem⟩ := tyD_at bn r1 et q1
      exact ⟨x, .ty n, .type t, .type n, isI t n, rfl, .ty n, ty, kit_ty (kit_of_two mem hb), Pst.okk p1 r1 (.bl _)⟩

/-! ### all, any -/
def boolsD : List D → Option (List Bool)
  | [] => some []
  | .bl b :: l => (boolsD l).map (b :: ·)
  | _ => none
theorem bools_at {l : List D} : ∀ {bs : List Bool} {xs : List V}, boolsD l = some bs → RelL G F ι l xs → xs = bs.map V.bl := by
  induction l with
  | nil => intro bs xs e q; cases q; cases e; rfl
  | cons d l ih =>
    intro bs xs e q
    cases q with
    | cons q1 q2 =>
      cases d with
      | bl b =>
        cases q1
        have e : (boolsD l).map (b :: ·) = some bs := e
        cases e1 : boolsD l with
        | none => rw [e1] at e; cases e
        | some cs =>
          rw [e1] at e
          cases e
          rw [ih e1 q2]
          rfl
      | _ => cases e
def opAll : Op1 := fun x h => (lstD x h).bind fun l => (boolsD l).map fun bs => .bl (bs.all id)
def opAny : Op1 := fun x h => (lstD x h).bind fun l => (boolsD l).map fun bs => .bl (bs.any id)
theorem cr_allD (bn : Bn X G W k) : CallR X (.builtin "all") (r1Of G opAll) := by
  intro pins s σ H xs us Q I r hq
  obtain ⟨x, dx, h, F, ι, rfl, r0, qx, d, e, q⟩ := hq
  unfold opAll at e
  cases e1 : lstD dx h with
  | none => rw [e1] at e; cases e
  | some l =>
    rw [e1] at e
    have e : (boolsD l).map (fun bs => D.bl (bs.all id)) = some d := e
    cases e2 : boolsD l with
    | none => rw [e2] at e; cases e
    | some bs =>
      rw [e2] at e
      cases e
      obtain ⟨a, xs, rfl, h1, h2⟩ := lstD_at r0 e1 qx
      rw [bools_at e2 h2] at h1
      exact cr_all bn.calm pins s σ H _ us Q I r ⟨a, bs, rfl, by rw [bn.K]; exact h1, q _ _ _ _ (Stp.refl _ _ _) r0 (.bl _)⟩
theorem cr_anyD (bn : Bn X G W k) : CallR X (.builtin "any") (r1Of G opAny) := by
  intro pins s σ H xs us Q I r hq
  obtain ⟨x, dx, h, F, ι, rfl, r0, qx, d, e, q⟩ := hq
  unfold opAny at e
  cases e1 : lstD dx h with
  | none => rw [e1] at e; cases e
  | some l =>
    rw [e1] at e
    have e : (boolsD l).map (fun bs => D.bl (bs.any id)) = some d := e
    cases e2 : boolsD l with
    | none => rw [e2] at e; cases e
    | some bs =>
      rw [e2] at e
      cases e
      obtain ⟨a, xs, rfl, h1, h2⟩ := lstD_at r0 e1 qx
      rw [bools_at e2 h2] at h1
      exact cr_any bn.calm pins s σ H _ us Q I r ⟨a, bs, rfl, by rw [bn.K]; exact h1, q _ _ _ _ (Stp.refl _ _ _) r0 (.bl _)⟩

/-! ### tuple, list, int -/
def opTuple : Op1 := fun x h => (seqD x h).map .tup
def opList : Op1 := fun x h => (seqD x h).map .lst
def opInt : Op1 := fun x _ => match x with
  | .int i => some (.int i)
  | .bl b => some (.int (if b then 1 else 0))
  | _ => none
theorem ct_tuple (bn : Bn0 X G) : CallR X (.type "tuple") (r1Of G opTuple) := by
  intro pins s σ H xs us Q I r hq
  obtain ⟨x, dx, h, F, ι, rfl, r0, qx, d, e, q⟩ := hq
  unfold opTuple at e
  cases e1 : seqD dx h with
  | none => rw [e1] at e; cases e
  | some l =>
    rw [e1] at e
    cases e
    obtain ⟨a, xs, rfl, h1, h2⟩ := seqD_at bn r0 e1 qx
    by_cases ht : ∃ l, dx = .tup l
    · obtain ⟨m, rfl⟩ := ht
      cases e1
      cases qx with
      | tup h3 h4 => exact call_tuple_of pins s σ H _ us Q I r ⟨a, _, rfl, .inr ⟨by rw [bn.K]; exact r0.sqT h3, q _ _ _ _ (Stp.refl _ _ _) r0 (.tup h3 h4)⟩⟩
    · have e2 : lstD dx h = some l := by cases dx <;> first | exact e1 | exact absurd ⟨_, rfl⟩ ht
      obtain ⟨a', xs', ea, h3, h4⟩ := lstD_at r0 e2 qx
      cases ea
      refine call_tuple_of pins s σ H _ us Q I r ⟨a, xs', rfl, .inl ⟨by rw [bn.K]; exact h3, fun p hp => ?_⟩⟩
      obtain ⟨F', e', r', q'⟩ := r0.layTup hp h4
      exact q _ _ _ _ e' r' q'
theorem ct_list (bn : Bn0 X G) : CallR X (.type "list") (r1Of G opList) := by
  intro pins s σ H xs us Q I r hq
  obtain ⟨x, dx, h, F, ι, rfl, r0, qx, d, e, q⟩ := hq
  unfold opList at e
  cases e1 : seqD dx h with
  | none => rw [e1] at e; cases e
  | some l =>
    rw [e1] at e
    cases e
    obtain ⟨a, xs, rfl, h1, h2⟩ := seqD_at bn r0 e1 qx
    refine call_list_of pins s σ H _ us Q I r ⟨a, xs, rfl, h1, fun p hp => ?_⟩
    obtain ⟨F', e', r', q'⟩ := r0.layLst hp h2
    exact q _ _ _ _ e' r' q'
theorem ct_int : CallR X (.type "int") (r1Of G opInt) := by
  intro pins s σ H xs us Q I r hq
  obtain ⟨x, dx, h, F, ι, rfl, r0, qx, d, e, q⟩ := hq
  cases dx with
  | int i =>
    cases e
    cases qx
    exact call_int1 pins s σ H _ us Q I r (.inl ⟨i, rfl, q _ _ _ _ (Stp.refl _ _ _) r0 (.int _)⟩)
  | bl b =>
    cases e
    cases qx
    exact call_int1 pins s σ H _ us Q I r (.inr ⟨b, rfl, q _ _ _ _ (Stp.refl _ _ _) r0 (.int _)⟩)
  | _ => cases e

/-! ### built-in calls of two arguments -/
def r2Of (G : Gn) (op : Op2) : List V → Hp → VK → Prop := fun xs H Q => ∃ x y dx dy h F ι, xs = [x, y] ∧ Rs G F ι h H ∧ Rel G F ι dx x ∧ Rel G F ι dy y ∧ ∃ d, op dx dy h = some d ∧ ∀ v H' F' ι', Stp F ι H F' ι' H' → Rs G F' ι' h H' → Rel G F' ι' d v → Q v H'
theorem q_callB2 {x : Str} {id : String} {op : Op2} {p : Pos} (hc : CallR X (.builtin id) (r2Of G op)) (hm : X.mg x = none) (hv : bootBuiltins x = some (.builtin id)) (ha : QE X G W a fa) (hb : QE X G W b fb) (hg : Gl X x := by rfl)
    (hs : starEach [a, b] X.env = (false, eval a X.env) :: starEach [b] X.env := by rfl) (hs2 : starEach [b] X.env = (false, eval b X.env) :: starEach [] X.env := by rfl) (hpl : (backTo pos (starEach [b] X.env)).any (·.1) = false := by rfl)
    (hn : x ≠ "__name__" := by decide) (hd : (x == ("__debug__" : Str)) = false := by decide) :
    QE X G W (.Call (.Name x p) [a, b] [] pos) (eOp op fa fb) := by
  refine qe_of (pe_callB hc hg hm hv (pa_cons ha (pa_cons hb pa_nil hs2) hs) hn hd hs hpl) fun σ H Q q => ?_
  obtain ⟨ρ, h, F, ι, rs, r0, p⟩ := q
  refine tE.bind rs r0 p fun dx h1 x H1 F1 ι1 e1 r1 q1 p1 => ?_
  refine tE.bind (rs.ext e1.toExt) r1 p1 fun dy h2 y H2 F2 ι2 e2 r2 q2 p2 => ?_
  cases e : op dx dy h2 with
  | none => simp only [e] at p2; exact p2.elim
  | some d =>
    simp only [e] at p2
    exact ⟨x, y, dx, dy, h2, F2, ι2, rfl, r2, q1.ext e2.toExt, q2, d, e, p2⟩
def opMin : Op2 := fun x y _ => match x, y with
  | .int i, .int j => some (.int (if j < i then j else i))
  | _, _ => none
def opMax : Op2 := fun x y _ => match x, y with
  | .int i, .int j => some (.int (if j > i then j else i))
  | _, _ => none
theorem cr_minD (bn : Bn X G W k) : CallR X (.builtin "min") (r2Of G opMin) := by
  intro pins s σ H xs us Q I r hq
  obtain ⟨x, y, dx, dy, h, F, ι, rfl, r0, qx, qy, d, e, q⟩ := hq
  unfold opMin at e
  split at e
  · cases e
    cases qx
    cases qy
    exact call_min2 bn.calm pins s σ H _ us Q I r ⟨_, _, rfl, q _ _ _ _ (Stp.refl _ _ _) r0 (.int _)⟩
  · cases e
theorem cr_maxD (bn : Bn X G W k) : CallR X (.builtin "max") (r2Of G opMax) := by
  intro pins s σ H xs us Q I r hq
  obtain ⟨x, y, dx, dy, h, F, ι, rfl, r0, qx, qy, d, e, q⟩ := hq
  unfold opMax at e
  split at e
  · cases e
    cases qx
    cases qy
    exact call_max2 bn.calm pins s σ H _ us Q I r ⟨_, _, rfl, q _ _ _ _ (Stp.refl _ _ _) r0 (.int _)⟩
  · cases e

/-! ### join -/
def strsD : List D → Option (List Str)
  | [] => some []
  | .str x :: l => (strsD l).map (x :: ·)
  | _ => none
theorem strs_at {l : List D} : ∀ {bs : List Str} {xs : List V}, strsD l = some bs → RelL G F ι l xs → xs = bs.map V.str := by
  induction l with
  | nil => intro bs xs e q; cases q; cases e; rfl
  | cons d l ih =>
    intro bs xs e q
    cases q with
    | cons q1 q2 =>
      cases d with
      | str b =>
        cases q1
        have e : (strsD l).map (b :: ·) = some bs := e
        cases e1 : strsD l with
        | none => rw [e1] at e; cases e
        | some cs =>
          rw [e1] at e
          cases e
          rw [ih e1 q2]
          rfl
      | _ => cases e
def opJoin : Op2 := fun x y h => match x with
  | .str a => (seqD y h).bind fun l => (strsD l).bind fun ys => if (ys.map (·.length)).sum + ys.length * a.length ≤ 16777216 then some (.str (Txt.join a ys)) else none
  | _ => none
theorem q_join (bn : Bn0 X G) {apos : Pos} (ha : QE X G W a fa) (hb : QE X G W b fb) (hstr : ∀ ρ h d h', fa ρ h = .ok d h' → ∃ z, d = .str z) (hs : starEach [b] X.env = [(false, eval b X.env)] := by rfl) (hbase : attributeBase a "join" X.env (eval a X.env) = eval a X.env := by rfl)
    (hline : (apos.endLine == pos.line) = true := by rfl) : QE X G W (.Call (.Attribute a "join" apos) [b] [] pos) (eOp opJoin fa fb) := by
  refine qe_of (pe_join ha hb hs hbase hline) fun σ H Q q => ?_
  obtain ⟨ρ, h, F, ι, rs, r0, p⟩ := q
  have hst := hstr ρ h
  unfold eOp at p
  refine ⟨ρ, h, F, ι, rs, r0, ?_⟩
  cases ef : fa ρ h with
  | no => rw [ef] at p; exact p.elim
  | er c h' => rw [ef] at p; exact p
  | ok dx h1 =>
    rw [ef] at p
    obtain ⟨z, rfl⟩ := hst _ _ ef
    intro x H1 F1 ι1 e1 r1 q1
    cases q1
    refine ⟨⟨z, rfl⟩, tE.bind (rs.ext e1.toExt) r1 (Pst.ext e1 p) fun dy h2 y H2 F2 ι2 e2 r2 q2 p2 => ?_⟩
    cases e : opJoin (.str z) dy h2 with
    | none => simp only [e] at p2; exact p2.elim
    | some d =>
      simp only [e] at p2
      have e : (seqD dy h2).bind (fun l => (strsD l).bind fun ys => if (ys.map (·.length)).sum + ys.length * z.length ≤ 16777216 then some (D.str (Txt.join z ys)) else none) = some d := e
      cases e3 : seqD dy h2 with
      | none => rw [e3] at e; cases e
      | some l =>
        rw [e3] at e
        have e : (strsD l).bind (fun ys => if (ys.map (·.length)).sum + ys.length * z.length ≤ 16777216 then some (D.str (Txt.join z ys)) else none) = some d := e
        cases e4 : strsD l with
        | none => rw [e4] at e; cases e
        | some ys =>
          rw [e4] at e
          have e : (if (ys.map (·.length)).sum + ys.length * z.length ≤ 16777216 then some (D.str (Txt.join z ys)) else none) = some d := e
          split at e
          · cases e
            obtain ⟨a, xs, rfl, h3, h4⟩ := seqD_at bn r2 e3 q2
            rw [strs_at e4 h4] at h3
            exact ⟨z, a, ys, rfl, rfl, h3, by assumption, Pst.okk p2 r2 (.str _)⟩
          · cases e
end
end U
/-! what a loop walks; loops, comprehensions, whiles -/
namespace U
open PySem PySem.Spec PyProof.Rows L2 RZ

/-! ### targets -/
inductive Tg where
  | nm (i : Nat) | tp (is : List Nat)
def setV : List Nat → List V → L2.St → L2.St
  | i :: is, x :: xs, σ => setV is xs (σ.set i (some x))
  | _, _, σ => σ
def setD : List Nat → List D → Rho → Rho
  | i :: is, x :: xs, ρ => setD is xs (ρ.set i (some x))
  | _, _, ρ => ρ
def Tg.set : Tg → D → Rho → Option Rho
  | .nm i, d, ρ => some (ρ.set i (some d))
  | .tp is, .tup ds, ρ => if ds.length = is.length then some (setD is ds ρ) else none
  | _, _, _ => none
def tgR (K : PySem.W.Frag) : Tg → TG
  | .nm i => gName i
  | .tp is => fun v σ H Q => ∃ a xs, v = .ref a ∧ SqT K H a xs ∧ xs.length = is.length ∧ Q (setV is xs σ) H
def QG (X : Cx) (G : Gn) (e : Expr) (t : Tg) : Prop := PG X e (tgR G.K t)
def gAll (is : List Nat) : TGs := fun vs σ H Q => vs.length = is.length ∧ Q (setV is vs σ) H
section
variable {X : Cx} {G : Gn} {W : WX} {k : Nat} {F : Hp} {ι : List Addr} {h : Hs} {H : Hp} {a b e : Expr} {fa fb : EV} {pos : Pos}
theorem qg_name (hN : X.N.Nodup) {i : Nat} {x : Str} (hi : X.N[i]? = some x := by rfl) (hx : Loc X.env.scope x := by first | exact Or.inl rfl | exact Or.inr rfl) (hf : X.fn x = true ∨ X.env.scope.names.lookup x = some .local := by first | exact .inl rfl | exact .inr rfl | assumption) : QG X G (.Name x pos) (.nm i) := pg_name hN hi hx hf
theorem pgs_all_nil : PGs X [] (gAll []) := ⟨fun pins s σ H vs us Q I r h => pgs_nil.run pins s σ H vs us Q I r ⟨List.eq_nil_of_length_eq_zero h.1, by
  have e : vs = [] := List.eq_nil_of_length_eq_zero h.1
  have q := h.2
  rw [e] at q
  exact q⟩⟩
theorem pgs_all_cons {es : List Expr} {is : List Nat} {i : Nat} (h1 : PG X e (gName i)) (h2 : PGs X es (gAll is)) (hs : (assignEach (e :: es) X.env).map (·.2) = assign e X.env :: (assignEach es X.env).map (·.2) := by rfl) : PGs X (e :: es) (gAll (i :: is)) := by
  have h := pgs_cons h1 h2 hs
  refine ⟨fun pins s σ H vs us Q I r q => h.run pins s σ H vs us Q I r ?_⟩
  obtain ⟨q1, q2⟩ := q
  cases vs with
  | nil => simp at q1
  | cons v vs => exact ⟨v, vs, rfl, by simpa using q1, q2⟩
theorem qg_tup (bn : Bn X G W k) {es : List Expr} {is : List Nat} {kk : Nat} (h : PGs X es (gAll is)) (hn : (assignEach es X.env).length = is.length := by rfl) (hst : (assignEach es X.env).findIdx? (·.1) = none := by rfl) : QG X G (.Tuple es kk pos) (.tp is) := by
  have q := pg_tup (pos := pos) (k := kk) bn.calm h hn hst
  refine ⟨fun pins s σ H v u Q I r w => q.run pins s σ H v u Q I r ?_⟩
  obtain ⟨a, xs, e1, e2, e3, e4⟩ := w
  exact ⟨a, xs, e1, by rw [bn.K]; exact e2, e3, e3, e4⟩
theorem RelS.setAll : ∀ {is : List Nat} {ds : List D} {xs : List V} {ρ : Rho} {σ : L2.St}, RelS G F ι ρ σ → RelL G F ι ds xs → RelS G F ι (setD is ds ρ) (setV is xs σ) := by
  intro is
  induction is with
  | nil => intro ds xs ρ σ r q; cases ds <;> cases xs <;> exact r
  | cons i is ih =>
    intro ds xs ρ σ r q
    cases q with
    | nil => exact r
    | cons q1 q2 => exact ih (r.set q1) q2
theorem tg_ok {t : Tg} {d : D} {x : V} {ρ ρ' : Rho} {σ : L2.St} {Q : L2.St → Hp → Prop} (e : t.set d ρ = some ρ') (q : Rel G F ι d x) (rs : RelS G F ι ρ σ) (r : Rs G F ι h H) (hk : ∀ σ', RelS G F ι ρ' σ' → Q σ' H) : tgR G.K t x σ H Q := by
  cases t with
  | nm i =>
    cases e
    exact hk _ (rs.set q)
  | tp is =>
    cases d with
    | tup ds =>
      have e : (if ds.length = is.length then some (setD is ds ρ) else none) = some ρ' := e
      split at e
      · cases e
        cases q with
        | tup h1 h2 =>
          refine ⟨_, _, rfl, r.sqT h1, ?_, hk _ (RelS.setAll rs h2)⟩
          rw [← h2.len]
          assumption
      · cases e
    | _ => cases e
/-- the slots that a target stores to -/
def Tg.ix : Tg → List Nat
  | .nm i => [i]
  | .tp is => is
theorem wipe_at {σ : L2.St} {j : Nat} : ∀ {vs : List Nat}, (wipe σ vs)[j]? = if j ∈ vs ∧ j < σ.length then some none else σ[j]? := by
  intro vs
  induction vs with
  | nil => simp [wipe]
  | cons v vs ih =>
    unfold wipe
    by_cases e : v = j
    · subst e
      by_cases hl : v < σ.length
      · rw [List.getElem?_set_self (by rw [wipe_length]; exact hl), if_pos ⟨by simp, hl⟩]
      · rw [List.getElem?_eq_none (by rw [List.length_set, wipe_length]; omega), if_neg (fun z => hl z.2), List.getElem?_eq_none (by omega)]
    · rw [List.getElem?_set_ne e, ih]
      have : (j ∈ v :: vs ∧ j < σ.length) ↔ (j ∈ vs ∧ j < σ.length) := by
        simp only [List.mem_cons]
        constructor
        · rintro ⟨h1 | h1, h2⟩
          · exact absurd h1.symm e
          · exact ⟨h1, h2⟩
        · rintro ⟨h1, h2⟩
          exact ⟨.inr h1, h2⟩
      simp only [this]
theorem setV_len : ∀ {is : List Nat} {xs : List V} {σ : L2.St}, (setV is xs σ).length = σ.length := by
  intro is
  induction is with
  | nil => intro xs σ; cases xs <;> rfl
  | cons i is ih => intro xs σ; cases xs with
    | nil => rfl
    | cons x xs => exact (ih (xs := xs)).trans (List.length_set ..)
theorem setV_out {j : Nat} : ∀ {is : List Nat} {xs : List V} {σ : L2.St}, j ∉ is → (setV is xs σ)[j]? = σ[j]? := by
  intro is
  induction is with
  | nil => intro xs σ _; cases xs <;> rfl
  | cons i is ih => intro xs σ h; cases xs with
    | nil => rfl
    | cons x xs =>
      simp only [List.mem_cons, not_or] at h
      exact (ih (xs := xs) h.2).trans (List.getElem?_set_ne (Ne.symm h.1))
theorem wipe_setV {vs is : List Nat} {xs : List V} {σ : L2.St} (hi : ∀ i ∈ is, i ∈ vs) : wipe (setV is xs (wipe σ vs)) vs = wipe σ vs := by
  apply List.ext_getElem?
  intro j
  rw [wipe_at, setV_len, wipe_length]
  by_cases hj : j ∈ vs ∧ j < σ.length
  · rw [if_pos hj, wipe_at, if_pos hj]
  · rw [if_neg hj]
    by_cases hm : j ∈ is
    · have hl : ¬ j < σ.length := fun z => hj ⟨hi j hm, z⟩
      rw [List.getElem?_eq_none (by rw [setV_len, wipe_length]; omega), wipe_at, if_neg hj, List.getElem?_eq_none (by omega)]
    · rw [setV_out hm]
theorem tg_okW {t : Tg} {d : D} {x : V} {ρ ρ' : Rho} {σ : L2.St} {vs : List Nat} {Q : L2.St → Hp → Prop} (hv : ∀ i ∈ t.ix, i ∈ vs) (e : t.set d ρ = some ρ') (q : Rel G F ι d x) (rs : RelS G F ι ρ (wipe σ vs)) (r : Rs G F ι h H)
    (hk : ∀ σ', RelS G F ι ρ' σ' → Q σ' H) : tgR G.K t x (wipe σ vs) H (fun σ2 H2 => wipe σ2 vs = wipe σ vs ∧ Q σ2 H2) := by
  cases t with
  | nm i =>
    cases e
    refine ⟨?_, hk _ (rs.set q)⟩
    exact wipe_setV (is := [i]) (xs := [x]) hv
  | tp is =>
    cases d with
    | tup ds =>
      have e : (if ds.length = is.length then some (setD is ds ρ) else none) = some ρ' := e
      split at e
      · cases e
        cases q with
        | tup h1 h2 =>
          refine ⟨_, _, rfl, r.sqT h1, ?_, wipe_setV hv, hk _ (RelS.setAll rs h2)⟩
          rw [← h2.len]
          assumption
      · cases e
    | _ => cases e

/-! ### sources -/
/-- what J walks are the items, as long as our state goes on -/
def Src (G : Gn) (F : Hp) (ι : List Addr) (H : Hp) (J : It) (items : List D) : Prop :=
  ∃ (G0 : Hp → Prop) (Y : Nat → Hp → V → Hp → Prop), Walk J items.length G0 Y ∧ (∀ F' ι' h' H', Stp F ι H F' ι' H' → Rs G F' ι' h' H' → G0 H') ∧
    ∀ (i : Nat) (d : D) (x : V) F' ι' h' H1 H2, items[i]? = some d → Stp F ι H F' ι' H1 → Rs G F' ι' h' H1 → Y i H1 x H2 → ∃ F'', Stp F' ι' H1 F'' ι' H2 ∧ Rs G F'' ι' h' H2 ∧ Rel G F'' ι' d x
def tIi (G : Gn) (W : WX) (f : AV) : TI := fun σ H R => ∃ ρ h F ι, RelS G F ι ρ σ ∧ Rs G F ι h H ∧ match f ρ h with
  | .ok items h' => ∀ J H' F' ι', Stp F ι H F' ι' H' → Rs G F' ι' h' H' → Src G F' ι' H' J items → R J H'
  | .er c h' => ∀ H' F' ι', Stp F ι H F' ι' H' → Rs G F' ι' h' H' → W (.ref (G.cl c)) none σ H'
  | .no => False
def QI (X : Cx) (G : Gn) (W : WX) (tg e : Expr) (f : AV) : Prop := PI X tg e (tIi G W f)
theorem PI.or {tg : Expr} {t u : TI} (h1 : PI X tg e t) (h2 : PI X tg e u) : PI X tg e (fun σ H R => t σ H R ∨ u σ H R) := ⟨fun pins s σ H R I q => q.elim (h1.run pins s σ H R I) (h2.run pins s σ H R I)⟩
def iSeq (fa : EV) : AV := fun ρ h => (fa ρ h).bind fun d h1 => match d with
  | .tup l => .ok l h1
  | .lst l => .ok l h1
  | .str z => .ok (z.cps.toList.map fun c => .str ⟨#[c]⟩) h1
  | _ => .no
theorem tE_er {f : EV} {σ : L2.St} {H : Hp} {Q : VK} {ρ : Rho} {h h' : Hs} {F : Hp} {ι : List Addr} {c : Nat} (rs : RelS G F ι ρ σ) (r0 : Rs G F ι h H) (e : f ρ h = .er c h') (p : ∀ H' F' ι', Stp F ι H F' ι' H' → Rs G F' ι' h' H' → W (.ref (G.cl c)) none σ H') : tE G W f σ H Q :=
  ⟨ρ, h, F, ι, rs, r0, by rw [e]; exact p⟩
theorem tE_ok {f : EV} {σ : L2.St} {H : Hp} {Q : VK} {ρ : Rho} {h h' : Hs} {F : Hp} {ι : List Addr} {d : D} (rs : RelS G F ι ρ σ) (r0 : Rs G F ι h H) (e : f ρ h = .ok d h') (p : ∀ v H' F' ι', Stp F ι H F' ι' H' → Rs G F' ι' h' H' → Rel G F' ι' d v → Q v H') : tE G W f σ H Q :=
  ⟨ρ, h, F, ι, rs, r0, by rw [e]; exact p⟩
theorem qi_seq (bn : Bn0 X G) {tg : Expr} (ha : QE X G W a fa) : QI X G W tg a (iSeq fa) := by
  have hp := PI.or (pi_tup (tg := tg) ha) (PI.or (pi_list (tg := tg) ha) (pi_str (tg := tg) ha))
  refine ⟨fun pins s σ H Rr I q => hp.run pins s σ H Rr I ?_⟩
  obtain ⟨ρ, h, F, ι, rs, r0, p⟩ := q
  unfold iSeq at p
  cases e : fa ρ h with
  | no => rw [e] at p; exact p.elim
  | er c h' =>
    rw [e] at p
    exact .inl (tE_er rs r0 e p)
  | ok d h' =>
    rw [e] at p
    cases d with
    | tup l =>
      refine .inl (tE_ok rs r0 e fun v H1 F1 ι1 e1 r1 q1 => ?_)
      cases q1 with
      | tup h1 h2 =>
        rename_i a xs
        refine ⟨a, rfl, ⟨xs, by rw [bn.K]; exact r1.sqT h1⟩, p _ H1 F1 ι1 e1 r1 ⟨_, _, by rw [h2.len]; exact walk_tup (xs := xs), fun F' ι' h' H' s r => by rw [bn.K]; exact r.sqT (sqT_ext s.fz h1), fun i d x F' ι' h' H2 H3 hi s r y => ?_⟩⟩
        obtain ⟨rfl, y⟩ := y
        obtain ⟨w, g1, g2⟩ := h2.get' hi
        rw [y] at g1
        cases g1
        exact ⟨F', Stp.refl _ _ _, r, g2.ext s.toExt⟩
    | lst l =>
      refine .inr (.inl (tE_ok rs r0 e fun v H1 F1 ι1 e1 r1 q1 => ?_))
      cases q1 with
      | lst h1 h2 =>
        rename_i a xs
        refine ⟨a, rfl, ⟨xs, by rw [bn.K]; exact r1.sqL h1⟩, p _ H1 F1 ι1 e1 r1 ⟨_, _, by rw [h2.len]; exact walk_list (xs := xs), fun F' ι' h' H' s r => by rw [bn.K]; exact r.sqL (sqL_ext s.fz h1), fun i d x F' ι' h' H2 H3 hi s r y => ?_⟩⟩
        obtain ⟨rfl, y⟩ := y
        obtain ⟨w, g1, g2⟩ := h2.get' hi
        rw [y] at g1
        cases g1
        exact ⟨F', Stp.refl _ _ _, r, g2.ext s.toExt⟩
    | str z =>
      refine .inr (.inr (tE_ok rs r0 e fun v H1 F1 ι1 e1 r1 q1 => ?_))
      cases q1
      refine ⟨z, rfl, p _ H1 F1 ι1 e1 r1 ⟨_, _, by rw [List.length_map, Array.length_toList]; exact walk_str (z := z), fun _ _ _ _ _ _ => True.intro, fun i d x F' ι' h' H2 H3 hi s r y => ?_⟩⟩
      obtain ⟨rfl, c, y1, rfl⟩ := y
      rw [List.getElem?_map, Array.getElem?_toList, y1] at hi
      cases hi
      exact ⟨F', Stp.refl _ _ _, r, .str _⟩
    | _ => exact p.elim
def iRange (fa : EV) : AV := fun ρ h => (fa ρ h).bind fun d h1 => match d with
  | .int j => if -(2 ^ 62) ≤ j ∧ j < 2 ^ 62 then .ok ((List.range j.toNat).map fun i => .int (i : Nat)) h1 else .no
  | _ => .no
theorem qi_range {tg : Expr} {p : Pos} (hm : X.mg "range" = none) (ha : QE X G W a fa) (hg : Gl X "range" := by rfl) (hs : starEach [a] X.env = [(false, eval a X.env)] := by rfl) : QI X G W tg (.Call (.Name "range" p) [a] [] pos) (iRange fa) := by
  have hp := pi_range1 (tg := tg) (p := p) (pos := pos) hg hm (pa_cons ha pa_nil hs) hs
  refine ⟨fun pins s σ H Rr I q => hp.run pins s σ H Rr I ?_⟩
  obtain ⟨ρ, h, F, ι, rs, r0, p⟩ := q
  unfold iRange at p
  cases e : fa ρ h with
  | no => rw [e] at p; exact p.elim
  | er c h' =>
    rw [e] at p
    exact tE_er rs r0 e p
  | ok d h' =>
    rw [e] at p
    refine tE_ok rs r0 e fun v H1 F1 ι1 e1 r1 q1 => ?_
    cases d with
    | int j =>
      cases q1
      have p : (match (if -(2 ^ 62) ≤ j ∧ j < 2 ^ 62 then R.ok ((List.range j.toNat).map fun i => D.int (i : Nat)) h' else .no : R (List D)) with
        | .ok items h' => ∀ J H' F' ι', Stp F ι H F' ι' H' → Rs G F' ι' h' H' → Src G F' ι' H' J items → Rr J H'
        | .er c h' => ∀ H' F' ι', Stp F ι H F' ι' H' → Rs G F' ι' h' H' → W (.ref (G.cl c)) none σ H'
        | .no => False) := p
      by_cases hj : -(2 ^ 62) ≤ j ∧ j < 2 ^ 62
      · rw [if_pos hj] at p
        refine ⟨j, rfl, hj.1, hj.2, p _ H1 F1 ι1 e1 r1 ⟨_, _, by rw [List.length_map, List.length_range]; exact walk_range (lo := 0), fun _ _ _ _ _ _ => True.intro, fun i d x F' ι' h' H2 H3 hi s r y => ?_⟩⟩
        obtain ⟨rfl, rfl⟩ := y
        rw [List.getElem?_map] at hi
        cases hr : (List.range j.toNat)[i]? with
        | none => rw [hr] at hi; cases hi
        | some m =>
          rw [hr] at hi
          cases hi
          have em : m = i := by
            have := List.getElem?_eq_some_iff.mp hr
            obtain ⟨h1, h2⟩ := this
            rw [List.getElem_range] at h2
            exact h2.symm
          subst em
          refine ⟨F', Stp.refl _ _ _, r, ?_⟩
          show Rel G F' ι' (.int (m : Nat)) (.int (0 + (m : Nat)))
          rw [Int.zero_add]
          exact .int _
      · rw [if_neg hj] at p
        exact p.elim
    | _ => exact p.elim
def iRange2 (fa fb : EV) : AV := fun ρ h => (fa ρ h).bind fun d h1 => (fb ρ h1).bind fun d2 h2 => match d, d2 with
  | .int i, .int j => if (-(2 ^ 62) ≤ i ∧ i < 2 ^ 62) ∧ -(2 ^ 62) ≤ j ∧ j < 2 ^ 62 then .ok ((List.range (j - i).toNat).map fun m => .int (i + (m : Nat))) h2 else .no
  | _, _ => .no
/-- new pairs -/
theorem src_pair {J : It} {n : Nat} {G0 : Hp → Prop} {f g : Nat → Option V} {items : List (D × D)} (w : Walk J items.length G0 (YPair f g)) (hG : ∀ F' ι' h' H', Stp F ι H F' ι' H' → Rs G F' ι' h' H' → G0 H')
    (hf : ∀ i d e, items[i]? = some (d, e) → ∀ x y, f i = some x → g i = some y → Rel G F ι d x ∧ Rel G F ι e y) : Src G F ι H J (items.map fun p => .tup [p.1, p.2]) := by
  refine ⟨G0, _, by rw [List.length_map]; exact w, hG, fun i d x F' ι' h' H1 H2 hi s r y => ?_⟩
  obtain ⟨T, x1, x2, rfl, nT, rfl, y1, y2⟩ := y
  rw [List.getElem?_map] at hi
  cases hr : items[i]? with
  | none => rw [hr] at hi; cases hi
  | some p =>
    rw [hr] at hi
    cases hi
    obtain ⟨g1, g2⟩ := hf i p.1 p.2 hr x1 x2 y1 y2
    obtain ⟨F'', e', r', q'⟩ := r.layTup nT (.cons (g1.ext s.toExt) (.cons (g2.ext s.toExt) .nil))
    exact ⟨F'', e', r', q'⟩
def iEnumD (fa : EV) : AV := fun ρ h => (fa ρ h).bind fun d h1 => match d with
  | .lst l => .ok ((l.zipIdx.map fun p => (D.int (p.2 : Nat), p.1)).map fun p => .tup [p.1, p.2]) h1
  | _ => .no
theorem qi_enum (bn : Bn0 X G) {p tpos : Pos} {elts : List Expr} {kk : Nat} (hm : X.mg "enumerate" = none) (ha : QE X G W a fa) (hg : Gl X "enumerate" := by rfl) (hs : starEach [a] X.env = [(false, eval a X.env)] := by rfl) :
    QI X G W (.Tuple elts kk tpos) (.Call (.Name "enumerate" p) [a] [] pos) (iEnumD fa) := by
  have hp := pi_enum (elts := elts) (kk := kk) (tpos := tpos) (p := p) (pos := pos) hg hm (pa_cons ha pa_nil hs) hs
  refine ⟨fun pins s σ H Rr I q => hp.run pins s σ H Rr I ?_⟩
  obtain ⟨ρ, h, F, ι, rs, r0, p⟩ := q
  unfold iEnumD at p
  cases e : fa ρ h with
  | no => rw [e] at p; exact p.elim
  | er c h' =>
    rw [e] at p
    exact tE_er rs r0 e p
  | ok d h' =>
    rw [e] at p
    refine tE_ok rs r0 e fun v H1 F1 ι1 e1 r1 q1 => ?_
    cases d with
    | lst l =>
      cases q1 with
      | lst g1 g2 =>
        rename_i a xs
        refine ⟨a, xs, rfl, by rw [bn.K]; exact r1.sqL g1, p _ H1 F1 ι1 e1 r1 (src_pair (n := 0) (by rw [List.length_map, List.length_zipIdx, g2.len]; exact walk_enum (xs := xs)) (fun F' ι' h' H' s r => by rw [bn.K]; exact r.sqL (sqL_ext s.fz g1)) fun i d e hi x y hx hy => ?_)⟩
        rw [List.getElem?_map, List.getElem?_zipIdx] at hi
        cases hl : l[i]? with
        | none => rw [hl] at hi; cases hi
        | some z =>
          rw [hl] at hi
          cases hi
          cases hx
          obtain ⟨w, k1, k2⟩ := g2.get' hl
          rw [hy] at k1
          cases k1
          rw [Nat.zero_add]
          exact ⟨.int _, k2⟩
    | _ => exact p.elim
def iZipD (fa fb : EV) : AV := fun ρ h => (fa ρ h).bind fun d h1 => (fb ρ h1).bind fun d2 h2 => match d, d2 with
  | .lst l, .lst m => .ok ((l.zip m).map fun p => .tup [p.1, p.2]) h2
  | .tup l, .tup m => .ok ((l.zip m).map fun p => .tup [p.1, p.2]) h2
  | _, _ => .no
theorem zip_rel {l m : List D} {xs ys : List V} (g2 : RelL G F ι l xs) (g4 : RelL G F ι m ys) : ∀ (i : Nat) (d e : D), (l.zip m)[i]? = some (d, e) → ∀ x y, xs[i]? = some x → ys[i]? = some y → Rel G F ι d x ∧ Rel G F ι e y := by
  intro i d e hi x y hx hy
  rw [List.getElem?_zip_eq_some] at hi
  obtain ⟨w, k1, k2⟩ := g2.get' hi.1
  obtain ⟨z, k3, k4⟩ := g4.get' hi.2
  rw [hx] at k1
  cases k1
  rw [hy] at k3
  cases k3
  exact ⟨k2, k4⟩
theorem walk_zipT {K : PySem.W.Frag} {a b : Addr} {xs ys : List V} {n : Nat} (hn : n = min xs.length ys.length) : Walk (ItzT K a b) n (fun H => SqT K H a xs ∧ SqT K H b ys) (YPair (fun i => xs[i]?) (fun i => ys[i]?)) := by
  subst hn
  refine ⟨fun i _ hi q => ?_, fun _ q => ⟨xs, ys, q.1, q.2, by omega⟩, fun i H v H' _ q y => ?_⟩
  · have h1 : i < xs.length := by omega
    have h2 : i < ys.length := by omega
    exact ⟨xs, ys, xs[i], ys[i], q.1, q.2, by simp [h1], by simp [h2]⟩
  · obtain ⟨T, x, z, h1, h2, h3, h4, h5⟩ := y
    exact ⟨T, x, z, h1, h2, h3, h4 xs q.1, h5 ys q.2⟩
theorem qi_zip (bn : Bn0 X G) {p tpos : Pos} {elts : List Expr} {kk : Nat} (hm : X.mg "zip" = none) (ha : QE X G W a fa) (hb : QE X G W b fb) (hg : Gl X "zip" := by rfl) (hs : starEach [a, b] X.env = (false, eval a X.env) :: starEach [b] X.env := by rfl)
    (hs2 : starEach [b] X.env = (false, eval b X.env) :: starEach [] X.env := by rfl) (hpl : (backTo pos (starEach [b] X.env)).any (·.1) = false := by rfl) : QI X G W (.Tuple elts kk tpos) (.Call (.Name "zip" p) [a, b] [] pos) (iZipD fa fb) := by
  have hp := pi_zipA (elts := elts) (kk := kk) (tpos := tpos) (p := p) (pos := pos) hg hm (pa_cons ha (pa_cons hb pa_nil hs2) hs) hs hpl
  refine ⟨fun pins s σ H Rr I q => hp.run pins s σ H Rr I ?_⟩
  obtain ⟨ρ, h, F, ι, rs, r0, p⟩ := q
  unfold iZipD at p
  cases e : fa ρ h with
  | no => rw [e] at p; exact p.elim
  | er c h' =>
    rw [e] at p
    exact tE_er rs r0 e p
  | ok d h' =>
    rw [e, R.bind_ok] at p
    refine tE_ok rs r0 e fun v H1 F1 ι1 e1 r1 q1 => ?_
    cases e2 : fb ρ h' with
    | no => rw [e2] at p; exact p.elim
    | er c h2 =>
      rw [e2] at p
      exact tE_er (rs.ext e1.toExt) r1 e2 fun H' F' ι' s r => p H' F' ι' (e1.trans s) r
    | ok d2 h2 =>
      rw [e2, R.bind_ok] at p
      refine tE_ok (rs.ext e1.toExt) r1 e2 fun v2 H2 F2 ι2 s2 r2 q2 => ?_
      have q1 := q1.ext s2.toExt
      cases d with
      | lst l =>
        cases d2 with
        | lst m =>
          cases q1 with
          | lst g1 g2 =>
            cases q2 with
            | lst g3 g4 =>
              rename_i a xs b ys
              refine ⟨a, b, xs, ys, rfl, .inl ⟨by rw [bn.K]; exact r2.sqL g1, by rw [bn.K]; exact r2.sqL g3, p _ H2 F2 ι2 (e1.trans s2) r2 (src_pair (n := 0) (walk_zip (xs := xs) (ys := ys) (by rw [List.length_zip, g2.len, g4.len])) (fun F' ι' h' H' s r => ⟨by rw [bn.K]; exact r.sqL (sqL_ext s.fz g1), by rw [bn.K]; exact r.sqL (sqL_ext s.fz g3)⟩) (zip_rel g2 g4))⟩⟩
        | _ => exact p.elim
      | tup l =>
        cases d2 with
        | tup m =>
          cases q1 with
          | tup g1 g2 =>
            cases q2 with
            | tup g3 g4 =>
              rename_i a xs b ys
              refine ⟨a, b, xs, ys, rfl, .inr ⟨by rw [bn.K]; exact r2.sqT g1, by rw [bn.K]; exact r2.sqT g3, p _ H2 F2 ι2 (e1.trans s2) r2 (src_pair (n := 0) (walk_zipT (xs := xs) (ys := ys) (by rw [List.length_zip, g2.len, g4.len])) (fun F' ι' h' H' s r => ⟨by rw [bn.K]; exact r.sqT (sqT_ext s.fz g1), by rw [bn.K]; exact r.sqT (sqT_ext s.fz g3)⟩) (zip_rel g2 g4))⟩⟩
        | _ => exact p.elim
      | _ => exact p.elim

/-! ### for -/
def forL (t : Tg) (s : SV) : List D → Rho → Hs → RS
  | [], ρ, h => .nx ρ h
  | d :: l, ρ, h => match t.set d ρ with
    | none => .no
    | some ρ1 => match s ρ1 h with
      | .nx ρ' h' => forL t s l ρ' h'
      | .ct ρ' h' => forL t s l ρ' h'
      | .bk ρ' h' => .nx ρ' h'
      | r => r
def sFor (fi : AV) (t : Tg) (s : SV) : SV := fun ρ h => match fi ρ h with
  | .ok items h' => forL t s items ρ h'
  | .er c h' => .er c ρ h'
  | .no => .no
theorem qs_for (bn : Bn X G W k) {tg iter : Expr} {body : List Stmt} {fi : AV} {t : Tg} {s : SV} (hi : QI X G W tg iter fi) (hg : QG X G tg t) (hb : QSs X G W body s) (hs : ∀ x, foldedSetIterable iter X.env x = pure x := by intro _; rfl) : QS X G W (.For tg iter body [] pos) (sFor fi t s) := by
  refine qs_of (ps_for bn.po bn.calm hi hg hb hs) fun Dn σ H q => ?_
  obtain ⟨ρ, h, F, ι, rs, r0, p⟩ := q
  unfold sFor at p
  refine ⟨ρ, h, F, ι, rs, r0, ?_⟩
  cases e : fi ρ h with
  | no => rw [e] at p; exact p.elim
  | er c h' =>
    rw [e] at p
    exact fun H' F' ι' s r => p σ H' F' ι' s (rs.ext s.toExt) r
  | ok items h' =>
    rw [e] at p
    intro J H1 F1 ι1 e1 r1 src
    obtain ⟨G0, Y, w, hG, hY⟩ := src
    refine for_it w (fun i σ2 H2 => ∃ ρ2 h2 F2 ι2, Stp F1 ι1 H1 F2 ι2 H2 ∧ RelS G F2 ι2 ρ2 σ2 ∧ Rs G F2 ι2 h2 H2 ∧ PsS G F2 ι2 H2 W (forL t s (items.drop i) ρ2 h2) Dn) ?_ ?_ ?_ ?_
    · exact ⟨ρ, h', F1, ι1, Stp.refl _ _ _, rs.ext e1.toExt, r1, PsS.ext e1 p⟩
    · rintro i σ2 H2 _ ⟨ρ2, h2, F2, ι2, s2, rs2, r2, _⟩
      exact hG _ _ _ _ s2 r2
    · rintro i x σ2 H2 H3 hi ⟨ρ2, h2, F2, ι2, s2, rs2, r2, p2⟩ hy
      have hd : items[i]? = some items[i] := List.getElem?_eq_getElem hi
      obtain ⟨F3, s3, r3, q3⟩ := hY i items[i] x F2 ι2 h2 H2 H3 hd s2 r2 hy
      rw [List.drop_eq_getElem_cons hi] at p2
      unfold forL at p2
      cases et : t.set items[i] ρ2 with
      | none => simp only [et] at p2; exact p2.elim
      | some ρ3 =>
        simp only [et] at p2
        refine tg_ok et q3 (rs2.ext s3.toExt) r3 fun σ3 rs3 => ⟨ρ3, h2, F3, ι2, rs3, r3, ?_⟩
        cases es : s ρ3 h2 with
        | nx ρ4 h4 =>
          simp only [es] at p2
          exact fun σ4 H4 F4 ι4 s4 rs4 r4 => ⟨ρ4, h4, F4, ι4, (s2.trans s3).trans s4, rs4, r4, PsS.ext (s3.trans s4) p2⟩
        | ct ρ4 h4 =>
          simp only [es] at p2
          exact fun σ4 H4 F4 ι4 s4 rs4 r4 => ⟨ρ4, h4, F4, ι4, (s2.trans s3).trans s4, rs4, r4, PsS.ext (s3.trans s4) p2⟩
        | bk ρ4 h4 =>
          simp only [es] at p2
          exact fun σ4 H4 F4 ι4 s4 rs4 r4 => p2 σ4 H4 F4 ι4 (s3.trans s4) rs4 r4
        | rt d4 h4 =>
          simp only [es] at p2
          exact fun v H4 F4 ι4 s4 r4 q4 => p2 v H4 F4 ι4 (s3.trans s4) r4 q4
        | er c ρ4 h4 =>
          simp only [es] at p2
          exact fun σ4 H4 F4 ι4 s4 rs4 r4 => p2 σ4 H4 F4 ι4 (s3.trans s4) rs4 r4
        | no => simp only [es] at p2; exact p2.elim
    · rintro σ2 H2 ⟨ρ2, h2, F2, ι2, s2, rs2, r2, p2⟩
      rw [List.drop_eq_nil_of_le (Nat.le_refl _)] at p2
      exact p2 σ2 H2 F2 ι2 (Stp.refl _ _ _) rs2 r2

/-! ### while: at most n turns -/
def whL (c : BV) (s : SV) : Nat → Rho → Hs → RS
  | 0, _, _ => .no
  | n + 1, ρ, h => match c ρ h with
    | .ok true h1 => match s ρ h1 with
      | .nx ρ' h' => whL c s n ρ' h'
      | .ct ρ' h' => whL c s n ρ' h'
      | .bk ρ' h' => .nx ρ' h'
      | r => r
    | .ok false h1 => .nx ρ h1
    | .er c h1 => .er c ρ h1
    | .no => .no
theorem qs_while (bn : Bn X G W k) (n : Nat) {c : Expr} {body : List Stmt} {g : BV} {s : SV} (hc : QT X G W c g) (hb : QSs X G W body s) : QS X G W (.While c body [] pos) (whL g s n) := by
  refine qs_of (ps_while bn.po hc hb) fun Dn σ H q => ?_
  obtain ⟨ρ, h, F, ι, rs, r0, p⟩ := q
  refine ⟨fun m σ2 H2 => ∃ ρ2 h2 F2 ι2, Stp F ι H F2 ι2 H2 ∧ RelS G F2 ι2 ρ2 σ2 ∧ Rs G F2 ι2 h2 H2 ∧ PsS G F2 ι2 H2 W (whL g s m ρ2 h2) Dn, ⟨n, ρ, h, F, ι, Stp.refl _ _ _, rs, r0, p⟩, ?_⟩
  rintro m σ2 H2 ⟨ρ2, h2, F2, ι2, s2, rs2, r2, p2⟩
  cases m with
  | zero => exact p2.elim
  | succ m =>
    unfold whL at p2
    refine ⟨ρ2, h2, F2, ι2, rs2, r2, ?_⟩
    cases e : g ρ2 h2 with
    | no => rw [e] at p2; exact p2.elim
    | er c h3 =>
      rw [e] at p2
      exact fun H' F' ι' s r => p2 σ2 H' F' ι' s (rs2.ext s.toExt) r
    | ok b h3 =>
      rw [e] at p2
      intro b' H3 F3 ι3 s3 r3 eb
      cases eb
      cases b with
      | false => exact p2 σ2 H3 F3 ι3 s3 (rs2.ext s3.toExt) r3
      | true =>
        refine ⟨fun σ4 H4 => ∃ ρ4 h4 F4 ι4, Stp F ι H F4 ι4 H4 ∧ RelS G F4 ι4 ρ4 σ4 ∧ Rs G F4 ι4 h4 H4 ∧ PsS G F4 ι4 H4 W (whL g s m ρ4 h4) Dn, fun σ4 H4 z => ⟨m, Nat.lt_succ_self m, z⟩, ρ2, h3, F3, ι3, rs2.ext s3.toExt, r3, ?_⟩
        cases es : s ρ2 h3 with
        | nx ρ4 h4 =>
          simp only [es] at p2
          exact fun σ4 H4 F4 ι4 s4 rs4 r4 => ⟨ρ4, h4, F4, ι4, (s2.trans s3).trans s4, rs4, r4, PsS.ext (s3.trans s4) p2⟩
        | ct ρ4 h4 =>
          simp only [es] at p2
          exact fun σ4 H4 F4 ι4 s4 rs4 r4 => ⟨ρ4, h4, F4, ι4, (s2.trans s3).trans s4, rs4, r4, PsS.ext (s3.trans s4) p2⟩
        | bk ρ4 h4 =>
          simp only [es] at p2
          exact fun σ4 H4 F4 ι4 s4 rs4 r4 => p2 σ4 H4 F4 ι4 (s3.trans s4) rs4 r4
        | rt d4 h4 =>
          simp only [es] at p2
          exact fun v H4 F4 ι4 s4 r4 q4 => p2 v H4 F4 ι4 (s3.trans s4) r4 q4
        | er c ρ4 h4 =>
          simp only [es] at p2
          exact fun σ4 H4 F4 ι4 s4 rs4 r4 => p2 σ4 H4 F4 ι4 (s3.trans s4) rs4 r4
        | no => simp only [es] at p2; exact p2.elim
end
end U
/-! list comprehensions of one clause -/
namespace U
open PySem PySem.Spec PyProof.Rows L2 RZ

def wipeD : List Nat → Rho → Rho
  | [], ρ => ρ
  | v :: vs, ρ => (wipeD vs ρ).set v none
theorem relS_wipe {G : Gn} {F : Hp} {ι : List Addr} {ρ : Rho} {σ : L2.St} (r : RelS G F ι ρ σ) : ∀ vs : List Nat, RelS G F ι (wipeD vs ρ) (wipe σ vs)
  | [] => r
  | v :: vs => (relS_wipe r vs).unset v

/-- the turns: each starts with the frame ρ, its own names unset -/
def lcL (t : Tg) (c : BV) (f : EV) (ρ : Rho) : List D → Hs → R (List D)
  | [], h => .ok [] h
  | d :: l, h => match t.set d ρ with
    | none => .no
    | some ρ1 => match c ρ1 h with
      | .ok true h1 => match f ρ1 h1 with
        | .ok y h2 => match lcL t c f ρ l h2 with
          | .ok ys h3 => .ok (y :: ys) h3
          | _ => .no
        | _ => .no
      | .ok false h1 => lcL t c f ρ l h1
      | _ => .no
def aLc (own : List Nat) (fi : AV) (t : Tg) (c : BV) (f : EV) : AV := fun ρ h => match fi ρ h with
  | .ok items h1 => match lcL t c f (wipeD own ρ) items h1 with
    | .ok ds h2 => if ds.length ≤ sizeLine then .ok ds h2 else .no
    | _ => .no
  | .er c h1 => .er c h1
  | .no => .no
/-- by value -/
def eLc (own : List Nat) (fi : AV) (t : Tg) (c : BV) (f : EV) : EV := fun ρ h => (aLc own fi t c f ρ h).bind fun ds h2 => .ok (.lst ds) h2
/-- a box -/
def eLcB (own : List Nat) (fi : AV) (t : Tg) (c : BV) (f : EV) : EV := fun ρ h => (aLc own fi t c f ρ h).bind fun ds h2 => .ok (.ref h2.length) (h2 ++ [.lst ds])
def bYes : BV := fun _ h => .ok true h

def QTs (X : Cx) (G : Gn) (W : WX) (ifs : List Expr) (c : BV) : Prop := PTs X ifs (tBb G W c)
abbrev W0 : WX := fun _ _ _ _ => False
theorem qts_nil {X : Cx} {G : Gn} {W : WX} : QTs X G W [] bYes := ⟨fun pins s σ H Q I ⟨ρ, h, F, ι, rs, r0, p⟩ => pts_nil.run pins s σ H Q I (Pst.okk p r0 rfl)⟩
theorem qts_one {X : Cx} {G : Gn} {W : WX} {e : Expr} {c : BV} (h : QT X G W e c) : QTs X G W [e] c := pts_one h

section
variable {G : Gn} {F F1 : Hp} {ι ι1 : List Addr} {h : Hs} {H H1 : Hp}
/-- something that is no concern of ours is written -/
theorem Rs.side (r : Rs G F ι h H) {p : Addr} {u : HO} (n : p ∉ ι) (nF : F p = none) (nt : H p = none ∨ ∃ u0, H p = some u0 ∧ Pl u0) : Rs G F ι h (upd H p u) := by
  refine ⟨fun a x q => rd_upd (r.fz a x q) (fun z => by rw [z, nF] at q; cases q), r.nf, r.sep, r.len, r.nd, fun i o q => ?_, nt.elim (tabs_new r.tabs) fun ⟨_, e, z⟩ => tabs_upd r.tabs e z⟩
  obtain ⟨b, x, e1, e2, e3⟩ := r.obj i o q
  exact ⟨b, x, e1, by rw [upd_ne (fun z => n (by rw [← z]; exact List.mem_of_getElem? e1))]; exact e2, e3⟩
theorem Stp.side (s : Stp F ι H F1 ι1 H1) {p : Addr} {u : HO} (n : H p = none) : Stp F ι H F1 ι1 (upd H1 p u) :=
  ⟨s.toExt, s.fr, fun a x q m f t => by rw [upd_ne (ne_of_none q n)]; exact s.kp a x q m f t, s.fx, fun a o x q => by rw [upd_ne (ne_of_none q n)]; exact s.lk a o x q⟩
/-- it is fixed at last -/
theorem Rs.fixL (r : Rs G F ι h H) {p : Addr} {xs : List V} (n : p ∉ ι) (nF : F p = none) (e : H p = some (.lst xs)) : Rs G (upd F p (.lst xs)) ι h H ∧ Ext F ι (upd F p (.lst xs)) ι := by
  have ee : Ext F ι (upd F p (.lst xs)) ι := ⟨fun a x q => by rw [upd_ne (fun z => by rw [z, nF] at q; cases q)]; exact q, List.prefix_rfl⟩
  refine ⟨⟨fun a x q => ?_, fun a x q => ?_, fun i a o m e2 e3 => ?_, r.len, r.nd, fun i o q => ?_, r.tabs⟩, ee⟩
  · by_cases z : a = p
    · subst z
      rw [upd_same] at q
      cases q
      exact .inl e
    · rw [upd_ne z] at q
      exact r.fz a x q
  · by_cases z : a = p
    · subst z
      rw [upd_same] at q
      cases q
      exact ⟨fun _ _ z => (by cases z), fun _ z => (by cases z)⟩
    · rw [upd_ne z] at q
      exact r.nf a x q
  · rw [upd_ne (fun z => n (by rw [← z]; exact List.mem_of_getElem? m))]
    exact r.sep i a o m e2 e3
  · obtain ⟨b, x, e1, e2, e3⟩ := r.obj i o q
    exact ⟨b, x, e1, e2, e3.ext ee⟩
theorem Stp.fixL (s : Stp F ι H F1 ι1 H1) {p : Addr} {xs : List V} (n : H p = none) (nF : F1 p = none) : Stp F ι H (upd F1 p (.lst xs)) ι1 H1 :=
  ⟨⟨fun a u q => by
    have q1 := s.fz a u q
    rw [upd_ne (fun z => by rw [z, nF] at q1; cases q1)]
    exact q1, s.bx⟩, s.fr, s.kp, fun a u q z => by
    by_cases w : a = p
    · rw [w]
      exact .inr (.none n)
    · rw [upd_ne w] at q
      exact s.fx a u q z, s.lk⟩
/-- a box of ours from now on -/
theorem Rs.boxL (r : Rs G F ι h H) {p : Addr} {xs : List V} {ds : List D} (n : p ∉ ι) (nF : F p = none) (e : H p = some (.lst xs)) (q : RelL G F ι ds xs) : Rs G F (ι ++ [p]) (h ++ [.lst ds]) H ∧ Ext F ι F (ι ++ [p]) := by
  have ee : Ext F ι F (ι ++ [p]) := ⟨fun _ _ h => h, List.prefix_append _ _⟩
  refine ⟨⟨r.fz, r.nf, fun i a o m e2 e3 => ?_, ?_, ?_, fun i o' q' => ?_, r.tabs⟩, ee⟩
  · by_cases hi : i < h.length
    · rw [List.getElem?_append_left hi] at e2
      rw [List.getElem?_append_left (by rw [r.len]; exact hi)] at m
      exact r.sep i a o m e2 e3
    · rw [List.getElem?_append_right (by rw [r.len]; omega)] at m
      have z : a = p := by
        have := List.mem_of_getElem? m
        simpa using this
      rw [z]
      exact nF
  · rw [List.length_append, List.length_append, r.len]
    rfl
  · exact List.nodup_append.mpr ⟨r.nd, by simp, fun a ha b hb z => by
      have : b = p := by simpa using hb
      rw [z, this] at ha
      exact n ha⟩
  · by_cases hi : i < h.length
    · rw [List.getElem?_append_left hi] at q'
      obtain ⟨b, x, e1, e2, e3⟩ := r.obj i o' q'
      exact ⟨b, x, ee.at_ e1, e2, e3.ext ee⟩
    · rw [List.getElem?_append_right (by omega)] at q'
      have hz : i - h.length = 0 := by
        have := (List.getElem?_eq_some_iff.mp q').1
        simp at this
        omega
      rw [hz] at q'
      have q' : Ob.lst ds = o' := by simpa using q'
      subst q'
      refine ⟨p, _, ?_, e, RelL.ext ee q⟩
      rw [List.getElem?_append_right (by rw [r.len]; omega), r.len, hz]
      rfl
theorem Stp.boxL (s : Stp F ι H F1 ι1 H1) {p : Addr} (n : H p = none) : Stp F ι H F1 (ι1 ++ [p]) H1 :=
  ⟨⟨s.fz, s.bx.trans (List.prefix_append _ _)⟩, fun a m z f => by
    rcases List.mem_append.mp m with m | m
    · exact s.fr a m z f
    · have : a = p := by simpa using m
      rw [this]
      exact .none n, s.kp, s.fx, s.lk⟩

/-- the loop of a comprehension: what stands at D when it is done -/
theorem lc_run {t : Tg} {c : BV} {f : EV} {own : List Nat} {ρ : Rho} {σ : L2.St} {items : List D} {J : It} {D' : Addr} {DS : List D} {hE : Hs} {Qd : Hp → Prop} (hv : ∀ i ∈ t.ix, i ∈ own) (rs : RelS G F ι ρ σ) (r : Rs G F ι h H) (nD : H D' = none) (src : Src G F ι H J items)
    (e : lcL t c f (wipeD own ρ) items h = .ok DS hE) (hl : DS.length ≤ sizeLine)
    (hd : ∀ F2 ι2 H2 xs, Stp F ι H F2 ι2 H2 → Rs G F2 ι2 hE H2 → H2 D' = some (.lst xs) → D' ∉ ι2 → F2 D' = none → RelL G F2 ι2 DS xs → Qd H2) :
    ∃ W : Nat → Nat → Hp → Prop, (∃ m, W 0 m (upd H D' (.lst []))) ∧ ∀ i m H, W i m H →
  (J.stop i H ∧ Qd H) ∨ (J.go i H ∧ ∃ Nx : Hp → Prop, (∀ H', Nx H' → ∃ m', m' < m ∧ W (i + 1) m' H') ∧ ∀ x H', J.yld i H x H' → tgR G.K t x (wipe σ own) H' fun σ2 H2 => wipe σ2 own = wipe σ own ∧ tBb G W0 c σ2 H2 fun b H3 =>
    if b = true then tE G W0 f σ2 H3 fun y H4 => ∃ acc, H4 D' = some (.lst acc) ∧ acc.length < sizeLine ∧ Nx (upd H4 D' (.lst (acc ++ [y]))) else Nx H3) := by
  obtain ⟨G0, Y, w, hG, hY⟩ := src
  have nDι : D' ∉ ι := fun m => r.inbox m nD
  have nDF : F D' = none := by
    cases z : F D' with
    | none => rfl
    | some u => exact absurd nD (rd_some (r.fz _ _ z))
  refine ⟨fun i m H' => m = items.length - i ∧ i ≤ items.length ∧ ∃ h2 F2 ι2 acc dacc ys, Stp F ι H F2 ι2 H' ∧ Rs G F2 ι2 h2 H' ∧ H' D' = some (.lst acc) ∧ D' ∉ ι2 ∧ F2 D' = none ∧ RelL G F2 ι2 dacc acc ∧ lcL t c f (wipeD own ρ) (items.drop i) h2 = .ok ys hE ∧ dacc ++ ys = DS,
    ⟨items.length, by simp, Nat.zero_le _, h, F, ι, [], [], DS, (Stp.refl F ι H).side nD, r.side nDι nDF (.inl nD), upd_same, nDι, nDF, .nil, e, rfl⟩, ?_⟩
  rintro i m H' ⟨rfl, hi, h2, F2, ι2, acc, dacc, ys, s2, r2, g1, g2, g3, g4, g5, g6⟩
  by_cases hlt : i < items.length
  · refine .inr ⟨w.goes i H' hlt (hG _ _ _ _ s2 r2), fun H3 => i + 1 ≤ items.length ∧ ∃ h2 F2 ι2 acc dacc ys, Stp F ι H F2 ι2 H3 ∧ Rs G F2 ι2 h2 H3 ∧ H3 D' = some (.lst acc) ∧ D' ∉ ι2 ∧ F2 D' = none ∧ RelL G F2 ι2 dacc acc ∧ lcL t c f (wipeD own ρ) (items.drop (i + 1)) h2 = .ok ys hE ∧ dacc ++ ys = DS,
      fun H3 z => ⟨items.length - (i + 1), by omega, rfl, z.1, z.2⟩, fun x H3 hy => ?_⟩
    have hdd : items[i]? = some items[i] := List.getElem?_eq_getElem hlt
    obtain ⟨F3, s3, r3, q3⟩ := hY i items[i] x F2 ι2 h2 H' H3 hdd s2 r2 (w.yields i H' x H3 hlt (hG _ _ _ _ s2 r2) hy)
    rw [List.drop_eq_getElem_cons hlt] at g5
    unfold lcL at g5
    -- D' goes on
    have kD : ∀ {Fa Fb : Hp} {ιa ιb : List Addr} {Ha Hb : Hp} {acc : List V}, Stp Fa ιa Ha Fb ιb Hb → Ha D' = some (.lst acc) → D' ∉ ιa → Fa D' = none → Hb D' = some (.lst acc) ∧ D' ∉ ιb ∧ Fb D' = none := fun {Fa Fb ιa ιb Ha Hb acc} s a b z => by
      refine ⟨s.kp _ _ a b z True.intro, fun m => ?_, ?_⟩
      · exact s.fr _ m b z _ a True.intro
      · cases q : Fb D' with
        | none => rfl
        | some u =>
          rcases s.fx _ _ q z with z | z
          · exact absurd z b
          · exact (z _ a True.intro).elim
    obtain ⟨a1, a2, a3⟩ := kD s3 g1 g2 g3
    cases et : t.set items[i] (wipeD own ρ) with
    | none => rw [et] at g5; cases g5
    | some ρ3 =>
      simp only [et] at g5
      refine tg_okW hv et q3 (relS_wipe (rs.ext (s2.trans s3).toExt) own) r3 fun σ3 rs3 => ⟨ρ3, h2, F3, ι2, rs3, r3, ?_⟩
      cases ec : c ρ3 h2 with
      | no => rw [ec] at g5; cases g5
      | er _ _ => rw [ec] at g5; cases g5
      | ok b h4 =>
        intro b' H4 F4 ι4 s4 r4 eb
        cases eb
        obtain ⟨b1, b2, b3⟩ := kD s4 a1 a2 a3
        cases b with
        | false =>
          simp only [ec] at g5
          exact ⟨hlt, h4, F4, ι4, acc, dacc, ys, (s2.trans s3).trans s4, r4, b1, b2, b3, RelL.ext (s3.trans s4).toExt g4, g5, g6⟩
        | true =>
          simp only [ec] at g5
          refine ⟨ρ3, h4, F4, ι4, rs3.ext s4.toExt, r4, ?_⟩
          cases ef : f ρ3 h4 with
          | no => rw [ef] at g5; cases g5
          | er _ _ => rw [ef] at g5; cases g5
          | ok y h5 =>
            simp only [ef] at g5
            intro v H5 F5 ι5 s5 r5 q5
            obtain ⟨c1, c2, c3⟩ := kD s5 b1 b2 b3
            cases el : lcL t c f (wipeD own ρ) (items.drop (i + 1)) h5 with
            | no => rw [el] at g5; cases g5
            | er _ _ => rw [el] at g5; cases g5
            | ok zs h6 =>
              simp only [el] at g5
              cases g5
              have hacc : acc.length = dacc.length := g4.len.symm
              refine ⟨acc, c1, ?_, hlt, h5, F5, ι5, acc ++ [v], dacc ++ [y], zs, ?_, r5.side c2 c3 (.inr ⟨_, c1, True.intro⟩), upd_same, c2, c3, RelL.app (.cons q5 .nil) (RelL.ext ((s3.trans s4).trans s5).toExt g4), el, ?_⟩
              · have := congrArg List.length g6
                simp at this
                omega
              · exact (((s2.trans s3).trans s4).trans s5).side nD
              · rw [List.append_assoc]
                exact g6
  · have e0 : i = items.length := by omega
    subst e0
    rw [List.drop_eq_nil_of_le (Nat.le_refl _)] at g5
    cases g5
    rw [List.append_nil] at g6
    subst g6
    exact .inl ⟨w.stops H' (hG _ _ _ _ s2 r2), hd F2 ι2 H' acc s2 r2 g1 g2 g3 g4⟩
end

section
variable {X : Cx} {G : Gn} {W : WX} {k : Nat} {pos : Pos} {elt tg iter : Expr} {ifs : List Expr} {scope : Scope} {own : List (Str × Nat)} {fi : AV} {t : Tg} {c : BV} {f : EV}
theorem bn_blk (bn : Bn X G W k) {s : Shared} {H : Hp} {cenv : Env} {fp : List Addr} : Bn (X.blk s H scope cenv fp) G W0 k where
  K := bn.K
  w := bn.w
  calm := bn.calm
  nd := bn.nd
  un := bn.un
  tk := fun _ _ ⟨_, _, _, _, _, _, _, _, _, _, _, _, _, _, _, _, w⟩ => w.elim
  hr := bn.hr
  po := PassesOwn.never
theorem tLc_of {σ : L2.St} {H : Hp} {Q : VK} (hv : ∀ i ∈ t.ix, i ∈ own.map (·.2)) (kf : List D → Hs → R D)
    (hk : ∀ F ι H F2 ι2 hE H2 D' xs DS, H D' = none → Stp F ι H F2 ι2 H2 → Rs G F2 ι2 hE H2 → H2 D' = some (.lst xs) → D' ∉ ι2 → F2 D' = none → RelL G F2 ι2 DS xs → Pst G F ι H (Rel G) (fun c H' => W (.ref (G.cl c)) none σ H') (kf DS hE) Q → Q (.ref D') H2)
    (q : tE G W (fun ρ h => (aLc (own.map (·.2)) fi t c f ρ h).bind kf) σ H Q) : tLc (tIi G W fi) (tgR G.K t) (tBb G W0 c) (tE G W0 f) (own.map (·.2)) σ H Q := by
  obtain ⟨ρ, h, F, ι, rs, r0, p⟩ := q
  refine ⟨ρ, h, F, ι, rs, r0, ?_⟩
  unfold aLc at p
  cases e : fi ρ h with
  | no => simp only [e] at p; exact p.elim
  | er c h' => simp only [e] at p; exact p
  | ok items h1 =>
    simp only [e] at p
    intro J H1 F1 ι1 s1 r1 src D' nD
    cases el : lcL t c f (wipeD (own.map (·.2)) ρ) items h1 with
    | no => simp only [el] at p; exact p.elim
    | er _ _ => simp only [el] at p; exact p.elim
    | ok ds h2 =>
      simp only [el] at p
      by_cases hl : ds.length ≤ sizeLine
      · simp only [if_pos hl] at p
        exact lc_run hv (rs.ext s1.toExt) r1 nD src el hl fun F2 ι2 H2 xs s2 r2 g1 g2 g3 g4 => hk F1 ι1 H1 F2 ι2 h2 H2 D' xs ds nD s2 r2 g1 g2 g3 g4 (Pst.ext s1 p)
      · simp only [if_neg hl] at p
        exact p.elim
theorem tLc_val {σ : L2.St} {H : Hp} {Q : VK} (hv : ∀ i ∈ t.ix, i ∈ own.map (·.2)) (q : tE G W (eLc (own.map (·.2)) fi t c f) σ H Q) : tLc (tIi G W fi) (tgR G.K t) (tBb G W0 c) (tE G W0 f) (own.map (·.2)) σ H Q := by
  refine tLc_of hv (fun ds h2 => .ok (.lst ds) h2) (fun F ι H F2 ι2 hE H2 D' xs DS nD s2 r2 g1 g2 g3 g4 p => ?_) q
  obtain ⟨r3, e3⟩ := r2.fixL g2 g3 g1
  exact p _ H2 _ ι2 (s2.fixL nD g3) r3 (.lst (.inl (.inl upd_same)) (RelL.ext e3 g4))
theorem tLc_box {σ : L2.St} {H : Hp} {Q : VK} (hv : ∀ i ∈ t.ix, i ∈ own.map (·.2)) (q : tE G W (eLcB (own.map (·.2)) fi t c f) σ H Q) : tLc (tIi G W fi) (tgR G.K t) (tBb G W0 c) (tE G W0 f) (own.map (·.2)) σ H Q := by
  refine tLc_of hv (fun ds h2 => .ok (.ref h2.length) (h2 ++ [Ob.lst ds])) (fun F ι H F2 ι2 hE H2 D' xs DS nD s2 r2 g1 g2 g3 g4 p => ?_) q
  obtain ⟨r3, e3⟩ := r2.boxL g2 g3 g1 g4
  refine p _ H2 _ _ (s2.boxL nD) r3 (.ref ?_)
  rw [← r2.len, List.getElem?_append_right (Nat.le_refl _), Nat.sub_self]
  rfl
theorem q_lc (bn : Bn X G W k) (hi : QI X G W tg iter fi) (own : List (Str × Nat)) (hg : ∀ s H C cl fp, QG (X.blk s H scope (compEnvC scope cl C X.env) fp) G tg t) (ht : ∀ s H C cl fp, Bn (X.blk s H scope (compEnvC scope cl C X.env) fp) G W0 k → QTs (X.blk s H scope (compEnvC scope cl C X.env) fp) G W0 ifs c)
    (he : ∀ s H C cl fp, Bn (X.blk s H scope (compEnvC scope cl C X.env) fp) G W0 k → QE (X.blk s H scope (compEnvC scope cl C X.env) fp) G W0 elt f) (ok : BlkOk X.N X.env.scope scope own := by exact blkOk_by (by rfl)) (hv : ∀ i ∈ t.ix, i ∈ own.map (·.2) := by decide) (hs : ∀ x, foldedSetIterable iter X.env x = pure x := by intro _; rfl) :
    QE X G W (.ListComp elt [⟨tg, iter, ifs, 0⟩] scope pos) (eLc (own.map (·.2)) fi t c f) :=
  qe_of (pe_lc bn.calm bn.nd hi ok hg (fun s H C cl fp => ht s H C cl fp (bn_blk bn)) (fun s H C cl fp => he s H C cl fp (bn_blk bn)) hs) fun σ H Q q => tLc_val hv q
theorem q_lcB (bn : Bn X G W k) (hi : QI X G W tg iter fi) (own : List (Str × Nat)) (hg : ∀ s H C cl fp, QG (X.blk s H scope (compEnvC scope cl C X.env) fp) G tg t) (ht : ∀ s H C cl fp, Bn (X.blk s H scope (compEnvC scope cl C X.env) fp) G W0 k → QTs (X.blk s H scope (compEnvC scope cl C X.env) fp) G W0 ifs c)
    (he : ∀ s H C cl fp, Bn (X.blk s H scope (compEnvC scope cl C X.env) fp) G W0 k → QE (X.blk s H scope (compEnvC scope cl C X.env) fp) G W0 elt f) (ok : BlkOk X.N X.env.scope scope own := by exact blkOk_by (by rfl)) (hv : ∀ i ∈ t.ix, i ∈ own.map (·.2) := by decide) (hs : ∀ x, foldedSetIterable iter X.env x = pure x := by intro _; rfl) :
    QE X G W (.ListComp elt [⟨tg, iter, ifs, 0⟩] scope pos) (eLcB (own.map (·.2)) fi t c f) :=
  qe_of (pe_lc bn.calm bn.nd hi ok hg (fun s H C cl fp => ht s H C cl fp (bn_blk bn)) (fun s H C cl fp => he s H C cl fp (bn_blk bn)) hs) fun σ H Q q => tLc_box hv q
/-- name = [..] -/
theorem tAsg_of {te : TE} {i : Nat} {f' : EV} {Dn : Ends} {σ : L2.St} {H : Hp} (ht : ∀ σ H Q, tE G W f' σ H Q → te σ H Q) (q : tSs G W (sSet i f') Dn σ H) : te σ H (fun x H1 => gName i x σ H1 Dn.nx) := by
  obtain ⟨ρ, h, F, ι, rs, r0, p⟩ := q
  exact ht _ _ _ (tSs.bind rs r0 p fun d h1 v H1 F1 ι1 e1 r1 q1 p1 => p1 _ H1 F1 ι1 (Stp.refl _ _ _) ((rs.ext e1.toExt).set q1) r1)
theorem qs_setLc (bn : Bn X G W k) {i : Nat} {y : Str} {py spos : Pos} (hi : QI X G W tg iter fi) (own : List (Str × Nat)) (hg : ∀ s H C cl fp, QG (X.blk s H scope (compEnvC scope cl C X.env) fp) G tg t) (ht : ∀ s H C cl fp, Bn (X.blk s H scope (compEnvC scope cl C X.env) fp) G W0 k → QTs (X.blk s H scope (compEnvC scope cl C X.env) fp) G W0 ifs c)
    (he : ∀ s H C cl fp, Bn (X.blk s H scope (compEnvC scope cl C X.env) fp) G W0 k → QE (X.blk s H scope (compEnvC scope cl C X.env) fp) G W0 elt f) (ok : BlkOk X.N X.env.scope scope own := by exact blkOk_by (by rfl)) (hv : ∀ i ∈ t.ix, i ∈ own.map (·.2) := by decide) (hs : ∀ x, foldedSetIterable iter X.env x = pure x := by intro _; rfl)
    (hy : X.N[i]? = some y := by rfl) (hyl : X.env.scope.names.lookup y = some .local := by rfl) (hk : X.env.scope.kind = .function := by rfl) (hl : (py.line == pos.line) = true := by rfl) (ha : (scope.names.any fun (n, k) => n == y && (k == .local || k == .cell)) = false := by rfl) :
    QS X G W (.Assign [.Name y py] (.ListComp elt [⟨tg, iter, ifs, 0⟩] scope pos) spos) (sSet i (eLc (own.map (·.2)) fi t c f)) :=
  qs_of (ps_setLc bn.calm bn.nd hy hyl (sw_true hk hyl hl ha) hi ok hg (fun s H C cl fp => ht s H C cl fp (bn_blk bn)) (fun s H C cl fp => he s H C cl fp (bn_blk bn)) hs) fun Dn σ H q => tAsg_of (fun σ H Q q => tLc_val hv q) q
theorem qs_setLcB (bn : Bn X G W k) {i : Nat} {y : Str} {py spos : Pos} (hi : QI X G W tg iter fi) (own : List (Str × Nat)) (hg : ∀ s H C cl fp, QG (X.blk s H scope (compEnvC scope cl C X.env) fp) G tg t) (ht : ∀ s H C cl fp, Bn (X.blk s H scope (compEnvC scope cl C X.env) fp) G W0 k → QTs (X.blk s H scope (compEnvC scope cl C X.env) fp) G W0 ifs c)
    (he : ∀ s H C cl fp, Bn (X.blk s H scope (compEnvC scope cl C X.env) fp) G W0 k → QE (X.blk s H scope (compEnvC scope cl C X.env) fp) G W0 elt f) (ok : BlkOk X.N X.env.scope scope own := by exact blkOk_by (by rfl)) (hv : ∀ i ∈ t.ix, i ∈ own.map (·.2) := by decide) (hs : ∀ x, foldedSetIterable iter X.env x = pure x := by intro _; rfl)
    (hy : X.N[i]? = some y := by rfl) (hyl : X.env.scope.names.lookup y = some .local := by rfl) (hk : X.env.scope.kind = .function := by rfl) (hl : (py.line == pos.line) = true := by rfl) (ha : (scope.names.any fun (n, k) => n == y && (k == .local || k == .cell)) = false := by rfl) :
    QS X G W (.Assign [.Name y py] (.ListComp elt [⟨tg, iter, ifs, 0⟩] scope pos) spos) (sSet i (eLcB (own.map (·.2)) fi t c f)) :=
  qs_of (ps_setLc bn.calm bn.nd hy hyl (sw_true hk hyl hl ha) hi ok hg (fun s H C cl fp => ht s H C cl fp (bn_blk bn)) (fun s H C cl fp => he s H C cl fp (bn_blk bn)) hs) fun Dn σ H q => tAsg_of (fun σ H Q q => tLc_box hv q) q
end
end U
/-! defs: a body over data is a map of data; calls -/
namespace U
open PySem PySem.Spec PyProof.Rows L2 RZ

section
variable {G : Gn} {F : Hp} {ι : List Addr}
theorem ix_lt {i : Nat} {a : Addr} (h : ι[i]? = some a) : decide (i < ι.length) = true := decide_eq_true (List.getElem?_eq_some_iff.mp h).1
mutual
theorem Rel.okD : ∀ {d : D} {v : V}, Rel G F ι d v → okD ι.length d = true
  | _, _, .non => by simp [U.okD]
  | _, _, .bl _ => by simp [U.okD]
  | _, _, .int _ => by simp [U.okD]
  | _, _, .str _ => by simp [U.okD]
  | _, _, .ty _ => by simp [U.okD]
  | _, _, .tup _ r => by simpa [U.okD] using RelL.okL r
  | _, _, .lst _ r => by simpa [U.okD] using RelL.okL r
  | _, _, .dic _ r => by simpa [U.okD] using RelK.okK r
  | _, _, .dit _ r => by simpa [U.okD] using RelT.okT r
  | _, _, .ref h => by simpa [U.okD] using ix_lt h
  | _, _, .any => by simp [U.okD]
theorem RelL.okL : ∀ {l : List D} {xs : List V}, RelL G F ι l xs → U.okL ι.length l = true
  | _, _, .nil => by simp [U.okL]
  | _, _, .cons h r => by simp [U.okL, Rel.okD h, RelL.okL r]
theorem RelK.okK : ∀ {l : List (Key × D)} {xs : List (Key × V)}, RelK G F ι l xs → U.okK ι.length l = true
  | _, _, .nil => by simp [U.okK]
  | _, _, .cons h r => by simp [U.okK, Rel.okD h, RelK.okK r]
theorem RelT.okT : ∀ {l : List (List Key × D)} {xs : List (List Key × V)}, RelT G F ι l xs → U.okT ι.length l = true
  | _, _, .nil => by simp [U.okT]
  | _, _, .cons h r => by simp [U.okT, Rel.okD h, RelT.okT r]
end
theorem RelF.okF {l : List (Str × D)} : ∀ {xs : List (Str × V)}, RelF G F ι l xs → U.okF ι.length l = true := by
  induction l with
  | nil => intro xs h; simp [U.okF]
  | cons p q ih => intro xs h; cases h with | cons h t => simp [U.okF, Rel.okD h, ih t]
theorem RelO.okO {o : Ob} {u : HO} (h : RelO G F ι o u) : U.okO ι.length o = true := by
  cases o <;> cases u <;> first
    | exact (show False from h).elim
    | rfl
    | exact RelL.okL h
    | exact RelK.okK h
    | exact RelT.okT h
    | exact RelF.okF h.2
end

/-- a call's own boxes are forgotten at its end -/
theorem Rs.cut {G : Gn} {F F' H H' : Hp} {ι ι' : List Addr} {h h' : Hs} (r0 : Rs G F ι h H) (s : Stp F ι H F' ι' H') (r : Rs G F' ι' h' H') (c : chk h.length h h' = true) :
    Stp F ι H F' ι H' ∧ Rs G F' ι (h'.take h.length) H' ∧ ι'.take h.length = ι := by
  have e : ι'.take h.length = ι := by
    rw [← r0.len]
    exact (List.prefix_iff_eq_take.mp s.bx).symm
  have hl := chk_len c
  have at' : ∀ {i : Nat} {a : Addr}, ι[i]? = some a → ι'[i]? = some a := fun h => s.toExt.at_ h
  refine ⟨s.cut (by rw [r0.len]; exact e), ⟨r.fz, r.nf, fun i a o m e2 e3 => ?_, by rw [List.length_take, r0.len]; omega, r0.nd, fun i o q => ?_, r.tabs⟩, e⟩
  · have hi : i < h.length := by
      rw [← r0.len]
      exact (List.getElem?_eq_some_iff.mp m).1
    rw [List.getElem?_take_of_lt hi] at e2
    exact r.sep i a o (at' m) e2 e3
  · have hi : i < h.length := by
      have := (List.getElem?_eq_some_iff.mp q).1
      rw [List.length_take] at this
      omega
    rw [List.getElem?_take_of_lt hi] at q
    obtain ⟨a, u, g1, g2, g3⟩ := r.obj i o q
    have hz : i < ι.length := by rw [r0.len]; exact hi
    have g4 : ι[i]? = some ι[i] := List.getElem?_eq_getElem hz
    have g5 := at' g4
    rw [g1] at g5
    cases g5
    refine ⟨_, u, g4, g2, ?_⟩
    have ok : okO h.length o = true := by
      rcases chk_at c hi q with z | z
      · obtain ⟨b, x, _, _, z3⟩ := r0.obj i o z
        rw [← r0.len]
        exact RelO.okO z3
      · exact z
    have := RelO.cut ok g3
    rw [e] at this
    exact this

/-- a call's end: its own boxes are kept, or forgotten -/
def fin (keep : Bool) (h : Hs) (d : D) (h' : Hs) : R D := if keep = true then .ok d h' else if (okD h.length d && chk h.length h h') = true then .ok d (h'.take h.length) else .no
def finE (keep : Bool) (h : Hs) (c : Nat) (h' : Hs) : R D := if keep = true then .er c h' else if chk h.length h h' = true then .er c (h'.take h.length) else .no
def runD (np n : Nat) (keep : Bool) (b : SV) (ds : List D) (h : Hs) : R D :=
  if ds.length = np then match b (ds.map some ++ List.replicate (n - ds.length) none) h with
    | .nx _ h' => fin keep h .non h'
    | .rt d h' => fin keep h d h'
    | .er c _ h' => finE keep h c h'
    | _ => .no
  else .no
abbrev DF := List D → Hs → R D
def spD (G : Gn) (m : DF) : Sp := fun vs H Q E => ∃ ds h F ι, RelL G F ι ds vs ∧ Rs G F ι h H ∧ Pst G F ι H (Rel G) (fun c H' => E (.ref (G.cl c)) none H') (m ds h) Q
/-- m takes n things -/
def Ar (m : DF) (n : Nat) : Prop := ∀ ds h, ds.length ≠ n → m ds h = .no
theorem ar_run {np n : Nat} {keep : Bool} {b : SV} : Ar (runD np n keep b) np := fun ds h e => by
  unfold runD
  rw [if_neg e]
theorem Pst.fin {G : Gn} {F F' H H' : Hp} {ι ι' : List Addr} {h h' : Hs} {W : Nat → Hp → Prop} {keep : Bool} {d : D} {v : V} {Q : VK} (r0 : Rs G F ι h H) (s : Stp F ι H F' ι' H') (r : Rs G F' ι' h' H') (q : Rel G F' ι' d v)
    (p : Pst G F ι H (Rel G) W (fin keep h d h') Q) : Q v H' := by
  unfold U.fin at p
  split at p
  · exact p v H' F' ι' s r q
  · split at p
    · rename_i c
      rw [Bool.and_eq_true] at c
      obtain ⟨s', r', e⟩ := r0.cut s r c.2
      have q' := Rel.cut c.1 q
      rw [e] at q'
      exact p v H' F' ι s' r' q'
    · exact p.elim
theorem Pst.finE {G : Gn} {F F' H H' : Hp} {ι ι' : List Addr} {h h' : Hs} {W : Nat → Hp → Prop} {keep : Bool} {c : Nat} {Q : VK} (r0 : Rs G F ι h H) (s : Stp F ι H F' ι' H') (r : Rs G F' ι' h' H')
    (p : Pst G F ι H (Rel G) W (finE keep h c h') Q) : W c H' := by
  unfold U.finE at p
  split at p
  · exact p H' F' ι' s r
  · split at p
    · rename_i c
      obtain ⟨s', r', e⟩ := r0.cut s r c
      exact p H' F' ι s' r'
    · exact p.elim
section
variable {P : Program} {w : World} {K : PySem.W.Frag} {mg : Str → Option Value} {base : Heap} {k : Nat} {N ps : List Str} {qual : Str} {scope : Scope} {f : Addr} {cdv : Value} {A : Around} {outer : List Env} {s : Shared} {H : Hp} {E : XK} {G : Gn}
theorem bn_cx (hK : G.K = K) (hw : G.w = w) (S : FnScope N ps scope) (hr : Room k (A.deeper (envOfC qual scope s.heap.objs.size f cdv))) : Bn (cxOf (L2.CX P w) P w K mg base N qual scope f cdv A outer s H E) G (fun cls d _ H => E cls d H) k where
  K := hK.symm
  w := hw.symm
  calm := rfl
  nd := S.nd
  tk := takes_of rfl rfl rfl rfl
  hr := hr
  un := by
    have := hr.un
    show (A.deeper (envOfC qual scope s.heap.objs.size f cdv)).units + 150 < cLine
    omega
  po := passes_of rfl
variable {x : Str} {params : Arguments} {body : List Stmt} {dvs : List V} {kws : List (Str × V)} {fd : FuncData} {b : SV}
/-- THE RULE of a def -/
theorem fn_ok (F : FunD K x qual params body scope dvs kws f fd) (S : FnScope N ps scope) (hK : G.K = K) (hw : G.w = w) (keep : Bool)
    (hb : ∀ (cdv : Value) (A : Around) (outer : List Env) (s : Shared) (H : Hp) (E : XK) (W : WX), Bn (cxOf (L2.CX P w) P w K mg base N qual scope f cdv A outer s H E) G W k → QSs (cxOf (L2.CX P w) P w K mg base N qual scope f cdv A outer s H E) G W body b) :
    FnOk P w K mg base (L2.CX P w) (k + 1) f fd ps (spD G (runD ps.length N.length keep b)) := by
  refine F.ok S (fun vs H Q E ⟨ds, h, F0, ι, r1, r0, p⟩ => ?_) (fun cdv A outer s H vs Q E hr ⟨ds, h, F0, ι, r1, r0, p⟩ => ⟨tSs G (fun cls d _ H => E cls d H) b, hb cdv A outer s H E _ (bn_cx hK hw S hr), ?_⟩)
  · rw [← r1.len]
    unfold runD at p
    split at p
    · assumption
    · exact p.elim
  · unfold runD at p
    split at p
    · refine ⟨_, h, F0, ι, relS_start N r1, r0, ?_⟩
      cases e : b (ds.map some ++ List.replicate (N.length - ds.length) none) h with
      | nx ρ' h' =>
        simp only [e] at p
        exact fun σ' H' F' ι' s rs r => p.fin r0 s r .non
      | rt d h' =>
        simp only [e] at p
        exact fun v H' F' ι' s r q => p.fin r0 s r q
      | er c ρ' h' =>
        simp only [e] at p
        exact fun σ' H' F' ι' s rs r => p.finE r0 s r
      | bk _ _ => simp only [e] at p; exact p.elim
      | ct _ _ => simp only [e] at p; exact p.elim
      | no => simp only [e] at p; exact p.elim
    · exact p.elim
end

/-! ### calls -/
def eCall (m : DF) (g : AV) : EV := fun ρ h => (g ρ h).bind m
section
variable {X : Cx} {G : Gn} {W : WX} {k j : Nat} {x : Str} {f : Addr} {fd : FuncData} {ps : List Str} {m : DF} {e : Expr} {es : List Expr} {ga : AV} {p pos : Pos}
/-- a def as its callers see it -/
structure Fd (P : Program) (w : World) (K : PySem.W.Frag) (mg : Str → Option Value) (base : Heap) (G : Gn) (j : Nat) (x : Str) (m : DF) : Prop where
  ex : ∃ (f : Addr) (fd : FuncData) (ps : List Str), (∀ fi, FnOk P w K mg base (L2.CX P w) j f fd ps (spD (G.wi fi) m)) ∧ mg x = some (.ref f) ∧ PySem.W.keepIn K (.ref f) = true ∧ Binds K fd ps []
theorem Fd.wi {P : Program} {w : World} {K : PySem.W.Frag} {mg : Str → Option Value} {base : Heap} (F : Fd P w K mg base G j x m) (fi : Nat → FnI) : Fd P w K mg base (G.wi fi) j x m := ⟨F.ex⟩
theorem q_call (bn : Bn X G W k) (F : Fd X.prog X.w X.K X.mg X.base G j x m) (ha : QA X G W (e :: es) ga) (hj : j ≤ k := by decide) (hg : Gl X x := by rfl) (hdb : (x == ("__debug__" : Str)) = false := by decide)
    (he : starEach (e :: es) X.env = (false, eval e X.env) :: starEach es X.env := by rfl) (hpl : (backTo pos (starEach es X.env)).any (·.1) = false := by rfl) : QE X G W (.Call (.Name x p) (e :: es) [] pos) (eCall m ga) := by
  obtain ⟨f, fd, ps, F, hm, hk, hb⟩ := F.ex
  have F : FnOk X.prog X.w X.K X.mg X.base (L2.CX X.prog X.w) j f fd ps (spD G m) := F G.fi
  refine qe_of (pe_callS (E := WE W) F (bn.hr.mono hj) hg hm hk hb (passAt bn.tk) ha hdb he hpl) fun σ H Q ⟨ρ, h, F0, ι, rs, r0, p⟩ => ?_
  exact ⟨ρ, h, F0, ι, rs, r0, p.bind fun ds h1 vs H1 F1 ι1 e1 r1 q1 p1 => ⟨ds, h1, F1, ι1, q1, r1, p1⟩⟩
end

/-! ### the law's end -/
theorem sp_law {G : Gn} {m : DF} {H : Hp} {a : Addr} {ns : List Int} {h' : Hs} (hT : ∀ q ∈ G.T, H q.1 = some (.tbl #[])) (hS : SqL G.K H a (ns.map V.int)) (e : m [.lst (ns.map .int)] [] = .ok (.bl true) h') : spD G m [.ref a] H (fun v _ => v = .bl true) fun _ _ _ => False := by
  have rl : ∀ (F : Hp) (l : List Int), RelL G F [] (l.map .int) (l.map V.int) := fun F l => by
    induction l with
    | nil => exact .nil
    | cons z l ih => exact .cons (.int z) ih
  have tabs : LamX.Tabs G.T H := fun q hq => LamX.TabS.nil (hT q hq)
  have main : ∀ F : Hp, (∀ b u, F b = some u → Rd H b u ∧ NFx u) → SqL G.K F a (ns.map V.int) → spD G m [.ref a] H (fun v _ => v = .bl true) fun _ _ _ => False := fun F h1 h2 => by
    refine ⟨[.lst (ns.map .int)], [], F, [], .cons (.lst h2 (rl F ns)) .nil, ⟨fun b u z => (h1 b u z).1, fun b u z => (h1 b u z).2, fun i a o m => by simp at m, rfl, List.nodup_nil, fun i o q => by simp at q, tabs⟩, ?_⟩
    rw [e]
    exact fun v H' F' ι' _ _ q => by cases q; rfl
  rcases hS with q | q
  · refine main (fun b => if b = a then some (.lst (ns.map V.int)) else none) (fun b u z => ?_) (.inl (.inl (if_pos rfl)))
    by_cases hb : b = a
    · rw [if_pos hb] at z
      cases z
      rw [hb]
      exact ⟨q, fun _ _ z => (nomatch z), fun _ z => (nomatch z)⟩
    · rw [if_neg hb] at z
      cases z
  · exact main (fun _ => none) (fun b u z => by cases z) (.inr q)
theorem cx_none {P : Program} {w : World} (H : Hp) (s : Shared) (e : Value) (s' : Shared) (h : L2.CX P w [] H s (fun _ _ _ => False) e s') : False := by
  obtain ⟨_, _, _, _, _, _, _, _, _, _, _, _, z⟩ := h
  exact z
end U
/-! odds and ends: chains as tests, minus -/
namespace U
open PySem PySem.Spec PyProof.Rows L2 RZ
section
variable {X : Cx} {G : Gn} {W : WX} {k : Nat} {a b c : Expr} {fa fb fc : EV} {pos : Pos}
theorem tChain_of {op op' : Op2} {σ : L2.St} {H : Hp} {Q : VK} (q : tE G W (eChain op op' fa fb fc) σ H Q) : tChain (rOf G op) (rOf G op') (tE G W fa) (tE G W fb) (tE G W fc) σ H Q := by
  obtain ⟨ρ, h, F, ι, rs, r0, p⟩ := q
  refine tE.bind rs r0 p fun dx h1 x H1 F1 ι1 e1 r1 q1 p1 => ?_
  refine tE.bind (rs.ext e1.toExt) r1 p1 fun dy h2 y H2 F2 ι2 e2 r2 q2 p2 => ?_
  cases e : op dx dy h2 with
  | none => simp only [e] at p2; exact p2.elim
  | some d =>
    simp only [e] at p2
    refine ⟨dx, dy, h2, F2, ι2, r2, q1.ext e2.toExt, q2, d, e, fun v H' F' ι' e3 r3 q3 => ?_⟩
    cases d with
    | bl t =>
      cases q3
      refine ⟨t, rfl, ?_⟩
      cases t with
      | false => exact p2 _ H' F' ι' e3 r3 (.bl false)
      | true =>
        refine tE.bind ((rs.ext e1.toExt).ext (e2.trans e3).toExt) r3 (Pst.ext e3 p2) fun dz h4 z H4 F4 ι4 e4 r4 q4 p4 => ?_
        cases e5 : op' dy dz h4 with
        | none => simp only [e5] at p4; exact p4.elim
        | some d' =>
          simp only [e5] at p4
          exact ⟨dy, dz, h4, F4, ι4, r4, q2.ext (e3.trans e4).toExt, q4, d', e5, p4⟩
    | _ => exact p2.elim
theorem qt_chain {o o' : CmpOp} {op op' : Op2} (ho : OpR X (compareOp o) (rOf G op)) (ho' : OpR X (compareOp o') (rOf G op')) (ha : QE X G W a fa) (hb : QE X G W b fb) (hc : QE X G W c fc)
    (hm : lastMarks [o, o'] [b, c] = false := by rfl) : QT X G W (.Compare a [o, o'] [b, c] pos) (bE (eChain op op' fa fb fc)) :=
  qt_of (pt_chain ho ho' ha hb hc hm) fun σ H Q q => tChain_of (tB_of q)
def eNeg (fa : EV) : EV := fun ρ h => (fa ρ h).bind fun d h1 => match d with
  | .int i => .ok (.int (-i)) h1
  | _ => .no
theorem q_neg (ha : QE X G W a fa) : QE X G W (.UnaryOp .USub a pos) (eNeg fa) := by
  refine qe_of (pe_un un_neg ha) fun σ H Q ⟨ρ, h, F, ι, rs, r0, p⟩ => tE.bind rs r0 p fun d h1 v H1 F1 ι1 e1 r1 q1 p1 => ?_
  cases d with
  | int i =>
    cases q1
    exact ⟨i, rfl, Pst.okk p1 r1 (.int _)⟩
  | _ => exact p1.elim
end
theorem seqC {f : EV} {z : Str} (e : f = eC (.str z)) : ∀ ρ h d h', f ρ h = .ok d h' → ∃ z, d = .str z := by
  intro ρ h d h' q
  rw [e] at q
  cases q
  exact ⟨z, rfl⟩
theorem str_eC (z : Str) : ∀ ρ h d h', eC (.str z) ρ h = .ok d h' → ∃ z, d = .str z := seqC rfl
end U
/-! defs by the head's facts; the end of a law -/
namespace U
open PySem PySem.Spec PyProof.Rows L2 RZ
theorem bo_len : bootBuiltins "len" = some (.builtin "len") := by decide +kernel
theorem bo_all : bootBuiltins "all" = some (.builtin "all") := by decide +kernel
theorem bo_any : bootBuiltins "any" = some (.builtin "any") := by decide +kernel
theorem bo_min : bootBuiltins "min" = some (.builtin "min") := by decide +kernel
theorem bo_max : bootBuiltins "max" = some (.builtin "max") := by decide +kernel
theorem bo_tuple : bootBuiltins "tuple" = some (.type "tuple") := by decide +kernel
theorem bo_list : bootBuiltins "list" = some (.type "list") := by decide +kernel
theorem bo_int : bootBuiltins "int" = some (.type "int") := by decide +kernel
theorem bo_str : bootBuiltins "str" = some (.type "str") := by decide +kernel
theorem bo_bool : bootBuiltins "bool" = some (.type "bool") := by decide +kernel
theorem bo_dict : bootBuiltins "dict" = some (.type "dict") := by decide +kernel

/-- a def of the top, as the head tells it -/
structure FDf (K : PySem.W.Frag) (mg : Str → Option Value) (x : Str) (st : Stmt) : Prop where
  ex : ∃ (f : Addr) (fd : FuncData), FunD K x x (defArgs st) (defBody st) (defScope st) [] [] f fd ∧ mg x = some (.ref f)
def BindsF (x : Str) (st : Stmt) (ps : List Str) : Prop :=
  ∀ (kV doc pm : Value) (an : Option Addr) (cdv ct : Value) (us : List Value), us.length = ps.length → bindArgs (PySem.W.fnOf x x (defArgs st) (defBody st) (defScope st) .none kV doc pm an cdv ct) ⟨us, []⟩ = pure (ps.zip us)
section
variable {P : Program} {w : World} {K : PySem.W.Frag} {mg : Str → Option Value} {base : Heap} {G : Gn} {x : Str} {st : Stmt} {N ps : List Str} {n : Nat} {b : SV}
theorem Fd.zero (D : FDf K mg x st) (hb : BindsF x st ps) : Fd P w K mg base G 0 x (fun _ _ => .no) := by
  obtain ⟨f, fd, F, e⟩ := D.ex
  exact ⟨f, fd, ps, fun fi => ⟨fun vs H Q E ⟨_, _, _, _, _, _, p⟩ => p.elim, fun A outer s H args us vs Q E _ _ _ _ ⟨_, _, _, _, _, _, p⟩ => p.elim⟩, e, F.kp, F.bindsN hb⟩
theorem Fd.succ (D : FDf K mg x st) (S : FnScope N ps (defScope st)) (hK : G.K = K) (hw : G.w = w) (keep : Bool) (hb : BindsF x st ps)
    (d : ∀ (fi : Nat → FnI) (f : Addr) (cdv : Value) (A : Around) (outer : List Env) (s : Shared) (H : Hp) (E : XK) (W : WX), Bn (cxOf (L2.CX P w) P w K mg base N x (defScope st) f cdv A outer s H E) (G.wi fi) W n → QSs (cxOf (L2.CX P w) P w K mg base N x (defScope st) f cdv A outer s H E) (G.wi fi) W (defBody st) b) :
    Fd P w K mg base G (n + 1) x (runD ps.length N.length keep b) := by
  obtain ⟨f, fd, F, e⟩ := D.ex
  exact ⟨f, fd, ps, fun fi => fn_ok (G := G.wi fi) F S hK hw keep (d fi f), e, F.kp, F.bindsN hb⟩
end
/-- the end of a law's row; cs: code objects with their tables -/
theorem walk_law {l : PySem.W.OpenLaw} {n : Nat} {q : Program} {loose : List Str} {XP : (Str → Option Value) → Heap → Prop} {YP : World → Heap → Prop} {d : DefRec} {x : Str} (hn : l.most = some n) (hn2 : n ≤ sizeLine) (hdf : d.params.defaults = [])
    (F : ∀ (w : World) (mg : Str → Option Value) (fa : Addr) (h : Heap), YP w h → h.Ns mainGlobals mg → mg d.name = some (.ref fa) →
      ∃ (K : PySem.W.Frag) (G : Gn) (m : DF) (k : Nat) (fd : FuncData) (cs : List (Addr × Addr)), K.In h ∧ G.K = K ∧ Room k callerA ∧ (∀ p ∈ cs, h.get? p.2 = some { cls := .none, data := .fields #[] }) ∧ (∀ p ∈ cs, K.lookup p.2 = none) ∧ (∀ p ∈ cs, PySem.W.CodeHd h p.1 p.2) ∧
        (∀ q ∈ G.T, ∃ p ∈ cs, q.1 = p.2) ∧ (∀ (s : Shared) (u : Value), BindsTo s fd ⟨[u], []⟩ [(x, u)]) ∧
        (∀ ns : List Int, ns.length ≤ n → (∀ z ∈ ns, Builtin.Int.intBits z ≤ 1048576) → ∃ h', m [.lst (ns.map .int)] [] = .ok (.bl true) h') ∧
        ∀ base : Heap, K.In base → base.Ns mainGlobals mg → (∀ p ∈ cs, LamX.TabB base mg p.1 p.2) → FnOk l.prog w K mg base (L2.CX l.prog w) k fa fd [x] (spD G m)) :
    PySem.W.WalkO q loose XP YP l.row.toRowW d [] (fun f vs => PySem.call f vs) := by
  refine Att.attach_callB hn hdf fun w s₀ s₁ mg mb fa o pm cd doc a vs ns G Y ho hd hcd hmg hobj hints hlen hbits hg => ?_
  obtain ⟨K, GG, m, k, fd, cs, KX, hK, hr, c1, c2, c3, c4, hb, hsp, hF⟩ := F w mg fa _ Y G.T.g hmg
  refine LamX.law_callTs KX G.T.g G.T.b G.T.builtins G.T.nolimit hg c1 c2 c3 G.T.bmain hobj hints (Nat.le_trans hlen hn2) hr hF hb (fun H hH hS => ?_) fun H e s' => cx_none H s₁ e s'
  obtain ⟨h', e⟩ := hsp ns hlen hbits
  refine sp_law (fun q hq => ?_) (by rw [hK]; exact hS) e
  obtain ⟨p, hp, e⟩ := c4 q hq
  rw [e]
  exact hH p hp
end U
/-! reckoning with the readings: plain lemmas -/
namespace U
open PySem PySem.Spec PyProof.Rows L2 RZ
section
variable {ρ ρ' ρ1 : Rho} {h h' h1 h2 h3 : Hs} {d x y z : D} {i j : Int}
theorem mul_l (hi : i.natAbs < 2 ^ 64) : opMul (.int i) (.int j) h = some (.int (i * j)) := by
  show (if _ then _ else _) = _
  rw [if_pos (.inl (.inl hi))]
theorem mul_r (hj : j.natAbs < 2 ^ 64) : opMul (.int i) (.int j) h = some (.int (i * j)) := by
  show (if _ then _ else _) = _
  rw [if_pos (.inl (.inr hj))]
theorem mod_p (hj : 0 < j) : opMod (.int i) (.int j) h = some (.int (i % j)) := by
  show (if _ then _ else _) = _
  rw [if_pos hj]
theorem div_p (hj : 0 < j ∧ j.natAbs.log2 < 9000) : opDiv (.int i) (.int j) h = some (.int (i / j)) := by
  show (if _ then _ else _) = _
  rw [if_pos hj]
theorem add_i : opAdd (.int i) (.int j) h = some (.int (i + j)) := rfl
theorem add_s {a b : Str} (q : a.length + b.length ≤ sizeLine) : opAdd (.str a) (.str b) h = some (.str (a ++ b)) := by
  show (if _ then _ else _) = _
  rw [if_pos q]
theorem add_t {a b : List D} (q : a.length + b.length ≤ sizeLine) : opAdd (.tup a) (.tup b) h = some (.tup (a ++ b)) := by
  show (if _ then _ else _) = _
  rw [if_pos q]
theorem op_ok {op : Op2} {fa fb : EV} (ha : fa ρ h = .ok x h1) (hb : fb ρ h1 = .ok y h2) (ho : op x y h2 = some d) : eOp op fa fb ρ h = .ok d h2 := by
  unfold eOp
  rw [ha, R.bind_ok, hb, R.bind_ok, ho]
theorem chain_t {op op' : Op2} {fa fb fc : EV} (ha : fa ρ h = .ok x h1) (hb : fb ρ h1 = .ok y h2) (ho : op x y h2 = some (.bl true)) (hc : fc ρ h2 = .ok z h3) (ho' : op' y z h3 = some d) : eChain op op' fa fb fc ρ h = .ok d h3 := by
  unfold eChain
  rw [ha, R.bind_ok, hb, R.bind_ok, ho]
  show (fc ρ h2).bind _ = _
  rw [hc, R.bind_ok, ho']
theorem chain_f {op op' : Op2} {fa fb fc : EV} (ha : fa ρ h = .ok x h1) (hb : fb ρ h1 = .ok y h2) (ho : op x y h2 = some (.bl false)) : eChain op op' fa fb fc ρ h = .ok (.bl false) h2 := by
  unfold eChain
  rw [ha, R.bind_ok, hb, R.bind_ok, ho]
theorem cal_ok {op : Op1} {fa : EV} (ha : fa ρ h = .ok x h1) (ho : op x h1 = some d) : eCal op fa ρ h = .ok d h1 := by
  unfold eCal
  rw [ha, R.bind_ok, ho]
theorem call_ok {m : DF} {g : AV} {ds : List D} (hg : g ρ h = .ok ds h1) (e : m ds h1 = .ok d h2) : eCall m g ρ h = .ok d h2 := by
  unfold eCall
  rw [hg, R.bind_ok, e]
theorem cons_ok {f : EV} {g : AV} {ds : List D} (hf : f ρ h = .ok d h1) (hg : g ρ h1 = .ok ds h2) : aCons f g ρ h = .ok (d :: ds) h2 := by
  unfold aCons
  rw [hf, R.bind_ok, hg, R.bind_ok]
theorem tup_ok {g : AV} {ds : List D} (hg : g ρ h = .ok ds h1) (q : ds.length ≤ sizeLine) : eTup g ρ h = .ok (.tup ds) h1 := by
  unfold eTup
  rw [hg, R.bind_ok, if_pos q]
theorem lst_ok {g : AV} {ds : List D} (hg : g ρ h = .ok ds h1) (q : ds.length ≤ sizeLine) : eLst g ρ h = .ok (.lst ds) h1 := by
  unfold eLst
  rw [hg, R.bind_ok, if_pos q]
theorem sl_ok {fa : EV} {lo hi : PV} {l u : Option Int} (ha : fa ρ h = .ok x h1) (hl : lo ρ h1 = .ok l h2) (hu : hi ρ h2 = .ok u h3) (ho : opSl x l u h3 = some d) : eSl fa lo hi ρ h = .ok d h3 := by
  unfold eSl
  rw [ha, R.bind_ok, hl, R.bind_ok, hu, R.bind_ok, ho]
theorem some_ok {f : EV} (hf : f ρ h = .ok (.int i) h1) : pSome f ρ h = .ok (some i) h1 := by
  unfold pSome
  rw [hf, R.bind_ok]
/-! tests -/
variable {b b' : Bool}
theorem be_ok {f : EV} (e : f ρ h = .ok (.bl b) h1) : bE f ρ h = .ok b h1 := by
  unfold bE
  rw [e, R.bind_ok]
theorem bnot_ok {f : BV} (e : f ρ h = .ok b h1) : bNot f ρ h = .ok (!b) h1 := by
  unfold bNot
  rw [e, R.bind_ok]
theorem bor_t {f g : BV} (e : f ρ h = .ok true h1) : bOr f g ρ h = .ok true h1 := by
  unfold bOr
  rw [e, R.bind_ok, if_pos rfl]
theorem bor_f {f g : BV} (e : f ρ h = .ok false h1) (e2 : g ρ h1 = .ok b h2) : bOr f g ρ h = .ok b h2 := by
  unfold bOr
  rw [e, R.bind_ok, if_neg (by decide), e2]
theorem band_f {f g : BV} (e : f ρ h = .ok false h1) : bAnd f g ρ h = .ok false h1 := by
  unfold bAnd
  rw [e, R.bind_ok, if_neg (by decide)]
theorem band_t {f g : BV} (e : f ρ h = .ok true h1) (e2 : g ρ h1 = .ok b h2) : bAnd f g ρ h = .ok b h2 := by
  unfold bAnd
  rw [e, R.bind_ok, if_pos rfl, e2]
/-- both at once, where the second is known, too -/
theorem bor_b {f g : BV} (e : f ρ h = .ok b h) (e2 : g ρ h = .ok b' h) : bOr f g ρ h = .ok (b || b') h := by
  cases b with
  | true => exact bor_t e
  | false => exact bor_f e e2
theorem band_b {f g : BV} (e : f ρ h = .ok b h) (e2 : g ρ h = .ok b' h) : bAnd f g ρ h = .ok (b && b') h := by
  cases b with
  | true => exact band_t e e2
  | false => exact band_f e
theorem eand_t {f g : EV} (e : f ρ h = .ok (.bl true) h1) : eAnd f g ρ h = g ρ h1 := by
  unfold eAnd
  rw [e, R.bind_ok]
theorem eand_f {f g : EV} (e : f ρ h = .ok (.bl false) h1) : eAnd f g ρ h = .ok (.bl false) h1 := by
  unfold eAnd
  rw [e, R.bind_ok]
theorem eor_f {f g : EV} (e : f ρ h = .ok (.bl false) h1) : eOr f g ρ h = g ρ h1 := by
  unfold eOr
  rw [e, R.bind_ok]
theorem eor_t {f g : EV} (e : f ρ h = .ok (.bl true) h1) : eOr f g ρ h = .ok (.bl true) h1 := by
  unfold eOr
  rw [e, R.bind_ok]
/-! statements -/
theorem fin_same (ok : okD h.length d = true) : fin false h d h = .ok d h := by
  unfold fin
  rw [if_neg (by decide), ok, chk_rfl, List.take_length]
  rfl
theorem fin_app {g : Hs} (ok : okD h.length d = true) : fin false h d (h ++ g) = .ok d h := by
  unfold fin
  rw [if_neg (by decide), ok, chk_app, List.take_left]
  rfl
theorem set_ok {i : Nat} {f : EV} (e : f ρ h = .ok d h') : sSet i f ρ h = .nx (ρ.set i (some d)) h' := by
  unfold sSet sE
  rw [e]
theorem ret_ok {f : EV} (e : f ρ h = .ok d h') : sRet f ρ h = .rt d h' := by
  unfold sRet sE
  rw [e]
theorem expr_ok {f : EV} (e : f ρ h = .ok d h') : sExpr f ρ h = .nx ρ h' := by
  unfold sExpr sE
  rw [e]
theorem seq_nx {s t : SV} (e : s ρ h = .nx ρ' h') : sSeq s t ρ h = t ρ' h' := by
  unfold sSeq
  rw [e]
theorem seq_rt {s t : SV} (e : s ρ h = .rt d h') : sSeq s t ρ h = .rt d h' := by
  unfold sSeq
  rw [e]
theorem run_rt {np n : Nat} {b : SV} {ds : List D} (hl : ds.length = np) (e : b (ds.map some ++ List.replicate (n - ds.length) none) h = .rt d h) (ok : okD h.length d = true) : runD np n false b ds h = .ok d h := by
  unfold runD
  rw [if_pos hl, e]
  exact fin_same ok
theorem run_rta {np n : Nat} {b : SV} {ds : List D} {g : Hs} (hl : ds.length = np) (e : b (ds.map some ++ List.replicate (n - ds.length) none) h = .rt d (h ++ g)) (ok : okD h.length d = true) : runD np n false b ds h = .ok d h := by
  unfold runD
  rw [if_pos hl, e]
  exact fin_app ok
theorem if_t {c : BV} {s t : SV} (e : c ρ h = .ok true h') : sIf c s t ρ h = s ρ h' := by
  unfold sIf sT
  rw [e]
  rfl
theorem if_f {c : BV} {s t : SV} (e : c ρ h = .ok false h') : sIf c s t ρ h = t ρ h' := by
  unfold sIf sT
  rw [e]
  rfl
end
section
variable {ρ ρ' : Rho} {h h' h2 : Hs} {d : D} {i j : Int}
theorem sif_f {c : BV} {s t : SV} (e : c ρ h = .ok false h') : sSeq (sIf c s sNil) t ρ h = t ρ h' := seq_nx (if_f e)
theorem sif_t {c : BV} {s u t : SV} (e : c ρ h = .ok true h') (e2 : s ρ h' = .rt d h2) : sSeq (sIf c s u) t ρ h = .rt d h2 := seq_rt ((if_t e).trans e2)
theorem lt_i : opLt (.int i) (.int j) h = some (.bl (decide (i < j))) := rfl
theorem le_i : opLe (.int i) (.int j) h = some (.bl (decide (i ≤ j))) := rfl
theorem gt_i : opGt (.int i) (.int j) h = some (.bl (decide (j < i))) := rfl
theorem ge_i : opGe (.int i) (.int j) h = some (.bl (decide (j ≤ i))) := rfl
theorem eq_i : opEq (.int i) (.int j) h = some (.bl (i == j)) := rfl
theorem ne_i : opNe (.int i) (.int j) h = some (.bl (!(i == j))) := rfl
theorem eq_s {a b : Str} : opEq (.str a) (.str b) h = some (.bl (a == b)) := rfl
theorem ne_b {a b : Bool} : opNe (.bl a) (.bl b) h = some (.bl (!(a == b))) := rfl
end
/-! loops -/
section
variable {t : Tg} {c : BV} {f : EV} {s : SV} {ρ : Rho} {h : Hs}
/-- a comprehension whose parts leave the small heap -/
theorem lcL_map {p : D → Bool} {g : D → D} : ∀ items : List D, (∀ d ∈ items, ∃ ρ1, t.set d ρ = some ρ1 ∧ c ρ1 h = .ok (p d) h ∧ (p d = true → f ρ1 h = .ok (g d) h)) → lcL t c f ρ items h = .ok ((items.filter p).map g) h
  | [], _ => rfl
  | d :: l, hh => by
    obtain ⟨ρ1, e1, e2, e3⟩ := hh d (List.mem_cons_self ..)
    have ih := lcL_map (p := p) (g := g) l fun d m => hh d (List.mem_cons_of_mem _ m)
    unfold lcL
    simp only [e1, e2]
    cases q : p d with
    | true => simp only [e3 q, ih, List.filter_cons, q, if_true, List.map_cons]
    | false => simp only [ih, List.filter_cons, q, if_false, Bool.false_eq_true]
theorem lc_ok {own : List Nat} {fi : AV} {items : List D} {p : D → Bool} {g : D → D} (hi : fi ρ h = .ok items h)
    (hh : ∀ d ∈ items, ∃ ρ1, t.set d (wipeD own ρ) = some ρ1 ∧ c ρ1 h = .ok (p d) h ∧ (p d = true → f ρ1 h = .ok (g d) h)) (hl : items.length ≤ sizeLine) : eLc own fi t c f ρ h = .ok (.lst ((items.filter p).map g)) h := by
  unfold eLc aLc
  simp only [hi, lcL_map items hh]
  rw [if_pos (Nat.le_trans (by rw [List.length_map]; exact List.length_filter_le ..) hl), R.bind_ok]
/-- without a test -/
theorem lc_all {own : List Nat} {fi : AV} {items : List D} {g : D → D} (hi : fi ρ h = .ok items h)
    (hh : ∀ d ∈ items, ∃ ρ1, t.set d (wipeD own ρ) = some ρ1 ∧ f ρ1 h = .ok (g d) h) (hl : items.length ≤ sizeLine) : eLc own fi t bYes f ρ h = .ok (.lst (items.map g)) h := by
  have q := lc_ok (own := own) (c := bYes) (p := fun _ => true) (g := g) hi (fun d m => by
    obtain ⟨ρ1, e1, e2⟩ := hh d m
    exact ⟨ρ1, e1, rfl, fun _ => e2⟩) hl
  rw [q, List.filter_eq_self.mpr (fun _ _ => rfl)]
/-- a loop that ends at the first bad item, the small heap as it was -/
theorem for_bad {x : D} {bad : D → Bool} (Inv : Rho → Prop) : ∀ (items : List D) (ρ : Rho), Inv ρ →
    (∀ d ∈ items, ∀ ρ, Inv ρ → ∃ ρ1, t.set d ρ = some ρ1 ∧ (bad d = true → s ρ1 h = .rt x h) ∧ (bad d = false → ∃ ρ2, s ρ1 h = .nx ρ2 h ∧ Inv ρ2)) →
    (items.any bad = true → forL t s items ρ h = .rt x h) ∧ (items.any bad = false → ∃ ρ', forL t s items ρ h = .nx ρ' h ∧ Inv ρ')
  | [], ρ, i0, _ => ⟨fun z => by simp at z, fun _ => ⟨ρ, rfl, i0⟩⟩
  | d :: l, ρ, i0, hh => by
    obtain ⟨ρ1, e1, e2, e3⟩ := hh d (List.mem_cons_self ..) ρ i0
    cases q : bad d with
    | true =>
      refine ⟨fun _ => ?_, fun z => by simp [q] at z⟩
      unfold forL
      simp only [e1, e2 q]
    | false =>
      obtain ⟨ρ2, e4, i2⟩ := e3 q
      have ih := for_bad (x := x) Inv l ρ2 i2 fun d m => hh d (List.mem_cons_of_mem _ m)
      refine ⟨fun z => ?_, fun z => ?_⟩
      · have := ih.1 (by simpa [q] using z)
        unfold forL
        simp only [e1, e4]
        exact this
      · obtain ⟨ρ3, e5, i3⟩ := ih.2 (by simpa [q] using z)
        refine ⟨ρ3, ?_, i3⟩
        unfold forL
        simp only [e1, e4]
        exact e5
/-- a loop all of whose turns go on -/
theorem for_all (Inv : Rho → Prop) (items : List D) (ρ : Rho) (i0 : Inv ρ) (hh : ∀ d ∈ items, ∀ ρ, Inv ρ → ∃ ρ1 ρ2, t.set d ρ = some ρ1 ∧ s ρ1 h = .nx ρ2 h ∧ Inv ρ2) : ∃ ρ', forL t s items ρ h = .nx ρ' h ∧ Inv ρ' :=
  (for_bad (x := .non) (bad := fun _ => false) Inv items ρ i0 fun d m ρ i => by
    obtain ⟨ρ1, ρ2, e1, e2, e3⟩ := hh d m ρ i
    exact ⟨ρ1, e1, ⟨fun z => Bool.noConfusion z, fun _ => ⟨ρ2, e2, e3⟩⟩⟩).2 (by simp)
theorem forS_ok {fi : AV} {items : List D} {h' : Hs} (e : fi ρ h = .ok items h') : sFor fi t s ρ h = forL t s items ρ h' := by
  unfold sFor
  rw [e]
end
theorem iseq_l {f : EV} {ρ : Rho} {h h1 : Hs} {l : List D} (e : f ρ h = .ok (.lst l) h1) : iSeq f ρ h = .ok l h1 := by
  unfold iSeq
  rw [e, R.bind_ok]
theorem iseq_t {f : EV} {ρ : Rho} {h h1 : Hs} {l : List D} (e : f ρ h = .ok (.tup l) h1) : iSeq f ρ h = .ok l h1 := by
  unfold iSeq
  rw [e, R.bind_ok]
theorem iseq_s {f : EV} {ρ : Rho} {h h1 : Hs} {z : Str} (e : f ρ h = .ok (.str z) h1) : iSeq f ρ h = .ok (z.cps.toList.map fun c => .str ⟨#[c]⟩) h1 := by
  unfold iSeq
  rw [e, R.bind_ok]
theorem irange {f : EV} {ρ : Rho} {h h1 : Hs} {j : Int} (e : f ρ h = .ok (.int j) h1) (q : -(2 ^ 62) ≤ j ∧ j < 2 ^ 62) : iRange f ρ h = .ok ((List.range j.toNat).map fun i => .int (i : Nat)) h1 := by
  unfold iRange
  rw [e, R.bind_ok]
  show (if _ then _ else _) = _
  rw [if_pos q]
theorem small_line {n : Nat} (q : n ≤ 1000) : n ≤ sizeLine := by rw [sizeLine_eq]; omega
theorem sm {n : Nat} (q : Nat.ble n 1000 = true := by rfl) : n ≤ sizeLine := small_line (Nat.le_of_ble_eq_true q)
theorem atI_ok {α : Type} {l : List α} {i : Int} (h0 : 0 ≤ i) (h1 : i < l.length) : ∃ d, atI l i = some d ∧ l[i.toNat]? = some d := by
  have hl : i.toNat < l.length := by omega
  refine ⟨l[i.toNat], ?_, List.getElem?_eq_getElem hl⟩
  unfold atI ixN
  rw [if_pos h0, if_pos h1]
  exact List.getElem?_eq_getElem hl
theorem sub_str {z : Str} {i : Int} {h : Hs} (hz : z.length ≤ sizeLine) (h0 : 0 ≤ i) (h1 : i < z.length) : ∃ c, opIx (.str z) (.int i) h = some (.str ⟨#[c]⟩) := by
  obtain ⟨c, e, _⟩ := atI_ok (l := z.cps.toList) h0 (by rw [Array.length_toList]; exact h1)
  refine ⟨c, ?_⟩
  show (if _ then _ else _) = _
  rw [if_pos hz, e]
  rfl
theorem len1 (c : Nat) : Str.length (⟨#[c]⟩ : Str) = 1 := rfl
theorem str_len_app (a b : Str) : (a ++ b).length = a.length + b.length := by
  show (a.cps ++ b.cps).size = a.cps.size + b.cps.size
  exact Array.size_append ..
theorem cutS_len (z : Str) (lo hi : Option Int) : (cutS z lo hi).length ≤ z.length := by
  show (List.toArray _).size ≤ z.cps.size
  rw [List.size_toArray, List.length_take, List.length_drop, Array.length_toList]
  omega
end U
/-! boxes: subscripts of dicts, stores, methods of lists, displays of dicts; written dicts -/
namespace U
open PySem PySem.Spec PyProof.Rows L2 RZ

/-! ### dicts as data -/
def keyD : D → Option Key
  | .int i => some (.inl i)
  | .str x => some (.inr x)
  | _ => none
def valK (l : List (Key × D)) (k : Key) : Option D := (l.find? fun kv => decide (kv.1 = k)).map (·.2)
def putKd (l : List (Key × D)) (k : Key) (d : D) : List (Key × D) :=
  if (l.any fun kv => decide (kv.1 = k)) = true then l.map (fun kv => if kv.1 = k then (kv.1, d) else kv) else l ++ [(k, d)]
def mergeKd (l more : List (Key × D)) : List (Key × D) := more.foldl (fun acc kv => putKd acc kv.1 kv.2) l
section
variable {G : Gn} {F : Hp} {ι : List Addr}
theorem key_rel {d : D} {v : V} {k : Key} (e : keyD d = some k) (q : Rel G F ι d v) : v = kV k := by
  cases d with
  | int i =>
    cases q
    cases e
    rfl
  | str x =>
    cases q
    cases e
    rfl
  | _ => cases e
theorem relK_val {k : Key} {l : List (Key × D)} : ∀ {kvs : List (Key × V)}, RelK G F ι l kvs → (valK l k = none → valV kvs k = none) ∧ ∀ d, valK l k = some d → ∃ v, valV kvs k = some v ∧ Rel G F ι d v := by
  induction l with
  | nil => intro kvs h; cases h; exact ⟨fun _ => rfl, fun d e => by cases e⟩
  | cons p l ih =>
    intro kvs h
    cases h with
    | cons q r =>
      rename_i k' d' v' xs
      by_cases hk : k' = k
      · subst hk
        have e1 : valK ((k', d') :: l) k' = some d' := by simp [valK, List.find?_cons]
        have e2 : valV ((k', v') :: xs) k' = some v' := valV_pos rfl
        refine ⟨fun z => (by rw [e1] at z; cases z), fun d z => ?_⟩
        rw [e1] at z
        cases z
        exact ⟨v', e2, q⟩
      · have e1 : valK ((k', d') :: l) k = valK l k := by simp [valK, List.find?_cons, hk]
        have e2 : valV ((k', v') :: xs) k = valV xs k := valV_neg hk
        rw [e1, e2]
        exact ih r
theorem relK_any {k : Key} {l : List (Key × D)} : ∀ {kvs : List (Key × V)}, RelK G F ι l kvs → (l.any fun kv => decide (kv.1 = k)) = kvs.any fun kv => decide (kv.1 = k) := by
  induction l with
  | nil => intro kvs h; cases h; rfl
  | cons p l ih => intro kvs h; cases h with | cons q r => simp [ih r]
theorem relK_map {k : Key} {d : D} {v : V} (q0 : Rel G F ι d v) {l : List (Key × D)} : ∀ {kvs : List (Key × V)}, RelK G F ι l kvs → RelK G F ι (l.map (fun kv => if kv.1 = k then (kv.1, d) else kv)) (kvs.map (fun kv => if kv.1 = k then (kv.1, v) else kv)) := by
  induction l with
  | nil => intro kvs h; cases h; exact .nil
  | cons p l ih =>
    intro kvs h
    cases h with
    | cons q r =>
      rename_i k' d' v' xs
      simp only [List.map_cons]
      by_cases hk : k' = k
      · rw [if_pos hk, if_pos hk]
        exact .cons q0 (ih r)
      · rw [if_neg hk, if_neg hk]
        exact .cons q (ih r)
theorem relK_app {k : Key} {d : D} {v : V} (q0 : Rel G F ι d v) {l : List (Key × D)} : ∀ {kvs : List (Key × V)}, RelK G F ι l kvs → RelK G F ι (l ++ [(k, d)]) (kvs ++ [(k, v)]) := by
  induction l with
  | nil => intro kvs h; cases h; exact .cons q0 .nil
  | cons p l ih => intro kvs h; cases h with | cons q r => exact .cons q (ih r)
theorem relK_put {k : Key} {d : D} {v : V} {l : List (Key × D)} {kvs : List (Key × V)} (r : RelK G F ι l kvs) (q : Rel G F ι d v) : RelK G F ι (putKd l k d) (putK kvs k v) := by
  unfold putKd putK
  rw [relK_any r]
  split
  · exact relK_map q r
  · exact relK_app q r
theorem relK_merge {more : List (Key × D)} : ∀ {ms : List (Key × V)} {l : List (Key × D)} {kvs : List (Key × V)}, RelK G F ι more ms → RelK G F ι l kvs → RelK G F ι (mergeKd l more) (mergeK kvs ms) := by
  induction more with
  | nil => intro ms l kvs h r; cases h; exact r
  | cons p more ih =>
    intro ms l kvs h r
    cases h with
    | cons q t =>
      rename_i k d v xs
      show RelK G F ι (mergeKd (putKd l k d) more) (mergeK (putK kvs k v) xs)
      exact ih t (relK_put r q)
end

/-! ### subscripts: of lists, tuples, texts, dicts -/
def dicD (d : D) (h : Hs) : Option (List (Key × D)) := match d with
  | .dic l => some l
  | d => boxK d h
def opIx2 : Op2 := fun x y h => match opIx x y h with
  | some d => some d
  | none => (dicD x h).bind fun l => (keyD y).bind fun k => valK l k
section
variable {X : Cx} {G : Gn} {W : WX} {k : Nat} {F : Hp} {ι : List Addr} {h : Hs} {H : Hp} {a b : Expr} {fa fb fc : EV} {pos : Pos}
theorem dicD_at (r : Rs G F ι h H) {d : D} {v : V} {l : List (Key × D)} (e : dicD d h = some l) (q : Rel G F ι d v) : ∃ p kvs, v = .ref p ∧ Rd H p (.dK kvs) ∧ RelK G F ι l kvs := by
  by_cases z : ∃ l, d = .dic l
  · obtain ⟨m, rfl⟩ := z
    cases e
    cases q with
    | dic q1 q2 => exact ⟨_, _, rfl, r.rd q1, q2⟩
  · have e : boxK d h = some l := by cases d <;> first | exact e | exact absurd ⟨_, rfl⟩ z
    obtain ⟨i, p, kvs, rfl, _, rfl, _, e1, e2⟩ := boxK_at r e q
    exact ⟨p, kvs, rfl, .inl e1, e2⟩
theorem q_ix2 (bn : Bn0 X G) (ha : QE X G W a fa) (hb : QE X G W b fb) (hs : PlainIx b := by intro _ _; rfl) (hn : NoSl b := by intro _ _; rfl) : QE X G W (.Subscript a b pos) (eOp opIx2 fa fb) := by
  have hu : X.A.units + 1 < cLine := by have := bn.un; omega
  refine qe_of (PE.or (pe_ix (ir_seq bn) ha hb hs) (pe_dget hu ha hb hn)) fun σ H Q ⟨ρ, h, F, ι, rs, r0, p⟩ => ?_
  cases e1 : fa ρ h with
  | no =>
    unfold eOp at p
    rw [e1] at p
    exact p.elim
  | er c h1 =>
    unfold eOp at p
    rw [e1] at p
    exact .inl ⟨ρ, h, F, ι, rs, r0, by rw [e1]; exact p⟩
  | ok x h1 =>
    cases e2 : fb ρ h1 with
    | no =>
      unfold eOp at p
      rw [e1, R.bind_ok, e2] at p
      exact p.elim
    | er c h2 =>
      unfold eOp at p
      rw [e1, R.bind_ok, e2] at p
      refine .inl ⟨ρ, h, F, ι, rs, r0, ?_⟩
      rw [e1]
      exact fun v H1 F1 ι1 s1 r1 q1 => ⟨ρ, h1, F1, ι1, rs.ext s1.toExt, r1, by rw [e2]; exact Pst.ext s1 p⟩
    | ok y h2 =>
      cases e3 : opIx x y h2 with
      | some d =>
        refine .inl (tOp_of ⟨ρ, h, F, ι, rs, r0, ?_⟩)
        unfold eOp at p ⊢
        rw [e1, R.bind_ok, e2, R.bind_ok] at p ⊢
        unfold opIx2 at p
        simp only [e3] at p ⊢
        exact p
      | none =>
        refine .inr ?_
        unfold eOp at p
        rw [e1, R.bind_ok, e2, R.bind_ok] at p
        unfold opIx2 at p
        simp only [e3] at p
        refine ⟨ρ, h, F, ι, rs, r0, ?_⟩
        rw [e1]
        intro v H1 F1 ι1 s1 r1 q1
        refine ⟨ρ, h1, F1, ι1, rs.ext s1.toExt, r1, ?_⟩
        rw [e2]
        intro u H2 F2 ι2 s2 r2 q2
        cases e4 : dicD x h2 with
        | none => rw [e4] at p; exact p.elim
        | some l =>
          cases e5 : keyD y with
          | none => rw [e4, e5] at p; exact p.elim
          | some kk =>
            simp only [e4, e5, Option.bind_some] at p
            cases e6 : valK l kk with
            | none => rw [e6] at p; exact p.elim
            | some d =>
              rw [e6] at p
              obtain ⟨pp, kvs, rfl, g1, g2⟩ := dicD_at r2 e4 (q1.ext s2.toExt)
              obtain ⟨w, g3, g4⟩ := (relK_val g2).2 d e6
              exact ⟨pp, w, rfl, .inl ⟨kvs, kk, g1, key_rel e5 q2, g3.symm⟩, p w H2 F2 ι2 (s1.trans s2) r2 g4⟩

/-! ### o[i] = v -/
def putD (x y v : D) (h : Hs) : Option Hs := match x with
  | .ref n => match h[n]? with
    | some (.lst l) => match y with
      | .int i => (ixN l.length i).map fun j => h.set n (.lst (l.set j v))
      | _ => none
    | some (.dK l) => (keyD y).bind fun kk => if l.length < sizeLine then some (h.set n (.dK (putKd l kk v))) else none
    | _ => none
  | _ => none
def sPut (fo fi fv : EV) : SV := sE fv fun v ρ h => match fo ρ h with
  | .ok x h1 => match fi ρ h1 with
    | .ok y h2 => match putD x y v h2 with
      | some h3 => .nx ρ h3
      | none => .no
    | .er c h2 => .er c ρ h2
    | .no => .no
  | .er c h1 => .er c ρ h1
  | .no => .no
theorem PSet.or {t u : TSet} (h1 : PSet X t) (h2 : PSet X u) : PSet X (fun o i v H Q => t o i v H Q ∨ u o i v H Q) := by
  intro pins s σ H o i v ov iv w Q I ro ri rv q
  rcases q with q | q
  · exact h1 pins s σ H o i v ov iv w Q I ro ri rv q
  · exact h2 pins s σ H o i v ov iv w Q I ro ri rv q
theorem put_at (r : Rs G F ι h H) {x y v : D} {xv yv vv : V} {h' : Hs} (e : putD x y v h = some h') (qx : Rel G F ι x xv) (qy : Rel G F ι y yv) (qv : Rel G F ι v vv) {Q : Hp → Prop}
    (hk : ∀ H', Stp F ι H F ι H' → Rs G F ι h' H' → Q H') : rSetL xv yv vv H Q ∨ rSetD xv yv vv H Q := by
  cases x with
  | ref n =>
    have e : (match (generalizing := false) h[n]? with
      | some (.lst l) => match (generalizing := false) y with
        | .int i => (ixN l.length i).map fun j => h.set n (.lst (l.set j v))
        | _ => none
      | some (.dK l) => (keyD y).bind fun kk => if l.length < sizeLine then some (h.set n (.dK (putKd l kk v))) else none
      | _ => none) = some h' := e
    cases qx with
    | ref qa =>
      cases e1 : h[n]? with
      | none => rw [e1] at e; cases e
      | some o =>
        obtain ⟨u, g1, g2⟩ := r.bx qa e1
        simp only [e1] at e
        cases o with
        | lst l =>
          cases u with
          | lst xs =>
            have g2 : RelL G F ι l xs := g2
            cases y with
            | int i =>
              cases qy
              have e : (ixN l.length i).map (fun j => h.set n (.lst (l.set j v))) = some h' := e
              cases e2 : ixN l.length i with
              | none => rw [e2] at e; cases e
              | some j =>
                rw [e2] at e
                cases e
                refine .inl ⟨_, xs, i, j, rfl, rfl, g1, by rw [← g2.len]; exact e2, hk _ (Stp.put qa g1 (fun _ _ z => nomatch z)) (r.put qa e1 (fun z => nomatch z) (g2.set j qv))⟩
            | _ => cases e
          | _ => exact (show False from g2).elim
        | dK l =>
          cases u with
          | dK kvs =>
            have g2 : RelK G F ι l kvs := g2
            have e : ((keyD y).bind fun kk => if l.length < sizeLine then some (h.set n (.dK (putKd l kk v))) else none) = some h' := e
            cases e2 : keyD y with
            | none => rw [e2] at e; cases e
            | some kk =>
              rw [e2, Option.bind_some] at e
              split at e
              · rename_i hl
                cases e
                refine .inr ⟨_, _, rfl, .inl ⟨kvs, kk, g1, key_rel e2 qy, by rw [← relK_len g2]; exact hl, rfl⟩, hk _ (Stp.put qa g1 (fun _ _ z => nomatch z)) (r.put qa e1 (fun z => nomatch z) (relK_put g2 qv))⟩
              · cases e
          | _ => exact (show False from g2).elim
        | _ => cases e
  | _ => cases e
theorem qs_put (bn : Bn0 X G) {o i e : Expr} {fo fi fv : EV} {p2 : Pos} (hv : QE X G W e fv) (ho : QE X G W o fo) (hi : QE X G W i fi)
    (ha : ∀ v, assign (.Subscript o i p2) X.env v = (do
      let ov ← holding [v] (eval o X.env)
      let iv ← holding [v, ov] (eval i X.env)
      standAt p2
      holding [v, ov, iv] (setItem ov iv v)
      release [v, ov, iv] []) := by intro _; rfl) (hs : swapsWithSole [.Subscript o i p2] e pos.line X.env = pure false := by rfl) (hw : swappedStores [.Subscript o i p2] e X.env = pure none := by rfl) :
    QS X G W (.Assign [.Subscript o i p2] e pos) (sPut fo fi fv) := by
  have hu : X.A.units + 1 < cLine := by have := bn.un; omega
  refine qs_of (ps_asg hv (pg_sub ho hi (PSet.or set_list (set_dict hu)) ha) hs hw) fun Dn σ H ⟨ρ, h, F, ι, rs, r0, p⟩ => tSs.bind rs r0 p fun d h1 v H1 F1 ι1 s1 r1 q1 p1 => ?_
  refine ⟨ρ, h1, F1, ι1, rs.ext s1.toExt, r1, ?_⟩
  cases e1 : fo ρ h1 with
  | no => simp only [e1] at p1; exact p1.elim
  | er c h2 =>
    simp only [e1] at p1
    exact fun H2 F2 ι2 s2 r2 => p1 σ H2 F2 ι2 s2 ((rs.ext s1.toExt).ext s2.toExt) r2
  | ok x h2 =>
    simp only [e1] at p1
    intro xv H2 F2 ι2 s2 r2 q2
    refine ⟨ρ, h2, F2, ι2, (rs.ext s1.toExt).ext s2.toExt, r2, ?_⟩
    cases e2 : fi ρ h2 with
    | no => simp only [e2] at p1; exact p1.elim
    | er c h3 =>
      simp only [e2] at p1
      exact fun H3 F3 ι3 s3 r3 => p1 σ H3 F3 ι3 (s2.trans s3) ((rs.ext s1.toExt).ext (s2.trans s3).toExt) r3
    | ok y h3 =>
      simp only [e2] at p1
      intro yv H3 F3 ι3 s3 r3 q3
      cases e3 : putD x y d h3 with
      | none => simp only [e3] at p1; exact p1.elim
      | some h4 =>
        simp only [e3] at p1
        exact put_at r3 e3 (q2.ext s3.toExt) q3 (q1.ext (s2.trans s3).toExt) fun H4 s4 r4 => p1 σ H4 F3 ι3 ((s2.trans s3).trans s4) ((rs.ext s1.toExt).ext (s2.trans s3).toExt) r4

/-! ### methods of a list box -/
def bxL (x : D) (h : Hs) : Option (Nat × List D) := match x with
  | .ref n => match h[n]? with
    | some (.lst l) => some (n, l)
    | _ => none
  | _ => none
theorem bxL_at (r : Rs G F ι h H) {x : D} {xv : V} {n : Nat} {l : List D} (e : bxL x h = some (n, l)) (q : Rel G F ι x xv) : ∃ p xs, x = .ref n ∧ xv = .ref p ∧ ι[n]? = some p ∧ h[n]? = some (.lst l) ∧ H p = some (.lst xs) ∧ RelL G F ι l xs := by
  cases x with
  | ref m =>
    have e : (match h[m]? with | some (.lst l) => some (m, l) | _ => none) = some (n, l) := e
    cases q with
    | ref qa =>
      cases e1 : h[m]? with
      | none => rw [e1] at e; cases e
      | some o =>
        obtain ⟨u, g1, g2⟩ := r.bx qa e1
        simp only [e1] at e
        cases o with
        | lst l' =>
          cases e
          cases u with
          | lst xs => exact ⟨_, xs, rfl, rfl, qa, e1, g1, g2⟩
          | _ => exact (show False from g2).elim
        | _ => cases e
  | _ => cases e
/-- x.append(y): x is seen as a list ahead of y -/
def eApp (fa fb : EV) : EV := fun ρ h => (fa ρ h).bind fun x h1 => match bxL x h1 with
  | none => .no
  | some _ => (fb ρ h1).bind fun y h2 => match bxL x h2 with
    | some (n, l) => if l.length < sizeLine then .ok .non (h2.set n (.lst (l ++ [y]))) else .no
    | none => .no
theorem q_app {apos : Pos} (ha : QE X G W a fa) (hb : QE X G W b fb) (hs : starEach [b] X.env = (false, eval b X.env) :: starEach [] X.env := by rfl) (hbase : attributeBase a "append" X.env (eval a X.env) = eval a X.env := by rfl)
    (hfew : ((backTo pos (starEach [b] X.env)).all (fun x => !x.1) && (backToKw pos (keywordEach [] X.env)).all (fun x => x.1.isSome)
      && decide (([b] : List Expr).length + ([] : List Keyword).length + (if ([] : List Keyword).isEmpty then 0 else 1) < 30)) = true := by rfl)
    (hline : (apos.endLine == pos.line) = true := by rfl) (hK : X.K = G.K := by first | rfl | assumption) : QE X G W (.Call (.Attribute a "append" apos) [b] [] pos) (eApp fa fb) := by
  refine qe_of (pe_bm PySem.F.plainAttrs_list PySem.F.slot_list_append PySem.F.type_list_append mt_append ha (pa_cons hb pa_nil hs) hbase hfew hline hs) fun σ H Q ⟨ρ, h, F, ι, rs, r0, p⟩ => tE.bind rs r0 p fun x h1 v H1 F1 ι1 s1 r1 q1 p1 => ?_
  cases e1 : bxL x h1 with
  | none => simp only [e1] at p1; exact p1.elim
  | some nl =>
    obtain ⟨n, l⟩ := nl
    simp only [e1] at p1
    obtain ⟨pp, xs, rfl, rfl, g1, g2, g3, g4⟩ := bxL_at r1 e1 q1
    refine ⟨.inl ⟨rfl, xs, .inl (.inl g3)⟩, tE.bind (rs.ext s1.toExt) r1 p1 fun y h2 w H2 F2 ι2 s2 r2 q2 p2 => ?_⟩
    cases e2 : bxL (.ref n) h2 with
    | none => simp only [e2] at p2; exact p2.elim
    | some nl =>
      obtain ⟨n', l'⟩ := nl
      simp only [e2] at p2
      obtain ⟨p', xs', e3, e4, g5, g6, g7, g8⟩ := bxL_at r2 e2 (.ref (s2.toExt.at_ g1))
      cases e3
      cases e4
      by_cases hl : l'.length < sizeLine
      · simp only [if_pos hl] at p2
        exact ⟨_, xs', w, rfl, rfl, g7, by rw [← g8.len]; exact hl, p2 _ _ F2 ι2 (Stp.put g5 g7 (fun _ _ z => nomatch z)) (r2.put g5 g6 (fun z => nomatch z) (RelL.app (.cons q2 .nil) g8)) .non⟩
      · simp only [if_neg hl] at p2
        exact p2.elim
/-- x.pop() -/
def ePop (fa : EV) : EV := fun ρ h => (fa ρ h).bind fun x h1 => match bxL x h1 with
  | some (n, l) => match l[l.length - 1]? with
    | some y => .ok y (h1.set n (.lst l.dropLast))
    | none => .no
  | none => .no
theorem RelL.dropLast {l : List D} : ∀ {xs : List V}, RelL G F ι l xs → RelL G F ι l.dropLast xs.dropLast := by
  intro xs h
  rw [List.dropLast_eq_take, List.dropLast_eq_take, h.len]
  exact h.take _
theorem q_pop {apos : Pos} (ha : QE X G W a fa) (hbase : attributeBase a "pop" X.env (eval a X.env) = eval a X.env := by rfl) (hline : (apos.endLine == pos.line) = true := by rfl) : QE X G W (.Call (.Attribute a "pop" apos) [] [] pos) (ePop fa) := by
  refine qe_of (pe_bm0 PySem.F.plainAttrs_list PySem.F.slot_list_pop PySem.F.type_list_pop mt_pop ha hbase hline) fun σ H Q ⟨ρ, h, F, ι, rs, r0, p⟩ => tE.bind rs r0 p fun x h1 v H1 F1 ι1 s1 r1 q1 p1 => ?_
  cases e1 : bxL x h1 with
  | none => simp only [e1] at p1; exact p1.elim
  | some nl =>
    obtain ⟨n, l⟩ := nl
    simp only [e1] at p1
    obtain ⟨pp, xs, rfl, rfl, g1, g2, g3, g4⟩ := bxL_at r1 e1 q1
    cases e2 : l[l.length - 1]? with
    | none => simp only [e2] at p1; exact p1.elim
    | some y =>
      simp only [e2] at p1
      obtain ⟨w, g5, g6⟩ := g4.get' e2
      exact ⟨.inl ⟨rfl, xs, .inl (.inl g3)⟩, _, xs, w, rfl, rfl, g3, by rw [← g4.len]; exact g5, p1 _ _ F1 ι1 (Stp.put g1 g3 (fun _ _ z => nomatch z)) (r1.put g1 g2 (fun z => nomatch z) g4.dropLast) g6⟩
/-- x.clear() -/
def eClr (fa : EV) : EV := fun ρ h => (fa ρ h).bind fun x h1 => match bxL x h1 with
  | some (n, l) => .ok .non (h1.set n (.lst []))
  | none => .no
theorem q_clr {apos : Pos} (ha : QE X G W a fa) (hbase : attributeBase a "clear" X.env (eval a X.env) = eval a X.env := by rfl) (hline : (apos.endLine == pos.line) = true := by rfl) : QE X G W (.Call (.Attribute a "clear" apos) [] [] pos) (eClr fa) := by
  refine qe_of (pe_bm0 PySem.F.plainAttrs_list PySem.F.slot_list_clear PySem.F.type_list_clear mt_clear ha hbase hline) fun σ H Q ⟨ρ, h, F, ι, rs, r0, p⟩ => tE.bind rs r0 p fun x h1 v H1 F1 ι1 s1 r1 q1 p1 => ?_
  cases e1 : bxL x h1 with
  | none => simp only [e1] at p1; exact p1.elim
  | some nl =>
    obtain ⟨n, l⟩ := nl
    simp only [e1] at p1
    obtain ⟨pp, xs, rfl, rfl, g1, g2, g3, g4⟩ := bxL_at r1 e1 q1
    exact ⟨.inl ⟨rfl, xs, .inl (.inl g3)⟩, _, xs, rfl, rfl, g3, p1 _ _ F1 ι1 (Stp.put g1 g3 (fun _ _ z => nomatch z)) (r1.put g1 g2 (fun z => nomatch z) .nil) .non⟩
end
end U
/-! displays of dicts; written dicts -/
namespace U
open PySem PySem.Spec PyProof.Rows L2 RZ

/-! ### {k: v, ..}, the keys told -/
def dP : List (Key × EV) → Rho → Hs → R (List (Key × D))
  | [], _, h => .ok [] h
  | (k, f) :: r, ρ, h => (f ρ h).bind fun d h1 => (dP r ρ h1).bind fun ps h2 => .ok ((k, d) :: ps) h2
/-- a box -/
def eDic (kfs : List (Key × EV)) : EV := fun ρ h => (dP kfs ρ h).bind fun ps h1 => .ok (.ref h1.length) (h1 ++ [.dK (mergeKd [] ps)])
def QPs (X : Cx) (G : Gn) (W : WX) (pos : Pos) (keys : List (Option Expr)) (values : List Expr) (kfs : List (Key × EV)) : Prop := PPs X pos keys values (kfs.map fun q => (tC (kV q.1), tE G W q.2))
section
variable {X : Cx} {G : Gn} {W : WX} {k : Nat} {F : Hp} {ι : List Addr} {h : Hs} {H : Hp} {a b : Expr} {fa fb fc : EV} {pos : Pos}
theorem qps_nil : QPs X G W pos [] [] [] := pps_nil
theorem qps_str {x : Str} {j : Nat} {kp : Pos} {ks : List (Option Expr)} {vs : List Expr} {f : EV} {kfs : List (Key × EV)} (hv : QE X G W a f) (hr : QPs X G W pos ks vs kfs) : QPs X G W pos (some (.Constant (.str x) j kp) :: ks) (a :: vs) ((.inr x, f) :: kfs) := pps_cons pe_str hv hr
theorem qps_int {x : Int} {j : Nat} {kp : Pos} {ks : List (Option Expr)} {vs : List Expr} {f : EV} {kfs : List (Key × EV)} (hv : QE X G W a f) (hr : QPs X G W pos ks vs kfs) : QPs X G W pos (some (.Constant (.int x) j kp) :: ks) (a :: vs) ((.inl x, f) :: kfs) := pps_cons pe_int hv hr
/-- what stands at p goes on, p no concern of ours -/
theorem goesK {F' : Hp} {ι' : List Addr} {H' : Hp} {p : Addr} {u : HO} (s : Stp F ι H F' ι' H') (a : H p = some u) (b : p ∉ ι) (z : F p = none) (nt : Pl u) : H' p = some u ∧ p ∉ ι' ∧ F' p = none := by
  refine ⟨s.kp _ _ a b z nt, fun m => ?_, ?_⟩
  · exact s.fr _ m b z _ a nt
  · cases q : F' p with
    | none => rfl
    | some u =>
      rcases s.fx _ _ q z with z | z
      · exact absurd z b
      · exact (z _ a nt).elim
theorem pairs_of {ρ : Rho} {σ : L2.St} {p : Addr} {F0 : Hp} {ι0 : List Addr} {H0 : Hp} (n0 : H0 p = none) : ∀ (kfs : List (Key × EV)) {h : Hs} {F : Hp} {ι : List Addr} {H : Hp} {Q : List (V × V) → Hp → Prop}, RelS G F ι ρ σ → Rs G F ι h H → Stp F0 ι0 H0 F ι H → H p = some (.dK []) → p ∉ ι → F p = none →
    (match dP kfs ρ h with
      | .ok ps h1 => ∀ kvs F1 ι1 H1, Ext F ι F1 ι1 → Stp F0 ι0 H0 F1 ι1 H1 → Rs G F1 ι1 h1 H1 → H1 p = some (.dK []) → p ∉ ι1 → F1 p = none → RelK G F1 ι1 ps kvs → Q (kvs.map fun kv => (kV kv.1, kv.2)) H1
      | .er c h1 => ∀ H1 F1 ι1, Stp F0 ι0 H0 F1 ι1 H1 → Rs G F1 ι1 h1 H1 → W (.ref (G.cl c)) none σ H1
      | .no => False) → tPairs (kfs.map fun q => (tC (kV q.1), tE G W q.2)) σ H Q
  | [], h, F, ι, H, Q, rs, r, s, g1, g2, g3, q => q [] F ι H (Ext.refl _ _) s r g1 g2 g3 .nil
  | (kk, f) :: kfs, h, F, ι, H, Q, rs, r, s, g1, g2, g3, q => by
    refine (show tC (kV kk) σ H (fun x H1 => tE G W f σ H1 fun y H2 => tPairs (kfs.map fun q => (tC (kV q.1), tE G W q.2)) σ H2 fun ps H3 => Q ((x, y) :: ps) H3) from ?_)
    refine (show tE G W f σ H (fun y H2 => tPairs (kfs.map fun q => (tC (kV q.1), tE G W q.2)) σ H2 fun ps H3 => Q ((kV kk, y) :: ps) H3) from ?_)
    refine ⟨ρ, h, F, ι, rs, r, ?_⟩
    unfold dP at q
    cases e : f ρ h with
    | no => simp only [e, R.bind_no] at q
    | er c h1 =>
      simp only [e, R.bind_er] at q
      exact fun H1 F1 ι1 s1 r1 => q H1 F1 ι1 (s.trans s1) r1
    | ok d h1 =>
      intro y H2 F2 ι2 s2 r2 q2
      obtain ⟨a1, a2, a3⟩ := goesK s2 g1 g2 g3 True.intro
      refine pairs_of n0 kfs (rs.ext s2.toExt) r2 (s.trans s2) a1 a2 a3 ?_
      simp only [e, R.bind_ok] at q
      cases e2 : dP kfs ρ h1 with
      | no => simp only [e2, R.bind_no] at q
      | er c h2 =>
        simp only [e2, R.bind_er] at q
        exact q
      | ok ps h2 =>
        simp only [e2, R.bind_ok] at q
        intro kvs F1 ι1 H1 ex s1 r1 b1 b2 b3 rk
        exact q ((kk, y) :: kvs) F1 ι1 H1 (s2.toExt.trans ex) s1 r1 b1 b2 b3 (.cons (q2.ext ex) rk)
/-- a box of ours from now on, a dict -/
theorem Rs.boxK (r : Rs G F ι h H) {p : Addr} {xs : List (Key × V)} {ds : List (Key × D)} (n : p ∉ ι) (nF : F p = none) (e : H p = some (.dK xs)) (q : RelK G F ι ds xs) : Rs G F (ι ++ [p]) (h ++ [.dK ds]) H ∧ Ext F ι F (ι ++ [p]) := by
  have ee : Ext F ι F (ι ++ [p]) := ⟨fun _ _ h => h, List.prefix_append _ _⟩
  refine ⟨⟨r.fz, r.nf, fun i a o m e2 e3 => ?_, ?_, ?_, fun i o' q' => ?_, r.tabs⟩, ee⟩
  · by_cases hi : i < h.length
    · rw [List.getElem?_append_left hi] at e2
      rw [List.getElem?_append_left (by rw [r.len]; exact hi)] at m
      exact r.sep i a o m e2 e3
    · rw [List.getElem?_append_right (by rw [r.len]; omega)] at m
      have z : a = p := by
        have := List.mem_of_getElem? m
        simpa using this
      rw [z]
      exact nF
  · rw [List.length_append, List.length_append, r.len]
    rfl
  · exact List.nodup_append.mpr ⟨r.nd, by simp, fun a ha b hb z => by
      have : b = p := by simpa using hb
      rw [z, this] at ha
      exact n ha⟩
  · by_cases hi : i < h.length
    · rw [List.getElem?_append_left hi] at q'
      obtain ⟨b, x, e1, e2, e3⟩ := r.obj i o' q'
      exact ⟨b, x, ee.at_ e1, e2, e3.ext ee⟩
    · rw [List.getElem?_append_right (by omega)] at q'
      have hz : i - h.length = 0 := by
        have := (List.getElem?_eq_some_iff.mp q').1
        simp at this
        omega
      rw [hz] at q'
      have q' : Ob.dK ds = o' := by simpa using q'
      subst q'
      refine ⟨p, _, ?_, e, RelK.ext ee q⟩
      rw [List.getElem?_append_right (by rw [r.len]; omega), r.len, hz]
      rfl
theorem q_dic {keys : List (Option Expr)} {values : List Expr} {kfs : List (Key × EV)} (hp : QPs X G W pos keys values kfs) (hn : kfs.length ≤ 15 := by decide) (hall : keys.all (·.isSome) = true := by rfl) (hl : keys.length = values.length := by rfl) (h0 : keys ≠ [] := by exact fun z => nomatch z)
    (h15 : keys.length ≤ 15 := by decide) : QE X G W (.Dict keys values pos) (eDic kfs) := by
  have dl : ∀ (kfs : List (Key × EV)) ρ h ps h1, dP kfs ρ h = .ok ps h1 → ps.length = kfs.length := fun kfs => by
    induction kfs with
    | nil => intro ρ h ps h1 e; cases e; rfl
    | cons q kfs ih =>
      obtain ⟨kk, f⟩ := q
      intro ρ h ps h1 e
      unfold dP at e
      cases e1 : f ρ h with
      | no => simp only [e1, R.bind_no] at e; cases e
      | er c h1 => simp only [e1, R.bind_er] at e; cases e
      | ok d h2 =>
        simp only [e1, R.bind_ok] at e
        cases e2 : dP kfs ρ h2 with
        | no => simp only [e2, R.bind_no] at e; cases e
        | er c h1 => simp only [e2, R.bind_er] at e; cases e
        | ok ps' h3 =>
          simp only [e2, R.bind_ok] at e
          cases e
          simp [ih _ _ _ _ e2]
  refine qe_of (pe_disp hp hall hl h0 h15) fun σ H Q ⟨ρ, h, F, ι, rs, r0, p⟩ p' n0 => ?_
  have nι : p' ∉ ι := fun m => r0.inbox m n0
  have nF : F p' = none := by
    cases z : F p' with
    | none => rfl
    | some u => exact absurd n0 (rd_some (r0.fz _ _ z))
  refine pairs_of n0 kfs rs (r0.side nι nF (.inl n0)) ((Stp.refl F ι H).side n0) upd_same nι nF ?_
  unfold eDic at p
  cases e : dP kfs ρ h with
  | no => rw [e] at p; exact p.elim
  | er c h1 =>
    rw [e] at p
    exact p
  | ok ps h1 =>
    rw [e, R.bind_ok] at p
    intro kvs F1 ι1 H1 ex s1 r1 b1 b2 b3 rk
    refine ⟨b1, kvs, rfl, by rw [← relK_len rk, dl _ _ _ _ _ e]; exact hn, ?_⟩
    have rm : RelK G F1 ι1 (mergeKd [] ps) (mergeK [] kvs) := relK_merge rk .nil
    obtain ⟨r2, e2⟩ := (r1.side (u := .dK (mergeK [] kvs)) b2 b3 (.inr ⟨_, b1, True.intro⟩)).boxK b2 b3 upd_same rm
    refine p _ _ F1 (ι1 ++ [p']) ?_ r2 (.ref ?_)
    · have s2 := s1.side (u := .dK (mergeK [] kvs)) n0
      exact ⟨⟨s2.fz, s2.bx.trans (List.prefix_append _ _)⟩, fun a m z f => by
        rcases List.mem_append.mp m with m | m
        · exact s2.fr a m z f
        · have : a = p' := by simpa using m
          rw [this]
          exact .none n0, s2.kp, s2.fx, s2.lk⟩
    · rw [← r1.len, List.getElem?_append_right (Nat.le_refl _), Nat.sub_self]
      rfl
end
/-! ### a written dict with text keys -/
structure WTab (K : PySem.W.Frag) (w : World) (G : Gn) (mg : Str → Option Value) (x : Str) (tab : List (Str × D)) : Prop where
  ex : ∃ p, mg x = some (.ref p) ∧ ∀ z d, tab.lookup z = some d → ∀ F ι, ∃ v, KDct K w p z v ∧ Rel G F ι d v
theorem WTab.wi {K : PySem.W.Frag} {w : World} {G : Gn} {mg : Str → Option Value} {x : Str} {tab : List (Str × D)} (T : WTab K w G mg x tab) (fi : Nat → FnI) : WTab K w (G.wi fi) mg x tab := by
  obtain ⟨p, h1, h2⟩ := T.ex
  refine ⟨p, h1, fun z d e F ι => ?_⟩
  obtain ⟨v, a, b⟩ := h2 z d e F ι
  exact ⟨v, a, b.wi⟩
def eWt (tab : List (Str × D)) (fb : EV) : EV := fun ρ h => (fb ρ h).bind fun y h1 => match y with
  | .str z => match tab.lookup z with
    | some d => .ok d h1
    | none => .no
  | _ => .no
theorem q_wt {X : Cx} {G : Gn} {W : WX} {b : Expr} {fb : EV} {x : Str} {tab : List (Str × D)} {pos p : Pos} (T : WTab X.K X.w G X.mg x tab) (hb : QE X G W b fb) (hg : Gl X x := by rfl) (hd : (x == ("__debug__" : Str)) = false := by decide) (hs : PlainIx b := by intro _ _; rfl) :
    QE X G W (.Subscript (.Name x p) b pos) (eWt tab fb) := by
  obtain ⟨a, hm, ht⟩ := T.ex
  refine qe_of (pe_ix ix_kdict (pe_glob (v := .ref a) hg hm rfl hd) hb hs) fun σ H Q ⟨ρ, h, F, ι, rs, r0, p⟩ => ?_
  refine tE.bind rs r0 p fun y h1 v H1 F1 ι1 s1 r1 q1 p1 => ?_
  cases y with
  | str z =>
    cases q1
    cases e : tab.lookup z with
    | none => simp only [e] at p1; exact p1.elim
    | some d =>
      simp only [e] at p1
      obtain ⟨u, k1, k2⟩ := ht z d e F1 ι1
      exact ⟨a, z, u, rfl, rfl, k1, Pst.okk p1 r1 k2⟩
  | _ => exact p1.elim
/-! what stands written, told -/
mutual
def relDB (K : PySem.W.Frag) : D → Value → Bool
  | .non, .none => true
  | .bl b, .bool c => b == c
  | .int i, .int j _ => i == j
  | .str x, .str y _ => x == y
  | .tup l, .ref a => match K.lookup a with
    | some ⟨.type c, _, .seq its _, _⟩ => c == "tuple" && decide (its.size ≤ sizeLine) && relLB K l its.toList
    | _ => false
  | _, _ => false
def relLB (K : PySem.W.Frag) : List D → List Value → Bool
  | [], [] => true
  | d :: l, u :: us => relDB K d u && relLB K l us
  | _, _ => false
end
mutual
theorem relDB_ok {G : Gn} {F : Hp} {ι : List Addr} : ∀ {d : D} {u : Value}, relDB G.K d u = true → ∃ v, RelV v u ∧ Rel G F ι d v
  | .non, u, h => by cases u <;> first | exact ⟨.non, rfl, .non⟩ | (simp [relDB] at h)
  | .bl b, u, h => by
    cases u with
    | bool c =>
      have : b = c := by simpa [relDB] using h
      subst this
      exact ⟨.bl b, rfl, .bl b⟩
    | _ => simp [relDB] at h
  | .int i, u, h => by
    cases u with
    | int j t =>
      have : i = j := by simpa [relDB] using h
      subst this
      exact ⟨.int i, ⟨t, rfl⟩, .int i⟩
    | _ => simp [relDB] at h
  | .str x, u, h => by
    cases u with
    | str y t =>
      have : x = y := by simpa [relDB] using h
      subst this
      exact ⟨.str x, ⟨t, rfl⟩, .str x⟩
    | _ => simp [relDB] at h
  | .tup l, u, h => by
    cases u with
    | ref a =>
      unfold relDB at h
      split at h
      · rename_i c od its n sl e
        simp only [Bool.and_eq_true, beq_iff_eq, decide_eq_true_eq] at h
        obtain ⟨vs, r1, r2⟩ := relLB_ok (G := G) (F := F) (ι := ι) h.2
        obtain ⟨rfl, hz⟩ := h.1
        exact ⟨.ref a, rfl, .tup (.inr ⟨_, its, n, e, rfl, rfl, hz, r1⟩) r2⟩
      · cases h
    | _ => simp [relDB] at h
  | .ty _, u, h => by simp [relDB] at h
  | .lst _, u, h => by simp [relDB] at h
  | .dic _, u, h => by simp [relDB] at h
  | .dit _, u, h => by simp [relDB] at h
  | .ref _, u, h => by simp [relDB] at h
  | .fn _ _, u, h => by simp [relDB] at h
theorem relLB_ok {G : Gn} {F : Hp} {ι : List Addr} : ∀ {l : List D} {us : List Value}, relLB G.K l us = true → ∃ vs, Vals vs us ∧ RelL G F ι l vs
  | [], [], _ => ⟨[], .nil, .nil⟩
  | [], _ :: _, h => by simp [relLB] at h
  | _ :: _, [], h => by simp [relLB] at h
  | d :: l, u :: us, h => by
    simp only [relLB, Bool.and_eq_true] at h
    obtain ⟨v, r1, q1⟩ := relDB_ok (G := G) (F := F) (ι := ι) h.1
    obtain ⟨vs, r2, q2⟩ := relLB_ok (G := G) (F := F) (ι := ι) h.2
    exact ⟨v :: vs, .cons r1 r2, .cons q1 q2⟩
end
/-- the table tab at x, as the head may tell it -/
def tabB (x : Str) (tab : List (Str × D)) (K : PySem.W.Frag) : Bool := tab.all fun q => match PySem.W.nsIn K (He.ga K x) q.1 with
  | some (some u) => relDB K q.2 u
  | _ => false
theorem wtab_of {G : Gn} {w : World} {mg : Str → Option Value} {x : Str} {tab : List (Str × D)} {es : Array DictEntry} {n : Nat} (D' : KDict G.K w (He.ga G.K x) es n) (hm : mg x = some (.ref (He.ga G.K x))) (hb : tabB x tab G.K = true) : WTab G.K w G mg x tab := by
  refine ⟨_, hm, fun z d e F ι => ?_⟩
  have hmem : (z, d) ∈ tab := by
    clear hb
    induction tab with
    | nil => cases e
    | cons q tab ih =>
      obtain ⟨k, d'⟩ := q
      rw [List.lookup_cons] at e
      cases hk : z == k with
      | true =>
        rw [hk] at e
        cases e
        have : z = k := by simpa using hk
        subst this
        exact List.mem_cons_self ..
      | false =>
        rw [hk] at e
        exact List.mem_cons_of_mem _ (ih e)
  have h1 := List.all_eq_true.mp hb _ hmem
  cases q : PySem.W.nsIn G.K (He.ga G.K x) z with
  | none => simp only [q] at h1; cases h1
  | some r =>
    cases r with
    | none => simp only [q] at h1; cases h1
    | some u =>
      simp only [q] at h1
      obtain ⟨v, r1, r2⟩ := relDB_ok (G := G) (F := F) (ι := ι) h1
      exact ⟨v, ⟨es, n, u, D'.at_, D'.lit, q, r1⟩, r2⟩
end U
/-! a lambda handed to a def of the top, called there -/
namespace U
open PySem PySem.Spec PyProof.Rows L2 RZ LamX NdefX

/-- a lambda over data: what it caught, then its arguments -/
def lamD (np n : Nat) (f : EV) (caps args : List D) (h : Hs) : R D :=
  if args.length = np then match f ((args ++ caps).map some ++ List.replicate (n - (args ++ caps).length) none) h with
    | .ok d h' => .ok d h'
    | _ => .no
  else .no
/-- f(..), f a slot with a made function -/
def eCallF (i : Nat) (φ : List D → DF) (ga : AV) : EV := fun ρ h => match ρ[i]? with
  | some (some (.fn _ caps)) => (ga ρ h).bind fun ds h1 => φ caps ds h1
  | _ => .no
/-- what a lambda catches -/
def capsOf (ρ : Rho) : List Nat → Option (List D)
  | [] => some []
  | j :: js => match ρ[j]? with
    | some (some (.fn _ _)) => none
    | some (some (.exc _)) => none
    | some (some d) => (capsOf ρ js).map (d :: ·)
    | _ => none
/-- g(a, lambda ..: ..) -/
def eLam (mo : DF) (fa : EV) (js : List Nat) : EV := fun ρ h => (fa ρ h).bind fun d h1 => match capsOf ρ js with
  | some caps => mo [d, .fn 0 caps] h1
  | none => .no
theorem capsOf_rel {G : Gn} {F : Hp} {ι : List Addr} {ρ : Rho} {σ : L2.St} (rs : RelS G F ι ρ σ) : ∀ {js : List Nat} {caps : List D}, capsOf ρ js = some caps → ∃ cvs, RelL G F ι caps cvs ∧ js.map (slotAt σ) = cvs.map some
  | [], caps, e => by
    cases e
    exact ⟨[], .nil, rfl⟩
  | j :: js, caps, e => by
    unfold capsOf at e
    split at e
    · cases e
    · cases e
    · rename_i d hnf hne hj
      cases e2 : capsOf ρ js with
      | none => rw [e2] at e; cases e
      | some l =>
        rw [e2] at e
        cases e
        obtain ⟨cvs, h1, h2⟩ := capsOf_rel rs e2
        obtain ⟨v, g1, g2⟩ := rs.2 j d hj
        refine ⟨v :: cvs, .cons ?_ h1, ?_⟩
        · cases d with
          | fn _ _ => exact absurd rfl (hnf _ _)
          | exc _ => exact absurd rfl (hne _)
          | _ => exact g2
        · rw [List.map_cons, List.map_cons, h2, slotAt_of g1]
    · cases e
theorem cells_un {cl : List (Str × Addr)} {fr : List Str} {ws : List (Option V)} {h h' : Heap} {H H' : Hp} {fs : List Addr} (C : CellsAt cl fr ws h H) (un : Un fs [] H H' h h') : CellsAt cl fr ws h' H' := by
  have kp : ∀ y c, cl.lookup y = some c → ∀ v, h.IsCell c v → h'.IsCell c v := fun y c e v ⟨o, ho, hd⟩ => by
    obtain ⟨sl, q⟩ := un.any ho (C.all y c e).1 (by simp)
    exact ⟨_, q, hd⟩
  refine ⟨C.len, fun y c e => ?_, C.inj, fun i y e => ?_⟩
  · obtain ⟨n, v, z⟩ := C.all y c e
    refine ⟨?_, v, kp y c e v z⟩
    obtain ⟨o, ho, _⟩ := z
    exact un.free c o ho n (by simp)
  · obtain ⟨c, hc, hv⟩ := C.has i y e
    refine ⟨c, hc, fun v ev => ?_⟩
    obtain ⟨u, r, z⟩ := hv v ev
    exact ⟨u, r, kp y c hc _ z⟩
theorem startF_eq (N : List Str) (vs cvs : List V) : startF N vs (cvs.map some) = L2.start N (vs ++ cvs) := by
  unfold startF L2.start
  rw [List.map_append, List.append_assoc, List.length_append, List.length_map, Nat.sub_sub]
/-- the context of a lambda's body -/
abbrev lamF (X : Cx) (params : Arguments) (scope : Scope) (c' : Addr) : NF := ⟨"<lambda>", X.env.qual ++ "<lambda>", params, [], scope, cloFrom X.env.cells scope.names [], c'⟩
theorem takesN {X : Cx} : Takes X W0 := fun _ _ ⟨_, _, _, _, _, _, _, _, _, _, _, _, _, _, _, _, z⟩ => z.elim
section
variable {X : Cx} {G : Gn} {W : WX}
/-- what such a call is, in the def that got the lambda -/
def CallF (Z : Cx) (G : Gn) (a : Str) (i : Nat) (φ : List D → DF) : Prop := ∀ (W : WX) (e : Expr) (es : List Expr) (ga : AV) (p pos : Pos), QA Z G W (e :: es) ga → starEach (e :: es) Z.env = (false, eval e Z.env) :: starEach es Z.env → (backTo pos (starEach es Z.env)).any (·.1) = false →
  QE Z G W (.Call (.Name a p) (e :: es) [] pos) (eCallF i φ ga)
theorem callF_ok {pins : List (Addr × Obj)} {σ : L2.St} {H : Hp} {s : Shared} {Eg : XK} {Ng : List Str} {qg : Str} {sg : Scope} {g f c' : Addr} {cdg pm ctv : Value} {params : Arguments} {body : Expr} {scope : Scope} {k i : Nat} {a : Str} {NL ps fr : List Str} {js : List Nat} {cvs : List V} {fb : EV}
    (I : Inv X pins σ H s) (S : NScope NL ps fr scope) (cp : Caps X (cloFrom X.env.cells scope.names []) fr js) (hws : js.map (slotAt σ) = cvs.map some)
    (hf : s.heap.get? f = some (PySem.W.kla_obj "<lambda>" (X.env.qual ++ "<lambda>") params body scope (cloFrom X.env.cells scope.names []) pm c' ctv)) (hfn : H f = none) (hfr : f ∉ frs X.stack)
    (hbind : ∀ (us : List Value), us.length = ps.length → bindArgs (PySem.W.kla_fn "<lambda>" (X.env.qual ++ "<lambda>") params body scope (cloFrom X.env.cells scope.names []) pm (.ref c') ctv) ⟨us, []⟩ = pure (ps.zip us))
    (hr : Room (k + 1) (X.A.deeper (envOfC qg sg s.heap.objs.size g cdg)))
    (hbody : ∀ (A : Around) (outer : List Env) (s : Shared) (H : Hp), Room k (A.deeper (envF (lamF X params scope c') f s.heap.objs.size)) → QE (ncx (L2.CX X.prog X.w) X.prog X.w X.K X.mg X.base NL (lamF X params scope c') f A outer s H (fun _ _ _ => False)) (G.wi fun _ => ⟨f, cvs, c', X.env.qual ++ "<lambda>"⟩) W0 body fb)
    (hN : Ng[i]? = some a) (hv : Vis sg a) (hd : (a == ("__debug__" : Str)) = false) (hcd : (a == ("__classdict__" : Str)) = false) (hlen : cvs.length = fr.length) :
    CallF (cxOf (L2.CX X.prog X.w) X.prog X.w X.K X.mg X.base Ng qg sg g cdg X.A X.stack s H Eg) (G.wi fun _ => ⟨f, cvs, c', X.env.qual ++ "<lambda>"⟩) a i (lamD ps.length NL.length fb) := by
  intro W e es ga p pos ha he hpl
  refine ⟨fun pinsZ sZ σZ HZ Q IZ hq => ?_⟩
  obtain ⟨ρ, h, F0, ι, rs, r0, pst⟩ := hq
  unfold eCallF at pst
  split at pst
  · rename_i j caps hj
    obtain ⟨v, hs, hx⟩ := rs.2 i _ hj
    obtain ⟨rfl, hcaps, hfk⟩ := hx
    refine wpAny_Call_Name_kw (thn ((pe_var (pos := p) (i := i) hN hv hd hcd).run pinsZ sZ σZ HZ (fun v H1 => v = .ref f ∧ H1 = HZ) IZ ⟨.ref f, hs, rfl, rfl⟩) fun u s1 ⟨v, H1, I1, r1, q1⟩ => ?_)
    obtain ⟨ev, eH⟩ := q1
    subst ev
    subst eH
    obtain rfl : u = Value.ref f := r1
    have at_ : ∀ {p2 σ2 H2 s2}, Inv (cxOf (L2.CX X.prog X.w) X.prog X.w X.K X.mg X.base Ng qg sg g cdg X.A X.stack s H Eg) p2 σ2 H2 s2 → s2.heap.get? f = some (PySem.W.kla_obj "<lambda>" (X.env.qual ++ "<lambda>") params body scope (cloFrom X.env.cells scope.names []) pm c' ctv) :=
      fun J => J.base.keep f _ hf hfn hfr (fun z => nomatch (show f ∈ ([] : List Addr) from z))
    have of1 := at_ I1
    have ht : tAa (G.wi fun _ => ⟨f, cvs, c', X.env.qual ++ "<lambda>"⟩) W ga σZ H1 (fun vs H2 => ∃ ds h1 F1 ι1, F1 c' = some (CodeO c' (X.env.qual ++ "<lambda>")) ∧ Rs (G.wi fun _ => ⟨f, cvs, c', X.env.qual ++ "<lambda>"⟩) F1 ι1 h1 H2 ∧ RelL (G.wi fun _ => ⟨f, cvs, c', X.env.qual ++ "<lambda>"⟩) F1 ι1 ds vs ∧ RelL (G.wi fun _ => ⟨f, cvs, c', X.env.qual ++ "<lambda>"⟩) F1 ι1 caps cvs ∧ Pst (G.wi fun _ => ⟨f, cvs, c', X.env.qual ++ "<lambda>"⟩) F1 ι1 H2 (Rel (G.wi fun _ => ⟨f, cvs, c', X.env.qual ++ "<lambda>"⟩)) (fun c H' => W (.ref (G.cl c)) none σZ H') (lamD ps.length NL.length fb caps ds h1) Q) :=
      ⟨ρ, h, F0, ι, rs, r0, pst.bind fun ds h1 vs H2 F1 ι1 e1 r1 q1 p1 => ⟨ds, h1, F1, ι1, e1.fz _ _ hfk, r1, q1, RelL.ext e1.toExt hcaps, p1⟩⟩
    refine PySem.W.callWith_F (first := []) ⟨_, _, _, _, of1⟩ (thn (ha.run pos pinsZ s1 σZ H1 _ I1 ht) fun us s2 ⟨vs, H2, I2, r, ds, h1, F1, ι1, g0, g1, g2, g3, g4⟩ => ⟨⟨_, _, _, _, at_ I2⟩, ?_⟩) he hpl
    show wpAny _ _ (call (.ref f) us) _ _ _
    have of2 := at_ I2
    unfold lamD at g4
    split at g4
    · rename_i hl
      have un : Un (frs X.stack) [] H H2 s.heap s2.heap := I2.base
      have hc2 : ∃ (oc : Obj) (vs' : Array Value) (t : Tok), s2.heap.get? c' = some oc ∧ oc.data = .fields vs' ∧ vs'[1]? = some (.str (X.env.qual ++ "<lambda>") t) := by
        rcases g1.fz c' _ g0 with z | ⟨o, z⟩
        · exact (I2.hok c' _ z).1
        · exact (I2.hok c' _ z).2.1
      obtain ⟨oc, vs', t, hoc, hdc, hvc⟩ := hc2
      have hl2 : vs.length = ps.length := by rw [← g2.len]; exact hl
      have rc : codeAny (model X.prog X.w) (X.A.deeper (envOfC qg sg s.heap.objs.size g cdg)) (.call (.ref f) ⟨us, []⟩) (CR (L2.CX X.prog X.w) (envOfC qg sg s.heap.objs.size g cdg :: X.stack) X.prog X.w H2 s2 Q (fun _ _ _ => False)) s2 := by
        refine PySem.W.kla_callFunE hr.depth of2 rfl S.co S.gen rfl ⟨c', oc, vs', t, rfl, hoc, hdc, hvc⟩ ?_
        rw [hbind us (by rw [← r.length]; exact hl2)]
        refine wpAny_pure (wpAny_newFunctionEnv S.nocell (fun ⟨n, _⟩ hy => S.par n (List.of_mem_zip hy).1) (fun h₁ hns hsb => ⟨I2.nolimit.fresh _ hsb, ?_⟩) S.kind)
        show codeAny _ _ (.expr body (envF (lamF X params scope c') f s2.heap.objs.size)) _ _
        have kp : ∀ b o, s2.heap.get? b = some o → h₁.get? b = some o := fun b o e => hsb.extBut b o (Nat.ne_of_lt (Heap.lt_size e)) (Heap.get?_push_of_some _ e)
        have C : CellsAt (lamF X params scope c').cl fr (cvs.map some) s2.heap H2 := by
          have C0 := cells_of I cp
          rw [hws] at C0
          exact cells_un C0 un
        have J : Inv (ncx (L2.CX X.prog X.w) X.prog X.w X.K X.mg X.base NL (lamF X params scope c') f (X.A.deeper (envOfC qg sg s.heap.objs.size g cdg)) (envOfC qg sg s.heap.objs.size g cdg :: X.stack) s2 H2 (fun _ _ _ => False)) [] (startF NL vs (cvs.map some)) H2 { s2 with heap := h₁, toks := s2.toks + (ps.zip us).length } :=
          inv_startN (F := lamF X params scope c') S hr.hd I2.env0 hl2 r C hns kp
        rw [startF_eq] at J
        have fin : tE (G.wi fun _ => ⟨f, cvs, c', X.env.qual ++ "<lambda>"⟩) W0 fb (L2.start NL (vs ++ cvs)) H2 Q := by
          refine ⟨_, h1, F1, ι1, relS_start NL (RelL.app g3 g2), g1, ?_⟩
          cases ef : fb (List.map some (ds ++ caps) ++ List.replicate (NL.length - (ds ++ caps).length) none) h1 with
          | ok d h' =>
            simp only [ef] at g4
            exact g4
          | er _ _ => simp only [ef] at g4; exact g4.elim
          | no => simp only [ef] at g4; exact g4.elim
        refine PySem.W.kla_codeExpr (wpAny_mono ((hbody _ _ s2 H2 (hr.deeper _)).run [] _ _ H2 Q J fin) (fun v s' hq => ?_) fun e s' hq => hq)
        obtain ⟨w', H', J', rv, q⟩ := hq
        exact ⟨w', H', J'.os, J'.bare, J'.base, J'.hok, rv, q⟩
      refine wpAny_call (codeAny_mono rc fun r s' hq => ?_)
      cases r with
      | error e =>
        obtain ⟨_, _, _, _, _, _, _, _, _, _, _, _, z⟩ := hq
        exact z.elim
      | ok fl =>
        cases fl with
        | ret u => exact I2.after hq
        | next => exact False.elim hq
        | brk => exact False.elim hq
        | cont => exact False.elim hq
    · exact g4.elim
  · exact pst.elim
end
theorem un_of {k : Nat} {A : Around} (r : Room k A) : A.units + 150 < cLine := by
  have := r.un
  omega
theorem Rs.extN {G : Gn} {F : Hp} {ι : List Addr} {h : Hs} {H H' : Hp} (r : Rs G F ι h H) (e : ExtN H H') (t : Tabs G.T H') : Rs G F ι h H' := by
  refine ⟨fun a u q => ?_, r.nf, r.sep, r.len, r.nd, fun i o q => ?_, t⟩
  · rcases r.fz a u q with z | ⟨o, z⟩
    · exact .inl (e a u z (r.nf a u q).2)
    · exact .inr ⟨o, e a _ z fun _ z => nomatch z⟩
  · obtain ⟨a, u, e1, e2, e3⟩ := r.obj i o q
    exact ⟨a, u, e1, e a u e2 e3.pl.tbl, e3⟩
theorem Rs.unwi {G : Gn} {fi : Nat → FnI} {F : Hp} {ι : List Addr} {h : Hs} {H : Hp} (r : Rs (G.wi fi) F ι h H) : Rs G F ι h H := Rs.wi (G := G.wi fi) (fi := G.fi) r
theorem Rel.unwi {G : Gn} {fi : Nat → FnI} {F : Hp} {ι : List Addr} {d : D} {v : V} (r : Rel (G.wi fi) F ι d v) : Rel G F ι d v := Rel.wi (G := G.wi fi) (fi := G.fi) r
theorem Pst.wi {G : Gn} {fi : Nat → FnI} {F H : Hp} {ι : List Addr} {W : Nat → Hp → Prop} {r : R D} {Q : V → Hp → Prop} (p : Pst G F ι H (Rel G) W r Q) : Pst (G.wi fi) F ι H (Rel (G.wi fi)) W r Q := by
  cases r with
  | ok d h => exact fun v H' F' ι' s r q => p v H' F' ι' s r.unwi q.unwi
  | er c h => exact fun H' F' ι' s r => p H' F' ι' s r.unwi
  | no => exact p
section
variable {X : Cx} {G : Gn} {W : WX} {k : Nat}
theorem q_lam (bn : Bn X G W (k + 2)) {x a : Str} {st : Stmt} {Ng pg : List Str} {bg : SV} {keep : Bool} (D' : FDf X.K X.mg x st) (Sg : FnScope Ng pg (defScope st)) (hpg : pg.length = 2) (hbg : BindsF x st pg)
    {params : Arguments} {e body : Expr} {scope : Scope} {p lpos pos : Pos} {NL ps fr : List Str} {js : List Nat} {fa fb : EV} {c P : Addr} (S : NScope NL ps fr scope) (hsc : ndefB X.env.scope scope fr = true) (hjs : js.map (fun j => X.N[j]?) = fr.map some)
    (hdef : defaultsOf params X.env = ([], []))
    (hbind : ∀ (q : Str) (cl : List (Str × Addr)) (pm cv ctv : Value) (us : List Value), us.length = ps.length → bindArgs (PySem.W.kla_fn "<lambda>" q params body scope cl pm cv ctv) ⟨us, []⟩ = pure (ps.zip us))
    (TB : TabB X.base X.mg c P) (hcode : X.env.code = .ref c) (hT : (P, X.env.qual ++ "<lambda>") ∈ G.T) (hu : ∀ p ∈ G.T, p.1 = P → p.2 = X.env.qual ++ "<lambda>") (hN : Ng[1]? = some a) (hv : Vis (defScope st) a)
    (hbody : ∀ (fi : Nat → FnI) (A : Around) (outer : List Env) (s : Shared) (H : Hp) (f c' : Addr), Bn (ncx (L2.CX X.prog X.w) X.prog X.w X.K X.mg X.base NL (lamF X params scope c') f A outer s H (fun _ _ _ => False)) (G.wi fi) W0 k →
      QE (ncx (L2.CX X.prog X.w) X.prog X.w X.K X.mg X.base NL (lamF X params scope c') f A outer s H (fun _ _ _ => False)) (G.wi fi) W0 body fb)
    (hd : ∀ (fi : Nat → FnI) (g : Addr) (cdv : Value) (A : Around) (outer : List Env) (s : Shared) (H : Hp) (E : XK) (W : WX), Bn (cxOf (L2.CX X.prog X.w) X.prog X.w X.K X.mg X.base Ng x (defScope st) g cdv A outer s H E) (G.wi fi) W (k + 1) →
      CallF (cxOf (L2.CX X.prog X.w) X.prog X.w X.K X.mg X.base Ng x (defScope st) g cdv A outer s H E) (G.wi fi) a 1 (lamD ps.length NL.length fb) → QSs (cxOf (L2.CX X.prog X.w) X.prog X.w X.K X.mg X.base Ng x (defScope st) g cdv A outer s H E) (G.wi fi) W (defBody st) bg)
    (he : QE X G W e fa) (hg : Gl X x := by rfl) (hdb : (x == ("__debug__" : Str)) = false := by decide) (hd1 : (a == ("__debug__" : Str)) = false := by decide) (hd2 : (a == ("__classdict__" : Str)) = false := by decide)
    (hs : starEach [e, .Lambda params body scope lpos] X.env = (false, eval e X.env) :: starEach [.Lambda params body scope lpos] X.env := by rfl) (hs2 : starEach [.Lambda params body scope lpos] X.env = [(false, eval (.Lambda params body scope lpos) X.env)] := by rfl) :
    QE X G W (.Call (.Name x p) [e, .Lambda params body scope lpos] [] pos) (eLam (runD 2 Ng.length keep bg) fa js) := by
  refine ⟨fun pins s σ H Q I hq => ?_⟩
  obtain ⟨ρ, h, F, ι, rs, r0, pst⟩ := hq
  obtain ⟨g, fd, FD, hm⟩ := D'.ex
  have hb := FD.bindsN hbg
  have hkp := FD.kp
  obtain ⟨oc, od, dV, kV, doc, pm, an, cdv, ct, osl, rfl, lk, hcd, hD, hK⟩ := FD.ex
  have hfree : ∀ y ∈ scope.names, y.2 = .free → X.env.scope.names.lookup y.1 = some .cell ∨ X.env.scope.names.lookup y.1 = some .free := ndef_free hsc
  refine wpAny_Call_Name_kw (ld_glob I hg hm ?_ hdb)
  refine PySem.W.callWith_K (h₀ := X.base) I.ok.mod.kin hkp ?_ hs (by rw [hs2]; rfl)
  rw [hs, hs2]
  have h1 : tE G W fa σ H (fun v H1 => ∃ d h1 F1 ι1, Stp F ι H F1 ι1 H1 ∧ Rs G F1 ι1 h1 H1 ∧ Rel G F1 ι1 d v ∧ Pst G F1 ι1 H1 (Rel G) (fun c H' => W (.ref (G.cl c)) none σ H') (match capsOf ρ js with | some caps => runD 2 Ng.length keep bg [d, .fn 0 caps] h1 | none => .no) Q) :=
    tE.bind rs r0 pst fun d h1 v H1 F1 ι1 st1 r1 q1 p1 => ⟨d, h1, F1, ι1, st1, r1, q1, p1⟩
  refine Calls.spliced_cons (thn (he.run pins s σ H _ I h1) fun u1 s1 ⟨v1, H1, I1, rv1, d, h1, F1, ι1, st1, r1, q1, p1⟩ => ?_)
  refine Calls.spliced_cons (lam_make2 (T := G.T) I1 TB hcode hT hu r1.tabs hdef (fun y hy e => (hfree y hy e).elim (fun z => I1.ok.has _ (.inl z)) fun z => I1.ok.has _ (.inr z)) fun f c' pm' ctv H2 s2 I2 eN T2 hf hfn hfr hco => ?_)
  refine Calls.spliced_nil ⟨I2.kIn, ?_⟩
  have r2 : Rs G F1 ι1 h1 H2 := r1.extN eN T2
  obtain ⟨r3, e3⟩ := r2.fixC hco
  have st3 : Stp F1 ι1 H1 (upd F1 c' (CodeO c' (X.env.qual ++ "<lambda>"))) ι1 H2 := by
    refine ⟨e3, fun _ m z => absurd m z, fun b u q _ _ nt => eN b u q nt.tbl, fun b u q z => ?_, fun b o u q => eN b _ q fun _ z => nomatch z⟩
    by_cases hb : b = c'
    · subst hb
      refine .inr fun w ew pw => ?_
      have z := eN b w ew pw.tbl
      rw [hco] at z
      exact pw.code b _ (Option.some.inj z).symm
    · rw [upd_ne hb, z] at q
      cases q
  cases ec : capsOf ρ js with
  | none =>
    rw [ec] at p1
    exact p1.elim
  | some caps =>
    rw [ec] at p1
    have p1 : Pst G F1 ι1 H1 (Rel G) (fun c H' => W (.ref (G.cl c)) none σ H') (runD 2 Ng.length keep bg [d, .fn 0 caps] h1) Q := p1
    obtain ⟨cvs, hc1, hc2⟩ := capsOf_rel (rs.ext (st1.trans st3).toExt) ec
    have p3 := Pst.wi (fi := fun _ => (⟨f, cvs, c', X.env.qual ++ "<lambda>"⟩ : FnI)) (Pst.ext st3 p1)
    have cp : Caps X (cloFrom X.env.cells scope.names []) fr js := Caps.made I2.ok hfree (ndef_fr hsc) hjs
    have rc : codeAny (model X.prog X.w) X.A (.call (.ref g) ⟨[u1, .ref f], []⟩) (CR (L2.CX X.prog X.w) X.stack X.prog X.w H2 s2 Q (WE W σ)) s2 := by
      refine run_ofS (N := Ng) (ps := pg) (us := [u1, .ref f]) (vs := [v1, .ref f]) lk hcd Sg bn.hr I2.env0 ?_ (.cons rv1 (.cons rfl .nil)) hpg.symm fun hr' => ?_
      · have b := hb s2 [u1, .ref f] I2.kIn (by rw [List.append_nil]; exact hpg.symm)
        rw [List.append_nil] at b
        exact b
      · refine ⟨tSs (G.wi fun _ => ⟨f, cvs, c', X.env.qual ++ "<lambda>"⟩) (fun cls d _ H => WE W σ cls d H) bg, hd _ g cdv X.A X.stack s2 H2 (WE W σ) _ ⟨⟨bn.K, bn.w, Sg.nd, un_of hr'⟩, rfl, takes_of rfl rfl rfl rfl, hr', passes_of rfl⟩
          (callF_ok I2 S cp hc2 hf hfn hfr (fun us hl => hbind _ _ _ _ _ us hl) hr' (fun A outer s H hr2 => hbody _ A outer s H f c' ⟨⟨bn.K, bn.w, S.nd, un_of hr2⟩, rfl, takesN, hr2, passes_of rfl⟩) hN hv hd1 hd2 ?_), ?_⟩
        · have q := congrArg List.length hc2
          have q2 := congrArg List.length hjs
          simp only [List.length_map] at q q2
          omega
        · refine ⟨_, h1, _, ι1, relS_startX (ds := [d, .fn 0 caps]) Ng (.cons (Rel.x ((q1.ext e3).wi)) (.cons (show RelX _ _ _ (.fn 0 caps) _ from ⟨rfl, hc1.wi, upd_same⟩) .nil)), r3.wi, ?_⟩
          unfold runD at p3
          rw [if_pos (show [d, D.fn 0 caps].length = 2 from rfl)] at p3
          cases eb : bg ([d, .fn 0 caps].map some ++ List.replicate (Ng.length - [d, .fn 0 caps].length) none) h1 with
          | nx ρ' h' =>
            simp only [eb] at p3
            exact fun σ' H' F' ι' s rs r => p3.fin r3.wi s r .non
          | rt d h' =>
            simp only [eb] at p3
            exact fun v H' F' ι' s r q => p3.fin r3.wi s r q
          | er c ρ' h' =>
            simp only [eb] at p3
            exact fun σ' H' F' ι' s rs r => p3.finE r3.wi s r
          | bk _ _ => simp only [eb] at p3; exact p3.elim
          | ct _ _ => simp only [eb] at p3; exact p3.elim
          | no => simp only [eb] at p3; exact p3.elim
    refine wpAny_call (codeAny_mono rc fun r s' hq => ?_)
    cases r with
    | error e => exact passAt bn.tk σ _ _ _ e s' I2 hq
    | ok fl =>
      cases fl with
      | ret u => exact I2.after hq
      | next => exact False.elim hq
      | brk => exact False.elim hq
      | cont => exact False.elim hq
end
end U
/-! what is not told; raise, try, isinstance of what was caught -/
namespace U
open PySem PySem.Spec PyProof.Rows L2 RZ

/-! ### not told -/
def eNo : EV := fun _ _ => .no
def bNo : BV := fun _ _ => .no
def sNo : SV := fun _ _ => .no
section
variable {X : Cx} {G : Gn} {W : WX} {k : Nat} {e : Expr} {st : Stmt}
theorem q_no : QE X G W e eNo := ⟨fun _ _ _ _ _ _ ⟨_, _, _, _, _, _, p⟩ => p.elim⟩
theorem qt_no : QT X G W e bNo := ⟨fun _ _ _ _ _ _ ⟨_, _, _, _, _, _, p⟩ => p.elim⟩
theorem qs_noS : QS X G W st sNo := ⟨fun _ _ _ _ _ _ ⟨_, _, _, _, _, _, p⟩ => p.elim⟩
end
/-! ### an own class of exceptions -/
def excB (K : PySem.W.Frag) (C : Addr) : Bool :=
  PySem.W.excIn K C [.type "ValueError", .type "Exception", .type "BaseException", .type "object"] "ValueError.__new__" && PySem.W.keepIn K (.ref C) && (PySem.W.subIn K (.ref C) (.type "BaseException") == some true) && (PySem.W.typeIn K (.ref C) == some (.type "type")) &&
  ((PySem.W.findIn K (.ref C) "__getattribute__" == some (some (.builtin "BaseException.__getattribute__"))) && (PySem.W.findIn K (.ref C) "__getattr__" == some none) && PySem.W.hasDictIn K C && (PySem.W.findIn K (.ref C) "__class__" == some (some (.builtin "object.__class__"))) &&
   (PySem.W.specialIn K (.builtin "object.__class__") "__get__" == some (some (.builtin "getset_descriptor.__get__"))) && (PySem.W.takesIn K (.builtin "object.__class__") == some true) && (PySem.W.mroIn K C (.type "object") == some true))
structure XC (K : PySem.W.Frag) (mg : Str → Option Value) (G : Gn) (c : Nat) (x : Str) : Prop where
  g : mg x = some (.ref (G.cl c))
  ok : excB K (G.cl c) = true
theorem XC.wi {K : PySem.W.Frag} {mg : Str → Option Value} {G : Gn} {c : Nat} {x : Str} (E : XC K mg G c x) (fi : Nat → FnI) : XC K mg (G.wi fi) c x := ⟨E.g, E.ok⟩
theorem excC_of {K : PySem.W.Frag} {C : Addr} (h : excB K C = true) : ExcC K C := by
  unfold excB at h
  simp only [Bool.and_eq_true, beq_iff_eq] at h
  obtain ⟨⟨⟨⟨_, _⟩, h3⟩, _⟩, ⟨⟨⟨⟨⟨⟨h5, h6⟩, h7⟩, h8⟩, h9⟩, h10⟩, h11⟩⟩ := h
  exact ⟨h5, h6, h3, h7, h8, h9, h10, h11⟩
/-! ### raise -/
def sRaise (c : Nat) : SV := fun ρ h => .er c ρ h
section
variable {X : Cx} {G : Gn} {W : WX} {k : Nat}
theorem qs_raise (bn : Bn X G W k) {c j : Nat} {x m : Str} {p p2 pos pos' : Pos} (E : XC X.K X.mg G c x) (hg : Gl X x := by rfl) (hdb : (x == ("__debug__" : Str)) = false := by decide) :
    QS X G W (.Raise (some (.Call (.Name x p) [.Constant (.str m) j p2] [] pos)) none pos') (sRaise c) := by
  have h := E.ok
  unfold excB at h
  simp only [Bool.and_eq_true, beq_iff_eq] at h
  obtain ⟨⟨⟨⟨h1, h2⟩, h3⟩, h4⟩, _⟩ := h
  exact qs_of (ps_raise bn.calm bn.tk (pmk_own PySem.F.excBase_ValueError h1 E.g h2 (raises_own h3 h4) hg hdb)) fun Dn σ H ⟨ρ, h, F, ι, rs, r0, p⟩ => p σ H F ι (Stp.refl _ _ _) rs r0
end
/-! ### try -/
def noE : Option D → Bool
  | some (.exc _) => false
  | _ => true
def back1 (i : Nat) : RS → RS
  | .nx ρ h => if (ρ.set i none).all noE = true then .nx (ρ.set i none) h else .no
  | .bk ρ h => if (ρ.set i none).all noE = true then .bk (ρ.set i none) h else .no
  | .ct ρ h => if (ρ.set i none).all noE = true then .ct (ρ.set i none) h else .no
  | .rt d h => .rt d h
  | _ => .no
/-- try: .. except X as n: ..; tb: which classes X takes -/
def sTry (body : SV) (i : Nat) (tb : List Bool) (hs : Nat → SV) : SV := fun ρ h => match body ρ h with
  | .er c ρ' h' => match tb[c]? with
    | some true => if (ρ'.set i none).all noE = true then back1 i (hs c (ρ'.set i (some (.exc c))) h') else .no
    | some false => .er c ρ' h'
    | none => .no
  | r => r
def excF (G : Gn) (a : Addr) : Nat → FnI := fun j => if j = 1 then ⟨a, [], 0, ""⟩ else G.fi j
theorem all_at {ρ : Rho} (h : ρ.all noE = true) {i : Nat} {d : D} (e : ρ[i]? = some (some d)) : ∀ c, d ≠ .exc c := fun c z => by
  subst z
  have := List.all_eq_true.mp h _ (List.mem_of_getElem? e)
  cases this
theorem RelX.wi {G : Gn} {F : Hp} {ι : List Addr} {fi : Nat → FnI} {d : D} {v : V} (h0 : fi 0 = G.fi 0) (hn : ∀ c, d ≠ .exc c) (h : RelX G F ι d v) : RelX (G.wi fi) F ι d v := by
  cases d with
  | fn i l =>
    obtain ⟨h1, h2, h3⟩ := h
    refine (show v = .ref (fi 0).a ∧ RelL (G.wi fi) F ι l (fi 0).cv ∧ F (fi 0).c = some (LamX.CodeO (fi 0).c (fi 0).q) from ?_)
    rw [h0]
    exact ⟨h1, h2.wi, h3⟩
  | exc c => exact absurd rfl (hn c)
  | _ => exact Rel.wi h
theorem RelS.wi {G : Gn} {F : Hp} {ι : List Addr} {fi : Nat → FnI} {ρ : Rho} {σ : L2.St} (h0 : fi 0 = G.fi 0) (hn : ρ.all noE = true) (r : RelS G F ι ρ σ) : RelS (G.wi fi) F ι ρ σ := ⟨r.1, fun i d e => by
  obtain ⟨v, h1, h2⟩ := r.2 i d e
  exact ⟨v, h1, h2.wi h0 (all_at hn e)⟩⟩
theorem RelS.setE {G : Gn} {F : Hp} {ι : List Addr} {a : Addr} {c i : Nat} {ρ : Rho} {σ : L2.St} (hn : (ρ.set i none).all noE = true) (r : RelS G F ι ρ σ) : RelS (G.wi (excF G a)) F ι (ρ.set i (some (.exc c))) (σ.set i (some (.ref a))) := by
  have q := (r.unset i).wi (fi := excF G a) rfl hn
  refine ⟨by rw [List.length_set, List.length_set]; exact r.1, fun j d e => ?_⟩
  by_cases hj : j = i
  · subst hj
    by_cases hl : j < ρ.length
    · rw [List.getElem?_set_self hl] at e
      cases e
      exact ⟨_, List.getElem?_set_self (by rw [← r.1]; exact hl), (show V.ref a = .ref (excF G a 1).a from rfl)⟩
    · rw [List.getElem?_eq_none (by rw [List.length_set]; omega)] at e
      cases e
  · rw [List.getElem?_set_ne (Ne.symm hj)] at e
    obtain ⟨v, h1, h2⟩ := q.2 j d (by rw [List.getElem?_set_ne (Ne.symm hj)]; exact e)
    rw [List.getElem?_set_ne (Ne.symm hj)] at h1
    exact ⟨v, by rw [List.getElem?_set_ne (Ne.symm hj)]; exact h1, h2⟩
section
variable {X : Cx} {G : Gn} {W : WX} {k : Nat} {body suite : List Stmt} {b₀ : Stmt} {sb : SV} {np pos pos' : Pos} {n x : Str} {i j : Nat} {tb : List Bool} {hs : Nat → SV}
theorem qs_tryAs (bn : Bn X G W k) (E : XC X.K X.mg G j x) (ht : ∀ c b, tb[c]? = some b → PySem.W.exmOne X.K (.ref (G.cl c)) (.ref (G.cl j)) = some b)
    (hb : ∀ (W : WX) (pn : List (Addr × Obj)) (xe : Value → Shared → Prop), Bn (X.tr pn xe) G W k → QSs (X.tr pn xe) G W body sb)
    (hsu : ∀ (c : Nat) (a : Addr) (oe : Obj) (pn : List (Addr × Obj)), tb[c]? = some true → Zc (.ref (G.cl c)) none oe → (∃ vs, oe.data = .fields vs) → Bn0 (X.suite a ((a, oe) :: pn)) (G.wi (excF G a)) → QSs (X.suite a ((a, oe) :: pn)) (G.wi (excF G a)) W0 (b₀ :: suite) (hs c))
    (h1 : X.stack = X.env :: X.outer := by rfl) (h2 : X.env.frame = some X.env.locals := by rfl) (hi : X.N[i]? = some n := by rfl) (hln : X.env.kindOf n = some .local := by rfl) (hg : Gl X x := by rfl) (hdb : (x == ("__debug__" : Str)) = false := by decide) :
    QS X G W (.Try body [.ExceptHandler (some (.Name x np)) (some n) (b₀ :: suite) pos'] [] [] pos) (sTry sb i tb hs) := by
  refine qs_of (ps_try_as (c := .ref (G.cl j)) (tb := fun W => tSs G W sb) (ts := fun a cls d Dn σ H => ∃ c, cls = .ref (G.cl c) ∧ d = none ∧ tb[c]? = some true ∧ tSs (G.wi (excF G a)) W0 (hs c) Dn σ H) h1 h2 bn.nd hi hln ⟨hg, hdb, .inl E.g⟩ bn.tk
    (fun W pn xe tk po => hb W pn xe ⟨⟨bn.K, bn.w, bn.nd, bn.un⟩, bn.calm, tk, bn.hr, po⟩) (fun a oe cls d pn hz hf => ⟨fun pins s σ H D I ⟨c, e1, e2, e3, q⟩ => ?_⟩)) fun Dn σ H ⟨ρ, h, F, ι, rs, r0, p⟩ => ?_
  · subst e1
    subst e2
    exact (hsu c a oe pn e3 hz hf ⟨bn.K, bn.w, bn.nd, bn.un⟩).run pins s σ H D I q
  · refine ⟨ρ, h, F, ι, rs, r0, ?_⟩
    unfold sTry at p
    cases eb : sb ρ h with
    | nx _ _ => rw [eb] at p; exact p
    | rt _ _ => rw [eb] at p; exact p
    | bk _ _ => rw [eb] at p; exact p
    | ct _ _ => rw [eb] at p; exact p
    | no => rw [eb] at p; exact p
    | er c ρ' h' =>
      simp only [eb] at p
      intro σ' H' F' ι' st rs' r'
      cases et : tb[c]? with
      | none => simp only [et] at p; exact p.elim
      | some b =>
        refine ⟨b, ht c b et, fun hbt a na => ?_, fun hbf => ?_⟩
        · subst hbt
          simp only [et] at p
          by_cases hn : (ρ'.set i none).all noE = true
          · simp only [if_pos hn] at p
            refine ⟨c, rfl, rfl, et, _, h', F', ι', rs'.setE (c := c) hn, r'.wi, ?_⟩
            have p := PsS.ext st p
            cases eh : hs c (ρ'.set i (some (.exc c))) h' with
            | no => simp only [eh, back1] at p; exact p.elim
            | er _ _ _ => simp only [eh, back1] at p; exact p.elim
            | rt d h2 =>
              simp only [eh, back1] at p
              exact fun v H2 F2 ι2 s2 r2 q2 => p v H2 F2 ι2 s2 r2.unwi q2.unwi
            | nx ρ2 h2 =>
              simp only [eh, back1] at p
              by_cases hn2 : (ρ2.set i none).all noE = true
              · simp only [if_pos hn2] at p
                exact fun σ2 H2 F2 ι2 s2 rs2 r2 => p _ H2 F2 ι2 s2 (RelS.wi (G := G.wi (excF G a)) (fi := G.fi) rfl hn2 (rs2.unset i)) r2.unwi
              · simp only [if_neg hn2] at p
                exact p.elim
            | bk ρ2 h2 =>
              simp only [eh, back1] at p
              by_cases hn2 : (ρ2.set i none).all noE = true
              · simp only [if_pos hn2] at p
                exact fun σ2 H2 F2 ι2 s2 rs2 r2 => p _ H2 F2 ι2 s2 (RelS.wi (G := G.wi (excF G a)) (fi := G.fi) rfl hn2 (rs2.unset i)) r2.unwi
              · simp only [if_neg hn2] at p
                exact p.elim
            | ct ρ2 h2 =>
              simp only [eh, back1] at p
              by_cases hn2 : (ρ2.set i none).all noE = true
              · simp only [if_pos hn2] at p
                exact fun σ2 H2 F2 ι2 s2 rs2 r2 => p _ H2 F2 ι2 s2 (RelS.wi (G := G.wi (excF G a)) (fi := G.fi) rfl hn2 (rs2.unset i)) r2.unwi
              · simp only [if_neg hn2] at p
                exact p.elim
          · simp only [if_neg hn] at p
            exact p.elim
        · subst hbf
          simp only [et] at p
          exact p σ' H' F' ι' st rs' r'
end
/-! ### isinstance(e, ..) -/
def eIsE (i c : Nat) (tb : List Bool) : EV := fun ρ h => match ρ[i]? with
  | some (some (.exc d)) => match tb[c]? with
    | some b => if d = c then .ok (.bl b) h else .no
    | none => .no
  | _ => .no
section
variable {X : Cx} {G : Gn} {k : Nat} {a : Addr} {oe : Obj} {pn : List (Addr × Obj)} {c i j : Nat} {tb : List Bool} {n x : Str} {p p1 p2 pos : Pos}
theorem eIsE_at {ρ : Rho} {h : Hs} {r : R D} (e : eIsE i c tb ρ h = r) (hr : r ≠ .no) : ρ[i]? = some (some (.exc c)) ∧ ∃ b, tb[c]? = some b ∧ r = .ok (.bl b) h := by
  unfold eIsE at e
  split at e
  · rename_i d hd
    split at e
    · rename_i b hb
      split at e
      · rename_i hc
        subst hc
        exact ⟨hd, b, hb, e.symm⟩
      · exact absurd e.symm hr
    · exact absurd e.symm hr
  · exact absurd e.symm hr
theorem q_isE (C : ExcC X.K (G.cl c)) (hz : Zc (.ref (G.cl c)) none oe) (hf : ∃ vs, oe.data = .fields vs) (E : XC X.K X.mg G j x) (ht : ∀ b, tb[c]? = some b → PySem.W.kitOne X.K (.ref (G.cl c)) (.ref (G.cl j)) = some b)
    (hm : X.mg "isinstance" = none) (hN : X.N[i]? = some n := by rfl) (hv : Vis X.env.scope n := by first | exact Or.inl rfl | exact Or.inr (Or.inl rfl)) (hg : Gl X "isinstance" := by rfl) (hg2 : Gl X x := by rfl) (hd : (x == ("__debug__" : Str)) = false := by decide)
    (hd1 : (n == ("__debug__" : Str)) = false := by decide) (hd2 : (n == ("__classdict__" : Str)) = false := by decide) :
    QE (X.suite a ((a, oe) :: pn)) (G.wi (excF G a)) W0 (.Call (.Name "isinstance" p) [.Name n p1, .Name x p2] [] pos) (eIsE i c tb) := by
  have h1 : PE (X.suite a ((a, oe) :: pn)) (.Name n p1) (tVar i) := pe_var hN hv hd1 hd2
  have h2 : PE (X.suite a ((a, oe) :: pn)) (.Name x p2) (tC (.ref (G.cl j))) := pe_glob hg2 E.g rfl hd
  refine qe_of (pe_callB (call_isE C hz hf) hg hm boot_isinstance (pa_cons h1 (pa_cons h2 pa_nil)) (by decide) (by decide)) fun σ H Q ⟨ρ, h, F, ι, rs, r0, p⟩ => ?_
  obtain ⟨e1, b, e2, e3⟩ := eIsE_at (r := eIsE i c tb ρ h) rfl (fun z => by rw [z] at p; exact p)
  rw [e3] at p
  obtain ⟨v, g1, g2⟩ := rs.2 i _ e1
  have g2 : v = .ref a := g2
  subst g2
  exact ⟨_, g1, .ref (G.cl j), .ref (G.cl j), b, rfl, fun u z => z, ht b e2, Pst.okk p r0 (.bl b)⟩
theorem vals_refs : ∀ {cs : List Addr} {its : List Value}, Vals (cs.map V.ref) its → its = cs.map Value.ref
  | [], _, rv => by cases rv; rfl
  | c :: cs, _, rv => by
    cases rv with
    | cons z1 z2 =>
      rw [vals_refs z2, show _ = Value.ref c from z1]
      rfl
/-- .. (A, B, ..) -/
theorem call_isET {D : Addr} (C : ExcC X.K D) (hz : Zc (.ref D) none oe) (hf : ∃ vs, oe.data = .fields vs) : CallR (X.suite a ((a, oe) :: pn)) (.builtin "isinstance")
    (fun xs H Q => ∃ (tp : Addr) (cs : List Addr) (b : Bool), xs = [.ref a, .ref tp] ∧ H tp = some (.tup (cs.map V.ref)) ∧ PySem.W.kitAny X.K (.ref D) (cs.map Value.ref) = some b ∧ Q (.bl b) H) := by
  intro pins s σ H xs us Q I r ⟨tp, cs, b, ex, hT, e, q⟩
  subst ex
  obtain ⟨u1, u2, rfl, r1, r2⟩ := vals2 r
  cases (show u2 = Value.ref tp from r2)
  cases (show u1 = Value.ref a from r1)
  obtain ⟨hget, _⟩ := I.pin (a, oe) (List.mem_append.mpr (.inl List.mem_cons_self))
  obtain ⟨vs, hv⟩ := hf
  have J : PySem.W.InstAt s.heap a oe D none := by
    obtain ⟨oc, od, oda, osl⟩ := oe
    obtain ⟨z1, z2⟩ := hz
    dsimp only at z1 z2 hv
    subst z1 z2 hv
    exact ⟨hget, rfl, rfl, trivial⟩
  obtain ⟨_, its, rv, o, g1, g2, m, g3⟩ := (show ObjOk X.prog X.w H s.heap tp (.tup (cs.map V.ref)) from I.hok tp _ hT)
  have e3 : its = cs.map Value.ref := vals_refs rv
  subst e3
  obtain ⟨oc, od, dt, sl⟩ := o
  simp only at g2 g3
  subst g2 g3
  exact PySem.W.kia_tup (PySem.W.handS_kitx_exc C.hg C.hk C.hs C.hd C.ha C.hn C.ht C.hm) I.kIn J g1 e (fun z => nomatch z) fun tk => ⟨.bl b, H, I.kept (t' := tk) fun _ _ z => z, rfl, q⟩
/-- class names, read -/
inductive ClN (X : Cx) (G : Gn) : List Expr → List Nat → Prop
  | nil : ClN X G [] []
  | cons {x : Str} {p : Pos} {es : List Expr} {j : Nat} {js : List Nat} (E : XC X.K X.mg G j x) (hg : Gl X x) (hd : (x == ("__debug__" : Str)) = false) (r : ClN X G es js) : ClN X G (.Name x p :: es) (j :: js)
def tCls (G : Gn) (js : List Nat) : TA := fun _ H Q => Q (js.map fun j => V.ref (G.cl j)) H
theorem cln_pa {es : List Expr} {js : List Nat} (h : ClN X G es js) : PA (X.suite a ((a, oe) :: pn)) es (tCls G js) := by
  induction h with
  | nil => exact pa_nil
  | cons E hg hd r ih => exact pa_cons (X := X.suite a ((a, oe) :: pn)) (pe_glob (v := .ref (G.cl _)) hg E.g rfl hd) ih
theorem q_isET (C : ExcC X.K (G.cl c)) (hz : Zc (.ref (G.cl c)) none oe) (hf : ∃ vs, oe.data = .fields vs) {es : List Expr} {js : List Nat} {kk : Nat} (L : ClN X G es js) (hl : js.length ≤ 100) (ht : ∀ b, tb[c]? = some b → PySem.W.kitAny X.K (.ref (G.cl c)) (js.map fun j => .ref (G.cl j)) = some b)
    (hm : X.mg "isinstance" = none) (hN : X.N[i]? = some n := by rfl) (hv : Vis X.env.scope n := by first | exact Or.inl rfl | exact Or.inr (Or.inl rfl)) (hg : Gl X "isinstance" := by rfl)
    (hd1 : (n == ("__debug__" : Str)) = false := by decide) (hd2 : (n == ("__classdict__" : Str)) = false := by decide) :
    QE (X.suite a ((a, oe) :: pn)) (G.wi (excF G a)) W0 (.Call (.Name "isinstance" p) [.Name n p1, .Tuple es kk p2] [] pos) (eIsE i c tb) := by
  have h1 : PE (X.suite a ((a, oe) :: pn)) (.Name n p1) (tVar i) := pe_var hN hv hd1 hd2
  refine qe_of (pe_callB (call_isET C hz hf) hg hm boot_isinstance (pa_cons h1 (pa_cons (pe_tup (cln_pa L)) pa_nil)) (by decide) (by decide)) fun σ H Q ⟨ρ, h, F, ι, rs, r0, p⟩ => ?_
  obtain ⟨e1, b, e2, e3⟩ := eIsE_at (r := eIsE i c tb ρ h) rfl (fun z => by rw [z] at p; exact p)
  rw [e3] at p
  obtain ⟨v, g1, g2⟩ := rs.2 i _ e1
  have g2 : v = .ref a := g2
  subst g2
  refine ⟨_, g1, ?_⟩
  refine (show (js.map fun j => V.ref (G.cl j)).length ≤ sizeLine ∧ ∀ q, H q = none → _ from ⟨by rw [List.length_map, sizeLine_eq]; omega, fun q hq => ?_⟩)
  refine ⟨q, js.map G.cl, b, rfl, by rw [upd_same, List.map_map]; rfl, by rw [List.map_map]; exact ht b e2, ?_⟩
  obtain ⟨r', ee⟩ := r0.lay (u := .tup (js.map fun j => V.ref (G.cl j))) hq ⟨fun _ _ z => (nomatch z), fun _ z => (nomatch z)⟩
  exact p _ _ _ _ (Stp.lay hq ee) r' (.bl b)
end
end U
/-! own classes: fields, methods, instances made -/
namespace U
open PySem PySem.Spec PyProof.Rows L2 RZ

def insD (d : D) (h : Hs) : Option (Nat × Nat × List (Str × D)) := match d with
  | .ref i => match h[i]? with
    | some (.ins c fs) => some (i, c, fs)
    | _ => none
  | _ => none
def putFd (f : Str) (d : D) : List (Str × D) → List (Str × D)
  | [] => [(f, d)]
  | (g, e) :: l => if g = f then (g, d) :: l else (g, e) :: putFd f d l
section
variable {G : Gn} {F : Hp} {ι : List Addr} {h : Hs} {H : Hp}
theorem insD_at (r : Rs G F ι h H) {d : D} {v : V} {i c : Nat} {fs : List (Str × D)} (e : insD d h = some (i, c, fs)) (q : Rel G F ι d v) :
    ∃ a dx vs, d = .ref i ∧ v = .ref a ∧ ι[i]? = some a ∧ h[i]? = some (.ins c fs) ∧ H a = some (.ins (G.cl c) dx vs) ∧ RelF G F ι fs vs := by
  unfold insD at e
  split at e
  · rename_i j
    split at e
    · rename_i c' fs' e1
      cases e
      cases q with
      | ref e2 =>
        obtain ⟨u, g1, g2⟩ := r.bx e2 e1
        cases u with
        | ins C dx vs =>
          obtain ⟨rfl, g3⟩ := g2
          exact ⟨_, dx, vs, rfl, rfl, e2, e1, g1, g3⟩
        | _ => exact (show False from g2).elim
    · cases e
  · cases e
theorem relF_look {f : Str} {l : List (Str × D)} : ∀ {vs : List (Str × V)}, RelF G F ι l vs → (l.lookup f = none → vs.lookup f = none) ∧ ∀ d, l.lookup f = some d → ∃ v, vs.lookup f = some v ∧ Rel G F ι d v := by
  induction l with
  | nil => intro vs h; cases h; exact ⟨fun _ => rfl, fun d e => by cases e⟩
  | cons p l ih =>
    intro vs h
    cases h with
    | cons q r =>
      rename_i k d' v' xs
      rw [List.lookup_cons, List.lookup_cons]
      cases hk : f == k with
      | true => exact ⟨fun z => (nomatch z), fun d z => (by cases z; exact ⟨v', rfl, q⟩)⟩
      | false => exact ih r
theorem relF_len {l : List (Str × D)} : ∀ {vs : List (Str × V)}, RelF G F ι l vs → l.length = vs.length := by
  induction l with
  | nil => intro vs h; cases h; rfl
  | cons p r ih => intro vs h; cases h with | cons h t => exact congrArg (· + 1) (ih t)
theorem relF_put {f : Str} {d : D} {v : V} (q0 : Rel G F ι d v) {l : List (Str × D)} : ∀ {vs : List (Str × V)}, RelF G F ι l vs → RelF G F ι (putFd f d l) (putF f v vs) := by
  induction l with
  | nil => intro vs h; cases h; exact .cons q0 .nil
  | cons p l ih =>
    intro vs h
    obtain ⟨g, e⟩ := p
    cases h with
    | cons q r =>
      unfold putFd putF
      by_cases hg : g = f
      · rw [if_pos hg, if_pos hg]
        exact .cons q0 r
      · rw [if_neg hg, if_neg hg]
        exact .cons q (ih r)
end
/-- the classes with a field f -/
structure FldC (K : PySem.W.Frag) (G : Gn) (cs : List Nat) (f : Str) : Prop where
  ok : ∀ c ∈ cs, Cls K (G.cl c) ∧ NoAttr K (G.cl c) f
theorem FldC.wi {K : PySem.W.Frag} {G : Gn} {cs : List Nat} {f : Str} (h : FldC K G cs f) (fi : Nat → FnI) : FldC K (G.wi fi) cs f := ⟨h.ok⟩
/-- o.f -/
def eFld (cs : List Nat) (f : Str) (fa : EV) : EV := fun ρ h => (fa ρ h).bind fun d h1 => match insD d h1 with
  | some (_, c, fs) => if cs.contains c = true then (match fs.lookup f with
    | some v => .ok v h1
    | none => .no) else .no
  | none => .no
/-- o.f = e -/
def sFldS (cs : List Nat) (f : Str) (fv fo : EV) : SV := fun ρ h => match fv ρ h with
  | .ok y h1 => (match fo ρ h1 with
    | .ok x h2 => (match insD x h2 with
      | some (i, c, fs) => if cs.contains c = true ∧ fs.length < 1000 then .nx ρ (h2.set i (.ins c (putFd f y fs))) else .no
      | none => .no)
    | .er c h2 => .er c ρ h2
    | .no => .no)
  | .er c h1 => .er c ρ h1
  | .no => .no
section
variable {X : Cx} {G : Gn} {W : WX} {k : Nat} {o value : Expr} {es : List Expr} {e : Expr} {fa fo fv : EV} {ga : AV} {f m x : Str} {pos pos' apos p : Pos} {cs : List Nat} {c : Nat}
theorem q_fld (bn : Bn0 X G) (T : FldC X.K G cs f) (ha : QE X G W o fa) (hb : attributeBase o f X.env (eval o X.env) = eval o X.env := by rfl) : QE X G W (.Attribute o f pos) (eFld cs f fa) := by
  refine qe_of (pe_fld ha hb) fun σ H Q ⟨ρ, h, F, ι, rs, r0, p⟩ => tE.bind rs r0 p fun d h1 v H1 F1 ι1 e1 r1 q1 p1 => ?_
  cases e2 : insD d h1 with
  | none => simp only [e2] at p1; exact p1.elim
  | some t =>
    obtain ⟨i, c, fs⟩ := t
    simp only [e2] at p1
    by_cases hc : cs.contains c = true
    · simp only [if_pos hc] at p1
      obtain ⟨a, dx, vs, rfl, rfl, g1, g2, g3, g4⟩ := insD_at r1 e2 q1
      cases e3 : fs.lookup f with
      | none => simp only [e3] at p1; exact p1.elim
      | some w =>
        simp only [e3] at p1
        obtain ⟨v, l1, l2⟩ := (relF_look g4).2 w e3
        obtain ⟨k1, k2⟩ := T.ok c (by simpa using hc)
        exact ⟨a, G.cl c, dx, vs, v, rfl, g3, k1, k2, l1, Pst.okk p1 r1 l2⟩
    · simp only [if_neg hc] at p1
      exact p1.elim
theorem qs_fld (bn : Bn0 X G) (T : FldC X.K G cs f) (hv : QE X G W value fv) (ho : QE X G W o fo) (hs : swapsWith value (some (.Attribute o f pos')) pos.line X.env = pure false := by rfl) : QS X G W (.Assign [.Attribute o f pos'] value pos) (sFldS cs f fv fo) := by
  refine qs_of (ps_fld ho hv hs) fun Dn σ H ⟨ρ, h, F, ι, rs, r0, p⟩ => ?_
  unfold sFldS at p
  refine ⟨ρ, h, F, ι, rs, r0, ?_⟩
  cases e1 : fv ρ h with
  | no => rw [e1] at p; exact p.elim
  | er c h1 =>
    rw [e1] at p
    exact fun H' F' ι' s r => p σ H' F' ι' s (rs.ext s.toExt) r
  | ok y h1 =>
    simp only [e1] at p
    intro yv H1 F1 ι1 s1 r1 q1
    refine ⟨ρ, h1, F1, ι1, rs.ext s1.toExt, r1, ?_⟩
    cases e2 : fo ρ h1 with
    | no => simp only [e2] at p; exact p.elim
    | er c h2 =>
      simp only [e2] at p
      exact fun H' F' ι' s r => p σ H' F' ι' (s1.trans s) (rs.ext (s1.trans s).toExt) r
    | ok x h2 =>
      simp only [e2] at p
      intro xv H2 F2 ι2 s2 r2 q2
      cases e3 : insD x h2 with
      | none => simp only [e3] at p; exact p.elim
      | some t =>
        obtain ⟨i, c, fs⟩ := t
        simp only [e3] at p
        by_cases hc : cs.contains c = true ∧ fs.length < 1000
        · simp only [if_pos hc] at p
          obtain ⟨a, dx, vs, rfl, rfl, g1, g2, g3, g4⟩ := insD_at r2 e3 q2
          obtain ⟨k1, k2⟩ := T.ok c (by simpa using hc.1)
          refine ⟨a, G.cl c, dx, vs, rfl, g3, k1, k2, by rw [← relF_len g4]; exact hc.2, ?_⟩
          have s3 : Stp F2 ι2 H2 F2 ι2 (upd H2 a (.ins (G.cl c) dx (putF f yv vs))) := Stp.put g1 g3 (fun _ _ z => nomatch z)
          exact p σ _ F2 ι2 ((s1.trans s2).trans s3) (rs.ext (s1.trans s2).toExt) (r2.put g1 g2 (fun z => nomatch z) ⟨rfl, relF_put (q1.ext s2.toExt) g4⟩)
        · simp only [if_neg hc] at p
          exact p.elim
/-- a method as its callers see it -/
structure Md (P : Program) (w : World) (K : PySem.W.Frag) (mg : Str → Option Value) (base : Heap) (G : Gn) (j c : Nat) (m : Str) (φ : DF) : Prop where
  ex : ∃ (f : Addr) (fd : FuncData) (ps : List Str), (∀ fi, FnOk P w K mg base (L2.CX P w) j f fd ps (spD (G.wi fi) φ)) ∧ Meth K (G.cl c) m f ∧ Binds K fd ps []
  cl : Cls K (G.cl c)
theorem Md.wi {P : Program} {w : World} {K : PySem.W.Frag} {mg : Str → Option Value} {base : Heap} {j : Nat} {φ : DF} (F : Md P w K mg base G j c m φ) (fi : Nat → FnI) : Md P w K mg base (G.wi fi) j c m φ := ⟨F.ex, F.cl⟩
/-- an __init__ -/
structure Mz (P : Program) (w : World) (K : PySem.W.Frag) (mg : Str → Option Value) (base : Heap) (G : Gn) (j c : Nat) (x : Str) (φ : DF) : Prop where
  ex : ∃ (f : Addr) (fd : FuncData) (ps : List Str), (∀ fi, FnOk P w K mg base (L2.CX P w) j f fd ps (spD (G.wi fi) φ)) ∧ Mk K (G.cl c) f ∧ Binds K fd ps []
  g : mg x = some (.ref (G.cl c))
theorem Mz.wi {P : Program} {w : World} {K : PySem.W.Frag} {mg : Str → Option Value} {base : Heap} {j : Nat} {φ : DF} (F : Mz P w K mg base G j c x φ) (fi : Nat → FnI) : Mz P w K mg base (G.wi fi) j c x φ := ⟨F.ex, F.g⟩
/-- o.m(..); it lets nothing out -/
def eMeth (c : Nat) (m : Str) (φ : DF) (fo : EV) (ga : AV) : EV := fun ρ h => (fo ρ h).bind fun x h1 => match insD x h1 with
  | some (_, c', fs) => if c' = c then (match fs.lookup m with
    | none => (ga ρ h1).bind fun ds h2 => match φ (x :: ds) h2 with
      | .ok d h3 => .ok d h3
      | _ => .no
    | some _ => .no) else .no
  | none => .no
theorem no_out {P : Program} {w : World} {E' : Value → Shared → Prop} (outer : List Env) (H : Hp) (s : Shared) (e : Value) (s' : Shared) (h : L2.CX P w outer H s (fun _ _ _ => False) e s') : E' e s' := by
  obtain ⟨_, _, _, _, _, _, _, _, _, _, _, _, z⟩ := h
  exact z.elim
theorem tMeth_of {φ : DF} {σ : L2.St} {H : Hp} {Q : VK} (q : tE G W (eMeth c m φ fo ga) σ H Q) : tMeth (G.cl c) m (spD G φ) [] (fun _ _ _ => False) (tE G W fo) (tAa G W ga) σ H Q := by
  obtain ⟨ρ, h, F, ι, rs, r0, p⟩ := q
  refine tE.bind rs r0 p fun x h1 v H1 F1 ι1 s1 r1 q1 p1 => ?_
  cases e2 : insD x h1 with
  | none => simp only [e2] at p1; exact p1.elim
  | some t =>
    obtain ⟨i, c', fs⟩ := t
    simp only [e2] at p1
    by_cases hc : c' = c
    · simp only [if_pos hc] at p1
      subst hc
      obtain ⟨a, dx, vs, rfl, rfl, g1, g2, g3, g4⟩ := insD_at r1 e2 q1
      cases e3 : fs.lookup m with
      | some w => simp only [e3] at p1; exact p1.elim
      | none =>
        simp only [e3] at p1
        refine ⟨a, dx, vs, rfl, g3, (relF_look g4).1 e3, ρ, h1, F1, ι1, rs.ext s1.toExt, r1, p1.bind fun ds h2 us H2 F2 ι2 s2 r2 q2 p2 => ?_⟩
        rw [List.append_nil]
        refine ⟨.ref i :: ds, h2, F2, ι2, .cons (q1.ext s2.toExt) q2, r2, ?_⟩
        cases e4 : φ (.ref i :: ds) h2 with
        | ok d h3 => rw [e4] at p2; exact p2
        | er _ _ => rw [e4] at p2; exact p2.elim
        | no => rw [e4] at p2; exact p2.elim
    · simp only [if_neg hc] at p1
      exact p1.elim
theorem q_meth (bn : Bn X G W k) {pl : Sem Bool} {φ : DF} (F : Md X.prog X.w X.K X.mg X.base G k c m φ) (ho : QE X G W o fo) (ha : QA X G W (e :: es) ga) (hst : starEach (e :: es) X.env = (false, eval e X.env) :: starEach es X.env := by rfl) (hpl : (backTo pos (starEach es X.env)).any (·.1) = false := by rfl)
    (ht : eval (.Call (.Attribute o m apos) (e :: es) [] pos) X.env = (do let ov ← eval o X.env; standAt apos.atName; let (f, first) ← holding [ov] (getMethod ov m pl); callWith pos f first (backTo pos (starEach (e :: es) X.env)) (backToKw pos (keywordEach [] X.env))) := by rfl) :
    QE X G W (.Call (.Attribute o m apos) (e :: es) [] pos) (eMeth c m φ fo ga) := by
  obtain ⟨f, fd, ps, F1, hm, hb⟩ := F.ex
  have F1 : FnOk X.prog X.w X.K X.mg X.base (L2.CX X.prog X.w) k f fd ps (spD G φ) := F1 G.fi
  exact qe_of (pe_meth (E := fun _ _ _ => False) ho F.cl hm F1 bn.hr hb .nil (fun _ _ H s e s' _ h => no_out _ H s e s' h) ha hst hpl ht) fun σ H Q q => tMeth_of q
theorem q_meth0 (bn : Bn X G W k) {pl : Sem Bool} {φ : DF} (F : Md X.prog X.w X.K X.mg X.base G k c m φ) (ho : QE X G W o fo)
    (ht : eval (.Call (.Attribute o m apos) [] [] pos) X.env = (do let ov ← eval o X.env; standAt apos.atName; let (f, first) ← holding [ov] (getMethod ov m pl); callWith pos f first (backTo pos (starEach [] X.env)) (backToKw pos (keywordEach [] X.env))) := by rfl) :
    QE X G W (.Call (.Attribute o m apos) [] [] pos) (eMeth c m φ fo aNil) := by
  obtain ⟨f, fd, ps, F1, hm, hb⟩ := F.ex
  have F1 : FnOk X.prog X.w X.K X.mg X.base (L2.CX X.prog X.w) k f fd ps (spD G φ) := F1 G.fi
  refine qe_of (pe_meth0 (E := fun _ _ _ => False) ho F.cl hm F1 bn.hr hb .nil (fun _ _ H s e s' _ h => no_out _ H s e s' h) ht) fun σ H Q q => ?_
  have q := tMeth_of (ga := aNil) q
  have mono : ∀ (Q1 Q2 : VK), (∀ v H, Q1 v H → Q2 v H) → tE G W fo σ H Q1 → tE G W fo σ H Q2 := fun Q1 Q2 hq ⟨ρ, h, F, ι, rs, r0, p⟩ => ⟨ρ, h, F, ι, rs, r0, by
    cases eb : fo ρ h with
    | ok d h2 => rw [eb] at p; exact fun b H' F' ι' s r q => hq _ _ (p b H' F' ι' s r q)
    | er c h2 => rw [eb] at p; exact p
    | no => rw [eb] at p; exact p⟩
  refine mono _ _ (fun v H1 ⟨a, dx, fs, e1, e2, e3, e4⟩ => ⟨a, dx, fs, e1, e2, e3, ?_⟩) q
  obtain ⟨ρ, h, F, ι, rs, r0, p⟩ := e4
  exact Pst.okk (rel := RelL G) p r0 .nil
/-- C(..) -/
def dn (m : Nat → DF) : Nat → DF
  | 0 => fun _ _ => .no
  | n + 1 => m n
def eMake (c : Nat) (φ : DF) (ga : AV) : EV := fun ρ h => (ga ρ h).bind fun ds h1 => match φ (.ref h1.length :: ds) (h1 ++ [.ins c []]) with
  | .ok .non h2 => .ok (.ref h1.length) h2
  | _ => .no
theorem q_make {n : Nat} (bn : Bn X G W n) {mi : Nat → DF} (F : ∀ j, Mz X.prog X.w X.K X.mg X.base G j c x (mi j)) (ha : QA X G W (e :: es) ga) (hg : Gl X x := by rfl) (hdb : (x == ("__debug__" : Str)) = false := by decide)
    (he : starEach (e :: es) X.env = (false, eval e X.env) :: starEach es X.env := by rfl) (hpl : (backTo pos (starEach es X.env)).any (·.1) = false := by rfl) : QE X G W (.Call (.Name x p) (e :: es) [] pos) (eMake c (dn mi n) ga) := by
  cases n with
  | zero =>
    -- what stands behind the arguments is nothing
    obtain ⟨f, fd, ps, F1, hm, hb⟩ := (F 0).ex
    refine ⟨fun pins s σ H Q I ⟨ρ, h, F0, ι, rs, r0, p⟩ => ?_⟩
    refine wpAny_Call_Name_kw (ld_glob I hg (F 0).g ?_ hdb)
    have ht : tAa G W ga σ H (fun _ _ => False) := ⟨ρ, h, F0, ι, rs, r0, p.bind fun ds h1 vs H1 F1 ι1 e1 r1 q1 p1 => p1⟩
    exact PySem.W.callWith_K (h₀ := X.base) I.ok.mod.kin hm.kp (thn (ha.run pos pins s σ H _ I ht) fun us s1 ⟨vs, H1, I1, r, q⟩ => q.elim) he hpl
  | succ n =>
    obtain ⟨f, fd, ps, F1, hm, hb⟩ := (F n).ex
    have F1 : FnOk X.prog X.w X.K X.mg X.base (L2.CX X.prog X.w) n f fd ps (spD G (mi n)) := F1 G.fi
    refine qe_of (pe_make (E := fun _ _ _ => False) hm F1 bn.hr hg (F n).g hb .nil (fun _ _ H s e s' _ h => no_out _ H s e s' h) ha hdb he hpl) fun σ H Q ⟨ρ, h, F0, ι, rs, r0, p⟩ => ?_
    refine ⟨ρ, h, F0, ι, rs, r0, p.bind fun ds h1 vs H1 F1 ι1 e1 r1 q1 p1 a dx na nx ne => ?_⟩
    have p1 : Pst G F1 ι1 H1 (Rel G) (fun c H' => W (.ref (G.cl c)) none σ H') (match mi n (.ref h1.length :: ds) (h1 ++ [.ins c []]) with
      | .ok .non h2 => .ok (.ref h1.length) h2
      | _ => .no) Q := p1
    have nι : dx ∉ ι1 := fun m => r1.inbox m nx
    have nF : F1 dx = none := by
      cases z : F1 dx with
      | none => rfl
      | some u => exact absurd nx (rd_some (r1.fz _ _ z))
    have na2 : upd H1 dx (.own a) a = none := by rw [upd_ne (Ne.symm ne)]; exact na
    have r2 : Rs G F1 ι1 h1 (upd H1 dx (.own a)) := r1.side nι nF (.inl nx)
    obtain ⟨r3, e3⟩ := r2.box (u := .ins (G.cl c) dx []) (o := .ins c []) na2 ⟨rfl, .nil⟩
    have s3 : Stp F1 ι1 H1 F1 (ι1 ++ [a]) (upd (upd H1 dx (.own a)) a (.ins (G.cl c) dx [])) := by
      refine ⟨e3, fun b m z _ => ?_, fun b u q _ _ _ => ?_, fun b u q z => (by rw [z] at q; cases q), fun b o u q => ?_⟩
      · rcases List.mem_append.mp m with m | m
        · exact absurd m z
        · have : b = a := by simpa using m
          rw [this]
          exact .none na
      · rw [upd_ne (ne_of_none q na), upd_ne (ne_of_none q nx)]
        exact q
      · rw [upd_ne (ne_of_none q na), upd_ne (ne_of_none q nx)]
        exact q
    have qa : Rel G F1 (ι1 ++ [a]) (.ref h1.length) (.ref a) := by
      refine .ref ?_
      rw [← r1.len, List.getElem?_append_right (Nat.le_refl _), Nat.sub_self]
      rfl
    rw [List.append_nil]
    refine ⟨.ref h1.length :: ds, _, F1, ι1 ++ [a], .cons qa (RelL.ext e3 q1), r3, ?_⟩
    have p2 := Pst.ext s3 p1
    cases e4 : mi n (.ref h1.length :: ds) (h1 ++ [.ins c []]) with
    | no => rw [e4] at p2; exact p2.elim
    | er _ _ => rw [e4] at p2; exact p2.elim
    | ok d h2 =>
      rw [e4] at p2
      cases d with
      | non =>
        intro v H2 F2 ι2 s2 r2 q2
        cases q2
        exact ⟨rfl, p2 _ H2 F2 ι2 s2 r2 (qa.ext s2.toExt)⟩
      | _ => exact p2.elim
/-- a method, an __init__, as the head tells them -/
structure MDf (K : PySem.W.Frag) (G : Gn) (c : Nat) (m qual : Str) (st : Stmt) : Prop where
  ex : ∃ (f : Addr) (fd : FuncData), FunD K m qual (defArgs st) (defBody st) (defScope st) [] [] f fd ∧ Meth K (G.cl c) m f
  cl : Cls K (G.cl c)
structure ZDf (K : PySem.W.Frag) (mg : Str → Option Value) (G : Gn) (c : Nat) (x qual : Str) (st : Stmt) : Prop where
  ex : ∃ (f : Addr) (fd : FuncData), FunD K "__init__" qual (defArgs st) (defBody st) (defScope st) [] [] f fd ∧ Mk K (G.cl c) f
  g : mg x = some (.ref (G.cl c))
def BindsM (m qual : Str) (st : Stmt) (ps : List Str) : Prop :=
  ∀ (kV doc pm : Value) (an : Option Addr) (cdv ct : Value) (us : List Value), us.length = ps.length → bindArgs (PySem.W.fnOf m qual (defArgs st) (defBody st) (defScope st) .none kV doc pm an cdv ct) ⟨us, []⟩ = pure (ps.zip us)
end
section
variable {P : Program} {w : World} {K : PySem.W.Frag} {mg : Str → Option Value} {base : Heap} {G : Gn} {m qual x : Str} {c : Nat} {st : Stmt} {N ps : List Str} {n : Nat} {b : SV}
theorem fn_zero {f : Addr} {fd : FuncData} : FnOk P w K mg base (L2.CX P w) 0 f fd ps (spD G (fun _ _ => .no)) := ⟨fun vs H Q E ⟨_, _, _, _, _, _, p⟩ => p.elim, fun A outer s H args us vs Q E _ _ _ _ ⟨_, _, _, _, _, _, p⟩ => p.elim⟩
theorem Md.zero (D : MDf K G c m qual st) (hb : BindsM m qual st ps) : Md P w K mg base G 0 c m (fun _ _ => .no) := by
  obtain ⟨f, fd, F, e⟩ := D.ex
  exact ⟨⟨f, fd, ps, fun fi => fn_zero, e, F.bindsN hb⟩, D.cl⟩
theorem Md.succ (D : MDf K G c m qual st) (S : FnScope N ps (defScope st)) (hK : G.K = K) (hw : G.w = w) (keep : Bool) (hb : BindsM m qual st ps)
    (d : ∀ (fi : Nat → FnI) (f : Addr) (cdv : Value) (A : Around) (outer : List Env) (s : Shared) (H : Hp) (E : XK) (W : WX), Bn (cxOf (L2.CX P w) P w K mg base N qual (defScope st) f cdv A outer s H E) (G.wi fi) W n → QSs (cxOf (L2.CX P w) P w K mg base N qual (defScope st) f cdv A outer s H E) (G.wi fi) W (defBody st) b) :
    Md P w K mg base G (n + 1) c m (runD ps.length N.length keep b) := by
  obtain ⟨f, fd, F, e⟩ := D.ex
  exact ⟨⟨f, fd, ps, fun fi => fn_ok (G := G.wi fi) F S hK hw keep (d fi f), e, F.bindsN hb⟩, D.cl⟩
theorem Mz.zero (D : ZDf K mg G c x qual st) (hb : BindsM "__init__" qual st ps) : Mz P w K mg base G 0 c x (fun _ _ => .no) := by
  obtain ⟨f, fd, F, e⟩ := D.ex
  exact ⟨⟨f, fd, ps, fun fi => fn_zero, e, F.bindsN hb⟩, D.g⟩
theorem Mz.succ (D : ZDf K mg G c x qual st) (S : FnScope N ps (defScope st)) (hK : G.K = K) (hw : G.w = w) (keep : Bool) (hb : BindsM "__init__" qual st ps)
    (d : ∀ (fi : Nat → FnI) (f : Addr) (cdv : Value) (A : Around) (outer : List Env) (s : Shared) (H : Hp) (E : XK) (W : WX), Bn (cxOf (L2.CX P w) P w K mg base N qual (defScope st) f cdv A outer s H E) (G.wi fi) W n → QSs (cxOf (L2.CX P w) P w K mg base N qual (defScope st) f cdv A outer s H E) (G.wi fi) W (defBody st) b) :
    Mz P w K mg base G (n + 1) c x (runD ps.length N.length keep b) := by
  obtain ⟨f, fd, F, e⟩ := D.ex
  exact ⟨⟨f, fd, ps, fun fi => fn_ok (G := G.wi fi) F S hK hw keep (d fi f), e, F.bindsN hb⟩, D.g⟩
end
end U
/-! dicts: in, get, setdefault, copies, loops; new boxes; fixing -/
namespace U
open PySem PySem.Spec PyProof.Rows L2 RZ

/-! ### one operator or the other -/
def orO (a b : Op2) : Op2 := fun x y h => match a x y h with
  | some d => some d
  | none => b x y h
section
variable {X : Cx} {G : Gn} {W : WX} {k : Nat} {e : Expr} {fa fb f g : EV} {op1 op2 : Op2} {pos : Pos}
theorem q_alt {f' : EV} (h1 : QE X G W e f) (h2 : QE X G W e g) (hf : ∀ ρ h, f' ρ h = .no ∨ f' ρ h = f ρ h ∨ f' ρ h = g ρ h) : QE X G W e f' := by
  refine ⟨fun pins s σ H Q I ⟨ρ, h, F, ι, rs, r0, p⟩ => ?_⟩
  rcases hf ρ h with z | z | z
  · rw [z] at p
    exact p.elim
  · exact h1.run pins s σ H Q I ⟨ρ, h, F, ι, rs, r0, by rw [← z]; exact p⟩
  · exact h2.run pins s σ H Q I ⟨ρ, h, F, ι, rs, r0, by rw [← z]; exact p⟩
theorem orO_alt (ρ : Rho) (h : Hs) : eOp (orO op1 op2) fa fb ρ h = .no ∨ eOp (orO op1 op2) fa fb ρ h = eOp op1 fa fb ρ h ∨ eOp (orO op1 op2) fa fb ρ h = eOp op2 fa fb ρ h := by
  unfold eOp
  cases e1 : fa ρ h with
  | no => exact .inl rfl
  | er _ _ => exact .inr (.inl rfl)
  | ok x h1 =>
    rw [R.bind_ok, R.bind_ok, R.bind_ok]
    cases e2 : fb ρ h1 with
    | no => exact .inl rfl
    | er _ _ => exact .inr (.inl rfl)
    | ok y h2 =>
      rw [R.bind_ok, R.bind_ok, R.bind_ok]
      unfold orO
      cases e3 : op1 x y h2 with
      | none => exact .inr (.inr rfl)
      | some d => exact .inr (.inl rfl)
theorem q_op2 (h1 : QE X G W e (eOp op1 fa fb)) (h2 : QE X G W e (eOp op2 fa fb)) : QE X G W e (eOp (orO op1 op2) fa fb) := q_alt h1 h2 orO_alt
theorem qt_alt {f g f' : BV} (h1 : QT X G W e f) (h2 : QT X G W e g) (hf : ∀ ρ h, f' ρ h = .no ∨ f' ρ h = f ρ h ∨ f' ρ h = g ρ h) : QT X G W e f' := by
  refine ⟨fun pins s σ H Q I ⟨ρ, h, F, ι, rs, r0, p⟩ => ?_⟩
  rcases hf ρ h with z | z | z
  · rw [z] at p
    exact p.elim
  · exact h1.run pins s σ H Q I ⟨ρ, h, F, ι, rs, r0, by rw [← z]; exact p⟩
  · exact h2.run pins s σ H Q I ⟨ρ, h, F, ι, rs, r0, by rw [← z]; exact p⟩
theorem qt_op2 (h1 : QT X G W e (bE (eOp op1 fa fb))) (h2 : QT X G W e (bE (eOp op2 fa fb))) : QT X G W e (bE (eOp (orO op1 op2) fa fb)) := qt_alt h1 h2 fun ρ h => by
  unfold bE
  rcases orO_alt (op1 := op1) (op2 := op2) (fa := fa) (fb := fb) ρ h with z | z | z
  · rw [z]
    exact .inl rfl
  · rw [z]
    exact .inr (.inl rfl)
  · rw [z]
    exact .inr (.inr rfl)
end
/-! ### k in d -/
def opDin : Op2 := fun x y h => (dicD y h).bind fun l => (keyD x).map fun k => .bl (valK l k).isSome
def opDnotin : Op2 := fun x y h => (dicD y h).bind fun l => (keyD x).map fun k => .bl (!(valK l k).isSome)
section
variable {X : Cx} {G : Gn} {W : WX} {k : Nat} {a b o e e2 : Expr} {fa fb fc fo : EV} {pos apos : Pos} {F : Hp} {ι : List Addr} {h : Hs} {H : Hp}
theorem relK_some {l : List (Key × D)} {kvs : List (Key × V)} (r : RelK G F ι l kvs) (k : Key) : (valV kvs k).isSome = (valK l k).isSome := by
  obtain ⟨h1, h2⟩ := relK_val (k := k) r
  cases e : valK l k with
  | none =>
    rw [h1 e]
    rfl
  | some d =>
    obtain ⟨v, e2, _⟩ := h2 d e
    rw [e2]
    rfl
theorem tDin_of {σ : L2.St} {Q : VK} {g : Bool → Bool} (q : tE G W (eOp (fun x y h => (dicD y h).bind fun l => (keyD x).map fun k => .bl (g (valK l k).isSome)) fa fb) σ H Q) :
    tE G W fa σ H fun y H1 => tE G W fb σ H1 fun x H2 => ∃ a o, x = .ref a ∧ DGet H2 a y o ∧ Q (.bl (g o.isSome)) H2 := by
  obtain ⟨ρ, h, F, ι, rs, r0, p⟩ := q
  refine tE.bind rs r0 p fun x h1 v H1 F1 ι1 s1 r1 q1 p1 => ?_
  refine ⟨ρ, h1, F1, ι1, rs.ext s1.toExt, r1, p1.bind fun y h2 w H2 F2 ι2 s2 r2 q2 p2 => ?_⟩
  cases e1 : dicD y h2 with
  | none => simp only [e1, Option.bind_none] at p2; exact p2.elim
  | some l =>
    cases e2 : keyD x with
    | none => simp only [e1, e2, Option.bind_some, Option.map_none] at p2; exact p2.elim
    | some kk =>
      simp only [e1, e2, Option.bind_some, Option.map_some] at p2
      obtain ⟨c, kvs, rfl, g1, g2⟩ := dicD_at r2 e1 q2
      refine ⟨c, valV kvs kk, rfl, .inl ⟨kvs, kk, g1, key_rel e2 q1, rfl⟩, ?_⟩
      rw [relK_some g2 kk]
      exact Pst.okk p2 r2 (.bl _)
theorem q_din (bn : Bn0 X G) (ha : QE X G W a fa) (hb : QE X G W b fb) (h1 : behindInMarks .In b = false := by rfl) : QE X G W (.Compare a [.In] [b] pos) (eOp opDin fa fb) :=
  qe_of (pe_cmp (pc_din (by have := bn.un; omega) ha hb) h1) fun σ H Q q => tDin_of (g := id) q
theorem q_dnotin (bn : Bn0 X G) (ha : QE X G W a fa) (hb : QE X G W b fb) (h1 : behindInMarks .NotIn b = false := by rfl) : QE X G W (.Compare a [.NotIn] [b] pos) (eOp opDnotin fa fb) :=
  qe_of (pe_cmp (pc_dnotin (by have := bn.un; omega) ha hb) h1) fun σ H Q q => tDin_of (g := not) q
theorem qt_din (bn : Bn0 X G) (ha : QE X G W a fa) (hb : QE X G W b fb) (h1 : behindInMarks .In b = false := by rfl) : QT X G W (.Compare a [.In] [b] pos) (bE (eOp opDin fa fb)) :=
  qt_of (pt_cmp (pc_din (by have := bn.un; omega) ha hb) h1) fun σ H Q q => tDin_of (g := id) (tB_of q)
theorem qt_dnotin (bn : Bn0 X G) (ha : QE X G W a fa) (hb : QE X G W b fb) (h1 : behindInMarks .NotIn b = false := by rfl) : QT X G W (.Compare a [.NotIn] [b] pos) (bE (eOp opDnotin fa fb)) :=
  qt_of (pt_cmp (pc_dnotin (by have := bn.un; omega) ha hb) h1) fun σ H Q q => tDin_of (g := not) (tB_of q)
theorem q_in2 (bn : Bn0 X G) (ha : QE X G W a fa) (hb : QE X G W b fb) (h1 : behindInMarks .In b = false := by rfl) : QE X G W (.Compare a [.In] [b] pos) (eOp (orO opIn opDin) fa fb) := q_op2 (q_cmp (or_in bn) ha hb h1) (q_din bn ha hb h1)
theorem q_notin2 (bn : Bn0 X G) (ha : QE X G W a fa) (hb : QE X G W b fb) (h1 : behindInMarks .NotIn b = false := by rfl) : QE X G W (.Compare a [.NotIn] [b] pos) (eOp (orO opNotIn opDnotin) fa fb) := q_op2 (q_cmp (or_notin bn) ha hb h1) (q_dnotin bn ha hb h1)
theorem qt_in2 (bn : Bn0 X G) (ha : QE X G W a fa) (hb : QE X G W b fb) (h1 : behindInMarks .In b = false := by rfl) : QT X G W (.Compare a [.In] [b] pos) (bE (eOp (orO opIn opDin) fa fb)) := qt_op2 (qt_cmp (or_in bn) ha hb h1) (qt_din bn ha hb h1)
theorem qt_notin2 (bn : Bn0 X G) (ha : QE X G W a fa) (hb : QE X G W b fb) (h1 : behindInMarks .NotIn b = false := by rfl) : QT X G W (.Compare a [.NotIn] [b] pos) (bE (eOp (orO opNotIn opDnotin) fa fb)) := qt_op2 (qt_cmp (or_notin bn) ha hb h1) (qt_dnotin bn ha hb h1)
/-! ### d.get -/
def eGet1 (fo fa : EV) : EV := fun ρ h => (fo ρ h).bind fun d h1 => match dicD d h1 with
  | some _ => (fa ρ h1).bind fun x h2 => match dicD d h2, keyD x with
    | some l, some k => .ok ((valK l k).getD .non) h2
    | _, _ => .no
  | none => .no
def eGet2 (fo fa fb : EV) : EV := fun ρ h => (fo ρ h).bind fun d h1 => match dicD d h1 with
  | some _ => (fa ρ h1).bind fun x h2 => (fb ρ h2).bind fun y h3 => match dicD d h3, keyD x with
    | some l, some k => .ok ((valK l k).getD y) h3
    | _, _ => .no
  | none => .no
theorem q_get1 (bn : Bn0 X G) (ho : QE X G W o fo) (ha : QE X G W e fa) (hb : attributeBase o "get" X.env (eval o X.env) = eval o X.env := by rfl) (hl : (apos.endLine == pos.line) = true := by rfl)
    (hf : ((backTo pos (starEach [e] X.env)).all (fun x => !x.1) && (backToKw pos (keywordEach [] X.env)).all (fun x => x.1.isSome) && decide (([e] : List Expr).length + ([] : List Keyword).length + (if ([] : List Keyword).isEmpty then 0 else 1) < 30)) = true := by rfl) (ht : backTo pos (starEach [e] X.env) = [(false, eval e X.env)] := by rfl) :
    QE X G W (.Call (.Attribute o "get" apos) [e] [] pos) (eGet1 fo fa) := by
  refine qe_of (pe_dget1 (by have := bn.un; omega) ho ha ⟨hb, hf, hl, ht⟩) fun σ H Q ⟨ρ, h, F, ι, rs, r0, p⟩ => tE.bind rs r0 p fun d h1 v H1 F1 ι1 s1 r1 q1 p1 => ?_
  cases e1 : dicD d h1 with
  | none => simp only [e1] at p1; exact p1.elim
  | some l0 =>
    simp only [e1] at p1
    obtain ⟨c, kvs0, rfl, g1, _⟩ := dicD_at r1 e1 q1
    refine ⟨c, rfl, .inl ⟨kvs0, g1⟩, ρ, h1, F1, ι1, rs.ext s1.toExt, r1, p1.bind fun x h2 w H2 F2 ι2 s2 r2 q2 p2 => ?_⟩
    cases e2 : dicD d h2 with
    | none => simp only [e2] at p2; exact p2.elim
    | some l =>
      cases e3 : keyD x with
      | none => simp only [e2, e3] at p2; exact p2.elim
      | some kk =>
        simp only [e2, e3] at p2
        obtain ⟨c2, kvs, ec, g3, g4⟩ := dicD_at r2 e2 (q1.ext s2.toExt)
        cases ec
        refine ⟨valV kvs kk, .inl ⟨kvs, kk, g3, key_rel e3 q2, rfl⟩, ?_⟩
        obtain ⟨n1, n2⟩ := relK_val (k := kk) g4
        cases e4 : valK l kk with
        | none =>
          rw [n1 e4]
          rw [e4] at p2
          exact Pst.okk p2 r2 .non
        | some z =>
          obtain ⟨u, l1, l2⟩ := n2 z e4
          rw [l1]
          rw [e4] at p2
          exact Pst.okk p2 r2 l2
theorem q_get2 (bn : Bn0 X G) (ho : QE X G W o fo) (ha : QE X G W e fa) (hb2 : QE X G W e2 fb) (hb : attributeBase o "get" X.env (eval o X.env) = eval o X.env := by rfl) (hl : (apos.endLine == pos.line) = true := by rfl)
    (hf : ((backTo pos (starEach [e, e2] X.env)).all (fun x => !x.1) && (backToKw pos (keywordEach [] X.env)).all (fun x => x.1.isSome) && decide (([e, e2] : List Expr).length + ([] : List Keyword).length + (if ([] : List Keyword).isEmpty then 0 else 1) < 30)) = true := by rfl) (ht : backTo pos (starEach [e, e2] X.env) = [(false, eval e X.env), (false, eval e2 X.env)] := by rfl) :
    QE X G W (.Call (.Attribute o "get" apos) [e, e2] [] pos) (eGet2 fo fa fb) := by
  refine qe_of (pe_dget2 (by have := bn.un; omega) ho ha hb2 ⟨hb, hf, hl, ht⟩) fun σ H Q ⟨ρ, h, F, ι, rs, r0, p⟩ => tE.bind rs r0 p fun d h1 v H1 F1 ι1 s1 r1 q1 p1 => ?_
  cases e1 : dicD d h1 with
  | none => simp only [e1] at p1; exact p1.elim
  | some l0 =>
    simp only [e1] at p1
    obtain ⟨c, kvs0, rfl, g1, _⟩ := dicD_at r1 e1 q1
    refine ⟨c, rfl, .inl ⟨kvs0, g1⟩, ρ, h1, F1, ι1, rs.ext s1.toExt, r1, p1.bind fun x h2 w H2 F2 ι2 s2 r2 q2 p2 => ?_⟩
    refine ⟨ρ, h2, F2, ι2, rs.ext (s1.trans s2).toExt, r2, p2.bind fun y h3 z H3 F3 ι3 s3 r3 q3 p3 => ?_⟩
    cases e2 : dicD d h3 with
    | none => simp only [e2] at p3; exact p3.elim
    | some l =>
      cases e3 : keyD x with
      | none => simp only [e2, e3] at p3; exact p3.elim
      | some kk =>
        simp only [e2, e3] at p3
        obtain ⟨c2, kvs, ec, g3, g4⟩ := dicD_at r3 e2 (q1.ext (s2.trans s3).toExt)
        cases ec
        refine ⟨valV kvs kk, .inl ⟨kvs, kk, g3, key_rel e3 q2, rfl⟩, ?_⟩
        obtain ⟨n1, n2⟩ := relK_val (k := kk) g4
        cases e4 : valK l kk with
        | none =>
          rw [n1 e4]
          rw [e4] at p3
          exact Pst.okk p3 r3 q3
        | some z =>
          obtain ⟨u, l1, l2⟩ := n2 z e4
          rw [l1]
          rw [e4] at p3
          exact Pst.okk p3 r3 l2
end
/-! ### fixing -/
/-- what a box holds, by value; the box is dead behind it -/
def eFrz (f : EV) : EV := fun ρ h => (f ρ h).bind fun d h1 => match d with
  | .ref i => match h1[i]? with
    | some (.lst l) => .ok (.lst l) (h1.set i .dead)
    | some (.dK l) => .ok (.dic l) (h1.set i .dead)
    | _ => .no
  | d => .ok d h1
theorem q_frz {X : Cx} {G : Gn} {W : WX} {e : Expr} {f : EV} (he : QE X G W e f) : QE X G W e (eFrz f) := by
  refine qe_of he fun σ H Q ⟨ρ, h, F, ι, rs, r0, p⟩ => tE.bind rs r0 p fun d h1 v H1 F1 ι1 s1 r1 q1 p1 => ?_
  cases d with
  | ref i =>
    cases e1 : h1[i]? with
    | none => simp only [e1] at p1; exact p1.elim
    | some ob =>
      cases q1 with
      | ref hi =>
        cases ob with
        | lst l =>
          simp only [e1] at p1
          obtain ⟨a, xs, F', g1, g2, g3, g4, g5⟩ := r1.freeze e1
          rw [hi] at g1
          cases g1
          exact p1 _ _ _ _ g2 g3 (.lst (.inl (.inl g4)) g5)
        | dK l =>
          simp only [e1] at p1
          obtain ⟨a, xs, F', g1, g2, g3, g4, g5⟩ := r1.freezeK e1
          rw [hi] at g1
          cases g1
          exact p1 _ _ _ _ g2 g3 (.dic (.inl g4) g5)
        | _ => simp only [e1] at p1; exact p1.elim
  | _ => exact Pst.okk p1 r1 q1
/-! ### calls that make a box -/
abbrev OpB := D → Hs → Option Ob
def eCalB (op : OpB) (fa : EV) : EV := fun ρ h => (fa ρ h).bind fun x h1 => match op x h1 with
  | some o => .ok (.ref h1.length) (h1 ++ [o])
  | none => .no
def r1B (G : Gn) (op : OpB) : List V → Hp → VK → Prop := fun xs H Q => ∃ x dx h F ι, xs = [x] ∧ Rs G F ι h H ∧ Rel G F ι dx x ∧ ∃ o, op dx h = some o ∧ ∀ p H' F' ι', Stp F ι H F' ι' H' → Rs G F' ι' (h ++ [o]) H' → Rel G F' ι' (.ref h.length) (.ref p) → Q (.ref p) H'
theorem Rs.newO {G : Gn} {F : Hp} {ι : List Addr} {h : Hs} {H : Hp} (r : Rs G F ι h H) {p : Addr} {o : Ob} {u : HO} (n : H p = none) (q : RelO G F ι o u) : Stp F ι H F (ι ++ [p]) (upd H p u) ∧ Rs G F (ι ++ [p]) (h ++ [o]) (upd H p u) ∧ Rel G F (ι ++ [p]) (.ref h.length) (.ref p) := by
  have e : Ext F ι F (ι ++ [p]) := ⟨fun _ _ h => h, List.prefix_append _ _⟩
  obtain ⟨r', _⟩ := r.box (u := u) (o := o) n (q.ext e)
  refine ⟨Stp.box n e, r', .ref ?_⟩
  rw [← r.len, List.getElem?_append_right (Nat.le_refl _), Nat.sub_self]
  rfl
section
variable {X : Cx} {G : Gn} {W : WX} {k : Nat} {a b o e : Expr} {fa fb : EV} {pos : Pos}
theorem q_callTyB {x : Str} {T : String} {op : OpB} {p : Pos} (hc : CallR X (.type T) (r1B G op)) (hm : X.mg x = none) (hv : bootBuiltins x = some (.type T)) (ha : QE X G W a fa) (hg : Gl X x := by rfl)
    (hs : starEach [a] X.env = (false, eval a X.env) :: starEach [] X.env := by rfl) (hn : x ≠ "__name__" := by decide) (hd : (x == ("__debug__" : Str)) = false := by decide) : QE X G W (.Call (.Name x p) [a] [] pos) (eCalB op fa) := by
  refine qe_of (pe_callTy hc hg hm hv (pa_cons ha pa_nil hs) hn hd hs) fun σ H Q ⟨ρ, h, F, ι, rs, r0, p⟩ => tE.bind rs r0 p fun dx h1 x H1 F1 ι1 e1 r1 q1 p1 => ?_
  cases e : op dx h1 with
  | none => simp only [e] at p1; exact p1.elim
  | some o =>
    simp only [e] at p1
    exact ⟨x, dx, h1, F1, ι1, rfl, r1, q1, o, e, fun p H' F' ι' s r q => p1 _ H' F' ι' s r q⟩
/-- dict(..) of pairs, of a dict -/
def pairsOf : List D → Option (List (Key × D))
  | [] => some []
  | .tup [k, d] :: l => (keyD k).bind fun k => (pairsOf l).map ((k, d) :: ·)
  | _ => none
def opDict : OpB := fun x h => match dicD x h with
  | some l => some (.dK l)
  | none => match lstD x h with
    | some l => (pairsOf l).map fun ps => .dK (mergeKd [] ps)
    | none => none
theorem pairs_at {F : Hp} {ι : List Addr} {h : Hs} {H : Hp} (r : Rs G F ι h H) : ∀ {l : List D} {ps : List (Key × D)} {xs : List V}, pairsOf l = some ps → RelL G F ι l xs → ∃ as kvs, xs = as.map V.ref ∧ Paired (fun p kv => SqT G.K H p [kV kv.1, kv.2]) as kvs ∧ RelK G F ι ps kvs := by
  intro l
  induction l with
  | nil => intro ps xs e q; cases e; cases q; exact ⟨[], [], rfl, .nil, .nil⟩
  | cons d l ih =>
    intro ps xs e q
    cases q with
    | cons q1 q2 =>
      unfold pairsOf at e
      split at e
      · rename_i heq; cases heq
      · rename_i kk dd l' heq
        cases heq
        cases e1 : keyD kk with
        | none => rw [e1] at e; cases e
        | some key =>
          rw [e1] at e
          cases e2 : pairsOf l with
          | none => rw [e2] at e; cases e
          | some qs =>
            rw [e2] at e
            cases e
            obtain ⟨as, kvs, rfl, g1, g2⟩ := ih e2 q2
            cases q1 with
            | tup h1 h2 =>
              cases h2 with
              | cons z1 z2 =>
                cases z2 with
                | cons z3 z4 =>
                  cases z4
                  rename_i t x1 v2
                  rw [key_rel e1 z1] at h1
                  exact ⟨t :: as, (key, v2) :: kvs, rfl, .cons (r.sqT h1) g1, .cons z3 g2⟩
      · cases e
theorem ct_dict (bn : Bn0 X G) (hc : X.calm = true) : CallR X (.type "dict") (r1B G opDict) := by
  intro pins s σ H xs us Q I rr ⟨x, dx, h, F, ι, ex, r0, qx, o, e, q⟩
  subst ex
  unfold opDict at e
  cases e1 : dicD dx h with
  | some l =>
    rw [e1] at e
    cases e
    obtain ⟨c, kvs, rfl, g1, g2⟩ := dicD_at r0 e1 qx
    exact call_dictD pins s σ H _ us Q I rr ⟨c, kvs, rfl, g1, fun p np => by
      obtain ⟨z1, z2, z3⟩ := r0.newO (o := .dK l) (u := .dK kvs) np g2
      exact q p _ _ _ z1 z2 z3⟩
  | none =>
    rw [e1] at e
    have e : (match lstD dx h with
      | some l => (pairsOf l).map fun ps => Ob.dK (mergeKd [] ps)
      | none => none) = some o := e
    cases e2 : lstD dx h with
    | none => rw [e2] at e; cases e
    | some l =>
      rw [e2] at e
      have e : (pairsOf l).map (fun ps => Ob.dK (mergeKd [] ps)) = some o := e
      cases e3 : pairsOf l with
      | none => rw [e3] at e; cases e
      | some ps =>
        rw [e3] at e
        cases e
        obtain ⟨c, ys, rfl, g1, g2⟩ := lstD_at r0 e2 qx
        obtain ⟨as, kvs, rfl, g3, g4⟩ := pairs_at r0 e3 g2
        refine call_dictP hc pins s σ H _ us Q I rr ⟨c, as, kvs, rfl, by rw [bn.K]; exact g1, by rw [bn.K]; exact g3, fun p np => ?_⟩
        obtain ⟨z1, z2, z3⟩ := r0.newO (o := .dK (mergeKd [] ps)) (u := .dK (mergeK [] kvs)) np (relK_merge g4 .nil)
        exact q p _ _ _ z1 z2 z3
end
end U
/-! two lists to a new box; a loop over a dict; setdefault; sums; repetitions -/
namespace U
open PySem PySem.Spec PyProof.Rows L2 RZ

/-! ### a + b, a box -/
abbrev OpB2 := D → D → Hs → Option Ob
def eOpB (op : OpB2) (fa fb : EV) : EV := fun ρ h => (fa ρ h).bind fun x h1 => (fb ρ h1).bind fun y h2 => match op x y h2 with
  | some o => .ok (.ref h2.length) (h2 ++ [o])
  | none => .no
def r2B (G : Gn) (op : OpB2) : R2 := fun x y H Q => ∃ dx dy h F ι, Rs G F ι h H ∧ Rel G F ι dx x ∧ Rel G F ι dy y ∧ ∃ o, op dx dy h = some o ∧ ∀ p H' F' ι', Stp F ι H F' ι' H' → Rs G F' ι' (h ++ [o]) H' → Rel G F' ι' (.ref h.length) (.ref p) → Q (.ref p) H'
section
variable {X : Cx} {G : Gn} {W : WX} {k : Nat} {a b o e e2 : Expr} {fa fb fo : EV} {pos apos : Pos}
theorem q_binB {op : Operator} {f : OpB2} (ho : OpR X (binaryOp op) (r2B G f)) (ha : QE X G W a fa) (hb : QE X G W b fb) : QE X G W (.BinOp a op b pos) (eOpB f fa fb) := by
  refine qe_of (pe_op ho ha hb) fun σ H Q ⟨ρ, h, F, ι, rs, r0, p⟩ => tE.bind rs r0 p fun x h1 v H1 F1 ι1 s1 r1 q1 p1 => ?_
  refine ⟨ρ, h1, F1, ι1, rs.ext s1.toExt, r1, p1.bind fun y h2 w H2 F2 ι2 s2 r2 q2 p2 => ?_⟩
  cases e : f x y h2 with
  | none => simp only [e] at p2; exact p2.elim
  | some ob =>
    simp only [e] at p2
    exact ⟨x, y, h2, F2, ι2, r2, q1.ext s2.toExt, q2, ob, e, fun p H' F' ι' s r q => p2 _ H' F' ι' s r q⟩
def opAddB : OpB2 := fun x y h => match lstD x h, lstD y h with
  | some l, some m => if l.length + m.length ≤ sizeLine then some (.lst (l ++ m)) else none
  | _, _ => none
theorem or_addB (bn : Bn0 X G) : OpR X (binaryOp .Add) (r2B G opAddB) := by
  intro pins s σ H x y v u Q I rx ry ⟨dx, dy, h, F, ι, r0, qx, qy, ob, e, q⟩
  unfold opAddB at e
  split at e
  · rename_i l m e1 e2
    split at e
    · rename_i hl
      cases e
      obtain ⟨a, xs, rfl, h1, r1⟩ := lstD_at r0 e1 qx
      obtain ⟨b, ys, rfl, h2, r2⟩ := lstD_at r0 e2 qy
      have l1 := r1.len
      have l2 := r2.len
      cases rx
      cases ry
      obtain ⟨us1, rr, eo, _⟩ := I.list (show SqL X.K H a xs by rw [bn.K]; exact h1)
      obtain ⟨us2, rr2, eo2, _⟩ := I.list (show SqL X.K H b ys by rw [bn.K]; exact h2)
      have k1 := rr.length
      have k2 := rr2.length
      obtain ⟨⟨c1, dd1, dt1, sl1⟩, n1, g1, g2, g3, g4⟩ := eo
      obtain ⟨⟨c2, dd2, dt2, sl2⟩, n2, g5, g6, g7, g8⟩ := eo2
      simp only at g2 g3 g4 g6 g7 g8
      subst g2 g3 g4 g6 g7 g8
      have z : us1.toArray.size + us2.toArray.size ≤ sizeLine := by rw [List.size_toArray, List.size_toArray]; omega
      refine concat_meets ⟨_, g1, rfl⟩ ⟨_, g5, rfl⟩ noFill_list_add seq_list_add PySem.F.slot_list_add PySem.F.entry_list_add (PySem.F.args_list_add_2 _ _) (list_addW a b us1.toArray us2.toArray n1 n2 none none sl1 sl2 z) ⟨g1, g5, ?_⟩
      rw [show us1.toArray ++ us2.toArray = (us1 ++ us2).toArray by simp]
      obtain ⟨z1, z2, z3⟩ := r0.new I.fresh (RelL.app r2 r1 : RelL G F ι (l ++ m) (xs ++ ys))
      exact ⟨.ref _, _, I.lnew (t' := s.toks) (rr.append rr2) (by rw [List.length_append]; omega), rfl, q _ _ _ _ z1 z2 z3⟩
    · cases e
  · cases e
/-! ### for k in d -/
theorem Rs.lock {F : Hp} {ι : List Addr} {h : Hs} {H : Hp} (r : Rs G F ι h H) {d : Addr} {u u0 v : HO} (f : F d = some u) (e : H d = some u0) (p0 : Pl u0) (rv : Rd (upd H d v) d u) (pv : Pl v) : Rs G F ι h (upd H d v) := by
  refine ⟨fun a x q => ?_, r.nf, r.sep, r.len, r.nd, fun i o q => ?_, tabs_upd r.tabs e p0⟩
  · by_cases z : a = d
    · subst z
      rw [f] at q
      cases q
      exact rv
    · exact rd_upd (r.fz a x q) z
  · obtain ⟨b, x, e1, e2, e3⟩ := r.obj i o q
    by_cases z : b = d
    · subst z
      by_cases hd : o = .dead
      · subst hd
        exact ⟨b, _, e1, upd_same, pv⟩
      · have := r.sep i b o e1 q hd
        rw [f] at this
        cases this
    · exact ⟨b, x, e1, by rw [upd_ne z]; exact e2, e3⟩
def kD : Key → D
  | .inl i => .int i
  | .inr x => .str x
theorem kD_rel {F : Hp} {ι : List Addr} (k : Key) : Rel G F ι (kD k) (kV k) := by
  cases k with
  | inl i => exact .int i
  | inr x => exact .str x
/-- the loop, d locked as od -/
theorem forK_run {F1 : Hp} {ι1 : List Addr} {h' : Hs} {H1 : Hp} {t : Tg} {s : SV} {Dn : Ends} {σ : L2.St} {ρ : Rho} {d : Addr} {od : Obj} {l : List (Key × D)} {kvs : List (Key × V)} (rs : RelS G F1 ι1 ρ σ) (r1 : Rs G F1 ι1 h' H1) (hd : H1 d = some (.frz od (.dK kvs))) (rk : l.map (·.1) = kvs.map (·.1))
    (p : PsS G F1 ι1 H1 W (forL t s (l.map fun kv => kD kv.1) ρ h') Dn) :
    ∃ Wv : Nat → Nat → L2.St → Hp → Prop, (∃ m, Wv 0 m σ H1) ∧ ∀ i m σ H, Wv i m σ H →
      ((Itk d od kvs).stop i H ∧ Dn.nx σ H) ∨ ((Itk d od kvs).go i H ∧ ∃ N : L2.St → Hp → Prop, (∀ σ' H', N σ' H' → ∃ m', m' < m ∧ Wv (i + 1) m' σ' H') ∧ ∀ x H', (Itk d od kvs).yld i H x H' → tgR G.K t x σ H' fun σ2 H2 => tSs G W s { Dn with nx := N, ct := N, bk := Dn.nx } σ2 H2) := by
  have hlen : (l.map fun kv => kD kv.1).length = kvs.length := by
    have := congrArg List.length rk
    simpa using this
  have rk' : ∀ (i : Nat) (k : Key) (v : V), kvs[i]? = some (k, v) → (l.map fun kv => kD kv.1)[i]? = some (kD k) := fun i k v e => by
    have h1 : (kvs.map (·.1))[i]? = some k := by rw [List.getElem?_map, e]; rfl
    rw [← rk, List.getElem?_map] at h1
    rw [List.getElem?_map]
    cases e2 : l[i]? with
    | none => rw [e2] at h1; cases h1
    | some q => rw [e2] at h1; cases h1; rfl
  generalize hit : (l.map fun kv => kD kv.1) = items at *
  refine for_it (walk_keys (kvs := kvs)) (fun i σ2 H2 => ∃ ρ2 h2 F2 ι2, Stp F1 ι1 H1 F2 ι2 H2 ∧ RelS G F2 ι2 ρ2 σ2 ∧ Rs G F2 ι2 h2 H2 ∧ PsS G F2 ι2 H2 W (forL t s (items.drop i) ρ2 h2) Dn) ?_ ?_ ?_ ?_
  · exact ⟨ρ, h', F1, ι1, Stp.refl _ _ _, rs, r1, p⟩
  · rintro i σ2 H2 _ ⟨ρ2, h2, F2, ι2, s2, rs2, r2, _⟩
    exact s2.lk _ _ _ hd
  · rintro i x σ2 H2 H3 hi ⟨ρ2, h2, F2, ι2, s2, rs2, r2, p2⟩ ⟨rfl, key, v, hk, rfl⟩
    have hi2 : i < items.length := by omega
    have hd2 := rk' i key v hk
    have e0 : items[i] = kD key := by
      rw [List.getElem?_eq_getElem hi2] at hd2
      exact Option.some.inj hd2
    rw [List.drop_eq_getElem_cons hi2, e0] at p2
    unfold forL at p2
    cases et : t.set (kD key) ρ2 with
    | none => simp only [et] at p2; exact p2.elim
    | some ρ3 =>
      simp only [et] at p2
      refine tg_ok et (kD_rel key) rs2 r2 fun σ3 rs3 => ⟨ρ3, h2, F2, ι2, rs3, r2, ?_⟩
      cases es : s ρ3 h2 with
      | nx ρ4 h4 =>
        simp only [es] at p2
        exact fun σ4 H4 F4 ι4 s4 rs4 r4 => ⟨ρ4, h4, F4, ι4, s2.trans s4, rs4, r4, PsS.ext s4 p2⟩
      | ct ρ4 h4 =>
        simp only [es] at p2
        exact fun σ4 H4 F4 ι4 s4 rs4 r4 => ⟨ρ4, h4, F4, ι4, s2.trans s4, rs4, r4, PsS.ext s4 p2⟩
      | bk ρ4 h4 =>
        simp only [es] at p2
        exact fun σ4 H4 F4 ι4 s4 rs4 r4 => p2 σ4 H4 F4 ι4 s4 rs4 r4
      | rt d4 h4 =>
        simp only [es] at p2
        exact fun v H4 F4 ι4 s4 r4 q4 => p2 v H4 F4 ι4 s4 r4 q4
      | er c ρ4 h4 =>
        simp only [es] at p2
        exact fun σ4 H4 F4 ι4 s4 rs4 r4 => p2 σ4 H4 F4 ι4 s4 rs4 r4
      | no => simp only [es] at p2; exact p2.elim
  · rintro σ2 H2 ⟨ρ2, h2, F2, ι2, s2, rs2, r2, p2⟩
    rw [List.drop_eq_nil_of_le (by omega)] at p2
    exact p2 σ2 H2 F2 ι2 (Stp.refl _ _ _) rs2 r2
theorem relK_keys {F : Hp} {ι : List Addr} {l : List (Key × D)} : ∀ {kvs : List (Key × V)}, RelK G F ι l kvs → l.map (·.1) = kvs.map (·.1) := by
  induction l with
  | nil => intro kvs h; cases h; rfl
  | cons p l ih =>
    intro kvs h
    cases h with
    | cons q r =>
      rw [List.map_cons, List.map_cons, ih r]
theorem Stp.ofLock {F F' H H' : Hp} {ι ι' : List Addr} {d : Addr} {u : HO} {od : Obj} {x : HO} (f : F d = some x) (e : H d = some u) (nu : ∀ o y, u ≠ .frz o y) (s : Stp F ι (upd H d (.frz od u)) F' ι' H') : Stp F ι H F' ι' H' := by
  have at_ : ∀ a, a ≠ d → upd H d (.frz od u) a = H a := fun a n => upd_ne n
  have ne : ∀ a, F a = none → a ≠ d := fun a z w => by rw [w, f] at z; cases z
  refine ⟨s.toExt, fun a m n z => ?_, fun a y q m z py => s.kp a y (by rw [at_ a (ne a z)]; exact q) m z py, fun a y q z => ?_, fun a o y q => s.lk a o y ?_⟩
  · have := s.fr a m n z
    rw [at_ a (ne a z)] at this
    exact this
  · have := s.fx a y q z
    rw [at_ a (ne a z)] at this
    exact this
  · rw [at_ a (fun w => by rw [w, e] at q; exact nu o y (Option.some.inj q))]
    exact q
theorem Stp.unlock {F F' H H' : Hp} {ι ι' : List Addr} {d : Addr} {u : HO} {x : HO} (f : F d = some x) (e : H d = some u) (nu : ∀ o y, u ≠ .frz o y) (s : Stp F ι H F' ι' H') : Stp F ι H F' ι' (upd H' d u) := by
  have ne : ∀ a, F a = none → a ≠ d := fun a z w => by rw [w, f] at z; cases z
  refine ⟨s.toExt, s.fr, fun a y q m z py => by rw [upd_ne (ne a z)]; exact s.kp a y q m z py, s.fx, fun a o y q => ?_⟩
  rw [upd_ne (fun w => by rw [w, e] at q; exact nu o y (Option.some.inj q))]
  exact s.lk a o y q
def sForK (i : Nat) (t : Tg) (s : SV) : SV := fun ρ h => match ρ[i]? with
  | some (some (.dic l)) => forL t s (l.map fun kv => kD kv.1) ρ h
  | _ => .no
theorem qs_forK (bn : Bn X G W k) {tg : Expr} {x : Str} {p : Pos} {body : List Stmt} {t : Tg} {s : SV} {i : Nat} (hg : QG X G tg t) (hb : QSs X G W body s) (hN : X.N[i]? = some x := by rfl) (hv : Vis X.env.scope x := by first | exact Or.inl rfl | exact Or.inr (Or.inl rfl) | exact Or.inr (Or.inr rfl))
    (hs : ∀ y, foldedSetIterable (.Name x p) X.env y = pure y := by intro _; rfl) (hd : (x == ("__debug__" : Str)) = false := by decide) (hcd : (x == ("__classdict__" : Str)) = false := by decide) : QS X G W (.For tg (.Name x p) body [] pos) (sForK i t s) := by
  have hfor := ps_for (pos := pos) bn.po bn.calm (pi_keys (pe_var (pos := p) hN hv hd hcd)) hg hb hs
  refine ⟨fun pins sh σ H Dn I ⟨ρ, h, F, ι, rs, r0, p⟩ => ?_⟩
  unfold sForK at p
  split at p
  · rename_i l hl
    obtain ⟨v, hσ, hx⟩ := rs.2 i _ hl
    have hx : Rel G F ι (.dic l) v := hx
    cases hx with
    | dic q1 q2 =>
      rename_i d kvs
      have f : F d = some (.dK kvs) := by
        rcases q1 with q1 | ⟨o, q1⟩
        · exact q1
        · exact absurd rfl ((r0.nf _ _ q1).1 _ _)
      have rk := relK_keys q2
      rcases r0.fz _ _ f with e | ⟨od, e⟩
      · refine (ps_lock hfor).run pins sh σ H Dn I ⟨d, .dK kvs, e, True.intro, fun od => ?_⟩
        refine ⟨_, hσ, d, od, rfl, .inl ⟨kvs, upd_same, ?_⟩⟩
        have r1 : Rs G F ι h (upd H d (.frz od (.dK kvs))) := r0.lock f e True.intro (.inr ⟨od, upd_same⟩) True.intro
        have nu : ∀ o y, (HO.dK kvs) ≠ .frz o y := fun _ _ z => nomatch z
        refine forK_run rs r1 upd_same rk ?_
        have back : ∀ {F' H' : Hp} {ι' : List Addr} {h' : Hs}, Stp F ι (upd H d (.frz od (.dK kvs))) F' ι' H' → Rs G F' ι' h' H' → H' d = some (.frz od (.dK kvs)) ∧ Stp F ι H F' ι' (upd H' d (.dK kvs)) ∧ Rs G F' ι' h' (upd H' d (.dK kvs)) := fun s r =>
          have z := s.lk d od (.dK kvs) upd_same
          ⟨z, (s.ofLock f e nu).unlock f e nu, r.lock (s.fz _ _ f) z True.intro (.inl upd_same) True.intro⟩
        cases er : forL t s (l.map fun kv => kD kv.1) ρ h with
        | nx ρ' h' =>
          rw [er] at p
          intro σ' H' F' ι' s rs' r'
          obtain ⟨z1, z2, z3⟩ := back s r'
          exact ⟨z1, p σ' _ F' ι' z2 rs' z3⟩
        | bk ρ' h' =>
          rw [er] at p
          intro σ' H' F' ι' s rs' r'
          obtain ⟨z1, z2, z3⟩ := back s r'
          exact ⟨z1, p σ' _ F' ι' z2 rs' z3⟩
        | ct ρ' h' =>
          rw [er] at p
          intro σ' H' F' ι' s rs' r'
          obtain ⟨z1, z2, z3⟩ := back s r'
          exact ⟨z1, p σ' _ F' ι' z2 rs' z3⟩
        | rt d' h' =>
          rw [er] at p
          intro v H' F' ι' s r' q'
          obtain ⟨z1, z2, z3⟩ := back s r'
          exact ⟨z1, p v _ F' ι' z2 z3 q'⟩
        | er c ρ' h' =>
          rw [er] at p
          exact fun σ' H' F' ι' s rs' r' => p σ' H' F' ι' (s.ofLock f e nu) rs' r'
        | no => rw [er] at p; exact p
      · exact hfor.run pins sh σ H Dn I ⟨_, hσ, d, od, rfl, .inl ⟨kvs, e, forK_run rs r0 e rk p⟩⟩
  · exact p.elim
/-! ### setdefault, sums -/
def eSetd (fo fa fb : EV) : EV := fun ρ h => (fo ρ h).bind fun d h1 => match boxK d h1 with
  | some _ => (fa ρ h1).bind fun x h2 => (fb ρ h2).bind fun y h3 => match d, boxK d h3, keyD x with
    | .ref i, some l, some k => if l.length < sizeLine then (match valK l k with
      | some v => .ok v h3
      | none => .ok y (h3.set i (.dK (putKd l k y)))) else .no
    | _, _, _ => .no
  | none => .no
def intsD : List D → Option (List Int)
  | [] => some []
  | .int b :: l => (intsD l).map (b :: ·)
  | _ => none
theorem ints_at {F : Hp} {ι : List Addr} {l : List D} : ∀ {bs : List Int} {xs : List V}, intsD l = some bs → RelL G F ι l xs → xs = bs.map V.int := by
  induction l with
  | nil => intro bs xs e q; cases q; cases e; rfl
  | cons d l ih =>
    intro bs xs e q
    cases q with
    | cons q1 q2 =>
      cases d with
      | int b =>
        cases q1
        have e : (intsD l).map (b :: ·) = some bs := e
        cases e1 : intsD l with
        | none => rw [e1] at e; cases e
        | some cs =>
          rw [e1] at e
          cases e
          rw [ih e1 q2]
          rfl
      | _ => cases e
def opSum : Op1 := fun x h => (lstD x h).bind fun l => (intsD l).map fun ns => .int ns.sum
theorem cr_sumD (bn : Bn X G W k) : CallR X (.builtin "sum") (r1Of G opSum) := by
  intro pins s σ H xs us Q I r hq
  obtain ⟨x, dx, h, F, ι, rfl, r0, qx, d, e, q⟩ := hq
  unfold opSum at e
  cases e1 : lstD dx h with
  | none => rw [e1] at e; cases e
  | some l =>
    rw [e1] at e
    have e : (intsD l).map (fun bs => D.int bs.sum) = some d := e
    cases e2 : intsD l with
    | none => rw [e2] at e; cases e
    | some bs =>
      rw [e2] at e
      cases e
      obtain ⟨a, xs, rfl, h1, h2⟩ := lstD_at r0 e1 qx
      rw [ints_at e2 h2] at h1
      exact cr_sum bn.calm pins s σ H _ us Q I r ⟨a, bs, rfl, by rw [bn.K]; exact h1, q _ _ _ _ (Stp.refl _ _ _) r0 (.int _)⟩
theorem bo_sum : bootBuiltins "sum" = some (.builtin "sum") := by decide +kernel
theorem q_setd (bn : Bn0 X G) (ho : QE X G W o fo) (ha : QE X G W e fa) (hb2 : QE X G W e2 fb) (hb : attributeBase o "setdefault" X.env (eval o X.env) = eval o X.env := by rfl) (hl : (apos.endLine == pos.line) = true := by rfl)
    (hf : ((backTo pos (starEach [e, e2] X.env)).all (fun x => !x.1) && (backToKw pos (keywordEach [] X.env)).all (fun x => x.1.isSome) && decide (([e, e2] : List Expr).length + ([] : List Keyword).length + (if ([] : List Keyword).isEmpty then 0 else 1) < 30)) = true := by rfl) (ht : backTo pos (starEach [e, e2] X.env) = [(false, eval e X.env), (false, eval e2 X.env)] := by rfl) :
    QE X G W (.Call (.Attribute o "setdefault" apos) [e, e2] [] pos) (eSetd fo fa fb) := by
  refine qe_of (pe_dsetd ho ha hb2 ⟨hb, hf, hl, ht⟩) fun σ H Q ⟨ρ, h, F, ι, rs, r0, p⟩ => tE.bind rs r0 p fun d h1 v H1 F1 ι1 s1 r1 q1 p1 => ?_
  cases e1 : boxK d h1 with
  | none => simp only [e1] at p1; exact p1.elim
  | some l0 =>
    simp only [e1] at p1
    obtain ⟨i, a, kvs0, rfl, _, rfl, hi, g1, _⟩ := boxK_at r1 e1 q1
    refine ⟨a, rfl, .inl ⟨kvs0, .inl g1⟩, ρ, h1, F1, ι1, rs.ext s1.toExt, r1, p1.bind fun x h2 w H2 F2 ι2 s2 r2 q2 p2 => ?_⟩
    refine ⟨ρ, h2, F2, ι2, rs.ext (s1.trans s2).toExt, r2, p2.bind fun y h3 z H3 F3 ι3 s3 r3 q3 p3 => ?_⟩
    cases e2 : boxK (.ref i) h3 with
    | none => simp only [e2] at p3; exact p3.elim
    | some l =>
      cases e3 : keyD x with
      | none => simp only [e2, e3] at p3; exact p3.elim
      | some kk =>
        simp only [e2, e3] at p3
        by_cases hl : l.length < sizeLine
        · simp only [if_pos hl] at p3
          obtain ⟨j, b, kvs, ej, hj, eb, hj2, g3, g4⟩ := boxK_at r3 e2 (q1.ext (s2.trans s3).toExt)
          cases ej
          cases eb
          obtain ⟨n1, n2⟩ := relK_val (k := kk) g4
          refine ⟨kvs, kk, g3, key_rel e3 q2, by rw [← relK_len g4]; exact hl, fun v hv => ?_, fun hv => ?_⟩
          · cases e4 : valK l kk with
            | none =>
              rw [n1 e4] at hv
              cases hv
            | some d' =>
              obtain ⟨u, l1, l2⟩ := n2 d' e4
              rw [hv] at l1
              cases l1
              simp only [e4] at p3
              exact Pst.okk p3 r3 l2
          · cases e4 : valK l kk with
            | some d' =>
              obtain ⟨u, l1, l2⟩ := n2 d' e4
              rw [hv] at l1
              cases l1
            | none =>
              simp only [e4] at p3
              exact p3 _ _ F3 ι3 (Stp.put hj2 g3 (fun _ _ z => nomatch z)) (r3.put hj2 hj (fun z => nomatch z) (relK_put g4 q3)) q3
        · simp only [if_neg hl] at p3
          exact p3.elim
end
end U
/-! the empty dict display; tables of the head -/
namespace U
open PySem PySem.Spec PyProof.Rows L2 RZ
def clsBody : Stmt → List Stmt
  | .ClassDef _ _ _ body .. => body
  | _ => []
section
variable {X : Cx} {G : Gn} {W : WX} {pos : Pos}
theorem q_dic0 : QE X G W (.Dict [] [] pos) (eDic []) := by
  refine qe_of (f := eDic []) pe_dnewK fun σ H Q ⟨ρ, h, F, ι, rs, r0, p⟩ p' n0 => ?_
  have nι : p' ∉ ι := fun m => r0.inbox m n0
  have nF : F p' = none := by
    cases z : F p' with
    | none => rfl
    | some u => exact absurd n0 (rd_some (r0.fz _ _ z))
  obtain ⟨r2, e2⟩ := (r0.side (u := .dK []) nι nF (.inl n0)).boxK nι nF upd_same (.nil : RelK G F ι [] [])
  refine p _ _ F (ι ++ [p']) ?_ r2 (.ref ?_)
  · have s2 := (Stp.refl F ι H).side (u := .dK []) n0
    exact ⟨⟨s2.fz, s2.bx.trans (List.prefix_append _ _)⟩, fun a m z f => by
      rcases List.mem_append.mp m with m | m
      · exact s2.fr a m z f
      · have : a = p' := by simpa using m
        rw [this]
        exact .none n0, s2.kp, s2.fx, s2.lk⟩
  · show (ι ++ [p'])[h.length]? = some p'
    rw [← r0.len, List.getElem?_append_right (Nat.le_refl _), Nat.sub_self]
    rfl
theorem qi_range2 {tg a b : Expr} {fa fb : EV} {p : Pos} (hm : X.mg "range" = none) (ha : QE X G W a fa) (hb : QE X G W b fb) (hg : Gl X "range" := by rfl)
    (hs : starEach [a, b] X.env = [(false, eval a X.env), (false, eval b X.env)] := by rfl) (hs2 : starEach [b] X.env = [(false, eval b X.env)] := by rfl) : QI X G W tg (.Call (.Name "range" p) [a, b] [] pos) (iRange2 fa fb) := by
  have hp := pi_range2 (tg := tg) (p := p) (pos := pos) hg hm (pa_cons ha (pa_cons hb pa_nil hs2) (by rw [hs, hs2])) hs hs2
  refine ⟨fun pins s σ H Rr I q => hp.run pins s σ H Rr I ?_⟩
  obtain ⟨ρ, h, F, ι, rs, r0, p⟩ := q
  unfold iRange2 at p
  cases e : fa ρ h with
  | no => rw [e] at p; exact p.elim
  | er c h' =>
    rw [e] at p
    exact tE_er rs r0 e p
  | ok d h' =>
    rw [e, R.bind_ok] at p
    refine tE_ok rs r0 e fun v H1 F1 ι1 e1 r1 q1 => ?_
    cases e2 : fb ρ h' with
    | no => rw [e2] at p; exact p.elim
    | er c h2 =>
      rw [e2] at p
      exact tE_er (rs.ext e1.toExt) r1 e2 fun H' F' ι' s' r' => p H' F' ι' (e1.trans s') r'
    | ok d2 h2 =>
      rw [e2, R.bind_ok] at p
      refine tE_ok (rs.ext e1.toExt) r1 e2 fun v2 H2 F2 ι2 e2' r2 q2 => ?_
      cases d with
      | int i =>
        cases d2 with
        | int j =>
          cases q1
          cases q2
          have p : (match (if (-(2 ^ 62) ≤ i ∧ i < 2 ^ 62) ∧ -(2 ^ 62) ≤ j ∧ j < 2 ^ 62 then R.ok ((List.range (j - i).toNat).map fun m => D.int (i + (m : Nat))) h2 else .no : R (List D)) with
            | .ok items h' => ∀ J H' F' ι', Stp F ι H F' ι' H' → Rs G F' ι' h' H' → Src G F' ι' H' J items → Rr J H'
            | .er c h' => ∀ H' F' ι', Stp F ι H F' ι' H' → Rs G F' ι' h' H' → W (.ref (G.cl c)) none σ H'
            | .no => False) := p
          by_cases hj : (-(2 ^ 62) ≤ i ∧ i < 2 ^ 62) ∧ -(2 ^ 62) ≤ j ∧ j < 2 ^ 62
          · rw [if_pos hj] at p
            refine ⟨i, j, rfl, ⟨hj.1.1, hj.1.2, hj.2.1, hj.2.2⟩, p _ H2 F2 ι2 (e1.trans e2') r2 ⟨_, _, by rw [List.length_map, List.length_range]; exact walk_range, fun _ _ _ _ _ _ => True.intro, fun n d x F' ι' h' H2 H3 hi s r y => ?_⟩⟩
            obtain ⟨rfl, rfl⟩ := y
            rw [List.getElem?_map] at hi
            cases hr : (List.range (j - i).toNat)[n]? with
            | none => rw [hr] at hi; cases hi
            | some m =>
              rw [hr] at hi
              cases hi
              have em : m = n := by
                obtain ⟨h1, h2⟩ := List.getElem?_eq_some_iff.mp hr
                rw [List.getElem_range] at h2
                exact h2.symm
              subst em
              exact ⟨F', Stp.refl _ _ _, r, .int _⟩
          · rw [if_neg hj] at p
            exact p.elim
        | _ => exact p.elim
      | _ => exact p.elim
end
section
variable {fa : List He.Fa} {fn : List He.DefD} {ts : List He.Tab} {tf : List He.Defn} {ex : PySem.W.Frag → Bool} {w : World} {h : Heap} {K : PySem.W.Frag}
theorem tf_empty (c : He.SaysX fa fn ts tf ex w h K) : ∀ p ∈ tf.map (He.cT K), h.get? p.2 = some { cls := .none, data := .fields #[] } := fun p hp => by
  obtain ⟨q, hq, rfl⟩ := List.mem_map.mp hp
  exact c.empty q hq
theorem tf_out (c : He.SaysX fa fn ts tf ex w h K) : ∀ p ∈ tf.map (He.cT K), K.lookup p.2 = none := fun p hp => by
  obtain ⟨q, hq, rfl⟩ := List.mem_map.mp hp
  exact c.out q hq
theorem tf_hd (X : K.In h) (c : He.SaysX fa fn ts tf ex w h K) : ∀ p ∈ tf.map (He.cT K), PySem.W.CodeHd h p.1 p.2 := fun p hp => by
  obtain ⟨q, hq, rfl⟩ := List.mem_map.mp hp
  exact PySem.W.codeHd_of_K X (c.hd q hq)
end
end U
/-! loops and comprehensions over a box that holds a list: each turn reads the box as it stands -/
namespace U
open PySem PySem.Spec PyProof.Rows L2 RZ
def bxA (h : Hs) (i : Nat) : Option (List D) := match h[i]? with
  | some (.lst l) => some l
  | _ => none
def forB (t : Tg) (s : SV) (i : Nat) : Nat → Nat → Rho → Hs → RS
  | 0, _, _, _ => .no
  | n + 1, j, ρ, h => match bxA h i with
    | none => .no
    | some l => match l[j]? with
      | none => .nx ρ h
      | some d => match t.set d ρ with
        | none => .no
        | some ρ1 => match s ρ1 h with
          | .nx ρ' h' => forB t s i n (j + 1) ρ' h'
          | .ct ρ' h' => forB t s i n (j + 1) ρ' h'
          | .bk ρ' h' => .nx ρ' h'
          | r => r
def sForB (f : EV) (t : Tg) (s : SV) : SV := fun ρ h => match f ρ h with
  | .ok (.ref i) h' => (match bxA h' i with
    | some l => forB t s i (l.length + 1) 0 ρ h'
    | none => .no)
  | .ok _ _ => .no
  | .er c h' => .er c ρ h'
  | .no => .no
def lcB (t : Tg) (c : BV) (f : EV) (ρ : Rho) (i : Nat) : Nat → Nat → Hs → R (List D)
  | 0, _, _ => .no
  | n + 1, j, h => match bxA h i with
    | none => .no
    | some l => match l[j]? with
      | none => .ok [] h
      | some d => match t.set d ρ with
        | none => .no
        | some ρ1 => match c ρ1 h with
          | .ok true h1 => match f ρ1 h1 with
            | .ok y h2 => match lcB t c f ρ i n (j + 1) h2 with
              | .ok ys h3 => .ok (y :: ys) h3
              | _ => .no
            | _ => .no
          | .ok false h1 => lcB t c f ρ i n (j + 1) h1
          | _ => .no
def aLcX (own : List Nat) (fi : EV) (t : Tg) (c : BV) (f : EV) : AV := fun ρ h => match fi ρ h with
  | .ok (.ref i) h1 => (match bxA h1 i with
    | some l => (match lcB t c f (wipeD own ρ) i (l.length + 1) 0 h1 with
      | .ok ds h2 => if ds.length ≤ sizeLine then .ok ds h2 else .no
      | _ => .no)
    | none => .no)
  | .ok _ _ => .no
  | .er c h1 => .er c h1
  | .no => .no
/-- by value -/
def eLcX (own : List Nat) (fi : EV) (t : Tg) (c : BV) (f : EV) : EV := fun ρ h => (aLcX own fi t c f ρ h).bind fun ds h2 => .ok (.lst ds) h2
/-- a box -/
def eLcXB (own : List Nat) (fi : EV) (t : Tg) (c : BV) (f : EV) : EV := fun ρ h => (aLcX own fi t c f ρ h).bind fun ds h2 => .ok (.ref h2.length) (h2 ++ [.lst ds])
section
variable {G : Gn} {F : Hp} {ι : List Addr} {h : Hs} {H : Hp}
theorem Rs.bxA (r : Rs G F ι h H) {i : Nat} {a : Addr} {l : List D} (e : ι[i]? = some a) (q : bxA h i = some l) : ∃ xs, H a = some (.lst xs) ∧ RelL G F ι l xs := by
  unfold U.bxA at q
  cases z : h[i]? with
  | none => rw [z] at q; cases q
  | some o =>
    rw [z] at q
    cases o with
    | lst l' =>
      cases q
      obtain ⟨u, e2, e3⟩ := r.bx e z
      cases u with
      | lst xs => exact ⟨xs, e2, e3⟩
      | _ => exact False.elim e3
    | _ => cases q
end
section
variable {X : Cx} {G : Gn} {W : WX} {k : Nat} {pos : Pos}
theorem forB_run {t : Tg} {s : SV} {i : Nat} {a : Addr} {f : Nat} {ρ : Rho} {σ : L2.St} {h : Hs} {F : Hp} {ι : List Addr} {H : Hp} {Dn : Ends} {body : List Stmt} (ha : ι[i]? = some a) (rs : RelS G F ι ρ σ) (r0 : Rs G F ι h H) (p : PsS G F ι H W (forB t s i f 0 ρ h) Dn) :
    ∃ W' : Nat → Nat → L2.St → Hp → Prop, (∃ m, W' 0 m σ H) ∧ ∀ j m σ H, W' j m σ H →
      ((Itl G.K a).stop j H ∧ Dn.nx σ H) ∨ ((Itl G.K a).go j H ∧ ∃ N : L2.St → Hp → Prop, (∀ σ' H', N σ' H' → ∃ m', m' < m ∧ W' (j + 1) m' σ' H') ∧ ∀ x H', (Itl G.K a).yld j H x H' → tgR G.K t x σ H' fun σ2 H2 => tSs G W s { Dn with nx := N, ct := N, bk := Dn.nx } σ2 H2) := by
  refine ⟨fun j m σ2 H2 => ∃ ρ2 h2 F2 ι2, Stp F ι H F2 ι2 H2 ∧ RelS G F2 ι2 ρ2 σ2 ∧ Rs G F2 ι2 h2 H2 ∧ PsS G F2 ι2 H2 W (forB t s i m j ρ2 h2) Dn, ⟨f, ρ, h, F, ι, Stp.refl _ _ _, rs, r0, p⟩, ?_⟩
  rintro j m σ2 H2 ⟨ρ2, h2, F2, ι2, s2, rs2, r2, p2⟩
  cases m with
  | zero => exact p2.elim
  | succ m =>
    unfold forB at p2
    cases eb : bxA h2 i with
    | none => simp only [eb] at p2; exact p2.elim
    | some l =>
      simp only [eb] at p2
      obtain ⟨xs, ex, q⟩ := r2.bxA (s2.toExt.at_ ha) eb
      cases el : l[j]? with
      | none =>
        simp only [el] at p2
        refine .inl ⟨⟨xs, SqL.of ex, ?_⟩, p2 σ2 H2 F2 ι2 (Stp.refl _ _ _) rs2 r2⟩
        rw [← q.len]
        exact List.getElem?_eq_none_iff.mp el
      | some d =>
        simp only [el] at p2
        obtain ⟨v, ev, qv⟩ := q.get' el
        refine .inr ⟨⟨xs, v, SqL.of ex, ev⟩, fun σ4 H4 => ∃ ρ4 h4 F4 ι4, Stp F ι H F4 ι4 H4 ∧ RelS G F4 ι4 ρ4 σ4 ∧ Rs G F4 ι4 h4 H4 ∧ PsS G F4 ι4 H4 W (forB t s i m (j + 1) ρ4 h4) Dn, fun σ4 H4 z => ⟨m, Nat.lt_succ_self m, z⟩, fun x H3 hy => ?_⟩
        obtain ⟨rfl, hx⟩ := hy
        have hx := hx xs (SqL.of ex)
        rw [ev] at hx
        cases hx
        cases et : t.set d ρ2 with
        | none => simp only [et] at p2; exact p2.elim
        | some ρ3 =>
          simp only [et] at p2
          refine tg_ok et qv rs2 r2 fun σ3 rs3 => ⟨ρ3, h2, F2, ι2, rs3, r2, ?_⟩
          cases es : s ρ3 h2 with
          | nx ρ4 h4 =>
            simp only [es] at p2
            exact fun σ4 H4 F4 ι4 s4 rs4 r4 => ⟨ρ4, h4, F4, ι4, s2.trans s4, rs4, r4, PsS.ext s4 p2⟩
          | ct ρ4 h4 =>
            simp only [es] at p2
            exact fun σ4 H4 F4 ι4 s4 rs4 r4 => ⟨ρ4, h4, F4, ι4, s2.trans s4, rs4, r4, PsS.ext s4 p2⟩
          | bk ρ4 h4 =>
            simp only [es] at p2
            exact fun σ4 H4 F4 ι4 s4 rs4 r4 => p2 σ4 H4 F4 ι4 s4 rs4 r4
          | rt d4 h4 =>
            simp only [es] at p2
            exact fun v H4 F4 ι4 s4 r4 q4 => p2 v H4 F4 ι4 s4 r4 q4
          | er c ρ4 h4 =>
            simp only [es] at p2
            exact fun σ4 H4 F4 ι4 s4 rs4 r4 => p2 σ4 H4 F4 ι4 s4 rs4 r4
          | no => simp only [es] at p2; exact p2.elim
theorem qs_forB (bn : Bn X G W k) {tg iter : Expr} {body : List Stmt} {f : EV} {t : Tg} {s : SV} (hi : QE X G W iter f) (hg : QG X G tg t) (hb : QSs X G W body s) (hs : ∀ x, foldedSetIterable iter X.env x = pure x := by intro _; rfl) : QS X G W (.For tg iter body [] pos) (sForB f t s) := by
  refine qs_of (ps_for bn.po bn.calm (pi_list hi) hg hb hs) fun Dn σ H q => ?_
  obtain ⟨ρ, h, F, ι, rs, r0, p⟩ := q
  unfold sForB at p
  refine ⟨ρ, h, F, ι, rs, r0, ?_⟩
  cases e : f ρ h with
  | no => simp only [e] at p; exact p.elim
  | er c h' =>
    simp only [e] at p
    exact fun H' F' ι' s r => p σ H' F' ι' s (rs.ext s.toExt) r
  | ok d h' =>
    simp only [e] at p
    intro v H1 F1 ι1 e1 r1 q1
    cases d with
    | ref i =>
      cases q1 with
      | ref hi1 =>
        rename_i a
        cases eb : bxA h' i with
        | none => simp only [eb] at p; exact p.elim
        | some l =>
          simp only [eb] at p
          obtain ⟨xs, ex, q⟩ := r1.bxA hi1 eb
          refine ⟨a, rfl, ⟨xs, SqL.of ex⟩, ?_⟩
          rw [bn.K]
          exact forB_run (body := body) hi1 (rs.ext e1.toExt) r1 (PsS.ext e1 p)
    | _ => exact p.elim
theorem lcB_run {F : Hp} {ι : List Addr} {h : Hs} {H : Hp} {t : Tg} {c : BV} {f : EV} {own : List Nat} {ρ : Rho} {σ : L2.St} {i m0 : Nat} {a : Addr} {D' : Addr} {DS : List D} {hE : Hs} {Qd : Hp → Prop} (hv : ∀ i ∈ t.ix, i ∈ own) (ha : ι[i]? = some a) (rs : RelS G F ι ρ σ) (r : Rs G F ι h H) (nD : H D' = none)
    (e : lcB t c f (wipeD own ρ) i m0 0 h = .ok DS hE) (hl : DS.length ≤ sizeLine)
    (hd : ∀ F2 ι2 H2 xs, Stp F ι H F2 ι2 H2 → Rs G F2 ι2 hE H2 → H2 D' = some (.lst xs) → D' ∉ ι2 → F2 D' = none → RelL G F2 ι2 DS xs → Qd H2) :
    ∃ W : Nat → Nat → Hp → Prop, (∃ m, W 0 m (upd H D' (.lst []))) ∧ ∀ i m H, W i m H →
  ((Itl G.K a).stop i H ∧ Qd H) ∨ ((Itl G.K a).go i H ∧ ∃ Nx : Hp → Prop, (∀ H', Nx H' → ∃ m', m' < m ∧ W (i + 1) m' H') ∧ ∀ x H', (Itl G.K a).yld i H x H' → tgR G.K t x (wipe σ own) H' fun σ2 H2 => wipe σ2 own = wipe σ own ∧ tBb G W0 c σ2 H2 fun b H3 =>
    if b = true then tE G W0 f σ2 H3 fun y H4 => ∃ acc, H4 D' = some (.lst acc) ∧ acc.length < sizeLine ∧ Nx (upd H4 D' (.lst (acc ++ [y]))) else Nx H3) := by
  have nDι : D' ∉ ι := fun m => r.inbox m nD
  have nDF : F D' = none := by
    cases z : F D' with
    | none => rfl
    | some u => exact absurd nD (rd_some (r.fz _ _ z))
  refine ⟨fun j m H' => ∃ h2 F2 ι2 acc dacc ys, Stp F ι H F2 ι2 H' ∧ Rs G F2 ι2 h2 H' ∧ H' D' = some (.lst acc) ∧ D' ∉ ι2 ∧ F2 D' = none ∧ RelL G F2 ι2 dacc acc ∧ lcB t c f (wipeD own ρ) i m j h2 = .ok ys hE ∧ dacc ++ ys = DS,
    ⟨m0, h, F, ι, [], [], DS, (Stp.refl F ι H).side nD, r.side nDι nDF (.inl nD), upd_same, nDι, nDF, .nil, e, rfl⟩, ?_⟩
  rintro j m H' ⟨h2, F2, ι2, acc, dacc, ys, s2, r2, g1, g2, g3, g4, g5, g6⟩
  cases m with
  | zero => cases g5
  | succ m =>
    unfold lcB at g5
    cases eb : bxA h2 i with
    | none => simp only [eb] at g5; cases g5
    | some l =>
      simp only [eb] at g5
      obtain ⟨xs, ex, q⟩ := r2.bxA (s2.toExt.at_ ha) eb
      cases el : l[j]? with
      | none =>
        simp only [el] at g5
        cases g5
        rw [List.append_nil] at g6
        subst g6
        refine .inl ⟨⟨xs, SqL.of ex, ?_⟩, hd F2 ι2 H' acc s2 r2 g1 g2 g3 g4⟩
        rw [← q.len]
        exact List.getElem?_eq_none_iff.mp el
      | some d =>
        simp only [el] at g5
        obtain ⟨v, ev, qv⟩ := q.get' el
        refine .inr ⟨⟨xs, v, SqL.of ex, ev⟩, fun H3 => ∃ h2 F2 ι2 acc dacc ys, Stp F ι H F2 ι2 H3 ∧ Rs G F2 ι2 h2 H3 ∧ H3 D' = some (.lst acc) ∧ D' ∉ ι2 ∧ F2 D' = none ∧ RelL G F2 ι2 dacc acc ∧ lcB t c f (wipeD own ρ) i m (j + 1) h2 = .ok ys hE ∧ dacc ++ ys = DS,
          fun H3 z => ⟨m, Nat.lt_succ_self m, z⟩, fun x H3 hy => ?_⟩
        obtain ⟨rfl, hx⟩ := hy
        have hx := hx xs (SqL.of ex)
        rw [ev] at hx
        cases hx
        have kD : ∀ {Fa Fb : Hp} {ιa ιb : List Addr} {Ha Hb : Hp} {acc : List V}, Stp Fa ιa Ha Fb ιb Hb → Ha D' = some (.lst acc) → D' ∉ ιa → Fa D' = none → Hb D' = some (.lst acc) ∧ D' ∉ ιb ∧ Fb D' = none := fun {Fa Fb ιa ιb Ha Hb acc} s a b z => by
          refine ⟨s.kp _ _ a b z True.intro, fun m => ?_, ?_⟩
          · exact s.fr _ m b z _ a True.intro
          · cases q : Fb D' with
            | none => rfl
            | some u =>
              rcases s.fx _ _ q z with z | z
              · exact absurd z b
              · exact (z _ a True.intro).elim
        cases et : t.set d (wipeD own ρ) with
        | none => simp only [et] at g5; cases g5
        | some ρ3 =>
          simp only [et] at g5
          refine tg_okW hv et qv (relS_wipe (rs.ext s2.toExt) own) r2 fun σ3 rs3 => ⟨ρ3, h2, F2, ι2, rs3, r2, ?_⟩
          cases ec : c ρ3 h2 with
          | no => simp only [ec] at g5; cases g5
          | er _ _ => simp only [ec] at g5; cases g5
          | ok b h4 =>
            intro b' H4 F4 ι4 s4 r4 eb
            cases eb
            obtain ⟨b1, b2, b3⟩ := kD s4 g1 g2 g3
            cases b with
            | false =>
              simp only [ec] at g5
              exact ⟨h4, F4, ι4, acc, dacc, ys, s2.trans s4, r4, b1, b2, b3, RelL.ext s4.toExt g4, g5, g6⟩
            | true =>
              simp only [ec] at g5
              refine ⟨ρ3, h4, F4, ι4, rs3.ext s4.toExt, r4, ?_⟩
              cases ef : f ρ3 h4 with
              | no => simp only [ef] at g5; cases g5
              | er _ _ => simp only [ef] at g5; cases g5
              | ok y h5 =>
                simp only [ef] at g5
                intro v H5 F5 ι5 s5 r5 q5
                obtain ⟨c1, c2, c3⟩ := kD s5 b1 b2 b3
                cases el2 : lcB t c f (wipeD own ρ) i m (j + 1) h5 with
                | no => simp only [el2] at g5; cases g5
                | er _ _ => simp only [el2] at g5; cases g5
                | ok zs h6 =>
                  simp only [el2] at g5
                  cases g5
                  have hacc : acc.length = dacc.length := g4.len.symm
                  refine ⟨acc, c1, ?_, h5, F5, ι5, acc ++ [v], dacc ++ [y], zs, ?_, r5.side c2 c3 (.inr ⟨_, c1, True.intro⟩), upd_same, c2, c3, RelL.app (.cons q5 .nil) (RelL.ext (s4.trans s5).toExt g4), el2, ?_⟩
                  · have := congrArg List.length g6
                    simp at this
                    omega
                  · exact ((s2.trans s4).trans s5).side nD
                  · rw [List.append_assoc]
                    exact g6
theorem tLcX_of {own : List (Str × Nat)} {fi : EV} {t : Tg} {c : BV} {f : EV} {σ : L2.St} {H : Hp} {Q : VK} (hv : ∀ i ∈ t.ix, i ∈ own.map (·.2)) (kf : List D → Hs → R D)
    (hk : ∀ F ι H F2 ι2 hE H2 D' xs DS, H D' = none → Stp F ι H F2 ι2 H2 → Rs G F2 ι2 hE H2 → H2 D' = some (.lst xs) → D' ∉ ι2 → F2 D' = none → RelL G F2 ι2 DS xs → Pst G F ι H (Rel G) (fun c H' => W (.ref (G.cl c)) none σ H') (kf DS hE) Q → Q (.ref D') H2)
    (q : tE G W (fun ρ h => (aLcX (own.map (·.2)) fi t c f ρ h).bind kf) σ H Q) : tLc (iList G.K (tE G W fi)) (tgR G.K t) (tBb G W0 c) (tE G W0 f) (own.map (·.2)) σ H Q := by
  obtain ⟨ρ, h, F, ι, rs, r0, p⟩ := q
  refine ⟨ρ, h, F, ι, rs, r0, ?_⟩
  unfold aLcX at p
  cases e : fi ρ h with
  | no => simp only [e] at p; exact p.elim
  | er c h' => simp only [e] at p; exact p
  | ok d h1 =>
    simp only [e] at p
    intro v H1 F1 ι1 s1 r1 q1
    cases d with
    | ref i =>
      cases q1 with
      | ref hi1 =>
        rename_i a
        cases eb : bxA h1 i with
        | none => simp only [eb] at p; exact p.elim
        | some l =>
          simp only [eb] at p
          obtain ⟨xs, ex, q⟩ := r1.bxA hi1 eb
          refine ⟨a, rfl, ⟨xs, SqL.of ex⟩, ?_⟩
          intro D' nD
          cases el : lcB t c f (wipeD (own.map (·.2)) ρ) i (l.length + 1) 0 h1 with
          | no => simp only [el] at p; exact p.elim
          | er _ _ => simp only [el] at p; exact p.elim
          | ok ds h2 =>
            simp only [el] at p
            by_cases hl : ds.length ≤ sizeLine
            · simp only [if_pos hl] at p
              exact lcB_run hv hi1 (rs.ext s1.toExt) r1 nD el hl fun F2 ι2 H2 xs s2 r2 g1 g2 g3 g4 => hk F1 ι1 H1 F2 ι2 h2 H2 D' xs ds nD s2 r2 g1 g2 g3 g4 (Pst.ext s1 p)
            · simp only [if_neg hl] at p
              exact p.elim
    | _ => exact p.elim
variable {elt tg iter : Expr} {ifs : List Expr} {scope : Scope} {fi : EV} {t : Tg} {c : BV} {f : EV}
theorem tLcX_val {own : List (Str × Nat)} {σ : L2.St} {H : Hp} {Q : VK} (hv : ∀ i ∈ t.ix, i ∈ own.map (·.2)) (q : tE G W (eLcX (own.map (·.2)) fi t c f) σ H Q) : tLc (iList G.K (tE G W fi)) (tgR G.K t) (tBb G W0 c) (tE G W0 f) (own.map (·.2)) σ H Q := by
  refine tLcX_of hv (fun ds h2 => .ok (.lst ds) h2) (fun F ι H F2 ι2 hE H2 D' xs DS nD s2 r2 g1 g2 g3 g4 p => ?_) q
  obtain ⟨r3, e3⟩ := r2.fixL g2 g3 g1
  exact p _ H2 _ ι2 (s2.fixL nD g3) r3 (.lst (.inl (.inl upd_same)) (RelL.ext e3 g4))
theorem tLcX_box {own : List (Str × Nat)} {σ : L2.St} {H : Hp} {Q : VK} (hv : ∀ i ∈ t.ix, i ∈ own.map (·.2)) (q : tE G W (eLcXB (own.map (·.2)) fi t c f) σ H Q) : tLc (iList G.K (tE G W fi)) (tgR G.K t) (tBb G W0 c) (tE G W0 f) (own.map (·.2)) σ H Q := by
  refine tLcX_of hv (fun ds h2 => .ok (.ref h2.length) (h2 ++ [Ob.lst ds])) (fun F ι H F2 ι2 hE H2 D' xs DS nD s2 r2 g1 g2 g3 g4 p => ?_) q
  obtain ⟨r3, e3⟩ := r2.boxL g2 g3 g1 g4
  refine p _ H2 _ _ (s2.boxL nD) r3 (.ref ?_)
  rw [← r2.len, List.getElem?_append_right (Nat.le_refl _), Nat.sub_self]
  rfl
theorem q_lcX (bn : Bn X G W k) (hi : QE X G W iter fi) (own : List (Str × Nat)) (hg : ∀ s H C cl fp, QG (X.blk s H scope (compEnvC scope cl C X.env) fp) G tg t) (ht : ∀ s H C cl fp, Bn (X.blk s H scope (compEnvC scope cl C X.env) fp) G W0 k → QTs (X.blk s H scope (compEnvC scope cl C X.env) fp) G W0 ifs c)
    (he : ∀ s H C cl fp, Bn (X.blk s H scope (compEnvC scope cl C X.env) fp) G W0 k → QE (X.blk s H scope (compEnvC scope cl C X.env) fp) G W0 elt f) (ok : BlkOk X.N X.env.scope scope own := by exact blkOk_by (by rfl)) (hv : ∀ i ∈ t.ix, i ∈ own.map (·.2) := by decide) (hs : ∀ x, foldedSetIterable iter X.env x = pure x := by intro _; rfl) :
    QE X G W (.ListComp elt [⟨tg, iter, ifs, 0⟩] scope pos) (eLcX (own.map (·.2)) fi t c f) :=
  qe_of (pe_lc bn.calm bn.nd (pi_list hi) ok hg (fun s H C cl fp => ht s H C cl fp (bn_blk bn)) (fun s H C cl fp => he s H C cl fp (bn_blk bn)) hs) fun σ H Q q => by rw [bn.K]; exact tLcX_val hv q
theorem q_lcXB (bn : Bn X G W k) (hi : QE X G W iter fi) (own : List (Str × Nat)) (hg : ∀ s H C cl fp, QG (X.blk s H scope (compEnvC scope cl C X.env) fp) G tg t) (ht : ∀ s H C cl fp, Bn (X.blk s H scope (compEnvC scope cl C X.env) fp) G W0 k → QTs (X.blk s H scope (compEnvC scope cl C X.env) fp) G W0 ifs c)
    (he : ∀ s H C cl fp, Bn (X.blk s H scope (compEnvC scope cl C X.env) fp) G W0 k → QE (X.blk s H scope (compEnvC scope cl C X.env) fp) G W0 elt f) (ok : BlkOk X.N X.env.scope scope own := by exact blkOk_by (by rfl)) (hv : ∀ i ∈ t.ix, i ∈ own.map (·.2) := by decide) (hs : ∀ x, foldedSetIterable iter X.env x = pure x := by intro _; rfl) :
    QE X G W (.ListComp elt [⟨tg, iter, ifs, 0⟩] scope pos) (eLcXB (own.map (·.2)) fi t c f) :=
  qe_of (pe_lc bn.calm bn.nd (pi_list hi) ok hg (fun s H C cl fp => ht s H C cl fp (bn_blk bn)) (fun s H C cl fp => he s H C cl fp (bn_blk bn)) hs) fun σ H Q q => by rw [bn.K]; exact tLcX_box hv q
theorem qs_setLcX (bn : Bn X G W k) {i : Nat} {y : Str} {py spos : Pos} (hi : QE X G W iter fi) (own : List (Str × Nat)) (hg : ∀ s H C cl fp, QG (X.blk s H scope (compEnvC scope cl C X.env) fp) G tg t) (ht : ∀ s H C cl fp, Bn (X.blk s H scope (compEnvC scope cl C X.env) fp) G W0 k → QTs (X.blk s H scope (compEnvC scope cl C X.env) fp) G W0 ifs c)
    (he : ∀ s H C cl fp, Bn (X.blk s H scope (compEnvC scope cl C X.env) fp) G W0 k → QE (X.blk s H scope (compEnvC scope cl C X.env) fp) G W0 elt f) (ok : BlkOk X.N X.env.scope scope own := by exact blkOk_by (by rfl)) (hv : ∀ i ∈ t.ix, i ∈ own.map (·.2) := by decide) (hs : ∀ x, foldedSetIterable iter X.env x = pure x := by intro _; rfl)
    (hy : X.N[i]? = some y := by rfl) (hyl : X.env.scope.names.lookup y = some .local := by rfl) (hk : X.env.scope.kind = .function := by rfl) (hl : (py.line == pos.line) = true := by rfl) (ha : (scope.names.any fun (n, k) => n == y && (k == .local || k == .cell)) = false := by rfl) :
    QS X G W (.Assign [.Name y py] (.ListComp elt [⟨tg, iter, ifs, 0⟩] scope pos) spos) (sSet i (eLcX (own.map (·.2)) fi t c f)) :=
  qs_of (ps_setLc bn.calm bn.nd hy hyl (sw_true hk hyl hl ha) (pi_list hi) ok hg (fun s H C cl fp => ht s H C cl fp (bn_blk bn)) (fun s H C cl fp => he s H C cl fp (bn_blk bn)) hs) fun Dn σ H q => tAsg_of (fun σ H Q q => by rw [bn.K]; exact tLcX_val hv q) q
theorem qs_setLcXB (bn : Bn X G W k) {i : Nat} {y : Str} {py spos : Pos} (hi : QE X G W iter fi) (own : List (Str × Nat)) (hg : ∀ s H C cl fp, QG (X.blk s H scope (compEnvC scope cl C X.env) fp) G tg t) (ht : ∀ s H C cl fp, Bn (X.blk s H scope (compEnvC scope cl C X.env) fp) G W0 k → QTs (X.blk s H scope (compEnvC scope cl C X.env) fp) G W0 ifs c)
    (he : ∀ s H C cl fp, Bn (X.blk s H scope (compEnvC scope cl C X.env) fp) G W0 k → QE (X.blk s H scope (compEnvC scope cl C X.env) fp) G W0 elt f) (ok : BlkOk X.N X.env.scope scope own := by exact blkOk_by (by rfl)) (hv : ∀ i ∈ t.ix, i ∈ own.map (·.2) := by decide) (hs : ∀ x, foldedSetIterable iter X.env x = pure x := by intro _; rfl)
    (hy : X.N[i]? = some y := by rfl) (hyl : X.env.scope.names.lookup y = some .local := by rfl) (hk : X.env.scope.kind = .function := by rfl) (hl : (py.line == pos.line) = true := by rfl) (ha : (scope.names.any fun (n, k) => n == y && (k == .local || k == .cell)) = false := by rfl) :
    QS X G W (.Assign [.Name y py] (.ListComp elt [⟨tg, iter, ifs, 0⟩] scope pos) spos) (sSet i (eLcXB (own.map (·.2)) fi t c f)) :=
  qs_of (ps_setLc bn.calm bn.nd hy hyl (sw_true hk hyl hl ha) (pi_list hi) ok hg (fun s H C cl fp => ht s H C cl fp (bn_blk bn)) (fun s H C cl fp => he s H C cl fp (bn_blk bn)) hs) fun Dn σ H q => tAsg_of (fun σ H Q q => by rw [bn.K]; exact tLcX_box hv q) q
end
end U
/-! reckoning with the readings: plain lemmas of the laws' ends -/
namespace U
open PySem PySem.Spec PyProof.Rows L2 RZ
mutual
theorem ok_plain (n : Nat) : ∀ d : D, plain d = true → okD n d = true
  | .non, _ => by simp [U.okD]
  | .bl _, _ => by simp [U.okD]
  | .int _, _ => by simp [U.okD]
  | .str _, _ => by simp [U.okD]
  | .tup l, h => by
    simp only [U.okD]
    exact ok_plains n l (by simpa [plain] using h)
  | .lst l, h => by
    simp only [U.okD]
    exact ok_plains n l (by simpa [plain] using h)
  | .ty _, h => by simp [plain] at h
  | .dic _, h => by simp [plain] at h
  | .dit _, h => by simp [plain] at h
  | .ref _, h => by simp [plain] at h
  | .fn _ _, h => by simp [plain] at h
  | .any, h => by simp [plain] at h
  | .exc _, h => by simp [plain] at h
  | .nam _, h => by simp [plain] at h
  | .lin _ _, h => by simp [plain] at h
theorem ok_plains (n : Nat) : ∀ l : List D, plains l = true → U.okL n l = true
  | [], _ => by simp [U.okL]
  | d :: l, h => by
    have h' : plain d = true ∧ plains l = true := by simpa [plains] using h
    simp [U.okL, ok_plain n d h'.1, ok_plains n l h'.2]
end
theorem atI_last {α : Type} (l : List α) (x : α) : atI (l ++ [x]) (-1) = some x := by
  unfold atI ixN
  rw [List.length_append]
  simp only [List.length_cons, List.length_nil]
  rw [if_neg (by omega), if_pos (by omega)]
  show (l ++ [x])[((-1 : Int) + ((l.length + (0 + 1) : Nat) : Int)).toNat]? = _
  have e : ((-1 : Int) + ((l.length + (0 + 1) : Nat) : Int)).toNat = l.length := by omega
  rw [e, List.getElem?_append_right (Nat.le_refl _), Nat.sub_self]
  rfl
theorem plains_app : ∀ (l m : List D), plains (l ++ m) = (plains l && plains m)
  | [], m => by simp [plains]
  | x :: l, m => by simp [plains, plains_app l m, Bool.and_assoc]
section
variable {t : Tg} {c : BV} {f : EV} {ρ : Rho} {h : Hs} {α : Type}
/-- a comprehension over things that stand for the members of l -/
theorem lcL_mapA {e g : α → D} {p : α → Bool} : ∀ l : List α, (∀ a ∈ l, ∃ ρ1, t.set (e a) ρ = some ρ1 ∧ c ρ1 h = .ok (p a) h ∧ (p a = true → f ρ1 h = .ok (g a) h)) → lcL t c f ρ (l.map e) h = .ok ((l.filter p).map g) h
  | [], _ => rfl
  | a :: l, hh => by
    obtain ⟨ρ1, e1, e2, e3⟩ := hh a (List.mem_cons_self ..)
    have ih := lcL_mapA (p := p) (g := g) l fun d m => hh d (List.mem_cons_of_mem _ m)
    rw [List.map_cons]
    unfold lcL
    simp only [e1, e2]
    cases q : p a with
    | true => simp only [e3 q, ih, List.filter_cons, q, if_true, List.map_cons]
    | false => simp only [ih, List.filter_cons, q, if_false, Bool.false_eq_true]
theorem lc_okA {own : List Nat} {fi : AV} {l : List α} {e g : α → D} {p : α → Bool} (hi : fi ρ h = .ok (l.map e) h)
    (hh : ∀ a ∈ l, ∃ ρ1, t.set (e a) (wipeD own ρ) = some ρ1 ∧ c ρ1 h = .ok (p a) h ∧ (p a = true → f ρ1 h = .ok (g a) h)) (hl : l.length ≤ sizeLine) : eLc own fi t c f ρ h = .ok (.lst ((l.filter p).map g)) h := by
  unfold eLc aLc
  simp only [hi, lcL_mapA l hh]
  rw [if_pos (Nat.le_trans (by rw [List.length_map]; exact List.length_filter_le ..) hl), R.bind_ok]
theorem lc_allA {own : List Nat} {fi : AV} {l : List α} {e g : α → D} (hi : fi ρ h = .ok (l.map e) h)
    (hh : ∀ a ∈ l, ∃ ρ1, t.set (e a) (wipeD own ρ) = some ρ1 ∧ f ρ1 h = .ok (g a) h) (hl : l.length ≤ sizeLine) : eLc own fi t bYes f ρ h = .ok (.lst (l.map g)) h := by
  have q := lc_okA (own := own) (c := bYes) (p := fun _ => true) (g := g) hi (fun d m => by
    obtain ⟨ρ1, e1, e2⟩ := hh d m
    exact ⟨ρ1, e1, rfl, fun _ => e2⟩) hl
  rw [q, List.filter_eq_self.mpr (fun _ _ => rfl)]
end
theorem eqt0 {l : List D} {h : Hs} (p : plains l = true) : opEq (.tup l) (.tup []) h = some (.bl l.isEmpty) := by
  show (if okEq (.tup l) (.tup []) = true then _ else _) = _
  rw [if_pos]
  · cases l <;> simp [der, eqB, eqBs]
  · unfold okEq
    have : plain (.tup l) = true := by simpa only [plain] using p
    rw [this]
    simp [scalD, plain, plains, dep, deps]
theorem eql0 {l : List D} {h : Hs} (p : plains l = true) : opEq (.lst l) (.lst []) h = some (.bl l.isEmpty) := by
  show (if okEq (.lst l) (.lst []) = true then _ else _) = _
  rw [if_pos]
  · cases l <;> simp [der, eqB, eqBs]
  · unfold okEq
    have : plain (.lst l) = true := by simpa only [plain] using p
    rw [this]
    simp [scalD, plain, plains, dep, deps]
theorem nel0 {l : List D} {h : Hs} (p : plains l = true) : opNe (.lst l) (.lst []) h = some (.bl (!l.isEmpty)) := by
  have q := eql0 (h := h) p
  unfold opEq at q
  unfold opNe
  split at q
  · rename_i z
    rw [if_pos z]
    have := Option.some.inj q
    injection this with this
    rw [this]
  · cases q
theorem bools_map {α : Type} (g : α → Bool) : ∀ l : List α, boolsD (l.map fun a => .bl (g a)) = some (l.map g)
  | [] => rfl
  | a :: l => by
    show (boolsD _).map _ = _
    rw [bools_map g l]
    rfl
theorem chk_of {n : Nat} : ∀ {h h' : Hs}, h.length ≤ h'.length → (∀ i o', i < h.length → h'[i]? = some o' → h[i]? = some o' ∨ okO n o' = true) → chk n h h' = true
  | [], _, _, _ => by simp [chk]
  | o :: h, [], l, _ => by simp at l
  | o :: h, p :: h', l, q => by
    simp only [chk, Bool.and_eq_true, Bool.or_eq_true]
    refine ⟨?_, chk_of (by simpa using l) fun i o' hi e => by simpa using q (i + 1) o' (by simpa using hi) (by simpa using e)⟩
    rcases q 0 p (by simp) rfl with z | z
    · have z : o = p := by simpa using z
      subst z
      exact .inl (smO_rfl _)
    · exact .inr z
/-- the same boxes, or boxes that lean on none beyond -/
def Kp (h h' : Hs) : Prop := h'.length = h.length ∧ ∀ (i : Nat) (o : Ob), h'[i]? = some o → h[i]? = some o ∨ okO h.length o = true
theorem Kp.refl (h : Hs) : Kp h h := ⟨rfl, fun _ _ e => .inl e⟩
theorem Kp.trans {h h1 h2 : Hs} (a : Kp h h1) (b : Kp h1 h2) : Kp h h2 := ⟨b.1.trans a.1, fun i o e => by
  rcases b.2 i o e with z | z
  · exact a.2 i o z
  · rw [a.1] at z
    exact .inr z⟩
theorem Kp.set {h : Hs} {i : Nat} {o : Ob} (q : okO h.length o = true) : Kp h (h.set i o) := ⟨List.length_set .., fun j p e => by
  by_cases hj : j = i
  · subst hj
    by_cases hl : j < h.length
    · rw [List.getElem?_set_self hl] at e
      cases e
      exact .inr q
    · rw [List.getElem?_eq_none (by rw [List.length_set]; omega)] at e
      cases e
  · rw [List.getElem?_set_ne (Ne.symm hj)] at e
    exact .inl e⟩
theorem fin_kp {h h' : Hs} {d : D} (k : Kp h h') (ok : okD h.length d = true) : fin false h d h' = .ok d h' := by
  unfold fin
  rw [if_neg (by decide), ok, chk_of (Nat.le_of_eq k.1.symm) fun i o _ e => k.2 i o e, ← k.1, List.take_length]
  rfl
theorem run_kp {np n : Nat} {b : SV} {ds : List D} {h h' : Hs} {d : D} (hl : ds.length = np) (e : b (ds.map some ++ List.replicate (n - ds.length) none) h = .rt d h') (k : Kp h h') (ok : okD h.length d = true) : runD np n false b ds h = .ok d h' := by
  unfold runD
  rw [if_pos hl, e]
  exact fin_kp k ok
theorem put_ok {fo fi fv : EV} {ρ : Rho} {h h1 h2 h3 h4 : Hs} {x y v : D} (hv : fv ρ h = .ok v h1) (ho : fo ρ h1 = .ok x h2) (hi : fi ρ h2 = .ok y h3) (e : putD x y v h3 = some h4) : sPut fo fi fv ρ h = .nx ρ h4 := by
  unfold sPut sE
  simp only [hv, ho, hi, e]
theorem for_heap {t : Tg} {s : SV} (Inv : Rho → Hs → Prop) : ∀ (items : List D) (ρ : Rho) (h : Hs), Inv ρ h → (∀ d ∈ items, ∀ ρ h, Inv ρ h → ∃ ρ1 ρ2 h2, t.set d ρ = some ρ1 ∧ s ρ1 h = .nx ρ2 h2 ∧ Inv ρ2 h2) → ∃ ρ' h', forL t s items ρ h = .nx ρ' h' ∧ Inv ρ' h'
  | [], ρ, h, i0, _ => ⟨ρ, h, rfl, i0⟩
  | d :: l, ρ, h, i0, hh => by
    obtain ⟨ρ1, ρ2, h2, e1, e2, i2⟩ := hh d (List.mem_cons_self ..) ρ h i0
    obtain ⟨ρ3, h3, e3, i3⟩ := for_heap Inv l ρ2 h2 i2 fun d m => hh d (List.mem_cons_of_mem _ m)
    refine ⟨ρ3, h3, ?_, i3⟩
    unfold forL
    simp only [e1, e2]
    exact e3
theorem run_nil {np n : Nat} {b : SV} {ds : List D} {h' : Hs} {d : D} (hl : ds.length = np) (e : b (ds.map some ++ List.replicate (n - ds.length) none) [] = .rt d h') (ok : okD 0 d = true) : runD np n false b ds [] = .ok d [] := by
  unfold runD
  rw [if_pos hl, e]
  show fin false [] d h' = _
  unfold fin
  rw [if_neg (by decide), if_pos (by rw [show okD ([] : Hs).length d = true from ok]; simp [chk])]
  rfl
theorem run_keep {np n : Nat} {b : SV} {ds : List D} {h h' : Hs} {d : D} (hl : ds.length = np) (e : b (ds.map some ++ List.replicate (n - ds.length) none) h = .rt d h') : runD np n true b ds h = .ok d h' := by
  unfold runD
  rw [if_pos hl, e]
  rfl
theorem cut_last (l : List D) : U.cutD l none (some (-1)) = l.dropLast := by
  unfold U.cutD
  rw [List.dropLast_eq_take]
  show ((l.drop 0).take ((if (-1 : Int) < 0 then ((-1 : Int) + (l.length : Int)).toNat else min (-1 : Int).toNat l.length) - 0)) = _
  rw [if_pos (by decide), List.drop_zero]
  congr 1
  omega
theorem box_ok {g : AV} {ρ : Rho} {h h1 : Hs} {ds : List D} (hg : g ρ h = .ok ds h1) (q : ds.length ≤ sizeLine) : eBox g ρ h = .ok (.ref h1.length) (h1 ++ [.lst ds]) := by
  unfold eBox
  rw [hg, R.bind_ok, if_pos q]

theorem run_kpa {np n : Nat} {b : SV} {ds : List D} {h h' g : Hs} {d : D} (hl : ds.length = np) (e : b (ds.map some ++ List.replicate (n - ds.length) none) h = .rt d (h' ++ g)) (k : Kp h h') (ok : okD h.length d = true) : runD np n false b ds h = .ok d h' := by
  unfold runD
  rw [if_pos hl, e]
  show fin false h d (h' ++ g) = _
  unfold fin
  rw [if_neg (by decide), ok, chk_of (by rw [List.length_append, k.1]; omega) fun i o hi e => k.2 i o (by rw [List.getElem?_append_left (by rw [k.1]; exact hi)] at e; exact e), ← k.1, List.take_left]
  rfl
theorem run_keepn {np n : Nat} {b : SV} {ds : List D} {ρ : Rho} {h h' : Hs} (hl : ds.length = np) (e : b (ds.map some ++ List.replicate (n - ds.length) none) h = .nx ρ h') : runD np n true b ds h = .ok .non h' := by
  unfold runD
  rw [if_pos hl, e]
  rfl
theorem frz_new {op : OpB} {f : EV} {ρ : Rho} {h h1 : Hs} {x : D} {l : List (Key × D)} (e : f ρ h = .ok x h1) (q : op x h1 = some (.dK l)) : eFrz (eCalB op f) ρ h = .ok (.dic l) (h1 ++ [.dead]) := by
  unfold eFrz eCalB
  rw [e, R.bind_ok, q]
  simp only [R.bind_ok]
  rw [List.getElem?_append_right (Nat.le_refl _), Nat.sub_self]
  simp only [List.getElem?_cons_zero]
  rw [List.set_append_right _ _ (Nat.le_refl _), Nat.sub_self]
  rfl
theorem opB_ok {op : OpB2} {fa fb : EV} {ρ : Rho} {h h1 h2 : Hs} {x y : D} {o : Ob} (ea : fa ρ h = .ok x h1) (eb : fb ρ h1 = .ok y h2) (q : op x y h2 = some o) : eOpB op fa fb ρ h = .ok (.ref h2.length) (h2 ++ [o]) := by
  unfold eOpB
  rw [ea, R.bind_ok, eb, R.bind_ok, q]
theorem lstD_last {h : Hs} {l : List D} : lstD (.ref h.length) (h ++ [.lst l]) = some l := by
  unfold lstD
  simp only [List.getElem?_append_right (Nat.le_refl _), Nat.sub_self, List.getElem?_cons_zero]
theorem lstD_at' {h : Hs} {i : Nat} {l : List D} (e : h[i]? = some (.lst l)) : lstD (.ref i) h = some l := by
  unfold lstD
  simp only [e]
mutual
theorem eqB_rfl : ∀ d : D, plain d = true → eqB d d = true
  | .non, _ => by simp [eqB]
  | .bl _, _ => by simp [eqB]
  | .int _, _ => by simp [eqB]
  | .str _, _ => by simp [eqB]
  | .tup l, h => by
    simp only [eqB]
    exact eqBs_rfl l (by simpa [plain] using h)
  | .lst l, h => by
    simp only [eqB]
    exact eqBs_rfl l (by simpa [plain] using h)
  | .ty _, h => by simp [plain] at h
  | .dic _, h => by simp [plain] at h
  | .dit _, h => by simp [plain] at h
  | .ref _, h => by simp [plain] at h
  | .fn _ _, h => by simp [plain] at h
  | .any, h => by simp [plain] at h
  | .exc _, h => by simp [plain] at h
  | .nam _, h => by simp [plain] at h
  | .lin _ _, h => by simp [plain] at h
theorem eqBs_rfl : ∀ l : List D, plains l = true → eqBs l l = true
  | [], _ => by simp [eqBs]
  | d :: l, h => by
    have h' : plain d = true ∧ plains l = true := by simpa [plains] using h
    simp [eqBs, eqB_rfl d h'.1, eqBs_rfl l h'.2]
end
theorem lcB_all {t : Tg} {c : BV} {f : EV} {ρ : Rho} {i : Nat} {h : Hs} {l : List D} {g : D → D} (e : bxA h i = some l) (hc : ∀ ρ h, c ρ h = .ok true h) (hh : ∀ d ∈ l, ∃ ρ1, t.set d ρ = some ρ1 ∧ f ρ1 h = .ok (g d) h) :
    ∀ (n j : Nat), l.length - j < n → lcB t c f ρ i n j h = .ok ((l.drop j).map g) h
  | 0, j, q => by omega
  | n + 1, j, q => by
    unfold lcB
    simp only [e]
    cases el : l[j]? with
    | none =>
      rw [List.drop_eq_nil_of_le (List.getElem?_eq_none_iff.mp el)]
      rfl
    | some d =>
      obtain ⟨hj, rfl⟩ := List.getElem?_eq_some_iff.mp el
      obtain ⟨ρ1, e1, e2⟩ := hh l[j] (List.getElem_mem hj)
      have ih := lcB_all (ρ := ρ) e hc hh n (j + 1) (by omega)
      simp only [e1, hc, e2, ih]
      rw [List.drop_eq_getElem_cons hj, List.map_cons]
theorem lcX_all {own : List Nat} {fi f : EV} {t : Tg} {ρ : Rho} {h : Hs} {i : Nat} {l : List D} {g : D → D} (ei : fi ρ h = .ok (.ref i) h) (e : h[i]? = some (.lst l)) (hl : l.length ≤ sizeLine) (hh : ∀ d ∈ l, ∃ ρ1, t.set d (wipeD own ρ) = some ρ1 ∧ f ρ1 h = .ok (g d) h) :
    eLcX own fi t bYes f ρ h = .ok (.lst (l.map g)) h := by
  have eb : bxA h i = some l := by
    unfold bxA
    simp only [e]
  unfold eLcX aLcX
  simp only [ei, eb, lcB_all (ρ := wipeD own ρ) eb (c := bYes) (fun _ _ => rfl) hh (l.length + 1) 0 (by omega), List.drop_zero]
  rw [if_pos (by rw [List.length_map]; exact hl), R.bind_ok]
theorem shr_p {i j : Int} {h : Hs} (hj : 0 ≤ j) : opShr (.int i) (.int j) h = some (.int (i / 2 ^ j.toNat)) := by
  show (if _ then _ else _) = _
  rw [if_pos hj]
theorem add_ls {a b : List D} {h : Hs} (q : a.length + b.length ≤ sizeLine) : opAdd (.lst a) (.lst b) h = some (.lst (a ++ b)) := by
  show (if _ then _ else _) = _
  rw [if_pos q]
end U
namespace Gk56
open PySem PySem.Spec PyProof.Rows L2 RZ U
def topS (i : Nat) : Stmt := PySem.Challenge.pw_usedonce_k56_what_is_a_worth.main.body.getD i (.Pass ⟨0, 0, 0, 0⟩)
def clsB (s : Stmt) (k : Nat) : Stmt := (U.clsBody s).getD k (.Pass ⟨0, 0, 0, 0⟩)
abbrev s__law_cell_at : Stmt := topS 5
abbrev N__law_cell_at : List Str := ["_law_script", "_law_k"]
abbrev P__law_cell_at : List Str := ["_law_script", "_law_k"]
theorem sc__law_cell_at : FnScope N__law_cell_at P__law_cell_at (defScope s__law_cell_at) := ⟨rfl, rfl, rfl, by decide +kernel, rfl, by decide +kernel, by decide +kernel⟩
abbrev s__law_mixed : Stmt := topS 6
abbrev N__law_mixed : List Str := ["_law_cell", "_law_k", "_law_number"]
abbrev P__law_mixed : List Str := ["_law_cell", "_law_k"]
theorem sc__law_mixed : FnScope N__law_mixed P__law_mixed (defScope s__law_mixed) := ⟨rfl, rfl, rfl, by decide +kernel, rfl, by decide +kernel, by decide +kernel⟩
abbrev s__law_next : Stmt := topS 7
abbrev N__law_next : List Str := ["_law_draw", "_law_many"]
abbrev P__law_next : List Str := ["_law_draw", "_law_many"]
theorem sc__law_next : FnScope N__law_next P__law_next (defScope s__law_next) := ⟨rfl, rfl, rfl, by decide +kernel, rfl, by decide +kernel, by decide +kernel⟩
abbrev s__law_program : Stmt := topS 8
abbrev N__law_program : List Str := ["_law_draw", "_law_names", "_law_kinds", "_law_k", "_law_inner", "_law_j", "_law_use"]
abbrev P__law_program : List Str := ["_law_draw"]
theorem sc__law_program : FnScope N__law_program P__law_program (defScope s__law_program) := ⟨rfl, rfl, rfl, by decide +kernel, rfl, by decide +kernel, by decide +kernel⟩
abbrev s__law_worth : Stmt := topS 9
abbrev N__law_worth : List Str := ["_law_draw", "_law_rules", "_law_kind"]
abbrev P__law_worth : List Str := ["_law_draw", "_law_rules", "_law_kind"]
theorem sc__law_worth : FnScope N__law_worth P__law_worth (defScope s__law_worth) := ⟨rfl, rfl, rfl, by decide +kernel, rfl, by decide +kernel, by decide +kernel⟩
abbrev s__law_pieces : Stmt := topS 12
abbrev N__law_pieces : List Str := ["_law_rules", "_law_worth_here"]
abbrev P__law_pieces : List Str := ["_law_rules", "_law_worth_here"]
theorem sc__law_pieces : FnScope N__law_pieces P__law_pieces (defScope s__law_pieces) := ⟨rfl, rfl, rfl, by decide +kernel, rfl, by decide +kernel, by decide +kernel⟩
abbrev s__law_spoilt : Stmt := topS 10
abbrev N__law_spoilt : List Str := ["_law_draw", "_law_worth_here", "_law_k", "_law_some", "_law_odd"]
abbrev P__law_spoilt : List Str := ["_law_draw", "_law_worth_here"]
theorem sc__law_spoilt : FnScope N__law_spoilt P__law_spoilt (defScope s__law_spoilt) := ⟨rfl, rfl, rfl, by decide +kernel, rfl, by decide +kernel, by decide +kernel⟩
abbrev s__law_is_worth : Stmt := topS 11
abbrev N__law_is_worth : List Str := ["_law_rules", "_law_kind", "_law_thing"]
abbrev P__law_is_worth : List Str := ["_law_rules", "_law_kind", "_law_thing"]
theorem sc__law_is_worth : FnScope N__law_is_worth P__law_is_worth (defScope s__law_is_worth) := ⟨rfl, rfl, rfl, by decide +kernel, rfl, by decide +kernel, by decide +kernel⟩
abbrev s_Kinds_is_parts : Stmt := clsB (topS 3) 4
abbrev N_Kinds_is_parts : List Str := ["self", "name"]
abbrev P_Kinds_is_parts : List Str := ["self", "name"]
theorem sc_Kinds_is_parts : FnScope N_Kinds_is_parts P_Kinds_is_parts (defScope s_Kinds_is_parts) := ⟨rfl, rfl, rfl, by decide +kernel, rfl, by decide +kernel, by decide +kernel⟩
abbrev s_Kinds_is_whole : Stmt := clsB (topS 3) 5
abbrev N_Kinds_is_whole : List Str := ["self", "name"]
abbrev P_Kinds_is_whole : List Str := ["self", "name"]
theorem sc_Kinds_is_whole : FnScope N_Kinds_is_whole P_Kinds_is_whole (defScope s_Kinds_is_whole) := ⟨rfl, rfl, rfl, by decide +kernel, rfl, by decide +kernel, by decide +kernel⟩
abbrev s_Kinds_is_box : Stmt := clsB (topS 3) 6
abbrev N_Kinds_is_box : List Str := ["self", "name"]
abbrev P_Kinds_is_box : List Str := ["self", "name"]
theorem sc_Kinds_is_box : FnScope N_Kinds_is_box P_Kinds_is_box (defScope s_Kinds_is_box) := ⟨rfl, rfl, rfl, by decide +kernel, rfl, by decide +kernel, by decide +kernel⟩
abbrev s_Kinds_pieces : Stmt := clsB (topS 3) 8
abbrev N_Kinds_pieces : List Str := ["self", "worth"]
abbrev P_Kinds_pieces : List Str := ["self", "worth"]
theorem sc_Kinds_pieces : FnScope N_Kinds_pieces P_Kinds_pieces (defScope s_Kinds_pieces) := ⟨rfl, rfl, rfl, by decide +kernel, rfl, by decide +kernel, by decide +kernel⟩
abbrev s_is_count : Stmt := topS 2
abbrev N_is_count : List Str := ["thing"]
abbrev P_is_count : List Str := ["thing"]
theorem sc_is_count : FnScope N_is_count P_is_count (defScope s_is_count) := ⟨rfl, rfl, rfl, by decide +kernel, rfl, by decide +kernel, by decide +kernel⟩
abbrev s_Kinds_rule : Stmt := clsB (topS 3) 3
abbrev N_Kinds_rule : List Str := ["self", "name"]
abbrev P_Kinds_rule : List Str := ["self", "name"]
theorem sc_Kinds_rule : FnScope N_Kinds_rule P_Kinds_rule (defScope s_Kinds_rule) := ⟨rfl, rfl, rfl, by decide +kernel, rfl, by decide +kernel, by decide +kernel⟩
abbrev s_Kinds_is_worth : Stmt := clsB (topS 3) 7
abbrev N_Kinds_is_worth : List Str := ["self", "kind", "thing", "inner", "k"]
abbrev P_Kinds_is_worth : List Str := ["self", "kind", "thing"]
theorem sc_Kinds_is_worth : FnScope N_Kinds_is_worth P_Kinds_is_worth (defScope s_Kinds_is_worth) := ⟨rfl, rfl, rfl, by decide +kernel, rfl, by decide +kernel, by decide +kernel⟩
abbrev s_Kinds___init__ : Stmt := clsB (topS 3) 0
abbrev N_Kinds___init__ : List Str := ["self", "program", "kind"]
abbrev P_Kinds___init__ : List Str := ["self", "program"]
theorem sc_Kinds___init__ : FnScope N_Kinds___init__ P_Kinds___init__ (defScope s_Kinds___init__) := ⟨rfl, rfl, rfl, by decide +kernel, rfl, by decide +kernel, by decide +kernel⟩
abbrev s_law : Stmt := topS 13
abbrev N_law : List Str := ["_law_script", "_law_cell", "_law_draw", "_law_program_here", "_law_rules", "_law_kind", "_law_kinds", "_law_worth_here", "_law_found", "_law_one", "_law_other", "_law_name", "_law_told"]
abbrev P_law : List Str := ["_law_script"]
theorem sc_law : FnScope N_law P_law (defScope s_law) := ⟨rfl, rfl, rfl, by decide +kernel, rfl, by decide +kernel, by decide +kernel⟩
def b__law_cell_at (n : Nat) : SV := (sSeq (sIf (bE (eOp opLt (eVar 1) (eCal opLenQ (eVar 0)))) (sRet (eOp opIx2 (eVar 0) (eVar 1))) sNil)
  (sRet (eC (.int 0))))
def m__law_cell_at : Nat → DF
  | 0 => fun _ _ => .no
  | n + 1 => runD 2 2 false (b__law_cell_at n)
def b__law_mixed (n : Nat) : SV := (sSeq (sIf (bAnd (bE (eOp opGe (eVar 0) (eOp opShl (eC (.int 1)) (eC (.int 90))))) (bAnd (bE (eOp opEq (eOp opMod (eVar 0) (eC (.int 2))) (eC (.int 1)))) (bE (eOp opGt (eOp opShr (eVar 0) (eOp opAdd (eC (.int 1)) (eOp opMul (eC (.int 31)) (eVar 1)))) (eC (.int 0)))))) (sRet (eOp opMod (eOp opShr (eVar 0) (eOp opAdd (eC (.int 1)) (eOp opMul (eC (.int 31)) (eVar 1)))) (eC (.int 2147483648)))) sNil)
  (sSeq (sSet 2 (eOp opMod (eOp opMul (eOp opAdd (eOp opAdd (eVar 0) (eOp opMul (eC (.int 7919)) (eVar 1))) (eC (.int 1))) (eC (.int 48271))) (eC (.int 2147483647))))
  (sSeq (sSet 2 (eOp opMod (eOp opMul (eVar 2) (eOp opAdd (eOp opDiv (eVar 2) (eC (.int 1009))) (eC (.int 69621)))) (eC (.int 2147483647))))
  (sRet (eOp opMod (eOp opMul (eVar 2) (eOp opAdd (eOp opAdd (eOp opDiv (eVar 2) (eC (.int 2003))) (eC (.int 39373))) (eVar 1))) (eC (.int 2147483629)))))))
def m__law_mixed : Nat → DF
  | 0 => fun _ _ => .no
  | n + 1 => runD 2 3 false (b__law_mixed n)
def b__law_next (n : Nat) : SV := (sSeq (sPut (eVar 0) (eC (.str "at")) (eOp opAdd (eOp opIx2 (eVar 0) (eC (.str "at"))) (eC (.int 1))))
  (sRet (eOp opMod (eOp opDiv (eCall (m__law_mixed n) (aCons (eOp opIx2 (eVar 0) (eC (.str "cell"))) (aCons (eOp opIx2 (eVar 0) (eC (.str "at"))) aNil))) (eC (.int 3))) (eVar 1))))
def m__law_next : Nat → DF
  | 0 => fun _ _ => .no
  | n + 1 => runD 2 2 false (b__law_next n)
def b__law_program (n : Nat) : SV := (sSeq (sSet 1 (eLst (aCons (eC (.str "coin")) (aCons (eC (.str "dust")) (aCons (eC (.str "key")) (aCons (eC (.str "chest")) (aCons (eC (.str "bag")) (aCons (eC (.str "sack")) aNil))))))))
  (sSeq (sSet 2 (eBox (aCons (eTup (aCons (eC (.str "coin")) (aCons (eC (.str "once")) (aCons (eC (.str "a")) (aCons (eC (.str "parts")) aNil))))) (aCons (eTup (aCons (eC (.str "dust")) (aCons (eC (.str "most")) (aCons (eC (.str "a")) (aCons (eC (.str "parts")) aNil))))) (aCons (eTup (aCons (eC (.str "key")) (aCons (eC (.str "most")) (aCons (eC (.str "a")) (aCons (eC (.str "whole")) aNil))))) aNil)))))
  (sSeq (sFor (iRange2 (eC (.int 3)) (eC (.int 6))) (.nm 3) (sSeq (sSet 4 (eLc [5] (iRange (eC (.int 2))) (.nm 5) bYes (eOp opIx2 (eVar 2) (eCall (m__law_next n) (aCons (eVar 0) (aCons (eVar 3) aNil))))))
  (sSeq (sSet 6 (eOp opIx (eLst (aCons (eC (.str "most")) (aCons (eC (.str "once")) aNil))) (eCal opInt (eOp opIn (eC (.str "once")) (eLst (aCons (eOp opIx (eOp opIx (eVar 4) (eC (.int 0))) (eC (.int 1))) (aCons (eOp opIx (eOp opIx (eVar 4) (eC (.int 1))) (eC (.int 1))) aNil)))))))
  (sExpr (eApp (eVar 2) (eTup (aCons (eOp opIx2 (eVar 1) (eVar 3)) (aCons (eVar 6) (aCons (eC (.str "a")) (aCons (eTup (aCons (eC (.str "box")) (aCons (eOp opIx (eOp opIx (eVar 4) (eC (.int 0))) (eC (.int 0))) (aCons (eOp opIx (eOp opIx (eVar 4) (eC (.int 1))) (eC (.int 0))) aNil)))) aNil))))))))))
  (sRet (eTup (aCons (eCal opTuple (eVar 2)) (aCons (eTup (aCons (eTup (aCons (eC (.str "a")) (aCons (eTup aNil) (aCons (eTup aNil) aNil)))) aNil)) aNil)))))))
def m__law_program : Nat → DF
  | 0 => fun _ _ => .no
  | n + 1 => runD 1 7 false (b__law_program n)
def m__law_worth : Nat → DF
  | 0 => fun _ _ => .no
  | n + 1 => runD 3 3 false (sSeq (sIf (bE (eCal (opIsi "tuple") (eOp opIx2 (eVar 1) (eVar 2)))) (sRet (eTup (aCons (eVar 2) (aCons (eCall (m__law_worth n) (aCons (eVar 0) (aCons (eVar 1) (aCons (eOp opIx (eOp opIx2 (eVar 1) (eVar 2)) (eC (.int 1))) aNil)))) (aCons (eCall (m__law_worth n) (aCons (eVar 0) (aCons (eVar 1) (aCons (eOp opIx (eOp opIx2 (eVar 1) (eVar 2)) (eC (.int 2))) aNil)))) aNil))))) sNil)
  (sRet (eTup (aCons (eVar 2) (aCons (eOp opIx (eLst (aCons (eC (.int 0)) (aCons (eCall (m__law_next n) (aCons (eVar 0) (aCons (eC (.int 9)) aNil))) (aCons (eOp opPow (eC (.int 10)) (eC (.int 60))) (aCons (eCall (m__law_next n) (aCons (eVar 0) (aCons (eOp opPow (eC (.int 10)) (eC (.int 9))) aNil))) aNil))))) (eCall (m__law_next n) (aCons (eVar 0) (aCons (eC (.int 4)) aNil)))) aNil)))))
abbrev b__law_worth (n : Nat) : SV := (sSeq (sIf (bE (eCal (opIsi "tuple") (eOp opIx2 (eVar 1) (eVar 2)))) (sRet (eTup (aCons (eVar 2) (aCons (eCall (m__law_worth n) (aCons (eVar 0) (aCons (eVar 1) (aCons (eOp opIx (eOp opIx2 (eVar 1) (eVar 2)) (eC (.int 1))) aNil)))) (aCons (eCall (m__law_worth n) (aCons (eVar 0) (aCons (eVar 1) (aCons (eOp opIx (eOp opIx2 (eVar 1) (eVar 2)) (eC (.int 2))) aNil)))) aNil))))) sNil)
  (sRet (eTup (aCons (eVar 2) (aCons (eOp opIx (eLst (aCons (eC (.int 0)) (aCons (eCall (m__law_next n) (aCons (eVar 0) (aCons (eC (.int 9)) aNil))) (aCons (eOp opPow (eC (.int 10)) (eC (.int 60))) (aCons (eCall (m__law_next n) (aCons (eVar 0) (aCons (eOp opPow (eC (.int 10)) (eC (.int 9))) aNil))) aNil))))) (eCall (m__law_next n) (aCons (eVar 0) (aCons (eC (.int 4)) aNil)))) aNil)))))
def m__law_pieces : Nat → DF
  | 0 => fun _ _ => .no
  | n + 1 => runD 2 2 true (sSeq (sIf (bE (eCal (opIsi "tuple") (eOp opIx2 (eVar 0) (eOp opIx (eVar 1) (eC (.int 0)))))) (sRet (eOpB opAddB (eCall (m__law_pieces n) (aCons (eVar 0) (aCons (eOp opIx (eVar 1) (eC (.int 1))) aNil))) (eCall (m__law_pieces n) (aCons (eVar 0) (aCons (eOp opIx (eVar 1) (eC (.int 2))) aNil))))) sNil)
  (sRet (eBox (aCons (eVar 1) aNil))))
abbrev b__law_pieces (n : Nat) : SV := (sSeq (sIf (bE (eCal (opIsi "tuple") (eOp opIx2 (eVar 0) (eOp opIx (eVar 1) (eC (.int 0)))))) (sRet (eOpB opAddB (eCall (m__law_pieces n) (aCons (eVar 0) (aCons (eOp opIx (eVar 1) (eC (.int 1))) aNil))) (eCall (m__law_pieces n) (aCons (eVar 0) (aCons (eOp opIx (eVar 1) (eC (.int 2))) aNil))))) sNil)
  (sRet (eBox (aCons (eVar 1) aNil))))
def m__law_spoilt : Nat → DF
  | 0 => fun _ _ => .no
  | n + 1 => runD 2 5 false (sSeq (sIf (bAnd (bE (eOp opEq (eCal opLenQ (eVar 1)) (eC (.int 3)))) (bE (eOp opGt (eCall (m__law_next n) (aCons (eVar 0) (aCons (eC (.int 3)) aNil))) (eC (.int 0))))) (sSeq (sSet 2 (eOp opAdd (eC (.int 1)) (eCall (m__law_next n) (aCons (eVar 0) (aCons (eC (.int 2)) aNil)))))
  (sRet (eOp opAdd (eOp opAdd (eSl (eVar 1) pNone (pSome (eVar 2))) (eTup (aCons (eCall (m__law_spoilt n) (aCons (eVar 0) (aCons (eOp opIx2 (eVar 1) (eVar 2)) aNil))) aNil))) (eSl (eVar 1) (pSome (eOp opAdd (eVar 2) (eC (.int 1)))) pNone)))) sNil)
  (sSeq (sSet 3 (eLst (aCons (eCal opList (eVar 1)) (aCons (eSl (eVar 1) pNone (pSome (eNeg (eC (.int 1))))) (aCons (eOp opAdd (eVar 1) (eTup (aCons (eC (.int 0)) aNil))) (aCons (eOp opAdd (eTup (aCons (eC (.str "dust")) aNil)) (eSl (eVar 1) (pSome (eC (.int 1))) pNone)) (aCons (eOp opAdd (eTup (aCons (eC (.str "box")) aNil)) (eSl (eVar 1) (pSome (eC (.int 1))) pNone)) (aCons (eC .non) (aCons (eTup aNil) (aCons (eOp opIx (eVar 1) (eC (.int 0))) aNil))))))))))
  (sSeq (sSet 3 (eOp opAdd (eVar 3) (eLc [4] (iSeq (eTup (aCons (eNeg (eC (.int 1))) (aCons (eOp opPow (eC (.int 10)) (eC (.int 64))) (aCons (eC (.bl true)) (aCons (eC .non) (aCons (eC (.str "1")) (aCons (eTup aNil) (aCons (eVar 1) aNil))))))))) (.nm 4) bYes (eOp opAdd (eOp opAdd (eSl (eVar 1) pNone (pSome (eC (.int 1)))) (eTup (aCons (eVar 4) aNil))) (eSl (eVar 1) (pSome (eC (.int 2))) pNone)))))
  (sRet (eOp opIx2 (eVar 3) (eCall (m__law_next n) (aCons (eVar 0) (aCons (eC (.int 15)) aNil))))))))
abbrev b__law_spoilt (n : Nat) : SV := (sSeq (sIf (bAnd (bE (eOp opEq (eCal opLenQ (eVar 1)) (eC (.int 3)))) (bE (eOp opGt (eCall (m__law_next n) (aCons (eVar 0) (aCons (eC (.int 3)) aNil))) (eC (.int 0))))) (sSeq (sSet 2 (eOp opAdd (eC (.int 1)) (eCall (m__law_next n) (aCons (eVar 0) (aCons (eC (.int 2)) aNil)))))
  (sRet (eOp opAdd (eOp opAdd (eSl (eVar 1) pNone (pSome (eVar 2))) (eTup (aCons (eCall (m__law_spoilt n) (aCons (eVar 0) (aCons (eOp opIx2 (eVar 1) (eVar 2)) aNil))) aNil))) (eSl (eVar 1) (pSome (eOp opAdd (eVar 2) (eC (.int 1)))) pNone)))) sNil)
  (sSeq (sSet 3 (eLst (aCons (eCal opList (eVar 1)) (aCons (eSl (eVar 1) pNone (pSome (eNeg (eC (.int 1))))) (aCons (eOp opAdd (eVar 1) (eTup (aCons (eC (.int 0)) aNil))) (aCons (eOp opAdd (eTup (aCons (eC (.str "dust")) aNil)) (eSl (eVar 1) (pSome (eC (.int 1))) pNone)) (aCons (eOp opAdd (eTup (aCons (eC (.str "box")) aNil)) (eSl (eVar 1) (pSome (eC (.int 1))) pNone)) (aCons (eC .non) (aCons (eTup aNil) (aCons (eOp opIx (eVar 1) (eC (.int 0))) aNil))))))))))
  (sSeq (sSet 3 (eOp opAdd (eVar 3) (eLc [4] (iSeq (eTup (aCons (eNeg (eC (.int 1))) (aCons (eOp opPow (eC (.int 10)) (eC (.int 64))) (aCons (eC (.bl true)) (aCons (eC .non) (aCons (eC (.str "1")) (aCons (eTup aNil) (aCons (eVar 1) aNil))))))))) (.nm 4) bYes (eOp opAdd (eOp opAdd (eSl (eVar 1) pNone (pSome (eC (.int 1)))) (eTup (aCons (eVar 4) aNil))) (eSl (eVar 1) (pSome (eC (.int 2))) pNone)))))
  (sRet (eOp opIx2 (eVar 3) (eCall (m__law_next n) (aCons (eVar 0) (aCons (eC (.int 15)) aNil))))))))
def m__law_is_worth : Nat → DF
  | 0 => fun _ _ => .no
  | n + 1 => runD 3 3 false (sSeq (sIf (bOr (bNot (bE (eCal (opIsi "tuple") (eVar 2)))) (bE (eOp opNe (eSl (eVar 2) pNone (pSome (eC (.int 1)))) (eTup (aCons (eVar 1) aNil))))) (sRet (eC (.bl false))) sNil)
  (sSeq (sIf (bE (eCal (opIsi "tuple") (eOp opIx2 (eVar 0) (eVar 1)))) (sSeq (sIf (bOr (bE (eOp opNe (eCal opLenQ (eVar 2)) (eC (.int 3)))) (bNot (bE (eCall (m__law_is_worth n) (aCons (eVar 0) (aCons (eOp opIx (eOp opIx2 (eVar 0) (eVar 1)) (eC (.int 1))) (aCons (eOp opIx (eVar 2) (eC (.int 1))) aNil))))))) (sRet (eC (.bl false))) sNil)
  (sRet (eCall (m__law_is_worth n) (aCons (eVar 0) (aCons (eOp opIx (eOp opIx2 (eVar 0) (eVar 1)) (eC (.int 2))) (aCons (eOp opIx (eVar 2) (eC (.int 2))) aNil)))))) sNil)
  (sSeq (sIf (bOr (bE (eOp opNe (eCal opLenQ (eVar 2)) (eC (.int 2)))) (bOr (bNot (bE (eCal (opIsi "int") (eOp opIx (eVar 2) (eC (.int 1)))))) (bE (eCal (opIsi "bool") (eOp opIx (eVar 2) (eC (.int 1))))))) (sRet (eC (.bl false))) sNil)
  (sRet (eOp opGe (eOp opIx (eVar 2) (eC (.int 1))) (eC (.int 0)))))))
abbrev b__law_is_worth (n : Nat) : SV := (sSeq (sIf (bOr (bNot (bE (eCal (opIsi "tuple") (eVar 2)))) (bE (eOp opNe (eSl (eVar 2) pNone (pSome (eC (.int 1)))) (eTup (aCons (eVar 1) aNil))))) (sRet (eC (.bl false))) sNil)
  (sSeq (sIf (bE (eCal (opIsi "tuple") (eOp opIx2 (eVar 0) (eVar 1)))) (sSeq (sIf (bOr (bE (eOp opNe (eCal opLenQ (eVar 2)) (eC (.int 3)))) (bNot (bE (eCall (m__law_is_worth n) (aCons (eVar 0) (aCons (eOp opIx (eOp opIx2 (eVar 0) (eVar 1)) (eC (.int 1))) (aCons (eOp opIx (eVar 2) (eC (.int 1))) aNil))))))) (sRet (eC (.bl false))) sNil)
  (sRet (eCall (m__law_is_worth n) (aCons (eVar 0) (aCons (eOp opIx (eOp opIx2 (eVar 0) (eVar 1)) (eC (.int 2))) (aCons (eOp opIx (eVar 2) (eC (.int 2))) aNil)))))) sNil)
  (sSeq (sIf (bOr (bE (eOp opNe (eCal opLenQ (eVar 2)) (eC (.int 2)))) (bOr (bNot (bE (eCal (opIsi "int") (eOp opIx (eVar 2) (eC (.int 1)))))) (bE (eCal (opIsi "bool") (eOp opIx (eVar 2) (eC (.int 1))))))) (sRet (eC (.bl false))) sNil)
  (sRet (eOp opGe (eOp opIx (eVar 2) (eC (.int 1))) (eC (.int 0)))))))
def b_Kinds_is_parts (n : Nat) : SV := (sRet (eAnd (eOp (orO opIn opDin) (eVar 1) (eFld [0] "known" (eVar 0))) (eOp opEq (eOp opIx (eOp opIx2 (eFld [0] "known" (eVar 0)) (eVar 1)) (eC (.int 3))) (eC (.str "parts")))))
def m_Kinds_is_parts : Nat → DF
  | 0 => fun _ _ => .no
  | n + 1 => runD 2 2 false (b_Kinds_is_parts n)
def b_Kinds_is_whole (n : Nat) : SV := (sRet (eAnd (eOp (orO opIn opDin) (eVar 1) (eFld [0] "known" (eVar 0))) (eOp opEq (eOp opIx (eOp opIx2 (eFld [0] "known" (eVar 0)) (eVar 1)) (eC (.int 3))) (eC (.str "whole")))))
def m_Kinds_is_whole : Nat → DF
  | 0 => fun _ _ => .no
  | n + 1 => runD 2 2 false (b_Kinds_is_whole n)
def b_Kinds_is_box (n : Nat) : SV := (sRet (eAnd (eNot (eMeth 0 "is_parts" (m_Kinds_is_parts n) (eVar 0) (aCons (eVar 1) aNil))) (eNot (eMeth 0 "is_whole" (m_Kinds_is_whole n) (eVar 0) (aCons (eVar 1) aNil)))))
def m_Kinds_is_box : Nat → DF
  | 0 => fun _ _ => .no
  | n + 1 => runD 2 2 false (b_Kinds_is_box n)
def m_Kinds_pieces : Nat → DF
  | 0 => fun _ _ => .no
  | n + 1 => runD 2 2 true (sSeq (sIf (bE (eMeth 0 "is_box" (m_Kinds_is_box n) (eVar 0) (aCons (eOp opIx (eVar 1) (eC (.int 0))) aNil))) (sRet (eOpB opAddB (eMeth 0 "pieces" (m_Kinds_pieces n) (eVar 0) (aCons (eOp opIx (eVar 1) (eC (.int 1))) aNil)) (eMeth 0 "pieces" (m_Kinds_pieces n) (eVar 0) (aCons (eOp opIx (eVar 1) (eC (.int 2))) aNil)))) sNil)
  (sRet (eBox (aCons (eTup (aCons (eOp opIx (eVar 1) (eC (.int 0))) (aCons (eOp opIx (eVar 1) (eC (.int 1))) aNil))) aNil))))
abbrev b_Kinds_pieces (n : Nat) : SV := (sSeq (sIf (bE (eMeth 0 "is_box" (m_Kinds_is_box n) (eVar 0) (aCons (eOp opIx (eVar 1) (eC (.int 0))) aNil))) (sRet (eOpB opAddB (eMeth 0 "pieces" (m_Kinds_pieces n) (eVar 0) (aCons (eOp opIx (eVar 1) (eC (.int 1))) aNil)) (eMeth 0 "pieces" (m_Kinds_pieces n) (eVar 0) (aCons (eOp opIx (eVar 1) (eC (.int 2))) aNil)))) sNil)
  (sRet (eBox (aCons (eTup (aCons (eOp opIx (eVar 1) (eC (.int 0))) (aCons (eOp opIx (eVar 1) (eC (.int 1))) aNil))) aNil))))
def b_is_count (n : Nat) : SV := (sRet (eAnd (eCal (opIsi "int") (eVar 0)) (eAnd (eNot (eCal (opIsi "bool") (eVar 0))) (eOp opGe (eVar 0) (eC (.int 0))))))
def m_is_count : Nat → DF
  | 0 => fun _ _ => .no
  | n + 1 => runD 1 1 false (b_is_count n)
def b_Kinds_rule (n : Nat) : SV := (sRet (eOp opIx (eOp opIx2 (eFld [0] "known" (eVar 0)) (eVar 1)) (eC (.int 3))))
def m_Kinds_rule : Nat → DF
  | 0 => fun _ _ => .no
  | n + 1 => runD 2 2 false (b_Kinds_rule n)
def m_Kinds_is_worth : Nat → DF
  | 0 => fun _ _ => .no
  | n + 1 => runD 3 5 false (sSeq (sIf (bOr (bNot (bE (eCal (opIsi "tuple") (eVar 2)))) (bOr (bE (eOp opEq (eCal opLenQ (eVar 2)) (eC (.int 0)))) (bE (eOp opNe (eOp opIx (eVar 2) (eC (.int 0))) (eVar 1))))) (sRet (eC (.bl false))) sNil)
  (sSeq (sIf (bE (eMeth 0 "is_box" (m_Kinds_is_box n) (eVar 0) (aCons (eVar 1) aNil))) (sSeq (sSet 3 (eSl (eMeth 0 "rule" (m_Kinds_rule n) (eVar 0) (aCons (eVar 1) aNil)) (pSome (eC (.int 1))) pNone))
  (sRet (eAnd (eOp opEq (eCal opLenQ (eVar 2)) (eC (.int 3))) (eCal opAll (eLc [4] (iRange (eC (.int 2))) (.nm 4) bYes (eMeth 0 "is_worth" (m_Kinds_is_worth n) (eVar 0) (aCons (eOp opIx2 (eVar 3) (eVar 4)) (aCons (eOp opIx2 (eVar 2) (eOp opAdd (eC (.int 1)) (eVar 4))) aNil)))))))) sNil)
  (sRet (eAnd (eOp opEq (eCal opLenQ (eVar 2)) (eC (.int 2))) (eCall (m_is_count n) (aCons (eOp opIx (eVar 2) (eC (.int 1))) aNil))))))
abbrev b_Kinds_is_worth (n : Nat) : SV := (sSeq (sIf (bOr (bNot (bE (eCal (opIsi "tuple") (eVar 2)))) (bOr (bE (eOp opEq (eCal opLenQ (eVar 2)) (eC (.int 0)))) (bE (eOp opNe (eOp opIx (eVar 2) (eC (.int 0))) (eVar 1))))) (sRet (eC (.bl false))) sNil)
  (sSeq (sIf (bE (eMeth 0 "is_box" (m_Kinds_is_box n) (eVar 0) (aCons (eVar 1) aNil))) (sSeq (sSet 3 (eSl (eMeth 0 "rule" (m_Kinds_rule n) (eVar 0) (aCons (eVar 1) aNil)) (pSome (eC (.int 1))) pNone))
  (sRet (eAnd (eOp opEq (eCal opLenQ (eVar 2)) (eC (.int 3))) (eCal opAll (eLc [4] (iRange (eC (.int 2))) (.nm 4) bYes (eMeth 0 "is_worth" (m_Kinds_is_worth n) (eVar 0) (aCons (eOp opIx2 (eVar 3) (eVar 4)) (aCons (eOp opIx2 (eVar 2) (eOp opAdd (eC (.int 1)) (eVar 4))) aNil)))))))) sNil)
  (sRet (eAnd (eOp opEq (eCal opLenQ (eVar 2)) (eC (.int 2))) (eCall (m_is_count n) (aCons (eOp opIx (eVar 2) (eC (.int 1))) aNil))))))
def b_Kinds___init__ (n : Nat) : SV := (sSeq (sFldS [0] "known" (eDic []) (eVar 0))
  (sFor (iSeq (eOp opIx (eVar 1) (eC (.int 0)))) (.nm 2) (sPut (eFld [0] "known" (eVar 0)) (eOp opIx (eVar 2) (eC (.int 0))) (eVar 2))))
def m_Kinds___init__ : Nat → DF
  | 0 => fun _ _ => .no
  | n + 1 => runD 2 3 true (b_Kinds___init__ n)
def b_law (n : Nat) : SV := (sSeq (sFor (iSeq (eOp opAdd (eLst (aCons (eCall (m__law_cell_at n) (aCons (eVar 0) (aCons (eC (.int 0)) aNil))) aNil)) (eSl (eVar 0) (pSome (eC (.int 1))) (pSome (eC (.int 16)))))) (.nm 1) (sSeq (sSet 2 (eDic [(.inr "cell", (eVar 1)), (.inr "at", (eC (.int 0)))]))
  (sSeq (sSet 3 (eCall (m__law_program n) (aCons (eVar 2) aNil)))
  (sSeq (sSet 4 (eFrz (eCalB opDict (eLc [5] (iSeq (eOp opIx (eVar 3) (eC (.int 0)))) (.nm 5) bYes (eTup (aCons (eOp opIx (eVar 5) (eC (.int 0))) (aCons (eOp opIx (eVar 5) (eC (.int 3))) aNil)))))))
  (sSeq (sSet 6 (eMake 0 (dn m_Kinds___init__ n) (aCons (eVar 3) aNil)))
  (sForK 4 (.nm 5) (sSeq (sSet 7 (eCall (m__law_worth n) (aCons (eVar 2) (aCons (eVar 4) (aCons (eVar 5) aNil)))))
  (sSeq (sSet 8 (eMeth 0 "pieces" (m_Kinds_pieces n) (eVar 6) (aCons (eVar 7) aNil)))
  (sSeq (sIf (bOr (bE (eOp opIsNot (eMeth 0 "is_worth" (m_Kinds_is_worth n) (eVar 6) (aCons (eVar 5) (aCons (eVar 7) aNil))) (eC (.bl true)))) (bNot (bE (eCal (opIsi "list") (eVar 8))))) (sRet (eC (.bl false))) sNil)
  (sSeq (sIf (bOr (bE (eOp opNe (eVar 8) (eCall (m__law_pieces n) (aCons (eVar 4) (aCons (eVar 7) aNil))))) (bNot (bE (eCal opAll (eLcX [9] (eVar 8) (.nm 9) bYes (eCal (opIsi "tuple") (eVar 9))))))) (sRet (eC (.bl false))) sNil)
  (sSeq (sExpr (eClr (eVar 8)))
  (sSeq (sSet 10 (eCall (m__law_spoilt n) (aCons (eVar 2) (aCons (eVar 7) aNil))))
  (sSeq (sForK 4 (.nm 11) (sSeq (sSet 12 (eMeth 0 "is_worth" (m_Kinds_is_worth n) (eVar 6) (aCons (eVar 11) (aCons (eVar 10) aNil))))
  (sIf (bOr (bNot (bE (eCal (opIsi "bool") (eVar 12)))) (bE (eOp opNe (eVar 12) (eCall (m__law_is_worth n) (aCons (eVar 4) (aCons (eVar 11) (aCons (eVar 10) aNil))))))) (sRet (eC (.bl false))) sNil)))
  (sIf (bE (eOp opNe (eMeth 0 "pieces" (m_Kinds_pieces n) (eVar 6) (aCons (eVar 7) aNil)) (eCall (m__law_pieces n) (aCons (eVar 4) (aCons (eVar 7) aNil))))) (sRet (eC (.bl false))) sNil))))))))))))))
  (sRet (eC (.bl true))))
def m_law : Nat → DF
  | 0 => fun _ _ => .no
  | n + 1 => runD 1 13 false (b_law n)
section
variable {P : Program} {w : World} {K : PySem.W.Frag} {mg : Str → Option Value} {base : Heap} {G : Gn}
theorem d__law_cell_at {n : Nat} (u_len : mg "len" = none) (f : Addr) (cdv : Value) (A : Around) (outer : List Env) (s : Shared) (H : Hp) (E : XK) (W : WX) (bn : Bn (cxOf (L2.CX P w) P w K mg base N__law_cell_at "_law_cell_at" (defScope s__law_cell_at) f cdv A outer s H E) G W n) : QSs (cxOf (L2.CX P w) P w K mg base N__law_cell_at "_law_cell_at" (defScope s__law_cell_at) f cdv A outer s H E) G W (defBody s__law_cell_at) (b__law_cell_at n) :=
  (qs_cons (qs_if (qt_cmp or_lt (q_var (i := 1)) (q_callB (cr_len bn.b) u_len bo_len (q_var (i := 0)))) (qs_one (qs_ret (q_ix2 bn.b (q_var (i := 0)) (q_var (i := 1))))) qs_nil)
  (qs_one (qs_ret q_int)))
theorem d__law_mixed {n : Nat} (f : Addr) (cdv : Value) (A : Around) (outer : List Env) (s : Shared) (H : Hp) (E : XK) (W : WX) (bn : Bn (cxOf (L2.CX P w) P w K mg base N__law_mixed "_law_mixed" (defScope s__law_mixed) f cdv A outer s H E) G W n) : QSs (cxOf (L2.CX P w) P w K mg base N__law_mixed "_law_mixed" (defScope s__law_mixed) f cdv A outer s H E) G W (defBody s__law_mixed) (b__law_mixed n) :=
  (qs_cons (qs_if (qt_w (qw_and (qt_cmp or_ge (q_var (i := 0)) (q_bin or_shl q_int q_int)) (qw_and (qt_cmp (or_eq bn.b) (q_bin or_mod (q_var (i := 0)) q_int) q_int) (qw_and1 (qt_cmp or_gt (q_bin or_shr (q_var (i := 0)) (q_bin (or_add bn.b) q_int (q_bin or_mul q_int (q_var (i := 1))))) q_int))))) (qs_one (qs_ret (q_bin or_mod (q_bin or_shr (q_var (i := 0)) (q_bin (or_add bn.b) q_int (q_bin or_mul q_int (q_var (i := 1))))) q_int))) qs_nil)
  (qs_cons (qs_set bn.b (i := 2) (q_bin or_mod (q_bin or_mul (q_bin (or_add bn.b) (q_bin (or_add bn.b) (q_var (i := 0)) (q_bin or_mul q_int (q_var (i := 1)))) q_int) q_int) q_int))
  (qs_cons (qs_set bn.b (i := 2) (q_bin or_mod (q_bin or_mul (q_var (i := 2)) (q_bin (or_add bn.b) (q_bin or_div (q_var (i := 2)) q_int) q_int)) q_int))
  (qs_one (qs_ret (q_bin or_mod (q_bin or_mul (q_var (i := 2)) (q_bin (or_add bn.b) (q_bin (or_add bn.b) (q_bin or_div (q_var (i := 2)) q_int) q_int) (q_var (i := 1)))) q_int))))))
theorem d__law_next {n : Nat} (F__law_mixed : Fd P w K mg base G n "_law_mixed" (m__law_mixed n)) (f : Addr) (cdv : Value) (A : Around) (outer : List Env) (s : Shared) (H : Hp) (E : XK) (W : WX) (bn : Bn (cxOf (L2.CX P w) P w K mg base N__law_next "_law_next" (defScope s__law_next) f cdv A outer s H E) G W n) : QSs (cxOf (L2.CX P w) P w K mg base N__law_next "_law_next" (defScope s__law_next) f cdv A outer s H E) G W (defBody s__law_next) (b__law_next n) :=
  (qs_cons (qs_put bn.b (q_bin (or_add bn.b) (q_ix2 bn.b (q_var (i := 0)) q_str) q_int) (q_var (i := 0)) q_str)
  (qs_one (qs_ret (q_bin or_mod (q_bin or_div (q_call bn F__law_mixed (qa_cons (q_ix2 bn.b (q_var (i := 0)) q_str) (qa_cons (q_ix2 bn.b (q_var (i := 0)) q_str) qa_nil)) (Nat.le_refl _)) q_int) (q_var (i := 1))))))
theorem d__law_program {n : Nat} (u_int : mg "int" = none) (u_range : mg "range" = none) (u_tuple : mg "tuple" = none) (F__law_next : Fd P w K mg base G n "_law_next" (m__law_next n)) (f : Addr) (cdv : Value) (A : Around) (outer : List Env) (s : Shared) (H : Hp) (E : XK) (W : WX) (bn : Bn (cxOf (L2.CX P w) P w K mg base N__law_program "_law_program" (defScope s__law_program) f cdv A outer s H E) G W n) : QSs (cxOf (L2.CX P w) P w K mg base N__law_program "_law_program" (defScope s__law_program) f cdv A outer s H E) G W (defBody s__law_program) (b__law_program n) :=
  (qs_cons (qs_set bn.b (i := 1) (q_lst (qa_cons q_str (qa_cons q_str (qa_cons q_str (qa_cons q_str (qa_cons q_str (qa_cons q_str qa_nil))))))))
  (qs_cons (qs_set bn.b (i := 2) (q_box (qa_cons (q_tup (qa_cons q_str (qa_cons q_str (qa_cons q_str (qa_cons q_str qa_nil))))) (qa_cons (q_tup (qa_cons q_str (qa_cons q_str (qa_cons q_str (qa_cons q_str qa_nil))))) (qa_cons (q_tup (qa_cons q_str (qa_cons q_str (qa_cons q_str (qa_cons q_str qa_nil))))) qa_nil)))))
  (qs_cons (qs_for bn (qi_range2 u_range q_int q_int) (qg_name bn.nd (i := 3)) (qs_cons (qs_setLc bn (i := 4) (qi_range u_range q_int) [("_law_j", 5)] (fun _ _ _ _ _ => (fun bn => (qg_name bn.nd (i := 5))) (bn_blk bn)) (fun _ _ _ _ _ bn => qts_nil) (fun _ _ _ _ _ bn => (q_ix2 bn.b (q_var (i := 2)) (q_call bn F__law_next (qa_cons (q_var (i := 0)) (qa_cons (q_var (i := 3)) qa_nil)) (Nat.le_refl _)))))
  (qs_cons (qs_set bn.b (i := 6) (q_ix bn.b (q_lst (qa_cons q_str (qa_cons q_str qa_nil))) (q_callTy ct_int u_int bo_int (q_cmp (or_in bn.b) q_str (q_lst (qa_cons (q_ix bn.b (q_ix bn.b (q_var (i := 4)) q_int) q_int) (qa_cons (q_ix bn.b (q_ix bn.b (q_var (i := 4)) q_int) q_int) qa_nil)))))))
  (qs_one (qs_expr (q_app (q_var (i := 2)) (q_tup (qa_cons (q_ix2 bn.b (q_var (i := 1)) (q_var (i := 3))) (qa_cons (q_var (i := 6)) (qa_cons q_str (qa_cons (q_tup (qa_cons q_str (qa_cons (q_ix bn.b (q_ix bn.b (q_var (i := 4)) q_int) q_int) (qa_cons (q_ix bn.b (q_ix bn.b (q_var (i := 4)) q_int) q_int) qa_nil)))) qa_nil))))) (hK := bn.K)))))))
  (qs_one (qs_ret (q_tup (qa_cons (q_callTy (ct_tuple bn.b) u_tuple bo_tuple (q_var (i := 2))) (qa_cons (q_tup (qa_cons (q_tup (qa_cons q_str (qa_cons (q_tup qa_nil) (qa_cons (q_tup qa_nil) qa_nil)))) qa_nil)) qa_nil))))))))
theorem d__law_worth {n : Nat} (u_isinstance : mg "isinstance" = none) (u_tuple : mg "tuple" = none) (F__law_worth : Fd P w K mg base G n "_law_worth" (m__law_worth n)) (F__law_next : Fd P w K mg base G n "_law_next" (m__law_next n)) (f : Addr) (cdv : Value) (A : Around) (outer : List Env) (s : Shared) (H : Hp) (E : XK) (W : WX) (bn : Bn (cxOf (L2.CX P w) P w K mg base N__law_worth "_law_worth" (defScope s__law_worth) f cdv A outer s H E) G W n) : QSs (cxOf (L2.CX P w) P w K mg base N__law_worth "_law_worth" (defScope s__law_worth) f cdv A outer s H E) G W (defBody s__law_worth) (b__law_worth n) :=
  (qs_cons (qs_if (qt_val (q_isi bn.b (n := "tuple") (by decide) u_isinstance u_tuple bo_tuple (q_ix2 bn.b (q_var (i := 1)) (q_var (i := 2))))) (qs_one (qs_ret (q_tup (qa_cons (q_var (i := 2)) (qa_cons (q_call bn F__law_worth (qa_cons (q_var (i := 0)) (qa_cons (q_var (i := 1)) (qa_cons (q_ix bn.b (q_ix2 bn.b (q_var (i := 1)) (q_var (i := 2))) q_int) qa_nil))) (Nat.le_refl _)) (qa_cons (q_call bn F__law_worth (qa_cons (q_var (i := 0)) (qa_cons (q_var (i := 1)) (qa_cons (q_ix bn.b (q_ix2 bn.b (q_var (i := 1)) (q_var (i := 2))) q_int) qa_nil))) (Nat.le_refl _)) qa_nil)))))) qs_nil)
  (qs_one (qs_ret (q_tup (qa_cons (q_var (i := 2)) (qa_cons (q_ix bn.b (q_lst (qa_cons q_int (qa_cons (q_call bn F__law_next (qa_cons (q_var (i := 0)) (qa_cons q_int qa_nil)) (Nat.le_refl _)) (qa_cons (q_bin or_pow q_int q_int) (qa_cons (q_call bn F__law_next (qa_cons (q_var (i := 0)) (qa_cons (q_bin or_pow q_int q_int) qa_nil)) (Nat.le_refl _)) qa_nil))))) (q_call bn F__law_next (qa_cons (q_var (i := 0)) (qa_cons q_int qa_nil)) (Nat.le_refl _))) qa_nil))))))
theorem d__law_pieces {n : Nat} (u_isinstance : mg "isinstance" = none) (u_tuple : mg "tuple" = none) (F__law_pieces : Fd P w K mg base G n "_law_pieces" (m__law_pieces n)) (f : Addr) (cdv : Value) (A : Around) (outer : List Env) (s : Shared) (H : Hp) (E : XK) (W : WX) (bn : Bn (cxOf (L2.CX P w) P w K mg base N__law_pieces "_law_pieces" (defScope s__law_pieces) f cdv A outer s H E) G W n) : QSs (cxOf (L2.CX P w) P w K mg base N__law_pieces "_law_pieces" (defScope s__law_pieces) f cdv A outer s H E) G W (defBody s__law_pieces) (b__law_pieces n) :=
  (qs_cons (qs_if (qt_val (q_isi bn.b (n := "tuple") (by decide) u_isinstance u_tuple bo_tuple (q_ix2 bn.b (q_var (i := 0)) (q_ix bn.b (q_var (i := 1)) q_int)))) (qs_one (qs_ret (q_binB (or_addB bn.b) (q_call bn F__law_pieces (qa_cons (q_var (i := 0)) (qa_cons (q_ix bn.b (q_var (i := 1)) q_int) qa_nil)) (Nat.le_refl _)) (q_call bn F__law_pieces (qa_cons (q_var (i := 0)) (qa_cons (q_ix bn.b (q_var (i := 1)) q_int) qa_nil)) (Nat.le_refl _))))) qs_nil)
  (qs_one (qs_ret (q_box (qa_cons (q_var (i := 1)) qa_nil)))))
theorem d__law_spoilt {n : Nat} (u_len : mg "len" = none) (u_list : mg "list" = none) (F__law_next : Fd P w K mg base G n "_law_next" (m__law_next n)) (F__law_spoilt : Fd P w K mg base G n "_law_spoilt" (m__law_spoilt n)) (f : Addr) (cdv : Value) (A : Around) (outer : List Env) (s : Shared) (H : Hp) (E : XK) (W : WX) (bn : Bn (cxOf (L2.CX P w) P w K mg base N__law_spoilt "_law_spoilt" (defScope s__law_spoilt) f cdv A outer s H E) G W n) : QSs (cxOf (L2.CX P w) P w K mg base N__law_spoilt "_law_spoilt" (defScope s__law_spoilt) f cdv A outer s H E) G W (defBody s__law_spoilt) (b__law_spoilt n) :=
  (qs_cons (qs_if (qt_w (qw_and (qt_cmp (or_eq bn.b) (q_callB (cr_len bn.b) u_len bo_len (q_var (i := 1))) q_int) (qw_and1 (qt_cmp or_gt (q_call bn F__law_next (qa_cons (q_var (i := 0)) (qa_cons q_int qa_nil)) (Nat.le_refl _)) q_int)))) (qs_cons (qs_set bn.b (i := 2) (q_bin (or_add bn.b) q_int (q_call bn F__law_next (qa_cons (q_var (i := 0)) (qa_cons q_int qa_nil)) (Nat.le_refl _))))
  (qs_one (qs_ret (q_bin (or_add bn.b) (q_bin (or_add bn.b) (q_sl bn.b (q_var (i := 1)) qp_none (qp_some (q_var (i := 2)))) (q_tup (qa_cons (q_call bn F__law_spoilt (qa_cons (q_var (i := 0)) (qa_cons (q_ix2 bn.b (q_var (i := 1)) (q_var (i := 2))) qa_nil)) (Nat.le_refl _)) qa_nil))) (q_sl bn.b (q_var (i := 1)) (qp_some (q_bin (or_add bn.b) (q_var (i := 2)) q_int)) qp_none))))) qs_nil)
  (qs_cons (qs_set bn.b (i := 3) (q_lst (qa_cons (q_callTy (ct_list bn.b) u_list bo_list (q_var (i := 1))) (qa_cons (q_sl bn.b (q_var (i := 1)) qp_none (qp_some (q_neg q_int))) (qa_cons (q_bin (or_add bn.b) (q_var (i := 1)) (q_tup (qa_cons q_int qa_nil))) (qa_cons (q_bin (or_add bn.b) (q_tup (qa_cons q_str qa_nil)) (q_sl bn.b (q_var (i := 1)) (qp_some q_int) qp_none)) (qa_cons (q_bin (or_add bn.b) (q_tup (qa_cons q_str qa_nil)) (q_sl bn.b (q_var (i := 1)) (qp_some q_int) qp_none)) (qa_cons q_non (qa_cons (q_tup qa_nil) (qa_cons (q_ix bn.b (q_var (i := 1)) q_int) qa_nil))))))))))
  (qs_cons (qs_set bn.b (i := 3) (q_bin (or_add bn.b) (q_var (i := 3)) (q_lc bn (qi_seq bn.b (q_tup (qa_cons (q_neg q_int) (qa_cons (q_bin or_pow q_int q_int) (qa_cons q_bl (qa_cons q_non (qa_cons q_str (qa_cons (q_tup qa_nil) (qa_cons (q_var (i := 1)) qa_nil))))))))) [("_law_odd", 4)] (fun _ _ _ _ _ => (fun bn => (qg_name bn.nd (i := 4))) (bn_blk bn)) (fun _ _ _ _ _ bn => qts_nil) (fun _ _ _ _ _ bn => (q_bin (or_add bn.b) (q_bin (or_add bn.b) (q_sl bn.b (q_var (i := 1)) qp_none (qp_some q_int)) (q_tup (qa_cons (q_var (i := 4)) qa_nil))) (q_sl bn.b (q_var (i := 1)) (qp_some q_int) qp_none))))))
  (qs_one (qs_ret (q_ix2 bn.b (q_var (i := 3)) (q_call bn F__law_next (qa_cons (q_var (i := 0)) (qa_cons q_int qa_nil)) (Nat.le_refl _))))))))
theorem d__law_is_worth {n : Nat} (u_bool : mg "bool" = none) (u_int : mg "int" = none) (u_isinstance : mg "isinstance" = none) (u_len : mg "len" = none) (u_tuple : mg "tuple" = none) (F__law_is_worth : Fd P w K mg base G n "_law_is_worth" (m__law_is_worth n)) (f : Addr) (cdv : Value) (A : Around) (outer : List Env) (s : Shared) (H : Hp) (E : XK) (W : WX) (bn : Bn (cxOf (L2.CX P w) P w K mg base N__law_is_worth "_law_is_worth" (defScope s__law_is_worth) f cdv A outer s H E) G W n) : QSs (cxOf (L2.CX P w) P w K mg base N__law_is_worth "_law_is_worth" (defScope s__law_is_worth) f cdv A outer s H E) G W (defBody s__law_is_worth) (b__law_is_worth n) :=
  (qs_cons (qs_if (qt_w (qw_or (qt_not (qt_val (q_isi bn.b (n := "tuple") (by decide) u_isinstance u_tuple bo_tuple (q_var (i := 2))))) (qw_or1 (qt_cmp (or_ne bn.b) (q_sl bn.b (q_var (i := 2)) qp_none (qp_some q_int)) (q_tup (qa_cons (q_var (i := 1)) qa_nil)))))) (qs_one (qs_ret q_bl)) qs_nil)
  (qs_cons (qs_if (qt_val (q_isi bn.b (n := "tuple") (by decide) u_isinstance u_tuple bo_tuple (q_ix2 bn.b (q_var (i := 0)) (q_var (i := 1))))) (qs_cons (qs_if (qt_w (qw_or (qt_cmp (or_ne bn.b) (q_callB (cr_len bn.b) u_len bo_len (q_var (i := 2))) q_int) (qw_or1 (qt_not (qt_val (q_call bn F__law_is_worth (qa_cons (q_var (i := 0)) (qa_cons (q_ix bn.b (q_ix2 bn.b (q_var (i := 0)) (q_var (i := 1))) q_int) (qa_cons (q_ix bn.b (q_var (i := 2)) q_int) qa_nil))) (Nat.le_refl _))))))) (qs_one (qs_ret q_bl)) qs_nil)
  (qs_one (qs_ret (q_call bn F__law_is_worth (qa_cons (q_var (i := 0)) (qa_cons (q_ix bn.b (q_ix2 bn.b (q_var (i := 0)) (q_var (i := 1))) q_int) (qa_cons (q_ix bn.b (q_var (i := 2)) q_int) qa_nil))) (Nat.le_refl _))))) qs_nil)
  (qs_cons (qs_if (qt_w (qw_or (qt_cmp (or_ne bn.b) (q_callB (cr_len bn.b) u_len bo_len (q_var (i := 2))) q_int) (qw_or (qt_not (qt_val (q_isi bn.b (n := "int") (by decide) u_isinstance u_int bo_int (q_ix bn.b (q_var (i := 2)) q_int)))) (qw_or1 (qt_val (q_isi bn.b (n := "bool") (by decide) u_isinstance u_bool bo_bool (q_ix bn.b (q_var (i := 2)) q_int))))))) (qs_one (qs_ret q_bl)) qs_nil)
  (qs_one (qs_ret (q_cmp or_ge (q_ix bn.b (q_var (i := 2)) q_int) q_int))))))
theorem d_Kinds_is_parts {n : Nat} (t_known_Kinds : FldC K G [0] "known") (f : Addr) (cdv : Value) (A : Around) (outer : List Env) (s : Shared) (H : Hp) (E : XK) (W : WX) (bn : Bn (cxOf (L2.CX P w) P w K mg base N_Kinds_is_parts "Kinds.is_parts" (defScope s_Kinds_is_parts) f cdv A outer s H E) G W n) : QSs (cxOf (L2.CX P w) P w K mg base N_Kinds_is_parts "Kinds.is_parts" (defScope s_Kinds_is_parts) f cdv A outer s H E) G W (defBody s_Kinds_is_parts) (b_Kinds_is_parts n) :=
  (qs_one (qs_ret (q_and (q_in2 bn.b (q_var (i := 1)) (q_fld bn.b t_known_Kinds (q_var (i := 0)))) (q_one (q_cmp (or_eq bn.b) (q_ix bn.b (q_ix2 bn.b (q_fld bn.b t_known_Kinds (q_var (i := 0))) (q_var (i := 1))) q_int) q_str)))))
theorem d_Kinds_is_whole {n : Nat} (t_known_Kinds : FldC K G [0] "known") (f : Addr) (cdv : Value) (A : Around) (outer : List Env) (s : Shared) (H : Hp) (E : XK) (W : WX) (bn : Bn (cxOf (L2.CX P w) P w K mg base N_Kinds_is_whole "Kinds.is_whole" (defScope s_Kinds_is_whole) f cdv A outer s H E) G W n) : QSs (cxOf (L2.CX P w) P w K mg base N_Kinds_is_whole "Kinds.is_whole" (defScope s_Kinds_is_whole) f cdv A outer s H E) G W (defBody s_Kinds_is_whole) (b_Kinds_is_whole n) :=
  (qs_one (qs_ret (q_and (q_in2 bn.b (q_var (i := 1)) (q_fld bn.b t_known_Kinds (q_var (i := 0)))) (q_one (q_cmp (or_eq bn.b) (q_ix bn.b (q_ix2 bn.b (q_fld bn.b t_known_Kinds (q_var (i := 0))) (q_var (i := 1))) q_int) q_str)))))
theorem d_Kinds_is_box {n : Nat} (M_Kinds_is_parts : Md P w K mg base G n 0 "is_parts" (m_Kinds_is_parts n)) (M_Kinds_is_whole : Md P w K mg base G n 0 "is_whole" (m_Kinds_is_whole n)) (f : Addr) (cdv : Value) (A : Around) (outer : List Env) (s : Shared) (H : Hp) (E : XK) (W : WX) (bn : Bn (cxOf (L2.CX P w) P w K mg base N_Kinds_is_box "Kinds.is_box" (defScope s_Kinds_is_box) f cdv A outer s H E) G W n) : QSs (cxOf (L2.CX P w) P w K mg base N_Kinds_is_box "Kinds.is_box" (defScope s_Kinds_is_box) f cdv A outer s H E) G W (defBody s_Kinds_is_box) (b_Kinds_is_box n) :=
  (qs_one (qs_ret (q_and (q_not (q_meth bn M_Kinds_is_parts (q_var (i := 0)) (qa_cons (q_var (i := 1)) qa_nil))) (q_one (q_not (q_meth bn M_Kinds_is_whole (q_var (i := 0)) (qa_cons (q_var (i := 1)) qa_nil)))))))
theorem d_Kinds_pieces {n : Nat} (M_Kinds_is_box : Md P w K mg base G n 0 "is_box" (m_Kinds_is_box n)) (M_Kinds_pieces : Md P w K mg base G n 0 "pieces" (m_Kinds_pieces n)) (f : Addr) (cdv : Value) (A : Around) (outer : List Env) (s : Shared) (H : Hp) (E : XK) (W : WX) (bn : Bn (cxOf (L2.CX P w) P w K mg base N_Kinds_pieces "Kinds.pieces" (defScope s_Kinds_pieces) f cdv A outer s H E) G W n) : QSs (cxOf (L2.CX P w) P w K mg base N_Kinds_pieces "Kinds.pieces" (defScope s_Kinds_pieces) f cdv A outer s H E) G W (defBody s_Kinds_pieces) (b_Kinds_pieces n) :=
  (qs_cons (qs_if (qt_val (q_meth bn M_Kinds_is_box (q_var (i := 0)) (qa_cons (q_ix bn.b (q_var (i := 1)) q_int) qa_nil))) (qs_one (qs_ret (q_binB (or_addB bn.b) (q_meth bn M_Kinds_pieces (q_var (i := 0)) (qa_cons (q_ix bn.b (q_var (i := 1)) q_int) qa_nil)) (q_meth bn M_Kinds_pieces (q_var (i := 0)) (qa_cons (q_ix bn.b (q_var (i := 1)) q_int) qa_nil))))) qs_nil)
  (qs_one (qs_ret (q_box (qa_cons (q_tup (qa_cons (q_ix bn.b (q_var (i := 1)) q_int) (qa_cons (q_ix bn.b (q_var (i := 1)) q_int) qa_nil))) qa_nil)))))
theorem d_is_count {n : Nat} (u_bool : mg "bool" = none) (u_int : mg "int" = none) (u_isinstance : mg "isinstance" = none) (f : Addr) (cdv : Value) (A : Around) (outer : List Env) (s : Shared) (H : Hp) (E : XK) (W : WX) (bn : Bn (cxOf (L2.CX P w) P w K mg base N_is_count "is_count" (defScope s_is_count) f cdv A outer s H E) G W n) : QSs (cxOf (L2.CX P w) P w K mg base N_is_count "is_count" (defScope s_is_count) f cdv A outer s H E) G W (defBody s_is_count) (b_is_count n) :=
  (qs_one (qs_ret (q_and (q_isi bn.b (n := "int") (by decide) u_isinstance u_int bo_int (q_var (i := 0))) (q_and (q_not (q_isi bn.b (n := "bool") (by decide) u_isinstance u_bool bo_bool (q_var (i := 0)))) (q_one (q_cmp or_ge (q_var (i := 0)) q_int))))))
theorem d_Kinds_rule {n : Nat} (t_known_Kinds : FldC K G [0] "known") (f : Addr) (cdv : Value) (A : Around) (outer : List Env) (s : Shared) (H : Hp) (E : XK) (W : WX) (bn : Bn (cxOf (L2.CX P w) P w K mg base N_Kinds_rule "Kinds.rule" (defScope s_Kinds_rule) f cdv A outer s H E) G W n) : QSs (cxOf (L2.CX P w) P w K mg base N_Kinds_rule "Kinds.rule" (defScope s_Kinds_rule) f cdv A outer s H E) G W (defBody s_Kinds_rule) (b_Kinds_rule n) :=
  (qs_one (qs_ret (q_ix bn.b (q_ix2 bn.b (q_fld bn.b t_known_Kinds (q_var (i := 0))) (q_var (i := 1))) q_int)))
theorem d_Kinds_is_worth {n : Nat} (u_all : mg "all" = none) (u_isinstance : mg "isinstance" = none) (u_len : mg "len" = none) (u_range : mg "range" = none) (u_tuple : mg "tuple" = none) (F_is_count : Fd P w K mg base G n "is_count" (m_is_count n)) (M_Kinds_is_box : Md P w K mg base G n 0 "is_box" (m_Kinds_is_box n)) (M_Kinds_rule : Md P w K mg base G n 0 "rule" (m_Kinds_rule n)) (M_Kinds_is_worth : Md P w K mg base G n 0 "is_worth" (m_Kinds_is_worth n)) (f : Addr) (cdv : Value) (A : Around) (outer : List Env) (s : Shared) (H : Hp) (E : XK) (W : WX) (bn : Bn (cxOf (L2.CX P w) P w K mg base N_Kinds_is_worth "Kinds.is_worth" (defScope s_Kinds_is_worth) f cdv A outer s H E) G W n) : QSs (cxOf (L2.CX P w) P w K mg base N_Kinds_is_worth "Kinds.is_worth" (defScope s_Kinds_is_worth) f cdv A outer s H E) G W (defBody s_Kinds_is_worth) (b_Kinds_is_worth n) :=
  (qs_cons (qs_if (qt_w (qw_or (qt_not (qt_val (q_isi bn.b (n := "tuple") (by decide) u_isinstance u_tuple bo_tuple (q_var (i := 2))))) (qw_or (qt_cmp (or_eq bn.b) (q_callB (cr_len bn.b) u_len bo_len (q_var (i := 2))) q_int) (qw_or1 (qt_cmp (or_ne bn.b) (q_ix bn.b (q_var (i := 2)) q_int) (q_var (i := 1))))))) (qs_one (qs_ret q_bl)) qs_nil)
  (qs_cons (qs_if (qt_val (q_meth bn M_Kinds_is_box (q_var (i := 0)) (qa_cons (q_var (i := 1)) qa_nil))) (qs_cons (qs_set bn.b (i := 3) (q_sl bn.b (q_meth bn M_Kinds_rule (q_var (i := 0)) (qa_cons (q_var (i := 1)) qa_nil)) (qp_some q_int) qp_none))
  (qs_one (qs_ret (q_and (q_cmp (or_eq bn.b) (q_callB (cr_len bn.b) u_len bo_len (q_var (i := 2))) q_int) (q_one (q_callB (cr_allD bn) u_all bo_all (q_lc bn (qi_range u_range q_int) [("k", 4)] (fun _ _ _ _ _ => (fun bn => (qg_name bn.nd (i := 4))) (bn_blk bn)) (fun _ _ _ _ _ bn => qts_nil) (fun _ _ _ _ _ bn => (q_meth bn M_Kinds_is_worth (q_var (i := 0)) (qa_cons (q_ix2 bn.b (q_var (i := 3)) (q_var (i := 4))) (qa_cons (q_ix2 bn.b (q_var (i := 2)) (q_bin (or_add bn.b) q_int (q_var (i := 4)))) qa_nil))))))))))) qs_nil)
  (qs_one (qs_ret (q_and (q_cmp (or_eq bn.b) (q_callB (cr_len bn.b) u_len bo_len (q_var (i := 2))) q_int) (q_one (q_call bn F_is_count (qa_cons (q_ix bn.b (q_var (i := 2)) q_int) qa_nil) (Nat.le_refl _))))))))
theorem d_Kinds___init__ {n : Nat} (t_known_Kinds : FldC K G [0] "known") (f : Addr) (cdv : Value) (A : Around) (outer : List Env) (s : Shared) (H : Hp) (E : XK) (W : WX) (bn : Bn (cxOf (L2.CX P w) P w K mg base N_Kinds___init__ "Kinds.__init__" (defScope s_Kinds___init__) f cdv A outer s H E) G W n) : QSs (cxOf (L2.CX P w) P w K mg base N_Kinds___init__ "Kinds.__init__" (defScope s_Kinds___init__) f cdv A outer s H E) G W (defBody s_Kinds___init__) (b_Kinds___init__ n) :=
  (qs_cons (qs_fld bn.b t_known_Kinds (q_dic0) (q_var (i := 0)))
  (qs_one (qs_for bn (qi_seq bn.b (q_ix bn.b (q_var (i := 1)) q_int)) (qg_name bn.nd (i := 2)) (qs_one (qs_put bn.b (q_var (i := 2)) (q_fld bn.b t_known_Kinds (q_var (i := 0))) (q_ix bn.b (q_var (i := 2)) q_int))))))
theorem d_law {n : Nat} (u_all : mg "all" = none) (u_bool : mg "bool" = none) (u_dict : mg "dict" = none) (u_isinstance : mg "isinstance" = none) (u_list : mg "list" = none) (u_tuple : mg "tuple" = none) (F__law_cell_at : Fd P w K mg base G n "_law_cell_at" (m__law_cell_at n)) (F__law_program : Fd P w K mg base G n "_law_program" (m__law_program n)) (F__law_worth : Fd P w K mg base G n "_law_worth" (m__law_worth n)) (F__law_pieces : Fd P w K mg base G n "_law_pieces" (m__law_pieces n)) (F__law_spoilt : Fd P w K mg base G n "_law_spoilt" (m__law_spoilt n)) (F__law_is_worth : Fd P w K mg base G n "_law_is_worth" (m__law_is_worth n)) (M_Kinds_pieces : Md P w K mg base G n 0 "pieces" (m_Kinds_pieces n)) (M_Kinds_is_worth : Md P w K mg base G n 0 "is_worth" (m_Kinds_is_worth n)) (Z_Kinds : ∀ j, Mz P w K mg base G j 0 "Kinds" (m_Kinds___init__ j)) (f : Addr) (cdv : Value) (A : Around) (outer : List Env) (s : Shared) (H : Hp) (E : XK) (W : WX) (bn : Bn (cxOf (L2.CX P w) P w K mg base N_law "law" (defScope s_law) f cdv A outer s H E) G W n) : QSs (cxOf (L2.CX P w) P w K mg base N_law "law" (defScope s_law) f cdv A outer s H E) G W (defBody s_law) (b_law n) :=
  (qs_cons (qs_for bn (qi_seq bn.b (q_bin (or_add bn.b) (q_lst (qa_cons (q_call bn F__law_cell_at (qa_cons (q_var (i := 0)) (qa_cons q_int qa_nil)) (Nat.le_refl _)) qa_nil)) (q_sl bn.b (q_var (i := 0)) (qp_some q_int) (qp_some q_int)))) (qg_name bn.nd (i := 1)) (qs_cons (qs_set bn.b (i := 2) (q_dic (qps_str (q_var (i := 1)) (qps_str q_int qps_nil))))
  (qs_cons (qs_set bn.b (i := 3) (q_call bn F__law_program (qa_cons (q_var (i := 2)) qa_nil) (Nat.le_refl _)))
  (qs_cons (qs_set bn.b (i := 4) (q_frz (q_callTyB (ct_dict bn.b bn.calm) u_dict bo_dict (q_lc bn (qi_seq bn.b (q_ix bn.b (q_var (i := 3)) q_int)) [("_law_kind", 5)] (fun _ _ _ _ _ => (fun bn => (qg_name bn.nd (i := 5))) (bn_blk bn)) (fun _ _ _ _ _ bn => qts_nil) (fun _ _ _ _ _ bn => (q_tup (qa_cons (q_ix bn.b (q_var (i := 5)) q_int) (qa_cons (q_ix bn.b (q_var (i := 5)) q_int) qa_nil))))))))
  (qs_cons (qs_set bn.b (i := 6) (q_make bn Z_Kinds (qa_cons (q_var (i := 3)) qa_nil)))
  (qs_one (qs_forK bn (i := 4) (qg_name bn.nd (i := 5)) (qs_cons (qs_set bn.b (i := 7) (q_call bn F__law_worth (qa_cons (q_var (i := 2)) (qa_cons (q_var (i := 4)) (qa_cons (q_var (i := 5)) qa_nil))) (Nat.le_refl _)))
  (qs_cons (qs_set bn.b (i := 8) (q_meth bn M_Kinds_pieces (q_var (i := 6)) (qa_cons (q_var (i := 7)) qa_nil)))
  (qs_cons (qs_if (qt_w (qw_or (qt_cmp or_isnot (q_meth bn M_Kinds_is_worth (q_var (i := 6)) (qa_cons (q_var (i := 5)) (qa_cons (q_var (i := 7)) qa_nil))) q_bl) (qw_or1 (qt_not (qt_val (q_isi bn.b (n := "list") (by decide) u_isinstance u_list bo_list (q_var (i := 8)))))))) (qs_one (qs_ret q_bl)) qs_nil)
  (qs_cons (qs_if (qt_w (qw_or (qt_cmp (or_ne bn.b) (q_var (i := 8)) (q_call bn F__law_pieces (qa_cons (q_var (i := 4)) (qa_cons (q_var (i := 7)) qa_nil)) (Nat.le_refl _))) (qw_or1 (qt_not (qt_val (q_callB (cr_allD bn) u_all bo_all (q_lcX bn (q_var (i := 8)) [("_law_one", 9)] (fun _ _ _ _ _ => (fun bn => (qg_name bn.nd (i := 9))) (bn_blk bn)) (fun _ _ _ _ _ bn => qts_nil) (fun _ _ _ _ _ bn => (q_isi bn.b (n := "tuple") (by decide) u_isinstance u_tuple bo_tuple (q_var (i := 9))))))))))) (qs_one (qs_ret q_bl)) qs_nil)
  (qs_cons (qs_expr (q_clr (q_var (i := 8))))
  (qs_cons (qs_set bn.b (i := 10) (q_call bn F__law_spoilt (qa_cons (q_var (i := 2)) (qa_cons (q_var (i := 7)) qa_nil)) (Nat.le_refl _)))
  (qs_cons (qs_forK bn (i := 4) (qg_name bn.nd (i := 11)) (qs_cons (qs_set bn.b (i := 12) (q_meth bn M_Kinds_is_worth (q_var (i := 6)) (qa_cons (q_var (i := 11)) (qa_cons (q_var (i := 10)) qa_nil))))
  (qs_one (qs_if (qt_w (qw_or (qt_not (qt_val (q_isi bn.b (n := "bool") (by decide) u_isinstance u_bool bo_bool (q_var (i := 12))))) (qw_or1 (qt_cmp (or_ne bn.b) (q_var (i := 12)) (q_call bn F__law_is_worth (qa_cons (q_var (i := 4)) (qa_cons (q_var (i := 11)) (qa_cons (q_var (i := 10)) qa_nil))) (Nat.le_refl _)))))) (qs_one (qs_ret q_bl)) qs_nil))))
  (qs_one (qs_if (qt_cmp (or_ne bn.b) (q_meth bn M_Kinds_pieces (q_var (i := 6)) (qa_cons (q_var (i := 7)) qa_nil)) (q_call bn F__law_pieces (qa_cons (q_var (i := 4)) (qa_cons (q_var (i := 7)) qa_nil)) (Nat.le_refl _))) (qs_one (qs_ret q_bl)) qs_nil))))))))))))))))
  (qs_one (qs_ret q_bl)))
structure Hd (K : PySem.W.Frag) (w : World) (G : Gn) (mg : Str → Option Value) : Prop where
  u_all : mg "all" = none
  u_bool : mg "bool" = none
  u_dict : mg "dict" = none
  u_int : mg "int" = none
  u_isinstance : mg "isinstance" = none
  u_len : mg "len" = none
  u_list : mg "list" = none
  u_range : mg "range" = none
  u_tuple : mg "tuple" = none
  t_known_Kinds : FldC K G [0] "known"
  f__law_cell_at : FDf K mg "_law_cell_at" s__law_cell_at
  f__law_mixed : FDf K mg "_law_mixed" s__law_mixed
  f__law_next : FDf K mg "_law_next" s__law_next
  f__law_program : FDf K mg "_law_program" s__law_program
  f__law_worth : FDf K mg "_law_worth" s__law_worth
  f__law_pieces : FDf K mg "_law_pieces" s__law_pieces
  f__law_spoilt : FDf K mg "_law_spoilt" s__law_spoilt
  f__law_is_worth : FDf K mg "_law_is_worth" s__law_is_worth
  f_Kinds_is_parts : MDf K G 0 "is_parts" "Kinds.is_parts" s_Kinds_is_parts
  f_Kinds_is_whole : MDf K G 0 "is_whole" "Kinds.is_whole" s_Kinds_is_whole
  f_Kinds_is_box : MDf K G 0 "is_box" "Kinds.is_box" s_Kinds_is_box
  f_Kinds_pieces : MDf K G 0 "pieces" "Kinds.pieces" s_Kinds_pieces
  f_is_count : FDf K mg "is_count" s_is_count
  f_Kinds_rule : MDf K G 0 "rule" "Kinds.rule" s_Kinds_rule
  f_Kinds_is_worth : MDf K G 0 "is_worth" "Kinds.is_worth" s_Kinds_is_worth
  f_Kinds___init__ : ZDf K mg G 0 "Kinds" "Kinds.__init__" s_Kinds___init__
  f_law : FDf K mg "law" s_law
theorem ok__law_cell_at (hd : Hd K w G mg) (hK : G.K = K) (hw : G.w = w) : ∀ n, Fd P w K mg base G n "_law_cell_at" (m__law_cell_at n)
  | 0 => Fd.zero hd.f__law_cell_at (fun _ _ _ _ _ _ us hl => match us, hl with | [_, _], _ => rfl) (ps := P__law_cell_at)
  | n + 1 => Fd.succ hd.f__law_cell_at sc__law_cell_at hK hw false (fun _ _ _ _ _ _ us hl => match us, hl with | [_, _], _ => rfl) (fun fi => d__law_cell_at (G := G.wi fi) hd.u_len)
theorem ok__law_mixed (hd : Hd K w G mg) (hK : G.K = K) (hw : G.w = w) : ∀ n, Fd P w K mg base G n "_law_mixed" (m__law_mixed n)
  | 0 => Fd.zero hd.f__law_mixed (fun _ _ _ _ _ _ us hl => match us, hl with | [_, _], _ => rfl) (ps := P__law_mixed)
  | n + 1 => Fd.succ hd.f__law_mixed sc__law_mixed hK hw false (fun _ _ _ _ _ _ us hl => match us, hl with | [_, _], _ => rfl) (fun fi => d__law_mixed (G := G.wi fi))
theorem ok__law_next (hd : Hd K w G mg) (hK : G.K = K) (hw : G.w = w) : ∀ n, Fd P w K mg base G n "_law_next" (m__law_next n)
  | 0 => Fd.zero hd.f__law_next (fun _ _ _ _ _ _ us hl => match us, hl with | [_, _], _ => rfl) (ps := P__law_next)
  | n + 1 => Fd.succ hd.f__law_next sc__law_next hK hw false (fun _ _ _ _ _ _ us hl => match us, hl with | [_, _], _ => rfl) (fun fi => d__law_next (G := G.wi fi) ((ok__law_mixed hd hK hw n).wi fi))
theorem ok__law_program (hd : Hd K w G mg) (hK : G.K = K) (hw : G.w = w) : ∀ n, Fd P w K mg base G n "_law_program" (m__law_program n)
  | 0 => Fd.zero hd.f__law_program (fun _ _ _ _ _ _ us hl => match us, hl with | [_], _ => rfl) (ps := P__law_program)
  | n + 1 => Fd.succ hd.f__law_program sc__law_program hK hw false (fun _ _ _ _ _ _ us hl => match us, hl with | [_], _ => rfl) (fun fi => d__law_program (G := G.wi fi) hd.u_int hd.u_range hd.u_tuple ((ok__law_next hd hK hw n).wi fi))
theorem okk__law_worth (hd : Hd K w G mg) (hK : G.K = K) (hw : G.w = w) : ∀ n, Fd P w K mg base G n "_law_worth" (m__law_worth n)
  | 0 => Fd.zero hd.f__law_worth (fun _ _ _ _ _ _ us hl => match us, hl with | [_, _, _], _ => rfl) (ps := P__law_worth)
  | n + 1 => by
    have r__law_worth := okk__law_worth hd hK hw n
    exact Fd.succ hd.f__law_worth sc__law_worth hK hw false (fun _ _ _ _ _ _ us hl => match us, hl with | [_, _, _], _ => rfl) (fun fi => d__law_worth (G := G.wi fi) hd.u_isinstance hd.u_tuple (r__law_worth.wi fi) ((ok__law_next hd hK hw n).wi fi))
theorem ok__law_worth (hd : Hd K w G mg) (hK : G.K = K) (hw : G.w = w) (n : Nat) : Fd P w K mg base G n "_law_worth" (m__law_worth n) := (okk__law_worth hd hK hw n)
theorem okk__law_pieces (hd : Hd K w G mg) (hK : G.K = K) (hw : G.w = w) : ∀ n, Fd P w K mg base G n "_law_pieces" (m__law_pieces n)
  | 0 => Fd.zero hd.f__law_pieces (fun _ _ _ _ _ _ us hl => match us, hl with | [_, _], _ => rfl) (ps := P__law_pieces)
  | n + 1 => by
    have r__law_pieces := okk__law_pieces hd hK hw n
    exact Fd.succ hd.f__law_pieces sc__law_pieces hK hw true (fun _ _ _ _ _ _ us hl => match us, hl with | [_, _], _ => rfl) (fun fi => d__law_pieces (G := G.wi fi) hd.u_isinstance hd.u_tuple (r__law_pieces.wi fi))
theorem ok__law_pieces (hd : Hd K w G mg) (hK : G.K = K) (hw : G.w = w) (n : Nat) : Fd P w K mg base G n "_law_pieces" (m__law_pieces n) := (okk__law_pieces hd hK hw n)
theorem okk__law_spoilt (hd : Hd K w G mg) (hK : G.K = K) (hw : G.w = w) : ∀ n, Fd P w K mg base G n "_law_spoilt" (m__law_spoilt n)
  | 0 => Fd.zero hd.f__law_spoilt (fun _ _ _ _ _ _ us hl => match us, hl with | [_, _], _ => rfl) (ps := P__law_spoilt)
  | n + 1 => by
    have r__law_spoilt := okk__law_spoilt hd hK hw n
    exact Fd.succ hd.f__law_spoilt sc__law_spoilt hK hw false (fun _ _ _ _ _ _ us hl => match us, hl with | [_, _], _ => rfl) (fun fi => d__law_spoilt (G := G.wi fi) hd.u_len hd.u_list ((ok__law_next hd hK hw n).wi fi) (r__law_spoilt.wi fi))
theorem ok__law_spoilt (hd : Hd K w G mg) (hK : G.K = K) (hw : G.w = w) (n : Nat) : Fd P w K mg base G n "_law_spoilt" (m__law_spoilt n) := (okk__law_spoilt hd hK hw n)
theorem okk__law_is_worth (hd : Hd K w G mg) (hK : G.K = K) (hw : G.w = w) : ∀ n, Fd P w K mg base G n "_law_is_worth" (m__law_is_worth n)
  | 0 => Fd.zero hd.f__law_is_worth (fun _ _ _ _ _ _ us hl => match us, hl with | [_, _, _], _ => rfl) (ps := P__law_is_worth)
  | n + 1 => by
    have r__law_is_worth := okk__law_is_worth hd hK hw n
    exact Fd.succ hd.f__law_is_worth sc__law_is_worth hK hw false (fun _ _ _ _ _ _ us hl => match us, hl with | [_, _, _], _ => rfl) (fun fi => d__law_is_worth (G := G.wi fi) hd.u_bool hd.u_int hd.u_isinstance hd.u_len hd.u_tuple (r__law_is_worth.wi fi))
theorem ok__law_is_worth (hd : Hd K w G mg) (hK : G.K = K) (hw : G.w = w) (n : Nat) : Fd P w K mg base G n "_law_is_worth" (m__law_is_worth n) := (okk__law_is_worth hd hK hw n)
theorem ok_Kinds_is_parts (hd : Hd K w G mg) (hK : G.K = K) (hw : G.w = w) : ∀ n, Md P w K mg base G n 0 "is_parts" (m_Kinds_is_parts n)
  | 0 => Md.zero hd.f_Kinds_is_parts (fun _ _ _ _ _ _ us hl => match us, hl with | [_, _], _ => rfl) (ps := P_Kinds_is_parts)
  | n + 1 => Md.succ hd.f_Kinds_is_parts sc_Kinds_is_parts hK hw false (fun _ _ _ _ _ _ us hl => match us, hl with | [_, _], _ => rfl) (fun fi => d_Kinds_is_parts (G := G.wi fi) (hd.t_known_Kinds.wi fi))
theorem ok_Kinds_is_whole (hd : Hd K w G mg) (hK : G.K = K) (hw : G.w = w) : ∀ n, Md P w K mg base G n 0 "is_whole" (m_Kinds_is_whole n)
  | 0 => Md.zero hd.f_Kinds_is_whole (fun _ _ _ _ _ _ us hl => match us, hl with | [_, _], _ => rfl) (ps := P_Kinds_is_whole)
  | n + 1 => Md.succ hd.f_Kinds_is_whole sc_Kinds_is_whole hK hw false (fun _ _ _ _ _ _ us hl => match us, hl with | [_, _], _ => rfl) (fun fi => d_Kinds_is_whole (G := G.wi fi) (hd.t_known_Kinds.wi fi))
theorem ok_Kinds_is_box (hd : Hd K w G mg) (hK : G.K = K) (hw : G.w = w) : ∀ n, Md P w K mg base G n 0 "is_box" (m_Kinds_is_box n)
  | 0 => Md.zero hd.f_Kinds_is_box (fun _ _ _ _ _ _ us hl => match us, hl with | [_, _], _ => rfl) (ps := P_Kinds_is_box)
  | n + 1 => Md.succ hd.f_Kinds_is_box sc_Kinds_is_box hK hw false (fun _ _ _ _ _ _ us hl => match us, hl with | [_, _], _ => rfl) (fun fi => d_Kinds_is_box (G := G.wi fi) ((ok_Kinds_is_parts hd hK hw n).wi fi) ((ok_Kinds_is_whole hd hK hw n).wi fi))
theorem okk_Kinds_pieces (hd : Hd K w G mg) (hK : G.K = K) (hw : G.w = w) : ∀ n, Md P w K mg base G n 0 "pieces" (m_Kinds_pieces n)
  | 0 => Md.zero hd.f_Kinds_pieces (fun _ _ _ _ _ _ us hl => match us, hl with | [_, _], _ => rfl) (ps := P_Kinds_pieces)
  | n + 1 => by
    have r_Kinds_pieces := okk_Kinds_pieces hd hK hw n
    exact Md.succ hd.f_Kinds_pieces sc_Kinds_pieces hK hw true (fun _ _ _ _ _ _ us hl => match us, hl with | [_, _], _ => rfl) (fun fi => d_Kinds_pieces (G := G.wi fi) ((ok_Kinds_is_box hd hK hw n).wi fi) (r_Kinds_pieces.wi fi))
theorem ok_Kinds_pieces (hd : Hd K w G mg) (hK : G.K = K) (hw : G.w = w) (n : Nat) : Md P w K mg base G n 0 "pieces" (m_Kinds_pieces n) := (okk_Kinds_pieces hd hK hw n)
theorem ok_is_count (hd : Hd K w G mg) (hK : G.K = K) (hw : G.w = w) : ∀ n, Fd P w K mg base G n "is_count" (m_is_count n)
  | 0 => Fd.zero hd.f_is_count (fun _ _ _ _ _ _ us hl => match us, hl with | [_], _ => rfl) (ps := P_is_count)
  | n + 1 => Fd.succ hd.f_is_count sc_is_count hK hw false (fun _ _ _ _ _ _ us hl => match us, hl with | [_], _ => rfl) (fun fi => d_is_count (G := G.wi fi) hd.u_bool hd.u_int hd.u_isinstance)
theorem ok_Kinds_rule (hd : Hd K w G mg) (hK : G.K = K) (hw : G.w = w) : ∀ n, Md P w K mg base G n 0 "rule" (m_Kinds_rule n)
  | 0 => Md.zero hd.f_Kinds_rule (fun _ _ _ _ _ _ us hl => match us, hl with | [_, _], _ => rfl) (ps := P_Kinds_rule)
  | n + 1 => Md.succ hd.f_Kinds_rule sc_Kinds_rule hK hw false (fun _ _ _ _ _ _ us hl => match us, hl with | [_, _], _ => rfl) (fun fi => d_Kinds_rule (G := G.wi fi) (hd.t_known_Kinds.wi fi))
theorem okk_Kinds_is_worth (hd : Hd K w G mg) (hK : G.K = K) (hw : G.w = w) : ∀ n, Md P w K mg base G n 0 "is_worth" (m_Kinds_is_worth n)
  | 0 => Md.zero hd.f_Kinds_is_worth (fun _ _ _ _ _ _ us hl => match us, hl with | [_, _, _], _ => rfl) (ps := P_Kinds_is_worth)
  | n + 1 => by
    have r_Kinds_is_worth := okk_Kinds_is_worth hd hK hw n
    exact Md.succ hd.f_Kinds_is_worth sc_Kinds_is_worth hK hw false (fun _ _ _ _ _ _ us hl => match us, hl with | [_, _, _], _ => rfl) (fun fi => d_Kinds_is_worth (G := G.wi fi) hd.u_all hd.u_isinstance hd.u_len hd.u_range hd.u_tuple ((ok_is_count hd hK hw n).wi fi) ((ok_Kinds_is_box hd hK hw n).wi fi) ((ok_Kinds_rule hd hK hw n).wi fi) (r_Kinds_is_worth.wi fi))
theorem ok_Kinds_is_worth (hd : Hd K w G mg) (hK : G.K = K) (hw : G.w = w) (n : Nat) : Md P w K mg base G n 0 "is_worth" (m_Kinds_is_worth n) := (okk_Kinds_is_worth hd hK hw n)
theorem ok_Kinds___init__ (hd : Hd K w G mg) (hK : G.K = K) (hw : G.w = w) : ∀ n, Mz P w K mg base G n 0 "Kinds" (m_Kinds___init__ n)
  | 0 => Mz.zero hd.f_Kinds___init__ (fun _ _ _ _ _ _ us hl => match us, hl with | [_, _], _ => rfl) (ps := P_Kinds___init__)
  | n + 1 => Mz.succ hd.f_Kinds___init__ sc_Kinds___init__ hK hw true (fun _ _ _ _ _ _ us hl => match us, hl with | [_, _], _ => rfl) (fun fi => d_Kinds___init__ (G := G.wi fi) (hd.t_known_Kinds.wi fi))
theorem okL (hd : Hd K w G mg) (hK : G.K = K) (hw : G.w = w) {f : Addr} {fd : FuncData} (F : FunD K "law" "law" (defArgs s_law) (defBody s_law) (defScope s_law) [] [] f fd) (n : Nat) : FnOk P w K mg base (L2.CX P w) (n + 1) f fd P_law (spD G (m_law (n + 1))) :=
  fn_ok F sc_law hK hw false ((fun fi => d_law (G := G.wi fi) hd.u_all hd.u_bool hd.u_dict hd.u_isinstance hd.u_list hd.u_tuple ((ok__law_cell_at hd hK hw n).wi fi) ((ok__law_program hd hK hw n).wi fi) ((ok__law_worth hd hK hw n).wi fi) ((ok__law_pieces hd hK hw n).wi fi) ((ok__law_spoilt hd hK hw n).wi fi) ((ok__law_is_worth hd hK hw n).wi fi) ((ok_Kinds_pieces hd hK hw n).wi fi) ((ok_Kinds_is_worth hd hK hw n).wi fi) (fun j => (ok_Kinds___init__ hd hK hw j).wi fi)) G.fi f)
end
end Gk56
namespace Gk56
open PySem PySem.Spec PyProof.Rows L2 RZ U
def nmL : List Str := ["coin", "dust", "key", "chest", "bag", "sack"]
def nm (k : Fin 6) : Str := nmL[k]'(by show k.val < 6; exact k.isLt)
structure Ru where
  l : Fin 6 → Fin 6
  r : Fin 6 → Fin 6
  us : Fin 6 → Str
  hl : ∀ k, 3 ≤ k.val → (l k).val < k.val
  hr : ∀ k, 3 ≤ k.val → (r k).val < k.val
def rD (T : Ru) (k : Fin 6) : D := if k.val < 3 then .str (if k.val = 2 then "whole" else "parts") else .tup [.str "box", .str (nm (T.l k)), .str (nm (T.r k))]
def kd (T : Ru) (k : Fin 6) : D := .tup [.str (nm k), .str (T.us k), .str "a", rD T k]
def rl (T : Ru) : List (Key × D) := [(.inr (nm 0), rD T 0), (.inr (nm 1), rD T 1), (.inr (nm 2), rD T 2), (.inr (nm 3), rD T 3), (.inr (nm 4), rD T 4), (.inr (nm 5), rD T 5)]
def kl (T : Ru) : List (Key × D) := [(.inr (nm 0), kd T 0), (.inr (nm 1), kd T 1), (.inr (nm 2), kd T 2), (.inr (nm 3), kd T 3), (.inr (nm 4), kd T 4), (.inr (nm 5), kd T 5)]
theorem all6 {P : Fin 6 → Prop} (h0 : P 0) (h1 : P 1) (h2 : P 2) (h3 : P 3) (h4 : P 4) (h5 : P 5) : ∀ k, P k
  | ⟨0, _⟩ => h0 | ⟨1, _⟩ => h1 | ⟨2, _⟩ => h2 | ⟨3, _⟩ => h3 | ⟨4, _⟩ => h4 | ⟨5, _⟩ => h5
theorem nm_ok : ∀ k, PyData.strOk (nm k) = true := by decide +kernel
theorem rl_at (T : Ru) : ∀ k, valK (rl T) (.inr (nm k)) = some (rD T k) := all6 (by kernel_rfl) (by kernel_rfl) (by kernel_rfl) (by kernel_rfl) (by kernel_rfl) (by kernel_rfl)
theorem kl_at (T : Ru) : ∀ k, valK (kl T) (.inr (nm k)) = some (kd T k) := all6 (by kernel_rfl) (by kernel_rfl) (by kernel_rfl) (by kernel_rfl) (by kernel_rfl) (by kernel_rfl)
theorem rl_ix (T : Ru) (k : Fin 6) (h : Hs) : opIx2 (.dic (rl T)) (.str (nm k)) h = some (rD T k) := rl_at T k
def In (T : Ru) (s q : Nat) (h : Hs) : Prop := h[s]? = some (.ins 0 [(("known" : Str), D.ref q)]) ∧ h[q]? = some (.dK (kl T))
section
variable {T : Ru} {s q : Nat} {h h1 h2 : Hs} {ρ : Rho} {k : Fin 6}
theorem In.ins (I : In T s q h) : insD (.ref s) h = some (s, 0, [(("known" : Str), D.ref q)]) := by
  unfold insD
  simp only [I.1]
theorem In.dic (I : In T s q h) : dicD (.ref q) h = some (kl T) := by
  show boxK (.ref q) h = _
  unfold boxK
  simp only [I.2]
theorem fld_ok {f : EV} (I : In T s q h) (e : f ρ h = .ok (.ref s) h) : eFld [0] "known" f ρ h = .ok (.ref q) h := by
  unfold eFld
  rw [e, R.bind_ok, I.ins]
  rfl
theorem meth_ok {m : Str} {φ : DF} {fo : EV} {ga : AV} {ds : List D} {d : D} (I : In T s q h) (e : fo ρ h = .ok (.ref s) h) (eg : ga ρ h = .ok ds h1) (ep : φ (.ref s :: ds) h1 = .ok d h2) (hm : ([("known", D.ref q)] : List (Str × D)).lookup m = none := by rfl) : eMeth 0 m φ fo ga ρ h = .ok d h2 := by
  unfold eMeth
  rw [e, R.bind_ok, I.ins]
  simp only [hm, if_true]
  rw [eg, R.bind_ok, ep]
theorem din_ok (I : In T s q h) : (orO opIn opDin) (.str (nm k)) (.ref q) h = some (.bl true) := by
  have e0 : seqD (.ref q) h = none := by
    unfold seqD lstD
    simp only [I.2]
  have e : opIn (.str (nm k)) (.ref q) h = none := by
    unfold opIn valIn
    simp only [e0]
    rfl
  unfold orO
  simp only [e]
  unfold opDin
  rw [I.dic]
  show some (D.bl (valK (kl T) (.inr (nm k))).isSome) = _
  rw [kl_at]
  rfl
theorem kix_ok (I : In T s q h) : opIx2 (.ref q) (.str (nm k)) h = some (kd T k) := by
  show (dicD (.ref q) h).bind (fun l => valK l (.inr (nm k))) = _
  rw [I.dic]
  exact kl_at T k
theorem alt_ok (I : In T s q h) : opIx (kd T k) (.int 3) h = some (rD T k) := rfl
theorem rD_plain (T : Ru) : ∀ k, plain (rD T k) = true := fun k => by
  unfold rD
  split
  · split <;> (simp only [U.plain]; decide +kernel)
  · simp only [U.plain, U.plains, nm_ok, Bool.and_true]
    decide +kernel
theorem eq_rD (z : Str) (hz : PyData.strOk z = true) : opEq (rD T k) (.str z) h = some (.bl (eqB (rD T k) (.str z))) := by
  have dr : der h (rD T k) = rD T k := by
    unfold rD
    split <;> rfl
  unfold opEq
  rw [dr, if_pos]
  · rfl
  · show okEq (rD T k) (.str z) = true
    unfold okEq
    rw [rD_plain]
    simp [U.plain, hz, dep]
theorem r_parts (I : In T s q h) (n : Nat) : m_Kinds_is_parts (n + 1) [.ref s, .str (nm k)] h = .ok (.bl (decide (k.val < 2))) h := by
  refine run_rt rfl ?_ rfl
  unfold b_Kinds_is_parts
  simp only [List.map_cons, List.map_nil, List.length_cons, List.length_nil, List.reduceReplicate, List.cons_append, List.nil_append, List.set_cons_zero, List.set_cons_succ, Nat.reduceAdd, Nat.reduceSub, Nat.zero_add]
  refine ret_ok ((eand_t (op_ok rfl (fld_ok I rfl) (din_ok I))).trans (op_ok (op_ok (op_ok (fld_ok I rfl) rfl (kix_ok I)) rfl (alt_ok I)) rfl ((eq_rD _ (by decide +kernel)).trans ?_)))
  revert k
  exact fun {k} => all6 (P := fun k => some (D.bl (eqB (rD T k) (.str "parts"))) = some (D.bl (decide (k.val < 2)))) (by kernel_rfl) (by kernel_rfl) (by kernel_rfl) (by kernel_rfl) (by kernel_rfl) (by kernel_rfl) k
theorem r_whole (I : In T s q h) (n : Nat) : m_Kinds_is_whole (n + 1) [.ref s, .str (nm k)] h = .ok (.bl (decide (k.val = 2))) h := by
  refine run_rt rfl ?_ rfl
  unfold b_Kinds_is_whole
  simp only [List.map_cons, List.map_nil, List.length_cons, List.length_nil, List.reduceReplicate, List.cons_append, List.nil_append, List.set_cons_zero, List.set_cons_succ, Nat.reduceAdd, Nat.reduceSub, Nat.zero_add]
  refine ret_ok ((eand_t (op_ok rfl (fld_ok I rfl) (din_ok I))).trans (op_ok (op_ok (op_ok (fld_ok I rfl) rfl (kix_ok I)) rfl (alt_ok I)) rfl ((eq_rD _ (by decide +kernel)).trans ?_)))
  revert k
  exact fun {k} => all6 (P := fun k => some (D.bl (eqB (rD T k) (.str "whole"))) = some (D.bl (decide (k.val = 2)))) (by kernel_rfl) (by kernel_rfl) (by kernel_rfl) (by kernel_rfl) (by kernel_rfl) (by kernel_rfl) k
theorem not_ok {f : EV} {b : Bool} (e : f ρ h = .ok (.bl b) h1) : eNot f ρ h = .ok (.bl (!b)) h1 := by
  unfold eNot
  rw [e, R.bind_ok]
theorem r_box (I : In T s q h) (n : Nat) : m_Kinds_is_box (n + 2) [.ref s, .str (nm k)] h = .ok (.bl (decide (3 ≤ k.val))) h := by
  refine run_rt rfl ?_ rfl
  unfold b_Kinds_is_box
  simp only [List.map_cons, List.map_nil, List.length_cons, List.length_nil, List.reduceReplicate, List.cons_append, List.nil_append, List.set_cons_zero, List.set_cons_succ, Nat.reduceAdd, Nat.reduceSub, Nat.zero_add]
  have e1 := not_ok (ρ := [some (.ref s), some (.str (nm k))]) (meth_ok (m := "is_parts") (fo := eVar 0) (ga := aCons (eVar 1) aNil) I rfl rfl (r_parts (k := k) I n))
  have e2 := not_ok (ρ := [some (.ref s), some (.str (nm k))]) (meth_ok (m := "is_whole") (fo := eVar 0) (ga := aCons (eVar 1) aNil) I rfl rfl (r_whole (k := k) I n))
  refine ret_ok ?_
  by_cases h2 : k.val < 2
  · rw [decide_eq_true h2] at e1
    rw [eand_f e1, decide_eq_false (by omega)]
  · rw [decide_eq_false h2] at e1
    rw [eand_t e1, e2]
    by_cases h3 : k.val = 2
    · rw [decide_eq_true h3, decide_eq_false (by omega)]
      rfl
    · rw [decide_eq_false h3, decide_eq_true (by omega)]
      rfl
theorem r_rule (I : In T s q h) (n : Nat) (hk : 3 ≤ k.val) : m_Kinds_rule (n + 1) [.ref s, .str (nm k)] h = .ok (rD T k) h := by
  refine run_rt rfl ?_ (by unfold rD; split <;> rfl)
  unfold b_Kinds_rule
  simp only [List.map_cons, List.map_nil, List.length_cons, List.length_nil, List.reduceReplicate, List.cons_append, List.nil_append, List.set_cons_zero, List.set_cons_succ, Nat.reduceAdd, Nat.reduceSub, Nat.zero_add]
  exact ret_ok (op_ok (op_ok (fld_ok I rfl) rfl (kix_ok I)) rfl (alt_ok I))
end
end Gk56
namespace Gk56
open PySem PySem.Spec PyProof.Rows L2 RZ U
abbrev b_Kinds_is_worth_2 (n : Nat) : SV := (sSeq (sIf (bE (eMeth 0 "is_box" (m_Kinds_is_box n) (eVar 0) (aCons (eVar 1) aNil))) (sSeq (sSet 3 (eSl (eMeth 0 "rule" (m_Kinds_rule n) (eVar 0) (aCons (eVar 1) aNil)) (pSome (eC (.int 1))) pNone))
  (sRet (eAnd (eOp opEq (eCal opLenQ (eVar 2)) (eC (.int 3))) (eCal opAll (eLc [4] (iRange (eC (.int 2))) (.nm 4) bYes (eMeth 0 "is_worth" (m_Kinds_is_worth n) (eVar 0) (aCons (eOp opIx2 (eVar 3) (eVar 4)) (aCons (eOp opIx2 (eVar 2) (eOp opAdd (eC (.int 1)) (eVar 4))) aNil)))))))) sNil)
  (sRet (eAnd (eOp opEq (eCal opLenQ (eVar 2)) (eC (.int 2))) (eCall (m_is_count n) (aCons (eOp opIx (eVar 2) (eC (.int 1))) aNil)))))
abbrev b__law_is_worth_2 (n : Nat) : SV := (sSeq (sIf (bE (eCal (opIsi "tuple") (eOp opIx2 (eVar 0) (eVar 1)))) (sSeq (sIf (bOr (bE (eOp opNe (eCal opLenQ (eVar 2)) (eC (.int 3)))) (bNot (bE (eCall (m__law_is_worth n) (aCons (eVar 0) (aCons (eOp opIx (eOp opIx2 (eVar 0) (eVar 1)) (eC (.int 1))) (aCons (eOp opIx (eVar 2) (eC (.int 1))) aNil))))))) (sRet (eC (.bl false))) sNil)
  (sRet (eCall (m__law_is_worth n) (aCons (eVar 0) (aCons (eOp opIx (eOp opIx2 (eVar 0) (eVar 1)) (eC (.int 2))) (aCons (eOp opIx (eVar 2) (eC (.int 2))) aNil)))))) sNil)
  (sSeq (sIf (bOr (bE (eOp opNe (eCal opLenQ (eVar 2)) (eC (.int 2)))) (bOr (bNot (bE (eCal (opIsi "int") (eOp opIx (eVar 2) (eC (.int 1)))))) (bE (eCal (opIsi "bool") (eOp opIx (eVar 2) (eC (.int 1))))))) (sRet (eC (.bl false))) sNil)
  (sRet (eOp opGe (eOp opIx (eVar 2) (eC (.int 1))) (eC (.int 0))))))
inductive Wt where
  | one (k : Fin 6) (i : Int)
  | two (k : Fin 6) (a b : Wt)
def wd : Wt → D
  | .one k i => .tup [.str (nm k), .int i]
  | .two k a b => .tup [.str (nm k), wd a, wd b]
inductive Ok (T : Ru) : Fin 6 → Wt → Prop
  | one {k i} : k.val < 3 → 0 ≤ i → Ok T k (.one k i)
  | two {k a b} : 3 ≤ k.val → Ok T (T.l k) a → Ok T (T.r k) b → Ok T k (.two k a b)
theorem plain_wd : ∀ w, plain (wd w) = true
  | .one k i => by simp [wd, U.plain, U.plains, nm_ok]
  | .two k a b => by simp [wd, U.plain, U.plains, nm_ok, plain_wd a, plain_wd b]
theorem der_plain {d : D} {h : Hs} (p : plain d = true) : der h d = d := by
  cases d <;> first | rfl | (simp [U.plain] at p)
theorem ne_s {d : D} {h : Hs} {z : Str} (p : plain d = true) (hz : PyData.strOk z = true) : opNe d (.str z) h = some (.bl (!eqB d (.str z))) := by
  unfold opNe
  rw [der_plain p]
  rw [if_pos]
  · rfl
  · show okEq d (.str z) = true
    unfold okEq
    simp [p, U.plain, hz, dep]
theorem ne_t {d : D} {h : Hs} {z : Str} (p : plain d = true) (hz : PyData.strOk z = true) : opNe (.tup [d]) (.tup [.str z]) h = some (.bl (!eqB d (.str z))) := by
  unfold opNe
  rw [if_pos]
  · show some (D.bl (!eqB (.tup [d]) (.tup [.str z]))) = _
    simp [eqB, eqBs]
  · show okEq (.tup [d]) (.tup [.str z]) = true
    unfold okEq
    simp [p, U.plain, U.plains, hz, dep, deps, Nat.min_le_right]
theorem cut1 (x : D) (r : List D) : U.cutD (x :: r) none (some 1) = [x] := by
  unfold U.cutD
  show ((x :: r).drop 0).take ((if (1 : Int) < 0 then ((1 : Int) + ((x :: r).length : Int)).toNat else min (1 : Int).toNat (x :: r).length) - 0) = _
  rw [if_neg (by decide)]
  have : min (1 : Int).toNat (x :: r).length = 1 := by
    rw [List.length_cons]
    show min 1 _ = 1
    omega
  rw [this]
  rfl
theorem isi_f {n : String} {d : D} {h : Hs} (q : ∀ l, d ≠ .tup l) (p : plain d = true) : opIsi "tuple" d h = some (.bl false) := by
  cases d <;> first | rfl | exact absurd rfl (q _) | (simp [U.plain] at p)
theorem cnt {x : D} {b : Bool} {n : Nat} {h : Hs} (e : b_is_count n [some x] h = .rt (.bl b) h) : m_is_count (n + 1) [x] h = .ok (.bl b) h := by
  refine run_rt rfl ?_ rfl
  exact e
theorem r_count {x : D} (p : plain x = true) (n : Nat) (h : Hs) : ∃ b, m_is_count (n + 1) [x] h = .ok (.bl b) h ∧ ((opIsi "int" x h = some (.bl false) ∧ b = false) ∨ (opIsi "int" x h = some (.bl true) ∧ opIsi "bool" x h = some (.bl true) ∧ b = false) ∨ ∃ i, x = .int i ∧ b = decide (0 ≤ i)) := by
  cases x with
  | int i => exact ⟨decide (0 ≤ i), cnt (by kernel_rfl), .inr (.inr ⟨i, rfl, rfl⟩)⟩
  | bl b => exact ⟨false, cnt (by kernel_rfl), .inr (.inl ⟨rfl, rfl, rfl⟩)⟩
  | non => exact ⟨false, cnt (by kernel_rfl), .inl ⟨rfl, rfl⟩⟩
  | str _ => exact ⟨false, cnt (by kernel_rfl), .inl ⟨rfl, rfl⟩⟩
  | tup _ => exact ⟨false, cnt (by kernel_rfl), .inl ⟨rfl, rfl⟩⟩
  | lst _ => exact ⟨false, cnt (by kernel_rfl), .inl ⟨rfl, rfl⟩⟩
  | _ => simp [U.plain] at p
theorem len_tup {l : List D} {h : Hs} : opLenQ (.tup l) h = some (.int l.length) := rfl
theorem eq_len0 {r : List D} {x0 : D} {h : Hs} : opEq (.int ((x0 :: r).length : Nat)) (.int 0) h = some (.bl false) := by
  rw [eq_i, List.length_cons]
  congr 2
theorem ix0 {r : List D} {x0 : D} {h : Hs} : opIx (.tup (x0 :: r)) (.int 0) h = some x0 := by
  show atI (x0 :: r) 0 = _
  obtain ⟨d, e1, e2⟩ := atI_ok (l := x0 :: r) (i := 0) (by omega) (by rw [List.length_cons]; omega)
  rw [e1]
  cases e2
  rfl
theorem sl1 {r : List D} {x0 : D} {h : Hs} : opSl (.tup (x0 :: r)) none (some 1) h = some (.tup [x0]) := by
  show some (D.tup (U.cutD (x0 :: r) none (some 1))) = _
  rw [cut1]
theorem tyR_t {T : Ru} {k : Fin 6} {h : Hs} (hk : 3 ≤ k.val) : opIsi "tuple" (rD T k) h = some (.bl true) := by
  unfold rD
  rw [if_neg (by omega)]
  rfl
theorem tyR_f {T : Ru} {k : Fin 6} {h : Hs} (hk : k.val < 3) : opIsi "tuple" (rD T k) h = some (.bl false) := by
  unfold rD
  rw [if_pos hk]
  rfl
theorem rD_t {T : Ru} {k : Fin 6} (hk : 3 ≤ k.val) : rD T k = .tup [.str "box", .str (nm (T.l k)), .str (nm (T.r k))] := by
  unfold rD
  rw [if_neg (by omega)]
theorem r_isT (T : Ru) (N : Nat) (k : Fin 6) (hk : k.val < N + 1) (x0 : D) (r : List D) (pd : plain (.tup (x0 :: r)) = true) (pp : plain x0 = true ∧ plains r = true) (he : eqB x0 (.str (nm k)) = true)
    (ih : ∀ k : Fin 6, k.val < N → ∀ d, plain d = true → ∃ b,
    (∀ n s q h, In T s q h → m_Kinds_is_worth (n + 3 + N) [.ref s, .str (nm k), d] h = .ok (.bl b) h) ∧ (∀ n h, m__law_is_worth (n + 2 + N) [.dic (rl T), .str (nm k), d] h = .ok (.bl b) h) ∧ (∀ w, d = wd w → Ok T k w → b = true)) :
    ∃ b, (∀ n s q h, In T s q h → m_Kinds_is_worth (n + 3 + (N + 1)) [.ref s, .str (nm k), .tup (x0 :: r)] h = .ok (.bl b) h) ∧ (∀ n h, m__law_is_worth (n + 2 + (N + 1)) [.dic (rl T), .str (nm k), .tup (x0 :: r)] h = .ok (.bl b) h) ∧ (∀ w, D.tup (x0 :: r) = wd w → Ok T k w → b = true) := by
  -- the first tests of both let it pass
  have first1 : ∀ (b : Bool) (n s q : Nat) (h : Hs), In T s q h → ((b_Kinds_is_worth_2 (n + 3 + N)) [some (.ref s), some (.str (nm k)), some (.tup (x0 :: r)), none, none] h = .rt (.bl b) h) → m_Kinds_is_worth (n + 3 + (N + 1)) [.ref s, .str (nm k), .tup (x0 :: r)] h = .ok (.bl b) h := fun b n s q h I e => by
    refine run_rt rfl ?_ rfl
    simp only [List.map_cons, List.map_nil, List.length_cons, List.length_nil, List.reduceReplicate, List.cons_append, List.nil_append, List.set_cons_zero, List.set_cons_succ, Nat.reduceAdd, Nat.reduceSub, Nat.zero_add]
    have e1 := ne_s (h := h) pp.1 (nm_ok k)
    rw [he] at e1
    rw [sif_f (bor_f (bnot_ok (b := true) (be_ok (cal_ok rfl rfl))) (bor_f (be_ok (op_ok (cal_ok rfl rfl) rfl (eq_len0 (r := r)))) (be_ok (op_ok (op_ok rfl rfl (ix0 (r := r))) rfl e1))))]
    exact e
  have first2 : ∀ (b : Bool) (n : Nat) (h : Hs), ((b__law_is_worth_2 (n + 2 + N)) [some (.dic (rl T)), some (.str (nm k)), some (.tup (x0 :: r))] h = .rt (.bl b) h) → m__law_is_worth (n + 2 + (N + 1)) [.dic (rl T), .str (nm k), .tup (x0 :: r)] h = .ok (.bl b) h := fun b n h e => by
    refine run_rt rfl ?_ rfl
    simp only [List.map_cons, List.map_nil, List.length_cons, List.length_nil, List.reduceReplicate, List.cons_append, List.nil_append, List.set_cons_zero, List.set_cons_succ, Nat.reduceAdd, Nat.reduceSub, Nat.zero_add]
    have e1 := ne_t (h := h) pp.1 (nm_ok k)
    rw [he] at e1
    rw [sif_f (bor_f (bnot_ok (b := true) (be_ok (cal_ok rfl rfl))) (be_ok (op_ok (sl_ok rfl rfl (some_ok rfl) (sl1 (r := r))) (tup_ok (cons_ok rfl rfl) sm) e1)))]
    exact e
  by_cases k3 : 3 ≤ k.val
  · -- a box
    have bx : ∀ n s q h, In T s q h → bE (eMeth 0 "is_box" (m_Kinds_is_box (n + 3 + N)) (eVar 0) (aCons (eVar 1) aNil)) [some (.ref s), some (.str (nm k)), some (.tup (x0 :: r)), none, none] h = .ok true h := fun n s q h I => be_ok (by
      have e := r_box (k := k) I (n + 1 + N)
      rw [decide_eq_true k3, show n + 1 + N + 2 = n + 3 + N by omega] at e
      exact meth_ok I rfl rfl e)
    have rule : ∀ n s q h, In T s q h → eSl (eMeth 0 "rule" (m_Kinds_rule (n + 3 + N)) (eVar 0) (aCons (eVar 1) aNil)) (pSome (eC (.int 1))) pNone [some (.ref s), some (.str (nm k)), some (.tup (x0 :: r)), none, none] h = .ok (.tup [.str (nm (T.l k)), .str (nm (T.r k))]) h := fun n s q h I => by
      have e := r_rule (k := k) I (n + 2 + N) k3
      rw [show n + 2 + N + 1 = n + 3 + N by omega, rD_t k3] at e
      exact sl_ok (meth_ok I rfl rfl e) (some_ok rfl) rfl (by kernel_rfl)
    have tl : ∀ h, eCal (opIsi "tuple") (eOp opIx2 (eVar 0) (eVar 1)) [some (.dic (rl T)), some (.str (nm k)), some (.tup (x0 :: r))] h = .ok (.bl true) h := fun h => cal_ok (op_ok rfl rfl (rl_ix T k h)) (tyR_t k3)
    by_cases hl : ∃ x1 x2, r = [x1, x2]
    · obtain ⟨x1, x2, rfl⟩ := hl
      have px : plain x1 = true ∧ plain x2 = true := by simpa [U.plains] using pp.2
      obtain ⟨b1, f1, g1, o1⟩ := ih (T.l k) (by have := T.hl k k3; omega) x1 px.1
      obtain ⟨b2, f2, g2, o2⟩ := ih (T.r k) (by have := T.hr k k3; omega) x2 px.2
      refine ⟨b1 && b2, fun n s q h I => first1 _ n s q h I ?_, fun n h => first2 _ n h ?_, fun w e o => ?_⟩
      · unfold b_Kinds_is_worth_2
        refine seq_rt ((if_t (bx n s q h I)).trans ?_)
        rw [seq_nx (set_ok (rule n s q h I))]
        simp only [List.map_cons, List.map_nil, List.length_cons, List.length_nil, List.reduceReplicate, List.cons_append, List.nil_append, List.set_cons_zero, List.set_cons_succ, Nat.reduceAdd, Nat.reduceSub, Nat.zero_add]
        refine ret_ok ((eand_t (op_ok (cal_ok rfl rfl) rfl rfl)).trans ?_)
        refine cal_ok (lc_all (g := fun d => match d with | .int j => .bl (if j = 0 then b1 else b2) | d => d) (irange (j := 2) rfl (by decide)) (fun d m => ?_) sm) ?_
        · have m : d = .int 0 ∨ d = .int 1 := by simpa [List.range, List.range.loop] using m
          rcases m with rfl | rfl
          · exact ⟨_, rfl, meth_ok I rfl (cons_ok (op_ok rfl rfl (by kernel_rfl)) (cons_ok (op_ok rfl (op_ok rfl rfl rfl) (by kernel_rfl)) rfl)) (f1 n s q h I)⟩
          · exact ⟨_, rfl, meth_ok I rfl (cons_ok (op_ok rfl rfl (by kernel_rfl)) (cons_ok (op_ok rfl (op_ok rfl rfl rfl) (by kernel_rfl)) rfl)) (f2 n s q h I)⟩
        · cases b1 <;> cases b2 <;> rfl
      · unfold b__law_is_worth_2
        refine seq_rt ((if_t (be_ok (tl h))).trans ?_)
        have ea : eCall (m__law_is_worth (n + 2 + N)) (aCons (eVar 0) (aCons (eOp opIx (eOp opIx2 (eVar 0) (eVar 1)) (eC (.int 1))) (aCons (eOp opIx (eVar 2) (eC (.int 1))) aNil))) [some (.dic (rl T)), some (.str (nm k)), some (.tup [x0, x1, x2])] h = .ok (.bl b1) h := call_ok (cons_ok rfl (cons_ok (op_ok (op_ok rfl rfl (rl_ix T k h)) rfl (by rw [rD_t k3]; kernel_rfl)) (cons_ok (op_ok rfl rfl (by kernel_rfl)) rfl))) (g1 n h)
        have eb : eCall (m__law_is_worth (n + 2 + N)) (aCons (eVar 0) (aCons (eOp opIx (eOp opIx2 (eVar 0) (eVar 1)) (eC (.int 2))) (aCons (eOp opIx (eVar 2) (eC (.int 2))) aNil))) [some (.dic (rl T)), some (.str (nm k)), some (.tup [x0, x1, x2])] h = .ok (.bl b2) h := call_ok (cons_ok rfl (cons_ok (op_ok (op_ok rfl rfl (rl_ix T k h)) rfl (by rw [rD_t k3]; kernel_rfl)) (cons_ok (op_ok rfl rfl (by kernel_rfl)) rfl))) (g2 n h)
        have en : bE (eOp opNe (eCal opLenQ (eVar 2)) (eC (.int 3))) [some (.dic (rl T)), some (.str (nm k)), some (.tup [x0, x1, x2])] h = .ok false h := be_ok (op_ok (cal_ok rfl rfl) rfl rfl)
        cases b1 with
        | false => exact sif_t (bor_f en (bnot_ok (b := false) (be_ok ea))) (ret_ok rfl)
        | true =>
          rw [sif_f (bor_f en (bnot_ok (b := true) (be_ok ea)))]
          exact ret_ok eb
      · cases o with
        | one h1 h2 => omega
        | two h1 h2 h3 =>
          simp only [wd] at e
          injection e with e
          injection e with _ e
          injection e with e1 e
          injection e with e2 _
          rw [o1 _ e1 h2, o2 _ e2 h3]
          rfl
    · have ln : (((x0 :: r).length : Nat) : Int) ≠ 3 := fun e => hl (by
        match r, e with
        | [x1, x2], _ => exact ⟨x1, x2, rfl⟩
        | [], e => simp only [List.length_cons, List.length_nil] at e; omega
        | [_], e => simp only [List.length_cons, List.length_nil] at e; omega
        | _ :: _ :: _ :: r, e => simp only [List.length_cons] at e; omega)
      refine ⟨false, fun n s q h I => first1 _ n s q h I ?_, fun n h => first2 _ n h ?_, fun w e o => ?_⟩
      · unfold b_Kinds_is_worth_2
        refine seq_rt ((if_t (bx n s q h I)).trans ?_)
        rw [seq_nx (set_ok (rule n s q h I))]
        simp only [List.map_cons, List.map_nil, List.length_cons, List.length_nil, List.reduceReplicate, List.cons_append, List.nil_append, List.set_cons_zero, List.set_cons_succ, Nat.reduceAdd, Nat.reduceSub, Nat.zero_add]
        exact ret_ok (eand_f (op_ok (cal_ok rfl rfl) rfl (eq_i.trans (by rw [beq_eq_false_iff_ne.mpr ln]))))
      · unfold b__law_is_worth_2
        refine seq_rt ((if_t (be_ok (tl h))).trans ?_)
        exact sif_t (bor_t (be_ok (op_ok (cal_ok rfl rfl) rfl (ne_i.trans (by rw [beq_eq_false_iff_ne.mpr ln]; rfl))))) (ret_ok rfl)
      · exfalso
        cases o with
        | one h1 h2 => omega
        | two h1 h2 h3 =>
          simp only [wd] at e
          injection e with e
          injection e with _ e
          exact hl ⟨_, _, e⟩
  · have bx : ∀ n s q h, In T s q h → bE (eMeth 0 "is_box" (m_Kinds_is_box (n + 3 + N)) (eVar 0) (aCons (eVar 1) aNil)) [some (.ref s), some (.str (nm k)), some (.tup (x0 :: r)), none, none] h = .ok false h := fun n s q h I => be_ok (by
      have e := r_box (k := k) I (n + 1 + N)
      rw [decide_eq_false k3, show n + 1 + N + 2 = n + 3 + N by omega] at e
      exact meth_ok I rfl rfl e)
    have tl : ∀ h, eCal (opIsi "tuple") (eOp opIx2 (eVar 0) (eVar 1)) [some (.dic (rl T)), some (.str (nm k)), some (.tup (x0 :: r))] h = .ok (.bl false) h := fun h => cal_ok (op_ok rfl rfl (rl_ix T k h)) (tyR_f (by omega))
    by_cases hl : ∃ x1, r = [x1]
    · obtain ⟨x1, rfl⟩ := hl
      have px : plain x1 = true := by simpa [U.plains] using pp.2
      obtain ⟨b, e0, c0⟩ := r_count px 0 []
      have rc : ∀ n h, m_is_count (n + 1) [x1] h = .ok (.bl b) h := fun n h => by
        obtain ⟨b', e1, c1⟩ := r_count px n h
        have : b' = b := by
          rcases c0 with ⟨p1, p2⟩ | ⟨p1, p2, p3⟩ | ⟨i, p1, p2⟩
          · rcases c1 with ⟨q1, q2⟩ | ⟨q1, q2, q3⟩ | ⟨j, q1, q2⟩
            · rw [p2, q2]
            · rw [p2, q3]
            · subst q1
              cases p1
          · rcases c1 with ⟨q1, q2⟩ | ⟨q1, q2, q3⟩ | ⟨j, q1, q2⟩
            · rw [p3, q2]
            · rw [p3, q3]
            · subst q1
              cases p2
          · subst p1
            rcases c1 with ⟨q1, q2⟩ | ⟨q1, q2, q3⟩ | ⟨j, q1, q2⟩
            · cases q1
            · cases q2
            · cases q1
              rw [p2, q2]
        rw [← this]
        exact e1
      refine ⟨b, fun n s q h I => first1 _ n s q h I ?_, fun n h => first2 _ n h ?_, fun w e o => ?_⟩
      · unfold b_Kinds_is_worth_2
        rw [sif_f (bx n s q h I)]
        have e := rc (n + 2 + N) h
        rw [show n + 2 + N + 1 = n + 3 + N by omega] at e
        exact ret_ok ((eand_t (op_ok (cal_ok rfl rfl) rfl rfl)).trans (call_ok (cons_ok (op_ok rfl rfl (by kernel_rfl)) rfl) e))
      · unfold b__law_is_worth_2
        rw [sif_f (be_ok (tl h))]
        obtain ⟨b', e1, c1⟩ := r_count px 0 h
        have : b' = b := by
          have := e1.symm.trans (rc 0 h)
          injection this with this _
          injection this
        subst this
        have en : bE (eOp opNe (eCal opLenQ (eVar 2)) (eC (.int 2))) [some (.dic (rl T)), some (.str (nm k)), some (.tup [x0, x1])] h = .ok false h := be_ok (op_ok (cal_ok rfl rfl) rfl rfl)
        have ex : eOp opIx (eVar 2) (eC (.int 1)) [some (.dic (rl T)), some (.str (nm k)), some (.tup [x0, x1])] h = .ok x1 h := op_ok rfl rfl (by kernel_rfl)
        rcases c1 with ⟨p1, p2⟩ | ⟨p1, p2, p3⟩ | ⟨i, p1, p2⟩
        · rw [p2]
          exact sif_t (bor_f en (bor_t (bnot_ok (b := false) (be_ok (cal_ok ex p1))))) (ret_ok rfl)
        · rw [p3]
          exact sif_t (bor_f en (bor_f (bnot_ok (b := true) (be_ok (cal_ok ex p1))) (be_ok (cal_ok ex p2)))) (ret_ok rfl)
        · subst p1
          rw [p2, sif_f (bor_f en (bor_f (bnot_ok (b := true) (be_ok (cal_ok ex rfl))) (be_ok (cal_ok ex rfl))))]
          exact ret_ok (op_ok ex rfl ge_i)
      · cases o with
        | one h1 h2 =>
          simp only [wd] at e
          injection e with e
          injection e with _ e
          injection e with e _
          subst e
          rcases c0 with ⟨p1, p2⟩ | ⟨p1, p2, p3⟩ | ⟨i, p1, p2⟩
          · cases p1
          · cases p2
          · cases p1
            rw [p2]
            exact decide_eq_true h2
        | two h1 h2 h3 => exact absurd h1 k3
    · have ln : (((x0 :: r).length : Nat) : Int) ≠ 2 := fun e => hl (by
        match r, e with
        | [x1], _ => exact ⟨x1, rfl⟩
        | [], e => simp only [List.length_cons, List.length_nil] at e; omega
        | _ :: _ :: r, e => simp only [List.length_cons] at e; omega)
      refine ⟨false, fun n s q h I => first1 _ n s q h I ?_, fun n h => first2 _ n h ?_, fun w e o => ?_⟩
      · unfold b_Kinds_is_worth_2
        rw [sif_f (bx n s q h I)]
        exact ret_ok (eand_f (op_ok (cal_ok rfl rfl) rfl (eq_i.trans (by rw [beq_eq_false_iff_ne.mpr ln]))))
      · unfold b__law_is_worth_2
        rw [sif_f (be_ok (tl h))]
        exact sif_t (bor_t (be_ok (op_ok (cal_ok rfl rfl) rfl (ne_i.trans (by rw [beq_eq_false_iff_ne.mpr ln]; rfl))))) (ret_ok rfl)
      · exfalso
        cases o with
        | one h1 h2 =>
          simp only [wd] at e
          injection e with e
          injection e with _ e
          exact hl ⟨_, e⟩
        | two h1 h2 h3 => exact absurd h1 k3
theorem r_is (T : Ru) : ∀ (N : Nat) (k : Fin 6), k.val < N → ∀ d, plain d = true → ∃ b,
    (∀ n s q h, In T s q h → m_Kinds_is_worth (n + 3 + N) [.ref s, .str (nm k), d] h = .ok (.bl b) h) ∧ (∀ n h, m__law_is_worth (n + 2 + N) [.dic (rl T), .str (nm k), d] h = .ok (.bl b) h) ∧ (∀ w, d = wd w → Ok T k w → b = true)
  | 0, k, hk, _, _ => absurd hk (by omega)
  | N + 1, k, hk, d, pd => by
    by_cases ht : ∃ l, d = .tup l
    · obtain ⟨l, rfl⟩ := ht
      cases l with
      | nil =>
        refine ⟨false, fun n s q h I => ?_, fun n h => ?_, fun w e _ => by cases w <;> (simp only [wd] at e; injection e with e; cases e)⟩
        · refine run_rt rfl ?_ rfl
          simp only [List.map_cons, List.map_nil, List.length_cons, List.length_nil, List.reduceReplicate, List.cons_append, List.nil_append, List.set_cons_zero, List.set_cons_succ, Nat.reduceAdd, Nat.reduceSub, Nat.zero_add]
          exact sif_t (bor_f (bnot_ok (b := true) (be_ok (cal_ok rfl rfl))) (bor_t (be_ok (op_ok (cal_ok rfl rfl) rfl rfl)))) (ret_ok rfl)
        · refine run_rt rfl ?_ rfl
          simp only [List.map_cons, List.map_nil, List.length_cons, List.length_nil, List.reduceReplicate, List.cons_append, List.nil_append, List.set_cons_zero, List.set_cons_succ, Nat.reduceAdd, Nat.reduceSub, Nat.zero_add]
          refine sif_t (bor_f (bnot_ok (b := true) (be_ok (cal_ok rfl rfl))) (be_ok (op_ok (sl_ok rfl rfl (some_ok rfl) rfl) (tup_ok (cons_ok rfl rfl) sm) ?_))) (ret_ok rfl)
          show opNe (.tup []) (.tup [.str (nm k)]) h = _
          exact all6 (P := fun k => opNe (.tup []) (.tup [.str (nm k)]) h = some (.bl true)) (by kernel_rfl) (by kernel_rfl) (by kernel_rfl) (by kernel_rfl) (by kernel_rfl) (by kernel_rfl) k
      | cons x0 r =>
        have pp : plain x0 = true ∧ plains r = true := by simpa [U.plain, U.plains] using pd
        cases he : eqB x0 (.str (nm k)) with
        | false =>
          refine ⟨false, fun n s q h I => ?_, fun n h => ?_, fun w e o => ?_⟩
          · refine run_rt rfl ?_ rfl
            simp only [List.map_cons, List.map_nil, List.length_cons, List.length_nil, List.reduceReplicate, List.cons_append, List.nil_append, List.set_cons_zero, List.set_cons_succ, Nat.reduceAdd, Nat.reduceSub, Nat.zero_add]
            have e1 := ne_s (h := h) pp.1 (nm_ok k)
            rw [he] at e1
            exact sif_t (bor_f (bnot_ok (b := true) (be_ok (cal_ok rfl rfl))) (bor_f (be_ok (op_ok (cal_ok rfl rfl) rfl (eq_len0 (r := r)))) (be_ok (op_ok (op_ok rfl rfl (ix0 (r := r))) rfl e1)))) (ret_ok rfl)
          · refine run_rt rfl ?_ rfl
            simp only [List.map_cons, List.map_nil, List.length_cons, List.length_nil, List.reduceReplicate, List.cons_append, List.nil_append, List.set_cons_zero, List.set_cons_succ, Nat.reduceAdd, Nat.reduceSub, Nat.zero_add]
            have e1 := ne_t (h := h) pp.1 (nm_ok k)
            rw [he] at e1
            exact sif_t (bor_f (bnot_ok (b := true) (be_ok (cal_ok rfl rfl))) (be_ok (op_ok (sl_ok rfl rfl (some_ok rfl) (sl1 (r := r))) (tup_ok (cons_ok rfl rfl) sm) e1))) (ret_ok rfl)
          · exfalso
            cases o with
            | one h1 h2 =>
              simp only [wd] at e
              injection e with e
              injection e with e1 e2
              rw [e1] at he
              simp [eqB] at he
            | two h1 h2 h3 =>
              simp only [wd] at e
              injection e with e
              injection e with e1 e2
              rw [e1] at he
              simp [eqB] at he
        | true => exact r_isT T N k hk x0 r pd pp he (fun k hk d pd => r_is T N k hk d pd)
    · have nt : ∀ l, d ≠ .tup l := fun l e => ht ⟨l, e⟩
      refine ⟨false, fun n s q h I => ?_, fun n h => ?_, fun w e _ => by cases w <;> exact absurd e (nt _)⟩
      · refine run_rt rfl ?_ rfl
        simp only [List.map_cons, List.map_nil, List.length_cons, List.length_nil, List.reduceReplicate, List.cons_append, List.nil_append, List.set_cons_zero, List.set_cons_succ, Nat.reduceAdd, Nat.reduceSub, Nat.zero_add]
        exact sif_t (bor_t (bnot_ok (b := false) (be_ok (cal_ok (by cases d <;> first | rfl | (simp [U.plain] at pd)) (isi_f (n := "tuple") nt pd))))) (ret_ok rfl)
      · refine run_rt rfl ?_ rfl
        simp only [List.map_cons, List.map_nil, List.length_cons, List.length_nil, List.reduceReplicate, List.cons_append, List.nil_append, List.set_cons_zero, List.set_cons_succ, Nat.reduceAdd, Nat.reduceSub, Nat.zero_add]
        exact sif_t (bor_t (bnot_ok (b := false) (be_ok (cal_ok (by cases d <;> first | rfl | (simp [U.plain] at pd)) (isi_f (n := "tuple") nt pd))))) (ret_ok rfl)
end Gk56
namespace Gk56
open PySem PySem.Spec PyProof.Rows L2 RZ U
def dr (c a : Int) : Ob := .dK [(.inr "cell", .int c), (.inr "at", .int a)]
def Dr (i : Nat) (h : Hs) : Prop := ∃ c a, 0 ≤ a ∧ h[i]? = some (dr c a)
def Mv (i : Nat) (h h' : Hs) : Prop := ∃ c a, 0 ≤ a ∧ h' = h.set i (dr c a)
section
variable {T : Ru} {i s q : Nat} {h h1 h2 : Hs} {k : Fin 6}
theorem Dr.lt (S : Dr i h) : i < h.length := by
  obtain ⟨c, a, _, e⟩ := S
  exact (List.getElem?_eq_some_iff.mp e).1
theorem Mv.refl (S : Dr i h) : Mv i h h := by
  obtain ⟨c, a, ha, e⟩ := S
  obtain ⟨hl, e⟩ := List.getElem?_eq_some_iff.mp e
  exact ⟨c, a, ha, by rw [← e, List.set_getElem_self]⟩
theorem Mv.trans (m1 : Mv i h h1) (m2 : Mv i h1 h2) : Mv i h h2 := by
  obtain ⟨c, a, ha, rfl⟩ := m1
  obtain ⟨c', a', ha', rfl⟩ := m2
  exact ⟨c', a', ha', by rw [List.set_set]⟩
theorem Mv.dr (m : Mv i h h1) (S : Dr i h) : Dr i h1 := by
  obtain ⟨c, a, ha, rfl⟩ := m
  exact ⟨c, a, ha, List.getElem?_set_self S.lt⟩
theorem Mv.kp (m : Mv i h h1) : Kp h h1 := by
  obtain ⟨c, a, ha, rfl⟩ := m
  exact Kp.set rfl
theorem Mv.len (m : Mv i h h1) : h1.length = h.length := m.kp.1
theorem Mv.in (m : Mv i h h1) (I : In T s q h) (n1 : s ≠ i) (n2 : q ≠ i) : In T s q h1 := by
  obtain ⟨c, a, ha, rfl⟩ := m
  exact ⟨by rw [List.getElem?_set_ne (Ne.symm n1)]; exact I.1, by rw [List.getElem?_set_ne (Ne.symm n2)]; exact I.2⟩
theorem Mv.app (m : Mv i h h1) (S : Dr i h) (g : Hs) : Mv i (h ++ g) (h1 ++ g) := by
  obtain ⟨c, a, ha, rfl⟩ := m
  exact ⟨c, a, ha, by rw [List.set_append_left _ _ S.lt]⟩
theorem Dr.app (S : Dr i h) (g : Hs) : Dr i (h ++ g) := by
  obtain ⟨c, a, ha, e⟩ := S
  exact ⟨c, a, ha, by rw [List.getElem?_append_left (List.getElem?_eq_some_iff.mp e).1]; exact e⟩
theorem In.app (I : In T s q h) (g : Hs) : In T s q (h ++ g) :=
  ⟨by rw [List.getElem?_append_left (List.getElem?_eq_some_iff.mp I.1).1]; exact I.1, by rw [List.getElem?_append_left (List.getElem?_eq_some_iff.mp I.2).1]; exact I.2⟩
def mx (c a : Int) : Int :=
  let n1 := (c + 7919 * a + 1) * 48271 % 2147483647
  let n2 := n1 * (n1 / 1009 + 69621) % 2147483647
  n2 * (n2 / 2003 + 39373 + a) % 2147483629
theorem r_mixed (c a : Int) (ha : 0 ≤ a) (h : Hs) (n : Nat) : ∃ r : Int, m__law_mixed (n + 1) [.int c, .int a] h = .ok (.int r) h := by
  have e1 : ∀ x : Int, (x % 2147483647).natAbs < 2 ^ 64 := fun x => by omega
  have sh : ∀ o, eOp opShr (eVar 0) (eOp opAdd (eC (.int 1)) (eOp opMul (eC (.int 31)) (eVar 1))) [some (.int c), some (.int a), o] h = .ok (.int (c / 2 ^ (1 + 31 * a).toNat)) h := fun o => op_ok rfl (op_ok rfl (op_ok rfl rfl (mul_l (by decide))) add_i) (shr_p (by omega))
  have t := band_b (be_ok (op_ok (op := opGe) (fa := eVar 0) (ρ := [some (.int c), some (.int a), none]) (h := h) rfl (fb := eOp opShl (eC (.int 1)) (eC (.int 90))) (y := .int (1 * 2 ^ 90)) (by kernel_rfl) ge_i))
    (band_b (be_ok (op_ok (op := opEq) (op_ok rfl rfl (mod_p (by decide)) : eOp opMod (eVar 0) (eC (.int 2)) [some (.int c), some (.int a), none] h = _) (fb := eC (.int 1)) rfl eq_i)) (be_ok (op_ok (op := opGt) (sh none) (fb := eC (.int 0)) rfl gt_i)))
  have fin : ∀ r : Int, b__law_mixed n [some (.int c), some (.int a), none] h = .rt (.int r) h → m__law_mixed (n + 1) [.int c, .int a] h = .ok (.int r) h := fun r e => run_rt rfl e rfl
  cases eb : (decide ((1 * 2 ^ 90 : Int) ≤ c) && ((c % 2 == 1) && decide ((0 : Int) < c / 2 ^ (1 + 31 * a).toNat))) with
  | true =>
    rw [eb] at t
    exact ⟨_, fin _ (sif_t t (ret_ok (op_ok (sh none) rfl (mod_p (by decide)))))⟩
  | false =>
    rw [eb] at t
    refine ⟨mx c a, fin _ ((sif_f t).trans ?_)⟩
    refine (seq_nx (set_ok (op_ok (op_ok (op_ok (op_ok (x := .int c) rfl (op_ok rfl (y := .int a) rfl (mul_l (by decide))) add_i) rfl add_i) rfl (mul_r (by decide))) rfl (mod_p (by decide))))).trans ?_
    refine (seq_nx (set_ok (op_ok (op_ok rfl (op_ok (op_ok rfl rfl (div_p (by decide))) rfl add_i) (mul_l (e1 _))) rfl (mod_p (by decide))))).trans ?_
    exact ret_ok (op_ok (op_ok rfl (op_ok (op_ok (op_ok rfl rfl (div_p (by decide))) rfl add_i) rfl add_i) (mul_l (e1 _))) rfl (mod_p (by decide)))
theorem ix_dr {c a : Int} (e : h[i]? = some (dr c a)) {z : Str} {d : D} (v : valK [(.inr "cell", D.int c), (.inr "at", .int a)] (.inr z) = some d) : opIx2 (.ref i) (.str z) h = some d := by
  show (dicD (.ref i) h).bind _ = _
  have e1 : dicD (.ref i) h = some [(.inr "cell", D.int c), (.inr "at", .int a)] := by
    show boxK (.ref i) h = _
    simp only [boxK, e, dr]
  rw [e1]
  exact v
theorem r_next (S : Dr i h) {m : Int} (hm : 0 < m) (n : Nat) : ∃ (r : Int) (h' : Hs), m__law_next (n + 2) [.ref i, .int m] h = .ok (.int r) h' ∧ 0 ≤ r ∧ r < m ∧ Mv i h h' := by
  obtain ⟨c, a, ha, e⟩ := S
  have hl := (List.getElem?_eq_some_iff.mp e).1
  have e' : (h.set i (dr c (a + 1)))[i]? = some (dr c (a + 1)) := List.getElem?_set_self hl
  obtain ⟨r, er⟩ := r_mixed c (a + 1) (by omega) (h.set i (dr c (a + 1))) n
  refine ⟨r / 3 % m, h.set i (dr c (a + 1)), run_kp rfl ?_ (Kp.set rfl) rfl, Int.emod_nonneg _ (by omega), Int.emod_lt_of_pos _ hm, c, a + 1, by omega, rfl⟩
  unfold b__law_next
  simp only [List.map_cons, List.map_nil, List.length_cons, List.length_nil, List.reduceReplicate, List.cons_append, List.nil_append, List.set_cons_zero, List.set_cons_succ, Nat.reduceAdd, Nat.reduceSub, Nat.zero_add]
  have pu : putD (.ref i) (.str "at") (.int (a + 1)) h = some (h.set i (dr c (a + 1))) := by
    simp only [putD, e, dr]
    have h3 : ([(.inr "cell", D.int c), (.inr "at", .int a)] : List (Key × D)).length < sizeLine := by
      show 2 < sizeLine
      rw [sizeLine_eq]
      omega
    simp only [if_pos h3]
    rfl
  rw [seq_nx (put_ok (op_ok (op_ok rfl rfl (ix_dr e (d := .int a) rfl)) rfl add_i) rfl rfl pu)]
  exact ret_ok (op_ok (op_ok (call_ok (cons_ok (op_ok rfl rfl (ix_dr e' (d := .int c) rfl)) (cons_ok (op_ok rfl rfl (ix_dr e' (d := .int (a + 1)) rfl)) rfl)) er) rfl (div_p (by decide))) rfl (mod_p hm))
theorem pow60 (ρ : Rho) (h : Hs) : eOp opPow (eC (.int 10)) (eC (.int 60)) ρ h = .ok (.int (10 ^ 60)) h := by kernel_rfl
theorem pow64 (ρ : Rho) (h : Hs) : eOp opPow (eC (.int 10)) (eC (.int 64)) ρ h = .ok (.int (10 ^ 64)) h := by kernel_rfl
theorem pow9 (ρ : Rho) (h : Hs) : eOp opPow (eC (.int 10)) (eC (.int 9)) ρ h = .ok (.int 1000000000) h := by kernel_rfl
/-- a worth of a kind, drawn -/
theorem r_worth (T : Ru) : ∀ (N : Nat) (k : Fin 6), k.val < N → ∀ (n i : Nat) (h : Hs), Dr i h → ∃ w h', m__law_worth (n + 2 + N) [.ref i, .dic (rl T), .str (nm k)] h = .ok (wd w) h' ∧ Ok T k w ∧ Mv i h h'
  | 0, k, hk, _, _, _, _ => absurd hk (by omega)
  | N + 1, k, hk, n, i, h, S => by
    by_cases k3 : 3 ≤ k.val
    · have tl : ∀ h, eCal (opIsi "tuple") (eOp opIx2 (eVar 1) (eVar 2)) [some (.ref i), some (.dic (rl T)), some (.str (nm k))] h = .ok (.bl true) h := fun h => cal_ok (op_ok rfl rfl (rl_ix T k h)) (tyR_t k3)
      obtain ⟨wa, ha, ea, oa, ma⟩ := r_worth T N (T.l k) (by have := T.hl k k3; omega) n i h S
      obtain ⟨wb, hb, eb, ob, mb⟩ := r_worth T N (T.r k) (by have := T.hr k k3; omega) n i ha (ma.dr S)
      refine ⟨.two k wa wb, hb, run_kp rfl ?_ (ma.trans mb).kp (ok_plain _ _ (plain_wd _)), .two k3 oa ob, ma.trans mb⟩
      simp only [List.map_cons, List.map_nil, List.length_cons, List.length_nil, List.reduceReplicate, List.cons_append, List.nil_append, List.set_cons_zero, List.set_cons_succ, Nat.reduceAdd, Nat.reduceSub, Nat.zero_add]
      refine sif_t (be_ok (tl h)) (ret_ok (tup_ok (cons_ok rfl (cons_ok (call_ok (cons_ok rfl (cons_ok rfl (cons_ok (op_ok (op_ok rfl rfl (rl_ix T k h)) rfl (by rw [rD_t k3]; kernel_rfl)) rfl))) ea) (cons_ok (call_ok (cons_ok rfl (cons_ok rfl (cons_ok (op_ok (op_ok rfl rfl (rl_ix T k ha)) rfl (by rw [rD_t k3]; kernel_rfl)) rfl))) eb) rfl))) sm))
    · have tl : ∀ h, eCal (opIsi "tuple") (eOp opIx2 (eVar 1) (eVar 2)) [some (.ref i), some (.dic (rl T)), some (.str (nm k))] h = .ok (.bl false) h := fun h => cal_ok (op_ok rfl rfl (rl_ix T k h)) (tyR_f (by omega))
      obtain ⟨r1, h1, e1, p1, q1, m1⟩ := r_next S (m := 9) (by decide) (n + N)
      obtain ⟨r2, h2, e2, p2, q2, m2⟩ := r_next (m1.dr S) (m := 1000000000) (by decide) (n + N)
      obtain ⟨r3, h3, e3, p3, q3, m3⟩ := r_next (m2.dr (m1.dr S)) (m := 4) (by decide) (n + N)
      rw [show n + N + 2 = n + 2 + N by omega] at e1 e2 e3
      obtain ⟨d, d1, d2⟩ := atI_ok (l := [D.int 0, .int r1, .int (10 ^ 60), .int r2]) (i := r3) p3 (by exact q3)
      have hd : ∃ x : Int, 0 ≤ x ∧ d = .int x := by
        have := List.mem_of_getElem? d2
        simp only [List.mem_cons, List.not_mem_nil, or_false] at this
        rcases this with rfl | rfl | rfl | rfl
        · exact ⟨0, by omega, rfl⟩
        · exact ⟨r1, p1, rfl⟩
        · exact ⟨10 ^ 60, by decide, rfl⟩
        · exact ⟨r2, p2, rfl⟩
      obtain ⟨x, hx, rfl⟩ := hd
      refine ⟨.one k x, h3, run_kp rfl ?_ ((m1.trans m2).trans m3).kp rfl, .one (by omega) hx, (m1.trans m2).trans m3⟩
      simp only [List.map_cons, List.map_nil, List.length_cons, List.length_nil, List.reduceReplicate, List.cons_append, List.nil_append, List.set_cons_zero, List.set_cons_succ, Nat.reduceAdd, Nat.reduceSub, Nat.zero_add]
      rw [sif_f (be_ok (tl h))]
      exact ret_ok (tup_ok (cons_ok rfl (cons_ok (op_ok (lst_ok (cons_ok rfl (cons_ok (call_ok (cons_ok rfl (cons_ok rfl rfl)) e1) (cons_ok (pow60 _ _) (cons_ok (call_ok (cons_ok rfl (cons_ok (pow9 _ _) rfl)) e2) rfl)))) sm) (call_ok (cons_ok rfl (cons_ok rfl rfl)) e3) d1) rfl)) sm)
def pcs : Wt → List D
  | .one k i => [wd (.one k i)]
  | .two _ a b => pcs a ++ pcs b
theorem pcs_len {k : Fin 6} {w : Wt} (o : Ok T k w) : (pcs w).length ≤ 2 ^ k.val := by
  induction o with
  | one _ _ => exact Nat.one_le_two_pow
  | @two k a b k3 _ _ i1 i2 =>
    have h1 := T.hl k k3
    have h2 := T.hr k k3
    simp only [pcs, List.length_append]
    have e1 : 2 ^ (T.l k).val ≤ 2 ^ (k.val - 1) := Nat.pow_le_pow_right (by decide) (by omega)
    have e2 : 2 ^ (T.r k).val ≤ 2 ^ (k.val - 1) := Nat.pow_le_pow_right (by decide) (by omega)
    have e3 : 2 ^ k.val = 2 ^ (k.val - 1) + 2 ^ (k.val - 1) := by
      rw [show k.val = (k.val - 1) + 1 by omega, Nat.pow_succ, Nat.add_sub_cancel]
      omega
    omega
theorem pcs_sm {k : Fin 6} {w : Wt} (o : Ok T k w) : (pcs w).length ≤ 1000 := by
  have := pcs_len o
  have e : 2 ^ k.val ≤ 2 ^ 6 := Nat.pow_le_pow_right (by decide) (by omega)
  omega
theorem pcs_plain : ∀ w, plains (pcs w) = true
  | .one k i => by
    simp only [pcs, U.plains, plain_wd, Bool.and_true]
  | .two _ a b => by rw [pcs, plains_app, pcs_plain a, pcs_plain b]; rfl
theorem pcs_tup : ∀ w, ∀ d ∈ pcs w, ∃ l, d = .tup l
  | .one k i => fun d m => by
    simp only [pcs, List.mem_singleton] at m
    exact ⟨_, m⟩
  | .two _ a b => fun d m => by
    rcases List.mem_append.mp m with m | m
    · exact pcs_tup a d m
    · exact pcs_tup b d m
theorem r_pieces (T : Ru) : ∀ (N : Nat) (k : Fin 6), k.val < N → ∀ w, Ok T k w → ∀ (n s q : Nat) (h : Hs), In T s q h → ∃ g, m_Kinds_pieces (n + 2 + N) [.ref s, wd w] h = .ok (.ref (h ++ g).length) ((h ++ g) ++ [.lst (pcs w)])
  | 0, k, hk, _, _, _, _, _, _, _ => absurd hk (by omega)
  | N + 1, k, hk, w, o, n, s, q, h, I => by
    have bx : ∀ d : D, (opIx d (.int 0) h = some (.str (nm k))) → (∀ ρ : Rho, ρ = [some (.ref s), some d] → eVar 1 ρ h = .ok d h) → bE (eMeth 0 "is_box" (m_Kinds_is_box (n + 2 + N)) (eVar 0) (aCons (eOp opIx (eVar 1) (eC (.int 0))) aNil)) [some (.ref s), some d] h = .ok (decide (3 ≤ k.val)) h := fun d e ev => be_ok (by
      have e1 := r_box (k := k) I (n + N)
      rw [show n + N + 2 = n + 2 + N by omega] at e1
      exact meth_ok I rfl (cons_ok (op_ok (ev _ rfl) rfl e) rfl) e1)
    cases o with
    | @one _ i k3 hi =>
      have b := bx (wd (.one k i)) (by kernel_rfl) (fun ρ e => by rw [e]; rfl)
      rw [decide_eq_false (by omega)] at b
      refine ⟨[], ?_⟩
      rw [List.append_nil]
      refine run_keep rfl ?_
      simp only [List.map_cons, List.map_nil, List.length_cons, List.length_nil, List.reduceReplicate, List.cons_append, List.nil_append, List.set_cons_zero, List.set_cons_succ, Nat.reduceAdd, Nat.reduceSub, Nat.zero_add]
      refine (sif_f b).trans ?_
      exact ret_ok (box_ok (ds := [wd (.one k i)]) (cons_ok (tup_ok (cons_ok (op_ok rfl rfl (by kernel_rfl)) (cons_ok (op_ok rfl rfl (by kernel_rfl)) rfl)) sm) rfl) sm)
    | @two _ wa wb k3 oa ob =>
      have b := bx (wd (.two k wa wb)) (by kernel_rfl) (fun ρ e => by rw [e]; rfl)
      rw [decide_eq_true k3] at b
      obtain ⟨g1, e1⟩ := r_pieces T N (T.l k) (by have := T.hl k k3; omega) wa oa n s q h I
      have I1 : In T s q ((h ++ g1) ++ [.lst (pcs wa)]) := (I.app g1).app _
      obtain ⟨g2, e2⟩ := r_pieces T N (T.r k) (by have := T.hr k k3; omega) wb ob n s q _ I1
      refine ⟨g1 ++ [.lst (pcs wa)] ++ g2 ++ [.lst (pcs wb)], run_keep rfl ?_⟩
      simp only [List.map_cons, List.map_nil, List.length_cons, List.length_nil, List.reduceReplicate, List.cons_append, List.nil_append, List.set_cons_zero, List.set_cons_succ, Nat.reduceAdd, Nat.reduceSub, Nat.zero_add]
      have la := pcs_sm oa
      have lb := pcs_sm ob
      have hs : ((pcs wa).length + (pcs wb).length) ≤ sizeLine := by rw [sizeLine_eq]; omega
      have x1 : lstD (.ref (h ++ g1).length) ((((h ++ g1) ++ [.lst (pcs wa)]) ++ g2) ++ [.lst (pcs wb)]) = some (pcs wa) := by
        refine lstD_at' ?_
        rw [List.getElem?_append_left (by simp), List.getElem?_append_left (by simp), List.getElem?_append_right (Nat.le_refl _), Nat.sub_self]
        rfl
      refine sif_t b (ret_ok ?_)
      refine (opB_ok (o := .lst (pcs (.two k wa wb))) (meth_ok I rfl (cons_ok (op_ok rfl rfl (by kernel_rfl)) rfl) e1) (meth_ok I1 rfl (cons_ok (op_ok rfl rfl (by kernel_rfl)) rfl) e2) ?_).trans ?_
      · unfold opAddB
        rw [x1, lstD_last]
        simp only [if_pos hs]
        rfl
      · simp only [List.append_assoc]
theorem r_lpieces (T : Ru) : ∀ (N : Nat) (k : Fin 6), k.val < N → ∀ w, Ok T k w → ∀ (n : Nat) (h : Hs), ∃ g, m__law_pieces (n + 2 + N) [.dic (rl T), wd w] h = .ok (.ref (h ++ g).length) ((h ++ g) ++ [.lst (pcs w)])
  | 0, k, hk, _, _, _, _ => absurd hk (by omega)
  | N + 1, k, hk, w, o, n, h => by
    have tl : ∀ (d : D) (b : Bool), (opIx d (.int 0) h = some (.str (nm k))) → eVar 1 [some (.dic (rl T)), some d] h = .ok d h → opIsi "tuple" (rD T k) h = some (.bl b) → bE (eCal (opIsi "tuple") (eOp opIx2 (eVar 0) (eOp opIx (eVar 1) (eC (.int 0))))) [some (.dic (rl T)), some d] h = .ok b h := fun d b e ev eb => be_ok (cal_ok (op_ok rfl (op_ok ev rfl e) (rl_ix T k h)) eb)
    cases o with
    | @one _ i k3 hi =>
      have b := tl (wd (.one k i)) false (by kernel_rfl) rfl (tyR_f k3)
      refine ⟨[], ?_⟩
      rw [List.append_nil]
      refine run_keep rfl ?_
      simp only [List.map_cons, List.map_nil, List.length_cons, List.length_nil, List.reduceReplicate, List.cons_append, List.nil_append, List.set_cons_zero, List.set_cons_succ, Nat.reduceAdd, Nat.reduceSub, Nat.zero_add]
      refine (sif_f b).trans ?_
      exact ret_ok (box_ok (ds := [wd (.one k i)]) (cons_ok rfl rfl) sm)
    | @two _ wa wb k3 oa ob =>
      have b := tl (wd (.two k wa wb)) true (by kernel_rfl) rfl (tyR_t k3)
      obtain ⟨g1, e1⟩ := r_lpieces T N (T.l k) (by have := T.hl k k3; omega) wa oa n h
      obtain ⟨g2, e2⟩ := r_lpieces T N (T.r k) (by have := T.hr k k3; omega) wb ob n ((h ++ g1) ++ [.lst (pcs wa)])
      refine ⟨g1 ++ [.lst (pcs wa)] ++ g2 ++ [.lst (pcs wb)], run_keep rfl ?_⟩
      simp only [List.map_cons, List.map_nil, List.length_cons, List.length_nil, List.reduceReplicate, List.cons_append, List.nil_append, List.set_cons_zero, List.set_cons_succ, Nat.reduceAdd, Nat.reduceSub, Nat.zero_add]
      have la := pcs_sm oa
      have lb := pcs_sm ob
      have hs : ((pcs wa).length + (pcs wb).length) ≤ sizeLine := by rw [sizeLine_eq]; omega
      have x1 : lstD (.ref (h ++ g1).length) ((((h ++ g1) ++ [.lst (pcs wa)]) ++ g2) ++ [.lst (pcs wb)]) = some (pcs wa) := by
        refine lstD_at' ?_
        rw [List.getElem?_append_left (by simp), List.getElem?_append_left (by simp), List.getElem?_append_right (Nat.le_refl _), Nat.sub_self]
        rfl
      refine sif_t b (ret_ok ?_)
      refine (opB_ok (o := .lst (pcs (.two k wa wb))) (call_ok (cons_ok rfl (cons_ok (op_ok rfl rfl (by kernel_rfl)) rfl)) e1) (call_ok (cons_ok rfl (cons_ok (op_ok rfl rfl (by kernel_rfl)) rfl)) e2) ?_).trans ?_
      · unfold opAddB
        rw [x1, lstD_last]
        simp only [if_pos hs]
        rfl
      · simp only [List.append_assoc]
end
end Gk56
namespace Gk56
open PySem PySem.Spec PyProof.Rows L2 RZ U
section
variable {T : Ru} {i s q : Nat} {h h1 h2 : Hs} {k : Fin 6}
/-- what may stand in the place of a worth with the tuple l (two or three things) -/
def odds (x0 : D) (r : List D) : List D := [.lst (x0 :: r), .tup ((x0 :: r).dropLast), .tup (x0 :: r ++ [.int 0]), .tup (.str "dust" :: r), .tup (.str "box" :: r), .non, .tup [], x0,
  .tup (x0 :: .int (-1) :: r.tail), .tup (x0 :: .int (10 ^ 64) :: r.tail), .tup (x0 :: .bl true :: r.tail), .tup (x0 :: .non :: r.tail), .tup (x0 :: .str "1" :: r.tail), .tup (x0 :: .tup [] :: r.tail), .tup (x0 :: .tup (x0 :: r) :: r.tail)]
theorem odds_len (x0 : D) (r : List D) : (odds x0 r).length = 15 := rfl
theorem plains_tail : ∀ r : List D, plains r = true → plains r.tail = true
  | [], _ => rfl
  | d :: r, p => by
    have p' : plain d = true ∧ plains r = true := by simpa [U.plains] using p
    exact p'.2
theorem plains_drop : ∀ r : List D, plains r = true → plains r.dropLast = true
  | [], _ => rfl
  | [d], _ => rfl
  | d :: e :: r, p => by
    have p' : plain d = true ∧ plains (e :: r) = true := by
      rw [U.plains, Bool.and_eq_true] at p
      exact p
    rw [List.dropLast_cons₂, U.plains, p'.1, plains_drop (e :: r) p'.2]
    rfl
theorem okd : PyData.strOk "dust" = true := by decide +kernel
theorem okb : PyData.strOk "box" = true := by decide +kernel
theorem ok1 : PyData.strOk "1" = true := by decide +kernel
theorem odds_plain (x0 : D) (r : List D) (p : plain x0 = true) (pr : plains r = true) : ∀ d ∈ odds x0 r, plain d = true := by
  have pl : plains (x0 :: r) = true := by rw [U.plains, p, pr]; rfl
  have pt := plains_tail r pr
  intro d m
  simp only [odds, List.mem_cons, List.not_mem_nil, or_false] at m
  rcases m with rfl | rfl | rfl | rfl | rfl | rfl | rfl | rfl | rfl | rfl | rfl | rfl | rfl | rfl | rfl
  · simpa only [U.plain] using pl
  · simpa only [U.plain] using plains_drop _ pl
  · simp only [U.plain, plains_app, U.plains, p, pr, Bool.and_true, Bool.and_self]
  · simp only [U.plain, U.plains, pr, okd, Bool.and_true]
  · simp only [U.plain, U.plains, pr, okb, Bool.and_true]
  · simp only [U.plain]
  · simp only [U.plain, U.plains]
  · exact p
  · simp only [U.plain, U.plains, p, pt, Bool.and_true]
  · simp only [U.plain, U.plains, p, pt, Bool.and_true]
  · simp only [U.plain, U.plains, p, pt, Bool.and_true]
  · simp only [U.plain, U.plains, p, pt, Bool.and_true]
  · simp only [U.plain, U.plains, p, pt, ok1, Bool.and_true]
  · simp only [U.plain, U.plains, p, pt, Bool.and_true]
  · simp only [U.plain, U.plains, p, pr, pt, Bool.and_true]
abbrev b__law_spoilt_2 (n : Nat) : SV := (sSeq (sSet 3 (eLst (aCons (eCal opList (eVar 1)) (aCons (eSl (eVar 1) pNone (pSome (eNeg (eC (.int 1))))) (aCons (eOp opAdd (eVar 1) (eTup (aCons (eC (.int 0)) aNil))) (aCons (eOp opAdd (eTup (aCons (eC (.str "dust")) aNil)) (eSl (eVar 1) (pSome (eC (.int 1))) pNone)) (aCons (eOp opAdd (eTup (aCons (eC (.str "box")) aNil)) (eSl (eVar 1) (pSome (eC (.int 1))) pNone)) (aCons (eC .non) (aCons (eTup aNil) (aCons (eOp opIx (eVar 1) (eC (.int 0))) aNil))))))))))
  (sSeq (sSet 3 (eOp opAdd (eVar 3) (eLc [4] (iSeq (eTup (aCons (eNeg (eC (.int 1))) (aCons (eOp opPow (eC (.int 10)) (eC (.int 64))) (aCons (eC (.bl true)) (aCons (eC .non) (aCons (eC (.str "1")) (aCons (eTup aNil) (aCons (eVar 1) aNil))))))))) (.nm 4) bYes (eOp opAdd (eOp opAdd (eSl (eVar 1) pNone (pSome (eC (.int 1)))) (eTup (aCons (eVar 4) aNil))) (eSl (eVar 1) (pSome (eC (.int 2))) pNone)))))
  (sRet (eOp opIx2 (eVar 3) (eCall (m__law_next n) (aCons (eVar 0) (aCons (eC (.int 15)) aNil)))))))
def sz : Wt → Nat
  | .one _ _ => 1
  | .two _ a b => max (sz a) (sz b) + 1
theorem sz_ok {w : Wt} (o : Ok T k w) : sz w ≤ k.val + 1 := by
  induction o with
  | one _ _ => simp [sz]
  | @two k a b k3 _ _ i1 i2 =>
    have h1 := T.hl k k3
    have h2 := T.hr k k3
    simp only [sz]
    omega
theorem r_odd (S : Dr i h) (n : Nat) (o : Option D) (w : Wt) : ∃ d h', b__law_spoilt_2 (n + 2) [some (.ref i), some (wd w), o, none, none] h = .rt d h' ∧ plain d = true ∧ Mv i h h' := by
  obtain ⟨r, h', e, p, q, m⟩ := r_next S (m := 15) (by decide) n
  have go : ∀ (x0 : D) (r0 : List D), plain x0 = true → plains r0 = true →
      (eLst (aCons (eCal opList (eVar 1)) (aCons (eSl (eVar 1) pNone (pSome (eNeg (eC (.int 1))))) (aCons (eOp opAdd (eVar 1) (eTup (aCons (eC (.int 0)) aNil))) (aCons (eOp opAdd (eTup (aCons (eC (.str "dust")) aNil)) (eSl (eVar 1) (pSome (eC (.int 1))) pNone)) (aCons (eOp opAdd (eTup (aCons (eC (.str "box")) aNil)) (eSl (eVar 1) (pSome (eC (.int 1))) pNone)) (aCons (eC .non) (aCons (eTup aNil) (aCons (eOp opIx (eVar 1) (eC (.int 0))) aNil))))))))) [some (.ref i), some (wd w), o, none, none] h = .ok (.lst ((odds x0 r0).take 8)) h →
      (eOp opAdd (eVar 3) (eLc [4] (iSeq (eTup (aCons (eNeg (eC (.int 1))) (aCons (eOp opPow (eC (.int 10)) (eC (.int 64))) (aCons (eC (.bl true)) (aCons (eC .non) (aCons (eC (.str "1")) (aCons (eTup aNil) (aCons (eVar 1) aNil))))))))) (.nm 4) bYes (eOp opAdd (eOp opAdd (eSl (eVar 1) pNone (pSome (eC (.int 1)))) (eTup (aCons (eVar 4) aNil))) (eSl (eVar 1) (pSome (eC (.int 2))) pNone)))) [some (.ref i), some (wd w), o, some (.lst ((odds x0 r0).take 8)), none] h = .ok (.lst (odds x0 r0)) h → ∃ d h', b__law_spoilt_2 (n + 2) [some (.ref i), some (wd w), o, none, none] h = .rt d h' ∧ plain d = true ∧ Mv i h h' := fun x0 r0 p0 pr ea eb => by
    obtain ⟨d, d1, d2⟩ := atI_ok (l := odds x0 r0) (i := r) p (by rw [odds_len]; exact q)
    refine ⟨d, h', ?_, odds_plain x0 r0 p0 pr d (List.mem_of_getElem? d2), m⟩
    unfold b__law_spoilt_2
    rw [seq_nx (set_ok ea)]
    simp only [List.map_cons, List.map_nil, List.length_cons, List.length_nil, List.reduceReplicate, List.cons_append, List.nil_append, List.set_cons_zero, List.set_cons_succ, Nat.reduceAdd, Nat.reduceSub, Nat.zero_add]
    rw [seq_nx (set_ok eb)]
    simp only [List.map_cons, List.map_nil, List.length_cons, List.length_nil, List.reduceReplicate, List.cons_append, List.nil_append, List.set_cons_zero, List.set_cons_succ, Nat.reduceAdd, Nat.reduceSub, Nat.zero_add]
    refine ret_ok (op_ok rfl (call_ok (cons_ok rfl (cons_ok rfl rfl)) e) ?_)
    show (match opIx (.lst (odds x0 r0)) (.int r) h' with | some d => some d | none => _) = _
    have e1 : opIx (.lst (odds x0 r0)) (.int r) h' = some d := d1
    rw [e1]
  cases w with
  | one k x => exact go (.str (nm k)) [.int x] (by simp [U.plain, nm_ok]) (by simp [U.plain, U.plains]) (by kernel_rfl) (by kernel_rfl)
  | two k a b => exact go (.str (nm k)) [wd a, wd b] (by simp [U.plain, nm_ok]) (by simp [U.plains, plain_wd]) (by kernel_rfl) (by kernel_rfl)
theorem r_spoilt : ∀ (w : Wt) (N n i : Nat) (h : Hs), sz w ≤ N → Dr i h → ∃ d h', m__law_spoilt (n + 2 + N) [.ref i, wd w] h = .ok d h' ∧ plain d = true ∧ Mv i h h'
  | w, 0, n, i, h, hs, S => absurd hs (by cases w <;> simp [sz])
  | w, N + 1, n, i, h, hs, S => by
    have run : ∀ d h', b__law_spoilt (n + 2 + N) [some (.ref i), some (wd w), none, none, none] h = .rt d h' → plain d = true → Mv i h h' → ∃ d h', m__law_spoilt (n + 2 + (N + 1)) [.ref i, wd w] h = .ok d h' ∧ plain d = true ∧ Mv i h h' := fun d h' e p m => ⟨d, h', run_kp rfl e m.kp (ok_plain _ _ p), p, m⟩
    have odd : ∀ (h1 : Hs) , Mv i h h1 → (b__law_spoilt (n + 2 + N) [some (.ref i), some (wd w), none, none, none] h = b__law_spoilt_2 (n + 2 + N) [some (.ref i), some (wd w), none, none, none] h1) → ∃ d h', m__law_spoilt (n + 2 + (N + 1)) [.ref i, wd w] h = .ok d h' ∧ plain d = true ∧ Mv i h h' := fun h1 m1 e => by
      obtain ⟨d, h2, e2, p2, m2⟩ := r_odd (m1.dr S) (n + N) none w
      rw [show n + N + 2 = n + 2 + N by omega] at e2
      exact run d h2 (e.trans e2) p2 (m1.trans m2)
    cases w with
    | one k x => exact odd h (Mv.refl S) (sif_f (band_f (be_ok (op_ok (cal_ok rfl rfl) rfl rfl))))
    | two k a b =>
      obtain ⟨r1, h1, e1, p1, q1, m1⟩ := r_next S (m := 3) (by decide) (n + N)
      rw [show n + N + 2 = n + 2 + N by omega] at e1
      have t : bAnd (bE (eOp opEq (eCal opLenQ (eVar 1)) (eC (.int 3)))) (bE (eOp opGt (eCall (m__law_next (n + 2 + N)) (aCons (eVar 0) (aCons (eC (.int 3)) aNil))) (eC (.int 0)))) [some (.ref i), some (wd (.two k a b)), none, none, none] h = .ok (decide (0 < r1)) h1 := band_t (be_ok (op_ok (cal_ok rfl rfl) rfl rfl)) (be_ok (op_ok (call_ok (cons_ok rfl (cons_ok rfl rfl)) e1) rfl gt_i))
      by_cases hr : 0 < r1
      · rw [decide_eq_true hr] at t
        obtain ⟨r2, h2, e2, p2, q2, m2⟩ := r_next (m1.dr S) (m := 2) (by decide) (n + N)
        rw [show n + N + 2 = n + 2 + N by omega] at e2
        have hsz : sz a ≤ N ∧ sz b ≤ N := by simp only [sz] at hs; omega
        have r2c : r2 = 0 ∨ r2 = 1 := by omega
        rcases r2c with rfl | rfl
        · obtain ⟨d, h3, e3, p3, m3⟩ := r_spoilt a N n i h2 hsz.1 (m2.dr (m1.dr S))
          refine run (.tup [.str (nm k), d, wd b]) h3 ?_ (by simp only [U.plain, U.plains, nm_ok, p3, plain_wd, Bool.and_true]) ((m1.trans m2).trans m3)
          refine sif_t t ?_
          rw [seq_nx (set_ok (op_ok rfl (call_ok (cons_ok rfl (cons_ok rfl rfl)) e2) add_i))]
          simp only [List.map_cons, List.map_nil, List.length_cons, List.length_nil, List.reduceReplicate, List.cons_append, List.nil_append, List.set_cons_zero, List.set_cons_succ, Nat.reduceAdd, Nat.reduceSub, Nat.zero_add]
          exact ret_ok (op_ok (op_ok (x := .tup [.str (nm k)]) (by kernel_rfl) (tup_ok (cons_ok (call_ok (cons_ok rfl (cons_ok (op_ok (d := wd a) rfl rfl (by kernel_rfl)) rfl)) e3) rfl) sm) (by kernel_rfl : opAdd (.tup [.str (nm k)]) (.tup [d]) h3 = some (.tup [.str (nm k), d]))) (y := .tup [wd b]) (by kernel_rfl) (by kernel_rfl))
        · obtain ⟨d, h3, e3, p3, m3⟩ := r_spoilt b N n i h2 hsz.2 (m2.dr (m1.dr S))
          refine run (.tup [.str (nm k), wd a, d]) h3 ?_ (by simp only [U.plain, U.plains, nm_ok, p3, plain_wd, Bool.and_true]) ((m1.trans m2).trans m3)
          refine sif_t t ?_
          rw [seq_nx (set_ok (op_ok rfl (call_ok (cons_ok rfl (cons_ok rfl rfl)) e2) add_i))]
          simp only [List.map_cons, List.map_nil, List.length_cons, List.length_nil, List.reduceReplicate, List.cons_append, List.nil_append, List.set_cons_zero, List.set_cons_succ, Nat.reduceAdd, Nat.reduceSub, Nat.zero_add]
          exact ret_ok (op_ok (op_ok (x := .tup [.str (nm k), wd a]) (by kernel_rfl) (tup_ok (cons_ok (call_ok (cons_ok rfl (cons_ok (op_ok (d := wd b) rfl rfl (by kernel_rfl)) rfl)) e3) rfl) sm) (by kernel_rfl : opAdd (.tup [.str (nm k), wd a]) (.tup [d]) h3 = some (.tup [.str (nm k), wd a, d]))) (y := .tup []) (by kernel_rfl) (by kernel_rfl))
      · rw [decide_eq_false hr] at t
        exact odd h1 m1 (sif_f t)
end
end Gk56
namespace U
open PySem PySem.Spec PyProof.Rows L2 RZ
theorem app_ok {fa fb : EV} {ρ : Rho} {h h1 h2 : Hs} {j : Nat} {y : D} {l0 l : List D} (ea : fa ρ h = .ok (.ref j) h1) (e0 : h1[j]? = some (.lst l0)) (eb : fb ρ h1 = .ok y h2) (e : h2[j]? = some (.lst l)) (hl : l.length < sizeLine) : eApp fa fb ρ h = .ok .non (h2.set j (.lst (l ++ [y]))) := by
  unfold eApp
  have b0 : bxL (.ref j) h1 = some (j, l0) := by
    unfold bxL
    simp only [e0]
  have b1 : bxL (.ref j) h2 = some (j, l) := by
    unfold bxL
    simp only [e]
  simp only [ea, R.bind_ok, b0, eb, b1, if_pos hl]
theorem last_at {h : Hs} {o : Ob} {n : Nat} (e : n = h.length) : (h ++ [o])[n]? = some o := by
  subst e
  rw [List.getElem?_append_right (Nat.le_refl _), Nat.sub_self]
  rfl
theorem last_set {h : Hs} {o p : Ob} {n : Nat} (e : n = h.length) : (h ++ [o]).set n p = h ++ [p] := by
  subst e
  rw [List.set_append_right _ _ (Nat.le_refl _), Nat.sub_self]
  rfl
theorem lc2 {v : Nat} {f : EV} {ρ : Rho} {h h1 h2 : Hs} {y1 y2 : D} (e1 : f ((wipeD [v] ρ).set v (some (.int 0))) h = .ok y1 h1) (e2 : f ((wipeD [v] ρ).set v (some (.int 1))) h1 = .ok y2 h2) : eLc [v] (iRange (eC (.int 2))) (.nm v) bYes f ρ h = .ok (.lst [y1, y2]) h2 := by
  have ei : iRange (eC (.int 2)) ρ h = .ok [.int 0, .int 1] h := by kernel_rfl
  unfold eLc aLc
  simp only [ei, lcL, Tg.set, bYes, e1, e2]
  rw [if_pos sm, R.bind_ok]
end U
namespace Gk56
open PySem PySem.Spec PyProof.Rows L2 RZ U
def nms : D := .lst [.str "coin", .str "dust", .str "key", .str "chest", .str "bag", .str "sack"]
theorem nms_at (h : Hs) : ∀ k : Fin 6, opIx2 nms (.int (k.val : Nat)) h = some (.str (nm k)) := all6 (by kernel_rfl) (by kernel_rfl) (by kernel_rfl) (by kernel_rfl) (by kernel_rfl) (by kernel_rfl)
def kx (us : Str) (a b k : Fin 6) : D := .tup [.str (nm k), .str us, .str "a", .tup [.str "box", .str (nm a), .str (nm b)]]
structure KS (n : Nat) (ks : List D) : Prop where
  len : ks.length = n
  at_ : ∀ j : Fin 6, j.val < n → ∃ u x, PyData.strOk u = true ∧ ks[j.val]? = some (.tup [.str (nm j), .str u, .str "a", x])
section
variable {T : Ru} {i s q : Nat} {h h1 h2 : Hs} {k : Fin 6}
theorem Mv.un {g : Hs} (S : Dr i h) (m : Mv i (h ++ g) h1) : ∃ h1', h1 = h1' ++ g ∧ Mv i h h1' := by
  obtain ⟨c, a, ha, rfl⟩ := m
  exact ⟨h.set i (Gk56.dr c a), by rw [List.set_append_left _ _ S.lt], c, a, ha, rfl⟩
theorem okos : PyData.strOk "once" = true := by decide +kernel
theorem okms : PyData.strOk "most" = true := by decide +kernel
abbrev pbody (n : Nat) : SV := (sSeq (sSet 4 (eLc [5] (iRange (eC (.int 2))) (.nm 5) bYes (eOp opIx2 (eVar 2) (eCall (m__law_next n) (aCons (eVar 0) (aCons (eVar 3) aNil))))))
  (sSeq (sSet 6 (eOp opIx (eLst (aCons (eC (.str "most")) (aCons (eC (.str "once")) aNil))) (eCal opInt (eOp opIn (eC (.str "once")) (eLst (aCons (eOp opIx (eOp opIx (eVar 4) (eC (.int 0))) (eC (.int 1))) (aCons (eOp opIx (eOp opIx (eVar 4) (eC (.int 1))) (eC (.int 1))) aNil)))))))
  (sExpr (eApp (eVar 2) (eTup (aCons (eOp opIx2 (eVar 1) (eVar 3)) (aCons (eVar 6) (aCons (eC (.str "a")) (aCons (eTup (aCons (eC (.str "box")) (aCons (eOp opIx (eOp opIx (eVar 4) (eC (.int 0))) (eC (.int 0))) (aCons (eOp opIx (eOp opIx (eVar 4) (eC (.int 1))) (eC (.int 0))) aNil)))) aNil)))))))))
/-- one drawn kind -/
theorem r_inner {L : Nat} {ks : List D} (S : Dr i h) (hk : k.val < 6) (h1k : 1 ≤ k.val) (Q : KS k.val ks) (n : Nat) (ρ : Rho) (e0 : eVar 0 ρ (h ++ [.lst ks]) = .ok (.ref i) (h ++ [.lst ks])) (x2 : ∀ h, eVar 2 ρ h = .ok (.ref L) h) (x0 : ∀ h, eVar 0 ρ h = .ok (.ref i) h) (x3 : ∀ h, eVar 3 ρ h = .ok (.int (k.val : Nat)) h) (hL : L = h.length) :
    ∃ (a : Fin 6) (u : Str) (x : D) (h' : Hs), a.val < k.val ∧ PyData.strOk u = true ∧ eOp opIx2 (eVar 2) (eCall (m__law_next (n + 2)) (aCons (eVar 0) (aCons (eVar 3) aNil))) ρ (h ++ [.lst ks]) = .ok (.tup [.str (nm a), .str u, .str "a", x]) (h' ++ [.lst ks]) ∧ Mv i h h' := by
  obtain ⟨r, hh, e, p, q, m⟩ := r_next (S.app [.lst ks]) (m := (k.val : Nat)) (by omega) n
  obtain ⟨h', rfl, m'⟩ := m.un S
  obtain ⟨u, x, hu, hx⟩ := Q.at_ ⟨r.toNat, by omega⟩ (by show r.toNat < k.val; omega)
  refine ⟨⟨r.toNat, by omega⟩, u, x, h', by show r.toNat < k.val; omega, hu, op_ok (x2 _) (call_ok (cons_ok (x0 _) (cons_ok (x3 _) rfl)) e) ?_, m'⟩
  have e1 : opIx (.ref L) (.int r) (h' ++ [.lst ks]) = some (.tup [.str (nm ⟨r.toNat, by omega⟩), .str u, .str "a", x]) := by
    show (match seqD (.ref L) _ with | some l => atI l r | none => none) = _
    have : seqD (.ref L) (h' ++ [.lst ks]) = some ks := lstD_at' (last_at (by rw [hL, m'.len]))
    rw [this]
    show atI ks r = _
    obtain ⟨d, d1, d2⟩ := atI_ok (l := ks) (i := r) p (by rw [Q.len]; omega)
    rw [d1, ← d2]
    exact hx
  show (match opIx (.ref L) (.int r) (h' ++ [.lst ks]) with | some d => some d | none => _) = _
  rw [e1]
theorem r_step {ks : List D} (S : Dr i h) (h1k : 1 ≤ k.val) (Q : KS k.val ks) (n : Nat) (o4 o5 o6 : Option D) : ∃ (a b : Fin 6) (us : Str) (h' : Hs) (p4 p5 p6 : Option D), a.val < k.val ∧ b.val < k.val ∧ PyData.strOk us = true ∧ Mv i h h' ∧
    pbody (n + 2) [some (.ref i), some nms, some (.ref h.length), some (.int (k.val : Nat)), o4, o5, o6] (h ++ [.lst ks]) = .nx [some (.ref i), some nms, some (.ref h.length), some (.int (k.val : Nat)), p4, p5, p6] (h' ++ [.lst (ks ++ [kx us a b k])]) := by
  obtain ⟨a, u, x, g1, ha, hu, ea, ma⟩ := r_inner (L := h.length) S k.isLt h1k Q n ((wipeD [5] [some (.ref i), some nms, some (.ref h.length), some (.int (k.val : Nat)), o4, o5, o6]).set 5 (some (.int 0))) rfl (fun _ => rfl) (fun _ => rfl) (fun _ => rfl) rfl
  obtain ⟨b, v, y, g2, hb, hv, eb, mb⟩ := r_inner (L := h.length) (ma.dr S) k.isLt h1k Q n ((wipeD [5] [some (.ref i), some nms, some (.ref h.length), some (.int (k.val : Nat)), o4, o5, o6]).set 5 (some (.int 1))) rfl (fun _ => rfl) (fun _ => rfl) (fun _ => rfl) ma.len.symm
  have ei := lc2 (v := 5) ea eb
  have M := ma.trans mb
  have eu : ∀ o4 : D, o4 = .lst [.tup [.str (nm a), .str u, .str "a", x], .tup [.str (nm b), .str v, .str "a", y]] → ∃ us, PyData.strOk us = true ∧ eOp opIx (eLst (aCons (eC (.str "most")) (aCons (eC (.str "once")) aNil))) (eCal opInt (eOp opIn (eC (.str "once")) (eLst (aCons (eOp opIx (eOp opIx (eVar 4) (eC (.int 0))) (eC (.int 1))) (aCons (eOp opIx (eOp opIx (eVar 4) (eC (.int 1))) (eC (.int 1))) aNil))))) [some (.ref i), some nms, some (.ref h.length), some (.int (k.val : Nat)), some o4, o5, o6] (g2 ++ [.lst ks]) = .ok (.str us) (g2 ++ [.lst ks]) := fun o4 eo => by
    subst eo
    have e : eOp opIn (eC (.str "once")) (eLst (aCons (eOp opIx (eOp opIx (eVar 4) (eC (.int 0))) (eC (.int 1))) (aCons (eOp opIx (eOp opIx (eVar 4) (eC (.int 1))) (eC (.int 1))) aNil))) [some (.ref i), some nms, some (.ref h.length), some (.int (k.val : Nat)), some (.lst [.tup [.str (nm a), .str u, .str "a", x], .tup [.str (nm b), .str v, .str "a", y]]), o5, o6] (g2 ++ [.lst ks]) = .ok (.bl (inD (.str "once") [.str u, .str v])) (g2 ++ [.lst ks]) := by kernel_rfl
    cases hB : inD (.str "once") [.str u, .str v] with
    | true =>
      rw [hB] at e
      exact ⟨"once", okos, op_ok (lst_ok (cons_ok rfl (cons_ok rfl rfl)) sm) (cal_ok e rfl) rfl⟩
    | false =>
      rw [hB] at e
      exact ⟨"most", okms, op_ok (lst_ok (cons_ok rfl (cons_ok rfl rfl)) sm) (cal_ok e rfl) rfl⟩
  obtain ⟨us, hus, eu⟩ := eu _ rfl
  refine ⟨a, b, us, g2, some (.lst [.tup [.str (nm a), .str u, .str "a", x], .tup [.str (nm b), .str v, .str "a", y]]), o5, some (.str us), ha, hb, hus, M, ?_⟩
  unfold pbody
  rw [seq_nx (set_ok ei)]
  simp only [List.map_cons, List.map_nil, List.length_cons, List.length_nil, List.reduceReplicate, List.cons_append, List.nil_append, List.set_cons_zero, List.set_cons_succ, Nat.reduceAdd, Nat.reduceSub, Nat.zero_add]
  rw [seq_nx (set_ok eu)]
  simp only [List.map_cons, List.map_nil, List.length_cons, List.length_nil, List.reduceReplicate, List.cons_append, List.nil_append, List.set_cons_zero, List.set_cons_succ, Nat.reduceAdd, Nat.reduceSub, Nat.zero_add]
  have l2 : h.length = g2.length := M.len.symm
  refine (expr_ok (app_ok (j := h.length) (l0 := ks) (l := ks) (y := kx us a b k) rfl (last_at l2) (tup_ok (cons_ok (op_ok rfl rfl (nms_at _ k)) (cons_ok rfl (cons_ok rfl (cons_ok (tup_ok (cons_ok rfl (cons_ok (h1 := g2 ++ [Ob.lst ks]) (by kernel_rfl) (cons_ok (h1 := g2 ++ [Ob.lst ks]) (by kernel_rfl) rfl))) sm) rfl)))) sm) (last_at l2) (by rw [Q.len, sizeLine_eq]; have := k.isLt; omega))).trans ?_
  rw [last_set l2]
end
end Gk56
namespace U
open PySem PySem.Spec PyProof.Rows L2 RZ
theorem for_nx {t : Tg} {s : SV} {d : D} {l : List D} {ρ ρ1 ρ2 : Rho} {h h2 : Hs} (e1 : t.set d ρ = some ρ1) (e2 : s ρ1 h = .nx ρ2 h2) : forL t s (d :: l) ρ h = forL t s l ρ2 h2 := by
  rw [forL]
  simp only [e1, e2]
theorem two_at {h : Hs} {a b : Ob} : (h ++ [a, b])[h.length]? = some a ∧ (h ++ [a, b])[h.length + 1]? = some b := by
  refine ⟨?_, ?_⟩
  · rw [List.getElem?_append_right (Nat.le_refl _), Nat.sub_self]
    rfl
  · rw [List.getElem?_append_right (by omega), show h.length + 1 - h.length = 1 by omega]
    rfl
theorem two_set {h : Hs} {a b c : Ob} : (h ++ [a, b]).set (h.length + 1) c = h ++ [a, c] := by
  rw [List.set_append_right _ _ (by omega), show h.length + 1 - h.length = 1 by omega]
  rfl
theorem putKd_len (l : List (Key × D)) (k : Key) (d : D) : (putKd l k d).length ≤ l.length + 1 := by
  unfold putKd
  split
  · rw [List.length_map]; omega
  · rw [List.length_append]; simp
theorem clr_ok {f : EV} {ρ : Rho} {h h1 : Hs} {p : Nat} {l : List D} (e : f ρ h = .ok (.ref p) h1) (q : h1[p]? = some (.lst l)) : eClr f ρ h = .ok .non (h1.set p (.lst [])) := by
  unfold eClr
  have b : bxL (.ref p) h1 = some (p, l) := by
    unfold bxL
    simp only [q]
  simp only [e, R.bind_ok, b]
theorem isi_l {h : Hs} {p : Nat} {l : List D} (q : h[p]? = some (.lst l)) : opIsi "list" (.ref p) h = some (.bl true) := by
  unfold opIsi tyD
  simp only [q]
  rfl
theorem cut_mem {l : List D} {lo hi : Option Int} {d : D} (m : d ∈ U.cutD l lo hi) : d ∈ l := by
  unfold U.cutD at m
  exact List.mem_of_mem_drop (List.mem_of_mem_take m)
theorem cut_len {l : List D} {lo hi : Option Int} : (U.cutD l lo hi).length ≤ l.length := by
  unfold U.cutD
  rw [List.length_take, List.length_drop]
  omega
end U
namespace Gk56
open PySem PySem.Spec PyProof.Rows L2 RZ U
section
variable {T : Ru} {i s q : Nat} {h h1 h2 : Hs} {k : Fin 6}
def base3 : List D := [.tup [.str (nm 0), .str "once", .str "a", .str "parts"], .tup [.str (nm 1), .str "most", .str "a", .str "parts"], .tup [.str (nm 2), .str "most", .str "a", .str "whole"]]
theorem oka : PyData.strOk "a" = true := by decide +kernel
theorem ks3 : KS 3 base3 := ⟨rfl, fun j hj => by
  have c : j = 0 ∨ j = 1 ∨ j = 2 := by omega
  rcases c with rfl | rfl | rfl
  · exact ⟨_, _, okos, rfl⟩
  · exact ⟨_, _, okms, rfl⟩
  · exact ⟨_, _, okms, rfl⟩⟩
theorem KS.step {ks : List D} (Q : KS k.val ks) {a b : Fin 6} {us : Str} (hu : PyData.strOk us = true) : KS (k.val + 1) (ks ++ [kx us a b k]) := ⟨by rw [List.length_append, Q.len]; rfl, fun j hj => by
  by_cases e : j.val < k.val
  · rw [List.getElem?_append_left (by rw [Q.len]; exact e)]
    exact Q.at_ j e
  · have : j = k := by omega
    subst this
    rw [List.getElem?_append_right (by rw [Q.len]; exact Nat.le_refl _), Q.len, Nat.sub_self]
    exact ⟨us, _, hu, rfl⟩⟩
theorem kx_plain {us : Str} {a b k : Fin 6} (hu : PyData.strOk us = true) : plain (kx us a b k) = true := by
  simp only [kx, U.plain, U.plains, nm_ok, hu, oka, okb, Bool.and_true]
theorem base_plain : plains base3 = true := by
  simp only [base3, U.plain, U.plains, nm_ok, oka, okos, okms, Bool.and_true, Bool.true_and]
  decide +kernel
def mkT (a3 b3 a4 b4 a5 b5 : Fin 6) (u3 u4 u5 : Str) (h1 : a3.val < 3) (h2 : b3.val < 3) (h3 : a4.val < 4) (h4 : b4.val < 4) (h5 : a5.val < 5) (h6 : b5.val < 5) : Ru where
  l := fun k => if k.val = 3 then a3 else if k.val = 4 then a4 else a5
  r := fun k => if k.val = 3 then b3 else if k.val = 4 then b4 else b5
  us := fun k => if k.val = 0 then "once" else if k.val = 3 then u3 else if k.val = 4 then u4 else if k.val = 5 then u5 else "most"
  hl := fun k hk => by
    by_cases e3 : k.val = 3
    · rw [if_pos e3]; omega
    · rw [if_neg e3]
      by_cases e4 : k.val = 4
      · rw [if_pos e4]; omega
      · rw [if_neg e4]; omega
  hr := fun k hk => by
    by_cases e3 : k.val = 3
    · rw [if_pos e3]; omega
    · rw [if_neg e3]
      by_cases e4 : k.val = 4
      · rw [if_pos e4]; omega
      · rw [if_neg e4]; omega
def prog (T : Ru) : D := .tup [.tup [kd T 0, kd T 1, kd T 2, kd T 3, kd T 4, kd T 5], .tup [.tup [.str "a", .tup [], .tup []]]]
theorem r_program (S : Dr i h) (n : Nat) : ∃ T h', m__law_program (n + 3) [.ref i] h = .ok (prog T) h' ∧ Mv i h h' := by
  obtain ⟨a3, b3, u3, h3, p4, p5, p6, x1, x2, x3, m3, e3⟩ := r_step (k := 3) S (by decide) ks3 n none none none
  have Q4 : KS 4 (base3 ++ [kx u3 a3 b3 3]) := KS.step (k := 3) ks3 x3
  obtain ⟨a4, b4, u4, h4, r4, r5, r6, y1, y2, y3, m4, e4⟩ := r_step (k := 4) (m3.dr S) (by decide) Q4 n p4 p5 p6
  have Q5 : KS 5 ((base3 ++ [kx u3 a3 b3 3]) ++ [kx u4 a4 b4 4]) := KS.step (k := 4) Q4 y3
  obtain ⟨a5, b5, u5, h5, t4, t5, t6, z1, z2, z3, m5, e5⟩ := r_step (k := 5) (m4.dr (m3.dr S)) (by decide) Q5 n r4 r5 r6
  have l3 : h3.length = h.length := m3.len
  have l4 : h4.length = h.length := m4.len.trans l3
  have l5 : h5.length = h.length := m5.len.trans l4
  rw [l3] at e4
  rw [l4] at e5
  have M := (m3.trans m4).trans m5
  refine ⟨mkT a3 b3 a4 b4 a5 b5 u3 u4 u5 x1 x2 y1 y2 z1 z2, h5, run_kpa (g := [.lst (((base3 ++ [kx u3 a3 b3 3]) ++ [kx u4 a4 b4 4]) ++ [kx u5 a5 b5 5])]) rfl ?_ M.kp ?_, M⟩
  · unfold b__law_program
    simp only [List.map_cons, List.map_nil, List.length_cons, List.length_nil, List.reduceReplicate, List.cons_append, List.nil_append, List.set_cons_zero, List.set_cons_succ, Nat.reduceAdd, Nat.reduceSub, Nat.zero_add]
    rw [seq_nx (set_ok (d := nms) (h' := h) (by kernel_rfl))]
    simp only [List.map_cons, List.map_nil, List.length_cons, List.length_nil, List.reduceReplicate, List.cons_append, List.nil_append, List.set_cons_zero, List.set_cons_succ, Nat.reduceAdd, Nat.reduceSub, Nat.zero_add]
    rw [seq_nx (set_ok (box_ok (ds := base3) (h1 := h) (by kernel_rfl) sm))]
    simp only [List.map_cons, List.map_nil, List.length_cons, List.length_nil, List.reduceReplicate, List.cons_append, List.nil_append, List.set_cons_zero, List.set_cons_succ, Nat.reduceAdd, Nat.reduceSub, Nat.zero_add]
    refine (seq_nx (((forS_ok (items := [.int 3, .int 4, .int 5]) (h' := h ++ [.lst base3]) (by kernel_rfl)).trans ((for_nx rfl e3).trans ((for_nx rfl e4).trans ((for_nx rfl e5).trans rfl)))))).trans ?_
    refine ret_ok (tup_ok (cons_ok (cal_ok rfl ?_) (cons_ok (by kernel_rfl) rfl)) sm)
    · show (seqD (.ref h.length) _).map _ = _
      have : seqD (.ref h.length) (h5 ++ [.lst (((base3 ++ [kx u3 a3 b3 3]) ++ [kx u4 a4 b4 4]) ++ [kx u5 a5 b5 5])]) = some (((base3 ++ [kx u3 a3 b3 3]) ++ [kx u4 a4 b4 4]) ++ [kx u5 a5 b5 5]) := lstD_at' (last_at l5.symm)
      rw [this]
      rfl
  · exact ok_plain _ (.tup [.tup (((base3 ++ [kx u3 a3 b3 3]) ++ [kx u4 a4 b4 4]) ++ [kx u5 a5 b5 5]), .tup [.tup [.str "a", .tup [], .tup []]]]) (by simp only [U.plain, U.plains, plains_app, base_plain, kx_plain x3, kx_plain y3, kx_plain z3, oka, Bool.and_true])
/-! the instance -/
def insO (q : Nat) : Ob := .ins 0 [(("known" : Str), D.ref q)]
abbrev ibody : SV := (sPut (eFld [0] "known" (eVar 0)) (eOp opIx (eVar 2) (eC (.int 0))) (eVar 2))
theorem r_fill (T : Ru) (P : D) (h : Hs) : ∀ (l : List (Fin 6)) (acc : List (Key × D)) (o : Option D), acc.length + l.length ≤ 1000 → ∃ o', forL (.nm 2) ibody (l.map (kd T)) [some (.ref h.length), some P, o] (h ++ [insO (h.length + 1), .dK acc]) = .nx [some (.ref h.length), some P, o'] (h ++ [insO (h.length + 1), .dK (l.foldl (fun acc k => putKd acc (.inr (nm k)) (kd T k)) acc)])
  | [], acc, o, _ => ⟨o, rfl⟩
  | k :: l, acc, o, hl => by
    have lp := putKd_len acc (.inr (nm k)) (kd T k)
    obtain ⟨o', e⟩ := r_fill T P h l (putKd acc (.inr (nm k)) (kd T k)) (some (kd T k)) (by simp only [List.length_cons] at hl; omega)
    refine ⟨o', ?_⟩
    rw [List.map_cons]
    refine (for_nx (ρ1 := [some (.ref h.length), some P, some (kd T k)]) (ρ2 := [some (.ref h.length), some P, some (kd T k)]) (h2 := h ++ [insO (h.length + 1), .dK (putKd acc (.inr (nm k)) (kd T k))]) rfl ?_).trans e
    have ef : eFld [0] "known" (eVar 0) [some (.ref h.length), some P, some (kd T k)] (h ++ [insO (h.length + 1), .dK acc]) = .ok (.ref (h.length + 1)) (h ++ [insO (h.length + 1), .dK acc]) := by
      unfold eFld
      show (match insD (.ref h.length) (h ++ [insO (h.length + 1), .dK acc]) with | some (_, c, fs) => _ | none => _) = _
      have : insD (.ref h.length) (h ++ [insO (h.length + 1), .dK acc]) = some (h.length, 0, [(("known" : Str), D.ref (h.length + 1))]) := by
        unfold insD
        simp only [two_at.1, insO]
      rw [this]
      rfl
    refine put_ok (x := .ref (h.length + 1)) (y := .str (nm k)) (v := kd T k) rfl ef rfl ?_
    unfold putD
    simp only [two_at.2]
    have hs : acc.length < sizeLine := by
      rw [sizeLine_eq]
      simp only [List.length_cons] at hl
      omega
    simp only [keyD, Option.bind_some, if_pos hs, two_set]
theorem r_init (T : Ru) (h : Hs) (n : Nat) : m_Kinds___init__ (n + 1) [.ref h.length, prog T] (h ++ [.ins 0 []]) = .ok .non (h ++ [insO (h.length + 1), .dK (kl T)]) := by
  obtain ⟨o', e⟩ := r_fill T (prog T) h [0, 1, 2, 3, 4, 5] [] none (by decide)
  refine run_keepn (ρ := [some (.ref h.length), some (prog T), o']) rfl ?_
  unfold b_Kinds___init__
  simp only [List.map_cons, List.map_nil, List.length_cons, List.length_nil, List.reduceReplicate, List.cons_append, List.nil_append, List.set_cons_zero, List.set_cons_succ, Nat.reduceAdd, Nat.reduceSub, Nat.zero_add]
  have e0 : sFldS [0] "known" (eDic []) (eVar 0) [some (.ref h.length), some (prog T), none] (h ++ [.ins 0 []]) = .nx [some (.ref h.length), some (prog T), none] (h ++ [insO (h.length + 1), .dK []]) := by
    have d : eDic [] [some (.ref h.length), some (prog T), none] (h ++ [.ins 0 []]) = .ok (.ref (h.length + 1)) (h ++ [.ins 0 [], .dK []]) := by
      show R.ok (D.ref (h ++ [Ob.ins 0 []]).length) ((h ++ [Ob.ins 0 []]) ++ [Ob.dK []]) = _
      rw [List.length_append, List.append_assoc]
      rfl
    unfold sFldS
    simp only [d]
    show (match insD (.ref h.length) (h ++ [.ins 0 [], .dK []]) with | some (i, c, fs) => _ | none => _) = _
    have : insD (.ref h.length) (h ++ [.ins 0 [], .dK []]) = some (h.length, 0, []) := by
      unfold insD
      simp only [two_at.1]
    rw [this]
    show (if _ then _ else _) = _
    rw [if_pos ⟨rfl, by decide⟩, List.set_append_right _ _ (Nat.le_refl _), Nat.sub_self]
    rfl
  rw [seq_nx e0, forS_ok (items := ([0, 1, 2, 3, 4, 5] : List (Fin 6)).map (kd T)) (h' := h ++ [insO (h.length + 1), .dK []]) (by kernel_rfl), e]
  have : ([0, 1, 2, 3, 4, 5] : List (Fin 6)).foldl (fun acc k => putKd acc (.inr (nm k)) (kd T k)) [] = kl T := by kernel_rfl
  rw [this]
theorem r_make {ρ : Rho} (T : Ru) (h : Hs) (e : eVar 3 ρ h = .ok (prog T) h) : eMake 0 (dn m_Kinds___init__ 200) (aCons (eVar 3) aNil) ρ h = .ok (.ref h.length) (h ++ [insO (h.length + 1), .dK (kl T)]) := by
  unfold eMake
  have ea : aCons (eVar 3) aNil ρ h = .ok [prog T] h := cons_ok e rfl
  have ei : dn m_Kinds___init__ 200 [.ref h.length, prog T] (h ++ [.ins 0 []]) = .ok .non (h ++ [insO (h.length + 1), .dK (kl T)]) := r_init T h 198
  rw [ea, R.bind_ok]
  simp only [ei]
end
abbrev nbody : SV := (sSeq (sSet 12 (eMeth 0 "is_worth" (m_Kinds_is_worth 200) (eVar 6) (aCons (eVar 11) (aCons (eVar 10) aNil))))
  (sIf (bOr (bNot (bE (eCal (opIsi "bool") (eVar 12)))) (bE (eOp opNe (eVar 12) (eCall (m__law_is_worth 200) (aCons (eVar 4) (aCons (eVar 11) (aCons (eVar 10) aNil))))))) (sRet (eC (.bl false))) sNil))
abbrev kbody : SV := (sSeq (sSet 7 (eCall (m__law_worth 200) (aCons (eVar 2) (aCons (eVar 4) (aCons (eVar 5) aNil)))))
  (sSeq (sSet 8 (eMeth 0 "pieces" (m_Kinds_pieces 200) (eVar 6) (aCons (eVar 7) aNil)))
  (sSeq (sIf (bOr (bE (eOp opIsNot (eMeth 0 "is_worth" (m_Kinds_is_worth 200) (eVar 6) (aCons (eVar 5) (aCons (eVar 7) aNil))) (eC (.bl true)))) (bNot (bE (eCal (opIsi "list") (eVar 8))))) (sRet (eC (.bl false))) sNil)
  (sSeq (sIf (bOr (bE (eOp opNe (eVar 8) (eCall (m__law_pieces 200) (aCons (eVar 4) (aCons (eVar 7) aNil))))) (bNot (bE (eCal opAll (eLcX [9] (eVar 8) (.nm 9) bYes (eCal (opIsi "tuple") (eVar 9))))))) (sRet (eC (.bl false))) sNil)
  (sSeq (sExpr (eClr (eVar 8)))
  (sSeq (sSet 10 (eCall (m__law_spoilt 200) (aCons (eVar 2) (aCons (eVar 7) aNil))))
  (sSeq (sForK 4 (.nm 11) (sSeq (sSet 12 (eMeth 0 "is_worth" (m_Kinds_is_worth 200) (eVar 6) (aCons (eVar 11) (aCons (eVar 10) aNil))))
  (sIf (bOr (bNot (bE (eCal (opIsi "bool") (eVar 12)))) (bE (eOp opNe (eVar 12) (eCall (m__law_is_worth 200) (aCons (eVar 4) (aCons (eVar 11) (aCons (eVar 10) aNil))))))) (sRet (eC (.bl false))) sNil)))
  (sIf (bE (eOp opNe (eMeth 0 "pieces" (m_Kinds_pieces 200) (eVar 6) (aCons (eVar 7) aNil)) (eCall (m__law_pieces 200) (aCons (eVar 4) (aCons (eVar 7) aNil))))) (sRet (eC (.bl false))) sNil))))))))
abbrev cbody : SV := (sSeq (sSet 2 (eDic [(.inr "cell", (eVar 1)), (.inr "at", (eC (.int 0)))]))
  (sSeq (sSet 3 (eCall (m__law_program 200) (aCons (eVar 2) aNil)))
  (sSeq (sSet 4 (eFrz (eCalB opDict (eLc [5] (iSeq (eOp opIx (eVar 3) (eC (.int 0)))) (.nm 5) bYes (eTup (aCons (eOp opIx (eVar 5) (eC (.int 0))) (aCons (eOp opIx (eVar 5) (eC (.int 3))) aNil)))))))
  (sSeq (sSet 6 (eMake 0 (dn m_Kinds___init__ 200) (aCons (eVar 3) aNil)))
  (sForK 4 (.nm 5) (sSeq (sSet 7 (eCall (m__law_worth 200) (aCons (eVar 2) (aCons (eVar 4) (aCons (eVar 5) aNil)))))
  (sSeq (sSet 8 (eMeth 0 "pieces" (m_Kinds_pieces 200) (eVar 6) (aCons (eVar 7) aNil)))
  (sSeq (sIf (bOr (bE (eOp opIsNot (eMeth 0 "is_worth" (m_Kinds_is_worth 200) (eVar 6) (aCons (eVar 5) (aCons (eVar 7) aNil))) (eC (.bl true)))) (bNot (bE (eCal (opIsi "list") (eVar 8))))) (sRet (eC (.bl false))) sNil)
  (sSeq (sIf (bOr (bE (eOp opNe (eVar 8) (eCall (m__law_pieces 200) (aCons (eVar 4) (aCons (eVar 7) aNil))))) (bNot (bE (eCal opAll (eLcX [9] (eVar 8) (.nm 9) bYes (eCal (opIsi "tuple") (eVar 9))))))) (sRet (eC (.bl false))) sNil)
  (sSeq (sExpr (eClr (eVar 8)))
  (sSeq (sSet 10 (eCall (m__law_spoilt 200) (aCons (eVar 2) (aCons (eVar 7) aNil))))
  (sSeq (sForK 4 (.nm 11) (sSeq (sSet 12 (eMeth 0 "is_worth" (m_Kinds_is_worth 200) (eVar 6) (aCons (eVar 11) (aCons (eVar 10) aNil))))
  (sIf (bOr (bNot (bE (eCal (opIsi "bool") (eVar 12)))) (bE (eOp opNe (eVar 12) (eCall (m__law_is_worth 200) (aCons (eVar 4) (aCons (eVar 11) (aCons (eVar 10) aNil))))))) (sRet (eC (.bl false))) sNil)))
  (sIf (bE (eOp opNe (eMeth 0 "pieces" (m_Kinds_pieces 200) (eVar 6) (aCons (eVar 7) aNil)) (eCall (m__law_pieces 200) (aCons (eVar 4) (aCons (eVar 7) aNil))))) (sRet (eC (.bl false))) sNil)))))))))))))
end Gk56
namespace U
open PySem PySem.Spec PyProof.Rows L2 RZ
theorem ev_p {ρ : Rho} {h : Hs} {i : Nat} {d : D} (p : plain d = true) (e : ρ[i]? = some (some d)) : eVar i ρ h = .ok d h := by
  unfold eVar
  rw [e]
  cases d <;> first | rfl | (simp [plain] at p)
theorem ne_box {h : Hs} {p p' : Nat} {l : List D} (e : h[p]? = some (.lst l)) (e' : h[p']? = some (.lst l)) (pl : plains l = true) (dl : deps l ≤ 60) : opNe (.ref p) (.ref p') h = some (.bl false) := by
  have d1 : der h (.ref p) = .lst l := by
    unfold der
    simp only [e]
  have d2 : der h (.ref p') = .lst l := by
    unfold der
    simp only [e']
  have pl' : plain (.lst l) = true := by simpa only [plain] using pl
  unfold opNe
  rw [d1, d2, eqB_rfl _ pl', if_pos]
  · rfl
  · unfold okEq
    rw [pl']
    have : dep (.lst l) ≤ 64 := by
      simp only [dep]
      omega
    simp [scalD, this]
end U
namespace Gk56
open PySem PySem.Spec PyProof.Rows L2 RZ U
theorem pcs_dep : ∀ w, deps (pcs w) ≤ 1
  | .one k i => by simp [pcs, wd, dep, deps]
  | .two _ a b => by
    have h1 := pcs_dep a
    have h2 := pcs_dep b
    have : ∀ l m : List D, deps (l ++ m) ≤ max (deps l) (deps m) := fun l m => by
      induction l with
      | nil => simp [deps]
      | cons x l ih =>
        simp only [List.cons_append, deps]
        omega
    have := this (pcs a) (pcs b)
    simp only [pcs]
    omega
theorem rl_names (T : Ru) : ∀ d ∈ (rl T).map (fun kv => kD kv.1), ∃ k : Fin 6, d = .str (nm k) := fun d m => by
  simp only [rl, List.map_cons, List.map_nil, List.mem_cons, List.not_mem_nil, or_false] at m
  rcases m with rfl | rfl | rfl | rfl | rfl | rfl
  · exact ⟨0, rfl⟩
  · exact ⟨1, rfl⟩
  · exact ⟨2, rfl⟩
  · exact ⟨3, rfl⟩
  · exact ⟨4, rfl⟩
  · exact ⟨5, rfl⟩
abbrev Fr (ns : List Int) (c : Int) (i : Nat) (T : Ru) (s : Nat) (o5 o7 o8 o9 o10 o11 o12 : Option D) : Rho := [some (.lst (ns.map .int)), some (.int c), some (.ref i), some (prog T), some (.dic (rl T)), o5, some (.ref s), o7, o8, o9, o10, o11, o12]
section
variable {T : Ru} {i s q : Nat} {h h1 h2 : Hs} {k : Fin 6}
/-- the names' turns: both tell the same of the odd thing -/
theorem r_names (ns : List Int) (c : Int) (I : In T s q h) {d : D} (pd : plain d = true) (o5 o7 o8 o9 o11 o12 : Option D) : ∃ p11 p12, sForK 4 (.nm 11) nbody (Fr ns c i T s o5 o7 o8 o9 (some d) o11 o12) h = .nx (Fr ns c i T s o5 o7 o8 o9 (some d) p11 p12) h := by
  obtain ⟨ρ', e, p11, p12, rfl⟩ := for_all (t := .nm 11) (s := nbody) (h := h) (fun ρ => ∃ p11 p12, ρ = Fr ns c i T s o5 o7 o8 o9 (some d) p11 p12) ((rl T).map fun kv => kD kv.1) (Fr ns c i T s o5 o7 o8 o9 (some d) o11 o12) ⟨_, _, rfl⟩ (fun x m ρ ix => by
    obtain ⟨p11, p12, rfl⟩ := ix
    obtain ⟨k, rfl⟩ := rl_names T x m
    obtain ⟨b, f1, f2, _⟩ := r_is T 6 k k.isLt d pd
    have f1 : m_Kinds_is_worth 200 [.ref s, .str (nm k), d] h = .ok (.bl b) h := f1 191 s q h I
    have f2 : m__law_is_worth 200 [.dic (rl T), .str (nm k), d] h = .ok (.bl b) h := f2 192 h
    refine ⟨Fr ns c i T s o5 o7 o8 o9 (some d) (some (.str (nm k))) p12, Fr ns c i T s o5 o7 o8 o9 (some d) (some (.str (nm k))) (some (.bl b)), rfl, ?_, _, _, rfl⟩
    unfold nbody
    rw [seq_nx (set_ok (meth_ok I rfl (cons_ok rfl (cons_ok (ev_p pd rfl) rfl)) f1))]
    refine (if_f (bor_f (bnot_ok (b := true) (be_ok (cal_ok rfl rfl))) (be_ok (op_ok rfl (call_ok (cons_ok rfl (cons_ok rfl (cons_ok (ev_p pd rfl) rfl))) f2) ?_)))).trans rfl
    rw [ne_b]
    simp)
  exact ⟨p11, p12, e⟩
theorem r_kind (ns : List Int) (c : Int) (S : Dr i h) (I : In T s q h) (n1 : s ≠ i) (n2 : q ≠ i) (k : Fin 6) (o7 o8 o9 o10 o11 o12 : Option D) : ∃ p7 p8 p9 p10 p11 p12 h', kbody (Fr ns c i T s (some (.str (nm k))) o7 o8 o9 o10 o11 o12) h = .nx (Fr ns c i T s (some (.str (nm k))) p7 p8 p9 p10 p11 p12) h' ∧ Dr i h' ∧ In T s q h' := by
  obtain ⟨w, h1, ew, ow, m1⟩ := r_worth T 6 k k.isLt 192 i h S
  have ew : m__law_worth 200 [.ref i, .dic (rl T), .str (nm k)] h = .ok (wd w) h1 := ew
  have S1 := m1.dr S
  have I1 := m1.in I n1 n2
  have pw := plain_wd w
  obtain ⟨g, ep⟩ := r_pieces T 6 k k.isLt w ow 192 s q h1 I1
  have ep : m_Kinds_pieces 200 [.ref s, wd w] h1 = .ok (.ref (h1 ++ g).length) ((h1 ++ g) ++ [.lst (pcs w)]) := ep
  have S2 : Dr i ((h1 ++ g) ++ [.lst (pcs w)]) := (S1.app g).app _
  have I2 : In T s q ((h1 ++ g) ++ [.lst (pcs w)]) := (I1.app g).app _
  have lp : i < (h1 ++ g).length := (S1.app g).lt
  have ls : s < (h1 ++ g).length := (List.getElem?_eq_some_iff.mp (I1.app g).1).1
  have lq : q < (h1 ++ g).length := (List.getElem?_eq_some_iff.mp (I1.app g).2).1
  have at2 : ((h1 ++ g) ++ [.lst (pcs w)])[(h1 ++ g).length]? = some (.lst (pcs w)) := last_at rfl
  generalize hp : (h1 ++ g).length = p at *
  generalize hh2 : (h1 ++ g) ++ [.lst (pcs w)] = h2 at *
  obtain ⟨b, f1, f2, f3⟩ := r_is T 6 k k.isLt (wd w) pw
  have hb : b = true := f3 w rfl ow
  subst hb
  have f1 : m_Kinds_is_worth 200 [.ref s, .str (nm k), wd w] h2 = .ok (.bl true) h2 := f1 191 s q h2 I2
  obtain ⟨g', el⟩ := r_lpieces T 6 k k.isLt w ow 192 h2
  have el : m__law_pieces 200 [.dic (rl T), wd w] h2 = .ok (.ref (h2 ++ g').length) ((h2 ++ g') ++ [.lst (pcs w)]) := el
  have S3 : Dr i ((h2 ++ g') ++ [.lst (pcs w)]) := (S2.app g').app _
  have I3 : In T s q ((h2 ++ g') ++ [.lst (pcs w)]) := (I2.app g').app _
  have at3 : ((h2 ++ g') ++ [.lst (pcs w)])[(h2 ++ g').length]? = some (.lst (pcs w)) := last_at rfl
  have at3' : ((h2 ++ g') ++ [.lst (pcs w)])[p]? = some (.lst (pcs w)) := by
    have l2 := (List.getElem?_eq_some_iff.mp at2).1
    rw [List.getElem?_append_left (by rw [List.length_append]; omega), List.getElem?_append_left l2]
    exact at2
  generalize hp' : (h2 ++ g').length = p' at *
  generalize hh3 : (h2 ++ g') ++ [.lst (pcs w)] = h3 at *
  have S4 : Dr i (h3.set p (.lst [])) := by
    obtain ⟨c, a, ha, e⟩ := S3
    exact ⟨c, a, ha, by rw [List.getElem?_set_ne (by omega)]; exact e⟩
  have I4 : In T s q (h3.set p (.lst [])) := ⟨by rw [List.getElem?_set_ne (by omega)]; exact I3.1, by rw [List.getElem?_set_ne (by omega)]; exact I3.2⟩
  obtain ⟨d, h5, es, pd, m5⟩ := r_spoilt w 6 192 i _ (by have := sz_ok ow; have := k.isLt; omega) S4
  have es : m__law_spoilt 200 [.ref i, wd w] (h3.set p (.lst [])) = .ok d h5 := es
  have S5 := m5.dr S4
  have I5 := m5.in I4 n1 n2
  obtain ⟨p11, p12, en⟩ := r_names (i := i) ns c I5 pd (some (.str (nm k))) (some (wd w)) (some (.ref p)) o9 o11 o12
  obtain ⟨g6, e6⟩ := r_pieces T 6 k k.isLt w ow 192 s q h5 I5
  have e6 : m_Kinds_pieces 200 [.ref s, wd w] h5 = .ok (.ref (h5 ++ g6).length) ((h5 ++ g6) ++ [.lst (pcs w)]) := e6
  have S6 : Dr i ((h5 ++ g6) ++ [.lst (pcs w)]) := (S5.app g6).app _
  have I6 : In T s q ((h5 ++ g6) ++ [.lst (pcs w)]) := (I5.app g6).app _
  have at6 : ((h5 ++ g6) ++ [.lst (pcs w)])[(h5 ++ g6).length]? = some (.lst (pcs w)) := last_at rfl
  generalize hp6 : (h5 ++ g6).length = p6 at *
  generalize hh6 : (h5 ++ g6) ++ [.lst (pcs w)] = h6 at *
  obtain ⟨g7, e7⟩ := r_lpieces T 6 k k.isLt w ow 192 h6
  have e7 : m__law_pieces 200 [.dic (rl T), wd w] h6 = .ok (.ref (h6 ++ g7).length) ((h6 ++ g7) ++ [.lst (pcs w)]) := e7
  have at7 : ((h6 ++ g7) ++ [.lst (pcs w)])[(h6 ++ g7).length]? = some (.lst (pcs w)) := last_at rfl
  have at7' : ((h6 ++ g7) ++ [.lst (pcs w)])[p6]? = some (.lst (pcs w)) := by
    have l6 := (List.getElem?_eq_some_iff.mp at6).1
    rw [List.getElem?_append_left (by rw [List.length_append]; omega), List.getElem?_append_left l6]
    exact at6
  have dl : deps (pcs w) ≤ 60 := Nat.le_trans (pcs_dep w) (by decide)
  refine ⟨some (wd w), some (.ref p), o9, some d, p11, p12, (h6 ++ g7) ++ [.lst (pcs w)], ?_, (S6.app g7).app _, (I6.app g7).app _⟩
  unfold kbody
  rw [seq_nx (set_ok (call_ok (cons_ok rfl (cons_ok rfl (cons_ok rfl rfl))) ew))]
  refine (seq_nx (set_ok (meth_ok I1 rfl (cons_ok (ev_p pw rfl) rfl) ep))).trans ?_
  refine (sif_f (h' := h2) (bor_f (be_ok (b := false) (op_ok (meth_ok I2 rfl (cons_ok rfl (cons_ok (ev_p pw rfl) rfl)) f1) rfl rfl)) (bnot_ok (b := true) (be_ok (cal_ok rfl (isi_l at2)))))).trans ?_
  have ca : bE (eCal opAll (eLcX [9] (eVar 8) (.nm 9) bYes (eCal (opIsi "tuple") (eVar 9)))) (Fr ns c i T s (some (.str (nm k))) (some (wd w)) (some (.ref p)) o9 o10 o11 o12) h3 = .ok true h3 := by
    refine be_ok (cal_ok (lcX_all (own := [9]) (t := .nm 9) (f := eCal (opIsi "tuple") (eVar 9)) (g := fun _ => .bl true) rfl at3' (small_line (pcs_sm ow)) (fun d m => ?_)) ?_)
    · obtain ⟨l, rfl⟩ := pcs_tup w d m
      exact ⟨_, rfl, cal_ok rfl rfl⟩
    · show (boolsD ((pcs w).map fun _ => D.bl true)).map _ = _
      rw [bools_map (fun _ => true)]
      simp
  refine (sif_f (h' := h3) (bor_f (be_ok (b := false) (op_ok (x := .ref p) rfl (call_ok (cons_ok rfl (cons_ok (ev_p pw rfl) rfl)) el) (ne_box at3' at3 (pcs_plain w) dl))) (bnot_ok (b := true) ca))).trans ?_
  refine (seq_nx (expr_ok (clr_ok (p := p) rfl at3'))).trans ?_
  refine (seq_nx (set_ok (call_ok (cons_ok rfl (cons_ok (ev_p pw rfl) rfl)) es))).trans ?_
  refine (seq_nx en).trans ?_
  exact (if_f (be_ok (op_ok (meth_ok I5 rfl (cons_ok (ev_p pw rfl) rfl) e6) (call_ok (cons_ok rfl (cons_ok (ev_p pw rfl) rfl)) e7) (ne_box at7' at7 (pcs_plain w) dl)))).trans rfl
end
end Gk56
namespace Gk56
open PySem PySem.Spec PyProof.Rows L2 RZ U
abbrev F0 (ns : List Int) (c : Option D) (o2 o3 o4 o5 o6 o7 o8 o9 o10 o11 o12 : Option D) : Rho := [some (.lst (ns.map .int)), c, o2, o3, o4, o5, o6, o7, o8, o9, o10, o11, o12]
theorem r_cellb (ns : List Int) (c : Int) (h : Hs) (o2 o3 o4 o5 o6 o7 o8 o9 o10 o11 o12 : Option D) : ∃ p2 p3 p4 p5 p6 p7 p8 p9 p10 p11 p12 h', cbody (F0 ns (some (.int c)) o2 o3 o4 o5 o6 o7 o8 o9 o10 o11 o12) h = .nx (F0 ns (some (.int c)) p2 p3 p4 p5 p6 p7 p8 p9 p10 p11 p12) h' := by
  have ed : eDic [(.inr "cell", (eVar 1)), (.inr "at", (eC (.int 0)))] (F0 ns (some (.int c)) o2 o3 o4 o5 o6 o7 o8 o9 o10 o11 o12) h = .ok (.ref h.length) (h ++ [dr c 0]) := by
    have e0 : dP [(.inr "cell", (eVar 1)), (.inr "at", (eC (.int 0)))] (F0 ns (some (.int c)) o2 o3 o4 o5 o6 o7 o8 o9 o10 o11 o12) h = .ok [(.inr "cell", .int c), (.inr "at", .int 0)] h := by kernel_rfl
    unfold eDic
    rw [e0, R.bind_ok]
    have e1 : mergeKd [] [(.inr "cell", D.int c), (.inr "at", .int 0)] = [(.inr "cell", .int c), (.inr "at", .int 0)] := by kernel_rfl
    rw [e1]
    rfl
  have S0 : Dr h.length (h ++ [dr c 0]) := ⟨c, 0, by omega, last_at rfl⟩
  obtain ⟨T, h1, ep, m1⟩ := r_program S0 197
  have ep : m__law_program 200 [.ref h.length] (h ++ [dr c 0]) = .ok (prog T) h1 := ep
  have S1 := m1.dr S0
  generalize hi : h.length = i at *
  have ef : eFrz (eCalB opDict (eLc [5] (iSeq (eOp opIx (eVar 3) (eC (.int 0)))) (.nm 5) bYes (eTup (aCons (eOp opIx (eVar 5) (eC (.int 0))) (aCons (eOp opIx (eVar 5) (eC (.int 3))) aNil))))) (F0 ns (some (.int c)) (some (.ref i)) (some (prog T)) o4 o5 o6 o7 o8 o9 o10 o11 o12) h1 = .ok (.dic (rl T)) (h1 ++ [.dead]) :=
    frz_new (x := .lst [.tup [.str (nm 0), rD T 0], .tup [.str (nm 1), rD T 1], .tup [.str (nm 2), rD T 2], .tup [.str (nm 3), rD T 3], .tup [.str (nm 4), rD T 4], .tup [.str (nm 5), rD T 5]]) (by kernel_rfl) (by kernel_rfl)
  have S2 : Dr i (h1 ++ [.dead]) := S1.app _
  generalize hh2 : h1 ++ [Ob.dead] = h2 at *
  have em := r_make (ρ := F0 ns (some (.int c)) (some (.ref i)) (some (prog T)) (some (.dic (rl T))) o5 o6 o7 o8 o9 o10 o11 o12) T h2 rfl
  have S3 : Dr i (h2 ++ [insO (h2.length + 1), .dK (kl T)]) := S2.app _
  have I3 : In T h2.length (h2.length + 1) (h2 ++ [insO (h2.length + 1), .dK (kl T)]) := two_at
  have n1 : h2.length ≠ i := by have := S2.lt; omega
  have n2 : h2.length + 1 ≠ i := by have := S2.lt; omega
  obtain ⟨ρ', h', e, o5', o7', o8', o9', o10', o11', o12', rfl, _⟩ := for_heap (t := .nm 5) (s := kbody) (fun ρ h => ∃ o5 o7 o8 o9 o10 o11 o12, ρ = Fr ns c i T h2.length o5 o7 o8 o9 o10 o11 o12 ∧ Dr i h ∧ In T h2.length (h2.length + 1) h) ((rl T).map fun kv => kD kv.1) (Fr ns c i T h2.length o5 o7 o8 o9 o10 o11 o12) (h2 ++ [insO (h2.length + 1), .dK (kl T)]) ⟨_, _, _, _, _, _, _, rfl, S3, I3⟩ (fun d m ρ h ix => by
    obtain ⟨o5, o7, o8, o9, o10, o11, o12, rfl, S, I⟩ := ix
    obtain ⟨k, rfl⟩ := rl_names T d m
    obtain ⟨p7, p8, p9, p10, p11, p12, h', e, S', I'⟩ := r_kind ns c S I n1 n2 k o7 o8 o9 o10 o11 o12
    exact ⟨_, _, h', rfl, e, _, _, _, _, _, _, _, rfl, S', I'⟩)
  refine ⟨some (.ref i), some (prog T), some (.dic (rl T)), o5', some (.ref h2.length), o7', o8', o9', o10', o11', o12', h', ?_⟩
  unfold cbody
  rw [seq_nx (set_ok ed)]
  refine (seq_nx (set_ok (call_ok (cons_ok rfl rfl) ep))).trans ?_
  refine (seq_nx (set_ok ef)).trans ?_
  refine (seq_nx (set_ok em)).trans ?_
  exact e
theorem r_cell (ns : List Int) (h : Hs) (n : Nat) : ∃ c : Int, m__law_cell_at (n + 1) [.lst (ns.map .int), .int 0] h = .ok (.int c) h := by
  have el : eCal opLenQ (eVar 0) [some (.lst (ns.map .int)), some (.int 0)] h = .ok (.int ns.length) h := cal_ok rfl (by
    show some (D.int ((ns.map D.int).length : Int)) = _
    rw [List.length_map])
  by_cases q : (0 : Int) < ns.length
  · obtain ⟨d, e1, e2⟩ := atI_ok (l := ns.map D.int) (i := 0) (by omega) (by rw [List.length_map]; exact q)
    obtain ⟨c, _, rfl⟩ := List.mem_map.mp (List.mem_of_getElem? e2)
    refine ⟨c, run_rt rfl ?_ rfl⟩
    unfold b__law_cell_at
    simp only [List.map_cons, List.map_nil, List.length_cons, List.length_nil, List.reduceReplicate, List.cons_append, List.nil_append, List.set_cons_zero, List.set_cons_succ, Nat.reduceAdd, Nat.reduceSub, Nat.zero_add]
    refine sif_t (h' := h) (be_ok (op_ok rfl el (by rw [lt_i, decide_eq_true q]))) (ret_ok (op_ok rfl rfl ?_))
    show (match opIx (.lst (ns.map D.int)) (.int 0) h with | some d => some d | none => _) = _
    have e3 : opIx (.lst (ns.map D.int)) (.int 0) h = some (.int c) := e1
    rw [e3]
  · refine ⟨0, run_rt rfl ?_ rfl⟩
    unfold b__law_cell_at
    simp only [List.map_cons, List.map_nil, List.length_cons, List.length_nil, List.reduceReplicate, List.cons_append, List.nil_append, List.set_cons_zero, List.set_cons_succ, Nat.reduceAdd, Nat.reduceSub, Nat.zero_add]
    rw [sif_f (h' := h) (be_ok (op_ok rfl el (by rw [lt_i, decide_eq_false q])))]
    exact ret_ok rfl
theorem plain (ns : List Int) (hl : ns.length ≤ 63) (hb : ∀ z ∈ ns, Builtin.Int.intBits z ≤ 1048576) : ∃ h', m_law 201 [.lst (ns.map .int)] [] = .ok (.bl true) h' := by
  obtain ⟨c0, ec⟩ := r_cell ns [] 199
  have ei : iSeq (eOp opAdd (eLst (aCons (eCall (m__law_cell_at 200) (aCons (eVar 0) (aCons (eC (.int 0)) aNil))) aNil)) (eSl (eVar 0) (pSome (eC (.int 1))) (pSome (eC (.int 16))))) (F0 ns none none none none none none none none none none none none) [] = .ok ([.int c0] ++ U.cutD (ns.map .int) (some 1) (some 16)) [] :=
    iseq_l (op_ok (lst_ok (cons_ok (call_ok (cons_ok rfl (cons_ok rfl rfl)) ec) rfl) sm) (sl_ok rfl (some_ok rfl) (some_ok rfl) rfl) (add_ls (by
      have h1 := U.cut_len (l := ns.map D.int) (lo := some 1) (hi := some 16)
      rw [List.length_map] at h1
      rw [sizeLine_eq]
      simp only [List.length_cons, List.length_nil]
      omega)))
  obtain ⟨ρ', h', e1, _⟩ := for_heap (t := .nm 1) (s := cbody) (fun ρ _ => ∃ c o2 o3 o4 o5 o6 o7 o8 o9 o10 o11 o12, ρ = F0 ns c o2 o3 o4 o5 o6 o7 o8 o9 o10 o11 o12) ([.int c0] ++ U.cutD (ns.map .int) (some 1) (some 16)) (F0 ns none none none none none none none none none none none none) [] ⟨_, _, _, _, _, _, _, _, _, _, _, _, rfl⟩ (fun d m ρ h i => by
    obtain ⟨c, o2, o3, o4, o5, o6, o7, o8, o9, o10, o11, o12, rfl⟩ := i
    have hd : ∃ c : Int, d = .int c := by
      rcases List.mem_append.mp m with m | m
      · exact ⟨c0, by simpa using m⟩
      · obtain ⟨c, _, rfl⟩ := List.mem_map.mp (U.cut_mem m)
        exact ⟨c, rfl⟩
    obtain ⟨c, rfl⟩ := hd
    obtain ⟨p2, p3, p4, p5, p6, p7, p8, p9, p10, p11, p12, h', e⟩ := r_cellb ns c h o2 o3 o4 o5 o6 o7 o8 o9 o10 o11 o12
    exact ⟨_, _, h', rfl, e, _, _, _, _, _, _, _, _, _, _, _, _, rfl⟩)
  refine ⟨[], run_nil (b := b_law 200) (h' := h') rfl ?_ rfl⟩
  unfold b_law
  simp only [List.map_cons, List.map_nil, List.length_cons, List.length_nil, List.reduceReplicate, List.cons_append, List.nil_append, List.set_cons_zero, List.set_cons_succ, Nat.reduceAdd, Nat.reduceSub, Nat.zero_add]
  exact (seq_nx ((forS_ok ei).trans e1)).trans (ret_ok rfl)
end Gk56
namespace Gk56
open PySem PySem.Spec PyProof.Rows L2 RZ U
def hfn0 : List He.DefD := [⟨("_law_cell_at", none), "_law_cell_at", "_law_cell_at", defArgs s__law_cell_at, defBody s__law_cell_at, defScope s__law_cell_at, [], []⟩, ⟨("_law_mixed", none), "_law_mixed", "_law_mixed", defArgs s__law_mixed, defBody s__law_mixed, defScope s__law_mixed, [], []⟩, ⟨("_law_next", none), "_law_next", "_law_next", defArgs s__law_next, defBody s__law_next, defScope s__law_next, [], []⟩, ⟨("_law_program", none), "_law_program", "_law_program", defArgs s__law_program, defBody s__law_program, defScope s__law_program, [], []⟩, ⟨("_law_worth", none), "_law_worth", "_law_worth", defArgs s__law_worth, defBody s__law_worth, defScope s__law_worth, [], []⟩, ⟨("_law_pieces", none), "_law_pieces", "_law_pieces", defArgs s__law_pieces, defBody s__law_pieces, defScope s__law_pieces, [], []⟩, ⟨("_law_spoilt", none), "_law_spoilt", "_law_spoilt", defArgs s__law_spoilt, defBody s__law_spoilt, defScope s__law_spoilt, [], []⟩, ⟨("_law_is_worth", none), "_law_is_worth", "_law_is_worth", defArgs s__law_is_worth, defBody s__law_is_worth, defScope s__law_is_worth, [], []⟩, ⟨("Kinds", some "is_parts"), "is_parts", "Kinds.is_parts", defArgs s_Kinds_is_parts, defBody s_Kinds_is_parts, defScope s_Kinds_is_parts, [], []⟩, ⟨("Kinds", some "is_whole"), "is_whole", "Kinds.is_whole", defArgs s_Kinds_is_whole, defBody s_Kinds_is_whole, defScope s_Kinds_is_whole, [], []⟩, ⟨("Kinds", some "is_box"), "is_box", "Kinds.is_box", defArgs s_Kinds_is_box, defBody s_Kinds_is_box, defScope s_Kinds_is_box, [], []⟩, ⟨("Kinds", some "pieces"), "pieces", "Kinds.pieces", defArgs s_Kinds_pieces, defBody s_Kinds_pieces, defScope s_Kinds_pieces, [], []⟩, ⟨("is_count", none), "is_count", "is_count", defArgs s_is_count, defBody s_is_count, defScope s_is_count, [], []⟩, ⟨("Kinds", some "rule"), "rule", "Kinds.rule", defArgs s_Kinds_rule, defBody s_Kinds_rule, defScope s_Kinds_rule, [], []⟩, ⟨("Kinds", some "is_worth"), "is_worth", "Kinds.is_worth", defArgs s_Kinds_is_worth, defBody s_Kinds_is_worth, defScope s_Kinds_is_worth, [], []⟩, ⟨("Kinds", some "__init__"), "__init__", "Kinds.__init__", defArgs s_Kinds___init__, defBody s_Kinds___init__, defScope s_Kinds___init__, [], []⟩, ⟨("law", none), "law", "law", defArgs s_law, defBody s_law, defScope s_law, [], []⟩]
def hfn : List He.DefD := hfn0
def hfa0 : List He.Fa := [.free "all", .free "bool", .free "dict", .free "int", .free "isinstance", .free "len", .free "list", .free "range", .free "tuple", .glo "_law_cell_at", .glo "_law_mixed", .glo "_law_next", .glo "_law_program", .glo "_law_worth", .glo "_law_pieces", .glo "_law_spoilt", .glo "_law_is_worth", .glo "Kinds", .cls "Kinds", .meth "Kinds" "is_parts", .meth "Kinds" "is_whole", .meth "Kinds" "is_box", .meth "Kinds" "pieces", .glo "is_count", .meth "Kinds" "rule", .meth "Kinds" "is_worth", .mkr "Kinds", .glo "law", .noat "Kinds" "known"]
def hfa : List He.Fa := hfa0
def hts : List He.Tab := []
def hcl (K : PySem.W.Frag) : Nat → Addr := fun c => match c with | 0 => He.ga K "Kinds" | _ => 0
def hexl (K : PySem.W.Frag) : List Bool := []
def hex (K : PySem.W.Frag) : Bool := (hexl K).all id
theorem hex_at {K : PySem.W.Frag} (h : hex K = true) (i : Nat) {b : Bool} (e : (hexl K)[i]? = some b) : b = true := List.all_eq_true.mp h b (List.mem_of_getElem? e)
abbrev RR : PySem.W.OpenRow := PySem.W.OpenLaw.row PySem.Challenge.rw_usedonce_k56_what_is_a_worth
def htf : List He.Defn := []
abbrev hkk : PySem.W.Hook := He.hookX 6 hfa hfn hts htf hex
def hob (s : PySem.W.SharedT) : He.AlX := He.obsX 6 hfa hfn hts htf hex (HandSHeadRun.getT s)
theorem hob_eq (s : PySem.W.SharedT) : hob s = hkk.obs s.abs := He.obsX_eq (HandSHeadRun.getT_eq s)
def hloose0 : List PySem.Str := [Str.ofString "_wall", Str.ofString "is_count", Str.ofString "Kinds", Str.ofString "_law_cell_at", Str.ofString "_law_mixed", Str.ofString "_law_next", Str.ofString "_law_program", Str.ofString "_law_worth", Str.ofString "_law_spoilt", Str.ofString "_law_is_worth", Str.ofString "_law_pieces"]
def hloose : List PySem.Str := hloose0
theorem hrun0 (w : World) : HandSHeadRun.RunEq RR (PySem.W.view RR.prog [13]) hkk hob 12000 hloose (w.withFollow "special-get-raises" false) := by
  intro os
  kernel_rfl
theorem hrun1 (w : World) : HandSHeadRun.RunEq RR (PySem.W.view RR.prog [13]) hkk hob 12000 hloose (w.withFollow "special-get-raises" true) := by
  intro os
  kernel_rfl
theorem hrun (w : World) : HandSHeadRun.RunEq RR (PySem.W.view RR.prog [13]) hkk hob 12000 hloose w := PySem.W.byRow2 "special-get-raises" (P := fun w => HandSHeadRun.RunEq RR (PySem.W.view RR.prog [13]) hkk hob 12000 hloose w) hrun0 hrun1 w
def hG (K : PySem.W.Frag) (w : World) : Gn := ⟨K, w, hcl K, [], fun _ => ⟨0, [], 0, ""⟩⟩
theorem hfacts {K : PySem.W.Frag} {w : World} {h : Heap} {mg : Str → Option Value} (X : K.In h) (G : h.Ns mainGlobals mg) (cx : He.SaysX hfa hfn hts htf hex w h K) : Hd K w (hG K w) mg where
  u_all := He.free_ok X G (cx.t.d.fact 0 (f := .free "all") rfl)
  u_bool := He.free_ok X G (cx.t.d.fact 1 (f := .free "bool") rfl)
  u_dict := He.free_ok X G (cx.t.d.fact 2 (f := .free "dict") rfl)
  u_int := He.free_ok X G (cx.t.d.fact 3 (f := .free "int") rfl)
  u_isinstance := He.free_ok X G (cx.t.d.fact 4 (f := .free "isinstance") rfl)
  u_len := He.free_ok X G (cx.t.d.fact 5 (f := .free "len") rfl)
  u_list := He.free_ok X G (cx.t.d.fact 6 (f := .free "list") rfl)
  u_range := He.free_ok X G (cx.t.d.fact 7 (f := .free "range") rfl)
  u_tuple := He.free_ok X G (cx.t.d.fact 8 (f := .free "tuple") rfl)
  t_known_Kinds := ⟨fun c hc => by
    simp only [List.mem_cons, List.not_mem_nil, or_false] at hc
    subst hc
    exact ⟨He.cls_ok (cx.t.d.fact 18 (f := .cls "Kinds") rfl), He.noat_ok (cx.t.d.fact 28 (f := .noat "Kinds" "known") rfl)⟩⟩
  f__law_cell_at := by
    obtain ⟨fd, F⟩ := cx.t.d.def_ 0 rfl
    exact ⟨_, fd, F, He.glo_ok X G (cx.t.d.fact 9 (f := .glo "_law_cell_at") rfl)⟩
  f__law_mixed := by
    obtain ⟨fd, F⟩ := cx.t.d.def_ 1 rfl
    exact ⟨_, fd, F, He.glo_ok X G (cx.t.d.fact 10 (f := .glo "_law_mixed") rfl)⟩
  f__law_next := by
    obtain ⟨fd, F⟩ := cx.t.d.def_ 2 rfl
    exact ⟨_, fd, F, He.glo_ok X G (cx.t.d.fact 11 (f := .glo "_law_next") rfl)⟩
  f__law_program := by
    obtain ⟨fd, F⟩ := cx.t.d.def_ 3 rfl
    exact ⟨_, fd, F, He.glo_ok X G (cx.t.d.fact 12 (f := .glo "_law_program") rfl)⟩
  f__law_worth := by
    obtain ⟨fd, F⟩ := cx.t.d.def_ 4 rfl
    exact ⟨_, fd, F, He.glo_ok X G (cx.t.d.fact 13 (f := .glo "_law_worth") rfl)⟩
  f__law_pieces := by
    obtain ⟨fd, F⟩ := cx.t.d.def_ 5 rfl
    exact ⟨_, fd, F, He.glo_ok X G (cx.t.d.fact 14 (f := .glo "_law_pieces") rfl)⟩
  f__law_spoilt := by
    obtain ⟨fd, F⟩ := cx.t.d.def_ 6 rfl
    exact ⟨_, fd, F, He.glo_ok X G (cx.t.d.fact 15 (f := .glo "_law_spoilt") rfl)⟩
  f__law_is_worth := by
    obtain ⟨fd, F⟩ := cx.t.d.def_ 7 rfl
    exact ⟨_, fd, F, He.glo_ok X G (cx.t.d.fact 16 (f := .glo "_law_is_worth") rfl)⟩
  f_Kinds_is_parts := by
    obtain ⟨fd, F⟩ := cx.t.d.def_ 8 rfl
    exact ⟨⟨_, fd, F, He.meth_ok (cx.t.d.fact 19 (f := .meth "Kinds" "is_parts") rfl)⟩, He.cls_ok (cx.t.d.fact 18 (f := .cls "Kinds") rfl)⟩
  f_Kinds_is_whole := by
    obtain ⟨fd, F⟩ := cx.t.d.def_ 9 rfl
    exact ⟨⟨_, fd, F, He.meth_ok (cx.t.d.fact 20 (f := .meth "Kinds" "is_whole") rfl)⟩, He.cls_ok (cx.t.d.fact 18 (f := .cls "Kinds") rfl)⟩
  f_Kinds_is_box := by
    obtain ⟨fd, F⟩ := cx.t.d.def_ 10 rfl
    exact ⟨⟨_, fd, F, He.meth_ok (cx.t.d.fact 21 (f := .meth "Kinds" "is_box") rfl)⟩, He.cls_ok (cx.t.d.fact 18 (f := .cls "Kinds") rfl)⟩
  f_Kinds_pieces := by
    obtain ⟨fd, F⟩ := cx.t.d.def_ 11 rfl
    exact ⟨⟨_, fd, F, He.meth_ok (cx.t.d.fact 22 (f := .meth "Kinds" "pieces") rfl)⟩, He.cls_ok (cx.t.d.fact 18 (f := .cls "Kinds") rfl)⟩
  f_is_count := by
    obtain ⟨fd, F⟩ := cx.t.d.def_ 12 rfl
    exact ⟨_, fd, F, He.glo_ok X G (cx.t.d.fact 23 (f := .glo "is_count") rfl)⟩
  f_Kinds_rule := by
    obtain ⟨fd, F⟩ := cx.t.d.def_ 13 rfl
    exact ⟨⟨_, fd, F, He.meth_ok (cx.t.d.fact 24 (f := .meth "Kinds" "rule") rfl)⟩, He.cls_ok (cx.t.d.fact 18 (f := .cls "Kinds") rfl)⟩
  f_Kinds_is_worth := by
    obtain ⟨fd, F⟩ := cx.t.d.def_ 14 rfl
    exact ⟨⟨_, fd, F, He.meth_ok (cx.t.d.fact 25 (f := .meth "Kinds" "is_worth") rfl)⟩, He.cls_ok (cx.t.d.fact 18 (f := .cls "Kinds") rfl)⟩
  f_Kinds___init__ := by
    obtain ⟨fd, F⟩ := cx.t.d.def_ 15 rfl
    exact ⟨⟨_, fd, F, He.mkr_ok (cx.t.d.fact 26 (f := .mkr "Kinds") rfl)⟩, He.glo_ok X G (cx.t.d.fact 17 (f := .glo "Kinds") rfl)⟩
  f_law := by
    obtain ⟨fd, F⟩ := cx.t.d.def_ 16 rfl
    exact ⟨_, fd, F, He.glo_ok X G (cx.t.d.fact 27 (f := .glo "law") rfl)⟩
end Gk56
open PySem PySem.W PySem.Calls PyProof.Rows
theorem PySem.Challenge.cw_usedonce_k56_what_is_a_worth_holds : PySem.Challenge.rw_usedonce_k56_what_is_a_worth.Holds := by
  w_on; o_law
  refine HandSHeadRun.head_any (r := OpenLaw.row PySem.Challenge.rw_usedonce_k56_what_is_a_worth) (q := view (OpenLaw.row PySem.Challenge.rw_usedonce_k56_what_is_a_worth).prog [13]) (H := Gk56.hkk)
    (ob := Gk56.hob) (M := 12000) (loose := Gk56.hloose) (d := HandSHeadRun.topDef (OpenLaw.row PySem.Challenge.rw_usedonce_k56_what_is_a_worth).prog 13) (kwd := []) Gk56.hob_eq
    (by kernel_rfl) (fun s => by kernel_rfl) Gk56.hrun (by kernel_rfl) (by kernel_rfl) (by kernel_rfl) (by rfl) (by first | assumption | decide +kernel) (by decide +kernel)
    ⟨rfl, rfl, rfl, rfl, rfl, by decide +kernel⟩ ?hw ?hc
  case hw => w_witness2
  case hc =>
    refine U.walk_law (l := PySem.Challenge.rw_usedonce_k56_what_is_a_worth) (n := 63) (x := "_law_script") rfl (by decide) (by kernel_rfl) ?_
    intro w mg fa h Y G hmg0
    obtain ⟨K, KX, c⟩ := Y
    have hmg : mg ("law" : PySem.Str) = some (.ref fa) := by
      have e : (HandSHeadRun.topDef (OpenLaw.row PySem.Challenge.rw_usedonce_k56_what_is_a_worth).prog 13).name = ("law" : PySem.Str) := by kernel_rfl
      rw [← e]
      exact hmg0
    have hd : Gk56.Hd K w (Gk56.hG K w) mg := Gk56.hfacts KX G c
    obtain ⟨f, fd, FL, e⟩ := hd.f_law.ex
    obtain rfl : fa = f := by
      have z := hmg.symm.trans e
      cases z
      rfl
    have b := L2.FunD.bindsA (ps := ["_law_script"]) FL fun _ _ _ _ _ _ us hl => match us, hl with | [_], _ => rfl
    exact ⟨K, Gk56.hG K w, Gk56.m_law 201, 201, fd, Gk56.htf.map (He.cT K), KX, rfl, ⟨rfl, by decide, by decide⟩, U.tf_empty c, U.tf_out c, U.tf_hd KX c, fun q hq => by simp [Gk56.hG] at hq, fun s v => b s [v] rfl, fun ns hl hb => Gk56.plain ns hl hb, fun base _ _ TB => Gk56.okL (G := Gk56.hG K w) hd rfl rfl FL 200⟩
